import PyProof.Rows.All
import Wide.All
import OpenK.AllK
import Wide.FinOn
import KE.BitLaws
import Lean
import PySem.Challenge.RW_sy0009_01
set_option Elab.async false
section
open PySem PySem.W PyProof.Rows
set_option Elab.async false
set_option maxRecDepth 100000
set_option maxHeartbeats 0
set_option linter.all false
namespace Mine
noncomputable section
noncomputable abbrev pr : Program := PySem.Challenge.pw_sy0009_01
noncomputable abbrev z (s : String) : Str := Str.ofString s
noncomputable abbrev hk (P : Params) (x : Str) : Int := PyData.keyHash P x
noncomputable abbrev SR := @PySem.W.Fast.tw10110043849684766642
noncomputable abbrev TT := PySem.W.Fast.tw14364793385576792824
noncomputable def S (i : Nat) : Stmt := match pr.main.body.drop i with
 | s :: _ => s
 | [] => .Pass ⟨0, 0, 0, 0⟩
noncomputable def M (i j : Nat) : Stmt := match S i with
 | .ClassDef _ _ _ b _ _ _ _ _ _ _ => (match b.drop j with
  | s :: _ => s
  | [] => .Pass ⟨0, 0, 0, 0⟩)
 | s => s
noncomputable def fd (s : Stmt) (q : Str) (g : Addr) (dV kV doc pm code ct : Value) (b : Addr) : FuncData := match s with
 | .FunctionDef n a body _ _ _ sc _ _ _ => { name := n, qualname := q, params := a, body := .stmts body, scope := sc, globals := g, closure := [], defaults := dV, kwdefaults := kV, doc := doc, pyModule := pm, annotations := none, code := code, closureTuple := ct, builtins := b }
 | _ => default
noncomputable abbrev N := @BT.node
noncomputable abbrev E := BT.nil
noncomputable def eQ (n : Nat) : BT -> Nat -> Nat -> BT
 | .nil, _, _ => .nil
 | .node v l r, a, b => match Nat.blt b n with
  | true => .node v (eQ n l (2 * a) (a + b)) (eQ n r (2 * a) (2 * a + b))
  | false => .nil
noncomputable def fq : Pos := ⟨0, 0, 0, 0⟩
noncomputable def ev : Env := { scope := pr.main.scope, locals := mainNs, globals := mainNs, cells := [], code := .ref 13, frame := some 14 }
noncomputable abbrev cE : Code := .body (behindTheImports pr) ev
noncomputable def sV (x : String) (t : Nat) : Value := .str (z x) t
noncomputable def iV (n : Int) : Value := .int n 0
noncomputable def rV (a : Nat) : Value := .ref a
noncomputable def eK (P : Params) (x : String) (t : Nat) (v : Value) : DictEntry := ⟨hk P (z x), .str (z x) t, v⟩
noncomputable def oT (l : List Value) : Obj := ⟨.type "tuple", none, .seq ⟨l⟩ 0, ⟨[]⟩⟩
noncomputable def oD (l : List DictEntry) (n : Nat) : Obj := ⟨.type "dict", none, .dict ⟨l⟩ n, ⟨[]⟩⟩
noncomputable def oC (l : List Value) : Obj := ⟨.type "code", none, .fields ⟨l⟩, ⟨[]⟩⟩
noncomputable def oL (l : List Value) : Obj := ⟨.none, none, .fields ⟨l⟩, ⟨[]⟩⟩
noncomputable def oF (s : Stmt) (q : String) (m : Value) (c : Nat) : Obj := ⟨.type "function", none, .func (fd s (z q) 3 .none .none .none m (.ref c) .none 0), ⟨[]⟩⟩
noncomputable def oG (s : Stmt) (q : String) : Obj := ⟨.none, none, .func (fd s (z q) 0 .none .none .none .none .none .none 0), ⟨[]⟩⟩
noncomputable def oM (l : List Value) : Obj := ⟨.type "builtin_function_or_method", none, .fields ⟨l⟩, ⟨[]⟩⟩
noncomputable def o1 (P : Params) : Obj := boot_o_1 P
noncomputable def o2 (P : Params) : Obj := ⟨.none, none, (.dict ⟨[eK P "type.__subclasses__.Exception.0" 229 (iV 38), eK P "type.__subclasses__.Exception.n" 230 (iV 1)]⟩ 2), ⟨[]⟩⟩
def o3 (P : Params) := oD [eK P "__name__" 165 (sV "law_sy0009_01" 1840), eK P "__doc__" 166 .none, eK P "__package__" 167 .none, eK P "__loader__" 168 (.builtin "__main__.__loader__#opaque"), eK P "__spec__" 169 .none, eK P "__annotations__" 170 (rV 6), eK P "__builtins__" 171 (rV 4), eK P "__file__" 173 (sV "/claim/cut.py" 172), eK P "__cached__" 174 .none, eK P "_wall" 193 (rV 21), eK P "W_EMPTY" 197 (.int 2 196), eK P "W_KIND" 199 (.int 5 198), eK P "W_FTN" 201 (.int 9 200), eK P "RuneError" 232 (rV 38), eK P "BadKind" 248 (rV 51), eK P "VOID" 252 (.int 0 251), eK P "BOOL" 254 (.int 1 253), eK P "CHAR" 256 (.int 2 255), eK P "I1" 258 (.int 3 257), eK P "U1" 260 (.int 4 259), eK P "I2" 262 (.int 5 261), eK P "U2" 264 (.int 6 263), eK P "I4" 266 (.int 7 265), eK P "U4" 268 (.int 8 267), eK P "I8" 270 (.int 9 269), eK P "U8" 272 (.int 10 271), eK P "NINT" 274 (.int 11 273), eK P "OBJECT" 276 (.int 12 275), eK P "STRING" 278 (.int 13 277), eK P "NULLK" 280 (.int 14 279), eK P "PRIM_END" 282 (.int 16 281), eK P "R_PRIM" 284 (.int 1 283), eK P "R_CLASS" 286 (.int 2 285), eK P "R_VALUE" 288 (.int 3 287), eK P "R_ARRAY" 290 (.int 4 289), eK P "R_BYREF" 292 (.int 5 291), eK P "R_VAR" 294 (.int 6 293), eK P "R_MVAR" 296 (.int 7 295), eK P "R_BOXED" 298 (.int 8 297), eK P "R_ROREF" 300 (.int 9 299), eK P "R_FTN" 302 (.int 10 301), eK P "R_RAW" 304 (.int 11 303), eK P "DEEPEST_KIND" 306 (.int 24 305), eK P "HEAVIEST_KIND" 308 (.int 4096 307), eK P "PRIM_TID" 337 (rV 54), eK P "TID_PRIM" 366 (rV 55), eK P "ARRAY_TID" 368 (.int 5 367), eK P "PRIM_WORDS" 385 (rV 56), eK P "KindTable" 442 (rV 87), eK P "inner_kinds" 450 (rV 98), eK P "row_level" 457 (rV 105), eK P "row_length" 464 (rV 112), eK P "check_kind_row" 474 (rV 119), eK P "check_named" 482 (rV 126), eK P "check_args" 491 (rV 133), eK P "may_stand" 500 (rV 140), eK P "class_kind" 509 (rV 147), eK P "value_kind" 518 (rV 154), eK P "prim_kind" 526 (rV 161), eK P "kind_sort" 534 (rV 168), eK P "elem_of" 543 (rV 175), eK P "tid_of" 552 (rV 182), eK P "is_value" 560 (rV 189), eK P "is_var" 569 (rV 196), eK P "MOST_SHOWN" 571 (.int 8 570), eK P "AROUND_WORDS" 587 (rV 197), eK P "show_kind" 596 (rV 209), eK P "show_level" 608 (rV 216), eK P "show_parts" 623 (rV 223), eK P "show_core" 637 (rV 230), eK P "show_name" 645 (rV 237), eK P "show_args" 658 (rV 244), eK P "S_DELEGATE" 662 (.int 4 661), eK P "S_ENUM" 664 (.int 5 663), eK P "FF_LITERAL" 666 (.int 4 665), eK P "T_NULLREF" 668 (.int 21 667), eK P "T_TYPE" 670 (.int 51 669), eK P "Store" 704 (rV 261), eK P "type_of" 713 (rV 272), eK P "V_I4" 717 (.int 1 716), eK P "V_I8" 719 (.int 2 718), eK P "V_NINT" 721 (.int 3 720), eK P "V_REF" 723 (.int 4 722), eK P "V_STRUCT" 725 (.int 5 724), eK P "V_FTN" 727 (.int 7 726), eK P "V_TEXT" 729 (.int 8 728), eK P "NULLV" 732 (rV 273), eK P "wrap_bits" 740 (rV 280), eK P "wrap32" 747 (rV 287), eK P "plain_default" 754 (rV 294), eK P "FIRST_ADDRESS" 758 (.int 16 757), eK P "HEAD_WORDS" 760 (.int 2 759), eK P "LEAST_SIZE" 762 (.int 3 761), eK P "words_for" 769 (rV 301), eK P "Thing" 805 (rV 318), eK P "Heap" 846 (rV 339), eK P "heap_alloc" 856 (rV 350), eK P "PlaceHost" 891 (rV 367), eK P "JP_STAY" 896 (.int (-2) 895), eK P "ST_RUN" 898 (.int 0 897), eK P "ST_WRONG" 900 (.int 3 899), eK P "NT_VOID" 903 (.int (-1) 902), eK P "NT_STAY" 906 (.int (-2) 905), eK P "TEXT_NULL" 908 (sV "Object reference not set to an instance of an object." 907), eK P "LOST" 911 (rV 372), eK P "Native" 941 (rV 389), eK P "Starter" 990 (rV 424), eK P "Sweeper" 1018 (rV 445), eK P "KindCloser" 1058 (rV 473), eK P "Tray" 1236 (rV 599), eK P "Shelf" 1354 (rV 669), eK P "note_thrown" 1362 (rV 678), eK P "told_row" 1371 (rV 685), eK P "told_target" 1379 (rV 692), eK P "told_default" 1388 (rV 699), eK P "tell_wrong" 1399 (rV 706), eK P "pop_value" 1407 (rV 713), eK P "first_slots" 1419 (rV 720), eK P "alloc_thing" 1428 (rV 727), eK P "text_held" 1437 (rV 734), eK P "made_text" 1446 (rV 741), eK P "DG_TARGET" 1450 (.int 0 1449), eK P "DG_FTN" 1452 (.int 1 1451), eK P "DG_LIST" 1454 (.int 2 1453), eK P "list_of" 1465 (rV 748), eK P "entry_key" 1474 (rV 755), eK P "keys_of" 1480 (rV 760), eK P "is_delegate" 1489 (rV 767), eK P "delegate_hash" 1502 (rV 774), eK P "delegate_equal" 1511 (rV 781), eK P "N_OBJ_TOSTRING" 1515 (.int 10 1514), eK P "N_OBJ_HASH" 1517 (.int 11 1516), eK P "N_OBJ_GETTYPE" 1519 (.int 12 1518), eK P "N_VT_EQUALS" 1521 (.int 13 1520), eK P "N_VT_HASH" 1523 (.int 14 1522), eK P "bool_value" 1530 (rV 788), eK P "thing_named" 1538 (rV 795), eK P "no_object" 1545 (rV 802), eK P "kind_names" 1554 (rV 809), eK P "kind_text" 1562 (rV 816), eK P "plain_number" 1570 (rV 823), eK P "enum_text" 1582 (rV 830), eK P "thing_text" 1591 (rV 837), eK P "number_hash" 1599 (rV 844), eK P "text_hash" 1608 (rV 851), eK P "is_box" 1616 (rV 858), eK P "own_hash" 1625 (rV 865), eK P "value_hash" 1637 (rV 872), eK P "same_things" 1649 (rV 879), eK P "struct_pairs" 1659 (rV 886), eK P "same_pair" 1669 (rV 893), eK P "same_value" 1685 (rV 900), eK P "ObjectToString" 1712 (rV 917), eK P "ObjectHash" 1739 (rV 936), eK P "ObjectGetType" 1766 (rV 955), eK P "ValueEquals" 1794 (rV 974), eK P "ValueHash" 1821 (rV 993), eK P "install_native_object" 1828 (rV 1002), eK P "new_type" 1839 (rV 1009), eK P "_law_value" 1847 (rV 1014), eK P "_law_canon" 1853 (rV 1019), eK P "_law_new" 1867 (rV 1026), eK P "_law_signed" 1875 (rV 1033), eK P "_law_letters" 1884 (rV 1040), eK P "_law_parts" 1897 (rV 1047), eK P "_law_call" 1906 (rV 1054), eK P "_law_null" 1915 (rV 1061), eK P "_law_ref" 1923 (rV 1068), eK P "_law_equals" 1934 (rV 1075), eK P "_law_marked" 1944 (rV 1082), eK P "_law_number" 1954 (rV 1089), eK P "_law_pair" 1962 (rV 1096), eK P "_law_spec" 1971 (rV 1103), eK P "_law_turned" 1977 (rV 1108), eK P "_law_step" 1992 (rV 1115), eK P "_law_begin" 2003 (rV 1122), eK P "_law_own" 2015 (rV 1129), eK P "law" 2021 (rV 1134)] 178
noncomputable def o4 (P : Params) : Obj := boot_o_4 P
noncomputable def o5 (P : Params) : Obj := boot_o_5 P
def o20 := oC [(sV "_wall" 187), (sV "_wall" 188), (sV "/claim/cut.py" 189), (iV 1), (iV 1), (iV 0), (iV 0), (iV 3), (rV 15), (.bool true), (iV 181), (rV 16), .none, (rV 17), (rV 18), (rV 19), (iV 191), (iV 1), (sV "/claim/cut.py" 192)]
def o21 := oF (S 0) "_wall" (sV "__main__" 164) 20
def o34 := oC [(sV "__init__" 214), (sV "RuneError.__init__" 215), (sV "/claim/cut.py" 216), (iV 10), (iV 3), (iV 0), (iV 0), (iV 3), (rV 29), (.bool true), (iV 181), (rV 30), .none, (rV 31), (rV 32), (rV 33), (iV 220), (iV 10), (sV "/claim/cut.py" 221)]
def o35 := oF (M 5 0) "RuneError.__init__" (sV "framerune.faults" 194) 34
def o37 (P : Params) := oD [eK P "__module__" 209 (sV "framerune.faults" 194), eK P "__firstlineno__" 213 (.int 8 212), eK P "__init__" 222 (rV 35), eK P "__static_attributes__" 225 (rV 36), eK P "__weakref__" 227 (rV 39), eK P "__doc__" 228 .none] 3
noncomputable def o38 : Obj := ⟨(.type "type"), none, (.cls { name := (z "RuneError"), bases := [(.type "Exception")], mro := [(rV 38), (.type "Exception"), (.type "BaseException"), (.type "object")], ns := 37, qualname := (z "RuneError"), hasDict := true, slotNames := [], subclasses := [(rV 51)], abstract := false, collection := none, hasDel := false }), ⟨[(some (rV 22)), none, (some (sV "RuneError" 202)), (some (sV "RuneError" 210)), (some (.builtin "Exception.__new__")), (some (.bool true))]⟩⟩
noncomputable def o39 : Obj := ⟨(.type "getset_descriptor"), none, (.fields ⟨[(sV "__weakref__" 226), (rV 38), (.builtin "ExceptionGroup.__weakref__"), .none]⟩), ⟨[]⟩⟩
def o50 (P : Params) := oD [eK P "__module__" 240 (sV "framerune.faults" 194), eK P "__firstlineno__" 244 (.int 13 243), eK P "__static_attributes__" 245 (rV 49), eK P "__doc__" 246 .none] 2
noncomputable def o51 : Obj := ⟨(.type "type"), none, (.cls { name := (z "BadKind"), bases := [(rV 38)], mro := [(rV 51), (rV 38), (.type "Exception"), (.type "BaseException"), (.type "object")], ns := 50, qualname := (z "BadKind"), hasDict := true, slotNames := [], subclasses := [], abstract := false, collection := none, hasDel := false }), ⟨[(some (rV 42)), none, (some (sV "BadKind" 233)), (some (sV "BadKind" 241)), (some (.builtin "Exception.__new__")), (some (.bool true))]⟩⟩
def o54 := oD [⟨0, (.int 0 251), (.int 20 309)⟩, ⟨1, (.int 1 253), (.int 9 310)⟩, ⟨2, (.int 2 255), (.int 10 311)⟩, ⟨3, (.int 3 257), (.int 11 312)⟩, ⟨4, (.int 4 259), (.int 12 313)⟩, ⟨5, (.int 5 261), (.int 13 314)⟩, ⟨6, (.int 6 263), (.int 14 315)⟩, ⟨7, (.int 7 265), (.int 15 316)⟩, ⟨8, (.int 8 267), (.int 16 317)⟩, ⟨9, (.int 9 269), (.int 17 318)⟩, ⟨10, (.int 10 271), (.int 18 319)⟩, ⟨11, (.int 11 273), (.int 19 320)⟩, ⟨12, (.int 12 275), (.int 1 321)⟩, ⟨13, (.int 13 277), (.int 4 322)⟩] 14
def o55 := oD [⟨20, (.int 20 338), (.int 0 251)⟩, ⟨9, (.int 9 339), (.int 1 253)⟩, ⟨10, (.int 10 340), (.int 2 255)⟩, ⟨11, (.int 11 341), (.int 3 257)⟩, ⟨12, (.int 12 342), (.int 4 259)⟩, ⟨13, (.int 13 343), (.int 5 261)⟩, ⟨14, (.int 14 344), (.int 6 263)⟩, ⟨15, (.int 15 345), (.int 7 265)⟩, ⟨16, (.int 16 346), (.int 8 267)⟩, ⟨17, (.int 17 347), (.int 9 269)⟩, ⟨18, (.int 18 348), (.int 10 271)⟩, ⟨19, (.int 19 349), (.int 11 273)⟩, ⟨1, (.int 1 350), (.int 12 275)⟩, ⟨4, (.int 4 351), (.int 13 277)⟩] 14
def o56 := oT [(sV "void" 369), (sV "bool" 370), (sV "char" 371), (sV "sbyte" 372), (sV "byte" 373), (sV "short" 374), (sV "ushort" 375), (sV "int" 376), (sV "uint" 377), (sV "long" 378), (sV "ulong" 379), (sV "native int" 380), (sV "object" 381), (sV "string" 382), (sV "null" 383), (sV "?" 384)]
def o69 := oC [(sV "__init__" 398), (sV "KindTable.__init__" 399), (sV "/claim/cut.py" 400), (iV 51), (iV 1), (iV 0), (iV 0), (iV 3), (rV 64), (.bool true), (iV 181), (rV 65), .none, (rV 66), (rV 67), (rV 68), (iV 404), (iV 51), (sV "/claim/cut.py" 405)]
def o70 := oF (M 41 0) "KindTable.__init__" (sV "framerune.kinds" 249) 69
def o76 := oC [(sV "row" 407), (sV "KindTable.row" 408), (sV "/claim/cut.py" 409), (iV 65), (iV 2), (iV 0), (iV 0), (iV 3), (rV 71), (.bool true), (iV 181), (rV 72), .none, (rV 73), (rV 74), (rV 75), (iV 412), (iV 65), (sV "/claim/cut.py" 413)]
def o77 := oF (M 41 1) "KindTable.row" (sV "framerune.kinds" 249) 76
def o83 := oC [(sV "put" 415), (sV "KindTable.put" 416), (sV "/claim/cut.py" 417), (iV 70), (iV 2), (iV 0), (iV 0), (iV 3), (rV 78), (.bool true), (iV 181), (rV 79), .none, (rV 80), (rV 81), (rV 82), (iV 427), (iV 70), (sV "/claim/cut.py" 428)]
def o84 := oF (M 41 2) "KindTable.put" (sV "framerune.kinds" 249) 83
def o86 (P : Params) := oD [eK P "__module__" 393 (sV "framerune.kinds" 249), eK P "__firstlineno__" 397 (.int 49 396), eK P "__init__" 406 (rV 70), eK P "row" 414 (rV 77), eK P "put" 429 (rV 84), eK P "__static_attributes__" 435 (rV 85), eK P "__dict__" 437 (rV 88), eK P "__weakref__" 439 (rV 89), eK P "__doc__" 440 .none] 4
noncomputable def o87 : Obj := ⟨(.type "type"), none, (.cls { name := (z "KindTable"), bases := [(.type "object")], mro := [(rV 87), (.type "object")], ns := 86, qualname := (z "KindTable"), hasDict := true, slotNames := [], subclasses := [], abstract := false, collection := none, hasDel := false }), ⟨[none, none, (some (sV "KindTable" 386)), (some (sV "KindTable" 394)), (some (.builtin "object.__new__")), (some (.bool true))]⟩⟩
noncomputable def o88 : Obj := ⟨(.type "getset_descriptor"), none, (.fields ⟨[(sV "__dict__" 436), (rV 87), (.builtin "function.__dict__"), (.builtin "function.__dict__#set")]⟩), ⟨[]⟩⟩
noncomputable def o89 : Obj := ⟨(.type "getset_descriptor"), none, (.fields ⟨[(sV "__weakref__" 438), (rV 87), (.builtin "ExceptionGroup.__weakref__"), .none]⟩), ⟨[]⟩⟩
def o97 := oC [(sV "inner_kinds" 443), (sV "inner_kinds" 444), (sV "/claim/cut.py" 445), (iV 98), (iV 1), (iV 0), (iV 0), (iV 3), (rV 92), (.bool true), (iV 181), (rV 93), .none, (rV 94), (rV 95), (rV 96), (iV 448), (iV 98), (sV "/claim/cut.py" 449)]
def o98 := oF (S 42) "inner_kinds" (sV "framerune.kinds" 249) 97
def o104 := oC [(sV "row_level" 451), (sV "row_level" 452), (sV "/claim/cut.py" 453), (iV 107), (iV 1), (iV 0), (iV 0), (iV 3), (rV 99), (.bool true), (iV 181), (rV 100), .none, (rV 101), (rV 102), (rV 103), (iV 455), (iV 107), (sV "/claim/cut.py" 456)]
def o105 := oF (S 43) "row_level" (sV "framerune.kinds" 249) 104
def o111 := oC [(sV "row_length" 458), (sV "row_length" 459), (sV "/claim/cut.py" 460), (iV 111), (iV 1), (iV 0), (iV 0), (iV 3), (rV 106), (.bool true), (iV 181), (rV 107), .none, (rV 108), (rV 109), (rV 110), (iV 462), (iV 111), (sV "/claim/cut.py" 463)]
def o112 := oF (S 44) "row_length" (sV "framerune.kinds" 249) 111
def o118 := oC [(sV "check_kind_row" 465), (sV "check_kind_row" 466), (sV "/claim/cut.py" 467), (iV 117), (iV 2), (iV 0), (iV 0), (iV 3), (rV 113), (.bool true), (iV 181), (rV 114), .none, (rV 115), (rV 116), (rV 117), (iV 472), (iV 117), (sV "/claim/cut.py" 473)]
def o119 := oF (S 45) "check_kind_row" (sV "framerune.kinds" 249) 118
def o125 := oC [(sV "check_named" 475), (sV "check_named" 476), (sV "/claim/cut.py" 477), (iV 139), (iV 2), (iV 0), (iV 0), (iV 3), (rV 120), (.bool true), (iV 181), (rV 121), .none, (rV 122), (rV 123), (rV 124), (iV 480), (iV 139), (sV "/claim/cut.py" 481)]
def o126 := oF (S 46) "check_named" (sV "framerune.kinds" 249) 125
def o132 := oC [(sV "check_args" 483), (sV "check_args" 484), (sV "/claim/cut.py" 485), (iV 143), (iV 2), (iV 0), (iV 0), (iV 3), (rV 127), (.bool true), (iV 181), (rV 128), .none, (rV 129), (rV 130), (rV 131), (iV 489), (iV 143), (sV "/claim/cut.py" 490)]
def o133 := oF (S 47) "check_args" (sV "framerune.kinds" 249) 132
def o139 := oC [(sV "may_stand" 492), (sV "may_stand" 493), (sV "/claim/cut.py" 494), (iV 147), (iV 2), (iV 0), (iV 0), (iV 3), (rV 134), (.bool true), (iV 181), (rV 135), .none, (rV 136), (rV 137), (rV 138), (iV 498), (iV 147), (sV "/claim/cut.py" 499)]
def o140 := oF (S 48) "may_stand" (sV "framerune.kinds" 249) 139
def o146 := oC [(sV "class_kind" 501), (sV "class_kind" 502), (sV "/claim/cut.py" 503), (iV 152), (iV 3), (iV 0), (iV 0), (iV 3), (rV 141), (.bool true), (iV 181), (rV 142), .none, (rV 143), (rV 144), (rV 145), (iV 507), (iV 152), (sV "/claim/cut.py" 508)]
def o147 := oF (S 49) "class_kind" (sV "framerune.kinds" 249) 146
def o153 := oC [(sV "value_kind" 510), (sV "value_kind" 511), (sV "/claim/cut.py" 512), (iV 156), (iV 3), (iV 0), (iV 0), (iV 3), (rV 148), (.bool true), (iV 181), (rV 149), .none, (rV 150), (rV 151), (rV 152), (iV 516), (iV 156), (sV "/claim/cut.py" 517)]
def o154 := oF (S 50) "value_kind" (sV "framerune.kinds" 249) 153
def o160 := oC [(sV "prim_kind" 519), (sV "prim_kind" 520), (sV "/claim/cut.py" 521), (iV 160), (iV 2), (iV 0), (iV 0), (iV 3), (rV 155), (.bool true), (iV 181), (rV 156), .none, (rV 157), (rV 158), (rV 159), (iV 524), (iV 160), (sV "/claim/cut.py" 525)]
def o161 := oF (S 51) "prim_kind" (sV "framerune.kinds" 249) 160
def o167 := oC [(sV "kind_sort" 527), (sV "kind_sort" 528), (sV "/claim/cut.py" 529), (iV 164), (iV 2), (iV 0), (iV 0), (iV 3), (rV 162), (.bool true), (iV 181), (rV 163), .none, (rV 164), (rV 165), (rV 166), (iV 532), (iV 164), (sV "/claim/cut.py" 533)]
def o168 := oF (S 52) "kind_sort" (sV "framerune.kinds" 249) 167
def o174 := oC [(sV "elem_of" 535), (sV "elem_of" 536), (sV "/claim/cut.py" 537), (iV 166), (iV 2), (iV 0), (iV 0), (iV 3), (rV 169), (.bool true), (iV 181), (rV 170), .none, (rV 171), (rV 172), (rV 173), (iV 541), (iV 166), (sV "/claim/cut.py" 542)]
def o175 := oF (S 53) "elem_of" (sV "framerune.kinds" 249) 174
def o181 := oC [(sV "tid_of" 544), (sV "tid_of" 545), (sV "/claim/cut.py" 546), (iV 171), (iV 2), (iV 0), (iV 0), (iV 3), (rV 176), (.bool true), (iV 181), (rV 177), .none, (rV 178), (rV 179), (rV 180), (iV 550), (iV 171), (sV "/claim/cut.py" 551)]
def o182 := oF (S 54) "tid_of" (sV "framerune.kinds" 249) 181
def o188 := oC [(sV "is_value" 553), (sV "is_value" 554), (sV "/claim/cut.py" 555), (iV 180), (iV 2), (iV 0), (iV 0), (iV 3), (rV 183), (.bool true), (iV 181), (rV 184), .none, (rV 185), (rV 186), (rV 187), (iV 558), (iV 180), (sV "/claim/cut.py" 559)]
def o189 := oF (S 55) "is_value" (sV "framerune.kinds" 249) 188
def o195 := oC [(sV "is_var" 561), (sV "is_var" 562), (sV "/claim/cut.py" 563), (iV 184), (iV 2), (iV 0), (iV 0), (iV 3), (rV 190), (.bool true), (iV 181), (rV 191), .none, (rV 192), (rV 193), (rV 194), (iV 567), (iV 184), (sV "/claim/cut.py" 568)]
def o196 := oF (S 56) "is_var" (sV "framerune.kinds" 249) 195
def o197 := oD [⟨4, (.int 4 289), (rV 198)⟩, ⟨5, (.int 5 291), (rV 199)⟩, ⟨8, (.int 8 297), (rV 200)⟩, ⟨9, (.int 9 299), (rV 201)⟩, ⟨11, (.int 11 303), (rV 202)⟩] 5
def o198 := oT [(sV "" 572), (sV "[]" 573)]
def o199 := oT [(sV "" 574), (sV "&" 575)]
def o200 := oT [(sV "boxed " 576), (sV "" 577)]
def o201 := oT [(sV "readonly " 578), (sV "&" 579)]
def o202 := oT [(sV "raw " 580), (sV "" 581)]
def o208 := oC [(sV "show_kind" 588), (sV "show_kind" 589), (sV "/claim/cut.py" 590), (iV 189), (iV 3), (iV 0), (iV 0), (iV 3), (rV 203), (.bool true), (iV 181), (rV 204), .none, (rV 205), (rV 206), (rV 207), (iV 594), (iV 189), (sV "/claim/cut.py" 595)]
def o209 := oF (S 59) "show_kind" (sV "framerune.kinds" 249) 208
def o215 := oC [(sV "show_level" 597), (sV "show_level" 598), (sV "/claim/cut.py" 599), (iV 191), (iV 5), (iV 0), (iV 0), (iV 3), (rV 210), (.bool true), (iV 181), (rV 211), .none, (rV 212), (rV 213), (rV 214), (iV 606), (iV 191), (sV "/claim/cut.py" 607)]
def o216 := oF (S 60) "show_level" (sV "framerune.kinds" 249) 215
def o222 := oC [(sV "show_parts" 609), (sV "show_parts" 610), (sV "/claim/cut.py" 611), (iV 196), (iV 5), (iV 0), (iV 0), (iV 3), (rV 217), (.bool true), (iV 181), (rV 218), .none, (rV 219), (rV 220), (rV 221), (iV 621), (iV 196), (sV "/claim/cut.py" 622)]
def o223 := oF (S 61) "show_parts" (sV "framerune.kinds" 249) 222
def o229 := oC [(sV "show_core" 624), (sV "show_core" 625), (sV "/claim/cut.py" 626), (iV 207), (iV 6), (iV 0), (iV 0), (iV 3), (rV 224), (.bool true), (iV 181), (rV 225), .none, (rV 226), (rV 227), (rV 228), (iV 635), (iV 207), (sV "/claim/cut.py" 636)]
def o230 := oF (S 62) "show_core" (sV "framerune.kinds" 249) 229
def o236 := oC [(sV "show_name" 638), (sV "show_name" 639), (sV "/claim/cut.py" 640), (iV 219), (iV 2), (iV 0), (iV 0), (iV 3), (rV 231), (.bool true), (iV 181), (rV 232), .none, (rV 233), (rV 234), (rV 235), (iV 643), (iV 219), (sV "/claim/cut.py" 644)]
def o237 := oF (S 63) "show_name" (sV "framerune.kinds" 249) 236
def o243 := oC [(sV "show_args" 646), (sV "show_args" 647), (sV "/claim/cut.py" 648), (iV 223), (iV 5), (iV 0), (iV 0), (iV 3), (rV 238), (.bool true), (iV 181), (rV 239), .none, (rV 240), (rV 241), (rV 242), (iV 656), (iV 223), (sV "/claim/cut.py" 657)]
def o244 := oF (S 64) "show_args" (sV "framerune.kinds" 249) 243
def o257 := oC [(sV "__init__" 683), (sV "Store.__init__" 684), (sV "/claim/cut.py" 685), (iV 240), (iV 1), (iV 0), (iV 0), (iV 3), (rV 252), (.bool true), (iV 181), (rV 253), .none, (rV 254), (rV 255), (rV 256), (iV 687), (iV 240), (sV "/claim/cut.py" 688)]
def o258 := oF (M 71 0) "Store.__init__" (sV "framerune.store" 659) 257
def o260 (P : Params) := oD [eK P "__module__" 678 (sV "framerune.store" 659), eK P "__firstlineno__" 682 (.int 238 681), eK P "__init__" 689 (rV 258), eK P "__static_attributes__" 697 (rV 259), eK P "__dict__" 699 (rV 262), eK P "__weakref__" 701 (rV 263), eK P "__doc__" 702 .none] 4
noncomputable def o261 : Obj := ⟨(.type "type"), none, (.cls { name := (z "Store"), bases := [(.type "object")], mro := [(rV 261), (.type "object")], ns := 260, qualname := (z "Store"), hasDict := true, slotNames := [], subclasses := [], abstract := false, collection := none, hasDel := false }), ⟨[none, none, (some (sV "Store" 671)), (some (sV "Store" 679)), (some (.builtin "object.__new__")), (some (.bool true))]⟩⟩
noncomputable def o262 : Obj := ⟨(.type "getset_descriptor"), none, (.fields ⟨[(sV "__dict__" 698), (rV 261), (.builtin "function.__dict__"), (.builtin "function.__dict__#set")]⟩), ⟨[]⟩⟩
noncomputable def o263 : Obj := ⟨(.type "getset_descriptor"), none, (.fields ⟨[(sV "__weakref__" 700), (rV 261), (.builtin "ExceptionGroup.__weakref__"), .none]⟩), ⟨[]⟩⟩
def o271 := oC [(sV "type_of" 705), (sV "type_of" 706), (sV "/claim/cut.py" 707), (iV 248), (iV 2), (iV 0), (iV 0), (iV 3), (rV 266), (.bool true), (iV 181), (rV 267), .none, (rV 268), (rV 269), (rV 270), (iV 711), (iV 248), (sV "/claim/cut.py" 712)]
def o272 := oF (S 72) "type_of" (sV "framerune.store" 659) 271
def o273 := oT [(.int 4 730), (.int 0 731)]
def o279 := oC [(sV "wrap_bits" 733), (sV "wrap_bits" 734), (sV "/claim/cut.py" 735), (iV 262), (iV 2), (iV 0), (iV 0), (iV 3), (rV 274), (.bool true), (iV 181), (rV 275), .none, (rV 276), (rV 277), (rV 278), (iV 738), (iV 262), (sV "/claim/cut.py" 739)]
def o280 := oF (S 82) "wrap_bits" (sV "framerune.values" 714) 279
def o286 := oC [(sV "wrap32" 741), (sV "wrap32" 742), (sV "/claim/cut.py" 743), (iV 267), (iV 1), (iV 0), (iV 0), (iV 3), (rV 281), (.bool true), (iV 181), (rV 282), .none, (rV 283), (rV 284), (rV 285), (iV 745), (iV 267), (sV "/claim/cut.py" 746)]
def o287 := oF (S 83) "wrap32" (sV "framerune.values" 714) 286
def o293 := oC [(sV "plain_default" 748), (sV "plain_default" 749), (sV "/claim/cut.py" 750), (iV 269), (iV 1), (iV 0), (iV 0), (iV 3), (rV 288), (.bool true), (iV 181), (rV 289), .none, (rV 290), (rV 291), (rV 292), (iV 752), (iV 269), (sV "/claim/cut.py" 753)]
def o294 := oF (S 84) "plain_default" (sV "framerune.values" 714) 293
def o300 := oC [(sV "words_for" 763), (sV "words_for" 764), (sV "/claim/cut.py" 765), (iV 281), (iV 1), (iV 0), (iV 0), (iV 3), (rV 295), (.bool true), (iV 181), (rV 296), .none, (rV 297), (rV 298), (rV 299), (iV 767), (iV 281), (sV "/claim/cut.py" 768)]
def o301 := oF (S 89) "words_for" (sV "framerune.heap" 755) 300
def o314 := oC [(sV "__init__" 782), (sV "Thing.__init__" 783), (sV "/claim/cut.py" 784), (iV 287), (iV 4), (iV 0), (iV 0), (iV 3), (rV 309), (.bool true), (iV 181), (rV 310), .none, (rV 311), (rV 312), (rV 313), (iV 789), (iV 287), (sV "/claim/cut.py" 790)]
def o315 := oF (M 90 0) "Thing.__init__" (sV "framerune.heap" 755) 314
def o317 (P : Params) := oD [eK P "__module__" 777 (sV "framerune.heap" 755), eK P "__firstlineno__" 781 (.int 285 780), eK P "__init__" 791 (rV 315), eK P "__static_attributes__" 798 (rV 316), eK P "__dict__" 800 (rV 319), eK P "__weakref__" 802 (rV 320), eK P "__doc__" 803 .none] 4
noncomputable def o318 : Obj := ⟨(.type "type"), none, (.cls { name := (z "Thing"), bases := [(.type "object")], mro := [(rV 318), (.type "object")], ns := 317, qualname := (z "Thing"), hasDict := true, slotNames := [], subclasses := [], abstract := false, collection := none, hasDel := false }), ⟨[none, none, (some (sV "Thing" 770)), (some (sV "Thing" 778)), (some (.builtin "object.__new__")), (some (.bool true))]⟩⟩
noncomputable def o319 : Obj := ⟨(.type "getset_descriptor"), none, (.fields ⟨[(sV "__dict__" 799), (rV 318), (.builtin "function.__dict__"), (.builtin "function.__dict__#set")]⟩), ⟨[]⟩⟩
noncomputable def o320 : Obj := ⟨(.type "getset_descriptor"), none, (.fields ⟨[(sV "__weakref__" 801), (rV 318), (.builtin "ExceptionGroup.__weakref__"), .none]⟩), ⟨[]⟩⟩
def o335 := oC [(sV "__init__" 818), (sV "Heap.__init__" 819), (sV "/claim/cut.py" 820), (iV 296), (iV 3), (iV 0), (iV 0), (iV 3), (rV 330), (.bool true), (iV 181), (rV 331), .none, (rV 332), (rV 333), (rV 334), (iV 824), (iV 296), (sV "/claim/cut.py" 825)]
def o336 := oF (M 91 0) "Heap.__init__" (sV "framerune.heap" 755) 335
def o338 (P : Params) := oD [eK P "__module__" 813 (sV "framerune.heap" 755), eK P "__firstlineno__" 817 (.int 294 816), eK P "__init__" 826 (rV 336), eK P "__static_attributes__" 839 (rV 337), eK P "__dict__" 841 (rV 340), eK P "__weakref__" 843 (rV 341), eK P "__doc__" 844 .none] 4
noncomputable def o339 : Obj := ⟨(.type "type"), none, (.cls { name := (z "Heap"), bases := [(.type "object")], mro := [(rV 339), (.type "object")], ns := 338, qualname := (z "Heap"), hasDict := true, slotNames := [], subclasses := [], abstract := false, collection := none, hasDel := false }), ⟨[none, none, (some (sV "Heap" 806)), (some (sV "Heap" 814)), (some (.builtin "object.__new__")), (some (.bool true))]⟩⟩
noncomputable def o340 : Obj := ⟨(.type "getset_descriptor"), none, (.fields ⟨[(sV "__dict__" 840), (rV 339), (.builtin "function.__dict__"), (.builtin "function.__dict__#set")]⟩), ⟨[]⟩⟩
noncomputable def o341 : Obj := ⟨(.type "getset_descriptor"), none, (.fields ⟨[(sV "__weakref__" 842), (rV 339), (.builtin "ExceptionGroup.__weakref__"), .none]⟩), ⟨[]⟩⟩
def o349 := oC [(sV "heap_alloc" 847), (sV "heap_alloc" 848), (sV "/claim/cut.py" 849), (iV 309), (iV 3), (iV 0), (iV 0), (iV 3), (rV 344), (.bool true), (iV 181), (rV 345), .none, (rV 346), (rV 347), (rV 348), (iV 854), (iV 309), (sV "/claim/cut.py" 855)]
def o350 := oF (S 92) "heap_alloc" (sV "framerune.heap" 755) 349
def o363 := oC [(sV "__init__" 871), (sV "PlaceHost.__init__" 872), (sV "/claim/cut.py" 873), (iV 321), (iV 4), (iV 0), (iV 0), (iV 3), (rV 358), (.bool true), (iV 181), (rV 359), .none, (rV 360), (rV 361), (rV 362), (iV 878), (iV 321), (sV "/claim/cut.py" 879)]
def o364 := oF (M 94 0) "PlaceHost.__init__" (sV "framerune.places" 857) 363
def o366 (P : Params) := oD [eK P "__module__" 866 (sV "framerune.places" 857), eK P "__firstlineno__" 870 (.int 319 869), eK P "__init__" 880 (rV 364), eK P "__static_attributes__" 884 (rV 365), eK P "__dict__" 886 (rV 368), eK P "__weakref__" 888 (rV 369), eK P "__doc__" 889 .none] 4
noncomputable def o367 : Obj := ⟨(.type "type"), none, (.cls { name := (z "PlaceHost"), bases := [(.type "object")], mro := [(rV 367), (.type "object")], ns := 366, qualname := (z "PlaceHost"), hasDict := true, slotNames := [], subclasses := [], abstract := false, collection := none, hasDel := false }), ⟨[none, none, (some (sV "PlaceHost" 859)), (some (sV "PlaceHost" 867)), (some (.builtin "object.__new__")), (some (.bool true))]⟩⟩
noncomputable def o368 : Obj := ⟨(.type "getset_descriptor"), none, (.fields ⟨[(sV "__dict__" 885), (rV 367), (.builtin "function.__dict__"), (.builtin "function.__dict__#set")]⟩), ⟨[]⟩⟩
noncomputable def o369 : Obj := ⟨(.type "getset_descriptor"), none, (.fields ⟨[(sV "__weakref__" 887), (rV 367), (.builtin "ExceptionGroup.__weakref__"), .none]⟩), ⟨[]⟩⟩
def o372 := oT [(.int 0 909), (.int 0 910)]
def o385 := oC [(sV "call" 924), (sV "Native.call" 925), (sV "/claim/cut.py" 926), (iV 335), (iV 4), (iV 0), (iV 0), (iV 3), (rV 380), (.bool true), (iV 181), (rV 381), .none, (rV 382), (rV 383), (rV 384), (iV 931), (iV 335), (sV "/claim/cut.py" 932)]
def o386 := oF (M 103 0) "Native.call" (sV "framerune.mbase" 892) 385
def o388 (P : Params) := oD [eK P "__module__" 919 (sV "framerune.mbase" 892), eK P "__firstlineno__" 923 (.int 333 922), eK P "call" 933 (rV 386), eK P "__static_attributes__" 934 (rV 387), eK P "__dict__" 936 (rV 390), eK P "__weakref__" 938 (rV 391), eK P "__doc__" 939 .none] 4
noncomputable def o389 : Obj := ⟨(.type "type"), none, (.cls { name := (z "Native"), bases := [(.type "object")], mro := [(rV 389), (.type "object")], ns := 388, qualname := (z "Native"), hasDict := true, slotNames := [], subclasses := [(rV 917), (rV 936), (rV 955), (rV 974), (rV 993)], abstract := false, collection := none, hasDel := false }), ⟨[none, none, (some (sV "Native" 912)), (some (sV "Native" 920)), (some (.builtin "object.__new__")), (some (.bool true))]⟩⟩
noncomputable def o390 : Obj := ⟨(.type "getset_descriptor"), none, (.fields ⟨[(sV "__dict__" 935), (rV 389), (.builtin "function.__dict__"), (.builtin "function.__dict__#set")]⟩), ⟨[]⟩⟩
noncomputable def o391 : Obj := ⟨(.type "getset_descriptor"), none, (.fields ⟨[(sV "__weakref__" 937), (rV 389), (.builtin "ExceptionGroup.__weakref__"), .none]⟩), ⟨[]⟩⟩
def o406 := oC [(sV "need" 954), (sV "Starter.need" 955), (sV "/claim/cut.py" 956), (iV 339), (iV 4), (iV 0), (iV 0), (iV 3), (rV 401), (.bool true), (iV 181), (rV 402), .none, (rV 403), (rV 404), (rV 405), (iV 961), (iV 339), (sV "/claim/cut.py" 962)]
def o407 := oF (M 104 0) "Starter.need" (sV "framerune.mbase" 892) 406
def o413 := oC [(sV "done" 964), (sV "Starter.done" 965), (sV "/claim/cut.py" 966), (iV 342), (iV 3), (iV 0), (iV 0), (iV 3), (rV 408), (.bool true), (iV 181), (rV 409), .none, (rV 410), (rV 411), (rV 412), (iV 970), (iV 342), (sV "/claim/cut.py" 971)]
def o414 := oF (M 104 1) "Starter.done" (sV "framerune.mbase" 892) 413
def o420 := oC [(sV "failed" 973), (sV "Starter.failed" 974), (sV "/claim/cut.py" 975), (iV 345), (iV 4), (iV 0), (iV 0), (iV 3), (rV 415), (.bool true), (iV 181), (rV 416), .none, (rV 417), (rV 418), (rV 419), (iV 980), (iV 345), (sV "/claim/cut.py" 981)]
def o421 := oF (M 104 2) "Starter.failed" (sV "framerune.mbase" 892) 420
def o423 (P : Params) := oD [eK P "__module__" 949 (sV "framerune.mbase" 892), eK P "__firstlineno__" 953 (.int 337 952), eK P "need" 963 (rV 407), eK P "done" 972 (rV 414), eK P "failed" 982 (rV 421), eK P "__static_attributes__" 983 (rV 422), eK P "__dict__" 985 (rV 425), eK P "__weakref__" 987 (rV 426), eK P "__doc__" 988 .none] 4
noncomputable def o424 : Obj := ⟨(.type "type"), none, (.cls { name := (z "Starter"), bases := [(.type "object")], mro := [(rV 424), (.type "object")], ns := 423, qualname := (z "Starter"), hasDict := true, slotNames := [], subclasses := [], abstract := false, collection := none, hasDel := false }), ⟨[none, none, (some (sV "Starter" 942)), (some (sV "Starter" 950)), (some (.builtin "object.__new__")), (some (.bool true))]⟩⟩
noncomputable def o425 : Obj := ⟨(.type "getset_descriptor"), none, (.fields ⟨[(sV "__dict__" 984), (rV 424), (.builtin "function.__dict__"), (.builtin "function.__dict__#set")]⟩), ⟨[]⟩⟩
noncomputable def o426 : Obj := ⟨(.type "getset_descriptor"), none, (.fields ⟨[(sV "__weakref__" 986), (rV 424), (.builtin "ExceptionGroup.__weakref__"), .none]⟩), ⟨[]⟩⟩
def o441 := oC [(sV "before" 1003), (sV "Sweeper.before" 1004), (sV "/claim/cut.py" 1005), (iV 349), (iV 2), (iV 0), (iV 0), (iV 3), (rV 436), (.bool true), (iV 181), (rV 437), .none, (rV 438), (rV 439), (rV 440), (iV 1008), (iV 349), (sV "/claim/cut.py" 1009)]
def o442 := oF (M 105 0) "Sweeper.before" (sV "framerune.mbase" 892) 441
def o444 (P : Params) := oD [eK P "__module__" 998 (sV "framerune.mbase" 892), eK P "__firstlineno__" 1002 (.int 347 1001), eK P "before" 1010 (rV 442), eK P "__static_attributes__" 1011 (rV 443), eK P "__dict__" 1013 (rV 446), eK P "__weakref__" 1015 (rV 447), eK P "__doc__" 1016 .none] 4
noncomputable def o445 : Obj := ⟨(.type "type"), none, (.cls { name := (z "Sweeper"), bases := [(.type "object")], mro := [(rV 445), (.type "object")], ns := 444, qualname := (z "Sweeper"), hasDict := true, slotNames := [], subclasses := [], abstract := false, collection := none, hasDel := false }), ⟨[none, none, (some (sV "Sweeper" 991)), (some (sV "Sweeper" 999)), (some (.builtin "object.__new__")), (some (.bool true))]⟩⟩
noncomputable def o446 : Obj := ⟨(.type "getset_descriptor"), none, (.fields ⟨[(sV "__dict__" 1012), (rV 445), (.builtin "function.__dict__"), (.builtin "function.__dict__#set")]⟩), ⟨[]⟩⟩
noncomputable def o447 : Obj := ⟨(.type "getset_descriptor"), none, (.fields ⟨[(sV "__weakref__" 1014), (rV 445), (.builtin "ExceptionGroup.__weakref__"), .none]⟩), ⟨[]⟩⟩
def o462 := oC [(sV "kind" 1031), (sV "KindCloser.kind" 1032), (sV "/claim/cut.py" 1033), (iV 353), (iV 4), (iV 0), (iV 0), (iV 3), (rV 457), (.bool true), (iV 181), (rV 458), .none, (rV 459), (rV 460), (rV 461), (iV 1038), (iV 353), (sV "/claim/cut.py" 1039)]
def o463 := oF (M 106 0) "KindCloser.kind" (sV "framerune.mbase" 892) 462
def o469 := oC [(sV "ref" 1041), (sV "KindCloser.ref" 1042), (sV "/claim/cut.py" 1043), (iV 356), (iV 4), (iV 0), (iV 0), (iV 3), (rV 464), (.bool true), (iV 181), (rV 465), .none, (rV 466), (rV 467), (rV 468), (iV 1048), (iV 356), (sV "/claim/cut.py" 1049)]
def o470 := oF (M 106 1) "KindCloser.ref" (sV "framerune.mbase" 892) 469
def o472 (P : Params) := oD [eK P "__module__" 1026 (sV "framerune.mbase" 892), eK P "__firstlineno__" 1030 (.int 351 1029), eK P "kind" 1040 (rV 463), eK P "ref" 1050 (rV 470), eK P "__static_attributes__" 1051 (rV 471), eK P "__dict__" 1053 (rV 474), eK P "__weakref__" 1055 (rV 475), eK P "__doc__" 1056 .none] 4
noncomputable def o473 : Obj := ⟨(.type "type"), none, (.cls { name := (z "KindCloser"), bases := [(.type "object")], mro := [(rV 473), (.type "object")], ns := 472, qualname := (z "KindCloser"), hasDict := true, slotNames := [], subclasses := [], abstract := false, collection := none, hasDel := false }), ⟨[none, none, (some (sV "KindCloser" 1019)), (some (sV "KindCloser" 1027)), (some (.builtin "object.__new__")), (some (.bool true))]⟩⟩
noncomputable def o474 : Obj := ⟨(.type "getset_descriptor"), none, (.fields ⟨[(sV "__dict__" 1052), (rV 473), (.builtin "function.__dict__"), (.builtin "function.__dict__#set")]⟩), ⟨[]⟩⟩
noncomputable def o475 : Obj := ⟨(.type "getset_descriptor"), none, (.fields ⟨[(sV "__weakref__" 1054), (rV 473), (.builtin "ExceptionGroup.__weakref__"), .none]⟩), ⟨[]⟩⟩
def o490 := oC [(sV "__init__" 1071), (sV "Tray.__init__" 1072), (sV "/claim/cut.py" 1073), (iV 360), (iV 3), (iV 0), (iV 0), (iV 3), (rV 485), (.bool true), (iV 181), (rV 486), .none, (rV 487), (rV 488), (rV 489), (iV 1077), (iV 360), (sV "/claim/cut.py" 1078)]
def o491 := oF (M 107 0) "Tray.__init__" (sV "framerune.mbase" 892) 490
def o497 := oC [(sV "is_a" 1080), (sV "Tray.is_a" 1081), (sV "/claim/cut.py" 1082), (iV 383), (iV 3), (iV 0), (iV 0), (iV 3), (rV 492), (.bool true), (iV 181), (rV 493), .none, (rV 494), (rV 495), (rV 496), (iV 1086), (iV 383), (sV "/claim/cut.py" 1087)]
def o498 := oF (M 107 1) "Tray.is_a" (sV "framerune.mbase" 892) 497
def o504 := oC [(sV "slots_of" 1089), (sV "Tray.slots_of" 1090), (sV "/claim/cut.py" 1091), (iV 386), (iV 2), (iV 0), (iV 0), (iV 3), (rV 499), (.bool true), (iV 181), (rV 500), .none, (rV 501), (rV 502), (rV 503), (iV 1094), (iV 386), (sV "/claim/cut.py" 1095)]
def o505 := oF (M 107 2) "Tray.slots_of" (sV "framerune.mbase" 892) 504
def o511 := oC [(sV "kinds_of" 1097), (sV "Tray.kinds_of" 1098), (sV "/claim/cut.py" 1099), (iV 389), (iV 2), (iV 0), (iV 0), (iV 3), (rV 506), (.bool true), (iV 181), (rV 507), .none, (rV 508), (rV 509), (rV 510), (iV 1102), (iV 389), (sV "/claim/cut.py" 1103)]
def o512 := oF (M 107 3) "Tray.kinds_of" (sV "framerune.mbase" 892) 511
def o518 := oC [(sV "skinds_of" 1105), (sV "Tray.skinds_of" 1106), (sV "/claim/cut.py" 1107), (iV 392), (iV 2), (iV 0), (iV 0), (iV 3), (rV 513), (.bool true), (iV 181), (rV 514), .none, (rV 515), (rV 516), (rV 517), (iV 1110), (iV 392), (sV "/claim/cut.py" 1111)]
def o519 := oF (M 107 4) "Tray.skinds_of" (sV "framerune.mbase" 892) 518
def o525 := oC [(sV "slot_place" 1113), (sV "Tray.slot_place" 1114), (sV "/claim/cut.py" 1115), (iV 395), (iV 2), (iV 0), (iV 0), (iV 3), (rV 520), (.bool true), (iV 181), (rV 521), .none, (rV 522), (rV 523), (rV 524), (iV 1118), (iV 395), (sV "/claim/cut.py" 1119)]
def o526 := oF (M 107 5) "Tray.slot_place" (sV "framerune.mbase" 892) 525
def o532 := oC [(sV "target" 1121), (sV "Tray.target" 1122), (sV "/claim/cut.py" 1123), (iV 398), (iV 3), (iV 0), (iV 0), (iV 3), (rV 527), (.bool true), (iV 181), (rV 528), .none, (rV 529), (rV 530), (rV 531), (iV 1127), (iV 398), (sV "/claim/cut.py" 1128)]
def o533 := oF (M 107 6) "Tray.target" (sV "framerune.mbase" 892) 532
def o539 := oC [(sV "default" 1130), (sV "Tray.default" 1131), (sV "/claim/cut.py" 1132), (iV 401), (iV 2), (iV 0), (iV 0), (iV 3), (rV 534), (.bool true), (iV 181), (rV 535), .none, (rV 536), (rV 537), (rV 538), (iV 1135), (iV 401), (sV "/claim/cut.py" 1136)]
def o540 := oF (M 107 7) "Tray.default" (sV "framerune.mbase" 892) 539
def o546 := oC [(sV "plain" 1138), (sV "Tray.plain" 1139), (sV "/claim/cut.py" 1140), (iV 404), (iV 2), (iV 0), (iV 0), (iV 3), (rV 541), (.bool true), (iV 181), (rV 542), .none, (rV 543), (rV 544), (rV 545), (iV 1143), (iV 404), (sV "/claim/cut.py" 1144)]
def o547 := oF (M 107 8) "Tray.plain" (sV "framerune.mbase" 892) 546
def o553 := oC [(sV "closed" 1146), (sV "Tray.closed" 1147), (sV "/claim/cut.py" 1148), (iV 407), (iV 3), (iV 0), (iV 0), (iV 3), (rV 548), (.bool true), (iV 181), (rV 549), .none, (rV 550), (rV 551), (rV 552), (iV 1152), (iV 407), (sV "/claim/cut.py" 1153)]
def o554 := oF (M 107 9) "Tray.closed" (sV "framerune.mbase" 892) 553
def o560 := oC [(sV "closed_ref" 1155), (sV "Tray.closed_ref" 1156), (sV "/claim/cut.py" 1157), (iV 410), (iV 3), (iV 0), (iV 0), (iV 3), (rV 555), (.bool true), (iV 181), (rV 556), .none, (rV 557), (rV 558), (rV 559), (iV 1161), (iV 410), (sV "/claim/cut.py" 1162)]
def o561 := oF (M 107 10) "Tray.closed_ref" (sV "framerune.mbase" 892) 560
def o567 := oC [(sV "alloc" 1164), (sV "Tray.alloc" 1165), (sV "/claim/cut.py" 1166), (iV 413), (iV 3), (iV 0), (iV 0), (iV 3), (rV 562), (.bool true), (iV 181), (rV 563), .none, (rV 564), (rV 565), (rV 566), (iV 1170), (iV 413), (sV "/claim/cut.py" 1171)]
def o568 := oF (M 107 11) "Tray.alloc" (sV "framerune.mbase" 892) 567
def o574 := oC [(sV "wrong" 1173), (sV "Tray.wrong" 1174), (sV "/claim/cut.py" 1175), (iV 416), (iV 2), (iV 0), (iV 0), (iV 3), (rV 569), (.bool true), (iV 181), (rV 570), .none, (rV 571), (rV 572), (rV 573), (iV 1178), (iV 416), (sV "/claim/cut.py" 1179)]
def o575 := oF (M 107 12) "Tray.wrong" (sV "framerune.mbase" 892) 574
def o581 := oC [(sV "pop" 1181), (sV "Tray.pop" 1182), (sV "/claim/cut.py" 1183), (iV 419), (iV 2), (iV 0), (iV 0), (iV 3), (rV 576), (.bool true), (iV 181), (rV 577), .none, (rV 578), (rV 579), (rV 580), (iV 1186), (iV 419), (sV "/claim/cut.py" 1187)]
def o582 := oF (M 107 13) "Tray.pop" (sV "framerune.mbase" 892) 581
def o588 := oC [(sV "throw_new" 1189), (sV "Tray.throw_new" 1190), (sV "/claim/cut.py" 1191), (iV 422), (iV 3), (iV 0), (iV 0), (iV 3), (rV 583), (.bool true), (iV 181), (rV 584), .none, (rV 585), (rV 586), (rV 587), (iV 1195), (iV 422), (sV "/claim/cut.py" 1196)]
def o589 := oF (M 107 14) "Tray.throw_new" (sV "framerune.mbase" 892) 588
def o595 := oC [(sV "push_call" 1198), (sV "Tray.push_call" 1199), (sV "/claim/cut.py" 1200), (iV 425), (iV 4), (iV 0), (iV 0), (iV 3), (rV 590), (.bool true), (iV 181), (rV 591), .none, (rV 592), (rV 593), (rV 594), (iV 1205), (iV 425), (sV "/claim/cut.py" 1206)]
def o596 := oF (M 107 15) "Tray.push_call" (sV "framerune.mbase" 892) 595
def o598 (P : Params) := oD [eK P "__module__" 1066 (sV "framerune.mbase" 892), eK P "__firstlineno__" 1070 (.int 358 1069), eK P "__init__" 1079 (rV 491), eK P "is_a" 1088 (rV 498), eK P "slots_of" 1096 (rV 505), eK P "kinds_of" 1104 (rV 512), eK P "skinds_of" 1112 (rV 519), eK P "slot_place" 1120 (rV 526), eK P "target" 1129 (rV 533), eK P "default" 1137 (rV 540), eK P "plain" 1145 (rV 547), eK P "closed" 1154 (rV 554), eK P "closed_ref" 1163 (rV 561), eK P "alloc" 1172 (rV 568), eK P "wrong" 1180 (rV 575), eK P "pop" 1188 (rV 582), eK P "throw_new" 1197 (rV 589), eK P "push_call" 1207 (rV 596), eK P "__static_attributes__" 1229 (rV 597), eK P "__dict__" 1231 (rV 600), eK P "__weakref__" 1233 (rV 601), eK P "__doc__" 1234 .none] 4
noncomputable def o599 : Obj := ⟨(.type "type"), none, (.cls { name := (z "Tray"), bases := [(.type "object")], mro := [(rV 599), (.type "object")], ns := 598, qualname := (z "Tray"), hasDict := true, slotNames := [], subclasses := [(rV 669)], abstract := false, collection := none, hasDel := false }), ⟨[none, none, (some (sV "Tray" 1059)), (some (sV "Tray" 1067)), (some (.builtin "object.__new__")), (some (.bool true))]⟩⟩
noncomputable def o600 : Obj := ⟨(.type "getset_descriptor"), none, (.fields ⟨[(sV "__dict__" 1230), (rV 599), (.builtin "function.__dict__"), (.builtin "function.__dict__#set")]⟩), ⟨[]⟩⟩
noncomputable def o601 : Obj := ⟨(.type "getset_descriptor"), none, (.fields ⟨[(sV "__weakref__" 1232), (rV 599), (.builtin "ExceptionGroup.__weakref__"), .none]⟩), ⟨[]⟩⟩
def o616 := oC [(sV "__init__" 1249), (sV "Shelf.__init__" 1250), (sV "/claim/cut.py" 1251), (iV 429), (iV 3), (iV 0), (iV 0), (iV 3), (rV 611), (.bool true), (iV 181), (rV 612), .none, (rV 613), (rV 614), (rV 615), (iV 1255), (iV 429), (sV "/claim/cut.py" 1256)]
def o617 := oF (M 108 0) "Shelf.__init__" (sV "framerune.mbase" 892) 616
def o623 := oC [(sV "goes" 1258), (sV "Shelf.goes" 1259), (sV "/claim/cut.py" 1260), (iV 464), (iV 3), (iV 0), (iV 0), (iV 3), (rV 618), (.bool true), (iV 181), (rV 619), .none, (rV 620), (rV 621), (rV 622), (iV 1264), (iV 464), (sV "/claim/cut.py" 1265)]
def o624 := oF (M 108 1) "Shelf.goes" (sV "framerune.mbase" 892) 623
def o630 := oC [(sV "finalised" 1267), (sV "Shelf.finalised" 1268), (sV "/claim/cut.py" 1269), (iV 467), (iV 2), (iV 0), (iV 0), (iV 3), (rV 625), (.bool true), (iV 181), (rV 626), .none, (rV 627), (rV 628), (rV 629), (iV 1272), (iV 467), (sV "/claim/cut.py" 1273)]
def o631 := oF (M 108 2) "Shelf.finalised" (sV "framerune.mbase" 892) 630
def o637 := oC [(sV "alloc" 1275), (sV "Shelf.alloc" 1276), (sV "/claim/cut.py" 1277), (iV 470), (iV 3), (iV 0), (iV 0), (iV 3), (rV 632), (.bool true), (iV 181), (rV 633), .none, (rV 634), (rV 635), (rV 636), (iV 1281), (iV 470), (sV "/claim/cut.py" 1282)]
def o638 := oF (M 108 3) "Shelf.alloc" (sV "framerune.mbase" 892) 637
def o644 := oC [(sV "push_call" 1284), (sV "Shelf.push_call" 1285), (sV "/claim/cut.py" 1286), (iV 473), (iV 4), (iV 0), (iV 0), (iV 3), (rV 639), (.bool true), (iV 181), (rV 640), .none, (rV 641), (rV 642), (rV 643), (iV 1291), (iV 473), (sV "/claim/cut.py" 1292)]
def o645 := oF (M 108 4) "Shelf.push_call" (sV "framerune.mbase" 892) 644
def o651 := oC [(sV "text_of" 1294), (sV "Shelf.text_of" 1295), (sV "/claim/cut.py" 1296), (iV 476), (iV 2), (iV 0), (iV 0), (iV 3), (rV 646), (.bool true), (iV 181), (rV 647), .none, (rV 648), (rV 649), (rV 650), (iV 1299), (iV 476), (sV "/claim/cut.py" 1300)]
def o652 := oF (M 108 5) "Shelf.text_of" (sV "framerune.mbase" 892) 651
def o658 := oC [(sV "text_ref" 1302), (sV "Shelf.text_ref" 1303), (sV "/claim/cut.py" 1304), (iV 479), (iV 2), (iV 0), (iV 0), (iV 3), (rV 653), (.bool true), (iV 181), (rV 654), .none, (rV 655), (rV 656), (rV 657), (iV 1307), (iV 479), (sV "/claim/cut.py" 1308)]
def o659 := oF (M 108 6) "Shelf.text_ref" (sV "framerune.mbase" 892) 658
def o665 := oC [(sV "new_text" 1310), (sV "Shelf.new_text" 1311), (sV "/claim/cut.py" 1312), (iV 482), (iV 2), (iV 0), (iV 0), (iV 3), (rV 660), (.bool true), (iV 181), (rV 661), .none, (rV 662), (rV 663), (rV 664), (iV 1315), (iV 482), (sV "/claim/cut.py" 1316)]
def o666 := oF (M 108 7) "Shelf.new_text" (sV "framerune.mbase" 892) 665
def o668 (P : Params) := oD [eK P "__module__" 1244 (sV "framerune.mbase" 892), eK P "__firstlineno__" 1248 (.int 427 1247), eK P "__init__" 1257 (rV 617), eK P "goes" 1266 (rV 624), eK P "finalised" 1274 (rV 631), eK P "alloc" 1283 (rV 638), eK P "push_call" 1293 (rV 645), eK P "text_of" 1301 (rV 652), eK P "text_ref" 1309 (rV 659), eK P "new_text" 1317 (rV 666), eK P "__static_attributes__" 1351 (rV 667), eK P "__doc__" 1352 .none] 2
noncomputable def o669 : Obj := ⟨(.type "type"), none, (.cls { name := (z "Shelf"), bases := [(rV 599)], mro := [(rV 669), (rV 599), (.type "object")], ns := 668, qualname := (z "Shelf"), hasDict := true, slotNames := [], subclasses := [], abstract := false, collection := none, hasDel := false }), ⟨[(some (rV 604)), none, (some (sV "Shelf" 1237)), (some (sV "Shelf" 1245)), (some (.builtin "object.__new__")), (some (.bool true))]⟩⟩
def o677 := oC [(sV "note_thrown" 1355), (sV "note_thrown" 1356), (sV "/claim/cut.py" 1357), (iV 484), (iV 2), (iV 0), (iV 0), (iV 3), (rV 672), (.bool true), (iV 181), (rV 673), .none, (rV 674), (rV 675), (rV 676), (iV 1360), (iV 484), (sV "/claim/cut.py" 1361)]
def o678 := oF (S 109) "note_thrown" (sV "framerune.mbase" 892) 677
def o684 := oC [(sV "told_row" 1363), (sV "told_row" 1364), (sV "/claim/cut.py" 1365), (iV 488), (iV 2), (iV 0), (iV 0), (iV 3), (rV 679), (.bool true), (iV 181), (rV 680), .none, (rV 681), (rV 682), (rV 683), (iV 1369), (iV 488), (sV "/claim/cut.py" 1370)]
def o685 := oF (S 110) "told_row" (sV "framerune.mbase" 892) 684
def o691 := oC [(sV "told_target" 1372), (sV "told_target" 1373), (sV "/claim/cut.py" 1374), (iV 493), (iV 2), (iV 0), (iV 0), (iV 3), (rV 686), (.bool true), (iV 181), (rV 687), .none, (rV 688), (rV 689), (rV 690), (iV 1377), (iV 493), (sV "/claim/cut.py" 1378)]
def o692 := oF (S 111) "told_target" (sV "framerune.mbase" 892) 691
def o698 := oC [(sV "told_default" 1380), (sV "told_default" 1381), (sV "/claim/cut.py" 1382), (iV 497), (iV 2), (iV 0), (iV 0), (iV 3), (rV 693), (.bool true), (iV 181), (rV 694), .none, (rV 695), (rV 696), (rV 697), (iV 1386), (iV 497), (sV "/claim/cut.py" 1387)]
def o699 := oF (S 112) "told_default" (sV "framerune.mbase" 892) 698
def o705 := oC [(sV "tell_wrong" 1389), (sV "tell_wrong" 1390), (sV "/claim/cut.py" 1391), (iV 502), (iV 2), (iV 0), (iV 0), (iV 3), (rV 700), (.bool true), (iV 181), (rV 701), .none, (rV 702), (rV 703), (rV 704), (iV 1397), (iV 502), (sV "/claim/cut.py" 1398)]
def o706 := oF (S 113) "tell_wrong" (sV "framerune.mbase" 892) 705
def o712 := oC [(sV "pop_value" 1400), (sV "pop_value" 1401), (sV "/claim/cut.py" 1402), (iV 513), (iV 2), (iV 0), (iV 0), (iV 3), (rV 707), (.bool true), (iV 181), (rV 708), .none, (rV 709), (rV 710), (rV 711), (iV 1405), (iV 513), (sV "/claim/cut.py" 1406)]
def o713 := oF (S 114) "pop_value" (sV "framerune.mbase" 892) 712
def o719 := oC [(sV "first_slots" 1408), (sV "first_slots" 1409), (sV "/claim/cut.py" 1410), (iV 518), (iV 3), (iV 0), (iV 0), (iV 3), (rV 714), (.bool true), (iV 181), (rV 715), .none, (rV 716), (rV 717), (rV 718), (iV 1417), (iV 518), (sV "/claim/cut.py" 1418)]
def o720 := oF (S 115) "first_slots" (sV "framerune.mbase" 892) 719
def o726 := oC [(sV "alloc_thing" 1420), (sV "alloc_thing" 1421), (sV "/claim/cut.py" 1422), (iV 533), (iV 3), (iV 0), (iV 0), (iV 3), (rV 721), (.bool true), (iV 181), (rV 722), .none, (rV 723), (rV 724), (rV 725), (iV 1426), (iV 533), (sV "/claim/cut.py" 1427)]
def o727 := oF (S 116) "alloc_thing" (sV "framerune.mbase" 892) 726
def o733 := oC [(sV "text_held" 1429), (sV "text_held" 1430), (sV "/claim/cut.py" 1431), (iV 536), (iV 2), (iV 0), (iV 0), (iV 3), (rV 728), (.bool true), (iV 181), (rV 729), .none, (rV 730), (rV 731), (rV 732), (iV 1435), (iV 536), (sV "/claim/cut.py" 1436)]
def o734 := oF (S 117) "text_held" (sV "framerune.mbase" 892) 733
def o740 := oC [(sV "made_text" 1438), (sV "made_text" 1439), (sV "/claim/cut.py" 1440), (iV 542), (iV 2), (iV 0), (iV 0), (iV 3), (rV 735), (.bool true), (iV 181), (rV 736), .none, (rV 737), (rV 738), (rV 739), (iV 1444), (iV 542), (sV "/claim/cut.py" 1445)]
def o741 := oF (S 118) "made_text" (sV "framerune.mbase" 892) 740
def o747 := oC [(sV "list_of" 1455), (sV "list_of" 1456), (sV "/claim/cut.py" 1457), (iV 550), (iV 2), (iV 0), (iV 0), (iV 3), (rV 742), (.bool true), (iV 181), (rV 743), .none, (rV 744), (rV 745), (rV 746), (iV 1463), (iV 550), (sV "/claim/cut.py" 1464)]
def o748 := oF (S 123) "list_of" (sV "framerune.delegates" 1447) 747
def o754 := oC [(sV "entry_key" 1466), (sV "entry_key" 1467), (sV "/claim/cut.py" 1468), (iV 561), (iV 2), (iV 0), (iV 0), (iV 3), (rV 749), (.bool true), (iV 181), (rV 750), .none, (rV 751), (rV 752), (rV 753), (iV 1472), (iV 561), (sV "/claim/cut.py" 1473)]
def o755 := oF (S 124) "entry_key" (sV "framerune.delegates" 1447) 754
def o759 := oC [(sV "keys_of" 1475), (sV "keys_of" 1476), (sV "/claim/cut.py" 1477), (iV 567), (iV 2), (iV 0), (iV 0), (iV 3), (rV 756), (.bool true), (iV 181), (rV 757), .none, .none, .none, (rV 758), (iV 1478), (iV 567), (sV "/claim/cut.py" 1479)]
def o760 := oF (S 125) "keys_of" (sV "framerune.delegates" 1447) 759
def o766 := oC [(sV "is_delegate" 1481), (sV "is_delegate" 1482), (sV "/claim/cut.py" 1483), (iV 569), (iV 2), (iV 0), (iV 0), (iV 3), (rV 761), (.bool true), (iV 181), (rV 762), .none, (rV 763), (rV 764), (rV 765), (iV 1487), (iV 569), (sV "/claim/cut.py" 1488)]
def o767 := oF (S 126) "is_delegate" (sV "framerune.delegates" 1447) 766
def o773 := oC [(sV "delegate_hash" 1490), (sV "delegate_hash" 1491), (sV "/claim/cut.py" 1492), (iV 572), (iV 2), (iV 0), (iV 0), (iV 3), (rV 768), (.bool true), (iV 181), (rV 769), .none, (rV 770), (rV 771), (rV 772), (iV 1500), (iV 572), (sV "/claim/cut.py" 1501)]
def o774 := oF (S 127) "delegate_hash" (sV "framerune.delegates" 1447) 773
def o780 := oC [(sV "delegate_equal" 1503), (sV "delegate_equal" 1504), (sV "/claim/cut.py" 1505), (iV 581), (iV 3), (iV 0), (iV 0), (iV 3), (rV 775), (.bool true), (iV 181), (rV 776), .none, (rV 777), (rV 778), (rV 779), (iV 1509), (iV 581), (sV "/claim/cut.py" 1510)]
def o781 := oF (S 128) "delegate_equal" (sV "framerune.delegates" 1447) 780
def o787 := oC [(sV "bool_value" 1524), (sV "bool_value" 1525), (sV "/claim/cut.py" 1526), (iV 593), (iV 1), (iV 0), (iV 0), (iV 3), (rV 782), (.bool true), (iV 181), (rV 783), .none, (rV 784), (rV 785), (rV 786), (iV 1528), (iV 593), (sV "/claim/cut.py" 1529)]
def o788 := oF (S 135) "bool_value" (sV "framerune.natives" 1512) 787
def o794 := oC [(sV "thing_named" 1531), (sV "thing_named" 1532), (sV "/claim/cut.py" 1533), (iV 597), (iV 2), (iV 0), (iV 0), (iV 3), (rV 789), (.bool true), (iV 181), (rV 790), .none, (rV 791), (rV 792), (rV 793), (iV 1536), (iV 597), (sV "/claim/cut.py" 1537)]
def o795 := oF (S 136) "thing_named" (sV "framerune.natives" 1512) 794
def o801 := oC [(sV "no_object" 1539), (sV "no_object" 1540), (sV "/claim/cut.py" 1541), (iV 599), (iV 1), (iV 0), (iV 0), (iV 3), (rV 796), (.bool true), (iV 181), (rV 797), .none, (rV 798), (rV 799), (rV 800), (iV 1543), (iV 599), (sV "/claim/cut.py" 1544)]
def o802 := oF (S 137) "no_object" (sV "framerune.natives" 1512) 801
def o808 := oC [(sV "kind_names" 1546), (sV "kind_names" 1547), (sV "/claim/cut.py" 1548), (iV 602), (iV 1), (iV 0), (iV 0), (iV 3), (rV 803), (.bool true), (iV 181), (rV 804), .none, (rV 805), (rV 806), (rV 807), (iV 1552), (iV 602), (sV "/claim/cut.py" 1553)]
def o809 := oF (S 138) "kind_names" (sV "framerune.natives" 1512) 808
def o815 := oC [(sV "kind_text" 1555), (sV "kind_text" 1556), (sV "/claim/cut.py" 1557), (iV 608), (iV 2), (iV 0), (iV 0), (iV 3), (rV 810), (.bool true), (iV 181), (rV 811), .none, (rV 812), (rV 813), (rV 814), (iV 1560), (iV 608), (sV "/claim/cut.py" 1561)]
def o816 := oF (S 139) "kind_text" (sV "framerune.natives" 1512) 815
def o822 := oC [(sV "plain_number" 1563), (sV "plain_number" 1564), (sV "/claim/cut.py" 1565), (iV 610), (iV 2), (iV 0), (iV 0), (iV 3), (rV 817), (.bool true), (iV 181), (rV 818), .none, (rV 819), (rV 820), (rV 821), (iV 1568), (iV 610), (sV "/claim/cut.py" 1569)]
def o823 := oF (S 140) "plain_number" (sV "framerune.natives" 1512) 822
def o829 := oC [(sV "enum_text" 1571), (sV "enum_text" 1572), (sV "/claim/cut.py" 1573), (iV 616), (iV 3), (iV 0), (iV 0), (iV 3), (rV 824), (.bool true), (iV 181), (rV 825), .none, (rV 826), (rV 827), (rV 828), (iV 1580), (iV 616), (sV "/claim/cut.py" 1581)]
def o830 := oF (S 141) "enum_text" (sV "framerune.natives" 1512) 829
def o836 := oC [(sV "thing_text" 1583), (sV "thing_text" 1584), (sV "/claim/cut.py" 1585), (iV 623), (iV 2), (iV 0), (iV 0), (iV 3), (rV 831), (.bool true), (iV 181), (rV 832), .none, (rV 833), (rV 834), (rV 835), (iV 1589), (iV 623), (sV "/claim/cut.py" 1590)]
def o837 := oF (S 142) "thing_text" (sV "framerune.natives" 1512) 836
def o843 := oC [(sV "number_hash" 1592), (sV "number_hash" 1593), (sV "/claim/cut.py" 1594), (iV 630), (iV 2), (iV 0), (iV 0), (iV 3), (rV 838), (.bool true), (iV 181), (rV 839), .none, (rV 840), (rV 841), (rV 842), (iV 1597), (iV 630), (sV "/claim/cut.py" 1598)]
def o844 := oF (S 143) "number_hash" (sV "framerune.natives" 1512) 843
def o850 := oC [(sV "text_hash" 1600), (sV "text_hash" 1601), (sV "/claim/cut.py" 1602), (iV 638), (iV 1), (iV 0), (iV 0), (iV 3), (rV 845), (.bool true), (iV 181), (rV 846), .none, (rV 847), (rV 848), (rV 849), (iV 1606), (iV 638), (sV "/claim/cut.py" 1607)]
def o851 := oF (S 144) "text_hash" (sV "framerune.natives" 1512) 850
def o857 := oC [(sV "is_box" 1609), (sV "is_box" 1610), (sV "/claim/cut.py" 1611), (iV 643), (iV 2), (iV 0), (iV 0), (iV 3), (rV 852), (.bool true), (iV 181), (rV 853), .none, (rV 854), (rV 855), (rV 856), (iV 1614), (iV 643), (sV "/claim/cut.py" 1615)]
def o858 := oF (S 145) "is_box" (sV "framerune.natives" 1512) 857
def o864 := oC [(sV "own_hash" 1617), (sV "own_hash" 1618), (sV "/claim/cut.py" 1619), (iV 645), (iV 2), (iV 0), (iV 0), (iV 3), (rV 859), (.bool true), (iV 181), (rV 860), .none, (rV 861), (rV 862), (rV 863), (iV 1623), (iV 645), (sV "/claim/cut.py" 1624)]
def o865 := oF (S 146) "own_hash" (sV "framerune.natives" 1512) 864
def o871 := oC [(sV "value_hash" 1626), (sV "value_hash" 1627), (sV "/claim/cut.py" 1628), (iV 664), (iV 2), (iV 0), (iV 0), (iV 3), (rV 866), (.bool true), (iV 181), (rV 867), .none, (rV 868), (rV 869), (rV 870), (iV 1635), (iV 664), (sV "/claim/cut.py" 1636)]
def o872 := oF (S 147) "value_hash" (sV "framerune.natives" 1512) 871
def o878 := oC [(sV "same_things" 1638), (sV "same_things" 1639), (sV "/claim/cut.py" 1640), (iV 674), (iV 4), (iV 0), (iV 0), (iV 3), (rV 873), (.bool true), (iV 181), (rV 874), .none, (rV 875), (rV 876), (rV 877), (iV 1647), (iV 674), (sV "/claim/cut.py" 1648)]
def o879 := oF (S 148) "same_things" (sV "framerune.natives" 1512) 878
def o885 := oC [(sV "struct_pairs" 1650), (sV "struct_pairs" 1651), (sV "/claim/cut.py" 1652), (iV 689), (iV 2), (iV 0), (iV 0), (iV 3), (rV 880), (.bool true), (iV 181), (rV 881), .none, (rV 882), (rV 883), (rV 884), (iV 1657), (iV 689), (sV "/claim/cut.py" 1658)]
def o886 := oF (S 149) "struct_pairs" (sV "framerune.natives" 1512) 885
def o892 := oC [(sV "same_pair" 1660), (sV "same_pair" 1661), (sV "/claim/cut.py" 1662), (iV 694), (iV 4), (iV 0), (iV 0), (iV 3), (rV 887), (.bool true), (iV 181), (rV 888), .none, (rV 889), (rV 890), (rV 891), (iV 1667), (iV 694), (sV "/claim/cut.py" 1668)]
def o893 := oF (S 150) "same_pair" (sV "framerune.natives" 1512) 892
def o899 := oC [(sV "same_value" 1670), (sV "same_value" 1671), (sV "/claim/cut.py" 1672), (iV 704), (iV 3), (iV 0), (iV 0), (iV 3), (rV 894), (.bool true), (iV 181), (rV 895), .none, (rV 896), (rV 897), (rV 898), (iV 1683), (iV 704), (sV "/claim/cut.py" 1684)]
def o900 := oF (S 151) "same_value" (sV "framerune.natives" 1512) 899
def o913 := oC [(sV "call" 1698), (sV "ObjectToString.call" 1699), (sV "/claim/cut.py" 1700), (iV 717), (iV 4), (iV 0), (iV 0), (iV 3), (rV 908), (.bool true), (iV 181), (rV 909), .none, (rV 910), (rV 911), (rV 912), (iV 1706), (iV 717), (sV "/claim/cut.py" 1707)]
def o914 := oF (M 152 0) "ObjectToString.call" (sV "framerune.natives" 1512) 913
def o916 (P : Params) := oD [eK P "__module__" 1693 (sV "framerune.natives" 1512), eK P "__firstlineno__" 1697 (.int 715 1696), eK P "call" 1708 (rV 914), eK P "__static_attributes__" 1709 (rV 915), eK P "__doc__" 1710 .none] 2
noncomputable def o917 : Obj := ⟨(.type "type"), none, (.cls { name := (z "ObjectToString"), bases := [(rV 389)], mro := [(rV 917), (rV 389), (.type "object")], ns := 916, qualname := (z "ObjectToString"), hasDict := true, slotNames := [], subclasses := [], abstract := false, collection := none, hasDel := false }), ⟨[(some (rV 901)), none, (some (sV "ObjectToString" 1686)), (some (sV "ObjectToString" 1694)), (some (.builtin "object.__new__")), (some (.bool true))]⟩⟩
def o932 := oC [(sV "call" 1725), (sV "ObjectHash.call" 1726), (sV "/claim/cut.py" 1727), (iV 724), (iV 4), (iV 0), (iV 0), (iV 3), (rV 927), (.bool true), (iV 181), (rV 928), .none, (rV 929), (rV 930), (rV 931), (iV 1733), (iV 724), (sV "/claim/cut.py" 1734)]
def o933 := oF (M 153 0) "ObjectHash.call" (sV "framerune.natives" 1512) 932
def o935 (P : Params) := oD [eK P "__module__" 1720 (sV "framerune.natives" 1512), eK P "__firstlineno__" 1724 (.int 722 1723), eK P "call" 1735 (rV 933), eK P "__static_attributes__" 1736 (rV 934), eK P "__doc__" 1737 .none] 2
noncomputable def o936 : Obj := ⟨(.type "type"), none, (.cls { name := (z "ObjectHash"), bases := [(rV 389)], mro := [(rV 936), (rV 389), (.type "object")], ns := 935, qualname := (z "ObjectHash"), hasDict := true, slotNames := [], subclasses := [], abstract := false, collection := none, hasDel := false }), ⟨[(some (rV 920)), none, (some (sV "ObjectHash" 1713)), (some (sV "ObjectHash" 1721)), (some (.builtin "object.__new__")), (some (.bool true))]⟩⟩
def o951 := oC [(sV "call" 1752), (sV "ObjectGetType.call" 1753), (sV "/claim/cut.py" 1754), (iV 731), (iV 4), (iV 0), (iV 0), (iV 3), (rV 946), (.bool true), (iV 181), (rV 947), .none, (rV 948), (rV 949), (rV 950), (iV 1760), (iV 731), (sV "/claim/cut.py" 1761)]
def o952 := oF (M 154 0) "ObjectGetType.call" (sV "framerune.natives" 1512) 951
def o954 (P : Params) := oD [eK P "__module__" 1747 (sV "framerune.natives" 1512), eK P "__firstlineno__" 1751 (.int 729 1750), eK P "call" 1762 (rV 952), eK P "__static_attributes__" 1763 (rV 953), eK P "__doc__" 1764 .none] 2
noncomputable def o955 : Obj := ⟨(.type "type"), none, (.cls { name := (z "ObjectGetType"), bases := [(rV 389)], mro := [(rV 955), (rV 389), (.type "object")], ns := 954, qualname := (z "ObjectGetType"), hasDict := true, slotNames := [], subclasses := [], abstract := false, collection := none, hasDel := false }), ⟨[(some (rV 939)), none, (some (sV "ObjectGetType" 1740)), (some (sV "ObjectGetType" 1748)), (some (.builtin "object.__new__")), (some (.bool true))]⟩⟩
def o970 := oC [(sV "call" 1779), (sV "ValueEquals.call" 1780), (sV "/claim/cut.py" 1781), (iV 738), (iV 4), (iV 0), (iV 0), (iV 3), (rV 965), (.bool true), (iV 181), (rV 966), .none, (rV 967), (rV 968), (rV 969), (iV 1788), (iV 738), (sV "/claim/cut.py" 1789)]
def o971 := oF (M 155 0) "ValueEquals.call" (sV "framerune.natives" 1512) 970
def o973 (P : Params) := oD [eK P "__module__" 1774 (sV "framerune.natives" 1512), eK P "__firstlineno__" 1778 (.int 736 1777), eK P "call" 1790 (rV 971), eK P "__static_attributes__" 1791 (rV 972), eK P "__doc__" 1792 .none] 2
noncomputable def o974 : Obj := ⟨(.type "type"), none, (.cls { name := (z "ValueEquals"), bases := [(rV 389)], mro := [(rV 974), (rV 389), (.type "object")], ns := 973, qualname := (z "ValueEquals"), hasDict := true, slotNames := [], subclasses := [], abstract := false, collection := none, hasDel := false }), ⟨[(some (rV 958)), none, (some (sV "ValueEquals" 1767)), (some (sV "ValueEquals" 1775)), (some (.builtin "object.__new__")), (some (.bool true))]⟩⟩
def o989 := oC [(sV "call" 1807), (sV "ValueHash.call" 1808), (sV "/claim/cut.py" 1809), (iV 748), (iV 4), (iV 0), (iV 0), (iV 3), (rV 984), (.bool true), (iV 181), (rV 985), .none, (rV 986), (rV 987), (rV 988), (iV 1815), (iV 748), (sV "/claim/cut.py" 1816)]
def o990 := oF (M 156 0) "ValueHash.call" (sV "framerune.natives" 1512) 989
def o992 (P : Params) := oD [eK P "__module__" 1802 (sV "framerune.natives" 1512), eK P "__firstlineno__" 1806 (.int 746 1805), eK P "call" 1817 (rV 990), eK P "__static_attributes__" 1818 (rV 991), eK P "__doc__" 1819 .none] 2
noncomputable def o993 : Obj := ⟨(.type "type"), none, (.cls { name := (z "ValueHash"), bases := [(rV 389)], mro := [(rV 993), (rV 389), (.type "object")], ns := 992, qualname := (z "ValueHash"), hasDict := true, slotNames := [], subclasses := [], abstract := false, collection := none, hasDel := false }), ⟨[(some (rV 977)), none, (some (sV "ValueHash" 1795)), (some (sV "ValueHash" 1803)), (some (.builtin "object.__new__")), (some (.bool true))]⟩⟩
def o1001 := oC [(sV "install_native_object" 1822), (sV "install_native_object" 1823), (sV "/claim/cut.py" 1824), (iV 753), (iV 1), (iV 0), (iV 0), (iV 3), (rV 996), (.bool true), (iV 181), (rV 997), .none, (rV 998), (rV 999), (rV 1000), (iV 1826), (iV 753), (sV "/claim/cut.py" 1827)]
def o1002 := oF (S 157) "install_native_object" (sV "framerune.natives" 1512) 1001
def o1008 := oC [(sV "new_type" 1829), (sV "new_type" 1830), (sV "/claim/cut.py" 1831), (iV 759), (iV 2), (iV 0), (iV 0), (iV 3), (rV 1003), (.bool true), (iV 181), (rV 1004), .none, (rV 1005), (rV 1006), (rV 1007), (iV 1837), (iV 759), (sV "/claim/cut.py" 1838)]
def o1009 := oF (S 158) "new_type" (sV "framerune.natives" 1512) 1008
def o1013 := oC [(sV "_law_value" 1842), (sV "_law_value" 1843), (sV "/claim/cut.py" 1844), (iV 770), (iV 2), (iV 0), (iV 0), (iV 3), (rV 1010), (.bool true), (iV 181), (rV 1011), .none, .none, .none, (rV 1012), (iV 1845), (iV 770), (sV "/claim/cut.py" 1846)]
def o1014 := oF (S 160) "_law_value" (sV "law_sy0009_01" 1840) 1013
def o1018 := oC [(sV "_law_canon" 1848), (sV "_law_canon" 1849), (sV "/claim/cut.py" 1850), (iV 778), (iV 2), (iV 0), (iV 0), (iV 3), (rV 1015), (.bool true), (iV 181), (rV 1016), .none, .none, .none, (rV 1017), (iV 1851), (iV 778), (sV "/claim/cut.py" 1852)]
def o1019 := oF (S 161) "_law_canon" (sV "law_sy0009_01" 1840) 1018
def o1025 := oC [(sV "_law_new" 1854), (sV "_law_new" 1855), (sV "/claim/cut.py" 1856), (iV 784), (iV 3), (iV 0), (iV 0), (iV 3), (rV 1020), (.bool true), (iV 181), (rV 1021), .none, (rV 1022), (rV 1023), (rV 1024), (iV 1865), (iV 784), (sV "/claim/cut.py" 1866)]
def o1026 := oF (S 162) "_law_new" (sV "law_sy0009_01" 1840) 1025
def o1032 := oC [(sV "_law_signed" 1868), (sV "_law_signed" 1869), (sV "/claim/cut.py" 1870), (iV 802), (iV 2), (iV 0), (iV 0), (iV 3), (rV 1027), (.bool true), (iV 181), (rV 1028), .none, (rV 1029), (rV 1030), (rV 1031), (iV 1873), (iV 802), (sV "/claim/cut.py" 1874)]
def o1033 := oF (S 163) "_law_signed" (sV "law_sy0009_01" 1840) 1032
def o1039 := oC [(sV "_law_letters" 1876), (sV "_law_letters" 1877), (sV "/claim/cut.py" 1878), (iV 804), (iV 1), (iV 0), (iV 0), (iV 3), (rV 1034), (.bool true), (iV 181), (rV 1035), .none, (rV 1036), (rV 1037), (rV 1038), (iV 1882), (iV 804), (sV "/claim/cut.py" 1883)]
def o1040 := oF (S 164) "_law_letters" (sV "law_sy0009_01" 1840) 1039
def o1046 := oC [(sV "_law_parts" 1885), (sV "_law_parts" 1886), (sV "/claim/cut.py" 1887), (iV 809), (iV 2), (iV 0), (iV 0), (iV 3), (rV 1041), (.bool true), (iV 181), (rV 1042), .none, (rV 1043), (rV 1044), (rV 1045), (iV 1895), (iV 809), (sV "/claim/cut.py" 1896)]
def o1047 := oF (S 165) "_law_parts" (sV "law_sy0009_01" 1840) 1046
def o1053 := oC [(sV "_law_call" 1898), (sV "_law_call" 1899), (sV "/claim/cut.py" 1900), (iV 829), (iV 3), (iV 0), (iV 0), (iV 3), (rV 1048), (.bool true), (iV 181), (rV 1049), .none, (rV 1050), (rV 1051), (rV 1052), (iV 1904), (iV 829), (sV "/claim/cut.py" 1905)]
def o1054 := oF (S 166) "_law_call" (sV "law_sy0009_01" 1840) 1053
def o1060 := oC [(sV "_law_null" 1907), (sV "_law_null" 1908), (sV "/claim/cut.py" 1909), (iV 831), (iV 2), (iV 0), (iV 0), (iV 3), (rV 1055), (.bool true), (iV 181), (rV 1056), .none, (rV 1057), (rV 1058), (rV 1059), (iV 1913), (iV 831), (sV "/claim/cut.py" 1914)]
def o1061 := oF (S 167) "_law_null" (sV "law_sy0009_01" 1840) 1060
def o1067 := oC [(sV "_law_ref" 1916), (sV "_law_ref" 1917), (sV "/claim/cut.py" 1918), (iV 835), (iV 2), (iV 0), (iV 0), (iV 3), (rV 1062), (.bool true), (iV 181), (rV 1063), .none, (rV 1064), (rV 1065), (rV 1066), (iV 1921), (iV 835), (sV "/claim/cut.py" 1922)]
def o1068 := oF (S 168) "_law_ref" (sV "law_sy0009_01" 1840) 1067
def o1074 := oC [(sV "_law_equals" 1924), (sV "_law_equals" 1925), (sV "/claim/cut.py" 1926), (iV 839), (iV 3), (iV 0), (iV 0), (iV 3), (rV 1069), (.bool true), (iV 181), (rV 1070), .none, (rV 1071), (rV 1072), (rV 1073), (iV 1932), (iV 839), (sV "/claim/cut.py" 1933)]
def o1075 := oF (S 169) "_law_equals" (sV "law_sy0009_01" 1840) 1074
def o1081 := oC [(sV "_law_marked" 1935), (sV "_law_marked" 1936), (sV "/claim/cut.py" 1937), (iV 847), (iV 2), (iV 0), (iV 0), (iV 3), (rV 1076), (.bool true), (iV 181), (rV 1077), .none, (rV 1078), (rV 1079), (rV 1080), (iV 1942), (iV 847), (sV "/claim/cut.py" 1943)]
def o1082 := oF (S 170) "_law_marked" (sV "law_sy0009_01" 1840) 1081
def o1088 := oC [(sV "_law_number" 1945), (sV "_law_number" 1946), (sV "/claim/cut.py" 1947), (iV 852), (iV 2), (iV 0), (iV 0), (iV 3), (rV 1083), (.bool true), (iV 181), (rV 1084), .none, (rV 1085), (rV 1086), (rV 1087), (iV 1952), (iV 852), (sV "/claim/cut.py" 1953)]
def o1089 := oF (S 171) "_law_number" (sV "law_sy0009_01" 1840) 1088
def o1095 := oC [(sV "_law_pair" 1955), (sV "_law_pair" 1956), (sV "/claim/cut.py" 1957), (iV 862), (iV 2), (iV 0), (iV 0), (iV 3), (rV 1090), (.bool true), (iV 181), (rV 1091), .none, (rV 1092), (rV 1093), (rV 1094), (iV 1960), (iV 862), (sV "/claim/cut.py" 1961)]
def o1096 := oF (S 172) "_law_pair" (sV "law_sy0009_01" 1840) 1095
def o1102 := oC [(sV "_law_spec" 1963), (sV "_law_spec" 1964), (sV "/claim/cut.py" 1965), (iV 864), (iV 3), (iV 0), (iV 0), (iV 3), (rV 1097), (.bool true), (iV 181), (rV 1098), .none, (rV 1099), (rV 1100), (rV 1101), (iV 1969), (iV 864), (sV "/claim/cut.py" 1970)]
def o1103 := oF (S 173) "_law_spec" (sV "law_sy0009_01" 1840) 1102
def o1107 := oC [(sV "_law_turned" 1972), (sV "_law_turned" 1973), (sV "/claim/cut.py" 1974), (iV 872), (iV 4), (iV 0), (iV 0), (iV 3), (rV 1104), (.bool true), (iV 181), (rV 1105), .none, .none, .none, (rV 1106), (iV 1975), (iV 872), (sV "/claim/cut.py" 1976)]
def o1108 := oF (S 174) "_law_turned" (sV "law_sy0009_01" 1840) 1107
def o1114 := oC [(sV "_law_step" 1978), (sV "_law_step" 1979), (sV "/claim/cut.py" 1980), (iV 884), (iV 2), (iV 0), (iV 0), (iV 3), (rV 1109), (.bool true), (iV 181), (rV 1110), .none, (rV 1111), (rV 1112), (rV 1113), (iV 1990), (iV 884), (sV "/claim/cut.py" 1991)]
def o1115 := oF (S 175) "_law_step" (sV "law_sy0009_01" 1840) 1114
def o1121 := oC [(sV "_law_begin" 1993), (sV "_law_begin" 1994), (sV "/claim/cut.py" 1995), (iV 905), (iV 1), (iV 0), (iV 0), (iV 3), (rV 1116), (.bool true), (iV 181), (rV 1117), .none, (rV 1118), (rV 1119), (rV 1120), (iV 2001), (iV 905), (sV "/claim/cut.py" 2002)]
def o1122 := oF (S 176) "_law_begin" (sV "law_sy0009_01" 1840) 1121
def o1128 := oC [(sV "_law_own" 2004), (sV "_law_own" 2005), (sV "/claim/cut.py" 2006), (iV 911), (iV 1), (iV 0), (iV 0), (iV 3), (rV 1123), (.bool true), (iV 181), (rV 1124), .none, (rV 1125), (rV 1126), (rV 1127), (iV 2013), (iV 911), (sV "/claim/cut.py" 2014)]
def o1129 := oF (S 177) "_law_own" (sV "law_sy0009_01" 1840) 1128
def o1133 := oC [(sV "law" 2016), (sV "law" 2017), (sV "/claim/cut.py" 2018), (iV 924), (iV 1), (iV 0), (iV 0), (iV 3), (rV 1130), (.bool true), (iV 181), (rV 1131), .none, .none, .none, (rV 1132), (iV 2019), (iV 924), (sV "/claim/cut.py" 2020)]
def o1134 := oF (S 178) "law" (sV "law_sy0009_01" 1840) 1133
noncomputable def obT (P : Params) : BT := (N (boot_o_0 P) (N (o1 P) (N (o3 P) (N (boot_o_7 P) (N (oT []) (N (oT [(sV "self" 217), (sV "code" 218), (sV "at" 219)]) (N (⟨(.type "frame"), none, .plain, ⟨[(some (rV 62)), (some (rV 3)), (some (rV 59)), none, (some (sV "framerune.kinds" 249)), none, (some (rV 0))]⟩⟩) (N (oT []) (N (oT []) (N o511 (N (oT []) E E) E) (N o767 E E)) (N (oT []) (N (oT []) E E) (N (oL []) E E))) (N (oL []) (N o319 (N o575 (N (oG (S 171) "_law_number") E E) E) (N (oT []) E E)) (N o447 (N (oT []) E E) (N (oM [(.builtin "type.__prepare__"), (.type "type")]) E E)))) (N (oT []) (N (oG (S 51) "prim_kind") (N o287 (N (oT [(sV "self" 1141), (sV "k" 1142)]) (N (oT []) E E) E) (N (oT []) E E)) (N (oT []) (N (oM [(.builtin "object.__init_subclass__"), (rV 669)]) E E) (N (oT []) E E))) (N o223 (N (oT []) (N (oT []) (N (oT []) E E) E) (N (oG (S 146) "own_hash") E E)) (N (oM [(.builtin "type.__prepare__"), (.type "type")]) (N (oT []) E E) (N (oT []) E E))))) (N (oC [(sV "BadKind" 235), (sV "BadKind" 236), (sV "/claim/cut.py" 237), (iV 13), (iV 0), (iV 0), (iV 0), (iV 0), (rV 45), (.bool false), (iV 181), (rV 46), .none, .none, .none, .none, (iV 238), (iV 13), (sV "/claim/cut.py" 239)]) (N (oL []) (N (oT [(sV "kt" 504), (sV "tid" 505), (sV "args" 506)]) (N o271 (N (oT []) (N o1039 E E) E) (N (oL []) E E)) (N (oC [(sV "Starter" 944), (sV "Starter" 945), (sV "/claim/cut.py" 946), (iV 337), (iV 0), (iV 0), (iV 0), (iV 0), (rV 397), (.bool false), (iV 181), (rV 398), .none, .none, .none, .none, (iV 947), (iV 337), (sV "/claim/cut.py" 948)]) (N (oT [(sV "self" 1305), (sV "text" 1306)]) E E) (N (oT []) E E))) (N (oG (S 59) "show_kind") (N o335 (N (oL []) (N o1103 E E) E) (N (oT [(sV "text" 1603), (sV "h" 1604), (sV "letter" 1605)]) E E)) (N o463 (N o719 E E) (N (⟨(.type "super"), none, (.fields ⟨[(rV 974), (rV 974), (rV 974)]⟩), ⟨[]⟩⟩) E E)))) (N o111 (N o175 (N (oM [(.builtin "type.__prepare__"), (.type "type")]) (N (oG (M 107 10) "Tray.closed_ref") (N (oT [(sV "w" 1927), (sV "i" 1928), (sV "j" 1929), (sV "gave" 1930), (sV "same" 1931)]) E E) E) (N o815 E E)) (N (oD [eK P "__module__" 998 (sV "framerune.mbase" 892), eK P "__qualname__" 1000 (sV "Sweeper" 999), eK P "__firstlineno__" 1002 (.int 347 1001), eK P "before" 1010 (rV 442), eK P "__static_attributes__" 1011 (rV 443)] 5) (N (oL []) E E) (N (oL [(iV 731), (iV 4), (rV 951)]) E E))) (N (oL []) (N o367 (N o623 E E) (N o879 E E)) (N (oT []) (N (oT [(sV "m" 1469), (sV "addr" 1470), (sV "slots" 1471)]) E E) (N (oG (S 158) "new_type") E E)))))) (N (oM [(.builtin "type.__prepare__"), (.type "type")]) (N o39 (N (oT []) (N (oL []) (N o263 (N o519 (N (oG (S 163) "_law_signed") E E) E) (N (oT []) E E)) (N o391 (N (oL []) E E) (N (oD [eK P "__module__" 1693 (sV "framerune.natives" 1512), eK P "__qualname__" 1695 (sV "ObjectToString" 1694), eK P "__firstlineno__" 1697 (.int 715 1696), eK P "call" 1708 (rV 914), eK P "__static_attributes__" 1709 (rV 915)] 5) E E))) (N o199 (N (oL [(iV 296), (iV 4), (rV 335)]) (N (oT []) (N o1095 E E) E) (N (oL []) E E)) (N (oC [(sV "KindCloser" 1021), (sV "KindCloser" 1022), (sV "/claim/cut.py" 1023), (iV 351), (iV 0), (iV 0), (iV 0), (iV 0), (rV 453), (.bool false), (iV 181), (rV 454), .none, .none, .none, .none, (iV 1024), (iV 351), (sV "/claim/cut.py" 1025)]) (N (oG (S 114) "pop_value") E E) (N (oT [(sV "self" 1782), (sV "m" 1783), (sV "f" 1784), (sV "args" 1785), (sV "thing" 1786), (sV "other" 1787)]) E E)))) (N (oG (S 43) "row_level") (N o167 (N (oT []) (N (oT []) (N (oL []) E E) E) (N (oG (S 138) "kind_names") E E)) (N (o423 P) (N (oT []) E E) (N (o935 P) E E))) (N (oT []) (N (oL []) (N (oG (M 108 0) "Shelf.__init__") (N (oG (S 177) "_law_own") E E) E) (N o871 E E)) (N (oT [(sV "self" 1074), (sV "store" 1075), (sV "heap" 1076)]) (N (oL []) E E) (N (oT []) E E))))) (N o55 (N o87 (N (oT []) (N o279 (N (oL []) (N o1047 E E) E) (N (oT [(sV "m" 1534), (sV "value" 1535)]) E E)) (N o407 (N (oT []) E E) (N (oM [(.builtin "object.__init_subclass__"), (rV 917)]) E E))) (N o215 (N (oM [(.builtin "object.__init_subclass__"), (rV 339)]) (N o599 (N (oT [(sV "w" 1981), (sV "x" 1982), (sV "y" 1983), (sV "z" 1984), (sV "many" 1985), (sV "old" 1986), (sV "kind" 1987), (sV "new" 1988), (sV "i" 1989)]) E E) E) (N (oT []) E E)) (N (oT []) (N o727 E E) (N (⟨(.type "frame"), none, .plain, ⟨[(some (rV 982)), (some (rV 3)), (some (rV 979)), none, (some (sV "framerune.natives" 1512)), none, (some (rV 0))]⟩⟩) E E)))) (N o119 (N (oT []) (N (oT [(sV "self" 785), (sV "addr" 786), (sV "kind" 787), (sV "slots" 788)]) (N o567 (N (oT []) E E) E) (N o823 E E)) (N (oT []) (N (oT [(sV "m" 1383), (sV "k" 1384), (sV "found" 1385)]) E E) (N o951 E E))) (N (oD [eK P "__module__" 678 (sV "framerune.store" 659), eK P "__qualname__" 680 (sV "Store" 679), eK P "__firstlineno__" 682 (.int 238 681), eK P "__init__" 689 (rV 258), eK P "__static_attributes__" 697 (rV 259)] 5) (N (oD [eK P "__module__" 919 (sV "framerune.mbase" 892), eK P "__qualname__" 921 (sV "Native" 920), eK P "__firstlineno__" 923 (.int 333 922), eK P "call" 933 (rV 386), eK P "__static_attributes__" 934 (rV 387)] 5) (N o631 E E) (N (oT []) E E)) (N (oG (M 107 2) "Tray.slots_of") (N o759 E E) (N (oT []) E E))))))) (N (oT []) (N (oG (S 0) "_wall") (N o35 (N (oT []) (N (oG (S 47) "check_args") (N (oT [(sV "asms" 690), (sV "entry" 691), (sV "fields_" 692), (sV "kt" 693), (sV "methods" 694), (sV "names" 695), (sV "types" 696)]) (N (oT [(sV "self" 1108), (sV "k" 1109)]) (N (oT []) E E) E) (N (oT []) E E)) (N (oT []) (N (oG (M 108 4) "Shelf.push_call") E E) (N o899 E E))) (N o195 (N (oT []) (N (oT []) (N (oL []) E E) E) (N (oG (S 142) "thing_text") E E)) (N (oM [(.builtin "type.__prepare__"), (.type "type")]) (N (oT []) E E) (N (oC [(sV "ValueEquals" 1769), (sV "ValueEquals" 1770), (sV "/claim/cut.py" 1771), (iV 736), (iV 0), (iV 0), (iV 0), (iV 0), (rV 961), (.bool false), (iV 181), (rV 962), .none, .none, .none, .none, (iV 1772), (iV 736), (sV "/claim/cut.py" 1773)]) E E)))) (N (oT []) (N (oL []) (N (oT []) (N o547 (N (oG (S 167) "_law_null") E E) E) (N (oT []) E E)) (N (oG (M 104 2) "Starter.failed") (N (oT []) E E) (N (oG (M 153 0) "ObjectHash.call") E E))) (N (oT []) (N (oL [(iV 321), (iV 4), (rV 363)]) (N (oT []) (N (oT []) E E) E) (N (oL []) E E)) (N (oC [(sV "Tray" 1061), (sV "Tray" 1062), (sV "/claim/cut.py" 1063), (iV 358), (iV 0), (iV 0), (iV 0), (iV 0), (rV 481), (.bool false), (iV 181), (rV 482), .none, .none, .none, .none, (iV 1064), (iV 358), (sV "/claim/cut.py" 1065)]) (N (oG (S 118) "made_text") E E) (N (oM [(.builtin "object.__init_subclass__"), (rV 993)]) E E))))) (N o51 (N o83 (N o147 (N (oL []) (N (oG (M 107 6) "Tray.target") (N (oT [(sV "w" 1888), (sV "spec" 1889), (sV "out" 1890), (sV "part" 1891), (sV "high" 1892), (sV "low" 1893), (sV "held" 1894)]) E E) E) (N o787 E E)) (N (oT [(sV "self" 957), (sV "m" 958), (sV "kind" 959), (sV "why" 960)]) (N o659 E E) (N (oT []) E E))) (N (oL []) (N o339 (N o595 (N o1107 E E) E) (N o851 E E)) (N (oT []) (N (oT [(sV "m" 1423), (sV "kind" 1424), (sV "count" 1425)]) E E) (N (oD [eK P "__module__" 1802 (sV "framerune.natives" 1512), eK P "__qualname__" 1804 (sV "ValueHash" 1803), eK P "__firstlineno__" 1806 (.int 746 1805), eK P "call" 1817 (rV 990), eK P "__static_attributes__" 1818 (rV 991)] 5) E E)))) (N (oT [(sV "kt" 468), (sV "row" 469), (sV "sort" 470), (sV "inner" 471)]) (N (oT []) (N (oC [(sV "Thing" 772), (sV "Thing" 773), (sV "/claim/cut.py" 774), (iV 285), (iV 0), (iV 0), (iV 0), (iV 0), (rV 305), (.bool false), (iV 181), (rV 306), .none, .none, .none, .none, (iV 775), (iV 285), (sV "/claim/cut.py" 776)]) (N (oL []) (N o1075 E E) E) (N (oT [(sV "kind" 1566), (sV "n" 1567)]) E E)) (N (⟨(.type "frame"), none, .plain, ⟨[(some (rV 434)), (some (rV 3)), (some (rV 431)), none, (some (sV "framerune.mbase" 892)), none, (some (rV 0))]⟩⟩) (N o691 E E) (N (oL []) E E))) (N o243 (N (oM [(.builtin "object.__init_subclass__"), (rV 367)]) (N (oT [(sV "self" 1270), (sV "k" 1271)]) E E) (N (oT []) E E)) (N (oT []) (N o755 E E) (N (oL []) E E)))))) (N (oC [(sV "RuneError" 204), (sV "RuneError" 205), (sV "/claim/cut.py" 206), (iV 8), (iV 0), (iV 0), (iV 0), (iV 0), (rV 25), (.bool false), (iV 181), (rV 26), .none, .none, .none, .none, (iV 207), (iV 8), (sV "/claim/cut.py" 208)]) (N (oM [(.builtin "type.__prepare__"), (.type "type")]) (N (oG (M 41 1) "KindTable.row") (N o139 (N (oL []) (N (oT []) (N (oL []) E E) E) (N (oG (S 128) "delegate_equal") E E)) (N (oM [(.builtin "type.__prepare__"), (.type "type")]) (N o651 E E) (N (⟨(.type "frame"), none, .plain, ⟨[(some (rV 906)), (some (rV 3)), (some (rV 903)), none, (some (sV "framerune.natives" 1512)), none, (some (rV 0))]⟩⟩) E E))) (N (oT []) (N (oL []) (N (oG (M 107 14) "Tray.throw_new") (N (oT [(sV "w" 1966), (sV "kind" 1967), (sV "z" 1968)]) E E) E) (N o843 E E)) (N (oT [(sV "self" 1034), (sV "m" 1035), (sV "f" 1036), (sV "k" 1037)]) (N (oL []) E E) (N o971 E E)))) (N (oL []) (N (oT [(sV "kt" 538), (sV "k" 539), (sV "row" 540)]) (N (oG (S 89) "words_for") (N (oT []) (N o1067 E E) E) (N (oL []) E E)) (N (⟨(.type "super"), none, (.fields ⟨[(rV 424), (rV 424), (rV 424)]⟩), ⟨[]⟩⟩) (N (oG (S 110) "told_row") E E) (N (oT [(rV 389)]) E E))) (N (oG (S 63) "show_name") (N o363 (N (oL []) (N (oL []) E E) E) (N (oT [(sV "m" 1641), (sV "a" 1642), (sV "b" 1643), (sV "seen" 1644), (sV "one" 1645), (sV "other" 1646)]) E E)) (N o491 (N o747 E E) (N (oT []) E E))))) (N (oD [eK P "__module__" 393 (sV "framerune.kinds" 249), eK P "__qualname__" 395 (sV "KindTable" 394), eK P "__firstlineno__" 397 (.int 49 396), eK P "__init__" 406 (rV 70), eK P "row" 414 (rV 77), eK P "put" 429 (rV 84), eK P "__static_attributes__" 435 (rV 85)] 7) (N (oM [(.builtin "object.__init_subclass__"), (rV 87)]) (N (oT []) (N (oT [(sV "n" 744)]) (N o539 (N (oT []) E E) E) (N o795 E E)) (N (oT []) (N (oT [(sV "by_number" 1318), (sV "calls" 1319), (sV "chases" 1320), (sV "closer" 1321), (sV "defaults" 1322), (sV "fails" 1323), (sV "finals" 1324), (sV "frames" 1325), (sV "handles" 1326), (sV "heap" 1327), (sV "held" 1328), (sV "inits" 1329), (sV "interned" 1330), (sV "internv" 1331), (sV "kin" 1332), (sV "kt" 1333), (sV "last" 1334), (sV "natives" 1335), (sV "ops" 1336), (sV "places" 1337), (sV "pushed" 1338), (sV "result" 1339), (sV "rows" 1340), (sV "starter" 1341), (sV "state" 1342), (sV "statics" 1343), (sV "store" 1344), (sV "sweeper" 1345), (sV "targets" 1346), (sV "thrown" 1347), (sV "told" 1348), (sV "unders" 1349), (sV "unhandled" 1350)]) E E) (N (oT []) E E))) (N (oT [(sV "kt" 612), (sV "k" 613), (sV "names" 614), (sV "level" 615), (sV "texts" 616), (sV "before" 617), (sV "behind" 618), (sV "row" 619), (sV "words" 620)]) (N (oT []) (N (oM [(.builtin "object.__init_subclass__"), (rV 599)]) (N o1115 E E) E) (N (oT []) E E)) (N o475 (N (oT []) E E) (N (oT []) E E)))) (N (oT []) (N (oG (S 55) "is_value") (N o315 (N (oT [(sV "self" 1176), (sV "code" 1177)]) (N (oT []) E E) E) (N (oT []) E E)) (N (oT []) (N o699 E E) (N o955 E E))) (N (⟨(.type "frame"), none, .plain, ⟨[(some (rV 250)), (some (rV 3)), (some (rV 247)), none, (some (sV "framerune.store" 659)), none, (some (rV 0))]⟩⟩) (N (⟨(.type "frame"), none, .plain, ⟨[(some (rV 378)), (some (rV 3)), (some (rV 375)), none, (some (sV "framerune.mbase" 892)), none, (some (rV 0))]⟩⟩) (N (oT []) E E) (N (oG (S 150) "same_pair") E E)) (N (oL []) (N (oT [(sV "m" 1484), (sV "addr" 1485), (sV "t" 1486)]) E E) (N o1019 E E)))))))) (N (o5 P) (N (boot_o_9 P) (N (oT [(sV "k" 190)]) (N (oG (M 5 0) "RuneError.__init__") (N (oL []) (N (oT [(sV "kt" 486), (sV "args" 487), (sV "arg" 488)]) (N o257 (N (oT []) (N o1025 E E) E) (N (oL []) E E)) (N o385 (N (oT [(sV "self" 1287), (sV "mref" 1288), (sV "args" 1289), (sV "sort" 1290)]) E E) (N (oT []) E E))) (N (oT []) (N (⟨(.type "super"), none, (.fields ⟨[(rV 318), (rV 318), (rV 318)]⟩), ⟨[]⟩⟩) (N (oL []) (N o1089 E E) E) (N (oT [(sV "m" 1586), (sV "thing" 1587), (sV "t" 1588)]) E E)) (N (oM [(.builtin "object.__init_subclass__"), (rV 445)]) (N o705 E E) (N (oT []) E E)))) (N o97 (N o161 (N (oL []) (N (oG (M 107 8) "Tray.plain") (N (oT [(sV "w" 1910), (sV "gave" 1911), (sV "good" 1912)]) E E) E) (N o801 E E)) (N (oT [(sV "self" 976), (sV "m" 977), (sV "kind" 978), (sV "addr" 979)]) (N (oL []) E E) (N (oT [(sV "self" 1728), (sV "m" 1729), (sV "f" 1730), (sV "args" 1731), (sV "thing" 1732)]) E E))) (N (oL []) (N (oD [eK P "__module__" 866 (sV "framerune.places" 857), eK P "__qualname__" 868 (sV "PlaceHost" 867), eK P "__firstlineno__" 870 (.int 319 869), eK P "__init__" 880 (rV 364), eK P "__static_attributes__" 884 (rV 365)] 5) (N (oC [(sV "Shelf" 1239), (sV "Shelf" 1240), (sV "/claim/cut.py" 1241), (iV 427), (iV 0), (iV 0), (iV 0), (iV 0), (rV 607), (.bool false), (iV 181), (rV 608), .none, .none, .none, .none, (iV 1242), (iV 427), (sV "/claim/cut.py" 1243)]) (N o1121 E E) E) (N o865 E E)) (N (oT []) (N (oT [(sV "m" 1441), (sV "text" 1442), (sV "thing" 1443)]) E E) (N o993 E E))))) (N (oT []) (N (oT []) (N (oG (S 49) "class_kind") (N o273 (N (oT [(sV "self" 1124), (sV "exact" 1125), (sV "mref" 1126)]) (N (oT []) E E) E) (N (oT []) E E)) (N (oT []) (N (oG (M 108 6) "Shelf.text_ref") E E) (N o913 E E))) (N o209 (N (oT [(sV "at" 827), (sV "card_bits" 828), (sV "cards" 829), (sV "finals" 830), (sV "fresh" 831), (sV "limit" 832), (sV "made" 833), (sV "moved" 834), (sV "ready" 835), (sV "things" 836), (sV "top" 837), (sV "young_limit" 838)]) (N (oT []) (N (oL []) E E) E) (N (oG (S 144) "text_hash") E E)) (N (oL []) (N (oT []) E E) (N (oT [(rV 389)]) E E)))) (N (oT []) (N (oL []) (N (oT []) (N o561 (N (oG (S 169) "_law_equals") E E) E) (N (oT []) E E)) (N (oL [(iV 349), (iV 4), (rV 441)]) (N (oT []) E E) (N (⟨(.type "frame"), none, .plain, ⟨[(some (rV 944)), (some (rV 3)), (some (rV 941)), none, (some (sV "framerune.natives" 1512)), none, (some (rV 0))]⟩⟩) E E))) (N (oT []) (N o369 (N (oT []) E E) (N (oL []) E E)) (N o497 (N (oG (S 124) "entry_key") E E) (N o1009 E E)))))) (N (oT []) (N (oM [(.builtin "object.__init_subclass__"), (rV 38)]) (N (oT [(sV "self" 410), (sV "k" 411)]) (N (oT []) (N (oM [(.builtin "object.__init_subclass__"), (rV 261)]) (N (oL []) (N o1033 E E) E) (N (oT [(sV "m" 1506), (sV "a" 1507), (sV "b" 1508)]) E E)) (N (oM [(.builtin "object.__init_subclass__"), (rV 389)]) (N (oT []) E E) (N (oL [(iV 717), (iV 4), (rV 913)]) E E))) (N o201 (N (⟨(.type "frame"), none, .plain, ⟨[(some (rV 328)), (some (rV 3)), (some (rV 325)), none, (some (sV "framerune.heap" 755)), none, (some (rV 0))]⟩⟩) (N (oT [(sV "self" 1192), (sV "tid" 1193), (sV "text" 1194)]) (N (oT []) E E) E) (N (oT []) E E)) (N (oT []) (N o713 E E) (N (oG (M 155 0) "ValueEquals.call") E E)))) (N o105 (N (oT []) (N (oT [(sV "count" 766)]) (N o553 (N (oT []) E E) E) (N o809 E E)) (N o425 (N (oT [(sV "m" 1366), (sV "k" 1367), (sV "row" 1368)]) E E) (N (⟨(.type "super"), none, (.fields ⟨[(rV 936), (rV 936), (rV 936)]⟩), ⟨[]⟩⟩) E E))) (N (oT [(sV "tid" 641), (sV "names" 642)]) (N (oT []) (N o617 (N o1129 E E) E) (N (oT []) E E)) (N (oG (M 107 0) "Tray.__init__") (N (oT []) E E) (N o1001 E E))))) (N (oT []) (N o89 (N o153 (N (oT []) (N (oT []) (N (oL []) E E) E) (N (oG (S 136) "thing_named") E E)) (N (oL []) (N o665 E E) (N (oM [(.builtin "type.__prepare__"), (.type "type")]) E E))) (N (oT []) (N (oL []) (N o601 (N (oG (S 175) "_law_step") E E) E) (N o857 E E)) (N o473 (N (oL []) E E) (N (oL []) E E)))) (N (oL []) (N (oT [(sV "kt" 556), (sV "k" 557)]) (N (oG (M 90 0) "Thing.__init__") (N (oT []) (N o1081 E E) E) (N (oL []) E E)) (N o441 (N (oG (S 112) "told_default") E E) (N (oT []) E E))) (N (oL [(iV 240), (iV 4), (rV 257)]) (N (oL [(iV 335), (iV 4), (rV 385)]) (N (oL []) E E) (N (oT [(sV "m" 1663), (sV "a" 1664), (sV "b" 1665), (sV "seen" 1666)]) E E)) (N o505 (N (oT []) E E) (N (oG (S 161) "_law_canon") E E))))))) (N (oC [(sV "<module>" 182), (sV "<module>" 183), (sV "/claim/cut.py" 184), (iV 1), (iV 0), (iV 0), (iV 0), (iV 0), (rV 11), (.bool false), (iV 181), (rV 12), .none, .none, .none, .none, (iV 185), (iV 1), (sV "/claim/cut.py" 186)]) (N o21 (N (o37 P) (N o69 (N o133 (N o261 (N (oG (M 107 4) "Tray.skinds_of") (N (oT [(sV "n" 1871), (sV "bits" 1872)]) E E) E) (N o773 E E)) (N o389 (N o645 E E) (N (oT [(rV 389)]) E E))) (N o197 (N (oD [eK P "__module__" 813 (sV "framerune.heap" 755), eK P "__qualname__" 815 (sV "Heap" 814), eK P "__firstlineno__" 817 (.int 294 816), eK P "__init__" 826 (rV 336), eK P "__static_attributes__" 839 (rV 337)] 5) (N o581 (N (oT []) E E) E) (N o837 E E)) (N (oT []) (N (oT [(sV "m" 1403), (sV "f" 1404)]) E E) (N (oT []) E E)))) (N (oT [(sV "sort" 454)]) (N (oT []) (N o293 (N (oL []) (N o1061 E E) E) (N (oT [(sV "store" 1549), (sV "names" 1550), (sV "tid" 1551)]) E E)) (N o421 (N o677 E E) (N o933 E E))) (N o229 (N (⟨(.type "frame"), none, .plain, ⟨[(some (rV 356)), (some (rV 3)), (some (rV 353)), none, (some (sV "framerune.places" 857)), none, (some (rV 0))]⟩⟩) (N (oT [(sV "self" 1252), (sV "store" 1253), (sV "heap" 1254)]) (N (oT [(sV "w" 2007), (sV "m" 2008), (sV "this" 2009), (sV "said" 2010), (sV "typed" 2011), (sV "number" 2012)]) E E) E) (N (oT []) E E)) (N (oT []) (N o741 E E) (N (oL []) E E))))) (N (oM [(.builtin "object.__init_subclass__"), (rV 51)]) (N (oT [(sV "depths" 430), (sV "index" 431), (sV "opens" 432), (sV "rows" 433), (sV "weights" 434)]) (N (oL []) (N (oT []) (N o533 (N (oG (S 165) "_law_parts") E E) E) (N (oT []) E E)) (N (oG (M 104 0) "Starter.need") (N (oL []) E E) (N o917 E E))) (N (oT []) (N o341 (N (oT [(sV "by_number" 1208), (sV "calls" 1209), (sV "closer" 1210), (sV "defaults" 1211), (sV "frames" 1212), (sV "heap" 1213), (sV "held" 1214), (sV "inits" 1215), (sV "kin" 1216), (sV "kt" 1217), (sV "ops" 1218), (sV "places" 1219), (sV "rows" 1220), (sV "starter" 1221), (sV "state" 1222), (sV "statics" 1223), (sV "store" 1224), (sV "targets" 1225), (sV "thrown" 1226), (sV "told" 1227), (sV "unders" 1228)]) (N (oT []) E E) E) (N (oL []) E E)) (N o469 (N (oG (S 116) "alloc_thing") E E) (N (oL [(iV 748), (iV 4), (rV 989)]) E E)))) (N (oG (S 45) "check_kind_row") (N o181 (N (oT []) (N (oT []) (N (oL []) E E) E) (N (oG (S 140) "plain_number") E E)) (N (oL []) (N (oT []) E E) (N (oT []) E E))) (N (oT []) (N (oT []) (N (oG (M 108 2) "Shelf.finalised") E E) (N o885 E E)) (N (oT [(sV "self" 1092), (sV "k" 1093)]) (N (oL []) E E) (N o1013 E E)))))) (N (oT []) (N (oT []) (N o77 (N (oT []) (N (oT []) (N o525 (N (oT []) E E) E) (N o781 E E)) (N (oT []) (N (oT []) E E) (N (oL []) E E))) (N (oT [(sV "kt" 591), (sV "k" 592), (sV "names" 593)]) (N (oT []) (N o589 (N (oG (S 173) "_law_spec") E E) E) (N (oT []) E E)) (N (oG (M 106 0) "KindCloser.kind") (N (oT []) E E) (N (o973 P) E E)))) (N (oT []) (N (oG (S 53) "elem_of") (N o301 (N (oT [(sV "self" 1158), (sV "f" 1159), (sV "fref" 1160)]) (N (oT []) E E) E) (N (oT []) E E)) (N (oT []) (N o685 E E) (N (oD [eK P "__module__" 1747 (sV "framerune.natives" 1512), eK P "__qualname__" 1749 (sV "ObjectGetType" 1748), eK P "__firstlineno__" 1751 (.int 729 1750), eK P "call" 1762 (rV 952), eK P "__static_attributes__" 1763 (rV 953)] 5) E E))) (N o237 (N (oT [(sV "frames" 881), (sV "heap" 882), (sV "statics" 883)]) (N (oT []) (N o1133 E E) E) (N (oG (S 148) "same_things") E E)) (N (oL []) (N (oT []) E E) (N (oT [(sV "m" 1832), (sV "kind" 1833), (sV "key" 1834), (sV "place" 1835), (sV "thing" 1836)]) E E))))) (N (oL [(iV 51), (iV 4), (rV 69), (iV 65), (iV 4), (rV 76), (iV 70), (iV 4), (rV 83)]) (N (oL []) (N (oT [(sV "tid" 522), (sV "args" 523)]) (N (oG (S 83) "wrap32") (N (oT []) (N o1053 E E) E) (N (oL []) E E)) (N o413 (N o669 E E) (N (oC [(sV "ObjectHash" 1715), (sV "ObjectHash" 1716), (sV "/claim/cut.py" 1717), (iV 722), (iV 0), (iV 0), (iV 0), (iV 0), (rV 923), (.bool false), (iV 181), (rV 924), .none, .none, .none, .none, (iV 1718), (iV 722), (sV "/claim/cut.py" 1719)]) E E))) (N (oG (S 61) "show_parts") (N o349 (N (oM [(.builtin "type.__prepare__"), (.type "type")]) (N (oL []) E E) E) (N (oT [(sV "m" 1620), (sV "value" 1621), (sV "thing" 1622)]) E E)) (N (oM [(.builtin "object.__init_subclass__"), (rV 473)]) (N o733 E E) (N o989 E E)))) (N o125 (N o189 (N (o317 P) (N (oG (M 107 12) "Tray.wrong") (N (oT [(sV "kind" 1948), (sV "z" 1949), (sV "bits" 1950), (sV "n" 1951)]) E E) E) (N o829 E E)) (N o445 (N (oL []) E E) (N (oM [(.builtin "object.__init_subclass__"), (rV 955)]) E E))) (N (oL []) (N (oL []) (N o637 E E) (N o893 E E)) (N (oT []) (N (oG (S 126) "is_delegate") E E) (N (oL []) E E))))))))) (N (o2 P) (N (o4 P) (N (boot_o_8 P) (N (oL []) (N (oT []) (N (oT []) (N (oL []) (N (oG (M 71 0) "Store.__init__") (N o512 (N (oG (S 162) "_law_new") E E) E) (N (oT []) E E)) (N (oG (M 103 0) "Native.call") (N (oL []) E E) (N (oT [(sV "m" 1673), (sV "a" 1674), (sV "b" 1675), (sV "work" 1676), (sV "seen" 1677), (sV "x" 1678), (sV "y" 1679), (sV "same" 1680), (sV "more" 1681), (sV "pair" 1682)]) E E))) (N (oT [(sV "kt" 564), (sV "k" 565), (sV "sort" 566)]) (N o320 (N (oT []) (N o1088 E E) E) (N (oL []) E E)) (N (⟨(.type "super"), none, (.fields ⟨[(rV 445), (rV 445), (rV 445)]⟩), ⟨[]⟩⟩) (N (oG (S 113) "tell_wrong") E E) (N (oD [eK P "__module__" 1774 (sV "framerune.natives" 1512), eK P "__qualname__" 1776 (sV "ValueEquals" 1775), eK P "__firstlineno__" 1778 (.int 736 1777), eK P "call" 1790 (rV 971), eK P "__static_attributes__" 1791 (rV 972)] 5) E E)))) (N (oG (S 42) "inner_kinds") (N o160 (N (oT []) (N (oT []) (N (oL []) E E) E) (N (oG (S 137) "no_object") E E)) (N (oL []) (N (oT []) E E) (N (oL []) E E))) (N (oT []) (N (oM [(.builtin "type.__prepare__"), (.type "type")]) (N (oL [(iV 429), (iV 4), (rV 616), (iV 464), (iV 4), (rV 623), (iV 467), (iV 4), (rV 630), (iV 470), (iV 4), (rV 637), (iV 473), (iV 4), (rV 644), (iV 476), (iV 4), (rV 651), (iV 479), (iV 4), (rV 658), (iV 482), (iV 4), (rV 665)]) (N (oG (S 176) "_law_begin") E E) E) (N o864 E E)) (N (oD [eK P "__module__" 1066 (sV "framerune.mbase" 892), eK P "__qualname__" 1068 (sV "Tray" 1067), eK P "__firstlineno__" 1070 (.int 358 1069), eK P "__init__" 1079 (rV 491), eK P "is_a" 1088 (rV 498), eK P "slots_of" 1096 (rV 505), eK P "kinds_of" 1104 (rV 512), eK P "skinds_of" 1112 (rV 519), eK P "slot_place" 1120 (rV 526), eK P "target" 1129 (rV 533), eK P "default" 1137 (rV 540), eK P "plain" 1145 (rV 547), eK P "closed" 1154 (rV 554), eK P "closed_ref" 1163 (rV 561), eK P "alloc" 1172 (rV 568), eK P "wrong" 1180 (rV 575), eK P "pop" 1188 (rV 582), eK P "throw_new" 1197 (rV 589), eK P "push_call" 1207 (rV 596), eK P "__static_attributes__" 1229 (rV 597)] 20) (N (oL []) E E) (N (o992 P) E E))))) (N (⟨(.type "frame"), none, .plain, ⟨[(some (rV 47)), (some (rV 3)), (some (rV 44)), none, (some (sV "framerune.faults" 194)), none, (some (rV 0))]⟩⟩) (N (oT [(sV "self" 418), (sV "row" 419), (sV "found" 420), (sV "depth" 421), (sV "weight" 422), (sV "opened" 423), (sV "level" 424), (sV "inner" 425), (sV "k" 426)]) (N (oT []) (N o272 (N (oL []) (N o1040 E E) E) (N (oT [(sV "yes" 1527)]) E E)) (N (⟨(.type "frame"), none, .plain, ⟨[(some (rV 399)), (some (rV 3)), (some (rV 396)), none, (some (sV "framerune.mbase" 892)), none, (some (rV 0))]⟩⟩) (N (oT []) E E) (N (oG (M 152 0) "ObjectToString.call") E E))) (N o208 (N o336 (N (oT [(sV "self" 1201), (sV "mref" 1202), (sV "args" 1203), (sV "sort" 1204)]) (N (oT []) E E) E) (N (oT []) E E)) (N (oT []) (N o720 E E) (N (oM [(.builtin "object.__init_subclass__"), (rV 974)]) E E)))) (N o112 (N (oT []) (N (oD [eK P "__module__" 777 (sV "framerune.heap" 755), eK P "__qualname__" 779 (sV "Thing" 778), eK P "__firstlineno__" 781 (.int 285 780), eK P "__init__" 791 (rV 315), eK P "__static_attributes__" 798 (rV 316)] 5) (N o560 (N (oT []) E E) E) (N o816 E E)) (N (oT []) (N (oT [(sV "row" 1375), (sV "mref" 1376)]) E E) (N (oC [(sV "ObjectGetType" 1742), (sV "ObjectGetType" 1743), (sV "/claim/cut.py" 1744), (iV 729), (iV 0), (iV 0), (iV 0), (iV 0), (rV 942), (.bool false), (iV 181), (rV 943), .none, .none, .none, .none, (iV 1745), (iV 729), (sV "/claim/cut.py" 1746)]) E E))) (N (oT [(sV "kt" 649), (sV "args" 650), (sV "names" 651), (sV "level" 652), (sV "texts" 653), (sV "out" 654), (sV "arg" 655)]) (N o368 (N o624 E E) (N (oT []) E E)) (N (oG (M 107 1) "Tray.is_a") (N (oT []) E E) (N o1008 E E)))))) (N (oD [eK P "__module__" 209 (sV "framerune.faults" 194), eK P "__qualname__" 211 (sV "RuneError" 210), eK P "__firstlineno__" 213 (.int 8 212), eK P "__init__" 222 (rV 35), eK P "__static_attributes__" 225 (rV 36)] 5) (N (⟨(.type "super"), none, (.fields ⟨[(rV 38), (rV 38), (rV 38)]⟩), ⟨[]⟩⟩) (N (oL []) (N (oT [(sV "kt" 495), (sV "k" 496), (sV "sort" 497)]) (N (⟨(.type "super"), none, (.fields ⟨[(rV 261), (rV 261), (rV 261)]⟩), ⟨[]⟩⟩) (N (oT []) (N o1032 E E) E) (N (oL []) E E)) (N (⟨(.type "super"), none, (.fields ⟨[(rV 389), (rV 389), (rV 389)]⟩), ⟨[]⟩⟩) (N (oT [(sV "self" 1297), (sV "addr" 1298)]) E E) (N (oT []) E E))) (N o200 (N (oC [(sV "Heap" 808), (sV "Heap" 809), (sV "/claim/cut.py" 810), (iV 294), (iV 0), (iV 0), (iV 0), (iV 0), (rV 326), (.bool false), (iV 181), (rV 327), .none, .none, .none, .none, (iV 811), (iV 294), (sV "/claim/cut.py" 812)]) (N (oL []) (N o1096 E E) E) (N (oT [(sV "kind" 1595), (sV "n" 1596)]) E E)) (N (⟨(.type "frame"), none, .plain, ⟨[(some (rV 455)), (some (rV 3)), (some (rV 452)), none, (some (sV "framerune.mbase" 892)), none, (some (rV 0))]⟩⟩) (N o712 E E) (N (oT []) E E)))) (N o104 (N o168 (N (oL []) (N (oG (M 107 9) "Tray.closed") (N (oT [(sV "w" 1919), (sV "i" 1920)]) E E) E) (N o808 E E)) (N o424 (N (oL []) E E) (N o936 E E))) (N (oL []) (N (oT [(sV "self" 874), (sV "heap" 875), (sV "frames" 876), (sV "statics" 877)]) (N o616 (N o1128 E E) E) (N o872 E E)) (N (oT []) (N (oT [(sV "m" 1458), (sV "addr" 1459), (sV "rows" 1460), (sV "out" 1461), (sV "value" 1462)]) E E) (N (oG (S 157) "install_native_object") E E))))) (N o56 (N o88 (N (oG (S 50) "value_kind") (N o280 (N (oT [(sV "self" 1133), (sV "k" 1134)]) (N (oT []) E E) E) (N (oT []) E E)) (N (oT []) (N (oG (M 108 7) "Shelf.new_text") E E) (N (oT [(rV 389)]) E E))) (N o216 (N (oT []) (N o600 (N (oT []) E E) E) (N (oG (S 145) "is_box") E E)) (N (o472 P) (N (oT []) E E) (N (oT []) E E)))) (N (oT []) (N (oL []) (N (oT []) (N o568 (N (oG (S 170) "_law_marked") E E) E) (N (oT []) E E)) (N (oG (M 105 0) "Sweeper.before") (N (oT []) E E) (N o952 E E))) (N (oT []) (N (oT []) (N (oT []) E E) (N (oL []) E E)) (N o504 (N o760 E E) (N (oL []) E E))))))) (N (oL [(iV 1), (iV 0), (rV 20), (iV 8), (iV 0), (rV 27), (iV 13), (iV 0), (rV 47), (iV 49), (iV 0), (rV 62), (iV 98), (iV 0), (rV 97), (iV 107), (iV 0), (rV 104), (iV 111), (iV 0), (rV 111), (iV 117), (iV 0), (rV 118), (iV 139), (iV 0), (rV 125), (iV 143), (iV 0), (rV 132), (iV 147), (iV 0), (rV 139), (iV 152), (iV 0), (rV 146), (iV 156), (iV 0), (rV 153), (iV 160), (iV 0), (rV 160), (iV 164), (iV 0), (rV 167), (iV 166), (iV 0), (rV 174), (iV 171), (iV 0), (rV 181), (iV 180), (iV 0), (rV 188), (iV 184), (iV 0), (rV 195), (iV 189), (iV 0), (rV 208), (iV 191), (iV 0), (rV 215), (iV 196), (iV 0), (rV 222), (iV 207), (iV 0), (rV 229), (iV 219), (iV 0), (rV 236), (iV 223), (iV 0), (rV 243), (iV 238), (iV 0), (rV 250), (iV 248), (iV 0), (rV 271), (iV 262), (iV 0), (rV 279), (iV 267), (iV 0), (rV 286), (iV 269), (iV 0), (rV 293), (iV 281), (iV 0), (rV 300), (iV 285), (iV 0), (rV 307), (iV 294), (iV 0), (rV 328), (iV 309), (iV 0), (rV 349), (iV 319), (iV 0), (rV 356), (iV 333), (iV 0), (rV 378), (iV 337), (iV 0), (rV 399), (iV 347), (iV 0), (rV 434), (iV 351), (iV 0), (rV 455), (iV 358), (iV 0), (rV 483), (iV 427), (iV 0), (rV 609), (iV 484), (iV 0), (rV 677), (iV 488), (iV 0), (rV 684), (iV 493), (iV 0), (rV 691), (iV 497), (iV 0), (rV 698), (iV 502), (iV 0), (rV 705), (iV 513), (iV 0), (rV 712), (iV 518), (iV 0), (rV 719), (iV 533), (iV 0), (rV 726), (iV 536), (iV 0), (rV 733), (iV 542), (iV 0), (rV 740), (iV 550), (iV 0), (rV 747), (iV 561), (iV 0), (rV 754), (iV 567), (iV 0), (rV 759), (iV 569), (iV 0), (rV 766), (iV 572), (iV 0), (rV 773), (iV 581), (iV 0), (rV 780), (iV 593), (iV 0), (rV 787), (iV 597), (iV 0), (rV 794), (iV 599), (iV 0), (rV 801), (iV 602), (iV 0), (rV 808), (iV 608), (iV 0), (rV 815), (iV 610), (iV 0), (rV 822), (iV 616), (iV 0), (rV 829), (iV 623), (iV 0), (rV 836), (iV 630), (iV 0), (rV 843), (iV 638), (iV 0), (rV 850), (iV 643), (iV 0), (rV 857), (iV 645), (iV 0), (rV 864), (iV 664), (iV 0), (rV 871), (iV 674), (iV 0), (rV 878), (iV 689), (iV 0), (rV 885), (iV 694), (iV 0), (rV 892), (iV 704), (iV 0), (rV 899), (iV 715), (iV 0), (rV 906), (iV 722), (iV 0), (rV 925), (iV 729), (iV 0), (rV 944), (iV 736), (iV 0), (rV 963), (iV 746), (iV 0), (rV 982), (iV 753), (iV 0), (rV 1001), (iV 759), (iV 0), (rV 1008), (iV 770), (iV 0), (rV 1013), (iV 778), (iV 0), (rV 1018), (iV 784), (iV 0), (rV 1025), (iV 802), (iV 0), (rV 1032), (iV 804), (iV 0), (rV 1039), (iV 809), (iV 0), (rV 1046), (iV 829), (iV 0), (rV 1053), (iV 831), (iV 0), (rV 1060), (iV 835), (iV 0), (rV 1067), (iV 839), (iV 0), (rV 1074), (iV 847), (iV 0), (rV 1081), (iV 852), (iV 0), (rV 1088), (iV 862), (iV 0), (rV 1095), (iV 864), (iV 0), (rV 1102), (iV 872), (iV 0), (rV 1107), (iV 884), (iV 0), (rV 1114), (iV 905), (iV 0), (rV 1121), (iV 911), (iV 0), (rV 1128), (iV 924), (iV 0), (rV 1133)]) (N o20 (N (oT [(sV "at" 223), (sV "code" 224)]) (N (oG (M 41 0) "KindTable.__init__") (N o132 (N (o260 P) (N (oT []) (N (oL []) E E) E) (N (oG (S 127) "delegate_hash") E E)) (N (o388 P) (N o644 E E) (N o900 E E))) (N o196 (N (oM [(.builtin "type.__prepare__"), (.type "type")]) (N (oG (M 107 13) "Tray.pop") (N (oT [(sV "w" 1958), (sV "z" 1959)]) E E) E) (N o836 E E)) (N (oD [eK P "__module__" 1026 (sV "framerune.mbase" 892), eK P "__qualname__" 1028 (sV "KindCloser" 1027), eK P "__firstlineno__" 1030 (.int 351 1029), eK P "kind" 1040 (rV 463), eK P "ref" 1050 (rV 470), eK P "__static_attributes__" 1051 (rV 471)] 6) (N (oL []) E E) (N (⟨(.type "frame"), none, .plain, ⟨[(some (rV 963)), (some (rV 3)), (some (rV 960)), none, (some (sV "framerune.natives" 1512)), none, (some (rV 0))]⟩⟩) E E)))) (N (oL []) (N (oT [(sV "kt" 530), (sV "k" 531)]) (N (oG (S 84) "plain_default") (N (oT []) (N o1060 E E) E) (N (oL []) E E)) (N o420 (N (oG (S 109) "note_thrown") E E) (N o932 E E))) (N (oG (S 62) "show_core") (N (oC [(sV "PlaceHost" 861), (sV "PlaceHost" 862), (sV "/claim/cut.py" 863), (iV 319), (iV 0), (iV 0), (iV 0), (iV 0), (rV 354), (.bool false), (iV 181), (rV 355), .none, .none, .none, .none, (iV 864), (iV 319), (sV "/claim/cut.py" 865)]) (N (oL []) (N (oL []) E E) E) (N (oT [(sV "m" 1629), (sV "value" 1630), (sV "work" 1631), (sV "h" 1632), (sV "one" 1633), (sV "inner" 1634)]) E E)) (N (⟨(.type "frame"), none, .plain, ⟨[(some (rV 483)), (some (rV 3)), (some (rV 480)), none, (some (sV "framerune.mbase" 892)), none, (some (rV 0))]⟩⟩) (N o740 E E) (N (oT []) E E))))) (N (⟨(.type "super"), none, (.fields ⟨[(rV 51), (rV 51), (rV 51)]⟩), ⟨[]⟩⟩) (N o84 (N (oT []) (N (oT [(sV "n" 736), (sV "bits" 737)]) (N o532 (N (oT []) E E) E) (N o788 E E)) (N (oT []) (N (oT []) E E) (N (o916 P) E E))) (N (oT [(sV "kt" 600), (sV "k" 601), (sV "names" 602), (sV "level" 603), (sV "texts" 604), (sV "key" 605)]) (N o340 (N o596 (N o1108 E E) E) (N (oT []) E E)) (N (oG (M 106 1) "KindCloser.ref") (N (oT []) E E) (N (oT []) E E)))) (N (oT []) (N (oG (S 54) "tid_of") (N (⟨(.type "frame"), none, .plain, ⟨[(some (rV 307)), (some (rV 3)), (some (rV 304)), none, (some (sV "framerune.heap" 755)), none, (some (rV 0))]⟩⟩) (N (oT [(sV "self" 1167), (sV "kind" 1168), (sV "count" 1169)]) (N (oT []) E E) E) (N (oT []) E E)) (N (oT []) (N o692 E E) (N (oT [(sV "self" 1755), (sV "m" 1756), (sV "f" 1757), (sV "args" 1758), (sV "thing" 1759)]) E E))) (N o244 (N o372 (N (oT []) E E) (N (oG (S 149) "struct_pairs") E E)) (N (oL []) (N (oT []) E E) (N (oG (S 160) "_law_value") E E)))))) (N (⟨(.type "frame"), none, .plain, ⟨[(some (rV 27)), (some (rV 3)), (some (rV 24)), none, (some (sV "framerune.faults" 194)), none, (some (rV 0))]⟩⟩) (N (oD [eK P "__module__" 240 (sV "framerune.faults" 194), eK P "__qualname__" 242 (sV "BadKind" 241), eK P "__firstlineno__" 244 (.int 13 243), eK P "__static_attributes__" 245 (rV 49)] 4) (N o76 (N o140 (N (oT [(sV "store" 708), (sV "k" 709), (sV "tid" 710)]) (N (oG (M 107 5) "Tray.slot_place") (N (oT [(sV "text" 1879), (sV "whole" 1880), (sV "letter" 1881)]) E E) E) (N o780 E E)) (N (oD [eK P "__module__" 949 (sV "framerune.mbase" 892), eK P "__qualname__" 951 (sV "Starter" 950), eK P "__firstlineno__" 953 (.int 337 952), eK P "need" 963 (rV 407), eK P "done" 972 (rV 414), eK P "failed" 982 (rV 421), eK P "__static_attributes__" 983 (rV 422)] 7) (N o652 E E) (N (oT []) E E))) (N (oL []) (N (oT [(sV "self" 821), (sV "limit" 822), (sV "card_bits" 823)]) (N o588 (N (oT []) E E) E) (N o844 E E)) (N (oT []) (N (oT [(sV "m" 1411), (sV "kind" 1412), (sV "count" 1413), (sV "sort" 1414), (sV "out" 1415), (sV "k" 1416)]) E E) (N (oT []) E E)))) (N (oT [(sV "sort" 461)]) (N (oT []) (N o300 (N (oL []) (N o1068 E E) E) (N (oT [(sV "m" 1558), (sV "kind" 1559)]) E E)) (N (oM [(.builtin "object.__init_subclass__"), (rV 424)]) (N o684 E E) (N (oM [(.builtin "type.__prepare__"), (.type "type")]) E E))) (N o236 (N o364 (N (oT [(sV "self" 1261), (sV "s" 1262), (sV "t" 1263)]) (N (oG (S 178) "law") E E) E) (N (oT []) E E)) (N (oT []) (N o748 E E) (N (oL []) E E))))) (N (oT []) (N (oT []) (N (oL []) (N (oT []) (N o540 (N (oG (S 166) "_law_call") E E) E) (N (oT []) E E)) (N (oG (M 104 1) "Starter.done") (N (o668 P) E E) (N (oL [(iV 724), (iV 4), (rV 932)]) E E))) (N (oT []) (N (oG (S 92) "heap_alloc") (N (oT [(rV 599)]) (N (oT []) E E) E) (N (oL []) E E)) (N (⟨(.type "super"), none, (.fields ⟨[(rV 473), (rV 473), (rV 473)]⟩), ⟨[]⟩⟩) (N (oG (S 117) "text_held") E E) (N (oG (M 156 0) "ValueHash.call") E E)))) (N (oG (S 46) "check_named") (N o188 (N (oT [(sV "addr" 792), (sV "gen" 793), (sV "kind" 794), (sV "serial" 795), (sV "size" 796), (sV "slots" 797)]) (N (oT []) (N (oL []) E E) E) (N (oG (S 141) "enum_text") E E)) (N (o444 P) (N (oT []) E E) (N (⟨(.type "super"), none, (.fields ⟨[(rV 955), (rV 955), (rV 955)]⟩), ⟨[]⟩⟩) E E))) (N (oT []) (N (oT []) (N (oG (M 108 3) "Shelf.alloc") E E) (N o892 E E)) (N (oT [(sV "self" 1100), (sV "k" 1101)]) (N (oT []) E E) (N (oT []) E E)))))))) (N (boot_o_6 P) (N (boot_o_10 P) (N (oT []) (N o34 (N (oT [(sV "self" 401), (sV "number" 402), (sV "row" 403)]) (N (oT []) (N o258 (N (oL []) (N o1026 E E) E) (N (oT [(sV "m" 1493), (sV "addr" 1494), (sV "number" 1495), (sV "entry_addr" 1496), (sV "on_object" 1497), (sV "ftn" 1498), (sV "serial" 1499)]) E E)) (N o386 (N (oT []) E E) (N (oG (S 151) "same_value") E E))) (N (oG (S 56) "is_var") (N (oM [(.builtin "object.__init_subclass__"), (rV 318)]) (N (oT [(sV "self" 1184), (sV "f" 1185)]) (N (oT []) E E) E) (N (oT []) E E)) (N (oT []) (N o706 E E) (N (oL [(iV 738), (iV 4), (rV 970)]) E E)))) (N o98 (N (oT []) (N (oT [(sV "k" 751)]) (N o546 (N (oT []) E E) E) (N o802 E E)) (N (oT []) (N (oT [(sV "m" 1358), (sV "tid" 1359)]) E E) (N (oT []) E E))) (N (oT [(sV "kt" 627), (sV "k" 628), (sV "row" 629), (sV "names" 630), (sV "level" 631), (sV "texts" 632), (sV "sort" 633), (sV "owner" 634)]) (N (oT []) (N (⟨(.type "frame"), none, .plain, ⟨[(some (rV 609)), (some (rV 3)), (some (rV 606)), none, (some (sV "framerune.mbase" 892)), none, (some (rV 0))]⟩⟩) (N o1122 E E) E) (N (oT []) E E)) (N (oL [(iV 360), (iV 4), (rV 490), (iV 383), (iV 4), (rV 497), (iV 386), (iV 4), (rV 504), (iV 389), (iV 4), (rV 511), (iV 392), (iV 4), (rV 518), (iV 395), (iV 4), (rV 525), (iV 398), (iV 4), (rV 532), (iV 401), (iV 4), (rV 539), (iV 404), (iV 4), (rV 546), (iV 407), (iV 4), (rV 553), (iV 410), (iV 4), (rV 560), (iV 413), (iV 4), (rV 567), (iV 416), (iV 4), (rV 574), (iV 419), (iV 4), (rV 581), (iV 422), (iV 4), (rV 588), (iV 425), (iV 4), (rV 595)]) (N (oT []) E E) (N (⟨(.type "super"), none, (.fields ⟨[(rV 993), (rV 993), (rV 993)]⟩), ⟨[]⟩⟩) E E))))) (N (o50 P) (N (oG (M 41 2) "KindTable.put") (N o146 (N (oT []) (N (oT []) (N (oL []) E E) E) (N (oG (S 135) "bool_value") E E)) (N (oL []) (N o658 E E) (N o914 E E))) (N (oT []) (N (o338 P) (N (oG (M 107 15) "Tray.push_call") (N (oG (S 174) "_law_turned") E E) E) (N o850 E E)) (N (oT [(sV "self" 1044), (sV "m" 1045), (sV "f" 1046), (sV "fref" 1047)]) (N (oL []) E E) (N (oM [(.builtin "type.__prepare__"), (.type "type")]) E E)))) (N (oL []) (N (oT [(sV "kt" 547), (sV "k" 548), (sV "row" 549)]) (N (oL [(iV 287), (iV 4), (rV 314)]) (N (oT []) (N o1074 E E) E) (N (oL []) E E)) (N (oC [(sV "Sweeper" 993), (sV "Sweeper" 994), (sV "/claim/cut.py" 995), (iV 347), (iV 0), (iV 0), (iV 0), (iV 0), (rV 432), (.bool false), (iV 181), (rV 433), .none, .none, .none, .none, (iV 996), (iV 347), (sV "/claim/cut.py" 997)]) (N (oG (S 111) "told_target") E E) (N (oT []) E E))) (N (oG (S 64) "show_args") (N (⟨(.type "super"), none, (.fields ⟨[(rV 367), (rV 367), (rV 367)]⟩), ⟨[]⟩⟩) (N (oL []) E E) (N (oT [(sV "a" 1653), (sV "b" 1654), (sV "out" 1655), (sV "i" 1656)]) E E)) (N o498 (N o754 E E) (N (oT []) E E)))))) (N (oL [(iV 10), (iV 4), (rV 34)]) (N (oT [(rV 38)]) (N (oT []) (N (oG (S 48) "may_stand") (N (oT []) (N (oT [(sV "self" 1116), (sV "fref" 1117)]) (N (oT []) E E) E) (N (oT []) E E)) (N (oT []) (N (oG (M 108 5) "Shelf.text_of") E E) (N (oC [(sV "ObjectToString" 1688), (sV "ObjectToString" 1689), (sV "/claim/cut.py" 1690), (iV 715), (iV 0), (iV 0), (iV 0), (iV 0), (rV 904), (.bool false), (iV 181), (rV 905), .none, .none, .none, .none, (iV 1691), (iV 715), (sV "/claim/cut.py" 1692)]) E E))) (N o202 (N (oT []) (N (oT []) (N (oL []) E E) E) (N (oG (S 143) "number_hash") E E)) (N (oL []) (N (oT []) E E) (N o970 E E)))) (N (oT []) (N (oL []) (N (oT []) (N o554 (N (oG (S 168) "_law_ref") E E) E) (N (oT []) E E)) (N o426 (N (oT []) E E) (N (oM [(.builtin "object.__init_subclass__"), (rV 936)]) E E))) (N (oT []) (N (oG (M 94 0) "PlaceHost.__init__") (N (oT []) (N (oT []) E E) E) (N (oL []) E E)) (N o490 (N (oG (S 123) "list_of") E E) (N o1002 E E))))) (N (oM [(.builtin "type.__prepare__"), (.type "type")]) (N (⟨(.type "super"), none, (.fields ⟨[(rV 87), (rV 87), (rV 87)]⟩), ⟨[]⟩⟩) (N o154 (N (oL []) (N (oG (M 107 7) "Tray.default") (N (oT [(sV "w" 1901), (sV "number" 1902), (sV "args" 1903)]) E E) E) (N o794 E E)) (N (oT [(sV "self" 967), (sV "m" 968), (sV "kind" 969)]) (N o666 E E) (N (oD [eK P "__module__" 1720 (sV "framerune.natives" 1512), eK P "__qualname__" 1722 (sV "ObjectHash" 1721), eK P "__firstlineno__" 1724 (.int 722 1723), eK P "call" 1735 (rV 933), eK P "__static_attributes__" 1736 (rV 934)] 5) E E))) (N (oL []) (N (oT [(sV "heap" 850), (sV "kind" 851), (sV "slots" 852), (sV "thing" 853)]) (N (⟨(.type "super"), none, (.fields ⟨[(rV 599), (rV 599), (rV 599)]⟩), ⟨[]⟩⟩) (N o1114 E E) E) (N o858 E E)) (N o474 (N (oT [(sV "m" 1432), (sV "addr" 1433), (sV "thing" 1434)]) E E) (N (oT [(sV "self" 1810), (sV "m" 1811), (sV "f" 1812), (sV "args" 1813), (sV "thing" 1814)]) E E)))) (N (oT [(sV "kt" 478), (sV "row" 479)]) (N (oT []) (N o314 (N (oL []) (N o1082 E E) E) (N (oT [(sV "m" 1574), (sV "t" 1575), (sV "n" 1576), (sV "number" 1577), (sV "fid" 1578), (sV "field" 1579)]) E E)) (N o442 (N o698 E E) (N (o954 P) E E))) (N (oC [(sV "Store" 673), (sV "Store" 674), (sV "/claim/cut.py" 675), (iV 238), (iV 0), (iV 0), (iV 0), (iV 0), (rV 248), (.bool false), (iV 181), (rV 249), .none, .none, .none, .none, (iV 676), (iV 238), (sV "/claim/cut.py" 677)]) (N (oC [(sV "Native" 914), (sV "Native" 915), (sV "/claim/cut.py" 916), (iV 333), (iV 0), (iV 0), (iV 0), (iV 0), (rV 376), (.bool false), (iV 181), (rV 377), .none, .none, .none, .none, (iV 917), (iV 333), (sV "/claim/cut.py" 918)]) (N (oT [(sV "self" 1278), (sV "kind" 1279), (sV "count" 1280)]) E E) (N (oT []) E E)) (N (oT []) (N (oL []) E E) (N o1018 E E))))))) (N (⟨(.type "frame"), none, .plain, ⟨[(some (rV 13)), (some (rV 3)), (some (rV 3)), none, (some (sV "__main__" 164)), none, (some (rV 0))]⟩⟩) (N (oT [(.type "Exception")]) (N o38 (N o70 (N (oT []) (N o262 (N o518 (N (oT []) E E) E) (N o774 E E)) (N o390 (N (oT []) E E) (N (oM [(.builtin "type.__prepare__"), (.type "type")]) E E))) (N o198 (N (oT []) (N o582 (N (oG (S 172) "_law_pair") E E) E) (N (oT []) E E)) (N (oL [(iV 353), (iV 4), (rV 462), (iV 356), (iV 4), (rV 469)]) (N (oT []) E E) (N (oL []) E E)))) (N (oT []) (N (oG (S 52) "kind_sort") (N o294 (N (oT [(sV "self" 1149), (sV "f" 1150), (sV "k" 1151)]) (N (oT []) E E) E) (N (oT []) E E)) (N (oT []) (N o678 E E) (N (oT []) E E))) (N o230 (N (oT []) (N (oT []) (N (oT []) E E) E) (N (oG (S 147) "value_hash") E E)) (N (oL []) (N (oT []) E E) (N (oT [(sV "m" 1825)]) E E))))) (N o54 (N (o86 P) (N (oT [(sV "kt" 513), (sV "tid" 514), (sV "args" 515)]) (N (oG (S 82) "wrap_bits") (N (oT []) (N o1046 E E) E) (N (oL []) E E)) (N o406 (N (oT [(sV "self" 1313), (sV "text" 1314)]) E E) (N (⟨(.type "super"), none, (.fields ⟨[(rV 917), (rV 917), (rV 917)]⟩), ⟨[]⟩⟩) E E))) (N (oG (S 60) "show_level") (N (⟨(.type "super"), none, (.fields ⟨[(rV 339), (rV 339), (rV 339)]⟩), ⟨[]⟩⟩) (N (o598 P) (N (oL []) E E) E) (N (oT [(sV "m" 1612), (sV "thing" 1613)]) E E)) (N o470 (N o726 E E) (N (oC [(sV "ValueHash" 1797), (sV "ValueHash" 1798), (sV "/claim/cut.py" 1799), (iV 746), (iV 0), (iV 0), (iV 0), (iV 0), (rV 980), (.bool false), (iV 181), (rV 981), .none, .none, .none, .none, (iV 1800), (iV 746), (sV "/claim/cut.py" 1801)]) E E)))) (N o118 (N o182 (N (oL []) (N (oG (M 107 11) "Tray.alloc") (N (oT [(sV "w" 1938), (sV "i" 1939), (sV "whole" 1940), (sV "part" 1941)]) E E) E) (N o822 E E)) (N (oT [(sV "self" 1006), (sV "m" 1007)]) (N (oL []) E E) (N (oG (M 154 0) "ObjectGetType.call") E E))) (N (oM [(.builtin "type.__prepare__"), (.type "type")]) (N (oM [(.builtin "type.__prepare__"), (.type "type")]) (N o630 E E) (N o886 E E)) (N (oT []) (N (oG (S 125) "keys_of") E E) (N o1014 E E)))))) (N (oL []) (N (oL []) (N (oT []) (N (oL []) (N (oG (S 72) "type_of") (N o526 (N (oG (S 164) "_law_letters") E E) E) (N (oT []) E E)) (N (oL [(iV 339), (iV 4), (rV 406), (iV 342), (iV 4), (rV 413), (iV 345), (iV 4), (rV 420)]) (N (oL []) E E) (N (oT [(sV "self" 1701), (sV "m" 1702), (sV "f" 1703), (sV "args" 1704), (sV "thing" 1705)]) E E))) (N (oT []) (N (oG (M 91 0) "Heap.__init__") (N (oT []) (N o1102 E E) E) (N (oL []) E E)) (N o462 (N (oG (S 115) "first_slots") E E) (N o974 E E)))) (N (oG (S 44) "row_length") (N o174 (N (oT []) (N (oT []) (N (oL []) E E) E) (N (oG (S 139) "kind_text") E E)) (N (oM [(.builtin "type.__prepare__"), (.type "type")]) (N (oT []) E E) (N (oT []) E E))) (N (oT []) (N (o366 P) (N (oG (M 108 1) "Shelf.goes") (N o1134 E E) E) (N o878 E E)) (N (oT [(sV "self" 1083), (sV "exact" 1084), (sV "k" 1085)]) (N (oL []) E E) (N (oT []) E E))))) (N (oC [(sV "KindTable" 388), (sV "KindTable" 389), (sV "/claim/cut.py" 390), (iV 49), (iV 0), (iV 0), (iV 0), (iV 0), (rV 60), (.bool false), (iV 181), (rV 61), .none, .none, .none, .none, (iV 391), (iV 49), (sV "/claim/cut.py" 392)]) (N (oT [(sV "row" 446), (sV "sort" 447)]) (N (oT []) (N o286 (N (oL []) (N o1054 E E) E) (N (oT [(sV "m" 1542)]) E E)) (N o414 (N (⟨(.type "super"), none, (.fields ⟨[(rV 669), (rV 669), (rV 669)]⟩), ⟨[]⟩⟩) E E) (N (⟨(.type "frame"), none, .plain, ⟨[(some (rV 925)), (some (rV 3)), (some (rV 922)), none, (some (sV "framerune.natives" 1512)), none, (some (rV 0))]⟩⟩) E E))) (N o222 (N o350 (N (oD [eK P "__module__" 1244 (sV "framerune.mbase" 892), eK P "__qualname__" 1246 (sV "Shelf" 1245), eK P "__firstlineno__" 1248 (.int 427 1247), eK P "__init__" 1257 (rV 617), eK P "goes" 1266 (rV 624), eK P "finalised" 1274 (rV 631), eK P "alloc" 1283 (rV 638), eK P "push_call" 1293 (rV 645), eK P "text_of" 1301 (rV 652), eK P "text_ref" 1309 (rV 659), eK P "new_text" 1317 (rV 666), eK P "__static_attributes__" 1351 (rV 667)] 12) (N (oT [(sV "w" 1996), (sV "five" 1997), (sV "kind" 1998), (sV "spec" 1999), (sV "i" 2000)]) E E) E) (N (oT []) E E)) (N (oT []) (N o734 E E) (N o990 E E)))) (N o126 (N (oT []) (N o318 (N o574 (N (oT []) E E) E) (N o830 E E)) (N o446 (N (oT [(sV "m" 1392), (sV "code" 1393), (sV "mid" 1394), (sV "ip" 1395), (sV "f" 1396)]) E E) (N (oT [(rV 389)]) E E))) (N (oT [(sV "self" 686)]) (N (oT [(sV "self" 927), (sV "m" 928), (sV "f" 929), (sV "args" 930)]) (N o638 E E) (N (oT []) E E)) (N (oG (M 107 3) "Tray.kinds_of") (N o766 E E) (N (oT [(sV "w" 1857), (sV "kind" 1858), (sV "spec" 1859), (sV "i" 1860), (sV "slots" 1861), (sV "canon" 1862), (sV "key" 1863), (sV "thing" 1864)]) E E))))))))))
noncomputable def v0_2 (P : Params) : Obj := boot_o_2 P
noncomputable def v0_3 (P : Params) : Obj := boot_o_3 P
def v0_12 := oL []
noncomputable def t0 (P : Params) (os : OsState) : SharedT := ⟨((eQ 15 (obT P) 1 0) |>.set 2 (fun _ => v0_2 P) |>.set 3 (fun _ => v0_3 P) |>.set 12 (fun _ => v0_12)), 15, {}, ⟨[]⟩, {}, 187, os⟩
noncomputable def pos0 : Pos := ⟨0, 0, 0, 0⟩
def v1_3 (P : Params) := oD [eK P "__name__" 165 (sV "framerune.kinds" 249), eK P "__doc__" 166 .none, eK P "__package__" 167 .none, eK P "__loader__" 168 (.builtin "__main__.__loader__#opaque"), eK P "__spec__" 169 .none, eK P "__annotations__" 170 (rV 6), eK P "__builtins__" 171 (rV 4), eK P "__file__" 173 (sV "/claim/cut.py" 172), eK P "__cached__" 174 .none, eK P "_wall" 193 (rV 21), eK P "W_EMPTY" 197 (.int 2 196), eK P "W_KIND" 199 (.int 5 198), eK P "W_FTN" 201 (.int 9 200), eK P "RuneError" 232 (rV 38), eK P "BadKind" 248 (rV 51), eK P "VOID" 252 (.int 0 251), eK P "BOOL" 254 (.int 1 253), eK P "CHAR" 256 (.int 2 255), eK P "I1" 258 (.int 3 257), eK P "U1" 260 (.int 4 259), eK P "I2" 262 (.int 5 261), eK P "U2" 264 (.int 6 263), eK P "I4" 266 (.int 7 265), eK P "U4" 268 (.int 8 267), eK P "I8" 270 (.int 9 269), eK P "U8" 272 (.int 10 271), eK P "NINT" 274 (.int 11 273), eK P "OBJECT" 276 (.int 12 275), eK P "STRING" 278 (.int 13 277), eK P "NULLK" 280 (.int 14 279), eK P "PRIM_END" 282 (.int 16 281), eK P "R_PRIM" 284 (.int 1 283), eK P "R_CLASS" 286 (.int 2 285), eK P "R_VALUE" 288 (.int 3 287), eK P "R_ARRAY" 290 (.int 4 289), eK P "R_BYREF" 292 (.int 5 291), eK P "R_VAR" 294 (.int 6 293), eK P "R_MVAR" 296 (.int 7 295), eK P "R_BOXED" 298 (.int 8 297), eK P "R_ROREF" 300 (.int 9 299), eK P "R_FTN" 302 (.int 10 301), eK P "R_RAW" 304 (.int 11 303), eK P "DEEPEST_KIND" 306 (.int 24 305), eK P "HEAVIEST_KIND" 308 (.int 4096 307)] 44
def v1_12 := oL [(iV 1), (iV 0), (rV 20), (iV 8), (iV 0), (rV 27), (iV 13), (iV 0), (rV 47)]
noncomputable def t1 (P : Params) (os : OsState) : SharedT := ⟨((eQ 54 (obT P) 1 0) |>.set 3 (fun _ => v1_3 P) |>.set 12 (fun _ => v1_12)), 54, {}, ⟨[]⟩, {}, 309, os⟩
noncomputable def pos1 : Pos := ⟨44, 0, 44, 13⟩
def v2_3 (P : Params) := oD [eK P "__name__" 165 (sV "framerune.kinds" 249), eK P "__doc__" 166 .none, eK P "__package__" 167 .none, eK P "__loader__" 168 (.builtin "__main__.__loader__#opaque"), eK P "__spec__" 169 .none, eK P "__annotations__" 170 (rV 6), eK P "__builtins__" 171 (rV 4), eK P "__file__" 173 (sV "/claim/cut.py" 172), eK P "__cached__" 174 .none, eK P "_wall" 193 (rV 21), eK P "W_EMPTY" 197 (.int 2 196), eK P "W_KIND" 199 (.int 5 198), eK P "W_FTN" 201 (.int 9 200), eK P "RuneError" 232 (rV 38), eK P "BadKind" 248 (rV 51), eK P "VOID" 252 (.int 0 251), eK P "BOOL" 254 (.int 1 253), eK P "CHAR" 256 (.int 2 255), eK P "I1" 258 (.int 3 257), eK P "U1" 260 (.int 4 259), eK P "I2" 262 (.int 5 261), eK P "U2" 264 (.int 6 263), eK P "I4" 266 (.int 7 265), eK P "U4" 268 (.int 8 267), eK P "I8" 270 (.int 9 269), eK P "U8" 272 (.int 10 271), eK P "NINT" 274 (.int 11 273), eK P "OBJECT" 276 (.int 12 275), eK P "STRING" 278 (.int 13 277), eK P "NULLK" 280 (.int 14 279), eK P "PRIM_END" 282 (.int 16 281), eK P "R_PRIM" 284 (.int 1 283), eK P "R_CLASS" 286 (.int 2 285), eK P "R_VALUE" 288 (.int 3 287), eK P "R_ARRAY" 290 (.int 4 289), eK P "R_BYREF" 292 (.int 5 291), eK P "R_VAR" 294 (.int 6 293), eK P "R_MVAR" 296 (.int 7 295), eK P "R_BOXED" 298 (.int 8 297), eK P "R_ROREF" 300 (.int 9 299), eK P "R_FTN" 302 (.int 10 301), eK P "R_RAW" 304 (.int 11 303), eK P "DEEPEST_KIND" 306 (.int 24 305), eK P "HEAVIEST_KIND" 308 (.int 4096 307), eK P "PRIM_TID" 337 (rV 54), eK P "TID_PRIM" 366 (rV 55)] 46
def v2_12 := oL [(iV 1), (iV 0), (rV 20), (iV 8), (iV 0), (rV 27), (iV 13), (iV 0), (rV 47)]
noncomputable def t2 (P : Params) (os : OsState) : SharedT := ⟨((eQ 56 (obT P) 1 0) |>.set 3 (fun _ => v2_3 P) |>.set 12 (fun _ => v2_12)), 56, {}, ⟨[]⟩, {}, 367, os⟩
noncomputable def pos2 : Pos := ⟨46, 0, 46, 8⟩
def v3_3 (P : Params) := oD [eK P "__name__" 165 (sV "framerune.kinds" 249), eK P "__doc__" 166 .none, eK P "__package__" 167 .none, eK P "__loader__" 168 (.builtin "__main__.__loader__#opaque"), eK P "__spec__" 169 .none, eK P "__annotations__" 170 (rV 6), eK P "__builtins__" 171 (rV 4), eK P "__file__" 173 (sV "/claim/cut.py" 172), eK P "__cached__" 174 .none, eK P "_wall" 193 (rV 21), eK P "W_EMPTY" 197 (.int 2 196), eK P "W_KIND" 199 (.int 5 198), eK P "W_FTN" 201 (.int 9 200), eK P "RuneError" 232 (rV 38), eK P "BadKind" 248 (rV 51), eK P "VOID" 252 (.int 0 251), eK P "BOOL" 254 (.int 1 253), eK P "CHAR" 256 (.int 2 255), eK P "I1" 258 (.int 3 257), eK P "U1" 260 (.int 4 259), eK P "I2" 262 (.int 5 261), eK P "U2" 264 (.int 6 263), eK P "I4" 266 (.int 7 265), eK P "U4" 268 (.int 8 267), eK P "I8" 270 (.int 9 269), eK P "U8" 272 (.int 10 271), eK P "NINT" 274 (.int 11 273), eK P "OBJECT" 276 (.int 12 275), eK P "STRING" 278 (.int 13 277), eK P "NULLK" 280 (.int 14 279), eK P "PRIM_END" 282 (.int 16 281), eK P "R_PRIM" 284 (.int 1 283), eK P "R_CLASS" 286 (.int 2 285), eK P "R_VALUE" 288 (.int 3 287), eK P "R_ARRAY" 290 (.int 4 289), eK P "R_BYREF" 292 (.int 5 291), eK P "R_VAR" 294 (.int 6 293), eK P "R_MVAR" 296 (.int 7 295), eK P "R_BOXED" 298 (.int 8 297), eK P "R_ROREF" 300 (.int 9 299), eK P "R_FTN" 302 (.int 10 301), eK P "R_RAW" 304 (.int 11 303), eK P "DEEPEST_KIND" 306 (.int 24 305), eK P "HEAVIEST_KIND" 308 (.int 4096 307), eK P "PRIM_TID" 337 (rV 54), eK P "TID_PRIM" 366 (rV 55), eK P "ARRAY_TID" 368 (.int 5 367), eK P "PRIM_WORDS" 385 (rV 56), eK P "KindTable" 442 (rV 87), eK P "inner_kinds" 450 (rV 98), eK P "row_level" 457 (rV 105), eK P "row_length" 464 (rV 112), eK P "check_kind_row" 474 (rV 119), eK P "check_named" 482 (rV 126), eK P "check_args" 491 (rV 133), eK P "may_stand" 500 (rV 140), eK P "class_kind" 509 (rV 147), eK P "value_kind" 518 (rV 154), eK P "prim_kind" 526 (rV 161), eK P "kind_sort" 534 (rV 168), eK P "elem_of" 543 (rV 175), eK P "tid_of" 552 (rV 182), eK P "is_value" 560 (rV 189), eK P "is_var" 569 (rV 196), eK P "MOST_SHOWN" 571 (.int 8 570)] 65
def v3_12 := oL [(iV 1), (iV 0), (rV 20), (iV 8), (iV 0), (rV 27), (iV 13), (iV 0), (rV 47), (iV 49), (iV 0), (rV 62), (iV 98), (iV 0), (rV 97), (iV 107), (iV 0), (rV 104), (iV 111), (iV 0), (rV 111), (iV 117), (iV 0), (rV 118), (iV 139), (iV 0), (rV 125), (iV 143), (iV 0), (rV 132), (iV 147), (iV 0), (rV 139), (iV 152), (iV 0), (rV 146), (iV 156), (iV 0), (rV 153), (iV 160), (iV 0), (rV 160), (iV 164), (iV 0), (rV 167), (iV 166), (iV 0), (rV 174), (iV 171), (iV 0), (rV 181), (iV 180), (iV 0), (rV 188), (iV 184), (iV 0), (rV 195)]
noncomputable def t3 (P : Params) (os : OsState) : SharedT := ⟨((eQ 197 (obT P) 1 0) |>.set 3 (fun _ => v3_3 P) |>.set 12 (fun _ => v3_12)), 197, {}, ⟨[]⟩, {}, 572, os⟩
noncomputable def pos3 : Pos := ⟨187, 0, 187, 10⟩
def v4_3 (P : Params) := oD [eK P "__name__" 165 (sV "framerune.kinds" 249), eK P "__doc__" 166 .none, eK P "__package__" 167 .none, eK P "__loader__" 168 (.builtin "__main__.__loader__#opaque"), eK P "__spec__" 169 .none, eK P "__annotations__" 170 (rV 6), eK P "__builtins__" 171 (rV 4), eK P "__file__" 173 (sV "/claim/cut.py" 172), eK P "__cached__" 174 .none, eK P "_wall" 193 (rV 21), eK P "W_EMPTY" 197 (.int 2 196), eK P "W_KIND" 199 (.int 5 198), eK P "W_FTN" 201 (.int 9 200), eK P "RuneError" 232 (rV 38), eK P "BadKind" 248 (rV 51), eK P "VOID" 252 (.int 0 251), eK P "BOOL" 254 (.int 1 253), eK P "CHAR" 256 (.int 2 255), eK P "I1" 258 (.int 3 257), eK P "U1" 260 (.int 4 259), eK P "I2" 262 (.int 5 261), eK P "U2" 264 (.int 6 263), eK P "I4" 266 (.int 7 265), eK P "U4" 268 (.int 8 267), eK P "I8" 270 (.int 9 269), eK P "U8" 272 (.int 10 271), eK P "NINT" 274 (.int 11 273), eK P "OBJECT" 276 (.int 12 275), eK P "STRING" 278 (.int 13 277), eK P "NULLK" 280 (.int 14 279), eK P "PRIM_END" 282 (.int 16 281), eK P "R_PRIM" 284 (.int 1 283), eK P "R_CLASS" 286 (.int 2 285), eK P "R_VALUE" 288 (.int 3 287), eK P "R_ARRAY" 290 (.int 4 289), eK P "R_BYREF" 292 (.int 5 291), eK P "R_VAR" 294 (.int 6 293), eK P "R_MVAR" 296 (.int 7 295), eK P "R_BOXED" 298 (.int 8 297), eK P "R_ROREF" 300 (.int 9 299), eK P "R_FTN" 302 (.int 10 301), eK P "R_RAW" 304 (.int 11 303), eK P "DEEPEST_KIND" 306 (.int 24 305), eK P "HEAVIEST_KIND" 308 (.int 4096 307), eK P "PRIM_TID" 337 (rV 54), eK P "TID_PRIM" 366 (rV 55), eK P "ARRAY_TID" 368 (.int 5 367), eK P "PRIM_WORDS" 385 (rV 56), eK P "KindTable" 442 (rV 87), eK P "inner_kinds" 450 (rV 98), eK P "row_level" 457 (rV 105), eK P "row_length" 464 (rV 112), eK P "check_kind_row" 474 (rV 119), eK P "check_named" 482 (rV 126), eK P "check_args" 491 (rV 133), eK P "may_stand" 500 (rV 140), eK P "class_kind" 509 (rV 147), eK P "value_kind" 518 (rV 154), eK P "prim_kind" 526 (rV 161), eK P "kind_sort" 534 (rV 168), eK P "elem_of" 543 (rV 175), eK P "tid_of" 552 (rV 182), eK P "is_value" 560 (rV 189), eK P "is_var" 569 (rV 196), eK P "MOST_SHOWN" 571 (.int 8 570), eK P "AROUND_WORDS" 587 (rV 197)] 66
def v4_12 := oL [(iV 1), (iV 0), (rV 20), (iV 8), (iV 0), (rV 27), (iV 13), (iV 0), (rV 47), (iV 49), (iV 0), (rV 62), (iV 98), (iV 0), (rV 97), (iV 107), (iV 0), (rV 104), (iV 111), (iV 0), (rV 111), (iV 117), (iV 0), (rV 118), (iV 139), (iV 0), (rV 125), (iV 143), (iV 0), (rV 132), (iV 147), (iV 0), (rV 139), (iV 152), (iV 0), (rV 146), (iV 156), (iV 0), (rV 153), (iV 160), (iV 0), (rV 160), (iV 164), (iV 0), (rV 167), (iV 166), (iV 0), (rV 174), (iV 171), (iV 0), (rV 181), (iV 180), (iV 0), (rV 188), (iV 184), (iV 0), (rV 195)]
noncomputable def t4 (P : Params) (os : OsState) : SharedT := ⟨((eQ 203 (obT P) 1 0) |>.set 3 (fun _ => v4_3 P) |>.set 12 (fun _ => v4_12)), 203, {}, ⟨[]⟩, {}, 588, os⟩
noncomputable def pos4 : Pos := ⟨188, 0, 188, 12⟩
def v5_3 (P : Params) := oD [eK P "__name__" 165 (sV "framerune.mbase" 892), eK P "__doc__" 166 .none, eK P "__package__" 167 .none, eK P "__loader__" 168 (.builtin "__main__.__loader__#opaque"), eK P "__spec__" 169 .none, eK P "__annotations__" 170 (rV 6), eK P "__builtins__" 171 (rV 4), eK P "__file__" 173 (sV "/claim/cut.py" 172), eK P "__cached__" 174 .none, eK P "_wall" 193 (rV 21), eK P "W_EMPTY" 197 (.int 2 196), eK P "W_KIND" 199 (.int 5 198), eK P "W_FTN" 201 (.int 9 200), eK P "RuneError" 232 (rV 38), eK P "BadKind" 248 (rV 51), eK P "VOID" 252 (.int 0 251), eK P "BOOL" 254 (.int 1 253), eK P "CHAR" 256 (.int 2 255), eK P "I1" 258 (.int 3 257), eK P "U1" 260 (.int 4 259), eK P "I2" 262 (.int 5 261), eK P "U2" 264 (.int 6 263), eK P "I4" 266 (.int 7 265), eK P "U4" 268 (.int 8 267), eK P "I8" 270 (.int 9 269), eK P "U8" 272 (.int 10 271), eK P "NINT" 274 (.int 11 273), eK P "OBJECT" 276 (.int 12 275), eK P "STRING" 278 (.int 13 277), eK P "NULLK" 280 (.int 14 279), eK P "PRIM_END" 282 (.int 16 281), eK P "R_PRIM" 284 (.int 1 283), eK P "R_CLASS" 286 (.int 2 285), eK P "R_VALUE" 288 (.int 3 287), eK P "R_ARRAY" 290 (.int 4 289), eK P "R_BYREF" 292 (.int 5 291), eK P "R_VAR" 294 (.int 6 293), eK P "R_MVAR" 296 (.int 7 295), eK P "R_BOXED" 298 (.int 8 297), eK P "R_ROREF" 300 (.int 9 299), eK P "R_FTN" 302 (.int 10 301), eK P "R_RAW" 304 (.int 11 303), eK P "DEEPEST_KIND" 306 (.int 24 305), eK P "HEAVIEST_KIND" 308 (.int 4096 307), eK P "PRIM_TID" 337 (rV 54), eK P "TID_PRIM" 366 (rV 55), eK P "ARRAY_TID" 368 (.int 5 367), eK P "PRIM_WORDS" 385 (rV 56), eK P "KindTable" 442 (rV 87), eK P "inner_kinds" 450 (rV 98), eK P "row_level" 457 (rV 105), eK P "row_length" 464 (rV 112), eK P "check_kind_row" 474 (rV 119), eK P "check_named" 482 (rV 126), eK P "check_args" 491 (rV 133), eK P "may_stand" 500 (rV 140), eK P "class_kind" 509 (rV 147), eK P "value_kind" 518 (rV 154), eK P "prim_kind" 526 (rV 161), eK P "kind_sort" 534 (rV 168), eK P "elem_of" 543 (rV 175), eK P "tid_of" 552 (rV 182), eK P "is_value" 560 (rV 189), eK P "is_var" 569 (rV 196), eK P "MOST_SHOWN" 571 (.int 8 570), eK P "AROUND_WORDS" 587 (rV 197), eK P "show_kind" 596 (rV 209), eK P "show_level" 608 (rV 216), eK P "show_parts" 623 (rV 223), eK P "show_core" 637 (rV 230), eK P "show_name" 645 (rV 237), eK P "show_args" 658 (rV 244), eK P "S_DELEGATE" 662 (.int 4 661), eK P "S_ENUM" 664 (.int 5 663), eK P "FF_LITERAL" 666 (.int 4 665), eK P "T_NULLREF" 668 (.int 21 667), eK P "T_TYPE" 670 (.int 51 669), eK P "Store" 704 (rV 261), eK P "type_of" 713 (rV 272), eK P "V_I4" 717 (.int 1 716), eK P "V_I8" 719 (.int 2 718), eK P "V_NINT" 721 (.int 3 720), eK P "V_REF" 723 (.int 4 722), eK P "V_STRUCT" 725 (.int 5 724), eK P "V_FTN" 727 (.int 7 726), eK P "V_TEXT" 729 (.int 8 728), eK P "NULLV" 732 (rV 273), eK P "wrap_bits" 740 (rV 280), eK P "wrap32" 747 (rV 287), eK P "plain_default" 754 (rV 294), eK P "FIRST_ADDRESS" 758 (.int 16 757), eK P "HEAD_WORDS" 760 (.int 2 759), eK P "LEAST_SIZE" 762 (.int 3 761), eK P "words_for" 769 (rV 301), eK P "Thing" 805 (rV 318), eK P "Heap" 846 (rV 339), eK P "heap_alloc" 856 (rV 350), eK P "PlaceHost" 891 (rV 367), eK P "JP_STAY" 896 (.int (-2) 895), eK P "ST_RUN" 898 (.int 0 897), eK P "ST_WRONG" 900 (.int 3 899), eK P "NT_VOID" 903 (.int (-1) 902), eK P "NT_STAY" 906 (.int (-2) 905), eK P "TEXT_NULL" 908 (sV "Object reference not set to an instance of an object." 907), eK P "LOST" 911 (rV 372)] 105
def v5_12 := oL [(iV 1), (iV 0), (rV 20), (iV 8), (iV 0), (rV 27), (iV 13), (iV 0), (rV 47), (iV 49), (iV 0), (rV 62), (iV 98), (iV 0), (rV 97), (iV 107), (iV 0), (rV 104), (iV 111), (iV 0), (rV 111), (iV 117), (iV 0), (rV 118), (iV 139), (iV 0), (rV 125), (iV 143), (iV 0), (rV 132), (iV 147), (iV 0), (rV 139), (iV 152), (iV 0), (rV 146), (iV 156), (iV 0), (rV 153), (iV 160), (iV 0), (rV 160), (iV 164), (iV 0), (rV 167), (iV 166), (iV 0), (rV 174), (iV 171), (iV 0), (rV 181), (iV 180), (iV 0), (rV 188), (iV 184), (iV 0), (rV 195), (iV 189), (iV 0), (rV 208), (iV 191), (iV 0), (rV 215), (iV 196), (iV 0), (rV 222), (iV 207), (iV 0), (rV 229), (iV 219), (iV 0), (rV 236), (iV 223), (iV 0), (rV 243), (iV 238), (iV 0), (rV 250), (iV 248), (iV 0), (rV 271), (iV 262), (iV 0), (rV 279), (iV 267), (iV 0), (rV 286), (iV 269), (iV 0), (rV 293), (iV 281), (iV 0), (rV 300), (iV 285), (iV 0), (rV 307), (iV 294), (iV 0), (rV 328), (iV 309), (iV 0), (rV 349), (iV 319), (iV 0), (rV 356)]
noncomputable def t5 (P : Params) (os : OsState) : SharedT := ⟨((eQ 373 (obT P) 1 0) |>.set 3 (fun _ => v5_3 P) |>.set 12 (fun _ => v5_12)), 373, {}, ⟨[]⟩, {}, 912, os⟩
noncomputable def pos5 : Pos := ⟨332, 0, 332, 4⟩
def v6_3 (P : Params) := oD [eK P "__name__" 165 (sV "framerune.mbase" 892), eK P "__doc__" 166 .none, eK P "__package__" 167 .none, eK P "__loader__" 168 (.builtin "__main__.__loader__#opaque"), eK P "__spec__" 169 .none, eK P "__annotations__" 170 (rV 6), eK P "__builtins__" 171 (rV 4), eK P "__file__" 173 (sV "/claim/cut.py" 172), eK P "__cached__" 174 .none, eK P "_wall" 193 (rV 21), eK P "W_EMPTY" 197 (.int 2 196), eK P "W_KIND" 199 (.int 5 198), eK P "W_FTN" 201 (.int 9 200), eK P "RuneError" 232 (rV 38), eK P "BadKind" 248 (rV 51), eK P "VOID" 252 (.int 0 251), eK P "BOOL" 254 (.int 1 253), eK P "CHAR" 256 (.int 2 255), eK P "I1" 258 (.int 3 257), eK P "U1" 260 (.int 4 259), eK P "I2" 262 (.int 5 261), eK P "U2" 264 (.int 6 263), eK P "I4" 266 (.int 7 265), eK P "U4" 268 (.int 8 267), eK P "I8" 270 (.int 9 269), eK P "U8" 272 (.int 10 271), eK P "NINT" 274 (.int 11 273), eK P "OBJECT" 276 (.int 12 275), eK P "STRING" 278 (.int 13 277), eK P "NULLK" 280 (.int 14 279), eK P "PRIM_END" 282 (.int 16 281), eK P "R_PRIM" 284 (.int 1 283), eK P "R_CLASS" 286 (.int 2 285), eK P "R_VALUE" 288 (.int 3 287), eK P "R_ARRAY" 290 (.int 4 289), eK P "R_BYREF" 292 (.int 5 291), eK P "R_VAR" 294 (.int 6 293), eK P "R_MVAR" 296 (.int 7 295), eK P "R_BOXED" 298 (.int 8 297), eK P "R_ROREF" 300 (.int 9 299), eK P "R_FTN" 302 (.int 10 301), eK P "R_RAW" 304 (.int 11 303), eK P "DEEPEST_KIND" 306 (.int 24 305), eK P "HEAVIEST_KIND" 308 (.int 4096 307), eK P "PRIM_TID" 337 (rV 54), eK P "TID_PRIM" 366 (rV 55), eK P "ARRAY_TID" 368 (.int 5 367), eK P "PRIM_WORDS" 385 (rV 56), eK P "KindTable" 442 (rV 87), eK P "inner_kinds" 450 (rV 98), eK P "row_level" 457 (rV 105), eK P "row_length" 464 (rV 112), eK P "check_kind_row" 474 (rV 119), eK P "check_named" 482 (rV 126), eK P "check_args" 491 (rV 133), eK P "may_stand" 500 (rV 140), eK P "class_kind" 509 (rV 147), eK P "value_kind" 518 (rV 154), eK P "prim_kind" 526 (rV 161), eK P "kind_sort" 534 (rV 168), eK P "elem_of" 543 (rV 175), eK P "tid_of" 552 (rV 182), eK P "is_value" 560 (rV 189), eK P "is_var" 569 (rV 196), eK P "MOST_SHOWN" 571 (.int 8 570), eK P "AROUND_WORDS" 587 (rV 197), eK P "show_kind" 596 (rV 209), eK P "show_level" 608 (rV 216), eK P "show_parts" 623 (rV 223), eK P "show_core" 637 (rV 230), eK P "show_name" 645 (rV 237), eK P "show_args" 658 (rV 244), eK P "S_DELEGATE" 662 (.int 4 661), eK P "S_ENUM" 664 (.int 5 663), eK P "FF_LITERAL" 666 (.int 4 665), eK P "T_NULLREF" 668 (.int 21 667), eK P "T_TYPE" 670 (.int 51 669), eK P "Store" 704 (rV 261), eK P "type_of" 713 (rV 272), eK P "V_I4" 717 (.int 1 716), eK P "V_I8" 719 (.int 2 718), eK P "V_NINT" 721 (.int 3 720), eK P "V_REF" 723 (.int 4 722), eK P "V_STRUCT" 725 (.int 5 724), eK P "V_FTN" 727 (.int 7 726), eK P "V_TEXT" 729 (.int 8 728), eK P "NULLV" 732 (rV 273), eK P "wrap_bits" 740 (rV 280), eK P "wrap32" 747 (rV 287), eK P "plain_default" 754 (rV 294), eK P "FIRST_ADDRESS" 758 (.int 16 757), eK P "HEAD_WORDS" 760 (.int 2 759), eK P "LEAST_SIZE" 762 (.int 3 761), eK P "words_for" 769 (rV 301), eK P "Thing" 805 (rV 318), eK P "Heap" 846 (rV 339), eK P "heap_alloc" 856 (rV 350), eK P "PlaceHost" 891 (rV 367), eK P "JP_STAY" 896 (.int (-2) 895), eK P "ST_RUN" 898 (.int 0 897), eK P "ST_WRONG" 900 (.int 3 899), eK P "NT_VOID" 903 (.int (-1) 902), eK P "NT_STAY" 906 (.int (-2) 905), eK P "TEXT_NULL" 908 (sV "Object reference not set to an instance of an object." 907), eK P "LOST" 911 (rV 372), eK P "Native" 941 (rV 389), eK P "Starter" 990 (rV 424), eK P "Sweeper" 1018 (rV 445), eK P "KindCloser" 1058 (rV 473)] 109
def v6_12 := oL [(iV 1), (iV 0), (rV 20), (iV 8), (iV 0), (rV 27), (iV 13), (iV 0), (rV 47), (iV 49), (iV 0), (rV 62), (iV 98), (iV 0), (rV 97), (iV 107), (iV 0), (rV 104), (iV 111), (iV 0), (rV 111), (iV 117), (iV 0), (rV 118), (iV 139), (iV 0), (rV 125), (iV 143), (iV 0), (rV 132), (iV 147), (iV 0), (rV 139), (iV 152), (iV 0), (rV 146), (iV 156), (iV 0), (rV 153), (iV 160), (iV 0), (rV 160), (iV 164), (iV 0), (rV 167), (iV 166), (iV 0), (rV 174), (iV 171), (iV 0), (rV 181), (iV 180), (iV 0), (rV 188), (iV 184), (iV 0), (rV 195), (iV 189), (iV 0), (rV 208), (iV 191), (iV 0), (rV 215), (iV 196), (iV 0), (rV 222), (iV 207), (iV 0), (rV 229), (iV 219), (iV 0), (rV 236), (iV 223), (iV 0), (rV 243), (iV 238), (iV 0), (rV 250), (iV 248), (iV 0), (rV 271), (iV 262), (iV 0), (rV 279), (iV 267), (iV 0), (rV 286), (iV 269), (iV 0), (rV 293), (iV 281), (iV 0), (rV 300), (iV 285), (iV 0), (rV 307), (iV 294), (iV 0), (rV 328), (iV 309), (iV 0), (rV 349), (iV 319), (iV 0), (rV 356), (iV 333), (iV 0), (rV 378), (iV 337), (iV 0), (rV 399), (iV 347), (iV 0), (rV 434), (iV 351), (iV 0), (rV 455)]
noncomputable def v6_389 : Obj := ⟨(.type "type"), none, (.cls { name := (z "Native"), bases := [(.type "object")], mro := [(rV 389), (.type "object")], ns := 388, qualname := (z "Native"), hasDict := true, slotNames := [], subclasses := [], abstract := false, collection := none, hasDel := false }), ⟨[none, none, (some (sV "Native" 912)), (some (sV "Native" 920)), (some (.builtin "object.__new__")), (some (.bool true))]⟩⟩
noncomputable def t6 (P : Params) (os : OsState) : SharedT := ⟨((eQ 478 (obT P) 1 0) |>.set 3 (fun _ => v6_3 P) |>.set 12 (fun _ => v6_12) |>.set 389 (fun _ => v6_389)), 478, {}, ⟨[]⟩, {}, 1059, os⟩
noncomputable def pos6 : Pos := ⟨351, 0, 357, 19⟩
def v7_3 (P : Params) := oD [eK P "__name__" 165 (sV "framerune.delegates" 1447), eK P "__doc__" 166 .none, eK P "__package__" 167 .none, eK P "__loader__" 168 (.builtin "__main__.__loader__#opaque"), eK P "__spec__" 169 .none, eK P "__annotations__" 170 (rV 6), eK P "__builtins__" 171 (rV 4), eK P "__file__" 173 (sV "/claim/cut.py" 172), eK P "__cached__" 174 .none, eK P "_wall" 193 (rV 21), eK P "W_EMPTY" 197 (.int 2 196), eK P "W_KIND" 199 (.int 5 198), eK P "W_FTN" 201 (.int 9 200), eK P "RuneError" 232 (rV 38), eK P "BadKind" 248 (rV 51), eK P "VOID" 252 (.int 0 251), eK P "BOOL" 254 (.int 1 253), eK P "CHAR" 256 (.int 2 255), eK P "I1" 258 (.int 3 257), eK P "U1" 260 (.int 4 259), eK P "I2" 262 (.int 5 261), eK P "U2" 264 (.int 6 263), eK P "I4" 266 (.int 7 265), eK P "U4" 268 (.int 8 267), eK P "I8" 270 (.int 9 269), eK P "U8" 272 (.int 10 271), eK P "NINT" 274 (.int 11 273), eK P "OBJECT" 276 (.int 12 275), eK P "STRING" 278 (.int 13 277), eK P "NULLK" 280 (.int 14 279), eK P "PRIM_END" 282 (.int 16 281), eK P "R_PRIM" 284 (.int 1 283), eK P "R_CLASS" 286 (.int 2 285), eK P "R_VALUE" 288 (.int 3 287), eK P "R_ARRAY" 290 (.int 4 289), eK P "R_BYREF" 292 (.int 5 291), eK P "R_VAR" 294 (.int 6 293), eK P "R_MVAR" 296 (.int 7 295), eK P "R_BOXED" 298 (.int 8 297), eK P "R_ROREF" 300 (.int 9 299), eK P "R_FTN" 302 (.int 10 301), eK P "R_RAW" 304 (.int 11 303), eK P "DEEPEST_KIND" 306 (.int 24 305), eK P "HEAVIEST_KIND" 308 (.int 4096 307), eK P "PRIM_TID" 337 (rV 54), eK P "TID_PRIM" 366 (rV 55), eK P "ARRAY_TID" 368 (.int 5 367), eK P "PRIM_WORDS" 385 (rV 56), eK P "KindTable" 442 (rV 87), eK P "inner_kinds" 450 (rV 98), eK P "row_level" 457 (rV 105), eK P "row_length" 464 (rV 112), eK P "check_kind_row" 474 (rV 119), eK P "check_named" 482 (rV 126), eK P "check_args" 491 (rV 133), eK P "may_stand" 500 (rV 140), eK P "class_kind" 509 (rV 147), eK P "value_kind" 518 (rV 154), eK P "prim_kind" 526 (rV 161), eK P "kind_sort" 534 (rV 168), eK P "elem_of" 543 (rV 175), eK P "tid_of" 552 (rV 182), eK P "is_value" 560 (rV 189), eK P "is_var" 569 (rV 196), eK P "MOST_SHOWN" 571 (.int 8 570), eK P "AROUND_WORDS" 587 (rV 197), eK P "show_kind" 596 (rV 209), eK P "show_level" 608 (rV 216), eK P "show_parts" 623 (rV 223), eK P "show_core" 637 (rV 230), eK P "show_name" 645 (rV 237), eK P "show_args" 658 (rV 244), eK P "S_DELEGATE" 662 (.int 4 661), eK P "S_ENUM" 664 (.int 5 663), eK P "FF_LITERAL" 666 (.int 4 665), eK P "T_NULLREF" 668 (.int 21 667), eK P "T_TYPE" 670 (.int 51 669), eK P "Store" 704 (rV 261), eK P "type_of" 713 (rV 272), eK P "V_I4" 717 (.int 1 716), eK P "V_I8" 719 (.int 2 718), eK P "V_NINT" 721 (.int 3 720), eK P "V_REF" 723 (.int 4 722), eK P "V_STRUCT" 725 (.int 5 724), eK P "V_FTN" 727 (.int 7 726), eK P "V_TEXT" 729 (.int 8 728), eK P "NULLV" 732 (rV 273), eK P "wrap_bits" 740 (rV 280), eK P "wrap32" 747 (rV 287), eK P "plain_default" 754 (rV 294), eK P "FIRST_ADDRESS" 758 (.int 16 757), eK P "HEAD_WORDS" 760 (.int 2 759), eK P "LEAST_SIZE" 762 (.int 3 761), eK P "words_for" 769 (rV 301), eK P "Thing" 805 (rV 318), eK P "Heap" 846 (rV 339), eK P "heap_alloc" 856 (rV 350), eK P "PlaceHost" 891 (rV 367), eK P "JP_STAY" 896 (.int (-2) 895), eK P "ST_RUN" 898 (.int 0 897), eK P "ST_WRONG" 900 (.int 3 899), eK P "NT_VOID" 903 (.int (-1) 902), eK P "NT_STAY" 906 (.int (-2) 905), eK P "TEXT_NULL" 908 (sV "Object reference not set to an instance of an object." 907), eK P "LOST" 911 (rV 372), eK P "Native" 941 (rV 389), eK P "Starter" 990 (rV 424), eK P "Sweeper" 1018 (rV 445), eK P "KindCloser" 1058 (rV 473), eK P "Tray" 1236 (rV 599), eK P "Shelf" 1354 (rV 669), eK P "note_thrown" 1362 (rV 678), eK P "told_row" 1371 (rV 685), eK P "told_target" 1379 (rV 692), eK P "told_default" 1388 (rV 699), eK P "tell_wrong" 1399 (rV 706), eK P "pop_value" 1407 (rV 713), eK P "first_slots" 1419 (rV 720), eK P "alloc_thing" 1428 (rV 727), eK P "text_held" 1437 (rV 734), eK P "made_text" 1446 (rV 741), eK P "DG_TARGET" 1450 (.int 0 1449), eK P "DG_FTN" 1452 (.int 1 1451), eK P "DG_LIST" 1454 (.int 2 1453)] 124
def v7_12 := oL [(iV 1), (iV 0), (rV 20), (iV 8), (iV 0), (rV 27), (iV 13), (iV 0), (rV 47), (iV 49), (iV 0), (rV 62), (iV 98), (iV 0), (rV 97), (iV 107), (iV 0), (rV 104), (iV 111), (iV 0), (rV 111), (iV 117), (iV 0), (rV 118), (iV 139), (iV 0), (rV 125), (iV 143), (iV 0), (rV 132), (iV 147), (iV 0), (rV 139), (iV 152), (iV 0), (rV 146), (iV 156), (iV 0), (rV 153), (iV 160), (iV 0), (rV 160), (iV 164), (iV 0), (rV 167), (iV 166), (iV 0), (rV 174), (iV 171), (iV 0), (rV 181), (iV 180), (iV 0), (rV 188), (iV 184), (iV 0), (rV 195), (iV 189), (iV 0), (rV 208), (iV 191), (iV 0), (rV 215), (iV 196), (iV 0), (rV 222), (iV 207), (iV 0), (rV 229), (iV 219), (iV 0), (rV 236), (iV 223), (iV 0), (rV 243), (iV 238), (iV 0), (rV 250), (iV 248), (iV 0), (rV 271), (iV 262), (iV 0), (rV 279), (iV 267), (iV 0), (rV 286), (iV 269), (iV 0), (rV 293), (iV 281), (iV 0), (rV 300), (iV 285), (iV 0), (rV 307), (iV 294), (iV 0), (rV 328), (iV 309), (iV 0), (rV 349), (iV 319), (iV 0), (rV 356), (iV 333), (iV 0), (rV 378), (iV 337), (iV 0), (rV 399), (iV 347), (iV 0), (rV 434), (iV 351), (iV 0), (rV 455), (iV 358), (iV 0), (rV 483), (iV 427), (iV 0), (rV 609), (iV 484), (iV 0), (rV 677), (iV 488), (iV 0), (rV 684), (iV 493), (iV 0), (rV 691), (iV 497), (iV 0), (rV 698), (iV 502), (iV 0), (rV 705), (iV 513), (iV 0), (rV 712), (iV 518), (iV 0), (rV 719), (iV 533), (iV 0), (rV 726), (iV 536), (iV 0), (rV 733), (iV 542), (iV 0), (rV 740)]
noncomputable def v7_389 : Obj := ⟨(.type "type"), none, (.cls { name := (z "Native"), bases := [(.type "object")], mro := [(rV 389), (.type "object")], ns := 388, qualname := (z "Native"), hasDict := true, slotNames := [], subclasses := [], abstract := false, collection := none, hasDel := false }), ⟨[none, none, (some (sV "Native" 912)), (some (sV "Native" 920)), (some (.builtin "object.__new__")), (some (.bool true))]⟩⟩
noncomputable def t7 (P : Params) (os : OsState) : SharedT := ⟨((eQ 742 (obT P) 1 0) |>.set 3 (fun _ => v7_3 P) |>.set 12 (fun _ => v7_12) |>.set 389 (fun _ => v7_389)), 742, {}, ⟨[]⟩, {}, 1455, os⟩
noncomputable def pos7 : Pos := ⟨549, 0, 549, 7⟩
def v8_3 (P : Params) := oD [eK P "__name__" 165 (sV "framerune.natives" 1512), eK P "__doc__" 166 .none, eK P "__package__" 167 .none, eK P "__loader__" 168 (.builtin "__main__.__loader__#opaque"), eK P "__spec__" 169 .none, eK P "__annotations__" 170 (rV 6), eK P "__builtins__" 171 (rV 4), eK P "__file__" 173 (sV "/claim/cut.py" 172), eK P "__cached__" 174 .none, eK P "_wall" 193 (rV 21), eK P "W_EMPTY" 197 (.int 2 196), eK P "W_KIND" 199 (.int 5 198), eK P "W_FTN" 201 (.int 9 200), eK P "RuneError" 232 (rV 38), eK P "BadKind" 248 (rV 51), eK P "VOID" 252 (.int 0 251), eK P "BOOL" 254 (.int 1 253), eK P "CHAR" 256 (.int 2 255), eK P "I1" 258 (.int 3 257), eK P "U1" 260 (.int 4 259), eK P "I2" 262 (.int 5 261), eK P "U2" 264 (.int 6 263), eK P "I4" 266 (.int 7 265), eK P "U4" 268 (.int 8 267), eK P "I8" 270 (.int 9 269), eK P "U8" 272 (.int 10 271), eK P "NINT" 274 (.int 11 273), eK P "OBJECT" 276 (.int 12 275), eK P "STRING" 278 (.int 13 277), eK P "NULLK" 280 (.int 14 279), eK P "PRIM_END" 282 (.int 16 281), eK P "R_PRIM" 284 (.int 1 283), eK P "R_CLASS" 286 (.int 2 285), eK P "R_VALUE" 288 (.int 3 287), eK P "R_ARRAY" 290 (.int 4 289), eK P "R_BYREF" 292 (.int 5 291), eK P "R_VAR" 294 (.int 6 293), eK P "R_MVAR" 296 (.int 7 295), eK P "R_BOXED" 298 (.int 8 297), eK P "R_ROREF" 300 (.int 9 299), eK P "R_FTN" 302 (.int 10 301), eK P "R_RAW" 304 (.int 11 303), eK P "DEEPEST_KIND" 306 (.int 24 305), eK P "HEAVIEST_KIND" 308 (.int 4096 307), eK P "PRIM_TID" 337 (rV 54), eK P "TID_PRIM" 366 (rV 55), eK P "ARRAY_TID" 368 (.int 5 367), eK P "PRIM_WORDS" 385 (rV 56), eK P "KindTable" 442 (rV 87), eK P "inner_kinds" 450 (rV 98), eK P "row_level" 457 (rV 105), eK P "row_length" 464 (rV 112), eK P "check_kind_row" 474 (rV 119), eK P "check_named" 482 (rV 126), eK P "check_args" 491 (rV 133), eK P "may_stand" 500 (rV 140), eK P "class_kind" 509 (rV 147), eK P "value_kind" 518 (rV 154), eK P "prim_kind" 526 (rV 161), eK P "kind_sort" 534 (rV 168), eK P "elem_of" 543 (rV 175), eK P "tid_of" 552 (rV 182), eK P "is_value" 560 (rV 189), eK P "is_var" 569 (rV 196), eK P "MOST_SHOWN" 571 (.int 8 570), eK P "AROUND_WORDS" 587 (rV 197), eK P "show_kind" 596 (rV 209), eK P "show_level" 608 (rV 216), eK P "show_parts" 623 (rV 223), eK P "show_core" 637 (rV 230), eK P "show_name" 645 (rV 237), eK P "show_args" 658 (rV 244), eK P "S_DELEGATE" 662 (.int 4 661), eK P "S_ENUM" 664 (.int 5 663), eK P "FF_LITERAL" 666 (.int 4 665), eK P "T_NULLREF" 668 (.int 21 667), eK P "T_TYPE" 670 (.int 51 669), eK P "Store" 704 (rV 261), eK P "type_of" 713 (rV 272), eK P "V_I4" 717 (.int 1 716), eK P "V_I8" 719 (.int 2 718), eK P "V_NINT" 721 (.int 3 720), eK P "V_REF" 723 (.int 4 722), eK P "V_STRUCT" 725 (.int 5 724), eK P "V_FTN" 727 (.int 7 726), eK P "V_TEXT" 729 (.int 8 728), eK P "NULLV" 732 (rV 273), eK P "wrap_bits" 740 (rV 280), eK P "wrap32" 747 (rV 287), eK P "plain_default" 754 (rV 294), eK P "FIRST_ADDRESS" 758 (.int 16 757), eK P "HEAD_WORDS" 760 (.int 2 759), eK P "LEAST_SIZE" 762 (.int 3 761), eK P "words_for" 769 (rV 301), eK P "Thing" 805 (rV 318), eK P "Heap" 846 (rV 339), eK P "heap_alloc" 856 (rV 350), eK P "PlaceHost" 891 (rV 367), eK P "JP_STAY" 896 (.int (-2) 895), eK P "ST_RUN" 898 (.int 0 897), eK P "ST_WRONG" 900 (.int 3 899), eK P "NT_VOID" 903 (.int (-1) 902), eK P "NT_STAY" 906 (.int (-2) 905), eK P "TEXT_NULL" 908 (sV "Object reference not set to an instance of an object." 907), eK P "LOST" 911 (rV 372), eK P "Native" 941 (rV 389), eK P "Starter" 990 (rV 424), eK P "Sweeper" 1018 (rV 445), eK P "KindCloser" 1058 (rV 473), eK P "Tray" 1236 (rV 599), eK P "Shelf" 1354 (rV 669), eK P "note_thrown" 1362 (rV 678), eK P "told_row" 1371 (rV 685), eK P "told_target" 1379 (rV 692), eK P "told_default" 1388 (rV 699), eK P "tell_wrong" 1399 (rV 706), eK P "pop_value" 1407 (rV 713), eK P "first_slots" 1419 (rV 720), eK P "alloc_thing" 1428 (rV 727), eK P "text_held" 1437 (rV 734), eK P "made_text" 1446 (rV 741), eK P "DG_TARGET" 1450 (.int 0 1449), eK P "DG_FTN" 1452 (.int 1 1451), eK P "DG_LIST" 1454 (.int 2 1453), eK P "list_of" 1465 (rV 748), eK P "entry_key" 1474 (rV 755), eK P "keys_of" 1480 (rV 760), eK P "is_delegate" 1489 (rV 767), eK P "delegate_hash" 1502 (rV 774), eK P "delegate_equal" 1511 (rV 781), eK P "N_OBJ_TOSTRING" 1515 (.int 10 1514), eK P "N_OBJ_HASH" 1517 (.int 11 1516), eK P "N_OBJ_GETTYPE" 1519 (.int 12 1518), eK P "N_VT_EQUALS" 1521 (.int 13 1520), eK P "N_VT_HASH" 1523 (.int 14 1522), eK P "bool_value" 1530 (rV 788), eK P "thing_named" 1538 (rV 795), eK P "no_object" 1545 (rV 802), eK P "kind_names" 1554 (rV 809), eK P "kind_text" 1562 (rV 816), eK P "plain_number" 1570 (rV 823), eK P "enum_text" 1582 (rV 830), eK P "thing_text" 1591 (rV 837), eK P "number_hash" 1599 (rV 844), eK P "text_hash" 1608 (rV 851), eK P "is_box" 1616 (rV 858), eK P "own_hash" 1625 (rV 865), eK P "value_hash" 1637 (rV 872), eK P "same_things" 1649 (rV 879), eK P "struct_pairs" 1659 (rV 886), eK P "same_pair" 1669 (rV 893), eK P "same_value" 1685 (rV 900), eK P "ObjectToString" 1712 (rV 917), eK P "ObjectHash" 1739 (rV 936), eK P "ObjectGetType" 1766 (rV 955)] 155
def v8_12 := oL [(iV 1), (iV 0), (rV 20), (iV 8), (iV 0), (rV 27), (iV 13), (iV 0), (rV 47), (iV 49), (iV 0), (rV 62), (iV 98), (iV 0), (rV 97), (iV 107), (iV 0), (rV 104), (iV 111), (iV 0), (rV 111), (iV 117), (iV 0), (rV 118), (iV 139), (iV 0), (rV 125), (iV 143), (iV 0), (rV 132), (iV 147), (iV 0), (rV 139), (iV 152), (iV 0), (rV 146), (iV 156), (iV 0), (rV 153), (iV 160), (iV 0), (rV 160), (iV 164), (iV 0), (rV 167), (iV 166), (iV 0), (rV 174), (iV 171), (iV 0), (rV 181), (iV 180), (iV 0), (rV 188), (iV 184), (iV 0), (rV 195), (iV 189), (iV 0), (rV 208), (iV 191), (iV 0), (rV 215), (iV 196), (iV 0), (rV 222), (iV 207), (iV 0), (rV 229), (iV 219), (iV 0), (rV 236), (iV 223), (iV 0), (rV 243), (iV 238), (iV 0), (rV 250), (iV 248), (iV 0), (rV 271), (iV 262), (iV 0), (rV 279), (iV 267), (iV 0), (rV 286), (iV 269), (iV 0), (rV 293), (iV 281), (iV 0), (rV 300), (iV 285), (iV 0), (rV 307), (iV 294), (iV 0), (rV 328), (iV 309), (iV 0), (rV 349), (iV 319), (iV 0), (rV 356), (iV 333), (iV 0), (rV 378), (iV 337), (iV 0), (rV 399), (iV 347), (iV 0), (rV 434), (iV 351), (iV 0), (rV 455), (iV 358), (iV 0), (rV 483), (iV 427), (iV 0), (rV 609), (iV 484), (iV 0), (rV 677), (iV 488), (iV 0), (rV 684), (iV 493), (iV 0), (rV 691), (iV 497), (iV 0), (rV 698), (iV 502), (iV 0), (rV 705), (iV 513), (iV 0), (rV 712), (iV 518), (iV 0), (rV 719), (iV 533), (iV 0), (rV 726), (iV 536), (iV 0), (rV 733), (iV 542), (iV 0), (rV 740), (iV 550), (iV 0), (rV 747), (iV 561), (iV 0), (rV 754), (iV 567), (iV 0), (rV 759), (iV 569), (iV 0), (rV 766), (iV 572), (iV 0), (rV 773), (iV 581), (iV 0), (rV 780), (iV 593), (iV 0), (rV 787), (iV 597), (iV 0), (rV 794), (iV 599), (iV 0), (rV 801), (iV 602), (iV 0), (rV 808), (iV 608), (iV 0), (rV 815), (iV 610), (iV 0), (rV 822), (iV 616), (iV 0), (rV 829), (iV 623), (iV 0), (rV 836), (iV 630), (iV 0), (rV 843), (iV 638), (iV 0), (rV 850), (iV 643), (iV 0), (rV 857), (iV 645), (iV 0), (rV 864), (iV 664), (iV 0), (rV 871), (iV 674), (iV 0), (rV 878), (iV 689), (iV 0), (rV 885), (iV 694), (iV 0), (rV 892), (iV 704), (iV 0), (rV 899), (iV 715), (iV 0), (rV 906), (iV 722), (iV 0), (rV 925), (iV 729), (iV 0), (rV 944)]
noncomputable def v8_389 : Obj := ⟨(.type "type"), none, (.cls { name := (z "Native"), bases := [(.type "object")], mro := [(rV 389), (.type "object")], ns := 388, qualname := (z "Native"), hasDict := true, slotNames := [], subclasses := [(rV 917), (rV 936), (rV 955)], abstract := false, collection := none, hasDel := false }), ⟨[none, none, (some (sV "Native" 912)), (some (sV "Native" 920)), (some (.builtin "object.__new__")), (some (.bool true))]⟩⟩
noncomputable def t8 (P : Params) (os : OsState) : SharedT := ⟨((eQ 958 (obT P) 1 0) |>.set 3 (fun _ => v8_3 P) |>.set 12 (fun _ => v8_12) |>.set 389 (fun _ => v8_389)), 958, {}, ⟨[]⟩, {}, 1767, os⟩
noncomputable def pos8 : Pos := ⟨729, 0, 735, 38⟩
noncomputable def t9 (P : Params) (os : OsState) : SharedT := ⟨((eQ 1135 (obT P) 1 0)), 1135, {}, ⟨[]⟩, {}, 2022, os⟩
noncomputable def pos9 : Pos := ⟨924, 0, 945, 66⟩
noncomputable def l0 : List Stmt := (pr.main.body.drop 0).take 37
theorem q0 : ∀ w : World, (fun os => SR TT pr w 11 (some (.ref 6)) 1 779 (t0 w.params os) (piecesOf l0 ev cE pos0 [topFrame fq])) = fun os => some (.next, t1 w.params os, cE, pos1) := fun w => by kernel_rfl
noncomputable def l1 : List Stmt := (pr.main.body.drop 37).take 2
theorem q1f (w : World) : (fun os => SR TT pr (w.withFollow "special-get-raises" false) 11 (some (.ref 6)) 1 413 (t1 w.params os) (piecesOf l1 ev cE pos1 [topFrame fq])) = fun os => some (.next, t2 w.params os, cE, pos2) := by kernel_rfl
theorem q1t (w : World) : (fun os => SR TT pr (w.withFollow "special-get-raises" true) 11 (some (.ref 6)) 1 413 (t1 w.params os) (piecesOf l1 ev cE pos1 [topFrame fq])) = fun os => some (.next, t2 w.params os, cE, pos2) := by kernel_rfl
theorem q1 : ∀ w : World, (fun os => SR TT pr w 11 (some (.ref 6)) 1 413 (t1 w.params os) (piecesOf l1 ev cE pos1 [topFrame fq])) = fun os => some (.next, t2 w.params os, cE, pos2) := fun w => byRow2 "special-get-raises" (P := fun w => (fun os => SR TT pr w 11 (some (.ref 6)) 1 413 (t1 w.params os) (piecesOf l1 ev cE pos1 [topFrame fq])) = fun os => some (.next, t2 w.params os, cE, pos2)) q1f q1t w
noncomputable def l2 : List Stmt := (pr.main.body.drop 39).take 19
theorem q2 : ∀ w : World, (fun os => SR TT pr w 11 (some (.ref 6)) 1 800 (t2 w.params os) (piecesOf l2 ev cE pos2 [topFrame fq])) = fun os => some (.next, t3 w.params os, cE, pos3) := fun w => by kernel_rfl
noncomputable def l3 : List Stmt := (pr.main.body.drop 58).take 1
theorem q3f (w : World) : (fun os => SR TT pr (w.withFollow "special-get-raises" false) 11 (some (.ref 6)) 1 96 (t3 w.params os) (piecesOf l3 ev cE pos3 [topFrame fq])) = fun os => some (.next, t4 w.params os, cE, pos4) := by kernel_rfl
theorem q3t (w : World) : (fun os => SR TT pr (w.withFollow "special-get-raises" true) 11 (some (.ref 6)) 1 96 (t3 w.params os) (piecesOf l3 ev cE pos3 [topFrame fq])) = fun os => some (.next, t4 w.params os, cE, pos4) := by kernel_rfl
theorem q3 : ∀ w : World, (fun os => SR TT pr w 11 (some (.ref 6)) 1 96 (t3 w.params os) (piecesOf l3 ev cE pos3 [topFrame fq])) = fun os => some (.next, t4 w.params os, cE, pos4) := fun w => byRow2 "special-get-raises" (P := fun w => (fun os => SR TT pr w 11 (some (.ref 6)) 1 96 (t3 w.params os) (piecesOf l3 ev cE pos3 [topFrame fq])) = fun os => some (.next, t4 w.params os, cE, pos4)) q3f q3t w
noncomputable def l4 : List Stmt := (pr.main.body.drop 59).take 44
theorem q4 : ∀ w : World, (fun os => SR TT pr w 11 (some (.ref 6)) 1 1573 (t4 w.params os) (piecesOf l4 ev cE pos4 [topFrame fq])) = fun os => some (.next, t5 w.params os, cE, pos5) := fun w => by kernel_rfl
noncomputable def l5 : List Stmt := (pr.main.body.drop 103).take 4
theorem q5 : ∀ w : World, (fun os => SR TT pr w 11 (some (.ref 6)) 1 992 (t5 w.params os) (piecesOf l5 ev cE pos5 [topFrame fq])) = fun os => some (.next, t6 w.params os, cE, pos6) := fun w => by kernel_rfl
noncomputable def l6 : List Stmt := (pr.main.body.drop 107).take 16
theorem q6 : ∀ w : World, (fun os => SR TT pr w 11 (some (.ref 6)) 1 1586 (t6 w.params os) (piecesOf l6 ev cE pos6 [topFrame fq])) = fun os => some (.next, t7 w.params os, cE, pos7) := fun w => by kernel_rfl
noncomputable def l7 : List Stmt := (pr.main.body.drop 123).take 32
theorem q7 : ∀ w : World, (fun os => SR TT pr w 11 (some (.ref 6)) 1 1519 (t7 w.params os) (piecesOf l7 ev cE pos7 [topFrame fq])) = fun os => some (.next, t8 w.params os, cE, pos8) := fun w => by kernel_rfl
noncomputable def l8 : List Stmt := (pr.main.body.drop 155).take 24
theorem q8 : ∀ w : World, (fun os => SR TT pr w 11 (some (.ref 6)) 1 1157 (t8 w.params os) (piecesOf l8 ev cE pos8 [topFrame fq])) = fun os => some (.next, t9 w.params os, cE, pos9) := fun w => by kernel_rfl
end
end Mine
end
section
open PySem PySem.W PyProof.Rows
set_option Elab.async false
set_option maxRecDepth 100000
set_option maxHeartbeats 0
set_option linter.all false
namespace Mine
noncomputable section
theorem teSR : @segRunT = SR := PySem.W.Fast.te10110043849684766642
theorem teTT : treeTable = TT := PySem.W.Fast.te14364793385576792824
theorem seg_ {w : World} {os : OsState} {k : Nat} {s s' : OsState -> SharedT} {l : List Stmt} {p p' : Pos}
  (h : (fun os => SR TT pr w 11 (some (.ref 6)) 1 k (s os) (piecesOf l ev cE p [topFrame fq])) = fun os => some (.next, s' os, cE, p')) :
  segRun treeTable pr w 11 (some (.ref 6)) 1 k (s os).abs (piecesOf l ev cE p [topFrame fq]) = some (.next, (s' os).abs, cE, p') := by
 refine segRun_of ?_
 have e := congrFun h os
 rw [← teSR, ← teTT] at e
 exact e
theorem splits : behindTheImports pr = l0 ++ (l1 ++ (l2 ++ (l3 ++ (l4 ++ (l5 ++ (l6 ++ (l7 ++ (l8 ++ [])))))))) := by kernel_rfl
noncomputable abbrev H0 (P : Params) : Heap := boot_heap P
theorem pre_ (w : World) : (fun os => topGo treeTable pr w 11 (some (.ref 6)) 12 ⟨H0 w.params, ⟨[]⟩, boot_drawn, boot_toks, os⟩ (topStub pr)) =
  fun os => some ((t0 w.params os).abs, ⟨denote treeTable cE, cE, fq, [topFrame fq]⟩) := by kernel_rfl
theorem block_ (w : World) : (fun os => segRun treeTable pr w 11 (some (.ref 6)) 1 1 (t0 w.params os).abs (blockOf (behindTheImports pr) ev cE fq [topFrame fq])) =
  fun os => some (.next, (t0 w.params os).abs, cE, pos0) := by kernel_rfl
theorem fin_ (w : World) : (fun os => topRun treeTable pr w 11 (some (.ref 6)) 2 (t9 w.params os).abs ⟨doneF .next, cE, pos9, [topFrame fq]⟩) = fun os => some (t9 w.params os).abs := by kernel_rfl
theorem run_ (w : World) (os : OsState) : topRun treeTable pr w 11 (some (.ref 6)) (12 + (1 + (779 + (413 + (800 + (96 + (1573 + (992 + (1586 + (1519 + (1157 + 2))))))))))) ⟨H0 w.params, ⟨[]⟩, boot_drawn, boot_toks, os⟩ (topStub pr) = some (t9 w.params os).abs := by
 refine go_top (congrFun (pre_ w) os) (piece_block (congrFun (block_ w) os) ?_)
 rw [show restOf (behindTheImports pr) ev cE pos0 [topFrame fq] = restOf (l0 ++ (l1 ++ (l2 ++ (l3 ++ (l4 ++ (l5 ++ (l6 ++ (l7 ++ (l8 ++ [])))))))) ) ev cE pos0 [topFrame fq] from congrArg (fun b => restOf b ev cE pos0 [topFrame fq]) splits]
 exact piece_app (seg_ (q0 w)) (piece_app (seg_ (q1 w)) (piece_app (seg_ (q2 w)) (piece_app (seg_ (q3 w)) (piece_app (seg_ (q4 w)) (piece_app (seg_ (q5 w)) (piece_app (seg_ (q6 w)) (piece_app (seg_ (q7 w)) (piece_app (seg_ (q8 w)) (piece_nil (congrFun (fin_ w) os))))))))))
noncomputable abbrev H1 (P : Params) : Heap := absHeap (eQ 1135 (obT P) 1 0) 1135 {}
noncomputable abbrev S1 (w : World) (os : OsState) : Shared := ⟨H1 w.params, ⟨[]⟩, {}, 2022, os⟩
noncomputable def qv : Program := { pr with main := { pr.main with body := [S 178] } }
noncomputable def lo : List Str := pr.boundNames
theorem open_ : ∀ w : World, (fencedOpening treeTable pr w 20000).map (fun s => (s.heap, s.gens, s.drawn, s.toks)) = some (H0 w.params, ⟨[]⟩, boot_drawn, boot_toks) :=
 boot_open (by kernel_rfl) (by kernel_rfl) (fun s => by kernel_rfl)
theorem size_ : ∀ w : World, ((H0 w.params).isNs mainGlobals && (⟨[]⟩ : Array GenState).size == 0, (H0 w.params).objs.size, (H0 w.params).nsMap mainGlobals "__annotations__") = (true, 11, some (.ref 6)) := fun w => by kernel_rfl
noncomputable abbrev im : List Str := importedModules pr.main.body
theorem nbound (w : World) : namesBound pr (H1 w.params) = true := by
 unfold namesBound
 rw [show @instDecidableEqStr = PySem.W.Fast.sDec from PySem.W.Fast.sDec_eq]
 kernel_rfl
theorem lkst (w : World) : staticsOk im (H0 w.params) (H1 w.params) = true := by kernel_rfl
theorem lkld (w : World) : laidKept (H0 w.params) (H1 w.params) = true := by kernel_rfl
theorem lk1 (w : World) (os : OsState) : seen ((recsOf qv).map (·.name)) (ownsOf qv) [] { S1 w os with gens := #[] } = expectedOf qv := by
 rw [show @seen = PySem.W.Fast.tw5160383126252970620 from PySem.W.Fast.te5160383126252970620]
 kernel_rfl
theorem lk2 (w : World) (os : OsState) : (S1 w os).heap.bltView = bltViewBooted := by kernel_rfl
theorem lk3 (w : World) (os : OsState) : (S1 w os).heap.keysOk (looseW qv lo) ((recsOf qv).map (·.name)) ((litsOf qv).map (·.1)) ((clssOf qv (looseW qv lo)).map (·.name)) = true := by
 rw [show @Heap.keysOk = PySem.W.Fast.tw10880121769531294198 from PySem.W.Fast.te10880121769531294198, show @looseW = PySem.W.Fast.tw821141287760084731 from PySem.W.Fast.te821141287760084731]
 kernel_rfl
theorem lk4 (w : World) (os : OsState) : (S1 w os).heap.accountedOkI im = true := by kernel_rfl
theorem lk5a (w : World) (os : OsState) : (S1 w os).heap.isNs mainGlobals = true := by kernel_rfl
theorem lk5b (w : World) (os : OsState) : (S1 w os).heap.isNs builtinsNs = true := by kernel_rfl
theorem lk5 (w : World) (os : OsState) : tablesOk qv (S1 w os).heap = true := by kernel_rfl
theorem lk6 (w : World) (os : OsState) : tabsOk qv (S1 w os) = true := by kernel_rfl
theorem lk7 (w : World) (os : OsState) : pinSeenD qv (drecsOf qv) (S1 w os) = pinGoodD (drecsOf qv) := by kernel_rfl
theorem lk8 (w : World) (os : OsState) : plainSeenE qv (looseW qv lo) (S1 w os) = plainGoodE qv (looseW qv lo) := by kernel_rfl
theorem lk9 (w : World) (os : OsState) : plainSeenD qv lo (S1 w os) = plainGoodD qv lo := by kernel_rfl
theorem lk10 (w : World) (os : OsState) : wideSeen qv (S1 w os) = wideGood qv := by
 rw [show @wideSeen = PySem.W.Fast.tw7317090234206586261 from PySem.W.Fast.te7317090234206586261]
 kernel_rfl
theorem lk11 (w : World) (os : OsState) : clsSeenW qv lo (S1 w os) = clsGoodW qv lo := by kernel_rfl
theorem look1 (w : World) (os : OsState) : (staticsOk (importedModules pr.main.body) (H0 w.params) (H1 w.params) && namesBound pr (H1 w.params) && gensDone (S1 w os) && laidKept (H0 w.params) (H1 w.params)) = true := by
 rw [lkst, nbound, lkld, show gensDone (S1 w os) = true from rfl]
 rfl
theorem lookO (w : World) (os : OsState) : openSeen qv lo (importedModules pr.main.body) (fun _ => true) true (S1 w os) = openGood qv lo := by
 unfold openSeen openGood
 rw [lk1, lk2, lk3, lk4, lk5a, lk5b, lk5, lk6, lk7, lk8, lk9, lk10, lk11]
 rfl
noncomputable def gtK (t : BT) (n a : Nat) : Option Obj := match Nat.blt a n with
 | true => (match t.get a with
  | some o => alive o
  | none => none)
 | false => none
theorem gt_ok {t : BT} {n : Nat} {life : Life} : ∀ {K : Frag}, K.map (fun p => gtK t n p.1) = K.map (fun p => some p.2) -> (K.map (·.1)).map (absHeap t n life).get? = K.map fun p => some p.2
 | [], _ => rfl
 | (a, o) :: r, h => by
  simp only [List.map_cons, List.cons.injEq] at h ⊢
  refine ⟨?_, gt_ok h.2⟩
  have h1 := h.1
  unfold gtK at h1
  split at h1
  ·rename_i hb
   split at h1
   ·rename_i o' ho
    rw [abs_get (Nat.le_of_ble_eq_true hb) ho]; exact h1
   ·cases h1
  ·cases h1
noncomputable def KA : List Nat := [1, 2, 3, 20, 21, 34, 35, 37, 38, 39, 50, 51, 54, 55, 56, 69, 70, 76, 77, 83, 84, 86, 87, 88, 89, 97, 98, 104, 105, 111, 112, 118, 119, 125, 126, 132, 133, 139, 140, 146, 147, 153, 154, 160, 161, 167, 168, 174, 175, 181, 182, 188, 189, 195, 196, 197, 208, 209, 215, 216, 222, 223, 229, 230, 236, 237, 243, 244, 257, 258, 260, 261, 262, 263, 271, 272, 273, 279, 280, 286, 287, 293, 294, 300, 301, 314, 315, 317, 318, 319, 320, 335, 336, 338, 339, 340, 341, 349, 350, 363, 364, 366, 367, 368, 369, 372, 385, 386, 388, 389, 390, 391, 406, 407, 413, 414, 420, 421, 423, 424, 425, 426, 441, 442, 444, 445, 446, 447, 462, 463, 469, 470, 472, 473, 474, 475, 490, 491, 497, 498, 504, 505, 511, 512, 518, 519, 525, 526, 532, 533, 539, 540, 546, 547, 553, 554, 560, 561, 567, 568, 574, 575, 581, 582, 588, 589, 595, 596, 598, 599, 600, 601, 616, 617, 623, 624, 630, 631, 637, 638, 644, 645, 651, 652, 658, 659, 665, 666, 668, 669, 677, 678, 684, 685, 691, 692, 698, 699, 705, 706, 712, 713, 719, 720, 726, 727, 733, 734, 740, 741, 747, 748, 754, 755, 759, 760, 766, 767, 773, 774, 780, 781, 787, 788, 794, 795, 801, 802, 808, 809, 815, 816, 822, 823, 829, 830, 836, 837, 843, 844, 850, 851, 857, 858, 864, 865, 871, 872, 878, 879, 885, 886, 892, 893, 899, 900, 913, 914, 916, 917, 932, 933, 935, 936, 951, 952, 954, 955, 970, 971, 973, 974, 989, 990, 992, 993, 1001, 1002, 1008, 1009, 1013, 1014, 1018, 1019, 1025, 1026, 1032, 1033, 1039, 1040, 1046, 1047, 1053, 1054, 1060, 1061, 1067, 1068, 1074, 1075, 1081, 1082, 1088, 1089, 1095, 1096, 1102, 1103, 1107, 1108, 1114, 1115, 1121, 1122, 1128, 1129, 1133, 1134, 4, 5, 198, 199, 200, 201, 202]
noncomputable def Kf (P : Params) : Frag := [(1, o1 P), (2, o2 P), (3, o3 P), (20, o20), (21, o21), (34, o34), (35, o35), (37, o37 P), (38, o38), (39, o39), (50, o50 P), (51, o51), (54, o54), (55, o55), (56, o56), (69, o69), (70, o70), (76, o76), (77, o77), (83, o83), (84, o84), (86, o86 P), (87, o87), (88, o88), (89, o89), (97, o97), (98, o98), (104, o104), (105, o105), (111, o111), (112, o112), (118, o118), (119, o119), (125, o125), (126, o126), (132, o132), (133, o133), (139, o139), (140, o140), (146, o146), (147, o147), (153, o153), (154, o154), (160, o160), (161, o161), (167, o167), (168, o168), (174, o174), (175, o175), (181, o181), (182, o182), (188, o188), (189, o189), (195, o195), (196, o196), (197, o197), (208, o208), (209, o209), (215, o215), (216, o216), (222, o222), (223, o223), (229, o229), (230, o230), (236, o236), (237, o237), (243, o243), (244, o244), (257, o257), (258, o258), (260, o260 P), (261, o261), (262, o262), (263, o263), (271, o271), (272, o272), (273, o273), (279, o279), (280, o280), (286, o286), (287, o287), (293, o293), (294, o294), (300, o300), (301, o301), (314, o314), (315, o315), (317, o317 P), (318, o318), (319, o319), (320, o320), (335, o335), (336, o336), (338, o338 P), (339, o339), (340, o340), (341, o341), (349, o349), (350, o350), (363, o363), (364, o364), (366, o366 P), (367, o367), (368, o368), (369, o369), (372, o372), (385, o385), (386, o386), (388, o388 P), (389, o389), (390, o390), (391, o391), (406, o406), (407, o407), (413, o413), (414, o414), (420, o420), (421, o421), (423, o423 P), (424, o424), (425, o425), (426, o426), (441, o441), (442, o442), (444, o444 P), (445, o445), (446, o446), (447, o447), (462, o462), (463, o463), (469, o469), (470, o470), (472, o472 P), (473, o473), (474, o474), (475, o475), (490, o490), (491, o491), (497, o497), (498, o498), (504, o504), (505, o505), (511, o511), (512, o512), (518, o518), (519, o519), (525, o525), (526, o526), (532, o532), (533, o533), (539, o539), (540, o540), (546, o546), (547, o547), (553, o553), (554, o554), (560, o560), (561, o561), (567, o567), (568, o568), (574, o574), (575, o575), (581, o581), (582, o582), (588, o588), (589, o589), (595, o595), (596, o596), (598, o598 P), (599, o599), (600, o600), (601, o601), (616, o616), (617, o617), (623, o623), (624, o624), (630, o630), (631, o631), (637, o637), (638, o638), (644, o644), (645, o645), (651, o651), (652, o652), (658, o658), (659, o659), (665, o665), (666, o666), (668, o668 P), (669, o669), (677, o677), (678, o678), (684, o684), (685, o685), (691, o691), (692, o692), (698, o698), (699, o699), (705, o705), (706, o706), (712, o712), (713, o713), (719, o719), (720, o720), (726, o726), (727, o727), (733, o733), (734, o734), (740, o740), (741, o741), (747, o747), (748, o748), (754, o754), (755, o755), (759, o759), (760, o760), (766, o766), (767, o767), (773, o773), (774, o774), (780, o780), (781, o781), (787, o787), (788, o788), (794, o794), (795, o795), (801, o801), (802, o802), (808, o808), (809, o809), (815, o815), (816, o816), (822, o822), (823, o823), (829, o829), (830, o830), (836, o836), (837, o837), (843, o843), (844, o844), (850, o850), (851, o851), (857, o857), (858, o858), (864, o864), (865, o865), (871, o871), (872, o872), (878, o878), (879, o879), (885, o885), (886, o886), (892, o892), (893, o893), (899, o899), (900, o900), (913, o913), (914, o914), (916, o916 P), (917, o917), (932, o932), (933, o933), (935, o935 P), (936, o936), (951, o951), (952, o952), (954, o954 P), (955, o955), (970, o970), (971, o971), (973, o973 P), (974, o974), (989, o989), (990, o990), (992, o992 P), (993, o993), (1001, o1001), (1002, o1002), (1008, o1008), (1009, o1009), (1013, o1013), (1014, o1014), (1018, o1018), (1019, o1019), (1025, o1025), (1026, o1026), (1032, o1032), (1033, o1033), (1039, o1039), (1040, o1040), (1046, o1046), (1047, o1047), (1053, o1053), (1054, o1054), (1060, o1060), (1061, o1061), (1067, o1067), (1068, o1068), (1074, o1074), (1075, o1075), (1081, o1081), (1082, o1082), (1088, o1088), (1089, o1089), (1095, o1095), (1096, o1096), (1102, o1102), (1103, o1103), (1107, o1107), (1108, o1108), (1114, o1114), (1115, o1115), (1121, o1121), (1122, o1122), (1128, o1128), (1129, o1129), (1133, o1133), (1134, o1134), (4, o4 P), (5, o5 P), (198, o198), (199, o199), (200, o200), (201, o201), (202, o202)]
abbrev rw9 : OpenLaw := PySem.Challenge.rw_sy0009_01
theorem r7 {a b : Bool} (h : a = true) (g : b = true) : (a && b) = true := by rw [h, g]; rfl
theorem sd2 : PySem.W.Fast.tw8377067652309620493 pr = true := by kernel_rfl
theorem sdf : R.filterR (PySem.W.Fast.tw13343964577679436407 pr pr.main.body) [⟨⟨[118, 97, 114, 115]⟩⟩, ⟨⟨[100, 105, 114]⟩⟩, ⟨⟨[108, 111, 99, 97, 108, 115]⟩⟩] = [] := by kernel_rfl
theorem sds : (!R.allR (PySem.W.Fast.tw5923862056798008813 pr.main.body) (PySem.W.Fast.tw3471404346716756564 PySem.W.Fast.tw17691160309236699985)) = false := by kernel_rfl
theorem sdk : PySem.W.Fast.tw8326940854005059898 {strict := false, foot := none, bare := []} pr.main.body = true := by kernel_rfl
theorem sd4 : PySem.W.Fast.tw8326940854005059898 {strict := !R.allR (PySem.W.Fast.tw5923862056798008813 pr.main.body) (PySem.W.Fast.tw3471404346716756564 PySem.W.Fast.tw17691160309236699985), foot := none, bare := R.filterR (PySem.W.Fast.tw13343964577679436407 pr pr.main.body) [⟨⟨[118, 97, 114, 115]⟩⟩, ⟨⟨[100, 105, 114]⟩⟩, ⟨⟨[108, 111, 99, 97, 108, 115]⟩⟩]} pr.main.body = true := by rw [sdf, sds]; exact sdk
theorem sd5 : PySem.W.Fast.tw17119622794617984870 pr pr.main.body (fun x n => PySem.W.Fast.tw17868728402115742887 n) = true := by kernel_rfl
theorem sd : PySem.W.Fast.tw12908688711261696721 pr = true := by
 delta PySem.W.Fast.tw12908688711261696721
 refine r7 (r7 (r7 (r7 (r7 ?_ ?_) sd2) ?_) sd4) sd5 <;> kernel_rfl
theorem sda : PySem.W.Fast.tw2436336058641802641 (PySem.W.Fast.tw2368527892694137696 rw9) = true := by
 delta PySem.W.Fast.tw2436336058641802641
 refine r7 (r7 (r7 (r7 (r7 (r7 (r7 (r7 (r7 (r7 (r7 (r7 (r7 sd ?_) ?_) ?_) ?_) ?_) ?_) ?_) ?_) ?_) ?_) ?_) ?_) ?_ <;> kernel_rfl
theorem sdb : PySem.W.Fast.tw17960256430627541270 (PySem.W.Fast.tw2368527892694137696 rw9) = true := by
 delta PySem.W.Fast.tw17960256430627541270
 refine r7 (r7 sda ?_) ?_ <;> kernel_rfl
theorem said_ : PySem.W.Fast.tw9446332074065402090 rw9 = true := by
 delta PySem.W.Fast.tw9446332074065402090
 refine r7 (r7 (r7 (r7 (r7 (r7 (r7 (r7 (r7 (r7 (r7 (r7 (r7 (r7 (r7 (r7 (r7 (r7 sdb ?_) ?_) ?_) ?_) ?_) ?_) ?_) ?_) ?_) ?_) ?_) ?_) ?_) ?_) ?_) ?_) ?_) ?_ <;> kernel_rfl
theorem said : rw9.wellSaid = true := (congrFun PySem.W.Fast.te9446332074065402090 rw9).trans said_
noncomputable def fpar : Stmt -> Arguments
 | .FunctionDef _ a _ _ _ _ _ _ _ _ => a
 | _ => default
noncomputable def fbody : Stmt -> List Stmt
 | .FunctionDef _ _ b _ _ _ _ _ _ _ => b
 | _ => []
noncomputable def fsc : Stmt -> Scope
 | .FunctionDef _ _ _ _ _ _ sc _ _ _ => sc
 | _ => default
noncomputable def fps : Stmt -> Pos
 | .FunctionDef _ _ _ _ _ _ _ _ _ p => p
 | _ => default
noncomputable def lawD : DefRec := ⟨rw9.row.name, fpar (S 178), fbody (S 178), fsc (S 178), fps (S 178)⟩
theorem hdef : defOf qv rw9.row.name = some (lawD, []) := by kernel_rfl
theorem hthe : rw9.row.prog.theDef rw9.row.name = some (lawD.params, lawD.body, lawD.scope) := by kernel_rfl
theorem hkw : kwWritten? lawD.params.kwonlyargs lawD.params.kw_defaults = some [] := by kernel_rfl
theorem hoks : (chainsOk qv && opensWell rw9.row.prog && (frees rw9.row.toRowW && rw9.row.within.isEmpty)) = true := by kernel_rfl
theorem hfin : ∀ P, KA = (Kf P).map (·.1) := fun P => by kernel_rfl
theorem lookK_ (P : Params) : (Kf P).map (fun p => gtK (eQ 1135 (obT P) 1 0) 1135 p.1) = (Kf P).map (fun p => some p.2) := by kernel_rfl
theorem lookK (w : World) (os : OsState) : KA.map (S1 w os).heap.get? = (Kf w.params).map fun p => some p.2 := by
 rw [hfin w.params]
 exact gt_ok (lookK_ w.params)
theorem looks (w : World) : (fun os => ((staticsOk (importedModules pr.main.body) (H0 w.params) (H1 w.params) && namesBound pr (H1 w.params) && gensDone (S1 w os) && laidKept (H0 w.params) (H1 w.params)),
    openSeen qv lo (importedModules pr.main.body) (fun _ => true) true (S1 w os), KA.map (S1 w os).heap.get?)) = fun _ => (true, openGood qv lo, (Kf w.params).map fun p => some p.2) := by
 funext os
 rw [look1, lookO, lookK]
noncomputable abbrev MM : Nat := 12 + (1 + (779 + (413 + (800 + (96 + (1573 + (992 + (1586 + (1519 + (1157 + 2))))))))))
theorem run1 (w : World) (os : OsState) : topRun treeTable pr w 11 (some (.ref 6)) MM ⟨H0 w.params, ⟨[]⟩, boot_drawn, boot_toks, os⟩ (topStub pr) = some ⟨H1 w.params, ⟨[]⟩, {}, 2022, os⟩ := run_ w os
theorem ble_ : Nat.ble MM 20000 = true := by kernel_rfl
noncomputable abbrev obsK : Shared -> List (Option Obj) := fun s => KA.map s.heap.get?
noncomputable abbrev valK : World -> List (Option Obj) := fun w => (Kf w.params).map fun p => some p.2
theorem left_ : LeftO pr qv lo (fun _ => true) obsK valK 20000 :=
 @LeftO.of_pieces pr qv lo (fun _ => true) _ obsK valK 20000 true H0 H1 ⟨[]⟩ ⟨[]⟩ boot_drawn {} boot_toks 2022 11 (some (.ref 6)) MM open_ size_ run1 ble_ looks
theorem whole_ : pr.tablesWhole = true := by
 unfold Program.tablesWhole TablesWhole.wProgram TablesWhole.holds Scope.bears
 rw [show @instDecidableEqStr = PySem.W.Fast.sDec from PySem.W.Fast.sDec_eq, show @TablesWhole.wModule = @PySem.W.Fast.tw6116379765354995101 from @PySem.W.Fast.te6116379765354995101]
 kernel_rfl
theorem hbare : rw9.row.prog.bare := ⟨rfl, rfl, rfl, rfl, rfl, whole_⟩
theorem hprom : rw9.row.toRowW.promised := by w_witness2
noncomputable abbrev WalkL : Prop := WalkO qv lo (fun _ _ => True) (InK Kf) rw9.row.toRowW lawD [] fun f vs => PySem.call f vs
theorem head_ (walk : WalkL) : rw9.Holds :=
 holds_law said fun hs => PySem.W.holds_open (YP := InK Kf) left_ (InK.of hfin) InK.keeps (fun _ _ => trivial) (fun _ _ _ _ _ => trivial) hdef hthe hkw (fun _ _ => recFacts_nil rfl) rfl hs hoks hbare hprom walk
end
end Mine
end
set_option linter.all false
set_option maxRecDepth 100000
set_option autoImplicit false
set_option maxHeartbeats 4000000
section
open PySem
set_option genSizeOf false
set_option genSizeOfSpec false
namespace Mine
inductive V where
 | none | bool (b : Bool) | int (i : Int) | str (s : Str) | tup (xs : List V) | lst (xs : List V) | obj (c : Nat) (fs : List (Nat × V)) | own (i : Nat) | top (v : Value)
 deriving Inhabited
inductive O where
 | list (xs : List V) | dict (es : List (V × V)) | inst (c : Nat) (fs : List (Nat × V)) | gone
 deriving Inhabited
set_option genInjectivity false
inductive Bop where | add | sub | mul | fdiv | mod | pow | and | or | xor | shl | shr
 deriving DecidableEq
inductive Cop where | eq | ne | lt | le | gt | ge | is | isNot | isIn | notIn
 deriving DecidableEq
inductive PE where
 | loc (i : Nat) | con (v : V) | glob (v : V)
 | neg (a : PE) | not (a : PE) | and (l : List PE) | or (l : List PE)
 | bin (op : Bop) (a b : PE)
 | cmp (op : Cop) (a b : PE) | cmp2 (o1 o2 : Cop) (a b c : PE)
 | ite (c a b : PE)
 | call (f : Nat) (args : List PE) | new (c : Nat) (args : List PE) | meth (o : PE) (m : Nat) (args : List PE)
 | len (a : PE) | ord (a : PE) | strOf (a : PE) | tupOf (a : PE)
 | attr (o : PE) (m : Nat) | sub (a k : PE) | slTo (a : PE) (n : Nat) | rev (a : PE) | copy (a : PE)
 | tup (l : List PE) | list (l : List PE) | dict (ks vs : List PE)
 | comp (e : PE) (caps : List Nat) (it : PE)
 | range (l : List PE) | bad
 deriving Inhabited
inductive PS where
 | asg (i : Nat) (e : PE) | asgT (is : List Nat) (e : PE) | setA (o : PE) (m : Nat) (e : PE) | setI (o k e : PE)
 | augL (i : Nat) (op : Bop) (e : PE) | augA (o : PE) (m : Nat) (op : Bop) (e : PE)
 | ex (e : PE) | ret (e : PE) | retN | cond (c : PE) (a b : List PS) | whl (c : PE) (b : List PS)
 | for_ (i : Nat) (it : PE) (b : List PS) | forT (is : List Nat) (it : PE) (b : List PS)
 | delAll (a : PE) | pass | bad
 deriving Inhabited
noncomputable def getL {α : Type} : List α -> Nat -> Option α
 | [], _ => none
 | x :: _, 0 => some x
 | _ :: r, n + 1 => getL r n
noncomputable def v5 {α : Type} : List α -> Nat -> α -> (List α -> Prop) -> Prop
 | [], _, _, k => k []
 | _ :: r, 0, v, k => k (v :: r)
 | x :: r, n + 1, v, k => v5 r n v fun r' => k (x :: r')
noncomputable def gZ {α : Type} : List α -> (Nat -> Prop) -> Prop
 | [], k => k 0
 | _ :: r, k => gZ r fun n => k (n + 1)
noncomputable def w4 {α : Type} : List α -> α -> (List α -> Prop) -> Prop
 | [], v, k => k [v]
 | x :: r, v, k => w4 r v fun r' => k (x :: r')
noncomputable def brB (b : Bool) (p q : Prop) : Prop := match b with
 | true => p
 | false => q
noncomputable def gd (b : Bool) (p : Prop) : Prop := match b with
 | true => p
 | false => False
noncomputable def arOk (a : Option Nat) (n : Nat) : Bool := match a with
 | some m => Nat.beq m n
 | none => false
noncomputable def idx (xs : List V) : Int -> Option V
 | .ofNat n => (match Nat.ble n 1000000 with
  | true => getL xs n
  | false => none)
 | .negSucc _ => none
noncomputable def v3 {α : Type} : Nat -> List (Nat × α) -> Option α
 | _, [] => none
 | m, (a, v) :: r => match Nat.beq m a with
  | true => some v
  | false => v3 m r
noncomputable def a8 (m : Nat) (v : V) : List (Nat × V) -> List (Nat × V)
 | [] => [(m, v)]
 | (a, u) :: r => match Nat.beq m a with
  | true => (a, v) :: r
  | false => (a, u) :: a8 m v r
mutual
noncomputable def veq : V -> V -> Option Bool
 | .int a, y => (match y with
  | .int b => some (decide (a = b))
  | .str _ => some false
  | .tup _ => some false
  | _ => none)
 | .str a, y => (match y with
  | .str b => some (a == b)
  | .int _ => some false
  | .tup _ => some false
  | _ => none)
 | .tup a, y => (match y with
  | .tup b => fZ a b
  | .int _ => some false
  | .str _ => some false
  | _ => none)
 | .lst a, y => (match y with
  | .lst b => fZ a b
  | _ => none)
 | .bool a, y => (match y with
  | .bool b => some (a == b)
  | _ => none)
 | .none, _ => none
 | .obj .., _ => none
 | .own _, _ => none
 | .top _, _ => none
noncomputable def fZ : List V -> List V -> Option Bool
 | [], [] => some true
 | [], _ :: _ => some false
 | _ :: _, [] => some false
 | x :: xs, y :: ys => match veq x y with
  | some b => (match fZ xs ys with
   | some c => some (b && c)
   | none => none)
  | none => none
end
mutual
noncomputable def qZ : V -> Nat
 | .tup xs => w1 xs + 1
 | .lst xs => w1 xs + 1
 | _ => 0
noncomputable def w1 : List V -> Nat
 | [] => 0
 | x :: xs => Nat.max (qZ x) (w1 xs)
end
noncomputable def j1 (es : List (V × V)) (k : V) : Option (Option V) := match es with
 | [] => some none
 | (a, v) :: r => match veq a k with
  | some true => some (some v)
  | some false => j1 r k
  | none => none
noncomputable def kok : Nat -> V -> Bool
 | _, .int _ => true
 | _, .str _ => true
 | d + 1, .tup xs => xs.all (kok d)
 | _, _ => false
noncomputable def isT : V -> Bool
 | .tup _ => true
 | _ => false
noncomputable def kfit (es : List (V × V)) (k : V) : Bool := kok 7 k && (match es with
 | [] => true
 | (a, _) :: _ => isT a == isT k)
noncomputable def v9 (es : List (V × V)) (k : V) : Option (Option V) := match kfit es k with
 | true => j1 es k
 | false => none
noncomputable def u3 (es : List (V × V)) (k v : V) : List (V × V) := match es with
 | [] => [(k, v)]
 | (a, u) :: r => match veq a k with
  | some true => (a, v) :: r
  | _ => (a, u) :: u3 r k v
structure St where
 loc : List (Option V)
 led : List O
noncomputable abbrev r8 := List V -> List O -> (V -> List O -> Prop) -> Prop
structure Prg where
 body : Nat -> Option (Nat × List PS)
 mth : Nat -> Nat -> Option Nat
 init : Nat -> Option (Option Nat)
 att : Nat -> Nat -> Bool
 stat : Nat -> Option (List (V × V))
 ar : Nat -> Option Nat
noncomputable def truth (led : List O) (v : V) (k : Bool -> Prop) : Prop := match v with
 | .none => k false
 | .bool b => k b
 | .int i => k (decide (i ≠ 0))
 | _ => False
noncomputable def iop (op : Bop) (a b : Int) (k : Int -> Prop) : Prop := match op with
 | .add => k (a + b)
 | .sub => k (a - b)
 | .mul => gd (Nat.blt a.natAbs (2 ^ 200)) (gd (Nat.blt b.natAbs (2 ^ 200)) (k (a * b)))
 | .fdiv => gd (decide (b ≠ 0)) (gd (Nat.blt b.natAbs (2 ^ 200)) (k (a.fdiv b)))
 | .mod => gd (decide (b ≠ 0)) (k (a.fmod b))
 | .pow => gd (decide (0 ≤ b)) (gd (decide (b ≤ 1000)) (gd (Nat.blt a.natAbs (2 ^ 64)) (k (a ^ b.toNat))))
 | .and => k (Builtin.bitAnd a b)
 | .or => k (Builtin.bitOr a b)
 | .xor => k (Builtin.bitXor a b)
 | .shl => gd (decide (0 ≤ b)) (gd (decide (b ≤ 1000)) (gd (Nat.blt a.natAbs (2 ^ 64)) (k (a * 2 ^ b.toNat))))
 | .shr => gd (decide (0 ≤ b)) (k (a.fdiv (2 ^ b.toNat)))
noncomputable def iopP (op : Bop) (a b : Int) (k : Int -> Prop) : Prop := match op with
 | .add => k (a + b)
 | .sub => k (a - b)
 | .mul => a.natAbs < 2 ^ 1000 ∧ b.natAbs < 2 ^ 1000 ∧ k (a * b)
 | .fdiv => b ≠ 0 ∧ b.natAbs < 2 ^ 1000 ∧ k (a.fdiv b)
 | .mod => b ≠ 0 ∧ k (a.fmod b)
 | .pow => 0 ≤ b ∧ b ≤ 1000 ∧ a.natAbs < 2 ^ 64 ∧ k (a ^ b.toNat)
 | .and => k (Builtin.bitAnd a b)
 | .or => k (Builtin.bitOr a b)
 | .xor => k (Builtin.bitXor a b)
 | .shl => 0 ≤ b ∧ b ≤ 1000 ∧ a.natAbs < 2 ^ 64 ∧ k (a * 2 ^ b.toNat)
 | .shr => 0 ≤ b ∧ k (a.fdiv (2 ^ b.toNat))
noncomputable def bop (op : Bop) (a b : V) (led : List O) (k : V -> List O -> Prop) : Prop := match a, b with
 | .int a, .int b => iop op a b fun i => k (.int i) led
 | .str a, .str b => (match op with
  | .add => gd (Nat.ble (a.length + b.length) 1000) (k (.str (a ++ b)) led)
  | _ => False)
 | .own i, .own j => (match op, getL led i, getL led j with
  | .add, some (.list xs), some (.list ys) => gd (Nat.ble (xs.length + ys.length) 1000) (gZ led fun n => w4 led (.list (xs ++ ys)) fun l => k (.own n) l)
  | _, _, _ => False)
 | _, _ => False
noncomputable def cint (op : Cop) (a b : Int) : Option Bool := match op with
 | .eq => some (decide (a = b)) | .ne => some (!decide (a = b)) | .lt => some (decide (a < b)) | .le => some (decide (a ≤ b)) | .gt => some (decide (b < a)) | .ge => some (decide (b ≤ a))
 | _ => none
noncomputable def isNone : V -> Bool
 | .none => true
 | _ => false
noncomputable def seen (led : List O) : V -> V
 | .own i => (match getL led i with
  | some (.list xs) => .lst xs
  | _ => .own i)
 | v => v
noncomputable def memI (k : Int) : List V -> Option Bool
 | [] => some false
 | y :: r => match y with
  | .int a => (match memI k r with
   | some c => some (decide (a = k) || c)
   | none => none)
  | _ => none
noncomputable def memL (x : V) (l : List V) : Option Bool := match x with
 | .int k => memI k l
 | _ => (match l with
  | [] => some false
  | _ :: _ => none)
noncomputable def inK (G : Prg) (k c : V) (led : List O) : Option Bool := match c with
 | .own i => (match getL led i with
  | some (.dict es) => (v9 es k).map (·.isSome)
  | some (.list xs) => memL k xs
  | _ => none)
 | .top (.ref a) => (match G.stat a with
  | some es => (v9 es k).map (·.isSome)
  | none => none)
 | .tup xs => memL k xs
 | _ => none
noncomputable def cmpI (op : Cop) (a b : V) (k : Bool -> Prop) : Prop := match a with
 | .int x => (match b with
  | .int y => (match cint op x y with
   | some r => k r
   | none => False)
  | _ => False)
 | _ => False
noncomputable def cop (G : Prg) (op : Cop) (a b : V) (led : List O) (k : Bool -> Prop) : Prop := match op with
 | .is => gd (isNone b) (k (isNone a))
 | .isNot => gd (isNone b) (k (!isNone a))
 | .isIn => (match inK G a b led with
  | some r => k r
  | none => False)
 | .notIn => (match inK G a b led with
  | some r => k (!r)
  | none => False)
 | .eq => gd (Nat.ble (qZ (seen led a)) 50) (match veq (seen led a) (seen led b) with
  | some r => k r
  | none => False)
 | .ne => gd (Nat.ble (qZ (seen led a)) 50) (match veq (seen led a) (seen led b) with
  | some r => k (!r)
  | none => False)
 | .lt => cmpI .lt a b k
 | .le => cmpI .le a b k
 | .gt => cmpI .gt a b k
 | .ge => cmpI .ge a b k
noncomputable def subK (G : Prg) (a i : V) (led : List O) (k : V -> Prop) : Prop := match a, i with
 | .tup xs, .int n => (match idx xs n with | some v => k v | none => False)
 | .lst xs, .int n => (match idx xs n with | some v => k v | none => False)
 | .own o, i => (match getL led o with
  | some (.list xs) => (match i with
   | .int n => (match idx xs n with | some v => k v | none => False)
   | _ => False)
  | some (.dict es) => (match v9 es i with | some (some v) => k v | _ => False)
  | _ => False)
 | .top (.ref d), i => (match G.stat d with
  | some es => (match v9 es i with | some (some v) => k v | _ => False)
  | none => False)
 | _, _ => False
noncomputable def attrK (G : Prg) (o : V) (m : Nat) (led : List O) (k : V -> Prop) : Prop := match o with
 | .own i => (match getL led i with
  | some (.inst C fs) => (match G.att C m with
   | true => (match v3 m fs with | some v => k v | none => False)
   | false => False)
  | _ => False)
 | .obj C fs => (match G.att C m with
   | true => (match v3 m fs with | some v => k v | none => False)
   | false => False)
 | _ => False
noncomputable def chars (s : Str) : List V := s.cps.toList.map fun c => .str ⟨#[c]⟩
noncomputable def fQ (led : List O) : V -> Option (List V)
 | .tup xs => some xs
 | .lst xs => some xs
 | .str s => some (chars s)
 | .own i => (match getL led i with | some (.list xs) => some xs | _ => none)
 | _ => none
noncomputable def j3 : Nat -> Int -> List V
 | 0, _ => []
 | n + 1, a => .int a :: j3 n (a + 1)
noncomputable def bindT : List Nat -> List V -> List (Option V) -> (List (Option V) -> Prop) -> Prop
 | [], [], l, k => k l
 | i :: is, v :: vs, l, k => v5 l i (some v) fun l' => bindT is vs l' k
 | _, _, _, _ => False
noncomputable def g0 (l : List (Option V)) : List Nat -> List (Option V)
 | [] => []
 | i :: r => (match getL l i with | some x => x | none => none) :: g0 l r
noncomputable def pad : Nat -> List (Option V)
 | 0 => []
 | n + 1 => none :: pad n
noncomputable def hZ : List V -> Nat -> List (Option V)
 | [], n => pad n
 | v :: r, n => some v :: hZ r (n - 1)
noncomputable def forL (f : V -> St -> (St -> Prop) -> Prop) : List V -> St -> (St -> Prop) -> Prop
 | [], st, k => k st
 | v :: r, st, k => f v st fun st' => forL f r st' k
noncomputable def whlU (T : St -> (Bool -> St -> Prop) -> Prop) (B : St -> (St -> Prop) -> Prop) : Nat -> St -> (St -> Prop) -> Prop
 | 0, _, _ => False
 | m + 1, st, k => T st fun q st' => brB q (B st' fun st'' => whlU T B m st'' k) (k st')
noncomputable def still (it : V) (items : List V) (led : List O) (p : Prop) : Prop := match it with
 | .own i => getL led i = some (.list items) ∧ p
 | _ => p
noncomputable def mAppend : Nat := 0
noncomputable def mPop : Nat := 1
noncomputable def mGet : Nat := 2
noncomputable def lmeth (m : Nat) (i : Nat) (xs : List V) (args : List V) (led : List O) (k : V -> List O -> Prop) : Prop := match m, args with
 | 0, [v] => gd (Nat.ble xs.length 100000) (v5 led i (.list (xs ++ [v])) fun l => k .none l)
 | 1, [] => gd (Nat.ble xs.length 100000) (match xs.getLast? with | some v => v5 led i (.list xs.dropLast) fun l => k v l | none => False)
 | _, _ => False
noncomputable def dmeth (m : Nat) (es : List (V × V)) (args : List V) (led : List O) (k : V -> List O -> Prop) : Prop := match m, args with
 | 2, [x] => (match v9 es x with | some (some v) => k v led | some none => k .none led | none => False)
 | 2, [x, d] => (match v9 es x with | some (some v) => k v led | some none => k d led | none => False)
 | _, _ => False
inductive MK where | fn (f : Nat) | ls (i : Nat) | dc (i : Nat) | st (es : List (V × V)) | no
noncomputable def mkC (G : Prg) (C m : Nat) (fs : List (Nat × V)) : MK := match v3 m fs with
 | some _ => .no
 | none => (match G.mth C m with
  | some f => .fn f
  | none => .no)
noncomputable def o9 (G : Prg) (u : V) (m : Nat) (led : List O) : MK := match u with
 | .own i => (match getL led i with
  | some (.inst C fs) => mkC G C m fs
  | some (.list _) => (match Nat.ble m 1 with
   | true => .ls i
   | false => .no)
  | some (.dict _) => (match Nat.beq m 2 with
   | true => .dc i
   | false => .no)
  | _ => .no)
 | .obj C fs => mkC G C m fs
 | .top (.ref d) => (match G.stat d with
  | some es => (match Nat.beq m 2 with
   | true => .st es
   | false => .no)
  | none => .no)
 | _ => .no
noncomputable def lZ : List V -> Bool
 | [] => true
 | .str x :: r => (r.all fun y => match y with | .str z => !(x == z) | _ => false) && lZ r
 | _ :: _ => false
inductive J where
 | e (x : PE) (st : St) (k : V -> St -> Prop)
 | es (l : List PE) (st : St) (k : List V -> St -> Prop)
 | t (x : PE) (st : St) (k : Bool -> St -> Prop)
 | al (l : List PE) (st : St) (k : Bool -> St -> Prop)
 | ol (l : List PE) (st : St) (k : Bool -> St -> Prop)
 | b (l : List PS) (st : St) (k : St -> Prop) (r : V -> List O -> Prop)
 | s (x : PS) (st : St) (k : St -> Prop) (r : V -> List O -> Prop)
 | call (f : Nat) (args : List V) (led : List O) (r : V -> List O -> Prop)
 | it (x : PE) (st : St) (k : V -> List V -> St -> Prop)
noncomputable def wp (G : Prg) (Γ : Nat -> Option (Nat × r8)) : Nat -> J -> Prop
 | 0, _ => False
 | n + 1, .es l st k => (match l with
  | [] => k [] st
  | x :: r => wp G Γ n (.e x st fun v st => wp G Γ n (.es r st fun vs st => k (v :: vs) st)))
 | n + 1, .al l st k => (match l with
  | [] => k true st
  | x :: r => wp G Γ n (.t x st fun b st => brB b (wp G Γ n (.al r st k)) (k false st)))
 | n + 1, .ol l st k => (match l with
  | [] => k false st
  | x :: r => wp G Γ n (.t x st fun b st => brB b (k true st) (wp G Γ n (.ol r st k))))
 | n + 1, .t x st k => (match x with
  | .not a => wp G Γ n (.t a st fun b st => k (!b) st)
  | .and l => wp G Γ n (.al l st k)
  | .or l => wp G Γ n (.ol l st k)
  | x => wp G Γ n (.e x st fun v st => truth st.led v fun b => k b st))
 | n + 1, .it x st k => (match x with
  | .range [a] => wp G Γ n (.e a st fun v st => match v with
   | .int b => gd (Nat.ble b.natAbs 1000000) (k .none (j3 b.toNat 0) st)
   | _ => False)
  | .range [a, b] => wp G Γ n (.e a st fun v st => wp G Γ n (.e b st fun u st => match v, u with
   | .int a, .int b => gd (Nat.ble a.natAbs 1000000) (gd (Nat.ble b.natAbs 1000000) (k .none (j3 (b - a).toNat a) st))
   | _, _ => False))
  | x => wp G Γ n (.e x st fun v st => match fQ st.led v with
   | some xs => k v xs st
   | none => False))
 | n + 1, .call f args led r => (match Γ f with
  | some (m, sp) => gd (Nat.ble m n) (sp args led r)
  | none => match G.body f with
   | some (m, ps) => gd (arOk (G.ar f) args.length) (wp G Γ n (.b ps ⟨hZ args m, led⟩ (fun st => r .none st.led) r))
   | none => False)
 | n + 1, .e x st k => (match x with
  | .loc i => (match getL st.loc i with
   | some (some v) => k v st
   | _ => False)
  | .con v => k v st
  | .glob v => k v st
  | .neg a => wp G Γ n (.e a st fun v st => match v with
   | .int i => k (.int (-i)) st
   | _ => False)
  | .not a => wp G Γ n (.e a st fun v st => truth st.led v fun b => k (.bool (!b)) st)
  | .and l => (match l with
   | [] => False
   | [a] => wp G Γ n (.e a st k)
   | a :: r => wp G Γ n (.e a st fun v st => match v with
    | .bool b => brB b (wp G Γ n (.e (.and r) st k)) (k (.bool false) st)
    | _ => False))
  | .or l => (match l with
   | [] => False
   | [a] => wp G Γ n (.e a st k)
   | a :: r => wp G Γ n (.e a st fun v st => match v with
    | .bool b => brB b (k (.bool true) st) (wp G Γ n (.e (.or r) st k))
    | _ => False))
  | .bin op a b => wp G Γ n (.e a st fun u st => wp G Γ n (.e b st fun v st => bop op u v st.led fun r l => k r ⟨st.loc, l⟩))
  | .cmp op a b => wp G Γ n (.e a st fun u st => wp G Γ n (.e b st fun v st => cop G op u v st.led fun r => k (.bool r) st))
  | .cmp2 _ _ _ _ _ => False
  | .ite _ _ _ => False
  | .call f as => wp G Γ n (.es as st fun vs st => wp G Γ n (.call f vs st.led fun v l => k v ⟨st.loc, l⟩))
  | .new C as => wp G Γ n (.es as st fun vs st => gZ st.led fun i => w4 st.led (.inst C []) fun l => match G.init C with
   | some (some f) => wp G Γ n (.call f (.own i :: vs) l fun v l => gd (isNone v) (k (.own i) ⟨st.loc, l⟩))
   | some none => (match vs with
    | [] => k (.own i) ⟨st.loc, l⟩
    | _ => False)
   | none => False)
  | .meth o m as => wp G Γ n (.e o st fun u st => match o9 G u m st.led with
   | .fn f => wp G Γ n (.es as st fun vs st => wp G Γ n (.call f (u :: vs) st.led fun v l => k v ⟨st.loc, l⟩))
   | .ls i => wp G Γ n (.es as st fun vs st => match getL st.led i with
    | some (.list xs) => lmeth m i xs vs st.led fun v l => k v ⟨st.loc, l⟩
    | _ => False)
   | .dc i => wp G Γ n (.es as st fun vs st => match getL st.led i with
    | some (.dict es) => dmeth m es vs st.led fun v l => k v ⟨st.loc, l⟩
    | _ => False)
   | .st es => wp G Γ n (.es as st fun vs st => dmeth m es vs st.led fun v l => k v ⟨st.loc, l⟩)
   | .no => False)
  | .len a => wp G Γ n (.e a st fun v st => match v with
   | .tup xs => gd (Nat.ble xs.length 1000000) (k (.int xs.length) st)
   | .lst xs => gd (Nat.ble xs.length 1000000) (k (.int xs.length) st)
   | .own i => (match getL st.led i with
    | some (.list xs) => gd (Nat.ble xs.length 1000000) (k (.int xs.length) st)
    | some (.dict es) => gd (Nat.ble es.length 1000000) (k (.int es.length) st)
    | _ => False)
   | _ => False)
  | .ord a => wp G Γ n (.e a st fun v st => match v with
   | .str s => (match s.cps.toList with
    | [c] => k (.int c) st
    | _ => False)
   | _ => False)
  | .strOf a => wp G Γ n (.e a st fun v st => match v with
   | .int i => gd (Nat.blt i.natAbs (10 ^ 10)) (k (.str (Str.ofString (toString i))) st)
   | _ => False)
  | .tupOf a => wp G Γ n (.e a st fun v st => match v with
   | .own i => (match getL st.led i with
    | some (.list xs) => gd (Nat.ble xs.length 100000) (k (.tup xs) st)
    | _ => False)
   | _ => False)
  | .attr o m => wp G Γ n (.e o st fun v st => attrK G v m st.led fun u => k u st)
  | .sub a i => wp G Γ n (.e a st fun u st => wp G Γ n (.e i st fun v st => subK G u v st.led fun x => k x st))
  | .slTo a m => wp G Γ n (.e a st fun v st => match v with
   | .lst xs => gd (Nat.ble xs.length 1000) (gZ st.led fun i => w4 st.led (.list (xs.take m)) fun l => k (.own i) ⟨st.loc, l⟩)
   | _ => False)
  | .rev a => wp G Γ n (.e a st fun v st => match v with
   | .tup xs => gd (Nat.ble xs.length 1000) (k (.tup xs.reverse) st)
   | _ => False)
  | .copy a => wp G Γ n (.e a st fun v st => match v with
   | .own i => (match getL st.led i with
    | some (.list xs) => gd (Nat.ble xs.length 1000) (gZ st.led fun j => w4 st.led (.list xs) fun l => k (.own j) ⟨st.loc, l⟩)
    | _ => False)
   | _ => False)
  | .tup l => wp G Γ n (.es l st fun vs st => k (.tup vs) st)
  | .list l => wp G Γ n (.es l st fun vs st => gZ st.led fun i => w4 st.led (.list vs) fun l => k (.own i) ⟨st.loc, l⟩)
  | .dict ks vs => (match ks, vs with
   | [], [] => gZ st.led fun i => w4 st.led (.dict []) fun l => k (.own i) ⟨st.loc, l⟩
   | ks, vs => wp G Γ n (.es ks st fun us st => wp G Γ n (.es vs st fun ws st => gd (lZ us) (gZ st.led fun i => w4 st.led (.dict (us.zip ws)) fun l => k (.own i) ⟨st.loc, l⟩))))
  | .comp e caps it => wp G Γ n (.it it st fun v xs st => gd (Nat.ble xs.length 1000) (gZ st.led fun i => w4 st.led (.list []) fun l =>
    forL (fun x st' kk => wp G Γ n (.e e ⟨some x :: g0 st.loc caps, st'.led⟩ fun u st'' => match getL st''.led i with
     | some (.list ys) => gd (Nat.ble ys.length 100000) (v5 st''.led i (.list (ys ++ [u])) fun l => still v xs l (kk ⟨st.loc, l⟩))
     | _ => False)) xs ⟨st.loc, l⟩ fun st' => k (.own i) st'))
  | .range _ => False
  | .bad => False)
 | n + 1, .b l st k r => (match l with
  | [] => k st
  | x :: rest => wp G Γ n (.s x st (fun st => wp G Γ n (.b rest st k r)) r))
 | n + 1, .s x st k r => (match x with
  | .asg i e => wp G Γ n (.e e st fun v st => v5 st.loc i (some v) fun l => k ⟨l, st.led⟩)
  | .asgT is e => wp G Γ n (.e e st fun v st => match v with
   | .tup vs => bindT is vs st.loc fun l => k ⟨l, st.led⟩
   | _ => False)
  | .setA o m e => wp G Γ n (.e e st fun v st => wp G Γ n (.e o st fun u st => match u with
   | .own i => (match getL st.led i with
    | some (.inst C fs) => (match G.att C m with
     | true => gd (Nat.ble fs.length 100) (v5 st.led i (.inst C (a8 m v fs)) fun l => k ⟨st.loc, l⟩)
     | false => False)
    | _ => False)
   | _ => False))
  | .setI o i e => wp G Γ n (.e e st fun v st => wp G Γ n (.e o st fun u st => wp G Γ n (.e i st fun j st => match u with
   | .own a => (match getL st.led a with
    | some (.list xs) => (match j with
     | .int (.ofNat p) => gd (Nat.blt p xs.length) (gd (Nat.ble p 1000000) (v5 st.led a (.list (xs.set p v)) fun l => k ⟨st.loc, l⟩))
     | _ => False)
    | some (.dict es) => (match v9 es j with
     | some _ => gd (Nat.ble es.length 100000) (v5 st.led a (.dict (u3 es j v)) fun l => k ⟨st.loc, l⟩)
     | none => False)
    | _ => False)
   | _ => False)))
  | .augL _ _ _ => False
  | .augA o m op e => wp G Γ n (.e o st fun u st => attrK G u m st.led fun x => wp G Γ n (.e e st fun v st => match op, x, v, u with
   | .add, .int a, .int b, .own i => (match getL st.led i with
    | some (.inst C fs) => (match G.att C m with
     | true => gd (Nat.ble fs.length 100) (v5 st.led i (.inst C (a8 m (.int (a + b)) fs)) fun l => k ⟨st.loc, l⟩)
     | false => False)
    | _ => False)
   | _, _, _, _ => False))
  | .ex e => wp G Γ n (.e e st fun _ st => k st)
  | .ret e => wp G Γ n (.e e st fun v st => r v st.led)
  | .retN => r .none st.led
  | .cond c a b => wp G Γ n (.t c st fun q st => brB q (wp G Γ n (.b a st k r)) (wp G Γ n (.b b st k r)))
  | .whl c b => whlU (fun st k => wp G Γ n (.t c st k)) (fun st k => wp G Γ n (.b b st k r)) 400 st k
  | .for_ i it b => wp G Γ n (.it it st fun v xs st => forL (fun x st kk => v5 st.loc i (some x) fun l => wp G Γ n (.b b ⟨l, st.led⟩ (fun st => still v xs st.led (kk st)) r)) xs st k)
  | .forT is it b => wp G Γ n (.it it st fun v xs st => forL (fun x st kk => match x with
   | .tup us => bindT is us st.loc fun l => wp G Γ n (.b b ⟨l, st.led⟩ (fun st => still v xs st.led (kk st)) r)
   | _ => False) xs st k)
  | .bad => False
  | .delAll a => wp G Γ n (.e a st fun v st => match v with
   | .own i => (match getL st.led i with
    | some (.list xs) => gd (Nat.ble xs.length 100000) (v5 st.led i (.list []) fun l => k ⟨st.loc, l⟩)
    | _ => False)
   | _ => False)
  | .pass => k st)
theorem x8 {b : Bool} {p : Prop} : gd b p ↔ b = true ∧ p := by cases b <;> simp [gd]
theorem z7 {a b : Nat} {p : Prop} (h : gd (Nat.ble a b) p) : a ≤ b ∧ p := ⟨Nat.le_of_ble_eq_true (x8.mp h).1, (x8.mp h).2⟩
theorem gd_blt {a b : Nat} {p : Prop} (h : gd (Nat.blt a b) p) : a < b ∧ p := ⟨Nat.le_of_ble_eq_true (x8.mp h).1, (x8.mp h).2⟩
theorem gd_dec {q : Prop} [Decidable q] {p : Prop} (h : gd (decide q) p) : q ∧ p := ⟨of_decide_eq_true (x8.mp h).1, (x8.mp h).2⟩
theorem iop_P {op : Bop} {a b : Int} {k : Int -> Prop} (h : iop op a b k) : iopP op a b k := by
 have up : ∀ x : Nat, x < 2 ^ 200 -> x < 2 ^ 1000 := fun x hx => Nat.lt_of_lt_of_le hx (Nat.pow_le_pow_right (by decide) (by decide))
 cases op with
 | add => exact h
 | sub => exact h
 | mul => obtain ⟨h1, h⟩ := gd_blt h; obtain ⟨h2, h⟩ := gd_blt h; exact ⟨up _ h1, up _ h2, h⟩
 | fdiv => obtain ⟨h1, h⟩ := gd_dec h; obtain ⟨h2, h⟩ := gd_blt h; exact ⟨h1, up _ h2, h⟩
 | mod => obtain ⟨h1, h⟩ := gd_dec h; exact ⟨h1, h⟩
 | pow => obtain ⟨h1, h⟩ := gd_dec h; obtain ⟨h2, h⟩ := gd_dec h; obtain ⟨h3, h⟩ := gd_blt h; exact ⟨h1, h2, h3, h⟩
 | and => exact h
 | or => exact h
 | xor => exact h
 | shl => obtain ⟨h1, h⟩ := gd_dec h; obtain ⟨h2, h⟩ := gd_dec h; obtain ⟨h3, h⟩ := gd_blt h; exact ⟨h1, h2, h3, h⟩
 | shr => obtain ⟨h1, h⟩ := gd_dec h; exact ⟨h1, h⟩
theorem arOk_iff {a : Option Nat} {n : Nat} (h : arOk a n = true) : a = some n := by
 cases a with
 | none => cases h
 | some m => rw [Nat.eq_of_beq_eq_true h]
end Mine
end
section
open PySem
namespace Mine
noncomputable abbrev zz (s : String) : Str := Str.ofString s
noncomputable def b70 : List PS := [(.setA (.loc 0) 3 (.list [])), (.setA (.loc 0) 4 (.dict [] [])), (.setA (.loc 0) 5 (.list [])), (.setA (.loc 0) 6 (.list [])), (.setA (.loc 0) 7 (.list [])), (.for_ 1 (.range [(.glob (.int 16))]) [(.asg 2 (.tup [(.glob (.int 1)), (.loc 1)])), (.ex (.meth (.attr (.loc 0) 3) 0 [(.loc 2)])), (.setI (.attr (.loc 0) 4) (.loc 2) (.loc 1)), (.ex (.meth (.attr (.loc 0) 5) 0 [(.con (.int 1))])), (.ex (.meth (.attr (.loc 0) 6) 0 [(.con (.int 1))])), (.ex (.meth (.attr (.loc 0) 7) 0 [(.con (.int 0))]))])]
noncomputable def b77 : List PS := [(.cond (.or [(.cmp .lt (.loc 1) (.con (.int 0))), (.cmp .ge (.loc 1) (.len (.attr (.loc 0) 3)))]) [.bad] []), (.ret (.sub (.attr (.loc 0) 3) (.loc 1)))]
noncomputable def b84 : List PS := [(.asg 2 (.meth (.attr (.loc 0) 4) 2 [(.loc 1), (.neg (.con (.int 1)))])), (.cond (.cmp .ge (.loc 2) (.con (.int 0))) [(.ret (.loc 2))] []), (.ex (.call 119 [(.loc 0), (.loc 1)])), (.asg 3 (.con (.int 1))), (.asg 4 (.con (.int 1))), (.asg 5 (.con (.int 0))), (.cond (.or [(.cmp .eq (.sub (.loc 1) (.con (.int 0))) (.glob (.int 6))), (.cmp .eq (.sub (.loc 1) (.con (.int 0))) (.glob (.int 7)))]) [(.asg 5 (.con (.int 1)))] []), (.asg 6 (.call 105 [(.sub (.loc 1) (.con (.int 0)))])), (.for_ 7 (.call 98 [(.loc 1)]) [(.cond (.cmp .gt (.bin .add (.sub (.attr (.loc 0) 5) (.loc 7)) (.loc 6)) (.loc 3)) [(.asg 3 (.bin .add (.sub (.attr (.loc 0) 5) (.loc 7)) (.loc 6)))] []), (.augL 4 .add (.sub (.attr (.loc 0) 6) (.loc 7))), (.cond (.cmp .eq (.sub (.attr (.loc 0) 7) (.loc 7)) (.con (.int 1))) [(.asg 5 (.con (.int 1)))] [])]), (.cond (.cmp .gt (.loc 3) (.glob (.int 24))) [.bad] []), (.cond (.cmp .gt (.loc 4) (.glob (.int 4096))) [.bad] []), (.asg 8 (.len (.attr (.loc 0) 3))), (.ex (.meth (.attr (.loc 0) 3) 0 [(.loc 1)])), (.setI (.attr (.loc 0) 4) (.loc 1) (.loc 8)), (.ex (.meth (.attr (.loc 0) 5) 0 [(.loc 3)])), (.ex (.meth (.attr (.loc 0) 6) 0 [(.loc 4)])), (.ex (.meth (.attr (.loc 0) 7) 0 [(.loc 5)])), (.ret (.loc 8))]
noncomputable def b98 : List PS := [(.asg 1 (.sub (.loc 0) (.con (.int 0)))), (.cond (.or [(.cmp .eq (.loc 1) (.glob (.int 2))), (.cmp .eq (.loc 1) (.glob (.int 3)))]) [(.ret (.sub (.loc 0) (.con (.int 2))))] []), (.cond (.or [(.cmp .eq (.loc 1) (.glob (.int 4))), (.cmp .eq (.loc 1) (.glob (.int 5))), (.cmp .eq (.loc 1) (.glob (.int 8))), (.cmp .eq (.loc 1) (.glob (.int 9))), (.cmp .eq (.loc 1) (.glob (.int 11)))]) [(.ret (.tup [(.sub (.loc 0) (.con (.int 1)))]))] []), (.cond (.cmp .eq (.loc 1) (.glob (.int 10))) [(.ret (.bin .add (.tup [(.sub (.loc 0) (.con (.int 1)))]) (.sub (.loc 0) (.con (.int 3)))))] []), (.ret (.tup []))]
noncomputable def b105 : List PS := [(.cond (.or [(.cmp .eq (.loc 0) (.glob (.int 2))), (.cmp .eq (.loc 0) (.glob (.int 3))), (.cmp .eq (.loc 0) (.glob (.int 4)))]) [(.ret (.con (.int 1)))] []), (.ret (.con (.int 0)))]
noncomputable def b112 : List PS := [(.cond (.or [(.cmp .eq (.loc 0) (.glob (.int 2))), (.cmp .eq (.loc 0) (.glob (.int 3)))]) [(.ret (.con (.int 3)))] []), (.cond (.cmp .eq (.loc 0) (.glob (.int 10))) [(.ret (.con (.int 4)))] []), (.ret (.con (.int 2)))]
noncomputable def b119 : List PS := [(.cond (.or [(.cmp .eq (.len (.loc 1)) (.con (.int 0))), (.cmp .le (.sub (.loc 1) (.con (.int 0))) (.glob (.int 1))), (.cmp .gt (.sub (.loc 1) (.con (.int 0))) (.glob (.int 11)))]) [.bad] []), (.asg 2 (.sub (.loc 1) (.con (.int 0)))), (.cond (.cmp .ne (.len (.loc 1)) (.call 112 [(.loc 2)])) [.bad] []), (.for_ 3 (.call 98 [(.loc 1)]) [(.ex (.meth (.loc 0) 8 [(.loc 3)]))]), (.cond (.or [(.cmp .eq (.loc 2) (.glob (.int 2))), (.cmp .eq (.loc 2) (.glob (.int 3)))]) [(.ex (.call 126 [(.loc 0), (.loc 1)]))] [(.cond (.or [(.cmp .eq (.loc 2) (.glob (.int 6))), (.cmp .eq (.loc 2) (.glob (.int 7)))]) [(.cond (.cmp .lt (.sub (.loc 1) (.con (.int 1))) (.con (.int 0))) [.bad] [])] [(.cond (.cmp .eq (.loc 2) (.glob (.int 10))) [(.cond (.or [(.not (.call 140 [(.loc 0), (.sub (.loc 1) (.con (.int 1)))])), (.cmp .lt (.sub (.loc 1) (.con (.int 2))) (.con (.int 0)))]) [.bad] []), (.ex (.call 133 [(.loc 0), (.sub (.loc 1) (.con (.int 3)))]))] [(.cond (.cmp .eq (.loc 2) (.glob (.int 8))) [(.cond (.not (.or [(.call 189 [(.loc 0), (.sub (.loc 1) (.con (.int 1)))]), (.call 196 [(.loc 0), (.sub (.loc 1) (.con (.int 1)))])])) [.bad] [])] [(.cond (.not (.call 140 [(.loc 0), (.sub (.loc 1) (.con (.int 1)))])) [.bad] [])])])])])]
noncomputable def b126 : List PS := [(.cond (.or [(.cmp .le (.sub (.loc 1) (.con (.int 1))) (.con (.int 0))), (.cmp .isIn (.sub (.loc 1) (.con (.int 1))) (.glob (.top (.ref 55))))]) [.bad] []), (.ex (.call 133 [(.loc 0), (.sub (.loc 1) (.con (.int 2)))]))]
noncomputable def b133 : List PS := [(.for_ 2 (.loc 1) [(.cond (.not (.call 140 [(.loc 0), (.loc 2)])) [.bad] [])])]
noncomputable def b140 : List PS := [(.cond (.or [(.cmp .eq (.loc 1) (.glob (.int 0))), (.cmp .eq (.loc 1) (.glob (.int 14)))]) [(.ret (.con (.bool false)))] []), (.asg 2 (.sub (.meth (.loc 0) 8 [(.loc 1)]) (.con (.int 0)))), (.ret (.or [(.cmp .le (.loc 2) (.glob (.int 4))), (.cmp .eq (.loc 2) (.glob (.int 6))), (.cmp .eq (.loc 2) (.glob (.int 7)))]))]
noncomputable def b147 : List PS := [(.cond (.cmp .isIn (.loc 1) (.glob (.top (.ref 55)))) [(.ret (.call 161 [(.loc 1), (.loc 2)]))] []), (.ret (.meth (.loc 0) 9 [(.tup [(.glob (.int 2)), (.loc 1), (.loc 2)])]))]
noncomputable def b154 : List PS := [(.cond (.cmp .isIn (.loc 1) (.glob (.top (.ref 55)))) [(.ret (.call 161 [(.loc 1), (.loc 2)]))] []), (.ret (.meth (.loc 0) 9 [(.tup [(.glob (.int 3)), (.loc 1), (.loc 2)])]))]
noncomputable def b168 : List PS := [(.ret (.sub (.meth (.loc 0) 8 [(.loc 1)]) (.con (.int 0))))]
noncomputable def b182 : List PS := [(.asg 2 (.meth (.loc 0) 8 [(.loc 1)])), (.cond (.or [(.cmp .eq (.sub (.loc 2) (.con (.int 0))) (.glob (.int 2))), (.cmp .eq (.sub (.loc 2) (.con (.int 0))) (.glob (.int 3)))]) [(.ret (.sub (.loc 2) (.con (.int 1))))] []), (.cond (.cmp .eq (.sub (.loc 2) (.con (.int 0))) (.glob (.int 1))) [(.ret (.meth (.glob (.top (.ref 54))) 2 [(.loc 1), (.con (.int 0))]))] []), (.cond (.cmp .eq (.sub (.loc 2) (.con (.int 0))) (.glob (.int 4))) [(.ret (.glob (.int 5)))] []), (.ret (.con (.int 0)))]
noncomputable def b189 : List PS := [(.cond (.and [(.cmp .le (.glob (.int 1)) (.loc 1)), (.cmp .le (.loc 1) (.glob (.int 11)))]) [(.ret (.con (.bool true)))] []), (.ret (.cmp .eq (.sub (.meth (.loc 0) 8 [(.loc 1)]) (.con (.int 0))) (.glob (.int 3))))]
noncomputable def b209 : List PS := [(.ret (.call 216 [(.loc 0), (.loc 1), (.loc 2), (.con (.int 0)), (.dict [] [])]))]
noncomputable def b216 : List PS := [(.asg 5 (.tup [(.loc 1), (.loc 3)])), (.cond (.cmp .notIn (.loc 5) (.loc 4)) [(.setI (.loc 4) (.loc 5) (.call 223 [(.loc 0), (.loc 1), (.loc 2), (.loc 3), (.loc 4)]))] []), (.ret (.sub (.loc 4) (.loc 5)))]
noncomputable def b223 : List PS := [(.asg 5 (.con (.str (zz "")))), (.asg 6 (.con (.str (zz "")))), (.asg 7 (.meth (.loc 0) 8 [(.loc 1)])), (.whl (.cmp .isIn (.sub (.loc 7) (.con (.int 0))) (.glob (.top (.ref 197)))) [(.asg 8 (.sub (.glob (.top (.ref 197))) (.sub (.loc 7) (.con (.int 0))))), (.asg 5 (.bin .add (.loc 5) (.sub (.loc 8) (.con (.int 0))))), (.asg 6 (.bin .add (.sub (.loc 8) (.con (.int 1))) (.loc 6))), (.asg 1 (.sub (.loc 7) (.con (.int 1)))), (.asg 7 (.meth (.loc 0) 8 [(.loc 1)]))]), (.ret (.bin .add (.bin .add (.loc 5) (.call 230 [(.loc 0), (.loc 1), (.loc 7), (.loc 2), (.loc 3), (.loc 4)])) (.loc 6)))]
noncomputable def b230 : List PS := [(.asg 6 (.sub (.loc 2) (.con (.int 0)))), (.cond (.cmp .eq (.loc 6) (.glob (.int 1))) [(.ret (.sub (.glob (.tup [(.str (zz "void")), (.str (zz "bool")), (.str (zz "char")), (.str (zz "sbyte")), (.str (zz "byte")), (.str (zz "short")), (.str (zz "ushort")), (.str (zz "int")), (.str (zz "uint")), (.str (zz "long")), (.str (zz "ulong")), (.str (zz "native int")), (.str (zz "object")), (.str (zz "string")), (.str (zz "null")), (.str (zz "?"))])) (.loc 1)))] []), (.cond (.or [(.cmp .eq (.loc 6) (.glob (.int 2))), (.cmp .eq (.loc 6) (.glob (.int 3)))]) [(.ret (.bin .add (.call 237 [(.sub (.loc 2) (.con (.int 1))), (.loc 3)]) (.call 244 [(.loc 0), (.sub (.loc 2) (.con (.int 2))), (.loc 3), (.loc 4), (.loc 5)])))] []), (.cond (.cmp .eq (.loc 6) (.glob (.int 6))) [(.ret (.bin .add (.con (.str (zz "!"))) (.strOf (.sub (.loc 2) (.con (.int 1))))))] []), (.cond (.cmp .eq (.loc 6) (.glob (.int 7))) [(.ret (.bin .add (.con (.str (zz "!!"))) (.strOf (.sub (.loc 2) (.con (.int 1))))))] []), (.asg 7 (.call 216 [(.loc 0), (.sub (.loc 2) (.con (.int 1))), (.loc 3), (.bin .add (.loc 4) (.con (.int 1))), (.loc 5)])), (.ret (.bin .add (.bin .add (.bin .add (.bin .add (.con (.str (zz "method "))) (.loc 7)) (.con (.str (zz "::")))) (.strOf (.sub (.loc 2) (.con (.int 2))))) (.call 244 [(.loc 0), (.sub (.loc 2) (.con (.int 3))), (.loc 3), (.loc 4), (.loc 5)])))]
noncomputable def b237 : List PS := [(.cond (.cmp .isIn (.loc 0) (.loc 1)) [(.ret (.sub (.loc 1) (.loc 0)))] []), (.ret (.bin .add (.con (.str (zz "T"))) (.strOf (.loc 0))))]
noncomputable def b244 : List PS := [(.cond (.cmp .eq (.len (.loc 1)) (.con (.int 0))) [(.ret (.con (.str (zz ""))))] []), (.cond (.cmp .ge (.loc 3) (.glob (.int 8))) [(.ret (.con (.str (zz "<..>"))))] []), (.asg 5 (.list [])), (.for_ 6 (.loc 1) [(.ex (.meth (.loc 5) 0 [(.call 216 [(.loc 0), (.loc 6), (.loc 2), (.bin .add (.loc 3) (.con (.int 1))), (.loc 4)])]))]), (.ret (.bin .add (.bin .add (.con (.str (zz "<"))) (.meth (.con (.str (zz ", "))) 10 [(.loc 5)])) (.con (.str (zz ">")))))]
noncomputable def b258 : List PS := [(.setA (.loc 0) 11 (.new 87 [])), (.setA (.loc 0) 12 (.list [(.con .none)])), (.setA (.loc 0) 13 (.list [(.con .none)])), (.setA (.loc 0) 14 (.list [(.con .none)])), (.setA (.loc 0) 15 (.dict [] [])), (.setA (.loc 0) 16 (.list [])), (.setA (.loc 0) 17 (.con (.int 0)))]
noncomputable def b272 : List PS := [(.asg 2 (.call 182 [(.attr (.loc 0) 11), (.loc 1)])), (.cond (.or [(.cmp .le (.loc 2) (.con (.int 0))), (.cmp .ge (.loc 2) (.len (.attr (.loc 0) 12)))]) [(.ret (.con .none))] []), (.ret (.sub (.attr (.loc 0) 12) (.loc 2)))]
noncomputable def b280 : List PS := [(.asg 0 (.bin .and (.loc 0) (.bin .sub (.bin .shl (.con (.int 1)) (.loc 1)) (.con (.int 1))))), (.cond (.bin .shr (.loc 0) (.bin .sub (.loc 1) (.con (.int 1)))) [(.ret (.bin .sub (.loc 0) (.bin .shl (.con (.int 1)) (.loc 1))))] []), (.ret (.loc 0))]
noncomputable def b287 : List PS := [(.ret (.call 280 [(.loc 0), (.con (.int 32))]))]
noncomputable def b301 : List PS := [(.cond (.cmp .lt (.bin .add (.glob (.int 2)) (.loc 0)) (.glob (.int 3))) [(.ret (.glob (.int 3)))] []), (.ret (.bin .add (.glob (.int 2)) (.loc 0)))]
noncomputable def b315 : List PS := [(.setA (.loc 0) 18 (.loc 1)), (.setA (.loc 0) 19 (.loc 2)), (.setA (.loc 0) 20 (.loc 3)), (.setA (.loc 0) 21 (.con (.int 0))), (.setA (.loc 0) 22 (.call 301 [(.len (.loc 3))])), (.setA (.loc 0) 23 (.con (.int 0)))]
noncomputable def b336 : List PS := [(.setA (.loc 0) 24 (.list [])), (.setA (.loc 0) 25 (.dict [] [])), (.setA (.loc 0) 26 (.glob (.int 16))), (.setA (.loc 0) 27 (.loc 1)), (.setA (.loc 0) 28 (.dict [] [])), (.setA (.loc 0) 29 (.loc 2)), (.setA (.loc 0) 30 (.con (.int 0))), (.setA (.loc 0) 31 (.bin .add (.bin .fdiv (.loc 1) (.con (.int 4))) (.con (.int 1)))), (.setA (.loc 0) 32 (.list [])), (.setA (.loc 0) 33 (.list [])), (.setA (.loc 0) 34 (.con (.int 0))), (.setA (.loc 0) 35 (.con (.int 0)))]
noncomputable def b350 : List PS := [(.asg 3 (.new 318 [(.attr (.loc 0) 26), (.loc 1), (.loc 2)])), (.augA (.loc 0) 35 .add (.con (.int 1))), (.setA (.loc 3) 23 (.attr (.loc 0) 35)), (.ex (.meth (.attr (.loc 0) 24) 0 [(.loc 3)])), (.setI (.attr (.loc 0) 25) (.attr (.loc 3) 18) (.loc 3)), (.augA (.loc 0) 26 .add (.attr (.loc 3) 22)), (.augA (.loc 0) 30 .add (.attr (.loc 3) 22)), (.ret (.loc 3))]
noncomputable def b364 : List PS := [(.setA (.loc 0) 36 (.loc 1)), (.setA (.loc 0) 37 (.loc 2)), (.setA (.loc 0) 38 (.loc 3))]
noncomputable def b442 : List PS := [(.ret (.con .none))]
noncomputable def b512 : List PS := [(.ret (.sub (.call 685 [(.loc 0), (.loc 1)]) (.con (.int 1))))]
noncomputable def b589 : List PS := [(.ret (.call 678 [(.loc 0), (.loc 1)]))]
noncomputable def b617 : List PS := [(.setA (.loc 0) 39 (.loc 1)), (.setA (.loc 0) 11 (.attr (.loc 1) 11)), (.setA (.loc 0) 36 (.loc 2)), (.setA (.loc 0) 40 (.dict [] [])), (.setA (.loc 0) 3 (.dict [] [])), (.setA (.loc 0) 41 (.dict [] [])), (.setA (.loc 0) 42 (.dict [] [])), (.setA (.loc 0) 43 (.dict [] [])), (.setA (.loc 0) 32 (.dict [] [])), (.setA (.loc 0) 37 (.list [])), (.setA (.loc 0) 44 (.dict [] [])), (.setA (.loc 0) 38 (.dict [] [])), (.setA (.loc 0) 45 (.dict [] [])), (.setA (.loc 0) 46 (.dict [] [])), (.setA (.loc 0) 47 (.dict [] [])), (.setA (.loc 0) 48 (.dict [] [])), (.setA (.loc 0) 49 (.glob (.int 0))), (.setA (.loc 0) 50 (.list [])), (.setA (.loc 0) 51 (.list [])), (.setA (.loc 0) 52 (.list [])), (.setA (.loc 0) 53 (.list [])), (.setA (.loc 0) 54 (.list [])), (.setA (.loc 0) 55 (.dict [] [])), (.setA (.loc 0) 56 (.list [])), (.setA (.loc 0) 57 (.list [])), (.setA (.loc 0) 58 (.con .none)), (.setA (.loc 0) 59 (.con .none)), (.setA (.loc 0) 60 (.list [])), (.setA (.loc 0) 61 (.con .none)), (.setA (.loc 0) 62 (.new 367 [(.loc 2), (.attr (.loc 0) 44), (.attr (.loc 0) 38)])), (.setA (.loc 0) 63 (.new 424 [])), (.setA (.loc 0) 64 (.new 473 [])), (.setA (.loc 0) 65 (.new 445 []))]
noncomputable def b638 : List PS := [(.ret (.call 727 [(.loc 0), (.loc 1), (.loc 2)]))]
noncomputable def b652 : List PS := [(.ret (.call 734 [(.loc 0), (.loc 1)]))]
noncomputable def b666 : List PS := [(.ret (.call 741 [(.loc 0), (.loc 1)]))]
noncomputable def b678 : List PS := [(.cond (.cmp .eq (.attr (.loc 0) 49) (.glob (.int 0))) [(.ex (.meth (.attr (.loc 0) 51) 0 [(.loc 1)]))] []), (.ret (.glob (.int (-2))))]
noncomputable def b685 : List PS := [(.asg 2 (.meth (.attr (.loc 0) 3) 2 [(.loc 1)])), (.cond (.cmp .is (.loc 2) (.con .none)) [(.ret (.tup [(.dict [] []), (.tup []), (.tup [])]))] []), (.ret (.loc 2))]
noncomputable def b720 : List PS := [(.cond (.cmp .eq (.loc 1) (.glob (.int 13))) [(.ret (.list [(.tup [(.glob (.int 8)), (.con (.str (zz "")))])]))] []), (.cond (.call 189 [(.attr (.loc 0) 11), (.loc 1)]) [(.ret (.list [(.meth (.loc 0) 66 [(.loc 1)])]))] []), (.asg 3 (.call 168 [(.attr (.loc 0) 11), (.loc 1)])), (.cond (.cmp .eq (.loc 3) (.glob (.int 4))) [(.ret (.bin .mul (.list [(.meth (.loc 0) 66 [(.call 175 [(.attr (.loc 0) 11), (.loc 1)])])]) (.loc 2)))] []), (.asg 4 (.list [])), (.cond (.cmp .eq (.loc 3) (.glob (.int 2))) [(.for_ 5 (.meth (.loc 0) 67 [(.loc 1)]) [(.ex (.meth (.loc 4) 0 [(.meth (.loc 0) 66 [(.loc 5)])]))])] []), (.whl (.cmp .lt (.len (.loc 4)) (.loc 2)) [(.ex (.meth (.loc 4) 0 [(.glob (.tup [(.int 4), (.int 0)]))]))]), (.ret (.loc 4))]
noncomputable def b727 : List PS := [(.ex (.meth (.attr (.loc 0) 65) 68 [(.loc 0)])), (.ret (.call 350 [(.attr (.loc 0) 36), (.loc 1), (.call 720 [(.loc 0), (.loc 1), (.loc 2)])]))]
noncomputable def b734 : List PS := [(.asg 2 (.meth (.attr (.attr (.loc 0) 36) 25) 2 [(.loc 1)])), (.cond (.or [(.cmp .is (.loc 2) (.con .none)), (.cmp .ne (.attr (.loc 2) 19) (.glob (.int 13)))]) [(.ex (.meth (.loc 0) 69 [(.glob (.int 5))])), (.ret (.con (.str (zz ""))))] []), (.ret (.sub (.sub (.attr (.loc 2) 20) (.con (.int 0))) (.con (.int 1))))]
noncomputable def b741 : List PS := [(.asg 2 (.meth (.loc 0) 70 [(.glob (.int 13)), (.con (.int 1))])), (.setI (.attr (.loc 2) 20) (.con (.int 0)) (.tup [(.glob (.int 8)), (.loc 1)])), (.ret (.tup [(.glob (.int 4)), (.attr (.loc 2) 18)]))]
noncomputable def b767 : List PS := [(.asg 2 (.call 272 [(.attr (.loc 0) 39), (.attr (.sub (.attr (.attr (.loc 0) 36) 25) (.loc 1)) 19)])), (.ret (.and [(.cmp .isNot (.loc 2) (.con .none)), (.cmp .eq (.attr (.loc 2) 71) (.glob (.int 4)))]))]
noncomputable def b781 : List PS := [(.cond (.or [(.cmp .eq (.loc 1) (.con (.int 0))), (.cmp .eq (.loc 2) (.con (.int 0)))]) [(.ret (.cmp .eq (.loc 1) (.loc 2)))] []), (.cond (.or [(.cmp .ne (.attr (.sub (.attr (.attr (.loc 0) 36) 25) (.loc 1)) 19) (.attr (.sub (.attr (.attr (.loc 0) 36) 25) (.loc 2)) 19)), (.not (.call 767 [(.loc 0), (.loc 1)]))]) [(.ret (.con (.bool false)))] []), (.ret (.cmp .eq (.call 760 [(.loc 0), (.call 748 [(.loc 0), (.loc 1)])]) (.call 760 [(.loc 0), (.call 748 [(.loc 0), (.loc 2)])])))]
noncomputable def b788 : List PS := [(.cond (.loc 0) [(.ret (.tup [(.glob (.int 1)), (.con (.int 1))]))] []), (.ret (.tup [(.glob (.int 1)), (.con (.int 0))]))]
noncomputable def b795 : List PS := [(.ret (.meth (.attr (.attr (.loc 0) 36) 25) 2 [(.sub (.loc 1) (.con (.int 1)))]))]
noncomputable def b802 : List PS := [(.ex (.meth (.loc 0) 72 [(.glob (.int 21)), (.glob (.str (zz "Object reference not set to an instance of an object.")))])), (.ret (.glob (.int (-2))))]
noncomputable def b809 : List PS := [(.asg 1 (.dict [] [])), (.for_ 2 (.range [(.con (.int 1)), (.len (.attr (.loc 0) 12))]) [(.cond (.cmp .isNot (.sub (.attr (.loc 0) 12) (.loc 2)) (.con .none)) [(.setI (.loc 1) (.loc 2) (.attr (.sub (.attr (.loc 0) 12) (.loc 2)) 73))] [])]), (.ret (.loc 1))]
noncomputable def b816 : List PS := [(.ret (.call 209 [(.attr (.loc 0) 11), (.loc 1), (.call 809 [(.attr (.loc 0) 39)])]))]
noncomputable def b837 : List PS := [(.asg 2 (.call 272 [(.attr (.loc 0) 39), (.attr (.loc 1) 19)])), (.cond (.and [(.cmp .isNot (.loc 2) (.con .none)), (.cmp .eq (.attr (.loc 2) 74) (.glob (.int 51))), (.cmp2 .le .lt (.con (.int 0)) (.sub (.sub (.attr (.loc 1) 20) (.con (.int 0))) (.con (.int 1))) (.len (.attr (.attr (.loc 0) 11) 3)))]) [(.ret (.call 816 [(.loc 0), (.sub (.sub (.attr (.loc 1) 20) (.con (.int 0))) (.con (.int 1)))]))] []), (.cond (.and [(.cmp .isNot (.loc 2) (.con .none)), (.cmp .eq (.attr (.loc 2) 71) (.glob (.int 5)))]) [(.ret (.call 830 [(.loc 0), (.loc 2), (.sub (.sub (.attr (.loc 1) 20) (.con (.int 0))) (.con (.int 1)))]))] []), (.ret (.call 816 [(.loc 0), (.attr (.loc 1) 19)]))]
noncomputable def b844 : List PS := [(.cond (.cmp .eq (.loc 0) (.glob (.int 1))) [(.ret (.ite (.cmp .eq (.loc 1) (.con (.int 0))) (.con (.int 0)) (.con (.int 1))))] []), (.cond (.cmp .eq (.loc 0) (.glob (.int 2))) [(.ret (.call 287 [(.bin .or (.bin .and (.loc 1) (.con (.int 65535))) (.bin .shl (.bin .and (.loc 1) (.con (.int 65535))) (.con (.int 16))))]))] []), (.cond (.or [(.cmp .eq (.loc 0) (.glob (.int 9))), (.cmp .eq (.loc 0) (.glob (.int 10)))]) [(.ret (.call 287 [(.bin .xor (.bin .and (.loc 1) (.con (.int 4294967295))) (.bin .and (.bin .shr (.loc 1) (.con (.int 32))) (.con (.int 4294967295))))]))] []), (.ret (.call 287 [(.loc 1)]))]
noncomputable def b851 : List PS := [(.asg 1 (.con (.int 5381))), (.for_ 2 (.loc 0) [(.asg 1 (.bin .and (.bin .add (.bin .mul (.loc 1) (.con (.int 33))) (.ord (.loc 2))) (.con (.int 4294967295))))]), (.ret (.call 287 [(.loc 1)]))]
noncomputable def b858 : List PS := [(.ret (.call 189 [(.attr (.loc 0) 11), (.attr (.loc 1) 19)]))]
noncomputable def b865 : List PS := [(.cond (.cmp .eq (.sub (.loc 1) (.con (.int 0))) (.glob (.int 5))) [(.ret (.con (.int 17)))] []), (.cond (.cmp .eq (.sub (.loc 1) (.con (.int 0))) (.glob (.int 4))) [(.cond (.cmp .eq (.sub (.loc 1) (.con (.int 1))) (.con (.int 0))) [(.ret (.con (.int 0)))] []), (.asg 2 (.call 795 [(.loc 0), (.loc 1)])), (.cond (.cmp .eq (.attr (.loc 2) 19) (.glob (.int 13))) [(.ret (.call 851 [(.meth (.loc 0) 75 [(.sub (.loc 1) (.con (.int 1)))])]))] []), (.cond (.call 858 [(.loc 0), (.loc 2)]) [(.ret (.con (.int 1)))] []), (.cond (.call 767 [(.loc 0), (.sub (.loc 1) (.con (.int 1)))]) [(.ret (.call 287 [(.call 774 [(.loc 0), (.sub (.loc 1) (.con (.int 1)))])]))] []), (.ret (.attr (.loc 2) 23))] []), (.cond (.cmp .eq (.sub (.loc 1) (.con (.int 0))) (.glob (.int 1))) [(.ret (.sub (.loc 1) (.con (.int 1))))] []), (.cond (.or [(.cmp .eq (.sub (.loc 1) (.con (.int 0))) (.glob (.int 2))), (.cmp .eq (.sub (.loc 1) (.con (.int 0))) (.glob (.int 3)))]) [(.ret (.call 844 [(.glob (.int 9)), (.sub (.loc 1) (.con (.int 1)))]))] []), (.ret (.con (.int 2)))]
noncomputable def b872 : List PS := [(.asg 2 (.list [(.loc 1)])), (.asg 3 (.con (.int 0))), (.whl (.cmp .gt (.len (.loc 2)) (.con (.int 0))) [(.asg 4 (.meth (.loc 2) 1 [])), (.asg 3 (.call 287 [(.bin .add (.bin .mul (.loc 3) (.con (.int 31))) (.call 865 [(.loc 0), (.loc 4)]))])), (.cond (.cmp .eq (.sub (.loc 4) (.con (.int 0))) (.glob (.int 5))) [(.for_ 5 (.sub (.loc 4) (.con (.int 2))) [(.ex (.meth (.loc 2) 0 [(.loc 5)]))])] [])]), (.ret (.loc 3))]
noncomputable def b879 : List PS := [(.cond (.cmp .eq (.loc 1) (.loc 2)) [(.ret (.tup [(.con (.bool true)), (.list [])]))] []), (.asg 4 (.meth (.attr (.attr (.loc 0) 36) 25) 2 [(.loc 1)])), (.asg 5 (.meth (.attr (.attr (.loc 0) 36) 25) 2 [(.loc 2)])), (.cond (.or [(.cmp .is (.loc 4) (.con .none)), (.cmp .is (.loc 5) (.con .none)), (.cmp .ne (.attr (.loc 4) 19) (.attr (.loc 5) 19))]) [(.ret (.tup [(.con (.bool false)), (.list [])]))] []), (.cond (.cmp .eq (.attr (.loc 4) 19) (.glob (.int 13))) [(.ret (.tup [(.cmp .eq (.meth (.loc 0) 75 [(.loc 1)]) (.meth (.loc 0) 75 [(.loc 2)])), (.list [])]))] []), (.cond (.not (.call 858 [(.loc 0), (.loc 4)])) [(.ret (.tup [(.call 781 [(.loc 0), (.loc 1), (.loc 2)]), (.list [])]))] []), (.cond (.cmp .isIn (.tup [(.loc 1), (.loc 2)]) (.loc 3)) [(.ret (.tup [(.con (.bool true)), (.list [])]))] []), (.setI (.loc 3) (.tup [(.loc 1), (.loc 2)]) (.con (.int 1))), (.ret (.tup [(.con (.bool true)), (.list [(.tup [(.sub (.attr (.loc 4) 20) (.con (.int 0))), (.sub (.attr (.loc 5) 20) (.con (.int 0)))])])]))]
noncomputable def b886 : List PS := [(.asg 2 (.list [])), (.for_ 3 (.range [(.len (.sub (.loc 0) (.con (.int 2))))]) [(.ex (.meth (.loc 2) 0 [(.tup [(.sub (.sub (.loc 0) (.con (.int 2))) (.loc 3)), (.sub (.sub (.loc 1) (.con (.int 2))) (.loc 3))])]))]), (.ret (.loc 2))]
noncomputable def b893 : List PS := [(.cond (.cmp .ne (.sub (.loc 1) (.con (.int 0))) (.sub (.loc 2) (.con (.int 0)))) [(.ret (.tup [(.con (.bool false)), (.list [])]))] []), (.cond (.cmp .eq (.sub (.loc 1) (.con (.int 0))) (.glob (.int 4))) [(.ret (.call 879 [(.loc 0), (.sub (.loc 1) (.con (.int 1))), (.sub (.loc 2) (.con (.int 1))), (.loc 3)]))] []), (.cond (.cmp .eq (.sub (.loc 1) (.con (.int 0))) (.glob (.int 5))) [(.cond (.cmp .ne (.sub (.loc 1) (.con (.int 1))) (.sub (.loc 2) (.con (.int 1)))) [(.ret (.tup [(.con (.bool false)), (.list [])]))] []), (.ret (.tup [(.con (.bool true)), (.call 886 [(.loc 1), (.loc 2)])]))] []), (.ret (.tup [(.cmp .eq (.sub (.loc 1) (.con (.int 1))) (.sub (.loc 2) (.con (.int 1)))), (.list [])]))]
noncomputable def b900 : List PS := [(.asg 3 (.list [(.tup [(.loc 1), (.loc 2)])])), (.asg 4 (.dict [] [])), (.whl (.cmp .gt (.len (.loc 3)) (.con (.int 0))) [(.asgT [5, 6] (.meth (.loc 3) 1 [])), (.asgT [7, 8] (.call 893 [(.loc 0), (.loc 5), (.loc 6), (.loc 4)])), (.cond (.not (.loc 7)) [(.ret (.con (.bool false)))] []), (.for_ 9 (.loc 8) [(.ex (.meth (.loc 3) 0 [(.loc 9)]))])]), (.ret (.con (.bool true)))]
noncomputable def b914 : List PS := [(.asg 4 (.call 795 [(.loc 1), (.sub (.loc 3) (.con (.int 0)))])), (.cond (.cmp .is (.loc 4) (.con .none)) [(.ret (.call 802 [(.loc 1)]))] []), (.ret (.meth (.loc 1) 76 [(.call 837 [(.loc 1), (.loc 4)])]))]
noncomputable def b933 : List PS := [(.asg 4 (.call 795 [(.loc 1), (.sub (.loc 3) (.con (.int 0)))])), (.cond (.cmp .is (.loc 4) (.con .none)) [(.ret (.call 802 [(.loc 1)]))] []), (.ret (.tup [(.glob (.int 1)), (.call 287 [(.attr (.loc 4) 23)])]))]
noncomputable def b952 : List PS := [(.asg 4 (.call 795 [(.loc 1), (.sub (.loc 3) (.con (.int 0)))])), (.cond (.cmp .is (.loc 4) (.con .none)) [(.ret (.call 802 [(.loc 1)]))] []), (.ret (.call 1009 [(.loc 1), (.attr (.loc 4) 19)]))]
noncomputable def b971 : List PS := [(.asg 4 (.call 795 [(.loc 1), (.sub (.loc 3) (.con (.int 0)))])), (.cond (.cmp .is (.loc 4) (.con .none)) [(.ret (.call 802 [(.loc 1)]))] []), (.asg 5 (.call 795 [(.loc 1), (.sub (.loc 3) (.con (.int 1)))])), (.cond (.or [(.cmp .is (.loc 5) (.con .none)), (.cmp .ne (.attr (.loc 5) 19) (.attr (.loc 4) 19))]) [(.ret (.call 788 [(.con (.bool false))]))] []), (.ret (.call 788 [(.call 900 [(.loc 1), (.sub (.attr (.loc 4) 20) (.con (.int 0))), (.sub (.attr (.loc 5) 20) (.con (.int 0)))])]))]
noncomputable def b990 : List PS := [(.asg 4 (.call 795 [(.loc 1), (.sub (.loc 3) (.con (.int 0)))])), (.cond (.cmp .is (.loc 4) (.con .none)) [(.ret (.call 802 [(.loc 1)]))] []), (.ret (.tup [(.glob (.int 1)), (.call 872 [(.loc 1), (.sub (.attr (.loc 4) 20) (.con (.int 0)))])]))]
noncomputable def b1002 : List PS := [(.setI (.attr (.loc 0) 48) (.glob (.int 10)) (.new 917 [])), (.setI (.attr (.loc 0) 48) (.glob (.int 11)) (.new 936 [])), (.setI (.attr (.loc 0) 48) (.glob (.int 12)) (.new 955 [])), (.setI (.attr (.loc 0) 48) (.glob (.int 13)) (.new 974 [])), (.setI (.attr (.loc 0) 48) (.glob (.int 14)) (.new 993 []))]
noncomputable def b1009 : List PS := [(.asg 2 (.tup [(.loc 1)])), (.asg 3 (.meth (.attr (.loc 0) 55) 2 [(.loc 2), (.neg (.con (.int 1)))])), (.cond (.cmp .ge (.loc 3) (.con (.int 0))) [(.ret (.sub (.attr (.loc 0) 56) (.loc 3)))] []), (.asg 4 (.meth (.loc 0) 70 [(.call 147 [(.attr (.loc 0) 11), (.glob (.int 51)), (.tup [])]), (.con (.int 1))])), (.setI (.attr (.loc 4) 20) (.con (.int 0)) (.tup [(.glob (.int 1)), (.loc 1)])), (.setI (.attr (.loc 0) 55) (.loc 2) (.len (.attr (.loc 0) 56))), (.ex (.meth (.attr (.loc 0) 56) 0 [(.tup [(.glob (.int 4)), (.attr (.loc 4) 18)])])), (.ret (.tup [(.glob (.int 4)), (.attr (.loc 4) 18)]))]
noncomputable def b1014 : List PS := [(.cond (.cmp .eq (.sub (.loc 1) (.con (.int 0))) (.con (.int 5))) [(.ret (.tup [(.glob (.int 5)), (.sub (.loc 1) (.con (.int 1))), (.tupOf (.comp (.call 1014 [(.loc 1), (.loc 0)]) [0] (.sub (.loc 1) (.con (.int 2)))))]))] []), (.cond (.and [(.cmp .eq (.sub (.loc 1) (.con (.int 0))) (.con (.int 4))), (.cmp .lt (.sub (.loc 1) (.con (.int 1))) (.con (.int 0)))]) [(.ret (.tup [(.glob (.int 4)), (.con (.int 0))]))] []), (.cond (.cmp .eq (.sub (.loc 1) (.con (.int 0))) (.con (.int 4))) [(.ret (.tup [(.glob (.int 4)), (.sub (.sub (.sub (.loc 0) (.con (.str (zz "rows")))) (.sub (.loc 1) (.con (.int 1)))) (.con (.int 0)))]))] []), (.ret (.loc 1))]
noncomputable def b1019 : List PS := [(.cond (.cmp .eq (.sub (.loc 1) (.con (.int 0))) (.con (.int 5))) [(.ret (.tup [(.con (.int 5)), (.sub (.loc 1) (.con (.int 1))), (.tupOf (.comp (.call 1019 [(.loc 1), (.loc 0)]) [0] (.sub (.loc 1) (.con (.int 2)))))]))] []), (.cond (.and [(.cmp .eq (.sub (.loc 1) (.con (.int 0))) (.con (.int 4))), (.cmp .ge (.sub (.loc 1) (.con (.int 1))) (.con (.int 0)))]) [(.ret (.tup [(.con (.int 4)), (.sub (.sub (.loc 0) (.con (.str (zz "ranks")))) (.sub (.loc 1) (.con (.int 1))))]))] []), (.ret (.loc 1))]
noncomputable def b1026 : List PS := [(.asg 3 (.len (.sub (.loc 0) (.con (.str (zz "rows")))))), (.asg 4 (.list [])), (.asg 5 (.tup [(.con (.int 0)), (.loc 3)])), (.cond (.cmp .eq (.sub (.loc 2) (.con (.int 0))) (.con (.int 8))) [(.asg 4 (.list [(.tup [(.glob (.int 8)), (.sub (.loc 2) (.con (.int 1)))])])), (.asg 5 (.loc 2))] [(.cond (.cmp .gt (.sub (.loc 2) (.con (.int 0))) (.con (.int 0))) [(.asg 4 (.list [(.call 1014 [(.loc 0), (.loc 2)])])), (.asg 5 (.call 1019 [(.loc 0), (.loc 2)])), (.ex (.meth (.sub (.loc 0) (.con (.str (zz "boxes")))) 0 [(.loc 3)]))] [])]), (.asg 6 (.tup [(.loc 1), (.loc 5)])), (.cond (.cmp .notIn (.loc 6) (.sub (.loc 0) (.con (.str (zz "keys"))))) [(.setI (.sub (.loc 0) (.con (.str (zz "keys")))) (.loc 6) (.len (.sub (.loc 0) (.con (.str (zz "keys"))))))] []), (.ex (.meth (.sub (.loc 0) (.con (.str (zz "ranks")))) 0 [(.sub (.sub (.loc 0) (.con (.str (zz "keys")))) (.loc 6))])), (.asg 7 (.call 350 [(.attr (.sub (.loc 0) (.con (.str (zz "m")))) 36), (.loc 1), (.loc 4)])), (.ex (.meth (.sub (.loc 0) (.con (.str (zz "rows")))) 0 [(.tup [(.attr (.loc 7) 18), (.loc 1), (.loc 2), (.copy (.loc 4))])])), (.ret (.con (.bool true)))]
noncomputable def b1033 : List PS := [(.ret (.bin .sub (.bin .mod (.bin .add (.loc 0) (.bin .pow (.con (.int 2)) (.bin .sub (.loc 1) (.con (.int 1))))) (.bin .pow (.con (.int 2)) (.loc 1))) (.bin .pow (.con (.int 2)) (.bin .sub (.loc 1) (.con (.int 1))))))]
noncomputable def b1040 : List PS := [(.asg 1 (.con (.int 5381))), (.for_ 2 (.loc 0) [(.asg 1 (.bin .add (.bin .mul (.loc 1) (.con (.int 33))) (.ord (.loc 2))))]), (.ret (.loc 1))]
noncomputable def b1047 : List PS := [(.cond (.cmp .eq (.sub (.loc 1) (.con (.int 0))) (.con (.int 5))) [(.asg 2 (.list [(.con (.int 17))])), (.for_ 3 (.rev (.sub (.loc 1) (.con (.int 2)))) [(.asg 2 (.bin .add (.loc 2) (.call 1047 [(.loc 0), (.loc 3)])))]), (.ret (.loc 2))] []), (.cond (.cmp .eq (.sub (.loc 1) (.con (.int 0))) (.con (.int 1))) [(.ret (.list [(.sub (.loc 1) (.con (.int 1)))]))] []), (.cond (.cmp .lt (.sub (.loc 1) (.con (.int 0))) (.con (.int 4))) [(.asg 4 (.bin .mod (.bin .fdiv (.sub (.loc 1) (.con (.int 1))) (.bin .pow (.con (.int 2)) (.con (.int 32)))) (.bin .pow (.con (.int 2)) (.con (.int 32))))), (.asg 5 (.bin .mod (.sub (.loc 1) (.con (.int 1))) (.bin .pow (.con (.int 2)) (.con (.int 32))))), (.ret (.list [(.bin .sub (.bin .add (.loc 4) (.loc 5)) (.bin .mul (.con (.int 2)) (.bin .and (.loc 4) (.loc 5))))]))] []), (.cond (.cmp .lt (.sub (.loc 1) (.con (.int 1))) (.con (.int 0))) [(.ret (.list [(.con (.int 0))]))] []), (.asg 6 (.sub (.sub (.sub (.loc 0) (.con (.str (zz "rows")))) (.sub (.loc 1) (.con (.int 1)))) (.con (.int 2)))), (.cond (.cmp .eq (.sub (.loc 6) (.con (.int 0))) (.con (.int 8))) [(.ret (.list [(.call 1040 [(.sub (.loc 6) (.con (.int 1)))])]))] []), (.cond (.cmp .gt (.sub (.loc 6) (.con (.int 0))) (.con (.int 0))) [(.ret (.list [(.con (.int 1))]))] []), (.ret (.list [(.bin .add (.sub (.loc 1) (.con (.int 1))) (.con (.int 1)))]))]
noncomputable def b1054 : List PS := [(.ret (.meth (.sub (.attr (.sub (.loc 0) (.con (.str (zz "m")))) 48) (.loc 1)) 77 [(.sub (.loc 0) (.con (.str (zz "m")))), (.con .none), (.loc 2)]))]
noncomputable def b1061 : List PS := [(.asg 2 (.and [(.cmp .eq (.loc 1) (.glob (.int (-2)))), (.cmp .eq (.attr (.sub (.loc 0) (.con (.str (zz "m")))) 51) (.list [(.glob (.int 21))]))])), (.delAll (.attr (.sub (.loc 0) (.con (.str (zz "m")))) 51)), (.ret (.loc 2))]
noncomputable def b1068 : List PS := [(.cond (.cmp .lt (.loc 1) (.len (.sub (.loc 0) (.con (.str (zz "rows")))))) [(.ret (.tup [(.glob (.int 4)), (.sub (.sub (.sub (.loc 0) (.con (.str (zz "rows")))) (.loc 1)) (.con (.int 0)))]))] []), (.ret (.tup [(.glob (.int 4)), (.con (.int 0))]))]
noncomputable def b1075 : List PS := [(.asg 3 (.call 1054 [(.loc 0), (.glob (.int 13)), (.list [(.call 1068 [(.loc 0), (.loc 1)]), (.call 1068 [(.loc 0), (.loc 2)])])])), (.cond (.cmp .ge (.loc 1) (.len (.sub (.loc 0) (.con (.str (zz "rows")))))) [(.ret (.call 1061 [(.loc 0), (.loc 3)]))] []), (.asg 4 (.con (.int 0))), (.cond (.and [(.cmp .lt (.loc 2) (.len (.sub (.loc 0) (.con (.str (zz "rows")))))), (.cmp .eq (.sub (.sub (.loc 0) (.con (.str (zz "ranks")))) (.loc 1)) (.sub (.sub (.loc 0) (.con (.str (zz "ranks")))) (.loc 2)))]) [(.asg 4 (.con (.int 1)))] []), (.ret (.cmp .eq (.loc 3) (.tup [(.glob (.int 1)), (.loc 4)])))]
noncomputable def b1082 : List PS := [(.asg 2 (.con (.int 0))), (.for_ 3 (.call 1047 [(.loc 0), (.sub (.sub (.sub (.loc 0) (.con (.str (zz "rows")))) (.loc 1)) (.con (.int 2)))]) [(.asg 2 (.bin .add (.bin .mul (.loc 2) (.con (.int 31))) (.loc 3)))]), (.ret (.cmp .eq (.call 1054 [(.loc 0), (.glob (.int 14)), (.list [(.call 1068 [(.loc 0), (.loc 1)])])]) (.tup [(.glob (.int 1)), (.call 1033 [(.loc 2), (.con (.int 32))])])))]
noncomputable def b1089 : List PS := [(.asg 2 (.sub (.tup [(.con (.int 0)), (.con (.int 1)), (.con (.int 16)), (.con (.int 8)), (.con (.int 8)), (.con (.int 16)), (.con (.int 16)), (.con (.int 32)), (.con (.int 32)), (.con (.int 64)), (.con (.int 64)), (.con (.int 32))]) (.loc 0))), (.asg 3 (.bin .mod (.sub (.tup [(.con (.int 0)), (.con (.int 1)), (.con (.int 5)), (.bin .pow (.con (.int 2)) (.bin .sub (.loc 2) (.con (.int 1)))), (.bin .sub (.bin .pow (.con (.int 2)) (.loc 2)) (.con (.int 1))), (.bin .mul (.bin .fdiv (.loc 1) (.con (.int 6))) (.con (.int 11400714819323198485)))]) (.bin .mod (.loc 1) (.con (.int 6)))) (.bin .pow (.con (.int 2)) (.loc 2)))), (.cond (.cmp .isIn (.loc 0) (.tup [(.con (.int 3)), (.con (.int 5)), (.con (.int 7)), (.con (.int 8)), (.con (.int 9)), (.con (.int 10)), (.con (.int 11))])) [(.asg 3 (.call 1033 [(.loc 3), (.loc 2)]))] []), (.cond (.or [(.cmp .eq (.loc 0) (.con (.int 9))), (.cmp .eq (.loc 0) (.con (.int 10)))]) [(.ret (.tup [(.con (.int 2)), (.loc 3)]))] []), (.cond (.cmp .eq (.loc 0) (.con (.int 11))) [(.ret (.tup [(.con (.int 3)), (.loc 3)]))] []), (.ret (.tup [(.con (.int 1)), (.loc 3)]))]
noncomputable def b1096 : List PS := [(.ret (.tup [(.con (.int 5)), (.sub (.loc 0) (.con (.str (zz "pair")))), (.tup [(.call 1089 [(.con (.int 7)), (.bin .mod (.loc 1) (.con (.int 6)))]), (.call 1089 [(.con (.int 9)), (.loc 1)])])]))]
noncomputable def b1103 : List PS := [(.cond (.cmp .eq (.loc 1) (.sub (.loc 0) (.con (.str (zz "whole"))))) [(.ret (.tup [(.con (.int 5)), (.loc 1), (.tup [(.tup [(.con (.int 4)), (.bin .sub (.bin .mod (.loc 2) (.bin .add (.len (.sub (.loc 0) (.con (.str (zz "rows"))))) (.con (.int 1)))) (.con (.int 1)))]), (.call 1096 [(.loc 0), (.bin .fdiv (.loc 2) (.con (.int 7)))])])]))] []), (.cond (.cmp .eq (.loc 1) (.sub (.loc 0) (.con (.str (zz "pair"))))) [(.ret (.call 1096 [(.loc 0), (.loc 2)]))] []), (.cond (.cmp .eq (.loc 1) (.sub (.loc 0) (.con (.str (zz "word"))))) [(.ret (.call 1089 [(.con (.int 7)), (.loc 2)]))] []), (.ret (.call 1089 [(.loc 1), (.loc 2)]))]
noncomputable def b1108 : List PS := [(.cond (.cmp .lt (.sub (.loc 2) (.con (.int 0))) (.con (.int 4))) [(.ret (.call 1103 [(.loc 0), (.loc 1), (.loc 3)]))] []), (.asg 4 (.comp (.loc 0) [] (.sub (.loc 2) (.con (.int 2))))), (.asg 5 (.bin .mod (.loc 3) (.con (.int 2)))), (.cond (.cmp .eq (.sub (.sub (.loc 4) (.loc 5)) (.con (.int 0))) (.con (.int 5))) [(.setI (.loc 4) (.loc 5) (.call 1108 [(.loc 0), (.sub (.sub (.loc 4) (.loc 5)) (.con (.int 1))), (.sub (.loc 4) (.loc 5)), (.bin .fdiv (.loc 3) (.con (.int 2)))]))] [(.cond (.cmp .eq (.sub (.sub (.loc 4) (.loc 5)) (.con (.int 0))) (.con (.int 4))) [(.setI (.loc 4) (.loc 5) (.tup [(.con (.int 4)), (.bin .sub (.bin .mod (.bin .fdiv (.loc 3) (.con (.int 2))) (.bin .add (.len (.sub (.loc 0) (.con (.str (zz "rows"))))) (.con (.int 1)))) (.con (.int 1)))]))] [(.setI (.loc 4) (.loc 5) (.call 1089 [(.bin .add (.con (.int 7)) (.bin .mul (.loc 5) (.con (.int 2)))), (.bin .fdiv (.loc 3) (.con (.int 2)))]))])]), (.ret (.tup [(.con (.int 5)), (.sub (.loc 2) (.con (.int 1))), (.tupOf (.loc 4))]))]
noncomputable def b1115 : List PS := [(.asg 2 (.bin .fdiv (.loc 1) (.con (.int 9)))), (.asg 3 (.bin .fdiv (.loc 2) (.con (.int 3)))), (.asg 4 (.len (.sub (.loc 0) (.con (.str (zz "boxes")))))), (.asg 5 (.sub (.sub (.loc 0) (.con (.str (zz "boxes")))) (.bin .mod (.loc 3) (.loc 4)))), (.cond (.cmp .eq (.bin .mod (.loc 1) (.con (.int 9))) (.con (.int 0))) [(.ex (.call 1026 [(.loc 0), (.con (.int 13)), (.tup [(.con (.int 8)), (.sub (.tup [(.con (.str (zz ""))), (.con (.str (zz "ab"))), (.con (.str (zz "ba"))), (.con (.str (zz "ab!")))]) (.bin .mod (.loc 2) (.con (.int 4))))])]))] [(.cond (.cmp .eq (.bin .mod (.loc 1) (.con (.int 9))) (.con (.int 1))) [(.ex (.call 1026 [(.loc 0), (.sub (.loc 0) (.con (.str (zz "plain")))), (.tup [(.con (.int 0)), (.con (.int 0))])]))] [(.cond (.cmp .eq (.bin .mod (.loc 2) (.con (.int 3))) (.con (.int 0))) [(.asg 6 (.sub (.tup [(.bin .add (.con (.int 1)) (.bin .mod (.loc 3) (.con (.int 11)))), (.sub (.loc 0) (.con (.str (zz "word")))), (.sub (.loc 0) (.con (.str (zz "pair")))), (.sub (.loc 0) (.con (.str (zz "whole"))))]) (.bin .mod (.loc 1) (.con (.int 4))))), (.ex (.call 1026 [(.loc 0), (.loc 6), (.call 1103 [(.loc 0), (.loc 6), (.bin .fdiv (.loc 3) (.con (.int 11)))])]))] [(.cond (.cmp .eq (.bin .mod (.loc 2) (.con (.int 3))) (.con (.int 1))) [(.ex (.call 1026 [(.loc 0), (.sub (.sub (.sub (.loc 0) (.con (.str (zz "rows")))) (.loc 5)) (.con (.int 1))), (.sub (.sub (.sub (.loc 0) (.con (.str (zz "rows")))) (.loc 5)) (.con (.int 2)))]))] [(.ex (.call 1026 [(.loc 0), (.sub (.sub (.sub (.loc 0) (.con (.str (zz "rows")))) (.loc 5)) (.con (.int 1))), (.call 1108 [(.loc 0), (.sub (.sub (.sub (.loc 0) (.con (.str (zz "rows")))) (.loc 5)) (.con (.int 1))), (.sub (.sub (.sub (.loc 0) (.con (.str (zz "rows")))) (.loc 5)) (.con (.int 2))), (.bin .fdiv (.loc 3) (.loc 4))])]))])])])]), (.asg 7 (.sub (.sub (.loc 0) (.con (.str (zz "boxes")))) (.bin .sub (.len (.sub (.loc 0) (.con (.str (zz "boxes"))))) (.con (.int 1))))), (.asg 8 (.bin .mod (.bin .fdiv (.loc 3) (.loc 4)) (.bin .add (.len (.sub (.loc 0) (.con (.str (zz "rows"))))) (.con (.int 1))))), (.cond (.or [(.not (.call 1075 [(.loc 0), (.loc 7), (.loc 5)])), (.not (.call 1075 [(.loc 0), (.loc 5), (.loc 8)])), (.not (.call 1082 [(.loc 0), (.loc 7)]))]) [(.ret (.con (.bool false)))] []), (.ret (.or [(.cmp .notIn (.loc 8) (.sub (.loc 0) (.con (.str (zz "boxes"))))), (.call 1075 [(.loc 0), (.loc 8), (.loc 7)])]))]
noncomputable def b1122 : List PS := [(.asg 1 (.call 1089 [(.con (.int 7)), (.con (.int 2))])), (.forT [2, 3] (.tup [(.tup [(.con (.int 13)), (.tup [(.con (.int 8)), (.con (.str (zz "ab")))])]), (.tup [(.con (.int 13)), (.tup [(.con (.int 8)), (.con (.str (zz "ab")))])]), (.tup [(.con (.int 7)), (.loc 1)]), (.tup [(.con (.int 7)), (.loc 1)]), (.tup [(.sub (.loc 0) (.con (.str (zz "word")))), (.loc 1)]), (.tup [(.con (.int 8)), (.loc 1)]), (.tup [(.sub (.loc 0) (.con (.str (zz "pair")))), (.call 1096 [(.loc 0), (.con (.int 2))])]), (.tup [(.sub (.loc 0) (.con (.str (zz "pair")))), (.call 1096 [(.loc 0), (.con (.int 2))])]), (.tup [(.sub (.loc 0) (.con (.str (zz "plain")))), (.tup [(.con (.int 0)), (.con (.int 0))])]), (.tup [(.sub (.loc 0) (.con (.str (zz "plain")))), (.tup [(.con (.int 0)), (.con (.int 0))])])]) [(.ex (.call 1026 [(.loc 0), (.loc 2), (.loc 3)]))]), (.for_ 4 (.tup [(.con (.int 0)), (.con (.int 1)), (.con (.int 8)), (.con (.int 9)), (.con (.int 2)), (.con (.int 3))]) [(.ex (.call 1026 [(.loc 0), (.sub (.loc 0) (.con (.str (zz "whole")))), (.tup [(.con (.int 5)), (.sub (.loc 0) (.con (.str (zz "whole")))), (.tup [(.tup [(.con (.int 4)), (.loc 4)]), (.call 1096 [(.loc 0), (.con (.int 9))])])])]))])]
noncomputable def b1129 : List PS := [(.asg 1 (.sub (.loc 0) (.con (.str (zz "m"))))), (.asg 2 (.call 1068 [(.loc 0), (.con (.int 6))])), (.asg 3 (.call 1054 [(.loc 0), (.glob (.int 10)), (.list [(.loc 2)])])), (.asg 4 (.call 1054 [(.loc 0), (.glob (.int 12)), (.list [(.loc 2)])])), (.cond (.or [(.cmp .ne (.meth (.loc 1) 75 [(.sub (.loc 3) (.con (.int 1)))]) (.con (.str (zz "T33")))), (.cmp .ne (.attr (.sub (.attr (.attr (.loc 1) 36) 25) (.sub (.loc 4) (.con (.int 1)))) 20) (.list [(.tup [(.glob (.int 1)), (.sub (.loc 0) (.con (.str (zz "pair"))))])]))]) [(.ret (.con (.bool false)))] []), (.cond (.or [(.cmp .ne (.call 1054 [(.loc 0), (.glob (.int 12)), (.list [(.call 1068 [(.loc 0), (.con (.int 7))])])]) (.loc 4)), (.cmp .ne (.call 1054 [(.loc 0), (.glob (.int 11)), (.list [(.loc 2)])]) (.tup [(.glob (.int 1)), (.con (.int 7))]))]) [(.ret (.con (.bool false)))] []), (.for_ 5 (.tup [(.glob (.int 10)), (.glob (.int 12)), (.glob (.int 11)), (.glob (.int 14))]) [(.cond (.not (.call 1061 [(.loc 0), (.call 1054 [(.loc 0), (.loc 5), (.list [(.tup [(.glob (.int 4)), (.con (.int 0))])])])])) [(.ret (.con (.bool false)))] [])]), (.ret (.con (.bool true)))]
noncomputable def b1134 : List PS := [(.asg 1 (.comp (.bin .mod (.loc 0) (.con (.int 1000003))) [] (.slTo (.loc 0) 20))), (.asg 2 (.new 261 [])), (.asg 3 (.new 669 [(.loc 2), (.new 339 [(.con (.int 4000)), (.con (.int 4))])])), (.ex (.call 1002 [(.loc 3)])), (.asg 4 (.dict [(.con (.str (zz "m"))), (.con (.str (zz "rows"))), (.con (.str (zz "ranks"))), (.con (.str (zz "keys"))), (.con (.str (zz "boxes"))), (.con (.str (zz "word"))), (.con (.str (zz "pair"))), (.con (.str (zz "whole"))), (.con (.str (zz "plain")))] [(.loc 3), (.list []), (.list []), (.dict [] []), (.list []), (.call 154 [(.attr (.loc 2) 11), (.con (.int 32)), (.tup [])]), (.call 154 [(.attr (.loc 2) 11), (.con (.int 33)), (.tup [])]), (.call 154 [(.attr (.loc 2) 11), (.con (.int 34)), (.tup [])]), (.call 147 [(.attr (.loc 2) 11), (.con (.int 35)), (.tup [])])])), (.ex (.call 1122 [(.loc 4)])), (.forT [5, 6] (.tup [(.tup [(.con (.int 2)), (.con (.int 3))]), (.tup [(.con (.int 2)), (.con (.int 4))]), (.tup [(.con (.int 4)), (.con (.int 2))]), (.tup [(.con (.int 2)), (.con (.int 5))]), (.tup [(.con (.int 6)), (.con (.int 7))]), (.tup [(.con (.int 10)), (.con (.int 11))]), (.tup [(.con (.int 12)), (.con (.int 13))]), (.tup [(.con (.int 14)), (.con (.int 15))]), (.tup [(.con (.int 14)), (.con (.int 10))]), (.tup [(.con (.int 2)), (.con (.int 0))]), (.tup [(.con (.int 6)), (.con (.int 99))]), (.tup [(.con (.int 99)), (.con (.int 6))])]) [(.cond (.not (.call 1075 [(.loc 4), (.loc 5), (.loc 6)])) [(.ret (.con (.bool false)))] [])]), (.for_ 5 (.tup [(.con (.int 2)), (.con (.int 4)), (.con (.int 6)), (.con (.int 7)), (.con (.int 10)), (.con (.int 11)), (.con (.int 12)), (.con (.int 15))]) [(.cond (.not (.call 1082 [(.loc 4), (.loc 5)])) [(.ret (.con (.bool false)))] [])]), (.for_ 7 (.loc 1) [(.cond (.not (.call 1115 [(.loc 4), (.loc 7)])) [(.ret (.con (.bool false)))] [])]), (.cond (.not (.call 1129 [(.loc 4)])) [(.ret (.con (.bool false)))] []), (.forT [8, 9, 10, 11] (.sub (.loc 4) (.con (.str (zz "rows")))) [(.cond (.or [(.cmp .ne (.attr (.sub (.attr (.attr (.loc 3) 36) 25) (.loc 8)) 20) (.loc 11)), (.cmp .ne (.attr (.sub (.attr (.attr (.loc 3) 36) 25) (.loc 8)) 19) (.loc 9))]) [(.ret (.con (.bool false)))] [])]), (.ret (.and [(.cmp .eq (.attr (.loc 3) 51) (.list [])), (.cmp .eq (.attr (.loc 3) 50) (.list [])), (.cmp .eq (.attr (.loc 3) 49) (.glob (.int 0)))]))]
noncomputable def bodyT : List (Nat × Nat × List PS) := [(70, 3, b70), (77, 2, b77), (84, 9, b84), (98, 2, b98), (105, 1, b105), (112, 1, b112), (119, 4, b119), (126, 2, b126), (133, 3, b133), (140, 3, b140), (147, 3, b147), (154, 3, b154), (168, 2, b168), (182, 3, b182), (189, 2, b189), (209, 3, b209), (216, 6, b216), (223, 9, b223), (230, 8, b230), (237, 2, b237), (244, 7, b244), (258, 1, b258), (272, 3, b272), (280, 2, b280), (287, 1, b287), (301, 1, b301), (315, 4, b315), (336, 3, b336), (350, 4, b350), (364, 4, b364), (442, 2, b442), (512, 2, b512), (589, 3, b589), (617, 3, b617), (638, 3, b638), (652, 2, b652), (666, 2, b666), (678, 2, b678), (685, 3, b685), (720, 6, b720), (727, 3, b727), (734, 3, b734), (741, 3, b741), (767, 3, b767), (781, 3, b781), (788, 1, b788), (795, 2, b795), (802, 1, b802), (809, 3, b809), (816, 2, b816), (837, 3, b837), (844, 2, b844), (851, 3, b851), (858, 2, b858), (865, 3, b865), (872, 6, b872), (879, 6, b879), (886, 4, b886), (893, 4, b893), (900, 10, b900), (914, 5, b914), (933, 5, b933), (952, 5, b952), (971, 6, b971), (990, 5, b990), (1002, 1, b1002), (1009, 5, b1009), (1014, 2, b1014), (1019, 2, b1019), (1026, 8, b1026), (1033, 2, b1033), (1040, 3, b1040), (1047, 7, b1047), (1054, 3, b1054), (1061, 3, b1061), (1068, 2, b1068), (1075, 5, b1075), (1082, 4, b1082), (1089, 4, b1089), (1096, 2, b1096), (1103, 3, b1103), (1108, 6, b1108), (1115, 9, b1115), (1122, 5, b1122), (1129, 6, b1129), (1134, 12, b1134)]
noncomputable def arT : List (Nat × Nat) := [(70, 1), (77, 2), (84, 2), (98, 1), (105, 1), (112, 1), (119, 2), (126, 2), (133, 2), (140, 2), (147, 3), (154, 3), (168, 2), (182, 2), (189, 2), (209, 3), (216, 5), (223, 5), (230, 6), (237, 2), (244, 5), (258, 1), (272, 2), (280, 2), (287, 1), (301, 1), (315, 4), (336, 3), (350, 3), (364, 4), (442, 2), (512, 2), (589, 3), (617, 3), (638, 3), (652, 2), (666, 2), (678, 2), (685, 2), (720, 3), (727, 3), (734, 2), (741, 2), (767, 2), (781, 3), (788, 1), (795, 2), (802, 1), (809, 1), (816, 2), (837, 2), (844, 2), (851, 1), (858, 2), (865, 2), (872, 2), (879, 4), (886, 2), (893, 4), (900, 3), (914, 4), (933, 4), (952, 4), (971, 4), (990, 4), (1002, 1), (1009, 2), (1014, 2), (1019, 2), (1026, 3), (1033, 2), (1040, 1), (1047, 2), (1054, 3), (1061, 2), (1068, 2), (1075, 3), (1082, 2), (1089, 2), (1096, 2), (1103, 3), (1108, 4), (1115, 2), (1122, 1), (1129, 1), (1134, 1)]
noncomputable def locsT : List (Nat × List Str) := [(70, [zz "self", zz "number", zz "row"]), (77, [zz "self", zz "k"]), (84, [zz "self", zz "row", zz "found", zz "depth", zz "weight", zz "opened", zz "level", zz "inner", zz "k"]), (98, [zz "row", zz "sort"]), (105, [zz "sort"]), (112, [zz "sort"]), (119, [zz "kt", zz "row", zz "sort", zz "inner"]), (126, [zz "kt", zz "row"]), (133, [zz "kt", zz "args", zz "arg"]), (140, [zz "kt", zz "k", zz "sort"]), (147, [zz "kt", zz "tid", zz "args"]), (154, [zz "kt", zz "tid", zz "args"]), (168, [zz "kt", zz "k"]), (182, [zz "kt", zz "k", zz "row"]), (189, [zz "kt", zz "k"]), (209, [zz "kt", zz "k", zz "names"]), (216, [zz "kt", zz "k", zz "names", zz "level", zz "texts", zz "key"]), (223, [zz "kt", zz "k", zz "names", zz "level", zz "texts", zz "before", zz "behind", zz "row", zz "words"]), (230, [zz "kt", zz "k", zz "row", zz "names", zz "level", zz "texts", zz "sort", zz "owner"]), (237, [zz "tid", zz "names"]), (244, [zz "kt", zz "args", zz "names", zz "level", zz "texts", zz "out", zz "arg"]), (258, [zz "self"]), (272, [zz "store", zz "k", zz "tid"]), (280, [zz "n", zz "bits"]), (287, [zz "n"]), (301, [zz "count"]), (315, [zz "self", zz "addr", zz "kind", zz "slots"]), (336, [zz "self", zz "limit", zz "card_bits"]), (350, [zz "heap", zz "kind", zz "slots", zz "thing"]), (364, [zz "self", zz "heap", zz "frames", zz "statics"]), (442, [zz "self", zz "m"]), (512, [zz "self", zz "k"]), (589, [zz "self", zz "tid", zz "text"]), (617, [zz "self", zz "store", zz "heap"]), (638, [zz "self", zz "kind", zz "count"]), (652, [zz "self", zz "addr"]), (666, [zz "self", zz "text"]), (678, [zz "m", zz "tid"]), (685, [zz "m", zz "k", zz "row"]), (720, [zz "m", zz "kind", zz "count", zz "sort", zz "out", zz "k"]), (727, [zz "m", zz "kind", zz "count"]), (734, [zz "m", zz "addr", zz "thing"]), (741, [zz "m", zz "text", zz "thing"]), (767, [zz "m", zz "addr", zz "t"]), (781, [zz "m", zz "a", zz "b"]), (788, [zz "yes"]), (795, [zz "m", zz "value"]), (802, [zz "m"]), (809, [zz "store", zz "names", zz "tid"]), (816, [zz "m", zz "kind"]), (837, [zz "m", zz "thing", zz "t"]), (844, [zz "kind", zz "n"]), (851, [zz "text", zz "h", zz "letter"]), (858, [zz "m", zz "thing"]), (865, [zz "m", zz "value", zz "thing"]), (872, [zz "m", zz "value", zz "work", zz "h", zz "one", zz "inner"]), (879, [zz "m", zz "a", zz "b", zz "seen", zz "one", zz "other"]), (886, [zz "a", zz "b", zz "out", zz "i"]), (893, [zz "m", zz "a", zz "b", zz "seen"]), (900, [zz "m", zz "a", zz "b", zz "work", zz "seen", zz "x", zz "y", zz "same", zz "more", zz "pair"]), (914, [zz "self", zz "m", zz "f", zz "args", zz "thing"]), (933, [zz "self", zz "m", zz "f", zz "args", zz "thing"]), (952, [zz "self", zz "m", zz "f", zz "args", zz "thing"]), (971, [zz "self", zz "m", zz "f", zz "args", zz "thing", zz "other"]), (990, [zz "self", zz "m", zz "f", zz "args", zz "thing"]), (1002, [zz "m"]), (1009, [zz "m", zz "kind", zz "key", zz "place", zz "thing"]), (1014, [zz "w", zz "spec"]), (1019, [zz "w", zz "spec"]), (1026, [zz "w", zz "kind", zz "spec", zz "i", zz "slots", zz "canon", zz "key", zz "thing"]), (1033, [zz "n", zz "bits"]), (1040, [zz "text", zz "whole", zz "letter"]), (1047, [zz "w", zz "spec", zz "out", zz "part", zz "high", zz "low", zz "held"]), (1054, [zz "w", zz "number", zz "args"]), (1061, [zz "w", zz "gave", zz "good"]), (1068, [zz "w", zz "i"]), (1075, [zz "w", zz "i", zz "j", zz "gave", zz "same"]), (1082, [zz "w", zz "i", zz "whole", zz "part"]), (1089, [zz "kind", zz "z", zz "bits", zz "n"]), (1096, [zz "w", zz "z"]), (1103, [zz "w", zz "kind", zz "z"]), (1108, [zz "w", zz "kind", zz "spec", zz "z", zz "parts", zz "spot"]), (1115, [zz "w", zz "x", zz "y", zz "z", zz "many", zz "old", zz "kind", zz "new", zz "i"]), (1122, [zz "w", zz "five", zz "kind", zz "spec", zz "i"]), (1129, [zz "w", zz "m", zz "this", zz "said", zz "typed", zz "number"]), (1134, [zz "script", zz "nums", zz "store", zz "m", zz "w", zz "i", zz "j", zz "x", zz "addr", zz "kind", zz "spec", zz "slots"])]
noncomputable def nmT : List Str := [zz "append", zz "pop", zz "get", zz "rows", zz "index", zz "depths", zz "weights", zz "opens", zz "row", zz "put", zz "join", zz "kt", zz "types", zz "fields_", zz "methods", zz "names", zz "asms", zz "entry", zz "addr", zz "kind", zz "slots", zz "gen", zz "size", zz "serial", zz "things", zz "at", zz "top", zz "limit", zz "cards", zz "card_bits", zz "fresh", zz "young_limit", zz "finals", zz "ready", zz "moved", zz "made", zz "heap", zz "frames", zz "statics", zz "store", zz "kin", zz "targets", zz "defaults", zz "unders", zz "by_number", zz "inits", zz "fails", zz "ops", zz "natives", zz "state", zz "told", zz "thrown", zz "calls", zz "pushed", zz "chases", zz "interned", zz "internv", zz "held", zz "result", zz "last", zz "unhandled", zz "handles", zz "places", zz "starter", zz "closer", zz "sweeper", zz "default", zz "kinds_of", zz "before", zz "wrong", zz "alloc", zz "sort", zz "throw_new", zz "name", zz "tid", zz "text_of", zz "new_text", zz "call"]
noncomputable def mthT : List (Nat × Nat × Nat) := [(87, (8, 77)), (87, (9, 84)), (389, (77, 386)), (445, (68, 442)), (473, (19, 463)), (599, (1, 582)), (599, (66, 540)), (599, (67, 512)), (599, (69, 575)), (599, (70, 568)), (599, (72, 589)), (669, (1, 582)), (669, (66, 540)), (669, (67, 512)), (669, (69, 575)), (669, (70, 638)), (669, (72, 589)), (669, (75, 652)), (669, (76, 666)), (917, (77, 914)), (936, (77, 933)), (955, (77, 952)), (974, (77, 971)), (993, (77, 990))]
noncomputable def initT : List (Nat × Option Nat) := [(87, some 70), (261, some 258), (318, some 315), (339, some 336), (367, some 364), (389, none), (424, none), (445, none), (473, none), (599, some 491), (669, some 617), (917, none), (936, none), (955, none), (974, none), (993, none)]
noncomputable def attT : List (Nat × Nat) := [(87, 3), (87, 4), (87, 5), (87, 6), (87, 7), (261, 11), (261, 12), (261, 13), (261, 14), (261, 15), (261, 16), (261, 17), (318, 18), (318, 19), (318, 20), (318, 21), (318, 22), (318, 23), (339, 24), (339, 25), (339, 26), (339, 27), (339, 28), (339, 29), (339, 30), (339, 31), (339, 32), (339, 33), (339, 34), (339, 35), (367, 36), (367, 37), (367, 38), (599, 39), (599, 11), (599, 36), (599, 40), (599, 3), (599, 41), (599, 42), (599, 43), (599, 37), (599, 44), (599, 38), (599, 45), (599, 47), (599, 49), (599, 50), (599, 51), (599, 52), (599, 57), (599, 62), (599, 63), (599, 64), (669, 39), (669, 11), (669, 36), (669, 40), (669, 3), (669, 41), (669, 42), (669, 43), (669, 32), (669, 37), (669, 44), (669, 38), (669, 45), (669, 46), (669, 47), (669, 48), (669, 49), (669, 50), (669, 51), (669, 52), (669, 53), (669, 54), (669, 55), (669, 56), (669, 57), (669, 58), (669, 59), (669, 60), (669, 61), (669, 62), (669, 63), (669, 64), (669, 65)]
noncomputable def lookM (c m : Nat) : List (Nat × Nat × Nat) -> Option Nat
 | [] => none
 | (a, b, f) :: r => match Nat.beq a c with
  | true => (match Nat.beq b m with
   | true => some f
   | false => lookM c m r)
  | false => lookM c m r
noncomputable def inP (c m : Nat) : List (Nat × Nat) -> Bool
 | [] => false
 | (a, b) :: r => match Nat.beq a c with
  | true => (match Nat.beq b m with
   | true => true
   | false => inP c m r)
  | false => inP c m r
noncomputable def statT : List (Nat × List (V × V)) := [(54, [(.int 0, .int 20), (.int 1, .int 9), (.int 2, .int 10), (.int 3, .int 11), (.int 4, .int 12), (.int 5, .int 13), (.int 6, .int 14), (.int 7, .int 15), (.int 8, .int 16), (.int 9, .int 17), (.int 10, .int 18), (.int 11, .int 19), (.int 12, .int 1), (.int 13, .int 4)]),
 (55, [(.int 20, .int 0), (.int 9, .int 1), (.int 10, .int 2), (.int 11, .int 3), (.int 12, .int 4), (.int 13, .int 5), (.int 14, .int 6), (.int 15, .int 7), (.int 16, .int 8), (.int 17, .int 9), (.int 18, .int 10), (.int 19, .int 11), (.int 1, .int 12), (.int 4, .int 13)]),
 (197, [(.int 4, .tup [.str (zz ""), .str (zz "[]")]), (.int 5, .tup [.str (zz ""), .str (zz "&")]), (.int 8, .tup [.str (zz "boxed "), .str (zz "")]), (.int 9, .tup [.str (zz "readonly "), .str (zz "&")]), (.int 11, .tup [.str (zz "raw "), .str (zz "")])])]
noncomputable def G : Prg where
 body f := v3 f bodyT
 mth c m := lookM c m mthT
 init c := v3 c initT
 att c m := inP c m attT
 stat a := v3 a statT
 ar f := v3 f arT
end Mine
end
section
open PyProof.Rows PySem PySem.W
namespace Mine
noncomputable def d9 (m : Nat) : Str := (getL nmT m).getD (zz "?")
mutual
inductive Rv (h : Heap) (N : Addr -> Prop) (σ : Nat -> Addr) (n : Nat) : V -> Value -> Prop
 | none : Rv h N σ n .none .none
 | bool (b : Bool) : Rv h N σ n (.bool b) (.bool b)
 | int (i : Int) (t : Tok) : Rv h N σ n (.int i) (.int i t)
 | str (x : Str) (t : Tok) : Rv h N σ n (.str x) (.str x t)
 | top (a : Addr) : Rv h N σ n (.top (.ref a)) (.ref a)
 | own (i : Nat) : i < n -> Rv h N σ n (.own i) (.ref (σ i))
 | tup {a : Addr} {vs : Array Value} {ep : Nat} {xs : List V} : ¬ N a -> h.get? a = some ⟨.type "tuple", Option.none, .seq vs ep, #[]⟩ -> Rvs h N σ n xs vs.toList -> Rv h N σ n (.tup xs) (.ref a)
 | lst {a : Addr} {vs : Array Value} {ep : Nat} {xs : List V} : ¬ N a -> h.get? a = some ⟨.type "list", Option.none, .seq vs ep, #[]⟩ -> Rvs h N σ n xs vs.toList -> Rv h N σ n (.lst xs) (.ref a)
 | obj {a dx C : Addr} {es : Array DictEntry} {ep : Nat} {fs : List (Nat × V)} : ¬ N a -> ¬ N dx -> h.get? a = some ⟨.ref C, some dx, .plain, #[]⟩ -> h.get? dx = some ⟨.type "dict", Option.none, .dict es ep, #[]⟩ -> Rfs h N σ n fs es.toList ->
   Rv h N σ n (.obj C fs) (.ref a)
inductive Rvs (h : Heap) (N : Addr -> Prop) (σ : Nat -> Addr) (n : Nat) : List V -> List Value -> Prop
 | nil : Rvs h N σ n [] []
 | cons {x : V} {u : Value} {xs : List V} {us : List Value} : Rv h N σ n x u -> Rvs h N σ n xs us -> Rvs h N σ n (x :: xs) (u :: us)
inductive Rfs (h : Heap) (N : Addr -> Prop) (σ : Nat -> Addr) (n : Nat) : List (Nat × V) -> List DictEntry -> Prop
 | nil : Rfs h N σ n [] []
 | cons {m : Nat} {x : V} {hs : Int} {t : Tok} {u : Value} {fs : List (Nat × V)} {es : List DictEntry} : m < nmT.length -> Rv h N σ n x u -> Rfs h N σ n fs es -> Rfs h N σ n ((m, x) :: fs) (⟨hs, .str (d9 m) t, u⟩ :: es)
end
noncomputable def RvI (h : Heap) (N : Addr -> Prop) (σ : Nat -> Addr) (n : Nat) : V -> Value -> Prop
 | .none, u => u = .none
 | .bool b, u => u = .bool b
 | .int i, u => ∃ t, u = .int i t
 | .str x, u => ∃ t, u = .str x t
 | .top v, u => ∃ a, v = .ref a ∧ u = .ref a
 | .own i, u => u = .ref (σ i) ∧ i < n
 | .tup xs, u => ∃ a vs ep, u = .ref a ∧ ¬ N a ∧ h.get? a = some ⟨.type "tuple", Option.none, .seq vs ep, #[]⟩ ∧ Rvs h N σ n xs vs.toList
 | .lst xs, u => ∃ a vs ep, u = .ref a ∧ ¬ N a ∧ h.get? a = some ⟨.type "list", Option.none, .seq vs ep, #[]⟩ ∧ Rvs h N σ n xs vs.toList
 | .obj C fs, u => ∃ a dx es ep, u = .ref a ∧ ¬ N a ∧ ¬ N dx ∧ h.get? a = some ⟨.ref C, some dx, .plain, #[]⟩ ∧ h.get? dx = some ⟨.type "dict", Option.none, .dict es ep, #[]⟩ ∧ Rfs h N σ n fs es.toList
theorem Rv.inv {h : Heap} {N : Addr -> Prop} {σ : Nat -> Addr} {n : Nat} {v : V} {u : Value} (r : Rv h N σ n v u) : RvI h N σ n v u := by
 cases r with
 | none => rfl
 | bool => rfl
 | int i t => exact ⟨t, rfl⟩
 | str i t => exact ⟨t, rfl⟩
 | top a => exact ⟨a, rfl, rfl⟩
 | own i hi => exact ⟨rfl, hi⟩
 | tup a b c => exact ⟨_, _, _, rfl, a, b, c⟩
 | lst a b c => exact ⟨_, _, _, rfl, a, b, c⟩
 | obj a b c d e => exact ⟨_, _, _, _, rfl, a, b, c, d, e⟩
noncomputable def RvsI (h : Heap) (N : Addr -> Prop) (σ : Nat -> Addr) (n : Nat) : List V -> List Value -> Prop
 | [], us => us = []
 | x :: xs, us => ∃ u vs, us = u :: vs ∧ Rv h N σ n x u ∧ Rvs h N σ n xs vs
theorem Rvs.inv {h : Heap} {N : Addr -> Prop} {σ : Nat -> Addr} {n : Nat} {v : List V} {u : List Value} (r : Rvs h N σ n v u) : RvsI h N σ n v u := by
 cases r with
 | nil => rfl
 | cons a b => exact ⟨_, _, rfl, a, b⟩
noncomputable def RfsI (h : Heap) (N : Addr -> Prop) (σ : Nat -> Addr) (n : Nat) : List (Nat × V) -> List DictEntry -> Prop
 | [], es => es = []
 | (m, x) :: fs, es => ∃ hs t u es', es = ⟨hs, .str (d9 m) t, u⟩ :: es' ∧ m < nmT.length ∧ Rv h N σ n x u ∧ Rfs h N σ n fs es'
theorem Rfs.inv {h : Heap} {N : Addr -> Prop} {σ : Nat -> Addr} {n : Nat} {v : List (Nat × V)} {u : List DictEntry} (r : Rfs h N σ n v u) : RfsI h N σ n v u := by
 cases r with
 | nil => rfl
 | cons l a b => exact ⟨_, _, _, _, rfl, l, a, b⟩
section
variable {h h' : Heap} {N N' : Addr -> Prop} {σ σ' : Nat -> Addr} {n n' : Nat}
structure v4 (h h' : Heap) (N N' : Addr -> Prop) : Prop where
 keep : ∀ a o, ¬ N a -> h.get? a = some o -> h'.get? a = some o
 less : ∀ a o, h.get? a = some o -> N' a -> N a
mutual
theorem Rv.mono' (H : v4 h h' N N') (hn' : n ≤ n') (hs : ∀ i, i < n -> σ' i = σ i) : ∀ (x : V) {u : Value}, Rv h N σ n x u -> Rv h' N' σ' n' x u
 | .none, _, r => by
  obtain rfl := r.inv
  exact .none
 | .bool b, _, r => by
  obtain rfl := r.inv
  exact .bool b
 | .int i, _, r => by
  obtain ⟨t, rfl⟩ := r.inv
  exact .int i t
 | .str x, _, r => by
  obtain ⟨t, rfl⟩ := r.inv
  exact .str x t
 | .top v, _, r => by
  obtain ⟨a, rfl, rfl⟩ := r.inv
  exact .top a
 | .own i, _, r => by
  obtain ⟨rfl, hi⟩ := r.inv
  rw [← hs i hi]
  exact .own i (Nat.lt_of_lt_of_le hi hn')
 | .tup xs, _, r => by
  obtain ⟨a, vs, ep, rfl, hn, hg, hx⟩ := r.inv
  exact .tup (fun q => hn (H.less _ _ hg q)) (H.keep _ _ hn hg) (Rvs.mono' H hn' hs xs hx)
 | .lst xs, _, r => by
  obtain ⟨a, vs, ep, rfl, hn, hg, hx⟩ := r.inv
  exact .lst (fun q => hn (H.less _ _ hg q)) (H.keep _ _ hn hg) (Rvs.mono' H hn' hs xs hx)
 | .obj C fs, _, r => by
  obtain ⟨a, dx, es, ep, rfl, hn, hm, hg, hg', hx⟩ := r.inv
  exact .obj (fun q => hn (H.less _ _ hg q)) (fun q => hm (H.less _ _ hg' q)) (H.keep _ _ hn hg) (H.keep _ _ hm hg') (Rfs.mono' H hn' hs fs hx)
theorem Rvs.mono' (H : v4 h h' N N') (hn' : n ≤ n') (hs : ∀ i, i < n -> σ' i = σ i) : ∀ (x : List V) {u : List Value}, Rvs h N σ n x u -> Rvs h' N' σ' n' x u
 | [], _, r => by
  obtain rfl := r.inv
  exact .nil
 | x :: xs, _, r => by
  obtain ⟨u, us, rfl, a, b⟩ := r.inv
  exact .cons (Rv.mono' H hn' hs x a) (Rvs.mono' H hn' hs xs b)
theorem Rfs.mono' (H : v4 h h' N N') (hn' : n ≤ n') (hs : ∀ i, i < n -> σ' i = σ i) : ∀ (x : List (Nat × V)) {u : List DictEntry}, Rfs h N σ n x u -> Rfs h' N' σ' n' x u
 | [], _, r => by
  obtain rfl := r.inv
  exact .nil
 | (m, x) :: xs, _, r => by
  obtain ⟨hs1, t, u, es, rfl, l, a, b⟩ := r.inv
  exact .cons l (Rv.mono' H hn' hs x a) (Rfs.mono' H hn' hs xs b)
end
theorem Rv.mono (H : v4 h h' N N') (hn' : n ≤ n') (hs : ∀ i, i < n -> σ' i = σ i) {x : V} {u : Value} (r : Rv h N σ n x u) : Rv h' N' σ' n' x u := Rv.mono' H hn' hs x r
theorem Rvs.mono (H : v4 h h' N N') (hn' : n ≤ n') (hs : ∀ i, i < n -> σ' i = σ i) {x : List V} {u : List Value} (r : Rvs h N σ n x u) : Rvs h' N' σ' n' x u := Rvs.mono' H hn' hs x r
theorem Rfs.mono (H : v4 h h' N N') (hn' : n ≤ n') (hs : ∀ i, i < n -> σ' i = σ i) {x : List (Nat × V)} {u : List DictEntry} (r : Rfs h N σ n x u) : Rfs h' N' σ' n' x u := Rfs.mono' H hn' hs x r
end
noncomputable def liveO : O -> Prop
 | .gone => False
 | _ => True
noncomputable def cQ (led : List O) (i : Nat) : Prop := ∃ o, getL led i = some o ∧ liveO o
noncomputable def NN (fr : List Addr) (c : Nat -> Addr) (led : List O) (a : Addr) : Prop := a ∈ fr ∨ ∃ i, cQ led i ∧ c i = a
noncomputable def Cell (c : Nat -> Addr) (led : List O) (a : Addr) : Prop := ∃ i, cQ led i ∧ c i = a
theorem w9 {α : Type} : ∀ {l : List α} {i : Nat} {x : α}, getL l i = some x -> i < l.length
 | [], _, _, h => by cases h
 | _ :: _, 0, _, _ => Nat.succ_pos _
 | _ :: r, i + 1, _, h => Nat.succ_lt_succ (w9 (l := r) h)
theorem p9 {α : Type} : ∀ (l : List α) (i : Nat), getL l i = l[i]?
 | [], _ => by simp [getL]
 | _ :: _, 0 => rfl
 | _ :: r, i + 1 => by simp [getL, p9 r i]
theorem k8 {α : Type} : ∀ (l : List α) (i : Nat) (v : α) (k : List α -> Prop), v5 l i v k ↔ k (l.set i v)
 | [], _, _, _ => Iff.rfl
 | _ :: _, 0, _, _ => Iff.rfl
 | x :: r, i + 1, v, k => k8 r i v fun r' => k (x :: r')
theorem w3 {α : Type} : ∀ (l : List α) (k : Nat -> Prop), gZ l k ↔ k l.length
 | [], _ => Iff.rfl
 | _ :: r, k => w3 r fun n => k (n + 1)
theorem w6 {α : Type} : ∀ (l : List α) (v : α) (k : List α -> Prop), w4 l v k ↔ k (l ++ [v])
 | [], _, _ => Iff.rfl
 | x :: r, v, k => w6 r v fun r' => k (x :: r')
noncomputable def EntOk (h : Heap) (N : Addr -> Prop) (σ : Nat -> Addr) (n : Nat) (hash : V -> Int) (p : V × V) (e : DictEntry) : Prop := Rv h N σ n p.1 e.key ∧ e.hash = hash p.1 ∧ Rv h N σ n p.2 e.val
inductive f0 {α β : Type} (P : α -> β -> Prop) : List α -> List β -> Prop
 | nil : f0 P [] []
 | cons {a : α} {b : β} {l : List α} {r : List β} : P a b -> f0 P l r -> f0 P (a :: l) (b :: r)
theorem f0.imp {α β : Type} {P Q : α -> β -> Prop} (f : ∀ a b, P a b -> Q a b) {l : List α} {r : List β} (h : f0 P l r) : f0 Q l r := by
 induction h with
 | nil => exact .nil
 | cons a _ ih => exact .cons (f _ _ a) ih
noncomputable def KeysOk (es : List (V × V)) : Prop := (∀ p ∈ es, kok 7 p.1 = true) ∧ ∃ b, ∀ p ∈ es, isT p.1 = b
noncomputable def pQ (h : Heap) (N : Addr -> Prop) (σ : Nat -> Addr) (n : Nat) (hash : V -> Int) (a cell : Addr) : O -> Prop
 | .list xs => a = cell ∧ ∃ vs ep, h.get? cell = some ⟨.type "list", none, .seq vs ep, #[]⟩ ∧ Rvs h N σ n xs vs.toList
 | .dict es => a = cell ∧ ∃ arr ep, h.get? cell = some ⟨.type "dict", none, .dict arr ep, #[]⟩ ∧ f0 (EntOk h N σ n hash) es arr.toList ∧ KeysOk es ∧ (es.map (·.1)).Nodup
 | .inst C fs => ¬ N a ∧ h.get? a = some ⟨.ref C, some cell, .plain, #[]⟩ ∧ ∃ arr ep, h.get? cell = some ⟨.type "dict", none, .dict arr ep, #[]⟩ ∧ Rfs h N σ n fs arr.toList ∧ (fs.map (·.1)).Nodup
 | .gone => True
structure R (hash : V -> Int) (b0 : Heap) (fr : List Addr) (σ c : Nat -> Addr) (led : List O) (h : Heap) : Prop where
 base : ∀ a o, b0.get? a = some o -> h.get? a = some o ∧ ¬ NN fr c led a
 cell : ∀ i o, getL led i = some o -> pQ h (NN fr c led) σ led.length hash (σ i) (c i) o
 inj : ∀ i j, cQ led i -> cQ led j -> c i = c j -> i = j
 frs : ∀ i, cQ led i -> c i ∉ fr
 flt : ∀ a ∈ fr, ∃ o, h.get? a = some o
structure y9 (D : Addr -> Prop) (σ c : Nat -> Addr) (led : List O) (h : Heap) (σ' c' : Nat -> Addr) (led' : List O) (h' : Heap) : Prop where
 keep : ∀ a o, h.get? a = some o -> ¬ Cell c led a -> ¬ D a -> h'.get? a = some o
 len : led.length ≤ led'.length
 same : ∀ i, i < led.length -> σ' i = σ i ∧ c' i = c i
 dead : ∀ i, i < led.length -> cQ led' i -> cQ led i
 new : ∀ i, led.length ≤ i -> cQ led' i -> h.get? (c' i) = none
 stay : ∀ a o, h.get? a = some o -> ∃ o', h'.get? a = some o'
section
variable {D : Addr -> Prop} {σ c σ' c' σ'' c'' : Nat -> Addr} {led led' led'' : List O} {h h' h'' : Heap}
theorem u8 {i : Nat} (x : cQ led i) : i < led.length := let ⟨_, e, _⟩ := x; w9 e
theorem y9.refl : y9 D σ c led h σ c led h := ⟨fun _ _ e _ _ => e, Nat.le_refl _, fun _ _ => ⟨rfl, rfl⟩, fun _ _ x => x, fun _ hi x => absurd (u8 x) (Nat.not_lt.mpr hi), fun _ o e => ⟨o, e⟩⟩
theorem y9.trans (x : y9 D σ c led h σ' c' led' h') (y : y9 D σ' c' led' h' σ'' c'' led'' h'') : y9 D σ c led h σ'' c'' led'' h'' where
 keep a o e nc nd := y.keep a o (x.keep a o e nc nd) (fun ⟨i, hl, hc⟩ => by
  rcases Nat.lt_or_ge i led.length with q | q
  ·exact nc ⟨i, x.dead i q hl, by rw [← (x.same i q).2]; exact hc⟩
  ·have := x.new i q hl
   rw [hc, e] at this
   cases this) nd
 len := Nat.le_trans x.len y.len
 same i hi := ⟨(y.same i (Nat.lt_of_lt_of_le hi x.len)).1.trans (x.same i hi).1, (y.same i (Nat.lt_of_lt_of_le hi x.len)).2.trans (x.same i hi).2⟩
 dead i hi hl := x.dead i hi (y.dead i (Nat.lt_of_lt_of_le hi x.len) hl)
 new i hi hl := by
  rcases Nat.lt_or_ge i led'.length with q | q
  ·rw [(y.same i q).2]; exact x.new i hi (y.dead i q hl)
  ·have := y.new i q hl
   cases e : h.get? (c'' i) with
   | none => rfl
   | some o =>
    obtain ⟨o', e'⟩ := x.stay _ _ e
    rw [e'] at this; cases this
 stay a o e := let ⟨o', e'⟩ := x.stay a o e; y.stay a o' e'
theorem y9.weaken {D' : Addr -> Prop} (x : y9 D σ c led h σ' c' led' h') (hd : ∀ a, D a -> D' a) : y9 D' σ c led h σ' c' led' h' :=
 ⟨fun a o e nc nd => x.keep a o e nc fun q => nd (hd a q), x.len, x.same, x.dead, x.new, x.stay⟩
theorem y9.mono {fr fr' : List Addr} (x : y9 D σ c led h σ' c' led' h') (hD : ∀ a, D a -> a ∈ fr) (hf : ∀ a ∈ fr', a ∈ fr ∨ h.get? a = none) : v4 h h' (NN fr c led) (NN fr' c' led') where
 keep a o hn e := x.keep a o e (fun q => hn (.inr q)) fun q => hn (.inl (hD a q))
 less a o e := by
  rintro (q | ⟨i, hl, rfl⟩)
  ·rcases hf a q with q | q
   ·exact .inl q
   ·rw [q] at e; cases e
  ·rcases Nat.lt_or_ge i led.length with q | q
   ·exact .inr ⟨i, x.dead i q hl, ((x.same i q).2).symm⟩
   ·rw [x.new i q hl] at e; cases e
end
section
variable {hash : V -> Int} {h h' : Heap} {N N' : Addr -> Prop} {σ σ' : Nat -> Addr} {n n' : Nat}
theorem EntOk.mono (H : v4 h h' N N') (hn' : n ≤ n') (hs : ∀ i, i < n -> σ' i = σ i) {p : V × V} {e : DictEntry} (x : EntOk h N σ n hash p e) : EntOk h' N' σ' n' hash p e :=
 ⟨Rv.mono H hn' hs x.1, x.2.1, Rv.mono H hn' hs x.2.2⟩
theorem pQ.mono {a cell : Addr} {o : O} (H : v4 h h' N N') (hn' : n ≤ n') (hs : ∀ i, i < n -> σ' i = σ i) (hc : h'.get? cell = h.get? cell) (x : pQ h N σ n hash a cell o) : pQ h' N' σ' n' hash a cell o := by
 cases o with
 | list xs => obtain ⟨e, vs, ep, g, r⟩ := x; exact ⟨e, vs, ep, hc.trans g, Rvs.mono H hn' hs r⟩
 | dict es => obtain ⟨e, vs, ep, g, r, k, d⟩ := x; exact ⟨e, vs, ep, hc.trans g, r.imp fun _ _ q => q.mono H hn' hs, k, d⟩
 | inst C fs => obtain ⟨e, g₀, vs, ep, g, r, d⟩ := x; exact ⟨fun q => e (H.less _ _ g₀ q), H.keep _ _ e g₀, vs, ep, hc.trans g, Rfs.mono H hn' hs r, d⟩
 | gone => trivial
end
section
variable {hash : V -> Int} {b0 h h' : Heap} {fr fr' : List Addr} {D : Addr -> Prop} {σ c σ' c' : Nat -> Addr} {led led' : List O}
theorem R.step (r : R hash b0 fr σ c led h) (st : y9 D σ c led h σ' c' led' h') (hD : ∀ a, D a -> a ∈ fr) (hf : ∀ a ∈ fr', a ∈ fr ∨ h.get? a = none)
  (hc : ∀ i o, getL led' i = some o -> (getL led i = some o ∧ h'.get? (c i) = h.get? (c i)) ∨ pQ h' (NN fr' c' led') σ' led'.length hash (σ' i) (c' i) o)
  (hj : ∀ i j, led.length ≤ i -> cQ led' i -> cQ led' j -> c' i = c' j -> i = j) (hk : ∀ i, led.length ≤ i -> cQ led' i -> c' i ∉ fr') (hf' : ∀ a ∈ fr', a ∉ fr -> ∀ i, cQ led i -> c i ≠ a) (hlt : ∀ a ∈ fr', ∃ o, h'.get? a = some o) : R hash b0 fr' σ' c' led' h' where
 flt := hlt
 base a o e := by
  obtain ⟨e1, e2⟩ := r.base a o e
  have H := st.mono hD hf
  exact ⟨H.keep _ _ e2 e1, fun q => e2 (H.less _ _ e1 q)⟩
 cell i o e := by
  rcases hc i o e with ⟨e1, e2⟩ | q
  ·have hi := w9 e1
   rw [(st.same i hi).1, (st.same i hi).2]
   exact (r.cell i o e1).mono (st.mono hD hf) st.len (fun j hj' => (st.same j hj').1) e2
  ·exact q
 inj i j li lj e := by
  rcases Nat.lt_or_ge i led.length with q | q
  ·rcases Nat.lt_or_ge j led.length with q' | q'
   ·rw [(st.same i q).2, (st.same j q').2] at e
    exact r.inj i j (st.dead i q li) (st.dead j q' lj) e
   ·exact (hj j i q' lj li e.symm).symm
  ·exact hj i j q li lj e
 frs i li hq := by
  rcases Nat.lt_or_ge i led.length with q | q
  ·rw [(st.same i q).2] at hq
   by_cases hfr : c i ∈ fr
   ·exact r.frs i (st.dead i q li) hfr
   ·exact hf' _ hq hfr i (st.dead i q li) rfl
  ·exact hk i q li hq
theorem y9.push (o : Obj) : y9 D σ c led h σ c led (h.push o) :=
 ⟨fun _ _ e _ _ => Heap.get?_push_of_some _ e, Nat.le_refl _, fun _ _ => ⟨rfl, rfl⟩, fun _ _ x => x, fun _ hi x => absurd (u8 x) (Nat.not_lt.mpr hi), fun _ p e => ⟨p, Heap.get?_push_of_some _ e⟩⟩
theorem pQ.has {N : Addr -> Prop} {n : Nat} {a cell : Addr} {o : O} (x : pQ h N σ n hash a cell o) (hl : liveO o) : ∃ q, h.get? cell = some q := by
 cases o with
 | list xs => obtain ⟨_, vs, ep, g, _⟩ := x; exact ⟨_, g⟩
 | dict es => obtain ⟨_, vs, ep, g, _⟩ := x; exact ⟨_, g⟩
 | inst C fs => obtain ⟨_, _, vs, ep, g, _⟩ := x; exact ⟨_, g⟩
 | gone => cases hl
theorem R.cell_some (r : R hash b0 fr σ c led h) {i : Nat} (hl : cQ led i) : ∃ q, h.get? (c i) = some q := by
 obtain ⟨o, e, l⟩ := hl
 exact (r.cell i o e).has l
theorem R.cell_lt (r : R hash b0 fr σ c led h) {i : Nat} (hl : cQ led i) : c i < h.objs.size := by
 obtain ⟨o, e, l⟩ := hl
 obtain ⟨q, g⟩ := (r.cell i o e).has l
 exact Heap.lt_size g
theorem R.still (r : R hash b0 fr σ c led h) (st : y9 D σ c led h σ c led h') (hD : ∀ a, D a -> a ∈ fr) (hc : ∀ i, cQ led i -> h'.get? (c i) = h.get? (c i)) : R hash b0 fr σ c led h' :=
 r.step st hD (fun _ q => .inl q) (fun i o e => by
  by_cases l : liveO o
  ·exact .inl ⟨e, hc i ⟨o, e, l⟩⟩
  ·right
   cases o <;> first | exact absurd trivial l | exact trivial) (fun i j hi li _ _ => absurd (u8 li) (Nat.not_lt.mpr hi)) (fun i hi li => absurd (u8 li) (Nat.not_lt.mpr hi)) (fun _ q q' => absurd q q') (fun a ha => let ⟨o, e⟩ := r.flt a ha; st.stay a o e)
theorem R.push (r : R hash b0 fr σ c led h) (o : Obj) : R hash b0 fr σ c led (h.push o) :=
 r.still (D := fun _ => False) (y9.push o) (fun _ q => q.elim) fun i hl => by
  obtain ⟨o', e, l⟩ := hl
  obtain ⟨q, g⟩ := (r.cell i o' e).has l
  rw [g]; exact Heap.get?_push_of_some _ g
noncomputable def up (f : Nat -> Addr) (n : Nat) (a : Addr) : Nat -> Addr := fun i => if i = n then a else f i
theorem u4 (f : Nat -> Addr) {n i : Nat} (a : Addr) (hi : i < n) : up f n a i = f i := if_neg (Nat.ne_of_lt hi)
theorem p8 (f : Nat -> Addr) (n : Nat) (a : Addr) : up f n a n = a := if_pos rfl
theorem m8 {α : Type} {l : List α} {x y : α} {i : Nat} (e : getL (l ++ [x]) i = some y) : (i < l.length ∧ getL l i = some y) ∨ (i = l.length ∧ y = x) := by
 rw [p9] at e
 rcases Nat.lt_trichotomy i l.length with q | q | q
 ·rw [List.getElem?_append_left q] at e
  exact .inl ⟨q, by rw [p9]; exact e⟩
 ·subst q
  rw [List.getElem?_append_right (Nat.le_refl _)] at e
  simp at e
  exact .inr ⟨rfl, e.symm⟩
 ·rw [List.getElem?_eq_none (by rw [List.length_append]; exact q)] at e
  cases e
theorem k3 {α : Type} {l : List α} {x : α} {i : Nat} (hi : i < l.length) : getL (l ++ [x]) i = getL l i := by
 rw [p9, p9, List.getElem?_append_left hi]
theorem getL_snoc_len {α : Type} {l : List α} {x : α} : getL (l ++ [x]) l.length = some x := by
 rw [p9, List.getElem?_append_right (Nat.le_refl _)]; simp
theorem xZ {α : Type} {l : List α} {x : α} {i : Nat} (hi : i < l.length) : getL (l.set i x) i = some x := by
 rw [p9]; simp [hi]
theorem wQ {α : Type} {l : List α} {x : α} {i j : Nat} (hij : i ≠ j) : getL (l.set i x) j = getL l j := by
 rw [p9, p9]; simp [hij]
theorem y9.alloc {a cell : Addr} {o : O} (hk : ∀ b q, h.get? b = some q -> h'.get? b = some q) (hs : h.objs.size ≤ h'.objs.size) (hc : h.objs.size ≤ cell) :
  y9 D σ c led h (up σ led.length a) (up c led.length cell) (led ++ [o]) h' where
 keep b q e _ _ := hk b q e
 len := by simp
 same i hi := ⟨u4 _ _ hi, u4 _ _ hi⟩
 dead i hi := by
  rintro ⟨q, e, l⟩
  exact ⟨q, by rw [k3 hi] at e; exact e, l⟩
 new i hi := by
  rintro ⟨q, e, l⟩
  rcases m8 e with ⟨z, _⟩ | ⟨z, _⟩
  ·exact absurd z (Nat.not_lt.mpr hi)
  ·subst z; rw [p8]; exact Heap.get?_none_of_le hc
 stay b q e := ⟨q, hk b q e⟩
theorem R.alloc (r : R hash b0 fr σ c led h) {a cell : Addr} {o : O} (hk : ∀ b q, h.get? b = some q -> h'.get? b = some q) (hs : h.objs.size ≤ h'.objs.size) (hc : h.objs.size ≤ cell)
  (ok : pQ h' (NN fr (up c led.length cell) (led ++ [o])) (up σ led.length a) (led.length + 1) hash a cell o) :
  R hash b0 fr (up σ led.length a) (up c led.length cell) (led ++ [o]) h' := by
 refine r.step (D := fun _ => False) (y9.alloc hk hs hc) (fun _ q => q.elim) (fun _ q => .inl q) (fun i q e => ?_) (fun i j hi li lj e => ?_) (fun i hi li => ?_) (fun _ q q' => absurd q q') fun b hb => let ⟨q, e⟩ := r.flt b hb; ⟨q, hk b q e⟩
 ·rcases m8 e with ⟨z, e'⟩ | ⟨z, y⟩
  ·by_cases l : liveO q
   ·obtain ⟨w, g⟩ := (r.cell i q e').has l
    exact .inl ⟨e', by rw [g]; exact hk _ _ g⟩
   ·right
    cases q <;> first | exact absurd trivial l | exact trivial
  ·subst z; subst y
   right
   rw [p8, p8, List.length_append]
   exact ok
 ·obtain ⟨q, e1, l1⟩ := li
  obtain ⟨q', e2, l2⟩ := lj
  rcases m8 e1 with ⟨z, _⟩ | ⟨z, _⟩
  ·exact absurd z (Nat.not_lt.mpr hi)
  ·rcases m8 e2 with ⟨z', e2'⟩ | ⟨z', _⟩
   ·exfalso
    rw [z, p8, u4 _ _ z'] at e
    have := r.cell_lt ⟨q', e2', l2⟩
    rw [← e] at this
    exact absurd this (Nat.not_lt.mpr hc)
   ·rw [z, z']
 ·obtain ⟨q, e1, l1⟩ := li
  rcases m8 e1 with ⟨z, _⟩ | ⟨z, _⟩
  ·exact absurd z (Nat.not_lt.mpr hi)
  ·rw [z, p8]
   exact fun hb => by
    obtain ⟨q, e⟩ := r.flt _ hb
    exact absurd (Heap.lt_size e) (Nat.not_lt.mpr hc)
theorem y9.turn {i : Nat} {o : O} (hi : cQ led i) (hk : ∀ b, b ≠ c i -> h'.get? b = h.get? b) (hs : ∃ q, h'.get? (c i) = some q) : y9 D σ c led h σ c (led.set i o) h' where
 keep b q e nc _ := (hk b fun z => nc ⟨i, hi, z.symm⟩).trans e
 len := by simp
 same _ _ := ⟨rfl, rfl⟩
 dead j hj := by
  rintro ⟨q, e, l⟩
  by_cases z : i = j
  ·exact z ▸ hi
  ·exact ⟨q, by rw [wQ z] at e; exact e, l⟩
 new j hj := by
  rintro ⟨q, e, l⟩
  have := w9 e
  rw [List.length_set] at this
  exact absurd this (Nat.not_lt.mpr hj)
 stay b q e := by
  by_cases z : b = c i
  ·exact z ▸ hs
  ·exact ⟨q, (hk b z).trans e⟩
theorem R.turn (r : R hash b0 fr σ c led h) {i : Nat} {o : O} (hi : cQ led i) (hk : ∀ b, b ≠ c i -> h'.get? b = h.get? b) (hs : ∃ q, h'.get? (c i) = some q)
  (ok : pQ h' (NN fr c (led.set i o)) σ led.length hash (σ i) (c i) o) : R hash b0 fr σ c (led.set i o) h' := by
 have lt := u8 hi
 refine r.step (D := fun _ => False) (y9.turn hi hk hs) (fun _ q => q.elim) (fun _ q => .inl q) (fun j q e => ?_) (fun j k hj lj lk _ => ?_) (fun j hj lj => ?_) (fun _ q q' => absurd q q') fun b hb => let ⟨q, e⟩ := r.flt b hb; ⟨q, (hk b fun z => r.frs i hi (z ▸ hb)).trans e⟩
 ·by_cases z : i = j
  ·subst z
   rw [xZ lt] at e
   cases e
   right
   rw [List.length_set]; exact ok
  ·rw [wQ z] at e
   by_cases l : liveO q
   ·exact .inl ⟨e, hk _ fun w => z (r.inj i j hi ⟨q, e, l⟩ w.symm)⟩
   ·right
    cases q <;> first | exact absurd trivial l | exact trivial
 ·have := u8 lj
  rw [List.length_set] at this
  exact absurd this (Nat.not_lt.mpr hj)
 ·have := u8 lj
  rw [List.length_set] at this
  exact absurd this (Nat.not_lt.mpr hj)
theorem y9.frame {L : Addr} (hs : Heap.SameBut L h h') (hL : ∃ o, h'.get? L = some o) : y9 (fun a => a = L) σ c led h σ c led h' :=
 ⟨fun a _ e _ nd => (hs.2 a nd).trans e, Nat.le_refl _, fun _ _ => ⟨rfl, rfl⟩, fun _ _ x => x, fun _ hi x => absurd (u8 x) (Nat.not_lt.mpr hi), fun a o e => by
  by_cases z : a = L
  ·exact z ▸ hL
  ·exact ⟨o, (hs.2 a z).trans e⟩⟩
theorem R.frame (r : R hash b0 fr σ c led h) {L : Addr} (hL : L ∈ fr) (hs : Heap.SameBut L h h') (hg : ∃ o, h'.get? L = some o) : R hash b0 fr σ c led h' :=
 r.still (y9.frame hs hg) (fun _ q => q ▸ hL) fun i hl => hs.2 _ fun q => r.frs i hl (q ▸ hL)
end
noncomputable section
structure Tx where
 K : Frag
 sc : Scope
 names : List Str
noncomputable def zQ (a b : Str) : Bool := PySem.W.Fast.sEq a b
@[irreducible] noncomputable def okO {α : Type} (o : Option α) (f : α -> Bool) : Bool := match o with
 | some a => f a
 | none => false
theorem okO_iff {α : Type} {o : Option α} {f : α -> Bool} (h : okO o f = true) : ∃ a, o = some a ∧ f a = true := by
 unfold okO at h
 cases o with
 | none => cases h
 | some a => exact ⟨a, rfl, h⟩
@[irreducible] noncomputable def okD {α : Type} {P : α -> Prop} (o : Option (Subtype P)) (f : α -> Bool) : Bool := match o with
 | some a => f a.1
 | none => false
theorem o8 {α : Type} {P : α -> Prop} {o : Option (Subtype P)} {f : α -> Bool} (h : okD o f = true) : ∃ a, P a ∧ f a = true := by
 unfold okD at h
 cases o with
 | none => cases h
 | some a => exact ⟨a.1, a.2, h⟩
noncomputable def isLoc (T : Tx) (i : Nat) (y : Str) : Bool := okO (getL T.names i) fun x => zQ x y && !zQ y "__debug__"
noncomputable def s0 (T : Tx) (i : Nat) (y : Str) : Bool := isLoc T i y && decide (T.sc.names.lookup y = some .local)
noncomputable def isGlob (T : Tx) (y : Str) : Bool := decide (T.sc.names.lookup y = some .globalImplicit) && !zQ y "__debug__"
noncomputable def isN {α : Type} : Option α -> Bool
 | none => true
 | some _ => false
noncomputable def vwNone (u : Value) : Option {_p : Unit // u = .none} := if h : u.ctorIdx = 0 then PySem.Value.none.elim u h (some ⟨(), rfl⟩) else none
noncomputable def vwBool (u : Value) : Option {b : Bool // u = .bool b} := if h : u.ctorIdx = 3 then PySem.Value.bool.elim u h (fun b => some ⟨b, rfl⟩) else none
noncomputable def vwInt (u : Value) : Option {p : Int × Tok // u = .int p.1 p.2} := if h : u.ctorIdx = 4 then PySem.Value.int.elim u h (fun i t => some ⟨(i, t), rfl⟩) else none
noncomputable def vwStr (u : Value) : Option {p : Str × Tok // u = .str p.1 p.2} := if h : u.ctorIdx = 6 then PySem.Value.str.elim u h (fun i t => some ⟨(i, t), rfl⟩) else none
noncomputable def vwRef (u : Value) : Option {a : Addr // u = .ref a} := if h : u.ctorIdx = 10 then PySem.Value.ref.elim u h (fun a => some ⟨a, rfl⟩) else none
noncomputable def vwTup (K : Frag) (a : Addr) : Option {vs : List Value // ∃ arr ep, K.lookup a = some ⟨.type "tuple", none, .seq arr ep, #[]⟩ ∧ arr.toList = vs} := match K.lookup a with
 | some ⟨.type t, none, .seq vs ep, sl⟩ => if q : t = "tuple" ∧ sl.size = 0 then some ⟨vs.toList, vs, ep, by
   obtain ⟨q1, q2⟩ := q
   subst q1
   obtain rfl := Array.eq_empty_of_size_eq_zero q2
   rfl, rfl⟩ else none
 | _ => none
mutual
noncomputable def vMatch (K : Frag) : V -> Value -> Bool
 | .none, u => okD (vwNone u) fun _ => true
 | .bool a, u => okD (vwBool u) fun b => a == b
 | .int i, u => okD (vwInt u) fun p => decide (i = p.1)
 | .str x, u => okD (vwStr u) fun p => zQ x p.1
 | .top v, u => okD (vwRef v) fun a => okD (vwRef u) fun b => decide (a = b)
 | .tup xs, u => okD (vwRef u) fun a => okD (vwTup K a) fun vs => vMatchs K xs vs
 | .lst _, _ => false
 | .obj .., _ => false
 | .own _, _ => false
noncomputable def vMatchs (K : Frag) : List V -> List Value -> Bool
 | [], [] => true
 | x :: xs, u :: us => vMatch K x u && vMatchs K xs us
 | _, _ => false
end
noncomputable def gIs (T : Tx) (y : Str) (p : Value -> Bool) : Bool := isGlob T y && okO (nsIn T.K mainGlobals y) fun u => okO u p
noncomputable def bIs (T : Tx) (y : Str) (x : String) : Bool := isGlob T y && zQ y (Str.ofString x) && okO (nsIn T.K mainGlobals y) isN
noncomputable def opO : Bop -> Operator
 | .add => .Add | .sub => .Sub | .mul => .Mult | .fdiv => .FloorDiv | .mod => .Mod | .pow => .Pow | .and => .BitAnd | .or => .BitOr | .xor => .BitXor | .shl => .LShift | .shr => .RShift
noncomputable def bopIs (b : Bop) (o : Operator) : Bool := decide (o = opO b)
noncomputable def cmpO : Cop -> CmpOp
 | .eq => .Eq | .ne => .NotEq | .lt => .Lt | .le => .LtE | .gt => .Gt | .ge => .GtE | .is => .Is | .isNot => .IsNot | .isIn => .In | .notIn => .NotIn
noncomputable def copIs (b : Cop) (o : CmpOp) : Bool := decide (o = cmpO b)
noncomputable def nst (e : PySem.Expr) : Bool := !Nat.beq e.ctorIdx 22
noncomputable def conStr (e : PE) : Bool := if h : e.ctorIdx = 1 then PE.con.elim (motive_1 := fun _ => Bool) e h (fun v => Nat.beq v.ctorIdx 3) else false
noncomputable def z4 (e : PySem.Expr) : Bool := !(Nat.beq e.ctorIdx 8 || Nat.beq e.ctorIdx 9 || Nat.beq e.ctorIdx 10)
noncomputable def notSet (e : PySem.Expr) : Bool := !Nat.beq e.ctorIdx 7
noncomputable def capsAre (T : Tx) : List Nat -> List Str -> Bool
 | [], [] => true
 | i :: is, x :: xs => okO (getL T.names i) (zQ x) && decide (T.sc.names.lookup x = some .cell) && capsAre T is xs
 | _, _ => false
noncomputable def isFree (p : Str × NameKind) : Bool := decide (p.2 = .free)
noncomputable def d2 {α : Type} (l : List α) : Option {u : α × α × List α // l = u.1 :: u.2.1 :: u.2.2} := match l with
 | x :: y :: r => some ⟨(x, y, r), rfl⟩
 | _ => none
noncomputable def compTab (T : Tx) (caps : List Nat) (x : Str) (sc : Scope) : Bool := okD (d2 sc.names) (fun u =>
   decide (u.1.2 = .local) && decide (u.2.1.2 = .local) && zQ u.1.1 ".0" && zQ x u.2.1.1 && u.2.2.all (fun p => decide (p.2 = .free) || decide (p.2 = .globalImplicit)) && capsAre T caps ((u.2.2.filter isFree).map (·.1)) && decide (((".0" : Str) :: x :: u.2.2.map (·.1)).Nodup)) && decide (sc.kind = .function)
noncomputable def w7 (x : Str) (sc : Scope) : List Str := x :: (sc.names.filter isFree).map (·.1)
noncomputable def asgOk (y : Str) (yp : Pos) (e : PySem.Expr) : Bool := if h : e.ctorIdx = 8 then PySem.Expr.ListComp.elim (motive_1 := fun _ => Bool) e h (fun _ _ sc p => decide (yp.line = p.line) && !(sc.names.any fun u => u.1 == y && (u.2 == .local || u.2 == .cell))) else !(Nat.beq e.ctorIdx 9 || Nat.beq e.ctorIdx 10)
noncomputable def noCall0 (e : PySem.Expr) : Bool := if h : e.ctorIdx = 16 then PySem.Expr.Call.elim (motive_1 := fun _ => Bool) e h (fun f as kw _ => !(Nat.beq f.ctorIdx 23 && as.isEmpty && kw.isEmpty)) else true
noncomputable def isCall (e : PySem.Expr) : Bool := Nat.beq e.ctorIdx 16
theorem ct {c : Prop} [Decidable c] {a : c -> Bool} (h : (if h : c then a h else false) = true) : c := by
 by_cases q : c
 ·exact q
 ·rw [dif_neg q] at h; cases h
noncomputable def qName (e : PySem.Expr) (f : Str -> Pos -> Bool) : Bool := if h : e.ctorIdx = 23 then PySem.Expr.Name.elim (motive_1 := fun _ => Bool) e h f else false
theorem qName_i {e : PySem.Expr} {f : Str -> Pos -> Bool} (h : qName e f = true) : e.ctorIdx = 23 := ct h
theorem qName_e {e : PySem.Expr} {f : Str -> Pos -> Bool} {P : PySem.Expr -> Prop} (h : qName e f = true) (k : ∀ a b, f a b = true -> P (.Name a b)) : P e := PySem.Expr.Name.elim (motive_1 := fun e => qName e f = true -> P e) e (ct h) k h
noncomputable def qCst (e : PySem.Expr) (f : Const -> Nat -> Pos -> Bool) : Bool := if h : e.ctorIdx = 19 then PySem.Expr.Constant.elim (motive_1 := fun _ => Bool) e h f else false
theorem qCst_i {e : PySem.Expr} {f : Const -> Nat -> Pos -> Bool} (h : qCst e f = true) : e.ctorIdx = 19 := ct h
theorem qCst_e {e : PySem.Expr} {f : Const -> Nat -> Pos -> Bool} {P : PySem.Expr -> Prop} (h : qCst e f = true) (k : ∀ a b c, f a b c = true -> P (.Constant a b c)) : P e := PySem.Expr.Constant.elim (motive_1 := fun e => qCst e f = true -> P e) e (ct h) k h
noncomputable def qUn (e : PySem.Expr) (f : UnaryOp -> PySem.Expr -> Pos -> Bool) : Bool := if h : e.ctorIdx = 3 then PySem.Expr.UnaryOp.elim (motive_1 := fun _ => Bool) e h f else false
theorem qUn_i {e : PySem.Expr} {f : UnaryOp -> PySem.Expr -> Pos -> Bool} (h : qUn e f = true) : e.ctorIdx = 3 := ct h
theorem qUn_e {e : PySem.Expr} {f : UnaryOp -> PySem.Expr -> Pos -> Bool} {P : PySem.Expr -> Prop} (h : qUn e f = true) (k : ∀ a b c, f a b c = true -> P (.UnaryOp a b c)) : P e := PySem.Expr.UnaryOp.elim (motive_1 := fun e => qUn e f = true -> P e) e (ct h) k h
noncomputable def qBool (e : PySem.Expr) (f : PySem.BoolOp -> List PySem.Expr -> Pos -> Bool) : Bool := if h : e.ctorIdx = 0 then PySem.Expr.BoolOp.elim (motive_1 := fun _ => Bool) e h f else false
theorem qBool_i {e : PySem.Expr} {f : PySem.BoolOp -> List PySem.Expr -> Pos -> Bool} (h : qBool e f = true) : e.ctorIdx = 0 := ct h
theorem qBool_e {e : PySem.Expr} {f : PySem.BoolOp -> List PySem.Expr -> Pos -> Bool} {P : PySem.Expr -> Prop} (h : qBool e f = true) (k : ∀ a b c, f a b c = true -> P (.BoolOp a b c)) : P e := PySem.Expr.BoolOp.elim (motive_1 := fun e => qBool e f = true -> P e) e (ct h) k h
noncomputable def qBin (e : PySem.Expr) (f : PySem.Expr -> Operator -> PySem.Expr -> Pos -> Bool) : Bool := if h : e.ctorIdx = 2 then PySem.Expr.BinOp.elim (motive_1 := fun _ => Bool) e h f else false
theorem qBin_i {e : PySem.Expr} {f : PySem.Expr -> Operator -> PySem.Expr -> Pos -> Bool} (h : qBin e f = true) : e.ctorIdx = 2 := ct h
theorem qBin_e {e : PySem.Expr} {f : PySem.Expr -> Operator -> PySem.Expr -> Pos -> Bool} {P : PySem.Expr -> Prop} (h : qBin e f = true) (k : ∀ a b c d, f a b c d = true -> P (.BinOp a b c d)) : P e := PySem.Expr.BinOp.elim (motive_1 := fun e => qBin e f = true -> P e) e (ct h) k h
noncomputable def qCmp (e : PySem.Expr) (f : PySem.Expr -> List CmpOp -> List PySem.Expr -> Pos -> Bool) : Bool := if h : e.ctorIdx = 15 then PySem.Expr.Compare.elim (motive_1 := fun _ => Bool) e h f else false
theorem qCmp_i {e : PySem.Expr} {f : PySem.Expr -> List CmpOp -> List PySem.Expr -> Pos -> Bool} (h : qCmp e f = true) : e.ctorIdx = 15 := ct h
theorem qCmp_e {e : PySem.Expr} {f : PySem.Expr -> List CmpOp -> List PySem.Expr -> Pos -> Bool} {P : PySem.Expr -> Prop} (h : qCmp e f = true) (k : ∀ a b c d, f a b c d = true -> P (.Compare a b c d)) : P e := PySem.Expr.Compare.elim (motive_1 := fun e => qCmp e f = true -> P e) e (ct h) k h
noncomputable def yZ (e : PySem.Expr) (f : PySem.Expr -> List PySem.Expr -> List PySem.Keyword -> Pos -> Bool) : Bool := if h : e.ctorIdx = 16 then PySem.Expr.Call.elim (motive_1 := fun _ => Bool) e h f else false
theorem n0 {e : PySem.Expr} {f : PySem.Expr -> List PySem.Expr -> List PySem.Keyword -> Pos -> Bool} (h : yZ e f = true) : e.ctorIdx = 16 := ct h
theorem qCall_e {e : PySem.Expr} {f : PySem.Expr -> List PySem.Expr -> List PySem.Keyword -> Pos -> Bool} {P : PySem.Expr -> Prop} (h : yZ e f = true) (k : ∀ a b c d, f a b c d = true -> P (.Call a b c d)) : P e := PySem.Expr.Call.elim (motive_1 := fun e => yZ e f = true -> P e) e (ct h) k h
noncomputable def qAttr (e : PySem.Expr) (f : PySem.Expr -> Str -> Pos -> Bool) : Bool := if h : e.ctorIdx = 20 then PySem.Expr.Attribute.elim (motive_1 := fun _ => Bool) e h f else false
theorem qAttr_i {e : PySem.Expr} {f : PySem.Expr -> Str -> Pos -> Bool} (h : qAttr e f = true) : e.ctorIdx = 20 := ct h
theorem qAttr_e {e : PySem.Expr} {f : PySem.Expr -> Str -> Pos -> Bool} {P : PySem.Expr -> Prop} (h : qAttr e f = true) (k : ∀ a b c, f a b c = true -> P (.Attribute a b c)) : P e := PySem.Expr.Attribute.elim (motive_1 := fun e => qAttr e f = true -> P e) e (ct h) k h
noncomputable def qSub (e : PySem.Expr) (f : PySem.Expr -> PySem.Expr -> Pos -> Bool) : Bool := if h : e.ctorIdx = 21 then PySem.Expr.Subscript.elim (motive_1 := fun _ => Bool) e h f else false
theorem qSub_i {e : PySem.Expr} {f : PySem.Expr -> PySem.Expr -> Pos -> Bool} (h : qSub e f = true) : e.ctorIdx = 21 := ct h
theorem qSub_e {e : PySem.Expr} {f : PySem.Expr -> PySem.Expr -> Pos -> Bool} {P : PySem.Expr -> Prop} (h : qSub e f = true) (k : ∀ a b c, f a b c = true -> P (.Subscript a b c)) : P e := PySem.Expr.Subscript.elim (motive_1 := fun e => qSub e f = true -> P e) e (ct h) k h
noncomputable def qSl (e : PySem.Expr) (f : Option PySem.Expr -> Option PySem.Expr -> Option PySem.Expr -> Pos -> Bool) : Bool := if h : e.ctorIdx = 26 then PySem.Expr.Slice.elim (motive_1 := fun _ => Bool) e h f else false
theorem qSl_i {e : PySem.Expr} {f : Option PySem.Expr -> Option PySem.Expr -> Option PySem.Expr -> Pos -> Bool} (h : qSl e f = true) : e.ctorIdx = 26 := ct h
theorem qSl_e {e : PySem.Expr} {f : Option PySem.Expr -> Option PySem.Expr -> Option PySem.Expr -> Pos -> Bool} {P : PySem.Expr -> Prop} (h : qSl e f = true) (k : ∀ a b c d, f a b c d = true -> P (.Slice a b c d)) : P e := PySem.Expr.Slice.elim (motive_1 := fun e => qSl e f = true -> P e) e (ct h) k h
noncomputable def qTup (e : PySem.Expr) (f : List PySem.Expr -> Nat -> Pos -> Bool) : Bool := if h : e.ctorIdx = 25 then PySem.Expr.Tuple.elim (motive_1 := fun _ => Bool) e h f else false
theorem qTup_i {e : PySem.Expr} {f : List PySem.Expr -> Nat -> Pos -> Bool} (h : qTup e f = true) : e.ctorIdx = 25 := ct h
theorem qTup_e {e : PySem.Expr} {f : List PySem.Expr -> Nat -> Pos -> Bool} {P : PySem.Expr -> Prop} (h : qTup e f = true) (k : ∀ a b c, f a b c = true -> P (.Tuple a b c)) : P e := PySem.Expr.Tuple.elim (motive_1 := fun e => qTup e f = true -> P e) e (ct h) k h
noncomputable def qLst (e : PySem.Expr) (f : List PySem.Expr -> Pos -> Bool) : Bool := if h : e.ctorIdx = 24 then PySem.Expr.List.elim (motive_1 := fun _ => Bool) e h f else false
theorem qLst_i {e : PySem.Expr} {f : List PySem.Expr -> Pos -> Bool} (h : qLst e f = true) : e.ctorIdx = 24 := ct h
theorem qLst_e {e : PySem.Expr} {f : List PySem.Expr -> Pos -> Bool} {P : PySem.Expr -> Prop} (h : qLst e f = true) (k : ∀ a b, f a b = true -> P (.List a b)) : P e := PySem.Expr.List.elim (motive_1 := fun e => qLst e f = true -> P e) e (ct h) k h
noncomputable def qDict (e : PySem.Expr) (f : List (Option PySem.Expr) -> List PySem.Expr -> Pos -> Bool) : Bool := if h : e.ctorIdx = 6 then PySem.Expr.Dict.elim (motive_1 := fun _ => Bool) e h f else false
theorem qDict_i {e : PySem.Expr} {f : List (Option PySem.Expr) -> List PySem.Expr -> Pos -> Bool} (h : qDict e f = true) : e.ctorIdx = 6 := ct h
theorem qDict_e {e : PySem.Expr} {f : List (Option PySem.Expr) -> List PySem.Expr -> Pos -> Bool} {P : PySem.Expr -> Prop} (h : qDict e f = true) (k : ∀ a b c, f a b c = true -> P (.Dict a b c)) : P e := PySem.Expr.Dict.elim (motive_1 := fun e => qDict e f = true -> P e) e (ct h) k h
noncomputable def qComp (e : PySem.Expr) (f : PySem.Expr -> List PySem.Comprehension -> Scope -> Pos -> Bool) : Bool := if h : e.ctorIdx = 8 then PySem.Expr.ListComp.elim (motive_1 := fun _ => Bool) e h f else false
theorem qComp_i {e : PySem.Expr} {f : PySem.Expr -> List PySem.Comprehension -> Scope -> Pos -> Bool} (h : qComp e f = true) : e.ctorIdx = 8 := ct h
theorem qComp_e {e : PySem.Expr} {f : PySem.Expr -> List PySem.Comprehension -> Scope -> Pos -> Bool} {P : PySem.Expr -> Prop} (h : qComp e f = true) (k : ∀ a b c d, f a b c d = true -> P (.ListComp a b c d)) : P e := PySem.Expr.ListComp.elim (motive_1 := fun e => qComp e f = true -> P e) e (ct h) k h
noncomputable def qAsg (e : Stmt) (f : List PySem.Expr -> PySem.Expr -> Pos -> Bool) : Bool := if h : e.ctorIdx = 5 then PySem.Stmt.Assign.elim (motive_2 := fun _ => Bool) e h f else false
theorem qAsg_e {e : Stmt} {f : List PySem.Expr -> PySem.Expr -> Pos -> Bool} {P : Stmt -> Prop} (h : qAsg e f = true) (k : ∀ a b c, f a b c = true -> P (.Assign a b c)) : P e := PySem.Stmt.Assign.elim (motive_2 := fun e => qAsg e f = true -> P e) e (ct h) k h
noncomputable def qAug (e : Stmt) (f : PySem.Expr -> Operator -> PySem.Expr -> Pos -> Bool) : Bool := if h : e.ctorIdx = 7 then PySem.Stmt.AugAssign.elim (motive_2 := fun _ => Bool) e h f else false
theorem qAug_e {e : Stmt} {f : PySem.Expr -> Operator -> PySem.Expr -> Pos -> Bool} {P : Stmt -> Prop} (h : qAug e f = true) (k : ∀ a b c d, f a b c d = true -> P (.AugAssign a b c d)) : P e := PySem.Stmt.AugAssign.elim (motive_2 := fun e => qAug e f = true -> P e) e (ct h) k h
noncomputable def qEx (e : Stmt) (f : PySem.Expr -> Pos -> Bool) : Bool := if h : e.ctorIdx = 24 then PySem.Stmt.Expr.elim (motive_2 := fun _ => Bool) e h f else false
theorem qEx_e {e : Stmt} {f : PySem.Expr -> Pos -> Bool} {P : Stmt -> Prop} (h : qEx e f = true) (k : ∀ a b, f a b = true -> P (.Expr a b)) : P e := PySem.Stmt.Expr.elim (motive_2 := fun e => qEx e f = true -> P e) e (ct h) k h
noncomputable def qRet (e : Stmt) (f : Option PySem.Expr -> Pos -> Bool) : Bool := if h : e.ctorIdx = 3 then PySem.Stmt.Return.elim (motive_2 := fun _ => Bool) e h f else false
theorem qRet_e {e : Stmt} {f : Option PySem.Expr -> Pos -> Bool} {P : Stmt -> Prop} (h : qRet e f = true) (k : ∀ a b, f a b = true -> P (.Return a b)) : P e := PySem.Stmt.Return.elim (motive_2 := fun e => qRet e f = true -> P e) e (ct h) k h
noncomputable def qIf (e : Stmt) (f : PySem.Expr -> List Stmt -> List Stmt -> Pos -> Bool) : Bool := if h : e.ctorIdx = 12 then PySem.Stmt.If.elim (motive_2 := fun _ => Bool) e h f else false
theorem qIf_e {e : Stmt} {f : PySem.Expr -> List Stmt -> List Stmt -> Pos -> Bool} {P : Stmt -> Prop} (h : qIf e f = true) (k : ∀ a b c d, f a b c d = true -> P (.If a b c d)) : P e := PySem.Stmt.If.elim (motive_2 := fun e => qIf e f = true -> P e) e (ct h) k h
noncomputable def qWhl (e : Stmt) (f : PySem.Expr -> List Stmt -> List Stmt -> Pos -> Bool) : Bool := if h : e.ctorIdx = 11 then PySem.Stmt.While.elim (motive_2 := fun _ => Bool) e h f else false
theorem qWhl_e {e : Stmt} {f : PySem.Expr -> List Stmt -> List Stmt -> Pos -> Bool} {P : Stmt -> Prop} (h : qWhl e f = true) (k : ∀ a b c d, f a b c d = true -> P (.While a b c d)) : P e := PySem.Stmt.While.elim (motive_2 := fun e => qWhl e f = true -> P e) e (ct h) k h
noncomputable def qFor (e : Stmt) (f : PySem.Expr -> PySem.Expr -> List Stmt -> List Stmt -> Pos -> Bool) : Bool := if h : e.ctorIdx = 9 then PySem.Stmt.For.elim (motive_2 := fun _ => Bool) e h f else false
theorem qFor_e {e : Stmt} {f : PySem.Expr -> PySem.Expr -> List Stmt -> List Stmt -> Pos -> Bool} {P : Stmt -> Prop} (h : qFor e f = true) (k : ∀ a b c d g, f a b c d g = true -> P (.For a b c d g)) : P e := PySem.Stmt.For.elim (motive_2 := fun e => qFor e f = true -> P e) e (ct h) k h
noncomputable def qDel (e : Stmt) (f : List PySem.Expr -> Pos -> Bool) : Bool := if h : e.ctorIdx = 4 then PySem.Stmt.Delete.elim (motive_2 := fun _ => Bool) e h f else false
theorem qDel_e {e : Stmt} {f : List PySem.Expr -> Pos -> Bool} {P : Stmt -> Prop} (h : qDel e f = true) (k : ∀ a b, f a b = true -> P (.Delete a b)) : P e := PySem.Stmt.Delete.elim (motive_2 := fun e => qDel e f = true -> P e) e (ct h) k h
noncomputable def qPass (e : Stmt) (f : Pos -> Bool) : Bool := if h : e.ctorIdx = 25 then PySem.Stmt.Pass.elim (motive_2 := fun _ => Bool) e h f else false
theorem qPass_e {e : Stmt} {f : Pos -> Bool} {P : Stmt -> Prop} (h : qPass e f = true) (k : ∀ a, f a = true -> P (.Pass a)) : P e := PySem.Stmt.Pass.elim (motive_2 := fun e => qPass e f = true -> P e) e (ct h) k h
noncomputable def qInt (e : Const) (f : Int -> Bool) : Bool := if h : e.ctorIdx = 2 then PySem.Const.int.elim (motive := fun _ => Bool) e h f else false
@[elab_as_elim] theorem qInt_e {e : Const} {f : Int -> Bool} {P : Const -> Prop} (h : qInt e f = true) (k : ∀ a, f a = true -> P (.int a)) : P e := PySem.Const.int.elim (motive := fun e => qInt e f = true -> P e) e (ct h) k h
noncomputable def qCN (e : Const) : Bool := if h : e.ctorIdx = 0 then PySem.Const.none.elim (motive := fun _ => Bool) e h true else false
@[elab_as_elim] theorem qCN_e {e : Const} {P : Const -> Prop} (h : qCN e = true) (k : P .none) : P e := PySem.Const.none.elim (motive := P) e (ct h) k
noncomputable def qCB (e : Const) (f : Bool -> Bool) : Bool := if h : e.ctorIdx = 1 then PySem.Const.bool.elim (motive := fun _ => Bool) e h f else false
@[elab_as_elim] theorem qCB_e {e : Const} {f : Bool -> Bool} {P : Const -> Prop} (h : qCB e f = true) (k : ∀ a, f a = true -> P (.bool a)) : P e := PySem.Const.bool.elim (motive := fun e => qCB e f = true -> P e) e (ct h) k h
noncomputable def qCS (e : Const) (f : Str -> Bool) : Bool := if h : e.ctorIdx = 5 then PySem.Const.str.elim (motive := fun _ => Bool) e h f else false
@[elab_as_elim] theorem qCS_e {e : Const} {f : Str -> Bool} {P : Const -> Prop} (h : qCS e f = true) (k : ∀ a, f a = true -> P (.str a)) : P e := PySem.Const.str.elim (motive := fun e => qCS e f = true -> P e) e (ct h) k h
noncomputable def cMatch (v : V) (c : Const) : Bool := match v with
 | .none => qCN c
 | .bool a => qCB c fun b => a == b
 | .int i => qInt c fun j => decide (i = j)
 | .str x => qCS c (zQ x)
 | _ => false
noncomputable def notSl (e : PySem.Expr) : Bool := !Nat.beq e.ctorIdx 26
noncomputable def qOne {α : Type} (l : List α) (f : α -> Bool) : Bool := match l with
 | [x] => f x
 | _ => false
theorem mZ {α : Type} {l : List α} {f : α -> Bool} {P : List α -> Prop} (h : qOne l f = true) (k : ∀ a, f a = true -> P [a]) : P l := by
 rcases l with _ | ⟨x, _ | ⟨y, l⟩⟩
 ·cases h
 ·exact k _ h
 ·cases h
noncomputable def qGen (g : PySem.Comprehension) (f : PySem.Expr -> PySem.Expr -> Bool) : Bool := f g.target g.iter && g.ifs.isEmpty && decide (g.is_async = 0)
theorem aL {a b : Bool} (h : (a && b) = true) : a = true := (Bool.and_eq_true_iff.mp h).1
theorem aR {a b : Bool} (h : (a && b) = true) : b = true := (Bool.and_eq_true_iff.mp h).2
theorem emp_e {α : Type} {l : List α} {P : List α -> Prop} (h : l.isEmpty = true) (k : P []) : P l := by
 cases l
 ·exact k
 ·cases h
theorem none_e {α : Type} {l : Option α} {P : Option α -> Prop} (h : l.isNone = true) (k : P none) : P l := by
 cases l
 ·exact k
 ·cases h
theorem dec_e {α : Type} {a b : α} [Decidable (a = b)] {P : α -> Prop} (h : decide (a = b) = true) (k : P b) : P a := of_decide_eq_true h ▸ k
theorem okO_e {α : Type} {o : Option α} {f : α -> Bool} {P : Option α -> Prop} (h : okO o f = true) (k : ∀ a, f a = true -> P (some a)) : P o := by
 obtain ⟨a, q, h'⟩ := okO_iff h
 rw [q]
 exact k a h'
theorem same_e {x y : Str} {P : Str -> Prop} (h : zQ x y = true) (k : P x) : P y := PySem.W.Fast.sEq_iff.mp h ▸ k
theorem qGen_e {g : PySem.Comprehension} {f : PySem.Expr -> PySem.Expr -> Bool} {P : PySem.Comprehension -> Prop} (h : qGen g f = true) (k : ∀ a b, f a b = true -> P ⟨a, b, [], 0⟩) : P g := by
 obtain ⟨a, b, l, n⟩ := g
 exact emp_e (P := fun l => P ⟨a, b, l, n⟩) (aR (aL h)) (dec_e (P := fun n => P ⟨a, b, [], n⟩) (aR h) (k a b (aL (aL h))))
noncomputable def isUSub : UnaryOp -> Bool
 | .USub => true
 | _ => false
noncomputable def isUNot : UnaryOp -> Bool
 | .Not => true
 | _ => false
noncomputable def isAnd : PySem.BoolOp -> Bool
 | .And => true
 | .Or => false
noncomputable def noKw (l : List PySem.Keyword) : Bool := match l with
 | [] => true
 | _ => false
noncomputable def nIs (T : Tx) (e : PySem.Expr) (kw : List PySem.Keyword) (p : Str -> Bool) : Bool := qName e (fun y _ => p y) && noKw kw
mutual
noncomputable def okE (T : Tx) : PE -> PySem.Expr -> Bool
 | .bad, _ => true
 | .cmp2 .., _ => true
 | .ite .., _ => true
 | .loc i, e => qName e fun y _ => isLoc T i y
 | .con v, e => qCst e fun k _ _ => cMatch v k
 | .glob v, e => qName e fun y _ => gIs T y (vMatch T.K v)
 | .neg a, e => qUn e fun o l _ => isUSub o && okE T a l
 | .not a, e => qUn e fun o l _ => isUNot o && okE T a l
 | .and l, e => qBool e fun o es _ => isAnd o && k5 T l es
 | .or l, e => qBool e fun o es _ => !isAnd o && k5 T l es
 | .bin op a b, e => qBin e fun l o r _ => bopIs op o && okE T a l && okE T b r
 | .cmp op a b, e => qCmp e fun l os rs _ => qOne os fun o => qOne rs fun r => copIs op o && !behindInMarks o r && okE T a l && okE T b r
 | .call f as, e => yZ e fun g es kw _ => nIs T g kw (fun y => gIs T y fun u => decide (u = .ref f)) && keepIn T.K (.ref f) && k5 T as es
 | .new f as, e => yZ e fun g es kw _ => nIs T g kw (fun y => gIs T y fun u => decide (u = .ref f)) && keepIn T.K (.ref f) && k5 T as es
 | .meth o m as, e => yZ e fun g es kw q => qAttr g fun x y p => noKw kw && zQ (d9 m) y && noCall0 x && decide (p.endLine = q.line) && Nat.ble as.length 20 && okE T o x && k5 T as es
 | .len a, e => yZ e fun g es kw _ => qOne es fun l => nIs T g kw (fun y => bIs T y "len") && okE T a l
 | .ord a, e => yZ e fun g es kw _ => qOne es fun l => nIs T g kw (fun y => bIs T y "ord") && okE T a l
 | .strOf a, e => yZ e fun g es kw _ => qOne es fun l => nIs T g kw (fun y => bIs T y "str") && okE T a l
 | .tupOf a, e => yZ e fun g es kw _ => qOne es fun l => nIs T g kw (fun y => bIs T y "tuple") && okE T a l
 | .range as, e => yZ e fun g es kw _ => nIs T g kw (fun y => bIs T y "range") && k5 T as es
 | .attr o m, e => qAttr e fun x y _ => zQ (d9 m) y && noCall0 x && okE T o x
 | .copy a, e => qSub e fun x i _ => qSl i fun s t u _ => s.isNone && t.isNone && u.isNone && okE T a x
 | .slTo a n, e => qSub e fun x i _ => qSl i fun s t u _ => s.isNone && u.isNone && okO t (fun c => qCst c fun k _ _ => qInt k fun i => decide (i = n)) && okE T a x
 | .rev a, e => qSub e fun x i _ => qSl i fun s t u _ => s.isNone && t.isNone && okO u (fun c => qUn c fun o d _ => isUSub o && qCst d fun k _ _ => qInt k fun i => decide (i = 1)) && okE T a x
 | .sub a k, e => qSub e fun x i _ => notSl i && okE T a x && okE T k i
 | .tup l, e => qTup e fun es _ _ => Nat.ble l.length 1000 && k5 T l es
 | .list l, e => qLst e fun es _ => Nat.ble l.length 1000 && k5 T l es
 | .dict ks vs, e => qDict e fun es fs _ => ks.all conStr && Nat.ble ks.length 15 && decide (ks.length = vs.length) && okOs T ks es && k5 T vs fs
 | .comp el caps it, e => qComp e fun elt gs sc _ => qOne gs fun g => qGen g fun t i => qName t fun x _ => compTab T caps x sc && okE ⟨T.K, sc, w7 x sc⟩ el elt && notSet i && okE T it i
noncomputable def k5 (T : Tx) : List PE -> List PySem.Expr -> Bool
 | [], [] => true
 | a :: as, e :: es => nst e && okE T a e && k5 T as es
 | _, _ => false
noncomputable def okOs (T : Tx) : List PE -> List (Option PySem.Expr) -> Bool
 | [], [] => true
 | a :: as, some e :: es => okE T a e && okOs T as es
 | _, _ => false
end
noncomputable def tgs (T : Tx) : List Nat -> List PySem.Expr -> Bool
 | [], [] => true
 | i :: is, t :: es => qName t (fun y _ => s0 T i y) && tgs T is es
 | _, _ => false
mutual
noncomputable def okS (T : Tx) : PS -> Stmt -> Bool
 | .bad, _ => true
 | .augL .., _ => true
 | .asg i e, s => qAsg s fun ts v _ => qOne ts fun t => qName t fun y yp => s0 T i y && asgOk y yp v && decide (v.pos.line = yp.line || z4 v) && okE T e v
 | .asgT is e, s => qAsg s fun ts v _ => qOne ts fun t => qTup t fun us _ _ => tgs T is us && isCall v && okE T e v
 | .setA o m e, s => qAsg s fun ts v _ => qOne ts fun t => qAttr t fun a y _ => zQ (d9 m) y && z4 v && okE T o a && okE T e v
 | .setI o k e, s => qAsg s fun ts v _ => qOne ts fun t => qSub t fun a i _ => notSl i && z4 v && okE T o a && okE T k i && okE T e v
 | .augA o m op e, s => qAug s fun t o' v _ => qAttr t fun a y _ => zQ (d9 m) y && bopIs op o' && okE T o a && okE T e v
 | .ex e, s => qEx s fun v _ => z4 v && okE T e v
 | .ret e, s => qRet s fun o _ => okO o fun v => okE T e v
 | .retN, s => qRet s fun o _ => o.isNone
 | .cond c a b, s => qIf s fun t p q _ => okE T c t && okSs T a p && okSs T b q
 | .whl c b, s => qWhl s fun t p q _ => q.isEmpty && okE T c t && okSs T b p
 | .for_ i it b, s => qFor s fun t v p q _ => q.isEmpty && qName t fun y _ => s0 T i y && notSet v && okE T it v && okSs T b p
 | .forT is it b, s => qFor s fun t v p q _ => q.isEmpty && qTup t fun ts _ _ => tgs T is ts && notSet v && okE T it v && okSs T b p
 | .delAll a, s => qDel s fun l _ => qOne l fun t => qSub t fun x i _ => qSl i fun s t u _ => s.isNone && t.isNone && u.isNone && okE T a x
 | .pass, s => qPass s fun _ => true
noncomputable def okSs (T : Tx) : List PS -> List Stmt -> Bool
 | [], [] => true
 | a :: as, e :: es => okS T a e && okSs T as es
 | _, _ => false
end
noncomputable def vwFn (K : Frag) (f : Nat) : Option {u : Option Addr × FuncData × Array (Option Value) // K.lookup f = some ⟨.type "function", u.1, .func u.2.1, u.2.2⟩} := match K.lookup f with
 | some ⟨.type t, od, .func fd, sl⟩ => if q : t = "function" then some ⟨(od, fd, sl), by subst q; rfl⟩ else none
 | _ => none
noncomputable def dStm (e : FuncBody) : Option {b : List Stmt // e = .stmts b} := match e with
 | .stmts b => some ⟨b, rfl⟩
 | _ => none
noncomputable def fnOk (K : Frag) (f : Nat) (m : Nat) (ps : List PS) (names : List Str) : Bool := okD (vwFn K f) fun u => let fd := u.2.1; okD (dStm fd.body) (fun b => okSs ⟨K, fd.scope, names⟩ ps b) && decide (names.length = m) && decide (G.ar f = some fd.params.args.length) && codeIn K fd.code fd.qualname && decide (fd.globals = mainGlobals) && decide (fd.builtins = builtinsNs) && fd.closure.isEmpty && !fd.scope.isGenerator && !fd.scope.isCoroutine && decide (fd.scope.kind = .function) && okD (vwNone fd.defaults) (fun _ => true) &&
   fd.params.posonlyargs.isEmpty && fd.params.vararg.isNone && fd.params.kwonlyargs.isEmpty && fd.params.kwarg.isNone &&
   decide (fd.params.args.map (·.arg) = names.take fd.params.args.length) && names.all (fun x => decide (fd.scope.names.lookup x = some .local) || decide (fd.scope.names.lookup x = some .cell)) && decide names.Nodup
noncomputable def allFns (K : Frag) : Bool := bodyT.all fun x => okO (v3 x.1 locsT) fun ns => fnOk K x.1 x.2.1 x.2.2 ns
end
section
variable {e : PySem.Expr} {P : PySem.Expr -> Prop}
theorem us_e {u : UnaryOp} {P : UnaryOp -> Prop} (h : isUSub u = true) (k : P .USub) : P u := by cases u <;> first | exact k | cases h
theorem un_e {u : UnaryOp} {P : UnaryOp -> Prop} (h : isUNot u = true) (k : P .Not) : P u := by cases u <;> first | exact k | cases h
theorem and_e {u : PySem.BoolOp} {P : PySem.BoolOp -> Prop} (h : isAnd u = true) (k : P .And) : P u := by cases u <;> first | exact k | cases h
theorem or_e {u : PySem.BoolOp} {P : PySem.BoolOp -> Prop} (h : (!isAnd u) = true) (k : P .Or) : P u := by cases u <;> first | exact k | cases h
theorem noKw_e {kw : List PySem.Keyword} {P : List PySem.Keyword -> Prop} (h : noKw kw = true) (k : P []) : P kw := by
 cases kw
 ·exact k
 ·cases h
theorem nIs_e {T : Tx} {kw : List PySem.Keyword} {p : Str -> Bool} {P : PySem.Expr -> List PySem.Keyword -> Prop} (h : nIs T e kw p = true) (k : ∀ y q, p y = true -> P (.Name y q) []) : P e kw :=
 noKw_e (P := P e) (aR h) (qName_e (P := fun e => P e []) (aL h) k)
theorem bNot {a : Bool} (h : (!a) = true) : a = false := by cases a <;> first | rfl | cases h
variable {T : Tx}
@[elab_as_elim] theorem inv_con {v : V} (h : okE T (.con v) e = true) (k : ∀ c kk p, cMatch v c = true -> P (.Constant c kk p)) : P e := qCst_e h k
@[elab_as_elim] theorem inv_loc {i : Nat} (h : okE T (.loc i) e = true) (k : ∀ y p, isLoc T i y = true -> P (.Name y p)) : P e := qName_e h k
@[elab_as_elim] theorem inv_glob {v : V} (h : okE T (.glob v) e = true) (k : ∀ y p, gIs T y (vMatch T.K v) = true -> P (.Name y p)) : P e := qName_e h k
@[elab_as_elim] theorem inv_neg {a : PE} (h : okE T (.neg a) e = true) (k : ∀ l p, okE T a l = true -> P (.UnaryOp .USub l p)) : P e :=
 qUn_e h fun o l p h => us_e (P := fun o => P (.UnaryOp o l p)) (aL h) (k l p (aR h))
@[elab_as_elim] theorem inv_not {a : PE} (h : okE T (.not a) e = true) (k : ∀ l p, okE T a l = true -> P (.UnaryOp .Not l p)) : P e :=
 qUn_e h fun o l p h => un_e (P := fun o => P (.UnaryOp o l p)) (aL h) (k l p (aR h))
@[elab_as_elim] theorem inv_and {l : List PE} (h : okE T (.and l) e = true) (k : ∀ es p, k5 T l es = true -> P (.BoolOp .And es p)) : P e :=
 qBool_e h fun o l p h => and_e (P := fun o => P (.BoolOp o l p)) (aL h) (k l p (aR h))
@[elab_as_elim] theorem inv_or {l : List PE} (h : okE T (.or l) e = true) (k : ∀ es p, k5 T l es = true -> P (.BoolOp .Or es p)) : P e :=
 qBool_e h fun o l p h => or_e (P := fun o => P (.BoolOp o l p)) (aL h) (k l p (aR h))
theorem mk_and {l : List PE} {es : List PySem.Expr} {p : Pos} (h : k5 T l es = true) : okE T (.and l) (.BoolOp .And es p) = true := h
theorem mk_or {l : List PE} {es : List PySem.Expr} {p : Pos} (h : k5 T l es = true) : okE T (.or l) (.BoolOp .Or es p) = true := h
@[elab_as_elim] theorem inv_bin {op : Bop} {a b : PE} (h : okE T (.bin op a b) e = true) (k : ∀ l o r p, bopIs op o = true -> okE T a l = true -> okE T b r = true -> P (.BinOp l o r p)) : P e :=
 qBin_e h fun l o r p h => k l o r p (aL (aL h)) (aR (aL h)) (aR h)
@[elab_as_elim] theorem inv_cmp {op : Cop} {a b : PE} (h : okE T (.cmp op a b) e = true) (k : ∀ l o r p, copIs op o = true -> behindInMarks o r = false -> okE T a l = true -> okE T b r = true -> P (.Compare l [o] [r] p)) : P e :=
 qCmp_e h fun l os rs p h => mZ (P := fun os => P (.Compare l os rs p)) h fun o h => mZ (P := fun rs => P (.Compare l [o] rs p)) h fun r h => k l o r p (aL (aL (aL h))) (bNot (aR (aL (aL h)))) (aR (aL h)) (aR h)
theorem inv_cn {as : List PE} {p : Str -> Bool} {q : Bool} (h : yZ e (fun g es kw _ => nIs T g kw p && q && k5 T as es) = true) (k : ∀ y p' es r, p y = true -> q = true -> k5 T as es = true -> P (.Call (.Name y p') es [] r)) : P e :=
 qCall_e h fun g es kw r h => nIs_e (P := fun g kw => P (.Call g es kw r)) (aL (aL h)) fun y p' hy => k y p' es r hy (aR (aL h)) (aR h)
@[elab_as_elim] theorem inv_call {f : Nat} {as : List PE} (h : okE T (.call f as) e = true) (k : ∀ y p es q, gIs T y (fun u => decide (u = .ref f)) = true -> keepIn T.K (.ref f) = true -> k5 T as es = true -> P (.Call (.Name y p) es [] q)) : P e :=
 inv_cn (p := fun y => gIs T y fun u => decide (u = .ref f)) (q := keepIn T.K (.ref f)) h k
@[elab_as_elim] theorem inv_new {f : Nat} {as : List PE} (h : okE T (.new f as) e = true) (k : ∀ y p es q, gIs T y (fun u => decide (u = .ref f)) = true -> keepIn T.K (.ref f) = true -> k5 T as es = true -> P (.Call (.Name y p) es [] q)) : P e :=
 inv_cn (p := fun y => gIs T y fun u => decide (u = .ref f)) (q := keepIn T.K (.ref f)) h k
@[elab_as_elim] theorem inv_meth {o : PE} {m : Nat} {as : List PE} (h : okE T (.meth o m as) e = true) (k : ∀ x p es q, noCall0 x = true -> (p.endLine == q.line) = true -> as.length ≤ 20 -> okE T o x = true -> k5 T as es = true -> P (.Call (.Attribute x (d9 m) p) es [] q)) : P e :=
 qCall_e h fun g es kw q h => qAttr_e (P := fun g => P (.Call g es kw q)) h fun x y p h => noKw_e (P := fun kw => P (.Call (.Attribute x y p) es kw q)) (aL (aL (aL (aL (aL (aL h)))))) (same_e (P := fun y => P (.Call (.Attribute x y p) es [] q)) (aR (aL (aL (aL (aL (aL h))))))
  (k x p es q (aR (aL (aL (aL (aL h))))) (beq_iff_eq.mpr (of_decide_eq_true (aR (aL (aL (aL h)))))) (Nat.le_of_ble_eq_true (aR (aL (aL h)))) (aR (aL h)) (aR h)))
theorem inv_o1 {a : PE} {p : Str -> Bool} (h : yZ e (fun g es kw _ => qOne es fun l => nIs T g kw p && okE T a l) = true) (k : ∀ y p' l q, p y = true -> okE T a l = true -> P (.Call (.Name y p') [l] [] q)) : P e :=
 qCall_e h fun g es kw q h => mZ (P := fun es => P (.Call g es kw q)) h fun l h => nIs_e (P := fun g kw => P (.Call g [l] kw q)) (aL h) fun y p' hy => k y p' l q hy (aR h)
@[elab_as_elim] theorem inv_len {a : PE} (h : okE T (.len a) e = true) (k : ∀ y p l q, bIs T y "len" = true -> okE T a l = true -> P (.Call (.Name y p) [l] [] q)) : P e := inv_o1 (P := P) (p := fun y => bIs T y "len") h k
@[elab_as_elim] theorem inv_ord {a : PE} (h : okE T (.ord a) e = true) (k : ∀ y p l q, bIs T y "ord" = true -> okE T a l = true -> P (.Call (.Name y p) [l] [] q)) : P e := inv_o1 (P := P) (p := fun y => bIs T y "ord") h k
@[elab_as_elim] theorem inv_strOf {a : PE} (h : okE T (.strOf a) e = true) (k : ∀ y p l q, bIs T y "str" = true -> okE T a l = true -> P (.Call (.Name y p) [l] [] q)) : P e := inv_o1 (P := P) (p := fun y => bIs T y "str") h k
@[elab_as_elim] theorem inv_tupOf {a : PE} (h : okE T (.tupOf a) e = true) (k : ∀ y p l q, bIs T y "tuple" = true -> okE T a l = true -> P (.Call (.Name y p) [l] [] q)) : P e := inv_o1 (P := P) (p := fun y => bIs T y "tuple") h k
@[elab_as_elim] theorem inv_range {as : List PE} (h : okE T (.range as) e = true) (k : ∀ y p es q, bIs T y "range" = true -> k5 T as es = true -> P (.Call (.Name y p) es [] q)) : P e :=
 qCall_e h fun g es kw q h => nIs_e (P := fun g kw => P (.Call g es kw q)) (aL h) fun y p' hy => k y p' es q hy (aR h)
@[elab_as_elim] theorem inv_attr {o : PE} {m : Nat} (h : okE T (.attr o m) e = true) (k : ∀ x p, noCall0 x = true -> okE T o x = true -> P (.Attribute x (d9 m) p)) : P e :=
 qAttr_e h fun x y p h => same_e (P := fun y => P (.Attribute x y p)) (aL (aL h)) (k x p (aR (aL h)) (aR h))
@[elab_as_elim] theorem inv_sub {a b : PE} (h : okE T (.sub a b) e = true) (k : ∀ x i p, notSl i = true -> okE T a x = true -> okE T b i = true -> P (.Subscript x i p)) : P e :=
 qSub_e h fun x i p h => k x i p (aL (aL h)) (aR (aL h)) (aR h)
theorem sl0_e {a : PE} {x : PySem.Expr} (h : (qSl e fun s t u _ => s.isNone && t.isNone && u.isNone && okE T a x) = true) (k : ∀ p, okE T a x = true -> P (.Slice none none none p)) : P e :=
 qSl_e h fun s t u p h => none_e (P := fun s => P (.Slice s t u p)) (aL (aL (aL h))) (none_e (P := fun t => P (.Slice none t u p)) (aR (aL (aL h))) (none_e (P := fun u => P (.Slice none none u p)) (aR (aL h)) (k p (aR h))))
@[elab_as_elim] theorem inv_copy {a : PE} (h : okE T (.copy a) e = true) (k : ∀ x p q, okE T a x = true -> P (.Subscript x (.Slice none none none p) q)) : P e :=
 qSub_e h fun x i q h => sl0_e (P := fun i => P (.Subscript x i q)) h fun p h => k x p q h
@[elab_as_elim] theorem inv_int {i : Int} (h : (qCst e fun k _ _ => qInt k fun j => decide (j = i)) = true) (k : ∀ kk pc, P (.Constant (.int i) kk pc)) : P e :=
 qCst_e h fun c kk pc h => qInt_e (P := fun c => P (.Constant c kk pc)) h fun j h => dec_e (P := fun j => P (.Constant (.int j) kk pc)) h (k kk pc)
@[elab_as_elim] theorem inv_slTo {a : PE} {n : Nat} (h : okE T (.slTo a n) e = true) (k : ∀ x kk pc p q, okE T a x = true -> P (.Subscript x (.Slice none (some (.Constant (.int n) kk pc)) none p) q)) : P e :=
 qSub_e h fun x i q h => qSl_e (P := fun i => P (.Subscript x i q)) h fun s t u p h => none_e (P := fun s => P (.Subscript x (.Slice s t u p) q)) (aL (aL (aL h))) (none_e (P := fun u => P (.Subscript x (.Slice none t u p) q)) (aR (aL (aL h)))
  (okO_e (P := fun t => P (.Subscript x (.Slice none t none p) q)) (aR (aL h)) fun c hc => inv_int (P := fun c => P (.Subscript x (.Slice none (some c) none p) q)) hc fun kk pc => k x kk pc p q (aR h)))
@[elab_as_elim] theorem inv_rev {a : PE} (h : okE T (.rev a) e = true) (k : ∀ x kk pc pu p q, okE T a x = true -> P (.Subscript x (.Slice none none (some (.UnaryOp .USub (.Constant (.int 1) kk pc) pu)) p) q)) : P e :=
 qSub_e h fun x i q h => qSl_e (P := fun i => P (.Subscript x i q)) h fun s t u p h => none_e (P := fun s => P (.Subscript x (.Slice s t u p) q)) (aL (aL (aL h))) (none_e (P := fun t => P (.Subscript x (.Slice none t u p) q)) (aR (aL (aL h)))
  (okO_e (P := fun u => P (.Subscript x (.Slice none none u p) q)) (aR (aL h)) fun c hc => qUn_e (P := fun c => P (.Subscript x (.Slice none none (some c) p) q)) hc fun o d pu hc => us_e (P := fun o => P (.Subscript x (.Slice none none (some (.UnaryOp o d pu)) p) q)) (aL hc)
   (inv_int (P := fun d => P (.Subscript x (.Slice none none (some (.UnaryOp .USub d pu)) p) q)) (aR hc) fun kk pc => k x kk pc pu p q (aR h))))
@[elab_as_elim] theorem inv_tup {l : List PE} (h : okE T (.tup l) e = true) (k : ∀ es kk p, l.length ≤ 1000 -> k5 T l es = true -> P (.Tuple es kk p)) : P e :=
 qTup_e h fun es kk p h => k es kk p (Nat.le_of_ble_eq_true (aL h)) (aR h)
@[elab_as_elim] theorem inv_list {l : List PE} (h : okE T (.list l) e = true) (k : ∀ es p, l.length ≤ 1000 -> k5 T l es = true -> P (.List es p)) : P e :=
 qLst_e h fun es p h => k es p (Nat.le_of_ble_eq_true (aL h)) (aR h)
@[elab_as_elim] theorem inv_dict {ks vs : List PE} (h : okE T (.dict ks vs) e = true) (k : ∀ es fs p, ks.all conStr = true -> ks.length ≤ 15 -> ks.length = vs.length -> okOs T ks es = true -> k5 T vs fs = true -> P (.Dict es fs p)) : P e :=
 qDict_e h fun es fs p h => k es fs p (aL (aL (aL (aL h)))) (Nat.le_of_ble_eq_true (aR (aL (aL (aL h))))) (of_decide_eq_true (aR (aL (aL h)))) (aR (aL h)) (aR h)
@[elab_as_elim] theorem inv_comp {el : PE} {caps : List Nat} {it : PE} (h : okE T (.comp el caps it) e = true) (k : ∀ elt x px i sc p, compTab T caps x sc = true -> okE ⟨T.K, sc, w7 x sc⟩ el elt = true -> notSet i = true -> okE T it i = true -> P (.ListComp elt [⟨.Name x px, i, [], 0⟩] sc p)) : P e :=
 qComp_e h fun elt gs sc p h => mZ (P := fun gs => P (.ListComp elt gs sc p)) h fun g h => qGen_e (P := fun g => P (.ListComp elt [g] sc p)) h fun t i h => qName_e (P := fun t => P (.ListComp elt [⟨t, i, [], 0⟩] sc p)) h fun x px h => k elt x px i sc p (aL (aL (aL h))) (aR (aL (aL h))) (aR (aL h)) (aR h)
end
section
variable {T : Tx} {e : Stmt} {P : Stmt -> Prop}
@[elab_as_elim] theorem inv_asg {i : Nat} {x : PE} (h : okS T (.asg i x) e = true) (k : ∀ y yp v p, s0 T i y = true -> asgOk y yp v = true -> okE T x v = true -> P (.Assign [.Name y yp] v p)) : P e :=
 qAsg_e h fun ts v p h => mZ (P := fun ts => P (.Assign ts v p)) h fun t h => qName_e (P := fun t => P (.Assign [t] v p)) h fun y yp h => k y yp v p (aL (aL (aL h))) (aR (aL (aL h))) (aR h)
@[elab_as_elim] theorem inv_asgT {is : List Nat} {x : PE} (h : okS T (.asgT is x) e = true) (k : ∀ ts kk tp v p, tgs T is ts = true -> isCall v = true -> okE T x v = true -> P (.Assign [.Tuple ts kk tp] v p)) : P e :=
 qAsg_e h fun ts v p h => mZ (P := fun ts => P (.Assign ts v p)) h fun t h => qTup_e (P := fun t => P (.Assign [t] v p)) h fun us kk tp h => k us kk tp v p (aL (aL h)) (aR (aL h)) (aR h)
@[elab_as_elim] theorem inv_setA {o : PE} {m : Nat} {x : PE} (h : okS T (.setA o m x) e = true) (k : ∀ t tp v p, z4 v = true -> okE T o t = true -> okE T x v = true -> P (.Assign [.Attribute t (d9 m) tp] v p)) : P e :=
 qAsg_e h fun ts v p h => mZ (P := fun ts => P (.Assign ts v p)) h fun t h => qAttr_e (P := fun t => P (.Assign [t] v p)) h fun a y tp h => same_e (P := fun y => P (.Assign [.Attribute a y tp] v p)) (aL (aL (aL h))) (k a tp v p (aR (aL (aL h))) (aR (aL h)) (aR h))
@[elab_as_elim] theorem inv_setI {o i x : PE} (h : okS T (.setI o i x) e = true) (k : ∀ t y tp v p, z4 v = true -> okE T o t = true -> okE T i y = true -> okE T x v = true -> P (.Assign [.Subscript t y tp] v p)) : P e :=
 qAsg_e h fun ts v p h => mZ (P := fun ts => P (.Assign ts v p)) h fun t h => qSub_e (P := fun t => P (.Assign [t] v p)) h fun a j tp h => k a j tp v p (aR (aL (aL (aL h)))) (aR (aL (aL h))) (aR (aL h)) (aR h)
@[elab_as_elim] theorem inv_augA {o : PE} {m : Nat} {op : Bop} {x : PE} (h : okS T (.augA o m op x) e = true) (k : ∀ t tp o' v p, bopIs op o' = true -> okE T o t = true -> okE T x v = true -> P (.AugAssign (.Attribute t (d9 m) tp) o' v p)) : P e :=
 qAug_e h fun t o' v p h => qAttr_e (P := fun t => P (.AugAssign t o' v p)) h fun a y tp h => same_e (P := fun y => P (.AugAssign (.Attribute a y tp) o' v p)) (aL (aL (aL h))) (k a tp o' v p (aR (aL (aL h))) (aR (aL h)) (aR h))
@[elab_as_elim] theorem inv_ex {x : PE} (h : okS T (.ex x) e = true) (k : ∀ v p, z4 v = true -> okE T x v = true -> P (.Expr v p)) : P e :=
 qEx_e h fun v p h => k v p (aL h) (aR h)
@[elab_as_elim] theorem inv_ret {x : PE} (h : okS T (.ret x) e = true) (k : ∀ v p, okE T x v = true -> P (.Return (some v) p)) : P e :=
 qRet_e h fun o p h => okO_e (P := fun o => P (.Return o p)) h fun v h => k v p h
@[elab_as_elim] theorem inv_retN (h : okS T .retN e = true) (k : ∀ p, P (.Return none p)) : P e :=
 qRet_e h fun o p h => none_e (P := fun o => P (.Return o p)) h (k p)
@[elab_as_elim] theorem inv_cond {x : PE} {a b : List PS} (h : okS T (.cond x a b) e = true) (k : ∀ t p q l, okE T x t = true -> okSs T a p = true -> okSs T b q = true -> P (.If t p q l)) : P e :=
 qIf_e h fun t p q l h => k t p q l (aL (aL h)) (aR (aL h)) (aR h)
@[elab_as_elim] theorem inv_whl {x : PE} {a : List PS} (h : okS T (.whl x a) e = true) (k : ∀ t p l, okE T x t = true -> okSs T a p = true -> P (.While t p [] l)) : P e :=
 qWhl_e h fun t p q l h => emp_e (P := fun q => P (.While t p q l)) (aL (aL h)) (k t p l (aR (aL h)) (aR h))
@[elab_as_elim] theorem inv_for {i : Nat} {x : PE} {a : List PS} (h : okS T (.for_ i x a) e = true) (k : ∀ y yp v p l, s0 T i y = true -> notSet v = true -> okE T x v = true -> okSs T a p = true -> P (.For (.Name y yp) v p [] l)) : P e :=
 qFor_e h fun t v p q l h => emp_e (P := fun q => P (.For t v p q l)) (aL h) (qName_e (P := fun t => P (.For t v p [] l)) (aR h) fun y yp h => k y yp v p l (aL (aL (aL h))) (aR (aL (aL h))) (aR (aL h)) (aR h))
@[elab_as_elim] theorem inv_forT {is : List Nat} {x : PE} {a : List PS} (h : okS T (.forT is x a) e = true) (k : ∀ ts kk tp v p l, tgs T is ts = true -> notSet v = true -> okE T x v = true -> okSs T a p = true -> P (.For (.Tuple ts kk tp) v p [] l)) : P e :=
 qFor_e h fun t v p q l h => emp_e (P := fun q => P (.For t v p q l)) (aL h) (qTup_e (P := fun t => P (.For t v p [] l)) (aR h) fun ts kk tp h => k ts kk tp v p l (aL (aL (aL h))) (aR (aL (aL h))) (aR (aL h)) (aR h))
@[elab_as_elim] theorem inv_delAll {x : PE} (h : okS T (.delAll x) e = true) (k : ∀ t sp tp p, okE T x t = true -> P (.Delete [.Subscript t (.Slice none none none sp) tp] p)) : P e :=
 qDel_e h fun l p h => mZ (P := fun l => P (.Delete l p)) h fun t h => inv_copy (P := fun t => P (.Delete [t] p)) (a := x) (T := T) h fun t sp tp h => k t sp tp p h
@[elab_as_elim] theorem inv_pass (h : okS T .pass e = true) (k : ∀ p, P (.Pass p)) : P e := qPass_e h fun p _ => k p
theorem w5 {T : Tx} {a : PE} {as : List PE} {e : PySem.Expr} {es : List PySem.Expr} : k5 T (a :: as) (e :: es) = (nst e && okE T a e && k5 T as es) := rfl
theorem okOs_c {T : Tx} {a : PE} {as : List PE} {e : PySem.Expr} {es : List (Option PySem.Expr)} : okOs T (a :: as) (some e :: es) = (okE T a e && okOs T as es) := rfl
theorem okSs_c {T : Tx} {a : PS} {as : List PS} {e : Stmt} {es : List Stmt} : okSs T (a :: as) (e :: es) = (okS T a e && okSs T as es) := rfl
theorem tgs_c {T : Tx} {i : Nat} {is : List Nat} {y : Str} {p : Pos} {es : List PySem.Expr} : tgs T (i :: is) (.Name y p :: es) = (s0 T i y && tgs T is es) := rfl
theorem strKeys_c {x : Str} {r : List V} : lZ (.str x :: r) = ((r.all fun y => match y with | .str z => !(x == z) | _ => false) && lZ r) := rfl
end
section
variable {H : Heap} {N : Addr -> Prop} {σ : Nat -> Addr} {n : Nat} {v : V} {u : Value} {Q : Prop}
theorem own_e {f : Nat -> Prop} (h : match v with | .own i => f i | _ => False) (r : Rv H N σ n v u) (k : ∀ i, f i -> Rv H N σ n (.own i) u -> Q) : Q := by
 cases v <;> first | exact k _ h r | exact h.elim
theorem int_e {f : Int -> Prop} (h : match v with | .int i => f i | _ => False) (r : Rv H N σ n v u) (k : ∀ i, f i -> Rv H N σ n (.int i) u -> Q) : Q := by
 cases v <;> first | exact k _ h r | exact h.elim
theorem str_e {f : Str -> Prop} (h : match v with | .str i => f i | _ => False) (r : Rv H N σ n v u) (k : ∀ i, f i -> Rv H N σ n (.str i) u -> Q) : Q := by
 cases v <;> first | exact k _ h r | exact h.elim
theorem tup_e {f : List V -> Prop} (h : match v with | .tup i => f i | _ => False) (r : Rv H N σ n v u) (k : ∀ i, f i -> Rv H N σ n (.tup i) u -> Q) : Q := by
 cases v <;> first | exact k _ h r | exact h.elim
theorem lst_e {f : List V -> Prop} (h : match v with | .lst i => f i | _ => False) (r : Rv H N σ n v u) (k : ∀ i, f i -> Rv H N σ n (.lst i) u -> Q) : Q := by
 cases v <;> first | exact k _ h r | exact h.elim
theorem ls_e {z : Option O} {f : List V -> Prop} (h : match z with | some (.list xs) => f xs | _ => False) (k : ∀ xs, z = some (.list xs) -> f xs -> Q) : Q := by
 rcases z with _ | z
 ·exact h.elim
 ·cases z <;> first | exact k _ rfl h | exact h.elim
theorem in_e {z : Option O} {f : Nat -> List (Nat × V) -> Prop} (h : match z with | some (.inst C xs) => f C xs | _ => False) (k : ∀ C xs, z = some (.inst C xs) -> f C xs -> Q) : Q := by
 rcases z with _ | z
 ·exact h.elim
 ·cases z <;> first | exact k _ _ rfl h | exact h.elim
theorem dc_e {z : Option O} {f : List (V × V) -> Prop} (h : match z with | some (.dict xs) => f xs | _ => False) (k : ∀ xs, z = some (.dict xs) -> f xs -> Q) : Q := by
 rcases z with _ | z
 ·exact h.elim
 ·cases z <;> first | exact k _ rfl h | exact h.elim
theorem ld_e {z : Option O} {f : List V -> Prop} {g : List (V × V) -> Prop} (h : match z with | some (.list xs) => f xs | some (.dict es) => g es | _ => False) (k : ∀ xs, z = some (.list xs) -> f xs -> Q) (l : ∀ xs, z = some (.dict xs) -> g xs -> Q) : Q := by
 rcases z with _ | z
 ·exact h.elim
 ·cases z <;> first | exact k _ rfl h | exact l _ rfl h | exact h.elim
theorem tr_e {b : Bool} {p : Prop} (h : match b with | true => p | false => False) (k : b = true -> p -> Q) : Q := by
 cases b
 ·exact h.elim
 ·exact k rfl h
theorem sm_e {α : Type} {z : Option α} {f : α -> Prop} (h : match z with | some v => f v | none => False) (k : ∀ v, z = some v -> f v -> Q) : Q := by
 cases z
 ·exact h.elim
 ·exact k _ rfl h
theorem vm_e {z : Option V} {f : V -> Prop} (h : match z with | some v => f v | none => False) (k : ∀ v, z = some v -> f v -> Q) : Q := by
 cases z
 ·exact h.elim
 ·exact k _ rfl h
theorem dl_e {z : Option (Option V)} {f : V -> Prop} {p : Prop} (h : match z with | some (some v) => f v | some none => p | none => False) (k : ∀ v, z = some (some v) -> f v -> Q) (l : z = some none -> p -> Q) : Q := by
 rcases z with _ | _ | z
 ·exact h.elim
 ·exact l rfl h
 ·exact k _ rfl h
theorem ll_e {op : Bop} {x y : Option O} {f : List V -> List V -> Prop} (h : match op, x, y with | .add, some (.list xs), some (.list ys) => f xs ys | _, _, _ => False) (k : ∀ xs ys, op = .add -> x = some (.list xs) -> y = some (.list ys) -> f xs ys -> Q) : Q := by
 cases op <;> first | exact h.elim | skip
 rcases x with _ | x
 ·exact h.elim
 cases x <;> first | exact h.elim | skip
 rcases y with _ | y
 ·exact h.elim
 cases y <;> first | exact h.elim | exact k _ _ rfl rfl rfl h
theorem ai_e {op : Bop} {x v u : V} {f : Int -> Int -> Nat -> Prop} (h : match op, x, v, u with | .add, .int a, .int b, .own i => f a b i | _, _, _, _ => False) (k : ∀ a b i, op = .add -> x = .int a -> v = .int b -> u = .own i -> f a b i -> Q) : Q := by
 cases op <;> first | exact h.elim | skip
 cases x <;> first | exact h.elim | skip
 cases v <;> first | exact h.elim | skip
 cases u <;> first | exact h.elim | exact k _ _ _ rfl rfl rfl rfl h
theorem sml_e {z : Option (List V)} {f : List V -> Prop} (h : match z with | some v => f v | none => False) (k : ∀ v, z = some v -> f v -> Q) : Q := by
 cases z
 ·exact h.elim
 ·exact k _ rfl h
theorem sv_e {z : Option (Option V)} {f : Option V -> Prop} (h : match z with | some v => f v | none => False) (k : ∀ v, z = some v -> f v -> Q) : Q := by
 cases z
 ·exact h.elim
 ·exact k _ rfl h
theorem nat_e {f : Nat -> Prop} (h : match v with | .int (.ofNat p) => f p | _ => False) (r : Rv H N σ n v u) (k : ∀ i : Nat, f i -> Rv H N σ n (.int (.ofNat i)) u -> Q) : Q := by
 cases v with
 | int i => cases i <;> first | exact k _ h r | exact h.elim
 | _ => exact h.elim
theorem ss_e {α : Type} {z : Option (Option α)} {f : α -> Prop} (h : match z with | some (some v) => f v | _ => False) (k : ∀ v, z = some (some v) -> f v -> Q) : Q := by
 rcases z with _ | _ | z
 ·exact h.elim
 ·exact h.elim
 ·exact k _ rfl h
end
theorem in1u {A : Around} {n m N : Nat} (h : A.units + m < N) (k : n + 1 ≤ m) : A.in1.units + n < N :=
 Nat.lt_of_le_of_lt (by rw [Around.in1_units, Nat.add_assoc, Nat.add_comm 1 n]; exact Nat.add_le_add_left k _) h
theorem lt1 {a i : Nat} (h : i < a) : a + 1 - (i + 1) < a + 1 - i := Nat.sub_lt_sub_left (Nat.lt_succ_of_lt h) (Nat.lt_succ_self i)
noncomputable section
structure FX where
 env : Env
 sc : Scope
 names : List Str
structure FXok (X : FX) : Prop where
 kind : X.env.scope.kind = .function
 globals : X.env.globals = mainGlobals
 builtins : X.env.builtins = builtinsNs
 slot : ∀ i x, getL X.names i = some x -> X.env.kindOf x = some .local ∨ X.env.kindOf x = some .cell
 glob : ∀ y, X.sc.names.lookup y = some .globalImplicit -> X.env.kindOf y = some .globalImplicit
 locl : ∀ y, X.sc.names.lookup y = some .local -> X.env.kindOf y = some .local
 celk : ∀ y, X.sc.names.lookup y = some .cell -> X.env.kindOf y = some .cell
 cel : ∀ y, X.sc.names.lookup y = some .cell -> (X.env.cells.lookup y).isSome = true
 nodup : ∀ i j x, getL X.names i = some x -> getL X.names j = some x -> i = j
noncomputable def LocOk (X : FX) (h : Heap) (N : Addr -> Prop) (σ : Nat -> Addr) (n : Nat) (m : Str -> Option Value) (x : Str) (v : V) : Prop :=
 (X.env.kindOf x = some .local ∧ ∃ u, m x = some u ∧ Rv h N σ n v u) ∨
 (X.env.kindOf x = some .cell ∧ ∃ ca u, X.env.cells.lookup x = some ca ∧ ¬ N ca ∧ h.IsCell ca (some u) ∧ Rv h N σ n v u)
noncomputable def b8 (X : FX) (h : Heap) (N : Addr -> Prop) (σ : Nat -> Addr) (n : Nat) (loc : List (Option V)) : Prop :=
 ∃ m, h.Ns X.env.locals m ∧ ∀ i v, getL loc i = some (some v) -> ∃ x, getL X.names i = some x ∧ LocOk X h N σ n m x v
structure i9 (A : Around) (n : Nat) : Prop where
 depth : A.depth + 4 * n ≤ 900
 units : A.units + 20 * n ≤ 9500
 quiet : A.handled = none
theorem i9.le {A : Around} {n m : Nat} (r : i9 A n) (h : m ≤ n) : i9 A m := ⟨Nat.le_trans (Nat.add_le_add_left (Nat.mul_le_mul_left 4 h) _) r.depth, Nat.le_trans (Nat.add_le_add_left (Nat.mul_le_mul_left 20 h) _) r.units, r.quiet⟩
theorem nxt {a n k j c : Nat} (i : j ≤ k) (h : a + k * (n + 1) ≤ c) : a + j + k * n ≤ c := by
 rw [Nat.add_right_comm]; exact Nat.le_trans (Nat.add_le_add_left i _) (Nat.add_assoc .. ▸ h)
theorem lt63 {a : Nat} (h : a ≤ 1000000) : (a : Int) < 2 ^ 63 := Int.lt_of_le_of_lt (Int.ofNat_le.mpr h) (by decide)
theorem r30 {A : Around} (h : A.units + 300 < cLine) : A.units + 30 < cLine := Nat.lt_of_le_of_lt (Nat.add_le_add_left (by decide) _) h
structure Wd (w : World) (b0 : Heap) : Prop where
 K : (Kf w.params).In b0
 g : ∃ mg, b0.Ns mainGlobals mg
 b : ∃ mb, b0.Ns builtinsNs mb ∧ ∀ x : Str, x ≠ "__name__" -> mb x = bootBuiltins x
 sys : ∃ o, b0.get? sysModules = some o
 nolimit : b0.NoLimit
section
variable {hash : V -> Int} {b0 h h' : Heap} {X : FX} {fr : List Addr} {σ c σ' c' : Nat -> Addr} {led led' : List O} {loc : List (Option V)}
theorem LocOk.mono {N N' : Addr -> Prop} {n n' : Nat} {m : Str -> Option Value} {x : Str} {v : V} (H : v4 h h' N N') (hn : n ≤ n') (hs : ∀ i, i < n -> σ' i = σ i) (l : LocOk X h N σ n m x v) : LocOk X h' N' σ' n' m x v := by
 rcases l with ⟨k, u, e, r⟩ | ⟨k, ca, u, e, nc, g, r⟩
 ·exact .inl ⟨k, u, e, Rv.mono H hn hs r⟩
 ·obtain ⟨o, g1, g2⟩ := g
  exact .inr ⟨k, ca, u, e, fun q => nc (H.less _ _ g1 q), ⟨o, H.keep _ _ nc g1, g2⟩, Rv.mono H hn hs r⟩
theorem b8.step (f : b8 X h (NN fr c led) σ led.length loc) (r : R hash b0 fr σ c led h) (hL : X.env.locals ∈ fr) (st : y9 (fun _ => False) σ c led h σ' c' led' h') : b8 X h' (NN fr c' led') σ' led'.length loc := by
 obtain ⟨m, hm, hl⟩ := f
 have H := st.mono (fr := fr) (fr' := fr) (fun _ q => q.elim) fun _ q => .inl q
 refine ⟨m, ?_, fun i v e => ?_⟩
 ·obtain ⟨o, es, ep, ho, q⟩ := hm
  exact ⟨o, es, ep, st.keep _ _ ho (fun ⟨i, li, ci⟩ => r.frs i li (ci ▸ hL)) id, q⟩
 ·obtain ⟨x, hx, l⟩ := hl i v e
  exact ⟨x, hx, l.mono H st.len fun j hj => (st.same j hj).1⟩
end
inductive j2 (hash : V -> Int) (b0 : Heap) (X : FX) (fr : List Addr) (σ c : Nat -> Addr) (st : St) (s : Shared) {α : Type} (rel : Heap -> (Addr -> Prop) -> (Nat -> Addr) -> Nat -> α -> Value -> Prop) (k : α -> St -> Prop) (u : Value) (s' : Shared) : Prop
 | mk (h' : Heap) (tk : Nat) (σ' c' : Nat -> Addr) (led' : List O) (v : α) : s' = { s with heap := h', toks := tk } -> y9 (fun _ => False) σ c st.led s.heap σ' c' led' h' -> R hash b0 fr σ' c' led' h' -> b8 X h' (NN fr c' led') σ' led'.length st.loc -> rel h' (NN fr c' led') σ' led'.length v u -> k v ⟨st.loc, led'⟩ -> j2 hash b0 X fr σ c st s rel k u s'
noncomputable abbrev PE1 (hash : V -> Int) (b0 : Heap) (X : FX) (fr : List Addr) (σ c : Nat -> Addr) (st : St) (s : Shared) (k : V -> St -> Prop) : Value -> Shared -> Prop := j2 hash b0 X fr σ c st s Rv k
noncomputable def k7 (w : World) (hash : V -> Int) (b0 : Heap) (Γ : Nat -> Option (Nat × r8)) (n : Nat) : Prop :=
 ∀ (x : PE) (st : St) (k : V -> St -> Prop) (e : PySem.Expr) (X : FX) (A : Around) (s : Shared) (fr : List Addr) (σ c : Nat -> Addr),
  wp G Γ n (.e x st k) -> okE ⟨Kf w.params, X.sc, X.names⟩ x e = true -> FXok X -> X.env.locals ∈ fr -> i9 A n -> R hash b0 fr σ c st.led s.heap -> b8 X s.heap (NN fr c st.led) σ st.led.length st.loc ->
  wpAny (model pr w) A (eval e X.env) (PE1 hash b0 X fr σ c st s k) (fun _ _ => False) s
section
variable {w : World} {hash : V -> Int} {b0 : Heap} {X : FX} {fr : List Addr} {σ c : Nat -> Addr} {st : St} {s : Shared} {k : V -> St -> Prop}
theorem post_now {v : V} {u : Value} {tk : Nat} (r : R hash b0 fr σ c st.led s.heap) (f : b8 X s.heap (NN fr c st.led) σ st.led.length st.loc) (hv : Rv s.heap (NN fr c st.led) σ st.led.length v u) (hk : k v st) :
  PE1 hash b0 X fr σ c st s k u { s with toks := tk } := ⟨s.heap, tk, σ, c, st.led, v, rfl, .refl, r, f, hv, hk⟩
theorem qQ {a b : Str} (h : zQ a b = true) : a = b := PySem.W.Fast.sEq_iff.mp h
mutual
theorem rv_of_match {K : Frag} {h : Heap} {N : Addr -> Prop} {n : Nat} (hK : ∀ a o, K.lookup a = some o -> h.get? a = some o ∧ ¬ N a) : ∀ (v : V) (u : Value), vMatch K v u = true -> Rv h N σ n v u
 | .none, u, e => by
  obtain ⟨_, rfl, _⟩ := o8 e
  exact .none
 | .bool a, u, e => by
  obtain ⟨b, h1, e1⟩ := o8 e
  rw [h1, ← show a = b from beq_iff_eq.mp e1]
  exact .bool a
 | .int i, u, e => by
  obtain ⟨p, h1, e1⟩ := o8 e
  rw [h1, ← show i = p.1 from of_decide_eq_true e1]
  exact .int _ _
 | .str x, u, e => by
  obtain ⟨p, h1, e1⟩ := o8 e
  rw [h1, ← show x = p.1 from qQ e1]
  exact .str _ _
 | .top v, u, e => by
  obtain ⟨a, h1, e1⟩ := o8 e
  obtain ⟨b, h2, e2⟩ := o8 e1
  rw [h1, h2, ← show a = b from of_decide_eq_true e2]
  exact .top a
 | .tup xs, u, e => by
  obtain ⟨a, h1, e1⟩ := o8 e
  obtain ⟨vs, ⟨arr, ep, ho, h3⟩, e2⟩ := o8 e1
  rw [h1]
  exact .tup (hK _ _ ho).2 (hK _ _ ho).1 (rvs_of_match hK xs arr.toList (h3 ▸ e2))
 | .lst _, u, e => Bool.noConfusion e
 | .obj _ _, u, e => Bool.noConfusion e
 | .own _, u, e => Bool.noConfusion e
theorem rvs_of_match {K : Frag} {h : Heap} {N : Addr -> Prop} {n : Nat} (hK : ∀ a o, K.lookup a = some o -> h.get? a = some o ∧ ¬ N a) : ∀ (v : List V) (u : List Value), vMatchs K v u = true -> Rvs h N σ n v u
 | [], [], _ => .nil
 | [], _ :: _, e => by cases e
 | _ :: _, [], e => by cases e
 | x :: xs, u :: us, e => by
  unfold vMatchs at e
  obtain ⟨e1, e2⟩ := Bool.and_eq_true_iff.mp e
  exact .cons (rv_of_match hK x u e1) (rvs_of_match hK xs us e2)
end
theorem mg_of {mg : Str -> Option Value} {b0 : Heap} {K : Frag} {y : Str} {r : Option Value} (hK : K.In b0) (hg : b0.Ns mainGlobals mg) (e : nsIn K mainGlobals y = some r) : mg y = r := by
 obtain ⟨o, es, ep, ho, hd, hs, hf⟩ := hg
 unfold nsIn at e
 split at e
 ·rename_i c d es' n sl hl
  have := hK _ _ hl
  rw [ho] at this
  obtain rfl := Option.some.inj this
  cases hd
  rw [← hf y]
  unfold nsFind findBy
  rw [← Array.find?_toList]
  split at e
  ·rename_i en he; cases e; rw [he]; rfl
  ·rename_i he
   rw [he]
   split at e
   ·cases e
   ·cases e; rfl
 ·cases e
theorem no_debug {y : Str} (b : (!zQ y "__debug__") = true) : (y == ("__debug__" : Str)) = false := by
 cases q : (y == ("__debug__" : Str)) with
 | false => rfl
 | true =>
  rw [beq_iff_eq.mp q] at b
  have : zQ ("__debug__" : Str) "__debug__" = true := PySem.W.Fast.sEq_iff.mpr rfl
  rw [this] at b; cases b
theorem names_ok {y : Str} {i : Nat} {T : Tx} (h : isLoc T i y = true) : getL T.names i = some y ∧ (y == ("__debug__" : Str)) = false := by
 obtain ⟨x, hx, h⟩ := okO_iff h
 obtain ⟨a, b⟩ := Bool.and_eq_true_iff.mp h
 exact ⟨by rw [hx, qQ a], no_debug b⟩
theorem glob_ok {y : Str} {T : Tx} (h : isGlob T y = true) : T.sc.names.lookup y = some .globalImplicit ∧ (y == ("__debug__" : Str)) = false := by
 obtain ⟨a, b⟩ := Bool.and_eq_true_iff.mp h
 exact ⟨of_decide_eq_true a, no_debug b⟩
end
section
variable {w : World} {hash : V -> Int} {b0 : Heap} {Γ : Nat -> Option (Nat × r8)} {X : FX} {fr : List Addr} {σ c : Nat -> Addr} {s : Shared} {A : Around}
theorem K_now {led : List O} {h : Heap} (W : Wd w b0) (r : R hash b0 fr σ c led h) : ∀ a o, (Kf w.params).lookup a = some o -> h.get? a = some o ∧ ¬ NN fr c led a := fun a o e => r.base a o (W.K a o e)
theorem base_keeps {led : List O} {h : Heap} (r : R hash b0 fr σ c led h) : ∀ b o, b0.get? b = some o -> h.get? b = some o := fun b o e => (r.base b o e).1
theorem eval_loc {i : Nat} {y : Str} {p : Pos} {st : St} {k : V -> St -> Prop} (hw : match getL st.loc i with | some (some v) => k v st | _ => False) (hi : isLoc ⟨Kf w.params, X.sc, X.names⟩ i y = true) (Xo : FXok X)
  (r : R hash b0 fr σ c st.led s.heap) (f : b8 X s.heap (NN fr c st.led) σ st.led.length st.loc) : wpAny (model pr w) A (eval (.Name y p) X.env) (PE1 hash b0 X fr σ c st s k) (fun _ _ => False) s := by
 obtain ⟨hx, hd⟩ := names_ok hi
 split at hw
 ·rename_i v hv
  obtain ⟨m, hm, hl⟩ := id f
  obtain ⟨x, hx', l⟩ := hl i v hv
  rw [show getL X.names i = some y from hx] at hx'
  obtain rfl := Option.some.inj hx'
  refine wpAny_Name ?_ hd
  rcases l with ⟨kx, u, e, rv⟩ | ⟨kx, ca, u, e, nc, g, rv⟩
  ·exact wpAny_loadName_local Xo.kind kx hm e (post_now r f rv hw)
  ·exact wpAny_loadName_cell Xo.kind kx e g (post_now r f rv hw)
 ·exact hw.elim
theorem load_glob {y : Str} {p : Pos} {led : List O} {u : Value} {Q : Value -> Shared -> Prop} {E : Value -> Shared -> Prop} (W : Wd w b0) (hi : isGlob ⟨Kf w.params, X.sc, X.names⟩ y = true) (hn : nsIn (Kf w.params) mainGlobals y = some (some u)) (Xo : FXok X)
  (r : R hash b0 fr σ c led s.heap) (h : Q u s) : wpAny (model pr w) A (eval (.Name y p) X.env) Q E s := by
 obtain ⟨hx, hd⟩ := glob_ok hi
 obtain ⟨mg, hg⟩ := W.g
 refine Calls.Name_function_global Xo.kind (Xo.glob y hx) (Calls.loadGlobal_global (mg := mg) ?_ (mg_of W.K hg hn) h) hd
 rw [Xo.globals]
 exact hg.keeps (base_keeps r)
theorem j2.after {st : St} {led' : List O} {h' : Heap} {tk : Nat} {σ' c' : Nat -> Addr} {α : Type} {rel : Heap -> (Addr -> Prop) -> (Nat -> Addr) -> Nat -> α -> Value -> Prop} {k : α -> St -> Prop} {u : Value} {s'' : Shared}
  (x : y9 (fun _ => False) σ c st.led s.heap σ' c' led' h') (p : j2 hash b0 X fr σ' c' ⟨st.loc, led'⟩ { s with heap := h', toks := tk } rel k u s'') : j2 hash b0 X fr σ c st s rel k u s'' := by
 obtain ⟨h2, t2, σ2, c2, l2, v, rfl, x2, r2, f2, rv, hk⟩ := p
 exact ⟨h2, t2, σ2, c2, l2, v, rfl, x.trans x2, r2, f2, rv, hk⟩
theorem Rv.step {led led' : List O} {h h' : Heap} {σ' c' : Nat -> Addr} {v : V} {u : Value} (x : y9 (fun _ => False) σ c led h σ' c' led' h') (rv : Rv h (NN fr c led) σ led.length v u) : Rv h' (NN fr c' led') σ' led'.length v u :=
 Rv.mono (x.mono (fun _ q => q.elim) fun _ q => .inl q) x.len (fun i hi => (x.same i hi).1) rv
theorem Rvs.step {led led' : List O} {h h' : Heap} {σ' c' : Nat -> Addr} {v : List V} {u : List Value} (x : y9 (fun _ => False) σ c led h σ' c' led' h') (rv : Rvs h (NN fr c led) σ led.length v u) : Rvs h' (NN fr c' led') σ' led'.length v u :=
 Rvs.mono (x.mono (fun _ q => q.elim) fun _ q => .inl q) x.len (fun i hi => (x.same i hi).1) rv
noncomputable abbrev r6 (w : World) (X : FX) (x : PE) (e : PySem.Expr) : Prop := okE ⟨Kf w.params, X.sc, X.names⟩ x e = true
structure Gd (hash : V -> Int) (b0 : Heap) (X : FX) (fr : List Addr) (σ c : Nat -> Addr) (st : St) (s : Shared) : Prop where
 Xo : FXok X
 L : X.env.locals ∈ fr
 r : R hash b0 fr σ c st.led s.heap
 f : b8 X s.heap (NN fr c st.led) σ st.led.length st.loc
theorem one {n : Nat} {a : PE} {l : PySem.Expr} {st : St} {K : V -> St -> Prop} {Q : Value -> Shared -> Prop} (IH : k7 w hash b0 Γ n) (hw : wp G Γ n (.e a st K)) (ha : r6 w X a l) (g : Gd hash b0 X fr σ c st s) (hA : i9 A n)
  (hop : ∀ (h' : Heap) (tk : Nat) (σ' c' : Nat -> Addr) (led' : List O) (u : V) (uu : Value), y9 (fun _ => False) σ c st.led s.heap σ' c' led' h' -> Gd hash b0 X fr σ' c' ⟨st.loc, led'⟩ { s with heap := h', toks := tk } ->
   Rv h' (NN fr c' led') σ' led'.length u uu -> K u ⟨st.loc, led'⟩ -> Q uu { s with heap := h', toks := tk }) : wpAny (model pr w) A (eval l X.env) Q (fun _ _ => False) s :=
 wpAny_mono (IH a st K l X A s fr σ c hw ha g.Xo g.L hA g.r g.f) (fun u s' p => by
  obtain ⟨h2, t2, σ2, c2, l2, v, rfl, x2, r2, f2, rv, hk⟩ := p
  exact hop h2 t2 σ2 c2 l2 v u x2 ⟨g.Xo, g.L, r2, f2⟩ rv hk) fun _ _ x => x
theorem two {n : Nat} {a b : PE} {l r : PySem.Expr} {st : St} {K : V -> V -> St -> Prop} {Q : Value -> Value -> Shared -> Prop} (IH : k7 w hash b0 Γ n) (hw : wp G Γ n (.e a st fun u st => wp G Γ n (.e b st fun v st => K u v st))) (ha : r6 w X a l) (hb : r6 w X b r)
  (g : Gd hash b0 X fr σ c st s) (hA : i9 A n)
  (hop : ∀ (h' : Heap) (tk : Nat) (σ' c' : Nat -> Addr) (led' : List O) (u v : V) (uu vv : Value), y9 (fun _ => False) σ c st.led s.heap σ' c' led' h' -> Gd hash b0 X fr σ' c' ⟨st.loc, led'⟩ { s with heap := h', toks := tk } ->
   Rv h' (NN fr c' led') σ' led'.length u uu -> Rv h' (NN fr c' led') σ' led'.length v vv -> K u v ⟨st.loc, led'⟩ -> Q uu vv { s with heap := h', toks := tk }) :
  wpAny (model pr w) A (eval l X.env) (fun x s₁ => wpAny (model pr w) A (eval r X.env) (fun y s₂ => Q x y s₂) (fun _ _ => False) s₁) (fun _ _ => False) s :=
 one IH hw ha g hA fun h1 t1 σ1 c1 l1 u uu x1 g1 ru hk => one IH hk hb g1 hA fun h2 t2 σ2 c2 l2 v vv x2 g2 rv hk2 =>
  hop h2 t2 σ2 c2 l2 u v uu vv (x1.trans x2) g2 (Rv.step (fr := fr) x2 ru) rv hk2
theorem gd_toks {st : St} {tk : Nat} (g : Gd hash b0 X fr σ c st s) : Gd hash b0 X fr σ c st { s with toks := tk } := ⟨g.Xo, g.L, g.r, g.f⟩
theorem now {st : St} {k : V -> St -> Prop} {v : V} {u : Value} {tk : Nat} (g : Gd hash b0 X fr σ c st s) (hv : Rv s.heap (NN fr c st.led) σ st.led.length v u) (hk : k v st) : PE1 hash b0 X fr σ c st s k u { s with toks := tk } := post_now g.r g.f hv hk
theorem iop_ok {op : Bop} {o : Operator} {i j : Int} {t t' : Tok} {st : St} {k : V -> St -> Prop} (hq : A.handled = none) (ho : bopIs op o = true) (g : Gd hash b0 X fr σ c st s) (hw : iop op i j fun r => k (.int r) st) :
  wpAny (model pr w) A (binaryOp o (.int i t) (.int j t')) (PE1 hash b0 X fr σ c st s k) (fun _ _ => False) s := by
 replace hw := iop_P hw
 have small : ∀ x : Int, x.natAbs < 2 ^ 1000 -> Builtin.Int.intBits x ≤ 2 ^ 20 := fun x hx => Nat.le_trans (intBits_le hx) (by decide)
 obtain rfl := of_decide_eq_true ho
 cases op
 ·exact add_int (now g (.int _ _) hw)
 ·exact PyProof.Rows.sub_int (now g (.int _ _) hw)
 ·exact PyProof.Rows.mul_int (now g (.int _ _) hw.2.2) (.of_bits (small _ hw.1) (small _ hw.2.1))
 ·refine floordiv_int hw.1 (now g (.int _ _) hw.2.2) (.inl (PyProof.noPylong_of_log2 ?_))
  exact Nat.lt_trans ((Nat.log2_lt (Int.natAbs_ne_zero.mpr hw.1)).mpr hw.2.1) (by decide)
 ·exact mod_int' hw.1 (now g (.int _ _) hw.2)
 ·exact pow_int_small hw.1 (Int.le_trans hw.2.1 (by decide)) hw.2.2.1 (now g (.int _ _) hw.2.2.2)
 ·exact and_int (now g (.int _ _) hw)
 ·exact or_int (now g (.int _ _) hw)
 ·exact xor_int (now g (.int _ _) hw)
 ·exact lshift_int_small hw.1 (Int.le_trans hw.2.1 (by decide)) hw.2.2.1 (now g (.int _ _) hw.2.2.2)
 ·exact rshift_int hw.1 (now g (.int _ _) hw.2)
end
end
noncomputable section
section
variable {h : Heap} {N : Addr -> Prop} {σ : Nat -> Addr} {n : Nat}
theorem dp {A : Around} {xs : List V} (h : A.units + (w1 xs + 1) < cLine) : A.in1.units + w1 xs < cLine := by
 rw [Around.in1_units, Nat.add_right_comm]; exact h
theorem nos {r : Bool} {P : Prop} (e : (none : Option Bool) = some r) : P := nomatch e
theorem veqs_inv {x y : V} {xs ys : List V} {r : Bool} (e : fZ (x :: xs) (y :: ys) = some r) : ∃ c d, veq x y = some c ∧ fZ xs ys = some d ∧ r = (c && d) := by
 have e : (match veq x y with
  | some b => (match fZ xs ys with
   | some c => some (b && c)
   | none => none)
  | none => none) = some r := e
 cases h1 : veq x y with
 | none => rw [h1] at e; cases e
 | some c =>
  rw [h1] at e
  cases h2 : fZ xs ys with
  | none => rw [h2] at e; cases e
  | some d => rw [h2] at e; exact ⟨c, d, rfl, rfl, (Option.some.inj e).symm⟩
mutual
theorem veq_self : ∀ (a b : V) (r : Bool) (u : Value), veq a b = some r -> Rv h N σ n a u -> Rv h N σ n b u -> r = true
 | .int i, b, r, u, e, ra, rb => by
  obtain ⟨t, rfl⟩ := ra.inv
  cases b <;> try (exact nos e)
  ·obtain ⟨t', q⟩ := rb.inv
   cases q
   exact Option.some.inj e ▸ decide_eq_true rfl
  ·obtain ⟨t', q⟩ := rb.inv
   cases q
  ·obtain ⟨a, vs, ep, q, _⟩ := rb.inv
   cases q
 | .str i, b, r, u, e, ra, rb => by
  obtain ⟨t, rfl⟩ := ra.inv
  cases b <;> try (exact nos e)
  ·obtain ⟨t', q⟩ := rb.inv
   cases q
  ·obtain ⟨t', q⟩ := rb.inv
   cases q
   exact Option.some.inj e ▸ beq_self_eq_true i
  ·obtain ⟨a, vs, ep, q, _⟩ := rb.inv
   cases q
 | .bool i, b, r, u, e, ra, rb => by
  obtain rfl := ra.inv
  cases b <;> try (exact nos e)
  have q := rb.inv
  cases q
  exact Option.some.inj e ▸ beq_self_eq_true i
 | .tup xs, b, r, u, e, ra, rb => by
  obtain ⟨a, vs, ep, rfl, n1, g1, r1⟩ := ra.inv
  cases b <;> try (exact nos e)
  ·obtain ⟨t', q⟩ := rb.inv
   cases q
  ·obtain ⟨t', q⟩ := rb.inv
   cases q
  ·obtain ⟨b, ws, ep', q, n2, g2, r2⟩ := rb.inv
   cases q
   rw [g1] at g2
   cases g2
   exact veqs_self _ _ _ _ e r1 r2
 | .lst xs, b, r, u, e, ra, rb => by
  obtain ⟨a, vs, ep, rfl, n1, g1, r1⟩ := ra.inv
  cases b <;> try (exact nos e)
  obtain ⟨b, ws, ep', q, n2, g2, r2⟩ := rb.inv
  cases q
  rw [g1] at g2
  cases g2
  exact veqs_self _ _ _ _ e r1 r2
 | .none, b, r, u, e, _, _ => nos e
 | .obj _ _, b, r, u, e, _, _ => nos e
 | .own _, b, r, u, e, _, _ => nos e
 | .top _, b, r, u, e, _, _ => nos e
theorem veqs_self : ∀ (a b : List V) (r : Bool) (u : List Value), fZ a b = some r -> Rvs h N σ n a u -> Rvs h N σ n b u -> r = true
 | [], b, r, u, e, ra, rb => by
  cases ra; cases rb
  exact (Option.some.inj e).symm
 | x :: xs, b, r, u, e, ra, rb => by
  obtain ⟨u0, us, rfl, r1, r2⟩ := ra.inv
  rcases b with _ | ⟨y, ys⟩
  ·exact absurd rb.inv (by intro h; cases h)
  obtain ⟨u1, us1, q, q1, q2⟩ := rb.inv
  cases q
  obtain ⟨c, d, hc, hd, rfl⟩ := veqs_inv e
  rw [veq_self _ _ _ _ hc r1 q1, veqs_self _ _ _ _ hd r2 q2]; rfl
end
end
open PySem.SeqAt in
section
variable {s : Shared} {N : Addr -> Prop} {σ : Nat -> Addr} {n : Nat}
theorem eqAt_refs {A : Around} {l b : Addr} {r : Bool} (hs : l = b -> r = true) (h : l ≠ b -> RcAt A s (.ref l) (.ref b) r) : EqAt A s (.ref l) (.ref b) r := by
 by_cases e : l = b
 ·subst e; rw [hs rfl]; exact EqAt.same _
 ·exact EqAt.of_refs e (h e)
mutual
theorem veq_ok : ∀ (A : Around) (a b : V) (r : Bool) (u v : Value), A.units + qZ a < cLine -> veq a b = some r -> Rv s.heap N σ n a u -> Rv s.heap N σ n b v -> EqAt A s u v r
 | A, .int i, b, r, u, v, hu, e, ra, rb => by
  obtain ⟨t, rfl⟩ := ra.inv
  cases b <;> try (exact nos e)
  ·obtain ⟨t', rfl⟩ := rb.inv
   exact Option.some.inj e ▸ EqAt.int_int _ _ _ _
  ·obtain ⟨t', rfl⟩ := rb.inv
   exact Option.some.inj e ▸ EqAt.int_str _ _ _ _
  ·obtain ⟨a, vs, ep, rfl, n1, g1, r1⟩ := rb.inv
   exact Option.some.inj e ▸ EqAt.int_tuple _ _ ⟨_, g1, rfl, _, rfl⟩ (Nat.lt_of_le_of_lt (Nat.le_add_right _ _) hu)
 | A, .str i, b, r, u, v, hu, e, ra, rb => by
  obtain ⟨t, rfl⟩ := ra.inv
  cases b <;> try (exact nos e)
  ·obtain ⟨t', rfl⟩ := rb.inv
   exact Option.some.inj e ▸ EqAt.str_int _ _ _ _
  ·obtain ⟨t', rfl⟩ := rb.inv
   exact Option.some.inj e ▸ EqAt.str_str _ _ _ _
  ·obtain ⟨a, vs, ep, rfl, n1, g1, r1⟩ := rb.inv
   exact Option.some.inj e ▸ EqAt.str_tuple _ _ ⟨_, g1, rfl, _, rfl⟩ (Nat.lt_of_le_of_lt (Nat.le_add_right _ _) hu)
 | A, .bool i, b, r, u, v, _, e, ra, rb => by
  obtain rfl := ra.inv
  cases b <;> try (exact nos e)
  obtain rfl := rb.inv
  exact Option.some.inj e ▸ EqAt.bool_bool _ _
 | A, .tup xs, b, r, u, v, hu, e, ra, rb => by
  have hu0 : A.units < cLine := Nat.lt_of_le_of_lt (Nat.le_add_right _ _) hu
  obtain ⟨l, us, e1, rfl, n1, g1, r1⟩ := ra.inv
  cases b <;> try (exact nos e)
  ·obtain ⟨t', rfl⟩ := rb.inv
   exact Option.some.inj e ▸ EqAt.tuple_int _ _ ⟨_, g1, rfl, _, rfl⟩ hu0
  ·obtain ⟨t', rfl⟩ := rb.inv
   exact Option.some.inj e ▸ EqAt.tuple_str _ _ ⟨_, g1, rfl, _, rfl⟩ hu0
  rename_i ys
  have es := veq_self (.tup xs) (.tup ys) r _ e ra
  obtain ⟨m, vs, e2, rfl, n2, g2, r2⟩ := rb.inv
  refine eqAt_refs (fun q => es (q ▸ .tup n2 g2 r2)) fun _ => ?_
  obtain ⟨f, hf, rfl⟩ := veqs_ok A.in1 xs ys r us.toList vs.toList (dp hu) e r1 r2
  have := RcAt.tuples (e := f) ⟨_, g1, rfl, _, rfl⟩ ⟨_, g2, rfl, _, rfl⟩ (A := A) hu0 (fun j h1 h2 => by
   have := hf j (by simpa using h1) (by simpa using h2)
   simpa using this)
  simpa using this
 | A, .lst xs, b, r, u, v, hu, e, ra, rb => by
  have hu0 : A.units < cLine := Nat.lt_of_le_of_lt (Nat.le_add_right _ _) hu
  obtain ⟨l, us, e1, rfl, n1, g1, r1⟩ := ra.inv
  cases b <;> try (exact nos e)
  rename_i ys
  have es := veq_self (.lst xs) (.lst ys) r _ e ra
  obtain ⟨m, vs, e2, rfl, n2, g2, r2⟩ := rb.inv
  refine eqAt_refs (fun q => es (q ▸ .lst n2 g2 r2)) fun _ => ?_
  obtain ⟨f, hf, rfl⟩ := veqs_ok A.in1 xs ys r us.toList vs.toList (dp hu) e r1 r2
  by_cases hz : us.size = vs.size
  ·have := RcAt.lists (e := f) ⟨_, g1, rfl, _, rfl⟩ ⟨_, g2, rfl, _, rfl⟩ hz (A := A) hu0 (fun j h1 h2 => by
    have := hf j (by simpa using h1) (by simpa using h2)
    simpa using this)
   simpa [hz] using this
  ·have := RcAt.lists_lengths (s := s) ⟨_, g1, rfl, _, rfl⟩ ⟨_, g2, rfl, _, rfl⟩ (by simpa using hz) (A := A) hu0
   have hz' : (us.toList.length == vs.toList.length) = false := by simpa using hz
   rw [hz', Bool.and_false]
   exact this
 | A, .none, b, r, u, v, _, e, _, _ => nos e
 | A, .obj _ _, b, r, u, v, _, e, _, _ => nos e
 | A, .own _, b, r, u, v, _, e, _, _ => nos e
 | A, .top _, b, r, u, v, _, e, _, _ => nos e
theorem veqs_ok : ∀ (A : Around) (a b : List V) (r : Bool) (u v : List Value), A.units + w1 a < cLine -> fZ a b = some r -> Rvs s.heap N σ n a u -> Rvs s.heap N σ n b v ->
  ∃ f : Nat -> Bool, (∀ (j : Nat) (h1 : j < u.length) (h2 : j < v.length), EqAt A s u[j] v[j] (f j)) ∧ r = ((List.range (min u.length v.length)).all f && u.length == v.length)
 | A, [], b, r, u, v, _, e, ra, rb => by
  cases ra
  cases b with
  | nil => cases rb; exact ⟨fun _ => true, fun j h1 _ => absurd h1 (Nat.not_lt_zero _), (Option.some.inj e).symm⟩
  | cons y ys => cases rb; exact ⟨fun _ => true, fun j h1 _ => absurd h1 (Nat.not_lt_zero _), (Option.some.inj e).symm⟩
 | A, x :: xs, [], r, u, v, _, e, ra, rb => by
  cases ra; cases rb
  exact ⟨fun _ => true, fun j _ h2 => absurd h2 (Nat.not_lt_zero _), (Option.some.inj e).symm.trans (by rw [List.length_nil, Nat.min_zero]; rfl)⟩
 | A, x :: xs, y :: ys, r, u, v, hu, e, ra, rb => by
  obtain ⟨u0, us, rfl, r1, r2⟩ := ra.inv
  obtain ⟨v0, vs, rfl, q1, q2⟩ := rb.inv
  obtain ⟨c, d, hc, hd, rfl⟩ := veqs_inv e
  have hu : A.units + Nat.max (qZ x) (w1 xs) < cLine := hu
  have h1 := veq_ok A x y c u0 v0 (Nat.lt_of_le_of_lt (Nat.add_le_add_left (Nat.le_max_left _ _) _) hu) hc r1 q1
  obtain ⟨f, hf, rfl⟩ := veqs_ok A xs ys d us vs (Nat.lt_of_le_of_lt (Nat.add_le_add_left (Nat.le_max_right _ _) _) hu) hd r2 q2
  refine ⟨fun j => match j with | 0 => c | j + 1 => f j, fun j h1' h2' => ?_, ?_⟩
  ·cases j with
   | zero => exact h1
   | succ j => exact hf j (Nat.lt_of_succ_lt_succ h1') (Nat.lt_of_succ_lt_succ h2')
  ·rw [List.length_cons, List.length_cons, Nat.add_min_add_right, List.range_succ_eq_map]
   simp only [List.all_cons, List.all_map]
   have e3 : ((us.length + 1 == vs.length + 1) : Bool) = (us.length == vs.length) := by simp
   rw [e3, Bool.and_assoc]
   rfl
end
end
end
noncomputable section
noncomputable def attOk (K : Frag) (C m : Nat) : Bool :=
 plainGet K C (d9 m) && hasDictIn K C && (match findIn K (.ref C) (d9 m) with | some a => noGet K a | none => false) &&
 decide (findIn K (.ref C) "__setattr__" = some (some (.builtin "object.__setattr__"))) && plainOver K C && decide (takerIn K C (d9 m) = some none)
noncomputable def allAtts (K : Frag) : Bool := attT.all fun p => attOk K p.1 p.2
theorem allAtts_ (P : Params) : allAtts (Kf P) = true := by kernel_rfl
theorem inP_mem : ∀ {l : List (Nat × Nat)} {c m : Nat}, inP c m l = true -> (c, m) ∈ l
 | [], _, _, h => by cases h
 | (a, b) :: r, c, m, h => by
  unfold inP at h
  split at h
  ·rename_i ha
   split at h
   ·rename_i hb
    rw [← Nat.eq_of_beq_eq_true ha, ← Nat.eq_of_beq_eq_true hb]; exact .head _
   ·exact .tail _ (inP_mem h)
  ·exact .tail _ (inP_mem h)
theorem att_ok {P : Params} {C m : Nat} (h : G.att C m = true) : attOk (Kf P) C m = true := List.all_eq_true.mp (allAtts_ P) (C, m) (inP_mem h)
theorem nmT_nodup : nmT.Nodup := by decide +kernel
section
variable {w : World} {hash : V -> Int} {b0 : Heap} {Γ : Nat -> Option (Nat × r8)} {X : FX} {fr : List Addr} {σ c : Nat -> Addr} {s : Shared} {A : Around}
theorem getL_of {h : Heap} {N : Addr -> Prop} {n m : Nat} : ∀ {fs : List (Nat × V)} {es : List DictEntry}, Rfs h N σ n fs es -> m < nmT.length -> ∀ v, v3 m fs = some v -> ∃ u, PySem.W.getL (d9 m) es = some (some u) ∧ Rv h N σ n v u
 | [], _, _, _, v, e => by cases e
 | (a, x) :: fs, _, r0, hm, v, e => by
  obtain ⟨q, t, u, es, rfl, ha, rx, rf⟩ := r0.inv
  unfold v3 at e
  have nm : d9 a = d9 m -> a = m := fun z => by
   unfold d9 at z
   rw [p9, p9, List.getElem?_eq_getElem ha, List.getElem?_eq_getElem hm] at z
   exact (List.getElem_inj nmT_nodup).mp (by simpa using z)
  split at e
  ·rename_i hb
   have hb' := Nat.eq_of_beq_eq_true hb
   subst hb'
   cases e
   refine ⟨u, ?_, rx⟩
   unfold PySem.W.getL
   rw [List.find?_cons]
   have : (Value.str (d9 m) t).isStr (d9 m) = true := by simp [Value.isStr]
   simp only [this]
  ·rename_i hb
   obtain ⟨u', hu, ru⟩ := getL_of rf hm v e
   refine ⟨u', ?_, ru⟩
   unfold PySem.W.getL at hu ⊢
   rw [List.find?_cons]
   have ne : (Value.str (d9 a) t).isStr (d9 m) = false := by
    simp only [Value.isStr]
    rw [beq_eq_false_iff_ne]
    exact fun z => by
     have := nm z
     subst this
     simp at hb
   simp only [ne]
   rw [List.any_cons]
   have rk : (⟨q, .str (d9 a) t, u⟩ : DictEntry).refKey = false := rfl
   rw [rk, Bool.false_or]
   exact hu
theorem rv_handed {h : Heap} {N : Addr -> Prop} {n : Nat} {v : V} {u : Value} (r : Rv h N σ n v u) : handedIn u = true := by cases r <;> rfl
theorem attOk_parts {K : Frag} {C m : Nat} (e : attOk K C m = true) : plainGet K C (d9 m) = true ∧ hasDictIn K C = true ∧ (∃ a, findIn K (.ref C) (d9 m) = some a ∧ noGet K a = true) ∧
  findIn K (.ref C) "__setattr__" = some (some (.builtin "object.__setattr__")) ∧ plainOver K C = true ∧ takerIn K C (d9 m) = some none := by
 unfold attOk at e
 simp only [Bool.and_eq_true, decide_eq_true_eq] at e
 obtain ⟨⟨⟨⟨⟨a, b⟩, c⟩, d⟩, f⟩, g⟩ := e
 refine ⟨a, b, ?_, d, f, g⟩
 split at c
 ·exact ⟨_, by assumption, c⟩
 ·cases c
theorem attr_read {m : Nat} {C x dx : Addr} {fs : List (Nat × V)} {es : Array DictEntry} {ep : Nat} {u : V} {st : St} {k : V -> St -> Prop} {expr : Bool} (W : Wd w b0) (g : Gd hash b0 X fr σ c st s) (ha : G.att C m = true) (hm : m < nmT.length)
  (g1 : s.heap.get? x = some ⟨.ref C, some dx, .plain, #[]⟩) (g2 : s.heap.get? dx = some ⟨.type "dict", none, .dict es ep, #[]⟩) (rf : Rfs s.heap (NN fr c st.led) σ st.led.length fs es.toList) (hl : v3 m fs = some u) (hk : k u st) :
  wpAny (model pr w) A (getAttr (.ref x) (d9 m) expr) (PE1 hash b0 X fr σ c st s k) (fun _ _ => False) s := by
 obtain ⟨p1, p2, ⟨a, p3, p4⟩, _⟩ := attOk_parts (att_ok (P := w.params) ha)
 obtain ⟨v, hv, rv⟩ := getL_of rf hm u hl
 have I : InstAt s.heap x ⟨.ref C, some dx, .plain, #[]⟩ C (some (dictOf es.toList ep)) := ⟨g1, rfl, rfl, by simpa [dictOf] using g2⟩
 have X₀ : (Kf w.params).In s.heap := fun a o e => (K_now W g.r a o e).1
 exact get_value X₀ I (plainGet_of p1).1 (findObj_own p2 p3 p4 hv) (rv_handed rv) (now g rv hk)
theorem look_lt {h : Heap} {N : Addr -> Prop} {n m : Nat} {u : V} : ∀ {fs : List (Nat × V)} {es : List DictEntry}, Rfs h N σ n fs es -> v3 m fs = some u -> m < nmT.length
 | [], _, _, e => by cases e
 | (a, x) :: fs, _, r0, e => by
  obtain ⟨_, _, _, _, rfl, ha, _, rf⟩ := r0.inv
  unfold v3 at e
  split at e
  ·rename_i hb
   rw [Nat.eq_of_beq_eq_true hb]; exact ha
  ·exact look_lt rf e
theorem attr_ok {o : V} {uu : Value} {m : Nat} {st : St} {k : V -> St -> Prop} {expr : Bool} (W : Wd w b0) (g : Gd hash b0 X fr σ c st s) (rv : Rv s.heap (NN fr c st.led) σ st.led.length o uu) (hw : attrK G o m st.led fun u => k u st) :
  wpAny (model pr w) A (getAttr uu (d9 m) expr) (PE1 hash b0 X fr σ c st s k) (fun _ _ => False) s := by
 cases o <;> first | exact hw.elim | skip
 ·obtain ⟨_, _, _, _, rfl, n1, n2, g1, g2, rf⟩ := rv.inv
  exact tr_e hw fun ha hw => vm_e hw fun u hl hw => attr_read W g ha (look_lt rf hl) g1 g2 rf hl hw
 ·obtain ⟨rfl, _⟩ := rv.inv
  refine in_e hw fun C fs hi hw => ?_
  obtain ⟨hn, g1, arr, ep, g2, rf, _⟩ := g.r.cell _ _ hi
  exact tr_e hw fun ha hw => vm_e hw fun u hl hw => attr_read W g ha (look_lt rf hl) g1 g2 rf hl hw
end
end
noncomputable section
inductive Rs (h : Heap) (N : Addr -> Prop) (σ : Nat -> Addr) (n : Nat) : V -> Value -> Prop
 | val {x : V} {u : Value} : Rv h N σ n x u -> Rs h N σ n x u
 | lst {a : Addr} {vs : Array Value} {ep : Nat} {xs : List V} : h.get? a = some ⟨.type "list", Option.none, .seq vs ep, #[]⟩ -> Rvs h N σ n xs vs.toList -> Rs h N σ n (.lst xs) (.ref a)
section
variable {h : Heap} {N : Addr -> Prop} {σ : Nat -> Addr} {n : Nat}
theorem Rs.at {xs : List V} {u : Value} (r : Rs h N σ n (.lst xs) u) : ∃ a vs ep, u = .ref a ∧ h.get? a = some ⟨.type "list", Option.none, .seq vs ep, #[]⟩ ∧ Rvs h N σ n xs vs.toList := by
 cases r with
 | val r => cases r with
  | lst n1 g1 r1 => exact ⟨_, _, _, rfl, g1, r1⟩
 | lst g1 r1 => exact ⟨_, _, _, rfl, g1, r1⟩
noncomputable def isL : V -> Bool
 | .lst _ => true
 | _ => false
theorem Rs.plain {x : V} {u : Value} (r : Rs h N σ n x u) (hx : isL x = false) : Rv h N σ n x u := by
 cases r with
 | val r => exact r
 | lst => cases hx
end
section
variable {w : World} {hash : V -> Int} {b0 : Heap} {Γ : Nat -> Option (Nat × r8)} {X : FX} {fr : List Addr} {σ c : Nat -> Addr} {s : Shared} {A : Around}
theorem seen_ok {led : List O} {h : Heap} {v : V} {u : Value} (r : R hash b0 fr σ c led h) (rv : Rv h (NN fr c led) σ led.length v u) : Rs h (NN fr c led) σ led.length (seen led v) u := by
 unfold seen
 split
 ·rename_i i
  split
  ·rename_i xs hi
   obtain ⟨rfl, _⟩ := rv.inv
   obtain ⟨e, vs, ep, g, rs⟩ := r.cell i _ hi
   rw [e]
   exact .lst g rs
  ·exact .val rv
 ·exact .val rv
open PySem.SeqAt in
section
variable {N : Addr -> Prop} {n : Nat}
theorem rc_tuples {xs ys : List V} {r : Bool} {u v : Value} (hu : A.units + qZ (.tup xs) < cLine) (e : fZ xs ys = some r) (ra : Rv s.heap N σ n (.tup xs) u) (rb : Rv s.heap N σ n (.tup ys) v) : RcAt A s u v r ∧ RcNeAt A s u v (!r) := by
 have hu0 : A.units < cLine := Nat.lt_of_le_of_lt (Nat.le_add_right _ _) hu
 obtain ⟨l, us, e1, rfl, n1, g1, r1⟩ := ra.inv
 obtain ⟨m, vs, e2, rfl, n2, g2, r2⟩ := rb.inv
 obtain ⟨f, hf, rfl⟩ := veqs_ok A.in1 xs ys r us.toList vs.toList (dp hu) e r1 r2
 refine ⟨?_, ?_⟩
 ·have := RcAt.tuples (e := f) ⟨_, g1, rfl, _, rfl⟩ ⟨_, g2, rfl, _, rfl⟩ (A := A) hu0 (fun j h1 h2 => by
   have := hf j (by simpa using h1) (by simpa using h2)
   simpa using this)
  simpa using this
 ·have := RcNeAt.tuples (e := f) ⟨_, g1, rfl, _, rfl⟩ ⟨_, g2, rfl, _, rfl⟩ (A := A) hu0 (fun j h1 h2 => by
   have := hf j (by simpa using h1) (by simpa using h2)
   simpa using this)
  simpa using this
theorem rc_lists {xs ys : List V} {r : Bool} {u v : Value} (hu : A.units + qZ (.lst xs) < cLine) (e : fZ xs ys = some r) (ra : Rs s.heap N σ n (.lst xs) u) (rb : Rs s.heap N σ n (.lst ys) v) : RcAt A s u v r ∧ RcNeAt A s u v (!r) := by
 have hu0 : A.units < cLine := Nat.lt_of_le_of_lt (Nat.le_add_right _ _) hu
 obtain ⟨l, us, e1, rfl, g1, r1⟩ := ra.at
 obtain ⟨m, vs, e2, rfl, g2, r2⟩ := rb.at
 obtain ⟨f, hf, rfl⟩ := veqs_ok A.in1 xs ys r us.toList vs.toList (dp hu) e r1 r2
 by_cases hz : us.size = vs.size
 ·refine ⟨?_, ?_⟩
  ·have := RcAt.lists (e := f) ⟨_, g1, rfl, _, rfl⟩ ⟨_, g2, rfl, _, rfl⟩ hz (A := A) hu0 (fun j h1 h2 => by
    have := hf j (by simpa using h1) (by simpa using h2)
    simpa using this)
   simpa [hz] using this
  ·have := RcNeAt.lists (e := f) ⟨_, g1, rfl, _, rfl⟩ ⟨_, g2, rfl, _, rfl⟩ hz (A := A) hu0 (fun j h1 h2 => by
    have := hf j (by simpa using h1) (by simpa using h2)
    simpa using this)
   simpa [hz] using this
 ·have hz' : (us.toList.length == vs.toList.length) = false := by simpa using hz
  rw [hz', Bool.and_false]
  exact ⟨RcAt.lists_lengths (s := s) ⟨_, g1, rfl, _, rfl⟩ ⟨_, g2, rfl, _, rfl⟩ (by simpa using hz) (A := A) hu0,
   RcNeAt.lists_lengths (s := s) ⟨_, g1, rfl, _, rfl⟩ ⟨_, g2, rfl, _, rfl⟩ (by simpa using hz) (A := A) hu0⟩
theorem rc_ok {a b : V} {r : Bool} {u v : Value} (hu : A.units + qZ a < cLine) (e : veq a b = some r) (ra : Rs s.heap N σ n a u) (rb : Rs s.heap N σ n b v) : RcAt A s u v r ∧ RcNeAt A s u v (!r) := by
 have hu0 : A.units < cLine := Nat.lt_of_le_of_lt (Nat.le_add_right _ _) hu
 cases a with
 | int i =>
  obtain ⟨_, rfl⟩ := (ra.plain rfl).inv
  cases b <;> try (exact nos e)
  ·obtain ⟨_, rfl⟩ := (rb.plain rfl).inv
   exact Option.some.inj e ▸ ⟨RcAt.int_int _ _ _ _, RcNeAt.int_int _ _ _ _⟩
  ·obtain ⟨_, rfl⟩ := (rb.plain rfl).inv
   exact Option.some.inj e ▸ ⟨RcAt.int_str _ _ _ _, RcNeAt.int_str _ _ _ _⟩
  ·obtain ⟨_, _, _, rfl, _, g1, _⟩ := (rb.plain rfl).inv
   exact Option.some.inj e ▸ ⟨RcAt.int_tuple _ _ ⟨_, g1, rfl, _, rfl⟩ hu0, RcNeAt.int_tuple _ _ ⟨_, g1, rfl, _, rfl⟩ hu0⟩
 | str i =>
  obtain ⟨_, rfl⟩ := (ra.plain rfl).inv
  cases b <;> try (exact nos e)
  ·obtain ⟨_, rfl⟩ := (rb.plain rfl).inv
   exact Option.some.inj e ▸ ⟨RcAt.str_int _ _ _ _, RcNeAt.str_int _ _ _ _⟩
  ·obtain ⟨_, rfl⟩ := (rb.plain rfl).inv
   exact Option.some.inj e ▸ ⟨RcAt.str_str _ _ _ _, RcNeAt.str_str _ _ _ _⟩
  ·obtain ⟨_, _, _, rfl, _, g1, _⟩ := (rb.plain rfl).inv
   exact Option.some.inj e ▸ ⟨RcAt.str_tuple _ _ ⟨_, g1, rfl, _, rfl⟩ hu0, RcNeAt.str_tuple _ _ ⟨_, g1, rfl, _, rfl⟩ hu0⟩
 | bool i =>
  obtain rfl := (ra.plain rfl).inv
  cases b <;> try (exact nos e)
  obtain rfl := (rb.plain rfl).inv
  exact Option.some.inj e ▸ ⟨RcAt.bool_bool _ _, RcNeAt.bool_bool _ _⟩
 | tup xs =>
  have ra := ra.plain rfl
  cases b <;> try (exact nos e)
  ·obtain ⟨_, rfl⟩ := (rb.plain rfl).inv
   obtain ⟨_, _, _, rfl, _, g1, _⟩ := ra.inv
   exact Option.some.inj e ▸ ⟨RcAt.tuple_int _ _ ⟨_, g1, rfl, _, rfl⟩ hu0, RcNeAt.tuple_int _ _ ⟨_, g1, rfl, _, rfl⟩ hu0⟩
  ·obtain ⟨_, rfl⟩ := (rb.plain rfl).inv
   obtain ⟨_, _, _, rfl, _, g1, _⟩ := ra.inv
   exact Option.some.inj e ▸ ⟨RcAt.tuple_str _ _ ⟨_, g1, rfl, _, rfl⟩ hu0, RcNeAt.tuple_str _ _ ⟨_, g1, rfl, _, rfl⟩ hu0⟩
  ·exact rc_tuples hu e ra (rb.plain rfl)
 | lst xs =>
  cases b <;> try (exact nos e)
  exact rc_lists hu e ra rb
 | none => exact nos e
 | obj => exact nos e
 | own => exact nos e
 | top => exact nos e
noncomputable def isI (k : Int) : Value -> Bool
 | .int j _ => decide (j = k)
 | _ => false
theorem memI_ok {i : Int} {t : Tok} : ∀ (xs : List V) (us : List Value) (r : Bool), memI i xs = some r -> Rvs s.heap N σ n xs us -> (∀ y ∈ us, EqAt A s y (.int i t) (isI i y)) ∧ r = us.any (isI i)
 | [], us, r, e, rs => by
  rw [show us = [] from rs.inv]
  cases e
  exact ⟨fun _ h => absurd h List.not_mem_nil, rfl⟩
 | x :: xs, us, r, e, rs => by
  obtain ⟨u, vs, rfl, r1, r2⟩ := rs.inv
  clear rs
  cases x <;> try (cases e; done)
  rename_i a
  have e : (match memI i xs with
   | some c => some (decide (a = i) || c)
   | none => none) = some r := e
  cases hd : memI i xs with
  | none => rw [hd] at e; cases e
  | some d =>
   rw [hd] at e
   obtain rfl := Option.some.inj e
   obtain ⟨h3, rfl⟩ := memI_ok xs vs d hd r2
   obtain ⟨_, rfl⟩ := r1.inv
   refine ⟨fun y hy => ?_, rfl⟩
   rcases List.mem_cons.mp hy with rfl | hy
   ·exact EqAt.int_int _ _ _ _
   ·exact h3 _ hy
theorem memL_ok {k : V} {v : Value} : ∀ {xs : List V} {us : List Value} {r : Bool}, xs ≠ [] -> memL k xs = some r -> Rvs s.heap N σ n xs us -> Rv s.heap N σ n k v -> ∃ f : Value -> Bool, (∀ y ∈ us, EqAt A s y v (f y)) ∧ r = us.any f := by
 intro xs us r hx e rs rk
 obtain ⟨i, rfl⟩ : ∃ i, k = .int i := by
  cases xs with
  | nil => exact absurd rfl hx
  | cons x xs =>
   clear rs rk hx
   cases k <;> first | exact ⟨_, rfl⟩ | cases e
 obtain ⟨_, rfl⟩ := rk.inv
 clear hx rk
 exact ⟨isI i, memI_ok xs us r e rs⟩
end
end
end
end Mine
end
section
open Classical PyProof.Rows PySem PySem.W
namespace Mine
noncomputable section
mutual
noncomputable def q9 (w : World) : V -> Int
 | .int i => hashInt i
 | .str x => hashStr w x
 | .tup xs => reduceHash (Builtin.Tuple.tupleHashOf (khashs w xs))
 | _ => 0
noncomputable def khashs (w : World) : List V -> List Int
 | [] => []
 | x :: xs => q9 w x :: khashs w xs
end
mutual
noncomputable def kdraws : V -> Nat
 | .tup xs => kdrawss xs + 1
 | _ => 1
noncomputable def kdrawss : List V -> Nat
 | [] => 0
 | x :: xs => kdraws x + kdrawss xs
end
mutual
inductive j8 (h : Heap) : V -> Value -> Prop
 | int (i : Int) (t : Tok) : j8 h (.int i) (.int i t)
 | str (x : Str) (t : Tok) : j8 h (.str x) (.str x t)
 | tup {a : Addr} {vs : Array Value} {ep : Nat} {xs : List V} : h.get? a = some ⟨.type "tuple", Option.none, .seq vs ep, #[]⟩ -> v8 h xs vs.toList -> j8 h (.tup xs) (.ref a)
inductive v8 (h : Heap) : List V -> List Value -> Prop
 | nil : v8 h [] []
 | cons {x : V} {u : Value} {xs : List V} {us : List Value} : j8 h x u -> v8 h xs us -> v8 h (x :: xs) (u :: us)
end
noncomputable def KeyI (h : Heap) : V -> Value -> Prop
 | .int i, u => ∃ t, u = .int i t
 | .str x, u => ∃ t, u = .str x t
 | .tup xs, u => ∃ a vs ep, u = .ref a ∧ h.get? a = some ⟨.type "tuple", Option.none, .seq vs ep, #[]⟩ ∧ v8 h xs vs.toList
 | _, _ => False
theorem j8.inv {h : Heap} {x : V} {u : Value} (r : j8 h x u) : KeyI h x u := by
 cases r with
 | int i t => exact ⟨t, rfl⟩
 | str i t => exact ⟨t, rfl⟩
 | tup g r => exact ⟨_, _, _, rfl, g, r⟩
noncomputable def KeysI (h : Heap) : List V -> List Value -> Prop
 | [], us => us = []
 | x :: xs, us => ∃ u vs, us = u :: vs ∧ j8 h x u ∧ v8 h xs vs
theorem v8.inv {h : Heap} {x : List V} {u : List Value} (r : v8 h x u) : KeysI h x u := by
 cases r with
 | nil => rfl
 | cons a b => exact ⟨_, _, rfl, a, b⟩
mutual
theorem j8.inj' {h : Heap} : ∀ (x : V) {y : V} {u : Value}, j8 h x u -> j8 h y u -> x = y
 | .int i, _, _, r, q => by
  obtain ⟨t, rfl⟩ := r.inv
  cases q; rfl
 | .str i, _, _, r, q => by
  obtain ⟨t, rfl⟩ := r.inv
  cases q; rfl
 | .tup xs, _, _, r, q => by
  obtain ⟨a, vs, ep, rfl, g, r⟩ := r.inv
  cases q with
  | tup g' r' =>
   rw [g] at g'
   cases g'
   rw [v8.inj' xs r r']
 | .none, _, _, r, _ => r.inv.elim
 | .bool _, _, _, r, _ => r.inv.elim
 | .lst _, _, _, r, _ => r.inv.elim
 | .obj _ _, _, _, r, _ => r.inv.elim
 | .own _, _, _, r, _ => r.inv.elim
 | .top _, _, _, r, _ => r.inv.elim
theorem v8.inj' {h : Heap} : ∀ (x : List V) {y : List V} {u : List Value}, v8 h x u -> v8 h y u -> x = y
 | [], _, _, r, q => by
  obtain rfl := r.inv
  cases q; rfl
 | x :: xs, _, _, r, q => by
  obtain ⟨u, us, rfl, a, b⟩ := r.inv
  cases q with
  | cons a' b' => rw [j8.inj' x a a', v8.inj' xs b b']
end
theorem j8.inj {h : Heap} {x y : V} {u : Value} (a : j8 h x u) (b : j8 h y u) : x = y := j8.inj' x a b
mutual
theorem j8.keeps' {h h' : Heap} {d : Addr} {o : Obj} {es : Array DictEntry} {ep : Nat} (ho : h.get? d = some o) (hd : o.data = .dict es ep) (hs : Heap.SameBut d h h') : ∀ (x : V) {u : Value}, j8 h x u -> j8 h' x u
 | .int i, _, r => by
  obtain ⟨t, rfl⟩ := r.inv
  exact .int i t
 | .str i, _, r => by
  obtain ⟨t, rfl⟩ := r.inv
  exact .str i t
 | .tup xs, _, r => by
  obtain ⟨a, vs, ep, rfl, g, r⟩ := r.inv
  exact .tup ((hs.2 a (by rintro rfl; rw [g] at ho; cases ho; cases hd)).trans g) (v8.keeps' ho hd hs xs r)
 | .none, _, r => r.inv.elim
 | .bool _, _, r => r.inv.elim
 | .lst _, _, r => r.inv.elim
 | .obj _ _, _, r => r.inv.elim
 | .own _, _, r => r.inv.elim
 | .top _, _, r => r.inv.elim
theorem v8.keeps' {h h' : Heap} {d : Addr} {o : Obj} {es : Array DictEntry} {ep : Nat} (ho : h.get? d = some o) (hd : o.data = .dict es ep) (hs : Heap.SameBut d h h') : ∀ (x : List V) {u : List Value}, v8 h x u -> v8 h' x u
 | [], _, r => by
  obtain rfl := r.inv
  exact .nil
 | x :: xs, _, r => by
  obtain ⟨u, us, rfl, a, b⟩ := r.inv
  exact .cons (j8.keeps' ho hd hs x a) (v8.keeps' ho hd hs xs b)
end
theorem j8.keeps {h h' : Heap} {d : Addr} {o : Obj} {es : Array DictEntry} {ep : Nat} {x : V} {u : Value} (r : j8 h x u) (ho : h.get? d = some o) (hd : o.data = .dict es ep) (hs : Heap.SameBut d h h') : j8 h' x u := j8.keeps' ho hd hs x r
mutual
theorem j8.rv' {h : Heap} {σ : Nat -> Addr} {n : Nat} : ∀ (x : V) {u : Value}, j8 h x u -> Rv h (fun _ => False) σ n x u
 | .int i, _, r => by
  obtain ⟨t, rfl⟩ := r.inv
  exact .int i t
 | .str i, _, r => by
  obtain ⟨t, rfl⟩ := r.inv
  exact .str i t
 | .tup xs, _, r => by
  obtain ⟨a, vs, ep, rfl, g, r⟩ := r.inv
  exact .tup id g (v8.rv' xs r)
 | .none, _, r => r.inv.elim
 | .bool _, _, r => r.inv.elim
 | .lst _, _, r => r.inv.elim
 | .obj _ _, _, r => r.inv.elim
 | .own _, _, r => r.inv.elim
 | .top _, _, r => r.inv.elim
theorem v8.rv' {h : Heap} {σ : Nat -> Addr} {n : Nat} : ∀ (x : List V) {u : List Value}, v8 h x u -> Rvs h (fun _ => False) σ n x u
 | [], _, r => by
  obtain rfl := r.inv
  exact .nil
 | x :: xs, _, r => by
  obtain ⟨u, us, rfl, a, b⟩ := r.inv
  exact .cons (j8.rv' x a) (v8.rv' xs b)
end
theorem j8.rv {h : Heap} {σ : Nat -> Addr} {n : Nat} {x : V} {u : Value} (r : j8 h x u) : Rv h (fun _ => False) σ n x u := j8.rv' x r
mutual
theorem key_of' {h : Heap} {N : Addr -> Prop} {σ : Nat -> Addr} {n : Nat} : ∀ (x : V) {d : Nat} {u : Value}, Rv h N σ n x u -> kok d x = true -> j8 h x u
 | .int i, _, _, r, _ => by
  obtain ⟨t, rfl⟩ := r.inv
  exact .int i t
 | .str i, _, _, r, _ => by
  obtain ⟨t, rfl⟩ := r.inv
  exact .str i t
 | .tup xs, d, _, r, e => by
  obtain ⟨a, vs, ep, rfl, _, g, r⟩ := r.inv
  cases d with
  | zero => exact Bool.noConfusion e
  | succ d => exact .tup g (keys_of' xs (d := d) r (by simpa [kok] using e))
 | .none, d, _, _, e => by cases d <;> exact Bool.noConfusion e
 | .bool _, d, _, _, e => by cases d <;> exact Bool.noConfusion e
 | .lst _, d, _, _, e => by cases d <;> exact Bool.noConfusion e
 | .obj _ _, d, _, _, e => by cases d <;> exact Bool.noConfusion e
 | .own _, d, _, _, e => by cases d <;> exact Bool.noConfusion e
 | .top _, d, _, _, e => by cases d <;> exact Bool.noConfusion e
theorem keys_of' {h : Heap} {N : Addr -> Prop} {σ : Nat -> Addr} {n : Nat} : ∀ (x : List V) {d : Nat} {u : List Value}, Rvs h N σ n x u -> (∀ y ∈ x, kok d y = true) -> v8 h x u
 | [], _, _, r, _ => by
  obtain rfl := r.inv
  exact .nil
 | x :: xs, _, _, r, e => by
  obtain ⟨u, us, rfl, a, b⟩ := r.inv
  exact .cons (key_of' x a (e _ (.head _))) (keys_of' xs b fun y hy => e y (.tail _ hy))
end
theorem key_of {h : Heap} {N : Addr -> Prop} {σ : Nat -> Addr} {n d : Nat} {x : V} {u : Value} (r : Rv h N σ n x u) (e : kok d x = true) : j8 h x u := key_of' x r e
mutual
theorem kok_dep : ∀ {d : Nat} {x : V}, kok d x = true -> qZ x ≤ d
 | d, .int _, _ => Nat.zero_le _
 | d, .str _, _ => Nat.zero_le _
 | d + 1, .tup xs, e => Nat.succ_le_succ (kok_deps (d := d) (x := xs) (List.all_eq_true.mp e))
 | 0, .tup xs, e => by exact (Bool.false_ne_true e).elim
 | d, .none, e => by cases d <;> exact Bool.noConfusion e
 | d, .bool _, e => by cases d <;> exact Bool.noConfusion e
 | d, .lst _, e => by cases d <;> exact Bool.noConfusion e
 | d, .obj _ _, e => by cases d <;> exact Bool.noConfusion e
 | d, .own _, e => by cases d <;> exact Bool.noConfusion e
 | d, .top _, e => by cases d <;> exact Bool.noConfusion e
theorem kok_deps : ∀ {d : Nat} {x : List V}, (∀ y ∈ x, kok d y = true) -> w1 x ≤ d
 | d, [], _ => Nat.zero_le _
 | d, x :: xs, e => by
  show Nat.max (qZ x) (w1 xs) ≤ d
  exact Nat.max_le.mpr ⟨kok_dep (e _ (.head _)), kok_deps fun y hy => e y (.tail _ hy)⟩
end
mutual
theorem veq_key : ∀ {d e : Nat} {x y : V}, kok d x = true -> kok e y = true -> veq x y = some (decide (x = y))
 | d, e, .int i, y, _, h2 => by
  cases y <;> first | exact congrArg some (decide_eq_false fun h => nomatch h).symm | exact congrArg some (decide_eq_decide.mpr ⟨fun h => h ▸ rfl, fun h => V.int.inj h⟩) | (cases e <;> exact Bool.noConfusion h2)
 | d, e, .str i, y, _, h2 => by
  cases y <;> first | exact congrArg some (decide_eq_false fun h => nomatch h).symm | exact congrArg some ((Bool.beq_eq_decide_eq _ _).trans (decide_eq_decide.mpr ⟨fun h => h ▸ rfl, fun h => V.str.inj h⟩)) | (cases e <;> exact Bool.noConfusion h2)
 | d, e, .tup xs, y, h1, h2 => by
  cases y <;> try (cases e <;> exact Bool.noConfusion h2)
  ·exact congrArg some (decide_eq_false fun h => nomatch h).symm
  ·exact congrArg some (decide_eq_false fun h => nomatch h).symm
  ·cases d with
   | zero => exact (Bool.false_ne_true h1).elim
   | succ d => cases e with
    | zero => exact (Bool.false_ne_true h2).elim
    | succ e =>
     rename_i ys
     exact (veqs_key (d := d) (e := e) (List.all_eq_true.mp h1) (List.all_eq_true.mp h2)).trans (congrArg some (decide_eq_decide.mpr ⟨fun h => h ▸ rfl, fun h => V.tup.inj h⟩))
 | d, e, .none, _, h, _ => by cases d <;> exact Bool.noConfusion h
 | d, e, .bool _, _, h, _ => by cases d <;> exact Bool.noConfusion h
 | d, e, .lst _, _, h, _ => by cases d <;> exact Bool.noConfusion h
 | d, e, .obj _ _, _, h, _ => by cases d <;> exact Bool.noConfusion h
 | d, e, .own _, _, h, _ => by cases d <;> exact Bool.noConfusion h
 | d, e, .top _, _, h, _ => by cases d <;> exact Bool.noConfusion h
theorem veqs_key : ∀ {d e : Nat} {x y : List V}, (∀ z ∈ x, kok d z = true) -> (∀ z ∈ y, kok e z = true) -> fZ x y = some (decide (x = y))
 | d, e, [], [], _, _ => by simp [fZ]
 | d, e, [], _ :: _, _, _ => by simp [fZ]
 | d, e, _ :: _, [], _, _ => by simp [fZ]
 | d, e, x :: xs, y :: ys, h1, h2 => by
  simp only [fZ]
  rw [veq_key (h1 _ (.head _)) (h2 _ (.head _)), veqs_key (fun z hz => h1 z (.tail _ hz)) (fun z hz => h2 z (.tail _ hz))]
  simp [Bool.decide_and]
end
end
end Mine
end
section
open Classical PyProof.Rows PySem PySem.SeqAt PySem.W
namespace Mine
noncomputable section
section
variable {w : World} {A : Around} {E : Value -> Shared -> Prop} {s : Shared}
theorem key_tupleType {h : Heap} {vs : Array Value} {a : Addr} {ep : Nat} (g : h.get? a = some ⟨.type "tuple", Option.none, .seq vs ep, #[]⟩) (hs : s.heap = h) : s.TypeIs (.ref a) "tuple" := ⟨_, hs ▸ g, rfl⟩
mutual
theorem pyHash_key : ∀ (x : V) (A : Around) (E : Value -> Shared -> Prop) (s : Shared) (u : Value) (Q : Int -> Shared -> Prop), A.units + qZ x < cLine -> j8 s.heap x u -> Q (q9 w x) { s with toks := s.toks + kdraws x } -> wpAny (model pr w) A (PySem.pyHash u) Q E s
 | .int i, A, E, s, u, Q, hu, r, h => by
  obtain ⟨_, rfl⟩ := r.inv
  exact (intKind pr w).pyHash (by simp [intKind, Value.isInt]) h
 | .str i, A, E, s, u, Q, hu, r, h => by
  obtain ⟨_, rfl⟩ := r.inv
  exact (PySem.strKind pr w).pyHash (by simp [PySem.strKind, Value.isStrOf]) h
 | .tup xs, A, E, s, u, Q, hu, r, h => by
  obtain ⟨a, vs, ep, rfl, g, rs⟩ := r.inv
  ·have hT : s.TypeIs (.ref a) "tuple" := ⟨_, g, rfl⟩
   unfold PySem.pyHash
   first | unfold pyHashByItsType | skip
   first | refine wpAny_bind (wpAny_cRoomFor_or (.inr (by omega)) ?_) | skip
   refine wpAny_bind (wpAny_specialOf hT F.slot_tuple_hash.lookup ?_)
   show wpAny _ _ (if (some (Value.builtin "tuple.__hash__") == some Value.none) = true then _ else _) Q E s
   rw [if_neg (by rw [beq_builtin_none]; exact Bool.false_ne_true)]
   refine wpAny_bind (wpAny_specialOf hT F.slot_tuple_hash.lookup ?_)
   show wpAny _ _ (callSpecialIfBoundUnlessNone? (.ref a) "__hash__" _ >>= _) Q E s
   refine wpAny_bind (wpAny_callSpecialIfBoundUnlessNone?_slot hT F.slot_tuple_hash (wpAny_call_entry F.slot_tuple_hash hT F.entry_tuple_hash ?_ (F.args_tuple_hash_1 _)))
   show wpAny _ _ (Builtin.Tuple.tupleItemsOf (.ref a) >>= _) _ _ s
   refine wpAny_bind (wpAny_tupleItemsOf g rfl ?_)
   refine wpAny_bind ?_
   rw [← Array.forIn_toList]
   refine hashes_key xs _ _ _ vs.toList [] _ _ _ (in1u hu (Nat.le_refl _)) rs rfl ?_ rfl
   intro b hb
   show wpAny _ _ (retInt (Builtin.Tuple.tupleHashOf b.toList)) _ _ _
   rw [hb]
   refine wpAny_ret_mkInt ?_
   show wpAny _ _ (if (decide (-(2 : Int) ^ 63 ≤ Builtin.Tuple.tupleHashOf ([] ++ khashs w xs)) && decide (Builtin.Tuple.tupleHashOf ([] ++ khashs w xs) < 2 ^ 63)) = true then _ else _) Q E _
   rw [List.nil_append]
   simp only [q9, kdraws] at h
   unfold reduceHash at h
   by_cases hr : (decide (-(2 : Int) ^ 63 ≤ Builtin.Tuple.tupleHashOf (khashs w xs)) && decide (Builtin.Tuple.tupleHashOf (khashs w xs) < 2 ^ 63)) = true
   ·rw [if_pos hr]
    rw [if_pos hr] at h
    exact wpAny_pure (by simpa [Nat.add_assoc] using h)
   ·rw [if_neg hr]
    rw [if_neg hr] at h
    exact wpAny_bind (wpAny_rule (wpAny_pure (by simpa [Nat.add_assoc] using h)))
 | .none, _, _, _, _, _, _, r, _ => r.inv.elim
 | .bool _, _, _, _, _, _, _, r, _ => r.inv.elim
 | .lst _, _, _, _, _, _, _, r, _ => r.inv.elim
 | .obj _ _, _, _, _, _, _, _, r, _ => r.inv.elim
 | .own _, _, _, _, _, _, _, r, _ => r.inv.elim
 | .top _, _, _, _, _, _, _, r, _ => r.inv.elim
theorem hashes_key : ∀ (xs : List V) (A : Around) (E : Value -> Shared -> Prop) (s : Shared) (us : List Value) (done : List Int) (b : Array Int) (Q : Array Int -> Shared -> Prop) (f : Value -> Array Int -> Sem (ForInStep (Array Int))), A.units + w1 xs < cLine -> v8 s.heap xs us ->
  b.toList = done -> (∀ b' : Array Int, b'.toList = done ++ khashs w xs -> Q b' { s with toks := s.toks + kdrawss xs }) -> f = (fun x r => do let v ← PySem.pyHash x; pure PUnit.unit; pure (ForInStep.yield (r.push v))) -> wpAny (model pr w) A (forIn us b f) Q E s
 | [], A, E, s, us, done, b, Q, f, hu, r, hb, h, _ => by
  cases r
  rw [List.forIn_nil]
  exact wpAny_pure (h b (by simp [hb, khashs]))
 | x :: xs, A, E, s, us, done, b, Q, f, hu, r, hb, h, hf => by
  cases r with
  | @cons _ u _ us r1 r2 =>
   rw [List.forIn_cons]
   simp only [w1] at hu
   have e2 : Nat.max (qZ x) (w1 xs) = max (qZ x) (w1 xs) := rfl
   refine wpAny_bind ?_
   subst hf
   refine wpAny_bind (pyHash_key x A E s u _ (Nat.lt_of_le_of_lt (Nat.add_le_add_left (Nat.le_max_left _ _) _) hu) r1 ?_)
   refine wpAny_bind (wpAny_pure ?_)
   refine wpAny_pure ?_
   refine hashes_key xs A E _ us (done ++ [q9 w x]) _ Q _ (Nat.lt_of_le_of_lt (Nat.add_le_add_left (Nat.le_max_right _ _) _) hu) r2 (by simp [hb]) (fun b' hb' => ?_) rfl
   have := h b' (by rw [hb']; simp [khashs])
   simpa [kdrawss, Nat.add_assoc] using this
end
mutual
theorem quiet_key : ∀ (x : V) (n : Nat) (A : Around) (E : Value -> Shared -> Prop) (s : Shared) (u : Value) (Q : Bool -> Shared -> Prop), qZ x ≤ n -> j8 s.heap x u -> Q true s -> wpAny (model pr w) A (eqIsQuiet n u) Q E s
 | .int i, n, A, E, s, u, Q, hu, r, h => by
  obtain ⟨_, rfl⟩ := r.inv
  rw [eqIsQuiet_byValue _ rfl]
  exact wpAny_pure h
 | .str i, n, A, E, s, u, Q, hu, r, h => by
  obtain ⟨_, rfl⟩ := r.inv
  rw [eqIsQuiet_byValue _ rfl]
  exact wpAny_pure h
 | .tup xs, n, A, E, s, u, Q, hu, r, h => by
  obtain ⟨a, vs, ep, rfl, g, rs⟩ := r.inv
  ·have hT : s.TypeIs (.ref a) "tuple" := ⟨_, g, rfl⟩
   cases n with
   | zero => simp [qZ] at hu
   | succ n =>
    unfold eqIsQuiet
    refine wpAny_bind (wpAny_specialOf hT F.slot_tuple_eq.lookup ?_)
    show wpAny _ _ (isInstance (.ref a) (.type "tuple") >>= _) _ _ s
    refine wpAny_bind (wpAny_isInstance hT isSubtype_tuple_tuple ?_)
    simp only [Bool.not_true, Bool.false_eq_true, if_false]
    refine wpAny_bind (wpAny_seqItems g rfl ?_)
    refine wpAny_bind ?_
    show wpAny _ _ (forIn vs _ _) _ _ s
    rw [← Array.forIn_toList]
    refine wpAny_forIn_list _ (fun rest r s' => r.1 = none ∧ s' = s ∧ ∀ v ∈ rest, ∀ (A : Around) (E : Value -> Shared -> Prop) (Q : Bool -> Shared -> Prop), Q true s -> wpAny (model pr w) A (eqIsQuiet n v) Q E s) _ ?_ ?_ _ _ ⟨rfl, rfl, quiets_key xs n s vs.toList (Nat.le_of_succ_le_succ hu) rs⟩
    ·rintro v rest r s' ⟨hr, rfl, hall⟩
     refine wpAny_bind (hall v List.mem_cons_self _ _ _ ?_)
     simp only [Bool.not_true, Bool.false_eq_true, if_false]
     exact wpAny_pure ⟨rfl, rfl, fun u hu' => hall u (List.mem_cons_of_mem _ hu')⟩
    ·rintro ⟨r1, r2⟩ s' ⟨hr, rfl, _⟩
     simp only at hr
     subst hr
     exact wpAny_pure h
 | .none, _, _, _, _, _, _, _, r, _ => r.inv.elim
 | .bool _, _, _, _, _, _, _, _, r, _ => r.inv.elim
 | .lst _, _, _, _, _, _, _, _, r, _ => r.inv.elim
 | .obj _ _, _, _, _, _, _, _, _, r, _ => r.inv.elim
 | .own _, _, _, _, _, _, _, _, r, _ => r.inv.elim
 | .top _, _, _, _, _, _, _, _, r, _ => r.inv.elim
theorem quiets_key : ∀ (xs : List V) (n : Nat) (s : Shared) (us : List Value), w1 xs ≤ n -> v8 s.heap xs us -> ∀ v ∈ us, ∀ (A : Around) (E : Value -> Shared -> Prop) (Q : Bool -> Shared -> Prop), Q true s -> wpAny (model pr w) A (eqIsQuiet n v) Q E s
 | [], n, s, us, hu, r => by
  cases r
  intro v hv
  cases hv
 | x :: xs, n, s, us, hu, r => by
  cases r with
  | @cons _ u _ us r1 r2 =>
   simp only [w1] at hu
   have e2 : Nat.max (qZ x) (w1 xs) = max (qZ x) (w1 xs) := rfl
   intro v hv A E Q h
   rcases List.mem_cons.mp hv with rfl | hv
   ·exact quiet_key x n A E s v Q (Nat.le_trans (Nat.le_max_left _ _) hu) r1 h
   ·exact quiets_key xs n s us (Nat.le_trans (Nat.le_max_right _ _) hu) r2 v hv A E Q h
end
noncomputable def tKind (w : World) : HeapKind pr w V where
 is h k a := kok 7 k = true ∧ j8 h k (.ref a)
 hash := q9 w
 draws := kdraws
 room A := A.units + 20 < cLine
 inj := fun hx hy => hx.2.inj hy.2
 keeps := fun x ho hd hs => ⟨x.1, x.2.keeps ho hd hs⟩
 pyHash := fun hu hk h => pyHash_key _ _ _ _ _ _ (Nat.lt_of_le_of_lt (Nat.add_le_add_left (Nat.le_trans (kok_dep hk.1) (by decide)) _) hu) hk.2 h
 eqBool := fun hu hx hy h => veq_ok (σ := fun _ => 0) (n := 0) _ _ _ _ _ _ (Nat.lt_of_le_of_lt (Nat.add_le_add_left (Nat.le_trans (kok_dep hx.1) (by decide)) _) hu) (veq_key hx.1 hy.1) hx.2.rv hy.2.rv pr w _ _ h
 quiet := fun hk h => quiet_key _ _ _ _ _ _ _ (by have := kok_dep hk.1; omega) hk.2 h
noncomputable def isIntV (i : Int) (u : Value) : Bool := match u with
 | .int j _ => decide (i = j)
 | _ => false
noncomputable def vIs (x : V) (u : Value) : Bool := match x with
 | .int i => isIntV i u
 | .str s => u.isStr s
 | _ => false
theorem isIntV_inv {i : Int} {u : Value} (e : isIntV i u = true) : ∃ t, u = .int i t := by
 cases u <;> first | exact ⟨_, by rw [of_decide_eq_true e]⟩ | exact Bool.noConfusion e
theorem isStr_inv {i : Str} {u : Value} (e : u.isStr i = true) : ∃ t, u = .str i t := by
 cases u <;> first | exact ⟨_, by rw [eq_of_beq e]⟩ | exact Bool.noConfusion e
theorem dZ {x : V} {u : Value} (e : vIs x u = true) : (∃ i t, x = .int i ∧ u = .int i t) ∨ ∃ i t, x = .str i ∧ u = .str i t := by
 cases x with
 | int i => exact .inl ⟨_, let ⟨t, q⟩ := isIntV_inv e; ⟨t, rfl, q⟩⟩
 | str i => exact .inr ⟨_, let ⟨t, q⟩ := isStr_inv e; ⟨t, rfl, q⟩⟩
 | _ => exact Bool.noConfusion e
theorem vIs_at {h : Heap} {x : V} {u : Value} (e : vIs x u = true) : j8 h x u := by
 rcases dZ e with ⟨i, t, rfl, rfl⟩ | ⟨i, t, rfl, rfl⟩
 ·exact .int _ _
 ·exact .str _ _
noncomputable def vKind (w : World) : PySem.KeyKind pr w V where
 is := vIs
 hash := q9 w
 inj := fun v a b ha hb => (vIs_at (h := default) ha).inj (vIs_at hb)
 byValue := fun k v h => by rcases dZ h with ⟨i, t, rfl, rfl⟩ | ⟨i, t, rfl, rfl⟩ <;> rfl
 pyHash := fun {A E s k v Q} hv h => by
  rcases dZ hv with ⟨i, t, rfl, rfl⟩ | ⟨i, t, rfl, rfl⟩
  ·exact (intKind pr w).pyHash (by simp [intKind, Value.isInt]) h
  ·exact (PySem.strKind pr w).pyHash (by simp [PySem.strKind, Value.isStrOf]) h
 eqBool := fun {A E s a b u v Q} hu hv h => by
  rcases dZ hu with ⟨i, t, rfl, rfl⟩ | ⟨i, t, rfl, rfl⟩ <;> rcases dZ hv with ⟨j, t', rfl, rfl⟩ | ⟨j, t', rfl, rfl⟩
  ·exact EqAt.int_int _ _ _ _ pr w _ _ (by
    have e : (i == j) = decide (V.int i = V.int j) := by by_cases q : i = j <;> simp [q]
    rw [e]; exact h)
  ·exact EqAt.int_str _ _ _ _ pr w _ _ (by simpa using h)
  ·exact EqAt.str_int _ _ _ _ pr w _ _ (by simpa using h)
  ·exact EqAt.str_str _ _ _ _ pr w _ _ (by simpa [Bool.beq_eq_decide_eq] using h)
 «strs» := fun k x t v h => by
  rcases dZ h with ⟨i, t, rfl, q⟩ | ⟨i, t, rfl, q⟩
  ·cases q
  ·cases q
   rfl
end
end
end Mine
end
section
open Classical PyProof.Rows PySem PySem.W
namespace Mine
noncomputable section
noncomputable def k0 (h : Heap) (N : Addr -> Prop) (σ : Nat -> Addr) (n : Nat) (hash : V -> Int) (d : Addr) (es : List (V × V)) : Prop :=
 ∃ arr ep, h.get? d = some ⟨.type "dict", none, .dict arr ep, #[]⟩ ∧ f0 (EntOk h N σ n hash) es arr.toList ∧ KeysOk es ∧ (es.map (·.1)).Nodup
theorem dget_find {k : V} (hk : kok 7 k = true) : ∀ {es : List (V × V)}, (∀ p ∈ es, kok 7 p.1 = true) -> j1 es k = some ((es.find? fun p => decide (p.1 = k)).map (·.2))
 | [], _ => rfl
 | (a, v) :: r, h => by
  rw [j1, veq_key (h _ (.head _)) hk]
  by_cases q : a = k
  ·simp [q]
  ·simp [q, dget_find hk fun p hp => h p (.tail _ hp)]
theorem dput_eq {k v : V} (hk : kok 7 k = true) : ∀ {es : List (V × V)}, (∀ p ∈ es, kok 7 p.1 = true) -> (es.map (·.1)).Nodup ->
  u3 es k v = if es.any (fun p => decide (p.1 = k)) = true then es.map (fun p => if p.1 = k then (p.1, v) else p) else es ++ [(k, v)]
 | [], _, _ => by simp [u3]
 | (a, u) :: r, h, hn => by
  rw [u3, veq_key (h _ (.head _)) hk]
  rw [List.map_cons, List.nodup_cons] at hn
  by_cases q : a = k
  ·subst q
   have : r.map (fun p => if p.1 = a then (p.1, v) else p) = r := by
    have q : r.map (fun p => if p.1 = a then (p.1, v) else p) = r.map id := List.map_congr_left fun p hp => if_neg fun e => hn.1 (List.mem_map.mpr ⟨p, hp, e⟩)
    rw [q, List.map_id]
   simp [this]
  ·simp only [q, decide_false, List.any_cons, Bool.false_or, List.map_cons, if_false, List.cons_append]
   rw [dput_eq hk (fun p hp => h p (.tail _ hp)) hn.2]
   split <;> rfl
section
variable {w : World} {h : Heap} {N : Addr -> Prop} {σ : Nat -> Addr} {n : Nat} {d : Addr} {es : List (V × V)}
theorem isT_ref {k : V} {u : Value} (r : Rv h N σ n k u) (e : isT k = true) : ∃ a, u = .ref a := by
 cases r <;> simp [isT] at e
 exact ⟨_, rfl⟩
theorem notT_is {k : V} {u : Value} (r : Rv h N σ n k u) (hk : kok 7 k = true) (e : isT k = false) : vIs k u = true := by
 cases k <;> first | exact Bool.noConfusion e | exact Bool.noConfusion hk | skip
 ·obtain ⟨t, rfl⟩ := r.inv; exact decide_eq_true rfl
 ·obtain ⟨t, rfl⟩ := r.inv; exact beq_self_eq_true _
theorem dict_byV (D : k0 h N σ n (q9 w) d es) (hT : ∀ p ∈ es, isT p.1 = false) :
  ∃ kvs : List (V × Value), h.DictOf (vKind w) d kvs ∧ f0 (fun p q => p.1 = q.1 ∧ Rv h N σ n p.2 q.2) es kvs := by
 obtain ⟨arr, ep, g, al, ko, nd⟩ := D
 have main : ∀ (es : List (V × V)) (l : List DictEntry), f0 (EntOk h N σ n (q9 w)) es l -> (∀ p ∈ es, isT p.1 = false) -> (∀ p ∈ es, kok 7 p.1 = true) ->
   ∃ kvs : List (V × Value), Pairs (vKind w) l kvs ∧ f0 (fun p q => p.1 = q.1 ∧ Rv h N σ n p.2 q.2) es kvs ∧ kvs.map (·.1) = es.map (·.1) ∧ ∀ e ∈ l, ∃ k, (vKind w).is k e.key = true ∧ e.hash = (vKind w).hash k := by
  intro es l al
  induction al with
  | nil => intro _ _; exact ⟨[], .nil, .nil, rfl, by simp⟩
  | @cons p e es l q _ ih =>
   intro h1 h2
   obtain ⟨kvs, a1, a2, a3, a4⟩ := ih (fun p hp => h1 p (.tail _ hp)) fun p hp => h2 p (.tail _ hp)
   have hi := notT_is q.1 (h2 _ (.head _)) (h1 _ (.head _))
   refine ⟨(p.1, e.val) :: kvs, .cons hi rfl a1, .cons ⟨rfl, q.2.2⟩ a2, by simp [a3], fun e' he => ?_⟩
   rcases List.mem_cons.mp he with rfl | he
   ·exact ⟨_, hi, q.2.1⟩
   ·exact a4 e' he
 obtain ⟨kvs, a1, a2, a3, a4⟩ := main es arr.toList al hT ko.1
 exact ⟨kvs, ⟨_, arr, ep, g, ⟨rfl, rfl, rfl⟩, rfl, fun e he => a4 e (Array.mem_toList_iff.mpr he), a1, by rw [a3]; exact nd⟩, a2⟩
theorem dict_byH (D : k0 h N σ n (q9 w) d es) (hT : ∀ p ∈ es, isT p.1 = true) :
  ∃ xs : List (V × Addr × Value), h.DictOfH (tKind w) d xs ∧ f0 (fun p x => p.1 = x.1 ∧ Rv h N σ n p.1 (.ref x.2.1) ∧ Rv h N σ n p.2 x.2.2) es xs := by
 obtain ⟨arr, ep, g, al, ko, nd⟩ := D
 have main : ∀ (es : List (V × V)) (l : List DictEntry), f0 (EntOk h N σ n (q9 w)) es l -> (∀ p ∈ es, isT p.1 = true) -> (∀ p ∈ es, kok 7 p.1 = true) ->
   ∃ xs : List (V × Addr × Value), l = xs.map (entryOfKey (tKind w)) ∧ f0 (fun p x => p.1 = x.1 ∧ Rv h N σ n p.1 (.ref x.2.1) ∧ Rv h N σ n p.2 x.2.2) es xs ∧ xs.map (·.1) = es.map (·.1) ∧ ∀ x ∈ xs, (tKind w).is h x.1 x.2.1 := by
  intro es l al
  induction al with
  | nil => intro _ _; exact ⟨[], rfl, .nil, rfl, by simp⟩
  | @cons p e es l q _ ih =>
   intro h1 h2
   obtain ⟨xs, a1, a2, a3, a4⟩ := ih (fun p hp => h1 p (.tail _ hp)) fun p hp => h2 p (.tail _ hp)
   obtain ⟨a, ha⟩ := isT_ref q.1 (h1 _ (.head _))
   obtain ⟨eh, ek, ev⟩ := e
   simp only at ha
   subst ha
   have q2 : eh = q9 w p.1 := q.2.1
   subst q2
   refine ⟨(p.1, a, ev) :: xs, by simp [a1, entryOfKey, tKind], .cons ⟨rfl, q.1, q.2.2⟩ a2, by simp [a3], fun x hx => ?_⟩
   rcases List.mem_cons.mp hx with rfl | hx
   ·exact ⟨h2 _ (.head _), key_of q.1 (h2 _ (.head _))⟩
   ·exact a4 x hx
 obtain ⟨xs, a1, a2, a3, a4⟩ := main es arr.toList al hT ko.1
 exact ⟨xs, ⟨_, arr, ep, g, ⟨rfl, rfl, rfl⟩, rfl, a1, a4, by rw [a3]; exact nd⟩, a2⟩
inductive OptRv (h : Heap) (N : Addr -> Prop) (σ : Nat -> Addr) (n : Nat) : Option V -> Option Value -> Prop
 | none : OptRv h N σ n none none
 | some {v : V} {u : Value} : Rv h N σ n v u -> OptRv h N σ n (some v) (some u)
theorem find_all2 {α : Type} {k : V} {f : α -> V} {g : α -> Value} {es : List (V × V)} {l : List α} (a : f0 (fun p q => p.1 = f q ∧ Rv h N σ n p.2 (g q)) es l) :
  OptRv h N σ n ((es.find? fun p => decide (p.1 = k)).map (·.2)) ((l.find? fun q => decide (f q = k)).map g) := by
 induction a with
 | nil => exact .none
 | @cons p q es l x _ ih =>
  rw [List.find?_cons, List.find?_cons, ← x.1]
  by_cases e : p.1 = k
  ·simp [e]; exact .some x.2
  ·simp [e]; exact ih
theorem kfit_all {k : V} (ko : KeysOk es) (e : kfit es k = true) : kok 7 k = true ∧ ∀ p ∈ es, isT p.1 = isT k := by
 unfold kfit at e
 obtain ⟨e1, e2⟩ := Bool.and_eq_true_iff.mp e
 refine ⟨e1, ?_⟩
 cases es with
 | nil => intro p hp; cases hp
 | cons x r =>
  obtain ⟨b, hb⟩ := ko.2
  intro p hp
  rw [hb p hp, ← hb x (.head _)]
  simpa using e2
theorem dlook_parts {k : V} {res : Option V} (e : v9 es k = some res) : kfit es k = true ∧ j1 es k = some res := by
 unfold v9 at e
 split at e
 ·exact ⟨by assumption, e⟩
 ·cases e
end
section
variable {w : World} {s : Shared} {N : Addr -> Prop} {σ : Nat -> Addr} {n : Nat} {d : Addr} {es : List (V × V)}
theorem sQ {k : V} {u : Value} {res : Option V} (D : k0 s.heap N σ n (q9 w) d es) (rk : Rv s.heap N σ n k u) (e : v9 es k = some res) :
  ∃ res' tk, OptRv s.heap N σ n res res' ∧ ∀ (A : Around) (E : Value -> Shared -> Prop) (Q : Option Value -> Shared -> Prop), A.units + 20 < cLine -> Q res' { s with toks := tk } -> wpAny (model pr w) A (dictGet d u) Q E s := by
 obtain ⟨e1, e2⟩ := dlook_parts e
 have D' := D
 obtain ⟨arr, ep, g, al, ko, nd⟩ := D'
 obtain ⟨hk, hT⟩ := kfit_all ko e1
 rw [dget_find hk ko.1] at e2
 obtain rfl := Option.some.inj e2
 cases hb : isT k with
 | true =>
  rw [hb] at hT
  obtain ⟨xs, dx, al⟩ := dict_byH D hT
  obtain ⟨a, rfl⟩ := isT_ref rk hb
  refine ⟨(atKey xs k).map (·.2), s.toks + (tKind w).draws k, ?_, fun A E Q hu hq => wpAny_dictGet_heap (knd := tKind w) hu ⟨hk, key_of rk hk⟩ dx hq⟩
  have := find_all2 (f := fun x : V × Addr × Value => x.1) (g := fun x => x.2.2) (k := k) (al.imp fun _ _ q => ⟨q.1, q.2.2⟩)
  unfold atKey
  rw [Option.map_map]
  exact this
 | false =>
  rw [hb] at hT
  obtain ⟨kvs, dx, al⟩ := dict_byV D hT
  refine ⟨valueAt kvs k, s.toks + 1, ?_, fun A E Q hu hq => wpAny_dictGet_of (knd := vKind w) (notT_is rk hk hb) dx.mapOf hq⟩
  exact find_all2 (f := fun x : V × Value => x.1) (g := fun x => x.2) (k := k) al
theorem all2_any {α : Type} {P : V × V -> α -> Prop} {f : α -> V} {k : V} {es : List (V × V)} {l : List α} (a : f0 P es l) (hf : ∀ p q, P p q -> p.1 = f q) :
  es.any (fun p => decide (p.1 = k)) = l.any fun q => decide (f q = k) := by
 induction a with
 | nil => rfl
 | cons x _ ih => rw [List.any_cons, List.any_cons, hf _ _ x, ih]
theorem find_some_any {α : Type} (f : α -> Bool) : ∀ l : List α, (l.find? f).isSome = l.any f
 | [] => rfl
 | x :: l => by
  rw [List.find?_cons, List.any_cons, ← find_some_any f l]
  cases f x <;> rfl
theorem all2_append {α β : Type} {P : α -> β -> Prop} {l : List α} {r : List β} {x : α} {y : β} (a : f0 P l r) (q : P x y) : f0 P (l ++ [x]) (r ++ [y]) := by
 induction a with
 | nil => exact .cons q .nil
 | cons x _ ih => exact .cons x ih
theorem all2_map {α β α' β' : Type} {P : α -> β -> Prop} {P' : α' -> β' -> Prop} {f : α -> α'} {g : β -> β'} {l : List α} {r : List β} (a : f0 P l r) (q : ∀ x y, P x y -> P' (f x) (g y)) : f0 P' (l.map f) (r.map g) := by
 induction a with
 | nil => exact .nil
 | cons x _ ih => exact .cons (q _ _ x) ih
theorem dput_keys {k v : V} (hk : kok 7 k = true) (ko : KeysOk es) (hT : ∀ p ∈ es, isT p.1 = isT k) (nd : (es.map (·.1)).Nodup) : KeysOk (u3 es k v) ∧ ((u3 es k v).map (·.1)).Nodup := by
 rw [dput_eq hk ko.1 nd]
 split
 ·rename_i hany
  have hm : ((es.map (fun p => if p.1 = k then (p.1, v) else p)).map (·.1)) = es.map (·.1) := by
   rw [List.map_map]
   exact List.map_congr_left fun p _ => by simp only [Function.comp]; split <;> rfl
  have hh : ∀ q ∈ es.map (fun p => if p.1 = k then (p.1, v) else p), ∃ p ∈ es, q.1 = p.1 := by
   intro q hq
   obtain ⟨p, hp, rfl⟩ := List.mem_map.mp hq
   exact ⟨p, hp, by split <;> rfl⟩
  refine ⟨⟨fun q hq => ?_, isT k, fun q hq => ?_⟩, by rw [hm]; exact nd⟩
  ·obtain ⟨p, hp, e⟩ := hh q hq
   rw [e]; exact ko.1 p hp
  ·obtain ⟨p, hp, e⟩ := hh q hq
   rw [e]; exact hT p hp
 ·rename_i hany
  have hnot : k ∉ es.map (·.1) := fun hm => by
   obtain ⟨p, hp, e⟩ := List.mem_map.mp hm
   exact hany (List.any_eq_true.mpr ⟨p, hp, by simp [e]⟩)
  refine ⟨⟨fun q hq => ?_, isT k, fun q hq => ?_⟩, ?_⟩
  ·rcases List.mem_append.mp hq with hq | hq
   ·exact ko.1 q hq
   ·simp at hq; subst hq; exact hk
  ·rcases List.mem_append.mp hq with hq | hq
   ·exact hT q hq
   ·simp at hq; subst hq; rfl
  ·rw [List.map_append, List.nodup_append]
   exact ⟨nd, by simp, fun x hx y hy e => hnot (by simp at hy; subst hy; exact e ▸ hx)⟩
theorem pairs_ent {h : Heap} {l : List DictEntry} {es : List (V × V)} {kvs : List (V × Value)} (ps : Pairs (vKind w) l kvs) (hk : ∀ e ∈ l, ∃ k, (vKind w).is k e.key = true ∧ e.hash = (vKind w).hash k)
  (a : f0 (fun p q => p.1 = q.1 ∧ Rv h N σ n p.2 q.2) es kvs) : f0 (EntOk h N σ n (q9 w)) es l := by
 induction ps generalizing es with
 | nil => cases a; exact .nil
 | @cons e kv l kvs h1 h2 _ ih =>
  cases a with
  | @cons p _ es _ x a =>
   refine .cons ⟨?_, ?_, ?_⟩ (ih (fun e he => hk e (.tail _ he)) a)
   ·have q : vIs kv.1 e.key = true := h1
    rw [x.1]
    rcases dZ q with ⟨i, t, e1, e2⟩ | ⟨i, t, e1, e2⟩ <;> rw [e1, e2]
    ·exact .int _ _
    ·exact .str _ _
   ·obtain ⟨k', k1, k2⟩ := hk e (.head _)
    rw [k2, (vKind w).inj _ _ _ k1 h1, x.1]; rfl
   ·rw [h2]; exact x.2
theorem setItem_ok {k v : V} {u x : Value} {res : Option V} {A : Around} {E : Value -> Shared -> Prop} {Q : Unit -> Shared -> Prop} (D : k0 s.heap N σ n (q9 w) d es) (rk : Rv s.heap N σ n k u) (rx : Rv s.heap N σ n v x) (e : v9 es k = some res) (hu : A.units + 40 < cLine)
  (hsz : es.length ≤ sizeLine)
  (hq : ∀ h' tk, Heap.SameBut d s.heap h' -> (∀ N' σ' n', (∀ v u, Rv s.heap N σ n v u -> Rv h' N' σ' n' v u) -> k0 h' N' σ' n' (q9 w) d (u3 es k v)) -> Q () { s with heap := h', toks := tk }) :
  wpAny (model pr w) A (setItem (.ref d) u x) Q E s := by
 obtain ⟨e1, e2⟩ := dlook_parts e
 have D' := D
 obtain ⟨arr, ep, g, al₀, ko, nd⟩ := D'
 obtain ⟨hk, hT⟩ := kfit_all ko e1
 obtain ⟨ko', nd'⟩ := dput_keys (v := v) hk ko hT nd
 cases hb : isT k with
 | true =>
  have hT' := hT
  rw [hb] at hT'
  obtain ⟨xs, dx, al⟩ := dict_byH D hT'
  obtain ⟨a, rfl⟩ := isT_ref rk hb
  have len : ∀ {α β : Type} {P : α -> β -> Prop} {l : List α} {r : List β}, f0 P l r -> l.length = r.length := fun {α β P l r} a => by induction a <;> simp_all
  refine wpAny_setItem_heap (knd := tKind w) (in1u (m := 40) ‹_› (by decide)) ⟨hk, key_of rk hk⟩ dx (fun h' dx' sb => hq h' _ sb fun N' σ' n' mono => ?_) (by rw [← len al]; exact hsz)
  obtain ⟨o, arr', ep', g', ⟨c1, c2, c3⟩, hd', es', is', _⟩ := dx'
  obtain ⟨oc, od, odata, osl⟩ := o
  simp only at c1 c2 c3 hd'
  subst c1 c2 c3 hd'
  refine ⟨arr', ep', g', ?_, ko', nd'⟩
  rw [es', dput_eq hk ko.1 nd]
  have hany := all2_any (k := k) (f := fun x : V × Addr × Value => x.1) al fun _ _ q => q.1
  rw [hany]
  unfold storedH atKey
  have conv : (Option.map (fun x : V × Addr × Value => x.2) (xs.find? fun x => decide (x.1 = k))).isSome = xs.any fun q => decide (q.1 = k) := by
   rw [Option.isSome_map]
   exact find_some_any _ _
  rw [conv]
  split
  ·rw [List.map_map]
   refine all2_map al fun p q ⟨q1, q2, q3⟩ => ?_
   simp only [Function.comp, putAt]
   rw [← q1]
   by_cases z : p.1 = k
   ·rw [if_pos z, if_pos z]
    exact ⟨mono _ _ q2, rfl, mono _ _ rx⟩
   ·rw [if_neg z, if_neg z]
    exact ⟨mono _ _ q2, by simp [entryOfKey, tKind, q1], mono _ _ q3⟩
  ·rw [List.map_append]
   exact all2_append (by
    have := all2_map (f := id) (g := entryOfKey (tKind w)) (P' := EntOk h' N' σ' n' (q9 w)) al fun p q ⟨q1, q2, q3⟩ => ⟨mono _ _ q2, by simp [entryOfKey, tKind, q1], mono _ _ q3⟩
    rwa [List.map_id] at this) ⟨mono _ _ rk, rfl, mono _ _ rx⟩
 | false =>
  have hT' := hT
  rw [hb] at hT'
  obtain ⟨kvs, dx, al⟩ := dict_byV D hT'
  have len : ∀ {α β : Type} {P : α -> β -> Prop} {l : List α} {r : List β}, f0 P l r -> l.length = r.length := fun {α β P l r} a => by induction a <;> simp_all
  refine wpAny_setItem_pairs (knd := vKind w) (notT_is rk hk hb) dx (fun h' dx' sb => hq h' _ sb fun N' σ' n' mono => ?_) (by rw [← len al]; exact hsz)
  obtain ⟨o, arr', ep', g', ⟨c1, c2, c3⟩, hd', ks', ps', _⟩ := dx'
  obtain ⟨oc, od, odata, osl⟩ := o
  simp only at c1 c2 c3 hd'
  subst c1 c2 c3 hd'
  refine ⟨arr', ep', g', pairs_ent ps' (fun e he => ks' e (Array.mem_toList_iff.mp he)) ?_, ko', nd'⟩
  rw [dput_eq hk ko.1 nd]
  have hany := all2_any (k := k) (f := fun x : V × Value => x.1) al fun _ _ q => q.1
  rw [hany]
  unfold stored
  split
  ·refine all2_map al fun p q ⟨q1, q2⟩ => ?_
   rw [← q1]
   by_cases z : p.1 = k
   ·rw [if_pos z, if_pos z]
    exact ⟨rfl, mono _ _ rx⟩
   ·rw [if_neg z, if_neg z]
    exact ⟨q1, mono _ _ q2⟩
  ·exact all2_append (al.imp fun _ _ q => ⟨q.1, mono _ _ q.2⟩) ⟨rfl, mono _ _ rx⟩
end
end
end Mine
end
section
open PyProof.Rows PySem PySem.W
namespace Mine
noncomputable section
noncomputable def vInt (v : V) : Option {i : Int // v = .int i} := if h : v.ctorIdx = 2 then V.int.elim v h (fun i => some ⟨i, rfl⟩) else none
noncomputable def stEnts (K : Frag) : List (V × V) -> List DictEntry -> Bool
 | [], [] => true
 | p :: es, q :: l => okD (vInt p.1) fun i => okD (vwInt q.key) fun j => decide (i = j.1) && decide (q.hash = hashInt i) && vMatch K p.2 q.val && stEnts K es l
 | _, _ => false
noncomputable def nodupI : List (V × V) -> Bool
 | [] => true
 | p :: r => okD (vInt p.1) fun i => r.all (fun p => okD (vInt p.1) fun j => !decide (j = i)) && nodupI r
noncomputable def vwDct (K : Frag) (a : Nat) : Option {l : List DictEntry // ∃ arr ep, K.lookup a = some ⟨.type "dict", none, .dict arr ep, #[]⟩ ∧ arr.toList = l} := match K.lookup a with
 | some ⟨.type t, none, .dict arr ep, sl⟩ => if q : t = "dict" ∧ sl.size = 0 then some ⟨arr.toList, arr, ep, by
   obtain ⟨q1, q2⟩ := q
   subst q1
   obtain rfl := Array.eq_empty_of_size_eq_zero q2
   rfl, rfl⟩ else none
 | _ => none
noncomputable def statOk (K : Frag) (a : Nat) (es : List (V × V)) : Bool := okD (vwDct K a) (stEnts K es) && nodupI es && decide (a ≠ sysModules)
noncomputable def allStats (K : Frag) : Bool := statT.all fun p => statOk K p.1 p.2
theorem allStats_ (P : Params) : allStats (Kf P) = true := by kernel_rfl
theorem look_mem {α : Type} {m : Nat} {v : α} : ∀ {l : List (Nat × α)}, v3 m l = some v -> (m, v) ∈ l
 | [], e => by cases e
 | (a, u) :: r, e => by
  unfold v3 at e
  split at e
  ·rename_i hb
   cases e
   rw [Nat.eq_of_beq_eq_true hb]; exact .head _
  ·exact .tail _ (look_mem e)
theorem stat_ok {P : Params} {a : Nat} {es : List (V × V)} (e : G.stat a = some es) : statOk (Kf P) a es = true := List.all_eq_true.mp (allStats_ P) (a, es) (look_mem e)
section
variable {w : World} {b0 : Heap} {X : FX} {fr : List Addr} {σ c : Nat -> Addr} {s : Shared} {A : Around}
theorem stEnts_ok {h : Heap} {N : Addr -> Prop} {n : Nat} {K : Frag} (hK : ∀ a o, K.lookup a = some o -> h.get? a = some o ∧ ¬ N a) : ∀ {es : List (V × V)} {l : List DictEntry}, stEnts K es l = true -> f0 (EntOk h N σ n (q9 w)) es l ∧ ∀ p ∈ es, ∃ i, p.1 = .int i
 | [], [], _ => ⟨.nil, by simp⟩
 | [], _ :: _, e => (Bool.false_ne_true e).elim
 | _ :: es, [], e => (Bool.false_ne_true e).elim
 | (k, v) :: es, ⟨hs, key, u⟩ :: l, e => by
  obtain ⟨i, rfl, e⟩ := o8 e
  obtain ⟨j, rfl, e⟩ := o8 e
  simp only [Bool.and_eq_true, decide_eq_true_eq] at e
  obtain ⟨⟨⟨rfl, rfl⟩, e3⟩, e4⟩ := e
  obtain ⟨i1, i2⟩ := stEnts_ok hK e4
  refine ⟨.cons ⟨.int _ _, rfl, rv_of_match hK _ _ e3⟩ i1, fun p hp => ?_⟩
  rcases List.mem_cons.mp hp with rfl | hp
  ·exact ⟨_, rfl⟩
  ·exact i2 p hp
theorem nodupI_ok : ∀ {es : List (V × V)}, nodupI es = true -> (es.map (·.1)).Nodup
 | [], _ => List.nodup_nil
 | (k, v) :: es, e => by
  obtain ⟨i, rfl, e'⟩ := o8 e
  obtain ⟨e1, e2⟩ := Bool.and_eq_true_iff.mp e'
  rw [List.map_cons, List.nodup_cons]
  refine ⟨fun hm => ?_, nodupI_ok e2⟩
  obtain ⟨p, hp, q⟩ := List.mem_map.mp hm
  obtain ⟨j, h1, h2⟩ := o8 (List.all_eq_true.mp e1 p hp)
  cases h1.symm.trans q
  rw [decide_eq_true rfl] at h2; cases h2
inductive DictV (led : List O) : V -> List (V × V) -> Prop
 | own (i : Nat) (es : List (V × V)) : getL led i = some (.dict es) -> DictV led (.own i) es
 | stat (a : Nat) (es : List (V × V)) : G.stat a = some es -> DictV led (.top (.ref a)) es
theorem uQ {st : St} {v : V} {u : Value} {es : List (V × V)} (W : Wd w b0) (g : Gd (q9 w) b0 X fr σ c st s) (rv : Rv s.heap (NN fr c st.led) σ st.led.length v u) (dv : DictV st.led v es) :
  ∃ d, u = .ref d ∧ (d == sysModules) = false ∧ k0 s.heap (NN fr c st.led) σ st.led.length (q9 w) d es := by
 cases dv with
 | own i es hi =>
  obtain ⟨rfl, _⟩ := rv.inv
  obtain ⟨e, arr, ep, g1, al, ko, nd⟩ := g.r.cell i _ hi
  refine ⟨σ i, rfl, ?_, ⟨arr, ep, by rw [e]; exact g1, al, ko, nd⟩⟩
  obtain ⟨o, ho⟩ := W.sys
  have := (g.r.base _ _ ho).2
  rw [beq_eq_false_iff_ne]
  exact fun q => this (.inr ⟨i, ⟨_, hi, trivial⟩, by rw [← e]; exact q⟩)
 | stat a es hs =>
  obtain ⟨_, q, rfl⟩ := rv.inv
  cases q
  have := stat_ok (P := w.params) hs
  obtain ⟨h12, h3⟩ := Bool.and_eq_true_iff.mp this
  obtain ⟨h1, h2⟩ := Bool.and_eq_true_iff.mp h12
  refine ⟨a, rfl, by simpa using h3, ?_⟩
  obtain ⟨_, ⟨arr, ep, ho, rfl⟩, e3⟩ := o8 h1
  have hK := K_now W g.r
  obtain ⟨al, hi⟩ := stEnts_ok (w := w) (σ := σ) (n := st.led.length) hK e3
  exact ⟨arr, ep, (hK _ _ ho).1, al, ⟨fun p hp => by obtain ⟨i, q⟩ := hi p hp; rw [q]; rfl, false, fun p hp => by obtain ⟨i, q⟩ := hi p hp; rw [q]; rfl⟩, nodupI_ok h2⟩
theorem gQ {N : Addr -> Prop} {n d : Nat} {es : List (V × V)} (D : k0 s.heap N σ n (q9 w) d es) : s.TypeIs (.ref d) "dict" := by
 obtain ⟨arr, ep, g, _⟩ := D
 exact ⟨_, g, rfl⟩
variable {N : Addr -> Prop} {n : Nat} {d : Addr} {es : List (V × V)} {E : Value -> Shared -> Prop}
theorem optRv_some {h : Heap} {r : Option V} {x : Option Value} (o : OptRv h N σ n r x) : r.isSome = x.isSome := by cases o <;> rfl
theorem in_dict {k : V} {u : Value} {res : Option V} {Q : Value -> Shared -> Prop} (hA : A.units + 30 < cLine) (D : k0 s.heap N σ n (q9 w) d es) (hd : (d == sysModules) = false) (rk : Rv s.heap N σ n k u) (e : v9 es k = some res)
  (h : ∀ tk, Q (.bool res.isSome) { s with toks := tk }) : wpAny (model pr w) A (compareOp .In u (.ref d)) Q E s := by
 obtain ⟨res', tk, ro, hg⟩ := sQ D rk e
 have hT := gQ D
 show wpAny _ _ (do return .bool (← contains (.ref d) u)) Q E s
 refine wpAny_bind ?_
 unfold contains
 try with_reducible refine wpAny_holding ?_
 refine wpAny_bind (wpAny_specialOf hT slot_dict_contains.lookup ?_)
 show wpAny _ _ (if (some (Value.builtin "dict.__contains__") == some Value.none) = true then _ else _) _ E s
 rw [if_neg (by rw [beq_builtin_none]; exact Bool.false_ne_true)]
 refine wpAny_bind (wpAny_callSpecialUnlessNone?_slot (name := Str.ofString "__contains__") hT slot_dict_contains
  (wpAny_call_entry slot_dict_contains hT entry_dict_contains ?_ (args_dict_contains _ _)))
 show wpAny _ _ (dictGet d u >>= _) _ _ s
 refine wpAny_bind (hg _ _ _ (in1u (m := 30) ‹_› (by decide)) ?_)
 have h := h tk
 rw [optRv_some ro] at h
 cases res' with
 | some v =>
  show wpAny _ _ (ret (.bool true)) _ _ _
  exact wpAny_pure ⟨_, rfl, wpAny_truthy_bool (wpAny_pure h)⟩
 | none =>
  show wpAny _ _ (Builtin.Dict.pendingKey? d u >>= _) _ _ _
  exact wpAny_bind (wpAny_pendingKey_other hd (wpAny_pure ⟨_, rfl, wpAny_truthy_bool (wpAny_pure h)⟩))
theorem notIn_dict {k : V} {u : Value} {res : Option V} {Q : Value -> Shared -> Prop} (hA : A.units + 30 < cLine) (D : k0 s.heap N σ n (q9 w) d es) (hd : (d == sysModules) = false) (rk : Rv s.heap N σ n k u) (e : v9 es k = some res)
  (h : ∀ tk, Q (.bool (!res.isSome)) { s with toks := tk }) : wpAny (model pr w) A (compareOp .NotIn u (.ref d)) Q E s := by
 obtain ⟨res', tk, ro, hg⟩ := sQ D rk e
 have hT := gQ D
 show wpAny _ _ (do return .bool (!(← contains (.ref d) u))) Q E s
 refine wpAny_bind ?_
 unfold contains
 try with_reducible refine wpAny_holding ?_
 refine wpAny_bind (wpAny_specialOf hT slot_dict_contains.lookup ?_)
 show wpAny _ _ (if (some (Value.builtin "dict.__contains__") == some Value.none) = true then _ else _) _ E s
 rw [if_neg (by rw [beq_builtin_none]; exact Bool.false_ne_true)]
 refine wpAny_bind (wpAny_callSpecialUnlessNone?_slot (name := Str.ofString "__contains__") hT slot_dict_contains
  (wpAny_call_entry slot_dict_contains hT entry_dict_contains ?_ (args_dict_contains _ _)))
 show wpAny _ _ (dictGet d u >>= _) _ _ s
 refine wpAny_bind (hg _ _ _ (in1u (m := 30) ‹_› (by decide)) ?_)
 have h := h tk
 rw [optRv_some ro] at h
 cases res' with
 | some v =>
  show wpAny _ _ (ret (.bool true)) _ _ _
  exact wpAny_pure ⟨_, rfl, wpAny_truthy_bool (wpAny_pure h)⟩
 | none =>
  show wpAny _ _ (Builtin.Dict.pendingKey? d u >>= _) _ _ _
  exact wpAny_bind (wpAny_pendingKey_other hd (wpAny_pure ⟨_, rfl, wpAny_truthy_bool (wpAny_pure h)⟩))
theorem getItem_dict {k v : V} {u : Value} {Q : Value -> Shared -> Prop} (hA : A.units + 30 < cLine) (D : k0 s.heap N σ n (q9 w) d es) (rk : Rv s.heap N σ n k u) (e : v9 es k = some (some v))
  (h : ∀ x tk, Rv s.heap N σ n v x -> Q x { s with toks := tk }) : wpAny (model pr w) A (getItem (.ref d) u) Q E s := by
 obtain ⟨res', tk, ro, hg⟩ := sQ D rk e
 have hT := gQ D
 cases ro with
 | @some _ x rv =>
  unfold getItem
  try with_reducible refine wpAny_holding ?_
  refine wpAny_bind (wpAny_sequenceKey hT (by decide) ?_)
  refine wpAny_bind (wpAny_callSpecial?_slot (name := Str.ofString "__getitem__") hT slot_dict_getitem
   (wpAny_call_entry slot_dict_getitem hT entry_dict_getitem ?_ (args_dict_getitem _ _)))
  show wpAny _ _ (dictGet d u >>= _) _ _ s
  refine wpAny_bind (hg _ _ _ (in1u (m := 30) ‹_› (by decide)) ?_)
  exact wpAny_pure ⟨x, rfl, wpAny_pure (h x tk rv)⟩
inductive G1 (w : World) (d : Addr) (u : Value) (A : Around) (R : Result -> Shared -> Prop) (s : Shared) : Prop
 | mk (N : Addr -> Prop) (σ : Nat -> Addr) (n : Nat) (es : List (V × V)) (k : V) (res : Option V) : A.units + 30 < cLine -> k0 s.heap N σ n (q9 w) d es -> Rv s.heap N σ n k u -> v9 es k = some res ->
   (∀ x tk, Rv s.heap N σ n (res.getD .none) x -> R (.ok (.ret x)) { s with toks := tk }) -> G1 w d u A R s
inductive G2 (w : World) (d : Addr) (u dflt : Value) (A : Around) (R : Result -> Shared -> Prop) (s : Shared) : Prop
 | mk (N : Addr -> Prop) (σ : Nat -> Addr) (n : Nat) (es : List (V × V)) (k : V) (res : Option V) (dv : V) : A.units + 30 < cLine -> k0 s.heap N σ n (q9 w) d es -> Rv s.heap N σ n k u -> Rv s.heap N σ n dv dflt -> v9 es k = some res ->
   (∀ x tk, Rv s.heap N σ n (res.getD dv) x -> R (.ok (.ret x)) { s with toks := tk }) -> G2 w d u dflt A R s
theorem get1_tree {u : Value} (hd : (d == sysModules) = false) : MeetsIn pr w (Builtin.«dict.get» ⟨[.ref d, u], []⟩) (G1 w d u) :=
 .of_wp fun A R s g => by
  obtain ⟨N, σ, n, es, k, res, hu, D, rk, e, h⟩ := g
  obtain ⟨res', tk, ro, hg⟩ := sQ D rk e
  show wpAny _ _ (dictGet d u >>= _) _ _ s
  refine wpAny_bind (hg _ _ _ (in1u (m := 30) ‹_› (by decide)) ?_)
  cases ro with
  | @some v x rv => exact wpAny_pure ⟨x, rfl, h x tk rv⟩
  | none =>
   show wpAny _ _ (Builtin.Dict.missed d u >>= _) _ _ _
   exact wpAny_bind (wpAny_missed_other hd (wpAny_pure ⟨.none, rfl, h .none tk .none⟩))
theorem get2_tree {u dflt : Value} (hd : (d == sysModules) = false) : MeetsIn pr w (Builtin.«dict.get» ⟨[.ref d, u, dflt], []⟩) (G2 w d u dflt) :=
 .of_wp fun A R s g => by
  obtain ⟨N, σ, n, es, k, res, dv, hu, D, rk, rd, e, h⟩ := g
  obtain ⟨res', tk, ro, hg⟩ := sQ D rk e
  show wpAny _ _ (dictGet d u >>= _) _ _ s
  refine wpAny_bind (hg _ _ _ (in1u (m := 30) ‹_› (by decide)) ?_)
  cases ro with
  | @some v x rv => exact wpAny_pure ⟨x, rfl, h x tk rv⟩
  | none =>
   show wpAny _ _ (Builtin.Dict.missed d u >>= _) _ _ _
   exact wpAny_bind (wpAny_missed_other hd (wpAny_pure ⟨dflt, rfl, h dflt tk rd⟩))
end
end
end Mine
end
section
open PyProof.Rows PySem PySem.SeqAt PySem.W
namespace Mine
noncomputable section
section
variable {w : World} {b0 : Heap} {X : FX} {fr : List Addr} {σ c : Nat -> Addr} {s : Shared} {A : Around}
theorem rvs_nil {h : Heap} {N : Addr -> Prop} {n : Nat} {us : List Value} (r : Rvs h N σ n [] us) : us = [] := by cases r; rfl
theorem optSome {α : Type} {o : Option α} {r : Bool} (e : Option.map (fun x => x.isSome) (o.map some) = some r) : True := trivial
theorem inO_inv {z : Option O} {k : V} {r : Bool} (h : (match z with
  | some (.dict es) => (v9 es k).map (·.isSome)
  | some (.list xs) => memL k xs
  | _ => none) = some r) : (∃ es, z = some (.dict es) ∧ (v9 es k).map (·.isSome) = some r) ∨ ∃ xs, z = some (.list xs) ∧ memL k xs = some r := by
 rcases z with _ | z
 ·cases h
 ·cases z <;> first | exact .inl ⟨_, rfl, h⟩ | exact .inr ⟨_, rfl, h⟩ | cases h
theorem inS_inv {z : Option (List (V × V))} {k : V} {r : Bool} (h : (match z with
  | some es => (v9 es k).map (·.isSome)
  | none => none) = some r) : ∃ es, z = some es ∧ (v9 es k).map (·.isSome) = some r := by
 cases z
 ·cases h
 ·exact ⟨_, rfl, h⟩
theorem bm_e {z : Option Bool} {f : Bool -> Prop} {Q : Prop} (h : match z with | some v => f v | none => False) (k : ∀ v, z = some v -> f v -> Q) : Q := by
 cases z
 ·exact h.elim
 ·exact k _ rfl h
theorem vv_e {z : Option (Option V)} {f : V -> Prop} {Q : Prop} (h : match z with | some (some v) => f v | _ => False) (k : ∀ v, z = some (some v) -> f v -> Q) : Q := by
 rcases z with _ | _ | z
 ·exact h.elim
 ·exact h.elim
 ·exact k _ rfl h
theorem es_e {z : Option (List (V × V))} {f : List (V × V) -> Prop} {Q : Prop} (h : match z with | some v => f v | none => False) (k : ∀ v, z = some v -> f v -> Q) : Q := by
 cases z
 ·exact h.elim
 ·exact k _ rfl h
inductive SubI (led : List O) (k : V -> Prop) : V -> V -> Prop
 | tup (xs n x) : idx xs n = some x -> k x -> SubI led k (.tup xs) (.int n)
 | lst (xs n x) : idx xs n = some x -> k x -> SubI led k (.lst xs) (.int n)
 | own (o xs n x) : getL led o = some (.list xs) -> idx xs n = some x -> k x -> SubI led k (.own o) (.int n)
 | dict (o es i x) : getL led o = some (.dict es) -> v9 es i = some (some x) -> k x -> SubI led k (.own o) i
 | stat (d es i x) : G.stat d = some es -> v9 es i = some (some x) -> k x -> SubI led k (.top (.ref d)) i
theorem sub_inv {led : List O} {k : V -> Prop} {a i : V} (hw : subK G a i led k) : SubI led k a i := by
 cases a with
 | tup xs => cases i <;> first | exact vm_e hw fun x e h => .tup _ _ x e h | exact hw.elim
 | lst xs => cases i <;> first | exact vm_e hw fun x e h => .lst _ _ x e h | exact hw.elim
 | own o => exact ld_e hw (fun xs e h => by cases i <;> first | exact vm_e h fun x e' h => .own _ _ _ x e e' h | exact h.elim) fun es e h => vv_e h fun x e' h => .dict _ _ _ x e e' h
 | top v => cases v <;> first | exact es_e hw fun es e h => vv_e h fun x e' h => .stat _ _ _ x e e' h | exact hw.elim
 | _ => exact hw.elim
theorem inK_ok {o : CmpOp} {a b : V} {u v : Value} {r : Bool} {st : St} {Q : Value -> Shared -> Prop} (W : Wd w b0) (hA : A.units + 300 < cLine) (g : Gd (q9 w) b0 X fr σ c st s)
  (ra : Rv s.heap (NN fr c st.led) σ st.led.length a u) (rb : Rv s.heap (NN fr c st.led) σ st.led.length b v) (hw : inK G a b st.led = some r) :
  ((∀ tk, Q (.bool r) { s with toks := tk }) -> wpAny (model pr w) A (compareOp .In u v) Q (fun _ _ => False) s) ∧
  ((∀ tk, Q (.bool (!r)) { s with toks := tk }) -> wpAny (model pr w) A (compareOp .NotIn u v) Q (fun _ _ => False) s) := by
 have dc : ∀ {es : List (V × V)}, DictV st.led b es -> (v9 es a).map (·.isSome) = some r -> ((∀ tk, Q (.bool r) { s with toks := tk }) -> wpAny (model pr w) A (compareOp .In u v) Q (fun _ _ => False) s) ∧
   ((∀ tk, Q (.bool (!r)) { s with toks := tk }) -> wpAny (model pr w) A (compareOp .NotIn u v) Q (fun _ _ => False) s) := by
  intro es dv e
  obtain ⟨d, rfl, hd, D⟩ := uQ W g rb dv
  obtain ⟨res, e1, rfl⟩ := Option.map_eq_some_iff.mp e
  exact ⟨fun hq => in_dict (r30 hA) D hd ra e1 hq, fun hq => notIn_dict (r30 hA) D hd ra e1 hq⟩
 have mem : ∀ {xs : List V} {us : List Value}, Rvs s.heap (NN fr c st.led) σ st.led.length xs us -> memL a xs = some r -> ∃ f : Value -> Bool, (∀ y ∈ us, EqAt A.in1 s y u (f y)) ∧ r = us.any f := by
  intro xs us rs e
  cases xs with
  | nil =>
   obtain rfl := rvs_nil rs
   have e : r = false := by cases a <;> exact (Option.some.inj e).symm
   exact ⟨fun _ => true, fun _ h => absurd h List.not_mem_nil, e⟩
  | cons x xs => exact memL_ok (by simp) e rs ra
 cases b <;> first | (cases hw; done) | skip
 ·rename_i xs
  obtain ⟨_, _, _, rfl, n1, g1, rs⟩ := rb.inv
  ·obtain ⟨f, hf, rfl⟩ := mem rs hw
   refine ⟨fun hq => in_tupleAt f ⟨_, g1, rfl, _, rfl⟩ (fun y hy => hf y (by simpa using hy)) ?_, fun hq => notIn_tupleAt f ⟨_, g1, rfl, _, rfl⟩ (fun y hy => hf y (by simpa using hy)) ?_⟩
   ·have := hq s.toks
    simpa using this
   ·have := hq s.toks
    simpa using this
 ·rename_i i
  rcases inO_inv hw with ⟨es, hi, hw⟩ | ⟨xs, hi, hw⟩
  ·exact dc (.own _ _ hi) hw
  ·obtain ⟨rfl, _⟩ := rb.inv
   obtain ⟨e, vs, ep, g1, rs⟩ := g.r.cell _ _ hi
   obtain ⟨f, hf, rfl⟩ := mem rs hw
   rw [e]
   refine ⟨fun hq => in_listAt f ⟨_, g1, rfl, _, rfl⟩ (fun y hy => hf y (by simpa using hy)) ?_, fun hq => notIn_listAt f ⟨_, g1, rfl, _, rfl⟩ (fun y hy => hf y (by simpa using hy)) ?_⟩
   ·have := hq s.toks
    simpa using this
   ·have := hq s.toks
    simpa using this
 ·rename_i v'
  cases v' <;> first | (cases hw; done) | skip
  rename_i d
  obtain ⟨es, hes, hw⟩ := inS_inv hw
  exact dc (.stat _ _ hes) hw
theorem cmpI_inv {op : Cop} {a b : V} {k : Bool -> Prop} (hw : cmpI op a b k) : ∃ x y r, a = .int x ∧ b = .int y ∧ cint op x y = some r ∧ k r := by
 cases a <;> try exact hw.elim
 cases b <;> try exact hw.elim
 delta cmpI at hw
 dsimp only at hw
 split at hw
 ·exact ⟨_, _, _, rfl, rfl, by assumption, hw⟩
 ·exact hw.elim
theorem isNone_eq' {b : V} (h : isNone b = true) : b = .none := by
 cases b <;> first | rfl | exact Bool.noConfusion h
theorem cop_ok {op : Cop} {o : CmpOp} {a b : V} {u v : Value} {st : St} {k : V -> St -> Prop} (W : Wd w b0) (hA : A.units + 300 < cLine) (ho : copIs op o = true) (g : Gd (q9 w) b0 X fr σ c st s)
  (ra : Rv s.heap (NN fr c st.led) σ st.led.length a u) (rb : Rv s.heap (NN fr c st.led) σ st.led.length b v) (hw : cop G op a b st.led fun r => k (.bool r) st) :
  wpAny (model pr w) A (compareOp o u v) (PE1 (q9 w) b0 X fr σ c st s k) (fun _ _ => False) s := by
 have hv : ∀ {r : Bool}, k (.bool r) st -> ∀ tk, PE1 (q9 w) b0 X fr σ c st s k (.bool r) { s with toks := tk } := fun hk tk => now (tk := tk) g (.bool _) hk
 have isN : ∀ {x : V} {y : Value}, Rv s.heap (NN fr c st.led) σ st.led.length x y -> isNone x = (y == .none) := by
  intro x y q
  cases q <;> rfl
 obtain rfl := of_decide_eq_true ho
 cases op
 ·obtain ⟨h1, h2⟩ := x8.mp hw
  refine bm_e h2 fun r hr h2 => (rc_ok (a := seen st.led a) (b := seen st.led b) ?_ hr (seen_ok g.r ra) (seen_ok g.r rb)).1 pr w _ _ (hv h2 s.toks)
  exact Nat.lt_of_le_of_lt (Nat.add_le_add_left (Nat.le_trans (Nat.le_of_ble_eq_true h1) (by decide)) _) hA
 ·obtain ⟨h1, h2⟩ := x8.mp hw
  refine bm_e h2 fun r hr h2 => (rc_ok (a := seen st.led a) (b := seen st.led b) ?_ hr (seen_ok g.r ra) (seen_ok g.r rb)).2 pr w _ _ (hv h2 s.toks)
  exact Nat.lt_of_le_of_lt (Nat.add_le_add_left (Nat.le_trans (Nat.le_of_ble_eq_true h1) (by decide)) _) hA
 ·obtain ⟨x, y, r, rfl, rfl, h1, h2⟩ := cmpI_inv (op := .lt) (a := a) (b := b) (k := fun r => k (.bool r) st) hw
  obtain ⟨_, rfl⟩ := ra.inv
  obtain ⟨_, rfl⟩ := rb.inv
  exact PyProof.Rows.lt_int (hv ((Option.some.inj h1).symm ▸ h2) s.toks)
 ·obtain ⟨x, y, r, rfl, rfl, h1, h2⟩ := cmpI_inv (op := .le) (a := a) (b := b) (k := fun r => k (.bool r) st) hw
  obtain ⟨_, rfl⟩ := ra.inv
  obtain ⟨_, rfl⟩ := rb.inv
  exact PyProof.Rows.le_int (hv ((Option.some.inj h1).symm ▸ h2) s.toks)
 ·obtain ⟨x, y, r, rfl, rfl, h1, h2⟩ := cmpI_inv (op := .gt) (a := a) (b := b) (k := fun r => k (.bool r) st) hw
  obtain ⟨_, rfl⟩ := ra.inv
  obtain ⟨_, rfl⟩ := rb.inv
  exact PyProof.Rows.gt_int (hv ((Option.some.inj h1).symm ▸ h2) s.toks)
 ·obtain ⟨x, y, r, rfl, rfl, h1, h2⟩ := cmpI_inv (op := .ge) (a := a) (b := b) (k := fun r => k (.bool r) st) hw
  obtain ⟨_, rfl⟩ := ra.inv
  obtain ⟨_, rfl⟩ := rb.inv
  exact PyProof.Rows.ge_int (hv ((Option.some.inj h1).symm ▸ h2) s.toks)
 ·obtain ⟨h1, h2⟩ := x8.mp hw
  obtain rfl := isNone_eq' h1
  obtain rfl := rb.inv
  exact PySem.is_none (by rw [← isN ra]; exact hv h2 s.toks)
 ·obtain ⟨h1, h2⟩ := x8.mp hw
  obtain rfl := isNone_eq' h1
  obtain rfl := rb.inv
  exact PySem.isNot_none (by rw [← isN ra]; exact hv h2 s.toks)
 ·delta cop at hw
  exact bm_e hw fun r hr hw => (inK_ok (o := .In) W hA g ra rb hr).1 (hv hw)
 ·delta cop at hw
  exact bm_e hw fun r hr hw => (inK_ok (o := .In) W hA g ra rb hr).2 (hv hw)
theorem rvs_at {h : Heap} {N : Addr -> Prop} {n : Nat} : ∀ {xs : List V} {us : List Value} {i : Nat} {v : V}, Rvs h N σ n xs us -> getL xs i = some v -> ∃ u, us[i]? = some u ∧ Rv h N σ n v u
 | [], _, _, _, _, e => nomatch e
 | x :: xs, us, i, v, r, e => by
  obtain ⟨u, vs, rfl, r1, r2⟩ := r.inv
  cases i with
  | zero => exact ⟨u, rfl, Option.some.inj e ▸ r1⟩
  | succ i => exact rvs_at (xs := xs) (i := i) r2 e
theorem u7 {h : Heap} {N : Addr -> Prop} {n : Nat} : ∀ {xs : List V} {us : List Value}, Rvs h N σ n xs us -> xs.length = us.length
 | [], us, r => by rw [show us = [] from r.inv]; rfl
 | x :: xs, us, r => by
  obtain ⟨u, vs, rfl, _, r2⟩ := r.inv
  exact congrArg (· + 1) (u7 r2)
theorem rv_le {h : Heap} {N : Addr -> Prop} {σ : Nat -> Addr} {n m : Nat} {xs : List V} {us : Array Value} (r : Rvs h N σ n xs us.toList) (l : xs.length ≤ m) : us.size ≤ m := Nat.le_trans (Nat.le_of_eq (u7 r).symm) l
theorem idx_at {xs : List V} {i : Int} {v : V} (e : idx xs i = some v) : ∃ j : Nat, i = j ∧ getL xs j = some v ∧ j ≤ 1000000 := by
 cases i with
 | ofNat n =>
  have e' : (match Nat.ble n 1000000 with
   | true => getL xs n
   | false => none) = some v := e
  cases h : Nat.ble n 1000000 with
  | true => rw [h] at e'; exact ⟨_, rfl, e', Nat.le_of_ble_eq_true h⟩
  | false => rw [h] at e'; cases e'
 | negSucc n => cases e
theorem sub_tail {value slice : PySem.Expr} {o i : Value} {T id : String} {Q : Value -> Shared -> Prop} {E : Value -> Shared -> Prop} (hT : s.TypeIs o T) (hl : typeLookup (.type T) "__getitem__" = pure (some (.builtin id))) (h : wpAny (model pr w) A (getItem o i) Q E s) (hs : notSl slice = true) :
  wpAny (model pr w) A (subscriptTail value slice o i) Q E s := by
 have hs' : subscripted slice false o i = operate [o, i] (getItem o i) := by
  cases slice <;> first | rfl | exact Bool.noConfusion hs
 unfold subscriptTail
 refine wpAny_bind ?_
 rw [getitemInPython_of_ne hT.not_modules]
 refine wpAny_bind (wpAny_specialOf hT hl ?_)
 have fin : wpAny (model pr w) A (subscripted slice false o i) (fun r s₃ => wpAny (model pr w) A (letTemporaryGo value o r >>= fun _ => pure r) Q E s₃) E s := by
  rw [hs']
  exact wpAny_operating (wpAny_mono h (fun r s₃ h₃ => wpAny_bind (wpAny_letTemporaryGo (wpAny_pure h₃))) fun _ _ x => x)
 first
  | exact wpAny_pure (wpAny_bind fin)
  | exact wpAny_bind (wpAny_pure (wpAny_bind fin))
  | exact wpAny_bind fin
theorem sub_ok {value slice : PySem.Expr} {a i : V} {u v : Value} {st : St} {k : V -> St -> Prop} (W : Wd w b0) (hA : A.units + 300 < cLine) (hs : notSl slice = true) (g : Gd (q9 w) b0 X fr σ c st s)
  (ra : Rv s.heap (NN fr c st.led) σ st.led.length a u) (rb : Rv s.heap (NN fr c st.led) σ st.led.length i v) (hw : subK G a i st.led fun x => k x st) :
  wpAny (model pr w) A (subscriptTail value slice u v) (PE1 (q9 w) b0 X fr σ c st s k) (fun _ _ => False) s := by
 have dc : ∀ {es : List (V × V)} {x : V}, DictV st.led a es -> v9 es i = some (some x) -> k x st -> wpAny (model pr w) A (subscriptTail value slice u v) (PE1 (q9 w) b0 X fr σ c st s k) (fun _ _ => False) s := by
  intro es x dv e hk
  obtain ⟨d, rfl, hd, D⟩ := uQ W g ra dv
  exact sub_tail (gQ D) slot_dict_getitem.lookup (getItem_dict (r30 hA) D rb e fun y tk ry => now g ry hk) hs
 have tp : ∀ {xs : List V} {us : Array Value} {t : Addr} {n : Int} {tk : Tok} {x : V}, u = .ref t -> v = .int n tk -> IsTup s.heap t us -> Rvs s.heap (NN fr c st.led) σ st.led.length xs us.toList -> idx xs n = some x -> k x st ->
   wpAny (model pr w) A (subscriptTail value slice u v) (PE1 (q9 w) b0 X fr σ c st s k) (fun _ _ => False) s := by
  rintro xs us t n tk x rfl rfl ht rs e hk
  obtain ⟨j, rfl, e1, hn⟩ := idx_at e
  obtain ⟨y, hy, ry⟩ := rvs_at rs e1
  have hj : j < us.size := by
   have := (List.getElem?_eq_some_iff.mp hy).1
   simpa using this
  exact sub_tail ht.typeIs slot_tuple_getitem.lookup (PyProof.Rows.getItem_tuple ht (Int.le_trans (by decide) (Int.natCast_nonneg j)) (lt63 hn) (seqIndex_of (Int.natCast_nonneg j) (Int.ofNat_lt.mpr hj)) (by simpa using hy) (now (tk := s.toks) g ry hk)) hs
 have ls : ∀ {xs : List V} {us : Array Value} {t : Addr} {n : Int} {tk : Tok} {x : V}, u = .ref t -> v = .int n tk -> s.heap.IsList t us -> Rvs s.heap (NN fr c st.led) σ st.led.length xs us.toList -> idx xs n = some x -> k x st ->
   wpAny (model pr w) A (subscriptTail value slice u v) (PE1 (q9 w) b0 X fr σ c st s k) (fun _ _ => False) s := by
  rintro xs us t n tk x rfl rfl ht rs e hk
  obtain ⟨j, rfl, e1, hn⟩ := idx_at e
  obtain ⟨y, hy, ry⟩ := rvs_at rs e1
  exact sub_tail ht.typeIs slot_list_getitem.lookup (wpAny_getItem_list ht (Int.natCast_nonneg j) (lt63 hn) (by simpa using hy) (now (tk := s.toks) g ry hk)) hs
 induction sub_inv hw with
 | tup xs n x hx hq =>
  obtain ⟨_, e1⟩ := rb.inv
  obtain ⟨_, _, _, e2, n1, g1, rs⟩ := ra.inv
  exact tp e2 e1 ⟨_, g1, rfl, _, rfl⟩ rs hx hq
 | lst xs n x hx hq =>
  obtain ⟨_, e1⟩ := rb.inv
  obtain ⟨_, _, _, e2, n1, g1, rs⟩ := ra.inv
  exact ls e2 e1 ⟨_, g1, rfl, _, rfl⟩ rs hx hq
 | own o xs n x hi hx hq =>
  obtain ⟨_, e1⟩ := rb.inv
  obtain ⟨e2, _⟩ := ra.inv
  obtain ⟨e, vs, ep, g1, rs⟩ := g.r.cell _ _ hi
  rw [← e] at g1
  exact ls e2 e1 ⟨_, g1, rfl, _, rfl⟩ rs hx hq
 | dict o es i x hi hx hq => exact dc (.own _ _ hi) hx hq
 | stat d es i x hi hx hq => exact dc (.stat _ _ hi) hx hq
end
end
noncomputable section
section
variable {w : World} {hash : V -> Int} {b0 : Heap} {Γ : Nat -> Option (Nat × r8)} {X : FX} {fr : List Addr} {σ c : Nat -> Addr} {s : Shared} {A : Around} {st : St} {k : V -> St -> Prop}
theorem new_out {led : List O} {h : Heap} (r : R hash b0 fr σ c led h) : ¬ NN fr c led h.objs.size := by
 rintro (q | ⟨i, hl, e⟩)
 ·obtain ⟨o, e⟩ := r.flt _ q
  exact absurd (Heap.lt_size e) (Nat.lt_irrefl _)
 ·exact absurd (e ▸ r.cell_lt hl) (Nat.lt_irrefl _)
theorem mono_push {h : Heap} {N : Addr -> Prop} (o : Obj) : v4 h (h.push o) N N := ⟨fun _ _ _ e => Heap.get?_push_of_some _ e, fun _ _ _ q => q⟩
theorem push_post {o : Obj} {v : V} {tk : Nat} (g : Gd hash b0 X fr σ c st s) (hv : Rv (s.heap.push o) (NN fr c st.led) σ st.led.length v (.ref s.heap.objs.size)) (hk : k v st) :
  PE1 hash b0 X fr σ c st s k (.ref s.heap.objs.size) { s with heap := s.heap.push o, toks := tk } :=
 ⟨_, _, σ, c, st.led, v, rfl, y9.push o, g.r.push o, g.f.step g.r g.L (y9.push o), hv, hk⟩
theorem push_tup {xs : List V} {vs : List Value} {tk : Nat} (g : Gd hash b0 X fr σ c st s) (rs : Rvs s.heap (NN fr c st.led) σ st.led.length xs vs) (hk : k (.tup xs) st) :
  PE1 hash b0 X fr σ c st s k (.ref s.heap.objs.size) { s with heap := s.heap.push { cls := .type "tuple", data := .seq vs.toArray }, toks := tk } :=
 push_post g (.tup (new_out g.r) (Heap.get?_push_size _ rfl) (Rvs.mono (mono_push _) (Nat.le_refl _) (fun _ _ => rfl) (by simpa using rs))) hk
theorem alloc_post {h' : Heap} {a cell : Addr} {o : O} {tk : Nat} (g : Gd hash b0 X fr σ c st s) (hkeep : ∀ b q, s.heap.get? b = some q -> h'.get? b = some q) (hs : s.heap.objs.size ≤ h'.objs.size) (hc : s.heap.objs.size ≤ cell)
  (ok : pQ h' (NN fr (up c st.led.length cell) (st.led ++ [o])) (up σ st.led.length a) (st.led.length + 1) hash a cell o) (hk : k (.own st.led.length) ⟨st.loc, st.led ++ [o]⟩) :
  PE1 hash b0 X fr σ c st s k (.ref a) { s with heap := h', toks := tk } := by
 have S := y9.alloc (D := fun _ => False) (σ := σ) (c := c) (led := st.led) (a := a) (o := o) hkeep hs hc
 refine ⟨_, _, _, _, _, .own st.led.length, rfl, S, g.r.alloc hkeep hs hc ok, g.f.step g.r g.L S, ?_, hk⟩
 have := Rv.own (h := h') (N := NN fr (up c st.led.length cell) (st.led ++ [o])) (σ := up σ st.led.length a) (n := (st.led ++ [o]).length) st.led.length (by simp)
 rwa [p8] at this
theorem mono_alloc {h : Heap} {led : List O} {o : O} {p : Obj} (r : R hash b0 fr σ c led h) : v4 h (h.push p) (NN fr c led) (NN fr (up c led.length h.objs.size) (led ++ [o])) :=
 (y9.alloc (D := fun _ => False) (σ := σ) (c := c) (led := led) (a := h.objs.size) (o := o) (h' := h.push p) (fun b q e => Heap.get?_push_of_some _ e) (by rw [Heap.size_push]; exact Nat.le_succ _) (Nat.le_refl _)).mono (fun _ q => q.elim) fun _ q => .inl q
theorem push_list {xs : List V} {vs : List Value} {tk : Nat} (g : Gd hash b0 X fr σ c st s) (rs : Rvs s.heap (NN fr c st.led) σ st.led.length xs vs) (hk : k (.own st.led.length) ⟨st.loc, st.led ++ [.list xs]⟩) :
  PE1 hash b0 X fr σ c st s k (.ref s.heap.objs.size) { s with heap := s.heap.push { cls := .type "list", data := .seq vs.toArray }, toks := tk } :=
 alloc_post (o := .list xs) g (fun b q e => Heap.get?_push_of_some _ e) (by rw [Heap.size_push]; exact Nat.le_succ _) (Nat.le_refl _)
  ⟨rfl, vs.toArray, 0, Heap.get?_push_size _ rfl, Rvs.mono (mono_alloc g.r) (Nat.le_succ _) (fun i hi => u4 _ _ hi) (by simpa using rs)⟩ hk
theorem push_dict {tk : Nat} (g : Gd hash b0 X fr σ c st s) (hk : k (.own st.led.length) ⟨st.loc, st.led ++ [.dict []]⟩) :
  PE1 hash b0 X fr σ c st s k (.ref s.heap.objs.size) { s with heap := s.heap.push { cls := .type "dict", data := .dict #[] }, toks := tk } :=
 alloc_post (o := .dict []) g (fun b q e => Heap.get?_push_of_some _ e) (by rw [Heap.size_push]; exact Nat.le_succ _) (Nat.le_refl _)
  ⟨rfl, #[], 0, Heap.get?_push_size _ rfl, .nil, ⟨by simp, false, by simp⟩, by simp⟩ hk
inductive PostEs (hash : V -> Int) (b0 : Heap) (X : FX) (fr : List Addr) (σ c : Nat -> Addr) (st : St) (s : Shared) (k : List V -> St -> Prop) (us : List Value) (s' : Shared) : Prop
 | mk (h' : Heap) (tk : Nat) (σ' c' : Nat -> Addr) (led' : List O) (vs : List V) : s' = { s with heap := h', toks := tk } -> y9 (fun _ => False) σ c st.led s.heap σ' c' led' h' -> R hash b0 fr σ' c' led' h' -> b8 X h' (NN fr c' led') σ' led'.length st.loc -> Rvs h' (NN fr c' led') σ' led'.length vs us -> k vs ⟨st.loc, led'⟩ -> PostEs hash b0 X fr σ c st s k us s'
noncomputable def SndEs (w : World) (hash : V -> Int) (b0 : Heap) (Γ : Nat -> Option (Nat × r8)) (n : Nat) : Prop :=
 ∀ (x : List PE) (st : St) (k : List V -> St -> Prop) (e : List PySem.Expr) (X : FX) (A : Around) (s : Shared) (fr : List Addr) (σ c : Nat -> Addr) (pos : Pos),
  wp G Γ n (.es x st k) -> k5 ⟨Kf w.params, X.sc, X.names⟩ x e = true -> Gd hash b0 X fr σ c st s -> i9 A n ->
  wpAny (model pr w) A (spliced (backTo pos (starEach e X.env))) (fun us s' => us.length = e.length ∧ PostEs hash b0 X fr σ c st s k us s') (fun _ _ => False) s
theorem j6 {e : PySem.Expr} {r : List PySem.Expr} {env : Env} (h : nst e = true) : starEach (e :: r) env = (false, eval e env) :: starEach r env := by
 cases e <;> first | rfl | (exact (Bool.false_ne_true h).elim)
theorem sndEs_succ {n : Nat} (IE : k7 w hash b0 Γ n) (IEs : SndEs w hash b0 Γ n) : SndEs w hash b0 Γ (n + 1) := by
 intro x st k e X A s fr σ c pos hw ho g hA
 cases x with
 | nil =>
  cases e with
  | nil => exact wpAny_items_nil ⟨rfl, _, s.toks, σ, c, st.led, [], rfl, .refl, g.r, g.f, .nil, hw⟩
  | cons => exact (Bool.false_ne_true ho).elim
 | cons a as =>
  cases e with
  | nil => exact (Bool.false_ne_true ho).elim
  | cons e es =>
   simp only [w5, Bool.and_eq_true] at ho
   obtain ⟨⟨h1, h2⟩, h3⟩ := ho
   conv at hw => whnf
   refine wpAny_items_cons (one IE hw h2 g (hA.le (Nat.le_succ _)) fun h' tk σ' c' led' u uu x1 g1 ru hk => ?_) (j6 h1)
   refine wpAny_mono (IEs as _ _ es X A _ fr σ' c' pos hk h3 g1 (hA.le (Nat.le_succ _))) (fun us s' p => ?_) fun _ _ q => q
   obtain ⟨hlen, h2, t2, σ2, c2, l2, vs, rfl, x2, r2, f2, rs, hk2⟩ := p
   exact ⟨congrArg (· + 1) hlen, h2, t2, σ2, c2, l2, u :: vs, rfl, x1.trans x2, r2, f2, .cons (Rv.step (fr := fr) x2 ru) rs, hk2⟩
end
end
noncomputable section
section
variable {w : World} {hash : V -> Int} {b0 : Heap} {Γ : Nat -> Option (Nat × r8)} {X : FX} {fr : List Addr} {σ c : Nat -> Addr} {s : Shared} {A : Around} {st : St}
inductive PostT (hash : V -> Int) (b0 : Heap) (X : FX) (fr : List Addr) (σ c : Nat -> Addr) (st : St) (s : Shared) (k : Bool -> St -> Prop) (b : Bool) (s' : Shared) : Prop
 | mk (h' : Heap) (tk : Nat) (σ' c' : Nat -> Addr) (led' : List O) : s' = { s with heap := h', toks := tk } -> y9 (fun _ => False) σ c st.led s.heap σ' c' led' h' -> Gd hash b0 X fr σ' c' ⟨st.loc, led'⟩ { s with heap := h', toks := tk } -> k b ⟨st.loc, led'⟩ -> PostT hash b0 X fr σ c st s k b s'
theorem PostT.after {led' : List O} {h' : Heap} {tk : Nat} {σ' c' : Nat -> Addr} {k : Bool -> St -> Prop} {b : Bool} {s'' : Shared}
  (x : y9 (fun _ => False) σ c st.led s.heap σ' c' led' h') (p : PostT hash b0 X fr σ' c' ⟨st.loc, led'⟩ { s with heap := h', toks := tk } k b s'') : PostT hash b0 X fr σ c st s k b s'' := by
 obtain ⟨h2, t2, σ2, c2, l2, rfl, x2, g2, hk⟩ := p
 exact ⟨h2, t2, σ2, c2, l2, rfl, x.trans x2, g2, hk⟩
noncomputable def SndT (w : World) (hash : V -> Int) (b0 : Heap) (Γ : Nat -> Option (Nat × r8)) (n : Nat) : Prop :=
 ∀ (x : PE) (st : St) (k : Bool -> St -> Prop) (e : PySem.Expr) (X : FX) (A : Around) (s : Shared) (fr : List Addr) (σ c : Nat -> Addr),
  wp G Γ n (.t x st k) -> r6 w X x e -> Gd hash b0 X fr σ c st s -> i9 A n -> wpAny (model pr w) A (isTrue e X.env (eval e X.env)) (PostT hash b0 X fr σ c st s k) (fun _ _ => False) s
noncomputable def SndAl (w : World) (hash : V -> Int) (b0 : Heap) (Γ : Nat -> Option (Nat × r8)) (n : Nat) : Prop :=
 ∀ (x : List PE) (st : St) (k : Bool -> St -> Prop) (e : List PySem.Expr) (X : FX) (A : Around) (s : Shared) (fr : List Addr) (σ c : Nat -> Addr),
  wp G Γ n (.al x st k) -> k5 ⟨Kf w.params, X.sc, X.names⟩ x e = true -> Gd hash b0 X fr σ c st s -> i9 A n -> wpAny (model pr w) A (allTrue .And e X.env) (PostT hash b0 X fr σ c st s k) (fun _ _ => False) s
noncomputable def SndOl (w : World) (hash : V -> Int) (b0 : Heap) (Γ : Nat -> Option (Nat × r8)) (n : Nat) : Prop :=
 ∀ (x : List PE) (st : St) (k : Bool -> St -> Prop) (e : List PySem.Expr) (X : FX) (A : Around) (s : Shared) (fr : List Addr) (σ c : Nat -> Addr),
  wp G Γ n (.ol x st k) -> k5 ⟨Kf w.params, X.sc, X.names⟩ x e = true -> Gd hash b0 X fr σ c st s -> i9 A n -> wpAny (model pr w) A (allTrue .Or e X.env) (PostT hash b0 X fr σ c st s k) (fun _ _ => False) s
theorem nowT {k : Bool -> St -> Prop} {b : Bool} {tk : Nat} (g : Gd hash b0 X fr σ c st s) (hk : k b st) : PostT hash b0 X fr σ c st s k b { s with toks := tk } :=
 ⟨s.heap, tk, σ, c, st.led, rfl, .refl, ⟨g.Xo, g.L, g.r, g.f⟩, hk⟩
theorem sndAl_succ {n : Nat} (IT : SndT w hash b0 Γ n) (IA : SndAl w hash b0 Γ n) : SndAl w hash b0 Γ (n + 1) := by
 intro x st k e X A s fr σ c hw ho g hA
 cases x with
 | nil =>
  cases e with
  | nil => exact wpAny_allTrue_And_nil (nowT (tk := s.toks) g (hw))
  | cons => exact (Bool.false_ne_true ho).elim
 | cons a as =>
  cases e with
  | nil => exact (Bool.false_ne_true ho).elim
  | cons e es =>
   simp only [w5, Bool.and_eq_true] at ho
   obtain ⟨⟨h1, h2⟩, h3⟩ := ho
   conv at hw => whnf
   refine wpAny_allTrue_And_cons (wpAny_mono (IT a st _ e X A s fr σ c hw h2 g (hA.le (Nat.le_succ _))) (fun b s' p => ?_) fun _ _ q => q)
   obtain ⟨h', tk, σ', c', led', rfl, x1, g1, hk⟩ := p
   cases b with
   | true =>
    simp only [if_true]
    exact wpAny_mono (IA as _ k es X A _ fr σ' c' hk h3 g1 (hA.le (Nat.le_succ _))) (fun _ _ q => q.after x1) fun _ _ q => q
   | false =>
    simp only [Bool.false_eq_true, if_false]
    exact ⟨h', tk, σ', c', led', rfl, x1, g1, hk⟩
theorem sndOl_succ {n : Nat} (IT : SndT w hash b0 Γ n) (IA : SndOl w hash b0 Γ n) : SndOl w hash b0 Γ (n + 1) := by
 intro x st k e X A s fr σ c hw ho g hA
 cases x with
 | nil =>
  cases e with
  | nil => exact wpAny_allTrue_Or_nil (nowT (tk := s.toks) g (hw))
  | cons => exact (Bool.false_ne_true ho).elim
 | cons a as =>
  cases e with
  | nil => exact (Bool.false_ne_true ho).elim
  | cons e es =>
   simp only [w5, Bool.and_eq_true] at ho
   obtain ⟨⟨h1, h2⟩, h3⟩ := ho
   conv at hw => whnf
   refine wpAny_allTrue_Or_cons (wpAny_mono (IT a st _ e X A s fr σ c hw h2 g (hA.le (Nat.le_succ _))) (fun b s' p => ?_) fun _ _ q => q)
   obtain ⟨h', tk, σ', c', led', rfl, x1, g1, hk⟩ := p
   cases b with
   | false =>
    simp only [Bool.false_eq_true, if_false]
    exact wpAny_mono (IA as _ k es X A _ fr σ' c' hk h3 g1 (hA.le (Nat.le_succ _))) (fun _ _ q => q.after x1) fun _ _ q => q
   | true =>
    simp only [if_true]
    exact ⟨h', tk, σ', c', led', rfl, x1, g1, hk⟩
theorem truth_ok {v : V} {u : Value} {k : Bool -> St -> Prop} (g : Gd hash b0 X fr σ c st s) (rv : Rv s.heap (NN fr c st.led) σ st.led.length v u) (hw : truth st.led v fun b => k b st) :
  wpAny (model pr w) A (truthy u) (PostT hash b0 X fr σ c st s k) (fun _ _ => False) s := by
 cases v <;> first | exact hw.elim | skip
 ·obtain rfl := rv.inv
  exact PyProof.Rows.truthy_none (nowT (tk := s.toks) g hw)
 ·obtain rfl := rv.inv
  exact wpAny_truthy_bool (nowT (tk := s.toks) g hw)
 ·obtain ⟨t, rfl⟩ := rv.inv
  rename_i i
  refine PyProof.Rows.truthy_int (nowT (tk := s.toks) g ?_)
  have : decide (i ≠ 0) = (i != 0) := by
   by_cases q : i = 0 <;> simp [q]
  rw [← this]; exact hw
noncomputable def plainT (e : PySem.Expr) : Bool := if h : e.ctorIdx = 3 then PySem.Expr.UnaryOp.elim (motive_1 := fun _ => Bool) e h (fun op _ _ => !isUNot op) else !(Nat.beq e.ctorIdx 0 || Nat.beq e.ctorIdx 5 || Nat.beq e.ctorIdx 15)
theorem isTrue_of_plain {e : PySem.Expr} {env : Env} {whole : Sem Value} (h : plainT e = true) : isTrue e env whole = (do let v ← whole; standAt e.pos; holding [v] (truthy v)) := by
 cases e <;> first | rfl | (exact (Bool.false_ne_true h).elim) | skip
 rename_i op _ _
 cases op <;> first | rfl | (exact (Bool.false_ne_true h).elim)
noncomputable def tP (x : PE) : Bool := !(Nat.beq x.ctorIdx 4 || Nat.beq x.ctorIdx 5 || Nat.beq x.ctorIdx 6)
inductive TSort : PE -> PySem.Expr -> Prop
 | plain {x e} : tP x = true -> plainT e = true -> TSort x e
 | not (a e p) : TSort (.not a) (.UnaryOp .Not e p)
 | and (l es p) : TSort (.and l) (.BoolOp .And es p)
 | or (l es p) : TSort (.or l) (.BoolOp .Or es p)
 | cmp (op a b l o r p) : TSort (.cmp op a b) (.Compare l [o] [r] p)
 | cmp2 (o1 o2 a b c e) : TSort (.cmp2 o1 o2 a b c) e
 | ite (a b c e) : TSort (.ite a b c) e
 | bad (e) : TSort .bad e
theorem z8 {e : PySem.Expr} {k : Nat} (h : e.ctorIdx = k) (hk : (Nat.beq k 3 || (Nat.beq k 0 || Nat.beq k 5 || Nat.beq k 15)) = false) : plainT e = true := by
 subst h
 obtain ⟨h1, h2⟩ := Bool.or_eq_false_iff.mp hk
 unfold plainT
 rw [dif_neg (fun q => by rw [q] at h1; cases h1), h2]; rfl
theorem tsort {T : Tx} {x : PE} {e : PySem.Expr} (h : okE T x e = true) : TSort x e := by
 cases x with
 | bad => exact .bad _
 | cmp2 => exact .cmp2 _ _ _ _ _ _
 | ite => exact .ite _ _ _ _
 | not => exact inv_not h fun l p _ => .not _ _ _
 | and => exact inv_and h fun l p _ => .and _ _ _
 | or => exact inv_or h fun l p _ => .or _ _ _
 | cmp => exact inv_cmp h fun l o r p _ _ _ _ => .cmp _ _ _ _ _ _ _
 | neg => exact inv_neg h fun l p _ => .plain rfl rfl
 | loc => exact .plain rfl (z8 (qName_i h) rfl)
 | con => exact .plain rfl (z8 (qCst_i h) rfl)
 | glob => exact .plain rfl (z8 (qName_i h) rfl)
 | bin => exact .plain rfl (z8 (qBin_i h) rfl)
 | call => exact .plain rfl (z8 (n0 h) rfl)
 | new => exact .plain rfl (z8 (n0 h) rfl)
 | meth => exact .plain rfl (z8 (n0 h) rfl)
 | len => exact .plain rfl (z8 (n0 h) rfl)
 | ord => exact .plain rfl (z8 (n0 h) rfl)
 | strOf => exact .plain rfl (z8 (n0 h) rfl)
 | tupOf => exact .plain rfl (z8 (n0 h) rfl)
 | range => exact .plain rfl (z8 (n0 h) rfl)
 | attr => exact .plain rfl (z8 (qAttr_i h) rfl)
 | copy => exact .plain rfl (z8 (qSub_i h) rfl)
 | slTo => exact .plain rfl (z8 (qSub_i h) rfl)
 | rev => exact .plain rfl (z8 (qSub_i h) rfl)
 | sub => exact .plain rfl (z8 (qSub_i h) rfl)
 | tup => exact .plain rfl (z8 (qTup_i h) rfl)
 | list => exact .plain rfl (z8 (qLst_i h) rfl)
 | dict => exact .plain rfl (z8 (qDict_i h) rfl)
 | comp => exact .plain rfl (z8 (qComp_i h) rfl)
end
end
noncomputable section
section
variable {w : World} {b0 : Heap} {Γ : Nat -> Option (Nat × r8)} {X : FX} {fr : List Addr} {σ c : Nat -> Addr} {s : Shared} {A : Around} {st : St}
theorem room_300 {n : Nat} (hA : i9 A n) (hn : 0 < n) : A.units + 300 < cLine := by
 exact Nat.lt_of_le_of_lt (Nat.add_le_add_right (Nat.le_trans (Nat.le_add_right _ _) hA.units) 300) (by decide)
theorem sndT_succ {n : Nat} (W : Wd w b0) (IE : ∀ m ≤ n, k7 w (q9 w) b0 Γ m) (IT : SndT w (q9 w) b0 Γ n) (IA : SndAl w (q9 w) b0 Γ n) (IO : SndOl w (q9 w) b0 Γ n) : SndT w (q9 w) b0 Γ (n + 1) := by
 intro x st k e X A s fr σ c hw ho g hA
 have hA' := hA.le (Nat.le_succ n)
 have plain : ∀ {x e}, r6 w X x e -> plainT e = true -> wp G Γ n (.e x st fun v st => truth st.led v fun b => k b st) -> wpAny (model pr w) A (isTrue e X.env (eval e X.env)) (PostT (q9 w) b0 X fr σ c st s k) (fun _ _ => False) s := by
  intro x e ho hp hw
  refine isTrue_plain (one (IE n (Nat.le_refl _)) hw ho g hA' fun h' tk σ' c' led' u uu x1 g1 ru hk => ?_) (isTrue_of_plain hp)
  exact wpAny_mono (truth_ok g1 ru hk) (fun _ _ q => q.after x1) fun _ _ q => q
 induction tsort ho with
 | @plain x e hx hp =>
  cases x <;> first | exact Bool.noConfusion hx | exact plain ho hp (hw)
 | not a e p =>
  conv at hw => whnf
  refine wpAny_isTrue_Not (wpAny_mono (IT a st _ e X A s fr σ c hw (aR (a := isUNot .Not) ho) g hA') (fun b s' q => ?_) fun _ _ q => q)
  exact let ⟨h1, h2, h3, h4, h5, h6, h7, h8, h9⟩ := q; ⟨h1, h2, h3, h4, h5, h6, h7, h8, h9⟩
 | and l es p =>
  conv at hw => whnf
  exact wpAny_isTrue_BoolOp (IA l st k es X A s fr σ c hw (aR (a := isAnd .And) ho) g hA')
 | or l es p =>
  conv at hw => whnf
  exact wpAny_isTrue_BoolOp (IO l st k es X A s fr σ c hw (aR (a := !isAnd .Or) ho) g hA')
 | cmp op a b l o r p =>
  conv at hw => whnf
  cases n with
  | zero => exact False.elim hw
  | succ n =>
   conv at hw => whnf
   have ho : (copIs op o && !behindInMarks o r && okE _ a l && okE _ b r) = true := ho
   have h1 := aL (aL (aL ho))
   have h2 := bNot (aR (aL (aL ho)))
   have h3 := aR (aL ho)
   have h4 := aR ho
   refine wpAny_isTrue_Compare1 (two (IE n (Nat.le_succ _)) hw h3 h4 g (hA'.le (Nat.le_succ _)) fun h' tk σ' c' led' u v uu vv x1 g1 ru rv hk => ?_) h2
   refine wpAny_mono (cop_ok W (room_300 hA' (Nat.succ_pos _)) h1 g1 ru rv (k := fun v st => truth st.led v fun b => k b st) hk) (fun r s' q => ?_) fun _ _ q => q
   obtain ⟨h2, t2, σ2, c2, l2, v2, rfl, x2, r2, f2, rv2, hk2⟩ := q
   refine wpAny_mono (truth_ok (s := { s with heap := h2, toks := t2 }) (st := ⟨st.loc, l2⟩) (k := k) ⟨g1.Xo, g1.L, r2, f2⟩ rv2 hk2) (fun _ _ q => ?_) fun _ _ q => q
   exact q.after (x1.trans x2)
 | cmp2 => (conv at hw => whnf); cases n <;> exact False.elim hw
 | ite => (conv at hw => whnf); cases n <;> exact False.elim hw
 | bad => (conv at hw => whnf); cases n <;> exact False.elim hw
end
end
noncomputable section
section
variable {prog : Program} {w : World} {K : Frag} {C x : Addr} {s : Shared} {R : Result -> Shared -> Prop} {A : Around}
theorem osa_cell {ox od : Obj} {dx : Addr} {name : Str} {tk : Tok} {v : Value} {es : Array DictEntry} {ep : Nat} {es' : List DictEntry} {n : Nat} (X : K.In s.heap)
  (I : InstAt s.heap x ox C (some od)) (hd : ox.dict = some dx) (hp : plainOver K C = true) (ht : takerIn K C name = some none) (hh : (clsIn K C).any (·.hasDict) = true)
  (D : s.heap.get? dx = some od) (q : od.data = .dict es ep) (hl : ∀ e ∈ es.toList, e.refKey = false)
  (e' : (Obj.putName name (PyData.keyHash w.params name) (.str name s.toks) v od).data = .dict es'.toArray n) (hz : es'.length ≤ 1000)
  (h : R (.ok (.ret .none)) { s with heap := s.heap.update dx (Obj.putName name (PyData.keyHash w.params name) (.str name s.toks) v), toks := s.toks + 1 }) :
  codeAny (model prog w) A (.call (.builtin "object.__setattr__") ⟨[.ref x, .str name tk, v], []⟩) R s := by
 refine osa_open X I hp ht fun b => ?_
 obtain ⟨cd, hc, hd'⟩ := any_some hh
 have D' : (s.heap.update dx (Obj.putName name (PyData.keyHash w.params name) (.str name s.toks) v)).get? dx = some (Obj.putName name (PyData.keyHash w.params name) (.str name s.toks) v od) :=
  Heap.get?_update_self _ D (Obj.isFreed_of_dict e')
 obtain ⟨hx, hcl, hn, -⟩ := I
 obtain ⟨oc, odi, oda, osl⟩ := ox
 dsimp only at hcl hd
 subst hcl hd
 refine wpAny_bind (wpAny_pure (wpAny_bind (wpAny_bind (wpAny_loadPart hx (wpAny_bind ((looks_clsIn X hc).here ?_))))))
 rw [hd']
 refine wpAny_pure (a := some dx) (wpAny_bind (wpAny_pure (wpAny_bind ?_)))
 unfold nsSet
 refine wpAny_bind (wpAny_bind (wpAny_askSetting (wpAny_pure (wpAny_bind (wpAny_mkText (wpAny_bind (wpAny_loadPart D ?_)))))))
 rw [q]
 dsimp only
 have c : (!es.any (·.key.isStr name) && es.any (·.refKey)) = false := by
  have : es.any (·.refKey) = false := by
   rw [← Array.any_toList, List.any_eq_false]
   intro e he
   rw [hl e he]; decide
  rw [this, Bool.and_false]
 rw [aRefKeyMayBeTheName_at, c]
 refine wpAny_updatePart D ?_
 refine wpAny_bind (wpAny_lookBehind D' (by rw [e']; exact pastItsLine_dict (by rw [List.size_toArray, sizeLine_eq]; omega)) ?_)
 exact wpAny_pure h
end
section
variable {w : World} {hash : V -> Int} {b0 : Heap} {Γ : Nat -> Option (Nat × r8)} {X : FX} {fr : List Addr} {σ c : Nat -> Addr} {s : Shared} {A : Around} {st : St}
theorem nm_inj {a m : Nat} (ha : a < nmT.length) (hm : m < nmT.length) (z : d9 a = d9 m) : a = m := by
 unfold d9 at z
 rw [p9, p9, List.getElem?_eq_getElem ha, List.getElem?_eq_getElem hm] at z
 exact (List.getElem_inj nmT_nodup).mp (by simpa using z)
theorem put_rfs {h : Heap} {N : Addr -> Prop} {n m : Nat} {v : V} {u : Value} {hs : Int} {t : Tok} (hm : m < nmT.length) (rv : Rv h N σ n v u) : ∀ {fs : List (Nat × V)} {es : List DictEntry}, Rfs h N σ n fs es ->
  ∃ l b, nsPutIn (d9 m).cps.size (d9 m).cps.toList (fun | some e => { e with val := u } | none => ⟨hs, .str (d9 m) t, u⟩) es = (l, b) ∧ Rfs h N σ n (a8 m v fs) l ∧ l.length ≤ es.length + 1
 | [], _, r0 => by
  obtain rfl := r0.inv
  exact ⟨_, _, rfl, .cons hm rv .nil, by simp⟩
 | (a, x) :: fs, _, r0 => by
  obtain ⟨q, t', u', es, rfl, ha, rx, rf⟩ := r0.inv
  rw [nsPutIn, Value.isStrByCps_eq]
  unfold a8
  by_cases e : m = a
  ·subst e
   have h1 : (Value.str (d9 m) t').isStr (d9 m) = true := by simp [Value.isStr]
   rw [if_pos h1, Nat.beq_refl]
   exact ⟨_, _, rfl, .cons hm rv rf, by simp⟩
  ·have h1 : (Value.str (d9 a) t').isStr (d9 m) = false := by
    simp only [Value.isStr]
    rw [beq_eq_false_iff_ne]
    exact fun z => e (nm_inj ha hm z).symm
   have h2 : Nat.beq m a = false := by
    cases z : Nat.beq m a with
    | false => rfl
    | true => exact absurd (Nat.eq_of_beq_eq_true z) e
   rw [h2]
   obtain ⟨l, b, e1, r1, l1⟩ := put_rfs (hs := hs) (t := t) hm rv rf
   refine ⟨⟨q, .str (d9 a) t', u'⟩ :: l, b, ?_, .cons ha rx r1, Nat.succ_le_succ l1⟩
   simp only [h1, Bool.false_eq_true, if_false]
   rw [e1]
theorem rfs_refKey {h : Heap} {N : Addr -> Prop} {n : Nat} : ∀ {fs : List (Nat × V)} {es : List DictEntry}, Rfs h N σ n fs es -> ∀ e ∈ es, e.refKey = false
 | [], _, r0, _, he => by
  obtain rfl := r0.inv
  cases he
 | (a, x) :: fs, _, r0, e, he => by
  obtain ⟨_, _, _, _, rfl, ha, rx, rf⟩ := r0.inv
  rcases List.mem_cons.mp he with rfl | he
  ·rfl
  ·exact rfs_refKey rf e he
theorem rfs_len {h : Heap} {N : Addr -> Prop} {n : Nat} : ∀ {fs : List (Nat × V)} {es : List DictEntry}, Rfs h N σ n fs es -> fs.length = es.length
 | [], _, r0 => by
  obtain rfl := r0.inv
  rfl
 | (a, x) :: fs, _, r0 => by
  obtain ⟨_, _, _, _, rfl, _, _, rf⟩ := r0.inv
  exact congrArg (· + 1) (rfs_len rf)
theorem putF_keys {m : Nat} {v : V} : ∀ {fs : List (Nat × V)}, (fs.map (·.1)).Nodup -> ((a8 m v fs).map (·.1)).Nodup ∧ ∀ a ∈ (a8 m v fs).map (·.1), a = m ∨ a ∈ fs.map (·.1)
 | [], _ => by simp [a8]
 | (a, u) :: r, hn => by
  rw [List.map_cons, List.nodup_cons] at hn
  unfold a8
  cases z : Nat.beq m a with
  | true =>
   simp only
   rw [List.map_cons, List.nodup_cons]
   exact ⟨hn, fun b hb => .inr hb⟩
  | false =>
   simp only
   obtain ⟨h1, h2⟩ := putF_keys (m := m) (v := v) hn.2
   rw [List.map_cons, List.nodup_cons]
   refine ⟨⟨fun hb => ?_, h1⟩, fun b hb => ?_⟩
   ·rcases h2 _ hb with e | e
    ·have e' : a = m := e
     rw [e', Nat.beq_refl] at z; cases z
    ·exact hn.1 e
   ·rcases List.mem_cons.mp hb with rfl | hb
    ·exact .inr (.head _)
    ·rcases h2 _ hb with e | e
     ·exact .inl e
     ·exact .inr (.tail _ e)
theorem cellN_of {led : List O} {h : Heap} {i : Nat} (hl : cQ led i) : NN fr c led (c i) := .inr ⟨i, hl, rfl⟩
theorem setA_ok {i C m : Nat} {fs : List (Nat × V)} {v : V} {u : Value} {Q : Unit -> Shared -> Prop} {E : Value -> Shared -> Prop} (W : Wd w b0) (g : Gd hash b0 X fr σ c st s) (hm : m < nmT.length) (hi : getL st.led i = some (.inst C fs)) (ha : G.att C m = true) (hz : fs.length ≤ 100)
  (rv : Rv s.heap (NN fr c st.led) σ st.led.length v u)
  (h : ∀ h' tk, y9 (fun _ => False) σ c st.led s.heap σ c (st.led.set i (.inst C (a8 m v fs))) h' -> Gd hash b0 X fr σ c ⟨st.loc, st.led.set i (.inst C (a8 m v fs))⟩ { s with heap := h', toks := tk } -> Q () { s with heap := h', toks := tk }) :
  wpAny (model pr w) A (setAttr (.ref (σ i)) (d9 m) u) Q E s := by
 obtain ⟨p1, p2, ⟨a, p3, p4⟩, p5, p6, p7⟩ := attOk_parts (att_ok (P := w.params) ha)
 obtain ⟨hn, g1, arr, ep, g2, rf, nd⟩ := g.r.cell i _ hi
 have X₀ : (Kf w.params).In s.heap := fun a o e => (K_now W g.r a o e).1
 have hl : cQ st.led i := ⟨_, hi, trivial⟩
 have I : InstAt s.heap (σ i) ⟨.ref C, some (c i), .plain, #[]⟩ C (some (dictOf arr.toList ep)) := ⟨g1, rfl, rfl, by simpa [dictOf] using g2⟩
 obtain ⟨l, b, e1, r1, l1⟩ := put_rfs (hs := PyData.keyHash w.params (d9 m)) (t := s.toks + 1) hm rv rf
 have e2 : ∃ ep', Obj.putName (d9 m) (PyData.keyHash w.params (d9 m)) (.str (d9 m) (s.toks + 1)) u ⟨.type "dict", none, .dict arr ep, #[]⟩ = ⟨.type "dict", none, .dict l.toArray ep', #[]⟩ := by
  simp only [Obj.putName]
  generalize hq : nsPutIn _ _ _ arr.toList = q
  have hq' : q = (l, b) := hq.symm.trans e1
  subst hq'
  cases b <;> exact ⟨_, rfl⟩
 obtain ⟨ep', e2⟩ := e2
 have hdict : (clsIn (Kf w.params) C).any (·.hasDict) = true := p2
 refine set_plain X₀ I p5 (osa_cell (s := { s with toks := s.toks + 1 }) (od := ⟨.type "dict", none, .dict arr ep, #[]⟩) (dx := c i) (es := arr) (ep := ep) X₀ (by simpa [dictOf] using I) rfl p6 p7 hdict g2 rfl (rfs_refKey rf) (by rw [e2]) (by
  exact Nat.le_trans l1 (Nat.le_trans (Nat.succ_le_succ (rfs_len rf ▸ hz)) (by decide))) ?_)
 have gs : (s.heap.update (c i) (Obj.putName (d9 m) (PyData.keyHash w.params (d9 m)) (.str (d9 m) (s.toks + 1)) u)).get? (c i) = some ⟨.type "dict", none, .dict l.toArray ep', #[]⟩ :=
  (Heap.get?_update_self _ g2 (by rw [e2]; rfl)).trans (by rw [e2])
 have gn : ∀ b, b ≠ c i -> (s.heap.update (c i) (Obj.putName (d9 m) (PyData.keyHash w.params (d9 m)) (.str (d9 m) (s.toks + 1)) u)).get? b = s.heap.get? b := fun b hb => Heap.get?_update_ne _ _ _ _ hb
 have S := y9.turn (D := fun _ => False) (σ := σ) (o := .inst C (a8 m v fs)) hl gn ⟨_, gs⟩
 have Mo := S.mono (fr := fr) (fr' := fr) (fun _ q => q.elim) fun _ q => .inl q
 have r1' : Rfs (s.heap.update (c i) (Obj.putName (d9 m) (PyData.keyHash w.params (d9 m)) (.str (d9 m) (s.toks + 1)) u)) (NN fr c (st.led.set i (.inst C (a8 m v fs)))) σ st.led.length (a8 m v fs) l := Rfs.mono Mo (Nat.le_refl _) (fun _ _ => rfl) r1
 refine h _ _ S ⟨g.Xo, g.L, g.r.turn hl gn ⟨_, gs⟩ ⟨fun q => hn (Mo.less _ _ g1 q), (Mo.keep _ _ hn g1), l.toArray, ep', gs, by simpa using r1', (putF_keys nd).1⟩, g.f.step g.r g.L S⟩
end
end
end Mine
end
section
open PyProof.Rows PySem PySem.W
namespace Mine
theorem allFns_ (P : Params) : allFns (Kf P) = true := by kernel_rfl
end Mine
end
section
open PyProof.Rows PySem PySem.SeqAt PySem.W
namespace Mine
noncomputable section
section
variable {w : World} {b0 : Heap} {Γ : Nat -> Option (Nat × r8)} {X : FX} {fr : List Addr} {σ c : Nat -> Addr} {s : Shared} {A : Around} {st : St} {k : V -> St -> Prop} {n : Nat} {e : PySem.Expr}
noncomputable abbrev w2 (w : World) (b0 : Heap) (X : FX) (fr : List Addr) (σ c : Nat -> Addr) (st : St) (s : Shared) (A : Around) (k : V -> St -> Prop) (e : PySem.Expr) : Prop :=
 wpAny (model pr w) A (eval e X.env) (PE1 (q9 w) b0 X fr σ c st s k) (fun _ _ => False) s
theorem dQ {h : Heap} {N : Addr -> Prop} {n : Nat} : ∀ {xs ys : List V} {us vs : List Value}, Rvs h N σ n xs us -> Rvs h N σ n ys vs -> Rvs h N σ n (xs ++ ys) (us ++ vs)
 | [], _, _, _, r0, r => by
  obtain rfl := r0.inv
  exact r
 | x :: xs, _, _, _, r0, r => by
  obtain ⟨_, _, rfl, a, b⟩ := r0.inv
  exact .cons a (dQ b r)
theorem go {led' : List O} {h' : Heap} {tk : Nat} {σ' c' : Nat -> Addr} {m : Sem Value} {s₁ : Shared} (x1 : y9 (fun _ => False) σ c st.led s.heap σ' c' led' h')
  (h : wpAny (model pr w) A m (PE1 (q9 w) b0 X fr σ' c' ⟨st.loc, led'⟩ { s with heap := h', toks := tk } k) (fun _ _ => False) s₁) : wpAny (model pr w) A m (PE1 (q9 w) b0 X fr σ c st s k) (fun _ _ => False) s₁ :=
 wpAny_mono h (fun _ _ q => j2.after x1 q) fun _ _ q => q
theorem attrBase {o : PySem.Expr} {name : Str} {env : Env} {whole : Sem Value} (h : noCall0 o = true) : attributeBase o name env whole = whole := by
 cases o <;> try rfl
 rename_i f as kw p
 cases f <;> try rfl
 cases as <;> try rfl
 cases kw <;> first | rfl | (exact (Bool.false_ne_true h).elim)
theorem gIs_inv {T : Tx} {y : Str} {p : Value -> Bool} (h : gIs T y p = true) : isGlob T y = true ∧ ∃ u, nsIn T.K mainGlobals y = some (some u) ∧ p u = true := by
 obtain ⟨a, b⟩ := Bool.and_eq_true_iff.mp h
 obtain ⟨u, hu, b⟩ := okO_iff b
 obtain ⟨v, rfl, b'⟩ := okO_iff b
 exact ⟨a, v, hu, b'⟩
theorem bIs_inv {T : Tx} {y : Str} {x : String} (h : bIs T y x = true) : isGlob T y = true ∧ y = Str.ofString x ∧ nsIn T.K mainGlobals y = some none := by
 obtain ⟨ab, c⟩ := Bool.and_eq_true_iff.mp h
 obtain ⟨a, b⟩ := Bool.and_eq_true_iff.mp ab
 obtain ⟨u, hu, c⟩ := okO_iff c
 cases u with
 | none => exact ⟨a, qQ b, hu⟩
 | some => exact (Bool.false_ne_true c).elim
theorem w0 {y : Str} {p : Pos} {led : List O} {v : Value} {Q : Value -> Shared -> Prop} {E : Value -> Shared -> Prop} {x : String} (W : Wd w b0) (hi : bIs ⟨Kf w.params, X.sc, X.names⟩ y x = true) (hv : bootBuiltins (Str.ofString x) = some v) (hx : Str.ofString x ≠ "__name__") (Xo : FXok X)
  (r : R (q9 w) b0 fr σ c led s.heap) (h : Q v s) : wpAny (model pr w) A (eval (.Name y p) X.env) Q E s := by
 obtain ⟨h1, rfl, h3⟩ := bIs_inv hi
 obtain ⟨hx', hd⟩ := glob_ok h1
 obtain ⟨mg, hg⟩ := W.g
 obtain ⟨mb, hb, hbb⟩ := W.b
 refine Calls.Name_function_global Xo.kind (Xo.glob _ hx') (Calls.loadGlobal_builtin (mg := mg) (mb := mb) ?_ (mg_of W.K hg h3) ?_ ((hbb _ hx).trans hv) h) hd
 ·rw [Xo.globals]; exact hg.keeps (base_keeps r)
 ·rw [Xo.builtins]; exact hb.keeps (base_keeps r)
theorem e_con {v : V} (g : Gd (q9 w) b0 X fr σ c st s) (hw : wp G Γ (n + 1) (.e (.con v) st k)) (ho : r6 w X (.con v) e) : w2 w b0 X fr σ c st s A k e := by
 refine inv_con ho fun c' kk p hm => ?_
 conv at hw => whnf
 cases v <;> first | (cases hm; done) | skip
 ·exact qCN_e hm (wpAny_Constant_none (now (tk := s.toks) g .none hw))
 ·refine qCB_e hm fun b hm => ?_
  rw [← show _ = b from beq_iff_eq.mp hm]
  exact wpAny_Constant_bool (now (tk := s.toks) g (.bool _) hw)
 ·refine qInt_e hm fun b hm => ?_
  rw [← show _ = b from of_decide_eq_true hm]
  exact wpAny_Constant_int (now g (.int _ _) hw)
 ·refine qCS_e hm fun b hm => ?_
  rw [← show _ = b from qQ hm]
  exact wpAny_Constant_str (now g (.str _ _) hw)
theorem e_loc {i : Nat} (g : Gd (q9 w) b0 X fr σ c st s) (hw : wp G Γ (n + 1) (.e (.loc i) st k)) (ho : r6 w X (.loc i) e) : w2 w b0 X fr σ c st s A k e := by
 refine inv_loc ho fun y p h => ?_
 conv at hw => whnf
 exact eval_loc hw h g.Xo g.r g.f
theorem e_glob {v : V} (W : Wd w b0) (g : Gd (q9 w) b0 X fr σ c st s) (hw : wp G Γ (n + 1) (.e (.glob v) st k)) (ho : r6 w X (.glob v) e) : w2 w b0 X fr σ c st s A k e := by
 refine inv_glob ho fun y p h => ?_
 conv at hw => whnf
 obtain ⟨h1, u, h2, h3⟩ := gIs_inv h
 exact load_glob W h1 h2 g.Xo g.r (now (tk := s.toks) g (rv_of_match (K_now W g.r) v u h3) hw)
theorem e_neg {a : PE} (IE : k7 w (q9 w) b0 Γ n) (g : Gd (q9 w) b0 X fr σ c st s) (hA : i9 A (n + 1)) (hw : wp G Γ (n + 1) (.e (.neg a) st k)) (ho : r6 w X (.neg a) e) : w2 w b0 X fr σ c st s A k e := by
 refine inv_neg ho fun l p h => ?_
 conv at hw => whnf
 refine wpAny_UnaryOp (one IE hw h g (hA.le (Nat.le_succ _)) fun h' tk σ' c' led' u uu x1 g1 ru hk => ?_)
 refine int_e hk ru fun _i hk ru => ?_
 obtain ⟨_, rfl⟩ := ru.inv
 exact go x1 (PyProof.Rows.neg_int (now g1 (.int _ _) hk))
theorem e_not {a : PE} (IE : k7 w (q9 w) b0 Γ n) (g : Gd (q9 w) b0 X fr σ c st s) (hA : i9 A (n + 1)) (hw : wp G Γ (n + 1) (.e (.not a) st k)) (ho : r6 w X (.not a) e) : w2 w b0 X fr σ c st s A k e := by
 refine inv_not ho fun l p h => ?_
 conv at hw => whnf
 refine wpAny_UnaryOp (one IE hw h g (hA.le (Nat.le_succ _)) fun h' tk σ' c' led' u uu x1 g1 ru hk => not_value ?_)
 refine wpAny_mono (truth_ok (k := fun b st => k (.bool (!b)) st) g1 ru hk) (fun b s' q => ?_) fun _ _ q => q
 obtain ⟨h2, t2, σ2, c2, l2, rfl, x2, g2, hk2⟩ := q
 exact ⟨h2, t2, σ2, c2, l2, .bool (!b), rfl, x1.trans x2, g2.r, g2.f, .bool _, hk2⟩
theorem e_bin {op : Bop} {a b : PE} (IE : k7 w (q9 w) b0 Γ n) (g : Gd (q9 w) b0 X fr σ c st s) (hA : i9 A (n + 1)) (hw : wp G Γ (n + 1) (.e (.bin op a b) st k)) (ho : r6 w X (.bin op a b) e) : w2 w b0 X fr σ c st s A k e := by
 refine inv_bin ho fun l o r p h1 h2 h3 => ?_
 conv at hw => whnf
 refine wpAny_BinOp (two IE hw h2 h3 g (hA.le (Nat.le_succ _)) fun h' tk σ' c' led' u v uu vv x1 g1 ru rv hk => ?_)
 refine go (tk := tk) x1 ?_
 cases u <;> (try exact hk.elim) <;> cases v <;> try exact hk.elim
 ·obtain ⟨_, rfl⟩ := ru.inv
  obtain ⟨_, rfl⟩ := rv.inv
  exact iop_ok (k := k) hA.quiet h1 g1 hk
 ·obtain ⟨_, rfl⟩ := ru.inv
  obtain ⟨_, rfl⟩ := rv.inv
  cases op <;> try exact hk.elim
  obtain rfl := of_decide_eq_true h1
  obtain ⟨hz, hk⟩ := z7 hk
  exact PyProof.Rows.add_str (fun t' tk' => now g1 (.str _ _) hk) (Nat.le_trans hz (by decide))
 ·rename_i i j
  refine ll_e hk fun xs ys ho hi hj hk2 => ?_
  subst ho
  ·obtain ⟨rfl, _⟩ := ru.inv
   obtain ⟨rfl, _⟩ := rv.inv
   obtain ⟨hz, hk2⟩ := z7 hk2
   rw [w3, w6] at hk2
   obtain ⟨ei, vs, ep, gi, ri⟩ := g1.r.cell i _ hi
   obtain ⟨ej, vs', ep', gj, rj⟩ := g1.r.cell j _ hj
   rw [ei, ej]
   obtain rfl := of_decide_eq_true h1
   have l1 := u7 ri
   have l2 := u7 rj
   refine PySem.concat_meets (T := "list") ⟨_, gi, rfl⟩ ⟨_, gj, rfl⟩ noFill_list_add seq_list_add PySem.F.slot_list_add PySem.F.entry_list_add (PySem.F.args_list_add_2 _ _) (PyProof.Rows.list_addW (c' i) (c' j) vs vs' ep ep' none none #[] #[] (Nat.le_trans (Nat.add_le_add (Nat.le_of_eq l1.symm) (Nat.le_of_eq l2.symm)) (Nat.le_trans hz (by decide)))) ⟨gi, gj, ?_⟩
   have := push_list (tk := tk) (xs := xs ++ ys) (vs := vs.toList ++ vs'.toList) g1 (dQ ri rj) hk2
   have e : (vs.toList ++ vs'.toList).toArray = vs ++ vs' := by simp
   rw [e] at this
   exact this
theorem e_cmp {op : Cop} {a b : PE} (W : Wd w b0) (IE : k7 w (q9 w) b0 Γ n) (g : Gd (q9 w) b0 X fr σ c st s) (hA : i9 A (n + 1)) (hw : wp G Γ (n + 1) (.e (.cmp op a b) st k)) (ho : r6 w X (.cmp op a b) e) : w2 w b0 X fr σ c st s A k e := by
 refine inv_cmp ho fun l o r p h1 h2 h3 h4 => ?_
 conv at hw => whnf
 refine wpAny_Compare1 (two IE hw h3 h4 g (hA.le (Nat.le_succ _)) fun h' tk σ' c' led' u v uu vv x1 g1 ru rv hk => ?_) h2
 exact go (tk := tk) x1 (cop_ok W (room_300 hA (Nat.succ_pos _)) h1 g1 ru rv hk)
theorem e_attr {o : PE} {m : Nat} (W : Wd w b0) (IE : k7 w (q9 w) b0 Γ n) (g : Gd (q9 w) b0 X fr σ c st s) (hA : i9 A (n + 1)) (hw : wp G Γ (n + 1) (.e (.attr o m) st k)) (ho : r6 w X (.attr o m) e) : w2 w b0 X fr σ c st s A k e := by
 refine inv_attr ho fun x p h0 h => ?_
 conv at hw => whnf
 unfold w2; rw [arm_eval_Attribute, attrBase h0]
 refine wpAny_bind (one IE hw h g (hA.le (Nat.le_succ _)) fun h' tk σ' c' led' u uu x1 g1 ru hk => wpAny_bind (wpAny_standAt (wpAny_bind (wpAny_holding (wpAny_mono ?_ (fun v s' q => wpAny_bind (wpAny_letTemporaryGo (wpAny_pure q))) fun _ _ q => q)))))
 exact go (tk := tk) x1 (attr_ok W g1 ru hk)
theorem e_sub {a i : PE} (W : Wd w b0) (IE : k7 w (q9 w) b0 Γ n) (g : Gd (q9 w) b0 X fr σ c st s) (hA : i9 A (n + 1)) (hw : wp G Γ (n + 1) (.e (.sub a i) st k)) (ho : r6 w X (.sub a i) e) : w2 w b0 X fr σ c st s A k e := by
 refine inv_sub ho fun x y p h0 h1 h2 => ?_
 conv at hw => whnf
 refine PyProof.Rows.Subscript_ (two IE hw h1 h2 g (hA.le (Nat.le_succ _)) fun h' tk σ' c' led' u v uu vv x1 g1 ru rv hk => ?_)
 exact go (tk := tk) x1 (sub_ok W (room_300 hA (Nat.succ_pos _)) h0 g1 ru rv hk)
theorem okEs_len {T : Tx} : ∀ {l : List PE} {es : List PySem.Expr}, k5 T l es = true -> l.length = es.length
 | [], [], _ => rfl
 | [], _ :: _, h => by exact (Bool.false_ne_true h).elim
 | _ :: _, [], h => by exact (Bool.false_ne_true h).elim
 | _ :: l, _ :: es, h => by
  simp only [w5, Bool.and_eq_true] at h
  simp [okEs_len h.2]
theorem e_tup {l : List PE} (IEs : SndEs w (q9 w) b0 Γ n) (g : Gd (q9 w) b0 X fr σ c st s) (hA : i9 A (n + 1)) (hw : wp G Γ (n + 1) (.e (.tup l) st k)) (ho : r6 w X (.tup l) e) : w2 w b0 X fr σ c st s A k e := by
 refine inv_tup ho fun es kk p hz h => ?_
 conv at hw => whnf
 refine wpAny_Tuple (wpAny_mono (IEs _ _ _ es X A s fr σ c p hw h g (hA.le (Nat.le_succ _))) (fun us s' q => ?_) fun _ _ q => q)
 obtain ⟨hl, h2, t2, σ2, c2, l2, vs, rfl, x2, r2, f2, rs, hk⟩ := q
 refine ⟨Nat.le_trans (hl.trans (okEs_len h).symm ▸ hz) (by decide), j2.after (s := s) (st := st) x2 (push_tup (st := ⟨st.loc, l2⟩) ⟨g.Xo, g.L, r2, f2⟩ rs hk)⟩
theorem e_list {l : List PE} (IEs : SndEs w (q9 w) b0 Γ n) (g : Gd (q9 w) b0 X fr σ c st s) (hA : i9 A (n + 1)) (hw : wp G Γ (n + 1) (.e (.list l) st k)) (ho : r6 w X (.list l) e) : w2 w b0 X fr σ c st s A k e := by
 refine inv_list ho fun es p hz h => ?_
 conv at hw => whnf
 simp only [w3, w6] at hw
 refine wpAny_List (wpAny_mono (IEs _ _ _ es X A s fr σ c p hw h g (hA.le (Nat.le_succ _))) (fun us s' q => ?_) fun _ _ q => q)
 obtain ⟨hl, h2, t2, σ2, c2, l2, vs, rfl, x2, r2, f2, rs, hk⟩ := q
 refine ⟨Nat.le_trans (hl.trans (okEs_len h).symm ▸ hz) (by decide), j2.after (s := s) (st := st) x2 (push_list (st := ⟨st.loc, l2⟩) ⟨g.Xo, g.L, r2, f2⟩ rs hk)⟩
end
end
noncomputable section
theorem zip_lookup {ns : List Str} {vs : List Value} (hn : ns.Nodup) : ∀ {i : Nat} {x : Str} {v : Value}, ns[i]? = some x -> vs[i]? = some v -> (ns.zip vs).lookup x = some v := by
 induction ns generalizing vs with
 | nil => intro i x v h; simp at h
 | cons n r ih =>
  intro i x v h1 h2
  cases vs with
  | nil => simp at h2
  | cons u us =>
   cases i with
   | zero =>
    simp at h1 h2
    subst h1; subst h2
    simp [List.zip_cons_cons, List.lookup_cons]
   | succ i =>
    simp at h1 h2
    rw [List.nodup_cons] at hn
    have hx : x ∈ r := by
     obtain ⟨hi, e⟩ := List.getElem?_eq_some_iff.mp h1
     exact e ▸ List.getElem_mem hi
    have hne : (x == n) = false := by
     rw [beq_eq_false_iff_ne]; rintro rfl; exact hn.1 hx
    rw [List.zip_cons_cons, List.lookup_cons, hne]
    exact ih hn.2 h1 h2
theorem fm_congr {α β : Type} {f g : α -> Option β} : ∀ {l : List α}, (∀ x ∈ l, f x = g x) -> l.filterMap f = l.filterMap g
 | [], _ => rfl
 | x :: r, h => by
  rw [List.filterMap_cons, List.filterMap_cons, h x (.head _), fm_congr fun y hy => h y (.tail _ hy)]
theorem zip_filterMap {ns : List Str} {vs : List Value} (hn : ns.Nodup) (hl : ns.length = vs.length) : ns.filterMap (fun n => ((ns.zip vs).lookup n).map (n, ·)) = ns.zip vs := by
 induction ns generalizing vs with
 | nil => rfl
 | cons n r ih =>
  cases vs with
  | nil => simp at hl
  | cons u us =>
   rw [List.nodup_cons] at hn
   rw [List.zip_cons_cons, List.filterMap_cons]
   simp only [List.lookup_cons, beq_self_eq_true, Option.map_some]
   congr 1
   refine (fm_congr (g := fun n => ((r.zip us).lookup n).map (n, ·)) fun x hx => ?_).trans (ih hn.2 (by simpa using hl))
   have hne : (x == n) = false := by
    rw [beq_eq_false_iff_ne]; rintro rfl; exact hn.1 hx
   simp only [hne]
theorem bind_plain {fd : FuncData} {us : List Value} (h1 : fd.params.posonlyargs = []) (h2 : fd.params.vararg = none) (h3 : fd.params.kwonlyargs = []) (h4 : fd.params.kwarg = none) (h5 : fd.defaults = .none)
  (hn : (fd.params.args.map (·.arg)).Nodup) (hl : fd.params.args.length = us.length) : bindArgs fd ⟨us, []⟩ = pure ((fd.params.args.map (·.arg)).zip us) := by
 obtain ⟨f1, f2, ⟨p1, p2, p3, p4, p5, p6, p7⟩, f4, f5, f6, f7, f8, f9, f10, f11, f12, f13, f14, f15⟩ := fd
 obtain rfl : p1 = [] := h1
 obtain rfl : p3 = none := h2
 obtain rfl : p4 = [] := h3
 obtain rfl : p6 = none := h4
 obtain rfl : f8 = .none := h5
 have hlen : (p2.map (·.arg)).length = us.length := by rw [List.length_map]; exact hl
 have hz := zip_filterMap hn hlen
 have hm : ∀ k, ((p2.map (·.arg)).take k).filter (fun n => (((p2.map (·.arg)).zip us).lookup n).isNone) = [] := by
  intro k
  rw [List.filter_eq_nil_iff]
  intro x hx
  obtain ⟨i, hi, e⟩ := List.getElem_of_mem (List.mem_of_mem_take hx)
  rw [zip_lookup hn (i := i) (v := us[i]'(hlen ▸ hi)) (by rw [List.getElem?_eq_getElem hi, e]) (List.getElem?_eq_getElem _)]; exact Bool.false_ne_true
 have hd : ∀ k j, ((p2.map (·.arg)).drop k).zip (List.drop j ([] : List Value)) = [] := fun k j => by rw [List.drop_nil]; exact List.zip_nil_right
 refine (if_neg (c := (decide (us.length > (p2.map (·.arg)).length) && true) = true) ?_).trans ((if_neg (c := (!(((p2.map (·.arg)).take ((p2.map (·.arg)).length - (List.drop (0 - (p2.map (·.arg)).length) ([] : List Value)).length)).filter (fun n => (((p2.map (·.arg)).zip us).lookup n).isNone)).isEmpty) = true) ?_).trans ((congrArg (fun l => forIn l _ _ >>= _) (hd ((p2.map (·.arg)).length - (List.drop (0 - (p2.map (·.arg)).length) ([] : List Value)).length) (0 - (p2.map (·.arg)).length))).trans ?_))
 ·rw [hlen, decide_eq_false (Nat.lt_irrefl _)]; exact Bool.false_ne_true
 ·rw [hm]; exact Bool.false_ne_true
 ·show (pure (List.filterMap (fun n => (((p2.map (·.arg)).zip us).lookup n).map (n, ·)) ((p2.map (·.arg)) ++ [])) : Sem (List (Str × Value))) = _
  rw [List.append_nil, hz]
section
variable {hash : V -> Int} {b0 h h' : Heap} {fr fr' : List Addr} {D : Addr -> Prop} {σ c σ' c' : Nat -> Addr} {led led' : List O}
theorem R.wide (r : R hash b0 fr σ c led h) {L : Addr} (hL : h.get? L = none) (hlt : ∃ o, h'.get? L = some o) (hk : ∀ b o, h.get? b = some o -> h'.get? b = some o) :
  R hash b0 (L :: fr) σ c led h' ∧ y9 (fun _ => False) σ c led h σ c led h' := by
 have S : y9 (fun _ => False) σ c led h σ c led h' := ⟨fun a o e _ _ => hk a o e, Nat.le_refl _, fun _ _ => ⟨rfl, rfl⟩, fun _ _ x => x, fun _ hi x => absurd (u8 x) (Nat.not_lt.mpr hi), fun a o e => ⟨o, hk a o e⟩⟩
 refine ⟨r.step S (fun _ q => q.elim) (fun a ha => ?_) (fun i o e => ?_) (fun i j hi li _ _ => absurd (u8 li) (Nat.not_lt.mpr hi)) (fun i hi li => absurd (u8 li) (Nat.not_lt.mpr hi)) (fun a ha hn i li => ?_) (fun a ha => ?_), S⟩
 ·rcases List.mem_cons.mp ha with rfl | ha
  ·exact .inr hL
  ·exact .inl ha
 ·by_cases l : liveO o
  ·obtain ⟨q, g⟩ := (r.cell i o e).has l
   exact .inl ⟨e, by rw [g]; exact hk _ _ g⟩
  ·right
   cases o <;> first | exact absurd trivial l | exact trivial
 ·rcases List.mem_cons.mp ha with rfl | ha
  ·intro e
   obtain ⟨q, g⟩ := r.cell_some li
   rw [e, hL] at g; cases g
  ·exact absurd ha hn
 ·rcases List.mem_cons.mp ha with rfl | ha
  ·exact hlt
  ·obtain ⟨o, e⟩ := r.flt a ha
   exact ⟨o, hk a o e⟩
theorem mono_narrow {L : Addr} : v4 h h (NN (L :: fr) c led) (NN fr c led) := ⟨fun _ _ _ e => e, fun a o _ q => by
 rcases q with q | q
 ·exact .inl (.tail _ q)
 ·exact .inr q⟩
theorem R.narrow {L : Addr} (r : R hash b0 (L :: fr) σ c led h) : R hash b0 fr σ c led h :=
 r.step (D := fun _ => False) y9.refl (fun _ q => q.elim) (fun a ha => .inl (.tail _ ha)) (fun i o e => .inl ⟨e, rfl⟩) (fun i j hi li _ _ => absurd (u8 li) (Nat.not_lt.mpr hi)) (fun i hi li => absurd (u8 li) (Nat.not_lt.mpr hi))
  (fun a ha hn => absurd (.tail _ ha) hn) fun a ha => r.flt a (.tail _ ha)
theorem Rv.narrow {L : Addr} {n : Nat} {v : V} {u : Value} (x : Rv h (NN (L :: fr) c led) σ n v u) : Rv h (NN fr c led) σ n v u := Rv.mono mono_narrow (Nat.le_refl _) (fun _ _ => rfl) x
theorem mono_wide {L : Addr} (hL : h.get? L = none) : v4 h h (NN fr c led) (NN (L :: fr) c led) := ⟨fun _ _ _ e => e, fun a o e q => by
 rcases q with q | q
 ·rcases List.mem_cons.mp q with rfl | q
  ·rw [hL] at e; cases e
  ·exact .inl q
 ·exact .inr q⟩
theorem y9.fresh {L : Addr} {h₀ : Heap} (hL : h₀.get? L = none) (x : y9 (fun a => a = L ∨ D a) σ c led h₀ σ' c' led' h') : y9 D σ c led h₀ σ' c' led' h' :=
 ⟨fun a o e nc nd => x.keep a o e nc (fun q => q.elim (fun q => by rw [q, hL] at e; cases e) nd), x.len, x.same, x.dead, x.new, x.stay⟩
end
theorem none_at (h : Heap) : h.get? h.objs.size = none := Heap.get?_none_of_le (Nat.le_refl _)
inductive PostC (hash : V -> Int) (b0 : Heap) (fr : List Addr) (σ c : Nat -> Addr) (led : List O) (s : Shared) (r : V -> List O -> Prop) (u : Value) (s' : Shared) : Prop
 | mk (h' : Heap) (tk : Nat) (σ' c' : Nat -> Addr) (led' : List O) (v : V) : s' = { s with heap := h', toks := tk } -> y9 (fun _ => False) σ c led s.heap σ' c' led' h' -> R hash b0 fr σ' c' led' h' -> Rv h' (NN fr c' led') σ' led'.length v u -> r v led' -> PostC hash b0 fr σ c led s r u s'
noncomputable def RetQ (Q : Value -> Shared -> Prop) : Result -> Shared -> Prop := fun r s' => match r with
 | .ok (.ret v) => Q v s'
 | _ => False
noncomputable def SndC (w : World) (hash : V -> Int) (b0 : Heap) (Γ : Nat -> Option (Nat × r8)) (n : Nat) : Prop :=
 ∀ (f : Nat) (args : List V) (led : List O) (r : V -> List O -> Prop) (A : Around) (s : Shared) (fr : List Addr) (σ c : Nat -> Addr) (us : List Value),
  wp G Γ n (.call f args led r) -> R hash b0 fr σ c led s.heap -> Rvs s.heap (NN fr c led) σ led.length args us -> i9 A n ->
  codeAny (model pr w) A (.call (.ref f) ⟨us, []⟩) (RetQ (PostC hash b0 fr σ c led s r)) s
inductive z6 (hash : V -> Int) (b0 : Heap) (X : FX) (fr : List Addr) (σ c : Nat -> Addr) (led : List O) (s : Shared) (k : St -> Prop) (r : V -> List O -> Prop) (f : Flow) (s' : Shared) : Prop
 | mk (h' : Heap) (tk : Nat) (σ' c' : Nat -> Addr) (led' : List O) : s' = { s with heap := h', toks := tk } -> y9 (fun a => a = X.env.locals) σ c led s.heap σ' c' led' h' -> R hash b0 fr σ' c' led' h' -> (match f with | .next => ∃ loc', b8 X h' (NN fr c' led') σ' led'.length loc' ∧ k ⟨loc', led'⟩ | .ret u => ∃ v, Rv h' (NN fr c' led') σ' led'.length v u ∧ r v led' | _ => False) -> z6 hash b0 X fr σ c led s k r f s'
noncomputable def SndB (w : World) (hash : V -> Int) (b0 : Heap) (Γ : Nat -> Option (Nat × r8)) (n : Nat) : Prop :=
 ∀ (x : List PS) (st : St) (k : St -> Prop) (r : V -> List O -> Prop) (e : List Stmt) (X : FX) (A : Around) (s : Shared) (fr : List Addr) (σ c : Nat -> Addr),
  wp G Γ n (.b x st k r) -> okSs ⟨Kf w.params, X.sc, X.names⟩ x e = true -> Gd hash b0 X fr σ c st s -> i9 A n ->
  wpAny (model pr w) A (execs e X.env) (z6 hash b0 X fr σ c st.led s k r) (fun _ _ => False) s
noncomputable def SndS (w : World) (hash : V -> Int) (b0 : Heap) (Γ : Nat -> Option (Nat × r8)) (n : Nat) : Prop :=
 ∀ (x : PS) (st : St) (k : St -> Prop) (r : V -> List O -> Prop) (e : Stmt) (X : FX) (A : Around) (s : Shared) (fr : List Addr) (σ c : Nat -> Addr),
  wp G Γ n (.s x st k r) -> okS ⟨Kf w.params, X.sc, X.names⟩ x e = true -> Gd hash b0 X fr σ c st s -> i9 A n ->
  wpAny (model pr w) A (exec e X.env) (z6 hash b0 X fr σ c st.led s k r) (fun _ _ => False) s
structure GamOk (w : World) (hash : V -> Int) (b0 : Heap) (Γ : Nat -> Option (Nat × r8)) : Prop where
 ok : ∀ f m sp, Γ f = some (m, sp) -> ∀ (args : List V) (led : List O) (r : V -> List O -> Prop) (A : Around) (s : Shared) (fr : List Addr) (σ c : Nat -> Addr) (us : List Value),
  sp args led r -> R hash b0 fr σ c led s.heap -> Rvs s.heap (NN fr c led) σ led.length args us -> i9 A m -> codeAny (model pr w) A (.call (.ref f) ⟨us, []⟩) (RetQ (PostC hash b0 fr σ c led s r)) s
theorem body_mem {f : Nat} {x : Nat × List PS} (h : G.body f = some x) : (f, x) ∈ bodyT := look_mem h
theorem fn_ok {P : Params} {f m : Nat} {ps : List PS} (h : G.body f = some (m, ps)) : ∃ names, fnOk (Kf P) f m ps names = true := by
 have := List.all_eq_true.mp (allFns_ P) (f, m, ps) (body_mem h)
 obtain ⟨ns, _, h⟩ := okO_iff this
 exact ⟨ns, h⟩
structure FnAt (K : Frag) (f m : Nat) (ps : List PS) (names : List Str) (od : Option Addr) (fd : FuncData) (sl : Array (Option Value)) (b : List Stmt) : Prop where
 at_ : K.lookup f = some ⟨.type "function", od, .func fd, sl⟩
 body : fd.body = .stmts b
 ok : okSs ⟨K, fd.scope, names⟩ ps b = true
 len : names.length = m
 ar : G.ar f = some fd.params.args.length
 code : codeIn K fd.code fd.qualname = true
 globals : fd.globals = mainGlobals
 builtins : fd.builtins = builtinsNs
 closure : fd.closure = []
 gen : fd.scope.isGenerator = false
 co : fd.scope.isCoroutine = false
 kind : fd.scope.kind = .function
 defaults : fd.defaults = .none
 posonly : fd.params.posonlyargs = []
 vararg : fd.params.vararg = none
 kwonly : fd.params.kwonlyargs = []
 kwarg : fd.params.kwarg = none
 params : fd.params.args.map (·.arg) = names.take fd.params.args.length
 kinds : ∀ x ∈ names, fd.scope.names.lookup x = some .local ∨ fd.scope.names.lookup x = some .cell
 nodup : names.Nodup
theorem fnOk_parts {K : Frag} {f m : Nat} {ps : List PS} {names : List Str} (h : fnOk K f m ps names = true) : ∃ od fd sl b, FnAt K f m ps names od fd sl b := by
 obtain ⟨⟨od, fd, sl⟩, hl, h⟩ := o8 h
 obtain ⟨b, hb, h1⟩ := o8 (aL (aL (aL (aL (aL (aL (aL (aL (aL (aL (aL (aL (aL (aL (aL (aL (aL h)))))))))))))))))
 exact ⟨od, fd, sl, b, {
  at_ := hl, body := hb, ok := h1,
  len := of_decide_eq_true (aR (aL (aL (aL (aL (aL (aL (aL (aL (aL (aL (aL (aL (aL (aL (aL (aL h))))))))))))))))),
  ar := of_decide_eq_true (aR (aL (aL (aL (aL (aL (aL (aL (aL (aL (aL (aL (aL (aL (aL (aL h)))))))))))))))),
  code := (aR (aL (aL (aL (aL (aL (aL (aL (aL (aL (aL (aL (aL (aL (aL h))))))))))))))),
  globals := of_decide_eq_true (aR (aL (aL (aL (aL (aL (aL (aL (aL (aL (aL (aL (aL (aL h)))))))))))))),
  builtins := of_decide_eq_true (aR (aL (aL (aL (aL (aL (aL (aL (aL (aL (aL (aL (aL h))))))))))))),
  closure := List.isEmpty_iff.mp (aR (aL (aL (aL (aL (aL (aL (aL (aL (aL (aL (aL h)))))))))))),
  gen := bNot (aR (aL (aL (aL (aL (aL (aL (aL (aL (aL (aL h))))))))))),
  co := bNot (aR (aL (aL (aL (aL (aL (aL (aL (aL (aL h)))))))))),
  kind := of_decide_eq_true (aR (aL (aL (aL (aL (aL (aL (aL (aL h))))))))),
  defaults := let ⟨_, q, _⟩ := o8 (aR (aL (aL (aL (aL (aL (aL (aL h)))))))); q,
  posonly := List.isEmpty_iff.mp (aR (aL (aL (aL (aL (aL (aL h))))))),
  vararg := Option.isNone_iff_eq_none.mp (aR (aL (aL (aL (aL (aL h)))))),
  kwonly := List.isEmpty_iff.mp (aR (aL (aL (aL (aL h))))),
  kwarg := Option.isNone_iff_eq_none.mp (aR (aL (aL (aL h)))),
  params := of_decide_eq_true (aR (aL (aL h))),
  kinds := fun x hx => (Bool.or_eq_true_iff.mp (List.all_eq_true.mp (aR (aL h)) x hx)).imp of_decide_eq_true of_decide_eq_true,
  nodup := of_decide_eq_true (aR h) }⟩
end
noncomputable section
section
variable {w : World} {b0 : Heap} {Γ : Nat -> Option (Nat × r8)} {X : FX} {fr : List Addr} {σ c : Nat -> Addr} {s : Shared} {A : Around} {st : St} {k : V -> St -> Prop} {n : Nat} {e : PySem.Expr}
theorem args'_at : ∀ {args : List V} {m i : Nat} {v : V}, getL (hZ args m) i = some (some v) -> getL args i = some v
 | [], m, i, v, h => by
  exfalso
  have : ∀ m i, getL (pad m) i ≠ some (some v) := by
   intro m
   induction m with
   | zero => intro i; simp [pad, getL]
   | succ m ih =>
    intro i
    cases i with
    | zero => simp [pad, getL]
    | succ i => simpa [pad, getL] using ih i
  exact this m i (by simpa [hZ] using h)
 | a :: r, m, 0, v, h => by simpa [hZ, getL] using h
 | a :: r, m, i + 1, v, h => args'_at (args := r) (m := m - 1) (i := i) (by simpa [hZ, getL] using h)
theorem bindL_other {kindOf : Str -> Option NameKind} {x : Str} : ∀ {l : List (Str × Value)} {m : Str -> Option Value}, (∀ p ∈ l, p.1 ≠ x) -> bindL kindOf l m x = m x
 | [], _, _ => rfl
 | (n, v) :: r, m, h => by
  unfold bindL
  rw [bindL_other fun p hp => h p (.tail _ hp)]
  have : x ≠ n := fun e => h _ (.head _) e.symm
  split <;> simp [this]
theorem bindC_other {kindOf : Str -> Option NameKind} {x : Str} : ∀ {l : List (Str × Value)} {m : Str -> Option Value}, (∀ p ∈ l, p.1 ≠ x) -> bindC kindOf l m x = m x
 | [], _, _ => rfl
 | (n, v) :: r, m, h => by
  unfold bindC
  rw [bindC_other fun p hp => h p (.tail _ hp)]
  have : x ≠ n := fun e => h _ (.head _) e.symm
  split <;> simp [this]
theorem bind_at {kindOf : Str -> Option NameKind} {x : Str} {v : Value} : ∀ {ns : List Str} {us : List Value} {i : Nat} {m cm : Str -> Option Value}, ns.Nodup -> ns[i]? = some x -> us[i]? = some v ->
  (kindOf x = some .local -> bindL kindOf (ns.zip us) m x = some v) ∧ (kindOf x ≠ some .local -> bindC kindOf (ns.zip us) cm x = some v)
 | [], _, _, _, _, _, h, _ => by simp at h
 | _ :: _, [], _, _, _, _, _, h => by simp at h
 | n :: ns, u :: us, 0, m, cm, hn, h1, h2 => by
  simp at h1 h2
  subst h1; subst h2
  rw [List.nodup_cons] at hn
  have hz : ∀ p ∈ ns.zip us, p.1 ≠ n := fun p hp e => hn.1 (e ▸ (List.of_mem_zip hp).1)
  refine ⟨fun hk => ?_, fun hk => ?_⟩
  ·rw [List.zip_cons_cons]; unfold bindL; rw [bindL_other hz, if_pos hk]; simp
  ·rw [List.zip_cons_cons]; unfold bindC; rw [bindC_other hz, if_neg hk]; simp
 | n :: ns, u :: us, i + 1, m, cm, hn, h1, h2 => by
  simp at h1 h2
  rw [List.nodup_cons] at hn
  rw [List.zip_cons_cons]; unfold bindL bindC
  exact bind_at hn.2 h1 h2
theorem lookup_mem {l : List (Str × NameKind)} {x : Str} {k : NameKind} (h : l.lookup x = some k) : (x, k) ∈ l := mem_of_lookup h
theorem call_ok {f m : Nat} {ps : List PS} {args : List V} {led : List O} {r : V -> List O -> Prop} {us : List Value} (W : Wd w b0) (IB : SndB w (q9 w) b0 Γ n) (hb : G.body f = some (m, ps)) (ha : G.ar f = some args.length)
  (hw : wp G Γ n (.b ps ⟨hZ args m, led⟩ (fun st => r .none st.led) r)) (R₀ : R (q9 w) b0 fr σ c led s.heap) (rs : Rvs s.heap (NN fr c led) σ led.length args us) (hA : i9 A (n + 1)) :
  codeAny (model pr w) A (.call (.ref f) ⟨us, []⟩) (RetQ (PostC (q9 w) b0 fr σ c led s r)) s := by
 obtain ⟨names, hf⟩ := fn_ok (P := w.params) hb
 obtain ⟨od, fd, sl, b, F⟩ := fnOk_parts hf
 have K₀ : (Kf w.params).In s.heap := fun a o e => (K_now W R₀ a o e).1
 have hlen : fd.params.args.length = us.length := by
  have := F.ar
  rw [ha] at this
  rw [← u7 rs]
  exact (Option.some.inj this).symm
 have hnd : (fd.params.args.map (·.arg)).Nodup := by rw [F.params]; exact F.nodup.sublist (List.take_sublist _ _)
 have hkinds : ∀ x ∈ (fd.params.args.map (·.arg)).zip us, fd.scope.names.lookup x.1 = some .local ∨ (fd.scope.names.lookup x.1 = some .cell ∧ ((cellsFrom (s.heap.objs.size + 1) fd.scope.names []).lookup x.1).isSome = true) := fun x hx => by
  have hx1 : x.1 ∈ names := by
   have := (List.of_mem_zip hx).1
   rw [F.params] at this
   exact List.mem_of_mem_take this
  rcases F.kinds _ hx1 with q | q
  ·exact .inl q
  ·exact .inr ⟨q, cellsFrom_some _ _ _ (.inl q)⟩
 refine codeAny_call_cells (fd := fd) (body := b) (by have := hA.depth; show A.depth < recursionLimit; exact Nat.lt_of_le_of_lt (Nat.le_trans (Nat.le_add_right _ _) this) (by decide)) (K₀ _ _ F.at_) rfl (W.nolimit.keeps (base_keeps R₀)) (codeRec_of K₀ F.code) F.body
  (bind_plain F.posonly F.vararg F.kwonly F.kwarg F.defaults hnd hlen) F.closure hkinds (fun s₁ x => ?_) F.co F.gen F.kind
 obtain ⟨h₁, tk₁, rfl, hk₁⟩ := x.done
 have hnone := none_at s.heap
 obtain ⟨R₁, S₁⟩ := R₀.wide hnone (let ⟨o, _, _, ho, _⟩ := x.toInCall.ns; ⟨o, ho⟩) hk₁
 have Xo : FXok ⟨callEnvC fd s.heap.objs.size f, fd.scope, names⟩ := {
  kind := F.kind
  globals := F.globals
  builtins := F.builtins
  slot := fun i y hy => F.kinds y (by rw [p9] at hy; exact List.mem_of_getElem? hy)
  glob := fun y hy => hy
  locl := fun y hy => hy
  celk := fun y hy => hy
  cel := fun y hy => cellsFrom_some _ _ _ (.inl hy)
  nodup := fun i j y hi hj => by
   rw [p9] at hi hj
   obtain ⟨h1, e1⟩ := List.getElem?_eq_some_iff.mp hi
   obtain ⟨h2, e2⟩ := List.getElem?_eq_some_iff.mp hj
   exact (List.getElem_inj F.nodup).mp (e1.trans e2.symm) }
 have Mo := (S₁.mono (fr := fr) (fr' := s.heap.objs.size :: fr) (fun _ q => q.elim) fun a ha => by
  rcases List.mem_cons.mp ha with rfl | ha
  ·exact .inr hnone
  ·exact .inl ha)
 have fOk : b8 ⟨callEnvC fd s.heap.objs.size f, fd.scope, names⟩ h₁ (NN (s.heap.objs.size :: fr) c led) σ led.length (hZ args m) := by
  refine ⟨_, x.toInCall.ns, fun i v hv => ?_⟩
  have hv' := args'_at hv
  obtain ⟨u, hu, ru⟩ := rvs_at rs hv'
  have hi : i < us.length := (List.getElem?_eq_some_iff.mp hu).1
  have hi' : i < (fd.params.args.map (·.arg)).length := by simpa [hlen] using hi
  obtain ⟨y, e1⟩ : ∃ y, (fd.params.args.map (·.arg))[i]? = some y := ⟨_, List.getElem?_eq_getElem hi'⟩
  have e2 : getL names i = some y := by
   rw [p9]
   have e3 := e1
   rw [F.params, List.getElem?_take] at e3
   split at e3
   ·exact e3
   ·cases e3
  refine ⟨_, e2, ?_⟩
  obtain ⟨b1, b2⟩ := bind_at (kindOf := (callEnvC fd s.heap.objs.size f).kindOf) (m := fun _ => none) (cm := fun _ => none) hnd e1 hu
  have ru' := Rv.mono Mo (Nat.le_refl _) (fun _ _ => rfl) ru
  rcases Xo.slot _ _ e2 with q | q
  ·exact .inl ⟨q, u, b1 q, ru'⟩
  ·have b2' := b2 (by rw [q]; simp)
   have hc : ((cellsFrom (s.heap.objs.size + 1) fd.scope.names []).lookup y).isSome = true := cellsFrom_some _ _ _ (.inl q)
   obtain ⟨ca, hca⟩ := Option.isSome_iff_exists.mp hc
   have hcell := x.cell _ ca hca
   have hab := x.above _ _ (mem_of_lookup hca)
   refine .inr ⟨q, ca, u, hca, ?_, by rw [b2'] at hcell; exact hcell, ru'⟩
   have hab' : s.heap.objs.size < ca := hab
   rintro (q' | ⟨j, lj, e⟩)
   ·rcases List.mem_cons.mp q' with rfl | q'
    ·exact absurd hab' (Nat.lt_irrefl _)
    ·obtain ⟨o, e⟩ := R₀.flt _ q'
     exact absurd (Heap.lt_size e) (Nat.not_lt.mpr (Nat.le_of_lt hab'))
   ·exact absurd (R₀.cell_lt lj) (Nat.not_lt.mpr (e ▸ Nat.le_of_lt hab'))
 have := IB ps ⟨hZ args m, led⟩ (fun st => r .none st.led) r b ⟨callEnvC fd s.heap.objs.size f, fd.scope, names⟩ (A.deeper (callEnvC fd s.heap.objs.size f)) { s with heap := h₁, toks := tk₁ } (s.heap.objs.size :: fr) σ c hw F.ok
  ⟨Xo, .head _, R₁, fOk⟩ ⟨nxt (by decide) hA.depth, nxt (by decide) hA.units, hA.quiet⟩
 refine wpAny_mono this (fun fl s' q => ?_) fun _ _ q => q.elim
 obtain ⟨h2, t2, σ2, c2, l2, rfl, S2, R2, q⟩ := q
 have S3 : y9 (fun _ => False) σ c led s.heap σ2 c2 l2 h2 := y9.fresh hnone ((S₁.weaken fun _ q => q.elim).trans (S2.weaken fun a q => .inl q))
 cases fl with
 | next =>
  obtain ⟨loc', _, hk⟩ := q
  show PostC _ _ _ _ _ _ _ _ _ _
  exact ⟨h2, t2, σ2, c2, l2, .none, rfl, S3, R2.narrow, .none, hk⟩
 | ret u =>
  obtain ⟨v, rv, hk⟩ := q
  show PostC _ _ _ _ _ _ _ _ _ _
  exact ⟨h2, t2, σ2, c2, l2, v, rfl, S3, R2.narrow, rv.narrow, hk⟩
 | brk => exact q.elim
 | cont => exact q.elim
theorem gam_e {z : Option (Nat × r8)} {f : Nat -> r8 -> Prop} {p Q : Prop} (h : match z with | some (m, sp) => f m sp | none => p) (k : ∀ m sp, z = some (m, sp) -> f m sp -> Q) (l : z = none -> p -> Q) : Q := by
 rcases z with _ | ⟨m, sp⟩
 ·exact l rfl h
 ·exact k _ _ rfl h
theorem bdy_e {z : Option (Nat × List PS)} {f : Nat -> List PS -> Prop} {Q : Prop} (h : match z with | some (m, ps) => f m ps | none => False) (k : ∀ m ps, z = some (m, ps) -> f m ps -> Q) : Q := by
 rcases z with _ | ⟨m, ps⟩
 ·exact h.elim
 ·exact k _ _ rfl h
theorem sndC_succ (W : Wd w b0) (hG : GamOk w (q9 w) b0 Γ) (IB : SndB w (q9 w) b0 Γ n) : SndC w (q9 w) b0 Γ (n + 1) := by
 intro f args led r A s fr σ c us hw R₀ rs hA
 conv at hw => whnf
 refine gam_e hw (fun m sp hs hw => ?_) (fun _ hw => ?_)
 ·exact hG.ok f m sp hs args led r A s fr σ c us (z7 hw).2 R₀ rs (hA.le (Nat.le_succ_of_le (z7 hw).1))
 ·exact bdy_e hw fun m ps hb hw => call_ok W IB hb (arOk_iff (x8.mp hw).1) (x8.mp hw).2 R₀ rs hA
end
end
noncomputable section
theorem slicePick_take (items : Array Value) (b : Nat) : slicePick items none (some b) none = (items.toList.take b).toArray := by
 have e : sliceBounds none (some (b : Int)) none items.size = (((0 : Nat) : Int), ((min b items.size : Nat) : Int), 1) := by
  simp only [sliceBounds, Option.getD_none]
  have h2 : ¬ ((b : Int) < 0) := Int.not_lt.mpr (Int.natCast_nonneg b)
  simp only [h2, if_false, show (1 : Int) > 0 by decide, if_true]
  congr 1
  congr 1; omega
 unfold slicePick
 rw [e]
 simp only [sliceRange_one, pick_run]
 congr 1
 simp only [List.drop_zero, Nat.sub_zero]
 rcases Nat.le_total b items.size with h | h
 ·rw [Nat.min_eq_left h]
 ·rw [Nat.min_eq_right h, List.take_of_length_le (by simp), List.take_of_length_le (by simpa using h)]
theorem rvs_take {h : Heap} {N : Addr -> Prop} {σ : Nat -> Addr} {n : Nat} : ∀ {xs : List V} {us : List Value} (m : Nat), Rvs h N σ n xs us -> Rvs h N σ n (xs.take m) (us.take m)
 | _, _, 0, _ => by simp; exact .nil
 | [], _, m + 1, r0 => by
  obtain rfl := r0.inv
  simp; exact .nil
 | x :: xs, _, m + 1, r0 => by
  obtain ⟨_, _, rfl, a, b⟩ := r0.inv
  simp; exact .cons a (rvs_take m b)
theorem rvs_rev {h : Heap} {N : Addr -> Prop} {σ : Nat -> Addr} {n : Nat} : ∀ {xs : List V} {us : List Value}, Rvs h N σ n xs us -> Rvs h N σ n xs.reverse us.reverse
 | [], _, r0 => by
  obtain rfl := r0.inv
  exact .nil
 | x :: xs, _, r0 => by
  obtain ⟨_, _, rfl, a, b⟩ := r0.inv
  rw [List.reverse_cons, List.reverse_cons]
  exact dQ (rvs_rev b) (.cons a .nil)
theorem rev_places (xs : Array Value) : ((List.range xs.size).filterMap fun (k : Nat) => xs[(((xs.size : Int) - 1) + (k : Int) * (-1)).toNat]?).toArray = xs.toList.reverse.toArray := by
 congr 1
 apply List.ext_getElem?
 intro i
 have key : ∀ m : Nat, m ≤ xs.size -> (List.range m).filterMap (fun (k : Nat) => xs[(((xs.size : Int) - 1) + (k : Int) * (-1)).toNat]?) = xs.toList.reverse.take m := by
  intro m
  induction m with
  | zero => intro _; simp
  | succ m ih =>
   intro hm
   rw [List.range_succ, List.filterMap_append, ih (Nat.le_of_succ_le hm), List.take_add_one]
   congr 1
   have e1 : (((xs.size : Int) - 1) + (m : Int) * (-1)).toNat = xs.size - 1 - m := by
    rw [Int.mul_neg, Int.mul_one, ← Int.sub_eq_add_neg, Int.sub_sub, Nat.sub_sub]; exact Int.toNat_sub _ (1 + m)
   have h1 : xs.size - 1 - m < xs.size := Nat.lt_of_le_of_lt (Nat.sub_le _ _) (Nat.sub_lt (Nat.lt_of_lt_of_le (Nat.succ_pos _) hm) Nat.one_pos)
   simp only [List.filterMap_cons, List.filterMap_nil, e1]
   rw [Array.getElem?_eq_getElem h1]
   simp only
   rw [List.getElem?_reverse hm]
   simp [List.getElem?_eq_getElem, h1]
 rw [key _ (Nat.le_refl _), List.take_of_length_le (by simp)]
section
variable {w : World} {b0 : Heap} {Γ : Nat -> Option (Nat × r8)} {X : FX} {fr : List Addr} {σ c : Nat -> Addr} {s : Shared} {A : Around} {st : St} {k : V -> St -> Prop} {n : Nat} {e : PySem.Expr}
theorem sub_tailS {value : PySem.Expr} {l u t : Option PySem.Expr} {p : Pos} {o i : Value} {T id : String} {Q : Value -> Shared -> Prop} {E : Value -> Shared -> Prop} (hT : s.TypeIs o T) (hl : typeLookup (.type T) "__getitem__" = pure (some (.builtin id))) (h : wpAny (model pr w) A (getItem o i) Q E s) :
  wpAny (model pr w) A (subscriptTail value (.Slice l u t p) o i) Q E s := by
 obtain ⟨ops, hs'⟩ : ∃ ops, subscripted (.Slice l u t p) false o i = operate ops (getItem o i) := by cases t <;> exact ⟨_, rfl⟩
 unfold subscriptTail
 refine wpAny_bind ?_
 rw [getitemInPython_of_ne hT.not_modules]
 refine wpAny_bind (wpAny_specialOf hT hl ?_)
 have fin : wpAny (model pr w) A (subscripted (.Slice l u t p) false o i) (fun r s₃ => wpAny (model pr w) A (letTemporaryGo value o r >>= fun _ => pure r) Q E s₃) E s := by
  rw [hs']
  exact wpAny_operating (wpAny_mono h (fun r s₃ h₃ => wpAny_bind (wpAny_letTemporaryGo (wpAny_pure h₃))) fun _ _ x => x)
 first
  | exact wpAny_pure (wpAny_bind fin)
  | exact wpAny_bind (wpAny_pure (wpAny_bind fin))
  | exact wpAny_bind fin
theorem getItem_tuple_rev {t sl : Addr} {items : Array Value} {u : Tok} {Q : Value -> Shared -> Prop} {E : Value -> Shared -> Prop} (ht : IsTup s.heap t items) (hs : s.heap.IsSliceOf sl .none .none (.int (-1) u)) (hsz : items.size ≤ sizeLine)
  (h : Q (.ref s.heap.objs.size) { s with heap := s.heap.push { cls := .type "tuple", data := .seq items.toList.reverse.toArray } }) : wpAny (model pr w) A (getItem (.ref t) (.ref sl)) Q E s := by
 have hdrop : sizeOk (.seq items.toList.reverse.toArray) := by
  show items.toList.reverse.toArray.size ≤ sizeLine
  simpa using hsz
 obtain ⟨os, hos, hcs, hds⟩ := id hs
 have hTs : s.TypeIs (.ref sl) "slice" := ⟨os, hos, hcs⟩
 unfold getItem
 try with_reducible refine wpAny_holding ?_
 first | refine wpAny_bind (wpAny_pure ?_) | skip
 refine wpAny_bind (wpAny_sequenceKey ht.typeIs (by decide) ?_)
 refine wpAny_bind (wpAny_callSpecial?_slot (name := Str.ofString "__getitem__") ht.typeIs slot_tuple_getitem
  (wpAny_call_entry slot_tuple_getitem ht.typeIs entry_tuple_getitem ?_ (args_tuple_getitem _ _)))
 show wpAny _ _ (Builtin.Tuple.tupleItemsOf (.ref t) >>= _) _ _ s
 refine wpAny_bind (tupleItemsOf_ ht ?_)
 refine wpAny_bind (wpAny_typeOf hTs ?_)
 rw [if_pos (by decide)]
 refine wpAny_bind (wpAny_mono (Q := fun r s' => r = ((items.size : Int) - 1, (-1 : Int), items.size) ∧ s' = s) ?_ (fun r s' q => ?_) fun _ _ q => q)
 ·unfold Builtin.Slice.sliceApplied Builtin.Slice.sliceFields
  refine wpAny_bind (wpAny_bind (wpAny_field hos hds (x := .none) rfl (wpAny_bind (wpAny_field hos hds (x := .none) rfl (wpAny_bind (wpAny_field hos hds (x := .int (-1) u) rfl (wpAny_pure ?_)))))))
  refine wpAny_bind (slicePart_int ?_)
  show wpAny _ _ (if ((-1 : Int) == 0) = true then _ else _) _ _ s
  rw [if_neg (by decide)]
  refine wpAny_bind (slicePart_none (wpAny_bind (slicePart_none (wpAny_bind (wpAny_pure ?_)))))
  show wpAny _ _ (match Builtin.Slice.sliceAdjust none none (-1) (items.size : Int) with | (lo, hi) => pure (lo, (-1 : Int), Builtin.Slice.slicePlaces lo hi (-1))) _ _ s
  have e1 : Builtin.Slice.sliceAdjust none none (-1) (items.size : Int) = ((items.size : Int) - 1, -1) := rfl
  rw [e1]
  refine wpAny_pure ⟨?_, rfl⟩
  have e2 : Builtin.Slice.slicePlaces ((items.size : Int) - 1) (-1) (-1) = items.size := by
   unfold Builtin.Slice.slicePlaces
   have h1 : ¬ ((-1 : Int) > 0) := by decide
   simp only [h1, if_false]
   split
   ·have : ((items.size : Int) - 1 - -1 - 1) / - -1 = items.size - 1 := by
     rw [show (- -1 : Int) = 1 by decide, Int.ediv_one]; omega
    rw [this]; omega
   ·omega
  rw [e2]
 ·obtain ⟨rfl, rfl⟩ := q
  have hno : ¬ ((((items.size : Int) - 1) == 0 && (-1 : Int) == 1 && items.size == items.size) = true) := by simp
  show wpAny _ _ (if (((items.size : Int) - 1) == 0 && (-1 : Int) == 1 && items.size == items.size) = true then _ else _) _ _ _
  rw [if_neg hno, rev_places]
  first
   | exact wpAny_bind (m := Builtin.Tuple.tupleExact _) (wpAny_newObj_type (wpAny_pure ⟨_, rfl, wpAny_pure h⟩) hdrop)
   | exact wpAny_bind (m := Builtin.Tuple.tupleExact _) (wpAny_newObj_type (wpAny_bind (wpAny_pure (wpAny_pure ⟨_, rfl, wpAny_pure h⟩))) hdrop)
   | exact wpAny_bind (wpAny_bind (m := Builtin.Tuple.tupleExact _) (wpAny_newObj_type (wpAny_pure (wpAny_pure ⟨_, rfl, wpAny_pure h⟩)) hdrop))
   | exact wpAny_bind (wpAny_bind (m := Builtin.Tuple.tupleExact _) (wpAny_newObj_type (wpAny_pure ⟨_, rfl, wpAny_pure h⟩) hdrop))
theorem gd_push {o : Obj} {tk : Nat} (g : Gd (q9 w) b0 X fr σ c st s) : Gd (q9 w) b0 X fr σ c st { s with heap := s.heap.push o, toks := tk } ∧ y9 (fun _ => False) σ c st.led s.heap σ c st.led (s.heap.push o) :=
 ⟨⟨g.Xo, g.L, g.r.push o, g.f.step g.r g.L (y9.push o)⟩, y9.push o⟩
theorem e_slTo {a : PE} {m : Nat} (IE : k7 w (q9 w) b0 Γ n) (g : Gd (q9 w) b0 X fr σ c st s) (hA : i9 A (n + 1)) (hw : wp G Γ (n + 1) (.e (.slTo a m) st k)) (ho : r6 w X (.slTo a m) e) : w2 w b0 X fr σ c st s A k e := by
 refine inv_slTo ho fun x kk pc p q h => ?_
 conv at hw => whnf
 refine Subscript_ (one IE hw h g (hA.le (Nat.le_succ _)) fun h' tk σ' c' led' u uu x1 g1 ru hk => ?_)
 refine wpAny_Slice (wpAny_pure (evalPart_some_step (wpAny_Constant_int (wpAny_pure ?_))))
 refine lst_e hk ru fun xs hk ru => ?_
 obtain ⟨hz1, hk⟩ := x8.mp hk
 rw [w3, w6] at hk
 obtain ⟨g2, x2⟩ := gd_push (tk := tk + 1) (o := { cls := .type "slice", data := .fields #[.none, .int m tk, .none] }) g1
 have ru2 := Rv.step (fr := fr) x2 ru
 obtain ⟨l, vs, ep, rfl, n1, g3, rs⟩ := ru2.inv
 ·refine sub_tailS (T := "list") ⟨_, g3, rfl⟩ list_getitem_lookup (wpAny_getItem_list_slice (lo := none) (hi := some m) (st := none) ⟨_, g3, rfl, _, rfl⟩ (Heap.IsSliceOf.new ..) .none (.int _ _) .none (by simp) ?_ ?_)
  ·have := push_list (tk := tk + 1) (xs := xs.take m) (vs := vs.toList.take m) g2 (rvs_take m rs) hk
   rw [slicePick_take]
   exact j2.after x1 (j2.after x2 this)
  ·exact Nat.le_trans (rv_le rs (Nat.le_of_ble_eq_true hz1)) (by decide)
theorem e_copy {a : PE} (IE : k7 w (q9 w) b0 Γ n) (g : Gd (q9 w) b0 X fr σ c st s) (hA : i9 A (n + 1)) (hw : wp G Γ (n + 1) (.e (.copy a) st k)) (ho : r6 w X (.copy a) e) : w2 w b0 X fr σ c st s A k e := by
 refine inv_copy ho fun x p q h => ?_
 conv at hw => whnf
 refine Subscript_ (one IE hw h g (hA.le (Nat.le_succ _)) fun h' tk σ' c' led' u uu x1 g1 ru hk => ?_)
 refine wpAny_Slice (wpAny_pure (wpAny_pure (wpAny_pure ?_)))
 refine own_e hk ru fun i hk ru => ?_
 refine ls_e hk fun xs hi hk => ?_
 obtain ⟨hz1, hk⟩ := z7 hk
 rw [w3, w6] at hk
 obtain ⟨g2, x2⟩ := gd_push (tk := tk) (o := { cls := .type "slice", data := .fields #[.none, .none, .none] }) g1
 obtain ⟨rfl, _⟩ := ru.inv
 obtain ⟨ei, vs, ep, gi, rs⟩ := g2.r.cell i _ hi
 rw [ei]
 refine sub_tailS (T := "list") ⟨_, gi, rfl⟩ list_getitem_lookup (wpAny_getItem_list_slice (lo := none) (hi := none) (st := none) ⟨_, gi, rfl, _, rfl⟩ (Heap.IsSliceOf.new ..) .none .none .none (by simp) ?_ ?_)
 ·have := push_list (tk := tk) (xs := xs) (vs := vs.toList) g2 rs hk
  rw [slicePick_all]
  exact j2.after x1 (j2.after x2 (by simpa using this))
 ·exact Nat.le_trans (rv_le rs hz1) (by decide)
theorem e_rev {a : PE} (IE : k7 w (q9 w) b0 Γ n) (g : Gd (q9 w) b0 X fr σ c st s) (hA : i9 A (n + 1)) (hw : wp G Γ (n + 1) (.e (.rev a) st k)) (ho : r6 w X (.rev a) e) : w2 w b0 X fr σ c st s A k e := by
 refine inv_rev ho fun x kk pc pu p q h => ?_
 conv at hw => whnf
 refine Subscript_ (one IE hw h g (hA.le (Nat.le_succ _)) fun h' tk σ' c' led' u uu x1 g1 ru hk => ?_)
 refine wpAny_Slice (wpAny_pure (wpAny_pure (evalPart_some_step (wpAny_UnaryOp (wpAny_Constant_int (PyProof.Rows.neg_int ?_))))))
 refine tup_e hk ru fun xs hk ru => ?_
 obtain ⟨hz1, hk⟩ := z7 hk
 obtain ⟨g2, x2⟩ := gd_push (tk := tk + 1 + 1) (o := { cls := .type "slice", data := .fields #[.none, .none, .int (-1) (tk + 1)] }) g1
 have ru2 := Rv.step (fr := fr) x2 ru
 obtain ⟨l, vs, ep, rfl, n1, g3, rs⟩ := ru2.inv
 ·refine sub_tailS (T := "tuple") ⟨_, g3, rfl⟩ slot_tuple_getitem.lookup (getItem_tuple_rev ⟨_, g3, rfl, _, rfl⟩ (Heap.IsSliceOf.new ..) ?_ ?_)
  ·exact Nat.le_trans (rv_le rs hz1) (by decide)
  ·have := push_tup (tk := tk + 1 + 1) (xs := xs.reverse) (vs := vs.toList.reverse) g2 (rvs_rev rs) hk
   exact j2.after x1 (j2.after x2 this)
end
end
section
open AutoSeq1 (wpAny_loadPart')
noncomputable section
section
variable {prog : Program} {w : World} {A : Around} {E : Value -> Shared -> Prop} {s : Shared}
theorem collect_here {Q : List Value -> Shared -> Prop} {l : Addr} {items : Array Value} {n : Nat} (ho : s.heap.get? l = some ⟨.type "list", none, .seq items n, #[]⟩) (hsz : items.size ≤ sizeLine)
  (hQ : Q items.toList { s with heap := (s.heap.push { cls := .type "list", data := .seq ([] : List Value).toArray }).update s.heap.objs.size (Obj.mapSeq (· ++ items)) }) : wpAny (model prog w) A (collect (.ref l)) Q E s := by
 unfold collect
 refine wpAny_bind (wpAny_runValue (codeAny_builtin PySem.F.entry_proto_collect ?_))
 rw [Around.under_plainId PySem.F.plain_proto_collect _]
 show wpAny _ A.in1 (newList [] >>= fun l' => again (.builtin "list.__iadd__" ⟨[l', .ref l], []⟩)) _ _ s
 refine wpAny_bind (wpAny_newObj_type ?_)
 refine wpAny_pure ⟨plainId_quiet PySem.F.plain_list_iadd _, codeAny_builtin PySem.F.entry_list_iadd ?_⟩
 rw [Around.under_plainId PySem.F.plain_list_iadd _]
 show wpAny _ A.in1 (Builtin.List.listExtendWith (.ref s.heap.objs.size) (.ref l) (.ref s.heap.objs.size)) _ _ _
 have hS : (s.heap.push { cls := .type "list", data := .seq ([] : List Value).toArray }).get? s.heap.objs.size = some { cls := .type "list", data := .seq #[] 0 } := Heap.get?_push_size _ rfl
 have hS₂ := Heap.get?_update_self (Obj.mapSeq (· ++ items)) hS rfl
 have fin' : wpAny (model prog w) A (match Value.ref s.heap.objs.size with
   | Value.ref a => do
    match (← load a).data with
     | Data.seq xs _ => pure xs.toList
     | _ => unsupported "internal:collect"
   | _ => unsupported "internal:collect") Q E { s with heap := (s.heap.push { cls := .type "list", data := .seq ([] : List Value).toArray }).update s.heap.objs.size (Obj.mapSeq (· ++ items)) } := by
  show wpAny _ A (load s.heap.objs.size >>= _) _ _ _
  refine wpAny_bind (wpAny_load hS₂ (wpAny_pure ?_))
  have e : ((#[] : Array Value) ++ items).toList = items.toList := by simp
  show Q ((#[] : Array Value) ++ items).toList _
  rw [e]; exact hQ
 refine wpAny_mono (wpAny_extend_seq (hsz := hsz) (A := A) (R := fun r s' => r = .ok (.ret (.ref s.heap.objs.size)) ∧ s' = { s with heap := (s.heap.push { cls := .type "list", data := .seq ([] : List Value).toArray }).update s.heap.objs.size (Obj.mapSeq (· ++ items)) })
  (s := { s with heap := s.heap.push { cls := .type "list", data := .seq ([] : List Value).toArray } }) _ l _ 0 (.inl rfl) hS (Heap.get?_push_of_some _ ho) rfl rfl ⟨rfl, rfl⟩) (fun fin s' h => ?_) (fun e s' h => ?_)
 ·cases fin with
  | done f =>
   obtain ⟨e, rfl⟩ := h
   cases e
   exact fin'
  | again c' => exact ⟨h.1, codeAny_mono h.2 fun r s'' hr => by obtain ⟨rfl, rfl⟩ := hr; exact fin'⟩
 ·exact absurd h.1 (by simp)
theorem tuple_of_list (l : Addr) (items : Array Value) (n : Nat) (hsz : items.size ≤ sizeLine) :
  Meets (Builtin.«tuple.__new__» ⟨[.type "tuple", .ref l], []⟩) (fun _ R s => s.heap.get? l = some ⟨.type "list", none, .seq items n, #[]⟩ ∧
   ∀ h' : Heap, s.heap.objs.size ≤ h'.objs.size -> (∀ b o', s.heap.get? b = some o' -> h'.get? b = some o') -> R (.ok (.ret (.ref h'.objs.size))) { s with heap := h'.push { cls := .type "tuple", data := .seq items } }) :=
 .of_wp fun prog w A R s h => by
  obtain ⟨hp, g, d, tk, os⟩ := s; obtain ⟨ht, h⟩ := h
  have hsub := sub_tuple_self
  have hinit := init_tuple_lookup
  have hmh := madeHere_tuple
  have hT : Shared.TypeIs ⟨hp, g, d, tk, os⟩ (.ref l) "list" := ⟨_, ht, rfl⟩
  wp_walk using wpAny_loadPart' ht, wpAny_typeOf hT, collect_here ht hsz
  refine ⟨_, rfl, ?_⟩
  have e : items.toList.toArray = items := by simp
  rw [e]
  refine h _ ?_ fun b o' hb => ?_
  ·rw [(Heap.SameBut.update ..).1, Heap.size_push]; exact Nat.le_succ _
  ·exact (Heap.get?_update_other _ _ (Nat.ne_of_gt (Heap.lt_size hb))).trans (Heap.get?_push_of_some _ hb)
theorem call_tuple {l : Addr} {items : Array Value} {n : Nat} {Q : Value -> Shared -> Prop} (hl : s.heap.get? l = some ⟨.type "list", none, .seq items n, #[]⟩) (hsz : items.size ≤ sizeLine)
  (h : ∀ h' : Heap, s.heap.objs.size ≤ h'.objs.size -> (∀ b o', s.heap.get? b = some o' -> h'.get? b = some o') -> Q (.ref h'.objs.size) { s with heap := h'.push { cls := .type "tuple", data := .seq items } }) :
  wpAny (model prog w) A (call (.type "tuple") [.ref l]) Q E s :=
 callType_new PySem.F.called_tuple (by decide) (PySem.F.typeCall_tuple_1 _) (PySem.F.newCall_tuple_1 _) (fun obj => PySem.F.args_object_init_2 obj _) PySem.F.entry_tuple_new
  (tuple_of_list l items n hsz) ⟨hl, fun h' hs hk => ⟨⟨_, Heap.get?_push_size _ rfl, rfl⟩, h h' hs hk⟩⟩
theorem call_len_dictAt {d : Addr} {arr : Array DictEntry} {ep : Nat} {Q : Value -> Shared -> Prop} (hd : (d == sysModules) = false) (ho : s.heap.get? d = some ⟨.type "dict", none, .dict arr ep, #[]⟩) (hfit : (arr.size : Int) < 2 ^ 63)
  (h : ∀ t tk, Q (.int arr.size t) { s with toks := tk }) : wpAny (model prog w) A (call (.builtin "len") [.ref d]) Q E s := by
 have hT : s.TypeIs (.ref d) "dict" := ⟨_, ho, rfl⟩
 refine Calls.call_function_entry kind_len plain_len entry_len (args_len1 _) ?_
 unfold Builtin.«len»
 refine wpAny_bind (m := oneArg "len" _) (wpAny_pure ?_)
 refine wpAny_bind (m := callSpecial? (.ref d) (Str.ofString "__len__")) (wpAny_callSpecial?_slot (name := Str.ofString "__len__") hT PySem.F.slot_dict_len
  (call_meetsIn (S := fun _ R s => s.heap.get? d = some ⟨.type "dict", none, .dict arr ep, #[]⟩ ∧ R (.ok (.ret (.int arr.size s.toks))) { s with toks := s.toks + 1 }) PySem.F.slot_dict_len hT PySem.F.entry_dict_len (PySem.F.args_dict_len_1 _) (.of_wp fun A R s ⟨ho, h⟩ => by
   show wpAny _ _ (dictSize d >>= _) _ _ s
   unfold dictSize
   refine wpAny_bind (wpAny_bind (wpAny_dictEntries ho rfl (wpAny_pure ?_)))
   show wpAny _ _ (Builtin.Dict.pendingCount d >>= _) _ _ s
   refine wpAny_bind (wpAny_pendingCount_other hd ?_)
   refine wpAny_ret_mkInt ?_
   rw [Nat.add_zero]; exact h) ⟨ho, ?_⟩))
 show wpAny _ _ _ _ _ { s with toks := s.toks + 1 }
 refine wpAny_bind (wpAny_holding (wpAny_pure ?_))
 refine wpAny_bind (wpAny_letGo ?_)
 show wpAny _ _ (if ((arr.size : Nat) : Int) < 0 then _ else _) _ _ _
 rw [if_neg (Int.not_lt.mpr (Int.natCast_nonneg _))]
 show wpAny _ _ (if ((arr.size : Nat) : Int) ≥ 2 ^ 63 then _ else _) _ _ _
 rw [if_neg (Int.not_le.mpr hfit)]
 exact wpAny_bind (wpAny_mkInt (wpAny_pure ⟨_, rfl, h _ _⟩))
end
end
end
noncomputable section
section
variable {w : World} {b0 : Heap} {Γ : Nat -> Option (Nat × r8)} {X : FX} {fr : List Addr} {σ c : Nat -> Addr} {s : Shared} {A : Around} {st : St} {k : V -> St -> Prop} {n : Nat} {e : PySem.Expr}
theorem bad_false {K : V -> St -> Prop} : ∀ {n : Nat}, ¬ wp G Γ n (.e .bad st K)
 | 0, h => h.elim
 | n + 1, h => h.elim
theorem nst_k {e : PySem.Expr} {k : Nat} (h : e.ctorIdx = k) (hk : Nat.beq k 22 = false) : nst e = true := by
 unfold nst
 rw [h, hk]; rfl
theorem nst_of {a : PE} {l : PySem.Expr} {T : Tx} {K : V -> St -> Prop} (h : okE T a l = true) (hw : wp G Γ n (.e a st K)) : nst l = true := by
 cases a <;> first | exact absurd hw bad_false | (cases n <;> exact False.elim hw) | exact nst_k (by first | exact qName_i h | exact qCst_i h | exact qUn_i h | exact qBool_i h | exact qBin_i h | exact qCmp_i h | exact n0 h | exact qAttr_i h | exact qSub_i h | exact qTup_i h | exact qLst_i h | exact qDict_i h | exact qComp_i h) rfl
theorem one_tree {l : PySem.Expr} {env : Env} (h : nst l = true) : starEach [l] env = [(false, eval l env)] := j6 h
theorem boot_ord' : bootBuiltins (Str.ofString "ord") = some (.builtin "ord") := by decide +kernel
theorem boot_tuple' : bootBuiltins (Str.ofString "tuple") = some (.type "tuple") := by decide +kernel
theorem boot_str' : bootBuiltins (Str.ofString "str") = some (.type "str") := by decide +kernel
theorem boot_len' : bootBuiltins (Str.ofString "len") = some (.builtin "len") := by decide +kernel
theorem boot_range' : bootBuiltins (Str.ofString "range") = some (.type "range") := by decide +kernel
theorem e_len {a : PE} (W : Wd w b0) (IE : k7 w (q9 w) b0 Γ n) (g : Gd (q9 w) b0 X fr σ c st s) (hA : i9 A (n + 1)) (hw : wp G Γ (n + 1) (.e (.len a) st k)) (ho : r6 w X (.len a) e) : w2 w b0 X fr σ c st s A k e := by
 refine inv_len ho fun y p l q h1 h2 => ?_
 conv at hw => whnf
 refine Call_name1 (one_tree (nst_of h2 hw)) (w0 W h1 boot_len' (by decide) g.Xo g.r (PySem.callWith_builtin1 (one IE hw h2 g (hA.le (Nat.le_succ _)) fun h' tk σ' c' led' u uu x1 g1 ru hk => ?_)))
 refine go (tk := tk) x1 ?_
 have tp : ∀ {xs : List V} {us : Array Value} {t : Addr}, uu = .ref t -> IsTup h' t us -> Rvs h' (NN fr c' led') σ' led'.length xs us.toList -> Nat.ble xs.length 1000000 = true -> k (.int xs.length) ⟨st.loc, led'⟩ ->
   wpAny (model pr w) A (call (.builtin "len") [uu]) (PE1 (q9 w) b0 X fr σ' c' ⟨st.loc, led'⟩ { s with heap := h', toks := tk } k) (fun _ _ => False) { s with heap := h', toks := tk } := by
  rintro xs us t rfl ht rs hz hk
  refine PyProof.Rows.len_tuple ht (lt63 (rv_le rs (Nat.le_of_ble_eq_true hz))) ?_
  rw [← show xs.length = us.size from u7 rs]
  exact now g1 (.int _ _) hk
 have ls : ∀ {xs : List V} {us : Array Value} {t : Addr}, uu = .ref t -> h'.IsList t us -> Rvs h' (NN fr c' led') σ' led'.length xs us.toList -> Nat.ble xs.length 1000000 = true -> k (.int xs.length) ⟨st.loc, led'⟩ ->
   wpAny (model pr w) A (call (.builtin "len") [uu]) (PE1 (q9 w) b0 X fr σ' c' ⟨st.loc, led'⟩ { s with heap := h', toks := tk } k) (fun _ _ => False) { s with heap := h', toks := tk } := by
  rintro xs us t rfl ht rs hz hk
  refine Calls.call_len_list ht (lt63 (rv_le rs (Nat.le_of_ble_eq_true hz))) ?_
  rw [← show xs.length = us.size from u7 rs]
  exact now g1 (.int _ _) hk
 split at hk
 ·obtain ⟨_, _, _, rfl, n1, g3, rs⟩ := ru.inv
  exact tp rfl ⟨_, g3, rfl, _, rfl⟩ rs (x8.mp hk).1 (x8.mp hk).2
 ·obtain ⟨_, _, _, rfl, n1, g3, rs⟩ := ru.inv
  exact ls rfl ⟨_, g3, rfl, _, rfl⟩ rs (x8.mp hk).1 (x8.mp hk).2
 ·rename_i i
  obtain ⟨rfl, _⟩ := ru.inv
  split at hk
  ·rename_i xs hi
   obtain ⟨ei, vs, ep, gi, rs⟩ := g1.r.cell i _ hi
   have gi' := gi
   rw [← ei] at gi'
   exact ls rfl ⟨_, gi', rfl, _, rfl⟩ rs (x8.mp hk).1 (x8.mp hk).2
  ·rename_i es hi
   obtain ⟨d, hd1, hd2, D⟩ := uQ W g1 (.own i (w9 hi)) (.own _ _ hi)
   obtain ⟨arr, ep, gd, al, _⟩ := D
   cases hd1
   have hlen : ∀ {es : List (V × V)} {l : List DictEntry}, f0 (EntOk h' (NN fr c' led') σ' led'.length (q9 w)) es l -> es.length = l.length := by
    intro es l q
    induction q with
    | nil => rfl
    | cons _ _ ih => simp [ih]
   have hl : _ = arr.size := hlen al
   refine call_len_dictAt hd2 gd (lt63 (hl ▸ (z7 hk).1)) fun t tk' => ?_
   rw [← hl]
   exact now g1 (.int _ _) (z7 hk).2
  ·exact hk.elim
 ·exact hk.elim
theorem e_ord {a : PE} (W : Wd w b0) (IE : k7 w (q9 w) b0 Γ n) (g : Gd (q9 w) b0 X fr σ c st s) (hA : i9 A (n + 1)) (hw : wp G Γ (n + 1) (.e (.ord a) st k)) (ho : r6 w X (.ord a) e) : w2 w b0 X fr σ c st s A k e := by
 refine inv_ord ho fun y p l q h1 h2 => ?_
 conv at hw => whnf
 refine Call_name1 (one_tree (nst_of h2 hw)) (w0 W h1 boot_ord' (by decide) g.Xo g.r (PySem.callWith_builtin1 (one IE hw h2 g (hA.le (Nat.le_succ _)) fun h' tk σ' c' led' u uu x1 g1 ru hk => ?_)))
 refine go (tk := tk) x1 ?_
 refine str_e hk ru fun x hk ru => ?_
 obtain ⟨_, rfl⟩ := ru.inv
 split at hk
 ·rename_i ch hc
  have hl : x.length = 1 := by
   show x.cps.size = 1
   rw [← Array.length_toList, hc]; rfl
  refine PyProof.Rows.ord_of_one hl ?_
  have e : x.cps.getD 0 0 = ch := by
   have h0 : x.cps = #[ch] := by
    have := congrArg List.toArray hc
    simpa using this
   rw [h0]; rfl
  rw [e]
  exact now g1 (.int _ _) hk
 ·exact hk.elim
theorem e_strOf {a : PE} (W : Wd w b0) (IE : k7 w (q9 w) b0 Γ n) (g : Gd (q9 w) b0 X fr σ c st s) (hA : i9 A (n + 1)) (hw : wp G Γ (n + 1) (.e (.strOf a) st k)) (ho : r6 w X (.strOf a) e) : w2 w b0 X fr σ c st s A k e := by
 refine inv_strOf ho fun y p l q h1 h2 => ?_
 conv at hw => whnf
 refine Call_name1 (one_tree (nst_of h2 hw)) (w0 W h1 boot_str' (by decide) g.Xo g.r (PySem.callWith_type1 (one IE hw h2 g (hA.le (Nat.le_succ _)) fun h' tk σ' c' led' u uu x1 g1 ru hk => ?_)))
 refine go (tk := tk) x1 ?_
 refine int_e hk ru fun i hk ru => ?_
 obtain ⟨_, rfl⟩ := ru.inv
 obtain ⟨hz, hk⟩ := gd_blt hk
 refine PySem.P.str_of_int ?_ (now g1 (.str _ _) hk)
 by_cases h0 : i.natAbs = 0
 ·rw [h0]; decide
 ·exact Nat.lt_trans ((Nat.log2_lt h0).mpr (Nat.lt_trans hz (by decide : 10 ^ 10 < 2 ^ 40))) (by decide)
theorem e_tupOf {a : PE} (W : Wd w b0) (IE : k7 w (q9 w) b0 Γ n) (g : Gd (q9 w) b0 X fr σ c st s) (hA : i9 A (n + 1)) (hw : wp G Γ (n + 1) (.e (.tupOf a) st k)) (ho : r6 w X (.tupOf a) e) : w2 w b0 X fr σ c st s A k e := by
 refine inv_tupOf ho fun y p l q h1 h2 => ?_
 conv at hw => whnf
 refine Call_name1 (one_tree (nst_of h2 hw)) (w0 W h1 boot_tuple' (by decide) g.Xo g.r (PySem.callWith_type1 (one IE hw h2 g (hA.le (Nat.le_succ _)) fun h' tk σ' c' led' u uu x1 g1 ru hk => ?_)))
 refine go (tk := tk) x1 ?_
 refine own_e hk ru fun i hk ru => ?_
 obtain ⟨rfl, _⟩ := ru.inv
 refine ls_e hk fun xs hi hk => ?_
 obtain ⟨hz, hk⟩ := z7 hk
 obtain ⟨ei, vs, ep, gi, rs⟩ := g1.r.cell i _ hi
 rw [ei]
 refine call_tuple gi (Nat.le_trans (rv_le rs hz) (by decide)) fun h2 hs2 hk2 => ?_
 have S : y9 (fun _ => False) σ' c' led' h' σ' c' led' h2 := ⟨fun a o e _ _ => hk2 a o e, Nat.le_refl _, fun _ _ => ⟨rfl, rfl⟩, fun _ _ x => x, fun _ hi x => absurd (u8 x) (Nat.not_lt.mpr hi), fun a o e => ⟨o, hk2 a o e⟩⟩
 have r2 : R (q9 w) b0 fr σ' c' led' h2 := g1.r.still S (fun _ q => q.elim) fun j hj => by
  obtain ⟨o, e, l⟩ := hj
  obtain ⟨q, gq⟩ := (g1.r.cell j o e).has l
  rw [gq]; exact hk2 _ _ gq
 have g2 : Gd (q9 w) b0 X fr σ' c' ⟨st.loc, led'⟩ { s with heap := h2, toks := tk } := ⟨g1.Xo, g1.L, r2, g1.f.step g1.r g1.L S⟩
 have := push_tup (tk := tk) (xs := xs) (vs := vs.toList) g2 (Rvs.step (fr := fr) S rs) hk
 exact j2.after S (by simpa using this)
end
end
noncomputable section
noncomputable def methOk (K : Frag) (C m f : Nat) : Bool := plainGet K C (d9 m) && hasDictIn K C && decide (findIn K (.ref C) (d9 m) = some (some (.ref f))) && isFn K (.ref f) && fnIn K f && decide (m < nmT.length)
noncomputable def allMeths (K : Frag) : Bool := mthT.all fun p => methOk K p.1 p.2.1 p.2.2
noncomputable def initOk (K : Frag) (C : Nat) (o : Option Nat) : Bool := makesIn K C && keepIn K (.ref C) && (match o with
 | some f => decide (findIn K (.ref C) "__init__" = some (some (.ref f))) && decide (typeIn K (.ref f) = some (.type "function"))
 | none => decide (findIn K (.ref C) "__init__" = some (some (.builtin "object.__init__"))))
noncomputable def allInits (K : Frag) : Bool := initT.all fun p => initOk K p.1 p.2
theorem allMeths_ (P : Params) : allMeths (Kf P) = true := by kernel_rfl
theorem allInits_ (P : Params) : allInits (Kf P) = true := by kernel_rfl
theorem lookM_mem {c m f : Nat} : ∀ {l : List (Nat × Nat × Nat)}, lookM c m l = some f -> (c, m, f) ∈ l
 | [], h => by cases h
 | (a, b, g) :: r, h => by
  unfold lookM at h
  split at h
  ·rename_i ha
   split at h
   ·rename_i hb
    cases h
    rw [← Nat.eq_of_beq_eq_true ha, ← Nat.eq_of_beq_eq_true hb]; exact .head _
   ·exact .tail _ (lookM_mem h)
  ·exact .tail _ (lookM_mem h)
theorem meth_ok {P : Params} {C m f : Nat} (h : G.mth C m = some f) : methOk (Kf P) C m f = true := List.all_eq_true.mp (allMeths_ P) (C, m, f) (lookM_mem h)
theorem init_ok {P : Params} {C : Nat} {o : Option Nat} (h : G.init C = some o) : initOk (Kf P) C o = true := List.all_eq_true.mp (allInits_ P) (C, o) (look_mem h)
end
noncomputable section
section
variable {w : World} {b0 : Heap} {Γ : Nat -> Option (Nat × r8)} {X : FX} {fr : List Addr} {σ c : Nat -> Addr} {s : Shared} {A : Around} {st : St} {k : V -> St -> Prop} {n : Nat} {e : PySem.Expr}
theorem evalArgs_sp {f : Value} {trees : List (Bool × Sem Value)} {Q : Args -> Shared -> Prop} {E : Value -> Shared -> Prop} (hp : trees.any (·.1) = false) (h : wpAny (model pr w) A (spliced trees) (fun vs s' => Q ⟨vs, []⟩ s') E s) : wpAny (model pr w) A (evalArgs f true trees []) Q E s := by
 rcases trees with _ | ⟨⟨b, x⟩, rest⟩
 ·unfold evalArgs
  show wpAny (model pr w) A (spliced [] >>= _) Q E s
  refine wpAny_bind (wpAny_mono h (fun vs s' h' => ?_) fun _ _ x => x)
  refine wpAny_bind (wpAny_pure (wpAny_holding ?_))
  exact wpAny_bind (wpAny_pure (wpAny_bind (wpAny_pure (wpAny_pure h'))))
 ·obtain rfl : b = false := by
   cases b with
   | false => rfl
   | true => simp at hp
  exact Calls.evalArgs_plain h
theorem aQ {T : Tx} {env : Env} {pos : Pos} : ∀ {l : List PE} {es : List PySem.Expr}, k5 T l es = true -> (backTo pos (starEach es env)).any (·.1) = false ∧ (backTo pos (starEach es env)).all (fun x => !x.1) = true
 | [], [], _ => ⟨rfl, rfl⟩
 | [], _ :: _, h => by exact (Bool.false_ne_true h).elim
 | _ :: _, [], h => by exact (Bool.false_ne_true h).elim
 | _ :: l, e :: es, h => by
  simp only [w5, Bool.and_eq_true] at h
  obtain ⟨a, b⟩ := aQ (pos := pos) (env := env) h.2
  rw [j6 h.1.1]
  unfold backTo at a b ⊢
  simp only [List.map_cons, List.any_cons, List.all_cons, Bool.false_or]
  exact ⟨a, by simpa using b⟩
theorem call_tail {f : Value} {first : List Value} {as : List PE} {es : List PySem.Expr} {pos : Pos} {K : List V -> St -> Prop} {Q : Value -> Shared -> Prop} (W : Wd w b0) (IEs : SndEs w (q9 w) b0 Γ n) (g : Gd (q9 w) b0 X fr σ c st s) (hA : i9 A n)
  (hw : wp G Γ n (.es as st K)) (ho : k5 ⟨Kf w.params, X.sc, X.names⟩ as es = true) (hk : keepIn (Kf w.params) f = true)
  (h : ∀ us s', us.length = es.length -> PostEs (q9 w) b0 X fr σ c st s K us s' -> wpAny (model pr w) A (call f (first ++ us)) Q (fun _ _ => False) s') :
  wpAny (model pr w) A (callWith pos f first (backTo pos (starEach es X.env)) []) Q (fun _ _ => False) s := by
 obtain ⟨h1, _⟩ := aQ (pos := pos) (env := X.env) ho
 refine callWith_of (P := fun h => (Kf w.params).In h) (by rw [h1]; rfl) (fun h X => keeps_K hk h X) (evalArgs_sp h1 ?_)
 refine wpAny_mono (IEs as st K es X A s fr σ c pos hw ho g hA) (fun us s' q => ?_) fun _ _ q => q
 have q2 := q.2
 obtain ⟨h2, t2, σ2, c2, l2, vs, rfl, x2, r2, f2, rs, hk2⟩ := q2
 exact ⟨fun a o e => (K_now W r2 a o e).1, h us _ q.1 q.2⟩
theorem of_postC {led' : List O} {h' : Heap} {tk : Nat} {σ' c' : Nat -> Addr} {u : Value} {s'' : Shared} (x1 : y9 (fun _ => False) σ c st.led s.heap σ' c' led' h') (g1 : Gd (q9 w) b0 X fr σ' c' ⟨st.loc, led'⟩ { s with heap := h', toks := tk })
  (q : PostC (q9 w) b0 fr σ' c' led' { s with heap := h', toks := tk } (fun v l => k v ⟨st.loc, l⟩) u s'') : PE1 (q9 w) b0 X fr σ c st s k u s'' := by
 obtain ⟨h2, t2, σ2, c2, l2, v, rfl, x2, r2, rv, hk⟩ := q
 exact ⟨h2, t2, σ2, c2, l2, v, rfl, x1.trans x2, r2, g1.f.step g1.r g1.L x2, rv, hk⟩
theorem e_call {f : Nat} {as : List PE} (W : Wd w b0) (IEs : SndEs w (q9 w) b0 Γ n) (IC : SndC w (q9 w) b0 Γ n) (g : Gd (q9 w) b0 X fr σ c st s) (hA : i9 A (n + 1))
  (hw : wp G Γ (n + 1) (.e (.call f as) st k)) (ho : r6 w X (.call f as) e) : w2 w b0 X fr σ c st s A k e := by
 refine inv_call ho fun y p es q h1 hkeep h2 => ?_
 conv at hw => whnf
 obtain ⟨h3, u, h4, h5⟩ := gIs_inv h1
 obtain rfl := of_decide_eq_true h5
 have hA' := hA.le (Nat.le_succ n)
 refine wpAny_Call_Name_kw (load_glob W h3 h4 g.Xo g.r (call_tail W IEs g hA' hw h2 hkeep fun us s' hl q => ?_))
 obtain ⟨h2, t2, σ2, c2, l2, vs, rfl, x2, r2, f2, rs, hk⟩ := q
 refine wpAny_call (codeAny_mono (IC f vs l2 _ A _ fr σ2 c2 us hk r2 rs hA') fun r s'' q => ?_)
 rcases r with e | (v | _ | _ | _)
 ·exact q.elim
 all_goals first | exact of_postC x2 ⟨g.Xo, g.L, r2, f2⟩ q | exact q.elim
end
end
noncomputable section
section
variable {w : World} {b0 : Heap} {Γ : Nat -> Option (Nat × r8)} {X : FX} {fr : List Addr} {σ c : Nat -> Addr} {s : Shared} {A : Around} {st : St} {k : V -> St -> Prop} {n : Nat} {e : PySem.Expr}
theorem meth_call {o : PySem.Expr} {name : Str} {apos pos : Pos} {args : List PySem.Expr} {env : Env} {Q : Value -> Shared -> Prop} {E : Value -> Shared -> Prop} (hb : noCall0 o = true) (hline : (apos.endLine == pos.line) = true)
  (hp : (backTo pos (starEach args env)).all (fun x => !x.1) = true) (hlen : args.length ≤ 20)
  (h : wpAny (model pr w) A (eval o env) (fun ov s₁ => ∀ pl, wpAny (model pr w) A (getMethod ov name pl) (fun fx s₂ => wpAny (model pr w) A (callWith pos fx.1 fx.2 (backTo pos (starEach args env)) []) Q E s₂) E s₁) E s) :
  wpAny (model pr w) A (eval (.Call (.Attribute o name apos) args [] pos) env) Q E s := by
 rw [arm_eval_Call, attrBase hb]
 refine wpAny_bind (wpAny_mono h (fun ov s₁ h₁ => wpAny_bind (wpAny_standAt ?_)) fun _ _ q => q)
 have hform : methodCallForm (args.length + ([] : List Keyword).length) (backTo pos (starEach args env)) (backToKw pos (keywordEach [] env)) = true := by
  unfold methodCallForm
  rw [hp]
  show (true && true && decide (args.length + 0 + 0 < 30)) = true
  exact decide_eq_true (Nat.lt_of_le_of_lt hlen (by decide))
 have hpos : methodCallPos true o env apos pos = pure pos := by unfold methodCallPos; simp [hline]
 unfold methodCall
 rw [hform]
 refine wpAny_bind (wpAny_holding (wpAny_mono (h₁ _) (fun fx s₂ h₂ => ?_) fun _ _ q => q))
 obtain ⟨f, first⟩ := fx
 exact wpAny_bind (wpAny_of_eq hpos h₂)
theorem call_tailB {id : String} {first : List Value} {as : List PE} {es : List PySem.Expr} {pos : Pos} {K : List V -> St -> Prop} {Q : Value -> Shared -> Prop} (IEs : SndEs w (q9 w) b0 Γ n) (g : Gd (q9 w) b0 X fr σ c st s) (hA : i9 A n)
  (hw : wp G Γ n (.es as st K)) (ho : k5 ⟨Kf w.params, X.sc, X.names⟩ as es = true)
  (h : ∀ us s', PostEs (q9 w) b0 X fr σ c st s K us s' -> wpAny (model pr w) A (call (.builtin id) (first ++ us)) Q (fun _ _ => False) s') :
  wpAny (model pr w) A (callWith pos (.builtin id) first (backTo pos (starEach es X.env)) []) Q (fun _ _ => False) s := by
 obtain ⟨h1, _⟩ := aQ (pos := pos) (env := X.env) ho
 refine Calls.callWith_builtin h1 (evalArgs_sp h1 ?_)
 exact wpAny_mono (IEs as st K es X A s fr σ c pos hw ho g hA) (fun us s' q => h us _ q.2) fun _ _ q => q
theorem getL_none {h : Heap} {N : Addr -> Prop} {n m : Nat} : ∀ {fs : List (Nat × V)} {es : List DictEntry}, Rfs h N σ n fs es -> m < nmT.length -> v3 m fs = none -> PySem.W.getL (d9 m) es = some none
 | [], _, r0, _, _ => by
  obtain rfl := r0.inv
  rfl
 | (a, x) :: fs, _, r0, hm, e => by
  obtain ⟨q, t, u, es, rfl, ha, rx, rf⟩ := r0.inv
  unfold v3 at e
  have nm : d9 a = d9 m -> a = m := fun z => by
   unfold d9 at z
   rw [p9, p9, List.getElem?_eq_getElem ha, List.getElem?_eq_getElem hm] at z
   exact (List.getElem_inj nmT_nodup).mp (by simpa using z)
  split at e
  ·cases e
  ·rename_i hb
   have ih := getL_none rf hm e
   unfold PySem.W.getL at ih ⊢
   rw [List.find?_cons]
   have ne : (Value.str (d9 a) t).isStr (d9 m) = false := by
    simp only [Value.isStr]
    rw [beq_eq_false_iff_ne]
    exact fun z => by
     have := nm z
     subst this
     simp at hb
   simp only [ne]
   rw [List.any_cons]
   have rk : (⟨q, .str (d9 a) t, u⟩ : DictEntry).refKey = false := rfl
   rw [rk, Bool.false_or]
   exact ih
theorem meth_get {x dx C m f : Nat} {fs : List (Nat × V)} {es : Array DictEntry} {ep : Nat} {N : Addr -> Prop} {n' : Nat} {pl : Sem Bool} {Q : Value × List Value -> Shared -> Prop} {E : Value -> Shared -> Prop} (X₀ : (Kf w.params).In s.heap) (hm : G.mth C m = some f)
  (g1 : s.heap.get? x = some ⟨.ref C, some dx, .plain, #[]⟩) (g2 : s.heap.get? dx = some ⟨.type "dict", none, .dict es ep, #[]⟩) (rf : Rfs s.heap N σ n' fs es.toList) (hl : v3 m fs = none) (h : Q (.ref f, [.ref x]) s) :
  wpAny (model pr w) A (getMethod (.ref x) (d9 m) pl) Q E s := by
 have ok := meth_ok (P := w.params) hm
 unfold methOk at ok
 simp only [Bool.and_eq_true, decide_eq_true_eq] at ok
 obtain ⟨⟨⟨⟨⟨o1, o2⟩, o3⟩, o4⟩, o5⟩, o6⟩ := ok
 have I : InstAt s.heap x ⟨.ref C, some dx, .plain, #[]⟩ C (some (dictOf es.toList ep)) := ⟨g1, rfl, rfl, by simpa [dictOf] using g2⟩
 exact method_fn X₀ I (plainGet_of o1).1 (plainGet_of o1).2 o3 (beq_iff_eq.mp o4) (by show (lookIn (d9 m) (dictOf es.toList ep)).map _ = _; rw [lookIn_dict, getL_none rf o6 hl]; rfl) h
theorem meth_keep {P : Params} {C m f : Nat} (hm : G.mth C m = some f) : keepIn (Kf P) (.ref f) = true := by
 have ok := meth_ok (P := P) hm
 unfold methOk at ok
 simp only [Bool.and_eq_true, decide_eq_true_eq] at ok
 have := ok.1.2
 unfold fnIn at this
 unfold keepIn
 split at this
 ·rename_i h; simp only [h]
 ·cases this
theorem wZ {i : Nat} {xs xs' : List V} {h' : Heap} {us' : Array Value} {ep' tk : Nat} (g : Gd (q9 w) b0 X fr σ c st s) (hi : getL st.led i = some (.list xs)) (hu : h'.get? (c i) = some ⟨.type "list", none, .seq us' ep', #[]⟩)
  (hk : ∀ b, b ≠ c i -> h'.get? b = s.heap.get? b) (rs : Rvs s.heap (NN fr c st.led) σ st.led.length xs' us'.toList) :
  y9 (fun _ => False) σ c st.led s.heap σ c (st.led.set i (.list xs')) h' ∧ Gd (q9 w) b0 X fr σ c ⟨st.loc, st.led.set i (.list xs')⟩ { s with heap := h', toks := tk } := by
 have hl : cQ st.led i := ⟨_, hi, trivial⟩
 have S := y9.turn (D := fun _ => False) (σ := σ) (o := .list xs') hl hk ⟨_, hu⟩
 have Mo := S.mono (fr := fr) (fr' := fr) (fun _ q => q.elim) fun _ q => .inl q
 obtain ⟨ei, _⟩ := g.r.cell i _ hi
 exact ⟨S, g.Xo, g.L, g.r.turn hl hk ⟨_, hu⟩ ⟨ei, us', ep', hu, Rvs.mono Mo (Nat.le_refl _) (fun _ _ => rfl) rs⟩, g.f.step g.r g.L S⟩
theorem rvs_last {h : Heap} {N : Addr -> Prop} {n : Nat} {xs : List V} {us : List Value} {v : V} (r : Rvs h N σ n xs us) (e : xs.getLast? = some v) : ∃ u, us[us.length - 1]? = some u ∧ Rv h N σ n v u ∧ Rvs h N σ n xs.dropLast us.dropLast := by
 have hr := rvs_rev r
 rw [← List.head?_reverse] at e
 cases hx : xs.reverse with
 | nil => rw [hx] at e; cases e
 | cons y ys =>
  rw [hx] at e hr
  cases e
  generalize hz : us.reverse = zs at hr
  cases hr with
  | @cons _ u _ us' ru rs =>
   have e1 : xs = ys.reverse ++ [v] := by rw [← List.reverse_reverse xs, hx, List.reverse_cons]
   have e2 : us = us'.reverse ++ [u] := by rw [← List.reverse_reverse us, hz, List.reverse_cons]
   refine ⟨u, ?_, ru, ?_⟩
   ·rw [e2]; simp
   ·rw [e1, e2, List.dropLast_concat, List.dropLast_concat]; exact rvs_rev rs
theorem lmeth_ok {m i : Nat} {xs : List V} {vs : List V} {us : List Value} {id : String} (g : Gd (q9 w) b0 X fr σ c st s) (hm : m = 0 ∧ id = "list.append" ∨ m = 1 ∧ id = "list.pop") (hi : getL st.led i = some (.list xs)) (rs : Rvs s.heap (NN fr c st.led) σ st.led.length vs us)
  (hw : lmeth m i xs vs st.led fun v l => k v ⟨st.loc, l⟩) : wpAny (model pr w) A (call (.builtin id) ([.ref (σ i)] ++ us)) (PE1 (q9 w) b0 X fr σ c st s k) (fun _ _ => False) s := by
 obtain ⟨ei, its, ep, gi, ri⟩ := g.r.cell i _ hi
 have hl : its.size = xs.length := by simpa using (u7 ri).symm
 rw [ei]
 rcases hm with ⟨rfl, rfl⟩ | ⟨rfl, rfl⟩
 ·cases vs with
  | nil => exact hw.elim
  | cons v vs =>
   cases vs with
   | cons => exact hw.elim
   | nil =>
    obtain ⟨hz, hw⟩ := z7 hw
    rw [k8] at hw
    cases rs with
    | @cons _ u _ us ru rs =>
     cases rs
     refine call_meets PySem.F.slot_list_append ⟨_, gi, rfl⟩ PySem.F.entry_list_append (PySem.F.args_list_append_2 _ _) (PySem.list_append (c i) its ep u (Nat.le_trans (hl ▸ hz : its.size ≤ 100000) (by decide))) ⟨gi, ?_⟩
     have gs := Heap.get?_update_self (Obj.mapSeq fun x => x.push u) gi rfl
     obtain ⟨S, g2⟩ := wZ (tk := s.toks) (xs' := xs ++ [v]) (h' := s.heap.update (c i) (Obj.mapSeq fun x => x.push u)) g hi gs (fun b hb => Heap.get?_update_ne _ _ _ _ hb) (by simpa using dQ ri (.cons ru .nil))
     exact j2.after (s := s) (st := st) S (now (tk := s.toks) g2 .none hw)
 ·cases vs with
  | cons => exact hw.elim
  | nil =>
   obtain ⟨hz, hw⟩ := z7 hw
   cases rs
   split at hw
   ·rename_i v hv
    rw [k8] at hw
    obtain ⟨u, hu, ru, rd⟩ := rvs_last ri hv
    refine call_meets PySem.F.slot_list_pop ⟨_, gi, rfl⟩ PySem.F.entry_list_pop (PySem.F.args_list_pop_1 _) (PySem.MeetsSeq.list_pop_last (c i) its ep u (by simpa using hu) (Nat.le_trans (hl ▸ hz : its.size ≤ 100000) (by decide))) ⟨gi, ?_⟩
    have gs := Heap.get?_update_self (Obj.mapSeq fun x => x.eraseIdxIfInBounds (its.size - 1)) gi rfl
    obtain ⟨S, g2⟩ := wZ (tk := s.toks) (xs' := xs.dropLast) (h' := s.heap.update (c i) (Obj.mapSeq fun x => x.eraseIdxIfInBounds (its.size - 1))) g hi gs (fun b hb => Heap.get?_update_ne _ _ _ _ hb) (by
     have : (its.eraseIdxIfInBounds (its.size - 1)).toList = its.toList.dropLast := by
      rw [Array.toList_eraseIdxIfInBounds, ← Array.length_toList, List.eraseIdx_length_sub_one]
     rw [this]; exact rd)
    exact j2.after (s := s) (st := st) S (now (tk := s.toks) g2 (Rv.step (fr := fr) S ru) hw)
   ·exact hw.elim
theorem u_le {a b c n : Nat} (h : a + b < n) (k : c ≤ b) : a + c < n := Nat.lt_of_le_of_lt (Nat.add_le_add_left k _) h
theorem dmeth_ok {d : Addr} {es : List (V × V)} {vs : List V} {us : List Value} (g : Gd (q9 w) b0 X fr σ c st s) (hA : A.units + 300 < cLine) (hd : (d == sysModules) = false) (D : k0 s.heap (NN fr c st.led) σ st.led.length (q9 w) d es)
  (rs : Rvs s.heap (NN fr c st.led) σ st.led.length vs us) (hw : dmeth 2 es vs st.led fun v l => k v ⟨st.loc, l⟩) :
  wpAny (model pr w) A (call (.builtin "dict.get") ([.ref d] ++ us)) (PE1 (q9 w) b0 X fr σ c st s k) (fun _ _ => False) s := by
 have hT : s.TypeIs (.ref d) "dict" := gQ D
 cases rs with
 | nil => exact hw.elim
 | @cons x u vs us ru rs =>
  cases rs with
  | nil =>
   refine call_meetsIn PySem.F.slot_dict_get hT PySem.F.entry_dict_get (PySem.F.args_dict_get_2 _ _) (get1_tree hd) ?_
   exact dl_e hw (fun v hv hw => ⟨_, _, _, _, _, _, u_le hA (by decide), D, ru, hv, fun x tk rx => now g rx hw⟩) fun hv hw => ⟨_, _, _, _, _, _, u_le hA (by decide), D, ru, hv, fun x tk rx => now g rx hw⟩
  | @cons y u2 vs us ry rs =>
   cases rs with
   | cons => exact hw.elim
   | nil =>
    refine call_meetsIn PySem.F.slot_dict_get hT PySem.F.entry_dict_get (PySem.F.args_dict_get_3 _ _ _) (get2_tree hd) ?_
    exact dl_e hw (fun v hv hw => ⟨_, _, _, _, _, _, _, u_le hA (by decide), D, ru, ry, hv, fun x tk rx => now g rx hw⟩) fun hv hw => ⟨_, _, _, _, _, _, _, u_le hA (by decide), D, ru, ry, hv, fun x tk rx => now g rx hw⟩
end
end
noncomputable section
section
variable {w : World} {b0 : Heap} {Γ : Nat -> Option (Nat × r8)} {X : FX} {fr : List Addr} {σ c : Nat -> Addr} {s : Shared} {A : Around} {st : St} {k : V -> St -> Prop} {n : Nat} {e : PySem.Expr}
theorem mkC_cases (C m : Nat) (fs : List (Nat × V)) : (∃ f, v3 m fs = none ∧ G.mth C m = some f ∧ mkC G C m fs = .fn f) ∨ mkC G C m fs = .no := by
 unfold mkC
 cases h1 : v3 m fs with
 | some => exact .inr rfl
 | none =>
  cases h2 : G.mth C m with
  | none => exact .inr rfl
  | some f => exact .inl ⟨f, rfl, rfl, rfl⟩
inductive MkAt (u : V) (m : Nat) (led : List O) : MK -> Prop
 | own (i C fs f) : u = .own i -> getL led i = some (.inst C fs) -> v3 m fs = none -> G.mth C m = some f -> MkAt u m led (.fn f)
 | obj (C fs f) : u = .obj C fs -> v3 m fs = none -> G.mth C m = some f -> MkAt u m led (.fn f)
 | ls (i xs) : u = .own i -> getL led i = some (.list xs) -> m ≤ 1 -> MkAt u m led (.ls i)
 | dc (i es) : u = .own i -> getL led i = some (.dict es) -> m = 2 -> MkAt u m led (.dc i)
 | st (d es) : u = .top (.ref d) -> G.stat d = some es -> m = 2 -> MkAt u m led (.st es)
 | no : MkAt u m led .no
theorem mkAt (u : V) (m : Nat) (led : List O) : MkAt u m led (o9 G u m led) := by
 cases u with
 | own i =>
  show MkAt _ _ _ (match getL led i with
   | some (.inst C fs) => mkC G C m fs
   | some (.list _) => (match Nat.ble m 1 with
    | true => .ls i
    | false => .no)
   | some (.dict _) => (match Nat.beq m 2 with
    | true => .dc i
    | false => .no)
   | _ => .no)
  cases hi : getL led i with
  | none => exact .no
  | some o =>
   cases o with
   | inst C fs =>
    show MkAt _ _ _ (mkC G C m fs)
    rcases mkC_cases C m fs with ⟨f, a, b, e⟩ | e
    ·rw [e]; exact .own i C fs f rfl hi a b
    ·rw [e]; exact .no
   | list xs =>
    show MkAt _ _ _ (match Nat.ble m 1 with
     | true => .ls i
     | false => .no)
    cases h : Nat.ble m 1 with
    | true => exact .ls i xs rfl hi (Nat.le_of_ble_eq_true h)
    | false => exact .no
   | dict es =>
    show MkAt _ _ _ (match Nat.beq m 2 with
     | true => .dc i
     | false => .no)
    cases h : Nat.beq m 2 with
    | true => exact .dc i es rfl hi (Nat.eq_of_beq_eq_true h)
    | false => exact .no
   | gone => exact .no
 | obj C fs =>
  show MkAt _ _ _ (mkC G C m fs)
  rcases mkC_cases C m fs with ⟨f, a, b, e⟩ | e
  ·rw [e]; exact .obj C fs f rfl a b
  ·rw [e]; exact .no
 | top v =>
  cases v with
  | ref d =>
   show MkAt _ _ _ (match G.stat d with
    | some es => (match Nat.beq m 2 with
     | true => .st es
     | false => .no)
    | none => .no)
   cases hd : G.stat d with
   | none => exact .no
   | some es =>
    show MkAt _ _ _ (match Nat.beq m 2 with
     | true => .st es
     | false => .no)
    cases h : Nat.beq m 2 with
    | true => exact .st d es rfl hd (Nat.eq_of_beq_eq_true h)
    | false => exact .no
  | _ => exact .no
 | _ => exact .no
theorem nm_append : d9 0 = Str.ofString "append" := by decide +kernel
theorem nm_pop : d9 1 = Str.ofString "pop" := by decide +kernel
theorem nm_get : d9 2 = Str.ofString "get" := by decide +kernel
theorem e_meth {o : PE} {m : Nat} {as : List PE} (W : Wd w b0) (IE : k7 w (q9 w) b0 Γ n) (IEs : SndEs w (q9 w) b0 Γ n) (IC : SndC w (q9 w) b0 Γ n) (g : Gd (q9 w) b0 X fr σ c st s) (hA : i9 A (n + 1))
  (hw : wp G Γ (n + 1) (.e (.meth o m as) st k)) (ho : r6 w X (.meth o m as) e) : w2 w b0 X fr σ c st s A k e := by
 refine inv_meth ho fun x p es q h0 hline hlen h1 h2 => ?_
 conv at hw => whnf
 have hA' := hA.le (Nat.le_succ n)
 have h300 := room_300 hA (Nat.succ_pos _)
 have hes := okEs_len h2
 refine meth_call h0 hline (aQ h2).2 (hes ▸ hlen) (one IE hw h1 g hA' fun h' tk σ' c' led' u uu x1 g1 ru hk pl => ?_)
 have X₀ : (Kf w.params).In h' := fun a o e => (K_now W g1.r a o e).1
 have fn : ∀ {f C : Nat} {a dx : Addr} {fs : List (Nat × V)} {arr : Array DictEntry} {ep : Nat}, G.mth C m = some f -> uu = .ref a -> h'.get? a = some ⟨.ref C, some dx, .plain, #[]⟩ -> h'.get? dx = some ⟨.type "dict", none, .dict arr ep, #[]⟩ ->
   Rfs h' (NN fr c' led') σ' led'.length fs arr.toList -> v3 m fs = none -> (wp G Γ n (.es as ⟨st.loc, led'⟩ fun vs st => wp G Γ n (.call f (u :: vs) st.led fun v l => k v ⟨st.loc, l⟩))) ->
   wpAny (model pr w) A (getMethod uu (d9 m) pl) (fun fx s₂ => wpAny (model pr w) A (callWith q fx.1 fx.2 (backTo q (starEach es X.env)) []) (PE1 (q9 w) b0 X fr σ c st s k) (fun _ _ => False) s₂) (fun _ _ => False) { s with heap := h', toks := tk } := by
  rintro f C a dx fs arr ep hm rfl ga gd rf hl hk
  refine meth_get X₀ hm ga gd rf hl ?_
  refine call_tail W IEs g1 hA' hk h2 (meth_keep hm) fun us s' _ q => ?_
  obtain ⟨h3, t3, σ3, c3, l3, vs, rfl, x3, r3, f3, rs, hk3⟩ := q
  refine wpAny_call (codeAny_mono (IC f (u :: vs) l3 _ A _ fr σ3 c3 (.ref a :: us) hk3 r3 (.cons (Rv.step (fr := fr) x3 ru) rs) hA') fun r s'' q => ?_)
  rcases r with e | (v | _ | _ | _)
  ·exact q.elim
  all_goals first | exact of_postC (x1.trans x3) ⟨g.Xo, g.L, r3, f3⟩ q | exact q.elim
 have at_ := mkAt u m led'
 generalize o9 G u m led' = kk at at_ hk
 induction at_ with
 | own i C fs f hu hi hl hm =>
  obtain ⟨e1, _⟩ := (hu ▸ ru : Rv h' (NN fr c' led') σ' led'.length (.own i) uu).inv
  obtain ⟨hn, g3, arr, ep, g4, rf, _⟩ := g1.r.cell i _ hi
  exact fn hm e1 g3 g4 rf hl hk
 | obj C fs f hu hl hm =>
  obtain ⟨_, _, _, _, e1, n1, n2, g3, g4, rf⟩ := (hu ▸ ru : Rv h' (NN fr c' led') σ' led'.length (.obj C fs) uu).inv
  exact fn hm e1 g3 g4 rf hl hk
 | ls i xs hu hi hm =>
  clear fn
  subst hu
  obtain ⟨rfl, _⟩ := ru.inv
  obtain ⟨ei, its, ep, gi, ri⟩ := g1.r.cell i _ hi
  have gi' := gi
  rw [← ei] at gi'
  have tail : ∀ {id : String}, (m = 0 ∧ id = "list.append" ∨ m = 1 ∧ id = "list.pop") -> wpAny (model pr w) A (callWith q (.builtin id) [.ref (σ' i)] (backTo q (starEach es X.env)) []) (PE1 (q9 w) b0 X fr σ c st s k) (fun _ _ => False) { s with heap := h', toks := tk } := by
   intro id hid
   refine call_tailB IEs g1 hA' hk h2 fun us s' q => ?_
   obtain ⟨h3, t3, σ3, c3, l3, vs, rfl, x3, r3, f3, rs, hk3⟩ := q
   refine ls_e hk3 fun ys hy hk3 => ?_
   have hs : σ3 i = σ' i := (x3.same i (w9 hi)).1
   rw [← hs]
   exact go (tk := t3) (x1.trans x3) (lmeth_ok ⟨g.Xo, g.L, r3, f3⟩ hid hy rs hk3)
  rcases Nat.lt_or_ge m 1 with q' | q'
  ·obtain rfl : m = 0 := Nat.lt_one_iff.mp q'
   rw [nm_append]
   exact getMethod_builtin (T := "list") ⟨_, gi', rfl⟩ PySem.F.plainAttrs_list PySem.F.slot_list_append PySem.F.type_list_append (fun a e => by cases e; exact ⟨_, gi', rfl⟩) (tail (.inl ⟨rfl, rfl⟩))
  ·obtain rfl : m = 1 := by omega
   rw [nm_pop]
   exact getMethod_builtin (T := "list") ⟨_, gi', rfl⟩ PySem.F.plainAttrs_list PySem.F.slot_list_pop PySem.F.type_list_pop (fun a e => by cases e; exact ⟨_, gi', rfl⟩) (tail (.inr ⟨rfl, rfl⟩))
 | dc i es' hu hi hm =>
  clear fn
  subst hm; subst hu
  obtain ⟨d, rfl, hd, D⟩ := uQ W g1 ru (DictV.own i es' hi)
  obtain ⟨arr, ep, gd, _⟩ := id D
  rw [nm_get]
  refine getMethod_builtin (T := "dict") ⟨_, gd, rfl⟩ PySem.F.plainAttrs_dict PySem.F.slot_dict_get PySem.F.type_dict_get (fun a e => by cases e; exact ⟨_, gd, rfl⟩) ?_
  refine call_tailB IEs g1 hA' hk h2 fun us s' q => ?_
  obtain ⟨h3, t3, σ3, c3, l3, vs, rfl, x3, r3, f3, rs, hk3⟩ := q
  refine dc_e hk3 fun ys hy hk3 => ?_
  have g3 : Gd (q9 w) b0 X fr σ3 c3 ⟨st.loc, l3⟩ { s with heap := h3, toks := t3 } := ⟨g.Xo, g.L, r3, f3⟩
  obtain ⟨d3, e3, hd3, D3⟩ := uQ W g3 (Rv.step (fr := fr) x3 ru) (DictV.own i ys hy)
  cases e3
  exact go (tk := t3) (x1.trans x3) (dmeth_ok g3 h300 hd3 D3 rs hk3)
 | st d es' hu hs hm =>
  clear fn
  subst hm; subst hu
  obtain ⟨d', rfl, hd, D⟩ := uQ W g1 ru (DictV.stat d es' hs)
  obtain ⟨arr, ep, gd, _⟩ := id D
  rw [nm_get]
  refine getMethod_builtin (T := "dict") ⟨_, gd, rfl⟩ PySem.F.plainAttrs_dict PySem.F.slot_dict_get PySem.F.type_dict_get (fun a e => by cases e; exact ⟨_, gd, rfl⟩) ?_
  refine call_tailB IEs g1 hA' hk h2 fun us s' q => ?_
  obtain ⟨h3, t3, σ3, c3, l3, vs, rfl, x3, r3, f3, rs, hk3⟩ := q
  have g3 : Gd (q9 w) b0 X fr σ3 c3 ⟨st.loc, l3⟩ { s with heap := h3, toks := t3 } := ⟨g.Xo, g.L, r3, f3⟩
  obtain ⟨d3, e3, hd3, D3⟩ := uQ W g3 (Rv.step (fr := fr) x3 ru) (DictV.stat d es' hs)
  cases e3
  exact go (tk := t3) (x1.trans x3) (dmeth_ok g3 h300 hd3 D3 rs hk3)
 | no => exact hk.elim
theorem e_new {C : Nat} {as : List PE} (W : Wd w b0) (IEs : SndEs w (q9 w) b0 Γ n) (IC : SndC w (q9 w) b0 Γ n) (g : Gd (q9 w) b0 X fr σ c st s) (hA : i9 A (n + 1))
  (hw : wp G Γ (n + 1) (.e (.new C as) st k)) (ho : r6 w X (.new C as) e) : w2 w b0 X fr σ c st s A k e := by
 refine inv_new ho fun y p es q h1 hkeep h2 => ?_
 conv at hw => whnf
 obtain ⟨h3, u, h4, h5⟩ := gIs_inv h1
 obtain rfl := of_decide_eq_true h5
 have hA' := hA.le (Nat.le_succ n)
 refine wpAny_Call_Name_kw (load_glob W h3 h4 g.Xo g.r (call_tail W IEs g hA' hw h2 hkeep fun us s' hl q => ?_))
 obtain ⟨h2, t2, σ2, c2, l2, vs, rfl, x2, r2, f2, rs, hk⟩ := q
 rw [w3, w6] at hk
 have X₀ : (Kf w.params).In h2 := fun a o e => (K_now W r2 a o e).1
 have kp : ∀ b o, h2.get? b = some o -> ((h2.push emptyDict).push (instObj C h2.objs.size)).get? b = some o := fun b o e => Heap.get?_push_of_some _ (Heap.get?_push_of_some _ e)
 have sz : h2.objs.size ≤ ((h2.push emptyDict).push (instObj C h2.objs.size)).objs.size := by rw [Heap.size_push, Heap.size_push]; exact Nat.le_add_right _ 2
 have gx : ((h2.push emptyDict).push (instObj C h2.objs.size)).get? (h2.objs.size + 1) = some ⟨.ref C, some h2.objs.size, .plain, #[]⟩ := by
  have := Heap.get?_push_size (h2.push emptyDict) (o := instObj C h2.objs.size) rfl
  rwa [Heap.size_push] at this
 have gd : ((h2.push emptyDict).push (instObj C h2.objs.size)).get? h2.objs.size = some ⟨.type "dict", none, .dict #[] 0, #[]⟩ := Heap.get?_push_of_some _ (Heap.get?_push_size _ rfl)
 have S := y9.alloc (D := fun _ => False) (σ := σ2) (c := c2) (led := l2) (a := h2.objs.size + 1) (o := O.inst C []) kp sz (Nat.le_refl _)
 have r3 := r2.alloc (a := h2.objs.size + 1) (cell := h2.objs.size) (o := O.inst C []) kp sz (Nat.le_refl _) (by
  refine ⟨?_, gx, #[], 0, gd, .nil, by simp⟩
  rintro (q | ⟨j, lj, e⟩)
  ·obtain ⟨o, e⟩ := r2.flt _ q
   exact absurd (Heap.lt_size e) (Nat.not_lt.mpr (Nat.le_succ _))
  ·obtain ⟨o, e1, l1⟩ := lj
   rcases m8 e1 with ⟨z, e2⟩ | ⟨z, _⟩
   ·rw [u4 _ _ z] at e
    exact absurd (r2.cell_lt ⟨o, e2, l1⟩) (Nat.not_lt.mpr (e ▸ Nat.le_succ _))
   ·rw [z, p8] at e
    exact absurd e (Nat.ne_of_lt (Nat.lt_succ_self _)))
 have rown : Rv ((h2.push emptyDict).push (instObj C h2.objs.size)) (NN fr (up c2 l2.length h2.objs.size) (l2 ++ [O.inst C []])) (up σ2 l2.length (h2.objs.size + 1)) (l2 ++ [O.inst C []]).length (.own l2.length) (.ref (h2.objs.size + 1)) := by
  have := Rv.own (h := (h2.push emptyDict).push (instObj C h2.objs.size)) (N := NN fr (up c2 l2.length h2.objs.size) (l2 ++ [O.inst C []])) (σ := up σ2 l2.length (h2.objs.size + 1)) (n := (l2 ++ [O.inst C []]).length) l2.length (by simp)
  rwa [p8] at this
 have f3 := f2.step r2 g.L S
 split at hk
 ·rename_i f hf
  have ok := init_ok (P := w.params) hf
  unfold initOk at ok
  simp only [Bool.and_eq_true, decide_eq_true_eq] at ok
  obtain ⟨⟨o1, o2⟩, o3, o4⟩ := ok
  refine wpAny_call (make_core (makes_of X₀ o1) (looks_findIn X₀ o3) (fun self => bind_fn X₀ self o4) (.inl rfl) ?_)
  refine codeAny_mono (IC f (.own l2.length :: vs) (l2 ++ [O.inst C []]) _ _ _ fr _ _ (.ref (h2.objs.size + 1) :: us) hk r3 (.cons rown (Rvs.step (fr := fr) S rs)) ⟨?_, ?_, ?_⟩) fun r s'' q => ?_
  ·exact nxt (j := 1) (by decide) hA.depth
  ·exact nxt (j := 1) (by decide) hA.units
  ·exact hA.quiet
  ·rcases r with e | (v | _ | _ | _)
   ·exact q.elim
   ·exact q.elim
   ·exact q.elim
   ·exact q.elim
   ·obtain ⟨h4, t4, σ4, c4, l4, v', rfl, x4, r4, rv, hq4⟩ := q
    obtain ⟨hv, hk4⟩ := x8.mp hq4
    obtain rfl := isNone_eq' hv
    obtain rfl := rv.inv
    refine ⟨rfl, ?_⟩
    exact ⟨h4, t4, σ4, c4, l4, .own l2.length, rfl, (x2.trans S).trans x4, r4, f3.step r3 g.L x4, Rv.step (fr := fr) x4 rown, hk4⟩
 ·rename_i hf
  have ok := init_ok (P := w.params) hf
  unfold initOk at ok
  simp only [Bool.and_eq_true, decide_eq_true_eq] at ok
  obtain ⟨⟨o1, o2⟩, o3⟩ := ok
  split at hk
  ·cases rs
   have Y := makes_of (M := model pr w) X₀ o1
   refine wpAny_call (make_core Y (looks_findIn X₀ o3) (fun self => Looks.of_pure (oi_bind self)) (.inr ⟨rfl, rfl⟩) ?_)
   have t1 : Looks (model pr w) ((h2.push emptyDict).push (instObj C h2.objs.size)) (typeOf (.ref (h2.objs.size + 1))) (.ref C) := (Looks.ld gx).andThen .now
   have t3 : Looks (model pr w) ((h2.push emptyDict).push (instObj C h2.objs.size)) (isInstance (.ref (h2.objs.size + 1)) (.type "object")) true := t1.andThen (Y.top.keeps kp)
   refine codeAny_call_builtin oi_plain entry_oi (@check_slot (model pr w) _ _ _ "object.__init__" "object" "__init__" (.ref (h2.objs.size + 1)) [] [] _ oi_kind oi_split t3 (oi_args (.ref (h2.objs.size + 1))) ?_)
   change wpAny _ _ (Builtin.«object.__init__» ⟨[.ref (h2.objs.size + 1)], []⟩) _ _ _
   rw [oi_run]
   exact wpAny_pure ⟨rfl, ⟨_, t2, _, _, _, .own l2.length, rfl, x2.trans S, r3, f3, rown, hk⟩⟩
  ·exact hk.elim
 ·exact hk.elim
end
end
end Mine
end
section
open Classical PyProof.Rows PySem PySem.SeqAt PySem.W
namespace Mine
noncomputable section
section
variable {w : World} {b0 : Heap} {Γ : Nat -> Option (Nat × r8)} {X : FX} {fr : List Addr} {σ c : Nat -> Addr} {s : Shared} {A : Around} {st : St} {k : V -> St -> Prop} {n : Nat} {e : PySem.Expr}
theorem e_and {l : List PE} (IE : k7 w (q9 w) b0 Γ n) (g : Gd (q9 w) b0 X fr σ c st s) (hA : i9 A (n + 1)) (hw : wp G Γ (n + 1) (.e (.and l) st k)) (ho : r6 w X (.and l) e) : w2 w b0 X fr σ c st s A k e := by
 refine inv_and ho fun es p h => ?_
 have hA' := hA.le (Nat.le_succ n)
 conv at hw => whnf
 unfold w2; rw [arm_eval_BoolOp]
 rcases l with _ | ⟨a, _ | ⟨b, r⟩⟩
 ·exact hw.elim
 ·rcases es with _ | ⟨x, _ | ⟨y, es⟩⟩ <;> try (first | exact (Bool.false_ne_true h).elim | exact (Bool.false_ne_true (Bool.and_eq_true_iff.mp h).2).elim | exact (Bool.false_ne_true (Bool.and_eq_true_iff.mp (Bool.and_eq_true_iff.mp h).2).2).elim)
  simp only [w5, Bool.and_eq_true] at h
  exact IE a st k x X A s fr σ c hw h.1.2 g.Xo g.L hA' g.r g.f
 ·rcases es with _ | ⟨x, _ | ⟨y, es⟩⟩ <;> try (first | exact (Bool.false_ne_true h).elim | exact (Bool.false_ne_true (Bool.and_eq_true_iff.mp h).2).elim | exact (Bool.false_ne_true (Bool.and_eq_true_iff.mp (Bool.and_eq_true_iff.mp h).2).2).elim)
  have hb' : okE ⟨Kf w.params, X.sc, X.names⟩ (.and (b :: r)) (.BoolOp .And (y :: es) p) = true := by
   simp only [w5, Bool.and_eq_true] at h
   exact mk_and (by simp only [w5, Bool.and_eq_true]; exact h.2)
  have hx : okE ⟨Kf w.params, X.sc, X.names⟩ a x = true := by
   simp only [w5, Bool.and_eq_true] at h
   exact h.1.2
  show wpAny _ _ (do
   let v ← eval x X.env
   standAt p
   let t ← holding [v] (truthy v)
   match BoolOp.And, t with
   | .And, false | .Or, true => pure v
   | _, _ => boolOp p .And (evalEach (y :: es) X.env)) _ _ _
  refine wpAny_bind (one IE hw hx g hA' fun h' tk σ' c' led' u uu x1 g1 ru hk => wpAny_bind (wpAny_standAt (wpAny_bind (wpAny_holding ?_))))
  split at hk
  ·rename_i t
   obtain rfl := ru.inv
   refine wpAny_truthy_bool ?_
   cases t with
   | false => exact wpAny_pure (j2.after x1 (now (tk := tk) g1 (.bool _) hk))
   | true => exact go (tk := tk) x1 (IE _ _ _ _ X A _ fr σ' c' hk hb' g1.Xo g1.L hA' g1.r g1.f)
  ·exact hk.elim
theorem e_or {l : List PE} (IE : k7 w (q9 w) b0 Γ n) (g : Gd (q9 w) b0 X fr σ c st s) (hA : i9 A (n + 1)) (hw : wp G Γ (n + 1) (.e (.or l) st k)) (ho : r6 w X (.or l) e) : w2 w b0 X fr σ c st s A k e := by
 refine inv_or ho fun es p h => ?_
 have hA' := hA.le (Nat.le_succ n)
 conv at hw => whnf
 unfold w2; rw [arm_eval_BoolOp]
 rcases l with _ | ⟨a, _ | ⟨b, r⟩⟩
 ·exact hw.elim
 ·rcases es with _ | ⟨x, _ | ⟨y, es⟩⟩ <;> try (first | exact (Bool.false_ne_true h).elim | exact (Bool.false_ne_true (Bool.and_eq_true_iff.mp h).2).elim | exact (Bool.false_ne_true (Bool.and_eq_true_iff.mp (Bool.and_eq_true_iff.mp h).2).2).elim)
  simp only [w5, Bool.and_eq_true] at h
  exact IE a st k x X A s fr σ c hw h.1.2 g.Xo g.L hA' g.r g.f
 ·rcases es with _ | ⟨x, _ | ⟨y, es⟩⟩ <;> try (first | exact (Bool.false_ne_true h).elim | exact (Bool.false_ne_true (Bool.and_eq_true_iff.mp h).2).elim | exact (Bool.false_ne_true (Bool.and_eq_true_iff.mp (Bool.and_eq_true_iff.mp h).2).2).elim)
  have hb' : okE ⟨Kf w.params, X.sc, X.names⟩ (.or (b :: r)) (.BoolOp .Or (y :: es) p) = true := by
   simp only [w5, Bool.and_eq_true] at h
   exact mk_or (by simp only [w5, Bool.and_eq_true]; exact h.2)
  have hx : okE ⟨Kf w.params, X.sc, X.names⟩ a x = true := by
   simp only [w5, Bool.and_eq_true] at h
   exact h.1.2
  show wpAny _ _ (do
   let v ← eval x X.env
   standAt p
   let t ← holding [v] (truthy v)
   match BoolOp.Or, t with
   | .And, false | .Or, true => pure v
   | _, _ => boolOp p .Or (evalEach (y :: es) X.env)) _ _ _
  refine wpAny_bind (one IE hw hx g hA' fun h' tk σ' c' led' u uu x1 g1 ru hk => wpAny_bind (wpAny_standAt (wpAny_bind (wpAny_holding ?_))))
  split at hk
  ·rename_i t
   obtain rfl := ru.inv
   refine wpAny_truthy_bool ?_
   cases t with
   | true => exact wpAny_pure (j2.after x1 (now (tk := tk) g1 (.bool _) hk))
   | false => exact go (tk := tk) x1 (IE _ _ _ _ X A _ fr σ' c' hk hb' g1.Xo g1.L hA' g1.r g1.f)
  ·exact hk.elim
noncomputable def keyV : PE -> V
 | .con v => v
 | _ => .none
inductive KeysAre : List PE -> List Value -> Prop
 | nil : KeysAre [] []
 | cons {x : Str} {t : Tok} {ks : List PE} {us : List Value} : KeysAre ks us -> KeysAre (.con (.str x) :: ks) (.str x t :: us)
theorem es_con : ∀ {ks : List PE} {n : Nat} {st : St} {K : List V -> St -> Prop}, ks.all conStr = true -> wp G Γ n (.es ks st K) -> K (ks.map keyV) st
 | [], 0, st, K, _, h => h.elim
 | [], n + 1, st, K, _, h => h
 | a :: ks, 0, st, K, _, h => h.elim
 | a :: ks, n + 1, st, K, hc, h => by
  simp only [List.all_cons, Bool.and_eq_true] at hc
  cases a <;> try (exact (Bool.false_ne_true hc.1).elim)
  rename_i v
  cases n with
  | zero => exact absurd h (id)
  | succ n => exact es_con (K := fun vs st => K (v :: vs) st) hc.2 (show wp G Γ (n + 1) (.es ks st fun vs st => K (v :: vs) st) from h)
inductive PostP (hash : V -> Int) (b0 : Heap) (X : FX) (fr : List Addr) (σ c : Nat -> Addr) (st : St) (s : Shared) (ks : List PE) (K : List V -> St -> Prop) (prs : List (Value × Value)) (s' : Shared) : Prop
 | mk (h' : Heap) (tk : Nat) (σ' c' : Nat -> Addr) (led' : List O) (ws : List V) : s' = { s with heap := h', toks := tk } -> y9 (fun _ => False) σ c st.led s.heap σ' c' led' h' -> Gd hash b0 X fr σ' c' ⟨st.loc, led'⟩ { s with heap := h', toks := tk } -> Rvs h' (NN fr c' led') σ' led'.length ws (prs.map (·.2)) -> KeysAre ks (prs.map (·.1)) -> K ws ⟨st.loc, led'⟩ -> PostP hash b0 X fr σ c st s ks K prs s'
theorem pairs_ok {pos : Pos} : ∀ {ks vs : List PE} {es : List (Option PySem.Expr)} {fs : List PySem.Expr} {n : Nat} {st : St} {K : List V -> St -> Prop} {s : Shared} {σ c : Nat -> Addr}, (∀ m ≤ n, k7 w (q9 w) b0 Γ m) -> ks.all conStr = true -> okOs ⟨Kf w.params, X.sc, X.names⟩ ks es = true ->
  k5 ⟨Kf w.params, X.sc, X.names⟩ vs fs = true -> ks.length = vs.length -> wp G Γ n (.es vs st K) -> Gd (q9 w) b0 X fr σ c st s -> i9 A n ->
  wpAny (model pr w) A (evalPairs (pairTrees es fs X.env pos)) (PostP (q9 w) b0 X fr σ c st s ks K) (fun _ _ => False) s
 | [], vs, es, fs, n, st, K, s, σ, c, IE, hc, ho, hv, hl, hw, g, hA => by
  obtain rfl : vs = [] := by simpa using hl.symm
  cases es <;> try (exact (Bool.false_ne_true ho).elim)
  cases fs <;> try (exact (Bool.false_ne_true hv).elim)
  refine pairTrees_nil_walk (w := w) ?_
  cases n with
  | zero => exact False.elim hw
  | succ n => exact ⟨s.heap, s.toks, σ, c, st.led, [], rfl, .refl, g, .nil, .nil, hw⟩
 | a :: ks, vs, es, fs, n, st, K, s, σ, c, IE, hc, ho, hv, hl, hw, g, hA => by
  rcases vs with _ | ⟨v, vs⟩
  ·simp at hl
  rcases es with _ | ⟨_ | ek, es⟩ <;> try (exact (Bool.false_ne_true ho).elim)
  rcases fs with _ | ⟨ev, fs⟩ <;> try (exact (Bool.false_ne_true hv).elim)
  simp only [okOs_c, Bool.and_eq_true] at ho
  simp only [w5, Bool.and_eq_true] at hv
  simp only [List.all_cons, Bool.and_eq_true] at hc
  cases n with
  | zero => exact False.elim hw
  | succ n =>
   conv at hw => whnf
   cases a <;> try (exact (Bool.false_ne_true hc.1).elim)
   rename_i av
   cases av <;> try (exact (Bool.false_ne_true hc.1).elim)
   rename_i x
   refine inv_con ho.1 fun cc kk pp hm => ?_
   refine qCS_e hm fun y hm => ?_
   rw [← show x = y from qQ hm]
   refine pairTrees_cons_walk (wpAny_Constant_str ?_)
   refine one (IE n (Nat.le_succ n)) hw hv.1.2 (gd_toks g) (hA.le (Nat.le_succ _)) fun h' tk σ' c' led' u uu x1 g1 ru hk => ?_
   refine wpAny_mono (pairs_ok (fun m hm => IE m (Nat.le_succ_of_le hm)) hc.2 ho.2 hv.2 (by simpa using hl) hk g1 (hA.le (Nat.le_succ _))) (fun prs s' q => ?_) fun _ _ q => q
   obtain ⟨h2, t2, σ2, c2, l2, ws, rfl, x2, g2, rs, ka, hk2⟩ := q
   exact ⟨h2, t2, σ2, c2, l2, u :: ws, rfl, x1.trans x2, g2, .cons (Rv.step (fr := fr) x2 ru) rs, .cons ka, hk2⟩
theorem strKeys_nodup : ∀ {us : List V}, lZ us = true -> us.Nodup ∧ ∀ v ∈ us, ∃ x, v = .str x
 | [], _ => ⟨.nil, by simp⟩
 | v :: r, h => by
  cases v <;> try (first | exact (Bool.false_ne_true h).elim | exact (Bool.false_ne_true (Bool.and_eq_true_iff.mp h).2).elim | exact (Bool.false_ne_true (Bool.and_eq_true_iff.mp (Bool.and_eq_true_iff.mp h).2).2).elim)
  rename_i x
  simp only [strKeys_c, Bool.and_eq_true] at h
  obtain ⟨a, b⟩ := strKeys_nodup h.2
  refine ⟨List.nodup_cons.mpr ⟨fun hm => ?_, a⟩, fun v hv => ?_⟩
  ·have := List.all_eq_true.mp h.1 _ hm
   simp at this
  ·rcases List.mem_cons.mp hv with rfl | hv
   ·exact ⟨x, rfl⟩
   ·exact b v hv
theorem merged_nodup {kvs : List (V × Value)} : ∀ {acc : List (V × Value)}, ((acc ++ kvs).map (·.1)).Nodup -> merged acc kvs = acc ++ kvs := by
 induction kvs with
 | nil => intro acc _; simp [merged]
 | cons p r ih =>
  intro acc h
  have hst : stored acc p.1 p.2 = acc ++ [p] := by
   unfold stored
   have : acc.any (fun kv => decide (kv.1 = p.1)) = false := by
    rw [List.any_eq_false]
    intro q hq
    simp only [decide_eq_true_eq]
    intro e
    rw [List.map_append, List.nodup_append] at h
    exact h.2.2 q.1 (List.mem_map_of_mem hq) p.1 (by simp) e
   rw [this]; simp
  have : merged acc (p :: r) = merged (stored acc p.1 p.2) r := rfl
  rw [this, hst, ih (by simpa using h)]
  simp
theorem carries_ok : ∀ {ks : List PE} {prs : List (Value × Value)}, KeysAre ks (prs.map (·.1)) -> Carries (vKind w) prs ((ks.map keyV).zip (prs.map (·.2)))
 | [], [], _ => trivial
 | [], _ :: _, h => by cases h
 | _ :: _, [], h => by cases h
 | _ :: ks, (a, b) :: prs, h => by
  generalize hz : ((a, b) :: prs).map (·.1) = z at h
  cases h with
  | @cons x t _ _ h' =>
   simp at hz
   obtain ⟨rfl, rfl⟩ := hz
   exact ⟨by show vIs (.str x) (.str x t) = true; exact beq_self_eq_true x, rfl, carries_ok h'⟩
theorem keysAre_len {ks : List PE} {us : List Value} (h : KeysAre ks us) : ks.length = us.length := by
 induction h with
 | nil => rfl
 | cons _ ih => exact congrArg (· + 1) ih
theorem okOs_len {T : Tx} : ∀ {ks : List PE} {es : List (Option PySem.Expr)}, okOs T ks es = true -> es.length = ks.length ∧ es.all (·.isSome) = true
 | [], [], _ => ⟨rfl, rfl⟩
 | [], _ :: _, h => by exact (Bool.false_ne_true h).elim
 | _ :: _, [], h => by exact (Bool.false_ne_true h).elim
 | _ :: _, none :: _, h => by exact (Bool.false_ne_true h).elim
 | _ :: ks, some x :: es, h => by
  simp only [okOs_c, Bool.and_eq_true] at h
  obtain ⟨a, b⟩ := okOs_len h.2
  exact ⟨by simp [a], by simp [b]⟩
theorem b8.mono {h h' : Heap} {N N' : Addr -> Prop} {n n' : Nat} {σ' : Nat -> Addr} {loc : List (Option V)} (f : b8 X h N σ n loc) (H : v4 h h' N N') (hn : n ≤ n') (hs : ∀ i, i < n -> σ' i = σ i) (hk : ∀ o, h.get? X.env.locals = some o -> h'.get? X.env.locals = some o) :
  b8 X h' N' σ' n' loc := by
 obtain ⟨m, hm, hl⟩ := f
 refine ⟨m, hm.at' hk, fun i v e => ?_⟩
 obtain ⟨x, hx, l⟩ := hl i v e
 exact ⟨x, hx, l.mono H hn hs⟩
theorem nn_adopt {D : Addr} {h' : Heap} {led : List O} {o : O} {a : Addr} (q : NN fr (up c led.length D) (led ++ [o]) a) : NN (D :: fr) c led a := by
 rcases q with q | ⟨i, li, e⟩
 ·exact .inl (.tail _ q)
 ·obtain ⟨p, e1, l1⟩ := li
  rcases m8 e1 with ⟨z, e2⟩ | ⟨z, _⟩
  ·rw [u4 _ _ z] at e
   exact .inr ⟨i, ⟨p, e2, l1⟩, e⟩
  ·rw [z, p8] at e
   exact .inl (e ▸ .head _)
theorem mono_adopt {D : Addr} {h h' : Heap} {led : List O} {o : O} (hs : Heap.SameBut D h h') : v4 h h' (NN (D :: fr) c led) (NN fr (up c led.length D) (led ++ [o])) :=
 ⟨fun a p hn e => (hs.2 a fun z => hn (.inl (z ▸ .head _))).trans e, fun a p _ q => nn_adopt (h' := h') q⟩
theorem R.adopt {D : Addr} {h h' : Heap} {led : List O} {o : O} {hash : V -> Int} (r : R hash b0 (D :: fr) σ c led h) (hs : Heap.SameBut D h h') (hD : D ∉ fr)
  (ok : pQ h' (NN fr (up c led.length D) (led ++ [o])) (up σ led.length D) (led.length + 1) hash D D o) : R hash b0 fr (up σ led.length D) (up c led.length D) (led ++ [o]) h' where
 base a p e := by
  obtain ⟨e1, e2⟩ := r.base a p e
  exact ⟨(hs.2 a fun z => e2 (.inl (z ▸ .head _))).trans e1, fun q => e2 (nn_adopt (h' := h') q)⟩
 cell i p e := by
  rcases m8 e with ⟨z, e2⟩ | ⟨z, y⟩
  ·rw [u4 _ _ z, u4 _ _ z, List.length_append]
   by_cases l : liveO p
   ·exact (r.cell i p e2).mono (mono_adopt hs) (Nat.le_succ _) (fun j hj => u4 _ _ hj) (hs.2 _ fun q => r.frs i ⟨p, e2, l⟩ (q ▸ .head _))
   ·cases p <;> first | exact absurd trivial l | exact trivial
  ·subst z; subst y
   rw [p8, p8, List.length_append]
   exact ok
 inj i j li lj e := by
  obtain ⟨p, e1, l1⟩ := li
  obtain ⟨q, e2, l2⟩ := lj
  rcases m8 e1 with ⟨z, e3⟩ | ⟨z, _⟩ <;> rcases m8 e2 with ⟨z', e4⟩ | ⟨z', _⟩
  ·rw [u4 _ _ z, u4 _ _ z'] at e
   exact r.inj i j ⟨p, e3, l1⟩ ⟨q, e4, l2⟩ e
  ·rw [u4 _ _ z, z', p8] at e
   exact absurd (e ▸ .head _ : c i ∈ D :: fr) (r.frs i ⟨p, e3, l1⟩)
  ·rw [u4 _ _ z', z, p8] at e
   exact absurd (e ▸ .head _ : c j ∈ D :: fr) (r.frs j ⟨q, e4, l2⟩)
  ·rw [z, z']
 frs i li := by
  obtain ⟨p, e1, l1⟩ := li
  rcases m8 e1 with ⟨z, e3⟩ | ⟨z, _⟩
  ·rw [u4 _ _ z]
   exact fun q => r.frs i ⟨p, e3, l1⟩ (.tail _ q)
  ·rw [z, p8]; exact hD
 flt a ha := let ⟨q, e⟩ := r.flt a (.tail _ ha); ⟨q, (hs.2 a fun z => hD (z ▸ ha)).trans e⟩
theorem ents_ok {h : Heap} {N : Addr -> Prop} {n' : Nat} : ∀ {ks ws : List V} {us : List Value}, Rvs h N σ n' ws us -> f0 (fun p q => p.1 = q.1 ∧ Rv h N σ n' p.2 q.2) (ks.zip ws) (ks.zip us)
 | [], _, _, _ => by simp; exact .nil
 | _ :: _, _, _, .nil => by simp; exact .nil
 | k :: ks, _, _, .cons a b => .cons ⟨rfl, a⟩ (ents_ok b)
theorem e_dict {ks vs : List PE} (IE : ∀ m ≤ n, k7 w (q9 w) b0 Γ m) (g : Gd (q9 w) b0 X fr σ c st s) (hA : i9 A (n + 1)) (hw : wp G Γ (n + 1) (.e (.dict ks vs) st k)) (ho : r6 w X (.dict ks vs) e) : w2 w b0 X fr σ c st s A k e := by
 refine inv_dict ho fun es fs p h1 h2 h3 h4 h5 => ?_
 have hA' := hA.le (Nat.le_succ n)
 rcases ks with _ | ⟨a, ks⟩
 ·obtain rfl : vs = [] := by simpa using h3.symm
  cases es <;> try (exact (Bool.false_ne_true h4).elim)
  cases fs <;> try (exact (Bool.false_ne_true h5).elim)
  conv at hw => whnf
  simp only [w3, w6] at hw
  exact wpAny_Dict_empty (push_dict (tk := s.toks) g hw)
 ·have hw' : wp G Γ n (.es (a :: ks) st fun us st => wp G Γ n (.es vs st fun ws st => gd (lZ us) (gZ st.led fun i => w4 st.led (.dict (us.zip ws)) fun l => k (.own i) ⟨st.loc, l⟩))) := by
   exact hw
  have hw2 := es_con h1 hw'
  obtain ⟨i1, i2⟩ := okOs_len h4
  have i3 := okEs_len h5
  refine wpAny_Dict_walk (knd := vKind w) i2 (i1.trans (h3.trans i3)) (by rintro rfl; cases i1) (Nat.le_trans (Nat.le_of_eq i1) h2) ?_
  have hlt : s.heap.objs.size < (s.heap.push { cls := .type "dict", data := .dict #[] }).objs.size := by rw [Heap.size_push]; exact Nat.lt_succ_self _
  obtain ⟨R₁, S₁⟩ := g.r.wide (h' := s.heap.push { cls := .type "dict", data := .dict #[] }) (none_at _) ⟨_, Heap.get?_push_size _ rfl⟩ (fun b o e => Heap.get?_push_of_some _ e)
  have Mo₁ : v4 s.heap (s.heap.push { cls := .type "dict", data := .dict #[] }) (NN fr c st.led) (NN (s.heap.objs.size :: fr) c st.led) := S₁.mono (fun _ q => q.elim) fun a ha => by
   rcases List.mem_cons.mp ha with rfl | ha
   ·exact .inr (none_at _)
   ·exact .inl ha
  have g₁ : Gd (q9 w) b0 X (s.heap.objs.size :: fr) σ c st { s with heap := s.heap.push { cls := .type "dict", data := .dict #[] } } :=
   ⟨g.Xo, .tail _ g.L, R₁, g.f.mono Mo₁ (Nat.le_refl _) (fun _ _ => rfl) fun o e => Heap.get?_push_of_some _ e⟩
  refine wpAny_mono (pairs_ok IE h1 h4 h5 h3 hw2 g₁ hA') (fun prs s' q => ?_) fun _ _ q => q
  obtain ⟨h2', t2, σ2, c2, l2, ws, rfl, x2, g2, rs, ka, hq2⟩ := q
  obtain ⟨hsk, hk⟩ := x8.mp hq2
  rw [w3, w6] at hk
  have nc : ¬ Cell c st.led s.heap.objs.size := fun ⟨i, li, e⟩ => absurd (g.r.cell_lt li) (Nat.not_lt.mpr (Nat.le_of_eq e.symm))
  have gD : h2'.get? s.heap.objs.size = some { cls := .type "dict", data := .dict #[] } := x2.keep _ _ (Heap.get?_push_size _ rfl) nc id
  have hl1 := keysAre_len ka
  have hl2 := u7 rs
  have nd := strKeys_nodup hsk
  have e1 : (((a :: ks).map keyV).zip (prs.map (·.2))).map (·.1) = (a :: ks).map keyV := List.map_fst_zip (by rw [List.length_map, List.length_map]; exact Nat.le_of_eq (hl1.trans (List.length_map _)))
  have e2 : (((a :: ks).map keyV).zip ws).map (·.1) = (a :: ks).map keyV := List.map_fst_zip (by rw [List.length_map]; exact Nat.le_of_eq ((hl1.trans (List.length_map _)).trans ((List.length_map _).symm.trans hl2.symm)))
  refine ⟨((a :: ks).map keyV).zip (prs.map (·.2)), carries_ok ka, ⟨_, #[], 0, gD, ⟨rfl, rfl, rfl⟩, rfl, by intro e he; simp at he, .nil, by simp⟩, fun h' hD hs => ?_⟩
  rw [merged_nodup (by rw [List.nil_append, e1]; exact nd.1), List.nil_append] at hD
  obtain ⟨o, arr, ep, g', ⟨d1, d2, d3⟩, hd', ks', ps', _⟩ := hD
  obtain ⟨oc, od, odata, osl⟩ := o
  simp only at d1 d2 d3 hd'
  subst d1 d2 d3 hd'
  have Mo := mono_adopt (fr := fr) (c := c2) (led := l2) (o := O.dict (((a :: ks).map keyV).zip ws)) hs
  have rs' := Rvs.mono Mo (Nat.le_succ l2.length) (σ' := up σ2 l2.length s.heap.objs.size) (fun j hj => u4 _ _ hj) rs
  have nfr : s.heap.objs.size ∉ fr := fun q => by
   obtain ⟨o, e⟩ := g.r.flt _ q
   exact absurd (Heap.lt_size e) (Nat.lt_irrefl _)
  have r3 := R.adopt (o := O.dict (((a :: ks).map keyV).zip ws)) g2.r hs nfr (by
   refine ⟨rfl, arr, ep, g', pairs_ent ps' (fun e he => ks' e (Array.mem_toList_iff.mp he)) (ents_ok rs'), ⟨fun q hq => ?_, false, fun q hq => ?_⟩, by rw [e2]; exact nd.1⟩
   ·obtain ⟨x, hx⟩ := nd.2 q.1 (by rw [← e2]; exact List.mem_map_of_mem hq)
    rw [hx]; rfl
   ·obtain ⟨x, hx⟩ := nd.2 q.1 (by rw [← e2]; exact List.mem_map_of_mem hq)
    rw [hx]; rfl)
  have S : y9 (fun _ => False) σ c st.led s.heap (up σ2 l2.length s.heap.objs.size) (up c2 l2.length s.heap.objs.size) (l2 ++ [O.dict (((a :: ks).map keyV).zip ws)]) h' := {
   keep := fun b o e nc' _ => (hs.2 b (Nat.ne_of_lt (Heap.lt_size e))).trans (x2.keep b o (Heap.get?_push_of_some _ e) nc' id)
   len := by rw [List.length_append]; exact Nat.le_succ_of_le x2.len
   same := fun i hi => by
    have hi2 : i < l2.length := Nat.lt_of_lt_of_le hi x2.len
    rw [u4 _ _ hi2, u4 _ _ hi2]; exact x2.same i hi
   dead := fun i hi ⟨o, e, l⟩ => by
    rw [k3 (Nat.lt_of_lt_of_le hi x2.len)] at e
    exact x2.dead i hi ⟨o, e, l⟩
   new := fun i hi ⟨o, e, l⟩ => by
    rcases m8 e with ⟨z, e'⟩ | ⟨z, _⟩
    ·rw [u4 _ _ z]
     have := x2.new i hi ⟨o, e', l⟩
     cases q : s.heap.get? (c2 i) with
     | none => rfl
     | some p =>
      have q' : (s.heap.push { cls := .type "dict", data := .dict #[] }).get? (c2 i) = some p := Heap.get?_push_of_some _ q
      rw [show ({ s with heap := s.heap.push { cls := .type "dict", data := .dict #[] } } : Shared).heap.get? (c2 i) = some p from q'] at this
      cases this
    ·rw [z, p8]; exact none_at _
   stay := fun b o e => by
    obtain ⟨o', e'⟩ := x2.stay b o (Heap.get?_push_of_some _ e)
    exact ⟨o', (hs.2 b (Nat.ne_of_lt (Heap.lt_size e))).trans e'⟩ }
  refine ⟨h', t2 + prs.length, _, _, _, .own l2.length, rfl, S, r3, g2.f.mono (n' := (l2 ++ [O.dict (((a :: ks).map keyV).zip ws)]).length) Mo (by simp) (fun j hj => u4 _ _ hj) (fun o e => (hs.2 _ fun q => nfr (q ▸ g.L)).trans e), ?_, hk⟩
  have := Rv.own (h := h') (N := NN fr (up c2 l2.length s.heap.objs.size) (l2 ++ [O.dict (((a :: ks).map keyV).zip ws)])) (σ := up σ2 l2.length s.heap.objs.size) (n := (l2 ++ [O.dict (((a :: ks).map keyV).zip ws)]).length) l2.length (by simp)
  rwa [p8] at this
end
end
end Mine
end
section
open PyProof.Rows PySem PySem.SeqAt PySem.W
namespace Mine
noncomputable section
inductive ItK where | tup (t : Addr) | lst (l : Addr) | str (x : Str) (t : Tok) | rng (a : Int) (n : Nat)
noncomputable def ItAt (h : Heap) (I : Addr) : ItK -> Nat -> Prop
 | .tup t, i => IsTupIter h I t i
 | .lst l, i => h.IsListIter I l i
 | .str x t, i => h.IsStrIter I (strIterType x) x t i
 | .rng a n, i => IsRangeIter h I (a + (i : Int) * 1) ((n : Int) - (i : Int)) 1
noncomputable def SeqIn (h : Heap) (N : Addr -> Prop) (σ : Nat -> Addr) (n : Nat) : ItK -> List V -> Prop
 | .tup t, xs => ∃ vs ep, h.get? t = some ⟨.type "tuple", none, .seq vs ep, #[]⟩ ∧ Rvs h N σ n xs vs.toList
 | .lst l, xs => ∃ vs ep, h.get? l = some ⟨.type "list", none, .seq vs ep, #[]⟩ ∧ Rvs h N σ n xs vs.toList
 | .str x t, xs => xs = chars x
 | .rng a n, xs => xs = j3 n a
inductive Over (led : List O) : V -> Value -> ItK -> List V -> Prop
 | tup (t xs) : Over led (.tup xs) (.ref t) (.tup t) xs
 | lst (l xs) : Over led (.lst xs) (.ref l) (.lst l) xs
 | own (i l xs) : getL led i = some (.list xs) -> Over led (.own i) (.ref l) (.lst l) xs
 | str (x t) : Over led (.str x) (.str x t) (.str x t) (chars x)
 | rng (a n) : Over led .none .none (.rng a n) (j3 n a)
theorem itAt_some {h : Heap} {I : Addr} {k : ItK} {i : Nat} (x : ItAt h I k i) : ∃ o, h.get? I = some o := by
 cases k with
 | tup => obtain ⟨o, ho, _⟩ := x; exact ⟨o, ho⟩
 | lst => obtain ⟨o, ho, _⟩ := x; exact ⟨o, ho⟩
 | str => obtain ⟨o, ho, _⟩ := x; exact ⟨o, ho⟩
 | rng => exact ⟨_, x⟩
theorem itAt_at {h h' : Heap} {I : Addr} {k : ItK} {i : Nat} (x : ItAt h I k i) (e : ∀ o, h.get? I = some o -> h'.get? I = some o) : ItAt h' I k i := by
 cases k with
 | tup => obtain ⟨o, ho, r⟩ := x; exact ⟨o, e _ ho, r⟩
 | lst => obtain ⟨o, ho, r⟩ := x; exact ⟨o, e _ ho, r⟩
 | str => obtain ⟨o, ho, r⟩ := x; exact ⟨o, e _ ho, r⟩
 | rng => exact e _ x
theorem rangeV_len : ∀ (n : Nat) (a : Int), (j3 n a).length = n
 | 0, _ => rfl
 | n + 1, a => by simp [j3, rangeV_len n]
theorem rangeV_at : ∀ (n : Nat) (a : Int) (i : Nat) (x : V), (j3 n a)[i]? = some x -> x = .int (a + i)
 | 0, a, i, x, h => by simp [j3] at h
 | n + 1, a, 0, x, h => by simp [j3] at h; simp [h]
 | n + 1, a, i + 1, x, h => by
  have := rangeV_at n (a + 1) i x (by simpa [j3] using h)
  rw [this, Int.add_assoc, Int.add_comm 1]; rfl
section
variable {w : World} {A : Around} {E : Value -> Shared -> Prop} {s : Shared} {N : Addr -> Prop} {σ : Nat -> Addr} {n : Nat}
theorem next_item {I : Addr} {k : ItK} {i : Nat} {xs : List V} {x : V} {Q : Option Value -> Shared -> Prop} (it : ItAt s.heap I k i) (sq : SeqIn s.heap N σ n k xs) (hx : xs[i]? = some x)
  (hq : ∀ v h' tk, Rv s.heap N σ n x v -> ItAt h' I k (i + 1) -> Heap.SameBut I s.heap h' -> Q (some v) { s with heap := h', toks := tk }) : wpAny (model pr w) A (pyNext (.ref I)) Q E s := by
 cases k with
 | tup t =>
  obtain ⟨vs, ep, g, rs⟩ := sq
  obtain ⟨u, hu, ru⟩ := rvs_at rs (by rw [p9]; exact hx)
  exact next_tuple_item it ⟨_, g, rfl, _, rfl⟩ (by simpa using hu) fun h' i' sb => hq u h' s.toks ru i' sb
 | lst l =>
  obtain ⟨vs, ep, g, rs⟩ := sq
  obtain ⟨u, hu, ru⟩ := rvs_at rs (by rw [p9]; exact hx)
  exact wpAny_pyNext_list_item it ⟨_, g, rfl, _, rfl⟩ (by simpa using hu) fun h' i' sb => hq u h' s.toks ru i' sb
 | str y t =>
  obtain rfl := sq
  obtain ⟨c, hc, rfl⟩ : ∃ c, y.cps[i]? = some c ∧ x = .str ⟨#[c]⟩ := by
   unfold chars at hx
   rw [List.getElem?_map] at hx
   obtain ⟨c, h1, h2⟩ := Option.map_eq_some_iff.mp hx
   exact ⟨c, by simpa using h1, h2.symm⟩
  cases ha : y.cps.all (· < 128) with
  | true =>
   have e : strIterType y = "str_ascii_iterator" := by unfold strIterType; rw [if_pos ha]
   have it' : s.heap.IsStrIter I (strIterType y) y t i := it
   rw [e] at it'
   exact wpAny_pyNext_ascii_item it' hc fun h' i' sb => hq _ h' _ (.str _ _) (by show h'.IsStrIter I (strIterType y) y t (i + 1); rw [e]; exact i') sb
  | false =>
   have e : strIterType y = "str_iterator" := by unfold strIterType; rw [if_neg (by simp [ha])]
   have it' : s.heap.IsStrIter I (strIterType y) y t i := it
   rw [e] at it'
   exact wpAny_pyNext_wide_item it' hc fun h' i' sb => hq _ h' _ (.str _ _) (by show h'.IsStrIter I (strIterType y) y t (i + 1); rw [e]; exact i') sb
 | rng a m =>
  obtain rfl := sq
  have hi : i < m := by
   have := (List.getElem?_eq_some_iff.mp hx).1
   rwa [rangeV_len] at this
  have ex := rangeV_at m a i x hx
  subst ex
  refine wpAny_pyNext_range_item it (Int.sub_pos_of_lt (Int.ofNat_lt.mpr hi)) fun h' i' sb => hq _ h' _ ?_ ?_ sb
  ·have : a + (i : Int) * 1 = a + i := by rw [Int.mul_one]
   rw [this]; exact .int _ _
  ·show IsRangeIter h' I (a + ((i + 1 : Nat) : Int) * 1) ((m : Int) - ((i + 1 : Nat) : Int)) 1
   have e1 : a + ((i + 1 : Nat) : Int) * 1 = a + (i : Int) * 1 + 1 := by rw [Int.mul_one, Int.mul_one, Int.add_assoc]; rfl
   have e2 : (m : Int) - ((i + 1 : Nat) : Int) = (m : Int) - (i : Int) - 1 := by rw [Int.sub_sub]; rfl
   rw [e1, e2]; exact i'
theorem next_end {I : Addr} {k : ItK} {i : Nat} {xs : List V} {Q : Option Value -> Shared -> Prop} (hh : A.handled = none) (it : ItAt s.heap I k i) (sq : SeqIn s.heap N σ n k xs) (hx : i = xs.length)
  (hq : ∀ h', Heap.ExtBut I s.heap h' -> Q none { s with heap := h' }) : wpAny (model pr w) A (pyNext (.ref I)) Q E s := by
 cases k with
 | tup t =>
  obtain ⟨vs, ep, g, rs⟩ := sq
  have hl := u7 rs
  exact next_tuple_end hh it ⟨_, g, rfl, _, rfl⟩ (Array.getElem?_eq_none (Nat.le_of_eq (hl.symm.trans hx.symm))) hq
 | lst l =>
  obtain ⟨vs, ep, g, rs⟩ := sq
  have hl := u7 rs
  exact wpAny_pyNext_list_end hh it ⟨_, g, rfl, _, rfl⟩ (Array.getElem?_eq_none (Nat.le_of_eq (hl.symm.trans hx.symm))) hq
 | str y t =>
  obtain rfl := sq
  have hc : y.cps[i]? = none := by
   rw [Array.getElem?_eq_none]
   unfold chars at hx
   simp at hx; omega
  cases ha : y.cps.all (· < 128) with
  | true =>
   have e : strIterType y = "str_ascii_iterator" := by unfold strIterType; rw [if_pos ha]
   have it' : s.heap.IsStrIter I (strIterType y) y t i := it
   rw [e] at it'
   exact wpAny_pyNext_ascii_end hh it' hc hq
  | false =>
   have e : strIterType y = "str_iterator" := by unfold strIterType; rw [if_neg (by simp [ha])]
   have it' : s.heap.IsStrIter I (strIterType y) y t i := it
   rw [e] at it'
   exact wpAny_pyNext_wide_end hh it' hc hq
 | rng a m =>
  obtain rfl := sq
  rw [rangeV_len] at hx
  exact wpAny_pyNext_range_end hh it (Int.le_of_eq (by rw [hx, Int.sub_self])) hq
end
section
variable {w : World} {b0 : Heap} {Γ : Nat -> Option (Nat × r8)} {X : FX} {fr : List Addr} {σ c : Nat -> Addr} {s : Shared} {A : Around} {st : St} {n : Nat} {e : PySem.Expr} {hash : V -> Int}
theorem seqIn_of {led : List O} {h : Heap} {v : V} {u : Value} {k : ItK} {xs : List V} (r : R hash b0 fr σ c led h) (rv : Rv h (NN fr c led) σ led.length v u) (o : Over led v u k xs) : SeqIn h (NN fr c led) σ led.length k xs := by
 cases o with
 | tup =>
  obtain ⟨_, _, _, q, n1, g1, rs⟩ := rv.inv
  cases q
  exact ⟨_, _, g1, rs⟩
 | lst =>
  obtain ⟨_, _, _, q, n1, g1, rs⟩ := rv.inv
  cases q
  exact ⟨_, _, g1, rs⟩
 | own i l xs hi =>
  obtain ⟨q, _⟩ := rv.inv
  cases q
  obtain ⟨ei, vs, ep, gi, rs⟩ := r.cell i _ hi
  rw [← ei] at gi
  exact ⟨vs, ep, gi, rs⟩
 | str => rfl
 | rng => rfl
theorem wideIt {o : Obj} {tk : Nat} (hf : o.isFreed = false) (g : Gd hash b0 X fr σ c st s) : Gd hash b0 X (s.heap.objs.size :: fr) σ c st { s with heap := s.heap.push o, toks := tk } ∧ y9 (fun _ => False) σ c st.led s.heap σ c st.led (s.heap.push o) ∧
  v4 s.heap (s.heap.push o) (NN fr c st.led) (NN (s.heap.objs.size :: fr) c st.led) := by
 obtain ⟨R₁, S₁⟩ := g.r.wide (h' := s.heap.push o) (none_at _) ⟨_, Heap.get?_push_size _ hf⟩ (fun b o e => Heap.get?_push_of_some _ e)
 have Mo₁ : v4 s.heap (s.heap.push o) (NN fr c st.led) (NN (s.heap.objs.size :: fr) c st.led) := S₁.mono (fun _ q => q.elim) fun a ha => by
  rcases List.mem_cons.mp ha with rfl | ha
  ·exact .inr (none_at _)
  ·exact .inl ha
 exact ⟨⟨g.Xo, .tail _ g.L, R₁, g.f.mono Mo₁ (Nat.le_refl _) (fun _ _ => rfl) fun o e => Heap.get?_push_of_some _ e⟩, S₁, Mo₁⟩
inductive PostIt (hash : V -> Int) (b0 : Heap) (X : FX) (fr : List Addr) (σ c : Nat -> Addr) (st : St) (s : Shared) (k : V -> List V -> St -> Prop) (it : Value) (s' : Shared) : Prop
 | mk (I : Addr) (h' : Heap) (tk : Nat) (σ' c' : Nat -> Addr) (led' : List O) (v : V) (u : Value) (kk : ItK) (xs : List V) : it = .ref I -> s' = { s with heap := h', toks := tk } -> s.heap.get? I = none -> y9 (fun _ => False) σ c st.led s.heap σ' c' led' h' -> Gd hash b0 X (I :: fr) σ' c' ⟨st.loc, led'⟩ { s with heap := h', toks := tk } -> ItAt h' I kk 0 -> Over led' v u kk xs -> Rv h' (NN (I :: fr) c' led') σ' led'.length v u -> k v xs ⟨st.loc, led'⟩ -> PostIt hash b0 X fr σ c st s k it s'
noncomputable def SndIt (w : World) (hash : V -> Int) (b0 : Heap) (Γ : Nat -> Option (Nat × r8)) (n : Nat) : Prop :=
 ∀ (x : PE) (st : St) (k : V -> List V -> St -> Prop) (e : PySem.Expr) (X : FX) (A : Around) (s : Shared) (fr : List Addr) (σ c : Nat -> Addr),
  wp G Γ n (.it x st k) -> r6 w X x e -> Gd hash b0 X fr σ c st s -> i9 A n ->
  wpAny (model pr w) A (eval e X.env) (fun v s₁ => wpAny (model pr w) A (pyIter v) (PostIt hash b0 X fr σ c st s k) (fun _ _ => False) s₁) (fun _ _ => False) s
theorem rQ {o : Obj} {h' : Heap} {tk : Nat} {σ' c' : Nat -> Addr} {led' : List O} {k : V -> List V -> St -> Prop} {v : V} {u : Value} {kk : ItK} {xs : List V} (hf : o.isFreed = false) (x1 : y9 (fun _ => False) σ c st.led s.heap σ' c' led' h') (g1 : Gd hash b0 X fr σ' c' ⟨st.loc, led'⟩ { s with heap := h', toks := tk })
  (hi : ItAt (h'.push o) h'.objs.size kk 0) (ho : Over led' v u kk xs) (rv : Rv h' (NN fr c' led') σ' led'.length v u) (hk : k v xs ⟨st.loc, led'⟩) : PostIt hash b0 X fr σ c st s k (.ref h'.objs.size) { s with heap := h'.push o, toks := tk } := by
 obtain ⟨g2, x2, Mo⟩ := wideIt (tk := tk) hf g1
 refine ⟨h'.objs.size, h'.push o, tk, σ', c', led', v, u, kk, xs, rfl, rfl, ?_, x1.trans x2, g2, hi, ho, Rv.mono Mo (Nat.le_refl _) (fun _ _ => rfl) rv, hk⟩
 cases e : s.heap.get? h'.objs.size with
 | none => rfl
 | some p =>
  obtain ⟨p', e'⟩ := x1.stay _ _ e
  exact absurd (Heap.lt_size e') (Nat.lt_irrefl _)
theorem io_inv {z : Option O} {ys : List V} (h : (match z with | some (.list xs) => some xs | _ => none) = some ys) : z = some (.list ys) := by
 rcases z with _ | z
 ·cases h
 ·cases z <;> first | (cases h; done) | exact congrArg (fun x => some (O.list x)) (Option.some.inj h)
theorem over_items {h' : Heap} {tk : Nat} {σ' c' : Nat -> Addr} {led' : List O} {k : V -> List V -> St -> Prop} {v : V} {u : Value} {xs : List V} (x1 : y9 (fun _ => False) σ c st.led s.heap σ' c' led' h') (g1 : Gd hash b0 X fr σ' c' ⟨st.loc, led'⟩ { s with heap := h', toks := tk })
  (rv : Rv h' (NN fr c' led') σ' led'.length v u) (hi : fQ led' v = some xs) (hk : k v xs ⟨st.loc, led'⟩) : wpAny (model pr w) A (pyIter u) (PostIt hash b0 X fr σ c st s k) (fun _ _ => False) { s with heap := h', toks := tk } := by
 cases v <;> first | (cases hi; done) | skip
 ·cases hi
  rename_i x
  obtain ⟨t, rfl⟩ := rv.inv
  exact wpAny_pyIter_strU (rQ (kk := .str x t) rfl x1 g1 ⟨_, Heap.get?_push_size _ rfl, rfl, rfl⟩ (.str _ _) (.str _ _) hk)
 ·cases hi
  obtain ⟨t, vs, ep, rfl, n1, g3, rs⟩ := rv.inv
  exact iter_tuple ⟨_, g3, rfl, _, rfl⟩ (rQ (kk := .tup t) rfl x1 g1 ⟨_, Heap.get?_push_size _ rfl, rfl, rfl⟩ (.tup _ _) (.tup n1 g3 rs) hk)
 ·cases hi
  obtain ⟨t, vs, ep, rfl, n1, g3, rs⟩ := rv.inv
  exact wpAny_pyIter_list ⟨_, g3, rfl, _, rfl⟩ (rQ (kk := .lst t) rfl x1 g1 ⟨_, Heap.get?_push_size _ rfl, rfl, rfl⟩ (.lst _ _) (.lst n1 g3 rs) hk)
 ·rename_i i
  have hy := io_inv hi
  obtain ⟨rfl, hlt⟩ := rv.inv
  obtain ⟨ei, vs, ep, gi, rs⟩ := g1.r.cell i _ hy
  have gi' := gi
  rw [← ei] at gi'
  exact wpAny_pyIter_list ⟨_, gi', rfl, _, rfl⟩ (rQ (kk := .lst (σ' i)) rfl x1 g1 ⟨_, Heap.get?_push_size _ rfl, rfl, rfl⟩ (.own i _ _ hy) (.own i hlt) hk)
theorem sndIt_succ (W : Wd w b0) (IE : k7 w (q9 w) b0 Γ n) : SndIt w (q9 w) b0 Γ (n + 1) := by
 intro x st k e X A s fr σ c hw ho g hA
 have hA' := hA.le (Nat.le_succ n)
 have gen : ∀ {x : PE}, r6 w X x e -> (wp G Γ n (.e x st fun v st => match fQ st.led v with
   | some xs => k v xs st
   | none => False)) -> wpAny (model pr w) A (eval e X.env) (fun v s₁ => wpAny (model pr w) A (pyIter v) (PostIt (q9 w) b0 X fr σ c st s k) (fun _ _ => False) s₁) (fun _ _ => False) s := by
  intro x ho hw
  refine one IE hw ho g hA' fun h' tk σ' c' led' u uu x1 g1 ru hk => ?_
  refine sml_e hk fun xs hx hk => ?_
  exact over_items x1 g1 ru hx hk
 have rg : ∀ {a b : Int} {r : Addr} {h' : Heap} {tk t1 t2 t3 : Nat} {σ' c' : Nat -> Addr} {led' : List O}, y9 (fun _ => False) σ c st.led s.heap σ' c' led' h' -> Gd (q9 w) b0 X fr σ' c' ⟨st.loc, led'⟩ { s with heap := h', toks := tk } -> a.natAbs ≤ 1000000 -> b.natAbs ≤ 1000000 ->
   k .none (j3 (b - a).toNat a) ⟨st.loc, led'⟩ -> IsRange h' r a b 1 t1 t2 t3 -> wpAny (model pr w) A (pyIter (.ref r)) (PostIt (q9 w) b0 X fr σ c st s k) (fun _ _ => False) { s with heap := h', toks := tk } := by
  intro a b r h' tk t1 t2 t3 σ' c' led' x1 g1 ha hb hk hr
  refine wpAny_pyIter_range hr (small_one (by omega) (by omega) (by omega) (by omega)) (rQ (kk := .rng a (b - a).toNat) rfl x1 g1 ?_ (.rng _ _) .none hk)
  show IsRangeIter _ _ (a + ((0 : Nat) : Int) * 1) ((((b - a).toNat : Nat) : Int) - ((0 : Nat) : Int)) 1
  have e1 : a + ((0 : Nat) : Int) * 1 = a := by simp
  have e2 : (((b - a).toNat : Nat) : Int) - ((0 : Nat) : Int) = Builtin.Range.rangeSize a b 1 := by
   rw [rangeSize_one]; split <;> omega
  rw [e1, e2]
  exact Heap.get?_push_size _ rfl
 cases x <;> first | exact gen ho hw | skip
 rename_i as
 refine inv_range ho fun y p es q h1 h2 => ?_
 rcases as with _ | ⟨a, _ | ⟨b, _ | ⟨d, as⟩⟩⟩
 ·exfalso
  conv at hw => whnf
  cases n with
  | zero => exact False.elim hw
  | succ n => exact False.elim hw
 ·rcases es with _ | ⟨ea, _ | ⟨eb, es⟩⟩ <;> try (first | exact (Bool.false_ne_true h2).elim | exact (Bool.false_ne_true (Bool.and_eq_true_iff.mp h2).2).elim | exact (Bool.false_ne_true (Bool.and_eq_true_iff.mp (Bool.and_eq_true_iff.mp h2).2).2).elim)
  simp only [w5, Bool.and_eq_true] at h2
  conv at hw => whnf
  refine Call_name1 (one_tree h2.1.1) (w0 W h1 boot_range' (by decide) g.Xo g.r (PySem.callWith_type1 (one IE hw h2.1.2 g hA' fun h' tk σ' c' led' u uu x1 g1 ru hk => ?_)))
  refine int_e hk ru fun _i hk ru => ?_
  obtain ⟨_, rfl⟩ := ru.inv
  refine call_range_1 ?_
  obtain ⟨g2, x2⟩ := gd_push (tk := tk + 1 + 1) (o := { cls := .type "range", data := .fields #[.int 0 tk, .int _ _, .int 1 (tk + 1)] }) g1
  exact rg (x1.trans x2) g2 (by simp) (z7 hk).1 (by simpa using (z7 hk).2) (IsRange.new ..)
 ·rcases es with _ | ⟨ea, _ | ⟨eb, _ | ⟨ed, es⟩⟩⟩ <;> try (first | exact (Bool.false_ne_true h2).elim | exact (Bool.false_ne_true (Bool.and_eq_true_iff.mp h2).2).elim | exact (Bool.false_ne_true (Bool.and_eq_true_iff.mp (Bool.and_eq_true_iff.mp h2).2).2).elim)
  simp only [w5, Bool.and_eq_true] at h2
  conv at hw => whnf
  refine wpAny_Call_Name_kw (w0 W h1 boot_range' (by decide) g.Xo g.r ?_)
  show wpAny _ _ (callWith q (.type "range") [] (backTo q (starEach [ea, eb] X.env)) []) _ _ _
  have ht : backTo q (starEach [ea, eb] X.env) = [(false, eval ea X.env), (false, eval eb X.env)] := by
   rw [j6 h2.1.1, j6 h2.2.1.1]; rfl
  rw [ht]
  refine PySem.callWith_type rfl (Calls.evalArgs_plain (Calls.spliced_cons (one IE hw h2.1.2 g hA' fun h' tk σ' c' led' u uu x1 g1 ru hk => ?_)))
  refine Calls.spliced_cons (one IE hk h2.2.1.2 g1 hA' fun h2' tk2 σ2 c2 led2 v vv x2 g2 rv hk2 => Calls.spliced_nil ?_)
  have ru2 := Rv.step (fr := fr) x2 ru
  split at hk2
  ·obtain ⟨_, rfl⟩ := ru2.inv
   obtain ⟨_, rfl⟩ := rv.inv
   refine call_range_2 ?_
   obtain ⟨g3, x3⟩ := gd_push (tk := tk2 + 1) (o := { cls := .type "range", data := .fields #[.int _ _, .int _ _, .int 1 tk2] }) g2
   exact rg ((x1.trans x2).trans x3) g3 (z7 hk2).1 (z7 (z7 hk2).2).1 (z7 (z7 hk2).2).2 (IsRange.new ..)
  ·exact hk2.elim
 ·exfalso
  conv at hw => whnf
  cases n with
  | zero => exact False.elim hw
  | succ n => exact False.elim hw
end
end
noncomputable section
theorem islocal_ok {T : Tx} {i : Nat} {y : Str} (h : s0 T i y = true) : getL T.names i = some y ∧ T.sc.names.lookup y = some .local := by
 obtain ⟨a, b⟩ := Bool.and_eq_true_iff.mp h
 exact ⟨(names_ok a).1, of_decide_eq_true b⟩
section
variable {w : World} {b0 : Heap} {Γ : Nat -> Option (Nat × r8)} {X : FX} {fr : List Addr} {σ c : Nat -> Addr} {s : Shared} {A : Around} {st : St} {n : Nat} {k : St -> Prop} {r : V -> List O -> Prop}
noncomputable abbrev bZ (X : FX) := y9 (fun a => a = X.env.locals)
theorem hp_ok (Xo : FXok X) : (X.env.scope.kind == .class || (X.env.scope.kind == .module && X.env.locals != X.env.globals)) = false := by rw [Xo.kind]; rfl
theorem store_ok {i : Nat} {y : Str} {v : V} {u : Value} {Q : Unit -> Shared -> Prop} {E : Value -> Shared -> Prop} (g : Gd (q9 w) b0 X fr σ c st s) (hi : s0 ⟨Kf w.params, X.sc, X.names⟩ i y = true) (rv : Rv s.heap (NN fr c st.led) σ st.led.length v u)
  (h : ∀ h' tk, bZ X σ c st.led s.heap σ c st.led h' -> Gd (q9 w) b0 X fr σ c ⟨st.loc.set i (some v), st.led⟩ { s with heap := h', toks := tk } -> Q () { s with heap := h', toks := tk }) :
  wpAny (model pr w) A (storeName X.env y u) Q E s := by
 obtain ⟨hn, hk⟩ := islocal_ok hi
 have hkk := g.Xo.locl y hk
 obtain ⟨m, hm, hl⟩ := g.f
 refine wpAny_storeName_local hkk hm (fun h' hn' hs' => ?_) (hp_ok g.Xo)
 have gL : ∃ o, h'.get? X.env.locals = some o := let ⟨o, _, _, ho, _⟩ := hn'; ⟨o, ho⟩
 have S : bZ X σ c st.led s.heap σ c st.led h' := y9.frame hs' gL
 have Mo : v4 s.heap h' (NN fr c st.led) (NN fr c st.led) := S.mono (fun a q => q ▸ g.L) fun _ q => .inl q
 refine h h' _ S ⟨g.Xo, g.L, g.r.frame g.L hs' gL, _, hn', fun j z hz => ?_⟩
 by_cases hj : i = j
 ·subst hj
  rcases Nat.lt_or_ge i st.loc.length with q | q
  ·rw [xZ q] at hz
   cases hz
   exact ⟨y, hn, .inl ⟨hkk, u, by simp, Rv.mono Mo (Nat.le_refl _) (fun _ _ => rfl) rv⟩⟩
  ·have := w9 hz
   rw [List.length_set] at this
   exact absurd this (Nat.not_lt.mpr q)
 ·rw [wQ hj] at hz
  obtain ⟨x, hx, l⟩ := hl j z hz
  refine ⟨x, hx, ?_⟩
  have hne : x ≠ y := fun e => hj (g.Xo.nodup i j y hn (e ▸ hx))
  rcases (l.mono Mo (Nat.le_refl _) fun _ _ => rfl) with ⟨a, u', b, d⟩ | q
  ·exact .inl ⟨a, u', by simp [hne, b], d⟩
  ·exact .inr q
theorem swaps_no {v : PySem.Expr} {t : Option PySem.Expr} {l : Int} {env : Env} (h : z4 v = true) : ∀ ln, swapsWith v t ln env = pure false := by
 intro ln
 cases v <;> first | rfl | (exact (Bool.false_ne_true h).elim)
theorem set_no {e : PySem.Expr} {env : Env} (h : notSet e = true) : ∀ x, foldedSetIterable e env x = pure x := by
 intro x
 cases e <;> first | rfl | (exact (Bool.false_ne_true h).elim)
theorem xQ {led' : List O} {h' : Heap} {tk : Nat} {σ' c' : Nat -> Addr} {f : Flow} {s'' : Shared} (x : bZ X σ c st.led s.heap σ' c' led' h') (p : z6 (q9 w) b0 X fr σ' c' led' { s with heap := h', toks := tk } k r f s'') :
  z6 (q9 w) b0 X fr σ c st.led s k r f s'' := by
 obtain ⟨h2, t2, σ2, c2, l2, rfl, x2, r2, q⟩ := p
 exact ⟨h2, t2, σ2, c2, l2, rfl, x.trans x2, r2, q⟩
theorem nextS {tk : Nat} {led₀ : List O} {s₀ : Shared} {σ₀ c₀ : Nat -> Addr} {h' : Heap} (x : bZ X σ₀ c₀ led₀ s₀.heap σ c st.led h') (g : Gd (q9 w) b0 X fr σ c st { s₀ with heap := h', toks := tk }) (hk : k st) :
  z6 (q9 w) b0 X fr σ₀ c₀ led₀ s₀ k r .next { s₀ with heap := h', toks := tk } := ⟨h', tk, σ, c, st.led, rfl, x, g.r, st.loc, g.f, hk⟩
theorem lw {led' : List O} {h h' : Heap} {σ' c' : Nat -> Addr} (x : y9 (fun _ => False) σ c st.led h σ' c' led' h') : bZ X σ c st.led h σ' c' led' h' := x.weaken fun _ q => q.elim
theorem s_ret {x : PE} {e : Stmt} (IE : k7 w (q9 w) b0 Γ n) (g : Gd (q9 w) b0 X fr σ c st s) (hA : i9 A (n + 1)) (hw : wp G Γ (n + 1) (.s (.ret x) st k r)) (ho : okS ⟨Kf w.params, X.sc, X.names⟩ (.ret x) e = true) :
  wpAny (model pr w) A (exec e X.env) (z6 (q9 w) b0 X fr σ c st.led s k r) (fun _ _ => False) s := by
 refine inv_ret ho fun v p h => ?_
 conv at hw => whnf
 refine wpAny_Return_some (one IE hw h g (hA.le (Nat.le_succ _)) fun h' tk σ' c' led' u uu x1 g1 ru hk => ?_)
 exact ⟨h', tk, σ', c', led', rfl, lw x1, g1.r, u, ru, hk⟩
theorem s_retN {e : Stmt} (g : Gd (q9 w) b0 X fr σ c st s) (hw : wp G Γ (n + 1) (.s .retN st k r)) (ho : okS ⟨Kf w.params, X.sc, X.names⟩ .retN e = true) :
  wpAny (model pr w) A (exec e X.env) (z6 (q9 w) b0 X fr σ c st.led s k r) (fun _ _ => False) s := by
 refine inv_retN ho fun p => ?_
 conv at hw => whnf
 exact wpAny_Return_none ⟨s.heap, s.toks, σ, c, st.led, rfl, .refl, g.r, .none, .none, hw⟩
theorem s_pass {e : Stmt} (g : Gd (q9 w) b0 X fr σ c st s) (hw : wp G Γ (n + 1) (.s .pass st k r)) (ho : okS ⟨Kf w.params, X.sc, X.names⟩ .pass e = true) :
  wpAny (model pr w) A (exec e X.env) (z6 (q9 w) b0 X fr σ c st.led s k r) (fun _ _ => False) s := by
 refine inv_pass ho fun p => ?_
 conv at hw => whnf
 exact wpAny_Pass (nextS (tk := s.toks) .refl g hw)
theorem s_ex {x : PE} {e : Stmt} (IE : k7 w (q9 w) b0 Γ n) (g : Gd (q9 w) b0 X fr σ c st s) (hA : i9 A (n + 1)) (hw : wp G Γ (n + 1) (.s (.ex x) st k r)) (ho : okS ⟨Kf w.params, X.sc, X.names⟩ (.ex x) e = true) :
  wpAny (model pr w) A (exec e X.env) (z6 (q9 w) b0 X fr σ c st.led s k r) (fun _ _ => False) s := by
 refine inv_ex ho fun v p hc h => ?_
 conv at hw => whnf
 refine wpAny_Expr_any (one IE hw h g (hA.le (Nat.le_succ _)) fun h' tk σ' c' led' u uu x1 g1 ru hk => ?_) (by unfold interactive; rw [g.Xo.kind]; rfl) (swaps_no (l := 0) hc _)
 exact nextS (st := ⟨st.loc, led'⟩) (lw x1) g1 hk
theorem s_cond {x : PE} {a b : List PS} {e : Stmt} (IT : SndT w (q9 w) b0 Γ n) (IB : SndB w (q9 w) b0 Γ n) (g : Gd (q9 w) b0 X fr σ c st s) (hA : i9 A (n + 1)) (hw : wp G Γ (n + 1) (.s (.cond x a b) st k r)) (ho : okS ⟨Kf w.params, X.sc, X.names⟩ (.cond x a b) e = true) :
  wpAny (model pr w) A (exec e X.env) (z6 (q9 w) b0 X fr σ c st.led s k r) (fun _ _ => False) s := by
 refine inv_cond ho fun t p q l h1 h2 h3 => ?_
 conv at hw => whnf
 have hA' := hA.le (Nat.le_succ n)
 refine wpAny_If (wpAny_mono (IT x st _ t X A s fr σ c hw h1 g hA') (fun b s' p => ?_) fun _ _ q => q)
 obtain ⟨h', tk, σ', c', led', rfl, x1, g1, hk⟩ := p
 cases b with
 | true =>
  simp only [if_true]
  exact wpAny_mono (IB a _ k r p X A _ fr σ' c' hk h2 g1 hA') (fun _ _ q => xQ (st := st) (lw x1) q) fun _ _ q => q
 | false =>
  simp only [Bool.false_eq_true, if_false]
  exact wpAny_mono (IB b _ k r q X A _ fr σ' c' hk h3 g1 hA') (fun _ _ q => xQ (st := st) (lw x1) q) fun _ _ q => q
inductive WhlI (hash : V -> Int) (b0 : Heap) (X : FX) (fr : List Addr) (σ c : Nat -> Addr) (st : St) (s : Shared) (I : Nat -> St -> Prop) (m : Nat) (s' : Shared) : Prop
 | mk (h' : Heap) (tk : Nat) (σ' c' : Nat -> Addr) (st' : St) : s' = { s with heap := h', toks := tk } -> bZ X σ c st.led s.heap σ' c' st'.led h' -> Gd hash b0 X fr σ' c' st' { s with heap := h', toks := tk } -> I m st' -> WhlI hash b0 X fr σ c st s I m s'
theorem s_whl {x : PE} {a : List PS} {e : Stmt} (IT : SndT w (q9 w) b0 Γ n) (IB : SndB w (q9 w) b0 Γ n) (g : Gd (q9 w) b0 X fr σ c st s) (hA : i9 A (n + 1)) (hw : wp G Γ (n + 1) (.s (.whl x a) st k r)) (ho : okS ⟨Kf w.params, X.sc, X.names⟩ (.whl x a) e = true) :
  wpAny (model pr w) A (exec e X.env) (z6 (q9 w) b0 X fr σ c st.led s k r) (fun _ _ => False) s := by
 refine inv_whl ho fun t p l h1 h2 => ?_
 conv at hw => whnf
 have hA' := hA.le (Nat.le_succ n)
 refine wpAny_While (codeAny_whileLoop (WhlI (q9 w) b0 X fr σ c st s (fun m st' => whlU (fun st k => wp G Γ n (.t x st k)) (fun st k => wp G Γ n (.b a st k r)) m st' k)) ?_ 400 ⟨s.heap, s.toks, σ, c, st, rfl, .refl, g, hw⟩)
 rintro m s' ⟨h', tk, σ', c', st', rfl, x1, g1, hI1⟩
 cases m with
 | zero => exact hI1.elim
 | succ m =>
 conv at hI1 => whnf
 refine wpAny_mono (IT x st' _ t X A _ fr σ' c' hI1 h1 g1 hA') (fun b s' q => ?_) fun _ _ q => q.elim
 obtain ⟨h2', t2, σ2, c2, led2, rfl, x2, g2, hk⟩ := q
 cases b with
 | true =>
  simp only [if_true]
  refine wpAny_mono (IB a _ _ r p X A _ fr σ2 c2 hk h2 g2 hA') (fun f s' q => ?_) fun _ _ q => q.elim
  obtain ⟨h3, t3, σ3, c3, led3, rfl, x3, r3, q⟩ := q
  have x4 := (x1.trans (lw x2)).trans x3
  cases f with
  | next =>
   obtain ⟨loc3, f3, hI3⟩ := q
   exact ⟨m, Nat.lt_succ_self _, h3, t3, σ3, c3, ⟨loc3, led3⟩, rfl, x4, ⟨g.Xo, g.L, r3, f3⟩, hI3⟩
  | ret u => exact ⟨h3, t3, σ3, c3, led3, rfl, x4, r3, q⟩
  | brk => exact q.elim
  | cont => exact q.elim
 | false =>
  simp only [Bool.false_eq_true, if_false]
  exact wpAny_execs_nil ⟨h2', t2, σ2, c2, led2, rfl, x1.trans (lw x2), g2.r, st'.loc, g2.f, hk⟩
theorem sndB_succ (IS : SndS w (q9 w) b0 Γ n) (IB : SndB w (q9 w) b0 Γ n) : SndB w (q9 w) b0 Γ (n + 1) := by
 intro x st k r e X A s fr σ c hw ho g hA
 have hA' := hA.le (Nat.le_succ n)
 cases x with
 | nil =>
  cases e with
  | nil => exact wpAny_execs_nil (nextS (tk := s.toks) .refl g (hw))
  | cons => exact (Bool.false_ne_true ho).elim
 | cons a as =>
  cases e with
  | nil => exact (Bool.false_ne_true ho).elim
  | cons e es =>
   simp only [okSs_c, Bool.and_eq_true] at ho
   conv at hw => whnf
   refine wpAny_execs_cons (wpAny_mono (IS a st _ r e X A s fr σ c hw ho.1 g hA') (fun f s' q => ?_) fun _ _ q => q)
   obtain ⟨h2, t2, σ2, c2, led2, rfl, x2, r2, q⟩ := q
   cases f with
   | next =>
    obtain ⟨loc2, f2, hk⟩ := q
    exact wpAny_mono (IB as ⟨loc2, led2⟩ k r es X A _ fr σ2 c2 hk ho.2 ⟨g.Xo, g.L, r2, f2⟩ hA') (fun _ _ q => xQ (st := st) x2 q) fun _ _ q => q
   | ret u => exact ⟨h2, t2, σ2, c2, led2, rfl, x2, r2, q⟩
   | brk => exact q.elim
   | cont => exact q.elim
end
end
noncomputable section
section
variable {w : World} {b0 : Heap} {Γ : Nat -> Option (Nat × r8)} {X : FX} {fr : List Addr} {σ c : Nat -> Addr} {s : Shared} {A : Around} {st : St} {n : Nat} {k : St -> Prop} {r : V -> List O -> Prop}
theorem s_asg {i : Nat} {x : PE} {e : Stmt} (IE : k7 w (q9 w) b0 Γ n) (g : Gd (q9 w) b0 X fr σ c st s) (hA : i9 A (n + 1)) (hw : wp G Γ (n + 1) (.s (.asg i x) st k r))
  {y : Str} {yp p : Pos} {v : PySem.Expr} (he : e = .Assign [.Name y yp] v p) (hl : s0 ⟨Kf w.params, X.sc, X.names⟩ i y = true) (hc : z4 v = true) (h : r6 w X x v) :
  wpAny (model pr w) A (exec e X.env) (z6 (q9 w) b0 X fr σ c st.led s k r) (fun _ _ => False) s := by
 subst he
 conv at hw => whnf
 refine wpAny_Assign_Name (one IE hw h g (hA.le (Nat.le_succ _)) fun h' tk σ' c' led' u uu x1 g1 ru hk => ?_) (swaps_no (l := 0) hc _)
 rw [k8] at hk
 exact store_ok g1 hl ru fun h2 t2 S g2 => nextS (st := ⟨st.loc.set i (some u), led'⟩) ((lw x1).trans S) g2 hk
theorem bindT_ok : ∀ {is : List Nat} {ts : List PySem.Expr} {vs : List V} {us : List Value} {st : St} {s : Shared} {Q : Unit -> Shared -> Prop} {E : Value -> Shared -> Prop} {K : List (Option V) -> Prop}, tgs ⟨Kf w.params, X.sc, X.names⟩ is ts = true -> Gd (q9 w) b0 X fr σ c st s ->
  Rvs s.heap (NN fr c st.led) σ st.led.length vs us -> bindT is vs st.loc K ->
  (∀ h' tk loc', bZ X σ c st.led s.heap σ c st.led h' -> Gd (q9 w) b0 X fr σ c ⟨loc', st.led⟩ { s with heap := h', toks := tk } -> K loc' -> Q () { s with heap := h', toks := tk }) ->
  wpAny (model pr w) A (assignInOrder ((assignEach ts X.env).map (·.2)) us) Q E s
 | [], ts, vs, us, st, s, Q, E, K, ht, g, rs, hb, hq => by
  cases ts <;> try (exact (Bool.false_ne_true ht).elim)
  cases vs with
  | cons => exact hb.elim
  | nil =>
   cases rs
   exact wpAny_pure (hq s.heap s.toks st.loc .refl g hb)
 | i :: is, ts, vs, us, st, s, Q, E, K, ht, g, rs, hb, hq => by
  rcases ts with _ | ⟨t, ts⟩
  ·exact (Bool.false_ne_true ht).elim
  cases t <;> try (exact (Bool.false_ne_true ht).elim)
  simp only [tgs_c, Bool.and_eq_true] at ht
  cases vs with
  | nil => exact hb.elim
  | cons v vs =>
   cases rs with
   | @cons _ u _ us ru rs =>
    rename_i y yp
    conv at hb => whnf
    rw [k8] at hb
    show wpAny _ _ (do holding us (assign (.Name y yp) X.env u); assignInOrder ((assignEach ts X.env).map (·.2)) us) _ _ _
    refine wpAny_bind (wpAny_holding (PySem.wpAny_assign_Name (store_ok g ht.1 ru fun h' tk S g1 => ?_)))
    have Mo : v4 s.heap h' (NN fr c st.led) (NN fr c st.led) := S.mono (fun a q => q ▸ g.L) fun _ q => .inl q
    refine bindT_ok ht.2 g1 (Rvs.mono Mo (Nat.le_refl _) (fun _ _ => rfl) rs) hb fun h2 t2 loc2 S2 g2 hk => ?_
    exact hq h2 t2 loc2 (S.trans S2) g2 hk
theorem bindT_len : ∀ {is : List Nat} {vs : List V} {l : List (Option V)} {K : List (Option V) -> Prop}, bindT is vs l K -> is.length = vs.length
 | [], [], _, _, _ => rfl
 | [], _ :: _, _, _, h => h.elim
 | _ :: _, [], _, _, h => h.elim
 | i :: is, v :: vs, l, K, h => by
  simp only [bindT] at h
  rw [k8] at h
  simp [bindT_len h]
theorem tgs_each {T : Tx} {env : Env} : ∀ {is : List Nat} {ts : List PySem.Expr}, tgs T is ts = true -> (assignEach ts env).length = is.length ∧ (assignEach ts env).findIdx? (·.1) = none
 | [], ts, h => by cases ts <;> first | exact ⟨rfl, rfl⟩ | (exact (Bool.false_ne_true h).elim)
 | i :: is, ts, h => by
  rcases ts with _ | ⟨t, ts⟩
  ·exact (Bool.false_ne_true h).elim
  cases t <;> try (exact (Bool.false_ne_true h).elim)
  simp only [tgs_c, Bool.and_eq_true] at h
  obtain ⟨a, b⟩ := tgs_each (env := env) h.2
  rename_i y yp
  show ((false, assign (.Name y yp) env) :: assignEach ts env).length = _ ∧ ((false, assign (.Name y yp) env) :: assignEach ts env).findIdx? (·.1) = none
  refine ⟨by simp [a], ?_⟩
  rw [List.findIdx?_cons, b]; rfl
theorem unpackT_ok {is : List Nat} {ts : List PySem.Expr} {kk} {tp : Pos} {vs : List V} {u : Value} {Q : Unit -> Shared -> Prop} {E : Value -> Shared -> Prop} {K : List (Option V) -> Prop} (hh : A.handled = none) (ht : tgs ⟨Kf w.params, X.sc, X.names⟩ is ts = true) (g : Gd (q9 w) b0 X fr σ c st s)
  (ru : Rv s.heap (NN fr c st.led) σ st.led.length (.tup vs) u) (hb : bindT is vs st.loc K)
  (hq : ∀ h' tk loc', bZ X σ c st.led s.heap σ c st.led h' -> Gd (q9 w) b0 X fr σ c ⟨loc', st.led⟩ { s with heap := h', toks := tk } -> K loc' -> Q () { s with heap := h', toks := tk }) :
  wpAny (model pr w) A (assign (.Tuple ts kk tp) X.env u) Q E s := by
 obtain ⟨l1, l2⟩ := tgs_each (env := X.env) ht
 have l3 := bindT_len hb
 obtain ⟨t, us, ep, rfl, n1, g1, rs⟩ := ru.inv
 ·have l4 := u7 rs
  refine assign_Tuple_tuple hh ⟨_, g1, rfl, _, rfl⟩ ((l1.trans l3).trans l4) l2 fun h' he => ?_
  have hk : ∀ b o, s.heap.get? b = some o -> h'.get? b = some o := fun b o e => he b o (Nat.ne_of_lt (Heap.lt_size e)) e
  have S : y9 (fun _ => False) σ c st.led s.heap σ c st.led h' := ⟨fun a o e _ _ => hk a o e, Nat.le_refl _, fun _ _ => ⟨rfl, rfl⟩, fun _ _ x => x, fun _ hi x => absurd (u8 x) (Nat.not_lt.mpr hi), fun a o e => ⟨o, hk a o e⟩⟩
  have r2 : R (q9 w) b0 fr σ c st.led h' := g.r.still S (fun _ q => q.elim) fun j hj => by
   obtain ⟨q, gq⟩ := g.r.cell_some hj
   rw [gq]; exact hk _ _ gq
  have g2 : Gd (q9 w) b0 X fr σ c st { s with heap := h' } := ⟨g.Xo, g.L, r2, g.f.step g.r g.L S⟩
  exact bindT_ok ht g2 (Rvs.step (fr := fr) S rs) hb fun h2 t2 loc2 S2 g3 hk => hq h2 t2 loc2 ((lw S).trans S2) g3 hk
theorem s_asgT {is : List Nat} {x : PE} {e : Stmt} (IE : k7 w (q9 w) b0 Γ n) (g : Gd (q9 w) b0 X fr σ c st s) (hA : i9 A (n + 1)) (hw : wp G Γ (n + 1) (.s (.asgT is x) st k r)) (ho : okS ⟨Kf w.params, X.sc, X.names⟩ (.asgT is x) e = true) :
  wpAny (model pr w) A (exec e X.env) (z6 (q9 w) b0 X fr σ c st.led s k r) (fun _ _ => False) s := by
 refine inv_asgT ho fun ts kk tp v p h1 h2 h3 => ?_
 conv at hw => whnf
 cases v <;> try (exact (Bool.false_ne_true h2).elim)
 refine Assign_Tuple (one IE hw h3 g (hA.le (Nat.le_succ _)) fun h' tk σ' c' led' u uu x1 g1 ru hk => ?_) rfl rfl
 refine tup_e hk ru fun _xs hk ru => ?_
 exact unpackT_ok hA.quiet h1 g1 ru hk fun h2 t2 loc2 S g2 hk => nextS (st := ⟨loc2, led'⟩) ((lw x1).trans S) g2 hk
theorem att_lt {C m : Nat} (h : G.att C m = true) : m < nmT.length := by
 have := inP_mem h
 revert this
 exact fun hm => by
  have := List.all_eq_true.mp (show (attT.all fun p => decide (p.2 < nmT.length)) = true by decide +kernel) (C, m) hm
  simpa using this
theorem s_setA {o x : PE} {m : Nat} {e : Stmt} (W : Wd w b0) (IE : k7 w (q9 w) b0 Γ n) (g : Gd (q9 w) b0 X fr σ c st s) (hA : i9 A (n + 1)) (hw : wp G Γ (n + 1) (.s (.setA o m x) st k r)) (ho : okS ⟨Kf w.params, X.sc, X.names⟩ (.setA o m x) e = true) :
  wpAny (model pr w) A (exec e X.env) (z6 (q9 w) b0 X fr σ c st.led s k r) (fun _ _ => False) s := by
 refine inv_setA ho fun t tp v p h1 h2 h3 => ?_
 conv at hw => whnf
 refine plainObj_wpAny_Assign_Attribute (two IE hw h3 h2 g (hA.le (Nat.le_succ _)) fun h' tk σ' c' led' u v uu vv x1 g1 ru rv hk => ?_) (swaps_no (l := 0) h1 _)
 refine own_e hk rv fun i hk rv => ?_
 obtain ⟨rfl, _⟩ := rv.inv
 refine in_e hk fun C fs hi hk => ?_
 refine tr_e hk fun ha hk => ?_
 obtain ⟨hz, hk⟩ := x8.mp hk
 rw [k8] at hk
 exact setA_ok W g1 (att_lt ha) hi ha (Nat.le_of_ble_eq_true hz) ru fun h2 t2 S g2 => nextS (st := ⟨st.loc, _⟩) (lw (x1.trans S)) g2 hk
theorem s_augA {o x : PE} {m : Nat} {op : Bop} {e : Stmt} (W : Wd w b0) (IE : k7 w (q9 w) b0 Γ n) (g : Gd (q9 w) b0 X fr σ c st s) (hA : i9 A (n + 1)) (hw : wp G Γ (n + 1) (.s (.augA o m op x) st k r)) (ho : okS ⟨Kf w.params, X.sc, X.names⟩ (.augA o m op x) e = true) :
  wpAny (model pr w) A (exec e X.env) (z6 (q9 w) b0 X fr σ c st.led s k r) (fun _ _ => False) s := by
 refine inv_augA ho fun t tp o' v p h1 h2 h3 => ?_
 conv at hw => whnf
 have hA' := hA.le (Nat.le_succ n)
 refine wpAny_AugAssign_AttributeAny (one IE hw h2 g hA' fun h' tk σ' c' led' u uu x1 g1 ru hk => ?_)
 refine wpAny_mono (attr_ok (k := fun x st => wp G Γ n (.e _ st _)) W g1 ru hk) (fun y s' q => ?_) fun _ _ q => q
 obtain ⟨h2', t2, σ2, c2, l2, xv, rfl, x2, r2, f2, rx, hk⟩ := q
 refine one IE hk h3 ⟨g.Xo, g.L, r2, f2⟩ hA' fun h3' t3 σ3 c3 l3 vv yy x3 g3 ry hk => ?_
 have rx3 := Rv.step (fr := fr) x3 rx
 have ru3 := Rv.step (fr := fr) (x2.trans x3) ru
 refine ai_e hk fun a b i e1 e2 e3 e4 hk2 => ?_
 subst e1
 rw [e2] at rx3
 rw [e3] at ry
 rw [e4] at ru3
 obtain ⟨_, rfl⟩ := rx3.inv
 obtain ⟨_, rfl⟩ := ry.inv
 obtain rfl := of_decide_eq_true h1
 obtain ⟨rfl, _⟩ := ru3.inv
 refine PyProof.Rows.iadd_int ?_
 refine in_e hk2 fun C fs hi hk2 => ?_
 refine tr_e hk2 fun ha hk2 => ?_
 obtain ⟨hz, hk2⟩ := x8.mp hk2
 rw [k8] at hk2
 exact setA_ok W (gd_toks (tk := t3 + 1) g3) (att_lt ha) hi ha (Nat.le_of_ble_eq_true hz) (.int _ _) fun h4 t4 S g4 => nextS (st := ⟨st.loc, _⟩) (lw (((x1.trans x2).trans x3).trans S)) g4 hk2
end
end
noncomputable section
section
variable {prog : Program} {w : World} {A : Around} {E : Value -> Shared -> Prop} {s : Shared}
theorem setItem_own' {l : Addr} {items : Array Value} {n j : Nat} {k : Int} {t : Tok} {v : Value} {Q : Unit -> Shared -> Prop} (ho : s.heap.get? l = some ⟨.type "list", none, .seq items n, #[]⟩) (hj : j < items.size) (hfit : k < 2 ^ 63) (hk : k = j)
  (hq : Q () { s with heap := s.heap.update l (Obj.mapSeq (·.setIfInBounds j v)) }) : wpAny (model prog w) A (setItem (.ref l) (.int k t) v) Q E s := by
 have hT : s.TypeIs (.ref l) "list" := ⟨_, ho, rfl⟩
 unfold setItem
 try with_reducible refine wpAny_holding ?_
 first | refine wpAny_bind (wpAny_pure ?_) | skip
 refine wpAny_bind (wpAny_sequenceKey hT (by decide) ?_)
 refine wpAny_bind (wpAny_callSpecial?_slot (name := Str.ofString "__setitem__") hT slot_list_setitem
  (wpAny_call_entry slot_list_setitem hT entry_list_setitem ?_ (args_list_setitem _ _ _)))
 show wpAny _ _ (Builtin.List.listSubscript? (.int k t) >>= _) _ _ s
 refine wpAny_bind (wpAny_listSubscript_int (fitsIndex_of (hk ▸ Int.natCast_nonneg j) hfit) ?_)
 subst hk
 have hx : items[j]? = some items[j] := Array.getElem?_eq_getElem hj
 show wpAny _ _ ((seqItemAt l j >>= fun r => pure (r.map (j, ·))) >>= _) _ _ s
 refine wpAny_bind (wpAny_bind (wpAny_seqItemAt ho rfl (wpAny_pure ?_)))
 rw [hx]
 show wpAny _ _ (setSeqItemAt l j v >>= _) _ _ s
 refine wpAny_bind (wpAny_setSeqItemAt ho rfl ?_)
 first
  | exact wpAny_bind (wpAny_pure (wpAny_pure ⟨.none, rfl, wpAny_pure hq⟩))
  | exact wpAny_pure ⟨.none, rfl, wpAny_pure hq⟩
end
noncomputable def sel (start stop step : Int) (i : Nat) : Bool :=
 if step > 0 then start ≤ i && i < stop && (i - start) % step == 0
 else stop < i && i ≤ start && (start - i) % (-step) == 0
noncomputable def jZ (m : Nat) (xs : Array Value) : Array Value := (xs.toList.zipIdx.filterMap fun (x, k) => if sel 0 m 1 k then none else some x).toArray
theorem cutAll_nil (xs : Array Value) : jZ xs.size xs = #[] := by
 unfold jZ
 have : (xs.toList.zipIdx.filterMap fun (x, k) => if sel 0 xs.size 1 k then none else some x) = [] := by
  rw [List.filterMap_eq_nil_iff]
  rintro ⟨x, k⟩ hx
  have := List.mem_zipIdx hx
  simp at this
  have hk : k < xs.size := this.1
  have : sel 0 xs.size 1 k = true := by
   unfold sel
   simp
   omega
  simp [this]
 rw [this]
theorem cutAll_size (m : Nat) (xs : Array Value) : (jZ m xs).size ≤ xs.size := by
 unfold jZ
 rw [List.size_toArray]
 refine Nat.le_trans (List.length_filterMap_le _ _) ?_
 simp
theorem list_del_all (l sl : Addr) (items : Array Value) (n : Nat) (hsz : items.size ≤ sizeLine) :
  Meets (Builtin.«list.__delitem__» ⟨[.ref l, .ref sl], []⟩) (fun _ R s => s.heap.get? l = some ⟨.type "list", none, .seq items n, #[]⟩ ∧ s.heap.IsSliceOf sl .none .none .none ∧
   R (.ok (.ret .none)) { s with heap := s.heap.update l (Obj.mapSeq (jZ items.size)) }) :=
 .of_wp fun prog w A R s h => by
  obtain ⟨hl, hs, h⟩ := h
  obtain ⟨os, hos, hcs, hds⟩ := id hs
  have hTs : s.TypeIs (.ref sl) "slice" := ⟨os, hos, hcs⟩
  show wpAny _ _ (Builtin.List.listSubscript? (.ref sl) >>= _) _ _ s
  refine wpAny_bind ?_
  unfold Builtin.List.listSubscript?
  refine wpAny_bind (wpAny_specialOf hTs slice_no_index ?_)
  simp only [Option.isNone_none, if_true]
  refine wpAny_pure ?_
  show wpAny _ _ (typeOf (.ref sl) >>= _) _ _ s
  refine wpAny_bind (wpAny_typeOf hTs ?_)
  rw [if_neg (by decide)]
  rw [listSliceParts_eq]
  refine wpAny_bind (wpAny_bind (wpAny_field hos hds (x := .none) rfl (wpAny_bind (wpAny_listPart .none ?_))))
  rw [if_neg (by decide)]
  refine wpAny_bind (wpAny_field hos hds (x := .none) rfl (wpAny_bind (wpAny_listPart .none ?_)))
  refine wpAny_bind (wpAny_field hos hds (x := .none) rfl (wpAny_bind (wpAny_listPart .none (wpAny_pure ?_))))
  refine wpAny_bind (m := Builtin.List.listItems (.ref l)) ?_
  unfold Builtin.List.listItems
  refine wpAny_bind (wpAny_seqItems hl rfl (wpAny_pure ?_))
  refine wpAny_bind (wpAny_of_eq (sliceIndices_raw none none none items.size (by simp)) ?_)
  have e : sliceBounds none none none items.size = (((0 : Nat) : Int), (items.size : Int), 1) := by simp [sliceBounds]
  rw [e]
  refine wpAny_bind (wpAny_rule ?_)
  change wpAny _ _ (Builtin.List.listUpdate (.ref l) (jZ items.size) >>= _) _ _ s
  refine wpAny_bind (wpAny_updateSeq hl rfl ?_ hsz (Nat.le_succ_of_le (Nat.le_trans (cutAll_size _ _) hsz)))
  exact wpAny_bind (wpAny_letGo (wpAny_pure ⟨_, rfl, h⟩))
section
variable {w : World} {b0 : Heap} {Γ : Nat -> Option (Nat × r8)} {X : FX} {fr : List Addr} {σ c : Nat -> Addr} {s : Shared} {A : Around} {st : St} {n : Nat} {k : St -> Prop} {r : V -> List O -> Prop}
theorem rvs_set {h : Heap} {N : Addr -> Prop} {m : Nat} {v : V} {u : Value} (ru : Rv h N σ m v u) : ∀ {xs : List V} {us : List Value} (i : Nat), Rvs h N σ m xs us -> Rvs h N σ m (xs.set i v) (us.set i u)
 | [], _, _, r0 => by
  obtain rfl := r0.inv
  exact .nil
 | x :: xs, _, i, r0 => by
  obtain ⟨_, _, rfl, a, b⟩ := r0.inv
  cases i with
  | zero => exact .cons ru b
  | succ i => exact .cons a (rvs_set ru i b)
theorem s_delAll {x : PE} {e : Stmt} (IE : k7 w (q9 w) b0 Γ n) (g : Gd (q9 w) b0 X fr σ c st s) (hA : i9 A (n + 1)) (hw : wp G Γ (n + 1) (.s (.delAll x) st k r)) (ho : okS ⟨Kf w.params, X.sc, X.names⟩ (.delAll x) e = true) :
  wpAny (model pr w) A (exec e X.env) (z6 (q9 w) b0 X fr σ c st.led s k r) (fun _ _ => False) s := by
 refine inv_delAll ho fun t sp tp p h => ?_
 conv at hw => whnf
 refine wpAny_Delete (wpAny_deleteEach_cons ?_)
 rw [arm_delete_Subscript]
 refine wpAny_bind (one IE hw h g (hA.le (Nat.le_succ _)) fun h' tk σ' c' led' u uu x1 g1 ru hk => ?_)
 refine wpAny_bind (wpAny_holding (wpAny_Slice (wpAny_pure (wpAny_pure (wpAny_pure (wpAny_bind (wpAny_standAt (wpAny_bind (wpAny_holding ?_)))))))))
 refine own_e hk ru fun i hk ru => ?_
 refine ls_e hk fun xs hi hk => ?_
 obtain ⟨hz, hk⟩ := z7 hk
 rw [k8] at hk
 obtain ⟨g2, x2⟩ := gd_push (tk := tk) (o := { cls := .type "slice", data := .fields #[.none, .none, .none] }) g1
 obtain ⟨rfl, _⟩ := ru.inv
 obtain ⟨ei, vs, ep, gi, rs⟩ := g2.r.cell i _ hi
 have hl : vs.size = xs.length := by simpa using (u7 rs).symm
 rw [ei]
 have hsz : vs.size ≤ sizeLine := Nat.le_trans (rv_le rs hz) (by decide)
 refine delItem_meets (T := "list") ⟨_, gi, rfl⟩ (by decide) PySem.F.slot_list_delitem PySem.F.entry_list_delitem (PySem.F.args_list_delitem_2 _ _) (list_del_all (c' i) _ vs ep hsz) ⟨gi, Heap.IsSliceOf.new .., ?_⟩
 have gs := Heap.get?_update_self (Obj.mapSeq (jZ vs.size)) gi rfl
 have gs' : ((h'.push { cls := .type "slice", data := .fields #[.none, .none, .none] }).update (c' i) (Obj.mapSeq (jZ vs.size))).get? (c' i) = some ⟨.type "list", none, .seq #[] (if (jZ vs.size vs).size == vs.size then ep else ep + 1), #[]⟩ := by
  rw [← cutAll_nil vs]; exact gs
 obtain ⟨S, g3⟩ := wZ (tk := tk) (xs' := []) (h' := (h'.push { cls := .type "slice", data := .fields #[.none, .none, .none] }).update (c' i) (Obj.mapSeq (jZ vs.size))) g2 hi gs' (fun b hb => Heap.get?_update_ne _ _ _ _ hb) .nil
 show wpAny _ _ _ _ _ _
 refine wpAny_release (wpAny_deleteEach_nil ?_)
 exact nextS (st := ⟨st.loc, led'.set i (.list [])⟩) (lw ((x1.trans x2).trans S)) g3 hk
theorem s_setI {o i x : PE} {e : Stmt} (W : Wd w b0) (IE : k7 w (q9 w) b0 Γ n) (g : Gd (q9 w) b0 X fr σ c st s) (hA : i9 A (n + 1)) (hw : wp G Γ (n + 1) (.s (.setI o i x) st k r)) (ho : okS ⟨Kf w.params, X.sc, X.names⟩ (.setI o i x) e = true) :
  wpAny (model pr w) A (exec e X.env) (z6 (q9 w) b0 X fr σ c st.led s k r) (fun _ _ => False) s := by
 refine inv_setI ho fun t y tp v p h1 h2 h3 h4 => ?_
 conv at hw => whnf
 have hA' := hA.le (Nat.le_succ n)
 have h300 := room_300 hA (Nat.succ_pos _)
 refine wpAny_Assign_Subscript (one IE hw h4 g hA' fun h' tk σ' c' led' u uu x1 g1 ru hk1 => ?_) (swaps_no (l := 0) h1 _)
 refine one IE hk1 h2 g1 hA' fun h2' tk2 σ2 c2 led2 ov oo x2 g2 rov hk2 => ?_
 refine one IE hk2 h3 g2 hA' fun h3' tk3 σ3 c3 led3 jv jj x3 g3 rj hk => ?_
 have ru3 := Rv.step (fr := fr) (x2.trans x3) ru
 have ro3 := Rv.step (fr := fr) x3 rov
 refine own_e hk ro3 fun a hk ro3 => ?_
 obtain ⟨rfl, hlt3⟩ := ro3.inv
 refine ld_e hk (fun xs ha hk => ?_) (fun es ha hk => ?_)
 ·skip
  obtain ⟨ei, vs, ep, gi, rs⟩ := g3.r.cell a _ ha
  have hl : vs.size = xs.length := by simpa using (u7 rs).symm
  refine nat_e hk rj fun q hk rj => ?_
  obtain ⟨t', rfl⟩ := rj.inv
  ·skip
   obtain ⟨hq1, hk⟩ := gd_blt hk
   obtain ⟨hq2, hk⟩ := x8.mp hk
   rw [k8] at hk
   have := Nat.le_of_ble_eq_true hq2
   rw [ei]
   refine setItem_own' (j := q) gi (by omega) (lt63 this) rfl ?_
   have gs := Heap.get?_update_self (Obj.mapSeq (·.setIfInBounds q uu)) gi rfl
   obtain ⟨S, g4⟩ := wZ (tk := tk3) (xs' := xs.set q u) (h' := h3'.update (c3 a) (Obj.mapSeq (·.setIfInBounds q uu))) g3 ha gs (fun b hb => Heap.get?_update_ne _ _ _ _ hb) (by
    have := rvs_set ru3 q rs
    simpa using this)
   exact nextS (st := ⟨st.loc, _⟩) (lw (((x1.trans x2).trans x3).trans S)) g4 hk
 ·refine sv_e hk fun res hd hk => ?_
  ·obtain ⟨hz, hk⟩ := z7 hk
   rw [k8] at hk
   obtain ⟨d, hd1, hd2, D⟩ := uQ W g3 ro3 (DictV.own a es ha)
   cases hd1
   have hlv : cQ led3 a := ⟨_, ha, trivial⟩
   obtain ⟨ea, _⟩ := g3.r.cell a _ ha
   have D' := D
   refine setItem_ok D rj ru3 hd (Nat.lt_of_le_of_lt (Nat.add_le_add_left (by decide) _) h300) (Nat.le_trans hz (by decide)) fun h4 tk4 sb hD => ?_
   rw [ea] at sb
   have cN : NN fr c3 led3 (c3 a) := .inr ⟨a, hlv, rfl⟩
   have M0 : v4 h3' h4 (NN fr c3 led3) (NN fr c3 led3) := ⟨fun b o hn e => (sb.2 b fun z => hn (z ▸ cN)).trans e, fun _ _ _ q => q⟩
   obtain ⟨arr0, ep0, ga0, _⟩ := hD (NN fr c3 led3) σ3 led3.length fun v u q => Rv.mono M0 (Nat.le_refl _) (fun _ _ => rfl) q
   rw [ea] at ga0
   have S := y9.turn (D := fun _ => False) (σ := σ3) (o := .dict (u3 es jv u)) hlv sb.2 ⟨_, ga0⟩
   have Mo := S.mono (fr := fr) (fr' := fr) (fun _ q => q.elim) fun _ q => .inl q
   obtain ⟨arr, ep, ga, al, ko, nd⟩ := hD (NN fr c3 (led3.set a (.dict (u3 es jv u)))) σ3 led3.length fun v u q => Rv.mono Mo (Nat.le_refl _) (fun _ _ => rfl) q
   rw [ea] at ga
   have g4 : Gd (q9 w) b0 X fr σ3 c3 ⟨st.loc, led3.set a (.dict (u3 es jv u))⟩ { s with heap := h4, toks := tk4 } :=
    ⟨g.Xo, g.L, g3.r.turn hlv sb.2 ⟨_, ga0⟩ ⟨ea, arr, ep, ga, al, ko, nd⟩, g3.f.step g3.r g.L S⟩
   exact nextS (st := ⟨st.loc, _⟩) (lw (((x1.trans x2).trans x3).trans S)) g4 hk
end
end
noncomputable section
section
variable {hash : V -> Int} {b0 h h' : Heap} {fr : List Addr} {D : Addr -> Prop} {σ c σ' c' : Nat -> Addr} {led led' : List O}
theorem j0 {I : Addr} (he : Heap.ExtBut I h h') : v4 h h' (NN (I :: fr) c led) (NN fr c led) := ⟨fun a o hn e => he a o (fun z => hn (.inl (z ▸ .head _))) e, fun a o _ q => by
 rcases q with q | q
 ·exact .inl (.tail _ q)
 ·exact .inr q⟩
theorem R.leave {I : Addr} (r : R hash b0 (I :: fr) σ c led h) (he : Heap.ExtBut I h h') (hI : I ∉ fr) : R hash b0 fr σ c led h' where
 base a o e := by
  obtain ⟨e1, e2⟩ := r.base a o e
  exact ⟨he a o (fun z => e2 (.inl (z ▸ .head _))) e1, fun q => e2 (q.elim (fun q => .inl (.tail _ q)) .inr)⟩
 cell i o e := by
  by_cases l : liveO o
  ·obtain ⟨q, gq⟩ := (r.cell i o e).has l
   exact (r.cell i o e).mono (j0 he) (Nat.le_refl _) (fun _ _ => rfl) (by rw [gq]; exact he _ _ (fun z => r.frs i ⟨o, e, l⟩ (z ▸ .head _)) gq)
  ·cases o <;> first | exact absurd trivial l | exact trivial
 inj := r.inj
 frs i li q := r.frs i li (.tail _ q)
 flt a ha := let ⟨o, e⟩ := r.flt a (.tail _ ha); ⟨o, he a o (fun z => hI (z ▸ ha)) e⟩
theorem y9.thenExt {I : Addr} {h₀ : Heap} (x : y9 D σ c led h₀ σ' c' led' h) (he : Heap.ExtBut I h h') (hI : h₀.get? I = none) : y9 D σ c led h₀ σ' c' led' h' where
 keep a o e nc nd := he a o (fun z => by rw [z, hI] at e; cases e) (x.keep a o e nc nd)
 stay a o e := by
  obtain ⟨o', e'⟩ := x.stay a o e
  exact ⟨o', he a o' (fun z => by rw [z, hI] at e; cases e) e'⟩
 len := x.len
 same := x.same
 dead := x.dead
 new := x.new
theorem over_still {led led' : List O} {v : V} {u : Value} {k : ItK} {xs : List V} {p : Prop} (o : Over led v u k xs) (hs : still v xs led' p) : Over led' v u k xs ∧ p := by
 cases o with
 | tup => exact ⟨.tup _ _, hs⟩
 | lst => exact ⟨.lst _ _, hs⟩
 | own i l xs hi => exact ⟨.own i l xs hs.1, hs.2⟩
 | str => exact ⟨.str _ _, hs⟩
 | rng => exact ⟨.rng _ _, hs⟩
end
section
variable {w : World} {b0 : Heap} {Γ : Nat -> Option (Nat × r8)} {X : FX} {fr : List Addr} {σ c : Nat -> Addr} {s : Shared} {A : Around} {st : St} {n : Nat} {k : St -> Prop} {r : V -> List O -> Prop}
inductive PostL (hash : V -> Int) (b0 : Heap) (X : FX) (fr : List Addr) (h₀ : Heap) (σ c : Nat -> Addr) (led : List O) (s : Shared) (k : St -> Prop) (r : V -> List O -> Prop) (f : Flow) (s' : Shared) : Prop
 | mk (h' : Heap) (tk : Nat) (σ' c' : Nat -> Addr) (led' : List O) : s' = { s with heap := h', toks := tk } -> bZ X σ c led h₀ σ' c' led' h' -> R hash b0 fr σ' c' led' h' -> (match f with | .next => ∃ loc', b8 X h' (NN fr c' led') σ' led'.length loc' ∧ k ⟨loc', led'⟩ | .ret u => ∃ v, Rv h' (NN fr c' led') σ' led'.length v u ∧ r v led' | _ => False) -> PostL hash b0 X fr h₀ σ c led s k r f s'
inductive LoopI (hash : V -> Int) (b0 : Heap) (X : FX) (fr : List Addr) (I : Addr) (kk : ItK) (v : V) (u : Value) (xs : List V) (h₀ : Heap) (σ₀ c₀ : Nat -> Addr) (led₀ : List O) (s : Shared) (F : V -> St -> (St -> Prop) -> Prop) (k : St -> Prop) (m : Nat) (s' : Shared) : Prop
 | mk (i : Nat) (h' : Heap) (tk : Nat) (σ' c' : Nat -> Addr) (st' : St) : s' = { s with heap := h', toks := tk } -> bZ X σ₀ c₀ led₀ h₀ σ' c' st'.led h' -> Gd hash b0 X (I :: fr) σ' c' st' { s with heap := h', toks := tk } -> ItAt h' I kk i -> Over st'.led v u kk xs -> Rv h' (NN (I :: fr) c' st'.led) σ' st'.led.length v u -> i ≤ xs.length -> m = xs.length + 1 - i -> forL F (xs.drop i) st' k -> LoopI hash b0 X fr I kk v u xs h₀ σ₀ c₀ led₀ s F k m s'
theorem for_run {target : PySem.Expr} {body : List Stmt} {I : Addr} {kk : ItK} {v : V} {u : Value} {xs : List V} {F : V -> St -> (St -> Prop) -> Prop} {h₀ : Heap} {σ₀ c₀ : Nat -> Addr} {led₀ : List O} (hh : A.handled = none) (hnone : h₀.get? I = none) (x0 : bZ X σ₀ c₀ led₀ h₀ σ c st.led s.heap)
  (g : Gd (q9 w) b0 X (I :: fr) σ c st s) (hI : I ∉ fr) (hIL : I ≠ X.env.locals) (hit : ItAt s.heap I kk 0) (ho : Over st.led v u kk xs) (ru : Rv s.heap (NN (I :: fr) c st.led) σ st.led.length v u) (hF : forL F xs st k)
  (turn : ∀ (x : V) (xv : Value) (i : Nat) (st : St) (s : Shared) (σ c : Nat -> Addr) (kk' : St -> Prop), F x st kk' -> Gd (q9 w) b0 X (I :: fr) σ c st s -> Rv s.heap (NN (I :: fr) c st.led) σ st.led.length x xv -> ItAt s.heap I kk i ->
   wpAny (model pr w) A (letOwnedTupleGo target (.ref I) xv) (fun _ s₁ => wpAny (model pr w) A (assign target X.env xv) (fun _ s₂ => wpAny (model pr w) A (execs body X.env) (z6 (q9 w) b0 X (I :: fr) σ c st.led s (fun st => still v xs st.led (kk' st)) r) (fun _ _ => False) s₂) (fun _ _ => False) s₁) (fun _ _ => False) s) :
  codeAny (model pr w) A (.forLoop target (.ref I) body [] X.env) (fun q s' => match q with | .ok f => PostL (q9 w) b0 X fr h₀ σ₀ c₀ led₀ s k r f s' | .error _ => False) s := by
 refine codeAny_forLoop_any (LoopI (q9 w) b0 X fr I kk v u xs h₀ σ₀ c₀ led₀ s F k) ?_ (xs.length + 1)
  ⟨0, s.heap, s.toks, σ, c, st, rfl, x0, g, hit, ho, ru, Nat.zero_le _, rfl, hF⟩
 rintro m s' ⟨i, h', tk, σ', c', st', rfl, x1, g1, it1, o1, ru1, hi, rfl, hF1⟩
 have sq := seqIn_of g1.r ru1 o1
 rcases Nat.lt_or_ge i xs.length with hlt | hge
 ·have hx : xs[i]? = some xs[i] := List.getElem?_eq_getElem hlt
  refine next_item (s := { s with heap := h', toks := tk }) it1 sq hx fun xv h2 t2 rx it2 sb => ?_
  have hIs := itAt_some it2
  have S : y9 (fun a => a = I ∨ a = X.env.locals) σ' c' st'.led h' σ' c' st'.led h2 := (y9.frame sb hIs).weaken fun a q => .inl q
  have S' : y9 (fun a => a = I) σ' c' st'.led h' σ' c' st'.led h2 := y9.frame sb hIs
  have Mo : v4 h' h2 (NN (I :: fr) c' st'.led) (NN (I :: fr) c' st'.led) := S'.mono (fun a q => q ▸ .head _) fun _ q => .inl q
  have g2 : Gd (q9 w) b0 X (I :: fr) σ' c' st' { s with heap := h2, toks := t2 } :=
   ⟨g1.Xo, g1.L, g1.r.frame (.head _) sb hIs, g1.f.mono Mo (Nat.le_refl _) (fun _ _ => rfl) fun o e => (sb.2 _ (Ne.symm hIL)).trans e⟩
  rw [List.drop_eq_getElem_cons hlt] at hF1
  have hF2 : F xs[i] st' (fun st => forL F (xs.drop (i + 1)) st k) := hF1
  refine wpAny_mono (turn xs[i] xv (i + 1) st' _ σ' c' _ hF2 g2 (Rv.mono Mo (Nat.le_refl _) (fun _ _ => rfl) rx) it2) (fun _ s₁ q => ?_) fun _ _ q => q.elim
  refine wpAny_mono q (fun _ s₂ q => wpAny_mono q (fun f s₃ q => ?_) fun _ _ q => q.elim) fun _ _ q => q.elim
  obtain ⟨h3, t3, σ3, c3, led3, rfl, x3, r3, q⟩ := q
  have x2 : bZ X σ₀ c₀ led₀ h₀ σ' c' st'.led h2 := y9.fresh (D := fun a => a = X.env.locals) hnone ((x1.weaken fun a q => .inr q).trans S)
  have x4 := x2.trans x3
  have Mo3 : v4 h2 h3 (NN (I :: fr) c' st'.led) (NN (I :: fr) c3 led3) := x3.mono (fun a q => q ▸ g1.L) fun _ q => .inl q
  cases f with
  | next =>
   obtain ⟨loc3, f3, hk3⟩ := q
   obtain ⟨o3, hF3⟩ := over_still o1 hk3
   have it3 : ItAt h3 I kk (i + 1) := itAt_at it2 fun o e => x3.keep _ _ e (fun ⟨j, lj, ej⟩ => g2.r.frs j lj (ej ▸ .head _)) hIL
   exact ⟨xs.length + 1 - (i + 1), lt1 hlt, i + 1, h3, t3, σ3, c3, ⟨loc3, led3⟩, rfl, x4, ⟨g1.Xo, g1.L, r3, f3⟩, it3, o3,
    Rv.mono Mo3 x3.len (fun j hj => (x3.same j hj).1) (Rv.mono Mo (Nat.le_refl _) (fun _ _ => rfl) ru1), hlt, rfl, hF3⟩
  | ret uu =>
   obtain ⟨v', rv, hk⟩ := q
   exact ⟨h3, t3, σ3, c3, led3, rfl, x4, r3.narrow, v', rv.narrow, hk⟩
  | brk => exact q.elim
  | cont => exact q.elim
 ·have hin : i = xs.length := Nat.le_antisymm hi hge
  refine next_end (s := { s with heap := h', toks := tk }) hh it1 sq hin fun h2 he => wpAny_execs_nil ?_
  subst hin
  rw [List.drop_length] at hF1
  exact ⟨h2, tk, σ', c', st'.led, rfl, x1.thenExt he hnone, g1.r.leave he hI, st'.loc, g1.f.mono (j0 he) (Nat.le_refl _) (fun _ _ => rfl) (fun o e => he _ o (Ne.symm hIL) e), hF1⟩
theorem it_fresh {I : Addr} (g : Gd (q9 w) b0 X fr σ c st s) (h : s.heap.get? I = none) : I ∉ fr ∧ I ≠ X.env.locals :=
 have hI : I ∉ fr := fun q => by
  obtain ⟨o, e⟩ := g.r.flt _ q
  rw [h] at e; cases e
 ⟨hI, fun e => hI (e ▸ g.L)⟩
theorem s_for {i : Nat} {x : PE} {b : List PS} {e : Stmt} (II : SndIt w (q9 w) b0 Γ n) (IB : SndB w (q9 w) b0 Γ n) (g : Gd (q9 w) b0 X fr σ c st s) (hA : i9 A (n + 1)) (hw : wp G Γ (n + 1) (.s (.for_ i x b) st k r)) (ho : okS ⟨Kf w.params, X.sc, X.names⟩ (.for_ i x b) e = true) :
  wpAny (model pr w) A (exec e X.env) (z6 (q9 w) b0 X fr σ c st.led s k r) (fun _ _ => False) s := by
 refine inv_for ho fun y yp v p l h1 h2 h3 h4 => ?_
 conv at hw => whnf
 have hA' := hA.le (Nat.le_succ n)
 refine wpAny_For (wpAny_mono (II x st _ v X A s fr σ c hw h3 g hA') (fun _ s₁ q => wpAny_mono q (fun it s₂ q => ?_) fun _ _ q => q) fun _ _ q => q) (set_no h2)
 obtain ⟨I, h', tk, σ', c', led', v', u, kk, xs, rfl, rfl, hn, x1, g1, it1, o1, ru, hF⟩ := q
 obtain ⟨hI, hIL⟩ := it_fresh g hn
 refine codeAny_mono (for_run (r := r) hA.quiet hn (lw x1) g1 hI hIL it1 o1 ru hF fun x xv j st2 s2 σ2 c2 kk' hF2 g2 rx it2 => ?_) fun q s' hq => ?_
 ·show wpAny _ _ (pure ()) _ _ _
  refine wpAny_pure (PySem.wpAny_assign_Name (store_ok g2 h1 rx fun h3' t3 S g3 => ?_))
  rw [k8] at hF2
  exact wpAny_mono (IB b _ _ r p X A _ (I :: fr) σ2 c2 hF2 h4 g3 hA') (fun _ _ q => xQ (st := st2) S q) fun _ _ q => q
 ·cases q with
  | error => exact hq.elim
  | ok f =>
   obtain ⟨h2', t2, σ2, c2, led2, rfl, y1, y2, y3⟩ := hq
   exact ⟨h2', t2, σ2, c2, led2, rfl, y1, y2, y3⟩
theorem let_tuple {ts : List PySem.Expr} {kk'} {tp : Pos} {I : Addr} {kk : ItK} {i : Nat} {xv : Value} {Q : Unit -> Shared -> Prop} {E : Value -> Shared -> Prop} (it : ItAt s.heap I kk i) (h : Q () s) : wpAny (model pr w) A (letOwnedTupleGo (.Tuple ts kk' tp) (.ref I) xv) Q E s := by
 unfold letOwnedTupleGo
 cases xv <;> try exact wpAny_pure h
 have ld : ∀ {o : Obj} {nm : String} {vs : Array Value}, s.heap.get? I = some o -> o.cls = .type nm -> o.data = .fields vs -> (["enumerate", "zip", "dict_itemiterator", "dict_reverseitemiterator", "odict_iterator", "itertools.zip_longest", "itertools.pairwise"].contains nm) = false ->
   ∀ (a : Addr), wpAny (model pr w) A (load I >>= fun o => match o.cls, o.data with
    | .type n, .fields vs => if (["enumerate", "zip", "dict_itemiterator", "dict_reverseitemiterator", "odict_iterator", "itertools.zip_longest", "itertools.pairwise"].contains n && vs[0]? == some (rawInt a)) = true then (do rule "for.unpacks-the-owned-tuple"; updateField I 0 .none) else pure ()
    | _, _ => pure ()) Q E s := by
  intro o nm vs h1 h2 h3 h4 a
  refine wpAny_bind (wpAny_load h1 ?_)
  rw [h2, h3]
  simp only [h4, Bool.false_and]
  exact wpAny_pure h
 cases kk with
 | tup t => obtain ⟨o, h1, h2, h3⟩ := it; exact ld h1 h2 h3 (by decide) _
 | lst l => obtain ⟨o, h1, h2, h3⟩ := it; exact ld h1 h2 h3 (by decide) _
 | str x t =>
  obtain ⟨o, h1, h2, h3⟩ := it
  exact ld h1 h2 h3 (by unfold strIterType; split <;> decide) _
 | rng a m => exact ld it rfl rfl (by decide) _
theorem s_forT {is : List Nat} {x : PE} {b : List PS} {e : Stmt} (II : SndIt w (q9 w) b0 Γ n) (IB : SndB w (q9 w) b0 Γ n) (g : Gd (q9 w) b0 X fr σ c st s) (hA : i9 A (n + 1)) (hw : wp G Γ (n + 1) (.s (.forT is x b) st k r)) (ho : okS ⟨Kf w.params, X.sc, X.names⟩ (.forT is x b) e = true) :
  wpAny (model pr w) A (exec e X.env) (z6 (q9 w) b0 X fr σ c st.led s k r) (fun _ _ => False) s := by
 refine inv_forT ho fun ts kt tp v p l h1 h2 h3 h4 => ?_
 conv at hw => whnf
 have hA' := hA.le (Nat.le_succ n)
 refine wpAny_For (wpAny_mono (II x st _ v X A s fr σ c hw h3 g hA') (fun _ s₁ q => wpAny_mono q (fun it s₂ q => ?_) fun _ _ q => q) fun _ _ q => q) (set_no h2)
 obtain ⟨I, h', tk, σ', c', led', v', u, kk, xs, rfl, rfl, hn, x1, g1, it1, o1, ru, hF⟩ := q
 obtain ⟨hI, hIL⟩ := it_fresh g hn
 refine codeAny_mono (for_run (r := r) hA.quiet hn (lw x1) g1 hI hIL it1 o1 ru hF fun x xv j st2 s2 σ2 c2 kk' hF2 g2 rx it2 => ?_) fun q s' hq => ?_
 ·refine let_tuple it2 ?_
  split at hF2
  ·exact unpackT_ok hA.quiet h1 g2 rx hF2 fun h3' t3 loc3 S g3 hk => wpAny_mono (IB b _ _ r p X A _ (I :: fr) σ2 c2 hk h4 g3 hA') (fun _ _ q => xQ (st := st2) S q) fun _ _ q => q
  ·exact hF2.elim
 ·cases q with
  | error => exact hq.elim
  | ok f =>
   obtain ⟨h2', t2, σ2, c2, led2, rfl, y1, y2, y3⟩ := hq
   exact ⟨h2', t2, σ2, c2, led2, rfl, y1, y2, y3⟩
end
end
noncomputable section
theorem lookup_map {f : Str -> NameKind -> NameKind} {y : Str} : ∀ {l : List (Str × NameKind)}, (l.map fun p => (p.1, f p.1 p.2)).lookup y = (l.lookup y).map (f y)
 | [] => rfl
 | (a, k) :: r => by
  rw [List.map_cons, List.lookup_cons, List.lookup_cons]
  cases h : y == a with
  | true => rw [beq_iff_eq] at h; subst h; rfl
  | false => exact lookup_map
theorem relabel_lookup {scope : Scope} {env : Env} {y : Str} : (relabel scope env).names.lookup y = (scope.names.lookup y).map fun k => if (k == .free && env.scope.kind == .function && env.kindOf y == some .cell) = true then .cell else k := by
 have e : (relabel scope env).names = scope.names.map fun p => (p.1, if (p.2 == .free && env.scope.kind == .function && env.kindOf p.1 == some .cell) = true then .cell else p.2) := by
  unfold relabel
  simp only
  apply List.map_congr_left
  rintro ⟨n, k⟩ _
  simp only
  split <;> rfl
 rw [e]
 exact lookup_map (f := fun n k => if (k == .free && env.scope.kind == .function && env.kindOf n == some .cell) = true then .cell else k)
structure CompOk (T : Tx) (caps : List Nat) (x : Str) (sc : Scope) : Prop where
 tab : ∃ r, sc.names = ((".0" : Str), NameKind.local) :: (x, .local) :: r ∧ (∀ p ∈ r, p.2 = .free ∨ p.2 = .globalImplicit) ∧ capsAre T caps ((r.filter isFree).map (·.1)) = true ∧ (((".0" : Str) :: x :: r.map (·.1))).Nodup
 kind : sc.kind = .function
theorem compTab_ok {T : Tx} {caps : List Nat} {x : Str} {sc : Scope} (h : compTab T caps x sc = true) : CompOk T caps x sc := by
 obtain ⟨h1, h2⟩ := Bool.and_eq_true_iff.mp h
 refine ⟨?_, of_decide_eq_true h2⟩
 obtain ⟨⟨⟨d0, k1⟩, ⟨y, k2⟩, r⟩, hn, h1⟩ := o8 h1
 simp only [Bool.and_eq_true, decide_eq_true_eq] at h1
 obtain ⟨⟨⟨⟨⟨⟨rfl, rfl⟩, a1⟩, a2⟩, a4⟩, a5⟩, a6⟩ := h1
 obtain rfl := qQ a1
 obtain rfl := qQ a2
 exact ⟨r, hn, fun p hp => (Bool.or_eq_true_iff.mp (List.all_eq_true.mp a4 p hp)).imp of_decide_eq_true of_decide_eq_true, a5, a6⟩
theorem caps_at {T : Tx} : ∀ {caps : List Nat} {ys : List Str} {j : Nat} {y : Str}, capsAre T caps ys = true -> ys[j]? = some y -> ∃ i, caps[j]? = some i ∧ getL T.names i = some y ∧ T.sc.names.lookup y = some .cell
 | [], [], j, y, _, h => by simp at h
 | [], _ :: _, _, _, h, _ => by exact (Bool.false_ne_true h).elim
 | _ :: _, [], _, _, h, _ => by exact (Bool.false_ne_true h).elim
 | i :: is, z :: zs, j, y, h, hy => by
  obtain ⟨h12, h3⟩ := Bool.and_eq_true_iff.mp h
  obtain ⟨h1, h2⟩ := Bool.and_eq_true_iff.mp h12
  cases j with
  | zero =>
   obtain rfl := Option.some.inj hy
   obtain ⟨y', hy', h1⟩ := okO_iff h1
   exact ⟨i, rfl, by rw [hy', qQ h1], of_decide_eq_true h2⟩
  | succ j =>
   obtain ⟨i', a, b, c⟩ := caps_at h3 (by simpa using hy)
   exact ⟨i', by simpa using a, b, c⟩
theorem capsOf_at : ∀ {loc : List (Option V)} {caps : List Nat} {j : Nat} {v : V}, getL (g0 loc caps) j = some (some v) -> ∃ i, caps[j]? = some i ∧ getL loc i = some (some v)
 | _, [], j, v, h => by simp [g0, getL] at h
 | loc, i :: r, 0, v, h => by
  simp only [g0, getL] at h
  refine ⟨i, rfl, ?_⟩
  cases e : getL loc i with
  | none => rw [e] at h; simp at h
  | some o => rw [e] at h; simp at h; rw [h]
 | loc, i :: r, j + 1, v, h => by
  obtain ⟨i', a, b⟩ := capsOf_at (loc := loc) (caps := r) (j := j) (v := v) (by simpa only [g0, getL] using h)
  exact ⟨i', by simpa using a, b⟩
theorem closure_loop {env : Env} : ∀ (names : List (Str × NameKind)) (acc : List (Str × Addr)), (∀ p ∈ names, p.2 = .free -> (env.cells.lookup p.1).isSome = true) -> (∀ q ∈ acc, env.cells.lookup q.1 = some q.2) ->
  ∃ cl, (forIn names acc fun p cs => if (p.2 == .free) = true then (do let a ← cellOf env p.1; pure (ForInStep.yield ((p.1, a) :: cs))) else (pure (ForInStep.yield cs) : Sem _)) = pure cl ∧ (∀ q ∈ cl, env.cells.lookup q.1 = some q.2) ∧
   (∀ q ∈ acc, q ∈ cl) ∧ ∀ p ∈ names, p.2 = .free -> ∃ a, (p.1, a) ∈ cl
 | [], acc, _, h2 => ⟨acc, rfl, h2, fun _ q => q, by simp⟩
 | (n, k) :: r, acc, h1, h2 => by
  rw [List.forIn_cons]
  by_cases hk : k = .free
  ·subst hk
   obtain ⟨a, ha⟩ := Option.isSome_iff_exists.mp (h1 _ (.head _) rfl)
   obtain ⟨cl, e, g1, g2, g3⟩ := closure_loop r ((n, a) :: acc) (fun p hp => h1 p (.tail _ hp)) (fun q hq => by
    rcases List.mem_cons.mp hq with rfl | hq
    ·exact ha
    ·exact h2 q hq)
   refine ⟨cl, ?_, g1, fun q hq => g2 q (.tail _ hq), fun p hp hf => ?_⟩
   ·have hc : cellOf env n = pure a := by unfold cellOf; simp only [ha]
    simp only [hc, pure_bind]
    exact e
   ·rcases List.mem_cons.mp hp with rfl | hp
    ·exact ⟨a, g2 _ (.head _)⟩
    ·exact g3 p hp hf
  ·obtain ⟨cl, e, g1, g2, g3⟩ := closure_loop r acc (fun p hp => h1 p (.tail _ hp)) h2
   refine ⟨cl, ?_, g1, g2, fun p hp hf => ?_⟩
   ·have hk' : (k == NameKind.free) = false := by cases k <;> first | rfl | exact absurd rfl hk
    simp only [hk', Bool.false_eq_true, if_false, pure_bind]
    exact e
   ·rcases List.mem_cons.mp hp with rfl | hp
    ·exact absurd hf hk
    ·exact g3 p hp hf
theorem closure_ok {scope : Scope} {env : Env} (h : ∀ p ∈ scope.names, p.2 = .free -> (env.cells.lookup p.1).isSome = true) :
  ∃ cl, closureFor scope env = pure cl ∧ (∀ y a, cl.lookup y = some a -> env.cells.lookup y = some a) ∧ ∀ p ∈ scope.names, p.2 = .free -> (cl.lookup p.1).isSome = true := by
 obtain ⟨cl, e, g1, _, g3⟩ := closure_loop (env := env) scope.names [] h (by simp)
 refine ⟨cl, ?_, fun y a hy => g1 _ (mem_of_lookup hy), fun p hp hf => ?_⟩
 ·have e2 : closureFor scope env = ((forIn scope.names [] fun p cs => if (p.2 == .free) = true then (do let a ← cellOf env p.1; pure (ForInStep.yield ((p.1, a) :: cs))) else (pure (ForInStep.yield cs) : Sem _)) >>= fun cs => pure cs) := rfl
  rw [e2, e]; rfl
 ·obtain ⟨a, ha⟩ := g3 p hp hf
  cases q : cl.lookup p.1 with
  | some => rfl
  | none =>
   exfalso
   have : ∀ {l : List (Str × Addr)}, (p.1, a) ∈ l -> l.lookup p.1 ≠ none := by
    intro l
    induction l with
    | nil => intro h; cases h
    | cons z r ih =>
     intro hm
     rw [List.lookup_cons]
     split
     ·simp
     ·rename_i hz
      rcases List.mem_cons.mp hm with rfl | hm
      ·simp at hz
      ·exact ih hm
   exact this ha q
section
variable {hash : V -> Int} {b0 h h' : Heap} {fr fr' : List Addr} {D : Addr -> Prop} {σ c σ' c' : Nat -> Addr} {led led' : List O}
theorem mono_sub (hs : ∀ a ∈ fr', a ∈ fr) : v4 h h (NN fr c led) (NN fr' c led) := ⟨fun _ _ _ e => e, fun a o _ q => by
 rcases q with q | q
 ·exact .inl (hs a q)
 ·exact .inr q⟩
theorem R.sub (r : R hash b0 fr σ c led h) (hs : ∀ a ∈ fr', a ∈ fr) : R hash b0 fr' σ c led h :=
 r.step (D := fun _ => False) y9.refl (fun _ q => q.elim) (fun a ha => .inl (hs a ha)) (fun i o e => .inl ⟨e, rfl⟩) (fun i j hi li _ _ => absurd (u8 li) (Nat.not_lt.mpr hi)) (fun i hi li => absurd (u8 li) (Nat.not_lt.mpr hi))
  (fun a ha hn => absurd (hs a ha) hn) fun a ha => r.flt a (hs a ha)
end
section
variable {w : World} {A : Around} {E : Value -> Shared -> Prop} {s : Shared}
theorem iter_self {I : Addr} {kk : ItK} {i : Nat} {Q : Value -> Shared -> Prop} (it : ItAt s.heap I kk i) (h : Q (.ref I) s) : wpAny (model pr w) A (pyIter (.ref I)) Q E s := by
 cases kk with
 | tup t => exact wpAny_pyIter_tupleiter (show s.heap.IsTupleIter I t i from it) h
 | lst l => exact wpAny_pyIter_listiter it h
 | str y t =>
  cases ha : y.cps.all (· < 128) with
  | true =>
   have e : strIterType y = "str_ascii_iterator" := by unfold strIterType; rw [if_pos ha]
   have it' : s.heap.IsStrIter I (strIterType y) y t i := it
   rw [e] at it'
   exact wpAny_pyIter_striter_ascii it' h
  | false =>
   have e : strIterType y = "str_iterator" := by unfold strIterType; rw [if_neg (by simp [ha])]
   have it' : s.heap.IsStrIter I (strIterType y) y t i := it
   rw [e] at it'
   exact wpAny_pyIter_striter_wide it' h
 | rng a m => exact wpAny_pyIter_rangeiter it h
end
end
noncomputable section
theorem caps_at' {T : Tx} : ∀ {caps : List Nat} {ys : List Str} {j i : Nat}, capsAre T caps ys = true -> caps[j]? = some i -> ∃ y, ys[j]? = some y ∧ getL T.names i = some y ∧ T.sc.names.lookup y = some .cell
 | [], _, j, i, _, h => by simp at h
 | _ :: _, [], _, _, h, _ => by exact (Bool.false_ne_true h).elim
 | i :: is, z :: zs, j, i', h, hy => by
  have h3 := (Bool.and_eq_true_iff.mp h).2
  cases j with
  | zero =>
   obtain ⟨i2, a, b, c⟩ := caps_at (j := 0) (y := z) h rfl
   obtain rfl := Option.some.inj hy
   obtain rfl := Option.some.inj a
   exact ⟨z, rfl, b, c⟩
  | succ j =>
   obtain ⟨y, a, b, c⟩ := caps_at' h3 (by simpa using hy)
   exact ⟨y, by simpa using a, b, c⟩
theorem lookup_nd : ∀ {l : List (Str × NameKind)}, (l.map (·.1)).Nodup -> ∀ {p : Str × NameKind}, p ∈ l -> l.lookup p.1 = some p.2
 | [], _, p, h => by cases h
 | q :: r, hn, p, h => by
  rw [List.map_cons, List.nodup_cons] at hn
  rw [List.lookup_cons]
  rcases List.mem_cons.mp h with rfl | h
  ·simp
  ·have : (p.1 == q.1) = false := by
    rw [beq_eq_false_iff_ne]
    exact fun e => hn.1 (e ▸ List.mem_map_of_mem h)
   rw [this]
   exact lookup_nd hn.2 h
noncomputable def compX (X : FX) (sc : Scope) (cl : List (Str × Addr)) (C : Addr) (x : Str) : FX := ⟨compEnvC sc cl C X.env, sc, w7 x sc⟩
section
variable {w : World} {b0 : Heap} {Γ : Nat -> Option (Nat × r8)} {X : FX} {fr : List Addr} {σ c : Nat -> Addr} {s : Shared} {A : Around} {st : St} {n : Nat} {K : Frag} {caps : List Nat} {x : Str} {sc : Scope} {cl : List (Str × Addr)} {C : Addr}
structure CompN (T : Tx) (caps : List Nat) (x : Str) (sc : Scope) (ys : List Str) : Prop where
 e : w7 x sc = x :: ys
 hc : capsAre T caps ys = true
 nd : (x :: ys).Nodup
 hx : sc.names.lookup x = some .local
 hfree : ∀ y ∈ ys, sc.names.lookup y = some .free
 hkd : ∀ y k, sc.names.lookup y = some k -> k = .local ∨ k = .free ∨ k = .globalImplicit
 hfs : ∀ p ∈ sc.names, p.2 = .free -> p.1 ∈ ys
 hloc : ∀ p ∈ sc.names, p.2 = .local -> sc.names.lookup p.1 = some .local
 hnc : ∀ p ∈ sc.names, p.2 ≠ .cell
theorem j4 (co : CompOk ⟨K, X.sc, X.names⟩ caps x sc) : ∃ ys, CompN ⟨K, X.sc, X.names⟩ caps x sc ys := by
 obtain ⟨r, hn, hr, hc, nd⟩ := co.tab
 have hf : sc.names.filter isFree = r.filter isFree := by
  rw [hn]; rfl
 have nd' : (sc.names.map (·.1)).Nodup := by rw [hn]; exact nd
 have lk : ∀ p ∈ sc.names, sc.names.lookup p.1 = some p.2 := fun p hp => lookup_nd nd' hp
 have kd : ∀ p ∈ sc.names, p.2 = .local ∨ p.2 = .free ∨ p.2 = .globalImplicit := by
  intro p hp
  rw [hn] at hp
  rcases List.mem_cons.mp hp with rfl | hp
  ·exact .inl rfl
  ·rcases List.mem_cons.mp hp with rfl | hp
   ·exact .inl rfl
   ·rcases hr p hp with q | q
    ·exact .inr (.inl q)
    ·exact .inr (.inr q)
 refine ⟨(r.filter isFree).map (·.1), by unfold w7; rw [hf], hc, ?_, lk (x, .local) (by rw [hn]; simp), fun y hy => ?_, fun y k hk => kd (y, k) (mem_of_lookup hk), fun p hp hpf => ?_, fun p hp hl => by rw [lk p hp, hl], fun p hp hc' => ?_⟩
 ·have h2 := (List.nodup_cons.mp nd).2
  exact h2.sublist ((List.Sublist.map _ List.filter_sublist).cons₂ _)
 ·obtain ⟨p, hp, rfl⟩ := List.mem_map.mp hy
  have hp1 := List.mem_filter.mp hp
  have : p.2 = .free := by
   exact of_decide_eq_true hp1.2
  rw [← this]
  exact lk p (by rw [hn]; exact .tail _ (.tail _ hp1.1))
 ·rw [← hf]
  exact List.mem_map_of_mem (List.mem_filter.mpr ⟨hp, decide_eq_true hpf⟩)
 ·rcases kd p hp with q | q | q <;> rw [q] at hc' <;> cases hc'
theorem compX_ok (Xo : FXok X) (co : CompOk ⟨K, X.sc, X.names⟩ caps x sc) : FXok (compX X sc cl C x) := by
 obtain ⟨ys, e, hc, nd, hx, hfree, hkd, _, _, _⟩ := j4 co
 have rl : ∀ y, (compEnvC sc cl C X.env).kindOf y = (sc.names.lookup y).map fun k => if (k == .free && X.env.scope.kind == .function && X.env.kindOf y == some .cell) = true then .cell else k := fun y => relabel_lookup
 exact {
  kind := co.kind
  globals := Xo.globals
  builtins := Xo.builtins
  slot := fun i y hy => by
   have hy' : getL (w7 x sc) i = some y := hy
   rw [e] at hy'
   cases i with
   | zero =>
    simp only [getL] at hy'
    cases hy'
    left
    show (compEnvC sc cl C X.env).kindOf _ = _
    rw [rl, hx]; rfl
   | succ i =>
    right
    simp only [getL] at hy'
    rw [p9] at hy'
    obtain ⟨i', _, h2, h3⟩ := caps_at hc hy'
    have hk := Xo.celk y h3
    show (compEnvC sc cl C X.env).kindOf _ = _
    rw [rl, hfree y (List.mem_of_getElem? hy'), Option.map_some, Xo.kind, hk]; rfl
  glob := fun y hy => by
   have hy' : sc.names.lookup y = some .globalImplicit := hy
   show (compEnvC sc cl C X.env).kindOf _ = _
   rw [rl, hy']; rfl
  locl := fun y hy => by
   have hy' : sc.names.lookup y = some .local := hy
   show (compEnvC sc cl C X.env).kindOf _ = _
   rw [rl, hy']; rfl
  celk := fun y hy => by
   rcases hkd y _ hy with q | q | q <;> cases q
  cel := fun y hy => by
   rcases hkd y _ hy with q | q | q <;> cases q
  nodup := fun i j y hi hj => by
   have hi' : getL (w7 x sc) i = some y := hi
   have hj' : getL (w7 x sc) j = some y := hj
   rw [e, p9] at hi' hj'
   obtain ⟨h1, e1⟩ := List.getElem?_eq_some_iff.mp hi'
   obtain ⟨h2, e2⟩ := List.getElem?_eq_some_iff.mp hj'
   exact (List.getElem_inj nd).mp (e1.trans e2.symm) }
theorem comp_frame {h : Heap} {N : Addr -> Prop} {m : Str -> Option Value} {loc : List (Option V)} {v : V} {u : Value} {n' : Nat} (Xo : FXok X) (co : CompOk ⟨K, X.sc, X.names⟩ caps x sc) (hcl : ∀ y a, cl.lookup y = some a -> X.env.cells.lookup y = some a) (hcs : ∀ p ∈ sc.names, p.2 = .free -> (cl.lookup p.1).isSome = true)
  (f : b8 X h N σ n' loc) (hm : h.Ns C m) (hx : m x = some u) (rv : Rv h N σ n' v u) : b8 (compX X sc cl C x) h N σ n' (some v :: g0 loc caps) := by
 obtain ⟨ys, cn⟩ := j4 co
 have e := cn.e
 have hc := cn.hc
 have hfree := cn.hfree
 have Xo' := compX_ok (cl := cl) (C := C) Xo co
 refine ⟨m, hm, fun i z hz => ?_⟩
 cases i with
 | zero =>
  simp only [getL] at hz
  cases hz
  exact ⟨x, by show getL (w7 x sc) 0 = _; rw [e]; rfl, .inl ⟨Xo'.locl x cn.hx, u, hx, rv⟩⟩
 | succ j =>
  simp only [getL] at hz
  obtain ⟨i, h1, h2⟩ := capsOf_at hz
  obtain ⟨y, h3, h4, h5⟩ := caps_at' hc h1
  obtain ⟨m0, _, hl⟩ := f
  obtain ⟨y', hy', l⟩ := hl i z h2
  have hyy : y' = y := by
   have : getL X.names i = some y := h4
   rw [this] at hy'
   exact (Option.some.inj hy').symm
  subst hyy
  have hk := Xo.celk y' h5
  have hn : getL (w7 x sc) (j + 1) = some y' := by rw [e, p9]; simpa using h3
  refine ⟨y', hn, .inr ?_⟩
  rcases l with ⟨q, _⟩ | ⟨_, ca, uu, a1, a2, a3, a4⟩
  ·rw [hk] at q; cases q
  ·have hy2 := hfree y' (List.mem_of_getElem? h3)
   refine ⟨?_, ca, uu, ?_, a2, a3, a4⟩
   ·rcases Xo'.slot (j + 1) y' hn with q | q
    ·exfalso
     have rl : (compEnvC sc cl C X.env).kindOf y' = (sc.names.lookup y').map fun k => if (k == .free && X.env.scope.kind == .function && X.env.kindOf y' == some .cell) = true then .cell else k := relabel_lookup
     have q' : (compEnvC sc cl C X.env).kindOf y' = some .local := q
     rw [rl, hy2, Option.map_some, Xo.kind, hk] at q'
     cases q'
    ·exact q
   ·have := hcs (y', .free) (mem_of_lookup hy2) rfl
    obtain ⟨a, ha⟩ := Option.isSome_iff_exists.mp this
    have := hcl y' a ha
    rw [a1] at this
    cases this
    exact ha
inductive CompI (hash : V -> Int) (b0 : Heap) (X : FX) (fr : List Addr) (C I : Addr) (kk : ItK) (v : V) (u : Value) (xs : List V) (h₀ : Heap) (σ₀ c₀ : Nat -> Addr) (led₀ : List O) (s : Shared) (st : St) (F : V -> St -> (St -> Prop) -> Prop) (k : V -> St -> Prop) (m : Nat) (s' : Shared) : Prop
 | mk (j : Nat) (h' : Heap) (tk : Nat) (σ' c' : Nat -> Addr) (led' : List O) (mm : Str -> Option Value) : s' = { s with heap := h', toks := tk } -> y9 (fun _ => False) σ₀ c₀ led₀ h₀ σ' c' led' h' -> Gd hash b0 X fr σ' c' ⟨st.loc, led'⟩ { s with heap := h', toks := tk } -> h'.Ns C mm -> ItAt h' I kk j -> Over led' v u kk xs -> Rv h' (NN fr c' led') σ' led'.length v u -> j ≤ xs.length -> m = xs.length + 1 - j ->
   forL F (xs.drop j) ⟨st.loc, led'⟩ (fun st' => k (.own st.led.length) st') -> st.led.length < led'.length -> σ' st.led.length = s.heap.objs.size -> CompI hash b0 X fr C I kk v u xs h₀ σ₀ c₀ led₀ s st F k m s'
theorem comp_core {elt iter : PySem.Expr} {px pos : Pos} {el : PE} {I : Addr} {kk : ItK} {v : V} {u : Value} {xs : List V} {k : V -> St -> Prop} {h₀ : Heap} {σ₀ c₀ : Nat -> Addr} {led₀ : List O} {RR : Value -> Addr -> Result -> Shared -> Prop}
  (IE : k7 w (q9 w) b0 Γ n) (hA : i9 A n) (co : CompOk ⟨Kf w.params, X.sc, X.names⟩ caps x sc) (hcl : ∀ y a, cl.lookup y = some a -> X.env.cells.lookup y = some a) (hcs : ∀ p ∈ sc.names, p.2 = .free -> (cl.lookup p.1).isSome = true)
  (hel : okE ⟨Kf w.params, sc, w7 x sc⟩ el elt = true) (hI0 : h₀.get? I = none) (x0 : y9 (fun _ => False) σ₀ c₀ led₀ h₀ σ c st.led s.heap)
  (g : Gd (q9 w) b0 X (I :: fr) σ c st s) (hI : I ∉ fr) (hIL : I ≠ X.env.locals) (hit : ItAt s.heap I kk 0) (ho : Over st.led v u kk xs) (ru : Rv s.heap (NN (I :: fr) c st.led) σ st.led.length v u)
  (hF : forL (fun z st' kk' => wp G Γ n (.e el ⟨some z :: g0 st.loc caps, st'.led⟩ fun u st'' => match getL st''.led st.led.length with
   | some (.list ys) => gd (Nat.ble ys.length 100000) (v5 st''.led st.led.length (.list (ys ++ [u])) fun l => still v xs l (kk' ⟨st.loc, l⟩))
   | _ => False)) xs ⟨st.loc, st.led ++ [.list []]⟩ fun st' => k (.own st.led.length) st')
  (hR : ∀ C h' tk σ' c' led' m, h₀.get? C = none -> C ∉ fr -> C ≠ X.env.locals -> y9 (fun _ => False) σ₀ c₀ led₀ h₀ σ' c' led' h' -> Gd (q9 w) b0 X (C :: fr) σ' c' ⟨st.loc, led'⟩ { s with heap := h', toks := tk } -> h'.Ns C m ->
   Rv h' (NN (C :: fr) c' led') σ' led'.length (.own st.led.length) (.ref s.heap.objs.size) -> k (.own st.led.length) ⟨st.loc, led'⟩ -> RR (.ref s.heap.objs.size) C (.ok .next) { s with heap := h', toks := tk }) :
  wpAny (model pr w) A (newList []) (fun acc s₃ => wpAny (model pr w) A (newFunctionEnv sc X.env.globals cl [] X.env.qual none .none (some X.env)) (fun cenv s₄ =>
   codeAny (model pr w) A (.compStart (.ListComp elt [⟨.Name x px, iter, [], 0⟩] sc pos) 0 (.ref I) acc { cenv with scope := relabel sc X.env }) (RR acc cenv.locals) s₄) (fun _ _ => False) s₃) (fun _ _ => False) s := by
 have hxl : sc.names.lookup x = some .local := let ⟨_, cn⟩ := j4 co; cn.hx
 refine wpAny_newObj_type (wpAny_newFunctionEnv (let ⟨_, cn⟩ := j4 co; cn.hnc) (by intro y hy; simp at hy) (fun h₁ hns₁ hsb₁ => ?_) co.kind)
 dsimp only at hns₁ hsb₁ ⊢
 generalize hH : s.heap.push { cls := .type "list", dict := none, data := .seq ([] : List Value).toArray } = H at hns₁ hsb₁ ⊢
 have kp : ∀ b o, s.heap.get? b = some o -> H.get? b = some o := fun b o e => hH ▸ Heap.get?_push_of_some _ e
 have gD : H.get? s.heap.objs.size = some ⟨.type "list", none, .seq #[] 0, #[]⟩ := hH ▸ Heap.get?_push_size _ rfl
 have szH : H.objs.size = s.heap.objs.size + 1 := by rw [← hH, Heap.size_push]
 have SD := y9.alloc (D := fun _ => False) (σ := σ) (c := c) (led := st.led) (a := s.heap.objs.size) (o := O.list []) kp (by rw [szH]; exact Nat.le_succ _) (Nat.le_refl _)
 have RD := g.r.alloc (a := s.heap.objs.size) (cell := s.heap.objs.size) (o := O.list []) kp (by rw [szH]; exact Nat.le_succ _) (Nat.le_refl _) ⟨rfl, #[], 0, gD, .nil⟩
 generalize hσ : up σ st.led.length s.heap.objs.size = σ1 at SD RD
 generalize hc : up c st.led.length s.heap.objs.size = c1 at SD RD
 have eσ : σ1 st.led.length = s.heap.objs.size := by rw [← hσ, p8]
 have gD1 : Gd (q9 w) b0 X (I :: fr) σ1 c1 ⟨st.loc, st.led ++ [.list []]⟩ { s with heap := H } := ⟨g.Xo, g.L, RD, g.f.step g.r g.L SD⟩
 have itD : ItAt H I kk 0 := itAt_at hit fun o e => kp _ o e
 have ruD : Rv H (NN (I :: fr) c1 (st.led ++ [.list []])) σ1 (st.led ++ [O.list []]).length v u := Rv.step (fr := I :: fr) SD ru
 have oD : Over (st.led ++ [.list []]) v u kk xs := by
  cases ho with
  | tup => exact .tup _ _
  | lst => exact .lst _ _
  | own i l xs hi => exact .own i l xs (by rw [k3 (w9 hi)]; exact hi)
  | str => exact .str _ _
  | rng => exact .rng _ _
 have hCn : H.get? H.objs.size = none := none_at H
 have kp1 : ∀ b o, H.get? b = some o -> h₁.get? b = some o := fun b o e => hsb₁.extBut b o (Nat.ne_of_lt (Heap.lt_size e)) (Heap.get?_push_of_some _ e)
 obtain ⟨R1, S1⟩ := RD.wide hCn (let ⟨o, _, _, ho, _⟩ := hns₁; ⟨o, ho⟩) kp1
 have Mo1 : v4 H h₁ (NN (I :: fr) c1 (st.led ++ [.list []])) (NN (H.objs.size :: I :: fr) c1 (st.led ++ [.list []])) := S1.mono (fun _ q => q.elim) fun a ha => by
  rcases List.mem_cons.mp ha with rfl | ha
  ·exact .inr hCn
  ·exact .inl ha
 have hC0 : h₀.get? H.objs.size = none := by
  cases e : h₀.get? H.objs.size with
  | none => rfl
  | some o =>
   obtain ⟨o1, e1⟩ := (x0.trans SD).stay _ _ e
   rw [hCn] at e1; cases e1
 have hCfr : H.objs.size ∉ I :: fr := fun q => by
  obtain ⟨o, e⟩ := RD.flt _ q
  rw [hCn] at e; cases e
 have hCL : H.objs.size ≠ X.env.locals := fun q => hCfr (q ▸ g.L)
 have hCI : H.objs.size ≠ I := fun q => hCfr (q ▸ .head _)
 have g1 : Gd (q9 w) b0 X (H.objs.size :: I :: fr) σ1 c1 ⟨st.loc, st.led ++ [.list []]⟩ { s with heap := h₁ } :=
  ⟨g.Xo, .tail _ g.L, R1, gD1.f.mono Mo1 (Nat.le_refl _) (fun _ _ => rfl) fun o e => kp1 _ o e⟩
 have xs1 : y9 (fun _ => False) σ₀ c₀ led₀ h₀ σ1 c1 (st.led ++ [.list []]) h₁ := (x0.trans SD).trans S1
 generalize H.objs.size = C at *
 have Xo' := compX_ok (cl := cl) (C := C) g.Xo co
 have hlt0 : st.led.length < (st.led ++ [O.list []]).length := by simp
 have loop : ∀ s₃ : Shared, s₃ = { s with heap := h₁, toks := s.toks + ([] : List (Str × Value)).length } -> codeAny (model pr w) A (.compLoop (.ListComp elt [⟨.Name x px, iter, [], 0⟩] sc pos) 0 (.ref I) (.ref s.heap.objs.size) (compEnvC sc cl C X.env)) (RR (.ref s.heap.objs.size) C) s₃ := by
  rintro s₃ rfl
  refine codeAny_compLoop_list (CompI (q9 w) b0 X (C :: I :: fr) C I kk v u xs h₀ σ₀ c₀ led₀ s st (fun z st' kk' => wp G Γ n (.e el ⟨some z :: g0 st.loc caps, st'.led⟩ fun u st'' => match getL st''.led st.led.length with
    | some (.list ys) => gd (Nat.ble ys.length 100000) (v5 st''.led st.led.length (.list (ys ++ [u])) fun l => still v xs l (kk' ⟨st.loc, l⟩))
    | _ => False)) k) ?_ (xs.length + 1)
   ⟨0, h₁, _, σ1, c1, _, _, rfl, xs1, g1, hns₁, itAt_at itD fun o e => kp1 _ o e, oD, Rv.mono Mo1 (Nat.le_refl _) (fun _ _ => rfl) ruD, Nat.zero_le _, rfl, hF, hlt0, eσ⟩
  rintro m s' ⟨j, h', tk, σ', c', led', mm, rfl, x2, g2, hn2, it2, o2, ru2, hj, rfl, hF2, hlt, eσ'⟩
  have sq := seqIn_of g2.r ru2 o2
  rcases Nat.lt_or_ge j xs.length with hjl | hge
  ·have hx : xs[j]? = some xs[j] := List.getElem?_eq_getElem hjl
   refine next_item (s := { s with heap := h', toks := tk }) it2 sq hx fun xv h3 t3 rx it3 sb => ?_
   have hIs := itAt_some it3
   have SI : y9 (fun a => a = I) σ' c' led' h' σ' c' led' h3 := y9.frame sb hIs
   have Mo3 : v4 h' h3 (NN (C :: I :: fr) c' led') (NN (C :: I :: fr) c' led') := SI.mono (fun a q => q ▸ .tail _ (.head _)) fun _ q => .inl q
   have hn3 : h3.Ns C mm := hn2.at' fun o e => (sb.2 _ hCI).trans e
   have g3 : Gd (q9 w) b0 X (C :: I :: fr) σ' c' ⟨st.loc, led'⟩ { s with heap := h3, toks := t3 } :=
    ⟨g2.Xo, g2.L, g2.r.frame (.tail _ (.head _)) sb hIs, g2.f.mono Mo3 (Nat.le_refl _) (fun _ _ => rfl) fun o e => (sb.2 _ (Ne.symm hIL)).trans e⟩
   refine PySem.wpAny_assign_Name (wpAny_storeName_local (Xo'.locl x hxl) hn3 (fun h4 hn4 sb4 => ?_) (hp_ok Xo'))
   have gC : ∃ o, h4.get? C = some o := let ⟨o, _, _, ho, _⟩ := hn4; ⟨o, ho⟩
   have SC : y9 (fun a => a = C) σ' c' led' h3 σ' c' led' h4 := y9.frame sb4 gC
   have Mo4 : v4 h3 h4 (NN (C :: I :: fr) c' led') (NN (C :: I :: fr) c' led') := SC.mono (fun a q => q ▸ .head _) fun _ q => .inl q
   have g4 : Gd (q9 w) b0 X (C :: I :: fr) σ' c' ⟨st.loc, led'⟩ { s with heap := h4, toks := t3 + 1 } :=
    ⟨g3.Xo, g3.L, g3.r.frame (.head _) sb4 gC, g3.f.mono Mo4 (Nat.le_refl _) (fun _ _ => rfl) fun o e => (sb4.2 _ (Ne.symm hCL)).trans e⟩
   have rx4 := Rv.mono Mo4 (Nat.le_refl _) (fun _ _ => rfl) (Rv.mono Mo3 (Nat.le_refl _) (fun _ _ => rfl) rx)
   have fX : b8 (compX X sc cl C x) h4 (NN (C :: I :: fr) c' led') σ' led'.length (some xs[j] :: g0 st.loc caps) := comp_frame g.Xo co hcl hcs g4.f hn4 (by simp) rx4
   rw [List.drop_eq_getElem_cons hjl] at hF2
   refine wpAny_mono (one (X := compX X sc cl C x) (st := ⟨some xs[j] :: g0 st.loc caps, led'⟩) IE hF2 hel ⟨Xo', .head _, g4.r, fX⟩ hA (Q := fun uv s' => wpAny (model pr w) A (call (.builtin "list.append") [.ref s.heap.objs.size, uv]) (fun _ s₄ => ∃ m, m < xs.length + 1 - j ∧ _) (fun _ _ => False) s') fun h5 t5 σ5 c5 led5 uu uv x5 g5 rv5 hk => ?_) (fun _ _ q => wpAny_mono q (fun _ _ q => q) fun _ _ q => q.elim) fun _ _ q => q.elim
   refine ls_e hk fun ys hy hk => ?_
   obtain ⟨hz, hk⟩ := z7 hk
   rw [k8] at hk
   obtain ⟨ei, its, ep, gi, ri⟩ := g5.r.cell _ _ hy
   have e5 : σ5 st.led.length = s.heap.objs.size := (x5.same _ hlt).1.trans eσ'
   have hsz : its.size ≤ sizeLine := by
    exact Nat.le_trans (rv_le ri hz) (by decide)
   rw [← e5, ei]
   refine call_meets PySem.F.slot_list_append ⟨_, gi, rfl⟩ PySem.F.entry_list_append (PySem.F.args_list_append_2 _ _) (PySem.list_append _ its ep uv hsz) ⟨gi, ?_⟩
   have gs := Heap.get?_update_self (Obj.mapSeq fun x => x.push uv) gi rfl
   have gX5 : Gd (q9 w) b0 X (C :: I :: fr) σ5 c5 ⟨st.loc, led5⟩ { s with heap := h5, toks := t5 } := ⟨g.Xo, g4.L, g5.r, g4.f.step g4.r g4.L x5⟩
   obtain ⟨S6, g6⟩ := wZ (tk := t5) (xs' := ys ++ [uu]) (h' := h5.update (c5 st.led.length) (Obj.mapSeq fun x => x.push uv)) gX5 hy gs (fun b hb => Heap.get?_update_ne _ _ _ _ hb) (by
    have q1 : Rvs h5 (NN (C :: I :: fr) c5 led5) σ5 led5.length ys its.toList := ri
    have q2 : Rv h5 (NN (C :: I :: fr) c5 led5) σ5 led5.length uu uv := rv5
    simpa using dQ q1 (.cons q2 .nil))
   have x4 : y9 (fun _ => False) σ₀ c₀ led₀ h₀ σ' c' led' h4 := by
    have a1 : y9 (fun a => a = I ∨ False) σ₀ c₀ led₀ h₀ σ' c' led' h3 := (x2.weaken fun a q => q.elim).trans (SI.weaken fun a q => .inl q)
    have a2 := y9.fresh (D := fun _ => False) hI0 a1
    have a3 : y9 (fun a => a = C ∨ False) σ₀ c₀ led₀ h₀ σ' c' led' h4 := (a2.weaken fun a q => q.elim).trans (SC.weaken fun a q => .inl q)
    exact y9.fresh (D := fun _ => False) hC0 a3
   have x6 := (x4.trans x5).trans S6
   have nc4 : ∀ a ∈ C :: I :: fr, ∀ {led σ c h}, R (q9 w) b0 (C :: I :: fr) σ c led h -> ¬ Cell c led a := fun a ha led σ c h r ⟨i, li, e⟩ => r.frs i li (e ▸ ha)
   have hn6 : (h5.update (c5 st.led.length) (Obj.mapSeq fun x => x.push uv)).Ns C _ := (hn4.at' fun o e => x5.keep _ _ e (nc4 _ (.head _) g4.r) id).at' fun o e => S6.keep _ _ e (nc4 _ (.head _) g5.r) id
   have it6 : ItAt (h5.update (c5 st.led.length) (Obj.mapSeq fun x => x.push uv)) I kk (j + 1) := itAt_at (itAt_at (itAt_at it3 fun o e => (sb4.2 _ (Ne.symm hCI)).trans e) fun o e => x5.keep _ _ e (nc4 _ (.tail _ (.head _)) g4.r) id) fun o e => S6.keep _ _ e (nc4 _ (.tail _ (.head _)) g5.r) id
   have ru4 := Rv.mono Mo4 (Nat.le_refl _) (fun _ _ => rfl) (Rv.mono Mo3 (Nat.le_refl _) (fun _ _ => rfl) ru2)
   obtain ⟨o6, hF6⟩ := over_still o2 hk
   exact ⟨xs.length + 1 - (j + 1), lt1 hjl, j + 1, _, t5, σ5, c5, _, _, rfl, x6, g6, hn6, it6, o6, Rv.step (fr := C :: I :: fr) S6 (Rv.step (fr := C :: I :: fr) x5 ru4), hjl, rfl, hF6, by rw [List.length_set]; exact Nat.lt_of_lt_of_le hlt x5.len, e5⟩
  ·have hin : j = xs.length := Nat.le_antisymm hj hge
   refine next_end (s := { s with heap := h', toks := tk }) hA.quiet it2 sq hin fun h3 he => ?_
   subst hin
   rw [List.drop_length] at hF2
   have hsub : ∀ a ∈ I :: C :: fr, a ∈ C :: I :: fr := fun a ha => by
    rcases List.mem_cons.mp ha with rfl | ha
    ·exact .tail _ (.head _)
    ·rcases List.mem_cons.mp ha with rfl | ha
     ·exact .head _
     ·exact .tail _ (.tail _ ha)
   have hIC : I ∉ C :: fr := fun q => by
    rcases List.mem_cons.mp q with q | q
    ·exact hCI q.symm
    ·exact hI q
   have hLC : X.env.locals ∈ C :: fr := by
    rcases List.mem_cons.mp g.L with q | q
    ·exact absurd q.symm hIL
    ·exact .tail _ q
   have rv : Rv h' (NN (C :: I :: fr) c' led') σ' led'.length (.own st.led.length) (.ref s.heap.objs.size) := by
    have := Rv.own (h := h') (N := NN (C :: I :: fr) c' led') (σ := σ') (n := led'.length) st.led.length hlt
    rwa [eσ'] at this
   have M1 : v4 h' h' (NN (C :: I :: fr) c' led') (NN (I :: C :: fr) c' led') := mono_sub hsub
   have M2 : v4 h' h3 (NN (I :: C :: fr) c' led') (NN (C :: fr) c' led') := j0 he
   refine hR C h3 tk σ' c' led' mm hC0 (fun q => hCfr (.tail _ q)) hCL (x2.thenExt he hI0) ⟨g.Xo, hLC, (g2.r.sub hsub).leave he hIC, (g2.f.mono M1 (Nat.le_refl _) (fun _ _ => rfl) fun o e => e).mono M2 (Nat.le_refl _) (fun _ _ => rfl) fun o e => he _ o (Ne.symm hIL) e⟩
    (hn2.at' fun o e => he _ o hCI e) (Rv.mono M2 (Nat.le_refl _) (fun _ _ => rfl) (Rv.mono M1 (Nat.le_refl _) (fun _ _ => rfl) rv)) hF2
 exact codeAny_compStart_list (loop _ rfl) (iter_self (itAt_at itD fun o e => kp1 _ o e) (loop _ rfl))
end
end
noncomputable section
section
variable {w : World} {b0 : Heap} {Γ : Nat -> Option (Nat × r8)} {X : FX} {fr : List Addr} {σ c : Nat -> Addr} {s : Shared} {A : Around} {st : St} {n : Nat} {k : V -> St -> Prop} {e : PySem.Expr}
theorem comp_ready {K : Frag} {caps : List Nat} {x : Str} {sc : Scope} (Xo : FXok X) (co : CompOk ⟨K, X.sc, X.names⟩ caps x sc) :
  ∃ cl, closureFor sc X.env = pure cl ∧ (∀ y a, cl.lookup y = some a -> X.env.cells.lookup y = some a) ∧ ∀ p ∈ sc.names, p.2 = .free -> (cl.lookup p.1).isSome = true := by
 obtain ⟨ys, cn⟩ := j4 co
 refine closure_ok fun p hp hf => ?_
 obtain ⟨j, hj, e1⟩ := List.getElem_of_mem (cn.hfs p hp hf)
 obtain ⟨i, _, _, h3⟩ := caps_at (j := j) (y := p.1) cn.hc (by rw [List.getElem?_eq_getElem hj, e1])
 exact Xo.cel _ h3
theorem e_comp {el it : PE} {caps : List Nat} (IE : k7 w (q9 w) b0 Γ n) (II : SndIt w (q9 w) b0 Γ n) (g : Gd (q9 w) b0 X fr σ c st s) (hA : i9 A (n + 1)) (hw : wp G Γ (n + 1) (.e (.comp el caps it) st k)) (ho : r6 w X (.comp el caps it) e) : w2 w b0 X fr σ c st s A k e := by
 refine inv_comp ho fun elt x px i sc p h1 h2 h3 h4 => ?_
 conv at hw => whnf
 have hA' := hA.le (Nat.le_succ n)
 have co := compTab_ok h1
 have hloc : ∀ p ∈ sc.names, p.2 = .local -> sc.names.lookup p.1 = some .local := let ⟨_, cn⟩ := j4 co; cn.hloc
 obtain ⟨cl, hclos, hcl, hcs⟩ := comp_ready g.Xo co
 unfold w2
 rw [eval_ListComp]
 refine wpAny_comprehension_free (use := none) rfl (set_no h3) hclos co.kind hloc (wpAny_mono (II it st _ i X A s fr σ c hw h4 g hA') (fun _ s₁ q => wpAny_mono q (fun itv s₂ q => ?_) fun _ _ q => q) fun _ _ q => q)
 obtain ⟨I, h', tk, σ', c', led', v', u, kk, xs, rfl, rfl, hn, x1, g1, it1, o1, ru, hzF⟩ := q
 obtain ⟨hI, hIL⟩ := it_fresh g hn
 obtain ⟨hz, hF⟩ := x8.mp hzF
 rw [w3, w6] at hF
 refine comp_core (RR := fun acc C => compPost (model pr w) A (fun _ _ => False) none (PE1 (q9 w) b0 X fr σ c st s k) acc C) (k := k) IE hA' co hcl hcs h2 hn x1 g1 hI hIL it1 o1 ru hF ?_
 intro C h2' t2 σ2 c2 led2 m hC0 hCfr hCL x2 g2 hnC rv hk
 refine ⟨m, hnC, fun h3' sb => ?_⟩
 exact ⟨h3', t2, σ2, c2, led2, .own led'.length, rfl, x2.thenExt sb.extBut hC0, g2.r.leave sb.extBut hCfr, g2.f.mono (j0 sb.extBut) (Nat.le_refl _) (fun _ _ => rfl) (fun o e => (sb.2 _ (Ne.symm hCL)).trans e),
  Rv.mono (j0 sb.extBut) (Nat.le_refl _) (fun _ _ => rfl) rv, hk⟩
theorem s_asgC {j : Nat} {el it : PE} {caps : List Nat} {k : St -> Prop} {r : V -> List O -> Prop} {y : Str} {yp p : Pos} {v : PySem.Expr} (IE : k7 w (q9 w) b0 Γ n) (II : SndIt w (q9 w) b0 Γ n) (g : Gd (q9 w) b0 X fr σ c st s) (hA : i9 A (n + 2))
  (hw : wp G Γ (n + 1) (.e (.comp el caps it) st fun v st => v5 st.loc j (some v) fun l => k ⟨l, st.led⟩)) (hl : s0 ⟨Kf w.params, X.sc, X.names⟩ j y = true) (ha : asgOk y yp v = true) (ho : r6 w X (.comp el caps it) v) :
  wpAny (model pr w) A (exec (.Assign [.Name y yp] v p) X.env) (z6 (q9 w) b0 X fr σ c st.led s k r) (fun _ _ => False) s := by
 revert ha
 refine inv_comp ho fun elt x px i sc pp h1 h2 h3 h4 ha => ?_
 conv at hw => whnf
 have hA' := hA.le (Nat.le_add_right n 2)
 have co := compTab_ok h1
 have hloc : ∀ p ∈ sc.names, p.2 = .local -> sc.names.lookup p.1 = some .local := let ⟨_, cn⟩ := j4 co; cn.hloc
 obtain ⟨cl, hclos, hcl, hcs⟩ := comp_ready g.Xo co
 have hkk := g.Xo.locl y (islocal_ok hl).2
 have hsw : swapsWith (.ListComp elt [⟨.Name x px, i, [], 0⟩] sc pp) (some (.Name y yp)) p.line X.env = pure true := by
  have ha : (decide (yp.line = pp.line) && !(sc.names.any fun (n, k) => n == y && (k == .local || k == .cell))) = true := ha
  simp only [Bool.and_eq_true, decide_eq_true_eq, Bool.not_eq_true'] at ha
  obtain ⟨a1, a2⟩ := ha
  unfold swapsWith
  simp only
  have b1 : (X.env.blockKind == .function) = true := by
   unfold Env.blockKind
   rw [g.Xo.kind]; rfl
  have b2 : (yp.line == (PySem.Expr.ListComp elt [⟨.Name x px, i, [], 0⟩] sc pp).pos.line) = true := by
   rw [a1]; exact beq_self_eq_true _
  rw [b1, hkk, b2, a2]; rfl
 rw [exec_Assign_Name_used _ _ _ _ hsw]
 refine wpAny_bind (wpAny_standAt (wpAny_bind ?_))
 show wpAny _ A (do let _ ← comprehension (.ListComp elt [⟨.Name x px, i, [], 0⟩] sc pp) sc X.env _ (newList []) false (eval i X.env) (some (assign (.Name y yp) X.env))) _ _ s
 refine wpAny_bind (wpAny_mono (wpAny_comprehension_free (use := some (assign (.Name y yp) X.env)) (Q := fun _ s' => z6 (q9 w) b0 X fr σ c st.led s k r .next s') rfl (set_no h3) hclos co.kind hloc
  (wpAny_mono (II it st _ i X A s fr σ c hw h4 g hA') (fun _ s₁ q => wpAny_mono q (fun itv s₂ q => ?_) fun _ _ q => q) fun _ _ q => q)) (fun _ s' hq => wpAny_pure (wpAny_pure hq)) fun _ _ q => q)
 obtain ⟨I, h', tk, σ', c', led', v', u, kk, xs, rfl, rfl, hn, x1, g1, it1, o1, ru, hzF⟩ := q
 obtain ⟨hI, hIL⟩ := it_fresh g hn
 obtain ⟨hz, hF⟩ := x8.mp hzF
 rw [w3, w6] at hF
 refine comp_core (RR := fun acc C => compPost (model pr w) A (fun _ _ => False) (some (assign (.Name y yp) X.env)) (fun _ s' => z6 (q9 w) b0 X fr σ c st.led s k r .next s') acc C) (k := fun v st => v5 st.loc j (some v) fun l => k ⟨l, st.led⟩) IE hA' co hcl hcs h2 hn x1 g1 hI hIL it1 o1 ru hF ?_
 intro C h2' t2 σ2 c2 led2 m hC0 hCfr hCL x2 g2 hnC rv hk
 rw [k8] at hk
 show wpAny _ A (assign (.Name y yp) X.env (.ref _)) _ _ _
 refine PySem.wpAny_assign_Name (store_ok g2 hl rv fun h3' t3 S g3 => ?_)
 have hnC3 : h3'.Ns C m := hnC.at' fun o e => S.keep _ _ e (fun ⟨i, li, ei⟩ => g2.r.frs i li (ei ▸ .head _)) hCL
 refine ⟨m, hnC3, fun h4' sb => ?_⟩
 have xx : bZ X σ c st.led s.heap σ2 c2 led2 h4' := ((lw x2).trans S).thenExt sb.extBut hC0
 exact ⟨h4', t3, σ2, c2, led2, rfl, xx, g3.r.leave sb.extBut hCfr, _, g3.f.mono (j0 sb.extBut) (Nat.le_refl _) (fun _ _ => rfl) (fun o e => (sb.2 _ (Ne.symm hCL)).trans e), hk⟩
theorem sndE_succ (W : Wd w b0) (IE : ∀ m ≤ n, k7 w (q9 w) b0 Γ m) (IEs : SndEs w (q9 w) b0 Γ n) (IC : SndC w (q9 w) b0 Γ n) (II : SndIt w (q9 w) b0 Γ n) : k7 w (q9 w) b0 Γ (n + 1) := by
 intro x st k e X A s fr σ c hw ho Xo L hA r f
 have g : Gd (q9 w) b0 X fr σ c st s := ⟨Xo, L, r, f⟩
 have I0 := IE n (Nat.le_refl n)
 cases x with
 | loc i => exact e_loc g hw ho
 | con v => exact e_con g hw ho
 | glob v => exact e_glob W g hw ho
 | neg a => exact e_neg I0 g hA hw ho
 | not a => exact e_not I0 g hA hw ho
 | and l => exact e_and I0 g hA hw ho
 | or l => exact e_or I0 g hA hw ho
 | bin op a b => exact e_bin I0 g hA hw ho
 | cmp op a b => exact e_cmp W I0 g hA hw ho
 | cmp2 => exact False.elim hw
 | ite => exact False.elim hw
 | call f as => exact e_call W IEs IC g hA hw ho
 | new C as => exact e_new W IEs IC g hA hw ho
 | meth o m as => exact e_meth W I0 IEs IC g hA hw ho
 | len a => exact e_len W I0 g hA hw ho
 | ord a => exact e_ord W I0 g hA hw ho
 | strOf a => exact e_strOf W I0 g hA hw ho
 | tupOf a => exact e_tupOf W I0 g hA hw ho
 | attr o m => exact e_attr W I0 g hA hw ho
 | sub a i => exact e_sub W I0 g hA hw ho
 | slTo a m => exact e_slTo I0 g hA hw ho
 | rev a => exact e_rev I0 g hA hw ho
 | copy a => exact e_copy I0 g hA hw ho
 | tup l => exact e_tup IEs g hA hw ho
 | list l => exact e_list IEs g hA hw ho
 | dict ks vs => exact e_dict IE g hA hw ho
 | comp el caps it => exact e_comp I0 II g hA hw ho
 | range => exact False.elim hw
 | bad => exact False.elim hw
theorem not_comp {e : PySem.Expr} {k : Nat} (h : e.ctorIdx = k) (hk : (Nat.beq k 8 || Nat.beq k 9 || Nat.beq k 10) = false) (hc : z4 e = false) : False := by
 unfold z4 at hc
 rw [h, hk] at hc; cases hc
theorem sndS_succ (W : Wd w b0) (IE : ∀ m ≤ n, k7 w (q9 w) b0 Γ m) (IT : SndT w (q9 w) b0 Γ n) (II : ∀ m ≤ n, SndIt w (q9 w) b0 Γ m) (IB : SndB w (q9 w) b0 Γ n) : SndS w (q9 w) b0 Γ (n + 1) := by
 intro x st k r e X A s fr σ c hw ho g hA
 have I0 := IE n (Nat.le_refl n)
 have J0 := II n (Nat.le_refl n)
 cases x with
 | asg i x =>
  refine inv_asg ho fun y yp v p h1 h2 h3 => ?_
  cases hc : z4 v with
  | true => exact s_asg I0 g hA hw rfl h1 hc h3
  | false =>
   conv at hw => whnf
   cases x <;> first | exact absurd hw bad_false | exact (not_comp (by first | exact qName_i h3 | exact qCst_i h3 | exact qUn_i h3 | exact qBool_i h3 | exact qBin_i h3 | exact qCmp_i h3 | exact n0 h3 | exact qAttr_i h3 | exact qSub_i h3 | exact qTup_i h3 | exact qLst_i h3 | exact qDict_i h3 | exact qComp_i h3) rfl hc).elim | (cases n <;> exact False.elim hw) | skip
   cases n with
   | zero => exact False.elim hw
   | succ n => exact s_asgC (IE n (Nat.le_succ n)) (II n (Nat.le_succ n)) g hA hw h1 h2 h3
 | asgT is x => exact s_asgT I0 g hA hw ho
 | setA o m x => exact s_setA W I0 g hA hw ho
 | setI o i x => exact s_setI W I0 g hA hw ho
 | augL => exact False.elim hw
 | augA o m op x => exact s_augA W I0 g hA hw ho
 | ex x => exact s_ex I0 g hA hw ho
 | ret x => exact s_ret I0 g hA hw ho
 | retN => exact s_retN g hw ho
 | cond x a b => exact s_cond IT IB g hA hw ho
 | whl x a => exact s_whl IT IB g hA hw ho
 | for_ i x b => exact s_for J0 IB g hA hw ho
 | forT is x b => exact s_forT J0 IB g hA hw ho
 | delAll x => exact s_delAll I0 g hA hw ho
 | pass => exact s_pass g hw ho
 | bad => exact False.elim hw
structure AllS (w : World) (b0 : Heap) (Γ : Nat -> Option (Nat × r8)) (n : Nat) : Prop where
 e : k7 w (q9 w) b0 Γ n
 es : SndEs w (q9 w) b0 Γ n
 t : SndT w (q9 w) b0 Γ n
 al : SndAl w (q9 w) b0 Γ n
 ol : SndOl w (q9 w) b0 Γ n
 it : SndIt w (q9 w) b0 Γ n
 c : SndC w (q9 w) b0 Γ n
 b : SndB w (q9 w) b0 Γ n
 s : SndS w (q9 w) b0 Γ n
theorem wp0 {j : J} : ¬ wp G Γ 0 j := fun h => h.elim
theorem all_zero : AllS w b0 Γ 0 where
 e _ _ _ _ _ _ _ _ _ _ hw := (wp0 hw).elim
 es _ _ _ _ _ _ _ _ _ _ _ hw := (wp0 hw).elim
 t _ _ _ _ _ _ _ _ _ _ hw := (wp0 hw).elim
 al _ _ _ _ _ _ _ _ _ _ hw := (wp0 hw).elim
 ol _ _ _ _ _ _ _ _ _ _ hw := (wp0 hw).elim
 it _ _ _ _ _ _ _ _ _ _ hw := (wp0 hw).elim
 c _ _ _ _ _ _ _ _ _ _ hw := (wp0 hw).elim
 b _ _ _ _ _ _ _ _ _ _ _ hw := (wp0 hw).elim
 s _ _ _ _ _ _ _ _ _ _ _ hw := (wp0 hw).elim
theorem sound (W : Wd w b0) (hG : GamOk w (q9 w) b0 Γ) : ∀ n, ∀ m ≤ n, AllS w b0 Γ m
 | 0, m, hm => by
  obtain rfl : m = 0 := Nat.le_zero.mp hm
  exact all_zero
 | n + 1, m, hm => by
  have IH := sound W hG n
  rcases Nat.lt_or_ge n m with q | q
  ·obtain rfl : m = n + 1 := Nat.le_antisymm hm q
   have H := IH n (Nat.le_refl n)
   have IE : ∀ m ≤ n, k7 w (q9 w) b0 Γ m := fun m hm => (IH m hm).e
   have II : ∀ m ≤ n, SndIt w (q9 w) b0 Γ m := fun m hm => (IH m hm).it
   exact ⟨sndE_succ W IE H.es H.c H.it, sndEs_succ H.e H.es, sndT_succ W IE H.t H.al H.ol, sndAl_succ H.t H.al, sndOl_succ H.t H.ol, sndIt_succ W H.e, sndC_succ W hG H.b, sndB_succ H.s H.b, sndS_succ W IE H.t II H.b⟩
  ·exact IH m q
end
end
end Mine
end
section
open PySem
namespace Mine
noncomputable abbrev Ctx := List (Nat × (Nat × r8))
noncomputable abbrev gm (C : Ctx) : Nat -> Option (Nat × r8) := fun f => v3 f C
noncomputable def Sub (l l' : List O) : Prop := ∀ i o, getL l i = some o -> getL l' i = some o
theorem Sub.refl (l : List O) : Sub l l := fun _ _ e => e
theorem Sub.trans {a b c : List O} (x : Sub a b) (y : Sub b c) : Sub a c := fun i o e => y i o (x i o e)
theorem Sub.snoc (l : List O) (o : O) : Sub l (l ++ [o]) := fun i p e => by rw [k3 (w9 e)]; exact e
theorem Sub.set {l l' : List O} {i : Nat} {o : O} (x : Sub l l') (h : l.length ≤ i) : Sub l (l'.set i o) := fun j p e => by
 rw [wQ (fun z => by subst z; exact absurd (w9 e) (Nat.not_lt.mpr h))]; exact x j p e
theorem Sub.len {l l' : List O} (x : Sub l l') : l.length ≤ l'.length := by
 rcases Nat.lt_or_ge l'.length l.length with h | h
 ·exfalso
  have : ∃ o, getL l l'.length = some o := by rw [p9]; exact ⟨_, List.getElem?_eq_getElem h⟩
  obtain ⟨o, e⟩ := this
  exact absurd (w9 (x _ _ e)) (Nat.lt_irrefl _)
 ·exact h
theorem getL_app {l : List O} {i : Nat} {o x : O} (h : getL l i = some o) : getL (l ++ [x]) i = some o := Sub.snoc l x i o h
theorem getL_new {l : List O} {x : O} : getL (l ++ [x]) l.length = some x := getL_snoc_len
theorem getL_ne {l : List O} {i j : Nat} {o x : O} (h : getL l i = some o) (hn : j ≠ i) : getL (l.set j x) i = some o := by rw [wQ hn]; exact h
theorem getL_at {l : List O} {i : Nat} {o x : O} (h : getL l i = some o) : getL (l.set i x) i = some x := xZ (w9 h)
theorem alloc {led : List O} {o : O} {k : Nat -> List O -> Prop} (h : ∀ i led', Sub led led' -> getL led' i = some o -> led.length ≤ i -> k i led') : gZ led fun i => w4 led o fun l => k i l := by
 rw [w3, w6]
 exact h _ _ (Sub.snoc _ _) getL_new (Nat.le_refl _)
theorem put {led0 led : List O} {i : Nat} {o o' : O} {k : List O -> Prop} (h0 : Sub led0 led) (hi : led0.length ≤ i) (e : getL led i = some o) (h : ∀ led', Sub led0 led' -> getL led' i = some o' -> (∀ j x, j ≠ i -> getL led j = some x -> getL led' j = some x) -> k led') : v5 led i o' k := by
 rw [k8]
 exact h _ (Sub.set h0 hi) (getL_at e) fun j x n e => getL_ne e (fun z => n z.symm)
theorem mk_dc {led : List O} {i : Nat} {es : List (V × V)} (h : getL led i = some (.dict es)) : o9 G (.own i) 2 led = .dc i := by simp only [o9, h]; try rfl
theorem mk_ap {led : List O} {i : Nat} {xs : List V} (h : getL led i = some (.list xs)) : o9 G (.own i) 0 led = .ls i := by simp only [o9, h]; try rfl
theorem mk_pp {led : List O} {i : Nat} {xs : List V} (h : getL led i = some (.list xs)) : o9 G (.own i) 1 led = .ls i := by simp only [o9, h]; try rfl
theorem b7 {led : List O} {i C m f : Nat} {fs : List (Nat × V)} (h : getL led i = some (.inst C fs)) (h1 : v3 m fs = none) (h2 : G.mth C m = some f) : o9 G (.own i) m led = .fn f := by simp only [o9, h]; simp only [mkC, h1, h2]
theorem inK_d {led : List O} {i : Nat} {es : List (V × V)} {k : V} (h : getL led i = some (.dict es)) : inK G k (.own i) led = (v9 es k).map (·.isSome) := by simp only [inK, h]
theorem inK_l {led : List O} {i : Nat} {xs : List V} {k : V} (h : getL led i = some (.list xs)) : inK G k (.own i) led = memL k xs := by simp only [inK, h]
theorem items_l {led : List O} {i : Nat} {xs : List V} (h : getL led i = some (.list xs)) : fQ led (.own i) = some xs := by simp only [fQ, h]
theorem seen_l {led : List O} {i : Nat} {xs : List V} (h : getL led i = some (.list xs)) : seen led (.own i) = .lst xs := by simp only [seen, h]
inductive Sp where
 | txt (s : Str) | obj | num (t n : Int) | pair (a b : Int) | whole (f : Int) (a b : Int)
structure Row where
 k : Int
 sp : Sp
noncomputable def jQ (a b : Int) : V := .tup [.int 5, .int 17, .tup [.tup [.int 1, .int a], .tup [.int 2, .int b]]]
noncomputable def addr (f : Int) : Int := 16 + 3 * f
noncomputable def rZ (f : Int) : Int := if f < 0 then 0 else addr f
noncomputable def oQ : Sp -> V
 | .txt s => .tup [.int 8, .str s]
 | .obj => .tup [.int 0, .int 0]
 | .num t n => .tup [.int t, .int n]
 | .pair a b => jQ a b
 | .whole f a b => .tup [.int 5, .int 18, .tup [.tup [.int 4, .int f], jQ a b]]
noncomputable def valV : Sp -> V
 | .num t n => .tup [.int t, .int n]
 | .pair a b => jQ a b
 | .whole f a b => .tup [.int 5, .int 18, .tup [.tup [.int 4, .int (rZ f)], jQ a b]]
 | _ => .none
noncomputable def j5 : Sp -> List V
 | .txt s => [.tup [.int 8, .str s]]
 | .obj => []
 | sp => [valV sp]
noncomputable def b9 : Sp -> Bool
 | .txt _ => false
 | .obj => false
 | _ => true
noncomputable def texts : List Str := [zz "", zz "ab", zz "ba", zz "ab!"]
noncomputable def tagOf (k : Int) : Int := if k = 9 ∨ k = 10 then 2 else if k = 11 then 3 else 1
noncomputable def Wf (i : Nat) (r : Row) : Prop := match r.sp with
 | .txt s => r.k = 13 ∧ s ∈ texts
 | .obj => r.k = 19
 | .num t n => (r.k = 16 ∧ t = 1 ∨ 1 ≤ r.k ∧ r.k ≤ 11 ∧ t = tagOf r.k) ∧ n.natAbs < 2 ^ 64
 | .pair a b => r.k = 17 ∧ a.natAbs < 2 ^ 64 ∧ b.natAbs < 2 ^ 64
 | .whole f a b => r.k = 18 ∧ -1 ≤ f ∧ f < i ∧ a.natAbs < 2 ^ 64 ∧ b.natAbs < 2 ^ 64
noncomputable def b6 (rk : Nat -> Int) (i : Nat) : Sp -> V
 | .obj => .tup [.int 0, .int i]
 | .whole f a b => .tup [.int 5, .int 18, .tup [.tup [.int 4, .int (if f < 0 then f else rk f.toNat)], jQ a b]]
 | sp => oQ sp
noncomputable def d7 (rk : Nat -> Int) (i : Nat) (r : Row) : V := .tup [.int r.k, b6 rk i r.sp]
noncomputable def thingO (i : Nat) (k : Int) (sl : Nat) : O := .inst 318 [(18, .int (addr i)), (19, .int k), (20, .own sl), (21, .int 0), (22, .int 3), (23, .int (i + 1))]
noncomputable def rowV (i : Nat) (r : Row) (cp : Nat) : V := .tup [.int (addr i), .int r.k, oQ r.sp, .own cp]
noncomputable def atL (th : Nat -> Nat) : Nat -> List (V × V)
 | 0 => []
 | n + 1 => atL th n ++ [(.int (addr n), .own (th n))]
noncomputable def thL (th : Nat -> Nat) : Nat -> List V
 | 0 => []
 | n + 1 => thL th n ++ [.own (th n)]
noncomputable def r9 (cp : Nat -> Nat) : Nat -> List Row -> List V
 | _, [] => []
 | i, r :: l => rowV i r (cp i) :: r9 cp (i + 1) l
noncomputable def o7 (rk : Nat -> Int) : Nat -> List V
 | 0 => []
 | n + 1 => o7 rk n ++ [.int (rk n)]
noncomputable def x9 : Nat -> List Row -> List V
 | _, [] => []
 | i, r :: l => if b9 r.sp then .int i :: x9 (i + 1) l else x9 (i + 1) l
noncomputable def vQ (κ : List V) : List (V × V) := κ.zipIdx.map fun p => (p.1, .int p.2)
noncomputable def kt4 : List V := [.tup [.int 1, .int 0], .tup [.int 1, .int 1], .tup [.int 1, .int 2], .tup [.int 1, .int 3], .tup [.int 1, .int 4], .tup [.int 1, .int 5], .tup [.int 1, .int 6], .tup [.int 1, .int 7], .tup [.int 1, .int 8], .tup [.int 1, .int 9], .tup [.int 1, .int 10], .tup [.int 1, .int 11], .tup [.int 1, .int 12], .tup [.int 1, .int 13], .tup [.int 1, .int 14], .tup [.int 1, .int 15], .tup [.int 3, .int 32, .tup []], .tup [.int 3, .int 33, .tup []], .tup [.int 3, .int 34, .tup []], .tup [.int 2, .int 35, .tup []]]
noncomputable def kt5 : List (V × V) := [(.tup [.int 1, .int 0], .int 0), (.tup [.int 1, .int 1], .int 1), (.tup [.int 1, .int 2], .int 2), (.tup [.int 1, .int 3], .int 3), (.tup [.int 1, .int 4], .int 4), (.tup [.int 1, .int 5], .int 5), (.tup [.int 1, .int 6], .int 6), (.tup [.int 1, .int 7], .int 7), (.tup [.int 1, .int 8], .int 8), (.tup [.int 1, .int 9], .int 9), (.tup [.int 1, .int 10], .int 10), (.tup [.int 1, .int 11], .int 11), (.tup [.int 1, .int 12], .int 12), (.tup [.int 1, .int 13], .int 13), (.tup [.int 1, .int 14], .int 14), (.tup [.int 1, .int 15], .int 15), (.tup [.int 3, .int 32, .tup []], .int 16), (.tup [.int 3, .int 33, .tup []], .int 17), (.tup [.int 3, .int 34, .tup []], .int 18), (.tup [.int 2, .int 35, .tup []], .int 19)]
noncomputable def zZ (k : Int) : List V := [V.int k, V.int k, V.int k, V.int k, V.int k, V.int k, V.int k, V.int k, V.int k, V.int k, V.int k, V.int k, V.int k, V.int k, V.int k, V.int k, V.int k, V.int k, V.int k, V.int k]
noncomputable def m20 : List (Nat × V) := [(39, .own 2), (11, .own 3), (36, .own 14), (40, .own 21), (3, .own 22), (41, .own 23), (42, .own 24), (43, .own 25), (32, .own 26), (37, .own 27), (44, .own 28), (38, .own 29), (45, .own 30), (46, .own 31), (47, .own 32), (48, .own 33), (49, .int 0), (50, .own 34), (51, .own 35), (52, .own 36), (53, .own 37), (54, .own 38), (55, .own 39), (56, .own 40), (57, .own 41), (58, .none), (59, .none), (60, .own 42), (61, .none), (62, .own 43), (63, .own 44), (64, .own 45), (65, .own 46)]
noncomputable def h14 (n : Nat) : List (Nat × V) := [(24, .own 15), (25, .own 16), (26, .int (16 + 3 * n)), (27, .int 4000), (28, .own 17), (29, .int 4), (30, .int (3 * n)), (31, .int 1001), (32, .own 18), (33, .own 19), (34, .int 0), (35, .int n)]
noncomputable def nat33 : List (V × V) := [(.int 10, .own 47), (.int 11, .own 48), (.int 12, .own 49), (.int 13, .own 50), (.int 14, .own 51)]
noncomputable def w56 : List (V × V) := [(.str (zz "m"), .own 20), (.str (zz "rows"), .own 52), (.str (zz "ranks"), .own 53), (.str (zz "keys"), .own 54), (.str (zz "boxes"), .own 55), (.str (zz "word"), .int 16), (.str (zz "pair"), .int 17), (.str (zz "whole"), .int 18), (.str (zz "plain"), .int 19)]
structure Base (led : List O) : Prop where
 c2 : getL led 2 = some (.inst 261 [(11, .own 3), (12, .own 9), (13, .own 10), (14, .own 11), (15, .own 12), (16, .own 13), (17, .int 0)])
 c3 : getL led 3 = some (.inst 87 [(3, .own 4), (4, .own 5), (5, .own 6), (6, .own 7), (7, .own 8)])
 c4 : getL led 4 = some (.list kt4)
 c5 : getL led 5 = some (.dict kt5)
 c6 : getL led 6 = some (.list (zZ 1))
 c7 : getL led 7 = some (.list (zZ 1))
 c8 : getL led 8 = some (.list (zZ 0))
 c9 : getL led 9 = some (.list [.none])
 c20 : getL led 20 = some (.inst 669 m20)
 c22 : getL led 22 = some (.dict [])
 c33 : getL led 33 = some (.dict nat33)
 c34 : getL led 34 = some (.list [])
 c39 : getL led 39 = some (.dict [])
 c40 : getL led 40 = some (.list [])
 c46 : getL led 46 = some (.inst 445 [])
 c47 : getL led 47 = some (.inst 917 [])
 c48 : getL led 48 = some (.inst 936 [])
 c49 : getL led 49 = some (.inst 955 [])
 c50 : getL led 50 = some (.inst 974 [])
 c51 : getL led 51 = some (.inst 993 [])
 c56 : getL led 56 = some (.dict w56)
structure Ids where
 th : Nat -> Nat
 sl : Nat -> Nat
 cp : Nat -> Nat
 rk : Nat -> Int
 κ : List V
 nums : List V
structure Inv (W : List Row) (D : Ids) (led : List O) : Prop extends Base led where
 c1 : getL led 1 = some (.list D.nums)
 c14 : getL led 14 = some (.inst 339 (h14 W.length))
 c15 : getL led 15 = some (.list (thL D.th W.length))
 c16 : getL led 16 = some (.dict (atL D.th W.length))
 c35 : getL led 35 = some (.list [])
 c52 : getL led 52 = some (.list (r9 D.cp 0 W))
 c53 : getL led 53 = some (.list (o7 D.rk W.length))
 c54 : getL led 54 = some (.dict (vQ D.κ))
 c55 : getL led 55 = some (.list (x9 0 W))
 cth : ∀ i r, W[i]? = some r -> getL led (D.th i) = some (thingO i r.k (D.sl i))
 csl : ∀ i r, W[i]? = some r -> getL led (D.sl i) = some (.list (j5 r.sp))
 ccp : ∀ i r, W[i]? = some r -> getL led (D.cp i) = some (.list (j5 r.sp))
 far : ∀ i r, W[i]? = some r -> 56 < D.th i ∧ 56 < D.sl i ∧ 56 < D.cp i
structure w8 (W : List Row) (D : Ids) : Prop where
 wf : ∀ i r, W[i]? = some r -> Wf i r
 few : W.length ≤ 36
 nd : D.κ.Nodup
 kl : D.κ.length ≤ W.length
 kok : ∀ k ∈ D.κ, kok 7 k = true ∧ isT k = true
 rk : ∀ i r, W[i]? = some r -> ∃ j : Nat, D.rk i = j ∧ D.κ[j]? = some (d7 D.rk i r)
theorem Inv.sub {W : List Row} {D : Ids} {led led' : List O} (x : Inv W D led) (s : Sub led led') : Inv W D led' where
 c2 := s _ _ x.c2
 c3 := s _ _ x.c3
 c4 := s _ _ x.c4
 c5 := s _ _ x.c5
 c6 := s _ _ x.c6
 c7 := s _ _ x.c7
 c8 := s _ _ x.c8
 c9 := s _ _ x.c9
 c20 := s _ _ x.c20
 c22 := s _ _ x.c22
 c33 := s _ _ x.c33
 c34 := s _ _ x.c34
 c39 := s _ _ x.c39
 c40 := s _ _ x.c40
 c46 := s _ _ x.c46
 c47 := s _ _ x.c47
 c48 := s _ _ x.c48
 c49 := s _ _ x.c49
 c50 := s _ _ x.c50
 c51 := s _ _ x.c51
 c56 := s _ _ x.c56
 c1 := s _ _ x.c1
 c14 := s _ _ x.c14
 c15 := s _ _ x.c15
 c16 := s _ _ x.c16
 c35 := s _ _ x.c35
 c52 := s _ _ x.c52
 c53 := s _ _ x.c53
 c54 := s _ _ x.c54
 c55 := s _ _ x.c55
 cth i r e := s _ _ (x.cth i r e)
 csl i r e := s _ _ (x.csl i r e)
 ccp i r e := s _ _ (x.ccp i r e)
 far := x.far
noncomputable def oo {α : Type} (o : Option (Option α)) (k : α -> Prop) : Prop := match o with
 | some (some v) => k v
 | _ => False
noncomputable def ov {α : Type} (o : Option α) (k : α -> Prop) : Prop := match o with
 | some v => k v
 | none => False
noncomputable def oz {α : Type} (o : Option (Option α)) (k : α -> Prop) (p : Prop) : Prop := match o with
 | some (some v) => k v
 | some none => p
 | none => False
theorem oo_ok {α : Type} {o : Option (Option α)} {k : α -> Prop} {v : α} (h : o = some (some v)) (p : k v) : oo o k := by rw [h]; exact p
theorem ov_ok {α : Type} {o : Option α} {k : α -> Prop} {v : α} (h : o = some v) (p : k v) : ov o k := by rw [h]; exact p
theorem oz_s {α : Type} {o : Option (Option α)} {k : α -> Prop} {q : Prop} {v : α} (h : o = some (some v)) (p : k v) : oz o k q := by rw [h]; exact p
theorem oz_n {α : Type} {o : Option (Option α)} {k : α -> Prop} {q : Prop} (h : o = some none) (p : q) : oz o k q := by rw [h]; exact p
theorem gd_ok {b : Bool} {p : Prop} (h : b = true) (q : p) : gd b p := by rw [h]; exact q
theorem br_t {b : Bool} {p q : Prop} (h : b = true) (x : p) : brB b p q := by rw [h]; exact x
theorem br_f {b : Bool} {p q : Prop} (h : b = false) (x : q) : brB b p q := by rw [h]; exact x
noncomputable def sC (st : St) (f : List (Option V) -> List O -> Prop) : Prop := (fun _ : Bool -> Prop -> Prop => St.rec (motive := fun _ => Prop) f st) gd
noncomputable def dmethR (m : Nat) (es : List (V × V)) (args : List V) (st : St) (k : V -> St -> Prop) : Prop := match m, args with
 | 2, [x] => oz (v9 es x) (fun v => k v st) (k .none st)
 | 2, [x, d] => oz (v9 es x) (fun v => k v st) (k d st)
 | _, _ => False
noncomputable def lmethR (m : Nat) (i : Nat) (xs : List V) (args : List V) (lc : List (Option V)) (ld : List O) (k : V -> St -> Prop) : Prop := match m, args with
 | 0, [v] => gd (Nat.ble xs.length 100000) (v5 ld i (.list (xs ++ [v])) fun l => k .none ⟨lc, l⟩)
 | 1, [] => gd (Nat.ble xs.length 100000) (ov xs.getLast? fun v => v5 ld i (.list xs.dropLast) fun l => k v ⟨lc, l⟩)
 | _, _ => False
inductive cb (F : (V -> List O -> Prop) -> Prop) (r : V -> List O -> Prop) : Prop
 | mk : F r -> cb F r
theorem cb_ok {F : (V -> List O -> Prop) -> Prop} {r : V -> List O -> Prop} (h : ∀ r', r' = r -> F r') : cb F r := ⟨h r rfl⟩
theorem cb_id {F : (V -> List O -> Prop) -> Prop} {r : V -> List O -> Prop} (h : F r) : cb F r := ⟨h⟩
theorem cb_eq {F : (V -> List O -> Prop) -> Prop} {r : V -> List O -> Prop} : cb F r = F r := propext ⟨fun ⟨h⟩ => h, cb.mk⟩
theorem z9 {r' r : V -> List O -> Prop} {v : V} {l : List O} (e : r' = r) (p : r v l) : r' v l := by rw [e]; exact p
abbrev RD := List O -> Nat -> (Option O -> Prop) -> Prop
inductive rq (led : List O) (i : Nat) (k : Option O -> Prop) : Prop
 | mk : k (getL led i) -> rq led i k
noncomputable abbrev R0 : RD := fun led i k => k (getL led i)
theorem rq_ok {led : List O} {i : Nat} {k : Option O -> Prop} {o : O} (h : getL led i = some o) (p : k (some o)) : rq led i k := by
 refine ⟨?_⟩; rw [h]; exact p
theorem rq_eq : rq = R0 := by
 funext led i k
 exact propext ⟨fun ⟨h⟩ => h, rq.mk⟩
noncomputable def isOw : V -> Bool
 | .own _ => true
 | _ => false
noncomputable def attrR (R : RD) (G : Prg) (o : V) (m : Nat) (st : St) (k : V -> St -> Prop) : Prop := match o with
 | .own i => R st.led i fun z => match z with
  | some (.inst C fs) => (match G.att C m with
   | true => (match v3 m fs with | some v => k v st | none => False)
   | false => False)
  | _ => False
 | .obj C fs => (match G.att C m with
   | true => (match v3 m fs with | some v => k v st | none => False)
   | false => False)
 | _ => False
noncomputable def subR (R : RD) (G : Prg) (a i : V) (st : St) (k : V -> St -> Prop) : Prop := match a, i with
 | .tup xs, .int n => ov (idx xs n) fun v => k v st
 | .lst xs, .int n => ov (idx xs n) fun v => k v st
 | .own o, i => R st.led o fun z => match z with
  | some (.list xs) => (match i with
   | .int n => ov (idx xs n) fun v => k v st
   | _ => False)
  | some (.dict es) => oo (v9 es i) fun v => k v st
  | _ => False
 | .top (.ref d), i => (match G.stat d with
  | some es => oo (v9 es i) fun v => k v st
  | none => False)
 | _, _ => False
noncomputable def mkR (R : RD) (G : Prg) (u : V) (m : Nat) (st : St) (K : MK -> St -> Prop) : Prop := match u with
 | .own i => R st.led i fun z => match z with
  | some (.inst C fs) => K (mkC G C m fs) st
  | some (.list _) => (match Nat.ble m 1 with
   | true => K (.ls i) st
   | false => K .no st)
  | some (.dict _) => (match Nat.beq m 2 with
   | true => K (.dc i) st
   | false => K .no st)
  | _ => K .no st
 | u => K (o9 G u m st.led) st
noncomputable def itemsR (R : RD) (st : St) (v : V) (K : Option (List V) -> St -> Prop) : Prop := match v with
 | .own i => R st.led i fun z => match z with | some (.list xs) => K (some xs) st | _ => K none st
 | v => K (fQ st.led v) st
noncomputable def seenR (R : RD) (led : List O) (v : V) (K : V -> Prop) : Prop := match v with
 | .own i => R led i fun z => match z with | some (.list xs) => K (.lst xs) | _ => K (.own i)
 | v => K v
noncomputable def inR (R : RD) (G : Prg) (k c : V) (led : List O) (K : Option Bool -> Prop) : Prop := match c with
 | .own i => R led i fun z => match z with
  | some (.dict es) => K ((v9 es k).map (·.isSome))
  | some (.list xs) => K (memL k xs)
  | _ => K none
 | c => K (inK G k c led)
noncomputable def copR (R : RD) (G : Prg) (op : Cop) (a b : V) (lc : List (Option V)) (ld : List O) (k : Bool -> St -> Prop) : Prop := match op with
 | .isIn => inR R G a b ld fun z => ov z fun r => k r ⟨lc, ld⟩
 | .notIn => inR R G a b ld fun z => ov z fun r => k (!r) ⟨lc, ld⟩
 | .eq => seenR R ld a fun a => seenR R ld b fun b => gd (Nat.ble (qZ a) 50) (ov (veq a b) fun r => k r ⟨lc, ld⟩)
 | .ne => seenR R ld a fun a => seenR R ld b fun b => gd (Nat.ble (qZ a) 50) (ov (veq a b) fun r => k (!r) ⟨lc, ld⟩)
 | op => cop G op a b ld fun r => k r ⟨lc, ld⟩
theorem mkR_eq {G : Prg} {u : V} {m : Nat} {st : St} {K : MK -> St -> Prop} : mkR R0 G u m st K = K (o9 G u m st.led) st := by
 cases u with
 | own i =>
  delta mkR o9 R0
  dsimp only
  cases getL st.led i with
  | none => rfl
  | some o => cases o <;> first | rfl | (cases Nat.ble m 1 <;> rfl) | (cases Nat.beq m 2 <;> rfl)
 | _ => rfl
theorem itemsR_eq {st : St} {v : V} {K : Option (List V) -> St -> Prop} : itemsR R0 st v K = K (fQ st.led v) st := by
 cases v with
 | own i =>
  delta itemsR fQ R0
  dsimp only
  cases getL st.led i with
  | none => rfl
  | some o => cases o <;> rfl
 | _ => rfl
theorem seenR_eq {led : List O} {v : V} {K : V -> Prop} : seenR R0 led v K = K (seen led v) := by
 cases v with
 | own i =>
  delta seenR seen R0
  dsimp only
  cases getL led i with
  | none => rfl
  | some o => cases o <;> rfl
 | _ => rfl
theorem inR_eq {G : Prg} {k c : V} {led : List O} {K : Option Bool -> Prop} : inR R0 G k c led K = K (inK G k c led) := by
 cases c with
 | own i =>
  delta inR inK R0
  dsimp only
  cases getL led i with
  | none => rfl
  | some o => cases o <;> rfl
 | _ => rfl
theorem copR_eq {G : Prg} {op : Cop} {a b : V} {lc : List (Option V)} {ld : List O} {k : Bool -> St -> Prop} : copR R0 G op a b lc ld k = cop G op a b ld fun r => k r ⟨lc, ld⟩ := by
 cases op <;> first | rfl | (delta copR; simp only [inR_eq, seenR_eq]; kernel_rfl)
noncomputable def truthR (R : RD) (v : V) (st : St) (k : Bool -> St -> Prop) : Prop := match v with
 | .none => k false st
 | .bool b => k b st
 | .int i => k (decide (i ≠ 0)) st
 | _ => False
noncomputable def bopR (R : RD) (op : Bop) (a b : V) (lc : List (Option V)) (ld : List O) (k : V -> St -> Prop) : Prop := match a, b with
 | .own i, .own j => R ld i fun x => R ld j fun y => match op, x, y with
  | .add, some (.list xs), some (.list ys) => gd (Nat.ble (xs.length + ys.length) 1000) (gZ ld fun n => w4 ld (.list (xs ++ ys)) fun l => k (.own n) ⟨lc, l⟩)
  | _, _, _ => False
 | a, b => bop op a b ld fun r l => k r ⟨lc, l⟩
theorem bopR_eq {op : Bop} {a b : V} {lc : List (Option V)} {ld : List O} {k : V -> St -> Prop} : bopR R0 op a b lc ld k = bop op a b ld fun r l => k r ⟨lc, l⟩ := by
 cases a <;> cases b <;> rfl
noncomputable def stepR (R : RD) (G : Prg) (Γ : Nat -> Option (Nat × r8)) (n : Nat) (W : J -> Prop) : J -> Prop
 | .es l st k => (match l with
  | [] => k [] st
  | x :: r => W (.e x st fun v st => W (.es r st fun vs st => k (v :: vs) st)))
 | .al l st k => (match l with
  | [] => k true st
  | x :: r => W (.t x st fun b st => brB b (W (.al r st k)) (k false st)))
 | .ol l st k => (match l with
  | [] => k false st
  | x :: r => W (.t x st fun b st => brB b (k true st) (W (.ol r st k))))
 | .t x st k => (match x with
  | .not a => W (.t a st fun b st => k (!b) st)
  | .and l => W (.al l st k)
  | .or l => W (.ol l st k)
  | x => W (.e x st fun v st => truthR R v st k))
 | .it x st k => (match x with
  | .range [a] => W (.e a st fun v st => match v with
   | .int b => gd (Nat.ble b.natAbs 1000000) (k .none (j3 b.toNat 0) st)
   | _ => False)
  | .range [a, b] => W (.e a st fun v st => W (.e b st fun u st => match v, u with
   | .int a, .int b => gd (Nat.ble a.natAbs 1000000) (gd (Nat.ble b.natAbs 1000000) (k .none (j3 (b - a).toNat a) st))
   | _, _ => False))
  | x => W (.e x st fun v st => itemsR R st v fun z st => match z with
   | some xs => k v xs st
   | none => False))
 | .call f args led r => (match Γ f with
  | some (m, sp) => gd (Nat.ble m n) (sp args led r)
  | none => match G.body f with
   | some (m, ps) => gd (arOk (G.ar f) args.length) (cb (fun r => W (.b ps ⟨hZ args m, led⟩ (fun st => r .none st.led) r)) r)
   | none => False)
 | .e x st k => (match x with
  | .loc i => (match getL st.loc i with
   | some (some v) => k v st
   | _ => False)
  | .con v => k v st
  | .glob v => k v st
  | .neg a => W (.e a st fun v st => match v with
   | .int i => k (.int (-i)) st
   | _ => False)
  | .not a => W (.e a st fun v st => truthR R v st fun b st => k (.bool (!b)) st)
  | .and l => (match l with
   | [] => False
   | [a] => W (.e a st k)
   | a :: r => W (.e a st fun v st => match v with
    | .bool b => brB b (W (.e (.and r) st k)) (k (.bool false) st)
    | _ => False))
  | .or l => (match l with
   | [] => False
   | [a] => W (.e a st k)
   | a :: r => W (.e a st fun v st => match v with
    | .bool b => brB b (k (.bool true) st) (W (.e (.or r) st k))
    | _ => False))
  | .bin op a b => W (.e a st fun u st => W (.e b st fun v st => sC st fun lc ld => bopR R op u v lc ld k))
  | .cmp op a b => W (.e a st fun u st => W (.e b st fun v st => sC st fun lc ld => copR R G op u v lc ld fun r st => k (.bool r) st))
  | .cmp2 _ _ _ _ _ => False
  | .ite _ _ _ => False
  | .call f as => W (.es as st fun vs st => sC st fun lc ld => W (.call f vs ld fun v l => k v ⟨lc, l⟩))
  | .new C as => W (.es as st fun vs st => sC st fun lc ld => gZ ld fun i => w4 ld (.inst C []) fun l => match G.init C with
   | some (some f) => W (.call f (.own i :: vs) l fun v l => gd (isNone v) (k (.own i) ⟨lc, l⟩))
   | some none => (match vs with
    | [] => k (.own i) ⟨lc, l⟩
    | _ => False)
   | none => False)
  | .meth o m as => W (.e o st fun u st => mkR R G u m st fun z st => match z with
   | .fn f => W (.es as st fun vs st => sC st fun lc ld => W (.call f (u :: vs) ld fun v l => k v ⟨lc, l⟩))
   | .ls i => W (.es as st fun vs st => sC st fun lc ld => R ld i fun z => match z with
    | some (.list xs) => lmethR m i xs vs lc ld k
    | _ => False)
   | .dc i => W (.es as st fun vs st => R st.led i fun z => match z with
    | some (.dict es) => dmethR m es vs st k
    | _ => False)
   | .st es => W (.es as st fun vs st => dmethR m es vs st k)
   | .no => False)
  | .len a => W (.e a st fun v st => match v with
   | .tup xs => gd (Nat.ble xs.length 1000000) (k (.int xs.length) st)
   | .lst xs => gd (Nat.ble xs.length 1000000) (k (.int xs.length) st)
   | .own i => (R st.led i fun z => match z with
    | some (.list xs) => gd (Nat.ble xs.length 1000000) (k (.int xs.length) st)
    | some (.dict es) => gd (Nat.ble es.length 1000000) (k (.int es.length) st)
    | _ => False)
   | _ => False)
  | .ord a => W (.e a st fun v st => match v with
   | .str s => (match s.cps.toList with
    | [c] => k (.int c) st
    | _ => False)
   | _ => False)
  | .strOf a => W (.e a st fun v st => match v with
   | .int i => gd (Nat.blt i.natAbs (10 ^ 10)) (k (.str (Str.ofString (toString i))) st)
   | _ => False)
  | .tupOf a => W (.e a st fun v st => match v with
   | .own i => (R st.led i fun z => match z with
    | some (.list xs) => gd (Nat.ble xs.length 100000) (k (.tup xs) st)
    | _ => False)
   | _ => False)
  | .attr o m => W (.e o st fun v st => attrR R G v m st k)
  | .sub a i => W (.e a st fun u st => W (.e i st fun v st => subR R G u v st k))
  | .slTo a m => W (.e a st fun v st => match v with
   | .lst xs => gd (Nat.ble xs.length 1000) (sC st fun lc ld => gZ ld fun i => w4 ld (.list (xs.take m)) fun l => k (.own i) ⟨lc, l⟩)
   | _ => False)
  | .rev a => W (.e a st fun v st => match v with
   | .tup xs => gd (Nat.ble xs.length 1000) (k (.tup xs.reverse) st)
   | _ => False)
  | .copy a => W (.e a st fun v st => match v with
   | .own i => sC st fun lc ld => (R ld i fun z => match z with
    | some (.list xs) => gd (Nat.ble xs.length 1000) (gZ ld fun j => w4 ld (.list xs) fun l => k (.own j) ⟨lc, l⟩)
    | _ => False)
   | _ => False)
  | .tup l => W (.es l st fun vs st => k (.tup vs) st)
  | .list l => W (.es l st fun vs st => sC st fun lc ld => gZ ld fun i => w4 ld (.list vs) fun l => k (.own i) ⟨lc, l⟩)
  | .dict ks vs => (match ks, vs with
   | [], [] => sC st fun lc ld => gZ ld fun i => w4 ld (.dict []) fun l => k (.own i) ⟨lc, l⟩
   | ks, vs => W (.es ks st fun us st => W (.es vs st fun ws st => gd (lZ us) (sC st fun lc ld => gZ ld fun i => w4 ld (.dict (us.zip ws)) fun l => k (.own i) ⟨lc, l⟩))))
  | .comp e caps it => W (.it it st fun v xs st => gd (Nat.ble xs.length 1000) (sC st fun lc ld => gZ ld fun i => w4 ld (.list []) fun l =>
    forL (fun x st' kk => W (.e e ⟨some x :: g0 lc caps, st'.led⟩ fun u st'' => R st''.led i fun z => match z with
     | some (.list ys) => gd (Nat.ble ys.length 100000) (v5 st''.led i (.list (ys ++ [u])) fun l => still v xs l (kk ⟨lc, l⟩))
     | _ => False)) xs ⟨lc, l⟩ fun st' => k (.own i) st'))
  | .range _ => False
  | .bad => False)
 | .b l st k r => (match l with
  | [] => k st
  | x :: rest => W (.s x st (fun st => W (.b rest st k r)) r))
 | .s x st k r => (match x with
  | .asg i e => W (.e e st fun v st => sC st fun lc ld => v5 lc i (some v) fun l => k ⟨l, ld⟩)
  | .asgT is e => W (.e e st fun v st => match v with
   | .tup vs => sC st fun lc ld => bindT is vs lc fun l => k ⟨l, ld⟩
   | _ => False)
  | .setA o m e => W (.e e st fun v st => W (.e o st fun u st => match u with
   | .own i => sC st fun lc ld => (R ld i fun z => match z with
    | some (.inst C fs) => (match G.att C m with
     | true => gd (Nat.ble fs.length 100) (v5 ld i (.inst C (a8 m v fs)) fun l => k ⟨lc, l⟩)
     | false => False)
    | _ => False)
   | _ => False))
  | .setI o i e => W (.e e st fun v st => W (.e o st fun u st => W (.e i st fun j st => match u with
   | .own a => sC st fun lc ld => (R ld a fun z => match z with
    | some (.list xs) => (match j with
     | .int (.ofNat p) => gd (Nat.blt p xs.length) (gd (Nat.ble p 1000000) (v5 ld a (.list (xs.set p v)) fun l => k ⟨lc, l⟩))
     | _ => False)
    | some (.dict es) => ov (v9 es j) fun _ => gd (Nat.ble es.length 100000) (v5 ld a (.dict (u3 es j v)) fun l => k ⟨lc, l⟩)
    | _ => False)
   | _ => False)))
  | .augL _ _ _ => False
  | .augA o m op e => W (.e o st fun u st => attrR R G u m st fun x st => W (.e e st fun v st => match op, x, v, u with
   | .add, .int a, .int b, .own i => sC st fun lc ld => (R ld i fun z => match z with
    | some (.inst C fs) => (match G.att C m with
     | true => gd (Nat.ble fs.length 100) (v5 ld i (.inst C (a8 m (.int (a + b)) fs)) fun l => k ⟨lc, l⟩)
     | false => False)
    | _ => False)
   | _, _, _, _ => False))
  | .ex e => W (.e e st fun _ st => k st)
  | .ret e => W (.e e st fun v st => sC st fun _ ld => r v ld)
  | .retN => sC st fun _ ld => r .none ld
  | .cond c a b => W (.t c st fun q st => brB q (W (.b a st k r)) (W (.b b st k r)))
  | .whl c b => whlU (fun st k => W (.t c st k)) (fun st k => W (.b b st k r)) 400 st k
  | .for_ i it b => W (.it it st fun v xs st => forL (fun x st kk => sC st fun lc ld => v5 lc i (some x) fun l => W (.b b ⟨l, ld⟩ (fun st => still v xs st.led (kk st)) r)) xs st k)
  | .forT is it b => W (.it it st fun v xs st => forL (fun x st kk => match x with
   | .tup us => sC st fun lc ld => bindT is us lc fun l => W (.b b ⟨l, ld⟩ (fun st => still v xs st.led (kk st)) r)
   | _ => False) xs st k)
  | .bad => False
  | .delAll a => W (.e a st fun v st => match v with
   | .own i => sC st fun lc ld => (R ld i fun z => match z with
    | some (.list xs) => gd (Nat.ble xs.length 100000) (v5 ld i (.list []) fun l => k ⟨lc, l⟩)
    | _ => False)
   | _ => False)
  | .pass => k st)
noncomputable def stepW (G : Prg) (Γ : Nat -> Option (Nat × r8)) (n : Nat) (W : J -> Prop) : J -> Prop := stepR rq G Γ n W
noncomputable def wf (G : Prg) (Γ : Nat -> Option (Nat × r8)) (n : Nat) : J -> Prop := Nat.rec (fun _ => False) (fun n ih => stepR rq G Γ n ih) n
theorem step_wp (G : Prg) (Γ : Nat -> Option (Nat × r8)) (n : Nat) (j : J) : stepR R0 G Γ n (wp G Γ n) j = wp G Γ (n + 1) j := by
 cases j with
 | e x st k =>
  cases x with
  | meth o m as =>
   show wp G Γ n (.e o st fun u st => mkR R0 G u m st _) = _
   simp only [mkR_eq]
   kernel_rfl
  | bin op a b =>
   show wp G Γ n (.e a st fun u st => wp G Γ n (.e b st fun v st => bopR R0 op u v st.loc st.led _)) = _
   simp only [bopR_eq]
   kernel_rfl
  | cmp op a b =>
   show wp G Γ n (.e a st fun u st => wp G Γ n (.e b st fun v st => copR R0 G op u v st.loc st.led _)) = _
   simp only [copR_eq]
   kernel_rfl
  | _ => kernel_rfl
 | it x st k =>
  cases x with
  | range l => rcases l with _ | ⟨a, _ | ⟨b, _ | ⟨c, l⟩⟩⟩ <;> first | rfl | (show wp G Γ n (.e _ st fun v st => itemsR R0 st v _) = _; simp only [itemsR_eq]; kernel_rfl)
  | _ =>
   show wp G Γ n (.e _ st fun v st => itemsR R0 st v _) = _
   simp only [itemsR_eq]
   kernel_rfl
 | s x st k r => cases x <;> kernel_rfl
 | call f args led r =>
  show (match Γ f with
   | some (m, sp) => gd (Nat.ble m n) (sp args led r)
   | none => match G.body f with
    | some (m, ps) => gd (arOk (G.ar f) args.length) (cb (fun r => wp G Γ n (.b ps ⟨hZ args m, led⟩ (fun st => r .none st.led) r)) r)
    | none => False) = _
  simp only [cb_eq]
  kernel_rfl
 | _ => kernel_rfl
theorem wf_eq (G : Prg) (Γ : Nat -> Option (Nat × r8)) : ∀ n, wf G Γ n = wp G Γ n
 | 0 => by funext j; rfl
 | n + 1 => by
  funext j
  show stepR rq G Γ n (wf G Γ n) j = _
  rw [wf_eq G Γ n, rq_eq, step_wp]
theorem em_cases {z : Int} {n : Nat} {P : Int -> Prop} (hn : 0 < n) (h : ∀ m : Nat, m < n -> P (m : Int)) : P (z % (n : Int)) := by
 have h0 : (0 : Int) < n := Int.ofNat_lt.mpr hn
 obtain ⟨m, hm⟩ := Int.eq_ofNat_of_zero_le (Int.emod_nonneg z (Int.ne_of_gt h0))
 have := Int.emod_lt_of_pos z h0
 rw [hm] at this ⊢
 exact h m (Int.ofNat_lt.mp this)
theorem bt_cases {a k : Int} {n : Nat} {P : Int -> Prop} (h0 : a ≤ k) (h1 : k ≤ a + n) (h : ∀ m : Nat, m < n + 1 -> P (a + m)) : P k := by
 obtain ⟨m, hm⟩ := Int.eq_ofNat_of_zero_le (Int.sub_nonneg_of_le h0)
 have e : k = a + m := by rw [← hm, Int.add_comm, Int.sub_add_cancel]
 rw [e] at h1 ⊢
 exact h m (Nat.lt_succ_of_le (Int.ofNat_le.mp (Int.le_of_add_le_add_left h1)))
theorem far {i j : Nat} (h : 56 < i) (hj : Nat.ble j 56 = true) : i ≠ j := fun e => absurd (e ▸ h : 56 < j) (Nat.not_lt_of_le (Nat.le_of_ble_eq_true hj))
theorem bl {n : Nat} (h : n ≤ 99999) : Nat.ble n 100000 = true := Nat.ble_eq.mpr (Nat.le_trans h (by decide))
theorem bl1 {n : Nat} (h : n ≤ 36) : Nat.ble (n + 1) 100000 = true := bl (Nat.le_trans (Nat.succ_le_succ h) (by decide))
theorem bl0 {n : Nat} (h : n ≤ 36) : Nat.ble n 100000 = true := bl (Nat.le_trans h (by decide))
theorem addr_inj {i j : Nat} (e : addr i = addr j) : i = j := Int.ofNat.inj (Int.eq_of_mul_eq_mul_left (by decide : (3 : Int) ≠ 0) (Int.add_left_cancel e))
theorem addr_0 (j : Nat) : addr j ≠ 0 := Int.ne_of_gt (Int.lt_of_lt_of_le (by decide : (0 : Int) < 16) (Int.le_add_of_nonneg_right (Int.mul_nonneg (by decide) (Int.natCast_nonneg j))))
theorem nn (i : Nat) : ¬ (i : Int) < 0 := Int.not_lt.mpr (Int.natCast_nonneg i)
theorem ab {y : Int} {n : Nat} (h : 0 ≤ y) (h2 : y < n) : y.natAbs < n := by
 obtain ⟨m, rfl⟩ := Int.eq_ofNat_of_zero_le h
 exact Int.ofNat_lt.mp h2
theorem ab2 {y : Int} {n : Nat} (h : -(n : Int) ≤ y) (h2 : y ≤ n) : y.natAbs ≤ n := by omega
theorem ad_lt {f i : Int} (h : f < i) : addr f ≤ addr i - 1 := by unfold addr; omega
theorem fi {f : Int} {i n : Nat} (h : f < i) (l : i < n) : f < n := Int.lt_trans h (Int.ofNat_lt.mpr l)
theorem no_addr {j n : Nat} (hj : j < n) (e : addr (j : Int) = 16 + 3 * (n : Int)) : False := Nat.ne_of_lt hj (addr_inj e)
theorem ax1 (n : Nat) : (16 : Int) + 3 * (n : Int) + 3 = 16 + 3 * ((n + 1 : Nat) : Int) := by omega
theorem ax2 (n : Nat) : (3 : Int) * (n : Int) + 3 = 3 * ((n + 1 : Nat) : Int) := by omega
theorem ax3 (n : Nat) : (n : Int) + 1 = ((n + 1 : Nat) : Int) := rfl
end Mine
end
set_option hygiene false in
local macro_rules
  | `(tactic| erw [$l,*]) => do
    let rs := l.getElems
    let e ← rs.mapM fun r => `(tactic| exact $(⟨r.raw[1]⟩))
    let u ← (rs.filter fun r => r.raw[0].isNone).mapM fun r => `(tactic| rw [$(⟨r.raw[1]⟩):term])
    let mut A : Array (Lean.TSyntax `tactic) := #[]
    if e.size != 0 then
      let G ← `(term| by first $[| $e:tactic]*)
      let F ← `(term| by with_reducible $(⟨G.raw[1]⟩))
      for n in [`rq_ok, `gd_ok, `oo_ok, `ov_ok, `br_t, `br_f, `oz_s, `oz_n] do
        A := A.push (← `(tactic| refine $(Lean.mkIdent n) $(if n == `rq_ok then G else F) ?_))
    for c in ← [``(cb_id (r := ‹V -> List O -> Prop›) ?_), ``(cb_ok fun _ _ => ?_), ``(z9 (by assumption) ?_)].mapM id do
      A := A.push (← `(tactic| refine $c))
    if u.size != 0 then A := A.push (← `(tactic| ((try conv => whnf); first $[| $u:tactic]*)))
    A := A.push (← `(tactic| ((conv => whnf); $(A[A.size - (if u.size == 0 then 1 else 2)]!))))
    `(tactic| ((try dsimp only); repeat first $[| $A:tactic]*))
section
open PySem
namespace Mine
noncomputable def a0 (x : Int) : Int := (x + 2147483648) % 4294967296 - 2147483648
theorem mask_eq (x : Int) : Builtin.bitAnd x 4294967295 = x % 4294967296 := PyProof.Rows.bitAnd_m32 x
theorem kZ (a : Int) {b : Int} (h : 0 < b) : a.fdiv b = a / b := by rw [Int.fdiv_eq_ediv_of_nonneg _ (Int.le_of_lt h)]
theorem k6 (a : Int) {b : Int} (h : 0 < b) : a.fmod b = a % b := by rw [Int.fmod_eq_emod_of_nonneg _ (Int.le_of_lt h)]
theorem fd_bd {z b M : Int} (h0 : 0 ≤ z) (h1 : z < M) (hb : 0 < b) : 0 ≤ z.fdiv b ∧ z.fdiv b < M := by
 rw [kZ _ hb]
 exact ⟨Int.ediv_nonneg h0 (Int.le_of_lt hb), Int.lt_of_le_of_lt (Int.ediv_le_self _ h0) h1⟩
theorem fm_ge {z b : Int} (hb : 0 < b) : 0 ≤ z.fmod b ∧ z.fmod b < b := by
 rw [k6 _ hb]
 exact ⟨Int.emod_nonneg _ (Int.ne_of_gt hb), Int.emod_lt_of_pos _ hb⟩
theorem sx (s i : Nat) : s + (i + 1) = s + 1 + i := (Nat.add_right_comm s i 1)
theorem wrap_eq (x : Int) : a0 x = (x % 4294967296 + 2147483648) % 4294967296 - 2147483648 := by rw [Int.emod_add_emod]; rfl
theorem wr_lo {y : Int} (h0 : 0 ≤ y) (h1 : y < 2147483648) : (y + 2147483648) % 4294967296 = y + 2147483648 := Int.emod_eq_of_lt (Int.add_nonneg h0 (by decide)) (Int.add_lt_add_right h1 2147483648)
theorem wr_hi {y : Int} (h0 : 2147483648 ≤ y) (h1 : y < 4294967296) : (y + 2147483648) % 4294967296 = y - 2147483648 := by
 have e : y + 2147483648 = y - 2147483648 + 4294967296 := by rw [show (4294967296 : Int) = 2147483648 + 2147483648 from rfl, ← Int.add_assoc, Int.sub_add_cancel]
 rw [e, Int.add_emod_right]
 exact Int.emod_eq_of_lt (Int.sub_nonneg_of_le h0) (Int.lt_of_le_of_lt (Int.sub_le_self _ (by decide)) h1)
noncomputable def S287 : r8 := fun args led r => match args with
 | [.int x] => ∀ y, y = a0 x -> r (.int y) led
 | _ => False
theorem ok287 (args : List V) (led : List O) (r : V -> List O -> Prop) (h : S287 args led r) : wf G (gm []) 14 (.call 287 args led r) := by
 unfold S287 at h
 split at h
 ·rename_i x
  erw []; try conv => whnf
  have e : Builtin.bitAnd x (1 * 2 ^ Int.toNat 32 - 1) = x % 4294967296 := mask_eq x
  have e2 : (x % 4294967296).fdiv (2 ^ (32 - 1 : Int).toNat) = x % 4294967296 / 2147483648 := kZ _ (by decide)
  have e3 : (1 : Int) * 2 ^ Int.toNat 32 = 4294967296 := by decide
  have key : ∀ v, v = a0 x -> r (.int v) led := h
  have h0 : 0 ≤ x % 4294967296 := Int.emod_nonneg _ (by decide)
  have h1 : x % 4294967296 < 4294967296 := Int.emod_lt_of_pos _ (by decide)
  split
  ·rename_i hb
   erw []; try conv => whnf
   (repeat refine z9 (by assumption) ?_); refine key _ ?_
   rw [e, e2] at hb
   rw [e, wrap_eq, wr_hi (Int.not_lt.mp fun l => of_decide_eq_true hb (Int.ediv_eq_zero_of_lt h0 l)) h1, Int.sub_sub]
   rfl
  ·rename_i hb
   erw []; try conv => whnf
   (repeat refine z9 (by assumption) ?_); refine key _ ?_
   rw [e, e2] at hb
   rw [e, wrap_eq, wr_lo h0 (Int.not_le.mp fun l => of_decide_eq_false hb (Int.ne_of_gt (Int.lt_of_lt_of_le (by decide) (Int.le_ediv_of_mul_le (c := 2147483648) (by decide) (a := 1) l)))), Int.add_sub_cancel]
 ·exact h.elim
theorem idx_nat {xs : List V} {i : Nat} (h : i ≤ 1000000) : idx xs (i : Int) = getL xs i := by
 show (match Nat.ble i 1000000 with | true => getL xs i | false => none) = _
 rw [Nat.ble_eq.mpr h]
theorem intKeys : ∀ {es : List (V × V)} {a : Int}, (∀ p ∈ es, ∃ b, p.1 = .int b) -> kfit es (.int a) = true
 | [], _, _ => rfl
 | (k, v) :: r, a, h => by
  obtain ⟨b, hb⟩ := h _ (.head _)
  simp only at hb
  subst hb
  rfl
theorem dget_app {k a v : V} : ∀ {es : List (V × V)}, (∀ u, j1 es k = some (some u) -> j1 (es ++ [(a, v)]) k = some (some u)) ∧ (j1 es k = some none -> j1 (es ++ [(a, v)]) k = (match veq a k with
  | some true => some (some v)
  | some false => some none
  | none => none))
 | [] => ⟨fun u h => by simp [j1] at h, fun _ => by
  show j1 [(a, v)] k = _
  unfold j1
  rfl⟩
 | (b, w) :: r => by
  obtain ⟨h1, h2⟩ := @dget_app k a v r
  have e0 : ∀ es, j1 ((b, w) :: es) k = (match veq b k with
   | some true => some (some w)
   | some false => j1 es k
   | none => none) := fun es => rfl
  rw [List.cons_append, e0, e0]
  generalize veq b k = z
  cases z with
  | none => exact ⟨fun u h => (nomatch h), fun h => (nomatch h)⟩
  | some t =>
   cases t with
   | true => exact ⟨fun u h => h, fun h => (nomatch h)⟩
   | false => exact ⟨h1, h2⟩
theorem atL_keys (th : Nat -> Nat) : ∀ (n : Nat), ∀ p ∈ atL th n, ∃ i, i < n ∧ p = (.int (addr i), .own (th i))
 | 0, p, h => by cases h
 | n + 1, p, h => by
  rcases List.mem_append.mp h with h | h
  ·obtain ⟨i, hi, e⟩ := atL_keys th n p h
   exact ⟨i, Nat.lt_succ_of_lt hi, e⟩
  ·exact ⟨n, Nat.lt_succ_self _, List.mem_singleton.mp h⟩
theorem atL_int (th : Nat -> Nat) (n : Nat) : ∀ p ∈ atL th n, ∃ b, p.1 = .int b := fun p h => by obtain ⟨i, _, rfl⟩ := atL_keys th n p h; exact ⟨_, rfl⟩
theorem atL_dget (th : Nat -> Nat) : ∀ (n i : Nat), i < n -> j1 (atL th n) (.int (addr i)) = some (some (.own (th i)))
 | 0, i, h => absurd h (Nat.not_lt_zero _)
 | n + 1, i, h => by
  show j1 (atL th n ++ [(.int (addr n), .own (th n))]) _ = _
  rcases Nat.lt_or_ge i n with hi | hi
  ·exact dget_app.1 _ (atL_dget th n i hi)
  ·obtain rfl : i = n := Nat.le_antisymm (Nat.le_of_lt_succ h) hi
   have : j1 (atL th i) (.int (addr i)) = some none := atL_no th i (addr i) fun j hj e => no_addr hj e
   rw [dget_app.2 this]
   simp [veq]
where atL_no (th : Nat -> Nat) : ∀ (n : Nat) (a : Int), (∀ j : Nat, j < n -> addr j ≠ a) -> j1 (atL th n) (.int a) = some none
 | 0, _, _ => rfl
 | n + 1, a, h => by
  show j1 (atL th n ++ [(.int (addr n), .own (th n))]) _ = _
  rw [dget_app.2 (atL_no th n a fun j hj => h j (Nat.lt_succ_of_lt hj))]
  have := h n (Nat.lt_succ_self _)
  simp [veq, this]
theorem k9 {th : Nat -> Nat} {n i : Nat} (h : i < n) : v9 (atL th n) (.int (addr i)) = some (some (.own (th i))) := by
 unfold v9; rw [intKeys (atL_int th n)]; exact atL_dget th n i h
theorem dlook_no {th : Nat -> Nat} {n : Nat} {a : Int} (h : ∀ j : Nat, j < n -> addr j ≠ a) : v9 (atL th n) (.int a) = some none := by
 unfold v9; rw [intKeys (atL_int th n)]; exact atL_dget.atL_no th n a h
theorem j9 {W : List Row} {i : Nat} {q : Row} (h : W[i]? = some q) : i < W.length := (List.getElem?_eq_some_iff.mp h).1
theorem Base.m3 {led : List O} (B : Base led) : o9 G (.own 3) 8 led = .fn 77 := b7 B.c3 (by kernel_rfl) (by kernel_rfl)
theorem Base.p3 {led : List O} (B : Base led) : o9 G (.own 3) 9 led = .fn 84 := b7 B.c3 (by kernel_rfl) (by kernel_rfl)
theorem Base.t20 {led : List O} (B : Base led) : o9 G (.own 20) 75 led = .fn 652 := b7 B.c20 (by kernel_rfl) (by kernel_rfl)
theorem Base.n20 {led : List O} (B : Base led) : o9 G (.own 20) 76 led = .fn 666 := b7 B.c20 (by kernel_rfl) (by kernel_rfl)
theorem Base.a20 {led : List O} (B : Base led) : o9 G (.own 20) 70 led = .fn 638 := b7 B.c20 (by kernel_rfl) (by kernel_rfl)
theorem Base.w20 {led : List O} (B : Base led) : o9 G (.own 20) 72 led = .fn 589 := b7 B.c20 (by kernel_rfl) (by kernel_rfl)
theorem Base.k20 {led : List O} (B : Base led) : o9 G (.own 20) 67 led = .fn 512 := b7 B.c20 (by kernel_rfl) (by kernel_rfl)
theorem Base.b46 {led : List O} (B : Base led) : o9 G (.own 46) 68 led = .fn 442 := b7 B.c46 (by kernel_rfl) (by kernel_rfl)
theorem Base.m47 {led : List O} (B : Base led) : o9 G (.own 47) 77 led = .fn 914 := b7 B.c47 (by kernel_rfl) (by kernel_rfl)
theorem Base.m48 {led : List O} (B : Base led) : o9 G (.own 48) 77 led = .fn 933 := b7 B.c48 (by kernel_rfl) (by kernel_rfl)
theorem Base.m49 {led : List O} (B : Base led) : o9 G (.own 49) 77 led = .fn 952 := b7 B.c49 (by kernel_rfl) (by kernel_rfl)
theorem Base.m50 {led : List O} (B : Base led) : o9 G (.own 50) 77 led = .fn 971 := b7 B.c50 (by kernel_rfl) (by kernel_rfl)
theorem Base.m51 {led : List O} (B : Base led) : o9 G (.own 51) 77 led = .fn 990 := b7 B.c51 (by kernel_rfl) (by kernel_rfl)
noncomputable def letters (s : Str) : Int := s.cps.toList.foldl (fun (h : Int) (c : Nat) => h * 33 + c) 5381
noncomputable def fold (n : Int) : Int := n / 4294967296 % 4294967296 + n % 4294967296 - 2 * Builtin.bitAnd (n / 4294967296 % 4294967296) (n % 4294967296)
inductive S851 (args : List V) (led : List O) (r : V -> List O -> Prop) : Prop
 | mk (s : Str) : args = [.str s] -> s ∈ texts -> r (.int (a0 (letters s))) led -> S851 args led r
inductive S1040 (args : List V) (led : List O) (r : V -> List O -> Prop) : Prop
 | mk (s : Str) : args = [.str s] -> s ∈ texts -> r (.int (letters s)) led -> S1040 args led r
noncomputable def C1 : Ctx := [(287, (14, S287))]
theorem it_str (led : List O) (s : Str) : fQ led (.str s) = some (chars s) := rfl
theorem chars0 : chars (zz "") = [] := by kernel_rfl
theorem chars1 : chars (zz "ab") = [.str ⟨#[97]⟩, .str ⟨#[98]⟩] := by kernel_rfl
theorem chars2 : chars (zz "ba") = [.str ⟨#[98]⟩, .str ⟨#[97]⟩] := by kernel_rfl
theorem chars3 : chars (zz "ab!") = [.str ⟨#[97]⟩, .str ⟨#[98]⟩, .str ⟨#[33]⟩] := by kernel_rfl
theorem ok851 (args : List V) (led : List O) (r : V -> List O -> Prop) (h : S851 args led r) : wf G (gm C1) 30 (.call 851 args led r) := by
 obtain ⟨s, rfl, hs, h⟩ := h
 have key : ∀ v, v = a0 (letters s) -> r (.int v) led := fun v hv => hv ▸ h
 simp only [texts, List.mem_cons, List.not_mem_nil, or_false] at hs
 rcases hs with rfl | rfl | rfl | rfl
 ·erw []; try conv => whnf
  intro y hy
  subst hy
  (repeat refine z9 (by assumption) ?_); refine key _ ?_
  decide +kernel
 ·erw []; try conv => whnf
  intro y hy
  subst hy
  (repeat refine z9 (by assumption) ?_); refine key _ ?_
  decide +kernel
 ·erw []; try conv => whnf
  intro y hy
  subst hy
  (repeat refine z9 (by assumption) ?_); refine key _ ?_
  decide +kernel
 ·erw []; try conv => whnf
  intro y hy
  subst hy
  (repeat refine z9 (by assumption) ?_); refine key _ ?_
  decide +kernel
theorem ok1040 (args : List V) (led : List O) (r : V -> List O -> Prop) (h : S1040 args led r) : wf G (gm []) 24 (.call 1040 args led r) := by
 obtain ⟨s, rfl, hs, h⟩ := h
 have key : ∀ v, v = letters s -> r (.int v) led := fun v hv => hv ▸ h
 simp only [texts, List.mem_cons, List.not_mem_nil, or_false] at hs
 rcases hs with rfl | rfl | rfl | rfl
 ·erw []; try conv => whnf
  (repeat refine z9 (by assumption) ?_); refine key _ ?_
  decide +kernel
 ·erw []; try conv => whnf
  (repeat refine z9 (by assumption) ?_); refine key _ ?_
  decide +kernel
 ·erw []; try conv => whnf
  (repeat refine z9 (by assumption) ?_); refine key _ ?_
  decide +kernel
 ·erw []; try conv => whnf
  (repeat refine z9 (by assumption) ?_); refine key _ ?_
  decide +kernel
noncomputable def iQ (k : Int) : Bool := decide (1 ≤ k) && decide (k ≤ 11) || decide (16 ≤ k) && decide (k ≤ 18)
inductive S189 (args : List V) (led : List O) (r : V -> List O -> Prop) : Prop
 | mk (k : Int) : args = [.own 3, .int k] -> Base led -> 0 ≤ k -> k ≤ 19 -> r (.bool (iQ k)) led -> S189 args led r
theorem ok189 (args : List V) (led : List O) (r : V -> List O -> Prop) (h : S189 args led r) : wf G (gm []) 20 (.call 189 args led r) := by
 obtain ⟨k, rfl, B, h0, h1, h⟩ := h
 have key : ∀ v, v = iQ k -> r (.bool v) led := fun v hv => hv ▸ h
 obtain ⟨n, rfl⟩ : ∃ n : Nat, k = n := ⟨k.toNat, (Int.toNat_of_nonneg h0).symm⟩
 have hn : n ≤ 19 := Int.ofNat_le.mp h1
 iterate 20
  rcases n with _ | n
  ·erw [B.c3, B.c4]; try conv => whnf
   (repeat refine z9 (by assumption) ?_); refine key _ ?_
   decide +kernel
 exact absurd (Nat.le_trans (Nat.le_add_left 20 n) hn) (by decide)
theorem a7 {i : Nat} {k : Int} {sp : Sp} (w : Wf i ⟨k, sp⟩) : iQ k = b9 sp ∧ 0 ≤ k ∧ k ≤ 19 := by
 unfold Wf at w
 cases sp with
 | txt s => obtain ⟨h, _⟩ := w; subst h; exact ⟨rfl, by decide, by decide⟩
 | obj => subst w; exact ⟨rfl, by decide, by decide⟩
 | num t n =>
  simp only at w
  refine ⟨?_, w.1.elim (fun h => by rw [h.1]; decide) fun h => ⟨Int.le_trans (by decide) h.1, Int.le_trans h.2.1 (by decide)⟩⟩
  show iQ k = true
  unfold iQ
  rcases w.1 with h | h
  ·obtain ⟨rfl, _⟩ := h; rfl
  ·simp [h.1, h.2.1]
 | pair a b => obtain ⟨h, _⟩ := w; subst h; exact ⟨rfl, by decide, by decide⟩
 | whole f a b => obtain ⟨h, _⟩ := w; subst h; exact ⟨rfl, by decide, by decide⟩
inductive S734 (args : List V) (led : List O) (r : V -> List O -> Prop) : Prop
 | mk (W : List Row) (D : Ids) (i : Nat) (k : Int) (s : Str) : Inv W D led -> W[i]? = some ⟨k, .txt s⟩ -> k = 13 -> args = [.own 20, .int (addr i)] -> r (.str s) led -> S734 args led r
theorem ok734 (args : List V) (led : List O) (r : V -> List O -> Prop) (h : S734 args led r) : wf G (gm []) 22 (.call 734 args led r) := by
 obtain ⟨W, D, i, k, s, I, hq, rfl, rfl, h⟩ := h
 erw [I.c20, I.c14, I.c16, k9 (j9 hq), I.cth _ _ hq, I.csl _ _ hq]; try conv => whnf
 (repeat refine z9 (by assumption) ?_); exact h
inductive S767 (args : List V) (led : List O) (r : V -> List O -> Prop) : Prop
 | mk (W : List Row) (D : Ids) (i : Nat) (k : Int) : Inv W D led -> W[i]? = some ⟨k, .obj⟩ -> k = 19 -> args = [.own 20, .int (addr i)] -> r (.bool false) led -> S767 args led r
theorem ok767 (args : List V) (led : List O) (r : V -> List O -> Prop) (h : S767 args led r) : wf G (gm []) 30 (.call 767 args led r) := by
 obtain ⟨W, D, i, k, I, hq, rfl, rfl, h⟩ := h
 erw [I.c20, I.c14, I.c2, I.c3, I.c4, I.c9, I.c16, k9 (j9 hq), I.cth _ _ hq]; try conv => whnf
 (repeat refine z9 (by assumption) ?_); exact h
theorem d6 {h H x y z : Int} (h1 : h = a0 H) (h2 : a0 x = a0 y) (h3 : z = a0 (h * 31 + x)) : z = a0 (H * 31 + y) := by
 subst h1 h3
 unfold a0 at *
 have h2' := congrArg (· + 2147483648) h2
 simp only [Int.sub_add_cancel] at h2'
 have e1 : ∀ A : Int, (A + x + 2147483648) % 4294967296 = (A + y + 2147483648) % 4294967296 := fun A => by
  rw [Int.add_assoc, Int.add_assoc, Int.add_emod, h2', ← Int.add_emod]
 rw [e1]
 congr 1
 have e2 : ((H + 2147483648) % 4294967296 - 2147483648) = H - 4294967296 * ((H + 2147483648) / 4294967296) := by
  rw [Int.emod_def, Int.sub_sub, Int.add_comm (4294967296 * _) _, ← Int.sub_sub, Int.add_sub_cancel]
 have e3 : ∀ q Y : Int, (H - 4294967296 * q) * 31 + Y = H * 31 + Y + 4294967296 * (-(q * 31)) := fun q Y => by
  rw [Int.sub_mul, Int.mul_assoc, Int.sub_eq_add_neg, Int.add_right_comm, Int.mul_neg]
 rw [e2, Int.add_assoc, e3, Int.add_mul_emod_self_left, ← Int.add_assoc]
theorem wrap_wrap (x : Int) : a0 (a0 x) = a0 x := by unfold a0; rw [Int.sub_add_cancel, Int.emod_emod]
theorem kQ {h x : Int} (e : h = a0 x) : Nat.blt h.natAbs (2 ^ 200) = true := by
 have h0 : 0 ≤ (x + 2147483648) % 4294967296 := Int.emod_nonneg _ (by decide)
 have h1 : (x + 2147483648) % 4294967296 < 4294967296 := Int.emod_lt_of_pos _ (by decide)
 have h : h.natAbs < 2 ^ 32 := Nat.lt_of_le_of_lt (ab2 (n := 2147483648) (e ▸ Int.sub_le_sub_right h0 _) (e ▸ Int.sub_le_sub_right (Int.le_of_lt h1) 2147483648)) (by decide)
 exact Nat.ble_eq.mpr (Nat.lt_of_lt_of_le h (Nat.pow_le_pow_right (by decide) (by decide)))
theorem fold_eq (n : Int) : Builtin.bitXor (Builtin.bitAnd n 4294967295) (Builtin.bitAnd (n.fdiv 4294967296) 4294967295) = fold n := by
 rw [mask_eq, mask_eq, kZ _ (by decide), PyProof.Rows.bitXor_and, Int.add_comm, PyProof.Rows.bitAnd_comm]
 rfl
noncomputable def lawS (i : Int) : Sp -> Int
 | .txt s => letters s
 | .obj => i + 1
 | _ => 1
noncomputable def lawR (W : List Row) (f : Int) : Int := if f < 0 then 0 else match W[f.toNat]? with
 | some q => lawS f q.sp
 | none => 1
inductive Part (W : List Row) : V -> Int -> Prop
 | st (t xs : V) : Part W (.tup [.int 5, t, xs]) 17
 | num (n : Int) : Part W (.tup [.int 1, .int n]) n
 | two (t n : Int) : t = 2 ∨ t = 3 -> Part W (.tup [.int t, .int n]) (fold n)
 | ref (f : Int) : -1 ≤ f -> f < W.length -> Part W (.tup [.int 4, .int (rZ f)]) (lawR W f)
inductive S865 (args : List V) (led : List O) (r : V -> List O -> Prop) : Prop
 | mk (W : List Row) (D : Ids) (v : V) (y : Int) : Inv W D led -> w8 W D -> Part W v y -> args = [.own 20, v] -> (∀ x, a0 x = a0 y -> r (.int x) led) -> S865 args led r
noncomputable def C2 : Ctx := [(287, (14, S287)), (851, (30, S851)), (734, (22, S734)), (189, (20, S189)), (767, (30, S767))]
theorem lQ {W : List Row} {f : Int} (h0 : 0 ≤ f) (h : f < W.length) : ∃ (i : Nat) (k : Int) (sp : Sp), f = i ∧ W[i]? = some ⟨k, sp⟩ := by
 obtain ⟨i, rfl⟩ := Int.eq_ofNat_of_zero_le h0
 exact ⟨i, _, _, rfl, List.getElem?_eq_getElem (Int.ofNat_lt.mp h)⟩
theorem ok865 (args : List V) (led : List O) (r : V -> List O -> Prop) (h : S865 args led r) : wf G (gm C2) 44 (.call 865 args led r) := by
 obtain ⟨W, D, v, y, I, S, P, rfl, h⟩ := h
 cases P with
 | st t xs =>
  erw []; try conv => whnf
  (repeat refine z9 (by assumption) ?_); exact h _ rfl
 | num n =>
  erw []; try conv => whnf
  (repeat refine z9 (by assumption) ?_); exact h _ rfl
 | two t n ht =>
  rcases ht with rfl | rfl
  ·erw []; try conv => whnf
   intro y hy
   (repeat refine z9 (by assumption) ?_); refine h _ ?_
   rw [hy, wrap_wrap]
   exact congrArg a0 (fold_eq n)
  ·erw []; try conv => whnf
   intro y hy
   (repeat refine z9 (by assumption) ?_); refine h _ ?_
   rw [hy, wrap_wrap]
   exact congrArg a0 (fold_eq n)
 | ref f h1 h2 =>
  by_cases hf : f < 0
  ·have e : rZ f = 0 := by unfold rZ; rw [if_pos hf]
   have e2 : lawR W f = 0 := by unfold lawR; rw [if_pos hf]
   rw [e]
   erw []; try conv => whnf
   (repeat refine z9 (by assumption) ?_); refine h _ ?_
   rw [e2]
  ·obtain ⟨i, k, sp, rfl, hq⟩ := lQ (Int.not_lt.mp hf) h2
   have e : rZ i = addr i := by unfold rZ; rw [if_neg hf]
   rw [e]
   have hz : decide (addr i = 0) = false := decide_eq_false (addr_0 i)
   have e2 : lawR W i = lawS i sp := by unfold lawR; rw [if_neg hf, Int.toNat_natCast, hq]
   have w := S.wf _ _ hq
   have hb := a7 w
   rw [e2] at h
   cases sp with
   | txt s =>
    obtain ⟨hk, hs⟩ := w
    simp only at hk
    subst hk
    erw [hz, I.c20, I.c14, I.c16, k9 (j9 hq), I.cth _ _ hq]; try conv => whnf
    refine ⟨W, D, i, 13, s, I, hq, rfl, rfl, ?_⟩
    erw []; try conv => whnf
    refine ⟨s, rfl, hs, ?_⟩
    (repeat refine z9 (by assumption) ?_); exact h _ (wrap_wrap _)
   | obj =>
    change k = 19 at w
    subst w
    erw [hz, I.c20, I.c14, I.c16, k9 (j9 hq), I.cth _ _ hq]; try conv => whnf
    refine ⟨19, rfl, I.toBase, by decide, by decide, ?_⟩
    erw []; try conv => whnf
    refine ⟨W, D, i, 19, I, hq, rfl, rfl, ?_⟩
    erw [I.cth _ _ hq]; try conv => whnf
    (repeat refine z9 (by assumption) ?_); exact h _ rfl
   | _ =>
    have hk : decide (k = 13) = false := decide_eq_false fun z => by subst z; exact absurd (show iQ 13 = true from hb.1) (by decide)
    have hv : iQ k = true := hb.1
    erw [hz, hk, I.c20, I.c14, I.c16, k9 (j9 hq), I.cth _ _ hq]; try conv => whnf
    refine ⟨k, rfl, I.toBase, hb.2.1, hb.2.2, ?_⟩
    erw [hv]; try conv => whnf
    (repeat refine z9 (by assumption) ?_); exact h _ rfl
noncomputable def partsL (W : List Row) : Sp -> List Int
 | .num t n => [if t = 1 then n else fold n]
 | .pair a b => [17, fold b, a]
 | .whole f a b => [17, 17, fold b, a, lawR W f]
 | _ => []
noncomputable def total (l : List Int) : Int := l.foldl (fun h p => h * 31 + p) 0
inductive S872 (args : List V) (led : List O) (r : V -> List O -> Prop) : Prop
 | mk (W : List Row) (D : Ids) (i : Nat) (k : Int) (sp : Sp) : Inv W D led -> w8 W D -> W[i]? = some ⟨k, sp⟩ -> b9 sp = true -> args = [.own 20, valV sp] -> (∀ led', Sub led led' -> r (.int (a0 (total (partsL W sp)))) led') -> S872 args led r
noncomputable def C3 : Ctx := [(287, (14, S287)), (865, (44, S865))]
theorem u5 {i : Nat} {k t n : Int} (w : Wf i ⟨k, .num t n⟩) : t = 1 ∨ t = 2 ∨ t = 3 := by
 have w := w.1
 simp only at w
 unfold tagOf at w
 rcases w with w | w
 ·exact .inl w.2
 ·obtain ⟨_, _, rfl⟩ := w
  by_cases h1 : k = 9 ∨ k = 10
  ·rw [if_pos h1]; exact .inr (.inl rfl)
  ·rw [if_neg h1]
   by_cases h2 : k = 11
   ·rw [if_pos h2]; exact .inr (.inr rfl)
   ·rw [if_neg h2]; exact .inl rfl
theorem num_part {W : List Row} {i : Nat} {k t n : Int} (w : Wf i ⟨k, .num t n⟩) : Part W (.tup [.int t, .int n]) (if t = 1 then n else fold n) ∧ t ≠ 5 := by
 rcases u5 w with rfl | rfl | rfl
 ·exact ⟨.num n, by decide⟩
 ·exact ⟨.two 2 n (.inl rfl), by decide⟩
 ·exact ⟨.two 3 n (.inr rfl), by decide⟩
theorem wrap0 : (0 : Int) = a0 0 := by decide
theorem ok872 (args : List V) (led : List O) (r : V -> List O -> Prop) (h : S872 args led r) : wf G (gm C3) 58 (.call 872 args led r) := by
 obtain ⟨W, D, i, k, sp, I, S, hq, hb, rfl, h⟩ := h
 have w := S.wf _ _ hq
 have key : ∀ led', Sub led led' -> ∀ v, v = a0 (total (partsL W sp)) -> r (.int v) led' := fun l s v hv => hv ▸ h l s
 cases sp with
 | txt s => cases hb
 | obj => cases hb
 | num t n =>
  obtain ⟨p, h5⟩ := num_part (W := W) w
  have h5 : decide (t = 5) = false := decide_eq_false h5
  erw []
  refine alloc fun i1 l1 s1 e1 f1 => ?_
  erw [e1]
  refine put s1 f1 e1 fun l2 s2 e2 g2 => ?_
  erw []; try conv => whnf
  refine ⟨W, D, _, _, I.sub s2, S, p, rfl, fun x hx => ?_⟩
  erw []; try conv => whnf
  intro y hy
  have hy := d6 wrap0 hx hy
  erw [h5, e2]; try conv => whnf
  (repeat refine z9 (by assumption) ?_); exact key _ s2 _ hy
 | pair a b =>
  erw []
  refine alloc fun i1 l1 s1 e1 f1 => ?_
  erw [e1]
  refine put s1 f1 e1 fun l2 s2 e2 g2 => ?_
  erw []; try conv => whnf
  refine ⟨W, D, _, _, I.sub s2, S, .st _ _, rfl, fun x1 hx1 => ?_⟩
  erw []; try conv => whnf
  intro y1 hy1
  have b1 := kQ hy1
  have hy1 := d6 wrap0 hx1 hy1
  erw [e2]
  refine put s2 f1 e2 fun l3 s3 e3 g3 => ?_
  erw [e3]
  refine put s3 f1 e3 fun l4 s4 e4 g4 => ?_
  erw [e4]
  refine put s4 f1 e4 fun l5 s5 e5 g5 => ?_
  erw [b1]; try conv => whnf
  refine ⟨W, D, _, _, I.sub s5, S, .two 2 b (.inl rfl), rfl, fun x2 hx2 => ?_⟩
  erw []; try conv => whnf
  intro y2 hy2
  have b2 := kQ hy2
  have hy2 := d6 hy1 hx2 hy2
  erw [e5]
  refine put s5 f1 e5 fun l6 s6 e6 g6 => ?_
  erw [b2]; try conv => whnf
  refine ⟨W, D, _, _, I.sub s6, S, .num a, rfl, fun x3 hx3 => ?_⟩
  erw []; try conv => whnf
  intro y3 hy3
  have b3 := kQ hy3
  have hy3 := d6 hy2 hx3 hy3
  erw [e6]; try conv => whnf
  (repeat refine z9 (by assumption) ?_); exact key _ s6 _ hy3
 | whole f a b =>
  have hf : -1 ≤ f ∧ f < W.length := by
   have h1 : -1 ≤ f ∧ f < i := ⟨w.2.1, w.2.2.1⟩
   have h2 := j9 hq
   exact ⟨h1.1, fi h1.2 h2⟩
  erw []
  refine alloc fun i1 l1 s1 e1 f1 => ?_
  erw [e1]
  refine put s1 f1 e1 fun l2 s2 e2 g2 => ?_
  erw []; try conv => whnf
  refine ⟨W, D, _, _, I.sub s2, S, .st _ _, rfl, fun x1 hx1 => ?_⟩
  erw []; try conv => whnf
  intro y1 hy1
  have b1 := kQ hy1
  have hy1 := d6 wrap0 hx1 hy1
  erw [e2]
  refine put s2 f1 e2 fun l3 s3 e3 g3 => ?_
  erw [e3]
  refine put s3 f1 e3 fun l4 s4 e4 g4 => ?_
  erw [e4]
  refine put s4 f1 e4 fun l5 s5 e5 g5 => ?_
  erw [b1]; try conv => whnf
  refine ⟨W, D, _, _, I.sub s5, S, .st _ _, rfl, fun x2 hx2 => ?_⟩
  erw []; try conv => whnf
  intro y2 hy2
  have b2 := kQ hy2
  have hy2 := d6 hy1 hx2 hy2
  erw [e5]
  refine put s5 f1 e5 fun l6 s6 e6 g6 => ?_
  erw [e6]
  refine put s6 f1 e6 fun l7 s7 e7 g7 => ?_
  erw [e7]
  refine put s7 f1 e7 fun l8 s8 e8 g8 => ?_
  erw [b2]; try conv => whnf
  refine ⟨W, D, _, _, I.sub s8, S, .two 2 b (.inl rfl), rfl, fun x3 hx3 => ?_⟩
  erw []; try conv => whnf
  intro y3 hy3
  have b3 := kQ hy3
  have hy3 := d6 hy2 hx3 hy3
  erw [e8]
  refine put s8 f1 e8 fun l9 s9 e9 g9 => ?_
  erw [b3]; try conv => whnf
  refine ⟨W, D, _, _, I.sub s9, S, .num a, rfl, fun x4 hx4 => ?_⟩
  erw []; try conv => whnf
  intro y4 hy4
  have b4 := kQ hy4
  have hy4 := d6 hy3 hx4 hy4
  erw [e9]
  refine put s9 f1 e9 fun l10 s10 e10 g10 => ?_
  erw [b4]; try conv => whnf
  refine ⟨W, D, _, _, I.sub s10, S, .ref f hf.1 hf.2, rfl, fun x5 hx5 => ?_⟩
  erw []; try conv => whnf
  intro y5 hy5
  have b5 := kQ hy5
  have hy5 := d6 hy4 hx5 hy5
  erw [e10]; try conv => whnf
  (repeat refine z9 (by assumption) ?_); exact key _ s10 _ hy5
noncomputable def rkx (D : Ids) (f : Int) : Int := if f < 0 then -1 else D.rk f.toNat
theorem rk_iff {W : List Row} {D : Ids} (S : w8 W D) {i j : Nat} {q p : Row} (hi : W[i]? = some q) (hj : W[j]? = some p) : D.rk i = D.rk j ↔ d7 D.rk i q = d7 D.rk j p := by
 obtain ⟨a, ea, ha⟩ := S.rk i q hi
 obtain ⟨b, eb, hb⟩ := S.rk j p hj
 constructor
 ·intro h
  rw [ea, eb] at h
  have h : a = b := Int.ofNat.inj h
  subst h
  rw [ha] at hb
  exact Option.some.inj hb
 ·intro h
  rw [← h, ← ha] at hb
  have hl : a < D.κ.length := (List.getElem?_eq_some_iff.mp ha).1
  have : a = b := (List.getElem?_inj hl S.nd).mp hb.symm
  rw [ea, eb, this]
theorem rk_same {W : List Row} {D : Ids} (S : w8 W D) {i j : Nat} {k : Int} {s t : Sp} (hi : W[i]? = some ⟨k, s⟩) (hj : W[j]? = some ⟨k, t⟩) : D.rk i = D.rk j ↔ b6 D.rk i s = b6 D.rk j t := by
 rw [rk_iff S hi hj]
 simp only [d7, V.tup.injEq, List.cons.injEq, and_true, true_and]
theorem rk_diff {W : List Row} {D : Ids} (S : w8 W D) {i j : Nat} {k l : Int} {s t : Sp} (hi : W[i]? = some ⟨k, s⟩) (hj : W[j]? = some ⟨l, t⟩) (h : k ≠ l) : D.rk i ≠ D.rk j := fun e => by
 have := (rk_iff S hi hj).mp e
 simp only [d7, V.tup.injEq, List.cons.injEq, V.int.injEq] at this
 (repeat refine z9 (by assumption) ?_); exact h this.1
theorem k4 {th : Nat -> Nat} {n : Nat} : v9 (atL th n) (.int 0) = some none := dlook_no fun j _ e => addr_0 j e
noncomputable abbrev C4 : Ctx := [(734, (22, S734)), (189, (20, S189)), (767, (30, S767))]
noncomputable abbrev c900 : PE := (.cmp .gt (.len (.loc 3)) (.con (.int 0)))
noncomputable abbrev bd900 : List PS := [(.asgT [5, 6] (.meth (.loc 3) 1 [])), (.asgT [7, 8] (.call 893 [(.loc 0), (.loc 5), (.loc 6), (.loc 4)])), (.cond (.not (.loc 7)) [(.ret (.con (.bool false)))] []), (.for_ 9 (.loc 8) [(.ex (.meth (.loc 3) 0 [(.loc 9)]))])]
noncomputable abbrev T9 (st : St) (k : Bool -> St -> Prop) : Prop := wf G (gm C4) 69 (.t c900 st k)
noncomputable abbrev B9 (r : V -> List O -> Prop) (st : St) (k : St -> Prop) : Prop := wf G (gm C4) 69 (.b bd900 st k r)
noncomputable abbrev L9 (va vb : V) (iw is : Nat) (x y s m p : Option V) : List (Option V) := [some (.own 20), some va, some vb, some (.own iw), some (.own is), x, y, s, m, p]
structure Hd (led0 led : List O) (iw is : Nat) (work : List V) (es : List (V × V)) : Prop where
 s : Sub led0 led
 fw : led0.length ≤ iw
 fs : led0.length ≤ is
 ne : iw ≠ is
 ew : getL led iw = some (.list work)
 es : getL led is = some (.dict es)
theorem big1 {rest : List V} {p : V} {n : Nat} (h : rest.length ≤ 10) (hn : 100 ≤ n) : Nat.ble (rest ++ [p]).length n = true := Nat.ble_eq.mpr (by rw [List.length_append]; exact Nat.le_trans (Nat.add_le_add_right h 1) (Nat.le_trans (by decide) hn))
theorem big0 {rest : List V} {n : Nat} (h : rest.length ≤ 10) (hn : 100 ≤ n) : Nat.ble rest.length n = true := Nat.ble_eq.mpr (Nat.le_trans h (Nat.le_trans (by decide) hn))
theorem posr {rest : List V} {p : V} : decide ((0 : Int) < ((rest ++ [p]).length : Int)) = true := decide_eq_true (by simp)
theorem last1 {rest : List V} {p : V} : (rest ++ [p]).getLast? = some p := by simp
theorem drop1 {rest : List V} {p : V} : (rest ++ [p]).dropLast = rest := by simp
section
variable {led0 led : List O} {iw is m : Nat} {rest : List V} {es : List (V × V)} {k : St -> Prop} {r : V -> List O -> Prop} {va vb : V} {x y s mo p : Option V}
theorem turn_num {t u n z : Int} (hr : rest.length ≤ 10) (H : Hd led0 led iw is (rest ++ [.tup [.tup [.int t, .int n], .tup [.int u, .int z]]]) es) (ht : t = 1 ∨ t = 2 ∨ t = 3)
  (hE : t = u -> n = z -> ∀ led' x y s o p, Hd led0 led' iw is rest es -> whlU T9 (B9 r) m ⟨L9 va vb iw is x y s o p, led'⟩ k)
  (hF : ¬ (t = u ∧ n = z) -> ∀ led', Sub led0 led' -> r (.bool false) led') : whlU T9 (B9 r) (m + 1) ⟨L9 va vb iw is x y s mo p, led⟩ k := by
 erw [H.ew, big1 hr (n := 1000000) (by decide), posr, big1 hr (n := 100000) (by decide), last1, drop1]
 refine put H.s H.fw H.ew fun l1 s1 e1 g1 => ?_
 have d1 := g1 _ _ H.ne.symm H.es
 by_cases htu : t = u
 ·subst htu
  have ht5 : decide (t = 4) = false ∧ decide (t = 5) = false := by rcases ht with rfl | rfl | rfl <;> exact ⟨rfl, rfl⟩
  have htt : decide (t = t) = true := decide_eq_true rfl
  erw [htt, ht5.1, ht5.2]
  refine alloc fun i2 l2 s2 e2 f2 => ?_
  have e1' := s2 _ _ e1
  have d2 := s2 _ _ d1
  by_cases hnz : n = z
  ·have hd : decide (n = z) = true := decide_eq_true hnz
   erw [hd, ← e2]; try conv => whnf
   exact hE rfl hnz _ _ _ _ _ _ ⟨s1.trans s2, H.fw, H.fs, H.ne, e1', d2⟩
  ·have hd : decide (n = z) = false := decide_eq_false hnz
   erw [hd]; try conv => whnf
   exact hF (fun h => hnz h.2) _ (s1.trans s2)
 ·have htt : decide (t = u) = false := decide_eq_false htu
  erw [htt]
  refine alloc fun i2 l2 s2 e2 f2 => ?_
  erw []; try conv => whnf
  exact hF (fun h => htu h.1) _ (s1.trans s2)
theorem turn_struct {t : Int} {x1 x2 y1 y2 : V} (hr : rest.length ≤ 5) (H : Hd led0 led iw is (rest ++ [.tup [.tup [.int 5, .int t, .tup [x1, x2]], .tup [.int 5, .int t, .tup [y1, y2]]]]) es)
  (hE : ∀ led' x y s o p, Hd led0 led' iw is ((rest ++ [.tup [x1, y1]]) ++ [.tup [x2, y2]]) es -> whlU T9 (B9 r) m ⟨L9 va vb iw is x y s o p, led'⟩ k) : whlU T9 (B9 r) (m + 1) ⟨L9 va vb iw is x y s mo p, led⟩ k := by
 have hr' : rest.length ≤ 10 := Nat.le_trans hr (by decide)
 have hr'' : (rest ++ [V.tup [x1, y1]]).length ≤ 10 := by rw [List.length_append]; exact Nat.le_trans (Nat.succ_le_succ hr) (by decide)
 have htt : decide (t = t) = true := decide_eq_true rfl
 erw [H.ew, big1 hr' (n := 1000000) (by decide), posr, big1 hr' (n := 100000) (by decide), last1, drop1]
 refine put H.s H.fw H.ew fun l1 s1 e1 g1 => ?_
 have d1 := g1 _ _ H.ne.symm H.es
 erw [htt]
 refine alloc fun i2 l2 s2 e2 f2 => ?_
 have n2 : i2 ≠ iw := fun z => by subst z; exact absurd (w9 e1) (Nat.not_lt.mpr f2)
 have m2 : i2 ≠ is := fun z => by subst z; exact absurd (w9 d1) (Nat.not_lt.mpr f2)
 have hi2 : led0.length ≤ i2 := Nat.le_trans s1.len f2
 erw [e2]
 refine put (s1.trans s2) hi2 e2 fun l3 s3 e3 g3 => ?_
 erw [e3]
 refine put s3 hi2 e3 fun l4 s4 e4 g4 => ?_
 have e1b := g4 _ _ n2.symm (g3 _ _ n2.symm (s2 _ _ e1))
 have d4 := g4 _ _ m2.symm (g3 _ _ m2.symm (s2 _ _ d1))
 erw [← e4, e1b, big0 hr' (n := 100000) (by decide)]
 refine put s4 H.fw e1b fun l5 s5 e5 g5 => ?_
 have e4a := g5 _ _ n2 e4
 dsimp only
 refine ⟨e4a, ?_⟩
 erw [e5, big0 hr'' (n := 100000) (by decide)]
 refine put s5 H.fw e5 fun l6 s6 e6 g6 => ?_
 have e4b := g6 _ _ n2 e4a
 dsimp only
 refine ⟨e4b, ?_⟩
 exact hE _ _ _ _ _ _ ⟨s6, H.fw, H.fs, H.ne, e6, g6 _ _ H.ne.symm (g5 _ _ H.ne.symm d4)⟩
theorem turn_end (H : Hd led0 led iw is [] es) (h : k ⟨L9 va vb iw is x y s mo p, led⟩) : whlU T9 (B9 r) (m + 1) ⟨L9 va vb iw is x y s mo p, led⟩ k := by
 erw [H.ew]; try conv => whnf
 (repeat refine z9 (by assumption) ?_); exact h
end
noncomputable def Big (es : List (V × V)) (a : Int) : Prop := ∀ p ∈ es, ∃ x y : Int, p.1 = .tup [.int x, .int y] ∧ a < x
theorem Big.le {es : List (V × V)} {a b : Int} (h : Big es a) (hb : b ≤ a) : Big es b := fun p hp => by
 obtain ⟨x, y, e, hx⟩ := h p hp
 exact ⟨x, y, e, Int.lt_of_le_of_lt hb hx⟩
theorem dget_big {a b : Int} : ∀ {es : List (V × V)}, Big es a -> j1 es (.tup [.int a, .int b]) = some none
 | [], _ => rfl
 | (k, v) :: t, h => by
  obtain ⟨x, y, e, hx⟩ := h _ (.head _)
  simp only at e
  subst e
  have hd : decide (x = a) = false := decide_eq_false (Int.ne_of_gt hx)
  show (match veq (.tup [.int x, .int y]) (.tup [.int a, .int b]) with | some true => some (some v) | some false => j1 t (.tup [.int a, .int b]) | none => none) = _
  simp only [veq, fZ, hd, Bool.false_and]
  exact dget_big fun p hp => h p (.tail _ hp)
theorem dlook_big {a b : Int} {es : List (V × V)} (h : Big es a) : v9 es (.tup [.int a, .int b]) = some none := by
 have hk : kfit es (.tup [.int a, .int b]) = true := by
  cases es with
  | nil => rfl
  | cons p t =>
   obtain ⟨x, y, e, hx⟩ := h _ (.head _)
   obtain ⟨k, v⟩ := p
   simp only at e
   subst e
   rfl
 unfold v9
 rw [hk]
 exact dget_big h
theorem dput_big {a b : Int} {v : V} : ∀ {es : List (V × V)}, Big es a -> Big (u3 es (.tup [.int a, .int b]) v) (a - 1) ∧ (u3 es (.tup [.int a, .int b]) v).length = es.length + 1
 | [], _ => ⟨fun p hp => by rw [List.mem_singleton.mp hp]; exact ⟨a, b, rfl, Int.sub_lt_self _ (by decide)⟩, rfl⟩
 | (k, w) :: t, h => by
  obtain ⟨x, y, e, hx⟩ := h _ (.head _)
  simp only at e
  subst e
  have hd : decide (x = a) = false := decide_eq_false (Int.ne_of_gt hx)
  have e : u3 ((.tup [.int x, .int y], w) :: t) (.tup [.int a, .int b]) v = (.tup [.int x, .int y], w) :: u3 t (.tup [.int a, .int b]) v := by
   show (match veq (.tup [.int x, .int y]) (.tup [.int a, .int b]) with | some true => _ | _ => _) = _
   simp only [veq, fZ, hd, Bool.false_and]
  obtain ⟨h1, h2⟩ := @dput_big a b v t fun p hp => h p (.tail _ hp)
  rw [e]
  refine ⟨fun p hp => ?_, by simp only [List.length_cons, h2]⟩
  rcases List.mem_cons.mp hp with rfl | hp
  ·exact ⟨x, y, rfl, Int.lt_trans (Int.sub_lt_self _ (by decide)) hx⟩
  ·exact h1 p hp
theorem vZ {sp : Sp} (h : b9 sp = true) : j5 sp = [valV sp] := by cases sp <;> first | rfl | cases h
section
variable {led0 led : List O} {iw is m : Nat} {es : List (V × V)} {k : St -> Prop} {r : V -> List O -> Prop} {va vb : V} {x y s mo p : Option V} {W : List Row} {D : Ids}
theorem turn_ref {f g : Int} (I : Inv W D led0) (S : w8 W D) (H : Hd led0 led iw is [.tup [.tup [.int 4, .int (rZ f)], .tup [.int 4, .int (rZ g)]]] es) (hf : -1 ≤ f) (hf2 : f < W.length) (hg : -1 ≤ g) (hg2 : g < W.length)
  (hb : Big es (addr f)) (hl : es.length ≤ 1000)
  (hE : rkx D f = rkx D g -> ∀ led' x y s o p, Hd led0 led' iw is [] es -> whlU T9 (B9 r) m ⟨L9 va vb iw is x y s o p, led'⟩ k)
  (hF : rkx D f ≠ rkx D g -> ∀ led', Sub led0 led' -> r (.bool false) led')
  (hC : ∀ (i j : Nat) (kk : Int) (sp sp' : Sp), f = i -> g = j -> W[i]? = some ⟨kk, sp⟩ -> W[j]? = some ⟨kk, sp'⟩ -> b9 sp = true -> b9 sp' = true -> ∀ led' x y s o p es', Hd led0 led' iw is [.tup [valV sp, valV sp']] es' -> Big es' (addr i - 1) -> es'.length = es.length + 1 -> whlU T9 (B9 r) m ⟨L9 va vb iw is x y s o p, led'⟩ k) :
  whlU T9 (B9 r) (m + 1) ⟨L9 va vb iw is x y s mo p, led⟩ k := by
 erw [H.ew]
 refine put H.s H.fw H.ew fun l1 s1 e1 g1 => ?_
 have d1 := g1 _ _ H.ne.symm H.es
 have I1 := I.sub s1
 by_cases hfg : f = g
 ·subst hfg
  have htt : decide (rZ f = rZ f) = true := decide_eq_true rfl
  erw [htt]
  refine alloc fun i2 l2 s2 e2 f2 => ?_
  erw [← e2]; try conv => whnf
  exact hE rfl _ _ _ _ _ _ ⟨s1.trans s2, H.fw, H.fs, H.ne, s2 _ _ e1, s2 _ _ d1⟩
 ·by_cases hf0 : f < 0
  ·have ea : rZ f = 0 := if_pos hf0
   obtain ⟨j, l, sp', rfl, hq'⟩ := lQ (f := g) (Int.not_lt.mp fun l => hfg (Int.le_antisymm (Int.le_trans (Int.le_sub_one_of_lt hf0) hg) (Int.le_trans (Int.le_sub_one_of_lt l) hf))) hg2
   have hr : rkx D f ≠ rkx D j := by
    obtain ⟨a, ha, _⟩ := S.rk j _ hq'
    unfold rkx
    rw [if_pos hf0, if_neg (nn j), Int.toNat_natCast, ha]
    exact Int.ne_of_lt (Int.lt_of_lt_of_le (by decide) (Int.natCast_nonneg a))
   have eb : rZ j = addr j := if_neg (nn j)
   have hne : decide ((0 : Int) = addr j) = false := decide_eq_false (addr_0 j).symm
   rw [ea, eb]
   erw [hne, I1.c20, I1.c14, I1.c16, k9 (j9 hq'), k4]
   refine alloc fun i2 l2 s2 e2 f2 => ?_
   erw []; try conv => whnf
   exact hF hr _ (s1.trans s2)
  ·obtain ⟨i, ki, sp, rfl, hq⟩ := lQ (f := f) (Int.not_lt.mp hf0) hf2
   have ea : rZ i = addr i := if_neg hf0
   have wi := S.wf _ _ hq
   by_cases hg0 : g < 0
   ·have hr : rkx D i ≠ rkx D g := by
     obtain ⟨a, ha, _⟩ := S.rk i _ hq
     unfold rkx
     rw [if_pos hg0, if_neg hf0, Int.toNat_natCast, ha]
     exact Int.ne_of_gt (Int.lt_of_lt_of_le (by decide) (Int.natCast_nonneg a))
    have eb : rZ g = 0 := if_pos hg0
    have hne : decide (addr i = (0 : Int)) = false := decide_eq_false (addr_0 i)
    rw [ea, eb]
    erw [hne, I1.c20, I1.c14, I1.c16, k9 (j9 hq), k4]
    refine alloc fun i2 l2 s2 e2 f2 => ?_
    erw []; try conv => whnf
    exact hF hr _ (s1.trans s2)
   ·obtain ⟨j, kj, sp', rfl, hq'⟩ := lQ (f := g) (Int.not_lt.mp hg0) hg2
    have eb : rZ j = addr j := if_neg hg0
    have wj := S.wf _ _ hq'
    have hij : i ≠ j := fun z => hfg (by rw [z])
    have ri : rkx D i = D.rk i := by unfold rkx; rw [if_neg hf0, Int.toNat_natCast]
    have rj : rkx D j = D.rk j := by unfold rkx; rw [if_neg hg0, Int.toNat_natCast]
    have hne : decide (addr i = addr j) = false := decide_eq_false fun e => hij (addr_inj e)
    rw [ri, rj] at hE hF
    rw [ea, eb]
    by_cases hk : ki = kj
    ·subst hk
     have hk : (!decide (ki = ki)) = false := by simp
     erw [hne, I1.c20, I1.c14, I1.c16, k9 (j9 hq), k9 (j9 hq'), I1.cth _ _ hq, I1.cth _ _ hq', hk]; try conv => whnf
     cases hbx : b9 sp with
     | true =>
      have hv : iQ ki = true := (a7 wi).1.trans hbx
      have hbx' : b9 sp' = true := (a7 wj).1.symm.trans hv
      have h13 : decide (ki = 13) = false := decide_eq_false fun z => by subst z; exact absurd hv (by decide)
      have el : Nat.ble es.length 100000 = true := bl (Nat.le_trans hl (by decide))
      obtain ⟨b1, b2⟩ := dput_big (b := addr j) (v := .int 1) hb
      erw [h13]; try conv => whnf
      refine rq_ok I1.c20 ?_
      erw [I1.cth _ _ hq]; try conv => whnf
      refine ⟨ki, rfl, I1.toBase, (a7 wi).2.1, (a7 wi).2.2, ?_⟩
      erw [hv, d1, dlook_big hb, el]
      refine put s1 H.fs d1 fun l2 s2 e2 g2 => ?_
      have I2 := I.sub s2
      have e1a := g2 _ _ H.ne e1
      erw [I2.cth _ _ hq, I2.csl _ _ hq, I2.cth _ _ hq', I2.csl _ _ hq', vZ hbx, vZ hbx']
      refine alloc fun i3 l3 s3 e3 f3 => ?_
      have n3 : i3 ≠ iw := fun z => by subst z; exact absurd (w9 e1a) (Nat.not_lt.mpr f3)
      erw [← e3, s3 _ _ e1a]
      refine put (s2.trans s3) H.fw (s3 _ _ e1a) fun l4 s4 e4 g4 => ?_
      dsimp only
      refine ⟨g4 _ _ n3 e3, ?_⟩
      (repeat refine z9 (by assumption) ?_); exact hC i j ki sp sp' rfl rfl hq hq' hbx hbx' _ _ _ _ _ _ _ ⟨s4, H.fw, H.fs, H.ne, e4, g4 _ _ H.ne.symm (s3 _ _ e2)⟩ b1 b2
     | false =>
      have hv : iQ ki = false := (a7 wi).1.trans hbx
      have hbx' : b9 sp' = false := (a7 wj).1.symm.trans hv
      cases sp with
      | txt s =>
       have hk13 : ki = 13 := wi.1
       subst hk13
       cases sp' with
       | txt s' =>
        erw [← I1.c20]; try conv => whnf
        refine ⟨W, D, i, 13, s, I1, hq, rfl, rfl, ?_⟩
        erw [← I1.c20]; try conv => whnf
        refine ⟨W, D, j, 13, s', I1, hq', rfl, rfl, ?_⟩
        erw []
        refine alloc fun i2 l2 s2 e2 f2 => ?_
        have hc : D.rk i = D.rk j ↔ s = s' := by
         rw [rk_same S hq hq']
         simp [b6, oQ]
        by_cases hs : s = s'
        ·have hb : (s == s') = true := by simp [hs]
         erw [hb, ← e2]; try conv => whnf
         exact hE (hc.mpr hs) _ _ _ _ _ _ ⟨s1.trans s2, H.fw, H.fs, H.ne, s2 _ _ e1, s2 _ _ d1⟩
        ·have hb : (s == s') = false := by simp [hs]
         erw [hb]; try conv => whnf
         exact hF (fun z => hs (hc.mp z)) _ (s1.trans s2)
       | obj => exact absurd (show (13 : Int) = 19 from wj) (by decide)
       | _ => cases hbx'
      | obj =>
       have hk19 : ki = 19 := wi
       subst hk19
       cases sp' with
       | txt s => exact absurd (show (19 : Int) = 13 from wj.1) (by decide)
       | obj =>
        erw [I1.c20, I1.cth _ _ hq]; try conv => whnf
        refine ⟨19, rfl, I1.toBase, by decide, by decide, ?_⟩
        have z1 : decide (addr i = 0) = false := decide_eq_false (addr_0 i)
        have z2 : decide (addr j = 0) = false := decide_eq_false (addr_0 j)
        erw [z1, z2, I1.c20, I1.c14, I1.c16, k9 (j9 hq), k9 (j9 hq'), I1.cth _ _ hq, I1.cth _ _ hq']; try conv => whnf
        refine ⟨W, D, i, 19, I1, hq, rfl, rfl, ?_⟩
        erw []
        refine alloc fun i2 l2 s2 e2 f2 => ?_
        erw []; try conv => whnf
        refine hF (fun z => hij ?_) _ (s1.trans s2)
        have := (rk_same S hq hq').mp z
        simp [b6] at this
        omega
       | _ => cases hbx'
      | _ => cases hbx
    ·have hr := rk_diff S hq hq' hk
     have hk : (!decide (ki = kj)) = true := by simp [hk]
     erw [hne, I1.c20, I1.c14, I1.c16, k9 (j9 hq), k9 (j9 hq'), I1.cth _ _ hq, I1.cth _ _ hq', hk]
     refine alloc fun i2 l2 s2 e2 f2 => ?_
     erw []; try conv => whnf
     exact hF hr _ (s1.trans s2)
end
theorem canon_whole {rk : Nat -> Int} {D : Ids} (hr : rk = D.rk) {i : Nat} {f a b : Int} (hf : -1 ≤ f) : b6 rk i (.whole f a b) = .tup [.int 5, .int 18, .tup [.tup [.int 4, .int (rkx D f)], jQ a b]] := by
 subst hr
 have e : (if f < 0 then f else D.rk f.toNat) = rkx D f := by
  unfold rkx
  split
  ·exact Int.le_antisymm (Int.le_sub_one_of_lt ‹_›) hf
  ·rfl
 show V.tup [.int 5, .int 18, .tup [.tup [.int 4, .int (if f < 0 then f else D.rk f.toNat)], jQ a b]] = _
 rw [e]
noncomputable def kcl (k : Int) : Nat := if k = 13 then 1 else if k = 19 then 0 else if k = 17 then 3 else if k = 18 then 4 else 2
noncomputable def scl : Sp -> Nat
 | .txt _ => 1
 | .obj => 0
 | .num _ _ => 2
 | .pair _ _ => 3
 | .whole _ _ _ => 4
theorem wf_c {i : Nat} {k : Int} {sp : Sp} (h : Wf i ⟨k, sp⟩) : kcl k = scl sp := by
 cases sp with
 | num u z =>
  rcases h.1 with h | h
  ·rw [show k = 16 from h.1]; rfl
  ·have n : ∀ m : Int, 11 < m -> k ≠ m := fun m l => Int.ne_of_lt (Int.lt_of_le_of_lt h.2.1 l)
   unfold kcl
   rw [if_neg (n _ (by decide)), if_neg (n _ (by decide)), if_neg (n _ (by decide)), if_neg (n _ (by decide))]
   rfl
 | obj => rw [show k = 19 from h]; rfl
 | txt s => rw [show k = 13 from h.1]; rfl
 | pair a b => rw [show k = 17 from h.1]; rfl
 | whole f a b => rw [show k = 18 from h.1]; rfl
theorem num_of {i : Nat} {k t n : Int} {j : Nat} {sp : Sp} (h : Wf i ⟨k, .num t n⟩) (h' : Wf j ⟨k, sp⟩) : ∃ u z, sp = .num u z := by
 have e : scl sp = 2 := (wf_c h').symm.trans (wf_c h)
 cases sp with
 | num u z => exact ⟨u, z, rfl⟩
 | _ => cases e
theorem pair_of {i : Nat} {k a b : Int} {j : Nat} {sp : Sp} (h : Wf i ⟨k, .pair a b⟩) (h' : Wf j ⟨k, sp⟩) : ∃ u z, sp = .pair u z := by
 have e : scl sp = 3 := (wf_c h').symm.trans (wf_c h)
 cases sp with
 | pair a b => exact ⟨_, _, rfl⟩
 | _ => cases e
theorem whole_of {i : Nat} {k f a b : Int} {j : Nat} {sp : Sp} (h : Wf i ⟨k, .whole f a b⟩) (h' : Wf j ⟨k, sp⟩) : ∃ g u z, sp = .whole g u z := by
 have e : scl sp = 4 := (wf_c h').symm.trans (wf_c h)
 cases sp with
 | whole f a b => exact ⟨_, _, _, rfl⟩
 | _ => cases e
theorem vals {led0 : List O} {iw is : Nat} {kk : St -> Prop} {r : V -> List O -> Prop} {va vb : V} {W : List Row} {D : Ids} (I : Inv W D led0) (S : w8 W D) : ∀ (N i j : Nat) (k : Int) (sp sp' : Sp), i < N -> W[i]? = some ⟨k, sp⟩ -> W[j]? = some ⟨k, sp'⟩ -> b9 sp = true -> b9 sp' = true ->
  ∀ (led : List O) (es : List (V × V)) (x y s o p : Option V), Hd led0 led iw is [.tup [valV sp, valV sp']] es -> Big es (addr i - 1) -> es.length + i ≤ 100 -> ∀ m, 5 * N + 2 ≤ m ->
  (D.rk i = D.rk j -> ∀ led' x y s o p, Sub led0 led' -> kk ⟨L9 va vb iw is x y s o p, led'⟩) -> (D.rk i ≠ D.rk j -> ∀ led', Sub led0 led' -> r (.bool false) led') ->
  whlU T9 (B9 r) m ⟨L9 va vb iw is x y s o p, led⟩ kk
 | 0, i, _, _, _, _, h, _, _, _, _, _, _, _, _, _, _, _, _, _, _, _, _, _, _ => absurd h (Nat.not_lt_zero _)
 | N + 1, i, j, k, sp, sp', hN, hq, hq', hb, hb', led, es, x, y, s, o, p, H, big, hl, m, hm, hE, hF => by
  have wi := S.wf _ _ hq
  have wj := S.wf _ _ hq'
  have li := j9 hq
  have lj := j9 hq'
  obtain ⟨m, rfl⟩ : ∃ m', m = m' + 7 := ⟨m - 7, (Nat.sub_add_cancel (Nat.le_trans (Nat.le_add_left 7 (5 * N)) hm)).symm⟩
  have hc := rk_same S hq hq'
  cases sp with
  | txt s => cases hb
  | obj => cases hb
  | num t n =>
   obtain ⟨u, z, rfl⟩ := num_of wi wj
   have hc : D.rk i = D.rk j ↔ t = u ∧ n = z := by rw [hc]; simp [b6, oQ]
   refine turn_num (rest := []) (by decide) H (u5 wi) (fun h1 h2 led' x y s o p H' => ?_) fun h led' s' => hF (fun z => h (hc.mp z)) led' s'
   exact turn_end H' (hE (hc.mpr ⟨h1, h2⟩) _ _ _ _ _ _ H'.s)
  | pair a b =>
   obtain ⟨a', b', rfl⟩ := pair_of wi wj
   have hc : D.rk i = D.rk j ↔ a = a' ∧ b = b' := by rw [hc]; simp [b6, oQ, jQ]
   refine turn_struct (rest := []) (by decide) H fun led' x y s o p H' => ?_
   refine turn_num (Nat.le_of_ble_eq_true rfl) H' (.inr (.inl rfl)) (fun _ h2 led' x y s o p H' => ?_) fun h led' s' => hF (fun z => h ⟨rfl, (hc.mp z).2⟩) led' s'
   refine turn_num (Nat.le_of_ble_eq_true rfl) H' (.inl rfl) (fun _ h1 led' x y s o p H' => ?_) fun h led' s' => hF (fun z => h ⟨rfl, (hc.mp z).1⟩) led' s'
   exact turn_end H' (hE (hc.mpr ⟨h1, h2⟩) _ _ _ _ _ _ H'.s)
  | whole f a b =>
   obtain ⟨g, a', b', rfl⟩ := whole_of wi wj
   have f1 : -1 ≤ f ∧ f < i := ⟨wi.2.1, wi.2.2.1⟩
   have g1 : -1 ≤ g ∧ g < j := ⟨wj.2.1, wj.2.2.1⟩
   have hc : D.rk i = D.rk j ↔ rkx D f = rkx D g ∧ a = a' ∧ b = b' := by
    rw [hc, canon_whole rfl f1.1, canon_whole rfl g1.1]
    simp [jQ]
   refine turn_struct (rest := []) (by decide) H fun led' x y s o p H' => ?_
   refine turn_struct (Nat.le_of_ble_eq_true rfl) H' fun led' x y s o p H' => ?_
   refine turn_num (Nat.le_of_ble_eq_true rfl) H' (.inr (.inl rfl)) (fun _ h2 led' x y s o p H' => ?_) fun h led' s' => hF (fun z => h ⟨rfl, (hc.mp z).2.2⟩) led' s'
   refine turn_num (Nat.le_of_ble_eq_true rfl) H' (.inl rfl) (fun _ h1 led' x y s o p H' => ?_) fun h led' s' => hF (fun z => h ⟨rfl, (hc.mp z).2.1⟩) led' s'
   refine turn_ref I S H' f1.1 (fi f1.2 li) g1.1 (fi g1.2 lj) (big.le (ad_lt f1.2)) (Nat.le_trans (Nat.le_add_right _ _) (Nat.le_trans hl (by decide))) (fun he led' x y s o p H' => ?_) (fun he led' s' => hF (fun z => he (hc.mp z).1) led' s') ?_
   ·exact turn_end H' (hE (hc.mpr ⟨he, h1, h2⟩) _ _ _ _ _ _ H'.s)
   ·intro i' j' k' sp sp' e1 e2 q1 q2 b1 b2 led' x y s o p es' H' big' hl'
    have ei : rkx D f = D.rk i' := by rw [e1]; exact if_neg (nn i')
    have ej : rkx D g = D.rk j' := by rw [e2]; exact if_neg (nn j')
    have z : i' < i := Int.ofNat_lt.mp (e1 ▸ f1.2)
    exact vals I S N i' j' k' sp sp' (Nat.lt_of_lt_of_le z (Nat.le_of_lt_succ hN)) q1 q2 b1 b2 led' es' x y s o p H' big' (by rw [hl', Nat.add_assoc, Nat.add_comm 1]; exact Nat.le_trans (Nat.add_le_add_left z _) hl) _ (Nat.le_of_add_le_add_right (b := 5) hm)
     (fun z led' x y s o p s' => hE (hc.mpr ⟨by rw [ei, ej]; exact z, h1, h2⟩) _ _ _ _ _ _ s') fun z led' s' => hF (fun y => z (by rw [← ei, ← ej]; exact (hc.mp y).1)) led' s'
inductive S900 (args : List V) (led : List O) (r : V -> List O -> Prop) : Prop
 | mk (W : List Row) (D : Ids) (i j : Nat) (k : Int) (sp sp' : Sp) : Inv W D led -> w8 W D -> W[i]? = some ⟨k, sp⟩ -> W[j]? = some ⟨k, sp'⟩ -> b9 sp = true -> b9 sp' = true -> args = [.own 20, valV sp, valV sp'] -> (∀ led', Sub led led' -> r (.bool (decide (D.rk i = D.rk j))) led') -> S900 args led r
theorem ok900 (args : List V) (led : List O) (r : V -> List O -> Prop) (h : S900 args led r) : wf G (gm C4) 74 (.call 900 args led r) := by
 obtain ⟨W, D, i, j, k, sp, sp', I, S, hq, hq', hb, hb', rfl, h⟩ := h
 have few := S.few
 have li := j9 hq
 erw []
 refine alloc fun i1 l1 s1 e1 f1 => ?_
 erw []
 refine alloc fun i2 l2 s2 e2 f2 => ?_
 dsimp only
 have ne : i1 ≠ i2 := fun z => by subst z; exact absurd (w9 e1) (Nat.not_lt.mpr f2)
 refine vals (led0 := led) I S (i + 1) i j k sp sp' (Nat.lt_succ_self i) hq hq' hb hb' l2 [] none none none none none ⟨s1.trans s2, f1, Nat.le_trans s1.len f2, ne, s2 _ _ e1, e2⟩ (fun p hp => by cases hp) (by rw [List.length_nil, Nat.zero_add]; exact Nat.le_trans (Nat.le_of_lt li) (Nat.le_trans few (by decide))) _ (Nat.le_trans (Nat.add_le_add_right (Nat.mul_le_mul_left 5 (Nat.le_trans li few)) 2) (by decide)) (fun hr led' x y s o p s' => ?_) fun hr led' s' => ?_
 ·erw []; try conv => whnf
  have := h led' s'
  rw [decide_eq_true hr] at this
  (repeat refine z9 (by assumption) ?_); exact this
 ·have := h led' s'
  rw [decide_eq_false hr] at this
  (repeat refine z9 (by assumption) ?_); exact this
theorem putx {led : List O} {i : Nat} {o o' : O} {k : List O -> Prop} (e : getL led i = some o) (h : ∀ led', getL led' i = some o' -> (∀ j x, j ≠ i -> getL led j = some x -> getL led' j = some x) -> k led') : v5 led i o' k := by
 rw [k8]
 (repeat refine z9 (by assumption) ?_); exact h _ (getL_at e) fun j x n e => getL_ne e (fun z => n z.symm)
theorem w_m : v9 w56 (.str (zz "m")) = some (some (.own 20)) := by kernel_rfl
theorem w_rows : v9 w56 (.str (zz "rows")) = some (some (.own 52)) := by kernel_rfl
theorem w_ranks : v9 w56 (.str (zz "ranks")) = some (some (.own 53)) := by kernel_rfl
theorem w_keys : v9 w56 (.str (zz "keys")) = some (some (.own 54)) := by kernel_rfl
theorem w_boxes : v9 w56 (.str (zz "boxes")) = some (some (.own 55)) := by kernel_rfl
theorem w_word : v9 w56 (.str (zz "word")) = some (some (.int 16)) := by kernel_rfl
theorem w_pair : v9 w56 (.str (zz "pair")) = some (some (.int 17)) := by kernel_rfl
theorem w_whole : v9 w56 (.str (zz "whole")) = some (some (.int 18)) := by kernel_rfl
theorem w_plain : v9 w56 (.str (zz "plain")) = some (some (.int 19)) := by kernel_rfl
theorem r5 (cp : Nat -> Nat) : ∀ (W : List Row) (i : Nat), (r9 cp i W).length = W.length
 | [], _ => rfl
 | r :: l, i => congrArg (· + 1) (r5 cp l (i + 1))
theorem rows_get (cp : Nat -> Nat) : ∀ (W : List Row) (s i : Nat) (q : Row), W[i]? = some q -> getL (r9 cp s W) i = some (rowV (s + i) q (cp (s + i)))
 | [], _, _, _, h => by simp at h
 | r :: l, s, 0, q, h => by
  obtain rfl : r = q := by simpa using h
  rfl
 | r :: l, s, i + 1, q, h => by
  have := rows_get cp l (s + 1) i q (by simpa using h)
  show getL (r9 cp (s + 1) l) i = _
  rw [this, sx s i]
theorem ranks_len (rk : Nat -> Int) : ∀ n, (o7 rk n).length = n
 | 0 => rfl
 | n + 1 => by show (o7 rk n ++ [_]).length = _; rw [List.length_append, ranks_len rk n]; rfl
theorem ranks_get (rk : Nat -> Int) : ∀ (n i : Nat), i < n -> getL (o7 rk n) i = some (.int (rk i))
 | 0, _, h => absurd h (Nat.not_lt_zero _)
 | n + 1, i, h => by
  show getL (o7 rk n ++ [.int (rk n)]) i = _
  rcases Nat.lt_or_ge i n with hi | hi
  ·rw [k3 (by rw [ranks_len]; exact hi)]; exact ranks_get rk n i hi
  ·obtain rfl : i = n := Nat.le_antisymm (Nat.le_of_lt_succ h) hi
   conv => lhs; arg 2; rw [← ranks_len rk i]
   exact getL_snoc_len
section
variable {W : List Row} {D : Ids} {led : List O}
theorem p0 (S : w8 W D) {i : Nat} {q : Row} (h : W[i]? = some q) : idx (r9 D.cp 0 W) (i : Int) = some (rowV i q (D.cp i)) := by
 rw [idx_nat (Nat.le_trans (Nat.le_of_lt (j9 h)) (Nat.le_trans S.few (by decide))), rows_get _ _ _ _ _ h, Nat.zero_add]
theorem nQ (S : w8 W D) {i : Nat} (h : i < W.length) : idx (o7 D.rk W.length) (i : Int) = some (.int (D.rk i)) := by
 rw [idx_nat (Nat.le_trans (Nat.le_of_lt h) (Nat.le_trans S.few (by decide))), ranks_get _ _ _ h]
theorem j7 (S : w8 W D) : Nat.ble (r9 D.cp 0 W).length 1000000 = true := Nat.ble_eq.mpr (by rw [r5]; exact Nat.le_trans S.few (by decide))
theorem rows_lt {i : Nat} (h : i < W.length) : decide ((i : Int) < ((r9 D.cp 0 W).length : Int)) = true := decide_eq_true (by rw [r5]; exact Int.ofNat_lt.mpr h)
theorem rows_nlt {i : Nat} (h : ¬ i < W.length) : decide ((i : Int) < ((r9 D.cp 0 W).length : Int)) = false := decide_eq_false (by rw [r5]; exact fun e => h (Int.ofNat_lt.mp e))
theorem rows_le {i : Nat} (h : i < W.length) : decide (((r9 D.cp 0 W).length : Int) ≤ (i : Int)) = false := decide_eq_false (by rw [r5]; exact Int.not_le.mpr (Int.ofNat_lt.mpr h))
theorem rows_nle {i : Nat} (h : ¬ i < W.length) : decide (((r9 D.cp 0 W).length : Int) ≤ (i : Int)) = true := decide_eq_true (by rw [r5]; exact Int.not_lt.mp fun e => h (Int.ofNat_lt.mp e))
end
inductive S1068 (args : List V) (led : List O) (r : V -> List O -> Prop) : Prop
 | mk (W : List Row) (D : Ids) (i : Nat) : Inv W D led -> w8 W D -> args = [.own 56, .int i] -> r (.tup [.int 4, .int (if i < W.length then addr i else 0)]) led -> S1068 args led r
theorem ok1068 (args : List V) (led : List O) (r : V -> List O -> Prop) (h : S1068 args led r) : wf G (gm []) 18 (.call 1068 args led r) := by
 obtain ⟨W, D, i, I, S, rfl, h⟩ := h
 by_cases hi : i < W.length
 ·rw [if_pos hi] at h
  obtain ⟨i', k, sp, e, hq⟩ := lQ (Int.natCast_nonneg i) (Int.ofNat_lt.mpr hi)
  obtain rfl : i = i' := Int.ofNat.inj e
  erw [I.c56, I.c52, j7 S, rows_lt hi, p0 S hq]; try conv => whnf
  (repeat refine z9 (by assumption) ?_); exact h
 ·rw [if_neg hi] at h
  erw [I.c56, I.c52, j7 S, rows_nlt hi]; try conv => whnf
  (repeat refine z9 (by assumption) ?_); exact h
theorem n13 : v9 nat33 (.int 13) = some (some (.own 50)) := by kernel_rfl
theorem n14 : v9 nat33 (.int 14) = some (some (.own 51)) := by kernel_rfl
theorem n10 : v9 nat33 (.int 10) = some (some (.own 47)) := by kernel_rfl
theorem n11 : v9 nat33 (.int 11) = some (some (.own 48)) := by kernel_rfl
theorem n12 : v9 nat33 (.int 12) = some (some (.own 49)) := by kernel_rfl
theorem Inv.other {W : List Row} {D : Ids} {led led' : List O} (I : Inv W D led) {i : Nat} (h : ∀ j x, j ≠ i -> getL led j = some x -> getL led' j = some x) (hi : getL led' i = getL led i) : Sub led led' := fun j x e => by
 by_cases hj : j = i
 ·subst hj; rw [hi]; exact e
 ·(repeat refine z9 (by assumption) ?_); exact h j x hj e
inductive S1075 (args : List V) (led : List O) (r : V -> List O -> Prop) : Prop
 | mk (W : List Row) (D : Ids) (i j : Nat) : Inv W D led -> w8 W D -> args = [.own 56, .int i, .int j] -> (∀ q, W[i]? = some q -> b9 q.sp = true) -> (∀ led', Sub led led' -> r (.bool true) led') -> S1075 args led r
noncomputable def C5 : Ctx := [(1068, (18, S1068)), (900, (74, S900))]
theorem ok1075 (args : List V) (led : List O) (r : V -> List O -> Prop) (h : S1075 args led r) : wf G (gm C5) 100 (.call 1075 args led r) := by
 obtain ⟨W, D, i, j, I, S, rfl, hb, h⟩ := h
 erw []; try conv => whnf
 refine ⟨W, D, i, I, S, rfl, ?_⟩
 erw []; try conv => whnf
 refine ⟨W, D, j, I, S, rfl, ?_⟩
 erw []
 refine alloc fun i1 l1 s1 e1 f1 => ?_
 have I1 := I.sub s1
 erw [I1.c56, I1.c20, I1.c33, ← I1.c50]; try conv => whnf
 by_cases hi : i < W.length
 ·rw [if_pos hi] at e1
  obtain ⟨i', k, sp, e, hq⟩ := lQ (Int.natCast_nonneg i) (Int.ofNat_lt.mpr hi)
  obtain rfl : i = i' := Int.ofNat.inj e
  have hb : b9 sp = true := hb _ hq
  have wi := S.wf _ _ hq
  by_cases hj : j < W.length
  ·rw [if_pos hj] at e1
   obtain ⟨j', l, sp', e, hq'⟩ := lQ (Int.natCast_nonneg j) (Int.ofNat_lt.mpr hj)
   obtain rfl : j = j' := Int.ofNat.inj e
   have wj := S.wf _ _ hq'
   erw [I1.c20, e1, I1.c14, I1.c16, k9 hi, k9 hj, I1.cth _ _ hq, I1.cth _ _ hq']; try conv => whnf
   by_cases hk : l = k
   ·subst hk
    have hb' : b9 sp' = true := (a7 wj).1.symm.trans ((a7 wi).1.trans hb)
    have hd : (!decide (l = l)) = false := by simp
    erw [hd, I1.cth _ _ hq, I1.csl _ _ hq, vZ hb, I1.cth _ _ hq', I1.csl _ _ hq', vZ hb']; try conv => whnf
    refine ⟨W, D, i, j, l, sp, sp', I1, S, hq, hq', hb, hb', rfl, fun l2 s2 => ?_⟩
    have I2 := I1.sub s2
    by_cases hr : D.rk i = D.rk j
    ·have hd : decide (D.rk i = D.rk j) = true := decide_eq_true hr
     rw [hd]
     erw [I2.c56, I2.c52, j7 S, rows_le hi, rows_lt hj, I2.c53, nQ S hi, nQ S hj, hd]; try conv => whnf
     (repeat refine z9 (by assumption) ?_); exact h _ (s1.trans s2)
    ·have hd : decide (D.rk i = D.rk j) = false := decide_eq_false hr
     rw [hd]
     erw [I2.c56, I2.c52, j7 S, rows_le hi, rows_lt hj, I2.c53, nQ S hi, nQ S hj, hd]; try conv => whnf
     (repeat refine z9 (by assumption) ?_); exact h _ (s1.trans s2)
   ·have hr : D.rk i ≠ D.rk j := rk_diff S hq hq' (fun z => hk z.symm)
    have hd : decide (D.rk i = D.rk j) = false := decide_eq_false hr
    have hk : (!decide (l = k)) = true := by simp [hk]
    erw [hk, I1.c56, I1.c52, j7 S, rows_le hi, rows_lt hj, I1.c53, nQ S hi, nQ S hj, hd]; try conv => whnf
    (repeat refine z9 (by assumption) ?_); exact h _ s1
  ·rw [if_neg hj] at e1
   erw [I1.c56, I1.c20, e1, I1.c14, I1.c16, k9 hi, k4, I1.c52, j7 S, rows_le hi, rows_nlt hj]; try conv => whnf
   (repeat refine z9 (by assumption) ?_); exact h _ s1
 ·rw [if_neg hi] at e1
  erw [I1.c20, e1, I1.c14, I1.c16, k4, I1.c35]
  refine putx I1.c35 fun l2 e2 g2 => ?_
  erw [g2 _ _ (by decide) I1.c56, g2 _ _ (by decide) I1.c52, j7 S, rows_nle hi, g2 _ _ (by decide) I1.c20]
  refine alloc fun i3 l3 s3 e3 f3 => ?_
  erw [s3 _ _ e2, ← e3, s3 _ _ (g2 _ _ (by decide) I1.c56), s3 _ _ (g2 _ _ (by decide) I1.c20)]
  refine putx (s3 _ _ e2) fun l4 e4 g4 => ?_
  erw []; try conv => whnf
  (repeat refine z9 (by assumption) ?_); refine h _ (s1.trans (Inv.other I1 (i := 35) (fun j x n e => g4 _ _ n (s3 _ _ (g2 _ _ n e))) ?_))
  rw [e4, I1.c35]
theorem blt200 {x : Int} (h : x.natAbs < 2 ^ 128) : Nat.blt x.natAbs (2 ^ 200) = true := Nat.ble_eq.mpr (Nat.lt_of_lt_of_le h (Nat.pow_le_pow_right (by decide) (by decide)))
theorem h31 {a b : Int} {n : Nat} (ha : a.natAbs ≤ n) (hb : b.natAbs ≤ n) : (a * 31 + b).natAbs ≤ n * 31 + n :=
 Nat.le_trans (Int.natAbs_add_le _ _) (Nat.add_le_add (by rw [Int.natAbs_mul]; exact Nat.mul_le_mul_right _ ha) hb)
theorem p32 : (2 : Int) ^ Int.toNat 32 = 4294967296 := by decide
theorem and_bd (x y : Int) : 0 ≤ Builtin.bitAnd (x % 4294967296) (y % 4294967296) ∧ Builtin.bitAnd (x % 4294967296) (y % 4294967296) < 4294967296 := by
 have h := PyProof.Rows.bitAnd_range (x % 4294967296) (Int.emod_nonneg y (by decide : (4294967296 : Int) ≠ 0))
 exact ⟨h.1, Int.lt_of_le_of_lt h.2 (Int.emod_lt_of_pos y (by decide))⟩
theorem band (x y : Int) : Nat.blt (Builtin.bitAnd (x.fmod ((2 : Int) ^ Int.toNat 32)) (y.fmod ((2 : Int) ^ Int.toNat 32))).natAbs (2 ^ 200) = true := by
 rw [p32, k6 _ (by decide), k6 _ (by decide)]
 exact blt200 (Nat.lt_trans (ab (n := 4294967296) (and_bd x y).1 (and_bd x y).2) (by decide))
theorem fold_bd (n : Int) : (fold n).natAbs < 2 ^ 40 := by
 have h := and_bd (n / 4294967296) n
 have e : ∀ z : Int, (z % 4294967296).natAbs ≤ 4294967296 := fun z => Nat.le_of_lt (ab (Int.emod_nonneg z (by decide)) (Int.emod_lt_of_pos z (by decide)))
 exact Nat.lt_of_le_of_lt (Nat.le_trans (Int.natAbs_sub_le _ _) (Nat.add_le_add (Nat.le_trans (Int.natAbs_add_le _ _) (Nat.add_le_add (e _) (e _))) (by rw [Int.natAbs_mul]; exact Nat.mul_le_mul_left 2 (Nat.le_of_lt (ab (n := 4294967296) h.1 h.2))))) (by decide)
theorem tQ (n : Int) : (n.fdiv ((2 : Int) ^ Int.toNat 32)).fmod ((2 : Int) ^ Int.toNat 32) + n.fmod ((2 : Int) ^ Int.toNat 32) - 2 * Builtin.bitAnd ((n.fdiv ((2 : Int) ^ Int.toNat 32)).fmod ((2 : Int) ^ Int.toNat 32)) (n.fmod ((2 : Int) ^ Int.toNat 32)) = fold n := by
 rw [p32, k6 _ (by decide), k6 _ (by decide), kZ _ (by decide)]
 rfl
theorem lawR_bd {W : List Row} {D : Ids} (S : w8 W D) {f : Int} (hf : f < W.length) : (lawR W f).natAbs < 2 ^ 64 := by
 unfold lawR
 split
 ·decide
 ·rename_i h
  obtain ⟨i, k, sp, rfl, hq⟩ := lQ (f := f) (Int.not_lt.mp h) hf
  rw [Int.toNat_natCast, hq]
  have few := S.few
  have w := S.wf _ _ hq
  cases sp with
  | txt s =>
   have hs := w.2
   simp only [texts, List.mem_cons, List.not_mem_nil, or_false] at hs
   rcases hs with rfl | rfl | rfl | rfl <;> (show (letters _).natAbs < _; decide +kernel)
  | obj => exact Nat.lt_of_le_of_lt (Nat.le_trans (Int.ofNat_lt.mp hf) few) (by decide)
  | _ => exact (by decide : (1 : Nat) < 2 ^ 64)
inductive S1033 (args : List V) (led : List O) (r : V -> List O -> Prop) : Prop
 | mk (n : Int) (b : Nat) : args = [.int n, .int b] -> 1 ≤ b -> b ≤ 64 -> (∀ y, y = (n + 2 ^ (b - 1)) % 2 ^ b - 2 ^ (b - 1) -> r (.int y) led) -> S1033 args led r
theorem ok1033 (args : List V) (led : List O) (r : V -> List O -> Prop) (h : S1033 args led r) : wf G (gm []) 14 (.call 1033 args led r) := by
 obtain ⟨n, b, rfl, h1, h2, h⟩ := h
 have a1 : decide ((0 : Int) ≤ (b : Int) - 1) = true := decide_eq_true (Int.sub_nonneg_of_le (Int.ofNat_le.mpr h1))
 have a2 : decide ((b : Int) - 1 ≤ 1000) = true := decide_eq_true (Int.le_trans (Int.sub_le_self _ (by decide)) (Int.ofNat_le.mpr (Nat.le_trans h2 (by decide))))
 have a3 : decide ((0 : Int) ≤ (b : Int)) = true := decide_eq_true (Int.natCast_nonneg b)
 have a4 : decide ((b : Int) ≤ 1000) = true := decide_eq_true (Int.ofNat_le.mpr (Nat.le_trans h2 (by decide)))
 have e1 : ((b : Int) - 1).toNat = b - 1 := Int.toNat_sub b 1
 have e2 : (b : Int).toNat = b := rfl
 have p : (0 : Int) < 2 ^ b := Int.pow_pos (by decide)
 have a5 : decide ((2 : Int) ^ (b : Int).toNat ≠ 0) = true := decide_eq_true (by rw [e2]; exact Int.ne_of_gt p)
 erw [a1, a2, a4, a5]; try conv => whnf
 (repeat refine z9 (by assumption) ?_); refine h _ ?_
 rw [e1, e2, k6 _ p]
theorem signed32 (n : Int) : (n + 2 ^ (32 - 1)) % 2 ^ 32 - 2 ^ (32 - 1) = a0 n := by
 unfold a0
 have e1 : (2 : Int) ^ (32 - 1) = 2147483648 := by decide
 have e2 : (2 : Int) ^ 32 = 4294967296 := by decide
 rw [e1, e2]
inductive S1047 (args : List V) (led : List O) (r : V -> List O -> Prop) : Prop
 | mk (W : List Row) (D : Ids) (i : Nat) (k : Int) (sp : Sp) : Inv W D led -> w8 W D -> W[i]? = some ⟨k, sp⟩ -> b9 sp = true -> args = [.own 56, oQ sp] -> (∀ led' id, Sub led led' -> getL led' id = some (.list ((partsL W sp).map .int)) -> r (.own id) led') -> S1047 args led r
noncomputable def C6 : Ctx := [(1040, (24, S1040))]
theorem ok1047 (args : List V) (led : List O) (r : V -> List O -> Prop) (h : S1047 args led r) : wf G (gm C6) 50 (.call 1047 args led r) := by
 obtain ⟨W, D, i, k, sp, I, S, hq, hb, rfl, h⟩ := h
 have w := S.wf _ _ hq
 have key : ∀ led' id l, Sub led led' -> getL led' id = some (.list l) -> l = (partsL W sp).map .int -> r (.own id) led' := fun l i p s e z => h l i s (z ▸ e)
 cases sp with
 | txt s => cases hb
 | obj => cases hb
 | num t n =>
  rcases u5 w with rfl | rfl | rfl
  ·erw []
   refine alloc fun i1 l1 s1 e1 f1 => ?_
   (repeat refine z9 (by assumption) ?_); exact key _ _ _ s1 e1 rfl
  ·erw [band]
   refine alloc fun i1 l1 s1 e1 f1 => ?_
   (repeat refine z9 (by assumption) ?_); refine key _ _ _ s1 e1 ?_
   rw [tQ]
   rfl
  ·erw [band]
   refine alloc fun i1 l1 s1 e1 f1 => ?_
   (repeat refine z9 (by assumption) ?_); refine key _ _ _ s1 e1 ?_
   rw [tQ]
   rfl
 | pair a b =>
  erw []
  refine alloc fun i1 l1 s1 e1 f1 => ?_
  erw [band]
  refine alloc fun i2 l2 s2 e2 f2 => ?_
  erw [s2 _ _ e1, e2]
  refine alloc fun i3 l3 s3 e3 f3 => ?_
  erw []
  refine alloc fun i4 l4 s4 e4 f4 => ?_
  erw [s4 _ _ e3, e4]
  refine alloc fun i5 l5 s5 e5 f5 => ?_
  erw []; try conv => whnf
  (repeat refine z9 (by assumption) ?_); refine key _ _ _ (s1.trans (s2.trans (s3.trans (s4.trans s5)))) e5 ?_
  rw [tQ]
  rfl
 | whole f a b =>
  have hf : -1 ≤ f ∧ f < W.length := by
   have h1 : -1 ≤ f ∧ f < i := ⟨w.2.1, w.2.2.1⟩
   exact ⟨h1.1, fi h1.2 (j9 hq)⟩
  erw []
  refine alloc fun i1 l1 s1 e1 f1 => ?_
  erw []
  refine alloc fun i1 l1' s1' e1' f1' => ?_
  erw [band]
  refine alloc fun i2 l2 s2 e2 f2 => ?_
  erw [s2 _ _ e1', e2]
  refine alloc fun i3 l3 s3 e3 f3 => ?_
  erw []
  refine alloc fun i4 l4 s4 e4 f4 => ?_
  erw [s4 _ _ e3, e4]
  refine alloc fun i5 l5 s5 e5 f5 => ?_
  have s15 := s1'.trans (s2.trans (s3.trans (s4.trans s5)))
  erw [s15 _ _ e1, e5]
  refine alloc fun i6 l6 s6 e6 f6 => ?_
  have s16 := s1.trans (s15.trans s6)
  have I6 := I.sub s16
  have fin : ∀ n, n = lawR W f -> ∀ l7, Sub l6 l7 -> ∀ i7, getL l7 i7 = some (.list [.int n]) -> ∀ l8, Sub l7 l8 -> ∀ id l, getL l8 id = some (.list l) -> l = [.int 17, .int 17, .int (fold b), .int a, .int n] -> r (.own id) l8 := fun n hn l7 s7 i7 e7 l8 s8 id l e hl => key _ _ _ (s16.trans (s7.trans s8)) e (by rw [hl, hn]; rfl)
  by_cases hf0 : f < 0
  ·have h0 : decide (f < 0) = true := decide_eq_true hf0
   erw [h0]
   refine alloc fun i7 l7 s7 e7 f7 => ?_
   erw [s7 _ _ e6, e7]
   refine alloc fun i8 l8 s8 e8 f8 => ?_
   erw []; try conv => whnf
   (repeat refine z9 (by assumption) ?_); exact fin 0 (by unfold lawR; rw [if_pos hf0]) l7 s7 i7 e7 l8 s8 _ _ e8 (by rw [tQ]; rfl)
  ·have h0 : decide (f < 0) = false := decide_eq_false hf0
   obtain ⟨j, kj, sp', rfl, hq'⟩ := lQ (f := f) (Int.not_lt.mp hf0) hf.2
   have wj := S.wf _ _ hq'
   have hR : lawR W j = lawS j sp' := by unfold lawR; rw [if_neg hf0, Int.toNat_natCast, hq']
   rw [hR] at fin
   cases sp' with
   | txt s =>
    erw [I6.c56, I6.c52, p0 S hq']; try conv => whnf
    refine ⟨s, rfl, wj.2, ?_⟩
    erw []
    refine alloc fun i7 l7 s7 e7 f7 => ?_
    erw [s7 _ _ e6, e7]
    refine alloc fun i8 l8 s8 e8 f8 => ?_
    erw []; try conv => whnf
    (repeat refine z9 (by assumption) ?_); exact fin _ rfl l7 s7 i7 e7 l8 s8 _ _ e8 (by rw [tQ]; rfl)
   | num t n =>
    have h8 : decide (t = 8) = false := by rcases u5 wj with rfl | rfl | rfl <;> rfl
    have h9 : decide (0 < t) = true := by rcases u5 wj with rfl | rfl | rfl <;> rfl
    erw [I6.c56, I6.c52, p0 S hq', h8, h9]
    refine alloc fun i7 l7 s7 e7 f7 => ?_
    erw [s7 _ _ e6, e7]
    refine alloc fun i8 l8 s8 e8 f8 => ?_
    erw []; try conv => whnf
    (repeat refine z9 (by assumption) ?_); exact fin _ rfl l7 s7 i7 e7 l8 s8 _ _ e8 (by rw [tQ]; rfl)
   | _ =>
    erw [I6.c56, I6.c52, p0 S hq']
    refine alloc fun i7 l7 s7 e7 f7 => ?_
    erw [s7 _ _ e6, e7]
    refine alloc fun i8 l8 s8 e8 f8 => ?_
    erw []; try conv => whnf
    (repeat refine z9 (by assumption) ?_); exact fin _ rfl l7 s7 i7 e7 l8 s8 _ _ e8 (by rw [tQ]; rfl)
inductive S1082 (args : List V) (led : List O) (r : V -> List O -> Prop) : Prop
 | mk (W : List Row) (D : Ids) (i : Nat) (q : Row) : Inv W D led -> w8 W D -> W[i]? = some q -> b9 q.sp = true -> args = [.own 56, .int i] -> (∀ led', Sub led led' -> r (.bool true) led') -> S1082 args led r
noncomputable def C7 : Ctx := [(1068, (18, S1068)), (1047, (50, S1047)), (872, (58, S872)), (1033, (14, S1033))]
theorem mark_end {led0 led : List O} {r : V -> List O -> Prop} {W : List Row} {D : Ids} {i : Nat} {k t : Int} {sp : Sp} {c : Option V} (I : Inv W D led) (S : w8 W D) (hq : W[i]? = some ⟨k, sp⟩) (hb : b9 sp = true) (ht : t = total (partsL W sp)) (hs : Sub led0 led) (h : ∀ led', Sub led0 led' -> r (.bool true) led') :
  wf G (gm C7) 77 (.b [(.ret (.cmp .eq (.call 1054 [(.loc 0), (.glob (.int 14)), (.list [(.call 1068 [(.loc 0), (.loc 1)])])]) (.tup [(.glob (.int 1)), (.call 1033 [(.loc 2), (.con (.int 32))])])))] ⟨[some (.own 56), some (.int i), some (.int t), c], led⟩ (fun st => r .none st.led) r) := by
 erw []; try conv => whnf
 refine ⟨W, D, i, I, S, rfl, ?_⟩
 erw []
 refine alloc fun i1 l1 s1 e1 f1 => ?_
 rw [if_pos (j9 hq)] at e1
 have I1 := I.sub s1
 erw [I1.c56, I1.c20, I1.c33, ← I1.c51, e1, I1.c14, I1.c16, k9 (j9 hq), I1.cth _ _ hq, I1.csl _ _ hq, vZ hb]; try conv => whnf
 refine ⟨W, D, i, k, sp, I1, S, hq, hb, rfl, fun l2 s2 => ?_⟩
 erw []; try conv => whnf
 refine ⟨t, 32, rfl, by decide, by decide, fun y hy => ?_⟩
 have hd : decide (a0 (total (partsL W sp)) = y) = true := decide_eq_true (by rw [hy, signed32, ht])
 erw [hd]; try conv => whnf
 (repeat refine z9 (by assumption) ?_); exact h _ (hs.trans (s1.trans s2))
theorem ok1082 (args : List V) (led : List O) (r : V -> List O -> Prop) (h : S1082 args led r) : wf G (gm C7) 80 (.call 1082 args led r) := by
 obtain ⟨W, D, i, ⟨k, sp⟩, I, S, hq, hb, rfl, h⟩ := h
 have w := S.wf _ _ hq
 erw [I.c56, I.c52, p0 S hq]; try conv => whnf
 refine ⟨W, D, i, k, sp, I, S, hq, hb, rfl, fun l1 i1 s1 e1 => ?_⟩
 have I1 := I.sub s1
 cases sp with
 | txt s => cases hb
 | obj => cases hb
 | num t n =>
  erw [← e1]; try conv => whnf
  refine ⟨e1, ?_⟩
  exact mark_end I1 S hq hb rfl s1 h
 | pair a b =>
  have ba : a.natAbs < 2 ^ 64 := w.2.1
  have bb := fold_bd b
  have e1 : getL l1 i1 = some (.list [.int 17, .int (fold b), .int a]) := e1
  have ht : ((0 * 31 + 17) * 31 + fold b) * 31 + a = total (partsL W (.pair a b)) := rfl
  generalize fold b = p1 at e1 bb ht
  have g1 := blt200 (x := (0 * 31 + 17) * 31 + p1) (Nat.lt_of_le_of_lt (h31 (n := 2 ^ 40) (by decide) (Nat.le_of_lt bb)) (by decide))
  erw [← e1]; try conv => whnf
  refine ⟨e1, ?_⟩
  erw []; try conv => whnf
  refine ⟨e1, ?_⟩
  erw [g1]; try conv => whnf
  refine ⟨e1, ?_⟩
  exact mark_end I1 S hq hb ht s1 h
 | whole f a b =>
  have ba : a.natAbs < 2 ^ 64 := w.2.2.2.1
  have bb := fold_bd b
  have br := lawR_bd S (f := f) (fi w.2.2.1 (j9 hq))
  have e1 : getL l1 i1 = some (.list [.int 17, .int 17, .int (fold b), .int a, .int (lawR W f)]) := e1
  have ht : ((((0 * 31 + 17) * 31 + 17) * 31 + fold b) * 31 + a) * 31 + lawR W f = total (partsL W (.whole f a b)) := rfl
  generalize fold b = p1 at e1 bb ht
  generalize lawR W f = p2 at e1 br ht
  have g1 := blt200 (x := ((0 * 31 + 17) * 31 + 17) * 31 + p1) (Nat.lt_of_le_of_lt (h31 (n := 2 ^ 40) (by decide) (Nat.le_of_lt bb)) (by decide))
  have g2 := blt200 (x := (((0 * 31 + 17) * 31 + 17) * 31 + p1) * 31 + a) (Nat.lt_of_le_of_lt (h31 (n := 2 ^ 64) (Nat.le_trans (h31 (n := 2 ^ 40) (by decide) (Nat.le_of_lt bb)) (by decide)) (Nat.le_of_lt ba)) (by decide))
  erw [← e1]; try conv => whnf
  refine ⟨e1, ?_⟩
  erw []; try conv => whnf
  refine ⟨e1, ?_⟩
  erw []; try conv => whnf
  refine ⟨e1, ?_⟩
  erw [g1]; try conv => whnf
  refine ⟨e1, ?_⟩
  erw [g2]; try conv => whnf
  refine ⟨e1, ?_⟩
  exact mark_end I1 S hq hb ht s1 h
noncomputable def pick (z a b c d e f : Int) : Int := if z % 6 = 0 then a else if z % 6 = 1 then b else if z % 6 = 2 then c else if z % 6 = 3 then d else if z % 6 = 4 then e else f
theorem idx6 (z a b c d e f : Int) : idx [.int a, .int b, .int c, .int d, .int e, .int f] (z.fmod 6) = some (.int (pick z a b c d e f)) := by
 rw [k6 _ (by decide)]
 have h : z % 6 = 0 ∨ z % 6 = 1 ∨ z % 6 = 2 ∨ z % 6 = 3 ∨ z % 6 = 4 ∨ z % 6 = 5 := em_cases (n := 6) (P := fun t => t = 0 ∨ t = 1 ∨ t = 2 ∨ t = 3 ∨ t = 4 ∨ t = 5) (by decide) (by decide)
 unfold pick
 rcases h with h | h | h | h | h | h <;> rw [h] <;> rfl
theorem na_lt {x : Int} {n : Nat} (h0 : 0 ≤ x) (h1 : x < (n : Int)) : x.natAbs < n := by
 obtain ⟨m, rfl⟩ := Int.eq_ofNat_of_zero_le h0
 exact Int.ofNat_lt.mp h1
theorem fm_bd (x : Int) (b : Nat) (hb : b ≤ 64) : (x.fmod (2 ^ b)).natAbs < 2 ^ 64 := by
 have p : (0 : Int) < 2 ^ b := Int.pow_pos (by decide)
 have q : (2 : Int) ^ b ≤ 2 ^ 64 := by have := Nat.pow_le_pow_right (n := 2) (by decide) hb; exact_mod_cast this
 rw [k6 _ p]
 exact na_lt (Int.emod_nonneg x (Int.ne_of_gt p)) (Int.lt_of_lt_of_le (Int.emod_lt_of_pos x p) q)
theorem sg_bd (x : Int) (b : Nat) (h1 : 1 ≤ b) (h2 : b ≤ 64) : ((x + 2 ^ (b - 1)) % 2 ^ b - 2 ^ (b - 1)).natAbs < 2 ^ 64 := by
 have p : (0 : Int) < 2 ^ (b - 1) := Int.pow_pos (by decide)
 have q : (2 : Int) ^ (b - 1) ≤ 2 ^ 63 := by have := Nat.pow_le_pow_right (n := 2) (i := b - 1) (j := 63) (by decide) (Nat.sub_le_sub_right h2 1); exact_mod_cast this
 have e : (2 : Int) ^ b = 2 ^ (b - 1) * 2 := by rw [← Int.pow_succ]; congr 1; exact (Nat.sub_add_cancel h1).symm
 rw [e]
 generalize (2 : Int) ^ (b - 1) = m at *
 have p2 : 0 < m * 2 := Int.mul_pos p (by decide)
 have h1 := Int.emod_nonneg (x + m) (b := m * 2) (Int.ne_of_gt p2)
 have h2 := Int.emod_lt_of_pos (x + m) p2
 exact Nat.lt_of_le_of_lt (ab2 (n := 2 ^ 63) (Int.le_trans (Int.neg_le_neg q) (Int.zero_sub m ▸ Int.sub_le_sub_right h1 m)) (Int.le_trans (Int.le_of_lt (Int.sub_right_lt_of_lt_add (Int.lt_of_lt_of_le h2 (Int.le_of_eq (by rw [show (2 : Int) = 1 + 1 from rfl, Int.mul_add, Int.mul_one]))))) q)) (by decide)
inductive S1089 (args : List V) (led : List O) (r : V -> List O -> Prop) : Prop
 | mk (k z : Int) : args = [.int k, .int z] -> 1 ≤ k -> k ≤ 11 -> 0 ≤ z -> z < 2 ^ 100 -> (∀ n : Int, n.natAbs < 2 ^ 64 -> r (.tup [.int (tagOf k), .int n]) led) -> S1089 args led r
noncomputable def C8 : Ctx := [(1033, (14, S1033))]
theorem ok1089 (args : List V) (led : List O) (r : V -> List O -> Prop) (h : S1089 args led r) : wf G (gm C8) 34 (.call 1089 args led r) := by
 obtain ⟨k, z, rfl, h1, h2, h3, h4, h⟩ := h
 have g : Nat.blt (z.fdiv 6).natAbs (2 ^ 200) = true := by
  rw [kZ _ (by decide)]
  exact blt200 (Nat.lt_trans (ab (n := 2 ^ 100) (Int.ediv_nonneg h3 (by decide)) (Int.lt_of_le_of_lt (Int.ediv_le_self _ h3) h4)) (by decide))
 have key : ∀ t n : Int, t = tagOf k -> n.natAbs < 2 ^ 64 -> r (.tup [.int t, .int n]) led := fun t n ht hn => ht ▸ h n hn
 refine cb_id ?_
 have hk : k = 1 ∨ k = 2 ∨ k = 3 ∨ k = 4 ∨ k = 5 ∨ k = 6 ∨ k = 7 ∨ k = 8 ∨ k = 9 ∨ k = 10 ∨ k = 11 := bt_cases (a := 1) (n := 10) (P := fun k => k = 1 ∨ k = 2 ∨ k = 3 ∨ k = 4 ∨ k = 5 ∨ k = 6 ∨ k = 7 ∨ k = 8 ∨ k = 9 ∨ k = 10 ∨ k = 11) h1 h2 (by decide)
 rcases hk with rfl | rfl | rfl | rfl | rfl | rfl | rfl | rfl | rfl | rfl | rfl
 ·erw [g, idx6]; try conv => whnf
  (repeat refine z9 (by assumption) ?_); exact key _ _ rfl (fm_bd _ _ (by decide))
 ·erw [g, idx6]; try conv => whnf
  (repeat refine z9 (by assumption) ?_); exact key _ _ rfl (fm_bd _ _ (by decide))
 ·erw [g, idx6]; try conv => whnf
  refine ⟨_, 8, rfl, by decide, by decide, fun y hy => ?_⟩
  erw []; try conv => whnf
  (repeat refine z9 (by assumption) ?_); exact key _ _ rfl (hy ▸ sg_bd _ _ (by decide) (by decide))
 ·erw [g, idx6]; try conv => whnf
  (repeat refine z9 (by assumption) ?_); exact key _ _ rfl (fm_bd _ _ (by decide))
 ·erw [g, idx6]; try conv => whnf
  refine ⟨_, 16, rfl, by decide, by decide, fun y hy => ?_⟩
  erw []; try conv => whnf
  (repeat refine z9 (by assumption) ?_); exact key _ _ rfl (hy ▸ sg_bd _ _ (by decide) (by decide))
 ·erw [g, idx6]; try conv => whnf
  (repeat refine z9 (by assumption) ?_); exact key _ _ rfl (fm_bd _ _ (by decide))
 ·erw [g, idx6]; try conv => whnf
  refine ⟨_, 32, rfl, by decide, by decide, fun y hy => ?_⟩
  erw []; try conv => whnf
  (repeat refine z9 (by assumption) ?_); exact key _ _ rfl (hy ▸ sg_bd _ _ (by decide) (by decide))
 ·erw [g, idx6]; try conv => whnf
  refine ⟨_, 32, rfl, by decide, by decide, fun y hy => ?_⟩
  erw []; try conv => whnf
  (repeat refine z9 (by assumption) ?_); exact key _ _ rfl (hy ▸ sg_bd _ _ (by decide) (by decide))
 ·erw [g, idx6]; try conv => whnf
  refine ⟨_, 64, rfl, by decide, by decide, fun y hy => ?_⟩
  erw []; try conv => whnf
  (repeat refine z9 (by assumption) ?_); exact key _ _ rfl (hy ▸ sg_bd _ _ (by decide) (by decide))
 ·erw [g, idx6]; try conv => whnf
  refine ⟨_, 64, rfl, by decide, by decide, fun y hy => ?_⟩
  erw []; try conv => whnf
  (repeat refine z9 (by assumption) ?_); exact key _ _ rfl (hy ▸ sg_bd _ _ (by decide) (by decide))
 ·erw [g, idx6]; try conv => whnf
  refine ⟨_, 32, rfl, by decide, by decide, fun y hy => ?_⟩
  erw []; try conv => whnf
  (repeat refine z9 (by assumption) ?_); exact key _ _ rfl (hy ▸ sg_bd _ _ (by decide) (by decide))
inductive S1096 (args : List V) (led : List O) (r : V -> List O -> Prop) : Prop
 | mk (z : Int) : args = [.own 56, .int z] -> Base led -> 0 ≤ z -> z < 2 ^ 100 -> (∀ a b : Int, a.natAbs < 2 ^ 64 -> b.natAbs < 2 ^ 64 -> r (jQ a b) led) -> S1096 args led r
noncomputable def C9 : Ctx := [(1089, (34, S1089))]
theorem ok1096 (args : List V) (led : List O) (r : V -> List O -> Prop) (h : S1096 args led r) : wf G (gm C9) 46 (.call 1096 args led r) := by
 obtain ⟨z, rfl, B, h3, h4, h⟩ := h
 erw [B.c56]; try conv => whnf
 refine ⟨7, _, rfl, by decide, by decide, ?_, ?_, fun a ha => ?_⟩
 ·exact (fm_ge (b := 6) (by decide)).1
 ·exact Int.lt_trans (fm_ge (b := 6) (by decide)).2 (by decide)
 erw []; try conv => whnf
 refine ⟨9, _, rfl, by decide, by decide, h3, h4, fun b hb => ?_⟩
 erw []; try conv => whnf
 (repeat refine z9 (by assumption) ?_); exact h a b ha hb
inductive S1103 (args : List V) (led : List O) (r : V -> List O -> Prop) : Prop
 | mk (W : List Row) (D : Ids) (k z : Int) : args = [.own 56, .int k, .int z] -> Inv W D led -> w8 W D -> 0 ≤ z -> z < 2 ^ 100 -> iQ k = true -> (∀ sp, Wf W.length ⟨k, sp⟩ -> b9 sp = true -> r (oQ sp) led) -> S1103 args led r
noncomputable def C10 : Ctx := [(1089, (34, S1089)), (1096, (46, S1096))]
theorem isVal_iff {k : Int} (h : iQ k = true) : (1 ≤ k ∧ k ≤ 11) ∨ k = 16 ∨ k = 17 ∨ k = 18 := by
 unfold iQ at h
 simp only [Bool.or_eq_true, Bool.and_eq_true, decide_eq_true_eq] at h
 exact h.imp id fun h => bt_cases (a := 16) (n := 2) (P := fun k => k = 16 ∨ k = 17 ∨ k = 18) h.1 h.2 (by decide)
theorem ok1103 (args : List V) (led : List O) (r : V -> List O -> Prop) (h : S1103 args led r) : wf G (gm C10) 64 (.call 1103 args led r) := by
 obtain ⟨W, D, k, z, rfl, I, S, h3, h4, hv, h⟩ := h
 have hk := isVal_iff hv
 have few := S.few
 have e56 := I.c56
 rcases hk with hk | rfl | rfl | rfl
 ·have d18 : decide (k = 18) = false := decide_eq_false (Int.ne_of_lt (Int.lt_of_le_of_lt hk.2 (by decide)))
  have d17 : decide (k = 17) = false := decide_eq_false (Int.ne_of_lt (Int.lt_of_le_of_lt hk.2 (by decide)))
  have d16 : decide (k = 16) = false := decide_eq_false (Int.ne_of_lt (Int.lt_of_le_of_lt hk.2 (by decide)))
  erw [e56, d18, d17, d16]; try conv => whnf
  refine ⟨k, z, rfl, hk.1, hk.2, h3, h4, fun n hn => ?_⟩
  (repeat refine z9 (by assumption) ?_); exact h (.num (tagOf k) n) ⟨.inr ⟨hk.1, hk.2, rfl⟩, hn⟩ rfl
 ·erw [e56]; try conv => whnf
  refine ⟨7, z, rfl, by decide, by decide, h3, h4, fun n hn => ?_⟩
  (repeat refine z9 (by assumption) ?_); exact h (.num 1 n) ⟨.inl ⟨rfl, rfl⟩, hn⟩ rfl
 ·erw [e56]; try conv => whnf
  refine ⟨z, rfl, I.toBase, h3, h4, fun a b ha hb => ?_⟩
  (repeat refine z9 (by assumption) ?_); exact h (.pair a b) ⟨rfl, ha, hb⟩ rfl
 ·have hm : ((r9 D.cp 0 W).length : Int) + 1 = W.length + 1 := by rw [r5]
  have nz : decide (((r9 D.cp 0 W).length : Int) + 1 ≠ 0) = true := decide_eq_true (Int.ne_of_gt (Int.ofNat_lt.mpr (Nat.succ_pos _)))
  erw [e56, I.c52, j7 S]; try conv => whnf
  refine ⟨_, rfl, I.toBase, ?_, ?_, fun a b ha hb => ?_⟩
  ·exact (fd_bd h3 h4 (by decide)).1
  ·exact (fd_bd h3 h4 (by decide)).2
  have b1 := fm_ge (z := z) (b := (W.length : Int) + 1) (Int.lt_add_one_of_le (Int.natCast_nonneg _))
  (repeat refine z9 (by assumption) ?_); refine h (.whole (z.fmod (((r9 D.cp 0 W).length : Int) + 1) - 1) a b) ⟨rfl, ?_, ?_, ha, hb⟩ rfl
  ·rw [hm]; exact Int.sub_le_sub_right b1.1 1
  ·rw [hm]; exact Int.sub_right_lt_of_lt_add b1.2
inductive S1108 (args : List V) (led : List O) (r : V -> List O -> Prop) : Prop
 | mk (W : List Row) (D : Ids) (i : Nat) (k z : Int) (sp : Sp) : Inv W D led -> w8 W D -> W[i]? = some ⟨k, sp⟩ -> b9 sp = true -> args = [.own 56, .int k, oQ sp, .int z] -> 0 ≤ z -> z < 2 ^ 100 -> (∀ sp', Wf W.length ⟨k, sp'⟩ -> b9 sp' = true -> ∀ led', Sub led led' -> r (oQ sp') led') -> S1108 args led r
noncomputable def C11 : Ctx := [(1089, (34, S1089)), (1103, (64, S1103))]
theorem fmod2 (z : Int) : z.fmod 2 = 0 ∨ z.fmod 2 = 1 := by rw [k6 _ (by decide)]; exact em_cases (n := 2) (P := fun t => t = 0 ∨ t = 1) (by decide) (by decide)
theorem half {z : Int} (h3 : 0 ≤ z) (h4 : z < 2 ^ 100) : 0 ≤ z.fdiv 2 ∧ z.fdiv 2 < 2 ^ 100 := fd_bd h3 h4 (by decide)
theorem ok1108 (args : List V) (led : List O) (r : V -> List O -> Prop) (h : S1108 args led r) : wf G (gm C11) 84 (.call 1108 args led r) := by
 obtain ⟨W, D, i, k, z, sp, I, S, hq, hb, rfl, h3, h4, h⟩ := h
 have w := S.wf _ _ hq
 have hh := half h3 h4
 have li := j9 hq
 have few := S.few
 cases sp with
 | txt s => cases hb
 | obj => cases hb
 | num t n =>
  have d4 : decide (t < 4) = true := by rcases u5 w with rfl | rfl | rfl <;> rfl
  erw [d4]; try conv => whnf
  refine ⟨W, D, k, z, rfl, I, S, h3, h4, (a7 w).1, fun sp' w' b' => ?_⟩
  (repeat refine z9 (by assumption) ?_); exact h sp' w' b' led (Sub.refl _)
 | pair a b =>
  obtain ⟨hk, ha, hb⟩ := w
  change k = 17 at hk
  subst hk
  erw []
  refine alloc fun i1 l1 s1 e1 f1 => ?_
  erw [e1]
  refine put s1 f1 e1 fun l2 s2 e2 g2 => ?_
  erw [e2]
  refine put s2 f1 e2 fun l3 s3 e3 g3 => ?_
  rcases fmod2 z with hz | hz
  ·erw [hz, e3]; try conv => whnf
   refine ⟨7, _, rfl, by decide, by decide, hh.1, hh.2, fun n hn => ?_⟩
   erw [e3]
   refine put s3 f1 e3 fun l4 s4 e4 g4 => ?_
   erw [e4]; try conv => whnf
   (repeat refine z9 (by assumption) ?_); exact h (.pair n b) ⟨rfl, hn, hb⟩ rfl _ s4
  ·erw [hz, e3]; try conv => whnf
   refine ⟨9, _, rfl, by decide, by decide, hh.1, hh.2, fun n hn => ?_⟩
   erw [e3]
   refine put s3 f1 e3 fun l4 s4 e4 g4 => ?_
   erw [e4]; try conv => whnf
   (repeat refine z9 (by assumption) ?_); exact h (.pair a n) ⟨rfl, ha, hn⟩ rfl _ s4
 | whole f a b =>
  obtain ⟨hk, hf1, hf2, ha, hb⟩ := w
  change k = 18 at hk
  subst hk
  have I' := I
  erw []
  refine alloc fun i1 l1 s1 e1 f1 => ?_
  erw [e1]
  refine put s1 f1 e1 fun l2 s2 e2 g2 => ?_
  erw [e2]
  refine put s2 f1 e2 fun l3 s3 e3 g3 => ?_
  have I3 := I.sub s3
  rcases fmod2 z with hz | hz
  ·have hm : ((r9 D.cp 0 W).length : Int) + 1 = W.length + 1 := by rw [r5]
   have nz : decide (((r9 D.cp 0 W).length : Int) + 1 ≠ 0) = true := decide_eq_true (Int.ne_of_gt (Int.ofNat_lt.mpr (Nat.succ_pos _)))
   erw [hz, e3, I3.c56, I3.c52, j7 S]
   refine put s3 f1 e3 fun l4 s4 e4 g4 => ?_
   erw [e4]; try conv => whnf
   have b1 := fm_ge (z := z.fdiv 2) (b := (W.length : Int) + 1) (Int.lt_add_one_of_le (Int.natCast_nonneg _))
   (repeat refine z9 (by assumption) ?_); refine h (.whole ((z.fdiv 2).fmod (((r9 D.cp 0 W).length : Int) + 1) - 1) a b) ⟨rfl, ?_, ?_, ha, hb⟩ rfl _ s4
   ·rw [hm]; exact Int.sub_le_sub_right b1.1 1
   ·rw [hm]; exact Int.sub_right_lt_of_lt_add b1.2
  ·have hq := half hh.1 hh.2
   erw [hz, e3]
   refine alloc fun i5 l5 s5 e5 f5 => ?_
   have fr : led.length ≤ i5 := Nat.le_trans s3.len f5
   have n5 : i5 ≠ i1 := fun z => by subst z; exact absurd (w9 e3) (Nat.not_lt.mpr f5)
   erw [e5]
   refine put (s3.trans s5) fr e5 fun l6 s6 e6 g6 => ?_
   erw [e6]
   refine put s6 fr e6 fun l7 s7 e7 g7 => ?_
   have e3' := g7 _ _ n5.symm (g6 _ _ n5.symm (s5 _ _ e3))
   rcases fmod2 (z.fdiv 2) with hy | hy
   ·erw [hy, e7]; try conv => whnf
    refine ⟨7, _, rfl, by decide, by decide, hq.1, hq.2, fun n hn => ?_⟩
    erw [e7]
    refine put s7 fr e7 fun l8 s8 e8 g8 => ?_
    have e3'' := g8 _ _ n5.symm e3'
    erw [e8, e3'']
    refine put s8 f1 e3'' fun l9 s9 e9 g9 => ?_
    erw [e9]; try conv => whnf
    (repeat refine z9 (by assumption) ?_); exact h (.whole f n b) ⟨rfl, hf1, fi hf2 li, hn, hb⟩ rfl _ s9
   ·erw [hy, e7]; try conv => whnf
    refine ⟨9, _, rfl, by decide, by decide, hq.1, hq.2, fun n hn => ?_⟩
    erw [e7]
    refine put s7 fr e7 fun l8 s8 e8 g8 => ?_
    have e3'' := g8 _ _ n5.symm e3'
    erw [e8, e3'']
    refine put s8 f1 e3'' fun l9 s9 e9 g9 => ?_
    erw [e9]; try conv => whnf
    (repeat refine z9 (by assumption) ?_); exact h (.whole f a n) ⟨rfl, hf1, fi hf2 li, ha, hn⟩ rfl _ s9
inductive S1014 (args : List V) (led : List O) (r : V -> List O -> Prop) : Prop
 | mk (W : List Row) (D : Ids) (k : Int) (sp : Sp) : Inv W D led -> w8 W D -> Wf W.length ⟨k, sp⟩ -> b9 sp = true -> args = [.own 56, oQ sp] -> (∀ led', Sub led led' -> r (valV sp) led') -> S1014 args led r
theorem ok1014 (args : List V) (led : List O) (r : V -> List O -> Prop) (h : S1014 args led r) : wf G (gm []) 50 (.call 1014 args led r) := by
 obtain ⟨W, D, k, sp, I, S, w, hb, rfl, h⟩ := h
 cases sp with
 | txt s => cases hb
 | obj => cases hb
 | num t n =>
  have d5 : decide (t = 5) = false := by rcases u5 w with rfl | rfl | rfl <;> rfl
  have d4 : decide (t = 4) = false := by rcases u5 w with rfl | rfl | rfl <;> rfl
  erw [d5, d4]; try conv => whnf
  (repeat refine z9 (by assumption) ?_); exact h _ (Sub.refl _)
 | pair a b =>
  erw []
  refine alloc fun i1 l1 s1 e1 f1 => ?_
  erw [e1]
  refine put s1 f1 e1 fun l2 s2 e2 g2 => ?_
  erw [e2]
  refine put s2 f1 e2 fun l3 s3 e3 g3 => ?_
  erw [e3]; try conv => whnf
  (repeat refine z9 (by assumption) ?_); exact h _ s3
 | whole f a b =>
  obtain ⟨hk, hf1, hf2, ha, hb⟩ := w
  erw []
  refine alloc fun i1 l1 s1 e1 f1 => ?_
  have I1 := I.sub s1
  by_cases hf0 : f < 0
  ·have h0 : decide (f < 0) = true := decide_eq_true hf0
   have er : rZ f = 0 := if_pos hf0
   have h : ∀ led', Sub led led' -> r (.tup [.int 5, .int 18, .tup [.tup [.int 4, .int (rZ f)], jQ a b]]) led' := h
   rw [er] at h
   erw [h0, e1]
   refine put s1 f1 e1 fun l2 s2 e2 g2 => ?_
   erw []
   refine alloc fun i3 l3 s3 e3 f3 => ?_
   have fr : led.length ≤ i3 := Nat.le_trans s2.len f3
   have n3 : i3 ≠ i1 := fun z => by subst z; exact absurd (w9 e2) (Nat.not_lt.mpr f3)
   erw [e3]
   refine put (s2.trans s3) fr e3 fun l4 s4 e4 g4 => ?_
   erw [e4]
   refine put s4 fr e4 fun l5 s5 e5 g5 => ?_
   have e2' := g5 _ _ n3.symm (g4 _ _ n3.symm (s3 _ _ e2))
   erw [e5, e2']
   refine put s5 f1 e2' fun l6 s6 e6 g6 => ?_
   erw [e6]; try conv => whnf
   (repeat refine z9 (by assumption) ?_); exact h _ s6
  ·have h0 : decide (f < 0) = false := decide_eq_false hf0
   obtain ⟨j, kj, sp', rfl, hq'⟩ := lQ (f := f) (Int.not_lt.mp hf0) hf2
   have er : rZ j = addr j := if_neg hf0
   have h : ∀ led', Sub led led' -> r (.tup [.int 5, .int 18, .tup [.tup [.int 4, .int (rZ j)], jQ a b]]) led' := h
   rw [er] at h
   erw [I1.c56, I1.c52, p0 S hq', e1]
   refine put s1 f1 e1 fun l2 s2 e2 g2 => ?_
   erw []
   refine alloc fun i3 l3 s3 e3 f3 => ?_
   have fr : led.length ≤ i3 := Nat.le_trans s2.len f3
   have n3 : i3 ≠ i1 := fun z => by subst z; exact absurd (w9 e2) (Nat.not_lt.mpr f3)
   erw [e3]
   refine put (s2.trans s3) fr e3 fun l4 s4 e4 g4 => ?_
   erw [e4]
   refine put s4 fr e4 fun l5 s5 e5 g5 => ?_
   have e2' := g5 _ _ n3.symm (g4 _ _ n3.symm (s3 _ _ e2))
   erw [e5, e2']
   refine put s5 f1 e2' fun l6 s6 e6 g6 => ?_
   erw [e6]; try conv => whnf
   (repeat refine z9 (by assumption) ?_); exact h _ s6
inductive S1019 (args : List V) (led : List O) (r : V -> List O -> Prop) : Prop
 | mk (W : List Row) (D : Ids) (k : Int) (sp : Sp) : Inv W D led -> w8 W D -> Wf W.length ⟨k, sp⟩ -> b9 sp = true -> args = [.own 56, oQ sp] -> (∀ led', Sub led led' -> r (b6 D.rk W.length sp) led') -> S1019 args led r
theorem ok1019 (args : List V) (led : List O) (r : V -> List O -> Prop) (h : S1019 args led r) : wf G (gm []) 50 (.call 1019 args led r) := by
 obtain ⟨W, D, k, sp, I, S, w, hb, rfl, h⟩ := h
 cases sp with
 | txt s => cases hb
 | obj => cases hb
 | num t n =>
  have d5 : decide (t = 5) = false := by rcases u5 w with rfl | rfl | rfl <;> rfl
  have d4 : decide (t = 4) = false := by rcases u5 w with rfl | rfl | rfl <;> rfl
  erw [d5, d4]; try conv => whnf
  (repeat refine z9 (by assumption) ?_); exact h _ (Sub.refl _)
 | pair a b =>
  erw []
  refine alloc fun i1 l1 s1 e1 f1 => ?_
  erw [e1]
  refine put s1 f1 e1 fun l2 s2 e2 g2 => ?_
  erw [e2]
  refine put s2 f1 e2 fun l3 s3 e3 g3 => ?_
  erw [e3]; try conv => whnf
  (repeat refine z9 (by assumption) ?_); exact h _ s3
 | whole f a b =>
  obtain ⟨hk, hf1, hf2, ha, hb⟩ := w
  erw []
  refine alloc fun i1 l1 s1 e1 f1 => ?_
  have I1 := I.sub s1
  by_cases hf0 : f < 0
  ·have h0 : decide (0 ≤ f) = false := decide_eq_false (Int.not_le.mpr hf0)
   have er : (if f < 0 then f else D.rk f.toNat) = f := if_pos hf0
   have h : ∀ led', Sub led led' -> r (.tup [.int 5, .int 18, .tup [.tup [.int 4, .int (if f < 0 then f else D.rk f.toNat)], jQ a b]]) led' := h
   rw [er] at h
   erw [h0, e1]
   refine put s1 f1 e1 fun l2 s2 e2 g2 => ?_
   erw []
   refine alloc fun i3 l3 s3 e3 f3 => ?_
   have fr : led.length ≤ i3 := Nat.le_trans s2.len f3
   have n3 : i3 ≠ i1 := fun z => by subst z; exact absurd (w9 e2) (Nat.not_lt.mpr f3)
   erw [e3]
   refine put (s2.trans s3) fr e3 fun l4 s4 e4 g4 => ?_
   erw [e4]
   refine put s4 fr e4 fun l5 s5 e5 g5 => ?_
   have e2' := g5 _ _ n3.symm (g4 _ _ n3.symm (s3 _ _ e2))
   erw [e5, e2']
   refine put s5 f1 e2' fun l6 s6 e6 g6 => ?_
   erw [e6]; try conv => whnf
   (repeat refine z9 (by assumption) ?_); exact h _ s6
  ·have h0 : decide (0 ≤ f) = true := decide_eq_true (Int.not_lt.mp hf0)
   obtain ⟨j, kj, sp', rfl, hq'⟩ := lQ (f := f) (Int.not_lt.mp hf0) hf2
   have er : (if (j : Int) < 0 then (j : Int) else D.rk (j : Int).toNat) = D.rk j := if_neg hf0
   have h : ∀ led', Sub led led' -> r (.tup [.int 5, .int 18, .tup [.tup [.int 4, .int (if (j : Int) < 0 then (j : Int) else D.rk (j : Int).toNat)], jQ a b]]) led' := h
   rw [er] at h
   erw [I1.c56, I1.c53, nQ S (j9 hq'), e1]
   refine put s1 f1 e1 fun l2 s2 e2 g2 => ?_
   erw []
   refine alloc fun i3 l3 s3 e3 f3 => ?_
   have fr : led.length ≤ i3 := Nat.le_trans s2.len f3
   have n3 : i3 ≠ i1 := fun z => by subst z; exact absurd (w9 e2) (Nat.not_lt.mpr f3)
   erw [e3]
   refine put (s2.trans s3) fr e3 fun l4 s4 e4 g4 => ?_
   erw [e4]
   refine put s4 fr e4 fun l5 s5 e5 g5 => ?_
   have e2' := g5 _ _ n3.symm (g4 _ _ n3.symm (s3 _ _ e2))
   erw [e5, e2']
   refine put s5 f1 e2' fun l6 s6 e6 g6 => ?_
   erw [e6]; try conv => whnf
   (repeat refine z9 (by assumption) ?_); exact h _ s6
open Classical in
theorem veq_dat (d e : Nat) (a k : V) (h : kok d a = true) (h' : kok e k = true) : ∃ b, veq a k = some b ∧ (b = true ↔ a = k) := ⟨_, veq_key h h', decide_eq_true_iff⟩
noncomputable def u9 : Nat -> List V -> List (V × V)
 | _, [] => []
 | s, k :: r => (k, .int s) :: u9 (s + 1) r
theorem keysL_from : ∀ (κ : List V) (s : Nat), (κ.zipIdx s).map (fun p => (p.1, (.int p.2 : V))) = u9 s κ
 | [], _ => rfl
 | k :: r, s => by
  rw [List.zipIdx_cons, List.map_cons, keysL_from r (s + 1)]
  rfl
theorem mQ (κ : List V) : vQ κ = u9 0 κ := keysL_from κ 0
theorem bQ : ∀ (κ : List V) (s : Nat), (u9 s κ).length = κ.length
 | [], _ => rfl
 | k :: r, s => congrArg (· + 1) (bQ r (s + 1))
theorem keysFrom_app : ∀ (κ : List V) (s : Nat) (k : V), u9 s (κ ++ [k]) = u9 s κ ++ [(k, .int ((s + κ.length : Nat) : Int))]
 | [], s, k => rfl
 | a :: r, s, k => by
  show (a, _) :: u9 (s + 1) (r ++ [k]) = (a, _) :: (u9 (s + 1) r ++ _)
  rw [keysFrom_app r (s + 1) k, show s + 1 + r.length = s + (a :: r).length from (sx s r.length).symm]
noncomputable def Good (κ : List V) : Prop := ∀ k ∈ κ, kok 7 k = true ∧ isT k = true
theorem keys_fit {κ : List V} {s : Nat} {k : V} (h : Good κ) (hk : kok 7 k = true) (ht : isT k = true) : kfit (u9 s κ) k = true := by
 unfold kfit
 cases κ with
 | nil => rw [hk]; rfl
 | cons a r =>
  have h2 := (h a (.head _)).2
  rw [hk]
  show (true && (isT a == isT k)) = true
  rw [h2, ht]
  rfl
theorem keys_step {a k : V} {x : V} {r : List (V × V)} : j1 ((a, x) :: r) k = (match veq a k with | some true => some (some x) | some false => j1 r k | none => none) := rfl
theorem keys_put {a k : V} {x v : V} {r : List (V × V)} : u3 ((a, x) :: r) k v = (match veq a k with | some true => (a, v) :: r | _ => (a, x) :: u3 r k v) := rfl
theorem keys_no {k : V} (hk : kok 7 k = true) : ∀ {κ : List V} {s : Nat}, Good κ -> k ∉ κ -> j1 (u9 s κ) k = some none ∧ ∀ v, u3 (u9 s κ) k v = u9 s κ ++ [(k, v)]
 | [], _, _, _ => ⟨rfl, fun _ => rfl⟩
 | a :: r, s, h, hn => by
  obtain ⟨b, e1, e2⟩ := veq_dat 7 7 a k (h a (.head _)).1 hk
  have : b = false := by
   cases b with
   | false => rfl
   | true => exact absurd (e2.mp rfl) fun z => hn (z ▸ .head _)
  subst this
  obtain ⟨h1, h2⟩ := @keys_no k hk r (s + 1) (fun x hx => h x (.tail _ hx)) (fun z => hn (.tail _ z))
  refine ⟨?_, fun v => ?_⟩
  ·show j1 ((a, _) :: u9 (s + 1) r) k = _
   rw [keys_step, e1]; exact h1
  ·show u3 ((a, _) :: u9 (s + 1) r) k v = _
   rw [keys_put, e1]
   show (a, _) :: u3 (u9 (s + 1) r) k v = _
   rw [h2]; rfl
theorem keys_yes {k : V} (hk : kok 7 k = true) : ∀ {κ : List V} {s j : Nat}, Good κ -> κ.Nodup -> κ[j]? = some k -> j1 (u9 s κ) k = some (some (.int ((s + j : Nat) : Int)))
 | [], _, _, _, _, h => by simp at h
 | a :: r, s, 0, h, _, e => by
  obtain rfl : a = k := by simpa using e
  obtain ⟨b, e1, e2⟩ := veq_dat 7 7 a a (h a (.head _)).1 hk
  obtain rfl := e2.mpr rfl
  show j1 ((a, _) :: u9 (s + 1) r) a = _
  rw [keys_step, e1]
  rfl
 | a :: r, s, j + 1, h, nd, e => by
  have e : r[j]? = some k := by simpa using e
  obtain ⟨b, e1, e2⟩ := veq_dat 7 7 a k (h a (.head _)).1 hk
  have : b = false := by
   cases b with
   | false => rfl
   | true =>
    have := e2.mp rfl
    subst this
    exact absurd (List.mem_of_getElem? e) (List.nodup_cons.mp nd).1
  subst this
  show j1 ((a, _) :: u9 (s + 1) r) k = _
  rw [keys_step, e1, sx s j]
  exact keys_yes hk (fun x hx => h x (.tail _ hx)) (List.nodup_cons.mp nd).2 e
theorem canon_kok (rk : Nat -> Int) (i : Nat) (k : Int) (sp : Sp) : kok 7 (d7 rk i ⟨k, sp⟩) = true ∧ isT (d7 rk i ⟨k, sp⟩) = true := by cases sp <;> exact ⟨rfl, rfl⟩
theorem rowsL_app (cp : Nat -> Nat) : ∀ (W : List Row) (s : Nat) (q : Row), r9 cp s (W ++ [q]) = r9 cp s W ++ [rowV (s + W.length) q (cp (s + W.length))]
 | [], s, q => rfl
 | a :: r, s, q => by
  show _ :: r9 cp (s + 1) (r ++ [q]) = _ :: (r9 cp (s + 1) r ++ _)
  rw [rowsL_app cp r (s + 1) q, show s + 1 + r.length = s + (a :: r).length from (sx s r.length).symm]
theorem rowsL_congr {cp cp' : Nat -> Nat} : ∀ (W : List Row) (s : Nat), (∀ i, s ≤ i -> i < s + W.length -> cp i = cp' i) -> r9 cp s W = r9 cp' s W
 | [], _, _ => rfl
 | a :: r, s, h => by
  show rowV s a (cp s) :: r9 cp (s + 1) r = rowV s a (cp' s) :: r9 cp' (s + 1) r
  rw [h s (Nat.le_refl _) (by simp), rowsL_congr r (s + 1) fun i h1 h2 => h i (Nat.le_of_succ_le h1) (Nat.lt_of_lt_of_eq h2 (sx s r.length).symm)]
theorem boxesL_app : ∀ (W : List Row) (s : Nat) (q : Row), x9 s (W ++ [q]) = x9 s W ++ (if b9 q.sp then [.int ((s + W.length : Nat) : Int)] else [])
 | [], s, q => by
  show (if b9 q.sp then (.int s : V) :: [] else []) = _
  rfl
 | a :: r, s, q => by
  have e := boxesL_app r (s + 1) q
  rw [show s + 1 + r.length = s + (a :: r).length from (sx s r.length).symm] at e
  show (if b9 a.sp then (.int s : V) :: x9 (s + 1) (r ++ [q]) else x9 (s + 1) (r ++ [q])) = (if b9 a.sp then (.int s : V) :: x9 (s + 1) r else x9 (s + 1) r) ++ _
  rw [e]
  cases b9 a.sp <;> rfl
theorem thL_congr {a b : Nat -> Nat} : ∀ n, (∀ i, i < n -> a i = b i) -> thL a n = thL b n
 | 0, _ => rfl
 | n + 1, h => by
  show thL a n ++ [.own (a n)] = thL b n ++ [.own (b n)]
  rw [thL_congr n fun i hi => h i (Nat.lt_succ_of_lt hi), h n (Nat.lt_succ_self n)]
theorem atL_congr {a b : Nat -> Nat} : ∀ n, (∀ i, i < n -> a i = b i) -> atL a n = atL b n
 | 0, _ => rfl
 | n + 1, h => by
  show atL a n ++ [(_, .own (a n))] = atL b n ++ [(_, .own (b n))]
  rw [atL_congr n fun i hi => h i (Nat.lt_succ_of_lt hi), h n (Nat.lt_succ_self n)]
theorem ranksL_congr {a b : Nat -> Int} : ∀ n, (∀ i, i < n -> a i = b i) -> o7 a n = o7 b n
 | 0, _ => rfl
 | n + 1, h => by
  show o7 a n ++ [.int (a n)] = o7 b n ++ [.int (b n)]
  rw [ranksL_congr n fun i hi => h i (Nat.lt_succ_of_lt hi), h n (Nat.lt_succ_self n)]
theorem canonV_congr {a b : Nat -> Int} {i : Nat} {k : Int} {sp : Sp} (w : Wf i ⟨k, sp⟩) (h : ∀ j, j < i -> a j = b j) : b6 a i sp = b6 b i sp := by
 cases sp with
 | whole f x y =>
  have h2 : f < i := w.2.2.1
  show V.tup [.int 5, .int 18, .tup [.tup [.int 4, .int (if f < 0 then f else a f.toNat)], jQ x y]] = V.tup [.int 5, .int 18, .tup [.tup [.int 4, .int (if f < 0 then f else b f.toNat)], jQ x y]]
  by_cases hf : f < 0
  ·rw [if_pos hf, if_pos hf]
  ·rw [if_neg hf, if_neg hf, h _ ((Int.toNat_lt (Int.not_lt.mp hf)).mpr h2)]
 | _ => rfl
theorem atL_put {th : Nat -> Nat} {n : Nat} {v : V} : u3 (atL th n) (.int (addr n)) v = atL th n ++ [(.int (addr n), v)] := by
 have gen : ∀ es : List (V × V), (∀ p ∈ es, ∃ b, p.1 = .int b ∧ b ≠ addr n) -> u3 es (.int (addr n)) v = es ++ [(.int (addr n), v)] := by
  intro es
  induction es with
  | nil => intro _; rfl
  | cons p t ih =>
   intro h
   obtain ⟨k, x⟩ := p
   obtain ⟨b, e, hb⟩ := h _ (.head _)
   simp only at e
   subst e
   have hd : decide (b = addr n) = false := decide_eq_false hb
   rw [keys_put]
   simp only [veq, hd]
   rw [ih fun p hp => h p (.tail _ hp)]
   rfl
 refine gen _ fun p hp => ?_
 obtain ⟨i, hi, rfl⟩ := atL_keys th n p hp
 exact ⟨addr i, rfl, fun e => Nat.ne_of_lt hi (addr_inj e)⟩
theorem a9 {led : List O} {i : Nat} {o o' : O} {k : List O -> Prop} (e : getL led i = some o) (h : ∀ led', getL led' i = some o' -> (∀ j x, j ≠ i -> getL led j = some x -> getL led' j = some x) -> led'.length = led.length -> k led') : v5 led i o' k := by
 rw [k8]
 exact h _ (getL_at e) (fun j x n e => getL_ne e (fun z => n z.symm)) (List.length_set ..)
noncomputable def mov (j : Nat) : Bool := Nat.beq j 14 || Nat.beq j 15 || Nat.beq j 16 || Nat.beq j 52 || Nat.beq j 53 || Nat.beq j 54 || Nat.beq j 55
structure Cur (led0 l : List O) (c14 c15 c16 c52 c53 c54 c55 : O) : Prop where
 keep : ∀ j x, mov j = false -> getL led0 j = some x -> getL l j = some x
 len : led0.length ≤ l.length
 h14 : getL l 14 = some c14
 h15 : getL l 15 = some c15
 h16 : getL l 16 = some c16
 h52 : getL l 52 = some c52
 h53 : getL l 53 = some c53
 h54 : getL l 54 = some c54
 h55 : getL l 55 = some c55
section
variable {led0 l l' : List O} {c14 c15 c16 c52 c53 c54 c55 o' : O}
theorem Cur.sub (c : Cur led0 l c14 c15 c16 c52 c53 c54 c55) (s : Sub l l') : Cur led0 l' c14 c15 c16 c52 c53 c54 c55 := ⟨fun j x n e => s _ _ (c.keep j x n e), Nat.le_trans c.len s.len, s _ _ c.h14, s _ _ c.h15, s _ _ c.h16, s _ _ c.h52, s _ _ c.h53, s _ _ c.h54, s _ _ c.h55⟩
theorem Cur.fresh (c : Cur led0 l c14 c15 c16 c52 c53 c54 c55) {i : Nat} (hi : led0.length ≤ i) (h56 : 56 < led0.length) (g : ∀ j x, j ≠ i -> getL l j = some x -> getL l' j = some x) (hl : l'.length = l.length) : Cur led0 l' c14 c15 c16 c52 c53 c54 c55 := ⟨fun j x n e => g _ _ (Nat.ne_of_lt (Nat.lt_of_lt_of_le (w9 e) hi)) (c.keep j x n e), by rw [hl]; exact c.len, g _ _ (far (Nat.lt_of_lt_of_le h56 hi) rfl).symm c.h14, g _ _ (far (Nat.lt_of_lt_of_le h56 hi) rfl).symm c.h15, g _ _ (far (Nat.lt_of_lt_of_le h56 hi) rfl).symm c.h16, g _ _ (far (Nat.lt_of_lt_of_le h56 hi) rfl).symm c.h52, g _ _ (far (Nat.lt_of_lt_of_le h56 hi) rfl).symm c.h53, g _ _ (far (Nat.lt_of_lt_of_le h56 hi) rfl).symm c.h54, g _ _ (far (Nat.lt_of_lt_of_le h56 hi) rfl).symm c.h55⟩
theorem Cur.s14 (c : Cur led0 l c14 c15 c16 c52 c53 c54 c55) (e : getL l' 14 = some o') (g : ∀ j x, j ≠ 14 -> getL l j = some x -> getL l' j = some x) (hl : l'.length = l.length) : Cur led0 l' o' c15 c16 c52 c53 c54 c55 := ⟨fun j x n e => g _ _ (fun z => by subst z; exact absurd n (by decide)) (c.keep j x n e), by rw [hl]; exact c.len, e, g _ _ (by decide) c.h15, g _ _ (by decide) c.h16, g _ _ (by decide) c.h52, g _ _ (by decide) c.h53, g _ _ (by decide) c.h54, g _ _ (by decide) c.h55⟩
theorem Cur.s15 (c : Cur led0 l c14 c15 c16 c52 c53 c54 c55) (e : getL l' 15 = some o') (g : ∀ j x, j ≠ 15 -> getL l j = some x -> getL l' j = some x) (hl : l'.length = l.length) : Cur led0 l' c14 o' c16 c52 c53 c54 c55 := ⟨fun j x n e => g _ _ (fun z => by subst z; exact absurd n (by decide)) (c.keep j x n e), by rw [hl]; exact c.len, g _ _ (by decide) c.h14, e, g _ _ (by decide) c.h16, g _ _ (by decide) c.h52, g _ _ (by decide) c.h53, g _ _ (by decide) c.h54, g _ _ (by decide) c.h55⟩
theorem Cur.s16 (c : Cur led0 l c14 c15 c16 c52 c53 c54 c55) (e : getL l' 16 = some o') (g : ∀ j x, j ≠ 16 -> getL l j = some x -> getL l' j = some x) (hl : l'.length = l.length) : Cur led0 l' c14 c15 o' c52 c53 c54 c55 := ⟨fun j x n e => g _ _ (fun z => by subst z; exact absurd n (by decide)) (c.keep j x n e), by rw [hl]; exact c.len, g _ _ (by decide) c.h14, g _ _ (by decide) c.h15, e, g _ _ (by decide) c.h52, g _ _ (by decide) c.h53, g _ _ (by decide) c.h54, g _ _ (by decide) c.h55⟩
theorem Cur.s52 (c : Cur led0 l c14 c15 c16 c52 c53 c54 c55) (e : getL l' 52 = some o') (g : ∀ j x, j ≠ 52 -> getL l j = some x -> getL l' j = some x) (hl : l'.length = l.length) : Cur led0 l' c14 c15 c16 o' c53 c54 c55 := ⟨fun j x n e => g _ _ (fun z => by subst z; exact absurd n (by decide)) (c.keep j x n e), by rw [hl]; exact c.len, g _ _ (by decide) c.h14, g _ _ (by decide) c.h15, g _ _ (by decide) c.h16, e, g _ _ (by decide) c.h53, g _ _ (by decide) c.h54, g _ _ (by decide) c.h55⟩
theorem Cur.s53 (c : Cur led0 l c14 c15 c16 c52 c53 c54 c55) (e : getL l' 53 = some o') (g : ∀ j x, j ≠ 53 -> getL l j = some x -> getL l' j = some x) (hl : l'.length = l.length) : Cur led0 l' c14 c15 c16 c52 o' c54 c55 := ⟨fun j x n e => g _ _ (fun z => by subst z; exact absurd n (by decide)) (c.keep j x n e), by rw [hl]; exact c.len, g _ _ (by decide) c.h14, g _ _ (by decide) c.h15, g _ _ (by decide) c.h16, g _ _ (by decide) c.h52, e, g _ _ (by decide) c.h54, g _ _ (by decide) c.h55⟩
theorem Cur.s54 (c : Cur led0 l c14 c15 c16 c52 c53 c54 c55) (e : getL l' 54 = some o') (g : ∀ j x, j ≠ 54 -> getL l j = some x -> getL l' j = some x) (hl : l'.length = l.length) : Cur led0 l' c14 c15 c16 c52 c53 o' c55 := ⟨fun j x n e => g _ _ (fun z => by subst z; exact absurd n (by decide)) (c.keep j x n e), by rw [hl]; exact c.len, g _ _ (by decide) c.h14, g _ _ (by decide) c.h15, g _ _ (by decide) c.h16, g _ _ (by decide) c.h52, g _ _ (by decide) c.h53, e, g _ _ (by decide) c.h55⟩
theorem Cur.s55 (c : Cur led0 l c14 c15 c16 c52 c53 c54 c55) (e : getL l' 55 = some o') (g : ∀ j x, j ≠ 55 -> getL l j = some x -> getL l' j = some x) (hl : l'.length = l.length) : Cur led0 l' c14 c15 c16 c52 c53 c54 o' := ⟨fun j x n e => g _ _ (fun z => by subst z; exact absurd n (by decide)) (c.keep j x n e), by rw [hl]; exact c.len, g _ _ (by decide) c.h14, g _ _ (by decide) c.h15, g _ _ (by decide) c.h16, g _ _ (by decide) c.h52, g _ _ (by decide) c.h53, g _ _ (by decide) c.h54, e⟩
end
inductive S301 (args : List V) (led : List O) (r : V -> List O -> Prop) : Prop
 | mk (c : Nat) : args = [.int c] -> c ≤ 1 -> r (.int 3) led -> S301 args led r
theorem ok301 (args : List V) (led : List O) (r : V -> List O -> Prop) (h : S301 args led r) : wf G (gm []) 12 (.call 301 args led r) := by
 obtain ⟨c, rfl, hc, h⟩ := h
 obtain rfl | rfl : c = 0 ∨ c = 1 := Nat.le_one_iff_eq_zero_or_eq_one.mp hc
 ·erw []; try conv => whnf
  (repeat refine z9 (by assumption) ?_); exact h
 ·erw []; try conv => whnf
  (repeat refine z9 (by assumption) ?_); exact h
inductive S1026 (args : List V) (led : List O) (r : V -> List O -> Prop) : Prop
 | mk (W : List Row) (D : Ids) (k : Int) (sp : Sp) : Inv W D led -> w8 W D -> W.length < 36 -> Wf W.length ⟨k, sp⟩ -> args = [.own 56, .int k, oQ sp] -> (∀ D' led', Inv (W ++ [⟨k, sp⟩]) D' led' -> w8 (W ++ [⟨k, sp⟩]) D' -> D'.nums = D.nums -> r (.bool true) led') -> S1026 args led r
noncomputable def C12 : Ctx := [(1014, (50, S1014)), (1019, (50, S1019)), (301, (12, S301))]
theorem sl_le (sp : Sp) : (j5 sp).length ≤ 1 := by cases sp <;> first | exact Nat.le_refl _ | exact Nat.zero_le _
theorem thL_len (th : Nat -> Nat) : ∀ n, (thL th n).length = n
 | 0 => rfl
 | n + 1 => by show (thL th n ++ [_]).length = _; rw [List.length_append, thL_len th n]; rfl
theorem atL_len (th : Nat -> Nat) : ∀ n, (atL th n).length = n
 | 0 => rfl
 | n + 1 => by show (atL th n ++ [_]).length = _; rw [List.length_append, atL_len th n]; rfl
noncomputable def upd {α : Type} (f : Nat -> α) (n : Nat) (a : α) : Nat -> α := fun i => if i = n then a else f i
theorem z5 {α : Type} (f : Nat -> α) (n : Nat) (a : α) : upd f n a n = a := if_pos rfl
theorem y8 {α : Type} (f : Nat -> α) (n : Nat) (a : α) {i : Nat} (h : i ≠ n) : upd f n a i = f i := if_neg h
section
variable {W : List Row} {D : Ids} {led0 l : List O} {k : Int} {sp : Sp} {iS iT iC : Nat} {κ' : List V} {j : Nat} {kk : St -> Prop} {r : V -> List O -> Prop} {a b : Option V}
theorem new_inv (I : Inv W D led0) (S : w8 W D) (w : Wf W.length ⟨k, sp⟩)
  (c : Cur led0 l (.inst 339 (h14 (W.length + 1))) (.list (thL D.th W.length ++ [.own iT])) (.dict (atL D.th W.length ++ [(.int (addr W.length), .own iT)])) (.list (r9 D.cp 0 W ++ [rowV W.length ⟨k, sp⟩ iC])) (.list (o7 D.rk W.length ++ [.int j])) (.dict (vQ κ')) (.list (x9 0 (W ++ [⟨k, sp⟩]))))
  (eT : getL l iT = some (thingO W.length k iS)) (eS : getL l iS = some (.list (j5 sp))) (eC : getL l iC = some (.list (j5 sp))) (fT : 56 < iT) (fS : 56 < iS) (fC : 56 < iC) :
  Inv (W ++ [⟨k, sp⟩]) ⟨upd D.th W.length iT, upd D.sl W.length iS, upd D.cp W.length iC, upd D.rk W.length j, κ', D.nums⟩ l := by
 have len : (W ++ [(⟨k, sp⟩ : Row)]).length = W.length + 1 := by simp
 have old : ∀ (i : Nat) (q : Row), (W ++ [(⟨k, sp⟩ : Row)])[i]? = some q -> (i < W.length ∧ W[i]? = some q) ∨ (i = W.length ∧ q = ⟨k, sp⟩) := by
  intro i q h
  rcases Nat.lt_or_ge i W.length with hi | hi
  ·exact .inl ⟨hi, by rw [List.getElem?_append_left hi] at h; exact h⟩
  ·have hl := j9 h
   rw [len] at hl
   have : i = W.length := Nat.le_antisymm (Nat.le_of_lt_succ hl) hi
   subst this
   rw [List.getElem?_append_right (Nat.le_refl _), Nat.sub_self] at h
   exact .inr ⟨rfl, (Option.some.inj h).symm⟩
 have kp : ∀ j x, mov j = false -> getL led0 j = some x -> getL l j = some x := c.keep
 have far : ∀ j, 56 < j -> mov j = false := fun j hj => by
  have e : ∀ m, m ≤ 56 -> Nat.beq j m = false := fun m hm => by cases h : Nat.beq j m with
   | false => rfl
   | true => exact absurd (Nat.eq_of_beq_eq_true h) (Nat.ne_of_gt (Nat.lt_of_le_of_lt hm hj))
  unfold mov
  rw [e 14 (by decide), e 15 (by decide), e 16 (by decide), e 52 (by decide), e 53 (by decide), e 54 (by decide), e 55 (by decide)]
  rfl
 exact {
  c1 := kp _ _ rfl I.c1
  c2 := kp _ _ rfl I.c2
  c3 := kp _ _ rfl I.c3
  c4 := kp _ _ rfl I.c4
  c5 := kp _ _ rfl I.c5
  c6 := kp _ _ rfl I.c6
  c7 := kp _ _ rfl I.c7
  c8 := kp _ _ rfl I.c8
  c9 := kp _ _ rfl I.c9
  c20 := kp _ _ rfl I.c20
  c22 := kp _ _ rfl I.c22
  c33 := kp _ _ rfl I.c33
  c34 := kp _ _ rfl I.c34
  c39 := kp _ _ rfl I.c39
  c40 := kp _ _ rfl I.c40
  c46 := kp _ _ rfl I.c46
  c47 := kp _ _ rfl I.c47
  c48 := kp _ _ rfl I.c48
  c49 := kp _ _ rfl I.c49
  c50 := kp _ _ rfl I.c50
  c51 := kp _ _ rfl I.c51
  c56 := kp _ _ rfl I.c56
  c14 := by rw [len]; exact c.h14
  c15 := by
   rw [len, c.h15]
   show some (O.list _) = some (.list (thL (upd D.th W.length iT) W.length ++ [.own (upd D.th W.length iT W.length)]))
   rw [z5, thL_congr W.length fun i hi => (y8 D.th W.length iT (Nat.ne_of_lt hi)).symm]
  c16 := by
   rw [len, c.h16]
   show some (O.dict _) = some (.dict (atL (upd D.th W.length iT) W.length ++ [(_, .own (upd D.th W.length iT W.length))]))
   rw [z5, atL_congr W.length fun i hi => (y8 D.th W.length iT (Nat.ne_of_lt hi)).symm]
  c35 := kp _ _ rfl I.c35
  c52 := by
   rw [c.h52, rowsL_app, Nat.zero_add]
   show some (O.list _) = some (.list (r9 (upd D.cp W.length iC) 0 W ++ [rowV W.length ⟨k, sp⟩ (upd D.cp W.length iC W.length)]))
   rw [z5, rowsL_congr W 0 fun i _ hi => (y8 D.cp W.length iC (Nat.ne_of_lt (by rw [Nat.zero_add] at hi; exact hi))).symm]
  c53 := by
   rw [len, c.h53]
   show some (O.list _) = some (.list (o7 (upd D.rk W.length j) W.length ++ [.int (upd D.rk W.length (j : Int) W.length)]))
   rw [z5, ranksL_congr W.length fun i hi => (y8 D.rk W.length (j : Int) (Nat.ne_of_lt hi)).symm]
  c54 := c.h54
  c55 := c.h55
  cth := fun i q h => by
   rcases old i q h with ⟨hi, h⟩ | ⟨rfl, rfl⟩
   ·show getL l (upd D.th W.length iT i) = some (thingO i q.k (upd D.sl W.length iS i))
    rw [y8 _ _ _ (Nat.ne_of_lt hi), y8 _ _ _ (Nat.ne_of_lt hi)]
    exact kp _ _ (far _ (I.far i q h).1) (I.cth i q h)
   ·show getL l (upd D.th W.length iT W.length) = some (thingO W.length k (upd D.sl W.length iS W.length))
    rw [z5, z5]
    exact eT
  csl := fun i q h => by
   rcases old i q h with ⟨hi, h⟩ | ⟨rfl, rfl⟩
   ·show getL l (upd D.sl W.length iS i) = _
    rw [y8 _ _ _ (Nat.ne_of_lt hi)]
    exact kp _ _ (far _ (I.far i q h).2.1) (I.csl i q h)
   ·show getL l (upd D.sl W.length iS W.length) = _
    rw [z5]
    exact eS
  ccp := fun i q h => by
   rcases old i q h with ⟨hi, h⟩ | ⟨rfl, rfl⟩
   ·show getL l (upd D.cp W.length iC i) = _
    rw [y8 _ _ _ (Nat.ne_of_lt hi)]
    exact kp _ _ (far _ (I.far i q h).2.2) (I.ccp i q h)
   ·show getL l (upd D.cp W.length iC W.length) = _
    rw [z5]
    exact eC
  far := fun i q h => by
   rcases old i q h with ⟨hi, h⟩ | ⟨rfl, rfl⟩
   ·show 56 < upd D.th W.length iT i ∧ 56 < upd D.sl W.length iS i ∧ 56 < upd D.cp W.length iC i
    rw [y8 _ _ _ (Nat.ne_of_lt hi), y8 _ _ _ (Nat.ne_of_lt hi), y8 _ _ _ (Nat.ne_of_lt hi)]
    exact I.far i q h
   ·show 56 < upd D.th W.length iT W.length ∧ 56 < upd D.sl W.length iS W.length ∧ 56 < upd D.cp W.length iC W.length
    rw [z5, z5, z5]
    exact ⟨fT, fS, fC⟩ }
theorem new_sane (S : w8 W D) (few : W.length < 36) (w : Wf W.length ⟨k, sp⟩) (hg : Good κ') (hn : κ'.Nodup) (hl : κ'.length ≤ W.length + 1) (hj : κ'[j]? = some (d7 D.rk W.length ⟨k, sp⟩)) (hp : ∀ (i : Nat) (v : V), D.κ[i]? = some v -> κ'[i]? = some v) (th sl cp : Nat -> Nat) (nums : List V) :
  w8 (W ++ [⟨k, sp⟩]) ⟨th, sl, cp, upd D.rk W.length j, κ', nums⟩ := by
 have len : (W ++ [(⟨k, sp⟩ : Row)]).length = W.length + 1 := by simp
 have old : ∀ (i : Nat) (q : Row), (W ++ [(⟨k, sp⟩ : Row)])[i]? = some q -> (i < W.length ∧ W[i]? = some q) ∨ (i = W.length ∧ q = ⟨k, sp⟩) := by
  intro i q h
  rcases Nat.lt_or_ge i W.length with hi | hi
  ·exact .inl ⟨hi, by rw [List.getElem?_append_left hi] at h; exact h⟩
  ·have hl := j9 h
   rw [len] at hl
   have : i = W.length := Nat.le_antisymm (Nat.le_of_lt_succ hl) hi
   subst this
   rw [List.getElem?_append_right (Nat.le_refl _), Nat.sub_self] at h
   exact .inr ⟨rfl, (Option.some.inj h).symm⟩
 have ke : ∀ (i : Nat) (q : Row), i ≤ W.length -> Wf i q -> d7 (upd D.rk W.length (j : Int)) i q = d7 D.rk i q := fun i q hi wq => by
  show V.tup [.int q.k, b6 _ i q.sp] = V.tup [.int q.k, b6 _ i q.sp]
  rw [canonV_congr (a := upd D.rk W.length (j : Int)) (b := D.rk) (k := q.k) wq fun m hm => y8 _ _ _ (Nat.ne_of_lt (Nat.lt_of_lt_of_le hm hi))]
 exact {
  wf := fun i q h => by
   rcases old i q h with ⟨hi, h⟩ | ⟨rfl, rfl⟩
   ·exact S.wf i q h
   ·exact w
  few := len ▸ few
  nd := hn
  kl := by rw [len]; exact hl
  kok := hg
  rk := fun i q h => by
   rcases old i q h with ⟨hi, h⟩ | ⟨rfl, rfl⟩
   ·obtain ⟨m, e1, e2⟩ := S.rk i q h
    refine ⟨m, by show upd D.rk W.length (j : Int) i = _; rw [y8 _ _ _ (Nat.ne_of_lt hi)]; exact e1, ?_⟩
    show κ'[m]? = some (d7 (upd D.rk W.length (j : Int)) i q)
    rw [ke i q (Nat.le_of_lt hi) (S.wf i q h)]
    exact hp _ _ e2
   ·refine ⟨j, by show upd D.rk W.length (j : Int) W.length = _; rw [z5], ?_⟩
    show κ'[j]? = some (d7 (upd D.rk W.length (j : Int)) W.length ⟨k, sp⟩)
    rw [ke W.length ⟨k, sp⟩ (Nat.le_refl _) w]
    exact hj }
end
section
variable {W : List Row} {D : Ids} {led0 l : List O} {k : Int} {sp : Sp} {iS : Nat} {κ' : List V} {j : Nat} {kk : St -> Prop} {r : V -> List O -> Prop} {a b x y : Option V}
theorem new_tail2 (I : Inv W D led0) (S : w8 W D) (few : W.length < 36) (w : Wf W.length ⟨k, sp⟩)
  (c : Cur led0 l (.inst 339 (h14 W.length)) (.list (thL D.th W.length)) (.dict (atL D.th W.length)) (.list (r9 D.cp 0 W)) (.list (o7 D.rk W.length)) (.dict (vQ κ')) (.list (x9 0 (W ++ [⟨k, sp⟩]))))
  (eS : getL l iS = some (.list (j5 sp))) (fS : led0.length ≤ iS) (hg : Good κ') (hn : κ'.Nodup) (hl : κ'.length ≤ W.length + 1) (hj : κ'[j]? = some (d7 D.rk W.length ⟨k, sp⟩)) (hp : ∀ (i : Nat) (v : V), D.κ[i]? = some v -> κ'[i]? = some v)
  (h : ∀ D' led', Inv (W ++ [⟨k, sp⟩]) D' led' -> w8 (W ++ [⟨k, sp⟩]) D' -> D'.nums = D.nums -> r (.bool true) led') :
  wf G (gm C12) 61 (.b (b1026.drop 6) ⟨[some (.own 56), some (.int k), some (oQ sp), a, some (.own iS), b, some (d7 D.rk W.length ⟨k, sp⟩), y], l⟩ kk r) := by
 have h56 : 56 < led0.length := w9 I.c56
 have S1 : 56 < iS := Nat.lt_of_lt_of_le h56 fS
 have dl : v9 (vQ κ') (d7 D.rk W.length ⟨k, sp⟩) = some (some (.int j)) := by
  obtain ⟨k1, k2⟩ := canon_kok D.rk W.length k sp
  unfold v9
  rw [mQ, keys_fit hg k1 k2]
  have := keys_yes k1 (s := 0) hg hn hj
  rw [Nat.zero_add] at this
  (repeat refine z9 (by assumption) ?_); exact this
 generalize hK : d7 D.rk W.length ⟨k, sp⟩ = K at *
 have kp : ∀ j x, mov j = false -> getL led0 j = some x -> getL l j = some x := c.keep
 have q1 : Nat.ble (o7 D.rk W.length).length 100000 = true := Nat.ble_eq.mpr (by rw [ranks_len]; exact Nat.le_of_ble_eq_true (bl0 (Nat.le_of_lt few)))
 have q2 : Nat.ble (thL D.th W.length).length 100000 = true := Nat.ble_eq.mpr (by rw [thL_len]; exact Nat.le_of_ble_eq_true (bl0 (Nat.le_of_lt few)))
 have q3 : Nat.ble (atL D.th W.length).length 100000 = true := Nat.ble_eq.mpr (by rw [atL_len]; exact Nat.le_of_ble_eq_true (bl0 (Nat.le_of_lt few)))
 have q4 : Nat.ble (r9 D.cp 0 W).length 100000 = true := Nat.ble_eq.mpr (by rw [r5]; exact Nat.le_of_ble_eq_true (bl0 (Nat.le_of_lt few)))
 have q5 : Nat.ble (j5 sp).length 1000000 = true := Nat.ble_eq.mpr (Nat.le_trans (sl_le sp) (by decide))
 have q6 : Nat.ble (j5 sp).length 1000 = true := Nat.ble_eq.mpr (Nat.le_trans (sl_le sp) (by decide))
 erw [kp _ _ rfl I.c56, c.h53, c.h54, dl, q1]
 refine a9 c.h53 fun l1 e1 g1 n1 => ?_
 have c1 := c.s53 e1 g1 n1
 have eS1 := g1 _ _ (far S1 rfl) eS
 erw [c1.keep _ _ rfl I.c56, c1.keep _ _ rfl I.c20, c1.h14]
 refine alloc fun iT l2 s2 e2 f2 => ?_
 have c2 := c1.sub s2
 have eS2 := s2 _ _ eS1
 have T1 : led0.length ≤ iT := Nat.le_trans c1.len f2
 have T2 : 56 < iT := Nat.lt_of_lt_of_le h56 T1
 have nTS : iT ≠ iS := fun z => by subst z; exact absurd (w9 eS1) (Nat.not_lt.mpr f2)
 erw [e2]
 refine a9 e2 fun l3 e3 g3 n3 => ?_
 have c3 := c2.fresh T1 h56 g3 n3
 have eS3 := g3 _ _ nTS.symm eS2
 erw [e3]
 refine a9 e3 fun l4 e4 g4 n4 => ?_
 have c4 := c3.fresh T1 h56 g4 n4
 have eS4 := g4 _ _ nTS.symm eS3
 erw [e4]
 refine a9 e4 fun l5 e5 g5 n5 => ?_
 have c5 := c4.fresh T1 h56 g5 n5
 have eS5 := g5 _ _ nTS.symm eS4
 erw [e5]
 refine a9 e5 fun l6 e6 g6 n6 => ?_
 have c6 := c5.fresh T1 h56 g6 n6
 have eS6 := g6 _ _ nTS.symm eS5
 erw [eS6, q5]; try conv => whnf
 refine ⟨_, rfl, sl_le sp, ?_⟩
 erw [e6]
 refine a9 e6 fun l7 e7 g7 n7 => ?_
 have c7 := c6.fresh T1 h56 g7 n7
 have eS7 := g7 _ _ nTS.symm eS6
 erw [e7]
 refine a9 e7 fun l8 e8 g8 n8 => ?_
 have c8 := c7.fresh T1 h56 g8 n8
 have eS8 := g8 _ _ nTS.symm eS7
 erw [c8.h14]
 refine a9 c8.h14 fun l9 e9 g9 n9 => ?_
 have c9 := c8.s14 e9 g9 n9
 have eS9 := g9 _ _ (far S1 rfl) eS8
 have eT9 := g9 _ _ (far T2 rfl) e8
 erw [c9.h14, eT9]
 refine a9 eT9 fun l10 e10 g10 n10 => ?_
 have c10 := c9.fresh T1 h56 g10 n10
 have eS10 := g10 _ _ nTS.symm eS9
 erw [c10.h14, c10.h15, q2]
 refine a9 c10.h15 fun l11 e11 g11 n11 => ?_
 have c11 := c10.s15 e11 g11 n11
 have eS11 := g11 _ _ (far S1 rfl) eS10
 have eT11 := g11 _ _ (far T2 rfl) e10
 have dn : v9 (atL D.th W.length) (.int (16 + 3 * (W.length : Int))) = some none := dlook_no fun j hj e => no_addr hj e
 erw [c11.h14, eT11, c11.h16, dn, q3]
 refine a9 c11.h16 fun l12 e12 g12 n12 => ?_
 have c12 := c11.s16 e12 g12 n12
 have eS12 := g12 _ _ (far S1 rfl) eS11
 have eT12 := g12 _ _ (far T2 rfl) eT11
 erw [c12.h14, eT12]
 refine a9 c12.h14 fun l13 e13 g13 n13 => ?_
 have c13 := c12.s14 e13 g13 n13
 have eS13 := g13 _ _ (far S1 rfl) eS12
 have eT13 := g13 _ _ (far T2 rfl) eT12
 erw [c13.h14, eT13]
 refine a9 c13.h14 fun l14 e14 g14 n14 => ?_
 have c14 := c13.s14 e14 g14 n14
 have eS14 := g14 _ _ (far S1 rfl) eS13
 have eT14 := g14 _ _ (far T2 rfl) eT13
 erw [c14.keep _ _ rfl I.c56, ← c14.h52, eT14, eS14, q6]
 refine alloc fun iC l15 s15 e15 f15 => ?_
 have c15 := c14.sub s15
 have eS15 := s15 _ _ eS14
 have eT15 := s15 _ _ eT14
 have C1 : led0.length ≤ iC := Nat.le_trans c14.len f15
 erw [c15.h52, q4]
 refine a9 c15.h52 fun l16 e16 g16 n16 => ?_
 have c16 := c15.s52 e16 g16 n16
 have eS16 := g16 _ _ (far S1 rfl) eS15
 have eT16 := g16 _ _ (far T2 rfl) eT15
 have eC16 := g16 _ _ (far (Nat.lt_of_lt_of_le h56 C1) rfl) e15
 erw []; try conv => whnf
 have x1 : (16 : Int) + 3 * (W.length : Int) + 3 = 16 + 3 * ((W.length + 1 : Nat) : Int) := ax1 _
 have x2 : (3 : Int) * (W.length : Int) + 3 = 3 * ((W.length + 1 : Nat) : Int) := ax2 _
 have x3 : (W.length : Int) + 1 = ((W.length + 1 : Nat) : Int) := ax3 _
 have z14 : getL l16 14 = some (.inst 339 (h14 (W.length + 1))) := by
  rw [c16.h14]
  show some (O.inst 339 [(24, V.own 15), (25, V.own 16), (26, V.int (16 + 3 * (W.length : Int) + 3)), (27, .int 4000), (28, .own 17), (29, .int 4), (30, .int (3 * (W.length : Int) + 3)), (31, .int 1001), (32, .own 18), (33, .own 19), (34, .int 0), (35, .int ((W.length : Int) + 1))]) = _
  rw [x1, x2, x3]
  rfl
 have z16 : getL l16 16 = some (.dict (atL D.th W.length ++ [(.int (addr W.length), .own iT)])) := by
  rw [c16.h16]
  show some (O.dict (u3 (atL D.th W.length) (.int (addr W.length)) (.own iT))) = _
  rw [atL_put]
 have zc : Cur led0 l16 (.inst 339 (h14 (W.length + 1))) (.list (thL D.th W.length ++ [.own iT])) (.dict (atL D.th W.length ++ [(.int (addr W.length), .own iT)])) (.list (r9 D.cp 0 W ++ [rowV W.length ⟨k, sp⟩ iC])) (.list (o7 D.rk W.length ++ [.int j])) (.dict (vQ κ')) (.list (x9 0 (W ++ [⟨k, sp⟩]))) := ⟨c16.keep, c16.len, z14, c16.h15, z16, c16.h52, c16.h53, c16.h54, c16.h55⟩
 subst hK
 (repeat refine z9 (by assumption) ?_); exact h _ _ (new_inv I S w zc eT16 eS16 eC16 T2 S1 (Nat.lt_of_lt_of_le h56 C1)) (new_sane S few w hg hn hl hj hp _ _ _ _) rfl
end
section
variable {W : List Row} {D : Ids} {led0 l : List O} {k : Int} {sp : Sp} {iS : Nat} {kk : St -> Prop} {r : V -> List O -> Prop} {a b x y : Option V}
theorem new_tail (I : Inv W D led0) (S : w8 W D) (few : W.length < 36) (w : Wf W.length ⟨k, sp⟩)
  (c : Cur led0 l (.inst 339 (h14 W.length)) (.list (thL D.th W.length)) (.dict (atL D.th W.length)) (.list (r9 D.cp 0 W)) (.list (o7 D.rk W.length)) (.dict (vQ D.κ)) (.list (x9 0 (W ++ [⟨k, sp⟩]))))
  (eS : getL l iS = some (.list (j5 sp))) (fS : led0.length ≤ iS)
  (h : ∀ D' led', Inv (W ++ [⟨k, sp⟩]) D' led' -> w8 (W ++ [⟨k, sp⟩]) D' -> D'.nums = D.nums -> r (.bool true) led') :
  wf G (gm C12) 63 (.b (b1026.drop 4) ⟨[some (.own 56), some (.int k), some (oQ sp), a, some (.own iS), some (b6 D.rk W.length sp), x, y], l⟩ kk r) := by
 have h56 : 56 < led0.length := w9 I.c56
 have S1 : 56 < iS := Nat.lt_of_lt_of_le h56 fS
 obtain ⟨k1, k2⟩ := canon_kok D.rk W.length k sp
 have gd : Good D.κ := S.kok
 have kf := keys_fit (s := 0) gd k1 k2
 by_cases hm : d7 D.rk W.length ⟨k, sp⟩ ∈ D.κ
 ·obtain ⟨j, hj⟩ := List.getElem?_of_mem hm
  have dl : v9 (vQ D.κ) (.tup [.int k, b6 D.rk W.length sp]) = some (some (.int j)) := by
   show v9 (vQ D.κ) (d7 D.rk W.length ⟨k, sp⟩) = _
   unfold v9
   rw [mQ, kf]
   have := keys_yes k1 (s := 0) gd S.nd hj
   rw [Nat.zero_add] at this
   (repeat refine z9 (by assumption) ?_); exact this
  refine rq_ok (c.keep _ _ rfl I.c56) ?_
  refine rq_ok c.h54 ?_
  dsimp only
  rw [dl]
  exact new_tail2 (a := a) (b := some (b6 D.rk W.length sp)) (y := y) I S few w c eS fS gd S.nd (Nat.le_succ_of_le S.kl) hj (fun _ _ e => e) h
 ·obtain ⟨n1, n2⟩ := keys_no k1 (s := 0) gd hm
  have dl : v9 (vQ D.κ) (.tup [.int k, b6 D.rk W.length sp]) = some none := by
   show v9 (vQ D.κ) (d7 D.rk W.length ⟨k, sp⟩) = _
   unfold v9
   rw [mQ, kf]
   exact n1
  have q1 : Nat.ble (vQ D.κ).length 1000000 = true := Nat.ble_eq.mpr (by rw [mQ, bQ]; exact Nat.le_trans S.kl (Nat.le_trans S.few (by decide)))
  have q2 : Nat.ble (vQ D.κ).length 100000 = true := Nat.ble_eq.mpr (by rw [mQ, bQ]; exact Nat.le_trans S.kl (Nat.le_trans S.few (by decide)))
  erw [c.keep _ _ rfl I.c56, c.h54, dl, q1, q2]
  refine a9 c.h54 fun l1 e1 g1 n1 => ?_
  have e1' : getL l1 54 = some (.dict (vQ (D.κ ++ [d7 D.rk W.length ⟨k, sp⟩]))) := by
   rw [e1]
   show some (O.dict (u3 (vQ D.κ) (d7 D.rk W.length ⟨k, sp⟩) (.int ((vQ D.κ).length : Int)))) = _
   rw [mQ, mQ, n2, bQ, keysFrom_app, Nat.zero_add]
  have c1 := c.s54 e1' g1 n1
  have nd : (D.κ ++ [d7 D.rk W.length ⟨k, sp⟩]).Nodup := by
   rw [List.nodup_append]
   refine ⟨S.nd, by simp, fun a ha b hb => ?_⟩
   rw [List.mem_singleton.mp hb]
   exact fun z => hm (z ▸ ha)
  have gd' : Good (D.κ ++ [d7 D.rk W.length ⟨k, sp⟩]) := fun a ha => by
   rcases List.mem_append.mp ha with ha | ha
   ·exact gd a ha
   ·rw [List.mem_singleton.mp ha]; exact ⟨k1, k2⟩
  have hj : (D.κ ++ [d7 D.rk W.length ⟨k, sp⟩])[D.κ.length]? = some (d7 D.rk W.length ⟨k, sp⟩) := by
   rw [List.getElem?_append_right (Nat.le_refl _), Nat.sub_self]; rfl
  refine new_tail2 I S few w c1 (g1 _ _ (far S1 rfl) eS) fS gd' nd (by simp; exact S.kl) hj (fun i v e => ?_) h
  rw [List.getElem?_append_left (List.getElem?_eq_some_iff.mp e).1]
  exact e
end
theorem ok1026 (args : List V) (led : List O) (r : V -> List O -> Prop) (h : S1026 args led r) : wf G (gm C12) 68 (.call 1026 args led r) := by
 obtain ⟨W, D, k, sp, I, S, few, w, rfl, h⟩ := h
 have rl := r5 D.cp W 0
 have h56 : 56 < led.length := w9 I.c56
 have c0 : Cur led led (.inst 339 (h14 W.length)) (.list (thL D.th W.length)) (.dict (atL D.th W.length)) (.list (r9 D.cp 0 W)) (.list (o7 D.rk W.length)) (.dict (vQ D.κ)) (.list (x9 0 W)) := ⟨fun _ _ _ e => e, Nat.le_refl _, I.c14, I.c15, I.c16, I.c52, I.c53, I.c54, I.c55⟩
 have bl := boxesL_app W 0 ⟨k, sp⟩
 have ble : Nat.ble (x9 0 W).length 100000 = true := by
  have : ∀ (W : List Row) (s : Nat), (x9 s W).length ≤ W.length := by
   intro W
   induction W with
   | nil => intro s; exact Nat.le_refl _
   | cons a t ih =>
    intro s
    have := ih (s + 1)
    show (if b9 a.sp then (.int s : V) :: x9 (s + 1) t else x9 (s + 1) t).length ≤ _
    split
    ·exact Nat.succ_le_succ this
    ·exact Nat.le_succ_of_le this
  exact Nat.ble_eq.mpr (Nat.le_trans (this W 0) (Nat.le_trans (Nat.le_of_lt few) (by decide)))
 erw [I.c56, I.c52, j7 S]
 refine alloc fun i0 l1 s1 e1 f1 => ?_
 have c1 := c0.sub s1
 have I1 := I.sub s1
 rw [rl]
 cases hb : b9 sp with
 | true =>
  rw [hb] at bl
  have bl : x9 0 (W ++ [⟨k, sp⟩]) = x9 0 W ++ [.int (W.length : Int)] := by rw [bl, Nat.zero_add]; rfl
  cases sp with
  | txt s => cases hb
  | obj => cases hb
  | num t n =>
   have d8 : decide (t = 8) = false := by rcases u5 w with rfl | rfl | rfl <;> rfl
   have d0 : decide (0 < t) = true := by rcases u5 w with rfl | rfl | rfl <;> rfl
   erw [d8, d0]; try conv => whnf
   refine ⟨W, D, k, _, I1, S, w, rfl, rfl, fun l2 s2 => ?_⟩
   erw []
   refine alloc fun iS l3 s3 e3 f3 => ?_
   have c3 := (c1.sub s2).sub s3
   have fS : led.length ≤ iS := Nat.le_trans (c1.sub s2).len f3
   erw []; try conv => whnf
   refine ⟨W, D, k, _, I1.sub (s2.trans s3), S, w, rfl, rfl, fun l4 s4 => ?_⟩
   have c4 := c3.sub s4
   have e4 := s4 _ _ e3
   have I4 := I1.sub (s2.trans (s3.trans s4))
   erw [I4.c56, c4.h55, ble]
   refine a9 c4.h55 fun l5 e5 g5 n5 => ?_
   rw [← bl] at e5
   exact new_tail (x := none) I S few w (c4.s55 e5 g5 n5) (g5 _ _ (far (Nat.lt_of_lt_of_le h56 fS) rfl) e4) fS h
  | _ =>
   erw []; try conv => whnf
   refine ⟨W, D, k, _, I1, S, w, rfl, rfl, fun l2 s2 => ?_⟩
   erw []
   refine alloc fun iS l3 s3 e3 f3 => ?_
   have c3 := (c1.sub s2).sub s3
   have fS : led.length ≤ iS := Nat.le_trans (c1.sub s2).len f3
   erw []; try conv => whnf
   refine ⟨W, D, k, _, I1.sub (s2.trans s3), S, w, rfl, rfl, fun l4 s4 => ?_⟩
   have c4 := c3.sub s4
   have e4 := s4 _ _ e3
   have I4 := I1.sub (s2.trans (s3.trans s4))
   erw [I4.c56, c4.h55, ble]
   refine a9 c4.h55 fun l5 e5 g5 n5 => ?_
   rw [← bl] at e5
   exact new_tail (x := none) I S few w (c4.s55 e5 g5 n5) (g5 _ _ (far (Nat.lt_of_lt_of_le h56 fS) rfl) e4) fS h
 | false =>
  rw [hb] at bl
  have bl : x9 0 (W ++ [⟨k, sp⟩]) = x9 0 W := by rw [bl]; exact List.append_nil _
  cases sp with
  | txt s =>
   erw []
   refine alloc fun i2 l2 s2 e2 f2 => ?_
   have c2 := c1.sub s2
   rw [← bl] at c2
   exact new_tail (x := none) I S few w c2 e2 (Nat.le_trans s1.len f2) h
  | obj =>
   erw []; try conv => whnf
   rw [← bl] at c1
   exact new_tail (x := none) I S few w c1 e1 f1 h
  | _ => cases hb
theorem boxes_get : ∀ (W : List Row) (s m : Nat), m < (x9 s W).length -> ∃ (i : Nat) (q : Row), getL (x9 s W) m = some (.int ((s + i : Nat) : Int)) ∧ W[i]? = some q ∧ b9 q.sp = true
 | [], _, _, h => absurd h (Nat.not_lt_zero _)
 | a :: t, s, m, h => by
  cases hb : b9 a.sp with
  | true =>
   have e : x9 s (a :: t) = .int s :: x9 (s + 1) t := by
    show (if b9 a.sp then (.int s : V) :: x9 (s + 1) t else x9 (s + 1) t) = _
    rw [hb]; rfl
   rw [e] at h ⊢
   cases m with
   | zero => exact ⟨0, a, rfl, rfl, hb⟩
   | succ m =>
    obtain ⟨i, q, h1, h2, h3⟩ := boxes_get t (s + 1) m (by simpa using h)
    exact ⟨i + 1, q, by rw [sx s i]; exact h1, by simpa using h2, h3⟩
  | false =>
   have e : x9 s (a :: t) = x9 (s + 1) t := by
    show (if b9 a.sp then (.int s : V) :: x9 (s + 1) t else x9 (s + 1) t) = _
    rw [hb]; rfl
   rw [e] at h ⊢
   obtain ⟨i, q, h1, h2, h3⟩ := boxes_get t (s + 1) m h
   exact ⟨i + 1, q, by rw [sx s i]; exact h1, by simpa using h2, h3⟩
theorem boxes_len : ∀ (W : List Row) (s : Nat), (x9 s W).length ≤ W.length
 | [], _ => Nat.le_refl _
 | a :: t, s => by
  have := boxes_len t (s + 1)
  show (if b9 a.sp then (.int s : V) :: x9 (s + 1) t else x9 (s + 1) t).length ≤ _
  split
  ·exact Nat.succ_le_succ this
  ·exact Nat.le_succ_of_le this
theorem boxes_mem : ∀ (W : List Row) (s i : Nat), ∃ b, memL (.int ((s + i : Nat) : Int)) (x9 s W) = some b ∧ (b = true -> ∀ q, W[i]? = some q -> b9 q.sp = true)
 | [], _, _ => ⟨false, rfl, fun h => by cases h⟩
 | a :: t, s, i => by
  have down : ∃ b, memL (.int ((s + i : Nat) : Int)) (x9 (s + 1) t) = some b ∧ (b = true -> ∀ j q, i = j + 1 -> t[j]? = some q -> b9 q.sp = true) ∧ (i = 0 -> b = false) := by
   cases i with
   | zero =>
    have : ∀ (W : List Row) (u : Nat), s < u -> memL (.int ((s + 0 : Nat) : Int)) (x9 u W) = some false := by
     intro W
     induction W with
     | nil => intro _ _; rfl
     | cons a t ih =>
      intro u hu
      show memL _ (if b9 a.sp then (.int u : V) :: x9 (u + 1) t else x9 (u + 1) t) = _
      split
      ·have hd : decide ((u : Int) = ((s + 0 : Nat) : Int)) = false := decide_eq_false fun e => Nat.ne_of_gt hu (Int.ofNat.inj e)
       show (match memL (.int ((s + 0 : Nat) : Int)) (x9 (u + 1) t) with | some c => some (decide ((u : Int) = ((s + 0 : Nat) : Int)) || c) | none => none) = _
       rw [ih (u + 1) (Nat.lt_succ_of_lt hu), hd]
       rfl
      ·exact ih (u + 1) (Nat.lt_succ_of_lt hu)
    exact ⟨false, this t (s + 1) (Nat.lt_succ_self s), (fun h => by cases h), fun _ => rfl⟩
   | succ i =>
    obtain ⟨b, h1, h2⟩ := boxes_mem t (s + 1) i
    refine ⟨b, by rw [sx s i]; exact h1, fun hb j q e hq => ?_, fun z => Nat.noConfusion z⟩
    obtain rfl : i = j := Nat.succ.inj e
    exact h2 hb q hq
  obtain ⟨b, h1, h2, h3⟩ := down
  cases hb : b9 a.sp with
  | true =>
   have e : x9 s (a :: t) = .int s :: x9 (s + 1) t := by
    show (if b9 a.sp then (.int s : V) :: x9 (s + 1) t else x9 (s + 1) t) = _
    rw [hb]; rfl
   rw [e]
   refine ⟨decide ((s : Int) = ((s + i : Nat) : Int)) || b, ?_, fun hz q hq => ?_⟩
   ·show (match memL (.int ((s + i : Nat) : Int)) (x9 (s + 1) t) with | some c => some (decide ((s : Int) = ((s + i : Nat) : Int)) || c) | none => none) = _
    rw [h1]
   ·cases i with
    | zero =>
     obtain rfl : a = q := by simpa using hq
     exact hb
    | succ i =>
     have hd : decide ((s : Int) = ((s + (i + 1) : Nat) : Int)) = false := decide_eq_false fun e => Nat.ne_of_lt (Nat.lt_add_of_pos_right (Nat.succ_pos i)) (Int.ofNat.inj e)
     rw [hd, Bool.false_or] at hz
     exact h2 hz i q rfl (by simpa using hq)
  | false =>
   have e : x9 s (a :: t) = x9 (s + 1) t := by
    show (if b9 a.sp then (.int s : V) :: x9 (s + 1) t else x9 (s + 1) t) = _
    rw [hb]; rfl
   rw [e]
   refine ⟨b, h1, fun hz q hq => ?_⟩
   cases i with
   | zero => rw [h3 rfl] at hz; cases hz
   | succ i => exact h2 hz i q rfl (by simpa using hq)
theorem wf_mono {i j : Nat} {q : Row} (w : Wf i q) (h : i ≤ j) : Wf j q := by
 obtain ⟨k, sp⟩ := q
 cases sp with
 | whole f a b => exact ⟨w.1, w.2.1, Int.lt_of_lt_of_le w.2.2.1 (Int.ofNat_le.mpr h), w.2.2.2⟩
 | _ => exact w
noncomputable def C13 : Ctx := [(1026, (68, S1026)), (1103, (64, S1103)), (1108, (84, S1108)), (1075, (100, S1075)), (1082, (80, S1082))]
section
variable {W : List Row} {D : Ids} {l : List O} {kk : St -> Prop} {r : V -> List O -> Prop} {a b c d e : Option V} {x y z : Int}
theorem step_tail {many old : Nat} (I : Inv W D l) (S : w8 W D) (hm : 0 < many) (hm2 : many < 2 ^ 64) (hz : 0 ≤ z) (hb : 0 < (x9 0 W).length) (ho : ∀ q, W[old]? = some q -> b9 q.sp = true) (h : ∀ led', Sub l led' -> r (.bool true) led') :
  wf G (gm C13) 118 (.b (b1115.drop 5) ⟨[some (.own 56), a, b, some (.int z), some (.int many), some (.int old), c, d, e], l⟩ kk r) := by
 have few := S.few
 have bl := boxes_len W 0
 obtain ⟨new, q, n1, n2, n3⟩ := boxes_get W 0 ((x9 0 W).length - 1) (Nat.sub_one_lt_of_lt hb)
 rw [Nat.zero_add] at n1
 have q1 : Nat.ble (x9 0 W).length 1000000 = true := Nat.ble_eq.mpr (Nat.le_trans (Nat.le_trans bl few) (by decide))
 have x1 : idx (x9 0 W) (((x9 0 W).length : Int) - 1) = some (.int new) := by
  rw [show ((x9 0 W).length : Int) - 1 = (((x9 0 W).length - 1 : Nat) : Int) from (Int.ofNat_sub hb).symm, idx_nat (Nat.le_trans (Nat.sub_le _ _) (Nat.le_of_ble_eq_true q1)), n1]
 have g1 : decide ((many : Int) ≠ 0) = true := decide_eq_true (Int.ne_of_gt (Int.ofNat_lt.mpr hm))
 have g2 := blt200 (x := (many : Int)) (show many < 2 ^ 128 from Nat.lt_trans hm2 (by decide))
 have g3 : decide (((r9 D.cp 0 W).length : Int) + 1 ≠ 0) = true := decide_eq_true (Int.ne_of_gt (Int.ofNat_lt.mpr (Nat.succ_pos _)))
 have f1 : 0 ≤ z.fdiv (many : Int) := by rw [kZ _ (Int.ofNat_lt.mpr hm)]; exact Int.ediv_nonneg hz (Int.natCast_nonneg _)
 have f2 : 0 ≤ (z.fdiv (many : Int)).fmod (((r9 D.cp 0 W).length : Int) + 1) := (fm_ge (Int.ofNat_lt.mpr (Nat.succ_pos _))).1
 obtain ⟨i, hi⟩ : ∃ i : Nat, (z.fdiv (many : Int)).fmod (((r9 D.cp 0 W).length : Int) + 1) = (i : Int) := ⟨_, (Int.toNat_of_nonneg f2).symm⟩
 erw [I.c56, I.c55, q1, x1, g1, g2, I.c52, j7 S]; try conv => whnf
 refine ⟨W, D, new, old, I, S, rfl, fun q' hq' => ?_, fun l1 s1 => ?_⟩
 ·obtain rfl : q = q' := Option.some.inj (n2.symm.trans hq'); exact n3
 have I1 := I.sub s1
 erw []; try conv => whnf
 rw [hi]
 refine ⟨W, D, old, i, I1, S, rfl, ho, fun l2 s2 => ?_⟩
 have I2 := I1.sub s2
 erw []; try conv => whnf
 refine ⟨W, D, new, q, I2, S, n2, n3, rfl, fun l3 s3 => ?_⟩
 have I3 := I2.sub s3
 obtain ⟨t, m1, m2⟩ := boxes_mem W 0 i
 rw [Nat.zero_add] at m1
 have s13 := s1.trans (s2.trans s3)
 cases t with
 | false =>
  erw [I3.c56, ← I3.c55, m1]; try conv => whnf
  (repeat refine z9 (by assumption) ?_); exact h _ s13
 | true =>
  erw [I3.c56, ← I3.c55, m1]; try conv => whnf
  refine ⟨W, D, i, new, I3, S, ?_, m2 rfl, fun l4 s4 => ?_⟩
  ·try rfl
  erw []; try conv => whnf
  (repeat refine z9 (by assumption) ?_); exact h _ (s13.trans s4)
end
inductive S1115 (args : List V) (led : List O) (r : V -> List O -> Prop) : Prop
 | mk (W : List Row) (D : Ids) (x : Int) : Inv W D led -> w8 W D -> W.length < 36 -> 0 < (x9 0 W).length -> args = [.own 56, .int x] -> 0 ≤ x -> x < 1000003 -> (∀ q D' led', Inv (W ++ [q]) D' led' -> w8 (W ++ [q]) D' -> D'.nums = D.nums -> r (.bool true) led') -> S1115 args led r
theorem idx4t (y : Int) : ∃ s ∈ texts, idx [.str (zz ""), .str (zz "ab"), .str (zz "ba"), .str (zz "ab!")] (y.fmod 4) = some (.str s) := by
 rw [k6 _ (by decide)]
 have h : y % 4 = 0 ∨ y % 4 = 1 ∨ y % 4 = 2 ∨ y % 4 = 3 := em_cases (n := 4) (P := fun t => t = 0 ∨ t = 1 ∨ t = 2 ∨ t = 3) (by decide) (by decide)
 rcases h with h | h | h | h <;> rw [h]
 ·exact ⟨_, by simp [texts], rfl⟩
 ·exact ⟨_, by simp [texts], rfl⟩
 ·exact ⟨_, by simp [texts], rfl⟩
 ·exact ⟨_, by simp [texts], rfl⟩
theorem idx4k (x : Int) {k : Int} (h1 : 1 ≤ k) (h2 : k ≤ 11) : ∃ j, iQ j = true ∧ idx [.int k, .int 16, .int 17, .int 18] (x.fmod 4) = some (.int j) := by
 rw [k6 _ (by decide)]
 have h : x % 4 = 0 ∨ x % 4 = 1 ∨ x % 4 = 2 ∨ x % 4 = 3 := em_cases (n := 4) (P := fun t => t = 0 ∨ t = 1 ∨ t = 2 ∨ t = 3) (by decide) (by decide)
 rcases h with h | h | h | h <;> rw [h]
 ·exact ⟨_, by unfold iQ; simp [h1, h2], rfl⟩
 ·exact ⟨_, rfl, rfl⟩
 ·exact ⟨_, rfl, rfl⟩
 ·exact ⟨_, rfl, rfl⟩
theorem ok1115 (args : List V) (led : List O) (r : V -> List O -> Prop) (h : S1115 args led r) : wf G (gm C13) 124 (.call 1115 args led r) := by
 obtain ⟨W, D, x, I, S, few, hb, rfl, h3, h4, h⟩ := h
 have bl := boxes_len W 0
 have q1 : Nat.ble (x9 0 W).length 1000000 = true := Nat.ble_eq.mpr (Nat.le_trans (Nat.le_trans bl (Nat.le_of_lt few)) (by decide))
 have y0 : 0 ≤ x.fdiv 9 ∧ x.fdiv 9 < 1000003 := fd_bd h3 h4 (by decide)
 have z0 : 0 ≤ (x.fdiv 9).fdiv 3 ∧ (x.fdiv 9).fdiv 3 < 1000003 := fd_bd y0.1 y0.2 (by decide)
 have g1 : decide (((x9 0 W).length : Int) ≠ 0) = true := decide_eq_true (Int.ne_of_gt (Int.ofNat_lt.mpr hb))
 have m0 : 0 ≤ ((x.fdiv 9).fdiv 3).fmod ((x9 0 W).length : Int) ∧ ((x.fdiv 9).fdiv 3).fmod ((x9 0 W).length : Int) < (x9 0 W).length := fm_ge (Int.ofNat_lt.mpr hb)
 obtain ⟨m, hm⟩ : ∃ m : Nat, ((x.fdiv 9).fdiv 3).fmod ((x9 0 W).length : Int) = (m : Int) := ⟨_, (Int.toNat_of_nonneg m0.1).symm⟩
 obtain ⟨old, ⟨ko, so⟩, o1, o2, o3⟩ := boxes_get W 0 m (Int.ofNat_lt.mp (hm ▸ m0.2))
 rw [Nat.zero_add] at o1
 have lo := j9 o2
 have x1 : idx (x9 0 W) (((x.fdiv 9).fdiv 3).fmod ((x9 0 W).length : Int)) = some (.int old) := by
  rw [hm, idx_nat (Nat.le_trans (Nat.le_of_lt (Int.ofNat_lt.mp (hm ▸ m0.2))) (Nat.le_of_ble_eq_true q1)), o1]
 have fin : ∀ (q : Row) (D' : Ids) (l : List O) (a b c d e : Option V) (kk : St -> Prop), Inv (W ++ [q]) D' l -> w8 (W ++ [q]) D' -> D'.nums = D.nums -> wf G (gm C13) 118 (.b (b1115.drop 5) ⟨[some (.own 56), a, b, some (.int ((x.fdiv 9).fdiv 3)), some (.int ((x9 0 W).length : Int)), some (.int old), c, d, e], l⟩ kk r) := by
  intro q D' l a b c d e kk I' S' hn
  refine step_tail I' S' hb (Nat.lt_of_le_of_lt bl (Nat.lt_trans few (by decide))) z0.1 ?_ ?_ fun l' s' => h q D' l' (I'.sub s') S' hn
  ·rw [boxesL_app, List.length_append]; exact Nat.lt_of_lt_of_le hb (Nat.le_add_right _ _)
  ·intro q' hq'
   rw [List.getElem?_append_left lo, o2] at hq'
   obtain rfl := Option.some.inj hq'
   exact o3
 have w := S.wf _ _ o2
 by_cases c0 : x.fmod 9 = 0
 ·have d0 : decide (x.fmod 9 = 0) = true := decide_eq_true c0
  obtain ⟨s, t1, t2⟩ := idx4t (x.fdiv 9)
  erw [I.c56, I.c55, q1, g1, x1, d0, t2]; try conv => whnf
  refine ⟨W, D, 13, .txt s, I, S, few, ⟨rfl, t1⟩, rfl, fun D' l' I' S' hn => ?_⟩
  (repeat refine z9 (by assumption) ?_); exact fin _ _ _ _ _ _ _ _ _ I' S' hn
 have d0 : decide (x.fmod 9 = 0) = false := decide_eq_false c0
 by_cases c1 : x.fmod 9 = 1
 ·have d1 : decide (x.fmod 9 = 1) = true := decide_eq_true c1
  erw [I.c56, I.c55, q1, g1, x1, d0, d1]; try conv => whnf
  refine ⟨W, D, 19, .obj, I, S, few, rfl, rfl, fun D' l' I' S' hn => ?_⟩
  (repeat refine z9 (by assumption) ?_); exact fin _ _ _ _ _ _ _ _ _ I' S' hn
 have d1 : decide (x.fmod 9 = 1) = false := decide_eq_false c1
 by_cases c2 : (x.fdiv 9).fmod 3 = 0
 ·have d2 : decide ((x.fdiv 9).fmod 3 = 0) = true := decide_eq_true c2
  obtain ⟨k, t1, t2⟩ := idx4k x (k := 1 + ((x.fdiv 9).fdiv 3).fmod 11) (Int.le_add_of_nonneg_right (fm_ge (by decide)).1) (by rw [Int.add_comm]; exact Int.add_one_le_of_lt (fm_ge (by decide)).2)
  erw [I.c56, I.c55, q1, g1, x1, d0, d1, d2, t2]; try conv => whnf
  refine ⟨W, D, k, _, rfl, I, S, ?_, ?_, t1, fun sp w' b' => ?_⟩
  ·exact (fd_bd z0.1 z0.2 (by decide)).1
  ·exact Int.lt_trans (fd_bd z0.1 z0.2 (by decide)).2 (by decide)
  erw []; try conv => whnf
  refine ⟨W, D, k, sp, I, S, few, w', rfl, fun D' l' I' S' hn => ?_⟩
  (repeat refine z9 (by assumption) ?_); exact fin _ _ _ _ _ _ _ _ _ I' S' hn
 have d2 : decide ((x.fdiv 9).fmod 3 = 0) = false := decide_eq_false c2
 by_cases c3 : (x.fdiv 9).fmod 3 = 1
 ·have d3 : decide ((x.fdiv 9).fmod 3 = 1) = true := decide_eq_true c3
  erw [I.c56, I.c52, p0 S o2, I.c55, q1, g1, x1, d0, d1, d2, d3]; try conv => whnf
  refine ⟨W, D, ko, so, I, S, few, wf_mono w (Nat.le_of_lt lo), rfl, fun D' l' I' S' hn => ?_⟩
  (repeat refine z9 (by assumption) ?_); exact fin _ _ _ _ _ _ _ _ _ I' S' hn
 have d3 : decide ((x.fdiv 9).fmod 3 = 1) = false := decide_eq_false c3
 have g2 := blt200 (x := ((x9 0 W).length : Int)) (Nat.lt_of_le_of_lt (Nat.le_trans bl (Nat.le_of_lt few)) (by decide))
 erw [I.c56, I.c52, p0 S o2, I.c55, q1, g1, g2, x1, d0, d1, d2, d3]; try conv => whnf
 refine ⟨W, D, old, ko, _, so, I, S, o2, o3, rfl, ?_, ?_, fun sp' w' b' l1 s1 => ?_⟩
 ·exact (fd_bd z0.1 z0.2 (Int.ofNat_lt.mpr hb)).1
 ·exact Int.lt_trans (fd_bd z0.1 z0.2 (Int.ofNat_lt.mpr hb)).2 (by decide)
 have I1 := I.sub s1
 erw []; try conv => whnf
 refine ⟨W, D, ko, sp', I1, S, few, w', rfl, fun D' l' I' S' hn => ?_⟩
 (repeat refine z9 (by assumption) ?_); exact fin _ _ _ _ _ _ _ _ _ I' S' hn
noncomputable def kinds16 : List Int := [13, 13, 7, 7, 16, 8, 17, 17, 19, 19, 18, 18, 18, 18, 18, 18]
theorem klen {W : List Row} {ks : List Int} (h : W.map (·.k) = ks) : W.length = ks.length := by rw [← h, List.length_map]
theorem klt {W : List Row} {ks : List Int} {n : Nat} (h : W.map (·.k) = ks) (hb : Nat.blt ks.length n = true) : W.length < n := by
 rw [klen h]
 exact Nat.le_of_ble_eq_true hb
theorem nx {W : List Row} {q : Row} {D : Ids} {ks : List Int} {P : List O -> Prop} (hk : W.map (·.k) = ks) (h : ∀ W' D' led', W'.map (·.k) = ks ++ [q.k] -> Inv W' D' led' -> w8 W' D' -> D'.nums = D.nums -> P led') : ∀ D' led', Inv (W ++ [q]) D' led' -> w8 (W ++ [q]) D' -> D'.nums = D.nums -> P led' := fun D' l' I S n => h _ D' l' (by rw [List.map_append, hk]; rfl) I S n
theorem ltk {W : List Row} {ks : List Int} (h : W.map (·.k) = ks) (f : Nat) (hf : Nat.blt f ks.length = true) : (f : Int) < W.length := by
 rw [klen h]
 exact Int.ofNat_lt.mpr (Nat.le_of_ble_eq_true hf)
inductive S1122 (args : List V) (led : List O) (r : V -> List O -> Prop) : Prop
 | mk (D : Ids) : Inv [] D led -> w8 [] D -> args = [.own 56] -> (∀ W D' led', W.map (·.k) = kinds16 -> Inv W D' led' -> w8 W D' -> D'.nums = D.nums -> r .none led') -> S1122 args led r
noncomputable def C14 : Ctx := [(1026, (68, S1026)), (1089, (34, S1089)), (1096, (46, S1096))]
theorem ok1122 (args : List V) (led : List O) (r : V -> List O -> Prop) (h : S1122 args led r) : wf G (gm C14) 100 (.call 1122 args led r) := by
 obtain ⟨D, I, S, rfl, h⟩ := h
 have hk : ([] : List Row).map (·.k) = [] := rfl
 obtain ⟨nn, nd⟩ : ∃ nn, D.nums = nn := ⟨_, rfl⟩
 rw [nd] at h
 generalize ([] : List Row) = W at I S hk
 erw []; try conv => whnf
 refine ⟨7, 2, rfl, by decide, by decide, by decide, by decide, fun n hn => ?_⟩
 erw [I.c56]; try conv => whnf
 refine ⟨2, rfl, I.toBase, by decide, by decide, fun a1 b1 ha1 hb1 => ?_⟩
 erw [I.c56]; try conv => whnf
 refine ⟨2, rfl, I.toBase, by decide, by decide, fun a2 b2 ha2 hb2 => ?_⟩
 erw [I.c56]; try conv => whnf
 refine ⟨W, D, 13, .txt (zz "ab"), I, S, klt hk rfl, ⟨rfl, by simp [texts]⟩, rfl, nx hk ?_⟩
 clear I S hk
 intro W D l0 hk I S n'
 have hk : W.map (·.k) = [13] := hk
 have nd := n'.trans nd
 clear n'
 erw []; try conv => whnf
 refine ⟨W, D, 13, .txt (zz "ab"), I, S, klt hk rfl, ⟨rfl, by simp [texts]⟩, rfl, nx hk ?_⟩
 clear I S hk
 intro W D l1 hk I S n'
 have hk : W.map (·.k) = [13, 13] := hk
 have nd := n'.trans nd
 clear n'
 erw []; try conv => whnf
 refine ⟨W, D, 7, .num 1 n, I, S, klt hk rfl, ⟨.inr ⟨(by decide : (1 : Int) ≤ 7), (by decide : (7 : Int) ≤ 11), rfl⟩, hn⟩, rfl, nx hk ?_⟩
 clear I S hk
 intro W D l2 hk I S n'
 have hk : W.map (·.k) = [13, 13, 7] := hk
 have nd := n'.trans nd
 clear n'
 erw []; try conv => whnf
 refine ⟨W, D, 7, .num 1 n, I, S, klt hk rfl, ⟨.inr ⟨(by decide : (1 : Int) ≤ 7), (by decide : (7 : Int) ≤ 11), rfl⟩, hn⟩, rfl, nx hk ?_⟩
 clear I S hk
 intro W D l3 hk I S n'
 have hk : W.map (·.k) = [13, 13, 7, 7] := hk
 have nd := n'.trans nd
 clear n'
 erw []; try conv => whnf
 refine ⟨W, D, 16, .num 1 n, I, S, klt hk rfl, ⟨.inl ⟨rfl, rfl⟩, hn⟩, rfl, nx hk ?_⟩
 clear I S hk
 intro W D l4 hk I S n'
 have hk : W.map (·.k) = [13, 13, 7, 7, 16] := hk
 have nd := n'.trans nd
 clear n'
 erw []; try conv => whnf
 refine ⟨W, D, 8, .num 1 n, I, S, klt hk rfl, ⟨.inr ⟨(by decide : (1 : Int) ≤ 8), (by decide : (8 : Int) ≤ 11), rfl⟩, hn⟩, rfl, nx hk ?_⟩
 clear I S hk
 intro W D l5 hk I S n'
 have hk : W.map (·.k) = [13, 13, 7, 7, 16, 8] := hk
 have nd := n'.trans nd
 clear n'
 erw []; try conv => whnf
 refine ⟨W, D, 17, .pair a1 b1, I, S, klt hk rfl, ⟨rfl, ha1, hb1⟩, rfl, nx hk ?_⟩
 clear I S hk
 intro W D l6 hk I S n'
 have hk : W.map (·.k) = [13, 13, 7, 7, 16, 8, 17] := hk
 have nd := n'.trans nd
 clear n'
 erw []; try conv => whnf
 refine ⟨W, D, 17, .pair a2 b2, I, S, klt hk rfl, ⟨rfl, ha2, hb2⟩, rfl, nx hk ?_⟩
 clear I S hk
 intro W D l7 hk I S n'
 have hk : W.map (·.k) = [13, 13, 7, 7, 16, 8, 17, 17] := hk
 have nd := n'.trans nd
 clear n'
 erw []; try conv => whnf
 refine ⟨W, D, 19, .obj, I, S, klt hk rfl, rfl, rfl, nx hk ?_⟩
 clear I S hk
 intro W D l8 hk I S n'
 have hk : W.map (·.k) = [13, 13, 7, 7, 16, 8, 17, 17, 19] := hk
 have nd := n'.trans nd
 clear n'
 erw []; try conv => whnf
 refine ⟨W, D, 19, .obj, I, S, klt hk rfl, rfl, rfl, nx hk ?_⟩
 clear I S hk
 intro W D l9 hk I S n'
 have hk : W.map (·.k) = [13, 13, 7, 7, 16, 8, 17, 17, 19, 19] := hk
 have nd := n'.trans nd
 clear n'
 erw []; try conv => whnf
 erw [I.c56]; try conv => whnf
 refine ⟨9, rfl, I.toBase, by decide, by decide, fun a b ha hb => ?_⟩
 erw []; try conv => whnf
 refine ⟨W, D, 18, .whole 0 a b, I, S, klt hk rfl, ⟨rfl, by decide, ltk hk 0 rfl, ha, hb⟩, rfl, nx hk ?_⟩
 clear I S hk ha hb
 intro W D m0 hk I S n'
 have hk : W.map (·.k) = [13, 13, 7, 7, 16, 8, 17, 17, 19, 19, 18] := hk
 have nd := n'.trans nd
 clear n'
 erw []; try conv => whnf
 erw [I.c56]; try conv => whnf
 refine ⟨9, rfl, I.toBase, by decide, by decide, fun a b ha hb => ?_⟩
 erw []; try conv => whnf
 refine ⟨W, D, 18, .whole 1 a b, I, S, klt hk rfl, ⟨rfl, by decide, ltk hk 1 rfl, ha, hb⟩, rfl, nx hk ?_⟩
 clear I S hk ha hb
 intro W D m1 hk I S n'
 have hk : W.map (·.k) = [13, 13, 7, 7, 16, 8, 17, 17, 19, 19, 18, 18] := hk
 have nd := n'.trans nd
 clear n'
 erw []; try conv => whnf
 erw [I.c56]; try conv => whnf
 refine ⟨9, rfl, I.toBase, by decide, by decide, fun a b ha hb => ?_⟩
 erw []; try conv => whnf
 refine ⟨W, D, 18, .whole 8 a b, I, S, klt hk rfl, ⟨rfl, by decide, ltk hk 8 rfl, ha, hb⟩, rfl, nx hk ?_⟩
 clear I S hk ha hb
 intro W D m2 hk I S n'
 have hk : W.map (·.k) = [13, 13, 7, 7, 16, 8, 17, 17, 19, 19, 18, 18, 18] := hk
 have nd := n'.trans nd
 clear n'
 erw []; try conv => whnf
 erw [I.c56]; try conv => whnf
 refine ⟨9, rfl, I.toBase, by decide, by decide, fun a b ha hb => ?_⟩
 erw []; try conv => whnf
 refine ⟨W, D, 18, .whole 9 a b, I, S, klt hk rfl, ⟨rfl, by decide, ltk hk 9 rfl, ha, hb⟩, rfl, nx hk ?_⟩
 clear I S hk ha hb
 intro W D m3 hk I S n'
 have hk : W.map (·.k) = [13, 13, 7, 7, 16, 8, 17, 17, 19, 19, 18, 18, 18, 18] := hk
 have nd := n'.trans nd
 clear n'
 erw []; try conv => whnf
 erw [I.c56]; try conv => whnf
 refine ⟨9, rfl, I.toBase, by decide, by decide, fun a b ha hb => ?_⟩
 erw []; try conv => whnf
 refine ⟨W, D, 18, .whole 2 a b, I, S, klt hk rfl, ⟨rfl, by decide, ltk hk 2 rfl, ha, hb⟩, rfl, nx hk ?_⟩
 clear I S hk ha hb
 intro W D m4 hk I S n'
 have hk : W.map (·.k) = [13, 13, 7, 7, 16, 8, 17, 17, 19, 19, 18, 18, 18, 18, 18] := hk
 have nd := n'.trans nd
 clear n'
 erw []; try conv => whnf
 erw [I.c56]; try conv => whnf
 refine ⟨9, rfl, I.toBase, by decide, by decide, fun a b ha hb => ?_⟩
 erw []; try conv => whnf
 refine ⟨W, D, 18, .whole 3 a b, I, S, klt hk rfl, ⟨rfl, by decide, ltk hk 3 rfl, ha, hb⟩, rfl, nx hk ?_⟩
 clear I S hk ha hb
 intro W D m5 hk I S n'
 have hk : W.map (·.k) = [13, 13, 7, 7, 16, 8, 17, 17, 19, 19, 18, 18, 18, 18, 18, 18] := hk
 have nd := n'.trans nd
 clear n'
 erw []; try conv => whnf
 (repeat refine z9 (by assumption) ?_); exact h W D _ hk I S nd
noncomputable def mvo (j : Nat) : Bool := Nat.beq j 4 || Nat.beq j 5 || Nat.beq j 6 || Nat.beq j 7 || Nat.beq j 8 || Nat.beq j 14 || Nat.beq j 15 || Nat.beq j 16 || Nat.beq j 35 || Nat.beq j 39 || Nat.beq j 40
structure Cr (led0 l : List O) (c4 c5 c6 c7 c8 c14 c15 c16 c35 c39 c40 : O) : Prop where
 keep : ∀ j x, mvo j = false -> getL led0 j = some x -> getL l j = some x
 len : led0.length ≤ l.length
 h4 : getL l 4 = some c4
 h5 : getL l 5 = some c5
 h6 : getL l 6 = some c6
 h7 : getL l 7 = some c7
 h8 : getL l 8 = some c8
 h14 : getL l 14 = some c14
 h15 : getL l 15 = some c15
 h16 : getL l 16 = some c16
 h35 : getL l 35 = some c35
 h39 : getL l 39 = some c39
 h40 : getL l 40 = some c40
section
variable {led0 l l' : List O} {c4 c5 c6 c7 c8 c14 c15 c16 c35 c39 c40 o' : O}
theorem Cr.sub (c : Cr led0 l c4 c5 c6 c7 c8 c14 c15 c16 c35 c39 c40) (s : Sub l l') : Cr led0 l' c4 c5 c6 c7 c8 c14 c15 c16 c35 c39 c40 := ⟨fun j x n e => s _ _ (c.keep j x n e), Nat.le_trans c.len s.len, s _ _ c.h4, s _ _ c.h5, s _ _ c.h6, s _ _ c.h7, s _ _ c.h8, s _ _ c.h14, s _ _ c.h15, s _ _ c.h16, s _ _ c.h35, s _ _ c.h39, s _ _ c.h40⟩
theorem Cr.fresh (c : Cr led0 l c4 c5 c6 c7 c8 c14 c15 c16 c35 c39 c40) {i : Nat} (hi : led0.length ≤ i) (h56 : 56 < led0.length) (g : ∀ j x, j ≠ i -> getL l j = some x -> getL l' j = some x) (hl : l'.length = l.length) : Cr led0 l' c4 c5 c6 c7 c8 c14 c15 c16 c35 c39 c40 := ⟨fun j x n e => g _ _ (Nat.ne_of_lt (Nat.lt_of_lt_of_le (w9 e) hi)) (c.keep j x n e), by rw [hl]; exact c.len, g _ _ (far (Nat.lt_of_lt_of_le h56 hi) rfl).symm c.h4, g _ _ (far (Nat.lt_of_lt_of_le h56 hi) rfl).symm c.h5, g _ _ (far (Nat.lt_of_lt_of_le h56 hi) rfl).symm c.h6, g _ _ (far (Nat.lt_of_lt_of_le h56 hi) rfl).symm c.h7, g _ _ (far (Nat.lt_of_lt_of_le h56 hi) rfl).symm c.h8, g _ _ (far (Nat.lt_of_lt_of_le h56 hi) rfl).symm c.h14, g _ _ (far (Nat.lt_of_lt_of_le h56 hi) rfl).symm c.h15, g _ _ (far (Nat.lt_of_lt_of_le h56 hi) rfl).symm c.h16, g _ _ (far (Nat.lt_of_lt_of_le h56 hi) rfl).symm c.h35, g _ _ (far (Nat.lt_of_lt_of_le h56 hi) rfl).symm c.h39, g _ _ (far (Nat.lt_of_lt_of_le h56 hi) rfl).symm c.h40⟩
theorem Cr.s4 (c : Cr led0 l c4 c5 c6 c7 c8 c14 c15 c16 c35 c39 c40) (e : getL l' 4 = some o') (g : ∀ j x, j ≠ 4 -> getL l j = some x -> getL l' j = some x) (hl : l'.length = l.length) : Cr led0 l' o' c5 c6 c7 c8 c14 c15 c16 c35 c39 c40 := ⟨fun j x n e => g _ _ (fun z => by subst z; exact absurd n (by decide)) (c.keep j x n e), by rw [hl]; exact c.len, e, g _ _ (by decide) c.h5, g _ _ (by decide) c.h6, g _ _ (by decide) c.h7, g _ _ (by decide) c.h8, g _ _ (by decide) c.h14, g _ _ (by decide) c.h15, g _ _ (by decide) c.h16, g _ _ (by decide) c.h35, g _ _ (by decide) c.h39, g _ _ (by decide) c.h40⟩
theorem Cr.s5 (c : Cr led0 l c4 c5 c6 c7 c8 c14 c15 c16 c35 c39 c40) (e : getL l' 5 = some o') (g : ∀ j x, j ≠ 5 -> getL l j = some x -> getL l' j = some x) (hl : l'.length = l.length) : Cr led0 l' c4 o' c6 c7 c8 c14 c15 c16 c35 c39 c40 := ⟨fun j x n e => g _ _ (fun z => by subst z; exact absurd n (by decide)) (c.keep j x n e), by rw [hl]; exact c.len, g _ _ (by decide) c.h4, e, g _ _ (by decide) c.h6, g _ _ (by decide) c.h7, g _ _ (by decide) c.h8, g _ _ (by decide) c.h14, g _ _ (by decide) c.h15, g _ _ (by decide) c.h16, g _ _ (by decide) c.h35, g _ _ (by decide) c.h39, g _ _ (by decide) c.h40⟩
theorem Cr.s6 (c : Cr led0 l c4 c5 c6 c7 c8 c14 c15 c16 c35 c39 c40) (e : getL l' 6 = some o') (g : ∀ j x, j ≠ 6 -> getL l j = some x -> getL l' j = some x) (hl : l'.length = l.length) : Cr led0 l' c4 c5 o' c7 c8 c14 c15 c16 c35 c39 c40 := ⟨fun j x n e => g _ _ (fun z => by subst z; exact absurd n (by decide)) (c.keep j x n e), by rw [hl]; exact c.len, g _ _ (by decide) c.h4, g _ _ (by decide) c.h5, e, g _ _ (by decide) c.h7, g _ _ (by decide) c.h8, g _ _ (by decide) c.h14, g _ _ (by decide) c.h15, g _ _ (by decide) c.h16, g _ _ (by decide) c.h35, g _ _ (by decide) c.h39, g _ _ (by decide) c.h40⟩
theorem Cr.s7 (c : Cr led0 l c4 c5 c6 c7 c8 c14 c15 c16 c35 c39 c40) (e : getL l' 7 = some o') (g : ∀ j x, j ≠ 7 -> getL l j = some x -> getL l' j = some x) (hl : l'.length = l.length) : Cr led0 l' c4 c5 c6 o' c8 c14 c15 c16 c35 c39 c40 := ⟨fun j x n e => g _ _ (fun z => by subst z; exact absurd n (by decide)) (c.keep j x n e), by rw [hl]; exact c.len, g _ _ (by decide) c.h4, g _ _ (by decide) c.h5, g _ _ (by decide) c.h6, e, g _ _ (by decide) c.h8, g _ _ (by decide) c.h14, g _ _ (by decide) c.h15, g _ _ (by decide) c.h16, g _ _ (by decide) c.h35, g _ _ (by decide) c.h39, g _ _ (by decide) c.h40⟩
theorem Cr.s8 (c : Cr led0 l c4 c5 c6 c7 c8 c14 c15 c16 c35 c39 c40) (e : getL l' 8 = some o') (g : ∀ j x, j ≠ 8 -> getL l j = some x -> getL l' j = some x) (hl : l'.length = l.length) : Cr led0 l' c4 c5 c6 c7 o' c14 c15 c16 c35 c39 c40 := ⟨fun j x n e => g _ _ (fun z => by subst z; exact absurd n (by decide)) (c.keep j x n e), by rw [hl]; exact c.len, g _ _ (by decide) c.h4, g _ _ (by decide) c.h5, g _ _ (by decide) c.h6, g _ _ (by decide) c.h7, e, g _ _ (by decide) c.h14, g _ _ (by decide) c.h15, g _ _ (by decide) c.h16, g _ _ (by decide) c.h35, g _ _ (by decide) c.h39, g _ _ (by decide) c.h40⟩
theorem Cr.s14 (c : Cr led0 l c4 c5 c6 c7 c8 c14 c15 c16 c35 c39 c40) (e : getL l' 14 = some o') (g : ∀ j x, j ≠ 14 -> getL l j = some x -> getL l' j = some x) (hl : l'.length = l.length) : Cr led0 l' c4 c5 c6 c7 c8 o' c15 c16 c35 c39 c40 := ⟨fun j x n e => g _ _ (fun z => by subst z; exact absurd n (by decide)) (c.keep j x n e), by rw [hl]; exact c.len, g _ _ (by decide) c.h4, g _ _ (by decide) c.h5, g _ _ (by decide) c.h6, g _ _ (by decide) c.h7, g _ _ (by decide) c.h8, e, g _ _ (by decide) c.h15, g _ _ (by decide) c.h16, g _ _ (by decide) c.h35, g _ _ (by decide) c.h39, g _ _ (by decide) c.h40⟩
theorem Cr.s15 (c : Cr led0 l c4 c5 c6 c7 c8 c14 c15 c16 c35 c39 c40) (e : getL l' 15 = some o') (g : ∀ j x, j ≠ 15 -> getL l j = some x -> getL l' j = some x) (hl : l'.length = l.length) : Cr led0 l' c4 c5 c6 c7 c8 c14 o' c16 c35 c39 c40 := ⟨fun j x n e => g _ _ (fun z => by subst z; exact absurd n (by decide)) (c.keep j x n e), by rw [hl]; exact c.len, g _ _ (by decide) c.h4, g _ _ (by decide) c.h5, g _ _ (by decide) c.h6, g _ _ (by decide) c.h7, g _ _ (by decide) c.h8, g _ _ (by decide) c.h14, e, g _ _ (by decide) c.h16, g _ _ (by decide) c.h35, g _ _ (by decide) c.h39, g _ _ (by decide) c.h40⟩
theorem Cr.s16 (c : Cr led0 l c4 c5 c6 c7 c8 c14 c15 c16 c35 c39 c40) (e : getL l' 16 = some o') (g : ∀ j x, j ≠ 16 -> getL l j = some x -> getL l' j = some x) (hl : l'.length = l.length) : Cr led0 l' c4 c5 c6 c7 c8 c14 c15 o' c35 c39 c40 := ⟨fun j x n e => g _ _ (fun z => by subst z; exact absurd n (by decide)) (c.keep j x n e), by rw [hl]; exact c.len, g _ _ (by decide) c.h4, g _ _ (by decide) c.h5, g _ _ (by decide) c.h6, g _ _ (by decide) c.h7, g _ _ (by decide) c.h8, g _ _ (by decide) c.h14, g _ _ (by decide) c.h15, e, g _ _ (by decide) c.h35, g _ _ (by decide) c.h39, g _ _ (by decide) c.h40⟩
theorem Cr.s35 (c : Cr led0 l c4 c5 c6 c7 c8 c14 c15 c16 c35 c39 c40) (e : getL l' 35 = some o') (g : ∀ j x, j ≠ 35 -> getL l j = some x -> getL l' j = some x) (hl : l'.length = l.length) : Cr led0 l' c4 c5 c6 c7 c8 c14 c15 c16 o' c39 c40 := ⟨fun j x n e => g _ _ (fun z => by subst z; exact absurd n (by decide)) (c.keep j x n e), by rw [hl]; exact c.len, g _ _ (by decide) c.h4, g _ _ (by decide) c.h5, g _ _ (by decide) c.h6, g _ _ (by decide) c.h7, g _ _ (by decide) c.h8, g _ _ (by decide) c.h14, g _ _ (by decide) c.h15, g _ _ (by decide) c.h16, e, g _ _ (by decide) c.h39, g _ _ (by decide) c.h40⟩
theorem Cr.s39 (c : Cr led0 l c4 c5 c6 c7 c8 c14 c15 c16 c35 c39 c40) (e : getL l' 39 = some o') (g : ∀ j x, j ≠ 39 -> getL l j = some x -> getL l' j = some x) (hl : l'.length = l.length) : Cr led0 l' c4 c5 c6 c7 c8 c14 c15 c16 c35 o' c40 := ⟨fun j x n e => g _ _ (fun z => by subst z; exact absurd n (by decide)) (c.keep j x n e), by rw [hl]; exact c.len, g _ _ (by decide) c.h4, g _ _ (by decide) c.h5, g _ _ (by decide) c.h6, g _ _ (by decide) c.h7, g _ _ (by decide) c.h8, g _ _ (by decide) c.h14, g _ _ (by decide) c.h15, g _ _ (by decide) c.h16, g _ _ (by decide) c.h35, e, g _ _ (by decide) c.h40⟩
theorem Cr.s40 (c : Cr led0 l c4 c5 c6 c7 c8 c14 c15 c16 c35 c39 c40) (e : getL l' 40 = some o') (g : ∀ j x, j ≠ 40 -> getL l j = some x -> getL l' j = some x) (hl : l'.length = l.length) : Cr led0 l' c4 c5 c6 c7 c8 c14 c15 c16 c35 c39 o' := ⟨fun j x n e => g _ _ (fun z => by subst z; exact absurd n (by decide)) (c.keep j x n e), by rw [hl]; exact c.len, g _ _ (by decide) c.h4, g _ _ (by decide) c.h5, g _ _ (by decide) c.h6, g _ _ (by decide) c.h7, g _ _ (by decide) c.h8, g _ _ (by decide) c.h14, g _ _ (by decide) c.h15, g _ _ (by decide) c.h16, g _ _ (by decide) c.h35, g _ _ (by decide) c.h39, e⟩
end
theorem mvo_far {j : Nat} (hj : 56 < j) : mvo j = false := by
 have e : ∀ m, m ≤ 56 -> Nat.beq j m = false := fun m hm => by cases h : Nat.beq j m with
  | false => rfl
  | true => exact absurd (Nat.eq_of_beq_eq_true h ▸ hj : 56 < m) (Nat.not_lt_of_le hm)
 unfold mvo
 rw [e 4 (by decide), e 5 (by decide), e 6 (by decide), e 7 (by decide), e 8 (by decide), e 14 (by decide), e 15 (by decide), e 16 (by decide), e 35 (by decide), e 39 (by decide), e 40 (by decide)]
 rfl
noncomputable def h14g (a b c : Int) : List (Nat × V) := [(24, .own 15), (25, .own 16), (26, .int a), (27, .int 4000), (28, .own 17), (29, .int 4), (30, .int b), (31, .int 1001), (32, .own 18), (33, .own 19), (34, .int 0), (35, .int c)]
structure Fin (W : List Row) (D : Ids) (led : List O) : Prop where
 c20 : getL led 20 = some (.inst 669 m20)
 c56 : getL led 56 = some (.dict w56)
 c14 : ∃ a b c, getL led 14 = some (.inst 339 (h14g a b c))
 c16 : ∃ es, getL led 16 = some (.dict es) ∧ ∀ i : Nat, i < W.length -> v9 es (.int (addr i)) = some (some (.own (D.th i)))
 c34 : getL led 34 = some (.list [])
 c35 : getL led 35 = some (.list [])
 c52 : getL led 52 = some (.list (r9 D.cp 0 W))
 cth : ∀ i r, W[i]? = some r -> getL led (D.th i) = some (thingO i r.k (D.sl i))
 csl : ∀ i r, W[i]? = some r -> getL led (D.sl i) = some (.list (j5 r.sp))
 ccp : ∀ i r, W[i]? = some r -> getL led (D.cp i) = some (.list (j5 r.sp))
inductive S1129 (args : List V) (led : List O) (r : V -> List O -> Prop) : Prop
 | mk (W : List Row) (D : Ids) (s6 s7 : Sp) : Inv W D led -> w8 W D -> W[6]? = some ⟨17, s6⟩ -> W[7]? = some ⟨17, s7⟩ -> args = [.own 56] -> (∀ led', Fin W D led' -> r (.bool true) led') -> S1129 args led r
noncomputable def C15 : Ctx := [(287, (14, S287)), (301, (12, S301))]
theorem dne {l : List O} {i j : Nat} {o : O} (a : getL l j = some o) (f : l.length ≤ i) : i ≠ j := fun z => by subst z; exact absurd (w9 a) (Nat.not_lt.mpr f)
theorem x20n {led : List O} (e : getL led 20 = some (.inst 669 m20)) : o9 G (.own 20) 76 led = .fn 666 := b7 e (by kernel_rfl) (by kernel_rfl)
theorem x20a {led : List O} (e : getL led 20 = some (.inst 669 m20)) : o9 G (.own 20) 70 led = .fn 638 := b7 e (by kernel_rfl) (by kernel_rfl)
theorem x20k {led : List O} (e : getL led 20 = some (.inst 669 m20)) : o9 G (.own 20) 67 led = .fn 512 := b7 e (by kernel_rfl) (by kernel_rfl)
theorem x20w {led : List O} (e : getL led 20 = some (.inst 669 m20)) : o9 G (.own 20) 72 led = .fn 589 := b7 e (by kernel_rfl) (by kernel_rfl)
theorem x20t {led : List O} (e : getL led 20 = some (.inst 669 m20)) : o9 G (.own 20) 75 led = .fn 652 := b7 e (by kernel_rfl) (by kernel_rfl)
theorem x46 {led : List O} (e : getL led 46 = some (.inst 445 [])) : o9 G (.own 46) 68 led = .fn 442 := b7 e (by kernel_rfl) (by kernel_rfl)
theorem x47 {led : List O} (e : getL led 47 = some (.inst 917 [])) : o9 G (.own 47) 77 led = .fn 914 := b7 e (by kernel_rfl) (by kernel_rfl)
theorem x48 {led : List O} (e : getL led 48 = some (.inst 936 [])) : o9 G (.own 48) 77 led = .fn 933 := b7 e (by kernel_rfl) (by kernel_rfl)
theorem x49 {led : List O} (e : getL led 49 = some (.inst 955 [])) : o9 G (.own 49) 77 led = .fn 952 := b7 e (by kernel_rfl) (by kernel_rfl)
theorem x51 {led : List O} (e : getL led 51 = some (.inst 993 [])) : o9 G (.own 51) 77 led = .fn 990 := b7 e (by kernel_rfl) (by kernel_rfl)
theorem x3r {led : List O} (e : getL led 3 = some (.inst 87 [(3, .own 4), (4, .own 5), (5, .own 6), (6, .own 7), (7, .own 8)])) : o9 G (.own 3) 8 led = .fn 77 := b7 e (by kernel_rfl) (by kernel_rfl)
theorem x3p {led : List O} (e : getL led 3 = some (.inst 87 [(3, .own 4), (4, .own 5), (5, .own 6), (6, .own 7), (7, .own 8)])) : o9 G (.own 3) 9 led = .fn 84 := b7 e (by kernel_rfl) (by kernel_rfl)
theorem lcA {W : List Row} {D : Ids} {led l1 : List O} {i1 : Nat} {s6 : Sp} {r : V -> List O -> Prop} (I : Inv W D led) (S : w8 W D) (q6 : W[6]? = some ⟨17, s6⟩)
  (c1 : Cr led l1 (.list kt4) (.dict kt5) (.list (zZ 1)) (.list (zZ 1)) (.list (zZ 0)) (.inst 339 (h14 W.length)) (.list (thL D.th W.length)) (.dict (atL D.th W.length)) (.list []) (.dict []) (.list []))
  (a1 : getL l1 i1 = some (.list [.tup [.int 4, .int (addr ((6 : Nat) : Int))]]))
  (h : ∀ i5 i6 l, led.length ≤ i5 -> led.length ≤ i6 -> i6 ≠ i5 -> Cr led l (.list kt4) (.dict kt5) (.list (zZ 1)) (.list (zZ 1)) (.list (zZ 0)) (.inst 339 (h14 (W.length + 1))) (.list (thL D.th W.length ++ [.own i6])) (.dict (atL (upd D.th W.length i6) (W.length + 1))) (.list []) (.dict []) (.list []) ->
   getL l i6 = some (.inst 318 (a8 23 (.int ((W.length : Int) + 1)) (a8 23 (.int 0) (a8 22 (.int 3) (a8 21 (.int 0) (a8 20 (.own i5) (a8 19 (.int 13) (a8 18 (.int (16 + 3 * (W.length : Int))) [])))))))) ->
   getL l i5 = some (.list ([V.tup [.int 8, .str (zz "")]].set 0 (.tup [.int 8, .str (zz "" ++ (zz "T" ++ Str.ofString (toString (33 : Int)) ++ zz "") ++ zz "")]))) ->
   r (.tup [.int 4, .int (16 + 3 * (W.length : Int))]) l) :
  wf G (gm C15) 114 (.call 1054 [.own 56, .int 10, .own i1] l1 r) := by
 have h56 : 56 < led.length := w9 I.c56
 have fr : ∀ {i j : Nat}, led.length ≤ i -> Nat.ble j 56 = true -> i ≠ j := fun F hj e => absurd (Nat.le_of_ble_eq_true hj) (Nat.not_le_of_lt (Nat.lt_of_lt_of_le h56 (e ▸ F)))
 have l6 := j9 q6
 have few := S.few
 have q2 : Nat.ble (thL D.th W.length).length 100000 = true := Nat.ble_eq.mpr (by rw [thL_len]; exact Nat.le_of_ble_eq_true (bl0 S.few))
 have q3 : Nat.ble (atL D.th W.length).length 100000 = true := Nat.ble_eq.mpr (by rw [atL_len]; exact Nat.le_of_ble_eq_true (bl0 S.few))
 have dn1 : v9 (atL D.th W.length) (.int (16 + 3 * (W.length : Int))) = some none := dlook_no fun j hj e => no_addr hj e
 erw [c1.keep _ _ rfl I.c56, c1.keep _ _ rfl I.c20, c1.keep _ _ rfl I.c33, c1.keep _ _ rfl I.c2, c1.keep _ _ rfl I.c3, c1.keep _ _ rfl I.c9, c1.h4, c1.h14, c1.h16, c1.keep _ _ (mvo_far (I.far _ _ q6).1) (I.cth _ _ q6), ← c1.keep _ _ rfl I.c47, a1, k9 (i := 6) l6]
 refine alloc fun i2 l2 s2 e2 f2 => ?_
 have c2 := c1.sub s2
 have nm := e2
 erw [c2.keep _ _ rfl I.c2, c2.keep _ _ rfl I.c9]
 refine alloc fun i3 l3 s3 e3 f3 => ?_
 have c3 := c2.sub s3
 have F3 : led.length ≤ i3 := Nat.le_trans c2.len f3
 have nm := s3 _ _ nm
 have tx := e3
 erw [c3.keep _ _ rfl I.c3, c3.h4, tx, ← nm]
 refine a9 tx fun l4 e4 g4 n4 => ?_
 have c4 := c3.fresh F3 h56 g4 n4
 have tx := e4
 erw [c4.keep _ _ rfl I.c20, ← c4.keep _ _ rfl I.c46, tx]
 refine alloc fun i5 l5 s5 e5 f5 => ?_
 have c5 := c4.sub s5
 have F5 : led.length ≤ i5 := Nat.le_trans c4.len f5
 have sl := e5
 erw [c5.h14]
 refine alloc fun i6 l6 s6 e6 f6 => ?_
 have c6 := c5.sub s6
 have F6 : led.length ≤ i6 := Nat.le_trans c5.len f6
 have d6_i5 := dne sl f6
 have sl := s6 _ _ sl
 have tt := e6
 erw [tt]
 refine a9 tt fun l7 e7 g7 n7 => ?_
 have c7 := c6.fresh F6 h56 g7 n7
 have sl := g7 _ _ d6_i5.symm sl
 have tt := e7
 erw [tt]
 refine a9 tt fun l8 e8 g8 n8 => ?_
 have c8 := c7.fresh F6 h56 g8 n8
 have sl := g8 _ _ d6_i5.symm sl
 have tt := e8
 erw [tt]
 refine a9 tt fun l9 e9 g9 n9 => ?_
 have c9 := c8.fresh F6 h56 g9 n9
 have sl := g9 _ _ d6_i5.symm sl
 have tt := e9
 erw [tt]
 refine a9 tt fun l10 e10 g10 n10 => ?_
 have c10 := c9.fresh F6 h56 g10 n10
 have sl := g10 _ _ d6_i5.symm sl
 have tt := e10
 erw [sl]; try conv => whnf
 refine ⟨1, rfl, by decide, ?_⟩
 erw [tt]
 refine a9 tt fun l11 e11 g11 n11 => ?_
 have c11 := c10.fresh F6 h56 g11 n11
 have sl := g11 _ _ d6_i5.symm sl
 have tt := e11
 erw [tt]
 refine a9 tt fun l12 e12 g12 n12 => ?_
 have c12 := c11.fresh F6 h56 g12 n12
 have sl := g12 _ _ d6_i5.symm sl
 have tt := e12
 erw [c12.h14]
 refine a9 c12.h14 fun l13 e13 g13 n13 => ?_
 have c13 := c12.s14 e13 g13 n13
 have sl := g13 _ _ (fr F5 rfl) sl
 have tt := g13 _ _ (fr F6 rfl) tt
 erw [c13.h14, tt]
 refine a9 tt fun l14 e14 g14 n14 => ?_
 have c14 := c13.fresh F6 h56 g14 n14
 have sl := g14 _ _ d6_i5.symm sl
 have tt := e14
 erw [c14.h14, c14.h15, q2]
 refine a9 c14.h15 fun l15 e15 g15 n15 => ?_
 have c15 := c14.s15 e15 g15 n15
 have sl := g15 _ _ (fr F5 rfl) sl
 have tt := g15 _ _ (fr F6 rfl) tt
 erw [c15.h14, tt, c15.h16, dn1, q3]
 refine a9 c15.h16 fun l16 e16 g16 n16 => ?_
 have e16 : getL l16 16 = some (.dict (atL (upd D.th (W.length) i6) (W.length + 1))) := by
  rw [e16]
  show some (O.dict (u3 (atL D.th (W.length)) (.int (addr ((W.length : Nat) : Int))) (.own i6))) = some (.dict (atL (upd D.th (W.length) i6) (W.length) ++ [(_, .own (upd D.th (W.length) i6 (W.length)))]))
  rw [atL_put, z5, atL_congr (W.length) fun i hi => (y8 D.th (W.length) i6 (Nat.ne_of_lt hi)).symm]
 have c16 := c15.s16 e16 g16 n16
 have sl := g16 _ _ (fr F5 rfl) sl
 have tt := g16 _ _ (fr F6 rfl) tt
 erw [c16.h14, tt]
 refine a9 c16.h14 fun l17 e17 g17 n17 => ?_
 have c17 := c16.s14 e17 g17 n17
 have sl := g17 _ _ (fr F5 rfl) sl
 have tt := g17 _ _ (fr F6 rfl) tt
 erw [c17.h14, tt]
 refine a9 c17.h14 fun l18 e18 g18 n18 => ?_
 have e18 : getL l18 14 = some (.inst 339 (h14 (W.length + 1))) := by
  rw [e18]
  show some (O.inst 339 [(24, V.own 15), (25, V.own 16), (26, V.int (16 + 3 * ((W.length : Nat) : Int) + 3)), (27, .int 4000), (28, .own 17), (29, .int 4), (30, .int (3 * ((W.length : Nat) : Int) + 3)), (31, .int 1001), (32, .own 18), (33, .own 19), (34, .int 0), (35, .int (((W.length : Nat) : Int) + 1))]) = _
  rw [show (16 : Int) + 3 * ((W.length : Nat) : Int) + 3 = 16 + 3 * ((W.length + 1 : Nat) : Int) from ax1 _, show (3 : Int) * ((W.length : Nat) : Int) + 3 = 3 * ((W.length + 1 : Nat) : Int) from ax2 _, show ((W.length : Nat) : Int) + 1 = ((W.length + 1 : Nat) : Int) from ax3 _]
  rfl
 have c18 := c17.s14 e18 g18 n18
 have sl := g18 _ _ (fr F5 rfl) sl
 have tt := g18 _ _ (fr F6 rfl) tt
 have sl1 := sl
 have tt1 := tt
 erw [tt1, sl1]
 refine a9 sl1 fun l19 e19 g19 n19 => ?_
 have c19 := c18.fresh F5 h56 g19 n19
 have tt1 := g19 _ _ d6_i5 tt1
 have sl1 := e19
 erw [tt1]; try conv => whnf
 (repeat refine z9 (by assumption) ?_); exact h i5 i6 _ F5 F6 d6_i5 c19 tt1 sl1
theorem lcB {W : List Row} {D : Ids} {led l20 : List O} {th1 : Nat -> Nat} {i5 i6 i20 : Nat} {s6 : Sp} {r : V -> List O -> Prop} (I : Inv W D led) (S : w8 W D) (q6 : W[6]? = some ⟨17, s6⟩)
  (hth : upd D.th W.length i6 = th1) (F5 : led.length ≤ i5) (F6 : led.length ≤ i6) (d6_i5 : i6 ≠ i5)
  (c20 : Cr led l20 (.list kt4) (.dict kt5) (.list (zZ 1)) (.list (zZ 1)) (.list (zZ 0)) (.inst 339 (h14 (W.length + 1))) (.list (thL D.th W.length ++ [.own i6])) (.dict (atL th1 (W.length + 1))) (.list []) (.dict []) (.list []))
  (tt1 : getL l20 i6 = some (.inst 318 (a8 23 (.int ((W.length : Int) + 1)) (a8 23 (.int 0) (a8 22 (.int 3) (a8 21 (.int 0) (a8 20 (.own i5) (a8 19 (.int 13) (a8 18 (.int (16 + 3 * (W.length : Int))) [])))))))))
  (sl1 : getL l20 i5 = some (.list ([V.tup [.int 8, .str (zz "")]].set 0 (.tup [.int 8, .str (zz "" ++ (zz "T" ++ Str.ofString (toString (33 : Int)) ++ zz "") ++ zz "")]))))
  (a2 : getL l20 i20 = some (.list [.tup [.int 4, .int (addr ((6 : Nat) : Int))]]))
  (h : ∀ i26 i29 l, Cr led l (.list (kt4 ++ [.tup [.int 2, .int 51, .tup []]])) (.dict (u3 kt5 (.tup [.int 2, .int 51, .tup []]) (.int (kt4.length : Int)))) (.list (zZ 1 ++ [.int 1])) (.list (zZ 1 ++ [.int 1])) (.list (zZ 0 ++ [.int 0])) (.inst 339 (h14 (W.length + 1 + 1)))
    (.list (thL D.th W.length ++ [.own i6] ++ [.own i29])) (.dict (atL (upd th1 (W.length + 1) i29) (W.length + 1 + 1))) (.list []) (.dict (u3 [] (.tup [.int 17]) (.int (([] : List V).length : Int)))) (.list ([] ++ [.tup [.int 4, .int (16 + 3 * ((W.length + 1 : Nat) : Int))]])) ->
   getL l i6 = some (.inst 318 (a8 23 (.int ((W.length : Int) + 1)) (a8 23 (.int 0) (a8 22 (.int 3) (a8 21 (.int 0) (a8 20 (.own i5) (a8 19 (.int 13) (a8 18 (.int (16 + 3 * (W.length : Int))) [])))))))) ->
   getL l i5 = some (.list ([V.tup [.int 8, .str (zz "")]].set 0 (.tup [.int 8, .str (zz "" ++ (zz "T" ++ Str.ofString (toString (33 : Int)) ++ zz "") ++ zz "")]))) ->
   getL l i29 = some (.inst 318 (a8 23 (.int (((W.length + 1 : Nat) : Int) + 1)) (a8 23 (.int 0) (a8 22 (.int 3) (a8 21 (.int 0) (a8 20 (.own i26) (a8 19 (.int (kt4.length : Int)) (a8 18 (.int (16 + 3 * ((W.length + 1 : Nat) : Int))) [])))))))) ->
   getL l i26 = some (.list (([] ++ [V.tup [.int 4, .int 0]]).set 0 (.tup [.int 1, .int 17]))) ->
   r (.tup [.int 4, .int (16 + 3 * ((W.length + 1 : Nat) : Int))]) l) :
  wf G (gm C15) 113 (.call 1054 [.own 56, .int 12, .own i20] l20 r) := by
 have h56 : 56 < led.length := w9 I.c56
 have fr : ∀ {i j : Nat}, led.length ≤ i -> Nat.ble j 56 = true -> i ≠ j := fun F hj e => absurd (Nat.le_of_ble_eq_true hj) (Nat.not_le_of_lt (Nat.lt_of_lt_of_le h56 (e ▸ F)))
 have l6 := j9 q6
 have few := S.few
 have u6 : v9 (atL th1 (W.length + 1)) (.int (addr ((6 : Nat) : Int))) = some (some (.own (D.th 6))) := by rw [k9 (Nat.lt_succ_of_lt l6), ← hth, y8 _ _ _ (Nat.ne_of_lt l6)]
 erw [c20.keep _ _ rfl I.c56, c20.keep _ _ rfl I.c20, c20.keep _ _ rfl I.c33, c20.keep _ _ rfl I.c3, c20.h4, c20.h14, c20.h16, c20.keep _ _ (mvo_far (I.far _ _ q6).1) (I.cth _ _ q6), ← c20.keep _ _ rfl I.c49, a2, u6, c20.h39, c20.h5]; try conv => whnf
 erw [c20.h4]
 refine a9 c20.h4 fun l21 e21 g21 n21 => ?_
 have c21 := c20.s4 e21 g21 n21
 have sl1 := g21 _ _ (fr F5 rfl) sl1
 have tt1 := g21 _ _ (fr F6 rfl) tt1
 erw [c21.h5, c21.keep _ _ rfl I.c3]
 refine a9 c21.h5 fun l22 e22 g22 n22 => ?_
 have c22 := c21.s5 e22 g22 n22
 have sl1 := g22 _ _ (fr F5 rfl) sl1
 have tt1 := g22 _ _ (fr F6 rfl) tt1
 erw [c22.h6, c22.keep _ _ rfl I.c3]
 refine a9 c22.h6 fun l23 e23 g23 n23 => ?_
 have c23 := c22.s6 e23 g23 n23
 have sl1 := g23 _ _ (fr F5 rfl) sl1
 have tt1 := g23 _ _ (fr F6 rfl) tt1
 erw [c23.h7, c23.keep _ _ rfl I.c3]
 refine a9 c23.h7 fun l24 e24 g24 n24 => ?_
 have c24 := c23.s7 e24 g24 n24
 have sl1 := g24 _ _ (fr F5 rfl) sl1
 have tt1 := g24 _ _ (fr F6 rfl) tt1
 erw [c24.h8, c24.keep _ _ rfl I.c3]
 refine a9 c24.h8 fun l25 e25 g25 n25 => ?_
 have c25 := c24.s8 e25 g25 n25
 have sl1 := g25 _ _ (fr F5 rfl) sl1
 have tt1 := g25 _ _ (fr F6 rfl) tt1
 erw [c25.keep _ _ rfl I.c20, c25.keep _ _ rfl I.c3, c25.h4, ← c25.keep _ _ rfl I.c46]
 refine alloc fun i26 l26 s26 e26 f26 => ?_
 have c26 := c25.sub s26
 have F26 : led.length ≤ i26 := Nat.le_trans c25.len f26
 have d26_i5 := dne sl1 f26
 have d26_i6 := dne tt1 f26
 have sl1 := s26 _ _ sl1
 have tt1 := s26 _ _ tt1
 have ou := e26
 erw [c26.keep _ _ rfl I.c20, c26.keep _ _ rfl I.c22]
 refine alloc fun i27 l27 s27 e27 f27 => ?_
 have c27 := c26.sub s27
 have sl1 := s27 _ _ sl1
 have tt1 := s27 _ _ tt1
 have ou := s27 _ _ ou
 erw [ou]
 refine a9 ou fun l28 e28 g28 n28 => ?_
 have c28 := c27.fresh F26 h56 g28 n28
 have sl1 := g28 _ _ d26_i5.symm sl1
 have tt1 := g28 _ _ d26_i6.symm tt1
 have ou := e28
 erw [ou, c28.h14]; try conv => whnf
 have q2' : Nat.ble (thL D.th W.length ++ [V.own i6]).length 100000 = true := Nat.ble_eq.mpr (by rw [List.length_append, thL_len]; exact Nat.le_of_ble_eq_true (bl1 S.few))
 have q3' : Nat.ble (atL th1 (W.length + 1)).length 100000 = true := Nat.ble_eq.mpr (by rw [atL_len]; exact Nat.le_of_ble_eq_true (bl1 S.few))
 have dn2 : v9 (atL th1 (W.length + 1)) (.int (16 + 3 * ((W.length + 1 : Nat) : Int))) = some none := dlook_no fun j hj e => no_addr hj e
 have q2 := q2'
 have q3 := q3'
 erw []
 refine alloc fun i29 l29 s29 e29 f29 => ?_
 have c29 := c28.sub s29
 have F29 : led.length ≤ i29 := Nat.le_trans c28.len f29
 have d29_i5 := dne sl1 f29
 have d29_i6 := dne tt1 f29
 have d29_i26 := dne ou f29
 have sl1 := s29 _ _ sl1
 have tt1 := s29 _ _ tt1
 have ou := s29 _ _ ou
 have tt := e29
 erw [tt]
 refine a9 tt fun l30 e30 g30 n30 => ?_
 have c30 := c29.fresh F29 h56 g30 n30
 have sl1 := g30 _ _ d29_i5.symm sl1
 have tt1 := g30 _ _ d29_i6.symm tt1
 have ou := g30 _ _ d29_i26.symm ou
 have tt := e30
 erw [tt]
 refine a9 tt fun l31 e31 g31 n31 => ?_
 have c31 := c30.fresh F29 h56 g31 n31
 have sl1 := g31 _ _ d29_i5.symm sl1
 have tt1 := g31 _ _ d29_i6.symm tt1
 have ou := g31 _ _ d29_i26.symm ou
 have tt := e31
 erw [tt]
 refine a9 tt fun l32 e32 g32 n32 => ?_
 have c32 := c31.fresh F29 h56 g32 n32
 have sl1 := g32 _ _ d29_i5.symm sl1
 have tt1 := g32 _ _ d29_i6.symm tt1
 have ou := g32 _ _ d29_i26.symm ou
 have tt := e32
 erw [tt]
 refine a9 tt fun l33 e33 g33 n33 => ?_
 have c33 := c32.fresh F29 h56 g33 n33
 have sl1 := g33 _ _ d29_i5.symm sl1
 have tt1 := g33 _ _ d29_i6.symm tt1
 have ou := g33 _ _ d29_i26.symm ou
 have tt := e33
 erw [ou]; try conv => whnf
 refine ⟨1, rfl, by decide, ?_⟩
 erw [tt]
 refine a9 tt fun l34 e34 g34 n34 => ?_
 have c34 := c33.fresh F29 h56 g34 n34
 have sl1 := g34 _ _ d29_i5.symm sl1
 have tt1 := g34 _ _ d29_i6.symm tt1
 have ou := g34 _ _ d29_i26.symm ou
 have tt := e34
 erw [tt]
 refine a9 tt fun l35 e35 g35 n35 => ?_
 have c35 := c34.fresh F29 h56 g35 n35
 have sl1 := g35 _ _ d29_i5.symm sl1
 have tt1 := g35 _ _ d29_i6.symm tt1
 have ou := g35 _ _ d29_i26.symm ou
 have tt := e35
 erw [c35.h14]
 refine a9 c35.h14 fun l36 e36 g36 n36 => ?_
 have c36 := c35.s14 e36 g36 n36
 have sl1 := g36 _ _ (fr F5 rfl) sl1
 have tt1 := g36 _ _ (fr F6 rfl) tt1
 have ou := g36 _ _ (fr F26 rfl) ou
 have tt := g36 _ _ (fr F29 rfl) tt
 erw [c36.h14, tt]
 refine a9 tt fun l37 e37 g37 n37 => ?_
 have c37 := c36.fresh F29 h56 g37 n37
 have sl1 := g37 _ _ d29_i5.symm sl1
 have tt1 := g37 _ _ d29_i6.symm tt1
 have ou := g37 _ _ d29_i26.symm ou
 have tt := e37
 erw [c37.h14, c37.h15, q2]
 refine a9 c37.h15 fun l38 e38 g38 n38 => ?_
 have c38 := c37.s15 e38 g38 n38
 have sl1 := g38 _ _ (fr F5 rfl) sl1
 have tt1 := g38 _ _ (fr F6 rfl) tt1
 have ou := g38 _ _ (fr F26 rfl) ou
 have tt := g38 _ _ (fr F29 rfl) tt
 erw [c38.h14, tt, c38.h16, dn2, q3]
 refine a9 c38.h16 fun l39 e39 g39 n39 => ?_
 have e39 : getL l39 16 = some (.dict (atL (upd th1 (W.length + 1) i29) (W.length + 1 + 1))) := by
  rw [e39]
  show some (O.dict (u3 (atL th1 (W.length + 1)) (.int (addr ((W.length + 1 : Nat) : Int))) (.own i29))) = some (.dict (atL (upd th1 (W.length + 1) i29) (W.length + 1) ++ [(_, .own (upd th1 (W.length + 1) i29 (W.length + 1)))]))
  rw [atL_put, z5, atL_congr (W.length + 1) fun i hi => (y8 th1 (W.length + 1) i29 (Nat.ne_of_lt hi)).symm]
 have c39 := c38.s16 e39 g39 n39
 have sl1 := g39 _ _ (fr F5 rfl) sl1
 have tt1 := g39 _ _ (fr F6 rfl) tt1
 have ou := g39 _ _ (fr F26 rfl) ou
 have tt := g39 _ _ (fr F29 rfl) tt
 erw [c39.h14, tt]
 refine a9 c39.h14 fun l40 e40 g40 n40 => ?_
 have c40 := c39.s14 e40 g40 n40
 have sl1 := g40 _ _ (fr F5 rfl) sl1
 have tt1 := g40 _ _ (fr F6 rfl) tt1
 have ou := g40 _ _ (fr F26 rfl) ou
 have tt := g40 _ _ (fr F29 rfl) tt
 erw [c40.h14, tt]
 refine a9 c40.h14 fun l41 e41 g41 n41 => ?_
 have e41 : getL l41 14 = some (.inst 339 (h14 (W.length + 1 + 1))) := by
  rw [e41]
  show some (O.inst 339 [(24, V.own 15), (25, V.own 16), (26, V.int (16 + 3 * ((W.length + 1 : Nat) : Int) + 3)), (27, .int 4000), (28, .own 17), (29, .int 4), (30, .int (3 * ((W.length + 1 : Nat) : Int) + 3)), (31, .int 1001), (32, .own 18), (33, .own 19), (34, .int 0), (35, .int (((W.length + 1 : Nat) : Int) + 1))]) = _
  rw [show (16 : Int) + 3 * ((W.length + 1 : Nat) : Int) + 3 = 16 + 3 * ((W.length + 1 + 1 : Nat) : Int) from ax1 _, show (3 : Int) * ((W.length + 1 : Nat) : Int) + 3 = 3 * ((W.length + 1 + 1 : Nat) : Int) from ax2 _, show ((W.length + 1 : Nat) : Int) + 1 = ((W.length + 1 + 1 : Nat) : Int) from ax3 _]
  rfl
 have c41 := c40.s14 e41 g41 n41
 have sl1 := g41 _ _ (fr F5 rfl) sl1
 have tt1 := g41 _ _ (fr F6 rfl) tt1
 have ou := g41 _ _ (fr F26 rfl) ou
 have tt := g41 _ _ (fr F29 rfl) tt
 erw [tt, ou]
 refine a9 ou fun l42 e42 g42 n42 => ?_
 have c42 := c41.fresh F26 h56 g42 n42
 have sl1 := g42 _ _ d26_i5.symm sl1
 have tt1 := g42 _ _ d26_i6.symm tt1
 have tt := g42 _ _ d29_i26 tt
 have ou := e42
 erw [c42.h39, c42.h40, c42.keep _ _ rfl I.c20]
 refine a9 c42.h39 fun l43 e43 g43 n43 => ?_
 have c43 := c42.s39 e43 g43 n43
 have sl1 := g43 _ _ (fr F5 rfl) sl1
 have tt1 := g43 _ _ (fr F6 rfl) tt1
 have ou := g43 _ _ (fr F26 rfl) ou
 have tt := g43 _ _ (fr F29 rfl) tt
 erw [tt, c43.h40, c43.keep _ _ rfl I.c20]
 refine a9 c43.h40 fun l44 e44 g44 n44 => ?_
 have c44 := c43.s40 e44 g44 n44
 have sl1 := g44 _ _ (fr F5 rfl) sl1
 have tt1 := g44 _ _ (fr F6 rfl) tt1
 have ou := g44 _ _ (fr F26 rfl) ou
 have tt := g44 _ _ (fr F29 rfl) tt
 have tt2 := tt
 have ou2 := ou
 erw [tt2]; try conv => whnf
 (repeat refine z9 (by assumption) ?_); exact h i26 i29 _ c44 tt1 sl1 tt2 ou2
theorem ok1129 (args : List V) (led : List O) (r : V -> List O -> Prop) (h : S1129 args led r) : wf G (gm C15) 120 (.call 1129 args led r) := by
 obtain ⟨W, D, s6, s7, I, S, q6, q7, rfl, h⟩ := h
 have h56 : 56 < led.length := w9 I.c56
 have fr : ∀ {i j : Nat}, led.length ≤ i -> Nat.ble j 56 = true -> i ≠ j := fun F hj e => absurd (Nat.le_of_ble_eq_true hj) (Nat.not_le_of_lt (Nat.lt_of_lt_of_le h56 (e ▸ F)))
 have l6 := j9 q6
 have l7 := j9 q7
 have c0 : Cr led led (.list kt4) (.dict kt5) (.list (zZ 1)) (.list (zZ 1)) (.list (zZ 0)) (.inst 339 (h14 W.length)) (.list (thL D.th W.length)) (.dict (atL D.th W.length)) (.list []) (.dict []) (.list []) := ⟨fun _ _ _ e => e, Nat.le_refl _, I.c4, I.c5, I.c6, I.c7, I.c8, I.c14, I.c15, I.c16, I.c35, I.c39, I.c40⟩
 have few := S.few
 have x6 : idx (r9 D.cp 0 W) 6 = some (rowV 6 ⟨17, s6⟩ (D.cp 6)) := p0 S q6
 have x7 : idx (r9 D.cp 0 W) 7 = some (rowV 7 ⟨17, s7⟩ (D.cp 7)) := p0 S q7
 have y6 : decide ((6 : Int) < ((r9 D.cp 0 W).length : Int)) = true := rows_lt (i := 6) l6
 have y7 : decide ((7 : Int) < ((r9 D.cp 0 W).length : Int)) = true := rows_lt (i := 7) l7
 have q2 : Nat.ble (thL D.th W.length).length 100000 = true := Nat.ble_eq.mpr (by rw [thL_len]; exact Nat.le_of_ble_eq_true (bl0 S.few))
 have q3 : Nat.ble (atL D.th W.length).length 100000 = true := Nat.ble_eq.mpr (by rw [atL_len]; exact Nat.le_of_ble_eq_true (bl0 S.few))
 have dn1 : v9 (atL D.th W.length) (.int (16 + 3 * (W.length : Int))) = some none := dlook_no fun j hj e => no_addr hj e
 erw [c0.keep _ _ rfl I.c56, c0.keep _ _ rfl I.c52, j7 S, y6, x6]
 refine alloc fun i1 l1 s1 e1 f1 => ?_
 have c1 := c0.sub s1
 have a1 := e1
 show wf G (gm C15) 114 (.call 1054 [.own 56, .int 10, .own i1] l1 _)
 refine lcA I S q6 c1 a1 fun i5 i6 l19 F5 F6 d6_i5 c19 tt1 sl1 => ?_
 generalize hth : upd D.th W.length i6 = th1 at *
 have u6 : v9 (atL th1 (W.length + 1)) (.int (addr ((6 : Nat) : Int))) = some (some (.own (D.th 6))) := by rw [k9 (Nat.lt_succ_of_lt l6), ← hth, y8 _ _ _ (Nat.ne_of_lt l6)]
 erw [tt1]
 refine alloc fun i20 l20 s20 e20 f20 => ?_
 have c20 := c19.sub s20
 have sl1 := s20 _ _ sl1
 have tt1 := s20 _ _ tt1
 have a2 := e20
 show wf G (gm C15) 113 (.call 1054 [.own 56, .int 12, .own i20] l20 _)
 refine lcB I S q6 hth F5 F6 d6_i5 c20 tt1 sl1 a2 fun i26 i29 l44 c44 tt1 sl1 tt2 ou2 => ?_
 generalize hth2 : upd th1 (W.length + 1) i29 = th2 at *
 have v6 : v9 (atL th2 (W.length + 1 + 1)) (.int (addr ((6 : Nat) : Int))) = some (some (.own (D.th 6))) := by rw [k9 (Nat.lt_succ_of_lt (Nat.lt_succ_of_lt l6)), ← hth2, y8 _ _ _ (Nat.ne_of_lt (Nat.lt_succ_of_lt l6)), ← hth, y8 _ _ _ (Nat.ne_of_lt l6)]
 have v7 : v9 (atL th2 (W.length + 1 + 1)) (.int (addr ((7 : Nat) : Int))) = some (some (.own (D.th 7))) := by rw [k9 (Nat.lt_succ_of_lt (Nat.lt_succ_of_lt l7)), ← hth2, y8 _ _ _ (Nat.ne_of_lt (Nat.lt_succ_of_lt l7)), ← hth, y8 _ _ _ (Nat.ne_of_lt l7)]
 have vt : v9 (atL th2 (W.length + 1 + 1)) (.int (16 + 3 * (W.length : Int))) = some (some (.own i6)) := by rw [show (16 : Int) + 3 * (W.length : Int) = addr ((W.length : Nat) : Int) from rfl, k9 (Nat.lt_succ_of_lt (Nat.lt_succ_self _)), ← hth2, y8 _ _ _ (Nat.ne_of_lt (Nat.lt_succ_self _)), ← hth, z5]
 have vu : v9 (atL th2 (W.length + 1 + 1)) (.int (16 + 3 * ((W.length + 1 : Nat) : Int))) = some (some (.own i29)) := by rw [show (16 : Int) + 3 * ((W.length + 1 : Nat) : Int) = addr ((W.length + 1 : Nat) : Int) from rfl, k9 (Nat.lt_succ_self _), ← hth2, z5]
 erw [tt2, c44.keep _ _ rfl I.c56, c44.keep _ _ rfl I.c20, c44.h14, c44.h16, tt1, sl1, vt, vu]
 refine alloc fun i45 l45 s45 e45 f45 => ?_
 have c45 := c44.sub s45
 have ou2 := s45 _ _ ou2
 have cm := e45
 erw [← cm, ← ou2, c45.keep _ _ rfl I.c56, c45.keep _ _ rfl I.c52, j7 S, y7, x7]
 refine alloc fun i46 l46 s46 e46 f46 => ?_
 have c46 := c45.sub s46
 have a3 := e46
 have de : decide ((16 : Int) + 3 * ((W.length + 1 : Nat) : Int) = 16 + 3 * ((W.length + 1 : Nat) : Int)) = true := decide_eq_true rfl
 erw [a3, v7, c46.h39, c46.h40, de, c46.keep _ _ rfl I.c56, c46.keep _ _ rfl I.c20, c46.keep _ _ rfl I.c33, c46.h14, c46.h16, c46.keep _ _ (mvo_far (I.far _ _ q7).1) (I.cth _ _ q7), ← c46.keep _ _ rfl I.c49]
 refine alloc fun i47 l47 s47 e47 f47 => ?_
 have c47 := c46.sub s47
 have a4 := e47
 erw [a4, v6, c47.keep _ _ rfl I.c56, c47.keep _ _ rfl I.c20, c47.keep _ _ rfl I.c33, c47.h14, c47.h16, c47.keep _ _ (mvo_far (I.far _ _ q6).1) (I.cth _ _ q6), ← c47.keep _ _ rfl I.c48]; try conv => whnf
 intro y hy
 have hy : decide (y = 7) = true := decide_eq_true (by rw [hy]; decide)
 erw [hy]
 refine alloc fun i48 l48 s48 e48 f48 => ?_
 have c48 := c47.sub s48
 have b0 := e48
 erw [b0, k4, c48.h35, c48.keep _ _ rfl I.c56, c48.keep _ _ rfl I.c20, c48.keep _ _ rfl I.c33, c48.h14, c48.h16, ← c48.keep _ _ rfl I.c47]
 refine a9 c48.h35 fun l49 e49 g49 n49 => ?_
 have c49 := c48.s35 e49 g49 n49
 erw [c49.keep _ _ rfl I.c56, c49.keep _ _ rfl I.c20]
 refine alloc fun i50 l50 s50 e50 f50 => ?_
 have c50 := c49.sub s50
 have z0 := e50
 erw [c50.h35, ← z0, c50.keep _ _ rfl I.c56, c50.keep _ _ rfl I.c20]
 refine a9 c50.h35 fun l51 e51 g51 n51 => ?_
 have c51 := c50.s35 e51 g51 n51
 erw []
 refine alloc fun i52 l52 s52 e52 f52 => ?_
 have c52 := c51.sub s52
 have b1 := e52
 erw [b1, k4, c52.h35, c52.keep _ _ rfl I.c56, c52.keep _ _ rfl I.c20, c52.keep _ _ rfl I.c33, c52.h14, c52.h16, ← c52.keep _ _ rfl I.c49]
 refine a9 c52.h35 fun l53 e53 g53 n53 => ?_
 have c53 := c52.s35 e53 g53 n53
 erw [c53.keep _ _ rfl I.c56, c53.keep _ _ rfl I.c20]
 refine alloc fun i54 l54 s54 e54 f54 => ?_
 have c54 := c53.sub s54
 have z1 := e54
 erw [c54.h35, ← z1, c54.keep _ _ rfl I.c56, c54.keep _ _ rfl I.c20]
 refine a9 c54.h35 fun l55 e55 g55 n55 => ?_
 have c55 := c54.s35 e55 g55 n55
 erw []
 refine alloc fun i56 l56 s56 e56 f56 => ?_
 have c56 := c55.sub s56
 have b2 := e56
 erw [b2, k4, c56.h35, c56.keep _ _ rfl I.c56, c56.keep _ _ rfl I.c20, c56.keep _ _ rfl I.c33, c56.h14, c56.h16, ← c56.keep _ _ rfl I.c48]
 refine a9 c56.h35 fun l57 e57 g57 n57 => ?_
 have c57 := c56.s35 e57 g57 n57
 erw [c57.keep _ _ rfl I.c56, c57.keep _ _ rfl I.c20]
 refine alloc fun i58 l58 s58 e58 f58 => ?_
 have c58 := c57.sub s58
 have z2 := e58
 erw [c58.h35, ← z2, c58.keep _ _ rfl I.c56, c58.keep _ _ rfl I.c20]
 refine a9 c58.h35 fun l59 e59 g59 n59 => ?_
 have c59 := c58.s35 e59 g59 n59
 erw []
 refine alloc fun i60 l60 s60 e60 f60 => ?_
 have c60 := c59.sub s60
 have b3 := e60
 erw [b3, k4, c60.h35, c60.keep _ _ rfl I.c56, c60.keep _ _ rfl I.c20, c60.keep _ _ rfl I.c33, c60.h14, c60.h16, ← c60.keep _ _ rfl I.c51]
 refine a9 c60.h35 fun l61 e61 g61 n61 => ?_
 have c61 := c60.s35 e61 g61 n61
 erw [c61.keep _ _ rfl I.c56, c61.keep _ _ rfl I.c20]
 refine alloc fun i62 l62 s62 e62 f62 => ?_
 have c62 := c61.sub s62
 have z3 := e62
 erw [c62.h35, ← z3, c62.keep _ _ rfl I.c56, c62.keep _ _ rfl I.c20]
 refine a9 c62.h35 fun l63 e63 g63 n63 => ?_
 have c63 := c62.s35 e63 g63 n63
 erw []; try conv => whnf
 (repeat refine z9 (by assumption) ?_); exact h _ {
  c20 := c63.keep _ _ rfl I.c20
  c56 := c63.keep _ _ rfl I.c56
  c14 := ⟨_, _, _, c63.h14⟩
  c16 := ⟨_, c63.h16, fun i hi => by rw [k9 (Nat.lt_succ_of_lt (Nat.lt_succ_of_lt hi)), ← hth2, y8 _ _ _ (Nat.ne_of_lt (Nat.lt_succ_of_lt hi)), ← hth, y8 _ _ _ (Nat.ne_of_lt hi)]⟩
  c34 := c63.keep _ _ rfl I.c34
  c35 := c63.h35
  c52 := c63.keep _ _ rfl I.c52
  cth := fun i r e => c63.keep _ _ (mvo_far (I.far i r e).1) (I.cth i r e)
  csl := fun i r e => c63.keep _ _ (mvo_far (I.far i r e).2.1) (I.csl i r e)
  ccp := fun i r e => c63.keep _ _ (mvo_far (I.far i r e).2.2) (I.ccp i r e) }
noncomputable def C16 : Ctx := [(1122, (100, S1122)), (1075, (100, S1075)), (1082, (80, S1082)), (1115, (124, S1115)), (1129, (120, S1129))]
noncomputable def LED (o0 o1 : O) : List O := [o0, o1,
 .inst 261 [(11, .own 3), (12, .own 9), (13, .own 10), (14, .own 11), (15, .own 12), (16, .own 13), (17, .int 0)],
 .inst 87 [(3, .own 4), (4, .own 5), (5, .own 6), (6, .own 7), (7, .own 8)],
 .list kt4, .dict kt5, .list (zZ 1), .list (zZ 1), .list (zZ 0), .list [.none], .list [.none], .list [.none], .dict [], .list [],
 .inst 339 (h14 0), .list [], .dict [], .dict [], .list [], .list [], .inst 669 m20, .dict [], .dict [], .dict [], .dict [], .dict [], .dict [], .list [],
 .dict [], .dict [], .dict [], .dict [], .dict [], .dict nat33, .list [], .list [], .list [], .list [], .list [], .dict [], .list [], .list [], .list [],
 .inst 367 [(36, .own 14), (37, .own 28), (38, .own 29)], .inst 424 [], .inst 473 [], .inst 445 [], .inst 917 [], .inst 936 [], .inst 955 [], .inst 974 [], .inst 993 [],
 .list [], .list [], .dict [], .list [], .dict w56]
noncomputable abbrev LL (s : V) (a b c d e f g h i : Option V) : List (Option V) := [some s, some (.own 1), some (.own 2), some (.own 20), some (.own 56), a, b, c, d, e, f, g]
theorem setup (s : V) (o0 o1 : O) (kk : St -> Prop) (r : V -> List O -> Prop) : wf G (gm C16) 146 (.b (b1134.drop 1) ⟨[some s, some (.own 1), none, none, none, none, none, none, none, none, none, none], [o0, o1]⟩ kk r) =
  wf G (gm C16) 142 (.b (b1134.drop 5) ⟨[some s, some (.own 1), some (.own 2), some (.own 20), some (.own 56), none, none, none, none, none, none, none], LED o0 o1⟩ kk r) := by
 rw [wf_eq, wf_eq]; kernel_rfl
noncomputable def D0 (nums : List V) : Ids := ⟨fun _ => 0, fun _ => 0, fun _ => 0, fun _ => 0, [], nums⟩
theorem inv0 (o0 : O) (nums : List V) : Inv [] (D0 nums) (LED o0 (.list nums)) where
 c1 := rfl
 c2 := rfl
 c3 := rfl
 c4 := rfl
 c5 := rfl
 c6 := rfl
 c7 := rfl
 c8 := rfl
 c9 := rfl
 c20 := rfl
 c22 := rfl
 c33 := rfl
 c34 := rfl
 c39 := rfl
 c40 := rfl
 c46 := rfl
 c47 := rfl
 c48 := rfl
 c49 := rfl
 c50 := rfl
 c51 := rfl
 c56 := rfl
 c14 := rfl
 c15 := rfl
 c16 := rfl
 c35 := rfl
 c52 := rfl
 c53 := rfl
 c54 := rfl
 c55 := rfl
 cth i r h := by simp at h
 csl i r h := by simp at h
 ccp i r h := by simp at h
 far i r h := by simp at h
theorem sane0 (nums : List V) : w8 [] (D0 nums) where
 wf i r h := by simp at h
 few := by decide
 nd := List.nodup_nil
 kl := Nat.le_refl _
 kok k h := by cases h
 rk i r h := by simp at h
noncomputable def mo (x : Int) : V := .int (x.fmod 1000003)
theorem kget {W : List Row} {ks : List Int} (h : W.map (·.k) = ks) {i : Nat} {k : Int} (e : ks[i]? = some k) : ∃ sp, W[i]? = some ⟨k, sp⟩ := by
 rw [← h, List.getElem?_map] at e
 cases hq : W[i]? with
 | none => rw [hq] at e; cases e
 | some q =>
  rw [hq] at e
  obtain ⟨k', sp⟩ := q
  have : k' = k := Option.some.inj e
  exact ⟨sp, by rw [this]⟩
noncomputable def bxk (k : Int) : Bool := decide (1 ≤ k) && decide (k ≤ 11) || decide (k = 16) || decide (k = 17) || decide (k = 18)
theorem box_k {i : Nat} {k : Int} {sp : Sp} (w : Wf i ⟨k, sp⟩) (h : bxk k = true) : b9 sp = true := by
 cases sp with
 | txt s => have : k = 13 := w.1; subst this; cases h
 | obj => have : k = 19 := w; subst this; cases h
 | _ => rfl
theorem kbox {W : List Row} {D : Ids} (S : w8 W D) {ks : List Int} (h : W.map (·.k) = ks) (i : Nat) (e : (ks[i]?).all bxk = true) : ∀ q, W[i]? = some q -> b9 q.sp = true := by
 intro q hq
 have : ks[i]? = some q.k := by rw [← h, List.getElem?_map, hq]; rfl
 rw [this] at e
 exact box_k (k := q.k) (S.wf _ _ hq) e
theorem kmark {W : List Row} {D : Ids} (S : w8 W D) {ks : List Int} (h : W.map (·.k) = ks) (i : Nat) {k : Int} (e : ks[i]? = some k) (b : bxk k = true) : ∃ q, W[i]? = some q ∧ b9 q.sp = true := by
 obtain ⟨sp, hq⟩ := kget h e
 exact ⟨_, hq, box_k (S.wf _ _ hq) b⟩
theorem comp_loop (n : Nat) (loc : List (Option V)) (all : List V) (K : St -> Prop) : ∀ (ys done : List Int), done.length + ys.length ≤ 20 -> K ⟨loc, [.list all, .list ((done ++ ys).map mo)]⟩ ->
  forL (fun x st' kk => wf G (gm C16) 144 (.e (.bin .mod (.loc 0) (.con (.int 1000003))) ⟨some x :: g0 loc [], st'.led⟩ fun u st'' => rq st''.led 1 fun z => match z with
   | some (.list ys) => gd (Nat.ble ys.length 100000) (v5 st''.led 1 (.list (ys ++ [u])) fun l => still (.own 0) all l (kk ⟨loc, l⟩))
   | _ => False)) (ys.map .int) ⟨loc, [.list all, .list (done.map mo)]⟩ K
 | [], done, _, h => by rw [List.append_nil] at h; exact h
 | y :: ys, done, hl, h => by
  have b : Nat.ble (done.map mo).length 100000 = true := Nat.ble_eq.mpr (by rw [List.length_map]; exact Nat.le_trans (Nat.le_of_add_right_le hl) (by decide))
  have ih := comp_loop n loc all K ys (done ++ [y]) (by rw [List.length_append, Nat.add_assoc, Nat.add_comm [y].length]; exact hl) (by rw [List.append_assoc]; exact h)
  rw [List.map_append] at ih
  refine rq_ok (o := .list (done.map mo)) rfl ?_
  refine gd_ok b ?_
  exact ⟨rfl, ih⟩
theorem law_first (xs : List Int) (hx : xs.length ≤ 1000) (r : V -> List O -> Prop)
  (key : ∀ loc led, loc = [some (.lst (xs.map .int)), some (.own 1), none, none, none, none, none, none, none, none, none, none] -> led = [.list ((xs.map V.int).take 20), .list ((xs.take 20).map mo)] -> (wf G (gm C16) 146 (.b (b1134.drop 1) ⟨loc, led⟩ (fun st => r .none st.led) r)) = True) : wf G (gm C16) 148 (.call 1134 [.lst (xs.map .int)] [] r) := by
 have b1 : Nat.ble (List.map V.int xs).length 1000 = true := Nat.ble_eq.mpr (by rw [List.length_map]; exact hx)
 have b2 : Nat.ble (List.take 20 (List.map V.int xs)).length 1000 = true := Nat.ble_eq.mpr (by rw [List.length_take, List.length_map]; exact Nat.le_trans (Nat.min_le_left _ _) (by decide))
 have tk : List.take 20 (List.map V.int xs) = (xs.take 20).map V.int := by rw [List.map_take]
 erw [b1]; try conv => whnf
 refine rq_ok rfl ?_
 refine gd_ok b2 ?_
 (try dsimp only)
 have cl := comp_loop 0 (hZ [V.lst (List.map V.int xs)] 12) (List.take 20 (List.map V.int xs)) (fun st' => v5 st'.loc 1 (some (.own 1)) fun l => wf G (gm C16) 146 (.b (b1134.drop 1) ⟨l, st'.led⟩ (fun st => r .none st.led) r)) (xs.take 20) [] (by rw [List.length_take, List.length_nil, Nat.zero_add]; exact Nat.min_le_left _ _) (by
  rw [k8]
  dsimp only
  rw [key ((hZ [V.lst (List.map V.int xs)] 12).set 1 (some (.own 1))) [O.list (List.take 20 (List.map V.int xs)), O.list (List.map mo ([] ++ List.take 20 xs))] rfl rfl]
  trivial)
 rw [← tk] at cl
 exact cl
theorem boxes_pos : ∀ (W : List Row) (s i : Nat) (q : Row), W[i]? = some q -> b9 q.sp = true -> 0 < (x9 s W).length
 | [], _, _, _, h, _ => by simp at h
 | a :: t, s, 0, q, h, b => by
  obtain rfl : a = q := by simpa using h
  show 0 < (if b9 a.sp then (.int s : V) :: x9 (s + 1) t else x9 (s + 1) t).length
  rw [b]; exact Nat.succ_pos _
 | a :: t, s, i + 1, q, h, b => by
  have := boxes_pos t (s + 1) i q (by simpa using h) b
  show 0 < (if b9 a.sp then (.int s : V) :: x9 (s + 1) t else x9 (s + 1) t).length
  split
  ·exact Nat.succ_pos _
  ·(repeat refine z9 (by assumption) ?_); exact this
theorem kap {W : List Row} {q : Row} {T : List Int} (h : W.map (·.k) = kinds16 ++ T) : (W ++ [q]).map (·.k) = kinds16 ++ (T ++ [q.k]) := by rw [List.map_append, h, List.append_assoc]; rfl
noncomputable abbrev lc (s : V) (a b c d e f g : Option V) : List (Option V) := [some s, some (.own 1), some (.own 2), some (.own 20), some (.own 56), a, b, c, d, e, f, g]
theorem nums_loop (s : V) (a b d e f g : Option V) (nums : List V) (r : V -> List O -> Prop) (K : St -> Prop)
  (hK : ∀ (c : Option V) (W : List Row) (D : Ids) (led : List O) (T : List Int), Inv W D led -> w8 W D -> W.map (·.k) = kinds16 ++ T -> K ⟨lc s a b c d e f g, led⟩) :
  ∀ (ys : List V) (c : Option V) (W : List Row) (D : Ids) (led : List O) (T : List Int), Inv W D led -> w8 W D -> W.map (·.k) = kinds16 ++ T -> D.nums = nums -> W.length + ys.length ≤ 36 -> (∀ v ∈ ys, ∃ x : Int, v = .int x ∧ 0 ≤ x ∧ x < 1000003) ->
  forL (fun x st kk => v5 st.loc 7 (some x) fun l => wf G (gm C16) 137 (.b [(.cond (.not (.call 1115 [(.loc 4), (.loc 7)])) [(.ret (.con (.bool false)))] [])] ⟨l, st.led⟩ (fun st => still (.own 1) nums st.led (kk st)) r)) ys ⟨lc s a b c d e f g, led⟩ K
 | [], c, W, D, led, T, I, S, hk, _, _, _ => hK c W D led T I S hk
 | v :: ys, c, W, D, led, T, I, S, hk, hn, hl, hv => by
  obtain ⟨x, rfl, x0, x1⟩ := hv v (.head _)
  obtain ⟨q, q1, q2⟩ := kmark S hk 2 (k := 7) rfl rfl
  erw []; try conv => whnf
  refine ⟨W, D, x, I, S, Nat.lt_of_lt_of_le (Nat.lt_add_of_pos_right (Nat.succ_pos _)) hl, boxes_pos W 0 2 q q1 q2, rfl, x0, x1, fun q D' led' I' S' hn' => ?_⟩
  erw []; try conv => whnf
  refine ⟨by rw [← hn, ← hn']; exact I'.c1, ?_⟩
  exact nums_loop s a b d e f g nums r K hK ys _ (W ++ [q]) D' led' _ I' S' (kap hk) (hn'.trans hn) (by rw [List.length_append, Nat.add_assoc, Nat.add_comm [q].length]; exact hl) fun v m => hv v (.tail _ m)
theorem veq_slots (sp : Sp) : veq (.lst (j5 sp)) (.lst (j5 sp)) = some true ∧ Nat.ble (qZ (.lst (j5 sp))) 50 = true := by
 cases sp <;> simp [j5, valV, jQ, veq, fZ, qZ, w1]
theorem rows_loop (s : V) (a b c : Option V) {W : List Row} {D : Ids} {led : List O} (F : Fin W D led) (r : V -> List O -> Prop) (K : St -> Prop) (hK : ∀ d e f g, K ⟨lc s a b c d e f g, led⟩) :
  ∀ (T : List Row) (i : Nat) (d e f g : Option V), W.drop i = T ->
  forL (fun x st kk => match x with
   | .tup us => bindT [8, 9, 10, 11] us st.loc fun l => wf G (gm C16) 135 (.b [(.cond (.or [(.cmp .ne (.attr (.sub (.attr (.attr (.loc 3) 36) 25) (.loc 8)) 20) (.loc 11)), (.cmp .ne (.attr (.sub (.attr (.attr (.loc 3) 36) 25) (.loc 8)) 19) (.loc 9))]) [(.ret (.con (.bool false)))] [])] ⟨l, st.led⟩ (fun st => still (.own 52) (r9 D.cp 0 W) st.led (kk st)) r)
   | _ => False) (r9 D.cp i T) ⟨lc s a b c d e f g, led⟩ K
 | [], i, d, e, f, g, _ => hK d e f g
 | q :: T, i, d, e, f, g, h => by
  have hi : i < W.length := by
   rcases Nat.lt_or_ge i W.length with x | x
   ·exact x
   ·rw [List.drop_of_length_le x] at h; cases h
  have hd := List.drop_eq_getElem_cons hi
  rw [h] at hd
  have hq : W[i]? = some q := by rw [List.getElem?_eq_getElem hi]; exact congrArg some (List.cons.inj hd).1.symm
  have hT : W.drop (i + 1) = T := (List.cons.inj hd).2.symm
  obtain ⟨x1, x2, x3, e14⟩ := F.c14
  obtain ⟨es, e16, d16⟩ := F.c16
  have dk := d16 i hi
  obtain ⟨v1, v2⟩ := veq_slots q.sp
  have d1 : decide (q.k = q.k) = true := decide_eq_true rfl
  erw [F.c20, e14, e16, dk, F.cth _ _ hq, ← F.csl _ _ hq, ← F.ccp _ _ hq, v1, v2, d1]; try conv => whnf
  refine ⟨F.c52, ?_⟩
  exact rows_loop s a b c F r K hK T (i + 1) _ _ _ _ hT
theorem law_rest (s : V) {nums : List V} (hv : ∀ v ∈ nums, ∃ x : Int, v = .int x ∧ 0 ≤ x ∧ x < 1000003) (hl : nums.length ≤ 20) {D : Ids} {led : List O} (I : Inv [] D led) (S : w8 [] D) (hn : D.nums = nums) (r : V -> List O -> Prop) (h : ∀ led', r (.bool true) led') :
  wf G (gm C16) 142 (.b (b1134.drop 5) ⟨[some s, some (.own 1), some (.own 2), some (.own 20), some (.own 56), none, none, none, none, none, none, none], led⟩ (fun st => r .none st.led) r) := by
 erw []; try conv => whnf
 refine ⟨D, I, S, rfl, fun W D' l0 hk I S hn' => ?_⟩
 have hn := hn'.trans hn
 clear hn'
 have hk : W.map (·.k) = kinds16 ++ [] := by rw [hk, List.append_nil]
 have hle : W.length = 16 := by have := congrArg List.length hk; rw [List.length_map] at this; exact this
 erw []; try conv => whnf
 refine ⟨W, D', 2, 3, I, S, rfl, kbox S hk 2 rfl, fun l1 s' => ?_⟩
 have I := I.sub s'
 clear s'
 erw []; try conv => whnf
 refine ⟨W, D', 2, 4, I, S, rfl, kbox S hk 2 rfl, fun l2 s' => ?_⟩
 have I := I.sub s'
 clear s'
 erw []; try conv => whnf
 refine ⟨W, D', 4, 2, I, S, rfl, kbox S hk 4 rfl, fun l3 s' => ?_⟩
 have I := I.sub s'
 clear s'
 erw []; try conv => whnf
 refine ⟨W, D', 2, 5, I, S, rfl, kbox S hk 2 rfl, fun l4 s' => ?_⟩
 have I := I.sub s'
 clear s'
 erw []; try conv => whnf
 refine ⟨W, D', 6, 7, I, S, rfl, kbox S hk 6 rfl, fun l5 s' => ?_⟩
 have I := I.sub s'
 clear s'
 erw []; try conv => whnf
 refine ⟨W, D', 10, 11, I, S, rfl, kbox S hk 10 rfl, fun l6 s' => ?_⟩
 have I := I.sub s'
 clear s'
 erw []; try conv => whnf
 refine ⟨W, D', 12, 13, I, S, rfl, kbox S hk 12 rfl, fun l7 s' => ?_⟩
 have I := I.sub s'
 clear s'
 erw []; try conv => whnf
 refine ⟨W, D', 14, 15, I, S, rfl, kbox S hk 14 rfl, fun l8 s' => ?_⟩
 have I := I.sub s'
 clear s'
 erw []; try conv => whnf
 refine ⟨W, D', 14, 10, I, S, rfl, kbox S hk 14 rfl, fun l9 s' => ?_⟩
 have I := I.sub s'
 clear s'
 erw []; try conv => whnf
 refine ⟨W, D', 2, 0, I, S, rfl, kbox S hk 2 rfl, fun l10 s' => ?_⟩
 have I := I.sub s'
 clear s'
 erw []; try conv => whnf
 refine ⟨W, D', 6, 99, I, S, rfl, kbox S hk 6 rfl, fun l11 s' => ?_⟩
 have I := I.sub s'
 clear s'
 erw []; try conv => whnf
 refine ⟨W, D', 99, 6, I, S, rfl, kbox S hk 99 rfl, fun l12 s' => ?_⟩
 have I := I.sub s'
 clear s'
 erw []; try conv => whnf
 obtain ⟨q0, q0a, q0b⟩ := kmark S hk 2 (k := 7) rfl rfl
 refine ⟨W, D', 2, q0, I, S, q0a, q0b, rfl, fun m0 s' => ?_⟩
 have I := I.sub s'
 clear s'
 erw []; try conv => whnf
 obtain ⟨q1, q1a, q1b⟩ := kmark S hk 4 (k := 16) rfl rfl
 refine ⟨W, D', 4, q1, I, S, q1a, q1b, rfl, fun m1 s' => ?_⟩
 have I := I.sub s'
 clear s'
 erw []; try conv => whnf
 obtain ⟨q2, q2a, q2b⟩ := kmark S hk 6 (k := 17) rfl rfl
 refine ⟨W, D', 6, q2, I, S, q2a, q2b, rfl, fun m2 s' => ?_⟩
 have I := I.sub s'
 clear s'
 erw []; try conv => whnf
 obtain ⟨q3, q3a, q3b⟩ := kmark S hk 7 (k := 17) rfl rfl
 refine ⟨W, D', 7, q3, I, S, q3a, q3b, rfl, fun m3 s' => ?_⟩
 have I := I.sub s'
 clear s'
 erw []; try conv => whnf
 obtain ⟨q4, q4a, q4b⟩ := kmark S hk 10 (k := 18) rfl rfl
 refine ⟨W, D', 10, q4, I, S, q4a, q4b, rfl, fun m4 s' => ?_⟩
 have I := I.sub s'
 clear s'
 erw []; try conv => whnf
 obtain ⟨q5, q5a, q5b⟩ := kmark S hk 11 (k := 18) rfl rfl
 refine ⟨W, D', 11, q5, I, S, q5a, q5b, rfl, fun m5 s' => ?_⟩
 have I := I.sub s'
 clear s'
 erw []; try conv => whnf
 obtain ⟨q6, q6a, q6b⟩ := kmark S hk 12 (k := 18) rfl rfl
 refine ⟨W, D', 12, q6, I, S, q6a, q6b, rfl, fun m6 s' => ?_⟩
 have I := I.sub s'
 clear s'
 erw []; try conv => whnf
 obtain ⟨q7, q7a, q7b⟩ := kmark S hk 15 (k := 18) rfl rfl
 refine ⟨W, D', 15, q7, I, S, q7a, q7b, rfl, fun m7 s' => ?_⟩
 have I := I.sub s'
 clear s'
 have e1 := I.c1
 rw [hn] at e1
 erw [← e1]; try conv => whnf
 refine nums_loop s _ _ _ _ _ _ nums r _ (fun c W D led T I S hk => ?_) nums _ W D' _ [] I S hk hn (by omega) hv
 obtain ⟨s6, q6⟩ := kget hk (i := 6) (k := 17) rfl
 obtain ⟨s7, q7⟩ := kget hk (i := 7) (k := 17) rfl
 erw []; try conv => whnf
 refine ⟨W, D, s6, s7, I, S, q6, q7, rfl, fun lf F => ?_⟩
 erw [F.c56, ← F.c52]; try conv => whnf
 refine rows_loop s _ _ _ F r _ (fun d e f g => ?_) W 0 _ _ _ _ rfl
 erw [F.c20]
 refine alloc fun i1 n1 t1 a1 _ => ?_
 erw [← t1 _ _ F.c35, ← a1, t1 _ _ F.c20]
 refine alloc fun i2 n2 t2 a2 _ => ?_
 erw [← (t1.trans t2) _ _ F.c34, ← a2, (t1.trans t2) _ _ F.c20]; try conv => whnf
 (repeat refine z9 (by assumption) ?_); exact h _
theorem law_ok (xs : List Int) (hx : xs.length ≤ 1000) (r : V -> List O -> Prop) (h : ∀ led', r (.bool true) led') : wf G (gm C16) 148 (.call 1134 [.lst (xs.map .int)] [] r) := by
 refine law_first xs hx r fun loc led e1 e2 => ?_
 subst e1 e2
 rw [setup]
 refine eq_true ?_
 refine law_rest _ (nums := (xs.take 20).map mo) (D := D0 ((xs.take 20).map mo)) ?_ ?_ (inv0 _ _) (sane0 _) rfl r h
 ·intro v hv
  obtain ⟨x, _, rfl⟩ := List.mem_map.mp hv
  refine ⟨_, rfl, ?_, ?_⟩
  ·exact (fm_ge (by decide)).1
  ·exact (fm_ge (by decide)).2
 ·rw [List.length_map, List.length_take]; exact Nat.min_le_left _ _
end Mine
end
section
open PyProof.Rows PySem PySem.W
namespace Mine
noncomputable def Vd (w : World) (b0 : Heap) (f m : Nat) (sp : r8) : Prop :=
 ∀ (args : List V) (led : List O) (r : V -> List O -> Prop) (A : Around) (s : Shared) (fr : List Addr) (σ c : Nat -> Addr) (us : List Value),
  sp args led r -> R (q9 w) b0 fr σ c led s.heap -> Rvs s.heap (NN fr c led) σ led.length args us -> i9 A m -> codeAny (model pr w) A (.call (.ref f) ⟨us, []⟩) (RetQ (PostC (q9 w) b0 fr σ c led s r)) s
section
variable {w : World} {b0 : Heap} {C : Ctx} {f m : Nat} {sp : r8}
theorem vd (W : Wd w b0) (hC : GamOk w (q9 w) b0 (gm C)) (ok : ∀ (args : List V) (led : List O) (r : V -> List O -> Prop), sp args led r -> wf G (gm C) m (.call f args led r)) : Vd w b0 f m sp :=
 fun args led r A s fr σ c us h hR hv hA => (sound W hC m m (Nat.le_refl _)).c f args led r A s fr σ c us (congrFun (wf_eq G (gm C) m) (.call f args led r) ▸ ok args led r h) hR hv hA
theorem yQ : GamOk w (q9 w) b0 (gm []) := ⟨fun f m sp e => by cases e⟩
theorem m9 (x : Vd w b0 f m sp) (y : GamOk w (q9 w) b0 (gm C)) : GamOk w (q9 w) b0 (gm ((f, (m, sp)) :: C)) := ⟨fun g k s e => by
 have e : (match Nat.beq g f with
  | true => some (m, sp)
  | false => v3 g C) = some (k, s) := e
 by_cases hb : g = f
 ·subst hb
  rw [Nat.beq_refl] at e
  cases e
  exact x
 ·have hb : Nat.beq g f = false := by
   cases h : Nat.beq g f with
   | false => rfl
   | true => exact absurd (Nat.eq_of_beq_eq_true h) hb
  rw [hb] at e
  exact y.ok g k s e⟩
theorem gamok (W : Wd w b0) : GamOk w (q9 w) b0 (gm C16) := by
 have v287 := vd W yQ ok287
 have v301 := vd W yQ ok301
 have v851 := vd W (C := C1) (m9 v287 yQ) ok851
 have v1040 := vd W yQ ok1040
 have v189 := vd W yQ ok189
 have v734 := vd W yQ ok734
 have v767 := vd W yQ ok767
 have v865 := vd W (C := C2) (m9 v287 (m9 v851 (m9 v734 (m9 v189 (m9 v767 yQ))))) ok865
 have v872 := vd W (C := C3) (m9 v287 (m9 v865 yQ)) ok872
 have v900 := vd W (C := C4) (m9 v734 (m9 v189 (m9 v767 yQ))) ok900
 have v1068 := vd W yQ ok1068
 have v1075 := vd W (C := C5) (m9 v1068 (m9 v900 yQ)) ok1075
 have v1033 := vd W yQ ok1033
 have v1047 := vd W (C := C6) (m9 v1040 yQ) ok1047
 have v1082 := vd W (C := C7) (m9 v1068 (m9 v1047 (m9 v872 (m9 v1033 yQ)))) ok1082
 have v1089 := vd W (C := C8) (m9 v1033 yQ) ok1089
 have v1096 := vd W (C := C9) (m9 v1089 yQ) ok1096
 have v1103 := vd W (C := C10) (m9 v1089 (m9 v1096 yQ)) ok1103
 have v1108 := vd W (C := C11) (m9 v1089 (m9 v1103 yQ)) ok1108
 have v1014 := vd W yQ ok1014
 have v1019 := vd W yQ ok1019
 have v1026 := vd W (C := C12) (m9 v1014 (m9 v1019 (m9 v301 yQ))) ok1026
 have v1115 := vd W (C := C13) (m9 v1026 (m9 v1103 (m9 v1108 (m9 v1075 (m9 v1082 yQ))))) ok1115
 have v1122 := vd W (C := C14) (m9 v1026 (m9 v1089 (m9 v1096 yQ))) ok1122
 have v1129 := vd W (C := C15) (m9 v287 (m9 v301 yQ)) ok1129
 exact m9 v1122 (m9 v1075 (m9 v1082 (m9 v1115 (m9 v1129 yQ))))
end
end Mine
end
section
open PySem PySem.W PyProof.Rows
namespace Mine
theorem pre_eq : rw9.row.toRowW.pre = .and (.not (.lt (.lit (.int 63)) (.len (.arg 0)))) (.lit (.bool true)) := rfl
theorem pre_len {xs : List WData} (h : WTm.holds [] (.and (.not (.lt (.lit (.int 63)) (.len (.arg 0)))) (.lit (.bool true))) { args := [.list xs] } = true) : xs.length ≤ 63 := by
 rcases Nat.lt_or_ge 63 xs.length with q | q
 ·exfalso
  have d : decide ((63 : Int) < xs.length) = true := decide_eq_true (Int.ofNat_lt.mpr q)
  simp [WTm.holds, WTm.value, less?, Num.less?] at h
  rw [d] at h
  cases h
 ·exact q
theorem items_int {R : WRecords} : ∀ {xs : List WData}, WShape.hasItems R xs .int = true -> ∃ ys : List Int, xs = ys.map .int
 | [], _ => ⟨[], rfl⟩
 | x :: xs, h => by
  simp only [WShape.hasItems, Bool.and_eq_true] at h
  obtain ⟨i, rfl⟩ := hasW_int h.1
  obtain ⟨ys, rfl⟩ := items_int h.2
  exact ⟨i :: ys, rfl⟩
theorem rvs_ints {P : Params} {h : Heap} {N : Addr -> Prop} {σ : Nat -> Addr} {n : Nat} : ∀ {vs : List Value} {ys : List Int}, WellAll P h vs (ys.map .int) -> Rvs h N σ n (ys.map .int) vs
 | _, [], w => by cases w; exact .nil
 | _, y :: ys, w => by
  cases w with
  | cons a b =>
   cases a
   exact .cons (.int _ _) (rvs_ints b)
theorem law_at (P : Params) : nsIn (Kf P) mainGlobals lawD.name = some (some (.ref 1134)) := by kernel_rfl
theorem one_at (P : Params) : (Kf P).lookup 1 = some (o1 P) := rfl
theorem Rz (hash : V -> Int) (h : Heap) (σ c : Nat -> Addr) : R hash h [] σ c [] h where
 base a o e := ⟨e, fun q => by
  rcases q with q | ⟨i, ⟨o, q, _⟩, _⟩
  ·cases q
  ·cases q⟩
 cell i o e := by cases e
 inj i j := fun ⟨o, q, _⟩ => by cases q
 frs i := fun ⟨o, q, _⟩ => by cases q
 flt a h := by cases h
theorem post_ok (a : List WData) : rw9.row.claim.post a (.bool true) a = true := by
 show (WShape.has [] (.bool true) .bool && WTm.holds [] (.eq .res (.lit (.bool true))) { args := a, res := some (.bool true), after := a }) = true
 simp [WShape.has, WShape.arms, WTm.holds, WTm.value, same]
theorem walk : WalkL := by
 intro w s₀ s₁ mg mb Gr Y a o pm cd doc dV kV ho hdata hcode hd hmg hgens args vals as hpre hlay hreads hwell hlow
 have W : Wd w s₁.heap := ⟨Y, ⟨mg, Gr.T.g⟩, ⟨mb, Gr.T.b, Gr.T.builtins⟩, ⟨_, Y _ _ (one_at _)⟩, Gr.T.nolimit⟩
 have ha := mg_of Y Gr.T.g (law_at w.params)
 rw [hmg] at ha
 obtain rfl : a = 1134 := by cases ha; rfl
 obtain ⟨h1, h2⟩ := pre_splitW hpre
 obtain ⟨d, r, rfl, h3, h4⟩ := hasAllW_cons h1
 obtain rfl := hasAllW_nil h4
 obtain ⟨xs, rfl, h5⟩ := hasW_list h3
 obtain ⟨ys, rfl⟩ := items_int h5
 rw [pre_eq] at h2
 have hl := pre_len h2
 rw [List.length_map] at hl
 cases hwell with
 | cons wl wn =>
  cases wn
  cases wl with
  | list g ws =>
   refine wpAny_call (codeAny_mono ((sound W (gamok W) 148 148 (Nat.le_refl _)).c 1134 [.lst (ys.map .int)] [] (fun v _ => v = .bool true) callerA s₁ [] (fun _ => 0) (fun _ => 0) _ ?_ (Rz _ _ _ _) (.cons (.lst ?_ g ?_) .nil) ⟨by decide, by decide, rfl⟩) fun res s' q => ?_)
   ·rw [← wf_eq]
    exact law_ok ys (Nat.le_trans hl (by decide)) _ fun _ => rfl
   ·exact ((Rz (q9 w) s₁.heap (fun _ => 0) (fun _ => 0)).base _ _ g).2
   ·exact rvs_ints ws
   ·rcases res with e | (v | _ | _ | _)
    all_goals first | exact q.elim | skip
    obtain ⟨h', tk, σ', c', led', v', rfl, st, hR, rv, rfl⟩ := q
    cases rv
    refine GoodW.toG ⟨.inl ⟨_, .bool true, [], rfl, fun _ => rfl, .bool true, ?_, fun _ => ⟨List.nodup_nil, fun a h => by cases h⟩⟩, fun b o e => (hR.base b o e).1, rfl, hgens⟩
    exact post_ok _
end Mine
theorem PySem.Challenge.cw_sy0009_01_holds : PySem.Challenge.rw_sy0009_01.Holds :=
 Mine.head_ Mine.walk
end
