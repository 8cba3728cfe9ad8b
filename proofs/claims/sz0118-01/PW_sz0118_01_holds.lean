import PyProof.Rows.All
import Wide.All
import OpenK.AllK
import Wide.FinOn
import PySem.Challenge.RW_sz0118_01
open PySem PySem.W PySem.Calls PyProof.Rows
set_option Elab.async false
set_option maxRecDepth 100000
set_option linter.unusedVariables false
set_option linter.unusedSimpArgs false
set_option maxHeartbeats 0
namespace Mine
/-! the head: the run of the text's top, piece by piece -/
noncomputable abbrev PG := PySem.Challenge.pw_sz0118_01
noncomputable def topStmt (i : Nat) : Stmt := (PG.main.body[i]?).getD (.Pass default)
noncomputable def inClass (s : Stmt) (j : Nat) : Stmt := match s with
  | .ClassDef _ _ _ body .. => (body[j]?).getD (.Pass default)
  | s => s
noncomputable def pbody : Stmt → List Stmt
  | .FunctionDef _ _ b .. => b
  | _ => []
noncomputable def pparams : Stmt → Arguments
  | .FunctionDef _ a .. => a
  | _ => default
noncomputable def pscope : Stmt → Scope
  | .FunctionDef (scope := s) .. => s
  | _ => default
noncomputable def s_mask_of : Stmt := topStmt 16
noncomputable def s_is_prefix : Stmt := topStmt 17
noncomputable def s_holds_address : Stmt := topStmt 18
noncomputable def s_covers : Stmt := topStmt 19
noncomputable def s_small_number : Stmt := topStmt 20
noncomputable def s_read_address : Stmt := topStmt 21
noncomputable def s_read_prefix : Stmt := topStmt 22
noncomputable def s_condition_holds : Stmt := topStmt 32
noncomputable def s_run_statements : Stmt := topStmt 36
noncomputable def s_run_policy : Stmt := topStmt 37
noncomputable def s_run_end : Stmt := topStmt 58
noncomputable def s_plain_number : Stmt := topStmt 59
noncomputable def s_figures_token : Stmt := topStmt 60
noncomputable def s_sign_token : Stmt := topStmt 61
noncomputable def s_tokens_of : Stmt := topStmt 62
noncomputable def s_TokenRow__init : Stmt := inClass (topStmt 75) 0
noncomputable def s_TokenRow_kind : Stmt := inClass (topStmt 75) 1
noncomputable def s_TokenRow_value : Stmt := inClass (topStmt 75) 2
noncomputable def s_TokenRow_is_next : Stmt := inClass (topStmt 75) 4
noncomputable def s_TokenRow_skip : Stmt := inClass (topStmt 75) 5
noncomputable def s_TokenRow_need : Stmt := inClass (topStmt 75) 6
noncomputable def s_TokenRow_take : Stmt := inClass (topStmt 75) 7
noncomputable def s_TokenRow_number : Stmt := inClass (topStmt 75) 8
noncomputable def s_TokenRow_one_of : Stmt := inClass (topStmt 75) 10
noncomputable def s_ConditionReader__init : Stmt := inClass (topStmt 76) 0
noncomputable def s_ConditionReader_need_depth : Stmt := inClass (topStmt 76) 1
noncomputable def s_ConditionReader_need_room : Stmt := inClass (topStmt 76) 2
noncomputable def s_ConditionReader_any_of : Stmt := inClass (topStmt 76) 3
noncomputable def s_ConditionReader_all_of : Stmt := inClass (topStmt 76) 4
noncomputable def s_ConditionReader_plain : Stmt := inClass (topStmt 76) 5
noncomputable def s_ConditionReader_about_prefix : Stmt := inClass (topStmt 76) 6
noncomputable def s_PolicyReader_block : Stmt := inClass (topStmt 77) 0
noncomputable def s_PolicyReader_statements : Stmt := inClass (topStmt 77) 1
noncomputable def s_PolicyReader_statement : Stmt := inClass (topStmt 77) 2
noncomputable def s_PolicyReader_term : Stmt := inClass (topStmt 77) 4
noncomputable def s_PolicyReader_policy : Stmt := inClass (topStmt 77) 5
noncomputable def s_read_policy : Stmt := topStmt 78
noncomputable def s_law_draw : Stmt := topStmt 80
noncomputable def s_law_all : Stmt := topStmt 81
noncomputable def s_law_wide : Stmt := topStmt 82
noncomputable def s_law_word : Stmt := topStmt 83
noncomputable def s_law_covers : Stmt := topStmt 84
noncomputable def s_law_set : Stmt := topStmt 85
noncomputable def s_law_let : Stmt := topStmt 86
noncomputable def s_law_run : Stmt := topStmt 87
noncomputable def s_law_turned : Stmt := topStmt 88
noncomputable def s_law_meet : Stmt := topStmt 89
noncomputable def s_law_held : Stmt := topStmt 90
noncomputable def s_law : Stmt := topStmt 91
noncomputable abbrev kS (x : String) (t : Nat) : Value := .str (Str.ofString x) t
noncomputable abbrev kE (P : Params) (x : String) (t : Nat) (v : Value) : DictEntry := { hash := PyData.keyHash P (Str.ofString x), key := .str (Str.ofString x) t, val := v }
noncomputable abbrev kT (l : List Value) : Obj := { cls := .type "tuple", data := .seq l.toArray }
noncomputable abbrev kC (l : List Value) : Obj := { cls := .type "code", data := .fields l.toArray }
noncomputable abbrev kF (n q : String) (s : Stmt) (dV kV pm cd : Value) (ct : Value := .none) : Obj := ⟨.type "function", none, .func (fnOf (Str.ofString n) (Str.ofString q) (pparams s) (pbody s) (pscope s) dV kV .none pm none cd ct), #[]⟩
noncomputable abbrev kG (n q : String) (s : Stmt) : Obj := { cls := .none, data := .func { name := Str.ofString n, qualname := Str.ofString q, params := pparams s, body := .stmts (pbody s), scope := pscope s, globals := 0, closure := [], defaults := .none, kwdefaults := .none } }
noncomputable abbrev kM (l : List Value) : Obj := { cls := .none, data := .fields l.toArray }
noncomputable abbrev kI (i : Int) : Value := .int i 0
noncomputable abbrev nd := BT.node
noncomputable abbrev z := BT.nil
noncomputable abbrev lf (o : Obj) : BT := .node o .nil .nil
noncomputable def d3 (P : Params) : List DictEntry := [kE P "__name__" 165 (kS "law_sz0118_01" 949), kE P "__doc__" 166 (.none), kE P "__package__" 167 (.none), kE P "__loader__" 168 (.builtin "__main__.__loader__#opaque"), kE P "__spec__" 169 (.none), kE P "__annotations__" 170 (.ref 6), kE P "__builtins__" 171 (.ref 4), kE P "__file__" 173 (kS "/claim/cut.py" 172), kE P "__cached__" 174 (.none), kE P "SET" 190 (.int 1 189), kE P "SEQUENCE" 192 (.int 2 191), kE P "MOST_IN_SEGMENT" 194 (.int 255 193), kE P "path_length" 204 (.ref 21), kE P "neighbour_as" 213 (.ref 28), kE P "path_has" 223 (.ref 35), kE P "put_ahead" 233 (.ref 42), kE P "prepended" 243 (.ref 49), kE P "RouteError" 274 (.ref 66), kE P "ConfigError" 290 (.ref 79), kE P "PolicyError" 316 (.ref 98), kE P "WIRE_BITS" 320 (.int 32 319), kE P "FIGURES_prefixes" 322 (kS "0123456789" 321), kE P "mask_of" 330 (.ref 107), kE P "is_prefix" 339 (.ref 114), kE P "holds_address" 348 (.ref 121), kE P "covers" 357 (.ref 128), kE P "small_number" 367 (.ref 135), kE P "read_address" 377 (.ref 142), kE P "read_prefix" 387 (.ref 149), kE P "FIELDS" 405 (.ref 150), kE P "ON" 407 (.int 0 406), kE P "ACCEPTED" 409 (.int 1 408), kE P "REJECTED" 411 (.int 2 410), kE P "NEXT" 413 (.int 3 412), kE P "ENDS" 420 (.ref 151), kE P "compares" 429 (.ref 158), kE P "field_number" 439 (.ref 165), kE P "condition_holds" 450 (.ref 172), kE P "with_communities" 456 (.ref 177), kE P "with_field" 462 (.ref 182), kE P "changed_route" 468 (.ref 187), kE P "run_statements" 481 (.ref 194), kE P "run_policy" 496 (.ref 201), kE P "NO_EXPORT" 500 (.int 4294967041 499), kE P "NO_ADVERTISE" 502 (.int 4294967042 501), kE P "NO_EXPORT_SUBCONFED" 504 (.int 4294967043 503), kE P "WELL_KNOWN" 511 (.ref 202), kE P "HALF" 515 (.int 65536 514), kE P "FIGURES_communities" 517 (kS "0123456789" 516), kE P "community_of" 525 (.ref 209), kE P "half_of" 531 (.ref 214), kE P "read_community" 540 (.ref 221), kE P "LETTERS" 544 (kS "abcdefghijklmnopqrstuvwxyzABCDEFGHIJKLMNOPQRSTUVWXYZ" 543), kE P "WORD_SIGNS" 548 (kS "abcdefghijklmnopqrstuvwxyzABCDEFGHIJKLMNOPQRSTUVWXYZ0123456789-_" 547), kE P "NUMBER_SIGNS" 551 (kS "0123456789./:" 550), kE P "BLANKS" 553 (kS " \t\x0d\n" 552), kE P "LONG_SIGNS" 557 (.ref 222), { hash := PyData.keyHash P (Str.ofString "SHORT_SIGNS"), key := kS "SHORT_SIGNS" 559, val := kS "{}();<>=" 558 }, kE P "MOST_FIGURES" 561 (.int 10 560), kE P "MOST_NUMBER_policylex" 563 (.int 4294967295 562), kE P "MOST_HALF" 565 (.int 65535 564), kE P "run_end" 574 (.ref 229), kE P "plain_number" 585 (.ref 236), kE P "figures_token" 597 (.ref 243), kE P "sign_token" 605 (.ref 250), kE P "tokens_of" 615 (.ref 257), kE P "ORIGINS" 621 (.ref 258), kE P "COMPARED" 628 (.ref 259), kE P "COMPARE_SIGNS" 635 (.ref 260), kE P "SET_FIELDS" 641 (.ref 261), kE P "VERDICTS" 645 (.ref 262), kE P "RESERVED" 670 (.ref 267), kE P "MOST_AS" 672 (.int 65535 671), kE P "MOST_NUMBER_policyread" 674 (.int 4294967295 673), kE P "MOST_PREPENDED" 676 (.int 10 675), kE P "MOST_DEEP" 678 (.int 12 677), kE P "MOST_PARTS" 680 (.int 32 679), kE P "TokenRow" 790 (.ref 352), kE P "ConditionReader" 870 (.ref 415), kE P "PolicyReader" 940 (.ref 467), kE P "read_policy" 948 (.ref 477), kE P "_law_draw" 958 (.ref 484), kE P "_law_all" 968 (.ref 491), kE P "_law_wide" 975 (.ref 498), kE P "_law_word" 989 (.ref 505), kE P "_law_covers" 997 (.ref 512), kE P "_law_set" 1003 (.ref 517), kE P "_law_let" 1009 (.ref 522), kE P "_law_run" 1015 (.ref 527), kE P "_law_turned" 1029 (.ref 534), kE P "_law_meet" 1041 (.ref 541), kE P "_law_held" 1047 (.ref 546), kE P "law" 1053 (.ref 551)]
noncomputable abbrev kD (l : List DictEntry) (n : Nat) : Obj := { cls := .type "dict", data := .dict l.toArray n }
noncomputable def o11 (P : Params) : Obj := kT []
noncomputable def o12v0 (P : Params) : Obj := kM []
noncomputable def o13 (P : Params) : Obj := kC [kS "<module>" 182, kS "<module>" 183, kS "/claim/cut.py" 184, kI 1, kI 0, kI 0, kI 0, kI 0, .ref 11, .bool false, kI 181, .ref 12, .none, .none, .none, .none, kI 185, kI 1, kS "/claim/cut.py" 186]
noncomputable def o14 (P : Params) : Obj := { cls := .type "frame", slots := #[some (.ref 13), some (.ref 3), some (.ref 3), none, some (kS "__main__" 164), none, some (.ref 0)] }
noncomputable def o2 (P : Params) : Obj := { cls := .none, data := Data.dict #[kE P "type.__subclasses__.Exception.0" 271 (kI 66), kE P "type.__subclasses__.Exception.n" 272 (kI 1)] 2 }
noncomputable def o3v2 (P : Params) : Obj := kD (kE P "__name__" 165 (kS "routeloom.errors" 244) :: ((d3 P).take 18).drop 1) 18
noncomputable def o12v2 (P : Params) : Obj := kM [kI 5, kI 0, .ref 20, kI 13, kI 0, .ref 27, kI 20, kI 0, .ref 34, kI 25, kI 0, .ref 41, kI 29, kI 0, .ref 48, kI 34, kI 0, .ref 55]
noncomputable def o15 (P : Params) : Obj := kT []
noncomputable def o16 (P : Params) : Obj := kM []
noncomputable def o17 (P : Params) : Obj := kT [kS "path" 198, kS "found" 199, kS "kind" 200, kS "numbers" 201]
noncomputable def o18 (P : Params) : Obj := kT []
noncomputable def o19 (P : Params) : Obj := kG "path_length" "path_length" (topStmt 4)
noncomputable def o20 (P : Params) : Obj := kC [kS "path_length" 195, kS "path_length" 196, kS "/claim/cut.py" 197, kI 5, kI 1, kI 0, kI 0, kI 3, .ref 15, .bool true, kI 181, .ref 16, .none, .ref 17, .ref 18, .ref 19, kI 202, kI 5, kS "/claim/cut.py" 203]
noncomputable def o21 (P : Params) : Obj := kF "path_length" "path_length" (topStmt 4) .none .none (kS "routeloom.paths" 187) (.ref 20)
noncomputable def o22 (P : Params) : Obj := kT []
noncomputable def o23 (P : Params) : Obj := kM []
noncomputable def o24 (P : Params) : Obj := kT [kS "path" 208, kS "kind" 209, kS "numbers" 210]
noncomputable def o25 (P : Params) : Obj := kT []
noncomputable def o26 (P : Params) : Obj := kG "neighbour_as" "neighbour_as" (topStmt 5)
noncomputable def o27 (P : Params) : Obj := kC [kS "neighbour_as" 205, kS "neighbour_as" 206, kS "/claim/cut.py" 207, kI 13, kI 1, kI 0, kI 0, kI 3, .ref 22, .bool true, kI 181, .ref 23, .none, .ref 24, .ref 25, .ref 26, kI 211, kI 13, kS "/claim/cut.py" 212]
noncomputable def o28 (P : Params) : Obj := kF "neighbour_as" "neighbour_as" (topStmt 5) .none .none (kS "routeloom.paths" 187) (.ref 27)
noncomputable def o29 (P : Params) : Obj := kT []
noncomputable def o30 (P : Params) : Obj := kM []
noncomputable def o31 (P : Params) : Obj := kT [kS "path" 217, kS "number" 218, kS "kind" 219, kS "numbers" 220]
noncomputable def o32 (P : Params) : Obj := kT []
noncomputable def o33 (P : Params) : Obj := kG "path_has" "path_has" (topStmt 6)
noncomputable def o34 (P : Params) : Obj := kC [kS "path_has" 214, kS "path_has" 215, kS "/claim/cut.py" 216, kI 20, kI 2, kI 0, kI 0, kI 3, .ref 29, .bool true, kI 181, .ref 30, .none, .ref 31, .ref 32, .ref 33, kI 221, kI 20, kS "/claim/cut.py" 222]
noncomputable def o35 (P : Params) : Obj := kF "path_has" "path_has" (topStmt 6) .none .none (kS "routeloom.paths" 187) (.ref 34)
noncomputable def o36 (P : Params) : Obj := kT []
noncomputable def o37 (P : Params) : Obj := kM []
noncomputable def o38 (P : Params) : Obj := kT [kS "path" 227, kS "number" 228, kS "kind" 229, kS "most" 230]
noncomputable def o39 (P : Params) : Obj := kT []
noncomputable def o40 (P : Params) : Obj := kG "put_ahead" "put_ahead" (topStmt 7)
noncomputable def o41 (P : Params) : Obj := kC [kS "put_ahead" 224, kS "put_ahead" 225, kS "/claim/cut.py" 226, kI 25, kI 4, kI 0, kI 0, kI 3, .ref 36, .bool true, kI 181, .ref 37, .none, .ref 38, .ref 39, .ref 40, kI 231, kI 25, kS "/claim/cut.py" 232]
noncomputable def o42 (P : Params) : Obj := kF "put_ahead" "put_ahead" (topStmt 7) .none .none (kS "routeloom.paths" 187) (.ref 41)
noncomputable def o43 (P : Params) : Obj := kT []
noncomputable def o44 (P : Params) : Obj := kM []
noncomputable def o45 (P : Params) : Obj := kT [kS "path" 237, kS "number" 238, kS "many" 239, kS "turn" 240]
noncomputable def o46 (P : Params) : Obj := kT []
noncomputable def o47 (P : Params) : Obj := kG "prepended" "prepended" (topStmt 8)
noncomputable def o48 (P : Params) : Obj := kC [kS "prepended" 234, kS "prepended" 235, kS "/claim/cut.py" 236, kI 29, kI 3, kI 0, kI 0, kI 3, .ref 43, .bool true, kI 181, .ref 44, .none, .ref 45, .ref 46, .ref 47, kI 241, kI 29, kS "/claim/cut.py" 242]
noncomputable def o49 (P : Params) : Obj := kF "prepended" "prepended" (topStmt 8) .none .none (kS "routeloom.paths" 187) (.ref 48)
noncomputable def o50 (P : Params) : Obj := kT [.type "Exception"]
noncomputable def o51 (P : Params) : Obj := { cls := .type "builtin_function_or_method", data := Data.fields #[.builtin "type.__prepare__", .type "type"] }
noncomputable def o52 (P : Params) : Obj := { cls := .type "dict", data := Data.dict #[kE P "__module__" 253 (kS "routeloom.errors" 244), kE P "__qualname__" 255 (kS "RouteError" 254), kE P "__firstlineno__" 257 (.int 34 256), kE P "__init__" 265 (.ref 63), kE P "__static_attributes__" 267 (.ref 64)] 5 }
noncomputable def o53 (P : Params) : Obj := kT []
noncomputable def o54 (P : Params) : Obj := kM [kI 36, kI 4, .ref 62]
noncomputable def o55 (P : Params) : Obj := kC [kS "RouteError" 248, kS "RouteError" 249, kS "/claim/cut.py" 250, kI 34, kI 0, kI 0, kI 0, kI 0, .ref 53, .bool false, kI 181, .ref 54, .none, .none, .none, .none, kI 251, kI 34, kS "/claim/cut.py" 252]
noncomputable def o56 (P : Params) : Obj := { cls := .type "frame", slots := #[some (.ref 55), some (.ref 3), some (.ref 52), none, some (kS "routeloom.errors" 244), none, some (.ref 0)] }
noncomputable def o57 (P : Params) : Obj := kT []
noncomputable def o58 (P : Params) : Obj := kM []
noncomputable def o59 (P : Params) : Obj := kT [kS "self" 261, kS "text" 262]
noncomputable def o60 (P : Params) : Obj := kT []
noncomputable def o61 (P : Params) : Obj := kG "__init__" "RouteError.__init__" (inClass (topStmt 10) 0)
noncomputable def o62 (P : Params) : Obj := kC [kS "__init__" 258, kS "RouteError.__init__" 259, kS "/claim/cut.py" 260, kI 36, kI 2, kI 0, kI 0, kI 3, .ref 57, .bool true, kI 181, .ref 58, .none, .ref 59, .ref 60, .ref 61, kI 263, kI 36, kS "/claim/cut.py" 264]
noncomputable def o63 (P : Params) : Obj := kF "__init__" "RouteError.__init__" (inClass (topStmt 10) 0) .none .none (kS "routeloom.errors" 244) (.ref 62)
noncomputable def o64 (P : Params) : Obj := kT [kS "text" 266]
noncomputable def o65 (P : Params) : Obj := { cls := .type "dict", data := Data.dict #[kE P "__module__" 253 (kS "routeloom.errors" 244), kE P "__firstlineno__" 257 (.int 34 256), kE P "__init__" 265 (.ref 63), kE P "__static_attributes__" 267 (.ref 64), kE P "__weakref__" 269 (.ref 67), kE P "__doc__" 270 (.none)] 3 }
noncomputable def o66v2 (P : Params) : Obj := { cls := .type "type", data := Data.cls { name := Str.ofString "RouteError", bases := [.type "Exception"], mro := [.ref 66, .type "Exception", .type "BaseException", .type "object"], ns := 65, qualname := Str.ofString "RouteError" }, slots := #[some (.ref 50), none, some (kS "RouteError" 246), some (kS "RouteError" 254), some (.builtin "Exception.__new__"), some (.bool true)] }
noncomputable def o67 (P : Params) : Obj := { cls := .type "getset_descriptor", data := Data.fields #[kS "__weakref__" 268, .ref 66, .builtin "ExceptionGroup.__weakref__", .none] }
noncomputable def o68 (P : Params) : Obj := { cls := .type "super", data := Data.fields #[.ref 66, .ref 66, .ref 66] }
noncomputable def o69 (P : Params) : Obj := { cls := .type "builtin_function_or_method", data := Data.fields #[.builtin "object.__init_subclass__", .ref 66] }
noncomputable def o3v3 (P : Params) : Obj := kD (kE P "__name__" 165 (kS "routeloom.prefixes" 317) :: ((d3 P).take 22).drop 1) 22
noncomputable def o12v3 (P : Params) : Obj := kM [kI 5, kI 0, .ref 20, kI 13, kI 0, .ref 27, kI 20, kI 0, .ref 34, kI 25, kI 0, .ref 41, kI 29, kI 0, .ref 48, kI 34, kI 0, .ref 55, kI 39, kI 0, .ref 75, kI 41, kI 0, .ref 87]
noncomputable def o66 (P : Params) : Obj := { cls := .type "type", data := Data.cls { name := Str.ofString "RouteError", bases := [.type "Exception"], mro := [.ref 66, .type "Exception", .type "BaseException", .type "object"], ns := 65, qualname := Str.ofString "RouteError", subclasses := [.ref 79, .ref 98] }, slots := #[some (.ref 50), none, some (kS "RouteError" 246), some (kS "RouteError" 254), some (.builtin "Exception.__new__"), some (.bool true)] }
noncomputable def o70 (P : Params) : Obj := kT [.ref 66]
noncomputable def o71 (P : Params) : Obj := { cls := .type "builtin_function_or_method", data := Data.fields #[.builtin "type.__prepare__", .type "type"] }
noncomputable def o72 (P : Params) : Obj := { cls := .type "dict", data := Data.dict #[kE P "__module__" 282 (kS "routeloom.errors" 244), kE P "__qualname__" 284 (kS "ConfigError" 283), kE P "__firstlineno__" 286 (.int 39 285), kE P "__static_attributes__" 287 (.ref 77)] 4 }
noncomputable def o73 (P : Params) : Obj := kT []
noncomputable def o74 (P : Params) : Obj := kM []
noncomputable def o75 (P : Params) : Obj := kC [kS "ConfigError" 277, kS "ConfigError" 278, kS "/claim/cut.py" 279, kI 39, kI 0, kI 0, kI 0, kI 0, .ref 73, .bool false, kI 181, .ref 74, .none, .none, .none, .none, kI 280, kI 39, kS "/claim/cut.py" 281]
noncomputable def o76 (P : Params) : Obj := { cls := .type "frame", slots := #[some (.ref 75), some (.ref 3), some (.ref 72), none, some (kS "routeloom.errors" 244), none, some (.ref 0)] }
noncomputable def o77 (P : Params) : Obj := kT []
noncomputable def o78 (P : Params) : Obj := { cls := .type "dict", data := Data.dict #[kE P "__module__" 282 (kS "routeloom.errors" 244), kE P "__firstlineno__" 286 (.int 39 285), kE P "__static_attributes__" 287 (.ref 77), kE P "__doc__" 288 (.none)] 2 }
noncomputable def o79 (P : Params) : Obj := { cls := .type "type", data := Data.cls { name := Str.ofString "ConfigError", bases := [.ref 66], mro := [.ref 79, .ref 66, .type "Exception", .type "BaseException", .type "object"], ns := 78, qualname := Str.ofString "ConfigError" }, slots := #[some (.ref 70), none, some (kS "ConfigError" 275), some (kS "ConfigError" 283), some (.builtin "Exception.__new__"), some (.bool true)] }
noncomputable def o80 (P : Params) : Obj := { cls := .type "super", data := Data.fields #[.ref 79, .ref 79, .ref 79] }
noncomputable def o81 (P : Params) : Obj := { cls := .type "builtin_function_or_method", data := Data.fields #[.builtin "object.__init_subclass__", .ref 79] }
noncomputable def o82 (P : Params) : Obj := kT [.ref 66]
noncomputable def o83 (P : Params) : Obj := { cls := .type "builtin_function_or_method", data := Data.fields #[.builtin "type.__prepare__", .type "type"] }
noncomputable def o84 (P : Params) : Obj := { cls := .type "dict", data := Data.dict #[kE P "__module__" 298 (kS "routeloom.errors" 244), kE P "__qualname__" 300 (kS "PolicyError" 299), kE P "__firstlineno__" 302 (.int 41 301), kE P "__init__" 311 (.ref 95), kE P "__static_attributes__" 313 (.ref 96)] 5 }
noncomputable def o85 (P : Params) : Obj := kT []
noncomputable def o86 (P : Params) : Obj := kM [kI 43, kI 4, .ref 94]
noncomputable def o87 (P : Params) : Obj := kC [kS "PolicyError" 293, kS "PolicyError" 294, kS "/claim/cut.py" 295, kI 41, kI 0, kI 0, kI 0, kI 0, .ref 85, .bool false, kI 181, .ref 86, .none, .none, .none, .none, kI 296, kI 41, kS "/claim/cut.py" 297]
noncomputable def o88 (P : Params) : Obj := { cls := .type "frame", slots := #[some (.ref 87), some (.ref 3), some (.ref 84), none, some (kS "routeloom.errors" 244), none, some (.ref 0)] }
noncomputable def o89 (P : Params) : Obj := kT []
noncomputable def o90 (P : Params) : Obj := kM []
noncomputable def o91 (P : Params) : Obj := kT [kS "self" 306, kS "text" 307, kS "place" 308]
noncomputable def o92 (P : Params) : Obj := kT []
noncomputable def o93 (P : Params) : Obj := kG "__init__" "PolicyError.__init__" (inClass (topStmt 12) 0)
noncomputable def o94 (P : Params) : Obj := kC [kS "__init__" 303, kS "PolicyError.__init__" 304, kS "/claim/cut.py" 305, kI 43, kI 3, kI 0, kI 0, kI 3, .ref 89, .bool true, kI 181, .ref 90, .none, .ref 91, .ref 92, .ref 93, kI 309, kI 43, kS "/claim/cut.py" 310]
noncomputable def o95 (P : Params) : Obj := kF "__init__" "PolicyError.__init__" (inClass (topStmt 12) 0) .none .none (kS "routeloom.errors" 244) (.ref 94)
noncomputable def o96 (P : Params) : Obj := kT [kS "place" 312]
noncomputable def o97 (P : Params) : Obj := { cls := .type "dict", data := Data.dict #[kE P "__module__" 298 (kS "routeloom.errors" 244), kE P "__firstlineno__" 302 (.int 41 301), kE P "__init__" 311 (.ref 95), kE P "__static_attributes__" 313 (.ref 96), kE P "__doc__" 314 (.none)] 2 }
noncomputable def o98 (P : Params) : Obj := { cls := .type "type", data := Data.cls { name := Str.ofString "PolicyError", bases := [.ref 66], mro := [.ref 98, .ref 66, .type "Exception", .type "BaseException", .type "object"], ns := 97, qualname := Str.ofString "PolicyError" }, slots := #[some (.ref 82), none, some (kS "PolicyError" 291), some (kS "PolicyError" 299), some (.builtin "Exception.__new__"), some (.bool true)] }
noncomputable def o99 (P : Params) : Obj := { cls := .type "super", data := Data.fields #[.ref 98, .ref 98, .ref 98] }
noncomputable def o100 (P : Params) : Obj := { cls := .type "builtin_function_or_method", data := Data.fields #[.builtin "object.__init_subclass__", .ref 98] }
noncomputable def o3v4 (P : Params) : Obj := kD (kE P "__name__" 165 (kS "routeloom.policyrun" 388) :: ((d3 P).take 29).drop 1) 29
noncomputable def o12v4 (P : Params) : Obj := kM [kI 5, kI 0, .ref 20, kI 13, kI 0, .ref 27, kI 20, kI 0, .ref 34, kI 25, kI 0, .ref 41, kI 29, kI 0, .ref 48, kI 34, kI 0, .ref 55, kI 39, kI 0, .ref 75, kI 41, kI 0, .ref 87, kI 49, kI 0, .ref 106, kI 51, kI 0, .ref 113, kI 55, kI 0, .ref 120, kI 57, kI 0, .ref 127, kI 59, kI 0, .ref 134, kI 70, kI 0, .ref 141, kI 78, kI 0, .ref 148]
noncomputable def o101 (P : Params) : Obj := kT []
noncomputable def o102 (P : Params) : Obj := kM []
noncomputable def o103 (P : Params) : Obj := kT [kS "length" 326, kS "bits" 327]
noncomputable def o104 (P : Params) : Obj := kT []
noncomputable def o105 (P : Params) : Obj := kG "mask_of" "mask_of" s_mask_of
noncomputable def o106 (P : Params) : Obj := kC [kS "mask_of" 323, kS "mask_of" 324, kS "/claim/cut.py" 325, kI 49, kI 2, kI 0, kI 0, kI 3, .ref 101, .bool true, kI 181, .ref 102, .none, .ref 103, .ref 104, .ref 105, kI 328, kI 49, kS "/claim/cut.py" 329]
noncomputable def o107 (P : Params) : Obj := kF "mask_of" "mask_of" s_mask_of .none .none (kS "routeloom.prefixes" 317) (.ref 106)
noncomputable def o108 (P : Params) : Obj := kT []
noncomputable def o109 (P : Params) : Obj := kM []
noncomputable def o110 (P : Params) : Obj := kT [kS "address" 334, kS "length" 335, kS "bits" 336]
noncomputable def o111 (P : Params) : Obj := kT []
noncomputable def o112 (P : Params) : Obj := kG "is_prefix" "is_prefix" s_is_prefix
noncomputable def o113 (P : Params) : Obj := kC [kS "is_prefix" 331, kS "is_prefix" 332, kS "/claim/cut.py" 333, kI 51, kI 3, kI 0, kI 0, kI 3, .ref 108, .bool true, kI 181, .ref 109, .none, .ref 110, .ref 111, .ref 112, kI 337, kI 51, kS "/claim/cut.py" 338]
noncomputable def o114 (P : Params) : Obj := kF "is_prefix" "is_prefix" s_is_prefix .none .none (kS "routeloom.prefixes" 317) (.ref 113)
noncomputable def o115 (P : Params) : Obj := kT []
noncomputable def o116 (P : Params) : Obj := kM []
noncomputable def o117 (P : Params) : Obj := kT [kS "prefix" 343, kS "address" 344, kS "bits" 345]
noncomputable def o118 (P : Params) : Obj := kT []
noncomputable def o119 (P : Params) : Obj := kG "holds_address" "holds_address" s_holds_address
noncomputable def o120 (P : Params) : Obj := kC [kS "holds_address" 340, kS "holds_address" 341, kS "/claim/cut.py" 342, kI 55, kI 3, kI 0, kI 0, kI 3, .ref 115, .bool true, kI 181, .ref 116, .none, .ref 117, .ref 118, .ref 119, kI 346, kI 55, kS "/claim/cut.py" 347]
noncomputable def o121 (P : Params) : Obj := kF "holds_address" "holds_address" s_holds_address .none .none (kS "routeloom.prefixes" 317) (.ref 120)
noncomputable def o122 (P : Params) : Obj := kT []
noncomputable def o123 (P : Params) : Obj := kM []
noncomputable def o124 (P : Params) : Obj := kT [kS "one" 352, kS "other" 353, kS "bits" 354]
noncomputable def o125 (P : Params) : Obj := kT []
noncomputable def o126 (P : Params) : Obj := kG "covers" "covers" s_covers
noncomputable def o127 (P : Params) : Obj := kC [kS "covers" 349, kS "covers" 350, kS "/claim/cut.py" 351, kI 57, kI 3, kI 0, kI 0, kI 3, .ref 122, .bool true, kI 181, .ref 123, .none, .ref 124, .ref 125, .ref 126, kI 355, kI 57, kS "/claim/cut.py" 356]
noncomputable def o128 (P : Params) : Obj := kF "covers" "covers" s_covers .none .none (kS "routeloom.prefixes" 317) (.ref 127)
noncomputable def o129 (P : Params) : Obj := kT []
noncomputable def o130 (P : Params) : Obj := kM []
noncomputable def o131 (P : Params) : Obj := kT [kS "text" 361, kS "most" 362, kS "found" 363, kS "sign" 364]
noncomputable def o132 (P : Params) : Obj := kT []
noncomputable def o133 (P : Params) : Obj := kG "small_number" "small_number" s_small_number
noncomputable def o134 (P : Params) : Obj := kC [kS "small_number" 358, kS "small_number" 359, kS "/claim/cut.py" 360, kI 59, kI 2, kI 0, kI 0, kI 3, .ref 129, .bool true, kI 181, .ref 130, .none, .ref 131, .ref 132, .ref 133, kI 365, kI 59, kS "/claim/cut.py" 366]
noncomputable def o135 (P : Params) : Obj := kF "small_number" "small_number" s_small_number .none .none (kS "routeloom.prefixes" 317) (.ref 134)
noncomputable def o136 (P : Params) : Obj := kT []
noncomputable def o137 (P : Params) : Obj := kM []
noncomputable def o138 (P : Params) : Obj := kT [kS "text" 371, kS "parts" 372, kS "found" 373, kS "part" 374]
noncomputable def o139 (P : Params) : Obj := kT []
noncomputable def o140 (P : Params) : Obj := kG "read_address" "read_address" s_read_address
noncomputable def o141 (P : Params) : Obj := kC [kS "read_address" 368, kS "read_address" 369, kS "/claim/cut.py" 370, kI 70, kI 1, kI 0, kI 0, kI 3, .ref 136, .bool true, kI 181, .ref 137, .none, .ref 138, .ref 139, .ref 140, kI 375, kI 70, kS "/claim/cut.py" 376]
noncomputable def o142 (P : Params) : Obj := kF "read_address" "read_address" s_read_address .none .none (kS "routeloom.prefixes" 317) (.ref 141)
noncomputable def o143 (P : Params) : Obj := kT []
noncomputable def o144 (P : Params) : Obj := kM []
noncomputable def o145 (P : Params) : Obj := kT [kS "text" 381, kS "parts" 382, kS "address" 383, kS "length" 384]
noncomputable def o146 (P : Params) : Obj := kT []
noncomputable def o147 (P : Params) : Obj := kG "read_prefix" "read_prefix" s_read_prefix
noncomputable def o148 (P : Params) : Obj := kC [kS "read_prefix" 378, kS "read_prefix" 379, kS "/claim/cut.py" 380, kI 78, kI 1, kI 0, kI 0, kI 3, .ref 143, .bool true, kI 181, .ref 144, .none, .ref 145, .ref 146, .ref 147, kI 385, kI 78, kS "/claim/cut.py" 386]
noncomputable def o149 (P : Params) : Obj := kF "read_prefix" "read_prefix" s_read_prefix .none .none (kS "routeloom.prefixes" 317) (.ref 148)
noncomputable def o3v5 (P : Params) : Obj := kD (kE P "__name__" 165 (kS "routeloom.policyrun" 388) :: ((d3 P).take 30).drop 1) 30
noncomputable def o150 (P : Params) : Obj := { cls := .type "dict", data := Data.dict #[kE P "local-pref" 390 (kS "local_pref" 391), kE P "med" 392 (kS "med" 393), kE P "origin" 394 (kS "origin" 395), kE P "next-hop" 396 (kS "next_hop" 397), kE P "tag" 398 (kS "tag" 399)] 5 }
noncomputable def o3v6 (P : Params) : Obj := kD (kE P "__name__" 165 (kS "routeloom.policyrun" 388) :: ((d3 P).take 34).drop 1) 34
noncomputable def o3v7 (P : Params) : Obj := kD (kE P "__name__" 165 (kS "routeloom.policyrun" 388) :: ((d3 P).take 35).drop 1) 35
noncomputable def o151 (P : Params) : Obj := { cls := .type "dict", data := Data.dict #[kE P "accept" 414 (.int 1 408), kE P "reject" 415 (.int 2 410), kE P "next" 416 (.int 3 412)] 3 }
noncomputable def o3v8 (P : Params) : Obj := kD (kE P "__name__" 165 (kS "routeloom.communities" 497) :: ((d3 P).take 46).drop 1) 46
noncomputable def o12v8 (P : Params) : Obj := kM [kI 5, kI 0, .ref 20, kI 13, kI 0, .ref 27, kI 20, kI 0, .ref 34, kI 25, kI 0, .ref 41, kI 29, kI 0, .ref 48, kI 34, kI 0, .ref 55, kI 39, kI 0, .ref 75, kI 41, kI 0, .ref 87, kI 49, kI 0, .ref 106, kI 51, kI 0, .ref 113, kI 55, kI 0, .ref 120, kI 57, kI 0, .ref 127, kI 59, kI 0, .ref 134, kI 70, kI 0, .ref 141, kI 78, kI 0, .ref 148, kI 93, kI 0, .ref 157, kI 103, kI 0, .ref 164, kI 111, kI 0, .ref 171, kI 132, kI 0, .ref 176, kI 143, kI 0, .ref 181, kI 147, kI 0, .ref 186, kI 159, kI 0, .ref 193, kI 172, kI 0, .ref 200]
noncomputable def o152 (P : Params) : Obj := kT []
noncomputable def o153 (P : Params) : Obj := kM []
noncomputable def o154 (P : Params) : Obj := kT [kS "one" 424, kS "sign" 425, kS "other" 426]
noncomputable def o155 (P : Params) : Obj := kT []
noncomputable def o156 (P : Params) : Obj := kG "compares" "compares" (topStmt 30)
noncomputable def o157 (P : Params) : Obj := kC [kS "compares" 421, kS "compares" 422, kS "/claim/cut.py" 423, kI 93, kI 3, kI 0, kI 0, kI 3, .ref 152, .bool true, kI 181, .ref 153, .none, .ref 154, .ref 155, .ref 156, kI 427, kI 93, kS "/claim/cut.py" 428]
noncomputable def o158 (P : Params) : Obj := kF "compares" "compares" (topStmt 30) .none .none (kS "routeloom.policyrun" 388) (.ref 157)
noncomputable def o159 (P : Params) : Obj := kT []
noncomputable def o160 (P : Params) : Obj := kM []
noncomputable def o161 (P : Params) : Obj := kT [kS "field" 433, kS "prefix" 434, kS "attrs" 435, kS "facts" 436]
noncomputable def o162 (P : Params) : Obj := kT []
noncomputable def o163 (P : Params) : Obj := kG "field_number" "field_number" (topStmt 31)
noncomputable def o164 (P : Params) : Obj := kC [kS "field_number" 430, kS "field_number" 431, kS "/claim/cut.py" 432, kI 103, kI 4, kI 0, kI 0, kI 3, .ref 159, .bool true, kI 181, .ref 160, .none, .ref 161, .ref 162, .ref 163, kI 437, kI 103, kS "/claim/cut.py" 438]
noncomputable def o165 (P : Params) : Obj := kF "field_number" "field_number" (topStmt 31) .none .none (kS "routeloom.policyrun" 388) (.ref 164)
noncomputable def o166 (P : Params) : Obj := kT []
noncomputable def o167 (P : Params) : Obj := kM []
noncomputable def o168 (P : Params) : Obj := kT [kS "asked" 443, kS "prefix" 444, kS "attrs" 445, kS "facts" 446, kS "kind" 447]
noncomputable def o169 (P : Params) : Obj := kT []
noncomputable def o170 (P : Params) : Obj := kG "condition_holds" "condition_holds" s_condition_holds
noncomputable def o171 (P : Params) : Obj := kC [kS "condition_holds" 440, kS "condition_holds" 441, kS "/claim/cut.py" 442, kI 111, kI 4, kI 0, kI 0, kI 3, .ref 166, .bool true, kI 181, .ref 167, .none, .ref 168, .ref 169, .ref 170, kI 448, kI 111, kS "/claim/cut.py" 449]
noncomputable def o172 (P : Params) : Obj := kF "condition_holds" "condition_holds" s_condition_holds .none .none (kS "routeloom.policyrun" 388) (.ref 171)
noncomputable def o173 (P : Params) : Obj := kT []
noncomputable def o174 (P : Params) : Obj := kM []
noncomputable def o175 (P : Params) : Obj := kG "with_communities" "with_communities" (topStmt 33)
noncomputable def o176 (P : Params) : Obj := kC [kS "with_communities" 451, kS "with_communities" 452, kS "/claim/cut.py" 453, kI 132, kI 2, kI 0, kI 0, kI 3, .ref 173, .bool true, kI 181, .ref 174, .none, .none, .none, .ref 175, kI 454, kI 132, kS "/claim/cut.py" 455]
noncomputable def o177 (P : Params) : Obj := kF "with_communities" "with_communities" (topStmt 33) .none .none (kS "routeloom.policyrun" 388) (.ref 176)
noncomputable def o178 (P : Params) : Obj := kT []
noncomputable def o179 (P : Params) : Obj := kM []
noncomputable def o180 (P : Params) : Obj := kG "with_field" "with_field" (topStmt 34)
noncomputable def o181 (P : Params) : Obj := kC [kS "with_field" 457, kS "with_field" 458, kS "/claim/cut.py" 459, kI 143, kI 3, kI 0, kI 0, kI 3, .ref 178, .bool true, kI 181, .ref 179, .none, .none, .none, .ref 180, kI 460, kI 143, kS "/claim/cut.py" 461]
noncomputable def o182 (P : Params) : Obj := kF "with_field" "with_field" (topStmt 34) .none .none (kS "routeloom.policyrun" 388) (.ref 181)
noncomputable def o183 (P : Params) : Obj := kT []
noncomputable def o184 (P : Params) : Obj := kM []
noncomputable def o185 (P : Params) : Obj := kG "changed_route" "changed_route" (topStmt 35)
noncomputable def o186 (P : Params) : Obj := kC [kS "changed_route" 463, kS "changed_route" 464, kS "/claim/cut.py" 465, kI 147, kI 3, kI 0, kI 0, kI 3, .ref 183, .bool true, kI 181, .ref 184, .none, .none, .none, .ref 185, kI 466, kI 147, kS "/claim/cut.py" 467]
noncomputable def o187 (P : Params) : Obj := kF "changed_route" "changed_route" (topStmt 35) .none .none (kS "routeloom.policyrun" 388) (.ref 186)
noncomputable def o188 (P : Params) : Obj := kT []
noncomputable def o189 (P : Params) : Obj := kM []
noncomputable def o190 (P : Params) : Obj := kT [kS "statements" 472, kS "prefix" 473, kS "attrs" 474, kS "facts" 475, kS "statement" 476, kS "ended" 477, kS "holds" 478]
noncomputable def o191 (P : Params) : Obj := kT []
noncomputable def o192 (P : Params) : Obj := kG "run_statements" "run_statements" s_run_statements
noncomputable def o193 (P : Params) : Obj := kC [kS "run_statements" 469, kS "run_statements" 470, kS "/claim/cut.py" 471, kI 159, kI 4, kI 0, kI 0, kI 3, .ref 188, .bool true, kI 181, .ref 189, .none, .ref 190, .ref 191, .ref 192, kI 479, kI 159, kS "/claim/cut.py" 480]
noncomputable def o194 (P : Params) : Obj := kF "run_statements" "run_statements" s_run_statements .none .none (kS "routeloom.policyrun" 388) (.ref 193)
noncomputable def o195 (P : Params) : Obj := kT []
noncomputable def o196 (P : Params) : Obj := kM []
noncomputable def o197 (P : Params) : Obj := kT [kS "policy" 485, kS "prefix" 486, kS "attrs" 487, kS "facts" 488, kS "terms" 489, kS "fallback" 490, kS "name" 491, kS "statements" 492, kS "ended" 493]
noncomputable def o198 (P : Params) : Obj := kT []
noncomputable def o199 (P : Params) : Obj := kG "run_policy" "run_policy" s_run_policy
noncomputable def o200 (P : Params) : Obj := kC [kS "run_policy" 482, kS "run_policy" 483, kS "/claim/cut.py" 484, kI 172, kI 4, kI 0, kI 0, kI 3, .ref 195, .bool true, kI 181, .ref 196, .none, .ref 197, .ref 198, .ref 199, kI 494, kI 172, kS "/claim/cut.py" 495]
noncomputable def o201 (P : Params) : Obj := kF "run_policy" "run_policy" s_run_policy .none .none (kS "routeloom.policyrun" 388) (.ref 200)
noncomputable def o3v9 (P : Params) : Obj := kD (kE P "__name__" 165 (kS "routeloom.communities" 497) :: ((d3 P).take 47).drop 1) 47
noncomputable def o202 (P : Params) : Obj := { cls := .type "dict", data := Data.dict #[{ hash := 4294967041, key := .int 4294967041 499, val := kS "no-export" 505 }, { hash := 4294967042, key := .int 4294967042 501, val := kS "no-advertise" 506 }, { hash := 4294967043, key := .int 4294967043 503, val := kS "no-export-subconfed" 507 }] 3 }
noncomputable def o3v10 (P : Params) : Obj := kD (kE P "__name__" 165 (kS "routeloom.policyread" 616) :: ((d3 P).take 71).drop 1) 71
noncomputable def o12v10 (P : Params) : Obj := kM [kI 5, kI 0, .ref 20, kI 13, kI 0, .ref 27, kI 20, kI 0, .ref 34, kI 25, kI 0, .ref 41, kI 29, kI 0, .ref 48, kI 34, kI 0, .ref 55, kI 39, kI 0, .ref 75, kI 41, kI 0, .ref 87, kI 49, kI 0, .ref 106, kI 51, kI 0, .ref 113, kI 55, kI 0, .ref 120, kI 57, kI 0, .ref 127, kI 59, kI 0, .ref 134, kI 70, kI 0, .ref 141, kI 78, kI 0, .ref 148, kI 93, kI 0, .ref 157, kI 103, kI 0, .ref 164, kI 111, kI 0, .ref 171, kI 132, kI 0, .ref 176, kI 143, kI 0, .ref 181, kI 147, kI 0, .ref 186, kI 159, kI 0, .ref 193, kI 172, kI 0, .ref 200, kI 188, kI 0, .ref 208, kI 190, kI 0, .ref 213, kI 197, kI 0, .ref 220, kI 215, kI 0, .ref 228, kI 219, kI 0, .ref 235, kI 230, kI 0, .ref 242, kI 245, kI 0, .ref 249, kI 251, kI 0, .ref 256]
noncomputable def o203 (P : Params) : Obj := kT []
noncomputable def o204 (P : Params) : Obj := kM []
noncomputable def o205 (P : Params) : Obj := kT [kS "number" 521, kS "own" 522]
noncomputable def o206 (P : Params) : Obj := kT []
noncomputable def o207 (P : Params) : Obj := kG "community_of" "community_of" (topStmt 45)
noncomputable def o208 (P : Params) : Obj := kC [kS "community_of" 518, kS "community_of" 519, kS "/claim/cut.py" 520, kI 188, kI 2, kI 0, kI 0, kI 3, .ref 203, .bool true, kI 181, .ref 204, .none, .ref 205, .ref 206, .ref 207, kI 523, kI 188, kS "/claim/cut.py" 524]
noncomputable def o209 (P : Params) : Obj := kF "community_of" "community_of" (topStmt 45) .none .none (kS "routeloom.communities" 497) (.ref 208)
noncomputable def o210 (P : Params) : Obj := kT []
noncomputable def o211 (P : Params) : Obj := kM []
noncomputable def o212 (P : Params) : Obj := kG "half_of" "half_of" (topStmt 46)
noncomputable def o213 (P : Params) : Obj := kC [kS "half_of" 526, kS "half_of" 527, kS "/claim/cut.py" 528, kI 190, kI 1, kI 0, kI 0, kI 3, .ref 210, .bool true, kI 181, .ref 211, .none, .none, .none, .ref 212, kI 529, kI 190, kS "/claim/cut.py" 530]
noncomputable def o214 (P : Params) : Obj := kF "half_of" "half_of" (topStmt 46) .none .none (kS "routeloom.communities" 497) (.ref 213)
noncomputable def o215 (P : Params) : Obj := kT []
noncomputable def o216 (P : Params) : Obj := kM []
noncomputable def o217 (P : Params) : Obj := kT [kS "text" 535, kS "one" 536, kS "halves" 537]
noncomputable def o218 (P : Params) : Obj := kT []
noncomputable def o219 (P : Params) : Obj := kG "read_community" "read_community" (topStmt 47)
noncomputable def o220 (P : Params) : Obj := kC [kS "read_community" 532, kS "read_community" 533, kS "/claim/cut.py" 534, kI 197, kI 1, kI 0, kI 0, kI 3, .ref 215, .bool true, kI 181, .ref 216, .none, .ref 217, .ref 218, .ref 219, kI 538, kI 197, kS "/claim/cut.py" 539]
noncomputable def o221 (P : Params) : Obj := kF "read_community" "read_community" (topStmt 47) .none .none (kS "routeloom.communities" 497) (.ref 220)
noncomputable def o222 (P : Params) : Obj := kT [kS "<=" 554, kS ">=" 555, kS "!=" 556]
noncomputable def o223 (P : Params) : Obj := kT []
noncomputable def o224 (P : Params) : Obj := kM []
noncomputable def o225 (P : Params) : Obj := kT [kS "text" 569, kS "at" 570, kS "signs" 571]
noncomputable def o226 (P : Params) : Obj := kT []
noncomputable def o227 (P : Params) : Obj := kG "run_end" "run_end" s_run_end
noncomputable def o228 (P : Params) : Obj := kC [kS "run_end" 566, kS "run_end" 567, kS "/claim/cut.py" 568, kI 215, kI 3, kI 0, kI 0, kI 3, .ref 223, .bool true, kI 181, .ref 224, .none, .ref 225, .ref 226, .ref 227, kI 572, kI 215, kS "/claim/cut.py" 573]
noncomputable def o229 (P : Params) : Obj := kF "run_end" "run_end" s_run_end .none .none (kS "routeloom.policylex" 541) (.ref 228)
noncomputable def o230 (P : Params) : Obj := kT []
noncomputable def o231 (P : Params) : Obj := kM []
noncomputable def o232 (P : Params) : Obj := kT [kS "text" 578, kS "most" 579, kS "at" 580, kS "found" 581, kS "sign" 582]
noncomputable def o233 (P : Params) : Obj := kT []
noncomputable def o234 (P : Params) : Obj := kG "plain_number" "plain_number" s_plain_number
noncomputable def o235 (P : Params) : Obj := kC [kS "plain_number" 575, kS "plain_number" 576, kS "/claim/cut.py" 577, kI 219, kI 3, kI 0, kI 0, kI 3, .ref 230, .bool true, kI 181, .ref 231, .none, .ref 232, .ref 233, .ref 234, kI 583, kI 219, kS "/claim/cut.py" 584]
noncomputable def o236 (P : Params) : Obj := kF "plain_number" "plain_number" s_plain_number .none .none (kS "routeloom.policylex" 541) (.ref 235)
noncomputable def o237 (P : Params) : Obj := kT []
noncomputable def o238 (P : Params) : Obj := kM []
noncomputable def o239 (P : Params) : Obj := kT [kS "text" 589, kS "at" 590, kS "wrong" 591, kS "parts" 592, kS "high" 593, kS "low" 594]
noncomputable def o240 (P : Params) : Obj := kT []
noncomputable def o241 (P : Params) : Obj := kG "figures_token" "figures_token" s_figures_token
noncomputable def o242 (P : Params) : Obj := kC [kS "figures_token" 586, kS "figures_token" 587, kS "/claim/cut.py" 588, kI 230, kI 2, kI 0, kI 0, kI 3, .ref 237, .bool true, kI 181, .ref 238, .none, .ref 239, .ref 240, .ref 241, kI 595, kI 230, kS "/claim/cut.py" 596]
noncomputable def o243 (P : Params) : Obj := kF "figures_token" "figures_token" s_figures_token .none .none (kS "routeloom.policylex" 541) (.ref 242)
noncomputable def o244 (P : Params) : Obj := kT []
noncomputable def o245 (P : Params) : Obj := kM []
noncomputable def o246 (P : Params) : Obj := kT [kS "text" 601, kS "at" 602]
noncomputable def o247 (P : Params) : Obj := kT []
noncomputable def o248 (P : Params) : Obj := kG "sign_token" "sign_token" s_sign_token
noncomputable def o249 (P : Params) : Obj := kC [kS "sign_token" 598, kS "sign_token" 599, kS "/claim/cut.py" 600, kI 245, kI 2, kI 0, kI 0, kI 3, .ref 244, .bool true, kI 181, .ref 245, .none, .ref 246, .ref 247, .ref 248, kI 603, kI 245, kS "/claim/cut.py" 604]
noncomputable def o250 (P : Params) : Obj := kF "sign_token" "sign_token" s_sign_token .none .none (kS "routeloom.policylex" 541) (.ref 249)
noncomputable def o251 (P : Params) : Obj := kT []
noncomputable def o252 (P : Params) : Obj := kM []
noncomputable def o253 (P : Params) : Obj := kT [kS "text" 609, kS "found" 610, kS "at" 611, kS "end" 612]
noncomputable def o254 (P : Params) : Obj := kT []
noncomputable def o255 (P : Params) : Obj := kG "tokens_of" "tokens_of" s_tokens_of
noncomputable def o256 (P : Params) : Obj := kC [kS "tokens_of" 606, kS "tokens_of" 607, kS "/claim/cut.py" 608, kI 251, kI 1, kI 0, kI 0, kI 3, .ref 251, .bool true, kI 181, .ref 252, .none, .ref 253, .ref 254, .ref 255, kI 613, kI 251, kS "/claim/cut.py" 614]
noncomputable def o257 (P : Params) : Obj := kF "tokens_of" "tokens_of" s_tokens_of .none .none (kS "routeloom.policylex" 541) (.ref 256)
noncomputable def o258 (P : Params) : Obj := kT [kS "igp" 618, kS "egp" 619, kS "incomplete" 620]
noncomputable def o259 (P : Params) : Obj := kT [kS "med" 622, kS "local-pref" 623, kS "as-length" 624, kS "length" 625, kS "peer-as" 626, kS "tag" 627]
noncomputable def o260 (P : Params) : Obj := kT [kS "<" 629, kS "<=" 630, kS "=" 631, kS "!=" 632, kS ">=" 633, kS ">" 634]
noncomputable def o261 (P : Params) : Obj := kT [kS "local-pref" 636, kS "med" 637, kS "origin" 638, kS "next-hop" 639, kS "tag" 640]
noncomputable def o262 (P : Params) : Obj := kT [kS "accept" 642, kS "reject" 643, kS "next" 644]
noncomputable def o3v11 (P : Params) : Obj := kD (kE P "__name__" 165 (kS "routeloom.policyread" 616) :: ((d3 P).take 77).drop 1) 77
noncomputable def o263 (P : Params) : Obj := kT [kS "term" 646, kS "default" 647, kS "if" 648, kS "then" 649, kS "else" 650, kS "and" 651, kS "or" 652, kS "not" 653, kS "true" 654, kS "prefix" 655, kS "in" 656, kS "is" 657, kS "ge" 658, kS "le" 659, kS "community" 660, kS "as-path" 661, kS "has" 662, kS "first" 663, kS "set" 664, kS "add" 665, kS "drop" 666, kS "clear" 667, kS "prepend" 668, kS "self" 669]
noncomputable def o264 (P : Params) : Obj := kT [kS "term" 646, kS "default" 647, kS "if" 648, kS "then" 649, kS "else" 650, kS "and" 651, kS "or" 652, kS "not" 653, kS "true" 654, kS "prefix" 655, kS "in" 656, kS "is" 657, kS "ge" 658, kS "le" 659, kS "community" 660, kS "as-path" 661, kS "has" 662, kS "first" 663, kS "set" 664, kS "add" 665, kS "drop" 666, kS "clear" 667, kS "prepend" 668, kS "self" 669, kS "accept" 642, kS "reject" 643, kS "next" 644]
noncomputable def o265 (P : Params) : Obj := kT [kS "term" 646, kS "default" 647, kS "if" 648, kS "then" 649, kS "else" 650, kS "and" 651, kS "or" 652, kS "not" 653, kS "true" 654, kS "prefix" 655, kS "in" 656, kS "is" 657, kS "ge" 658, kS "le" 659, kS "community" 660, kS "as-path" 661, kS "has" 662, kS "first" 663, kS "set" 664, kS "add" 665, kS "drop" 666, kS "clear" 667, kS "prepend" 668, kS "self" 669, kS "accept" 642, kS "reject" 643, kS "next" 644, kS "med" 622, kS "local-pref" 623, kS "as-length" 624, kS "length" 625, kS "peer-as" 626, kS "tag" 627]
noncomputable def o266 (P : Params) : Obj := kT [kS "term" 646, kS "default" 647, kS "if" 648, kS "then" 649, kS "else" 650, kS "and" 651, kS "or" 652, kS "not" 653, kS "true" 654, kS "prefix" 655, kS "in" 656, kS "is" 657, kS "ge" 658, kS "le" 659, kS "community" 660, kS "as-path" 661, kS "has" 662, kS "first" 663, kS "set" 664, kS "add" 665, kS "drop" 666, kS "clear" 667, kS "prepend" 668, kS "self" 669, kS "accept" 642, kS "reject" 643, kS "next" 644, kS "med" 622, kS "local-pref" 623, kS "as-length" 624, kS "length" 625, kS "peer-as" 626, kS "tag" 627, kS "igp" 618, kS "egp" 619, kS "incomplete" 620]
noncomputable def o267 (P : Params) : Obj := kT [kS "term" 646, kS "default" 647, kS "if" 648, kS "then" 649, kS "else" 650, kS "and" 651, kS "or" 652, kS "not" 653, kS "true" 654, kS "prefix" 655, kS "in" 656, kS "is" 657, kS "ge" 658, kS "le" 659, kS "community" 660, kS "as-path" 661, kS "has" 662, kS "first" 663, kS "set" 664, kS "add" 665, kS "drop" 666, kS "clear" 667, kS "prepend" 668, kS "self" 669, kS "accept" 642, kS "reject" 643, kS "next" 644, kS "med" 622, kS "local-pref" 623, kS "as-length" 624, kS "length" 625, kS "peer-as" 626, kS "tag" 627, kS "igp" 618, kS "egp" 619, kS "incomplete" 620, kS "local-pref" 636, kS "med" 637, kS "origin" 638, kS "next-hop" 639, kS "tag" 640]
noncomputable def o3v12 (P : Params) : Obj := kD (kE P "__name__" 165 (kS "routeloom.policyread" 616) :: ((d3 P).take 78).drop 1) 78
noncomputable def o12v12 (P : Params) : Obj := kM [kI 5, kI 0, .ref 20, kI 13, kI 0, .ref 27, kI 20, kI 0, .ref 34, kI 25, kI 0, .ref 41, kI 29, kI 0, .ref 48, kI 34, kI 0, .ref 55, kI 39, kI 0, .ref 75, kI 41, kI 0, .ref 87, kI 49, kI 0, .ref 106, kI 51, kI 0, .ref 113, kI 55, kI 0, .ref 120, kI 57, kI 0, .ref 127, kI 59, kI 0, .ref 134, kI 70, kI 0, .ref 141, kI 78, kI 0, .ref 148, kI 93, kI 0, .ref 157, kI 103, kI 0, .ref 164, kI 111, kI 0, .ref 171, kI 132, kI 0, .ref 176, kI 143, kI 0, .ref 181, kI 147, kI 0, .ref 186, kI 159, kI 0, .ref 193, kI 172, kI 0, .ref 200, kI 188, kI 0, .ref 208, kI 190, kI 0, .ref 213, kI 197, kI 0, .ref 220, kI 215, kI 0, .ref 228, kI 219, kI 0, .ref 235, kI 230, kI 0, .ref 242, kI 245, kI 0, .ref 249, kI 251, kI 0, .ref 256, kI 284, kI 0, .ref 273]
noncomputable def o268 (P : Params) : Obj := kT []
noncomputable def o269 (P : Params) : Obj := { cls := .type "builtin_function_or_method", data := Data.fields #[.builtin "type.__prepare__", .type "type"] }
noncomputable def o270 (P : Params) : Obj := { cls := .type "dict", data := Data.dict #[kE P "__module__" 688 (kS "routeloom.policyread" 616), kE P "__qualname__" 690 (kS "TokenRow" 689), kE P "__firstlineno__" 692 (.int 284 691), kE P "__init__" 700 (.ref 281), kE P "kind" 707 (.ref 288), kE P "value" 714 (.ref 295), kE P "fault" 722 (.ref 302), kE P "is_next" 731 (.ref 309), kE P "skip" 740 (.ref 316), kE P "need" 749 (.ref 323), kE P "take" 757 (.ref 330), kE P "number" 766 (.ref 337), kE P "community" 772 (.ref 342), kE P "one_of" 780 (.ref 349), kE P "__static_attributes__" 783 (.ref 350)] 15 }
noncomputable def o271 (P : Params) : Obj := kT []
noncomputable def o272 (P : Params) : Obj := kM [kI 286, kI 4, .ref 280, kI 290, kI 4, .ref 287, kI 293, kI 4, .ref 294, kI 296, kI 4, .ref 301, kI 299, kI 4, .ref 308, kI 302, kI 4, .ref 315, kI 308, kI 4, .ref 322, kI 312, kI 4, .ref 329, kI 318, kI 4, .ref 336, kI 323, kI 4, .ref 341, kI 328, kI 4, .ref 348]
noncomputable def o273 (P : Params) : Obj := kC [kS "TokenRow" 683, kS "TokenRow" 684, kS "/claim/cut.py" 685, kI 284, kI 0, kI 0, kI 0, kI 0, .ref 271, .bool false, kI 181, .ref 272, .none, .none, .none, .none, kI 686, kI 284, kS "/claim/cut.py" 687]
noncomputable def o274 (P : Params) : Obj := { cls := .type "frame", slots := #[some (.ref 273), some (.ref 3), some (.ref 270), none, some (kS "routeloom.policyread" 616), none, some (.ref 0)] }
noncomputable def o275 (P : Params) : Obj := kT []
noncomputable def o276 (P : Params) : Obj := kM []
noncomputable def o277 (P : Params) : Obj := kT [kS "self" 696, kS "tokens" 697]
noncomputable def o278 (P : Params) : Obj := kT []
noncomputable def o279 (P : Params) : Obj := kG "__init__" "TokenRow.__init__" s_TokenRow__init
noncomputable def o280 (P : Params) : Obj := kC [kS "__init__" 693, kS "TokenRow.__init__" 694, kS "/claim/cut.py" 695, kI 286, kI 2, kI 0, kI 0, kI 3, .ref 275, .bool true, kI 181, .ref 276, .none, .ref 277, .ref 278, .ref 279, kI 698, kI 286, kS "/claim/cut.py" 699]
noncomputable def o281 (P : Params) : Obj := kF "__init__" "TokenRow.__init__" s_TokenRow__init .none .none (kS "routeloom.policyread" 616) (.ref 280)
noncomputable def o282 (P : Params) : Obj := kT []
noncomputable def o283 (P : Params) : Obj := kM []
noncomputable def o284 (P : Params) : Obj := kT [kS "self" 704]
noncomputable def o285 (P : Params) : Obj := kT []
noncomputable def o286 (P : Params) : Obj := kG "kind" "TokenRow.kind" s_TokenRow_kind
noncomputable def o287 (P : Params) : Obj := kC [kS "kind" 701, kS "TokenRow.kind" 702, kS "/claim/cut.py" 703, kI 290, kI 1, kI 0, kI 0, kI 3, .ref 282, .bool true, kI 181, .ref 283, .none, .ref 284, .ref 285, .ref 286, kI 705, kI 290, kS "/claim/cut.py" 706]
noncomputable def o288 (P : Params) : Obj := kF "kind" "TokenRow.kind" s_TokenRow_kind .none .none (kS "routeloom.policyread" 616) (.ref 287)
noncomputable def o289 (P : Params) : Obj := kT []
noncomputable def o290 (P : Params) : Obj := kM []
noncomputable def o291 (P : Params) : Obj := kT [kS "self" 711]
noncomputable def o292 (P : Params) : Obj := kT []
noncomputable def o293 (P : Params) : Obj := kG "value" "TokenRow.value" s_TokenRow_value
noncomputable def o294 (P : Params) : Obj := kC [kS "value" 708, kS "TokenRow.value" 709, kS "/claim/cut.py" 710, kI 293, kI 1, kI 0, kI 0, kI 3, .ref 289, .bool true, kI 181, .ref 290, .none, .ref 291, .ref 292, .ref 293, kI 712, kI 293, kS "/claim/cut.py" 713]
noncomputable def o295 (P : Params) : Obj := kF "value" "TokenRow.value" s_TokenRow_value .none .none (kS "routeloom.policyread" 616) (.ref 294)
noncomputable def o296 (P : Params) : Obj := kT []
noncomputable def o297 (P : Params) : Obj := kM []
noncomputable def o298 (P : Params) : Obj := kT [kS "self" 718, kS "text" 719]
noncomputable def o299 (P : Params) : Obj := kT []
noncomputable def o300 (P : Params) : Obj := kG "fault" "TokenRow.fault" (inClass (topStmt 75) 3)
noncomputable def o301 (P : Params) : Obj := kC [kS "fault" 715, kS "TokenRow.fault" 716, kS "/claim/cut.py" 717, kI 296, kI 2, kI 0, kI 0, kI 3, .ref 296, .bool true, kI 181, .ref 297, .none, .ref 298, .ref 299, .ref 300, kI 720, kI 296, kS "/claim/cut.py" 721]
noncomputable def o302 (P : Params) : Obj := kF "fault" "TokenRow.fault" (inClass (topStmt 75) 3) .none .none (kS "routeloom.policyread" 616) (.ref 301)
noncomputable def o303 (P : Params) : Obj := kT []
noncomputable def o304 (P : Params) : Obj := kM []
noncomputable def o305 (P : Params) : Obj := kT [kS "self" 726, kS "kind" 727, kS "value" 728]
noncomputable def o306 (P : Params) : Obj := kT []
noncomputable def o307 (P : Params) : Obj := kG "is_next" "TokenRow.is_next" s_TokenRow_is_next
noncomputable def o308 (P : Params) : Obj := kC [kS "is_next" 723, kS "TokenRow.is_next" 724, kS "/claim/cut.py" 725, kI 299, kI 3, kI 0, kI 0, kI 3, .ref 303, .bool true, kI 181, .ref 304, .none, .ref 305, .ref 306, .ref 307, kI 729, kI 299, kS "/claim/cut.py" 730]
noncomputable def o309 (P : Params) : Obj := kF "is_next" "TokenRow.is_next" s_TokenRow_is_next .none .none (kS "routeloom.policyread" 616) (.ref 308)
noncomputable def o310 (P : Params) : Obj := kT []
noncomputable def o311 (P : Params) : Obj := kM []
noncomputable def o312 (P : Params) : Obj := kT [kS "self" 735, kS "kind" 736, kS "value" 737]
noncomputable def o313 (P : Params) : Obj := kT []
noncomputable def o314 (P : Params) : Obj := kG "skip" "TokenRow.skip" s_TokenRow_skip
noncomputable def o315 (P : Params) : Obj := kC [kS "skip" 732, kS "TokenRow.skip" 733, kS "/claim/cut.py" 734, kI 302, kI 3, kI 0, kI 0, kI 3, .ref 310, .bool true, kI 181, .ref 311, .none, .ref 312, .ref 313, .ref 314, kI 738, kI 302, kS "/claim/cut.py" 739]
noncomputable def o316 (P : Params) : Obj := kF "skip" "TokenRow.skip" s_TokenRow_skip .none .none (kS "routeloom.policyread" 616) (.ref 315)
noncomputable def o317 (P : Params) : Obj := kT []
noncomputable def o318 (P : Params) : Obj := kM []
noncomputable def o319 (P : Params) : Obj := kT [kS "self" 744, kS "kind" 745, kS "value" 746]
noncomputable def o320 (P : Params) : Obj := kT []
noncomputable def o321 (P : Params) : Obj := kG "need" "TokenRow.need" s_TokenRow_need
noncomputable def o322 (P : Params) : Obj := kC [kS "need" 741, kS "TokenRow.need" 742, kS "/claim/cut.py" 743, kI 308, kI 3, kI 0, kI 0, kI 3, .ref 317, .bool true, kI 181, .ref 318, .none, .ref 319, .ref 320, .ref 321, kI 747, kI 308, kS "/claim/cut.py" 748]
noncomputable def o323 (P : Params) : Obj := kF "need" "TokenRow.need" s_TokenRow_need .none .none (kS "routeloom.policyread" 616) (.ref 322)
noncomputable def o324 (P : Params) : Obj := kT []
noncomputable def o325 (P : Params) : Obj := kM []
noncomputable def o326 (P : Params) : Obj := kT [kS "self" 753, kS "kind" 754]
noncomputable def o327 (P : Params) : Obj := kT []
noncomputable def o328 (P : Params) : Obj := kG "take" "TokenRow.take" s_TokenRow_take
noncomputable def o329 (P : Params) : Obj := kC [kS "take" 750, kS "TokenRow.take" 751, kS "/claim/cut.py" 752, kI 312, kI 2, kI 0, kI 0, kI 3, .ref 324, .bool true, kI 181, .ref 325, .none, .ref 326, .ref 327, .ref 328, kI 755, kI 312, kS "/claim/cut.py" 756]
noncomputable def o330 (P : Params) : Obj := kF "take" "TokenRow.take" s_TokenRow_take .none .none (kS "routeloom.policyread" 616) (.ref 329)
noncomputable def o331 (P : Params) : Obj := kT []
noncomputable def o332 (P : Params) : Obj := kM []
noncomputable def o333 (P : Params) : Obj := kT [kS "self" 761, kS "least" 762, kS "most" 763]
noncomputable def o334 (P : Params) : Obj := kT []
noncomputable def o335 (P : Params) : Obj := kG "number" "TokenRow.number" s_TokenRow_number
noncomputable def o336 (P : Params) : Obj := kC [kS "number" 758, kS "TokenRow.number" 759, kS "/claim/cut.py" 760, kI 318, kI 3, kI 0, kI 0, kI 3, .ref 331, .bool true, kI 181, .ref 332, .none, .ref 333, .ref 334, .ref 335, kI 764, kI 318, kS "/claim/cut.py" 765]
noncomputable def o337 (P : Params) : Obj := kF "number" "TokenRow.number" s_TokenRow_number .none .none (kS "routeloom.policyread" 616) (.ref 336)
noncomputable def o338 (P : Params) : Obj := kT []
noncomputable def o339 (P : Params) : Obj := kM []
noncomputable def o340 (P : Params) : Obj := kG "community" "TokenRow.community" (inClass (topStmt 75) 9)
noncomputable def o341 (P : Params) : Obj := kC [kS "community" 767, kS "TokenRow.community" 768, kS "/claim/cut.py" 769, kI 323, kI 1, kI 0, kI 0, kI 3, .ref 338, .bool true, kI 181, .ref 339, .none, .none, .none, .ref 340, kI 770, kI 323, kS "/claim/cut.py" 771]
noncomputable def o342 (P : Params) : Obj := kF "community" "TokenRow.community" (inClass (topStmt 75) 9) .none .none (kS "routeloom.policyread" 616) (.ref 341)
noncomputable def o343 (P : Params) : Obj := kT []
noncomputable def o344 (P : Params) : Obj := kM []
noncomputable def o345 (P : Params) : Obj := kT [kS "self" 776, kS "words" 777]
noncomputable def o346 (P : Params) : Obj := kT []
noncomputable def o347 (P : Params) : Obj := kG "one_of" "TokenRow.one_of" s_TokenRow_one_of
noncomputable def o348 (P : Params) : Obj := kC [kS "one_of" 773, kS "TokenRow.one_of" 774, kS "/claim/cut.py" 775, kI 328, kI 2, kI 0, kI 0, kI 3, .ref 343, .bool true, kI 181, .ref 344, .none, .ref 345, .ref 346, .ref 347, kI 778, kI 328, kS "/claim/cut.py" 779]
noncomputable def o349 (P : Params) : Obj := kF "one_of" "TokenRow.one_of" s_TokenRow_one_of .none .none (kS "routeloom.policyread" 616) (.ref 348)
noncomputable def o350 (P : Params) : Obj := kT [kS "at" 781, kS "tokens" 782]
noncomputable def o351 (P : Params) : Obj := { cls := .type "dict", data := Data.dict #[kE P "__module__" 688 (kS "routeloom.policyread" 616), kE P "__firstlineno__" 692 (.int 284 691), kE P "__init__" 700 (.ref 281), kE P "kind" 707 (.ref 288), kE P "value" 714 (.ref 295), kE P "fault" 722 (.ref 302), kE P "is_next" 731 (.ref 309), kE P "skip" 740 (.ref 316), kE P "need" 749 (.ref 323), kE P "take" 757 (.ref 330), kE P "number" 766 (.ref 337), kE P "community" 772 (.ref 342), kE P "one_of" 780 (.ref 349), kE P "__static_attributes__" 783 (.ref 350), kE P "__dict__" 785 (.ref 353), kE P "__weakref__" 787 (.ref 354), kE P "__doc__" 788 (.none)] 4 }
noncomputable def o352v12 (P : Params) : Obj := { cls := .type "type", data := Data.cls { name := Str.ofString "TokenRow", bases := [.type "object"], mro := [.ref 352, .type "object"], ns := 351, qualname := Str.ofString "TokenRow" }, slots := #[none, none, some (kS "TokenRow" 681), some (kS "TokenRow" 689), some (.builtin "object.__new__"), some (.bool true)] }
noncomputable def o353 (P : Params) : Obj := { cls := .type "getset_descriptor", data := Data.fields #[kS "__dict__" 784, .ref 352, .builtin "function.__dict__", .builtin "function.__dict__#set"] }
noncomputable def o354 (P : Params) : Obj := { cls := .type "getset_descriptor", data := Data.fields #[kS "__weakref__" 786, .ref 352, .builtin "ExceptionGroup.__weakref__", .none] }
noncomputable def o355 (P : Params) : Obj := { cls := .type "super", data := Data.fields #[.ref 352, .ref 352, .ref 352] }
noncomputable def o356 (P : Params) : Obj := { cls := .type "builtin_function_or_method", data := Data.fields #[.builtin "object.__init_subclass__", .ref 352] }
noncomputable def o3v13 (P : Params) : Obj := kD (kE P "__name__" 165 (kS "routeloom.policyread" 616) :: ((d3 P).take 79).drop 1) 79
noncomputable def o12v13 (P : Params) : Obj := kM [kI 5, kI 0, .ref 20, kI 13, kI 0, .ref 27, kI 20, kI 0, .ref 34, kI 25, kI 0, .ref 41, kI 29, kI 0, .ref 48, kI 34, kI 0, .ref 55, kI 39, kI 0, .ref 75, kI 41, kI 0, .ref 87, kI 49, kI 0, .ref 106, kI 51, kI 0, .ref 113, kI 55, kI 0, .ref 120, kI 57, kI 0, .ref 127, kI 59, kI 0, .ref 134, kI 70, kI 0, .ref 141, kI 78, kI 0, .ref 148, kI 93, kI 0, .ref 157, kI 103, kI 0, .ref 164, kI 111, kI 0, .ref 171, kI 132, kI 0, .ref 176, kI 143, kI 0, .ref 181, kI 147, kI 0, .ref 186, kI 159, kI 0, .ref 193, kI 172, kI 0, .ref 200, kI 188, kI 0, .ref 208, kI 190, kI 0, .ref 213, kI 197, kI 0, .ref 220, kI 215, kI 0, .ref 228, kI 219, kI 0, .ref 235, kI 230, kI 0, .ref 242, kI 245, kI 0, .ref 249, kI 251, kI 0, .ref 256, kI 284, kI 0, .ref 273, kI 332, kI 0, .ref 362]
noncomputable def o352 (P : Params) : Obj := { cls := .type "type", data := Data.cls { name := Str.ofString "TokenRow", bases := [.type "object"], mro := [.ref 352, .type "object"], ns := 351, qualname := Str.ofString "TokenRow", subclasses := [.ref 415] }, slots := #[none, none, some (kS "TokenRow" 681), some (kS "TokenRow" 689), some (.builtin "object.__new__"), some (.bool true)] }
noncomputable def o357 (P : Params) : Obj := kT [.ref 352]
noncomputable def o358 (P : Params) : Obj := { cls := .type "builtin_function_or_method", data := Data.fields #[.builtin "type.__prepare__", .type "type"] }
noncomputable def o359 (P : Params) : Obj := { cls := .type "dict", data := Data.dict #[kE P "__module__" 798 (kS "routeloom.policyread" 616), kE P "__qualname__" 800 (kS "ConditionReader" 799), kE P "__firstlineno__" 802 (.int 332 801), kE P "__init__" 811 (.ref 370), kE P "need_depth" 819 (.ref 377), kE P "need_room" 826 (.ref 384), kE P "any_of" 835 (.ref 391), kE P "all_of" 844 (.ref 398), kE P "plain" 854 (.ref 405), kE P "about_prefix" 864 (.ref 412), kE P "__static_attributes__" 867 (.ref 413)] 11 }
noncomputable def o360 (P : Params) : Obj := kT []
noncomputable def o361 (P : Params) : Obj := kM [kI 334, kI 4, .ref 369, kI 339, kI 4, .ref 376, kI 343, kI 4, .ref 383, kI 348, kI 4, .ref 390, kI 354, kI 4, .ref 397, kI 360, kI 4, .ref 404, kI 384, kI 4, .ref 411]
noncomputable def o362 (P : Params) : Obj := kC [kS "ConditionReader" 793, kS "ConditionReader" 794, kS "/claim/cut.py" 795, kI 332, kI 0, kI 0, kI 0, kI 0, .ref 360, .bool false, kI 181, .ref 361, .none, .none, .none, .none, kI 796, kI 332, kS "/claim/cut.py" 797]
noncomputable def o363 (P : Params) : Obj := { cls := .type "frame", slots := #[some (.ref 362), some (.ref 3), some (.ref 359), none, some (kS "routeloom.policyread" 616), none, some (.ref 0)] }
noncomputable def o364 (P : Params) : Obj := kT []
noncomputable def o365 (P : Params) : Obj := kM []
noncomputable def o366 (P : Params) : Obj := kT [kS "self" 806, kS "tokens" 807, kS "most_deep" 808]
noncomputable def o367 (P : Params) : Obj := kT []
noncomputable def o368 (P : Params) : Obj := kG "__init__" "ConditionReader.__init__" s_ConditionReader__init
noncomputable def o369 (P : Params) : Obj := kC [kS "__init__" 803, kS "ConditionReader.__init__" 804, kS "/claim/cut.py" 805, kI 334, kI 3, kI 0, kI 0, kI 3, .ref 364, .bool true, kI 181, .ref 365, .none, .ref 366, .ref 367, .ref 368, kI 809, kI 334, kS "/claim/cut.py" 810]
noncomputable def o370 (P : Params) : Obj := kF "__init__" "ConditionReader.__init__" s_ConditionReader__init .none .none (kS "routeloom.policyread" 616) (.ref 369)
noncomputable def o371 (P : Params) : Obj := kT []
noncomputable def o372 (P : Params) : Obj := kM []
noncomputable def o373 (P : Params) : Obj := kT [kS "self" 815, kS "deep" 816]
noncomputable def o374 (P : Params) : Obj := kT []
noncomputable def o375 (P : Params) : Obj := kG "need_depth" "ConditionReader.need_depth" s_ConditionReader_need_depth
noncomputable def o376 (P : Params) : Obj := kC [kS "need_depth" 812, kS "ConditionReader.need_depth" 813, kS "/claim/cut.py" 814, kI 339, kI 2, kI 0, kI 0, kI 3, .ref 371, .bool true, kI 181, .ref 372, .none, .ref 373, .ref 374, .ref 375, kI 817, kI 339, kS "/claim/cut.py" 818]
noncomputable def o377 (P : Params) : Obj := kF "need_depth" "ConditionReader.need_depth" s_ConditionReader_need_depth .none .none (kS "routeloom.policyread" 616) (.ref 376)
noncomputable def o378 (P : Params) : Obj := kT []
noncomputable def o379 (P : Params) : Obj := kM []
noncomputable def o380 (P : Params) : Obj := kT [kS "self" 823]
noncomputable def o381 (P : Params) : Obj := kT []
noncomputable def o382 (P : Params) : Obj := kG "need_room" "ConditionReader.need_room" s_ConditionReader_need_room
noncomputable def o383 (P : Params) : Obj := kC [kS "need_room" 820, kS "ConditionReader.need_room" 821, kS "/claim/cut.py" 822, kI 343, kI 1, kI 0, kI 0, kI 3, .ref 378, .bool true, kI 181, .ref 379, .none, .ref 380, .ref 381, .ref 382, kI 824, kI 343, kS "/claim/cut.py" 825]
noncomputable def o384 (P : Params) : Obj := kF "need_room" "ConditionReader.need_room" s_ConditionReader_need_room .none .none (kS "routeloom.policyread" 616) (.ref 383)
noncomputable def o385 (P : Params) : Obj := kT []
noncomputable def o386 (P : Params) : Obj := kM []
noncomputable def o387 (P : Params) : Obj := kT [kS "self" 830, kS "deep" 831, kS "found" 832]
noncomputable def o388 (P : Params) : Obj := kT []
noncomputable def o389 (P : Params) : Obj := kG "any_of" "ConditionReader.any_of" s_ConditionReader_any_of
noncomputable def o390 (P : Params) : Obj := kC [kS "any_of" 827, kS "ConditionReader.any_of" 828, kS "/claim/cut.py" 829, kI 348, kI 2, kI 0, kI 0, kI 3, .ref 385, .bool true, kI 181, .ref 386, .none, .ref 387, .ref 388, .ref 389, kI 833, kI 348, kS "/claim/cut.py" 834]
noncomputable def o391 (P : Params) : Obj := kF "any_of" "ConditionReader.any_of" s_ConditionReader_any_of .none .none (kS "routeloom.policyread" 616) (.ref 390)
noncomputable def o392 (P : Params) : Obj := kT []
noncomputable def o393 (P : Params) : Obj := kM []
noncomputable def o394 (P : Params) : Obj := kT [kS "self" 839, kS "deep" 840, kS "found" 841]
noncomputable def o395 (P : Params) : Obj := kT []
noncomputable def o396 (P : Params) : Obj := kG "all_of" "ConditionReader.all_of" s_ConditionReader_all_of
noncomputable def o397 (P : Params) : Obj := kC [kS "all_of" 836, kS "ConditionReader.all_of" 837, kS "/claim/cut.py" 838, kI 354, kI 2, kI 0, kI 0, kI 3, .ref 392, .bool true, kI 181, .ref 393, .none, .ref 394, .ref 395, .ref 396, kI 842, kI 354, kS "/claim/cut.py" 843]
noncomputable def o398 (P : Params) : Obj := kF "all_of" "ConditionReader.all_of" s_ConditionReader_all_of .none .none (kS "routeloom.policyread" 616) (.ref 397)
noncomputable def o399 (P : Params) : Obj := kT []
noncomputable def o400 (P : Params) : Obj := kM []
noncomputable def o401 (P : Params) : Obj := kT [kS "self" 848, kS "deep" 849, kS "found" 850, kS "field" 851]
noncomputable def o402 (P : Params) : Obj := kT []
noncomputable def o403 (P : Params) : Obj := kG "plain" "ConditionReader.plain" s_ConditionReader_plain
noncomputable def o404 (P : Params) : Obj := kC [kS "plain" 845, kS "ConditionReader.plain" 846, kS "/claim/cut.py" 847, kI 360, kI 2, kI 0, kI 0, kI 3, .ref 399, .bool true, kI 181, .ref 400, .none, .ref 401, .ref 402, .ref 403, kI 852, kI 360, kS "/claim/cut.py" 853]
noncomputable def o405 (P : Params) : Obj := kF "plain" "ConditionReader.plain" s_ConditionReader_plain .none .none (kS "routeloom.policyread" 616) (.ref 404)
noncomputable def o406 (P : Params) : Obj := kT []
noncomputable def o407 (P : Params) : Obj := kM []
noncomputable def o408 (P : Params) : Obj := kT [kS "self" 858, kS "told" 859, kS "least" 860, kS "most" 861]
noncomputable def o409 (P : Params) : Obj := kT []
noncomputable def o410 (P : Params) : Obj := kG "about_prefix" "ConditionReader.about_prefix" s_ConditionReader_about_prefix
noncomputable def o411 (P : Params) : Obj := kC [kS "about_prefix" 855, kS "ConditionReader.about_prefix" 856, kS "/claim/cut.py" 857, kI 384, kI 1, kI 0, kI 0, kI 3, .ref 406, .bool true, kI 181, .ref 407, .none, .ref 408, .ref 409, .ref 410, kI 862, kI 384, kS "/claim/cut.py" 863]
noncomputable def o412 (P : Params) : Obj := kF "about_prefix" "ConditionReader.about_prefix" s_ConditionReader_about_prefix .none .none (kS "routeloom.policyread" 616) (.ref 411)
noncomputable def o413 (P : Params) : Obj := kT [kS "most_deep" 865, kS "parts" 866]
noncomputable def o414 (P : Params) : Obj := { cls := .type "dict", data := Data.dict #[kE P "__module__" 798 (kS "routeloom.policyread" 616), kE P "__firstlineno__" 802 (.int 332 801), kE P "__init__" 811 (.ref 370), kE P "need_depth" 819 (.ref 377), kE P "need_room" 826 (.ref 384), kE P "any_of" 835 (.ref 391), kE P "all_of" 844 (.ref 398), kE P "plain" 854 (.ref 405), kE P "about_prefix" 864 (.ref 412), kE P "__static_attributes__" 867 (.ref 413), kE P "__doc__" 868 (.none)] 2 }
noncomputable def o415v13 (P : Params) : Obj := { cls := .type "type", data := Data.cls { name := Str.ofString "ConditionReader", bases := [.ref 352], mro := [.ref 415, .ref 352, .type "object"], ns := 414, qualname := Str.ofString "ConditionReader" }, slots := #[some (.ref 357), none, some (kS "ConditionReader" 791), some (kS "ConditionReader" 799), some (.builtin "object.__new__"), some (.bool true)] }
noncomputable def o416 (P : Params) : Obj := { cls := .type "super", data := Data.fields #[.ref 415, .ref 415, .ref 415] }
noncomputable def o417 (P : Params) : Obj := { cls := .type "builtin_function_or_method", data := Data.fields #[.builtin "object.__init_subclass__", .ref 415] }
noncomputable def o3v14 (P : Params) : Obj := kD ((d3 P).take 82) 82
noncomputable def o12v14 (P : Params) : Obj := kM [kI 5, kI 0, .ref 20, kI 13, kI 0, .ref 27, kI 20, kI 0, .ref 34, kI 25, kI 0, .ref 41, kI 29, kI 0, .ref 48, kI 34, kI 0, .ref 55, kI 39, kI 0, .ref 75, kI 41, kI 0, .ref 87, kI 49, kI 0, .ref 106, kI 51, kI 0, .ref 113, kI 55, kI 0, .ref 120, kI 57, kI 0, .ref 127, kI 59, kI 0, .ref 134, kI 70, kI 0, .ref 141, kI 78, kI 0, .ref 148, kI 93, kI 0, .ref 157, kI 103, kI 0, .ref 164, kI 111, kI 0, .ref 171, kI 132, kI 0, .ref 176, kI 143, kI 0, .ref 181, kI 147, kI 0, .ref 186, kI 159, kI 0, .ref 193, kI 172, kI 0, .ref 200, kI 188, kI 0, .ref 208, kI 190, kI 0, .ref 213, kI 197, kI 0, .ref 220, kI 215, kI 0, .ref 228, kI 219, kI 0, .ref 235, kI 230, kI 0, .ref 242, kI 245, kI 0, .ref 249, kI 251, kI 0, .ref 256, kI 284, kI 0, .ref 273, kI 332, kI 0, .ref 362, kI 396, kI 0, .ref 423, kI 465, kI 0, .ref 476, kI 468, kI 0, .ref 483]
noncomputable def o415 (P : Params) : Obj := { cls := .type "type", data := Data.cls { name := Str.ofString "ConditionReader", bases := [.ref 352], mro := [.ref 415, .ref 352, .type "object"], ns := 414, qualname := Str.ofString "ConditionReader", subclasses := [.ref 467] }, slots := #[some (.ref 357), none, some (kS "ConditionReader" 791), some (kS "ConditionReader" 799), some (.builtin "object.__new__"), some (.bool true)] }
noncomputable def o418 (P : Params) : Obj := kT [.ref 415]
noncomputable def o419 (P : Params) : Obj := { cls := .type "builtin_function_or_method", data := Data.fields #[.builtin "type.__prepare__", .type "type"] }
noncomputable def o420 (P : Params) : Obj := { cls := .type "dict", data := Data.dict #[kE P "__module__" 878 (kS "routeloom.policyread" 616), kE P "__qualname__" 880 (kS "PolicyReader" 879), kE P "__firstlineno__" 882 (.int 396 881), kE P "block" 891 (.ref 431), kE P "statements" 900 (.ref 438), kE P "statement" 911 (.ref 445), kE P "setting" 919 (.ref 452), kE P "term" 929 (.ref 459), kE P "policy" 935 (.ref 464), kE P "__static_attributes__" 937 (.ref 465)] 10 }
noncomputable def o421 (P : Params) : Obj := kT []
noncomputable def o422 (P : Params) : Obj := kM [kI 398, kI 4, .ref 430, kI 406, kI 4, .ref 437, kI 414, kI 4, .ref 444, kI 437, kI 4, .ref 451, kI 445, kI 4, .ref 458, kI 454, kI 4, .ref 463]
noncomputable def o423 (P : Params) : Obj := kC [kS "PolicyReader" 873, kS "PolicyReader" 874, kS "/claim/cut.py" 875, kI 396, kI 0, kI 0, kI 0, kI 0, .ref 421, .bool false, kI 181, .ref 422, .none, .none, .none, .none, kI 876, kI 396, kS "/claim/cut.py" 877]
noncomputable def o424 (P : Params) : Obj := { cls := .type "frame", slots := #[some (.ref 423), some (.ref 3), some (.ref 420), none, some (kS "routeloom.policyread" 616), none, some (.ref 0)] }
noncomputable def o425 (P : Params) : Obj := kT []
noncomputable def o426 (P : Params) : Obj := kM []
noncomputable def o427 (P : Params) : Obj := kT [kS "self" 886, kS "deep" 887, kS "found" 888]
noncomputable def o428 (P : Params) : Obj := kT []
noncomputable def o429 (P : Params) : Obj := kG "block" "PolicyReader.block" s_PolicyReader_block
noncomputable def o430 (P : Params) : Obj := kC [kS "block" 883, kS "PolicyReader.block" 884, kS "/claim/cut.py" 885, kI 398, kI 2, kI 0, kI 0, kI 3, .ref 425, .bool true, kI 181, .ref 426, .none, .ref 427, .ref 428, .ref 429, kI 889, kI 398, kS "/claim/cut.py" 890]
noncomputable def o431 (P : Params) : Obj := kF "block" "PolicyReader.block" s_PolicyReader_block .none .none (kS "routeloom.policyread" 616) (.ref 430)
noncomputable def o432 (P : Params) : Obj := kT []
noncomputable def o433 (P : Params) : Obj := kM []
noncomputable def o434 (P : Params) : Obj := kT [kS "self" 895, kS "deep" 896, kS "found" 897]
noncomputable def o435 (P : Params) : Obj := kT []
noncomputable def o436 (P : Params) : Obj := kG "statements" "PolicyReader.statements" s_PolicyReader_statements
noncomputable def o437 (P : Params) : Obj := kC [kS "statements" 892, kS "PolicyReader.statements" 893, kS "/claim/cut.py" 894, kI 406, kI 2, kI 0, kI 0, kI 3, .ref 432, .bool true, kI 181, .ref 433, .none, .ref 434, .ref 435, .ref 436, kI 898, kI 406, kS "/claim/cut.py" 899]
noncomputable def o438 (P : Params) : Obj := kF "statements" "PolicyReader.statements" s_PolicyReader_statements .none .none (kS "routeloom.policyread" 616) (.ref 437)
noncomputable def o439 (P : Params) : Obj := kT []
noncomputable def o440 (P : Params) : Obj := kM []
noncomputable def o441 (P : Params) : Obj := kT [kS "self" 904, kS "deep" 905, kS "asked" 906, kS "then" 907, kS "number" 908]
noncomputable def o442 (P : Params) : Obj := kT []
noncomputable def o443 (P : Params) : Obj := kG "statement" "PolicyReader.statement" s_PolicyReader_statement
noncomputable def o444 (P : Params) : Obj := kC [kS "statement" 901, kS "PolicyReader.statement" 902, kS "/claim/cut.py" 903, kI 414, kI 2, kI 0, kI 0, kI 3, .ref 439, .bool true, kI 181, .ref 440, .none, .ref 441, .ref 442, .ref 443, kI 909, kI 414, kS "/claim/cut.py" 910]
noncomputable def o445 (P : Params) : Obj := kF "statement" "PolicyReader.statement" s_PolicyReader_statement .none .none (kS "routeloom.policyread" 616) (.ref 444)
noncomputable def o446 (P : Params) : Obj := kT []
noncomputable def o447 (P : Params) : Obj := kM []
noncomputable def o448 (P : Params) : Obj := kT [kS "self" 915, kS "field" 916]
noncomputable def o449 (P : Params) : Obj := kT []
noncomputable def o450 (P : Params) : Obj := kG "setting" "PolicyReader.setting" (inClass (topStmt 77) 3)
noncomputable def o451 (P : Params) : Obj := kC [kS "setting" 912, kS "PolicyReader.setting" 913, kS "/claim/cut.py" 914, kI 437, kI 1, kI 0, kI 0, kI 3, .ref 446, .bool true, kI 181, .ref 447, .none, .ref 448, .ref 449, .ref 450, kI 917, kI 437, kS "/claim/cut.py" 918]
noncomputable def o452 (P : Params) : Obj := kF "setting" "PolicyReader.setting" (inClass (topStmt 77) 3) .none .none (kS "routeloom.policyread" 616) (.ref 451)
noncomputable def o453 (P : Params) : Obj := kT []
noncomputable def o454 (P : Params) : Obj := kM []
noncomputable def o455 (P : Params) : Obj := kT [kS "self" 923, kS "known" 924, kS "name" 925, kS "found" 926]
noncomputable def o456 (P : Params) : Obj := kT []
noncomputable def o457 (P : Params) : Obj := kG "term" "PolicyReader.term" s_PolicyReader_term
noncomputable def o458 (P : Params) : Obj := kC [kS "term" 920, kS "PolicyReader.term" 921, kS "/claim/cut.py" 922, kI 445, kI 2, kI 0, kI 0, kI 3, .ref 453, .bool true, kI 181, .ref 454, .none, .ref 455, .ref 456, .ref 457, kI 927, kI 445, kS "/claim/cut.py" 928]
noncomputable def o459 (P : Params) : Obj := kF "term" "PolicyReader.term" s_PolicyReader_term .none .none (kS "routeloom.policyread" 616) (.ref 458)
noncomputable def o460 (P : Params) : Obj := kT []
noncomputable def o461 (P : Params) : Obj := kM []
noncomputable def o462 (P : Params) : Obj := kG "policy" "PolicyReader.policy" s_PolicyReader_policy
noncomputable def o463 (P : Params) : Obj := kC [kS "policy" 930, kS "PolicyReader.policy" 931, kS "/claim/cut.py" 932, kI 454, kI 1, kI 0, kI 0, kI 3, .ref 460, .bool true, kI 181, .ref 461, .none, .none, .none, .ref 462, kI 933, kI 454, kS "/claim/cut.py" 934]
noncomputable def o464 (P : Params) : Obj := kF "policy" "PolicyReader.policy" s_PolicyReader_policy .none .none (kS "routeloom.policyread" 616) (.ref 463)
noncomputable def o465 (P : Params) : Obj := kT [kS "parts" 936]
noncomputable def o466 (P : Params) : Obj := { cls := .type "dict", data := Data.dict #[kE P "__module__" 878 (kS "routeloom.policyread" 616), kE P "__firstlineno__" 882 (.int 396 881), kE P "block" 891 (.ref 431), kE P "statements" 900 (.ref 438), kE P "statement" 911 (.ref 445), kE P "setting" 919 (.ref 452), kE P "term" 929 (.ref 459), kE P "policy" 935 (.ref 464), kE P "__static_attributes__" 937 (.ref 465), kE P "__doc__" 938 (.none)] 2 }
noncomputable def o467 (P : Params) : Obj := { cls := .type "type", data := Data.cls { name := Str.ofString "PolicyReader", bases := [.ref 415], mro := [.ref 467, .ref 415, .ref 352, .type "object"], ns := 466, qualname := Str.ofString "PolicyReader" }, slots := #[some (.ref 418), none, some (kS "PolicyReader" 871), some (kS "PolicyReader" 879), some (.builtin "object.__new__"), some (.bool true)] }
noncomputable def o468 (P : Params) : Obj := { cls := .type "super", data := Data.fields #[.ref 467, .ref 467, .ref 467] }
noncomputable def o469 (P : Params) : Obj := { cls := .type "builtin_function_or_method", data := Data.fields #[.builtin "object.__init_subclass__", .ref 467] }
noncomputable def o470 (P : Params) : Obj := kT [.int 12 677]
noncomputable def o471 (P : Params) : Obj := kT []
noncomputable def o472 (P : Params) : Obj := kM []
noncomputable def o473 (P : Params) : Obj := kT [kS "text" 944, kS "most_deep" 945]
noncomputable def o474 (P : Params) : Obj := kT []
noncomputable def o475 (P : Params) : Obj := kG "read_policy" "read_policy" s_read_policy
noncomputable def o476 (P : Params) : Obj := kC [kS "read_policy" 941, kS "read_policy" 942, kS "/claim/cut.py" 943, kI 465, kI 2, kI 0, kI 0, kI 3, .ref 471, .bool true, kI 181, .ref 472, .none, .ref 473, .ref 474, .ref 475, kI 946, kI 465, kS "/claim/cut.py" 947]
noncomputable def o477 (P : Params) : Obj := kF "read_policy" "read_policy" s_read_policy (.ref 470) .none (kS "routeloom.policyread" 616) (.ref 476)
noncomputable def o478 (P : Params) : Obj := kT []
noncomputable def o479 (P : Params) : Obj := kM []
noncomputable def o480 (P : Params) : Obj := kT [kS "box" 954, kS "many" 955]
noncomputable def o481 (P : Params) : Obj := kT []
noncomputable def o482 (P : Params) : Obj := kG "_law_draw" "_law_draw" s_law_draw
noncomputable def o483 (P : Params) : Obj := kC [kS "_law_draw" 951, kS "_law_draw" 952, kS "/claim/cut.py" 953, kI 468, kI 2, kI 0, kI 0, kI 3, .ref 478, .bool true, kI 181, .ref 479, .none, .ref 480, .ref 481, .ref 482, kI 956, kI 468, kS "/claim/cut.py" 957]
noncomputable def o484 (P : Params) : Obj := kF "_law_draw" "_law_draw" s_law_draw .none .none (kS "law_sz0118_01" 949) (.ref 483)
noncomputable def o3 (P : Params) : Obj := kD ((d3 P).take 93) 93
noncomputable def o12 (P : Params) : Obj := kM [kI 5, kI 0, .ref 20, kI 13, kI 0, .ref 27, kI 20, kI 0, .ref 34, kI 25, kI 0, .ref 41, kI 29, kI 0, .ref 48, kI 34, kI 0, .ref 55, kI 39, kI 0, .ref 75, kI 41, kI 0, .ref 87, kI 49, kI 0, .ref 106, kI 51, kI 0, .ref 113, kI 55, kI 0, .ref 120, kI 57, kI 0, .ref 127, kI 59, kI 0, .ref 134, kI 70, kI 0, .ref 141, kI 78, kI 0, .ref 148, kI 93, kI 0, .ref 157, kI 103, kI 0, .ref 164, kI 111, kI 0, .ref 171, kI 132, kI 0, .ref 176, kI 143, kI 0, .ref 181, kI 147, kI 0, .ref 186, kI 159, kI 0, .ref 193, kI 172, kI 0, .ref 200, kI 188, kI 0, .ref 208, kI 190, kI 0, .ref 213, kI 197, kI 0, .ref 220, kI 215, kI 0, .ref 228, kI 219, kI 0, .ref 235, kI 230, kI 0, .ref 242, kI 245, kI 0, .ref 249, kI 251, kI 0, .ref 256, kI 284, kI 0, .ref 273, kI 332, kI 0, .ref 362, kI 396, kI 0, .ref 423, kI 465, kI 0, .ref 476, kI 468, kI 0, .ref 483, kI 473, kI 0, .ref 490, kI 479, kI 0, .ref 497, kI 481, kI 0, .ref 504, kI 494, kI 0, .ref 511, kI 496, kI 0, .ref 516, kI 499, kI 0, .ref 521, kI 506, kI 0, .ref 526, kI 508, kI 0, .ref 533, kI 515, kI 0, .ref 540, kI 521, kI 0, .ref 545, kI 523, kI 0, .ref 550]
noncomputable def o485 (P : Params) : Obj := kT []
noncomputable def o486 (P : Params) : Obj := kM []
noncomputable def o487 (P : Params) : Obj := kT [kS "bits" 962, kS "found" 963, kS "length" 964, kS "number" 965]
noncomputable def o488 (P : Params) : Obj := kT []
noncomputable def o489 (P : Params) : Obj := kG "_law_all" "_law_all" s_law_all
noncomputable def o490 (P : Params) : Obj := kC [kS "_law_all" 959, kS "_law_all" 960, kS "/claim/cut.py" 961, kI 473, kI 1, kI 0, kI 0, kI 3, .ref 485, .bool true, kI 181, .ref 486, .none, .ref 487, .ref 488, .ref 489, kI 966, kI 473, kS "/claim/cut.py" 967]
noncomputable def o491 (P : Params) : Obj := kF "_law_all" "_law_all" s_law_all .none .none (kS "law_sz0118_01" 949) (.ref 490)
noncomputable def o492 (P : Params) : Obj := kT []
noncomputable def o493 (P : Params) : Obj := kM []
noncomputable def o494 (P : Params) : Obj := kT [kS "pair" 972]
noncomputable def o495 (P : Params) : Obj := kT []
noncomputable def o496 (P : Params) : Obj := kG "_law_wide" "_law_wide" s_law_wide
noncomputable def o497 (P : Params) : Obj := kC [kS "_law_wide" 969, kS "_law_wide" 970, kS "/claim/cut.py" 971, kI 479, kI 1, kI 0, kI 0, kI 3, .ref 492, .bool true, kI 181, .ref 493, .none, .ref 494, .ref 495, .ref 496, kI 973, kI 479, kS "/claim/cut.py" 974]
noncomputable def o498 (P : Params) : Obj := kF "_law_wide" "_law_wide" s_law_wide .none .none (kS "law_sz0118_01" 949) (.ref 497)
noncomputable def o499 (P : Params) : Obj := kT []
noncomputable def o500 (P : Params) : Obj := kM []
noncomputable def o501 (P : Params) : Obj := kT [kS "box" 979, kS "bits" 980, kS "form" 981, kS "length" 982, kS "number" 983, kS "text" 984, kS "least" 985, kS "most" 986]
noncomputable def o502 (P : Params) : Obj := kT []
noncomputable def o503 (P : Params) : Obj := kG "_law_word" "_law_word" s_law_word
noncomputable def o504 (P : Params) : Obj := kC [kS "_law_word" 976, kS "_law_word" 977, kS "/claim/cut.py" 978, kI 481, kI 2, kI 0, kI 0, kI 3, .ref 499, .bool true, kI 181, .ref 500, .none, .ref 501, .ref 502, .ref 503, kI 987, kI 481, kS "/claim/cut.py" 988]
noncomputable def o505 (P : Params) : Obj := kF "_law_word" "_law_word" s_law_word .none .none (kS "law_sz0118_01" 949) (.ref 504)
noncomputable def o506 (P : Params) : Obj := kT []
noncomputable def o507 (P : Params) : Obj := kM []
noncomputable def o508 (P : Params) : Obj := kT [kS "one" 993, kS "other" 994]
noncomputable def o509 (P : Params) : Obj := kT []
noncomputable def o510 (P : Params) : Obj := kG "_law_covers" "_law_covers" s_law_covers
noncomputable def o511 (P : Params) : Obj := kC [kS "_law_covers" 990, kS "_law_covers" 991, kS "/claim/cut.py" 992, kI 494, kI 2, kI 0, kI 0, kI 3, .ref 506, .bool true, kI 181, .ref 507, .none, .ref 508, .ref 509, .ref 510, kI 995, kI 494, kS "/claim/cut.py" 996]
noncomputable def o512 (P : Params) : Obj := kF "_law_covers" "_law_covers" s_law_covers .none .none (kS "law_sz0118_01" 949) (.ref 511)
noncomputable def o513 (P : Params) : Obj := kT []
noncomputable def o514 (P : Params) : Obj := kM []
noncomputable def o515 (P : Params) : Obj := kG "_law_set" "_law_set" s_law_set
noncomputable def o516 (P : Params) : Obj := kC [kS "_law_set" 998, kS "_law_set" 999, kS "/claim/cut.py" 1000, kI 496, kI 2, kI 0, kI 0, kI 3, .ref 513, .bool true, kI 181, .ref 514, .none, .none, .none, .ref 515, kI 1001, kI 496, kS "/claim/cut.py" 1002]
noncomputable def o517 (P : Params) : Obj := kF "_law_set" "_law_set" s_law_set .none .none (kS "law_sz0118_01" 949) (.ref 516)
noncomputable def o518 (P : Params) : Obj := kT []
noncomputable def o519 (P : Params) : Obj := kM []
noncomputable def o520 (P : Params) : Obj := kG "_law_let" "_law_let" s_law_let
noncomputable def o521 (P : Params) : Obj := kC [kS "_law_let" 1004, kS "_law_let" 1005, kS "/claim/cut.py" 1006, kI 499, kI 2, kI 0, kI 0, kI 3, .ref 518, .bool true, kI 181, .ref 519, .none, .none, .none, .ref 520, kI 1007, kI 499, kS "/claim/cut.py" 1008]
noncomputable def o522 (P : Params) : Obj := kF "_law_let" "_law_let" s_law_let .none .none (kS "law_sz0118_01" 949) (.ref 521)
noncomputable def o523 (P : Params) : Obj := kT []
noncomputable def o524 (P : Params) : Obj := kM []
noncomputable def o525 (P : Params) : Obj := kG "_law_run" "_law_run" s_law_run
noncomputable def o526 (P : Params) : Obj := kC [kS "_law_run" 1010, kS "_law_run" 1011, kS "/claim/cut.py" 1012, kI 506, kI 2, kI 0, kI 0, kI 3, .ref 523, .bool true, kI 181, .ref 524, .none, .none, .none, .ref 525, kI 1013, kI 506, kS "/claim/cut.py" 1014]
noncomputable def o527 (P : Params) : Obj := kF "_law_run" "_law_run" s_law_run .none .none (kS "law_sz0118_01" 949) (.ref 526)
noncomputable def o528 (P : Params) : Obj := kT []
noncomputable def o529 (P : Params) : Obj := kM []
noncomputable def o530 (P : Params) : Obj := kT [kS "policy" 1019, kS "other" 1020, kS "terms" 1021, kS "name" 1022, kS "statements" 1023, kS "asked" 1024, kS "then" 1025, kS "behind" 1026]
noncomputable def o531 (P : Params) : Obj := kT []
noncomputable def o532 (P : Params) : Obj := kG "_law_turned" "_law_turned" s_law_turned
noncomputable def o533 (P : Params) : Obj := kC [kS "_law_turned" 1016, kS "_law_turned" 1017, kS "/claim/cut.py" 1018, kI 508, kI 1, kI 0, kI 0, kI 3, .ref 528, .bool true, kI 181, .ref 529, .none, .ref 530, .ref 531, .ref 532, kI 1027, kI 508, kS "/claim/cut.py" 1028]
noncomputable def o534 (P : Params) : Obj := kF "_law_turned" "_law_turned" s_law_turned .none .none (kS "law_sz0118_01" 949) (.ref 533)
noncomputable def o535 (P : Params) : Obj := kT []
noncomputable def o536 (P : Params) : Obj := kM []
noncomputable def o537 (P : Params) : Obj := kT [kS "one" 1033, kS "other" 1034, kS "first" 1035, kS "second" 1036, kS "least" 1037, kS "most" 1038]
noncomputable def o538 (P : Params) : Obj := kT []
noncomputable def o539 (P : Params) : Obj := kG "_law_meet" "_law_meet" s_law_meet
noncomputable def o540 (P : Params) : Obj := kC [kS "_law_meet" 1030, kS "_law_meet" 1031, kS "/claim/cut.py" 1032, kI 515, kI 2, kI 0, kI 0, kI 3, .ref 535, .bool true, kI 181, .ref 536, .none, .ref 537, .ref 538, .ref 539, kI 1039, kI 515, kS "/claim/cut.py" 1040]
noncomputable def o541 (P : Params) : Obj := kF "_law_meet" "_law_meet" s_law_meet .none .none (kS "law_sz0118_01" 949) (.ref 540)
noncomputable def o542 (P : Params) : Obj := kT []
noncomputable def o543 (P : Params) : Obj := kM []
noncomputable def o544 (P : Params) : Obj := kG "_law_held" "_law_held" s_law_held
noncomputable def o545 (P : Params) : Obj := kC [kS "_law_held" 1042, kS "_law_held" 1043, kS "/claim/cut.py" 1044, kI 521, kI 2, kI 0, kI 0, kI 3, .ref 542, .bool true, kI 181, .ref 543, .none, .none, .none, .ref 544, kI 1045, kI 521, kS "/claim/cut.py" 1046]
noncomputable def o546 (P : Params) : Obj := kF "_law_held" "_law_held" s_law_held .none .none (kS "law_sz0118_01" 949) (.ref 545)
noncomputable def o547 (P : Params) : Obj := kT []
noncomputable def o548 (P : Params) : Obj := kM []
noncomputable def o549 (P : Params) : Obj := kG "law" "law" s_law
noncomputable def o550 (P : Params) : Obj := kC [kS "law" 1048, kS "law" 1049, kS "/claim/cut.py" 1050, kI 523, kI 1, kI 0, kI 0, kI 3, .ref 547, .bool true, kI 181, .ref 548, .none, .none, .none, .ref 549, kI 1051, kI 523, kS "/claim/cut.py" 1052]
noncomputable def o551 (P : Params) : Obj := kF "law" "law" s_law .none .none (kS "law_sz0118_01" 949) (.ref 550)
noncomputable def KK (P : Params) : Frag := [(2, o2 P), (3, o3 P), (15, o15 P), (17, o17 P), (18, o18 P), (20, o20 P), (22, o22 P), (24, o24 P), (25, o25 P), (27, o27 P), (29, o29 P), (31, o31 P), (32, o32 P), (34, o34 P), (36, o36 P), (38, o38 P), (39, o39 P), (41, o41 P), (43, o43 P), (45, o45 P), (46, o46 P), (48, o48 P), (50, o50 P), (57, o57 P), (59, o59 P), (60, o60 P), (62, o62 P), (64, o64 P), (65, o65 P), (66, o66 P), (67, o67 P), (70, o70 P), (77, o77 P), (78, o78 P), (79, o79 P), (82, o82 P), (89, o89 P), (91, o91 P), (92, o92 P), (94, o94 P), (96, o96 P), (97, o97 P), (98, o98 P), (101, o101 P), (103, o103 P), (104, o104 P), (106, o106 P), (107, o107 P), (108, o108 P), (110, o110 P), (111, o111 P), (113, o113 P), (114, o114 P), (115, o115 P), (117, o117 P), (118, o118 P), (120, o120 P), (121, o121 P), (122, o122 P), (124, o124 P), (125, o125 P), (127, o127 P), (128, o128 P), (129, o129 P), (131, o131 P), (132, o132 P), (134, o134 P), (135, o135 P), (136, o136 P), (138, o138 P), (139, o139 P), (141, o141 P), (142, o142 P), (143, o143 P), (145, o145 P), (146, o146 P), (148, o148 P), (149, o149 P), (150, o150 P), (151, o151 P), (152, o152 P), (154, o154 P), (155, o155 P), (157, o157 P), (159, o159 P), (161, o161 P), (162, o162 P), (164, o164 P), (166, o166 P), (168, o168 P), (169, o169 P), (171, o171 P), (172, o172 P), (173, o173 P), (176, o176 P), (178, o178 P), (181, o181 P), (183, o183 P), (186, o186 P), (188, o188 P), (190, o190 P), (191, o191 P), (193, o193 P), (194, o194 P), (195, o195 P), (197, o197 P), (198, o198 P), (200, o200 P), (201, o201 P), (202, o202 P), (203, o203 P), (205, o205 P), (206, o206 P), (208, o208 P), (210, o210 P), (213, o213 P), (215, o215 P), (217, o217 P), (218, o218 P), (220, o220 P), (222, o222 P), (223, o223 P), (225, o225 P), (226, o226 P), (228, o228 P), (229, o229 P), (230, o230 P), (232, o232 P), (233, o233 P), (235, o235 P), (236, o236 P), (237, o237 P), (239, o239 P), (240, o240 P), (242, o242 P), (243, o243 P), (244, o244 P), (246, o246 P), (247, o247 P), (249, o249 P), (250, o250 P), (251, o251 P), (253, o253 P), (254, o254 P), (256, o256 P), (257, o257 P), (258, o258 P), (259, o259 P), (260, o260 P), (261, o261 P), (262, o262 P), (267, o267 P), (275, o275 P), (277, o277 P), (278, o278 P), (280, o280 P), (281, o281 P), (282, o282 P), (284, o284 P), (285, o285 P), (287, o287 P), (288, o288 P), (289, o289 P), (291, o291 P), (292, o292 P), (294, o294 P), (295, o295 P), (296, o296 P), (298, o298 P), (299, o299 P), (301, o301 P), (303, o303 P), (305, o305 P), (306, o306 P), (308, o308 P), (309, o309 P), (310, o310 P), (312, o312 P), (313, o313 P), (315, o315 P), (316, o316 P), (317, o317 P), (319, o319 P), (320, o320 P), (322, o322 P), (323, o323 P), (324, o324 P), (326, o326 P), (327, o327 P), (329, o329 P), (330, o330 P), (331, o331 P), (333, o333 P), (334, o334 P), (336, o336 P), (337, o337 P), (338, o338 P), (341, o341 P), (343, o343 P), (345, o345 P), (346, o346 P), (348, o348 P), (349, o349 P), (350, o350 P), (351, o351 P), (352, o352 P), (353, o353 P), (354, o354 P), (357, o357 P), (364, o364 P), (366, o366 P), (367, o367 P), (369, o369 P), (370, o370 P), (371, o371 P), (373, o373 P), (374, o374 P), (376, o376 P), (377, o377 P), (378, o378 P), (380, o380 P), (381, o381 P), (383, o383 P), (384, o384 P), (385, o385 P), (387, o387 P), (388, o388 P), (390, o390 P), (391, o391 P), (392, o392 P), (394, o394 P), (395, o395 P), (397, o397 P), (398, o398 P), (399, o399 P), (401, o401 P), (402, o402 P), (404, o404 P), (405, o405 P), (406, o406 P), (408, o408 P), (409, o409 P), (411, o411 P), (412, o412 P), (413, o413 P), (414, o414 P), (415, o415 P), (418, o418 P), (425, o425 P), (427, o427 P), (428, o428 P), (430, o430 P), (431, o431 P), (432, o432 P), (434, o434 P), (435, o435 P), (437, o437 P), (438, o438 P), (439, o439 P), (441, o441 P), (442, o442 P), (444, o444 P), (445, o445 P), (446, o446 P), (448, o448 P), (449, o449 P), (451, o451 P), (453, o453 P), (455, o455 P), (456, o456 P), (458, o458 P), (459, o459 P), (460, o460 P), (463, o463 P), (464, o464 P), (465, o465 P), (466, o466 P), (467, o467 P), (470, o470 P), (471, o471 P), (473, o473 P), (474, o474 P), (476, o476 P), (477, o477 P), (478, o478 P), (480, o480 P), (481, o481 P), (483, o483 P), (484, o484 P), (485, o485 P), (487, o487 P), (488, o488 P), (490, o490 P), (491, o491 P), (492, o492 P), (494, o494 P), (495, o495 P), (497, o497 P), (498, o498 P), (499, o499 P), (501, o501 P), (502, o502 P), (504, o504 P), (505, o505 P), (506, o506 P), (508, o508 P), (509, o509 P), (511, o511 P), (512, o512 P), (513, o513 P), (516, o516 P), (517, o517 P), (518, o518 P), (521, o521 P), (522, o522 P), (523, o523 P), (526, o526 P), (527, o527 P), (528, o528 P), (530, o530 P), (531, o531 P), (533, o533 P), (534, o534 P), (535, o535 P), (537, o537 P), (538, o538 P), (540, o540 P), (541, o541 P), (542, o542 P), (545, o545 P), (546, o546 P), (547, o547 P), (550, o550 P), (551, o551 P)]
noncomputable def asK : List Addr := [2, 3, 15, 17, 18, 20, 22, 24, 25, 27, 29, 31, 32, 34, 36, 38, 39, 41, 43, 45, 46, 48, 50, 57, 59, 60, 62, 64, 65, 66, 67, 70, 77, 78, 79, 82, 89, 91, 92, 94, 96, 97, 98, 101, 103, 104, 106, 107, 108, 110, 111, 113, 114, 115, 117, 118, 120, 121, 122, 124, 125, 127, 128, 129, 131, 132, 134, 135, 136, 138, 139, 141, 142, 143, 145, 146, 148, 149, 150, 151, 152, 154, 155, 157, 159, 161, 162, 164, 166, 168, 169, 171, 172, 173, 176, 178, 181, 183, 186, 188, 190, 191, 193, 194, 195, 197, 198, 200, 201, 202, 203, 205, 206, 208, 210, 213, 215, 217, 218, 220, 222, 223, 225, 226, 228, 229, 230, 232, 233, 235, 236, 237, 239, 240, 242, 243, 244, 246, 247, 249, 250, 251, 253, 254, 256, 257, 258, 259, 260, 261, 262, 267, 275, 277, 278, 280, 281, 282, 284, 285, 287, 288, 289, 291, 292, 294, 295, 296, 298, 299, 301, 303, 305, 306, 308, 309, 310, 312, 313, 315, 316, 317, 319, 320, 322, 323, 324, 326, 327, 329, 330, 331, 333, 334, 336, 337, 338, 341, 343, 345, 346, 348, 349, 350, 351, 352, 353, 354, 357, 364, 366, 367, 369, 370, 371, 373, 374, 376, 377, 378, 380, 381, 383, 384, 385, 387, 388, 390, 391, 392, 394, 395, 397, 398, 399, 401, 402, 404, 405, 406, 408, 409, 411, 412, 413, 414, 415, 418, 425, 427, 428, 430, 431, 432, 434, 435, 437, 438, 439, 441, 442, 444, 445, 446, 448, 449, 451, 453, 455, 456, 458, 459, 460, 463, 464, 465, 466, 467, 470, 471, 473, 474, 476, 477, 478, 480, 481, 483, 484, 485, 487, 488, 490, 491, 492, 494, 495, 497, 498, 499, 501, 502, 504, 505, 506, 508, 509, 511, 512, 513, 516, 517, 518, 521, 522, 523, 526, 527, 528, 530, 531, 533, 534, 535, 537, 538, 540, 541, 542, 545, 546, 547, 550, 551]
noncomputable def viewQ : Program := { PG with main := { PG.main with body := PG.main.body.drop 91 } }
noncomputable def looseL : List Str := (["SET", "SEQUENCE", "MOST_IN_SEGMENT", "path_length", "neighbour_as", "path_has", "put_ahead", "prepended", "RouteError", "ConfigError", "PolicyError", "WIRE_BITS", "FIGURES_prefixes", "mask_of", "is_prefix", "holds_address", "covers", "small_number", "read_address", "read_prefix", "FIELDS", "ON", "ACCEPTED", "REJECTED", "NEXT", "ENDS", "compares", "field_number", "condition_holds", "with_communities", "with_field", "changed_route", "run_statements", "run_policy", "NO_EXPORT", "NO_ADVERTISE", "NO_EXPORT_SUBCONFED", "WELL_KNOWN", "HALF", "FIGURES_communities", "community_of", "half_of", "read_community", "LETTERS", "WORD_SIGNS", "NUMBER_SIGNS", "BLANKS", "LONG_SIGNS", "SHORT_SIGNS", "MOST_FIGURES", "MOST_NUMBER_policylex", "MOST_HALF", "run_end", "plain_number", "figures_token", "sign_token", "tokens_of", "ORIGINS", "COMPARED", "COMPARE_SIGNS", "SET_FIELDS", "VERDICTS", "RESERVED", "MOST_AS", "MOST_NUMBER_policyread", "MOST_PREPENDED", "MOST_DEEP", "MOST_PARTS", "TokenRow", "ConditionReader", "PolicyReader", "read_policy", "_law_draw", "_law_all", "_law_wide", "_law_word", "_law_covers", "_law_set", "_law_let", "_law_run", "_law_turned", "_law_meet", "_law_held"] : List String).map Str.ofString
noncomputable abbrev p0 : Pos := { line := 0, col := 0, endLine := 0, endCol := 0 }
noncomputable abbrev pB : List Frame := [topFrame p0]
noncomputable abbrev annQ : Option Value := some (Value.ref 6)
noncomputable def envQ : Env := { scope := PG.main.scope, locals := mainNs, globals := mainNs, cells := [], code := Value.ref 13, frame := some 14 }
noncomputable def bQ : List Stmt := behindTheImports PG
noncomputable def cQ : Code := .body bQ envQ
noncomputable def HA (P : Params) : Heap := ⟨#[boot_o_0 P, boot_o_1 P, boot_o_2 P, boot_o_3 P, boot_o_4 P, boot_o_5 P, boot_o_6 P, boot_o_7 P, boot_o_8 P, boot_o_9 P, boot_o_10 P, o11 P, o12v0 P, o13 P, o14 P], {}⟩
noncomputable def T0 (P : Params) : BT := nd (boot_o_0 P) (nd (boot_o_1 P) (nd (boot_o_3 P) (lf (boot_o_7 P)) (lf (o11 P))) (nd (boot_o_5 P) (lf (boot_o_9 P)) (lf (o13 P)))) (nd (boot_o_2 P) (nd (boot_o_4 P) (lf (boot_o_8 P)) (lf (o12v0 P))) (nd (boot_o_6 P) (lf (boot_o_10 P)) (lf (o14 P))))
noncomputable abbrev S0 (w : World) (os : OsState) : SharedT := ⟨T0 w.params, 15, {}, #[], {}, 187, os⟩
noncomputable def T1 (P : Params) : BT := nd (boot_o_0 P) (nd (boot_o_1 P) (nd (o3v2 P) (nd (boot_o_7 P) (nd (o15 P) (nd (o31 P) (lf (o63 P)) z) (lf (o47 P))) (nd (o23 P) (lf (o39 P)) (lf (o55 P)))) (nd (o11 P) (nd (o19 P) (nd (o35 P) (lf (o67 P)) z) (lf (o51 P))) (nd (o27 P) (lf (o43 P)) (lf (o59 P))))) (nd (boot_o_5 P) (nd (boot_o_9 P) (nd (o17 P) (nd (o33 P) (lf (o65 P)) z) (lf (o49 P))) (nd (o25 P) (lf (o41 P)) (lf (o57 P)))) (nd (o13 P) (nd (o21 P) (nd (o37 P) (lf (o69 P)) z) (lf (o53 P))) (nd (o29 P) (lf (o45 P)) (lf (o61 P)))))) (nd (o2 P) (nd (boot_o_4 P) (nd (boot_o_8 P) (nd (o16 P) (nd (o32 P) (lf (o64 P)) z) (lf (o48 P))) (nd (o24 P) (lf (o40 P)) (lf (o56 P)))) (nd (o12v2 P) (nd (o20 P) (nd (o36 P) (lf (o68 P)) z) (lf (o52 P))) (nd (o28 P) (lf (o44 P)) (lf (o60 P))))) (nd (boot_o_6 P) (nd (boot_o_10 P) (nd (o18 P) (nd (o34 P) (lf (o66v2 P)) z) (lf (o50 P))) (nd (o26 P) (lf (o42 P)) (lf (o58 P)))) (nd (o14 P) (nd (o22 P) (lf (o38 P)) (lf (o54 P))) (nd (o30 P) (lf (o46 P)) (lf (o62 P))))))
noncomputable abbrev S1 (w : World) (os : OsState) : SharedT := ⟨T1 w.params, 70, {}, #[], {}, 275, os⟩
noncomputable def T2 (P : Params) : BT := nd (boot_o_0 P) (nd (boot_o_1 P) (nd (o3v3 P) (nd (boot_o_7 P) (nd (o15 P) (nd (o31 P) (lf (o63 P)) (lf (o95 P))) (nd (o47 P) (lf (o79 P)) z)) (nd (o23 P) (nd (o39 P) (lf (o71 P)) z) (nd (o55 P) (lf (o87 P)) z))) (nd (o11 P) (nd (o19 P) (nd (o35 P) (lf (o67 P)) (lf (o99 P))) (nd (o51 P) (lf (o83 P)) z)) (nd (o27 P) (nd (o43 P) (lf (o75 P)) z) (nd (o59 P) (lf (o91 P)) z)))) (nd (boot_o_5 P) (nd (boot_o_9 P) (nd (o17 P) (nd (o33 P) (lf (o65 P)) (lf (o97 P))) (nd (o49 P) (lf (o81 P)) z)) (nd (o25 P) (nd (o41 P) (lf (o73 P)) z) (nd (o57 P) (lf (o89 P)) z))) (nd (o13 P) (nd (o21 P) (nd (o37 P) (lf (o69 P)) z) (nd (o53 P) (lf (o85 P)) z)) (nd (o29 P) (nd (o45 P) (lf (o77 P)) z) (nd (o61 P) (lf (o93 P)) z))))) (nd (o2 P) (nd (boot_o_4 P) (nd (boot_o_8 P) (nd (o16 P) (nd (o32 P) (lf (o64 P)) (lf (o96 P))) (nd (o48 P) (lf (o80 P)) z)) (nd (o24 P) (nd (o40 P) (lf (o72 P)) z) (nd (o56 P) (lf (o88 P)) z))) (nd (o12v3 P) (nd (o20 P) (nd (o36 P) (lf (o68 P)) (lf (o100 P))) (nd (o52 P) (lf (o84 P)) z)) (nd (o28 P) (nd (o44 P) (lf (o76 P)) z) (nd (o60 P) (lf (o92 P)) z)))) (nd (boot_o_6 P) (nd (boot_o_10 P) (nd (o18 P) (nd (o34 P) (lf (o66 P)) (lf (o98 P))) (nd (o50 P) (lf (o82 P)) z)) (nd (o26 P) (nd (o42 P) (lf (o74 P)) z) (nd (o58 P) (lf (o90 P)) z))) (nd (o14 P) (nd (o22 P) (nd (o38 P) (lf (o70 P)) z) (nd (o54 P) (lf (o86 P)) z)) (nd (o30 P) (nd (o46 P) (lf (o78 P)) z) (nd (o62 P) (lf (o94 P)) z)))))
noncomputable abbrev S2 (w : World) (os : OsState) : SharedT := ⟨T2 w.params, 101, {}, #[], {}, 323, os⟩
noncomputable def T3 (P : Params) : BT := nd (boot_o_0 P) (nd (boot_o_1 P) (nd (o3v4 P) (nd (boot_o_7 P) (nd (o15 P) (nd (o31 P) (nd (o63 P) (lf (o127 P)) z) (lf (o95 P))) (nd (o47 P) (nd (o79 P) (lf (o143 P)) z) (lf (o111 P)))) (nd (o23 P) (nd (o39 P) (nd (o71 P) (lf (o135 P)) z) (lf (o103 P))) (nd (o55 P) (lf (o87 P)) (lf (o119 P))))) (nd (o11 P) (nd (o19 P) (nd (o35 P) (nd (o67 P) (lf (o131 P)) z) (lf (o99 P))) (nd (o51 P) (nd (o83 P) (lf (o147 P)) z) (lf (o115 P)))) (nd (o27 P) (nd (o43 P) (nd (o75 P) (lf (o139 P)) z) (lf (o107 P))) (nd (o59 P) (lf (o91 P)) (lf (o123 P)))))) (nd (boot_o_5 P) (nd (boot_o_9 P) (nd (o17 P) (nd (o33 P) (nd (o65 P) (lf (o129 P)) z) (lf (o97 P))) (nd (o49 P) (nd (o81 P) (lf (o145 P)) z) (lf (o113 P)))) (nd (o25 P) (nd (o41 P) (nd (o73 P) (lf (o137 P)) z) (lf (o105 P))) (nd (o57 P) (lf (o89 P)) (lf (o121 P))))) (nd (o13 P) (nd (o21 P) (nd (o37 P) (nd (o69 P) (lf (o133 P)) z) (lf (o101 P))) (nd (o53 P) (nd (o85 P) (lf (o149 P)) z) (lf (o117 P)))) (nd (o29 P) (nd (o45 P) (nd (o77 P) (lf (o141 P)) z) (lf (o109 P))) (nd (o61 P) (lf (o93 P)) (lf (o125 P))))))) (nd (o2 P) (nd (boot_o_4 P) (nd (boot_o_8 P) (nd (o16 P) (nd (o32 P) (nd (o64 P) (lf (o128 P)) z) (lf (o96 P))) (nd (o48 P) (nd (o80 P) (lf (o144 P)) z) (lf (o112 P)))) (nd (o24 P) (nd (o40 P) (nd (o72 P) (lf (o136 P)) z) (lf (o104 P))) (nd (o56 P) (lf (o88 P)) (lf (o120 P))))) (nd (o12v4 P) (nd (o20 P) (nd (o36 P) (nd (o68 P) (lf (o132 P)) z) (lf (o100 P))) (nd (o52 P) (nd (o84 P) (lf (o148 P)) z) (lf (o116 P)))) (nd (o28 P) (nd (o44 P) (nd (o76 P) (lf (o140 P)) z) (lf (o108 P))) (nd (o60 P) (lf (o92 P)) (lf (o124 P)))))) (nd (boot_o_6 P) (nd (boot_o_10 P) (nd (o18 P) (nd (o34 P) (nd (o66 P) (lf (o130 P)) z) (lf (o98 P))) (nd (o50 P) (nd (o82 P) (lf (o146 P)) z) (lf (o114 P)))) (nd (o26 P) (nd (o42 P) (nd (o74 P) (lf (o138 P)) z) (lf (o106 P))) (nd (o58 P) (lf (o90 P)) (lf (o122 P))))) (nd (o14 P) (nd (o22 P) (nd (o38 P) (nd (o70 P) (lf (o134 P)) z) (lf (o102 P))) (nd (o54 P) (lf (o86 P)) (lf (o118 P)))) (nd (o30 P) (nd (o46 P) (nd (o78 P) (lf (o142 P)) z) (lf (o110 P))) (nd (o62 P) (lf (o94 P)) (lf (o126 P)))))))
noncomputable abbrev S3 (w : World) (os : OsState) : SharedT := ⟨T3 w.params, 150, {}, #[], {}, 390, os⟩
noncomputable def T4 (P : Params) : BT := nd (boot_o_0 P) (nd (boot_o_1 P) (nd (o3v5 P) (nd (boot_o_7 P) (nd (o15 P) (nd (o31 P) (nd (o63 P) (lf (o127 P)) z) (lf (o95 P))) (nd (o47 P) (nd (o79 P) (lf (o143 P)) z) (lf (o111 P)))) (nd (o23 P) (nd (o39 P) (nd (o71 P) (lf (o135 P)) z) (lf (o103 P))) (nd (o55 P) (lf (o87 P)) (lf (o119 P))))) (nd (o11 P) (nd (o19 P) (nd (o35 P) (nd (o67 P) (lf (o131 P)) z) (lf (o99 P))) (nd (o51 P) (nd (o83 P) (lf (o147 P)) z) (lf (o115 P)))) (nd (o27 P) (nd (o43 P) (nd (o75 P) (lf (o139 P)) z) (lf (o107 P))) (nd (o59 P) (lf (o91 P)) (lf (o123 P)))))) (nd (boot_o_5 P) (nd (boot_o_9 P) (nd (o17 P) (nd (o33 P) (nd (o65 P) (lf (o129 P)) z) (lf (o97 P))) (nd (o49 P) (nd (o81 P) (lf (o145 P)) z) (lf (o113 P)))) (nd (o25 P) (nd (o41 P) (nd (o73 P) (lf (o137 P)) z) (lf (o105 P))) (nd (o57 P) (lf (o89 P)) (lf (o121 P))))) (nd (o13 P) (nd (o21 P) (nd (o37 P) (nd (o69 P) (lf (o133 P)) z) (lf (o101 P))) (nd (o53 P) (nd (o85 P) (lf (o149 P)) z) (lf (o117 P)))) (nd (o29 P) (nd (o45 P) (nd (o77 P) (lf (o141 P)) z) (lf (o109 P))) (nd (o61 P) (lf (o93 P)) (lf (o125 P))))))) (nd (o2 P) (nd (boot_o_4 P) (nd (boot_o_8 P) (nd (o16 P) (nd (o32 P) (nd (o64 P) (lf (o128 P)) z) (lf (o96 P))) (nd (o48 P) (nd (o80 P) (lf (o144 P)) z) (lf (o112 P)))) (nd (o24 P) (nd (o40 P) (nd (o72 P) (lf (o136 P)) z) (lf (o104 P))) (nd (o56 P) (lf (o88 P)) (lf (o120 P))))) (nd (o12v4 P) (nd (o20 P) (nd (o36 P) (nd (o68 P) (lf (o132 P)) z) (lf (o100 P))) (nd (o52 P) (nd (o84 P) (lf (o148 P)) z) (lf (o116 P)))) (nd (o28 P) (nd (o44 P) (nd (o76 P) (lf (o140 P)) z) (lf (o108 P))) (nd (o60 P) (lf (o92 P)) (lf (o124 P)))))) (nd (boot_o_6 P) (nd (boot_o_10 P) (nd (o18 P) (nd (o34 P) (nd (o66 P) (lf (o130 P)) z) (lf (o98 P))) (nd (o50 P) (nd (o82 P) (lf (o146 P)) z) (lf (o114 P)))) (nd (o26 P) (nd (o42 P) (nd (o74 P) (lf (o138 P)) z) (lf (o106 P))) (nd (o58 P) (lf (o90 P)) (lf (o122 P))))) (nd (o14 P) (nd (o22 P) (nd (o38 P) (nd (o70 P) (lf (o134 P)) z) (lf (o102 P))) (nd (o54 P) (nd (o86 P) (lf (o150 P)) z) (lf (o118 P)))) (nd (o30 P) (nd (o46 P) (nd (o78 P) (lf (o142 P)) z) (lf (o110 P))) (nd (o62 P) (lf (o94 P)) (lf (o126 P)))))))
noncomputable abbrev S4 (w : World) (os : OsState) : SharedT := ⟨T4 w.params, 151, {}, #[], {}, 406, os⟩
noncomputable def T5 (P : Params) : BT := nd (boot_o_0 P) (nd (boot_o_1 P) (nd (o3v6 P) (nd (boot_o_7 P) (nd (o15 P) (nd (o31 P) (nd (o63 P) (lf (o127 P)) z) (lf (o95 P))) (nd (o47 P) (nd (o79 P) (lf (o143 P)) z) (lf (o111 P)))) (nd (o23 P) (nd (o39 P) (nd (o71 P) (lf (o135 P)) z) (lf (o103 P))) (nd (o55 P) (lf (o87 P)) (lf (o119 P))))) (nd (o11 P) (nd (o19 P) (nd (o35 P) (nd (o67 P) (lf (o131 P)) z) (lf (o99 P))) (nd (o51 P) (nd (o83 P) (lf (o147 P)) z) (lf (o115 P)))) (nd (o27 P) (nd (o43 P) (nd (o75 P) (lf (o139 P)) z) (lf (o107 P))) (nd (o59 P) (lf (o91 P)) (lf (o123 P)))))) (nd (boot_o_5 P) (nd (boot_o_9 P) (nd (o17 P) (nd (o33 P) (nd (o65 P) (lf (o129 P)) z) (lf (o97 P))) (nd (o49 P) (nd (o81 P) (lf (o145 P)) z) (lf (o113 P)))) (nd (o25 P) (nd (o41 P) (nd (o73 P) (lf (o137 P)) z) (lf (o105 P))) (nd (o57 P) (lf (o89 P)) (lf (o121 P))))) (nd (o13 P) (nd (o21 P) (nd (o37 P) (nd (o69 P) (lf (o133 P)) z) (lf (o101 P))) (nd (o53 P) (nd (o85 P) (lf (o149 P)) z) (lf (o117 P)))) (nd (o29 P) (nd (o45 P) (nd (o77 P) (lf (o141 P)) z) (lf (o109 P))) (nd (o61 P) (lf (o93 P)) (lf (o125 P))))))) (nd (o2 P) (nd (boot_o_4 P) (nd (boot_o_8 P) (nd (o16 P) (nd (o32 P) (nd (o64 P) (lf (o128 P)) z) (lf (o96 P))) (nd (o48 P) (nd (o80 P) (lf (o144 P)) z) (lf (o112 P)))) (nd (o24 P) (nd (o40 P) (nd (o72 P) (lf (o136 P)) z) (lf (o104 P))) (nd (o56 P) (lf (o88 P)) (lf (o120 P))))) (nd (o12v4 P) (nd (o20 P) (nd (o36 P) (nd (o68 P) (lf (o132 P)) z) (lf (o100 P))) (nd (o52 P) (nd (o84 P) (lf (o148 P)) z) (lf (o116 P)))) (nd (o28 P) (nd (o44 P) (nd (o76 P) (lf (o140 P)) z) (lf (o108 P))) (nd (o60 P) (lf (o92 P)) (lf (o124 P)))))) (nd (boot_o_6 P) (nd (boot_o_10 P) (nd (o18 P) (nd (o34 P) (nd (o66 P) (lf (o130 P)) z) (lf (o98 P))) (nd (o50 P) (nd (o82 P) (lf (o146 P)) z) (lf (o114 P)))) (nd (o26 P) (nd (o42 P) (nd (o74 P) (lf (o138 P)) z) (lf (o106 P))) (nd (o58 P) (lf (o90 P)) (lf (o122 P))))) (nd (o14 P) (nd (o22 P) (nd (o38 P) (nd (o70 P) (lf (o134 P)) z) (lf (o102 P))) (nd (o54 P) (nd (o86 P) (lf (o150 P)) z) (lf (o118 P)))) (nd (o30 P) (nd (o46 P) (nd (o78 P) (lf (o142 P)) z) (lf (o110 P))) (nd (o62 P) (lf (o94 P)) (lf (o126 P)))))))
noncomputable abbrev S5 (w : World) (os : OsState) : SharedT := ⟨T5 w.params, 151, {}, #[], {}, 414, os⟩
noncomputable def T6 (P : Params) : BT := nd (boot_o_0 P) (nd (boot_o_1 P) (nd (o3v7 P) (nd (boot_o_7 P) (nd (o15 P) (nd (o31 P) (nd (o63 P) (lf (o127 P)) z) (lf (o95 P))) (nd (o47 P) (nd (o79 P) (lf (o143 P)) z) (lf (o111 P)))) (nd (o23 P) (nd (o39 P) (nd (o71 P) (lf (o135 P)) z) (lf (o103 P))) (nd (o55 P) (nd (o87 P) (lf (o151 P)) z) (lf (o119 P))))) (nd (o11 P) (nd (o19 P) (nd (o35 P) (nd (o67 P) (lf (o131 P)) z) (lf (o99 P))) (nd (o51 P) (nd (o83 P) (lf (o147 P)) z) (lf (o115 P)))) (nd (o27 P) (nd (o43 P) (nd (o75 P) (lf (o139 P)) z) (lf (o107 P))) (nd (o59 P) (lf (o91 P)) (lf (o123 P)))))) (nd (boot_o_5 P) (nd (boot_o_9 P) (nd (o17 P) (nd (o33 P) (nd (o65 P) (lf (o129 P)) z) (lf (o97 P))) (nd (o49 P) (nd (o81 P) (lf (o145 P)) z) (lf (o113 P)))) (nd (o25 P) (nd (o41 P) (nd (o73 P) (lf (o137 P)) z) (lf (o105 P))) (nd (o57 P) (lf (o89 P)) (lf (o121 P))))) (nd (o13 P) (nd (o21 P) (nd (o37 P) (nd (o69 P) (lf (o133 P)) z) (lf (o101 P))) (nd (o53 P) (nd (o85 P) (lf (o149 P)) z) (lf (o117 P)))) (nd (o29 P) (nd (o45 P) (nd (o77 P) (lf (o141 P)) z) (lf (o109 P))) (nd (o61 P) (lf (o93 P)) (lf (o125 P))))))) (nd (o2 P) (nd (boot_o_4 P) (nd (boot_o_8 P) (nd (o16 P) (nd (o32 P) (nd (o64 P) (lf (o128 P)) z) (lf (o96 P))) (nd (o48 P) (nd (o80 P) (lf (o144 P)) z) (lf (o112 P)))) (nd (o24 P) (nd (o40 P) (nd (o72 P) (lf (o136 P)) z) (lf (o104 P))) (nd (o56 P) (lf (o88 P)) (lf (o120 P))))) (nd (o12v4 P) (nd (o20 P) (nd (o36 P) (nd (o68 P) (lf (o132 P)) z) (lf (o100 P))) (nd (o52 P) (nd (o84 P) (lf (o148 P)) z) (lf (o116 P)))) (nd (o28 P) (nd (o44 P) (nd (o76 P) (lf (o140 P)) z) (lf (o108 P))) (nd (o60 P) (lf (o92 P)) (lf (o124 P)))))) (nd (boot_o_6 P) (nd (boot_o_10 P) (nd (o18 P) (nd (o34 P) (nd (o66 P) (lf (o130 P)) z) (lf (o98 P))) (nd (o50 P) (nd (o82 P) (lf (o146 P)) z) (lf (o114 P)))) (nd (o26 P) (nd (o42 P) (nd (o74 P) (lf (o138 P)) z) (lf (o106 P))) (nd (o58 P) (lf (o90 P)) (lf (o122 P))))) (nd (o14 P) (nd (o22 P) (nd (o38 P) (nd (o70 P) (lf (o134 P)) z) (lf (o102 P))) (nd (o54 P) (nd (o86 P) (lf (o150 P)) z) (lf (o118 P)))) (nd (o30 P) (nd (o46 P) (nd (o78 P) (lf (o142 P)) z) (lf (o110 P))) (nd (o62 P) (lf (o94 P)) (lf (o126 P)))))))
noncomputable abbrev S6 (w : World) (os : OsState) : SharedT := ⟨T6 w.params, 152, {}, #[], {}, 421, os⟩
noncomputable def T7 (P : Params) : BT := nd (boot_o_0 P) (nd (boot_o_1 P) (nd (o3v8 P) (nd (boot_o_7 P) (nd (o15 P) (nd (o31 P) (nd (o63 P) (lf (o127 P)) (lf (o191 P))) (nd (o95 P) (lf (o159 P)) z)) (nd (o47 P) (nd (o79 P) (lf (o143 P)) z) (nd (o111 P) (lf (o175 P)) z))) (nd (o23 P) (nd (o39 P) (nd (o71 P) (lf (o135 P)) (lf (o199 P))) (nd (o103 P) (lf (o167 P)) z)) (nd (o55 P) (nd (o87 P) (lf (o151 P)) z) (nd (o119 P) (lf (o183 P)) z)))) (nd (o11 P) (nd (o19 P) (nd (o35 P) (nd (o67 P) (lf (o131 P)) (lf (o195 P))) (nd (o99 P) (lf (o163 P)) z)) (nd (o51 P) (nd (o83 P) (lf (o147 P)) z) (nd (o115 P) (lf (o179 P)) z))) (nd (o27 P) (nd (o43 P) (nd (o75 P) (lf (o139 P)) z) (nd (o107 P) (lf (o171 P)) z)) (nd (o59 P) (nd (o91 P) (lf (o155 P)) z) (nd (o123 P) (lf (o187 P)) z))))) (nd (boot_o_5 P) (nd (boot_o_9 P) (nd (o17 P) (nd (o33 P) (nd (o65 P) (lf (o129 P)) (lf (o193 P))) (nd (o97 P) (lf (o161 P)) z)) (nd (o49 P) (nd (o81 P) (lf (o145 P)) z) (nd (o113 P) (lf (o177 P)) z))) (nd (o25 P) (nd (o41 P) (nd (o73 P) (lf (o137 P)) (lf (o201 P))) (nd (o105 P) (lf (o169 P)) z)) (nd (o57 P) (nd (o89 P) (lf (o153 P)) z) (nd (o121 P) (lf (o185 P)) z)))) (nd (o13 P) (nd (o21 P) (nd (o37 P) (nd (o69 P) (lf (o133 P)) (lf (o197 P))) (nd (o101 P) (lf (o165 P)) z)) (nd (o53 P) (nd (o85 P) (lf (o149 P)) z) (nd (o117 P) (lf (o181 P)) z))) (nd (o29 P) (nd (o45 P) (nd (o77 P) (lf (o141 P)) z) (nd (o109 P) (lf (o173 P)) z)) (nd (o61 P) (nd (o93 P) (lf (o157 P)) z) (nd (o125 P) (lf (o189 P)) z)))))) (nd (o2 P) (nd (boot_o_4 P) (nd (boot_o_8 P) (nd (o16 P) (nd (o32 P) (nd (o64 P) (lf (o128 P)) (lf (o192 P))) (nd (o96 P) (lf (o160 P)) z)) (nd (o48 P) (nd (o80 P) (lf (o144 P)) z) (nd (o112 P) (lf (o176 P)) z))) (nd (o24 P) (nd (o40 P) (nd (o72 P) (lf (o136 P)) (lf (o200 P))) (nd (o104 P) (lf (o168 P)) z)) (nd (o56 P) (nd (o88 P) (lf (o152 P)) z) (nd (o120 P) (lf (o184 P)) z)))) (nd (o12v8 P) (nd (o20 P) (nd (o36 P) (nd (o68 P) (lf (o132 P)) (lf (o196 P))) (nd (o100 P) (lf (o164 P)) z)) (nd (o52 P) (nd (o84 P) (lf (o148 P)) z) (nd (o116 P) (lf (o180 P)) z))) (nd (o28 P) (nd (o44 P) (nd (o76 P) (lf (o140 P)) z) (nd (o108 P) (lf (o172 P)) z)) (nd (o60 P) (nd (o92 P) (lf (o156 P)) z) (nd (o124 P) (lf (o188 P)) z))))) (nd (boot_o_6 P) (nd (boot_o_10 P) (nd (o18 P) (nd (o34 P) (nd (o66 P) (lf (o130 P)) (lf (o194 P))) (nd (o98 P) (lf (o162 P)) z)) (nd (o50 P) (nd (o82 P) (lf (o146 P)) z) (nd (o114 P) (lf (o178 P)) z))) (nd (o26 P) (nd (o42 P) (nd (o74 P) (lf (o138 P)) z) (nd (o106 P) (lf (o170 P)) z)) (nd (o58 P) (nd (o90 P) (lf (o154 P)) z) (nd (o122 P) (lf (o186 P)) z)))) (nd (o14 P) (nd (o22 P) (nd (o38 P) (nd (o70 P) (lf (o134 P)) (lf (o198 P))) (nd (o102 P) (lf (o166 P)) z)) (nd (o54 P) (nd (o86 P) (lf (o150 P)) z) (nd (o118 P) (lf (o182 P)) z))) (nd (o30 P) (nd (o46 P) (nd (o78 P) (lf (o142 P)) z) (nd (o110 P) (lf (o174 P)) z)) (nd (o62 P) (nd (o94 P) (lf (o158 P)) z) (nd (o126 P) (lf (o190 P)) z))))))
noncomputable abbrev S7 (w : World) (os : OsState) : SharedT := ⟨T7 w.params, 202, {}, #[], {}, 505, os⟩
noncomputable def T8 (P : Params) : BT := nd (boot_o_0 P) (nd (boot_o_1 P) (nd (o3v9 P) (nd (boot_o_7 P) (nd (o15 P) (nd (o31 P) (nd (o63 P) (lf (o127 P)) (lf (o191 P))) (nd (o95 P) (lf (o159 P)) z)) (nd (o47 P) (nd (o79 P) (lf (o143 P)) z) (nd (o111 P) (lf (o175 P)) z))) (nd (o23 P) (nd (o39 P) (nd (o71 P) (lf (o135 P)) (lf (o199 P))) (nd (o103 P) (lf (o167 P)) z)) (nd (o55 P) (nd (o87 P) (lf (o151 P)) z) (nd (o119 P) (lf (o183 P)) z)))) (nd (o11 P) (nd (o19 P) (nd (o35 P) (nd (o67 P) (lf (o131 P)) (lf (o195 P))) (nd (o99 P) (lf (o163 P)) z)) (nd (o51 P) (nd (o83 P) (lf (o147 P)) z) (nd (o115 P) (lf (o179 P)) z))) (nd (o27 P) (nd (o43 P) (nd (o75 P) (lf (o139 P)) z) (nd (o107 P) (lf (o171 P)) z)) (nd (o59 P) (nd (o91 P) (lf (o155 P)) z) (nd (o123 P) (lf (o187 P)) z))))) (nd (boot_o_5 P) (nd (boot_o_9 P) (nd (o17 P) (nd (o33 P) (nd (o65 P) (lf (o129 P)) (lf (o193 P))) (nd (o97 P) (lf (o161 P)) z)) (nd (o49 P) (nd (o81 P) (lf (o145 P)) z) (nd (o113 P) (lf (o177 P)) z))) (nd (o25 P) (nd (o41 P) (nd (o73 P) (lf (o137 P)) (lf (o201 P))) (nd (o105 P) (lf (o169 P)) z)) (nd (o57 P) (nd (o89 P) (lf (o153 P)) z) (nd (o121 P) (lf (o185 P)) z)))) (nd (o13 P) (nd (o21 P) (nd (o37 P) (nd (o69 P) (lf (o133 P)) (lf (o197 P))) (nd (o101 P) (lf (o165 P)) z)) (nd (o53 P) (nd (o85 P) (lf (o149 P)) z) (nd (o117 P) (lf (o181 P)) z))) (nd (o29 P) (nd (o45 P) (nd (o77 P) (lf (o141 P)) z) (nd (o109 P) (lf (o173 P)) z)) (nd (o61 P) (nd (o93 P) (lf (o157 P)) z) (nd (o125 P) (lf (o189 P)) z)))))) (nd (o2 P) (nd (boot_o_4 P) (nd (boot_o_8 P) (nd (o16 P) (nd (o32 P) (nd (o64 P) (lf (o128 P)) (lf (o192 P))) (nd (o96 P) (lf (o160 P)) z)) (nd (o48 P) (nd (o80 P) (lf (o144 P)) z) (nd (o112 P) (lf (o176 P)) z))) (nd (o24 P) (nd (o40 P) (nd (o72 P) (lf (o136 P)) (lf (o200 P))) (nd (o104 P) (lf (o168 P)) z)) (nd (o56 P) (nd (o88 P) (lf (o152 P)) z) (nd (o120 P) (lf (o184 P)) z)))) (nd (o12v8 P) (nd (o20 P) (nd (o36 P) (nd (o68 P) (lf (o132 P)) (lf (o196 P))) (nd (o100 P) (lf (o164 P)) z)) (nd (o52 P) (nd (o84 P) (lf (o148 P)) z) (nd (o116 P) (lf (o180 P)) z))) (nd (o28 P) (nd (o44 P) (nd (o76 P) (lf (o140 P)) z) (nd (o108 P) (lf (o172 P)) z)) (nd (o60 P) (nd (o92 P) (lf (o156 P)) z) (nd (o124 P) (lf (o188 P)) z))))) (nd (boot_o_6 P) (nd (boot_o_10 P) (nd (o18 P) (nd (o34 P) (nd (o66 P) (lf (o130 P)) (lf (o194 P))) (nd (o98 P) (lf (o162 P)) z)) (nd (o50 P) (nd (o82 P) (lf (o146 P)) z) (nd (o114 P) (lf (o178 P)) z))) (nd (o26 P) (nd (o42 P) (nd (o74 P) (lf (o138 P)) (lf (o202 P))) (nd (o106 P) (lf (o170 P)) z)) (nd (o58 P) (nd (o90 P) (lf (o154 P)) z) (nd (o122 P) (lf (o186 P)) z)))) (nd (o14 P) (nd (o22 P) (nd (o38 P) (nd (o70 P) (lf (o134 P)) (lf (o198 P))) (nd (o102 P) (lf (o166 P)) z)) (nd (o54 P) (nd (o86 P) (lf (o150 P)) z) (nd (o118 P) (lf (o182 P)) z))) (nd (o30 P) (nd (o46 P) (nd (o78 P) (lf (o142 P)) z) (nd (o110 P) (lf (o174 P)) z)) (nd (o62 P) (nd (o94 P) (lf (o158 P)) z) (nd (o126 P) (lf (o190 P)) z))))))
noncomputable abbrev S8 (w : World) (os : OsState) : SharedT := ⟨T8 w.params, 203, {}, #[], {}, 512, os⟩
noncomputable def T9 (P : Params) : BT := nd (boot_o_0 P) (nd (boot_o_1 P) (nd (o3v10 P) (nd (boot_o_7 P) (nd (o15 P) (nd (o31 P) (nd (o63 P) (nd (o127 P) (lf (o255 P)) z) (lf (o191 P))) (nd (o95 P) (lf (o159 P)) (lf (o223 P)))) (nd (o47 P) (nd (o79 P) (lf (o143 P)) (lf (o207 P))) (nd (o111 P) (lf (o175 P)) (lf (o239 P))))) (nd (o23 P) (nd (o39 P) (nd (o71 P) (lf (o135 P)) (lf (o199 P))) (nd (o103 P) (lf (o167 P)) (lf (o231 P)))) (nd (o55 P) (nd (o87 P) (lf (o151 P)) (lf (o215 P))) (nd (o119 P) (lf (o183 P)) (lf (o247 P)))))) (nd (o11 P) (nd (o19 P) (nd (o35 P) (nd (o67 P) (nd (o131 P) (lf (o259 P)) z) (lf (o195 P))) (nd (o99 P) (lf (o163 P)) (lf (o227 P)))) (nd (o51 P) (nd (o83 P) (lf (o147 P)) (lf (o211 P))) (nd (o115 P) (lf (o179 P)) (lf (o243 P))))) (nd (o27 P) (nd (o43 P) (nd (o75 P) (lf (o139 P)) (lf (o203 P))) (nd (o107 P) (lf (o171 P)) (lf (o235 P)))) (nd (o59 P) (nd (o91 P) (lf (o155 P)) (lf (o219 P))) (nd (o123 P) (lf (o187 P)) (lf (o251 P))))))) (nd (boot_o_5 P) (nd (boot_o_9 P) (nd (o17 P) (nd (o33 P) (nd (o65 P) (nd (o129 P) (lf (o257 P)) z) (lf (o193 P))) (nd (o97 P) (lf (o161 P)) (lf (o225 P)))) (nd (o49 P) (nd (o81 P) (lf (o145 P)) (lf (o209 P))) (nd (o113 P) (lf (o177 P)) (lf (o241 P))))) (nd (o25 P) (nd (o41 P) (nd (o73 P) (lf (o137 P)) (lf (o201 P))) (nd (o105 P) (lf (o169 P)) (lf (o233 P)))) (nd (o57 P) (nd (o89 P) (lf (o153 P)) (lf (o217 P))) (nd (o121 P) (lf (o185 P)) (lf (o249 P)))))) (nd (o13 P) (nd (o21 P) (nd (o37 P) (nd (o69 P) (nd (o133 P) (lf (o261 P)) z) (lf (o197 P))) (nd (o101 P) (lf (o165 P)) (lf (o229 P)))) (nd (o53 P) (nd (o85 P) (lf (o149 P)) (lf (o213 P))) (nd (o117 P) (lf (o181 P)) (lf (o245 P))))) (nd (o29 P) (nd (o45 P) (nd (o77 P) (lf (o141 P)) (lf (o205 P))) (nd (o109 P) (lf (o173 P)) (lf (o237 P)))) (nd (o61 P) (nd (o93 P) (lf (o157 P)) (lf (o221 P))) (nd (o125 P) (lf (o189 P)) (lf (o253 P)))))))) (nd (o2 P) (nd (boot_o_4 P) (nd (boot_o_8 P) (nd (o16 P) (nd (o32 P) (nd (o64 P) (nd (o128 P) (lf (o256 P)) z) (lf (o192 P))) (nd (o96 P) (lf (o160 P)) (lf (o224 P)))) (nd (o48 P) (nd (o80 P) (lf (o144 P)) (lf (o208 P))) (nd (o112 P) (lf (o176 P)) (lf (o240 P))))) (nd (o24 P) (nd (o40 P) (nd (o72 P) (lf (o136 P)) (lf (o200 P))) (nd (o104 P) (lf (o168 P)) (lf (o232 P)))) (nd (o56 P) (nd (o88 P) (lf (o152 P)) (lf (o216 P))) (nd (o120 P) (lf (o184 P)) (lf (o248 P)))))) (nd (o12v10 P) (nd (o20 P) (nd (o36 P) (nd (o68 P) (nd (o132 P) (lf (o260 P)) z) (lf (o196 P))) (nd (o100 P) (lf (o164 P)) (lf (o228 P)))) (nd (o52 P) (nd (o84 P) (lf (o148 P)) (lf (o212 P))) (nd (o116 P) (lf (o180 P)) (lf (o244 P))))) (nd (o28 P) (nd (o44 P) (nd (o76 P) (lf (o140 P)) (lf (o204 P))) (nd (o108 P) (lf (o172 P)) (lf (o236 P)))) (nd (o60 P) (nd (o92 P) (lf (o156 P)) (lf (o220 P))) (nd (o124 P) (lf (o188 P)) (lf (o252 P))))))) (nd (boot_o_6 P) (nd (boot_o_10 P) (nd (o18 P) (nd (o34 P) (nd (o66 P) (nd (o130 P) (lf (o258 P)) z) (lf (o194 P))) (nd (o98 P) (lf (o162 P)) (lf (o226 P)))) (nd (o50 P) (nd (o82 P) (lf (o146 P)) (lf (o210 P))) (nd (o114 P) (lf (o178 P)) (lf (o242 P))))) (nd (o26 P) (nd (o42 P) (nd (o74 P) (lf (o138 P)) (lf (o202 P))) (nd (o106 P) (lf (o170 P)) (lf (o234 P)))) (nd (o58 P) (nd (o90 P) (lf (o154 P)) (lf (o218 P))) (nd (o122 P) (lf (o186 P)) (lf (o250 P)))))) (nd (o14 P) (nd (o22 P) (nd (o38 P) (nd (o70 P) (nd (o134 P) (lf (o262 P)) z) (lf (o198 P))) (nd (o102 P) (lf (o166 P)) (lf (o230 P)))) (nd (o54 P) (nd (o86 P) (lf (o150 P)) (lf (o214 P))) (nd (o118 P) (lf (o182 P)) (lf (o246 P))))) (nd (o30 P) (nd (o46 P) (nd (o78 P) (lf (o142 P)) (lf (o206 P))) (nd (o110 P) (lf (o174 P)) (lf (o238 P)))) (nd (o62 P) (nd (o94 P) (lf (o158 P)) (lf (o222 P))) (nd (o126 P) (lf (o190 P)) (lf (o254 P))))))))
noncomputable abbrev S9 (w : World) (os : OsState) : SharedT := ⟨T9 w.params, 263, {}, #[], {}, 646, os⟩
noncomputable def T10 (P : Params) : BT := nd (boot_o_0 P) (nd (boot_o_1 P) (nd (o3v11 P) (nd (boot_o_7 P) (nd (o15 P) (nd (o31 P) (nd (o63 P) (nd (o127 P) (lf (o255 P)) z) (lf (o191 P))) (nd (o95 P) (lf (o159 P)) (lf (o223 P)))) (nd (o47 P) (nd (o79 P) (lf (o143 P)) (lf (o207 P))) (nd (o111 P) (lf (o175 P)) (lf (o239 P))))) (nd (o23 P) (nd (o39 P) (nd (o71 P) (nd (o135 P) (lf (o263 P)) z) (lf (o199 P))) (nd (o103 P) (lf (o167 P)) (lf (o231 P)))) (nd (o55 P) (nd (o87 P) (lf (o151 P)) (lf (o215 P))) (nd (o119 P) (lf (o183 P)) (lf (o247 P)))))) (nd (o11 P) (nd (o19 P) (nd (o35 P) (nd (o67 P) (nd (o131 P) (lf (o259 P)) z) (lf (o195 P))) (nd (o99 P) (lf (o163 P)) (lf (o227 P)))) (nd (o51 P) (nd (o83 P) (lf (o147 P)) (lf (o211 P))) (nd (o115 P) (lf (o179 P)) (lf (o243 P))))) (nd (o27 P) (nd (o43 P) (nd (o75 P) (nd (o139 P) (lf (o267 P)) z) (lf (o203 P))) (nd (o107 P) (lf (o171 P)) (lf (o235 P)))) (nd (o59 P) (nd (o91 P) (lf (o155 P)) (lf (o219 P))) (nd (o123 P) (lf (o187 P)) (lf (o251 P))))))) (nd (boot_o_5 P) (nd (boot_o_9 P) (nd (o17 P) (nd (o33 P) (nd (o65 P) (nd (o129 P) (lf (o257 P)) z) (lf (o193 P))) (nd (o97 P) (lf (o161 P)) (lf (o225 P)))) (nd (o49 P) (nd (o81 P) (lf (o145 P)) (lf (o209 P))) (nd (o113 P) (lf (o177 P)) (lf (o241 P))))) (nd (o25 P) (nd (o41 P) (nd (o73 P) (nd (o137 P) (lf (o265 P)) z) (lf (o201 P))) (nd (o105 P) (lf (o169 P)) (lf (o233 P)))) (nd (o57 P) (nd (o89 P) (lf (o153 P)) (lf (o217 P))) (nd (o121 P) (lf (o185 P)) (lf (o249 P)))))) (nd (o13 P) (nd (o21 P) (nd (o37 P) (nd (o69 P) (nd (o133 P) (lf (o261 P)) z) (lf (o197 P))) (nd (o101 P) (lf (o165 P)) (lf (o229 P)))) (nd (o53 P) (nd (o85 P) (lf (o149 P)) (lf (o213 P))) (nd (o117 P) (lf (o181 P)) (lf (o245 P))))) (nd (o29 P) (nd (o45 P) (nd (o77 P) (lf (o141 P)) (lf (o205 P))) (nd (o109 P) (lf (o173 P)) (lf (o237 P)))) (nd (o61 P) (nd (o93 P) (lf (o157 P)) (lf (o221 P))) (nd (o125 P) (lf (o189 P)) (lf (o253 P)))))))) (nd (o2 P) (nd (boot_o_4 P) (nd (boot_o_8 P) (nd (o16 P) (nd (o32 P) (nd (o64 P) (nd (o128 P) (lf (o256 P)) z) (lf (o192 P))) (nd (o96 P) (lf (o160 P)) (lf (o224 P)))) (nd (o48 P) (nd (o80 P) (lf (o144 P)) (lf (o208 P))) (nd (o112 P) (lf (o176 P)) (lf (o240 P))))) (nd (o24 P) (nd (o40 P) (nd (o72 P) (nd (o136 P) (lf (o264 P)) z) (lf (o200 P))) (nd (o104 P) (lf (o168 P)) (lf (o232 P)))) (nd (o56 P) (nd (o88 P) (lf (o152 P)) (lf (o216 P))) (nd (o120 P) (lf (o184 P)) (lf (o248 P)))))) (nd (o12v10 P) (nd (o20 P) (nd (o36 P) (nd (o68 P) (nd (o132 P) (lf (o260 P)) z) (lf (o196 P))) (nd (o100 P) (lf (o164 P)) (lf (o228 P)))) (nd (o52 P) (nd (o84 P) (lf (o148 P)) (lf (o212 P))) (nd (o116 P) (lf (o180 P)) (lf (o244 P))))) (nd (o28 P) (nd (o44 P) (nd (o76 P) (lf (o140 P)) (lf (o204 P))) (nd (o108 P) (lf (o172 P)) (lf (o236 P)))) (nd (o60 P) (nd (o92 P) (lf (o156 P)) (lf (o220 P))) (nd (o124 P) (lf (o188 P)) (lf (o252 P))))))) (nd (boot_o_6 P) (nd (boot_o_10 P) (nd (o18 P) (nd (o34 P) (nd (o66 P) (nd (o130 P) (lf (o258 P)) z) (lf (o194 P))) (nd (o98 P) (lf (o162 P)) (lf (o226 P)))) (nd (o50 P) (nd (o82 P) (lf (o146 P)) (lf (o210 P))) (nd (o114 P) (lf (o178 P)) (lf (o242 P))))) (nd (o26 P) (nd (o42 P) (nd (o74 P) (nd (o138 P) (lf (o266 P)) z) (lf (o202 P))) (nd (o106 P) (lf (o170 P)) (lf (o234 P)))) (nd (o58 P) (nd (o90 P) (lf (o154 P)) (lf (o218 P))) (nd (o122 P) (lf (o186 P)) (lf (o250 P)))))) (nd (o14 P) (nd (o22 P) (nd (o38 P) (nd (o70 P) (nd (o134 P) (lf (o262 P)) z) (lf (o198 P))) (nd (o102 P) (lf (o166 P)) (lf (o230 P)))) (nd (o54 P) (nd (o86 P) (lf (o150 P)) (lf (o214 P))) (nd (o118 P) (lf (o182 P)) (lf (o246 P))))) (nd (o30 P) (nd (o46 P) (nd (o78 P) (lf (o142 P)) (lf (o206 P))) (nd (o110 P) (lf (o174 P)) (lf (o238 P)))) (nd (o62 P) (nd (o94 P) (lf (o158 P)) (lf (o222 P))) (nd (o126 P) (lf (o190 P)) (lf (o254 P))))))))
noncomputable abbrev S10 (w : World) (os : OsState) : SharedT := ⟨T10 w.params, 268, {}, #[], {}, 681, os⟩
noncomputable def T11 (P : Params) : BT := nd (boot_o_0 P) (nd (boot_o_1 P) (nd (o3v12 P) (nd (boot_o_7 P) (nd (o15 P) (nd (o31 P) (nd (o63 P) (nd (o127 P) (lf (o255 P)) z) (nd (o191 P) (lf (o319 P)) z)) (nd (o95 P) (nd (o159 P) (lf (o287 P)) z) (nd (o223 P) (lf (o351 P)) z))) (nd (o47 P) (nd (o79 P) (nd (o143 P) (lf (o271 P)) z) (nd (o207 P) (lf (o335 P)) z)) (nd (o111 P) (nd (o175 P) (lf (o303 P)) z) (lf (o239 P))))) (nd (o23 P) (nd (o39 P) (nd (o71 P) (nd (o135 P) (lf (o263 P)) z) (nd (o199 P) (lf (o327 P)) z)) (nd (o103 P) (nd (o167 P) (lf (o295 P)) z) (lf (o231 P)))) (nd (o55 P) (nd (o87 P) (nd (o151 P) (lf (o279 P)) z) (nd (o215 P) (lf (o343 P)) z)) (nd (o119 P) (nd (o183 P) (lf (o311 P)) z) (lf (o247 P)))))) (nd (o11 P) (nd (o19 P) (nd (o35 P) (nd (o67 P) (nd (o131 P) (lf (o259 P)) z) (nd (o195 P) (lf (o323 P)) z)) (nd (o99 P) (nd (o163 P) (lf (o291 P)) z) (nd (o227 P) (lf (o355 P)) z))) (nd (o51 P) (nd (o83 P) (nd (o147 P) (lf (o275 P)) z) (nd (o211 P) (lf (o339 P)) z)) (nd (o115 P) (nd (o179 P) (lf (o307 P)) z) (lf (o243 P))))) (nd (o27 P) (nd (o43 P) (nd (o75 P) (nd (o139 P) (lf (o267 P)) z) (nd (o203 P) (lf (o331 P)) z)) (nd (o107 P) (nd (o171 P) (lf (o299 P)) z) (lf (o235 P)))) (nd (o59 P) (nd (o91 P) (nd (o155 P) (lf (o283 P)) z) (nd (o219 P) (lf (o347 P)) z)) (nd (o123 P) (nd (o187 P) (lf (o315 P)) z) (lf (o251 P))))))) (nd (boot_o_5 P) (nd (boot_o_9 P) (nd (o17 P) (nd (o33 P) (nd (o65 P) (nd (o129 P) (lf (o257 P)) z) (nd (o193 P) (lf (o321 P)) z)) (nd (o97 P) (nd (o161 P) (lf (o289 P)) z) (nd (o225 P) (lf (o353 P)) z))) (nd (o49 P) (nd (o81 P) (nd (o145 P) (lf (o273 P)) z) (nd (o209 P) (lf (o337 P)) z)) (nd (o113 P) (nd (o177 P) (lf (o305 P)) z) (lf (o241 P))))) (nd (o25 P) (nd (o41 P) (nd (o73 P) (nd (o137 P) (lf (o265 P)) z) (nd (o201 P) (lf (o329 P)) z)) (nd (o105 P) (nd (o169 P) (lf (o297 P)) z) (lf (o233 P)))) (nd (o57 P) (nd (o89 P) (nd (o153 P) (lf (o281 P)) z) (nd (o217 P) (lf (o345 P)) z)) (nd (o121 P) (nd (o185 P) (lf (o313 P)) z) (lf (o249 P)))))) (nd (o13 P) (nd (o21 P) (nd (o37 P) (nd (o69 P) (nd (o133 P) (lf (o261 P)) z) (nd (o197 P) (lf (o325 P)) z)) (nd (o101 P) (nd (o165 P) (lf (o293 P)) z) (lf (o229 P)))) (nd (o53 P) (nd (o85 P) (nd (o149 P) (lf (o277 P)) z) (nd (o213 P) (lf (o341 P)) z)) (nd (o117 P) (nd (o181 P) (lf (o309 P)) z) (lf (o245 P))))) (nd (o29 P) (nd (o45 P) (nd (o77 P) (nd (o141 P) (lf (o269 P)) z) (nd (o205 P) (lf (o333 P)) z)) (nd (o109 P) (nd (o173 P) (lf (o301 P)) z) (lf (o237 P)))) (nd (o61 P) (nd (o93 P) (nd (o157 P) (lf (o285 P)) z) (nd (o221 P) (lf (o349 P)) z)) (nd (o125 P) (nd (o189 P) (lf (o317 P)) z) (lf (o253 P)))))))) (nd (o2 P) (nd (boot_o_4 P) (nd (boot_o_8 P) (nd (o16 P) (nd (o32 P) (nd (o64 P) (nd (o128 P) (lf (o256 P)) z) (nd (o192 P) (lf (o320 P)) z)) (nd (o96 P) (nd (o160 P) (lf (o288 P)) z) (nd (o224 P) (lf (o352v12 P)) z))) (nd (o48 P) (nd (o80 P) (nd (o144 P) (lf (o272 P)) z) (nd (o208 P) (lf (o336 P)) z)) (nd (o112 P) (nd (o176 P) (lf (o304 P)) z) (lf (o240 P))))) (nd (o24 P) (nd (o40 P) (nd (o72 P) (nd (o136 P) (lf (o264 P)) z) (nd (o200 P) (lf (o328 P)) z)) (nd (o104 P) (nd (o168 P) (lf (o296 P)) z) (lf (o232 P)))) (nd (o56 P) (nd (o88 P) (nd (o152 P) (lf (o280 P)) z) (nd (o216 P) (lf (o344 P)) z)) (nd (o120 P) (nd (o184 P) (lf (o312 P)) z) (lf (o248 P)))))) (nd (o12v12 P) (nd (o20 P) (nd (o36 P) (nd (o68 P) (nd (o132 P) (lf (o260 P)) z) (nd (o196 P) (lf (o324 P)) z)) (nd (o100 P) (nd (o164 P) (lf (o292 P)) z) (nd (o228 P) (lf (o356 P)) z))) (nd (o52 P) (nd (o84 P) (nd (o148 P) (lf (o276 P)) z) (nd (o212 P) (lf (o340 P)) z)) (nd (o116 P) (nd (o180 P) (lf (o308 P)) z) (lf (o244 P))))) (nd (o28 P) (nd (o44 P) (nd (o76 P) (nd (o140 P) (lf (o268 P)) z) (nd (o204 P) (lf (o332 P)) z)) (nd (o108 P) (nd (o172 P) (lf (o300 P)) z) (lf (o236 P)))) (nd (o60 P) (nd (o92 P) (nd (o156 P) (lf (o284 P)) z) (nd (o220 P) (lf (o348 P)) z)) (nd (o124 P) (nd (o188 P) (lf (o316 P)) z) (lf (o252 P))))))) (nd (boot_o_6 P) (nd (boot_o_10 P) (nd (o18 P) (nd (o34 P) (nd (o66 P) (nd (o130 P) (lf (o258 P)) z) (nd (o194 P) (lf (o322 P)) z)) (nd (o98 P) (nd (o162 P) (lf (o290 P)) z) (nd (o226 P) (lf (o354 P)) z))) (nd (o50 P) (nd (o82 P) (nd (o146 P) (lf (o274 P)) z) (nd (o210 P) (lf (o338 P)) z)) (nd (o114 P) (nd (o178 P) (lf (o306 P)) z) (lf (o242 P))))) (nd (o26 P) (nd (o42 P) (nd (o74 P) (nd (o138 P) (lf (o266 P)) z) (nd (o202 P) (lf (o330 P)) z)) (nd (o106 P) (nd (o170 P) (lf (o298 P)) z) (lf (o234 P)))) (nd (o58 P) (nd (o90 P) (nd (o154 P) (lf (o282 P)) z) (nd (o218 P) (lf (o346 P)) z)) (nd (o122 P) (nd (o186 P) (lf (o314 P)) z) (lf (o250 P)))))) (nd (o14 P) (nd (o22 P) (nd (o38 P) (nd (o70 P) (nd (o134 P) (lf (o262 P)) z) (nd (o198 P) (lf (o326 P)) z)) (nd (o102 P) (nd (o166 P) (lf (o294 P)) z) (lf (o230 P)))) (nd (o54 P) (nd (o86 P) (nd (o150 P) (lf (o278 P)) z) (nd (o214 P) (lf (o342 P)) z)) (nd (o118 P) (nd (o182 P) (lf (o310 P)) z) (lf (o246 P))))) (nd (o30 P) (nd (o46 P) (nd (o78 P) (nd (o142 P) (lf (o270 P)) z) (nd (o206 P) (lf (o334 P)) z)) (nd (o110 P) (nd (o174 P) (lf (o302 P)) z) (lf (o238 P)))) (nd (o62 P) (nd (o94 P) (nd (o158 P) (lf (o286 P)) z) (nd (o222 P) (lf (o350 P)) z)) (nd (o126 P) (nd (o190 P) (lf (o318 P)) z) (lf (o254 P))))))))
noncomputable abbrev S11 (w : World) (os : OsState) : SharedT := ⟨T11 w.params, 357, {}, #[], {}, 791, os⟩
noncomputable def T12 (P : Params) : BT := nd (boot_o_0 P) (nd (boot_o_1 P) (nd (o3v13 P) (nd (boot_o_7 P) (nd (o15 P) (nd (o31 P) (nd (o63 P) (nd (o127 P) (lf (o255 P)) (lf (o383 P))) (nd (o191 P) (lf (o319 P)) z)) (nd (o95 P) (nd (o159 P) (lf (o287 P)) (lf (o415v13 P))) (nd (o223 P) (lf (o351 P)) z))) (nd (o47 P) (nd (o79 P) (nd (o143 P) (lf (o271 P)) (lf (o399 P))) (nd (o207 P) (lf (o335 P)) z)) (nd (o111 P) (nd (o175 P) (lf (o303 P)) z) (nd (o239 P) (lf (o367 P)) z)))) (nd (o23 P) (nd (o39 P) (nd (o71 P) (nd (o135 P) (lf (o263 P)) (lf (o391 P))) (nd (o199 P) (lf (o327 P)) z)) (nd (o103 P) (nd (o167 P) (lf (o295 P)) z) (nd (o231 P) (lf (o359 P)) z))) (nd (o55 P) (nd (o87 P) (nd (o151 P) (lf (o279 P)) (lf (o407 P))) (nd (o215 P) (lf (o343 P)) z)) (nd (o119 P) (nd (o183 P) (lf (o311 P)) z) (nd (o247 P) (lf (o375 P)) z))))) (nd (o11 P) (nd (o19 P) (nd (o35 P) (nd (o67 P) (nd (o131 P) (lf (o259 P)) (lf (o387 P))) (nd (o195 P) (lf (o323 P)) z)) (nd (o99 P) (nd (o163 P) (lf (o291 P)) z) (nd (o227 P) (lf (o355 P)) z))) (nd (o51 P) (nd (o83 P) (nd (o147 P) (lf (o275 P)) (lf (o403 P))) (nd (o211 P) (lf (o339 P)) z)) (nd (o115 P) (nd (o179 P) (lf (o307 P)) z) (nd (o243 P) (lf (o371 P)) z)))) (nd (o27 P) (nd (o43 P) (nd (o75 P) (nd (o139 P) (lf (o267 P)) (lf (o395 P))) (nd (o203 P) (lf (o331 P)) z)) (nd (o107 P) (nd (o171 P) (lf (o299 P)) z) (nd (o235 P) (lf (o363 P)) z))) (nd (o59 P) (nd (o91 P) (nd (o155 P) (lf (o283 P)) (lf (o411 P))) (nd (o219 P) (lf (o347 P)) z)) (nd (o123 P) (nd (o187 P) (lf (o315 P)) z) (nd (o251 P) (lf (o379 P)) z)))))) (nd (boot_o_5 P) (nd (boot_o_9 P) (nd (o17 P) (nd (o33 P) (nd (o65 P) (nd (o129 P) (lf (o257 P)) (lf (o385 P))) (nd (o193 P) (lf (o321 P)) z)) (nd (o97 P) (nd (o161 P) (lf (o289 P)) (lf (o417 P))) (nd (o225 P) (lf (o353 P)) z))) (nd (o49 P) (nd (o81 P) (nd (o145 P) (lf (o273 P)) (lf (o401 P))) (nd (o209 P) (lf (o337 P)) z)) (nd (o113 P) (nd (o177 P) (lf (o305 P)) z) (nd (o241 P) (lf (o369 P)) z)))) (nd (o25 P) (nd (o41 P) (nd (o73 P) (nd (o137 P) (lf (o265 P)) (lf (o393 P))) (nd (o201 P) (lf (o329 P)) z)) (nd (o105 P) (nd (o169 P) (lf (o297 P)) z) (nd (o233 P) (lf (o361 P)) z))) (nd (o57 P) (nd (o89 P) (nd (o153 P) (lf (o281 P)) (lf (o409 P))) (nd (o217 P) (lf (o345 P)) z)) (nd (o121 P) (nd (o185 P) (lf (o313 P)) z) (nd (o249 P) (lf (o377 P)) z))))) (nd (o13 P) (nd (o21 P) (nd (o37 P) (nd (o69 P) (nd (o133 P) (lf (o261 P)) (lf (o389 P))) (nd (o197 P) (lf (o325 P)) z)) (nd (o101 P) (nd (o165 P) (lf (o293 P)) z) (nd (o229 P) (lf (o357 P)) z))) (nd (o53 P) (nd (o85 P) (nd (o149 P) (lf (o277 P)) (lf (o405 P))) (nd (o213 P) (lf (o341 P)) z)) (nd (o117 P) (nd (o181 P) (lf (o309 P)) z) (nd (o245 P) (lf (o373 P)) z)))) (nd (o29 P) (nd (o45 P) (nd (o77 P) (nd (o141 P) (lf (o269 P)) (lf (o397 P))) (nd (o205 P) (lf (o333 P)) z)) (nd (o109 P) (nd (o173 P) (lf (o301 P)) z) (nd (o237 P) (lf (o365 P)) z))) (nd (o61 P) (nd (o93 P) (nd (o157 P) (lf (o285 P)) (lf (o413 P))) (nd (o221 P) (lf (o349 P)) z)) (nd (o125 P) (nd (o189 P) (lf (o317 P)) z) (nd (o253 P) (lf (o381 P)) z))))))) (nd (o2 P) (nd (boot_o_4 P) (nd (boot_o_8 P) (nd (o16 P) (nd (o32 P) (nd (o64 P) (nd (o128 P) (lf (o256 P)) (lf (o384 P))) (nd (o192 P) (lf (o320 P)) z)) (nd (o96 P) (nd (o160 P) (lf (o288 P)) (lf (o416 P))) (nd (o224 P) (lf (o352 P)) z))) (nd (o48 P) (nd (o80 P) (nd (o144 P) (lf (o272 P)) (lf (o400 P))) (nd (o208 P) (lf (o336 P)) z)) (nd (o112 P) (nd (o176 P) (lf (o304 P)) z) (nd (o240 P) (lf (o368 P)) z)))) (nd (o24 P) (nd (o40 P) (nd (o72 P) (nd (o136 P) (lf (o264 P)) (lf (o392 P))) (nd (o200 P) (lf (o328 P)) z)) (nd (o104 P) (nd (o168 P) (lf (o296 P)) z) (nd (o232 P) (lf (o360 P)) z))) (nd (o56 P) (nd (o88 P) (nd (o152 P) (lf (o280 P)) (lf (o408 P))) (nd (o216 P) (lf (o344 P)) z)) (nd (o120 P) (nd (o184 P) (lf (o312 P)) z) (nd (o248 P) (lf (o376 P)) z))))) (nd (o12v13 P) (nd (o20 P) (nd (o36 P) (nd (o68 P) (nd (o132 P) (lf (o260 P)) (lf (o388 P))) (nd (o196 P) (lf (o324 P)) z)) (nd (o100 P) (nd (o164 P) (lf (o292 P)) z) (nd (o228 P) (lf (o356 P)) z))) (nd (o52 P) (nd (o84 P) (nd (o148 P) (lf (o276 P)) (lf (o404 P))) (nd (o212 P) (lf (o340 P)) z)) (nd (o116 P) (nd (o180 P) (lf (o308 P)) z) (nd (o244 P) (lf (o372 P)) z)))) (nd (o28 P) (nd (o44 P) (nd (o76 P) (nd (o140 P) (lf (o268 P)) (lf (o396 P))) (nd (o204 P) (lf (o332 P)) z)) (nd (o108 P) (nd (o172 P) (lf (o300 P)) z) (nd (o236 P) (lf (o364 P)) z))) (nd (o60 P) (nd (o92 P) (nd (o156 P) (lf (o284 P)) (lf (o412 P))) (nd (o220 P) (lf (o348 P)) z)) (nd (o124 P) (nd (o188 P) (lf (o316 P)) z) (nd (o252 P) (lf (o380 P)) z)))))) (nd (boot_o_6 P) (nd (boot_o_10 P) (nd (o18 P) (nd (o34 P) (nd (o66 P) (nd (o130 P) (lf (o258 P)) (lf (o386 P))) (nd (o194 P) (lf (o322 P)) z)) (nd (o98 P) (nd (o162 P) (lf (o290 P)) z) (nd (o226 P) (lf (o354 P)) z))) (nd (o50 P) (nd (o82 P) (nd (o146 P) (lf (o274 P)) (lf (o402 P))) (nd (o210 P) (lf (o338 P)) z)) (nd (o114 P) (nd (o178 P) (lf (o306 P)) z) (nd (o242 P) (lf (o370 P)) z)))) (nd (o26 P) (nd (o42 P) (nd (o74 P) (nd (o138 P) (lf (o266 P)) (lf (o394 P))) (nd (o202 P) (lf (o330 P)) z)) (nd (o106 P) (nd (o170 P) (lf (o298 P)) z) (nd (o234 P) (lf (o362 P)) z))) (nd (o58 P) (nd (o90 P) (nd (o154 P) (lf (o282 P)) (lf (o410 P))) (nd (o218 P) (lf (o346 P)) z)) (nd (o122 P) (nd (o186 P) (lf (o314 P)) z) (nd (o250 P) (lf (o378 P)) z))))) (nd (o14 P) (nd (o22 P) (nd (o38 P) (nd (o70 P) (nd (o134 P) (lf (o262 P)) (lf (o390 P))) (nd (o198 P) (lf (o326 P)) z)) (nd (o102 P) (nd (o166 P) (lf (o294 P)) z) (nd (o230 P) (lf (o358 P)) z))) (nd (o54 P) (nd (o86 P) (nd (o150 P) (lf (o278 P)) (lf (o406 P))) (nd (o214 P) (lf (o342 P)) z)) (nd (o118 P) (nd (o182 P) (lf (o310 P)) z) (nd (o246 P) (lf (o374 P)) z)))) (nd (o30 P) (nd (o46 P) (nd (o78 P) (nd (o142 P) (lf (o270 P)) (lf (o398 P))) (nd (o206 P) (lf (o334 P)) z)) (nd (o110 P) (nd (o174 P) (lf (o302 P)) z) (nd (o238 P) (lf (o366 P)) z))) (nd (o62 P) (nd (o94 P) (nd (o158 P) (lf (o286 P)) (lf (o414 P))) (nd (o222 P) (lf (o350 P)) z)) (nd (o126 P) (nd (o190 P) (lf (o318 P)) z) (nd (o254 P) (lf (o382 P)) z)))))))
noncomputable abbrev S12 (w : World) (os : OsState) : SharedT := ⟨T12 w.params, 418, {}, #[], {}, 871, os⟩
noncomputable def T13 (P : Params) : BT := nd (boot_o_0 P) (nd (boot_o_1 P) (nd (o3v14 P) (nd (boot_o_7 P) (nd (o15 P) (nd (o31 P) (nd (o63 P) (nd (o127 P) (lf (o255 P)) (lf (o383 P))) (nd (o191 P) (lf (o319 P)) (lf (o447 P)))) (nd (o95 P) (nd (o159 P) (lf (o287 P)) (lf (o415 P))) (nd (o223 P) (lf (o351 P)) (lf (o479 P))))) (nd (o47 P) (nd (o79 P) (nd (o143 P) (lf (o271 P)) (lf (o399 P))) (nd (o207 P) (lf (o335 P)) (lf (o463 P)))) (nd (o111 P) (nd (o175 P) (lf (o303 P)) (lf (o431 P))) (nd (o239 P) (lf (o367 P)) z)))) (nd (o23 P) (nd (o39 P) (nd (o71 P) (nd (o135 P) (lf (o263 P)) (lf (o391 P))) (nd (o199 P) (lf (o327 P)) (lf (o455 P)))) (nd (o103 P) (nd (o167 P) (lf (o295 P)) (lf (o423 P))) (nd (o231 P) (lf (o359 P)) z))) (nd (o55 P) (nd (o87 P) (nd (o151 P) (lf (o279 P)) (lf (o407 P))) (nd (o215 P) (lf (o343 P)) (lf (o471 P)))) (nd (o119 P) (nd (o183 P) (lf (o311 P)) (lf (o439 P))) (nd (o247 P) (lf (o375 P)) z))))) (nd (o11 P) (nd (o19 P) (nd (o35 P) (nd (o67 P) (nd (o131 P) (lf (o259 P)) (lf (o387 P))) (nd (o195 P) (lf (o323 P)) (lf (o451 P)))) (nd (o99 P) (nd (o163 P) (lf (o291 P)) (lf (o419 P))) (nd (o227 P) (lf (o355 P)) (lf (o483 P))))) (nd (o51 P) (nd (o83 P) (nd (o147 P) (lf (o275 P)) (lf (o403 P))) (nd (o211 P) (lf (o339 P)) (lf (o467 P)))) (nd (o115 P) (nd (o179 P) (lf (o307 P)) (lf (o435 P))) (nd (o243 P) (lf (o371 P)) z)))) (nd (o27 P) (nd (o43 P) (nd (o75 P) (nd (o139 P) (lf (o267 P)) (lf (o395 P))) (nd (o203 P) (lf (o331 P)) (lf (o459 P)))) (nd (o107 P) (nd (o171 P) (lf (o299 P)) (lf (o427 P))) (nd (o235 P) (lf (o363 P)) z))) (nd (o59 P) (nd (o91 P) (nd (o155 P) (lf (o283 P)) (lf (o411 P))) (nd (o219 P) (lf (o347 P)) (lf (o475 P)))) (nd (o123 P) (nd (o187 P) (lf (o315 P)) (lf (o443 P))) (nd (o251 P) (lf (o379 P)) z)))))) (nd (boot_o_5 P) (nd (boot_o_9 P) (nd (o17 P) (nd (o33 P) (nd (o65 P) (nd (o129 P) (lf (o257 P)) (lf (o385 P))) (nd (o193 P) (lf (o321 P)) (lf (o449 P)))) (nd (o97 P) (nd (o161 P) (lf (o289 P)) (lf (o417 P))) (nd (o225 P) (lf (o353 P)) (lf (o481 P))))) (nd (o49 P) (nd (o81 P) (nd (o145 P) (lf (o273 P)) (lf (o401 P))) (nd (o209 P) (lf (o337 P)) (lf (o465 P)))) (nd (o113 P) (nd (o177 P) (lf (o305 P)) (lf (o433 P))) (nd (o241 P) (lf (o369 P)) z)))) (nd (o25 P) (nd (o41 P) (nd (o73 P) (nd (o137 P) (lf (o265 P)) (lf (o393 P))) (nd (o201 P) (lf (o329 P)) (lf (o457 P)))) (nd (o105 P) (nd (o169 P) (lf (o297 P)) (lf (o425 P))) (nd (o233 P) (lf (o361 P)) z))) (nd (o57 P) (nd (o89 P) (nd (o153 P) (lf (o281 P)) (lf (o409 P))) (nd (o217 P) (lf (o345 P)) (lf (o473 P)))) (nd (o121 P) (nd (o185 P) (lf (o313 P)) (lf (o441 P))) (nd (o249 P) (lf (o377 P)) z))))) (nd (o13 P) (nd (o21 P) (nd (o37 P) (nd (o69 P) (nd (o133 P) (lf (o261 P)) (lf (o389 P))) (nd (o197 P) (lf (o325 P)) (lf (o453 P)))) (nd (o101 P) (nd (o165 P) (lf (o293 P)) (lf (o421 P))) (nd (o229 P) (lf (o357 P)) z))) (nd (o53 P) (nd (o85 P) (nd (o149 P) (lf (o277 P)) (lf (o405 P))) (nd (o213 P) (lf (o341 P)) (lf (o469 P)))) (nd (o117 P) (nd (o181 P) (lf (o309 P)) (lf (o437 P))) (nd (o245 P) (lf (o373 P)) z)))) (nd (o29 P) (nd (o45 P) (nd (o77 P) (nd (o141 P) (lf (o269 P)) (lf (o397 P))) (nd (o205 P) (lf (o333 P)) (lf (o461 P)))) (nd (o109 P) (nd (o173 P) (lf (o301 P)) (lf (o429 P))) (nd (o237 P) (lf (o365 P)) z))) (nd (o61 P) (nd (o93 P) (nd (o157 P) (lf (o285 P)) (lf (o413 P))) (nd (o221 P) (lf (o349 P)) (lf (o477 P)))) (nd (o125 P) (nd (o189 P) (lf (o317 P)) (lf (o445 P))) (nd (o253 P) (lf (o381 P)) z))))))) (nd (o2 P) (nd (boot_o_4 P) (nd (boot_o_8 P) (nd (o16 P) (nd (o32 P) (nd (o64 P) (nd (o128 P) (lf (o256 P)) (lf (o384 P))) (nd (o192 P) (lf (o320 P)) (lf (o448 P)))) (nd (o96 P) (nd (o160 P) (lf (o288 P)) (lf (o416 P))) (nd (o224 P) (lf (o352 P)) (lf (o480 P))))) (nd (o48 P) (nd (o80 P) (nd (o144 P) (lf (o272 P)) (lf (o400 P))) (nd (o208 P) (lf (o336 P)) (lf (o464 P)))) (nd (o112 P) (nd (o176 P) (lf (o304 P)) (lf (o432 P))) (nd (o240 P) (lf (o368 P)) z)))) (nd (o24 P) (nd (o40 P) (nd (o72 P) (nd (o136 P) (lf (o264 P)) (lf (o392 P))) (nd (o200 P) (lf (o328 P)) (lf (o456 P)))) (nd (o104 P) (nd (o168 P) (lf (o296 P)) (lf (o424 P))) (nd (o232 P) (lf (o360 P)) z))) (nd (o56 P) (nd (o88 P) (nd (o152 P) (lf (o280 P)) (lf (o408 P))) (nd (o216 P) (lf (o344 P)) (lf (o472 P)))) (nd (o120 P) (nd (o184 P) (lf (o312 P)) (lf (o440 P))) (nd (o248 P) (lf (o376 P)) z))))) (nd (o12v14 P) (nd (o20 P) (nd (o36 P) (nd (o68 P) (nd (o132 P) (lf (o260 P)) (lf (o388 P))) (nd (o196 P) (lf (o324 P)) (lf (o452 P)))) (nd (o100 P) (nd (o164 P) (lf (o292 P)) (lf (o420 P))) (nd (o228 P) (lf (o356 P)) (lf (o484 P))))) (nd (o52 P) (nd (o84 P) (nd (o148 P) (lf (o276 P)) (lf (o404 P))) (nd (o212 P) (lf (o340 P)) (lf (o468 P)))) (nd (o116 P) (nd (o180 P) (lf (o308 P)) (lf (o436 P))) (nd (o244 P) (lf (o372 P)) z)))) (nd (o28 P) (nd (o44 P) (nd (o76 P) (nd (o140 P) (lf (o268 P)) (lf (o396 P))) (nd (o204 P) (lf (o332 P)) (lf (o460 P)))) (nd (o108 P) (nd (o172 P) (lf (o300 P)) (lf (o428 P))) (nd (o236 P) (lf (o364 P)) z))) (nd (o60 P) (nd (o92 P) (nd (o156 P) (lf (o284 P)) (lf (o412 P))) (nd (o220 P) (lf (o348 P)) (lf (o476 P)))) (nd (o124 P) (nd (o188 P) (lf (o316 P)) (lf (o444 P))) (nd (o252 P) (lf (o380 P)) z)))))) (nd (boot_o_6 P) (nd (boot_o_10 P) (nd (o18 P) (nd (o34 P) (nd (o66 P) (nd (o130 P) (lf (o258 P)) (lf (o386 P))) (nd (o194 P) (lf (o322 P)) (lf (o450 P)))) (nd (o98 P) (nd (o162 P) (lf (o290 P)) (lf (o418 P))) (nd (o226 P) (lf (o354 P)) (lf (o482 P))))) (nd (o50 P) (nd (o82 P) (nd (o146 P) (lf (o274 P)) (lf (o402 P))) (nd (o210 P) (lf (o338 P)) (lf (o466 P)))) (nd (o114 P) (nd (o178 P) (lf (o306 P)) (lf (o434 P))) (nd (o242 P) (lf (o370 P)) z)))) (nd (o26 P) (nd (o42 P) (nd (o74 P) (nd (o138 P) (lf (o266 P)) (lf (o394 P))) (nd (o202 P) (lf (o330 P)) (lf (o458 P)))) (nd (o106 P) (nd (o170 P) (lf (o298 P)) (lf (o426 P))) (nd (o234 P) (lf (o362 P)) z))) (nd (o58 P) (nd (o90 P) (nd (o154 P) (lf (o282 P)) (lf (o410 P))) (nd (o218 P) (lf (o346 P)) (lf (o474 P)))) (nd (o122 P) (nd (o186 P) (lf (o314 P)) (lf (o442 P))) (nd (o250 P) (lf (o378 P)) z))))) (nd (o14 P) (nd (o22 P) (nd (o38 P) (nd (o70 P) (nd (o134 P) (lf (o262 P)) (lf (o390 P))) (nd (o198 P) (lf (o326 P)) (lf (o454 P)))) (nd (o102 P) (nd (o166 P) (lf (o294 P)) (lf (o422 P))) (nd (o230 P) (lf (o358 P)) z))) (nd (o54 P) (nd (o86 P) (nd (o150 P) (lf (o278 P)) (lf (o406 P))) (nd (o214 P) (lf (o342 P)) (lf (o470 P)))) (nd (o118 P) (nd (o182 P) (lf (o310 P)) (lf (o438 P))) (nd (o246 P) (lf (o374 P)) z)))) (nd (o30 P) (nd (o46 P) (nd (o78 P) (nd (o142 P) (lf (o270 P)) (lf (o398 P))) (nd (o206 P) (lf (o334 P)) (lf (o462 P)))) (nd (o110 P) (nd (o174 P) (lf (o302 P)) (lf (o430 P))) (nd (o238 P) (lf (o366 P)) z))) (nd (o62 P) (nd (o94 P) (nd (o158 P) (lf (o286 P)) (lf (o414 P))) (nd (o222 P) (lf (o350 P)) (lf (o478 P)))) (nd (o126 P) (nd (o190 P) (lf (o318 P)) (lf (o446 P))) (nd (o254 P) (lf (o382 P)) z)))))))
noncomputable abbrev S13 (w : World) (os : OsState) : SharedT := ⟨T13 w.params, 485, {}, #[], {}, 959, os⟩
noncomputable def T14 (P : Params) : BT := nd (boot_o_0 P) (nd (boot_o_1 P) (nd (o3 P) (nd (boot_o_7 P) (nd (o15 P) (nd (o31 P) (nd (o63 P) (nd (o127 P) (nd (o255 P) (lf (o511 P)) z) (lf (o383 P))) (nd (o191 P) (lf (o319 P)) (lf (o447 P)))) (nd (o95 P) (nd (o159 P) (nd (o287 P) (lf (o543 P)) z) (lf (o415 P))) (nd (o223 P) (lf (o351 P)) (lf (o479 P))))) (nd (o47 P) (nd (o79 P) (nd (o143 P) (nd (o271 P) (lf (o527 P)) z) (lf (o399 P))) (nd (o207 P) (lf (o335 P)) (lf (o463 P)))) (nd (o111 P) (nd (o175 P) (lf (o303 P)) (lf (o431 P))) (nd (o239 P) (lf (o367 P)) (lf (o495 P)))))) (nd (o23 P) (nd (o39 P) (nd (o71 P) (nd (o135 P) (nd (o263 P) (lf (o519 P)) z) (lf (o391 P))) (nd (o199 P) (lf (o327 P)) (lf (o455 P)))) (nd (o103 P) (nd (o167 P) (nd (o295 P) (lf (o551 P)) z) (lf (o423 P))) (nd (o231 P) (lf (o359 P)) (lf (o487 P))))) (nd (o55 P) (nd (o87 P) (nd (o151 P) (nd (o279 P) (lf (o535 P)) z) (lf (o407 P))) (nd (o215 P) (lf (o343 P)) (lf (o471 P)))) (nd (o119 P) (nd (o183 P) (lf (o311 P)) (lf (o439 P))) (nd (o247 P) (lf (o375 P)) (lf (o503 P))))))) (nd (o11 P) (nd (o19 P) (nd (o35 P) (nd (o67 P) (nd (o131 P) (nd (o259 P) (lf (o515 P)) z) (lf (o387 P))) (nd (o195 P) (lf (o323 P)) (lf (o451 P)))) (nd (o99 P) (nd (o163 P) (nd (o291 P) (lf (o547 P)) z) (lf (o419 P))) (nd (o227 P) (lf (o355 P)) (lf (o483 P))))) (nd (o51 P) (nd (o83 P) (nd (o147 P) (nd (o275 P) (lf (o531 P)) z) (lf (o403 P))) (nd (o211 P) (lf (o339 P)) (lf (o467 P)))) (nd (o115 P) (nd (o179 P) (lf (o307 P)) (lf (o435 P))) (nd (o243 P) (lf (o371 P)) (lf (o499 P)))))) (nd (o27 P) (nd (o43 P) (nd (o75 P) (nd (o139 P) (nd (o267 P) (lf (o523 P)) z) (lf (o395 P))) (nd (o203 P) (lf (o331 P)) (lf (o459 P)))) (nd (o107 P) (nd (o171 P) (lf (o299 P)) (lf (o427 P))) (nd (o235 P) (lf (o363 P)) (lf (o491 P))))) (nd (o59 P) (nd (o91 P) (nd (o155 P) (nd (o283 P) (lf (o539 P)) z) (lf (o411 P))) (nd (o219 P) (lf (o347 P)) (lf (o475 P)))) (nd (o123 P) (nd (o187 P) (lf (o315 P)) (lf (o443 P))) (nd (o251 P) (lf (o379 P)) (lf (o507 P)))))))) (nd (boot_o_5 P) (nd (boot_o_9 P) (nd (o17 P) (nd (o33 P) (nd (o65 P) (nd (o129 P) (nd (o257 P) (lf (o513 P)) z) (lf (o385 P))) (nd (o193 P) (lf (o321 P)) (lf (o449 P)))) (nd (o97 P) (nd (o161 P) (nd (o289 P) (lf (o545 P)) z) (lf (o417 P))) (nd (o225 P) (lf (o353 P)) (lf (o481 P))))) (nd (o49 P) (nd (o81 P) (nd (o145 P) (nd (o273 P) (lf (o529 P)) z) (lf (o401 P))) (nd (o209 P) (lf (o337 P)) (lf (o465 P)))) (nd (o113 P) (nd (o177 P) (lf (o305 P)) (lf (o433 P))) (nd (o241 P) (lf (o369 P)) (lf (o497 P)))))) (nd (o25 P) (nd (o41 P) (nd (o73 P) (nd (o137 P) (nd (o265 P) (lf (o521 P)) z) (lf (o393 P))) (nd (o201 P) (lf (o329 P)) (lf (o457 P)))) (nd (o105 P) (nd (o169 P) (lf (o297 P)) (lf (o425 P))) (nd (o233 P) (lf (o361 P)) (lf (o489 P))))) (nd (o57 P) (nd (o89 P) (nd (o153 P) (nd (o281 P) (lf (o537 P)) z) (lf (o409 P))) (nd (o217 P) (lf (o345 P)) (lf (o473 P)))) (nd (o121 P) (nd (o185 P) (lf (o313 P)) (lf (o441 P))) (nd (o249 P) (lf (o377 P)) (lf (o505 P))))))) (nd (o13 P) (nd (o21 P) (nd (o37 P) (nd (o69 P) (nd (o133 P) (nd (o261 P) (lf (o517 P)) z) (lf (o389 P))) (nd (o197 P) (lf (o325 P)) (lf (o453 P)))) (nd (o101 P) (nd (o165 P) (nd (o293 P) (lf (o549 P)) z) (lf (o421 P))) (nd (o229 P) (lf (o357 P)) (lf (o485 P))))) (nd (o53 P) (nd (o85 P) (nd (o149 P) (nd (o277 P) (lf (o533 P)) z) (lf (o405 P))) (nd (o213 P) (lf (o341 P)) (lf (o469 P)))) (nd (o117 P) (nd (o181 P) (lf (o309 P)) (lf (o437 P))) (nd (o245 P) (lf (o373 P)) (lf (o501 P)))))) (nd (o29 P) (nd (o45 P) (nd (o77 P) (nd (o141 P) (nd (o269 P) (lf (o525 P)) z) (lf (o397 P))) (nd (o205 P) (lf (o333 P)) (lf (o461 P)))) (nd (o109 P) (nd (o173 P) (lf (o301 P)) (lf (o429 P))) (nd (o237 P) (lf (o365 P)) (lf (o493 P))))) (nd (o61 P) (nd (o93 P) (nd (o157 P) (nd (o285 P) (lf (o541 P)) z) (lf (o413 P))) (nd (o221 P) (lf (o349 P)) (lf (o477 P)))) (nd (o125 P) (nd (o189 P) (lf (o317 P)) (lf (o445 P))) (nd (o253 P) (lf (o381 P)) (lf (o509 P))))))))) (nd (o2 P) (nd (boot_o_4 P) (nd (boot_o_8 P) (nd (o16 P) (nd (o32 P) (nd (o64 P) (nd (o128 P) (nd (o256 P) (lf (o512 P)) z) (lf (o384 P))) (nd (o192 P) (lf (o320 P)) (lf (o448 P)))) (nd (o96 P) (nd (o160 P) (nd (o288 P) (lf (o544 P)) z) (lf (o416 P))) (nd (o224 P) (lf (o352 P)) (lf (o480 P))))) (nd (o48 P) (nd (o80 P) (nd (o144 P) (nd (o272 P) (lf (o528 P)) z) (lf (o400 P))) (nd (o208 P) (lf (o336 P)) (lf (o464 P)))) (nd (o112 P) (nd (o176 P) (lf (o304 P)) (lf (o432 P))) (nd (o240 P) (lf (o368 P)) (lf (o496 P)))))) (nd (o24 P) (nd (o40 P) (nd (o72 P) (nd (o136 P) (nd (o264 P) (lf (o520 P)) z) (lf (o392 P))) (nd (o200 P) (lf (o328 P)) (lf (o456 P)))) (nd (o104 P) (nd (o168 P) (lf (o296 P)) (lf (o424 P))) (nd (o232 P) (lf (o360 P)) (lf (o488 P))))) (nd (o56 P) (nd (o88 P) (nd (o152 P) (nd (o280 P) (lf (o536 P)) z) (lf (o408 P))) (nd (o216 P) (lf (o344 P)) (lf (o472 P)))) (nd (o120 P) (nd (o184 P) (lf (o312 P)) (lf (o440 P))) (nd (o248 P) (lf (o376 P)) (lf (o504 P))))))) (nd (o12 P) (nd (o20 P) (nd (o36 P) (nd (o68 P) (nd (o132 P) (nd (o260 P) (lf (o516 P)) z) (lf (o388 P))) (nd (o196 P) (lf (o324 P)) (lf (o452 P)))) (nd (o100 P) (nd (o164 P) (nd (o292 P) (lf (o548 P)) z) (lf (o420 P))) (nd (o228 P) (lf (o356 P)) (lf (o484 P))))) (nd (o52 P) (nd (o84 P) (nd (o148 P) (nd (o276 P) (lf (o532 P)) z) (lf (o404 P))) (nd (o212 P) (lf (o340 P)) (lf (o468 P)))) (nd (o116 P) (nd (o180 P) (lf (o308 P)) (lf (o436 P))) (nd (o244 P) (lf (o372 P)) (lf (o500 P)))))) (nd (o28 P) (nd (o44 P) (nd (o76 P) (nd (o140 P) (nd (o268 P) (lf (o524 P)) z) (lf (o396 P))) (nd (o204 P) (lf (o332 P)) (lf (o460 P)))) (nd (o108 P) (nd (o172 P) (lf (o300 P)) (lf (o428 P))) (nd (o236 P) (lf (o364 P)) (lf (o492 P))))) (nd (o60 P) (nd (o92 P) (nd (o156 P) (nd (o284 P) (lf (o540 P)) z) (lf (o412 P))) (nd (o220 P) (lf (o348 P)) (lf (o476 P)))) (nd (o124 P) (nd (o188 P) (lf (o316 P)) (lf (o444 P))) (nd (o252 P) (lf (o380 P)) (lf (o508 P)))))))) (nd (boot_o_6 P) (nd (boot_o_10 P) (nd (o18 P) (nd (o34 P) (nd (o66 P) (nd (o130 P) (nd (o258 P) (lf (o514 P)) z) (lf (o386 P))) (nd (o194 P) (lf (o322 P)) (lf (o450 P)))) (nd (o98 P) (nd (o162 P) (nd (o290 P) (lf (o546 P)) z) (lf (o418 P))) (nd (o226 P) (lf (o354 P)) (lf (o482 P))))) (nd (o50 P) (nd (o82 P) (nd (o146 P) (nd (o274 P) (lf (o530 P)) z) (lf (o402 P))) (nd (o210 P) (lf (o338 P)) (lf (o466 P)))) (nd (o114 P) (nd (o178 P) (lf (o306 P)) (lf (o434 P))) (nd (o242 P) (lf (o370 P)) (lf (o498 P)))))) (nd (o26 P) (nd (o42 P) (nd (o74 P) (nd (o138 P) (nd (o266 P) (lf (o522 P)) z) (lf (o394 P))) (nd (o202 P) (lf (o330 P)) (lf (o458 P)))) (nd (o106 P) (nd (o170 P) (lf (o298 P)) (lf (o426 P))) (nd (o234 P) (lf (o362 P)) (lf (o490 P))))) (nd (o58 P) (nd (o90 P) (nd (o154 P) (nd (o282 P) (lf (o538 P)) z) (lf (o410 P))) (nd (o218 P) (lf (o346 P)) (lf (o474 P)))) (nd (o122 P) (nd (o186 P) (lf (o314 P)) (lf (o442 P))) (nd (o250 P) (lf (o378 P)) (lf (o506 P))))))) (nd (o14 P) (nd (o22 P) (nd (o38 P) (nd (o70 P) (nd (o134 P) (nd (o262 P) (lf (o518 P)) z) (lf (o390 P))) (nd (o198 P) (lf (o326 P)) (lf (o454 P)))) (nd (o102 P) (nd (o166 P) (nd (o294 P) (lf (o550 P)) z) (lf (o422 P))) (nd (o230 P) (lf (o358 P)) (lf (o486 P))))) (nd (o54 P) (nd (o86 P) (nd (o150 P) (nd (o278 P) (lf (o534 P)) z) (lf (o406 P))) (nd (o214 P) (lf (o342 P)) (lf (o470 P)))) (nd (o118 P) (nd (o182 P) (lf (o310 P)) (lf (o438 P))) (nd (o246 P) (lf (o374 P)) (lf (o502 P)))))) (nd (o30 P) (nd (o46 P) (nd (o78 P) (nd (o142 P) (nd (o270 P) (lf (o526 P)) z) (lf (o398 P))) (nd (o206 P) (lf (o334 P)) (lf (o462 P)))) (nd (o110 P) (nd (o174 P) (lf (o302 P)) (lf (o430 P))) (nd (o238 P) (lf (o366 P)) (lf (o494 P))))) (nd (o62 P) (nd (o94 P) (nd (o158 P) (nd (o286 P) (lf (o542 P)) z) (lf (o414 P))) (nd (o222 P) (lf (o350 P)) (lf (o478 P)))) (nd (o126 P) (nd (o190 P) (lf (o318 P)) (lf (o446 P))) (nd (o254 P) (lf (o382 P)) (lf (o510 P)))))))))
noncomputable abbrev S14 (w : World) (os : OsState) : SharedT := ⟨T14 w.params, 552, {}, #[], {}, 1054, os⟩
noncomputable def HF (P : Params) : Heap := absHeap (T14 P) 552 {}
theorem p_pre (w : World) (os : OsState) : topGo treeTable PG w 11 annQ 12 ⟨boot_heap w.params, #[], boot_drawn, boot_toks, os⟩ (topStub PG) = some (⟨HA w.params, #[], {}, 187, os⟩, ⟨denote treeTable cQ, cQ, p0, pB⟩) := by kernel_rfl
theorem p_block (w : World) (os : OsState) : segRun treeTable PG w 11 annQ 1 1 ⟨HA w.params, #[], {}, 187, os⟩ (blockOf bQ envQ cQ p0 pB) = some (.next, (S0 w os).abs, cQ, ⟨0, 0, 0, 0⟩) := by kernel_rfl
noncomputable def B1 : List Stmt := (bQ.drop 0).take 11
theorem p_1 (w : World) (os : OsState) : segRunT treeTable PG w 11 annQ 1 433 (S0 w os) (piecesOf B1 envQ cQ ⟨0, 0, 0, 0⟩ pB) = some (.next, S1 w os, cQ, ⟨34, 0, 38, 24⟩) := by kernel_rfl
noncomputable def B2 : List Stmt := (bQ.drop 11).take 5
theorem p_2 (w : World) (os : OsState) : segRunT treeTable PG w 11 annQ 1 487 (S1 w os) (piecesOf B2 envQ cQ ⟨34, 0, 38, 24⟩ pB) = some (.next, S2 w os, cQ, ⟨48, 0, 48, 16⟩) := by kernel_rfl
noncomputable def B3 : List Stmt := (bQ.drop 16).take 8
theorem p_3 (w : World) (os : OsState) : segRunT treeTable PG w 11 annQ 1 229 (S2 w os) (piecesOf B3 envQ cQ ⟨48, 0, 48, 16⟩ pB) = some (.next, S3 w os, cQ, ⟨86, 0, 86, 8⟩) := by kernel_rfl
noncomputable def B4 : List Stmt := (bQ.drop 24).take 1
theorem p_4 (w : World) (os : OsState) : segRunT treeTable PG w 11 annQ 1 86 (S3 w os) (piecesOf B4 envQ cQ ⟨86, 0, 86, 8⟩ pB) = some (.next, S4 w os, cQ, ⟨87, 0, 87, 6⟩) :=
  byRow2 "special-get-raises" (P := fun w => ∀ os, segRunT treeTable PG w 11 annQ 1 86 (S3 w os) (piecesOf B4 envQ cQ ⟨86, 0, 86, 8⟩ pB) = some (.next, S4 w os, cQ, ⟨87, 0, 87, 6⟩)) (fun w => by intro os; kernel_rfl) (fun w => by intro os; kernel_rfl) w os
noncomputable def B5 : List Stmt := (bQ.drop 25).take 4
theorem p_5 (w : World) (os : OsState) : segRunT treeTable PG w 11 annQ 1 37 (S4 w os) (piecesOf B5 envQ cQ ⟨87, 0, 87, 6⟩ pB) = some (.next, S5 w os, cQ, ⟨91, 0, 91, 4⟩) := by kernel_rfl
noncomputable def B6 : List Stmt := (bQ.drop 29).take 1
theorem p_6 (w : World) (os : OsState) : segRunT treeTable PG w 11 annQ 1 59 (S5 w os) (piecesOf B6 envQ cQ ⟨91, 0, 91, 4⟩ pB) = some (.next, S6 w os, cQ, ⟨92, 0, 92, 4⟩) :=
  byRow2 "special-get-raises" (P := fun w => ∀ os, segRunT treeTable PG w 11 annQ 1 59 (S5 w os) (piecesOf B6 envQ cQ ⟨91, 0, 91, 4⟩ pB) = some (.next, S6 w os, cQ, ⟨92, 0, 92, 4⟩)) (fun w => by intro os; kernel_rfl) (fun w => by intro os; kernel_rfl) w os
noncomputable def B7 : List Stmt := (bQ.drop 30).take 12
theorem p_7 (w : World) (os : OsState) : segRunT treeTable PG w 11 annQ 1 283 (S6 w os) (piecesOf B7 envQ cQ ⟨92, 0, 92, 4⟩ pB) = some (.next, S7 w os, cQ, ⟨184, 0, 184, 19⟩) := by kernel_rfl
noncomputable def B8 : List Stmt := (bQ.drop 42).take 1
theorem p_8 (w : World) (os : OsState) : segRunT treeTable PG w 11 annQ 1 53 (S7 w os) (piecesOf B8 envQ cQ ⟨184, 0, 184, 19⟩ pB) = some (.next, S8 w os, cQ, ⟨185, 0, 185, 10⟩) :=
  byRow2 "special-get-raises" (P := fun w => ∀ os, segRunT treeTable PG w 11 annQ 1 53 (S7 w os) (piecesOf B8 envQ cQ ⟨184, 0, 184, 19⟩ pB) = some (.next, S8 w os, cQ, ⟨185, 0, 185, 10⟩)) (fun w => by intro os; kernel_rfl) (fun w => by intro os; kernel_rfl) w os
noncomputable def B9 : List Stmt := (bQ.drop 43).take 26
theorem p_9 (w : World) (os : OsState) : segRunT treeTable PG w 11 annQ 1 472 (S8 w os) (piecesOf B9 envQ cQ ⟨185, 0, 185, 10⟩ pB) = some (.next, S9 w os, cQ, ⟨277, 0, 277, 8⟩) := by kernel_rfl
noncomputable def B10 : List Stmt := (bQ.drop 69).take 6
theorem p_10 (w : World) (os : OsState) : segRunT treeTable PG w 11 annQ 1 144 (S9 w os) (piecesOf B10 envQ cQ ⟨277, 0, 277, 8⟩ pB) = some (.next, S10 w os, cQ, ⟨283, 0, 283, 10⟩) := by kernel_rfl
noncomputable def B11 : List Stmt := (bQ.drop 75).take 1
theorem p_11 (w : World) (os : OsState) : segRunT treeTable PG w 11 annQ 1 542 (S10 w os) (piecesOf B11 envQ cQ ⟨283, 0, 283, 10⟩ pB) = some (.next, S11 w os, cQ, ⟨284, 0, 331, 32⟩) := by kernel_rfl
noncomputable def B12 : List Stmt := (bQ.drop 76).take 1
theorem p_12 (w : World) (os : OsState) : segRunT treeTable PG w 11 annQ 1 445 (S11 w os) (piecesOf B12 envQ cQ ⟨284, 0, 331, 32⟩ pB) = some (.next, S12 w os, cQ, ⟨332, 0, 395, 44⟩) := by kernel_rfl
noncomputable def B13 : List Stmt := (bQ.drop 77).take 4
theorem p_13 (w : World) (os : OsState) : segRunT treeTable PG w 11 annQ 1 495 (S12 w os) (piecesOf B13 envQ cQ ⟨332, 0, 395, 44⟩ pB) = some (.next, S13 w os, cQ, ⟨468, 0, 472, 44⟩) := by kernel_rfl
noncomputable def B14 : List Stmt := (bQ.drop 81).take 11
theorem p_14 (w : World) (os : OsState) : segRunT treeTable PG w 11 annQ 1 328 (S13 w os) (piecesOf B14 envQ cQ ⟨468, 0, 472, 44⟩ pB) = some (.next, S14 w os, cQ, ⟨523, 0, 555, 58⟩) := by kernel_rfl
theorem p_fin (w : World) (os : OsState) : topRun treeTable PG w 11 annQ 2 (S14 w os).abs ⟨doneF .next, cQ, ⟨523, 0, 555, 58⟩, pB⟩ = some ⟨HF w.params, #[], {}, 1054, os⟩ := by kernel_rfl
theorem b_all : bQ = B1 ++ (B2 ++ (B3 ++ (B4 ++ (B5 ++ (B6 ++ (B7 ++ (B8 ++ (B9 ++ (B10 ++ (B11 ++ (B12 ++ (B13 ++ (B14 ++ []))))))))))))) := by kernel_rfl
theorem r_rest (w : World) (os : OsState) : topRun treeTable PG w 11 annQ (433 + (487 + (229 + (86 + (37 + (59 + (283 + (53 + (472 + (144 + (542 + (445 + (495 + (328 + 2)))))))))))))) (S0 w os).abs (restOf bQ envQ cQ ⟨0, 0, 0, 0⟩ pB) = some ⟨HF w.params, #[], {}, 1054, os⟩ :=
  (congrArg (fun l => topRun treeTable PG w 11 annQ (433 + (487 + (229 + (86 + (37 + (59 + (283 + (53 + (472 + (144 + (542 + (445 + (495 + (328 + 2)))))))))))))) (S0 w os).abs (restOf l envQ cQ ⟨0, 0, 0, 0⟩ pB)) b_all).trans
    (piece_app (segRun_of (p_1 w os))
    (piece_app (segRun_of (p_2 w os))
    (piece_app (segRun_of (p_3 w os))
    (piece_app (segRun_of (p_4 w os))
    (piece_app (segRun_of (p_5 w os))
    (piece_app (segRun_of (p_6 w os))
    (piece_app (segRun_of (p_7 w os))
    (piece_app (segRun_of (p_8 w os))
    (piece_app (segRun_of (p_9 w os))
    (piece_app (segRun_of (p_10 w os))
    (piece_app (segRun_of (p_11 w os))
    (piece_app (segRun_of (p_12 w os))
    (piece_app (segRun_of (p_13 w os))
    (piece_app (segRun_of (p_14 w os))
    (piece_nil (p_fin w os))))))))))))))))
theorem r_all (w : World) (os : OsState) : topRun treeTable PG w 11 annQ (12 + (1 + (433 + (487 + (229 + (86 + (37 + (59 + (283 + (53 + (472 + (144 + (542 + (445 + (495 + (328 + 2)))))))))))))))) ⟨boot_heap w.params, #[], boot_drawn, boot_toks, os⟩ (topStub PG) = some ⟨HF w.params, #[], {}, 1054, os⟩ :=
  go_top (p_pre w os) (piece_block (p_block w os) (r_rest w os))
noncomputable abbrev HH : Hook := kHook KK asK (fun P => by kernel_rfl)
theorem o_open : opening PG = plainProg PG.main.scope.names := by kernel_rfl
theorem o_left : LeftO PG viewQ looseL (fun s => recOk [] s) (Hook.obs HH) (Hook.val HH) 8284 :=
  LeftO.of_pieces (boot_open o_open (by decide +kernel) (fun s => by kernel_rfl))
    (m₀ := 11) (ann := annQ) (by intro w; kernel_rfl) r_all (by decide +kernel)
    (by intro w; kernel_rfl)
set_option maxHeartbeats 4000000
/-! Core -/

/-- pure data -/
inductive AV where
  | none
  | bool (b : Bool)
  | int (i : Int)
  | str (s : Str)
  | tup (l : List AV)
  | lst (l : List AV)
  | ref (a : Addr)

noncomputable abbrev Fz := Addr → Option Obj

mutual
inductive Rd (g : Fz) : Value → AV → Prop
  | none : Rd g .none .none
  | bool (b) : Rd g (.bool b) (.bool b)
  | int (i t) : Rd g (.int i t) (.int i)
  | str (s t) : Rd g (.str s t) (.str s)
  | ref (a) : Rd g (.ref a) (.ref a)
  | tup {a o n vs ds} : g a = some o → o.cls = .type "tuple" → o.data = .seq (List.toArray vs) n → Rds g vs ds → Rd g (.ref a) (.tup ds)
  | lst {a o n vs ds} : g a = some o → o.cls = .type "list" → o.data = .seq (List.toArray vs) n → Rds g vs ds → Rd g (.ref a) (.lst ds)
inductive Rds (g : Fz) : List Value → List AV → Prop
  | nil : Rds g [] []
  | cons {v d vs ds} : Rd g v d → Rds g vs ds → Rds g (v :: vs) (d :: ds)
end

noncomputable def Le (g g' : Fz) : Prop := ∀ a o, g a = some o → g' a = some o
theorem Le.refl (g : Fz) : Le g g := fun _ _ e => e
theorem Le.trans {g g' g'' : Fz} (x : Le g g') (y : Le g' g'') : Le g g'' := fun a o e => y a o (x a o e)

mutual
theorem Rd.mono {g g' : Fz} (h : Le g g') : ∀ {v : Value} {d : AV}, Rd g v d → Rd g' v d
  | _, _, .none => .none
  | _, _, .bool b => .bool b
  | _, _, .int i t => .int i t
  | _, _, .str s t => .str s t
  | _, _, .ref a => .ref a
  | _, _, .tup e c dd r => .tup (h _ _ e) c dd (Rds.mono h r)
  | _, _, .lst e c dd r => .lst (h _ _ e) c dd (Rds.mono h r)
theorem Rds.mono {g g' : Fz} (h : Le g g') : ∀ {vs : List Value} {ds : List AV}, Rds g vs ds → Rds g' vs ds
  | _, _, .nil => .nil
  | _, _, .cons x r => .cons (Rd.mono h x) (Rds.mono h r)
end
theorem Rds.length {g : Fz} : ∀ {vs : List Value} {ds : List AV}, Rds g vs ds → vs.length = ds.length
  | _, _, .nil => rfl
  | _, _, .cons _ r => congrArg (· + 1) r.length
theorem Rds.get {g : Fz} : ∀ {vs : List Value} {ds : List AV} {i : Nat} {d : AV}, Rds g vs ds → ds[i]? = some d → ∃ v, vs[i]? = some v ∧ Rd g v d
  | _, _, 0, _, .cons x _, e => by simp at e; subst e; exact ⟨_, rfl, x⟩
  | _, _, i + 1, _, .cons _ r, e => by simpa using r.get (i := i) (by simpa using e)
theorem Rds.append {g : Fz} : ∀ {vs ws : List Value} {ds es : List AV}, Rds g vs ds → Rds g ws es → Rds g (vs ++ ws) (ds ++ es)
  | _, _, _, _, .nil, r => r
  | _, _, _, _, .cons x q, r => .cons x (q.append r)
theorem Rds.drop {g : Fz} : ∀ (n : Nat) {vs : List Value} {ds : List AV}, Rds g vs ds → Rds g (vs.drop n) (ds.drop n)
  | 0, _, _, r => by simpa using r
  | _ + 1, _, _, .nil => by simpa using Rds.nil
  | n + 1, _, _, .cons _ r => by simpa using r.drop n
theorem Rds.take {g : Fz} : ∀ (n : Nat) {vs : List Value} {ds : List AV}, Rds g vs ds → Rds g (vs.take n) (ds.take n)
  | 0, _, _, _ => by simpa using Rds.nil
  | _ + 1, _, _, .nil => by simpa using Rds.nil
  | n + 1, _, _, .cons x r => by simpa using Rds.cons x (r.take n)

theorem Rd.int_inv {g : Fz} {v : Value} {i : Int} (h : Rd g v (.int i)) : ∃ t, v = .int i t := by cases h; exact ⟨_, rfl⟩
theorem Rd.str_inv {g : Fz} {v : Value} {x : Str} (h : Rd g v (.str x)) : ∃ t, v = .str x t := by cases h; exact ⟨_, rfl⟩
theorem Rd.bool_inv {g : Fz} {v : Value} {b : Bool} (h : Rd g v (.bool b)) : v = .bool b := by cases h; rfl
theorem Rd.none_inv {g : Fz} {v : Value} (h : Rd g v .none) : v = .none := by cases h; rfl
theorem Rd.ref_inv {g : Fz} {v : Value} {a : Addr} (h : Rd g v (.ref a)) : v = .ref a := by cases h; rfl
theorem Rd.lst_inv {g : Fz} {v : Value} {ds : List AV} (h : Rd g v (.lst ds)) : ∃ a o n vs, v = .ref a ∧ g a = some o ∧ o.cls = .type "list" ∧ o.data = .seq (List.toArray vs) n ∧ Rds g vs ds := by
  cases h with
  | lst a b c d => exact ⟨_, _, _, _, rfl, a, b, c, d⟩
theorem Rd.tup_inv {g : Fz} {v : Value} {ds : List AV} (h : Rd g v (.tup ds)) : ∃ a o n vs, v = .ref a ∧ g a = some o ∧ o.cls = .type "tuple" ∧ o.data = .seq (List.toArray vs) n ∧ Rds g vs ds := by
  cases h with
  | tup a b c d => exact ⟨_, _, _, _, rfl, a, b, c, d⟩
theorem Rds.one {g : Fz} {vs : List Value} {d : AV} (h : Rds g vs [d]) : ∃ v, vs = [v] ∧ Rd g v d := by
  cases h with
  | cons x r => cases r; exact ⟨_, rfl, x⟩
theorem Rds.two {g : Fz} {vs : List Value} {d e : AV} (h : Rds g vs [d, e]) : ∃ v u, vs = [v, u] ∧ Rd g v d ∧ Rd g u e := by
  cases h with
  | cons x r => obtain ⟨u, rfl, y⟩ := r.one; exact ⟨_, _, rfl, x, y⟩
/-- mutable objects -/
inductive MO where
  | list (l : List AV)
  | inst (C dx : Addr) (fs : List (Str × AV))
  | cell (v : Option AV)
  | any (p : Fz → Obj → Prop)
noncomputable abbrev Store := List (Addr × MO)

/-- the entries of an object's dict -/
inductive Ents (g : Fz) : List DictEntry → List (Str × AV) → Prop
  | nil : Ents g [] []
  | cons {hs x t v d es fs} : Rd g v d → Ents g es fs → Ents g (⟨hs, .str x t, v⟩ :: es) ((x, d) :: fs)
theorem Ents.mono {g g' : Fz} (h : Le g g') : ∀ {es fs}, Ents g es fs → Ents g' es fs
  | _, _, .nil => .nil
  | _, _, .cons x r => .cons (x.mono h) (r.mono h)

noncomputable def Holds (g : Fz) (h : Heap) (a : Addr) : MO → Prop
  | .list ds => ∃ vs, h.PlainList a (List.toArray vs) ∧ Rds g vs ds
  | .inst C dx fs => ∃ es n, h.get? a = some (instObj C dx) ∧ h.get? dx = some (dictOf es n) ∧ Ents g es fs
  | .cell none => h.IsCell a none
  | .cell (some d) => ∃ v, h.IsCell a (some v) ∧ Rd g v d
  | .any p => ∃ o, h.get? a = some o ∧ ∀ g', Le g g' → p g' o

noncomputable def MO.more : MO → List Addr
  | .inst _ dx _ => [dx]
  | _ => []
noncomputable def footOf (p : Addr × MO) : List Addr := p.1 :: p.2.more
noncomputable def foot : Store → List Addr
  | [] => []
  | p :: r => footOf p ++ foot r

theorem Holds.at {g g' : Fz} {h h' : Heap} {a : Addr} {o : MO} (x : Holds g h a o) (l : Le g g') (k : ∀ b ∈ footOf (a, o), ∀ ob, h.get? b = some ob → h'.get? b = some ob) : Holds g' h' a o := by
  cases o with
  | list ds => obtain ⟨vs, hl, r⟩ := x; exact ⟨vs, hl.at fun o e => k a (by simp [footOf]) o e, r.mono l⟩
  | inst C dx fs => obtain ⟨es, n, h1, h2, r⟩ := x; exact ⟨es, n, k a (by simp [footOf]) _ h1, k dx (by simp [footOf, MO.more]) _ h2, r.mono l⟩
  | cell v =>
    cases v with
    | none => obtain ⟨o, ho, r⟩ := x; exact ⟨o, k a (by simp [footOf]) _ ho, r⟩
    | some d => obtain ⟨v, ⟨o, ho, r⟩, q⟩ := x; exact ⟨v, ⟨o, k a (by simp [footOf]) _ ho, r⟩, q.mono l⟩
  | any p => obtain ⟨o, ho, q⟩ := x; exact ⟨o, k a (by simp [footOf]) _ ho, fun g'' le => q g'' (l.trans le)⟩
theorem Holds.live {g : Fz} {h : Heap} {a : Addr} {o : MO} (x : Holds g h a o) : ∀ b ∈ footOf (a, o), ∃ ob, h.get? b = some ob := by
  cases o with
  | list ds => obtain ⟨vs, ⟨n, ho⟩, r⟩ := x; intro b hb; simp [footOf, MO.more] at hb; subst hb; exact ⟨_, ho⟩
  | inst C dx fs =>
    obtain ⟨es, n, h1, h2, r⟩ := x; intro b hb; simp [footOf, MO.more] at hb
    rcases hb with rfl | rfl
    · exact ⟨_, h1⟩
    · exact ⟨_, h2⟩
  | cell v =>
    intro b hb; simp [footOf, MO.more] at hb; subst hb
    cases v with
    | none => obtain ⟨o, ho, r⟩ := x; exact ⟨o, ho⟩
    | some d => obtain ⟨v, ⟨o, ho, r⟩, q⟩ := x; exact ⟨o, ho⟩
  | any p => obtain ⟨o, ho, q⟩ := x; intro b hb; simp [footOf, MO.more] at hb; subst hb; exact ⟨o, ho⟩

structure Cx where
  A : Around
  env : Env
  ro : Store
  n : Nat
noncomputable abbrev Loc := Str → Option AV

noncomputable def Room (A : Around) (n : Nat) : Prop := A.handled = none ∧ A.depth + n < recursionLimit ∧ A.units + 4 * n + 100 < cLine

noncomputable def dom (c : Cx) (μ : Store) : List Addr := c.env.locals :: foot μ

structure Ext (D D' : List Addr) (s s' : Shared) (g g' : Fz) : Prop where
  le : Le g g'
  new : ∀ a o, g' a = some o → (∃ o, g a = some o) ∨ a ∈ D ∨ s.heap.get? a = none
  keep : ∀ a o, s.heap.get? a = some o → a ∉ D → s'.heap.get? a = some o
  dom : ∀ a ∈ D', a ∈ D ∨ s.heap.get? a = none
  same : ∃ h tk, s' = { s with heap := h, toks := tk }

theorem Ext.refl (D : List Addr) (s : Shared) (g : Fz) : Ext D D s s g g :=
  ⟨Le.refl g, fun _ o e => .inl ⟨o, e⟩, fun _ _ e _ => e, fun _ h => .inl h, s.heap, s.toks, rfl⟩
theorem Ext.trans {D D' D'' : List Addr} {s s' s'' : Shared} {g g' g'' : Fz} (x : Ext D D' s s' g g') (y : Ext D' D'' s' s'' g' g'') : Ext D D'' s s'' g g'' := by
  have none_of : ∀ a, s'.heap.get? a = none → a ∈ D ∨ s.heap.get? a = none := fun a e => by
    by_cases hD : a ∈ D
    · exact .inl hD
    · cases q : s.heap.get? a with
      | none => exact .inr rfl
      | some o => rw [x.keep a o q hD] at e; cases e
  refine ⟨x.le.trans y.le, fun a o e => ?_, fun a o e hD => ?_, fun a h => ?_, ?_⟩
  · rcases y.new a o e with ⟨o', e'⟩ | h | h
    · exact x.new a o' e'
    · exact .inr (x.dom a h)
    · exact .inr (none_of a h)
  · refine y.keep a o (x.keep a o e hD) fun h => ?_
    rcases x.dom a h with h | h
    · exact hD h
    · rw [e] at h; cases h
  · rcases y.dom a h with h | h
    · exact x.dom a h
    · exact none_of a h
  · obtain ⟨h, tk, rfl⟩ := x.same
    obtain ⟨h', tk', rfl⟩ := y.same
    exact ⟨h', tk', rfl⟩
theorem Ext.toks {D : List Addr} {s : Shared} {g : Fz} (k : Tok) : Ext D D s { s with toks := k } g g :=
  ⟨Le.refl g, fun _ o e => .inl ⟨o, e⟩, fun _ _ e _ => e, fun _ h => .inl h, s.heap, k, rfl⟩

section
variable (hT : Heap)

structure R (c : Cx) (g : Fz) (ν : Loc) (μ : Store) (s : Shared) : Prop where
  sub : ∀ a o, g a = some o → s.heap.get? a = some o
  top : ∀ a o, hT.get? a = some o → g a = some o
  ns : ∃ m, s.heap.Ns c.env.locals m ∧ ∀ x d, ν x = some d → ∃ v, m x = some v ∧ Rd g v d
  hold : ∀ p ∈ μ, Holds g s.heap p.1 p.2
  apart : (dom c μ).Nodup
  off : ∀ a ∈ dom c μ, g a = none
  ro : ∀ p ∈ c.ro, Holds g s.heap p.1 p.2 ∧ ∀ b ∈ footOf p, b ∉ dom c μ
  room : Room c.A c.n
end

/-! Ev -/

section
variable {hT : Heap}

theorem R.toks {c : Cx} {g : Fz} {ν : Loc} {μ : Store} {s : Shared} (r : R hT c g ν μ s) (k : Tok) : R hT c g ν μ { s with toks := k } :=
  ⟨r.sub, r.top, r.ns, r.hold, r.apart, r.off, r.ro, r.room⟩

/-- all that stood stands -/
noncomputable def Kept (s s' : Shared) : Prop := ∃ h tk, s' = { s with heap := h, toks := tk } ∧ ∀ b o, s.heap.get? b = some o → h.get? b = some o
theorem Kept.toks (s : Shared) (k : Tok) : Kept s { s with toks := k } := ⟨s.heap, k, rfl, fun _ _ e => e⟩
theorem Kept.refl (s : Shared) : Kept s s := ⟨s.heap, s.toks, rfl, fun _ _ e => e⟩
theorem Kept.push (s : Shared) (o : Obj) : Kept s { s with heap := s.heap.push o } := ⟨_, s.toks, rfl, fun _ _ e => Heap.get?_push_of_some _ e⟩
theorem Kept.pushT (s : Shared) (o : Obj) (k : Tok) : Kept s { s with heap := s.heap.push o, toks := k } := ⟨_, k, rfl, fun _ _ e => Heap.get?_push_of_some _ e⟩
theorem Kept.trans {s s' s'' : Shared} (x : Kept s s') (y : Kept s' s'') : Kept s s'' := by
  obtain ⟨h, tk, rfl, k⟩ := x
  obtain ⟨h', tk', rfl, k'⟩ := y
  exact ⟨h', tk', rfl, fun b o e => k' b o (k b o e)⟩
theorem Kept.ext {s s' : Shared} (x : Kept s s') (D : List Addr) (g : Fz) : Ext D D s s' g g := by
  obtain ⟨h, tk, rfl, k⟩ := x
  exact ⟨Le.refl g, fun _ o e => .inl ⟨o, e⟩, fun b o e _ => k b o e, fun _ h => .inl h, h, tk, rfl⟩
theorem R.kept {c : Cx} {g : Fz} {ν : Loc} {μ : Store} {s s' : Shared} (r : R hT c g ν μ s) (x : Kept s s') : R hT c g ν μ s' := by
  obtain ⟨h, tk, rfl, k⟩ := x
  exact ⟨fun a o e => k a o (r.sub a o e), r.top, let ⟨m, hm, hl⟩ := r.ns; ⟨m, hm.keeps k, hl⟩, fun p hp => (r.hold p hp).at (Le.refl g) fun b _ o e => k b o e, r.apart, r.off,
    fun p hp => ⟨(r.ro p hp).1.at (Le.refl g) fun b _ o e => k b o e, (r.ro p hp).2⟩, r.room⟩

noncomputable def put (g : Fz) (a : Addr) (o : Obj) : Fz := fun b => if b = a then some o else g b
theorem put_self (g : Fz) (a : Addr) (o : Obj) : put g a o a = some o := by simp [put]
theorem put_le {g : Fz} {a : Addr} {o : Obj} (h : g a = none) : Le g (put g a o) := fun b o' e => by
  unfold put
  by_cases q : b = a
  · subst q; rw [h] at e; cases e
  · rw [if_neg q]; exact e

theorem live_dom {c : Cx} {g : Fz} {ν : Loc} {μ : Store} {s : Shared} (r : R hT c g ν μ s) : ∀ a ∈ dom c μ, ∃ o, s.heap.get? a = some o := by
  have lf : ∀ (μ : Store), (∀ p ∈ μ, Holds g s.heap p.1 p.2) → ∀ a ∈ foot μ, ∃ o, s.heap.get? a = some o := by
    intro μ
    induction μ with
    | nil => intro _ a h; exact nomatch h
    | cons p r ih =>
      intro hh a h
      rcases List.mem_append.mp h with h | h
      · exact (hh p (.head _)).live a h
      · exact ih (fun q hq => hh q (.tail _ hq)) a h
  intro a h
  rcases List.mem_cons.mp h with rfl | h
  · obtain ⟨m, ⟨o, _, _, ho, _⟩, _⟩ := r.ns; exact ⟨o, ho⟩
  · exact lf μ r.hold a h

/-- a new object, frozen -/
theorem R.fz {c : Cx} {g : Fz} {ν : Loc} {μ : Store} {s s' : Shared} {a : Addr} {o : Obj} (r : R hT c g ν μ s) (x : Kept s s') (ha : s.heap.get? a = none) (ho : s'.heap.get? a = some o) :
    R hT c (put g a o) ν μ s' ∧ Ext (dom c μ) (dom c μ) s s' g (put g a o) := by
  have ga : g a = none := by
    cases q : g a with
    | none => rfl
    | some o' => rw [r.sub _ _ q] at ha; cases ha
  have le := put_le (o := o) ga
  obtain ⟨h, tk, rfl, k⟩ := x
  refine ⟨⟨fun b o' e => ?_, fun b o' e => le _ _ (r.top _ _ e), let ⟨m, hm, hl⟩ := r.ns; ⟨m, hm.keeps k, fun x d e => let ⟨v, h1, h2⟩ := hl x d e; ⟨v, h1, h2.mono le⟩⟩, fun p hp => (r.hold p hp).at le fun b _ o e => k b o e, r.apart, fun b hb => ?_,
    fun p hp => ⟨(r.ro p hp).1.at le fun b _ o e => k b o e, (r.ro p hp).2⟩, r.room⟩, ⟨le, fun b o' e => ?_, fun b o e _ => k b o e, fun _ h => .inl h, h, tk, rfl⟩⟩
  · unfold put at e
    by_cases q : b = a
    · rw [if_pos q] at e; cases e; rw [q]; exact ho
    · rw [if_neg q] at e; exact k _ _ (r.sub _ _ e)
  · unfold put
    by_cases q : b = a
    · subst q; obtain ⟨o', e⟩ := live_dom r b hb; rw [ha] at e; cases e
    · rw [if_neg q]; exact r.off b hb
  · unfold put at e
    by_cases q : b = a
    · exact .inr (.inr (q ▸ ha))
    · rw [if_neg q] at e; exact .inl ⟨o', e⟩

theorem size_none (h : Heap) : h.get? h.objs.size = none := by
  cases q : h.get? h.objs.size with
  | none => rfl
  | some o => exact absurd (Heap.lt_size q) (Nat.lt_irrefl _)
theorem R.push {c : Cx} {g : Fz} {ν : Loc} {μ : Store} {s : Shared} (r : R hT c g ν μ s) (o : Obj) (k : Tok) (hf : o.isFreed = false := by rfl) :
    R hT c (put g s.heap.objs.size o) ν μ { s with heap := s.heap.push o, toks := k } ∧ Ext (dom c μ) (dom c μ) s { s with heap := s.heap.push o, toks := k } g (put g s.heap.objs.size o) :=
  r.fz (Kept.pushT s o k) (size_none _) (Heap.get?_push_size _ hf)

variable {prog : Program} {w : World} {α β : Type}

noncomputable def Ev (hT : Heap) (prog : Program) (w : World) (c : Cx) (t : Sem α) (rel : Fz → α → β → Prop) (ν : Loc) (μ : Store) (k : β → Loc → Store → Prop) : Prop :=
  ∀ g s (Q : α → Shared → Prop), R hT c g ν μ s →
    (∀ g' s' x y ν' μ', Ext (dom c μ) (dom c μ') s s' g g' → R hT c g' ν' μ' s' → rel g' x y → k y ν' μ' → Q x s') →
    wpAny (model prog w) c.A t Q (fun _ _ => False) s

noncomputable def same : Fz → α → α → Prop := fun _ x y => x = y
noncomputable def any : Fz → α → Unit → Prop := fun _ _ _ => True
inductive Fl where
  | next | brk | cont
  | ret (d : AV)
inductive FlR (g : Fz) : Flow → Fl → Prop
  | next : FlR g .next .next
  | brk : FlR g .brk .brk
  | cont : FlR g .cont .cont
  | ret {v d} : Rd g v d → FlR g (.ret v) (.ret d)

noncomputable abbrev EvE (hT : Heap) (prog : Program) (w : World) (c : Cx) (e : Expr) (ν : Loc) (μ : Store) (k : AV → Loc → Store → Prop) : Prop := Ev hT prog w c (eval e c.env) Rd ν μ k
noncomputable abbrev EvT (hT : Heap) (prog : Program) (w : World) (c : Cx) (e : Expr) (ν : Loc) (μ : Store) (k : Bool → Loc → Store → Prop) : Prop := Ev hT prog w c (isTrue e c.env (eval e c.env)) same ν μ k
noncomputable abbrev EvS (hT : Heap) (prog : Program) (w : World) (c : Cx) (st : Stmt) (ν : Loc) (μ : Store) (k : Fl → Loc → Store → Prop) : Prop := Ev hT prog w c (exec st c.env) FlR ν μ k
noncomputable abbrev EvSs (hT : Heap) (prog : Program) (w : World) (c : Cx) (st : List Stmt) (ν : Loc) (μ : Store) (k : Fl → Loc → Store → Prop) : Prop := Ev hT prog w c (execs st c.env) FlR ν μ k

theorem Ev.mono {c : Cx} {t : Sem α} {rel : Fz → α → β → Prop} {ν : Loc} {μ : Store} {k k' : β → Loc → Store → Prop} (h : Ev hT prog w c t rel ν μ k) (q : ∀ y ν' μ', k y ν' μ' → k' y ν' μ') : Ev hT prog w c t rel ν μ k' :=
  fun g s Q r hQ => h g s Q r fun g' s' x y ν' μ' e r' l k₁ => hQ g' s' x y ν' μ' e r' l (q _ _ _ k₁)

/-- of one or two values -/
noncomputable def Ev1 (hT : Heap) (prog : Program) (w : World) (c : Cx) (f : Value → Sem α) (rel : Fz → α → β → Prop) (d : AV) (ν : Loc) (μ : Store) (k : β → Loc → Store → Prop) : Prop :=
  ∀ g s (Q : α → Shared → Prop) v, R hT c g ν μ s → Rd g v d →
    (∀ g' s' x y ν' μ', Ext (dom c μ) (dom c μ') s s' g g' → R hT c g' ν' μ' s' → rel g' x y → k y ν' μ' → Q x s') →
    wpAny (model prog w) c.A (f v) Q (fun _ _ => False) s
noncomputable def Ev2 (hT : Heap) (prog : Program) (w : World) (c : Cx) (f : Value → Value → Sem α) (rel : Fz → α → β → Prop) (d e : AV) (ν : Loc) (μ : Store) (k : β → Loc → Store → Prop) : Prop :=
  ∀ g s (Q : α → Shared → Prop) v u, R hT c g ν μ s → Rd g v d → Rd g u e →
    (∀ g' s' x y ν' μ', Ext (dom c μ) (dom c μ') s s' g g' → R hT c g' ν' μ' s' → rel g' x y → k y ν' μ' → Q x s') →
    wpAny (model prog w) c.A (f v u) Q (fun _ _ => False) s
noncomputable def EvL (hT : Heap) (prog : Program) (w : World) (c : Cx) (f : List Value → Sem α) (rel : Fz → α → β → Prop) (ds : List AV) (ν : Loc) (μ : Store) (k : β → Loc → Store → Prop) : Prop :=
  ∀ g s (Q : α → Shared → Prop) vs, R hT c g ν μ s → Rds g vs ds →
    (∀ g' s' x y ν' μ', Ext (dom c μ) (dom c μ') s s' g g' → R hT c g' ν' μ' s' → rel g' x y → k y ν' μ' → Q x s') →
    wpAny (model prog w) c.A (f vs) Q (fun _ _ => False) s

variable {c : Cx} {ν : Loc} {μ : Store}
noncomputable abbrev Kt (β : Type) := β → Loc → Store → Prop

theorem Ev.pure {a : α} {b : β} {rel : Fz → α → β → Prop} {k : Kt β} (hr : ∀ g, rel g a b) (h : k b ν μ) : Ev hT prog w c (pure a) rel ν μ k :=
  fun g s Q r hQ => wpAny_pure (hQ g s a b ν μ (Ext.refl _ s g) r (hr g) h)

/-! constants and names -/
theorem EvE.int {i : Int} {kk pos} {k : Kt AV} (h : k (.int i) ν μ) : EvE hT prog w c (.Constant (.int i) kk pos) ν μ k :=
  fun g s Q r hQ => wpAny_Constant_int (hQ g _ _ _ ν μ (Ext.toks _) (r.toks _) (.int _ _) h)
theorem EvE.str {x : Str} {kk pos} {k : Kt AV} (h : k (.str x) ν μ) : EvE hT prog w c (.Constant (.str x) kk pos) ν μ k :=
  fun g s Q r hQ => Constant_str (hQ g _ _ _ ν μ (Ext.toks _) (r.toks _) (.str _ _) h)
theorem EvE.bool {b : Bool} {kk pos} {k : Kt AV} (h : k (.bool b) ν μ) : EvE hT prog w c (.Constant (.bool b) kk pos) ν μ k :=
  fun g s Q r hQ => wpAny_Constant_bool (hQ g _ _ _ ν μ (Ext.refl _ _ _) r (.bool _) h)
theorem EvE.none {kk pos} {k : Kt AV} (h : k .none ν μ) : EvE hT prog w c (.Constant .none kk pos) ν μ k :=
  fun g s Q r hQ => wpAny_Constant_none (hQ g _ _ _ ν μ (Ext.refl _ _ _) r .none h)

theorem EvE.loc {x : Str} {pos} {d : AV} {k : Kt AV} (hl : c.env.kindOf x = some .local) (hv : ν x = some d) (h : k d ν μ)
    (hk : c.env.scope.kind = .function) (hd : (x == ("__debug__" : Str)) = false) : EvE hT prog w c (.Name x pos) ν μ k :=
  fun g s Q r hQ => by
    obtain ⟨m, hm, hll⟩ := r.ns
    obtain ⟨v, h1, h2⟩ := hll x d hv
    exact wpAny_Name (wpAny_loadName_local hk hl hm h1 (hQ g s v d ν μ (Ext.refl _ _ _) r h2 h)) hd

/-- a python cell: own or of the block around -/
theorem EvE.cel {x : Str} {a : Addr} {pos} {d : AV} {k : Kt AV} (hl : c.env.kindOf x = some .cell) (hc : c.env.cells.lookup x = some a) (hv : (a, MO.cell (some d)) ∈ μ ∨ (a, MO.cell (some d)) ∈ c.ro) (h : k d ν μ)
    (hk : c.env.scope.kind = .function) (hd : (x == ("__debug__" : Str)) = false) : EvE hT prog w c (.Name x pos) ν μ k :=
  fun g s Q r hQ => by
    have : Holds g s.heap a (.cell (some d)) := hv.elim (fun q => r.hold _ q) fun q => (r.ro _ q).1
    obtain ⟨v, hcell, hr⟩ := this
    exact wpAny_Name (wpAny_loadName_cell hk hl hc hcell (hQ g s v d ν μ (Ext.refl _ _ _) r hr h)) hd

/-! operators -/
theorem EvE.binop {op : Operator} {l r : Expr} {pos} {k : Kt AV} (h : EvE hT prog w c l ν μ fun d ν₁ μ₁ => EvE hT prog w c r ν₁ μ₁ fun e ν₂ μ₂ => Ev2 hT prog w c (binaryOp op) Rd d e ν₂ μ₂ k) : EvE hT prog w c (.BinOp l op r pos) ν μ k :=
  fun g s Q R₀ hQ => wpAny_BinOp (h g s _ R₀ fun g₁ s₁ v₁ d₁ ν₁ μ₁ e₁ r₁ rd₁ k₁ => k₁ g₁ s₁ _ r₁ fun g₂ s₂ v₂ d₂ ν₂ μ₂ e₂ r₂ rd₂ k₂ =>
    k₂ g₂ s₂ Q v₁ v₂ r₂ (rd₁.mono e₂.le) rd₂ fun g₃ s₃ x y ν₃ μ₃ e₃ r₃ rl k₃ => hQ g₃ s₃ x y ν₃ μ₃ ((e₁.trans e₂).trans e₃) r₃ rl k₃)
theorem Ev2.int {op : Operator} {a b n : Int} {k : Kt AV} (hop : ∀ A E (Q : Value → Shared → Prop) s t u, Q (.int n s.toks) { s with toks := s.toks + 1 } → wpAny (model prog w) A (binaryOp op (.int a t) (.int b u)) Q E s) (h : k (.int n) ν μ) :
    Ev2 hT prog w c (binaryOp op) Rd (.int a) (.int b) ν μ k := by
  intro g s Q v u r hv hu hQ
  obtain ⟨_, rfl⟩ := hv.int_inv
  obtain ⟨_, rfl⟩ := hu.int_inv
  exact hop _ _ _ _ _ _ (hQ g _ _ _ ν μ (Ext.toks _) (r.toks _) (.int _ _) h)
theorem Ev2.add {a b : Int} {k : Kt AV} (h : k (.int (a + b)) ν μ) : Ev2 hT prog w c (binaryOp .Add) Rd (.int a) (.int b) ν μ k := Ev2.int (fun _ _ _ _ _ _ q => add_int q) h
theorem Ev2.sub {a b : Int} {k : Kt AV} (h : k (.int (a - b)) ν μ) : Ev2 hT prog w c (binaryOp .Sub) Rd (.int a) (.int b) ν μ k := Ev2.int (fun _ _ _ _ _ _ q => sub_int q) h
theorem Ev2.mod {a b : Int} {k : Kt AV} (hb : b ≠ 0) (h : k (.int (a.fmod b)) ν μ) : Ev2 hT prog w c (binaryOp .Mod) Rd (.int a) (.int b) ν μ k := Ev2.int (fun _ _ _ _ _ _ q => mod_int hb q) h

end
/-! Rules -/

/-! data as the library's data -/
mutual
noncomputable def AV.py : AV → PyData
  | .none => .none
  | .bool b => .bool b
  | .int i => .int i
  | .str s => .str s
  | .tup l => .tuple (AV.pys l)
  | .lst l => .list (AV.pys l)
  | .ref _ => .none
noncomputable def AV.pys : List AV → List PyData
  | [] => []
  | d :: ds => d.py :: AV.pys ds
end
mutual
noncomputable def AV.ok : Nat → AV → Bool
  | _, .none => true
  | _, .bool _ => true
  | _, .int _ => true
  | _, .str s => PyData.strOk s
  | 0, .tup _ => false
  | 0, .lst _ => false
  | n + 1, .tup l => AV.oks n l
  | n + 1, .lst l => AV.oks n l
  | _, .ref _ => false
noncomputable def AV.oks : Nat → List AV → Bool
  | _, [] => true
  | n, d :: ds => d.ok n && AV.oks n ds
end
theorem AV.oks_iff (n : Nat) : ∀ l : List AV, AV.oks n l = true ↔ ∀ d ∈ l, d.ok n = true
  | [] => by simp [AV.oks]
  | d :: ds => by simp [AV.oks, AV.oks_iff n ds]

mutual
theorem Rd.reads {g : Fz} {h : Heap} (hs : ∀ a o, g a = some o → h.get? a = some o) : ∀ {v : Value} {d : AV} (n : Nat), Rd g v d → d.ok n = true → ∃ as, Reads h v d.py as
  | _, _, _, .none, _ => ⟨_, .none⟩
  | _, _, _, .bool b, _ => ⟨_, .bool b⟩
  | _, _, _, .int i t, _ => ⟨_, .int i t⟩
  | _, _, _, .str x t, _ => ⟨_, .str x t⟩
  | _, _, n, .ref a, hk => by cases n <;> simp [AV.ok] at hk
  | _, _, 0, .tup .., hk => by simp [AV.ok] at hk
  | _, _, 0, .lst .., hk => by simp [AV.ok] at hk
  | _, _, n + 1, .tup e c dd r, hk => by
    obtain ⟨as, q⟩ := Rds.reads hs n r (by simpa [AV.ok] using hk)
    exact ⟨as, by rw [AV.py]; exact .tuple (hs _ _ e) c dd (by simpa using q)⟩
  | _, _, n + 1, .lst e c dd r, hk => by
    obtain ⟨as, q⟩ := Rds.reads hs n r (by simpa [AV.ok] using hk)
    exact ⟨_, by rw [AV.py]; exact .list (hs _ _ e) c dd (by simpa using q)⟩
theorem Rds.reads {g : Fz} {h : Heap} (hs : ∀ a o, g a = some o → h.get? a = some o) : ∀ {vs : List Value} {ds : List AV} (n : Nat), Rds g vs ds → AV.oks n ds = true → ∃ as, ReadsAll h vs (AV.pys ds) as
  | _, _, _, .nil, _ => ⟨_, .nil⟩
  | _, _, n, .cons x r, hk => by
    rw [AV.oks, Bool.and_eq_true] at hk
    obtain ⟨as, q⟩ := Rd.reads hs n x hk.1
    obtain ⟨bs, p⟩ := Rds.reads hs n r hk.2
    exact ⟨_, by rw [AV.pys]; exact .cons q p⟩
end
mutual
theorem AV.lay : ∀ (n : Nat) (d : AV), d.ok n = true → d.py.canLay0 = true ∧ d.py.depth ≤ n
  | n, .none, _ => by cases n <;> simp [AV.py, PyData.canLay0, PyData.depth]
  | n, .bool _, _ => by cases n <;> simp [AV.py, PyData.canLay0, PyData.depth]
  | n, .int _, _ => by cases n <;> simp [AV.py, PyData.canLay0, PyData.depth]
  | n, .str x, h => by cases n <;> simp [AV.ok] at h <;> simp [AV.py, PyData.canLay0, PyData.depth, h]
  | 0, .tup _, h => by simp [AV.ok] at h
  | 0, .lst _, h => by simp [AV.ok] at h
  | n + 1, .tup l, h => by
    have q := AV.lays n l (by simpa [AV.ok] using h)
    have q2 := q.2
    simp only [AV.py, PyData.canLay0, PyData.depth, q.1, true_and]
    omega
  | n + 1, .lst l, h => by
    have q := AV.lays n l (by simpa [AV.ok] using h)
    have q2 := q.2
    simp only [AV.py, PyData.canLay0, PyData.depth, q.1, true_and]
    omega
  | n, .ref _, h => by cases n <;> simp [AV.ok] at h
theorem AV.lays : ∀ (n : Nat) (l : List AV), AV.oks n l = true → PyData.canLayAll0 (AV.pys l) = true ∧ PyData.depthAll (AV.pys l) ≤ n
  | _, [], _ => by simp [AV.pys, PyData.canLayAll0, PyData.depthAll]
  | n, d :: ds, h => by
    rw [AV.oks, Bool.and_eq_true] at h
    have h1 := AV.lay n d h.1
    have h2 := AV.lays n ds h.2
    have a1 := h1.2
    have a2 := h2.2
    simp only [AV.pys, PyData.canLayAll0, PyData.depthAll, h1.1, h2.1, Bool.and_self, true_and]
    omega
end
/-- python's == -/
noncomputable def deq (d e : AV) : Bool := PyData.eqv d.py e.py

section
variable {hT : Heap} {prog : Program} {w : World} {α β : Type} {c : Cx} {ν : Loc} {μ : Store}

theorem R.units {g : Fz} {s : Shared} (r : R hT c g ν μ s) : c.A.units + 64 < cLine := by
  have := r.room.2.2; omega

theorem Ev2.eq {d e : AV} {k : Kt AV} (n m : Nat) (hd : d.ok n = true) (he : e.ok m = true) (hn : n ≤ 64) (hm : m ≤ 64) (h : k (.bool (deq d e)) ν μ) : Ev2 hT prog w c (compareOp .Eq) Rd d e ν μ k := by
  intro g s Q v u r hv hu hQ
  obtain ⟨as, ra⟩ := hv.reads r.sub n hd
  obtain ⟨bs, rb⟩ := hu.reads r.sub m he
  have la := AV.lay n d hd
  have lb := AV.lay m e he
  refine eq_dataH ra rb ?_ ?_ r.units (hQ g s _ _ ν μ (Ext.refl _ _ _) r (.bool _) h)
  · unfold SeqAt.shaped; rw [la.1, Bool.true_and]; exact decide_eq_true (Nat.le_trans la.2 hn)
  · unfold SeqAt.shaped; rw [lb.1, Bool.true_and]; exact decide_eq_true (Nat.le_trans lb.2 hm)
theorem Ev2.ne {d e : AV} {k : Kt AV} (n m : Nat) (hd : d.ok n = true) (he : e.ok m = true) (hn : n ≤ 64) (hm : m ≤ 64) (h : k (.bool (!deq d e)) ν μ) : Ev2 hT prog w c (compareOp .NotEq) Rd d e ν μ k := by
  intro g s Q v u r hv hu hQ
  obtain ⟨as, ra⟩ := hv.reads r.sub n hd
  obtain ⟨bs, rb⟩ := hu.reads r.sub m he
  have la := AV.lay n d hd
  have lb := AV.lay m e he
  refine ne_dataH ra rb ?_ ?_ r.units (hQ g s _ _ ν μ (Ext.refl _ _ _) r (.bool _) h)
  · unfold SeqAt.shaped; rw [la.1, Bool.true_and]; exact decide_eq_true (Nat.le_trans la.2 hn)
  · unfold SeqAt.shaped; rw [lb.1, Bool.true_and]; exact decide_eq_true (Nat.le_trans lb.2 hm)
theorem anyEq (d : AV) : ∀ l : List AV, ((AV.pys l).any fun y => PyData.eqv y d.py) = l.any fun y => deq y d
  | [] => rfl
  | x :: l => by simp only [AV.pys, List.any_cons, anyEq d l, deq]
theorem Ev2.inLst {l : List AV} {d : AV} {k : Kt AV} (n m : Nat) (hl : AV.oks n l = true) (hd : d.ok m = true) (hn : m ≤ 32) (h : k (.bool (l.any fun y => deq y d)) ν μ) : Ev2 hT prog w c (compareOp .In) Rd d (.lst l) ν μ k := by
  intro g s Q v u r hv hu hQ
  obtain ⟨as, ra⟩ := hu.reads r.sub (n + 1) (by simpa [AV.ok] using hl)
  obtain ⟨bs, rb⟩ := hv.reads r.sub m hd
  have la := AV.lays n l hl
  have lb := AV.lay m d hd
  rw [AV.py] at ra
  have hu' := r.units
  refine SeqAt.in_list_reads ra rb la.1 lb.1 ?_ (by rw [anyEq]; exact hQ g s _ _ ν μ (Ext.refl _ _ _) r (.bool _) h)
  have := Nat.min_le_right (PyData.depthAll (AV.pys l)) d.py.depth
  have := lb.2
  omega
theorem Ev2.notInLst {l : List AV} {d : AV} {k : Kt AV} (n m : Nat) (hl : AV.oks n l = true) (hd : d.ok m = true) (hn : m ≤ 32) (h : k (.bool (!l.any fun y => deq y d)) ν μ) : Ev2 hT prog w c (compareOp .NotIn) Rd d (.lst l) ν μ k := by
  intro g s Q v u r hv hu hQ
  obtain ⟨as, ra⟩ := hu.reads r.sub (n + 1) (by simpa [AV.ok] using hl)
  obtain ⟨bs, rb⟩ := hv.reads r.sub m hd
  have la := AV.lays n l hl
  have lb := AV.lay m d hd
  rw [AV.py] at ra
  have hu' := r.units
  refine SeqAt.notIn_list_reads ra rb la.1 lb.1 ?_ (by rw [anyEq]; exact hQ g s _ _ ν μ (Ext.refl _ _ _) r (.bool _) h)
  have := Nat.min_le_right (PyData.depthAll (AV.pys l)) d.py.depth
  have := lb.2
  omega
theorem Ev2.inTup {l : List AV} {d : AV} {k : Kt AV} (n m : Nat) (hl : AV.oks n l = true) (hd : d.ok m = true) (hn : m ≤ 32) (h : k (.bool (l.any fun y => deq y d)) ν μ) : Ev2 hT prog w c (compareOp .In) Rd d (.tup l) ν μ k := by
  intro g s Q v u r hv hu hQ
  obtain ⟨as, ra⟩ := hu.reads r.sub (n + 1) (by simpa [AV.ok] using hl)
  obtain ⟨bs, rb⟩ := hv.reads r.sub m hd
  have la := AV.lays n l hl
  have lb := AV.lay m d hd
  rw [AV.py] at ra
  have hu' := r.units
  refine SeqAt.in_tuple_reads ra rb la.1 lb.1 ?_ (by rw [anyEq]; exact hQ g s _ _ ν μ (Ext.refl _ _ _) r (.bool _) h)
  have := Nat.min_le_right (PyData.depthAll (AV.pys l)) d.py.depth
  have := lb.2
  omega

/-! comparisons of ints and strs -/
theorem Ev2.rel {op : CmpOp} {d e : AV} {b : Bool} {k : Kt AV} (hop : ∀ g v u A E (Q : Value → Shared → Prop) s, Rd g v d → Rd g u e → Q (.bool b) s → wpAny (model prog w) A (compareOp op v u) Q E s) (h : k (.bool b) ν μ) :
    Ev2 hT prog w c (compareOp op) Rd d e ν μ k :=
  fun g s Q v u r hv hu hQ => hop g v u _ _ _ _ hv hu (hQ g s _ _ ν μ (Ext.refl _ _ _) r (.bool _) h)
theorem Ev2.eqI {a b : Int} {k : Kt AV} (h : k (.bool (a == b)) ν μ) : Ev2 hT prog w c (compareOp .Eq) Rd (.int a) (.int b) ν μ k := Ev2.rel (fun _ _ _ _ _ _ _ x y q => by obtain ⟨_, rfl⟩ := x.int_inv; obtain ⟨_, rfl⟩ := y.int_inv; exact eq_int q) h
theorem Ev2.neI {a b : Int} {k : Kt AV} (h : k (.bool (a != b)) ν μ) : Ev2 hT prog w c (compareOp .NotEq) Rd (.int a) (.int b) ν μ k := Ev2.rel (fun _ _ _ _ _ _ _ x y q => by obtain ⟨_, rfl⟩ := x.int_inv; obtain ⟨_, rfl⟩ := y.int_inv; exact ne_int q) h
theorem Ev2.ltI {a b : Int} {k : Kt AV} (h : k (.bool (decide (a < b))) ν μ) : Ev2 hT prog w c (compareOp .Lt) Rd (.int a) (.int b) ν μ k := Ev2.rel (fun _ _ _ _ _ _ _ x y q => by obtain ⟨_, rfl⟩ := x.int_inv; obtain ⟨_, rfl⟩ := y.int_inv; exact lt_int q) h
theorem Ev2.leI {a b : Int} {k : Kt AV} (h : k (.bool (decide (a ≤ b))) ν μ) : Ev2 hT prog w c (compareOp .LtE) Rd (.int a) (.int b) ν μ k := Ev2.rel (fun _ _ _ _ _ _ _ x y q => by obtain ⟨_, rfl⟩ := x.int_inv; obtain ⟨_, rfl⟩ := y.int_inv; exact le_int q) h
theorem Ev2.gtI {a b : Int} {k : Kt AV} (h : k (.bool (decide (b < a))) ν μ) : Ev2 hT prog w c (compareOp .Gt) Rd (.int a) (.int b) ν μ k := Ev2.rel (fun _ _ _ _ _ _ _ x y q => by obtain ⟨_, rfl⟩ := x.int_inv; obtain ⟨_, rfl⟩ := y.int_inv; exact gt_int q) h
theorem Ev2.geI {a b : Int} {k : Kt AV} (h : k (.bool (decide (b ≤ a))) ν μ) : Ev2 hT prog w c (compareOp .GtE) Rd (.int a) (.int b) ν μ k := Ev2.rel (fun _ _ _ _ _ _ _ x y q => by obtain ⟨_, rfl⟩ := x.int_inv; obtain ⟨_, rfl⟩ := y.int_inv; exact ge_int q) h
theorem Ev2.eqS {a b : Str} {k : Kt AV} (h : k (.bool (a == b)) ν μ) : Ev2 hT prog w c (compareOp .Eq) Rd (.str a) (.str b) ν μ k := Ev2.rel (fun _ _ _ _ _ _ _ x y q => by obtain ⟨_, rfl⟩ := x.str_inv; obtain ⟨_, rfl⟩ := y.str_inv; exact eq_str q) h
theorem Ev2.neS {a b : Str} {k : Kt AV} (h : k (.bool (a != b)) ν μ) : Ev2 hT prog w c (compareOp .NotEq) Rd (.str a) (.str b) ν μ k := Ev2.rel (fun _ _ _ _ _ _ _ x y q => by obtain ⟨_, rfl⟩ := x.str_inv; obtain ⟨_, rfl⟩ := y.str_inv; exact ne_str q) h
theorem Ev2.inS {a b : Str} {k : Kt AV} (h : k (.bool (!(Builtin.Str.occurrences b a 0 b.length 1).isEmpty)) ν μ) : Ev2 hT prog w c (compareOp .In) Rd (.str a) (.str b) ν μ k := Ev2.rel (fun _ _ _ _ _ _ _ x y q => by obtain ⟨_, rfl⟩ := x.str_inv; obtain ⟨_, rfl⟩ := y.str_inv; exact PyProof.Rows.in_str q) h
theorem Ev2.notInS {a b : Str} {k : Kt AV} (h : k (.bool (!(!(Builtin.Str.occurrences b a 0 b.length 1).isEmpty))) ν μ) : Ev2 hT prog w c (compareOp .NotIn) Rd (.str a) (.str b) ν μ k := Ev2.rel (fun _ _ _ _ _ _ _ x y q => by obtain ⟨_, rfl⟩ := x.str_inv; obtain ⟨_, rfl⟩ := y.str_inv; exact PyProof.Rows.notIn_str q) h
noncomputable def AV.isNone : AV → Bool
  | .none => true
  | _ => false
theorem Ev2.isNotNone {d : AV} {k : Kt AV} (h : k (.bool (!d.isNone)) ν μ) : Ev2 hT prog w c (compareOp .IsNot) Rd d .none ν μ k :=
  Ev2.rel (fun _ v u _ _ _ _ x y q => by cases y; cases x <;> exact isNot_none q) h

/-! truth -/
noncomputable def AV.truth : AV → Bool
  | .none => false
  | .bool b => b
  | .int i => i != 0
  | .str s => (s.length : Int) != 0
  | .tup l => !l.isEmpty
  | .lst l => !l.isEmpty
  | .ref _ => true
theorem Ev1.truthB {b : Bool} {k : Kt Bool} (h : k b ν μ) : Ev1 hT prog w c truthy same (.bool b) ν μ k :=
  fun g s Q v r hv hQ => by obtain rfl := hv.bool_inv; exact wpAny_truthy_bool (hQ g s _ _ ν μ (Ext.refl _ _ _) r rfl h)
theorem Ev1.truthI {i : Int} {k : Kt Bool} (h : k (i != 0) ν μ) : Ev1 hT prog w c truthy same (.int i) ν μ k :=
  fun g s Q v r hv hQ => by obtain ⟨_, rfl⟩ := hv.int_inv; exact PyProof.Rows.truthy_int (hQ g s _ _ ν μ (Ext.refl _ _ _) r rfl h)

theorem EvT.plain {e : Expr} {k : Kt Bool} (h : EvE hT prog w c e ν μ fun d ν₁ μ₁ => Ev1 hT prog w c truthy same d ν₁ μ₁ k)
    (he : isTrue e c.env (eval e c.env) = (do let v ← eval e c.env; standAt e.pos; holding [v] (truthy v)) := by rfl) : EvT hT prog w c e ν μ k :=
  fun g s Q r hQ => isTrue_plain (h g s _ r fun g₁ s₁ v₁ d₁ ν₁ μ₁ e₁ r₁ rd₁ k₁ => k₁ g₁ s₁ Q v₁ r₁ rd₁ fun g₂ s₂ x y ν₂ μ₂ e₂ r₂ rl k₂ => hQ g₂ s₂ x y ν₂ μ₂ (e₁.trans e₂) r₂ rl k₂) he
theorem EvT.not {e : Expr} {pos} {k : Kt Bool} (h : EvT hT prog w c e ν μ fun b => k (!b)) : EvT hT prog w c (.UnaryOp .Not e pos) ν μ k :=
  fun g s Q r hQ => isTrue_not (h g s _ r fun g₁ s₁ x y ν₁ μ₁ e₁ r₁ rl k₁ => hQ g₁ s₁ _ _ ν₁ μ₁ e₁ r₁ (congrArg _ rl) k₁)
theorem EvE.not {e : Expr} {pos} {k : Kt AV} (h : EvE hT prog w c e ν μ fun d ν₁ μ₁ => Ev1 hT prog w c truthy same d ν₁ μ₁ fun b => k (.bool (!b))) : EvE hT prog w c (.UnaryOp .Not e pos) ν μ k :=
  fun g s Q r hQ => wpAny_UnaryOp (h g s _ r fun g₁ s₁ v₁ d₁ ν₁ μ₁ e₁ r₁ rd₁ k₁ => not_of (k₁ g₁ s₁ _ v₁ r₁ rd₁ fun g₂ s₂ x y ν₂ μ₂ e₂ r₂ rl k₂ => by
    cases rl; exact hQ g₂ s₂ _ _ ν₂ μ₂ (e₁.trans e₂) r₂ (.bool _) k₂))
theorem EvT.andNil {pos} {k : Kt Bool} (h : k true ν μ) : EvT hT prog w c (.BoolOp .And [] pos) ν μ k :=
  fun g s Q r hQ => wpAny_isTrue_BoolOp (wpAny_allTrue_And_nil (hQ g s _ _ ν μ (Ext.refl _ _ _) r rfl h))
theorem EvT.and {e : Expr} {es : List Expr} {pos} {k : Kt Bool} (h : EvT hT prog w c e ν μ fun b ν₁ μ₁ => (b = true → EvT hT prog w c (.BoolOp .And es pos) ν₁ μ₁ k) ∧ (b = false → k false ν₁ μ₁)) :
    EvT hT prog w c (.BoolOp .And (e :: es) pos) ν μ k :=
  fun g s Q r hQ => wpAny_isTrue_BoolOp (wpAny_allTrue_And_cons (h g s _ r fun g₁ s₁ x y ν₁ μ₁ e₁ r₁ rl k₁ => by
    cases rl
    cases x with
    | true => exact (show wpAny _ _ (isTrue (.BoolOp .And es pos) c.env (eval (.BoolOp .And es pos) c.env)) _ _ _ from k₁.1 rfl g₁ s₁ _ r₁ fun g₂ s₂ x y ν₂ μ₂ e₂ r₂ rl k₂ => hQ g₂ s₂ x y ν₂ μ₂ (e₁.trans e₂) r₂ rl k₂)
    | false => exact hQ g₁ s₁ _ _ ν₁ μ₁ e₁ r₁ rfl (k₁.2 rfl)))
theorem EvT.orNil {pos} {k : Kt Bool} (h : k false ν μ) : EvT hT prog w c (.BoolOp .Or [] pos) ν μ k :=
  fun g s Q r hQ => wpAny_isTrue_BoolOp (wpAny_pure (hQ g s _ _ ν μ (Ext.refl _ _ _) r rfl h))
theorem EvT.or {e : Expr} {es : List Expr} {pos} {k : Kt Bool} (h : EvT hT prog w c e ν μ fun b ν₁ μ₁ => (b = true → k true ν₁ μ₁) ∧ (b = false → EvT hT prog w c (.BoolOp .Or es pos) ν₁ μ₁ k)) :
    EvT hT prog w c (.BoolOp .Or (e :: es) pos) ν μ k :=
  fun g s Q r hQ => wpAny_isTrue_BoolOp (wpAny_allTrue_Or_cons (h g s _ r fun g₁ s₁ x y ν₁ μ₁ e₁ r₁ rl k₁ => by
    cases rl
    cases x with
    | false => exact (show wpAny _ _ (isTrue (.BoolOp .Or es pos) c.env (eval (.BoolOp .Or es pos) c.env)) _ _ _ from k₁.2 rfl g₁ s₁ _ r₁ fun g₂ s₂ x y ν₂ μ₂ e₂ r₂ rl k₂ => hQ g₂ s₂ x y ν₂ μ₂ (e₁.trans e₂) r₂ rl k₂)
    | true => exact hQ g₁ s₁ _ _ ν₁ μ₁ e₁ r₁ rfl (k₁.1 rfl)))
theorem EvE.and2 {x y : Expr} {pos} {k : Kt AV} (h : EvE hT prog w c x ν μ fun d ν₁ μ₁ => Ev1 hT prog w c truthy same d ν₁ μ₁ fun b ν₂ μ₂ => (b = true → EvE hT prog w c y ν₂ μ₂ k) ∧ (b = false → k d ν₂ μ₂)) :
    EvE hT prog w c (.BoolOp .And [x, y] pos) ν μ k :=
  fun g s Q r hQ => wpAny_And2 (h g s _ r fun g₁ s₁ v₁ d₁ ν₁ μ₁ e₁ r₁ rd₁ k₁ => k₁ g₁ s₁ _ v₁ r₁ rd₁ fun g₂ s₂ x y ν₂ μ₂ e₂ r₂ rl k₂ => by
    cases rl
    cases x with
    | true => exact k₂.1 rfl g₂ s₂ _ r₂ fun g₃ s₃ x y ν₃ μ₃ e₃ r₃ rl k₃ => hQ g₃ s₃ x y ν₃ μ₃ ((e₁.trans e₂).trans e₃) r₃ rl k₃
    | false => exact hQ g₂ s₂ _ _ ν₂ μ₂ (e₁.trans e₂) r₂ (rd₁.mono e₂.le) (k₂.2 rfl))
theorem EvE.or2 {x y : Expr} {pos} {k : Kt AV} (h : EvE hT prog w c x ν μ fun d ν₁ μ₁ => Ev1 hT prog w c truthy same d ν₁ μ₁ fun b ν₂ μ₂ => (b = true → k d ν₂ μ₂) ∧ (b = false → EvE hT prog w c y ν₂ μ₂ k)) :
    EvE hT prog w c (.BoolOp .Or [x, y] pos) ν μ k :=
  fun g s Q r hQ => wpAny_Or2 (h g s _ r fun g₁ s₁ v₁ d₁ ν₁ μ₁ e₁ r₁ rd₁ k₁ => k₁ g₁ s₁ _ v₁ r₁ rd₁ fun g₂ s₂ x y ν₂ μ₂ e₂ r₂ rl k₂ => by
    cases rl
    cases x with
    | false => exact k₂.2 rfl g₂ s₂ _ r₂ fun g₃ s₃ x y ν₃ μ₃ e₃ r₃ rl k₃ => hQ g₃ s₃ x y ν₃ μ₃ ((e₁.trans e₂).trans e₃) r₃ rl k₃
    | true => exact hQ g₂ s₂ _ _ ν₂ μ₂ (e₁.trans e₂) r₂ (rd₁.mono e₂.le) (k₂.1 rfl))

/-! comparisons -/
theorem EvE.cmp {op : CmpOp} {l r : Expr} {pos} {k : Kt AV} (h : EvE hT prog w c l ν μ fun d ν₁ μ₁ => EvE hT prog w c r ν₁ μ₁ fun e ν₂ μ₂ => Ev2 hT prog w c (compareOp op) Rd d e ν₂ μ₂ k)
    (hm : behindInMarks op r = false) : EvE hT prog w c (.Compare l [op] [r] pos) ν μ k :=
  fun g s Q R₀ hQ => wpAny_Compare1 (h g s _ R₀ fun g₁ s₁ v₁ d₁ ν₁ μ₁ e₁ r₁ rd₁ k₁ => k₁ g₁ s₁ _ r₁ fun g₂ s₂ v₂ d₂ ν₂ μ₂ e₂ r₂ rd₂ k₂ =>
    k₂ g₂ s₂ Q v₁ v₂ r₂ (rd₁.mono e₂.le) rd₂ fun g₃ s₃ x y ν₃ μ₃ e₃ r₃ rl k₃ => hQ g₃ s₃ x y ν₃ μ₃ ((e₁.trans e₂).trans e₃) r₃ rl k₃) hm
theorem EvT.cmp {op : CmpOp} {l r : Expr} {pos} {k : Kt Bool} (h : EvE hT prog w c l ν μ fun d ν₁ μ₁ => EvE hT prog w c r ν₁ μ₁ fun e ν₂ μ₂ => Ev2 hT prog w c (compareOp op) Rd d e ν₂ μ₂ fun f ν₃ μ₃ => Ev1 hT prog w c truthy same f ν₃ μ₃ k)
    (hm : behindInMarks op r = false) : EvT hT prog w c (.Compare l [op] [r] pos) ν μ k :=
  fun g s Q R₀ hQ => wpAny_isTrue_Compare1 (h g s _ R₀ fun g₁ s₁ v₁ d₁ ν₁ μ₁ e₁ r₁ rd₁ k₁ => k₁ g₁ s₁ _ r₁ fun g₂ s₂ v₂ d₂ ν₂ μ₂ e₂ r₂ rd₂ k₂ =>
    k₂ g₂ s₂ _ v₁ v₂ r₂ (rd₁.mono e₂.le) rd₂ fun g₃ s₃ x y ν₃ μ₃ e₃ r₃ rl k₃ => k₃ g₃ s₃ Q _ r₃ rl fun g₄ s₄ x y ν₄ μ₄ e₄ r₄ rl k₄ => hQ g₄ s₄ x y ν₄ μ₄ (((e₁.trans e₂).trans e₃).trans e₄) r₄ rl k₄) hm
/-- a op b op' c -/
theorem EvE.chain {op op' : CmpOp} {l r r' : Expr} {pos} {k : Kt AV}
    (h : EvE hT prog w c l ν μ fun d ν₁ μ₁ => EvE hT prog w c r ν₁ μ₁ fun e ν₂ μ₂ => Ev2 hT prog w c (compareOp op) Rd d e ν₂ μ₂ fun f ν₃ μ₃ => Ev1 hT prog w c truthy same f ν₃ μ₃ fun b ν₄ μ₄ =>
      (b = true → EvE hT prog w c r' ν₄ μ₄ fun e' ν₅ μ₅ => Ev2 hT prog w c (compareOp op') Rd e e' ν₅ μ₅ k) ∧ (b = false → k f ν₄ μ₄))
    (hm : lastMarks [op, op'] [r, r'] = false) : EvE hT prog w c (.Compare l [op, op'] [r, r'] pos) ν μ k :=
  fun g s Q R₀ hQ => Compare_chain (h g s _ R₀ fun g₁ s₁ v₁ d₁ ν₁ μ₁ e₁ r₁ rd₁ k₁ => chain_link (k₁ g₁ s₁ _ r₁ fun g₂ s₂ v₂ d₂ ν₂ μ₂ e₂ r₂ rd₂ k₂ =>
    k₂ g₂ s₂ _ v₁ v₂ r₂ (rd₁.mono e₂.le) rd₂ fun g₃ s₃ f y ν₃ μ₃ e₃ r₃ rl₃ k₃ => k₃ g₃ s₃ _ _ r₃ rl₃ fun g₄ s₄ x y ν₄ μ₄ e₄ r₄ rl k₄ => by
      cases rl
      cases x with
      | false => exact hQ g₄ s₄ _ _ ν₄ μ₄ (((e₁.trans e₂).trans e₃).trans e₄) r₄ (rl₃.mono e₄.le) (k₄.2 rfl)
      | true => exact chain_last (k₄.1 rfl g₄ s₄ _ r₄ fun g₅ s₅ v₅ d₅ ν₅ μ₅ e₅ r₅ rd₅ k₅ => k₅ g₅ s₅ Q v₂ v₅ r₅ (((rd₂.mono e₃.le).mono e₄.le).mono e₅.le) rd₅ fun g₆ s₆ x y ν₆ μ₆ e₆ r₆ rl k₆ =>
          hQ g₆ s₆ x y ν₆ μ₆ (((((e₁.trans e₂).trans e₃).trans e₄).trans e₅).trans e₆) r₆ rl k₆))) hm
theorem EvT.chain {op op' : CmpOp} {l r r' : Expr} {pos} {k : Kt Bool}
    (h : EvE hT prog w c l ν μ fun d ν₁ μ₁ => EvE hT prog w c r ν₁ μ₁ fun e ν₂ μ₂ => Ev2 hT prog w c (compareOp op) Rd d e ν₂ μ₂ fun f ν₃ μ₃ => Ev1 hT prog w c truthy same f ν₃ μ₃ fun b ν₄ μ₄ =>
      (b = true → EvE hT prog w c r' ν₄ μ₄ fun e' ν₅ μ₅ => Ev2 hT prog w c (compareOp op') Rd e e' ν₅ μ₅ fun f ν₆ μ₆ => Ev1 hT prog w c truthy same f ν₆ μ₆ k) ∧ (b = false → k false ν₄ μ₄))
    (hm : lastMarks [op, op'] [r, r'] = false) : EvT hT prog w c (.Compare l [op, op'] [r, r'] pos) ν μ k :=
  fun g s Q R₀ hQ => isTrue_chain (h g s _ R₀ fun g₁ s₁ v₁ d₁ ν₁ μ₁ e₁ r₁ rd₁ k₁ => test_link (k₁ g₁ s₁ _ r₁ fun g₂ s₂ v₂ d₂ ν₂ μ₂ e₂ r₂ rd₂ k₂ =>
    k₂ g₂ s₂ _ v₁ v₂ r₂ (rd₁.mono e₂.le) rd₂ fun g₃ s₃ f y ν₃ μ₃ e₃ r₃ rl₃ k₃ => k₃ g₃ s₃ _ _ r₃ rl₃ fun g₄ s₄ x y ν₄ μ₄ e₄ r₄ rl k₄ => by
      cases rl
      cases x with
      | false => exact hQ g₄ s₄ _ _ ν₄ μ₄ (((e₁.trans e₂).trans e₃).trans e₄) r₄ rfl (k₄.2 rfl)
      | true => exact test_last (k₄.1 rfl g₄ s₄ _ r₄ fun g₅ s₅ v₅ d₅ ν₅ μ₅ e₅ r₅ rd₅ k₅ => k₅ g₅ s₅ _ v₂ v₅ r₅ (((rd₂.mono e₃.le).mono e₄.le).mono e₅.le) rd₅ fun g₆ s₆ x y ν₆ μ₆ e₆ r₆ rl₆ k₆ =>
          k₆ g₆ s₆ Q _ r₆ rl₆ fun g₇ s₇ x y ν₇ μ₇ e₇ r₇ rl₇ k₇ => hQ g₇ s₇ x y ν₇ μ₇ ((((((e₁.trans e₂).trans e₃).trans e₄).trans e₅).trans e₆).trans e₇) r₇ rl₇ k₇))) hm

/-! statements -/
theorem EvSs.nil {k : Kt Fl} (h : k .next ν μ) : EvSs hT prog w c [] ν μ k :=
  fun g s Q r hQ => wpAny_execs_nil (hQ g s _ _ ν μ (Ext.refl _ _ _) r .next h)
noncomputable def andThen (hT : Heap) (prog : Program) (w : World) (c : Cx) (rest : List Stmt) (k : Kt Fl) : Kt Fl := fun f ν μ => match f with
  | .next => EvSs hT prog w c rest ν μ k
  | f => k f ν μ
theorem EvSs.cons {st : Stmt} {rest : List Stmt} {k : Kt Fl} (h : EvS hT prog w c st ν μ (andThen hT prog w c rest k)) : EvSs hT prog w c (st :: rest) ν μ k :=
  fun g s Q r hQ => wpAny_execs_cons (h g s _ r fun g₁ s₁ x y ν₁ μ₁ e₁ r₁ rl k₁ => by
    cases rl with
    | next => exact k₁ g₁ s₁ Q r₁ fun g₂ s₂ x y ν₂ μ₂ e₂ r₂ rl k₂ => hQ g₂ s₂ x y ν₂ μ₂ (e₁.trans e₂) r₂ rl k₂
    | brk => exact hQ g₁ s₁ _ _ ν₁ μ₁ e₁ r₁ .brk k₁
    | cont => exact hQ g₁ s₁ _ _ ν₁ μ₁ e₁ r₁ .cont k₁
    | ret rd => exact hQ g₁ s₁ _ _ ν₁ μ₁ e₁ r₁ (.ret rd) k₁)
theorem EvS.iff {test : Expr} {body orelse : List Stmt} {pos} {k : Kt Fl} (h : EvT hT prog w c test ν μ fun b ν₁ μ₁ => (b = true → EvSs hT prog w c body ν₁ μ₁ k) ∧ (b = false → EvSs hT prog w c orelse ν₁ μ₁ k)) :
    EvS hT prog w c (.If test body orelse pos) ν μ k :=
  fun g s Q r hQ => wpAny_If (h g s _ r fun g₁ s₁ x y ν₁ μ₁ e₁ r₁ rl k₁ => by
    cases rl
    cases x with
    | true => exact k₁.1 rfl g₁ s₁ Q r₁ fun g₂ s₂ x y ν₂ μ₂ e₂ r₂ rl k₂ => hQ g₂ s₂ x y ν₂ μ₂ (e₁.trans e₂) r₂ rl k₂
    | false => exact k₁.2 rfl g₁ s₁ Q r₁ fun g₂ s₂ x y ν₂ μ₂ e₂ r₂ rl k₂ => hQ g₂ s₂ x y ν₂ μ₂ (e₁.trans e₂) r₂ rl k₂)
theorem EvE.ifx {test body orelse : Expr} {pos} {k : Kt AV} (h : EvT hT prog w c test ν μ fun b ν₁ μ₁ => (b = true → EvE hT prog w c body ν₁ μ₁ k) ∧ (b = false → EvE hT prog w c orelse ν₁ μ₁ k)) :
    EvE hT prog w c (.IfExp test body orelse pos) ν μ k :=
  fun g s Q r hQ => wpAny_IfExp (h g s _ r fun g₁ s₁ x y ν₁ μ₁ e₁ r₁ rl k₁ => by
    cases rl
    cases x with
    | true => exact k₁.1 rfl g₁ s₁ Q r₁ fun g₂ s₂ x y ν₂ μ₂ e₂ r₂ rl k₂ => hQ g₂ s₂ x y ν₂ μ₂ (e₁.trans e₂) r₂ rl k₂
    | false => exact k₁.2 rfl g₁ s₁ Q r₁ fun g₂ s₂ x y ν₂ μ₂ e₂ r₂ rl k₂ => hQ g₂ s₂ x y ν₂ μ₂ (e₁.trans e₂) r₂ rl k₂)
theorem EvS.ret {e : Expr} {pos} {k : Kt Fl} (h : EvE hT prog w c e ν μ fun d => k (.ret d)) : EvS hT prog w c (.Return (some e) pos) ν μ k :=
  fun g s Q r hQ => wpAny_Return_some (h g s _ r fun g₁ s₁ x y ν₁ μ₁ e₁ r₁ rl k₁ => hQ g₁ s₁ _ _ ν₁ μ₁ e₁ r₁ (.ret rl) k₁)

noncomputable def upd (ν : Loc) (x : Str) (d : AV) : Loc := fun y => if y = x then some d else ν y
theorem R.store {g : Fz} {s : Shared} {x : Str} {v : Value} {d : AV} {h' : Heap} {tk : Tok} {m : Str → Option Value} (r : R hT c g ν μ s) (hm : ∀ x d, ν x = some d → ∃ v, m x = some v ∧ Rd g v d)
    (hn : h'.Ns c.env.locals fun y => if y = x then some v else m y) (hs : Heap.SameBut c.env.locals s.heap h') (rd : Rd g v d) : R hT c g (upd ν x d) μ { s with heap := h', toks := tk } ∧ Ext (dom c μ) (dom c μ) s { s with heap := h', toks := tk } g g := by
  have ap := List.nodup_cons.mp r.apart
  have inf : ∀ (μ : Store) (p), p ∈ μ → ∀ b ∈ footOf p, b ∈ foot μ := by
    intro μ
    induction μ with
    | nil => intro p hp; exact nomatch hp
    | cons q r ih =>
      intro p hp b hb
      rcases List.mem_cons.mp hp with rfl | hp
      · exact List.mem_append.mpr (.inl hb)
      · exact List.mem_append.mpr (.inr (ih p hp b hb))
  refine ⟨⟨fun a o e => ?_, r.top, ⟨_, hn, fun y e hy => ?_⟩, fun p hp => (r.hold p hp).at (Le.refl g) fun b hb o e => ?_, r.apart, r.off, fun p hp => ⟨(r.ro p hp).1.at (Le.refl g) fun b hb o e => ?_, (r.ro p hp).2⟩, r.room⟩,
    ⟨Le.refl g, fun _ o e => .inl ⟨o, e⟩, fun a o e hD => ?_, fun _ h => .inl h, h', tk, rfl⟩⟩
  · refine (hs.2 a fun q => ?_).trans (r.sub a o e)
    subst q
    rw [r.off _ (.head _)] at e; cases e
  · unfold upd at hy
    by_cases q : y = x
    · rw [if_pos q] at hy; cases hy; exact ⟨v, by rw [if_pos q], rd⟩
    · rw [if_neg q] at hy; rw [if_neg q]; exact hm y e hy
  · exact (hs.2 b fun q => ap.1 (q ▸ inf μ p hp b hb)).trans e
  · exact (hs.2 b fun q => (r.ro p hp).2 b hb (q ▸ .head _)).trans e
  · exact (hs.2 a fun q => hD (q ▸ .head _)).trans e

theorem EvStore {x : Str} {d : AV} {k : Kt Unit} (hl : c.env.kindOf x = some .local) (hk : c.env.scope.kind = .function) (h : k () (upd ν x d) μ) : Ev1 hT prog w c (storeName c.env x) any d ν μ k :=
  fun g s Q v r hv hQ => by
    obtain ⟨m, hm, hll⟩ := r.ns
    refine wpAny_storeName_local hl hm (fun h' hn hs => ?_) (by rw [hk]; rfl)
    obtain ⟨r', e'⟩ := r.store (tk := s.toks + 1) hll hn hs hv
    exact hQ g _ _ _ _ μ e' r' trivial h
theorem EvS.assign {x : Str} {pos' pos} {value : Expr} {k : Kt Fl} (h : EvE hT prog w c value ν μ fun d ν₁ μ₁ => Ev1 hT prog w c (storeName c.env x) any d ν₁ μ₁ fun _ => k .next)
    (hs : swapsWith value (some (.Name x pos')) pos.line c.env = pure false) : EvS hT prog w c (.Assign [.Name x pos'] value pos) ν μ k :=
  fun g s Q r hQ => wpAny_Assign_Name (h g s _ r fun g₁ s₁ v₁ d₁ ν₁ μ₁ e₁ r₁ rd₁ k₁ => k₁ g₁ s₁ _ v₁ r₁ rd₁ fun g₂ s₂ x y ν₂ μ₂ e₂ r₂ rl k₂ => hQ g₂ s₂ _ _ ν₂ μ₂ (e₁.trans e₂) r₂ .next k₂) hs
end
/-! Call -/

structure Wd (hT : Heap) (K : Frag) : Prop where
  kin : K.In hT
  g : ∃ mg, hT.Ns mainGlobals mg
  b : ∃ mb, hT.Ns builtinsNs mb ∧ ∀ x : Str, x ≠ "__name__" → mb x = bootBuiltins x
  nolimit : hT.NoLimit
  nodigits : ∃ mc, hT.Ns cStatics mc ∧ mc "sys.int_max_str_digits" = none

section
variable {hT : Heap} {prog : Program} {w : World} {α β : Type} {c : Cx} {ν : Loc} {μ : Store} {K : Frag}

theorem R.up {g : Fz} {s : Shared} (r : R hT c g ν μ s) : ∀ a o, hT.get? a = some o → s.heap.get? a = some o := fun a o e => r.sub _ _ (r.top _ _ e)
theorem Wd.at {g : Fz} {s : Shared} (W : Wd hT K) (r : R hT c g ν μ s) : K.In s.heap := W.kin.keeps r.up

/-! a global name -/
theorem EvE.glob {x : Str} {pos} {v : Value} {d : AV} {k : Kt AV} (W : Wd hT K) (e : nsIn K mainGlobals x = some (some v)) (hd : ∀ g : Fz, (∀ a o, K.lookup a = some o → g a = some o) → Rd g v d) (h : k d ν μ)
    (hk : c.env.scope.kind = .function) (hx : c.env.kindOf x = some .globalImplicit) (hg : c.env.globals = mainGlobals) (hdb : (x == ("__debug__" : Str)) = false) : EvE hT prog w c (.Name x pos) ν μ k :=
  fun g s Q r hQ => by
    obtain ⟨mg, G⟩ := W.g
    refine Name_function_global hk hx (loadGlobal_global (hg ▸ G.keeps r.up) (mg_of W.kin G e) (hQ g s v d ν μ (Ext.refl _ _ _) r (hd g fun a o q => r.top _ _ (W.kin _ _ q)) h)) hdb

/-! arguments -/
noncomputable abbrev EvAs (hT : Heap) (prog : Program) (w : World) (c : Cx) (pos : Pos) (es : List Expr) (ν : Loc) (μ : Store) (k : List AV → Loc → Store → Prop) : Prop := Ev hT prog w c (spliced (backTo pos (starEach es c.env))) Rds ν μ k
theorem EvAs.nil {pos : Pos} {k : Kt (List AV)} (h : k [] ν μ) : EvAs hT prog w c pos [] ν μ k :=
  fun g s Q r hQ => spliced_nil (hQ g s _ _ ν μ (Ext.refl _ _ _) r .nil h)
theorem EvAs.cons {pos : Pos} {e : Expr} {es : List Expr} {k : Kt (List AV)} (h : EvE hT prog w c e ν μ fun d ν₁ μ₁ => EvAs hT prog w c pos es ν₁ μ₁ fun ds => k (d :: ds))
    (he : starEach (e :: es) c.env = (false, eval e c.env) :: starEach es c.env) : EvAs hT prog w c pos (e :: es) ν μ k :=
  fun g s Q r hQ => by
    show wpAny _ _ (spliced (backTo pos (starEach (e :: es) c.env))) _ _ _
    rw [he]
    exact spliced_cons (h g s _ r fun g₁ s₁ v₁ d₁ ν₁ μ₁ e₁ r₁ rd₁ k₁ => k₁ g₁ s₁ _ r₁ fun g₂ s₂ v₂ d₂ ν₂ μ₂ e₂ r₂ rd₂ k₂ => hQ g₂ s₂ _ _ ν₂ μ₂ (e₁.trans e₂) r₂ (.cons (rd₁.mono e₂.le) rd₂) k₂)

/-- a call by name of what stands in the written part -/
theorem EvE.callK {x : Str} {np pos : Pos} {f : Addr} {e : Expr} {es : List Expr} {k : Kt AV} (W : Wd hT K) (en : nsIn K mainGlobals x = some (some (.ref f))) (hf : keepIn K (.ref f) = true)
    (h : EvAs hT prog w c pos (e :: es) ν μ fun ds ν₁ μ₁ => EvL hT prog w c (fun vs => call (.ref f) vs) Rd ds ν₁ μ₁ k)
    (hk : c.env.scope.kind = .function) (hx : c.env.kindOf x = some .globalImplicit) (hg : c.env.globals = mainGlobals) (hdb : (x == ("__debug__" : Str)) = false)
    (he : starEach (e :: es) c.env = (false, eval e c.env) :: starEach es c.env) (hpl : (backTo pos (starEach es c.env)).any (·.1) = false) : EvE hT prog w c (.Call (.Name x np) (e :: es) [] pos) ν μ k :=
  fun g s Q r hQ => wpAny_Call_ofName (by
    refine EvE.glob (d := .ref f) W en (fun g _ => .ref f) (k := fun d ν' μ' => d = .ref f ∧ ν' = ν ∧ μ' = μ) ⟨rfl, rfl, rfl⟩ hk hx hg hdb g s _ r ?_
    rintro g₁ s₁ v d ν₁ μ₁ e₁ r₁ rd ⟨rfl, rfl, rfl⟩
    obtain rfl := rd.ref_inv
    refine callWith_K (W.at r₁) hf ?_ he hpl
    exact h g₁ s₁ _ r₁ fun g₂ s₂ vs ds ν₂ μ₂ e₂ r₂ rds k₂ => ⟨W.at r₂, k₂ g₂ s₂ Q vs r₂ rds fun g₃ s₃ x y ν₃ μ₃ e₃ r₃ rl k₃ => hQ g₃ s₃ x y ν₃ μ₃ ((e₁.trans e₂).trans e₃) r₃ rl k₃⟩)

theorem name_boot {x : Str} {v : Value} {pos : Pos} {g : Fz} {s : Shared} {A : Around} {E : Value → Shared → Prop} {Q : Value → Shared → Prop} (W : Wd hT K) (r : R hT c g ν μ s) (en : nsIn K mainGlobals x = some Option.none) (hv : bootBuiltins x = some v) (hn : x ≠ "__name__")
    (hk : c.env.scope.kind = .function) (hx : c.env.kindOf x = some .globalImplicit) (hg : c.env.globals = mainGlobals) (hb : c.env.builtins = builtinsNs) (hdb : (x == ("__debug__" : Str)) = false) (h : Q v s) : wpAny (model prog w) A (eval (.Name x pos) c.env) Q E s := by
  obtain ⟨mg, G⟩ := W.g
  obtain ⟨mb, B, hB⟩ := W.b
  exact Name_function_global hk hx (loadGlobal_builtin (hg ▸ G.keeps r.up) (mg_none_of W.kin G en) (hb ▸ B.keeps r.up) ((hB x hn).trans hv) h) hdb
/-- a built-in function by name -/
theorem EvE.callB {x : Str} {np pos : Pos} {id : String} {e : Expr} {es : List Expr} {k : Kt AV} (W : Wd hT K) (en : nsIn K mainGlobals x = some Option.none) (hv : bootBuiltins x = some (.builtin id)) (hn : x ≠ "__name__")
    (h : EvAs hT prog w c pos (e :: es) ν μ fun ds ν₁ μ₁ => EvL hT prog w c (fun vs => call (.builtin id) vs) Rd ds ν₁ μ₁ k)
    (hk : c.env.scope.kind = .function) (hx : c.env.kindOf x = some .globalImplicit) (hg : c.env.globals = mainGlobals) (hb : c.env.builtins = builtinsNs) (hdb : (x == ("__debug__" : Str)) = false)
    (he : starEach (e :: es) c.env = (false, eval e c.env) :: starEach es c.env) (hpl : (backTo pos (starEach es c.env)).any (·.1) = false) : EvE hT prog w c (.Call (.Name x np) (e :: es) [] pos) ν μ k :=
  fun g s Q r hQ => wpAny_Call_ofName (name_boot W r en hv hn hk hx hg hb hdb (callWith_builtin1 (h g s _ r fun g₂ s₂ vs ds ν₂ μ₂ e₂ r₂ rds k₂ => k₂ g₂ s₂ Q vs r₂ rds fun g₃ s₃ x y ν₃ μ₃ e₃ r₃ rl k₃ => hQ g₃ s₃ x y ν₃ μ₃ (e₂.trans e₃) r₃ rl k₃) he hpl))
/-- a built-in type by name -/
theorem EvE.callT {x : Str} {np pos : Pos} {T : String} {e : Expr} {es : List Expr} {k : Kt AV} (W : Wd hT K) (en : nsIn K mainGlobals x = some Option.none) (hv : bootBuiltins x = some (.type T)) (hn : x ≠ "__name__")
    (h : EvAs hT prog w c pos (e :: es) ν μ fun ds ν₁ μ₁ => EvL hT prog w c (fun vs => call (.type T) vs) Rd ds ν₁ μ₁ k)
    (hk : c.env.scope.kind = .function) (hx : c.env.kindOf x = some .globalImplicit) (hg : c.env.globals = mainGlobals) (hb : c.env.builtins = builtinsNs) (hdb : (x == ("__debug__" : Str)) = false)
    (he : starEach (e :: es) c.env = (false, eval e c.env) :: starEach es c.env) (hpl : (backTo pos (starEach es c.env)).any (·.1) = false) : EvE hT prog w c (.Call (.Name x np) (e :: es) [] pos) ν μ k :=
  fun g s Q r hQ => wpAny_Call_ofName (name_boot W r en hv hn hk hx hg hb hdb (PyProof.Rows.callWith_type1 (h g s _ r fun g₂ s₂ vs ds ν₂ μ₂ e₂ r₂ rds k₂ => k₂ g₂ s₂ Q vs r₂ rds fun g₃ s₃ x y ν₃ μ₃ e₃ r₃ rl k₃ => hQ g₃ s₃ x y ν₃ μ₃ (e₂.trans e₃) r₃ rl k₃) he hpl))

/-! contracts -/
structure RS (hT : Heap) (g : Fz) (μ : Store) (s : Shared) : Prop where
  sub : ∀ a o, g a = some o → s.heap.get? a = some o
  top : ∀ a o, hT.get? a = some o → g a = some o
  hold : ∀ p ∈ μ, Holds g s.heap p.1 p.2
  apart : (foot μ).Nodup
  off : ∀ a ∈ foot μ, g a = none

noncomputable def retOf (Q : Value → Shared → Prop) : Result → Shared → Prop := fun r s' => match r with
  | .ok (.ret v) => Q v s'
  | .ok _ => False
  | .error _ => False
noncomputable def Spec (hT : Heap) (prog : Program) (w : World) (n : Nat) (f : Value) (ds : List AV) (μ : Store) (k : AV → Store → Prop) : Prop :=
  ∀ A g s vs (Q : Value → Shared → Prop), Room A n → RS hT g μ s → Rds g vs ds →
    (∀ g' s' v d μ', Ext (foot μ) (foot μ') s s' g g' → RS hT g' μ' s' → Rd g' v d → k d μ' → Q v s') → codeAny (model prog w) A (.call f ⟨vs, []⟩) (retOf Q) s
theorem Spec.mono {n : Nat} {f : Value} {ds : List AV} {k k' : AV → Store → Prop} (h : Spec hT prog w n f ds μ k) (q : ∀ d μ', k d μ' → k' d μ') : Spec hT prog w n f ds μ k' :=
  fun A g s vs Q hr r hv hQ => h A g s vs Q hr r hv fun g' s' v d μ' e r' rd k₁ => hQ g' s' v d μ' e r' rd (q _ _ k₁)
theorem Room.le {A : Around} {n m : Nat} (h : Room A n) (l : m ≤ n) : Room A m := ⟨h.1, by have := h.2.1; omega, by have := h.2.2; omega⟩

theorem foot_in : ∀ {μ : Store} {p}, p ∈ μ → ∀ b ∈ footOf p, b ∈ foot μ
  | q :: r, p, hp, b, hb => by
    rcases List.mem_cons.mp hp with rfl | hp
    · exact List.mem_append.mpr (.inl hb)
    · exact List.mem_append.mpr (.inr (foot_in hp b hb))
theorem foot_of : ∀ {μ : Store} {b}, b ∈ foot μ → ∃ p ∈ μ, b ∈ footOf p
  | q :: r, b, hb => by
    rcases List.mem_append.mp hb with hb | hb
    · exact ⟨q, .head _, hb⟩
    · obtain ⟨p, hp, h⟩ := foot_of hb; exact ⟨p, .tail _ hp, h⟩
theorem foot_append : ∀ (μ ρ : Store), foot (μ ++ ρ) = foot μ ++ foot ρ
  | [], _ => rfl
  | p :: r, ρ => by show footOf p ++ foot (r ++ ρ) = _; rw [foot_append r ρ, ← List.append_assoc]; rfl

/-- a call from a frame: part of the store is handed down -/
theorem R.called {g g' : Fz} {s s' : Shared} {μ₀ μ₀' pre post : Store} (r : R hT c g ν (pre ++ μ₀ ++ post) s) (e : Ext (foot μ₀) (foot μ₀') s s' g g') (r' : RS hT g' μ₀' s') :
    R hT c g' ν (pre ++ μ₀' ++ post) s' ∧ Ext (dom c (pre ++ μ₀ ++ post)) (dom c (pre ++ μ₀' ++ post)) s s' g g' := by
  have hd : dom c (pre ++ μ₀ ++ post) = c.env.locals :: (foot pre ++ foot μ₀ ++ foot post) := by unfold dom; rw [foot_append, foot_append]
  have hd' : dom c (pre ++ μ₀' ++ post) = c.env.locals :: (foot pre ++ foot μ₀' ++ foot post) := by unfold dom; rw [foot_append, foot_append]
  have ap := r.apart
  rw [hd] at ap
  have ap1 := List.nodup_cons.mp ap
  have ap2 := List.nodup_append.mp ap1.2
  have ap3 := List.nodup_append.mp ap2.1
  have lv := live_dom r
  rw [hd] at lv
  -- what is not handed down is not met by what comes back
  have out : ∀ a, a ∈ c.env.locals :: (foot pre ++ foot post) → a ∉ foot μ₀ := by
    intro a ha hm
    rcases List.mem_cons.mp ha with rfl | ha
    · exact ap1.1 (List.mem_append.mpr (.inl (List.mem_append.mpr (.inr hm))))
    · rcases List.mem_append.mp ha with ha | ha
      · exact ap3.2.2 a ha a hm rfl
      · exact ap2.2.2 a (List.mem_append.mpr (.inr hm)) a ha rfl
  have outlive : ∀ a, a ∈ c.env.locals :: (foot pre ++ foot post) → ∃ o, s.heap.get? a = some o := by
    intro a ha
    refine lv a ?_
    rcases List.mem_cons.mp ha with rfl | ha
    · exact .head _
    · refine .tail _ ?_
      rcases List.mem_append.mp ha with ha | ha
      · exact List.mem_append.mpr (.inl (List.mem_append.mpr (.inl ha)))
      · exact List.mem_append.mpr (.inr ha)
  have fresh : ∀ a, a ∈ c.env.locals :: (foot pre ++ foot post) → a ∉ foot μ₀' := by
    intro a ha hm
    rcases e.dom a hm with h | h
    · exact out a ha h
    · obtain ⟨o, ho⟩ := outlive a ha; rw [ho] at h; cases h
  have kp : ∀ a, a ∈ c.env.locals :: (foot pre ++ foot post) → ∀ o, s.heap.get? a = some o → s'.heap.get? a = some o := fun a ha o ho => e.keep a o ho (out a ha)
  have inn : ∀ a, a ∈ c.env.locals :: (foot pre ++ foot post) → a ∈ dom c (pre ++ μ₀ ++ post) := by
    intro a ha
    rw [hd]
    rcases List.mem_cons.mp ha with rfl | ha
    · exact .head _
    · refine .tail _ ?_
      rcases List.mem_append.mp ha with ha | ha
      · exact List.mem_append.mpr (.inl (List.mem_append.mpr (.inl ha)))
      · exact List.mem_append.mpr (.inr ha)
  have rest : ∀ p ∈ pre ++ post, p ∈ pre ++ μ₀ ++ post ∧ ∀ b ∈ footOf p, b ∈ c.env.locals :: (foot pre ++ foot post) := by
    intro p hp
    rcases List.mem_append.mp hp with h | h
    · exact ⟨List.mem_append.mpr (.inl (List.mem_append.mpr (.inl h))), fun b hb => .tail _ (List.mem_append.mpr (.inl (foot_in h b hb)))⟩
    · exact ⟨List.mem_append.mpr (.inr h), fun b hb => .tail _ (List.mem_append.mpr (.inr (foot_in h b hb)))⟩
  refine ⟨⟨r'.sub, r'.top, ?_, fun p hp => ?_, ?_, fun a ha => ?_, fun p hp => ⟨(r.ro p hp).1.at e.le fun b hb o ho => ?_, fun b hb hm => ?_⟩, r.room⟩, ⟨e.le, fun a o ho => ?_, fun a o ho hn => ?_, fun a ha => ?_, e.same⟩⟩
  · obtain ⟨m, hm, hl⟩ := r.ns
    exact ⟨m, hm.at' fun o ho => kp _ (.head _) o ho, fun x d q => let ⟨v, h1, h2⟩ := hl x d q; ⟨v, h1, h2.mono e.le⟩⟩
  · have : p ∈ pre ++ post ∨ p ∈ μ₀' := by
      rcases List.mem_append.mp hp with h | h
      · rcases List.mem_append.mp h with h | h
        · exact .inl (List.mem_append.mpr (.inl h))
        · exact .inr h
      · exact .inl (List.mem_append.mpr (.inr h))
    rcases this with h | h
    · have q := rest p h
      exact (r.hold p q.1).at e.le fun b hb o ho => kp b (q.2 b hb) o ho
    · exact r'.hold p h
  · rw [hd']
    refine List.nodup_cons.mpr ⟨fun h => ?_, List.nodup_append.mpr ⟨List.nodup_append.mpr ⟨ap3.1, r'.apart, fun a ha b hb q => ?_⟩, ap2.2.1, fun a ha b hb q => ?_⟩⟩
    · rcases List.mem_append.mp h with h | h
      · rcases List.mem_append.mp h with h | h
        · exact ap1.1 (List.mem_append.mpr (.inl (List.mem_append.mpr (.inl h))))
        · exact fresh _ (.head _) h
      · exact ap1.1 (List.mem_append.mpr (.inr h))
    · exact fresh a (.tail _ (List.mem_append.mpr (.inl ha))) (q ▸ hb)
    · rcases List.mem_append.mp ha with ha | ha
      · exact ap2.2.2 a (List.mem_append.mpr (.inl ha)) b hb q
      · exact fresh b (.tail _ (List.mem_append.mpr (.inr hb))) (q ▸ ha)
  · have : a ∈ c.env.locals :: (foot pre ++ foot post) ∨ a ∈ foot μ₀' := by
      rw [hd'] at ha
      rcases List.mem_cons.mp ha with rfl | ha
      · exact .inl (.head _)
      · rcases List.mem_append.mp ha with h | h
        · rcases List.mem_append.mp h with h | h
          · exact .inl (.tail _ (List.mem_append.mpr (.inl h)))
          · exact .inr h
        · exact .inl (.tail _ (List.mem_append.mpr (.inr h)))
    rcases this with h | h
    · cases q : g' a with
      | none => rfl
      | some o =>
        rcases e.new a o q with ⟨o', h'⟩ | h' | h'
        · rw [r.off a (inn a h)] at h'; cases h'
        · exact absurd h' (out a h)
        · obtain ⟨o', ho'⟩ := outlive a h; rw [ho'] at h'; cases h'
    · exact r'.off a h
  · refine e.keep b o ho fun hm => (r.ro p hp).2 b hb ?_
    rw [hd]; exact .tail _ (List.mem_append.mpr (.inl (List.mem_append.mpr (.inr hm))))
  · rw [hd'] at hm
    have old : b ∈ dom c (pre ++ μ₀ ++ post) → False := (r.ro p hp).2 b hb
    obtain ⟨o, ho⟩ := (r.ro p hp).1.live b hb
    have : b ∈ c.env.locals :: (foot pre ++ foot post) ∨ b ∈ foot μ₀' := by
      rcases List.mem_cons.mp hm with rfl | ha
      · exact .inl (.head _)
      · rcases List.mem_append.mp ha with h | h
        · rcases List.mem_append.mp h with h | h
          · exact .inl (.tail _ (List.mem_append.mpr (.inl h)))
          · exact .inr h
        · exact .inl (.tail _ (List.mem_append.mpr (.inr h)))
    rcases this with h | h
    · exact old (inn b h)
    · rcases e.dom b h with h | h
      · refine old ?_
        rw [hd]; exact .tail _ (List.mem_append.mpr (.inl (List.mem_append.mpr (.inr h))))
      · rw [ho] at h; cases h
  · rcases e.new a o ho with h | h | h
    · exact .inl h
    · refine .inr (.inl ?_)
      rw [hd]; exact .tail _ (List.mem_append.mpr (.inl (List.mem_append.mpr (.inr h))))
    · exact .inr (.inr h)
  · refine e.keep a o ho fun hm => hn ?_
    rw [hd]; exact .tail _ (List.mem_append.mpr (.inl (List.mem_append.mpr (.inr hm))))
  · have : a ∈ c.env.locals :: (foot pre ++ foot post) ∨ a ∈ foot μ₀' := by
      rw [hd'] at ha
      rcases List.mem_cons.mp ha with rfl | ha
      · exact .inl (.head _)
      · rcases List.mem_append.mp ha with h | h
        · rcases List.mem_append.mp h with h | h
          · exact .inl (.tail _ (List.mem_append.mpr (.inl h)))
          · exact .inr h
        · exact .inl (.tail _ (List.mem_append.mpr (.inr h)))
    rcases this with h | h
    · exact .inl (inn a h)
    · rcases e.dom a h with h | h
      · refine .inl ?_
        rw [hd]; exact .tail _ (List.mem_append.mpr (.inl (List.mem_append.mpr (.inr h))))
      · exact .inr h

theorem R.down {g : Fz} {s : Shared} {μ₀ pre post : Store} (r : R hT c g ν (pre ++ μ₀ ++ post) s) : RS hT g μ₀ s := by
  have ap := r.apart
  have hd : dom c (pre ++ μ₀ ++ post) = c.env.locals :: (foot pre ++ foot μ₀ ++ foot post) := by unfold dom; rw [foot_append, foot_append]
  rw [hd] at ap
  exact ⟨r.sub, r.top, fun p hp => r.hold p (List.mem_append.mpr (.inl (List.mem_append.mpr (.inr hp)))), (List.nodup_append.mp (List.nodup_append.mp (List.nodup_cons.mp ap).2).1).2.1,
    fun a ha => r.off a (by rw [hd]; exact .tail _ (List.mem_append.mpr (.inl (List.mem_append.mpr (.inr ha)))))⟩

theorem EvL.spec {n : Nat} {f : Value} {ds : List AV} {pre μ₀ post : Store} {k : Kt AV} {k₀ : AV → Store → Prop} (hn : n ≤ c.n) (h : Spec hT prog w n f ds μ₀ k₀) (hk : ∀ d μ', k₀ d μ' → k d ν (pre ++ μ' ++ post)) :
    EvL hT prog w c (fun vs => call f vs) Rd ds ν (pre ++ μ₀ ++ post) k :=
  fun g s Q vs r hv hQ => wpAny_call (codeAny_mono (h c.A g s vs Q (r.room.le hn) r.down hv fun g' s' v d μ' e r' rd k₁ => let ⟨a, b⟩ := r.called e r'; hQ g' s' v d ν _ b a rd (hk d μ' k₁)) fun r s' q => by
    rcases r with e | (v | _ | _ | _) <;> exact q)
/-- a call that is handed no mutable object -/
theorem EvL.pure {n : Nat} {f : Value} {ds : List AV} {k : Kt AV} {k₀ : AV → Store → Prop} (hn : n ≤ c.n) (h : Spec hT prog w n f ds [] k₀) (hk : ∀ d, k₀ d [] → k d ν μ) (h0 : ∀ d μ', k₀ d μ' → μ' = []) :
    EvL hT prog w c (fun vs => call f vs) Rd ds ν μ k := by
  have := EvL.spec (c := c) (ν := ν) (pre := []) (post := μ) (k := k) hn h (fun d μ' q => by cases h0 d μ' q; exact hk d q)
  exact this

/-! the body of a def -/
noncomputable def fnEnd (k : AV → Store → Prop) : Kt Fl := fun fl _ μ => match fl with
  | .ret d => ∃ μ', μ'.Sublist μ ∧ k d μ'
  | .next => ∃ μ', μ'.Sublist μ ∧ k .none μ'
  | _ => False
noncomputable def locs (l : List (Str × AV)) : Loc := fun x => l.lookup x

theorem foot_sub : ∀ {μ ρ : Store}, μ.Sublist ρ → (foot μ).Sublist (foot ρ)
  | _, _, .slnil => .slnil
  | _, _, .cons p h => (foot_sub h).trans (List.sublist_append_right _ _)
  | _, _, .cons_cons p h => List.Sublist.append (List.Sublist.refl _) (foot_sub h)
end

/-! Fn -/
section
variable {hT : Heap} {prog : Program} {w : World} {K : Frag} {c : Cx} {ν : Loc} {μ : Store}

theorem live_foot {g : Fz} {h : Heap} {μ : Store} (hh : ∀ p ∈ μ, Holds g h p.1 p.2) : ∀ a ∈ foot μ, ∃ o, h.get? a = some o := fun a ha => by
  obtain ⟨p, hp, h⟩ := foot_of ha
  exact (hh p hp).live a h

theorem RS.enter {g : Fz} {s : Shared} {h₁ : Heap} {tk : Tok} {m : Str → Option Value} {A : Around} {env : Env} {n : Nat} (r : RS hT g μ s) (hL : s.heap.get? env.locals = none) (hn : h₁.Ns env.locals m) (hk : ∀ b o, s.heap.get? b = some o → h₁.get? b = some o)
    (hl : ∀ x d, ν x = some d → ∃ v, m x = some v ∧ Rd g v d) (hr : Room A n) : R hT ⟨A, env, [], n⟩ g ν μ { s with heap := h₁, toks := tk } := by
  refine ⟨fun a o e => hk _ _ (r.sub _ _ e), r.top, ⟨m, hn, hl⟩, fun p hp => (r.hold p hp).at (Le.refl g) fun b _ o e => hk b o e, ?_, ?_, fun p hp => (nomatch hp), hr⟩
  · refine List.nodup_cons.mpr ⟨fun h => ?_, r.apart⟩
    obtain ⟨o, ho⟩ := live_foot r.hold _ h
    rw [hL] at ho; cases ho
  · intro a ha
    rcases List.mem_cons.mp ha with rfl | ha
    · cases q : g env.locals with
      | none => rfl
      | some o => have := r.sub _ _ q; rw [hL] at this; cases this
    · exact r.off a ha

theorem leave_of {g g' : Fz} {s s' : Shared} {h₁ : Heap} {tk : Tok} {A : Around} {env : Env} {n : Nat} {ν' : Loc} {μ' μ'' : Store} (hL : s.heap.get? env.locals = none) (hk : ∀ b o, s.heap.get? b = some o → h₁.get? b = some o)
    (e : Ext (env.locals :: foot μ) (env.locals :: foot μ') { s with heap := h₁, toks := tk } s' g g') (r' : R hT ⟨A, env, [], n⟩ g' ν' μ' s') (hs : μ''.Sublist μ') : Ext (foot μ) (foot μ'') s s' g g' ∧ RS hT g' μ'' s' := by
  have back : ∀ a, h₁.get? a = none → s.heap.get? a = none := fun a h => by
    cases q : s.heap.get? a with
    | none => rfl
    | some o => rw [hk a o q] at h; cases h
  refine ⟨⟨e.le, fun a o ho => ?_, fun a o ho hn => e.keep a o (hk a o ho) fun hm => ?_, fun a ha => ?_, ?_⟩, ⟨r'.sub, r'.top, fun p hp => r'.hold p (hs.subset hp), ?_, fun a ha => r'.off a (.tail _ ((foot_sub hs).subset ha))⟩⟩
  · rcases e.new a o ho with h | h | h
    · exact .inl h
    · rcases List.mem_cons.mp h with rfl | h
      · exact .inr (.inr hL)
      · exact .inr (.inl h)
    · exact .inr (.inr (back a h))
  · rcases List.mem_cons.mp hm with rfl | h
    · rw [hL] at ho; cases ho
    · exact hn h
  · rcases e.dom a (.tail _ ((foot_sub hs).subset ha)) with h | h
    · rcases List.mem_cons.mp h with rfl | h
      · exact .inr hL
      · exact .inl h
    · exact .inr (back a h)
  · obtain ⟨h, tk', rfl⟩ := e.same
    exact ⟨h, tk', rfl⟩
  · exact (foot_sub hs).nodup (List.nodup_cons.mp r'.apart).2

theorem Room.deeper {A : Around} {n : Nat} {env : Env} (h : Room A (n + 1)) : Room (A.deeper env) n := ⟨h.1, by have := h.2.1; show A.depth + 1 + n < _; omega, by have := h.2.2; show A.units + 3 + 4 * n + 100 < _; omega⟩

theorem Spec.fn {n : Nat} {f : Addr} {oc : Value} {od : Option Addr} {osl : Array (Option Value)} {name qual : Str} {params : Arguments} {body : List Stmt} {scope : Scope} {dV kV doc pm cdv ct : Value} {an : Option Addr} {ds : List AV} {ν₀ : Loc} {k : AV → Store → Prop} (W : Wd hT K)
    (hl : K.lookup f = some ⟨oc, od, .func (fnOf name qual params body scope dV kV doc pm an cdv ct), osl⟩) (hcd : codeIn K cdv qual = true)
    (hb : ∀ (s : Shared) g vs, K.In s.heap → (∀ a o, K.lookup a = some o → g a = some o) → Rds g vs ds → ∃ binds, BindsTo s (fnOf name qual params body scope dV kV doc pm an cdv ct) ⟨vs, []⟩ binds ∧ (∀ y ∈ binds, scope.names.lookup y.1 = some .local) ∧
      ∀ x d, ν₀ x = some d → ∃ v, binds.reverse.lookup x = some v ∧ Rd g v d)
    (hcell : ∀ x ∈ scope.names, x.2 ≠ .cell) (hco : scope.isCoroutine = false) (hgen : scope.isGenerator = false) (hk : scope.kind = .function)
    (h : ∀ A L, Room A n → EvSs hT prog w ⟨A, envOf qual scope L f cdv, [], n⟩ body ν₀ μ (fnEnd k)) : Spec hT prog w (n + 1) (.ref f) ds μ k := by
  intro A g s vs Q hr r hv hQ
  have up : ∀ a o, hT.get? a = some o → s.heap.get? a = some o := fun a o e => r.sub _ _ (r.top _ _ e)
  have X : K.In s.heap := W.kin.keeps up
  obtain ⟨binds, hbind, hloc, hrel⟩ := hb s g vs X (fun a o e => r.top _ _ (W.kin _ _ e)) hv
  refine codeAny_call_def (by have := hr.2.1; omega) (X _ _ hl) rfl (W.nolimit.keeps up) (codeRec_of X hcd) rfl hbind hcell hloc (fun h₁ hns hk₁ => ?_) hco hgen hk
  have R₁ := r.enter (A := A.deeper (envOf qual scope s.heap.objs.size f cdv)) (env := envOf qual scope s.heap.objs.size f cdv) (tk := s.toks + binds.length) (size_none _) hns hk₁ hrel hr.deeper
  refine wpAny_mono (h _ s.heap.objs.size hr.deeper g _ (fun f s' => retOf Q (.ok (.ret (match f with | .ret v => v | _ => .none))) s') R₁ fun g' s' x y ν' μ' e r' rl k₁ => ?_) (fun _ _ q => q) fun _ _ q => q.elim
  cases rl with
  | next =>
    obtain ⟨μ'', hs, k₁⟩ := k₁
    obtain ⟨e', rs⟩ := leave_of (size_none _) hk₁ e r' hs
    exact hQ g' s' _ _ μ'' e' rs .none k₁
  | brk => exact k₁.elim
  | cont => exact k₁.elim
  | ret rd =>
    obtain ⟨μ'', hs, k₁⟩ := k₁
    obtain ⟨e', rs⟩ := leave_of (size_none _) hk₁ e r' hs
    exact hQ g' s' _ _ μ'' e' rs rd k₁

/-! the arguments of a plain def -/
theorem zip_rel {g : Fz} : ∀ (ps : List Str) {vs : List Value} {ds : List AV}, Rds g vs ds → ∀ x d, (ps.zip ds).lookup x = some d → ∃ v, (ps.zip vs).lookup x = some v ∧ Rd g v d
  | [], _, _, _, _, _, e => by simp at e
  | p :: ps, _, _, .nil, _, _, e => by simp at e
  | p :: ps, _, _, .cons rd r, x, d, e => by
    simp only [List.zip_cons_cons, List.lookup_cons] at e ⊢
    by_cases q : (x == p) = true
    · simp only [q] at e ⊢; cases e; exact ⟨_, rfl, rd⟩
    · have q' : (x == p) = false := by simpa using q
      simp only [q'] at e ⊢; exact zip_rel ps r x d e
theorem lookup_append' {β : Type} {x : Str} : ∀ (l r : List (Str × β)), (l ++ r).lookup x = (l.lookup x).or (r.lookup x)
  | [], r => by simp
  | (y, b) :: l, r => by
    simp only [List.cons_append, List.lookup_cons]
    cases x == y
    · exact lookup_append' l r
    · rfl
theorem lookup_rev {β : Type} {x : Str} : ∀ (l : List (Str × β)), (l.map (·.1)).Nodup → l.reverse.lookup x = l.lookup x
  | [], _ => rfl
  | (y, b) :: l, h => by
    have h' := List.nodup_cons.mp h
    rw [List.reverse_cons, lookup_append', lookup_rev l h'.2]
    simp only [List.lookup_cons, List.lookup_nil]
    by_cases q : (x == y) = true
    · simp only [q]
      have : l.lookup x = none := by
        cases e : l.lookup x with
        | none => rfl
        | some b₂ =>
          have : (x, b₂) ∈ l := by
            clear h h' q
            induction l with
            | nil => simp at e
            | cons a l ih =>
              obtain ⟨z, b'⟩ := a
              simp only [List.lookup_cons] at e
              by_cases qa : (x == z) = true
              · simp only [qa] at e; cases e; rw [beq_iff_eq.mp qa]; exact .head _
              · have qa' : (x == z) = false := by simpa using qa
                simp only [qa'] at e; exact .tail _ (ih e)
          exact absurd ((beq_iff_eq.mp q) ▸ (List.mem_map.mpr ⟨_, this, rfl⟩ : x ∈ l.map (·.1))) h'.1
      rw [this]; rfl
    · have q' : (x == y) = false := by simpa using q
      simp only [q']
      cases l.lookup x <;> rfl
theorem binds_of {qual : Str} {fd : FuncData} {scope : Scope} {ds : List AV} (ps : List Str) (hlen : ds.length = ps.length) (hnd : ps.Nodup) (hloc : (ps.all fun x => decide (scope.names.lookup x = some .local)) = true)
    (hb : ∀ vs : List Value, vs.length = ps.length → bindArgs fd ⟨vs, []⟩ = pure (ps.zip vs)) (s : Shared) (g : Fz) (vs : List Value) (hv : Rds g vs ds) :
    ∃ binds, BindsTo s fd ⟨vs, []⟩ binds ∧ (∀ y ∈ binds, scope.names.lookup y.1 = some .local) ∧ ∀ x d, locs (ps.zip ds) x = some d → ∃ v, binds.reverse.lookup x = some v ∧ Rd g v d := by
  have hl : vs.length = ps.length := hv.length.trans hlen
  refine ⟨ps.zip vs, .of_eq (hb vs hl), fun y hy => of_decide_eq_true (List.all_eq_true.mp hloc y.1 (List.of_mem_zip (a := y.1) (b := y.2) hy).1), fun x d e => ?_⟩
  obtain ⟨v, h1, h2⟩ := zip_rel ps hv x d e
  refine ⟨v, ?_, h2⟩
  rw [lookup_rev _ ?_]
  · exact h1
  · rw [List.map_fst_zip (by omega)]; exact hnd
theorem len1 {vs : List Value} (h : vs.length = 1) : ∃ a, vs = [a] := List.length_eq_one_iff.mp h
theorem len2 {vs : List Value} (h : vs.length = 2) : ∃ a b, vs = [a, b] := by
  match vs, h with
  | [a, b], _ => exact ⟨a, b, rfl⟩
theorem len3 {vs : List Value} (h : vs.length = 3) : ∃ a b c, vs = [a, b, c] := by
  match vs, h with
  | [a, b, c], _ => exact ⟨a, b, c, rfl⟩
theorem len4 {vs : List Value} (h : vs.length = 4) : ∃ a b c d, vs = [a, b, c, d] := by
  match vs, h with
  | [a, b, c, d], _ => exact ⟨a, b, c, d, rfl⟩
end
/-! Ops -/
section
variable {hT : Heap} {prog : Program} {w : World} {K : Frag} {c : Cx} {ν : Loc} {μ : Store} {α β : Type}

/-! arithmetic -/
theorem mulOk {a b : Int} (h : a.natAbs < 2 ^ 64) : IntMulOk a b := by
  unfold IntMulOk
  have := intBits_le_64 (k := a) (by omega) (by omega)
  have e : decide (Builtin.Int.intBits a > shortFactorBits) = false := decide_eq_false (by show ¬ _ > 64; omega)
  rw [e]; simp
theorem Ev2.mul {a b : Int} {k : Kt AV} (ha : a.natAbs < 2 ^ 64) (h : k (.int (a * b)) ν μ) : Ev2 hT prog w c (binaryOp .Mult) Rd (.int a) (.int b) ν μ k := Ev2.int (fun _ _ _ _ _ _ q => mul_int q (mulOk ha)) h
theorem Ev2.fdiv {a b : Int} {k : Kt AV} (hb : b ≠ 0) (hs : b.natAbs < 1073741824) (h : k (.int (a.fdiv b)) ν μ) : Ev2 hT prog w c (binaryOp .FloorDiv) Rd (.int a) (.int b) ν μ k :=
  Ev2.int (fun _ _ _ _ _ _ q => floordiv_int hb q (.inl (PyProof.noPylong_small hs))) h
theorem Ev2.shl {a n : Int} {k : Kt AV} (hn : 0 ≤ n) (hn2 : n ≤ 1000000) (ha : a.natAbs < 2 ^ 64) (h : k (.int (a * 2 ^ n.toNat)) ν μ) : Ev2 hT prog w c (binaryOp .LShift) Rd (.int a) (.int n) ν μ k :=
  Ev2.int (fun _ _ _ _ _ _ q => lshift_int_small hn hn2 ha q) h
theorem Ev2.and {a b : Int} {k : Kt AV} (h : k (.int (Builtin.bitAnd a b)) ν μ) : Ev2 hT prog w c (binaryOp .BitAnd) Rd (.int a) (.int b) ν μ k := Ev2.int (fun _ _ _ _ _ _ q => and_int q) h
theorem Ev2.pow {a n : Int} {k : Kt AV} (ha : a.natAbs < 2 ^ 64) (hn : 0 ≤ n) (hn2 : n ≤ 100000) (h : k (.int (a ^ n.toNat)) ν μ) : Ev2 hT prog w c (binaryOp .Pow) Rd (.int a) (.int n) ν μ k :=
  Ev2.int (fun _ _ _ _ _ _ q => pow_int hn (by
    have := intBits_le_64 (k := a) (by omega) (by omega)
    have : (Builtin.Int.intBits a : Int) * n ≤ 64 * n := Int.mul_le_mul_of_nonneg_right (by omega) hn
    omega) q) h
theorem Ev2.addS {a b : Str} {k : Kt AV} (hs : a.length + b.length ≤ 16777216) (h : k (.str (a ++ b)) ν μ) : Ev2 hT prog w c (binaryOp .Add) Rd (.str a) (.str b) ν μ k := by
  intro g s Q v u r hv hu hQ
  obtain ⟨_, rfl⟩ := hv.str_inv
  obtain ⟨_, rfl⟩ := hu.str_inv
  exact PyProof.Rows.add_str (fun t' tk => hQ g _ _ _ ν μ (Ext.toks _) (r.toks _) (.str _ _) h) (by rw [sizeLine_eq]; omega)

/-! displays -/
theorem EvE.tuple {es : List Expr} {kk : Nat} {pos : Pos} {k : Kt AV} (h : EvAs hT prog w c pos es ν μ fun ds ν₁ μ₁ => ds.length ≤ 1000 ∧ k (.tup ds) ν₁ μ₁) : EvE hT prog w c (.Tuple es kk pos) ν μ k :=
  fun g s Q r hQ => wpAny_Tuple (h g s _ r fun g₁ s₁ vs ds ν₁ μ₁ e₁ r₁ rds k₁ => by
    refine ⟨?_, ?_⟩
    · rw [rds.length, sizeLine_eq]; have := k₁.1; omega
    · obtain ⟨r₂, e₂⟩ := r₁.push { cls := .type "tuple", data := .seq vs.toArray } s₁.toks
      exact hQ _ _ _ _ ν₁ μ₁ (e₁.trans e₂) r₂ (.tup (put_self _ _ _) rfl rfl (rds.mono e₂.le)) k₁.2)

/-- a new mutable object -/
theorem R.alloc {g : Fz} {s : Shared} (r : R hT c g ν μ s) (o : Obj) (mo : MO) (hm : mo.more = []) (hf : o.isFreed = false) (hh : Holds g (s.heap.push o) s.heap.objs.size mo) (k : Tok) :
    R hT c g ν ((s.heap.objs.size, mo) :: μ) { s with heap := s.heap.push o, toks := k } ∧ Ext (dom c μ) (dom c ((s.heap.objs.size, mo) :: μ)) s { s with heap := s.heap.push o, toks := k } g g := by
  have hn := size_none s.heap
  have kp : ∀ b ob, s.heap.get? b = some ob → (s.heap.push o).get? b = some ob := fun b ob e => Heap.get?_push_of_some _ e
  have nd : s.heap.objs.size ∉ dom c μ := fun h => by
    obtain ⟨o', ho'⟩ := live_dom r _ h
    rw [hn] at ho'; cases ho'
  have gn : g s.heap.objs.size = none := by
    cases q : g s.heap.objs.size with
    | none => rfl
    | some o' => have := r.sub _ _ q; rw [hn] at this; cases this
  have fo : foot ((s.heap.objs.size, mo) :: μ) = s.heap.objs.size :: foot μ := by show footOf _ ++ _ = _; unfold footOf; dsimp only; rw [hm]; rfl
  refine ⟨⟨fun a ob e => kp _ _ (r.sub _ _ e), r.top, let ⟨m, h1, h2⟩ := r.ns; ⟨m, h1.keeps kp, h2⟩, fun p hp => ?_, ?_, fun a ha => ?_, fun p hp => ⟨(r.ro p hp).1.at (Le.refl g) fun b _ ob e => kp _ _ e, fun b hb hm' => ?_⟩, r.room⟩,
    ⟨Le.refl g, fun _ ob e => .inl ⟨ob, e⟩, fun a ob e _ => kp _ _ e, fun a ha => ?_, _, k, rfl⟩⟩
  · rcases List.mem_cons.mp hp with rfl | hp
    · exact hh
    · exact (r.hold p hp).at (Le.refl g) fun b _ ob e => kp _ _ e
  · unfold dom at nd ⊢
    rw [fo]
    have := List.nodup_cons.mp r.apart
    refine List.nodup_cons.mpr ⟨fun h => ?_, List.nodup_cons.mpr ⟨fun h => nd (.tail _ h), this.2⟩⟩
    rcases List.mem_cons.mp h with h | h
    · exact nd (h ▸ .head _)
    · exact this.1 h
  · unfold dom at ha
    rw [fo] at ha
    rcases List.mem_cons.mp ha with rfl | ha
    · exact r.off _ (.head _)
    · rcases List.mem_cons.mp ha with rfl | ha
      · exact gn
      · exact r.off _ (.tail _ ha)
  · unfold dom at hm'
    rw [fo] at hm'
    obtain ⟨o', ho'⟩ := (r.ro p hp).1.live b hb
    rcases List.mem_cons.mp hm' with rfl | h
    · exact (r.ro p hp).2 _ hb (.head _)
    · rcases List.mem_cons.mp h with rfl | h
      · rw [hn] at ho'; cases ho'
      · exact (r.ro p hp).2 _ hb (.tail _ h)
  · unfold dom at ha
    rw [fo] at ha
    rcases List.mem_cons.mp ha with rfl | ha
    · exact .inl (.head _)
    · rcases List.mem_cons.mp ha with rfl | ha
      · exact .inr hn
      · exact .inl (.tail _ ha)
theorem EvE.list {es : List Expr} {pos : Pos} {k : Kt AV} (h : EvAs hT prog w c pos es ν μ fun ds ν₁ μ₁ => ds.length ≤ 1000 ∧ ∀ a, k (.ref a) ν₁ ((a, .list ds) :: μ₁)) : EvE hT prog w c (.List es pos) ν μ k :=
  fun g s Q r hQ => wpAny_List (h g s _ r fun g₁ s₁ vs ds ν₁ μ₁ e₁ r₁ rds k₁ => by
    refine ⟨?_, ?_⟩
    · rw [rds.length, sizeLine_eq]; have := k₁.1; omega
    · obtain ⟨r₂, e₂⟩ := r₁.alloc { cls := .type "list", data := .seq vs.toArray } (.list ds) rfl rfl ⟨vs, ⟨_, Heap.get?_push_size _ rfl⟩, rds⟩ s₁.toks
      exact hQ _ _ _ _ ν₁ _ (e₁.trans e₂) r₂ (.ref _) (k₁.2 _))
/-- a list display that no one turns -/
theorem EvE.listF {es : List Expr} {pos : Pos} {k : Kt AV} (h : EvAs hT prog w c pos es ν μ fun ds ν₁ μ₁ => ds.length ≤ 1000 ∧ k (.lst ds) ν₁ μ₁) : EvE hT prog w c (.List es pos) ν μ k :=
  fun g s Q r hQ => wpAny_List (h g s _ r fun g₁ s₁ vs ds ν₁ μ₁ e₁ r₁ rds k₁ => by
    refine ⟨?_, ?_⟩
    · rw [rds.length, sizeLine_eq]; have := k₁.1; omega
    · obtain ⟨r₂, e₂⟩ := r₁.push { cls := .type "list", data := .seq vs.toArray } s₁.toks
      exact hQ _ _ _ _ ν₁ μ₁ (e₁.trans e₂) r₂ (.lst (put_self _ _ _) rfl rfl (rds.mono e₂.le)) k₁.2)

/-! items -/
theorem EvE.sub {value slice : Expr} {pos} {k : Kt AV} (h : EvE hT prog w c value ν μ fun d ν₁ μ₁ => EvE hT prog w c slice ν₁ μ₁ fun e ν₂ μ₂ => Ev2 hT prog w c (subscriptTail value slice) Rd d e ν₂ μ₂ k) : EvE hT prog w c (.Subscript value slice pos) ν μ k :=
  fun g s Q R₀ hQ => Subscript_ (h g s _ R₀ fun g₁ s₁ v₁ d₁ ν₁ μ₁ e₁ r₁ rd₁ k₁ => k₁ g₁ s₁ _ r₁ fun g₂ s₂ v₂ d₂ ν₂ μ₂ e₂ r₂ rd₂ k₂ =>
    k₂ g₂ s₂ Q v₁ v₂ r₂ (rd₁.mono e₂.le) rd₂ fun g₃ s₃ x y ν₃ μ₃ e₃ r₃ rl k₃ => hQ g₃ s₃ x y ν₃ μ₃ ((e₁.trans e₂).trans e₃) r₃ rl k₃)
theorem Ev2.subTup {value slice : Expr} {l : List AV} {i : Int} {j : Nat} {d : AV} {k : Kt AV} (hj : seqIndex? i l.length = some j) (hx : l[j]? = some d) (h : k d ν μ)
    (hs : ∀ o i, subscripted slice false o i = operate [o, i] (getItem o i)) (hlo : -(2 ^ 63) ≤ i) (hhi : i < 2 ^ 63) : Ev2 hT prog w c (subscriptTail value slice) Rd (.tup l) (.int i) ν μ k := by
  intro g s Q v u r hv hu hQ
  obtain ⟨_, rfl⟩ := hu.int_inv
  obtain ⟨_, _, _, _, rfl, e, cc, dd, rs⟩ := hv.tup_inv
  · obtain ⟨x, hx', rx⟩ := rs.get hx
    exact item_tupleT ⟨_, r.sub _ _ e, cc, _, dd⟩ hlo hhi (rs.length ▸ hj) hx' (hQ g s x d ν μ (Ext.refl _ _ _) r rx h) (hs _ _)
theorem listItem {value slice : Expr} {a : Addr} {vs : List Value} {i : Int} {u : Tok} {j : Nat} {x : Value} {A : Around} {E : Value → Shared → Prop} {s : Shared} {Q : Value → Shared → Prop} (hl : s.heap.IsList a vs.toArray) (hj : seqIndex? i vs.length = some j) (hx : vs[j]? = some x) (h : Q x s)
    (hs : ∀ o i, subscripted slice false o i = operate [o, i] (getItem o i)) (hlo : -(2 ^ 63) ≤ i) (hhi : i < 2 ^ 63) : wpAny (model prog w) A (subscriptTail value slice (.ref a) (.int i u)) Q E s := by
  refine tail_any hl.typeIs PySem.F.slot_list_getitem.lookup ?_ (hs _ _)
  have hj' := hj
  unfold seqIndex? at hj
  by_cases hn : i < 0
  · simp only [hn, if_true] at hj
    split at hj
    · rename_i q
      rw [Bool.and_eq_true, decide_eq_true_eq, decide_eq_true_eq] at q
      cases hj
      exact wpAny_getItem_list_neg hl hn (by simp; omega) (by omega) (by simpa using hx) h
    · cases hj
  · simp only [hn, if_false] at hj
    split at hj
    · cases hj
      exact wpAny_getItem_list hl (by omega) hhi (by simpa using hx) h
    · cases hj
theorem Ev2.subLst {value slice : Expr} {l : List AV} {i : Int} {j : Nat} {d : AV} {k : Kt AV} (hj : seqIndex? i l.length = some j) (hx : l[j]? = some d) (h : k d ν μ)
    (hs : ∀ o i, subscripted slice false o i = operate [o, i] (getItem o i)) (hlo : -(2 ^ 63) ≤ i) (hhi : i < 2 ^ 63) : Ev2 hT prog w c (subscriptTail value slice) Rd (.lst l) (.int i) ν μ k := by
  intro g s Q v u r hv hu hQ
  obtain ⟨_, rfl⟩ := hu.int_inv
  obtain ⟨_, _, _, _, rfl, e, cc, dd, rs⟩ := hv.lst_inv
  · obtain ⟨x, hx', rx⟩ := rs.get hx
    exact listItem ⟨_, r.sub _ _ e, cc, _, dd⟩ (rs.length ▸ hj) hx' (hQ g s x d ν μ (Ext.refl _ _ _) r rx h) hs hlo hhi
theorem Ev2.subCell {value slice : Expr} {a : Addr} {l : List AV} {i : Int} {j : Nat} {d : AV} {k : Kt AV} (hm : (a, MO.list l) ∈ μ) (hj : seqIndex? i l.length = some j) (hx : l[j]? = some d) (h : k d ν μ)
    (hs : ∀ o i, subscripted slice false o i = operate [o, i] (getItem o i)) (hlo : -(2 ^ 63) ≤ i) (hhi : i < 2 ^ 63) : Ev2 hT prog w c (subscriptTail value slice) Rd (.ref a) (.int i) ν μ k := by
  intro g s Q v u r hv hu hQ
  obtain ⟨_, rfl⟩ := hu.int_inv
  obtain rfl := hv.ref_inv
  obtain ⟨vs, hl, rs⟩ := r.hold _ hm
  obtain ⟨x, hx', rx⟩ := rs.get hx
  exact listItem hl.isList (rs.length ▸ hj) hx' (hQ g s x d ν μ (Ext.refl _ _ _) r rx h) hs hlo hhi
theorem Ev2.subStr {value slice : Expr} {x : Str} {i : Int} {ch : Nat} {k : Kt AV} (hc : (seqIndex? i x.length).bind (x.cps[·]?) = some ch) (h : k (.str ⟨#[ch]⟩) ν μ)
    (hs : ∀ o i, subscripted slice false o i = operate [o, i] (getItem o i)) (hlo : -(2 ^ 63) ≤ i) (hhi : i < 2 ^ 63) : Ev2 hT prog w c (subscriptTail value slice) Rd (.str x) (.int i) ν μ k := by
  intro g s Q v u r hv hu hQ
  obtain ⟨_, rfl⟩ := hu.int_inv
  obtain ⟨_, rfl⟩ := hv.str_inv
  exact tail_any (typeIs_str _ _ _) PySem.F.slot_str_getitem.lookup (PyProof.Rows.getItem_str (by rw [Bool.or_eq_false_iff]; exact ⟨decide_eq_false (by omega), decide_eq_false (by omega)⟩) hc
    (hQ g _ _ _ ν μ (Ext.toks _) (r.toks _) (.str _ _) h)) (hs _ _)

/-! slices -/
noncomputable def EvP (hT : Heap) (prog : Program) (w : World) (c : Cx) (e : Option Expr) (ν : Loc) (μ : Store) (k : Option Int → Loc → Store → Prop) : Prop :=
  Ev hT prog w c (evalPart e c.env) (fun _ v i => IsPart v i) ν μ k
theorem EvP.none {k : Kt (Option Int)} (h : k Option.none ν μ) : EvP hT prog w c Option.none ν μ k := fun g s Q r hQ => wpAny_evalPart_none (hQ g s _ _ ν μ (Ext.refl _ _ _) r .none h)
theorem EvP.some {e : Expr} {k : Kt (Option Int)} (h : EvE hT prog w c e ν μ fun d ν₁ μ₁ => ∃ i, d = .int i ∧ k (Option.some i) ν₁ μ₁) : EvP hT prog w c (Option.some e) ν μ k :=
  fun g s Q r hQ => wpAny_evalPart_some (h g s _ r fun g₁ s₁ v d ν₁ μ₁ e₁ r₁ rd k₁ => by
    obtain ⟨i, rfl, k₁⟩ := k₁
    obtain ⟨_, rfl⟩ := rd.int_inv
    exact hQ g₁ s₁ _ _ ν₁ μ₁ e₁ r₁ (.int _ _) k₁)
noncomputable def EvSl (hT : Heap) (prog : Program) (w : World) (c : Cx) (value : Expr) (slice : Expr) (d : AV) (lo hi : Option Int) (ν : Loc) (μ : Store) (k : Kt AV) : Prop :=
  ∀ g s (Q : Value → Shared → Prop) v sl vl vu, R hT c g ν μ s → Rd g v d → s.heap.IsSliceOf sl vl vu .none → IsPart vl lo → IsPart vu hi →
    (∀ g' s' x y ν' μ', Ext (dom c μ) (dom c μ') s s' g g' → R hT c g' ν' μ' s' → Rd g' x y → k y ν' μ' → Q x s') → wpAny (model prog w) c.A (subscriptTail value slice v (.ref sl)) Q (fun _ _ => False) s
theorem EvE.slice {value : Expr} {lo hi : Option Expr} {p pos} {k : Kt AV}
    (h : EvE hT prog w c value ν μ fun d ν₁ μ₁ => EvP hT prog w c lo ν₁ μ₁ fun l ν₂ μ₂ => EvP hT prog w c hi ν₂ μ₂ fun u ν₃ μ₃ => EvSl hT prog w c value (.Slice lo hi Option.none p) d l u ν₃ μ₃ k) : EvE hT prog w c (.Subscript value (.Slice lo hi Option.none p) pos) ν μ k :=
  fun g s Q R₀ hQ => Subscript_ (h g s _ R₀ fun g₁ s₁ v₁ d₁ ν₁ μ₁ e₁ r₁ rd₁ k₁ => wpAny_Slice (k₁ g₁ s₁ _ r₁ fun g₂ s₂ vl l ν₂ μ₂ e₂ r₂ pl k₂ => k₂ g₂ s₂ _ r₂ fun g₃ s₃ vu u ν₃ μ₃ e₃ r₃ pu k₃ => wpAny_evalPart_none (by
    obtain ⟨r₄, e₄⟩ := r₃.push { cls := .type "slice", data := .fields #[vl, vu, .none] } s₃.toks
    exact k₃ _ _ Q v₁ s₃.heap.objs.size vl vu r₄ (((rd₁.mono e₂.le).mono e₃.le).mono e₄.le) ⟨_, Heap.get?_push_size _ rfl, rfl, rfl⟩ pl pu fun g' s' x y ν' μ' e' r' rl k' => hQ g' s' x y ν' μ' ((((e₁.trans e₂).trans e₃).trans e₄).trans e') r' rl k')))
noncomputable def cut {α : Type} (l : List α) (lo hi : Option Int) : List α := (l.drop (kms_lo lo l.length)).take (kms_hi hi l.length - kms_lo lo l.length)
theorem Rds.cut {g : Fz} {vs : List Value} {ds : List AV} (r : Rds g vs ds) (lo hi : Option Int) : Rds g (Mine.cut vs lo hi) (Mine.cut ds lo hi) := by
  unfold Mine.cut
  rw [r.length]
  exact (r.drop _).take _
theorem EvSl.lst {value : Expr} {l : List AV} {lo hi : Option Int} {a b p} {k : Kt AV} (hz : l.length ≤ 1000) (h : k (.lst (cut l lo hi)) ν μ) : EvSl hT prog w c value (.Slice a b Option.none p) (.lst l) lo hi ν μ k := by
  intro g s Q v sl vl vu r hv hsl pl pu hQ
  obtain ⟨t, o, n, vs, rfl, e, cc, dd, rs⟩ := hv.lst_inv
  ·
    have hl : s.heap.IsList t vs.toArray := ⟨_, r.sub _ _ e, cc, _, dd⟩
    refine tail_any hl.typeIs PySem.F.slot_list_getitem.lookup (wpAny_getItem_list_slice hl hsl pl pu .none (by simp) ?_ (by rw [List.size_toArray, rs.length, sizeLine_eq]; omega)) rfl
    rw [kms_pick_eq]
    obtain ⟨r₂, e₂⟩ := r.push { cls := .type "list", data := .seq (kms_pick vs.toArray.toList lo hi).toArray } s.toks
    exact hQ _ _ _ _ ν μ e₂ r₂ (.lst (put_self _ _ _) rfl rfl ((rs.cut lo hi).mono e₂.le)) h

/-! binding -/
theorem EvS.assignT {elts : List Expr} {kk : Nat} {tpos pos} {value : Expr} {k : Kt Fl} (h : EvE hT prog w c value ν μ fun d ν₁ μ₁ => Ev1 hT prog w c (PySem.assign (Expr.Tuple elts kk tpos) c.env) any d ν₁ μ₁ fun _ => k .next)
    (hs : swapsWithSole [Expr.Tuple elts kk tpos] value pos.line c.env = pure false) (hw : swappedStores [Expr.Tuple elts kk tpos] value c.env = pure Option.none) : EvS hT prog w c (Stmt.Assign [Expr.Tuple elts kk tpos] value pos) ν μ k :=
  fun g s Q r hQ => Assign_Tuple (h g s _ r fun g₁ s₁ v₁ d₁ ν₁ μ₁ e₁ r₁ rd₁ k₁ => k₁ g₁ s₁ _ v₁ r₁ rd₁ fun g₂ s₂ x y ν₂ μ₂ e₂ r₂ rl k₂ => hQ g₂ s₂ _ _ ν₂ μ₂ (e₁.trans e₂) r₂ .next k₂) hs hw
theorem Ev1.assignN {x : Str} {pos} {d : AV} {k : Kt Unit} (h : Ev1 hT prog w c (storeName c.env x) any d ν μ k) : Ev1 hT prog w c (assign (.Name x pos) c.env) any d ν μ k :=
  fun g s Q v r hv hQ => wpAny_assign_Name (h g s Q v r hv hQ)
noncomputable abbrev EvA (hT : Heap) (prog : Program) (w : World) (c : Cx) (elts : List Expr) (ds : List AV) (ν : Loc) (μ : Store) (k : Kt Unit) : Prop := EvL hT prog w c (assignInOrder ((assignEach elts c.env).map (·.2))) any ds ν μ k
theorem EvA.nil {k : Kt Unit} (h : k () ν μ) : EvA hT prog w c [] [] ν μ k := fun g s Q vs r hv hQ => by
  cases hv; exact wpAny_assignInOrder_none (hQ g s _ _ ν μ (Ext.refl _ _ _) r trivial h)
theorem EvA.cons {e : Expr} {es : List Expr} {d : AV} {ds : List AV} {k : Kt Unit} (h : Ev1 hT prog w c (assign e c.env) any d ν μ fun _ ν₁ μ₁ => EvA hT prog w c es ds ν₁ μ₁ k)
    (he : assignEach (e :: es) c.env = (false, assign e c.env) :: assignEach es c.env) : EvA hT prog w c (e :: es) (d :: ds) ν μ k := fun g s Q vs r hv hQ => by
  cases hv with
  | cons rd rs =>
    show wpAny _ _ (assignInOrder ((assignEach (e :: es) c.env).map (·.2)) _) _ _ _
    rw [he]
    exact wpAny_assignInOrder_more (h g s _ _ r rd fun g₁ s₁ x y ν₁ μ₁ e₁ r₁ rl k₁ => k₁ g₁ s₁ Q _ r₁ (rs.mono e₁.le) fun g₂ s₂ x y ν₂ μ₂ e₂ r₂ rl k₂ => hQ g₂ s₂ x y ν₂ μ₂ (e₁.trans e₂) r₂ rl k₂)
theorem extBut_kept {s : Shared} {h' : Heap} (he : Heap.ExtBut s.heap.objs.size s.heap h') : Kept s { s with heap := h' } :=
  ⟨h', s.toks, rfl, fun b o e => he b o (Nat.ne_of_lt (Heap.lt_size e)) e⟩
theorem Ev1.assignTup {elts : List Expr} {kk : Nat} {pos} {ds : List AV} {k : Kt Unit} (hn : (assignEach elts c.env).length = ds.length) (hstar : (assignEach elts c.env).findIdx? (·.1) = Option.none) (h : EvA hT prog w c elts ds ν μ k) :
    Ev1 hT prog w c (assign (.Tuple elts kk pos) c.env) any (.tup ds) ν μ k := fun g s Q v r hv hQ => by
  obtain ⟨a, o, n, vs, rfl, e, cc, dd, rs⟩ := hv.tup_inv
  ·
    refine wpAny_assign_Tuple r.room.1 ⟨_, r.sub _ _ e, cc, _, dd⟩ (by rw [hn, ← rs.length]; simp) hstar fun h' he => ?_
    have kp := extBut_kept he
    exact h g _ Q _ (r.kept kp) (by simpa using rs) fun g₂ s₂ x y ν₂ μ₂ e₂ r₂ rl k₂ => hQ g₂ s₂ x y ν₂ μ₂ ((kp.ext _ g).trans e₂) r₂ rl k₂
theorem Ev1.assignLst {elts : List Expr} {kk : Nat} {pos} {ds : List AV} {k : Kt Unit} (hn : (assignEach elts c.env).length = ds.length) (hstar : (assignEach elts c.env).findIdx? (·.1) = Option.none) (h : EvA hT prog w c elts ds ν μ k) :
    Ev1 hT prog w c (assign (.Tuple elts kk pos) c.env) any (.lst ds) ν μ k := fun g s Q v r hv hQ => by
  obtain ⟨a, o, n, vs, rfl, e, cc, dd, rs⟩ := hv.lst_inv
  ·
    have hl : s.heap.IsList a vs.toArray := ⟨_, r.sub _ _ e, cc, _, dd⟩
    show wpAny _ _ (do standAt pos; unpack (.ref a) (assignEach elts c.env)) _ _ _
    refine wpAny_bind (wpAny_standAt ?_)
    unfold unpack
    rw [hstar]
    have hsz : (assignEach elts c.env).length = vs.toArray.size := by rw [hn, ← rs.length]; simp
    refine wpAny_bind (wpAny_holding ?_)
    rw [hsz]
    refine kun_itemsOf r.room.1 hl fun h' he => ?_
    have kp := extBut_kept he
    exact h g _ Q _ (r.kept kp) (by simpa using rs) fun g₂ s₂ x y ν₂ μ₂ e₂ r₂ rl k₂ => hQ g₂ s₂ x y ν₂ μ₂ ((kp.ext _ g).trans e₂) r₂ rl k₂
theorem EvS.expr {e : Expr} {pos} {k : Kt Fl} (h : EvE hT prog w c e ν μ fun d ν₁ μ₁ => d = .none ∧ k .next ν₁ μ₁) (hi : interactive c.env = false) (hs : swapsWith e Option.none pos.line c.env = pure false) : EvS hT prog w c (.Expr e pos) ν μ k :=
  fun g s Q r hQ => wpAny_Expr (h g s _ r fun g₁ s₁ v d ν₁ μ₁ e₁ r₁ rd k₁ => by
    obtain ⟨rfl, k₁⟩ := k₁
    obtain rfl := rd.none_inv
    exact hQ g₁ s₁ _ _ ν₁ μ₁ e₁ r₁ .next k₁) hi hs
end
/-! Loops -/
section
variable {hT : Heap} {prog : Program} {w : World} {K : Frag} {c : Cx} {ν : Loc} {μ : Store} {α β : Type}

noncomputable def ownedT : List String := ["enumerate", "zip", "dict_itemiterator", "dict_reverseitemiterator", "odict_iterator", "itertools.zip_longest", "itertools.pairwise"]
theorem own_go {A : Around} {E : Value → Shared → Prop} {s : Shared} {target : Expr} {I : Addr} {o : Obj} {T : String} {v : Value} {Q : Unit → Shared → Prop} (ho : s.heap.get? I = some o) (hc : o.cls = .type T) (hn : ownedT.contains T = false) (h : Q () s) :
    wpAny (model prog w) A (letOwnedTupleGo target (.ref I) v) Q E s := by
  have key : ∀ a, wpAny (model prog w) A (do
      let o ← load I
      match o.cls, o.data with
      | .type n, .fields vs =>
        if ["enumerate", "zip", "dict_itemiterator", "dict_reverseitemiterator", "odict_iterator", "itertools.zip_longest", "itertools.pairwise"].contains n && vs[0]? == some (rawInt a) then
          rule "for.unpacks-the-owned-tuple"
          updateField I 0 .none
      | _, _ => pure ()) Q E s := by
    intro a
    refine wpAny_bind (wpAny_load ho ?_)
    obtain ⟨oc, od, dt, sl⟩ := o
    dsimp only at hc
    subst hc
    have hn' : (["enumerate", "zip", "dict_itemiterator", "dict_reverseitemiterator", "odict_iterator", "itertools.zip_longest", "itertools.pairwise"].contains T) = false := hn
    cases dt <;> first
      | exact wpAny_pure h
      | (dsimp only; rw [hn']; exact wpAny_pure h)
  cases target <;> first
    | exact wpAny_pure h
    | (cases v <;> first
        | exact wpAny_pure h
        | exact key _)

/-- an iterator at I over n values -/
structure Wk (prog : Program) (w : World) (A : Around) (I : Addr) (fp : List Addr) (n : Nat) (P : Nat → Value → Prop) (St : Nat → Heap → Prop) : Prop where
  W : Walks prog w A I fp [I] n P St
  live : ∀ i h, St i h → ∃ o T, h.get? I = some o ∧ o.cls = .type T ∧ ownedT.contains T = false

/-- an iterator stands over the data ds -/
noncomputable def IterAt (hT : Heap) (prog : Program) (w : World) (c : Cx) (g : Fz) (μ : Store) (h : Heap) (I : Addr) (ds : List AV) : Prop :=
  ∃ fp P St, Wk prog w c.A I fp ds.length P St ∧ St 0 h ∧ I ∉ dom c μ ∧ g I = none ∧ (∀ p ∈ c.ro, I ∉ footOf p) ∧ (∀ b ∈ fp, b = I ∨ ∃ o, g b = some o) ∧ ∀ i v, i < ds.length → P i v → ∃ d, ds[i]? = some d ∧ Rd g v d

/-- the iterable of a for: evaluated, then asked for its iterator -/
noncomputable def EvIt (hT : Heap) (prog : Program) (w : World) (c : Cx) (iter : Expr) (ν : Loc) (μ : Store) (k : List AV → Loc → Store → Prop) : Prop :=
  ∀ g s (Q : Value → Shared → Prop), R hT c g ν μ s →
    (∀ g' s₁ s' I ds ν' μ', Ext (dom c μ) (dom c μ') s s₁ g g' → R hT c g' ν' μ' s₁ → Kept s₁ s' → s₁.heap.get? I = none → IterAt hT prog w c g' μ' s'.heap I ds → k ds ν' μ' → Q (.ref I) s') →
    wpAny (model prog w) c.A (eval iter c.env) (fun x s₁ => wpAny (model prog w) c.A (pyIter x) Q (fun _ _ => False) s₁) (fun _ _ => False) s

inductive Items : AV → List AV → Prop
  | tup (l) : Items (.tup l) l
  | lst (l) : Items (.lst l) l
  | str (s : Str) (h : s.cps.all (· < 128) = true) : Items (.str s) (s.cps.toList.map fun ch => .str ⟨#[ch]⟩)

theorem new_apart {g : Fz} {s : Shared} {a : Addr} (r : R hT c g ν μ s) (ha : s.heap.get? a = none) : a ∉ dom c μ ∧ g a = none ∧ ∀ p ∈ c.ro, a ∉ footOf p := by
  refine ⟨fun h => ?_, ?_, fun p hp h => ?_⟩
  · obtain ⟨o, ho⟩ := live_dom r a h; rw [ha] at ho; cases ho
  · cases q : g a with
    | none => rfl
    | some o => rw [r.sub _ _ q] at ha; cases ha
  · obtain ⟨o, ho⟩ := (r.ro p hp).1.live a h; rw [ha] at ho; cases ho

theorem wk_list {A : Around} (hh : A.handled = none) (I ax : Addr) (hne : ax ≠ I) (items : Array Value) : Wk prog w A I [I, ax] items.size (fun i v => items[i]? = some v) (fun i h => h.IsListIter I ax i ∧ h.IsList ax items) :=
  ⟨Walks.list hh I ax hne items, fun i h st => let ⟨o, ho, hc, _⟩ := st.1; ⟨o, _, ho, hc, by decide⟩⟩
theorem wk_tuple {A : Around} (hh : A.handled = none) (I ax : Addr) (hne : ax ≠ I) (items : Array Value) : Wk prog w A I [I, ax] items.size (fun i v => items[i]? = some v) (fun i h => h.IsTupleIter I ax i ∧ h.IsTuple ax items) :=
  ⟨Walks.tuple hh I ax hne items, fun i h st => let ⟨o, ho, hc, _⟩ := st.1; ⟨o, _, ho, hc, by decide⟩⟩
theorem wk_range {A : Around} (hh : A.handled = none) (I : Addr) (a c : Int) (n : Nat) : Wk prog w A I [I] n (fun i v => ∃ t, v = .int (a + i * c) t) (fun i h => IsRangeIter h I (a + (i : Nat) * c) ((n : Int) - (i : Nat)) c) :=
  ⟨Walks.range hh I a c n, fun i h st => ⟨_, _, st, rfl, by decide⟩⟩
theorem wk_str {A : Around} (hh : A.handled = none) (I : Addr) (x : Str) (t : Tok) : Wk prog w A I [I] x.cps.size (SignAt x) (fun i h => h.IsStrIter I "str_ascii_iterator" x t i) :=
  ⟨Walks.strAscii hh I x t, fun i h st => let ⟨o, ho, hc, _⟩ := st; ⟨o, _, ho, hc, by decide⟩⟩

theorem EvIt.val {iter : Expr} {k : Kt (List AV)} (h : EvE hT prog w c iter ν μ fun d ν₁ μ₁ => ∃ ds, Items d ds ∧ k ds ν₁ μ₁) : EvIt hT prog w c iter ν μ k := by
  intro g s Q r hQ
  refine h g s _ r fun g₁ s₁ v d ν₁ μ₁ e₁ r₁ rd k₁ => ?_
  obtain ⟨ds, it, k₁⟩ := k₁
  have hh := r₁.room.1
  have ap := new_apart r₁ (size_none s₁.heap)
  cases it with
  | tup =>
    obtain ⟨a, o, n, vs, rfl, e, cc, dd, rs⟩ := rd.tup_inv
    ·
      have ht : s₁.heap.IsTuple a vs.toArray := ⟨_, r₁.sub _ _ e, cc, _, dd⟩
      have hne : a ≠ s₁.heap.objs.size := Nat.ne_of_lt (Heap.lt_size (r₁.sub _ _ e))
      have wk := wk_tuple (prog := prog) (w := w) hh s₁.heap.objs.size a hne vs.toArray
      rw [show vs.toArray.size = ds.length by simp [rs.length]] at wk
      have st : (s₁.heap.push { cls := .type "tuple_iterator", data := .fields #[.ref a, .int 0 0] }).IsTupleIter s₁.heap.objs.size a 0 := ⟨_, Heap.get?_push_size _ rfl, rfl, rfl⟩
      have st2 : (s₁.heap.push { cls := .type "tuple_iterator", data := .fields #[.ref a, .int 0 0] }).IsTuple a vs.toArray := let ⟨ob, h1, h2⟩ := ht; ⟨ob, Heap.get?_push_of_some _ h1, h2⟩
      refine wpAny_pyIter_tuple ht (hQ g₁ s₁ _ _ ds ν₁ μ₁ e₁ r₁ (Kept.push _ _) (size_none _) ⟨_, _, _, wk, ⟨st, st2⟩, ap.1, ap.2.1, ap.2.2, ?_, ?_⟩ k₁)
      · intro b hb
        simp at hb
        rcases hb with rfl | rfl
        · exact .inl rfl
        · exact .inr ⟨_, e⟩
      · intro i v hi hv
        have hv' : vs[i]? = some v := by simpa using hv
        obtain ⟨v', h1, h2⟩ := rs.get (i := i) (d := ds[i]) (by simp [hi])
        rw [hv'] at h1; cases h1
        exact ⟨_, by simp [hi], h2⟩
  | lst =>
    obtain ⟨a, o, n, vs, rfl, e, cc, dd, rs⟩ := rd.lst_inv
    ·
      have ht : s₁.heap.IsList a vs.toArray := ⟨_, r₁.sub _ _ e, cc, _, dd⟩
      have hne : a ≠ s₁.heap.objs.size := Nat.ne_of_lt (Heap.lt_size (r₁.sub _ _ e))
      have wk := wk_list (prog := prog) (w := w) hh s₁.heap.objs.size a hne vs.toArray
      rw [show vs.toArray.size = ds.length by simp [rs.length]] at wk
      have st : (s₁.heap.push { cls := .type "list_iterator", data := .fields #[.ref a, .int 0 0] }).IsListIter s₁.heap.objs.size a 0 := ⟨_, Heap.get?_push_size _ rfl, rfl, rfl⟩
      have st2 : (s₁.heap.push { cls := .type "list_iterator", data := .fields #[.ref a, .int 0 0] }).IsList a vs.toArray := let ⟨ob, h1, h2⟩ := ht; ⟨ob, Heap.get?_push_of_some _ h1, h2⟩
      refine wpAny_pyIter_list ht (hQ g₁ s₁ _ _ ds ν₁ μ₁ e₁ r₁ (Kept.push _ _) (size_none _) ⟨_, _, _, wk, ⟨st, st2⟩, ap.1, ap.2.1, ap.2.2, ?_, ?_⟩ k₁)
      · intro b hb
        simp at hb
        rcases hb with rfl | rfl
        · exact .inl rfl
        · exact .inr ⟨_, e⟩
      · intro i v hi hv
        have hv' : vs[i]? = some v := by simpa using hv
        obtain ⟨v', h1, h2⟩ := rs.get (i := i) (d := ds[i]) (by simp [hi])
        rw [hv'] at h1; cases h1
        exact ⟨_, by simp [hi], h2⟩
  | str x ha =>
    obtain ⟨t, rfl⟩ := rd.str_inv
    ·
      have wk := wk_str (prog := prog) (w := w) hh s₁.heap.objs.size x t
      rw [show x.cps.size = (x.cps.toList.map fun ch => AV.str ⟨#[ch]⟩).length by simp] at wk
      have st : (s₁.heap.push { cls := .type "str_ascii_iterator", data := .fields #[.str x t, .int 0 0] }).IsStrIter s₁.heap.objs.size "str_ascii_iterator" x t 0 := ⟨_, Heap.get?_push_size _ rfl, rfl, rfl⟩
      refine wpAny_pyIter_ascii ha (hQ g₁ s₁ _ _ _ ν₁ μ₁ e₁ r₁ (Kept.push _ _) (size_none _) ⟨_, _, _, wk, st, ap.1, ap.2.1, ap.2.2, ?_, ?_⟩ k₁)
      · intro b hb
        simp at hb
        exact .inl hb
      · rintro i v hi ⟨ch, u, h1, rfl⟩
        exact ⟨.str ⟨#[ch]⟩, by rw [List.getElem?_map]; simp [h1], .str _ _⟩

/-- range(n) -/
theorem EvIt.range {np pos : Pos} {e : Expr} {k : Kt (List AV)} {K : Frag} (W : Wd hT K) (en : nsIn K mainGlobals (Str.ofString "range") = some Option.none)
    (h : EvE hT prog w c e ν μ fun d ν₁ μ₁ => ∃ n : Nat, d = .int n ∧ n < 1000 ∧ k ((List.range n).map fun (i : Nat) => AV.int i) ν₁ μ₁)
    (hk : c.env.scope.kind = .function) (hx : c.env.kindOf (Str.ofString "range") = some .globalImplicit) (hg : c.env.globals = mainGlobals) (hb : c.env.builtins = builtinsNs)
    (he : starEach [e] c.env = [(false, eval e c.env)]) : EvIt hT prog w c (.Call (.Name (Str.ofString "range") np) [e] [] pos) ν μ k := by
  intro g s Q r hQ
  refine wpAny_Call_ofName (name_boot W r en (v := .type "range") (by decide +kernel) (by decide) hk hx hg hb (by decide) (PyProof.Rows.callWith_type1 (e := e) (rest := []) ?_ he rfl))
  rw [he]
  refine spliced_cons (h g s _ r fun g₁ s₁ v d ν₁ μ₁ e₁ r₁ rd k₁ => spliced_nil ?_)
  obtain ⟨n, rfl, hn, k₁⟩ := k₁
  obtain ⟨t, rfl⟩ := rd.int_inv
  refine call_range_1 ?_
  have kp : Kept s₁ { s₁ with heap := s₁.heap.push { cls := .type "range", data := .fields #[.int 0 s₁.toks, .int n t, .int 1 (s₁.toks + 1)] }, toks := s₁.toks + 1 + 1 } := Kept.pushT _ _ _
  have r₂ := r₁.kept kp
  have ap := new_apart r₂ (size_none _)
  have hsz : Builtin.Range.rangeSize 0 (n : Int) 1 = n := by
    unfold Builtin.Range.rangeSize
    rw [if_pos (by decide)]
    by_cases q : (0 : Int) < n
    · rw [if_pos q]; simp
    · rw [if_neg q]; omega
  have hsm : Builtin.Range.small 0 (n : Int) 1 = true := by
    unfold Builtin.Range.small
    rw [hsz]
    have f : ∀ m : Int, 0 ≤ m → m < 2000 → Builtin.Range.rangeFitsLong m = true := fun m h0 h1 => by unfold Builtin.Range.rangeFitsLong; simp; omega
    rw [f 0 (by omega) (by omega), f n (by omega) (by omega), f 1 (by omega) (by omega)]
    rw [if_pos (by decide), f _ (by omega) (by omega)]
    simp
  have wk := wk_range (prog := prog) (w := w) r₁.room.1 (s₁.heap.push { cls := .type "range", data := .fields #[.int 0 s₁.toks, .int n t, .int 1 (s₁.toks + 1)] }).objs.size 0 1 n
  have hlen : ((List.range n).map fun (i : Nat) => AV.int i).length = n := by simp
  refine wpAny_pyIter_range (Heap.get?_push_size _ rfl) hsm (hQ g₁ _ _ _ _ ν₁ μ₁ (e₁.trans (kp.ext _ g₁)) r₂ (Kept.push _ _) (size_none _) ⟨_, fun i v => ∃ t, v = .int (0 + (i : Nat) * 1) t, fun i h => IsRangeIter h (s₁.heap.push { cls := .type "range", data := .fields #[.int 0 s₁.toks, .int n t, .int 1 (s₁.toks + 1)] }).objs.size (0 + (i : Nat) * 1) ((n : Int) - (i : Nat)) 1, by rw [hlen]; exact wk, ?_, ap.1, ap.2.1, ap.2.2, ?_, ?_⟩ k₁)
  · rw [hsz]
    exact (Heap.get?_push_size _ rfl).trans (by simp [rawInt])
  · intro b hb
    simp only [List.mem_singleton] at hb
    exact .inl hb
  · rintro i v hi ⟨t', rfl⟩
    rw [hlen] at hi
    refine ⟨.int i, by simp [hi], ?_⟩
    have := Rd.int (g := g₁) (i : Int) t'
    simpa using this

/-! for -/
noncomputable def ForL (hT : Heap) (prog : Program) (w : World) (c : Cx) (target : Expr) (body : List Stmt) : List AV → Loc → Store → Kt Fl → Prop
  | [], ν, μ, k => k .next ν μ
  | d :: ds, ν, μ, k => Ev1 hT prog w c (assign target c.env) any d ν μ fun _ ν₁ μ₁ => EvSs hT prog w c body ν₁ μ₁ fun fl ν₂ μ₂ => match fl with
    | .next => ForL hT prog w c target body ds ν₂ μ₂ k
    | .cont => ForL hT prog w c target body ds ν₂ μ₂ k
    | .brk => k .next ν₂ μ₂
    | .ret d => k (.ret d) ν₂ μ₂

/-- an iterator is moved, all else stands -/
theorem R.moved {g : Fz} {s : Shared} {h' : Heap} {tk : Tok} {I : Addr} (r : R hT c g ν μ s) (hI : I ∉ dom c μ) (gI : g I = none) (ro : ∀ p ∈ c.ro, I ∉ footOf p) (k : ∀ b o, b ∉ [I] → s.heap.get? b = some o → h'.get? b = some o) : R hT c g ν μ { s with heap := h', toks := tk } := by
  have ne : ∀ b, b ≠ I → ∀ o, s.heap.get? b = some o → h'.get? b = some o := fun b hb o e => k b o (by simpa using hb) e
  refine ⟨fun a o e => ne a (fun q => ?_) o (r.sub a o e), r.top, let ⟨m, hm, hl⟩ := r.ns; ⟨m, hm.at' fun o e => ne _ (fun q => hI (q ▸ .head _)) o e, hl⟩, fun p hp => (r.hold p hp).at (Le.refl g) fun b hb o e => ne b (fun q => hI (q ▸ .tail _ (foot_in hp b hb))) o e, r.apart, r.off,
    fun p hp => ⟨(r.ro p hp).1.at (Le.refl g) fun b hb o e => ne b (fun q => ro p hp (q ▸ hb)) o e, (r.ro p hp).2⟩, r.room⟩
  subst q; rw [gI] at e; cases e

theorem codeAny_forLoopO {A : Around} {s : Shared} {R : Result → Shared → Prop} {target it body orelse env} (I : Nat → Shared → Prop)
    (turn : ∀ n s, I n s → wpAny (model prog w) A (pyNext it) (fun r s₁ => match r with
      | none => wpAny (model prog w) A (execs orelse env) (fun f s₃ => R (.ok f) s₃) (fun _ _ => False) s₁
      | some v => wpAny (model prog w) A (letOwnedTupleGo target it v) (fun _ s₁ => wpAny (model prog w) A (assign target env v) (fun _ s₂ => wpAny (model prog w) A (execs body env) (fun f s₃ => match f with
          | .next | .cont => ∃ m, m < n ∧ I m s₃
          | .brk => R (.ok .next) s₃
          | .ret v => R (.ok (.ret v)) s₃) (fun _ _ => False) s₂) (fun _ _ => False) s₁) (fun _ _ => False) s₁) (fun _ _ => False) s)
    (n : Nat) (h : I n s) : codeAny (model prog w) A (.forLoop target it body orelse env) R s := by
  refine codeAny_loop' rfl I (fun n s hI => ?_) n h
  show wpAny _ _ ((forTurn target it body orelse env).onRaise (fun x => do noteFrame x env; theTreesLotGoes x)) _ _ s
  refine wpAny_noted ?_
  simp only [forTurn]
  refine wpAny_bind (wpAny_standAt (wpAny_bind (wpAny_onRaise (wpAny_mono (turn n s hI) (fun r s₁ h₁ => ?_) fun _ _ h' => h'.elim))))
  cases r with
  | none => exact wpAny_pure (.inr ⟨rfl, codeAny_block (wpAny_mono h₁ (fun _ _ q => q) fun _ _ q => q.elim)⟩)
  | some v =>
    refine wpAny_bind (wpAny_mono h₁ (fun _ s₂ h₂ => wpAny_bind (wpAny_mono h₂ (fun _ s₃ h₃ => wpAny_bind (wpAny_mono h₃ (fun f s₄ h₄ => ?_) fun _ _ h' => h'.elim)) fun _ _ h' => h'.elim)) fun _ _ h' => h'.elim)
    cases f with
    | next => exact wpAny_pure (.inl ⟨rfl, h₄⟩)
    | cont => exact wpAny_pure (.inl ⟨rfl, h₄⟩)
    | brk => exact wpAny_pure h₄
    | ret v => exact wpAny_pure h₄

theorem EvS.for {target iter : Expr} {body : List Stmt} {pos} {k : Kt Fl} (h : EvIt hT prog w c iter ν μ fun ds ν₁ μ₁ => ForL hT prog w c target body ds ν₁ μ₁ k) (hs : ∀ x, foldedSetIterable iter c.env x = pure x) :
    EvS hT prog w c (.For target iter body [] pos) ν μ k := by
  intro g s Q r hQ
  refine wpAny_For (wpAny_mono (h g s (fun it s₂ => codeAny (model prog w) c.A (.forLoop target it body [] c.env) (fun r s' => match r with | .ok f => Q f s' | .error e => cameBackBy (model prog w) c.A c.env (fun _ _ => False) e s') s₂) r ?_) (fun _ _ q => q) fun _ _ q => q) hs
  intro g₁ s₁ s₂ I ds ν₁ μ₁ e₁ r₁ kp hI ia k₁
  obtain ⟨fp, P, St, wk, st, hId, gI, hro, hfp, hP⟩ := ia
  refine codeAny_forLoopO (fun m s' => ∃ i νi μi gi, i ≤ ds.length ∧ m = ds.length + 1 - i ∧ R hT c gi νi μi s' ∧ Ext (dom c μ₁) (dom c μi) s₁ s' g₁ gi ∧ St i s'.heap ∧ I ∉ dom c μi ∧ gi I = none ∧ ForL hT prog w c target body (ds.drop i) νi μi k) ?_ (ds.length + 1)
    ⟨0, ν₁, μ₁, g₁, Nat.zero_le _, rfl, r₁.kept kp, kp.ext _ g₁, st, hId, gI, by simpa using k₁⟩
  rintro m s' ⟨i, νi, μi, gi, hi, rfl, ri, ei, sti, hIi, gIi, ki⟩
  have fin : ∀ {h' : Heap} {tk : Tok}, (∀ b o, b ∉ [I] → s'.heap.get? b = some o → h'.get? b = some o) → Ext (dom c μ₁) (dom c μi) s₁ { s' with heap := h', toks := tk } g₁ gi := fun {h' tk} hk =>
    ⟨ei.le, ei.new, fun a o e hn => hk a o (by simp; rintro rfl; rw [hI] at e; cases e) (ei.keep a o e hn), ei.dom, let ⟨hh, t, q⟩ := ei.same; ⟨h', tk, by rw [q]⟩⟩
  by_cases hlt : i < ds.length
  · refine wk.W.item i s' _ _ hlt sti fun v h' tk hPv st' hk => ?_
    have rm := ri.moved (tk := tk) hIi gIi hro hk
    have em := fin (tk := tk) hk
    obtain ⟨o, T, ho, hc, hT'⟩ := wk.live _ _ st'
    refine own_go ho hc hT' ?_
    obtain ⟨d, hd, rd⟩ := hP i v hlt hPv
    have hdrop : ds.drop i = d :: ds.drop (i + 1) := by
      rw [List.drop_eq_getElem_cons hlt]
      rw [List.getElem?_eq_getElem hlt] at hd
      cases hd; rfl
    rw [hdrop] at ki
    refine ki gi _ _ v rm (rd.mono ei.le) fun g₃ s₃ _ _ ν₃ μ₃ e₃ r₃ _ k₃ => k₃ g₃ s₃ _ r₃ fun g₄ s₄ fl f ν₄ μ₄ e₄ r₄ rl k₄ => ?_
    have e34 := e₃.trans e₄
    have et : Ext (dom c μ₁) (dom c μ₄) s₁ s₄ g₁ g₄ := em.trans e34
    have nd : I ∉ dom c μ₄ := fun q => by
      rcases e34.dom I q with q | q
      · exact hIi q
      · rw [ho] at q; cases q
    have ng : g₄ I = none := by
      cases q : g₄ I with
      | none => rfl
      | some o' =>
        rcases e34.new I o' q with ⟨o'', q⟩ | q | q
        · rw [gIi] at q; cases q
        · exact absurd q hIi
        · rw [ho] at q; cases q
    have st4 : St (i + 1) s₄.heap := wk.W.frame _ _ _ st' fun b hb ob e => by
      rcases hfp b hb with rfl | ⟨o', hg⟩
      · exact e34.keep _ _ e hIi
      · have hgi := ei.le _ _ hg
        have h1 := r₄.sub _ _ (e34.le _ _ hgi)
        have h2 := rm.sub _ _ hgi
        rw [e] at h2; cases h2; exact h1
    have again : ForL hT prog w c target body (ds.drop (i + 1)) ν₄ μ₄ k → ∃ m, m < ds.length + 1 - i ∧ ∃ i νi μi gi, i ≤ ds.length ∧ m = ds.length + 1 - i ∧ R hT c gi νi μi s₄ ∧ Ext (dom c μ₁) (dom c μi) s₁ s₄ g₁ gi ∧ St i s₄.heap ∧ I ∉ dom c μi ∧ gi I = none ∧ ForL hT prog w c target body (ds.drop i) νi μi k :=
      fun kk => ⟨ds.length + 1 - (i + 1), by omega, i + 1, ν₄, μ₄, g₄, hlt, rfl, r₄, et, st4, nd, ng, kk⟩
    cases rl with
    | next => exact again k₄
    | cont => exact again k₄
    | brk => exact hQ g₄ s₄ _ _ ν₄ μ₄ (e₁.trans et) r₄ .next k₄
    | ret rd => exact hQ g₄ s₄ _ _ ν₄ μ₄ (e₁.trans et) r₄ (.ret rd) k₄
  · have hin : i = ds.length := by omega
    subst hin
    refine wk.W.done s' _ _ sti fun h' tk hk => wpAny_execs_nil ?_
    rw [List.drop_length] at ki
    exact hQ gi _ _ _ νi μi (e₁.trans (fin hk)) (ri.moved hIi gIi hro hk) .next ki

/-! while -/
noncomputable def WhileL (hT : Heap) (prog : Program) (w : World) (c : Cx) (test : Expr) (body : List Stmt) : Nat → Loc → Store → Kt Fl → Prop
  | 0, _, _, _ => False
  | n + 1, ν, μ, k => EvT hT prog w c test ν μ fun b ν₁ μ₁ => (b = true → EvSs hT prog w c body ν₁ μ₁ fun fl ν₂ μ₂ => match fl with
      | .next => WhileL hT prog w c test body n ν₂ μ₂ k
      | .cont => WhileL hT prog w c test body n ν₂ μ₂ k
      | .brk => k .next ν₂ μ₂
      | .ret d => k (.ret d) ν₂ μ₂) ∧ (b = false → k .next ν₁ μ₁)
theorem EvS.while {test : Expr} {body : List Stmt} {pos} {k : Kt Fl} (n : Nat) (h : WhileL hT prog w c test body n ν μ k) : EvS hT prog w c (.While test body [] pos) ν μ k := by
  intro g s Q r hQ
  refine wpAny_While (codeAny_whileLoop (fun m s' => ∃ νi μi gi, R hT c gi νi μi s' ∧ Ext (dom c μ) (dom c μi) s s' g gi ∧ WhileL hT prog w c test body m νi μi k) ?_ n ⟨ν, μ, g, r, Ext.refl _ _ _, h⟩)
  rintro m s' ⟨νi, μi, gi, ri, ei, ki⟩
  cases m with
  | zero => exact ki.elim
  | succ m =>
    refine wpAny_mono (ki gi s' (fun b s₂ => if b then wpAny (model prog w) c.A (execs body c.env) (fun f s₃ => match f with
            | .next | .cont => ∃ m', m' < m + 1 ∧ ∃ νi μi gi, R hT c gi νi μi s₃ ∧ Ext (dom c μ) (dom c μi) s s₃ g gi ∧ WhileL hT prog w c test body m' νi μi k
            | .brk => Q .next s₃
            | .ret v => Q (.ret v) s₃) (fun _ _ => False) s₂
        else Q .next s₂) ri fun g₁ s₁ x y ν₁ μ₁ e₁ r₁ rl k₁ => ?_) (fun b s₂ hb => ?_) fun _ _ q => q.elim
    · cases rl
      cases x with
      | true =>
        rw [if_pos rfl]
        refine k₁.1 rfl g₁ s₁ _ r₁ fun g₂ s₂ fl f ν₂ μ₂ e₂ r₂ rl k₂ => ?_
        have et := (ei.trans e₁).trans e₂
        cases rl with
        | next => exact ⟨m, Nat.lt_succ_self _, ν₂, μ₂, g₂, r₂, et, k₂⟩
        | cont => exact ⟨m, Nat.lt_succ_self _, ν₂, μ₂, g₂, r₂, et, k₂⟩
        | brk => exact hQ g₂ s₂ _ _ ν₂ μ₂ et r₂ .next k₂
        | ret rd => exact hQ g₂ s₂ _ _ ν₂ μ₂ et r₂ (.ret rd) k₂
      | false =>
        rw [if_neg (by simp)]
        exact hQ g₁ s₁ _ _ ν₁ μ₁ (ei.trans e₁) r₁ .next (k₁.2 rfl)
    · cases b with
      | true =>
        rw [if_pos rfl] at hb ⊢
        refine wpAny_mono hb (fun f s₃ q => ?_) fun _ _ q => q.elim
        cases f <;> exact q
      | false =>
        rw [if_neg (by simp)] at hb ⊢
        exact wpAny_execs_nil hb
end
/-! Comp -/
section
variable {hT : Heap} {prog : Program} {w : World} {K : Frag} {c : Cx} {ν : Loc} {μ : Store} {α β : Type}

theorem R.grow {g g' : Fz} {s s' : Shared} (r : R hT c g ν μ s) (kp : Kept s s') (le : Le g g') (sub : ∀ a o, g' a = some o → s'.heap.get? a = some o) (new : ∀ a o, g' a = some o → (∃ o, g a = some o) ∨ s.heap.get? a = none) :
    R hT c g' ν μ s' ∧ Ext (dom c μ) (dom c μ) s s' g g' := by
  have r' := r.kept kp
  obtain ⟨h, tk, rfl, k⟩ := kp
  refine ⟨⟨sub, fun a o e => le _ _ (r.top _ _ e), let ⟨m, h1, h2⟩ := r'.ns; ⟨m, h1, fun x d e => let ⟨v, q1, q2⟩ := h2 x d e; ⟨v, q1, q2.mono le⟩⟩, fun p hp => (r'.hold p hp).at le fun _ _ _ e => e, r.apart, fun a ha => ?_,
    fun p hp => ⟨(r'.ro p hp).1.at le fun _ _ _ e => e, (r'.ro p hp).2⟩, r.room⟩, ⟨le, fun a o e => (new a o e).elim .inl fun q => .inr (.inr q), fun a o e _ => k a o e, fun _ h => .inl h, h, tk, rfl⟩⟩
  cases q : g' a with
  | none => rfl
  | some o =>
    rcases new a o q with ⟨o', h1⟩ | h1
    · rw [r.off a ha] at h1; cases h1
    · obtain ⟨o', ho'⟩ := live_dom r a ha; rw [ho'] at h1; cases h1

/-- freeze the list cell at the head of the store -/
theorem R.freeze {g : Fz} {s : Shared} {a : Addr} {l : List AV} (r : R hT c g ν ((a, .list l) :: μ) s) : ∃ o, R hT c (put g a o) ν μ s ∧ Ext (dom c ((a, .list l) :: μ)) (dom c μ) s s g (put g a o) ∧ Rd (put g a o) (.ref a) (.lst l) := by
  obtain ⟨vs, ⟨n, ho⟩, rs⟩ := r.hold _ (.head _)
  obtain ⟨o, hoe⟩ : ∃ o : Obj, o = { cls := .type "list", data := .seq vs.toArray n } := ⟨_, rfl⟩
  rw [← hoe] at ho
  have hc : o.cls = .type "list" := by rw [hoe]
  have hd : o.data = .seq vs.toArray n := by rw [hoe]
  have ga : g a = none := r.off a (.tail _ (List.mem_append.mpr (.inl (.head _))))
  have le := put_le (o := o) ga
  have hdom : dom c ((a, .list l) :: μ) = c.env.locals :: a :: foot μ := rfl
  have ap := r.apart
  rw [hdom] at ap
  have ap1 := List.nodup_cons.mp ap
  have ap2 := List.nodup_cons.mp ap1.2
  refine ⟨o, ⟨fun b ob e => ?_, fun b ob e => le _ _ (r.top _ _ e), let ⟨m, h1, h2⟩ := r.ns; ⟨m, h1, fun x d e => let ⟨v, q1, q2⟩ := h2 x d e; ⟨v, q1, q2.mono le⟩⟩, fun p hp => (r.hold p (.tail _ hp)).at le fun _ _ _ e => e, ?_, fun b hb => ?_,
    fun p hp => ⟨(r.ro p hp).1.at le fun _ _ _ e => e, fun b hb hm => (r.ro p hp).2 b hb ?_⟩, r.room⟩, ⟨le, fun b ob e => ?_, fun b ob e _ => e, fun b hb => .inl ?_, s.heap, s.toks, rfl⟩, .lst (put_self _ _ _) hc hd (rs.mono le)⟩
  · unfold put at e
    by_cases q : b = a
    · rw [if_pos q] at e; cases e; rw [q]; exact ho
    · rw [if_neg q] at e; exact r.sub _ _ e
  · exact List.nodup_cons.mpr ⟨fun h => ap1.1 (.tail _ h), ap2.2⟩
  · unfold put
    by_cases q : b = a
    · subst q
      rcases List.mem_cons.mp hb with h | h
      · exact absurd (h ▸ List.Mem.head _) ap1.1
      · exact absurd h ap2.1
    · rw [if_neg q]
      refine r.off b ?_
      rcases List.mem_cons.mp hb with h | h
      · exact h ▸ .head _
      · rw [hdom]; exact .tail _ (.tail _ h)
  · rcases List.mem_cons.mp hm with h | h
    · exact h ▸ .head _
    · rw [hdom]; exact .tail _ (.tail _ h)
  · unfold put at e
    by_cases q : b = a
    · subst q; exact .inr (.inl (by rw [hdom]; exact .tail _ (.head _)))
    · rw [if_neg q] at e; exact .inl ⟨ob, e⟩
  · rcases List.mem_cons.mp hb with h | h
    · exact h ▸ .head _
    · rw [hdom]; exact .tail _ (.tail _ h)
/-- a name that holds the cell at the head of the store holds from now on a frozen list -/
theorem EvSs.freeze {x : Str} {a : Addr} {l : List AV} {st : List Stmt} {k : Kt Fl} (hx : ν x = some (.ref a)) (h : EvSs hT prog w c st (upd ν x (.lst l)) μ k) : EvSs hT prog w c st ν ((a, .list l) :: μ) k := by
  intro g s Q r hQ
  obtain ⟨o, r', e, rd⟩ := r.freeze
  refine h _ s Q ⟨r'.sub, r'.top, ?_, r'.hold, r'.apart, r'.off, r'.ro, r'.room⟩ fun g' s' y z ν' μ' e' r'' rl k' => hQ g' s' y z ν' μ' (e.trans e') r'' rl k'
  obtain ⟨m, hm, hl⟩ := r'.ns
  refine ⟨m, hm, fun y d hy => ?_⟩
  unfold upd at hy
  by_cases q : y = x
  · rw [if_pos q] at hy; cases hy
    obtain ⟨v, h1, h2⟩ := hl x _ hx
    obtain rfl := h2.ref_inv
    exact ⟨_, q ▸ h1, rd⟩
  · rw [if_neg q] at hy; exact hl y d hy

/-! comprehensions -/
noncomputable abbrev EvIfs (hT : Heap) (prog : Program) (w : World) (c : Cx) (ifs : List Expr) (ν : Loc) (μ : Store) (k : Kt Bool) : Prop :=
  Ev hT prog w c (forIn ifs true fun e r => if r = true then do let ok ← isTrue e c.env (eval e c.env); pure (ForInStep.yield ok) else pure (ForInStep.yield r)) same ν μ k
theorem EvIfs.nil {k : Kt Bool} (h : k true ν μ) : EvIfs hT prog w c [] ν μ k := fun g s Q r hQ => wpAny_tests_nil (hQ g s _ _ ν μ (Ext.refl _ _ _) r rfl h)
theorem EvIfs.one {e : Expr} {k : Kt Bool} (h : EvT hT prog w c e ν μ k) : EvIfs hT prog w c [e] ν μ k := fun g s Q r hQ => wpAny_tests_one (h g s Q r hQ)

noncomputable def CompL (hT : Heap) (prog : Program) (w : World) (c : Cx) (target : Expr) (ifs : List Expr) (elt : Expr) (D : Addr) : List AV → Loc → List AV → (List AV → Prop) → Prop
  | [], ν, acc, k => k acc
  | d :: ds, ν, acc, k => Ev1 hT prog w c (assign target c.env) any d ν [(D, .list acc)] fun _ ν₁ μ₁ => μ₁ = [(D, .list acc)] ∧ EvIfs hT prog w c ifs ν₁ [(D, .list acc)] fun ok ν₂ μ₂ => μ₂ = [(D, .list acc)] ∧
      (ok = true → EvE hT prog w c elt ν₂ [(D, .list acc)] fun e ν₃ μ₃ => μ₃ = [(D, .list acc)] ∧ CompL hT prog w c target ifs elt D ds ν₃ (acc ++ [e]) k) ∧
      (ok = false → CompL hT prog w c target ifs elt D ds ν₂ acc k)

theorem codeAny_compLoopO {A : Around} {s : Shared} {R : Result → Shared → Prop} {elt target iter : Expr} {ifs : List Expr} {scope : Scope} {pos : Pos} {it acc : Value} {env : Env} (I : Nat → Shared → Prop)
    (turn : ∀ n s, I n s → wpAny (model prog w) A (pyNext it) (fun r s₁ => match r with
      | none => R (.ok .next) s₁
      | some v => wpAny (model prog w) A (letOwnedTupleGo target it v) (fun _ s₁ => wpAny (model prog w) A (assign target env v) (fun _ s₂ =>
          wpAny (model prog w) A (forIn ifs true fun c r => if r = true then do let ok ← isTrue c env (eval c env); pure (ForInStep.yield ok) else pure (ForInStep.yield r)) (fun ok s₃ =>
            if ok = true then wpAny (model prog w) A (eval elt env) (fun x s₄ =>
              wpAny (model prog w) A (call (.builtin "list.append") [acc, x]) (fun _ s₅ => ∃ m, m < n ∧ I m s₅) (fun _ _ => False) s₄) (fun _ _ => False) s₃
            else ∃ m, m < n ∧ I m s₃) (fun _ _ => False) s₂) (fun _ _ => False) s₁) (fun _ _ => False) s₁) (fun _ _ => False) s)
    (n : Nat) (h : I n s) : codeAny (model prog w) A (.compLoop (.ListComp elt [⟨target, iter, ifs, 0⟩] scope pos) 0 it acc env) R s := by
  refine codeAny_loop rfl I (fun n s hI => ?_) n h
  show wpAny _ A ((compTurn (.ListComp elt [⟨target, iter, ifs, 0⟩] scope pos) 0 it acc env).onRaise (fun x => do noteFrame x env; theTreesLotGoes x)) _ _ s
  refine wpAny_noted ?_
  rw [compTurn_list]
  refine wpAny_bind (wpAny_standAt (wpAny_bind (wpAny_mono (turn n s hI) (fun r s₁ h₁ => ?_) fun _ _ h' => h'.elim)))
  cases r with
  | none => exact wpAny_pure h₁
  | some v =>
    refine wpAny_bind (wpAny_mono h₁ (fun _ s₂ h₂ => wpAny_bind (wpAny_mono h₂ (fun _ s₃ h₃ => wpAny_bind (wpAny_mono h₃ (fun ok s₄ h₄ => ?_) fun _ _ h' => h'.elim)) fun _ _ h' => h'.elim)) fun _ _ h' => h'.elim)
    cases ok with
    | false => exact wpAny_pure ⟨rfl, h₄⟩
    | true => exact wpAny_bind (wpAny_bind (wpAny_mono h₄ (fun x s₅ h₅ => wpAny_bind (wpAny_mono h₅ (fun _ s₆ h₆ => wpAny_pure (wpAny_pure ⟨rfl, h₆⟩)) fun _ _ h' => h'.elim)) fun _ _ h' => h'.elim))

/-- an iterator stands over the data ds: for a comprehension, in which all that stood stands -/
noncomputable def IterAtC (hT : Heap) (prog : Program) (w : World) (c : Cx) (g : Fz) (μ : Store) (h : Heap) (I : Addr) (ds : List AV) : Prop :=
  ∃ fp P St, Wk prog w c.A I fp ds.length P St ∧ St 0 h ∧ I ∉ dom c μ ∧ g I = none ∧ (∀ p ∈ c.ro, I ∉ footOf p) ∧ (∀ b ∈ fp, b = I ∨ ∃ o, h.get? b = some o) ∧ ∀ i v, i < ds.length → P i v → ∃ d, ds[i]? = some d ∧ Rd g v d
noncomputable def EvItC (hT : Heap) (prog : Program) (w : World) (c : Cx) (iter : Expr) (ν : Loc) (μ : Store) (k : List AV → Loc → Store → Prop) : Prop :=
  ∀ g s (Q : Value → Shared → Prop), R hT c g ν μ s →
    (∀ g' s₁ s' I ds ν' μ', Ext (dom c μ) (dom c μ') s s₁ g g' → R hT c g' ν' μ' s₁ → Kept s₁ s' → s₁.heap.get? I = none → IterAtC hT prog w c g' μ' s'.heap I ds → k ds ν' μ' → Q (.ref I) s') →
    wpAny (model prog w) c.A (eval iter c.env) (fun x s₁ => wpAny (model prog w) c.A (pyIter x) Q (fun _ _ => False) s₁) (fun _ _ => False) s
theorem EvItC.of {iter : Expr} {k : Kt (List AV)} (h : EvIt hT prog w c iter ν μ k) : EvItC hT prog w c iter ν μ k :=
  fun g s Q r hQ => h g s Q r fun g' s₁ s' I ds ν' μ' e r' kp hI ⟨fp, P, St, wk, st, a1, a2, a3, a4, a5⟩ hk => hQ g' s₁ s' I ds ν' μ' e r' kp hI
    ⟨fp, P, St, wk, st, a1, a2, a3, fun b hb => (a4 b hb).imp id fun ⟨o, ho⟩ => ⟨o, (r'.kept kp).sub _ _ ho⟩, a5⟩ hk
/-- over a list of the store -/
theorem EvItC.cell {iter : Expr} {k : Kt (List AV)} (h : EvE hT prog w c iter ν μ fun d ν₁ μ₁ => ∃ a l, d = .ref a ∧ ((a, MO.list l) ∈ μ₁ ∨ (a, MO.list l) ∈ c.ro) ∧ k l ν₁ μ₁) : EvItC hT prog w c iter ν μ k := by
  intro g s Q r hQ
  refine h g s _ r fun g₁ s₁ v d ν₁ μ₁ e₁ r₁ rd k₁ => ?_
  obtain ⟨a, l, rfl, hm, k₁⟩ := k₁
  obtain rfl := rd.ref_inv
  have H : Holds g₁ s₁.heap a (.list l) := hm.elim (fun q => r₁.hold _ q) fun q => (r₁.ro _ q).1
  obtain ⟨vs, ⟨n, ho⟩, rs⟩ := H
  have hh := r₁.room.1
  have ap := new_apart r₁ (size_none s₁.heap)
  have ht : s₁.heap.IsList a vs.toArray := ⟨_, ho, rfl, _, rfl⟩
  have hne : a ≠ s₁.heap.objs.size := Nat.ne_of_lt (Heap.lt_size ho)
  have wk := wk_list (prog := prog) (w := w) hh s₁.heap.objs.size a hne vs.toArray
  rw [show vs.toArray.size = l.length by simp [rs.length]] at wk
  have st : (s₁.heap.push { cls := .type "list_iterator", data := .fields #[.ref a, .int 0 0] }).IsListIter s₁.heap.objs.size a 0 := ⟨_, Heap.get?_push_size _ rfl, rfl, rfl⟩
  have st2 : (s₁.heap.push { cls := .type "list_iterator", data := .fields #[.ref a, .int 0 0] }).IsList a vs.toArray := let ⟨ob, h1, h2⟩ := ht; ⟨ob, Heap.get?_push_of_some _ h1, h2⟩
  refine wpAny_pyIter_list ht (hQ g₁ s₁ _ _ l ν₁ μ₁ e₁ r₁ (Kept.push _ _) (size_none _) ⟨_, _, _, wk, ⟨st, st2⟩, ap.1, ap.2.1, ap.2.2, ?_, ?_⟩ k₁)
  · intro b hb
    simp at hb
    rcases hb with rfl | rfl
    · exact .inl rfl
    · exact .inr ⟨_, Heap.get?_push_of_some _ ho⟩
  · intro i v hi hv
    have hv' : vs[i]? = some v := by simpa using hv
    obtain ⟨v', h1, h2⟩ := rs.get (i := i) (d := l[i]) (by simp [hi])
    rw [hv'] at h1; cases h1
    exact ⟨_, by simp [hi], h2⟩
/-- what the comprehension leaves: a frozen list, all that stood stands -/
theorem comp_core {elt target iter : Expr} {ifs : List Expr} {scope : Scope} {cl : List (Str × Addr)} {pos : Pos} {kl : List AV → Prop} {ds : List AV} {g : Fz} {s₁ s₂ : Shared} {I : Addr} {RR : Value → Addr → Result → Shared → Prop}
    (r : R hT c g ν μ s₁) (kp : Kept s₁ s₂) (hI : s₁.heap.get? I = none) (ia : IterAtC hT prog w c g μ s₂.heap I ds) (hz : ds.length ≤ 1000)
    (hcell : ∀ y ∈ scope.names, y.2 ≠ .cell) (hkind : scope.kind = .function)
    (h : ∀ C D, CompL hT prog w ⟨c.A, compEnvC scope cl C c.env, c.ro ++ μ, c.n⟩ target ifs elt D ds (fun _ => none) [] kl)
    (fin : ∀ g' h' tk D C m l, h'.Ns C m → s₁.heap.get? C = none → C ∉ dom c μ → g' C = none → (∀ p ∈ c.ro, C ∉ footOf p) → R hT c g' ν μ { s₂ with heap := h', toks := tk } → Ext (dom c μ) (dom c μ) s₁ { s₂ with heap := h', toks := tk } g g' →
      Rd g' (.ref D) (.lst l) → kl l → RR (.ref D) C (.ok .next) { s₂ with heap := h', toks := tk })
    : wpAny (model prog w) c.A (newList []) (fun acc s₃ => wpAny (model prog w) c.A (newFunctionEnv scope c.env.globals cl [] c.env.qual none .none (some c.env)) (fun cenv s₄ =>
      codeAny (model prog w) c.A (.compStart (.ListComp elt [⟨target, iter, ifs, 0⟩] scope pos) 0 (.ref I) acc { cenv with scope := relabel scope c.env }) (RR acc cenv.locals) s₄) (fun _ _ => False) s₃) (fun _ _ => False) s₂ := by
  obtain ⟨fp, P, St, wk, st, hId, gI, hro, hfp, hP⟩ := ia
  refine wpAny_newObj_type (wpAny_newFunctionEnv hcell (by intro y hy; simp at hy) (fun h₁ hns₁ hsb₁ => ?_) hkind)
  dsimp only at hns₁ hsb₁ ⊢
  have r₂ := r.kept kp
  generalize hH2 : s₂.heap.push { cls := .type "list", dict := none, data := .seq ([] : List Value).toArray } = H2 at hns₁ hsb₁ ⊢
  generalize hD : s₂.heap.objs.size = D at *
  generalize hC : H2.objs.size = C at *
  have hDn : s₂.heap.get? D = none := hD ▸ size_none _
  have hH2D : H2.get? D = some { cls := .type "list", dict := none, data := .seq ([] : List Value).toArray } := by rw [← hH2, ← hD]; exact Heap.get?_push_size _ rfl
  have k2 : ∀ b o, s₂.heap.get? b = some o → H2.get? b = some o := fun b o e => by rw [← hH2]; exact Heap.get?_push_of_some _ e
  have hCn : H2.get? C = none := hC ▸ size_none _
  have hDC : D ≠ C := fun q => by rw [q, hCn] at hH2D; cases hH2D
  have k3 : ∀ b o, H2.get? b = some o → h₁.get? b = some o := fun b o e => hsb₁.extBut b o (fun q => by rw [q, hCn] at e; cases e) (Heap.get?_push_of_some _ e)
  have k4 : ∀ b o, s₂.heap.get? b = some o → h₁.get? b = some o := fun b o e => k3 b o (k2 b o e)
  have hC2 : s₂.heap.get? C = none := by
    cases q : s₂.heap.get? C with
    | none => rfl
    | some o => have := k2 _ _ q; rw [hCn] at this; cases this
  have back : ∀ a, s₂.heap.get? a = none → s₁.heap.get? a = none := fun a e => by
    obtain ⟨hh, tk, q, k⟩ := kp
    cases q1 : s₁.heap.get? a with
    | none => rfl
    | some o => have := k a o q1; rw [q] at e; rw [this] at e; cases e
  have apD := new_apart r₂ hDn
  have apC := new_apart r₂ hC2
  -- the inner frame
  have hIlive : ∃ o, s₂.heap.get? I = some o := let ⟨o, T, ho, _⟩ := wk.live _ _ st; ⟨o, ho⟩
  have hID : I ≠ D := fun q => by obtain ⟨o, ho⟩ := hIlive; rw [q, hDn] at ho; cases ho
  have hIC : I ≠ C := fun q => by obtain ⟨o, ho⟩ := hIlive; rw [q, hC2] at ho; cases ho
  have loop : codeAny (model prog w) c.A (.compLoop (.ListComp elt [⟨target, iter, ifs, 0⟩] scope pos) 0 (.ref I) (.ref D) (compEnvC scope cl C c.env)) (RR (.ref D) C) { s₂ with heap := h₁, toks := s₂.toks + ([] : List (Str × Value)).length } := by
    let c' : Cx := ⟨c.A, compEnvC scope cl C c.env, c.ro ++ μ, c.n⟩
    have hdom : ∀ acc : List AV, dom c' [(D, .list acc)] = [C, D] := fun acc => rfl
    have rofoot : ∀ p ∈ c.ro ++ μ, Holds g s₂.heap p.1 p.2 ∧ ∀ b ∈ footOf p, b ≠ C ∧ b ≠ D ∧ b ≠ I := by
      intro p hp
      rcases List.mem_append.mp hp with h' | h'
      · exact ⟨(r₂.ro p h').1, fun b hb => ⟨fun q => apC.2.2 p h' (q ▸ hb), fun q => apD.2.2 p h' (q ▸ hb), fun q => hro p h' (q ▸ hb)⟩⟩
      · exact ⟨r₂.hold p h', fun b hb => ⟨fun q => apC.1 (q ▸ .tail _ (foot_in h' b hb)), fun q => apD.1 (q ▸ .tail _ (foot_in h' b hb)), fun q => hId (q ▸ .tail _ (foot_in h' b hb))⟩⟩
    have rin : R hT c' g (fun _ => none) [(D, .list [])] { s₂ with heap := h₁, toks := s₂.toks + ([] : List (Str × Value)).length } := by
      refine ⟨fun a o e => k4 a o (r₂.sub a o e), r₂.top, ⟨_, hns₁, fun x d e => by cases e⟩, fun p hp => ?_, ?_, fun a ha => ?_, fun p hp => ⟨(rofoot p hp).1.at (Le.refl g) fun b hb o e => k4 b o e, fun b hb hm => ?_⟩, r₂.room⟩
      · rw [List.mem_singleton.mp hp]
        exact ⟨[], ⟨_, k3 _ _ hH2D⟩, .nil⟩
      · rw [hdom]
        exact List.nodup_cons.mpr ⟨by simpa using fun q => hDC q.symm, List.nodup_cons.mpr ⟨by simp, List.nodup_nil⟩⟩
      · rw [hdom] at ha
        simp at ha
        rcases ha with rfl | rfl
        · exact apC.2.1
        · exact apD.2.1
      · rw [hdom] at hm
        simp at hm
        rcases hm with q | q
        · exact ((rofoot p hp).2 b hb).1 q
        · exact ((rofoot p hp).2 b hb).2.1 q
    have st₁ : St 0 h₁ := wk.W.frame _ _ _ st fun b _ o e => k4 b o e
    refine codeAny_compLoopO (fun m s' => ∃ i νi gi acc, i ≤ ds.length ∧ m = ds.length + 1 - i ∧ acc.length ≤ i ∧ R hT c' gi νi [(D, .list acc)] s' ∧ Le g gi ∧ (∀ a o, gi a = some o → (∃ o, g a = some o) ∨ s₂.heap.get? a = none) ∧ (∀ b o, b ≠ I → s₂.heap.get? b = some o → s'.heap.get? b = some o) ∧ (∃ hh tk, s' = { s₂ with heap := hh, toks := tk }) ∧
        St i s'.heap ∧ gi I = none ∧ CompL hT prog w c' target ifs elt D (ds.drop i) νi acc kl) ?_ (ds.length + 1)
      ⟨0, _, g, [], Nat.zero_le _, rfl, Nat.le_refl _, rin, Le.refl g, fun a o e => .inl ⟨o, e⟩, fun b o _ e => k4 b o e, ⟨_, _, rfl⟩, st₁, gI, by simpa using h C D⟩
    rintro m s' ⟨i, νi, gi, acc, hi, rfl, hacc, ri, lei, newi, ki, samei, sti, gIi, cl'⟩
    have hIi : I ∉ dom c' [(D, .list acc)] := by rw [hdom]; simpa using ⟨hIC, hID⟩
    have hroi : ∀ p ∈ c'.ro, I ∉ footOf p := fun p hp q => ((rofoot p hp).2 I q).2.2 rfl
    by_cases hlt : i < ds.length
    · refine wk.W.item i s' _ _ hlt sti fun v h' tk hPv st' hk => ?_
      have rm := ri.moved (tk := tk) hIi gIi hroi hk
      obtain ⟨o, T, ho, hc, hT'⟩ := wk.live _ _ st'
      refine own_go ho hc hT' ?_
      obtain ⟨d, hd, rd⟩ := hP i v hlt hPv
      have hdrop : ds.drop i = d :: ds.drop (i + 1) := by
        rw [List.drop_eq_getElem_cons hlt]
        rw [List.getElem?_eq_getElem hlt] at hd
        cases hd; rfl
      rw [hdrop] at cl'
      have km : ∀ b o, b ≠ I → s₂.heap.get? b = some o → h'.get? b = some o := fun b o hb e => hk b o (by simpa using hb) (ki b o hb e)
      -- what any later state keeps
      have step : ∀ {s'' : Shared} {g'' : Fz} {acc' : List AV}, Ext (dom c' [(D, .list acc)]) (dom c' [(D, .list acc')]) { s' with heap := h', toks := tk } s'' gi g'' →
          Le g g'' ∧ (∀ a o, g'' a = some o → (∃ o, g a = some o) ∨ s₂.heap.get? a = none) ∧ (∀ b o, b ≠ I → s₂.heap.get? b = some o → s''.heap.get? b = some o) ∧ (∃ hh tk, s'' = { s₂ with heap := hh, toks := tk }) ∧ g'' I = none ∧ (∀ o, h'.get? I = some o → s''.heap.get? I = some o) := by
        intro s'' g'' acc' e
        refine ⟨lei.trans e.le, fun a ob ha => ?_, fun b ob hb ho' => ?_, ?_, ?_, fun ob e' => e.keep _ _ e' hIi⟩
        · rcases e.new a ob ha with ⟨o', q⟩ | q | q
          · exact newi a o' q
          · rw [hdom] at q
            simp at q
            rcases q with rfl | rfl
            · exact .inr hC2
            · exact .inr hDn
          · refine .inr ?_
            by_cases hb : a = I
            · subst hb
              have : h'.get? a = none := q
              rw [ho] at this; cases this
            · cases q2 : s₂.heap.get? a with
              | none => rfl
              | some o' => have := km a o' hb q2; have q' : h'.get? a = none := q; rw [this] at q'; cases q'
        · refine e.keep b ob (km b ob hb ho') fun q => ?_
          rw [hdom] at q
          simp at q
          rcases q with rfl | rfl
          · rw [hC2] at ho'; cases ho'
          · rw [hDn] at ho'; cases ho'
        · obtain ⟨hh, t, q⟩ := e.same
          obtain ⟨hh', t', q'⟩ := samei
          exact ⟨hh, t, by rw [q, q']⟩
        · cases q : g'' I with
          | none => rfl
          | some ob =>
            rcases e.new I ob q with ⟨o', q⟩ | q | q
            · rw [gIi] at q; cases q
            · exact absurd q hIi
            · have : h'.get? I = none := q
              rw [ho] at this; cases this
      have stf : ∀ {s'' : Shared} {g'' : Fz} {ν'' : Loc} {μ'' : Store}, Le gi g'' → R hT c' g'' ν'' μ'' s'' → (∀ o, h'.get? I = some o → s''.heap.get? I = some o) → (∀ b o, b ≠ I → s₂.heap.get? b = some o → s''.heap.get? b = some o) → St (i + 1) s''.heap := by
        intro s'' g'' ν'' μ'' l r'' kI kall
        refine wk.W.frame _ _ _ st' fun b hb ob e => ?_
        by_cases hbI : b = I
        · subst hbI; exact kI _ e
        · obtain ⟨o', hg⟩ := (hfp b hb).resolve_left hbI
          have e' : h'.get? b = some o' := km b o' hbI hg
          rw [e] at e'; cases e'; exact kall b _ hbI hg
      refine cl' gi _ _ v rm (rd.mono lei) fun g₃ s₃ _ _ ν₃ μ₃ e₃ r₃ _ k₃ => ?_
      obtain ⟨rfl, k₃⟩ := k₃
      refine k₃ g₃ s₃ _ r₃ fun g₄ s₄ ok b ν₄ μ₄ e₄ r₄ rl k₄ => ?_
      obtain ⟨rfl, k₄⟩ := k₄
      cases rl
      cases ok with
      | false =>
        rw [if_neg (by simp)]
        have e := e₃.trans e₄
        obtain ⟨a1, a2, a3, a4, a5, a6⟩ := step e
        exact ⟨ds.length + 1 - (i + 1), by omega, i + 1, ν₄, g₄, acc, hlt, rfl, by omega, r₄, a1, a2, a3, a4, stf e.le r₄ a6 a3, a5, k₄.2 rfl⟩
      | true =>
        rw [if_pos rfl]
        refine k₄.1 rfl g₄ s₄ _ r₄ fun g₅ s₅ x y ν₅ μ₅ e₅ r₅ rd₅ k₅ => ?_
        obtain ⟨rfl, k₅⟩ := k₅
        obtain ⟨ys, hl, rs⟩ := r₅.hold _ (.head _)
        have hys : ys.length = acc.length := rs.length
        refine wpAny_list_append_plain hl (fun h₆ hl₆ hs₆ => ?_) (by rw [List.size_toArray, sizeLine_eq]; omega)
        have e := (e₃.trans e₄).trans e₅
        have hoff := r₅.off
        rw [hdom] at hoff
        have r₆ : R hT c' g₅ ν₅ [(D, .list (acc ++ [y]))] { s₅ with heap := h₆ } := by
          have ex : ∀ b o, b ≠ D → s₅.heap.get? b = some o → h₆.get? b = some o := fun b o hb e' => (hs₆.2 b hb).trans e'
          refine ⟨fun a o e' => ex a o (fun q => by rw [q, hoff D (by simp)] at e'; cases e') (r₅.sub a o e'), r₅.top, let ⟨mm, q1, q2⟩ := r₅.ns; ⟨mm, q1.at' fun o e' => ex _ o (Ne.symm hDC) e', q2⟩, fun p hp => ?_, by rw [hdom]; exact (hdom acc) ▸ r₅.apart, fun a ha => hoff a (by rw [hdom] at ha; exact ha),
            fun p hp => ⟨(r₅.ro p hp).1.at (Le.refl _) fun b hb o e' => ex b o ((rofoot p hp).2 b hb).2.1 e', fun b hb hm => (r₅.ro p hp).2 b hb (by rw [hdom] at hm ⊢; exact hm)⟩, r₅.room⟩
          rw [List.mem_singleton.mp hp]
          exact ⟨ys ++ [x], by simpa using hl₆, rs.append (.cons rd₅ .nil)⟩
        obtain ⟨a1, a2, a3, a4, a5, a6⟩ := step e
        have exI : ∀ b o, b ≠ D → s₅.heap.get? b = some o → h₆.get? b = some o := fun b o hb e' => (hs₆.2 b hb).trans e'
        exact ⟨ds.length + 1 - (i + 1), by omega, i + 1, ν₅, g₅, acc ++ [y], hlt, rfl, by simp; omega, r₆, a1, a2, fun b o hb e' => exI b o (fun q => by rw [q, hDn] at e'; cases e') (a3 b o hb e'), let ⟨hh, t, q⟩ := a4; ⟨h₆, t, by rw [q]⟩,
          stf e.le r₆ (fun o e' => exI I o hID (a6 o e')) (fun b o hb e' => exI b o (fun q => by rw [q, hDn] at e'; cases e') (a3 b o hb e')), a5, k₅⟩
    · have hin : i = ds.length := by omega
      subst hin
      refine wk.W.done s' _ _ sti fun h' tk hk => ?_
      rw [List.drop_length] at cl'
      have rm := ri.moved (tk := tk) hIi gIi hroi hk
      obtain ⟨o, rf, ef, rdf⟩ := rm.freeze
      obtain ⟨hh, t, q⟩ := samei
      have kept : ∀ b o, s₁.heap.get? b = some o → h'.get? b = some o := fun b o e => by
        have hb : b ≠ I := fun q => by rw [q, hI] at e; cases e
        refine hk b o (by simpa using hb) (ki b o hb ?_)
        obtain ⟨h2, t2, q2, k⟩ := kp
        rw [q2]; exact k b o e
      obtain ⟨m, hm, _⟩ := rm.ns
      have kp' : Kept s₁ { s₂ with heap := h', toks := tk } := by
        obtain ⟨h2, t2, q2, k⟩ := kp
        exact ⟨h', tk, by rw [q2], kept⟩
      have newf : ∀ a ob, put gi D o a = some ob → (∃ o, g a = some o) ∨ s₁.heap.get? a = none := fun a ob e => by
        unfold put at e
        by_cases qa : a = D
        · exact .inr (back _ (qa ▸ hDn))
        · rw [if_neg qa] at e
          exact (newi a ob e).imp id (back a)
      obtain ⟨rg, eg⟩ := r.grow kp' (lei.trans ef.le) (fun a ob e => rf.sub a ob e) newf
      have res := fin (put gi D o) h' tk D C m acc hm (back _ hC2) apC.1 (by
        cases q3 : put gi D o C with
        | none => rfl
        | some ob =>
          unfold put at q3
          rw [if_neg (Ne.symm hDC)] at q3
          have := ri.off C (by rw [hdom]; simp)
          rw [this] at q3; cases q3) apC.2.2 rg eg rdf cl'
      rw [q]
      exact res
  exact codeAny_compStart_list loop (wk.W.self 0 _ _ _ (wk.W.frame _ _ _ st fun b _ o e => k4 b o e) loop)

theorem EvE.comp {elt target iter : Expr} {ifs : List Expr} {scope : Scope} {cl : List (Str × Addr)} {pos : Pos} {k : Kt AV}
    (h : EvItC hT prog w c iter ν μ fun ds ν₁ μ₁ => ds.length ≤ 1000 ∧ ∀ C D, CompL hT prog w ⟨c.A, compEnvC scope cl C c.env, c.ro ++ μ₁, c.n⟩ target ifs elt D ds (fun _ => Option.none) [] fun l => k (.lst l) ν₁ μ₁)
    (hclos : closureFor scope c.env = pure cl) (hs : ∀ x, foldedSetIterable iter c.env x = pure x) (hcell : ∀ y ∈ scope.names, y.2 ≠ .cell) (hkind : scope.kind = .function) (hnames : ∀ y ∈ scope.names, y.2 = .local → scope.names.lookup y.1 = some .local) :
    EvE hT prog w c (.ListComp elt [⟨target, iter, ifs, 0⟩] scope pos) ν μ k := by
  intro g s Q r hQ
  show wpAny _ _ (eval (.ListComp elt [⟨target, iter, ifs, 0⟩] scope pos) c.env) _ _ _
  rw [eval_ListComp]
  refine wpAny_comprehension_free (use := Option.none) (g := ⟨target, iter, ifs, 0⟩) (gs := []) rfl hs hclos hkind hnames (h g s _ r fun g₁ s₁ s₂ I ds ν₁ μ₁ e₁ r₁ kp hI ia k₁ => ?_)
  refine comp_core (RR := fun acc C => compPost (model prog w) c.A (fun _ _ => False) Option.none Q acc C) r₁ kp hI ia k₁.1 hcell hkind k₁.2 fun g' h' tk D C m l hm hC1 hC2 hC3 hC4 rg eg rd kk => ?_
  refine ⟨m, hm, fun h'' hs'' => ?_⟩
  have kC : ∀ b o, b ∉ [C] → ({ s₂ with heap := h', toks := tk } : Shared).heap.get? b = some o → h''.get? b = some o := fun b o hb e => (hs''.2 b (by simpa using hb)).trans e
  have rm := rg.moved (tk := tk) hC2 hC3 hC4 kC
  refine hQ g' _ _ _ ν₁ μ₁ (e₁.trans ⟨eg.le, eg.new, fun a o e hn => ?_, eg.dom, let ⟨hh, t, q⟩ := eg.same; ⟨h'', tk, ?_⟩⟩) rm rd kk
  · exact kC a o (by simp; rintro rfl; rw [hC1] at e; cases e) (eg.keep a o e hn)
  · obtain ⟨hh2, tk2, q2, _⟩ := kp
    rw [q2]

theorem EvS.assignComp {x : Str} {pos' : Pos} {elt target iter : Expr} {ifs : List Expr} {scope : Scope} {cl : List (Str × Addr)} {pos spos : Pos} {k : Kt Fl}
    (hsw : swapsWith (.ListComp elt [⟨target, iter, ifs, 0⟩] scope pos) (some (.Name x pos')) spos.line c.env = pure true)
    (h : EvItC hT prog w c iter ν μ fun ds ν₁ μ₁ => ds.length ≤ 1000 ∧ ∀ C D, CompL hT prog w ⟨c.A, compEnvC scope cl C c.env, c.ro ++ μ₁, c.n⟩ target ifs elt D ds (fun _ => Option.none) [] fun l => k .next (upd ν₁ x (.lst l)) μ₁)
    (hclos : closureFor scope c.env = pure cl) (hs : ∀ x, foldedSetIterable iter c.env x = pure x) (hcell : ∀ y ∈ scope.names, y.2 ≠ .cell) (hkind : scope.kind = .function) (hnames : ∀ y ∈ scope.names, y.2 = .local → scope.names.lookup y.1 = some .local)
    (hl : c.env.kindOf x = some .local) (hk : c.env.scope.kind = .function) :
    EvS hT prog w c (.Assign [.Name x pos'] (.ListComp elt [⟨target, iter, ifs, 0⟩] scope pos) spos) ν μ k := by
  intro g s Q r hQ
  show wpAny _ _ (exec (.Assign [.Name x pos'] (.ListComp elt [⟨target, iter, ifs, 0⟩] scope pos) spos) c.env) _ _ _
  rw [exec_Assign_Name_used _ _ _ _ hsw]
  refine wpAny_bind (wpAny_standAt (wpAny_bind ?_))
  show wpAny _ _ (evalThenUse (.ListComp elt [⟨target, iter, ifs, 0⟩] scope pos) c.env (PySem.assign (.Name x pos') c.env)) _ _ _
  show wpAny _ _ (do
    let _ ← comprehension (.ListComp elt [⟨target, iter, ifs, 0⟩] scope pos) scope c.env (firstIterPos [⟨target, iter, ifs, 0⟩] pos) (newList []) (firstAsync [⟨target, iter, ifs, 0⟩]) (firstIter [⟨target, iter, ifs, 0⟩] c.env) (some (PySem.assign (.Name x pos') c.env))) _ _ _
  refine wpAny_bind (wpAny_comprehension_free (use := some (PySem.assign (.Name x pos') c.env)) (g := ⟨target, iter, ifs, 0⟩) (gs := []) rfl hs hclos hkind hnames (h g s _ r fun g₁ s₁ s₂ I ds ν₁ μ₁ e₁ r₁ kp hI ia k₁ => ?_))
  refine comp_core (RR := fun acc C => compPost (model prog w) c.A (fun _ _ => False) (some (PySem.assign (.Name x pos') c.env)) _ acc C) r₁ kp hI ia k₁.1 hcell hkind k₁.2 fun g' h' tk D C m l hm hC1 hC2 hC3 hC4 rg eg rd kk => ?_
  have hLC : C ≠ c.env.locals := fun q => hC2 (q ▸ .head _)
  refine wpAny_assign_Name (by
    obtain ⟨mo, hmo, hll⟩ := rg.ns
    refine wpAny_storeName_local hl hmo (fun h₂ hn₂ hs₂ => ?_) (by rw [hk]; rfl)
    obtain ⟨r₂, e₂⟩ := rg.store (tk := tk + 1) hll hn₂ hs₂ rd
    refine ⟨m, hm.sameBut hs₂ hLC, fun h'' hs'' => wpAny_pure (wpAny_pure ?_)⟩
    have kC : ∀ b o, b ∉ [C] → ({ s₂ with heap := h₂, toks := tk + 1 } : Shared).heap.get? b = some o → h''.get? b = some o := fun b o hb e => (hs''.2 b (by simpa using hb)).trans e
    have rm := R.moved (tk := tk + 1) r₂ hC2 hC3 hC4 kC
    have et := eg.trans e₂
    refine hQ g' _ _ _ _ μ₁ (e₁.trans ⟨et.le, et.new, fun a o e hn => ?_, et.dom, let ⟨hh, t, q⟩ := et.same; ⟨h'', tk + 1, ?_⟩⟩) rm .next kk
    · exact kC a o (by simp; rintro rfl; rw [hC1] at e; cases e) (et.keep a o e hn)
    · obtain ⟨hh2, tk2, q2, _⟩ := kp
      rw [q2])
end
/-! Inst -/
section
variable {hT : Heap} {prog : Program} {w : World} {K : Frag} {c : Cx} {ν : Loc} {μ : Store} {α β : Type}

theorem Ents.get {g : Fz} {name : Str} : ∀ {es : List DictEntry} {fs : List (Str × AV)}, Ents g es fs → match fs.lookup name with
    | some d => ∃ v, getL name es = some (some v) ∧ Rd g v d
    | Option.none => getL name es = some Option.none
  | _, _, .nil => rfl
  | _, _, .cons (x := x) (v := v) (d := d) (es := es) (fs := fs) rd r => by
    have ih := Ents.get (name := name) r
    have hx : (Value.str x ‹Tok›).isStr name = (name == x) := by
      show (x == name) = (name == x)
      exact BEq.comm
    by_cases q : (name == x) = true
    · simp only [List.lookup_cons, q]
      refine ⟨v, ?_, rd⟩
      unfold getL
      rw [List.find?_cons]
      dsimp only
      rw [hx, q]
    · have q' : (name == x) = false := by simpa using q
      simp only [List.lookup_cons, q']
      have e : getL name (⟨‹Int›, .str x ‹Tok›, v⟩ :: es) = getL name es := by
        unfold getL
        rw [List.find?_cons]
        dsimp only
        rw [hx, q']
        simp [List.any_cons, DictEntry.refKey]
      rw [e]
      exact ih
noncomputable def setf (name : Str) (d : AV) : List (Str × AV) → List (Str × AV)
  | [] => [(name, d)]
  | (x, e) :: r => if x == name then (x, d) :: r else (x, e) :: setf name d r
theorem Ents.put {g : Fz} {name : Str} {hsh : Int} {t : Tok} {v : Value} {d : AV} (rd : Rd g v d) : ∀ {es : List DictEntry} {fs : List (Str × AV)}, Ents g es fs → Ents g (putL name hsh (.str name t) v es) (setf name d fs)
  | _, _, .nil => .cons rd .nil
  | _, _, .cons (x := x) (t := u) (hs := hs) (v := v') (es := es) rd' r => by
    unfold putL setf
    show Ents g (if (x == name) = true then _ else _) _
    by_cases q : (x == name) = true
    · rw [if_pos q, if_pos q]; exact .cons rd r
    · rw [if_neg q, if_neg q]; exact .cons rd' (Ents.put rd r)
theorem Ents.length {g : Fz} : ∀ {es : List DictEntry} {fs : List (Str × AV)}, Ents g es fs → es.length = fs.length
  | _, _, .nil => rfl
  | _, _, .cons _ r => congrArg (· + 1) r.length
theorem inst_of {g : Fz} {h : Heap} {x C dx : Addr} {fs : List (Str × AV)} (H : Holds g h x (.inst C dx fs)) : ∃ es n, InstAt h x (instObj C dx) C (some (dictOf es n)) ∧ Ents g es fs ∧ h.get? dx = some (dictOf es n) := by
  obtain ⟨es, n, h1, h2, r⟩ := H
  exact ⟨es, n, ⟨h1, rfl, rfl, h2⟩, r, h2⟩
theorem handed {g : Fz} {v : Value} {d : AV} (r : Rd g v d) : handedIn v = true := by cases r <;> rfl

/-- an attribute of an object of the store -/
theorem EvE.attr {value : Expr} {name : Str} {pos : Pos} {k : Kt AV} (W : Wd hT K)
    (h : EvE hT prog w c value ν μ fun d ν₁ μ₁ => ∃ a C dx fs e, d = .ref a ∧ ((a, MO.inst C dx fs) ∈ μ₁ ∨ (a, MO.inst C dx fs) ∈ c.ro) ∧ fs.lookup name = some e ∧ plainGet K C name = true ∧ hasDictIn K C = true ∧ findIn K (.ref C) name = some Option.none ∧ k e ν₁ μ₁)
    (he : eval (.Attribute value name pos) c.env = (do
      let o ← eval value c.env
      standAt pos.atName
      let r ← holding [o] (getAttr o name true)
      letTemporaryGo value o r
      pure r)) : EvE hT prog w c (.Attribute value name pos) ν μ k :=
  fun g s Q r hQ => Attribute_any_ (h g s _ r fun g₁ s₁ v d ν₁ μ₁ e₁ r₁ rd k₁ => by
    obtain ⟨a, C, dx, fs, e, rfl, hm, hf, hg, hh, ha, k₁⟩ := k₁
    obtain rfl := rd.ref_inv
    have H : Holds g₁ s₁.heap a (.inst C dx fs) := hm.elim (fun q => r₁.hold _ q) fun q => (r₁.ro _ q).1
    obtain ⟨es, n, I, hr, -⟩ := inst_of H
    have q := hr.get (name := name)
    rw [hf] at q
    obtain ⟨v', hv', rd'⟩ := q
    refine get_value (W.at r₁) I (plainGet_of hg).1 (findObj_own (attr := Option.none) hh ha rfl (by rw [lookIn_dict, hv'])) (handed rd') ?_
    exact hQ g₁ _ _ _ ν₁ μ₁ (e₁.trans (Ext.toks _)) (r₁.toks _) rd' k₁) he

/-- a call of a method of an object of the store -/
noncomputable def MethOn (K : Frag) (c : Cx) (name : Str) (d : AV) (μ : Store) (a f : Addr) : Prop :=
  ∃ C dx fs, d = .ref a ∧ ((a, MO.inst C dx fs) ∈ μ ∨ (a, MO.inst C dx fs) ∈ c.ro) ∧ fs.lookup name = Option.none ∧ plainGet K C name = true ∧ findIn K (.ref C) name = some (some (.ref f)) ∧ isFn K (.ref f) = true ∧ keepIn K (.ref f) = true
theorem meth_get {g : Fz} {s : Shared} {name : Str} {d : AV} {a f : Addr} {v : Value} {pl : Sem Bool} {Q : Value × List Value → Shared → Prop} (W : Wd hT K) (r : R hT c g ν μ s) (rd : Rd g v d) (h : MethOn K c name d μ a f) (q : v = .ref a → Q (.ref f, [.ref a]) s) :
    wpAny (model prog w) c.A (getMethod v name pl) Q (fun _ _ => False) s := by
  obtain ⟨C, dx, fs, rfl, hm, hf, hg, hfn, hi, hkp⟩ := h
  obtain rfl := rd.ref_inv
  have H : Holds g s.heap a (.inst C dx fs) := hm.elim (fun q => r.hold _ q) fun q => (r.ro _ q).1
  obtain ⟨es, n, I, hr, -⟩ := inst_of H
  have q' := hr.get (name := name)
  rw [hf] at q'
  exact method_fn (W.at r) I (plainGet_of hg).1 (plainGet_of hg).2 hfn (beq_iff_eq.mp hi) (by show (lookIn name (dictOf es n)).map _ = _; rw [lookIn_dict, q']; rfl) (q rfl)
theorem EvE.meth0 {o : Expr} {name : Str} {apos pos : Pos} {k : Kt AV} (W : Wd hT K)
    (h : EvE hT prog w c o ν μ fun d ν₁ μ₁ => ∃ a f, MethOn K c name d μ₁ a f ∧ EvL hT prog w c (fun vs => call (.ref f) vs) Rd [.ref a] ν₁ μ₁ k)
    (he : eval (.Call (.Attribute o name apos) [] [] pos) c.env = (do
      let ov ← eval o c.env
      standAt apos.atName
      let (f, first) ← holding [ov] (getMethod ov name (do return (← importBound o c.env).getD true))
      callWith pos f first (backTo pos (starEach [] c.env)) [])) : EvE hT prog w c (.Call (.Attribute o name apos) [] [] pos) ν μ k :=
  fun g s Q r hQ => MethodCall_ (h g s _ r fun g₁ s₁ v d ν₁ μ₁ e₁ r₁ rd k₁ => by
    obtain ⟨a, f, hm, k₁⟩ := k₁
    have hkp := hm
    obtain ⟨C, dx, fs, hd, _, _, _, _, _, hkp⟩ := hkp
    refine meth_get W r₁ rd hm fun _ => ?_
    exact callWith_K0 (W.at r₁) hkp (k₁ g₁ s₁ Q _ r₁ (.cons (.ref a) .nil) fun g₃ s₃ x y ν₃ μ₃ e₃ r₃ rl k₃ => hQ g₃ s₃ x y ν₃ μ₃ (e₁.trans e₃) r₃ rl k₃)) he
theorem EvE.meth {o e : Expr} {es : List Expr} {name : Str} {apos pos : Pos} {k : Kt AV} (W : Wd hT K)
    (h : EvE hT prog w c o ν μ fun d ν₁ μ₁ => ∃ a f, MethOn K c name d μ₁ a f ∧ EvAs hT prog w c pos (e :: es) ν₁ μ₁ fun ds ν₂ μ₂ => EvL hT prog w c (fun vs => call (.ref f) vs) Rd (.ref a :: ds) ν₂ μ₂ k)
    (he : eval (.Call (.Attribute o name apos) (e :: es) [] pos) c.env = (do
      let ov ← eval o c.env
      standAt apos.atName
      let (f, first) ← holding [ov] (getMethod ov name (do return (← importBound o c.env).getD true))
      callWith pos f first (backTo pos (starEach (e :: es) c.env)) []))
    (h1 : starEach (e :: es) c.env = (false, eval e c.env) :: starEach es c.env) (h2 : (backTo pos (starEach es c.env)).any (·.1) = false) : EvE hT prog w c (.Call (.Attribute o name apos) (e :: es) [] pos) ν μ k :=
  fun g s Q r hQ => MethodCall_ (h g s _ r fun g₁ s₁ v d ν₁ μ₁ e₁ r₁ rd k₁ => by
    obtain ⟨a, f, hm, k₁⟩ := k₁
    have hkp := hm
    obtain ⟨C, dx, fs, hd, _, _, _, _, _, hkp⟩ := hkp
    refine meth_get W r₁ rd hm fun _ => ?_
    exact callWith_K (W.at r₁) hkp (k₁ g₁ s₁ _ r₁ fun g₂ s₂ vs ds ν₂ μ₂ e₂ r₂ rds k₂ => ⟨W.at r₂, k₂ g₂ s₂ Q _ r₂ (.cons (.ref a) rds) fun g₃ s₃ x y ν₃ μ₃ e₃ r₃ rl k₃ => hQ g₃ s₃ x y ν₃ μ₃ ((e₁.trans e₂).trans e₃) r₃ rl k₃⟩) h1 h2) he
/-- a def met through its class: C.m(a, ..) -/
theorem EvE.clsMeth {x : Str} {np : Pos} {e : Expr} {es : List Expr} {name : Str} {apos pos : Pos} {C f : Addr} {mc : Value} {k : Kt AV} (W : Wd hT K) (en : nsIn K mainGlobals x = some (some (.ref C)))
    (hga : specialIn K (.ref C) "__getattribute__" = some (some (.builtin "type.__getattribute__"))) (hr : readsIn K C mc = true) (hf : findCls K (.ref C) mc name = some (.val (.ref f))) (hkp : keepIn K (.ref f) = true)
    (h : EvAs hT prog w c pos (e :: es) ν μ fun ds ν₁ μ₁ => EvL hT prog w c (fun vs => call (.ref f) vs) Rd ds ν₁ μ₁ k)
    (hk : c.env.scope.kind = .function) (hx : c.env.kindOf x = some .globalImplicit) (hg : c.env.globals = mainGlobals) (hdb : (x == ("__debug__" : Str)) = false)
    (he : eval (.Call (.Attribute (.Name x np) name apos) (e :: es) [] pos) c.env = (do
      let ov ← eval (.Name x np) c.env
      standAt apos.atName
      let (f, first) ← holding [ov] (getMethod ov name (do return (← importBound (.Name x np) c.env).getD true))
      callWith pos f first (backTo pos (starEach (e :: es) c.env)) []))
    (h1 : starEach (e :: es) c.env = (false, eval e c.env) :: starEach es c.env) (h2 : (backTo pos (starEach es c.env)).any (·.1) = false) : EvE hT prog w c (.Call (.Attribute (.Name x np) name apos) (e :: es) [] pos) ν μ k :=
  fun g s Q r hQ => MethodCall_ (by
    refine EvE.glob (d := .ref C) W en (fun g _ => .ref C) (k := fun d ν' μ' => d = .ref C ∧ ν' = ν ∧ μ' = μ) ⟨rfl, rfl, rfl⟩ hk hx hg hdb g s _ r ?_
    rintro g₁ s₁ v d ν₁ μ₁ e₁ r₁ rd ⟨rfl, rfl, rfl⟩
    obtain rfl := rd.ref_inv
    refine method_cls (W.at r₁) hga (cls_value (W.at r₁) hr hf rfl ?_)
    have r₁' := r₁.toks (s₁.toks + 1)
    have e₁' := e₁.trans (Ext.toks (D := dom c μ₁) (s := s₁) (g := g₁) (s₁.toks + 1))
    exact callWith_K (W.at r₁') hkp (h g₁ _ _ r₁' fun g₂ s₂ vs ds ν₂ μ₂ e₂ r₂ rds k₂ => ⟨W.at r₂, k₂ g₂ s₂ Q _ r₂ rds fun g₃ s₃ x y ν₃ μ₃ e₃ r₃ rl k₃ => hQ g₃ s₃ x y ν₃ μ₃ ((e₁'.trans e₂).trans e₃) r₃ rl k₃⟩) h1 h2) he

/-- append to a list of the store -/
theorem R.upd1 {g : Fz} {s : Shared} {h' : Heap} {a : Addr} {o o' : MO} {pre post : Store} (r : R hT c g ν (pre ++ (a, o) :: post) s) (ex : o'.more = o.more) (D : Addr) (hD : D ∈ footOf (a, o)) (hs : Heap.SameBut D s.heap h') (ho : Holds g h' a o') (tk : Tok) :
    R hT c g ν (pre ++ (a, o') :: post) { s with heap := h', toks := tk } ∧ Ext (dom c (pre ++ (a, o) :: post)) (dom c (pre ++ (a, o') :: post)) s { s with heap := h', toks := tk } g g := by
  have fe : footOf (a, o') = footOf (a, o) := by unfold footOf; dsimp only; rw [ex]
  have hdom : dom c (pre ++ (a, o') :: post) = dom c (pre ++ (a, o) :: post) := by
    unfold dom; rw [foot_append, foot_append]; show _ :: (foot pre ++ (footOf (a, o') ++ foot post)) = _ :: (foot pre ++ (footOf (a, o) ++ foot post)); rw [fe]
  have hDd : D ∈ dom c (pre ++ (a, o) :: post) := .tail _ (foot_in (List.mem_append.mpr (.inr (.head _))) D hD)
  have ap := r.apart
  have hd2 : dom c (pre ++ (a, o) :: post) = c.env.locals :: (foot pre ++ (footOf (a, o) ++ foot post)) := by unfold dom; rw [foot_append]; rfl
  rw [hd2] at ap
  have ap1 := List.nodup_cons.mp ap
  have ap2 := List.nodup_append.mp ap1.2
  have ap3 := List.nodup_append.mp ap2.2.1
  have ne : ∀ b, b ≠ D → ∀ ob, s.heap.get? b = some ob → h'.get? b = some ob := fun b hb ob e => (hs.2 b hb).trans e
  have nL : c.env.locals ≠ D := fun q => ap1.1 (q ▸ List.mem_append.mpr (.inr (List.mem_append.mpr (.inl hD))))
  refine ⟨⟨fun b ob e => ne b (fun q => ?_) ob (r.sub b ob e), r.top, let ⟨m, h1, h2⟩ := r.ns; ⟨m, h1.at' fun ob e => ne _ nL ob e, h2⟩, fun p hp => ?_, by rw [hdom]; exact r.apart, by rw [hdom]; exact r.off, fun p hp => ⟨(r.ro p hp).1.at (Le.refl g) fun b hb ob e => ne b (fun q => (r.ro p hp).2 b hb (q ▸ hDd)) ob e, by rw [hdom]; exact (r.ro p hp).2⟩, r.room⟩,
    ⟨Le.refl g, fun _ ob e => .inl ⟨ob, e⟩, fun b ob e hn => ne b (fun q => hn (q ▸ hDd)) ob e, fun b hb => .inl (hdom ▸ hb), h', tk, rfl⟩⟩
  · rw [q, r.off D hDd] at e; cases e
  · rcases List.mem_append.mp hp with h | h
    · exact (r.hold p (List.mem_append.mpr (.inl h))).at (Le.refl g) fun b hb ob e => ne b (fun q => ap2.2.2 b (foot_in h b hb) b (List.mem_append.mpr (.inl (q ▸ hD))) rfl) ob e
    · rcases List.mem_cons.mp h with rfl | h
      · exact ho
      · exact (r.hold p (List.mem_append.mpr (.inr (.tail _ h)))).at (Le.refl g) fun b hb ob e => ne b (fun q => ap3.2.2 D hD b (foot_in h b hb) q.symm) ob e
theorem EvE.append {o e : Expr} {apos pos : Pos} {k : Kt AV}
    (h : EvE hT prog w c o ν μ fun d ν₁ μ₁ => ∃ a, d = .ref a ∧ (∃ l, (a, MO.list l) ∈ μ₁) ∧ EvE hT prog w c e ν₁ μ₁ fun x ν₂ μ₂ => ∃ pre l post, μ₂ = pre ++ (a, .list l) :: post ∧ l.length ≤ 100000 ∧ k .none ν₂ (pre ++ (a, .list (l ++ [x])) :: post))
    (he : eval (.Call (.Attribute o (Str.ofString "append") apos) [e] [] pos) c.env = (do
      let ov ← eval o c.env
      standAt apos.atName
      let (f, first) ← holding [ov] (getMethod ov (Str.ofString "append") (do return (← importBound o c.env).getD true))
      callWith pos f first (backTo pos (starEach [e] c.env)) []))
    (h1 : starEach [e] c.env = [(false, eval e c.env)]) : EvE hT prog w c (.Call (.Attribute o (Str.ofString "append") apos) [e] [] pos) ν μ k :=
  fun g s Q r hQ => MethodCall_ (h g s _ r fun g₁ s₁ v d ν₁ μ₁ e₁ r₁ rd k₁ => by
    obtain ⟨a, rfl, ⟨l₀, hm₀⟩, k₁⟩ := k₁
    obtain rfl := rd.ref_inv
    obtain ⟨vs₀, ⟨n₀, ho₀⟩, _⟩ := r₁.hold _ hm₀
    refine getMethod_builtin ⟨_, ho₀, rfl⟩ PySem.F.plainAttrs_list PySem.F.slot_list_append PySem.F.type_list_append (fun a' e' => by cases e'; exact ⟨_, ho₀, rfl⟩) ?_
    refine callWith_method1 (rest := []) ?_ h1 rfl
    rw [h1]
    refine spliced_cons (k₁ g₁ s₁ _ r₁ fun g₂ s₂ y x ν₂ μ₂ e₂ r₂ rd₂ k₂ => spliced_nil ?_)
    obtain ⟨pre, l, post, rfl, hz, k₂⟩ := k₂
    obtain ⟨vs, hl, rs⟩ := r₂.hold _ (List.mem_append.mpr (.inr (.head _)))
    refine wpAny_list_append_plain hl (fun h' hl' hs' => ?_) (by rw [List.size_toArray, rs.length, sizeLine_eq]; omega)
    obtain ⟨r₃, e₃⟩ := r₂.upd1 (o' := .list (l ++ [x])) rfl a (.head _) hs' ⟨vs ++ [y], by simpa using hl', rs.append (.cons rd₂ .nil)⟩ s₂.toks
    exact hQ g₂ _ _ _ ν₂ _ ((e₁.trans e₂).trans e₃) r₃ .none k₂) he

/-- a store into an attribute of an object of the store -/
theorem EvS.setAttr {o : Expr} {attr : Str} {pos' pos : Pos} {value : Expr} {k : Kt Fl} (W : Wd hT K)
    (h : EvE hT prog w c value ν μ fun d ν₁ μ₁ => EvE hT prog w c o ν₁ μ₁ fun e ν₂ μ₂ => ∃ a C dx fs pre post, e = .ref a ∧ μ₂ = pre ++ (a, .inst C dx fs) :: post ∧ fs.length ≤ 100 ∧
      findIn K (.ref C) "__setattr__" = some (some (.builtin "object.__setattr__")) ∧ plainOver K C = true ∧ takerIn K C attr = some Option.none ∧ hasDictIn K C = true ∧ k .next ν₂ (pre ++ (a, .inst C dx (setf attr d fs)) :: post))
    (hs : swapsWith value (some (.Attribute o attr pos')) pos.line c.env = pure false) : EvS hT prog w c (.Assign [.Attribute o attr pos'] value pos) ν μ k :=
  fun g s Q r hQ => plainObj_wpAny_Assign_Attribute (h g s _ r fun g₁ s₁ v d ν₁ μ₁ e₁ r₁ rd₁ k₁ => k₁ g₁ s₁ _ r₁ fun g₂ s₂ ov e ν₂ μ₂ e₂ r₂ rd₂ k₂ => by
    obtain ⟨a, C, dx, fs, pre, post, rfl, rfl, hz, hsa, hpo, hta, hdi, k₂⟩ := k₂
    obtain rfl := rd₂.ref_inv
    obtain ⟨es, n, I, hr, hdx⟩ := inst_of (r₂.hold _ (List.mem_append.mpr (.inr (.head _))))
    refine set_plain (W.at r₂) I hsa ?_
    have X₂ : K.In s₂.heap := W.at r₂
    refine osa_open (s := { s₂ with toks := s₂.toks + 1 }) X₂ I hpo hta fun b => ?_
    obtain ⟨cd, hc, hd'⟩ := any_some hdi
    have hx : s₂.heap.get? a = some (instObj C dx) := I.at_
    refine wpAny_bind (wpAny_pure (wpAny_bind (wpAny_bind (wpAny_loadPart hx (wpAny_bind (Looks.here (s := { s₂ with toks := s₂.toks + 1 }) (show Looks _ _ _ _ from looks_clsIn X₂ hc) ?_))))))
    rw [hd']
    refine wpAny_pure (a := some dx) (wpAny_bind (wpAny_pure (wpAny_bind ?_)))
    unfold nsSet
    refine wpAny_bind (wpAny_bind (wpAny_askSetting (wpAny_pure (wpAny_bind (wpAny_mkText (wpAny_bind (wpAny_loadPart hdx ?_)))))))
    have hgl : (getL attr es).isSome = true := by
      have := hr.get (name := attr)
      cases q : fs.lookup attr with
      | none => rw [q] at this; rw [this]; rfl
      | some d' => rw [q] at this; obtain ⟨v', hv', _⟩ := this; rw [hv']; rfl
    have cc : aRefKeyMayBeTheName attr es.toArray = false := by
      rw [aRefKeyMayBeTheName_at, ← Array.any_toList, ← Array.any_toList]
      unfold getL at hgl
      cases q : es.find? (fun e => e.key.isStr attr) with
      | some en =>
        have : es.any (fun e => e.key.isStr attr) = true := List.any_eq_true.mpr ⟨en, List.mem_of_find?_eq_some q, List.find?_some (p := fun (e : DictEntry) => e.key.isStr attr) q⟩
        simp [this]
      | none =>
        rw [q] at hgl
        by_cases q2 : es.any (·.refKey) = true
        · simp [q2] at hgl
        · have : es.any (·.refKey) = false := by simpa using q2
          simp [this]
    dsimp only
    rw [cc]
    have hput := putName_dict attr (PyData.keyHash w.params attr) (.str attr (s₂.toks + 1)) v es n
    have hupd : ((s₂.heap.update dx (Obj.putName attr (PyData.keyHash w.params attr) (.str attr (s₂.toks + 1)) v)).get? dx) = some (dictOf (putL attr (PyData.keyHash w.params attr) (.str attr (s₂.toks + 1)) v es) (putN attr es n)) := by
      rw [← hput]
      exact Heap.get?_update_self _ hdx (by rw [hput]; rfl)
    refine wpAny_updatePart hdx ?_
    have ents := hr.put (name := attr) (hsh := PyData.keyHash w.params attr) (t := s₂.toks + 1) (rd₁.mono e₂.le)
    have hlen := ents.length
    have hsl : ∀ (fs : List (Str × AV)), (setf attr d fs).length ≤ fs.length + 1 := by
      intro fs
      induction fs with
      | nil => simp [setf]
      | cons p fs ih =>
        obtain ⟨x, e⟩ := p
        unfold setf
        by_cases q : (x == attr) = true
        · simp [q]
        · simp [q]; exact ih
    have hsl' := hsl fs
    refine wpAny_bind (wpAny_lookBehind hupd (pastItsLine_dict (by rw [List.size_toArray, sizeLine_eq]; omega)) ?_)
    refine wpAny_pure ?_
    have hne : dx ≠ a := fun q => by rw [q, hx] at hdx; cases hdx
    obtain ⟨r₃, e₃⟩ := r₂.upd1 (o' := .inst C dx (setf attr d fs)) (h' := s₂.heap.update dx (Obj.putName attr (PyData.keyHash w.params attr) (.str attr (s₂.toks + 1)) v)) rfl dx (.tail _ (.head _)) (Heap.SameBut.update ..)
      ⟨_, _, ((Heap.SameBut.update s₂.heap dx _).2 a (Ne.symm hne)).trans hx, hupd, ents⟩ (s₂.toks + 1 + 1)
    exact hQ g₂ _ _ _ ν₂ _ ((e₁.trans e₂).trans e₃) r₃ .next k₂) hs
end
/-! Ops2 -/
section
variable {hT : Heap} {prog : Program} {w : World} {c : Cx} {ν : Loc} {μ : Store} {K : Frag}

/-! calls of built-ins -/
theorem EvL.lenL {l : List AV} {k : Kt AV} (hz : l.length ≤ 1000000) (h : k (.int l.length) ν μ) : EvL hT prog w c (fun vs => call (.builtin "len") vs) Rd [.lst l] ν μ k := by
  intro g s Q vs r hv hQ
  obtain ⟨_, rfl, h1⟩ := hv.one
  obtain ⟨_, _, _, _, rfl, e, cc, dd, rs⟩ := h1.lst_inv
  have hl := rs.length
  refine call_len_list ⟨_, r.sub _ _ e, cc, _, dd⟩ (by rw [List.size_toArray, hl]; omega) (hQ g _ _ _ ν μ (Ext.toks _) (r.toks _) ?_ h)
  rw [List.size_toArray, hl]; exact .int _ _
theorem EvL.lenT {l : List AV} {k : Kt AV} (hz : l.length ≤ 1000000) (h : k (.int l.length) ν μ) : EvL hT prog w c (fun vs => call (.builtin "len") vs) Rd [.tup l] ν μ k := by
  intro g s Q vs r hv hQ
  obtain ⟨_, rfl, h1⟩ := hv.one
  obtain ⟨_, _, _, _, rfl, e, cc, dd, rs⟩ := h1.tup_inv
  have hl := rs.length
  refine PyProof.Rows.len_tuple ⟨_, r.sub _ _ e, cc, _, dd⟩ (by rw [List.size_toArray, hl]; omega) (hQ g _ _ _ ν μ (Ext.toks _) (r.toks _) ?_ h)
  rw [List.size_toArray, hl]; exact .int _ _
theorem EvL.lenS {x : Str} {k : Kt AV} (hz : x.length ≤ 1000000) (h : k (.int x.length) ν μ) : EvL hT prog w c (fun vs => call (.builtin "len") vs) Rd [.str x] ν μ k := by
  intro g s Q vs r hv hQ
  obtain ⟨_, rfl, h1⟩ := hv.one
  obtain ⟨_, rfl⟩ := h1.str_inv
  exact PyProof.Rows.len_str (by omega) (hQ g _ _ _ ν μ (Ext.toks _) (r.toks _) (.int _ _) h)
theorem EvL.lenC {a : Addr} {l : List AV} {k : Kt AV} (hm : (a, MO.list l) ∈ μ ∨ (a, MO.list l) ∈ c.ro) (hz : l.length ≤ 1000000) (h : k (.int l.length) ν μ) : EvL hT prog w c (fun vs => call (.builtin "len") vs) Rd [.ref a] ν μ k := by
  intro g s Q vs r hv hQ
  obtain ⟨_, rfl, h1⟩ := hv.one
  obtain rfl := h1.ref_inv
  have H : Holds g s.heap a (.list l) := hm.elim (fun q => r.hold _ q) fun q => (r.ro _ q).1
  obtain ⟨vs, ⟨n, ho⟩, rs⟩ := H
  have hl := rs.length
  refine call_len_list ⟨_, ho, rfl, _, rfl⟩ (by rw [List.size_toArray, hl]; omega) (hQ g _ _ _ ν μ (Ext.toks _) (r.toks _) ?_ h)
  rw [List.size_toArray, hl]; exact .int _ _
theorem EvL.strI {a : Int} {k : Kt AV} (ha : a.natAbs.log2 < 1920) (h : k (.str (toString a)) ν μ) : EvL hT prog w c (fun vs => call (.type "str") vs) Rd [.int a] ν μ k := by
  intro g s Q vs r hv hQ
  obtain ⟨_, rfl, h1⟩ := hv.one
  obtain ⟨_, rfl⟩ := h1.int_inv
  exact PySem.P.str_of_int ha (hQ g _ _ _ ν μ (Ext.toks _) (r.toks _) (.str _ _) h)
theorem EvL.absI {a : Int} {k : Kt AV} (h : k (.int (if a < 0 then -a else a)) ν μ) : EvL hT prog w c (fun vs => call (.builtin "abs") vs) Rd [.int a] ν μ k := by
  intro g s Q vs r hv hQ
  obtain ⟨_, rfl, h1⟩ := hv.one
  obtain ⟨_, rfl⟩ := h1.int_inv
  exact call_abs_int fun u tk => hQ g _ _ _ ν μ (Ext.toks _) (r.toks _) (.int _ _) h
theorem EvL.minI {a b : Int} {k : Kt AV} (h : k (.int (if b < a then b else a)) ν μ) : EvL hT prog w c (fun vs => call (.builtin "min") vs) Rd [.int a, .int b] ν μ k := by
  intro g s Q vs r hv hQ
  obtain ⟨_, _, rfl, a1, a2⟩ := hv.two
  obtain ⟨_, rfl⟩ := a1.int_inv
  obtain ⟨_, rfl⟩ := a2.int_inv
  refine min_two_ints r.room.1 fun h' tk kk => ?_
  have kp : Kept s { s with heap := h', toks := tk } := ⟨_, _, rfl, kk⟩
  refine hQ g _ _ _ ν μ (kp.ext _ _) (r.kept kp) ?_ h
  split <;> exact .int _ _
theorem EvL.maxI {a b : Int} {k : Kt AV} (h : k (.int (if b > a then b else a)) ν μ) : EvL hT prog w c (fun vs => call (.builtin "max") vs) Rd [.int a, .int b] ν μ k := by
  intro g s Q vs r hv hQ
  obtain ⟨_, _, rfl, a1, a2⟩ := hv.two
  obtain ⟨_, rfl⟩ := a1.int_inv
  obtain ⟨_, rfl⟩ := a2.int_inv
  refine max_two_ints r.room.1 fun h' tk kk => ?_
  have kp : Kept s { s with heap := h', toks := tk } := ⟨_, _, rfl, kk⟩
  refine hQ g _ _ _ ν μ (kp.ext _ _) (r.kept kp) ?_ h
  split <;> exact .int _ _
/-- tuple of a list of the store -/
theorem EvL.tupC {a : Addr} {l : List AV} {k : Kt AV} (hm : (a, MO.list l) ∈ μ ∨ (a, MO.list l) ∈ c.ro) (hz : l.length ≤ 1000000) (h : k (.tup l) ν μ) : EvL hT prog w c (fun vs => call (.type "tuple") vs) Rd [.ref a] ν μ k := by
  intro g s Q vs r hv hQ
  obtain ⟨_, rfl, h1⟩ := hv.one
  obtain rfl := h1.ref_inv
  have H : Holds g s.heap a (.list l) := hm.elim (fun q => r.hold _ q) fun q => (r.ro _ q).1
  obtain ⟨vs, ⟨n, ho⟩, rs⟩ := H
  have hl := rs.length
  refine call_tuple_list ⟨_, ho, rfl, _, rfl⟩ (fun h' kk => ?_) (by rw [List.size_toArray, hl, sizeLine_eq]; omega)
  have kp : Kept s { s with heap := h' } := ⟨_, _, rfl, kk⟩
  obtain ⟨r₂, e₂⟩ := (r.kept kp).push { cls := .type "tuple", data := .seq vs.toArray } s.toks
  exact hQ _ _ _ _ ν μ ((kp.ext _ _).trans e₂) r₂ (.tup (put_self _ _ _) rfl rfl (rs.mono e₂.le)) h
theorem EvL.tupL {l : List AV} {k : Kt AV} (hz : l.length ≤ 1000000) (h : k (.tup l) ν μ) : EvL hT prog w c (fun vs => call (.type "tuple") vs) Rd [.lst l] ν μ k := by
  intro g s Q vs r hv hQ
  obtain ⟨_, rfl, h1⟩ := hv.one
  obtain ⟨_, _, _, _, rfl, e, cc, dd, rs⟩ := h1.lst_inv
  have hl := rs.length
  refine call_tuple_list ⟨_, r.sub _ _ e, cc, _, dd⟩ (fun h' kk => ?_) (by rw [List.size_toArray, hl, sizeLine_eq]; omega)
  have kp : Kept s { s with heap := h' } := ⟨_, _, rfl, kk⟩
  obtain ⟨r₂, e₂⟩ := (r.kept kp).push { cls := .type "tuple", data := .seq (List.toArray _) } s.toks
  exact hQ _ _ _ _ ν μ ((kp.ext _ _).trans e₂) r₂ (.tup (put_self _ _ _) rfl rfl (rs.mono e₂.le)) h
theorem EvL.listL {l : List AV} {k : Kt AV} (hz : l.length ≤ 1000000) (h : k (.lst l) ν μ) : EvL hT prog w c (fun vs => call (.type "list") vs) Rd [.lst l] ν μ k := by
  intro g s Q vs r hv hQ
  obtain ⟨_, rfl, h1⟩ := hv.one
  obtain ⟨_, _, _, _, rfl, e, cc, dd, rs⟩ := h1.lst_inv
  have hl := rs.length
  refine call_list_seq (hsz := by rw [List.size_toArray, hl, sizeLine_eq]; omega) _ (.inl rfl) (r.sub _ _ e) cc dd fun h' c' kk ho => ?_
  obtain ⟨r₂, e₂⟩ := r.fz (s' := { s with heap := h' }) ⟨_, _, rfl, kk⟩ (size_none _) ho
  exact hQ _ _ _ _ ν μ e₂ r₂ (.lst (put_self _ _ _) rfl rfl (rs.mono e₂.le)) h

theorem rds_strs (g : Fz) : ∀ l : List (Str × Tok), Rds g (strValues l) ((l.map (·.1)).map .str)
  | [] => .nil
  | (x, t) :: l => .cons (.str x t) (rds_strs g l)
theorem isList_plain {h : Heap} {D : Addr} {vs : Array Value} (x : h.IsList D vs) : ∃ o n, h.get? D = some o ∧ o.cls = .type "list" ∧ o.data = .seq vs n := by
  obtain ⟨o, ho, hc, n, hd⟩ := x
  exact ⟨o, n, ho, hc, hd⟩

/-- a method of a string by one argument -/
theorem EvE.methS1 {o e : Expr} {name : Str} {id : String} {apos pos : Pos} {k : Kt AV}
    (hm : ∀ (x : Str) (t : Tok) (pl : Sem Bool) (A : Around) (E : Value → Shared → Prop) (Q : Value × List Value → Shared → Prop) (s : Shared), Q (.builtin id, [.str x t]) s → wpAny (model prog w) A (getMethod (.str x t) name pl) Q E s)
    (h : EvE hT prog w c o ν μ fun d ν₁ μ₁ => ∃ x, d = .str x ∧ EvE hT prog w c e ν₁ μ₁ fun y ν₂ μ₂ => EvL hT prog w c (fun vs => call (.builtin id) vs) Rd [.str x, y] ν₂ μ₂ k)
    (he : eval (.Call (.Attribute o name apos) [e] [] pos) c.env = (do
      let ov ← eval o c.env
      standAt apos.atName
      let (f, first) ← holding [ov] (getMethod ov name (do return (← importBound o c.env).getD true))
      callWith pos f first (backTo pos (starEach [e] c.env)) []))
    (h1 : starEach [e] c.env = [(false, eval e c.env)]) : EvE hT prog w c (.Call (.Attribute o name apos) [e] [] pos) ν μ k :=
  fun g s Q r hQ => MethodCall_ (h g s _ r fun g₁ s₁ v d ν₁ μ₁ e₁ r₁ rd k₁ => by
    obtain ⟨x, rfl, k₁⟩ := k₁
    cases rd with
    | str x t =>
    refine hm _ _ _ _ _ _ _ ?_
    refine callWith_method1 (rest := []) ?_ h1 rfl
    rw [h1]
    refine spliced_cons (k₁ g₁ s₁ _ r₁ fun g₂ s₂ y d ν₂ μ₂ e₂ r₂ rd₂ k₂ => spliced_nil ?_)
    exact k₂ g₂ s₂ Q _ r₂ (.cons (.str _ _) (.cons rd₂ .nil)) fun g₃ s₃ x y ν₃ μ₃ e₃ r₃ rl k₃ => hQ g₃ s₃ x y ν₃ μ₃ ((e₁.trans e₂).trans e₃) r₃ rl k₃) he
theorem rds_from (g : Fz) : ∀ (tk : Nat) (l : List Str), Rds g (strsFrom tk l) (l.map .str)
  | _, [] => .nil
  | tk, x :: l => .cons (.str x tk) (rds_from g (tk + 1) l)
/-- the parts of a text that holds the cut -/
noncomputable def parts (x y : Str) : List Str := Builtin.Str.partsBetween x (Builtin.Str.occurrences x y 0 x.length (x.length + 1)) y.length
theorem EvL.split {x y : Str} {k : Kt AV} (h1 : (decide (x.length < y.length) || decide (Builtin.Str.strKind x < Builtin.Str.strKind y)) = false) (hy : (y.length == 0) = false) (hf : (Builtin.Str.occurrences x y 0 x.length (x.length + 1)).isEmpty = false)
    (hx : x.length ≤ 1000) (hp : (parts x y).length ≤ 1000)
    (h : k (.lst ((parts x y).map .str)) ν μ) : EvL hT prog w c (fun vs => call (.builtin "str.split") vs) Rd [.str x, .str y] ν μ k := by
  intro g s Q vs r hv hQ
  obtain ⟨_, _, rfl, a1, a2⟩ := hv.two
  obtain ⟨_, rfl⟩ := a1.str_inv
  obtain ⟨_, rfl⟩ := a2.str_inv
  refine call_meets PySem.F.slot_str_split (typeIs_str _ _ _) PySem.F.entry_str_split (PySem.F.args_str_split_2 _ _) (meets_str_split_sep x y _ _ h1 hy hf (by rw [sizeLine_eq]; omega) (by rw [sizeLine_eq]; unfold parts at hp; omega)) ?_
  obtain ⟨r₂, e₂⟩ := r.push { cls := .type "list", data := .seq (strsFrom s.toks (parts x y)).toArray } (s.toks + (parts x y).length)
  exact hQ _ _ _ _ ν μ e₂ r₂ (.lst (put_self _ _ _) rfl rfl (rds_from _ _ _)) h
theorem EvL.index {x y : Str} {i : Nat} {rest : List Nat} {k : Kt AV} (ho : Builtin.Str.occurrences x y 0 x.length 1 = i :: rest) (h : k (.int i) ν μ) : EvL hT prog w c (fun vs => call (.builtin "str.index") vs) Rd [.str x, .str y] ν μ k := by
  intro g s Q vs r hv hQ
  obtain ⟨_, _, rfl, a1, a2⟩ := hv.two
  obtain ⟨_, rfl⟩ := a1.str_inv
  obtain ⟨_, rfl⟩ := a2.str_inv
  refine call_gives PySem.F.slot_str_index (typeIs_str _ _ _) PySem.F.entry_str_index (PySem.F.args_str_index_2 _ _) (gives_str_index x y _ _ i rest ho) ?_
  exact hQ _ _ _ _ ν μ (Ext.toks _) (r.toks _) (.int _ _) h
/-- a slice of a text -/
noncomputable def cutS (x : Str) (i j : Nat) : Str := ⟨((x.cps.toList.drop i).take (j - i)).toArray⟩
theorem EvSl.str {value : Expr} {x : Str} {i j : Int} {a b p} {k : Kt AV} (h0 : 0 ≤ i) (h1 : i ≤ j) (h2 : j ≤ x.length) (hz : x.length ≤ 1000000) (h : k (.str (cutS x i.toNat j.toNat)) ν μ) : EvSl hT prog w c value (.Slice a b Option.none p) (.str x) (some i) (some j) ν μ k := by
  intro g s Q v sl vl vu r hv hsl pl pu hQ
  cases hv with
  | str x t =>
    cases pl with
    | int i ti =>
    cases pu with
    | int j tj =>
    refine tail_any (typeIs_str _ _ _) PySem.F.slot_str_getitem.lookup (wpAny_getItem_str_slice (l := some (i, ti)) (u := some (j, tj)) (st := none) hsl rfl ?_) rfl
    have hx : (x.length : Int) = x.cps.toList.length := rfl
    have e := StrLaws.sliceText_plain (x := x) (i := i) (j := j) ⟨h0, h1, by omega⟩
    have hi : (j - i).toNat = j.toNat - i.toNat := by omega
    rw [hi] at e
    unfold sliceMade
    unfold StrLaws.sliceText at e
    unfold slicePicked
    dsimp only [Option.map_some, Option.map_none, Option.getD_none]
    split
    · rename_i hc
      rw [if_pos hc] at e
      refine hQ g _ _ _ ν μ (Ext.refl _ _ _) r ?_ h
      unfold cutS; rw [← e]; exact .str _ _
    · rename_i hc
      rw [if_neg hc] at e
      rw [e]
      refine ⟨?_, hQ g _ _ _ ν μ (Ext.toks _) (r.toks _) (.str _ _) h⟩
      show ((List.take _ _).toArray).size ≤ sizeLine
      rw [List.size_toArray, List.length_take, List.length_drop, sizeLine_eq]
      omega
theorem EvSl.tupFrom {value : Expr} {l : List AV} {n : Nat} {a b p} {k : Kt AV} (h1 : 1 ≤ n) (hn : n ≤ l.length) (hz : l.length ≤ 1000) (h : k (.tup (l.drop n)) ν μ) : EvSl hT prog w c value (.Slice a b Option.none p) (.tup l) (some (n : Int)) Option.none ν μ k := by
  intro g s Q v sl vl vu r hv hsl pl pu hQ
  cases pl; cases pu
  cases hv with
  | tup e cc dd rs =>
    rename_i t o nn vs
    have hl : IsTup s.heap t vs.toArray := ⟨_, r.sub _ _ e, cc, _, dd⟩
    have hlen := rs.length
    refine tail_any hl.typeIs slot_tuple_getitem.lookup (getItem_tuple_from hl hsl h1 (by rw [List.size_toArray]; omega) ?_ (by rw [List.size_toArray, sizeLine_eq]; omega)) rfl
    obtain ⟨r₂, e₂⟩ := r.push { cls := .type "tuple", data := .seq (vs.toArray.toList.drop n).toArray } s.toks
    exact hQ _ _ _ _ ν μ e₂ r₂ (.tup (put_self _ _ _) rfl rfl ((rs.drop n).mono e₂.le)) h
theorem Ev2.addL {l m : List AV} {k : Kt AV} (hz : l.length + m.length ≤ 1000000) (h : k (.lst (l ++ m)) ν μ) : Ev2 hT prog w c (binaryOp .Add) Rd (.lst l) (.lst m) ν μ k := by
  intro g s Q v u r hv hu hQ
  cases hv with
  | lst e cc dd rs =>
    cases hu with
    | lst e' cc' dd' rs' =>
      rename_i a o n vs b o' n' vs'
      obtain ⟨cls, dct, data, sl⟩ := o
      obtain ⟨cls', dct', data', sl'⟩ := o'
      simp only at cc dd cc' dd'
      subst cc dd cc' dd'
      have e1 := rs.length
      have e2 := rs'.length
      have ho := r.sub _ _ e
      have ho2 := r.sub _ _ e'
      refine concat_meets ⟨_, ho, rfl⟩ ⟨_, ho2, rfl⟩ noFill_list_add seq_list_add PySem.F.slot_list_add PySem.F.entry_list_add (PySem.F.args_list_add_2 _ _) (list_addW a b vs.toArray vs'.toArray n n' dct dct' sl sl' (by rw [List.size_toArray, List.size_toArray, sizeLine_eq]; omega)) ⟨ho, ho2, ?_⟩
      have ee : vs.toArray ++ vs'.toArray = (vs ++ vs').toArray := by simp
      rw [ee]
      obtain ⟨r₂, e₂⟩ := r.push { cls := .type "list", data := .seq (vs ++ vs').toArray } s.toks
      exact hQ _ _ _ _ ν μ e₂ r₂ (.lst (put_self _ _ _) rfl rfl ((rs.append rs').mono e₂.le)) h
theorem Rds.set {g : Fz} {v : Value} {d : AV} (x : Rd g v d) : ∀ {vs : List Value} {ds : List AV} (j : Nat), Rds g vs ds → Rds g (vs.set j v) (ds.set j d)
  | _, _, _, .nil => .nil
  | _, _, 0, .cons _ r => .cons x r
  | _, _, j + 1, .cons y r => .cons y (Rds.set x j r)
/-- box[i] = v at a list of the store -/
theorem EvS.setItem {o i value : Expr} {pos' pos : Pos} {k : Kt Fl}
    (h : EvE hT prog w c value ν μ fun d ν₁ μ₁ => EvE hT prog w c o ν₁ μ₁ fun x ν₂ μ₂ => EvE hT prog w c i ν₂ μ₂ fun y ν₃ μ₃ => ∃ a l j pre post, x = .ref a ∧ y = .int (j : Nat) ∧ μ₃ = pre ++ (a, .list l) :: post ∧ j < l.length ∧ l.length ≤ 1000000 ∧
      k .next ν₃ (pre ++ (a, .list (l.set j d)) :: post))
    (hs : swapsWith value (some (.Subscript o i pos')) pos.line c.env = pure false) : EvS hT prog w c (.Assign [.Subscript o i pos'] value pos) ν μ k :=
  fun g s Q r hQ => wpAny_Assign_Subscript (h g s _ r fun g₁ s₁ v d ν₁ μ₁ e₁ r₁ rd₁ k₁ => k₁ g₁ s₁ _ r₁ fun g₂ s₂ ov x ν₂ μ₂ e₂ r₂ rd₂ k₂ => k₂ g₂ s₂ _ r₂ fun g₃ s₃ iv y ν₃ μ₃ e₃ r₃ rd₃ k₃ => by
    obtain ⟨a, l, j, pre, post, rfl, rfl, rfl, hj, hz, k₃⟩ := k₃
    cases rd₂; cases rd₃
    obtain ⟨vs, hl, rs⟩ := r₃.hold _ (List.mem_append.mpr (.inr (.head _)))
    have hlen := rs.length
    obtain ⟨nn, ho⟩ := id hl
    refine ki_setAt (n := nn) ho (by omega) (by omega) (by rw [List.size_toArray]; omega) ?_
    have u := PySem.IsL.update (n := nn) ho (·.setIfInBounds (j : Int).toNat v)
    obtain ⟨r₄, e₄⟩ := r₃.upd1 (o' := .list (l.set j d)) (h' := s₃.heap.update a (Obj.mapSeq (·.setIfInBounds (j : Int).toNat v))) rfl a (.head _) (Heap.SameBut.update ..)
      ⟨vs.set j v, ⟨_, by simpa using u⟩, Rds.set ((rd₁.mono e₂.le).mono e₃.le) j rs⟩ s₃.toks
    exact hQ g₃ _ _ _ ν₃ _ (((e₁.trans e₂).trans e₃).trans e₄) r₄ .next k₃) hs
end
/-! Cell -/
section
variable {hT : Heap} {prog : Program} {w : World} {K : Frag} {c : Cx} {ν : Loc} {μ : Store}

/-! functions with cells -/
noncomputable def mkCells : List Str → Nat → List (Str × Nat)
  | [], _ => []
  | n :: r, L => (n, L + 1 + r.length) :: mkCells r L
noncomputable def cellStore (νc : Loc) : List (Str × Addr) → Store
  | [] => []
  | (n, a) :: r => (a, .cell (νc n)) :: cellStore νc r
theorem mkCells_fst : ∀ (ns : List Str) (L : Nat), (mkCells ns L).map (·.1) = ns
  | [], _ => rfl
  | n :: r, L => congrArg (n :: ·) (mkCells_fst r L)
theorem mkCells_range : ∀ (ns : List Str) (L : Nat), ∀ p ∈ mkCells ns L, Nat.lt L p.2
  | [], _, _, h => nomatch h
  | n :: r, L, p, h => by
    rcases List.mem_cons.mp h with q | h
    · rw [q]; exact Nat.lt_of_lt_of_le (Nat.lt_succ_self L) (Nat.le_add_right _ _)
    · exact mkCells_range r L p h
theorem lookup_of_nodup {α : Type} : ∀ {l : List (Str × α)}, (l.map (·.1)).Nodup → ∀ p ∈ l, l.lookup p.1 = some p.2
  | [], _, _, h => nomatch h
  | q :: r, hn, p, h => by
    have hn' := List.nodup_cons.mp hn
    obtain ⟨y, b⟩ := q
    rw [List.lookup_cons]
    rcases List.mem_cons.mp h with q | h
    · rw [q]; simp
    · have ne : (p.1 == y) = false := by
        rw [beq_eq_false_iff_ne]; intro e
        refine hn'.1 ?_
        show y ∈ _
        rw [← e]
        exact List.mem_map.mpr ⟨p, h, rfl⟩
      simp only [ne]
      exact lookup_of_nodup hn'.2 p h
theorem foot_cells (νc : Loc) : ∀ l : List (Str × Addr), foot (cellStore νc l) = l.map (·.2)
  | [] => rfl
  | (n, a) :: r => by
    show footOf _ ++ foot (cellStore νc r) = _
    rw [foot_cells νc r]; rfl
theorem mem_cells {νc : Loc} : ∀ {l : List (Str × Addr)} {p}, p ∈ cellStore νc l → ∃ n, (n, p.1) ∈ l ∧ p.2 = .cell (νc n)
  | (n, a) :: r, p, h => by
    rcases List.mem_cons.mp h with rfl | h
    · exact ⟨n, .head _, rfl⟩
    · obtain ⟨m, h1, h2⟩ := mem_cells h; exact ⟨m, .tail _ h1, h2⟩

noncomputable def locsL (kindOf : Str → Option NameKind) : List (Str × AV) → Loc → Loc
  | [], ν => ν
  | (n, d) :: r, ν => locsL kindOf r (if kindOf n = some .local then upd ν n d else ν)
noncomputable def locsC (kindOf : Str → Option NameKind) : List (Str × AV) → Loc → Loc
  | [], ν => ν
  | (n, d) :: r, ν => locsC kindOf r (if kindOf n = some .local then ν else upd ν n d)
theorem locsL_rel {g : Fz} {ko : Str → Option NameKind} : ∀ (ps : List Str) {vs : List Value} {ds : List AV}, Rds g vs ds → ∀ (m : Str → Option Value) (ν : Loc), (∀ x d, ν x = some d → ∃ v, m x = some v ∧ Rd g v d) →
    ∀ x d, locsL ko (ps.zip ds) ν x = some d → ∃ v, bindL ko (ps.zip vs) m x = some v ∧ Rd g v d
  | [], _, _, _, m, ν, h => by simpa [locsL, bindL] using h
  | _ :: _, _, _, .nil, m, ν, h => by simpa [locsL, bindL] using h
  | p :: ps, _, _, .cons rd r, m, ν, h => by
    simp only [List.zip_cons_cons, locsL, bindL]
    refine locsL_rel ps r _ _ ?_
    split
    · intro x d e
      unfold upd at e
      by_cases q : x = p
      · simp only [q, if_true] at e ⊢; cases e; exact ⟨_, rfl, rd⟩
      · simp only [q, if_false] at e ⊢; exact h x d e
    · exact h
noncomputable def CellRel (g : Fz) : Option Value → Option AV → Prop
  | none, none => True
  | some v, some d => Rd g v d
  | _, _ => False
theorem locsC_rel {g : Fz} {ko : Str → Option NameKind} : ∀ (ps : List Str) {vs : List Value} {ds : List AV}, Rds g vs ds → ∀ (m : Str → Option Value) (ν : Loc), (∀ x, CellRel g (m x) (ν x)) →
    ∀ x, CellRel g (bindC ko (ps.zip vs) m x) (locsC ko (ps.zip ds) ν x)
  | [], _, _, _, m, ν, h => by simpa [locsC, bindC] using h
  | _ :: _, _, _, .nil, m, ν, h => by simpa [locsC, bindC] using h
  | p :: ps, _, _, .cons rd r, m, ν, h => by
    simp only [List.zip_cons_cons, locsC, bindC]
    refine locsC_rel ps r _ _ ?_
    split
    · exact h
    · intro x
      unfold upd
      by_cases q : x = p
      · simp only [q, if_true]; exact rd
      · simp only [q, if_false]; exact h x

noncomputable def envC (qual : Str) (scope : Scope) (L f : Addr) (cd : Value) (ns : List Str) : Env :=
  { scope := scope, locals := L, globals := mainGlobals, cells := mkCells ns L, qual := qual ++ ".<locals>.", func := some f, code := cd, frame := some L, builtins := builtinsNs }
theorem Spec.fnC {n : Nat} {f : Addr} {oc : Value} {od : Option Addr} {osl : Array (Option Value)} {name qual : Str} {params : Arguments} {body : List Stmt} {scope : Scope} {dV kV doc pm cdv ct : Value} {an : Option Addr} {ds : List AV} {k : AV → Store → Prop} (W : Wd hT K) (ps ns : List Str)
    (hl : K.lookup f = some ⟨oc, od, .func (fnOf name qual params body scope dV kV doc pm an cdv ct), osl⟩) (hcd : codeIn K cdv qual = true)
    (hlen : ds.length = ps.length) (hb : ∀ vs : List Value, vs.length = ps.length → bindArgs (fnOf name qual params body scope dV kV doc pm an cdv ct) ⟨vs, []⟩ = pure (ps.zip vs))
    (hcs : ∀ L, cellsFrom (L + 1) scope.names [] = mkCells ns L) (hns : ns.Nodup)
    (hkind : (ps.all fun x => decide (scope.names.lookup x = some .local) || (decide (scope.names.lookup x = some .cell) && decide (x ∈ ns))) = true) (hco : scope.isCoroutine = false) (hgen : scope.isGenerator = false) (hk : scope.kind = .function)
    (h : ∀ A L, Room A n → EvSs hT prog w ⟨A, envC qual scope L f cdv ns, [], n⟩ body (locsL (fun x => scope.names.lookup x) (ps.zip ds) fun _ => none) (μ ++ cellStore (locsC (fun x => scope.names.lookup x) (ps.zip ds) fun _ => none) (mkCells ns L)) (fnEnd k)) : Spec hT prog w (n + 1) (.ref f) ds μ k := by
  intro A g s vs Q hr r hv hQ
  have up : ∀ a o, hT.get? a = some o → s.heap.get? a = some o := fun a o e => r.sub _ _ (r.top _ _ e)
  have X : K.In s.heap := W.kin.keeps up
  have hl' : vs.length = ps.length := hv.length.trans hlen
  have hin : ∀ n ∈ ns, ∀ L, ((mkCells ns L).lookup n).isSome = true := fun n hn L => by
    obtain ⟨p, hp, rfl⟩ := List.mem_map.mp (show n ∈ (mkCells ns L).map (·.1) by rw [mkCells_fst]; exact hn)
    rw [lookup_of_nodup (by rw [mkCells_fst]; exact hns) p hp]; rfl
  refine codeAny_call_cells (by have := hr.2.1; omega) (X _ _ hl) rfl (W.nolimit.keeps up) (codeRec_of X hcd) rfl (hb vs hl') rfl (fun y hy => ?_) (fun s₁ x => ?_) hco hgen hk
  · have := List.all_eq_true.mp hkind y.1 (List.of_mem_zip (a := y.1) (b := y.2) hy).1
    rw [Bool.or_eq_true, Bool.and_eq_true] at this
    rcases this with q | ⟨q, q'⟩
    · exact .inl (of_decide_eq_true q)
    · refine .inr ⟨of_decide_eq_true q, ?_⟩
      show ((cellsFrom _ scope.names []).lookup _).isSome = true
      rw [hcs]; exact hin _ (of_decide_eq_true q') _
  have he : callEnvC (fnOf name qual params body scope dV kV doc pm an cdv ct) s.heap.objs.size f = envC qual scope s.heap.objs.size f cdv ns := by
    unfold callEnvC envC newEnv
    dsimp only
    rw [hcs]
  rw [he] at x ⊢
  have keep := x.toInCall.keep
  obtain ⟨h₁, tk, rfl, hk₁⟩ := x.done
  have hL : s.heap.get? (envC qual scope s.heap.objs.size f cdv ns).locals = none := size_none _
  have off : ∀ a : Nat, s.heap.objs.size ≤ a → g a = none := fun a ha => by
    cases q : g a with
    | none => rfl
    | some o => exact absurd (Heap.lt_size (r.sub _ _ q)) (Nat.not_lt.mpr ha)
  have R₁ : R hT ⟨A.deeper (envC qual scope s.heap.objs.size f cdv ns), envC qual scope s.heap.objs.size f cdv ns, [], n⟩ g (locsL (fun x => scope.names.lookup x) (ps.zip ds) fun _ => none)
      (μ ++ cellStore (locsC (fun x => scope.names.lookup x) (ps.zip ds) fun _ => none) (mkCells ns s.heap.objs.size)) { s with heap := h₁, toks := tk } := by
    have fm : ∀ a ∈ foot μ, Nat.lt a s.heap.objs.size := fun a ha => by
      obtain ⟨o, ho⟩ := live_foot r.hold _ ha
      exact Heap.lt_size ho
    have fc : ∀ a ∈ foot (cellStore (locsC (fun x => scope.names.lookup x) (ps.zip ds) fun _ => none) (mkCells ns s.heap.objs.size)), Nat.lt s.heap.objs.size a := fun a ha => by
      rw [foot_cells] at ha
      obtain ⟨p, hp, rfl⟩ := List.mem_map.mp ha
      exact mkCells_range ns _ p hp
    refine ⟨fun a o e => hk₁ _ _ (r.sub _ _ e), r.top, ⟨_, x.toInCall.ns, locsL_rel ps hv _ _ (fun _ _ e => nomatch e)⟩, fun p hp => ?_, ?_, fun a ha => ?_, fun p hp => (nomatch hp), hr.deeper⟩
    · rcases List.mem_append.mp hp with hp | hp
      · exact (r.hold p hp).at (Le.refl g) fun b _ o e => hk₁ b o e
      · obtain ⟨nm, h1, h2⟩ := mem_cells hp
        rw [h2]
        have hc := x.cell nm p.1 (lookup_of_nodup (l := mkCells ns s.heap.objs.size) (by rw [mkCells_fst]; exact hns) (nm, p.1) h1)
        have rel := locsC_rel (g := g) (ko := fun x => scope.names.lookup x) ps hv (fun _ => none) (fun _ => none) (fun _ => trivial) nm
        have hc' : h₁.IsCell p.1 (bindC (fun x => scope.names.lookup x) (ps.zip vs) (fun _ => none) nm) := hc
        revert hc' rel
        cases bindC (fun x => scope.names.lookup x) (ps.zip vs) (fun _ => none) nm <;> cases locsC (fun x => scope.names.lookup x) (ps.zip ds) (fun _ => none) nm <;> intro rel hc'
        · exact hc'
        · exact rel.elim
        · exact rel.elim
        · exact ⟨_, hc', rel⟩
    · show (s.heap.objs.size :: foot (μ ++ _)).Nodup
      rw [foot_append, List.nodup_cons, List.nodup_append]
      refine ⟨fun hm => ?_, r.apart, ?_, fun a ha b hb e => ?_⟩
      · rcases List.mem_append.mp hm with hm | hm
        · exact Nat.lt_irrefl _ (fm _ hm)
        · exact Nat.lt_irrefl _ (fc _ hm)
      · rw [foot_cells]
        have := x.apart
        exact List.pairwise_map.mpr this
      · exact Nat.lt_irrefl _ (Nat.lt_trans (fm _ ha) (e ▸ fc _ hb))
    · rcases List.mem_cons.mp ha with rfl | ha
      · exact off _ (Nat.le_refl _)
      · rw [foot_append] at ha
        rcases List.mem_append.mp ha with ha | ha
        · exact r.off a ha
        · exact off _ (Nat.le_of_lt (fc _ ha))
  have leave : ∀ {g' : Fz} {s' : Shared} {ν' : Loc} {μ' μ'' : Store}, Ext (s.heap.objs.size :: foot (μ ++ cellStore (locsC (fun x => scope.names.lookup x) (ps.zip ds) fun _ => none) (mkCells ns s.heap.objs.size))) (s.heap.objs.size :: foot μ') { s with heap := h₁, toks := tk } s' g g' →
      R hT ⟨A.deeper (envC qual scope s.heap.objs.size f cdv ns), envC qual scope s.heap.objs.size f cdv ns, [], n⟩ g' ν' μ' s' → μ''.Sublist μ' → Ext (foot μ) (foot μ'') s s' g g' ∧ RS hT g' μ'' s' := by
    intro g' s' ν' μ' μ'' e r' hs
    have back : ∀ a, h₁.get? a = none → s.heap.get? a = none := fun a h => by
      cases q : s.heap.get? a with
      | none => rfl
      | some o => rw [hk₁ a o q] at h; cases h
    have isnew : ∀ a : Nat, s.heap.objs.size ≤ a → s.heap.get? a = none := fun a ha => by
      cases q : s.heap.get? a with
      | none => rfl
      | some o => exact absurd (Heap.lt_size q) (Nat.not_lt.mpr ha)
    have dm : ∀ a ∈ (s.heap.objs.size :: foot (μ ++ cellStore (locsC (fun x => scope.names.lookup x) (ps.zip ds) fun _ => none) (mkCells ns s.heap.objs.size))), a ∈ foot μ ∨ s.heap.get? a = none := fun a ha => by
      rcases List.mem_cons.mp ha with rfl | ha
      · exact .inr (size_none _)
      · rw [foot_append] at ha
        rcases List.mem_append.mp ha with ha | ha
        · exact .inl ha
        · rw [foot_cells] at ha
          obtain ⟨p, hp, rfl⟩ := List.mem_map.mp ha
          exact .inr (isnew _ (Nat.le_of_lt (mkCells_range ns _ p hp)))
    refine ⟨⟨e.le, fun a o ho => ?_, fun a o ho hn => e.keep a o (hk₁ a o ho) fun hm => ?_, fun a ha => ?_, ?_⟩, ⟨r'.sub, r'.top, fun p hp => r'.hold p (hs.subset hp), ?_, fun a ha => r'.off a (.tail _ ((foot_sub hs).subset ha))⟩⟩
    · rcases e.new a o ho with h | h | h
      · exact .inl h
      · exact .inr (dm a h)
      · exact .inr (.inr (back a h))
    · rcases dm a hm with h | h
      · exact hn h
      · rw [h] at ho; cases ho
    · rcases e.dom a (.tail _ ((foot_sub hs).subset ha)) with h | h
      · exact dm a h
      · exact .inr (back a h)
    · obtain ⟨h, tk', rfl⟩ := e.same
      exact ⟨h, tk', rfl⟩
    · exact (foot_sub hs).nodup (List.nodup_cons.mp r'.apart).2
  refine wpAny_mono (h _ s.heap.objs.size hr.deeper g _ (fun f s' => retOf Q (.ok (.ret (match f with | .ret v => v | _ => .none))) s') R₁ fun g' s' x y ν' μ' e r' rl k₁ => ?_) (fun _ _ q => q) fun _ _ q => q.elim
  cases rl with
  | next =>
    obtain ⟨μ'', hs, k₁⟩ := k₁
    obtain ⟨e', rs⟩ := leave e r' hs
    exact hQ g' s' _ _ μ'' e' rs .none k₁
  | brk => exact k₁.elim
  | cont => exact k₁.elim
  | ret rd =>
    obtain ⟨μ'', hs, k₁⟩ := k₁
    obtain ⟨e', rs⟩ := leave e r' hs
    exact hQ g' s' _ _ μ'' e' rs rd k₁

/-- storing into a python cell -/
theorem EvStoreC {x : Str} {a : Addr} {v₀ : Option AV} {pre post : Store} {d : AV} {k : Kt Unit} (hl : c.env.kindOf x = some .cell) (hc : c.env.cells.lookup x = some a) (hk : c.env.scope.kind = .function) (hμ : μ = pre ++ (a, .cell v₀) :: post)
    (h : k () ν (pre ++ (a, .cell (some d)) :: post)) : Ev1 hT prog w c (storeName c.env x) any d ν μ k := by
  intro g s Q v r hv hQ
  subst hμ
  have H := r.hold _ (List.mem_append.mpr (.inr (.head _)))
  obtain ⟨v', hcell⟩ : ∃ v', s.heap.IsCell a v' := by
    cases v₀ with
    | none => exact ⟨_, H⟩
    | some d' => obtain ⟨v', h', _⟩ := H; exact ⟨_, h'⟩
  refine wpAny_storeName_cell hk hl hc hcell fun h' hc' hs' => ?_
  obtain ⟨r', e'⟩ := r.upd1 (o' := .cell (some d)) rfl a (.head _) hs' ⟨v, hc', hv⟩ s.toks
  exact hQ g _ _ _ ν _ e' r' trivial h
/-- a list at the head of the store, held by a python cell -/
theorem EvSs.freezeC {a b : Addr} {l : List AV} {st : List Stmt} {pre post : Store} {k : Kt Fl} (hμ : μ = pre ++ (b, .cell (some (.ref a))) :: post) (h : EvSs hT prog w c st ν (pre ++ (b, .cell (some (.lst l))) :: post) k) : EvSs hT prog w c st ν ((a, .list l) :: μ) k := by
  intro g s Q r hQ
  subst hμ
  obtain ⟨o, r', e, rd⟩ := r.freeze
  have dm : dom c (pre ++ (b, .cell (some (.lst l))) :: post) = dom c (pre ++ (b, .cell (some (.ref a))) :: post) := by unfold dom; rw [foot_append, foot_append]; rfl
  refine h _ s Q ⟨r'.sub, r'.top, r'.ns, fun p hp => ?_, by rw [dm]; exact r'.apart, fun x hx => r'.off x (dm ▸ hx), fun p hp => ⟨(r'.ro p hp).1, fun b hb => by rw [dm]; exact (r'.ro p hp).2 b hb⟩, r'.room⟩ fun g' s' y z ν' μ' e' r'' rl k' => hQ g' s' y z ν' μ' (e.trans (dm ▸ e')) r'' rl k'
  rcases List.mem_append.mp hp with hp | hp
  · exact r'.hold p (List.mem_append.mpr (.inl hp))
  · rcases List.mem_cons.mp hp with rfl | hp
    · obtain ⟨v, h1, h2⟩ := r'.hold (b, .cell (some (.ref a))) (List.mem_append.mpr (.inr (.head _)))
      cases h2
      exact ⟨_, h1, rd⟩
    · exact r'.hold p (List.mem_append.mpr (.inr (.tail _ hp)))
end
/-! Ops3 -/
section
variable {hT : Heap} {prog : Program} {w : World} {K : Frag} {c : Cx} {ν : Loc} {μ : Store}

theorem made_weight (C : Addr) (vs : List Value) : (Code.builtin "type.__call__" ⟨.ref C :: vs, []⟩).weight = 1 := by
  unfold Code.weight
  have h1 : (Code.builtin "type.__call__" ⟨.ref C :: vs, []⟩).isGuard = false := by show guardIds.contains "type.__call__" = false; decide +kernel
  have h2 : (Code.builtin "type.__call__" ⟨.ref C :: vs, []⟩).isCaller = false := by rfl
  have h3 : (Code.builtin "type.__call__" ⟨.ref C :: vs, []⟩).isCreation = true := by rfl
  rw [h1, h2, h3]; rfl
theorem made_units (C : Addr) (vs : List Value) : (Code.builtin "type.__call__" ⟨.ref C :: vs, []⟩).cUnits ≤ 4 := by
  have h : (Code.builtin "type.__call__" ⟨.ref C :: vs, []⟩).frames = 0 := by rfl
  unfold Code.cUnits
  dsimp only
  rw [h]; decide
theorem Room.under {A : Around} {n : Nat} {C : Addr} {vs : List Value} (h : Room A (n + 1)) : Room (A.under (.builtin "type.__call__" ⟨.ref C :: vs, []⟩)) n := by
  refine ⟨h.1, ?_, ?_⟩
  · have := h.2.1
    have q := made_weight C vs
    unfold Around.under
    dsimp only
    omega
  · have := h.2.2
    have q := made_units C vs
    unfold Around.under
    dsimp only
    omega
/-- making an object -/
theorem Spec.make {n : Nat} {C fI : Addr} {ds : List AV} {P : List (Str × AV) → Prop} (W : Wd hT K) (hm : makesIn K C = true) (hi : findIn K (.ref C) "__init__" = some (some (.ref fI))) (hf : typeIn K (.ref fI) = some (.type "function"))
    (h : ∀ x dx, Spec hT prog w n (.ref fI) (.ref x :: ds) [(x, .inst C dx [])] fun d μ' => d = .none ∧ ∃ fs, μ' = [(x, .inst C dx fs)] ∧ P fs) :
    Spec hT prog w (n + 1) (.ref C) ds [] fun d μ' => ∃ x dx fs, d = .ref x ∧ μ' = [(x, .inst C dx fs)] ∧ P fs := by
  intro A g s vs Q hr r hv hQ
  obtain ⟨hh, gg, dd, t, os⟩ := s
  have up : ∀ a o, hT.get? a = some o → hh.get? a = some o := fun a o e => r.sub _ _ (r.top _ _ e)
  have X : K.In hh := W.kin.keeps up
  have kp : ∀ b o, hh.get? b = some o → ((hh.push emptyDict).push (instObj C hh.objs.size)).get? b = some o := fun b o e => Heap.get?_push_of_some _ (Heap.get?_push_of_some _ e)
  have hx : ((hh.push emptyDict).push (instObj C hh.objs.size)).get? (hh.objs.size + 1) = some (instObj C hh.objs.size) := by heap_get
  have hd : ((hh.push emptyDict).push (instObj C hh.objs.size)).get? hh.objs.size = some emptyDict := by heap_get
  have new : ∀ a : Nat, hh.objs.size ≤ a → hh.get? a = none := fun a ha => by
    cases q : hh.get? a with
    | none => rfl
    | some o => exact absurd (Heap.lt_size q) (Nat.not_lt.mpr ha)
  have off : ∀ a : Nat, hh.objs.size ≤ a → g a = none := fun a ha => by
    cases q : g a with
    | none => rfl
    | some o => have := r.sub _ _ q; rw [new a ha] at this; cases this
  have fe : foot [(hh.objs.size + 1, MO.inst C hh.objs.size [])] = [hh.objs.size + 1, hh.objs.size] := rfl
  have ge : ∀ a ∈ foot [(hh.objs.size + 1, MO.inst C hh.objs.size [])], Nat.le hh.objs.size a := fun a ha => by
    rw [fe] at ha
    rcases List.mem_cons.mp ha with rfl | ha
    · exact Nat.le_succ _
    · rcases List.mem_cons.mp ha with rfl | ha
      · exact Nat.le_refl _
      · exact nomatch ha
  have rs : RS hT g [(hh.objs.size + 1, MO.inst C hh.objs.size [])] ⟨(hh.push emptyDict).push (instObj C hh.objs.size), gg, dd, t, os⟩ := by
    refine ⟨fun a o e => kp _ _ (r.sub _ _ e), r.top, fun p hp => ?_, ?_, fun a ha => off a (ge a ha)⟩
    · rcases List.mem_cons.mp hp with rfl | hp
      · exact ⟨[], 0, hx, hd, .nil⟩
      · exact nomatch hp
    · rw [fe]
      refine List.nodup_cons.mpr ⟨fun hm => ?_, List.nodup_cons.mpr ⟨fun hm => (nomatch hm), List.nodup_nil⟩⟩
      rcases List.mem_cons.mp hm with e | hm
      · exact absurd e (Nat.succ_ne_self _)
      · exact nomatch hm
  have ex : Ext (foot []) (foot [(hh.objs.size + 1, MO.inst C hh.objs.size [])]) ⟨hh, gg, dd, t, os⟩ ⟨(hh.push emptyDict).push (instObj C hh.objs.size), gg, dd, t, os⟩ g g :=
    ⟨Le.refl g, fun _ o e => .inl ⟨o, e⟩, fun b o e _ => kp b o e, fun a ha => .inr (new a (ge a ha)), _, t, rfl⟩
  refine make_core (makes_of X hm) (looks_findIn X hi) (fun self => bind_fn X self hf) (.inl rfl) ?_
  refine codeAny_mono (h (hh.objs.size + 1) hh.objs.size _ g _ (.ref (hh.objs.size + 1) :: vs) (fun v s' => v = .none ∧ Q (.ref (hh.objs.size + 1)) s') hr.under rs (.cons (.ref _) hv) fun g' s' v d μ' e r' rd k₁ => ?_) fun rr s' q => ?_
  · obtain ⟨rfl, fs, rfl, hP⟩ := k₁
    cases rd
    exact show _ ∧ _ from ⟨rfl, hQ g' s' _ _ _ (ex.trans e) r' (.ref _) ⟨_, _, fs, rfl, rfl, hP⟩⟩
  · rcases rr with e | (v | _ | _ | _) <;> first | exact q.elim | exact q
end
/-! Enum -/
section
variable {hT : Heap} {prog : Program} {w : World} {K : Frag} {c : Cx} {ν : Loc} {μ : Store}

theorem R.moved2 {g : Fz} {s : Shared} {h' : Heap} {tk : Tok} {I J : Addr} (r : R hT c g ν μ s) (hI : I ∉ dom c μ ∧ g I = none ∧ ∀ p ∈ c.ro, I ∉ footOf p) (hJ : J ∉ dom c μ ∧ g J = none ∧ ∀ p ∈ c.ro, J ∉ footOf p)
    (k : ∀ b o, b ≠ I → b ≠ J → s.heap.get? b = some o → h'.get? b = some o) : R hT c g ν μ { s with heap := h', toks := tk } := by
  have ng : ∀ a o, g a = some o → a ≠ I ∧ a ≠ J := fun a o e => ⟨fun q => (by subst q; rw [hI.2.1] at e; cases e), fun q => (by subst q; rw [hJ.2.1] at e; cases e)⟩
  have nd : ∀ a ∈ dom c μ, a ≠ I ∧ a ≠ J := fun a ha => ⟨fun q => hI.1 (q ▸ ha), fun q => hJ.1 (q ▸ ha)⟩
  refine ⟨fun a o e => k a o (ng a o e).1 (ng a o e).2 (r.sub a o e), r.top, let ⟨m, hm, hl⟩ := r.ns; ⟨m, hm.at' fun o e => k _ _ (nd _ (.head _)).1 (nd _ (.head _)).2 e, hl⟩,
    fun p hp => (r.hold p hp).at (Le.refl g) fun b hb o e => k b o (nd b (.tail _ (foot_in hp b hb))).1 (nd b (.tail _ (foot_in hp b hb))).2 e, r.apart, r.off,
    fun p hp => ⟨(r.ro p hp).1.at (Le.refl g) fun b hb o e => k b o (fun q => hI.2.2 p hp (q ▸ hb)) (fun q => hJ.2.2 p hp (q ▸ hb)) e, (r.ro p hp).2⟩, r.room⟩
/-- an object that stands apart is frozen -/
theorem R.adopt {g : Fz} {s : Shared} {a : Addr} {o : Obj} (r : R hT c g ν μ s) (ho : s.heap.get? a = some o) (ga : g a = none) (hd : a ∉ dom c μ) : R hT c (put g a o) ν μ s := by
  have le := put_le (o := o) ga
  refine ⟨fun b o' e => ?_, fun b o' e => le _ _ (r.top _ _ e), let ⟨m, hm, hl⟩ := r.ns; ⟨m, hm, fun x d e => let ⟨v, h1, h2⟩ := hl x d e; ⟨v, h1, h2.mono le⟩⟩, fun p hp => (r.hold p hp).at le fun b _ o e => e, r.apart, fun b hb => ?_,
    fun p hp => ⟨(r.ro p hp).1.at le fun b _ o e => e, (r.ro p hp).2⟩, r.room⟩
  · unfold put at e
    by_cases q : b = a
    · rw [if_pos q] at e; cases e; rw [q]; exact ho
    · rw [if_neg q] at e; exact r.sub _ _ e
  · unfold put
    by_cases q : b = a
    · subst q; exact absurd hb hd
    · rw [if_neg q]; exact r.off b hb

/-- for .. in enumerate(l) -/
theorem EvS.forEnum {elts : List Expr} {kk : Nat} {tpos np cpos pos : Pos} {e : Expr} {body : List Stmt} {k : Kt Fl} (W : Wd hT K) (en : nsIn K mainGlobals (Str.ofString "enumerate") = some Option.none)
    (h : EvE hT prog w c e ν μ fun d ν₁ μ₁ => ∃ ds, d = .lst ds ∧ ForL hT prog w c (.Tuple elts kk tpos) body (ds.zipIdx.map fun p => .tup [.int (p.2 : Nat), p.1]) ν₁ μ₁ k)
    (hk : c.env.scope.kind = .function) (hx : c.env.kindOf (Str.ofString "enumerate") = some .globalImplicit) (hg : c.env.globals = mainGlobals) (hb : c.env.builtins = builtinsNs)
    (he : starEach [e] c.env = [(false, eval e c.env)])
    (hs : ∀ x, foldedSetIterable (.Call (.Name (Str.ofString "enumerate") np) [e] [] cpos) c.env x = pure x) :
    EvS hT prog w c (.For (.Tuple elts kk tpos) (.Call (.Name (Str.ofString "enumerate") np) [e] [] cpos) body [] pos) ν μ k := by
  intro g s Q r hQ
  refine wpAny_For (E := fun _ _ => False) ?_ hs
  refine wpAny_Call_ofName (name_boot W r en (v := .type "enumerate") (by decide +kernel) (by decide) hk hx hg hb (by decide) (PyProof.Rows.callWith_type1 (e := e) (rest := []) ?_ he rfl))
  rw [he]
  refine spliced_cons (h g s _ r fun g₁ s₁ v d ν₁ μ₁ e₁ r₁ rd k₁ => spliced_nil ?_)
  obtain ⟨ds, rfl, k₁⟩ := k₁
  obtain ⟨l, ol, nn, vs, rfl, eg, cc, dd, rs⟩ := rd.lst_inv
  have hL : s₁.heap.IsList l vs.toArray := ⟨_, r₁.sub _ _ eg, cc, _, dd⟩
  refine call_enumerate_list hL fun h₂ en₂ it₂ sz₂ kp₂ => ?_
  refine wpAny_pyIter_enum en₂ ?_
  obtain ⟨it, hit⟩ : ∃ it : Addr, it = s₁.heap.objs.size := ⟨_, rfl⟩
  obtain ⟨ee, hee⟩ : ∃ ee : Addr, ee = s₁.heap.objs.size + 1 := ⟨_, rfl⟩
  rw [← hee, ← hit] at en₂
  rw [← hit] at it₂
  rw [← hee]
  have newn : ∀ a : Nat, s₁.heap.objs.size ≤ a → s₁.heap.get? a = none := fun a ha => by
    cases q : s₁.heap.get? a with
    | none => rfl
    | some o => exact absurd (Heap.lt_size q) (Nat.not_lt.mpr ha)
  have nit : s₁.heap.get? it = none := hit ▸ newn _ (Nat.le_refl _)
  have nee : s₁.heap.get? ee = none := hee ▸ newn _ (Nat.le_succ _)
  have hne : ee ≠ it := by rw [hee, hit]; exact Nat.succ_ne_self _
  have ap1 := new_apart r₁ nit
  have ap2 := new_apart r₁ nee
  have kp : Kept s₁ { s₁ with heap := h₂ } := ⟨h₂, _, rfl, kp₂⟩
  have hlen : (ds.zipIdx.map fun p => AV.tup [.int (p.2 : Nat), p.1]).length = ds.length := by simp
  refine codeAny_forLoopO (fun m s' => ∃ i νi μi gi old, i ≤ ds.length ∧ m = ds.length + 1 - i ∧ R hT c gi νi μi s' ∧ Ext (dom c μ₁) (dom c μi) s₁ s' g₁ gi ∧ IsEnum s'.heap ee it ((i : Nat) : Int) old ∧ s'.heap.IsListIter it l i ∧ (ee ∉ dom c μi ∧ gi ee = none) ∧ (it ∉ dom c μi ∧ gi it = none) ∧
      ForL hT prog w c (.Tuple elts kk tpos) body ((ds.zipIdx.map fun p => AV.tup [.int (p.2 : Nat), p.1]).drop i) νi μi k) ?_ (ds.length + 1)
    ⟨0, ν₁, μ₁, g₁, _, Nat.zero_le _, rfl, r₁.kept kp, kp.ext _ g₁, en₂, it₂, ⟨ap2.1, ap2.2.1⟩, ⟨ap1.1, ap1.2.1⟩, by simpa using k₁⟩
  rintro m s' ⟨i, νi, μi, gi, old, hi, rfl, ri, ei, eni, iti, hde, hdi, ki⟩
  have hL' : s'.heap.IsList l vs.toArray := ⟨_, ri.sub _ _ (ei.le _ _ eg), cc, _, dd⟩
  have rlen := rs.length
  by_cases hlt : i < ds.length
  · obtain ⟨x, hx', rx⟩ := rs.get (i := i) (d := ds[i]) (by simp [hlt])
    refine wpAny_pyNext_enum_item eni iti hL' (by simpa using hx') hne fun h₃ en₃ it₃ tp₃ sz₃ kp₃ => ?_
    refine wpAny_letOwnedTupleGo_enum en₃ fun h₄ en₄ sb₄ => ?_
    have nta : s'.heap.get? s'.heap.objs.size = none := size_none _
    have lee : ee ≠ s'.heap.objs.size := fun q => by have t : s'.heap.get? ee = some _ := eni; rw [q, nta] at t; cases t
    have keep4 : ∀ b o, b ≠ ee → b ≠ it → s'.heap.get? b = some o → h₄.get? b = some o := fun b o h1 h2 h3 => (sb₄.2 b h1).trans (kp₃ b o h1 h2 h3)
    have tp₄ : h₄.get? s'.heap.objs.size = some { cls := .type "tuple", data := .seq #[.int i s'.toks, x] } := (sb₄.2 _ (Ne.symm lee)).trans tp₃
    have it₄ : h₄.IsListIter it l (i + 1) := let ⟨o, h1, h2⟩ := it₃; ⟨o, (sb₄.2 _ (Ne.symm hne)).trans h1, h2⟩
    have rm : R hT c gi νi μi { s' with heap := h₄, toks := s'.toks + 1 } := ri.moved2 ⟨hde.1, hde.2, ap2.2.2⟩ ⟨hdi.1, hdi.2, ap1.2.2⟩ keep4
    have apt := new_apart ri nta
    have ra := rm.adopt tp₄ apt.2.1 apt.1
    have le := put_le (o := ({ cls := .type "tuple", data := .seq #[.int i s'.toks, x] } : Obj)) apt.2.1
    have ns1 : ∀ a, s'.heap.get? a = none → a ∉ dom c μi → a ∈ dom c μ₁ ∨ s₁.heap.get? a = none := fun a ha hd => by
      by_cases q : a ∈ dom c μ₁
      · exact .inl q
      · cases q2 : s₁.heap.get? a with
        | none => exact .inr rfl
        | some o => have := ei.keep a o q2 q; rw [ha] at this; cases this
    have em : Ext (dom c μ₁) (dom c μi) s₁ { s' with heap := h₄, toks := s'.toks + 1 } g₁ (put gi s'.heap.objs.size { cls := .type "tuple", data := .seq #[.int i s'.toks, x] }) := by
      refine ⟨ei.le.trans le, fun a o q => ?_, fun a o q hn => keep4 a o (fun q' => by rw [q', nee] at q; cases q) (fun q' => by rw [q', nit] at q; cases q) (ei.keep a o q hn), ei.dom, let ⟨hh, t, q⟩ := ei.same; ⟨h₄, s'.toks + 1, by rw [q]⟩⟩
      unfold put at q
      by_cases q2 : a = s'.heap.objs.size
      · subst q2; exact .inr (ns1 _ nta apt.1)
      · rw [if_neg q2] at q; exact ei.new a o q
    have hdrop : (ds.zipIdx.map fun p => AV.tup [.int (p.2 : Nat), p.1]).drop i = .tup [.int (i : Nat), ds[i]] :: (ds.zipIdx.map fun p => AV.tup [.int (p.2 : Nat), p.1]).drop (i + 1) := by
      rw [List.drop_eq_getElem_cons (by rw [hlen]; exact hlt)]
      simp
    rw [hdrop] at ki
    have rdt : Rd (put gi s'.heap.objs.size { cls := .type "tuple", data := .seq #[.int i s'.toks, x] }) (.ref s'.heap.objs.size) (.tup [.int (i : Nat), ds[i]]) :=
      .tup (vs := [.int i s'.toks, x]) (put_self _ _ _) rfl rfl (.cons (.int _ _) (.cons ((rx.mono ei.le).mono le) .nil))
    have pe : put gi s'.heap.objs.size { cls := .type "tuple", data := .seq #[.int i s'.toks, x] } ee = none := by unfold put; rw [if_neg lee]; exact hde.2
    have lit : it ≠ s'.heap.objs.size := fun q => by obtain ⟨o, h1, _⟩ := iti; rw [q, nta] at h1; cases h1
    have pi : put gi s'.heap.objs.size { cls := .type "tuple", data := .seq #[.int i s'.toks, x] } it = none := by unfold put; rw [if_neg lit]; exact hdi.2
    refine ki _ _ _ _ ra rdt fun g₅ s₅ _ _ ν₅ μ₅ e₅ r₅ _ k₅ => k₅ g₅ s₅ _ r₅ fun g₆ s₆ fl f ν₆ μ₆ e₆ r₆ rl k₆ => ?_
    have e56 := e₅.trans e₆
    have et := em.trans e56
    have still : ∀ b : Addr, b ∉ dom c μi → put gi s'.heap.objs.size { cls := .type "tuple", data := .seq #[.int i s'.toks, x] } b = none → (∃ o, h₄.get? b = some o) → b ∉ dom c μ₆ ∧ g₆ b = none := fun b h1 h2 ⟨o, h3⟩ => by
      refine ⟨fun q => ?_, ?_⟩
      · rcases e56.dom b q with q | q
        · exact h1 q
        · rw [h3] at q; cases q
      · cases q : g₆ b with
        | none => rfl
        | some o' =>
          rcases e56.new b o' q with ⟨o'', q⟩ | q | q
          · rw [h2] at q; cases q
          · exact absurd q h1
          · rw [h3] at q; cases q
    obtain ⟨oi, hoi, hoi'⟩ := id it₄
    have en6 : IsEnum s₆.heap ee it (((i + 1 : Nat) : Nat) : Int) x := e56.keep _ _ en₄ hde.1
    have it6 : s₆.heap.IsListIter it l (i + 1) := ⟨oi, e56.keep _ _ hoi hdi.1, hoi'⟩
    have again : ForL hT prog w c (.Tuple elts kk tpos) body ((ds.zipIdx.map fun p => AV.tup [.int (p.2 : Nat), p.1]).drop (i + 1)) ν₆ μ₆ k → ∃ m, m < ds.length + 1 - i ∧ ∃ i νi μi gi old, i ≤ ds.length ∧ m = ds.length + 1 - i ∧ R hT c gi νi μi s₆ ∧ Ext (dom c μ₁) (dom c μi) s₁ s₆ g₁ gi ∧ IsEnum s₆.heap ee it ((i : Nat) : Int) old ∧ s₆.heap.IsListIter it l i ∧ (ee ∉ dom c μi ∧ gi ee = none) ∧ (it ∉ dom c μi ∧ gi it = none) ∧
      ForL hT prog w c (.Tuple elts kk tpos) body ((ds.zipIdx.map fun p => AV.tup [.int (p.2 : Nat), p.1]).drop i) νi μi k :=
      fun kk => ⟨ds.length + 1 - (i + 1), by omega, i + 1, ν₆, μ₆, g₆, x, hlt, rfl, r₆, et, en6, it6, still ee hde.1 pe ⟨_, en₄⟩, still it hdi.1 pi ⟨_, hoi⟩, kk⟩
    cases rl with
    | next => exact again k₆
    | cont => exact again k₆
    | brk => exact hQ g₆ s₆ _ _ ν₆ μ₆ (e₁.trans et) r₆ .next k₆
    | ret rd => exact hQ g₆ s₆ _ _ ν₆ μ₆ (e₁.trans et) r₆ (.ret rd) k₆
  · have hin : i = ds.length := by omega
    subst hin
    refine wpAny_pyNext_enum_end ri.room.1 eni iti hL' (by simp [rlen]) fun h₃ ext => wpAny_execs_nil ?_
    rw [List.drop_eq_nil_of_le (by rw [hlen]; exact Nat.le_refl _)] at ki
    refine hQ gi _ _ _ νi μi (e₁.trans ⟨ei.le, ei.new, fun a o q hn => ?_, ei.dom, let ⟨hh, t, q⟩ := ei.same; ⟨h₃, s'.toks, by rw [q]⟩⟩) (ri.moved2 (I := it) (J := it) ⟨hdi.1, hdi.2, ap1.2.2⟩ ⟨hdi.1, hdi.2, ap1.2.2⟩ fun b o h1 _ h3 => ext b o h1 h3) .next ki
    exact ext a o (fun q' => by rw [q', nit] at q; cases q) (ei.keep a o q hn)
end
/-! Glob -/

/-- what a value of the written part is -/
noncomputable def allOf {α β : Type} (f : α → Option β) : List α → Option (List β)
  | [] => some []
  | x :: r => match f x, allOf f r with
    | some y, some l => some (y :: l)
    | _, _ => none
noncomputable def datumIn (K : Frag) : Nat → Value → Option AV
  | _, .none => some .none
  | _, .bool b => some (.bool b)
  | _, .int i _ => some (.int i)
  | _, .str s _ => some (.str s)
  | n + 1, .ref a => match K.lookup a with
    | some ⟨.type T, _, .seq vs _, _⟩ => if T = "tuple" then (allOf (datumIn K n) vs.toList).map .tup else none
    | _ => none
  | _, _ => none
theorem allOf_rd {g : Fz} {f : Value → Option AV} (h : ∀ v d, f v = some d → Rd g v d) : ∀ (l : List Value) (ds : List AV), allOf f l = some ds → Rds g l ds
  | [], _, e => by cases e; exact .nil
  | x :: r, ds, e => by
    unfold allOf at e
    split at e
    · rename_i y l h1 h2; cases e; exact .cons (h _ _ h1) (allOf_rd h r l h2)
    · cases e
theorem datum_rd {K : Frag} {g : Fz} (hg : ∀ a o, K.lookup a = some o → g a = some o) : ∀ (n : Nat) (v : Value) (d : AV), datumIn K n v = some d → Rd g v d := by
  intro n
  induction n with
  | zero =>
    intro v d e
    cases v <;> simp only [datumIn] at e <;> first | cases e
    all_goals first | exact .none | exact .bool _ | exact .int _ _ | exact .str _ _
  | succ n ih =>
    intro v d e
    cases v <;> simp only [datumIn] at e
    case none => cases e; exact .none
    case bool => cases e; exact .bool _
    case int => cases e; exact .int _ _
    case str => cases e; exact .str _ _
    case ref a =>
      split at e
      · rename_i T dd vs nn sl hl
        split at e
        · rename_i hT
          cases hq : allOf (datumIn K n) vs.toList with
          | none => rw [hq] at e; cases e
          | some ds =>
            rw [hq] at e; cases e
            exact .tup (vs := vs.toList) (n := nn) (hg _ _ hl) (by rw [hT]) (by simp) (allOf_rd ih _ _ hq)
        · cases e
      · cases e
    all_goals cases e
noncomputable def topVal (K : Frag) (x : Str) : Option AV := match nsIn K mainGlobals x with
  | some (some v) => datumIn K 3 v
  | _ => none

section
variable {hT : Heap} {prog : Program} {w : World} {K : Frag} {c : Cx} {ν : Loc} {μ : Store}
theorem EvE.top {x : Str} {pos} {d : AV} {k : Kt AV} (W : Wd hT K) (e : topVal K x = some d) (h : k d ν μ)
    (hk : c.env.scope.kind = .function) (hx : c.env.kindOf x = some .globalImplicit) (hg : c.env.globals = mainGlobals) (hdb : (x == ("__debug__" : Str)) = false) : EvE hT prog w c (.Name x pos) ν μ k := by
  unfold topVal at e
  split at e
  · rename_i v hv
    exact EvE.glob W hv (fun g hg => datum_rd hg _ _ _ e) h hk hx hg hdb
  · cases e

/-! the written dicts -/
theorem Ev2.inDict {a : Addr} {es : List DictEntry} {n : Nat} {x : Str} {r : Option Value} {k : Kt AV} (W : Wd hT K) (hl : K.lookup a = some ⟨.type "dict", none, .dict es.toArray n, #[]⟩) (hk : KeysLit w.params es) (e : nsIn K a x = some r) (lo : (a == sysModules) = false)
    (h : k (.bool r.isSome) ν μ) : Ev2 hT prog w c (compareOp .In) Rd (.str x) (.ref a) ν μ k := by
  intro g s Q v u rr hv hu hQ
  obtain ⟨_, rfl⟩ := hv.str_inv
  obtain rfl := hu.ref_inv
  refine wpAny_in_of (strKind_is prog w x _) lo (mapOf_K (prog := prog) (W.at rr) hl (by simpa using hk)) ?_
  rw [find_K hl e]
  exact hQ g _ _ _ ν μ (Ext.toks _) (rr.toks _) (.bool _) h
theorem Ev2.subDict {value slice : Expr} {a : Addr} {es : List DictEntry} {n : Nat} {x : Str} {v : Value} {d : AV} {k : Kt AV} (W : Wd hT K) (hl : K.lookup a = some ⟨.type "dict", none, .dict es.toArray n, #[]⟩) (hk : KeysLit w.params es) (e : nsIn K a x = some (some v)) (hd : datumIn K 2 v = some d)
    (h : k d ν μ) (hs : ∀ o i, subscripted slice false o i = operate [o, i] (getItem o i)) : Ev2 hT prog w c (subscriptTail value slice) Rd (.ref a) (.str x) ν μ k := by
  intro g s Q o u rr hv hu hQ
  obtain rfl := hv.ref_inv
  obtain ⟨_, rfl⟩ := hu.str_inv
  have hm := mapOf_K (prog := prog) (W.at rr) hl (show KeysLit w.params es.toArray.toList by simpa using hk)
  refine tail_any hm.typeIs slot_dict_getitem.lookup (wpAny_getItem_of (strKind_is prog w x _) hm (find_K hl e) ?_) (hs _ _)
  exact hQ g _ _ _ ν μ (Ext.toks _) (rr.toks _) (datum_rd (fun a o q => rr.top _ _ (W.kin _ _ q)) _ _ _ hd) h

/-! dict displays -/
theorem EvE.dict0 {pos : Pos} {k : Kt AV} (h : ∀ a, k (.ref a) ν μ) : EvE hT prog w c (.Dict [] [] pos) ν μ k :=
  fun g s Q r hQ => wpAny_Dict_empty (hQ g _ _ _ ν μ ((Kept.push s _).ext _ _) (r.kept (Kept.push s _)) (.ref _) (h _))

inductive Prs (g : Fz) : List (Value × Value) → List (Str × AV) → Prop
  | nil : Prs g [] []
  | cons {x t v d l m} : Rd g v d → Prs g l m → Prs g ((.str x t, v) :: l) ((x, d) :: m)
inductive Pvs (g : Fz) : List (Str × Value) → List (Str × AV) → Prop
  | nil : Pvs g [] []
  | cons {x v d l m} : Rd g v d → Pvs g l m → Pvs g ((x, v) :: l) ((x, d) :: m)
theorem Pvs.mono {g g' : Fz} (h : Le g g') : ∀ {l m}, Pvs g l m → Pvs g' l m
  | _, _, .nil => .nil
  | _, _, .cons x r => .cons (x.mono h) (r.mono h)
theorem Prs.keys {g : Fz} : ∀ {l m}, Prs g l m → allStrKeys l = true ∧ Pvs g (PySem.strPairs l) m ∧ (PySem.strPairs l).map (·.1) = m.map (·.1)
  | _, _, .nil => ⟨rfl, .nil, rfl⟩
  | _, _, .cons x r => ⟨r.keys.1, .cons x r.keys.2.1, congrArg _ r.keys.2.2⟩
theorem Pvs.at {g : Fz} {x : Str} {d : AV} : ∀ {l m}, Pvs g l m → m.lookup x = some d → ∃ v, valueAt l x = some v ∧ Rd g v d := by
  intro l m h
  induction h with
  | nil => intro e; cases e
  | cons rd r ih =>
    rename_i y v d' l m
    intro e
    rw [List.lookup_cons] at e
    unfold valueAt
    by_cases q : y = x
    · subst q
      simp only [beq_self_eq_true] at e
      cases e
      exact ⟨v, by simp, rd⟩
    · have q' : (x == y) = false := by rw [beq_eq_false_iff_ne]; exact Ne.symm q
      simp only [q'] at e
      obtain ⟨u, h1, h2⟩ := ih e
      refine ⟨u, ?_, h2⟩
      unfold valueAt at h1
      rw [List.find?_cons]
      simp only [q, decide_false]
      exact h1
noncomputable abbrev EvPs (hT : Heap) (prog : Program) (w : World) (c : Cx) (ks : List (Option Expr)) (vs : List Expr) (pos : Pos) (ν : Loc) (μ : Store) (k : List (Str × AV) → Loc → Store → Prop) : Prop := Ev hT prog w c (evalPairs (pairTrees ks vs c.env pos)) Prs ν μ k
theorem EvPs.nil {pos : Pos} {k : Kt (List (Str × AV))} (h : k [] ν μ) : EvPs hT prog w c [] [] pos ν μ k :=
  fun g s Q r hQ => pairTrees_nil_walk (hQ g s _ _ ν μ (Ext.refl _ _ _) r .nil h)
theorem EvPs.cons {pos : Pos} {a b : Expr} {ks : List (Option Expr)} {vs : List Expr} {k : Kt (List (Str × AV))}
    (h : EvE hT prog w c a ν μ fun d ν₁ μ₁ => ∃ x, d = .str x ∧ EvE hT prog w c b ν₁ μ₁ fun e ν₂ μ₂ => EvPs hT prog w c ks vs pos ν₂ μ₂ fun l => k ((x, e) :: l)) : EvPs hT prog w c (some a :: ks) (b :: vs) pos ν μ k :=
  fun g s Q r hQ => evalPairs_cons (h g s _ r fun g₁ s₁ v d ν₁ μ₁ e₁ r₁ rd₁ k₁ => by
    obtain ⟨x, rfl, k₁⟩ := k₁
    obtain ⟨_, rfl⟩ := rd₁.str_inv
    refine wpAny_bind (k₁ g₁ s₁ _ r₁ fun g₂ s₂ u d ν₂ μ₂ e₂ r₂ rd₂ k₂ => wpAny_bind (wpAny_standAt (wpAny_pure ?_)))
    exact k₂ g₂ s₂ _ r₂ fun g₃ s₃ l m ν₃ μ₃ e₃ r₃ rd₃ k₃ => hQ g₃ s₃ _ _ ν₃ μ₃ ((e₁.trans e₂).trans e₃) r₃ (.cons (rd₂.mono e₃.le) rd₃) k₃)
noncomputable def pEmpty (prog : Program) (w : World) : Fz → Obj → Prop := fun _ o => o.IsDictOf (PySem.strKind prog w) []
noncomputable def pDict (prog : Program) (w : World) (l : List (Str × AV)) : Fz → Obj → Prop := fun g o => ∃ kvs, o.IsDictOf (PySem.strKind prog w) kvs ∧ Pvs g kvs l
theorem EvE.dict {keys : List (Option Expr)} {values : List Expr} {pos : Pos} {k : Kt AV} (hall : keys.all (·.isSome) = true) (hl : keys.length = values.length) (h0 : keys ≠ []) (hlen : keys.length ≤ 15)
    (h : ∀ a, EvPs hT prog w c keys values pos ν ((a, .any (pEmpty prog w)) :: μ) fun l ν' μ' => ∃ pre post, μ' = pre ++ (a, .any (pEmpty prog w)) :: post ∧ (l.map (·.1)).Nodup ∧ k (.ref a) ν' (pre ++ (a, .any (pDict prog w l)) :: post)) :
    EvE hT prog w c (.Dict keys values pos) ν μ k := by
  intro g s Q r hQ
  refine wpAny_Dict_walk (knd := PySem.strKind prog w) hall hl h0 hlen ?_
  have hnew := Heap.dictOf_iff.mp (Heap.DictOf.new (knd := PySem.strKind prog w) s.heap)
  obtain ⟨o, ho, hd⟩ := hnew
  have ho' := ho
  rw [Heap.get?_push_size _ rfl] at ho'
  cases ho'
  obtain ⟨r₁, e₁⟩ := r.alloc { cls := .type "dict", data := .dict #[] } (.any (pEmpty prog w)) rfl rfl ⟨_, ho, fun _ _ => hd⟩ s.toks
  refine h s.heap.objs.size g _ _ r₁ fun g₂ s₂ vs l ν₂ μ₂ e₂ r₂ rd₂ k₂ => ?_
  obtain ⟨pre, post, rfl, hn, k₂⟩ := k₂
  obtain ⟨h1, h2, h3⟩ := rd₂.keys
  obtain ⟨o₂, ho₂, hp₂⟩ := r₂.hold _ (List.mem_append.mpr (.inr (.head _)))
  refine display_done_str h1 (by rw [h3]; exact hn) (Heap.dictOf_iff.mpr ⟨o₂, ho₂, hp₂ g₂ (Le.refl _)⟩) fun h' hd' hs' => ?_
  obtain ⟨o₃, ho₃, hd₃⟩ := Heap.dictOf_iff.mp hd'
  obtain ⟨r₄, e₄⟩ := r₂.upd1 (o' := .any (pDict prog w l)) rfl _ (.head _) hs' ⟨o₃, ho₃, fun g' le => ⟨_, hd₃, h2.mono le⟩⟩ (s₂.toks + vs.length)
  exact hQ g₂ _ _ _ ν₂ _ ((e₁.trans e₂).trans e₄) r₄ (.ref _) k₂
theorem Ev2.subD {value slice : Expr} {a : Addr} {l : List (Str × AV)} {x : Str} {d : AV} {k : Kt AV} (hm : (a, MO.any (pDict prog w l)) ∈ μ ∨ (a, MO.any (pDict prog w l)) ∈ c.ro) (hx : l.lookup x = some d) (h : k d ν μ)
    (hs : ∀ o i, subscripted slice false o i = operate [o, i] (getItem o i)) : Ev2 hT prog w c (subscriptTail value slice) Rd (.ref a) (.str x) ν μ k := by
  intro g s Q o u r hv hu hQ
  obtain rfl := hv.ref_inv
  obtain ⟨_, rfl⟩ := hu.str_inv
  have H : Holds g s.heap a (.any (pDict prog w l)) := hm.elim (fun q => r.hold _ q) fun q => (r.ro _ q).1
  obtain ⟨ob, hob, hp⟩ := H
  obtain ⟨kvs, hd, hv⟩ := hp g (Le.refl _)
  obtain ⟨v, h1, h2⟩ := hv.at hx
  have hmp := (Heap.dictOf_iff.mpr ⟨ob, hob, hd⟩ : s.heap.DictOf (PySem.strKind prog w) a kvs).mapOf
  refine tail_any hmp.typeIs slot_dict_getitem.lookup (wpAny_getItem_of (strKind_is prog w x _) hmp h1 ?_) (hs _ _)
  exact hQ g _ _ _ ν μ (Ext.toks _) (r.toks _) h2 h
/-- try whose body raises nothing -/
theorem EvS.try {body : List Stmt} {h₀ : ExceptHandler} {hs : List ExceptHandler} {pos : Pos} {k : Kt Fl} (h : EvSs hT prog w c body ν μ k) : EvS hT prog w c (.Try body (h₀ :: hs) [] [] pos) ν μ k :=
  fun g s Q r hQ => wpAny_Try_except (wpAny_mono (h g s Q r hQ) (fun f s' q => by cases f <;> first | exact q | exact wpAny_execs_nil q) fun _ _ q => q.elim)
end
/-! Fnt -/
theorem L_mask_of (P : Params) : (KK P).lookup 107 = some ⟨.type "function", none, .func (fnOf (Str.ofString "mask_of") (Str.ofString "mask_of") (pparams s_mask_of) (pbody s_mask_of) (pscope s_mask_of) .none .none .none (.str ⟨#[114, 111, 117, 116, 101, 108, 111, 111, 109, 46, 112, 114, 101, 102, 105, 120, 101, 115]⟩ 317) none (.ref 106) .none), #[]⟩ := by kernel_rfl
theorem C_mask_of (P : Params) : codeIn (KK P) (.ref 106) (Str.ofString "mask_of") = true := by kernel_rfl
theorem KI_mask_of (P : Params) : keepIn (KK P) (.ref 107) = true := by kernel_rfl
theorem G_mask_of (P : Params) : nsIn (KK P) mainGlobals (Str.ofString "mask_of") = some (some (.ref 107)) := by kernel_rfl
theorem L_is_prefix (P : Params) : (KK P).lookup 114 = some ⟨.type "function", none, .func (fnOf (Str.ofString "is_prefix") (Str.ofString "is_prefix") (pparams s_is_prefix) (pbody s_is_prefix) (pscope s_is_prefix) .none .none .none (.str ⟨#[114, 111, 117, 116, 101, 108, 111, 111, 109, 46, 112, 114, 101, 102, 105, 120, 101, 115]⟩ 317) none (.ref 113) .none), #[]⟩ := by kernel_rfl
theorem C_is_prefix (P : Params) : codeIn (KK P) (.ref 113) (Str.ofString "is_prefix") = true := by kernel_rfl
theorem KI_is_prefix (P : Params) : keepIn (KK P) (.ref 114) = true := by kernel_rfl
theorem G_is_prefix (P : Params) : nsIn (KK P) mainGlobals (Str.ofString "is_prefix") = some (some (.ref 114)) := by kernel_rfl
theorem L_holds_address (P : Params) : (KK P).lookup 121 = some ⟨.type "function", none, .func (fnOf (Str.ofString "holds_address") (Str.ofString "holds_address") (pparams s_holds_address) (pbody s_holds_address) (pscope s_holds_address) .none .none .none (.str ⟨#[114, 111, 117, 116, 101, 108, 111, 111, 109, 46, 112, 114, 101, 102, 105, 120, 101, 115]⟩ 317) none (.ref 120) .none), #[]⟩ := by kernel_rfl
theorem C_holds_address (P : Params) : codeIn (KK P) (.ref 120) (Str.ofString "holds_address") = true := by kernel_rfl
theorem KI_holds_address (P : Params) : keepIn (KK P) (.ref 121) = true := by kernel_rfl
theorem G_holds_address (P : Params) : nsIn (KK P) mainGlobals (Str.ofString "holds_address") = some (some (.ref 121)) := by kernel_rfl
theorem L_covers (P : Params) : (KK P).lookup 128 = some ⟨.type "function", none, .func (fnOf (Str.ofString "covers") (Str.ofString "covers") (pparams s_covers) (pbody s_covers) (pscope s_covers) .none .none .none (.str ⟨#[114, 111, 117, 116, 101, 108, 111, 111, 109, 46, 112, 114, 101, 102, 105, 120, 101, 115]⟩ 317) none (.ref 127) .none), #[]⟩ := by kernel_rfl
theorem C_covers (P : Params) : codeIn (KK P) (.ref 127) (Str.ofString "covers") = true := by kernel_rfl
theorem KI_covers (P : Params) : keepIn (KK P) (.ref 128) = true := by kernel_rfl
theorem G_covers (P : Params) : nsIn (KK P) mainGlobals (Str.ofString "covers") = some (some (.ref 128)) := by kernel_rfl
theorem L_small_number (P : Params) : (KK P).lookup 135 = some ⟨.type "function", none, .func (fnOf (Str.ofString "small_number") (Str.ofString "small_number") (pparams s_small_number) (pbody s_small_number) (pscope s_small_number) .none .none .none (.str ⟨#[114, 111, 117, 116, 101, 108, 111, 111, 109, 46, 112, 114, 101, 102, 105, 120, 101, 115]⟩ 317) none (.ref 134) .none), #[]⟩ := by kernel_rfl
theorem C_small_number (P : Params) : codeIn (KK P) (.ref 134) (Str.ofString "small_number") = true := by kernel_rfl
theorem KI_small_number (P : Params) : keepIn (KK P) (.ref 135) = true := by kernel_rfl
theorem G_small_number (P : Params) : nsIn (KK P) mainGlobals (Str.ofString "small_number") = some (some (.ref 135)) := by kernel_rfl
theorem L_read_address (P : Params) : (KK P).lookup 142 = some ⟨.type "function", none, .func (fnOf (Str.ofString "read_address") (Str.ofString "read_address") (pparams s_read_address) (pbody s_read_address) (pscope s_read_address) .none .none .none (.str ⟨#[114, 111, 117, 116, 101, 108, 111, 111, 109, 46, 112, 114, 101, 102, 105, 120, 101, 115]⟩ 317) none (.ref 141) .none), #[]⟩ := by kernel_rfl
theorem C_read_address (P : Params) : codeIn (KK P) (.ref 141) (Str.ofString "read_address") = true := by kernel_rfl
theorem KI_read_address (P : Params) : keepIn (KK P) (.ref 142) = true := by kernel_rfl
theorem G_read_address (P : Params) : nsIn (KK P) mainGlobals (Str.ofString "read_address") = some (some (.ref 142)) := by kernel_rfl
theorem L_read_prefix (P : Params) : (KK P).lookup 149 = some ⟨.type "function", none, .func (fnOf (Str.ofString "read_prefix") (Str.ofString "read_prefix") (pparams s_read_prefix) (pbody s_read_prefix) (pscope s_read_prefix) .none .none .none (.str ⟨#[114, 111, 117, 116, 101, 108, 111, 111, 109, 46, 112, 114, 101, 102, 105, 120, 101, 115]⟩ 317) none (.ref 148) .none), #[]⟩ := by kernel_rfl
theorem C_read_prefix (P : Params) : codeIn (KK P) (.ref 148) (Str.ofString "read_prefix") = true := by kernel_rfl
theorem KI_read_prefix (P : Params) : keepIn (KK P) (.ref 149) = true := by kernel_rfl
theorem G_read_prefix (P : Params) : nsIn (KK P) mainGlobals (Str.ofString "read_prefix") = some (some (.ref 149)) := by kernel_rfl
theorem L_condition_holds (P : Params) : (KK P).lookup 172 = some ⟨.type "function", none, .func (fnOf (Str.ofString "condition_holds") (Str.ofString "condition_holds") (pparams s_condition_holds) (pbody s_condition_holds) (pscope s_condition_holds) .none .none .none (.str ⟨#[114, 111, 117, 116, 101, 108, 111, 111, 109, 46, 112, 111, 108, 105, 99, 121, 114, 117, 110]⟩ 388) none (.ref 171) .none), #[]⟩ := by kernel_rfl
theorem C_condition_holds (P : Params) : codeIn (KK P) (.ref 171) (Str.ofString "condition_holds") = true := by kernel_rfl
theorem KI_condition_holds (P : Params) : keepIn (KK P) (.ref 172) = true := by kernel_rfl
theorem G_condition_holds (P : Params) : nsIn (KK P) mainGlobals (Str.ofString "condition_holds") = some (some (.ref 172)) := by kernel_rfl
theorem L_run_statements (P : Params) : (KK P).lookup 194 = some ⟨.type "function", none, .func (fnOf (Str.ofString "run_statements") (Str.ofString "run_statements") (pparams s_run_statements) (pbody s_run_statements) (pscope s_run_statements) .none .none .none (.str ⟨#[114, 111, 117, 116, 101, 108, 111, 111, 109, 46, 112, 111, 108, 105, 99, 121, 114, 117, 110]⟩ 388) none (.ref 193) .none), #[]⟩ := by kernel_rfl
theorem C_run_statements (P : Params) : codeIn (KK P) (.ref 193) (Str.ofString "run_statements") = true := by kernel_rfl
theorem KI_run_statements (P : Params) : keepIn (KK P) (.ref 194) = true := by kernel_rfl
theorem G_run_statements (P : Params) : nsIn (KK P) mainGlobals (Str.ofString "run_statements") = some (some (.ref 194)) := by kernel_rfl
theorem L_run_policy (P : Params) : (KK P).lookup 201 = some ⟨.type "function", none, .func (fnOf (Str.ofString "run_policy") (Str.ofString "run_policy") (pparams s_run_policy) (pbody s_run_policy) (pscope s_run_policy) .none .none .none (.str ⟨#[114, 111, 117, 116, 101, 108, 111, 111, 109, 46, 112, 111, 108, 105, 99, 121, 114, 117, 110]⟩ 388) none (.ref 200) .none), #[]⟩ := by kernel_rfl
theorem C_run_policy (P : Params) : codeIn (KK P) (.ref 200) (Str.ofString "run_policy") = true := by kernel_rfl
theorem KI_run_policy (P : Params) : keepIn (KK P) (.ref 201) = true := by kernel_rfl
theorem G_run_policy (P : Params) : nsIn (KK P) mainGlobals (Str.ofString "run_policy") = some (some (.ref 201)) := by kernel_rfl
theorem L_run_end (P : Params) : (KK P).lookup 229 = some ⟨.type "function", none, .func (fnOf (Str.ofString "run_end") (Str.ofString "run_end") (pparams s_run_end) (pbody s_run_end) (pscope s_run_end) .none .none .none (.str ⟨#[114, 111, 117, 116, 101, 108, 111, 111, 109, 46, 112, 111, 108, 105, 99, 121, 108, 101, 120]⟩ 541) none (.ref 228) .none), #[]⟩ := by kernel_rfl
theorem C_run_end (P : Params) : codeIn (KK P) (.ref 228) (Str.ofString "run_end") = true := by kernel_rfl
theorem KI_run_end (P : Params) : keepIn (KK P) (.ref 229) = true := by kernel_rfl
theorem G_run_end (P : Params) : nsIn (KK P) mainGlobals (Str.ofString "run_end") = some (some (.ref 229)) := by kernel_rfl
theorem L_plain_number (P : Params) : (KK P).lookup 236 = some ⟨.type "function", none, .func (fnOf (Str.ofString "plain_number") (Str.ofString "plain_number") (pparams s_plain_number) (pbody s_plain_number) (pscope s_plain_number) .none .none .none (.str ⟨#[114, 111, 117, 116, 101, 108, 111, 111, 109, 46, 112, 111, 108, 105, 99, 121, 108, 101, 120]⟩ 541) none (.ref 235) .none), #[]⟩ := by kernel_rfl
theorem C_plain_number (P : Params) : codeIn (KK P) (.ref 235) (Str.ofString "plain_number") = true := by kernel_rfl
theorem KI_plain_number (P : Params) : keepIn (KK P) (.ref 236) = true := by kernel_rfl
theorem G_plain_number (P : Params) : nsIn (KK P) mainGlobals (Str.ofString "plain_number") = some (some (.ref 236)) := by kernel_rfl
theorem L_figures_token (P : Params) : (KK P).lookup 243 = some ⟨.type "function", none, .func (fnOf (Str.ofString "figures_token") (Str.ofString "figures_token") (pparams s_figures_token) (pbody s_figures_token) (pscope s_figures_token) .none .none .none (.str ⟨#[114, 111, 117, 116, 101, 108, 111, 111, 109, 46, 112, 111, 108, 105, 99, 121, 108, 101, 120]⟩ 541) none (.ref 242) .none), #[]⟩ := by kernel_rfl
theorem C_figures_token (P : Params) : codeIn (KK P) (.ref 242) (Str.ofString "figures_token") = true := by kernel_rfl
theorem KI_figures_token (P : Params) : keepIn (KK P) (.ref 243) = true := by kernel_rfl
theorem G_figures_token (P : Params) : nsIn (KK P) mainGlobals (Str.ofString "figures_token") = some (some (.ref 243)) := by kernel_rfl
theorem L_sign_token (P : Params) : (KK P).lookup 250 = some ⟨.type "function", none, .func (fnOf (Str.ofString "sign_token") (Str.ofString "sign_token") (pparams s_sign_token) (pbody s_sign_token) (pscope s_sign_token) .none .none .none (.str ⟨#[114, 111, 117, 116, 101, 108, 111, 111, 109, 46, 112, 111, 108, 105, 99, 121, 108, 101, 120]⟩ 541) none (.ref 249) .none), #[]⟩ := by kernel_rfl
theorem C_sign_token (P : Params) : codeIn (KK P) (.ref 249) (Str.ofString "sign_token") = true := by kernel_rfl
theorem KI_sign_token (P : Params) : keepIn (KK P) (.ref 250) = true := by kernel_rfl
theorem G_sign_token (P : Params) : nsIn (KK P) mainGlobals (Str.ofString "sign_token") = some (some (.ref 250)) := by kernel_rfl
theorem L_tokens_of (P : Params) : (KK P).lookup 257 = some ⟨.type "function", none, .func (fnOf (Str.ofString "tokens_of") (Str.ofString "tokens_of") (pparams s_tokens_of) (pbody s_tokens_of) (pscope s_tokens_of) .none .none .none (.str ⟨#[114, 111, 117, 116, 101, 108, 111, 111, 109, 46, 112, 111, 108, 105, 99, 121, 108, 101, 120]⟩ 541) none (.ref 256) .none), #[]⟩ := by kernel_rfl
theorem C_tokens_of (P : Params) : codeIn (KK P) (.ref 256) (Str.ofString "tokens_of") = true := by kernel_rfl
theorem KI_tokens_of (P : Params) : keepIn (KK P) (.ref 257) = true := by kernel_rfl
theorem G_tokens_of (P : Params) : nsIn (KK P) mainGlobals (Str.ofString "tokens_of") = some (some (.ref 257)) := by kernel_rfl
theorem L_TokenRow__init (P : Params) : (KK P).lookup 281 = some ⟨.type "function", none, .func (fnOf (Str.ofString "__init__") (Str.ofString "TokenRow.__init__") (pparams s_TokenRow__init) (pbody s_TokenRow__init) (pscope s_TokenRow__init) .none .none .none (.str ⟨#[114, 111, 117, 116, 101, 108, 111, 111, 109, 46, 112, 111, 108, 105, 99, 121, 114, 101, 97, 100]⟩ 616) none (.ref 280) .none), #[]⟩ := by kernel_rfl
theorem C_TokenRow__init (P : Params) : codeIn (KK P) (.ref 280) (Str.ofString "TokenRow.__init__") = true := by kernel_rfl
theorem KI_TokenRow__init (P : Params) : keepIn (KK P) (.ref 281) = true := by kernel_rfl
theorem L_TokenRow_kind (P : Params) : (KK P).lookup 288 = some ⟨.type "function", none, .func (fnOf (Str.ofString "kind") (Str.ofString "TokenRow.kind") (pparams s_TokenRow_kind) (pbody s_TokenRow_kind) (pscope s_TokenRow_kind) .none .none .none (.str ⟨#[114, 111, 117, 116, 101, 108, 111, 111, 109, 46, 112, 111, 108, 105, 99, 121, 114, 101, 97, 100]⟩ 616) none (.ref 287) .none), #[]⟩ := by kernel_rfl
theorem C_TokenRow_kind (P : Params) : codeIn (KK P) (.ref 287) (Str.ofString "TokenRow.kind") = true := by kernel_rfl
theorem KI_TokenRow_kind (P : Params) : keepIn (KK P) (.ref 288) = true := by kernel_rfl
theorem L_TokenRow_value (P : Params) : (KK P).lookup 295 = some ⟨.type "function", none, .func (fnOf (Str.ofString "value") (Str.ofString "TokenRow.value") (pparams s_TokenRow_value) (pbody s_TokenRow_value) (pscope s_TokenRow_value) .none .none .none (.str ⟨#[114, 111, 117, 116, 101, 108, 111, 111, 109, 46, 112, 111, 108, 105, 99, 121, 114, 101, 97, 100]⟩ 616) none (.ref 294) .none), #[]⟩ := by kernel_rfl
theorem C_TokenRow_value (P : Params) : codeIn (KK P) (.ref 294) (Str.ofString "TokenRow.value") = true := by kernel_rfl
theorem KI_TokenRow_value (P : Params) : keepIn (KK P) (.ref 295) = true := by kernel_rfl
theorem L_TokenRow_is_next (P : Params) : (KK P).lookup 309 = some ⟨.type "function", none, .func (fnOf (Str.ofString "is_next") (Str.ofString "TokenRow.is_next") (pparams s_TokenRow_is_next) (pbody s_TokenRow_is_next) (pscope s_TokenRow_is_next) .none .none .none (.str ⟨#[114, 111, 117, 116, 101, 108, 111, 111, 109, 46, 112, 111, 108, 105, 99, 121, 114, 101, 97, 100]⟩ 616) none (.ref 308) .none), #[]⟩ := by kernel_rfl
theorem C_TokenRow_is_next (P : Params) : codeIn (KK P) (.ref 308) (Str.ofString "TokenRow.is_next") = true := by kernel_rfl
theorem KI_TokenRow_is_next (P : Params) : keepIn (KK P) (.ref 309) = true := by kernel_rfl
theorem L_TokenRow_skip (P : Params) : (KK P).lookup 316 = some ⟨.type "function", none, .func (fnOf (Str.ofString "skip") (Str.ofString "TokenRow.skip") (pparams s_TokenRow_skip) (pbody s_TokenRow_skip) (pscope s_TokenRow_skip) .none .none .none (.str ⟨#[114, 111, 117, 116, 101, 108, 111, 111, 109, 46, 112, 111, 108, 105, 99, 121, 114, 101, 97, 100]⟩ 616) none (.ref 315) .none), #[]⟩ := by kernel_rfl
theorem C_TokenRow_skip (P : Params) : codeIn (KK P) (.ref 315) (Str.ofString "TokenRow.skip") = true := by kernel_rfl
theorem KI_TokenRow_skip (P : Params) : keepIn (KK P) (.ref 316) = true := by kernel_rfl
theorem L_TokenRow_need (P : Params) : (KK P).lookup 323 = some ⟨.type "function", none, .func (fnOf (Str.ofString "need") (Str.ofString "TokenRow.need") (pparams s_TokenRow_need) (pbody s_TokenRow_need) (pscope s_TokenRow_need) .none .none .none (.str ⟨#[114, 111, 117, 116, 101, 108, 111, 111, 109, 46, 112, 111, 108, 105, 99, 121, 114, 101, 97, 100]⟩ 616) none (.ref 322) .none), #[]⟩ := by kernel_rfl
theorem C_TokenRow_need (P : Params) : codeIn (KK P) (.ref 322) (Str.ofString "TokenRow.need") = true := by kernel_rfl
theorem KI_TokenRow_need (P : Params) : keepIn (KK P) (.ref 323) = true := by kernel_rfl
theorem L_TokenRow_take (P : Params) : (KK P).lookup 330 = some ⟨.type "function", none, .func (fnOf (Str.ofString "take") (Str.ofString "TokenRow.take") (pparams s_TokenRow_take) (pbody s_TokenRow_take) (pscope s_TokenRow_take) .none .none .none (.str ⟨#[114, 111, 117, 116, 101, 108, 111, 111, 109, 46, 112, 111, 108, 105, 99, 121, 114, 101, 97, 100]⟩ 616) none (.ref 329) .none), #[]⟩ := by kernel_rfl
theorem C_TokenRow_take (P : Params) : codeIn (KK P) (.ref 329) (Str.ofString "TokenRow.take") = true := by kernel_rfl
theorem KI_TokenRow_take (P : Params) : keepIn (KK P) (.ref 330) = true := by kernel_rfl
theorem L_TokenRow_number (P : Params) : (KK P).lookup 337 = some ⟨.type "function", none, .func (fnOf (Str.ofString "number") (Str.ofString "TokenRow.number") (pparams s_TokenRow_number) (pbody s_TokenRow_number) (pscope s_TokenRow_number) .none .none .none (.str ⟨#[114, 111, 117, 116, 101, 108, 111, 111, 109, 46, 112, 111, 108, 105, 99, 121, 114, 101, 97, 100]⟩ 616) none (.ref 336) .none), #[]⟩ := by kernel_rfl
theorem C_TokenRow_number (P : Params) : codeIn (KK P) (.ref 336) (Str.ofString "TokenRow.number") = true := by kernel_rfl
theorem KI_TokenRow_number (P : Params) : keepIn (KK P) (.ref 337) = true := by kernel_rfl
theorem L_TokenRow_one_of (P : Params) : (KK P).lookup 349 = some ⟨.type "function", none, .func (fnOf (Str.ofString "one_of") (Str.ofString "TokenRow.one_of") (pparams s_TokenRow_one_of) (pbody s_TokenRow_one_of) (pscope s_TokenRow_one_of) .none .none .none (.str ⟨#[114, 111, 117, 116, 101, 108, 111, 111, 109, 46, 112, 111, 108, 105, 99, 121, 114, 101, 97, 100]⟩ 616) none (.ref 348) .none), #[]⟩ := by kernel_rfl
theorem C_TokenRow_one_of (P : Params) : codeIn (KK P) (.ref 348) (Str.ofString "TokenRow.one_of") = true := by kernel_rfl
theorem KI_TokenRow_one_of (P : Params) : keepIn (KK P) (.ref 349) = true := by kernel_rfl
theorem L_ConditionReader__init (P : Params) : (KK P).lookup 370 = some ⟨.type "function", none, .func (fnOf (Str.ofString "__init__") (Str.ofString "ConditionReader.__init__") (pparams s_ConditionReader__init) (pbody s_ConditionReader__init) (pscope s_ConditionReader__init) .none .none .none (.str ⟨#[114, 111, 117, 116, 101, 108, 111, 111, 109, 46, 112, 111, 108, 105, 99, 121, 114, 101, 97, 100]⟩ 616) none (.ref 369) .none), #[]⟩ := by kernel_rfl
theorem C_ConditionReader__init (P : Params) : codeIn (KK P) (.ref 369) (Str.ofString "ConditionReader.__init__") = true := by kernel_rfl
theorem KI_ConditionReader__init (P : Params) : keepIn (KK P) (.ref 370) = true := by kernel_rfl
theorem L_ConditionReader_need_depth (P : Params) : (KK P).lookup 377 = some ⟨.type "function", none, .func (fnOf (Str.ofString "need_depth") (Str.ofString "ConditionReader.need_depth") (pparams s_ConditionReader_need_depth) (pbody s_ConditionReader_need_depth) (pscope s_ConditionReader_need_depth) .none .none .none (.str ⟨#[114, 111, 117, 116, 101, 108, 111, 111, 109, 46, 112, 111, 108, 105, 99, 121, 114, 101, 97, 100]⟩ 616) none (.ref 376) .none), #[]⟩ := by kernel_rfl
theorem C_ConditionReader_need_depth (P : Params) : codeIn (KK P) (.ref 376) (Str.ofString "ConditionReader.need_depth") = true := by kernel_rfl
theorem KI_ConditionReader_need_depth (P : Params) : keepIn (KK P) (.ref 377) = true := by kernel_rfl
theorem L_ConditionReader_need_room (P : Params) : (KK P).lookup 384 = some ⟨.type "function", none, .func (fnOf (Str.ofString "need_room") (Str.ofString "ConditionReader.need_room") (pparams s_ConditionReader_need_room) (pbody s_ConditionReader_need_room) (pscope s_ConditionReader_need_room) .none .none .none (.str ⟨#[114, 111, 117, 116, 101, 108, 111, 111, 109, 46, 112, 111, 108, 105, 99, 121, 114, 101, 97, 100]⟩ 616) none (.ref 383) .none), #[]⟩ := by kernel_rfl
theorem C_ConditionReader_need_room (P : Params) : codeIn (KK P) (.ref 383) (Str.ofString "ConditionReader.need_room") = true := by kernel_rfl
theorem KI_ConditionReader_need_room (P : Params) : keepIn (KK P) (.ref 384) = true := by kernel_rfl
theorem L_ConditionReader_any_of (P : Params) : (KK P).lookup 391 = some ⟨.type "function", none, .func (fnOf (Str.ofString "any_of") (Str.ofString "ConditionReader.any_of") (pparams s_ConditionReader_any_of) (pbody s_ConditionReader_any_of) (pscope s_ConditionReader_any_of) .none .none .none (.str ⟨#[114, 111, 117, 116, 101, 108, 111, 111, 109, 46, 112, 111, 108, 105, 99, 121, 114, 101, 97, 100]⟩ 616) none (.ref 390) .none), #[]⟩ := by kernel_rfl
theorem C_ConditionReader_any_of (P : Params) : codeIn (KK P) (.ref 390) (Str.ofString "ConditionReader.any_of") = true := by kernel_rfl
theorem KI_ConditionReader_any_of (P : Params) : keepIn (KK P) (.ref 391) = true := by kernel_rfl
theorem L_ConditionReader_all_of (P : Params) : (KK P).lookup 398 = some ⟨.type "function", none, .func (fnOf (Str.ofString "all_of") (Str.ofString "ConditionReader.all_of") (pparams s_ConditionReader_all_of) (pbody s_ConditionReader_all_of) (pscope s_ConditionReader_all_of) .none .none .none (.str ⟨#[114, 111, 117, 116, 101, 108, 111, 111, 109, 46, 112, 111, 108, 105, 99, 121, 114, 101, 97, 100]⟩ 616) none (.ref 397) .none), #[]⟩ := by kernel_rfl
theorem C_ConditionReader_all_of (P : Params) : codeIn (KK P) (.ref 397) (Str.ofString "ConditionReader.all_of") = true := by kernel_rfl
theorem KI_ConditionReader_all_of (P : Params) : keepIn (KK P) (.ref 398) = true := by kernel_rfl
theorem L_ConditionReader_plain (P : Params) : (KK P).lookup 405 = some ⟨.type "function", none, .func (fnOf (Str.ofString "plain") (Str.ofString "ConditionReader.plain") (pparams s_ConditionReader_plain) (pbody s_ConditionReader_plain) (pscope s_ConditionReader_plain) .none .none .none (.str ⟨#[114, 111, 117, 116, 101, 108, 111, 111, 109, 46, 112, 111, 108, 105, 99, 121, 114, 101, 97, 100]⟩ 616) none (.ref 404) .none), #[]⟩ := by kernel_rfl
theorem C_ConditionReader_plain (P : Params) : codeIn (KK P) (.ref 404) (Str.ofString "ConditionReader.plain") = true := by kernel_rfl
theorem KI_ConditionReader_plain (P : Params) : keepIn (KK P) (.ref 405) = true := by kernel_rfl
theorem L_ConditionReader_about_prefix (P : Params) : (KK P).lookup 412 = some ⟨.type "function", none, .func (fnOf (Str.ofString "about_prefix") (Str.ofString "ConditionReader.about_prefix") (pparams s_ConditionReader_about_prefix) (pbody s_ConditionReader_about_prefix) (pscope s_ConditionReader_about_prefix) .none .none .none (.str ⟨#[114, 111, 117, 116, 101, 108, 111, 111, 109, 46, 112, 111, 108, 105, 99, 121, 114, 101, 97, 100]⟩ 616) none (.ref 411) .none), #[]⟩ := by kernel_rfl
theorem C_ConditionReader_about_prefix (P : Params) : codeIn (KK P) (.ref 411) (Str.ofString "ConditionReader.about_prefix") = true := by kernel_rfl
theorem KI_ConditionReader_about_prefix (P : Params) : keepIn (KK P) (.ref 412) = true := by kernel_rfl
theorem L_PolicyReader_block (P : Params) : (KK P).lookup 431 = some ⟨.type "function", none, .func (fnOf (Str.ofString "block") (Str.ofString "PolicyReader.block") (pparams s_PolicyReader_block) (pbody s_PolicyReader_block) (pscope s_PolicyReader_block) .none .none .none (.str ⟨#[114, 111, 117, 116, 101, 108, 111, 111, 109, 46, 112, 111, 108, 105, 99, 121, 114, 101, 97, 100]⟩ 616) none (.ref 430) .none), #[]⟩ := by kernel_rfl
theorem C_PolicyReader_block (P : Params) : codeIn (KK P) (.ref 430) (Str.ofString "PolicyReader.block") = true := by kernel_rfl
theorem KI_PolicyReader_block (P : Params) : keepIn (KK P) (.ref 431) = true := by kernel_rfl
theorem L_PolicyReader_statements (P : Params) : (KK P).lookup 438 = some ⟨.type "function", none, .func (fnOf (Str.ofString "statements") (Str.ofString "PolicyReader.statements") (pparams s_PolicyReader_statements) (pbody s_PolicyReader_statements) (pscope s_PolicyReader_statements) .none .none .none (.str ⟨#[114, 111, 117, 116, 101, 108, 111, 111, 109, 46, 112, 111, 108, 105, 99, 121, 114, 101, 97, 100]⟩ 616) none (.ref 437) .none), #[]⟩ := by kernel_rfl
theorem C_PolicyReader_statements (P : Params) : codeIn (KK P) (.ref 437) (Str.ofString "PolicyReader.statements") = true := by kernel_rfl
theorem KI_PolicyReader_statements (P : Params) : keepIn (KK P) (.ref 438) = true := by kernel_rfl
theorem L_PolicyReader_statement (P : Params) : (KK P).lookup 445 = some ⟨.type "function", none, .func (fnOf (Str.ofString "statement") (Str.ofString "PolicyReader.statement") (pparams s_PolicyReader_statement) (pbody s_PolicyReader_statement) (pscope s_PolicyReader_statement) .none .none .none (.str ⟨#[114, 111, 117, 116, 101, 108, 111, 111, 109, 46, 112, 111, 108, 105, 99, 121, 114, 101, 97, 100]⟩ 616) none (.ref 444) .none), #[]⟩ := by kernel_rfl
theorem C_PolicyReader_statement (P : Params) : codeIn (KK P) (.ref 444) (Str.ofString "PolicyReader.statement") = true := by kernel_rfl
theorem KI_PolicyReader_statement (P : Params) : keepIn (KK P) (.ref 445) = true := by kernel_rfl
theorem L_PolicyReader_term (P : Params) : (KK P).lookup 459 = some ⟨.type "function", none, .func (fnOf (Str.ofString "term") (Str.ofString "PolicyReader.term") (pparams s_PolicyReader_term) (pbody s_PolicyReader_term) (pscope s_PolicyReader_term) .none .none .none (.str ⟨#[114, 111, 117, 116, 101, 108, 111, 111, 109, 46, 112, 111, 108, 105, 99, 121, 114, 101, 97, 100]⟩ 616) none (.ref 458) .none), #[]⟩ := by kernel_rfl
theorem C_PolicyReader_term (P : Params) : codeIn (KK P) (.ref 458) (Str.ofString "PolicyReader.term") = true := by kernel_rfl
theorem KI_PolicyReader_term (P : Params) : keepIn (KK P) (.ref 459) = true := by kernel_rfl
theorem L_PolicyReader_policy (P : Params) : (KK P).lookup 464 = some ⟨.type "function", none, .func (fnOf (Str.ofString "policy") (Str.ofString "PolicyReader.policy") (pparams s_PolicyReader_policy) (pbody s_PolicyReader_policy) (pscope s_PolicyReader_policy) .none .none .none (.str ⟨#[114, 111, 117, 116, 101, 108, 111, 111, 109, 46, 112, 111, 108, 105, 99, 121, 114, 101, 97, 100]⟩ 616) none (.ref 463) .none), #[]⟩ := by kernel_rfl
theorem C_PolicyReader_policy (P : Params) : codeIn (KK P) (.ref 463) (Str.ofString "PolicyReader.policy") = true := by kernel_rfl
theorem KI_PolicyReader_policy (P : Params) : keepIn (KK P) (.ref 464) = true := by kernel_rfl
theorem L_read_policy (P : Params) : (KK P).lookup 477 = some ⟨.type "function", none, .func (fnOf (Str.ofString "read_policy") (Str.ofString "read_policy") (pparams s_read_policy) (pbody s_read_policy) (pscope s_read_policy) (.ref 470) .none .none (.str ⟨#[114, 111, 117, 116, 101, 108, 111, 111, 109, 46, 112, 111, 108, 105, 99, 121, 114, 101, 97, 100]⟩ 616) none (.ref 476) .none), #[]⟩ := by kernel_rfl
theorem C_read_policy (P : Params) : codeIn (KK P) (.ref 476) (Str.ofString "read_policy") = true := by kernel_rfl
theorem KI_read_policy (P : Params) : keepIn (KK P) (.ref 477) = true := by kernel_rfl
theorem G_read_policy (P : Params) : nsIn (KK P) mainGlobals (Str.ofString "read_policy") = some (some (.ref 477)) := by kernel_rfl
theorem L_law_draw (P : Params) : (KK P).lookup 484 = some ⟨.type "function", none, .func (fnOf (Str.ofString "_law_draw") (Str.ofString "_law_draw") (pparams s_law_draw) (pbody s_law_draw) (pscope s_law_draw) .none .none .none (.str ⟨#[108, 97, 119, 95, 115, 122, 48, 49, 49, 56, 95, 48, 49]⟩ 949) none (.ref 483) .none), #[]⟩ := by kernel_rfl
theorem C_law_draw (P : Params) : codeIn (KK P) (.ref 483) (Str.ofString "_law_draw") = true := by kernel_rfl
theorem KI_law_draw (P : Params) : keepIn (KK P) (.ref 484) = true := by kernel_rfl
theorem G_law_draw (P : Params) : nsIn (KK P) mainGlobals (Str.ofString "_law_draw") = some (some (.ref 484)) := by kernel_rfl
theorem L_law_all (P : Params) : (KK P).lookup 491 = some ⟨.type "function", none, .func (fnOf (Str.ofString "_law_all") (Str.ofString "_law_all") (pparams s_law_all) (pbody s_law_all) (pscope s_law_all) .none .none .none (.str ⟨#[108, 97, 119, 95, 115, 122, 48, 49, 49, 56, 95, 48, 49]⟩ 949) none (.ref 490) .none), #[]⟩ := by kernel_rfl
theorem C_law_all (P : Params) : codeIn (KK P) (.ref 490) (Str.ofString "_law_all") = true := by kernel_rfl
theorem KI_law_all (P : Params) : keepIn (KK P) (.ref 491) = true := by kernel_rfl
theorem G_law_all (P : Params) : nsIn (KK P) mainGlobals (Str.ofString "_law_all") = some (some (.ref 491)) := by kernel_rfl
theorem L_law_wide (P : Params) : (KK P).lookup 498 = some ⟨.type "function", none, .func (fnOf (Str.ofString "_law_wide") (Str.ofString "_law_wide") (pparams s_law_wide) (pbody s_law_wide) (pscope s_law_wide) .none .none .none (.str ⟨#[108, 97, 119, 95, 115, 122, 48, 49, 49, 56, 95, 48, 49]⟩ 949) none (.ref 497) .none), #[]⟩ := by kernel_rfl
theorem C_law_wide (P : Params) : codeIn (KK P) (.ref 497) (Str.ofString "_law_wide") = true := by kernel_rfl
theorem KI_law_wide (P : Params) : keepIn (KK P) (.ref 498) = true := by kernel_rfl
theorem G_law_wide (P : Params) : nsIn (KK P) mainGlobals (Str.ofString "_law_wide") = some (some (.ref 498)) := by kernel_rfl
theorem L_law_word (P : Params) : (KK P).lookup 505 = some ⟨.type "function", none, .func (fnOf (Str.ofString "_law_word") (Str.ofString "_law_word") (pparams s_law_word) (pbody s_law_word) (pscope s_law_word) .none .none .none (.str ⟨#[108, 97, 119, 95, 115, 122, 48, 49, 49, 56, 95, 48, 49]⟩ 949) none (.ref 504) .none), #[]⟩ := by kernel_rfl
theorem C_law_word (P : Params) : codeIn (KK P) (.ref 504) (Str.ofString "_law_word") = true := by kernel_rfl
theorem KI_law_word (P : Params) : keepIn (KK P) (.ref 505) = true := by kernel_rfl
theorem G_law_word (P : Params) : nsIn (KK P) mainGlobals (Str.ofString "_law_word") = some (some (.ref 505)) := by kernel_rfl
theorem L_law_covers (P : Params) : (KK P).lookup 512 = some ⟨.type "function", none, .func (fnOf (Str.ofString "_law_covers") (Str.ofString "_law_covers") (pparams s_law_covers) (pbody s_law_covers) (pscope s_law_covers) .none .none .none (.str ⟨#[108, 97, 119, 95, 115, 122, 48, 49, 49, 56, 95, 48, 49]⟩ 949) none (.ref 511) .none), #[]⟩ := by kernel_rfl
theorem C_law_covers (P : Params) : codeIn (KK P) (.ref 511) (Str.ofString "_law_covers") = true := by kernel_rfl
theorem KI_law_covers (P : Params) : keepIn (KK P) (.ref 512) = true := by kernel_rfl
theorem G_law_covers (P : Params) : nsIn (KK P) mainGlobals (Str.ofString "_law_covers") = some (some (.ref 512)) := by kernel_rfl
theorem L_law_set (P : Params) : (KK P).lookup 517 = some ⟨.type "function", none, .func (fnOf (Str.ofString "_law_set") (Str.ofString "_law_set") (pparams s_law_set) (pbody s_law_set) (pscope s_law_set) .none .none .none (.str ⟨#[108, 97, 119, 95, 115, 122, 48, 49, 49, 56, 95, 48, 49]⟩ 949) none (.ref 516) .none), #[]⟩ := by kernel_rfl
theorem C_law_set (P : Params) : codeIn (KK P) (.ref 516) (Str.ofString "_law_set") = true := by kernel_rfl
theorem KI_law_set (P : Params) : keepIn (KK P) (.ref 517) = true := by kernel_rfl
theorem G_law_set (P : Params) : nsIn (KK P) mainGlobals (Str.ofString "_law_set") = some (some (.ref 517)) := by kernel_rfl
theorem L_law_let (P : Params) : (KK P).lookup 522 = some ⟨.type "function", none, .func (fnOf (Str.ofString "_law_let") (Str.ofString "_law_let") (pparams s_law_let) (pbody s_law_let) (pscope s_law_let) .none .none .none (.str ⟨#[108, 97, 119, 95, 115, 122, 48, 49, 49, 56, 95, 48, 49]⟩ 949) none (.ref 521) .none), #[]⟩ := by kernel_rfl
theorem C_law_let (P : Params) : codeIn (KK P) (.ref 521) (Str.ofString "_law_let") = true := by kernel_rfl
theorem KI_law_let (P : Params) : keepIn (KK P) (.ref 522) = true := by kernel_rfl
theorem G_law_let (P : Params) : nsIn (KK P) mainGlobals (Str.ofString "_law_let") = some (some (.ref 522)) := by kernel_rfl
theorem L_law_run (P : Params) : (KK P).lookup 527 = some ⟨.type "function", none, .func (fnOf (Str.ofString "_law_run") (Str.ofString "_law_run") (pparams s_law_run) (pbody s_law_run) (pscope s_law_run) .none .none .none (.str ⟨#[108, 97, 119, 95, 115, 122, 48, 49, 49, 56, 95, 48, 49]⟩ 949) none (.ref 526) .none), #[]⟩ := by kernel_rfl
theorem C_law_run (P : Params) : codeIn (KK P) (.ref 526) (Str.ofString "_law_run") = true := by kernel_rfl
theorem KI_law_run (P : Params) : keepIn (KK P) (.ref 527) = true := by kernel_rfl
theorem G_law_run (P : Params) : nsIn (KK P) mainGlobals (Str.ofString "_law_run") = some (some (.ref 527)) := by kernel_rfl
theorem L_law_turned (P : Params) : (KK P).lookup 534 = some ⟨.type "function", none, .func (fnOf (Str.ofString "_law_turned") (Str.ofString "_law_turned") (pparams s_law_turned) (pbody s_law_turned) (pscope s_law_turned) .none .none .none (.str ⟨#[108, 97, 119, 95, 115, 122, 48, 49, 49, 56, 95, 48, 49]⟩ 949) none (.ref 533) .none), #[]⟩ := by kernel_rfl
theorem C_law_turned (P : Params) : codeIn (KK P) (.ref 533) (Str.ofString "_law_turned") = true := by kernel_rfl
theorem KI_law_turned (P : Params) : keepIn (KK P) (.ref 534) = true := by kernel_rfl
theorem G_law_turned (P : Params) : nsIn (KK P) mainGlobals (Str.ofString "_law_turned") = some (some (.ref 534)) := by kernel_rfl
theorem L_law_meet (P : Params) : (KK P).lookup 541 = some ⟨.type "function", none, .func (fnOf (Str.ofString "_law_meet") (Str.ofString "_law_meet") (pparams s_law_meet) (pbody s_law_meet) (pscope s_law_meet) .none .none .none (.str ⟨#[108, 97, 119, 95, 115, 122, 48, 49, 49, 56, 95, 48, 49]⟩ 949) none (.ref 540) .none), #[]⟩ := by kernel_rfl
theorem C_law_meet (P : Params) : codeIn (KK P) (.ref 540) (Str.ofString "_law_meet") = true := by kernel_rfl
theorem KI_law_meet (P : Params) : keepIn (KK P) (.ref 541) = true := by kernel_rfl
theorem G_law_meet (P : Params) : nsIn (KK P) mainGlobals (Str.ofString "_law_meet") = some (some (.ref 541)) := by kernel_rfl
theorem L_law_held (P : Params) : (KK P).lookup 546 = some ⟨.type "function", none, .func (fnOf (Str.ofString "_law_held") (Str.ofString "_law_held") (pparams s_law_held) (pbody s_law_held) (pscope s_law_held) .none .none .none (.str ⟨#[108, 97, 119, 95, 115, 122, 48, 49, 49, 56, 95, 48, 49]⟩ 949) none (.ref 545) .none), #[]⟩ := by kernel_rfl
theorem C_law_held (P : Params) : codeIn (KK P) (.ref 545) (Str.ofString "_law_held") = true := by kernel_rfl
theorem KI_law_held (P : Params) : keepIn (KK P) (.ref 546) = true := by kernel_rfl
theorem G_law_held (P : Params) : nsIn (KK P) mainGlobals (Str.ofString "_law_held") = some (some (.ref 546)) := by kernel_rfl
theorem L_law (P : Params) : (KK P).lookup 551 = some ⟨.type "function", none, .func (fnOf (Str.ofString "law") (Str.ofString "law") (pparams s_law) (pbody s_law) (pscope s_law) .none .none .none (.str ⟨#[108, 97, 119, 95, 115, 122, 48, 49, 49, 56, 95, 48, 49]⟩ 949) none (.ref 550) .none), #[]⟩ := by kernel_rfl
theorem C_law (P : Params) : codeIn (KK P) (.ref 550) (Str.ofString "law") = true := by kernel_rfl
theorem KI_law (P : Params) : keepIn (KK P) (.ref 551) = true := by kernel_rfl
theorem G_law (P : Params) : nsIn (KK P) mainGlobals (Str.ofString "law") = some (some (.ref 551)) := by kernel_rfl
/-! Top -/
theorem T_WIRE_BITS (P : Params) : topVal (KK P) (Str.ofString "WIRE_BITS") = some (.int 32) := by kernel_rfl
theorem T_FIGURES_prefixes (P : Params) : topVal (KK P) (Str.ofString "FIGURES_prefixes") = some (.str (Str.ofString "0123456789")) := by kernel_rfl
theorem T_ON (P : Params) : topVal (KK P) (Str.ofString "ON") = some (.int 0) := by kernel_rfl
theorem T_ACCEPTED (P : Params) : topVal (KK P) (Str.ofString "ACCEPTED") = some (.int 1) := by kernel_rfl
theorem T_REJECTED (P : Params) : topVal (KK P) (Str.ofString "REJECTED") = some (.int 2) := by kernel_rfl
theorem T_LETTERS (P : Params) : topVal (KK P) (Str.ofString "LETTERS") = some (.str (Str.ofString "abcdefghijklmnopqrstuvwxyzABCDEFGHIJKLMNOPQRSTUVWXYZ")) := by kernel_rfl
theorem T_WORD_SIGNS (P : Params) : topVal (KK P) (Str.ofString "WORD_SIGNS") = some (.str (Str.ofString "abcdefghijklmnopqrstuvwxyzABCDEFGHIJKLMNOPQRSTUVWXYZ0123456789-_")) := by kernel_rfl
theorem T_NUMBER_SIGNS (P : Params) : topVal (KK P) (Str.ofString "NUMBER_SIGNS") = some (.str (Str.ofString "0123456789./:")) := by kernel_rfl
theorem T_BLANKS (P : Params) : topVal (KK P) (Str.ofString "BLANKS") = some (.str (Str.ofString " \t\r\n")) := by kernel_rfl
theorem T_SHORT_SIGNS (P : Params) : topVal (KK P) (Str.ofString "SHORT_SIGNS") = some (.str (Str.ofString "{}();<>=")) := by kernel_rfl
theorem T_MOST_FIGURES (P : Params) : topVal (KK P) (Str.ofString "MOST_FIGURES") = some (.int 10) := by kernel_rfl
theorem T_MOST_NUMBER_policylex (P : Params) : topVal (KK P) (Str.ofString "MOST_NUMBER_policylex") = some (.int 4294967295) := by kernel_rfl
theorem T_MOST_PARTS (P : Params) : topVal (KK P) (Str.ofString "MOST_PARTS") = some (.int 32) := by kernel_rfl
theorem T_LONG_SIGNS (P : Params) : topVal (KK P) (Str.ofString "LONG_SIGNS") = some (.tup [.str (Str.ofString "<="), .str (Str.ofString ">="), .str (Str.ofString "!=")]) := by kernel_rfl
theorem T_VERDICTS (P : Params) : topVal (KK P) (Str.ofString "VERDICTS") = some (.tup [.str (Str.ofString "accept"), .str (Str.ofString "reject"), .str (Str.ofString "next")]) := by kernel_rfl
theorem T_RESERVED (P : Params) : topVal (KK P) (Str.ofString "RESERVED") = some (.tup [.str (Str.ofString "term"), .str (Str.ofString "default"), .str (Str.ofString "if"), .str (Str.ofString "then"), .str (Str.ofString "else"), .str (Str.ofString "and"), .str (Str.ofString "or"), .str (Str.ofString "not"), .str (Str.ofString "true"), .str (Str.ofString "prefix"), .str (Str.ofString "in"), .str (Str.ofString "is"), .str (Str.ofString "ge"), .str (Str.ofString "le"), .str (Str.ofString "community"), .str (Str.ofString "as-path"), .str (Str.ofString "has"), .str (Str.ofString "first"), .str (Str.ofString "set"), .str (Str.ofString "add"), .str (Str.ofString "drop"), .str (Str.ofString "clear"), .str (Str.ofString "prepend"), .str (Str.ofString "self"), .str (Str.ofString "accept"), .str (Str.ofString "reject"), .str (Str.ofString "next"), .str (Str.ofString "med"), .str (Str.ofString "local-pref"), .str (Str.ofString "as-length"), .str (Str.ofString "length"), .str (Str.ofString "peer-as"), .str (Str.ofString "tag"), .str (Str.ofString "igp"), .str (Str.ofString "egp"), .str (Str.ofString "incomplete"), .str (Str.ofString "local-pref"), .str (Str.ofString "med"), .str (Str.ofString "origin"), .str (Str.ofString "next-hop"), .str (Str.ofString "tag")]) := by kernel_rfl
theorem B_len (P : Params) : nsIn (KK P) mainGlobals (Str.ofString "len") = some Option.none := by kernel_rfl
theorem BB_len : bootBuiltins (Str.ofString "len") = some (.builtin "len") := by decide +kernel
theorem B_abs (P : Params) : nsIn (KK P) mainGlobals (Str.ofString "abs") = some Option.none := by kernel_rfl
theorem BB_abs : bootBuiltins (Str.ofString "abs") = some (.builtin "abs") := by decide +kernel
theorem B_min (P : Params) : nsIn (KK P) mainGlobals (Str.ofString "min") = some Option.none := by kernel_rfl
theorem BB_min : bootBuiltins (Str.ofString "min") = some (.builtin "min") := by decide +kernel
theorem B_max (P : Params) : nsIn (KK P) mainGlobals (Str.ofString "max") = some Option.none := by kernel_rfl
theorem BB_max : bootBuiltins (Str.ofString "max") = some (.builtin "max") := by decide +kernel
theorem B_str (P : Params) : nsIn (KK P) mainGlobals (Str.ofString "str") = some Option.none := by kernel_rfl
theorem BB_str : bootBuiltins (Str.ofString "str") = some (.type "str") := by decide +kernel
theorem B_tuple (P : Params) : nsIn (KK P) mainGlobals (Str.ofString "tuple") = some Option.none := by kernel_rfl
theorem BB_tuple : bootBuiltins (Str.ofString "tuple") = some (.type "tuple") := by decide +kernel
theorem B_list (P : Params) : nsIn (KK P) mainGlobals (Str.ofString "list") = some Option.none := by kernel_rfl
theorem BB_list : bootBuiltins (Str.ofString "list") = some (.type "list") := by decide +kernel
theorem B_range (P : Params) : nsIn (KK P) mainGlobals (Str.ofString "range") = some Option.none := by kernel_rfl
theorem BB_range : bootBuiltins (Str.ofString "range") = some (.type "range") := by decide +kernel
theorem B_enumerate (P : Params) : nsIn (KK P) mainGlobals (Str.ofString "enumerate") = some Option.none := by kernel_rfl
theorem BB_enumerate : bootBuiltins (Str.ofString "enumerate") = some (.type "enumerate") := by decide +kernel
theorem G_ENDS (P : Params) : nsIn (KK P) mainGlobals (Str.ofString "ENDS") = some (some (.ref 151)) := by kernel_rfl
theorem G_PolicyReader (P : Params) : nsIn (KK P) mainGlobals (Str.ofString "PolicyReader") = some (some (.ref 467)) := by kernel_rfl
theorem KI_PolicyReader (P : Params) : keepIn (KK P) (.ref 467) = true := by kernel_rfl
theorem G_TokenRow (P : Params) : nsIn (KK P) mainGlobals (Str.ofString "TokenRow") = some (some (.ref 352)) := by kernel_rfl
/-! Glue -/
section
variable {hT : Heap} {prog : Program} {w : World} {c : Cx} {ν : Loc} {μ : Store}
theorem andThen_ret {rest : List Stmt} {k : Kt Fl} {d : AV} (h : k (.ret d) ν μ) : andThen hT prog w c rest k (.ret d) ν μ := h
theorem andThen_next {rest : List Stmt} {k : Kt Fl} (h : EvSs hT prog w c rest ν μ k) : andThen hT prog w c rest k .next ν μ := h
theorem fnEnd_ret {k : AV → Store → Prop} {d : AV} (h : k d μ) : fnEnd k (.ret d) ν μ := ⟨μ, List.Sublist.refl _, h⟩
theorem fnEnd_next {k : AV → Store → Prop} (h : k .none μ) : fnEnd k .next ν μ := ⟨μ, List.Sublist.refl _, h⟩
/-- the end of a def that leaves nothing -/
theorem fnEnd_ret0 {k : AV → Store → Prop} {d : AV} (h : k d []) : fnEnd k (.ret d) ν μ := ⟨[], List.nil_sublist _, h⟩
theorem brT {b : Bool} {P Q : Prop} (h : b = true) (p : P) : (b = true → P) ∧ (b = false → Q) := ⟨fun _ => p, fun q => by rw [h] at q; cases q⟩
theorem brF {b : Bool} {P Q : Prop} (h : b = false) (q : Q) : (b = true → P) ∧ (b = false → Q) := ⟨fun p => (by rw [h] at p; cases p), fun _ => q⟩
/-- what a contract gives: a datum, the store as told -/
noncomputable def Gives (d : AV) (μ : Store) : AV → Store → Prop := fun e ρ => e = d ∧ ρ = μ
theorem EvL.gives {n : Nat} {f : Value} {ds : List AV} {d : AV} {k : Kt AV} (hn : n ≤ c.n) (h : Spec hT prog w n f ds [] (Gives d [])) (hk : k d ν μ) : EvL hT prog w c (fun vs => call f vs) Rd ds ν μ k :=
  EvL.pure hn h (fun e q => by obtain ⟨rfl, _⟩ := q; exact hk) fun _ _ q => q.2

theorem Ev1.mono {α β : Type} {f : Value → Sem α} {rel : Fz → α → β → Prop} {d : AV} {k k' : Kt β} (h : Ev1 hT prog w c f rel d ν μ k) (q : ∀ y ν' μ', k y ν' μ' → k' y ν' μ') : Ev1 hT prog w c f rel d ν μ k' :=
  fun g s Q v r hv hQ => h g s Q v r hv fun g' s' x y ν' μ' e r' l k₁ => hQ g' s' x y ν' μ' e r' l (q _ _ _ k₁)
theorem ForL.inv {target : Expr} {body : List Stmt} {k : Kt Fl} (I : List AV → Loc → Store → Prop)
    (hstep : ∀ d ds ν μ, I (d :: ds) ν μ → Ev1 hT prog w c (assign target c.env) any d ν μ fun _ ν₁ μ₁ => EvSs hT prog w c body ν₁ μ₁ fun fl ν₂ μ₂ => match fl with
      | .next => I ds ν₂ μ₂
      | .cont => I ds ν₂ μ₂
      | .brk => k .next ν₂ μ₂
      | .ret d => k (.ret d) ν₂ μ₂) (hend : ∀ ν μ, I [] ν μ → k .next ν μ) : ∀ ds ν μ, I ds ν μ → ForL hT prog w c target body ds ν μ k
  | [], ν, μ, h => hend ν μ h
  | d :: ds, ν, μ, h => Ev1.mono (hstep d ds ν μ h) fun _ ν₁ μ₁ h₁ => Ev.mono h₁ fun fl ν₂ μ₂ h₂ => by
    cases fl with
    | next => exact ForL.inv I hstep hend ds ν₂ μ₂ h₂
    | cont => exact ForL.inv I hstep hend ds ν₂ μ₂ h₂
    | brk => exact h₂
    | ret d => exact h₂
theorem EvS.whileI {test : Expr} {body : List Stmt} {pos} {k : Kt Fl} (I : Nat → Loc → Store → Prop) (n : Nat) (h0 : I n ν μ)
    (hstep : ∀ n ν μ, I n ν μ → EvT hT prog w c test ν μ fun b ν₁ μ₁ => (b = true → ∃ m, n = m + 1 ∧ EvSs hT prog w c body ν₁ μ₁ fun fl ν₂ μ₂ => match fl with
      | .next => I m ν₂ μ₂
      | .cont => I m ν₂ μ₂
      | .brk => k .next ν₂ μ₂
      | .ret d => k (.ret d) ν₂ μ₂) ∧ (b = false → k .next ν₁ μ₁)) : EvS hT prog w c (.While test body [] pos) ν μ k := by
  refine EvS.while (n + 1) ?_
  have : ∀ n ν μ, I n ν μ → WhileL hT prog w c test body (n + 1) ν μ k := by
    intro n
    induction n with
    | zero =>
      intro ν μ h
      unfold WhileL
      refine Ev.mono (hstep _ _ _ h) fun b ν₁ μ₁ q => ⟨fun hb => ?_, q.2⟩
      obtain ⟨m, hm, _⟩ := q.1 hb
      cases hm
    | succ n ih =>
      intro ν μ h
      unfold WhileL
      refine Ev.mono (hstep _ _ _ h) fun b ν₁ μ₁ q => ⟨fun hb => ?_, q.2⟩
      obtain ⟨m, hm, q⟩ := q.1 hb
      cases hm
      refine Ev.mono q fun fl ν₂ μ₂ h₂ => ?_
      cases fl with
      | next => exact ih _ _ h₂
      | cont => exact ih _ _ h₂
      | brk => exact h₂
      | ret d => exact h₂
  exact this n ν μ h0
theorem CompL.inv {target elt : Expr} {ifs : List Expr} {D : Addr} {k : List AV → Prop} (I : List AV → Loc → List AV → Prop)
    (hstep : ∀ d ds ν acc, I (d :: ds) ν acc → Ev1 hT prog w c (assign target c.env) any d ν [(D, .list acc)] fun _ ν₁ μ₁ => μ₁ = [(D, .list acc)] ∧ EvIfs hT prog w c ifs ν₁ [(D, .list acc)] fun ok ν₂ μ₂ => μ₂ = [(D, .list acc)] ∧
      (ok = true → EvE hT prog w c elt ν₂ [(D, .list acc)] fun e ν₃ μ₃ => μ₃ = [(D, .list acc)] ∧ I ds ν₃ (acc ++ [e])) ∧ (ok = false → I ds ν₂ acc))
    (hend : ∀ ν acc, I [] ν acc → k acc) : ∀ ds ν acc, I ds ν acc → CompL hT prog w c target ifs elt D ds ν acc k
  | [], ν, acc, h => hend ν acc h
  | d :: ds, ν, acc, h => Ev1.mono (hstep d ds ν acc h) fun _ ν₁ μ₁ h₁ => ⟨h₁.1, Ev.mono h₁.2 fun ok ν₂ μ₂ h₂ => ⟨h₂.1, fun q => Ev.mono (h₂.2.1 q) fun e ν₃ μ₃ h₃ => ⟨h₃.1, CompL.inv I hstep hend ds ν₃ _ h₃.2⟩, fun q => CompL.inv I hstep hend ds ν₂ _ (h₂.2.2 q)⟩⟩
theorem Ev2.subStrN {value slice : Expr} {x : Str} {i : Int} {ch : Nat} {k : Kt AV} (h0 : 0 ≤ i) (hz : x.length ≤ 1000000) (hc : x.cps[i.toNat]? = some ch) (h : k (.str ⟨#[ch]⟩) ν μ)
    (hs : ∀ o i, subscripted slice false o i = operate [o, i] (getItem o i) := by exact fun _ _ => rfl) : Ev2 hT prog w c (subscriptTail value slice) Rd (.str x) (.int i) ν μ k := by
  have hlt : i.toNat < x.cps.size := (Array.getElem?_eq_some_iff.mp hc).1
  have e : x.cps.size = x.length := rfl
  exact Ev2.subStr (by rw [StrLaws.seqIndex_nonneg h0 (by omega)]; exact hc) h hs (by omega) (by omega)
theorem sgl_eq (a b : Nat) : ((⟨#[a]⟩ : Str) == ⟨#[b]⟩) = (a == b) := by
  by_cases q : a = b
  · subst q; simp
  · have : (⟨#[a]⟩ : Str) ≠ ⟨#[b]⟩ := fun e => q (by simpa using congrArg Str.cps e)
    rw [beq_eq_false_iff_ne.mpr this, beq_eq_false_iff_ne.mpr q]
/-- x, y = (a, b): the stores swapped -/
theorem EvS.assignSw {x y : Str} {elts : List Expr} {kk : Nat} {tpos pos} {value : Expr} {k : Kt Fl} (h : EvE hT prog w c value ν μ fun d ν₁ μ₁ => ∃ d₁ d₂, d = .tup [d₁, d₂] ∧ Ev1 hT prog w c (storeName c.env y) any d₂ ν₁ μ₁ fun _ ν₂ μ₂ => Ev1 hT prog w c (storeName c.env x) any d₁ ν₂ μ₂ fun _ => k .next)
    (hs : swapsWithSole [Expr.Tuple elts kk tpos] value pos.line c.env = pure false) (hw : swappedStores [Expr.Tuple elts kk tpos] value c.env = pure (some [x, y])) : EvS hT prog w c (Stmt.Assign [Expr.Tuple elts kk tpos] value pos) ν μ k :=
  fun g s Q r hQ => Assign_Tuple_swapped (names := [x, y]) (h g s _ r fun g₁ s₁ v₁ d ν₁ μ₁ e₁ r₁ rd₁ k₁ => by
    obtain ⟨d₁, d₂, rfl, k₁⟩ := k₁
    obtain ⟨a, o, n, vs, rfl, e, cc, dd, rs⟩ := rd₁.tup_inv
    obtain ⟨v1, v2, rfl, q1, q2⟩ := rs.two
    refine unpackItems_tuple (items := #[v1, v2]) r₁.room.1 ⟨_, r₁.sub _ _ e, cc, _, dd⟩ fun h' he => ?_
    have kp := extBut_kept he
    refine wpAny_assignInOrder_more (bindName_ (k₁ g₁ _ _ _ (r₁.kept kp) q2 fun g₂ s₂ _ _ ν₂ μ₂ e₂ r₂ _ k₂ => wpAny_assignInOrder_more (bindName_ (k₂ g₂ _ _ _ r₂ (q1.mono e₂.le) fun g₃ s₃ _ _ ν₃ μ₃ e₃ r₃ _ k₃ => ?_))))
    exact wpAny_pure (hQ g₃ s₃ _ _ ν₃ μ₃ (((e₁.trans (kp.ext _ g₁)).trans e₂).trans e₃) r₃ .next k₃)) hs hw
theorem tup_ok {l : List AV} {P : Prop} (h : l.length ≤ 1000) (p : P) : l.length ≤ 1000 ∧ P := ⟨h, p⟩
theorem sw_ok {a b : AV} {P : AV → AV → Prop} (h : P a b) : ∃ d₁ d₂, AV.tup [a, b] = AV.tup [d₁, d₂] ∧ P d₁ d₂ := ⟨a, b, rfl, h⟩
theorem int_ok {i : Int} {P : Int → Prop} (h : P i) : ∃ j, AV.int i = AV.int j ∧ P j := ⟨i, rfl, h⟩
theorem str_ok {x : Str} {P : Str → Prop} (h : P x) : ∃ y, AV.str x = AV.str y ∧ P y := ⟨x, rfl, h⟩
theorem lst_ok {l : List AV} {P : List AV → Prop} (h : P l) : ∃ m, Items (AV.lst l) m ∧ P m := ⟨l, .lst l, h⟩
theorem tupIt_ok {l : List AV} {P : List AV → Prop} (h : P l) : ∃ m, Items (AV.tup l) m ∧ P m := ⟨l, .tup l, h⟩
theorem none_ok {P : Prop} (h : P) : AV.none = AV.none ∧ P := ⟨rfl, h⟩
theorem enum_ok {l : List AV} {P : List AV → Prop} (h : P l) : ∃ m, AV.lst l = AV.lst m ∧ P m := ⟨l, rfl, h⟩
theorem app_ok {a : Addr} {l : List AV} {μ₁ : Store} {P : Addr → Prop} (hm : (a, MO.list l) ∈ μ₁) (h : P a) : ∃ b, AV.ref a = .ref b ∧ (∃ l, (b, MO.list l) ∈ μ₁) ∧ P b := ⟨a, rfl, ⟨l, hm⟩, h⟩
theorem app0 {a : Addr} {l : List AV} {μ' : Store} {ν : Loc} {k : Kt AV} {x : AV} (hl : l.length ≤ 100000) (h : k .none ν ((a, .list (l ++ [x])) :: μ')) : ∃ pre l₁ post, (a, MO.list l) :: μ' = pre ++ (a, .list l₁) :: post ∧ l₁.length ≤ 100000 ∧ k .none ν (pre ++ (a, .list (l₁ ++ [x])) :: post) := ⟨[], l, μ', rfl, hl, h⟩
theorem app1 {a : Addr} {p : Addr × MO} {l : List AV} {μ' : Store} {ν : Loc} {k : Kt AV} {x : AV} (hl : l.length ≤ 100000) (h : k .none ν (p :: (a, .list (l ++ [x])) :: μ')) : ∃ pre l₁ post, p :: (a, MO.list l) :: μ' = pre ++ (a, .list l₁) :: post ∧ l₁.length ≤ 100000 ∧ k .none ν (pre ++ (a, .list (l₁ ++ [x])) :: post) := ⟨[p], l, μ', rfl, hl, h⟩
theorem app2 {a : Addr} {p q : Addr × MO} {l : List AV} {μ' : Store} {ν : Loc} {k : Kt AV} {x : AV} (hl : l.length ≤ 100000) (h : k .none ν (p :: q :: (a, .list (l ++ [x])) :: μ')) : ∃ pre l₁ post, p :: q :: (a, MO.list l) :: μ' = pre ++ (a, .list l₁) :: post ∧ l₁.length ≤ 100000 ∧ k .none ν (pre ++ (a, .list (l₁ ++ [x])) :: post) := ⟨[p, q], l, μ', rfl, hl, h⟩
theorem EvE.neg {e : Expr} {pos} {k : Kt AV} (h : EvE hT prog w c e ν μ fun d ν₁ μ₁ => ∃ i, d = .int i ∧ k (.int (-i)) ν₁ μ₁) : EvE hT prog w c (.UnaryOp .USub e pos) ν μ k :=
  fun g s Q r hQ => wpAny_UnaryOp (h g s _ r fun g₁ s₁ v₁ d₁ ν₁ μ₁ e₁ r₁ rd₁ k₁ => by
    obtain ⟨i, rfl, k₁⟩ := k₁
    obtain ⟨_, rfl⟩ := rd₁.int_inv
    exact PyProof.Rows.neg_int (hQ g₁ _ _ _ ν₁ μ₁ (e₁.trans (Ext.toks _)) (r₁.toks _) (.int _ _) k₁))
end
/-! RdF -/
section
theorem HD (P : Params) : hasDictIn (KK P) 467 = true := by kernel_rfl
theorem SA (P : Params) : findIn (KK P) (.ref 467) "__setattr__" = some (some (.builtin "object.__setattr__")) := by kernel_rfl
theorem PO (P : Params) : plainOver (KK P) 467 = true := by kernel_rfl
theorem AP_tokens (P : Params) : plainGet (KK P) 467 (Str.ofString "tokens") = true := by kernel_rfl
theorem AF_tokens (P : Params) : findIn (KK P) (.ref 467) (Str.ofString "tokens") = some Option.none := by kernel_rfl
theorem AT_tokens (P : Params) : takerIn (KK P) 467 (Str.ofString "tokens") = some Option.none := by kernel_rfl
theorem AP_at (P : Params) : plainGet (KK P) 467 (Str.ofString "at") = true := by kernel_rfl
theorem AF_at (P : Params) : findIn (KK P) (.ref 467) (Str.ofString "at") = some Option.none := by kernel_rfl
theorem AT_at (P : Params) : takerIn (KK P) 467 (Str.ofString "at") = some Option.none := by kernel_rfl
theorem AP_most_deep (P : Params) : plainGet (KK P) 467 (Str.ofString "most_deep") = true := by kernel_rfl
theorem AF_most_deep (P : Params) : findIn (KK P) (.ref 467) (Str.ofString "most_deep") = some Option.none := by kernel_rfl
theorem AT_most_deep (P : Params) : takerIn (KK P) 467 (Str.ofString "most_deep") = some Option.none := by kernel_rfl
theorem AP_parts (P : Params) : plainGet (KK P) 467 (Str.ofString "parts") = true := by kernel_rfl
theorem AF_parts (P : Params) : findIn (KK P) (.ref 467) (Str.ofString "parts") = some Option.none := by kernel_rfl
theorem AT_parts (P : Params) : takerIn (KK P) 467 (Str.ofString "parts") = some Option.none := by kernel_rfl
theorem MP_kind (P : Params) : plainGet (KK P) 467 (Str.ofString "kind") = true := by kernel_rfl
theorem MF_kind (P : Params) : findIn (KK P) (.ref 467) (Str.ofString "kind") = some (some (.ref 288)) := by kernel_rfl
theorem MI_kind (P : Params) : isFn (KK P) (.ref 288) = true := by kernel_rfl
theorem MK_kind (P : Params) : keepIn (KK P) (.ref 288) = true := by kernel_rfl
theorem MP_value (P : Params) : plainGet (KK P) 467 (Str.ofString "value") = true := by kernel_rfl
theorem MF_value (P : Params) : findIn (KK P) (.ref 467) (Str.ofString "value") = some (some (.ref 295)) := by kernel_rfl
theorem MI_value (P : Params) : isFn (KK P) (.ref 295) = true := by kernel_rfl
theorem MK_value (P : Params) : keepIn (KK P) (.ref 295) = true := by kernel_rfl
theorem MP_is_next (P : Params) : plainGet (KK P) 467 (Str.ofString "is_next") = true := by kernel_rfl
theorem MF_is_next (P : Params) : findIn (KK P) (.ref 467) (Str.ofString "is_next") = some (some (.ref 309)) := by kernel_rfl
theorem MI_is_next (P : Params) : isFn (KK P) (.ref 309) = true := by kernel_rfl
theorem MK_is_next (P : Params) : keepIn (KK P) (.ref 309) = true := by kernel_rfl
theorem MP_skip (P : Params) : plainGet (KK P) 467 (Str.ofString "skip") = true := by kernel_rfl
theorem MF_skip (P : Params) : findIn (KK P) (.ref 467) (Str.ofString "skip") = some (some (.ref 316)) := by kernel_rfl
theorem MI_skip (P : Params) : isFn (KK P) (.ref 316) = true := by kernel_rfl
theorem MK_skip (P : Params) : keepIn (KK P) (.ref 316) = true := by kernel_rfl
theorem MP_need (P : Params) : plainGet (KK P) 467 (Str.ofString "need") = true := by kernel_rfl
theorem MF_need (P : Params) : findIn (KK P) (.ref 467) (Str.ofString "need") = some (some (.ref 323)) := by kernel_rfl
theorem MI_need (P : Params) : isFn (KK P) (.ref 323) = true := by kernel_rfl
theorem MK_need (P : Params) : keepIn (KK P) (.ref 323) = true := by kernel_rfl
theorem MP_take (P : Params) : plainGet (KK P) 467 (Str.ofString "take") = true := by kernel_rfl
theorem MF_take (P : Params) : findIn (KK P) (.ref 467) (Str.ofString "take") = some (some (.ref 330)) := by kernel_rfl
theorem MI_take (P : Params) : isFn (KK P) (.ref 330) = true := by kernel_rfl
theorem MK_take (P : Params) : keepIn (KK P) (.ref 330) = true := by kernel_rfl
theorem MP_number (P : Params) : plainGet (KK P) 467 (Str.ofString "number") = true := by kernel_rfl
theorem MF_number (P : Params) : findIn (KK P) (.ref 467) (Str.ofString "number") = some (some (.ref 337)) := by kernel_rfl
theorem MI_number (P : Params) : isFn (KK P) (.ref 337) = true := by kernel_rfl
theorem MK_number (P : Params) : keepIn (KK P) (.ref 337) = true := by kernel_rfl
theorem MP_one_of (P : Params) : plainGet (KK P) 467 (Str.ofString "one_of") = true := by kernel_rfl
theorem MF_one_of (P : Params) : findIn (KK P) (.ref 467) (Str.ofString "one_of") = some (some (.ref 349)) := by kernel_rfl
theorem MI_one_of (P : Params) : isFn (KK P) (.ref 349) = true := by kernel_rfl
theorem MK_one_of (P : Params) : keepIn (KK P) (.ref 349) = true := by kernel_rfl
theorem MP_need_depth (P : Params) : plainGet (KK P) 467 (Str.ofString "need_depth") = true := by kernel_rfl
theorem MF_need_depth (P : Params) : findIn (KK P) (.ref 467) (Str.ofString "need_depth") = some (some (.ref 377)) := by kernel_rfl
theorem MI_need_depth (P : Params) : isFn (KK P) (.ref 377) = true := by kernel_rfl
theorem MK_need_depth (P : Params) : keepIn (KK P) (.ref 377) = true := by kernel_rfl
theorem MP_need_room (P : Params) : plainGet (KK P) 467 (Str.ofString "need_room") = true := by kernel_rfl
theorem MF_need_room (P : Params) : findIn (KK P) (.ref 467) (Str.ofString "need_room") = some (some (.ref 384)) := by kernel_rfl
theorem MI_need_room (P : Params) : isFn (KK P) (.ref 384) = true := by kernel_rfl
theorem MK_need_room (P : Params) : keepIn (KK P) (.ref 384) = true := by kernel_rfl
theorem MP_any_of (P : Params) : plainGet (KK P) 467 (Str.ofString "any_of") = true := by kernel_rfl
theorem MF_any_of (P : Params) : findIn (KK P) (.ref 467) (Str.ofString "any_of") = some (some (.ref 391)) := by kernel_rfl
theorem MI_any_of (P : Params) : isFn (KK P) (.ref 391) = true := by kernel_rfl
theorem MK_any_of (P : Params) : keepIn (KK P) (.ref 391) = true := by kernel_rfl
theorem MP_all_of (P : Params) : plainGet (KK P) 467 (Str.ofString "all_of") = true := by kernel_rfl
theorem MF_all_of (P : Params) : findIn (KK P) (.ref 467) (Str.ofString "all_of") = some (some (.ref 398)) := by kernel_rfl
theorem MI_all_of (P : Params) : isFn (KK P) (.ref 398) = true := by kernel_rfl
theorem MK_all_of (P : Params) : keepIn (KK P) (.ref 398) = true := by kernel_rfl
theorem MP_plain (P : Params) : plainGet (KK P) 467 (Str.ofString "plain") = true := by kernel_rfl
theorem MF_plain (P : Params) : findIn (KK P) (.ref 467) (Str.ofString "plain") = some (some (.ref 405)) := by kernel_rfl
theorem MI_plain (P : Params) : isFn (KK P) (.ref 405) = true := by kernel_rfl
theorem MK_plain (P : Params) : keepIn (KK P) (.ref 405) = true := by kernel_rfl
theorem MP_about_prefix (P : Params) : plainGet (KK P) 467 (Str.ofString "about_prefix") = true := by kernel_rfl
theorem MF_about_prefix (P : Params) : findIn (KK P) (.ref 467) (Str.ofString "about_prefix") = some (some (.ref 412)) := by kernel_rfl
theorem MI_about_prefix (P : Params) : isFn (KK P) (.ref 412) = true := by kernel_rfl
theorem MK_about_prefix (P : Params) : keepIn (KK P) (.ref 412) = true := by kernel_rfl
theorem MP_block (P : Params) : plainGet (KK P) 467 (Str.ofString "block") = true := by kernel_rfl
theorem MF_block (P : Params) : findIn (KK P) (.ref 467) (Str.ofString "block") = some (some (.ref 431)) := by kernel_rfl
theorem MI_block (P : Params) : isFn (KK P) (.ref 431) = true := by kernel_rfl
theorem MK_block (P : Params) : keepIn (KK P) (.ref 431) = true := by kernel_rfl
theorem MP_statements (P : Params) : plainGet (KK P) 467 (Str.ofString "statements") = true := by kernel_rfl
theorem MF_statements (P : Params) : findIn (KK P) (.ref 467) (Str.ofString "statements") = some (some (.ref 438)) := by kernel_rfl
theorem MI_statements (P : Params) : isFn (KK P) (.ref 438) = true := by kernel_rfl
theorem MK_statements (P : Params) : keepIn (KK P) (.ref 438) = true := by kernel_rfl
theorem MP_statement (P : Params) : plainGet (KK P) 467 (Str.ofString "statement") = true := by kernel_rfl
theorem MF_statement (P : Params) : findIn (KK P) (.ref 467) (Str.ofString "statement") = some (some (.ref 445)) := by kernel_rfl
theorem MI_statement (P : Params) : isFn (KK P) (.ref 445) = true := by kernel_rfl
theorem MK_statement (P : Params) : keepIn (KK P) (.ref 445) = true := by kernel_rfl
theorem MP_term (P : Params) : plainGet (KK P) 467 (Str.ofString "term") = true := by kernel_rfl
theorem MF_term (P : Params) : findIn (KK P) (.ref 467) (Str.ofString "term") = some (some (.ref 459)) := by kernel_rfl
theorem MI_term (P : Params) : isFn (KK P) (.ref 459) = true := by kernel_rfl
theorem MK_term (P : Params) : keepIn (KK P) (.ref 459) = true := by kernel_rfl
theorem MP_policy (P : Params) : plainGet (KK P) 467 (Str.ofString "policy") = true := by kernel_rfl
theorem MF_policy (P : Params) : findIn (KK P) (.ref 467) (Str.ofString "policy") = some (some (.ref 464)) := by kernel_rfl
theorem MI_policy (P : Params) : isFn (KK P) (.ref 464) = true := by kernel_rfl
theorem MK_policy (P : Params) : keepIn (KK P) (.ref 464) = true := by kernel_rfl
end
/-! Pre -/
section
variable {hT : Heap} {w : World} {c : Cx} {ν : Loc} {μ : Store}
theorem sto_ok {P : Prop} (h : P) : μ = μ ∧ P := ⟨rfl, h⟩
theorem TR_ga (P : Params) : specialIn (KK P) (.ref 352) "__getattribute__" = some (some (.builtin "type.__getattribute__")) := by kernel_rfl
theorem TR_rd (P : Params) : readsIn (KK P) 352 (.type "type") = true := by kernel_rfl
theorem TR_in (P : Params) : findCls (KK P) (.ref 352) (.type "type") (Str.ofString "__init__") = some (.val (.ref 281)) := by kernel_rfl
theorem TR_kp (P : Params) : keepIn (KK P) (.ref 281) = true := by kernel_rfl
theorem ForL.nil' {target : Expr} {body : List Stmt} {k : Kt Fl} (h : k .next ν μ) : ForL hT PG w c target body [] ν μ k := h
theorem ForL.cons' {target : Expr} {body : List Stmt} {d : AV} {ds : List AV} {k : Kt Fl} (h : Ev1 hT PG w c (assign target c.env) any d ν μ fun _ ν₁ μ₁ => EvSs hT PG w c body ν₁ μ₁ fun fl ν₂ μ₂ => match fl with
    | .next => ForL hT PG w c target body ds ν₂ μ₂ k
    | .cont => ForL hT PG w c target body ds ν₂ μ₂ k
    | .brk => k .next ν₂ μ₂
    | .ret d => k (.ret d) ν₂ μ₂) : ForL hT PG w c target body (d :: ds) ν μ k := h
theorem EvE.ends {pos} {k : Kt AV} (W : Wd hT (KK w.params)) (h : k (.ref 151) ν μ)
    (hk : c.env.scope.kind = .function) (hx : c.env.kindOf (Str.ofString "ENDS") = some .globalImplicit) (hg : c.env.globals = mainGlobals) : EvE hT PG w c (.Name (Str.ofString "ENDS") pos) ν μ k :=
  EvE.glob W (G_ENDS _) (fun g _ => .ref 151) h hk hx hg (by decide)
end
section
local macro_rules | `(tactic| walk_at "cond") => `(tactic| first | rfl | assumption | ((try simp only [Bool.not_eq_true', Bool.not_eq_false', Bool.not_true, Bool.not_false, decide_eq_true_eq, decide_eq_false_iff_not, beq_iff_eq, beq_eq_false_iff_ne, bne_iff_ne, bne_eq_false_iff_eq, ne_eq]); omega))
local macro_rules | `(tactic| walk_at "side") => `(tactic| first | exact Nat.le_of_ble_eq_true rfl | assumption | omega | decide | (simp; omega) | (simp; done))
/-! E1 -/
section
variable {hT : Heap} {w : World}
noncomputable def maskZ (L : Int) : Int := (1 * 2 ^ L.toNat - 1) * 2 ^ (32 - L).toNat
theorem pow_lt32 {n : Nat} (h : n ≤ 32) : (2 : Int) ^ n ≤ 4294967296 := by
  have : (2 : Nat) ^ n ≤ 2 ^ 32 := Nat.pow_le_pow_right (by decide) h
  have e : ((2 ^ n : Nat) : Int) = (2 : Int) ^ n := by simp
  rw [← e]; omega
theorem pow_pos2 (n : Nat) : (0 : Int) < 2 ^ n := by
  have e : ((2 ^ n : Nat) : Int) = (2 : Int) ^ n := by simp
  have : 0 < 2 ^ n := Nat.pow_pos (by decide)
  rw [← e]; omega
theorem sp_mask_of (W : Wd hT (KK w.params)) (n : Nat) (L : Int) (h0 : 0 ≤ L) (h1 : L ≤ 32) : Spec hT PG w (n + 1) (.ref 107) [.int L, .int 32] [] (Gives (.int (maskZ L)) []) := by
  refine Spec.fn W (L_mask_of _) (C_mask_of _) (fun s g vs _ _ hv => binds_of (qual := "") [Str.ofString "length", Str.ofString "bits"] rfl (by decide) (by decide +kernel) (fun vs h => by obtain ⟨a, b, rfl⟩ := len2 h; rfl) s g vs hv) (by decide +kernel) rfl rfl rfl (fun A L' hr => ?_)
  have p1 := pow_lt32 (n := L.toNat) (by omega)
  have p2 := pow_pos2 L.toNat
  refine EvSs.cons ?_
  refine EvS.ret ?_
  refine EvE.binop ?_
  refine EvE.binop ?_
  refine EvE.binop ?_
  refine EvE.int ?_
  refine' EvE.loc rfl rfl ?_ rfl rfl
  refine' Ev2.shl (by walk_at "side") (by walk_at "side") (by walk_at "side") ?_
  refine EvE.int ?_
  refine Ev2.sub ?_
  refine EvE.binop ?_
  refine' EvE.loc rfl rfl ?_ rfl rfl
  refine' EvE.loc rfl rfl ?_ rfl rfl
  refine Ev2.sub ?_
  refine' Ev2.shl (by walk_at "side") (by walk_at "side") (by walk_at "side") ?_
  refine andThen_ret ?_
  refine fnEnd_ret ?_
  exact ⟨rfl, rfl⟩

theorem sp_holds_address (W : Wd hT (KK w.params)) (n : Nat) (A L a : Int) (h0 : 0 ≤ L) (h1 : L ≤ 32) : Spec hT PG w (n + 2) (.ref 121) [.tup [.int A, .int L], .int a, .int 32] [] (Gives (.bool (Builtin.bitAnd a (maskZ L) == A)) []) := by
  refine Spec.fn W (L_holds_address _) (C_holds_address _) (fun s g vs _ _ hv => binds_of (qual := "") [Str.ofString "prefix", Str.ofString "address", Str.ofString "bits"] rfl (by decide) (by decide +kernel) (fun vs h => by obtain ⟨a, b, c, rfl⟩ := len3 h; rfl) s g vs hv) (by decide +kernel) rfl rfl rfl (fun A L' hr => ?_)
  refine EvSs.cons ?_
  refine EvS.ret ?_
  refine EvE.cmp ?_ rfl
  refine EvE.binop ?_
  refine' EvE.loc rfl rfl ?_ rfl rfl
  refine' EvE.callK (by assumption) (G_mask_of _) (KI_mask_of _) ?_ rfl rfl rfl rfl rfl rfl
  refine EvAs.cons ?_ rfl
  refine EvE.sub ?_
  refine' EvE.loc rfl rfl ?_ rfl rfl
  refine EvE.int ?_
  refine' Ev2.subTup rfl rfl ?_ (fun _ _ => rfl) (by decide) (by decide)
  refine EvAs.cons ?_ rfl
  refine' EvE.loc rfl rfl ?_ rfl rfl
  refine EvAs.nil ?_
  refine EvL.gives (by exact Nat.le_refl _) (sp_mask_of W n L h0 h1) ?_
  refine Ev2.and ?_
  refine EvE.sub ?_
  refine' EvE.loc rfl rfl ?_ rfl rfl
  refine EvE.int ?_
  refine' Ev2.subTup rfl rfl ?_ (fun _ _ => rfl) (by decide) (by decide)
  refine Ev2.eqI ?_
  refine andThen_ret ?_
  refine fnEnd_ret ?_
  exact ⟨rfl, rfl⟩

noncomputable def coversZ (A L a l : Int) : Bool := decide (L ≤ l) && (Builtin.bitAnd a (maskZ L) == A)
theorem sp_covers (W : Wd hT (KK w.params)) (n : Nat) (A L a l : Int) (h0 : 0 ≤ L) (h1 : L ≤ 32) : Spec hT PG w (n + 3) (.ref 128) [.tup [.int A, .int L], .tup [.int a, .int l], .int 32] [] (Gives (.bool (coversZ A L a l)) []) := by
  refine Spec.fn W (L_covers _) (C_covers _) (fun s g vs _ _ hv => binds_of (qual := "") [Str.ofString "one", Str.ofString "other", Str.ofString "bits"] rfl (by decide) (by decide +kernel) (fun vs h => by obtain ⟨a, b, c, rfl⟩ := len3 h; rfl) s g vs hv) (by decide +kernel) rfl rfl rfl (fun A L' hr => ?_)
  refine EvSs.cons ?_
  refine EvS.ret ?_
  refine EvE.and2 ?_
  refine EvE.cmp ?_ rfl
  refine EvE.sub ?_
  refine' EvE.loc rfl rfl ?_ rfl rfl
  refine EvE.int ?_
  refine' Ev2.subTup rfl rfl ?_ (fun _ _ => rfl) (by decide) (by decide)
  refine EvE.sub ?_
  refine' EvE.loc rfl rfl ?_ rfl rfl
  refine EvE.int ?_
  refine' Ev2.subTup rfl rfl ?_ (fun _ _ => rfl) (by decide) (by decide)
  refine Ev2.leI ?_
  refine Ev1.truthB ?_
  refine ⟨fun hb => ?_, fun hb => ?_⟩
  · refine' EvE.callK (by assumption) (G_holds_address _) (KI_holds_address _) ?_ rfl rfl rfl rfl rfl rfl
    refine EvAs.cons ?_ rfl
    refine' EvE.loc rfl rfl ?_ rfl rfl
    refine EvAs.cons ?_ rfl
    refine EvE.sub ?_
    refine' EvE.loc rfl rfl ?_ rfl rfl
    refine EvE.int ?_
    refine' Ev2.subTup rfl rfl ?_ (fun _ _ => rfl) (by decide) (by decide)
    refine EvAs.cons ?_ rfl
    refine' EvE.loc rfl rfl ?_ rfl rfl
    refine EvAs.nil ?_
    refine EvL.gives (by exact Nat.le_refl _) (sp_holds_address W n _ L a h0 h1) ?_
    refine andThen_ret ?_
    refine fnEnd_ret ?_
    exact ⟨by unfold coversZ; rw [hb]; rfl, rfl⟩
  · refine andThen_ret ?_
    refine fnEnd_ret ?_
    exact ⟨by unfold coversZ; rw [hb]; rfl, rfl⟩
end

/-! E2 -/
section
variable {hT : Heap} {w : World}
theorem sp_is_prefix (W : Wd hT (KK w.params)) (n : Nat) (a L : Int) (h0 : 0 ≤ L) (h1 : L ≤ 32) (h2 : 0 ≤ a) (h3 : a < 1 * 2 ^ (32 : Int).toNat) : Spec hT PG w (n + 2) (.ref 114) [.int a, .int L, .int 32] [] (Gives (.bool (Builtin.bitAnd a (maskZ L) == a)) []) := by
  refine Spec.fn W (L_is_prefix _) (C_is_prefix _) (fun s g vs _ _ hv => binds_of (qual := "") [Str.ofString "address", Str.ofString "length", Str.ofString "bits"] rfl (by decide) (by decide +kernel) (fun vs h => by obtain ⟨a, b, c, rfl⟩ := len3 h; rfl) s g vs hv) (by decide +kernel) rfl rfl rfl (fun A L' hr => ?_)
  refine EvSs.cons ?_
  refine EvS.iff ?_
  refine EvT.or ?_
  refine EvT.not ?_
  refine EvT.chain ?_ rfl
  refine EvE.int ?_
  refine' EvE.loc rfl rfl ?_ rfl rfl
  refine Ev2.leI ?_
  refine Ev1.truthB ?_
  refine brT (by walk_at "cond") ?_
  refine' EvE.loc rfl rfl ?_ rfl rfl
  refine Ev2.leI ?_
  refine Ev1.truthB ?_
  refine brF (by walk_at "cond") ?_
  refine EvT.or ?_
  refine EvT.not ?_
  refine EvT.chain ?_ rfl
  refine EvE.int ?_
  refine' EvE.loc rfl rfl ?_ rfl rfl
  refine Ev2.leI ?_
  refine Ev1.truthB ?_
  refine brT (by walk_at "cond") ?_
  refine EvE.binop ?_
  refine EvE.int ?_
  refine' EvE.loc rfl rfl ?_ rfl rfl
  refine' Ev2.shl (by walk_at "side") (by walk_at "side") (by walk_at "side") ?_
  refine Ev2.ltI ?_
  refine Ev1.truthB ?_
  refine brF (by walk_at "cond") ?_
  refine EvT.orNil ?_
  refine brF (by walk_at "cond") ?_
  refine EvSs.nil ?_
  refine andThen_next ?_
  refine EvSs.cons ?_
  refine EvS.ret ?_
  refine EvE.cmp ?_ rfl
  refine EvE.binop ?_
  refine' EvE.loc rfl rfl ?_ rfl rfl
  refine' EvE.callK (by assumption) (G_mask_of _) (KI_mask_of _) ?_ rfl rfl rfl rfl rfl rfl
  refine EvAs.cons ?_ rfl
  refine' EvE.loc rfl rfl ?_ rfl rfl
  refine EvAs.cons ?_ rfl
  refine' EvE.loc rfl rfl ?_ rfl rfl
  refine EvAs.nil ?_
  refine EvL.gives (by exact Nat.le_refl _) (sp_mask_of W n L h0 h1) ?_
  refine Ev2.and ?_
  refine' EvE.loc rfl rfl ?_ rfl rfl
  refine Ev2.eqI ?_
  refine andThen_ret ?_
  refine fnEnd_ret ?_
  exact ⟨rfl, rfl⟩
/-- the number that figures tell -/
noncomputable def numZ : List Nat → Int → Int
  | [], acc => acc
  | ch :: r, acc => numZ r (acc * 10 + ((ch : Int) - 48))
noncomputable def figs (l : List Nat) : Bool := l.all fun ch => decide (48 ≤ ch) && decide (ch ≤ 57)
noncomputable def figTable : Bool := (List.range 10).all fun i => decide (Builtin.Str.occurrences (Str.ofString "0123456789") ⟨#[48 + i]⟩ 0 (Str.ofString "0123456789").length 1 = [i])
theorem fig_at {ch : Nat} (h1 : 48 ≤ ch) (h2 : ch ≤ 57) : Builtin.Str.occurrences (Str.ofString "0123456789") ⟨#[ch]⟩ 0 (Str.ofString "0123456789").length 1 = [ch - 48] := by
  have t : figTable = true := by decide +kernel
  have := List.all_eq_true.mp t (ch - 48) (List.mem_range.mpr (by omega))
  have e : 48 + (ch - 48) = ch := by omega
  rw [e] at this
  exact of_decide_eq_true this
theorem figs_ascii {l : List Nat} (h : figs l = true) : l.all (· < 128) = true := by
  unfold figs at h
  rw [List.all_eq_true] at h ⊢
  intro x hx
  have := h x hx
  rw [Bool.and_eq_true, decide_eq_true_eq, decide_eq_true_eq] at this
  exact decide_eq_true (by omega)
theorem figs_cons {ch : Nat} {l : List Nat} (h : figs (ch :: l) = true) : 48 ≤ ch ∧ ch ≤ 57 ∧ figs l = true := by
  unfold figs at h ⊢
  rw [List.all_cons, Bool.and_eq_true, Bool.and_eq_true, decide_eq_true_eq, decide_eq_true_eq] at h
  exact ⟨h.1.1, h.1.2, h.2⟩
theorem sp_small_number (W : Wd hT (KK w.params)) (n : Nat) (x : Str) (most : Int) (h0 : 0 < x.length) (h1 : x.length ≤ 3) (h2 : x.length = 1 ∨ ∃ ch, x.cps[0]? = some ch ∧ ch ≠ 48) (h3 : figs x.cps.toList = true) (h4 : numZ x.cps.toList 0 ≤ most) :
    Spec hT PG w (n + 1) (.ref 135) [.str x, .int most] [] (Gives (.int (numZ x.cps.toList 0)) []) := by
  refine Spec.fn W (L_small_number _) (C_small_number _) (fun s g vs _ _ hv => binds_of (qual := "") [Str.ofString "text", Str.ofString "most"] rfl (by decide) (by decide +kernel) (fun vs h => by obtain ⟨a, b, rfl⟩ := len2 h; rfl) s g vs hv) (by decide +kernel) rfl rfl rfl (fun A L' hr => ?_)
  refine EvSs.cons ?_
  refine EvS.iff ?_
  refine EvT.or ?_
  refine EvT.not ?_
  refine EvT.chain ?_ rfl
  refine EvE.int ?_
  refine' EvE.callB (by assumption) (B_len _) (BB_len) (by decide) ?_ rfl rfl rfl rfl rfl rfl rfl
  refine EvAs.cons ?_ rfl
  refine' EvE.loc rfl rfl ?_ rfl rfl
  refine EvAs.nil ?_
  refine' EvL.lenS (by walk_at "side") ?_
  refine Ev2.ltI ?_
  refine Ev1.truthB ?_
  refine brT (by walk_at "cond") ?_
  refine EvE.int ?_
  refine Ev2.leI ?_
  refine Ev1.truthB ?_
  refine brF (by walk_at "cond") ?_
  refine EvT.or ?_
  refine EvT.and ?_
  refine EvT.cmp ?_ rfl
  refine' EvE.callB (by assumption) (B_len _) (BB_len) (by decide) ?_ rfl rfl rfl rfl rfl rfl rfl
  refine EvAs.cons ?_ rfl
  refine' EvE.loc rfl rfl ?_ rfl rfl
  refine EvAs.nil ?_
  refine' EvL.lenS (by walk_at "side") ?_
  refine EvE.int ?_
  refine Ev2.gtI ?_
  refine Ev1.truthB ?_
  have more : EvSs hT PG w ⟨A, envOf (Str.ofString "small_number") (pscope s_small_number) L' 135 (.ref 134), [], n⟩ ((pbody s_small_number).drop 1) (locs ([Str.ofString "text", Str.ofString "most"].zip [.str x, .int most])) [] (fnEnd (Gives (.int (numZ x.cps.toList 0)) [])) := by
    refine EvSs.cons ?_
    refine EvS.assign ?_ rfl
    refine EvE.int ?_
    refine EvStore rfl rfl ?_
    refine andThen_next ?_
    refine EvSs.cons ?_
    refine EvS.for ?_ (fun _ => rfl)
    refine EvIt.val ?_
    refine' EvE.loc rfl rfl ?_ rfl rfl
    refine ⟨_, Items.str _ (by simpa using figs_ascii h3), ?_⟩
    refine ForL.inv (fun ds ν μ => ∃ l acc, ds = l.map (fun ch => AV.str ⟨#[ch]⟩) ∧ figs l = true ∧ numZ l acc = numZ x.cps.toList 0 ∧ 0 ≤ acc ∧ ((l.length ≥ 3 → acc ≤ 0) ∧ (l.length ≥ 2 → acc ≤ 9) ∧ (l.length ≥ 1 → acc ≤ 99) ∧ acc ≤ 999) ∧ l.length ≤ 3 ∧ ν (Str.ofString "found") = some (.int acc) ∧ ν (Str.ofString "most") = some (.int most) ∧ μ = []) ?_ ?_ _ _ _ ⟨_, 0, rfl, h3, rfl, by decide, by omega, by rw [Array.length_toList]; exact h1, rfl, rfl, rfl⟩
    · rintro d ds ν μ ⟨l, acc, hl, hf, hn, ha0, ha1, hlen, hν1, hν2, rfl⟩
      cases l with
      | nil => cases hl
      | cons ch l =>
      cases hl
      obtain ⟨f1, f2, f3⟩ := figs_cons hf
      rw [List.length_cons] at hlen ha1
      refine Ev1.assignN ?_
      refine EvStore rfl rfl ?_
      refine EvSs.cons ?_
      refine EvS.iff ?_
      refine EvT.cmp ?_ rfl
      refine' EvE.loc rfl rfl ?_ rfl rfl
      refine' EvE.top (by assumption) (T_FIGURES_prefixes _) ?_ rfl rfl rfl rfl
      refine Ev2.notInS ?_
      refine Ev1.truthB ?_
      refine brF (by rw [fig_at f1 f2]; rfl) ?_
      refine EvSs.nil ?_
      refine andThen_next ?_
      refine EvSs.cons ?_
      refine EvS.assign ?_ rfl
      refine EvE.binop ?_
      refine EvE.binop ?_
      refine' EvE.loc rfl (by assumption) ?_ rfl rfl
      refine EvE.int ?_
      refine' Ev2.mul (by walk_at "side") ?_
      refine' EvE.methS1 (name := Str.ofString "index") (id := "str.index") (fun _ _ _ _ _ _ _ q => PySem.GM.index q) ?_ rfl rfl
      refine' EvE.top (by assumption) (T_FIGURES_prefixes _) ?_ rfl rfl rfl rfl
      refine str_ok ?_
      refine' EvE.loc rfl rfl ?_ rfl rfl
      refine EvL.index (fig_at f1 f2) ?_
      refine Ev2.add ?_
      refine EvStore rfl rfl ?_
      refine andThen_next ?_
      refine EvSs.nil ?_
      exact ⟨l, _, rfl, f3, by rw [← hn]; show _ = numZ l _; congr 1; omega, by omega, by omega, by omega, rfl, hν2, rfl⟩
    · rintro ν μ ⟨l, acc, hl, hf, hn, ha0, ha1, hlen, hν1, hν2, rfl⟩
      cases l with
      | cons ch l => cases hl
      | nil =>
      have e : acc = numZ x.cps.toList 0 := hn
      subst e
      refine andThen_next ?_
      refine EvSs.cons ?_
      refine EvS.iff ?_
      refine EvT.cmp ?_ rfl
      refine' EvE.loc rfl (by assumption) ?_ rfl rfl
      refine' EvE.loc rfl (by assumption) ?_ rfl rfl
      refine Ev2.gtI ?_
      refine Ev1.truthB ?_
      refine brF (by walk_at "cond") ?_
      refine EvSs.nil ?_
      refine andThen_next ?_
      refine EvSs.cons ?_
      refine EvS.ret ?_
      refine' EvE.loc rfl (by assumption) ?_ rfl rfl
      refine andThen_ret ?_
      refine fnEnd_ret ?_
      exact ⟨rfl, rfl⟩
  refine ⟨fun hb => ?_, fun hb => ?_⟩
  · have hl : 1 < x.length := by have := of_decide_eq_true hb; omega
    obtain ⟨ch, hc, hne⟩ := h2.resolve_left (by omega)
    refine EvT.and ?_
    refine EvT.cmp ?_ rfl
    refine EvE.sub ?_
    refine' EvE.loc rfl rfl ?_ rfl rfl
    refine EvE.int ?_
    refine Ev2.subStrN (ch := ch) (by decide) (by omega) hc ?_
    refine EvE.str ?_
    refine Ev2.eqS ?_
    refine Ev1.truthB ?_
    refine brF ((sgl_eq ch 48).trans (by simpa using hne)) ?_
    refine brF (by walk_at "cond") ?_
    refine EvT.orNil ?_
    refine brF (by walk_at "cond") ?_
    refine EvSs.nil ?_
    assumption
  · refine brF (by walk_at "cond") ?_
    refine EvT.orNil ?_
    refine brF (by walk_at "cond") ?_
    refine EvSs.nil ?_
    assumption
end

/-! E3 -/
section
variable {hT : Heap} {w : World}
theorem numZ_nonneg : ∀ (l : List Nat) (acc : Int), figs l = true → 0 ≤ acc → 0 ≤ numZ l acc
  | [], _, _, h => h
  | ch :: l, acc, hf, h => by
    obtain ⟨f1, f2, f3⟩ := figs_cons hf
    exact numZ_nonneg l _ f3 (by omega)
noncomputable def okNum (x : Str) (most : Int) : Bool := decide (0 < x.length) && decide (x.length ≤ 3) && (decide (x.length = 1) || decide (x.cps[0]? ≠ some 48)) && figs x.cps.toList && decide (numZ x.cps.toList 0 ≤ most)
noncomputable def numOf (x : Str) : Int := numZ x.cps.toList 0
theorem sp_small (W : Wd hT (KK w.params)) (n : Nat) (x : Str) (most : Int) (h : okNum x most = true) : Spec hT PG w (n + 1) (.ref 135) [.str x, .int most] [] (Gives (.int (numOf x)) []) := by
  unfold okNum at h
  rw [Bool.and_eq_true, Bool.and_eq_true, Bool.and_eq_true, Bool.and_eq_true, decide_eq_true_eq, decide_eq_true_eq, decide_eq_true_eq, Bool.or_eq_true, decide_eq_true_eq, decide_eq_true_eq] at h
  obtain ⟨⟨⟨⟨h0, h1⟩, h2⟩, h3⟩, h4⟩ := h
  refine sp_small_number W n x most h0 h1 (h2.imp id fun hn => ?_) h3 h4
  have : 0 < x.cps.size := h0
  exact ⟨x.cps[0], by simp [this], fun q => hn (by simp [this, q])⟩
theorem okNum_le {x : Str} {most : Int} (h : okNum x most = true) : 0 ≤ numOf x ∧ numOf x ≤ most := by
  unfold okNum at h
  rw [Bool.and_eq_true, Bool.and_eq_true, decide_eq_true_eq] at h
  exact ⟨numZ_nonneg _ _ h.1.2 (by decide), h.2⟩
noncomputable def okSplit (x y : Str) : Bool := !(decide (x.length < y.length) || decide (Builtin.Str.strKind x < Builtin.Str.strKind y)) && !(y.length == 0) && !(Builtin.Str.occurrences x y 0 x.length (x.length + 1)).isEmpty && decide (x.length ≤ 1000) && decide ((parts x y).length ≤ 1000)
theorem EvL.splitK {c : Cx} {ν : Loc} {μ : Store} {x y : Str} {k : Kt AV} (h : okSplit x y = true) (hk : k (.lst ((parts x y).map .str)) ν μ) : EvL hT PG w c (fun vs => call (.builtin "str.split") vs) Rd [.str x, .str y] ν μ k := by
  unfold okSplit at h
  rw [Bool.and_eq_true, Bool.and_eq_true, Bool.and_eq_true, Bool.and_eq_true, decide_eq_true_eq, decide_eq_true_eq, Bool.not_eq_true', Bool.not_eq_true', Bool.not_eq_true'] at h
  exact EvL.split h.1.1.1.1 h.1.1.1.2 h.1.1.2 h.1.2 h.2 hk
noncomputable def addrZ : List Str → Int → Int
  | [], acc => acc
  | p :: r, acc => addrZ r (acc * 256 + numOf p)
noncomputable def okAddr (x : Str) : Bool := okSplit x (Str.ofString ".") && decide ((parts x (Str.ofString ".")).length = 4) && (parts x (Str.ofString ".")).all (okNum · 255)
noncomputable def addrOf (x : Str) : Int := addrZ (parts x (Str.ofString ".")) 0
theorem sp_read_address (W : Wd hT (KK w.params)) (n : Nat) (x : Str) (h : okAddr x = true) : Spec hT PG w (n + 2) (.ref 142) [.str x] [] (Gives (.int (addrOf x)) []) := by
  unfold okAddr at h
  rw [Bool.and_eq_true, Bool.and_eq_true, decide_eq_true_eq] at h
  obtain ⟨⟨h1, h2⟩, h3⟩ := h
  refine Spec.fn W (L_read_address _) (C_read_address _) (fun s g vs _ _ hv => binds_of (qual := "") [Str.ofString "text"] rfl (by decide) (by decide +kernel) (fun vs h => by obtain ⟨a, rfl⟩ := len1 h; rfl) s g vs hv) (by decide +kernel) rfl rfl rfl (fun A L' hr => ?_)
  refine EvSs.cons ?_
  refine EvS.assign ?_ rfl
  refine' EvE.methS1 (name := Str.ofString "split") (id := "str.split") (fun _ _ _ _ _ _ _ q => PySem.GM.split q) ?_ rfl rfl
  refine' EvE.loc rfl rfl ?_ rfl rfl
  refine str_ok ?_
  refine EvE.str ?_
  refine EvL.splitK h1 ?_
  refine EvStore rfl rfl ?_
  refine andThen_next ?_
  refine EvSs.cons ?_
  refine EvS.iff ?_
  refine EvT.cmp ?_ rfl
  refine' EvE.callB (by assumption) (B_len _) (BB_len) (by decide) ?_ rfl rfl rfl rfl rfl rfl rfl
  refine EvAs.cons ?_ rfl
  refine' EvE.loc rfl rfl ?_ rfl rfl
  refine EvAs.nil ?_
  refine' EvL.lenL (by walk_at "side") ?_
  refine EvE.int ?_
  refine Ev2.neI ?_
  refine Ev1.truthB ?_
  have hlen : ((parts x (Str.ofString ".")).map AV.str).length = 4 := by rw [List.length_map]; exact h2
  rw [hlen]
  refine brF (by walk_at "cond") ?_
  refine EvSs.nil ?_
  refine andThen_next ?_
  refine EvSs.cons ?_
  refine EvS.assign ?_ rfl
  refine EvE.int ?_
  refine EvStore rfl rfl ?_
  refine andThen_next ?_
  refine EvSs.cons ?_
  refine EvS.for ?_ (fun _ => rfl)
  refine EvIt.val ?_
  refine' EvE.loc rfl rfl ?_ rfl rfl
  refine lst_ok ?_
  refine ForL.inv (fun ds ν μ => ∃ l acc, ds = l.map AV.str ∧ l.all (okNum · 255) = true ∧ addrZ l acc = addrOf x ∧ 0 ≤ acc ∧ ((l.length ≥ 4 → acc ≤ 0) ∧ (l.length ≥ 3 → acc ≤ 255) ∧ (l.length ≥ 2 → acc ≤ 65535) ∧ (l.length ≥ 1 → acc ≤ 16777215)) ∧ l.length ≤ 4 ∧ ν (Str.ofString "found") = some (.int acc) ∧ μ = []) ?_ ?_ _ _ _ ⟨_, 0, rfl, h3, rfl, by decide, by omega, by omega, rfl, rfl⟩
  · rintro d ds ν μ ⟨l, acc, hl, hf, hn, ha0, ha1, hlen, hν1, rfl⟩
    cases l with
    | nil => cases hl
    | cons p l =>
    cases hl
    rw [List.all_cons, Bool.and_eq_true] at hf
    have hp := okNum_le hf.1
    rw [List.length_cons] at hlen ha1
    refine Ev1.assignN ?_
    refine EvStore rfl rfl ?_
    refine EvSs.cons ?_
    refine EvS.assign ?_ rfl
    refine EvE.binop ?_
    refine EvE.binop ?_
    refine' EvE.loc rfl (by assumption) ?_ rfl rfl
    refine EvE.int ?_
    refine' Ev2.mul (by walk_at "side") ?_
    refine' EvE.callK (by assumption) (G_small_number _) (KI_small_number _) ?_ rfl rfl rfl rfl rfl rfl
    refine EvAs.cons ?_ rfl
    refine' EvE.loc rfl rfl ?_ rfl rfl
    refine EvAs.cons ?_ rfl
    refine EvE.int ?_
    refine EvAs.nil ?_
    refine EvL.gives (by exact Nat.le_refl _) (sp_small W n p 255 hf.1) ?_
    refine Ev2.add ?_
    refine EvStore rfl rfl ?_
    refine andThen_next ?_
    refine EvSs.nil ?_
    exact ⟨l, _, rfl, hf.2, hn, by omega, by omega, by omega, rfl, rfl⟩
  · rintro ν μ ⟨l, acc, hl, hf, hn, ha0, ha1, hlen, hν1, rfl⟩
    cases l with
    | cons p l => cases hl
    | nil =>
    have e : acc = addrOf x := hn
    subst e
    refine andThen_next ?_
    refine EvSs.cons ?_
    refine EvS.ret ?_
    refine' EvE.loc rfl (by assumption) ?_ rfl rfl
    refine andThen_ret ?_
    refine fnEnd_ret ?_
    exact ⟨rfl, rfl⟩
noncomputable def okPrefix (x : Str) : Bool := okSplit x (Str.ofString "/") && match parts x (Str.ofString "/") with
  | [p, q] => okAddr p && okNum q 32 && decide (0 ≤ addrOf p) && decide (addrOf p < 1 * 2 ^ (32 : Int).toNat) && (Builtin.bitAnd (addrOf p) (maskZ (numOf q)) == addrOf p)
  | _ => false
noncomputable def prefOf (x : Str) : Int × Int := match parts x (Str.ofString "/") with
  | [p, q] => (addrOf p, numOf q)
  | _ => (0, 0)
theorem sp_read_prefix (W : Wd hT (KK w.params)) (n : Nat) (x : Str) (h : okPrefix x = true) : Spec hT PG w (n + 3) (.ref 149) [.str x] [] (Gives (.tup [.int (prefOf x).1, .int (prefOf x).2]) []) := by
  unfold okPrefix at h
  rw [Bool.and_eq_true] at h
  obtain ⟨h1, h2⟩ := h
  split at h2
  case h_2 => cases h2
  rename_i p q hpq
  rw [Bool.and_eq_true, Bool.and_eq_true, Bool.and_eq_true, Bool.and_eq_true, decide_eq_true_eq, decide_eq_true_eq] at h2
  obtain ⟨⟨⟨⟨h2, h3⟩, h4⟩, h5⟩, h6⟩ := h2
  have hq := okNum_le h3
  have e : prefOf x = (addrOf p, numOf q) := by unfold prefOf; rw [hpq]
  rw [e]
  refine Spec.fn W (L_read_prefix _) (C_read_prefix _) (fun s g vs _ _ hv => binds_of (qual := "") [Str.ofString "text"] rfl (by decide) (by decide +kernel) (fun vs h => by obtain ⟨a, rfl⟩ := len1 h; rfl) s g vs hv) (by decide +kernel) rfl rfl rfl (fun A L' hr => ?_)
  refine EvSs.cons ?_
  refine EvS.assign ?_ rfl
  refine' EvE.methS1 (name := Str.ofString "split") (id := "str.split") (fun _ _ _ _ _ _ _ q => PySem.GM.split q) ?_ rfl rfl
  refine' EvE.loc rfl rfl ?_ rfl rfl
  refine str_ok ?_
  refine EvE.str ?_
  refine EvL.splitK h1 ?_
  rw [hpq]
  refine EvStore rfl rfl ?_
  refine andThen_next ?_
  refine EvSs.cons ?_
  refine EvS.iff ?_
  refine EvT.cmp ?_ rfl
  refine' EvE.callB (by assumption) (B_len _) (BB_len) (by decide) ?_ rfl rfl rfl rfl rfl rfl rfl
  refine EvAs.cons ?_ rfl
  refine' EvE.loc rfl rfl ?_ rfl rfl
  refine EvAs.nil ?_
  refine' EvL.lenL (by walk_at "side") ?_
  refine EvE.int ?_
  refine Ev2.neI ?_
  refine Ev1.truthB ?_
  refine brF (by walk_at "cond") ?_
  refine EvSs.nil ?_
  refine andThen_next ?_
  refine EvSs.cons ?_
  refine' EvS.assignSw ?_ rfl rfl
  refine EvE.tuple ?_
  refine EvAs.cons ?_ rfl
  refine' EvE.callK (by assumption) (G_read_address _) (KI_read_address _) ?_ rfl rfl rfl rfl rfl rfl
  refine EvAs.cons ?_ rfl
  refine EvE.sub ?_
  refine' EvE.loc rfl rfl ?_ rfl rfl
  refine EvE.int ?_
  refine' Ev2.subLst rfl rfl ?_ (fun _ _ => rfl) (by decide) (by decide)
  refine EvAs.nil ?_
  refine EvL.gives (by exact Nat.le_refl _) (sp_read_address W n p h2) ?_
  refine EvAs.cons ?_ rfl
  refine' EvE.callK (by assumption) (G_small_number _) (KI_small_number _) ?_ rfl rfl rfl rfl rfl rfl
  refine EvAs.cons ?_ rfl
  refine EvE.sub ?_
  refine' EvE.loc rfl rfl ?_ rfl rfl
  refine EvE.int ?_
  refine' Ev2.subLst rfl rfl ?_ (fun _ _ => rfl) (by decide) (by decide)
  refine EvAs.cons ?_ rfl
  refine' EvE.top (by assumption) (T_WIRE_BITS _) ?_ rfl rfl rfl rfl
  refine EvAs.nil ?_
  refine EvL.gives (by exact Nat.le_add_left 1 _) (sp_small W 0 q 32 h3) ?_
  refine EvAs.nil ?_
  refine tup_ok (by walk_at "side") ?_
  refine sw_ok ?_
  refine EvStore rfl rfl ?_
  refine EvStore rfl rfl ?_
  refine andThen_next ?_
  refine EvSs.cons ?_
  refine EvS.iff ?_
  refine EvT.not ?_
  refine EvT.plain ?_ rfl
  refine' EvE.callK (by assumption) (G_is_prefix _) (KI_is_prefix _) ?_ rfl rfl rfl rfl rfl rfl
  refine EvAs.cons ?_ rfl
  refine' EvE.loc rfl rfl ?_ rfl rfl
  refine EvAs.cons ?_ rfl
  refine' EvE.loc rfl rfl ?_ rfl rfl
  refine EvAs.cons ?_ rfl
  refine' EvE.top (by assumption) (T_WIRE_BITS _) ?_ rfl rfl rfl rfl
  refine EvAs.nil ?_
  refine EvL.gives (by dsimp only; omega) (sp_is_prefix W 0 _ _ hq.1 hq.2 h4 h5) ?_
  refine Ev1.truthB ?_
  refine ⟨fun hb => ?_, fun hb => ?_⟩
  · rw [h6] at hb; cases hb
  refine EvSs.nil ?_
  refine andThen_next ?_
  refine EvSs.cons ?_
  refine EvS.ret ?_
  refine EvE.tuple ?_
  refine EvAs.cons ?_ rfl
  refine' EvE.loc rfl rfl ?_ rfl rfl
  refine EvAs.cons ?_ rfl
  refine' EvE.loc rfl rfl ?_ rfl rfl
  refine EvAs.nil ?_
  refine tup_ok (by walk_at "side") ?_
  refine andThen_ret ?_
  refine fnEnd_ret ?_
  exact ⟨rfl, rfl⟩
theorem sp_plain_number (W : Wd hT (KK w.params)) (n : Nat) (x : Str) (a : AV) (h0 : 0 < x.length) (h1 : x.length ≤ 3) (h3 : figs x.cps.toList = true) :
    Spec hT PG w (n + 1) (.ref 236) [.str x, .int 4294967295, a] [] (Gives (.int (numOf x)) []) := by
  refine Spec.fn W (L_plain_number _) (C_plain_number _) (fun s g vs _ _ hv => binds_of (qual := "") [Str.ofString "text", Str.ofString "most", Str.ofString "at"] rfl (by decide) (by decide +kernel) (fun vs h => by obtain ⟨a, b, c, rfl⟩ := len3 h; rfl) s g vs hv) (by decide +kernel) rfl rfl rfl (fun A L' hr => ?_)
  refine EvSs.cons ?_
  refine EvS.iff ?_
  refine EvT.not ?_
  refine EvT.chain ?_ rfl
  refine EvE.int ?_
  refine' EvE.callB (by assumption) (B_len _) (BB_len) (by decide) ?_ rfl rfl rfl rfl rfl rfl rfl
  refine EvAs.cons ?_ rfl
  refine' EvE.loc rfl rfl ?_ rfl rfl
  refine EvAs.nil ?_
  refine' EvL.lenS (by walk_at "side") ?_
  refine Ev2.ltI ?_
  refine Ev1.truthB ?_
  refine brT (by walk_at "cond") ?_
  refine' EvE.top (by assumption) (T_MOST_FIGURES _) ?_ rfl rfl rfl rfl
  refine Ev2.leI ?_
  refine Ev1.truthB ?_
  refine brF (by walk_at "cond") ?_
  refine EvSs.nil ?_
  refine andThen_next ?_
  refine EvSs.cons ?_
  refine EvS.assign ?_ rfl
  refine EvE.int ?_
  refine EvStore rfl rfl ?_
  refine andThen_next ?_
  refine EvSs.cons ?_
  refine EvS.for ?_ (fun _ => rfl)
  refine EvIt.val ?_
  refine' EvE.loc rfl rfl ?_ rfl rfl
  refine ⟨_, Items.str _ (by simpa using figs_ascii h3), ?_⟩
  refine ForL.inv (fun ds ν μ => ∃ l acc, ds = l.map (fun ch => AV.str ⟨#[ch]⟩) ∧ figs l = true ∧ numZ l acc = numZ x.cps.toList 0 ∧ 0 ≤ acc ∧ ((l.length ≥ 3 → acc ≤ 0) ∧ (l.length ≥ 2 → acc ≤ 9) ∧ (l.length ≥ 1 → acc ≤ 99) ∧ acc ≤ 999) ∧ l.length ≤ 3 ∧ ν (Str.ofString "found") = some (.int acc) ∧ ν (Str.ofString "most") = some (.int 4294967295) ∧ μ = []) ?_ ?_ _ _ _ ⟨_, 0, rfl, h3, rfl, by decide, by omega, by rw [Array.length_toList]; exact h1, rfl, rfl, rfl⟩
  · rintro d ds ν μ ⟨l, acc, hl, hf, hn, ha0, ha1, hlen, hν1, hν2, rfl⟩
    cases l with
    | nil => cases hl
    | cons ch l =>
    cases hl
    obtain ⟨f1, f2, f3⟩ := figs_cons hf
    rw [List.length_cons] at hlen ha1
    refine Ev1.assignN ?_
    refine EvStore rfl rfl ?_
    refine EvSs.cons ?_
    refine EvS.iff ?_
    refine EvT.cmp ?_ rfl
    refine' EvE.loc rfl rfl ?_ rfl rfl
    refine' EvE.top (by assumption) (T_FIGURES_prefixes _) ?_ rfl rfl rfl rfl
    refine Ev2.notInS ?_
    refine Ev1.truthB ?_
    refine brF (by rw [fig_at f1 f2]; rfl) ?_
    refine EvSs.nil ?_
    refine andThen_next ?_
    refine EvSs.cons ?_
    refine EvS.assign ?_ rfl
    refine EvE.binop ?_
    refine EvE.binop ?_
    refine' EvE.loc rfl (by assumption) ?_ rfl rfl
    refine EvE.int ?_
    refine' Ev2.mul (by walk_at "side") ?_
    refine' EvE.methS1 (name := Str.ofString "index") (id := "str.index") (fun _ _ _ _ _ _ _ q => PySem.GM.index q) ?_ rfl rfl
    refine' EvE.top (by assumption) (T_FIGURES_prefixes _) ?_ rfl rfl rfl rfl
    refine str_ok ?_
    refine' EvE.loc rfl rfl ?_ rfl rfl
    refine EvL.index (fig_at f1 f2) ?_
    refine Ev2.add ?_
    refine EvStore rfl rfl ?_
    refine andThen_next ?_
    refine EvSs.nil ?_
    exact ⟨l, _, rfl, f3, by rw [← hn]; show _ = numZ l _; congr 1; omega, by omega, by omega, by omega, rfl, hν2, rfl⟩
  · rintro ν μ ⟨l, acc, hl, hf, hn, ha0, ha1, hlen, hν1, hν2, rfl⟩
    cases l with
    | cons ch l => cases hl
    | nil =>
    have e : acc = numOf x := hn
    subst e
    refine andThen_next ?_
    refine EvSs.cons ?_
    refine EvS.iff ?_
    refine EvT.cmp ?_ rfl
    refine' EvE.loc rfl (by assumption) ?_ rfl rfl
    refine' EvE.loc rfl (by assumption) ?_ rfl rfl
    refine Ev2.gtI ?_
    refine Ev1.truthB ?_
    refine brF (by walk_at "cond") ?_
    refine EvSs.nil ?_
    refine andThen_next ?_
    refine EvSs.cons ?_
    refine EvS.ret ?_
    refine' EvE.loc rfl (by assumption) ?_ rfl rfl
    refine andThen_ret ?_
    refine fnEnd_ret ?_
    exact ⟨rfl, rfl⟩
noncomputable def has (x y : Str) : Bool := !(Builtin.Str.occurrences y x 0 y.length 1).isEmpty
theorem sp_fig_prefix (W : Wd hT (KK w.params)) (n : Nat) (x : Str) (a : AV) (h : okPrefix x = true) (h1 : has (Str.ofString "/") x = true) :
    Spec hT PG w (n + 4) (.ref 243) [.str x, a] [] (Gives (.tup [.str (Str.ofString "prefix"), .tup [.int (prefOf x).1, .int (prefOf x).2], a]) []) := by
  refine Spec.fn W (L_figures_token _) (C_figures_token _) (fun s g vs _ _ hv => binds_of (qual := "") [Str.ofString "text", Str.ofString "at"] rfl (by decide) (by decide +kernel) (fun vs h => by obtain ⟨a, b, rfl⟩ := len2 h; rfl) s g vs hv) (by decide +kernel) rfl rfl rfl (fun A L' hr => ?_)
  refine EvSs.cons ?_
  refine EvS.try ?_
  refine EvSs.cons ?_
  refine EvS.iff ?_
  refine EvT.cmp ?_ rfl
  refine EvE.str ?_
  refine' EvE.loc rfl rfl ?_ rfl rfl
  refine Ev2.inS ?_
  refine Ev1.truthB ?_
  refine brT (by walk_at "cond") ?_
  refine EvSs.cons ?_
  refine EvS.ret ?_
  refine EvE.tuple ?_
  refine EvAs.cons ?_ rfl
  refine EvE.str ?_
  refine EvAs.cons ?_ rfl
  refine' EvE.callK (by assumption) (G_read_prefix _) (KI_read_prefix _) ?_ rfl rfl rfl rfl rfl rfl
  refine EvAs.cons ?_ rfl
  refine' EvE.loc rfl rfl ?_ rfl rfl
  refine EvAs.nil ?_
  refine EvL.gives (by dsimp only; omega) (sp_read_prefix W 0 x h) ?_
  refine EvAs.cons ?_ rfl
  refine' EvE.loc rfl rfl ?_ rfl rfl
  refine EvAs.nil ?_
  refine tup_ok (by walk_at "side") ?_
  refine andThen_ret ?_
  refine andThen_ret ?_
  refine andThen_ret ?_
  refine fnEnd_ret ?_
  exact ⟨rfl, rfl⟩
theorem sp_fig_number (W : Wd hT (KK w.params)) (n : Nat) (x : Str) (a : AV) (h0 : 0 < x.length) (h4 : x.length ≤ 3) (h5 : figs x.cps.toList = true) (h1 : has (Str.ofString "/") x = false) (h2 : has (Str.ofString ".") x = false) (h3 : has (Str.ofString ":") x = false) :
    Spec hT PG w (n + 4) (.ref 243) [.str x, a] [] (Gives (.tup [.str (Str.ofString "number"), .int (numOf x), a]) []) := by
  refine Spec.fn W (L_figures_token _) (C_figures_token _) (fun s g vs _ _ hv => binds_of (qual := "") [Str.ofString "text", Str.ofString "at"] rfl (by decide) (by decide +kernel) (fun vs h => by obtain ⟨a, b, rfl⟩ := len2 h; rfl) s g vs hv) (by decide +kernel) rfl rfl rfl (fun A L' hr => ?_)
  refine EvSs.cons ?_
  refine EvS.try ?_
  refine EvSs.cons ?_
  refine EvS.iff ?_
  refine EvT.cmp ?_ rfl
  refine EvE.str ?_
  refine' EvE.loc rfl rfl ?_ rfl rfl
  refine Ev2.inS ?_
  refine Ev1.truthB ?_
  refine brF (by walk_at "cond") ?_
  refine EvSs.nil ?_
  refine andThen_next ?_
  refine EvSs.cons ?_
  refine EvS.iff ?_
  refine EvT.cmp ?_ rfl
  refine EvE.str ?_
  refine' EvE.loc rfl rfl ?_ rfl rfl
  refine Ev2.inS ?_
  refine Ev1.truthB ?_
  refine brF (by walk_at "cond") ?_
  refine EvSs.nil ?_
  refine andThen_next ?_
  refine EvSs.nil ?_
  refine andThen_next ?_
  refine EvSs.cons ?_
  refine EvS.iff ?_
  refine EvT.cmp ?_ rfl
  refine EvE.str ?_
  refine' EvE.loc rfl rfl ?_ rfl rfl
  refine Ev2.inS ?_
  refine Ev1.truthB ?_
  refine brF (by walk_at "cond") ?_
  refine EvSs.nil ?_
  refine andThen_next ?_
  refine EvSs.cons ?_
  refine EvS.ret ?_
  refine EvE.tuple ?_
  refine EvAs.cons ?_ rfl
  refine EvE.str ?_
  refine EvAs.cons ?_ rfl
  refine' EvE.callK (by assumption) (G_plain_number _) (KI_plain_number _) ?_ rfl rfl rfl rfl rfl rfl
  refine EvAs.cons ?_ rfl
  refine' EvE.loc rfl rfl ?_ rfl rfl
  refine EvAs.cons ?_ rfl
  refine' EvE.top (by assumption) (T_MOST_NUMBER_policylex _) ?_ rfl rfl rfl rfl
  refine EvAs.cons ?_ rfl
  refine' EvE.loc rfl rfl ?_ rfl rfl
  refine EvAs.nil ?_
  refine EvL.gives (by dsimp only; omega) (sp_plain_number W 0 x a h0 h4 h5) ?_
  refine EvAs.cons ?_ rfl
  refine' EvE.loc rfl rfl ?_ rfl rfl
  refine EvAs.nil ?_
  refine tup_ok (by walk_at "side") ?_
  refine andThen_ret ?_
  refine fnEnd_ret ?_
  exact ⟨rfl, rfl⟩
end

/-! E4 -/
section
variable {hT : Heap} {w : World}
noncomputable def runZ (S : Str) (l : List Nat) : Nat := (l.takeWhile fun c => has ⟨#[c]⟩ S).length
theorem runZ_le (S : Str) (l : List Nat) : runZ S l ≤ l.length := List.Sublist.length_le (List.takeWhile_sublist _)
theorem runZ_pos {S : Str} {c : Nat} {r : List Nat} (h : has ⟨#[c]⟩ S = true) : runZ S (c :: r) = runZ S r + 1 := by
  unfold runZ
  rw [List.takeWhile_cons_of_pos (p := fun c => has ⟨#[c]⟩ S) h, List.length_cons]
theorem runZ_neg {S : Str} {c : Nat} {r : List Nat} (h : has ⟨#[c]⟩ S = false) : runZ S (c :: r) = 0 := by
  unfold runZ
  rw [List.takeWhile_cons_of_neg (p := fun c => has ⟨#[c]⟩ S) (by rw [h]; decide), List.length_nil]
theorem at_drop {x : Str} {i c : Nat} {r : List Nat} (h : x.cps.toList.drop i = c :: r) : x.cps[i]? = some c ∧ i < x.length ∧ x.cps.toList.drop (i + 1) = r := by
  have hlt : i < x.cps.toList.length := by
    by_cases q : i < x.cps.toList.length
    · exact q
    · rw [List.drop_eq_nil_of_le (by omega)] at h; cases h
  rw [List.drop_eq_getElem_cons hlt] at h
  injection h with h1 h2
  refine ⟨?_, by simpa [Str.length] using hlt, h2⟩
  rw [← h1]; simp at hlt ⊢
theorem drop_end {x : Str} {i : Nat} (h : x.cps.toList.drop i = []) : x.length ≤ i := by
  have := List.drop_eq_nil_iff.mp h
  simpa [Str.length] using this
theorem sp_run_end (W : Wd hT (KK w.params)) (n : Nat) (x S : Str) (i₀ : Nat) (hx : x.length ≤ 1000) : 
    Spec hT PG w (n + 1) (.ref 229) [.str x, .int (i₀ : Nat), .str S] [] (Gives (.int ((i₀ + runZ S (x.cps.toList.drop i₀) : Nat) : Int)) []) := by
  refine Spec.fn W (L_run_end _) (C_run_end _) (fun s g vs _ _ hv => binds_of (qual := "") [Str.ofString "text", Str.ofString "at", Str.ofString "signs"] rfl (by decide) (by decide +kernel) (fun vs h => by obtain ⟨a, b, c, rfl⟩ := len3 h; rfl) s g vs hv) (by decide +kernel) rfl rfl rfl (fun A L' hr => ?_)
  refine EvSs.cons ?_
  refine EvS.whileI (fun n ν μ => ∃ i : Nat, n = x.length - i ∧ ν (Str.ofString "text") = some (.str x) ∧ ν (Str.ofString "at") = some (.int (i : Nat)) ∧ ν (Str.ofString "signs") = some (.str S) ∧ i + runZ S (x.cps.toList.drop i) = i₀ + runZ S (x.cps.toList.drop i₀) ∧ μ = []) (x.length - i₀) ⟨i₀, rfl, rfl, rfl, rfl, rfl, rfl⟩ ?_
  rintro n ν μ ⟨i, rfl, h1, h2, h3, h4, rfl⟩
  refine EvT.and ?_
  refine EvT.cmp ?_ rfl
  refine' EvE.loc rfl (by assumption) ?_ rfl rfl
  refine' EvE.callB (by assumption) (B_len _) (BB_len) (by decide) ?_ rfl rfl rfl rfl rfl rfl rfl
  refine EvAs.cons ?_ rfl
  refine' EvE.loc rfl (by assumption) ?_ rfl rfl
  refine EvAs.nil ?_
  refine' EvL.lenS (by walk_at "side") ?_
  refine Ev2.ltI ?_
  refine Ev1.truthB ?_
  refine ⟨fun hb => ?_, fun hb => ?_⟩
  · have hb := of_decide_eq_true hb
    cases hd : x.cps.toList.drop i with
    | nil => have := drop_end hd; omega
    | cons c r =>
    obtain ⟨hc, hlt, hr'⟩ := at_drop hd
    refine EvT.and ?_
    refine EvT.cmp ?_ rfl
    refine EvE.sub ?_
    refine' EvE.loc rfl (by assumption) ?_ rfl rfl
    refine' EvE.loc rfl (by assumption) ?_ rfl rfl
    refine Ev2.subStrN (ch := c) (by omega) (by omega) (by simpa using hc) ?_
    refine' EvE.loc rfl (by assumption) ?_ rfl rfl
    refine Ev2.inS ?_
    refine Ev1.truthB ?_
    refine ⟨fun hb2 => ?_, fun hb2 => ?_⟩
    · refine EvT.andNil ?_
      refine brT (by walk_at "cond") ?_
      refine ⟨x.length - (i + 1), by omega, ?_⟩
      refine EvSs.cons ?_
      refine EvS.assign ?_ rfl
      refine EvE.binop ?_
      refine' EvE.loc rfl (by assumption) ?_ rfl rfl
      refine EvE.int ?_
      refine Ev2.add ?_
      refine EvStore rfl rfl ?_
      refine andThen_next ?_
      refine EvSs.nil ?_
      refine ⟨i + 1, rfl, h1, rfl, h3, ?_, rfl⟩
      rw [hr', ← h4, hd, runZ_pos hb2]
      omega
    · refine brF (by walk_at "cond") ?_
      refine andThen_next ?_
      refine EvSs.cons ?_
      refine EvS.ret ?_
      refine' EvE.loc rfl (by assumption) ?_ rfl rfl
      refine andThen_ret ?_
      refine fnEnd_ret ?_
      refine ⟨?_, rfl⟩
      rw [← h4, hd, runZ_neg hb2]
      rfl
  · have hb := of_decide_eq_false hb
    refine brF (by walk_at "cond") ?_
    refine andThen_next ?_
    refine EvSs.cons ?_
    refine EvS.ret ?_
    refine' EvE.loc rfl (by assumption) ?_ rfl rfl
    refine andThen_ret ?_
    refine fnEnd_ret ?_
    refine ⟨?_, rfl⟩
    rw [← h4, List.drop_eq_nil_of_le (by have : x.cps.toList.length = x.length := by simp [Str.length]
                                         omega)]
    rfl
theorem deq_str (a b : Str) : deq (.str a) (.str b) = (a == b) := by
  unfold deq AV.py
  simp [PyData.eqv]
theorem cut2 {x : Str} {i c d : Nat} (h1 : x.cps[i]? = some c) (h2 : x.cps[i + 1]? = some d) : cutS x i (i + 2) = ⟨#[c, d]⟩ := by
  unfold cutS
  have e1 : x.cps.toList[i]? = some c := by simpa using h1
  have e2 : x.cps.toList[i + 1]? = some d := by simpa using h2
  have l2 : i + 1 < x.cps.toList.length := (List.getElem?_eq_some_iff.mp e2).1
  have : i + 2 - i = 2 := by omega
  rw [this, List.drop_eq_getElem_cons (by omega), List.drop_eq_getElem_cons l2]
  rw [List.getElem?_eq_getElem (by omega)] at e1
  rw [List.getElem?_eq_getElem l2] at e2
  injection e1 with e1
  injection e2 with e2
  rw [e1, e2]
  rfl
theorem no_long {c d : Nat} (h : c = 123 ∨ c = 125) : ([AV.str (Str.ofString "<="), .str (Str.ofString ">="), .str (Str.ofString "!=")].any fun y => deq y (.str ⟨#[c, d]⟩)) = false := by
  have k : ∀ y : Str, ∀ e f : Nat, y = ⟨#[e, f]⟩ → e ≠ 123 → e ≠ 125 → deq (.str y) (.str ⟨#[c, d]⟩) = false := by
    intro y e f hy h1 h2
    rw [deq_str, beq_eq_false_iff_ne, hy]
    intro q
    have := congrArg (fun z => z.cps[0]?) q
    simp at this
    omega
  rw [List.any_cons, List.any_cons, List.any_cons, List.any_nil, k _ 60 61 (by decide +kernel) (by decide) (by decide), k _ 62 61 (by decide +kernel) (by decide) (by decide), k _ 33 61 (by decide +kernel) (by decide) (by decide)]
  rfl
theorem sp_sign (W : Wd hT (KK w.params)) (n : Nat) (x : Str) (i c d : Nat) (hx : x.length ≤ 1000) (hc : x.cps[i]? = some c) (hd : x.cps[i + 1]? = some d) (hd2 : d < 128) (h : c = 123 ∨ c = 125) : 
    Spec hT PG w (n + 1) (.ref 250) [.str x, .int (i : Nat)] [] (Gives (.tup [.str (Str.ofString "sign"), .str ⟨#[c]⟩, .int (i : Nat)]) []) := by
  have h2 : i + 1 < x.length := (Array.getElem?_eq_some_iff.mp hd).1
  refine Spec.fn W (L_sign_token _) (C_sign_token _) (fun s g vs _ _ hv => binds_of (qual := "") [Str.ofString "text", Str.ofString "at"] rfl (by decide) (by decide +kernel) (fun vs h => by obtain ⟨a, b, rfl⟩ := len2 h; rfl) s g vs hv) (by decide +kernel) rfl rfl rfl (fun A L' hr => ?_)
  refine EvSs.cons ?_
  refine EvS.iff ?_
  refine EvT.cmp ?_ rfl
  refine EvE.slice ?_
  refine' EvE.loc rfl rfl ?_ rfl rfl
  refine EvP.some ?_
  refine' EvE.loc rfl rfl ?_ rfl rfl
  refine int_ok ?_
  refine EvP.some ?_
  refine EvE.binop ?_
  refine' EvE.loc rfl rfl ?_ rfl rfl
  refine EvE.int ?_
  refine Ev2.add ?_
  refine int_ok ?_
  refine EvSl.str (by omega) (by omega) (by omega) (by omega) ?_
  have e : cutS x ((i : Nat) : Int).toNat ((i : Int) + 2).toNat = ⟨#[c, d]⟩ := cut2 hc hd
  rw [e]
  refine' EvE.top (by assumption) (T_LONG_SIGNS _) ?_ rfl rfl rfl rfl
  have ho : (AV.str ⟨#[c, d]⟩).ok 0 = true := by
    rcases h with rfl | rfl <;> (simp [AV.ok, PyData.strOk]; omega)
  refine Ev2.inTup 0 0 (by decide +kernel) ho (by decide) ?_
  rw [no_long h]
  refine Ev1.truthB ?_
  refine brF (by walk_at "cond") ?_
  refine EvSs.nil ?_
  refine andThen_next ?_
  refine EvSs.cons ?_
  refine EvS.iff ?_
  refine EvT.cmp ?_ rfl
  refine EvE.sub ?_
  refine' EvE.loc rfl rfl ?_ rfl rfl
  refine' EvE.loc rfl rfl ?_ rfl rfl
  refine Ev2.subStrN (ch := c) (by omega) (by omega) (by simpa using hc) ?_
  refine' EvE.top (by assumption) (T_SHORT_SIGNS _) ?_ rfl rfl rfl rfl
  refine Ev2.inS ?_
  refine Ev1.truthB ?_
  refine brT (by rcases h with rfl | rfl <;> decide +kernel) ?_
  refine EvSs.cons ?_
  refine EvS.ret ?_
  refine EvE.tuple ?_
  refine EvAs.cons ?_ rfl
  refine EvE.str ?_
  refine EvAs.cons ?_ rfl
  refine EvE.sub ?_
  refine' EvE.loc rfl rfl ?_ rfl rfl
  refine' EvE.loc rfl rfl ?_ rfl rfl
  refine Ev2.subStrN (ch := c) (by omega) (by omega) (by simpa using hc) ?_
  refine EvAs.cons ?_ rfl
  refine' EvE.loc rfl rfl ?_ rfl rfl
  refine EvAs.nil ?_
  refine tup_ok (by walk_at "side") ?_
  refine andThen_ret ?_
  refine andThen_ret ?_
  refine fnEnd_ret ?_
  exact ⟨rfl, rfl⟩
theorem RS.freeze {hT : Heap} {g : Fz} {s : Shared} {μ : Store} {a : Addr} {l : List AV} (r : RS hT g ((a, .list l) :: μ) s) : ∃ o, RS hT (put g a o) μ s ∧ Ext (foot ((a, .list l) :: μ)) (foot μ) s s g (put g a o) ∧ Rd (put g a o) (.ref a) (.lst l) := by
  obtain ⟨vs, ⟨n, ho⟩, rs⟩ := r.hold _ (.head _)
  obtain ⟨o, hoe⟩ : ∃ o : Obj, o = { cls := .type "list", data := .seq vs.toArray n } := ⟨_, rfl⟩
  rw [← hoe] at ho
  have hc : o.cls = .type "list" := by rw [hoe]
  have hd : o.data = .seq vs.toArray n := by rw [hoe]
  have hdom : foot ((a, .list l) :: μ) = a :: foot μ := rfl
  have ga : g a = none := r.off a (by rw [hdom]; exact .head _)
  have le := put_le (o := o) ga
  have ap := r.apart
  rw [hdom] at ap
  have ap2 := List.nodup_cons.mp ap
  refine ⟨o, ⟨fun b ob e => ?_, fun b ob e => le _ _ (r.top _ _ e), fun p hp => (r.hold p (.tail _ hp)).at le fun _ _ _ e => e, ap2.2, fun b hb => ?_⟩, ⟨le, fun b ob e => ?_, fun b ob e _ => e, fun b hb => .inl (by rw [hdom]; exact .tail _ hb), s.heap, s.toks, rfl⟩, .lst (put_self _ _ _) hc hd (rs.mono le)⟩
  · unfold put at e
    by_cases q : b = a
    · rw [if_pos q] at e; cases e; rw [q]; exact ho
    · rw [if_neg q] at e; exact r.sub _ _ e
  · unfold put
    by_cases q : b = a
    · subst q; exact absurd hb ap2.1
    · rw [if_neg q]; exact r.off b (by rw [hdom]; exact .tail _ hb)
  · unfold put at e
    by_cases q : b = a
    · subst q; exact .inr (.inl (by rw [hdom]; exact .head _))
    · rw [if_neg q] at e; exact .inl ⟨ob, e⟩
/-- a def that gives a list of its own: no one turns it any more -/
noncomputable def GivesL (l : List AV) (μ : Store) : AV → Store → Prop := fun e ρ => ∃ a, e = .ref a ∧ ρ = (a, .list l) :: μ
theorem Spec.frozen {hT : Heap} {w : World} {n : Nat} {f : Value} {ds : List AV} {μ μ' : Store} {l : List AV} (h : Spec hT PG w n f ds μ (GivesL l μ')) : Spec hT PG w n f ds μ (Gives (.lst l) μ') := by
  intro A g s vs Q hr r hv hQ
  refine h A g s vs Q hr r hv fun g' s' v d μ₁ e r' rd k₁ => ?_
  obtain ⟨a, rfl, rfl⟩ := k₁
  cases rd
  obtain ⟨o, r₂, e₂, rd₂⟩ := r'.freeze
  exact hQ _ s' _ _ μ' (e.trans e₂) r₂ rd₂ ⟨rfl, rfl⟩
/-- one turn of the reading of a text: how many signs it takes, and what it finds -/
noncomputable abbrev tok (k : Str) (v : AV) (i : Nat) : AV := .tup [.str k, v, .int (i : Nat)]
noncomputable def stepZ : List Nat → Nat → Option (Nat × List AV)
  | [], _ => none
  | c :: r, i =>
    if has ⟨#[c]⟩ (Str.ofString " \t\r\n") then some (1, [])
    else if c = 35 then none
    else if has ⟨#[c]⟩ (Str.ofString "abcdefghijklmnopqrstuvwxyzABCDEFGHIJKLMNOPQRSTUVWXYZ") then
      let n := runZ (Str.ofString "abcdefghijklmnopqrstuvwxyzABCDEFGHIJKLMNOPQRSTUVWXYZ0123456789-_") (c :: r)
      if n = 0 then none else some (n, [tok (Str.ofString "word") (.str ⟨((c :: r).take n).toArray⟩) i])
    else if has ⟨#[c]⟩ (Str.ofString "0123456789") then
      let n := runZ (Str.ofString "0123456789./:") (c :: r)
      let x : Str := ⟨((c :: r).take n).toArray⟩
      if n = 0 then none
      else if okPrefix x && has (Str.ofString "/") x then some (n, [tok (Str.ofString "prefix") (.tup [.int (prefOf x).1, .int (prefOf x).2]) i])
      else if decide (0 < x.length) && decide (x.length ≤ 3) && figs x.cps.toList && !has (Str.ofString "/") x && !has (Str.ofString ".") x && !has (Str.ofString ":") x then some (n, [tok (Str.ofString "number") (.int (numOf x)) i])
      else none
    else if c = 123 ∨ c = 125 then match r with
      | d :: _ => if d < 128 then some (1, [tok (Str.ofString "sign") (.str ⟨#[c]⟩) i]) else none
      | [] => none
    else none
noncomputable def lexZ : Nat → List Nat → Nat → Option (List AV)
  | 0, _, _ => none
  | _ + 1, [], _ => some []
  | f + 1, c :: r, i => match stepZ (c :: r) i with
    | some (n, t) => (lexZ f ((c :: r).drop n) (i + n)).map (t ++ ·)
    | none => none
theorem cut_take {x : Str} {i n : Nat} {l : List Nat} (h : x.cps.toList.drop i = l) : cutS x i (i + n) = ⟨(l.take n).toArray⟩ := by
  unfold cutS
  rw [h]
  have : i + n - i = n := by omega
  rw [this]
theorem sp_tokens_of (W : Wd hT (KK w.params)) (n : Nat) (x : Str) (f : Nat) (l : List AV) (hx : x.length ≤ 1000) (hl : l.length ≤ 1000) (h : lexZ f x.cps.toList 0 = some l) :
    Spec hT PG w (n + 5) (.ref 257) [.str x] [] (Gives (.lst (l ++ [tok (Str.ofString "end") (.str (Str.ofString "")) x.length])) []) := by
  refine Spec.frozen ?_
  refine Spec.fn W (L_tokens_of _) (C_tokens_of _) (fun s g vs _ _ hv => binds_of (qual := "") [Str.ofString "text"] rfl (by decide) (by decide +kernel) (fun vs h => by obtain ⟨a, rfl⟩ := len1 h; rfl) s g vs hv) (by decide +kernel) rfl rfl rfl (fun A L' hr => ?_)
  refine EvSs.cons ?_
  refine' EvS.assignSw ?_ rfl rfl
  refine EvE.tuple ?_
  refine EvAs.cons ?_ rfl
  refine EvE.list ?_
  refine EvAs.nil ?_
  refine tup_ok (by walk_at "side") ?_
  intro a
  refine EvAs.cons ?_ rfl
  refine EvE.int ?_
  refine EvAs.nil ?_
  refine tup_ok (by walk_at "side") ?_
  refine sw_ok ?_
  refine EvStore rfl rfl ?_
  refine EvStore rfl rfl ?_
  refine andThen_next ?_
  refine EvSs.cons ?_
  refine EvS.whileI (fun f ν μ => ∃ (i : Nat) (acc l' : List AV), lexZ f (x.cps.toList.drop i) i = some l' ∧ acc ++ l' = l ∧ ν (Str.ofString "text") = some (.str x) ∧ ν (Str.ofString "at") = some (.int (i : Nat)) ∧ ν (Str.ofString "found") = some (.ref a) ∧ μ = [(a, .list acc)]) f ⟨0, [], l, h, rfl, rfl, rfl, rfl, rfl⟩ ?_
  rintro f ν μ ⟨i, acc, l', h1, h2, h3, h4, h5, rfl⟩
  have hacc : acc.length ≤ 1000 := by rw [← h2, List.length_append] at hl; omega
  refine EvT.cmp ?_ rfl
  refine' EvE.loc rfl (by assumption) ?_ rfl rfl
  refine' EvE.callB (by assumption) (B_len _) (BB_len) (by decide) ?_ rfl rfl rfl rfl rfl rfl rfl
  refine EvAs.cons ?_ rfl
  refine' EvE.loc rfl (by assumption) ?_ rfl rfl
  refine EvAs.nil ?_
  refine' EvL.lenS (by walk_at "side") ?_
  refine Ev2.ltI ?_
  refine Ev1.truthB ?_
  refine ⟨fun hb => ?_, fun hb => ?_⟩
  · have hb := of_decide_eq_true hb
    cases hd : x.cps.toList.drop i with
    | nil => have := drop_end hd; omega
    | cons c r =>
    obtain ⟨hc, hlt, hr'⟩ := at_drop hd
    rw [hd] at h1
    cases f with
    | zero => cases h1
    | succ f =>
    refine ⟨f, rfl, ?_⟩
    unfold lexZ at h1
    cases hst : stepZ (c :: r) i with
    | none => rw [hst] at h1; cases h1
    | some nt =>
    obtain ⟨m, t⟩ := nt
    rw [hst] at h1
    dsimp only at h1
    cases hlx : lexZ f ((c :: r).drop m) (i + m) with
    | none => rw [hlx] at h1; cases h1
    | some l2 =>
    rw [hlx] at h1
    cases h1
    have hnx : lexZ f (x.cps.toList.drop (i + m)) (i + m) = some l2 := by rw [← List.drop_drop, hd]; exact hlx
    unfold stepZ at hst
    dsimp only at hst
    refine EvSs.cons ?_
    refine EvS.iff ?_
    refine EvT.cmp ?_ rfl
    refine EvE.sub ?_
    refine' EvE.loc rfl (by assumption) ?_ rfl rfl
    refine' EvE.loc rfl (by assumption) ?_ rfl rfl
    refine Ev2.subStrN (ch := c) (by omega) (by omega) (by simpa using hc) ?_
    refine' EvE.top (by assumption) (T_BLANKS _) ?_ rfl rfl rfl rfl
    refine Ev2.inS ?_
    refine Ev1.truthB ?_
    refine ⟨fun hb2 => ?_, fun hb2 => ?_⟩
    · rw [if_pos (show has ⟨#[c]⟩ _ = true from hb2)] at hst
      cases hst
      refine EvSs.cons ?_
      refine EvS.assign ?_ rfl
      refine EvE.binop ?_
      refine' EvE.loc rfl (by assumption) ?_ rfl rfl
      refine EvE.int ?_
      refine Ev2.add ?_
      refine EvStore rfl rfl ?_
      refine andThen_next ?_
      refine EvSs.nil ?_
      refine andThen_next ?_
      refine EvSs.nil ?_
      exact ⟨i + 1, acc, l2, hnx, h2, h3, rfl, h5, rfl⟩
    rw [if_neg (show ¬ has ⟨#[c]⟩ _ = true by rw [show has ⟨#[c]⟩ _ = false from hb2]; decide)] at hst
    refine EvSs.cons ?_
    refine EvS.iff ?_
    refine EvT.cmp ?_ rfl
    refine EvE.sub ?_
    refine' EvE.loc rfl (by assumption) ?_ rfl rfl
    refine' EvE.loc rfl (by assumption) ?_ rfl rfl
    refine Ev2.subStrN (ch := c) (by omega) (by omega) (by simpa using hc) ?_
    refine EvE.str ?_
    refine Ev2.eqS ?_
    refine Ev1.truthB ?_
    by_cases h35 : c = 35
    · rw [if_pos h35] at hst; cases hst
    rw [if_neg h35] at hst
    refine brF ((sgl_eq c 35).trans (by simpa using h35)) ?_
    refine EvSs.cons ?_
    refine EvS.iff ?_
    refine EvT.cmp ?_ rfl
    refine EvE.sub ?_
    refine' EvE.loc rfl (by assumption) ?_ rfl rfl
    refine' EvE.loc rfl (by assumption) ?_ rfl rfl
    refine Ev2.subStrN (ch := c) (by omega) (by omega) (by simpa using hc) ?_
    refine' EvE.top (by assumption) (T_LETTERS _) ?_ rfl rfl rfl rfl
    refine Ev2.inS ?_
    refine Ev1.truthB ?_
    refine ⟨fun hb3 => ?_, fun hb3 => ?_⟩
    · rw [if_pos (show has ⟨#[c]⟩ _ = true from hb3)] at hst
      split at hst
      · cases hst
      cases hst
      have hrn : (i + runZ (Str.ofString "abcdefghijklmnopqrstuvwxyzABCDEFGHIJKLMNOPQRSTUVWXYZ0123456789-_") (x.cps.toList.drop i)) ≤ x.length := by
        have := runZ_le (Str.ofString "abcdefghijklmnopqrstuvwxyzABCDEFGHIJKLMNOPQRSTUVWXYZ0123456789-_") (x.cps.toList.drop i)
        rw [List.length_drop] at this
        have e : x.cps.toList.length = x.length := by simp [Str.length]
        omega
      refine EvSs.cons ?_
      refine EvS.assign ?_ rfl
      refine' EvE.callK (by assumption) (G_run_end _) (KI_run_end _) ?_ rfl rfl rfl rfl rfl rfl
      refine EvAs.cons ?_ rfl
      refine' EvE.loc rfl (by assumption) ?_ rfl rfl
      refine EvAs.cons ?_ rfl
      refine' EvE.loc rfl (by assumption) ?_ rfl rfl
      refine EvAs.cons ?_ rfl
      refine' EvE.top (by assumption) (T_WORD_SIGNS _) ?_ rfl rfl rfl rfl
      refine EvAs.nil ?_
      refine EvL.gives (by dsimp only; omega) (sp_run_end W 0 x _ i hx) ?_
      refine EvStore rfl rfl ?_
      refine andThen_next ?_
      refine EvSs.cons ?_
      refine EvS.expr ?_ rfl rfl
      refine' EvE.append ?_ rfl rfl
      refine' EvE.loc rfl (by assumption) ?_ rfl rfl
      refine' app_ok (.head _) ?_
      refine EvE.tuple ?_
      refine EvAs.cons ?_ rfl
      refine EvE.str ?_
      refine EvAs.cons ?_ rfl
      refine EvE.slice ?_
      refine' EvE.loc rfl (by assumption) ?_ rfl rfl
      refine EvP.some ?_
      refine' EvE.loc rfl (by assumption) ?_ rfl rfl
      refine int_ok ?_
      refine EvP.some ?_
      refine' EvE.loc rfl rfl ?_ rfl rfl
      refine int_ok ?_
      refine EvSl.str (by omega) (by omega) (by omega) (by omega) ?_
      rw [show cutS x ((i : Nat) : Int).toNat ((i + runZ (Str.ofString "abcdefghijklmnopqrstuvwxyzABCDEFGHIJKLMNOPQRSTUVWXYZ0123456789-_") (x.cps.toList.drop i) : Nat) : Int).toNat = _ from cut_take hd]
      refine EvAs.cons ?_ rfl
      refine' EvE.loc rfl (by assumption) ?_ rfl rfl
      refine EvAs.nil ?_
      refine tup_ok (by walk_at "side") ?_
      refine ⟨[], _, _, rfl, (by walk_at "side"), ?_⟩; dsimp only [List.nil_append, List.cons_append]
      refine none_ok ?_
      refine andThen_next ?_
      refine EvSs.cons ?_
      refine EvS.assign ?_ rfl
      refine' EvE.loc rfl rfl ?_ rfl rfl
      refine EvStore rfl rfl ?_
      refine andThen_next ?_
      refine EvSs.nil ?_
      refine andThen_next ?_
      refine EvSs.nil ?_
      refine andThen_next ?_
      refine EvSs.nil ?_
      refine andThen_next ?_
      refine EvSs.nil ?_
      refine ⟨_, _, l2, hnx, ?_, h3, ?_, h5, rfl⟩
      · rw [← h2, List.append_assoc, hd] <;> rfl
      · rw [hd]; rfl
    rw [if_neg (show ¬ has ⟨#[c]⟩ _ = true by rw [show has ⟨#[c]⟩ _ = false from hb3]; decide)] at hst
    refine EvSs.cons ?_
    refine EvS.iff ?_
    refine EvT.cmp ?_ rfl
    refine EvE.sub ?_
    refine' EvE.loc rfl (by assumption) ?_ rfl rfl
    refine' EvE.loc rfl (by assumption) ?_ rfl rfl
    refine Ev2.subStrN (ch := c) (by omega) (by omega) (by simpa using hc) ?_
    refine' EvE.top (by assumption) (T_FIGURES_prefixes _) ?_ rfl rfl rfl rfl
    refine Ev2.inS ?_
    refine Ev1.truthB ?_
    refine ⟨fun hb4 => ?_, fun hb4 => ?_⟩
    · rw [if_pos (show has ⟨#[c]⟩ _ = true from hb4)] at hst
      split at hst
      · cases hst
      have hrn : (i + runZ (Str.ofString "0123456789./:") (x.cps.toList.drop i)) ≤ x.length := by
        have := runZ_le (Str.ofString "0123456789./:") (x.cps.toList.drop i)
        rw [List.length_drop] at this
        have e : x.cps.toList.length = x.length := by simp [Str.length]
        omega
      refine EvSs.cons ?_
      refine EvS.assign ?_ rfl
      refine' EvE.callK (by assumption) (G_run_end _) (KI_run_end _) ?_ rfl rfl rfl rfl rfl rfl
      refine EvAs.cons ?_ rfl
      refine' EvE.loc rfl (by assumption) ?_ rfl rfl
      refine EvAs.cons ?_ rfl
      refine' EvE.loc rfl (by assumption) ?_ rfl rfl
      refine EvAs.cons ?_ rfl
      refine' EvE.top (by assumption) (T_NUMBER_SIGNS _) ?_ rfl rfl rfl rfl
      refine EvAs.nil ?_
      refine EvL.gives (by dsimp only; omega) (sp_run_end W 0 x _ i hx) ?_
      refine EvStore rfl rfl ?_
      refine andThen_next ?_
      refine EvSs.cons ?_
      refine EvS.expr ?_ rfl rfl
      refine' EvE.append ?_ rfl rfl
      refine' EvE.loc rfl (by assumption) ?_ rfl rfl
      refine' app_ok (.head _) ?_
      refine' EvE.callK (by assumption) (G_figures_token _) (KI_figures_token _) ?_ rfl rfl rfl rfl rfl rfl
      refine EvAs.cons ?_ rfl
      refine EvE.slice ?_
      refine' EvE.loc rfl (by assumption) ?_ rfl rfl
      refine EvP.some ?_
      refine' EvE.loc rfl (by assumption) ?_ rfl rfl
      refine int_ok ?_
      refine EvP.some ?_
      refine' EvE.loc rfl rfl ?_ rfl rfl
      refine int_ok ?_
      refine EvSl.str (by omega) (by omega) (by omega) (by omega) ?_
      rw [show cutS x ((i : Nat) : Int).toNat ((i + runZ (Str.ofString "0123456789./:") (x.cps.toList.drop i) : Nat) : Int).toNat = _ from cut_take hd, hd]
      refine EvAs.cons ?_ rfl
      refine' EvE.loc rfl (by assumption) ?_ rfl rfl
      refine EvAs.nil ?_
      split at hst
      · rename_i hp
        rw [Bool.and_eq_true] at hp
        cases hst
        refine EvL.gives (by dsimp only; omega) (sp_fig_prefix W 0 _ _ hp.1 hp.2) ?_
        refine ⟨[], _, _, rfl, (by walk_at "side"), ?_⟩; dsimp only [List.nil_append, List.cons_append]
        refine none_ok ?_
        refine andThen_next ?_
        refine EvSs.cons ?_
        refine EvS.assign ?_ rfl
        refine' EvE.loc rfl rfl ?_ rfl rfl
        refine EvStore rfl rfl ?_
        refine andThen_next ?_
        refine EvSs.nil ?_
        refine andThen_next ?_
        refine EvSs.nil ?_
        refine andThen_next ?_
        refine EvSs.nil ?_
        refine andThen_next ?_
        refine EvSs.nil ?_
        refine andThen_next ?_
        refine EvSs.nil ?_
        refine ⟨_, _, l2, hnx, ?_, h3, rfl, h5, rfl⟩
        rw [← h2, List.append_assoc] <;> rfl
      · split at hst
        · rename_i hp
          rw [Bool.and_eq_true, Bool.and_eq_true, Bool.and_eq_true, Bool.and_eq_true, Bool.and_eq_true, decide_eq_true_eq, decide_eq_true_eq, Bool.not_eq_true', Bool.not_eq_true', Bool.not_eq_true'] at hp
          obtain ⟨⟨⟨⟨⟨p1, p2⟩, p3⟩, p4⟩, p5⟩, p6⟩ := hp
          cases hst
          refine EvL.gives (by dsimp only; omega) (sp_fig_number W 0 _ _ p1 p2 p3 p4 p5 p6) ?_
          refine ⟨[], _, _, rfl, (by walk_at "side"), ?_⟩; dsimp only [List.nil_append, List.cons_append]
          refine none_ok ?_
          refine andThen_next ?_
          refine EvSs.cons ?_
          refine EvS.assign ?_ rfl
          refine' EvE.loc rfl rfl ?_ rfl rfl
          refine EvStore rfl rfl ?_
          refine andThen_next ?_
          refine EvSs.nil ?_
          refine andThen_next ?_
          refine EvSs.nil ?_
          refine andThen_next ?_
          refine EvSs.nil ?_
          refine andThen_next ?_
          refine EvSs.nil ?_
          refine andThen_next ?_
          refine EvSs.nil ?_
          refine ⟨_, _, l2, hnx, ?_, h3, rfl, h5, rfl⟩
          rw [← h2, List.append_assoc] <;> rfl
        · cases hst
    rw [if_neg (show ¬ has ⟨#[c]⟩ _ = true by rw [show has ⟨#[c]⟩ _ = false from hb4]; decide)] at hst
    by_cases h12 : c = 123 ∨ c = 125
    case neg => rw [if_neg h12] at hst; cases hst
    rw [if_pos h12] at hst
    cases r with
    | nil => cases hst
    | cons d r =>
    dsimp only at hst
    split at hst
    case isFalse => cases hst
    rename_i hd2
    cases hst
    have hc2 : x.cps[i + 1]? = some d := (at_drop hr').1
    refine EvSs.cons ?_
    refine EvS.expr ?_ rfl rfl
    refine' EvE.append ?_ rfl rfl
    refine' EvE.loc rfl (by assumption) ?_ rfl rfl
    refine' app_ok (.head _) ?_
    refine' EvE.callK (by assumption) (G_sign_token _) (KI_sign_token _) ?_ rfl rfl rfl rfl rfl rfl
    refine EvAs.cons ?_ rfl
    refine' EvE.loc rfl (by assumption) ?_ rfl rfl
    refine EvAs.cons ?_ rfl
    refine' EvE.loc rfl (by assumption) ?_ rfl rfl
    refine EvAs.nil ?_
    refine EvL.gives (by dsimp only; omega) (sp_sign W 0 x i c d hx hc hc2 hd2 h12) ?_
    refine ⟨[], _, _, rfl, (by walk_at "side"), ?_⟩; dsimp only [List.nil_append, List.cons_append]
    refine none_ok ?_
    refine andThen_next ?_
    refine EvSs.cons ?_
    refine EvS.assign ?_ rfl
    refine EvE.binop ?_
    refine' EvE.loc rfl (by assumption) ?_ rfl rfl
    refine' EvE.callB (by assumption) (B_len _) (BB_len) (by decide) ?_ rfl rfl rfl rfl rfl rfl rfl
    refine EvAs.cons ?_ rfl
    refine EvE.sub ?_
    refine EvE.sub ?_
    refine' EvE.loc rfl (by assumption) ?_ rfl rfl
    refine EvE.neg ?_
    refine EvE.int ?_
    refine int_ok ?_
    refine Ev2.subCell (j := acc.length) (.head _) ?_ (by rw [List.getElem?_append_right (Nat.le_refl _)]; simp; rfl) ?_ (fun _ _ => rfl) (by decide) (by decide)
    · rw [List.length_append, List.length_singleton, StrLaws.seqIndex_neg (by decide) (by omega)]
      congr 1; omega
    refine EvE.int ?_
    refine' Ev2.subTup rfl rfl ?_ (fun _ _ => rfl) (by decide) (by decide)
    refine EvAs.nil ?_
    refine' EvL.lenS (by walk_at "side") ?_
    refine Ev2.add ?_
    refine EvStore rfl rfl ?_
    refine andThen_next ?_
    refine EvSs.nil ?_
    refine andThen_next ?_
    refine EvSs.nil ?_
    refine andThen_next ?_
    refine EvSs.nil ?_
    refine andThen_next ?_
    refine EvSs.nil ?_
    refine andThen_next ?_
    refine EvSs.nil ?_
    refine ⟨i + 1, _, l2, hnx, ?_, h3, rfl, h5, rfl⟩
    rw [← h2, List.append_assoc] <;> rfl
  · have hb := of_decide_eq_false hb
    have hl' : l' = [] := by
      rw [List.drop_eq_nil_of_le (by have : x.cps.toList.length = x.length := by simp [Str.length]
                                     omega)] at h1
      cases f with
      | zero => cases h1
      | succ f => cases h1; rfl
    subst hl'
    rw [List.append_nil] at h2
    subst h2
    refine andThen_next ?_
    refine EvSs.cons ?_
    refine EvS.expr ?_ rfl rfl
    refine' EvE.append ?_ rfl rfl
    refine' EvE.loc rfl (by assumption) ?_ rfl rfl
    refine' app_ok (.head _) ?_
    refine EvE.tuple ?_
    refine EvAs.cons ?_ rfl
    refine EvE.str ?_
    refine EvAs.cons ?_ rfl
    refine EvE.str ?_
    refine EvAs.cons ?_ rfl
    refine' EvE.callB (by assumption) (B_len _) (BB_len) (by decide) ?_ rfl rfl rfl rfl rfl rfl rfl
    refine EvAs.cons ?_ rfl
    refine' EvE.loc rfl (by assumption) ?_ rfl rfl
    refine EvAs.nil ?_
    refine' EvL.lenS (by walk_at "side") ?_
    refine EvAs.nil ?_
    refine tup_ok (by walk_at "side") ?_
    refine ⟨[], _, _, rfl, (by walk_at "side"), ?_⟩; dsimp only [List.nil_append, List.cons_append]
    refine none_ok ?_
    refine andThen_next ?_
    refine EvSs.cons ?_
    refine EvS.ret ?_
    refine' EvE.loc rfl (by assumption) ?_ rfl rfl
    refine andThen_ret ?_
    refine fnEnd_ret ?_
    exact ⟨a, rfl, rfl⟩
end

/-! E5 -/
section
variable {hT : Heap} {w : World} {c : Cx} {ν : Loc}
theorem EvL.whole {n : Nat} {f : Value} {ds : List AV} {μ : Store} {k : Kt AV} {k₀ : AV → Store → Prop} (hn : n ≤ c.n) (h : Spec hT PG w n f ds μ k₀) (hk : ∀ d μ', k₀ d μ' → k d ν μ') : EvL hT PG w c (fun vs => call f vs) Rd ds ν μ k := by
  have := EvL.spec (c := c) (ν := ν) (pre := []) (post := []) (k := k) hn h (fun d μ' q => by simpa using hk d μ' q)
  simpa using this
theorem EvL.wg {n : Nat} {f : Value} {ds : List AV} {μ μ' : Store} {d : AV} {k : Kt AV} (hn : n ≤ c.n) (h : Spec hT PG w n f ds μ (Gives d μ')) (hk : k d ν μ') : EvL hT PG w c (fun vs => call f vs) Rd ds ν μ k :=
  EvL.whole hn h fun d μ' q => by obtain ⟨rfl, rfl⟩ := q; exact hk
theorem EvL.tg {n : Nat} {f : Value} {ds : List AV} {p : Addr × MO} {μ μ' : Store} {d : AV} {k : Kt AV} (hn : n ≤ c.n) (h : Spec hT PG w n f ds μ (Gives d μ')) (hk : k d ν (p :: μ')) : EvL hT PG w c (fun vs => call f vs) Rd ds ν (p :: μ) k := by
  have := EvL.spec (c := c) (ν := ν) (pre := [p]) (post := []) (k := k) hn h (fun d μ' q => by obtain ⟨rfl, rfl⟩ := q; simpa using hk)
  simpa using this
noncomputable def rdr (toks : List AV) (i : Nat) (p : Int) : List (Str × AV) := [(Str.ofString "tokens", .lst toks), (Str.ofString "at", .int (i : Nat)), (Str.ofString "most_deep", .int 12), (Str.ofString "parts", .int p)]
noncomputable abbrev rs (x dx : Addr) (toks : List AV) (i : Nat) (p : Int) : Store := [(x, .inst 467 dx (rdr toks i p))]
theorem tk_at {toks : List AV} {i : Nat} {t : AV} {r : List AV} (h : toks.drop i = t :: r) : toks[i]? = some t ∧ i < toks.length ∧ toks.drop (i + 1) = r := by
  have hlt : i < toks.length := by
    by_cases q : i < toks.length
    · exact q
    · rw [List.drop_eq_nil_of_le (by omega)] at h; cases h
  rw [List.drop_eq_getElem_cons hlt] at h
  injection h with h1 h2
  exact ⟨by rw [← h1]; simp [hlt], hlt, h2⟩
variable {x dx : Addr} {toks : List AV} {i : Nat} {p : Int} {kd : Str} {v : AV} {j : Nat} {r : List AV}
theorem Ev2.notInTup {μ : Store} {l : List AV} {d : AV} {k : Kt AV} (n m : Nat) (hl : AV.oks n l = true) (hd : d.ok m = true) (hn : m ≤ 32) (h : k (.bool (!l.any fun y => deq y d)) ν μ) : Ev2 hT PG w c (compareOp .NotIn) Rd d (.tup l) ν μ k := by
  intro g s Q v u r hv hu hQ
  obtain ⟨as, ra⟩ := hu.reads r.sub (n + 1) (by simpa [AV.ok] using hl)
  obtain ⟨bs, rb⟩ := hv.reads r.sub m hd
  have la := AV.lays n l hl
  have lb := AV.lay m d hd
  rw [AV.py] at ra
  have hu' := r.units
  refine SeqAt.notIn_tuple_reads ra rb la.1 lb.1 ?_ (by rw [anyEq]; exact hQ g s _ _ ν μ (Ext.refl _ _ _) r (.bool _) h)
  have := Nat.min_le_right (PyData.depthAll (AV.pys l)) d.py.depth
  have := lb.2
  omega
theorem Ev2.subLN {value slice : Expr} {μ : Store} {l : List AV} {i : Nat} {d : AV} {k : Kt AV} (hx : l[i]? = some d) (hz : l.length ≤ 1000) (h : k d ν μ)
    (hs : ∀ o i, subscripted slice false o i = operate [o, i] (getItem o i) := by exact fun _ _ => rfl) : Ev2 hT PG w c (subscriptTail value slice) Rd (.lst l) (.int (i : Nat)) ν μ k := by
  have hlt : i < l.length := (List.getElem?_eq_some_iff.mp hx).1
  exact Ev2.subLst (StrLaws.seqIndex_nonneg (by omega) (by omega)) (by simpa using hx) h hs (by omega) (by omega)
theorem sp_kind (W : Wd hT (KK w.params)) (n : Nat) (hz : toks.length ≤ 1000) (h : toks.drop i = tok kd v j :: r) : Spec hT PG w (n + 1) (.ref 288) [.ref x] (rs x dx toks i p) (Gives (.str kd) (rs x dx toks i p)) := by
  obtain ⟨h1, h2, -⟩ := tk_at h
  refine Spec.fn W (L_TokenRow_kind _) (C_TokenRow_kind _) (fun s g vs _ _ hv => binds_of (qual := "") [Str.ofString "self"] rfl (by decide) (by decide +kernel) (fun vs h => by obtain ⟨a, rfl⟩ := len1 h; rfl) s g vs hv) (by decide +kernel) rfl rfl rfl (fun A L' hr => ?_)
  refine EvSs.cons ?_
  refine EvS.ret ?_
  refine EvE.sub ?_
  refine EvE.sub ?_
  refine' EvE.attr (by assumption) ?_ rfl
  refine' EvE.loc rfl rfl ?_ rfl rfl
  refine' ⟨_, _, _, _, _, rfl, .inl (.head _), rfl, (AP_tokens _), HD _, (AF_tokens _), ?_⟩
  refine' EvE.attr (by assumption) ?_ rfl
  refine' EvE.loc rfl rfl ?_ rfl rfl
  refine' ⟨_, _, _, _, _, rfl, .inl (.head _), rfl, (AP_at _), HD _, (AF_at _), ?_⟩
  refine Ev2.subLN h1 hz ?_
  refine EvE.int ?_
  refine' Ev2.subTup rfl rfl ?_ (fun _ _ => rfl) (by decide) (by decide)
  refine andThen_ret ?_
  refine fnEnd_ret ?_
  exact ⟨rfl, rfl⟩
theorem sp_value (W : Wd hT (KK w.params)) (n : Nat) (hz : toks.length ≤ 1000) (h : toks.drop i = tok kd v j :: r) : Spec hT PG w (n + 1) (.ref 295) [.ref x] (rs x dx toks i p) (Gives v (rs x dx toks i p)) := by
  obtain ⟨h1, h2, -⟩ := tk_at h
  refine Spec.fn W (L_TokenRow_value _) (C_TokenRow_value _) (fun s g vs _ _ hv => binds_of (qual := "") [Str.ofString "self"] rfl (by decide) (by decide +kernel) (fun vs h => by obtain ⟨a, rfl⟩ := len1 h; rfl) s g vs hv) (by decide +kernel) rfl rfl rfl (fun A L' hr => ?_)
  refine EvSs.cons ?_
  refine EvS.ret ?_
  refine EvE.sub ?_
  refine EvE.sub ?_
  refine' EvE.attr (by assumption) ?_ rfl
  refine' EvE.loc rfl rfl ?_ rfl rfl
  refine' ⟨_, _, _, _, _, rfl, .inl (.head _), rfl, (AP_tokens _), HD _, (AF_tokens _), ?_⟩
  refine' EvE.attr (by assumption) ?_ rfl
  refine' EvE.loc rfl rfl ?_ rfl rfl
  refine' ⟨_, _, _, _, _, rfl, .inl (.head _), rfl, (AP_at _), HD _, (AF_at _), ?_⟩
  refine Ev2.subLN h1 hz ?_
  refine EvE.int ?_
  refine' Ev2.subTup rfl rfl ?_ (fun _ _ => rfl) (by decide) (by decide)
  refine andThen_ret ?_
  refine fnEnd_ret ?_
  exact ⟨rfl, rfl⟩
noncomputable def isTok (kd : Str) (v : AV) (k s : Str) : Bool := kd == k && (match v with | .str s' => s' == s | _ => false)
theorem sp_is_next (W : Wd hT (KK w.params)) (n : Nat) (k s : Str) (hz : toks.length ≤ 1000) (h : toks.drop i = tok kd v j :: r) (hk : (kd == k) = false ∨ ∃ s', v = .str s') : Spec hT PG w (n + 2) (.ref 309) [.ref x, .str k, .str s] (rs x dx toks i p) (Gives (.bool (isTok kd v k s)) (rs x dx toks i p)) := by
  refine Spec.fn W (L_TokenRow_is_next _) (C_TokenRow_is_next _) (fun s g vs _ _ hv => binds_of (qual := "") [Str.ofString "self", Str.ofString "kind", Str.ofString "value"] rfl (by decide) (by decide +kernel) (fun vs h => by obtain ⟨a, b, c, rfl⟩ := len3 h; rfl) s g vs hv) (by decide +kernel) rfl rfl rfl (fun A L' hr => ?_)
  refine EvSs.cons ?_
  refine EvS.ret ?_
  refine EvE.and2 ?_
  refine EvE.cmp ?_ rfl
  refine' EvE.meth0 (by assumption) ?_ rfl
  refine' EvE.loc rfl rfl ?_ rfl rfl
  refine' ⟨_, _, ⟨_, _, _, rfl, .inl (.head _), rfl, (MP_kind _), (MF_kind _), (MI_kind _), (MK_kind _)⟩, ?_⟩
  refine EvL.wg (by dsimp only; omega) (sp_kind W 0 hz h) ?_
  refine' EvE.loc rfl rfl ?_ rfl rfl
  refine Ev2.eqS ?_
  refine Ev1.truthB ?_
  refine ⟨fun hb => ?_, fun hb => ?_⟩
  · obtain ⟨s', rfl⟩ := hk.resolve_left (by rw [hb]; decide)
    refine EvE.cmp ?_ rfl
    refine' EvE.meth0 (by assumption) ?_ rfl
    refine' EvE.loc rfl rfl ?_ rfl rfl
    refine' ⟨_, _, ⟨_, _, _, rfl, .inl (.head _), rfl, (MP_value _), (MF_value _), (MI_value _), (MK_value _)⟩, ?_⟩
    refine EvL.wg (by dsimp only; omega) (sp_value W 0 hz h) ?_
    refine' EvE.loc rfl rfl ?_ rfl rfl
    refine Ev2.eqS ?_
    refine andThen_ret ?_
    refine fnEnd_ret ?_
    exact ⟨by unfold isTok; rw [hb]; rfl, rfl⟩
  · refine andThen_ret ?_
    refine fnEnd_ret ?_
    exact ⟨by unfold isTok; rw [hb]; rfl, rfl⟩
theorem sp_skipT (W : Wd hT (KK w.params)) (n : Nat) (k s : Str) (hz : toks.length ≤ 1000) (h : toks.drop i = tok k (.str s) j :: r) : Spec hT PG w (n + 3) (.ref 316) [.ref x, .str k, .str s] (rs x dx toks i p) (Gives (.bool true) (rs x dx toks (i + 1) p)) := by
  refine Spec.fn W (L_TokenRow_skip _) (C_TokenRow_skip _) (fun s g vs _ _ hv => binds_of (qual := "") [Str.ofString "self", Str.ofString "kind", Str.ofString "value"] rfl (by decide) (by decide +kernel) (fun vs h => by obtain ⟨a, b, c, rfl⟩ := len3 h; rfl) s g vs hv) (by decide +kernel) rfl rfl rfl (fun A L' hr => ?_)
  refine EvSs.cons ?_
  refine EvS.iff ?_
  refine EvT.not ?_
  refine EvT.plain ?_ rfl
  refine' EvE.meth (by assumption) ?_ rfl rfl rfl
  refine' EvE.loc rfl rfl ?_ rfl rfl
  refine' ⟨_, _, ⟨_, _, _, rfl, .inl (.head _), rfl, (MP_is_next _), (MF_is_next _), (MI_is_next _), (MK_is_next _)⟩, ?_⟩
  refine EvAs.cons ?_ rfl
  refine' EvE.loc rfl rfl ?_ rfl rfl
  refine EvAs.cons ?_ rfl
  refine' EvE.loc rfl rfl ?_ rfl rfl
  refine EvAs.nil ?_
  refine EvL.wg (by dsimp only; omega) (sp_is_next W 0 k s hz h (.inr ⟨_, rfl⟩)) ?_
  have e : isTok k (.str s) k s = true := by unfold isTok; simp
  rw [e]
  refine Ev1.truthB ?_
  refine brF (by walk_at "cond") ?_
  refine EvSs.nil ?_
  refine andThen_next ?_
  refine EvSs.cons ?_
  refine' EvS.setAttr (by assumption) ?_ rfl
  refine EvE.binop ?_
  refine' EvE.attr (by assumption) ?_ rfl
  refine' EvE.loc rfl rfl ?_ rfl rfl
  refine' ⟨_, _, _, _, _, rfl, .inl (.head _), rfl, (AP_at _), HD _, (AF_at _), ?_⟩
  refine EvE.int ?_
  refine Ev2.add ?_
  refine' EvE.loc rfl rfl ?_ rfl rfl
  refine' ⟨_, _, _, _, [], _, rfl, rfl, Nat.le_of_ble_eq_true rfl, SA _, PO _, (AT_at _), HD _, ?_⟩; dsimp only [List.nil_append]
  refine andThen_next ?_
  refine EvSs.cons ?_
  refine EvS.ret ?_
  refine EvE.bool ?_
  refine andThen_ret ?_
  refine fnEnd_ret ?_
  exact ⟨rfl, rfl⟩
theorem sp_skipF (W : Wd hT (KK w.params)) (n : Nat) (k s : Str) (hz : toks.length ≤ 1000) (h : toks.drop i = tok kd v j :: r) (hk : (kd == k) = false ∨ ∃ s', v = .str s') (hf : isTok kd v k s = false) : Spec hT PG w (n + 3) (.ref 316) [.ref x, .str k, .str s] (rs x dx toks i p) (Gives (.bool false) (rs x dx toks i p)) := by
  refine Spec.fn W (L_TokenRow_skip _) (C_TokenRow_skip _) (fun s g vs _ _ hv => binds_of (qual := "") [Str.ofString "self", Str.ofString "kind", Str.ofString "value"] rfl (by decide) (by decide +kernel) (fun vs h => by obtain ⟨a, b, c, rfl⟩ := len3 h; rfl) s g vs hv) (by decide +kernel) rfl rfl rfl (fun A L' hr => ?_)
  refine EvSs.cons ?_
  refine EvS.iff ?_
  refine EvT.not ?_
  refine EvT.plain ?_ rfl
  refine' EvE.meth (by assumption) ?_ rfl rfl rfl
  refine' EvE.loc rfl rfl ?_ rfl rfl
  refine' ⟨_, _, ⟨_, _, _, rfl, .inl (.head _), rfl, (MP_is_next _), (MF_is_next _), (MI_is_next _), (MK_is_next _)⟩, ?_⟩
  refine EvAs.cons ?_ rfl
  refine' EvE.loc rfl rfl ?_ rfl rfl
  refine EvAs.cons ?_ rfl
  refine' EvE.loc rfl rfl ?_ rfl rfl
  refine EvAs.nil ?_
  refine EvL.wg (by dsimp only; omega) (sp_is_next W 0 k s hz h hk) ?_
  rw [hf]
  refine Ev1.truthB ?_
  refine brT (by walk_at "cond") ?_
  refine EvSs.cons ?_
  refine EvS.ret ?_
  refine EvE.bool ?_
  refine andThen_ret ?_
  refine andThen_ret ?_
  refine fnEnd_ret ?_
  exact ⟨rfl, rfl⟩
theorem sp_need (W : Wd hT (KK w.params)) (n : Nat) (k s : Str) (hz : toks.length ≤ 1000) (h : toks.drop i = tok k (.str s) j :: r) : Spec hT PG w (n + 4) (.ref 323) [.ref x, .str k, .str s] (rs x dx toks i p) (Gives .none (rs x dx toks (i + 1) p)) := by
  refine Spec.fn W (L_TokenRow_need _) (C_TokenRow_need _) (fun s g vs _ _ hv => binds_of (qual := "") [Str.ofString "self", Str.ofString "kind", Str.ofString "value"] rfl (by decide) (by decide +kernel) (fun vs h => by obtain ⟨a, b, c, rfl⟩ := len3 h; rfl) s g vs hv) (by decide +kernel) rfl rfl rfl (fun A L' hr => ?_)
  refine EvSs.cons ?_
  refine EvS.iff ?_
  refine EvT.not ?_
  refine EvT.plain ?_ rfl
  refine' EvE.meth (by assumption) ?_ rfl rfl rfl
  refine' EvE.loc rfl rfl ?_ rfl rfl
  refine' ⟨_, _, ⟨_, _, _, rfl, .inl (.head _), rfl, (MP_skip _), (MF_skip _), (MI_skip _), (MK_skip _)⟩, ?_⟩
  refine EvAs.cons ?_ rfl
  refine' EvE.loc rfl rfl ?_ rfl rfl
  refine EvAs.cons ?_ rfl
  refine' EvE.loc rfl rfl ?_ rfl rfl
  refine EvAs.nil ?_
  refine EvL.wg (by dsimp only; omega) (sp_skipT W 0 k s hz h) ?_
  refine Ev1.truthB ?_
  refine brF (by walk_at "cond") ?_
  refine EvSs.nil ?_
  refine andThen_next ?_
  refine EvSs.nil ?_
  refine fnEnd_next ?_
  exact ⟨rfl, rfl⟩
theorem sp_take (W : Wd hT (KK w.params)) (n : Nat) (hz : toks.length ≤ 1000) (h : toks.drop i = tok kd v j :: r) : Spec hT PG w (n + 2) (.ref 330) [.ref x, .str kd] (rs x dx toks i p) (Gives v (rs x dx toks (i + 1) p)) := by
  obtain ⟨h1, h2, -⟩ := tk_at h
  refine Spec.fn W (L_TokenRow_take _) (C_TokenRow_take _) (fun s g vs _ _ hv => binds_of (qual := "") [Str.ofString "self", Str.ofString "kind"] rfl (by decide) (by decide +kernel) (fun vs h => by obtain ⟨a, b, rfl⟩ := len2 h; rfl) s g vs hv) (by decide +kernel) rfl rfl rfl (fun A L' hr => ?_)
  refine EvSs.cons ?_
  refine EvS.iff ?_
  refine EvT.cmp ?_ rfl
  refine' EvE.meth0 (by assumption) ?_ rfl
  refine' EvE.loc rfl rfl ?_ rfl rfl
  refine' ⟨_, _, ⟨_, _, _, rfl, .inl (.head _), rfl, (MP_kind _), (MF_kind _), (MI_kind _), (MK_kind _)⟩, ?_⟩
  refine EvL.wg (by dsimp only; omega) (sp_kind W 0 hz h) ?_
  refine' EvE.loc rfl rfl ?_ rfl rfl
  refine Ev2.neS ?_
  refine Ev1.truthB ?_
  refine brF (by simp) ?_
  refine EvSs.nil ?_
  refine andThen_next ?_
  refine EvSs.cons ?_
  refine' EvS.setAttr (by assumption) ?_ rfl
  refine EvE.binop ?_
  refine' EvE.attr (by assumption) ?_ rfl
  refine' EvE.loc rfl rfl ?_ rfl rfl
  refine' ⟨_, _, _, _, _, rfl, .inl (.head _), rfl, (AP_at _), HD _, (AF_at _), ?_⟩
  refine EvE.int ?_
  refine Ev2.add ?_
  refine' EvE.loc rfl rfl ?_ rfl rfl
  refine' ⟨_, _, _, _, [], _, rfl, rfl, Nat.le_of_ble_eq_true rfl, SA _, PO _, (AT_at _), HD _, ?_⟩; dsimp only [List.nil_append]
  refine andThen_next ?_
  refine EvSs.cons ?_
  refine EvS.ret ?_
  refine EvE.sub ?_
  refine EvE.sub ?_
  refine' EvE.attr (by assumption) ?_ rfl
  refine' EvE.loc rfl rfl ?_ rfl rfl
  refine' ⟨_, _, _, _, _, rfl, .inl (.head _), rfl, (AP_tokens _), HD _, (AF_tokens _), ?_⟩
  refine EvE.binop ?_
  refine' EvE.attr (by assumption) ?_ rfl
  refine' EvE.loc rfl rfl ?_ rfl rfl
  refine' ⟨_, _, _, _, _, rfl, .inl (.head _), rfl, (AP_at _), HD _, (AF_at _), ?_⟩
  refine EvE.int ?_
  refine Ev2.sub ?_
  have e : ((i : Int) + 1 - 1) = (i : Nat) := by omega
  rw [e]
  refine Ev2.subLN h1 hz ?_
  refine EvE.int ?_
  refine' Ev2.subTup rfl rfl ?_ (fun _ _ => rfl) (by decide) (by decide)
  refine andThen_ret ?_
  refine fnEnd_ret ?_
  exact ⟨rfl, rfl⟩
theorem sp_number (W : Wd hT (KK w.params)) (n : Nat) (a b z : Int) (hz : toks.length ≤ 1000) (h : toks.drop i = tok (Str.ofString "number") (.int z) j :: r) (ha : a ≤ z) (hb : z ≤ b) : Spec hT PG w (n + 3) (.ref 337) [.ref x, .int a, .int b] (rs x dx toks i p) (Gives (.int z) (rs x dx toks (i + 1) p)) := by
  refine Spec.fn W (L_TokenRow_number _) (C_TokenRow_number _) (fun s g vs _ _ hv => binds_of (qual := "") [Str.ofString "self", Str.ofString "least", Str.ofString "most"] rfl (by decide) (by decide +kernel) (fun vs h => by obtain ⟨a, b, c, rfl⟩ := len3 h; rfl) s g vs hv) (by decide +kernel) rfl rfl rfl (fun A L' hr => ?_)
  refine EvSs.cons ?_
  refine EvS.iff ?_
  refine EvT.and ?_
  refine EvT.cmp ?_ rfl
  refine' EvE.meth0 (by assumption) ?_ rfl
  refine' EvE.loc rfl rfl ?_ rfl rfl
  refine' ⟨_, _, ⟨_, _, _, rfl, .inl (.head _), rfl, (MP_kind _), (MF_kind _), (MI_kind _), (MK_kind _)⟩, ?_⟩
  refine EvL.wg (by dsimp only; omega) (sp_kind W 0 hz h) ?_
  refine EvE.str ?_
  refine Ev2.eqS ?_
  refine Ev1.truthB ?_
  refine brT (by walk_at "cond") ?_
  refine EvT.and ?_
  refine EvT.not ?_
  refine EvT.chain ?_ rfl
  refine' EvE.loc rfl rfl ?_ rfl rfl
  refine' EvE.meth0 (by assumption) ?_ rfl
  refine' EvE.loc rfl rfl ?_ rfl rfl
  refine' ⟨_, _, ⟨_, _, _, rfl, .inl (.head _), rfl, (MP_value _), (MF_value _), (MI_value _), (MK_value _)⟩, ?_⟩
  refine EvL.wg (by dsimp only; omega) (sp_value W 0 hz h) ?_
  refine Ev2.leI ?_
  refine Ev1.truthB ?_
  refine brT (by walk_at "cond") ?_
  refine' EvE.loc rfl rfl ?_ rfl rfl
  refine Ev2.leI ?_
  refine Ev1.truthB ?_
  refine brF (by walk_at "cond") ?_
  refine brF (by walk_at "cond") ?_
  refine EvSs.nil ?_
  refine andThen_next ?_
  refine EvSs.cons ?_
  refine EvS.ret ?_
  refine' EvE.meth (by assumption) ?_ rfl rfl rfl
  refine' EvE.loc rfl rfl ?_ rfl rfl
  refine' ⟨_, _, ⟨_, _, _, rfl, .inl (.head _), rfl, (MP_take _), (MF_take _), (MI_take _), (MK_take _)⟩, ?_⟩
  refine EvAs.cons ?_ rfl
  refine EvE.str ?_
  refine EvAs.nil ?_
  refine EvL.wg (by dsimp only; omega) (sp_take W 0 hz h) ?_
  refine andThen_ret ?_
  refine fnEnd_ret ?_
  exact ⟨rfl, rfl⟩
theorem sp_one_of (W : Wd hT (KK w.params)) (n : Nat) (s : Str) (l : List AV) (hz : toks.length ≤ 1000) (h : toks.drop i = tok (Str.ofString "word") (.str s) j :: r) (hok : AV.oks 0 l = true) (hs : AV.ok 0 (.str s) = true) (hin : (l.any fun y => deq y (.str s)) = true) :
    Spec hT PG w (n + 3) (.ref 349) [.ref x, .tup l] (rs x dx toks i p) (Gives (.str s) (rs x dx toks (i + 1) p)) := by
  refine Spec.fn W (L_TokenRow_one_of _) (C_TokenRow_one_of _) (fun s g vs _ _ hv => binds_of (qual := "") [Str.ofString "self", Str.ofString "words"] rfl (by decide) (by decide +kernel) (fun vs h => by obtain ⟨a, b, rfl⟩ := len2 h; rfl) s g vs hv) (by decide +kernel) rfl rfl rfl (fun A L' hr => ?_)
  refine EvSs.cons ?_
  refine EvS.iff ?_
  refine EvT.or ?_
  refine EvT.cmp ?_ rfl
  refine' EvE.meth0 (by assumption) ?_ rfl
  refine' EvE.loc rfl rfl ?_ rfl rfl
  refine' ⟨_, _, ⟨_, _, _, rfl, .inl (.head _), rfl, (MP_kind _), (MF_kind _), (MI_kind _), (MK_kind _)⟩, ?_⟩
  refine EvL.wg (by dsimp only; omega) (sp_kind W 0 hz h) ?_
  refine EvE.str ?_
  refine Ev2.neS ?_
  refine Ev1.truthB ?_
  refine brF (by walk_at "cond") ?_
  refine EvT.or ?_
  refine EvT.cmp ?_ rfl
  refine' EvE.meth0 (by assumption) ?_ rfl
  refine' EvE.loc rfl rfl ?_ rfl rfl
  refine' ⟨_, _, ⟨_, _, _, rfl, .inl (.head _), rfl, (MP_value _), (MF_value _), (MI_value _), (MK_value _)⟩, ?_⟩
  refine EvL.wg (by dsimp only; omega) (sp_value W 0 hz h) ?_
  refine' EvE.loc rfl rfl ?_ rfl rfl
  refine Ev2.notInTup 0 0 hok hs (by decide) ?_
  rw [hin]
  refine Ev1.truthB ?_
  refine brF (by walk_at "cond") ?_
  refine EvT.orNil ?_
  refine brF (by walk_at "cond") ?_
  refine EvSs.nil ?_
  refine andThen_next ?_
  refine EvSs.cons ?_
  refine EvS.ret ?_
  refine' EvE.meth (by assumption) ?_ rfl rfl rfl
  refine' EvE.loc rfl rfl ?_ rfl rfl
  refine' ⟨_, _, ⟨_, _, _, rfl, .inl (.head _), rfl, (MP_take _), (MF_take _), (MI_take _), (MK_take _)⟩, ?_⟩
  refine EvAs.cons ?_ rfl
  refine EvE.str ?_
  refine EvAs.nil ?_
  refine EvL.wg (by dsimp only; omega) (sp_take W 0 hz h) ?_
  refine andThen_ret ?_
  refine fnEnd_ret ?_
  exact ⟨rfl, rfl⟩
end

/-! E6 -/
section
variable {hT : Heap} {w : World} {x dx : Addr} {toks : List AV} {i : Nat} {p : Int} {kd : Str} {v : AV} {j : Nat} {r : List AV}
theorem tk_next {t : AV} (h : toks.drop i = t :: r) : toks.drop (i + 1) = r := (tk_at h).2.2
noncomputable abbrev wd (s : String) (j : Nat) : AV := tok (Str.ofString "word") (.str (Str.ofString s)) j
noncomputable abbrev sg (s : String) (j : Nat) : AV := tok (Str.ofString "sign") (.str (Str.ofString s)) j
noncomputable abbrev pf (T : AV) (j : Nat) : AV := tok (Str.ofString "prefix") T j
noncomputable abbrev nb (z : Int) (j : Nat) : AV := tok (Str.ofString "number") (.int z) j
theorem sp_need_depth (W : Wd hT (KK w.params)) (n : Nat) (d : Int) (h : d ≤ 12) : Spec hT PG w (n + 1) (.ref 377) [.ref x, .int d] (rs x dx toks i p) (Gives .none (rs x dx toks i p)) := by
  refine Spec.fn W (L_ConditionReader_need_depth _) (C_ConditionReader_need_depth _) (fun s g vs _ _ hv => binds_of (qual := "") [Str.ofString "self", Str.ofString "deep"] rfl (by decide) (by decide +kernel) (fun vs h => by obtain ⟨a, b, rfl⟩ := len2 h; rfl) s g vs hv) (by decide +kernel) rfl rfl rfl (fun Ar L' hr => ?_)
  refine EvSs.cons ?_
  refine EvS.iff ?_
  refine EvT.cmp ?_ rfl
  refine' EvE.loc rfl rfl ?_ rfl rfl
  refine' EvE.attr (by assumption) ?_ rfl
  refine' EvE.loc rfl rfl ?_ rfl rfl
  refine' ⟨_, _, _, _, _, rfl, .inl (.head _), rfl, (AP_most_deep _), HD _, (AF_most_deep _), ?_⟩
  refine Ev2.gtI ?_
  refine Ev1.truthB ?_
  refine brF (by walk_at "cond") ?_
  refine EvSs.nil ?_
  refine andThen_next ?_
  refine EvSs.nil ?_
  refine fnEnd_next ?_
  exact ⟨rfl, rfl⟩
theorem sp_need_room (W : Wd hT (KK w.params)) (n : Nat) (h : p < 32) : Spec hT PG w (n + 1) (.ref 384) [.ref x] (rs x dx toks i p) (Gives .none (rs x dx toks i (p + 1))) := by
  refine Spec.fn W (L_ConditionReader_need_room _) (C_ConditionReader_need_room _) (fun s g vs _ _ hv => binds_of (qual := "") [Str.ofString "self"] rfl (by decide) (by decide +kernel) (fun vs h => by obtain ⟨a, rfl⟩ := len1 h; rfl) s g vs hv) (by decide +kernel) rfl rfl rfl (fun Ar L' hr => ?_)
  refine EvSs.cons ?_
  refine EvS.iff ?_
  refine EvT.cmp ?_ rfl
  refine' EvE.attr (by assumption) ?_ rfl
  refine' EvE.loc rfl rfl ?_ rfl rfl
  refine' ⟨_, _, _, _, _, rfl, .inl (.head _), rfl, (AP_parts _), HD _, (AF_parts _), ?_⟩
  refine' EvE.top (by assumption) (T_MOST_PARTS _) ?_ rfl rfl rfl rfl
  refine Ev2.geI ?_
  refine Ev1.truthB ?_
  refine brF (by walk_at "cond") ?_
  refine EvSs.nil ?_
  refine andThen_next ?_
  refine EvSs.cons ?_
  refine' EvS.setAttr (by assumption) ?_ rfl
  refine EvE.binop ?_
  refine' EvE.attr (by assumption) ?_ rfl
  refine' EvE.loc rfl rfl ?_ rfl rfl
  refine' ⟨_, _, _, _, _, rfl, .inl (.head _), rfl, (AP_parts _), HD _, (AF_parts _), ?_⟩
  refine EvE.int ?_
  refine Ev2.add ?_
  refine' EvE.loc rfl rfl ?_ rfl rfl
  refine' ⟨_, _, _, _, [], _, rfl, rfl, Nat.le_of_ble_eq_true rfl, SA _, PO _, (AT_parts _), HD _, ?_⟩; dsimp only [List.nil_append]
  refine andThen_next ?_
  refine EvSs.nil ?_
  refine fnEnd_next ?_
  exact ⟨rfl, rfl⟩
theorem sp_about_is (W : Wd hT (KK w.params)) (n : Nat) (A L : Int) (j j' : Nat) (hz : toks.length ≤ 1000) (h : toks.drop i = wd "is" j :: pf (.tup [.int A, .int L]) j' :: r) :
    Spec hT PG w (n + 5) (.ref 412) [.ref x] (rs x dx toks i p) (Gives (.tup [.str (Str.ofString "prefix"), .tup [.int A, .int L], .int L, .int L]) (rs x dx toks (i + 2) p)) := by
  have h1 := tk_next h
  refine Spec.fn W (L_ConditionReader_about_prefix _) (C_ConditionReader_about_prefix _) (fun s g vs _ _ hv => binds_of (qual := "") [Str.ofString "self"] rfl (by decide) (by decide +kernel) (fun vs h => by obtain ⟨a, rfl⟩ := len1 h; rfl) s g vs hv) (by decide +kernel) rfl rfl rfl (fun Ar L' hr => ?_)
  refine EvSs.cons ?_
  refine EvS.iff ?_
  refine EvT.plain ?_ rfl
  refine' EvE.meth (by assumption) ?_ rfl rfl rfl
  refine' EvE.loc rfl rfl ?_ rfl rfl
  refine' ⟨_, _, ⟨_, _, _, rfl, .inl (.head _), rfl, (MP_skip _), (MF_skip _), (MI_skip _), (MK_skip _)⟩, ?_⟩
  refine EvAs.cons ?_ rfl
  refine EvE.str ?_
  refine EvAs.cons ?_ rfl
  refine EvE.str ?_
  refine EvAs.nil ?_
  refine EvL.wg (by dsimp only; omega) (sp_skipT W 0 _ _ hz h) ?_
  refine Ev1.truthB ?_
  refine brT (by walk_at "cond") ?_
  refine EvSs.cons ?_
  refine EvS.assign ?_ rfl
  refine' EvE.meth (by assumption) ?_ rfl rfl rfl
  refine' EvE.loc rfl rfl ?_ rfl rfl
  refine' ⟨_, _, ⟨_, _, _, rfl, .inl (.head _), rfl, (MP_take _), (MF_take _), (MI_take _), (MK_take _)⟩, ?_⟩
  refine EvAs.cons ?_ rfl
  refine EvE.str ?_
  refine EvAs.nil ?_
  refine EvL.wg (by dsimp only; omega) (sp_take W 0 hz h1) ?_
  refine EvStore rfl rfl ?_
  refine andThen_next ?_
  refine EvSs.cons ?_
  refine EvS.ret ?_
  refine EvE.tuple ?_
  refine EvAs.cons ?_ rfl
  refine EvE.str ?_
  refine EvAs.cons ?_ rfl
  refine' EvE.loc rfl rfl ?_ rfl rfl
  refine EvAs.cons ?_ rfl
  refine EvE.sub ?_
  refine' EvE.loc rfl rfl ?_ rfl rfl
  refine EvE.int ?_
  refine' Ev2.subTup rfl rfl ?_ (fun _ _ => rfl) (by decide) (by decide)
  refine EvAs.cons ?_ rfl
  refine EvE.sub ?_
  refine' EvE.loc rfl rfl ?_ rfl rfl
  refine EvE.int ?_
  refine' Ev2.subTup rfl rfl ?_ (fun _ _ => rfl) (by decide) (by decide)
  refine EvAs.nil ?_
  refine tup_ok (by walk_at "side") ?_
  refine andThen_ret ?_
  refine andThen_ret ?_
  refine fnEnd_ret ?_
  exact ⟨rfl, rfl⟩
noncomputable def optTok (s : String) : Option (Int × Nat × Nat) → List AV
  | none => []
  | some (z, j, j') => [wd s j, nb z j']
theorem sp_about_in (W : Wd hT (KK w.params)) (n : Nat) (A L : Int) (j j' j3 : Nat) (g l : Option (Int × Nat × Nat)) (hz : toks.length ≤ 1000)
    (h : toks.drop i = wd "in" j :: pf (.tup [.int A, .int L]) j' :: (optTok "ge" g ++ (optTok "le" l ++ wd "then" j3 :: r)))
    (hg : ∀ q, g = some q → L ≤ q.1 ∧ q.1 ≤ 32) (hl : ∀ q, l = some q → (g.map (·.1)).getD L ≤ q.1 ∧ q.1 ≤ 32) :
    Spec hT PG w (n + 5) (.ref 412) [.ref x] (rs x dx toks i p) (Gives (.tup [.str (Str.ofString "prefix"), .tup [.int A, .int L], .int ((g.map (·.1)).getD L), .int ((l.map (·.1)).getD 32)]) (rs x dx toks (i + 2 + (optTok "ge" g).length + (optTok "le" l).length) p)) := by
  have h1 := tk_next h
  have h2 := tk_next h1
  rcases g with _ | ⟨gz, g1, g2⟩ <;> rcases l with _ | ⟨lz, l1, l2⟩
  · simp only [optTok, List.nil_append, List.cons_append] at h2
    refine Spec.fn W (L_ConditionReader_about_prefix _) (C_ConditionReader_about_prefix _) (fun s g vs _ _ hv => binds_of (qual := "") [Str.ofString "self"] rfl (by decide) (by decide +kernel) (fun vs h => by obtain ⟨a, rfl⟩ := len1 h; rfl) s g vs hv) (by decide +kernel) rfl rfl rfl (fun Ar L' hr => ?_)
    refine EvSs.cons ?_
    refine EvS.iff ?_
    refine EvT.plain ?_ rfl
    refine' EvE.meth (by assumption) ?_ rfl rfl rfl
    refine' EvE.loc rfl rfl ?_ rfl rfl
    refine' ⟨_, _, ⟨_, _, _, rfl, .inl (.head _), rfl, (MP_skip _), (MF_skip _), (MI_skip _), (MK_skip _)⟩, ?_⟩
    refine EvAs.cons ?_ rfl
    refine EvE.str ?_
    refine EvAs.cons ?_ rfl
    refine EvE.str ?_
    refine EvAs.nil ?_
    refine EvL.wg (by dsimp only; omega) (sp_skipF W 0 _ _ hz h (by first | exact .inr ⟨_, rfl⟩ | exact .inl (by decide +kernel)) (by decide +kernel)) ?_
    refine Ev1.truthB ?_
    refine brF (by walk_at "cond") ?_
    refine EvSs.nil ?_
    refine andThen_next ?_
    refine EvSs.cons ?_
    refine EvS.expr ?_ rfl rfl
    refine' EvE.meth (by assumption) ?_ rfl rfl rfl
    refine' EvE.loc rfl rfl ?_ rfl rfl
    refine' ⟨_, _, ⟨_, _, _, rfl, .inl (.head _), rfl, (MP_need _), (MF_need _), (MI_need _), (MK_need _)⟩, ?_⟩
    refine EvAs.cons ?_ rfl
    refine EvE.str ?_
    refine EvAs.cons ?_ rfl
    refine EvE.str ?_
    refine EvAs.nil ?_
    refine EvL.wg (by dsimp only; omega) (sp_need W 0 _ _ hz h) ?_
    refine none_ok ?_
    refine andThen_next ?_
    refine EvSs.cons ?_
    refine EvS.assign ?_ rfl
    refine' EvE.meth (by assumption) ?_ rfl rfl rfl
    refine' EvE.loc rfl rfl ?_ rfl rfl
    refine' ⟨_, _, ⟨_, _, _, rfl, .inl (.head _), rfl, (MP_take _), (MF_take _), (MI_take _), (MK_take _)⟩, ?_⟩
    refine EvAs.cons ?_ rfl
    refine EvE.str ?_
    refine EvAs.nil ?_
    refine EvL.wg (by dsimp only; omega) (sp_take W 0 hz h1) ?_
    refine EvStore rfl rfl ?_
    refine andThen_next ?_
    refine EvSs.cons ?_
    refine' EvS.assignSw ?_ rfl rfl
    refine EvE.tuple ?_
    refine EvAs.cons ?_ rfl
    refine EvE.sub ?_
    refine' EvE.loc rfl rfl ?_ rfl rfl
    refine EvE.int ?_
    refine' Ev2.subTup rfl rfl ?_ (fun _ _ => rfl) (by decide) (by decide)
    refine EvAs.cons ?_ rfl
    refine' EvE.top (by assumption) (T_WIRE_BITS _) ?_ rfl rfl rfl rfl
    refine EvAs.nil ?_
    refine tup_ok (by walk_at "side") ?_
    refine sw_ok ?_
    refine EvStore rfl rfl ?_
    refine EvStore rfl rfl ?_
    refine andThen_next ?_
    refine EvSs.cons ?_
    refine EvS.iff ?_
    refine EvT.plain ?_ rfl
    refine' EvE.meth (by assumption) ?_ rfl rfl rfl
    refine' EvE.loc rfl rfl ?_ rfl rfl
    refine' ⟨_, _, ⟨_, _, _, rfl, .inl (.head _), rfl, (MP_skip _), (MF_skip _), (MI_skip _), (MK_skip _)⟩, ?_⟩
    refine EvAs.cons ?_ rfl
    refine EvE.str ?_
    refine EvAs.cons ?_ rfl
    refine EvE.str ?_
    refine EvAs.nil ?_
    refine EvL.wg (by dsimp only; omega) (sp_skipF W 0 _ _ hz h2 (by first | exact .inr ⟨_, rfl⟩ | exact .inl (by decide +kernel)) (by decide +kernel)) ?_
    refine Ev1.truthB ?_
    refine brF (by walk_at "cond") ?_
    refine EvSs.nil ?_
    refine andThen_next ?_
    refine EvSs.cons ?_
    refine EvS.iff ?_
    refine EvT.plain ?_ rfl
    refine' EvE.meth (by assumption) ?_ rfl rfl rfl
    refine' EvE.loc rfl rfl ?_ rfl rfl
    refine' ⟨_, _, ⟨_, _, _, rfl, .inl (.head _), rfl, (MP_skip _), (MF_skip _), (MI_skip _), (MK_skip _)⟩, ?_⟩
    refine EvAs.cons ?_ rfl
    refine EvE.str ?_
    refine EvAs.cons ?_ rfl
    refine EvE.str ?_
    refine EvAs.nil ?_
    refine EvL.wg (by dsimp only; omega) (sp_skipF W 0 _ _ hz h2 (by first | exact .inr ⟨_, rfl⟩ | exact .inl (by decide +kernel)) (by decide +kernel)) ?_
    refine Ev1.truthB ?_
    refine brF (by walk_at "cond") ?_
    refine EvSs.nil ?_
    refine andThen_next ?_
    refine EvSs.cons ?_
    refine EvS.ret ?_
    refine EvE.tuple ?_
    refine EvAs.cons ?_ rfl
    refine EvE.str ?_
    refine EvAs.cons ?_ rfl
    refine' EvE.loc rfl rfl ?_ rfl rfl
    refine EvAs.cons ?_ rfl
    refine' EvE.loc rfl rfl ?_ rfl rfl
    refine EvAs.cons ?_ rfl
    refine' EvE.loc rfl rfl ?_ rfl rfl
    refine EvAs.nil ?_
    refine tup_ok (by walk_at "side") ?_
    refine andThen_ret ?_
    refine fnEnd_ret ?_
    exact ⟨rfl, rfl⟩
  · simp only [optTok, List.nil_append, List.cons_append] at h2
    have h3 := tk_next h2
    have h4 := tk_next h3
    have b := hl _ rfl
    refine Spec.fn W (L_ConditionReader_about_prefix _) (C_ConditionReader_about_prefix _) (fun s g vs _ _ hv => binds_of (qual := "") [Str.ofString "self"] rfl (by decide) (by decide +kernel) (fun vs h => by obtain ⟨a, rfl⟩ := len1 h; rfl) s g vs hv) (by decide +kernel) rfl rfl rfl (fun Ar L' hr => ?_)
    refine EvSs.cons ?_
    refine EvS.iff ?_
    refine EvT.plain ?_ rfl
    refine' EvE.meth (by assumption) ?_ rfl rfl rfl
    refine' EvE.loc rfl rfl ?_ rfl rfl
    refine' ⟨_, _, ⟨_, _, _, rfl, .inl (.head _), rfl, (MP_skip _), (MF_skip _), (MI_skip _), (MK_skip _)⟩, ?_⟩
    refine EvAs.cons ?_ rfl
    refine EvE.str ?_
    refine EvAs.cons ?_ rfl
    refine EvE.str ?_
    refine EvAs.nil ?_
    refine EvL.wg (by dsimp only; omega) (sp_skipF W 0 _ _ hz h (by first | exact .inr ⟨_, rfl⟩ | exact .inl (by decide +kernel)) (by decide +kernel)) ?_
    refine Ev1.truthB ?_
    refine brF (by walk_at "cond") ?_
    refine EvSs.nil ?_
    refine andThen_next ?_
    refine EvSs.cons ?_
    refine EvS.expr ?_ rfl rfl
    refine' EvE.meth (by assumption) ?_ rfl rfl rfl
    refine' EvE.loc rfl rfl ?_ rfl rfl
    refine' ⟨_, _, ⟨_, _, _, rfl, .inl (.head _), rfl, (MP_need _), (MF_need _), (MI_need _), (MK_need _)⟩, ?_⟩
    refine EvAs.cons ?_ rfl
    refine EvE.str ?_
    refine EvAs.cons ?_ rfl
    refine EvE.str ?_
    refine EvAs.nil ?_
    refine EvL.wg (by dsimp only; omega) (sp_need W 0 _ _ hz h) ?_
    refine none_ok ?_
    refine andThen_next ?_
    refine EvSs.cons ?_
    refine EvS.assign ?_ rfl
    refine' EvE.meth (by assumption) ?_ rfl rfl rfl
    refine' EvE.loc rfl rfl ?_ rfl rfl
    refine' ⟨_, _, ⟨_, _, _, rfl, .inl (.head _), rfl, (MP_take _), (MF_take _), (MI_take _), (MK_take _)⟩, ?_⟩
    refine EvAs.cons ?_ rfl
    refine EvE.str ?_
    refine EvAs.nil ?_
    refine EvL.wg (by dsimp only; omega) (sp_take W 0 hz h1) ?_
    refine EvStore rfl rfl ?_
    refine andThen_next ?_
    refine EvSs.cons ?_
    refine' EvS.assignSw ?_ rfl rfl
    refine EvE.tuple ?_
    refine EvAs.cons ?_ rfl
    refine EvE.sub ?_
    refine' EvE.loc rfl rfl ?_ rfl rfl
    refine EvE.int ?_
    refine' Ev2.subTup rfl rfl ?_ (fun _ _ => rfl) (by decide) (by decide)
    refine EvAs.cons ?_ rfl
    refine' EvE.top (by assumption) (T_WIRE_BITS _) ?_ rfl rfl rfl rfl
    refine EvAs.nil ?_
    refine tup_ok (by walk_at "side") ?_
    refine sw_ok ?_
    refine EvStore rfl rfl ?_
    refine EvStore rfl rfl ?_
    refine andThen_next ?_
    refine EvSs.cons ?_
    refine EvS.iff ?_
    refine EvT.plain ?_ rfl
    refine' EvE.meth (by assumption) ?_ rfl rfl rfl
    refine' EvE.loc rfl rfl ?_ rfl rfl
    refine' ⟨_, _, ⟨_, _, _, rfl, .inl (.head _), rfl, (MP_skip _), (MF_skip _), (MI_skip _), (MK_skip _)⟩, ?_⟩
    refine EvAs.cons ?_ rfl
    refine EvE.str ?_
    refine EvAs.cons ?_ rfl
    refine EvE.str ?_
    refine EvAs.nil ?_
    refine EvL.wg (by dsimp only; omega) (sp_skipF W 0 _ _ hz h2 (by first | exact .inr ⟨_, rfl⟩ | exact .inl (by decide +kernel)) (by decide +kernel)) ?_
    refine Ev1.truthB ?_
    refine brF (by walk_at "cond") ?_
    refine EvSs.nil ?_
    refine andThen_next ?_
    refine EvSs.cons ?_
    refine EvS.iff ?_
    refine EvT.plain ?_ rfl
    refine' EvE.meth (by assumption) ?_ rfl rfl rfl
    refine' EvE.loc rfl rfl ?_ rfl rfl
    refine' ⟨_, _, ⟨_, _, _, rfl, .inl (.head _), rfl, (MP_skip _), (MF_skip _), (MI_skip _), (MK_skip _)⟩, ?_⟩
    refine EvAs.cons ?_ rfl
    refine EvE.str ?_
    refine EvAs.cons ?_ rfl
    refine EvE.str ?_
    refine EvAs.nil ?_
    refine EvL.wg (by dsimp only; omega) (sp_skipT W 0 _ _ hz h2) ?_
    refine Ev1.truthB ?_
    refine brT (by walk_at "cond") ?_
    refine EvSs.cons ?_
    refine EvS.assign ?_ rfl
    refine' EvE.meth (by assumption) ?_ rfl rfl rfl
    refine' EvE.loc rfl rfl ?_ rfl rfl
    refine' ⟨_, _, ⟨_, _, _, rfl, .inl (.head _), rfl, (MP_number _), (MF_number _), (MI_number _), (MK_number _)⟩, ?_⟩
    refine EvAs.cons ?_ rfl
    refine' EvE.loc rfl rfl ?_ rfl rfl
    refine EvAs.cons ?_ rfl
    refine' EvE.top (by assumption) (T_WIRE_BITS _) ?_ rfl rfl rfl rfl
    refine EvAs.nil ?_
    refine EvL.wg (by dsimp only; omega) (sp_number W 0 _ _ _ hz h3 b.1 b.2) ?_
    refine EvStore rfl rfl ?_
    refine andThen_next ?_
    refine EvSs.nil ?_
    refine andThen_next ?_
    refine EvSs.cons ?_
    refine EvS.ret ?_
    refine EvE.tuple ?_
    refine EvAs.cons ?_ rfl
    refine EvE.str ?_
    refine EvAs.cons ?_ rfl
    refine' EvE.loc rfl rfl ?_ rfl rfl
    refine EvAs.cons ?_ rfl
    refine' EvE.loc rfl rfl ?_ rfl rfl
    refine EvAs.cons ?_ rfl
    refine' EvE.loc rfl rfl ?_ rfl rfl
    refine EvAs.nil ?_
    refine tup_ok (by walk_at "side") ?_
    refine andThen_ret ?_
    refine fnEnd_ret ?_
    exact ⟨rfl, rfl⟩
  · simp only [optTok, List.nil_append, List.cons_append] at h2
    have h3 := tk_next h2
    have h4 := tk_next h3
    have b := hg _ rfl
    refine Spec.fn W (L_ConditionReader_about_prefix _) (C_ConditionReader_about_prefix _) (fun s g vs _ _ hv => binds_of (qual := "") [Str.ofString "self"] rfl (by decide) (by decide +kernel) (fun vs h => by obtain ⟨a, rfl⟩ := len1 h; rfl) s g vs hv) (by decide +kernel) rfl rfl rfl (fun Ar L' hr => ?_)
    refine EvSs.cons ?_
    refine EvS.iff ?_
    refine EvT.plain ?_ rfl
    refine' EvE.meth (by assumption) ?_ rfl rfl rfl
    refine' EvE.loc rfl rfl ?_ rfl rfl
    refine' ⟨_, _, ⟨_, _, _, rfl, .inl (.head _), rfl, (MP_skip _), (MF_skip _), (MI_skip _), (MK_skip _)⟩, ?_⟩
    refine EvAs.cons ?_ rfl
    refine EvE.str ?_
    refine EvAs.cons ?_ rfl
    refine EvE.str ?_
    refine EvAs.nil ?_
    refine EvL.wg (by dsimp only; omega) (sp_skipF W 0 _ _ hz h (by first | exact .inr ⟨_, rfl⟩ | exact .inl (by decide +kernel)) (by decide +kernel)) ?_
    refine Ev1.truthB ?_
    refine brF (by walk_at "cond") ?_
    refine EvSs.nil ?_
    refine andThen_next ?_
    refine EvSs.cons ?_
    refine EvS.expr ?_ rfl rfl
    refine' EvE.meth (by assumption) ?_ rfl rfl rfl
    refine' EvE.loc rfl rfl ?_ rfl rfl
    refine' ⟨_, _, ⟨_, _, _, rfl, .inl (.head _), rfl, (MP_need _), (MF_need _), (MI_need _), (MK_need _)⟩, ?_⟩
    refine EvAs.cons ?_ rfl
    refine EvE.str ?_
    refine EvAs.cons ?_ rfl
    refine EvE.str ?_
    refine EvAs.nil ?_
    refine EvL.wg (by dsimp only; omega) (sp_need W 0 _ _ hz h) ?_
    refine none_ok ?_
    refine andThen_next ?_
    refine EvSs.cons ?_
    refine EvS.assign ?_ rfl
    refine' EvE.meth (by assumption) ?_ rfl rfl rfl
    refine' EvE.loc rfl rfl ?_ rfl rfl
    refine' ⟨_, _, ⟨_, _, _, rfl, .inl (.head _), rfl, (MP_take _), (MF_take _), (MI_take _), (MK_take _)⟩, ?_⟩
    refine EvAs.cons ?_ rfl
    refine EvE.str ?_
    refine EvAs.nil ?_
    refine EvL.wg (by dsimp only; omega) (sp_take W 0 hz h1) ?_
    refine EvStore rfl rfl ?_
    refine andThen_next ?_
    refine EvSs.cons ?_
    refine' EvS.assignSw ?_ rfl rfl
    refine EvE.tuple ?_
    refine EvAs.cons ?_ rfl
    refine EvE.sub ?_
    refine' EvE.loc rfl rfl ?_ rfl rfl
    refine EvE.int ?_
    refine' Ev2.subTup rfl rfl ?_ (fun _ _ => rfl) (by decide) (by decide)
    refine EvAs.cons ?_ rfl
    refine' EvE.top (by assumption) (T_WIRE_BITS _) ?_ rfl rfl rfl rfl
    refine EvAs.nil ?_
    refine tup_ok (by walk_at "side") ?_
    refine sw_ok ?_
    refine EvStore rfl rfl ?_
    refine EvStore rfl rfl ?_
    refine andThen_next ?_
    refine EvSs.cons ?_
    refine EvS.iff ?_
    refine EvT.plain ?_ rfl
    refine' EvE.meth (by assumption) ?_ rfl rfl rfl
    refine' EvE.loc rfl rfl ?_ rfl rfl
    refine' ⟨_, _, ⟨_, _, _, rfl, .inl (.head _), rfl, (MP_skip _), (MF_skip _), (MI_skip _), (MK_skip _)⟩, ?_⟩
    refine EvAs.cons ?_ rfl
    refine EvE.str ?_
    refine EvAs.cons ?_ rfl
    refine EvE.str ?_
    refine EvAs.nil ?_
    refine EvL.wg (by dsimp only; omega) (sp_skipT W 0 _ _ hz h2) ?_
    refine Ev1.truthB ?_
    refine brT (by walk_at "cond") ?_
    refine EvSs.cons ?_
    refine EvS.assign ?_ rfl
    refine' EvE.meth (by assumption) ?_ rfl rfl rfl
    refine' EvE.loc rfl rfl ?_ rfl rfl
    refine' ⟨_, _, ⟨_, _, _, rfl, .inl (.head _), rfl, (MP_number _), (MF_number _), (MI_number _), (MK_number _)⟩, ?_⟩
    refine EvAs.cons ?_ rfl
    refine EvE.sub ?_
    refine' EvE.loc rfl rfl ?_ rfl rfl
    refine EvE.int ?_
    refine' Ev2.subTup rfl rfl ?_ (fun _ _ => rfl) (by decide) (by decide)
    refine EvAs.cons ?_ rfl
    refine' EvE.top (by assumption) (T_WIRE_BITS _) ?_ rfl rfl rfl rfl
    refine EvAs.nil ?_
    refine EvL.wg (by dsimp only; omega) (sp_number W 0 _ _ _ hz h3 b.1 b.2) ?_
    refine EvStore rfl rfl ?_
    refine andThen_next ?_
    refine EvSs.nil ?_
    refine andThen_next ?_
    refine EvSs.cons ?_
    refine EvS.iff ?_
    refine EvT.plain ?_ rfl
    refine' EvE.meth (by assumption) ?_ rfl rfl rfl
    refine' EvE.loc rfl rfl ?_ rfl rfl
    refine' ⟨_, _, ⟨_, _, _, rfl, .inl (.head _), rfl, (MP_skip _), (MF_skip _), (MI_skip _), (MK_skip _)⟩, ?_⟩
    refine EvAs.cons ?_ rfl
    refine EvE.str ?_
    refine EvAs.cons ?_ rfl
    refine EvE.str ?_
    refine EvAs.nil ?_
    refine EvL.wg (by dsimp only; omega) (sp_skipF W 0 _ _ hz h4 (by first | exact .inr ⟨_, rfl⟩ | exact .inl (by decide +kernel)) (by decide +kernel)) ?_
    refine Ev1.truthB ?_
    refine brF (by walk_at "cond") ?_
    refine EvSs.nil ?_
    refine andThen_next ?_
    refine EvSs.cons ?_
    refine EvS.ret ?_
    refine EvE.tuple ?_
    refine EvAs.cons ?_ rfl
    refine EvE.str ?_
    refine EvAs.cons ?_ rfl
    refine' EvE.loc rfl rfl ?_ rfl rfl
    refine EvAs.cons ?_ rfl
    refine' EvE.loc rfl rfl ?_ rfl rfl
    refine EvAs.cons ?_ rfl
    refine' EvE.loc rfl rfl ?_ rfl rfl
    refine EvAs.nil ?_
    refine tup_ok (by walk_at "side") ?_
    refine andThen_ret ?_
    refine fnEnd_ret ?_
    exact ⟨rfl, rfl⟩
  · simp only [optTok, List.nil_append, List.cons_append] at h2
    have h3 := tk_next h2
    have h4 := tk_next h3
    have h5 := tk_next h4
    have b := hg _ rfl
    have b' := hl _ rfl
    refine Spec.fn W (L_ConditionReader_about_prefix _) (C_ConditionReader_about_prefix _) (fun s g vs _ _ hv => binds_of (qual := "") [Str.ofString "self"] rfl (by decide) (by decide +kernel) (fun vs h => by obtain ⟨a, rfl⟩ := len1 h; rfl) s g vs hv) (by decide +kernel) rfl rfl rfl (fun Ar L' hr => ?_)
    refine EvSs.cons ?_
    refine EvS.iff ?_
    refine EvT.plain ?_ rfl
    refine' EvE.meth (by assumption) ?_ rfl rfl rfl
    refine' EvE.loc rfl rfl ?_ rfl rfl
    refine' ⟨_, _, ⟨_, _, _, rfl, .inl (.head _), rfl, (MP_skip _), (MF_skip _), (MI_skip _), (MK_skip _)⟩, ?_⟩
    refine EvAs.cons ?_ rfl
    refine EvE.str ?_
    refine EvAs.cons ?_ rfl
    refine EvE.str ?_
    refine EvAs.nil ?_
    refine EvL.wg (by dsimp only; omega) (sp_skipF W 0 _ _ hz h (by first | exact .inr ⟨_, rfl⟩ | exact .inl (by decide +kernel)) (by decide +kernel)) ?_
    refine Ev1.truthB ?_
    refine brF (by walk_at "cond") ?_
    refine EvSs.nil ?_
    refine andThen_next ?_
    refine EvSs.cons ?_
    refine EvS.expr ?_ rfl rfl
    refine' EvE.meth (by assumption) ?_ rfl rfl rfl
    refine' EvE.loc rfl rfl ?_ rfl rfl
    refine' ⟨_, _, ⟨_, _, _, rfl, .inl (.head _), rfl, (MP_need _), (MF_need _), (MI_need _), (MK_need _)⟩, ?_⟩
    refine EvAs.cons ?_ rfl
    refine EvE.str ?_
    refine EvAs.cons ?_ rfl
    refine EvE.str ?_
    refine EvAs.nil ?_
    refine EvL.wg (by dsimp only; omega) (sp_need W 0 _ _ hz h) ?_
    refine none_ok ?_
    refine andThen_next ?_
    refine EvSs.cons ?_
    refine EvS.assign ?_ rfl
    refine' EvE.meth (by assumption) ?_ rfl rfl rfl
    refine' EvE.loc rfl rfl ?_ rfl rfl
    refine' ⟨_, _, ⟨_, _, _, rfl, .inl (.head _), rfl, (MP_take _), (MF_take _), (MI_take _), (MK_take _)⟩, ?_⟩
    refine EvAs.cons ?_ rfl
    refine EvE.str ?_
    refine EvAs.nil ?_
    refine EvL.wg (by dsimp only; omega) (sp_take W 0 hz h1) ?_
    refine EvStore rfl rfl ?_
    refine andThen_next ?_
    refine EvSs.cons ?_
    refine' EvS.assignSw ?_ rfl rfl
    refine EvE.tuple ?_
    refine EvAs.cons ?_ rfl
    refine EvE.sub ?_
    refine' EvE.loc rfl rfl ?_ rfl rfl
    refine EvE.int ?_
    refine' Ev2.subTup rfl rfl ?_ (fun _ _ => rfl) (by decide) (by decide)
    refine EvAs.cons ?_ rfl
    refine' EvE.top (by assumption) (T_WIRE_BITS _) ?_ rfl rfl rfl rfl
    refine EvAs.nil ?_
    refine tup_ok (by walk_at "side") ?_
    refine sw_ok ?_
    refine EvStore rfl rfl ?_
    refine EvStore rfl rfl ?_
    refine andThen_next ?_
    refine EvSs.cons ?_
    refine EvS.iff ?_
    refine EvT.plain ?_ rfl
    refine' EvE.meth (by assumption) ?_ rfl rfl rfl
    refine' EvE.loc rfl rfl ?_ rfl rfl
    refine' ⟨_, _, ⟨_, _, _, rfl, .inl (.head _), rfl, (MP_skip _), (MF_skip _), (MI_skip _), (MK_skip _)⟩, ?_⟩
    refine EvAs.cons ?_ rfl
    refine EvE.str ?_
    refine EvAs.cons ?_ rfl
    refine EvE.str ?_
    refine EvAs.nil ?_
    refine EvL.wg (by dsimp only; omega) (sp_skipT W 0 _ _ hz h2) ?_
    refine Ev1.truthB ?_
    refine brT (by walk_at "cond") ?_
    refine EvSs.cons ?_
    refine EvS.assign ?_ rfl
    refine' EvE.meth (by assumption) ?_ rfl rfl rfl
    refine' EvE.loc rfl rfl ?_ rfl rfl
    refine' ⟨_, _, ⟨_, _, _, rfl, .inl (.head _), rfl, (MP_number _), (MF_number _), (MI_number _), (MK_number _)⟩, ?_⟩
    refine EvAs.cons ?_ rfl
    refine EvE.sub ?_
    refine' EvE.loc rfl rfl ?_ rfl rfl
    refine EvE.int ?_
    refine' Ev2.subTup rfl rfl ?_ (fun _ _ => rfl) (by decide) (by decide)
    refine EvAs.cons ?_ rfl
    refine' EvE.top (by assumption) (T_WIRE_BITS _) ?_ rfl rfl rfl rfl
    refine EvAs.nil ?_
    refine EvL.wg (by dsimp only; omega) (sp_number W 0 _ _ _ hz h3 b.1 b.2) ?_
    refine EvStore rfl rfl ?_
    refine andThen_next ?_
    refine EvSs.nil ?_
    refine andThen_next ?_
    refine EvSs.cons ?_
    refine EvS.iff ?_
    refine EvT.plain ?_ rfl
    refine' EvE.meth (by assumption) ?_ rfl rfl rfl
    refine' EvE.loc rfl rfl ?_ rfl rfl
    refine' ⟨_, _, ⟨_, _, _, rfl, .inl (.head _), rfl, (MP_skip _), (MF_skip _), (MI_skip _), (MK_skip _)⟩, ?_⟩
    refine EvAs.cons ?_ rfl
    refine EvE.str ?_
    refine EvAs.cons ?_ rfl
    refine EvE.str ?_
    refine EvAs.nil ?_
    refine EvL.wg (by dsimp only; omega) (sp_skipT W 0 _ _ hz h4) ?_
    refine Ev1.truthB ?_
    refine brT (by walk_at "cond") ?_
    refine EvSs.cons ?_
    refine EvS.assign ?_ rfl
    refine' EvE.meth (by assumption) ?_ rfl rfl rfl
    refine' EvE.loc rfl rfl ?_ rfl rfl
    refine' ⟨_, _, ⟨_, _, _, rfl, .inl (.head _), rfl, (MP_number _), (MF_number _), (MI_number _), (MK_number _)⟩, ?_⟩
    refine EvAs.cons ?_ rfl
    refine' EvE.loc rfl rfl ?_ rfl rfl
    refine EvAs.cons ?_ rfl
    refine' EvE.top (by assumption) (T_WIRE_BITS _) ?_ rfl rfl rfl rfl
    refine EvAs.nil ?_
    refine EvL.wg (by dsimp only; omega) (sp_number W 0 _ _ _ hz h5 b'.1 b'.2) ?_
    refine EvStore rfl rfl ?_
    refine andThen_next ?_
    refine EvSs.nil ?_
    refine andThen_next ?_
    refine EvSs.cons ?_
    refine EvS.ret ?_
    refine EvE.tuple ?_
    refine EvAs.cons ?_ rfl
    refine EvE.str ?_
    refine EvAs.cons ?_ rfl
    refine' EvE.loc rfl rfl ?_ rfl rfl
    refine EvAs.cons ?_ rfl
    refine' EvE.loc rfl rfl ?_ rfl rfl
    refine EvAs.cons ?_ rfl
    refine' EvE.loc rfl rfl ?_ rfl rfl
    refine EvAs.nil ?_
    refine tup_ok (by walk_at "side") ?_
    refine andThen_ret ?_
    refine fnEnd_ret ?_
    exact ⟨rfl, rfl⟩
end

/-! E7 -/
section
variable {hT : Heap} {w : World} {x dx : Addr} {toks : List AV} {i i' : Nat} {p p' : Int} {kd : Str} {v : AV} {j j' j'' : Nat} {r : List AV} {c : Cx} {ν : Loc} {μ : Store}
theorem WhileL.step {test : Expr} {body : List Stmt} {n : Nat} {k : Kt Fl} (h : EvT hT PG w c test ν μ fun b ν₁ μ₁ => (b = true → EvSs hT PG w c body ν₁ μ₁ fun fl ν₂ μ₂ => match fl with
      | .next => WhileL hT PG w c test body n ν₂ μ₂ k
      | .cont => WhileL hT PG w c test body n ν₂ μ₂ k
      | .brk => k .next ν₂ μ₂
      | .ret d => k (.ret d) ν₂ μ₂) ∧ (b = false → k .next ν₁ μ₁)) : WhileL hT PG w c test body (n + 1) ν μ k := h
theorem sp_plain (W : Wd hT (KK w.params)) (n : Nat) (d : Int) (C : AV) (hd : d ≤ 12) (hp : p < 32) (hz : toks.length ≤ 1000) (h : toks.drop i = wd "prefix" j :: r)
    (hs : Spec hT PG w (n + 5) (.ref 412) [.ref x] (rs x dx toks (i + 1) (p + 1)) (Gives C (rs x dx toks i' (p + 1)))) :
    Spec hT PG w (n + 6) (.ref 405) [.ref x, .int d] (rs x dx toks i p) (Gives C (rs x dx toks i' (p + 1))) := by
  refine Spec.fn W (L_ConditionReader_plain _) (C_ConditionReader_plain _) (fun s g vs _ _ hv => binds_of (qual := "") [Str.ofString "self", Str.ofString "deep"] rfl (by decide) (by decide +kernel) (fun vs h => by obtain ⟨a, b, rfl⟩ := len2 h; rfl) s g vs hv) (by decide +kernel) rfl rfl rfl (fun Ar L' hr => ?_)
  refine EvSs.cons ?_
  refine EvS.expr ?_ rfl rfl
  refine' EvE.meth (by assumption) ?_ rfl rfl rfl
  refine' EvE.loc rfl rfl ?_ rfl rfl
  refine' ⟨_, _, ⟨_, _, _, rfl, .inl (.head _), rfl, (MP_need_depth _), (MF_need_depth _), (MI_need_depth _), (MK_need_depth _)⟩, ?_⟩
  refine EvAs.cons ?_ rfl
  refine' EvE.loc rfl rfl ?_ rfl rfl
  refine EvAs.nil ?_
  refine EvL.wg (by dsimp only; omega) (sp_need_depth W 0 d hd) ?_
  refine none_ok ?_
  refine andThen_next ?_
  refine EvSs.cons ?_
  refine EvS.iff ?_
  refine EvT.plain ?_ rfl
  refine' EvE.meth (by assumption) ?_ rfl rfl rfl
  refine' EvE.loc rfl rfl ?_ rfl rfl
  refine' ⟨_, _, ⟨_, _, _, rfl, .inl (.head _), rfl, (MP_skip _), (MF_skip _), (MI_skip _), (MK_skip _)⟩, ?_⟩
  refine EvAs.cons ?_ rfl
  refine EvE.str ?_
  refine EvAs.cons ?_ rfl
  refine EvE.str ?_
  refine EvAs.nil ?_
  refine EvL.wg (by dsimp only; omega) (sp_skipF W 0 _ _ hz h (by first | exact .inr ⟨_, rfl⟩ | exact .inl (by decide +kernel)) (by decide +kernel)) ?_
  refine Ev1.truthB ?_
  refine brF (by walk_at "cond") ?_
  refine EvSs.nil ?_
  refine andThen_next ?_
  refine EvSs.cons ?_
  refine EvS.iff ?_
  refine EvT.plain ?_ rfl
  refine' EvE.meth (by assumption) ?_ rfl rfl rfl
  refine' EvE.loc rfl rfl ?_ rfl rfl
  refine' ⟨_, _, ⟨_, _, _, rfl, .inl (.head _), rfl, (MP_skip _), (MF_skip _), (MI_skip _), (MK_skip _)⟩, ?_⟩
  refine EvAs.cons ?_ rfl
  refine EvE.str ?_
  refine EvAs.cons ?_ rfl
  refine EvE.str ?_
  refine EvAs.nil ?_
  refine EvL.wg (by dsimp only; omega) (sp_skipF W 0 _ _ hz h (by first | exact .inr ⟨_, rfl⟩ | exact .inl (by decide +kernel)) (by decide +kernel)) ?_
  refine Ev1.truthB ?_
  refine brF (by walk_at "cond") ?_
  refine EvSs.nil ?_
  refine andThen_next ?_
  refine EvSs.cons ?_
  refine EvS.expr ?_ rfl rfl
  refine' EvE.meth0 (by assumption) ?_ rfl
  refine' EvE.loc rfl rfl ?_ rfl rfl
  refine' ⟨_, _, ⟨_, _, _, rfl, .inl (.head _), rfl, (MP_need_room _), (MF_need_room _), (MI_need_room _), (MK_need_room _)⟩, ?_⟩
  refine EvL.wg (by dsimp only; omega) (sp_need_room W 0 hp) ?_
  refine none_ok ?_
  refine andThen_next ?_
  refine EvSs.cons ?_
  refine EvS.iff ?_
  refine EvT.plain ?_ rfl
  refine' EvE.meth (by assumption) ?_ rfl rfl rfl
  refine' EvE.loc rfl rfl ?_ rfl rfl
  refine' ⟨_, _, ⟨_, _, _, rfl, .inl (.head _), rfl, (MP_skip _), (MF_skip _), (MI_skip _), (MK_skip _)⟩, ?_⟩
  refine EvAs.cons ?_ rfl
  refine EvE.str ?_
  refine EvAs.cons ?_ rfl
  refine EvE.str ?_
  refine EvAs.nil ?_
  refine EvL.wg (by dsimp only; omega) (sp_skipF W 0 _ _ hz h (by first | exact .inr ⟨_, rfl⟩ | exact .inl (by decide +kernel)) (by decide +kernel)) ?_
  refine Ev1.truthB ?_
  refine brF (by walk_at "cond") ?_
  refine EvSs.nil ?_
  refine andThen_next ?_
  refine EvSs.cons ?_
  refine EvS.iff ?_
  refine EvT.plain ?_ rfl
  refine' EvE.meth (by assumption) ?_ rfl rfl rfl
  refine' EvE.loc rfl rfl ?_ rfl rfl
  refine' ⟨_, _, ⟨_, _, _, rfl, .inl (.head _), rfl, (MP_skip _), (MF_skip _), (MI_skip _), (MK_skip _)⟩, ?_⟩
  refine EvAs.cons ?_ rfl
  refine EvE.str ?_
  refine EvAs.cons ?_ rfl
  refine EvE.str ?_
  refine EvAs.nil ?_
  refine EvL.wg (by dsimp only; omega) (sp_skipT W 0 _ _ hz h) ?_
  refine Ev1.truthB ?_
  refine brT (by walk_at "cond") ?_
  refine EvSs.cons ?_
  refine EvS.ret ?_
  refine' EvE.meth0 (by assumption) ?_ rfl
  refine' EvE.loc rfl rfl ?_ rfl rfl
  refine' ⟨_, _, ⟨_, _, _, rfl, .inl (.head _), rfl, (MP_about_prefix _), (MF_about_prefix _), (MI_about_prefix _), (MK_about_prefix _)⟩, ?_⟩
  refine EvL.wg (by dsimp only; omega) (hs) ?_
  refine andThen_ret ?_
  refine andThen_ret ?_
  refine fnEnd_ret ?_
  exact ⟨rfl, rfl⟩
theorem sp_all_of (W : Wd hT (KK w.params)) (n : Nat) (d : Int) (C : AV) (hz : toks.length ≤ 1000) (h : toks.drop i' = wd "then" j :: r)
    (hs : Spec hT PG w (n + 6) (.ref 405) [.ref x, .int d] (rs x dx toks i p) (Gives C (rs x dx toks i' p'))) :
    Spec hT PG w (n + 7) (.ref 398) [.ref x, .int d] (rs x dx toks i p) (Gives C (rs x dx toks i' p')) := by
  refine Spec.fn W (L_ConditionReader_all_of _) (C_ConditionReader_all_of _) (fun s g vs _ _ hv => binds_of (qual := "") [Str.ofString "self", Str.ofString "deep"] rfl (by decide) (by decide +kernel) (fun vs h => by obtain ⟨a, b, rfl⟩ := len2 h; rfl) s g vs hv) (by decide +kernel) rfl rfl rfl (fun Ar L' hr => ?_)
  refine EvSs.cons ?_
  refine EvS.assign ?_ rfl
  refine' EvE.meth (by assumption) ?_ rfl rfl rfl
  refine' EvE.loc rfl rfl ?_ rfl rfl
  refine' ⟨_, _, ⟨_, _, _, rfl, .inl (.head _), rfl, (MP_plain _), (MF_plain _), (MI_plain _), (MK_plain _)⟩, ?_⟩
  refine EvAs.cons ?_ rfl
  refine' EvE.loc rfl rfl ?_ rfl rfl
  refine EvAs.nil ?_
  refine EvL.wg (by dsimp only; omega) (hs) ?_
  refine EvStore rfl rfl ?_
  refine andThen_next ?_
  refine EvSs.cons ?_
  refine EvS.while 1 (WhileL.step ?_)
  refine EvT.plain ?_ rfl
  refine' EvE.meth (by assumption) ?_ rfl rfl rfl
  refine' EvE.loc rfl rfl ?_ rfl rfl
  refine' ⟨_, _, ⟨_, _, _, rfl, .inl (.head _), rfl, (MP_skip _), (MF_skip _), (MI_skip _), (MK_skip _)⟩, ?_⟩
  refine EvAs.cons ?_ rfl
  refine EvE.str ?_
  refine EvAs.cons ?_ rfl
  refine EvE.str ?_
  refine EvAs.nil ?_
  refine EvL.wg (by dsimp only; omega) (sp_skipF W 0 _ _ hz h (by first | exact .inr ⟨_, rfl⟩ | exact .inl (by decide +kernel)) (by decide +kernel)) ?_
  refine Ev1.truthB ?_
  refine brF (by walk_at "cond") ?_
  refine andThen_next ?_
  refine EvSs.cons ?_
  refine EvS.ret ?_
  refine' EvE.loc rfl rfl ?_ rfl rfl
  refine andThen_ret ?_
  refine fnEnd_ret ?_
  exact ⟨rfl, rfl⟩
theorem sp_any_of (W : Wd hT (KK w.params)) (n : Nat) (d : Int) (C : AV) (hz : toks.length ≤ 1000) (h : toks.drop i' = wd "then" j :: r)
    (hs : Spec hT PG w (n + 7) (.ref 398) [.ref x, .int d] (rs x dx toks i p) (Gives C (rs x dx toks i' p'))) :
    Spec hT PG w (n + 8) (.ref 391) [.ref x, .int d] (rs x dx toks i p) (Gives C (rs x dx toks i' p')) := by
  refine Spec.fn W (L_ConditionReader_any_of _) (C_ConditionReader_any_of _) (fun s g vs _ _ hv => binds_of (qual := "") [Str.ofString "self", Str.ofString "deep"] rfl (by decide) (by decide +kernel) (fun vs h => by obtain ⟨a, b, rfl⟩ := len2 h; rfl) s g vs hv) (by decide +kernel) rfl rfl rfl (fun Ar L' hr => ?_)
  refine EvSs.cons ?_
  refine EvS.assign ?_ rfl
  refine' EvE.meth (by assumption) ?_ rfl rfl rfl
  refine' EvE.loc rfl rfl ?_ rfl rfl
  refine' ⟨_, _, ⟨_, _, _, rfl, .inl (.head _), rfl, (MP_all_of _), (MF_all_of _), (MI_all_of _), (MK_all_of _)⟩, ?_⟩
  refine EvAs.cons ?_ rfl
  refine' EvE.loc rfl rfl ?_ rfl rfl
  refine EvAs.nil ?_
  refine EvL.wg (by dsimp only; omega) (hs) ?_
  refine EvStore rfl rfl ?_
  refine andThen_next ?_
  refine EvSs.cons ?_
  refine EvS.while 1 (WhileL.step ?_)
  refine EvT.plain ?_ rfl
  refine' EvE.meth (by assumption) ?_ rfl rfl rfl
  refine' EvE.loc rfl rfl ?_ rfl rfl
  refine' ⟨_, _, ⟨_, _, _, rfl, .inl (.head _), rfl, (MP_skip _), (MF_skip _), (MI_skip _), (MK_skip _)⟩, ?_⟩
  refine EvAs.cons ?_ rfl
  refine EvE.str ?_
  refine EvAs.cons ?_ rfl
  refine EvE.str ?_
  refine EvAs.nil ?_
  refine EvL.wg (by dsimp only; omega) (sp_skipF W 0 _ _ hz h (by first | exact .inr ⟨_, rfl⟩ | exact .inl (by decide +kernel)) (by decide +kernel)) ?_
  refine Ev1.truthB ?_
  refine brF (by walk_at "cond") ?_
  refine andThen_next ?_
  refine EvSs.cons ?_
  refine EvS.ret ?_
  refine' EvE.loc rfl rfl ?_ rfl rfl
  refine andThen_ret ?_
  refine fnEnd_ret ?_
  exact ⟨rfl, rfl⟩
noncomputable def vdict (s : Str) : Bool := s == Str.ofString "accept" || s == Str.ofString "reject"
theorem vdict_or {s : Str} (h : vdict s = true) : s = Str.ofString "accept" ∨ s = Str.ofString "reject" := by
  unfold vdict at h
  rwa [Bool.or_eq_true, beq_iff_eq, beq_iff_eq] at h
theorem sp_verdict (W : Wd hT (KK w.params)) (n : Nat) (d : AV) (s : Str) (hv : s = Str.ofString "accept" ∨ s = Str.ofString "reject") (hz : toks.length ≤ 1000) (h : toks.drop i = tok (Str.ofString "word") (.str s) j :: r) :
    Spec hT PG w (n + 4) (.ref 445) [.ref x, d] (rs x dx toks i p) (Gives (.tup [.str s]) (rs x dx toks (i + 1) p)) := by
  refine Spec.fn W (L_PolicyReader_statement _) (C_PolicyReader_statement _) (fun s g vs _ _ hv => binds_of (qual := "") [Str.ofString "self", Str.ofString "deep"] rfl (by decide) (by decide +kernel) (fun vs h => by obtain ⟨a, b, rfl⟩ := len2 h; rfl) s g vs hv) (by decide +kernel) rfl rfl rfl (fun Ar L' hr => ?_)
  refine EvSs.cons ?_
  refine EvS.iff ?_
  refine EvT.plain ?_ rfl
  refine' EvE.meth (by assumption) ?_ rfl rfl rfl
  refine' EvE.loc rfl rfl ?_ rfl rfl
  refine' ⟨_, _, ⟨_, _, _, rfl, .inl (.head _), rfl, (MP_skip _), (MF_skip _), (MI_skip _), (MK_skip _)⟩, ?_⟩
  refine EvAs.cons ?_ rfl
  refine EvE.str ?_
  refine EvAs.cons ?_ rfl
  refine EvE.str ?_
  refine EvAs.nil ?_
  refine EvL.wg (by dsimp only; omega) (sp_skipF W 0 _ _ hz h (.inr ⟨_, rfl⟩) (by rcases hv with rfl | rfl <;> decide +kernel)) ?_
  refine Ev1.truthB ?_
  refine brF (by walk_at "cond") ?_
  refine EvSs.nil ?_
  refine andThen_next ?_
  refine EvSs.cons ?_
  refine EvS.iff ?_
  refine EvT.plain ?_ rfl
  refine' EvE.meth (by assumption) ?_ rfl rfl rfl
  refine' EvE.loc rfl rfl ?_ rfl rfl
  refine' ⟨_, _, ⟨_, _, _, rfl, .inl (.head _), rfl, (MP_skip _), (MF_skip _), (MI_skip _), (MK_skip _)⟩, ?_⟩
  refine EvAs.cons ?_ rfl
  refine EvE.str ?_
  refine EvAs.cons ?_ rfl
  refine EvE.str ?_
  refine EvAs.nil ?_
  refine EvL.wg (by dsimp only; omega) (sp_skipF W 0 _ _ hz h (.inr ⟨_, rfl⟩) (by rcases hv with rfl | rfl <;> decide +kernel)) ?_
  refine Ev1.truthB ?_
  refine brF (by walk_at "cond") ?_
  refine EvSs.nil ?_
  refine andThen_next ?_
  refine EvSs.cons ?_
  refine EvS.iff ?_
  refine EvT.plain ?_ rfl
  refine' EvE.meth (by assumption) ?_ rfl rfl rfl
  refine' EvE.loc rfl rfl ?_ rfl rfl
  refine' ⟨_, _, ⟨_, _, _, rfl, .inl (.head _), rfl, (MP_skip _), (MF_skip _), (MI_skip _), (MK_skip _)⟩, ?_⟩
  refine EvAs.cons ?_ rfl
  refine EvE.str ?_
  refine EvAs.cons ?_ rfl
  refine EvE.str ?_
  refine EvAs.nil ?_
  refine EvL.wg (by dsimp only; omega) (sp_skipF W 0 _ _ hz h (.inr ⟨_, rfl⟩) (by rcases hv with rfl | rfl <;> decide +kernel)) ?_
  refine Ev1.truthB ?_
  refine brF (by walk_at "cond") ?_
  refine EvSs.nil ?_
  refine andThen_next ?_
  refine EvSs.cons ?_
  refine EvS.iff ?_
  refine EvT.plain ?_ rfl
  refine' EvE.meth (by assumption) ?_ rfl rfl rfl
  refine' EvE.loc rfl rfl ?_ rfl rfl
  refine' ⟨_, _, ⟨_, _, _, rfl, .inl (.head _), rfl, (MP_skip _), (MF_skip _), (MI_skip _), (MK_skip _)⟩, ?_⟩
  refine EvAs.cons ?_ rfl
  refine EvE.str ?_
  refine EvAs.cons ?_ rfl
  refine EvE.str ?_
  refine EvAs.nil ?_
  refine EvL.wg (by dsimp only; omega) (sp_skipF W 0 _ _ hz h (.inr ⟨_, rfl⟩) (by rcases hv with rfl | rfl <;> decide +kernel)) ?_
  refine Ev1.truthB ?_
  refine brF (by walk_at "cond") ?_
  refine EvSs.nil ?_
  refine andThen_next ?_
  refine EvSs.cons ?_
  refine EvS.iff ?_
  refine EvT.plain ?_ rfl
  refine' EvE.meth (by assumption) ?_ rfl rfl rfl
  refine' EvE.loc rfl rfl ?_ rfl rfl
  refine' ⟨_, _, ⟨_, _, _, rfl, .inl (.head _), rfl, (MP_skip _), (MF_skip _), (MI_skip _), (MK_skip _)⟩, ?_⟩
  refine EvAs.cons ?_ rfl
  refine EvE.str ?_
  refine EvAs.cons ?_ rfl
  refine EvE.str ?_
  refine EvAs.nil ?_
  refine EvL.wg (by dsimp only; omega) (sp_skipF W 0 _ _ hz h (.inr ⟨_, rfl⟩) (by rcases hv with rfl | rfl <;> decide +kernel)) ?_
  refine Ev1.truthB ?_
  refine brF (by walk_at "cond") ?_
  refine EvSs.nil ?_
  refine andThen_next ?_
  refine EvSs.cons ?_
  refine EvS.iff ?_
  refine EvT.plain ?_ rfl
  refine' EvE.meth (by assumption) ?_ rfl rfl rfl
  refine' EvE.loc rfl rfl ?_ rfl rfl
  refine' ⟨_, _, ⟨_, _, _, rfl, .inl (.head _), rfl, (MP_skip _), (MF_skip _), (MI_skip _), (MK_skip _)⟩, ?_⟩
  refine EvAs.cons ?_ rfl
  refine EvE.str ?_
  refine EvAs.cons ?_ rfl
  refine EvE.str ?_
  refine EvAs.nil ?_
  refine EvL.wg (by dsimp only; omega) (sp_skipF W 0 _ _ hz h (.inr ⟨_, rfl⟩) (by rcases hv with rfl | rfl <;> decide +kernel)) ?_
  refine Ev1.truthB ?_
  refine brF (by walk_at "cond") ?_
  refine EvSs.nil ?_
  refine andThen_next ?_
  refine EvSs.cons ?_
  refine EvS.ret ?_
  refine EvE.tuple ?_
  refine EvAs.cons ?_ rfl
  refine' EvE.meth (by assumption) ?_ rfl rfl rfl
  refine' EvE.loc rfl rfl ?_ rfl rfl
  refine' ⟨_, _, ⟨_, _, _, rfl, .inl (.head _), rfl, (MP_one_of _), (MF_one_of _), (MI_one_of _), (MK_one_of _)⟩, ?_⟩
  refine EvAs.cons ?_ rfl
  refine' EvE.top (by assumption) (T_VERDICTS _) ?_ rfl rfl rfl rfl
  refine EvAs.nil ?_
  refine EvL.wg (by dsimp only; omega) (sp_one_of W 0 _ _ hz h (by decide +kernel) (by rcases hv with rfl | rfl <;> decide +kernel) (by rcases hv with rfl | rfl <;> decide +kernel)) ?_
  refine EvAs.nil ?_
  refine tup_ok (by walk_at "side") ?_
  refine andThen_ret ?_
  refine fnEnd_ret ?_
  exact ⟨rfl, rfl⟩
theorem sp_block (W : Wd hT (KK w.params)) (n : Nat) (d : Int) (hd : d ≤ 12) (s : Str) (hv : s = Str.ofString "accept" ∨ s = Str.ofString "reject") (hz : toks.length ≤ 1000) (h : toks.drop i = tok (Str.ofString "word") (.str s) j :: r) :
    Spec hT PG w (n + 5) (.ref 431) [.ref x, .int d] (rs x dx toks i p) (Gives (.tup [.tup [.str s]]) (rs x dx toks (i + 1) p)) := by
  have hf := sp_skipF (x := x) (dx := dx) (p := p) W 0 (Str.ofString "sign") (Str.ofString "{") hz h (.inr ⟨_, rfl⟩) (by rcases hv with rfl | rfl <;> decide +kernel)
  refine Spec.fn W (L_PolicyReader_block _) (C_PolicyReader_block _) (fun s g vs _ _ hv => binds_of (qual := "") [Str.ofString "self", Str.ofString "deep"] rfl (by decide) (by decide +kernel) (fun vs h => by obtain ⟨a, b, rfl⟩ := len2 h; rfl) s g vs hv) (by decide +kernel) rfl rfl rfl (fun Ar L' hr => ?_)
  refine EvSs.cons ?_
  refine EvS.expr ?_ rfl rfl
  refine' EvE.meth (by assumption) ?_ rfl rfl rfl
  refine' EvE.loc rfl rfl ?_ rfl rfl
  refine' ⟨_, _, ⟨_, _, _, rfl, .inl (.head _), rfl, (MP_need_depth _), (MF_need_depth _), (MI_need_depth _), (MK_need_depth _)⟩, ?_⟩
  refine EvAs.cons ?_ rfl
  refine' EvE.loc rfl rfl ?_ rfl rfl
  refine EvAs.nil ?_
  refine EvL.wg (by dsimp only; omega) (sp_need_depth W 0 d hd) ?_
  refine none_ok ?_
  refine andThen_next ?_
  refine EvSs.cons ?_
  refine EvS.iff ?_
  refine EvT.plain ?_ rfl
  refine' EvE.meth (by assumption) ?_ rfl rfl rfl
  refine' EvE.loc rfl rfl ?_ rfl rfl
  refine' ⟨_, _, ⟨_, _, _, rfl, .inl (.head _), rfl, (MP_skip _), (MF_skip _), (MI_skip _), (MK_skip _)⟩, ?_⟩
  refine EvAs.cons ?_ rfl
  refine EvE.str ?_
  refine EvAs.cons ?_ rfl
  refine EvE.str ?_
  refine EvAs.nil ?_
  refine EvL.wg (by dsimp only; omega) (hf) ?_
  refine Ev1.truthB ?_
  refine brF (by walk_at "cond") ?_
  refine EvSs.nil ?_
  refine andThen_next ?_
  refine EvSs.cons ?_
  refine EvS.ret ?_
  refine EvE.tuple ?_
  refine EvAs.cons ?_ rfl
  refine' EvE.meth (by assumption) ?_ rfl rfl rfl
  refine' EvE.loc rfl rfl ?_ rfl rfl
  refine' ⟨_, _, ⟨_, _, _, rfl, .inl (.head _), rfl, (MP_statement _), (MF_statement _), (MI_statement _), (MK_statement _)⟩, ?_⟩
  refine EvAs.cons ?_ rfl
  refine' EvE.loc rfl rfl ?_ rfl rfl
  refine EvAs.nil ?_
  refine EvL.wg (by dsimp only; omega) (sp_verdict W 0 _ s hv hz h) ?_
  refine EvAs.nil ?_
  refine tup_ok (by walk_at "side") ?_
  refine andThen_ret ?_
  refine fnEnd_ret ?_
  exact ⟨rfl, rfl⟩
theorem sp_stmt_if (W : Wd hT (KK w.params)) (n : Nat) (d : Int) (hd : d + 1 ≤ 12) (s : Str) (C : AV) (hv : s = Str.ofString "accept" ∨ s = Str.ofString "reject") (hz : toks.length ≤ 1000) (h : toks.drop i = wd "if" j :: r)
    (h2 : ∃ j3 r', toks.drop i' = wd "then" j' :: tok (Str.ofString "word") (.str s) j'' :: sg "}" j3 :: r')
    (hs : Spec hT PG w (n + 8) (.ref 391) [.ref x, .int (d + 1)] (rs x dx toks (i + 1) 0) (Gives C (rs x dx toks i' 1))) :
    Spec hT PG w (n + 9) (.ref 445) [.ref x, .int d] (rs x dx toks i p) (Gives (.tup [.str (Str.ofString "if"), C, .tup [.tup [.str s]], .tup []]) (rs x dx toks (i' + 2) 1)) := by
  obtain ⟨j3, r', h2⟩ := h2
  have h3 := tk_next h2
  have h4 := tk_next h3
  refine Spec.fn W (L_PolicyReader_statement _) (C_PolicyReader_statement _) (fun s g vs _ _ hv => binds_of (qual := "") [Str.ofString "self", Str.ofString "deep"] rfl (by decide) (by decide +kernel) (fun vs h => by obtain ⟨a, b, rfl⟩ := len2 h; rfl) s g vs hv) (by decide +kernel) rfl rfl rfl (fun Ar L' hr => ?_)
  refine EvSs.cons ?_
  refine EvS.iff ?_
  refine EvT.plain ?_ rfl
  refine' EvE.meth (by assumption) ?_ rfl rfl rfl
  refine' EvE.loc rfl rfl ?_ rfl rfl
  refine' ⟨_, _, ⟨_, _, _, rfl, .inl (.head _), rfl, (MP_skip _), (MF_skip _), (MI_skip _), (MK_skip _)⟩, ?_⟩
  refine EvAs.cons ?_ rfl
  refine EvE.str ?_
  refine EvAs.cons ?_ rfl
  refine EvE.str ?_
  refine EvAs.nil ?_
  refine EvL.wg (by dsimp only; omega) (sp_skipT W 0 _ _ hz h) ?_
  refine Ev1.truthB ?_
  refine brT (by walk_at "cond") ?_
  refine EvSs.cons ?_
  refine' EvS.setAttr (by assumption) ?_ rfl
  refine EvE.int ?_
  refine' EvE.loc rfl rfl ?_ rfl rfl
  refine' ⟨_, _, _, _, [], _, rfl, rfl, Nat.le_of_ble_eq_true rfl, SA _, PO _, (AT_parts _), HD _, ?_⟩; dsimp only [List.nil_append]
  refine andThen_next ?_
  refine EvSs.cons ?_
  refine EvS.assign ?_ rfl
  refine' EvE.meth (by assumption) ?_ rfl rfl rfl
  refine' EvE.loc rfl rfl ?_ rfl rfl
  refine' ⟨_, _, ⟨_, _, _, rfl, .inl (.head _), rfl, (MP_any_of _), (MF_any_of _), (MI_any_of _), (MK_any_of _)⟩, ?_⟩
  refine EvAs.cons ?_ rfl
  refine EvE.binop ?_
  refine' EvE.loc rfl rfl ?_ rfl rfl
  refine EvE.int ?_
  refine Ev2.add ?_
  refine EvAs.nil ?_
  refine EvL.wg (by dsimp only; omega) (hs) ?_
  refine EvStore rfl rfl ?_
  refine andThen_next ?_
  refine EvSs.cons ?_
  refine EvS.expr ?_ rfl rfl
  refine' EvE.meth (by assumption) ?_ rfl rfl rfl
  refine' EvE.loc rfl rfl ?_ rfl rfl
  refine' ⟨_, _, ⟨_, _, _, rfl, .inl (.head _), rfl, (MP_need _), (MF_need _), (MI_need _), (MK_need _)⟩, ?_⟩
  refine EvAs.cons ?_ rfl
  refine EvE.str ?_
  refine EvAs.cons ?_ rfl
  refine EvE.str ?_
  refine EvAs.nil ?_
  refine EvL.wg (by dsimp only; omega) (sp_need W 0 _ _ hz h2) ?_
  refine none_ok ?_
  refine andThen_next ?_
  refine EvSs.cons ?_
  refine EvS.assign ?_ rfl
  refine' EvE.meth (by assumption) ?_ rfl rfl rfl
  refine' EvE.loc rfl rfl ?_ rfl rfl
  refine' ⟨_, _, ⟨_, _, _, rfl, .inl (.head _), rfl, (MP_block _), (MF_block _), (MI_block _), (MK_block _)⟩, ?_⟩
  refine EvAs.cons ?_ rfl
  refine EvE.binop ?_
  refine' EvE.loc rfl rfl ?_ rfl rfl
  refine EvE.int ?_
  refine Ev2.add ?_
  refine EvAs.nil ?_
  refine EvL.wg (by dsimp only; omega) (sp_block W 0 _ hd s hv hz h3) ?_
  refine EvStore rfl rfl ?_
  refine andThen_next ?_
  refine EvSs.cons ?_
  refine EvS.ret ?_
  refine EvE.tuple ?_
  refine EvAs.cons ?_ rfl
  refine EvE.str ?_
  refine EvAs.cons ?_ rfl
  refine' EvE.loc rfl rfl ?_ rfl rfl
  refine EvAs.cons ?_ rfl
  refine' EvE.loc rfl rfl ?_ rfl rfl
  refine EvAs.cons ?_ rfl
  refine EvE.ifx ?_
  refine EvT.plain ?_ rfl
  refine' EvE.meth (by assumption) ?_ rfl rfl rfl
  refine' EvE.loc rfl rfl ?_ rfl rfl
  refine' ⟨_, _, ⟨_, _, _, rfl, .inl (.head _), rfl, (MP_skip _), (MF_skip _), (MI_skip _), (MK_skip _)⟩, ?_⟩
  refine EvAs.cons ?_ rfl
  refine EvE.str ?_
  refine EvAs.cons ?_ rfl
  refine EvE.str ?_
  refine EvAs.nil ?_
  refine EvL.wg (by dsimp only; omega) (sp_skipF W 0 _ _ hz h4 (by first | exact .inr ⟨_, rfl⟩ | exact .inl (by decide +kernel)) (by decide +kernel)) ?_
  refine Ev1.truthB ?_
  refine brF (by walk_at "cond") ?_
  refine EvE.tuple ?_
  refine EvAs.nil ?_
  refine tup_ok (by walk_at "side") ?_
  refine EvAs.nil ?_
  refine tup_ok (by walk_at "side") ?_
  refine andThen_ret ?_
  refine andThen_ret ?_
  refine fnEnd_ret ?_
  exact ⟨rfl, rfl⟩
end

/-! E8 -/
section
variable {hT : Heap} {w : World} {x dx : Addr} {toks : List AV} {i i' : Nat} {p p' : Int} {kd : Str} {v : AV} {j j' j'' : Nat} {r : List AV} {c : Cx} {ν : Loc} {μ : Store}
theorem Spec.drop {n : Nat} {f : Value} {ds : List AV} {k : AV → Store → Prop} (h : Spec hT PG w n f ds μ fun d ρ => ∃ μ', μ'.Sublist ρ ∧ k d μ') : Spec hT PG w n f ds μ k :=
  fun A g s vs Q hr r hv hQ => h A g s vs Q hr r hv fun g' s' v d ρ e r' rd k₁ => by
    obtain ⟨μ', hs, kk⟩ := k₁
    exact hQ g' s' v d μ' ⟨e.le, e.new, e.keep, fun a ha => e.dom a ((foot_sub hs).subset ha), e.same⟩ ⟨r'.sub, r'.top, fun p hp => r'.hold p (hs.subset hp), (foot_sub hs).nodup r'.apart, fun a ha => r'.off a ((foot_sub hs).subset ha)⟩ rd kk
/-- a statement that is an if -/
noncomputable abbrev ifSt (C : AV) (s : Str) : AV := .tup [.str (Str.ofString "if"), C, .tup [.tup [.str s]], .tup []]
theorem sp_statements (W : Wd hT (KK w.params)) (n : Nat) (C : AV) (s : Str) (hz : toks.length ≤ 1000) (h : toks.drop i = wd "if" j :: r) (h2 : ∃ r', toks.drop i' = sg "}" j' :: r')
    (hs : Spec hT PG w (n + 9) (.ref 445) [.ref x, .int 1] (rs x dx toks i p) (Gives (ifSt C s) (rs x dx toks i' p'))) :
    Spec hT PG w (n + 10) (.ref 438) [.ref x, .int 1] (rs x dx toks i p) (Gives (.tup [ifSt C s]) (rs x dx toks i' p')) := by
  obtain ⟨r', h2⟩ := h2
  refine Spec.drop ?_
  refine Spec.fn W (L_PolicyReader_statements _) (C_PolicyReader_statements _) (fun s g vs _ _ hv => binds_of (qual := "") [Str.ofString "self", Str.ofString "deep"] rfl (by decide) (by decide +kernel) (fun vs h => by obtain ⟨a, b, rfl⟩ := len2 h; rfl) s g vs hv) (by decide +kernel) rfl rfl rfl (fun A L' hr => ?_)
  refine EvSs.cons ?_
  refine EvS.assign ?_ rfl
  refine EvE.list ?_
  refine EvAs.nil ?_
  refine tup_ok (by walk_at "side") ?_
  intro a
  refine EvStore rfl rfl ?_
  refine andThen_next ?_
  refine EvSs.cons ?_
  refine EvS.while 2 (WhileL.step ?_)
  refine EvT.not ?_
  refine EvT.plain ?_ rfl
  refine' EvE.meth (by assumption) ?_ rfl rfl rfl
  refine' EvE.loc rfl rfl ?_ rfl rfl
  refine' ⟨_, _, ⟨_, _, _, rfl, .inl (.tail _ (.head _)), rfl, (MP_is_next _), (MF_is_next _), (MI_is_next _), (MK_is_next _)⟩, ?_⟩
  refine EvAs.cons ?_ rfl
  refine EvE.str ?_
  refine EvAs.cons ?_ rfl
  refine EvE.str ?_
  refine EvAs.nil ?_
  refine EvL.tg (by dsimp only; omega) (sp_is_next W 0 _ _ hz h (by first | exact .inr ⟨_, rfl⟩ | exact .inl (by decide +kernel))) ?_
  refine Ev1.truthB ?_
  refine brT (by walk_at "cond") ?_
  refine EvSs.cons ?_
  refine EvS.expr ?_ rfl rfl
  refine' EvE.append ?_ rfl rfl
  refine' EvE.loc rfl rfl ?_ rfl rfl
  refine' app_ok (.head _) ?_
  refine' EvE.meth (by assumption) ?_ rfl rfl rfl
  refine' EvE.loc rfl rfl ?_ rfl rfl
  refine' ⟨_, _, ⟨_, _, _, rfl, .inl (.tail _ (.head _)), rfl, (MP_statement _), (MF_statement _), (MI_statement _), (MK_statement _)⟩, ?_⟩
  refine EvAs.cons ?_ rfl
  refine' EvE.loc rfl rfl ?_ rfl rfl
  refine EvAs.nil ?_
  refine EvL.tg (by dsimp only; omega) (hs) ?_
  refine ⟨[], _, _, rfl, (by walk_at "side"), ?_⟩; dsimp only [List.nil_append, List.cons_append]
  refine none_ok ?_
  refine andThen_next ?_
  refine EvSs.cons ?_
  refine EvS.iff ?_
  refine EvT.and ?_
  refine EvT.not ?_
  refine EvT.plain ?_ rfl
  refine' EvE.meth (by assumption) ?_ rfl rfl rfl
  refine' EvE.loc rfl rfl ?_ rfl rfl
  refine' ⟨_, _, ⟨_, _, _, rfl, .inl (.tail _ (.head _)), rfl, (MP_skip _), (MF_skip _), (MI_skip _), (MK_skip _)⟩, ?_⟩
  refine EvAs.cons ?_ rfl
  refine EvE.str ?_
  refine EvAs.cons ?_ rfl
  refine EvE.str ?_
  refine EvAs.nil ?_
  refine EvL.tg (by dsimp only; omega) (sp_skipF W 0 _ _ hz h2 (by first | exact .inr ⟨_, rfl⟩ | exact .inl (by decide +kernel)) (by decide +kernel)) ?_
  refine Ev1.truthB ?_
  refine brT (by walk_at "cond") ?_
  refine EvT.and ?_
  refine EvT.cmp ?_ rfl
  refine EvE.sub ?_
  refine EvE.sub ?_
  refine' EvE.loc rfl rfl ?_ rfl rfl
  refine EvE.neg ?_
  refine EvE.int ?_
  refine int_ok ?_
  refine' Ev2.subCell (.head _) rfl rfl ?_ (fun _ _ => rfl) (by decide) (by decide)
  refine EvE.int ?_
  refine' Ev2.subTup rfl rfl ?_ (fun _ _ => rfl) (by decide) (by decide)
  refine EvE.str ?_
  refine Ev2.neS ?_
  refine Ev1.truthB ?_
  refine brF (by walk_at "cond") ?_
  refine brF (by walk_at "cond") ?_
  refine EvSs.nil ?_
  refine andThen_next ?_
  refine EvSs.nil ?_
  refine WhileL.step ?_
  refine EvT.not ?_
  refine EvT.plain ?_ rfl
  refine' EvE.meth (by assumption) ?_ rfl rfl rfl
  refine' EvE.loc rfl rfl ?_ rfl rfl
  refine' ⟨_, _, ⟨_, _, _, rfl, .inl (.tail _ (.head _)), rfl, (MP_is_next _), (MF_is_next _), (MI_is_next _), (MK_is_next _)⟩, ?_⟩
  refine EvAs.cons ?_ rfl
  refine EvE.str ?_
  refine EvAs.cons ?_ rfl
  refine EvE.str ?_
  refine EvAs.nil ?_
  refine EvL.tg (by dsimp only; omega) (sp_is_next W 0 _ _ hz h2 (by first | exact .inr ⟨_, rfl⟩ | exact .inl (by decide +kernel))) ?_
  refine Ev1.truthB ?_
  refine brF (by walk_at "cond") ?_
  refine andThen_next ?_
  refine EvSs.cons ?_
  refine EvS.ret ?_
  refine' EvE.callT (by assumption) (B_tuple _) (BB_tuple) (by decide) ?_ rfl rfl rfl rfl rfl rfl rfl
  refine EvAs.cons ?_ rfl
  refine' EvE.loc rfl rfl ?_ rfl rfl
  refine EvAs.nil ?_
  refine' EvL.tupC (.inl (.head _)) (by walk_at "side") ?_
  refine andThen_ret ?_
  refine fnEnd_ret ?_
  exact ⟨_, List.sublist_cons_self _ _, rfl, rfl⟩
theorem no_name {l : List Str} {nm : Str} (h : nm ∉ l) : ((l.map AV.str).any fun y => deq y (.str nm)) = false := by
  rw [List.any_eq_false]
  intro y hy
  obtain ⟨z, hz, rfl⟩ := List.mem_map.mp hy
  rw [deq_str, beq_iff_eq]
  rintro rfl
  exact h hz
/-- the names that no rule bears -/
noncomputable def plainName (nm : Str) : Bool := !([AV.str (Str.ofString "term"), .str (Str.ofString "default"), .str (Str.ofString "if"), .str (Str.ofString "then"), .str (Str.ofString "else"), .str (Str.ofString "and"), .str (Str.ofString "or"), .str (Str.ofString "not"), .str (Str.ofString "true"), .str (Str.ofString "prefix"), .str (Str.ofString "in"), .str (Str.ofString "is"), .str (Str.ofString "ge"), .str (Str.ofString "le"), .str (Str.ofString "community"), .str (Str.ofString "as-path"), .str (Str.ofString "has"), .str (Str.ofString "first"), .str (Str.ofString "set"), .str (Str.ofString "add"), .str (Str.ofString "drop"), .str (Str.ofString "clear"), .str (Str.ofString "prepend"), .str (Str.ofString "self"), .str (Str.ofString "accept"), .str (Str.ofString "reject"), .str (Str.ofString "next"), .str (Str.ofString "med"), .str (Str.ofString "local-pref"), .str (Str.ofString "as-length"), .str (Str.ofString "length"), .str (Str.ofString "peer-as"), .str (Str.ofString "tag"), .str (Str.ofString "igp"), .str (Str.ofString "egp"), .str (Str.ofString "incomplete"), .str (Str.ofString "local-pref"), .str (Str.ofString "med"), .str (Str.ofString "origin"), .str (Str.ofString "next-hop"), .str (Str.ofString "tag")].any fun y => deq y (.str nm)) && (AV.str nm).ok 0
theorem oks_strs (l : List Str) (h : l.all (fun x => (AV.str x).ok 0) = true) : AV.oks 0 (l.map AV.str) = true := by
  rw [AV.oks_iff]
  intro d hd
  obtain ⟨z, hz, rfl⟩ := List.mem_map.mp hd
  exact List.all_eq_true.mp h z hz
theorem sp_term (W : Wd hT (KK w.params)) (n : Nat) (S : AV) (nm : Str) (known : List Str) (hz : toks.length ≤ 1000) (h1 : nm ∉ known) (h2 : plainName nm = true) (h3 : known.all (fun x => (AV.str x).ok 0) = true)
    (h : toks.drop i = tok (Str.ofString "word") (.str nm) j :: sg "{" j' :: r) (h5 : ∃ j3 r', toks.drop i' = sg "}" j3 :: r')
    (hs : Spec hT PG w (n + 10) (.ref 438) [.ref x, .int 1] (rs x dx toks (i + 2) p) (Gives S (rs x dx toks i' p'))) :
    Spec hT PG w (n + 11) (.ref 459) [.ref x, .lst (known.map .str)] (rs x dx toks i p) (Gives (.tup [.str nm, S]) (rs x dx toks (i' + 1) p')) := by
  obtain ⟨j3, r', h5⟩ := h5
  have ht := tk_next h
  unfold plainName at h2
  rw [Bool.and_eq_true, Bool.not_eq_true'] at h2
  refine Spec.fn W (L_PolicyReader_term _) (C_PolicyReader_term _) (fun s g vs _ _ hv => binds_of (qual := "") [Str.ofString "self", Str.ofString "known"] rfl (by decide) (by decide +kernel) (fun vs h => by obtain ⟨a, b, rfl⟩ := len2 h; rfl) s g vs hv) (by decide +kernel) rfl rfl rfl (fun Ar L' hr => ?_)
  refine EvSs.cons ?_
  refine EvS.iff ?_
  refine EvT.or ?_
  refine EvT.cmp ?_ rfl
  refine' EvE.meth0 (by assumption) ?_ rfl
  refine' EvE.loc rfl rfl ?_ rfl rfl
  refine' ⟨_, _, ⟨_, _, _, rfl, .inl (.head _), rfl, (MP_kind _), (MF_kind _), (MI_kind _), (MK_kind _)⟩, ?_⟩
  refine EvL.wg (by dsimp only; omega) (sp_kind W 0 hz h) ?_
  refine EvE.str ?_
  refine Ev2.neS ?_
  refine Ev1.truthB ?_
  refine brF (by walk_at "cond") ?_
  refine EvT.or ?_
  refine EvT.cmp ?_ rfl
  refine' EvE.meth0 (by assumption) ?_ rfl
  refine' EvE.loc rfl rfl ?_ rfl rfl
  refine' ⟨_, _, ⟨_, _, _, rfl, .inl (.head _), rfl, (MP_value _), (MF_value _), (MI_value _), (MK_value _)⟩, ?_⟩
  refine EvL.wg (by dsimp only; omega) (sp_value W 0 hz h) ?_
  refine' EvE.top (by assumption) (T_RESERVED _) ?_ rfl rfl rfl rfl
  refine Ev2.inTup 0 0 (by decide +kernel) h2.2 (by decide) ?_
  rw [h2.1]
  refine Ev1.truthB ?_
  refine brF (by walk_at "cond") ?_
  refine EvT.or ?_
  refine EvT.cmp ?_ rfl
  refine' EvE.meth0 (by assumption) ?_ rfl
  refine' EvE.loc rfl rfl ?_ rfl rfl
  refine' ⟨_, _, ⟨_, _, _, rfl, .inl (.head _), rfl, (MP_value _), (MF_value _), (MI_value _), (MK_value _)⟩, ?_⟩
  refine EvL.wg (by dsimp only; omega) (sp_value W 0 hz h) ?_
  refine' EvE.loc rfl rfl ?_ rfl rfl
  refine Ev2.inLst 0 0 (oks_strs _ h3) h2.2 (by decide) ?_
  rw [no_name h1]
  refine Ev1.truthB ?_
  refine brF (by walk_at "cond") ?_
  refine EvT.orNil ?_
  refine brF (by walk_at "cond") ?_
  refine EvSs.nil ?_
  refine andThen_next ?_
  refine EvSs.cons ?_
  refine EvS.assign ?_ rfl
  refine' EvE.meth (by assumption) ?_ rfl rfl rfl
  refine' EvE.loc rfl rfl ?_ rfl rfl
  refine' ⟨_, _, ⟨_, _, _, rfl, .inl (.head _), rfl, (MP_take _), (MF_take _), (MI_take _), (MK_take _)⟩, ?_⟩
  refine EvAs.cons ?_ rfl
  refine EvE.str ?_
  refine EvAs.nil ?_
  refine EvL.wg (by dsimp only; omega) (sp_take W 0 hz h) ?_
  refine EvStore rfl rfl ?_
  refine andThen_next ?_
  refine EvSs.cons ?_
  refine EvS.expr ?_ rfl rfl
  refine' EvE.meth (by assumption) ?_ rfl rfl rfl
  refine' EvE.loc rfl rfl ?_ rfl rfl
  refine' ⟨_, _, ⟨_, _, _, rfl, .inl (.head _), rfl, (MP_need _), (MF_need _), (MI_need _), (MK_need _)⟩, ?_⟩
  refine EvAs.cons ?_ rfl
  refine EvE.str ?_
  refine EvAs.cons ?_ rfl
  refine EvE.str ?_
  refine EvAs.nil ?_
  refine EvL.wg (by dsimp only; omega) (sp_need W 0 _ _ hz ht) ?_
  refine none_ok ?_
  refine andThen_next ?_
  refine EvSs.cons ?_
  refine EvS.assign ?_ rfl
  refine' EvE.meth (by assumption) ?_ rfl rfl rfl
  refine' EvE.loc rfl rfl ?_ rfl rfl
  refine' ⟨_, _, ⟨_, _, _, rfl, .inl (.head _), rfl, (MP_statements _), (MF_statements _), (MI_statements _), (MK_statements _)⟩, ?_⟩
  refine EvAs.cons ?_ rfl
  refine EvE.int ?_
  refine EvAs.nil ?_
  refine EvL.wg (by dsimp only; omega) (hs) ?_
  refine EvStore rfl rfl ?_
  refine andThen_next ?_
  refine EvSs.cons ?_
  refine EvS.expr ?_ rfl rfl
  refine' EvE.meth (by assumption) ?_ rfl rfl rfl
  refine' EvE.loc rfl rfl ?_ rfl rfl
  refine' ⟨_, _, ⟨_, _, _, rfl, .inl (.head _), rfl, (MP_need _), (MF_need _), (MI_need _), (MK_need _)⟩, ?_⟩
  refine EvAs.cons ?_ rfl
  refine EvE.str ?_
  refine EvAs.cons ?_ rfl
  refine EvE.str ?_
  refine EvAs.nil ?_
  refine EvL.wg (by dsimp only; omega) (sp_need W 0 _ _ hz h5) ?_
  refine none_ok ?_
  refine andThen_next ?_
  refine EvSs.cons ?_
  refine EvS.ret ?_
  refine EvE.tuple ?_
  refine EvAs.cons ?_ rfl
  refine' EvE.loc rfl rfl ?_ rfl rfl
  refine EvAs.cons ?_ rfl
  refine' EvE.loc rfl rfl ?_ rfl rfl
  refine EvAs.nil ?_
  refine tup_ok (by walk_at "side") ?_
  refine andThen_ret ?_
  refine fnEnd_ret ?_
  exact ⟨rfl, rfl⟩
end

/-! E9 -/
section
variable {hT : Heap} {w : World} {x dx : Addr} {toks : List AV} {i i' : Nat} {p p' : Int} {kd : Str} {v : AV} {j j' j'' : Nat} {r : List AV} {c : Cx} {ν : Loc} {μ : Store}
theorem PR_mk (P : Params) : makesIn (KK P) 467 = true := by kernel_rfl
theorem PR_in (P : Params) : findIn (KK P) (.ref 467) "__init__" = some (some (.ref 370)) := by kernel_rfl
theorem PR_ty (P : Params) : typeIn (KK P) (.ref 370) = some (.type "function") := by kernel_rfl
theorem sp_row_init (W : Wd hT (KK w.params)) (n : Nat) : Spec hT PG w (n + 1) (.ref 281) [.ref x, .lst toks] [(x, .inst 467 dx [])] (Gives .none [(x, .inst 467 dx [(Str.ofString "tokens", .lst toks), (Str.ofString "at", .int 0)])]) := by
  refine Spec.fn W (L_TokenRow__init _) (C_TokenRow__init _) (fun s g vs _ _ hv => binds_of (qual := "") [Str.ofString "self", Str.ofString "tokens"] rfl (by decide) (by decide +kernel) (fun vs h => by obtain ⟨a, b, rfl⟩ := len2 h; rfl) s g vs hv) (by decide +kernel) rfl rfl rfl (fun Ar L' hr => ?_)
  refine EvSs.cons ?_
  refine' EvS.setAttr (by assumption) ?_ rfl
  refine' EvE.loc rfl rfl ?_ rfl rfl
  refine' EvE.loc rfl rfl ?_ rfl rfl
  refine' ⟨_, _, _, _, [], _, rfl, rfl, Nat.le_of_ble_eq_true rfl, SA _, PO _, (AT_tokens _), HD _, ?_⟩; dsimp only [List.nil_append]
  refine andThen_next ?_
  refine EvSs.cons ?_
  refine' EvS.setAttr (by assumption) ?_ rfl
  refine EvE.int ?_
  refine' EvE.loc rfl rfl ?_ rfl rfl
  refine' ⟨_, _, _, _, [], _, rfl, rfl, Nat.le_of_ble_eq_true rfl, SA _, PO _, (AT_at _), HD _, ?_⟩; dsimp only [List.nil_append]
  refine andThen_next ?_
  refine EvSs.nil ?_
  refine fnEnd_next ?_
  exact ⟨rfl, rfl⟩
theorem sp_init (W : Wd hT (KK w.params)) (n : Nat) : Spec hT PG w (n + 2) (.ref 370) [.ref x, .lst toks, .int 12] [(x, .inst 467 dx [])] (Gives .none (rs x dx toks 0 0)) := by
  refine Spec.fn W (L_ConditionReader__init _) (C_ConditionReader__init _) (fun s g vs _ _ hv => binds_of (qual := "") [Str.ofString "self", Str.ofString "tokens", Str.ofString "most_deep"] rfl (by decide) (by decide +kernel) (fun vs h => by obtain ⟨a, b, c, rfl⟩ := len3 h; rfl) s g vs hv) (by decide +kernel) rfl rfl rfl (fun A L' hr => ?_)
  refine EvSs.cons ?_
  refine EvS.expr ?_ rfl rfl
  refine EvE.clsMeth W (G_TokenRow _) (TR_ga _) (TR_rd _) (TR_in _) (TR_kp _) ?_ rfl rfl rfl rfl rfl rfl rfl
  refine EvAs.cons ?_ rfl
  refine' EvE.loc rfl rfl ?_ rfl rfl
  refine EvAs.cons ?_ rfl
  refine' EvE.loc rfl rfl ?_ rfl rfl
  refine EvAs.nil ?_
  refine EvL.wg (by dsimp only; omega) (sp_row_init W 0) ?_
  refine none_ok ?_
  refine andThen_next ?_
  refine EvSs.cons ?_
  refine' EvS.setAttr (by assumption) ?_ rfl
  refine' EvE.loc rfl rfl ?_ rfl rfl
  refine' EvE.loc rfl rfl ?_ rfl rfl
  refine' ⟨_, _, _, _, [], _, rfl, rfl, Nat.le_of_ble_eq_true rfl, SA _, PO _, (AT_most_deep _), HD _, ?_⟩; dsimp only [List.nil_append]
  refine andThen_next ?_
  refine EvSs.cons ?_
  refine' EvS.setAttr (by assumption) ?_ rfl
  refine EvE.int ?_
  refine' EvE.loc rfl rfl ?_ rfl rfl
  refine' ⟨_, _, _, _, [], _, rfl, rfl, Nat.le_of_ble_eq_true rfl, SA _, PO _, (AT_parts _), HD _, ?_⟩; dsimp only [List.nil_append]
  refine andThen_next ?_
  refine EvSs.nil ?_
  refine fnEnd_next ?_
  exact ⟨rfl, rfl⟩
theorem sp_make (W : Wd hT (KK w.params)) (n : Nat) : Spec hT PG w (n + 3) (.ref 467) [.lst toks, .int 12] [] fun d μ' => ∃ x dx, d = .ref x ∧ μ' = rs x dx toks 0 0 := by
  have := Spec.make (n := n + 2) (P := fun fs => fs = rdr toks 0 0) W (PR_mk _) (PR_in _) (PR_ty _) (fun x dx => (sp_init (x := x) (dx := dx) (toks := toks) W n).mono fun d μ' q => by obtain ⟨rfl, rfl⟩ := q; exact ⟨rfl, _, rfl, rfl⟩)
  exact this.mono fun d μ' q => by obtain ⟨x, dx, fs, rfl, rfl, rfl⟩ := q; exact ⟨x, dx, rfl, rfl⟩
noncomputable abbrev tm (t : Str × AV) : AV := .tup [.str t.1, t.2]
inductive Chain (hT : Heap) (w : World) (toks : List AV) : Nat → List (Str × AV) → Prop
  | nil {i j : Nat} {r : List AV} : toks.drop i = tok (Str.ofString "end") (.str (Str.ofString "")) j :: r → Chain hT w toks i []
  | cons {i i' j : Nat} {r : List AV} {nm : Str} {S : AV} {ts : List (Str × AV)} : toks.drop i = wd "term" j :: r → (∀ x dx p (known : List Str), nm ∉ known → known.all (fun x => (AV.str x).ok 0) = true → Spec hT PG w 11 (.ref 459) [.ref x, .lst (known.map .str)] (rs x dx toks (i + 1) p) (Gives (.tup [.str nm, S]) (rs x dx toks i' 1))) →
      Chain hT w toks i' ts → Chain hT w toks i ((nm, S) :: ts)
theorem sp_policy (W : Wd hT (KK w.params)) (n : Nat) (ts : List (Str × AV)) (hz : toks.length ≤ 1000) (hc : Chain hT w toks 0 ts) (hn : (ts.map (·.1)).Nodup) (hlen : ts.length ≤ 100) (hok : (ts.map (·.1)).all (fun x => (AV.str x).ok 0) = true) :
    Spec hT PG w (n + 12) (.ref 464) [.ref x] (rs x dx toks 0 0) fun d _ => d = .tup [.tup (ts.map tm), .tup [.str (Str.ofString "reject")]] := by
  refine Spec.fn W (L_PolicyReader_policy _) (C_PolicyReader_policy _) (fun s g vs _ _ hv => binds_of (qual := "") [Str.ofString "self"] rfl (by decide) (by decide +kernel) (fun vs h => by obtain ⟨a, rfl⟩ := len1 h; rfl) s g vs hv) (by decide +kernel) rfl rfl rfl (fun Ar L' hr => ?_)
  refine EvSs.cons ?_
  refine EvS.assign ?_ rfl
  refine EvE.list ?_
  refine EvAs.nil ?_
  refine tup_ok (by walk_at "side") ?_
  intro a
  refine EvStore rfl rfl ?_
  refine andThen_next ?_
  refine EvSs.cons ?_
  refine EvS.whileI (fun n ν μ => ∃ acc rest i p, n = rest.length ∧ Chain hT w toks i rest ∧ acc ++ rest = ts ∧ ν (Str.ofString "self") = some (.ref x) ∧ ν (Str.ofString "terms") = some (.ref a) ∧ μ = (a, .list (acc.map tm)) :: rs x dx toks i p) ts.length ⟨[], ts, 0, 0, rfl, hc, rfl, rfl, rfl, rfl⟩ ?_
  rintro n ν μ ⟨acc, rest, i, p, rfl, hch, he, h1, h2, rfl⟩
  cases hch with
  | nil h =>
    refine EvT.plain ?_ rfl
    refine' EvE.meth (by assumption) ?_ rfl rfl rfl
    refine' EvE.loc rfl (by assumption) ?_ rfl rfl
    refine' ⟨_, _, ⟨_, _, _, rfl, .inl (.tail _ (.head _)), rfl, (MP_skip _), (MF_skip _), (MI_skip _), (MK_skip _)⟩, ?_⟩
    refine EvAs.cons ?_ rfl
    refine EvE.str ?_
    refine EvAs.cons ?_ rfl
    refine EvE.str ?_
    refine EvAs.nil ?_
    refine EvL.tg (by dsimp only; omega) (sp_skipF W 0 _ _ hz h (by first | exact .inr ⟨_, rfl⟩ | exact .inl (by decide +kernel)) (by decide +kernel)) ?_
    refine Ev1.truthB ?_
    refine brF (by walk_at "cond") ?_
    refine andThen_next ?_
    refine EvSs.cons ?_
    refine EvS.assign ?_ rfl
    refine EvE.str ?_
    refine EvStore rfl rfl ?_
    refine andThen_next ?_
    refine EvSs.cons ?_
    refine EvS.iff ?_
    refine EvT.plain ?_ rfl
    refine' EvE.meth (by assumption) ?_ rfl rfl rfl
    refine' EvE.loc rfl (by assumption) ?_ rfl rfl
    refine' ⟨_, _, ⟨_, _, _, rfl, .inl (.tail _ (.head _)), rfl, (MP_skip _), (MF_skip _), (MI_skip _), (MK_skip _)⟩, ?_⟩
    refine EvAs.cons ?_ rfl
    refine EvE.str ?_
    refine EvAs.cons ?_ rfl
    refine EvE.str ?_
    refine EvAs.nil ?_
    refine EvL.tg (by dsimp only; omega) (sp_skipF W 0 _ _ hz h (by first | exact .inr ⟨_, rfl⟩ | exact .inl (by decide +kernel)) (by decide +kernel)) ?_
    refine Ev1.truthB ?_
    refine brF (by walk_at "cond") ?_
    refine EvSs.nil ?_
    refine andThen_next ?_
    refine EvSs.cons ?_
    refine EvS.iff ?_
    refine EvT.cmp ?_ rfl
    refine' EvE.meth0 (by assumption) ?_ rfl
    refine' EvE.loc rfl (by assumption) ?_ rfl rfl
    refine' ⟨_, _, ⟨_, _, _, rfl, .inl (.tail _ (.head _)), rfl, (MP_kind _), (MF_kind _), (MI_kind _), (MK_kind _)⟩, ?_⟩
    refine EvL.tg (by dsimp only; omega) (sp_kind W 0 hz h) ?_
    have hacc : acc.length ≤ 100 := by rw [List.append_nil] at he; rw [he]; exact hlen
    refine EvE.str ?_
    refine Ev2.neS ?_
    refine Ev1.truthB ?_
    refine brF (by walk_at "cond") ?_
    refine EvSs.nil ?_
    refine andThen_next ?_
    refine EvSs.cons ?_
    refine EvS.ret ?_
    refine EvE.tuple ?_
    refine EvAs.cons ?_ rfl
    refine' EvE.callT (by assumption) (B_tuple _) (BB_tuple) (by decide) ?_ rfl rfl rfl rfl rfl rfl rfl
    refine EvAs.cons ?_ rfl
    refine' EvE.loc rfl (by assumption) ?_ rfl rfl
    refine EvAs.nil ?_
    refine' EvL.tupC (.inl (.head _)) (by walk_at "side") ?_
    refine EvAs.cons ?_ rfl
    refine EvE.tuple ?_
    refine EvAs.cons ?_ rfl
    refine' EvE.loc rfl rfl ?_ rfl rfl
    refine EvAs.nil ?_
    refine tup_ok (by walk_at "side") ?_
    refine EvAs.nil ?_
    refine tup_ok (by walk_at "side") ?_
    refine andThen_ret ?_
    refine fnEnd_ret ?_
    rw [← he, List.append_nil]
  | cons h hs hch =>
    rename_i i' j r nm S ts'
    refine EvT.plain ?_ rfl
    refine' EvE.meth (by assumption) ?_ rfl rfl rfl
    refine' EvE.loc rfl (by assumption) ?_ rfl rfl
    refine' ⟨_, _, ⟨_, _, _, rfl, .inl (.tail _ (.head _)), rfl, (MP_skip _), (MF_skip _), (MI_skip _), (MK_skip _)⟩, ?_⟩
    refine EvAs.cons ?_ rfl
    refine EvE.str ?_
    refine EvAs.cons ?_ rfl
    refine EvE.str ?_
    refine EvAs.nil ?_
    refine EvL.tg (by dsimp only; omega) (sp_skipT W 0 _ _ hz h) ?_
    refine Ev1.truthB ?_
    refine brT (by walk_at "cond") ?_
    refine ⟨_, rfl, ?_⟩
    refine EvSs.cons ?_
    refine EvS.expr ?_ rfl rfl
    refine' EvE.append ?_ rfl rfl
    refine' EvE.loc rfl (by assumption) ?_ rfl rfl
    refine' app_ok (.head _) ?_
    refine' EvE.meth (by assumption) ?_ rfl rfl rfl
    refine' EvE.loc rfl (by assumption) ?_ rfl rfl
    refine' ⟨_, _, ⟨_, _, _, rfl, .inl (.tail _ (.head _)), rfl, (MP_term _), (MF_term _), (MI_term _), (MK_term _)⟩, ?_⟩
    refine EvAs.cons ?_ rfl
    refine EvE.comp (cl := []) (EvItC.cell ?_) rfl (fun _ => rfl) (by decide +kernel) rfl (by decide +kernel)
    refine' EvE.loc rfl (by assumption) ?_ rfl rfl
    refine ⟨a, acc.map tm, rfl, .inl (.head _), ?_, ?_⟩
    · rw [List.length_map]; have := congrArg List.length he; rw [List.length_append] at this; omega
    intro C D
    refine CompL.inv (fun ds ν l => ∃ done rest, ds = rest.map tm ∧ done ++ rest = acc ∧ l = (done.map (·.1)).map AV.str) ?_ ?_ _ _ _ ⟨[], acc, rfl, rfl, rfl⟩
    · rintro d ds ν l ⟨done, rest, hd, hda, rfl⟩
      cases rest with
      | nil => cases hd
      | cons t rest =>
      cases hd
      refine Ev1.assignTup rfl rfl ?_
      refine EvA.cons ?_ rfl
      refine Ev1.assignN ?_
      refine EvStore rfl rfl ?_
      refine EvA.cons ?_ rfl
      refine Ev1.assignN ?_
      refine EvStore rfl rfl ?_
      refine EvA.nil ?_
      refine sto_ok ?_
      refine EvIfs.nil ?_
      refine sto_ok ?_
      refine brT (by walk_at "cond") ?_
      refine' EvE.loc rfl rfl ?_ rfl rfl
      refine sto_ok ?_
      exact ⟨done ++ [t], rest, rfl, by rw [← hda]; simp, by simp⟩
    · rintro ν l ⟨done, rest, hd, hda, rfl⟩
      cases rest with
      | cons t rest => cases hd
      | nil =>
      rw [List.append_nil] at hda
      subst hda
      have hacc : done.length ≤ 100 := by have := congrArg List.length he; rw [List.length_append] at this; omega
      have hnd : nm ∉ done.map (·.1) := by
        rw [← he, List.map_append, List.nodup_append] at hn
        intro hm
        exact hn.2.2 nm hm nm (by simp) rfl
      have hkn : (done.map (·.1)).all (fun x => (AV.str x).ok 0) = true := by
        rw [← he, List.map_append, List.all_append, Bool.and_eq_true] at hok
        exact hok.1
      refine EvAs.nil ?_
      refine EvL.tg (by dsimp only; omega) (hs x dx p (done.map (·.1)) hnd hkn) ?_
      refine ⟨[], _, _, rfl, (by walk_at "side"), ?_⟩; dsimp only [List.nil_append, List.cons_append]
      refine none_ok ?_
      refine andThen_next ?_
      refine EvSs.nil ?_
      refine ⟨done ++ [(nm, S)], ts', i', 1, rfl, hch, by rw [← he]; simp, h1, h2, ?_⟩
      rw [List.map_append]; rfl
end

/-! E10 -/
section
variable {hT : Heap} {w : World} {c : Cx} {ν : Loc} {μ : Store}
theorem L470 (P : Params) : (KK P).lookup 470 = some ⟨.type "tuple", none, .seq #[.int 12 677] 0, #[]⟩ := by kernel_rfl
theorem sp_read_policy (W : Wd hT (KK w.params)) (n : Nat) (x : Str) (f : Nat) (l : List AV) (ts : List (Str × AV)) (hx : x.length ≤ 1000) (hl : l.length ≤ 900) (hlex : lexZ f x.cps.toList 0 = some l)
    (hc : Chain hT w (l ++ [tok (Str.ofString "end") (.str (Str.ofString "")) x.length]) 0 ts) (hn : (ts.map (·.1)).Nodup) (hlen : ts.length ≤ 100) (hok : (ts.map (·.1)).all (fun x => (AV.str x).ok 0) = true) :
    Spec hT PG w (n + 13) (.ref 477) [.str x] [] (Gives (.tup [.tup (ts.map tm), .tup [.str (Str.ofString "reject")]]) []) := by
  have hz : (l ++ [tok (Str.ofString "end") (.str (Str.ofString "")) x.length]).length ≤ 1000 := by rw [List.length_append, List.length_singleton]; omega
  refine Spec.drop ?_
  refine Spec.fn (ν₀ := locs ([Str.ofString "text", Str.ofString "most_deep"].zip [.str x, .int 12])) W (L_read_policy _) (C_read_policy _) (fun s g vs X hg hv => ?_) (by decide +kernel) rfl rfl rfl (fun A L' hr => ?_)
  · obtain ⟨a, rfl⟩ := len1 hv.length
    cases hv with
    | cons rd _ =>
    refine ⟨[(Str.ofString "text", a), (Str.ofString "most_deep", .int 12 677)], binds_K X rfl (L470 _) rfl rfl rfl, fun y hy => ?_, fun y d e => ?_⟩
    · have : ([(Str.ofString "text"), (Str.ofString "most_deep")].all fun x => decide ((pscope s_read_policy).names.lookup x = some .local)) = true := by decide +kernel
      exact of_decide_eq_true (List.all_eq_true.mp this y.1 (by rcases List.mem_cons.mp hy with rfl | hy; exact .head _; rcases List.mem_cons.mp hy with rfl | hy; exact .tail _ (.head _); exact nomatch hy))
    · obtain ⟨v, h1, h2⟩ := zip_rel [Str.ofString "text", Str.ofString "most_deep"] (Rds.cons rd (Rds.cons (.int 12 677) .nil)) y d e
      exact ⟨v, (lookup_rev [(Str.ofString "text", a), (Str.ofString "most_deep", .int 12 677)] (show ([Str.ofString "text", Str.ofString "most_deep"] : List Str).Nodup by decide)).trans h1, h2⟩
  refine EvSs.cons ?_
  refine EvS.ret ?_
  refine' EvE.meth0 (by assumption) ?_ rfl
  refine EvE.callK W (G_PolicyReader _) (KI_PolicyReader _) ?_ rfl rfl rfl rfl rfl rfl
  refine EvAs.cons ?_ rfl
  refine' EvE.callK (by assumption) (G_tokens_of _) (KI_tokens_of _) ?_ rfl rfl rfl rfl rfl rfl
  refine EvAs.cons ?_ rfl
  refine' EvE.loc rfl rfl ?_ rfl rfl
  refine EvAs.nil ?_
  refine EvL.gives (by dsimp only; omega) (sp_tokens_of W 0 x f l hx (by omega) hlex) ?_
  refine EvAs.cons ?_ rfl
  refine' EvE.loc rfl rfl ?_ rfl rfl
  refine EvAs.nil ?_
  refine EvL.whole (by dsimp only; omega) (sp_make W 0) fun d μ' q => ?_
  obtain ⟨x', dx, rfl, rfl⟩ := q
  refine' ⟨_, _, ⟨_, _, _, rfl, .inl (.head _), rfl, (MP_policy _), (MF_policy _), (MI_policy _), (MK_policy _)⟩, ?_⟩
  refine EvL.whole (by dsimp only; omega) (sp_policy W 0 ts hz hc hn hlen hok) fun d μ' q => ?_
  subst q
  refine andThen_ret ?_
  refine fnEnd_ret ?_
  exact ⟨[], List.nil_sublist _, rfl, rfl⟩
/-! conditions -/
noncomputable abbrev prC (A L le mo : Int) : AV := .tup [.str (Str.ofString "prefix"), .tup [.int A, .int L], .int le, .int mo]
noncomputable def prZ (A L le mo a l : Int) : Bool := coversZ A L a l && (decide (le ≤ l) && decide (l ≤ mo))
variable {a l : Int} {at' fa C D : AV} {b d : Bool}
theorem sp_c_prefix (W : Wd hT (KK w.params)) (n : Nat) (A L le mo : Int) (h0 : 0 ≤ L) (h1 : L ≤ 32) : Spec hT PG w (n + 4) (.ref 172) [prC A L le mo, .tup [.int a, .int l], at', fa] [] (Gives (.bool (prZ A L le mo a l)) []) := by
  refine Spec.fn W (L_condition_holds _) (C_condition_holds _) (fun s g vs _ _ hv => binds_of (qual := "") [Str.ofString "asked", Str.ofString "prefix", Str.ofString "attrs", Str.ofString "facts"] rfl (by decide) (by decide +kernel) (fun vs h => by obtain ⟨a, b, c, d, rfl⟩ := len4 h; rfl) s g vs hv) (by decide +kernel) rfl rfl rfl (fun Ar L' hr => ?_)
  refine EvSs.cons ?_
  refine EvS.assign ?_ rfl
  refine EvE.sub ?_
  refine' EvE.loc rfl rfl ?_ rfl rfl
  refine EvE.int ?_
  refine' Ev2.subTup rfl rfl ?_ (fun _ _ => rfl) (by decide) (by decide)
  refine EvStore rfl rfl ?_
  refine andThen_next ?_
  refine EvSs.cons ?_
  refine EvS.iff ?_
  refine EvT.cmp ?_ rfl
  refine' EvE.loc rfl rfl ?_ rfl rfl
  refine EvE.str ?_
  refine Ev2.eqS ?_
  refine Ev1.truthB ?_
  refine brF (by walk_at "cond") ?_
  refine EvSs.nil ?_
  refine andThen_next ?_
  refine EvSs.cons ?_
  refine EvS.iff ?_
  refine EvT.cmp ?_ rfl
  refine' EvE.loc rfl rfl ?_ rfl rfl
  refine EvE.str ?_
  refine Ev2.eqS ?_
  refine Ev1.truthB ?_
  refine brF (by walk_at "cond") ?_
  refine EvSs.nil ?_
  refine andThen_next ?_
  refine EvSs.cons ?_
  refine EvS.iff ?_
  refine EvT.cmp ?_ rfl
  refine' EvE.loc rfl rfl ?_ rfl rfl
  refine EvE.str ?_
  refine Ev2.eqS ?_
  refine Ev1.truthB ?_
  refine brF (by walk_at "cond") ?_
  refine EvSs.nil ?_
  refine andThen_next ?_
  refine EvSs.cons ?_
  refine EvS.iff ?_
  refine EvT.cmp ?_ rfl
  refine' EvE.loc rfl rfl ?_ rfl rfl
  refine EvE.str ?_
  refine Ev2.eqS ?_
  refine Ev1.truthB ?_
  refine brT (by walk_at "cond") ?_
  refine EvSs.cons ?_
  refine EvS.ret ?_
  refine EvE.and2 ?_
  refine' EvE.callK (by assumption) (G_covers _) (KI_covers _) ?_ rfl rfl rfl rfl rfl rfl
  refine EvAs.cons ?_ rfl
  refine EvE.sub ?_
  refine' EvE.loc rfl rfl ?_ rfl rfl
  refine EvE.int ?_
  refine' Ev2.subTup rfl rfl ?_ (fun _ _ => rfl) (by decide) (by decide)
  refine EvAs.cons ?_ rfl
  refine' EvE.loc rfl rfl ?_ rfl rfl
  refine EvAs.cons ?_ rfl
  refine' EvE.top (by assumption) (T_WIRE_BITS _) ?_ rfl rfl rfl rfl
  refine EvAs.nil ?_
  refine EvL.gives (by dsimp only; omega) (sp_covers W 0 A L a l h0 h1) ?_
  refine Ev1.truthB ?_
  refine ⟨fun hb => ?_, fun hb => ?_⟩
  · refine EvE.chain ?_ rfl
    refine EvE.sub ?_
    refine' EvE.loc rfl rfl ?_ rfl rfl
    refine EvE.int ?_
    refine' Ev2.subTup rfl rfl ?_ (fun _ _ => rfl) (by decide) (by decide)
    refine EvE.sub ?_
    refine' EvE.loc rfl rfl ?_ rfl rfl
    refine EvE.int ?_
    refine' Ev2.subTup rfl rfl ?_ (fun _ _ => rfl) (by decide) (by decide)
    refine Ev2.leI ?_
    refine Ev1.truthB ?_
    refine ⟨fun hb2 => ?_, fun hb2 => ?_⟩
    · refine EvE.sub ?_
      refine' EvE.loc rfl rfl ?_ rfl rfl
      refine EvE.int ?_
      refine' Ev2.subTup rfl rfl ?_ (fun _ _ => rfl) (by decide) (by decide)
      refine Ev2.leI ?_
      refine andThen_ret ?_
      refine andThen_ret ?_
      refine fnEnd_ret ?_
      exact ⟨by unfold prZ; rw [hb, hb2]; rfl, rfl⟩
    · refine andThen_ret ?_
      refine andThen_ret ?_
      refine fnEnd_ret ?_
      exact ⟨by unfold prZ; rw [hb, hb2]; rfl, rfl⟩
  · refine andThen_ret ?_
    refine andThen_ret ?_
    refine fnEnd_ret ?_
    exact ⟨by unfold prZ; rw [hb]; rfl, rfl⟩
theorem sp_c_not (W : Wd hT (KK w.params)) (n : Nat) (h : Spec hT PG w n (.ref 172) [C, .tup [.int a, .int l], at', fa] [] (Gives (.bool b) [])) : Spec hT PG w (n + 1) (.ref 172) [.tup [.str (Str.ofString "not"), C], .tup [.int a, .int l], at', fa] [] (Gives (.bool (!b)) []) := by
  refine Spec.fn W (L_condition_holds _) (C_condition_holds _) (fun s g vs _ _ hv => binds_of (qual := "") [Str.ofString "asked", Str.ofString "prefix", Str.ofString "attrs", Str.ofString "facts"] rfl (by decide) (by decide +kernel) (fun vs h => by obtain ⟨a, b, c, d, rfl⟩ := len4 h; rfl) s g vs hv) (by decide +kernel) rfl rfl rfl (fun Ar L' hr => ?_)
  refine EvSs.cons ?_
  refine EvS.assign ?_ rfl
  refine EvE.sub ?_
  refine' EvE.loc rfl rfl ?_ rfl rfl
  refine EvE.int ?_
  refine' Ev2.subTup rfl rfl ?_ (fun _ _ => rfl) (by decide) (by decide)
  refine EvStore rfl rfl ?_
  refine andThen_next ?_
  refine EvSs.cons ?_
  refine EvS.iff ?_
  refine EvT.cmp ?_ rfl
  refine' EvE.loc rfl rfl ?_ rfl rfl
  refine EvE.str ?_
  refine Ev2.eqS ?_
  refine Ev1.truthB ?_
  refine brF (by walk_at "cond") ?_
  refine EvSs.nil ?_
  refine andThen_next ?_
  refine EvSs.cons ?_
  refine EvS.iff ?_
  refine EvT.cmp ?_ rfl
  refine' EvE.loc rfl rfl ?_ rfl rfl
  refine EvE.str ?_
  refine Ev2.eqS ?_
  refine Ev1.truthB ?_
  refine brF (by walk_at "cond") ?_
  refine EvSs.nil ?_
  refine andThen_next ?_
  refine EvSs.cons ?_
  refine EvS.iff ?_
  refine EvT.cmp ?_ rfl
  refine' EvE.loc rfl rfl ?_ rfl rfl
  refine EvE.str ?_
  refine Ev2.eqS ?_
  refine Ev1.truthB ?_
  refine brT (by walk_at "cond") ?_
  refine EvSs.cons ?_
  refine EvS.ret ?_
  refine EvE.not ?_
  refine' EvE.callK (by assumption) (G_condition_holds _) (KI_condition_holds _) ?_ rfl rfl rfl rfl rfl rfl
  refine EvAs.cons ?_ rfl
  refine EvE.sub ?_
  refine' EvE.loc rfl rfl ?_ rfl rfl
  refine EvE.int ?_
  refine' Ev2.subTup rfl rfl ?_ (fun _ _ => rfl) (by decide) (by decide)
  refine EvAs.cons ?_ rfl
  refine' EvE.loc rfl rfl ?_ rfl rfl
  refine EvAs.cons ?_ rfl
  refine' EvE.loc rfl rfl ?_ rfl rfl
  refine EvAs.cons ?_ rfl
  refine' EvE.loc rfl rfl ?_ rfl rfl
  refine EvAs.nil ?_
  refine EvL.gives (by dsimp only; omega) h ?_
  refine Ev1.truthB ?_
  refine andThen_ret ?_
  refine andThen_ret ?_
  refine fnEnd_ret ?_
  exact ⟨rfl, rfl⟩
theorem sp_c_and (W : Wd hT (KK w.params)) (n : Nat) (h : Spec hT PG w n (.ref 172) [C, .tup [.int a, .int l], at', fa] [] (Gives (.bool b) [])) (h' : Spec hT PG w n (.ref 172) [D, .tup [.int a, .int l], at', fa] [] (Gives (.bool d) [])) :
    Spec hT PG w (n + 1) (.ref 172) [.tup [.str (Str.ofString "and"), C, D], .tup [.int a, .int l], at', fa] [] (Gives (.bool (b && d)) []) := by
  refine Spec.fn W (L_condition_holds _) (C_condition_holds _) (fun s g vs _ _ hv => binds_of (qual := "") [Str.ofString "asked", Str.ofString "prefix", Str.ofString "attrs", Str.ofString "facts"] rfl (by decide) (by decide +kernel) (fun vs h => by obtain ⟨a, b, c, d, rfl⟩ := len4 h; rfl) s g vs hv) (by decide +kernel) rfl rfl rfl (fun Ar L' hr => ?_)
  refine EvSs.cons ?_
  refine EvS.assign ?_ rfl
  refine EvE.sub ?_
  refine' EvE.loc rfl rfl ?_ rfl rfl
  refine EvE.int ?_
  refine' Ev2.subTup rfl rfl ?_ (fun _ _ => rfl) (by decide) (by decide)
  refine EvStore rfl rfl ?_
  refine andThen_next ?_
  refine EvSs.cons ?_
  refine EvS.iff ?_
  refine EvT.cmp ?_ rfl
  refine' EvE.loc rfl rfl ?_ rfl rfl
  refine EvE.str ?_
  refine Ev2.eqS ?_
  refine Ev1.truthB ?_
  refine brT (by walk_at "cond") ?_
  refine EvSs.cons ?_
  refine EvS.ret ?_
  refine EvE.and2 ?_
  refine' EvE.callK (by assumption) (G_condition_holds _) (KI_condition_holds _) ?_ rfl rfl rfl rfl rfl rfl
  refine EvAs.cons ?_ rfl
  refine EvE.sub ?_
  refine' EvE.loc rfl rfl ?_ rfl rfl
  refine EvE.int ?_
  refine' Ev2.subTup rfl rfl ?_ (fun _ _ => rfl) (by decide) (by decide)
  refine EvAs.cons ?_ rfl
  refine' EvE.loc rfl rfl ?_ rfl rfl
  refine EvAs.cons ?_ rfl
  refine' EvE.loc rfl rfl ?_ rfl rfl
  refine EvAs.cons ?_ rfl
  refine' EvE.loc rfl rfl ?_ rfl rfl
  refine EvAs.nil ?_
  refine EvL.gives (by dsimp only; omega) h ?_
  cases b
  · refine Ev1.truthB ?_
    refine brF (by walk_at "cond") ?_
    refine andThen_ret ?_
    refine andThen_ret ?_
    refine fnEnd_ret ?_
    exact ⟨rfl, rfl⟩
  · refine Ev1.truthB ?_
    refine brT (by walk_at "cond") ?_
    refine' EvE.callK (by assumption) (G_condition_holds _) (KI_condition_holds _) ?_ rfl rfl rfl rfl rfl rfl
    refine EvAs.cons ?_ rfl
    refine EvE.sub ?_
    refine' EvE.loc rfl rfl ?_ rfl rfl
    refine EvE.int ?_
    refine' Ev2.subTup rfl rfl ?_ (fun _ _ => rfl) (by decide) (by decide)
    refine EvAs.cons ?_ rfl
    refine' EvE.loc rfl rfl ?_ rfl rfl
    refine EvAs.cons ?_ rfl
    refine' EvE.loc rfl rfl ?_ rfl rfl
    refine EvAs.cons ?_ rfl
    refine' EvE.loc rfl rfl ?_ rfl rfl
    refine EvAs.nil ?_
    refine EvL.gives (by dsimp only; omega) h' ?_
    refine andThen_ret ?_
    refine andThen_ret ?_
    refine fnEnd_ret ?_
    exact ⟨by simp, rfl⟩
theorem sp_c_or (W : Wd hT (KK w.params)) (n : Nat) (h : Spec hT PG w n (.ref 172) [C, .tup [.int a, .int l], at', fa] [] (Gives (.bool b) [])) (h' : Spec hT PG w n (.ref 172) [D, .tup [.int a, .int l], at', fa] [] (Gives (.bool d) [])) :
    Spec hT PG w (n + 1) (.ref 172) [.tup [.str (Str.ofString "or"), C, D], .tup [.int a, .int l], at', fa] [] (Gives (.bool (b || d)) []) := by
  refine Spec.fn W (L_condition_holds _) (C_condition_holds _) (fun s g vs _ _ hv => binds_of (qual := "") [Str.ofString "asked", Str.ofString "prefix", Str.ofString "attrs", Str.ofString "facts"] rfl (by decide) (by decide +kernel) (fun vs h => by obtain ⟨a, b, c, d, rfl⟩ := len4 h; rfl) s g vs hv) (by decide +kernel) rfl rfl rfl (fun Ar L' hr => ?_)
  refine EvSs.cons ?_
  refine EvS.assign ?_ rfl
  refine EvE.sub ?_
  refine' EvE.loc rfl rfl ?_ rfl rfl
  refine EvE.int ?_
  refine' Ev2.subTup rfl rfl ?_ (fun _ _ => rfl) (by decide) (by decide)
  refine EvStore rfl rfl ?_
  refine andThen_next ?_
  refine EvSs.cons ?_
  refine EvS.iff ?_
  refine EvT.cmp ?_ rfl
  refine' EvE.loc rfl rfl ?_ rfl rfl
  refine EvE.str ?_
  refine Ev2.eqS ?_
  refine Ev1.truthB ?_
  refine brF (by walk_at "cond") ?_
  refine EvSs.nil ?_
  refine andThen_next ?_
  refine EvSs.cons ?_
  refine EvS.iff ?_
  refine EvT.cmp ?_ rfl
  refine' EvE.loc rfl rfl ?_ rfl rfl
  refine EvE.str ?_
  refine Ev2.eqS ?_
  refine Ev1.truthB ?_
  refine brT (by walk_at "cond") ?_
  refine EvSs.cons ?_
  refine EvS.ret ?_
  refine EvE.or2 ?_
  refine' EvE.callK (by assumption) (G_condition_holds _) (KI_condition_holds _) ?_ rfl rfl rfl rfl rfl rfl
  refine EvAs.cons ?_ rfl
  refine EvE.sub ?_
  refine' EvE.loc rfl rfl ?_ rfl rfl
  refine EvE.int ?_
  refine' Ev2.subTup rfl rfl ?_ (fun _ _ => rfl) (by decide) (by decide)
  refine EvAs.cons ?_ rfl
  refine' EvE.loc rfl rfl ?_ rfl rfl
  refine EvAs.cons ?_ rfl
  refine' EvE.loc rfl rfl ?_ rfl rfl
  refine EvAs.cons ?_ rfl
  refine' EvE.loc rfl rfl ?_ rfl rfl
  refine EvAs.nil ?_
  refine EvL.gives (by dsimp only; omega) h ?_
  cases b
  · refine Ev1.truthB ?_
    refine brF (by walk_at "cond") ?_
    refine' EvE.callK (by assumption) (G_condition_holds _) (KI_condition_holds _) ?_ rfl rfl rfl rfl rfl rfl
    refine EvAs.cons ?_ rfl
    refine EvE.sub ?_
    refine' EvE.loc rfl rfl ?_ rfl rfl
    refine EvE.int ?_
    refine' Ev2.subTup rfl rfl ?_ (fun _ _ => rfl) (by decide) (by decide)
    refine EvAs.cons ?_ rfl
    refine' EvE.loc rfl rfl ?_ rfl rfl
    refine EvAs.cons ?_ rfl
    refine' EvE.loc rfl rfl ?_ rfl rfl
    refine EvAs.cons ?_ rfl
    refine' EvE.loc rfl rfl ?_ rfl rfl
    refine EvAs.nil ?_
    refine EvL.gives (by dsimp only; omega) h' ?_
    refine andThen_ret ?_
    refine andThen_ret ?_
    refine fnEnd_ret ?_
    exact ⟨by simp, rfl⟩
  · refine Ev1.truthB ?_
    refine brT (by walk_at "cond") ?_
    refine andThen_ret ?_
    refine andThen_ret ?_
    refine fnEnd_ret ?_
    exact ⟨rfl, rfl⟩
end

/-! E11 -/
section
variable {hT : Heap} {w : World} {c : Cx} {ν : Loc} {μ : Store} {a l : Int} {at' fa C : AV} {b : Bool}
theorem E_look (P : Params) : ∃ es n, (KK P).lookup 151 = some ⟨.type "dict", none, .dict (List.toArray es) n, #[]⟩ ∧ KeysLit P es :=
  ⟨_, _, rfl, ⟨_, _, rfl, rfl⟩, ⟨_, _, rfl, rfl⟩, ⟨_, _, rfl, rfl⟩, trivial⟩
theorem E_acc (P : Params) : ∃ t, nsIn (KK P) 151 (Str.ofString "accept") = some (some (.int 1 t)) := ⟨_, rfl⟩
theorem E_rej (P : Params) : ∃ t, nsIn (KK P) 151 (Str.ofString "reject") = some (some (.int 2 t)) := ⟨_, rfl⟩
theorem sp_rs_nil (W : Wd hT (KK w.params)) (n : Nat) (pr : AV) : Spec hT PG w (n + 1) (.ref 194) [.tup [], pr, at', fa] [] (Gives (.tup [.int 0, at']) []) := by
  refine Spec.fn W (L_run_statements _) (C_run_statements _) (fun s g vs _ _ hv => binds_of (qual := "") [Str.ofString "statements", Str.ofString "prefix", Str.ofString "attrs", Str.ofString "facts"] rfl (by decide) (by decide +kernel) (fun vs h => by obtain ⟨a, b, c, d, rfl⟩ := len4 h; rfl) s g vs hv) (by decide +kernel) rfl rfl rfl (fun Ar L' hr => ?_)
  refine EvSs.cons ?_
  refine EvS.for ?_ (fun _ => rfl)
  refine EvIt.val ?_
  refine' EvE.loc rfl rfl ?_ rfl rfl
  refine tupIt_ok ?_
  refine ForL.nil' ?_
  refine andThen_next ?_
  refine EvSs.cons ?_
  refine EvS.ret ?_
  refine EvE.tuple ?_
  refine EvAs.cons ?_ rfl
  refine' EvE.top (by assumption) (T_ON _) ?_ rfl rfl rfl rfl
  refine EvAs.cons ?_ rfl
  refine' EvE.loc rfl rfl ?_ rfl rfl
  refine EvAs.nil ?_
  refine tup_ok (by walk_at "side") ?_
  refine andThen_ret ?_
  refine fnEnd_ret ?_
  exact ⟨rfl, rfl⟩
noncomputable def endZ (s : Str) : Int := if s = Str.ofString "accept" then 1 else 2
theorem sp_rs_end (W : Wd hT (KK w.params)) (n : Nat) (pr : AV) (s : Str) (hv : s = Str.ofString "accept" ∨ s = Str.ofString "reject") : Spec hT PG w (n + 1) (.ref 194) [.tup [.tup [.str s]], pr, at', fa] [] (Gives (.tup [.int (endZ s), at']) []) := by
  obtain ⟨es, m, hl, hk⟩ := E_look w.params
  obtain ⟨t1, h1⟩ := E_acc w.params
  obtain ⟨t2, h2⟩ := E_rej w.params
  rcases hv with rfl | rfl
  ·
    refine Spec.fn W (L_run_statements _) (C_run_statements _) (fun s g vs _ _ hv => binds_of (qual := "") [Str.ofString "statements", Str.ofString "prefix", Str.ofString "attrs", Str.ofString "facts"] rfl (by decide) (by decide +kernel) (fun vs h => by obtain ⟨a, b, c, d, rfl⟩ := len4 h; rfl) s g vs hv) (by decide +kernel) rfl rfl rfl (fun Ar L' hr => ?_)
    refine EvSs.cons ?_
    refine EvS.for ?_ (fun _ => rfl)
    refine EvIt.val ?_
    refine' EvE.loc rfl rfl ?_ rfl rfl
    refine tupIt_ok ?_
    refine ForL.cons' ?_
    refine Ev1.assignN ?_
    refine EvStore rfl rfl ?_
    refine EvSs.cons ?_
    refine EvS.assign ?_ rfl
    refine' EvE.top (by assumption) (T_ON _) ?_ rfl rfl rfl rfl
    refine EvStore rfl rfl ?_
    refine andThen_next ?_
    refine EvSs.cons ?_
    refine EvS.iff ?_
    refine EvT.cmp ?_ rfl
    refine EvE.sub ?_
    refine' EvE.loc rfl rfl ?_ rfl rfl
    refine EvE.int ?_
    refine' Ev2.subTup rfl rfl ?_ (fun _ _ => rfl) (by decide) (by decide)
    refine EvE.str ?_
    refine Ev2.eqS ?_
    refine Ev1.truthB ?_
    refine brF (by walk_at "cond") ?_
    refine EvSs.cons ?_
    refine EvS.iff ?_
    refine EvT.cmp ?_ rfl
    refine EvE.sub ?_
    refine' EvE.loc rfl rfl ?_ rfl rfl
    refine EvE.int ?_
    refine' Ev2.subTup rfl rfl ?_ (fun _ _ => rfl) (by decide) (by decide)
    refine' EvE.ends (by assumption) ?_ rfl rfl rfl
    refine Ev2.inDict W hl hk h1 rfl ?_
    refine Ev1.truthB ?_
    refine brT (by walk_at "cond") ?_
    refine EvSs.cons ?_
    refine EvS.assign ?_ rfl
    refine EvE.sub ?_
    refine' EvE.ends (by assumption) ?_ rfl rfl rfl
    refine EvE.sub ?_
    refine' EvE.loc rfl rfl ?_ rfl rfl
    refine EvE.int ?_
    refine' Ev2.subTup rfl rfl ?_ (fun _ _ => rfl) (by decide) (by decide)
    refine Ev2.subDict W hl hk h1 rfl ?_ (fun _ _ => rfl)
    refine EvStore rfl rfl ?_
    refine andThen_next ?_
    refine EvSs.nil ?_
    refine andThen_next ?_
    refine EvSs.nil ?_
    refine andThen_next ?_
    refine EvSs.cons ?_
    refine EvS.iff ?_
    refine EvT.cmp ?_ rfl
    refine' EvE.loc rfl rfl ?_ rfl rfl
    refine' EvE.top (by assumption) (T_ON _) ?_ rfl rfl rfl rfl
    refine Ev2.neI ?_
    refine Ev1.truthB ?_
    refine brT (by walk_at "cond") ?_
    refine EvSs.cons ?_
    refine EvS.ret ?_
    refine EvE.tuple ?_
    refine EvAs.cons ?_ rfl
    refine' EvE.loc rfl rfl ?_ rfl rfl
    refine EvAs.cons ?_ rfl
    refine' EvE.loc rfl rfl ?_ rfl rfl
    refine EvAs.nil ?_
    refine tup_ok (by walk_at "side") ?_
    refine andThen_ret ?_
    refine andThen_ret ?_
    refine andThen_ret ?_
    refine fnEnd_ret ?_
    exact ⟨rfl, rfl⟩
  ·
    refine Spec.fn W (L_run_statements _) (C_run_statements _) (fun s g vs _ _ hv => binds_of (qual := "") [Str.ofString "statements", Str.ofString "prefix", Str.ofString "attrs", Str.ofString "facts"] rfl (by decide) (by decide +kernel) (fun vs h => by obtain ⟨a, b, c, d, rfl⟩ := len4 h; rfl) s g vs hv) (by decide +kernel) rfl rfl rfl (fun Ar L' hr => ?_)
    refine EvSs.cons ?_
    refine EvS.for ?_ (fun _ => rfl)
    refine EvIt.val ?_
    refine' EvE.loc rfl rfl ?_ rfl rfl
    refine tupIt_ok ?_
    refine ForL.cons' ?_
    refine Ev1.assignN ?_
    refine EvStore rfl rfl ?_
    refine EvSs.cons ?_
    refine EvS.assign ?_ rfl
    refine' EvE.top (by assumption) (T_ON _) ?_ rfl rfl rfl rfl
    refine EvStore rfl rfl ?_
    refine andThen_next ?_
    refine EvSs.cons ?_
    refine EvS.iff ?_
    refine EvT.cmp ?_ rfl
    refine EvE.sub ?_
    refine' EvE.loc rfl rfl ?_ rfl rfl
    refine EvE.int ?_
    refine' Ev2.subTup rfl rfl ?_ (fun _ _ => rfl) (by decide) (by decide)
    refine EvE.str ?_
    refine Ev2.eqS ?_
    refine Ev1.truthB ?_
    refine brF (by walk_at "cond") ?_
    refine EvSs.cons ?_
    refine EvS.iff ?_
    refine EvT.cmp ?_ rfl
    refine EvE.sub ?_
    refine' EvE.loc rfl rfl ?_ rfl rfl
    refine EvE.int ?_
    refine' Ev2.subTup rfl rfl ?_ (fun _ _ => rfl) (by decide) (by decide)
    refine' EvE.ends (by assumption) ?_ rfl rfl rfl
    refine Ev2.inDict W hl hk h2 rfl ?_
    refine Ev1.truthB ?_
    refine brT (by walk_at "cond") ?_
    refine EvSs.cons ?_
    refine EvS.assign ?_ rfl
    refine EvE.sub ?_
    refine' EvE.ends (by assumption) ?_ rfl rfl rfl
    refine EvE.sub ?_
    refine' EvE.loc rfl rfl ?_ rfl rfl
    refine EvE.int ?_
    refine' Ev2.subTup rfl rfl ?_ (fun _ _ => rfl) (by decide) (by decide)
    refine Ev2.subDict W hl hk h2 rfl ?_ (fun _ _ => rfl)
    refine EvStore rfl rfl ?_
    refine andThen_next ?_
    refine EvSs.nil ?_
    refine andThen_next ?_
    refine EvSs.nil ?_
    refine andThen_next ?_
    refine EvSs.cons ?_
    refine EvS.iff ?_
    refine EvT.cmp ?_ rfl
    refine' EvE.loc rfl rfl ?_ rfl rfl
    refine' EvE.top (by assumption) (T_ON _) ?_ rfl rfl rfl rfl
    refine Ev2.neI ?_
    refine Ev1.truthB ?_
    refine brT (by walk_at "cond") ?_
    refine EvSs.cons ?_
    refine EvS.ret ?_
    refine EvE.tuple ?_
    refine EvAs.cons ?_ rfl
    refine' EvE.loc rfl rfl ?_ rfl rfl
    refine EvAs.cons ?_ rfl
    refine' EvE.loc rfl rfl ?_ rfl rfl
    refine EvAs.nil ?_
    refine tup_ok (by walk_at "side") ?_
    refine andThen_ret ?_
    refine andThen_ret ?_
    refine andThen_ret ?_
    refine fnEnd_ret ?_
    exact ⟨rfl, rfl⟩
theorem sp_rs_if (W : Wd hT (KK w.params)) (n : Nat) (pr : AV) (s : Str) (hv : s = Str.ofString "accept" ∨ s = Str.ofString "reject") (h : Spec hT PG w n (.ref 172) [C, pr, at', fa] [] (Gives (.bool b) [])) :
    Spec hT PG w (n + 2) (.ref 194) [.tup [ifSt C s], pr, at', fa] [] (Gives (.tup [.int (if b then endZ s else 0), at']) []) := by
  have he : endZ s ≠ 0 := by unfold endZ; split <;> decide
  refine Spec.fn W (L_run_statements _) (C_run_statements _) (fun s g vs _ _ hv => binds_of (qual := "") [Str.ofString "statements", Str.ofString "prefix", Str.ofString "attrs", Str.ofString "facts"] rfl (by decide) (by decide +kernel) (fun vs h => by obtain ⟨a, b, c, d, rfl⟩ := len4 h; rfl) s g vs hv) (by decide +kernel) rfl rfl rfl (fun Ar L' hr => ?_)
  refine EvSs.cons ?_
  refine EvS.for ?_ (fun _ => rfl)
  refine EvIt.val ?_
  refine' EvE.loc rfl rfl ?_ rfl rfl
  refine tupIt_ok ?_
  refine ForL.cons' ?_
  refine Ev1.assignN ?_
  refine EvStore rfl rfl ?_
  refine EvSs.cons ?_
  refine EvS.assign ?_ rfl
  refine' EvE.top (by assumption) (T_ON _) ?_ rfl rfl rfl rfl
  refine EvStore rfl rfl ?_
  refine andThen_next ?_
  refine EvSs.cons ?_
  refine EvS.iff ?_
  refine EvT.cmp ?_ rfl
  refine EvE.sub ?_
  refine' EvE.loc rfl rfl ?_ rfl rfl
  refine EvE.int ?_
  refine' Ev2.subTup rfl rfl ?_ (fun _ _ => rfl) (by decide) (by decide)
  refine EvE.str ?_
  refine Ev2.eqS ?_
  refine Ev1.truthB ?_
  refine brT (by walk_at "cond") ?_
  refine EvSs.cons ?_
  refine EvS.assign ?_ rfl
  refine' EvE.callK (by assumption) (G_condition_holds _) (KI_condition_holds _) ?_ rfl rfl rfl rfl rfl rfl
  refine EvAs.cons ?_ rfl
  refine EvE.sub ?_
  refine' EvE.loc rfl rfl ?_ rfl rfl
  refine EvE.int ?_
  refine' Ev2.subTup rfl rfl ?_ (fun _ _ => rfl) (by decide) (by decide)
  refine EvAs.cons ?_ rfl
  refine' EvE.loc rfl rfl ?_ rfl rfl
  refine EvAs.cons ?_ rfl
  refine' EvE.loc rfl rfl ?_ rfl rfl
  refine EvAs.cons ?_ rfl
  refine' EvE.loc rfl rfl ?_ rfl rfl
  refine EvAs.nil ?_
  refine EvL.gives (by dsimp only; omega) h ?_
  cases b
  · refine EvStore rfl rfl ?_
    refine andThen_next ?_
    refine EvSs.cons ?_
    refine EvS.assignT ?_ rfl rfl
    refine' EvE.callK (by assumption) (G_run_statements _) (KI_run_statements _) ?_ rfl rfl rfl rfl rfl rfl
    refine EvAs.cons ?_ rfl
    refine EvE.ifx ?_
    refine EvT.plain ?_ rfl
    refine' EvE.loc rfl rfl ?_ rfl rfl
    refine Ev1.truthB ?_
    refine brF (by walk_at "cond") ?_
    refine EvE.sub ?_
    refine' EvE.loc rfl rfl ?_ rfl rfl
    refine EvE.int ?_
    refine' Ev2.subTup rfl rfl ?_ (fun _ _ => rfl) (by decide) (by decide)
    refine EvAs.cons ?_ rfl
    refine' EvE.loc rfl rfl ?_ rfl rfl
    refine EvAs.cons ?_ rfl
    refine' EvE.loc rfl rfl ?_ rfl rfl
    refine EvAs.cons ?_ rfl
    refine' EvE.loc rfl rfl ?_ rfl rfl
    refine EvAs.nil ?_
    refine EvL.gives (by dsimp only; omega) (sp_rs_nil W n pr) ?_
    refine Ev1.assignTup rfl rfl ?_
    refine EvA.cons ?_ rfl
    refine Ev1.assignN ?_
    refine EvStore rfl rfl ?_
    refine EvA.cons ?_ rfl
    refine Ev1.assignN ?_
    refine EvStore rfl rfl ?_
    refine EvA.nil ?_
    refine andThen_next ?_
    refine EvSs.nil ?_
    refine andThen_next ?_
    refine EvSs.cons ?_
    refine EvS.iff ?_
    refine EvT.cmp ?_ rfl
    refine' EvE.loc rfl rfl ?_ rfl rfl
    refine' EvE.top (by assumption) (T_ON _) ?_ rfl rfl rfl rfl
    refine Ev2.neI ?_
    refine Ev1.truthB ?_
    refine brF (by walk_at "cond") ?_
    refine EvSs.nil ?_
    refine andThen_next ?_
    refine EvSs.nil ?_
    refine ForL.nil' ?_
    refine andThen_next ?_
    refine EvSs.cons ?_
    refine EvS.ret ?_
    refine EvE.tuple ?_
    refine EvAs.cons ?_ rfl
    refine' EvE.top (by assumption) (T_ON _) ?_ rfl rfl rfl rfl
    refine EvAs.cons ?_ rfl
    refine' EvE.loc rfl rfl ?_ rfl rfl
    refine EvAs.nil ?_
    refine tup_ok (by walk_at "side") ?_
    refine andThen_ret ?_
    refine fnEnd_ret ?_
    exact ⟨rfl, rfl⟩
  · refine EvStore rfl rfl ?_
    refine andThen_next ?_
    refine EvSs.cons ?_
    refine EvS.assignT ?_ rfl rfl
    refine' EvE.callK (by assumption) (G_run_statements _) (KI_run_statements _) ?_ rfl rfl rfl rfl rfl rfl
    refine EvAs.cons ?_ rfl
    refine EvE.ifx ?_
    refine EvT.plain ?_ rfl
    refine' EvE.loc rfl rfl ?_ rfl rfl
    refine Ev1.truthB ?_
    refine brT (by walk_at "cond") ?_
    refine EvE.sub ?_
    refine' EvE.loc rfl rfl ?_ rfl rfl
    refine EvE.int ?_
    refine' Ev2.subTup rfl rfl ?_ (fun _ _ => rfl) (by decide) (by decide)
    refine EvAs.cons ?_ rfl
    refine' EvE.loc rfl rfl ?_ rfl rfl
    refine EvAs.cons ?_ rfl
    refine' EvE.loc rfl rfl ?_ rfl rfl
    refine EvAs.cons ?_ rfl
    refine' EvE.loc rfl rfl ?_ rfl rfl
    refine EvAs.nil ?_
    refine EvL.gives (by dsimp only; omega) (sp_rs_end W n pr s hv) ?_
    refine Ev1.assignTup rfl rfl ?_
    refine EvA.cons ?_ rfl
    refine Ev1.assignN ?_
    refine EvStore rfl rfl ?_
    refine EvA.cons ?_ rfl
    refine Ev1.assignN ?_
    refine EvStore rfl rfl ?_
    refine EvA.nil ?_
    refine andThen_next ?_
    refine EvSs.nil ?_
    refine andThen_next ?_
    refine EvSs.cons ?_
    refine EvS.iff ?_
    refine EvT.cmp ?_ rfl
    refine' EvE.loc rfl rfl ?_ rfl rfl
    refine' EvE.top (by assumption) (T_ON _) ?_ rfl rfl rfl rfl
    refine Ev2.neI ?_
    refine Ev1.truthB ?_
    refine brT (by walk_at "cond") ?_
    refine EvSs.cons ?_
    refine EvS.ret ?_
    refine EvE.tuple ?_
    refine EvAs.cons ?_ rfl
    refine' EvE.loc rfl rfl ?_ rfl rfl
    refine EvAs.cons ?_ rfl
    refine' EvE.loc rfl rfl ?_ rfl rfl
    refine EvAs.nil ?_
    refine tup_ok (by walk_at "side") ?_
    refine andThen_ret ?_
    refine andThen_ret ?_
    refine andThen_ret ?_
    refine fnEnd_ret ?_
    exact ⟨rfl, rfl⟩
end

/-! E12 -/
section
variable {hT : Heap} {w : World} {c : Cx} {ν : Loc} {μ : Store} {at' fa pr : AV}
/-- a rule at one prefix: its name, its condition, its end, whether it holds -/
noncomputable abbrev Rul := Str × AV × Str × Bool
noncomputable abbrev tmR (r : Rul) : AV := .tup [.str r.1, .tup [ifSt r.2.1 r.2.2.1]]
noncomputable def runB (fb : Bool) : List Rul → Bool
  | [] => fb
  | r :: rs => if r.2.2.2 then r.2.2.1 == Str.ofString "accept" else runB fb rs
theorem endZ_acc : endZ (Str.ofString "accept") = 1 := by decide +kernel
theorem endZ_rej : endZ (Str.ofString "reject") = 2 := by decide +kernel
noncomputable def endS (fb : Bool) : Str := if fb then Str.ofString "accept" else Str.ofString "reject"
theorem sp_run_policy (W : Wd hT (KK w.params)) (n : Nat) (rules : List Rul) (fb : Bool)
    (hs : ∀ r ∈ rules, (r.2.2.1 = Str.ofString "accept" ∨ r.2.2.1 = Str.ofString "reject") ∧ Spec hT PG w n (.ref 172) [r.2.1, pr, at', fa] [] (Gives (.bool r.2.2.2) [])) :
    Spec hT PG w (n + 3) (.ref 201) [.tup [.tup (rules.map tmR), .tup [.str (endS fb)]], pr, at', fa] [] (Gives (if runB fb rules then at' else .none) []) := by
  refine Spec.fn W (L_run_policy _) (C_run_policy _) (fun s g vs _ _ hv => binds_of (qual := "") [Str.ofString "policy", Str.ofString "prefix", Str.ofString "attrs", Str.ofString "facts"] rfl (by decide) (by decide +kernel) (fun vs h => by obtain ⟨a, b, c, d, rfl⟩ := len4 h; rfl) s g vs hv) (by decide +kernel) rfl rfl rfl (fun Ar L' hr => ?_)
  refine EvSs.cons ?_
  refine EvS.assignT ?_ rfl rfl
  refine' EvE.loc rfl rfl ?_ rfl rfl
  refine Ev1.assignTup rfl rfl ?_
  refine EvA.cons ?_ rfl
  refine Ev1.assignN ?_
  refine EvStore rfl rfl ?_
  refine EvA.cons ?_ rfl
  refine Ev1.assignN ?_
  refine EvStore rfl rfl ?_
  refine EvA.nil ?_
  refine andThen_next ?_
  refine EvSs.cons ?_
  refine EvS.for ?_ (fun _ => rfl)
  refine EvIt.val ?_
  refine' EvE.loc rfl rfl ?_ rfl rfl
  refine tupIt_ok ?_
  refine ForL.inv (fun ds ν μ => ∃ rest : List Rul, ds = rest.map tmR ∧ (∀ r ∈ rest, (r.2.2.1 = Str.ofString "accept" ∨ r.2.2.1 = Str.ofString "reject") ∧ Spec hT PG w n (.ref 172) [r.2.1, pr, at', fa] [] (Gives (.bool r.2.2.2) [])) ∧ runB fb rest = runB fb rules ∧
    ν (Str.ofString "prefix") = some pr ∧ ν (Str.ofString "attrs") = some at' ∧ ν (Str.ofString "facts") = some fa ∧ ν (Str.ofString "fallback") = some (.tup [.str (endS fb)]) ∧ μ = []) ?_ ?_ _ _ _ ⟨rules, rfl, hs, rfl, rfl, rfl, rfl, rfl, rfl⟩
  · rintro d ds ν μ ⟨rest, hd, hr1, hb, h1, h2, h3, h4, rfl⟩
    cases rest with
    | nil => cases hd
    | cons r rest =>
    obtain ⟨nm, C, s, b⟩ := r
    cases hd
    obtain ⟨hv, hsp⟩ := hr1 _ (.head _)
    dsimp only at hv hsp
    have hb : (if b = true then s == Str.ofString "accept" else runB fb rest) = runB fb rules := hb
    refine Ev1.assignTup rfl rfl ?_
    refine EvA.cons ?_ rfl
    refine Ev1.assignN ?_
    refine EvStore rfl rfl ?_
    refine EvA.cons ?_ rfl
    refine Ev1.assignN ?_
    refine EvStore rfl rfl ?_
    refine EvA.nil ?_
    refine EvSs.cons ?_
    refine EvS.assignT ?_ rfl rfl
    refine' EvE.callK (by assumption) (G_run_statements _) (KI_run_statements _) ?_ rfl rfl rfl rfl rfl rfl
    refine EvAs.cons ?_ rfl
    refine' EvE.loc rfl rfl ?_ rfl rfl
    refine EvAs.cons ?_ rfl
    refine' EvE.loc rfl (by assumption) ?_ rfl rfl
    refine EvAs.cons ?_ rfl
    refine' EvE.loc rfl (by assumption) ?_ rfl rfl
    refine EvAs.cons ?_ rfl
    refine' EvE.loc rfl (by assumption) ?_ rfl rfl
    refine EvAs.nil ?_
    refine EvL.gives (by dsimp only; omega) (sp_rs_if W n pr s hv hsp) ?_
    cases b with
    | false =>
      refine Ev1.assignTup rfl rfl ?_
      refine EvA.cons ?_ rfl
      refine Ev1.assignN ?_
      refine EvStore rfl rfl ?_
      refine EvA.cons ?_ rfl
      refine Ev1.assignN ?_
      refine EvStore rfl rfl ?_
      refine EvA.nil ?_
      refine andThen_next ?_
      refine EvSs.cons ?_
      refine EvS.iff ?_
      refine EvT.cmp ?_ rfl
      refine' EvE.loc rfl rfl ?_ rfl rfl
      refine' EvE.top (by assumption) (T_ACCEPTED _) ?_ rfl rfl rfl rfl
      refine Ev2.eqI ?_
      refine Ev1.truthB ?_
      refine brF (by walk_at "cond") ?_
      refine EvSs.nil ?_
      refine andThen_next ?_
      refine EvSs.cons ?_
      refine EvS.iff ?_
      refine EvT.cmp ?_ rfl
      refine' EvE.loc rfl rfl ?_ rfl rfl
      refine' EvE.top (by assumption) (T_REJECTED _) ?_ rfl rfl rfl rfl
      refine Ev2.eqI ?_
      refine Ev1.truthB ?_
      refine brF (by walk_at "cond") ?_
      refine EvSs.nil ?_
      refine andThen_next ?_
      refine EvSs.nil ?_
      exact ⟨rest, rfl, fun r hr => hr1 r (.tail _ hr), by simpa using hb, h1, rfl, h3, h4, rfl⟩
    | true =>
      rcases hv with rfl | rfl
      · rw [endZ_acc]
        refine Ev1.assignTup rfl rfl ?_
        refine EvA.cons ?_ rfl
        refine Ev1.assignN ?_
        refine EvStore rfl rfl ?_
        refine EvA.cons ?_ rfl
        refine Ev1.assignN ?_
        refine EvStore rfl rfl ?_
        refine EvA.nil ?_
        refine andThen_next ?_
        refine EvSs.cons ?_
        refine EvS.iff ?_
        refine EvT.cmp ?_ rfl
        refine' EvE.loc rfl rfl ?_ rfl rfl
        refine' EvE.top (by assumption) (T_ACCEPTED _) ?_ rfl rfl rfl rfl
        refine Ev2.eqI ?_
        refine Ev1.truthB ?_
        refine brT (by walk_at "cond") ?_
        refine EvSs.cons ?_
        refine EvS.ret ?_
        refine' EvE.loc rfl rfl ?_ rfl rfl
        refine andThen_ret ?_
        refine andThen_ret ?_
        refine andThen_ret ?_
        refine fnEnd_ret ?_
        refine ⟨?_, rfl⟩
        rw [← hb, if_pos rfl, show (Str.ofString "accept" == Str.ofString "accept") = true from by decide +kernel]; rfl
      · rw [endZ_rej]
        refine Ev1.assignTup rfl rfl ?_
        refine EvA.cons ?_ rfl
        refine Ev1.assignN ?_
        refine EvStore rfl rfl ?_
        refine EvA.cons ?_ rfl
        refine Ev1.assignN ?_
        refine EvStore rfl rfl ?_
        refine EvA.nil ?_
        refine andThen_next ?_
        refine EvSs.cons ?_
        refine EvS.iff ?_
        refine EvT.cmp ?_ rfl
        refine' EvE.loc rfl rfl ?_ rfl rfl
        refine' EvE.top (by assumption) (T_ACCEPTED _) ?_ rfl rfl rfl rfl
        refine Ev2.eqI ?_
        refine Ev1.truthB ?_
        refine brF (by walk_at "cond") ?_
        refine EvSs.nil ?_
        refine andThen_next ?_
        refine EvSs.cons ?_
        refine EvS.iff ?_
        refine EvT.cmp ?_ rfl
        refine' EvE.loc rfl rfl ?_ rfl rfl
        refine' EvE.top (by assumption) (T_REJECTED _) ?_ rfl rfl rfl rfl
        refine Ev2.eqI ?_
        refine Ev1.truthB ?_
        refine brT (by walk_at "cond") ?_
        refine EvSs.cons ?_
        refine EvS.ret ?_
        refine EvE.none ?_
        refine andThen_ret ?_
        refine andThen_ret ?_
        refine andThen_ret ?_
        refine fnEnd_ret ?_
        refine ⟨?_, rfl⟩
        rw [← hb, if_pos rfl, show (Str.ofString "reject" == Str.ofString "accept") = false from by decide +kernel]; rfl
  · rintro ν μ ⟨rest, hd, hr1, hb, h1, h2, h3, h4, rfl⟩
    cases rest with
    | cons r rest => cases hd
    | nil =>
    have hb' : fb = runB fb rules := hb
    rw [← hb']
    refine andThen_next ?_
    refine EvSs.cons ?_
    refine EvS.ret ?_
    refine EvE.ifx ?_
    refine EvT.cmp ?_ rfl
    refine' EvE.loc rfl (by assumption) ?_ rfl rfl
    refine EvE.tuple ?_
    refine EvAs.cons ?_ rfl
    refine EvE.str ?_
    refine EvAs.nil ?_
    refine tup_ok (by walk_at "side") ?_
    refine Ev2.eq 1 1 (by cases fb <;> decide +kernel) (by decide +kernel) (by decide) (by decide) ?_
    cases fb
    · rw [show deq (.tup [.str (endS false)]) (.tup [.str (Str.ofString "accept")]) = false by decide +kernel]
      refine Ev1.truthB ?_
      refine brF (by walk_at "cond") ?_
      refine EvE.none ?_
      refine andThen_ret ?_
      refine fnEnd_ret ?_
      exact ⟨rfl, rfl⟩
    · rw [show deq (.tup [.str (endS true)]) (.tup [.str (Str.ofString "accept")]) = true by decide +kernel]
      refine Ev1.truthB ?_
      refine brT (by walk_at "cond") ?_
      refine' EvE.loc rfl (by assumption) ?_ rfl rfl
      refine andThen_ret ?_
      refine fnEnd_ret ?_
      exact ⟨rfl, rfl⟩
end

/-! E13 -/
section
variable {hT : Heap} {w : World} {c : Cx} {ν : Loc} {μ : Store}
noncomputable abbrev bx (b : Addr) (l : List Int) (k : Int) : Store := [(b, .list [.lst (l.map .int), .int k])]
theorem sp_draw (W : Wd hT (KK w.params)) (n : Nat) (b : Addr) (l : List Int) (k many : Int) (h0 : 0 ≤ k) (h1 : k ≤ 1000) (hl : l.length ≤ 1000) (hm : 0 < many) :
    Spec hT PG w (n + 1) (.ref 484) [.ref b, .int many] (bx b l k) fun d μ' => ∃ z : Nat, (z : Int) < many ∧ d = .int (z : Nat) ∧ μ' = bx b l (k + 1) := by
  have ok : ∀ z : Int, ∃ y : Nat, (y : Int) < many ∧ AV.int (z.fmod many) = .int (y : Nat) := fun z => by
    have a1 := Int.fmod_nonneg_of_pos z hm
    have a2 := Int.fmod_lt_of_pos z hm
    exact ⟨(z.fmod many).toNat, by omega, by congr 1; omega⟩
  refine Spec.fn W (L_law_draw _) (C_law_draw _) (fun s g vs _ _ hv => binds_of (qual := "") [Str.ofString "box", Str.ofString "many"] rfl (by decide) (by decide +kernel) (fun vs h => by obtain ⟨a, b, rfl⟩ := len2 h; rfl) s g vs hv) (by decide +kernel) rfl rfl rfl (fun Ar L' hr => ?_)
  refine EvSs.cons ?_
  refine' EvS.setItem ?_ rfl
  refine EvE.binop ?_
  refine EvE.sub ?_
  refine' EvE.loc rfl rfl ?_ rfl rfl
  refine EvE.int ?_
  refine' Ev2.subCell (.head _) rfl rfl ?_ (fun _ _ => rfl) (by decide) (by decide)
  refine EvE.int ?_
  refine Ev2.add ?_
  refine' EvE.loc rfl rfl ?_ rfl rfl
  refine EvE.int ?_
  refine ⟨_, _, 1, [], _, rfl, rfl, rfl, Nat.le_refl _, Nat.le_of_ble_eq_true rfl, ?_⟩
  dsimp only [List.nil_append, List.set_cons_succ, List.set_cons_zero]
  refine andThen_next ?_
  refine EvSs.cons ?_
  refine EvS.iff ?_
  refine EvT.cmp ?_ rfl
  refine EvE.sub ?_
  refine' EvE.loc rfl rfl ?_ rfl rfl
  refine EvE.int ?_
  refine' Ev2.subCell (.head _) rfl rfl ?_ (fun _ _ => rfl) (by decide) (by decide)
  refine' EvE.callB (by assumption) (B_len _) (BB_len) (by decide) ?_ rfl rfl rfl rfl rfl rfl rfl
  refine EvAs.cons ?_ rfl
  refine EvE.sub ?_
  refine' EvE.loc rfl rfl ?_ rfl rfl
  refine EvE.int ?_
  refine' Ev2.subCell (.head _) rfl rfl ?_ (fun _ _ => rfl) (by decide) (by decide)
  refine EvAs.nil ?_
  refine' EvL.lenL (by walk_at "side") ?_
  refine Ev2.leI ?_
  refine Ev1.truthB ?_
  rw [List.length_map]
  refine ⟨fun hb => ?_, fun hb => ?_⟩
  · have hb := of_decide_eq_true hb
    refine EvSs.cons ?_
    refine EvS.ret ?_
    refine EvE.binop ?_
    refine' EvE.callB (by assumption) (B_abs _) (BB_abs) (by decide) ?_ rfl rfl rfl rfl rfl rfl rfl
    refine EvAs.cons ?_ rfl
    refine EvE.sub ?_
    refine EvE.sub ?_
    refine' EvE.loc rfl rfl ?_ rfl rfl
    refine EvE.int ?_
    refine' Ev2.subCell (.head _) rfl rfl ?_ (fun _ _ => rfl) (by decide) (by decide)
    refine EvE.binop ?_
    refine EvE.sub ?_
    refine' EvE.loc rfl rfl ?_ rfl rfl
    refine EvE.int ?_
    refine' Ev2.subCell (.head _) rfl rfl ?_ (fun _ _ => rfl) (by decide) (by decide)
    refine EvE.int ?_
    refine Ev2.sub ?_
    have hk : ((l.map AV.int)[k.toNat]?) = some (.int (l.getD k.toNat 0)) := by
      rw [List.getElem?_map, List.getD_eq_getElem?_getD]
      have : k.toNat < l.length := by omega
      simp [this]
    rw [show k + 1 - 1 = ((k.toNat : Nat) : Int) by omega]
    refine Ev2.subLN hk (by rw [List.length_map]; exact hl) ?_
    refine EvAs.nil ?_
    refine EvL.absI ?_
    refine' EvE.loc rfl rfl ?_ rfl rfl
    refine' Ev2.mod (by walk_at "side") ?_
    refine andThen_ret ?_
    refine andThen_ret ?_
    refine fnEnd_ret ?_
    obtain ⟨y, hy, e⟩ := ok (if l.getD k.toNat 0 < 0 then -(l.getD k.toNat 0) else l.getD k.toNat 0)
    exact ⟨y, hy, e, rfl⟩
  · refine EvSs.nil ?_
    refine andThen_next ?_
    refine EvSs.cons ?_
    refine EvS.ret ?_
    refine EvE.binop ?_
    refine EvE.binop ?_
    refine EvE.binop ?_
    refine EvE.int ?_
    refine EvE.sub ?_
    refine' EvE.loc rfl rfl ?_ rfl rfl
    refine EvE.int ?_
    refine' Ev2.subCell (.head _) rfl rfl ?_ (fun _ _ => rfl) (by decide) (by decide)
    refine' Ev2.mul (by walk_at "side") ?_
    refine EvE.binop ?_
    refine EvE.sub ?_
    refine' EvE.loc rfl rfl ?_ rfl rfl
    refine EvE.int ?_
    refine' Ev2.subCell (.head _) rfl rfl ?_ (fun _ _ => rfl) (by decide) (by decide)
    refine EvE.int ?_
    refine' Ev2.fdiv (by walk_at "side") (by walk_at "side") ?_
    refine Ev2.add ?_
    refine' EvE.loc rfl rfl ?_ rfl rfl
    refine' Ev2.mod (by walk_at "side") ?_
    refine andThen_ret ?_
    refine fnEnd_ret ?_
    obtain ⟨y, hy, e⟩ := ok (5 * (k + 1) + (k + 1).fdiv 3)
    exact ⟨y, hy, e, rfl⟩
noncomputable def wideZ (N L : Int) : Int × Int := (N * 2 ^ (32 - L).toNat, L)
theorem sp_wide (W : Wd hT (KK w.params)) (n : Nat) (N L : Int) (h0 : 0 ≤ L) (h1 : L ≤ 32) (h2 : 0 ≤ N) (h3 : N ≤ 255) : Spec hT PG w (n + 1) (.ref 498) [.tup [.int N, .int L]] [] (Gives (.tup [.int (wideZ N L).1, .int (wideZ N L).2]) []) := by
  refine Spec.fn W (L_law_wide _) (C_law_wide _) (fun s g vs _ _ hv => binds_of (qual := "") [Str.ofString "pair"] rfl (by decide) (by decide +kernel) (fun vs h => by obtain ⟨a, rfl⟩ := len1 h; rfl) s g vs hv) (by decide +kernel) rfl rfl rfl (fun Ar L' hr => ?_)
  refine EvSs.cons ?_
  refine EvS.ret ?_
  refine EvE.tuple ?_
  refine EvAs.cons ?_ rfl
  refine EvE.binop ?_
  refine EvE.sub ?_
  refine' EvE.loc rfl rfl ?_ rfl rfl
  refine EvE.int ?_
  refine' Ev2.subTup rfl rfl ?_ (fun _ _ => rfl) (by decide) (by decide)
  refine EvE.binop ?_
  refine EvE.int ?_
  refine EvE.binop ?_
  refine EvE.int ?_
  refine EvE.sub ?_
  refine' EvE.loc rfl rfl ?_ rfl rfl
  refine EvE.int ?_
  refine' Ev2.subTup rfl rfl ?_ (fun _ _ => rfl) (by decide) (by decide)
  refine Ev2.sub ?_
  refine' Ev2.pow (by walk_at "side") (by walk_at "side") (by walk_at "side") ?_
  refine' Ev2.mul (by walk_at "side") ?_
  refine EvAs.cons ?_ rfl
  refine EvE.sub ?_
  refine' EvE.loc rfl rfl ?_ rfl rfl
  refine EvE.int ?_
  refine' Ev2.subTup rfl rfl ?_ (fun _ _ => rfl) (by decide) (by decide)
  refine EvAs.nil ?_
  refine tup_ok (by walk_at "side") ?_
  refine andThen_ret ?_
  refine fnEnd_ret ?_
  exact ⟨rfl, rfl⟩
noncomputable def lcov (N L m l : Int) : Bool := decide (L ≤ l) && (m.fdiv (2 ^ (l - L).toNat) == N)
theorem sp_lcov (W : Wd hT (KK w.params)) (n : Nat) (N L m l : Int) (h0 : 0 ≤ L) (h1 : L ≤ 32) (h2 : 0 ≤ l) (h3 : l ≤ 16) : Spec hT PG w (n + 1) (.ref 512) [.tup [.int N, .int L], .tup [.int m, .int l]] [] (Gives (.bool (lcov N L m l)) []) := by
  refine Spec.fn W (L_law_covers _) (C_law_covers _) (fun s g vs _ _ hv => binds_of (qual := "") [Str.ofString "one", Str.ofString "other"] rfl (by decide) (by decide +kernel) (fun vs h => by obtain ⟨a, b, rfl⟩ := len2 h; rfl) s g vs hv) (by decide +kernel) rfl rfl rfl (fun Ar L' hr => ?_)
  refine EvSs.cons ?_
  refine EvS.ret ?_
  refine EvE.and2 ?_
  refine EvE.cmp ?_ rfl
  refine EvE.sub ?_
  refine' EvE.loc rfl rfl ?_ rfl rfl
  refine EvE.int ?_
  refine' Ev2.subTup rfl rfl ?_ (fun _ _ => rfl) (by decide) (by decide)
  refine EvE.sub ?_
  refine' EvE.loc rfl rfl ?_ rfl rfl
  refine EvE.int ?_
  refine' Ev2.subTup rfl rfl ?_ (fun _ _ => rfl) (by decide) (by decide)
  refine Ev2.leI ?_
  refine Ev1.truthB ?_
  refine ⟨fun hb => ?_, fun hb => ?_⟩
  · have hb' := of_decide_eq_true hb
    have p1 := pow_pos2 (l - L).toNat
    have p2 := pow_lt32 (n := (l - L).toNat) (by omega)
    have p3 : (2 : Int) ^ (l - L).toNat ≤ 65536 := by
      have : (2 : Nat) ^ (l - L).toNat ≤ 2 ^ 16 := Nat.pow_le_pow_right (by decide) (by omega)
      have e : ((2 ^ (l - L).toNat : Nat) : Int) = (2 : Int) ^ (l - L).toNat := by simp
      rw [← e]; omega
    refine EvE.cmp ?_ rfl
    refine EvE.binop ?_
    refine EvE.sub ?_
    refine' EvE.loc rfl rfl ?_ rfl rfl
    refine EvE.int ?_
    refine' Ev2.subTup rfl rfl ?_ (fun _ _ => rfl) (by decide) (by decide)
    refine EvE.binop ?_
    refine EvE.int ?_
    refine EvE.binop ?_
    refine EvE.sub ?_
    refine' EvE.loc rfl rfl ?_ rfl rfl
    refine EvE.int ?_
    refine' Ev2.subTup rfl rfl ?_ (fun _ _ => rfl) (by decide) (by decide)
    refine EvE.sub ?_
    refine' EvE.loc rfl rfl ?_ rfl rfl
    refine EvE.int ?_
    refine' Ev2.subTup rfl rfl ?_ (fun _ _ => rfl) (by decide) (by decide)
    refine Ev2.sub ?_
    refine' Ev2.pow (by walk_at "side") (by walk_at "side") (by walk_at "side") ?_
    refine' Ev2.fdiv (by walk_at "side") (by walk_at "side") ?_
    refine EvE.sub ?_
    refine' EvE.loc rfl rfl ?_ rfl rfl
    refine EvE.int ?_
    refine' Ev2.subTup rfl rfl ?_ (fun _ _ => rfl) (by decide) (by decide)
    refine Ev2.eqI ?_
    refine andThen_ret ?_
    refine fnEnd_ret ?_
    exact ⟨by unfold lcov; rw [hb]; rfl, rfl⟩
  · refine andThen_ret ?_
    refine fnEnd_ret ?_
    exact ⟨by unfold lcov; rw [hb]; rfl, rfl⟩
end

/-! E14 -/
section
variable {hT : Heap} {w : World} {c : Cx} {ν : Loc} {μ : Store}
noncomputable abbrev pr2 (N L : Nat) : AV := .tup [.int (N : Nat), .int (L : Nat)]
noncomputable def allP (b : Nat) : List (Nat × Nat) := (List.range (b + 1)).flatMap fun L => (List.range (2 ^ L)).map fun N => (N, L)
noncomputable def allA (b : Nat) : List AV := (allP b).map fun q => pr2 q.1 q.2
noncomputable def basP (L : Nat) : List (Nat × Nat) := (List.range L).flatMap fun L => (List.range (2 ^ L)).map fun N => (N, L)
theorem basP_succ (L : Nat) : basP (L + 1) = basP L ++ (List.range (2 ^ L)).map fun N => (N, L) := by
  unfold basP
  rw [List.range_succ, List.flatMap_append, List.flatMap_singleton]
theorem sp_all (W : Wd hT (KK w.params)) (n : Nat) {B : Nat} (hB : B ≤ 3) : Spec hT PG w (n + 1) (.ref 491) [.int (B : Nat)] [] (Gives (.lst (allA B)) []) := by
  refine Spec.frozen ?_
  refine Spec.fn W (L_law_all _) (C_law_all _) (fun s g vs _ _ hv => binds_of (qual := "") [Str.ofString "bits"] rfl (by decide) (by decide +kernel) (fun vs h => by obtain ⟨a, rfl⟩ := len1 h; rfl) s g vs hv) (by decide +kernel) rfl rfl rfl (fun Ar L' hr => ?_)
  refine EvSs.cons ?_
  refine EvS.assign ?_ rfl
  refine EvE.list ?_
  refine EvAs.nil ?_
  refine tup_ok (by walk_at "side") ?_
  intro a
  refine EvStore rfl rfl ?_
  refine andThen_next ?_
  refine EvSs.cons ?_
  refine EvS.for ?_ (fun _ => rfl)
  refine' EvIt.range (by assumption) (B_range _) ?_ rfl rfl rfl rfl rfl
  refine EvE.binop ?_
  refine' EvE.loc rfl rfl ?_ rfl rfl
  refine EvE.int ?_
  refine Ev2.add ?_
  rw [show ((B : Nat) : Int) + 1 = ((B + 1 : Nat) : Int) by omega]
  refine ⟨B + 1, rfl, by omega, ?_⟩
  refine ForL.inv (fun ds ν μ => ∃ L m : Nat, L + m = B + 1 ∧ ds = (List.range' L m).map (fun (i : Nat) => AV.int i) ∧ ν (Str.ofString "bits") = some (.int (B : Nat)) ∧ ν (Str.ofString "found") = some (.ref a) ∧ (basP L).length ≤ 8 * L ∧ μ = [(a, .list ((basP L).map fun q => pr2 q.1 q.2))]) ?_ ?_ _ _ _
    ⟨0, B + 1, by omega, by rw [List.range_eq_range'], rfl, rfl, Nat.le_refl _, rfl⟩
  · rintro d ds ν μ ⟨L, m, hm, hd, h1, h2, hl, rfl⟩
    cases m with
    | zero => cases hd
    | succ m =>
    cases hd
    change Ev1 hT PG w _ _ any (.int ((L : Nat) : Int)) _ _ _
    have h8 : 2 ^ L ≤ 8 := by
      have : 2 ^ L ≤ 2 ^ 3 := Nat.pow_le_pow_right (by decide) (by omega)
      omega
    refine Ev1.assignN ?_
    refine EvStore rfl rfl ?_
    refine EvSs.cons ?_
    refine EvS.for ?_ (fun _ => rfl)
    refine' EvIt.range (by assumption) (B_range _) ?_ rfl rfl rfl rfl rfl
    refine EvE.binop ?_
    refine EvE.int ?_
    refine' EvE.loc rfl rfl ?_ rfl rfl
    refine' Ev2.pow (by walk_at "side") (by walk_at "side") (by walk_at "side") ?_
    rw [show (2 : Int) ^ ((L : Nat) : Int).toNat = ((2 ^ L : Nat) : Int) by simp]
    refine ⟨2 ^ L, rfl, by omega, ?_⟩
    refine ForL.inv (fun ds ν μ => ∃ N k : Nat, N + k = 2 ^ L ∧ ds = (List.range' N k).map (fun (i : Nat) => AV.int i) ∧ ν (Str.ofString "bits") = some (.int (B : Nat)) ∧ ν (Str.ofString "found") = some (.ref a) ∧ ν (Str.ofString "length") = some (.int (L : Nat)) ∧ μ = [(a, .list ((basP L ++ (List.range N).map fun N => (N, L)).map fun q => pr2 q.1 q.2))]) ?_ ?_ _ _ _
      ⟨0, 2 ^ L, by omega, by rw [List.range_eq_range'], h1, h2, rfl, by simp⟩
    · rintro d ds ν μ ⟨N, k, hk, hd, h1, h2, h3, rfl⟩
      cases k with
      | zero => cases hd
      | succ k =>
      cases hd
      change Ev1 hT PG w _ _ any (.int ((N : Nat) : Int)) _ _ _
      refine Ev1.assignN ?_
      refine EvStore rfl rfl ?_
      refine EvSs.cons ?_
      refine EvS.expr ?_ rfl rfl
      refine' EvE.append ?_ rfl rfl
      refine' EvE.loc rfl (by assumption) ?_ rfl rfl
      refine' app_ok (.head _) ?_
      refine EvE.tuple ?_
      refine EvAs.cons ?_ rfl
      refine' EvE.loc rfl rfl ?_ rfl rfl
      refine EvAs.cons ?_ rfl
      refine' EvE.loc rfl (by assumption) ?_ rfl rfl
      refine EvAs.nil ?_
      refine tup_ok (by walk_at "side") ?_
      refine ⟨[], _, _, rfl, by rw [List.length_map, List.length_append, List.length_map, List.length_range]; omega, ?_⟩; dsimp only [List.nil_append, List.cons_append]
      refine none_ok ?_
      refine andThen_next ?_
      refine EvSs.nil ?_
      have e : ((basP L ++ (List.range (N + 1)).map fun N => (N, L)).map fun q => pr2 q.1 q.2) = ((basP L ++ (List.range N).map fun N => (N, L)).map fun q => pr2 q.1 q.2) ++ [pr2 N L] := by
        have e1 : (List.range (N + 1)).map (fun N => (N, L)) = (List.range N).map (fun N => (N, L)) ++ [(N, L)] := by rw [List.range_succ, List.map_append]; rfl
        rw [e1, ← List.append_assoc, List.map_append]; rfl
      exact ⟨N + 1, k, by omega, rfl, h1, h2, h3, by rw [e]⟩
    · rintro ν μ ⟨N, k, hk, hd, h1, h2, h3, rfl⟩
      cases k with
      | succ k => cases hd
      | zero =>
      refine andThen_next ?_
      refine EvSs.nil ?_
      have e : N = 2 ^ L := by omega
      subst e
      refine ⟨L + 1, m, by omega, rfl, h1, h2, ?_, by rw [basP_succ]⟩
      rw [basP_succ, List.length_append, List.length_map, List.length_range]; omega
  · rintro ν μ ⟨L, m, hm, hd, h1, h2, hl, rfl⟩
    cases m with
    | succ m => cases hd
    | zero =>
    have e : L = B + 1 := by omega
    subst e
    refine andThen_next ?_
    refine EvSs.cons ?_
    refine EvS.ret ?_
    refine' EvE.loc rfl (by assumption) ?_ rfl rfl
    refine andThen_ret ?_
    refine fnEnd_ret ?_
    exact ⟨a, rfl, rfl⟩
end

/-! E15 -/
section
variable {hT : Heap} {w : World} {c : Cx} {ν : Loc} {μ : Store}
theorem sp_held (W : Wd hT (KK w.params)) (n : Nat) (asked : AV) (some : List (Nat × Nat)) (f : Nat × Nat → Bool) (hz : some.length ≤ 100) (hsm : ∀ q ∈ some, q.1 ≤ 255 ∧ q.2 ≤ 32)
    (hs : ∀ q ∈ some, ∀ a b, Spec hT PG w n (.ref 172) [asked, .tup [.int (wideZ q.1 q.2).1, .int (wideZ q.1 q.2).2], .ref a, .ref b] [] (Gives (.bool (f q)) [])) :
    Spec hT PG w (n + 2) (.ref 546) [asked, .lst (some.map fun q => pr2 q.1 q.2)] [] (Gives (.lst ((some.filter f).map fun q => pr2 q.1 q.2)) []) := by
  refine Spec.drop ?_
  refine Spec.fnC W [Str.ofString "asked", Str.ofString "some"] [Str.ofString "asked"] (L_law_held _) (C_law_held _) rfl (fun vs h => by obtain ⟨a, b, rfl⟩ := len2 h; rfl) (fun _ => rfl) (by decide) (by decide +kernel) rfl rfl rfl (fun Ar L' hr => ?_)
  refine EvSs.cons ?_
  refine EvS.ret ?_
  refine EvE.comp (EvItC.of (EvIt.val ?_)) rfl (fun _ => rfl) (by decide +kernel) rfl (by decide +kernel)
  refine' EvE.loc rfl rfl ?_ rfl rfl
  refine lst_ok ?_
  refine tup_ok (by walk_at "side") ?_
  intro C D
  refine CompL.inv (fun ds ν l => ∃ done rest : List (Nat × Nat), ds = rest.map (fun q => pr2 q.1 q.2) ∧ done ++ rest = some ∧ l = (done.filter f).map fun q => pr2 q.1 q.2) ?_ ?_ _ _ _ ⟨[], some, rfl, rfl, rfl⟩
  · rintro d ds ν l ⟨done, rest, hd, hda, rfl⟩
    cases rest with
    | nil => cases hd
    | cons q rest =>
    cases hd
    have hq := hsm q (by rw [← hda]; simp)
    have hsq := hs q (by rw [← hda]; simp)
    refine Ev1.assignN ?_
    refine EvStore rfl rfl ?_
    refine sto_ok ?_
    refine EvIfs.one ?_
    refine EvT.plain ?_ rfl
    refine' EvE.callK (by assumption) (G_condition_holds _) (KI_condition_holds _) ?_ rfl rfl rfl rfl rfl rfl
    refine EvAs.cons ?_ rfl
    refine EvE.cel rfl rfl (.inr (.head _)) ?_ rfl rfl
    refine EvAs.cons ?_ rfl
    refine' EvE.callK (by assumption) (G_law_wide _) (KI_law_wide _) ?_ rfl rfl rfl rfl rfl rfl
    refine EvAs.cons ?_ rfl
    refine' EvE.loc rfl rfl ?_ rfl rfl
    refine EvAs.nil ?_
    refine EvL.gives (by dsimp only; omega) (sp_wide W 0 q.1 q.2 (by omega) (by omega) (by omega) (by omega)) ?_
    refine EvAs.cons ?_ rfl
    refine EvE.dict0 fun a1 => ?_
    refine EvAs.cons ?_ rfl
    refine EvE.dict0 fun a2 => ?_
    refine EvAs.nil ?_
    refine EvL.gives (by dsimp only; omega) (hsq a1 a2) ?_
    refine Ev1.truthB ?_
    refine sto_ok ?_
    refine ⟨fun hb => ?_, fun hb => ?_⟩
    · refine' EvE.loc rfl rfl ?_ rfl rfl
      refine sto_ok ?_
      refine ⟨done ++ [q], rest, rfl, by rw [← hda]; simp, ?_⟩
      rw [List.filter_append, List.filter_cons_of_pos hb, List.filter_nil, List.map_append]; rfl
    · refine ⟨done ++ [q], rest, rfl, by rw [← hda]; simp, ?_⟩
      rw [List.filter_append, List.filter_cons_of_neg (by rw [hb]; decide), List.filter_nil, List.append_nil]
  · rintro ν l ⟨done, rest, hd, hda, rfl⟩
    cases rest with
    | cons t rest => cases hd
    | nil =>
    rw [List.append_nil] at hda
    subst hda
    refine andThen_ret ?_
    refine fnEnd_ret ?_
    exact ⟨[], List.nil_sublist _, rfl, rfl⟩
end

/-! E16 -/
section
variable {hT : Heap} {w : World} {c : Cx} {ν : Loc} {μ : Store}
theorem sp_run (W : Wd hT (KK w.params)) (n : Nat) (policy : AV) (some : List (Nat × Nat)) (f : Nat × Nat → Bool) (hz : some.length ≤ 100) (hsm : ∀ q ∈ some, q.1 ≤ 255 ∧ q.2 ≤ 32)
    (hs : ∀ q ∈ some, ∀ a b, Spec hT PG w n (.ref 201) [policy, .tup [.int (wideZ q.1 q.2).1, .int (wideZ q.1 q.2).2], .ref a, .ref b] [] (Gives (if f q then .ref a else .none) [])) :
    Spec hT PG w (n + 2) (.ref 527) [policy, .lst (some.map fun q => pr2 q.1 q.2)] [] (Gives (.lst ((some.filter f).map fun q => pr2 q.1 q.2)) []) := by
  refine Spec.drop ?_
  refine Spec.fnC W [Str.ofString "policy", Str.ofString "some"] [Str.ofString "policy"] (L_law_run _) (C_law_run _) rfl (fun vs h => by obtain ⟨a, b, rfl⟩ := len2 h; rfl) (fun _ => rfl) (by decide) (by decide +kernel) rfl rfl rfl (fun Ar L' hr => ?_)
  refine EvSs.cons ?_
  refine EvS.ret ?_
  refine EvE.comp (EvItC.of (EvIt.val ?_)) rfl (fun _ => rfl) (by decide +kernel) rfl (by decide +kernel)
  refine' EvE.loc rfl rfl ?_ rfl rfl
  refine lst_ok ?_
  refine tup_ok (by walk_at "side") ?_
  intro C D
  refine CompL.inv (fun ds ν l => ∃ done rest : List (Nat × Nat), ds = rest.map (fun q => pr2 q.1 q.2) ∧ done ++ rest = some ∧ l = (done.filter f).map fun q => pr2 q.1 q.2) ?_ ?_ _ _ _ ⟨[], some, rfl, rfl, rfl⟩
  · rintro d ds ν l ⟨done, rest, hd, hda, rfl⟩
    cases rest with
    | nil => cases hd
    | cons q rest =>
    cases hd
    have hq := hsm q (by rw [← hda]; simp)
    have hsq := hs q (by rw [← hda]; simp)
    refine Ev1.assignN ?_
    refine EvStore rfl rfl ?_
    refine sto_ok ?_
    refine EvIfs.one ?_
    refine EvT.cmp ?_ rfl
    refine' EvE.callK (by assumption) (G_run_policy _) (KI_run_policy _) ?_ rfl rfl rfl rfl rfl rfl
    refine EvAs.cons ?_ rfl
    refine EvE.cel rfl rfl (.inr (.head _)) ?_ rfl rfl
    refine EvAs.cons ?_ rfl
    refine' EvE.callK (by assumption) (G_law_wide _) (KI_law_wide _) ?_ rfl rfl rfl rfl rfl rfl
    refine EvAs.cons ?_ rfl
    refine' EvE.loc rfl rfl ?_ rfl rfl
    refine EvAs.nil ?_
    refine EvL.gives (by dsimp only; omega) (sp_wide W 0 q.1 q.2 (by omega) (by omega) (by omega) (by omega)) ?_
    refine EvAs.cons ?_ rfl
    refine EvE.dict0 fun a1 => ?_
    refine EvAs.cons ?_ rfl
    refine EvE.dict0 fun a2 => ?_
    refine EvAs.nil ?_
    refine EvL.gives (by dsimp only; omega) (hsq a1 a2) ?_
    cases hb : f q with
    | true =>
      refine EvE.none ?_
      refine Ev2.isNotNone ?_
      refine Ev1.truthB ?_
      refine sto_ok ?_
      refine brT (by walk_at "cond") ?_
      refine' EvE.loc rfl rfl ?_ rfl rfl
      refine sto_ok ?_
      refine ⟨done ++ [q], rest, rfl, by rw [← hda]; simp, ?_⟩
      rw [List.filter_append, List.filter_cons_of_pos hb, List.filter_nil, List.map_append]; rfl
    | false =>
      refine EvE.none ?_
      refine Ev2.isNotNone ?_
      refine Ev1.truthB ?_
      refine sto_ok ?_
      refine brF (by walk_at "cond") ?_
      refine ⟨done ++ [q], rest, rfl, by rw [← hda]; simp, ?_⟩
      rw [List.filter_append, List.filter_cons_of_neg (by rw [hb]; decide), List.filter_nil, List.append_nil]
  · rintro ν l ⟨done, rest, hd, hda, rfl⟩
    cases rest with
    | cons t rest => cases hd
    | nil =>
    rw [List.append_nil] at hda
    subst hda
    refine andThen_ret ?_
    refine fnEnd_ret ?_
    exact ⟨[], List.nil_sublist _, rfl, rfl⟩
end

/-! E17 -/
section
variable {hT : Heap} {w : World} {c : Cx} {ν : Loc} {μ : Store}
noncomputable def inW (N L le mo : Nat) (q : Nat × Nat) : Bool := lcov N L q.1 q.2 && (decide ((le : Int) ≤ (q.2 : Int)) && decide ((q.2 : Int) ≤ (mo : Int)))
theorem sp_set (W : Wd hT (KK w.params)) (n : Nat) (N L le mo : Nat) (some : List (Nat × Nat)) (hL : L ≤ 16) (hz : some.length ≤ 100) (hsm : ∀ q ∈ some, q.1 ≤ 255 ∧ q.2 ≤ 16) :
    Spec hT PG w (n + 2) (.ref 517) [.tup [pr2 N L, .int (le : Nat), .int (mo : Nat)], .lst (some.map fun q => pr2 q.1 q.2)] [] (Gives (.lst ((some.filter (inW N L le mo)).map fun q => pr2 q.1 q.2)) []) := by
  refine Spec.drop ?_
  refine Spec.fnC W [Str.ofString "word", Str.ofString "some"] [Str.ofString "most", Str.ofString "least", Str.ofString "told"] (L_law_set _) (C_law_set _) rfl (fun vs h => by obtain ⟨a, b, rfl⟩ := len2 h; rfl) (fun _ => rfl) (by decide) (by decide +kernel) rfl rfl rfl (fun Ar L' hr => ?_)
  refine EvSs.cons ?_
  refine EvS.assignT ?_ rfl rfl
  refine' EvE.loc rfl rfl ?_ rfl rfl
  refine Ev1.assignTup rfl rfl ?_
  refine EvA.cons ?_ rfl
  refine Ev1.assignN ?_
  refine EvStoreC (pre := [_, _]) rfl rfl rfl rfl ?_
  refine EvA.cons ?_ rfl
  refine Ev1.assignN ?_
  refine EvStoreC (pre := [_]) rfl rfl rfl rfl ?_
  refine EvA.cons ?_ rfl
  refine Ev1.assignN ?_
  refine EvStoreC (pre := []) rfl rfl rfl rfl ?_
  refine EvA.nil ?_
  refine andThen_next ?_
  refine EvSs.cons ?_
  refine EvS.ret ?_
  refine EvE.comp (EvItC.of (EvIt.val ?_)) rfl (fun _ => rfl) (by decide +kernel) rfl (by decide +kernel)
  refine' EvE.loc rfl rfl ?_ rfl rfl
  refine lst_ok ?_
  refine tup_ok (by walk_at "side") ?_
  intro C D
  refine CompL.inv (fun ds ν l => ∃ done rest : List (Nat × Nat), ds = rest.map (fun q => pr2 q.1 q.2) ∧ done ++ rest = some ∧ l = (done.filter (inW N L le mo)).map fun q => pr2 q.1 q.2) ?_ ?_ _ _ _ ⟨[], some, rfl, rfl, rfl⟩
  · rintro d ds ν l ⟨done, rest, hd, hda, rfl⟩
    cases rest with
    | nil => cases hd
    | cons q rest =>
    cases hd
    have hq := hsm q (by rw [← hda]; simp)
    refine Ev1.assignN ?_
    refine EvStore rfl rfl ?_
    refine sto_ok ?_
    refine EvIfs.one ?_
    refine EvT.and ?_
    refine EvT.plain ?_ rfl
    refine' EvE.callK (by assumption) (G_law_covers _) (KI_law_covers _) ?_ rfl rfl rfl rfl rfl rfl
    refine EvAs.cons ?_ rfl
    refine EvE.cel rfl rfl (.inr (.tail _ (.tail _ (.head _)))) ?_ rfl rfl
    refine EvAs.cons ?_ rfl
    refine' EvE.loc rfl rfl ?_ rfl rfl
    refine EvAs.nil ?_
    refine EvL.gives (by dsimp only; omega) (sp_lcov W 0 N L q.1 q.2 (by omega) (by omega) (by omega) (by omega)) ?_
    refine Ev1.truthB ?_
    have fin : ∀ t : Bool, inW N L le mo q = t → ((List.filter (inW N L le mo) (done ++ [q])).map fun q => pr2 q.1 q.2) = if t then ((done.filter (inW N L le mo)).map fun q => pr2 q.1 q.2) ++ [pr2 q.1 q.2] else (done.filter (inW N L le mo)).map fun q => pr2 q.1 q.2 := by
      intro t ht
      rw [List.filter_append, List.map_append]
      cases t <;> simp [ht]
    refine ⟨fun h1 => ?_, fun h1 => ?_⟩
    · refine EvT.and ?_
      refine EvT.chain ?_ rfl
      refine EvE.cel rfl rfl (.inr (.tail _ (.head _))) ?_ rfl rfl
      refine EvE.sub ?_
      refine' EvE.loc rfl rfl ?_ rfl rfl
      refine EvE.int ?_
      refine' Ev2.subTup rfl rfl ?_ (fun _ _ => rfl) (by decide) (by decide)
      refine Ev2.leI ?_
      refine Ev1.truthB ?_
      refine ⟨fun h2 => ?_, fun h2 => ?_⟩
      · skip
        refine EvE.cel rfl rfl (.inr (.head _)) ?_ rfl rfl
        refine Ev2.leI ?_
        refine Ev1.truthB ?_
        refine ⟨fun h3 => ?_, fun h3 => ?_⟩
        · refine EvT.andNil ?_
          refine sto_ok ?_
          refine brT (by walk_at "cond") ?_
          refine' EvE.loc rfl rfl ?_ rfl rfl
          refine sto_ok ?_
          refine ⟨done ++ [q], rest, rfl, by rw [← hda]; simp, ?_⟩
          rw [fin true (by unfold inW; rw [h1, h2, h3]; rfl)]; rfl
        · refine sto_ok ?_
          refine brF (by walk_at "cond") ?_
          refine ⟨done ++ [q], rest, rfl, by rw [← hda]; simp, ?_⟩
          rw [fin false (by unfold inW; rw [h1, h2, h3]; rfl)]; rfl
      · refine brF (by walk_at "cond") ?_
        refine sto_ok ?_
        refine brF (by walk_at "cond") ?_
        refine ⟨done ++ [q], rest, rfl, by rw [← hda]; simp, ?_⟩
        rw [fin false (by unfold inW; rw [h1, h2]; rfl)]; rfl
    · refine sto_ok ?_
      refine brF (by walk_at "cond") ?_
      refine ⟨done ++ [q], rest, rfl, by rw [← hda]; simp, ?_⟩
      rw [fin false (by unfold inW; rw [h1]; rfl)]; rfl
  · rintro ν l ⟨done, rest, hd, hda, rfl⟩
    cases rest with
    | cons t rest => cases hd
    | nil =>
    rw [List.append_nil] at hda
    subst hda
    refine andThen_ret ?_
    refine fnEnd_ret ?_
    exact ⟨[], List.nil_sublist _, rfl, rfl⟩
end

/-! E18 -/
section
variable {hT : Heap} {w : World} {c : Cx} {ν : Loc} {μ : Store}
/-- a rule of the law: what it holds, whether it lets -/
noncomputable abbrev LR := List (Nat × Nat) × Bool
noncomputable abbrev lrA (r : LR) : AV := .tup [.lst (r.1.map fun q => pr2 q.1 q.2), .bool r.2]
noncomputable def letB (rules : List LR) (q : Nat × Nat) : Bool := match rules.find? (fun r => decide (q ∈ r.1)) with
  | some r => r.2
  | none => false
theorem deq_pr (p q : Nat × Nat) : deq (pr2 p.1 p.2) (pr2 q.1 q.2) = decide (p = q) := by
  obtain ⟨a, b⟩ := p
  obtain ⟨c, d⟩ := q
  unfold deq
  have e : ∀ x y : Nat, ((x : Int) == (y : Int)) = decide (x = y) := fun x y => by
    rw [Bool.eq_iff_iff]; simp; omega
  simp only [AV.py, AV.pys, PyData.eqv, PyData.eqvAll, e, Bool.and_true, Prod.mk.injEq, Bool.decide_and]
theorem eqvAll_pr : ∀ (l m : List (Nat × Nat)), PyData.eqvAll (AV.pys (l.map fun q => pr2 q.1 q.2)) (AV.pys (m.map fun q => pr2 q.1 q.2)) = decide (l = m)
  | [], [] => rfl
  | [], _ :: _ => rfl
  | _ :: _, [] => rfl
  | p :: l, q :: m => by
    have h := deq_pr p q
    have ih := eqvAll_pr l m
    unfold deq at h
    simp only [List.map_cons, AV.pys, PyData.eqvAll, h, ih, List.cons.injEq, Bool.decide_and]
theorem deq_prs (l m : List (Nat × Nat)) : deq (.lst (l.map fun q => pr2 q.1 q.2)) (.lst (m.map fun q => pr2 q.1 q.2)) = decide (l = m) := by
  have := eqvAll_pr l m
  unfold deq
  simp only [AV.py, PyData.eqv, this]
theorem cut1 (l : List AV) : cut l Option.none (Option.some 1) = l.take 1 := by
  unfold cut kms_lo kms_hi
  simp
theorem deq_true (l : List Bool) : deq (.lst (l.map .bool)) (.lst [.bool true]) = decide (l = [true]) := by
  unfold deq
  cases l with
  | nil => rfl
  | cons b l =>
    cases l with
    | nil => cases b <;> rfl
    | cons c l => cases b <;> simp [AV.py, AV.pys, PyData.eqv, PyData.eqvAll]
theorem ok_bools (l : List Bool) : (AV.lst (l.map .bool)).ok 1 = true := by
  show AV.oks 0 _ = true
  rw [AV.oks_iff]
  intro d hd
  obtain ⟨z, hz, rfl⟩ := List.mem_map.mp hd
  rfl
theorem let_first (rules : List LR) (q : Nat × Nat) : decide (((rules.filter fun r => decide (q ∈ r.1)).map (·.2)).take 1 = [true]) = letB rules q := by
  unfold letB
  induction rules with
  | nil => rfl
  | cons r rs ih =>
    by_cases h : q ∈ r.1
    · rw [List.filter_cons_of_pos (by simpa using h), List.find?_cons_of_pos (by simpa using h)]
      cases r.2 <;> simp
    · rw [List.filter_cons_of_neg (by simpa using h), List.find?_cons_of_neg (by simpa using h)]
      exact ih
theorem any_pr (l : List (Nat × Nat)) (q : Nat × Nat) : ((l.map fun q => pr2 q.1 q.2).any fun y => deq y (pr2 q.1 q.2)) = decide (q ∈ l) := by
  rw [List.any_map]
  have : ((fun y => deq y (pr2 q.1 q.2)) ∘ fun q => pr2 q.1 q.2) = fun p : Nat × Nat => decide (p = q) := funext fun p => deq_pr p q
  rw [this]
  by_cases h : q ∈ l
  · rw [decide_eq_true h, List.any_eq_true]; exact ⟨q, h, by simp⟩
  · rw [decide_eq_false h, List.any_eq_false]; intro p hp; simp; rintro rfl; exact h hp
theorem ok_pr (q : Nat × Nat) : (pr2 q.1 q.2).ok 1 = true := by simp [AV.ok, AV.oks]
theorem oks_pr (l : List (Nat × Nat)) : AV.oks 1 (l.map fun q => pr2 q.1 q.2) = true := by
  rw [AV.oks_iff]
  intro d hd
  obtain ⟨z, hz, rfl⟩ := List.mem_map.mp hd
  exact ok_pr z
theorem sp_let (W : Wd hT (KK w.params)) (n : Nat) (rules : List LR) (some : List (Nat × Nat)) (hz : some.length ≤ 100) (hr : rules.length ≤ 100) (hrs : ∀ r ∈ rules, r.1.length ≤ 100) :
    Spec hT PG w (n + 1) (.ref 522) [.lst (rules.map lrA), .lst (some.map fun q => pr2 q.1 q.2)] [] (Gives (.lst ((some.filter (letB rules)).map fun q => pr2 q.1 q.2)) []) := by
  refine Spec.frozen ?_
  refine Spec.drop ?_
  refine Spec.fnC W [Str.ofString "rules", Str.ofString "some"] [Str.ofString "pair"] (L_law_let _) (C_law_let _) rfl (fun vs h => by obtain ⟨a, b, rfl⟩ := len2 h; rfl) (fun _ => rfl) (by decide) (by decide +kernel) rfl rfl rfl (fun Ar L' hr' => ?_)
  refine EvSs.cons ?_
  refine EvS.assign ?_ rfl
  refine EvE.list ?_
  refine EvAs.nil ?_
  refine tup_ok (by walk_at "side") ?_
  intro a
  refine EvStore rfl rfl ?_
  refine andThen_next ?_
  refine EvSs.cons ?_
  refine EvS.for ?_ (fun _ => rfl)
  refine EvIt.val ?_
  refine' EvE.loc rfl rfl ?_ rfl rfl
  refine lst_ok ?_
  refine ForL.inv (fun ds ν μ => ∃ (done rest : List (Nat × Nat)) (v₀ : Option AV), ds = rest.map (fun q => pr2 q.1 q.2) ∧ done ++ rest = some ∧ ν (Str.ofString "rules") = Option.some (.lst (rules.map lrA)) ∧ ν (Str.ofString "found") = Option.some (.ref a) ∧
    μ = [(a, .list ((done.filter (letB rules)).map fun q => pr2 q.1 q.2)), (L' + 1 + ([] : List Str).length, .cell v₀)]) ?_ ?_ _ _ _ ⟨[], some, Option.none, rfl, rfl, rfl, rfl, rfl⟩
  · rintro d ds ν μ ⟨done, rest, v₀, hd, hda, h1, h2, rfl⟩
    cases rest with
    | nil => cases hd
    | cons q rest =>
    cases hd
    refine Ev1.assignN ?_
    refine EvStoreC (pre := [_]) rfl rfl rfl rfl ?_
    refine EvSs.cons ?_
    refine EvS.assign ?_ rfl
    refine EvE.slice ?_
    refine EvE.comp (EvItC.of (EvIt.val ?_)) rfl (fun _ => rfl) (by decide +kernel) rfl (by decide +kernel)
    refine' EvE.loc rfl (by assumption) ?_ rfl rfl
    refine lst_ok ?_
    refine tup_ok (by walk_at "side") ?_
    intro C D
    refine CompL.inv (fun ds ν l => ∃ dn rs' : List LR, ds = rs'.map lrA ∧ dn ++ rs' = rules ∧ l = (dn.filter fun r => decide (q ∈ r.1)).map fun r => AV.bool r.2) ?_ ?_ _ _ _ ⟨[], rules, rfl, rfl, rfl⟩
    · rintro d ds ν l ⟨dn, rs', hd, hdb, rfl⟩
      cases rs' with
      | nil => cases hd
      | cons r rs' =>
      cases hd
      refine Ev1.assignTup rfl rfl ?_
      refine EvA.cons ?_ rfl
      refine Ev1.assignN ?_
      refine EvStore rfl rfl ?_
      refine EvA.cons ?_ rfl
      refine Ev1.assignN ?_
      refine EvStore rfl rfl ?_
      refine EvA.nil ?_
      refine sto_ok ?_
      refine EvIfs.one ?_
      refine EvT.cmp ?_ rfl
      refine EvE.cel rfl rfl (.inr (.tail _ (.head _))) ?_ rfl rfl
      refine' EvE.loc rfl rfl ?_ rfl rfl
      refine Ev2.inLst 1 1 (oks_pr _) (ok_pr _) (by decide) ?_
      rw [any_pr]
      refine Ev1.truthB ?_
      refine sto_ok ?_
      refine ⟨fun hb => ?_, fun hb => ?_⟩
      · refine' EvE.loc rfl rfl ?_ rfl rfl
        refine sto_ok ?_
        refine ⟨dn ++ [r], rs', rfl, by rw [← hdb]; simp, ?_⟩
        rw [List.filter_append, List.filter_cons_of_pos (p := fun r : LR => decide (q ∈ r.1)) hb, List.filter_nil, List.map_append]; rfl
      · skip
        refine ⟨dn ++ [r], rs', rfl, by rw [← hdb]; simp, ?_⟩
        rw [List.filter_append, List.filter_cons_of_neg (by rw [hb]; decide), List.filter_nil, List.append_nil]
    · rintro ν l ⟨dn, rs', hd, hdb, rfl⟩
      cases rs' with
      | cons r rs' => cases hd
      | nil =>
      rw [List.append_nil] at hdb
      subst hdb
      refine EvP.none ?_
      refine EvP.some ?_
      refine EvE.int ?_
      refine int_ok ?_
      refine EvSl.lst (by rw [List.length_map]; exact Nat.le_trans (List.length_filter_le _ _) (by omega)) ?_
      rw [cut1, show ((dn.filter fun r => decide (q ∈ r.1)).map fun r => AV.bool r.2).take 1 = (((dn.filter fun r => decide (q ∈ r.1)).map (·.2)).take 1).map AV.bool by simp only [List.map_take, List.map_map, Function.comp_def]]
      refine EvStore rfl rfl ?_
      refine andThen_next ?_
      refine EvSs.cons ?_
      refine EvS.iff ?_
      refine EvT.cmp ?_ rfl
      refine' EvE.loc rfl rfl ?_ rfl rfl
      refine EvE.listF ?_
      refine EvAs.cons ?_ rfl
      refine EvE.bool ?_
      refine EvAs.nil ?_
      refine tup_ok (by walk_at "side") ?_
      refine Ev2.eq 1 1 (ok_bools _) (by decide) (by decide) (by decide) ?_
      rw [deq_true, let_first]
      refine Ev1.truthB ?_
      have hdl : done.length ≤ 100 := by have := congrArg List.length hda; rw [List.length_append] at this; omega
      refine ⟨fun hb => ?_, fun hb => ?_⟩
      · refine EvSs.cons ?_
        refine EvS.expr ?_ rfl rfl
        refine' EvE.append ?_ rfl rfl
        refine' EvE.loc rfl (by assumption) ?_ rfl rfl
        refine' app_ok (.head _) ?_
        refine EvE.cel rfl rfl (.inl (.tail _ (.head _))) ?_ rfl rfl
        refine ⟨[], _, _, rfl, by rw [List.length_map]; exact Nat.le_trans (List.length_filter_le _ _) (by omega), ?_⟩
        refine none_ok ?_
        refine andThen_next ?_
        refine EvSs.nil ?_
        refine andThen_next ?_
        refine EvSs.nil ?_
        refine ⟨done ++ [q], rest, Option.some (pr2 q.1 q.2), rfl, by rw [← hda]; simp, h1, h2, ?_⟩
        rw [List.filter_append, List.filter_cons_of_pos hb, List.filter_nil, List.map_append]; rfl
      · refine EvSs.nil ?_
        refine andThen_next ?_
        refine EvSs.nil ?_
        refine ⟨done ++ [q], rest, Option.some (pr2 q.1 q.2), rfl, by rw [← hda]; simp, h1, h2, ?_⟩
        rw [List.filter_append, List.filter_cons_of_neg (by rw [hb]; decide), List.filter_nil, List.append_nil]; rfl
  · rintro ν μ ⟨done, rest, v₀, hd, hda, h1, h2, rfl⟩
    cases rest with
    | cons t rest => cases hd
    | nil =>
    rw [List.append_nil] at hda
    subst hda
    refine andThen_next ?_
    refine EvSs.cons ?_
    refine EvS.ret ?_
    refine' EvE.loc rfl (by assumption) ?_ rfl rfl
    refine andThen_ret ?_
    refine fnEnd_ret ?_
    exact ⟨_, List.Sublist.cons_cons _ (List.nil_sublist _), a, rfl, rfl⟩
end

/-! E19 -/
/-! the lexer over texts that are joined -/
inductive Tmd : List AV → List AV → Prop
  | nil : Tmd [] []
  | cons {k v i j r s} : Tmd r s → Tmd (tok k v i :: r) (tok k v j :: s)
theorem Tmd.append : ∀ {a b c d}, Tmd a b → Tmd c d → Tmd (a ++ c) (b ++ d)
  | _, _, _, _, .nil, h => h
  | _, _, _, _, .cons r, h => .cons (r.append h)
theorem Tmd.length : ∀ {a b}, Tmd a b → a.length = b.length
  | _, _, .nil => rfl
  | _, _, .cons r => congrArg (· + 1) r.length
theorem Tmd.split : ∀ {a b c : List AV}, Tmd a (b ++ c) → ∃ p q, a = p ++ q ∧ Tmd p b ∧ Tmd q c
  | a, [], c, h => ⟨[], a, rfl, .nil, h⟩
  | _, _ :: b, c, .cons h => by
    obtain ⟨p, q, rfl, h1, h2⟩ := h.split
    exact ⟨_ :: p, q, rfl, .cons h1, h2⟩
noncomputable abbrev sBl : Str := Str.ofString " \t\r\n"
noncomputable abbrev sLe : Str := Str.ofString "abcdefghijklmnopqrstuvwxyzABCDEFGHIJKLMNOPQRSTUVWXYZ"
noncomputable abbrev sWd : Str := Str.ofString "abcdefghijklmnopqrstuvwxyzABCDEFGHIJKLMNOPQRSTUVWXYZ0123456789-_"
noncomputable abbrev sFi : Str := Str.ofString "0123456789"
noncomputable abbrev sNu : Str := Str.ofString "0123456789./:"
theorem runZ_app {S : Str} {l rest : List Nat} (h : runZ S l < l.length) : runZ S (l ++ rest) = runZ S l := by
  unfold runZ at h ⊢
  rw [List.takeWhile_append, if_neg (by omega)]
/-- one turn, whatever stands behind -/
theorem stepZ_app {c : Nat} {r rest : List Nat} {n : Nat} {t : List AV} (i : Nat) (h : stepZ (c :: r) 0 = some (n, t)) (hn : n < (c :: r).length ∨ has ⟨#[c]⟩ sBl = true) :
    n ≤ (c :: r).length ∧ ∃ t', stepZ (c :: (r ++ rest)) i = some (n, t') ∧ Tmd t' t := by
  unfold stepZ at h ⊢
  dsimp only at h ⊢
  by_cases hb : has ⟨#[c]⟩ sBl = true
  · rw [if_pos hb] at h ⊢
    cases h
    exact ⟨by simp, _, rfl, .nil⟩
  rw [if_neg hb] at h ⊢
  have hn := hn.resolve_right hb
  by_cases h35 : c = 35
  · rw [if_pos h35] at h; cases h
  rw [if_neg h35] at h ⊢
  by_cases hl : has ⟨#[c]⟩ sLe = true
  · rw [if_pos hl] at h ⊢
    by_cases hz : runZ sWd (c :: r) = 0
    · rw [if_pos hz] at h; cases h
    rw [if_neg hz] at h
    cases h
    have e : runZ sWd (c :: (r ++ rest)) = runZ sWd (c :: r) := runZ_app (l := c :: r) hn
    rw [e, if_neg hz]
    refine ⟨runZ_le _ _, _, rfl, ?_⟩
    rw [show (c :: (r ++ rest)).take (runZ sWd (c :: r)) = (c :: r).take (runZ sWd (c :: r)) from List.take_append_of_le_length (l₁ := c :: r) (runZ_le _ _)]
    exact .cons .nil
  rw [if_neg hl] at h ⊢
  by_cases hf : has ⟨#[c]⟩ sFi = true
  · rw [if_pos hf] at h ⊢
    by_cases hz : runZ sNu (c :: r) = 0
    · rw [if_pos hz] at h; cases h
    rw [if_neg hz] at h
    have hlt : runZ sNu (c :: r) < (c :: r).length := by
      split at h
      · cases h; exact hn
      · split at h
        · cases h; exact hn
        · cases h
    have e : runZ sNu (c :: (r ++ rest)) = runZ sNu (c :: r) := runZ_app (l := c :: r) hlt
    rw [e, if_neg hz]
    rw [show (c :: (r ++ rest)).take (runZ sNu (c :: r)) = (c :: r).take (runZ sNu (c :: r)) from List.take_append_of_le_length (l₁ := c :: r) (runZ_le _ _)]
    have hle : n ≤ (c :: r).length := by
      split at h
      · cases h; exact runZ_le _ _
      · split at h
        · cases h; exact runZ_le _ _
        · cases h
    refine ⟨hle, ?_⟩
    split at h
    · rename_i hp
      cases h
      rw [if_pos hp]
      exact ⟨_, rfl, .cons .nil⟩
    · rename_i hp
      rw [if_neg hp]
      split at h
      · rename_i hq
        cases h
        rw [if_pos hq]
        exact ⟨_, rfl, .cons .nil⟩
      · cases h
  rw [if_neg hf] at h ⊢
  by_cases hb2 : c = 123 ∨ c = 125
  · rw [if_pos hb2] at h ⊢
    cases r with
    | nil => cases h
    | cons d r =>
      dsimp only at h
      split at h
      · rename_i hd
        cases h
        refine ⟨by simp, ?_⟩
        dsimp only [List.cons_append]
        rw [if_pos hd]
        exact ⟨_, rfl, .cons .nil⟩
      · cases h
  · rw [if_neg hb2] at h; cases h
noncomputable def lexC : Nat → List Nat → Option (List AV)
  | 0, _ => none
  | _ + 1, [] => some []
  | f + 1, c :: r => match stepZ (c :: r) 0 with
    | some (n, t) => if decide (n < (c :: r).length) || has ⟨#[c]⟩ sBl then (lexC f ((c :: r).drop n)).map (t ++ ·) else none
    | none => none
/-- a text that ends between two tokens -/
noncomputable def Lx (l : List Nat) (us : List AV) : Prop := ∃ f, lexC f l = some us
theorem lexC_app {rest : List Nat} {vs : List AV} (hr : ∀ i, ∃ F ts, lexZ F rest i = some ts ∧ Tmd ts vs) : ∀ (f : Nat) (l : List Nat) (us : List AV), lexC f l = some us → ∀ i, ∃ F ts, lexZ F (l ++ rest) i = some ts ∧ Tmd ts (us ++ vs)
  | 0, _, _, h, _ => by cases h
  | f + 1, [], us, h, i => by cases h; exact hr i
  | f + 1, c :: r, us, h, i => by
    unfold lexC at h
    cases hs : stepZ (c :: r) 0 with
    | none => rw [hs] at h; cases h
    | some nt =>
      obtain ⟨n, t⟩ := nt
      rw [hs] at h
      dsimp only at h
      by_cases hc : (decide (n < (c :: r).length) || has ⟨#[c]⟩ sBl) = true
      · rw [if_pos hc] at h
        cases hl : lexC f ((c :: r).drop n) with
        | none => rw [hl] at h; cases h
        | some us' =>
          rw [hl] at h
          cases h
          have hc' : n < (c :: r).length ∨ has ⟨#[c]⟩ sBl = true := by rw [Bool.or_eq_true, decide_eq_true_eq] at hc; exact hc
          obtain ⟨hle, t', h1, h2⟩ := stepZ_app (rest := rest) i hs hc'
          obtain ⟨F, ts, h3, h4⟩ := lexC_app hr f _ _ hl (i + n)
          refine ⟨F + 1, t' ++ ts, ?_, by rw [List.append_assoc]; exact h2.append h4⟩
          show lexZ (F + 1) (c :: (r ++ rest)) i = _
          unfold lexZ
          rw [h1]
          dsimp only
          have e : (c :: (r ++ rest)).drop n = (c :: r).drop n ++ rest := List.drop_append_of_le_length (l₁ := c :: r) hle
          rw [e, h3]
          rfl
      · rw [if_neg hc] at h; cases h
/-- texts one behind the other -/
inductive Lxs : List Nat → List AV → Prop
  | nil : Lxs [] []
  | cons {a us b vs} : Lx a us → Lxs b vs → Lxs (a ++ b) (us ++ vs)
theorem Lxs.append {c : List Nat} {ws : List AV} (h : Lxs c ws) : ∀ {a us}, Lxs a us → Lxs (a ++ c) (us ++ ws)
  | _, _, .nil => h
  | _, _, .cons x r => by rw [List.append_assoc, List.append_assoc]; exact .cons x (h.append r)
theorem Lxs.lex : ∀ {a us}, Lxs a us → ∀ i, ∃ F ts, lexZ F a i = some ts ∧ Tmd ts us
  | _, _, .nil, i => ⟨1, [], rfl, .nil⟩
  | _, _, .cons ⟨f, h⟩ r, i => lexC_app r.lex f _ _ h i
theorem Lxs.one {a us} (h : Lx a us) : Lxs a us := by simpa using Lxs.cons h .nil
/-! data compared -/
mutual
noncomputable def avEq : AV → AV → Bool
  | .none, .none => true
  | .bool a, .bool b => a == b
  | .int a, .int b => a == b
  | .str a, .str b => a == b
  | .tup a, .tup b => avsEq a b
  | _, _ => false
noncomputable def avsEq : List AV → List AV → Bool
  | [], [] => true
  | a :: r, b :: s => avEq a b && avsEq r s
  | _, _ => false
end
mutual
theorem avEq_eq : ∀ a b : AV, avEq a b = true → a = b
  | .none, .none, _ => rfl
  | .bool a, .bool b, h => by rw [avEq, beq_iff_eq] at h; rw [h]
  | .int a, .int b, h => by rw [avEq, beq_iff_eq] at h; rw [h]
  | .str a, .str b, h => by rw [avEq, beq_iff_eq] at h; rw [h]
  | .tup a, .tup b, h => by rw [avEq] at h; rw [avsEq_eq a b h]
theorem avsEq_eq : ∀ a b : List AV, avsEq a b = true → a = b
  | [], [], _ => rfl
  | a :: r, b :: s, h => by
    rw [avsEq, Bool.and_eq_true] at h
    rw [avEq_eq a b h.1, avsEq_eq r s h.2]
end
noncomputable def lxOk (l : List Nat) (us : List AV) : Bool := match lexC 40 l with
  | some vs => avsEq vs us
  | none => false
theorem Lx.of {l : List Nat} {us : List AV} (h : lxOk l us = true) : Lx l us := by
  unfold lxOk at h
  split at h
  · rename_i vs e
    exact ⟨40, by rw [e, avsEq_eq _ _ h]⟩
  · cases h
noncomputable abbrev cp (s : String) : List Nat := (Str.ofString s).cps.toList
theorem lx_is : Lx (cp "prefix is ") [wd "prefix" 0, wd "is" 0] := .of (by decide +kernel)
theorem lx_in : Lx (cp "prefix in ") [wd "prefix" 0, wd "in" 0] := .of (by decide +kernel)
theorem lx_ge : Lx (cp "ge ") [wd "ge" 0] := .of (by decide +kernel)
theorem lx_le : Lx (cp "le ") [wd "le" 0] := .of (by decide +kernel)
theorem lx_then : Lx (cp "then ") [wd "then" 0] := .of (by decide +kernel)
theorem lx_acc : Lx (cp "accept }\n") [wd "accept" 0, sg "}" 0] := .of (by decide +kernel)
theorem lx_rej : Lx (cp "reject }\n") [wd "reject" 0, sg "}" 0] := .of (by decide +kernel)
theorem lx_sp : Lx (cp " ") [] := .of (by decide +kernel)
noncomputable abbrev nm (k : Nat) : Str := Str.ofString "r" ++ (toString (k : Int) : String)
noncomputable def nameOk : Bool := (List.range 3).all fun k => lxOk ((Str.ofString "term r" ++ ((toString (k : Int) : String) : Str)).cps.toList ++ cp " { if ") [wd "term" 0, tok (Str.ofString "word") (.str (nm k)) 0, sg "{" 0, wd "if" 0]
theorem nameOk_t : nameOk = true := by decide +kernel
noncomputable def numTxt (k : Nat) : Str := ((toString (k : Int) : String) : Str)
noncomputable def pfxTxt (N L : Nat) : Str := numTxt (N * 2 ^ (8 - L)) ++ Str.ofString ".0.0.0/" ++ numTxt L
noncomputable def pfxOk : Bool := (List.range 4).all fun L => (List.range (2 ^ L)).all fun N => lxOk ((pfxTxt N L).cps.toList ++ cp " ") [pf (.tup [.int ((N * 2 ^ (32 - L) : Nat) : Int), .int (L : Nat)]) 0]
theorem pfxOk_t : pfxOk = true := by decide +kernel
noncomputable def numOk : Bool := (List.range 33).all fun k => lxOk ((numTxt k).cps.toList ++ cp " ") [nb (k : Nat) 0]
theorem numOk_t : numOk = true := by decide +kernel
/-! words -/
structure Wrd where
  N : Nat
  L : Nat
  is : Bool
  ge : Option Nat
  le : Option Nat
noncomputable def Wrd.least (w : Wrd) : Nat := if w.is then w.L else w.ge.getD w.L
noncomputable def Wrd.most (w : Wrd) : Nat := if w.is then w.L else w.le.getD 32
structure Wrd.Ok (w : Wrd) : Prop where
  l : w.L ≤ 3
  n : w.N < 2 ^ w.L
  i : w.is = true → w.ge = none ∧ w.le = none
  g : ∀ g, w.ge = some g → w.L ≤ g ∧ g ≤ 3
  m : ∀ m, w.le = some m → w.ge.getD w.L ≤ m ∧ m ≤ 3
noncomputable def Wrd.txt (w : Wrd) : Str :=
  let t := (if w.is then Str.ofString "prefix is " else Str.ofString "prefix in ") ++ pfxTxt w.N w.L
  let t := match w.ge with
    | none => t
    | some g => t ++ Str.ofString " ge " ++ numTxt g
  match w.le with
    | none => t
    | some m => t ++ Str.ofString " le " ++ numTxt m
noncomputable def Wrd.X (w : Wrd) : AV := .tup [.int ((w.N * 2 ^ (32 - w.L) : Nat) : Int), .int (w.L : Nat)]
noncomputable def optU (s : String) : Option Nat → List AV
  | none => []
  | some g => [wd s 0, nb (g : Nat) 0]
noncomputable def Wrd.toks (w : Wrd) : List AV := [wd "prefix" 0, if w.is then wd "is" 0 else wd "in" 0, pf w.X 0] ++ (optU "ge" w.ge ++ optU "le" w.le)
theorem cps_app (a b : Str) : (a ++ b).cps.toList = a.cps.toList ++ b.cps.toList := by
  show (a.cps ++ b.cps).toList = _
  simp
theorem pfx_lx {N L : Nat} (h : L ≤ 3) (h2 : N < 2 ^ L) : Lx ((pfxTxt N L).cps.toList ++ cp " ") [pf (.tup [.int ((N * 2 ^ (32 - L) : Nat) : Int), .int (L : Nat)]) 0] :=
  .of (List.all_eq_true.mp (List.all_eq_true.mp pfxOk_t L (List.mem_range.mpr (by omega))) N (List.mem_range.mpr h2))
theorem num_lx {k : Nat} (h : k ≤ 32) : Lx ((numTxt k).cps.toList ++ cp " ") [nb (k : Nat) 0] :=
  .of (List.all_eq_true.mp numOk_t k (List.mem_range.mpr (by omega)))
theorem cp_ge : cp " ge " = cp " " ++ cp "ge " := by decide +kernel
theorem cp_le : cp " le " = cp " " ++ cp "le " := by decide +kernel
theorem cp_then : cp " then " = cp " " ++ cp "then " := by decide +kernel
/-- a text whose last token wants a blank behind it -/
noncomputable def LxB (l : List Nat) (us : List AV) : Prop := Lxs (l ++ cp " ") us
theorem LxB.num {l : List Nat} {us : List AV} {s s' : String} {g : Nat} {q : List Nat} (h : LxB l us) (hq : q = cp " " ++ cp s') (hs : Lx (cp s') [wd s 0]) (hg : g ≤ 32) : LxB (l ++ q ++ (numTxt g).cps.toList) (us ++ [wd s 0, nb (g : Nat) 0]) := by
  have := (Lxs.cons hs (Lxs.one (num_lx hg))).append h
  subst hq
  unfold LxB
  simpa using this
theorem row_lx {w : Wrd} (h : w.Ok) : LxB w.txt.cps.toList w.toks := by
  have base : LxB ((if w.is then Str.ofString "prefix is " else Str.ofString "prefix in ") ++ pfxTxt w.N w.L).cps.toList [wd "prefix" 0, if w.is then wd "is" 0 else wd "in" 0, pf w.X 0] := by
    unfold LxB
    rw [cps_app, List.append_assoc]
    cases w.is
    · exact Lxs.cons lx_in (Lxs.one (pfx_lx h.l h.n))
    · exact Lxs.cons lx_is (Lxs.one (pfx_lx h.l h.n))
  unfold Wrd.txt Wrd.toks
  have hm := h.m
  have hg := h.g
  revert hm hg
  generalize w.ge = ge
  generalize w.le = le
  intro hm hg
  have two : LxB (match ge with
    | none => (if w.is then Str.ofString "prefix is " else Str.ofString "prefix in ") ++ pfxTxt w.N w.L
    | some g => (if w.is then Str.ofString "prefix is " else Str.ofString "prefix in ") ++ pfxTxt w.N w.L ++ Str.ofString " ge " ++ numTxt g).cps.toList ([wd "prefix" 0, if w.is then wd "is" 0 else wd "in" 0, pf w.X 0] ++ optU "ge" ge) := by
    cases ge with
    | none => exact base
    | some g =>
      have := hg g rfl
      have := base.num (g := g) cp_ge lx_ge (by omega)
      rw [cps_app, cps_app]
      exact this
  cases le with
  | none => simpa [optU] using two
  | some m =>
    have := hm m rfl
    have := two.num (g := m) cp_le lx_le (by omega)
    dsimp only
    rw [cps_app, cps_app, ← List.append_assoc]
    exact this
noncomputable def verd (b : Bool) : Str := if b then Str.ofString "accept" else Str.ofString "reject"
/-- a rule as the text tells it -/
noncomputable def termU (k : Nat) (w : Wrd) (b : Bool) : List AV := [wd "term" 0, tok (Str.ofString "word") (.str (nm k)) 0, sg "{" 0, wd "if" 0] ++ w.toks ++ [wd "then" 0, tok (Str.ofString "word") (.str (verd b)) 0, sg "}" 0]
noncomputable def termT (t : Str) (k : Nat) (w : Wrd) (b : Bool) : Str := t ++ Str.ofString "term r" ++ numTxt k ++ Str.ofString " { if " ++ w.txt ++ Str.ofString " then " ++ verd b ++ Str.ofString " }\n"
theorem cp_acc : cp "accept }\n" = cp "accept" ++ cp " }\n" := by decide +kernel
theorem cp_rej : cp "reject }\n" = cp "reject" ++ cp " }\n" := by decide +kernel
theorem name_lx {k : Nat} (h : k < 3) : Lx ((Str.ofString "term r" ++ numTxt k).cps.toList ++ cp " { if ") [wd "term" 0, tok (Str.ofString "word") (.str (nm k)) 0, sg "{" 0, wd "if" 0] :=
  .of (List.all_eq_true.mp nameOk_t k (List.mem_range.mpr h))
theorem term_lx {t : Str} {us : List AV} {k : Nat} {w : Wrd} {b : Bool} (ht : Lxs t.cps.toList us) (hk : k < 3) (hw : w.Ok) : Lxs (termT t k w b).cps.toList (us ++ termU k w b) := by
  have h1 := row_lx hw
  have h0 := name_lx hk
  unfold LxB at h1
  have hv : Lx ((verd b).cps.toList ++ cp " }\n") [tok (Str.ofString "word") (.str (verd b)) 0, sg "}" 0] := by
    cases b
    · have := lx_rej; rw [cp_rej] at this; exact this
    · have := lx_acc; rw [cp_acc] at this; exact this
  have e : (termT t k w b).cps.toList = t.cps.toList ++ (((Str.ofString "term r" ++ numTxt k).cps.toList ++ cp " { if ") ++ ((w.txt.cps.toList ++ cp " ") ++ (cp "then " ++ ((verd b).cps.toList ++ cp " }\n")))) := by
    unfold termT
    simp only [cps_app]
    rw [show (Str.ofString " then ").cps.toList = cp " " ++ cp "then " from cp_then]
    simp only [List.append_assoc]
  rw [e]
  refine Lxs.append ?_ ht
  have := Lxs.cons h0 (Lxs.append (Lxs.cons lx_then (Lxs.one hv)) h1)
  exact this
noncomputable def numLen : Bool := (List.range 256).all fun k => decide ((numTxt k).length ≤ 3)
theorem numLen_t : numLen = true := by decide +kernel
theorem num_len {k : Nat} (h : k ≤ 255) : (numTxt k).length ≤ 3 := of_decide_eq_true (List.all_eq_true.mp numLen_t k (List.mem_range.mpr (by omega)))
section
variable {hT : Heap} {w : World} {c : Cx} {ν : Loc} {μ : Store}
noncomputable def Wrd.A (w : Wrd) : AV := .tup [pr2 w.N w.L, .int (w.least : Nat), .int (w.most : Nat)]
theorem EvL.strN {j : Nat} {k : Kt AV} (hj : j ≤ 255) (h : k (.str (numTxt j)) ν μ) : EvL hT PG w c (fun vs => call (.type "str") vs) Rd [.int (j : Nat)] ν μ k :=
  EvL.strI (Nat.lt_of_le_of_lt (Nat.log2_le_self _) (by omega)) h
theorem ln_0 : (Str.ofString ".0.0.0/").length = 7 := by decide +kernel
theorem ln_is : (Str.ofString "prefix is ").length = 10 := by decide +kernel
theorem ln_in : (Str.ofString "prefix in ").length = 10 := by decide +kernel
theorem ln_ge : (Str.ofString " ge ").length = 4 := by decide +kernel
theorem ln_le : (Str.ofString " le ").length = 4 := by decide +kernel
theorem small_mul {N L : Nat} (hL : L ≤ 3) (hN : N < 2 ^ L) : N * 2 ^ (8 - L) ≤ 255 := by
  have t : ((List.range 4).all fun L => (List.range (2 ^ L)).all fun N => decide (N * 2 ^ (8 - L) ≤ 255)) = true := by decide +kernel
  exact of_decide_eq_true (List.all_eq_true.mp (List.all_eq_true.mp t L (List.mem_range.mpr (by omega))) N (List.mem_range.mpr hN))
theorem small_two {L : Nat} (hL : L ≤ 3) : 2 ^ L ≤ 8 := by
  have : 2 ^ L ≤ 2 ^ 3 := Nat.pow_le_pow_right (by decide) hL
  omega
theorem cast_mul (N L : Nat) (hL : L ≤ 3) : (N : Int) * 2 ^ ((8 : Int) - (L : Int)).toNat = ((N * 2 ^ (8 - L) : Nat) : Int) := by
  have : ((8 : Int) - (L : Int)).toNat = 8 - L := by omega
  rw [this]; simp
local macro_rules | `(tactic| walk_at "side") => `(tactic| ((simp only [Str.length_append, ln_0, ln_is, ln_in, ln_ge, ln_le, pfxTxt]; omega)))
theorem sp_word (W : Wd hT (KK w.params)) (n : Nat) (b : Addr) (l : List Int) (k : Int) (B : Nat) (hB : B = 2 ∨ B = 3) (h0 : 0 ≤ k) (h1 : k ≤ 900) (hl : l.length ≤ 1000) :
    Spec hT PG w (n + 2) (.ref 505) [.ref b, .int (B : Nat)] (bx b l k) fun d μ' => ∃ (w : Wrd) (k' : Int), w.Ok ∧ k ≤ k' ∧ k' ≤ k + 5 ∧ d = .tup [w.A, .str w.txt] ∧ μ' = bx b l k' := by
  refine Spec.drop ?_
  refine Spec.fn W (L_law_word _) (C_law_word _) (fun s g vs _ _ hv => binds_of (qual := "") [Str.ofString "box", Str.ofString "bits"] rfl (by decide) (by decide +kernel) (fun vs h => by obtain ⟨a, b, rfl⟩ := len2 h; rfl) s g vs hv) (by decide +kernel) rfl rfl rfl (fun Ar L' hr => ?_)
  refine EvSs.cons ?_
  refine' EvS.assignSw ?_ rfl rfl
  refine EvE.tuple ?_
  refine EvAs.cons ?_ rfl
  refine' EvE.callK (by assumption) (G_law_draw _) (KI_law_draw _) ?_ rfl rfl rfl rfl rfl rfl
  refine EvAs.cons ?_ rfl
  refine' EvE.loc rfl rfl ?_ rfl rfl
  refine EvAs.cons ?_ rfl
  refine EvE.int ?_
  refine EvAs.nil ?_
  refine EvL.whole (by dsimp only; omega) (sp_draw W 0 b l k 5 h0 (by omega) hl (by decide)) fun d μ' q => ?_
  obtain ⟨z1, hz1, rfl, rfl⟩ := q
  refine EvAs.cons ?_ rfl
  refine EvE.binop ?_
  refine' EvE.loc rfl rfl ?_ rfl rfl
  refine' EvE.callK (by assumption) (G_law_draw _) (KI_law_draw _) ?_ rfl rfl rfl rfl rfl rfl
  refine EvAs.cons ?_ rfl
  refine' EvE.loc rfl rfl ?_ rfl rfl
  refine EvAs.cons ?_ rfl
  refine EvE.binop ?_
  refine' EvE.loc rfl rfl ?_ rfl rfl
  refine EvE.int ?_
  refine Ev2.add ?_
  refine EvAs.nil ?_
  refine EvL.whole (by dsimp only; omega) (sp_draw W 0 b l (k + 1) _ (by omega) (by omega) hl (by omega)) fun d μ' q => ?_
  obtain ⟨z2, hz2, rfl, rfl⟩ := q
  refine Ev2.sub ?_
  refine EvAs.nil ?_
  refine tup_ok (by walk_at "side") ?_
  refine sw_ok ?_
  refine EvStore rfl rfl ?_
  refine EvStore rfl rfl ?_
  refine andThen_next ?_
  refine EvSs.cons ?_
  refine EvS.assign ?_ rfl
  refine' EvE.callK (by assumption) (G_law_draw _) (KI_law_draw _) ?_ rfl rfl rfl rfl rfl rfl
  refine EvAs.cons ?_ rfl
  refine' EvE.loc rfl rfl ?_ rfl rfl
  refine EvAs.cons ?_ rfl
  refine EvE.binop ?_
  refine EvE.int ?_
  refine' EvE.loc rfl rfl ?_ rfl rfl
  refine' Ev2.pow (by walk_at "side") (by walk_at "side") (by walk_at "side") ?_
  refine EvAs.nil ?_
  obtain ⟨L, hL3, eL⟩ : ∃ L : Nat, L ≤ 3 ∧ (B : Int) - (z2 : Int) = (L : Int) := ⟨B - z2, by omega, by omega⟩
  rw [eL, Int.toNat_natCast]
  refine EvL.whole (by dsimp only; omega) (sp_draw W 0 b l (k + 1 + 1) _ (by omega) (by omega) hl (pow_pos2 L)) fun d μ' q => ?_
  obtain ⟨N, hN, rfl, rfl⟩ := q
  have hN : N < 2 ^ L := by
    have e : ((2 ^ L : Nat) : Int) = (2 : Int) ^ L := by simp
    rw [← e] at hN; omega
  have hN8 := small_two hL3
  refine EvStore rfl rfl ?_
  refine andThen_next ?_
  refine EvSs.cons ?_
  refine EvS.assign ?_ rfl
  refine EvE.binop ?_
  refine EvE.binop ?_
  refine' EvE.callT (by assumption) (B_str _) (BB_str) (by decide) ?_ rfl rfl rfl rfl rfl rfl rfl
  refine EvAs.cons ?_ rfl
  refine EvE.binop ?_
  refine' EvE.loc rfl rfl ?_ rfl rfl
  refine EvE.binop ?_
  refine EvE.int ?_
  refine EvE.binop ?_
  refine EvE.int ?_
  refine' EvE.loc rfl rfl ?_ rfl rfl
  refine Ev2.sub ?_
  refine' Ev2.pow (by walk_at "side") (by walk_at "side") (by walk_at "side") ?_
  refine' Ev2.mul (by walk_at "side") ?_
  refine EvAs.nil ?_
  rw [cast_mul N L hL3]
  have n1 := num_len (small_mul hL3 hN)
  have n2 := num_len (k := L) (by omega)
  refine EvL.strN (small_mul hL3 hN) ?_
  refine EvE.str ?_
  refine' Ev2.addS (by walk_at "side") ?_
  refine' EvE.callT (by assumption) (B_str _) (BB_str) (by decide) ?_ rfl rfl rfl rfl rfl rfl rfl
  refine EvAs.cons ?_ rfl
  refine' EvE.loc rfl rfl ?_ rfl rfl
  refine EvAs.nil ?_
  refine EvL.strN (by omega) ?_
  refine' Ev2.addS (by walk_at "side") ?_
  refine EvStore rfl rfl ?_
  refine andThen_next ?_
  refine EvSs.cons ?_
  refine' EvS.assignSw ?_ rfl rfl
  refine EvE.tuple ?_
  refine EvAs.cons ?_ rfl
  refine' EvE.loc rfl rfl ?_ rfl rfl
  refine EvAs.cons ?_ rfl
  refine EvE.ifx ?_
  refine EvT.cmp ?_ rfl
  refine' EvE.loc rfl rfl ?_ rfl rfl
  refine EvE.int ?_
  refine Ev2.eqI ?_
  refine Ev1.truthB ?_
  have hz : z1 = 0 ∨ z1 = 1 ∨ z1 = 2 ∨ z1 = 3 ∨ z1 = 4 := by omega
  have g2 : ∀ x y : Nat, x ≤ 3 → ∃ g : Nat, (if (B : Int) < (x : Int) + (y : Int) then (B : Int) else (x : Int) + (y : Int)) = (g : Int) ∧ (x ≤ g ∨ g = B) ∧ g ≤ 3 := fun x y hx => by
    by_cases h : (B : Int) < (x : Int) + (y : Int)
    · rw [if_pos h]; exact ⟨B, rfl, .inr rfl, by omega⟩
    · rw [if_neg h]; exact ⟨x + y, by omega, .inl (by omega), by omega⟩
  have hLB : L ≤ B := by omega
  rcases hz with rfl | rfl | rfl | rfl | rfl
  · refine brT (by walk_at "cond") ?_
    refine' EvE.loc rfl rfl ?_ rfl rfl
    refine EvAs.nil ?_
    refine tup_ok (by walk_at "side") ?_
    refine sw_ok ?_
    refine EvStore rfl rfl ?_
    refine EvStore rfl rfl ?_
    refine andThen_next ?_
    refine EvSs.cons ?_
    refine EvS.assign ?_ rfl
    refine EvE.binop ?_
    refine EvE.ifx ?_
    refine EvT.cmp ?_ rfl
    refine' EvE.loc rfl rfl ?_ rfl rfl
    refine EvE.int ?_
    refine Ev2.eqI ?_
    refine Ev1.truthB ?_
    refine brT (by walk_at "cond") ?_
    refine EvE.str ?_
    refine' EvE.loc rfl rfl ?_ rfl rfl
    refine' Ev2.addS (by walk_at "side") ?_
    refine EvStore rfl rfl ?_
    refine andThen_next ?_
    refine EvSs.cons ?_
    refine EvS.iff ?_
    refine EvT.cmp ?_ rfl
    refine' EvE.loc rfl rfl ?_ rfl rfl
    refine EvE.tuple ?_
    refine EvAs.cons ?_ rfl
    refine EvE.int ?_
    refine EvAs.cons ?_ rfl
    refine EvE.int ?_
    refine EvAs.nil ?_
    refine tup_ok (by walk_at "side") ?_
    refine Ev2.inTup 0 0 (by decide +kernel) (by decide +kernel) (by decide) ?_
    refine Ev1.truthB ?_
    refine brF (by walk_at "cond") ?_
    refine EvSs.nil ?_
    refine andThen_next ?_
    refine EvSs.cons ?_
    refine EvS.iff ?_
    refine EvT.cmp ?_ rfl
    refine' EvE.loc rfl rfl ?_ rfl rfl
    refine EvE.tuple ?_
    refine EvAs.cons ?_ rfl
    refine EvE.int ?_
    refine EvAs.cons ?_ rfl
    refine EvE.int ?_
    refine EvAs.nil ?_
    refine tup_ok (by walk_at "side") ?_
    refine Ev2.inTup 0 0 (by decide +kernel) (by decide +kernel) (by decide) ?_
    refine Ev1.truthB ?_
    refine brF (by walk_at "cond") ?_
    refine EvSs.nil ?_
    refine andThen_next ?_
    refine EvSs.cons ?_
    refine EvS.ret ?_
    refine EvE.tuple ?_
    refine EvAs.cons ?_ rfl
    refine EvE.tuple ?_
    refine EvAs.cons ?_ rfl
    refine EvE.tuple ?_
    refine EvAs.cons ?_ rfl
    refine' EvE.loc rfl rfl ?_ rfl rfl
    refine EvAs.cons ?_ rfl
    refine' EvE.loc rfl rfl ?_ rfl rfl
    refine EvAs.nil ?_
    refine tup_ok (by walk_at "side") ?_
    refine EvAs.cons ?_ rfl
    refine' EvE.loc rfl rfl ?_ rfl rfl
    refine EvAs.cons ?_ rfl
    refine' EvE.loc rfl rfl ?_ rfl rfl
    refine EvAs.nil ?_
    refine tup_ok (by walk_at "side") ?_
    refine EvAs.cons ?_ rfl
    refine' EvE.loc rfl rfl ?_ rfl rfl
    refine EvAs.nil ?_
    refine tup_ok (by walk_at "side") ?_
    refine andThen_ret ?_
    refine fnEnd_ret ?_
    exact ⟨_, List.Sublist.refl _, ⟨N, L, true, none, none⟩, _, ⟨hL3, hN, fun _ => ⟨rfl, rfl⟩, fun _ e => (nomatch e), fun _ e => (nomatch e)⟩, by omega, by omega, rfl, rfl⟩
  · refine brF (by walk_at "cond") ?_
    refine EvE.int ?_
    refine EvAs.nil ?_
    refine tup_ok (by walk_at "side") ?_
    refine sw_ok ?_
    refine EvStore rfl rfl ?_
    refine EvStore rfl rfl ?_
    refine andThen_next ?_
    refine EvSs.cons ?_
    refine EvS.assign ?_ rfl
    refine EvE.binop ?_
    refine EvE.ifx ?_
    refine EvT.cmp ?_ rfl
    refine' EvE.loc rfl rfl ?_ rfl rfl
    refine EvE.int ?_
    refine Ev2.eqI ?_
    refine Ev1.truthB ?_
    refine brF (by walk_at "cond") ?_
    refine EvE.str ?_
    refine' EvE.loc rfl rfl ?_ rfl rfl
    refine' Ev2.addS (by walk_at "side") ?_
    refine EvStore rfl rfl ?_
    refine andThen_next ?_
    refine EvSs.cons ?_
    refine EvS.iff ?_
    refine EvT.cmp ?_ rfl
    refine' EvE.loc rfl rfl ?_ rfl rfl
    refine EvE.tuple ?_
    refine EvAs.cons ?_ rfl
    refine EvE.int ?_
    refine EvAs.cons ?_ rfl
    refine EvE.int ?_
    refine EvAs.nil ?_
    refine tup_ok (by walk_at "side") ?_
    refine Ev2.inTup 0 0 (by decide +kernel) (by decide +kernel) (by decide) ?_
    refine Ev1.truthB ?_
    refine brF (by walk_at "cond") ?_
    refine EvSs.nil ?_
    refine andThen_next ?_
    refine EvSs.cons ?_
    refine EvS.iff ?_
    refine EvT.cmp ?_ rfl
    refine' EvE.loc rfl rfl ?_ rfl rfl
    refine EvE.tuple ?_
    refine EvAs.cons ?_ rfl
    refine EvE.int ?_
    refine EvAs.cons ?_ rfl
    refine EvE.int ?_
    refine EvAs.nil ?_
    refine tup_ok (by walk_at "side") ?_
    refine Ev2.inTup 0 0 (by decide +kernel) (by decide +kernel) (by decide) ?_
    refine Ev1.truthB ?_
    refine brF (by walk_at "cond") ?_
    refine EvSs.nil ?_
    refine andThen_next ?_
    refine EvSs.cons ?_
    refine EvS.ret ?_
    refine EvE.tuple ?_
    refine EvAs.cons ?_ rfl
    refine EvE.tuple ?_
    refine EvAs.cons ?_ rfl
    refine EvE.tuple ?_
    refine EvAs.cons ?_ rfl
    refine' EvE.loc rfl rfl ?_ rfl rfl
    refine EvAs.cons ?_ rfl
    refine' EvE.loc rfl rfl ?_ rfl rfl
    refine EvAs.nil ?_
    refine tup_ok (by walk_at "side") ?_
    refine EvAs.cons ?_ rfl
    refine' EvE.loc rfl rfl ?_ rfl rfl
    refine EvAs.cons ?_ rfl
    refine' EvE.loc rfl rfl ?_ rfl rfl
    refine EvAs.nil ?_
    refine tup_ok (by walk_at "side") ?_
    refine EvAs.cons ?_ rfl
    refine' EvE.loc rfl rfl ?_ rfl rfl
    refine EvAs.nil ?_
    refine tup_ok (by walk_at "side") ?_
    refine andThen_ret ?_
    refine fnEnd_ret ?_
    exact ⟨_, List.Sublist.refl _, ⟨N, L, false, none, none⟩, _, ⟨hL3, hN, fun e => (nomatch e), fun _ e => (nomatch e), fun _ e => (nomatch e)⟩, by omega, by omega, rfl, rfl⟩
  · refine brF (by walk_at "cond") ?_
    refine EvE.int ?_
    refine EvAs.nil ?_
    refine tup_ok (by walk_at "side") ?_
    refine sw_ok ?_
    refine EvStore rfl rfl ?_
    refine EvStore rfl rfl ?_
    refine andThen_next ?_
    refine EvSs.cons ?_
    refine EvS.assign ?_ rfl
    refine EvE.binop ?_
    refine EvE.ifx ?_
    refine EvT.cmp ?_ rfl
    refine' EvE.loc rfl rfl ?_ rfl rfl
    refine EvE.int ?_
    refine Ev2.eqI ?_
    refine Ev1.truthB ?_
    refine brF (by walk_at "cond") ?_
    refine EvE.str ?_
    refine' EvE.loc rfl rfl ?_ rfl rfl
    refine' Ev2.addS (by walk_at "side") ?_
    refine EvStore rfl rfl ?_
    refine andThen_next ?_
    refine EvSs.cons ?_
    refine EvS.iff ?_
    refine EvT.cmp ?_ rfl
    refine' EvE.loc rfl rfl ?_ rfl rfl
    refine EvE.tuple ?_
    refine EvAs.cons ?_ rfl
    refine EvE.int ?_
    refine EvAs.cons ?_ rfl
    refine EvE.int ?_
    refine EvAs.nil ?_
    refine tup_ok (by walk_at "side") ?_
    refine Ev2.inTup 0 0 (by decide +kernel) (by decide +kernel) (by decide) ?_
    refine Ev1.truthB ?_
    refine brT (by walk_at "cond") ?_
    refine EvSs.cons ?_
    refine EvS.assign ?_ rfl
    refine' EvE.callB (by assumption) (B_min _) (BB_min) (by decide) ?_ rfl rfl rfl rfl rfl rfl rfl
    refine EvAs.cons ?_ rfl
    refine EvE.binop ?_
    refine' EvE.loc rfl rfl ?_ rfl rfl
    refine' EvE.callK (by assumption) (G_law_draw _) (KI_law_draw _) ?_ rfl rfl rfl rfl rfl rfl
    refine EvAs.cons ?_ rfl
    refine' EvE.loc rfl rfl ?_ rfl rfl
    refine EvAs.cons ?_ rfl
    refine EvE.int ?_
    refine EvAs.nil ?_
    refine EvL.whole (by dsimp only; omega) (sp_draw W 0 b l (k + 1 + 1 + 1) 2 (by omega) (by omega) hl (by decide)) fun d μ' q => ?_
    obtain ⟨z4, hz4, rfl, rfl⟩ := q
    refine Ev2.add ?_
    refine EvAs.cons ?_ rfl
    refine' EvE.loc rfl rfl ?_ rfl rfl
    refine EvAs.nil ?_
    refine EvL.minI ?_
    refine EvStore rfl rfl ?_
    refine andThen_next ?_
    refine EvSs.cons ?_
    refine EvS.assign ?_ rfl
    refine EvE.binop ?_
    refine EvE.binop ?_
    refine' EvE.loc rfl rfl ?_ rfl rfl
    refine EvE.str ?_
    refine' Ev2.addS (by walk_at "side") ?_
    refine' EvE.callT (by assumption) (B_str _) (BB_str) (by decide) ?_ rfl rfl rfl rfl rfl rfl rfl
    refine EvAs.cons ?_ rfl
    refine' EvE.loc rfl rfl ?_ rfl rfl
    refine EvAs.nil ?_
    obtain ⟨g, eg, hg1, hg2⟩ := g2 L z4 hL3
    rw [eg]
    have n3 := num_len (k := g) (by omega)
    refine EvL.strN (by omega) ?_
    refine' Ev2.addS (by walk_at "side") ?_
    refine EvStore rfl rfl ?_
    refine andThen_next ?_
    refine EvSs.nil ?_
    refine andThen_next ?_
    refine EvSs.cons ?_
    refine EvS.iff ?_
    refine EvT.cmp ?_ rfl
    refine' EvE.loc rfl rfl ?_ rfl rfl
    refine EvE.tuple ?_
    refine EvAs.cons ?_ rfl
    refine EvE.int ?_
    refine EvAs.cons ?_ rfl
    refine EvE.int ?_
    refine EvAs.nil ?_
    refine tup_ok (by walk_at "side") ?_
    refine Ev2.inTup 0 0 (by decide +kernel) (by decide +kernel) (by decide) ?_
    refine Ev1.truthB ?_
    refine brF (by walk_at "cond") ?_
    refine EvSs.nil ?_
    refine andThen_next ?_
    refine EvSs.cons ?_
    refine EvS.ret ?_
    refine EvE.tuple ?_
    refine EvAs.cons ?_ rfl
    refine EvE.tuple ?_
    refine EvAs.cons ?_ rfl
    refine EvE.tuple ?_
    refine EvAs.cons ?_ rfl
    refine' EvE.loc rfl rfl ?_ rfl rfl
    refine EvAs.cons ?_ rfl
    refine' EvE.loc rfl rfl ?_ rfl rfl
    refine EvAs.nil ?_
    refine tup_ok (by walk_at "side") ?_
    refine EvAs.cons ?_ rfl
    refine' EvE.loc rfl rfl ?_ rfl rfl
    refine EvAs.cons ?_ rfl
    refine' EvE.loc rfl rfl ?_ rfl rfl
    refine EvAs.nil ?_
    refine tup_ok (by walk_at "side") ?_
    refine EvAs.cons ?_ rfl
    refine' EvE.loc rfl rfl ?_ rfl rfl
    refine EvAs.nil ?_
    refine tup_ok (by walk_at "side") ?_
    refine andThen_ret ?_
    refine fnEnd_ret ?_
    exact ⟨_, List.Sublist.refl _, ⟨N, L, false, some g, none⟩, _, ⟨hL3, hN, fun e => (nomatch e), fun _ e => by cases e; dsimp only; omega, fun _ e => (nomatch e)⟩, by omega, by omega, rfl, rfl⟩
  · refine brF (by walk_at "cond") ?_
    refine EvE.int ?_
    refine EvAs.nil ?_
    refine tup_ok (by walk_at "side") ?_
    refine sw_ok ?_
    refine EvStore rfl rfl ?_
    refine EvStore rfl rfl ?_
    refine andThen_next ?_
    refine EvSs.cons ?_
    refine EvS.assign ?_ rfl
    refine EvE.binop ?_
    refine EvE.ifx ?_
    refine EvT.cmp ?_ rfl
    refine' EvE.loc rfl rfl ?_ rfl rfl
    refine EvE.int ?_
    refine Ev2.eqI ?_
    refine Ev1.truthB ?_
    refine brF (by walk_at "cond") ?_
    refine EvE.str ?_
    refine' EvE.loc rfl rfl ?_ rfl rfl
    refine' Ev2.addS (by walk_at "side") ?_
    refine EvStore rfl rfl ?_
    refine andThen_next ?_
    refine EvSs.cons ?_
    refine EvS.iff ?_
    refine EvT.cmp ?_ rfl
    refine' EvE.loc rfl rfl ?_ rfl rfl
    refine EvE.tuple ?_
    refine EvAs.cons ?_ rfl
    refine EvE.int ?_
    refine EvAs.cons ?_ rfl
    refine EvE.int ?_
    refine EvAs.nil ?_
    refine tup_ok (by walk_at "side") ?_
    refine Ev2.inTup 0 0 (by decide +kernel) (by decide +kernel) (by decide) ?_
    refine Ev1.truthB ?_
    refine brF (by walk_at "cond") ?_
    refine EvSs.nil ?_
    refine andThen_next ?_
    refine EvSs.cons ?_
    refine EvS.iff ?_
    refine EvT.cmp ?_ rfl
    refine' EvE.loc rfl rfl ?_ rfl rfl
    refine EvE.tuple ?_
    refine EvAs.cons ?_ rfl
    refine EvE.int ?_
    refine EvAs.cons ?_ rfl
    refine EvE.int ?_
    refine EvAs.nil ?_
    refine tup_ok (by walk_at "side") ?_
    refine Ev2.inTup 0 0 (by decide +kernel) (by decide +kernel) (by decide) ?_
    refine Ev1.truthB ?_
    refine brT (by walk_at "cond") ?_
    refine EvSs.cons ?_
    refine EvS.assign ?_ rfl
    refine' EvE.callB (by assumption) (B_min _) (BB_min) (by decide) ?_ rfl rfl rfl rfl rfl rfl rfl
    refine EvAs.cons ?_ rfl
    refine EvE.binop ?_
    refine' EvE.loc rfl rfl ?_ rfl rfl
    refine' EvE.callK (by assumption) (G_law_draw _) (KI_law_draw _) ?_ rfl rfl rfl rfl rfl rfl
    refine EvAs.cons ?_ rfl
    refine' EvE.loc rfl rfl ?_ rfl rfl
    refine EvAs.cons ?_ rfl
    refine EvE.int ?_
    refine EvAs.nil ?_
    refine EvL.whole (by dsimp only; omega) (sp_draw W 0 b l (k + 1 + 1 + 1) 2 (by omega) (by omega) hl (by decide)) fun d μ' q => ?_
    obtain ⟨z4, hz4, rfl, rfl⟩ := q
    refine Ev2.add ?_
    refine EvAs.cons ?_ rfl
    refine' EvE.loc rfl rfl ?_ rfl rfl
    refine EvAs.nil ?_
    refine EvL.minI ?_
    refine EvStore rfl rfl ?_
    refine andThen_next ?_
    refine EvSs.cons ?_
    refine EvS.assign ?_ rfl
    refine EvE.binop ?_
    refine EvE.binop ?_
    refine' EvE.loc rfl rfl ?_ rfl rfl
    refine EvE.str ?_
    refine' Ev2.addS (by walk_at "side") ?_
    refine' EvE.callT (by assumption) (B_str _) (BB_str) (by decide) ?_ rfl rfl rfl rfl rfl rfl rfl
    refine EvAs.cons ?_ rfl
    refine' EvE.loc rfl rfl ?_ rfl rfl
    refine EvAs.nil ?_
    obtain ⟨g, eg, hg1, hg2⟩ := g2 L z4 hL3
    rw [eg]
    have n3 := num_len (k := g) (by omega)
    refine EvL.strN (by omega) ?_
    refine' Ev2.addS (by walk_at "side") ?_
    refine EvStore rfl rfl ?_
    refine andThen_next ?_
    refine EvSs.nil ?_
    refine andThen_next ?_
    refine EvSs.cons ?_
    refine EvS.ret ?_
    refine EvE.tuple ?_
    refine EvAs.cons ?_ rfl
    refine EvE.tuple ?_
    refine EvAs.cons ?_ rfl
    refine EvE.tuple ?_
    refine EvAs.cons ?_ rfl
    refine' EvE.loc rfl rfl ?_ rfl rfl
    refine EvAs.cons ?_ rfl
    refine' EvE.loc rfl rfl ?_ rfl rfl
    refine EvAs.nil ?_
    refine tup_ok (by walk_at "side") ?_
    refine EvAs.cons ?_ rfl
    refine' EvE.loc rfl rfl ?_ rfl rfl
    refine EvAs.cons ?_ rfl
    refine' EvE.loc rfl rfl ?_ rfl rfl
    refine EvAs.nil ?_
    refine tup_ok (by walk_at "side") ?_
    refine EvAs.cons ?_ rfl
    refine' EvE.loc rfl rfl ?_ rfl rfl
    refine EvAs.nil ?_
    refine tup_ok (by walk_at "side") ?_
    refine andThen_ret ?_
    refine fnEnd_ret ?_
    exact ⟨_, List.Sublist.refl _, ⟨N, L, false, none, some g⟩, _, ⟨hL3, hN, fun e => (nomatch e), fun _ e => (nomatch e), fun _ e => by cases e; dsimp only [Option.getD_none]; omega⟩, by omega, by omega, rfl, rfl⟩
  · refine brF (by walk_at "cond") ?_
    refine EvE.int ?_
    refine EvAs.nil ?_
    refine tup_ok (by walk_at "side") ?_
    refine sw_ok ?_
    refine EvStore rfl rfl ?_
    refine EvStore rfl rfl ?_
    refine andThen_next ?_
    refine EvSs.cons ?_
    refine EvS.assign ?_ rfl
    refine EvE.binop ?_
    refine EvE.ifx ?_
    refine EvT.cmp ?_ rfl
    refine' EvE.loc rfl rfl ?_ rfl rfl
    refine EvE.int ?_
    refine Ev2.eqI ?_
    refine Ev1.truthB ?_
    refine brF (by walk_at "cond") ?_
    refine EvE.str ?_
    refine' EvE.loc rfl rfl ?_ rfl rfl
    refine' Ev2.addS (by walk_at "side") ?_
    refine EvStore rfl rfl ?_
    refine andThen_next ?_
    refine EvSs.cons ?_
    refine EvS.iff ?_
    refine EvT.cmp ?_ rfl
    refine' EvE.loc rfl rfl ?_ rfl rfl
    refine EvE.tuple ?_
    refine EvAs.cons ?_ rfl
    refine EvE.int ?_
    refine EvAs.cons ?_ rfl
    refine EvE.int ?_
    refine EvAs.nil ?_
    refine tup_ok (by walk_at "side") ?_
    refine Ev2.inTup 0 0 (by decide +kernel) (by decide +kernel) (by decide) ?_
    refine Ev1.truthB ?_
    refine brT (by walk_at "cond") ?_
    refine EvSs.cons ?_
    refine EvS.assign ?_ rfl
    refine' EvE.callB (by assumption) (B_min _) (BB_min) (by decide) ?_ rfl rfl rfl rfl rfl rfl rfl
    refine EvAs.cons ?_ rfl
    refine EvE.binop ?_
    refine' EvE.loc rfl rfl ?_ rfl rfl
    refine' EvE.callK (by assumption) (G_law_draw _) (KI_law_draw _) ?_ rfl rfl rfl rfl rfl rfl
    refine EvAs.cons ?_ rfl
    refine' EvE.loc rfl rfl ?_ rfl rfl
    refine EvAs.cons ?_ rfl
    refine EvE.int ?_
    refine EvAs.nil ?_
    refine EvL.whole (by dsimp only; omega) (sp_draw W 0 b l (k + 1 + 1 + 1) 2 (by omega) (by omega) hl (by decide)) fun d μ' q => ?_
    obtain ⟨z4, hz4, rfl, rfl⟩ := q
    refine Ev2.add ?_
    refine EvAs.cons ?_ rfl
    refine' EvE.loc rfl rfl ?_ rfl rfl
    refine EvAs.nil ?_
    refine EvL.minI ?_
    refine EvStore rfl rfl ?_
    refine andThen_next ?_
    refine EvSs.cons ?_
    refine EvS.assign ?_ rfl
    refine EvE.binop ?_
    refine EvE.binop ?_
    refine' EvE.loc rfl rfl ?_ rfl rfl
    refine EvE.str ?_
    refine' Ev2.addS (by walk_at "side") ?_
    refine' EvE.callT (by assumption) (B_str _) (BB_str) (by decide) ?_ rfl rfl rfl rfl rfl rfl rfl
    refine EvAs.cons ?_ rfl
    refine' EvE.loc rfl rfl ?_ rfl rfl
    refine EvAs.nil ?_
    obtain ⟨g, eg, hg1, hg2⟩ := g2 L z4 hL3
    rw [eg]
    have n3 := num_len (k := g) (by omega)
    refine EvL.strN (by omega) ?_
    refine' Ev2.addS (by walk_at "side") ?_
    refine EvStore rfl rfl ?_
    refine andThen_next ?_
    refine EvSs.nil ?_
    refine andThen_next ?_
    refine EvSs.cons ?_
    refine EvS.iff ?_
    refine EvT.cmp ?_ rfl
    refine' EvE.loc rfl rfl ?_ rfl rfl
    refine EvE.tuple ?_
    refine EvAs.cons ?_ rfl
    refine EvE.int ?_
    refine EvAs.cons ?_ rfl
    refine EvE.int ?_
    refine EvAs.nil ?_
    refine tup_ok (by walk_at "side") ?_
    refine Ev2.inTup 0 0 (by decide +kernel) (by decide +kernel) (by decide) ?_
    refine Ev1.truthB ?_
    refine brT (by walk_at "cond") ?_
    refine EvSs.cons ?_
    refine EvS.assign ?_ rfl
    refine' EvE.callB (by assumption) (B_min _) (BB_min) (by decide) ?_ rfl rfl rfl rfl rfl rfl rfl
    refine EvAs.cons ?_ rfl
    refine EvE.binop ?_
    refine' EvE.loc rfl rfl ?_ rfl rfl
    refine' EvE.callK (by assumption) (G_law_draw _) (KI_law_draw _) ?_ rfl rfl rfl rfl rfl rfl
    refine EvAs.cons ?_ rfl
    refine' EvE.loc rfl rfl ?_ rfl rfl
    refine EvAs.cons ?_ rfl
    refine EvE.int ?_
    refine EvAs.nil ?_
    refine EvL.whole (by dsimp only; omega) (sp_draw W 0 b l (k + 1 + 1 + 1 + 1) 2 (by omega) (by omega) hl (by decide)) fun d μ' q => ?_
    obtain ⟨z5, hz5, rfl, rfl⟩ := q
    refine Ev2.add ?_
    refine EvAs.cons ?_ rfl
    refine' EvE.loc rfl rfl ?_ rfl rfl
    refine EvAs.nil ?_
    refine EvL.minI ?_
    refine EvStore rfl rfl ?_
    refine andThen_next ?_
    refine EvSs.cons ?_
    refine EvS.assign ?_ rfl
    refine EvE.binop ?_
    refine EvE.binop ?_
    refine' EvE.loc rfl rfl ?_ rfl rfl
    refine EvE.str ?_
    refine' Ev2.addS (by walk_at "side") ?_
    refine' EvE.callT (by assumption) (B_str _) (BB_str) (by decide) ?_ rfl rfl rfl rfl rfl rfl rfl
    refine EvAs.cons ?_ rfl
    refine' EvE.loc rfl rfl ?_ rfl rfl
    refine EvAs.nil ?_
    obtain ⟨m, em, hm1, hm2⟩ := g2 g z5 hg2
    rw [em]
    have n4 := num_len (k := m) (by omega)
    refine EvL.strN (by omega) ?_
    refine' Ev2.addS (by walk_at "side") ?_
    refine EvStore rfl rfl ?_
    refine andThen_next ?_
    refine EvSs.nil ?_
    refine andThen_next ?_
    refine EvSs.cons ?_
    refine EvS.ret ?_
    refine EvE.tuple ?_
    refine EvAs.cons ?_ rfl
    refine EvE.tuple ?_
    refine EvAs.cons ?_ rfl
    refine EvE.tuple ?_
    refine EvAs.cons ?_ rfl
    refine' EvE.loc rfl rfl ?_ rfl rfl
    refine EvAs.cons ?_ rfl
    refine' EvE.loc rfl rfl ?_ rfl rfl
    refine EvAs.nil ?_
    refine tup_ok (by walk_at "side") ?_
    refine EvAs.cons ?_ rfl
    refine' EvE.loc rfl rfl ?_ rfl rfl
    refine EvAs.cons ?_ rfl
    refine' EvE.loc rfl rfl ?_ rfl rfl
    refine EvAs.nil ?_
    refine tup_ok (by walk_at "side") ?_
    refine EvAs.cons ?_ rfl
    refine' EvE.loc rfl rfl ?_ rfl rfl
    refine EvAs.nil ?_
    refine tup_ok (by walk_at "side") ?_
    refine andThen_ret ?_
    refine fnEnd_ret ?_
    exact ⟨_, List.Sublist.refl _, ⟨N, L, false, some g, some m⟩, _, ⟨hL3, hN, fun e => (nomatch e), fun _ e => by cases e; dsimp only; omega, fun _ e => by cases e; dsimp only [Option.getD_some]; omega⟩, by omega, by omega, rfl, rfl⟩
end

/-! E20 -/
section
variable {hT : Heap} {w : World} {c : Cx} {ν : Loc} {μ : Store}
noncomputable abbrev tmV (r : Str × AV × Bool) : AV := .tup [.str r.1, .tup [ifSt r.2.1 (verd r.2.2)]]
theorem oth (b : Bool) : [(Str.ofString "accept", AV.tup [.str (Str.ofString "reject")]), (Str.ofString "reject", .tup [.str (Str.ofString "accept")])].lookup (verd b) = some (.tup [.str (verd (!b))]) := by cases b <;> rfl
theorem sp_turned (W : Wd hT (KK w.params)) (n : Nat) (rs : List (Str × AV × Bool)) (fb : Bool) (hz : rs.length ≤ 100) :
    Spec hT PG w (n + 1) (.ref 534) [.tup [.tup (rs.map tmV), .tup [.str (verd fb)]]] [] (Gives (.tup [.tup ((rs.map fun r => (r.1, r.2.1, !r.2.2)).map tmV), .tup [.str (verd (!fb))]]) []) := by
  refine Spec.drop ?_
  refine Spec.fn W (L_law_turned _) (C_law_turned _) (fun s g vs _ _ hv => binds_of (qual := "") [Str.ofString "policy"] rfl (by decide) (by decide +kernel) (fun vs h => by obtain ⟨a, rfl⟩ := len1 h; rfl) s g vs hv) (by decide +kernel) rfl rfl rfl (fun Ar L' hr => ?_)
  refine EvSs.cons ?_
  (with_reducible refine EvS.assign ?_ ?hs); (case hs => rfl)
  (with_reducible refine EvE.dict ?h1 ?h2 ?h3 ?h4 fun o => ?_); (case h1 => rfl); (case h2 => rfl); (case h3 => decide); (case h4 => decide)
  refine EvPs.cons ?_
  refine EvE.str ?_
  refine str_ok ?_
  refine EvE.tuple ?_
  refine EvAs.cons ?_ rfl
  refine EvE.str ?_
  refine EvAs.nil ?_
  refine tup_ok (by walk_at "side") ?_
  refine EvPs.cons ?_
  refine EvE.str ?_
  refine str_ok ?_
  refine EvE.tuple ?_
  refine EvAs.cons ?_ rfl
  refine EvE.str ?_
  refine EvAs.nil ?_
  refine tup_ok (by walk_at "side") ?_
  refine EvPs.nil ?_
  refine ⟨[], [], rfl, by decide +kernel, ?_⟩
  refine EvStore rfl rfl ?_
  refine andThen_next ?_
  refine EvSs.cons ?_
  refine EvS.assign ?_ rfl
  refine EvE.list ?_
  refine EvAs.nil ?_
  refine tup_ok (by walk_at "side") ?_
  intro t
  refine EvStore rfl rfl ?_
  refine andThen_next ?_
  refine EvSs.cons ?_
  refine EvS.for ?_ (fun _ => rfl)
  refine EvIt.val ?_
  refine EvE.sub ?_
  refine' EvE.loc rfl rfl ?_ rfl rfl
  refine EvE.int ?_
  refine' Ev2.subTup rfl rfl ?_ (fun _ _ => rfl) (by decide) (by decide)
  refine tupIt_ok ?_
  refine ForL.inv (fun ds ν μ => ∃ done rest : List (Str × AV × Bool), ds = rest.map tmV ∧ done ++ rest = rs ∧ ν (Str.ofString "policy") = some (.tup [.tup (rs.map tmV), .tup [.str (verd fb)]]) ∧ ν (Str.ofString "terms") = some (.ref t) ∧ ν (Str.ofString "other") = some (.ref o) ∧
    μ = [(t, .list ((done.map fun r => (r.1, r.2.1, !r.2.2)).map tmV)), (o, .any (pDict PG w [(Str.ofString "accept", .tup [.str (Str.ofString "reject")]), (Str.ofString "reject", .tup [.str (Str.ofString "accept")])]))]) ?_ ?_ _ _ _ ⟨[], rs, rfl, rfl, rfl, rfl, rfl, rfl⟩
  · rintro d ds ν μ ⟨done, rest, hd, hda, h1, h2, h3, rfl⟩
    cases rest with
    | nil => cases hd
    | cons r rest =>
    cases hd
    have hdl : done.length ≤ 100 := by have := congrArg List.length hda; rw [List.length_append] at this; omega
    refine Ev1.assignTup rfl rfl ?_
    refine EvA.cons ?_ rfl
    refine Ev1.assignN ?_
    refine EvStore rfl rfl ?_
    refine EvA.cons ?_ rfl
    refine Ev1.assignN ?_
    refine EvStore rfl rfl ?_
    refine EvA.nil ?_
    refine EvSs.cons ?_
    refine EvS.assignT ?_ rfl rfl
    refine EvE.slice ?_
    refine EvE.sub ?_
    refine' EvE.loc rfl rfl ?_ rfl rfl
    refine EvE.int ?_
    refine' Ev2.subTup rfl rfl ?_ (fun _ _ => rfl) (by decide) (by decide)
    refine EvP.some ?_
    refine EvE.int ?_
    refine int_ok ?_
    refine EvP.none ?_
    refine EvSl.tupFrom (n := 1) (Nat.le_refl _) (Nat.le_of_ble_eq_true rfl) (Nat.le_of_ble_eq_true rfl) ?_
    rw [List.drop_succ_cons, List.drop_zero]
    refine Ev1.assignTup rfl rfl ?_
    refine EvA.cons ?_ rfl
    refine Ev1.assignN ?_
    refine EvStore rfl rfl ?_
    refine EvA.cons ?_ rfl
    refine Ev1.assignN ?_
    refine EvStore rfl rfl ?_
    refine EvA.cons ?_ rfl
    refine Ev1.assignN ?_
    refine EvStore rfl rfl ?_
    refine EvA.nil ?_
    refine andThen_next ?_
    refine EvSs.cons ?_
    refine EvS.expr ?_ rfl rfl
    refine' EvE.append ?_ rfl rfl
    refine' EvE.loc rfl (by assumption) ?_ rfl rfl
    refine' app_ok (.head _) ?_
    refine EvE.tuple ?_
    refine EvAs.cons ?_ rfl
    refine' EvE.loc rfl rfl ?_ rfl rfl
    refine EvAs.cons ?_ rfl
    refine EvE.tuple ?_
    refine EvAs.cons ?_ rfl
    refine EvE.tuple ?_
    refine EvAs.cons ?_ rfl
    refine EvE.str ?_
    refine EvAs.cons ?_ rfl
    refine' EvE.loc rfl rfl ?_ rfl rfl
    refine EvAs.cons ?_ rfl
    refine EvE.tuple ?_
    refine EvAs.cons ?_ rfl
    refine EvE.sub ?_
    refine' EvE.loc rfl (by assumption) ?_ rfl rfl
    refine EvE.sub ?_
    refine EvE.sub ?_
    refine' EvE.loc rfl rfl ?_ rfl rfl
    refine EvE.int ?_
    refine' Ev2.subTup rfl rfl ?_ (fun _ _ => rfl) (by decide) (by decide)
    refine EvE.int ?_
    refine' Ev2.subTup rfl rfl ?_ (fun _ _ => rfl) (by decide) (by decide)
    refine Ev2.subD (.inl (.tail _ (.head _))) (oth r.2.2) ?_ (fun _ _ => rfl)
    refine EvAs.nil ?_
    refine tup_ok (by walk_at "side") ?_
    refine EvAs.cons ?_ rfl
    refine' EvE.loc rfl rfl ?_ rfl rfl
    refine EvAs.nil ?_
    refine tup_ok (by walk_at "side") ?_
    refine EvAs.nil ?_
    refine tup_ok (by walk_at "side") ?_
    refine EvAs.nil ?_
    refine tup_ok (by walk_at "side") ?_
    refine ⟨[], _, _, rfl, (by walk_at "side"), ?_⟩; dsimp only [List.nil_append, List.cons_append]
    refine none_ok ?_
    refine andThen_next ?_
    refine EvSs.nil ?_
    refine ⟨done ++ [r], rest, rfl, by rw [← hda]; simp, h1, h2, h3, ?_⟩
    rw [List.map_append, List.map_append]; rfl
  · rintro ν μ ⟨done, rest, hd, hda, h1, h2, h3, rfl⟩
    cases rest with
    | cons r rest => cases hd
    | nil =>
    rw [List.append_nil] at hda
    subst hda
    refine andThen_next ?_
    refine EvSs.cons ?_
    refine EvS.ret ?_
    refine EvE.tuple ?_
    refine EvAs.cons ?_ rfl
    refine' EvE.callT (by assumption) (B_tuple _) (BB_tuple) (by decide) ?_ rfl rfl rfl rfl rfl rfl rfl
    refine EvAs.cons ?_ rfl
    refine' EvE.loc rfl (by assumption) ?_ rfl rfl
    refine EvAs.nil ?_
    refine' EvL.tupC (.inl (.head _)) (by walk_at "side") ?_
    refine EvAs.cons ?_ rfl
    refine EvE.sub ?_
    refine' EvE.loc rfl (by assumption) ?_ rfl rfl
    refine EvE.sub ?_
    refine EvE.sub ?_
    refine' EvE.loc rfl (by assumption) ?_ rfl rfl
    refine EvE.int ?_
    refine' Ev2.subTup rfl rfl ?_ (fun _ _ => rfl) (by decide) (by decide)
    refine EvE.int ?_
    refine' Ev2.subTup rfl rfl ?_ (fun _ _ => rfl) (by decide) (by decide)
    refine Ev2.subD (.inl (.tail _ (.head _))) (oth fb) ?_ (fun _ _ => rfl)
    refine EvAs.nil ?_
    refine tup_ok (by walk_at "side") ?_
    refine andThen_ret ?_
    refine fnEnd_ret ?_
    exact ⟨_, List.nil_sublist _, rfl, rfl⟩
end

/-! E21 -/
section
variable {hT : Heap} {w : World} {c : Cx} {ν : Loc} {μ : Store}
/-- what two words hold together -/
noncomputable def meetZ (p : Nat × Nat) (a b : Nat) (r : Nat × Nat) (c d : Nat) : Option ((Nat × Nat) × Nat × Nat) :=
  if r.2 ≤ p.2 then (if lcov r.1 r.2 p.1 p.2 && decide (max a c ≤ min b d) then some (p, max a c, min b d) else none)
  else (if lcov p.1 p.2 r.1 r.2 && decide (max a c ≤ min b d) then some (r, max a c, min b d) else none)
noncomputable def meetA : Option ((Nat × Nat) × Nat × Nat) → AV
  | none => .none
  | some (f, le, mo) => .tup [.str (Str.ofString "prefix"), .tup [.int (wideZ f.1 f.2).1, .int (wideZ f.1 f.2).2], .int (le : Nat), .int (mo : Nat)]
theorem max_cast (a c : Nat) : (if (c : Int) > (a : Int) then (c : Int) else (a : Int)) = ((max a c : Nat) : Int) := by split <;> omega
theorem min_cast (a c : Nat) : (if (c : Int) < (a : Int) then (c : Int) else (a : Int)) = ((min a c : Nat) : Int) := by split <;> omega
theorem sp_meet (W : Wd hT (KK w.params)) (n : Nat) (p : Nat × Nat) (a b : Nat) (r : Nat × Nat) (c d : Nat) (hp : p.1 ≤ 255 ∧ p.2 ≤ 16) (hr : r.1 ≤ 255 ∧ r.2 ≤ 16) :
    Spec hT PG w (n + 2) (.ref 541) [.tup [pr2 p.1 p.2, .int (a : Nat), .int (b : Nat)], .tup [pr2 r.1 r.2, .int (c : Nat), .int (d : Nat)]] [] (Gives (meetA (meetZ p a b r c d)) []) := by
  by_cases h : r.2 ≤ p.2
  ·
    refine Spec.fn W (L_law_meet _) (C_law_meet _) (fun s g vs _ _ hv => binds_of (qual := "") [Str.ofString "one", Str.ofString "other"] rfl (by decide) (by decide +kernel) (fun vs h => by obtain ⟨a, b, rfl⟩ := len2 h; rfl) s g vs hv) (by decide +kernel) rfl rfl rfl (fun Ar L' hr => ?_)
    refine EvSs.cons ?_
    refine EvS.assignT ?_ rfl rfl
    refine EvE.ifx ?_
    refine EvT.cmp ?_ rfl
    refine EvE.sub ?_
    refine EvE.sub ?_
    refine' EvE.loc rfl rfl ?_ rfl rfl
    refine EvE.int ?_
    refine' Ev2.subTup rfl rfl ?_ (fun _ _ => rfl) (by decide) (by decide)
    refine EvE.int ?_
    refine' Ev2.subTup rfl rfl ?_ (fun _ _ => rfl) (by decide) (by decide)
    refine EvE.sub ?_
    refine EvE.sub ?_
    refine' EvE.loc rfl rfl ?_ rfl rfl
    refine EvE.int ?_
    refine' Ev2.subTup rfl rfl ?_ (fun _ _ => rfl) (by decide) (by decide)
    refine EvE.int ?_
    refine' Ev2.subTup rfl rfl ?_ (fun _ _ => rfl) (by decide) (by decide)
    refine Ev2.geI ?_
    refine Ev1.truthB ?_
    refine brT (by walk_at "cond") ?_
    refine EvE.tuple ?_
    refine EvAs.cons ?_ rfl
    refine' EvE.loc rfl rfl ?_ rfl rfl
    refine EvAs.cons ?_ rfl
    refine' EvE.loc rfl rfl ?_ rfl rfl
    refine EvAs.nil ?_
    refine tup_ok (by walk_at "side") ?_
    refine Ev1.assignTup rfl rfl ?_
    refine EvA.cons ?_ rfl
    refine Ev1.assignN ?_
    refine EvStore rfl rfl ?_
    refine EvA.cons ?_ rfl
    refine Ev1.assignN ?_
    refine EvStore rfl rfl ?_
    refine EvA.nil ?_
    refine andThen_next ?_
    refine EvSs.cons ?_
    refine' EvS.assignSw ?_ rfl rfl
    refine EvE.tuple ?_
    refine EvAs.cons ?_ rfl
    refine' EvE.callB (by assumption) (B_max _) (BB_max) (by decide) ?_ rfl rfl rfl rfl rfl rfl rfl
    refine EvAs.cons ?_ rfl
    refine EvE.sub ?_
    refine' EvE.loc rfl rfl ?_ rfl rfl
    refine EvE.int ?_
    refine' Ev2.subTup rfl rfl ?_ (fun _ _ => rfl) (by decide) (by decide)
    refine EvAs.cons ?_ rfl
    refine EvE.sub ?_
    refine' EvE.loc rfl rfl ?_ rfl rfl
    refine EvE.int ?_
    refine' Ev2.subTup rfl rfl ?_ (fun _ _ => rfl) (by decide) (by decide)
    refine EvAs.nil ?_
    refine EvL.maxI ?_
    refine EvAs.cons ?_ rfl
    refine' EvE.callB (by assumption) (B_min _) (BB_min) (by decide) ?_ rfl rfl rfl rfl rfl rfl rfl
    refine EvAs.cons ?_ rfl
    refine EvE.sub ?_
    refine' EvE.loc rfl rfl ?_ rfl rfl
    refine EvE.int ?_
    refine' Ev2.subTup rfl rfl ?_ (fun _ _ => rfl) (by decide) (by decide)
    refine EvAs.cons ?_ rfl
    refine EvE.sub ?_
    refine' EvE.loc rfl rfl ?_ rfl rfl
    refine EvE.int ?_
    refine' Ev2.subTup rfl rfl ?_ (fun _ _ => rfl) (by decide) (by decide)
    refine EvAs.nil ?_
    refine EvL.minI ?_
    refine EvAs.nil ?_
    refine tup_ok (by walk_at "side") ?_
    refine sw_ok ?_
    refine EvStore rfl rfl ?_
    refine EvStore rfl rfl ?_
    refine andThen_next ?_
    refine EvSs.cons ?_
    refine EvS.iff ?_
    refine EvT.or ?_
    refine EvT.not ?_
    refine EvT.plain ?_ rfl
    refine' EvE.callK (by assumption) (G_law_covers _) (KI_law_covers _) ?_ rfl rfl rfl rfl rfl rfl
    refine EvAs.cons ?_ rfl
    refine EvE.sub ?_
    refine' EvE.loc rfl rfl ?_ rfl rfl
    refine EvE.int ?_
    refine' Ev2.subTup rfl rfl ?_ (fun _ _ => rfl) (by decide) (by decide)
    refine EvAs.cons ?_ rfl
    refine EvE.sub ?_
    refine' EvE.loc rfl rfl ?_ rfl rfl
    refine EvE.int ?_
    refine' Ev2.subTup rfl rfl ?_ (fun _ _ => rfl) (by decide) (by decide)
    refine EvAs.nil ?_
    rw [max_cast, min_cast]
    refine EvL.gives (by dsimp only; omega) (sp_lcov W 0 _ _ _ _ (by omega) (by omega) (by omega) (by omega)) ?_
    refine Ev1.truthB ?_
    refine ⟨fun hb => ?_, fun hb => ?_⟩
    · rw [Bool.not_eq_true'] at hb
      refine ⟨fun _ => ?_, fun q => by cases q⟩
      refine EvSs.cons ?_
      refine EvS.ret ?_
      refine EvE.none ?_
      refine andThen_ret ?_
      refine andThen_ret ?_
      refine fnEnd_ret ?_
      exact ⟨by unfold meetZ; rw [if_pos h, hb]; rfl, rfl⟩
    · rw [Bool.not_eq_false'] at hb
      refine EvT.or ?_
      refine EvT.cmp ?_ rfl
      refine' EvE.loc rfl rfl ?_ rfl rfl
      refine' EvE.loc rfl rfl ?_ rfl rfl
      refine Ev2.gtI ?_
      refine Ev1.truthB ?_
      refine ⟨fun hb2 => ?_, fun hb2 => ?_⟩
      · refine brT (by walk_at "cond") ?_
        refine EvSs.cons ?_
        refine EvS.ret ?_
        refine EvE.none ?_
        refine andThen_ret ?_
        refine andThen_ret ?_
        refine fnEnd_ret ?_
        exact ⟨by unfold meetZ; rw [if_pos h, hb, if_neg (by simp at hb2 ⊢; omega)]; rfl, rfl⟩
      · refine EvT.orNil ?_
        refine brF (by walk_at "cond") ?_
        refine EvSs.nil ?_
        refine andThen_next ?_
        refine EvSs.cons ?_
        refine EvS.ret ?_
        refine EvE.tuple ?_
        refine EvAs.cons ?_ rfl
        refine EvE.str ?_
        refine EvAs.cons ?_ rfl
        refine' EvE.callK (by assumption) (G_law_wide _) (KI_law_wide _) ?_ rfl rfl rfl rfl rfl rfl
        refine EvAs.cons ?_ rfl
        refine EvE.sub ?_
        refine' EvE.loc rfl rfl ?_ rfl rfl
        refine EvE.int ?_
        refine' Ev2.subTup rfl rfl ?_ (fun _ _ => rfl) (by decide) (by decide)
        refine EvAs.nil ?_
        refine EvL.gives (by dsimp only; omega) (sp_wide W 0 _ _ (by omega) (by omega) (by omega) (by omega)) ?_
        refine EvAs.cons ?_ rfl
        refine' EvE.loc rfl rfl ?_ rfl rfl
        refine EvAs.cons ?_ rfl
        refine' EvE.loc rfl rfl ?_ rfl rfl
        refine EvAs.nil ?_
        refine tup_ok (by walk_at "side") ?_
        refine andThen_ret ?_
        refine fnEnd_ret ?_
        exact ⟨by unfold meetZ; rw [if_pos h, hb, if_pos (by simp at hb2 ⊢; omega)]; rfl, rfl⟩
  ·
    refine Spec.fn W (L_law_meet _) (C_law_meet _) (fun s g vs _ _ hv => binds_of (qual := "") [Str.ofString "one", Str.ofString "other"] rfl (by decide) (by decide +kernel) (fun vs h => by obtain ⟨a, b, rfl⟩ := len2 h; rfl) s g vs hv) (by decide +kernel) rfl rfl rfl (fun Ar L' hr => ?_)
    refine EvSs.cons ?_
    refine EvS.assignT ?_ rfl rfl
    refine EvE.ifx ?_
    refine EvT.cmp ?_ rfl
    refine EvE.sub ?_
    refine EvE.sub ?_
    refine' EvE.loc rfl rfl ?_ rfl rfl
    refine EvE.int ?_
    refine' Ev2.subTup rfl rfl ?_ (fun _ _ => rfl) (by decide) (by decide)
    refine EvE.int ?_
    refine' Ev2.subTup rfl rfl ?_ (fun _ _ => rfl) (by decide) (by decide)
    refine EvE.sub ?_
    refine EvE.sub ?_
    refine' EvE.loc rfl rfl ?_ rfl rfl
    refine EvE.int ?_
    refine' Ev2.subTup rfl rfl ?_ (fun _ _ => rfl) (by decide) (by decide)
    refine EvE.int ?_
    refine' Ev2.subTup rfl rfl ?_ (fun _ _ => rfl) (by decide) (by decide)
    refine Ev2.geI ?_
    refine Ev1.truthB ?_
    refine brF (by walk_at "cond") ?_
    refine EvE.tuple ?_
    refine EvAs.cons ?_ rfl
    refine' EvE.loc rfl rfl ?_ rfl rfl
    refine EvAs.cons ?_ rfl
    refine' EvE.loc rfl rfl ?_ rfl rfl
    refine EvAs.nil ?_
    refine tup_ok (by walk_at "side") ?_
    refine Ev1.assignTup rfl rfl ?_
    refine EvA.cons ?_ rfl
    refine Ev1.assignN ?_
    refine EvStore rfl rfl ?_
    refine EvA.cons ?_ rfl
    refine Ev1.assignN ?_
    refine EvStore rfl rfl ?_
    refine EvA.nil ?_
    refine andThen_next ?_
    refine EvSs.cons ?_
    refine' EvS.assignSw ?_ rfl rfl
    refine EvE.tuple ?_
    refine EvAs.cons ?_ rfl
    refine' EvE.callB (by assumption) (B_max _) (BB_max) (by decide) ?_ rfl rfl rfl rfl rfl rfl rfl
    refine EvAs.cons ?_ rfl
    refine EvE.sub ?_
    refine' EvE.loc rfl rfl ?_ rfl rfl
    refine EvE.int ?_
    refine' Ev2.subTup rfl rfl ?_ (fun _ _ => rfl) (by decide) (by decide)
    refine EvAs.cons ?_ rfl
    refine EvE.sub ?_
    refine' EvE.loc rfl rfl ?_ rfl rfl
    refine EvE.int ?_
    refine' Ev2.subTup rfl rfl ?_ (fun _ _ => rfl) (by decide) (by decide)
    refine EvAs.nil ?_
    refine EvL.maxI ?_
    refine EvAs.cons ?_ rfl
    refine' EvE.callB (by assumption) (B_min _) (BB_min) (by decide) ?_ rfl rfl rfl rfl rfl rfl rfl
    refine EvAs.cons ?_ rfl
    refine EvE.sub ?_
    refine' EvE.loc rfl rfl ?_ rfl rfl
    refine EvE.int ?_
    refine' Ev2.subTup rfl rfl ?_ (fun _ _ => rfl) (by decide) (by decide)
    refine EvAs.cons ?_ rfl
    refine EvE.sub ?_
    refine' EvE.loc rfl rfl ?_ rfl rfl
    refine EvE.int ?_
    refine' Ev2.subTup rfl rfl ?_ (fun _ _ => rfl) (by decide) (by decide)
    refine EvAs.nil ?_
    refine EvL.minI ?_
    refine EvAs.nil ?_
    refine tup_ok (by walk_at "side") ?_
    refine sw_ok ?_
    refine EvStore rfl rfl ?_
    refine EvStore rfl rfl ?_
    refine andThen_next ?_
    refine EvSs.cons ?_
    refine EvS.iff ?_
    refine EvT.or ?_
    refine EvT.not ?_
    refine EvT.plain ?_ rfl
    refine' EvE.callK (by assumption) (G_law_covers _) (KI_law_covers _) ?_ rfl rfl rfl rfl rfl rfl
    refine EvAs.cons ?_ rfl
    refine EvE.sub ?_
    refine' EvE.loc rfl rfl ?_ rfl rfl
    refine EvE.int ?_
    refine' Ev2.subTup rfl rfl ?_ (fun _ _ => rfl) (by decide) (by decide)
    refine EvAs.cons ?_ rfl
    refine EvE.sub ?_
    refine' EvE.loc rfl rfl ?_ rfl rfl
    refine EvE.int ?_
    refine' Ev2.subTup rfl rfl ?_ (fun _ _ => rfl) (by decide) (by decide)
    refine EvAs.nil ?_
    rw [max_cast, min_cast]
    refine EvL.gives (by dsimp only; omega) (sp_lcov W 0 _ _ _ _ (by omega) (by omega) (by omega) (by omega)) ?_
    refine Ev1.truthB ?_
    refine ⟨fun hb => ?_, fun hb => ?_⟩
    · rw [Bool.not_eq_true'] at hb
      refine ⟨fun _ => ?_, fun q => by cases q⟩
      refine EvSs.cons ?_
      refine EvS.ret ?_
      refine EvE.none ?_
      refine andThen_ret ?_
      refine andThen_ret ?_
      refine fnEnd_ret ?_
      exact ⟨by unfold meetZ; rw [if_neg h, hb]; rfl, rfl⟩
    · rw [Bool.not_eq_false'] at hb
      refine EvT.or ?_
      refine EvT.cmp ?_ rfl
      refine' EvE.loc rfl rfl ?_ rfl rfl
      refine' EvE.loc rfl rfl ?_ rfl rfl
      refine Ev2.gtI ?_
      refine Ev1.truthB ?_
      refine ⟨fun hb2 => ?_, fun hb2 => ?_⟩
      · refine brT (by walk_at "cond") ?_
        refine EvSs.cons ?_
        refine EvS.ret ?_
        refine EvE.none ?_
        refine andThen_ret ?_
        refine andThen_ret ?_
        refine fnEnd_ret ?_
        exact ⟨by unfold meetZ; rw [if_neg h, hb, if_neg (by simp at hb2 ⊢; omega)]; rfl, rfl⟩
      · refine EvT.orNil ?_
        refine brF (by walk_at "cond") ?_
        refine EvSs.nil ?_
        refine andThen_next ?_
        refine EvSs.cons ?_
        refine EvS.ret ?_
        refine EvE.tuple ?_
        refine EvAs.cons ?_ rfl
        refine EvE.str ?_
        refine EvAs.cons ?_ rfl
        refine' EvE.callK (by assumption) (G_law_wide _) (KI_law_wide _) ?_ rfl rfl rfl rfl rfl rfl
        refine EvAs.cons ?_ rfl
        refine EvE.sub ?_
        refine' EvE.loc rfl rfl ?_ rfl rfl
        refine EvE.int ?_
        refine' Ev2.subTup rfl rfl ?_ (fun _ _ => rfl) (by decide) (by decide)
        refine EvAs.nil ?_
        refine EvL.gives (by dsimp only; omega) (sp_wide W 0 _ _ (by omega) (by omega) (by omega) (by omega)) ?_
        refine EvAs.cons ?_ rfl
        refine' EvE.loc rfl rfl ?_ rfl rfl
        refine EvAs.cons ?_ rfl
        refine' EvE.loc rfl rfl ?_ rfl rfl
        refine EvAs.nil ?_
        refine tup_ok (by walk_at "side") ?_
        refine andThen_ret ?_
        refine fnEnd_ret ?_
        exact ⟨by unfold meetZ; rw [if_neg h, hb, if_pos (by simp at hb2 ⊢; omega)]; rfl, rfl⟩
end

/-! E22 -/
section
variable {hT : Heap} {w : World}
noncomputable abbrev WR := Wrd × Bool
/-- a rule as it is read -/
noncomputable def Wrd.C (w : Wrd) : AV := .tup [.str (Str.ofString "prefix"), w.X, .int (w.least : Nat), .int (w.most : Nat)]
noncomputable abbrev NR := Str × Wrd × Bool
noncomputable def nmr : Nat → List WR → List NR
  | _, [] => []
  | k, r :: rs => (nm k, r.1, r.2) :: nmr (k + 1) rs
noncomputable abbrev rC (r : NR) : Str × AV × Bool := (r.1, r.2.1.C, r.2.2)
noncomputable def usOf : Nat → List WR → List AV
  | _, [] => []
  | k, r :: rs => termU k r.1 r.2 ++ usOf (k + 1) rs
noncomputable abbrev tmS (r : Str × AV × Bool) : Str × AV := (r.1, .tup [ifSt r.2.1 (verd r.2.2)])
theorem verd_or (b : Bool) : verd b = Str.ofString "accept" ∨ verd b = Str.ofString "reject" := by cases b; exact .inr rfl; exact .inl rfl
noncomputable def nameOk2 : Bool := (List.range 3).all fun k => plainName (nm k) && (AV.str (nm k)).ok 0
theorem nameOk2_t : nameOk2 = true := by decide +kernel
theorem nm_ok {k : Nat} (h : k < 3) : plainName (nm k) = true ∧ (AV.str (nm k)).ok 0 = true := by
  have := List.all_eq_true.mp nameOk2_t k (List.mem_range.mpr h)
  rwa [Bool.and_eq_true] at this
theorem tmd_word {k : Str} {v : AV} {us ts : List AV} (h : Tmd ts (tok k v 0 :: us)) : ∃ i ts', ts = tok k v i :: ts' ∧ Tmd ts' us := by
  cases h with
  | cons h => exact ⟨_, _, rfl, h⟩
theorem tmd_opt {s : String} {g : Option Nat} {us ts : List AV} (h : Tmd ts (optU s g ++ us)) : ∃ (q : Option (Int × Nat × Nat)) (ts' : List AV), ts = optTok s q ++ ts' ∧ Tmd ts' us ∧ q.map (·.1) = g.map (fun z => (z : Int)) := by
  cases g with
  | none => exact ⟨none, ts, rfl, h, rfl⟩
  | some z =>
    have h0 : Tmd ts (wd s 0 :: nb (z : Nat) 0 :: us) := h
    clear h
    obtain ⟨i, ts1, e1, h1⟩ := tmd_word h0
    obtain ⟨j, ts2, e2, h2⟩ := tmd_word h1
    subst e2
    subst e1
    exact ⟨some ((z : Int), i, j), ts2, rfl, h2, rfl⟩
/-- the condition of a rule -/
theorem sp_cond {toks : List AV} {i : Nat} {us : List AV} (W : Wd hT (KK w.params)) {wr : Wrd} (hw : wr.Ok) (hz : toks.length ≤ 1000) (h : Tmd (toks.drop i) (wr.toks ++ wd "then" 0 :: us)) :
    ∃ i' j ts', toks.drop i' = wd "then" j :: ts' ∧ Tmd ts' us ∧ ∀ x dx (p : Int), p < 32 → Spec hT PG w 8 (.ref 391) [.ref x, .int 2] (rs x dx toks i p) (Gives wr.C (rs x dx toks i' (p + 1))) := by
  obtain ⟨N, L, is, ge, le⟩ := wr
  have h0 : Tmd (toks.drop i) (wd "prefix" 0 :: tok (Str.ofString "word") (.str (if is then Str.ofString "is" else Str.ofString "in")) 0 :: pf (Wrd.X ⟨N, L, is, ge, le⟩) 0 :: (optU "ge" ge ++ (optU "le" le ++ wd "then" 0 :: us))) := by
    unfold Wrd.toks at h
    cases is <;> simpa using h
  clear h
  obtain ⟨j1, ts1, h1, hb⟩ := tmd_word h0
  obtain ⟨j2, ts2, h2, hc⟩ := tmd_word hb
  obtain ⟨j3, ts3, h3, hd⟩ := tmd_word hc
  subst h3
  subst h2
  clear h0 hb hc
  cases is with
  | true =>
    obtain ⟨e1, e2⟩ := hw.i rfl
    dsimp only at e1 e2
    subst e1
    subst e2
    obtain ⟨j4, ts4, h4, he⟩ := tmd_word hd
    subst h4
    have hb := tk_next h1
    have hc := tk_next (tk_next hb)
    refine ⟨i + 1 + 2, j4, ts4, hc, he, fun x dx p hp => ?_⟩
    exact sp_any_of W 0 2 _ hz hc (sp_all_of W 0 2 _ hz hc (sp_plain W 0 2 _ (by decide) hp hz h1 (sp_about_is W 0 _ _ _ _ hz hb)))
  | false =>
    obtain ⟨g, ts4, h4, he, hg⟩ := tmd_opt hd
    obtain ⟨l, ts5, h5, hf, hl⟩ := tmd_opt he
    obtain ⟨j6, ts6, h6, hn⟩ := tmd_word hf
    subst h6
    subst h5
    subst h4
    have hb := tk_next h1
    have hgl : (g.map (·.1)).getD (L : Int) = ((ge.getD L : Nat) : Int) := by rw [hg]; cases ge <;> rfl
    have hll : (l.map (·.1)).getD 32 = ((le.getD 32 : Nat) : Int) := by rw [hl]; cases le <;> rfl
    have hwg := hw.g
    have hwm := hw.m
    dsimp only at hwg hwm
    have hw1 := hw.l
    dsimp only at hw1
    have b1 : ∀ q, g = some q → (L : Int) ≤ q.1 ∧ q.1 ≤ 32 := by
      rintro q rfl
      cases ge with
      | none => cases hg
      | some z => have := hwg z rfl; injection hg with hg; dsimp only at hg; omega
    have b2 : ∀ q, l = some q → (g.map (·.1)).getD (L : Int) ≤ q.1 ∧ q.1 ≤ 32 := by
      rintro q rfl
      rw [hgl]
      cases le with
      | none => cases hl
      | some z => have := hwm z rfl; injection hl with hl; dsimp only at hl; omega
    have hc : toks.drop (i + 1 + 2 + (optTok "ge" g).length + (optTok "le" l).length) = wd "then" j6 :: ts6 := by
      have e := tk_next (tk_next hb)
      have e2 : ∀ (k : Nat) (a b : List AV), toks.drop k = a ++ b → toks.drop (k + a.length) = b := fun k a b q => by
        rw [← List.drop_drop, q, List.drop_left]
      exact e2 _ _ _ (e2 _ _ _ e)
    refine ⟨_, j6, ts6, hc, hn, fun x dx p hp => ?_⟩
    have := sp_any_of (x := x) (dx := dx) (p := p) W 0 2 _ hz hc (sp_all_of W 0 2 _ hz hc (sp_plain W 0 2 _ (by decide) hp hz h1 (sp_about_in W 0 _ _ _ _ _ g l hz hb b1 b2)))
    rw [hgl, hll] at this
    exact this
/-- a term -/
theorem sp_term1 {toks : List AV} {i k : Nat} {us : List AV} (W : Wd hT (KK w.params)) {wr : Wrd} {b : Bool} (hk : k < 3) (hw : wr.Ok) (hz : toks.length ≤ 1000) (h : Tmd (toks.drop i) (termU k wr b ++ us)) {ts : List (Str × AV)}
    (hc : ∀ i', Tmd (toks.drop i') us → Chain hT w toks i' ts) : Chain hT w toks i ((nm k, .tup [ifSt wr.C (verd b)]) :: ts) := by
  have h0 : Tmd (toks.drop i) (wd "term" 0 :: tok (Str.ofString "word") (.str (nm k)) 0 :: sg "{" 0 :: wd "if" 0 :: (wr.toks ++ wd "then" 0 :: (tok (Str.ofString "word") (.str (verd b)) 0 :: sg "}" 0 :: us))) := by
    unfold termU at h
    simpa using h
  clear h
  obtain ⟨j1, ts1, h1, ha⟩ := tmd_word h0
  obtain ⟨j2, ts2, h2, hb⟩ := tmd_word ha
  subst h2
  obtain ⟨j3, ts3, h3, hd⟩ := tmd_word hb
  subst h3
  obtain ⟨j4, ts4, h4, he⟩ := tmd_word hd
  subst h4
  have k1 := tk_next h1
  have k2 := tk_next k1
  have k3 := tk_next k2
  have k4 := tk_next k3
  rw [← k4] at he
  obtain ⟨i', j5, ts5, k5, hf, hs⟩ := sp_cond W hw hz he
  obtain ⟨j6, ts6, h6, hg⟩ := tmd_word hf
  subst h6
  obtain ⟨j7, ts7, h7, hh⟩ := tmd_word hg
  subst h7
  have k6 := tk_next k5
  have k7 := tk_next k6
  have k8 := tk_next k7
  rw [← k8] at hh
  refine Chain.cons (i' := i' + 1 + 1 + 1) h1 (fun x dx p known hkn hok => ?_) (hc _ hh)
  have := nm_ok hk
  exact sp_term W 0 _ _ known hz hkn this.1 hok k1 ⟨_, _, k7⟩ (sp_statements W 0 _ _ hz k3 ⟨_, k7⟩ (sp_stmt_if W 0 1 (by decide) _ _ (verd_or b) hz k3 ⟨_, _, k5⟩ (hs x dx 0 (by decide))))
theorem chain_of {toks : List AV} (W : Wd hT (KK w.params)) (hz : toks.length ≤ 1000) : ∀ (R : List WR) (k i : Nat), k + R.length ≤ 3 → (∀ r ∈ R, r.1.Ok) → Tmd (toks.drop i) (usOf k R ++ [tok (Str.ofString "end") (.str (Str.ofString "")) 0]) →
    Chain hT w toks i (((nmr k R).map rC).map tmS)
  | [], k, i, _, _, h => by
    obtain ⟨j, ts, h1, h2⟩ := tmd_word h
    exact .nil h1
  | r :: R, k, i, hk, hok, h => by
    have h' : Tmd (toks.drop i) (termU k r.1 r.2 ++ (usOf (k + 1) R ++ [tok (Str.ofString "end") (.str (Str.ofString "")) 0])) := by rw [← List.append_assoc]; exact h
    rw [List.length_cons] at hk
    exact sp_term1 W (by omega) (hok r (.head _)) hz h' fun i' h2 => chain_of W hz R (k + 1) i' (by omega) (fun x hx => hok x (.tail _ hx)) h2
theorem termU_len (k : Nat) (w : Wrd) (b : Bool) : (termU k w b).length ≤ 14 := by
  have e : ∀ s g, (optU s g).length ≤ 2 := fun s g => by cases g <;> simp [optU]
  have e1 := e "ge" w.ge
  have e2 := e "le" w.le
  unfold termU Wrd.toks
  simp only [List.length_append, List.length_cons, List.length_nil]
  omega
theorem usOf_len : ∀ (R : List WR) (k : Nat), (usOf k R).length ≤ 14 * R.length
  | [], _ => Nat.le_refl _
  | r :: R, k => by
    have := usOf_len R (k + 1)
    have := termU_len k r.1 r.2
    unfold usOf
    rw [List.length_append, List.length_cons]
    omega
/-- a policy of such rules -/
noncomputable def polR (l : List NR) (fb : Bool) : AV := .tup [.tup ((l.map rC).map tmV), .tup [.str (verd fb)]]
theorem sp_read (W : Wd hT (KK w.params)) (n : Nat) (R : List WR) (x : Str) (hR : R.length ≤ 3) (hok : ∀ r ∈ R, r.1.Ok) (hx : x.length ≤ 1000) (h : Lxs x.cps.toList (usOf 0 R)) :
    Spec hT PG w (n + 13) (.ref 477) [.str x] [] (Gives (polR (nmr 0 R) false) []) := by
  obtain ⟨F, ts, hlex, htmd⟩ := h.lex 0
  have hlen := htmd.length
  have hus := usOf_len R 0
  have hz : (ts ++ [tok (Str.ofString "end") (.str (Str.ofString "")) x.length]).length ≤ 1000 := by rw [List.length_append, List.length_singleton]; omega
  have hc := chain_of (toks := ts ++ [tok (Str.ofString "end") (.str (Str.ofString "")) x.length]) W hz R 0 0 (by omega) hok (htmd.append (.cons .nil))
  have hn : ((((nmr 0 R).map rC).map tmS).map (·.1)).Nodup ∧ (((nmr 0 R).map rC).map tmS).length ≤ 100 ∧ ((((nmr 0 R).map rC).map tmS).map (·.1)).all (fun x => (AV.str x).ok 0) = true := by
    clear hc hok hlex htmd hlen hus hz h
    rcases R with _ | ⟨a, _ | ⟨b, _ | ⟨c, _ | ⟨d, R⟩⟩⟩⟩
    · exact ⟨List.nodup_nil, by decide, rfl⟩
    · exact ⟨show ([nm 0] : List Str).Nodup by decide +kernel, by simp [nmr], show ([nm 0] : List Str).all (fun x => (AV.str x).ok 0) = true by decide +kernel⟩
    · exact ⟨show ([nm 0, nm 1] : List Str).Nodup by decide +kernel, by simp [nmr], show ([nm 0, nm 1] : List Str).all (fun x => (AV.str x).ok 0) = true by decide +kernel⟩
    · exact ⟨show ([nm 0, nm 1, nm 2] : List Str).Nodup by decide +kernel, by simp [nmr], show ([nm 0, nm 1, nm 2] : List Str).all (fun x => (AV.str x).ok 0) = true by decide +kernel⟩
    · simp only [List.length_cons] at hR; omega
  have := sp_read_policy W n x F ts _ hx (by omega) hlex hc hn.1 hn.2.1 hn.2.2
  have e : (((nmr 0 R).map rC).map tmS).map tm = ((nmr 0 R).map rC).map tmV := by rw [List.map_map]; rfl
  rw [e] at this
  exact this
end

/-! E23 -/
/-! the law of the words, in plain data -/
theorem mem_allP {b : Nat} {q : Nat × Nat} : q ∈ allP b ↔ q.2 ≤ b ∧ q.1 < 2 ^ q.2 := by
  obtain ⟨N, L⟩ := q
  unfold allP
  rw [List.mem_flatMap]
  constructor
  · rintro ⟨L', h1, h2⟩
    obtain ⟨N', h3, h4⟩ := List.mem_map.mp h2
    cases h4
    rw [List.mem_range] at h1 h3
    exact ⟨by omega, h3⟩
  · rintro ⟨h1, h2⟩
    exact ⟨L, List.mem_range.mpr (by omega), List.mem_map.mpr ⟨N, List.mem_range.mpr h2, rfl⟩⟩
theorem allP_mono {b : Nat} (h : b ≤ 3) : ∀ q ∈ allP b, q ∈ allP 3 := fun q hq => by
  rw [mem_allP] at hq ⊢
  exact ⟨by omega, hq.2⟩
noncomputable def covTab : Bool := (allP 3).all fun p => (allP 3).all fun q => coversZ (wideZ p.1 p.2).1 (wideZ p.1 p.2).2 (wideZ q.1 q.2).1 (wideZ q.1 q.2).2 == lcov p.1 p.2 q.1 q.2
theorem covTab_t : covTab = true := by decide +kernel
theorem cov_eq {p q : Nat × Nat} (hp : p ∈ allP 3) (hq : q ∈ allP 3) : coversZ (wideZ p.1 p.2).1 (wideZ p.1 p.2).2 (wideZ q.1 q.2).1 (wideZ q.1 q.2).2 = lcov p.1 p.2 q.1 q.2 :=
  beq_iff_eq.mp (List.all_eq_true.mp (List.all_eq_true.mp covTab_t p hp) q hq)
theorem pr_eq {p q : Nat × Nat} (hp : p ∈ allP 3) (hq : q ∈ allP 3) (le mo : Nat) : prZ (wideZ p.1 p.2).1 (wideZ p.1 p.2).2 le mo (wideZ q.1 q.2).1 (wideZ q.1 q.2).2 = inW p.1 p.2 le mo q := by
  unfold prZ inW
  rw [cov_eq hp hq]
  rfl
/-- of two prefixes the longer one stands within the other or apart from it -/
noncomputable def nestTab : Bool := (allP 3).all fun p => (allP 3).all fun r => decide (r.2 ≤ p.2) == false || (allP 3).all fun q => (lcov p.1 p.2 q.1 q.2 && lcov r.1 r.2 q.1 q.2) == (lcov r.1 r.2 p.1 p.2 && lcov p.1 p.2 q.1 q.2)
theorem nestTab_t : nestTab = true := by decide +kernel
theorem nest {p r q : Nat × Nat} (hp : p ∈ allP 3) (hr : r ∈ allP 3) (hq : q ∈ allP 3) (h : r.2 ≤ p.2) : (lcov p.1 p.2 q.1 q.2 && lcov r.1 r.2 q.1 q.2) = (lcov r.1 r.2 p.1 p.2 && lcov p.1 p.2 q.1 q.2) := by
  have := List.all_eq_true.mp (List.all_eq_true.mp nestTab_t p hp) r hr
  rw [Bool.or_eq_true] at this
  rcases this with t | t
  · rw [decide_eq_true h] at t; cases t
  · exact beq_iff_eq.mp (List.all_eq_true.mp t q hq)
theorem inW_and {p r q : Nat × Nat} (hp : p ∈ allP 3) (hr : r ∈ allP 3) (hq : q ∈ allP 3) (h : r.2 ≤ p.2) (a b c d : Nat) :
    (inW p.1 p.2 a b q && inW r.1 r.2 c d q) = (lcov r.1 r.2 p.1 p.2 && inW p.1 p.2 (max a c) (min b d) q) := by
  have n := nest hp hr hq h
  have e1 : ∀ x y z u : Bool, ((x && y) && (z && u)) = ((x && z) && (y && u)) := by decide
  unfold inW
  rw [e1, n, Bool.and_assoc]
  congr 2
  rw [Bool.eq_iff_iff]
  simp only [Bool.and_eq_true, decide_eq_true_eq]
  omega
/-- the first that holds -/
noncomputable def firstB (fb : Bool) : List (Bool × Bool) → Bool
  | [] => fb
  | (h, b) :: r => if h then b else firstB fb r
theorem firstB_not (fb : Bool) : ∀ l : List (Bool × Bool), firstB (!fb) (l.map fun x => (x.1, !x.2)) = !firstB fb l
  | [] => rfl
  | (h, b) :: r => by
    show (if h then !b else firstB (!fb) (r.map fun x => (x.1, !x.2))) = !(if h then b else firstB fb r)
    rw [firstB_not fb r]
    cases h <;> rfl
theorem runB_first (fb : Bool) : ∀ l : List Rul, runB fb l = firstB fb (l.map fun r => (r.2.2.2, r.2.2.1 == Str.ofString "accept"))
  | [] => rfl
  | r :: l => by
    show (if r.2.2.2 then _ else runB fb l) = if r.2.2.2 then _ else firstB fb (l.map fun r => (r.2.2.2, r.2.2.1 == Str.ofString "accept"))
    rw [runB_first fb l]
theorem letB_first (q : Nat × Nat) : ∀ l : List LR, letB l q = firstB false (l.map fun r => (decide (q ∈ r.1), r.2))
  | [] => rfl
  | r :: l => by
    have ih := letB_first q l
    unfold letB at ih ⊢
    show _ = if decide (q ∈ r.1) then r.2 else firstB false (l.map fun r => (decide (q ∈ r.1), r.2))
    by_cases h : q ∈ r.1
    · rw [List.find?_cons_of_pos (by simpa using h), if_pos (by simpa using h)]
    · rw [List.find?_cons_of_neg (by simpa using h), if_neg (by simpa using h)]
      exact ih
/-- what is kept: a rule that holds something new -/
noncomputable def keepZ {α : Type} (ahead : List (Nat × Nat)) : List (LR × α) → List α
  | [] => []
  | (r, t) :: l => if r.1.filter (fun q => !decide (q ∈ ahead)) = [] then keepZ (ahead ++ r.1) l else t :: keepZ (ahead ++ r.1) l
theorem keep_first {α : Type} (q : Nat × Nat) (f : α → Bool × Bool) : ∀ (l : List (LR × α)) (ahead : List (Nat × Nat)), (∀ x ∈ l, f x.2 = (decide (q ∈ x.1.1), x.1.2)) → q ∉ ahead → firstB false ((keepZ ahead l).map f) = firstB false (l.map fun x => (decide (q ∈ x.1.1), x.1.2))
  | [], _, _, _ => rfl
  | (r, t) :: l, ahead, hf, hq => by
    have hf' : ∀ x ∈ l, f x.2 = (decide (q ∈ x.1.1), x.1.2) := fun x hx => hf x (.tail _ hx)
    have h0 : f t = (decide (q ∈ r.1), r.2) := hf (r, t) (.head _)
    unfold keepZ
    by_cases hm : q ∈ r.1
    · have hne : r.1.filter (fun q => !decide (q ∈ ahead)) ≠ [] := by
        intro e
        have := List.filter_eq_nil_iff.mp e q hm
        simp [hq] at this
      rw [if_neg hne]
      show firstB false (f t :: (keepZ (ahead ++ r.1) l).map f) = firstB false ((decide (q ∈ r.1), r.2) :: l.map _)
      rw [h0]
      show (if decide (q ∈ r.1) then r.2 else _) = if decide (q ∈ r.1) then r.2 else _
      rw [if_pos (by simpa using hm), if_pos (by simpa using hm)]
    · have ih := keep_first q f l (ahead ++ r.1) hf' (by simp [hq, hm])
      have e : firstB false (((r, t) :: l).map fun x => (decide (q ∈ x.1.1), x.1.2)) = firstB false (l.map fun x => (decide (q ∈ x.1.1), x.1.2)) := by
        show (if decide (q ∈ r.1) then r.2 else _) = _
        rw [if_neg (by simpa using hm)]
      rw [e]
      split
      · exact ih
      · show firstB false (f t :: (keepZ (ahead ++ r.1) l).map f) = _
        rw [h0]
        show (if decide (q ∈ r.1) then r.2 else _) = _
        rw [if_neg (by simpa using hm)]
        exact ih
section
variable {hT : Heap} {w : World} {c : Cx} {ν : Loc} {μ : Store}
theorem Ev2.isNone {d : AV} {k : Kt AV} (h : k (.bool d.isNone) ν μ) : Ev2 hT PG w c (compareOp .Is) Rd d .none ν μ k :=
  Ev2.rel (fun _ v u _ _ _ _ x y q => by cases y; cases x <;> exact is_none q) h
noncomputable def Wrd.f (w : Wrd) (q : Nat × Nat) : Bool := inW w.N w.L w.least w.most q
theorem wide_cast {N L : Nat} (hL : L ≤ 32) : wideZ N L = (((N * 2 ^ (32 - L) : Nat) : Int), (L : Int)) := by
  unfold wideZ
  have : ((32 : Int) - (L : Int)).toNat = 32 - L := by omega
  rw [this]; simp
theorem Wrd.Ok.mem {w : Wrd} (h : w.Ok) : (w.N, w.L) ∈ allP 3 := mem_allP.mpr ⟨h.l, h.n⟩
theorem sp_c_word (W : Wd hT (KK w.params)) (n : Nat) {wr : Wrd} (hw : wr.Ok) {q : Nat × Nat} (hq : q ∈ allP 3) (a b : AV) :
    Spec hT PG w (n + 4) (.ref 172) [wr.C, .tup [.int (wideZ q.1 q.2).1, .int (wideZ q.1 q.2).2], a, b] [] (Gives (.bool (wr.f q)) []) := by
  have h1 := hw.l
  have := sp_c_prefix (a := (wideZ q.1 q.2).1) (l := (wideZ q.1 q.2).2) (at' := a) (fa := b) W n (wideZ wr.N wr.L).1 (wideZ wr.N wr.L).2 (wr.least : Nat) (wr.most : Nat) (by rw [wide_cast (by omega)]; exact Int.natCast_nonneg _) (by rw [wide_cast (by omega)]; dsimp only; omega)
  rw [pr_eq hw.mem hq] at this
  have e : prC (wideZ wr.N wr.L).1 (wideZ wr.N wr.L).2 (wr.least : Nat) (wr.most : Nat) = wr.C := by rw [wide_cast (by omega)]; rfl
  rw [e] at this
  exact this
theorem all_small {B : Nat} (hB : B = 2 ∨ B = 3) : (allP B).length ≤ 100 ∧ (∀ q ∈ allP B, q.1 ≤ 255 ∧ q.2 ≤ 16) ∧ ∀ q ∈ allP B, q ∈ allP 3 := by
  have h3 : ∀ q ∈ allP B, q ∈ allP 3 := allP_mono (by omega)
  have t : (allP 3).all (fun q => decide (q.1 ≤ 255) && decide (q.2 ≤ 16)) = true := by decide +kernel
  refine ⟨by rcases hB with rfl | rfl <;> decide +kernel, fun q hq => ?_, h3⟩
  have := List.all_eq_true.mp t q (h3 q hq)
  rwa [Bool.and_eq_true, decide_eq_true_eq, decide_eq_true_eq] at this
theorem sp_runR (W : Wd hT (KK w.params)) (n : Nat) (l : List NR) (fb : Bool) (B : Nat) (hB : B = 2 ∨ B = 3) (hok : ∀ r ∈ l, r.2.1.Ok) :
    Spec hT PG w (n + 9) (.ref 527) [polR l fb, .lst (allA B)] [] (Gives (.lst (((allP B).filter fun q => firstB fb (l.map fun r => (r.2.1.f q, r.2.2))).map fun q => pr2 q.1 q.2)) []) := by
  obtain ⟨a1, a2, a3⟩ := all_small hB
  refine sp_run W (n + 7) _ _ _ a1 (fun q hq => by have := a2 q hq; omega) fun q hq a b => ?_
  have := sp_run_policy (pr := .tup [.int (wideZ q.1 q.2).1, .int (wideZ q.1 q.2).2]) (at' := .ref a) (fa := .ref b) W (n + 4) (l.map fun r => ((r.1, r.2.1.C, verd r.2.2, r.2.1.f q) : Rul)) fb (fun r hr => by
    obtain ⟨x, hx, rfl⟩ := List.mem_map.mp hr
    exact ⟨verd_or _, sp_c_word W n (hok x hx) (a3 q hq) _ _⟩)
  rw [List.map_map] at this
  have e : runB fb (l.map fun r => ((r.1, r.2.1.C, verd r.2.2, r.2.1.f q) : Rul)) = firstB fb (l.map fun r => (r.2.1.f q, r.2.2)) := by
    rw [runB_first, List.map_map]
    congr 1
    refine List.map_congr_left fun r _ => ?_
    show (r.2.1.f q, verd r.2.2 == Str.ofString "accept") = _
    cases r.2.2 <;> rfl
  rw [e] at this
  have e2 : (.tup [.tup ((l.map rC).map tmV), .tup [.str (verd fb)]] : AV) = .tup [.tup (l.map (tmR ∘ fun r : NR => ((r.1, r.2.1.C, verd r.2.2, r.2.1.f q) : Rul))), .tup [.str (endS fb)]] := by
    rw [List.map_map]; rfl
  unfold polR
  rw [e2]
  exact this
/-! the sets -/
noncomputable def lrOf (B : Nat) (r : WR) : LR := ((allP B).filter r.1.f, r.2)
theorem mem_set {B : Nat} {f : Nat × Nat → Bool} {q : Nat × Nat} (hq : q ∈ allP B) : decide (q ∈ (allP B).filter f) = f q := by
  rw [Bool.eq_iff_iff, decide_eq_true_eq, List.mem_filter]
  exact ⟨fun h => h.2, fun h => ⟨hq, h⟩⟩
theorem nmr_map {β : Type} (g : Wrd → Bool → β) : ∀ (R : List WR) (k : Nat), ((nmr k R).map fun r => g r.2.1 r.2.2) = R.map fun r => g r.1 r.2
  | [], _ => rfl
  | r :: R, k => congrArg (_ :: ·) (nmr_map g R (k + 1))
theorem let_eq {B : Nat} (R : List WR) {q : Nat × Nat} (hq : q ∈ allP B) : letB (R.map (lrOf B)) q = firstB false (R.map fun r => (r.1.f q, r.2)) := by
  rw [letB_first, List.map_map]
  congr 1
  refine List.map_congr_left fun r _ => ?_
  show (decide (q ∈ (allP B).filter r.1.f), r.2) = _
  rw [mem_set hq]
theorem run_due (B : Nat) (R : List WR) : ((allP B).filter fun q => firstB false ((nmr 0 R).map fun r => (r.2.1.f q, r.2.2))) = (allP B).filter (letB (R.map (lrOf B))) := by
  refine List.filter_congr fun q hq => ?_
  rw [let_eq R hq]
  exact congrArg _ (nmr_map (fun w b => (w.f q, b)) R 0)
theorem run_turned (B : Nat) (R : List WR) : ((allP B).filter fun q => firstB true (((nmr 0 R).map fun r => ((r.1, r.2.1, !r.2.2) : NR)).map fun r => (r.2.1.f q, r.2.2))) = (allP B).filter fun q => !decide (q ∈ (allP B).filter (letB (R.map (lrOf B)))) := by
  refine List.filter_congr fun q hq => ?_
  rw [mem_set hq, let_eq R hq, ← firstB_not]
  rw [List.map_map, List.map_map]
  exact congrArg _ (nmr_map (fun w b => (w.f q, !b)) R 0)
theorem run_both (B : Nat) (f g : Nat × Nat → Bool) : (((allP B).filter f).filter fun q => decide (q ∈ (allP B).filter g)) = (allP B).filter fun q => f q && g q := by
  rw [List.filter_filter]
  refine List.filter_congr fun q hq => ?_
  rw [mem_set hq, Bool.and_comm]
theorem run_neither (B : Nat) (f g : Nat × Nat → Bool) : ((allP B).filter fun q => !decide (q ∈ (allP B).filter f) && !decide (q ∈ (allP B).filter g)) = (allP B).filter fun q => !f q && !g q := by
  refine List.filter_congr fun q hq => ?_
  rw [mem_set hq, mem_set hq]
theorem run_not_or (B : Nat) (f g : Nat × Nat → Bool) : ((allP B).filter fun q => !(f q || g q)) = (allP B).filter fun q => !f q && !g q := by
  refine List.filter_congr fun q hq => ?_
  cases f q <;> cases g q <;> rfl
noncomputable def keepR (B : Nat) (ahead : List (Nat × Nat)) (k : Nat) (R : List WR) : List NR := keepZ ahead ((R.map (lrOf B)).zip (nmr k R))
theorem run_kept (B : Nat) (R : List WR) : ((allP B).filter fun q => firstB false ((keepR B [] 0 R).map fun r => (r.2.1.f q, r.2.2))) = (allP B).filter (letB (R.map (lrOf B))) := by
  refine List.filter_congr fun q hq => ?_
  rw [let_eq R hq]
  unfold keepR
  have z : ∀ (R : List WR) (k : Nat), ∀ x ∈ (R.map (lrOf B)).zip (nmr k R), (fun r : NR => (r.2.1.f q, r.2.2)) x.2 = (decide (q ∈ x.1.1), x.1.2) := by
    intro R
    induction R with
    | nil => intro k x hx; exact nomatch hx
    | cons r R ih =>
      intro k x hx
      rcases List.mem_cons.mp hx with rfl | hx
      · show (r.1.f q, r.2) = (decide (q ∈ (allP B).filter r.1.f), r.2)
        rw [mem_set hq]
      · exact ih (k + 1) x hx
  rw [keep_first q _ _ [] (z R 0) (by simp)]
  have z2 : ∀ (R : List WR) (k : Nat), ((R.map (lrOf B)).zip (nmr k R)).map (fun x => (decide (q ∈ x.1.1), x.1.2)) = R.map fun r => (r.1.f q, r.2) := by
    intro R
    induction R with
    | nil => intro k; rfl
    | cons r R ih =>
      intro k
      show (decide (q ∈ (allP B).filter r.1.f), r.2) :: _ = _ :: _
      rw [mem_set hq]
      exact congrArg _ (ih (k + 1))
  rw [z2 R 0]
/-- two words at once -/
theorem run_meet (B : Nat) (hB : B = 2 ∨ B = 3) {u v : Wrd} (hu : u.Ok) (hv : v.Ok) : match meetZ (u.N, u.L) u.least u.most (v.N, v.L) v.least v.most with
    | none => ((allP B).filter fun q => u.f q && v.f q) = []
    | some (p, le, mo) => p ∈ allP 3 ∧ ((allP B).filter fun q => u.f q && v.f q) = (allP B).filter (inW p.1 p.2 le mo) := by
  obtain ⟨a1, a2, a3⟩ := all_small hB
  have nil : ∀ {p : Nat × Nat} {a b : Nat}, ¬ a ≤ b → ∀ q, inW p.1 p.2 a b q = false := by
    intro p a b h q
    unfold inW
    have : (decide ((a : Int) ≤ (q.2 : Int)) && decide ((q.2 : Int) ≤ (b : Int))) = false := by
      rw [Bool.eq_false_iff]; intro e
      rw [Bool.and_eq_true, decide_eq_true_eq, decide_eq_true_eq] at e
      omega
    rw [this, Bool.and_false]
  have empty : ∀ {f : Nat × Nat → Bool}, (∀ q ∈ allP B, f q = false) → (allP B).filter f = [] := fun h => List.filter_eq_nil_iff.mpr fun q hq => by rw [h q hq]; decide
  unfold meetZ
  dsimp only
  by_cases h : v.L ≤ u.L
  · rw [if_pos h]
    have e : ∀ q ∈ allP B, (u.f q && v.f q) = (lcov v.N v.L u.N u.L && inW u.N u.L (max u.least v.least) (min u.most v.most) q) := fun q hq => inW_and hu.mem hv.mem (a3 q hq) h _ _ _ _
    by_cases hc : (lcov v.N v.L u.N u.L && decide (max u.least v.least ≤ min u.most v.most)) = true
    · rw [if_pos hc]
      rw [Bool.and_eq_true] at hc
      exact ⟨hu.mem, List.filter_congr fun q hq => by rw [e q hq, hc.1, Bool.true_and]⟩
    · rw [if_neg hc]
      refine empty fun q hq => ?_
      rw [e q hq]
      cases h1 : lcov v.N v.L u.N u.L with
      | false => rfl
      | true =>
        rw [h1, Bool.true_and, decide_eq_true_eq] at hc
        rw [Bool.true_and]
        exact nil (p := (u.N, u.L)) hc q
  · rw [if_neg h]
    have e : ∀ q ∈ allP B, (u.f q && v.f q) = (lcov u.N u.L v.N v.L && inW v.N v.L (max u.least v.least) (min u.most v.most) q) := fun q hq => by
      rw [Bool.and_comm, Nat.max_comm, Nat.min_comm]
      exact inW_and hv.mem hu.mem (a3 q hq) (by omega) _ _ _ _
    by_cases hc : (lcov u.N u.L v.N v.L && decide (max u.least v.least ≤ min u.most v.most)) = true
    · rw [if_pos hc]
      rw [Bool.and_eq_true] at hc
      exact ⟨hv.mem, List.filter_congr fun q hq => by rw [e q hq, hc.1, Bool.true_and]⟩
    · rw [if_neg hc]
      refine empty fun q hq => ?_
      rw [e q hq]
      cases h1 : lcov u.N u.L v.N v.L with
      | false => rfl
      | true =>
        rw [h1, Bool.true_and, decide_eq_true_eq] at hc
        rw [Bool.true_and]
        exact nil (p := (v.N, v.L)) hc q
end

/-! E24 -/
section
variable {hT : Heap} {w : World} {μ : Store} {ν : Loc} {A : Around} {L b : Addr} {bl : List AV} {B : Nat} {R : List WR} {k : Kt Fl}
noncomputable abbrev lawNs : List Str := [Str.ofString "ahead", Str.ofString "due", Str.ofString "policy", Str.ofString "rules"]
noncomputable abbrev lawC (A : Around) (L : Addr) : Cx := ⟨A, envC (Str.ofString "law") (pscope s_law) L 551 (.ref 550) lawNs, [], 59⟩
noncomputable def lst (i : Nat) : Stmt := ((pbody s_law)[i]?).getD (.Pass default)
noncomputable abbrev cst (L : Nat) (a d p r : Option AV) : Store := [(L + 1 + 3, .cell a), (L + 1 + 2, .cell d), (L + 1 + 1, .cell p), (L + 1 + 0, .cell r)]
noncomputable abbrev prs (l : List (Nat × Nat)) : AV := .lst (l.map fun q => pr2 q.1 q.2)
noncomputable abbrev rulA (B : Nat) (R : List WR) : AV := .lst ((R.map (lrOf B)).map lrA)
noncomputable abbrev dueL (B : Nat) (R : List WR) : List (Nat × Nat) := (allP B).filter (letB (R.map (lrOf B)))
noncomputable abbrev st (b : Addr) (bl : List AV) (L : Nat) (B : Nat) (R : List WR) : Store := (b, .list bl) :: cst L none (some (prs (dueL B R))) (some (polR (nmr 0 R) false)) (some (rulA B R))
theorem ok_prs (l : List (Nat × Nat)) : (prs l).ok 2 = true := oks_pr l
theorem nmr_ok : ∀ {R : List WR} (k : Nat), (∀ r ∈ R, r.1.Ok) → ∀ r ∈ nmr k R, r.2.1.Ok
  | [], _, _, _, h => nomatch h
  | r :: R, k, hok, x, h => by
    rcases List.mem_cons.mp h with rfl | h
    · exact hok r (.head _)
    · exact nmr_ok (k + 1) (fun y hy => hok y (.tail _ hy)) x h
theorem nmr_len : ∀ (R : List WR) (k : Nat), (nmr k R).length = R.length
  | [], _ => rfl
  | r :: R, k => congrArg (· + 1) (nmr_len R (k + 1))
theorem ne_same {c : Cx} {k : Kt AV} {l m : List (Nat × Nat)} (e : l = m) (h : k (.bool false) ν μ) : Ev2 hT PG w c (compareOp .NotEq) Rd (prs l) (prs m) ν μ k :=
  Ev2.ne 2 2 (ok_prs _) (ok_prs _) (by decide) (by decide) (by rw [deq_prs, decide_eq_true e]; exact h)
theorem st5 (W : Wd hT (KK w.params)) (hB : B = 2 ∨ B = 3) (hok : ∀ r ∈ R, r.1.Ok) (h2 : R.length ≤ 3) (hs : ν (Str.ofString "some") = some (.lst (allA B))) (h : k .next ν (st b bl L B R)) :
    EvS hT PG w (lawC A L) (lst 5) ν (st b bl L B R) k := by
  refine EvS.iff ?_
  refine EvT.or ?_
  refine EvT.cmp ?_ rfl
  refine' EvE.callK (by assumption) (G_law_run _) (KI_law_run _) ?_ rfl rfl rfl rfl rfl rfl
  refine EvAs.cons ?_ rfl
  refine' EvE.cel rfl rfl (.inl (.tail _ (.tail _ (.tail _ (.head _))))) ?_ rfl rfl
  refine EvAs.cons ?_ rfl
  refine' EvE.loc rfl (by assumption) ?_ rfl rfl
  refine EvAs.nil ?_
  refine EvL.gives (by dsimp only; omega) (sp_runR W 0 (nmr 0 R) false B hB (nmr_ok 0 hok)) ?_
  refine' EvE.cel rfl rfl (.inl (.tail _ (.tail _ (.head _)))) ?_ rfl rfl
  refine ne_same (run_due B R) ?_
  refine Ev1.truthB ?_
  refine brF (by walk_at "cond") ?_
  refine EvT.or ?_
  refine EvT.cmp ?_ rfl
  refine EvE.sub ?_
  refine' EvE.cel rfl rfl (.inl (.tail _ (.tail _ (.tail _ (.head _))))) ?_ rfl rfl
  refine EvE.int ?_
  refine Ev2.subTup (j := 1) rfl rfl ?_ (fun _ _ => rfl) (by decide) (by decide)
  refine EvE.tuple ?_
  refine EvAs.cons ?_ rfl
  refine EvE.str ?_
  refine EvAs.nil ?_
  refine tup_ok (by walk_at "side") ?_
  refine Ev2.ne 1 1 (by decide +kernel) (by decide +kernel) (by decide) (by decide) ?_
  rw [show deq (.tup [.str (verd false)]) (.tup [.str (Str.ofString "reject")]) = true by decide +kernel]
  refine Ev1.truthB ?_
  refine brF (by walk_at "cond") ?_
  refine EvT.or ?_
  refine EvT.cmp ?_ rfl
  refine' EvE.callB (by assumption) (B_len _) (BB_len) (by decide) ?_ rfl rfl rfl rfl rfl rfl rfl
  refine EvAs.cons ?_ rfl
  refine EvE.sub ?_
  refine' EvE.cel rfl rfl (.inl (.tail _ (.tail _ (.tail _ (.head _))))) ?_ rfl rfl
  refine EvE.int ?_
  refine Ev2.subTup (j := 0) rfl rfl ?_ (fun _ _ => rfl) (by decide) (by decide)
  refine EvAs.nil ?_
  refine EvL.lenT (by rw [List.length_map, List.length_map, nmr_len]; omega) ?_
  refine' EvE.callB (by assumption) (B_len _) (BB_len) (by decide) ?_ rfl rfl rfl rfl rfl rfl rfl
  refine EvAs.cons ?_ rfl
  refine' EvE.cel rfl rfl (.inl (.tail _ (.tail _ (.tail _ (.tail _ (.head _)))))) ?_ rfl rfl
  refine EvAs.nil ?_
  refine' EvL.lenL (by walk_at "side") ?_
  refine Ev2.neI ?_
  refine Ev1.truthB ?_
  rw [List.length_map, List.length_map, List.length_map, List.length_map, nmr_len]
  refine brF (by simp) ?_
  refine EvT.orNil ?_
  refine brF (by walk_at "cond") ?_
  refine EvSs.nil ?_
  exact h
theorem st6 (W : Wd hT (KK w.params)) (hB : B = 2 ∨ B = 3) (hok : ∀ r ∈ R, r.1.Ok) (h2 : R.length ≤ 3) (hs : ν (Str.ofString "some") = some (.lst (allA B))) (h : k .next ν (st b bl L B R)) :
    EvS hT PG w (lawC A L) (lst 6) ν (st b bl L B R) k := by
  have a1 := (all_small hB).1
  refine EvS.iff ?_
  refine EvT.cmp ?_ rfl
  refine' EvE.callK (by assumption) (G_law_run _) (KI_law_run _) ?_ rfl rfl rfl rfl rfl rfl
  refine EvAs.cons ?_ rfl
  refine' EvE.callK (by assumption) (G_law_turned _) (KI_law_turned _) ?_ rfl rfl rfl rfl rfl rfl
  refine EvAs.cons ?_ rfl
  refine' EvE.cel rfl rfl (.inl (.tail _ (.tail _ (.tail _ (.head _))))) ?_ rfl rfl
  refine EvAs.nil ?_
  refine EvL.gives (by dsimp only; omega) (sp_turned W 0 ((nmr 0 R).map rC) false (by rw [List.length_map, nmr_len]; omega)) ?_
  have e : ((nmr 0 R).map rC).map (fun r => (r.1, r.2.1, !r.2.2)) = ((nmr 0 R).map fun r => ((r.1, r.2.1, !r.2.2) : NR)).map rC := by rw [List.map_map, List.map_map]; rfl
  rw [e]
  refine EvAs.cons ?_ rfl
  refine' EvE.loc rfl (by assumption) ?_ rfl rfl
  refine EvAs.nil ?_
  refine EvL.gives (by dsimp only; omega) (sp_runR W 0 ((nmr 0 R).map fun r => ((r.1, r.2.1, !r.2.2) : NR)) true B hB (fun r hr => by obtain ⟨x, hx, rfl⟩ := List.mem_map.mp hr; exact nmr_ok 0 hok x hx)) ?_
  rw [run_turned]
  refine EvE.comp (EvItC.of (EvIt.val ?_)) rfl (fun _ => rfl) (by decide +kernel) rfl (by decide +kernel)
  refine' EvE.loc rfl (by assumption) ?_ rfl rfl
  refine lst_ok ?_
  refine ⟨by unfold allA; rw [List.length_map]; omega, fun C D => ?_⟩
  refine CompL.inv (fun ds ν l => ∃ done rest : List (Nat × Nat), ds = rest.map (fun q => pr2 q.1 q.2) ∧ done ++ rest = allP B ∧ l = (done.filter fun q => !decide (q ∈ dueL B R)).map fun q => pr2 q.1 q.2) ?_ ?_ _ _ _ ⟨[], allP B, rfl, rfl, rfl⟩
  · rintro d ds ν l ⟨done, rest, hd, hda, rfl⟩
    cases rest with
    | nil => cases hd
    | cons q rest =>
    cases hd
    refine Ev1.assignN ?_
    refine EvStore rfl rfl ?_
    refine sto_ok ?_
    refine EvIfs.one ?_
    refine EvT.cmp ?_ rfl
    refine' EvE.loc rfl rfl ?_ rfl rfl
    refine' EvE.cel rfl rfl (.inr (.tail _ (.tail _ (.head _)))) ?_ rfl rfl
    refine Ev2.notInLst 1 1 (oks_pr _) (ok_pr _) (by decide) ?_
    rw [any_pr]
    refine Ev1.truthB ?_
    refine sto_ok ?_
    refine ⟨fun hb => ?_, fun hb => ?_⟩
    · refine' EvE.loc rfl rfl ?_ rfl rfl
      refine sto_ok ?_
      refine ⟨done ++ [q], rest, rfl, by rw [← hda]; simp, ?_⟩
      rw [List.filter_append, List.filter_cons_of_pos (p := fun q => !decide (q ∈ dueL B R)) hb, List.filter_nil, List.map_append]; rfl
    · refine ⟨done ++ [q], rest, rfl, by rw [← hda]; simp, ?_⟩
      rw [List.filter_append, List.filter_cons_of_neg (p := fun q => !decide (q ∈ dueL B R)) (by rw [hb]; decide), List.filter_nil, List.append_nil]
  · rintro ν l ⟨done, rest, hd, hda, rfl⟩
    cases rest with
    | cons t rest => cases hd
    | nil =>
    rw [List.append_nil] at hda
    subst hda
    refine ne_same rfl ?_
    refine Ev1.truthB ?_
    refine brF (by walk_at "cond") ?_
    refine EvSs.nil ?_
    exact h
theorem CompL.cons' {c : Cx} {target elt : Expr} {ifs : List Expr} {D : Addr} {d : AV} {ds acc : List AV} {k : List AV → Prop} (h : Ev1 hT PG w c (assign target c.env) any d ν [(D, .list acc)] fun _ ν₁ μ₁ => μ₁ = [(D, .list acc)] ∧ EvIfs hT PG w c ifs ν₁ [(D, .list acc)] fun ok ν₂ μ₂ => μ₂ = [(D, .list acc)] ∧
      (ok = true → EvE hT PG w c elt ν₂ [(D, .list acc)] fun e ν₃ μ₃ => μ₃ = [(D, .list acc)] ∧ CompL hT PG w c target ifs elt D ds ν₃ (acc ++ [e]) k) ∧
      (ok = false → CompL hT PG w c target ifs elt D ds ν₂ acc k)) : CompL hT PG w c target ifs elt D (d :: ds) ν acc k := h
theorem CompL.nil' {c : Cx} {target elt : Expr} {ifs : List Expr} {D : Addr} {acc : List AV} {k : List AV → Prop} (h : k acc) : CompL hT PG w c target ifs elt D [] ν acc k := h
theorem Ev2.subTN {c : Cx} {value slice : Expr} {l : List AV} {d : AV} {k : Kt AV} (i : Nat) (hx : l[i]? = some d) (hz : l.length ≤ 1000) (h : k d ν μ)
    (hs : ∀ o i, subscripted slice false o i = operate [o, i] (getItem o i) := by exact fun _ _ => rfl) : Ev2 hT PG w c (subscriptTail value slice) Rd (.tup l) (.int (i : Nat)) ν μ k := by
  have hlt : i < l.length := (List.getElem?_eq_some_iff.mp hx).1
  exact Ev2.subTup (StrLaws.seqIndex_nonneg (by omega) (by omega)) (by simpa using hx) h hs (by omega) (by omega)
theorem st7 {r0 r1 : WR} {R' : List WR} (W : Wd hT (KK w.params)) (hR : R = r0 :: r1 :: R') (h2 : R.length ≤ 3) (h : k .next (upd (upd ν (Str.ofString "one") r0.1.C) (Str.ofString "other") r1.1.C) (st b bl L B R)) :
    EvS hT PG w (lawC A L) (lst 7) ν (st b bl L B R) k := by
  subst hR
  have hlen : (((nmr 0 (r0 :: r1 :: R')).map rC).map tmV).length ≤ 1000 := by rw [List.length_map, List.length_map, nmr_len]; omega
  refine EvS.assignT ?_ rfl rfl
  refine EvE.comp (EvItC.of ?_) rfl (fun _ => rfl) (by decide +kernel) rfl (by decide +kernel)
  refine' EvIt.range (by assumption) (B_range _) ?_ rfl rfl rfl rfl rfl
  refine EvE.int ?_
  refine ⟨2, rfl, by decide, by decide, fun C D => ?_⟩
  refine CompL.cons' (d := .int (0 : Nat)) (ds := [.int (1 : Nat)]) ?_
  refine Ev1.assignN ?_
  refine EvStore rfl rfl ?_
  refine sto_ok ?_
  refine EvIfs.nil ?_
  refine sto_ok ?_
  refine brT (by walk_at "cond") ?_
  refine EvE.sub ?_
  refine EvE.sub ?_
  refine EvE.sub ?_
  refine EvE.sub ?_
  refine EvE.sub ?_
  refine' EvE.cel rfl rfl (.inr (.tail _ (.tail _ (.tail _ (.head _))))) ?_ rfl rfl
  refine EvE.int ?_
  refine Ev2.subTup (j := 0) rfl rfl ?_ (fun _ _ => rfl) (by decide) (by decide)
  refine' EvE.loc rfl rfl ?_ rfl rfl
  refine Ev2.subTN (d := tmV (nm 0, r0.1.C, r0.2)) 0 rfl hlen ?_
  refine EvE.int ?_
  refine' Ev2.subTup rfl rfl ?_ (fun _ _ => rfl) (by decide) (by decide)
  refine EvE.int ?_
  refine' Ev2.subTup rfl rfl ?_ (fun _ _ => rfl) (by decide) (by decide)
  refine EvE.int ?_
  refine' Ev2.subTup rfl rfl ?_ (fun _ _ => rfl) (by decide) (by decide)
  refine sto_ok ?_
  refine CompL.cons' (d := .int (1 : Nat)) (ds := []) ?_
  refine Ev1.assignN ?_
  refine EvStore rfl rfl ?_
  refine sto_ok ?_
  refine EvIfs.nil ?_
  refine sto_ok ?_
  refine brT (by walk_at "cond") ?_
  refine EvE.sub ?_
  refine EvE.sub ?_
  refine EvE.sub ?_
  refine EvE.sub ?_
  refine EvE.sub ?_
  refine' EvE.cel rfl rfl (.inr (.tail _ (.tail _ (.tail _ (.head _))))) ?_ rfl rfl
  refine EvE.int ?_
  refine Ev2.subTup (j := 0) rfl rfl ?_ (fun _ _ => rfl) (by decide) (by decide)
  refine' EvE.loc rfl rfl ?_ rfl rfl
  refine Ev2.subTN (d := tmV (nm 1, r1.1.C, r1.2)) 1 rfl hlen ?_
  refine EvE.int ?_
  refine' Ev2.subTup rfl rfl ?_ (fun _ _ => rfl) (by decide) (by decide)
  refine EvE.int ?_
  refine' Ev2.subTup rfl rfl ?_ (fun _ _ => rfl) (by decide) (by decide)
  refine EvE.int ?_
  refine' Ev2.subTup rfl rfl ?_ (fun _ _ => rfl) (by decide) (by decide)
  refine sto_ok ?_
  refine CompL.nil' ?_
  dsimp only [List.nil_append, List.cons_append]
  refine Ev1.assignLst rfl rfl ?_
  refine EvA.cons ?_ rfl
  refine Ev1.assignN ?_
  refine EvStore rfl rfl ?_
  refine EvA.cons ?_ rfl
  refine Ev1.assignN ?_
  refine EvStore rfl rfl ?_
  refine EvA.nil ?_
  exact h
theorem st8 {r0 r1 : WR} {R' : List WR} (W : Wd hT (KK w.params)) (hB : B = 2 ∨ B = 3) (hR : R = r0 :: r1 :: R') (h2 : R.length ≤ 3) (h : k .next (upd ν (Str.ofString "both") (prs ((allP B).filter fun q => r0.1.f q && r1.1.f q))) (st b bl L B R)) :
    EvS hT PG w (lawC A L) (lst 8) ν (st b bl L B R) k := by
  subst hR
  have a1 := (all_small hB).1
  have hlen : (((r0 :: r1 :: R').map (lrOf B)).map lrA).length ≤ 1000 := by rw [List.length_map, List.length_map]; omega
  refine EvS.assignComp rfl (EvItC.of (EvIt.val ?_)) rfl (fun _ => rfl) (by decide +kernel) rfl (by decide +kernel) rfl rfl
  refine EvE.sub ?_
  refine EvE.sub ?_
  refine' EvE.cel rfl rfl (.inl (.tail _ (.tail _ (.tail _ (.tail _ (.head _)))))) ?_ rfl rfl
  refine EvE.int ?_
  refine Ev2.subLN (i := 0) (d := lrA (lrOf B r0)) rfl hlen ?_
  refine EvE.int ?_
  refine' Ev2.subTup rfl rfl ?_ (fun _ _ => rfl) (by decide) (by decide)
  refine lst_ok ?_
  refine ⟨by rw [List.length_map]; exact Nat.le_trans (List.length_filter_le _ _) (by omega), fun C D => ?_⟩
  refine CompL.inv (fun ds ν l => ∃ done rest : List (Nat × Nat), ds = rest.map (fun q => pr2 q.1 q.2) ∧ done ++ rest = (allP B).filter r0.1.f ∧ l = (done.filter fun q => decide (q ∈ (allP B).filter r1.1.f)).map fun q => pr2 q.1 q.2) ?_ ?_ _ _ _ ⟨[], (allP B).filter r0.1.f, rfl, rfl, rfl⟩
  · rintro d ds ν l ⟨done, rest, hd, hda, rfl⟩
    cases rest with
    | nil => cases hd
    | cons q rest =>
    cases hd
    refine Ev1.assignN ?_
    refine EvStore rfl rfl ?_
    refine sto_ok ?_
    refine EvIfs.one ?_
    refine EvT.cmp ?_ rfl
    refine' EvE.loc rfl rfl ?_ rfl rfl
    refine EvE.sub ?_
    refine EvE.sub ?_
    refine' EvE.cel rfl rfl (.inr (.tail _ (.tail _ (.tail _ (.tail _ (.head _)))))) ?_ rfl rfl
    refine EvE.int ?_
    refine Ev2.subLN (i := 1) (d := lrA (lrOf B r1)) rfl hlen ?_
    refine EvE.int ?_
    refine' Ev2.subTup rfl rfl ?_ (fun _ _ => rfl) (by decide) (by decide)
    refine Ev2.inLst 1 1 (oks_pr _) (ok_pr _) (by decide) ?_
    rw [any_pr]
    refine Ev1.truthB ?_
    refine sto_ok ?_
    refine ⟨fun hb => ?_, fun hb => ?_⟩
    · refine' EvE.loc rfl rfl ?_ rfl rfl
      refine sto_ok ?_
      refine ⟨done ++ [q], rest, rfl, by rw [← hda]; simp, ?_⟩
      rw [List.filter_append, List.filter_cons_of_pos (p := fun q => decide (q ∈ (allP B).filter r1.1.f)) hb, List.filter_nil, List.map_append]; rfl
    · refine ⟨done ++ [q], rest, rfl, by rw [← hda]; simp, ?_⟩
      rw [List.filter_append, List.filter_cons_of_neg (p := fun q => decide (q ∈ (allP B).filter r1.1.f)) (by rw [show decide (q ∈ (allP B).filter r1.1.f) = false from hb]; decide), List.filter_nil, List.append_nil]
  · rintro ν l ⟨done, rest, hd, hda, rfl⟩
    cases rest with
    | cons t rest => cases hd
    | nil =>
    rw [List.append_nil] at hda
    subst hda
    rw [run_both]
    exact h
theorem st9 {r0 r1 : WR} {R' : List WR} (W : Wd hT (KK w.params)) (hR : R = r0 :: r1 :: R') (h2 : R.length ≤ 3) (ho0 : r0.1.Ok) (ho1 : r1.1.Ok) (hw : ν (Str.ofString "words") = some (.lst (R.map fun r => r.1.A)))
    (h : k .next (upd ν (Str.ofString "meet") (meetA (meetZ (r0.1.N, r0.1.L) r0.1.least r0.1.most (r1.1.N, r1.1.L) r1.1.least r1.1.most))) (st b bl L B R)) :
    EvS hT PG w (lawC A L) (lst 9) ν (st b bl L B R) k := by
  subst hR
  have hlen : ((r0 :: r1 :: R').map fun r => r.1.A).length ≤ 1000 := by rw [List.length_map]; omega
  have sm : ∀ {v : Wrd}, v.Ok → v.N ≤ 255 ∧ v.L ≤ 16 := fun {v} hv => by
    have := hv.l
    have := hv.n
    have := small_two hv.l
    omega
  have e0 := sm ho0
  have e1 := sm ho1
  refine EvS.assign ?_ rfl
  refine' EvE.callK (by assumption) (G_law_meet _) (KI_law_meet _) ?_ rfl rfl rfl rfl rfl rfl
  refine EvAs.cons ?_ rfl
  refine EvE.sub ?_
  refine' EvE.loc rfl (by assumption) ?_ rfl rfl
  refine EvE.int ?_
  refine Ev2.subLN (i := 0) (d := r0.1.A) rfl hlen ?_
  refine EvAs.cons ?_ rfl
  refine EvE.sub ?_
  refine' EvE.loc rfl (by assumption) ?_ rfl rfl
  refine EvE.int ?_
  refine Ev2.subLN (i := 1) (d := r1.1.A) rfl hlen ?_
  refine EvAs.nil ?_
  refine EvL.gives (by dsimp only; omega) (sp_meet W 0 (r0.1.N, r0.1.L) r0.1.least r0.1.most (r1.1.N, r1.1.L) r1.1.least r1.1.most e0 e1) ?_
  refine EvStore rfl rfl ?_
  exact h
noncomputable abbrev mtZ (u v : Wrd) := meetZ (u.N, u.L) u.least u.most (v.N, v.L) v.least v.most
theorem ok_c2 {q : Nat × Nat} {wr : Wrd} {a b : Addr} (W : Wd hT (KK w.params)) (hw : wr.Ok) (hq : q ∈ allP 3) : Spec hT PG w 4 (.ref 172) [wr.C, .tup [.int (wideZ q.1 q.2).1, .int (wideZ q.1 q.2).2], .ref a, .ref b] [] (Gives (.bool (wr.f q)) []) := sp_c_word W 0 hw hq _ _
theorem sp_held' (W : Wd hT (KK w.params)) (n : Nat) (hB : B = 2 ∨ B = 3) (asked : AV) (f : Nat × Nat → Bool) (hs : ∀ q ∈ allP B, q ∈ allP 3 → ∀ a b, Spec hT PG w n (.ref 172) [asked, .tup [.int (wideZ q.1 q.2).1, .int (wideZ q.1 q.2).2], .ref a, .ref b] [] (Gives (.bool (f q)) [])) :
    Spec hT PG w (n + 2) (.ref 546) [asked, .lst (allA B)] [] (Gives (prs ((allP B).filter f)) []) := by
  obtain ⟨a1, a2, a3⟩ := all_small hB
  exact sp_held W n asked _ f a1 (fun q hq => by have := a2 q hq; omega) fun q hq => hs q hq (a3 q hq)
theorem st10 {r0 r1 : WR} (W : Wd hT (KK w.params)) (hB : B = 2 ∨ B = 3) (ho0 : r0.1.Ok) (ho1 : r1.1.Ok) (hs : ν (Str.ofString "some") = some (.lst (allA B))) (h3 : ν (Str.ofString "one") = some r0.1.C) (h4 : ν (Str.ofString "other") = some r1.1.C)
    (h5 : ν (Str.ofString "both") = some (prs ((allP B).filter fun q => r0.1.f q && r1.1.f q))) (h6 : ν (Str.ofString "meet") = some (meetA (mtZ r0.1 r1.1))) (h : k .next ν (st b bl L B R)) :
    EvS hT PG w (lawC A L) (lst 10) ν (st b bl L B R) k := by
  have hm := run_meet B hB ho0 ho1
  refine EvS.iff ?_
  refine EvT.or ?_
  refine EvT.cmp ?_ rfl
  refine' EvE.callK (by assumption) (G_law_held _) (KI_law_held _) ?_ rfl rfl rfl rfl rfl rfl
  refine EvAs.cons ?_ rfl
  refine EvE.tuple ?_
  refine EvAs.cons ?_ rfl
  refine EvE.str ?_
  refine EvAs.cons ?_ rfl
  refine' EvE.loc rfl (by assumption) ?_ rfl rfl
  refine EvAs.cons ?_ rfl
  refine' EvE.loc rfl (by assumption) ?_ rfl rfl
  refine EvAs.nil ?_
  refine tup_ok (by walk_at "side") ?_
  refine EvAs.cons ?_ rfl
  refine' EvE.loc rfl (by assumption) ?_ rfl rfl
  refine EvAs.nil ?_
  refine EvL.gives (by dsimp only; omega) (sp_held' W 5 hB _ (fun q => r0.1.f q && r1.1.f q) fun q _ hq a b => sp_c_and W 4 (ok_c2 W ho0 hq) (ok_c2 W ho1 hq)) ?_
  refine' EvE.loc rfl (by assumption) ?_ rfl rfl
  refine ne_same rfl ?_
  refine Ev1.truthB ?_
  refine brF (by walk_at "cond") ?_
  refine EvT.or ?_
  refine EvT.and ?_
  refine EvT.cmp ?_ rfl
  refine' EvE.loc rfl (by assumption) ?_ rfl rfl
  refine EvE.none ?_
  refine Ev2.isNone ?_
  cases hz : mtZ r0.1 r1.1 with
  | none =>
    rw [show meetZ (r0.1.N, r0.1.L) r0.1.least r0.1.most (r1.1.N, r1.1.L) r1.1.least r1.1.most = none from hz] at hm
    refine Ev1.truthB ?_
    refine brT (by walk_at "cond") ?_
    refine EvT.and ?_
    refine EvT.cmp ?_ rfl
    refine' EvE.loc rfl (by assumption) ?_ rfl rfl
    refine EvE.listF ?_
    refine EvAs.nil ?_
    refine tup_ok (by walk_at "side") ?_
    refine ne_same (m := []) hm ?_
    refine Ev1.truthB ?_
    refine brF (by walk_at "cond") ?_
    refine brF (by walk_at "cond") ?_
    refine EvT.orNil ?_
    refine brF (by walk_at "cond") ?_
    refine EvSs.nil ?_
    exact h
  | some z =>
    refine Ev1.truthB ?_
    refine brF (by walk_at "cond") ?_
    refine brF (by walk_at "cond") ?_
    refine EvT.orNil ?_
    refine brF (by walk_at "cond") ?_
    refine EvSs.nil ?_
    exact h
theorem st11 {r0 r1 : WR} (W : Wd hT (KK w.params)) (hB : B = 2 ∨ B = 3) (ho0 : r0.1.Ok) (ho1 : r1.1.Ok) (hs : ν (Str.ofString "some") = some (.lst (allA B)))
    (h5 : ν (Str.ofString "both") = some (prs ((allP B).filter fun q => r0.1.f q && r1.1.f q))) (h6 : ν (Str.ofString "meet") = some (meetA (mtZ r0.1 r1.1))) (h : k .next ν (st b bl L B R)) :
    EvS hT PG w (lawC A L) (lst 11) ν (st b bl L B R) k := by
  have hm := run_meet B hB ho0 ho1
  cases hz : mtZ r0.1 r1.1 with
  | none =>
    rw [hz] at h6
    refine EvS.iff ?_
    refine EvT.and ?_
    refine EvT.cmp ?_ rfl
    refine' EvE.loc rfl (by assumption) ?_ rfl rfl
    refine EvE.none ?_
    refine Ev2.isNotNone ?_
    refine Ev1.truthB ?_
    refine brF (by walk_at "cond") ?_
    refine brF (by walk_at "cond") ?_
    refine EvSs.nil ?_
    exact h
  | some z =>
    obtain ⟨p, le, mo⟩ := z
    rw [hz] at h6
    rw [show meetZ (r0.1.N, r0.1.L) r0.1.least r0.1.most (r1.1.N, r1.1.L) r1.1.least r1.1.most = _ from hz] at hm
    dsimp only at hm
    refine EvS.iff ?_
    refine EvT.and ?_
    refine EvT.cmp ?_ rfl
    refine' EvE.loc rfl (by assumption) ?_ rfl rfl
    refine EvE.none ?_
    refine Ev2.isNotNone ?_
    refine Ev1.truthB ?_
    refine brT (by walk_at "cond") ?_
    refine EvT.and ?_
    refine EvT.cmp ?_ rfl
    refine' EvE.callK (by assumption) (G_law_held _) (KI_law_held _) ?_ rfl rfl rfl rfl rfl rfl
    refine EvAs.cons ?_ rfl
    refine' EvE.loc rfl (by assumption) ?_ rfl rfl
    refine EvAs.cons ?_ rfl
    refine' EvE.loc rfl (by assumption) ?_ rfl rfl
    refine EvAs.nil ?_
    refine EvL.gives (by dsimp only; omega) (sp_held' W 4 hB _ (inW p.1 p.2 le mo) fun q _ hq a b => ?_) ?_
    · have h1 := mem_allP.mp hm.1
      have := sp_c_prefix (a := (wideZ q.1 q.2).1) (l := (wideZ q.1 q.2).2) (at' := .ref a) (fa := .ref b) W 0 (wideZ p.1 p.2).1 (wideZ p.1 p.2).2 le mo (by rw [wide_cast (by omega)]; exact Int.natCast_nonneg _) (by rw [wide_cast (by omega)]; dsimp only; omega)
      rw [pr_eq hm.1 hq] at this
      exact this
    refine' EvE.loc rfl (by assumption) ?_ rfl rfl
    refine ne_same hm.2.symm ?_
    refine Ev1.truthB ?_
    refine brF (by walk_at "cond") ?_
    refine brF (by walk_at "cond") ?_
    refine EvSs.nil ?_
    exact h
theorem st12 {r0 r1 : WR} {R' : List WR} (W : Wd hT (KK w.params)) (hB : B = 2 ∨ B = 3) (hR : R = r0 :: r1 :: R') (h2 : R.length ≤ 3) (hs : ν (Str.ofString "some") = some (.lst (allA B)))
    (h : k .next (upd ν (Str.ofString "neither") (prs ((allP B).filter fun q => !r0.1.f q && !r1.1.f q))) (st b bl L B R)) :
    EvS hT PG w (lawC A L) (lst 12) ν (st b bl L B R) k := by
  subst hR
  have a1 := (all_small hB).1
  have hlen : (((r0 :: r1 :: R').map (lrOf B)).map lrA).length ≤ 1000 := by rw [List.length_map, List.length_map]; omega
  refine EvS.assignComp rfl (EvItC.of (EvIt.val ?_)) rfl (fun _ => rfl) (by decide +kernel) rfl (by decide +kernel) rfl rfl
  refine' EvE.loc rfl (by assumption) ?_ rfl rfl
  refine lst_ok ?_
  refine ⟨by unfold allA; rw [List.length_map]; omega, fun C D => ?_⟩
  refine CompL.inv (fun ds ν l => ∃ done rest : List (Nat × Nat), ds = rest.map (fun q => pr2 q.1 q.2) ∧ done ++ rest = allP B ∧ l = (done.filter fun q => !decide (q ∈ (allP B).filter r0.1.f) && !decide (q ∈ (allP B).filter r1.1.f)).map fun q => pr2 q.1 q.2) ?_ ?_ _ _ _ ⟨[], allP B, rfl, rfl, rfl⟩
  · rintro d ds ν l ⟨done, rest, hd, hda, rfl⟩
    cases rest with
    | nil => cases hd
    | cons q rest =>
    cases hd
    have fin : ∀ t : Bool, (!decide (q ∈ (allP B).filter r0.1.f) && !decide (q ∈ (allP B).filter r1.1.f)) = t → ((List.filter (fun q => !decide (q ∈ (allP B).filter r0.1.f) && !decide (q ∈ (allP B).filter r1.1.f)) (done ++ [q])).map fun q => pr2 q.1 q.2) =
        if t then ((done.filter (fun q => !decide (q ∈ (allP B).filter r0.1.f) && !decide (q ∈ (allP B).filter r1.1.f))).map fun q => pr2 q.1 q.2) ++ [pr2 q.1 q.2] else (done.filter (fun q => !decide (q ∈ (allP B).filter r0.1.f) && !decide (q ∈ (allP B).filter r1.1.f))).map fun q => pr2 q.1 q.2 := by
      intro t ht
      rw [List.filter_append, List.map_append, List.filter_cons, ht]
      cases t <;> simp
    refine Ev1.assignN ?_
    refine EvStore rfl rfl ?_
    refine sto_ok ?_
    refine EvIfs.one ?_
    refine EvT.and ?_
    refine EvT.cmp ?_ rfl
    refine' EvE.loc rfl rfl ?_ rfl rfl
    refine EvE.sub ?_
    refine EvE.sub ?_
    refine' EvE.cel rfl rfl (.inr (.tail _ (.tail _ (.tail _ (.tail _ (.head _)))))) ?_ rfl rfl
    refine EvE.int ?_
    refine Ev2.subLN (i := 0) (d := lrA (lrOf B r0)) rfl hlen ?_
    refine EvE.int ?_
    refine' Ev2.subTup rfl rfl ?_ (fun _ _ => rfl) (by decide) (by decide)
    refine Ev2.notInLst 1 1 (oks_pr _) (ok_pr _) (by decide) ?_
    rw [any_pr]
    refine Ev1.truthB ?_
    refine ⟨fun hb => ?_, fun hb => ?_⟩
    · refine EvT.and ?_
      refine EvT.cmp ?_ rfl
      refine' EvE.loc rfl rfl ?_ rfl rfl
      refine EvE.sub ?_
      refine EvE.sub ?_
      refine' EvE.cel rfl rfl (.inr (.tail _ (.tail _ (.tail _ (.tail _ (.head _)))))) ?_ rfl rfl
      refine EvE.int ?_
      refine Ev2.subLN (i := 1) (d := lrA (lrOf B r1)) rfl hlen ?_
      refine EvE.int ?_
      refine' Ev2.subTup rfl rfl ?_ (fun _ _ => rfl) (by decide) (by decide)
      refine Ev2.notInLst 1 1 (oks_pr _) (ok_pr _) (by decide) ?_
      rw [any_pr]
      refine Ev1.truthB ?_
      refine ⟨fun hb2 => ?_, fun hb2 => ?_⟩
      · refine EvT.andNil ?_
        refine sto_ok ?_
        refine brT (by walk_at "cond") ?_
        refine' EvE.loc rfl rfl ?_ rfl rfl
        refine sto_ok ?_
        refine ⟨done ++ [q], rest, rfl, by rw [← hda]; simp, ?_⟩
        rw [fin true (by rw [show (!decide (q ∈ (allP B).filter r0.1.f)) = true from hb, show (!decide (q ∈ (allP B).filter r1.1.f)) = true from hb2]; rfl)]; rfl
      · refine sto_ok ?_
        refine brF (by walk_at "cond") ?_
        refine ⟨done ++ [q], rest, rfl, by rw [← hda]; simp, ?_⟩
        rw [fin false (by rw [show (!decide (q ∈ (allP B).filter r0.1.f)) = true from hb, show (!decide (q ∈ (allP B).filter r1.1.f)) = false from hb2]; rfl)]; rfl
    · refine sto_ok ?_
      refine brF (by walk_at "cond") ?_
      refine ⟨done ++ [q], rest, rfl, by rw [← hda]; simp, ?_⟩
      rw [fin false (by rw [show (!decide (q ∈ (allP B).filter r0.1.f)) = false from hb]; rfl)]; rfl
  · rintro ν l ⟨done, rest, hd, hda, rfl⟩
    cases rest with
    | cons t rest => cases hd
    | nil =>
    rw [List.append_nil] at hda
    subst hda
    rw [run_neither]
    exact h
theorem st13 {r0 r1 : WR} (W : Wd hT (KK w.params)) (hB : B = 2 ∨ B = 3) (ho0 : r0.1.Ok) (ho1 : r1.1.Ok) (hs : ν (Str.ofString "some") = some (.lst (allA B))) (h3 : ν (Str.ofString "one") = some r0.1.C) (h4 : ν (Str.ofString "other") = some r1.1.C)
    (h5 : ν (Str.ofString "neither") = some (prs ((allP B).filter fun q => !r0.1.f q && !r1.1.f q))) (h : k .next ν (st b bl L B R)) :
    EvS hT PG w (lawC A L) (lst 13) ν (st b bl L B R) k := by
  refine EvS.iff ?_
  refine EvT.cmp ?_ rfl
  refine' EvE.callK (by assumption) (G_law_held _) (KI_law_held _) ?_ rfl rfl rfl rfl rfl rfl
  refine EvAs.cons ?_ rfl
  refine EvE.tuple ?_
  refine EvAs.cons ?_ rfl
  refine EvE.str ?_
  refine EvAs.cons ?_ rfl
  refine EvE.tuple ?_
  refine EvAs.cons ?_ rfl
  refine EvE.str ?_
  refine EvAs.cons ?_ rfl
  refine' EvE.loc rfl (by assumption) ?_ rfl rfl
  refine EvAs.nil ?_
  refine tup_ok (by walk_at "side") ?_
  refine EvAs.cons ?_ rfl
  refine EvE.tuple ?_
  refine EvAs.cons ?_ rfl
  refine EvE.str ?_
  refine EvAs.cons ?_ rfl
  refine' EvE.loc rfl (by assumption) ?_ rfl rfl
  refine EvAs.nil ?_
  refine tup_ok (by walk_at "side") ?_
  refine EvAs.nil ?_
  refine tup_ok (by walk_at "side") ?_
  refine EvAs.cons ?_ rfl
  refine' EvE.loc rfl (by assumption) ?_ rfl rfl
  refine EvAs.nil ?_
  refine EvL.gives (by dsimp only; omega) (sp_held' W 6 hB _ (fun q => !r0.1.f q && !r1.1.f q) fun q _ hq a b => sp_c_and W 5 (sp_c_not W 4 (ok_c2 W ho0 hq)) (sp_c_not W 4 (ok_c2 W ho1 hq))) ?_
  refine' EvE.loc rfl (by assumption) ?_ rfl rfl
  refine ne_same rfl ?_
  refine Ev1.truthB ?_
  refine brF (by walk_at "cond") ?_
  refine EvSs.nil ?_
  exact h
theorem st14 {r0 r1 : WR} (W : Wd hT (KK w.params)) (hB : B = 2 ∨ B = 3) (ho0 : r0.1.Ok) (ho1 : r1.1.Ok) (hs : ν (Str.ofString "some") = some (.lst (allA B))) (h3 : ν (Str.ofString "one") = some r0.1.C) (h4 : ν (Str.ofString "other") = some r1.1.C)
    (h5 : ν (Str.ofString "neither") = some (prs ((allP B).filter fun q => !r0.1.f q && !r1.1.f q))) (h : k .next ν (st b bl L B R)) :
    EvS hT PG w (lawC A L) (lst 14) ν (st b bl L B R) k := by
  refine EvS.iff ?_
  refine EvT.cmp ?_ rfl
  refine' EvE.callK (by assumption) (G_law_held _) (KI_law_held _) ?_ rfl rfl rfl rfl rfl rfl
  refine EvAs.cons ?_ rfl
  refine EvE.tuple ?_
  refine EvAs.cons ?_ rfl
  refine EvE.str ?_
  refine EvAs.cons ?_ rfl
  refine EvE.tuple ?_
  refine EvAs.cons ?_ rfl
  refine EvE.str ?_
  refine EvAs.cons ?_ rfl
  refine' EvE.loc rfl (by assumption) ?_ rfl rfl
  refine EvAs.cons ?_ rfl
  refine' EvE.loc rfl (by assumption) ?_ rfl rfl
  refine EvAs.nil ?_
  refine tup_ok (by walk_at "side") ?_
  refine EvAs.nil ?_
  refine tup_ok (by walk_at "side") ?_
  refine EvAs.cons ?_ rfl
  refine' EvE.loc rfl (by assumption) ?_ rfl rfl
  refine EvAs.nil ?_
  refine EvL.gives (by dsimp only; omega) (sp_held' W 6 hB _ (fun q => !(r0.1.f q || r1.1.f q)) fun q _ hq a b => sp_c_not W 5 (sp_c_or W 4 (ok_c2 W ho0 hq) (ok_c2 W ho1 hq))) ?_
  refine' EvE.loc rfl (by assumption) ?_ rfl rfl
  refine ne_same (run_not_or B _ _) ?_
  refine Ev1.truthB ?_
  refine brF (by walk_at "cond") ?_
  refine EvSs.nil ?_
  exact h
/-- the two lists at the end -/
theorem st15 (h : ∀ a, k .next (upd ν (Str.ofString "kept") (.ref a)) ((a, .list []) :: (b, .list bl) :: cst L (some (prs [])) (some (prs (dueL B R))) (some (polR (nmr 0 R) false)) (some (rulA B R)))) :
    EvS hT PG w (lawC A L) (lst 15) ν (st b bl L B R) k := by
  refine EvS.assignT ?_ rfl rfl
  refine EvE.tuple ?_
  refine EvAs.cons ?_ rfl
  refine EvE.listF ?_
  refine EvAs.nil ?_
  refine tup_ok (by walk_at "side") ?_
  refine EvAs.cons ?_ rfl
  refine EvE.list ?_
  refine EvAs.nil ?_
  refine tup_ok (by walk_at "side") ?_
  intro a
  refine EvAs.nil ?_
  refine tup_ok (by walk_at "side") ?_
  refine Ev1.assignTup rfl rfl ?_
  refine EvA.cons ?_ rfl
  refine Ev1.assignN ?_
  refine EvStoreC (pre := [_, _]) rfl rfl rfl rfl ?_
  refine EvA.cons ?_ rfl
  refine Ev1.assignN ?_
  refine EvStore rfl rfl ?_
  refine EvA.nil ?_
  exact h a
end

/-! E25 -/
section
variable {hT : Heap} {w : World} {μ : Store} {ν : Loc} {A : Around} {L b : Addr} {bl : List AV} {B : Nat} {R : List WR} {k : Kt Fl}
theorem keepZ_sub {α : Type} {x : α} : ∀ {l : List (LR × α)} {ahead : List (Nat × Nat)}, x ∈ keepZ ahead l → ∃ r, (r, x) ∈ l
  | [], _, h => nomatch h
  | (r, t) :: l, ahead, h => by
    unfold keepZ at h
    split at h
    · obtain ⟨y, hy⟩ := keepZ_sub h; exact ⟨y, .tail _ hy⟩
    · rcases List.mem_cons.mp h with rfl | h
      · exact ⟨r, .head _⟩
      · obtain ⟨y, hy⟩ := keepZ_sub h; exact ⟨y, .tail _ hy⟩
theorem keepR_ok (hok : ∀ r ∈ R, r.1.Ok) : ∀ r ∈ keepR B [] 0 R, r.2.1.Ok := fun r hr => by
  obtain ⟨y, hy⟩ := keepZ_sub hr
  exact nmr_ok 0 hok r (List.of_mem_zip hy).2
theorem keepZ_len {α : Type} : ∀ (l : List (LR × α)) (ahead : List (Nat × Nat)), (keepZ ahead l).length ≤ l.length
  | [], _ => Nat.le_refl _
  | (r, t) :: l, ahead => by
    have := keepZ_len l (ahead ++ r.1)
    unfold keepZ
    split
    · rw [List.length_cons]; omega
    · rw [List.length_cons, List.length_cons]; omega
theorem nmr_get : ∀ (done : List WR) (r : WR) (rest : List WR) (j : Nat), (nmr j (done ++ r :: rest))[done.length]? = some (nm (j + done.length), r.1, r.2)
  | [], _, _, _ => rfl
  | d :: done, r, rest, j => by
    show (nmr (j + 1) (done ++ r :: rest))[done.length]? = _
    rw [nmr_get done r rest (j + 1), List.length_cons]
    congr 3
    omega
noncomputable abbrev st' (a : Addr) (kept : List NR) (b : Addr) (bl : List AV) (L : Nat) (ah : List (Nat × Nat)) (B : Nat) (R : List WR) : Store := (a, .list ((kept.map rC).map tmV)) :: (b, .list bl) :: cst L (some (prs ah)) (some (prs (dueL B R))) (some (polR (nmr 0 R) false)) (some (rulA B R))
theorem st16 {a : Addr} (W : Wd hT (KK w.params)) (hB : B = 2 ∨ B = 3) (h2 : R.length ≤ 3) (hs : ν (Str.ofString "some") = some (.lst (allA B))) (hk : ν (Str.ofString "kept") = some (.ref a))
    (h : ∀ ν' ah, ν' (Str.ofString "some") = some (.lst (allA B)) → ν' (Str.ofString "kept") = some (.ref a) → k .next ν' (st' a (keepR B [] 0 R) b bl L ah B R)) :
    EvS hT PG w (lawC A L) (lst 16) ν (st' a [] b bl L [] B R) k := by
  have a1 := (all_small hB).1
  have hlen : (((nmr 0 R).map rC).map tmV).length ≤ 1000 := by rw [List.length_map, List.length_map, nmr_len]; omega
  refine EvS.forEnum W (B_enumerate _) ?_ rfl rfl rfl rfl rfl (fun _ => rfl)
  refine' EvE.cel rfl rfl (.inl (.tail _ (.tail _ (.tail _ (.tail _ (.tail _ (.head _))))))) ?_ rfl rfl
  refine enum_ok ?_
  refine ForL.inv (fun ds ν μ => ∃ (done rest : List WR) (ah : List (Nat × Nat)) (kept : List NR), ds = (((rest.map (lrOf B)).map lrA).zipIdx done.length).map (fun p => .tup [.int (p.2 : Nat), p.1]) ∧ done ++ rest = R ∧ kept ++ keepR B ah done.length rest = keepR B [] 0 R ∧ ah.length ≤ 100 * done.length ∧ kept.length ≤ done.length ∧
    ν (Str.ofString "some") = some (.lst (allA B)) ∧ ν (Str.ofString "kept") = some (.ref a) ∧ μ = st' a kept b bl L ah B R) ?_ ?_ _ _ _ ⟨[], R, [], [], rfl, rfl, rfl, by simp, by simp, hs, hk, rfl⟩
  · rintro d ds ν μ ⟨done, rest, ah, kept, hd, hda, hkp, hah, hkl, h3, h4, rfl⟩
    cases rest with
    | nil => cases hd
    | cons r rest =>
    cases hd
    have hdl : done.length ≤ 3 := by have := congrArg List.length hda; rw [List.length_append] at this; omega
    have hf := List.length_filter_le r.1.f (allP B)
    have hlr : (lrOf B r).1.length ≤ 100 := Nat.le_trans hf (by omega)
    have hget : (((nmr 0 R).map rC).map tmV)[done.length]? = some (tmV (rC (nm done.length, r.1, r.2))) := by
      rw [List.getElem?_map, List.getElem?_map, ← hda, nmr_get, Nat.zero_add]; rfl
    refine Ev1.assignTup rfl rfl ?_
    refine EvA.cons ?_ rfl
    refine Ev1.assignN ?_
    refine EvStore rfl rfl ?_
    refine EvA.cons ?_ rfl
    refine Ev1.assignTup rfl rfl ?_
    refine EvA.cons ?_ rfl
    refine Ev1.assignN ?_
    refine EvStore rfl rfl ?_
    refine EvA.cons ?_ rfl
    refine Ev1.assignN ?_
    refine EvStore rfl rfl ?_
    refine EvA.nil ?_
    refine EvA.nil ?_
    refine EvSs.cons ?_
    refine EvS.iff ?_
    refine EvT.cmp ?_ rfl
    refine EvE.comp (EvItC.of (EvIt.val ?_)) rfl (fun _ => rfl) (by decide +kernel) rfl (by decide +kernel)
    refine' EvE.loc rfl rfl ?_ rfl rfl
    refine lst_ok ?_
    refine tup_ok (by walk_at "side") ?_
    intro C D
    refine CompL.inv (fun ds ν l => ∃ dn rs : List (Nat × Nat), ds = rs.map (fun q => pr2 q.1 q.2) ∧ dn ++ rs = (allP B).filter r.1.f ∧ l = (dn.filter fun q => !decide (q ∈ ah)).map fun q => pr2 q.1 q.2) ?_ ?_ _ _ _ ⟨[], (allP B).filter r.1.f, rfl, rfl, rfl⟩
    · rintro d ds ν l ⟨dn, rs, hd, hdb, rfl⟩
      cases rs with
      | nil => cases hd
      | cons q rs =>
      cases hd
      refine Ev1.assignN ?_
      refine EvStore rfl rfl ?_
      refine sto_ok ?_
      refine EvIfs.one ?_
      refine EvT.cmp ?_ rfl
      refine' EvE.loc rfl rfl ?_ rfl rfl
      refine' EvE.cel rfl rfl (.inr (.tail _ (.tail _ (.head _)))) ?_ rfl rfl
      refine Ev2.notInLst 1 1 (oks_pr _) (ok_pr _) (by decide) ?_
      rw [any_pr]
      refine Ev1.truthB ?_
      refine sto_ok ?_
      refine ⟨fun hb => ?_, fun hb => ?_⟩
      · refine' EvE.loc rfl rfl ?_ rfl rfl
        refine sto_ok ?_
        refine ⟨dn ++ [q], rs, rfl, by rw [← hdb]; simp, ?_⟩
        rw [List.filter_append, List.filter_cons_of_pos (p := fun q => !decide (q ∈ ah)) hb, List.filter_nil, List.map_append]; rfl
      · refine ⟨dn ++ [q], rs, rfl, by rw [← hdb]; simp, ?_⟩
        rw [List.filter_append, List.filter_cons_of_neg (p := fun q => !decide (q ∈ ah)) (by rw [hb]; decide), List.filter_nil, List.append_nil]
    · rintro ν l ⟨dn, rs, hd, hdb, rfl⟩
      cases rs with
      | cons t rs => cases hd
      | nil =>
      rw [List.append_nil] at hdb
      subst hdb
      refine EvE.listF ?_
      refine EvAs.nil ?_
      refine tup_ok (by walk_at "side") ?_
      refine Ev2.ne (d := prs _) (e := prs []) 2 2 (ok_prs _) (ok_prs _) (by decide) (by decide) ?_
      rw [deq_prs]
      have hkeep : keepR B ah done.length (r :: rest) = if ((allP B).filter r.1.f).filter (fun q => !decide (q ∈ ah)) = [] then keepR B (ah ++ (allP B).filter r.1.f) (done.length + 1) rest else (nm done.length, r.1, r.2) :: keepR B (ah ++ (allP B).filter r.1.f) (done.length + 1) rest := rfl
      by_cases hne : ((allP B).filter r.1.f).filter (fun q => !decide (q ∈ ah)) = []
      · rw [if_pos hne] at hkeep
        rw [decide_eq_true hne]
        refine Ev1.truthB ?_
        refine brF (by walk_at "cond") ?_
        refine EvSs.nil ?_
        refine andThen_next ?_
        refine EvSs.cons ?_
        refine EvS.assign ?_ rfl
        refine EvE.binop ?_
        refine' EvE.cel rfl rfl (.inl (.tail _ (.tail _ (.head _)))) ?_ rfl rfl
        refine' EvE.loc rfl rfl ?_ rfl rfl
        refine' Ev2.addL (by walk_at "side") ?_
        rw [← List.map_append]
        refine EvStoreC (pre := [_, _]) rfl rfl rfl rfl ?_
        refine andThen_next ?_
        refine EvSs.nil ?_
        refine ⟨done ++ [r], rest, ah ++ (allP B).filter r.1.f, kept, by rw [List.length_append]; rfl, by rw [← hda]; simp, ?_, ?_, ?_, h3, h4, rfl⟩
        · rw [List.length_append, List.length_singleton, ← hkeep]; exact hkp
        · rw [List.length_append, List.length_append, List.length_singleton]; omega
        · rw [List.length_append, List.length_singleton]; omega
      · rw [if_neg hne] at hkeep
        rw [decide_eq_false hne]
        refine Ev1.truthB ?_
        refine brT (by walk_at "cond") ?_
        refine EvSs.cons ?_
        refine EvS.expr ?_ rfl rfl
        refine' EvE.append ?_ rfl rfl
        refine' EvE.loc rfl (by assumption) ?_ rfl rfl
        refine' app_ok (.head _) ?_
        refine EvE.sub ?_
        refine EvE.sub ?_
        refine' EvE.cel rfl rfl (.inl (.tail _ (.tail _ (.tail _ (.tail _ (.head _)))))) ?_ rfl rfl
        refine EvE.int ?_
        refine Ev2.subTup (j := 0) rfl rfl ?_ (fun _ _ => rfl) (by decide) (by decide)
        refine' EvE.loc rfl rfl ?_ rfl rfl
        refine Ev2.subTN done.length hget hlen ?_
        refine ⟨[], _, _, rfl, (by walk_at "side"), ?_⟩; dsimp only [List.nil_append, List.cons_append]
        refine none_ok ?_
        refine andThen_next ?_
        refine EvSs.nil ?_
        refine andThen_next ?_
        refine EvSs.cons ?_
        refine EvS.assign ?_ rfl
        refine EvE.binop ?_
        refine' EvE.cel rfl rfl (.inl (.tail _ (.tail _ (.head _)))) ?_ rfl rfl
        refine' EvE.loc rfl rfl ?_ rfl rfl
        refine' Ev2.addL (by walk_at "side") ?_
        rw [← List.map_append]
        refine EvStoreC (pre := [_, _]) rfl rfl rfl rfl ?_
        refine andThen_next ?_
        refine EvSs.nil ?_
        refine ⟨done ++ [r], rest, ah ++ (allP B).filter r.1.f, kept ++ [(nm done.length, r.1, r.2)], by rw [List.length_append]; rfl, by rw [← hda]; simp, ?_, ?_, ?_, h3, h4, ?_⟩
        · rw [List.length_append, List.length_singleton, List.append_assoc, ← hkp, hkeep]; rfl
        · rw [List.length_append, List.length_append, List.length_singleton]; omega
        · rw [List.length_append, List.length_append, List.length_singleton, List.length_singleton]; omega
        · have e : ((kept ++ [((nm done.length, r.1, r.2) : NR)]).map rC).map tmV = (kept.map rC).map tmV ++ [tmV (rC (nm done.length, r.1, r.2))] := by rw [List.map_append, List.map_append]; rfl
          unfold st'
          rw [e]; rfl
  · rintro ν μ ⟨done, rest, ah, kept, hd, hda, hkp, hah, hkl, h3, h4, rfl⟩
    cases rest with
    | cons r rest => cases hd
    | nil =>
    have hkp : kept = keepR B [] 0 R := by rw [← hkp]; exact (List.append_nil _).symm
    subst hkp
    exact h ν ah h3 h4
theorem st17 {a : Addr} {ah : List (Nat × Nat)} (W : Wd hT (KK w.params)) (hB : B = 2 ∨ B = 3) (hok : ∀ r ∈ R, r.1.Ok) (h2 : R.length ≤ 3) (hs : ν (Str.ofString "some") = some (.lst (allA B))) (hk : ν (Str.ofString "kept") = some (.ref a))
    (h : ∀ ν' μ', k (.ret (.bool true)) ν' μ') :
    EvS hT PG w (lawC A L) (lst 17) ν (st' a (keepR B [] 0 R) b bl L ah B R) k := by
  have hkl : (keepR B [] 0 R).length ≤ 1000 := by
    have := keepZ_len ((R.map (lrOf B)).zip (nmr 0 R)) []
    rw [List.length_zip, List.length_map] at this
    unfold keepR
    omega
  refine EvS.ret ?_
  refine EvE.cmp ?_ rfl
  refine' EvE.callK (by assumption) (G_law_run _) (KI_law_run _) ?_ rfl rfl rfl rfl rfl rfl
  refine EvAs.cons ?_ rfl
  refine EvE.tuple ?_
  refine EvAs.cons ?_ rfl
  refine' EvE.callT (by assumption) (B_tuple _) (BB_tuple) (by decide) ?_ rfl rfl rfl rfl rfl rfl rfl
  refine EvAs.cons ?_ rfl
  refine' EvE.loc rfl (by assumption) ?_ rfl rfl
  refine EvAs.nil ?_
  refine' EvL.tupC (.inl (.head _)) (by walk_at "side") ?_
  refine EvAs.cons ?_ rfl
  refine EvE.sub ?_
  refine' EvE.cel rfl rfl (.inl (.tail _ (.tail _ (.tail _ (.tail _ (.head _)))))) ?_ rfl rfl
  refine EvE.int ?_
  refine Ev2.subTup (j := 1) rfl rfl ?_ (fun _ _ => rfl) (by decide) (by decide)
  refine EvAs.nil ?_
  refine tup_ok (by walk_at "side") ?_
  refine EvAs.cons ?_ rfl
  refine' EvE.loc rfl (by assumption) ?_ rfl rfl
  refine EvAs.nil ?_
  refine EvL.gives (by dsimp only; omega) (sp_runR W 0 (keepR B [] 0 R) false B hB (keepR_ok hok)) ?_
  refine' EvE.cel rfl rfl (.inl (.tail _ (.tail _ (.tail _ (.head _))))) ?_ rfl rfl
  refine Ev2.eq 2 2 (ok_prs _) (ok_prs _) (by decide) (by decide) ?_
  rw [deq_prs, decide_eq_true (run_kept B R)]
  exact h _ _
end

/-! E26 -/
section
variable {hT : Heap} {w : World} {μ : Store} {ν : Loc} {A : Around} {L b wa ra : Addr} {bl : List AV} {B : Nat} {R : List WR} {k : Kt Fl} {l : List Int} {z : Int}
theorem cut20 (l : List AV) : cut l Option.none (Option.some 20) = l.take 20 := by
  unfold cut kms_lo kms_hi
  simp
noncomputable abbrev bxm (b : Addr) (l : List Int) (z : Int) : Addr × MO := (b, .list [.lst (l.map .int), .int z])
theorem draw_in {c : Cx} {pre post : Store} {many : Int} {kk : Kt AV} (W : Wd hT (KK w.params)) (hn : 1 ≤ c.n) (h0 : 0 ≤ z) (h1 : z ≤ 1000) (hl : l.length ≤ 1000) (hm : 0 < many) (h : ∀ y : Nat, (y : Int) < many → kk (.int (y : Nat)) ν (pre ++ bxm b l (z + 1) :: post)) :
    EvL hT PG w c (fun vs => call (.ref 484) vs) Rd [.ref b, .int many] ν (pre ++ bxm b l z :: post) kk := by
  have := EvL.spec (c := c) (ν := ν) (pre := pre) (μ₀ := bx b l z) (post := post) (k := kk) hn (sp_draw W 0 b l z many h0 h1 hl hm) (fun d μ' q => by
    obtain ⟨y, hy, rfl, rfl⟩ := q
    have := h y hy
    simpa using this)
  simpa using this
theorem word_in {c : Cx} {pre post : Store} {kk : Kt AV} (W : Wd hT (KK w.params)) (hn : 2 ≤ c.n) (hB : B = 2 ∨ B = 3) (h0 : 0 ≤ z) (h1 : z ≤ 900) (hl : l.length ≤ 1000) (h : ∀ (u : Wrd) (z' : Int), u.Ok → z ≤ z' → z' ≤ z + 5 → kk (.tup [u.A, .str u.txt]) ν (pre ++ bxm b l z' :: post)) :
    EvL hT PG w c (fun vs => call (.ref 505) vs) Rd [.ref b, .int (B : Nat)] ν (pre ++ bxm b l z :: post) kk := by
  have := EvL.spec (c := c) (ν := ν) (pre := pre) (μ₀ := bx b l z) (post := post) (k := kk) hn (sp_word W 0 b l z B hB h0 h1 hl) (fun d μ' q => by
    obtain ⟨u, z', hu, g1, g2, rfl, rfl⟩ := q
    have := h u z' hu g1 g2
    simpa using this)
  simpa using this
theorem st0 (W : Wd hT (KK w.params)) (hl : l.length ≤ 63) (hs : ν (Str.ofString "script") = some (.lst (l.map .int))) (h : ∀ b, k .next (upd ν (Str.ofString "box") (.ref b)) (bxm b (l.take 20) 0 :: cst L none none none none)) :
    EvS hT PG w (lawC A L) (lst 0) ν (cst L none none none none) k := by
  refine EvS.assign ?_ rfl
  refine EvE.list ?_
  refine EvAs.cons ?_ rfl
  refine' EvE.callT (by assumption) (B_list _) (BB_list) (by decide) ?_ rfl rfl rfl rfl rfl rfl rfl
  refine EvAs.cons ?_ rfl
  refine EvE.slice ?_
  refine' EvE.loc rfl (by assumption) ?_ rfl rfl
  refine EvP.none ?_
  refine EvP.some ?_
  refine EvE.int ?_
  refine int_ok ?_
  refine EvSl.lst (by rw [List.length_map]; omega) ?_
  rw [cut20, ← List.map_take]
  refine EvAs.nil ?_
  refine' EvL.listL (by walk_at "side") ?_
  refine EvAs.cons ?_ rfl
  refine EvE.int ?_
  refine EvAs.nil ?_
  refine tup_ok (by walk_at "side") ?_
  intro a
  refine EvStore rfl rfl ?_
  exact h a
theorem st1 (W : Wd hT (KK w.params)) (hl : l.length ≤ 63) (hb : ν (Str.ofString "box") = some (.ref b)) (h : ∀ B : Nat, B = 2 ∨ B = 3 → k .next (upd ν (Str.ofString "bits") (.int (B : Nat))) (bxm b l 1 :: cst L none none none none)) :
    EvS hT PG w (lawC A L) (lst 1) ν (bxm b l 0 :: cst L none none none none) k := by
  refine EvS.assign ?_ rfl
  refine EvE.binop ?_
  refine EvE.int ?_
  refine' EvE.callK (by assumption) (G_law_draw _) (KI_law_draw _) ?_ rfl rfl rfl rfl rfl rfl
  refine EvAs.cons ?_ rfl
  refine' EvE.loc rfl (by assumption) ?_ rfl rfl
  refine EvAs.cons ?_ rfl
  refine EvE.int ?_
  refine EvAs.nil ?_
  refine draw_in (pre := []) W (by dsimp only; omega) (by decide) (by decide) (by omega) (by decide) fun y hy => ?_
  refine Ev2.sub ?_
  refine EvStore rfl rfl ?_
  have e : (3 : Int) - (y : Int) = ((3 - y : Nat) : Int) := by omega
  rw [e]
  exact h (3 - y) (by omega)
theorem st2 (W : Wd hT (KK w.params)) (hB : B = 2 ∨ B = 3) (hb : ν (Str.ofString "bits") = some (.int (B : Nat)))
    (h : ∀ wa ra, k .next (upd (upd (upd ν (Str.ofString "some") (.lst (allA B))) (Str.ofString "words") (.ref wa)) (Str.ofString "text") (.str (Str.ofString ""))) ((ra, .list []) :: (wa, .list []) :: bxm b l 1 :: cst L none none none (some (.ref ra)))) :
    EvS hT PG w (lawC A L) (lst 2) ν (bxm b l 1 :: cst L none none none none) k := by
  refine EvS.assignT ?_ rfl rfl
  refine EvE.tuple ?_
  refine EvAs.cons ?_ rfl
  refine' EvE.callK (by assumption) (G_law_all _) (KI_law_all _) ?_ rfl rfl rfl rfl rfl rfl
  refine EvAs.cons ?_ rfl
  refine' EvE.loc rfl (by assumption) ?_ rfl rfl
  refine EvAs.nil ?_
  refine EvL.gives (by dsimp only; omega) (sp_all W 0 (by omega)) ?_
  refine EvAs.cons ?_ rfl
  refine EvE.list ?_
  refine EvAs.nil ?_
  refine tup_ok (by walk_at "side") ?_
  intro wa
  refine EvAs.cons ?_ rfl
  refine EvE.list ?_
  refine EvAs.nil ?_
  refine tup_ok (by walk_at "side") ?_
  intro ra
  refine EvAs.cons ?_ rfl
  refine EvE.str ?_
  refine EvAs.nil ?_
  refine tup_ok (by walk_at "side") ?_
  refine Ev1.assignTup rfl rfl ?_
  refine EvA.cons ?_ rfl
  refine Ev1.assignN ?_
  refine EvStore rfl rfl ?_
  refine EvA.cons ?_ rfl
  refine Ev1.assignN ?_
  refine EvStore rfl rfl ?_
  refine EvA.cons ?_ rfl
  refine Ev1.assignN ?_
  refine EvStoreC (pre := [_, _, _, _, _, _]) rfl rfl rfl rfl ?_
  refine EvA.cons ?_ rfl
  refine Ev1.assignN ?_
  refine EvStore rfl rfl ?_
  refine EvA.nil ?_
  exact h wa ra
end

/-! E27 -/
section
variable {hT : Heap} {w : World} {μ : Store} {ν : Loc} {A : Around} {L b wa ra : Addr} {bl : List AV} {B : Nat} {R : List WR} {k : Kt Fl} {l : List Int} {z : Int}
theorem ln_tr : (Str.ofString "term r").length = 6 := by decide +kernel
theorem ln_if : (Str.ofString " { if ").length = 6 := by decide +kernel
theorem ln_th : (Str.ofString " then ").length = 6 := by decide +kernel
theorem ln_en : (Str.ofString " }\n").length = 3 := by decide +kernel
theorem ln_ac : (Str.ofString "accept").length = 6 := by decide +kernel
theorem ln_re : (Str.ofString "reject").length = 6 := by decide +kernel
theorem ln_v (c : Bool) : (verd c).length = 6 := by cases c <;> decide +kernel
theorem ln_em : (Str.ofString "").length = 0 := by decide +kernel
theorem txt_len {u : Wrd} (h : u.Ok) : u.txt.length ≤ 60 := by
  have n1 := num_len (small_mul h.l h.n)
  have n2 := num_len (k := u.L) (by have := h.l; omega)
  have hp : (pfxTxt u.N u.L).length ≤ 13 := by unfold pfxTxt; simp only [Str.length_append, ln_0]; omega
  have h0 : ((if u.is then Str.ofString "prefix is " else Str.ofString "prefix in ") ++ pfxTxt u.N u.L).length ≤ 23 := by
    rw [Str.length_append]
    cases u.is
    · have := ln_in; simp only [Bool.false_eq_true, if_false]; omega
    · have := ln_is; simp only [if_true]; omega
  have hg := h.g
  have hm := h.m
  unfold Wrd.txt
  cases e1 : u.ge <;> cases e2 : u.le <;> dsimp only
  · omega
  · rename_i m
    have n3 := num_len (k := m) (by have := hm m e2; omega)
    rw [Str.length_append, Str.length_append, ln_le]; omega
  · rename_i g
    have n3 := num_len (k := g) (by have := hg g e1; omega)
    rw [Str.length_append, Str.length_append, ln_ge]; omega
  · rename_i g m
    have n3 := num_len (k := g) (by have := hg g e1; omega)
    have n4 := num_len (k := m) (by have := hm m e2; omega)
    rw [Str.length_append, Str.length_append, ln_le, Str.length_append, Str.length_append, ln_ge]; omega
theorem termT_len {T : Str} {j : Nat} {u : Wrd} {c : Bool} (h : u.Ok) (hj : j ≤ 255) : (termT T j u c).length ≤ T.length + 100 := by
  have := txt_len h
  have := num_len hj
  unfold termT
  simp only [Str.length_append, ln_tr, ln_if, ln_th, ln_en, ln_v]
  omega
theorem usOf_snoc (r : WR) : ∀ (R : List WR) (j : Nat), usOf j (R ++ [r]) = usOf j R ++ termU (j + R.length) r.1 r.2
  | [], j => by simp [usOf]
  | x :: R, j => by
    show termU j x.1 x.2 ++ usOf (j + 1) (R ++ [r]) = (termU j x.1 x.2 ++ usOf (j + 1) R) ++ _
    rw [usOf_snoc r R (j + 1), List.append_assoc, List.length_cons]
    congr 3
    omega
noncomputable def forB : Stmt → List Stmt
  | .For _ _ b .. => b
  | _ => []
noncomputable abbrev stL (ra wa b : Addr) (l : List Int) (L : Nat) (B : Nat) (R : List WR) (z : Int) : Store := (ra, .list ((R.map (lrOf B)).map lrA)) :: (wa, .list (R.map fun r => r.1.A)) :: bxm b l z :: cst L none none none (some (.ref ra))
section
local macro_rules | `(tactic| walk_at "side") => `(tactic| ((simp only [Str.length_append, ln_tr, ln_if, ln_th, ln_en, ln_ac, ln_re]; omega)))
theorem st3body {u : Wrd} {c : Bool} {T : Str} (W : Wd hT (KK w.params)) (hB : B = 2 ∨ B = 3) (hR : R.length ≤ 3) (hu : u.Ok) (hTl : T.length ≤ 1000) (h1 : ν (Str.ofString "word") = some u.A) (h2 : ν (Str.ofString "row") = some (.str u.txt)) (h3 : ν (Str.ofString "lets") = some (.bool c))
    (h4 : ν (Str.ofString "words") = some (.ref wa)) (h5 : ν (Str.ofString "some") = some (.lst (allA B))) (h6 : ν (Str.ofString "text") = some (.str T)) (h7 : ν (Str.ofString "at") = some (.int (R.length : Nat)))
    (h : k .next (upd ν (Str.ofString "text") (.str (termT T R.length u c))) (stL ra wa b l L B (R ++ [(u, c)]) z)) :
    EvSs hT PG w (lawC A L) ((forB (lst 3)).drop 2) ν (stL ra wa b l L B R z) k := by
  obtain ⟨a1, a2, a3⟩ := all_small hB
  have e : stL ra wa b l L B (R ++ [(u, c)]) z = (ra, .list ((R.map (lrOf B)).map lrA ++ [lrA (lrOf B (u, c))])) :: (wa, .list ((R.map fun r => r.1.A) ++ [u.A])) :: bxm b l z :: cst L none none none (some (.ref ra)) := by
    unfold stL
    rw [List.map_append, List.map_append, List.map_append]; rfl
  rw [e] at h
  have n1 := txt_len hu
  have n2 := num_len (k := R.length) (by omega)
  have hl1 := hu.l
  refine EvSs.cons ?_
  refine EvS.expr ?_ rfl rfl
  refine' EvE.append ?_ rfl rfl
  refine' EvE.loc rfl (by assumption) ?_ rfl rfl
  refine' app_ok (.tail _ (.head _)) ?_
  refine' EvE.loc rfl (by assumption) ?_ rfl rfl
  refine ⟨[_], _, _, rfl, (by walk_at "side"), ?_⟩; dsimp only [List.nil_append, List.cons_append]
  refine none_ok ?_
  refine andThen_next ?_
  refine EvSs.cons ?_
  refine EvS.expr ?_ rfl rfl
  refine' EvE.append ?_ rfl rfl
  refine' EvE.cel rfl rfl (.inl (.tail _ (.tail _ (.tail _ (.tail _ (.tail _ (.tail _ (.head _)))))))) ?_ rfl rfl
  refine' app_ok (.head _) ?_
  refine EvE.tuple ?_
  refine EvAs.cons ?_ rfl
  refine' EvE.callK (by assumption) (G_law_set _) (KI_law_set _) ?_ rfl rfl rfl rfl rfl rfl
  refine EvAs.cons ?_ rfl
  refine' EvE.loc rfl (by assumption) ?_ rfl rfl
  refine EvAs.cons ?_ rfl
  refine' EvE.loc rfl (by assumption) ?_ rfl rfl
  refine EvAs.nil ?_
  refine EvL.gives (by dsimp only; omega) (sp_set W 0 u.N u.L u.least u.most (allP B) (by omega) a1 a2) ?_
  refine EvAs.cons ?_ rfl
  refine' EvE.loc rfl (by assumption) ?_ rfl rfl
  refine EvAs.nil ?_
  refine tup_ok (by walk_at "side") ?_
  refine ⟨[], _, _, rfl, (by walk_at "side"), ?_⟩; dsimp only [List.nil_append, List.cons_append]
  refine none_ok ?_
  refine andThen_next ?_
  refine EvSs.cons ?_
  refine EvS.assign ?_ rfl
  refine EvE.binop ?_
  refine EvE.binop ?_
  refine EvE.binop ?_
  refine EvE.binop ?_
  refine EvE.binop ?_
  refine EvE.binop ?_
  refine EvE.binop ?_
  refine' EvE.loc rfl (by assumption) ?_ rfl rfl
  refine EvE.str ?_
  refine' Ev2.addS (by walk_at "side") ?_
  refine' EvE.callT (by assumption) (B_str _) (BB_str) (by decide) ?_ rfl rfl rfl rfl rfl rfl rfl
  refine EvAs.cons ?_ rfl
  refine' EvE.loc rfl (by assumption) ?_ rfl rfl
  refine EvAs.nil ?_
  refine EvL.strN (by omega) ?_
  refine' Ev2.addS (by walk_at "side") ?_
  refine EvE.str ?_
  refine' Ev2.addS (by walk_at "side") ?_
  refine' EvE.loc rfl (by assumption) ?_ rfl rfl
  refine' Ev2.addS (by walk_at "side") ?_
  refine EvE.str ?_
  refine' Ev2.addS (by walk_at "side") ?_
  refine EvE.ifx ?_
  refine EvT.plain ?_ rfl
  refine' EvE.loc rfl (by assumption) ?_ rfl rfl
  refine Ev1.truthB ?_
  refine ⟨fun hb => ?_, fun hb => ?_⟩
  · subst hb
    refine EvE.str ?_
    refine' Ev2.addS (by walk_at "side") ?_
    refine EvE.str ?_
    refine' Ev2.addS (by walk_at "side") ?_
    refine EvStore rfl rfl ?_
    refine andThen_next ?_
    refine EvSs.nil ?_
    exact h
  · subst hb
    refine EvE.str ?_
    refine' Ev2.addS (by walk_at "side") ?_
    refine EvE.str ?_
    refine' Ev2.addS (by walk_at "side") ?_
    refine EvStore rfl rfl ?_
    refine andThen_next ?_
    refine EvSs.nil ?_
    exact h
end
theorem st3 (W : Wd hT (KK w.params)) (hB : B = 2 ∨ B = 3) (hl : l.length ≤ 63) (h1 : ν (Str.ofString "box") = some (.ref b)) (h2 : ν (Str.ofString "bits") = some (.int (B : Nat))) (h3 : ν (Str.ofString "some") = some (.lst (allA B))) (h4 : ν (Str.ofString "words") = some (.ref wa)) (h5 : ν (Str.ofString "text") = some (.str (Str.ofString "")))
    (h : ∀ ν' (R : List WR) z T, 2 ≤ R.length → R.length ≤ 3 → (∀ r ∈ R, r.1.Ok) → ν' (Str.ofString "some") = some (.lst (allA B)) → ν' (Str.ofString "words") = some (.ref wa) → ν' (Str.ofString "text") = some (.str T) → Lxs T.cps.toList (usOf 0 R) → T.length ≤ 1000 → k .next ν' (stL ra wa b l L B R z)) :
    EvS hT PG w (lawC A L) (lst 3) ν (stL ra wa b l L B [] 1) k := by
  refine EvS.for ?_ (fun _ => rfl)
  refine' EvIt.range (by assumption) (B_range _) ?_ rfl rfl rfl rfl rfl
  refine EvE.binop ?_
  refine EvE.int ?_
  refine' EvE.callK (by assumption) (G_law_draw _) (KI_law_draw _) ?_ rfl rfl rfl rfl rfl rfl
  refine EvAs.cons ?_ rfl
  refine' EvE.loc rfl (by assumption) ?_ rfl rfl
  refine EvAs.cons ?_ rfl
  refine EvE.int ?_
  refine EvAs.nil ?_
  refine draw_in (pre := [_, _]) W (by dsimp only; omega) (by decide) (by decide) (by omega) (by decide) fun y hy => ?_
  refine Ev2.sub ?_
  obtain ⟨M, hM, hM2⟩ : ∃ M : Nat, (3 : Int) - (y : Int) = (M : Int) ∧ (M = 2 ∨ M = 3) := ⟨3 - y, by omega, by omega⟩
  rw [hM]
  refine ⟨M, rfl, by omega, ?_⟩
  refine ForL.inv (fun ds ν μ => ∃ (R : List WR) (z : Int) (T : Str) (n : Nat), R.length + n = M ∧ ds = (List.range' R.length n).map (fun (i : Nat) => AV.int i) ∧ (∀ r ∈ R, r.1.Ok) ∧ 0 ≤ z ∧ z ≤ 2 + 6 * R.length ∧ ν (Str.ofString "box") = some (.ref b) ∧ ν (Str.ofString "bits") = some (.int (B : Nat)) ∧
    ν (Str.ofString "some") = some (.lst (allA B)) ∧ ν (Str.ofString "words") = some (.ref wa) ∧ ν (Str.ofString "text") = some (.str T) ∧ Lxs T.cps.toList (usOf 0 R) ∧ T.length ≤ 100 * R.length ∧ μ = stL ra wa b l L B R z) ?_ ?_ _ _ _
    ⟨[], 2, Str.ofString "", M, by simp, by rw [List.range_eq_range']; rfl, fun _ hr => (nomatch hr), by decide, by decide, h1, h2, h3, h4, h5, .nil, by rw [ln_em]; exact Nat.le_refl _, rfl⟩
  · rintro d ds ν μ ⟨R, z, T, n, hn, hd, hok, hz0, hz1, g1, g2, g3, g4, g5, g6, g7, rfl⟩
    cases n with
    | zero => cases hd
    | succ n =>
    cases hd
    change Ev1 hT PG w _ _ any (.int ((R.length : Nat) : Int)) _ _ _
    refine Ev1.assignN ?_
    refine EvStore rfl rfl ?_
    refine EvSs.cons ?_
    refine EvS.assignT ?_ rfl rfl
    refine' EvE.callK (by assumption) (G_law_word _) (KI_law_word _) ?_ rfl rfl rfl rfl rfl rfl
    refine EvAs.cons ?_ rfl
    refine' EvE.loc rfl (by assumption) ?_ rfl rfl
    refine EvAs.cons ?_ rfl
    refine' EvE.loc rfl (by assumption) ?_ rfl rfl
    refine EvAs.nil ?_
    refine word_in (pre := [_, _]) W (by dsimp only; omega) hB hz0 (by omega) (by omega) fun u z' hu hz2 hz3 => ?_
    refine Ev1.assignTup rfl rfl ?_
    refine EvA.cons ?_ rfl
    refine Ev1.assignN ?_
    refine EvStore rfl rfl ?_
    refine EvA.cons ?_ rfl
    refine Ev1.assignN ?_
    refine EvStore rfl rfl ?_
    refine EvA.nil ?_
    refine andThen_next ?_
    refine EvSs.cons ?_
    refine EvS.assign ?_ rfl
    refine EvE.or2 ?_
    refine EvE.cmp ?_ rfl
    refine' EvE.loc rfl rfl ?_ rfl rfl
    refine EvE.int ?_
    refine Ev2.eqI ?_
    refine Ev1.truthB ?_
    have fin : ∀ (c : Bool) (z'' : Int), z'' ≤ z' + 1 → z' ≤ z'' → ∃ (R₂ : List WR) (z₂ : Int) (T₂ : Str) (n₂ : Nat), R₂.length + n₂ = M ∧ (List.range' (R.length + 1) n).map (fun (i : Nat) => AV.int i) = (List.range' R₂.length n₂).map (fun (i : Nat) => AV.int i) ∧ (∀ r ∈ R₂, r.1.Ok) ∧ 0 ≤ z₂ ∧ z₂ ≤ 2 + 6 * R₂.length ∧
        Lxs T₂.cps.toList (usOf 0 R₂) ∧ T₂.length ≤ 100 * R₂.length ∧ R₂ = R ++ [(u, c)] ∧ z₂ = z'' ∧ T₂ = termT T R.length u c := by
      intro c z'' e1 e2
      have hlen : (R ++ [(u, c)]).length = R.length + 1 := by rw [List.length_append]; rfl
      refine ⟨R ++ [(u, c)], z'', termT T R.length u c, n, by omega, by rw [hlen], fun r hr => ?_, by omega, by rw [hlen]; omega, ?_, ?_, rfl, rfl, rfl⟩
      · rcases List.mem_append.mp hr with hr | hr
        · exact hok r hr
        · rw [List.mem_singleton.mp hr]; exact hu
      · rw [usOf_snoc, Nat.zero_add]
        exact term_lx g6 (by omega) hu
      · have := termT_len (T := T) (j := R.length) (c := c) hu (by omega)
        rw [hlen]; omega
    refine ⟨fun hb => ?_, fun hb => ?_⟩
    · rw [hb]
      refine EvStore rfl rfl ?_
      refine andThen_next ?_
      refine st3body (c := true) (T := T) W hB (by omega) hu (by omega) rfl rfl rfl g4 g3 g5 rfl ?_
      obtain ⟨R₂, z₂, T₂, n₂, f1, f2, f3, f4, f5, f6, f7, rfl, rfl, rfl⟩ := fin true z' (by omega) (by omega)
      exact ⟨_, _, _, n₂, f1, f2, f3, f4, f5, g1, g2, g3, g4, rfl, f6, f7, rfl⟩
    · refine EvE.cmp ?_ rfl
      refine' EvE.callK (by assumption) (G_law_draw _) (KI_law_draw _) ?_ rfl rfl rfl rfl rfl rfl
      refine EvAs.cons ?_ rfl
      refine' EvE.loc rfl (by assumption) ?_ rfl rfl
      refine EvAs.cons ?_ rfl
      refine EvE.int ?_
      refine EvAs.nil ?_
      refine draw_in (pre := [_, _]) W (by dsimp only; omega) (by omega) (by omega) (by omega) (by decide) fun y2 hy2 => ?_
      refine EvE.int ?_
      refine Ev2.eqI ?_
      refine EvStore rfl rfl ?_
      refine andThen_next ?_
      refine st3body (c := ((y2 : Int) == 0)) (T := T) W hB (by omega) hu (by omega) rfl rfl rfl g4 g3 g5 rfl ?_
      obtain ⟨R₂, z₂, T₂, n₂, f1, f2, f3, f4, f5, f6, f7, rfl, rfl, rfl⟩ := fin ((y2 : Int) == 0) (z' + 1) (by omega) (by omega)
      exact ⟨_, _, _, n₂, f1, f2, f3, f4, f5, g1, g2, g3, g4, rfl, f6, f7, rfl⟩
  · rintro ν μ ⟨R, z, T, n, hn, hd, hok, hz0, hz1, g1, g2, g3, g4, g5, g6, g7, rfl⟩
    cases n with
    | succ n => cases hd
    | zero => exact h ν R z T (by omega) (by omega) hok g3 g4 g5 g6 (by omega)
theorem st4 {T : Str} (W : Wd hT (KK w.params)) (hB : B = 2 ∨ B = 3) (h2 : R.length ≤ 3) (hok : ∀ r ∈ R, r.1.Ok) (h3 : ν (Str.ofString "some") = some (.lst (allA B))) (h5 : ν (Str.ofString "text") = some (.str T)) (hT' : Lxs T.cps.toList (usOf 0 R)) (hTl : T.length ≤ 1000)
    (h : k .next ν (st b bl L B R)) : EvS hT PG w (lawC A L) (lst 4) ν ((b, .list bl) :: cst L none none none (some (rulA B R))) k := by
  obtain ⟨a1, a2, a3⟩ := all_small hB
  refine EvS.assignT ?_ rfl rfl
  refine EvE.tuple ?_
  refine EvAs.cons ?_ rfl
  refine' EvE.callK (by assumption) (G_read_policy _) (KI_read_policy _) ?_ rfl rfl rfl rfl rfl rfl
  refine EvAs.cons ?_ rfl
  refine' EvE.loc rfl (by assumption) ?_ rfl rfl
  refine EvAs.nil ?_
  refine EvL.gives (by dsimp only; omega) (sp_read W 0 R T h2 hok hTl hT') ?_
  refine EvAs.cons ?_ rfl
  refine' EvE.callK (by assumption) (G_law_let _) (KI_law_let _) ?_ rfl rfl rfl rfl rfl rfl
  refine EvAs.cons ?_ rfl
  refine' EvE.cel rfl rfl (.inl (.tail _ (.tail _ (.tail _ (.tail _ (.head _)))))) ?_ rfl rfl
  refine EvAs.cons ?_ rfl
  refine' EvE.loc rfl (by assumption) ?_ rfl rfl
  refine EvAs.nil ?_
  refine EvL.gives (by dsimp only; omega) (sp_let W 0 (R.map (lrOf B)) (allP B) a1 (by rw [List.length_map]; omega) fun r hr => by
    obtain ⟨x, hx, rfl⟩ := List.mem_map.mp hr
    exact Nat.le_trans (List.length_filter_le _ _) a1) ?_
  refine EvAs.nil ?_
  refine tup_ok (by walk_at "side") ?_
  refine Ev1.assignTup rfl rfl ?_
  refine EvA.cons ?_ rfl
  refine Ev1.assignN ?_
  refine EvStoreC (pre := [_, _, _]) rfl rfl rfl rfl ?_
  refine EvA.cons ?_ rfl
  refine Ev1.assignN ?_
  refine EvStoreC (pre := [_, _]) rfl rfl rfl rfl ?_
  refine EvA.nil ?_
  exact h
theorem sp_law (W : Wd hT (KK w.params)) (l : List Int) (hl : l.length ≤ 63) : Spec hT PG w 60 (.ref 551) [.lst (l.map .int)] [] (Gives (.bool true) []) := by
  refine Spec.drop ?_
  refine Spec.fnC W [Str.ofString "script"] lawNs (L_law _) (C_law _) rfl (fun vs h => by obtain ⟨a, rfl⟩ := len1 h; rfl) (fun _ => rfl) (by decide) (by decide +kernel) rfl rfl rfl (fun Ar L' hr => ?_)
  refine EvSs.cons ?_
  refine st0 W hl rfl fun b => ?_
  refine andThen_next (EvSs.cons ?_)
  refine st1 W (l := l.take 20) (by rw [List.length_take]; omega) rfl fun B hB => ?_
  refine andThen_next (EvSs.cons ?_)
  refine st2 W hB rfl fun wa ra => ?_
  refine andThen_next (EvSs.cons ?_)
  refine st3 W hB (by rw [List.length_take]; omega) rfl rfl rfl rfl rfl fun ν R z T h2 h3 hok g1 g2 g3 g4 g5 => ?_
  refine andThen_next ?_
  refine EvSs.freezeC (pre := [_, _, _, _, _]) (post := []) rfl ?_
  refine EvSs.freeze g2 ?_
  obtain ⟨r0, r1, R', rfl⟩ : ∃ r0 r1 R', R = r0 :: r1 :: R' := by
    rcases R with _ | ⟨r0, _ | ⟨r1, R'⟩⟩
    · simp at h2
    · simp at h2
    · exact ⟨r0, r1, R', rfl⟩
  have o0 := hok r0 (.head _)
  have o1 := hok r1 (.tail _ (.head _))
  refine EvSs.cons ?_
  refine st4 (R := r0 :: r1 :: R') W hB h3 hok g1 g3 g4 g5 ?_
  refine andThen_next (EvSs.cons ?_)
  refine st5 W hB hok h3 g1 ?_
  refine andThen_next (EvSs.cons ?_)
  refine st6 W hB hok h3 g1 ?_
  refine andThen_next (EvSs.cons ?_)
  refine st7 W rfl h3 ?_
  refine andThen_next (EvSs.cons ?_)
  refine st8 W hB rfl h3 ?_
  refine andThen_next (EvSs.cons ?_)
  refine st9 W rfl h3 o0 o1 rfl ?_
  refine andThen_next (EvSs.cons ?_)
  refine st10 (r0 := r0) (r1 := r1) W hB o0 o1 g1 rfl rfl rfl rfl ?_
  refine andThen_next (EvSs.cons ?_)
  refine st11 (r0 := r0) (r1 := r1) W hB o0 o1 g1 rfl rfl ?_
  refine andThen_next (EvSs.cons ?_)
  refine st12 W hB rfl h3 g1 ?_
  refine andThen_next (EvSs.cons ?_)
  refine st13 (r0 := r0) (r1 := r1) W hB o0 o1 g1 rfl rfl rfl ?_
  refine andThen_next (EvSs.cons ?_)
  refine st14 (r0 := r0) (r1 := r1) W hB o0 o1 g1 rfl rfl rfl ?_
  refine andThen_next (EvSs.cons ?_)
  refine st15 fun a => ?_
  refine andThen_next (EvSs.cons ?_)
  refine st16 W hB h3 g1 rfl fun ν' ah e1 e2 => ?_
  refine andThen_next (EvSs.cons ?_)
  refine st17 W hB hok h3 e1 e2 fun ν'' μ'' => ?_
  exact ⟨[], List.nil_sublist _, [], List.Sublist.refl _, rfl, rfl⟩
end

end
theorem w_said : PySem.Challenge.rw_sz0118_01.wellSaid = true := by
  unfold OpenLaw.wellSaid
  repeat' (with_reducible refine look_both ?_ ?_)
  · unfold OpenRow.wellSaid
    repeat' (with_reducible refine look_both ?_ ?_)
    · unfold OpenRow.partSaid
      repeat' (with_reducible refine look_both ?_ ?_)
      · unfold looksOpen
        repeat' (with_reducible refine look_both ?_ ?_)
        all_goals decide +kernel
      all_goals decide +kernel
    all_goals decide +kernel
  all_goals decide +kernel
theorem ints_rd {g : Fz} : ∀ {vs : List Value} {ns : List Int}, IntsAre vs ns → Rds g vs (ns.map .int)
  | _, _, .nil => .nil
  | _, _, .cons n t r => .cons (.int n t) (ints_rd r)
theorem room_caller (n : Nat) (h : n ≤ 60) : Room callerA n := by
  refine ⟨rfl, ?_, ?_⟩
  · have : (callerA.depth + 60 < recursionLimit) := by decide +kernel
    omega
  · have : (callerA.units + 4 * 60 + 100 < cLine) := by decide +kernel
    omega
theorem law_ends {w : World} {s₀ s₁ : Shared} {mg mb : Str → Option Value} {p : Program} {loose : List Str} {mean : ExcName → Option Value} {fa a : Addr} {vs : List Value} {ns : List Int}
    (KX : (KK w.params).In s₁.heap) (T : Top p loose mean mg mb s₁.heap) (hmg : mg (Str.ofString "law") = some (.ref fa)) (hg : s₁.gens = #[]) (hL : s₁.heap.IsList a vs.toArray) (hI : IntsAre vs ns) (hn : ¬ ((63 : Nat) : Int) < ns.length) {c : ClaimW}
    (hr : ∀ cls, c.raises [ofPy (.list (ns.map .int))] cls = false) (hp : c.post [ofPy (.list (ns.map .int))] (.bool true) [ofPy (.list (ns.map .int))] = true) :
    codeAny (model PG w) callerA (.call (.ref fa) ⟨[.ref a], []⟩) (GoodW c (classAt s₀.heap) (ExcName.means s₀.heap) [ofPy (.list (ns.map .int))] s₁) s₁ := by
  have W : Wd s₁.heap (KK w.params) := ⟨KX, ⟨_, T.g⟩, ⟨_, T.b, T.builtins⟩, T.nolimit, T.nodigits⟩
  have hfa : fa = 551 := by
    have e := mg_of KX T.g (G_law w.params)
    have e2 : some (Value.ref fa) = some (Value.ref 551) := hmg.symm.trans e
    injection e2 with e2
    injection e2
  subst hfa
  obtain ⟨o, h1, h2, m, h3⟩ := hL
  have rs : RS s₁.heap (fun b => s₁.heap.get? b) [] s₁ := ⟨fun _ _ e => e, fun _ _ e => e, fun _ hp => (nomatch hp), List.nodup_nil, fun _ ha => (nomatch ha)⟩
  refine codeAny_mono (sp_law W ns (by omega) callerA _ s₁ _ (fun v s' => GoodW c (classAt s₀.heap) (ExcName.means s₀.heap) [ofPy (.list (ns.map .int))] s₁ (.ok (.ret v)) s') (room_caller 60 (by decide)) rs (.cons (.lst h1 h2 h3 (ints_rd hI)) .nil) fun g' s' v d μ' e r' rd k => ?_) fun r s' q => ?_
  · obtain ⟨rfl, rfl⟩ := k
    cases rd
    obtain ⟨h, tk, rfl⟩ := e.same
    exact ⟨.inl ⟨_, _, _, rfl, hr, .bool true, hp, fun _ => ⟨List.nodup_nil, fun _ ha => (nomatch ha)⟩⟩, fun b ob hb => e.keep b ob hb (fun q => nomatch q), rfl, hg⟩
  · rcases r with e | f
    · exact (show False from q).elim
    · cases f <;> first | exact (show False from q).elim | exact q
end Mine
set_option maxRecDepth 100000 in
set_option maxHeartbeats 8000000 in
theorem PySem.Challenge.cw_sz0118_01_holds : PySem.Challenge.rw_sz0118_01.Holds := by
  refine holds_law Mine.w_said fun said => ?_
  refine holds_open (q := Mine.viewQ) (loose := Mine.looseL) (Xt := fun s => recOk [] s) (XP := fun _ _ => True) (Yf := Hook.obs Mine.HH) (Ya := Hook.val Mine.HH) (YP := Hook.says Mine.HH) (N := 8284) Mine.o_left (Hook.of Mine.HH) (Hook.keeps Mine.HH) (fun _ _ => trivial) (fun _ _ _ _ _ => trivial)
    (by rfl) (by rfl) (by rfl) (fun s e => recFacts_of e) (by rfl) (by assumption) (by decide +kernel) ⟨rfl, rfl, rfl, rfl, rfl, by decide +kernel⟩ ?hw ?hc
  case hw => w_witness2
  case hc =>
    intro w s₀ s₁ mg mb G Y fa o pm cd doc dV kV ho hd hcd hD hmg hg args vals as hpre hlay hrd hwl hlo
    have KX := kIn_of Y
    refine Ground.open G ?_
    intro T B D TE TW
    wrow_args hpre hlay hrd hwl hlo
    refine enter_call ?_
    refine codeAny_mono ?_ (fun _ _ g => GoodW.toG g)
    refine Mine.law_ends KX T hmg hg (by assumption) (by assumption) (by assumption) (raisesW_false (by wrow_none_raised)) (by wrow_post)
