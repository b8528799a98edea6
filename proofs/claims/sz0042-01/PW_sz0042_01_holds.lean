import PyProof.Rows.All
import Wide.All
import OpenK.AllK
import Wide.FinOn
import Lean
import PySem.Challenge.RW_sz0042_01
set_option linter.all false
set_option maxHeartbeats 0
set_option Elab.async false
set_option maxRecDepth 100000
set_option genInjectivity false
set_option genSizeOf false
set_option compiler.extract_closed false
namespace Mine
open PySem PySem.W PyProof.Rows
theorem dq {P : Prop} (h : P) (_ : ∀ q : Prop, False → q) : P := h
theorem fq (h : False) (_ : Bool) : False := h
noncomputable section
section
noncomputable section
noncomputable abbrev PW : Program := PySem.Challenge.pw_sz0042_01
noncomputable def nthS : List Stmt → Nat → Stmt
  | [], _ => .Pass ⟨0, 0, 0, 0⟩
  | a :: _, 0 => a
  | _ :: l, k + 1 => nthS l k
noncomputable def bodyIn : Stmt → List Stmt
  | .ClassDef _ _ _ b .. => b
  | _ => []
noncomputable def stAt (i : Nat) : Stmt := nthS PySem.Challenge.pw_sz0042_01.main.body i
noncomputable def stIn (i j : Nat) : Stmt := nthS (bodyIn (stAt i)) j
noncomputable abbrev mkFR {name : Str} {args : Arguments} {body : List Stmt} {dl : List Expr} {rt : Option Expr} {tp : List TypeParam} {sc : Scope} {ts : Option Scope} {bi : Str} {pos : Pos} (st : Stmt) (_ : st = .FunctionDef name args body dl rt tp sc ts bi pos) (qual : Str) : Obj :=
  ⟨.none, none, .func { name := name, qualname := qual, params := args, body := .stmts body, scope := sc, globals := 0, closure := [], defaults := .none, kwdefaults := .none }, #[]⟩
noncomputable abbrev mkFn {name : Str} {args : Arguments} {body : List Stmt} {dl : List Expr} {rt : Option Expr} {tp : List TypeParam} {sc : Scope} {ts : Option Scope} {bi : Str} {pos : Pos} (st : Stmt) (_ : st = .FunctionDef name args body dl rt tp sc ts bi pos) (qual m : Str) (t c : Nat) (dflt : Value := .none) : Obj :=
  ⟨.type "function", none, .func { name := name, qualname := qual, params := args, body := .stmts body, scope := sc, globals := 3, closure := [], defaults := dflt, kwdefaults := .none, pyModule := .str m t, code := .ref c }, #[]⟩
noncomputable def mkFR2 (st : Stmt) (qual : Str) : Obj := match st with
  | .FunctionDef name args body _ _ _ sc _ _ _ => ⟨.none, none, .func { name := name, qualname := qual, params := args, body := .stmts body, scope := sc, globals := 0, closure := [], defaults := .none, kwdefaults := .none }, #[]⟩
  | _ => ⟨.none, none, .seq [].toArray 0, #[]⟩
noncomputable def mkFn2 (st : Stmt) (qual m : Str) (t c : Nat) (dflt : Value := .none) : Obj := match st with
  | .FunctionDef name args body _ _ _ sc _ _ _ => ⟨.type "function", none, .func { name := name, qualname := qual, params := args, body := .stmts body, scope := sc, globals := 3, closure := [], defaults := dflt, kwdefaults := .none, pyModule := .str m t, code := .ref c }, #[]⟩
  | _ => ⟨.none, none, .seq [].toArray 0, #[]⟩
noncomputable abbrev en (P : Params) (s : String) (t : Nat) (v : Value) : DictEntry := ⟨PyData.keyHash P (.ofString s), .str (.ofString s) t, v⟩
noncomputable abbrev sv (s : String) (t : Nat) : Value := .str (.ofString s) t
noncomputable abbrev tp (l : List Value) : Obj := ⟨.type "tuple", none, .seq l.toArray 0, #[]⟩
noncomputable abbrev fi (c : Value) (l : List Value) : Obj := ⟨c, none, .fields l.toArray, #[]⟩
noncomputable abbrev bn (o : Obj) (l r : BT) : BT := .node o l r
noncomputable abbrev bf (o : Obj) : BT := .node o .nil .nil
noncomputable abbrev be : BT := .nil
noncomputable def cutT : BT → Nat → BT
  | .nil, _ => .nil
  | .node _ _ _, 0 => .nil
  | .node v l r, k + 1 => .node v (cutT l ((k + 1) / 2)) (cutT r (k / 2))
noncomputable def m0 : Obj := tp []
noncomputable def m1 (x0 : String) (x1 : Nat) (x2 : Int) (x3 : Nat) (x4 : Int) : Obj := fi (.type "code") [sv x0 x1, sv x0 (Nat.add x1 1), sv "/claim/cut.py" (Nat.add x1 2), .int x2 0, .int 0 0, .int 0 0, .int 0 0, .int 0 0, .ref x3, .bool false, .int 181 0, .ref (Nat.add x3 1), .none, .none, .none, .none, .int x4 0, .int x2 0, sv "/claim/cut.py" (Nat.add x1 4)]
noncomputable def m2 (x0 x1 : Nat) (x2 : String) (x3 : Nat) : Obj := ⟨.type "frame", none, .plain, #[some (.ref x0), some (.ref 3), some (.ref x1), none, some (sv x2 x3), none, some (.ref 0)]⟩
noncomputable def m3 : Obj := fi (.none) []
noncomputable def m4 (x0 : String) (x1 : Nat) : Obj := tp [sv x0 x1]
noncomputable def m5 (x0 : Nat) (x1 : String) : Obj := mkFR2 (stAt x0) (.ofString x1)
noncomputable def m6 (x0 : String) (x1 : Nat) (x2 : String) (x3 x4 : Int) (x5 : Nat) (x6 : Int) (x7 : Nat) : Obj := fi (.type "code") [sv x0 x1, sv x2 (Nat.add x1 1), sv "/claim/cut.py" (Nat.add x1 2), .int x3 0, .int x4 0, .int 0 0, .int 0 0, .int 3 0, .ref x5, .bool true, .int 181 0, .ref (Nat.add x5 1), .none, .ref (Nat.add x5 2), .ref (Nat.add x5 3), .ref (Nat.add x5 4), .int x6 0, .int x3 0, sv "/claim/cut.py" x7]
noncomputable def m7 (x0 : Nat) (x1 x2 : String) (x3 x4 : Nat) : Obj := mkFn2 (stAt x0) (.ofString x1) (.ofString x2) x3 x4
noncomputable def m8 : Obj := fi (.type "builtin_function_or_method") [.builtin "type.__prepare__", .type "type"]
noncomputable def m9 (P : Params) (x0 : Nat) (x1 : String) (x2 : Nat) (x3 : String) (x4 : Int) (x5 x6 x7 : Nat) : Obj := ⟨.type "dict", none, (.dict (List.toArray [en P "__module__" x0 (sv x1 x2), en P "__qualname__" (Nat.add x0 2) (sv x3 (Nat.add x0 1)), en P "__firstlineno__" (Nat.add x0 4) (.int x4 (Nat.add x0 3)), en P "__init__" x5 (.ref x6), en P "__static_attributes__" x7 (.ref (Nat.add x6 1))]) 5), #[]⟩
noncomputable def m10 (x0 : Int) (x1 : Nat) : Obj := fi (.none) [.int x0 0, .int 4 0, .ref x1]
noncomputable def m11 (x0 : String) (x1 : Nat) (x2 : String) : Obj := tp [sv x0 x1, sv x2 (Nat.add x1 1)]
noncomputable def m12 (x0 x1 : Nat) : Obj := fi (.type "getset_descriptor") [sv "__weakref__" x0, .ref x1, .builtin "ExceptionGroup.__weakref__", .none]
noncomputable def m13 (x0 : Nat) : Obj := fi (.type "super") [.ref x0, .ref x0, .ref x0]
noncomputable def m14 (x0 : Nat) : Obj := fi (.type "builtin_function_or_method") [.builtin "object.__init_subclass__", .ref x0]
noncomputable def m15 : Obj := tp [.ref 38]
noncomputable def m16 (P : Params) (x0 : Nat) (x1 : String) (x2 : Int) (x3 : Nat) : Obj := ⟨.type "dict", none, (.dict (List.toArray [en P "__module__" x0 (sv "f77.errors" 194), en P "__qualname__" (Nat.add x0 2) (sv x1 (Nat.add x0 1)), en P "__firstlineno__" (Nat.add x0 4) (.int x2 (Nat.add x0 3)), en P "__static_attributes__" (Nat.add x0 5) (.ref x3)]) 4), #[]⟩
noncomputable def m17 (P : Params) (x0 : Nat) (x1 : Int) (x2 : Nat) : Obj := ⟨.type "dict", none, (.dict (List.toArray [en P "__module__" x0 (sv "f77.errors" 194), en P "__firstlineno__" (Nat.add x0 4) (.int x1 (Nat.add x0 3)), en P "__static_attributes__" (Nat.add x0 5) (.ref x2), en P "__doc__" (Nat.add x0 6) (.none)]) 2), #[]⟩
noncomputable def m18 (x0 : String) (x1 x2 x3 x4 : Nat) : Obj := ⟨.type "type", none, (.cls { name := (.ofString x0), bases := [.ref 38], mro := [.ref x1, .ref 38, .type "Exception", .type "BaseException", .type "object"], ns := x2, qualname := (.ofString x0), hasDict := true, slotNames := [], subclasses := [], hasDel := false, abstract := false }), #[some (.ref x3), none, some (sv x0 x4), some (sv x0 (Nat.add x4 8)), some (.builtin "Exception.__new__"), some (.bool true)]⟩
noncomputable def m19 (x0 : String) (x1 : Nat) (x2 x3 : String) : Obj := tp [sv x0 x1, sv x2 (Nat.add x1 1), sv x3 (Nat.add x1 2)]
noncomputable def m20 (x0 : String) (x1 x2 x3 : Nat) : Obj := ⟨.type "type", none, (.cls { name := (.ofString x0), bases := [.type "object"], mro := [.ref x1, .type "object"], ns := x2, qualname := (.ofString x0), hasDict := true, slotNames := [], subclasses := [], hasDel := false, abstract := false }), #[none, none, some (sv x0 x3), some (sv x0 (Nat.add x3 8)), some (.builtin "object.__new__"), some (.bool true)]⟩
noncomputable def m21 (x0 x1 : Nat) : Obj := fi (.type "getset_descriptor") [sv "__dict__" x0, .ref x1, .builtin "function.__dict__", .builtin "function.__dict__#set"]
noncomputable def m22 (x0 : String) (x1 : Nat) (x2 x3 x4 : String) : Obj := tp [sv x0 x1, sv x2 (Nat.add x1 1), sv x3 (Nat.add x1 2), sv x4 (Nat.add x1 3)]
noncomputable def m23 (x0 : String) (x1 : Nat) (x2 x3 x4 x5 x6 x7 x8 x9 x10 x11 : String) : Obj := tp [sv x0 x1, sv x2 (Nat.add x1 1), sv x3 (Nat.add x1 2), sv x4 (Nat.add x1 3), sv x5 (Nat.add x1 4), sv x6 (Nat.add x1 5), sv x7 (Nat.add x1 6), sv x8 (Nat.add x1 7), sv x9 (Nat.add x1 8), sv x10 (Nat.add x1 9), sv x11 (Nat.add x1 10)]
noncomputable def m24 (x0 : String) (x1 : Nat) (x2 x3 x4 x5 : String) : Obj := tp [sv x0 x1, sv x2 (Nat.add x1 1), sv x3 (Nat.add x1 2), sv x4 (Nat.add x1 3), sv x5 (Nat.add x1 4)]
noncomputable def m25 (x0 : String) (x1 : Nat) (x2 x3 x4 x5 x6 x7 : String) : Obj := tp [sv x0 x1, sv x2 (Nat.add x1 1), sv x3 (Nat.add x1 2), sv x4 (Nat.add x1 3), sv x5 (Nat.add x1 4), sv x6 (Nat.add x1 5), sv x7 (Nat.add x1 6)]
noncomputable def m26 (x0 : String) (x1 : Nat) (x2 x3 x4 x5 x6 x7 x8 : String) : Obj := tp [sv x0 x1, sv x2 (Nat.add x1 1), sv x3 (Nat.add x1 2), sv x4 (Nat.add x1 3), sv x5 (Nat.add x1 4), sv x6 (Nat.add x1 5), sv x7 (Nat.add x1 6), sv x8 (Nat.add x1 7)]
noncomputable def m27 (x0 : String) (x1 : Nat) (x2 x3 x4 x5 x6 : String) : Obj := tp [sv x0 x1, sv x2 (Nat.add x1 1), sv x3 (Nat.add x1 2), sv x4 (Nat.add x1 3), sv x5 (Nat.add x1 4), sv x6 (Nat.add x1 5)]
noncomputable def m28 (P : Params) (x0 : Nat) (x1 : String) (x2 : Nat) (x3 : Int) (x4 x5 x6 : Nat) : Obj := ⟨.type "dict", none, (.dict (List.toArray [en P "__module__" x0 (sv x1 x2), en P "__firstlineno__" (Nat.add x0 4) (.int x3 (Nat.add x0 3)), en P "__init__" x4 (.ref x5), en P "__static_attributes__" x6 (.ref (Nat.add x5 1)), en P "__dict__" (Nat.add x6 2) (.ref (Nat.add x5 4)), en P "__weakref__" (Nat.add x6 4) (.ref (Nat.add x5 5)), en P "__doc__" (Nat.add x6 5) (.none)]) 4), #[]⟩
noncomputable def m29 (x0 : String) (x1 : Nat) (x2 x3 : Int) (x4 : Nat) (x5 : Int) : Obj := fi (.type "code") [sv x0 x1, sv x0 (Nat.add x1 1), sv "/claim/cut.py" (Nat.add x1 2), .int x2 0, .int x3 0, .int 0 0, .int 0 0, .int 3 0, .ref x4, .bool true, .int 181 0, .ref (Nat.add x4 1), .none, .none, .none, .ref (Nat.add x4 2), .int x5 0, .int x2 0, sv "/claim/cut.py" (Nat.add x1 4)]
def o0 (P : Params) : Obj := boot_o_0 P
def o1 (P : Params) : Obj := boot_o_1 P
def o2 (P : Params) : Obj := ⟨.none, none, (.dict (List.toArray [en P "type.__subclasses__.Exception.0" 221 (.int 38 0), en P "type.__subclasses__.Exception.n" 222 (.int 1 0)]) 2), #[]⟩
def d3 (P : Params) : List DictEntry := [
en P "__name__" 165 (sv "law_sz0042_01" 1423),
en P "__doc__" 166 (.none),
en P "__package__" 167 (.none),
en P "__loader__" 168 (.builtin "__main__.__loader__#opaque"),
en P "__spec__" 169 (.none),
en P "__annotations__" 170 (.ref 6),
en P "__builtins__" 171 (.ref 4),
en P "__file__" 173 (sv "/claim/cut.py" 172),
en P "__cached__" 174 (.none),
en P "_wall" 193 (.ref 21),
en P "F77Error" 224 (.ref 38),
en P "CheckFault" 240 (.ref 51),
en P "RunFault" 256 (.ref 63),
en P "StopRun" 272 (.ref 75),
en P "TooLong" 297 (.ref 94),
en P "INTEGER" 301 (.int 0 300),
en P "REAL" 303 (.int 1 302),
en P "DOUBLE" 305 (.int 2 304),
en P "COMPLEX" 307 (.int 3 306),
en P "LOGICAL" 309 (.int 4 308),
en P "CHARACTER" 311 (.int 5 310),
en P "units_of" 318 (.ref 103),
en P "SECOND" 322 (.int 6 321),
en P "LABEL" 324 (.int 7 323),
en P "Memory" 380 (.ref 141),
en P "need_units" 389 (.ref 152),
en P "read_cell" 399 (.ref 159),
en P "load_number" 409 (.ref 166),
en P "store_number" 419 (.ref 173),
en P "load_text" 429 (.ref 180),
en P "store_text" 439 (.ref 187),
en P "pad" 447 (.ref 194),
en P "unit_size" 455 (.ref 201),
en P "element_place" 472 (.ref 208),
en P "sub_place" 483 (.ref 215),
en P "fit_int" 494 (.ref 222),
en P "int_add" 503 (.ref 229),
en P "int_sub" 512 (.ref 236),
en P "int_mul" 521 (.ref 243),
en P "cut_quotient" 530 (.ref 250),
en P "int_div" 539 (.ref 257),
en P "inverse_power" 547 (.ref 264),
en P "int_power" 558 (.ref 271),
en P "order_of" 566 (.ref 278),
en P "holds" 574 (.ref 285),
en P "int_binary" 585 (.ref 292),
en P "NOUGHT" 590 (.ref 293),
en P "GUARD" 592 (.int 8 591),
en P "EXACT_POWER" 594 (.int 64 593),
en P "count_digits" 602 (.ref 300),
en P "strip_zeros" 610 (.ref 307),
en P "round_digits" 623 (.ref 314),
en P "round_real" 634 (.ref 321),
en P "exact_add" 643 (.ref 328),
en P "exact_mul" 651 (.ref 335),
en P "real_neg" 658 (.ref 342),
en P "quotient" 672 (.ref 349),
en P "real_add" 684 (.ref 356),
en P "real_sub" 696 (.ref 363),
en P "real_mul" 708 (.ref 370),
en P "real_div" 720 (.ref 377),
en P "real_compare" 729 (.ref 384),
en P "real_to_int" 739 (.ref 391),
en P "raised" 749 (.ref 398),
en P "real_power" 761 (.ref 405),
en P "digits_of" 769 (.ref 412),
en P "real_binary" 782 (.ref 419),
en P "is_zero" 791 (.ref 426),
en P "trip_count" 806 (.ref 433),
en P "Run" 857 (.ref 450),
en P "evaluate" 865 (.ref 461),
en P "named_place" 874 (.ref 468),
en P "bound_of" 882 (.ref 475),
en P "part_place" 892 (.ref 482),
en P "place_of" 898 (.ref 487),
en P "eval_const" 906 (.ref 494),
en P "eval_place" 914 (.ref 501),
en P "reckon" 925 (.ref 508),
en P "eval_binary" 935 (.ref 515),
en P "eval_compare" 945 (.ref 522),
en P "plain_expressions" 953 (.ref 529),
en P "Flow" 987 (.ref 546),
en P "note_label" 996 (.ref 557),
en P "note_arm" 1010 (.ref 564),
en P "open_arm" 1017 (.ref 571),
en P "note_ends" 1031 (.ref 578),
en P "flow_of" 1044 (.ref 585),
en P "leads_in" 1050 (.ref 590),
en P "sign_of" 1057 (.ref 597),
en P "flow_for" 1067 (.ref 604),
en P "execute" 1077 (.ref 611),
en P "count_steps" 1085 (.ref 618),
en P "count_step" 1092 (.ref 625),
en P "run_unit" 1104 (.ref 632),
en P "jump_to" 1114 (.ref 639),
en P "store_value" 1123 (.ref 646),
en P "do_assign" 1134 (.ref 653),
en P "label_place" 1143 (.ref 660),
en P "do_setlabel" 1153 (.ref 667),
en P "label_in" 1162 (.ref 674),
en P "assign_statements" 1168 (.ref 681),
en P "do_goto" 1178 (.ref 688),
en P "do_cgoto" 1189 (.ref 695),
en P "do_agoto" 1201 (.ref 702),
en P "do_aif" 1212 (.ref 709),
en P "do_lif" 1222 (.ref 716),
en P "do_if" 1235 (.ref 723),
en P "do_arm" 1245 (.ref 730),
en P "do_on" 1255 (.ref 737),
en P "do_do" 1272 (.ref 744),
en P "step_loops" 1288 (.ref 751),
en P "do_return" 1298 (.ref 758),
en P "do_end" 1308 (.ref 765),
en P "do_stop" 1318 (.ref 772),
en P "control_statements" 1324 (.ref 779),
en P "Limits" 1377 (.ref 797),
en P "UnitTree" 1422 (.ref 818),
en P "_law_cubic" 1431 (.ref 823),
en P "_law_asked" 1441 (.ref 830),
en P "_law_real" 1448 (.ref 837),
en P "_law_op" 1457 (.ref 844),
en P "_law_lay" 1465 (.ref 851),
en P "_law_horner" 1474 (.ref 858),
en P "_law_rounds" 1483 (.ref 865),
en P "_law_rule" 1489 (.ref 870),
en P "_law_gain" 1500 (.ref 877),
en P "law" 1506 (.ref 882)]
def o3 (P : Params) : Obj := ⟨.type "dict", none, .dict (d3 P).toArray 127, #[]⟩
def o4 (P : Params) : Obj := boot_o_4 P
def o5 (P : Params) : Obj := boot_o_5 P
def o6 (P : Params) : Obj := boot_o_6 P
def o7 (P : Params) : Obj := boot_o_7 P
def o8 (P : Params) : Obj := boot_o_8 P
def o9 (P : Params) : Obj := boot_o_9 P
def o10 (P : Params) : Obj := boot_o_10 P
noncomputable def f12 : List Value := [.int 1 0, .int 0 0, .ref 20, .int 5 0, .int 0 0, .ref 27, .int 10 0, .int 0 0, .ref 47, .int 12 0, .int 0 0, .ref 59, .int 14 0, .int 0 0, .ref 71, .int 16 0, .int 0 0, .ref 83, .int 28 0, .int 0 0, .ref 102, .int 37 0, .int 0 0, .ref 109, .int 56 0, .int 0 0, .ref 151, .int 59 0, .int 0 0, .ref 158, .int 64 0, .int 0 0, .ref 165, .int 72 0, .int 0 0, .ref 172, .int 81 0, .int 0 0, .ref 179, .int 87 0, .int 0 0, .ref 186, .int 91 0, .int 0 0, .ref 193, .int 93 0, .int 0 0, .ref 200, .int 97 0, .int 0 0, .ref 207, .int 111 0, .int 0 0, .ref 214, .int 118 0, .int 0 0, .ref 221, .int 123 0, .int 0 0, .ref 228, .int 125 0, .int 0 0, .ref 235, .int 127 0, .int 0 0, .ref 242, .int 129 0, .int 0 0, .ref 249, .int 132 0, .int 0 0, .ref 256, .int 136 0, .int 0 0, .ref 263, .int 142 0, .int 0 0, .ref 270, .int 151 0, .int 0 0, .ref 277, .int 155 0, .int 0 0, .ref 284, .int 169 0, .int 0 0, .ref 291, .int 185 0, .int 0 0, .ref 299, .int 195 0, .int 0 0, .ref 306, .int 202 0, .int 0 0, .ref 313, .int 212 0, .int 0 0, .ref 320, .int 220 0, .int 0 0, .ref 327, .int 227 0, .int 0 0, .ref 334, .int 229 0, .int 0 0, .ref 341, .int 231 0, .int 0 0, .ref 348, .int 238 0, .int 0 0, .ref 355, .int 241 0, .int 0 0, .ref 362, .int 244 0, .int 0 0, .ref 369, .int 247 0, .int 0 0, .ref 376, .int 252 0, .int 0 0, .ref 383, .int 257 0, .int 0 0, .ref 390, .int 263 0, .int 0 0, .ref 397, .int 273 0, .int 0 0, .ref 404, .int 280 0, .int 0 0, .ref 411, .int 282 0, .int 0 0, .ref 418, .int 297 0, .int 0 0, .ref 425, .int 301 0, .int 0 0, .ref 432, .int 311 0, .int 0 0, .ref 439, .int 330 0, .int 0 0, .ref 460, .int 334 0, .int 0 0, .ref 467, .int 339 0, .int 0 0, .ref 474, .int 343 0, .int 0 0, .ref 481, .int 347 0, .int 0 0, .ref 486, .int 354 0, .int 0 0, .ref 493, .int 356 0, .int 0 0, .ref 500, .int 358 0, .int 0 0, .ref 507, .int 362 0, .int 0 0, .ref 514, .int 366 0, .int 0 0, .ref 521, .int 370 0, .int 0 0, .ref 528, .int 378 0, .int 0 0, .ref 535, .int 386 0, .int 0 0, .ref 556, .int 392 0, .int 0 0, .ref 563, .int 408 0, .int 0 0, .ref 570, .int 412 0, .int 0 0, .ref 577, .int 421 0, .int 0 0, .ref 584, .int 442 0, .int 0 0, .ref 589, .int 447 0, .int 0 0, .ref 596, .int 454 0, .int 0 0, .ref 603, .int 458 0, .int 0 0, .ref 610, .int 462 0, .int 0 0, .ref 617, .int 466 0, .int 0 0, .ref 624, .int 468 0, .int 0 0, .ref 631, .int 483 0, .int 0 0, .ref 638, .int 488 0, .int 0 0, .ref 645, .int 490 0, .int 0 0, .ref 652, .int 494 0, .int 0 0, .ref 659, .int 498 0, .int 0 0, .ref 666, .int 501 0, .int 0 0, .ref 673, .int 506 0, .int 0 0, .ref 680, .int 508 0, .int 0 0, .ref 687, .int 510 0, .int 0 0, .ref 694, .int 515 0, .int 0 0, .ref 701, .int 523 0, .int 0 0, .ref 708, .int 526 0, .int 0 0, .ref 715, .int 530 0, .int 0 0, .ref 722, .int 538 0, .int 0 0, .ref 729, .int 540 0, .int 0 0, .ref 736, .int 542 0, .int 0 0, .ref 743, .int 556 0, .int 0 0, .ref 750, .int 569 0, .int 0 0, .ref 757, .int 573 0, .int 0 0, .ref 764, .int 575 0, .int 0 0, .ref 771, .int 577 0, .int 0 0, .ref 778, .int 580 0, .int 0 0, .ref 785, .int 592 0, .int 0 0, .ref 807, .int 611 0, .int 0 0, .ref 829, .int 614 0, .int 0 0, .ref 836, .int 618 0, .int 0 0, .ref 843, .int 620 0, .int 0 0, .ref 850, .int 622 0, .int 0 0, .ref 857, .int 627 0, .int 0 0, .ref 864, .int 630 0, .int 0 0, .ref 869, .int 641 0, .int 0 0, .ref 876, .int 643 0, .int 0 0, .ref 881]
noncomputable def o12 : Obj := ⟨.none, none, .fields f12.toArray, #[]⟩
def o13 : Obj := m1 "<module>" 182 1 11 185
def o14 : Obj := m2 13 3 "__main__" 164
def o17 : Obj := m4 "k" 190
def o19 : Obj := m5 0 "_wall"
def o20 : Obj := m6 "_wall" 187 "_wall" 1 1 15 191 192
def o21 : Obj := m7 0 "_wall" "__main__" 164 20
def o22 : Obj := tp [.type "Exception"]
def o24 (P : Params) : Obj := m9 P 203 "f77.errors" 194 "F77Error" 5 215 35 217
def o26 : Obj := m10 7 34
def o27 : Obj := m1 "F77Error" 198 5 25 201
def o28 : Obj := m2 27 24 "f77.errors" 194
def o31 : Obj := m11 "self" 211 "text"
noncomputable def o33 : Obj := mkFR2 (stIn 2 0) (.ofString "F77Error.__init__")
def o34 : Obj := m6 "__init__" 208 "F77Error.__init__" 7 2 29 213 214
noncomputable def o35 : Obj := mkFn2 (stIn 2 0) (.ofString "F77Error.__init__") (.ofString "f77.errors") 194 34
def o36 : Obj := m4 "text" 216
def o37 (P : Params) : Obj := ⟨.type "dict", none, (.dict (List.toArray [en P "__module__" 203 (sv "f77.errors" 194), en P "__firstlineno__" 207 (.int 5 206), en P "__init__" 215 (.ref 35), en P "__static_attributes__" 217 (.ref 36), en P "__weakref__" 219 (.ref 39), en P "__doc__" 220 (.none)]) 3), #[]⟩
def o38 : Obj := ⟨.type "type", none, (.cls { name := (.ofString "F77Error"), bases := [.type "Exception"], mro := [.ref 38, .type "Exception", .type "BaseException", .type "object"], ns := 37, qualname := (.ofString "F77Error"), hasDict := true, slotNames := [], subclasses := [.ref 51, .ref 63, .ref 75, .ref 94], hasDel := false, abstract := false }), #[some (.ref 22), none, some (sv "F77Error" 196), some (sv "F77Error" 204), some (.builtin "Exception.__new__"), some (.bool true)]⟩
def o39 : Obj := m12 218 38
def o40 : Obj := m13 38
def o41 : Obj := m14 38
def o44 (P : Params) : Obj := m16 P 232 "CheckFault" 10 49
def o47 : Obj := m1 "CheckFault" 227 10 45 230
def o48 : Obj := m2 47 44 "f77.errors" 194
def o50 (P : Params) : Obj := m17 P 232 10 49
def o51 : Obj := m18 "CheckFault" 51 50 42 225
def o52 : Obj := m13 51
def o53 : Obj := m14 51
def o56 (P : Params) : Obj := m16 P 248 "RunFault" 12 61
def o59 : Obj := m1 "RunFault" 243 12 57 246
def o60 : Obj := m2 59 56 "f77.errors" 194
def o62 (P : Params) : Obj := m17 P 248 12 61
def o63 : Obj := m18 "RunFault" 63 62 54 241
def o64 : Obj := m13 63
def o65 : Obj := m14 63
def o68 (P : Params) : Obj := m16 P 264 "StopRun" 14 73
def o71 : Obj := m1 "StopRun" 259 14 69 262
def o72 : Obj := m2 71 68 "f77.errors" 194
def o74 (P : Params) : Obj := m17 P 264 14 73
def o75 : Obj := m18 "StopRun" 75 74 66 257
def o76 : Obj := m13 75
def o77 : Obj := m14 75
def o80 (P : Params) : Obj := m9 P 280 "f77.errors" 194 "TooLong" 16 292 91 294
def o82 : Obj := m10 18 90
def o83 : Obj := m1 "TooLong" 275 16 81 278
def o84 : Obj := m2 83 80 "f77.errors" 194
def o87 : Obj := m11 "self" 288 "steps"
noncomputable def o89 : Obj := mkFR2 (stIn 6 0) (.ofString "TooLong.__init__")
def o90 : Obj := m6 "__init__" 285 "TooLong.__init__" 18 2 85 290 291
noncomputable def o91 : Obj := mkFn2 (stIn 6 0) (.ofString "TooLong.__init__") (.ofString "f77.errors") 194 90
def o92 : Obj := m4 "steps" 293
def o93 (P : Params) : Obj := ⟨.type "dict", none, (.dict (List.toArray [en P "__module__" 280 (sv "f77.errors" 194), en P "__firstlineno__" 284 (.int 16 283), en P "__init__" 292 (.ref 91), en P "__static_attributes__" 294 (.ref 92), en P "__doc__" 295 (.none)]) 2), #[]⟩
def o94 : Obj := m18 "TooLong" 94 93 78 273
def o95 : Obj := m13 94
def o96 : Obj := m14 94
def o99 : Obj := m4 "kind" 315
def o101 : Obj := mkFR (stAt 14) rfl (.ofString "units_of")
def o102 : Obj := m6 "units_of" 312 "units_of" 28 1 97 316 317
def o103 : Obj := mkFn (stAt 14) rfl (.ofString "units_of") (.ofString "f77.kinds") 298 102
def o106 (P : Params) : Obj := ⟨.type "dict", none, (.dict (List.toArray [en P "__module__" 332 (sv "f77.memory" 319), en P "__qualname__" 334 (sv "Memory" 333), en P "__firstlineno__" 336 (.int 37 335), en P "__init__" 345 (.ref 117), en P "load" 353 (.ref 124), en P "store" 362 (.ref 131), en P "undefine" 370 (.ref 138), en P "__static_attributes__" 373 (.ref 139)]) 8), #[]⟩
def o108 : Obj := fi (.none) [.int 39 0, .int 4 0, .ref 116, .int 43 0, .int 4 0, .ref 123, .int 48 0, .int 4 0, .ref 130, .int 54 0, .int 4 0, .ref 137]
def o109 : Obj := m1 "Memory" 327 37 107 330
def o110 : Obj := m2 109 106 "f77.memory" 319
def o113 : Obj := m19 "self" 340 "numeric" "characters"
def o115 : Obj := mkFR (stIn 18 0) rfl (.ofString "Memory.__init__")
def o116 : Obj := m6 "__init__" 337 "Memory.__init__" 39 3 111 343 344
def o117 : Obj := mkFn (stIn 18 0) rfl (.ofString "Memory.__init__") (.ofString "f77.memory") 319 116
def o120 : Obj := m11 "self" 349 "place"
def o122 : Obj := mkFR (stIn 18 1) rfl (.ofString "Memory.load")
def o123 : Obj := m6 "load" 346 "Memory.load" 43 2 118 351 352
def o124 : Obj := mkFn (stIn 18 1) rfl (.ofString "Memory.load") (.ofString "f77.memory") 319 123
def o127 : Obj := m19 "self" 357 "place" "value"
def o129 : Obj := mkFR (stIn 18 2) rfl (.ofString "Memory.store")
def o130 : Obj := m6 "store" 354 "Memory.store" 48 3 125 360 361
def o131 : Obj := mkFn (stIn 18 2) rfl (.ofString "Memory.store") (.ofString "f77.memory") 319 130
def o134 : Obj := m11 "self" 366 "place"
noncomputable def o136 : Obj := mkFR2 (stIn 18 3) (.ofString "Memory.undefine")
def o137 : Obj := m6 "undefine" 363 "Memory.undefine" 54 2 132 368 369
noncomputable def o138 : Obj := mkFn2 (stIn 18 3) (.ofString "Memory.undefine") (.ofString "f77.memory") 319 137
def o139 : Obj := m11 "characters" 371 "numeric"
def o140 (P : Params) : Obj := ⟨.type "dict", none, (.dict (List.toArray [en P "__module__" 332 (sv "f77.memory" 319), en P "__firstlineno__" 336 (.int 37 335), en P "__init__" 345 (.ref 117), en P "load" 353 (.ref 124), en P "store" 362 (.ref 131), en P "undefine" 370 (.ref 138), en P "__static_attributes__" 373 (.ref 139), en P "__dict__" 375 (.ref 142), en P "__weakref__" 377 (.ref 143), en P "__doc__" 378 (.none)]) 4), #[]⟩
def o141 : Obj := m20 "Memory" 141 140 325
def o142 : Obj := m21 374 141
def o143 : Obj := m12 376 141
def o144 : Obj := m13 141
def o145 : Obj := m14 141
def o148 : Obj := m19 "cells" 384 "address" "count"
def o150 : Obj := mkFR (stAt 19) rfl (.ofString "need_units")
def o151 : Obj := m6 "need_units" 381 "need_units" 56 3 146 387 388
def o152 : Obj := mkFn (stAt 19) rfl (.ofString "need_units") (.ofString "f77.memory") 319 151
def o155 : Obj := m22 "cells" 393 "address" "tag" "cell"
def o157 : Obj := mkFR (stAt 20) rfl (.ofString "read_cell")
def o158 : Obj := m6 "read_cell" 390 "read_cell" 59 3 153 397 398
def o159 : Obj := mkFn (stAt 20) rfl (.ofString "read_cell") (.ofString "f77.memory") 319 158
def o162 : Obj := m22 "cells" 403 "kind" "address" "value"
def o164 : Obj := mkFR (stAt 21) rfl (.ofString "load_number")
def o165 : Obj := m6 "load_number" 400 "load_number" 64 3 160 407 408
def o166 : Obj := mkFn (stAt 21) rfl (.ofString "load_number") (.ofString "f77.memory") 319 165
def o169 : Obj := m22 "cells" 413 "kind" "address" "value"
def o171 : Obj := mkFR (stAt 22) rfl (.ofString "store_number")
def o172 : Obj := m6 "store_number" 410 "store_number" 72 4 167 417 418
def o173 : Obj := mkFn (stAt 22) rfl (.ofString "store_number") (.ofString "f77.memory") 319 172
def o176 : Obj := m22 "cells" 423 "address" "length" "signs"
def o178 : Obj := m5 23 "load_text"
def o179 : Obj := m6 "load_text" 420 "load_text" 81 3 174 427 428
def o180 : Obj := m7 23 "load_text" "f77.memory" 319 179
def o183 : Obj := m22 "cells" 433 "address" "text" "k"
def o185 : Obj := m5 24 "store_text"
def o186 : Obj := m6 "store_text" 430 "store_text" 87 3 181 437 438
def o187 : Obj := m7 24 "store_text" "f77.memory" 319 186
def o190 : Obj := m11 "text" 443 "length"
def o192 : Obj := m5 25 "pad"
def o193 : Obj := m6 "pad" 440 "pad" 91 2 188 445 446
def o194 : Obj := m7 25 "pad" "f77.memory" 319 193
def o197 : Obj := m11 "kind" 451 "length"
def o199 : Obj := m5 26 "unit_size"
def o200 : Obj := m6 "unit_size" 448 "unit_size" 93 2 195 453 454
def o201 : Obj := m7 26 "unit_size" "f77.memory" 319 200
def o204 : Obj := m23 "place" 459 "subscripts" "kind" "address" "length" "dims" "offset" "stride" "k" "low" "high"
def o206 : Obj := m5 27 "element_place"
def o207 : Obj := m6 "element_place" 456 "element_place" 97 2 202 470 471
def o208 : Obj := m7 27 "element_place" "f77.memory" 319 207
def o211 : Obj := m24 "place" 476 "lo" "hi" "first" "last"
def o213 : Obj := m5 28 "sub_place"
def o214 : Obj := m6 "sub_place" 473 "sub_place" 111 3 209 481 482
def o215 : Obj := m7 28 "sub_place" "f77.memory" 319 214
def o218 : Obj := m19 "n" 489 "width" "most"
def o220 : Obj := mkFR (stAt 30) rfl (.ofString "fit_int")
def o221 : Obj := m6 "fit_int" 486 "fit_int" 118 2 216 492 493
def o222 : Obj := mkFn (stAt 30) rfl (.ofString "fit_int") (.ofString "f77.ints") 484 221
def o225 : Obj := m19 "x" 498 "y" "width"
def o227 : Obj := mkFR (stAt 31) rfl (.ofString "int_add")
def o228 : Obj := m6 "int_add" 495 "int_add" 123 3 223 501 502
def o229 : Obj := mkFn (stAt 31) rfl (.ofString "int_add") (.ofString "f77.ints") 484 228
def o232 : Obj := m19 "x" 507 "y" "width"
def o234 : Obj := mkFR (stAt 32) rfl (.ofString "int_sub")
def o235 : Obj := m6 "int_sub" 504 "int_sub" 125 3 230 510 511
def o236 : Obj := mkFn (stAt 32) rfl (.ofString "int_sub") (.ofString "f77.ints") 484 235
def o239 : Obj := m19 "x" 516 "y" "width"
def o241 : Obj := m5 33 "int_mul"
def o242 : Obj := m6 "int_mul" 513 "int_mul" 127 3 237 519 520
def o243 : Obj := m7 33 "int_mul" "f77.ints" 484 242
def o246 : Obj := m19 "x" 525 "y" "found"
def o248 : Obj := mkFR (stAt 34) rfl (.ofString "cut_quotient")
def o249 : Obj := m6 "cut_quotient" 522 "cut_quotient" 129 2 244 528 529
def o250 : Obj := mkFn (stAt 34) rfl (.ofString "cut_quotient") (.ofString "f77.ints") 484 249
def o253 : Obj := m19 "x" 534 "y" "width"
def o255 : Obj := mkFR (stAt 35) rfl (.ofString "int_div")
def o256 : Obj := m6 "int_div" 531 "int_div" 132 3 251 537 538
def o257 : Obj := mkFn (stAt 35) rfl (.ofString "int_div") (.ofString "f77.ints") 484 256
def o260 : Obj := m11 "x" 543 "n"
def o262 : Obj := m5 36 "inverse_power"
def o263 : Obj := m6 "inverse_power" 540 "inverse_power" 136 2 258 545 546
def o264 : Obj := m7 36 "inverse_power" "f77.ints" 484 263
def o267 : Obj := m24 "x" 551 "n" "width" "found" "turn"
def o269 : Obj := m5 37 "int_power"
def o270 : Obj := m6 "int_power" 548 "int_power" 142 3 265 556 557
def o271 : Obj := m7 37 "int_power" "f77.ints" 484 270
def o274 : Obj := m11 "x" 562 "y"
def o276 : Obj := mkFR (stAt 38) rfl (.ofString "order_of")
def o277 : Obj := m6 "order_of" 559 "order_of" 151 2 272 564 565
def o278 : Obj := mkFn (stAt 38) rfl (.ofString "order_of") (.ofString "f77.ints") 484 277
def o281 : Obj := m11 "op" 570 "order"
def o283 : Obj := mkFR (stAt 39) rfl (.ofString "holds")
def o284 : Obj := m6 "holds" 567 "holds" 155 2 279 572 573
def o285 : Obj := mkFn (stAt 39) rfl (.ofString "holds") (.ofString "f77.ints") 484 284
def o288 : Obj := m24 "op" 578 "kind" "x" "y" "limits"
def o290 : Obj := mkFR (stAt 40) rfl (.ofString "int_binary")
def o291 : Obj := m6 "int_binary" 575 "int_binary" 169 5 286 583 584
def o292 : Obj := mkFn (stAt 40) rfl (.ofString "int_binary") (.ofString "f77.ints") 484 291
def o293 : Obj := tp [.int 0 588, .int 0 589]
def o296 : Obj := m11 "n" 598 "count"
def o298 : Obj := mkFR (stAt 45) rfl (.ofString "count_digits")
def o299 : Obj := m6 "count_digits" 595 "count_digits" 185 1 294 600 601
def o300 : Obj := mkFn (stAt 45) rfl (.ofString "count_digits") (.ofString "f77.reals") 586 299
def o303 : Obj := m11 "m" 606 "e"
def o305 : Obj := mkFR (stAt 46) rfl (.ofString "strip_zeros")
def o306 : Obj := m6 "strip_zeros" 603 "strip_zeros" 195 2 301 608 609
def o307 : Obj := mkFn (stAt 46) rfl (.ofString "strip_zeros") (.ofString "f77.reals") 586 306
def o310 : Obj := m25 "m" 614 "e" "digits" "drop" "power" "kept" "rest"
def o312 : Obj := mkFR (stAt 47) rfl (.ofString "round_digits")
def o313 : Obj := m6 "round_digits" 611 "round_digits" 202 3 308 621 622
def o314 : Obj := mkFn (stAt 47) rfl (.ofString "round_digits") (.ofString "f77.reals") 586 313
def o317 : Obj := m24 "m" 627 "e" "digits" "top" "lead"
def o319 : Obj := mkFR (stAt 48) rfl (.ofString "round_real")
def o320 : Obj := m6 "round_real" 624 "round_real" 212 4 315 632 633
def o321 : Obj := mkFn (stAt 48) rfl (.ofString "round_real") (.ofString "f77.reals") 586 320
def o324 : Obj := m19 "x" 638 "y" "low"
def o326 : Obj := mkFR (stAt 49) rfl (.ofString "exact_add")
def o327 : Obj := m6 "exact_add" 635 "exact_add" 220 2 322 641 642
def o328 : Obj := mkFn (stAt 49) rfl (.ofString "exact_add") (.ofString "f77.reals") 586 327
def o331 : Obj := m11 "x" 647 "y"
def o333 : Obj := mkFR (stAt 50) rfl (.ofString "exact_mul")
def o334 : Obj := m6 "exact_mul" 644 "exact_mul" 227 2 329 649 650
def o335 : Obj := mkFn (stAt 50) rfl (.ofString "exact_mul") (.ofString "f77.reals") 586 334
def o338 : Obj := m4 "x" 655
def o340 : Obj := mkFR (stAt 51) rfl (.ofString "real_neg")
def o341 : Obj := m6 "real_neg" 652 "real_neg" 229 1 336 656 657
def o342 : Obj := mkFn (stAt 51) rfl (.ofString "real_neg") (.ofString "f77.reals") 586 341
def o345 : Obj := m26 "over" 662 "under" "e" "digits" "shift" "kept" "rest" "m"
def o347 : Obj := mkFR (stAt 52) rfl (.ofString "quotient")
def o348 : Obj := m6 "quotient" 659 "quotient" 231 4 343 670 671
def o349 : Obj := mkFn (stAt 52) rfl (.ofString "quotient") (.ofString "f77.reals") 586 348
def o352 : Obj := m27 "x" 676 "y" "digits" "top" "m" "e"
def o354 : Obj := mkFR (stAt 53) rfl (.ofString "real_add")
def o355 : Obj := m6 "real_add" 673 "real_add" 238 4 350 682 683
def o356 : Obj := mkFn (stAt 53) rfl (.ofString "real_add") (.ofString "f77.reals") 586 355
def o359 : Obj := m27 "x" 688 "y" "digits" "top" "m" "e"
def o361 : Obj := mkFR (stAt 54) rfl (.ofString "real_sub")
def o362 : Obj := m6 "real_sub" 685 "real_sub" 241 4 357 694 695
def o363 : Obj := mkFn (stAt 54) rfl (.ofString "real_sub") (.ofString "f77.reals") 586 362
def o366 : Obj := m27 "x" 700 "y" "digits" "top" "m" "e"
def o368 : Obj := mkFR (stAt 55) rfl (.ofString "real_mul")
def o369 : Obj := m6 "real_mul" 697 "real_mul" 244 4 364 706 707
def o370 : Obj := mkFn (stAt 55) rfl (.ofString "real_mul") (.ofString "f77.reals") 586 369
def o373 : Obj := m27 "x" 712 "y" "digits" "top" "m" "e"
def o375 : Obj := mkFR (stAt 56) rfl (.ofString "real_div")
def o376 : Obj := m6 "real_div" 709 "real_div" 247 4 371 718 719
def o377 : Obj := mkFn (stAt 56) rfl (.ofString "real_div") (.ofString "f77.reals") 586 376
def o380 : Obj := m19 "x" 724 "y" "m"
def o382 : Obj := m5 57 "real_compare"
def o383 : Obj := m6 "real_compare" 721 "real_compare" 252 2 378 727 728
def o384 : Obj := m7 57 "real_compare" "f77.reals" 586 383
def o387 : Obj := m22 "x" 733 "m" "e" "found"
def o389 : Obj := m5 58 "real_to_int"
def o390 : Obj := m6 "real_to_int" 730 "real_to_int" 257 1 385 737 738
def o391 : Obj := m7 58 "real_to_int" "f77.reals" 586 390
def o394 : Obj := m22 "x" 743 "n" "digits" "found"
def o396 : Obj := m5 59 "raised"
def o397 : Obj := m6 "raised" 740 "raised" 263 3 392 747 748
def o398 : Obj := m7 59 "raised" "f77.reals" 586 397
def o401 : Obj := m27 "x" 753 "n" "digits" "top" "m" "e"
def o403 : Obj := m5 60 "real_power"
def o404 : Obj := m6 "real_power" 750 "real_power" 273 4 399 759 760
def o405 : Obj := m7 60 "real_power" "f77.reals" 586 404
def o408 : Obj := m11 "kind" 765 "limits"
def o410 : Obj := mkFR (stAt 61) rfl (.ofString "digits_of")
def o411 : Obj := m6 "digits_of" 762 "digits_of" 280 2 406 767 768
def o412 : Obj := mkFn (stAt 61) rfl (.ofString "digits_of") (.ofString "f77.reals") 586 411
def o415 : Obj := m25 "op" 773 "kind" "x" "y" "limits" "digits" "top"
def o417 : Obj := mkFR (stAt 62) rfl (.ofString "real_binary")
def o418 : Obj := m6 "real_binary" 770 "real_binary" 282 5 413 780 781
def o419 : Obj := mkFn (stAt 62) rfl (.ofString "real_binary") (.ofString "f77.reals") 586 418
def o422 : Obj := m4 "value" 788
def o424 : Obj := mkFR (stAt 64) rfl (.ofString "is_zero")
def o425 : Obj := m6 "is_zero" 785 "is_zero" 297 1 420 789 790
def o426 : Obj := mkFn (stAt 64) rfl (.ofString "is_zero") (.ofString "f77.counts") 783 425
def o429 : Obj := tp [sv "kind" 795, sv "first" 796, sv "last" 797, sv "step" 798, sv "operations" 799, sv "limits" 800, sv "reckon" 801, sv "span" 802, sv "count" 803]
def o431 : Obj := mkFR (stAt 65) rfl (.ofString "trip_count")
def o432 : Obj := m6 "trip_count" 792 "trip_count" 301 6 427 804 805
def o433 : Obj := mkFn (stAt 65) rfl (.ofString "trip_count") (.ofString "f77.counts") 783 432
def o436 (P : Params) : Obj := m9 P 816 "f77.plainexpr" 807 "Run" 311 833 447 850
def o438 : Obj := m10 313 446
def o439 : Obj := m1 "Run" 811 311 437 814
def o440 : Obj := m2 439 436 "f77.plainexpr" 807
def o443 : Obj := m25 "self" 824 "memory" "limits" "units" "world" "expressions" "statements"
def o445 : Obj := mkFR (stIn 67 0) rfl (.ofString "Run.__init__")
def o446 : Obj := m6 "__init__" 821 "Run.__init__" 313 7 441 831 832
def o447 : Obj := mkFn (stIn 67 0) rfl (.ofString "Run.__init__") (.ofString "f77.plainexpr") 807 446
def o448 : Obj := tp [sv "active" 834, sv "clears" 835, sv "depth" 836, sv "expressions" 837, sv "flows" 838, sv "frame" 839, sv "library" 840, sv "limits" 841, sv "loops" 842, sv "memory" 843, sv "operations" 844, sv "places" 845, sv "statements" 846, sv "steps" 847, sv "units" 848, sv "world" 849]
def o449 (P : Params) : Obj := m28 P 816 "f77.plainexpr" 807 311 833 447 850
def o450 : Obj := m20 "Run" 450 449 809
def o451 : Obj := m21 851 450
def o452 : Obj := m12 853 450
def o453 : Obj := m13 450
def o454 : Obj := m14 450
def o457 : Obj := m11 "run" 861 "tree"
def o459 : Obj := mkFR (stAt 68) rfl (.ofString "evaluate")
def o460 : Obj := m6 "evaluate" 858 "evaluate" 330 2 455 863 864
def o461 : Obj := mkFn (stAt 68) rfl (.ofString "evaluate") (.ofString "f77.plainexpr") 807 460
def o464 : Obj := m19 "run" 869 "name" "found"
def o466 : Obj := mkFR (stAt 69) rfl (.ofString "named_place")
def o467 : Obj := m6 "named_place" 866 "named_place" 334 2 462 872 873
def o468 : Obj := mkFn (stAt 69) rfl (.ofString "named_place") (.ofString "f77.plainexpr") 807 467
def o471 : Obj := m11 "run" 878 "tree"
def o473 : Obj := m5 70 "bound_of"
def o474 : Obj := m6 "bound_of" 875 "bound_of" 339 2 469 880 881
def o475 : Obj := m7 70 "bound_of" "f77.plainexpr" 807 474
def o478 : Obj := m22 "run" 886 "tree" "base" "low"
def o480 : Obj := m5 71 "part_place"
def o481 : Obj := m6 "part_place" 883 "part_place" 343 2 476 890 891
def o482 : Obj := m7 71 "part_place" "f77.plainexpr" 807 481
def o485 : Obj := mkFR (stAt 72) rfl (.ofString "place_of")
def o486 : Obj := m29 "place_of" 893 347 2 483 896
def o487 : Obj := mkFn (stAt 72) rfl (.ofString "place_of") (.ofString "f77.plainexpr") 807 486
def o490 : Obj := m11 "run" 902 "tree"
def o492 : Obj := mkFR (stAt 73) rfl (.ofString "eval_const")
def o493 : Obj := m6 "eval_const" 899 "eval_const" 354 2 488 904 905
def o494 : Obj := mkFn (stAt 73) rfl (.ofString "eval_const") (.ofString "f77.plainexpr") 807 493
def o497 : Obj := m11 "run" 910 "tree"
def o499 : Obj := mkFR (stAt 74) rfl (.ofString "eval_place")
def o500 : Obj := m6 "eval_place" 907 "eval_place" 356 2 495 912 913
def o501 : Obj := mkFn (stAt 74) rfl (.ofString "eval_place") (.ofString "f77.plainexpr") 807 500
def o504 : Obj := m24 "run" 918 "word" "kind" "left" "right"
def o506 : Obj := mkFR (stAt 75) rfl (.ofString "reckon")
def o507 : Obj := m6 "reckon" 915 "reckon" 358 5 502 923 924
def o508 : Obj := mkFn (stAt 75) rfl (.ofString "reckon") (.ofString "f77.plainexpr") 807 507
def o511 : Obj := m22 "run" 929 "tree" "left" "right"
def o513 : Obj := mkFR (stAt 76) rfl (.ofString "eval_binary")
def o514 : Obj := m6 "eval_binary" 926 "eval_binary" 362 2 509 933 934
def o515 : Obj := mkFn (stAt 76) rfl (.ofString "eval_binary") (.ofString "f77.plainexpr") 807 514
def o518 : Obj := m22 "run" 939 "tree" "left" "right"
def o520 : Obj := mkFR (stAt 77) rfl (.ofString "eval_compare")
def o521 : Obj := m6 "eval_compare" 936 "eval_compare" 366 2 516 943 944
def o522 : Obj := mkFn (stAt 77) rfl (.ofString "eval_compare") (.ofString "f77.plainexpr") 807 521
def o525 : Obj := m11 "found" 949 "word"
def o527 : Obj := mkFR (stAt 78) rfl (.ofString "plain_expressions")
def o528 : Obj := m6 "plain_expressions" 946 "plain_expressions" 370 0 523 951 952
def o529 : Obj := mkFn (stAt 78) rfl (.ofString "plain_expressions") (.ofString "f77.plainexpr") 807 528
def o532 (P : Params) : Obj := m9 P 963 "f77.flow" 954 "Flow" 378 974 543 980
def o534 : Obj := m10 380 542
def o535 : Obj := m1 "Flow" 958 378 533 961
def o536 : Obj := m2 535 532 "f77.flow" 954
def o539 : Obj := m4 "self" 971
def o541 : Obj := mkFR (stIn 80 0) rfl (.ofString "Flow.__init__")
def o542 : Obj := m6 "__init__" 968 "Flow.__init__" 380 1 537 972 973
def o543 : Obj := mkFn (stIn 80 0) rfl (.ofString "Flow.__init__") (.ofString "f77.flow") 954 542
def o544 : Obj := m24 "block_end" 975 "do_end" "ending" "labels" "next_arm"
def o545 (P : Params) : Obj := m28 P 963 "f77.flow" 954 378 974 543 980
def o546 : Obj := m20 "Flow" 546 545 956
def o547 : Obj := m21 981 546
def o548 : Obj := m12 983 546
def o549 : Obj := m13 546
def o550 : Obj := m14 546
def o553 : Obj := m19 "flow" 991 "label" "at"
def o555 : Obj := mkFR (stAt 81) rfl (.ofString "note_label")
def o556 : Obj := m6 "note_label" 988 "note_label" 386 3 551 994 995
def o557 : Obj := mkFn (stAt 81) rfl (.ofString "note_label") (.ofString "f77.flow") 954 556
def o560 : Obj := m26 "flow" 1000 "blocks" "word" "at" "statements" "arms" "last" "arm"
def o562 : Obj := m5 82 "note_arm"
def o563 : Obj := m6 "note_arm" 997 "note_arm" 392 5 558 1008 1009
def o564 : Obj := m7 82 "note_arm" "f77.flow" 954 563
def o567 : Obj := m4 "blocks" 1014
def o569 : Obj := mkFR (stAt 83) rfl (.ofString "open_arm")
def o570 : Obj := m6 "open_arm" 1011 "open_arm" 408 1 565 1015 1016
def o571 : Obj := mkFn (stAt 83) rfl (.ofString "open_arm") (.ofString "f77.flow") 954 570
def o574 : Obj := m26 "flow" 1021 "loops" "blocks" "label" "at" "target" "start" "arm"
def o576 : Obj := mkFR (stAt 84) rfl (.ofString "note_ends")
def o577 : Obj := m6 "note_ends" 1018 "note_ends" 412 5 572 1029 1030
def o578 : Obj := mkFn (stAt 84) rfl (.ofString "note_ends") (.ofString "f77.flow") 954 577
def o581 : Obj := m25 "statements" 1035 "flow" "blocks" "loops" "at" "label" "stmt"
def o583 : Obj := mkFR (stAt 85) rfl (.ofString "flow_of")
def o584 : Obj := m6 "flow_of" 1032 "flow_of" 421 1 579 1042 1043
def o585 : Obj := mkFn (stAt 85) rfl (.ofString "flow_of") (.ofString "f77.flow") 954 584
def o588 : Obj := m5 86 "leads_in"
def o589 : Obj := m29 "leads_in" 1045 442 3 586 1048
def o590 : Obj := m7 86 "leads_in" "f77.flow" 954 589
def o593 : Obj := m4 "value" 1054
def o595 : Obj := m5 87 "sign_of"
def o596 : Obj := m6 "sign_of" 1051 "sign_of" 447 1 591 1055 1056
def o597 : Obj := m7 87 "sign_of" "f77.flow" 954 596
def o600 : Obj := m11 "run" 1063 "unit"
def o602 : Obj := mkFR (stAt 89) rfl (.ofString "flow_for")
def o603 : Obj := m6 "flow_for" 1060 "flow_for" 454 2 598 1065 1066
def o604 : Obj := mkFn (stAt 89) rfl (.ofString "flow_for") (.ofString "f77.plainstmt") 1058 603
def o607 : Obj := m22 "run" 1071 "unit" "at" "stmt"
def o609 : Obj := mkFR (stAt 90) rfl (.ofString "execute")
def o610 : Obj := m6 "execute" 1068 "execute" 458 4 605 1075 1076
def o611 : Obj := mkFn (stAt 90) rfl (.ofString "execute") (.ofString "f77.plainstmt") 1058 610
def o614 : Obj := m11 "run" 1081 "many"
def o616 : Obj := mkFR (stAt 91) rfl (.ofString "count_steps")
def o617 : Obj := m6 "count_steps" 1078 "count_steps" 462 2 612 1083 1084
def o618 : Obj := mkFn (stAt 91) rfl (.ofString "count_steps") (.ofString "f77.plainstmt") 1058 617
def o621 : Obj := m4 "run" 1089
def o623 : Obj := mkFR (stAt 92) rfl (.ofString "count_step")
def o624 : Obj := m6 "count_step" 1086 "count_step" 466 1 619 1090 1091
def o625 : Obj := mkFn (stAt 92) rfl (.ofString "count_step") (.ofString "f77.plainstmt") 1058 624
def o628 : Obj := m27 "run" 1096 "unit" "start" "flow" "at" "found"
def o630 : Obj := mkFR (stAt 93) rfl (.ofString "run_unit")
def o631 : Obj := m6 "run_unit" 1093 "run_unit" 468 3 626 1102 1103
def o632 : Obj := mkFn (stAt 93) rfl (.ofString "run_unit") (.ofString "f77.plainstmt") 1058 631
def o635 : Obj := m22 "run" 1108 "unit" "label" "flow"
def o637 : Obj := m5 94 "jump_to"
def o638 : Obj := m6 "jump_to" 1105 "jump_to" 483 3 633 1112 1113
def o639 : Obj := m7 94 "jump_to" "f77.plainstmt" 1058 638
def o642 : Obj := m19 "run" 1118 "target" "value"
def o644 : Obj := mkFR (stAt 95) rfl (.ofString "store_value")
def o645 : Obj := m6 "store_value" 1115 "store_value" 488 3 640 1121 1122
def o646 : Obj := mkFn (stAt 95) rfl (.ofString "store_value") (.ofString "f77.plainstmt") 1058 645
def o649 : Obj := m24 "run" 1127 "unit" "at" "stmt" "value"
def o651 : Obj := mkFR (stAt 96) rfl (.ofString "do_assign")
def o652 : Obj := m6 "do_assign" 1124 "do_assign" 490 4 647 1132 1133
def o653 : Obj := mkFn (stAt 96) rfl (.ofString "do_assign") (.ofString "f77.plainstmt") 1058 652
def o656 : Obj := m19 "run" 1138 "name" "address"
def o658 : Obj := m5 97 "label_place"
def o659 : Obj := m6 "label_place" 1135 "label_place" 494 2 654 1141 1142
def o660 : Obj := m7 97 "label_place" "f77.plainstmt" 1058 659
def o663 : Obj := m22 "run" 1147 "unit" "at" "stmt"
def o665 : Obj := m5 98 "do_setlabel"
def o666 : Obj := m6 "do_setlabel" 1144 "do_setlabel" 498 4 661 1151 1152
def o667 : Obj := m7 98 "do_setlabel" "f77.plainstmt" 1058 666
def o670 : Obj := m19 "run" 1157 "name" "cell"
def o672 : Obj := m5 99 "label_in"
def o673 : Obj := m6 "label_in" 1154 "label_in" 501 2 668 1160 1161
def o674 : Obj := m7 99 "label_in" "f77.plainstmt" 1058 673
def o679 : Obj := mkFR (stAt 100) rfl (.ofString "assign_statements")
def o680 : Obj := m6 "assign_statements" 1163 "assign_statements" 506 0 675 1166 1167
def o681 : Obj := mkFn (stAt 100) rfl (.ofString "assign_statements") (.ofString "f77.plainstmt") 1058 680
def o684 : Obj := m22 "run" 1172 "unit" "at" "stmt"
def o686 : Obj := m5 101 "do_goto"
def o687 : Obj := m6 "do_goto" 1169 "do_goto" 508 4 682 1176 1177
def o688 : Obj := m7 101 "do_goto" "f77.plainstmt" 1058 687
def o691 : Obj := m24 "run" 1182 "unit" "at" "stmt" "number"
def o693 : Obj := m5 102 "do_cgoto"
def o694 : Obj := m6 "do_cgoto" 1179 "do_cgoto" 510 4 689 1187 1188
def o695 : Obj := m7 102 "do_cgoto" "f77.plainstmt" 1058 694
def o698 : Obj := m27 "run" 1193 "unit" "at" "stmt" "label" "goal"
def o700 : Obj := m5 103 "do_agoto"
def o701 : Obj := m6 "do_agoto" 1190 "do_agoto" 515 4 696 1199 1200
def o702 : Obj := m7 103 "do_agoto" "f77.plainstmt" 1058 701
def o705 : Obj := m24 "run" 1205 "unit" "at" "stmt" "sign"
def o707 : Obj := m5 104 "do_aif"
def o708 : Obj := m6 "do_aif" 1202 "do_aif" 523 4 703 1210 1211
def o709 : Obj := m7 104 "do_aif" "f77.plainstmt" 1058 708
def o712 : Obj := m22 "run" 1216 "unit" "at" "stmt"
def o714 : Obj := mkFR (stAt 105) rfl (.ofString "do_lif")
def o715 : Obj := m6 "do_lif" 1213 "do_lif" 526 4 710 1220 1221
def o716 : Obj := mkFn (stAt 105) rfl (.ofString "do_lif") (.ofString "f77.plainstmt") 1058 715
def o719 : Obj := m25 "run" 1226 "unit" "at" "stmt" "flow" "here" "arm"
def o721 : Obj := m5 106 "do_if"
def o722 : Obj := m6 "do_if" 1223 "do_if" 530 4 717 1233 1234
def o723 : Obj := m7 106 "do_if" "f77.plainstmt" 1058 722
def o726 : Obj := m22 "run" 1239 "unit" "at" "stmt"
def o728 : Obj := m5 107 "do_arm"
def o729 : Obj := m6 "do_arm" 1236 "do_arm" 538 4 724 1243 1244
def o730 : Obj := m7 107 "do_arm" "f77.plainstmt" 1058 729
def o733 : Obj := m22 "run" 1249 "unit" "at" "stmt"
def o735 : Obj := m5 108 "do_on"
def o736 : Obj := m6 "do_on" 1246 "do_on" 540 4 731 1253 1254
def o737 : Obj := m7 108 "do_on" "f77.plainstmt" 1058 736
def o740 : Obj := m23 "run" 1259 "unit" "at" "stmt" "flow" "kind" "first" "last" "step" "count" "end"
def o742 : Obj := mkFR (stAt 109) rfl (.ofString "do_do")
def o743 : Obj := m6 "do_do" 1256 "do_do" 542 4 738 1270 1271
def o744 : Obj := mkFn (stAt 109) rfl (.ofString "do_do") (.ofString "f77.plainstmt") 1058 743
def o747 : Obj := tp [sv "run" 1276, sv "unit" 1277, sv "flow" 1278, sv "end" 1279, sv "first" 1280, sv "start" 1281, sv "count" 1282, sv "step" 1283, sv "target" 1284, sv "place" 1285]
def o749 : Obj := mkFR (stAt 110) rfl (.ofString "step_loops")
def o750 : Obj := m6 "step_loops" 1273 "step_loops" 556 5 745 1286 1287
def o751 : Obj := mkFn (stAt 110) rfl (.ofString "step_loops") (.ofString "f77.plainstmt") 1058 750
def o754 : Obj := m22 "run" 1292 "unit" "at" "stmt"
def o756 : Obj := m5 111 "do_return"
def o757 : Obj := m6 "do_return" 1289 "do_return" 569 4 752 1296 1297
def o758 : Obj := m7 111 "do_return" "f77.plainstmt" 1058 757
def o761 : Obj := m22 "run" 1302 "unit" "at" "stmt"
def o763 : Obj := mkFR (stAt 112) rfl (.ofString "do_end")
def o764 : Obj := m6 "do_end" 1299 "do_end" 573 4 759 1306 1307
def o765 : Obj := mkFn (stAt 112) rfl (.ofString "do_end") (.ofString "f77.plainstmt") 1058 764
def o768 : Obj := m22 "run" 1312 "unit" "at" "stmt"
def o770 : Obj := m5 113 "do_stop"
def o771 : Obj := m6 "do_stop" 1309 "do_stop" 575 4 766 1316 1317
def o772 : Obj := m7 113 "do_stop" "f77.plainstmt" 1058 771
def o777 : Obj := mkFR (stAt 114) rfl (.ofString "control_statements")
def o778 : Obj := m6 "control_statements" 1319 "control_statements" 577 0 773 1322 1323
def o779 : Obj := mkFn (stAt 114) rfl (.ofString "control_statements") (.ofString "f77.plainstmt") 1058 778
def o782 (P : Params) : Obj := m9 P 1334 "f77.limits" 1325 "Limits" 580 1361 794 1370
def o784 : Obj := m10 582 793
def o785 : Obj := m1 "Limits" 1329 580 783 1332
def o786 : Obj := m2 785 782 "f77.limits" 1325
def o787 : Obj := tp [.int 32 1339, .int 7 1340, .int 15 1341, .int 38 1342, .int 1000000 1343, .int 19 1344, .int 72 1345, .int 40 1346]
def o790 : Obj := tp [sv "self" 1350, sv "width" 1351, sv "real_digits" 1352, sv "double_digits" 1353, sv "top_exponent" 1354, sv "steps" 1355, sv "continuations" 1356, sv "columns" 1357, sv "depth" 1358]
def o792 : Obj := mkFR (stIn 116 0) rfl (.ofString "Limits.__init__")
def o793 : Obj := m6 "__init__" 1347 "Limits.__init__" 582 9 788 1359 1360
def o794 : Obj := mkFn (stIn 116 0) rfl (.ofString "Limits.__init__") (.ofString "f77.limits") 1325 793 (.ref 787)
def o795 : Obj := m26 "columns" 1362 "continuations" "depth" "double_digits" "real_digits" "steps" "top_exponent" "width"
def o796 (P : Params) : Obj := m28 P 1334 "f77.limits" 1325 580 1361 794 1370
def o797 : Obj := m20 "Limits" 797 796 1327
def o798 : Obj := m21 1371 797
def o799 : Obj := m12 1373 797
def o800 : Obj := m13 797
def o801 : Obj := m14 797
def o804 (P : Params) : Obj := m9 P 1387 "f77.trees" 1378 "UnitTree" 592 1400 815 1415
def o806 : Obj := m10 594 814
def o807 : Obj := m1 "UnitTree" 1382 592 805 1385
def o808 : Obj := m2 807 804 "f77.trees" 1378
def o811 : Obj := m19 "self" 1395 "kind" "name"
def o813 : Obj := mkFR (stIn 118 0) rfl (.ofString "UnitTree.__init__")
def o814 : Obj := m6 "__init__" 1392 "UnitTree.__init__" 594 3 809 1398 1399
def o815 : Obj := mkFn (stIn 118 0) rfl (.ofString "UnitTree.__init__") (.ofString "f77.trees") 1378 814
def o816 : Obj := tp [sv "commons" 1401, sv "constants" 1402, sv "datas" 1403, sv "dummies" 1404, sv "entries" 1405, sv "equivs" 1406, sv "formats" 1407, sv "kind" 1408, sv "labels" 1409, sv "name" 1410, sv "result" 1411, sv "saves" 1412, sv "statements" 1413, sv "symbols" 1414]
def o817 (P : Params) : Obj := m28 P 1387 "f77.trees" 1378 592 1400 815 1415
def o818 : Obj := m20 "UnitTree" 818 817 1380
def o819 : Obj := m21 1416 818
def o820 : Obj := m12 1418 818
def o821 : Obj := m13 818
def o822 : Obj := m14 818
def o823 : Obj := tp [.int 11 1425, .int 4 1426, .int 10 1427, .int 16 1428, .int 17 1429, .int 34 1430]
def o826 : Obj := m22 "script" 1435 "place" "many" "chosen"
def o828 : Obj := mkFR (stAt 121) rfl (.ofString "_law_asked")
def o829 : Obj := m6 "_law_asked" 1432 "_law_asked" 611 3 824 1439 1440
def o830 : Obj := mkFn (stAt 121) rfl (.ofString "_law_asked") (.ofString "law_sz0042_01") 1423 829
def o833 : Obj := m4 "told" 1445
def o835 : Obj := mkFR (stAt 122) rfl (.ofString "_law_real")
def o836 : Obj := m6 "_law_real" 1442 "_law_real" 614 1 831 1446 1447
def o837 : Obj := mkFn (stAt 122) rfl (.ofString "_law_real") (.ofString "law_sz0042_01") 1423 836
def o840 : Obj := m19 "word" 1452 "left" "right"
def o842 : Obj := mkFR (stAt 123) rfl (.ofString "_law_op")
def o843 : Obj := m6 "_law_op" 1449 "_law_op" 618 3 838 1455 1456
def o844 : Obj := mkFn (stAt 123) rfl (.ofString "_law_op") (.ofString "law_sz0042_01") 1423 843
def o847 : Obj := m11 "letter" 1461 "told"
def o849 : Obj := mkFR (stAt 124) rfl (.ofString "_law_lay")
def o850 : Obj := m6 "_law_lay" 1458 "_law_lay" 620 2 845 1463 1464
def o851 : Obj := mkFn (stAt 124) rfl (.ofString "_law_lay") (.ofString "law_sz0042_01") 1423 850
def o854 : Obj := m19 "parts" 1469 "tree" "part"
def o856 : Obj := mkFR (stAt 125) rfl (.ofString "_law_horner")
def o857 : Obj := m6 "_law_horner" 1466 "_law_horner" 622 1 852 1472 1473
def o858 : Obj := mkFn (stAt 125) rfl (.ofString "_law_horner") (.ofString "law_sz0042_01") 1423 857
def o861 : Obj := m19 "label" 1478 "last" "one"
def o863 : Obj := mkFR (stAt 126) rfl (.ofString "_law_rounds")
def o864 : Obj := m6 "_law_rounds" 1475 "_law_rounds" 627 2 859 1481 1482
def o865 : Obj := mkFn (stAt 126) rfl (.ofString "_law_rounds") (.ofString "law_sz0042_01") 1423 864
def o868 : Obj := mkFR (stAt 127) rfl (.ofString "_law_rule")
def o869 : Obj := m29 "_law_rule" 1484 630 0 866 1487
def o870 : Obj := mkFn (stAt 127) rfl (.ofString "_law_rule") (.ofString "law_sz0042_01") 1423 869
def o873 : Obj := m24 "d" 1493 "e" "f" "g" "tenths"
def o875 : Obj := mkFR (stAt 128) rfl (.ofString "_law_gain")
def o876 : Obj := m6 "_law_gain" 1490 "_law_gain" 641 5 871 1498 1499
def o877 : Obj := mkFn (stAt 128) rfl (.ofString "_law_gain") (.ofString "law_sz0042_01") 1423 876
def o880 : Obj := mkFR (stAt 129) rfl (.ofString "law")
def o881 : Obj := m29 "law" 1501 643 1 878 1504
def o882 : Obj := mkFn (stAt 129) rfl (.ofString "law") (.ofString "law_sz0042_01") 1423 881
def Tf (P : Params) : BT := (bn (o0 P) (bn (o1 P) (bn (o3 P) (bn (o7 P) (bn m0 (bn o31 (bn o63 (bn o127 (bn o255 (bf o511) (bf m3)) (bn o383 (bf o639) be)) (bn m0 (bn o319 (bf m0) (bf m0)) (bn o447 (bf m0) be))) (bn o95 (bn o159 (bn m3 (bf o543) (bf o799)) (bn o415 (bf m0) be)) (bn m0 (bn m3 (bf o607) (bf o863)) (bn m0 (bf o735) be)))) (bn o47 (bn m8 (bn o143 (bn o271 (bf o527) (bf m0)) (bn m0 (bf m3) be)) (bn o207 (bn o335 (bf m0) (bf o847)) (bn m3 (bf o719) be))) (bn m0 (bn m3 (bn o303 (bf m3) (bf o815)) (bn o431 (bf o687) be)) (bn o239 (bn m0 (bf o623) (bf m3)) (bn m0 (bf o751) be))))) (bn m8 (bn o39 (bn o71 (bn m0 (bn o263 (bf m0) (bf m0)) (bn o391 (bf m0) be)) (bn o199 (bn o327 (bf o583) (bf m3)) (bn m0 (bf m3) be))) (bn o103 (bn m0 (bn m3 (bf m0) (bf o807)) (bn m0 (bf o679) be)) (bn m3 (bn o359 (bf m0) (bf m0)) (bn o487 (bf o743) be)))) (bn m8 (bn o87 (bn o151 (bn m0 (bf o535) (bf m0)) (bn m3 (bf o663) be)) (bn o215 (bn m0 (bf m3) (bf m0)) (bn o471 (bf m0) be))) (bn m3 (bn o183 (bn m0 (bf o567) (bf o823)) (bn o439 (bf o695) be)) (bn m0 (bn o375 (bf o631) be) (bn m3 (bf m0) be)))))) (bn m0 (bn o19 (bn o35 (bn m8 (bn o131 (bn m3 (bf o515) (bf o771)) (bn o387 (bf m0) be)) (bn m0 (bn m3 (bf m0) (bf o835)) (bn o451 (bf o707) be))) (bn o99 (bn m0 (bn o291 (bf o547) (bf m8)) (bn o419 (bf m0) be)) (bn o227 (bn o355 (bf o611) (bf m3)) (bn m0 (bf m3) be)))) (bn o51 (bn o83 (bn m3 (bn m0 (bf m8) (bf o787)) (bn o403 (bf o659) be)) (bn o211 (bn m0 (bf o595) (bf o851)) (bn o467 (bf o723) be))) (bn o115 (bn o179 (bn o307 (bf o563) (bf o819)) (bn m8 (bf o691) be)) (bn o243 (bn m0 (bf m3) be) (bn o499 (bf m0) be))))) (bn o27 (bn m8 (bn o75 (bn o139 (bn o267 (bf m0) (bf o779)) (bn m0 (bf o651) be)) (bn m3 (bn o331 (bf m3) (bf o843)) (bn o459 (bf o715) be))) (bn m0 (bn o171 (bn o299 (bf o555) (bf o811)) (bn m0 (bf m3) be)) (bn o235 (bn o363 (bf m0) (bf o875)) (bn m0 (bf o747) be)))) (bn o59 (bn o91 (bn o155 (bn o283 (bf o539) (bf o795)) (bn o411 (bf o667) be)) (bn m0 (bn o347 (bf o603) (bf m0)) (bn o475 (bf m0) be))) (bn o123 (bn o187 (bn m0 (bf o571) (bf m0)) (bn o443 (bf m0) be)) (bn m0 (bn m3 (bf o635) be) (bn o507 (bf o763) be))))))) (bn (o5 P) (bn (o9 P) (bn o17 (bn o33 (bn o65 (bn o129 (bn o257 (bf o513) (bf m0)) (bn m0 (bf m3) be)) (bn o193 (bn o321 (bf o577) (bf o833)) (bn (o449 P) (bf o705) be))) (bn m0 (bn m3 (bn m0 (bf (o545 P)) (bf o801)) (bn o417 (bf o673) be)) (bn o225 (bn m0 (bf o609) (bf o865)) (bn o481 (bf o737) be)))) (bn m0 (bn m0 (bn o145 (bn m3 (bf o529) (bf o785)) (bn o401 (bf m0) be)) (bn m0 (bn m3 (bf o593) (bf o849)) (bn m0 (bf o721) be))) (bn o113 (bn m0 (bn o305 (bf m0) (bf (o817 P))) (bn o433 (bf m0) be)) (bn o241 (bn o369 (bf o625) (bf o881)) (bn o497 (bf m3) be))))) (bn m0 (bn o41 (bn m0 (bn o137 (bn m0 (bf o521) (bf o777)) (bn m3 (bf o649) be)) (bn o201 (bn m0 (bf o585) (bf m0)) (bn o457 (bf m0) be))) (bn m8 (bn o169 (bn m0 (bf o553) (bf m0)) (bn o425 (bf o681) be)) (bn m0 (bn o361 (bf o617) (bf o873)) (bn m3 (bf m0) be)))) (bn m0 (bn o89 (bn m0 (bn o281 (bf m0) (bf o793)) (bn m0 (bf o665) be)) (bn m3 (bn o345 (bf m0) (bf o857)) (bn o473 (bf o729) be))) (bn m0 (bn o185 (bn o313 (bf o569) (bf m3)) (bn m0 (bf m3) be)) (bn o249 (bn o377 (bf m0) be) (bn m0 (bf o761) be)))))) (bn o13 (bn o21 (bn (o37 P) (bn m0 (bn m3 (bn m0 (bf m3) (bf m0)) (bn o389 (bf o645) be)) (bn o197 (bn m0 (bf o581) (bf o837)) (bn o453 (bf o709) be))) (bn o101 (bn o165 (bn o293 (bf o549) (bf m0)) (bn m3 (bf m0) be)) (bn o229 (bn m0 (bf m3) (bf o869)) (bn o485 (bf m0) be)))) (bn o53 (bn m0 (bn m0 (bn o277 (bf m0) (bf m3)) (bn o405 (bf m0) be)) (bn o213 (bn o341 (bf o597) (bf m3)) (bn m0 (bf m3) be))) (bn o117 (bn m0 (bn m3 (bf m0) (bf o821)) (bn m0 (bf o693) be)) (bn m3 (bn o373 (bf m0) be) (bn o501 (bf o757) be))))) (bn m0 (bn m0 (bn o77 (bn o141 (bn o269 (bf o525) (bf m8)) (bn o397 (bf o653) be)) (bn m0 (bn o333 (bf o589) (bf m0)) (bn o461 (bf m0) be))) (bn o109 (bn o173 (bn m0 (bf o557) (bf o813)) (bn o429 (bf m0) be)) (bn m0 (bn m3 (bf o621) (bf o877)) (bn o493 (bf o749) be)))) (bn m0 (bn (o93 P) (bn o157 (bn o285 (bf o541) (bf o797)) (bn m0 (bf m3) be)) (bn o221 (bn o349 (bf m0) (bf o861)) (bn m3 (bf o733) be))) (bn m0 (bn m3 (bn o317 (bf m3) (bf o829)) (bn o445 (bf o701) be)) (bn o253 (bn m0 (bf o637) be) (bn m0 (bf o765) be)))))))) (bn (o2 P) (bn (o4 P) (bn (o8 P) (bn m3 (bn m0 (bn o64 (bn m0 (bn o256 (bf m0) (bf o768)) (bn o384 (bf m0) be)) (bn o192 (bn o320 (bf o576) (bf m3)) (bn o448 (bf m3) be))) (bn o96 (bn m0 (bn o288 (bf o544) (bf o800)) (bn m0 (bf o672) be)) (bn m3 (bn o352 (bf m0) (bf o864)) (bn o480 (bf o736) be)))) (bn o48 (bn (o80 P) (bn o144 (bn m0 (bf o528) (bf o784)) (bn m3 (bf o656) be)) (bn o208 (bn m0 (bf m3) (bf m0)) (bn o464 (bf m0) be))) (bn m3 (bn o176 (bn m0 (bf o560) (bf o816)) (bn o432 (bf o688) be)) (bn m0 (bn o368 (bf o624) (bf o880)) (bn m3 (bf m0) be))))) (bn (o24 P) (bn o40 (bn o72 (bn o136 (bn o264 (bf o520) (bf m0)) (bn m0 (bf m3) be)) (bn o200 (bn o328 (bf o584) (bf o840)) (bn m3 (bf o712) be))) (bn m0 (bn m3 (bn o296 (bf m3) (bf o808)) (bn o424 (bf o680) be)) (bn o232 (bn m0 (bf o616) (bf m3)) (bn m0 (bf o744) be)))) (bn (o56 P) (bn m0 (bn o152 (bn m3 (bf o536) (bf o792)) (bn o408 (bf m0) be)) (bn m0 (bn m3 (bf o600) (bf o856)) (bn m0 (bf o728) be))) (bn o120 (bn m0 (bn o312 (bf m0) (bf m0)) (bn o440 (bf m0) be)) (bn o248 (bn o376 (bf o632) be) (bn o504 (bf m3) be)))))) (bn o12 (bn o20 (bn o36 (bn (o68 P) (bn m0 (bn o260 (bf m0) (bf o772)) (bn m0 (bf o644) be)) (bn m3 (bn o324 (bf m3) (bf o836)) (bn o452 (bf o708) be))) (bn m0 (bn o164 (bn o292 (bf o548) (bf (o804 P))) (bn m0 (bf m3) be)) (bn o228 (bn o356 (bf m0) (bf o868)) (bn m3 (bf o740) be)))) (bn o52 (bn o84 (bn o148 (bn o276 (bf (o532 P)) (bf m0)) (bn o404 (bf o660) be)) (bn m0 (bn o340 (bf o596) (bf m0)) (bn o468 (bf m0) be))) (bn o116 (bn o180 (bn m0 (bf o564) (bf o820)) (bn (o436 P) (bf m0) be)) (bn m0 (bn m3 (bf o628) be) (bn o500 (bf o756) be))))) (bn o28 (bn (o44 P) (bn o76 (bn (o140 P) (bn m0 (bf m3) (bf m0)) (bn o396 (bf o652) be)) (bn o204 (bn m0 (bf o588) (bf o844)) (bn o460 (bf o716) be))) (bn o108 (bn o172 (bn o300 (bf o556) (bf m0)) (bn m3 (bf o684) be)) (bn o236 (bn m0 (bf m3) (bf o876)) (bn o492 (bf m0) be)))) (bn o60 (bn o92 (bn m0 (bn o284 (bf m0) (bf (o796 P))) (bn o412 (bf m0) be)) (bn o220 (bn o348 (bf o604) (bf m3)) (bn m0 (bf m3) be))) (bn o124 (bn m0 (bn m3 (bf m0) (bf o828)) (bn m0 (bf o700) be)) (bn m3 (bn o380 (bf m0) be) (bn o508 (bf o764) be))))))) (bn (o6 P) (bn (o10 P) (bn m0 (bn o34 (bn m15 (bn o130 (bn m0 (bf o514) (bf o770)) (bn m3 (bf o642) be)) (bn o194 (bn m0 (bf o578) (bf m0)) (bn o450 (bf m0) be))) (bn m3 (bn o162 (bn o290 (bf o546) (bf m0)) (bn o418 (bf o674) be)) (bn m0 (bn o354 (bf o610) (bf m0)) (bn o482 (bf m0) be)))) (bn (o50 P) (bn o82 (bn m0 (bn o274 (bf m0) (bf o786)) (bn m0 (bf o658) be)) (bn m3 (bn o338 (bf m0) (bf o850)) (bn o466 (bf o722) be))) (bn m0 (bn o178 (bn o306 (bf o562) (bf o818)) (bn m0 (bf m3) be)) (bn o242 (bn o370 (bf m0) (bf o882)) (bn m0 (bf o754) be))))) (bn o26 (bn m15 (bn (o74 P) (bn o138 (bn m3 (bf o522) (bf o778)) (bn o394 (bf m0) be)) (bn m0 (bn m3 (bf m0) (bf o842)) (bn m0 (bf o714) be))) (bn (o106 P) (bn m0 (bn o298 (bf m0) (bf m3)) (bn o426 (bf m0) be)) (bn o234 (bn o362 (bf o618) (bf m0)) (bn o490 (bf m3) be)))) (bn m3 (bn o90 (bn m3 (bn m0 (bf m3) (bf o794)) (bn o410 (bf o666) be)) (bn o218 (bn m0 (bf o602) (bf o858)) (bn o474 (bf o730) be))) (bn o122 (bn o186 (bn o314 (bf o570) (bf o826)) (bn m3 (bf o698) be)) (bn o250 (bn m0 (bf m3) be) (bn o506 (bf m0) be)))))) (bn o14 (bn o22 (bn o38 (bn m3 (bn o134 (bn o262 (bf o518) (bf m3)) (bn o390 (bf o646) be)) (bn m0 (bn o326 (bf m0) (bf m0)) (bn o454 (bf m0) be))) (bn o102 (bn o166 (bn m0 (bf o550) (bf o806)) (bn o422 (bf m0) be)) (bn m0 (bn m3 (bf o614) (bf o870)) (bn o486 (bf o742) be)))) (bn m15 (bn m3 (bn o150 (bn o278 (bf o534) (bf o790)) (bn m0 (bf m3) be)) (bn o214 (bn o342 (bf m0) (bf o854)) (bn m3 (bf o726) be))) (bn m0 (bn m3 (bn o310 (bf m3) (bf o822)) (bn o438 (bf o694) be)) (bn o246 (bn m0 (bf o630) be) (bn m0 (bf o758) be))))) (bn m3 (bn m3 (bn m15 (bn o142 (bn o270 (bf m0) (bf (o782 P))) (bn o398 (bf m0) be)) (bn o206 (bn o334 (bf o590) (bf m3)) (bn m0 (bf m3) be))) (bn o110 (bn m0 (bn m3 (bf m0) (bf o814)) (bn m0 (bf o686) be)) (bn m3 (bn o366 (bf m0) (bf m0)) (bn o494 (bf o750) be)))) (bn (o62 P) (bn o94 (bn o158 (bn m0 (bf o542) (bf o798)) (bn m3 (bf o670) be)) (bn o222 (bn m0 (bf m3) (bf m0)) (bn o478 (bf m0) be))) (bn m3 (bn o190 (bn m0 (bf o574) (bf o830)) (bn o446 (bf o702) be)) (bn m0 (bn o382 (bf o638) be) (bn m3 (bf m0) be)))))))))
def TS (P : Params) : BT := ((((cutT (Tf P) 15).set 2 fun _ => ⟨.none, none, (.dict (List.toArray []) 0), #[]⟩).set 3 fun _ => ⟨.type "dict", none, .dict (((d3 P).take 9).set 0 (en P "__name__" 165 (sv "__main__" 164))).toArray 9, #[]⟩).set 12 fun _ => ⟨.none, none, .fields (f12.take 0).toArray, #[]⟩)
def T1 (P : Params) : BT := ((((cutT (Tf P) 42).set 3 fun _ => ⟨.type "dict", none, .dict (((d3 P).take 11).set 0 (en P "__name__" 165 (sv "f77.errors" 194))).toArray 11, #[]⟩).set 12 fun _ => ⟨.none, none, .fields (f12.take 6).toArray, #[]⟩).set 38 fun _ => ⟨.type "type", none, (.cls { name := (.ofString "F77Error"), bases := [.type "Exception"], mro := [.ref 38, .type "Exception", .type "BaseException", .type "object"], ns := 37, qualname := (.ofString "F77Error"), hasDict := true, slotNames := [], subclasses := [], hasDel := false, abstract := false }), #[some (.ref 22), none, some (sv "F77Error" 196), some (sv "F77Error" 204), some (.builtin "Exception.__new__"), some (.bool true)]⟩)
def T2 (P : Params) : BT := ((((cutT (Tf P) 54).set 3 fun _ => ⟨.type "dict", none, .dict (((d3 P).take 12).set 0 (en P "__name__" 165 (sv "f77.errors" 194))).toArray 12, #[]⟩).set 12 fun _ => ⟨.none, none, .fields (f12.take 9).toArray, #[]⟩).set 38 fun _ => ⟨.type "type", none, (.cls { name := (.ofString "F77Error"), bases := [.type "Exception"], mro := [.ref 38, .type "Exception", .type "BaseException", .type "object"], ns := 37, qualname := (.ofString "F77Error"), hasDict := true, slotNames := [], subclasses := [.ref 51], hasDel := false, abstract := false }), #[some (.ref 22), none, some (sv "F77Error" 196), some (sv "F77Error" 204), some (.builtin "Exception.__new__"), some (.bool true)]⟩)
def T3 (P : Params) : BT := ((((cutT (Tf P) 66).set 3 fun _ => ⟨.type "dict", none, .dict (((d3 P).take 13).set 0 (en P "__name__" 165 (sv "f77.errors" 194))).toArray 13, #[]⟩).set 12 fun _ => ⟨.none, none, .fields (f12.take 12).toArray, #[]⟩).set 38 fun _ => ⟨.type "type", none, (.cls { name := (.ofString "F77Error"), bases := [.type "Exception"], mro := [.ref 38, .type "Exception", .type "BaseException", .type "object"], ns := 37, qualname := (.ofString "F77Error"), hasDict := true, slotNames := [], subclasses := [.ref 51, .ref 63], hasDel := false, abstract := false }), #[some (.ref 22), none, some (sv "F77Error" 196), some (sv "F77Error" 204), some (.builtin "Exception.__new__"), some (.bool true)]⟩)
def T4 (P : Params) : BT := ((((cutT (Tf P) 78).set 3 fun _ => ⟨.type "dict", none, .dict (((d3 P).take 14).set 0 (en P "__name__" 165 (sv "f77.errors" 194))).toArray 14, #[]⟩).set 12 fun _ => ⟨.none, none, .fields (f12.take 15).toArray, #[]⟩).set 38 fun _ => ⟨.type "type", none, (.cls { name := (.ofString "F77Error"), bases := [.type "Exception"], mro := [.ref 38, .type "Exception", .type "BaseException", .type "object"], ns := 37, qualname := (.ofString "F77Error"), hasDict := true, slotNames := [], subclasses := [.ref 51, .ref 63, .ref 75], hasDel := false, abstract := false }), #[some (.ref 22), none, some (sv "F77Error" 196), some (sv "F77Error" 204), some (.builtin "Exception.__new__"), some (.bool true)]⟩)
def T5 (P : Params) : BT := (((cutT (Tf P) 104).set 3 fun _ => ⟨.type "dict", none, .dict (((d3 P).take 24).set 0 (en P "__name__" 165 (sv "f77.memory" 319))).toArray 24, #[]⟩).set 12 fun _ => ⟨.none, none, .fields (f12.take 21).toArray, #[]⟩)
def T6 (P : Params) : BT := (((cutT (Tf P) 160).set 3 fun _ => ⟨.type "dict", none, .dict (((d3 P).take 27).set 0 (en P "__name__" 165 (sv "f77.memory" 319))).toArray 27, #[]⟩).set 12 fun _ => ⟨.none, none, .fields (f12.take 30).toArray, #[]⟩)
def T7 (P : Params) : BT := (((cutT (Tf P) 244).set 3 fun _ => ⟨.type "dict", none, .dict (((d3 P).take 39).set 0 (en P "__name__" 165 (sv "f77.ints" 484))).toArray 39, #[]⟩).set 12 fun _ => ⟨.none, none, .fields (f12.take 66).toArray, #[]⟩)
def T8 (P : Params) : BT := (((cutT (Tf P) 322).set 3 fun _ => ⟨.type "dict", none, .dict (((d3 P).take 53).set 0 (en P "__name__" 165 (sv "f77.reals" 586))).toArray 53, #[]⟩).set 12 fun _ => ⟨.none, none, .fields (f12.take 99).toArray, #[]⟩)
def T9 (P : Params) : BT := (((cutT (Tf P) 406).set 3 fun _ => ⟨.type "dict", none, .dict (((d3 P).take 65).set 0 (en P "__name__" 165 (sv "f77.reals" 586))).toArray 65, #[]⟩).set 12 fun _ => ⟨.none, none, .fields (f12.take 135).toArray, #[]⟩)
def T10 (P : Params) : BT := (((cutT (Tf P) 455).set 3 fun _ => ⟨.type "dict", none, .dict (((d3 P).take 70).set 0 (en P "__name__" 165 (sv "f77.plainexpr" 807))).toArray 70, #[]⟩).set 12 fun _ => ⟨.none, none, .fields (f12.take 150).toArray, #[]⟩)
def T11 (P : Params) : BT := (((cutT (Tf P) 530).set 3 fun _ => ⟨.type "dict", none, .dict (((d3 P).take 81).set 0 (en P "__name__" 165 (sv "f77.flow" 954))).toArray 81, #[]⟩).set 12 fun _ => ⟨.none, none, .fields (f12.take 183).toArray, #[]⟩)
def T12 (P : Params) : BT := (((cutT (Tf P) 586).set 3 fun _ => ⟨.type "dict", none, .dict (((d3 P).take 87).set 0 (en P "__name__" 165 (sv "f77.flow" 954))).toArray 87, #[]⟩).set 12 fun _ => ⟨.none, none, .fields (f12.take 201).toArray, #[]⟩)
def T13 (P : Params) : BT := (((cutT (Tf P) 668).set 3 fun _ => ⟨.type "dict", none, .dict (((d3 P).take 99).set 0 (en P "__name__" 165 (sv "f77.plainstmt" 1058))).toArray 99, #[]⟩).set 12 fun _ => ⟨.none, none, .fields (f12.take 237).toArray, #[]⟩)
def T14 (P : Params) : BT := (((cutT (Tf P) 752).set 3 fun _ => ⟨.type "dict", none, .dict (((d3 P).take 111).set 0 (en P "__name__" 165 (sv "f77.plainstmt" 1058))).toArray 111, #[]⟩).set 12 fun _ => ⟨.none, none, .fields (f12.take 273).toArray, #[]⟩)
def T15 (P : Params) : BT := (((cutT (Tf P) 802).set 3 fun _ => ⟨.type "dict", none, .dict (((d3 P).take 116).set 0 (en P "__name__" 165 (sv "f77.trees" 1378))).toArray 116, #[]⟩).set 12 fun _ => ⟨.none, none, .fields (f12.take 288).toArray, #[]⟩)
def T16 (P : Params) : BT := (((cutT (Tf P) 852).set 3 fun _ => ⟨.type "dict", none, .dict ((d3 P).take 122).toArray 122, #[]⟩).set 12 fun _ => ⟨.none, none, .fields (f12.take 303).toArray, #[]⟩)
def T17 (P : Params) : BT := (cutT (Tf P) 883)
def H1 (P : Params) : Heap := ⟨[o0 P, o1 P, o2 P, o3 P, o4 P, o5 P, o6 P, o7 P, o8 P, o9 P, o10 P, m0, o12, o13, o14, m0, m3, o17, m0, o19, o20, o21, o22, m8, o24 P, m0, o26, o27, o28, m0, m3, o31, m0, o33, o34, o35, o36, o37 P, o38, o39, o40, o41, m15, m8, o44 P, m0, m3, o47, o48, m0, o50 P, o51, o52, o53, m15, m8, o56 P, m0, m3, o59, o60, m0, o62 P, o63, o64, o65, m15, m8, o68 P, m0, m3, o71, o72, m0, o74 P, o75, o76, o77, m15, m8, o80 P, m0, o82, o83, o84, m0, m3, o87, m0, o89, o90, o91, o92, o93 P, o94, o95, o96, m0, m3, o99, m0, o101, o102, o103, m0, m8, o106 P, m0, o108, o109, o110, m0, m3, o113, m0, o115, o116, o117, m0, m3, o120, m0, o122, o123, o124, m0, m3, o127, m0, o129, o130, o131, m0, m3, o134, m0, o136, o137, o138, o139, o140 P, o141, o142, o143, o144, o145, m0, m3, o148, m0, o150, o151, o152, m0, m3, o155, m0, o157, o158, o159, m0, m3, o162, m0, o164, o165, o166, m0, m3, o169, m0, o171, o172, o173, m0, m3, o176, m0, o178, o179, o180, m0, m3, o183, m0, o185, o186, o187, m0, m3, o190, m0, o192, o193, o194, m0, m3, o197, m0, o199, o200, o201, m0, m3, o204, m0, o206, o207, o208, m0, m3, o211, m0, o213, o214, o215, m0, m3, o218, m0, o220, o221, o222, m0, m3, o225, m0, o227, o228, o229, m0, m3, o232, m0, o234, o235, o236, m0, m3, o239, m0, o241, o242, o243, m0, m3, o246, m0, o248, o249, o250, m0, m3, o253, m0, o255, o256, o257, m0, m3, o260, m0, o262, o263, o264, m0, m3, o267, m0, o269, o270, o271, m0, m3, o274, m0, o276, o277, o278, m0, m3, o281, m0, o283, o284, o285, m0, m3, o288, m0, o290, o291, o292, o293, m0, m3, o296, m0, o298, o299, o300, m0, m3, o303, m0, o305, o306, o307, m0, m3, o310, m0, o312, o313, o314, m0, m3, o317, m0, o319, o320, o321, m0, m3, o324, m0, o326, o327, o328, m0, m3, o331, m0, o333, o334, o335, m0, m3, o338, m0, o340, o341, o342, m0, m3, o345, m0, o347, o348, o349, m0, m3, o352, m0, o354, o355, o356, m0, m3, o359, m0, o361, o362, o363, m0, m3, o366, m0, o368, o369, o370, m0, m3, o373, m0, o375, o376, o377, m0, m3, o380, m0, o382, o383, o384, m0, m3, o387, m0, o389, o390, o391, m0, m3, o394, m0, o396, o397, o398, m0, m3, o401, m0, o403, o404, o405, m0, m3, o408, m0, o410, o411, o412, m0, m3, o415, m0, o417, o418, o419, m0, m3, o422, m0, o424, o425, o426, m0, m3, o429, m0, o431, o432, o433, m0, m8, o436 P, m0, o438, o439, o440, m0, m3, o443, m0, o445, o446, o447, o448, o449 P, o450, o451, o452, o453, o454, m0, m3, o457, m0, o459, o460, o461, m0, m3, o464, m0, o466, o467, o468, m0, m3, o471, m0, o473, o474, o475, m0, m3, o478, m0, o480, o481, o482, m0, m3, o485, o486, o487, m0, m3, o490, m0, o492, o493, o494, m0, m3, o497, m0, o499, o500, o501, m0, m3, o504, m0, o506, o507, o508, m0, m3, o511, m0, o513, o514, o515, m0, m3, o518, m0, o520, o521, o522, m0, m3, o525, m0, o527, o528, o529, m0, m8, o532 P, m0, o534, o535, o536, m0, m3, o539, m0, o541, o542, o543, o544, o545 P, o546, o547, o548, o549, o550, m0, m3, o553, m0, o555, o556, o557, m0, m3, o560, m0, o562, o563, o564, m0, m3, o567, m0, o569, o570, o571, m0, m3, o574, m0, o576, o577, o578, m0, m3, o581, m0, o583, o584, o585, m0, m3, o588, o589, o590, m0, m3, o593, m0, o595, o596, o597, m0, m3, o600, m0, o602, o603, o604, m0, m3, o607, m0, o609, o610, o611, m0, m3, o614, m0, o616, o617, o618, m0, m3, o621, m0, o623, o624, o625, m0, m3, o628, m0, o630, o631, o632, m0, m3, o635, m0, o637, o638, o639, m0, m3, o642, m0, o644, o645, o646, m0, m3, o649, m0, o651, o652, o653, m0, m3, o656, m0, o658, o659, o660, m0, m3, o663, m0, o665, o666, o667, m0, m3, o670, m0, o672, o673, o674, m0, m3, m0, m0, o679, o680, o681, m0, m3, o684, m0, o686, o687, o688, m0, m3, o691, m0, o693, o694, o695, m0, m3, o698, m0, o700, o701, o702, m0, m3, o705, m0, o707, o708, o709, m0, m3, o712, m0, o714, o715, o716, m0, m3, o719, m0, o721, o722, o723, m0, m3, o726, m0, o728, o729, o730, m0, m3, o733, m0, o735, o736, o737, m0, m3, o740, m0, o742, o743, o744, m0, m3, o747, m0, o749, o750, o751, m0, m3, o754, m0, o756, o757, o758, m0, m3, o761, m0, o763, o764, o765, m0, m3, o768, m0, o770, o771, o772, m0, m3, m0, m0, o777, o778, o779, m0, m8, o782 P, m0, o784, o785, o786, o787, m0, m3, o790, m0, o792, o793, o794, o795, o796 P, o797, o798, o799, o800, o801, m0, m8, o804 P, m0, o806, o807, o808, m0, m3, o811, m0, o813, o814, o815, o816, o817 P, o818, o819, o820, o821, o822, o823, m0, m3, o826, m0, o828, o829, o830, m0, m3, o833, m0, o835, o836, o837, m0, m3, o840, m0, o842, o843, o844, m0, m3, o847, m0, o849, o850, o851, m0, m3, o854, m0, o856, o857, o858, m0, m3, o861, m0, o863, o864, o865, m0, m3, o868, o869, o870, m0, m3, o873, m0, o875, o876, o877, m0, m3, o880, o881, o882].toArray, {}⟩
noncomputable def bE : List Stmt := behindTheImports PySem.Challenge.pw_sz0042_01
noncomputable def envE : Env := { scope := PySem.Challenge.pw_sz0042_01.main.scope, locals := mainNs, globals := mainNs, cells := [], code := .ref 13, frame := some 14 }
noncomputable def cE : Code := .body bE envE
noncomputable def st0 (T : BT) (k t : Nat) (os : OsState) : SharedT := ⟨T, k, {}, #[], {}, t, os⟩
theorem pc1 (w : World) (os : OsState) : PySem.W.Fast.tw10110043849684766642 PySem.W.Fast.tw14364793385576792824 PySem.Challenge.pw_sz0042_01 w 11 (some (.ref 6)) 1 267 (st0 (TS w.params) 15 187 os) (piecesOf ((bE.drop 0).take 3) envE cE ⟨0, 0, 0, 0⟩ [topFrame ⟨0, 0, 0, 0⟩]) =
    some (Flow.next, st0 (T1 w.params) 42 225 os, cE, ⟨5, 0, 9, 24⟩) := by kernel_rfl
theorem pc2 (w : World) (os : OsState) : PySem.W.Fast.tw10110043849684766642 PySem.W.Fast.tw14364793385576792824 PySem.Challenge.pw_sz0042_01 w 11 (some (.ref 6)) 1 214 (st0 (T1 w.params) 42 225 os) (piecesOf ((bE.drop 3).take 1) envE cE ⟨5, 0, 9, 24⟩ [topFrame ⟨0, 0, 0, 0⟩]) =
    some (Flow.next, st0 (T2 w.params) 54 241 os, cE, ⟨10, 0, 11, 8⟩) := by kernel_rfl
theorem pc3 (w : World) (os : OsState) : PySem.W.Fast.tw10110043849684766642 PySem.W.Fast.tw14364793385576792824 PySem.Challenge.pw_sz0042_01 w 11 (some (.ref 6)) 1 214 (st0 (T2 w.params) 54 241 os) (piecesOf ((bE.drop 4).take 1) envE cE ⟨10, 0, 11, 8⟩ [topFrame ⟨0, 0, 0, 0⟩]) =
    some (Flow.next, st0 (T3 w.params) 66 257 os, cE, ⟨12, 0, 13, 8⟩) := by kernel_rfl
theorem pc4 (w : World) (os : OsState) : PySem.W.Fast.tw10110043849684766642 PySem.W.Fast.tw14364793385576792824 PySem.Challenge.pw_sz0042_01 w 11 (some (.ref 6)) 1 214 (st0 (T3 w.params) 66 257 os) (piecesOf ((bE.drop 5).take 1) envE cE ⟨12, 0, 13, 8⟩ [topFrame ⟨0, 0, 0, 0⟩]) =
    some (Flow.next, st0 (T4 w.params) 78 273 os, cE, ⟨14, 0, 15, 8⟩) := by kernel_rfl
theorem pc5 (w : World) (os : OsState) : PySem.W.Fast.tw10110043849684766642 PySem.W.Fast.tw14364793385576792824 PySem.Challenge.pw_sz0042_01 w 11 (some (.ref 6)) 1 365 (st0 (T4 w.params) 78 273 os) (piecesOf ((bE.drop 6).take 12) envE cE ⟨14, 0, 15, 8⟩ [topFrame ⟨0, 0, 0, 0⟩]) =
    some (Flow.next, st0 (T5 w.params) 104 325 os, cE, ⟨36, 0, 36, 5⟩) := by kernel_rfl
theorem pc6 (w : World) (os : OsState) : PySem.W.Fast.tw10110043849684766642 PySem.W.Fast.tw14364793385576792824 PySem.Challenge.pw_sz0042_01 w 11 (some (.ref 6)) 1 385 (st0 (T5 w.params) 104 325 os) (piecesOf ((bE.drop 18).take 3) envE cE ⟨36, 0, 36, 5⟩ [topFrame ⟨0, 0, 0, 0⟩]) =
    some (Flow.next, st0 (T6 w.params) 160 400 os, cE, ⟨59, 0, 63, 18⟩) := by kernel_rfl
theorem pc7 (w : World) (os : OsState) : PySem.W.Fast.tw10110043849684766642 PySem.W.Fast.tw14364793385576792824 PySem.Challenge.pw_sz0042_01 w 11 (some (.ref 6)) 1 394 (st0 (T6 w.params) 160 400 os) (piecesOf ((bE.drop 21).take 13) envE cE ⟨59, 0, 63, 18⟩ [topFrame ⟨0, 0, 0, 0⟩]) =
    some (Flow.next, st0 (T7 w.params) 244 522 os, cE, ⟨127, 0, 128, 32⟩) := by kernel_rfl
theorem pc8 (w : World) (os : OsState) : PySem.W.Fast.tw10110043849684766642 PySem.W.Fast.tw14364793385576792824 PySem.Challenge.pw_sz0042_01 w 11 (some (.ref 6)) 1 386 (st0 (T7 w.params) 244 522 os) (piecesOf ((bE.drop 34).take 15) envE cE ⟨127, 0, 128, 32⟩ [topFrame ⟨0, 0, 0, 0⟩]) =
    some (Flow.next, st0 (T8 w.params) 322 635 os, cE, ⟨212, 0, 219, 17⟩) := by kernel_rfl
theorem pc9 (w : World) (os : OsState) : PySem.W.Fast.tw10110043849684766642 PySem.W.Fast.tw14364793385576792824 PySem.Challenge.pw_sz0042_01 w 11 (some (.ref 6)) 1 392 (st0 (T8 w.params) 322 635 os) (piecesOf ((bE.drop 49).take 12) envE cE ⟨212, 0, 219, 17⟩ [topFrame ⟨0, 0, 0, 0⟩]) =
    some (Flow.next, st0 (T9 w.params) 406 762 os, cE, ⟨273, 0, 279, 40⟩) := by kernel_rfl
theorem pc10 (w : World) (os : OsState) : PySem.W.Fast.tw10110043849684766642 PySem.W.Fast.tw14364793385576792824 PySem.Challenge.pw_sz0042_01 w 11 (some (.ref 6)) 1 392 (st0 (T9 w.params) 406 762 os) (piecesOf ((bE.drop 61).take 7) envE cE ⟨273, 0, 279, 40⟩ [topFrame ⟨0, 0, 0, 0⟩]) =
    some (Flow.next, st0 (T10 w.params) 455 858 os, cE, ⟨311, 0, 329, 27⟩) := by kernel_rfl
theorem pc11 (w : World) (os : OsState) : PySem.W.Fast.tw10110043849684766642 PySem.W.Fast.tw14364793385576792824 PySem.Challenge.pw_sz0042_01 w 11 (some (.ref 6)) 1 346 (st0 (T10 w.params) 455 858 os) (piecesOf ((bE.drop 68).take 12) envE cE ⟨311, 0, 329, 27⟩ [topFrame ⟨0, 0, 0, 0⟩]) =
    some (Flow.next, st0 (T11 w.params) 530 956 os, cE, ⟨377, 0, 377, 8⟩) := by kernel_rfl
theorem pc12 (w : World) (os : OsState) : PySem.W.Fast.tw10110043849684766642 PySem.W.Fast.tw14364793385576792824 PySem.Challenge.pw_sz0042_01 w 11 (some (.ref 6)) 1 393 (st0 (T11 w.params) 530 956 os) (piecesOf ((bE.drop 80).take 6) envE cE ⟨377, 0, 377, 8⟩ [topFrame ⟨0, 0, 0, 0⟩]) =
    some (Flow.next, st0 (T12 w.params) 586 1045 os, cE, ⟨421, 0, 441, 15⟩) := by kernel_rfl
theorem pc13 (w : World) (os : OsState) : PySem.W.Fast.tw10110043849684766642 PySem.W.Fast.tw14364793385576792824 PySem.Challenge.pw_sz0042_01 w 11 (some (.ref 6)) 1 379 (st0 (T12 w.params) 586 1045 os) (piecesOf ((bE.drop 86).take 13) envE cE ⟨421, 0, 441, 15⟩ [topFrame ⟨0, 0, 0, 0⟩]) =
    some (Flow.next, st0 (T13 w.params) 668 1154 os, cE, ⟨498, 0, 500, 17⟩) := by kernel_rfl
theorem pc14 (w : World) (os : OsState) : PySem.W.Fast.tw10110043849684766642 PySem.W.Fast.tw14364793385576792824 PySem.Challenge.pw_sz0042_01 w 11 (some (.ref 6)) 1 400 (st0 (T13 w.params) 668 1154 os) (piecesOf ((bE.drop 99).take 12) envE cE ⟨498, 0, 500, 17⟩ [topFrame ⟨0, 0, 0, 0⟩]) =
    some (Flow.next, st0 (T14 w.params) 752 1289 os, cE, ⟨556, 0, 568, 18⟩) := by kernel_rfl
theorem pc15 (w : World) (os : OsState) : PySem.W.Fast.tw10110043849684766642 PySem.W.Fast.tw14364793385576792824 PySem.Challenge.pw_sz0042_01 w 11 (some (.ref 6)) 1 388 (st0 (T14 w.params) 752 1289 os) (piecesOf ((bE.drop 111).take 7) envE cE ⟨556, 0, 568, 18⟩ [topFrame ⟨0, 0, 0, 0⟩]) =
    some (Flow.next, st0 (T15 w.params) 802 1380 os, cE, ⟨591, 0, 591, 8⟩) := by kernel_rfl
theorem pc16 (w : World) (os : OsState) : PySem.W.Fast.tw10110043849684766642 PySem.W.Fast.tw14364793385576792824 PySem.Challenge.pw_sz0042_01 w 11 (some (.ref 6)) 1 384 (st0 (T15 w.params) 802 1380 os) (piecesOf ((bE.drop 118).take 7) envE cE ⟨591, 0, 591, 8⟩ [topFrame ⟨0, 0, 0, 0⟩]) =
    some (Flow.next, st0 (T16 w.params) 852 1466 os, cE, ⟨620, 0, 621, 63⟩) := by kernel_rfl
theorem pc17 (w : World) (os : OsState) : PySem.W.Fast.tw10110043849684766642 PySem.W.Fast.tw14364793385576792824 PySem.Challenge.pw_sz0042_01 w 11 (some (.ref 6)) 1 148 (st0 (T16 w.params) 852 1466 os) (piecesOf ((bE.drop 125).take 5) envE cE ⟨620, 0, 621, 63⟩ [topFrame ⟨0, 0, 0, 0⟩]) =
    some (Flow.next, st0 (T17 w.params) 883 1507 os, cE, ⟨643, 0, 664, 97⟩) := by kernel_rfl
end
noncomputable def KK : Params → Frag := fun P => (nat_lit 2, o2 P) :: (nat_lit 3, o3 P) :: (nat_lit 15, m0) :: (nat_lit 17, o17) :: (nat_lit 18, m0) :: (nat_lit 20, o20) :: (nat_lit 21, o21) :: (nat_lit 22, o22) :: (nat_lit 29, m0) :: (nat_lit 31, o31) :: (nat_lit 32, m0) :: (nat_lit 34, o34) :: (nat_lit 35, o35) :: (nat_lit 36, o36) :: (nat_lit 37, o37 P) :: (nat_lit 38, o38) :: (nat_lit 39, o39) :: (nat_lit 42, m15) :: (nat_lit 49, m0) :: (nat_lit 50, o50 P) :: (nat_lit 51, o51) :: (nat_lit 54, m15) :: (nat_lit 61, m0) :: (nat_lit 62, o62 P) :: (nat_lit 63, o63) :: (nat_lit 66, m15) :: (nat_lit 73, m0) :: (nat_lit 74, o74 P) :: (nat_lit 75, o75) :: (nat_lit 78, m15) :: (nat_lit 85, m0) :: (nat_lit 87, o87) :: (nat_lit 88, m0) :: (nat_lit 90, o90) :: (nat_lit 91, o91) :: (nat_lit 92, o92) :: (nat_lit 93, o93 P) :: (nat_lit 94, o94) :: (nat_lit 97, m0) :: (nat_lit 99, o99) :: (nat_lit 100, m0) :: (nat_lit 102, o102) :: (nat_lit 103, o103) :: (nat_lit 111, m0) :: (nat_lit 113, o113) :: (nat_lit 114, m0) :: (nat_lit 116, o116) :: (nat_lit 117, o117) :: (nat_lit 118, m0) :: (nat_lit 120, o120) :: (nat_lit 121, m0) :: (nat_lit 123, o123) :: (nat_lit 124, o124) :: (nat_lit 125, m0) :: (nat_lit 127, o127) :: (nat_lit 128, m0) :: (nat_lit 130, o130) :: (nat_lit 131, o131) :: (nat_lit 132, m0) :: (nat_lit 134, o134) :: (nat_lit 135, m0) :: (nat_lit 137, o137) :: (nat_lit 138, o138) :: (nat_lit 139, o139) :: (nat_lit 140, o140 P) :: (nat_lit 141, o141) :: (nat_lit 142, o142) :: (nat_lit 143, o143) :: (nat_lit 146, m0) :: (nat_lit 148, o148) :: (nat_lit 149, m0) :: (nat_lit 151, o151) :: (nat_lit 152, o152) :: (nat_lit 153, m0) :: (nat_lit 155, o155) :: (nat_lit 156, m0) :: (nat_lit 158, o158) :: (nat_lit 159, o159) :: (nat_lit 160, m0) :: (nat_lit 162, o162) :: (nat_lit 163, m0) :: (nat_lit 165, o165) :: (nat_lit 166, o166) :: (nat_lit 167, m0) :: (nat_lit 169, o169) :: (nat_lit 170, m0) :: (nat_lit 172, o172) :: (nat_lit 173, o173) :: (nat_lit 174, m0) :: (nat_lit 176, o176) :: (nat_lit 177, m0) :: (nat_lit 179, o179) :: (nat_lit 180, o180) :: (nat_lit 181, m0) :: (nat_lit 183, o183) :: (nat_lit 184, m0) :: (nat_lit 186, o186) :: (nat_lit 187, o187) :: (nat_lit 188, m0) :: (nat_lit 190, o190) :: (nat_lit 191, m0) :: (nat_lit 193, o193) :: (nat_lit 194, o194) :: (nat_lit 195, m0) :: (nat_lit 197, o197) :: (nat_lit 198, m0) :: (nat_lit 200, o200) :: (nat_lit 201, o201) :: (nat_lit 202, m0) :: (nat_lit 204, o204) :: (nat_lit 205, m0) :: (nat_lit 207, o207) :: (nat_lit 208, o208) :: (nat_lit 209, m0) :: (nat_lit 211, o211) :: (nat_lit 212, m0) :: (nat_lit 214, o214) :: (nat_lit 215, o215) :: (nat_lit 216, m0) :: (nat_lit 218, o218) :: (nat_lit 219, m0) :: (nat_lit 221, o221) :: (nat_lit 222, o222) :: (nat_lit 223, m0) :: (nat_lit 225, o225) :: (nat_lit 226, m0) :: (nat_lit 228, o228) :: (nat_lit 229, o229) :: (nat_lit 230, m0) :: (nat_lit 232, o232) :: (nat_lit 233, m0) :: (nat_lit 235, o235) :: (nat_lit 236, o236) :: (nat_lit 237, m0) :: (nat_lit 239, o239) :: (nat_lit 240, m0) :: (nat_lit 242, o242) :: (nat_lit 243, o243) :: (nat_lit 244, m0) :: (nat_lit 246, o246) :: (nat_lit 247, m0) :: (nat_lit 249, o249) :: (nat_lit 250, o250) :: (nat_lit 251, m0) :: (nat_lit 253, o253) :: (nat_lit 254, m0) :: (nat_lit 256, o256) :: (nat_lit 257, o257) :: (nat_lit 258, m0) :: (nat_lit 260, o260) :: (nat_lit 261, m0) :: (nat_lit 263, o263) :: (nat_lit 264, o264) :: (nat_lit 265, m0) :: (nat_lit 267, o267) :: (nat_lit 268, m0) :: (nat_lit 270, o270) :: (nat_lit 271, o271) :: (nat_lit 272, m0) :: (nat_lit 274, o274) :: (nat_lit 275, m0) :: (nat_lit 277, o277) :: (nat_lit 278, o278) :: (nat_lit 279, m0) :: (nat_lit 281, o281) :: (nat_lit 282, m0) :: (nat_lit 284, o284) :: (nat_lit 285, o285) :: (nat_lit 286, m0) :: (nat_lit 288, o288) :: (nat_lit 289, m0) :: (nat_lit 291, o291) :: (nat_lit 292, o292) :: (nat_lit 293, o293) :: (nat_lit 294, m0) :: (nat_lit 296, o296) :: (nat_lit 297, m0) :: (nat_lit 299, o299) :: (nat_lit 300, o300) :: (nat_lit 301, m0) :: (nat_lit 303, o303) :: (nat_lit 304, m0) :: (nat_lit 306, o306) :: (nat_lit 307, o307) :: (nat_lit 308, m0) :: (nat_lit 310, o310) :: (nat_lit 311, m0) :: (nat_lit 313, o313) :: (nat_lit 314, o314) :: (nat_lit 315, m0) :: (nat_lit 317, o317) :: (nat_lit 318, m0) :: (nat_lit 320, o320) :: (nat_lit 321, o321) :: (nat_lit 322, m0) :: (nat_lit 324, o324) :: (nat_lit 325, m0) :: (nat_lit 327, o327) :: (nat_lit 328, o328) :: (nat_lit 329, m0) :: (nat_lit 331, o331) :: (nat_lit 332, m0) :: (nat_lit 334, o334) :: (nat_lit 335, o335) :: (nat_lit 336, m0) :: (nat_lit 338, o338) :: (nat_lit 339, m0) :: (nat_lit 341, o341) :: (nat_lit 342, o342) :: (nat_lit 343, m0) :: (nat_lit 345, o345) :: (nat_lit 346, m0) :: (nat_lit 348, o348) :: (nat_lit 349, o349) :: (nat_lit 350, m0) :: (nat_lit 352, o352) :: (nat_lit 353, m0) :: (nat_lit 355, o355) :: (nat_lit 356, o356) :: (nat_lit 357, m0) :: (nat_lit 359, o359) :: (nat_lit 360, m0) :: (nat_lit 362, o362) :: (nat_lit 363, o363) :: (nat_lit 364, m0) :: (nat_lit 366, o366) :: (nat_lit 367, m0) :: (nat_lit 369, o369) :: (nat_lit 370, o370) :: (nat_lit 371, m0) :: (nat_lit 373, o373) :: (nat_lit 374, m0) :: (nat_lit 376, o376) :: (nat_lit 377, o377) :: (nat_lit 378, m0) :: (nat_lit 380, o380) :: (nat_lit 381, m0) :: (nat_lit 383, o383) :: (nat_lit 384, o384) :: (nat_lit 385, m0) :: (nat_lit 387, o387) :: (nat_lit 388, m0) :: (nat_lit 390, o390) :: (nat_lit 391, o391) :: (nat_lit 392, m0) :: (nat_lit 394, o394) :: (nat_lit 395, m0) :: (nat_lit 397, o397) :: (nat_lit 398, o398) :: (nat_lit 399, m0) :: (nat_lit 401, o401) :: (nat_lit 402, m0) :: (nat_lit 404, o404) :: (nat_lit 405, o405) :: (nat_lit 406, m0) :: (nat_lit 408, o408) :: (nat_lit 409, m0) :: (nat_lit 411, o411) :: (nat_lit 412, o412) :: (nat_lit 413, m0) :: (nat_lit 415, o415) :: (nat_lit 416, m0) :: (nat_lit 418, o418) :: (nat_lit 419, o419) :: (nat_lit 420, m0) :: (nat_lit 422, o422) :: (nat_lit 423, m0) :: (nat_lit 425, o425) :: (nat_lit 426, o426) :: (nat_lit 427, m0) :: (nat_lit 429, o429) :: (nat_lit 430, m0) :: (nat_lit 432, o432) :: (nat_lit 433, o433) :: (nat_lit 441, m0) :: (nat_lit 443, o443) :: (nat_lit 444, m0) :: (nat_lit 446, o446) :: (nat_lit 447, o447) :: (nat_lit 448, o448) :: (nat_lit 449, o449 P) :: (nat_lit 450, o450) :: (nat_lit 451, o451) :: (nat_lit 452, o452) :: (nat_lit 455, m0) :: (nat_lit 457, o457) :: (nat_lit 458, m0) :: (nat_lit 460, o460) :: (nat_lit 461, o461) :: (nat_lit 462, m0) :: (nat_lit 464, o464) :: (nat_lit 465, m0) :: (nat_lit 467, o467) :: (nat_lit 468, o468) :: (nat_lit 469, m0) :: (nat_lit 471, o471) :: (nat_lit 472, m0) :: (nat_lit 474, o474) :: (nat_lit 475, o475) :: (nat_lit 476, m0) :: (nat_lit 478, o478) :: (nat_lit 479, m0) :: (nat_lit 481, o481) :: (nat_lit 482, o482) :: (nat_lit 483, m0) :: (nat_lit 486, o486) :: (nat_lit 487, o487) :: (nat_lit 488, m0) :: (nat_lit 490, o490) :: (nat_lit 491, m0) :: (nat_lit 493, o493) :: (nat_lit 494, o494) :: (nat_lit 495, m0) :: (nat_lit 497, o497) :: (nat_lit 498, m0) :: (nat_lit 500, o500) :: (nat_lit 501, o501) :: (nat_lit 502, m0) :: (nat_lit 504, o504) :: (nat_lit 505, m0) :: (nat_lit 507, o507) :: (nat_lit 508, o508) :: (nat_lit 509, m0) :: (nat_lit 511, o511) :: (nat_lit 512, m0) :: (nat_lit 514, o514) :: (nat_lit 515, o515) :: (nat_lit 516, m0) :: (nat_lit 518, o518) :: (nat_lit 519, m0) :: (nat_lit 521, o521) :: (nat_lit 522, o522) :: (nat_lit 523, m0) :: (nat_lit 525, o525) :: (nat_lit 526, m0) :: (nat_lit 528, o528) :: (nat_lit 529, o529) :: (nat_lit 537, m0) :: (nat_lit 539, o539) :: (nat_lit 540, m0) :: (nat_lit 542, o542) :: (nat_lit 543, o543) :: (nat_lit 544, o544) :: (nat_lit 545, o545 P) :: (nat_lit 546, o546) :: (nat_lit 547, o547) :: (nat_lit 548, o548) :: (nat_lit 551, m0) :: (nat_lit 553, o553) :: (nat_lit 554, m0) :: (nat_lit 556, o556) :: (nat_lit 557, o557) :: (nat_lit 558, m0) :: (nat_lit 560, o560) :: (nat_lit 561, m0) :: (nat_lit 563, o563) :: (nat_lit 564, o564) :: (nat_lit 565, m0) :: (nat_lit 567, o567) :: (nat_lit 568, m0) :: (nat_lit 570, o570) :: (nat_lit 571, o571) :: (nat_lit 572, m0) :: (nat_lit 574, o574) :: (nat_lit 575, m0) :: (nat_lit 577, o577) :: (nat_lit 578, o578) :: (nat_lit 579, m0) :: (nat_lit 581, o581) :: (nat_lit 582, m0) :: (nat_lit 584, o584) :: (nat_lit 585, o585) :: (nat_lit 586, m0) :: (nat_lit 589, o589) :: (nat_lit 590, o590) :: (nat_lit 591, m0) :: (nat_lit 593, o593) :: (nat_lit 594, m0) :: (nat_lit 596, o596) :: (nat_lit 597, o597) :: (nat_lit 598, m0) :: (nat_lit 600, o600) :: (nat_lit 601, m0) :: (nat_lit 603, o603) :: (nat_lit 604, o604) :: (nat_lit 605, m0) :: (nat_lit 607, o607) :: (nat_lit 608, m0) :: (nat_lit 610, o610) :: (nat_lit 611, o611) :: (nat_lit 612, m0) :: (nat_lit 614, o614) :: (nat_lit 615, m0) :: (nat_lit 617, o617) :: (nat_lit 618, o618) :: (nat_lit 619, m0) :: (nat_lit 621, o621) :: (nat_lit 622, m0) :: (nat_lit 624, o624) :: (nat_lit 625, o625) :: (nat_lit 626, m0) :: (nat_lit 628, o628) :: (nat_lit 629, m0) :: (nat_lit 631, o631) :: (nat_lit 632, o632) :: (nat_lit 633, m0) :: (nat_lit 635, o635) :: (nat_lit 636, m0) :: (nat_lit 638, o638) :: (nat_lit 639, o639) :: (nat_lit 640, m0) :: (nat_lit 642, o642) :: (nat_lit 643, m0) :: (nat_lit 645, o645) :: (nat_lit 646, o646) :: (nat_lit 647, m0) :: (nat_lit 649, o649) :: (nat_lit 650, m0) :: (nat_lit 652, o652) :: (nat_lit 653, o653) :: (nat_lit 654, m0) :: (nat_lit 656, o656) :: (nat_lit 657, m0) :: (nat_lit 659, o659) :: (nat_lit 660, o660) :: (nat_lit 661, m0) :: (nat_lit 663, o663) :: (nat_lit 664, m0) :: (nat_lit 666, o666) :: (nat_lit 667, o667) :: (nat_lit 668, m0) :: (nat_lit 670, o670) :: (nat_lit 671, m0) :: (nat_lit 673, o673) :: (nat_lit 674, o674) :: (nat_lit 675, m0) :: (nat_lit 677, m0) :: (nat_lit 678, m0) :: (nat_lit 680, o680) :: (nat_lit 681, o681) :: (nat_lit 682, m0) :: (nat_lit 684, o684) :: (nat_lit 685, m0) :: (nat_lit 687, o687) :: (nat_lit 688, o688) :: (nat_lit 689, m0) :: (nat_lit 691, o691) :: (nat_lit 692, m0) :: (nat_lit 694, o694) :: (nat_lit 695, o695) :: (nat_lit 696, m0) :: (nat_lit 698, o698) :: (nat_lit 699, m0) :: (nat_lit 701, o701) :: (nat_lit 702, o702) :: (nat_lit 703, m0) :: (nat_lit 705, o705) :: (nat_lit 706, m0) :: (nat_lit 708, o708) :: (nat_lit 709, o709) :: (nat_lit 710, m0) :: (nat_lit 712, o712) :: (nat_lit 713, m0) :: (nat_lit 715, o715) :: (nat_lit 716, o716) :: (nat_lit 717, m0) :: (nat_lit 719, o719) :: (nat_lit 720, m0) :: (nat_lit 722, o722) :: (nat_lit 723, o723) :: (nat_lit 724, m0) :: (nat_lit 726, o726) :: (nat_lit 727, m0) :: (nat_lit 729, o729) :: (nat_lit 730, o730) :: (nat_lit 731, m0) :: (nat_lit 733, o733) :: (nat_lit 734, m0) :: (nat_lit 736, o736) :: (nat_lit 737, o737) :: (nat_lit 738, m0) :: (nat_lit 740, o740) :: (nat_lit 741, m0) :: (nat_lit 743, o743) :: (nat_lit 744, o744) :: (nat_lit 745, m0) :: (nat_lit 747, o747) :: (nat_lit 748, m0) :: (nat_lit 750, o750) :: (nat_lit 751, o751) :: (nat_lit 752, m0) :: (nat_lit 754, o754) :: (nat_lit 755, m0) :: (nat_lit 757, o757) :: (nat_lit 758, o758) :: (nat_lit 759, m0) :: (nat_lit 761, o761) :: (nat_lit 762, m0) :: (nat_lit 764, o764) :: (nat_lit 765, o765) :: (nat_lit 766, m0) :: (nat_lit 768, o768) :: (nat_lit 769, m0) :: (nat_lit 771, o771) :: (nat_lit 772, o772) :: (nat_lit 773, m0) :: (nat_lit 775, m0) :: (nat_lit 776, m0) :: (nat_lit 778, o778) :: (nat_lit 779, o779) :: (nat_lit 787, o787) :: (nat_lit 788, m0) :: (nat_lit 790, o790) :: (nat_lit 791, m0) :: (nat_lit 793, o793) :: (nat_lit 794, o794) :: (nat_lit 795, o795) :: (nat_lit 796, o796 P) :: (nat_lit 797, o797) :: (nat_lit 798, o798) :: (nat_lit 799, o799) :: (nat_lit 809, m0) :: (nat_lit 811, o811) :: (nat_lit 812, m0) :: (nat_lit 814, o814) :: (nat_lit 815, o815) :: (nat_lit 816, o816) :: (nat_lit 817, o817 P) :: (nat_lit 818, o818) :: (nat_lit 819, o819) :: (nat_lit 820, o820) :: (nat_lit 823, o823) :: (nat_lit 824, m0) :: (nat_lit 826, o826) :: (nat_lit 827, m0) :: (nat_lit 829, o829) :: (nat_lit 830, o830) :: (nat_lit 831, m0) :: (nat_lit 833, o833) :: (nat_lit 834, m0) :: (nat_lit 836, o836) :: (nat_lit 837, o837) :: (nat_lit 838, m0) :: (nat_lit 840, o840) :: (nat_lit 841, m0) :: (nat_lit 843, o843) :: (nat_lit 844, o844) :: (nat_lit 845, m0) :: (nat_lit 847, o847) :: (nat_lit 848, m0) :: (nat_lit 850, o850) :: (nat_lit 851, o851) :: (nat_lit 852, m0) :: (nat_lit 854, o854) :: (nat_lit 855, m0) :: (nat_lit 857, o857) :: (nat_lit 858, o858) :: (nat_lit 859, m0) :: (nat_lit 861, o861) :: (nat_lit 862, m0) :: (nat_lit 864, o864) :: (nat_lit 865, o865) :: (nat_lit 866, m0) :: (nat_lit 869, o869) :: (nat_lit 870, o870) :: (nat_lit 871, m0) :: (nat_lit 873, o873) :: (nat_lit 874, m0) :: (nat_lit 876, o876) :: (nat_lit 877, o877) :: (nat_lit 878, m0) :: (nat_lit 881, o881) :: (nat_lit 882, o882) :: []
noncomputable def asK : List Addr := [2, 3, 15, 17, 18, 20, 21, 22, 29, 31, 32, 34, 35, 36, 37, 38, 39, 42, 49, 50, 51, 54, 61, 62, 63, 66, 73, 74, 75, 78, 85, 87, 88, 90, 91, 92, 93, 94, 97, 99, 100, 102, 103, 111, 113, 114, 116, 117, 118, 120, 121, 123, 124, 125, 127, 128, 130, 131, 132, 134, 135, 137, 138, 139, 140, 141, 142, 143, 146, 148, 149, 151, 152, 153, 155, 156, 158, 159, 160, 162, 163, 165, 166, 167, 169, 170, 172, 173, 174, 176, 177, 179, 180, 181, 183, 184, 186, 187, 188, 190, 191, 193, 194, 195, 197, 198, 200, 201, 202, 204, 205, 207, 208, 209, 211, 212, 214, 215, 216, 218, 219, 221, 222, 223, 225, 226, 228, 229, 230, 232, 233, 235, 236, 237, 239, 240, 242, 243, 244, 246, 247, 249, 250, 251, 253, 254, 256, 257, 258, 260, 261, 263, 264, 265, 267, 268, 270, 271, 272, 274, 275, 277, 278, 279, 281, 282, 284, 285, 286, 288, 289, 291, 292, 293, 294, 296, 297, 299, 300, 301, 303, 304, 306, 307, 308, 310, 311, 313, 314, 315, 317, 318, 320, 321, 322, 324, 325, 327, 328, 329, 331, 332, 334, 335, 336, 338, 339, 341, 342, 343, 345, 346, 348, 349, 350, 352, 353, 355, 356, 357, 359, 360, 362, 363, 364, 366, 367, 369, 370, 371, 373, 374, 376, 377, 378, 380, 381, 383, 384, 385, 387, 388, 390, 391, 392, 394, 395, 397, 398, 399, 401, 402, 404, 405, 406, 408, 409, 411, 412, 413, 415, 416, 418, 419, 420, 422, 423, 425, 426, 427, 429, 430, 432, 433, 441, 443, 444, 446, 447, 448, 449, 450, 451, 452, 455, 457, 458, 460, 461, 462, 464, 465, 467, 468, 469, 471, 472, 474, 475, 476, 478, 479, 481, 482, 483, 486, 487, 488, 490, 491, 493, 494, 495, 497, 498, 500, 501, 502, 504, 505, 507, 508, 509, 511, 512, 514, 515, 516, 518, 519, 521, 522, 523, 525, 526, 528, 529, 537, 539, 540, 542, 543, 544, 545, 546, 547, 548, 551, 553, 554, 556, 557, 558, 560, 561, 563, 564, 565, 567, 568, 570, 571, 572, 574, 575, 577, 578, 579, 581, 582, 584, 585, 586, 589, 590, 591, 593, 594, 596, 597, 598, 600, 601, 603, 604, 605, 607, 608, 610, 611, 612, 614, 615, 617, 618, 619, 621, 622, 624, 625, 626, 628, 629, 631, 632, 633, 635, 636, 638, 639, 640, 642, 643, 645, 646, 647, 649, 650, 652, 653, 654, 656, 657, 659, 660, 661, 663, 664, 666, 667, 668, 670, 671, 673, 674, 675, 677, 678, 680, 681, 682, 684, 685, 687, 688, 689, 691, 692, 694, 695, 696, 698, 699, 701, 702, 703, 705, 706, 708, 709, 710, 712, 713, 715, 716, 717, 719, 720, 722, 723, 724, 726, 727, 729, 730, 731, 733, 734, 736, 737, 738, 740, 741, 743, 744, 745, 747, 748, 750, 751, 752, 754, 755, 757, 758, 759, 761, 762, 764, 765, 766, 768, 769, 771, 772, 773, 775, 776, 778, 779, 787, 788, 790, 791, 793, 794, 795, 796, 797, 798, 799, 809, 811, 812, 814, 815, 816, 817, 818, 819, 820, 823, 824, 826, 827, 829, 830, 831, 833, 834, 836, 837, 838, 840, 841, 843, 844, 845, 847, 848, 850, 851, 852, 854, 855, 857, 858, 859, 861, 862, 864, 865, 866, 869, 870, 871, 873, 874, 876, 877, 878, 881, 882]
noncomputable abbrev looseL : List Str := [Str.ofString "_wall", Str.ofString "F77Error", Str.ofString "CheckFault", Str.ofString "RunFault", Str.ofString "StopRun", Str.ofString "TooLong", Str.ofString "INTEGER", Str.ofString "REAL", Str.ofString "DOUBLE", Str.ofString "COMPLEX", Str.ofString "LOGICAL", Str.ofString "CHARACTER", Str.ofString "units_of", Str.ofString "SECOND", Str.ofString "LABEL", Str.ofString "Memory", Str.ofString "need_units", Str.ofString "read_cell", Str.ofString "load_number", Str.ofString "store_number", Str.ofString "load_text", Str.ofString "store_text", Str.ofString "pad", Str.ofString "unit_size", Str.ofString "element_place", Str.ofString "sub_place", Str.ofString "fit_int", Str.ofString "int_add", Str.ofString "int_sub", Str.ofString "int_mul", Str.ofString "cut_quotient", Str.ofString "int_div", Str.ofString "inverse_power", Str.ofString "int_power", Str.ofString "order_of", Str.ofString "holds", Str.ofString "int_binary", Str.ofString "NOUGHT", Str.ofString "GUARD", Str.ofString "EXACT_POWER", Str.ofString "count_digits", Str.ofString "strip_zeros", Str.ofString "round_digits", Str.ofString "round_real", Str.ofString "exact_add", Str.ofString "exact_mul", Str.ofString "real_neg", Str.ofString "quotient", Str.ofString "real_add", Str.ofString "real_sub", Str.ofString "real_mul", Str.ofString "real_div", Str.ofString "real_compare", Str.ofString "real_to_int", Str.ofString "raised", Str.ofString "real_power", Str.ofString "digits_of", Str.ofString "real_binary", Str.ofString "is_zero", Str.ofString "trip_count", Str.ofString "Run", Str.ofString "evaluate", Str.ofString "named_place", Str.ofString "bound_of", Str.ofString "part_place", Str.ofString "place_of", Str.ofString "eval_const", Str.ofString "eval_place", Str.ofString "reckon", Str.ofString "eval_binary", Str.ofString "eval_compare", Str.ofString "plain_expressions", Str.ofString "Flow", Str.ofString "note_label", Str.ofString "note_arm", Str.ofString "open_arm", Str.ofString "note_ends", Str.ofString "flow_of", Str.ofString "leads_in", Str.ofString "sign_of", Str.ofString "flow_for", Str.ofString "execute", Str.ofString "count_steps", Str.ofString "count_step", Str.ofString "run_unit", Str.ofString "jump_to", Str.ofString "store_value", Str.ofString "do_assign", Str.ofString "label_place", Str.ofString "do_setlabel", Str.ofString "label_in", Str.ofString "assign_statements", Str.ofString "do_goto", Str.ofString "do_cgoto", Str.ofString "do_agoto", Str.ofString "do_aif", Str.ofString "do_lif", Str.ofString "do_if", Str.ofString "do_arm", Str.ofString "do_on", Str.ofString "do_do", Str.ofString "step_loops", Str.ofString "do_return", Str.ofString "do_end", Str.ofString "do_stop", Str.ofString "control_statements", Str.ofString "Limits", Str.ofString "UnitTree", Str.ofString "_law_cubic", Str.ofString "_law_asked", Str.ofString "_law_real", Str.ofString "_law_op", Str.ofString "_law_lay", Str.ofString "_law_horner", Str.ofString "_law_rounds", Str.ofString "_law_rule", Str.ofString "_law_gain"]
noncomputable def qv : Program := { PySem.Challenge.pw_sz0042_01 with main := { PySem.Challenge.pw_sz0042_01.main with body := [stAt 129] } }
theorem asK_eq : ∀ P, asK = (KK P).map (·.1) := fun _ => by kernel_rfl
noncomputable def HK : Hook := kHook KK asK asK_eq
noncomputable abbrev B0 : List Frame := [topFrame ⟨0, 0, 0, 0⟩]
theorem run_pre (w : World) (os : OsState) : PySem.W.Fast.tw15667345088766844465 PySem.W.Fast.tw14364793385576792824 PySem.Challenge.pw_sz0042_01 w 11 (some (.ref 6)) 12 ⟨boot_heap w.params, #[], boot_drawn, boot_toks, os⟩ (topStub PySem.Challenge.pw_sz0042_01) =
    some ((st0 (TS w.params) 15 187 os).abs, ⟨PySem.W.Fast.tw11892475500146522536 PySem.W.Fast.tw14364793385576792824 cE, cE, ⟨0, 0, 0, 0⟩, B0⟩) := by kernel_rfl
theorem run_block (w : World) (os : OsState) : PySem.W.Fast.tw14374325043358763698 PySem.W.Fast.tw14364793385576792824 PySem.Challenge.pw_sz0042_01 w 11 (some (.ref 6)) 1 1 (st0 (TS w.params) 15 187 os).abs (blockOf bE envE cE ⟨0, 0, 0, 0⟩ B0) =
    some (Flow.next, (st0 (TS w.params) 15 187 os).abs, cE, ⟨0, 0, 0, 0⟩) := by kernel_rfl
theorem run_fin (w : World) (os : OsState) : PySem.W.Fast.tw14082659384304107361 PySem.W.Fast.tw14364793385576792824 PySem.Challenge.pw_sz0042_01 w 11 (some (.ref 6)) 2 (st0 (T17 w.params) 883 1507 os).abs ⟨doneF .next, cE, ⟨643, 0, 664, 97⟩, B0⟩ =
    some ⟨H1 w.params, #[], {}, 1507, os⟩ := by kernel_rfl
theorem bE_end : bE.drop 130 = [] := by kernel_rfl
theorem chain_step {p : Program} {w : World} {n N i l : Nat} {s s' r : Shared} {pos p' : Pos} (j : Nat) (hj : j = i + l)
    (h : segRun treeTable p w 11 (some (.ref 6)) 1 n s (piecesOf ((bE.drop i).take l) envE cE pos B0) = some (.next, s', cE, p'))
    (k : topRun treeTable p w 11 (some (.ref 6)) N s' (restOf (bE.drop j) envE cE p' B0) = some r) :
    topRun treeTable p w 11 (some (.ref 6)) (n + N) s (restOf (bE.drop i) envE cE pos B0) = some r := by
  have e : bE.drop i = (bE.drop i).take l ++ bE.drop j := by
    rw [hj, ← List.drop_drop]
    exact (List.take_append_drop l _).symm
  have := piece_app (rest := bE.drop j) h k
  rw [← e] at this
  exact this
theorem seg_use {p : Program} {w : World} {n : Nat} {s s' : SharedT} {t : Thread} {c : Code} {q : Pos} (h : PySem.W.Fast.tw10110043849684766642 PySem.W.Fast.tw14364793385576792824 p w 11 (some (.ref 6)) 1 n s t = some (.next, s', c, q)) :
    segRun treeTable p w 11 (some (.ref 6)) 1 n s.abs t = some (.next, s'.abs, c, q) := by
  apply segRun_of
  rw [PySem.W.Fast.te10110043849684766642, PySem.W.Fast.te14364793385576792824]
  exact h
theorem run_all (w : World) (os : OsState) : topRun treeTable PySem.Challenge.pw_sz0042_01 w 11 (some (.ref 6)) (12 + (1 + (267 + (214 + (214 + (214 + (365 + (385 + (394 + (386 + (392 + (392 + (346 + (393 + (379 + (400 + (388 + (384 + (148 + 2))))))))))))))))))) ⟨boot_heap w.params, #[], boot_drawn, boot_toks, os⟩ (topStub PySem.Challenge.pw_sz0042_01) =
    some ⟨H1 w.params, #[], {}, 1507, os⟩ := by
  have z := run_fin w os
  rw [← PySem.W.Fast.te14082659384304107361, ← PySem.W.Fast.te14364793385576792824] at z
  have z' := piece_nil (env := envE) z
  rw [← bE_end] at z' 
  have z17 := chain_step (i := 125) (l := 5) 130 rfl (seg_use (pc17 w os)) z'
  have z16 := chain_step (i := 118) (l := 7) 125 rfl (seg_use (pc16 w os)) z17
  have z15 := chain_step (i := 111) (l := 7) 118 rfl (seg_use (pc15 w os)) z16
  have z14 := chain_step (i := 99) (l := 12) 111 rfl (seg_use (pc14 w os)) z15
  have z13 := chain_step (i := 86) (l := 13) 99 rfl (seg_use (pc13 w os)) z14
  have z12 := chain_step (i := 80) (l := 6) 86 rfl (seg_use (pc12 w os)) z13
  have z11 := chain_step (i := 68) (l := 12) 80 rfl (seg_use (pc11 w os)) z12
  have z10 := chain_step (i := 61) (l := 7) 68 rfl (seg_use (pc10 w os)) z11
  have z9 := chain_step (i := 49) (l := 12) 61 rfl (seg_use (pc9 w os)) z10
  have z8 := chain_step (i := 34) (l := 15) 49 rfl (seg_use (pc8 w os)) z9
  have z7 := chain_step (i := 21) (l := 13) 34 rfl (seg_use (pc7 w os)) z8
  have z6 := chain_step (i := 18) (l := 3) 21 rfl (seg_use (pc6 w os)) z7
  have z5 := chain_step (i := 6) (l := 12) 18 rfl (seg_use (pc5 w os)) z6
  have z4 := chain_step (i := 5) (l := 1) 6 rfl (seg_use (pc4 w os)) z5
  have z3 := chain_step (i := 4) (l := 1) 5 rfl (seg_use (pc3 w os)) z4
  have z2 := chain_step (i := 3) (l := 1) 4 rfl (seg_use (pc2 w os)) z3
  have z1 := chain_step (i := 0) (l := 3) 3 rfl (seg_use (pc1 w os)) z2
  have y := run_block w os
  rw [← PySem.W.Fast.te14374325043358763698, ← PySem.W.Fast.te14364793385576792824] at y
  have y' := piece_block y z1
  have x := run_pre w os
  rw [← PySem.W.Fast.te15667345088766844465, ← PySem.W.Fast.te14364793385576792824, ← PySem.W.Fast.te11892475500146522536] at x
  exact go_top x y'
noncomputable abbrev SF (w : World) (os : OsState) : Shared := ⟨H1 w.params, #[], {}, 1507, os⟩
theorem lk1 (w : World) (os : OsState) : (staticsOk (PySem.W.Fast.tw5923862056798008813 PySem.Challenge.pw_sz0042_01.main.body) (boot_heap w.params) (H1 w.params) && namesBound PySem.Challenge.pw_sz0042_01 (H1 w.params) && gensDone (SF w os) && laidKept (boot_heap w.params) (H1 w.params)) = true := by kernel_rfl
theorem lk2 (w : World) (os : OsState) : PySem.W.Fast.tw5160383126252970620 ((PySem.W.Fast.tw3399658132070893891 qv).map (·.name)) (PySem.W.Fast.tw5991557255702980513 qv) [] { (SF w os) with gens := #[] } = expectedOf qv := by kernel_rfl
theorem lk3 (w : World) (os : OsState) : (SF w os).heap.bltView = bltViewBooted := by kernel_rfl
noncomputable abbrev rowW : RowW := PySem.Challenge.rw_sz0042_01.row.toRowW
noncomputable abbrev XtL (s : Shared) : Bool := xlAt qv [] s && recOk (RowW.records rowW) s
theorem lk4 (w : World) (os : OsState) : (PySem.W.Fast.tw10880121769531294198 (SF w os).heap (PySem.W.Fast.tw821141287760084731 qv looseL) ((PySem.W.Fast.tw3399658132070893891 qv).map (·.name)) ((PySem.W.Fast.tw7409074990110511671 qv).map (·.1)) ((PySem.W.Fast.tw13664370479719496447 qv (PySem.W.Fast.tw821141287760084731 qv looseL)).map (·.name)) && PySem.W.Fast.tw14722251495701143533 (SF w os).heap (PySem.W.Fast.tw5923862056798008813 PySem.Challenge.pw_sz0042_01.main.body) && (SF w os).heap.isNs mainGlobals && (SF w os).heap.isNs builtinsNs && PySem.W.Fast.tw10994771534591457954 qv (SF w os).heap && XtL (SF w os) && (if true then (SF w os).gens.size == 0 else !leftWithCleanup (SF w os).gens)) = true := by kernel_rfl
theorem lk5 (w : World) (os : OsState) : PySem.W.Fast.tw479339242167458305 qv (SF w os) = true := by kernel_rfl
theorem lk6 (w : World) (os : OsState) : PySem.W.Fast.tw16090120013241838585 qv (PySem.W.Fast.tw3247288618530077131 qv) (SF w os) = pinGoodD (PySem.W.Fast.tw3247288618530077131 qv) := by kernel_rfl
theorem lk7 (w : World) (os : OsState) : PySem.W.Fast.tw2386780881361962483 qv (PySem.W.Fast.tw821141287760084731 qv looseL) (SF w os) = plainGoodE qv (PySem.W.Fast.tw821141287760084731 qv looseL) := by kernel_rfl
theorem lk8 (w : World) (os : OsState) : PySem.W.Fast.tw11698064438423848299 qv looseL (SF w os) = plainGoodD qv looseL := by kernel_rfl
theorem lk9 (w : World) (os : OsState) : PySem.W.Fast.tw7317090234206586261 qv (SF w os) = wideGood qv := by kernel_rfl
theorem lk10 (w : World) (os : OsState) : PySem.W.Fast.tw7369524293546568484 qv looseL (SF w os) = clsGoodW qv looseL := by kernel_rfl
theorem lk11 (w : World) (os : OsState) : HK.obs (SF w os) = HK.val w := by kernel_rfl
theorem lk_seen (w : World) (os : OsState) : openSeen qv looseL (importedModules PySem.Challenge.pw_sz0042_01.main.body) XtL true (SF w os) = openGood qv looseL := by
  refine @dq _ (by
  have h2 := lk2 w os
  have h4 := lk4 w os
  have h5 := lk5 w os
  have h6 := lk6 w os
  have h7 := lk7 w os
  have h8 := lk8 w os
  have h9 := lk9 w os
  have h10 := lk10 w os
  rw [← PySem.W.Fast.te5160383126252970620, ← PySem.W.Fast.te3399658132070893891, ← PySem.W.Fast.te5991557255702980513] at h2
  rw [← PySem.W.Fast.te10880121769531294198, ← PySem.W.Fast.te821141287760084731, ← PySem.W.Fast.te3399658132070893891, ← PySem.W.Fast.te7409074990110511671, ← PySem.W.Fast.te13664370479719496447, ← PySem.W.Fast.te14722251495701143533, ← PySem.W.Fast.te5923862056798008813, ← PySem.W.Fast.te10994771534591457954] at h4
  rw [← PySem.W.Fast.te479339242167458305] at h5
  rw [← PySem.W.Fast.te16090120013241838585, ← PySem.W.Fast.te3247288618530077131] at h6
  rw [← PySem.W.Fast.te2386780881361962483, ← PySem.W.Fast.te821141287760084731] at h7
  rw [← PySem.W.Fast.te11698064438423848299] at h8
  rw [← PySem.W.Fast.te7317090234206586261] at h9
  rw [← PySem.W.Fast.te7369524293546568484] at h10
  unfold openSeen openGood
  exact Prod.ext h2 (Prod.ext (lk3 w os) (Prod.ext h4 (Prod.ext h5 (Prod.ext h6 (Prod.ext h7 (Prod.ext h8 (Prod.ext h9 h10)))))))) fun q hf => ?_
  simpa only using fq hf (@Eq _ 5 5)
theorem open_eq : opening PySem.Challenge.pw_sz0042_01 = plainProg PySem.Challenge.pw_sz0042_01.main.scope.names := by kernel_rfl
theorem fence_eq : ∀ s, fenceModules? PySem.Challenge.pw_sz0042_01 s = some s := fun _ => by kernel_rfl
theorem size_eq (w : World) : ((boot_heap w.params).isNs mainGlobals && (#[] : Array GenState).size == 0, (boot_heap w.params).objs.size, PySem.W.Fast.tw8920871248978507458 (boot_heap w.params) mainGlobals "__annotations__") = (true, 11, some (.ref 6)) := by kernel_rfl
theorem left_all : LeftO PySem.Challenge.pw_sz0042_01 qv looseL XtL HK.obs HK.val 12000 := by
  refine LeftO.of_pieces (H₀ := boot_heap) (H₁ := H1) (gs₀ := #[]) (gs₁ := #[]) (d₀ := boot_drawn) (d₁ := {}) (k₀ := boot_toks) (k₁ := 1507) (m₀ := 11) (ann := some (.ref 6)) (boot_open open_eq rfl fence_eq) ?_ run_all rfl ?_
  · intro w
    have h := size_eq w
    rw [← PySem.W.Fast.te8920871248978507458] at h
    exact h
  · intro w
    funext os
    have h1 := lk1 w os
    rw [← PySem.W.Fast.te5923862056798008813] at h1
    exact Prod.ext h1 (Prod.ext (lk_seen w os) (lk11 w os))
theorem said_fast : PySem.W.Fast.tw9446332074065402090 PySem.Challenge.rw_sz0042_01 = true := by kernel_rfl
theorem said_law : PySem.Challenge.rw_sz0042_01.wellSaid = true := by
  rw [PySem.W.Fast.te9446332074065402090]
  exact said_fast
theorem chains_ok : (chainsOk qv && opensWell PySem.Challenge.rw_sz0042_01.row.prog && (frees PySem.Challenge.rw_sz0042_01.row.toRowW && PySem.Challenge.rw_sz0042_01.row.within.isEmpty)) = true := by kernel_rfl
theorem bare_ok : PySem.Challenge.rw_sz0042_01.row.prog.bare := ⟨rfl, rfl, rfl, rfl, rfl, by decide +kernel⟩
theorem promised_ok : PySem.Challenge.rw_sz0042_01.row.toRowW.promised := by w_witness2
theorem names_ok : namesOk qv (looseW qv looseL) (namesW qv looseL) = true := by
  have h : PySem.W.Fast.tw17448422675489707002 qv (PySem.W.Fast.tw821141287760084731 qv looseL) (namesW qv looseL) = true := by kernel_rfl
  rw [← PySem.W.Fast.te17448422675489707002, ← PySem.W.Fast.te821141287760084731] at h
  exact h
theorem imp_none : importsNone qv = true := by
  rw [PySem.W.Fast.te2458874890965802552]
  kernel_rfl
end
theorem neW : Nonempty World := ⟨PySem.W.aWorld 0⟩
theorem nePar : Nonempty Params := ⟨(PySem.W.aWorld 0).params⟩
theorem neA : Nonempty Around := ⟨{}⟩
theorem neS : Nonempty Shared := ⟨{}⟩
theorem neH : Nonempty Heap := ⟨{}⟩
theorem neP {A B : Type} (a : Nonempty A) (b : Nonempty B) : Nonempty (A × B) := a.elim fun x => b.elim fun y => ⟨(x, y)⟩
structure BAR (k : Nat) : Prop where
  t : True
theorem bar0 : BAR 0 := ⟨trivial⟩
theorem barS {k : Nat} (_ : BAR k) : BAR (Nat.succ k) := ⟨trivial⟩
theorem useBar {k : Nat} {G : Prop} (_ : BAR k) (g : G) : G := g
structure Box (G : Prop) : Prop where
  o : G
open Classical in
noncomputable def ep {A : Type} (k : Nat) (n : Nonempty A) (Ψ : A → Prop) : A := if h : ∃ a, ¬ Ψ a then Classical.choose h else Classical.choice n
theorem ep_h {A : Type} {k : Nat} {n : Nonempty A} {Ψ : A → Prop} (h : Ψ (ep k n Ψ)) (a : A) : Ψ a := by
  unfold ep at h
  by_cases e : ∃ a, ¬ Ψ a
  · rw [dif_pos e] at h; exact absurd h (Classical.choose_spec e)
  · exact Classical.byContradiction fun q => e ⟨a, q⟩
theorem rm0 {x D R : Nat} (h : x + D < R) : x < R := Nat.lt_of_le_of_lt (Nat.le_add_right _ _) h
theorem rm1 {x D R a : Nat} (h : x + D < R) (e : a ≤ D) : x + a < R := Nat.lt_of_le_of_lt (Nat.add_le_add_left e _) h
theorem rm2 {x D R a b : Nat} (h : x + D < R) (e : a + b ≤ D) : x + a + b < R := Nat.lt_of_le_of_lt (Nat.le_trans (Nat.le_of_eq (Nat.add_assoc x a b)) (Nat.add_le_add_left e _)) h
theorem rm3 {x D R a b c : Nat} (h : x + D < R) (e : a + b + c ≤ D) : x + a + b + c < R := by omega
theorem gt1 {a b : Nat} {P : Prop} (h : a < b ∧ P) : b ≠ a := Nat.ne_of_gt h.1
theorem gt2 {a b : Nat} {P R : Prop} (h : P ∧ a < b ∧ R) : b ≠ a := Nat.ne_of_gt h.2.1
theorem gt3 {a b : Nat} {P R S : Prop} (h : P ∧ R ∧ a < b ∧ S) : b ≠ a := Nat.ne_of_gt h.2.2.1
theorem lt2' {a b : Nat} {P R : Prop} (h : P ∧ a < b ∧ R) : a ≠ b := Nat.ne_of_lt h.2.1
theorem lt3' {a b : Nat} {P R S : Prop} (h : P ∧ R ∧ a < b ∧ S) : a ≠ b := Nat.ne_of_lt h.2.2.1
theorem lt4' {a b : Nat} {P R S T : Prop} (h : P ∧ R ∧ S ∧ a < b ∧ T) : a ≠ b := Nat.ne_of_lt h.2.2.2.1
theorem gt4 {a b : Nat} {P R S T : Prop} (h : P ∧ R ∧ S ∧ a < b ∧ T) : b ≠ a := Nat.ne_of_gt h.2.2.2.1
theorem gt5 {a b : Nat} {P1 P2 P3 P4 Z : Prop} (h : P1 ∧ P2 ∧ P3 ∧ P4 ∧ a < b ∧ Z) : b ≠ a := Nat.ne_of_gt h.2.2.2.2.1
theorem lt5' {a b : Nat} {P1 P2 P3 P4 Z : Prop} (h : P1 ∧ P2 ∧ P3 ∧ P4 ∧ a < b ∧ Z) : a ≠ b := Nat.ne_of_lt h.2.2.2.2.1
theorem gt6 {a b : Nat} {P1 P2 P3 P4 P5 Z : Prop} (h : P1 ∧ P2 ∧ P3 ∧ P4 ∧ P5 ∧ a < b ∧ Z) : b ≠ a := Nat.ne_of_gt h.2.2.2.2.2.1
theorem lt6' {a b : Nat} {P1 P2 P3 P4 P5 Z : Prop} (h : P1 ∧ P2 ∧ P3 ∧ P4 ∧ P5 ∧ a < b ∧ Z) : a ≠ b := Nat.ne_of_lt h.2.2.2.2.2.1
theorem gt7 {a b : Nat} {P1 P2 P3 P4 P5 P6 Z : Prop} (h : P1 ∧ P2 ∧ P3 ∧ P4 ∧ P5 ∧ P6 ∧ a < b ∧ Z) : b ≠ a := Nat.ne_of_gt h.2.2.2.2.2.2.1
theorem lt7' {a b : Nat} {P1 P2 P3 P4 P5 P6 Z : Prop} (h : P1 ∧ P2 ∧ P3 ∧ P4 ∧ P5 ∧ P6 ∧ a < b ∧ Z) : a ≠ b := Nat.ne_of_lt h.2.2.2.2.2.2.1
theorem gt8 {a b : Nat} {P1 P2 P3 P4 P5 P6 P7 Z : Prop} (h : P1 ∧ P2 ∧ P3 ∧ P4 ∧ P5 ∧ P6 ∧ P7 ∧ a < b ∧ Z) : b ≠ a := Nat.ne_of_gt h.2.2.2.2.2.2.2.1
theorem lt8' {a b : Nat} {P1 P2 P3 P4 P5 P6 P7 Z : Prop} (h : P1 ∧ P2 ∧ P3 ∧ P4 ∧ P5 ∧ P6 ∧ P7 ∧ a < b ∧ Z) : a ≠ b := Nat.ne_of_lt h.2.2.2.2.2.2.2.1
theorem oD {p : Prop} {i : Decidable p} (h : @decide p i = true) : p := of_decide_eq_true h
theorem oE {a b c : Int} (h : a = b) (q : decide (b < c) = true) : a < c := h ▸ of_decide_eq_true q
theorem oF {a b c : Int} (h : a < b) (q : decide (b ≤ c) = true) : a < c := Int.lt_of_lt_of_le h (of_decide_eq_true q)
theorem oG {a b c : Nat} (h : a < b) (q : decide (b ≤ c) = true) : a < c := Nat.lt_of_lt_of_le h (of_decide_eq_true q)
theorem oH {a b c : Nat} (h : a ≤ b) (q : decide (b ≤ c) = true) : a ≤ c := Nat.le_trans h (of_decide_eq_true q)
theorem oI {a b c : Nat} (h : a ≤ b) (q : decide (b < c) = true) : a < c := Nat.lt_of_le_of_lt h (of_decide_eq_true q)
theorem oJ {a b c : Int} (h : a = b) (q : decide (c ≤ b) = true) : c ≤ a := h ▸ of_decide_eq_true q
@[irreducible] noncomputable def mkW1 {A1 : Type} {k : Nat} {n : Nonempty (A1)} {Ψ : A1 → Prop} : A1 := ep k n (fun q => Ψ q)
theorem mkW1.h {A1 : Type} {k : Nat} {n : Nonempty (A1)} {Ψ : A1 → Prop} (h : (fun W : A1 => Ψ W) (mkW1 (k := k) (n := n) (Ψ := Ψ))) : ∀ q : A1, Ψ q := by
  delta mkW1 at h
  exact ep_h (k := k) (n := n) (Ψ := fun q => Ψ q) h
theorem goW1 {A1 : Type} {k : Nat} {n : Nonempty (A1)} {Ψ : A1 → Prop} (x1 : A1) : (by haveI h : (mkW1 (k := k) (n := n) (Ψ := Ψ)) = x1 → Ψ x1 → ∀ a1, Ψ a1 := (fun e1 h a1 => mkW1.h (Eq.mpr (congrArg Ψ e1) h) (a1)); exact type_of% h) := fun e1 h a1 => mkW1.h (Eq.mpr (congrArg Ψ e1) h) (a1)
@[irreducible] noncomputable def mkW2 {A1 A2 : Type} {k : Nat} {n : Nonempty (A1 × A2)} {Ψ : A1 → A2 → Prop} : A1 × A2 := ep k n (fun q => Ψ q.1 q.2)
theorem mkW2.h {A1 A2 : Type} {k : Nat} {n : Nonempty (A1 × A2)} {Ψ : A1 → A2 → Prop} (h : (fun W : A1 × A2 => Ψ W.1 W.2) (mkW2 (k := k) (n := n) (Ψ := Ψ))) : ∀ q : A1 × A2, Ψ q.1 q.2 := by
  delta mkW2 at h
  exact ep_h (k := k) (n := n) (Ψ := fun q => Ψ q.1 q.2) h
theorem goW2 {A1 A2 : Type} {k : Nat} {n : Nonempty (A1 × A2)} {Ψ : A1 → A2 → Prop} (W : A1 × A2) (eW : W = (mkW2 (k := k) (n := n) (Ψ := Ψ))) (x1 : A1) (x2 : A2) : (by haveI h : W.1 = x1 → W.2 = x2 → Ψ x1 x2 → ∀ a1 a2, Ψ a1 a2 := (fun e1 e2 h a1 a2 => mkW2.h (eW ▸ (show (fun W : A1 × A2 => Ψ W.1 W.2) W from Eq.mpr (congr (congrArg Ψ e1) e2) h)) (a1, a2)); unfold Prod.fst Prod.snd at h; exact type_of% h) := fun e1 e2 h a1 a2 => mkW2.h (eW ▸ (show (fun W : A1 × A2 => Ψ W.1 W.2) W from Eq.mpr (congr (congrArg Ψ e1) e2) h)) (a1, a2)
@[irreducible] noncomputable def mkW3 {A1 A2 A3 : Type} {k : Nat} {n : Nonempty (A1 × A2 × A3)} {Ψ : A1 → A2 → A3 → Prop} : A1 × A2 × A3 := ep k n (fun q => Ψ q.1 q.2.1 q.2.2)
theorem mkW3.h {A1 A2 A3 : Type} {k : Nat} {n : Nonempty (A1 × A2 × A3)} {Ψ : A1 → A2 → A3 → Prop} (h : (fun W : A1 × A2 × A3 => Ψ W.1 W.2.1 W.2.2) (mkW3 (k := k) (n := n) (Ψ := Ψ))) : ∀ q : A1 × A2 × A3, Ψ q.1 q.2.1 q.2.2 := by
  delta mkW3 at h
  exact ep_h (k := k) (n := n) (Ψ := fun q => Ψ q.1 q.2.1 q.2.2) h
theorem goW3 {A1 A2 A3 : Type} {k : Nat} {n : Nonempty (A1 × A2 × A3)} {Ψ : A1 → A2 → A3 → Prop} (W : A1 × A2 × A3) (eW : W = (mkW3 (k := k) (n := n) (Ψ := Ψ))) (x1 : A1) (x2 : A2) (x3 : A3) : (by haveI h : W.1 = x1 → W.2.1 = x2 → W.2.2 = x3 → Ψ x1 x2 x3 → ∀ a1 a2 a3, Ψ a1 a2 a3 := (fun e1 e2 e3 h a1 a2 a3 => mkW3.h (eW ▸ (show (fun W : A1 × A2 × A3 => Ψ W.1 W.2.1 W.2.2) W from Eq.mpr (congr (congr (congrArg Ψ e1) e2) e3) h)) (a1, a2, a3)); unfold Prod.fst Prod.snd at h; exact type_of% h) := fun e1 e2 e3 h a1 a2 a3 => mkW3.h (eW ▸ (show (fun W : A1 × A2 × A3 => Ψ W.1 W.2.1 W.2.2) W from Eq.mpr (congr (congr (congrArg Ψ e1) e2) e3) h)) (a1, a2, a3)
@[irreducible] noncomputable def mkW4 {A1 A2 A3 A4 : Type} {k : Nat} {n : Nonempty (A1 × A2 × A3 × A4)} {Ψ : A1 → A2 → A3 → A4 → Prop} : A1 × A2 × A3 × A4 := ep k n (fun q => Ψ q.1 q.2.1 q.2.2.1 q.2.2.2)
theorem mkW4.h {A1 A2 A3 A4 : Type} {k : Nat} {n : Nonempty (A1 × A2 × A3 × A4)} {Ψ : A1 → A2 → A3 → A4 → Prop} (h : (fun W : A1 × A2 × A3 × A4 => Ψ W.1 W.2.1 W.2.2.1 W.2.2.2) (mkW4 (k := k) (n := n) (Ψ := Ψ))) : ∀ q : A1 × A2 × A3 × A4, Ψ q.1 q.2.1 q.2.2.1 q.2.2.2 := by
  delta mkW4 at h
  exact ep_h (k := k) (n := n) (Ψ := fun q => Ψ q.1 q.2.1 q.2.2.1 q.2.2.2) h
theorem goW4 {A1 A2 A3 A4 : Type} {k : Nat} {n : Nonempty (A1 × A2 × A3 × A4)} {Ψ : A1 → A2 → A3 → A4 → Prop} (W : A1 × A2 × A3 × A4) (eW : W = (mkW4 (k := k) (n := n) (Ψ := Ψ))) (x1 : A1) (x2 : A2) (x3 : A3) (x4 : A4) : (by haveI h : W.1 = x1 → W.2.1 = x2 → W.2.2.1 = x3 → W.2.2.2 = x4 → Ψ x1 x2 x3 x4 → ∀ a1 a2 a3 a4, Ψ a1 a2 a3 a4 := (fun e1 e2 e3 e4 h a1 a2 a3 a4 => mkW4.h (eW ▸ (show (fun W : A1 × A2 × A3 × A4 => Ψ W.1 W.2.1 W.2.2.1 W.2.2.2) W from Eq.mpr (congr (congr (congr (congrArg Ψ e1) e2) e3) e4) h)) (a1, a2, a3, a4)); unfold Prod.fst Prod.snd at h; exact type_of% h) := fun e1 e2 e3 e4 h a1 a2 a3 a4 => mkW4.h (eW ▸ (show (fun W : A1 × A2 × A3 × A4 => Ψ W.1 W.2.1 W.2.2.1 W.2.2.2) W from Eq.mpr (congr (congr (congr (congrArg Ψ e1) e2) e3) e4) h)) (a1, a2, a3, a4)
@[irreducible] noncomputable def mkW6 {A1 A2 A3 A4 A5 A6 : Type} {k : Nat} {n : Nonempty (A1 × A2 × A3 × A4 × A5 × A6)} {Ψ : A1 → A2 → A3 → A4 → A5 → A6 → Prop} : A1 × A2 × A3 × A4 × A5 × A6 := ep k n (fun q => Ψ q.1 q.2.1 q.2.2.1 q.2.2.2.1 q.2.2.2.2.1 q.2.2.2.2.2)
theorem mkW6.h {A1 A2 A3 A4 A5 A6 : Type} {k : Nat} {n : Nonempty (A1 × A2 × A3 × A4 × A5 × A6)} {Ψ : A1 → A2 → A3 → A4 → A5 → A6 → Prop} (h : (fun W : A1 × A2 × A3 × A4 × A5 × A6 => Ψ W.1 W.2.1 W.2.2.1 W.2.2.2.1 W.2.2.2.2.1 W.2.2.2.2.2) (mkW6 (k := k) (n := n) (Ψ := Ψ))) : ∀ q : A1 × A2 × A3 × A4 × A5 × A6, Ψ q.1 q.2.1 q.2.2.1 q.2.2.2.1 q.2.2.2.2.1 q.2.2.2.2.2 := by
  delta mkW6 at h
  exact ep_h (k := k) (n := n) (Ψ := fun q => Ψ q.1 q.2.1 q.2.2.1 q.2.2.2.1 q.2.2.2.2.1 q.2.2.2.2.2) h
theorem goW6 {A1 A2 A3 A4 A5 A6 : Type} {k : Nat} {n : Nonempty (A1 × A2 × A3 × A4 × A5 × A6)} {Ψ : A1 → A2 → A3 → A4 → A5 → A6 → Prop} (W : A1 × A2 × A3 × A4 × A5 × A6) (eW : W = (mkW6 (k := k) (n := n) (Ψ := Ψ))) (x1 : A1) (x2 : A2) (x3 : A3) (x4 : A4) (x5 : A5) (x6 : A6) : (by haveI h : W.1 = x1 → W.2.1 = x2 → W.2.2.1 = x3 → W.2.2.2.1 = x4 → W.2.2.2.2.1 = x5 → W.2.2.2.2.2 = x6 → Ψ x1 x2 x3 x4 x5 x6 → ∀ a1 a2 a3 a4 a5 a6, Ψ a1 a2 a3 a4 a5 a6 := (fun e1 e2 e3 e4 e5 e6 h a1 a2 a3 a4 a5 a6 => mkW6.h (eW ▸ (show (fun W : A1 × A2 × A3 × A4 × A5 × A6 => Ψ W.1 W.2.1 W.2.2.1 W.2.2.2.1 W.2.2.2.2.1 W.2.2.2.2.2) W from Eq.mpr (congr (congr (congr (congr (congr (congrArg Ψ e1) e2) e3) e4) e5) e6) h)) (a1, a2, a3, a4, a5, a6)); unfold Prod.fst Prod.snd at h; exact type_of% h) := fun e1 e2 e3 e4 e5 e6 h a1 a2 a3 a4 a5 a6 => mkW6.h (eW ▸ (show (fun W : A1 × A2 × A3 × A4 × A5 × A6 => Ψ W.1 W.2.1 W.2.2.1 W.2.2.2.1 W.2.2.2.2.1 W.2.2.2.2.2) W from Eq.mpr (congr (congr (congr (congr (congr (congrArg Ψ e1) e2) e3) e4) e5) e6) h)) (a1, a2, a3, a4, a5, a6)
@[irreducible] noncomputable def mkW8 {A1 A2 A3 A4 A5 A6 A7 A8 : Type} {k : Nat} {n : Nonempty (A1 × A2 × A3 × A4 × A5 × A6 × A7 × A8)} {Ψ : A1 → A2 → A3 → A4 → A5 → A6 → A7 → A8 → Prop} : A1 × A2 × A3 × A4 × A5 × A6 × A7 × A8 := ep k n (fun q => Ψ q.1 q.2.1 q.2.2.1 q.2.2.2.1 q.2.2.2.2.1 q.2.2.2.2.2.1 q.2.2.2.2.2.2.1 q.2.2.2.2.2.2.2)
theorem mkW8.h {A1 A2 A3 A4 A5 A6 A7 A8 : Type} {k : Nat} {n : Nonempty (A1 × A2 × A3 × A4 × A5 × A6 × A7 × A8)} {Ψ : A1 → A2 → A3 → A4 → A5 → A6 → A7 → A8 → Prop} (h : (fun W : A1 × A2 × A3 × A4 × A5 × A6 × A7 × A8 => Ψ W.1 W.2.1 W.2.2.1 W.2.2.2.1 W.2.2.2.2.1 W.2.2.2.2.2.1 W.2.2.2.2.2.2.1 W.2.2.2.2.2.2.2) (mkW8 (k := k) (n := n) (Ψ := Ψ))) : ∀ q : A1 × A2 × A3 × A4 × A5 × A6 × A7 × A8, Ψ q.1 q.2.1 q.2.2.1 q.2.2.2.1 q.2.2.2.2.1 q.2.2.2.2.2.1 q.2.2.2.2.2.2.1 q.2.2.2.2.2.2.2 := by
  delta mkW8 at h
  exact ep_h (k := k) (n := n) (Ψ := fun q => Ψ q.1 q.2.1 q.2.2.1 q.2.2.2.1 q.2.2.2.2.1 q.2.2.2.2.2.1 q.2.2.2.2.2.2.1 q.2.2.2.2.2.2.2) h
theorem goW8 {A1 A2 A3 A4 A5 A6 A7 A8 : Type} {k : Nat} {n : Nonempty (A1 × A2 × A3 × A4 × A5 × A6 × A7 × A8)} {Ψ : A1 → A2 → A3 → A4 → A5 → A6 → A7 → A8 → Prop} (W : A1 × A2 × A3 × A4 × A5 × A6 × A7 × A8) (eW : W = (mkW8 (k := k) (n := n) (Ψ := Ψ))) (x1 : A1) (x2 : A2) (x3 : A3) (x4 : A4) (x5 : A5) (x6 : A6) (x7 : A7) (x8 : A8) : (by haveI h : W.1 = x1 → W.2.1 = x2 → W.2.2.1 = x3 → W.2.2.2.1 = x4 → W.2.2.2.2.1 = x5 → W.2.2.2.2.2.1 = x6 → W.2.2.2.2.2.2.1 = x7 → W.2.2.2.2.2.2.2 = x8 → Ψ x1 x2 x3 x4 x5 x6 x7 x8 → ∀ a1 a2 a3 a4 a5 a6 a7 a8, Ψ a1 a2 a3 a4 a5 a6 a7 a8 := (fun e1 e2 e3 e4 e5 e6 e7 e8 h a1 a2 a3 a4 a5 a6 a7 a8 => mkW8.h (eW ▸ (show (fun W : A1 × A2 × A3 × A4 × A5 × A6 × A7 × A8 => Ψ W.1 W.2.1 W.2.2.1 W.2.2.2.1 W.2.2.2.2.1 W.2.2.2.2.2.1 W.2.2.2.2.2.2.1 W.2.2.2.2.2.2.2) W from Eq.mpr (congr (congr (congr (congr (congr (congr (congr (congrArg Ψ e1) e2) e3) e4) e5) e6) e7) e8) h)) (a1, a2, a3, a4, a5, a6, a7, a8)); unfold Prod.fst Prod.snd at h; exact type_of% h) := fun e1 e2 e3 e4 e5 e6 e7 e8 h a1 a2 a3 a4 a5 a6 a7 a8 => mkW8.h (eW ▸ (show (fun W : A1 × A2 × A3 × A4 × A5 × A6 × A7 × A8 => Ψ W.1 W.2.1 W.2.2.1 W.2.2.2.1 W.2.2.2.2.1 W.2.2.2.2.2.1 W.2.2.2.2.2.2.1 W.2.2.2.2.2.2.2) W from Eq.mpr (congr (congr (congr (congr (congr (congr (congr (congrArg Ψ e1) e2) e3) e4) e5) e6) e7) e8) h)) (a1, a2, a3, a4, a5, a6, a7, a8)
@[irreducible] noncomputable def mkW12 {A1 A2 A3 A4 A5 A6 A7 A8 A9 A10 A11 A12 : Type} {k : Nat} {n : Nonempty (A1 × A2 × A3 × A4 × A5 × A6 × A7 × A8 × A9 × A10 × A11 × A12)} {Ψ : A1 → A2 → A3 → A4 → A5 → A6 → A7 → A8 → A9 → A10 → A11 → A12 → Prop} : A1 × A2 × A3 × A4 × A5 × A6 × A7 × A8 × A9 × A10 × A11 × A12 := ep k n (fun q => Ψ q.1 q.2.1 q.2.2.1 q.2.2.2.1 q.2.2.2.2.1 q.2.2.2.2.2.1 q.2.2.2.2.2.2.1 q.2.2.2.2.2.2.2.1 q.2.2.2.2.2.2.2.2.1 q.2.2.2.2.2.2.2.2.2.1 q.2.2.2.2.2.2.2.2.2.2.1 q.2.2.2.2.2.2.2.2.2.2.2)
theorem mkW12.h {A1 A2 A3 A4 A5 A6 A7 A8 A9 A10 A11 A12 : Type} {k : Nat} {n : Nonempty (A1 × A2 × A3 × A4 × A5 × A6 × A7 × A8 × A9 × A10 × A11 × A12)} {Ψ : A1 → A2 → A3 → A4 → A5 → A6 → A7 → A8 → A9 → A10 → A11 → A12 → Prop} (h : (fun W : A1 × A2 × A3 × A4 × A5 × A6 × A7 × A8 × A9 × A10 × A11 × A12 => Ψ W.1 W.2.1 W.2.2.1 W.2.2.2.1 W.2.2.2.2.1 W.2.2.2.2.2.1 W.2.2.2.2.2.2.1 W.2.2.2.2.2.2.2.1 W.2.2.2.2.2.2.2.2.1 W.2.2.2.2.2.2.2.2.2.1 W.2.2.2.2.2.2.2.2.2.2.1 W.2.2.2.2.2.2.2.2.2.2.2) (mkW12 (k := k) (n := n) (Ψ := Ψ))) : ∀ q : A1 × A2 × A3 × A4 × A5 × A6 × A7 × A8 × A9 × A10 × A11 × A12, Ψ q.1 q.2.1 q.2.2.1 q.2.2.2.1 q.2.2.2.2.1 q.2.2.2.2.2.1 q.2.2.2.2.2.2.1 q.2.2.2.2.2.2.2.1 q.2.2.2.2.2.2.2.2.1 q.2.2.2.2.2.2.2.2.2.1 q.2.2.2.2.2.2.2.2.2.2.1 q.2.2.2.2.2.2.2.2.2.2.2 := by
  delta mkW12 at h
  exact ep_h (k := k) (n := n) (Ψ := fun q => Ψ q.1 q.2.1 q.2.2.1 q.2.2.2.1 q.2.2.2.2.1 q.2.2.2.2.2.1 q.2.2.2.2.2.2.1 q.2.2.2.2.2.2.2.1 q.2.2.2.2.2.2.2.2.1 q.2.2.2.2.2.2.2.2.2.1 q.2.2.2.2.2.2.2.2.2.2.1 q.2.2.2.2.2.2.2.2.2.2.2) h
theorem goW12 {A1 A2 A3 A4 A5 A6 A7 A8 A9 A10 A11 A12 : Type} {k : Nat} {n : Nonempty (A1 × A2 × A3 × A4 × A5 × A6 × A7 × A8 × A9 × A10 × A11 × A12)} {Ψ : A1 → A2 → A3 → A4 → A5 → A6 → A7 → A8 → A9 → A10 → A11 → A12 → Prop} (W : A1 × A2 × A3 × A4 × A5 × A6 × A7 × A8 × A9 × A10 × A11 × A12) (eW : W = (mkW12 (k := k) (n := n) (Ψ := Ψ))) (x1 : A1) (x2 : A2) (x3 : A3) (x4 : A4) (x5 : A5) (x6 : A6) (x7 : A7) (x8 : A8) (x9 : A9) (x10 : A10) (x11 : A11) (x12 : A12) : (by haveI h : W.1 = x1 → W.2.1 = x2 → W.2.2.1 = x3 → W.2.2.2.1 = x4 → W.2.2.2.2.1 = x5 → W.2.2.2.2.2.1 = x6 → W.2.2.2.2.2.2.1 = x7 → W.2.2.2.2.2.2.2.1 = x8 → W.2.2.2.2.2.2.2.2.1 = x9 → W.2.2.2.2.2.2.2.2.2.1 = x10 → W.2.2.2.2.2.2.2.2.2.2.1 = x11 → W.2.2.2.2.2.2.2.2.2.2.2 = x12 → Ψ x1 x2 x3 x4 x5 x6 x7 x8 x9 x10 x11 x12 → ∀ a1 a2 a3 a4 a5 a6 a7 a8 a9 a10 a11 a12, Ψ a1 a2 a3 a4 a5 a6 a7 a8 a9 a10 a11 a12 := (fun e1 e2 e3 e4 e5 e6 e7 e8 e9 e10 e11 e12 h a1 a2 a3 a4 a5 a6 a7 a8 a9 a10 a11 a12 => mkW12.h (eW ▸ (show (fun W : A1 × A2 × A3 × A4 × A5 × A6 × A7 × A8 × A9 × A10 × A11 × A12 => Ψ W.1 W.2.1 W.2.2.1 W.2.2.2.1 W.2.2.2.2.1 W.2.2.2.2.2.1 W.2.2.2.2.2.2.1 W.2.2.2.2.2.2.2.1 W.2.2.2.2.2.2.2.2.1 W.2.2.2.2.2.2.2.2.2.1 W.2.2.2.2.2.2.2.2.2.2.1 W.2.2.2.2.2.2.2.2.2.2.2) W from Eq.mpr (congr (congr (congr (congr (congr (congr (congr (congr (congr (congr (congr (congrArg Ψ e1) e2) e3) e4) e5) e6) e7) e8) e9) e10) e11) e12) h)) (a1, a2, a3, a4, a5, a6, a7, a8, a9, a10, a11, a12)); unfold Prod.fst Prod.snd at h; exact type_of% h) := fun e1 e2 e3 e4 e5 e6 e7 e8 e9 e10 e11 e12 h a1 a2 a3 a4 a5 a6 a7 a8 a9 a10 a11 a12 => mkW12.h (eW ▸ (show (fun W : A1 × A2 × A3 × A4 × A5 × A6 × A7 × A8 × A9 × A10 × A11 × A12 => Ψ W.1 W.2.1 W.2.2.1 W.2.2.2.1 W.2.2.2.2.1 W.2.2.2.2.2.1 W.2.2.2.2.2.2.1 W.2.2.2.2.2.2.2.1 W.2.2.2.2.2.2.2.2.1 W.2.2.2.2.2.2.2.2.2.1 W.2.2.2.2.2.2.2.2.2.2.1 W.2.2.2.2.2.2.2.2.2.2.2) W from Eq.mpr (congr (congr (congr (congr (congr (congr (congr (congr (congr (congr (congr (congrArg Ψ e1) e2) e3) e4) e5) e6) e7) e8) e9) e10) e11) e12) h)) (a1, a2, a3, a4, a5, a6, a7, a8, a9, a10, a11, a12)
@[irreducible] noncomputable def mkW22 {A1 A2 A3 A4 A5 A6 A7 A8 A9 A10 A11 A12 A13 A14 A15 A16 A17 A18 A19 A20 A21 A22 : Type} {k : Nat} {n : Nonempty (A1 × A2 × A3 × A4 × A5 × A6 × A7 × A8 × A9 × A10 × A11 × A12 × A13 × A14 × A15 × A16 × A17 × A18 × A19 × A20 × A21 × A22)} {Ψ : A1 → A2 → A3 → A4 → A5 → A6 → A7 → A8 → A9 → A10 → A11 → A12 → A13 → A14 → A15 → A16 → A17 → A18 → A19 → A20 → A21 → A22 → Prop} : A1 × A2 × A3 × A4 × A5 × A6 × A7 × A8 × A9 × A10 × A11 × A12 × A13 × A14 × A15 × A16 × A17 × A18 × A19 × A20 × A21 × A22 := ep k n (fun q => Ψ q.1 q.2.1 q.2.2.1 q.2.2.2.1 q.2.2.2.2.1 q.2.2.2.2.2.1 q.2.2.2.2.2.2.1 q.2.2.2.2.2.2.2.1 q.2.2.2.2.2.2.2.2.1 q.2.2.2.2.2.2.2.2.2.1 q.2.2.2.2.2.2.2.2.2.2.1 q.2.2.2.2.2.2.2.2.2.2.2.1 q.2.2.2.2.2.2.2.2.2.2.2.2.1 q.2.2.2.2.2.2.2.2.2.2.2.2.2.1 q.2.2.2.2.2.2.2.2.2.2.2.2.2.2.1 q.2.2.2.2.2.2.2.2.2.2.2.2.2.2.2.1 q.2.2.2.2.2.2.2.2.2.2.2.2.2.2.2.2.1 q.2.2.2.2.2.2.2.2.2.2.2.2.2.2.2.2.2.1 q.2.2.2.2.2.2.2.2.2.2.2.2.2.2.2.2.2.2.1 q.2.2.2.2.2.2.2.2.2.2.2.2.2.2.2.2.2.2.2.1 q.2.2.2.2.2.2.2.2.2.2.2.2.2.2.2.2.2.2.2.2.1 q.2.2.2.2.2.2.2.2.2.2.2.2.2.2.2.2.2.2.2.2.2)
theorem mkW22.h {A1 A2 A3 A4 A5 A6 A7 A8 A9 A10 A11 A12 A13 A14 A15 A16 A17 A18 A19 A20 A21 A22 : Type} {k : Nat} {n : Nonempty (A1 × A2 × A3 × A4 × A5 × A6 × A7 × A8 × A9 × A10 × A11 × A12 × A13 × A14 × A15 × A16 × A17 × A18 × A19 × A20 × A21 × A22)} {Ψ : A1 → A2 → A3 → A4 → A5 → A6 → A7 → A8 → A9 → A10 → A11 → A12 → A13 → A14 → A15 → A16 → A17 → A18 → A19 → A20 → A21 → A22 → Prop} (h : (fun W : A1 × A2 × A3 × A4 × A5 × A6 × A7 × A8 × A9 × A10 × A11 × A12 × A13 × A14 × A15 × A16 × A17 × A18 × A19 × A20 × A21 × A22 => Ψ W.1 W.2.1 W.2.2.1 W.2.2.2.1 W.2.2.2.2.1 W.2.2.2.2.2.1 W.2.2.2.2.2.2.1 W.2.2.2.2.2.2.2.1 W.2.2.2.2.2.2.2.2.1 W.2.2.2.2.2.2.2.2.2.1 W.2.2.2.2.2.2.2.2.2.2.1 W.2.2.2.2.2.2.2.2.2.2.2.1 W.2.2.2.2.2.2.2.2.2.2.2.2.1 W.2.2.2.2.2.2.2.2.2.2.2.2.2.1 W.2.2.2.2.2.2.2.2.2.2.2.2.2.2.1 W.2.2.2.2.2.2.2.2.2.2.2.2.2.2.2.1 W.2.2.2.2.2.2.2.2.2.2.2.2.2.2.2.2.1 W.2.2.2.2.2.2.2.2.2.2.2.2.2.2.2.2.2.1 W.2.2.2.2.2.2.2.2.2.2.2.2.2.2.2.2.2.2.1 W.2.2.2.2.2.2.2.2.2.2.2.2.2.2.2.2.2.2.2.1 W.2.2.2.2.2.2.2.2.2.2.2.2.2.2.2.2.2.2.2.2.1 W.2.2.2.2.2.2.2.2.2.2.2.2.2.2.2.2.2.2.2.2.2) (mkW22 (k := k) (n := n) (Ψ := Ψ))) : ∀ q : A1 × A2 × A3 × A4 × A5 × A6 × A7 × A8 × A9 × A10 × A11 × A12 × A13 × A14 × A15 × A16 × A17 × A18 × A19 × A20 × A21 × A22, Ψ q.1 q.2.1 q.2.2.1 q.2.2.2.1 q.2.2.2.2.1 q.2.2.2.2.2.1 q.2.2.2.2.2.2.1 q.2.2.2.2.2.2.2.1 q.2.2.2.2.2.2.2.2.1 q.2.2.2.2.2.2.2.2.2.1 q.2.2.2.2.2.2.2.2.2.2.1 q.2.2.2.2.2.2.2.2.2.2.2.1 q.2.2.2.2.2.2.2.2.2.2.2.2.1 q.2.2.2.2.2.2.2.2.2.2.2.2.2.1 q.2.2.2.2.2.2.2.2.2.2.2.2.2.2.1 q.2.2.2.2.2.2.2.2.2.2.2.2.2.2.2.1 q.2.2.2.2.2.2.2.2.2.2.2.2.2.2.2.2.1 q.2.2.2.2.2.2.2.2.2.2.2.2.2.2.2.2.2.1 q.2.2.2.2.2.2.2.2.2.2.2.2.2.2.2.2.2.2.1 q.2.2.2.2.2.2.2.2.2.2.2.2.2.2.2.2.2.2.2.1 q.2.2.2.2.2.2.2.2.2.2.2.2.2.2.2.2.2.2.2.2.1 q.2.2.2.2.2.2.2.2.2.2.2.2.2.2.2.2.2.2.2.2.2 := by
  delta mkW22 at h
  exact ep_h (k := k) (n := n) (Ψ := fun q => Ψ q.1 q.2.1 q.2.2.1 q.2.2.2.1 q.2.2.2.2.1 q.2.2.2.2.2.1 q.2.2.2.2.2.2.1 q.2.2.2.2.2.2.2.1 q.2.2.2.2.2.2.2.2.1 q.2.2.2.2.2.2.2.2.2.1 q.2.2.2.2.2.2.2.2.2.2.1 q.2.2.2.2.2.2.2.2.2.2.2.1 q.2.2.2.2.2.2.2.2.2.2.2.2.1 q.2.2.2.2.2.2.2.2.2.2.2.2.2.1 q.2.2.2.2.2.2.2.2.2.2.2.2.2.2.1 q.2.2.2.2.2.2.2.2.2.2.2.2.2.2.2.1 q.2.2.2.2.2.2.2.2.2.2.2.2.2.2.2.2.1 q.2.2.2.2.2.2.2.2.2.2.2.2.2.2.2.2.2.1 q.2.2.2.2.2.2.2.2.2.2.2.2.2.2.2.2.2.2.1 q.2.2.2.2.2.2.2.2.2.2.2.2.2.2.2.2.2.2.2.1 q.2.2.2.2.2.2.2.2.2.2.2.2.2.2.2.2.2.2.2.2.1 q.2.2.2.2.2.2.2.2.2.2.2.2.2.2.2.2.2.2.2.2.2) h
theorem goW22 {A1 A2 A3 A4 A5 A6 A7 A8 A9 A10 A11 A12 A13 A14 A15 A16 A17 A18 A19 A20 A21 A22 : Type} {k : Nat} {n : Nonempty (A1 × A2 × A3 × A4 × A5 × A6 × A7 × A8 × A9 × A10 × A11 × A12 × A13 × A14 × A15 × A16 × A17 × A18 × A19 × A20 × A21 × A22)} {Ψ : A1 → A2 → A3 → A4 → A5 → A6 → A7 → A8 → A9 → A10 → A11 → A12 → A13 → A14 → A15 → A16 → A17 → A18 → A19 → A20 → A21 → A22 → Prop} (W : A1 × A2 × A3 × A4 × A5 × A6 × A7 × A8 × A9 × A10 × A11 × A12 × A13 × A14 × A15 × A16 × A17 × A18 × A19 × A20 × A21 × A22) (eW : W = (mkW22 (k := k) (n := n) (Ψ := Ψ))) (x1 : A1) (x2 : A2) (x3 : A3) (x4 : A4) (x5 : A5) (x6 : A6) (x7 : A7) (x8 : A8) (x9 : A9) (x10 : A10) (x11 : A11) (x12 : A12) (x13 : A13) (x14 : A14) (x15 : A15) (x16 : A16) (x17 : A17) (x18 : A18) (x19 : A19) (x20 : A20) (x21 : A21) (x22 : A22) : (by haveI h : W.1 = x1 → W.2.1 = x2 → W.2.2.1 = x3 → W.2.2.2.1 = x4 → W.2.2.2.2.1 = x5 → W.2.2.2.2.2.1 = x6 → W.2.2.2.2.2.2.1 = x7 → W.2.2.2.2.2.2.2.1 = x8 → W.2.2.2.2.2.2.2.2.1 = x9 → W.2.2.2.2.2.2.2.2.2.1 = x10 → W.2.2.2.2.2.2.2.2.2.2.1 = x11 → W.2.2.2.2.2.2.2.2.2.2.2.1 = x12 → W.2.2.2.2.2.2.2.2.2.2.2.2.1 = x13 → W.2.2.2.2.2.2.2.2.2.2.2.2.2.1 = x14 → W.2.2.2.2.2.2.2.2.2.2.2.2.2.2.1 = x15 → W.2.2.2.2.2.2.2.2.2.2.2.2.2.2.2.1 = x16 → W.2.2.2.2.2.2.2.2.2.2.2.2.2.2.2.2.1 = x17 → W.2.2.2.2.2.2.2.2.2.2.2.2.2.2.2.2.2.1 = x18 → W.2.2.2.2.2.2.2.2.2.2.2.2.2.2.2.2.2.2.1 = x19 → W.2.2.2.2.2.2.2.2.2.2.2.2.2.2.2.2.2.2.2.1 = x20 → W.2.2.2.2.2.2.2.2.2.2.2.2.2.2.2.2.2.2.2.2.1 = x21 → W.2.2.2.2.2.2.2.2.2.2.2.2.2.2.2.2.2.2.2.2.2 = x22 → Ψ x1 x2 x3 x4 x5 x6 x7 x8 x9 x10 x11 x12 x13 x14 x15 x16 x17 x18 x19 x20 x21 x22 → ∀ a1 a2 a3 a4 a5 a6 a7 a8 a9 a10 a11 a12 a13 a14 a15 a16 a17 a18 a19 a20 a21 a22, Ψ a1 a2 a3 a4 a5 a6 a7 a8 a9 a10 a11 a12 a13 a14 a15 a16 a17 a18 a19 a20 a21 a22 := (fun e1 e2 e3 e4 e5 e6 e7 e8 e9 e10 e11 e12 e13 e14 e15 e16 e17 e18 e19 e20 e21 e22 h a1 a2 a3 a4 a5 a6 a7 a8 a9 a10 a11 a12 a13 a14 a15 a16 a17 a18 a19 a20 a21 a22 => mkW22.h (eW ▸ (show (fun W : A1 × A2 × A3 × A4 × A5 × A6 × A7 × A8 × A9 × A10 × A11 × A12 × A13 × A14 × A15 × A16 × A17 × A18 × A19 × A20 × A21 × A22 => Ψ W.1 W.2.1 W.2.2.1 W.2.2.2.1 W.2.2.2.2.1 W.2.2.2.2.2.1 W.2.2.2.2.2.2.1 W.2.2.2.2.2.2.2.1 W.2.2.2.2.2.2.2.2.1 W.2.2.2.2.2.2.2.2.2.1 W.2.2.2.2.2.2.2.2.2.2.1 W.2.2.2.2.2.2.2.2.2.2.2.1 W.2.2.2.2.2.2.2.2.2.2.2.2.1 W.2.2.2.2.2.2.2.2.2.2.2.2.2.1 W.2.2.2.2.2.2.2.2.2.2.2.2.2.2.1 W.2.2.2.2.2.2.2.2.2.2.2.2.2.2.2.1 W.2.2.2.2.2.2.2.2.2.2.2.2.2.2.2.2.1 W.2.2.2.2.2.2.2.2.2.2.2.2.2.2.2.2.2.1 W.2.2.2.2.2.2.2.2.2.2.2.2.2.2.2.2.2.2.1 W.2.2.2.2.2.2.2.2.2.2.2.2.2.2.2.2.2.2.2.1 W.2.2.2.2.2.2.2.2.2.2.2.2.2.2.2.2.2.2.2.2.1 W.2.2.2.2.2.2.2.2.2.2.2.2.2.2.2.2.2.2.2.2.2) W from Eq.mpr (congr (congr (congr (congr (congr (congr (congr (congr (congr (congr (congr (congr (congr (congr (congr (congr (congr (congr (congr (congr (congr (congrArg Ψ e1) e2) e3) e4) e5) e6) e7) e8) e9) e10) e11) e12) e13) e14) e15) e16) e17) e18) e19) e20) e21) e22) h)) (a1, a2, a3, a4, a5, a6, a7, a8, a9, a10, a11, a12, a13, a14, a15, a16, a17, a18, a19, a20, a21, a22)); unfold Prod.fst Prod.snd at h; exact type_of% h) := fun e1 e2 e3 e4 e5 e6 e7 e8 e9 e10 e11 e12 e13 e14 e15 e16 e17 e18 e19 e20 e21 e22 h a1 a2 a3 a4 a5 a6 a7 a8 a9 a10 a11 a12 a13 a14 a15 a16 a17 a18 a19 a20 a21 a22 => mkW22.h (eW ▸ (show (fun W : A1 × A2 × A3 × A4 × A5 × A6 × A7 × A8 × A9 × A10 × A11 × A12 × A13 × A14 × A15 × A16 × A17 × A18 × A19 × A20 × A21 × A22 => Ψ W.1 W.2.1 W.2.2.1 W.2.2.2.1 W.2.2.2.2.1 W.2.2.2.2.2.1 W.2.2.2.2.2.2.1 W.2.2.2.2.2.2.2.1 W.2.2.2.2.2.2.2.2.1 W.2.2.2.2.2.2.2.2.2.1 W.2.2.2.2.2.2.2.2.2.2.1 W.2.2.2.2.2.2.2.2.2.2.2.1 W.2.2.2.2.2.2.2.2.2.2.2.2.1 W.2.2.2.2.2.2.2.2.2.2.2.2.2.1 W.2.2.2.2.2.2.2.2.2.2.2.2.2.2.1 W.2.2.2.2.2.2.2.2.2.2.2.2.2.2.2.1 W.2.2.2.2.2.2.2.2.2.2.2.2.2.2.2.2.1 W.2.2.2.2.2.2.2.2.2.2.2.2.2.2.2.2.2.1 W.2.2.2.2.2.2.2.2.2.2.2.2.2.2.2.2.2.2.1 W.2.2.2.2.2.2.2.2.2.2.2.2.2.2.2.2.2.2.2.1 W.2.2.2.2.2.2.2.2.2.2.2.2.2.2.2.2.2.2.2.2.1 W.2.2.2.2.2.2.2.2.2.2.2.2.2.2.2.2.2.2.2.2.2) W from Eq.mpr (congr (congr (congr (congr (congr (congr (congr (congr (congr (congr (congr (congr (congr (congr (congr (congr (congr (congr (congr (congr (congr (congrArg Ψ e1) e2) e3) e4) e5) e6) e7) e8) e9) e10) e11) e12) e13) e14) e15) e16) e17) e18) e19) e20) e21) e22) h)) (a1, a2, a3, a4, a5, a6, a7, a8, a9, a10, a11, a12, a13, a14, a15, a16, a17, a18, a19, a20, a21, a22)
@[irreducible] noncomputable def mkW23 {A1 A2 A3 A4 A5 A6 A7 A8 A9 A10 A11 A12 A13 A14 A15 A16 A17 A18 A19 A20 A21 A22 A23 : Type} {k : Nat} {n : Nonempty (A1 × A2 × A3 × A4 × A5 × A6 × A7 × A8 × A9 × A10 × A11 × A12 × A13 × A14 × A15 × A16 × A17 × A18 × A19 × A20 × A21 × A22 × A23)} {Ψ : A1 → A2 → A3 → A4 → A5 → A6 → A7 → A8 → A9 → A10 → A11 → A12 → A13 → A14 → A15 → A16 → A17 → A18 → A19 → A20 → A21 → A22 → A23 → Prop} : A1 × A2 × A3 × A4 × A5 × A6 × A7 × A8 × A9 × A10 × A11 × A12 × A13 × A14 × A15 × A16 × A17 × A18 × A19 × A20 × A21 × A22 × A23 := ep k n (fun q => Ψ q.1 q.2.1 q.2.2.1 q.2.2.2.1 q.2.2.2.2.1 q.2.2.2.2.2.1 q.2.2.2.2.2.2.1 q.2.2.2.2.2.2.2.1 q.2.2.2.2.2.2.2.2.1 q.2.2.2.2.2.2.2.2.2.1 q.2.2.2.2.2.2.2.2.2.2.1 q.2.2.2.2.2.2.2.2.2.2.2.1 q.2.2.2.2.2.2.2.2.2.2.2.2.1 q.2.2.2.2.2.2.2.2.2.2.2.2.2.1 q.2.2.2.2.2.2.2.2.2.2.2.2.2.2.1 q.2.2.2.2.2.2.2.2.2.2.2.2.2.2.2.1 q.2.2.2.2.2.2.2.2.2.2.2.2.2.2.2.2.1 q.2.2.2.2.2.2.2.2.2.2.2.2.2.2.2.2.2.1 q.2.2.2.2.2.2.2.2.2.2.2.2.2.2.2.2.2.2.1 q.2.2.2.2.2.2.2.2.2.2.2.2.2.2.2.2.2.2.2.1 q.2.2.2.2.2.2.2.2.2.2.2.2.2.2.2.2.2.2.2.2.1 q.2.2.2.2.2.2.2.2.2.2.2.2.2.2.2.2.2.2.2.2.2.1 q.2.2.2.2.2.2.2.2.2.2.2.2.2.2.2.2.2.2.2.2.2.2)
theorem mkW23.h {A1 A2 A3 A4 A5 A6 A7 A8 A9 A10 A11 A12 A13 A14 A15 A16 A17 A18 A19 A20 A21 A22 A23 : Type} {k : Nat} {n : Nonempty (A1 × A2 × A3 × A4 × A5 × A6 × A7 × A8 × A9 × A10 × A11 × A12 × A13 × A14 × A15 × A16 × A17 × A18 × A19 × A20 × A21 × A22 × A23)} {Ψ : A1 → A2 → A3 → A4 → A5 → A6 → A7 → A8 → A9 → A10 → A11 → A12 → A13 → A14 → A15 → A16 → A17 → A18 → A19 → A20 → A21 → A22 → A23 → Prop} (h : (fun W : A1 × A2 × A3 × A4 × A5 × A6 × A7 × A8 × A9 × A10 × A11 × A12 × A13 × A14 × A15 × A16 × A17 × A18 × A19 × A20 × A21 × A22 × A23 => Ψ W.1 W.2.1 W.2.2.1 W.2.2.2.1 W.2.2.2.2.1 W.2.2.2.2.2.1 W.2.2.2.2.2.2.1 W.2.2.2.2.2.2.2.1 W.2.2.2.2.2.2.2.2.1 W.2.2.2.2.2.2.2.2.2.1 W.2.2.2.2.2.2.2.2.2.2.1 W.2.2.2.2.2.2.2.2.2.2.2.1 W.2.2.2.2.2.2.2.2.2.2.2.2.1 W.2.2.2.2.2.2.2.2.2.2.2.2.2.1 W.2.2.2.2.2.2.2.2.2.2.2.2.2.2.1 W.2.2.2.2.2.2.2.2.2.2.2.2.2.2.2.1 W.2.2.2.2.2.2.2.2.2.2.2.2.2.2.2.2.1 W.2.2.2.2.2.2.2.2.2.2.2.2.2.2.2.2.2.1 W.2.2.2.2.2.2.2.2.2.2.2.2.2.2.2.2.2.2.1 W.2.2.2.2.2.2.2.2.2.2.2.2.2.2.2.2.2.2.2.1 W.2.2.2.2.2.2.2.2.2.2.2.2.2.2.2.2.2.2.2.2.1 W.2.2.2.2.2.2.2.2.2.2.2.2.2.2.2.2.2.2.2.2.2.1 W.2.2.2.2.2.2.2.2.2.2.2.2.2.2.2.2.2.2.2.2.2.2) (mkW23 (k := k) (n := n) (Ψ := Ψ))) : ∀ q : A1 × A2 × A3 × A4 × A5 × A6 × A7 × A8 × A9 × A10 × A11 × A12 × A13 × A14 × A15 × A16 × A17 × A18 × A19 × A20 × A21 × A22 × A23, Ψ q.1 q.2.1 q.2.2.1 q.2.2.2.1 q.2.2.2.2.1 q.2.2.2.2.2.1 q.2.2.2.2.2.2.1 q.2.2.2.2.2.2.2.1 q.2.2.2.2.2.2.2.2.1 q.2.2.2.2.2.2.2.2.2.1 q.2.2.2.2.2.2.2.2.2.2.1 q.2.2.2.2.2.2.2.2.2.2.2.1 q.2.2.2.2.2.2.2.2.2.2.2.2.1 q.2.2.2.2.2.2.2.2.2.2.2.2.2.1 q.2.2.2.2.2.2.2.2.2.2.2.2.2.2.1 q.2.2.2.2.2.2.2.2.2.2.2.2.2.2.2.1 q.2.2.2.2.2.2.2.2.2.2.2.2.2.2.2.2.1 q.2.2.2.2.2.2.2.2.2.2.2.2.2.2.2.2.2.1 q.2.2.2.2.2.2.2.2.2.2.2.2.2.2.2.2.2.2.1 q.2.2.2.2.2.2.2.2.2.2.2.2.2.2.2.2.2.2.2.1 q.2.2.2.2.2.2.2.2.2.2.2.2.2.2.2.2.2.2.2.2.1 q.2.2.2.2.2.2.2.2.2.2.2.2.2.2.2.2.2.2.2.2.2.1 q.2.2.2.2.2.2.2.2.2.2.2.2.2.2.2.2.2.2.2.2.2.2 := by
  delta mkW23 at h
  exact ep_h (k := k) (n := n) (Ψ := fun q => Ψ q.1 q.2.1 q.2.2.1 q.2.2.2.1 q.2.2.2.2.1 q.2.2.2.2.2.1 q.2.2.2.2.2.2.1 q.2.2.2.2.2.2.2.1 q.2.2.2.2.2.2.2.2.1 q.2.2.2.2.2.2.2.2.2.1 q.2.2.2.2.2.2.2.2.2.2.1 q.2.2.2.2.2.2.2.2.2.2.2.1 q.2.2.2.2.2.2.2.2.2.2.2.2.1 q.2.2.2.2.2.2.2.2.2.2.2.2.2.1 q.2.2.2.2.2.2.2.2.2.2.2.2.2.2.1 q.2.2.2.2.2.2.2.2.2.2.2.2.2.2.2.1 q.2.2.2.2.2.2.2.2.2.2.2.2.2.2.2.2.1 q.2.2.2.2.2.2.2.2.2.2.2.2.2.2.2.2.2.1 q.2.2.2.2.2.2.2.2.2.2.2.2.2.2.2.2.2.2.1 q.2.2.2.2.2.2.2.2.2.2.2.2.2.2.2.2.2.2.2.1 q.2.2.2.2.2.2.2.2.2.2.2.2.2.2.2.2.2.2.2.2.1 q.2.2.2.2.2.2.2.2.2.2.2.2.2.2.2.2.2.2.2.2.2.1 q.2.2.2.2.2.2.2.2.2.2.2.2.2.2.2.2.2.2.2.2.2.2) h
theorem goW23 {A1 A2 A3 A4 A5 A6 A7 A8 A9 A10 A11 A12 A13 A14 A15 A16 A17 A18 A19 A20 A21 A22 A23 : Type} {k : Nat} {n : Nonempty (A1 × A2 × A3 × A4 × A5 × A6 × A7 × A8 × A9 × A10 × A11 × A12 × A13 × A14 × A15 × A16 × A17 × A18 × A19 × A20 × A21 × A22 × A23)} {Ψ : A1 → A2 → A3 → A4 → A5 → A6 → A7 → A8 → A9 → A10 → A11 → A12 → A13 → A14 → A15 → A16 → A17 → A18 → A19 → A20 → A21 → A22 → A23 → Prop} (W : A1 × A2 × A3 × A4 × A5 × A6 × A7 × A8 × A9 × A10 × A11 × A12 × A13 × A14 × A15 × A16 × A17 × A18 × A19 × A20 × A21 × A22 × A23) (eW : W = (mkW23 (k := k) (n := n) (Ψ := Ψ))) (x1 : A1) (x2 : A2) (x3 : A3) (x4 : A4) (x5 : A5) (x6 : A6) (x7 : A7) (x8 : A8) (x9 : A9) (x10 : A10) (x11 : A11) (x12 : A12) (x13 : A13) (x14 : A14) (x15 : A15) (x16 : A16) (x17 : A17) (x18 : A18) (x19 : A19) (x20 : A20) (x21 : A21) (x22 : A22) (x23 : A23) : (by haveI h : W.1 = x1 → W.2.1 = x2 → W.2.2.1 = x3 → W.2.2.2.1 = x4 → W.2.2.2.2.1 = x5 → W.2.2.2.2.2.1 = x6 → W.2.2.2.2.2.2.1 = x7 → W.2.2.2.2.2.2.2.1 = x8 → W.2.2.2.2.2.2.2.2.1 = x9 → W.2.2.2.2.2.2.2.2.2.1 = x10 → W.2.2.2.2.2.2.2.2.2.2.1 = x11 → W.2.2.2.2.2.2.2.2.2.2.2.1 = x12 → W.2.2.2.2.2.2.2.2.2.2.2.2.1 = x13 → W.2.2.2.2.2.2.2.2.2.2.2.2.2.1 = x14 → W.2.2.2.2.2.2.2.2.2.2.2.2.2.2.1 = x15 → W.2.2.2.2.2.2.2.2.2.2.2.2.2.2.2.1 = x16 → W.2.2.2.2.2.2.2.2.2.2.2.2.2.2.2.2.1 = x17 → W.2.2.2.2.2.2.2.2.2.2.2.2.2.2.2.2.2.1 = x18 → W.2.2.2.2.2.2.2.2.2.2.2.2.2.2.2.2.2.2.1 = x19 → W.2.2.2.2.2.2.2.2.2.2.2.2.2.2.2.2.2.2.2.1 = x20 → W.2.2.2.2.2.2.2.2.2.2.2.2.2.2.2.2.2.2.2.2.1 = x21 → W.2.2.2.2.2.2.2.2.2.2.2.2.2.2.2.2.2.2.2.2.2.1 = x22 → W.2.2.2.2.2.2.2.2.2.2.2.2.2.2.2.2.2.2.2.2.2.2 = x23 → Ψ x1 x2 x3 x4 x5 x6 x7 x8 x9 x10 x11 x12 x13 x14 x15 x16 x17 x18 x19 x20 x21 x22 x23 → ∀ a1 a2 a3 a4 a5 a6 a7 a8 a9 a10 a11 a12 a13 a14 a15 a16 a17 a18 a19 a20 a21 a22 a23, Ψ a1 a2 a3 a4 a5 a6 a7 a8 a9 a10 a11 a12 a13 a14 a15 a16 a17 a18 a19 a20 a21 a22 a23 := (fun e1 e2 e3 e4 e5 e6 e7 e8 e9 e10 e11 e12 e13 e14 e15 e16 e17 e18 e19 e20 e21 e22 e23 h a1 a2 a3 a4 a5 a6 a7 a8 a9 a10 a11 a12 a13 a14 a15 a16 a17 a18 a19 a20 a21 a22 a23 => mkW23.h (eW ▸ (show (fun W : A1 × A2 × A3 × A4 × A5 × A6 × A7 × A8 × A9 × A10 × A11 × A12 × A13 × A14 × A15 × A16 × A17 × A18 × A19 × A20 × A21 × A22 × A23 => Ψ W.1 W.2.1 W.2.2.1 W.2.2.2.1 W.2.2.2.2.1 W.2.2.2.2.2.1 W.2.2.2.2.2.2.1 W.2.2.2.2.2.2.2.1 W.2.2.2.2.2.2.2.2.1 W.2.2.2.2.2.2.2.2.2.1 W.2.2.2.2.2.2.2.2.2.2.1 W.2.2.2.2.2.2.2.2.2.2.2.1 W.2.2.2.2.2.2.2.2.2.2.2.2.1 W.2.2.2.2.2.2.2.2.2.2.2.2.2.1 W.2.2.2.2.2.2.2.2.2.2.2.2.2.2.1 W.2.2.2.2.2.2.2.2.2.2.2.2.2.2.2.1 W.2.2.2.2.2.2.2.2.2.2.2.2.2.2.2.2.1 W.2.2.2.2.2.2.2.2.2.2.2.2.2.2.2.2.2.1 W.2.2.2.2.2.2.2.2.2.2.2.2.2.2.2.2.2.2.1 W.2.2.2.2.2.2.2.2.2.2.2.2.2.2.2.2.2.2.2.1 W.2.2.2.2.2.2.2.2.2.2.2.2.2.2.2.2.2.2.2.2.1 W.2.2.2.2.2.2.2.2.2.2.2.2.2.2.2.2.2.2.2.2.2.1 W.2.2.2.2.2.2.2.2.2.2.2.2.2.2.2.2.2.2.2.2.2.2) W from Eq.mpr (congr (congr (congr (congr (congr (congr (congr (congr (congr (congr (congr (congr (congr (congr (congr (congr (congr (congr (congr (congr (congr (congr (congrArg Ψ e1) e2) e3) e4) e5) e6) e7) e8) e9) e10) e11) e12) e13) e14) e15) e16) e17) e18) e19) e20) e21) e22) e23) h)) (a1, a2, a3, a4, a5, a6, a7, a8, a9, a10, a11, a12, a13, a14, a15, a16, a17, a18, a19, a20, a21, a22, a23)); unfold Prod.fst Prod.snd at h; exact type_of% h) := fun e1 e2 e3 e4 e5 e6 e7 e8 e9 e10 e11 e12 e13 e14 e15 e16 e17 e18 e19 e20 e21 e22 e23 h a1 a2 a3 a4 a5 a6 a7 a8 a9 a10 a11 a12 a13 a14 a15 a16 a17 a18 a19 a20 a21 a22 a23 => mkW23.h (eW ▸ (show (fun W : A1 × A2 × A3 × A4 × A5 × A6 × A7 × A8 × A9 × A10 × A11 × A12 × A13 × A14 × A15 × A16 × A17 × A18 × A19 × A20 × A21 × A22 × A23 => Ψ W.1 W.2.1 W.2.2.1 W.2.2.2.1 W.2.2.2.2.1 W.2.2.2.2.2.1 W.2.2.2.2.2.2.1 W.2.2.2.2.2.2.2.1 W.2.2.2.2.2.2.2.2.1 W.2.2.2.2.2.2.2.2.2.1 W.2.2.2.2.2.2.2.2.2.2.1 W.2.2.2.2.2.2.2.2.2.2.2.1 W.2.2.2.2.2.2.2.2.2.2.2.2.1 W.2.2.2.2.2.2.2.2.2.2.2.2.2.1 W.2.2.2.2.2.2.2.2.2.2.2.2.2.2.1 W.2.2.2.2.2.2.2.2.2.2.2.2.2.2.2.1 W.2.2.2.2.2.2.2.2.2.2.2.2.2.2.2.2.1 W.2.2.2.2.2.2.2.2.2.2.2.2.2.2.2.2.2.1 W.2.2.2.2.2.2.2.2.2.2.2.2.2.2.2.2.2.2.1 W.2.2.2.2.2.2.2.2.2.2.2.2.2.2.2.2.2.2.2.1 W.2.2.2.2.2.2.2.2.2.2.2.2.2.2.2.2.2.2.2.2.1 W.2.2.2.2.2.2.2.2.2.2.2.2.2.2.2.2.2.2.2.2.2.1 W.2.2.2.2.2.2.2.2.2.2.2.2.2.2.2.2.2.2.2.2.2.2) W from Eq.mpr (congr (congr (congr (congr (congr (congr (congr (congr (congr (congr (congr (congr (congr (congr (congr (congr (congr (congr (congr (congr (congr (congr (congrArg Ψ e1) e2) e3) e4) e5) e6) e7) e8) e9) e10) e11) e12) e13) e14) e15) e16) e17) e18) e19) e20) e21) e22) e23) h)) (a1, a2, a3, a4, a5, a6, a7, a8, a9, a10, a11, a12, a13, a14, a15, a16, a17, a18, a19, a20, a21, a22, a23)
noncomputable section
variable {p : Program} {loose : List Str} {mean : ExcName → Option Value} {mg mb : Str → Option Value} {K : Frag} {h₀ : Heap} {L a : Addr} {cn : Str} {cs : Scope} {ccd : Value} {cl : List (Str × Addr)} {M : Model} {A : Around} {E : Value → Shared → Prop}
noncomputable def atomC (k : Nat) : Const → Option (Value × Nat)
  | .int i => some (.int i k, k + 1)
  | .str x => some (.str x k, k + 1)
  | _ => none
noncomputable def atomN (o : Option Value) (k : Nat) : Option NameKind → Option (Value × Nat)
  | some .local => o.map fun v => (v, k)
  | _ => none
noncomputable def atom1 (ns : List (Str × NameKind)) (m : Str → Option Value) (k : Nat) : PySem.Expr → Option (Value × Nat)
  | .Name x _ => bif x == ("__debug__" : Str) then none else atomN (m x) k (ns.lookup x)
  | .Constant c _ _ => atomC k c
  | _ => none
theorem atom1_el {ns : List (Str × NameKind)} {m : Str → Option Value} {k : Nat} {e : PySem.Expr} {v : Value} {k1 : Nat} {C : PySem.Expr → Value → Nat → Prop} (q : atom1 ns m k e = some (v, k1)) (c1 : ∀ x p v, (x == ("__debug__" : Str)) = false → ns.lookup x = some .local → m x = some v → C (.Name x p) v k) (c2 : ∀ i u p, C (.Constant (.int i) u p) (.int i k) (k + 1)) (c3 : ∀ x u p, C (.Constant (.str x) u p) (.str x k) (k + 1)) : C e v k1 := by
  refine @dq _ (by
  cases e
  case Name x p =>
    have q : (bif x == ("__debug__" : Str) then none else atomN (m x) k (ns.lookup x)) = some (v, k1) := q
    cases h0 : x == ("__debug__" : Str)
    · rw [h0] at q
      have q : atomN (m x) k (ns.lookup x) = some (v, k1) := q
      cases h1 : ns.lookup x with
      | none => rw [h1] at q; cases q
      | some kd =>
        rw [h1] at q
        cases kd
        case «local» =>
          have q : (m x).map (fun v => (v, k)) = some (v, k1) := q
          cases h2 : m x with
          | none => rw [h2] at q; cases q
          | some u => rw [h2] at q; cases q; exact c1 x p _ h0 h1 h2
        all_goals cases q
    · rw [h0] at q; cases q
  case Constant c u p =>
    cases c
    case int i => cases q; exact c2 i u p
    case str x => cases q; exact c3 x u p
    all_goals cases q
  all_goals cases q) fun q hf => ?_
  simpa only using fq hf (@Eq _ 5 5)
noncomputable def atoms (ns : List (Str × NameKind)) (m : Str → Option Value) : List PySem.Expr → Nat → Option (List Value × Nat)
  | [], k => some ([], k)
  | e :: r, k => match atom1 ns m k e with
    | some (v, k1) => match atoms ns m r k1 with
      | some (vs, k2) => some (v :: vs, k2)
      | none => none
    | none => none
noncomputable def isAts : List PySem.Expr → Bool
  | [] => true
  | .Name _ _ :: r => isAts r
  | .Constant (.int _) _ _ :: r => isAts r
  | .Constant (.str _) _ _ :: r => isAts r
  | _ => false
theorem atoms_cons {ns : List (Str × NameKind)} {m : Str → Option Value} {e : PySem.Expr} {r : List PySem.Expr} {k : Nat} {q : List Value × Nat} (h : atoms ns m (e :: r) k = some q) : ∃ v k1 vs k2, atom1 ns m k e = some (v, k1) ∧ atoms ns m r k1 = some (vs, k2) ∧ q = (v :: vs, k2) := by
  unfold atoms at h
  split at h
  · split at h
    · rename_i e1 _ _ _ e2
      exact ⟨_, _, _, _, e1, e2, (Option.some.inj h).symm⟩
    · cases h
  · cases h
theorem atom1_star {m : Str → Option Value} {e : PySem.Expr} {k : Nat} {q : Value × Nat} {env : Env} (h : atom1 cs.names m k e = some q) (rest : List PySem.Expr) : starEach (e :: rest) env = (false, eval e env) :: starEach rest env := atom1_el (C := fun e _ _ => starEach (e :: rest) env = (false, eval e env) :: starEach rest env) h (fun _ _ _ _ _ _ => rfl) (fun _ _ _ => rfl) (fun _ _ _ => rfl)
theorem atom1_ok (hk : cs.kind = .function) {m : Str → Option Value} {h : Heap} (F : Fr h₀ L h m) {g : Array GenState} {d : Drawn} {o : OsState} {e : PySem.Expr} {k : Nat} {v : Value} {k1 : Nat} (q : atom1 cs.names m k e = some (v, k1)) {Q : Value → Shared → Prop} (hQ : Q v ⟨h, g, d, k1, o⟩) : wpAny M A (eval e (envX cn cs L a ccd cl)) Q E ⟨h, g, d, k, o⟩ := by
  revert Q
  exact atom1_el (C := fun e v k1 => ∀ {Q : Value → Shared → Prop}, Q v ⟨h, g, d, k1, o⟩ → wpAny M A (eval e (envX cn cs L a ccd cl)) Q E ⟨h, g, d, k, o⟩) q (fun x p v e0 e1 e2 _ hQ => nameX_L F e2 hQ hk e1 e0) (fun _ _ _ _ hQ => wpAny_Constant_int hQ) (fun _ _ _ _ hQ => wpAny_Constant_str hQ)
theorem atoms_star {m : Str → Option Value} {env : Env} : ∀ (es : List PySem.Expr) (k : Nat) (q : List Value × Nat), atoms cs.names m es k = some q → starEach es env = es.map fun e => (false, eval e env)
  | [], _, _, _ => rfl
  | e :: r, k, q, h => by
    obtain ⟨v, k1, vs, k2, h1, h2, _⟩ := atoms_cons h
    rw [atom1_star h1, atoms_star r k1 _ h2]; rfl
theorem argsA {pos : Pos} (hk : cs.kind = .function) {m : Str → Option Value} {h : Heap} (F : Fr h₀ L h m) {g : Array GenState} {d : Drawn} {o : OsState} : ∀ (es : List PySem.Expr) (k : Nat) (vs : List Value) (k' : Nat), atoms cs.names m es k = some (vs, k') → ∀ (Q : List Value → Shared → Prop), Q vs ⟨h, g, d, k', o⟩ → wpAny M A (spliced (backTo pos (starEach es (envX cn cs L a ccd cl)))) Q E ⟨h, g, d, k, o⟩
  | [], _, _, _, q, _, hQ => by cases q; exact args_nil hQ
  | e :: r, k, vs, k', q, Q, hQ => by
    obtain ⟨v, k1, ws, k2, h1, h2, h3⟩ := atoms_cons q
    cases h3
    exact args_cons (atom1_ok hk F h1 (argsA hk F r k1 ws _ h2 _ hQ)) (atom1_star h1 r)
theorem argsB (hk : cs.kind = .function) {m : Str → Option Value} {h : Heap} {g : Array GenState} {d : Drawn} {o : OsState} {pos : Pos} {es : List PySem.Expr} {k : Nat} {vs : List Value} {k' : Nat} {Q : List Value → Shared → Prop} (_i : isAts es = true) (F : Fr h₀ L h m) (q : atoms cs.names m es k = some (vs, k')) (hQ : Q vs ⟨h, g, d, k', o⟩) : wpAny M A (spliced (backTo pos (starEach es (envX cn cs L a ccd cl)))) Q E ⟨h, g, d, k, o⟩ := argsA hk F es k vs k' q Q hQ
theorem callA (hk : cs.kind = .function) (X : K.In h₀) (T : TopRead p loose mg mb h₀) {m : Str → Option Value} {h : Heap} {g : Array GenState} {d : Drawn} {o : OsState} {f : Str} {pf pos : Pos} {e : PySem.Expr} {rest : List PySem.Expr} {v : Value} {k : Nat} {vs : List Value} {k' : Nat} {Q : Value → Shared → Prop} (i : isAts (e :: rest) = true)
    (F : Fr h₀ L h m) (e₁ : nsIn K mainGlobals f = some (some v)) (hf : cs.names.lookup f = some .globalImplicit) (hd : (f == ("__debug__" : Str)) = false) (hkeep : keepIn K v = true)
    (q : atoms cs.names m (e :: rest) k = some (vs, k')) (hQ : wpAny M A (call v vs) Q E ⟨h, g, d, k', o⟩) : wpAny M A (eval (.Call (.Name f pf) (e :: rest) [] pos) (envX cn cs L a ccd cl)) Q E ⟨h, g, d, k, o⟩ := by
  have hr : (backTo pos (starEach rest (envX cn cs L a ccd cl))).any (·.1) = false := by
    obtain ⟨_, _, _, _, _, h2, _⟩ := atoms_cons q
    rw [atoms_star _ _ _ h2]
    unfold backTo
    rw [List.map_map, List.any_map]
    exact List.any_eq_false.mpr fun x _ => Bool.false_ne_true
  obtain ⟨_, _, _, _, h1, _, _⟩ := atoms_cons q
  exact Call_ (nameX_K F X T e₁ (callWith_K X hkeep (argsB hk i F q ⟨X.keeps F.keep, hQ⟩) (atom1_star h1 rest) hr) hk hf hd)
theorem subNI (hk : cs.kind = .function) {m : Str → Option Value} {h : Heap} {g : Array GenState} {d : Drawn} {o : OsState} {x : Str} {px pc pos : Pos} {kd : Nat} {i : Int} {v : Value} {k : Nat} {Q : Value → Shared → Prop}
    (F : Fr h₀ L h m) (e : m x = some v) (hx : cs.names.lookup x = some .local) (hd : (x == ("__debug__" : Str)) = false)
    (hQ : wpAny M A (subscriptTail (.Name x px) (.Constant (.int i) kd pc) v (.int i k)) Q E ⟨h, g, d, k + 1, o⟩) : wpAny M A (eval (.Subscript (.Name x px) (.Constant (.int i) kd pc) pos) (envX cn cs L a ccd cl)) Q E ⟨h, g, d, k, o⟩ :=
  Subscript_ (nameX_L F e (wpAny_Constant_int hQ) hk hx hd)
theorem nameA (hk : cs.kind = .function) {m : Str → Option Value} {x : Str} {px : Pos} {v : Value} {s : Shared} {Q : Value → Shared → Prop}
    (F : Fr h₀ L s.heap m) (e : m x = some v) (hx : cs.names.lookup x = some .local) (hd : (x == ("__debug__" : Str)) = false)
    (hQ : Q v s) : wpAny M A (eval (.Name x px) (envX cn cs L a ccd cl)) Q E s :=
  nameX_L F e hQ hk hx hd
end
section
local macro_rules | `(tactic| walk_at $s:str) => do `(tactic| k_extra $(Lean.Syntax.mkStrLit ("!" ++ s.getString)))
local macro_rules | `(tactic| ktr_room) => `(tactic| k_extra "m:ktr_room")
local macro_rules | `(tactic| ktr_units) => `(tactic| k_extra "m:ktr_units")
local macro_rules | `(tactic| k_ne) => `(tactic| k_extra "m:k_ne")
local macro_rules | `(tactic| omega) => `(tactic| k_extra "m:omega")
local macro_rules | `(tactic| k_in) => `(tactic| k_extra "m:k_in")
local macro_rules | `(tactic| k_fold) => `(tactic| k_extra "m:k_fold")
local macro_rules | `(tactic| k_steps) => `(tactic| k_extra "m:k_steps")
local macro_rules | `(tactic| k_mem) => `(tactic| k_extra "m:k_mem")
local macro_rules | `(tactic| k_upd) => `(tactic| k_extra "m:k_upd")
local macro_rules | `(tactic| k_updF) => `(tactic| k_extra "m:k_updF")
local macro_rules | `(tactic| k_all) => `(tactic| k_extra "m:k_all")
local macro_rules | `(tactic| k_room) => `(tactic| k_extra "m:k_room")
local macro_rules | `(tactic| k_qdec) => `(tactic| k_extra "m:k_qdec")
local macro_rules | `(tactic| decide) => `(tactic| k_extra "m:decide")
local macro_rules | `(tactic| w_why) => `(tactic| (refine' (?_ : _ → _) ?hh; k_extra "rl"; revert ?hh))
section
theorem words0 : True := by
  k_with_none
  trivial
theorem words1 : True := by
  k_with "G1" => (
    k_with "cl1" => (rename BAR _ => bq9; refine letI kk := _; haveI bq8 := @barS kk bq9; letI x1 := _; goW1 (k := kk) (n := by k_extra "ne") x1 rfl ?_; try clear bq9)
    k_with "cl2" => (rename BAR _ => bq9; refine letI kk := _; haveI bq8 := @barS kk bq9; letI Wq := mkW2 (k := kk) (n := by k_extra "ne"); letI x1 := _; letI x2 := _; goW2 Wq rfl x1 x2 rfl rfl ?_; try clear bq9)
    k_with "cl3" => (rename BAR _ => bq9; refine letI kk := _; haveI bq8 := @barS kk bq9; letI Wq := mkW3 (k := kk) (n := by k_extra "ne"); letI x1 := _; letI x2 := _; letI x3 := _; goW3 Wq rfl x1 x2 x3 rfl rfl rfl ?_; try clear bq9)
    k_with "cl4" => (rename BAR _ => bq9; refine letI kk := _; haveI bq8 := @barS kk bq9; letI Wq := mkW4 (k := kk) (n := by k_extra "ne"); letI x1 := _; letI x2 := _; letI x3 := _; letI x4 := _; goW4 Wq rfl x1 x2 x3 x4 rfl rfl rfl rfl ?_; try clear bq9)
    k_with "cl6" => (rename BAR _ => bq9; refine letI kk := _; haveI bq8 := @barS kk bq9; letI Wq := mkW6 (k := kk) (n := by k_extra "ne"); letI x1 := _; letI x2 := _; letI x3 := _; letI x4 := _; letI x5 := _; letI x6 := _; goW6 Wq rfl x1 x2 x3 x4 x5 x6 rfl rfl rfl rfl rfl rfl ?_; try clear bq9)
    k_with "cl8" => (rename BAR _ => bq9; refine letI kk := _; haveI bq8 := @barS kk bq9; letI Wq := mkW8 (k := kk) (n := by k_extra "ne"); letI x1 := _; letI x2 := _; letI x3 := _; letI x4 := _; letI x5 := _; letI x6 := _; letI x7 := _; letI x8 := _; goW8 Wq rfl x1 x2 x3 x4 x5 x6 x7 x8 rfl rfl rfl rfl rfl rfl rfl rfl ?_; try clear bq9)
    k_with "cl12" => (rename BAR _ => bq9; refine letI kk := _; haveI bq8 := @barS kk bq9; letI Wq := mkW12 (k := kk) (n := by k_extra "ne"); letI x1 := _; letI x2 := _; letI x3 := _; letI x4 := _; letI x5 := _; letI x6 := _; letI x7 := _; letI x8 := _; letI x9 := _; letI x10 := _; letI x11 := _; letI x12 := _; goW12 Wq rfl x1 x2 x3 x4 x5 x6 x7 x8 x9 x10 x11 x12 rfl rfl rfl rfl rfl rfl rfl rfl rfl rfl rfl rfl ?_; try clear bq9)
    k_with "bar" => (rename BAR _ => bq9; refine haveI bq8 : BAR _ := barS bq9; ?_; try clear bq9)
    k_with "bc" => skip
    k_with "rv" => ((fail_if_success (rename _ => xq; refine useBar xq ?_)); w_why)
    k_with "nc1" => with_reducible ((first | (fail_if_success (intro zb)) | refine Box.o ?_); (repeat ((fail_if_success (rename (_ : Prop) => xq; refine useBar xq ?_)); w_why)))
    k_with "nc2" => with_reducible (first | (k_extra "rv"; first | (k_extra "rv"; first | (k_extra "rv"; first | (k_extra "rv"; first | (k_extra "rv"; first | (k_extra "rv"; first | (k_extra "rv"; first | (k_extra "rv"; first | (k_extra "rv"; first | (k_extra "rv"; first | (k_extra "rv"; first | (k_extra "rv"; (k_extra "nc2"; k_extra "cl12")) | (k_extra "cl8"; k_extra "cl3")) | (k_extra "cl8"; k_extra "cl2")) | (k_extra "cl8"; k_extra "cl1")) | (k_extra "cl8")) | (k_extra "cl6"; k_extra "cl1")) | (k_extra "cl6")) | (k_extra "cl4"; k_extra "cl1")) | (k_extra "cl4")) | (k_extra "cl3")) | (k_extra "cl2")) | (k_extra "cl1")) | (skip))
    k_with "nc3" => with_reducible ((repeat (set_option tactic.hygienic false in intro)); (try k_extra "unf"); (try (refine Box.mk ?_)); k_extra "bar")
    k_with "cls" => with_reducible (try ((rename BAR _ => zq); (fail_if_success (rename PySem.W.KPfMark => zz)); k_whole; (fail_if_success (rename _ => xq; refine useBar xq ?_)); k_extra "nc1"; k_extra "nc2"; k_extra "nc3"))
    k_with "re" => (first | exact Nat.le_of_ble_eq_true rfl | exact Nat.le_of_eq (Nat.add_comm _ _) | omega)
    k_with "rm" => (first | (refine' rm0 ?q1; (case q1 => k_extra "as")) | (refine' rm1 ?q2 ?q3; (case q2 => k_extra "as"); (case q3 => k_extra "re")) | (refine' rm2 ?q4 ?q5; (case q4 => k_extra "as"); (case q5 => k_extra "re")) | (refine' rm3 ?q6 ?q7; (case q6 => k_extra "as"); (case q7 => k_extra "re")) | exact Nat.le_of_ble_eq_true rfl)
    k_with "m:ktr_room" => k_extra "rm"
    k_with "m:ktr_units" => k_extra "rm"
    k_with "m:k_ne" => (refine neN ?_; (try dsimp only); first | (with_reducible k_extra "n") | k_extra "n" | omega)
    k_with "ne" => (repeat' first | (with_reducible refine neP ?_ ?_) | infer_instance | exact neW | exact nePar | exact neA | exact neS | exact neH | exact neRV | exact neUV | exact neFV | exact nePD | exact neFRec | exact neFY | exact neStc | exact neRowD | exact neIn | exact neSt)
    k_with "fold" => ((fail_if_success (with_reducible rename PySem.W.KPfMark => zz)); k_whole; k_extra "cls"; with_reducible (refine letI qk := _; letI ek := _; (?_ : wpAny _ _ _ qk ek _)); with_reducible k_extra "bar")
    k_with "as" => (with_reducible assumption)
    k_with "od" => ((fail_if_success (fail_if_success (decide +kernel))); kernel_rfl)
    k_with "n" => first | (refine' Nat.ne_of_gt ?q8; (case q8 => assumption)) | (refine' Nat.ne_of_lt ?q9; (case q9 => assumption)) | (refine' gt1 ?q10; (case q10 => assumption)) | (refine' gt2 ?q11; (case q11 => assumption)) | (refine' lt2' ?q12; (case q12 => assumption)) | (refine' gt3 ?q13; (case q13 => assumption)) | (refine' lt3' ?q14; (case q14 => assumption)) | (refine' gt4 ?q15; (case q15 => assumption)) | (refine' lt4' ?q16; (case q16 => assumption)) | (refine' gt5 ?q17; (case q17 => assumption)) | (refine' lt5' ?q18; (case q18 => assumption)) | (refine' gt6 ?q19; (case q19 => assumption)) | (refine' lt6' ?q20; (case q20 => assumption)) | (refine' gt7 ?q21; (case q21 => assumption)) | (refine' lt7' ?q22; (case q22 => assumption)) | (refine' gt8 ?q23; (case q23 => assumption)) | (refine' lt8' ?q24; (case q24 => assumption)) | (refine' Nat.ne_of_lt (And.left ?q25); (case q25 => assumption))
    k_with "m:omega" => first | (k_whole; first | (with_reducible assumption) | ((fail_if_success (fail_if_success (decide +kernel))); (fail_if_success (fail_if_success (omega (config := {})))); (decide +kernel)) | ((refine' oF ?q26 ?_; (case q26 => k_extra "as")); k_extra "od") | ((refine' oE ?q27 ?_; (case q27 => k_extra "as")); k_extra "od") | ((refine' oG ?q28 ?_; (case q28 => k_extra "as")); k_extra "od") | ((refine' oH ?q29 ?_; (case q29 => k_extra "as")); k_extra "od") | ((refine' oI ?q30 ?_; (case q30 => k_extra "as")); k_extra "od") | ((refine' oJ ?q31 ?_; (case q31 => k_extra "as")); k_extra "od") | (with_reducible (refine neN ?_; k_extra "n"))) | k_extra "oc" | ((try (with_reducible rename (_ < PySem.recursionLimit) => zd; clear zd)); (try (with_reducible rename (_ < PySem.cLine) => zd; clear zd)); omega (config := {})) | omega (config := {})
    k_with "m:decide" => ((fail_if_success (fail_if_success (decide (config := {})))); first | (refine of_decide_eq_true ?_; exact Eq.refl true) | decide (config := {}))
    k_with "rl" => (rotate_left; (first | (rename (_ : Prop) => xz; (fail_if_success (refine useBar xz ?_)); exact xz) | assumption); intro h; clear h)
    k_with "en" => k_dflt (refine' code_def ?z1k1 ?z1k2 ?z1k3 ?z1k4 ?z1k5 ?z1kA ?z1kF ?z1kK ?z1k6 ?z1k7 ?z1k8 ?z1k9 ?z1kB ?_ ?z1c2 ?z1c3 ?z1c4 ?z1c5; (case z1kA => exact rfl); (case z1kF => exact rfl); (case z1kK => assumption); (case z1k1 => k_asm); (case z1k2 => k_asm); (case z1k3 => k_asm); (case z1k4 => k_asm); (case z1k5 => k_asm); (case z1k6 => k_is); (case z1k7 => k_is); (case z1k8 => ktr_room); (case z1k9 => exact BindsTo.of_eq rfl); (case z1c5 => decide); (case z1kB => exact locs rfl); (case z1c2 => exact rfl); (case z1c3 => exact rfl); (case z1c4 => exact rfl); k_whole; intro g' L' h' FG' F' N' B' X' T'; (try k_fold))
    k_with "!callWith" => (k_here; (first | (with_reducible refine' callWith_method1 ?_ ?z2he ?z2hp) | (with_reducible refine' callWith_builtin1 ?_ ?z2he ?z2hp)); (case z2he => k_dflt (exact rfl)); (case z2hp => k_dflt (exact rfl)))
    k_with "!newList" => (k_here; k_dflt (refine' newList_K ?z3k1 ?z3k2 ?_ ?z3z; (case z3k1 => k_asm); (case z3k2 => k_asm); (case z3z => exact Nat.le_of_ble_eq_true rfl); k_whole); intro l' h' F' N' l1; (try k_lt l1); (try k_sweep))
    k_with "!subscriptTail Name Constant ref int" => k_extra "!subscriptTail Name"
    k_with "!subscriptTail Name Name ref int" => k_extra "!subscriptTail Name"
    k_with "m:k_in" => first | with_reducible assumption | (refine' Frag.In.keeps ?q32 (Fr.keep ?q33); (case q32 => with_reducible assumption); (case q33 => with_reducible assumption)) | (refine' Frag.In.keeps ?q34 (Fr.keep ?q35); (case q34 => k_asm); (case q35 => k_asm))
    k_with "unf" => ((fail_if_success (fail_if_success k_unfold)); first | with_reducible (refine (?_ : wpAny _ _ _ _ _ _)) | k_unfold)
    k_with "!spliced" => first | (k_dflt (refine args_cons ?_)) | (k_dflt (refine args_nil ?_); (try simp only [List.cons_append, List.nil_append]))
    k_with "ite" => (k_closed; k_dflt (first | (refine' ite_pos ?z4i ?_; (case z4i => decide)) | (refine' ite_neg ?z4j ?_; (case z4j => decide))))
    k_with "!eval Name" => (k_here; k_dflt (refine' nameX_K ?z5F ?z5X ?z5T ?z5e ?_ ?z5a ?z5b; (case z5F => k_asm); (case z5X => k_asm); (case z5T => k_asm); (case z5a => rfl); (case z5b => rfl); (case z5e => k_is); k_whole))
    k_with "!eval Call" => (k_here; (with_reducible show wpAny _ _ (eval (Expr.Call (Expr.Name _ _) (_ :: _) _ _) _) _ _ _); k_dflt (refine' callA ?z6hk ?z6X ?z6T ?z6i ?z6F ?z6e ?z6f ?z6d ?z6kp ?z6q ?_; (case z6i => rfl); (case z6f => rfl); (case z6hk => rfl); (case z6F => k_asm); (case z6q => rfl); (case z6d => rfl); (case z6X => k_asm); (case z6T => k_asm); (case z6e => k_is); (case z6kp => k_is); k_whole))
    k_with "!execs cons" => (k_here; (with_reducible refine wpAny_execs_cons ?_); try dsimp only)
    k_with "!execs nil" => (k_here; with_reducible refine wpAny_execs_nil ?_)
    k_with "!spliced" => (k_here; (with_reducible show wpAny _ _ (spliced (backTo _ (starEach (_ :: _) _))) _ _ _); k_dflt (refine' argsB ?z7hk ?z7i ?z7F ?z7q ?_; (case z7i => rfl); (case z7hk => rfl); (case z7F => k_asm); (case z7q => rfl); k_whole; (try dsimp only [List.cons_append, List.nil_append])))
    k_with "!eval Subscript" => (k_here; (with_reducible show wpAny _ _ (eval (Expr.Subscript (Expr.Name _ _) (Expr.Constant (Const.int _) _ _) _) _) _ _ _); k_dflt (refine' subNI ?z8hk ?z8F ?z8e ?z8x ?z8d ?_; (case z8hk => rfl); (case z8F => k_asm); (case z8x => rfl); (case z8d => rfl); (case z8e => rfl); k_whole))
    k_with "!eval Name" => (k_here; k_dflt (refine' nameA ?z9hk ?z9F ?z9e ?z9x ?z9d ?_; (case z9x => rfl); (case z9hk => rfl); (case z9F => k_asm); (case z9d => rfl); (case z9e => rfl); k_whole))
    k_with "rva" => ((repeat revert ‹_›); refine haveI b8 : BAR 0 := bar0; ?_)
    k_with "m:k_fold" => ((with_reducible rename BAR _ => zq); k_extra "fold")
    k_with "m:k_steps" => repeat' (first | (k_extra "unf"; (try dsimp only)) | (k_end; wrow_close) | (walk1; all_goals k_extra "cls") | (dsimp only; walk1; all_goals k_extra "cls") | (leave1; (try dsimp only); all_goals k_extra "cls") | fail "no step")
    k_with "b1.2" => (with_reducible (rename BAR _ => bq9; refine letI kk := _; haveI bq8 := @barS kk bq9; letI Wq := mkW2 (k := kk) (n := by k_extra "ne"); letI y1_1 := _; letI y1_2 := _; goW2 Wq rfl y1_1 y1_2 rfl rfl ?_; try clear bq9))
    k_with "b1.3" => (with_reducible (rename BAR _ => bq9; refine letI kk := _; haveI bq8 := @barS kk bq9; letI Wq := mkW3 (k := kk) (n := by k_extra "ne"); letI y1_1 := _; letI y1_2 := _; letI y1_3 := _; goW3 Wq rfl y1_1 y1_2 y1_3 rfl rfl rfl ?_; try clear bq9))
    k_with "b1.4" => (with_reducible (rename BAR _ => bq9; refine letI kk := _; haveI bq8 := @barS kk bq9; letI Wq := mkW4 (k := kk) (n := by k_extra "ne"); letI y1_1 := _; letI y1_2 := _; letI y1_3 := _; letI y1_4 := _; goW4 Wq rfl y1_1 y1_2 y1_3 y1_4 rfl rfl rfl rfl ?_; try clear bq9))
    k_with "b1.6" => (with_reducible (rename BAR _ => bq9; refine letI kk := _; haveI bq8 := @barS kk bq9; letI Wq := mkW6 (k := kk) (n := by k_extra "ne"); letI y1_1 := _; letI y1_2 := _; letI y1_3 := _; letI y1_4 := _; letI y1_5 := _; letI y1_6 := _; goW6 Wq rfl y1_1 y1_2 y1_3 y1_4 y1_5 y1_6 rfl rfl rfl rfl rfl rfl ?_; try clear bq9))
    k_with "b1.8" => (with_reducible (rename BAR _ => bq9; refine letI kk := _; haveI bq8 := @barS kk bq9; letI Wq := mkW8 (k := kk) (n := by k_extra "ne"); letI y1_1 := _; letI y1_2 := _; letI y1_3 := _; letI y1_4 := _; letI y1_5 := _; letI y1_6 := _; letI y1_7 := _; letI y1_8 := _; goW8 Wq rfl y1_1 y1_2 y1_3 y1_4 y1_5 y1_6 y1_7 y1_8 rfl rfl rfl rfl rfl rfl rfl rfl ?_; try clear bq9))
    k_with "b1.12" => (with_reducible (rename BAR _ => bq9; refine letI kk := _; haveI bq8 := @barS kk bq9; letI Wq := mkW12 (k := kk) (n := by k_extra "ne"); letI y1_1 := _; letI y1_2 := _; letI y1_3 := _; letI y1_4 := _; letI y1_5 := _; letI y1_6 := _; letI y1_7 := _; letI y1_8 := _; letI y1_9 := _; letI y1_10 := _; letI y1_11 := _; letI y1_12 := _; goW12 Wq rfl y1_1 y1_2 y1_3 y1_4 y1_5 y1_6 y1_7 y1_8 y1_9 y1_10 y1_11 y1_12 rfl rfl rfl rfl rfl rfl rfl rfl rfl rfl rfl rfl ?_; try clear bq9))
    k_with "b2.1" => (with_reducible (rename BAR _ => bq9; refine letI kk := _; haveI bq8 := @barS kk bq9; letI y2_1 := _; goW1 (k := kk) (n := by k_extra "ne") y2_1 rfl ?_; try clear bq9))
    k_with "b2.2" => (with_reducible (rename BAR _ => bq9; refine letI kk := _; haveI bq8 := @barS kk bq9; letI Wq := mkW2 (k := kk) (n := by k_extra "ne"); letI y2_1 := _; letI y2_2 := _; goW2 Wq rfl y2_1 y2_2 rfl rfl ?_; try clear bq9))
    k_with "b2.3" => (with_reducible (rename BAR _ => bq9; refine letI kk := _; haveI bq8 := @barS kk bq9; letI Wq := mkW3 (k := kk) (n := by k_extra "ne"); letI y2_1 := _; letI y2_2 := _; letI y2_3 := _; goW3 Wq rfl y2_1 y2_2 y2_3 rfl rfl rfl ?_; try clear bq9))
    k_with "b2.4" => (with_reducible (rename BAR _ => bq9; refine letI kk := _; haveI bq8 := @barS kk bq9; letI Wq := mkW4 (k := kk) (n := by k_extra "ne"); letI y2_1 := _; letI y2_2 := _; letI y2_3 := _; letI y2_4 := _; goW4 Wq rfl y2_1 y2_2 y2_3 y2_4 rfl rfl rfl rfl ?_; try clear bq9))
    k_with "b2.6" => (with_reducible (rename BAR _ => bq9; refine letI kk := _; haveI bq8 := @barS kk bq9; letI Wq := mkW6 (k := kk) (n := by k_extra "ne"); letI y2_1 := _; letI y2_2 := _; letI y2_3 := _; letI y2_4 := _; letI y2_5 := _; letI y2_6 := _; goW6 Wq rfl y2_1 y2_2 y2_3 y2_4 y2_5 y2_6 rfl rfl rfl rfl rfl rfl ?_; try clear bq9))
    k_with "b2.8" => (with_reducible (rename BAR _ => bq9; refine letI kk := _; haveI bq8 := @barS kk bq9; letI Wq := mkW8 (k := kk) (n := by k_extra "ne"); letI y2_1 := _; letI y2_2 := _; letI y2_3 := _; letI y2_4 := _; letI y2_5 := _; letI y2_6 := _; letI y2_7 := _; letI y2_8 := _; goW8 Wq rfl y2_1 y2_2 y2_3 y2_4 y2_5 y2_6 y2_7 y2_8 rfl rfl rfl rfl rfl rfl rfl rfl ?_; try clear bq9))
    k_with "b2.12" => (with_reducible (rename BAR _ => bq9; refine letI kk := _; haveI bq8 := @barS kk bq9; letI Wq := mkW12 (k := kk) (n := by k_extra "ne"); letI y2_1 := _; letI y2_2 := _; letI y2_3 := _; letI y2_4 := _; letI y2_5 := _; letI y2_6 := _; letI y2_7 := _; letI y2_8 := _; letI y2_9 := _; letI y2_10 := _; letI y2_11 := _; letI y2_12 := _; goW12 Wq rfl y2_1 y2_2 y2_3 y2_4 y2_5 y2_6 y2_7 y2_8 y2_9 y2_10 y2_11 y2_12 rfl rfl rfl rfl rfl rfl rfl rfl rfl rfl rfl rfl ?_; try clear bq9))
    k_with "b3.1" => (with_reducible (rename BAR _ => bq9; refine letI kk := _; haveI bq8 := @barS kk bq9; letI y3_1 := _; goW1 (k := kk) (n := by k_extra "ne") y3_1 rfl ?_; try clear bq9))
    k_with "b3.2" => (with_reducible (rename BAR _ => bq9; refine letI kk := _; haveI bq8 := @barS kk bq9; letI Wq := mkW2 (k := kk) (n := by k_extra "ne"); letI y3_1 := _; letI y3_2 := _; goW2 Wq rfl y3_1 y3_2 rfl rfl ?_; try clear bq9))
    k_with "b3.6" => (with_reducible (rename BAR _ => bq9; refine letI kk := _; haveI bq8 := @barS kk bq9; letI Wq := mkW6 (k := kk) (n := by k_extra "ne"); letI y3_1 := _; letI y3_2 := _; letI y3_3 := _; letI y3_4 := _; letI y3_5 := _; letI y3_6 := _; goW6 Wq rfl y3_1 y3_2 y3_3 y3_4 y3_5 y3_6 rfl rfl rfl rfl rfl rfl ?_; try clear bq9))
    k_with "b3.8" => (with_reducible (rename BAR _ => bq9; refine letI kk := _; haveI bq8 := @barS kk bq9; letI Wq := mkW8 (k := kk) (n := by k_extra "ne"); letI y3_1 := _; letI y3_2 := _; letI y3_3 := _; letI y3_4 := _; letI y3_5 := _; letI y3_6 := _; letI y3_7 := _; letI y3_8 := _; goW8 Wq rfl y3_1 y3_2 y3_3 y3_4 y3_5 y3_6 y3_7 y3_8 rfl rfl rfl rfl rfl rfl rfl rfl ?_; try clear bq9))
    k_with "b3.12" => (with_reducible (rename BAR _ => bq9; refine letI kk := _; haveI bq8 := @barS kk bq9; letI Wq := mkW12 (k := kk) (n := by k_extra "ne"); letI y3_1 := _; letI y3_2 := _; letI y3_3 := _; letI y3_4 := _; letI y3_5 := _; letI y3_6 := _; letI y3_7 := _; letI y3_8 := _; letI y3_9 := _; letI y3_10 := _; letI y3_11 := _; letI y3_12 := _; goW12 Wq rfl y3_1 y3_2 y3_3 y3_4 y3_5 y3_6 y3_7 y3_8 y3_9 y3_10 y3_11 y3_12 rfl rfl rfl rfl rfl rfl rfl rfl rfl rfl rfl rfl ?_; try clear bq9))
    k_with "b4.1" => (with_reducible (rename BAR _ => bq9; refine letI kk := _; haveI bq8 := @barS kk bq9; letI y4_1 := _; goW1 (k := kk) (n := by k_extra "ne") y4_1 rfl ?_; try clear bq9))
    k_with "b4.2" => (with_reducible (rename BAR _ => bq9; refine letI kk := _; haveI bq8 := @barS kk bq9; letI Wq := mkW2 (k := kk) (n := by k_extra "ne"); letI y4_1 := _; letI y4_2 := _; goW2 Wq rfl y4_1 y4_2 rfl rfl ?_; try clear bq9))
    k_with "b4.12" => (with_reducible (rename BAR _ => bq9; refine letI kk := _; haveI bq8 := @barS kk bq9; letI Wq := mkW12 (k := kk) (n := by k_extra "ne"); letI y4_1 := _; letI y4_2 := _; letI y4_3 := _; letI y4_4 := _; letI y4_5 := _; letI y4_6 := _; letI y4_7 := _; letI y4_8 := _; letI y4_9 := _; letI y4_10 := _; letI y4_11 := _; letI y4_12 := _; goW12 Wq rfl y4_1 y4_2 y4_3 y4_4 y4_5 y4_6 y4_7 y4_8 y4_9 y4_10 y4_11 y4_12 rfl rfl rfl rfl rfl rfl rfl rfl rfl rfl rfl rfl ?_; try clear bq9))
    k_with "b5.12" => (with_reducible (rename BAR _ => bq9; refine letI kk := _; haveI bq8 := @barS kk bq9; letI Wq := mkW12 (k := kk) (n := by k_extra "ne"); letI y5_1 := _; letI y5_2 := _; letI y5_3 := _; letI y5_4 := _; letI y5_5 := _; letI y5_6 := _; letI y5_7 := _; letI y5_8 := _; letI y5_9 := _; letI y5_10 := _; letI y5_11 := _; letI y5_12 := _; goW12 Wq rfl y5_1 y5_2 y5_3 y5_4 y5_5 y5_6 y5_7 y5_8 y5_9 y5_10 y5_11 y5_12 rfl rfl rfl rfl rfl rfl rfl rfl rfl rfl rfl rfl ?_; try clear bq9))
    k_with "b6.6" => (with_reducible (rename BAR _ => bq9; refine letI kk := _; haveI bq8 := @barS kk bq9; letI Wq := mkW6 (k := kk) (n := by k_extra "ne"); letI y6_1 := _; letI y6_2 := _; letI y6_3 := _; letI y6_4 := _; letI y6_5 := _; letI y6_6 := _; goW6 Wq rfl y6_1 y6_2 y6_3 y6_4 y6_5 y6_6 rfl rfl rfl rfl rfl rfl ?_; try clear bq9))
    k_with "b7.1" => (with_reducible (rename BAR _ => bq9; refine letI kk := _; haveI bq8 := @barS kk bq9; letI y7_1 := _; goW1 (k := kk) (n := by k_extra "ne") y7_1 rfl ?_; try clear bq9))
    k_with "hd" => (with_reducible (rename BAR _ => bq9; refine letI kk := _; haveI bq8 := @barS kk bq9; letI Wq := mkW22 (k := kk) (n := by k_extra "ne"); letI p := _; letI loose := _; letI mean := _; letI mg := _; letI mb := _; letI dp := _; letI un := _; letI gd := _; letI cn := _; letI cs := _; letI a := _; letI ccd := _; letI cl := _; letI outer := _; letI A₀ := _; letI base := _; letI h₀ := _; letI L := _; letI mm := _; letI s := _; letI Q := _; letI E := _; goW22 Wq rfl p loose mean mg mb dp un gd cn cs a ccd cl outer A₀ base h₀ L mm s Q E rfl rfl rfl rfl rfl rfl rfl rfl rfl rfl rfl rfl rfl rfl rfl rfl rfl rfl rfl rfl rfl rfl ?_; try clear bq9))
    k_with "hdw" => (with_reducible (rename BAR _ => bq9; refine letI kk := _; haveI bq8 := @barS kk bq9; letI Wq := mkW23 (k := kk) (n := by k_extra "ne"); letI w := _; letI p := _; letI loose := _; letI mean := _; letI mg := _; letI mb := _; letI dp := _; letI un := _; letI gd := _; letI cn := _; letI cs := _; letI a := _; letI ccd := _; letI cl := _; letI outer := _; letI A₀ := _; letI base := _; letI h₀ := _; letI L := _; letI mm := _; letI s := _; letI Q := _; letI E := _; goW23 Wq rfl w p loose mean mg mb dp un gd cn cs a ccd cl outer A₀ base h₀ L mm s Q E rfl rfl rfl rfl rfl rfl rfl rfl rfl rfl rfl rfl rfl rfl rfl rfl rfl rfl rfl rfl rfl rfl rfl ?_; try clear bq9))
    k_with "hw" => (k_extra "hdw"; intro B F X N T hk hd hu hret; (with_reducible k_extra "bar"); refine wpAny_call ?_; k_extra "en")
    k_with "hv" => (k_extra "hd"; intro B F X N T hk hd hu hret; (with_reducible k_extra "bar"); refine wpAny_call ?_; k_extra "en")
    k_with "h0" => refine haveI b8 : BAR 0 := bar0; ?_)
  k_extra "G1"
  trivial
-- NBase
theorem leN {a b : Nat} (h : Nat.ble a b = true) : a ≤ b := Nat.le_of_ble_eq_true h
theorem viaP {G : Prop} (h : ∀ P : Prop, (G → P) → P) : G := h G id
abbrev Led := List (Addr × Obj)
/-- a call that hands back a value and leaves the ledger as it was -/
def SpecV (D U : Nat) (f : Addr) (args : List Value) (led : Led) (post : Value → Prop) : Prop :=
  ∀ (w : World) (p : Program) (loose : List Str) (mean : ExcName → Option Value) (mg mb : Str → Option Value) (dp un : Nat) (gd : Option (List Code)) (cn : Str) (cs : Scope) (a : Addr) (ccd : Value) (cl : List (Str × Addr)) (outer : List Env) (A₀ : Around) (base h₀ : Heap) (L : Addr) (m : Str → Option Value) (s : Shared) (Q E : Value → Shared → Prop),
   Below A₀ base outer h₀ → Fr h₀ L s.heap m → (KK w.params).In h₀ → News h₀ L s.heap led → Top p loose mean mg mb h₀ → cs.kind = .function → dp + D < recursionLimit → un + U < cLine →
   (∀ v h' tk', Fr h₀ L h' m → News h₀ L h' led → post v → Q v { s with heap := h', toks := tk' }) →
   wpAny (model PySem.Challenge.rw_sz0042_01.row.prog w) (ktrTop dp un gd cn cs L a ccd cl outer) (call (.ref f) args) Q E s
/-- a call that may add to the ledger -/
def SpecP (D U : Nat) (f : Addr) (args : List Value) (led : Led) (post : Value → Led → Prop) : Prop :=
  ∀ (w : World) (p : Program) (loose : List Str) (mean : ExcName → Option Value) (mg mb : Str → Option Value) (dp un : Nat) (gd : Option (List Code)) (cn : Str) (cs : Scope) (a : Addr) (ccd : Value) (cl : List (Str × Addr)) (outer : List Env) (A₀ : Around) (base h₀ : Heap) (L : Addr) (m : Str → Option Value) (s : Shared) (Q E : Value → Shared → Prop),
   Below A₀ base outer h₀ → Fr h₀ L s.heap m → (KK w.params).In h₀ → News h₀ L s.heap led → Top p loose mean mg mb h₀ → cs.kind = .function → dp + D < recursionLimit → un + U < cLine →
   (∀ v tl h' tk', Fr h₀ L h' m → News h₀ L h' (tl ++ led) → (∀ q ∈ tl, ∀ p ∈ led, @LT.lt Nat _ p.1 q.1) → post v (tl ++ led) → Q v { s with heap := h', toks := tk' }) →
   wpAny (model PySem.Challenge.rw_sz0042_01.row.prog w) (ktrTop dp un gd cn cs L a ccd cl outer) (call (.ref f) args) Q E s
def TupIs (led : Led) (a : Addr) (l : List Value) : Prop := (a, tp l) ∈ led ∨ (a = 293 ∧ l = [.int 0 588, .int 0 589])
theorem im2 {A1 A2 : Type} {P : A1 → A2 → Prop} {G : Prop} (k : ∀ x1 x2, P x1 x2 → G) : (∃ x1 x2, P x1 x2) → G := fun h => h.elim fun x1 h => h.elim fun x2 h => k x1 x2 h
theorem im3 {A1 A2 A3 : Type} {P : A1 → A2 → A3 → Prop} {G : Prop} (k : ∀ x1 x2 x3, P x1 x2 x3 → G) : (∃ x1 x2 x3, P x1 x2 x3) → G := fun h => h.elim fun x1 => im2 (k x1)
theorem im4 {A1 A2 A3 A4 : Type} {P : A1 → A2 → A3 → A4 → Prop} {G : Prop} (k : ∀ x1 x2 x3 x4, P x1 x2 x3 x4 → G) : (∃ x1 x2 x3 x4, P x1 x2 x3 x4) → G := im2 fun x1 x2 => im2 (k x1 x2)
theorem im6 {A1 A2 A3 A4 A5 A6 : Type} {P : A1 → A2 → A3 → A4 → A5 → A6 → Prop} {G : Prop} (k : ∀ x1 x2 x3 x4 x5 x6, P x1 x2 x3 x4 x5 x6 → G) : (∃ x1 x2 x3 x4 x5 x6, P x1 x2 x3 x4 x5 x6) → G := im2 fun x1 x2 => im4 (k x1 x2)
theorem im8 {A1 A2 A3 A4 A5 A6 A7 A8 : Type} {P : A1 → A2 → A3 → A4 → A5 → A6 → A7 → A8 → Prop} {G : Prop} (k : ∀ x1 x2 x3 x4 x5 x6 x7 x8, P x1 x2 x3 x4 x5 x6 x7 x8 → G) : (∃ x1 x2 x3 x4 x5 x6 x7 x8, P x1 x2 x3 x4 x5 x6 x7 x8) → G := im4 fun x1 x2 x3 x4 => im4 (k x1 x2 x3 x4)
theorem im12 {A1 A2 A3 A4 A5 A6 A7 A8 A9 A10 A11 A12 : Type} {P : A1 → A2 → A3 → A4 → A5 → A6 → A7 → A8 → A9 → A10 → A11 → A12 → Prop} {G : Prop} (k : ∀ x1 x2 x3 x4 x5 x6 x7 x8 x9 x10 x11 x12, P x1 x2 x3 x4 x5 x6 x7 x8 x9 x10 x11 x12 → G) : (∃ x1 x2 x3 x4 x5 x6 x7 x8 x9 x10 x11 x12, P x1 x2 x3 x4 x5 x6 x7 x8 x9 x10 x11 x12) → G := im4 fun x1 x2 x3 x4 => im8 (k x1 x2 x3 x4)
theorem ia2 {F1 F2 G : Prop} (k : F1 → F2 → G) : F1 ∧ F2 → G := fun h => k h.1 h.2
theorem ia3 {F1 F2 F3 G : Prop} (k : F1 → F2 → F3 → G) : F1 ∧ F2 ∧ F3 → G := fun h => k h.1 h.2.1 h.2.2
theorem ia4 {F1 F2 F3 F4 G : Prop} (k : F1 → F2 → F3 → F4 → G) : F1 ∧ F2 ∧ F3 ∧ F4 → G := fun h => k h.1 h.2.1 h.2.2.1 h.2.2.2
theorem ia5 {F1 F2 F3 F4 F5 G : Prop} (k : F1 → F2 → F3 → F4 → F5 → G) : F1 ∧ F2 ∧ F3 ∧ F4 ∧ F5 → G := fun h => k h.1 h.2.1 h.2.2.1 h.2.2.2.1 h.2.2.2.2
theorem ia6 {F1 F2 F3 F4 F5 F6 G : Prop} (k : F1 → F2 → F3 → F4 → F5 → F6 → G) : F1 ∧ F2 ∧ F3 ∧ F4 ∧ F5 ∧ F6 → G := fun h => k h.1 h.2.1 h.2.2.1 h.2.2.2.1 h.2.2.2.2.1 h.2.2.2.2.2
theorem ia7 {F1 F2 F3 F4 F5 F6 F7 G : Prop} (k : F1 → F2 → F3 → F4 → F5 → F6 → F7 → G) : F1 ∧ F2 ∧ F3 ∧ F4 ∧ F5 ∧ F6 ∧ F7 → G := fun h => k h.1 h.2.1 h.2.2.1 h.2.2.2.1 h.2.2.2.2.1 h.2.2.2.2.2.1 h.2.2.2.2.2.2
theorem ia8 {F1 F2 F3 F4 F5 F6 F7 F8 G : Prop} (k : F1 → F2 → F3 → F4 → F5 → F6 → F7 → F8 → G) : F1 ∧ F2 ∧ F3 ∧ F4 ∧ F5 ∧ F6 ∧ F7 ∧ F8 → G := fun h => k h.1 h.2.1 h.2.2.1 h.2.2.2.1 h.2.2.2.2.1 h.2.2.2.2.2.1 h.2.2.2.2.2.2.1 h.2.2.2.2.2.2.2
theorem ia9 {F1 F2 F3 F4 F5 F6 F7 F8 F9 G : Prop} (k : F1 → F2 → F3 → F4 → F5 → F6 → F7 → F8 → F9 → G) : F1 ∧ F2 ∧ F3 ∧ F4 ∧ F5 ∧ F6 ∧ F7 ∧ F8 ∧ F9 → G := fun h => k h.1 h.2.1 h.2.2.1 h.2.2.2.1 h.2.2.2.2.1 h.2.2.2.2.2.1 h.2.2.2.2.2.2.1 h.2.2.2.2.2.2.2.1 h.2.2.2.2.2.2.2.2
theorem ia10 {F1 F2 F3 F4 F5 F6 F7 F8 F9 F10 G : Prop} (k : F1 → F2 → F3 → F4 → F5 → F6 → F7 → F8 → F9 → F10 → G) : F1 ∧ F2 ∧ F3 ∧ F4 ∧ F5 ∧ F6 ∧ F7 ∧ F8 ∧ F9 ∧ F10 → G := fun h => k h.1 h.2.1 h.2.2.1 h.2.2.2.1 h.2.2.2.2.1 h.2.2.2.2.2.1 h.2.2.2.2.2.2.1 h.2.2.2.2.2.2.2.1 h.2.2.2.2.2.2.2.2.1 h.2.2.2.2.2.2.2.2.2
/-- the number of a number's decimal digits -/
noncomputable def digF : Nat → Nat → Nat
  | 0, _ => 0
  | f + 1, n => if n = 0 then 0 else digF f (n / 10) + 1
def digN (n : Nat) : Nat := digF n n
theorem digF_ok : ∀ (f g n : Nat), n ≤ f → n ≤ g → digF f n = digF g n := by
  intro f
  induction f with
  | zero => intro g n h _; cases Nat.le_zero.mp h; cases g <;> rfl
  | succ f ih =>
    intro g n h1 h2
    cases g with
    | zero => cases Nat.le_zero.mp h2; rfl
    | succ g =>
      by_cases h : n = 0
      · cases h; rfl
      · show (if n = 0 then 0 else digF f (n / 10) + 1) = if n = 0 then 0 else digF g (n / 10) + 1
        rw [ih g (n / 10) (by lia) (by lia)]
theorem digN_eq (n : Nat) : digN n = if h : n = 0 then 0 else digN (n / 10) + 1 := by
  cases n with
  | zero => rfl
  | succ n =>
    show (if n + 1 = 0 then 0 else digF n ((n + 1) / 10) + 1) = _
    rw [digF_ok n ((n + 1) / 10) ((n + 1) / 10) (by lia) (Nat.le_refl _)]; rfl
def digs (n : Int) : Int := (digN n.natAbs : Nat)
theorem digN_pos {n : Nat} (h : n ≠ 0) : digN n = digN (n / 10) + 1 := by rw [digN_eq]; simp [h]
theorem div10 {m : Int} (h : m % 10 = 0) : m.natAbs = 10 * (m / 10).natAbs := (congrArg Int.natAbs (Int.mul_ediv_cancel_of_emod_eq_zero h).symm).trans (Int.natAbs_mul 10 _)
theorem dn {a b k : Nat} (e : a = 10 * b) (h : a ≤ k + 1) (h0 : a ≠ 0) : b ≤ k := by lia
theorem dl {a b : Nat} (e : a = 10 * b) (h0 : a ≠ 0) : b < a := by lia
theorem d10 {m : Int} {k : Nat} (hk : m.natAbs ≤ k + 1) (h : m ≠ 0) (h1 : m % 10 = 0) : (m / 10).natAbs ≤ k := dn (div10 h1) hk (Int.natAbs_ne_zero.mpr h)
theorem digs_pos {n : Int} (h : 0 < n) : digs n = digs (n / 10) + 1 := by
  unfold digs
  rw [digN_pos (by lia)]
  have : (n / 10).natAbs = n.natAbs / 10 := by obtain ⟨m, rfl⟩ := Int.eq_ofNat_of_zero_le (Int.le_of_lt h); rfl
  rw [this]; lia
theorem digs_zero : digs 0 = 0 := by unfold digs; rw [show (0 : Int).natAbs = 0 from rfl, digN_eq]; simp
theorem digN_big : ∀ (k : Nat) {n : Nat}, 10 ^ k ≤ n → digN n = digN (n / 10 ^ k) + k
  | 0, n, _ => by simp
  | k + 1, n, h => by
    have h1 : 10 ^ k ≤ n / 10 := by
      rw [Nat.le_div_iff_mul_le (by lia)]
      rw [Nat.pow_succ] at h; exact h
    have h0 : n ≠ 0 := by
      have : 0 < 10 ^ (k + 1) := Nat.pow_pos (by lia)
      lia
    rw [digN_pos h0, digN_big k h1, Nat.div_div_eq_div_mul, Nat.pow_succ, Nat.mul_comm 10]; lia
theorem digs_nine {n : Int} (h : 1000000000 ≤ n) : digs n = digs (n / 1000000000) + 9 := by
  unfold digs
  obtain ⟨m, rfl⟩ := Int.eq_ofNat_of_zero_le (Int.le_trans (by decide : (0 : Int) ≤ 1000000000) h)
  have h1 := digN_big 9 (n := (m : Int).natAbs) (Int.ofNat_le.mp h)
  have : ((m : Int) / 1000000000).natAbs = (m : Int).natAbs / 10 ^ 9 := rfl
  rw [this, h1]; lia
theorem digs_abs (n : Int) : digs (n.natAbs : Int) = digs n := by unfold digs; simp
theorem digs_nonneg (n : Int) : 0 ≤ digs n := by unfold digs; lia
theorem specV_use {D U : Nat} {f : Addr} {args : List Value} {led : Led} {post : Value → Prop} (C : SpecV D U f args led post) {w : World} {p : Program} {loose : List Str} {mean : ExcName → Option Value} {mg mb : Str → Option Value} {dp un : Nat} {gd : Option (List Code)} {cn : Str} {cs : Scope} {a : Addr} {ccd : Value} {cl : List (Str × Addr)} {outer : List Env} {A₀ : Around} {base h₀ : Heap} {L : Addr} {m : Str → Option Value} {s : Shared} {Q E : Value → Shared → Prop}
    (B : Below A₀ base outer h₀) (F : Fr h₀ L s.heap m) (X : (KK w.params).In h₀) (N : News h₀ L s.heap led) (T : Top p loose mean mg mb h₀) (hk : cs.kind = .function) (hd : dp + D < recursionLimit) (hu : un + U < cLine)
    (ret : ∀ v h' tk', Fr h₀ L h' m → News h₀ L h' led → post v → Q v { s with heap := h', toks := tk' }) :
    wpAny (model PySem.Challenge.rw_sz0042_01.row.prog w) (ktrTop dp un gd cn cs L a ccd cl outer) (call (.ref f) args) Q E s := C _ _ _ _ _ _ _ _ _ _ _ _ _ _ _ _ _ _ _ _ _ _ _ B F X N T hk hd hu ret
theorem specP_use {D U : Nat} {f : Addr} {args : List Value} {led : Led} {post : Value → Led → Prop} (C : SpecP D U f args led post) {w : World} {p : Program} {loose : List Str} {mean : ExcName → Option Value} {mg mb : Str → Option Value} {dp un : Nat} {gd : Option (List Code)} {cn : Str} {cs : Scope} {a : Addr} {ccd : Value} {cl : List (Str × Addr)} {outer : List Env} {A₀ : Around} {base h₀ : Heap} {L : Addr} {m : Str → Option Value} {s : Shared} {Q E : Value → Shared → Prop}
    (B : Below A₀ base outer h₀) (F : Fr h₀ L s.heap m) (X : (KK w.params).In h₀) (N : News h₀ L s.heap led) (T : Top p loose mean mg mb h₀) (hk : cs.kind = .function) (hd : dp + D < recursionLimit) (hu : un + U < cLine)
    (ret : ∀ v tl h' tk', Fr h₀ L h' m → News h₀ L h' (tl ++ led) → (∀ q ∈ tl, ∀ p ∈ led, @LT.lt Nat _ p.1 q.1) → post v (tl ++ led) → Q v { s with heap := h', toks := tk' }) :
    wpAny (model PySem.Challenge.rw_sz0042_01.row.prog w) (ktrTop dp un gd cn cs L a ccd cl outer) (call (.ref f) args) Q E s := C _ _ _ _ _ _ _ _ _ _ _ _ _ _ _ _ _ _ _ _ _ _ _ B F X N T hk hd hu ret
theorem no_lt {led : Led} : ∀ q ∈ ([] : Led), ∀ p ∈ led, @LT.lt Nat _ p.1 q.1 := fun _ h => nomatch h
theorem one_lt {led : Led} {D : Addr} {o : Obj} (l1 : ∀ p ∈ led, @LT.lt Nat _ p.1 D) : ∀ q ∈ [(D, o)], ∀ p ∈ led, @LT.lt Nat _ p.1 q.1 := fun q hq => by
  rw [List.mem_singleton.mp hq]; exact l1
noncomputable def stripF : Nat → Int → Int → Int × Int
  | 0, _, _ => (0, 0)
  | f + 1, m, e => if m = 0 then (0, 0) else if m % 10 = 0 then stripF f (m / 10) (e + 1) else (m, e)
def stripZ (m e : Int) : Int × Int := stripF m.natAbs m e
theorem stripF_ok : ∀ (f g : Nat) (m e : Int), m.natAbs ≤ f → m.natAbs ≤ g → stripF f m e = stripF g m e := by
  refine @dq _ (by
  intro f
  induction f with
  | zero => intro g m e h _; have h0 : m = 0 := by lia
            cases h0; cases g <;> rfl
  | succ f ih =>
    intro g m e h1 h2
    cases g with
    | zero => have h0 : m = 0 := by lia
              cases h0; rfl
    | succ g =>
      by_cases h : m = 0
      · cases h; rfl
      · show (if m = 0 then (0, 0) else if m % 10 = 0 then stripF f (m / 10) (e + 1) else (m, e)) = if m = 0 then (0, 0) else if m % 10 = 0 then stripF g (m / 10) (e + 1) else (m, e)
        by_cases h3 : m % 10 = 0
        · rw [ih g (m / 10) (e + 1) (d10 h1 h h3) (d10 h2 h h3)]
        · rw [if_neg h3, if_neg h3]) fun q hf => ?_
  simpa only using fq hf (@Eq _ 5 5)
theorem stripZ_zero (e : Int) : stripZ 0 e = (0, 0) := rfl
theorem stripZ_step {m : Int} (e : Int) (h : m ≠ 0) : stripZ m e = if m % 10 = 0 then stripZ (m / 10) (e + 1) else (m, e) := by
  unfold stripZ
  rw [stripF_ok m.natAbs (m.natAbs + 1) m e (Nat.le_refl _) (Nat.le_succ _)]
  show (if m = 0 then (0, 0) else if m % 10 = 0 then stripF m.natAbs (m / 10) (e + 1) else (m, e)) = _
  rw [if_neg h, stripF_ok m.natAbs (m / 10).natAbs (m / 10) (e + 1) (Int.natAbs_ediv_le_natAbs _ _) (Nat.le_refl _)]
theorem stripZ_more {m : Int} (e : Int) (h : m ≠ 0) (h1 : m % 10 = 0) : stripZ m e = stripZ (m / 10) (e + 1) := by rw [stripZ_step e h, if_pos h1]
theorem stripZ_done {m : Int} (e : Int) (h : m ≠ 0) (h1 : m % 10 ≠ 0) : stripZ m e = (m, e) := by rw [stripZ_step e h, if_neg h1]
theorem TupIs.cons {led : Led} {a : Addr} {l : List Value} {p : Addr × Obj} (h : TupIs led a l) : TupIs (p :: led) a l := h.imp (fun q => .tail _ q) id
theorem TupIs.app {led tl : Led} {a : Addr} {l : List Value} (h : TupIs led a l) : TupIs (tl ++ led) a l := h.imp (fun q => List.mem_append_right _ q) id
theorem TupIs.tup {P : Params} {led : Led} {h₀ h : Heap} {L a : Addr} {m : Str → Option Value} {l : List Value} (F : Fr h₀ L h m) (X : (KK P).In h₀) (N : News h₀ L h led) (hp : TupIs led a l) : IsTup h a l.toArray := by
  rcases hp with hp | ⟨rfl, rfl⟩
  · exact ⟨_, N.get hp, rfl, _, rfl⟩
  · exact ⟨_, F.keep _ _ (X 293 o293 (by rfl)), rfl, _, rfl⟩
theorem two_lt {led tl : Led} {D : Addr} {o : Obj} (l1 : ∀ p ∈ tl ++ led, @LT.lt Nat _ p.1 D) (l9 : ∀ q ∈ tl, ∀ p ∈ led, @LT.lt Nat _ p.1 q.1) : ∀ q ∈ (D, o) :: tl, ∀ p ∈ led, @LT.lt Nat _ p.1 q.1 := fun q hq p hp => by
  rcases List.mem_cons.mp hq with rfl | hq
  · exact l1 p (List.mem_append_right _ hp)
  · exact l9 q hq p hp
theorem app_lt {led tl tl2 : Led} (l2 : ∀ q ∈ tl2, ∀ p ∈ tl ++ led, @LT.lt Nat _ p.1 q.1) (l9 : ∀ q ∈ tl, ∀ p ∈ led, @LT.lt Nat _ p.1 q.1) : ∀ q ∈ tl2 ++ tl, ∀ p ∈ led, @LT.lt Nat _ p.1 q.1 := fun q hq p hp => by
  rcases List.mem_append.mp hq with hq | hq
  · exact l2 q hq p (List.mem_append_right _ hp)
  · exact l9 q hq p hp
theorem News.assoc {h₀ h : Heap} {L : Addr} {tl2 tl led : Led} (N : News h₀ L h (tl2 ++ (tl ++ led))) : News h₀ L h ((tl2 ++ tl) ++ led) := by rw [List.append_assoc]; exact N
theorem TupIs.assoc {tl2 tl led : Led} {a : Addr} {l : List Value} (h : TupIs (tl2 ++ (tl ++ led)) a l) : TupIs ((tl2 ++ tl) ++ led) a l := by rw [List.append_assoc]; exact h
theorem app_lt3 {led tl tl2 tl3 : Led} (l3 : ∀ q ∈ tl3, ∀ p ∈ tl2 ++ (tl ++ led), @LT.lt Nat _ p.1 q.1) (l2 : ∀ q ∈ tl2, ∀ p ∈ tl ++ led, @LT.lt Nat _ p.1 q.1) (l9 : ∀ q ∈ tl, ∀ p ∈ led, @LT.lt Nat _ p.1 q.1) : ∀ q ∈ tl3 ++ (tl2 ++ tl), ∀ p ∈ led, @LT.lt Nat _ p.1 q.1 := fun q hq p hp => by
  rcases List.mem_append.mp hq with hq | hq
  · exact l3 q hq p (List.mem_append_right _ (List.mem_append_right _ hp))
  · exact app_lt l2 l9 q hq p hp
theorem News.assoc3 {h₀ h : Heap} {L : Addr} {tl3 tl2 tl led : Led} (N : News h₀ L h (tl3 ++ (tl2 ++ (tl ++ led)))) : News h₀ L h ((tl3 ++ (tl2 ++ tl)) ++ led) := by simp only [List.append_assoc]; exact N
theorem TupIs.assoc3 {tl3 tl2 tl led : Led} {a : Addr} {l : List Value} (h : TupIs (tl3 ++ (tl2 ++ (tl ++ led))) a l) : TupIs ((tl3 ++ (tl2 ++ tl)) ++ led) a l := by simp only [List.append_assoc]; exact h
theorem divmod_K {prog : Program} {w : World} {A : Around} {E : Value → Shared → Prop} {s : Shared} {a b : Int} {t u : Tok} {Q : Value → Shared → Prop} {h₀ : Heap} {L : Addr} {m : Str → Option Value} {news : List (Addr × Obj)} (F : Fr h₀ L s.heap m) (N : News h₀ L s.heap news) (hb : b ≠ 0)
    (hp : Builtin.divisionGoesByPylong a b = false ∨ PySem.PylongRoom (model prog w) A s)
    (h : ∀ d h', Fr h₀ L h' m → News h₀ L h' ((d, tp [.int (a.fdiv b) s.toks, .int (a.fmod b) (s.toks + 1)]) :: news) → (∀ p ∈ news, @LT.lt Nat _ p.1 d) → Q (.ref d) { s with toks := s.toks + 1 + 1, heap := h' }) :
    wpAny (model prog w) A (call (.builtin "divmod") [.int a t, .int b u]) Q E s :=
  divmod_N F N hb (fun h' F' N' => h _ h' F' N' fun p hp => Heap.lt_size (N.get hp)) hp
noncomputable abbrev enS (P : Params) (x : String) (t : Tok) (v : Value) : DictEntry := ⟨PyData.keyHash P (Str.ofString x), .str (Str.ofString x) t, v⟩
theorem words2 : True := by
  k_with "G2" => (
    k_with "!subscriptTail Name" => (k_here; (with_reducible show wpAny _ _ (subscriptTail _ _ (Value.ref _) (Value.int _ _)) _ _ _); k_dflt (refine' item_tupleT ?z10t ?z10a ?z10b ?z10c ?z10d ?_; (case z10t => refine' TupIs.tup ?z10tF ?z10tX ?z10tN ?z10tp; (case z10tF => k_asm); (case z10tX => k_asm); (case z10tN => k_asm); (case z10tp => first | assumption | (refine' TupIs.cons ?q36; (case q36 => assumption)) | (refine' TupIs.app ?q37; (case q37 => assumption)) | (refine' TupIs.cons (TupIs.cons ?q38); (case q38 => assumption)))); (case z10a => decide); (case z10b => decide); (case z10c => rfl); (case z10d => rfl); k_whole))
    k_with "!assign Tuple" => (k_here; (with_reducible show wpAny _ _ (assign (Expr.Tuple _ _ _) _ (Value.ref _)) _ _ _); k_dflt (refine' unpackN_ ?z11k1 ?z11k2 ?z11k3 ?z11k4 ?z11k5 ?z11k6 ?_; (case z11k1 => k_asm); (case z11k2 => k_asm); (case z11k3 => refine' TupIs.tup ?z11tF ?z11tX ?z11tN ?z11tp; (case z11tF => k_asm); (case z11tX => k_asm); (case z11tN => k_asm); (case z11tp => first | assumption | (refine' TupIs.cons ?q39; (case q39 => assumption)) | (refine' TupIs.app ?q40; (case q40 => assumption)))); (case z11k4 => exact rfl); (case z11k5 => exact rfl); (case z11k6 => exact rfl); k_whole); intro h' F' N'; (try k_sweep))
    k_with "!binaryOp Pow int int" => (k_here; (with_reducible refine pow_int_small ?z12kb1 ?z12kb2 ?z12kb3 ?_); (case z12kb1 => first | omega | (split <;> omega)); (case z12kb2 => first | omega | (split <;> omega)); (case z12kb3 => decide))
    k_with "!binaryOp Mult int int" => (k_here; (with_reducible refine PyProof.Rows.mul_int ?_ ?z13kb1); (case z13kb1 => first | (refine' IntMulOk.of_left (intBits_le_64 ?q41 ?q42); (case q41 => first | omega | (split <;> omega)); (case q42 => first | omega | (split <;> omega))) | (refine' IntMulOk.of_right (intBits_le_64 ?q43 ?q44); (case q43 => first | omega | (split <;> omega)); (case q44 => first | omega | (split <;> omega)))))
    k_with "!call ref" => ((with_reducible show wpAny _ _ (call (Value.ref _) _) _ _ _); k_here; k_dflt (refine' specP_use ?z14kC ?z14k1 ?z14k2 ?z14k3 ?z14k4 ?z14k5 ?z14kK ?z14kd ?z14ku ?_; (case z14k4 => k_asm); (case z14kC => k_extra "specP"); (case z14k1 => k_asm); (case z14k2 => k_asm); (case z14k3 => k_asm); (case z14k5 => k_asm); (case z14kK => first | exact rfl | assumption); (case z14kd => ktr_room); (case z14ku => ktr_units)); intro v9 tl9 h9 tk9 F9 N9 l9 hp9; (first | (obtain ⟨a9, u9, z9, e9, hp9⟩ := hp9; subst e9) | k_extra "openP"); (try k_sweep); (try k_fold))
    k_with "!call ref" => ((with_reducible show wpAny _ _ (call (Value.ref _) _) _ _ _); k_here; k_dflt (refine' specV_use ?z15kC ?z15k1 ?z15k2 ?z15k3 ?z15k4 ?z15k5 ?z15kK ?z15kd ?z15ku ?_; (case z15k4 => k_asm); (case z15kC => k_extra "specV"); (case z15k1 => k_asm); (case z15k2 => k_asm); (case z15k3 => k_asm); (case z15k5 => k_asm); (case z15kK => first | exact rfl | assumption); (case z15kd => ktr_room); (case z15ku => ktr_units)); intro v9 h9 tk9 F9 N9 hp9; (first | (refine Exists.elim hp9 ?_; clear hp9; intro t9 e9; subst e9) | subst hp9); (try k_sweep); (try k_fold))
    k_with "!call builtin:divmod" => (k_here; (with_reducible show wpAny _ _ (call (Value.builtin _) [Value.int _ _, Value.int _ _]) _ _ _); k_dflt (refine' divmod_K ?z16k1 ?z16k2 ?z16k3 ?z16k4 ?_; (case z16k1 => k_asm); (case z16k2 => k_asm); (case z16k3 => first | omega | k_extra "nonzero"); (case z16k4 => first | (refine' Or.inl (PyProof.noPylong_small ?q45); (case q45 => omega)) | (refine' Or.inr (PySem.PylongRoom.of (PySem.Heap.NoLimit.keeps (PyProof.Rows.Top.nolimit ?q46) (PyProof.Rows.Fr.keep ?q47)) (of_decide_eq_true ?q48)); (case q46 => assumption); (case q47 => assumption); (case q48 => with_unfolding_all rfl)) | k_extra "room"); k_whole); intro d' h' F' N' l1; (try k_sweep))
    k_with "m:k_mem" => (refine List.mem_append_right _ ?_; k_mem))
  k_extra "G2"
  trivial
-- N01
theorem cd_start (n : Int) : (0 ≤ if n < 0 then -n else n) ∧ 0 + digs (if n < 0 then -n else n) = digs n := by
  have e : (if n < 0 then -n else n) = (n.natAbs : Int) := by split <;> omega
  rw [e, digs_abs]
  exact ⟨by omega, by omega⟩
theorem cd_t9 {n n' c : Int} (h : 0 ≤ n' ∧ c + digs n' = digs n) (hb : 1000000000 ≤ n') : 0 ≤ n'.fdiv 1000000000 ∧ c + 9 + digs (n'.fdiv 1000000000) = digs n := by
  rw [Int.fdiv_eq_ediv_of_nonneg _ (by omega)]
  have := digs_nine hb
  omega
theorem cd_t1 {n n' c : Int} (h : 0 ≤ n' ∧ c + digs n' = digs n) (hb : 0 < n') : 0 ≤ n'.fdiv 10 ∧ c + 1 + digs (n'.fdiv 10) = digs n := by
  rw [Int.fdiv_eq_ediv_of_nonneg _ (by omega)]
  have := digs_pos hb
  omega
theorem fdiv_less {n : Int} (k : Int) (hn : 0 < n) (hk : 1 < k) : (n.fdiv k).toNat < n.toNat := by
  rw [Int.fdiv_eq_ediv_of_nonneg _ (by omega)]
  have h1 : n / k < n := Int.ediv_lt_self_of_pos_of_ne_one hn (by omega)
  have h2 : 0 ≤ n / k := Int.ediv_nonneg (by omega) (by omega)
  omega
theorem cd_end {n n' c : Int} (h : 0 ≤ n' ∧ c + digs n' = digs n) (hb : ¬ 0 < n') : c = digs n := by
  have : n' = 0 := by omega
  subst this
  rw [digs_zero] at h
  omega
theorem c_count_digits : ∀ (n : Int) (t1 : Tok) (led : Led), SpecV 1 8 300 [.int n t1] led (fun v => ∃ t, v = .int (digs n) t) := by
  refine @dq _ (by
  unfold SpecV
  k_fill
  k_extra "h0"
  k_extra "b1.3"
  k_extra "hw"
  k_with "!exec While Compare cons nil" => k_while (fun _ n' count => 0 ≤ n' ∧ count + digs n' = digs y1_1) (fun _ n' count => n'.toNat) "n" "count"
  k_with "state" => first | exact cd_start _ | (refine' cd_t9 ⟨?q49, ?q50⟩ ?q51; (case q49 => assumption); (case q50 => assumption); (case q51 => omega)) | (refine' cd_t1 ⟨?q52, ?q53⟩ ?q54; (case q52 => assumption); (case q53 => assumption); (case q54 => omega)) | (refine' ⟨?q55, ?q56⟩; (case q55 => assumption); (case q56 => assumption)) | fail "x"
  k_with "measure" => (refine' fdiv_less _ ?q57 ?q58; (case q57 => omega); (case q58 => decide))
  k_steps
  all_goals (refine hret _ _ _ (by k_asm) (by k_asm) ⟨_, congrArg (Value.int · _) (cd_end ⟨by assumption, by assumption⟩ (by omega))⟩)) fun q hf => ?_
  simpa only using fq hf (@Eq _ 5 5)
-- N02
theorem sz_turn {m e m' e' : Int} (h : m' ≠ 0 ∧ stripZ m' e' = stripZ m e) (h1 : m'.fmod 10 = 0) : m'.fdiv 10 ≠ 0 ∧ stripZ (m'.fdiv 10) (e' + 1) = stripZ m e := by
  rw [Int.fdiv_eq_ediv_of_nonneg _ (by omega)]
  rw [Int.fmod_eq_emod_of_nonneg _ (by omega)] at h1
  exact ⟨by omega, (stripZ_more e' h.1 h1).symm.trans h.2⟩
theorem sz_less {m : Int} (h : m ≠ 0) (h1 : m.fmod 10 = 0) : (m.fdiv 10).natAbs < m.natAbs := by
  rw [Int.fdiv_eq_ediv_of_nonneg _ (by omega)]
  rw [Int.fmod_eq_emod_of_nonneg _ (by omega)] at h1
  exact dl (div10 h1) (Int.natAbs_ne_zero.mpr h)
theorem sz_end {m e m' e' : Int} (h : m' ≠ 0 ∧ stripZ m' e' = stripZ m e) (h1 : ¬ m'.fmod 10 = 0) : stripZ m e = (m', e') := by
  rw [Int.fmod_eq_emod_of_nonneg _ (by omega)] at h1
  rw [← h.2, stripZ_done e' h.1 h1]
theorem sz_nought {m e : Int} (h : m = 0) : ([.int (stripZ m e).1 588, .int (stripZ m e).2 589] : List Value) = [.int 0 588, .int 0 589] := by rw [h, stripZ_zero]
theorem sz_new {m e m' e' : Int} {D : Addr} {u1 u2 : Tok} {led : Led} (h : stripZ m e = (m', e')) : (D, tp [.int (stripZ m e).1 u1, .int (stripZ m e).2 u2]) ∈ (D, tp [.int m' u1, .int e' u2]) :: led := by rw [h]; exact .head _
theorem c_strip_zeros : ∀ (m e : Int) (t1 t2 : Tok) (led : Led), SpecP 1 8 307 [.int m t1, .int e t2] led (fun v n => ∃ a u1 u2, v = .ref a ∧ TupIs n a [.int (stripZ m e).1 u1, .int (stripZ m e).2 u2]) := by
  refine @dq _ (by
  unfold SpecP
  k_fill
  k_extra "h0"
  k_extra "b1.4"
  k_extra "b2.1"
  k_extra "hw"
  k_with "!exec While Compare cons nil" => k_while (fun _ m' e' => m' ≠ 0 ∧ stripZ m' e' = stripZ y1_1 y1_2) (fun _ m' e' => m'.natAbs) "m" "e"
  k_with "state" => first | (refine' ⟨?q59, rfl⟩; (case q59 => assumption)) | (refine' sz_turn ⟨?q60, ?q61⟩ ?q62; (case q60 => assumption); (case q61 => assumption); (case q62 => assumption)) | (refine' ⟨?q63, ?q64⟩; (case q63 => assumption); (case q64 => assumption)) | fail "x"
  k_with "measure" => (refine' sz_less ?q65 ?q66; (case q65 => assumption); (case q66 => assumption))
  k_steps
  all_goals first
    | exact hret _ [] _ _ ‹_› ‹_› no_lt ⟨_, _, _, rfl, .inr ⟨rfl, sz_nought ‹_›⟩⟩
    | exact hret _ [_] _ _ ‹_› ‹_› (one_lt ‹_›) ⟨_, _, _, rfl, .inl (sz_new (sz_end ⟨by assumption, by assumption⟩ ‹_›))⟩) fun q hf => ?_
  simpa only using fq hf (@Eq _ 5 5)
-- NS
theorem digN_strip : ∀ (k : Nat) (m e : Int), m.natAbs ≤ k → m ≠ 0 → (stripZ m e).1 ≠ 0 ∧ (stripZ m e).2 + digs (stripZ m e).1 = e + digs m
  | 0, m, e, hk, h => absurd (by omega) h
  | k + 1, m, e, hk, h => by
    by_cases h1 : m % 10 = 0
    · rw [stripZ_more e h h1]
      have ih := digN_strip k (m / 10) (e + 1) (d10 hk h h1) (by omega)
      refine ⟨ih.1, ih.2.trans ?_⟩
      have : digs m = digs (m / 10) + 1 := by
        unfold digs
        rw [digN_pos (n := m.natAbs) (Int.natAbs_ne_zero.mpr h)]
        have : (m / 10).natAbs = m.natAbs / 10 := by rw [div10 h1, Nat.mul_div_cancel_left _ (by decide)]
        rw [this]; rfl
      rw [this, Int.add_assoc, Int.add_comm 1]
    · rw [stripZ_done e h h1]
      exact ⟨h, rfl⟩
theorem digs_ge {m : Int} (h : m ≠ 0) : 1 ≤ digs m := by
  unfold digs
  rw [digN_pos (Int.natAbs_ne_zero.mpr h)]; omega
theorem strip_facts (m e : Int) : ((stripZ m e).1 = 0 ∧ (stripZ m e).2 = 0 ∧ m = 0) ∨ ((stripZ m e).1 ≠ 0 ∧ (stripZ m e).2 + digs (stripZ m e).1 = e + digs m ∧ 1 ≤ digs m) := by
  by_cases h : m = 0
  · left; rw [h, stripZ_zero]; exact ⟨rfl, rfl, rfl⟩
  · right
    have := digN_strip _ m e (Nat.le_refl _) h
    exact ⟨this.1, this.2, digs_ge h⟩
theorem rr_nought {m e : Int} (h : (stripZ m e).1 = 0) : ([.int (stripZ m e).1 588, .int (stripZ m e).2 589] : List Value) = [.int 0 588, .int 0 589] := by
  rcases strip_facts m e with q | q
  · rw [q.1, q.2.1]
  · exact absurd h q.1
-- N03
theorem c_round_digits : ∀ (m e d : Int) (t1 t2 t3 : Tok) (led : Led), digs m ≤ d → SpecP 2 16 314 [.int m t1, .int e t2, .int d t3] led (fun v n => ∃ a u1 u2, v = .ref a ∧ TupIs n a [.int (stripZ m e).1 u1, .int (stripZ m e).2 u2]) := by
  refine @dq _ (by
  unfold SpecP
  k_fill
  k_extra "h0"
  k_extra "b1.6"
  k_extra "b2.1"
  intro hdrop
  k_extra "hw"
  k_with "specV" => exact c_count_digits _ _ _ 
  k_with "specP" => exact c_strip_zeros _ _ _ _ _ 
  k_steps
  all_goals exact hret _ _ _ _ ‹_› ‹_› ‹_› ⟨_, _, _, rfl, by assumption⟩) fun q hf => ?_
  simpa only using fq hf (@Eq _ 5 5)
-- N04
noncomputable def exA (mx ex my ey : Int) : Int × Int := if mx = 0 then (my, ey) else if my = 0 then (mx, ex) else
  (mx * 10 ^ (ex - if ey < ex then ey else ex).toNat + my * 10 ^ (ey - if ey < ex then ey else ex).toNat, if ey < ex then ey else ex)
theorem exA_1 {mx ex my ey : Int} {led : Led} {a : Addr} {u1 u2 : Tok} (h : mx = 0) (hp : TupIs led a [.int my u1, .int ey u2]) : TupIs led a [.int (exA mx ex my ey).1 u1, .int (exA mx ex my ey).2 u2] := by
  have : exA mx ex my ey = (my, ey) := by unfold exA; rw [if_pos h]
  rw [this]; exact hp
theorem exA_2 {mx ex my ey : Int} {led : Led} {a : Addr} {u1 u2 : Tok} (h : mx ≠ 0) (h' : my = 0) (hp : TupIs led a [.int mx u1, .int ex u2]) : TupIs led a [.int (exA mx ex my ey).1 u1, .int (exA mx ex my ey).2 u2] := by
  have : exA mx ex my ey = (mx, ex) := by unfold exA; rw [if_neg h, if_pos h']
  rw [this]; exact hp
theorem exA_3 {mx ex my ey : Int} {led : Led} {a : Addr} {u1 u2 : Tok} (h : mx ≠ 0) (h' : my ≠ 0) :
    (a, tp [.int (exA mx ex my ey).1 u1, .int (exA mx ex my ey).2 u2]) ∈ (a, tp [.int (mx * 10 ^ (ex - if ey < ex then ey else ex).toNat + my * 10 ^ (ey - if ey < ex then ey else ex).toNat) u1, .int (if ey < ex then ey else ex) u2]) :: led := by
  have : exA mx ex my ey = (mx * 10 ^ (ex - if ey < ex then ey else ex).toNat + my * 10 ^ (ey - if ey < ex then ey else ex).toNat, if ey < ex then ey else ex) := by unfold exA; rw [if_neg h, if_neg h']
  rw [this]; exact .head _
theorem c_exact_add : ∀ (mx ex my ey : Int) (a1 a2 : Addr) (t1 t2 t3 t4 : Tok) (led : Led), TupIs led a1 [.int mx t1, .int ex t2] → TupIs led a2 [.int my t3, .int ey t4] → -20 ≤ ex → ex ≤ 20 → -20 ≤ ey → ey ≤ 20 → -1000000000000000 < mx → mx < 1000000000000000 → -1000000000000000 < my → my < 1000000000000000 → SpecP 1 8 328 [.ref a1, .ref a2] led (fun v n => ∃ a u1 u2, v = .ref a ∧ TupIs n a [.int (exA mx ex my ey).1 u1, .int (exA mx ex my ey).2 u2]) := by
  refine @dq _ (by
  unfold SpecP
  k_fill
  k_extra "h0"
  k_extra "b1.8"
  k_extra "b2.3"
  intro hx hy b1 b2 b3 b4 b5 b6 b7 b8
  k_extra "hw"
  k_steps
  all_goals first
    | exact hret _ [] _ _ ‹_› ‹_› no_lt ⟨_, _, _, rfl, exA_1 ‹_› hy⟩
    | exact hret _ [] _ _ ‹_› ‹_› no_lt ⟨_, _, _, rfl, exA_2 ‹_› ‹_› hx⟩
    | exact hret _ [_] _ _ ‹_› ‹_› (one_lt ‹_›) ⟨_, _, _, rfl, .inl (exA_3 ‹_› ‹_›)⟩) fun q hf => ?_
  simpa only using fq hf (@Eq _ 5 5)
-- N05
theorem c_exact_mul : ∀ (mx ex my ey : Int) (a1 a2 : Addr) (t1 t2 t3 t4 : Tok) (led : Led), TupIs led a1 [.int mx t1, .int ex t2] → TupIs led a2 [.int my t3, .int ey t4] → -20 ≤ ex → ex ≤ 20 → -20 ≤ ey → ey ≤ 20 → -1000000000000000 < mx → mx < 1000000000000000 → -1000000000000000 < my → my < 1000000000000000 → SpecP 1 8 335 [.ref a1, .ref a2] led (fun v n => ∃ a u1 u2, v = .ref a ∧ TupIs n a [.int (mx * my) u1, .int (ex + ey) u2]) := by
  refine @dq _ (by
  unfold SpecP
  k_fill
  k_extra "h0"
  k_extra "b1.8"
  k_extra "b2.3"
  intro b1 b2 b3 b4 b5 b6 b7 b8 b9 b10
  k_extra "hw"
  k_steps
  all_goals exact hret _ [_] _ _ ‹_› ‹_› (one_lt ‹_›) ⟨_, _, _, rfl, .inl (.head _)⟩) fun q hf => ?_
  simpa only using fq hf (@Eq _ 5 5)
-- N06
theorem c_real_neg : ∀ (mx ex : Int) (a1 : Addr) (t1 t2 : Tok) (led : Led), TupIs led a1 [.int mx t1, .int ex t2] → SpecP 1 8 342 [.ref a1] led (fun v n => ∃ a u1 u2, v = .ref a ∧ TupIs n a [.int (-mx) u1, .int (ex) u2]) := by
  refine @dq _ (by
  unfold SpecP
  k_fill
  k_extra "h0"
  k_extra "b1.6"
  intro b1
  k_extra "hw"
  k_steps
  all_goals exact hret _ [_] _ _ ‹_› ‹_› (one_lt ‹_›) ⟨_, _, _, rfl, .inl (.head _)⟩) fun q hf => ?_
  simpa only using fq hf (@Eq _ 5 5)
-- N07
theorem c_round_real : ∀ (m e : Int) (t1 t2 t3 t4 : Tok) (led : Led), digs m ≤ 15 → -25 ≤ e → e ≤ 5 → SpecP 3 24 321 [.int m t1, .int e t2, .int 15 t3, .int 38 t4] led (fun v n => ∃ a u1 u2, v = .ref a ∧ TupIs n a [.int ((stripZ m e).1) u1, .int ((stripZ m e).2) u2]) := by
  refine @dq _ (by
  unfold SpecP
  k_fill
  k_extra "h0"
  k_extra "b1.6"
  k_extra "b2.1"
  intro b1 b2 b3
  k_extra "hdw"
  intro B F X N T hk hd hu hret
  with_reducible k_extra "bar"
  have hS := strip_facts y1_1 y1_2
  refine wpAny_call ?_
  k_extra "en"
  k_with "specV" => exact c_count_digits _ _ _ 
  k_with "specP" => (refine' c_round_digits _ _ _ _ _ _ _ ?q67; (case q67 => omega))
  k_steps
  all_goals first
    | exact hret _ _ _ _ ‹_› ‹_› ‹_› ⟨_, _, _, rfl, .inr ⟨rfl, rr_nought ‹_›⟩⟩
    | exact hret _ (_ :: _) _ _ ‹_› ‹_› (two_lt ‹_› ‹_›) ⟨_, _, _, rfl, .inl (.head _)⟩) fun q hf => ?_
  simpa only using fq hf (@Eq _ 5 5)
-- N08
theorem c_real_add : ∀ (mx ex my ey : Int) (a1 a2 : Addr) (t1 t2 t3 t4 : Tok) (t5 t6 : Tok) (led : Led), TupIs led a1 [.int mx t1, .int ex t2] → TupIs led a2 [.int my t3, .int ey t4] → -20 ≤ ex → ex ≤ 20 → -20 ≤ ey → ey ≤ 20 → -1000000000000000 < mx → mx < 1000000000000000 → -1000000000000000 < my → my < 1000000000000000 → digs (exA mx ex my ey).1 ≤ 15 → -20 ≤ (exA mx ex my ey).2 → (exA mx ex my ey).2 ≤ 5 → SpecP 4 32 356 [.ref a1, .ref a2, .int 15 t5, .int 38 t6] led (fun v n => ∃ a u1 u2, v = .ref a ∧ TupIs n a [.int ((stripZ (exA mx ex my ey).1 (exA mx ex my ey).2).1) u1, .int ((stripZ (exA mx ex my ey).1 (exA mx ex my ey).2).2) u2]) := by
  refine @dq _ (by
  unfold SpecP
  k_fill
  k_extra "h0"
  k_extra "b1.12"
  k_extra "b2.1"
  intro b1 b2 b3 b4 b5 b6 b7 b8 b9 b10 b11 b12 b13
  k_extra "hw"
  k_with "specP" => (refine' c_exact_add _ _ _ _ _ _ _ _ _ _ _ ?q68 ?q69 ?q70 ?q71 ?q72 ?q73 ?q74 ?q75 ?q76 ?q77; (case q68 => first | assumption | (refine' TupIs.cons ?q78; (case q78 => assumption)) | (refine' TupIs.app ?q79; (case q79 => assumption)) | (refine' TupIs.app (TupIs.app ?q80); (case q80 => assumption))); (case q69 => first | assumption | (refine' TupIs.cons ?q81; (case q81 => assumption)) | (refine' TupIs.app ?q82; (case q82 => assumption)) | (refine' TupIs.app (TupIs.app ?q83); (case q83 => assumption))); (case q70 => omega); (case q71 => omega); (case q72 => omega); (case q73 => omega); (case q74 => omega); (case q75 => omega); (case q76 => omega); (case q77 => omega))
  k_with "specP" => (refine' c_round_real _ _ _ _ _ _ _ ?q84 ?q85 ?q86; (case q84 => omega); (case q85 => omega); (case q86 => omega))
  k_steps
  all_goals first
    | exact hret _ _ _ _ ‹_› (News.assoc ‹_›) (app_lt ‹_› ‹_›) ⟨_, _, _, rfl, TupIs.assoc ‹_›⟩
    | exact hret _ _ _ _ ‹_› (News.assoc3 ‹_›) (app_lt3 ‹_› ‹_› ‹_›) ⟨_, _, _, rfl, TupIs.assoc3 ‹_›⟩) fun q hf => ?_
  simpa only using fq hf (@Eq _ 5 5)
-- N09
theorem c_real_mul : ∀ (mx ex my ey : Int) (a1 a2 : Addr) (t1 t2 t3 t4 : Tok) (t5 t6 : Tok) (led : Led), TupIs led a1 [.int mx t1, .int ex t2] → TupIs led a2 [.int my t3, .int ey t4] → -20 ≤ ex → ex ≤ 20 → -20 ≤ ey → ey ≤ 20 → -1000000000000000 < mx → mx < 1000000000000000 → -1000000000000000 < my → my < 1000000000000000 → digs (mx * my) ≤ 15 → -20 ≤ ex + ey → ex + ey ≤ 5 → SpecP 4 32 370 [.ref a1, .ref a2, .int 15 t5, .int 38 t6] led (fun v n => ∃ a u1 u2, v = .ref a ∧ TupIs n a [.int ((stripZ (mx * my) (ex + ey)).1) u1, .int ((stripZ (mx * my) (ex + ey)).2) u2]) := by
  refine @dq _ (by
  unfold SpecP
  k_fill
  k_extra "h0"
  k_extra "b1.12"
  k_extra "b2.1"
  intro b1 b2 b3 b4 b5 b6 b7 b8 b9 b10 b11 b12 b13
  k_extra "hw"
  k_with "specP" => (refine' c_exact_mul _ _ _ _ _ _ _ _ _ _ _ ?q87 ?q88 ?q89 ?q90 ?q91 ?q92 ?q93 ?q94 ?q95 ?q96; (case q87 => first | assumption | (refine' TupIs.cons ?q97; (case q97 => assumption)) | (refine' TupIs.app ?q98; (case q98 => assumption)) | (refine' TupIs.app (TupIs.app ?q99); (case q99 => assumption))); (case q88 => first | assumption | (refine' TupIs.cons ?q100; (case q100 => assumption)) | (refine' TupIs.app ?q101; (case q101 => assumption)) | (refine' TupIs.app (TupIs.app ?q102); (case q102 => assumption))); (case q89 => omega); (case q90 => omega); (case q91 => omega); (case q92 => omega); (case q93 => omega); (case q94 => omega); (case q95 => omega); (case q96 => omega))
  k_with "specP" => (refine' c_round_real _ _ _ _ _ _ _ ?q103 ?q104 ?q105; (case q103 => omega); (case q104 => omega); (case q105 => omega))
  k_steps
  all_goals first
    | exact hret _ _ _ _ ‹_› (News.assoc ‹_›) (app_lt ‹_› ‹_›) ⟨_, _, _, rfl, TupIs.assoc ‹_›⟩
    | exact hret _ _ _ _ ‹_› (News.assoc3 ‹_›) (app_lt3 ‹_› ‹_› ‹_›) ⟨_, _, _, rfl, TupIs.assoc3 ‹_›⟩) fun q hf => ?_
  simpa only using fq hf (@Eq _ 5 5)
-- N10
theorem c_real_sub : ∀ (mx ex my ey : Int) (a1 a2 : Addr) (t1 t2 t3 t4 : Tok) (t5 t6 : Tok) (led : Led), TupIs led a1 [.int mx t1, .int ex t2] → TupIs led a2 [.int my t3, .int ey t4] → -20 ≤ ex → ex ≤ 20 → -20 ≤ ey → ey ≤ 20 → -1000000000000000 < mx → mx < 1000000000000000 → -1000000000000000 < my → my < 1000000000000000 → digs (exA mx ex (-my) ey).1 ≤ 15 → -20 ≤ (exA mx ex (-my) ey).2 → (exA mx ex (-my) ey).2 ≤ 5 → SpecP 4 32 363 [.ref a1, .ref a2, .int 15 t5, .int 38 t6] led (fun v n => ∃ a u1 u2, v = .ref a ∧ TupIs n a [.int ((stripZ (exA mx ex (-my) ey).1 (exA mx ex (-my) ey).2).1) u1, .int ((stripZ (exA mx ex (-my) ey).1 (exA mx ex (-my) ey).2).2) u2]) := by
  refine @dq _ (by
  unfold SpecP
  k_fill
  k_extra "h0"
  k_extra "b1.12"
  k_extra "b2.1"
  intro b1 b2 b3 b4 b5 b6 b7 b8 b9 b10 b11 b12 b13
  k_extra "hw"
  k_with "specP" => (refine' c_real_neg _ _ _ _ _ _ ?q106; (case q106 => first | assumption | (refine' TupIs.cons ?q107; (case q107 => assumption)) | (refine' TupIs.app ?q108; (case q108 => assumption)) | (refine' TupIs.app (TupIs.app ?q109); (case q109 => assumption))))
  k_with "specP" => (refine' c_exact_add _ _ _ _ _ _ _ _ _ _ _ ?q110 ?q111 ?q112 ?q113 ?q114 ?q115 ?q116 ?q117 ?q118 ?q119; (case q110 => first | assumption | (refine' TupIs.cons ?q120; (case q120 => assumption)) | (refine' TupIs.app ?q121; (case q121 => assumption)) | (refine' TupIs.app (TupIs.app ?q122); (case q122 => assumption))); (case q111 => first | assumption | (refine' TupIs.cons ?q123; (case q123 => assumption)) | (refine' TupIs.app ?q124; (case q124 => assumption)) | (refine' TupIs.app (TupIs.app ?q125); (case q125 => assumption))); (case q112 => omega); (case q113 => omega); (case q114 => omega); (case q115 => omega); (case q116 => omega); (case q117 => omega); (case q118 => omega); (case q119 => omega))
  k_with "specP" => (refine' c_round_real _ _ _ _ _ _ _ ?q126 ?q127 ?q128; (case q126 => omega); (case q127 => omega); (case q128 => omega))
  k_steps
  all_goals first
    | exact hret _ _ _ _ ‹_› (News.assoc ‹_›) (app_lt ‹_› ‹_›) ⟨_, _, _, rfl, TupIs.assoc ‹_›⟩
    | exact hret _ _ _ _ ‹_› (News.assoc3 ‹_›) (app_lt3 ‹_› ‹_› ‹_›) ⟨_, _, _, rfl, TupIs.assoc3 ‹_›⟩) fun q hf => ?_
  simpa only using fq hf (@Eq _ 5 5)
-- N11
theorem stripZ_ten {m : Int} (e : Int) (h : m ≠ 0) : stripZ (m * 10) e = stripZ m (e + 1) := by
  rw [stripZ_more e (by omega) (by omega)]
  congr 1; omega
theorem stripZ_pow (k : Nat) : ∀ {m : Int} (e : Int), m ≠ 0 → stripZ (m * 10 ^ k) e = stripZ m (e + k) := by
  induction k with
  | zero => intro m e h; simp
  | succ k ih =>
    intro m e h
    have h10 : m * 10 ^ k ≠ 0 := Int.mul_ne_zero h (Int.ne_of_gt (Int.pow_pos (by decide)))
    rw [Int.pow_succ, ← Int.mul_assoc, stripZ_ten e h10, ih (e + 1) h]
    congr 1; omega
theorem pow_nine {k : Nat} (h : k ≤ 9) : (10 : Int) ^ k ≤ 1000000000 := by
  have := Nat.pow_le_pow_right (n := 10) (by decide) h
  have h2 : ((10 ^ k : Nat) : Int) = (10 : Int) ^ k := by simp
  rw [← h2]
  exact Int.ofNat_le.mpr this
theorem rdB_fmod {m d c : Int} (hc : m = c * 10 ^ (digs m - d).toNat) : (if m < 0 then -m else m).fmod (10 ^ (digs m - d).toNat) = 0 := by
  have hp : (0 : Int) < 10 ^ (digs m - d).toNat := Int.pow_pos (by decide)
  generalize hP : (10 : Int) ^ (digs m - d).toNat = P at *
  rw [Int.fmod_eq_emod_of_nonneg _ (by omega)]
  split
  · rw [hc, ← Int.neg_mul]; exact Int.mul_emod_left _ _
  · rw [hc]; exact Int.mul_emod_left _ _
theorem rdB_fdiv {m d c : Int} (hc : m = c * 10 ^ (digs m - d).toNat) : (if m < 0 then -m else m).fdiv (10 ^ (digs m - d).toNat) = if m < 0 then -c else c := by
  have hp : (0 : Int) < 10 ^ (digs m - d).toNat := Int.pow_pos (by decide)
  generalize hP : (10 : Int) ^ (digs m - d).toNat = P at *
  rw [Int.fdiv_eq_ediv_of_nonneg _ (by omega)]
  split
  · rw [hc, ← Int.neg_mul]; exact Int.mul_ediv_cancel _ (by omega)
  · rw [hc]; exact Int.mul_ediv_cancel _ (by omega)
theorem tup_eq {led : Led} {a : Addr} {p q : Int × Int} {u1 u2 : Tok} (e : p = q) (h : TupIs led a [.int p.1 u1, .int p.2 u2]) : TupIs led a [.int q.1 u1, .int q.2 u2] := e ▸ h
theorem rdB_pos {m e d c : Int} (hc : m = c * 10 ^ (digs m - d).toNat) (hd : 0 < digs m - d) (h : 0 < m) : stripZ ((if m < 0 then -m else m).fdiv (10 ^ (digs m - d).toNat)) (e + (digs m - d)) = stripZ m e := by
  rw [rdB_fdiv hc, if_neg (by omega)]
  have hc0 : c ≠ 0 := by rintro rfl; omega
  have h2 := stripZ_pow (digs m - d).toNat e hc0
  rw [← hc] at h2
  rw [h2]; congr 1; omega
theorem rdB_neg {m e d c : Int} (hc : m = c * 10 ^ (digs m - d).toNat) (hd : 0 < digs m - d) (h : ¬ 0 < m) (h0 : m ≠ 0) : stripZ (-((if m < 0 then -m else m).fdiv (10 ^ (digs m - d).toNat))) (e + (digs m - d)) = stripZ m e := by
  rw [rdB_fdiv hc, if_pos (by omega), Int.neg_neg]
  have hc0 : c ≠ 0 := by rintro rfl; omega
  have h2 := stripZ_pow (digs m - d).toNat e hc0
  rw [← hc] at h2
  rw [h2]; congr 1; omega
theorem c_round_digits_B : ∀ (m e d c : Int) (t1 t2 t3 : Tok) (led : Led), 0 < digs m - d → digs m - d ≤ 9 → m ≠ 0 → -1000000000000000000000000000000 < m → m < 1000000000000000000000000000000 → m = c * 10 ^ (digs m - d).toNat → SpecP 2 16 314 [.int m t1, .int e t2, .int d t3] led (fun v n => ∃ a u1 u2, v = .ref a ∧ TupIs n a [.int ((stripZ m e).1) u1, .int ((stripZ m e).2) u2]) := by
  refine @dq _ (by
  unfold SpecP
  k_fill
  k_extra "h0"
  k_extra "b1.8"
  intro b1 b2 b3 b4 b5 b6
  k_extra "hdw"
  intro B F X N T hk hd hu hret
  with_reducible k_extra "bar"
  have f1 := rdB_fmod b6
  have f2 : (0 : Int) < 10 ^ (digs y1_1 - y1_3).toNat := Int.pow_pos (by decide)
  have f3 := pow_nine (k := (digs y1_1 - y1_3).toNat) (by omega)
  refine wpAny_call ?_
  k_extra "en"
  k_with "specV" => exact c_count_digits _ _ _ 
  k_with "specP" => exact c_strip_zeros _ _ _ _ _ 
  k_with "nonzero" => (refine' Int.ne_of_gt ?q129; (case q129 => assumption))
  k_steps
  all_goals first
    | (exfalso; omega)
    | exact hret _ _ _ _ ‹_› (News.assoc (tl := [(_, _)]) ‹_›) (app_lt (tl := [(_, _)]) ‹_› (one_lt ‹_›)) ⟨_, _, _, rfl, tup_eq (rdB_pos (e := y1_2) b6 b1 ‹_›) (TupIs.assoc (tl := [(_, _)]) ‹_›)⟩
    | exact hret _ _ _ _ ‹_› (News.assoc (tl := [(_, _)]) ‹_›) (app_lt (tl := [(_, _)]) ‹_› (one_lt ‹_›)) ⟨_, _, _, rfl, tup_eq (rdB_neg (e := y1_2) b6 b1 ‹_› b3) (TupIs.assoc (tl := [(_, _)]) ‹_›)⟩) fun q hf => ?_
  simpa only using fq hf (@Eq _ 5 5)
-- NQ
theorem digN_range : ∀ (k : Nat) {n : Nat}, 10 ^ k ≤ n → n < 10 ^ (k + 1) → digN n = k + 1
  | 0, n, h1, h2 => by
    rw [digN_pos (by lia), show n / 10 = 0 by lia, digN_eq]; simp
  | k + 1, n, h1, h2 => by
    have h3 : 10 ^ k ≤ n / 10 := by rw [Nat.le_div_iff_mul_le (by lia)]; rw [Nat.pow_succ] at h1; exact h1
    have h4 : n / 10 < 10 ^ (k + 1) := by rw [Nat.div_lt_iff_lt_mul (by lia)]; rw [Nat.pow_succ] at h2; exact h2
    have h0 : n ≠ 0 := by
      have : 0 < 10 ^ (k + 1) := Nat.pow_pos (by lia)
      lia
    rw [digN_pos h0, digN_range k h3 h4]
theorem digs_range {k : Nat} {n : Int} (h1 : 10 ^ k ≤ n.natAbs) (h2 : n.natAbs < 10 ^ (k + 1)) : digs n = k + 1 := by
  unfold digs; rw [digN_range k h1 h2]; rfl
theorem digs_small {n : Int} (h0 : n ≠ 0) (h1 : -1000 < n) (h2 : n < 1000) : (digs n = 1 ∧ n.natAbs < 10) ∨ (digs n = 2 ∧ 10 ≤ n.natAbs ∧ n.natAbs < 100) ∨ (digs n = 3 ∧ 100 ≤ n.natAbs) := by
  by_cases a : n.natAbs < 10
  · left; exact ⟨digs_range (k := 0) (Int.natAbs_pos.mpr h0) a, a⟩
  · by_cases b : n.natAbs < 100
    · right; left; exact ⟨digs_range (k := 1) (Nat.not_lt.mp a) b, Nat.not_lt.mp a, b⟩
    · right; right; exact ⟨digs_range (k := 2) (Nat.not_lt.mp b) (by lia), Nat.not_lt.mp b⟩
theorem hf1 (m : Nat) (h : 0 < m) (a : m < 10) : 10 ^ 17 ≤ 5 * m * 10 ^ 17 ∧ 5 * m * 10 ^ 17 < 10 ^ 18 ∨ 10 ^ 18 ≤ 5 * m * 10 ^ 17 ∧ 5 * m * 10 ^ 17 < 10 ^ 19 := by lia
theorem half_facts {n : Int} (h0 : n ≠ 0) (h1 : -1000 < n) (h2 : n < 1000) : 0 < digs (5 * n * 10 ^ (18 - digs n).toNat) - 15 ∧ digs (5 * n * 10 ^ (18 - digs n).toNat) - 15 ≤ 9 ∧ 5 * n * 10 ^ (18 - digs n).toNat ≠ 0 ∧
    -1000000000000000000000000000000 < 5 * n * 10 ^ (18 - digs n).toNat ∧ 5 * n * 10 ^ (18 - digs n).toNat < 1000000000000000000000000000000 ∧
    (∃ c, 5 * n * 10 ^ (18 - digs n).toNat = c * 10 ^ (digs (5 * n * 10 ^ (18 - digs n).toNat) - 15).toNat) := by
  have key : ∀ M : Int, (10 ^ 17 ≤ M.natAbs ∧ M.natAbs < 10 ^ 18 ∨ 10 ^ 18 ≤ M.natAbs ∧ M.natAbs < 10 ^ 19) → (∃ c, M = c * 10 ^ 4) → 0 < digs M - 15 ∧ digs M - 15 ≤ 9 ∧ M ≠ 0 ∧ -1000000000000000000000000000000 < M ∧ M < 1000000000000000000000000000000 ∧ (∃ c, M = c * 10 ^ (digs M - 15).toNat) := by
    intro M hM hc
    obtain ⟨c, hc⟩ := hc
    rcases hM with ⟨a, b⟩ | ⟨a, b⟩
    · have d : digs M = 18 := digs_range (k := 17) a b
      rw [d]
      exact ⟨by decide, by decide, by lia, by lia, by lia, c * 10, by rw [hc, show ((18 : Int) - 15).toNat = 3 from rfl]; lia⟩
    · have d : digs M = 19 := digs_range (k := 18) a b
      rw [d]
      exact ⟨by decide, by decide, by lia, by lia, by lia, c, by rw [hc]; rfl⟩
  have na : ∀ p : Nat, (5 * n * 10 ^ p).natAbs = 5 * n.natAbs * 10 ^ p := fun p => by rw [Int.natAbs_mul, Int.natAbs_mul, Int.natAbs_pow]; rfl
  have n0 : 0 < n.natAbs := Int.natAbs_pos.mpr h0
  have n3 : n.natAbs < 1000 := by lia
  rcases digs_small h0 h1 h2 with ⟨d, a⟩ | ⟨d, a, b⟩ | ⟨d, a⟩
  · rw [d, show ((18 : Int) - 1).toNat = 17 from rfl]
    exact key _ (by rw [na]; exact hf1 _ n0 a) ⟨5 * n * 10 ^ 13, by lia⟩
  · rw [d, show ((18 : Int) - 2).toNat = 16 from rfl]
    exact key _ (by rw [na]; revert a b; generalize n.natAbs = m; intro a b; clear h1 h2 na n0 n3 key d h0; lia) ⟨5 * n * 10 ^ 12, by lia⟩
  · rw [d, show ((18 : Int) - 3).toNat = 15 from rfl]
    exact key _ (by rw [na]; revert a n3; generalize n.natAbs = m; intro a n3; clear h1 h2 na key d h0; lia) ⟨5 * n * 10 ^ 11, by lia⟩
theorem half_strip {n ex : Int} (h0 : n ≠ 0) (h : digs n ≤ 3) : stripZ (5 * n * 10 ^ (18 - digs n).toNat) (ex - 0 - (18 - digs n) - 1) = stripZ (5 * n) (ex - 1) := by
  rw [stripZ_pow _ _ (by lia)]
  congr 1; lia
theorem half_zero {ex : Int} : stripZ (5 * 0 * 10 ^ (18 - digs 0).toNat) (ex - 0 - (18 - digs 0) - 1) = stripZ (5 * 0) (ex - 1) := by
  rw [show (5 : Int) * 0 = 0 from rfl, Int.zero_mul, stripZ_zero, stripZ_zero]
-- N12
theorem c_round_real_B : ∀ (m e c : Int) (t1 t2 t3 t4 : Tok) (led : Led), 0 < digs m - 15 → digs m - 15 ≤ 9 → m ≠ 0 → -1000000000000000000000000000000 < m → m < 1000000000000000000000000000000 → m = c * 10 ^ (digs m - 15).toNat → -25 ≤ e → e ≤ 5 → SpecP 3 24 321 [.int m t1, .int e t2, .int 15 t3, .int 38 t4] led (fun v n => ∃ a u1 u2, v = .ref a ∧ TupIs n a [.int ((stripZ m e).1) u1, .int ((stripZ m e).2) u2]) := by
  refine @dq _ (by
  unfold SpecP
  k_fill
  k_extra "h0"
  k_extra "b1.8"
  intro b1 b2 b3 b4 b5 b6 b7 b8
  k_extra "hdw"
  intro B F X N T hk hd hu hret
  with_reducible k_extra "bar"
  have hS := strip_facts y1_1 y1_2
  refine wpAny_call ?_
  k_extra "en"
  k_with "specV" => exact c_count_digits _ _ _ 
  k_with "specP" => (refine' c_round_digits_B _ _ _ _ _ _ _ _ ?q130 ?q131 ?q132 ?q133 ?q134 ?q135; (case q130 => omega); (case q131 => omega); (case q132 => omega); (case q133 => omega); (case q134 => omega); (case q135 => assumption))
  k_steps
  all_goals first
    | (exfalso; omega)
    | exact hret _ (_ :: _) _ _ ‹_› ‹_› (two_lt ‹_› ‹_›) ⟨_, _, _, rfl, .inl (.head _)⟩) fun q hf => ?_
  simpa only using fq hf (@Eq _ 5 5)
-- N13
theorem digs_two : digs 2 = 1 := by rw [digs_pos (by decide), show (2 : Int) / 10 = 0 by decide, digs_zero]; decide
theorem new_eq {D : Addr} {led : Led} {m e M E : Int} {u1 u2 : Tok} (hM : M = m) (hE : E = e) : (D, tp [.int m u1, .int e u2]) ∈ (D, tp [.int M u1, .int E u2]) :: led := by subst hM hE; exact .head _
theorem two_new {D d : Addr} {o o' : Obj} {led : Led} (h1 : @LT.lt Nat _ d D ∧ AllLt D led) (h2 : ∀ p ∈ led, @LT.lt Nat _ p.1 d) : ∀ q ∈ [(D, o), (d, o')], ∀ p ∈ led, @LT.lt Nat _ p.1 q.1 := fun q hq p hp => by
  rcases List.mem_cons.mp hq with rfl | hq
  · exact Nat.lt_trans (h2 p hp) h1.1
  · rw [List.mem_singleton.mp hq]; exact h2 p hp
theorem q_shift {ov : Int} (h : digs ov ≤ 3) : (if 0 > 15 + 2 + digs 2 - digs ov then 0 else 15 + 2 + digs 2 - digs ov) = 18 - digs ov := by
  have h2 := digs_two
  rw [if_neg (by omega)]; omega
theorem q_even {x : Int} {k : Int} (hk : 1 ≤ k) : x * 10 ^ k.toNat = (x * 10 ^ (k - 1).toNat * 5) * 2 := by
  have : k.toNat = (k - 1).toNat + 1 := by omega
  rw [this, Int.pow_succ, ← Int.mul_assoc, Int.mul_assoc _ 5 2]
  rfl
theorem q_rest {ov : Int} (h : digs ov ≤ 3) : ((if ov < 0 then -ov else ov) * 10 ^ (if 0 > 15 + 2 + digs 2 - digs ov then 0 else 15 + 2 + digs 2 - digs ov).toNat).fmod (if (2 : Int) < 0 then -2 else 2) = 0 := by
  rw [q_shift h, if_neg (by decide : ¬ (2 : Int) < 0), q_even (by omega), Int.fmod_eq_emod_of_nonneg _ (by decide)]
  exact Int.mul_emod_left _ _
theorem q_div {ov : Int} (h : digs ov ≤ 3) : 10 * ((if ov < 0 then -ov else ov) * 10 ^ (if 0 > 15 + 2 + digs 2 - digs ov then 0 else 15 + 2 + digs 2 - digs ov).toNat).fdiv (if (2 : Int) < 0 then -2 else 2) + 0 = 5 * (if ov < 0 then -ov else ov) * 10 ^ (18 - digs ov).toNat := by
  rw [q_shift h, if_neg (by decide : ¬ (2 : Int) < 0), Int.fdiv_eq_ediv_of_nonneg _ (by decide)]
  generalize (if ov < 0 then -ov else ov) = x
  have e := q_even (x := x) (k := 18 - digs ov) (by omega)
  rw [e, Int.mul_ediv_cancel _ (by decide), Int.mul_assoc 5 x, e]
  omega
theorem q_pos {ov : Int} (h : digs ov ≤ 3) (hs : (decide (ov < 0) != decide ((2 : Int) < 0)) = false) : 10 * ((if ov < 0 then -ov else ov) * 10 ^ (if 0 > 15 + 2 + digs 2 - digs ov then 0 else 15 + 2 + digs 2 - digs ov).toNat).fdiv (if (2 : Int) < 0 then -2 else 2) + 0 = 5 * ov * 10 ^ (18 - digs ov).toNat := by
  rw [q_div h]
  have : ¬ ov < 0 := by simpa using hs
  rw [if_neg this]
theorem q_neg {ov : Int} (h : digs ov ≤ 3) (hs : (decide (ov < 0) != decide ((2 : Int) < 0)) = true) : -(10 * ((if ov < 0 then -ov else ov) * 10 ^ (if 0 > 15 + 2 + digs 2 - digs ov then 0 else 15 + 2 + digs 2 - digs ov).toNat).fdiv (if (2 : Int) < 0 then -2 else 2) + 0) = 5 * ov * 10 ^ (18 - digs ov).toNat := by
  rw [q_div h]
  have : ov < 0 := by simpa using hs
  rw [if_pos this, Int.mul_neg, Int.neg_mul, Int.neg_neg]
theorem q_exp {ov e : Int} (h : digs ov ≤ 3) : e - (if 0 > 15 + 2 + digs 2 - digs ov then 0 else 15 + 2 + digs 2 - digs ov) - 1 = e - (18 - digs ov) - 1 := by rw [q_shift h]
theorem c_quotient : ∀ (ov e : Int) (t1 t2 t3 t4 : Tok) (led : Led), digs ov ≤ 3 → -1000 < ov → ov < 1000 → SpecP 2 16 349 [.int ov t1, .int 2 t2, .int e t3, .int 15 t4] led (fun v n => ∃ a u1 u2, v = .ref a ∧ TupIs n a [.int (5 * ov * 10 ^ (18 - digs ov).toNat) u1, .int (e - (18 - digs ov) - 1) u2]) := by
  refine @dq _ (by
  unfold SpecP
  k_fill
  k_extra "h0"
  k_extra "b1.6"
  k_extra "b2.1"
  intro b1 b2 b3
  k_extra "hdw"
  intro B F X N T hk hd hu hret
  with_reducible k_extra "bar"
  have h0 := digs_nonneg y1_1
  have h2 := digs_two
  refine wpAny_call ?_
  k_extra "en"
  k_with "specV" => exact c_count_digits _ _ _ 
  k_steps
  all_goals first
    | exact absurd (q_rest b1) ‹_›
    | exact hret _ [_, _] _ _ ‹_› ‹_› (two_new ‹_› ‹_›) ⟨_, _, _, rfl, .inl (new_eq (q_pos b1 ‹_›) (q_exp b1))⟩
    | exact hret _ [_, _] _ _ ‹_› ‹_› (two_new ‹_› ‹_›) ⟨_, _, _, rfl, .inl (new_eq (q_neg b1 ‹_›) (q_exp b1))⟩) fun q hf => ?_
  simpa only using fq hf (@Eq _ 5 5)
-- N14
theorem c_real_div : ∀ (mx ex : Int) (a1 a2 : Addr) (t1 t2 t3 t4 t5 t6 : Tok) (led : Led), TupIs led a1 [.int mx t1, .int ex t2] → TupIs led a2 [.int 2 t3, .int 0 t4] → -1000 < mx → mx < 1000 → -5 ≤ ex → ex ≤ 2 → SpecP 4 32 377 [.ref a1, .ref a2, .int 15 t5, .int 38 t6] led (fun v n => ∃ a u1 u2, v = .ref a ∧ TupIs n a [.int ((stripZ (5 * mx) (ex - 1)).1) u1, .int ((stripZ (5 * mx) (ex - 1)).2) u2]) := by
  refine @dq _ (by
  unfold SpecP
  k_fill
  intro mx ex a1 a2 t1 t2 t3 t4 t5 t6 led b1 b2 b3 b4 b5 b6 w p loose mean mg mb dp un gd cn cs a ccd cl outer A₀ base h₀ L mm s Q E B F X N T hk hd hu hret
  refine wpAny_call ?_
  k_extra "en"
  k_with "specP" => (refine' c_quotient _ _ _ _ _ _ _ ?q136 ?q137 ?q138; (case q136 => omega); (case q137 => omega); (case q138 => omega))
  k_with "specP" => (refine' c_round_real_B _ _ _ _ _ _ _ _ ?q139 ?q140 ?q141 ?q142 ?q143 ?q144 ?q145 ?q146; (case q139 => omega); (case q140 => omega); (case q141 => omega); (case q142 => omega); (case q143 => omega); (case q144 => assumption); (case q145 => omega); (case q146 => omega))
  k_with "specP" => (refine' c_round_real _ _ _ _ _ _ _ ?q147 ?q148 ?q149; (case q147 => omega); (case q148 => omega); (case q149 => omega))
  by_cases hm : mx = 0
  · subst hm
    have hz := digs_zero
    have hz2 : digs (5 * 0 * 10 ^ (18 - digs 0).toNat) ≤ 15 := by rw [show (5 : Int) * 0 = 0 from rfl, Int.zero_mul, digs_zero]; decide
    k_steps
    all_goals first
      | exact hret _ _ _ _ ‹_› (News.assoc ‹_›) (app_lt ‹_› ‹_›) ⟨_, _, _, rfl, tup_eq half_zero (TupIs.assoc ‹_›)⟩
  have h3 : digs mx ≤ 3 := by rcases digs_small hm b3 b4 with q | q | q <;> omega
  have h1 := digs_ge hm
  obtain ⟨hf1, hf2, hf3, hf4, hf5, c, hf6⟩ := half_facts hm b3 b4
  k_steps
  all_goals first
    | exact hret _ _ _ _ ‹_› (News.assoc ‹_›) (app_lt ‹_› ‹_›) ⟨_, _, _, rfl, tup_eq (half_strip hm h3) (TupIs.assoc ‹_›)⟩) fun q hf => ?_
  simpa only using fq hf (@Eq _ 5 5)
-- N15
theorem c_digits_of : ∀ (la ld : Addr) (k1 k2 k3 k4 k5 k6 k7 k8 : Tok) (P : Params) (t1 : Tok) (led : Led), (la, instObj 797 ld) ∈ led → (ld, dictOf [enS P "width" k1 (.int 32 1339), enS P "real_digits" k2 (.int 7 1340), enS P "double_digits" k3 (.int 15 1341), enS P "top_exponent" k4 (.int 38 1342), enS P "steps" k5 (.int 1000000 1343), enS P "continuations" k6 (.int 19 1344), enS P "columns" k7 (.int 72 1345), enS P "depth" k8 (.int 40 1346)] 8) ∈ led → SpecV 1 8 412 [.int 2 t1, .ref la] led (fun v => ∃ t, v = .int 15 t) := by
  refine @dq _ (by
  unfold SpecV
  k_fill
  k_extra "h0"
  k_extra "b1.12"
  k_extra "b2.1"
  intro b1 b2
  k_extra "hw"
  k_steps
  all_goals first
    | exact hret _ _ _ ‹_› ‹_› ⟨_, rfl⟩) fun q hf => ?_
  simpa only using fq hf (@Eq _ 5 5)
-- N16
theorem c_rb_add : ∀ (mx ex my ey : Int) (a1 a2 : Addr) (t1 t2 t3 t4 : Tok) (la ld : Addr) (k1 k2 k3 k4 k5 k6 k7 k8 : Tok) (P : Params) (t5 t6 : Tok) (led : Led), (la, instObj 797 ld) ∈ led → (ld, dictOf [enS P "width" k1 (.int 32 1339), enS P "real_digits" k2 (.int 7 1340), enS P "double_digits" k3 (.int 15 1341), enS P "top_exponent" k4 (.int 38 1342), enS P "steps" k5 (.int 1000000 1343), enS P "continuations" k6 (.int 19 1344), enS P "columns" k7 (.int 72 1345), enS P "depth" k8 (.int 40 1346)] 8) ∈ led → TupIs led a1 [.int mx t1, .int ex t2] → TupIs led a2 [.int my t3, .int ey t4] → -20 ≤ ex → ex ≤ 20 → -20 ≤ ey → ey ≤ 20 → -1000000000000000 < mx → mx < 1000000000000000 → -1000000000000000 < my → my < 1000000000000000 → digs (exA mx ex my ey).1 ≤ 15 → -20 ≤ (exA mx ex my ey).2 → (exA mx ex my ey).2 ≤ 5 → SpecP 5 40 419 [.str (Str.ofString "add") t5, .int 2 t6, .ref a1, .ref a2, .ref la] led (fun v n => ∃ a u1 u2, v = .ref a ∧ TupIs n a [.int ((stripZ (exA mx ex my ey).1 (exA mx ex my ey).2).1) u1, .int ((stripZ (exA mx ex my ey).1 (exA mx ex my ey).2).2) u2]) := by
  refine @dq _ (by
  unfold SpecP
  k_fill
  k_extra "h0"
  k_extra "b1.12"
  k_extra "b2.12"
  intro b1 b2 b3 b4 b5 b6 b7 b8 b9 b10 b11 b12 b13 b14 b15
  k_extra "hw"
  k_with "specV" => exact c_digits_of _ _ _ _ _ _ _ _ _ _ _ _ _ (by k_mem) (by k_mem)
  k_with "specP" => (refine' c_real_add _ _ _ _ _ _ _ _ _ _ _ _ _ ?q150 ?q151 ?q152 ?q153 ?q154 ?q155 ?q156 ?q157 ?q158 ?q159 ?q160 ?q161 ?q162; (case q150 => first | assumption | (refine' TupIs.cons ?q163; (case q163 => assumption)) | (refine' TupIs.app ?q164; (case q164 => assumption)) | (refine' TupIs.app (TupIs.app ?q165); (case q165 => assumption))); (case q151 => first | assumption | (refine' TupIs.cons ?q166; (case q166 => assumption)) | (refine' TupIs.app ?q167; (case q167 => assumption)) | (refine' TupIs.app (TupIs.app ?q168); (case q168 => assumption))); (case q152 => omega); (case q153 => omega); (case q154 => omega); (case q155 => omega); (case q156 => omega); (case q157 => omega); (case q158 => omega); (case q159 => omega); (case q160 => omega); (case q161 => omega); (case q162 => omega))
  k_steps
  all_goals first
    | exact hret _ _ _ _ ‹_› ‹_› ‹_› ⟨_, _, _, rfl, by assumption⟩) fun q hf => ?_
  simpa only using fq hf (@Eq _ 5 5)
-- N17
theorem c_rb_sub : ∀ (mx ex my ey : Int) (a1 a2 : Addr) (t1 t2 t3 t4 : Tok) (la ld : Addr) (k1 k2 k3 k4 k5 k6 k7 k8 : Tok) (P : Params) (t5 t6 : Tok) (led : Led), (la, instObj 797 ld) ∈ led → (ld, dictOf [enS P "width" k1 (.int 32 1339), enS P "real_digits" k2 (.int 7 1340), enS P "double_digits" k3 (.int 15 1341), enS P "top_exponent" k4 (.int 38 1342), enS P "steps" k5 (.int 1000000 1343), enS P "continuations" k6 (.int 19 1344), enS P "columns" k7 (.int 72 1345), enS P "depth" k8 (.int 40 1346)] 8) ∈ led → TupIs led a1 [.int mx t1, .int ex t2] → TupIs led a2 [.int my t3, .int ey t4] → -20 ≤ ex → ex ≤ 20 → -20 ≤ ey → ey ≤ 20 → -1000000000000000 < mx → mx < 1000000000000000 → -1000000000000000 < my → my < 1000000000000000 → digs (exA mx ex (-my) ey).1 ≤ 15 → -20 ≤ (exA mx ex (-my) ey).2 → (exA mx ex (-my) ey).2 ≤ 5 → SpecP 5 40 419 [.str (Str.ofString "sub") t5, .int 2 t6, .ref a1, .ref a2, .ref la] led (fun v n => ∃ a u1 u2, v = .ref a ∧ TupIs n a [.int ((stripZ (exA mx ex (-my) ey).1 (exA mx ex (-my) ey).2).1) u1, .int ((stripZ (exA mx ex (-my) ey).1 (exA mx ex (-my) ey).2).2) u2]) := by
  refine @dq _ (by
  unfold SpecP
  k_fill
  k_extra "h0"
  k_extra "b1.12"
  k_extra "b2.12"
  intro b1 b2 b3 b4 b5 b6 b7 b8 b9 b10 b11 b12 b13 b14 b15
  k_extra "hw"
  k_with "specV" => exact c_digits_of _ _ _ _ _ _ _ _ _ _ _ _ _ (by k_mem) (by k_mem)
  k_with "specP" => (refine' c_real_sub _ _ _ _ _ _ _ _ _ _ _ _ _ ?q169 ?q170 ?q171 ?q172 ?q173 ?q174 ?q175 ?q176 ?q177 ?q178 ?q179 ?q180 ?q181; (case q169 => first | assumption | (refine' TupIs.cons ?q182; (case q182 => assumption)) | (refine' TupIs.app ?q183; (case q183 => assumption)) | (refine' TupIs.app (TupIs.app ?q184); (case q184 => assumption))); (case q170 => first | assumption | (refine' TupIs.cons ?q185; (case q185 => assumption)) | (refine' TupIs.app ?q186; (case q186 => assumption)) | (refine' TupIs.app (TupIs.app ?q187); (case q187 => assumption))); (case q171 => omega); (case q172 => omega); (case q173 => omega); (case q174 => omega); (case q175 => omega); (case q176 => omega); (case q177 => omega); (case q178 => omega); (case q179 => omega); (case q180 => omega); (case q181 => omega))
  k_steps
  all_goals first
    | exact hret _ _ _ _ ‹_› ‹_› ‹_› ⟨_, _, _, rfl, by assumption⟩) fun q hf => ?_
  simpa only using fq hf (@Eq _ 5 5)
-- N18
theorem c_rb_mul : ∀ (mx ex my ey : Int) (a1 a2 : Addr) (t1 t2 t3 t4 : Tok) (la ld : Addr) (k1 k2 k3 k4 k5 k6 k7 k8 : Tok) (P : Params) (t5 t6 : Tok) (led : Led), (la, instObj 797 ld) ∈ led → (ld, dictOf [enS P "width" k1 (.int 32 1339), enS P "real_digits" k2 (.int 7 1340), enS P "double_digits" k3 (.int 15 1341), enS P "top_exponent" k4 (.int 38 1342), enS P "steps" k5 (.int 1000000 1343), enS P "continuations" k6 (.int 19 1344), enS P "columns" k7 (.int 72 1345), enS P "depth" k8 (.int 40 1346)] 8) ∈ led → TupIs led a1 [.int mx t1, .int ex t2] → TupIs led a2 [.int my t3, .int ey t4] → -20 ≤ ex → ex ≤ 20 → -20 ≤ ey → ey ≤ 20 → -1000000000000000 < mx → mx < 1000000000000000 → -1000000000000000 < my → my < 1000000000000000 → digs (mx * my) ≤ 15 → -20 ≤ ex + ey → ex + ey ≤ 5 → SpecP 5 40 419 [.str (Str.ofString "mul") t5, .int 2 t6, .ref a1, .ref a2, .ref la] led (fun v n => ∃ a u1 u2, v = .ref a ∧ TupIs n a [.int ((stripZ (mx * my) (ex + ey)).1) u1, .int ((stripZ (mx * my) (ex + ey)).2) u2]) := by
  refine @dq _ (by
  unfold SpecP
  k_fill
  k_extra "h0"
  k_extra "b1.12"
  k_extra "b2.12"
  intro b1 b2 b3 b4 b5 b6 b7 b8 b9 b10 b11 b12 b13 b14 b15
  k_extra "hw"
  k_with "specV" => exact c_digits_of _ _ _ _ _ _ _ _ _ _ _ _ _ (by k_mem) (by k_mem)
  k_with "specP" => (refine' c_real_mul _ _ _ _ _ _ _ _ _ _ _ _ _ ?q188 ?q189 ?q190 ?q191 ?q192 ?q193 ?q194 ?q195 ?q196 ?q197 ?q198 ?q199 ?q200; (case q188 => first | assumption | (refine' TupIs.cons ?q201; (case q201 => assumption)) | (refine' TupIs.app ?q202; (case q202 => assumption)) | (refine' TupIs.app (TupIs.app ?q203); (case q203 => assumption))); (case q189 => first | assumption | (refine' TupIs.cons ?q204; (case q204 => assumption)) | (refine' TupIs.app ?q205; (case q205 => assumption)) | (refine' TupIs.app (TupIs.app ?q206); (case q206 => assumption))); (case q190 => omega); (case q191 => omega); (case q192 => omega); (case q193 => omega); (case q194 => omega); (case q195 => omega); (case q196 => omega); (case q197 => omega); (case q198 => omega); (case q199 => omega); (case q200 => omega))
  k_steps
  all_goals first
    | exact hret _ _ _ _ ‹_› ‹_› ‹_› ⟨_, _, _, rfl, by assumption⟩) fun q hf => ?_
  simpa only using fq hf (@Eq _ 5 5)
-- N19
theorem c_rb_div : ∀ (mx ex : Int) (a1 a2 : Addr) (t1 t2 t3 t4 : Tok) (la ld : Addr) (k1 k2 k3 k4 k5 k6 k7 k8 : Tok) (P : Params) (t5 t6 : Tok) (led : Led), (la, instObj 797 ld) ∈ led → (ld, dictOf [enS P "width" k1 (.int 32 1339), enS P "real_digits" k2 (.int 7 1340), enS P "double_digits" k3 (.int 15 1341), enS P "top_exponent" k4 (.int 38 1342), enS P "steps" k5 (.int 1000000 1343), enS P "continuations" k6 (.int 19 1344), enS P "columns" k7 (.int 72 1345), enS P "depth" k8 (.int 40 1346)] 8) ∈ led → TupIs led a1 [.int mx t1, .int ex t2] → TupIs led a2 [.int 2 t3, .int 0 t4] → -1000 < mx → mx < 1000 → -5 ≤ ex → ex ≤ 2 → SpecP 5 40 419 [.str (Str.ofString "div") t5, .int 2 t6, .ref a1, .ref a2, .ref la] led (fun v n => ∃ a u1 u2, v = .ref a ∧ TupIs n a [.int ((stripZ (5 * mx) (ex - 1)).1) u1, .int ((stripZ (5 * mx) (ex - 1)).2) u2]) := by
  refine @dq _ (by
  unfold SpecP
  k_fill
  k_extra "h0"
  k_extra "b1.12"
  k_extra "b2.8"
  k_extra "b3.2"
  intro b1 b2 b3 b4 b5 b6 b7 b8
  k_extra "hw"
  k_with "specV" => exact c_digits_of _ _ _ _ _ _ _ _ _ _ _ _ _ (by k_mem) (by k_mem)
  k_with "specP" => (refine' c_real_div _ _ _ _ _ _ _ _ _ _ _ ?q207 ?q208 ?q209 ?q210 ?q211 ?q212; (case q207 => first | assumption | (refine' TupIs.cons ?q213; (case q213 => assumption)) | (refine' TupIs.app ?q214; (case q214 => assumption)) | (refine' TupIs.app (TupIs.app ?q215); (case q215 => assumption))); (case q208 => first | assumption | (refine' TupIs.cons ?q216; (case q216 => assumption)) | (refine' TupIs.app ?q217; (case q217 => assumption)) | (refine' TupIs.app (TupIs.app ?q218); (case q218 => assumption))); (case q209 => omega); (case q210 => omega); (case q211 => omega); (case q212 => omega))
  k_steps
  all_goals first
    | exact hret _ _ _ _ ‹_› ‹_› ‹_› ⟨_, _, _, rfl, by assumption⟩) fun q hf => ?_
  simpa only using fq hf (@Eq _ 5 5)
-- I01
theorem c_fit_int : ∀ (x : Int) (t1 t2 : Tok) (led : Led), -2147483648 ≤ x → x < 2147483648 → SpecV 1 8 222 [.int x t1, .int 32 t2] led (fun v => ∃ t, v = .int (x) t) := by
  refine @dq _ (by
  unfold SpecV
  k_fill
  k_extra "h0"
  k_extra "b1.4"
  intro b1 b2
  k_extra "hdw"
  intro B F X N T hk hd hu hret
  with_reducible k_extra "bar"
  have hm : (1 : Int) * 2 ^ ((32 : Int) - 1).toNat = 2147483648 := by decide
  refine wpAny_call ?_
  k_extra "en"
  k_steps
  all_goals first
    | exact hret _ _ _ ‹_› ‹_› ⟨_, rfl⟩) fun q hf => ?_
  simpa only using fq hf (@Eq _ 5 5)
-- I02
theorem c_int_add : ∀ (x y : Int) (t1 t2 t3 : Tok) (led : Led), -2147483648 ≤ x + y → x + y < 2147483648 → SpecV 2 16 229 [.int x t1, .int y t2, .int 32 t3] led (fun v => ∃ t, v = .int (x + y) t) := by
  refine @dq _ (by
  unfold SpecV
  k_fill
  k_extra "h0"
  k_extra "b1.6"
  intro b1 b2
  k_extra "hw"
  k_with "specV" => (refine' c_fit_int _ _ _ _ ?q219 ?q220; (case q219 => omega); (case q220 => omega))
  k_steps
  all_goals first
    | exact hret _ _ _ ‹_› ‹_› ⟨_, rfl⟩) fun q hf => ?_
  simpa only using fq hf (@Eq _ 5 5)
theorem c_int_sub : ∀ (x y : Int) (t1 t2 t3 : Tok) (led : Led), -2147483648 ≤ x - y → x - y < 2147483648 → SpecV 2 16 236 [.int x t1, .int y t2, .int 32 t3] led (fun v => ∃ t, v = .int (x - y) t) := by
  refine @dq _ (by
  unfold SpecV
  k_fill
  k_extra "h0"
  k_extra "b1.6"
  intro b1 b2
  k_extra "hw"
  k_with "specV" => (refine' c_fit_int _ _ _ _ ?q221 ?q222; (case q221 => omega); (case q222 => omega))
  k_steps
  all_goals first
    | exact hret _ _ _ ‹_› ‹_› ⟨_, rfl⟩) fun q hf => ?_
  simpa only using fq hf (@Eq _ 5 5)
-- I03
theorem cq_one {x : Int} (h : 0 ≤ x) : (if x < 0 then -x else x).fdiv (if (1 : Int) < 0 then -1 else 1) = x := by
  rw [if_neg (by omega), if_neg (by decide), Int.fdiv_eq_ediv_of_nonneg _ (by decide)]; omega
theorem c_cut_one : ∀ (x : Int) (t1 t2 : Tok) (led : Led), 0 ≤ x → SpecV 1 8 250 [.int x t1, .int 1 t2] led (fun v => ∃ t, v = .int (x) t) := by
  refine @dq _ (by
  unfold SpecV
  k_fill
  k_extra "h0"
  k_extra "b1.4"
  intro b1
  k_extra "hw"
  k_steps
  all_goals first
    | (exfalso; omega)
    | exact hret _ _ _ ‹_› ‹_› ⟨_, congrArg (Value.int · _) (cq_one b1)⟩
    | (exfalso; have h1 : ¬ y1_1 < 0 := (by omega); clear hret; simp_all; done)) fun q hf => ?_
  simpa only using fq hf (@Eq _ 5 5)
theorem c_int_div : ∀ (x : Int) (t1 t2 : Tok) (t3 : Tok) (led : Led), 0 ≤ x → x < 2147483648 → SpecV 2 16 257 [.int x t1, .int 1 t2, .int 32 t3] led (fun v => ∃ t, v = .int (x) t) := by
  refine @dq _ (by
  unfold SpecV
  k_fill
  k_extra "h0"
  k_extra "b1.4"
  k_extra "b2.1"
  intro b1 b2
  k_extra "hw"
  k_with "specV" => (refine' c_cut_one _ _ _ _ ?q223; (case q223 => omega))
  k_with "specV" => (refine' c_fit_int _ _ _ _ ?q224 ?q225; (case q224 => omega); (case q225 => omega))
  k_steps
  all_goals first
    | exact hret _ _ _ ‹_› ‹_› ⟨_, rfl⟩) fun q hf => ?_
  simpa only using fq hf (@Eq _ 5 5)
-- I04
theorem c_order_of : ∀ (x y : Int) (t1 t2 : Tok) (led : Led), SpecV 1 8 278 [.int x t1, .int y t2] led (fun v => ∃ t, v = .int (if x = y then 0 else if x < y then -1 else 1) t) := by
  refine @dq _ (by
  unfold SpecV
  k_fill
  k_extra "h0"
  k_extra "b1.4"
  k_extra "b2.1"
  k_extra "hw"
  k_steps
  all_goals exact hret _ _ _ ‹_› ‹_› ⟨_, congrArg (Value.int · _) (by first | rw [if_pos ‹_›] | (rw [if_neg ‹_›, if_pos ‹_›]) | (rw [if_neg ‹_›, if_neg ‹_›]))⟩) fun q hf => ?_
  simpa only using fq hf (@Eq _ 5 5)
theorem c_holds_eq : ∀ (o : Int) (t1 t2 : Tok) (led : Led), SpecV 1 8 285 [.str (Str.ofString "eq") t1, .int o t2] led (fun v => v = .bool (decide (o = 0))) := by
  refine @dq _ (by
  unfold SpecV
  k_fill
  k_extra "h0"
  k_extra "b1.4"
  k_extra "hw"
  k_steps
  all_goals first
    | exact hret _ _ _ ‹_› ‹_› rfl) fun q hf => ?_
  simpa only using fq hf (@Eq _ 5 5)
-- I05
theorem c_ib_add : ∀ (x y : Int) (t1 t2 : Tok) (la ld : Addr) (k1 k2 k3 k4 k5 k6 k7 k8 : Tok) (P : Params) (t5 t6 : Tok) (led : Led), (la, instObj 797 ld) ∈ led → (ld, dictOf [enS P "width" k1 (.int 32 1339), enS P "real_digits" k2 (.int 7 1340), enS P "double_digits" k3 (.int 15 1341), enS P "top_exponent" k4 (.int 38 1342), enS P "steps" k5 (.int 1000000 1343), enS P "continuations" k6 (.int 19 1344), enS P "columns" k7 (.int 72 1345), enS P "depth" k8 (.int 40 1346)] 8) ∈ led → -2147483648 ≤ x + y → x + y < 2147483648 → SpecV 3 24 292 [.str (Str.ofString "add") t5, .int 0 t6, .int x t1, .int y t2, .ref la] led (fun v => ∃ t, v = .int (x + y) t) := by
  refine @dq _ (by
  unfold SpecV
  k_fill
  k_extra "h0"
  k_extra "b1.12"
  k_extra "b2.6"
  intro b1 b2 b3 b4
  k_extra "hw"
  k_with "!eval Call" => (k_here; (with_reducible show wpAny _ _ (eval (Expr.Call (Expr.Name _ _) _ [] _) _) _ _ _); k_dflt (refine Call_ ?_))
  k_with "specV" => (refine' c_int_add _ _ _ _ _ _ ?q226 ?q227; (case q226 => omega); (case q227 => omega))
  k_steps
  all_goals first
    | exact hret _ _ _ ‹_› ‹_› ⟨_, rfl⟩) fun q hf => ?_
  simpa only using fq hf (@Eq _ 5 5)
theorem c_ib_sub : ∀ (x y : Int) (t1 t2 : Tok) (la ld : Addr) (k1 k2 k3 k4 k5 k6 k7 k8 : Tok) (P : Params) (t5 t6 : Tok) (led : Led), (la, instObj 797 ld) ∈ led → (ld, dictOf [enS P "width" k1 (.int 32 1339), enS P "real_digits" k2 (.int 7 1340), enS P "double_digits" k3 (.int 15 1341), enS P "top_exponent" k4 (.int 38 1342), enS P "steps" k5 (.int 1000000 1343), enS P "continuations" k6 (.int 19 1344), enS P "columns" k7 (.int 72 1345), enS P "depth" k8 (.int 40 1346)] 8) ∈ led → -2147483648 ≤ x - y → x - y < 2147483648 → SpecV 3 24 292 [.str (Str.ofString "sub") t5, .int 0 t6, .int x t1, .int y t2, .ref la] led (fun v => ∃ t, v = .int (x - y) t) := by
  refine @dq _ (by
  unfold SpecV
  k_fill
  k_extra "h0"
  k_extra "b1.12"
  k_extra "b2.6"
  intro b1 b2 b3 b4
  k_extra "hw"
  k_with "!eval Call" => (k_here; (with_reducible show wpAny _ _ (eval (Expr.Call (Expr.Name _ _) _ [] _) _) _ _ _); k_dflt (refine Call_ ?_))
  k_with "specV" => (refine' c_int_sub _ _ _ _ _ _ ?q228 ?q229; (case q228 => omega); (case q229 => omega))
  k_steps
  all_goals first
    | exact hret _ _ _ ‹_› ‹_› ⟨_, rfl⟩) fun q hf => ?_
  simpa only using fq hf (@Eq _ 5 5)
theorem c_ib_div : ∀ (x : Int) (t1 t2 : Tok) (la ld : Addr) (k1 k2 k3 k4 k5 k6 k7 k8 : Tok) (P : Params) (t5 t6 : Tok) (led : Led), (la, instObj 797 ld) ∈ led → (ld, dictOf [enS P "width" k1 (.int 32 1339), enS P "real_digits" k2 (.int 7 1340), enS P "double_digits" k3 (.int 15 1341), enS P "top_exponent" k4 (.int 38 1342), enS P "steps" k5 (.int 1000000 1343), enS P "continuations" k6 (.int 19 1344), enS P "columns" k7 (.int 72 1345), enS P "depth" k8 (.int 40 1346)] 8) ∈ led → 0 ≤ x → x < 2147483648 → SpecV 3 24 292 [.str (Str.ofString "div") t5, .int 0 t6, .int x t1, .int 1 t2, .ref la] led (fun v => ∃ t, v = .int (x) t) := by
  refine @dq _ (by
  unfold SpecV
  k_fill
  k_extra "h0"
  k_extra "b1.12"
  k_extra "b2.4"
  k_extra "b3.1"
  intro b1 b2 b3 b4
  k_extra "hw"
  k_with "!eval Call" => (k_here; (with_reducible show wpAny _ _ (eval (Expr.Call (Expr.Name _ _) _ [] _) _) _ _ _); k_dflt (refine Call_ ?_))
  k_with "specV" => (refine' c_int_div _ _ _ _ _ ?q230 ?q231; (case q230 => omega); (case q231 => omega))
  k_steps
  all_goals first
    | exact hret _ _ _ ‹_› ‹_› ⟨_, rfl⟩) fun q hf => ?_
  simpa only using fq hf (@Eq _ 5 5)
-- I06
theorem ord_eq (x y : Int) : (decide ((if x = y then 0 else if x < y then -1 else 1 : Int) = 0)) = decide (x = y) := by
  by_cases h : x = y
  · simp [h]
  · rw [if_neg h]; split <;> simp [h]
theorem c_ib_eq : ∀ (x y : Int) (t1 t2 : Tok) (la ld : Addr) (k1 k2 k3 k4 k5 k6 k7 k8 : Tok) (P : Params) (t5 t6 : Tok) (led : Led), (la, instObj 797 ld) ∈ led → (ld, dictOf [enS P "width" k1 (.int 32 1339), enS P "real_digits" k2 (.int 7 1340), enS P "double_digits" k3 (.int 15 1341), enS P "top_exponent" k4 (.int 38 1342), enS P "steps" k5 (.int 1000000 1343), enS P "continuations" k6 (.int 19 1344), enS P "columns" k7 (.int 72 1345), enS P "depth" k8 (.int 40 1346)] 8) ∈ led → SpecV 3 24 292 [.str (Str.ofString "eq") t5, .int 0 t6, .int x t1, .int y t2, .ref la] led (fun v => v = .bool (decide (x = y))) := by
  refine @dq _ (by
  unfold SpecV
  k_fill
  k_extra "h0"
  k_extra "b1.12"
  k_extra "b2.6"
  intro b1 b2
  k_extra "hw"
  k_with "!eval Call" => (k_here; (with_reducible show wpAny _ _ (eval (Expr.Call (Expr.Name _ _) _ [] _) _) _ _ _); k_dflt (refine Call_ ?_))
  k_with "specV" => exact c_order_of _ _ _ _ _ 
  k_with "specV" => exact c_holds_eq _ _ _ _ 
  k_steps
  all_goals first
    | exact hret _ _ _ ‹_› ‹_› (congrArg Value.bool (ord_eq y1_1 y1_2))) fun q hf => ?_
  simpa only using fq hf (@Eq _ 5 5)
-- MBase
section
variable {prog : Program} {w : World} {A : Around} {E : Value → Shared → Prop} {s : Shared} {h₀ : Heap} {L D : Addr} {m : Str → Option Value} {news news' : List (Addr × Obj)} {vs : List Value} {n : Nat} {k : Int} {t u : Tok}
theorem lenL_K {Q : Value → Shared → Prop} (N : News h₀ L s.heap news) (hm : (D, listOf vs.toArray n) ∈ news) {c : Nat} (hc : vs.length = c) (hb : c < 2 ^ 62) (h : Q (.int (c : Nat) (s.toks + 1)) { s with toks := s.toks + 1 + 1 }) :
    wpAny (model prog w) A (call (.builtin "len") [.ref D]) Q E s := by
  refine Calls.call_len_list (PySem.IsL.isList (n := n) (N _ hm).1) (by simp only [List.size_toArray]; lia) ?_
  rw [List.size_toArray, hc]; exact h
theorem itemL_K {value slice : PySem.Expr} {v : Value} {Q : Value → Shared → Prop} (N : News h₀ L s.heap news) (hm : (D, listOf vs.toArray n) ∈ news) (h0 : 0 ≤ k) (h1 : k < 2 ^ 63) (hx : vs[k.toNat]? = some v) (h : Q v s)
    (hs : subscripted slice false (.ref D) (.int k u) = operate [.ref D, .int k u] (getItem (.ref D) (.int k u)) := by with_unfolding_all rfl) :
    wpAny (model prog w) A (subscriptTail value slice (.ref D) (.int k u)) Q E s := item_litK (PySem.IsL.isList (n := n) (N _ hm).1) h0 h1 hx h hs
theorem setL_K {Q : Unit → Shared → Prop} {v : Value} (F : Fr h₀ L s.heap m) (N : News h₀ L s.heap news) (U : Upd D (listOf vs.toArray n) (listOf (vs.set k.toNat v).toArray n) news news') (h0 : 0 ≤ k) (h1 : k < vs.length) (hfit : k < 2 ^ 63)
    (h : ∀ h', Fr h₀ L h' m → News h₀ L h' news' → Q () { s with heap := h' }) :
    wpAny (model prog w) A (setItem (.ref D) (.int k t) v) Q E s := by
  refine viaP fun PZ kZ => ?_
  obtain ⟨pre, post, rfl, rfl, a, b⟩ := U.split
  refine kZ ?_; clear kZ PZ
  have z := N (D, listOf vs.toArray n) (List.mem_append.mpr (.inr (.head _)))
  refine ki_setAt z.1 h0 hfit (by simp; lia) (h _ (F.change (Heap.SameBut.update ..) z.2.1 z.2.2) (ki_turn _ N a b ?_ ?_))
  · apply Array.toList_inj.mp
    simp
  · simp
end
noncomputable abbrev WP : Program := PySem.Challenge.rw_sz0042_01.row.prog
/-- as SpecP and SpecV, in one world -/
def SpecPW (w : World) (D U : Nat) (f : Addr) (args : List Value) (led : Led) (post : Value → Led → Prop) : Prop :=
  ∀ (p : Program) (loose : List Str) (mean : ExcName → Option Value) (mg mb : Str → Option Value) (dp un : Nat) (gd : Option (List Code)) (cn : Str) (cs : Scope) (a : Addr) (ccd : Value) (cl : List (Str × Addr)) (outer : List Env) (A₀ : Around) (base h₀ : Heap) (L : Addr) (m : Str → Option Value) (s : Shared) (Q E : Value → Shared → Prop),
   Below A₀ base outer h₀ → Fr h₀ L s.heap m → (KK w.params).In h₀ → News h₀ L s.heap led → Top p loose mean mg mb h₀ → cs.kind = .function → dp + D < recursionLimit → un + U < cLine →
   (∀ v tl h' tk', Fr h₀ L h' m → News h₀ L h' (tl ++ led) → (∀ q ∈ tl, ∀ p ∈ led, @LT.lt Nat _ p.1 q.1) → post v (tl ++ led) → Q v { s with heap := h', toks := tk' }) →
   wpAny (model PySem.Challenge.rw_sz0042_01.row.prog w) (ktrTop dp un gd cn cs L a ccd cl outer) (call (.ref f) args) Q E s
theorem SpecP.w {D U : Nat} {f : Addr} {args : List Value} {led : Led} {post : Value → Led → Prop} (C : SpecP D U f args led post) (w : World) : SpecPW w D U f args led post := C w
theorem SpecV.w {D U : Nat} {f : Addr} {args : List Value} {led : Led} {post : Value → Prop} (C : SpecV D U f args led post) (w : World) : SpecPW w D U f args led (fun v _ => post v) := by
  intro p loose mean mg mb dp un gd cn cs a ccd cl outer A₀ base h₀ L m s Q E B F X N T hk hd hu hret
  exact C w _ _ _ _ _ _ _ _ _ _ _ _ _ _ _ _ _ _ _ _ _ _ B F X N T hk hd hu fun v h' tk' F' N' hp => hret v [] h' tk' F' N' no_lt hp
theorem SpecPW.weak {w : World} {D U D' U' : Nat} {f : Addr} {args : List Value} {led : Led} {post post' : Value → Led → Prop} (C : SpecPW w D U f args led post) (hD : D ≤ D') (hU : U ≤ U') (hp : ∀ v n, post v n → post' v n) : SpecPW w D' U' f args led post' := by
  intro p loose mean mg mb dp un gd cn cs a ccd cl outer A₀ base h₀ L m s Q E B F X N T hk hd hu hret
  exact C _ _ _ _ _ _ _ _ _ _ _ _ _ _ _ _ _ _ _ _ _ _ B F X N T hk (by lia) (by lia) fun v tl h' tk' F' N' hl q => hret v tl h' tk' F' N' hl (hp _ _ q)
theorem specPW_use {D U : Nat} {f : Addr} {args : List Value} {led : Led} {post : Value → Led → Prop} {w : World} (C : SpecPW w D U f args led post) {p : Program} {loose : List Str} {mean : ExcName → Option Value} {mg mb : Str → Option Value} {dp un : Nat} {gd : Option (List Code)} {cn : Str} {cs : Scope} {a : Addr} {ccd : Value} {cl : List (Str × Addr)} {outer : List Env} {A₀ : Around} {base h₀ : Heap} {L : Addr} {m : Str → Option Value} {s : Shared} {Q E : Value → Shared → Prop}
    (B : Below A₀ base outer h₀) (F : Fr h₀ L s.heap m) (X : (KK w.params).In h₀) (N : News h₀ L s.heap led) (T : Top p loose mean mg mb h₀) (hk : cs.kind = .function) (hd : dp + D < recursionLimit) (hu : un + U < cLine)
    (ret : ∀ v tl h' tk', Fr h₀ L h' m → News h₀ L h' (tl ++ led) → (∀ q ∈ tl, ∀ p ∈ led, @LT.lt Nat _ p.1 q.1) → post v (tl ++ led) → Q v { s with heap := h', toks := tk' }) :
    wpAny (model PySem.Challenge.rw_sz0042_01.row.prog w) (ktrTop dp un gd cn cs L a ccd cl outer) (call (.ref f) args) Q E s := C _ _ _ _ _ _ _ _ _ _ _ _ _ _ _ _ _ _ _ _ _ _ B F X N T hk hd hu ret
structure RV where
  (me la ex st fr fl lo op : Addr) (un wo de pl cs ac li : Value) (kk : Nat → Tok)
/-- the attributes of a Run -/
noncomputable abbrev runD (P : Params) (r : RV) (n : Int) (t : Tok) : Obj := dictOf [enS P "memory" (r.kk 0) (.ref r.me), enS P "limits" (r.kk 1) (.ref r.la), enS P "units" (r.kk 2) r.un, enS P "world" (r.kk 3) r.wo, enS P "expressions" (r.kk 4) (.ref r.ex), enS P "statements" (r.kk 5) (.ref r.st), enS P "frame" (r.kk 6) (.ref r.fr), enS P "depth" (r.kk 7) r.de, enS P "steps" (r.kk 8) (.int n t), enS P "places" (r.kk 9) r.pl, enS P "flows" (r.kk 10) (.ref r.fl), enS P "clears" (r.kk 11) r.cs, enS P "active" (r.kk 12) r.ac, enS P "loops" (r.kk 13) (.ref r.lo), enS P "operations" (r.kk 14) (.ref r.op), enS P "library" (r.kk 15) r.li] 16
/-- a ledger that has grown from another -/
def Grown (led n : Led) : Prop := ∃ tl, n = tl ++ led ∧ ∀ q ∈ tl, ∀ p ∈ led, @LT.lt Nat _ p.1 q.1
theorem Grown.refl {led : Led} : Grown led led := ⟨[], rfl, no_lt⟩
theorem Grown.app {led n tl : Led} (g : Grown led n) (h : ∀ q ∈ tl, ∀ p ∈ n, @LT.lt Nat _ p.1 q.1) : Grown led (tl ++ n) := by
  obtain ⟨t, rfl, h1⟩ := g
  exact ⟨tl ++ t, (List.append_assoc ..).symm, app_lt h h1⟩
theorem Grown.cons {led n : Led} {D : Addr} {o : Obj} (g : Grown led n) (h : ∀ p ∈ n, @LT.lt Nat _ p.1 D) : Grown led ((D, o) :: n) := g.app (tl := [(D, o)]) (one_lt h)
theorem Grown.sub {led n : Led} (g : Grown led n) : ∀ p ∈ led, p ∈ n := by
  obtain ⟨t, rfl, _⟩ := g
  exact fun p hp => List.mem_append_right _ hp
theorem Grown.ret {led n : Led} {h₀ : Heap} {L : Addr} {mm : Str → Option Value} {s : Shared} {Q : Value → Shared → Prop} {post : Value → Led → Prop}
    (hret : ∀ v tl h' tk', Fr h₀ L h' mm → News h₀ L h' (tl ++ led) → (∀ q ∈ tl, ∀ p ∈ led, @LT.lt Nat _ p.1 q.1) → post v (tl ++ led) → Q v { s with heap := h', toks := tk' })
    {v : Value} {h' : Heap} {tk' : Nat} (F : Fr h₀ L h' mm) (N : News h₀ L h' n) (hp : post v n) (g : Grown led n) : Q v { s with heap := h', toks := tk' } := by
  obtain ⟨t, rfl, h1⟩ := g
  exact hret v t h' tk' F N h1 hp
theorem Grown.retV {led n : Led} {h₀ : Heap} {L : Addr} {mm : Str → Option Value} {s : Shared} {Q : Value → Shared → Prop} {x : Value}
    (hret : ∀ v tl h' tk', Fr h₀ L h' mm → News h₀ L h' (tl ++ led) → (∀ q ∈ tl, ∀ p ∈ led, @LT.lt Nat _ p.1 q.1) → v = x → Q v { s with heap := h', toks := tk' })
    {h' : Heap} {tk' : Nat} (F : Fr h₀ L h' mm) (N : News h₀ L h' n) (g : Grown led n) : Q x { s with heap := h', toks := tk' } := by
  obtain ⟨t, rfl, h1⟩ := g
  exact hret _ t h' tk' F N h1 rfl
theorem neRV : Nonempty RV := ⟨by constructor <;> first | exact 0 | exact Value.none | exact Str.ofString "" | exact (fun _ => 0) | exact [] | exact default | exact ⟨[], 0⟩⟩
theorem words3 : True := by
  k_with "G3" => (
    k_with "!call builtin:len" => (k_here; (with_reducible show wpAny _ _ (call (Value.builtin _) [Value.ref _]) _ _ _); k_dflt (refine' lenL_K ?z17k1 ?z17k2 ?z17k3 ?z17k4 ?_; (case z17k1 => k_asm); (case z17k2 => first | assumption | k_mem); (case z17k3 => k_extra "len"); (case z17k4 => decide); k_whole))
    k_with "!subscriptTail Name" => (k_here; (with_reducible show wpAny _ _ (subscriptTail _ _ (Value.ref _) (Value.int _ _)) _ _ _); k_dflt (refine' itemL_K ?z18k1 ?z18k2 ?z18k3 ?z18k4 ?z18k5 ?_ ?z18k6; (case z18k1 => k_asm); (case z18k2 => first | assumption | k_mem); (case z18k3 => omega); (case z18k4 => omega); (case z18k5 => k_extra "item"); (case z18k6 => with_unfolding_all rfl); k_whole))
    k_with "!subscriptTail Name" => (k_here; (with_reducible show wpAny _ _ (subscriptTail _ _ (Value.ref _) (Value.int _ _)) _ _ _); k_dflt (refine' item_tupleT ?z19t ?z19a ?z19b ?z19c ?z19d ?_; (case z19t => refine' News.isTup ?z19tN ?z19tp; (case z19tN => k_asm); (case z19tp => first | assumption | k_mem)); (case z19a => decide); (case z19b => decide); (case z19c => rfl); (case z19d => rfl); k_whole))
    k_with "!call ref" => ((with_reducible show wpAny _ _ (call (Value.ref _) _) _ _ _); k_here; k_dflt (refine' specPW_use ?z20kC ?z20k1 ?z20k2 ?z20k3 ?z20k4 ?z20k5 ?z20kK ?z20kd ?z20ku ?_; (case z20k4 => k_asm); (case z20kC => k_extra "specPW"); (case z20k1 => k_asm); (case z20k2 => k_asm); (case z20k3 => k_asm); (case z20k5 => k_asm); (case z20kK => first | exact rfl | assumption); (case z20kd => ktr_room); (case z20ku => ktr_units)); intro v9 tl9 h9 tk9 F9 N9 l9 hp9; (first | (obtain ⟨a9, u9, z9, e9, hp9⟩ := hp9; subst e9) | k_extra "openP" | subst hp9 | skip); (try k_sweep); (try k_fold))
    k_with "!subscriptTail Name" => (k_here; (with_reducible show wpAny _ _ (subscriptTail _ _ (Value.ref _) (Value.str _ _)) _ _ _); k_dflt ((refine' kda_item (knd := PySem.strKind _ _) ?q232 ?q233 ?q234 (strKind_is _ _ _ _) ?q235 ?_; (case q232 => k_asm); (case q233 => first | assumption | k_mem); (case q234 => assumption); (case q235 => k_extra "val"))))
    k_with "!subscriptTail Name" => (k_here; (with_reducible show wpAny _ _ (subscriptTail _ _ (Value.ref _) (Value.int _ _)) _ _ _); k_dflt ((refine' kda_item (knd := PySem.intKind _ _) ?q236 ?q237 ?q238 (intKind_is _ _ _ _) ?q239 ?_; (case q236 => k_asm); (case q237 => first | assumption | k_mem); (case q238 => assumption); (case q239 => k_extra "val"))))
    k_with "!getMethod ref" => (k_here; (with_reducible show wpAny _ _ (getMethod (Value.ref _) (Str.ofString "get") _) _ _ _); k_dflt ((refine' kdg_method (knd := PySem.strKind WP _) ?q240 ?q241 ?q242 ?_; (case q240 => k_asm); (case q241 => first | assumption | k_mem); (case q242 => assumption))))
    k_with "!call builtin:dict.get" => (k_here; k_dflt ((refine' kdg_get1 (knd := PySem.strKind _ _) ?q243 ?q244 ?q245 ?q246 (strKind_is _ _ _ _) (some _) ?q247 ?_; (case q243 => k_asm); (case q244 => first | assumption | k_mem); (case q245 => assumption); (case q246 => assumption); (case q247 => k_extra "val"))); (try dsimp only [Option.getD]))
    k_with "!compareOp NotIn str ref" => (k_here; k_dflt ((refine' kdg_notin (knd := PySem.strKind _ _) ?q248 ?q249 ?q250 ?q251 (strKind_is _ _ _ _) true ?q252 ?_; (case q248 => k_asm); (case q249 => first | assumption | k_mem); (case q250 => assumption); (case q251 => assumption); (case q252 => k_extra "isval"))); (try dsimp only [Bool.not_true, Bool.not_false]))
    k_with "!compareOp NotIn int ref" => (k_here; k_dflt ((refine' kdg_notin (knd := PySem.intKind _ _) ?q253 ?q254 ?q255 ?q256 (intKind_is _ _ _ _) true ?q257 ?_; (case q253 => k_asm); (case q254 => first | assumption | k_mem); (case q255 => assumption); (case q256 => assumption); (case q257 => k_extra "isval"))); (try dsimp only [Bool.not_true, Bool.not_false]))
    k_with "m:k_mem" => first | assumption | (with_reducible exact List.mem_cons_self) | (with_reducible refine List.mem_cons_of_mem _ ?_; k_mem) | (with_reducible refine List.mem_append_right _ ?_; k_mem)
    k_with "!subscriptTail Subscript" => (k_here; k_dflt (refine kba_turn (value' := PySem.Expr.Name (PySem.Str.ofString "_") ⟨0, 0, 0, 0⟩) (fun _ => rfl) ?_))
    k_with "!subscriptTail Attribute" => (k_here; k_dflt (refine kba_turn (value' := PySem.Expr.Name (PySem.Str.ofString "_") ⟨0, 0, 0, 0⟩) (fun _ => rfl) ?_)))
  k_extra "G3"
  trivial
-- M01
theorem c_units2 : ∀ (t : Tok) (led : Led), SpecV 1 8 103 [.int 2 t] led (fun v => ∃ u, v = .int 2 u) := by
  refine @dq _ (by
  unfold SpecV
  k_fill
  k_extra "h0"
  k_extra "b1.2"
  k_extra "hw"
  k_steps
  all_goals first
    | exact hret _ _ _ ‹_› ‹_› ⟨_, rfl⟩
    | (exfalso; omega)) fun q hf => ?_
  simpa only using fq hf (@Eq _ 5 5)
theorem c_units0 : ∀ (t : Tok) (led : Led), SpecV 1 8 103 [.int 0 t] led (fun v => ∃ u, v = .int 1 u) := by
  refine @dq _ (by
  unfold SpecV
  k_fill
  k_extra "h0"
  k_extra "b1.2"
  k_extra "hw"
  k_steps
  all_goals first
    | exact hret _ _ _ ‹_› ‹_› ⟨_, rfl⟩
    | (exfalso; omega)) fun q hf => ?_
  simpa only using fq hf (@Eq _ 5 5)
theorem c_need : ∀ (ce : Addr) (vs : List Value) (nn : Nat) (ad co : Int) (t1 t2 : Tok) (led : Led), (ce, listOf vs.toArray nn) ∈ led → vs.length = 25 → 0 ≤ ad → 0 ≤ co → ad + co ≤ 25 → SpecV 1 16 152 [.ref ce, .int ad t1, .int co t2] led (fun v => v = .none) := by
  refine @dq _ (by
  unfold SpecV
  k_fill
  k_extra "h0"
  k_extra "b1.8"
  intro b1 b2 b3 b4 b5
  k_extra "hw"
  k_with "len" => assumption
  k_with "item" => assumption
  k_steps
  all_goals first
    | exact hret _ _ _ ‹_› ‹_› rfl
    | (exfalso; omega)) fun q hf => ?_
  simpa only using fq hf (@Eq _ 5 5)
-- M02
theorem c_read : ∀ (ce : Addr) (vs : List Value) (nn : Nat) (ad tg : Int) (c : Addr) (t1 t2 t3 : Tok) (x : Value) (led : Led), (ce, listOf vs.toArray nn) ∈ led → vs.length = 25 → 0 ≤ ad → ad < 25 → vs[ad.toNat]? = some (.ref c) → (c, tp [.int tg t3, x]) ∈ led → SpecV 1 16 159 [.ref ce, .int ad t1, .int tg t2] led (fun v => v = x) := by
  refine @dq _ (by
  unfold SpecV
  k_fill
  k_extra "h0"
  k_extra "b1.8"
  k_extra "b2.3"
  intro b1 b2 b3 b4 b5 b6
  k_extra "hw"
  k_with "len" => assumption
  k_with "item" => assumption
  k_steps
  all_goals first
    | exact hret _ _ _ ‹_› ‹_› rfl
    | (exfalso; omega)) fun q hf => ?_
  simpa only using fq hf (@Eq _ 5 5)
-- M03
theorem c_ld2 : ∀ (ce : Addr) (vs : List Value) (nn : Nat) (ad : Int) (c1 c2 : Addr) (t1 t2 t3 t4 : Tok) (x y : Value) (led : Led), (ce, listOf vs.toArray nn) ∈ led → vs.length = 25 → 0 ≤ ad → ad < 24 → vs[ad.toNat]? = some (.ref c1) → vs[(ad + 1).toNat]? = some (.ref c2) → (c1, tp [.int 2 t3, x]) ∈ led → (c2, tp [.int 6 t4, y]) ∈ led → SpecV 2 24 166 [.ref ce, .int 2 t1, .int ad t2] led (fun v => v = x) := by
  refine @dq _ (by
  unfold SpecV
  k_fill
  k_extra "h0"
  k_extra "b1.12"
  k_extra "b2.1"
  intro b1 b2 b3 b4 b5 b6 b7 b8
  k_extra "hw"
  k_with "specV" => exact c_units2 _ _ 
  k_with "specV" => (refine' c_need _ _ _ _ _ _ _ _ ?q258 ?q259 ?q260 ?q261 ?q262; (case q258 => first | assumption | k_mem); (case q259 => assumption); (case q260 => omega); (case q261 => omega); (case q262 => omega))
  k_with "specV" => (refine' c_read _ _ _ _ _ _ _ _ _ _ _ ?q263 ?q264 ?q265 ?q266 ?q267 ?q268; (case q263 => first | assumption | k_mem); (case q264 => assumption); (case q265 => omega); (case q266 => omega); (case q267 => assumption); (case q268 => first | assumption | k_mem))
  k_with "len" => assumption
  k_with "item" => assumption
  k_steps
  all_goals first
    | exact hret _ _ _ ‹_› ‹_› rfl
    | (exfalso; omega)) fun q hf => ?_
  simpa only using fq hf (@Eq _ 5 5)
theorem c_ld0 : ∀ (ce : Addr) (vs : List Value) (nn : Nat) (ad : Int) (c1 : Addr) (t1 t2 t3 : Tok) (x : Value) (led : Led), (ce, listOf vs.toArray nn) ∈ led → vs.length = 25 → 0 ≤ ad → ad < 25 → vs[ad.toNat]? = some (.ref c1) → (c1, tp [.int 0 t3, x]) ∈ led → SpecV 2 24 166 [.ref ce, .int 0 t1, .int ad t2] led (fun v => v = x) := by
  refine @dq _ (by
  unfold SpecV
  k_fill
  k_extra "h0"
  k_extra "b1.8"
  k_extra "b2.2"
  intro b1 b2 b3 b4 b5 b6
  k_extra "hw"
  k_with "specV" => exact c_units0 _ _ 
  k_with "specV" => (refine' c_need _ _ _ _ _ _ _ _ ?q269 ?q270 ?q271 ?q272 ?q273; (case q269 => first | assumption | k_mem); (case q270 => assumption); (case q271 => omega); (case q272 => omega); (case q273 => omega))
  k_with "specV" => (refine' c_read _ _ _ _ _ _ _ _ _ _ _ ?q274 ?q275 ?q276 ?q277 ?q278 ?q279; (case q274 => first | assumption | k_mem); (case q275 => assumption); (case q276 => omega); (case q277 => omega); (case q278 => assumption); (case q279 => first | assumption | k_mem))
  k_with "len" => assumption
  k_with "item" => assumption
  k_steps
  all_goals first
    | exact hret _ _ _ ‹_› ‹_› rfl
    | (exfalso; omega)) fun q hf => ?_
  simpa only using fq hf (@Eq _ 5 5)
-- M04
theorem c_mload2 : ∀ (ce : Addr) (vs : List Value) (nn : Nat) (me md : Addr) (q1 q2 : Tok) (ch : Value) (P : Params) (pa : Addr) (t1 t2 : Tok) (z1 z2 : Value) (ad : Int) (c1 c2 : Addr) (t3 t4 : Tok) (x y : Value) (led : Led), (ce, listOf vs.toArray nn) ∈ led → vs.length = 25 → (me, instObj 141 md) ∈ led → (md, dictOf [enS P "numeric" q1 (.ref ce), enS P "characters" q2 ch] 2) ∈ led → (pa, tp [.int 2 t1, .int ad t2, z1, z2]) ∈ led → 0 ≤ ad → ad < 24 → vs[ad.toNat]? = some (.ref c1) → vs[(ad + 1).toNat]? = some (.ref c2) → (c1, tp [.int 2 t3, x]) ∈ led → (c2, tp [.int 6 t4, y]) ∈ led → SpecV 3 32 124 [.ref me, .ref pa] led (fun v => v = x) := by
  refine @dq _ (by
  unfold SpecV
  k_fill
  k_extra "h0"
  k_extra "b1.12"
  k_extra "b2.8"
  k_extra "b3.2"
  intro b1 b2 b3 b4 b5 b6 b7 b8 b9 b10 b11
  k_extra "hw"
  k_with "specV" => (refine' c_ld2 _ _ _ _ _ _ _ _ _ _ _ _ _ ?q280 ?q281 ?q282 ?q283 ?q284 ?q285 ?q286 ?q287; (case q280 => first | assumption | k_mem); (case q281 => assumption); (case q282 => omega); (case q283 => omega); (case q284 => assumption); (case q285 => assumption); (case q286 => first | assumption | k_mem); (case q287 => first | assumption | k_mem))
  k_with "len" => assumption
  k_with "item" => assumption
  k_steps
  all_goals first
    | exact hret _ _ _ ‹_› ‹_› rfl
    | (exfalso; omega)) fun q hf => ?_
  simpa only using fq hf (@Eq _ 5 5)
theorem c_mload0 : ∀ (ce : Addr) (vs : List Value) (nn : Nat) (me md : Addr) (q1 q2 : Tok) (ch : Value) (P : Params) (pa : Addr) (t1 t2 : Tok) (z1 z2 : Value) (ad : Int) (c1 : Addr) (t3 : Tok) (x : Value) (led : Led), (ce, listOf vs.toArray nn) ∈ led → vs.length = 25 → (me, instObj 141 md) ∈ led → (md, dictOf [enS P "numeric" q1 (.ref ce), enS P "characters" q2 ch] 2) ∈ led → (pa, tp [.int 0 t1, .int ad t2, z1, z2]) ∈ led → 0 ≤ ad → ad < 25 → vs[ad.toNat]? = some (.ref c1) → (c1, tp [.int 0 t3, x]) ∈ led → SpecV 3 32 124 [.ref me, .ref pa] led (fun v => v = x) := by
  refine @dq _ (by
  unfold SpecV
  k_fill
  k_extra "h0"
  k_extra "b1.12"
  k_extra "b2.6"
  k_extra "b3.1"
  intro b1 b2 b3 b4 b5 b6 b7 b8 b9
  k_extra "hw"
  k_with "specV" => (refine' c_ld0 _ _ _ _ _ _ _ _ _ _ ?q288 ?q289 ?q290 ?q291 ?q292 ?q293; (case q288 => first | assumption | k_mem); (case q289 => assumption); (case q290 => omega); (case q291 => omega); (case q292 => assumption); (case q293 => first | assumption | k_mem))
  k_with "len" => assumption
  k_with "item" => assumption
  k_steps
  all_goals first
    | exact hret _ _ _ ‹_› ‹_› rfl
    | (exfalso; omega)) fun q hf => ?_
  simpa only using fq hf (@Eq _ 5 5)
-- M05
theorem c_named : ∀ (w : World) (ru rd : Addr) (r : RV) (ns : Int) (ts : Tok) (fo : Obj) (fv : List (Str × Value)) (nm : Str) (pa : Addr) (l : List Value) (t : Tok) (led : Led), (ru, instObj 450 rd) ∈ led → (rd, runD w.params r ns ts) ∈ led → (r.fr, fo) ∈ led → (r.fr == sysModules) = false → fo.IsDictOf (strKind WP w) fv → valueAt fv nm = some (.ref pa) → (pa, tp l) ∈ led → SpecPW w 1 16 468 [.ref ru, .str nm t] led (fun v _ => v = .ref pa) := by
  refine @dq _ (by
  unfold SpecPW
  k_fill
  k_extra "h0"
  k_extra "b1.12"
  k_extra "b2.1"
  intro b1 b2 b3 b4 b5 b6 b7
  k_extra "hv"
  k_with "val" => assumption
  k_with "isval" => rw [show _ = _ from by assumption]; rfl
  k_steps
  all_goals first
    | exact Grown.ret (post := fun v _ => v = .ref y1_10) hret ‹_› ‹_› rfl (by repeat (first | exact Grown.refl | (refine Grown.app ?_ ?_; rotate_left; assumption) | (refine Grown.cons ?_ ?_; rotate_left; first | assumption | exact fun p hp => Nat.lt_succ_of_lt (by first | exact l1 p hp | (apply_assumption; assumption)))))
    | exact Grown.retV hret ‹_› ‹_› (by repeat (first | exact Grown.refl | (refine Grown.app ?_ ?_; rotate_left; assumption) | (refine Grown.cons ?_ ?_; rotate_left; first | assumption | exact fun p hp => Nat.lt_succ_of_lt (by first | exact l1 p hp | (apply_assumption; assumption)))))) fun q hf => ?_
  simpa only using fq hf (@Eq _ 5 5)
-- M06
theorem c_place : ∀ (w : World) (ru rd : Addr) (r : RV) (ns : Int) (ts : Tok) (fo : Obj) (fv : List (Str × Value)) (nm : Str) (pa : Addr) (l : List Value) (tr : Addr) (ki : Int) (t1 t2 t3 : Tok) (led : Led), (ru, instObj 450 rd) ∈ led → (rd, runD w.params r ns ts) ∈ led → (r.fr, fo) ∈ led → (r.fr == sysModules) = false → fo.IsDictOf (strKind WP w) fv → valueAt fv nm = some (.ref pa) → (pa, tp l) ∈ led → (tr, tp [.str (Str.ofString "var") t1, .int ki t2, .str nm t3]) ∈ led → SpecPW w 2 24 487 [.ref ru, .ref tr] led (fun v _ => v = .ref pa) := by
  refine @dq _ (by
  unfold SpecPW
  k_fill
  k_extra "h0"
  k_extra "b1.12"
  k_extra "b2.4"
  k_extra "b3.1"
  intro b1 b2 b3 b4 b5 b6 b7 b8
  k_extra "hd"
  intro B F X N T hk hd hu hret
  with_reducible k_extra "bar"
  refine wpAny_call ?_
  k_dflt (refine' code_defC ?k1 ?k2 ?k3 ?k4 ?k5 ?kA ?kF ?kK ?k6 ?k7 ?k8 ?k9 ?kB ?kD ?_ ?c2 ?c3 ?c4; (case kA => exact rfl); (case kF => exact rfl); (case kK => assumption); (case k1 => k_asm); (case k2 => k_asm); (case k3 => k_asm); (case k4 => k_asm); (case k5 => k_asm); (case k6 => k_is); (case k7 => k_is); (case k8 => ktr_room); (case k9 => exact BindsTo.of_eq rfl); (case kB => exact rfl); (case kD => decide +kernel); (case c2 => exact rfl); (case c3 => exact rfl); (case c4 => exact rfl); k_whole; intro g' L' h' tk' cells' FG' F' N' Y' B' X' T' l1; k_cells Y'; (try simp only [List.cons_append, List.nil_append] at N'); (try dsimp only); (try k_fold))
  k_with "specPW" => (refine' c_named _ _ _ _ _ _ _ _ _ _ _ _ _ ?q294 ?q295 ?q296 ?q297 ?q298 ?q299 ?q300; (case q294 => first | assumption | k_mem); (case q295 => first | assumption | k_mem); (case q296 => first | assumption | k_mem); (case q297 => assumption); (case q298 => assumption); (case q299 => assumption); (case q300 => first | assumption | k_mem))
  k_with "val" => assumption
  k_with "isval" => rw [show _ = _ from by assumption]; rfl
  k_steps
  all_goals first
    | exact Grown.ret (post := fun v _ => v = .ref y1_10) hret ‹_› ‹_› rfl (by repeat (first | exact Grown.refl | (refine Grown.app ?_ ?_; rotate_left; assumption) | (refine Grown.cons ?_ ?_; rotate_left; first | assumption | exact fun p hp => Nat.lt_succ_of_lt (by first | exact l1 p hp | (apply_assumption; assumption)))))
    | exact Grown.retV hret ‹_› ‹_› (by repeat (first | exact Grown.refl | (refine Grown.app ?_ ?_; rotate_left; assumption) | (refine Grown.cons ?_ ?_; rotate_left; first | assumption | exact fun p hp => Nat.lt_succ_of_lt (by first | exact l1 p hp | (apply_assumption; assumption)))))) fun q hf => ?_
  simpa only using fq hf (@Eq _ 5 5)
theorem c_const : ∀ (w : World) (ru : Addr) (tr : Addr) (x y z : Value) (led : Led), (tr, tp [x, y, z]) ∈ led → SpecPW w 1 8 494 [.ref ru, .ref tr] led (fun v _ => v = z) := by
  refine @dq _ (by
  unfold SpecPW
  k_fill
  k_extra "h0"
  k_extra "b1.6"
  k_extra "b2.1"
  intro b1
  k_extra "hv"
  k_steps
  all_goals first
    | exact Grown.ret (post := fun v _ => v = y1_6) hret ‹_› ‹_› rfl (by repeat (first | exact Grown.refl | (refine Grown.app ?_ ?_; rotate_left; assumption) | (refine Grown.cons ?_ ?_; rotate_left; first | assumption | exact fun p hp => Nat.lt_succ_of_lt (by first | exact l1 p hp | (apply_assumption; assumption)))))
    | exact Grown.retV hret ‹_› ‹_› (by repeat (first | exact Grown.refl | (refine Grown.app ?_ ?_; rotate_left; assumption) | (refine Grown.cons ?_ ?_; rotate_left; first | assumption | exact fun p hp => Nat.lt_succ_of_lt (by first | exact l1 p hp | (apply_assumption; assumption)))))) fun q hf => ?_
  simpa only using fq hf (@Eq _ 5 5)
-- M07
theorem c_eplace2 : ∀ (w : World) (ru rd : Addr) (r : RV) (ns : Int) (ts : Tok) (fo : Obj) (fv : List (Str × Value)) (ce : Addr) (vs : List Value) (nn : Nat) (md : Addr) (q1 q2 : Tok) (ch : Value) (nm : Str) (pa : Addr) (tr : Addr) (ki : Int) (t1 t2 t3 : Tok) (ad : Int) (c1 c2 : Addr) (t6 t7 t8 t9 : Tok) (z1 z2 x y : Value) (led : Led), (ru, instObj 450 rd) ∈ led → (rd, runD w.params r ns ts) ∈ led → (r.fr, fo) ∈ led → (r.fr == sysModules) = false → fo.IsDictOf (strKind WP w) fv → (ce, listOf vs.toArray nn) ∈ led → vs.length = 25 → (r.me, instObj 141 md) ∈ led → (md, dictOf [enS w.params "numeric" q1 (.ref ce), enS w.params "characters" q2 ch] 2) ∈ led → valueAt fv nm = some (.ref pa) → (pa, tp [.int 2 t6, .int ad t7, z1, z2]) ∈ led → (tr, tp [.str (Str.ofString "var") t1, .int ki t2, .str nm t3]) ∈ led → 0 ≤ ad → ad < 24 → vs[ad.toNat]? = some (.ref c1) → vs[(ad + 1).toNat]? = some (.ref c2) → (c1, tp [.int 2 t8, x]) ∈ led → (c2, tp [.int 6 t9, y]) ∈ led → SpecPW w 4 48 501 [.ref ru, .ref tr] led (fun v _ => v = x) := by
  refine @dq _ (by
  unfold SpecPW
  k_fill
  k_extra "h0"
  k_extra "b1.12"
  k_extra "b2.12"
  k_extra "b3.8"
  k_extra "b4.2"
  intro b1 b2 b3 b4 b5 b6 b7 b8 b9 b10 b11 b12 b13 b14 b15 b16 b17 b18
  k_extra "hv"
  k_with "specPW" => (refine' c_place _ _ _ _ _ _ _ _ _ _ _ _ _ _ _ _ _ ?q301 ?q302 ?q303 ?q304 ?q305 ?q306 ?q307 ?q308; (case q301 => first | assumption | k_mem); (case q302 => first | assumption | k_mem); (case q303 => first | assumption | k_mem); (case q304 => assumption); (case q305 => assumption); (case q306 => assumption); (case q307 => first | assumption | k_mem); (case q308 => first | assumption | k_mem))
  k_with "specV" => (refine' c_mload2 _ _ _ _ _ _ _ _ _ _ _ _ _ _ _ _ _ _ _ _ _ _ ?q309 ?q310 ?q311 ?q312 ?q313 ?q314 ?q315 ?q316 ?q317 ?q318 ?q319; (case q309 => first | assumption | k_mem); (case q310 => assumption); (case q311 => first | assumption | k_mem); (case q312 => first | assumption | k_mem); (case q313 => first | assumption | k_mem); (case q314 => omega); (case q315 => omega); (case q316 => assumption); (case q317 => assumption); (case q318 => first | assumption | k_mem); (case q319 => first | assumption | k_mem))
  k_with "val" => assumption
  k_with "isval" => rw [show _ = _ from by assumption]; rfl
  k_steps
  all_goals first
    | exact Grown.ret (post := fun v _ => v = y3_8) hret ‹_› ‹_› rfl (by repeat (first | exact Grown.refl | (refine Grown.app ?_ ?_; rotate_left; assumption) | (refine Grown.cons ?_ ?_; rotate_left; first | assumption | exact fun p hp => Nat.lt_succ_of_lt (by first | exact l1 p hp | (apply_assumption; assumption)))))
    | exact Grown.retV hret ‹_› ‹_› (by repeat (first | exact Grown.refl | (refine Grown.app ?_ ?_; rotate_left; assumption) | (refine Grown.cons ?_ ?_; rotate_left; first | assumption | exact fun p hp => Nat.lt_succ_of_lt (by first | exact l1 p hp | (apply_assumption; assumption)))))) fun q hf => ?_
  simpa only using fq hf (@Eq _ 5 5)
theorem c_eplace0 : ∀ (w : World) (ru rd : Addr) (r : RV) (ns : Int) (ts : Tok) (fo : Obj) (fv : List (Str × Value)) (ce : Addr) (vs : List Value) (nn : Nat) (md : Addr) (q1 q2 : Tok) (ch : Value) (nm : Str) (pa : Addr) (tr : Addr) (ki : Int) (t1 t2 t3 : Tok) (ad : Int) (c1 : Addr) (t6 t7 t8 : Tok) (z1 z2 x : Value) (led : Led), (ru, instObj 450 rd) ∈ led → (rd, runD w.params r ns ts) ∈ led → (r.fr, fo) ∈ led → (r.fr == sysModules) = false → fo.IsDictOf (strKind WP w) fv → (ce, listOf vs.toArray nn) ∈ led → vs.length = 25 → (r.me, instObj 141 md) ∈ led → (md, dictOf [enS w.params "numeric" q1 (.ref ce), enS w.params "characters" q2 ch] 2) ∈ led → valueAt fv nm = some (.ref pa) → (pa, tp [.int 0 t6, .int ad t7, z1, z2]) ∈ led → (tr, tp [.str (Str.ofString "var") t1, .int ki t2, .str nm t3]) ∈ led → 0 ≤ ad → ad < 25 → vs[ad.toNat]? = some (.ref c1) → (c1, tp [.int 0 t8, x]) ∈ led → SpecPW w 4 48 501 [.ref ru, .ref tr] led (fun v _ => v = x) := by
  refine @dq _ (by
  unfold SpecPW
  k_fill
  k_extra "h0"
  k_extra "b1.12"
  k_extra "b2.12"
  k_extra "b3.6"
  k_extra "b4.1"
  intro b1 b2 b3 b4 b5 b6 b7 b8 b9 b10 b11 b12 b13 b14 b15 b16
  k_extra "hv"
  k_with "specPW" => (refine' c_place _ _ _ _ _ _ _ _ _ _ _ _ _ _ _ _ _ ?q320 ?q321 ?q322 ?q323 ?q324 ?q325 ?q326 ?q327; (case q320 => first | assumption | k_mem); (case q321 => first | assumption | k_mem); (case q322 => first | assumption | k_mem); (case q323 => assumption); (case q324 => assumption); (case q325 => assumption); (case q326 => first | assumption | k_mem); (case q327 => first | assumption | k_mem))
  k_with "specV" => (refine' c_mload0 _ _ _ _ _ _ _ _ _ _ _ _ _ _ _ _ _ _ _ ?q328 ?q329 ?q330 ?q331 ?q332 ?q333 ?q334 ?q335 ?q336; (case q328 => first | assumption | k_mem); (case q329 => assumption); (case q330 => first | assumption | k_mem); (case q331 => first | assumption | k_mem); (case q332 => first | assumption | k_mem); (case q333 => omega); (case q334 => omega); (case q335 => assumption); (case q336 => first | assumption | k_mem))
  k_with "val" => assumption
  k_with "isval" => rw [show _ = _ from by assumption]; rfl
  k_steps
  all_goals first
    | exact Grown.ret (post := fun v _ => v = y3_6) hret ‹_› ‹_› rfl (by repeat (first | exact Grown.refl | (refine Grown.app ?_ ?_; rotate_left; assumption) | (refine Grown.cons ?_ ?_; rotate_left; first | assumption | exact fun p hp => Nat.lt_succ_of_lt (by first | exact l1 p hp | (apply_assumption; assumption)))))
    | exact Grown.retV hret ‹_› ‹_› (by repeat (first | exact Grown.refl | (refine Grown.app ?_ ?_; rotate_left; assumption) | (refine Grown.cons ?_ ?_; rotate_left; first | assumption | exact fun p hp => Nat.lt_succ_of_lt (by first | exact l1 p hp | (apply_assumption; assumption)))))) fun q hf => ?_
  simpa only using fq hf (@Eq _ 5 5)
-- MB2
/-- a call's contract as a premise (so that no unfold opens it) -/
def HSpec (w : World) (D U : Nat) (f : Addr) (args : List Value) (led : Led) (post : Value → Led → Prop) : Prop := SpecPW w D U f args led post
theorem HSpec.use {w : World} {D U : Nat} {f : Addr} {args : List Value} {led : Led} {post : Value → Led → Prop} (h : HSpec w D U f args led post) : SpecPW w D U f args led post := h
theorem Grown.trans {a b c : Led} (g : Grown a b) (h : Grown b c) : Grown a c := by
  obtain ⟨t, rfl, h1⟩ := h
  exact g.app h1
theorem vIs {K : Type} [DecidableEq K] {kvs : List (K × Value)} {k : K} {v : Value} (h : valueAt kvs k = some v) : (valueAt kvs k).isSome = true := by rw [h]; rfl
theorem words4 : True := by
  k_with "G4" => (
    k_with "!callWith ref" => (k_here; k_dflt (refine' callWith_K ?z21k1 ?z21k2 ?_; (case z21k1 => k_asm); (case z21k2 => with_reducible assumption); k_whole)))
  k_extra "G4"
  trivial
-- M08
theorem c_reckon : ∀ (w : World) (D U : Nat) (R : Value → Led → Prop) (ru rd : Addr) (r : RV) (ns : Int) (ts : Tok) (oo : Obj) (ov : List (Int × Value)) (wd : Str) (ki : Int) (f : Addr) (t1 t2 : Tok) (x y : Value) (led : Led), (ru, instObj 450 rd) ∈ led → (rd, runD w.params r ns ts) ∈ led → (r.op, oo) ∈ led → (r.op == sysModules) = false → oo.IsDictOf (intKind WP w) ov → valueAt ov ki = some (.ref f) → keepIn (KK w.params) (.ref f) = true → (∀ t3 t4, HSpec w D U f [.str wd t3, .int ki t4, x, y, .ref r.la] led R) → SpecPW w (D + 1) (U + 8) 508 [.ref ru, .str wd t1, .int ki t2, x, y] led (R) := by
  refine @dq _ (by
  unfold SpecPW
  k_fill
  k_extra "h0"
  k_extra "b1.12"
  k_extra "b2.6"
  k_extra "b3.1"
  intro b1 b2 b3 b4 b5 b6 b7 b8
  k_extra "hv"
  k_with "val" => assumption
  k_with "isval" => (refine' vIs ?q337; (case q337 => assumption))
  k_with "specPW" => exact HSpec.use (b8 _ _)
  k_with "openP" => try dsimp only
  k_steps
  all_goals first
    | exact Grown.ret (post := y1_4) hret ‹_› ‹_› ‹_› (by repeat (first | exact Grown.refl | (refine Grown.app ?_ ?_; rotate_left; assumption) | (refine Grown.cons ?_ ?_; rotate_left; first | assumption | exact fun p hp => Nat.lt_succ_of_lt (by first | exact l1 p hp | (apply_assumption; assumption)))))
    | exact Grown.retV hret ‹_› ‹_› (by repeat (first | exact Grown.refl | (refine Grown.app ?_ ?_; rotate_left; assumption) | (refine Grown.cons ?_ ?_; rotate_left; first | assumption | exact fun p hp => Nat.lt_succ_of_lt (by first | exact l1 p hp | (apply_assumption; assumption)))))) fun q hf => ?_
  simpa only using fq hf (@Eq _ 5 5)
theorem c_evaluate3 : ∀ (w : World) (D U : Nat) (R : Value → Led → Prop) (ru rd : Addr) (r : RV) (ns : Int) (ts : Tok) (eo : Obj) (ev : List (Str × Value)) (wd : Str) (f tr : Addr) (t1 : Tok) (x1 x2 : Value) (led : Led), (ru, instObj 450 rd) ∈ led → (rd, runD w.params r ns ts) ∈ led → (r.ex, eo) ∈ led → (r.ex == sysModules) = false → eo.IsDictOf (strKind WP w) ev → valueAt ev wd = some (.ref f) → keepIn (KK w.params) (.ref f) = true → (tr, tp [.str wd t1, x1, x2]) ∈ led → HSpec w D U f [.ref ru, .ref tr] led R → SpecPW w (D + 1) (U + 8) 461 [.ref ru, .ref tr] led (R) := by
  refine @dq _ (by
  unfold SpecPW
  k_fill
  k_extra "h0"
  k_extra "b1.12"
  k_extra "b2.6"
  intro b1 b2 b3 b4 b5 b6 b7 b8 b9
  k_extra "hv"
  k_with "val" => assumption
  k_with "isval" => (refine' vIs ?q338; (case q338 => assumption))
  k_with "specPW" => exact HSpec.use b9
  k_with "openP" => try dsimp only
  k_steps
  all_goals first
    | exact Grown.ret (post := y1_4) hret ‹_› ‹_› ‹_› (by repeat (first | exact Grown.refl | (refine Grown.app ?_ ?_; rotate_left; assumption) | (refine Grown.cons ?_ ?_; rotate_left; first | assumption | exact fun p hp => Nat.lt_succ_of_lt (by first | exact l1 p hp | (apply_assumption; assumption)))))
    | exact Grown.retV hret ‹_› ‹_› (by repeat (first | exact Grown.refl | (refine Grown.app ?_ ?_; rotate_left; assumption) | (refine Grown.cons ?_ ?_; rotate_left; first | assumption | exact fun p hp => Nat.lt_succ_of_lt (by first | exact l1 p hp | (apply_assumption; assumption)))))) fun q hf => ?_
  simpa only using fq hf (@Eq _ 5 5)
theorem c_evaluate4 : ∀ (w : World) (D U : Nat) (R : Value → Led → Prop) (ru rd : Addr) (r : RV) (ns : Int) (ts : Tok) (eo : Obj) (ev : List (Str × Value)) (wd : Str) (f tr : Addr) (t1 : Tok) (x1 x2 x3 : Value) (led : Led), (ru, instObj 450 rd) ∈ led → (rd, runD w.params r ns ts) ∈ led → (r.ex, eo) ∈ led → (r.ex == sysModules) = false → eo.IsDictOf (strKind WP w) ev → valueAt ev wd = some (.ref f) → keepIn (KK w.params) (.ref f) = true → (tr, tp [.str wd t1, x1, x2, x3]) ∈ led → HSpec w D U f [.ref ru, .ref tr] led R → SpecPW w (D + 1) (U + 8) 461 [.ref ru, .ref tr] led (R) := by
  refine @dq _ (by
  unfold SpecPW
  k_fill
  k_extra "h0"
  k_extra "b1.12"
  k_extra "b2.6"
  k_extra "b3.1"
  intro b1 b2 b3 b4 b5 b6 b7 b8 b9
  k_extra "hv"
  k_with "val" => assumption
  k_with "isval" => (refine' vIs ?q339; (case q339 => assumption))
  k_with "specPW" => exact HSpec.use b9
  k_with "openP" => try dsimp only
  k_steps
  all_goals first
    | exact Grown.ret (post := y1_4) hret ‹_› ‹_› ‹_› (by repeat (first | exact Grown.refl | (refine Grown.app ?_ ?_; rotate_left; assumption) | (refine Grown.cons ?_ ?_; rotate_left; first | assumption | exact fun p hp => Nat.lt_succ_of_lt (by first | exact l1 p hp | (apply_assumption; assumption)))))
    | exact Grown.retV hret ‹_› ‹_› (by repeat (first | exact Grown.refl | (refine Grown.app ?_ ?_; rotate_left; assumption) | (refine Grown.cons ?_ ?_; rotate_left; first | assumption | exact fun p hp => Nat.lt_succ_of_lt (by first | exact l1 p hp | (apply_assumption; assumption)))))) fun q hf => ?_
  simpa only using fq hf (@Eq _ 5 5)
-- M09
theorem c_ebin : ∀ (w : World) (D U : Nat) (R1 : Value → Led → Prop) (R2 : Value → Value → Led → Prop) (R : Value → Led → Prop) (ru tr lt rt : Addr) (wd : Str) (ki : Int) (t1 t2 : Tok) (led : Led), (tr, tp [.str wd t1, .int ki t2, .ref lt, .ref rt]) ∈ led → HSpec w D U 461 [.ref ru, .ref lt] led R1 → (∀ v1 n1, R1 v1 n1 → Grown led n1 → HSpec w D U 461 [.ref ru, .ref rt] n1 (R2 v1)) → (∀ v1 v2 n2 t3 t4, R2 v1 v2 n2 → Grown led n2 → HSpec w D U 508 [.ref ru, .str wd t3, .int ki t4, v1, v2] n2 R) → SpecPW w (D + 1) (U + 8) 515 [.ref ru, .ref tr] led (R) := by
  refine @dq _ (by
  unfold SpecPW
  k_fill
  k_extra "h0"
  k_extra "b1.12"
  k_extra "b2.3"
  intro b1 b2 b3 b4
  k_extra "hv"
  k_with "specPW" => exact HSpec.use b2
  k_with "specPW" => (refine' HSpec.use (b3 _ _ ?q340 ?q341); (case q340 => assumption); (case q341 => repeat (first | exact Grown.refl | (refine Grown.app ?_ ?_; rotate_left; assumption) | (refine Grown.cons ?_ ?_; rotate_left; first | assumption | exact fun p hp => Nat.lt_succ_of_lt (by first | exact l1 p hp | (apply_assumption; assumption))))))
  k_with "specPW" => (refine' HSpec.use (b4 _ _ _ _ _ ?q342 ?q343); (case q342 => assumption); (case q343 => repeat (first | exact Grown.refl | (refine Grown.app ?_ ?_; rotate_left; assumption) | (refine Grown.cons ?_ ?_; rotate_left; first | assumption | exact fun p hp => Nat.lt_succ_of_lt (by first | exact l1 p hp | (apply_assumption; assumption))))))
  k_with "openP" => try dsimp only
  k_steps
  all_goals first
    | exact Grown.ret (post := y1_6) hret ‹_› ‹_› ‹_› (by repeat (first | exact Grown.refl | (refine Grown.app ?_ ?_; rotate_left; assumption) | (refine Grown.cons ?_ ?_; rotate_left; first | assumption | exact fun p hp => Nat.lt_succ_of_lt (by first | exact l1 p hp | (apply_assumption; assumption)))))
    | exact Grown.retV hret ‹_› ‹_› (by repeat (first | exact Grown.refl | (refine Grown.app ?_ ?_; rotate_left; assumption) | (refine Grown.cons ?_ ?_; rotate_left; first | assumption | exact fun p hp => Nat.lt_succ_of_lt (by first | exact l1 p hp | (apply_assumption; assumption)))))) fun q hf => ?_
  simpa only using fq hf (@Eq _ 5 5)
theorem c_ecmp : ∀ (w : World) (D U : Nat) (R1 : Value → Led → Prop) (R2 : Value → Value → Led → Prop) (R : Value → Led → Prop) (ru tr lt rt : Addr) (wd : Str) (ki : Int) (t1 t2 : Tok) (x y : Value) (kj : Int) (t5 : Tok) (led : Led), (tr, tp [.str wd t1, .int ki t2, .ref lt, .ref rt]) ∈ led → (lt, tp [x, .int kj t5, y]) ∈ led → HSpec w D U 461 [.ref ru, .ref lt] led R1 → (∀ v1 n1, R1 v1 n1 → Grown led n1 → HSpec w D U 461 [.ref ru, .ref rt] n1 (R2 v1)) → (∀ v1 v2 n2 t3 t4, R2 v1 v2 n2 → Grown led n2 → HSpec w D U 508 [.ref ru, .str wd t3, .int kj t4, v1, v2] n2 R) → SpecPW w (D + 1) (U + 8) 522 [.ref ru, .ref tr] led (R) := by
  refine @dq _ (by
  unfold SpecPW
  k_fill
  k_extra "h0"
  k_extra "b1.12"
  k_extra "b2.6"
  k_extra "b3.1"
  intro b1 b2 b3 b4 b5
  k_extra "hv"
  k_with "specPW" => exact HSpec.use b3
  k_with "specPW" => (refine' HSpec.use (b4 _ _ ?q344 ?q345); (case q344 => assumption); (case q345 => repeat (first | exact Grown.refl | (refine Grown.app ?_ ?_; rotate_left; assumption) | (refine Grown.cons ?_ ?_; rotate_left; first | assumption | exact fun p hp => Nat.lt_succ_of_lt (by first | exact l1 p hp | (apply_assumption; assumption))))))
  k_with "specPW" => (refine' HSpec.use (b5 _ _ _ _ _ ?q346 ?q347); (case q346 => assumption); (case q347 => repeat (first | exact Grown.refl | (refine Grown.app ?_ ?_; rotate_left; assumption) | (refine Grown.cons ?_ ?_; rotate_left; first | assumption | exact fun p hp => Nat.lt_succ_of_lt (by first | exact l1 p hp | (apply_assumption; assumption))))))
  k_with "openP" => try dsimp only
  k_steps
  all_goals first
    | exact Grown.ret (post := y1_6) hret ‹_› ‹_› ‹_› (by repeat (first | exact Grown.refl | (refine Grown.app ?_ ?_; rotate_left; assumption) | (refine Grown.cons ?_ ?_; rotate_left; first | assumption | exact fun p hp => Nat.lt_succ_of_lt (by first | exact l1 p hp | (apply_assumption; assumption)))))
    | exact Grown.retV hret ‹_› ‹_› (by repeat (first | exact Grown.refl | (refine Grown.app ?_ ?_; rotate_left; assumption) | (refine Grown.cons ?_ ?_; rotate_left; first | assumption | exact fun p hp => Nat.lt_succ_of_lt (by first | exact l1 p hp | (apply_assumption; assumption)))))) fun q hf => ?_
  simpa only using fq hf (@Eq _ 5 5)
-- D1
theorem tn1 {x : Int} (h : 0 ≤ x) : (x + 1).toNat = x.toNat + 1 := by rw [Int.toNat_add h (by decide)]; rfl
theorem tn8 {x E : Int} (h1 : -8 ≤ E) (h2 : E ≤ x) : (x - E).toNat + (E + 8).toNat = (x + 8).toNat := by
  rw [← Int.toNat_add (by lia) (by lia)]; congr 1; lia
theorem tn2 {x y : Int} (hx : -8 ≤ x) (hy : -8 ≤ y) (h : -8 ≤ x + y) : (x + y + 8).toNat + 8 = (x + 8).toNat + (y + 8).toNat := by
  rw [← Int.toNat_add (a := x + 8) (by lia) (by lia), show x + 8 + (y + 8) = x + y + 8 + 8 by lia, Int.toNat_add (a := x + y + 8) (by lia) (by decide)]; rfl
theorem strip_eq : ∀ (k : Nat) (m e : Int), m.natAbs ≤ k → m ≠ 0 → (stripZ m e).1 ≠ 0 ∧ e ≤ (stripZ m e).2 ∧ m = (stripZ m e).1 * 10 ^ ((stripZ m e).2 - e).toNat
  | 0, m, e, hk, h => absurd (by lia) h
  | k + 1, m, e, hk, h => by
    by_cases h1 : m % 10 = 0
    · rw [stripZ_more e h h1]
      obtain ⟨a, b, c⟩ := strip_eq k (m / 10) (e + 1) (d10 hk h h1) (by lia)
      refine ⟨a, by lia, ?_⟩
      have : ((stripZ (m / 10) (e + 1)).2 - e).toNat = ((stripZ (m / 10) (e + 1)).2 - (e + 1)).toNat + 1 := by
        rw [← tn1 (Int.sub_nonneg_of_le b)]; congr 1; lia
      rw [this, Int.pow_succ, ← Int.mul_assoc, ← c]; lia
    · rw [stripZ_done e h h1]
      refine ⟨h, Int.le_refl _, ?_⟩
      simp
def cN (N : Int) : Int × Int := stripZ N (-8)
theorem cN_zero : cN 0 = (0, 0) := stripZ_zero _
theorem cN_facts {N : Int} (h : N ≠ 0) : (cN N).1 ≠ 0 ∧ -8 ≤ (cN N).2 ∧ N = (cN N).1 * 10 ^ ((cN N).2 + 8).toNat := by
  have := strip_eq _ N (-8) (Nat.le_refl _) h
  unfold cN
  exact this
theorem cN_of {M E : Int} (h : -8 ≤ E) : stripZ M E = cN (M * 10 ^ (E + 8).toNat) := by
  by_cases hM : M = 0
  · subst hM; rw [stripZ_zero, Int.zero_mul, cN_zero]
  · unfold cN
    rw [stripZ_pow _ _ hM]
    congr 1; lia
theorem ten_mono {i j : Nat} (h : i ≤ j) : 10 ^ i ≤ 10 ^ j := Nat.pow_le_pow_right (by decide) h
theorem natAbs_ten (M : Int) (k : Nat) : (M * 10 ^ k).natAbs = M.natAbs * 10 ^ k := by
  rw [Int.natAbs_mul, Int.natAbs_pow]; rfl
theorem scale_le {M N : Int} {k j : Nat} (h : M ≠ 0) (e : N = M * 10 ^ k) (hN : N.natAbs < 10 ^ j) : k < j ∧ M.natAbs ≤ N.natAbs ∧ M.natAbs * 10 ^ k < 10 ^ j := by
  rw [e, natAbs_ten] at hN
  have h1 : 1 ≤ M.natAbs := Int.natAbs_pos.mpr h
  have h2 : 10 ^ k ≤ M.natAbs * 10 ^ k := Nat.le_mul_of_pos_left _ h1
  refine ⟨?_, ?_, hN⟩
  · rcases Nat.lt_or_ge k j with q | q
    · exact q
    · exact absurd (Nat.lt_of_le_of_lt (Nat.le_trans (ten_mono q) h2) hN) (Nat.lt_irrefl _)
  · rw [e, natAbs_ten]
    exact Nat.le_mul_of_pos_right _ (Nat.pow_pos (by decide))
theorem digN_le : ∀ (k n : Nat), n < 10 ^ k → digN n ≤ k
  | 0, n, h => by
    have : n = 0 := by simp at h; lia
    subst this; rw [digN_eq]; simp
  | k + 1, n, h => by
    by_cases h0 : n = 0
    · subst h0; rw [digN_eq]; simp
    · rw [digN_pos h0]
      have := digN_le k (n / 10) (by rw [Nat.div_lt_iff_lt_mul (by decide)]; rw [Nat.pow_succ] at h; exact h)
      lia
theorem digs_le {n : Int} {k : Nat} (h : n.natAbs < 10 ^ k) : digs n ≤ k := by
  unfold digs
  have := digN_le k n.natAbs h
  lia
theorem cN_small {a : Int} (ha : a.natAbs < 10 ^ 14) : -8 ≤ (cN a).2 ∧ (cN a).2 ≤ 5 ∧ (cN a).1.natAbs < 10 ^ 14 ∧ (cN a).1 * 10 ^ ((cN a).2 + 8).toNat = a := by
  by_cases h : a = 0
  · subst h; rw [cN_zero]; decide
  · obtain ⟨x, y, z⟩ := cN_facts h
    obtain ⟨p, q, _⟩ := scale_le x z ha
    exact ⟨y, by lia, by lia, z.symm⟩
theorem stripZ_neg : ∀ (k : Nat) (m e : Int), m.natAbs ≤ k → stripZ (-m) e = (-(stripZ m e).1, (stripZ m e).2)
  | 0, m, e, hk => by
    have : m = 0 := by lia
    subst this; rw [Int.neg_zero, stripZ_zero]; rfl
  | k + 1, m, e, hk => by
    by_cases h : m = 0
    · subst h; rw [Int.neg_zero, stripZ_zero]; rfl
    · by_cases h1 : m % 10 = 0
      · rw [stripZ_more e h h1, stripZ_more (m := -m) e (by lia) (by lia), show -m / 10 = -(m / 10) by lia]
        exact stripZ_neg k (m / 10) (e + 1) (d10 hk h h1)
      · rw [stripZ_done e h h1, stripZ_done (m := -m) e (by lia) (by lia)]
theorem cN_neg (a : Int) : cN (-a) = (-(cN a).1, (cN a).2) := stripZ_neg _ a (-8) (Nat.le_refl _)
theorem exA_cN {a b : Int} (ha : a.natAbs < 10 ^ 14) (hb : b.natAbs < 10 ^ 14) :
    -8 ≤ (exA (cN a).1 (cN a).2 (cN b).1 (cN b).2).2 ∧ (exA (cN a).1 (cN a).2 (cN b).1 (cN b).2).2 ≤ 5 ∧
    (exA (cN a).1 (cN a).2 (cN b).1 (cN b).2).1 * 10 ^ ((exA (cN a).1 (cN a).2 (cN b).1 (cN b).2).2 + 8).toNat = a + b ∧ (exA (cN a).1 (cN a).2 (cN b).1 (cN b).2).1.natAbs < 10 ^ 15 := by
  obtain ⟨a1, a2, a3, a4⟩ := cN_small ha
  obtain ⟨b1, b2, b3, b4⟩ := cN_small hb
  revert a1 a2 a3 a4 b1 b2 b3 b4
  generalize (cN a).1 = mx
  generalize (cN a).2 = ex
  generalize (cN b).1 = my
  generalize (cN b).2 = ey
  intro a1 a2 a3 a4 b1 b2 b3 b4
  unfold exA
  by_cases hx : mx = 0
  · rw [if_pos hx]
    subst hx
    refine ⟨b1, b2, ?_, Nat.lt_trans b3 (by decide)⟩
    show my * 10 ^ (ey + 8).toNat = a + b
    rw [b4, ← a4]; lia
  · rw [if_neg hx]
    by_cases hy : my = 0
    · rw [if_pos hy]
      subst hy
      refine ⟨a1, a2, ?_, Nat.lt_trans a3 (by decide)⟩
      show mx * 10 ^ (ex + 8).toNat = a + b
      rw [a4, ← b4]; lia
    · rw [if_neg hy]
      have key : ∀ E : Int, -8 ≤ E → E ≤ ex → E ≤ ey → (mx * 10 ^ (ex - E).toNat + my * 10 ^ (ey - E).toNat) * 10 ^ (E + 8).toNat = a + b := by
        intro E h1 h2 h3
        rw [Int.add_mul, Int.mul_assoc, Int.mul_assoc, ← Int.pow_add, ← Int.pow_add, tn8 h1 h2, tn8 h1 h3, a4, b4]
      have fin : ∀ E : Int, -8 ≤ E → E ≤ ex → E ≤ ey → (mx * 10 ^ (ex - E).toNat + my * 10 ^ (ey - E).toNat).natAbs < 10 ^ 15 := by
        intro E h1 h2 h3
        by_cases h0 : mx * 10 ^ (ex - E).toNat + my * 10 ^ (ey - E).toNat = 0
        · rw [h0]; decide
        · have hab : (a + b).natAbs < 10 ^ 15 := Nat.lt_of_le_of_lt (Int.natAbs_add_le a b) (Nat.lt_trans (Nat.add_lt_add ha hb) (by decide))
          exact Nat.lt_of_le_of_lt (scale_le (j := 15) h0 (key E h1 h2 h3).symm hab).2.1 hab
      by_cases hl : ey < ex
      · simp only [if_pos hl]
        exact ⟨b1, b2, key ey b1 (Int.le_of_lt hl) (Int.le_refl _), fin ey b1 (Int.le_of_lt hl) (Int.le_refl _)⟩
      · simp only [if_neg hl]
        exact ⟨a1, a2, key ex a1 (Int.le_refl _) (Int.not_lt.mp hl), fin ex a1 (Int.le_refl _) (Int.not_lt.mp hl)⟩
theorem exA_val {a b : Int} (ha : a.natAbs < 10 ^ 14) (hb : b.natAbs < 10 ^ 14) : stripZ (exA (cN a).1 (cN a).2 (cN b).1 (cN b).2).1 (exA (cN a).1 (cN a).2 (cN b).1 (cN b).2).2 = cN (a + b) := by
  obtain ⟨h1, _, h3, _⟩ := exA_cN ha hb
  rw [cN_of h1, h3]
theorem mul_cN {a b c : Int} (ha : a.natAbs < 10 ^ 14) (hb : b.natAbs < 10 ^ 14) (hc : c.natAbs < 10 ^ 14) {i j : Nat} {a' b' : Int} (ea : a = a' * 10 ^ i) (eb : b = b' * 10 ^ j) (hij : 8 ≤ i + j) (e : a * b = c * 10 ^ 8) :
    digs ((cN a).1 * (cN b).1) ≤ 15 ∧ -20 ≤ (cN a).2 + (cN b).2 ∧ (cN a).2 + (cN b).2 ≤ 5 ∧ stripZ ((cN a).1 * (cN b).1) ((cN a).2 + (cN b).2) = cN c := by
  by_cases a0 : a = 0
  · have c0 : c = 0 := by subst a0; lia
    obtain ⟨b1, b2, b3, b4⟩ := cN_small hb
    rw [a0, c0, cN_zero]
    refine ⟨?_, by lia, by lia, ?_⟩
    · show digs (0 * _) ≤ 15
      rw [Int.zero_mul, digs_zero]; decide
    · show stripZ (0 * _) _ = _
      rw [Int.zero_mul, stripZ_zero]
  by_cases b0 : b = 0
  · have c0 : c = 0 := by subst b0; lia
    obtain ⟨b1, b2, b3, b4⟩ := cN_small ha
    rw [b0, c0, cN_zero]
    refine ⟨?_, by lia, by lia, ?_⟩
    · show digs (_ * 0) ≤ 15
      rw [Int.mul_zero, digs_zero]; decide
    · show stripZ (_ * 0) _ = _
      rw [Int.mul_zero, stripZ_zero]
  have low : ∀ {x x' : Int} {k : Nat}, x ≠ 0 → x = x' * 10 ^ k → -8 + (k : Int) ≤ (cN x).2 := by
    intro x x' k hx e
    have hx' : x' ≠ 0 := by intro q; apply hx; rw [e, q, Int.zero_mul]
    rw [e]; unfold cN
    rw [stripZ_pow _ _ hx']
    exact (strip_eq _ x' _ (Nat.le_refl _) hx').2.1
  have la := low a0 ea
  have lb := low b0 eb
  obtain ⟨x1, x2, x3⟩ := cN_facts a0
  obtain ⟨y1, y2, y3⟩ := cN_facts b0
  have c0 : c ≠ 0 := by
    intro q; rw [q, Int.zero_mul] at e
    rcases Int.mul_eq_zero.mp e with h | h
    · exact a0 h
    · exact b0 h
  have m0 : (cN a).1 * (cN b).1 ≠ 0 := Int.mul_ne_zero x1 y1
  have hs : -8 ≤ (cN a).2 + (cN b).2 := by lia
  have ec : c = (cN a).1 * (cN b).1 * 10 ^ ((cN a).2 + (cN b).2 + 8).toNat := by
    have e1 : a * b = (cN a).1 * (cN b).1 * 10 ^ ((cN a).2 + (cN b).2 + 8).toNat * 10 ^ 8 := by
      have e0 : a * b = ((cN a).1 * 10 ^ ((cN a).2 + 8).toNat) * ((cN b).1 * 10 ^ ((cN b).2 + 8).toNat) := by rw [← x3, ← y3]
      rw [e0, Int.mul_assoc ((cN a).1 * (cN b).1), ← Int.pow_add, tn2 x2 y2 hs, Int.pow_add]
      simp only [Int.mul_assoc, Int.mul_left_comm]
    rw [e] at e1
    lia
  obtain ⟨p, q, _⟩ := scale_le m0 ec hc
  refine ⟨digs_le (k := 15) (by lia), by lia, by lia, ?_⟩
  rw [cN_of hs, ← ec]
theorem half_cN {a h : Int} (ha : a.natAbs < 10 ^ 10) {a' : Int} (ea : a = a' * 10 ^ 7) (e : a = 2 * h) :
    -1000 < (cN a).1 ∧ (cN a).1 < 1000 ∧ -5 ≤ (cN a).2 ∧ (cN a).2 ≤ 2 ∧ stripZ (5 * (cN a).1) ((cN a).2 - 1) = cN h := by
  by_cases a0 : a = 0
  · have h0 : h = 0 := by lia
    rw [a0, h0, cN_zero]
    refine ⟨by decide, by decide, by decide, by decide, ?_⟩
    show stripZ (5 * 0) _ = _
    rw [Int.mul_zero, stripZ_zero]
  · obtain ⟨x1, x2, x3⟩ := cN_facts a0
    have a'0 : a' ≠ 0 := by intro q; apply a0; rw [ea, q, Int.zero_mul]
    have low : -1 ≤ (cN a).2 := by
      rw [ea]; unfold cN
      rw [stripZ_pow _ _ a'0]
      exact (strip_eq _ a' _ (Nat.le_refl _) a'0).2.1
    obtain ⟨p, q, r⟩ := scale_le x1 x3 ha
    have r2 : (cN a).1.natAbs * 10 ^ 7 < 10 ^ 10 := Nat.lt_of_le_of_lt (Nat.mul_le_mul_left _ (ten_mono (by lia))) r
    refine ⟨by lia, by lia, by lia, by lia, ?_⟩
    rw [cN_of (by lia)]
    congr 1
    have : ((cN a).2 + 8).toNat = ((cN a).2 - 1 + 8).toNat + 1 := by rw [← tn1 (by lia)]; congr 1; lia
    rw [this, Int.pow_succ, ← Int.mul_assoc] at x3
    have x4 : (5 * (cN a).1) * 10 ^ ((cN a).2 - 1 + 8).toNat = 5 * ((cN a).1 * 10 ^ ((cN a).2 - 1 + 8).toNat) := Int.mul_assoc ..
    omega (config := {})
def Dec (led : Led) (v : Value) (N : Int) : Prop := ∃ a u1 u2, v = .ref a ∧ TupIs led a [.int (cN N).1 u1, .int (cN N).2 u2]
theorem Dec.app {led tl : Led} {v : Value} {N : Int} (h : Dec led v N) : Dec (tl ++ led) v N := by
  obtain ⟨a, u1, u2, e, h⟩ := h
  exact ⟨a, u1, u2, e, h.app⟩
theorem Dec.of {led : Led} {v : Value} {N : Int} {p : Int × Int} (e : p = cN N) (h : ∃ a u1 u2, v = .ref a ∧ TupIs led a [.int p.1 u1, .int p.2 u2]) : Dec led v N := by
  subst e; exact h
-- D2
theorem SpecPW.weakG {w : World} {D U D' U' : Nat} {f : Addr} {args : List Value} {led : Led} {post post' : Value → Led → Prop} (C : SpecPW w D U f args led post) (hD : D ≤ D') (hU : U ≤ U') (hp : ∀ v n, Grown led n → post v n → post' v n) : SpecPW w D' U' f args led post' := by
  intro p loose mean mg mb dp un gd cn cs a ccd cl outer A₀ base h₀ L m s Q E B F X N T hk hd hu hret
  exact C _ _ _ _ _ _ _ _ _ _ _ _ _ _ _ _ _ _ _ _ _ _ B F X N T hk (by lia) (by lia) fun v tl h' tk' F' N' hl q => hret v tl h' tk' F' N' hl (hp _ _ ⟨tl, rfl, hl⟩ q)
theorem Dec.sub {led led' : Led} {v : Value} {N : Int} (h : Dec led v N) (g : ∀ p ∈ led, p ∈ led') : Dec led' v N := by
  refine viaP fun PZ kZ => ?_
  obtain ⟨a, u1, u2, e, h⟩ := h
  refine kZ ?_; clear kZ PZ
  exact ⟨a, u1, u2, e, h.imp (g _) id⟩
/-- the limits -/
def LimIs (P : Params) (led : Led) (la : Addr) : Prop := ∃ (ld : Addr) (k1 k2 k3 k4 k5 k6 k7 k8 : Tok), (la, instObj 797 ld) ∈ led ∧ (ld, dictOf [enS P "width" k1 (.int 32 1339), enS P "real_digits" k2 (.int 7 1340), enS P "double_digits" k3 (.int 15 1341), enS P "top_exponent" k4 (.int 38 1342), enS P "steps" k5 (.int 1000000 1343), enS P "continuations" k6 (.int 19 1344), enS P "columns" k7 (.int 72 1345), enS P "depth" k8 (.int 40 1346)] 8) ∈ led
theorem LimIs.sub {P : Params} {led led' : Led} {la : Addr} (h : LimIs P led la) (g : ∀ p ∈ led, p ∈ led') : LimIs P led' la := by
  refine viaP fun PZ kZ => ?_
  revert h; refine im8 ?_; intro ld k1 k2 k3 k4 k5 k6 k7; rintro ⟨k8, hz8⟩; revert hz8; rintro ⟨a, b⟩
  refine kZ ?_; clear kZ PZ
  exact ⟨ld, k1, k2, k3, k4, k5, k6, k7, k8, g _ a, g _ b⟩
theorem rop_add {w : World} {led : Led} {v1 v2 : Value} {a b : Int} {la : Addr} (hl : LimIs w.params led la) (h1 : Dec led v1 a) (h2 : Dec led v2 b) (ha : a.natAbs < 10 ^ 14) (hb : b.natAbs < 10 ^ 14) (t5 t6 : Tok) :
    SpecPW w 5 40 419 [.str (Str.ofString "add") t5, .int 2 t6, v1, v2, .ref la] led (fun v n => Dec n v (a + b)) := by
  refine viaP fun PZ kZ => ?_
  revert hl; refine im8 ?_; intro ld k1 k2 k3 k4 k5 k6 k7; rintro ⟨k8, hz8⟩; revert hz8; rintro ⟨l1, l2⟩
  obtain ⟨a1, u1, u2, rfl, d1⟩ := h1
  obtain ⟨a2, u3, u4, rfl, d2⟩ := h2
  obtain ⟨p1, p2, p3, p4⟩ := cN_small ha
  obtain ⟨q1, q2, q3, q4⟩ := cN_small hb
  obtain ⟨e1, e2, e3, e4⟩ := exA_cN ha hb
  refine kZ ?_; clear kZ PZ
  exact ((c_rb_add _ _ _ _ _ _ _ _ _ _ _ _ _ _ _ _ _ _ _ _ _ t5 t6 led l1 l2 d1 d2 (by lia) (by lia) (by lia) (by lia) (by lia) (by lia) (by lia) (by lia) (digs_le (k := 15) e4) (by lia) e2).w w).weak (Nat.le_refl _) (Nat.le_refl _) fun v n hp => Dec.of (exA_val ha hb) hp
theorem rop_sub {w : World} {led : Led} {v1 v2 : Value} {a b : Int} {la : Addr} (hl : LimIs w.params led la) (h1 : Dec led v1 a) (h2 : Dec led v2 b) (ha : a.natAbs < 10 ^ 14) (hb : b.natAbs < 10 ^ 14) (t5 t6 : Tok) :
    SpecPW w 5 40 419 [.str (Str.ofString "sub") t5, .int 2 t6, v1, v2, .ref la] led (fun v n => Dec n v (a - b)) := by
  refine viaP fun PZ kZ => ?_
  revert hl; refine im8 ?_; intro ld k1 k2 k3 k4 k5 k6 k7; rintro ⟨k8, hz8⟩; revert hz8; rintro ⟨l1, l2⟩
  obtain ⟨a1, u1, u2, rfl, d1⟩ := h1
  obtain ⟨a2, u3, u4, rfl, d2⟩ := h2
  obtain ⟨p1, p2, p3, p4⟩ := cN_small ha
  obtain ⟨q1, q2, q3, q4⟩ := cN_small hb
  refine kZ ?_; clear kZ PZ
  have hb' : (-b).natAbs < 10 ^ 14 := by rw [Int.natAbs_neg]; exact hb
  have e := exA_cN ha hb'
  have ev := exA_val ha hb'
  rw [cN_neg] at e ev
  dsimp only at e ev
  obtain ⟨e1, e2, e3, e4⟩ := e
  rw [← Int.sub_eq_add_neg] at ev
  exact ((c_rb_sub _ _ _ _ _ _ _ _ _ _ _ _ _ _ _ _ _ _ _ _ _ t5 t6 led l1 l2 d1 d2 (by lia) (by lia) (by lia) (by lia) (by lia) (by lia) (by lia) (by lia) (digs_le (k := 15) e4) (by lia) e2).w w).weak (Nat.le_refl _) (Nat.le_refl _) fun v n hp => Dec.of ev hp
theorem rop_mul {w : World} {led : Led} {v1 v2 : Value} {a b c : Int} {la : Addr} (hl : LimIs w.params led la) (h1 : Dec led v1 a) (h2 : Dec led v2 b) (ha : a.natAbs < 10 ^ 14) (hb : b.natAbs < 10 ^ 14) (hc : c.natAbs < 10 ^ 14)
    {i j : Nat} {a' b' : Int} (ea : a = a' * 10 ^ i) (eb : b = b' * 10 ^ j) (hij : 8 ≤ i + j) (e : a * b = c * 10 ^ 8) (t5 t6 : Tok) :
    SpecPW w 5 40 419 [.str (Str.ofString "mul") t5, .int 2 t6, v1, v2, .ref la] led (fun v n => Dec n v c) := by
  refine viaP fun PZ kZ => ?_
  revert hl; refine im8 ?_; intro ld k1 k2 k3 k4 k5 k6 k7; rintro ⟨k8, hz8⟩; revert hz8; rintro ⟨l1, l2⟩
  obtain ⟨a1, u1, u2, rfl, d1⟩ := h1
  obtain ⟨a2, u3, u4, rfl, d2⟩ := h2
  obtain ⟨p1, p2, p3, p4⟩ := cN_small ha
  obtain ⟨q1, q2, q3, q4⟩ := cN_small hb
  obtain ⟨e1, e2, e3, e4⟩ := mul_cN ha hb hc ea eb hij e
  refine kZ ?_; clear kZ PZ
  exact ((c_rb_mul _ _ _ _ _ _ _ _ _ _ _ _ _ _ _ _ _ _ _ _ _ t5 t6 led l1 l2 d1 d2 (by lia) (by lia) (by lia) (by lia) (by lia) (by lia) (by lia) (by lia) e1 e2 e3).w w).weak (Nat.le_refl _) (Nat.le_refl _) fun v n hp => Dec.of e4 hp
theorem cN_two : cN 200000000 = (2, 0) := by
  have h := cN_of (M := 2) (E := 0) (by decide)
  rw [stripZ_done 0 (by decide) (by decide)] at h
  exact h.symm
theorem rop_div {w : World} {led : Led} {v1 v2 : Value} {a h : Int} {la : Addr} (hl : LimIs w.params led la) (h1 : Dec led v1 a) (h2 : Dec led v2 200000000) (ha : a.natAbs < 10 ^ 10) {a' : Int} (ea : a = a' * 10 ^ 7) (e : a = 2 * h) (t5 t6 : Tok) :
    SpecPW w 5 40 419 [.str (Str.ofString "div") t5, .int 2 t6, v1, v2, .ref la] led (fun v n => Dec n v h) := by
  refine viaP fun PZ kZ => ?_
  revert hl; refine im8 ?_; intro ld k1 k2 k3 k4 k5 k6 k7; rintro ⟨k8, hz8⟩; revert hz8; rintro ⟨l1, l2⟩
  obtain ⟨a1, u1, u2, rfl, d1⟩ := h1
  obtain ⟨a2, u3, u4, rfl, d2⟩ := h2
  refine kZ ?_; clear kZ PZ
  rw [cN_two] at d2
  refine viaP fun PZ kZ => ?_
  obtain ⟨e1, e2, e3, e4, e5⟩ := half_cN ha ea e
  refine kZ ?_; clear kZ PZ
  exact ((c_rb_div _ _ _ _ _ _ _ _ _ _ _ _ _ _ _ _ _ _ _ t5 t6 led l1 l2 d1 d2 e1 e2 e3 e4).w w).weak (Nat.le_refl _) (Nat.le_refl _) fun v n hp => Dec.of e5 hp
/-- the twelve real names -/
noncomputable def nmAt (i : Nat) : Str := (["D", "E", "F", "G", "A", "B", "H", "X", "S", "V", "T", "R"].map Str.ofString).getD i (Str.ofString "")
structure Ctx where
  (ru rd md ce : Addr) (r : RV)
structure EnvIs (w : World) (c : Ctx) (led : Led) : Prop where
  run : (c.ru, instObj 450 c.rd) ∈ led
  fr : ∃ fo fv, (c.r.fr, fo) ∈ led ∧ (c.r.fr == sysModules) = false ∧ fo.IsDictOf (strKind WP w) fv ∧
    (∀ i, i < 12 → ∃ pa t6 t7 z1 z2, valueAt fv (nmAt i) = some (.ref pa) ∧ (pa, tp [.int 2 t6, .int (2 * (i : Nat)) t7, z1, z2]) ∈ led) ∧
    (∃ pa t6 t7 z1 z2, valueAt fv (Str.ofString "K") = some (.ref pa) ∧ (pa, tp [.int 0 t6, .int 24 t7, z1, z2]) ∈ led)
  me : ∃ q1 q2 ch, (c.r.me, instObj 141 c.md) ∈ led ∧ (c.md, dictOf [enS w.params "numeric" q1 (.ref c.ce), enS w.params "characters" q2 ch] 2) ∈ led
  op : ∃ oo ov, (c.r.op, oo) ∈ led ∧ (c.r.op == sysModules) = false ∧ oo.IsDictOf (intKind WP w) ov ∧ valueAt ov 0 = some (.ref 292) ∧ valueAt ov 2 = some (.ref 419)
  ex : ∃ eo ev, (c.r.ex, eo) ∈ led ∧ (c.r.ex == sysModules) = false ∧ eo.IsDictOf (strKind WP w) ev ∧
    valueAt ev (Str.ofString "const") = some (.ref 494) ∧ valueAt ev (Str.ofString "var") = some (.ref 501) ∧ valueAt ev (Str.ofString "add") = some (.ref 515) ∧ valueAt ev (Str.ofString "sub") = some (.ref 515) ∧
    valueAt ev (Str.ofString "mul") = some (.ref 515) ∧ valueAt ev (Str.ofString "div") = some (.ref 515) ∧ valueAt ev (Str.ofString "eq") = some (.ref 522)
  la : LimIs w.params led c.r.la
theorem EnvIs.sub {w : World} {c : Ctx} {led led' : Led} (h : EnvIs w c led) (g : ∀ p ∈ led, p ∈ led') : EnvIs w c led' := by
  refine viaP fun PZ kZ => ?_
  obtain ⟨run, ⟨fo, fv, f1, f2, f3, f4, f5⟩, ⟨q1, q2, ch, m1, m2⟩, ⟨oo, ov, o1, o2⟩, ⟨eo, ev, e1, e2⟩, la⟩ := h
  refine kZ ?_; clear kZ PZ
  refine ⟨g _ run, ⟨fo, fv, g _ f1, f2, f3, fun i hi => ?_, ?_⟩, ⟨q1, q2, ch, g _ m1, g _ m2⟩, ⟨oo, ov, g _ o1, o2⟩, ⟨eo, ev, g _ e1, e2⟩, la.sub g⟩
  · obtain ⟨pa, t6, t7, z1, z2, a, b⟩ := f4 i hi
    exact ⟨pa, t6, t7, z1, z2, a, g _ b⟩
  · obtain ⟨pa, t6, t7, z1, z2, a, b⟩ := f5
    exact ⟨pa, t6, t7, z1, z2, a, g _ b⟩
structure St where
  (v : Nat → Option Int) (k : Option Int)
/-- what the memory's cells hold -/
structure MemIs (vs : List Value) (σ : St) (led : Led) : Prop where
  len : vs.length = 25
  v : ∀ i N, σ.v i = some N → ∃ c1 c2 t8 t9 x, vs[2 * i]? = some (.ref c1) ∧ vs[2 * i + 1]? = some (.ref c2) ∧ (c1, tp [.int 2 t8, x]) ∈ led ∧ (c2, tp [.int 6 t9, x]) ∈ led ∧ Dec led x N
  k : ∀ n, σ.k = some n → ∃ c1 t8 t9, vs[24]? = some (.ref c1) ∧ (c1, tp [.int 0 t8, .int n t9]) ∈ led
theorem MemIs.sub {vs : List Value} {σ : St} {led led' : Led} (h : MemIs vs σ led) (g : ∀ p ∈ led, p ∈ led') : MemIs vs σ led' := by
  refine ⟨h.len, fun i N hi => ?_, fun n hn => ?_⟩
  · obtain ⟨c1, c2, t8, t9, x, a, b, d, e, f⟩ := h.v i N hi
    exact ⟨c1, c2, t8, t9, x, a, b, g _ d, g _ e, f.sub g⟩
  · obtain ⟨c1, t8, t9, a, b⟩ := h.k n hn
    exact ⟨c1, t8, t9, a, g _ b⟩
structure Now (w : World) (c : Ctx) (ns : Int) (ts : Tok) (vs : List Value) (nn : Nat) (σ : St) (led : Led) : Prop where
  env : EnvIs w c led
  rd : (c.rd, runD w.params c.r ns ts) ∈ led
  ce : (c.ce, listOf vs.toArray nn) ∈ led
  mem : MemIs vs σ led
theorem Now.sub {w : World} {c : Ctx} {ns : Int} {ts : Tok} {vs : List Value} {nn : Nat} {σ : St} {led led' : Led} (h : Now w c ns ts vs nn σ led) (g : ∀ p ∈ led, p ∈ led') : Now w c ns ts vs nn σ led' :=
  ⟨h.env.sub g, g _ h.rd, g _ h.ce, h.mem.sub g⟩
inductive Op | add | sub | mul | div
noncomputable def Op.word : Op → Str | .add => Str.ofString "add" | .sub => Str.ofString "sub" | .mul => Str.ofString "mul" | .div => Str.ofString "div"
inductive TR | num (N : Int) | var (i : Nat) | bin (o : Op) (l r : TR)
noncomputable def TR.ht : TR → Nat | .num _ => 0 | .var _ => 0 | .bin _ l r => max l.ht r.ht + 1
noncomputable def TR.val (σ : St) : TR → Int
  | .num N => N
  | .var i => (σ.v i).getD 0
  | .bin .add l r => l.val σ + r.val σ
  | .bin .sub l r => l.val σ - r.val σ
  | .bin .mul l r => l.val σ * r.val σ / 10 ^ 8
  | .bin .div l _ => l.val σ / 2
/-- the tree stands in the ledger -/
def TR.Rep (led : Led) : TR → Addr → Prop
  | .num N, tr => ∃ t1 t2 x, (tr, tp [.str (Str.ofString "const") t1, .int 2 t2, x]) ∈ led ∧ Dec led x N
  | .var i, tr => i < 12 ∧ ∃ t1 t2 t3, (tr, tp [.str (Str.ofString "var") t1, .int 2 t2, .str (nmAt i) t3]) ∈ led
  | .bin o l r, tr => ∃ t1 t2 a b, (tr, tp [.str o.word t1, .int 2 t2, .ref a, .ref b]) ∈ led ∧ l.Rep led a ∧ r.Rep led b
theorem TR.Rep.sub {led led' : Led} (g : ∀ p ∈ led, p ∈ led') : ∀ {T : TR} {tr : Addr}, T.Rep led tr → T.Rep led' tr := by
  intro T
  induction T with
  | num N => exact fun h => h.imp fun _ h => h.imp fun _ h => h.imp fun _ h => ⟨g _ h.1, h.2.sub g⟩
  | var i => exact fun h => ⟨h.1, h.2.imp fun _ h => h.imp fun _ h => h.imp fun _ h => g _ h⟩
  | bin o l r hl hr => exact fun h => h.imp fun _ h => h.imp fun _ h => h.imp fun _ h => h.imp fun _ h => ⟨g _ h.1, hl h.2.1, hr h.2.2⟩
def OkOp : Op → Int → Int → Prop
  | .add, a, b => a.natAbs < 10 ^ 14 ∧ b.natAbs < 10 ^ 14
  | .sub, a, b => a.natAbs < 10 ^ 14 ∧ b.natAbs < 10 ^ 14
  | .mul, a, b => a.natAbs < 10 ^ 14 ∧ b.natAbs < 10 ^ 14 ∧ ∃ (i j : Nat) (a' b' c : Int), a = a' * 10 ^ i ∧ b = b' * 10 ^ j ∧ 8 ≤ i + j ∧ a * b = c * 10 ^ 8 ∧ c.natAbs < 10 ^ 14
  | .div, a, b => b = 200000000 ∧ a.natAbs < 10 ^ 10 ∧ ∃ a' h : Int, a = a' * 10 ^ 7 ∧ a = 2 * h
def TR.Ok (σ : St) : TR → Prop
  | .num _ => True
  | .var i => ∃ N, σ.v i = some N
  | .bin o l r => l.Ok σ ∧ r.Ok σ ∧ OkOp o (l.val σ) (r.val σ)
noncomputable def valOp : Op → Int → Int → Int
  | .add, a, b => a + b
  | .sub, a, b => a - b
  | .mul, a, b => a * b / 10 ^ 8
  | .div, a, _ => a / 2
theorem TR.val_bin {σ : St} {o : Op} {l r : TR} : (TR.bin o l r).val σ = valOp o (l.val σ) (r.val σ) := by cases o <;> rfl
theorem rop_any {w : World} {led : Led} {v1 v2 : Value} {a b : Int} {la : Addr} {o : Op} (hl : LimIs w.params led la) (h1 : Dec led v1 a) (h2 : Dec led v2 b) (ho : OkOp o a b) (t5 t6 : Tok) :
    SpecPW w 5 40 419 [.str o.word t5, .int 2 t6, v1, v2, .ref la] led (fun v n => Dec n v (valOp o a b)) := by
  cases o with
  | add => exact rop_add hl h1 h2 ho.1 ho.2 t5 t6
  | sub => exact rop_sub hl h1 h2 ho.1 ho.2 t5 t6
  | mul =>
    refine viaP fun PZ kZ => ?_
    obtain ⟨ha, hb, i, j, a', b', c, ea, eb, hij, e, hc⟩ := ho
    refine kZ ?_; clear kZ PZ
    have : valOp .mul a b = c := by show a * b / 10 ^ 8 = c; lia
    rw [this]
    exact rop_mul hl h1 h2 ha hb hc ea eb hij e t5 t6
  | div =>
    refine viaP fun PZ kZ => ?_
    obtain ⟨rfl, ha, a', h, ea, e⟩ := ho
    refine kZ ?_; clear kZ PZ
    have : valOp .div a 200000000 = h := by show a / 2 = h; lia
    rw [this]
    exact rop_div hl h1 h2 ha ea e t5 t6
theorem neSt : Nonempty St := ⟨⟨fun _ => none, none⟩⟩
-- D3
theorem ev_real {w : World} {c : Ctx} {ns : Int} {ts : Tok} {vs : List Value} {nn : Nat} {σ : St} : ∀ (T : TR) (tr : Addr) (led : Led), Now w c ns ts vs nn σ led → T.Rep led tr → T.Ok σ →
    SpecPW w (6 + 2 * T.ht) (56 + 16 * T.ht) 461 [.ref c.ru, .ref tr] led (fun v n => Dec n v (T.val σ)) := by
  intro T
  induction T with
  | num N =>
    intro tr led hn hr ho
    refine viaP fun PZ kZ => ?_
    obtain ⟨t1, t2, x, h1, h2⟩ := hr
    obtain ⟨eo, ev, e1, e2, e3, k1, -⟩ := hn.env.ex
    refine kZ ?_; clear kZ PZ
    haveI C := c_evaluate3 w 1 8 (fun v _ => v = x) c.ru c.rd c.r ns ts eo ev (Str.ofString "const") 494 tr t1 (.int 2 t2) x led hn.env.run hn.rd e1 e2 e3 k1 rfl h1 (c_const w c.ru tr _ _ x led h1)
    refine C.weakG (by omega) (by omega) fun v n g hv => ?_
    rw [show v = x from hv]
    exact h2.sub g.sub
  | var i =>
    intro tr led hn hr ho
    refine viaP fun PZ kZ => ?_
    obtain ⟨hi, t1, t2, t3, h1⟩ := hr
    obtain ⟨N, hN⟩ := ho
    obtain ⟨eo, ev, e1, e2, e3, -, k1, -⟩ := hn.env.ex
    obtain ⟨fo, fv, f1, f2, f3, f4, -⟩ := hn.env.fr
    obtain ⟨pa, t6, t7, z1, z2, p1, p2⟩ := f4 i hi
    obtain ⟨q1, q2, ch, m1, m2⟩ := hn.env.me
    obtain ⟨c1, c2, t8, t9, x, x1, x2, x3, x4, x5⟩ := hn.mem.v i N hN
    refine kZ ?_; clear kZ PZ
    haveI C0 := c_eplace2 w c.ru c.rd c.r ns ts fo fv c.ce vs nn c.md q1 q2 ch (nmAt i) pa tr 2 t1 t2 t3 (2 * (i : Nat)) c1 c2 t6 t7 t8 t9 z1 z2 x x led hn.env.run hn.rd f1 f2 f3 hn.ce hn.mem.len m1 m2 p1 p2 h1 (by omega) (by omega) (by rw [show (2 * ((i : Nat) : Int)).toNat = 2 * i by omega]; exact x1) (by rw [show (2 * ((i : Nat) : Int) + 1).toNat = 2 * i + 1 by omega]; exact x2) x3 x4
    haveI C := c_evaluate3 w 4 48 (fun v _ => v = x) c.ru c.rd c.r ns ts eo ev (Str.ofString "var") 501 tr t1 (.int 2 t2) (.str (nmAt i) t3) led hn.env.run hn.rd e1 e2 e3 k1 rfl h1 C0
    refine C.weakG (by omega) (by omega) fun v n g hv => ?_
    rw [show v = x from hv, show (TR.var i).val σ = N from by show (σ.v i).getD 0 = N; rw [hN]; rfl]
    exact x5.sub g.sub
  | bin o l r ihl ihr =>
    intro tr led hn hr ho
    refine viaP fun PZ kZ => ?_
    obtain ⟨t1, t2, a, b, h1, hl, hr⟩ := hr
    obtain ⟨ol, or, oo⟩ := ho
    obtain ⟨eo, ev, e1, e2, e3, -, -, k1, k2, k3, k4, -⟩ := hn.env.ex
    refine kZ ?_; clear kZ PZ
    have kw : valueAt ev o.word = some (.ref 515) := by cases o <;> assumption
    haveI C0 := c_ebin w (6 + 2 * max l.ht r.ht) (56 + 16 * max l.ht r.ht) (fun v n => Dec n v (l.val σ)) (fun v1 v2 n => Dec n v1 (l.val σ) ∧ Dec n v2 (r.val σ)) (fun v n => Dec n v ((TR.bin o l r).val σ)) c.ru tr a b o.word 2 t1 t2 led h1
      ((ihl a led hn hl ol).weak (by omega) (by omega) fun _ _ h => h)
      (fun v1 n1 d1 g1 => (ihr b n1 (hn.sub g1.sub) (hr.sub g1.sub) or).weakG (by omega) (by omega) fun v n g h => ⟨d1.sub g.sub, h⟩)
      (fun v1 v2 n2 t3 t4 d g => by
        have hn2 := hn.sub g.sub
        refine viaP fun PZ kZ => ?_
        obtain ⟨oo', ov, o1, o2, o3, -, o5⟩ := hn2.env.op
        refine kZ ?_; clear kZ PZ
        rw [TR.val_bin]
        exact (c_reckon w 5 40 (fun v n => Dec n v (valOp o (l.val σ) (r.val σ))) c.ru c.rd c.r ns ts oo' ov o.word 2 419 t3 t4 v1 v2 n2 hn2.env.run hn2.rd o1 o2 o3 o5 rfl (fun t3 t4 => rop_any hn2.env.la d.1 d.2 oo t3 t4)).weak (by omega) (by omega) fun _ _ h => h)
    haveI C := c_evaluate4 w _ _ _ c.ru c.rd c.r ns ts eo ev o.word 515 tr t1 (.int 2 t2) (.ref a) (.ref b) led hn.env.run hn.rd e1 e2 e3 kw rfl h1 C0
    exact C.weak (by show _ ≤ 6 + 2 * (max l.ht r.ht + 1); omega) (by show _ ≤ 56 + 16 * (max l.ht r.ht + 1); omega) fun _ _ h => h
-- D4
theorem ev_int {w : World} {c : Ctx} {ns : Int} {ts : Tok} {vs : List Value} {nn : Nat} {σ : St} {tr : Addr} {led : Led} {n : Int} {t t1 t2 : Tok} (hn : Now w c ns ts vs nn σ led) (h1 : (tr, tp [.str (Str.ofString "const") t1, .int 0 t2, .int n t]) ∈ led) :
    SpecPW w 2 16 461 [.ref c.ru, .ref tr] led (fun v _ => v = .int n t) := by
  refine viaP fun PZ kZ => ?_
  obtain ⟨eo, ev, e1, e2, e3, k1, -⟩ := hn.env.ex
  refine kZ ?_; clear kZ PZ
  exact c_evaluate3 w 1 8 (fun v _ => v = .int n t) c.ru c.rd c.r ns ts eo ev (Str.ofString "const") 494 tr t1 (.int 0 t2) (.int n t) led hn.env.run hn.rd e1 e2 e3 k1 rfl h1 (c_const w c.ru tr _ _ _ led h1)
theorem ev_kvar {w : World} {c : Ctx} {ns : Int} {ts : Tok} {vs : List Value} {nn : Nat} {σ : St} {tr : Addr} {led : Led} {n : Int} {t1 t2 t3 : Tok} (hn : Now w c ns ts vs nn σ led) (hk : σ.k = some n) (h1 : (tr, tp [.str (Str.ofString "var") t1, .int 0 t2, .str (Str.ofString "K") t3]) ∈ led) :
    SpecPW w 5 56 461 [.ref c.ru, .ref tr] led (fun v _ => ∃ t, v = .int n t) := by
  refine viaP fun PZ kZ => ?_
  obtain ⟨eo, ev, e1, e2, e3, -, k1, -⟩ := hn.env.ex
  obtain ⟨fo, fv, f1, f2, f3, -, f4⟩ := hn.env.fr
  obtain ⟨pa, t6, t7, z1, z2, p1, p2⟩ := f4
  obtain ⟨q1, q2, ch, m1, m2⟩ := hn.env.me
  obtain ⟨c1, t8, t9, x1, x2⟩ := hn.mem.k n hk
  refine kZ ?_; clear kZ PZ
  haveI C0 := c_eplace0 w c.ru c.rd c.r ns ts fo fv c.ce vs nn c.md q1 q2 ch (Str.ofString "K") pa tr 0 t1 t2 t3 24 c1 t6 t7 t8 z1 z2 (.int n t9) led hn.env.run hn.rd f1 f2 f3 hn.ce hn.mem.len m1 m2 p1 p2 h1 (by omega) (by omega) x1 x2
  haveI C := c_evaluate3 w 4 48 (fun v _ => v = .int n t9) c.ru c.rd c.r ns ts eo ev (Str.ofString "var") 501 tr t1 (.int 0 t2) (.str (Str.ofString "K") t3) led hn.env.run hn.rd e1 e2 e3 k1 rfl h1 C0
  exact C.weak (leN rfl) (leN rfl) fun v n h => ⟨_, h⟩
theorem ev_keq {w : World} {c : Ctx} {ns : Int} {ts : Tok} {vs : List Value} {nn : Nat} {σ : St} {tr a b : Addr} {led : Led} {n m : Int} {t1 t2 t3 t4 t5 t6 t7 t8 : Tok} (hn : Now w c ns ts vs nn σ led) (hk : σ.k = some n)
    (h1 : (tr, tp [.str (Str.ofString "eq") t1, .int 4 t2, .ref a, .ref b]) ∈ led) (h2 : (a, tp [.str (Str.ofString "var") t3, .int 0 t4, .str (Str.ofString "K") t5]) ∈ led) (h3 : (b, tp [.str (Str.ofString "const") t6, .int 0 t7, .int m t8]) ∈ led) :
    SpecPW w 7 72 461 [.ref c.ru, .ref tr] led (fun v _ => v = .bool (decide (n = m))) := by
  refine viaP fun PZ kZ => ?_
  obtain ⟨eo, ev, e1, e2, e3, -, -, -, -, -, -, k1⟩ := hn.env.ex
  refine kZ ?_; clear kZ PZ
  haveI C0 := c_ecmp w 5 56 (fun v _ => ∃ t, v = .int n t) (fun v1 v2 _ => (∃ t, v1 = .int n t) ∧ v2 = .int m t8) (fun v _ => v = .bool (decide (n = m))) c.ru tr a b (Str.ofString "eq") 4 t1 t2 (.str (Str.ofString "var") t3) (.str (Str.ofString "K") t5) 0 t4 led h1 h2
    (ev_kvar hn hk h2)
    (fun v1 n1 d1 g1 => (ev_int (hn.sub g1.sub) (g1.sub _ h3)).weak (leN rfl) (leN rfl) fun v n h => ⟨d1, h⟩)
    (fun v1 v2 n2 t3 t4 d g => by
      refine viaP fun PZ kZ => ?_
      obtain ⟨⟨t, rfl⟩, rfl⟩ := d
      have hn2 := hn.sub g.sub
      obtain ⟨oo', ov, o1, o2, o3, o4, -⟩ := hn2.env.op
      have hz8 := hn2.env.la; revert hz8; refine im8 ?_; intro ld k1 k2 k3 k4 k5 k6 k7; rintro ⟨k8, hz8⟩; revert hz8; rintro ⟨l1, l2⟩
      refine kZ ?_; clear kZ PZ
      exact (c_reckon w 3 24 (fun v _ => v = .bool (decide (n = m))) c.ru c.rd c.r ns ts oo' ov (Str.ofString "eq") 0 292 t3 t4 _ _ n2 hn2.env.run hn2.rd o1 o2 o3 o4 rfl (fun t3 t4 => (c_ib_eq n m _ _ _ _ k1 k2 k3 k4 k5 k6 k7 k8 _ t3 t4 n2 l1 l2).w w)).weak (leN rfl) (leN rfl) fun _ _ h => h)
  exact c_evaluate4 w _ _ _ c.ru c.rd c.r ns ts eo ev (Str.ofString "eq") 522 tr t1 (.int 4 t2) (.ref a) (.ref b) led hn.env.run hn.rd e1 e2 e3 k1 rfl h1 C0
theorem rop_int {w : World} {led : Led} {x y z : Int} {la : Addr} {wd : Str} (hl : LimIs w.params led la) (t1 t2 t5 t6 : Tok)
    (h : (wd = Str.ofString "add" ∧ z = x + y) ∨ (wd = Str.ofString "sub" ∧ z = x - y) ∨ (wd = Str.ofString "div" ∧ y = 1 ∧ 0 ≤ x ∧ z = x)) (hz : -2147483648 ≤ z) (hz2 : z < 2147483648) :
    SpecPW w 3 24 292 [.str wd t5, .int 0 t6, .int x t1, .int y t2, .ref la] led (fun v _ => ∃ t, v = .int z t) := by
  refine viaP fun PZ kZ => ?_
  revert hl; refine im8 ?_; intro ld k1 k2 k3 k4 k5 k6 k7; rintro ⟨k8, hz8⟩; revert hz8; rintro ⟨l1, l2⟩
  refine kZ ?_; clear kZ PZ
  rcases h with ⟨rfl, rfl⟩ | ⟨rfl, rfl⟩ | ⟨rfl, rfl, h0, rfl⟩
  · exact (c_ib_add x y t1 t2 _ _ k1 k2 k3 k4 k5 k6 k7 k8 _ t5 t6 led l1 l2 hz hz2).w w
  · exact (c_ib_sub x y t1 t2 _ _ k1 k2 k3 k4 k5 k6 k7 k8 _ t5 t6 led l1 l2 hz hz2).w w
  · exact (c_ib_div z t1 t2 _ _ k1 k2 k3 k4 k5 k6 k7 k8 _ t5 t6 led l1 l2 h0 hz2).w w
-- E1
structure Ev (σ : St) (T : TR) (N : Int) : Prop where
  ok : T.Ok σ
  val : T.val σ = N
theorem Ev.var {σ : St} {i : Nat} {N : Int} (h : σ.v i = some N) : Ev σ (.var i) N := ⟨⟨N, h⟩, by show (σ.v i).getD 0 = N; rw [h]; rfl⟩
theorem Ev.num {σ : St} (N : Int) : Ev σ (.num N) N := ⟨trivial, rfl⟩
theorem Ev.add {σ : St} {l r : TR} {a b : Int} (h1 : Ev σ l a) (h2 : Ev σ r b) (b1 : a.natAbs < 10 ^ 14) (b2 : b.natAbs < 10 ^ 14) : Ev σ (.bin .add l r) (a + b) :=
  ⟨⟨h1.ok, h2.ok, by rw [h1.val, h2.val]; exact ⟨b1, b2⟩⟩, by show l.val σ + r.val σ = _; rw [h1.val, h2.val]⟩
theorem Ev.sub {σ : St} {l r : TR} {a b : Int} (h1 : Ev σ l a) (h2 : Ev σ r b) (b1 : a.natAbs < 10 ^ 14) (b2 : b.natAbs < 10 ^ 14) : Ev σ (.bin .sub l r) (a - b) :=
  ⟨⟨h1.ok, h2.ok, by rw [h1.val, h2.val]; exact ⟨b1, b2⟩⟩, by show l.val σ - r.val σ = _; rw [h1.val, h2.val]⟩
theorem Ev.mul {σ : St} {l r : TR} {a b a' b' c : Int} (i j : Nat) (h1 : Ev σ l a) (h2 : Ev σ r b) (ea : a = a' * 10 ^ i) (eb : b = b' * 10 ^ j) (hij : 8 ≤ i + j) (e : a * b = c * 10 ^ 8) (b1 : a.natAbs < 10 ^ 14) (b2 : b.natAbs < 10 ^ 14) (b3 : c.natAbs < 10 ^ 14) : Ev σ (.bin .mul l r) c :=
  ⟨⟨h1.ok, h2.ok, by rw [h1.val, h2.val]; exact ⟨b1, b2, i, j, a', b', c, ea, eb, hij, e, b3⟩⟩, by show l.val σ * r.val σ / 10 ^ 8 = _; rw [h1.val, h2.val, e]; lia⟩
theorem Ev.half {σ : St} {l : TR} {a a' h : Int} (h1 : Ev σ l a) (ea : a = a' * 10 ^ 7) (e : a = 2 * h) (b1 : a.natAbs < 10 ^ 10) : Ev σ (.bin .div l (.num 200000000)) h :=
  ⟨⟨h1.ok, trivial, by rw [h1.val]; exact ⟨rfl, b1, a', h, ea, e⟩⟩, by show l.val σ / 2 = _; rw [h1.val, e]; lia⟩
theorem Ev.to {σ : St} {T : TR} {N M : Int} (h : Ev σ T N) (e : N = M) : Ev σ T M := e ▸ h
theorem mb {x y : Int} {m n : Nat} (hx : x.natAbs ≤ m) (hy : y.natAbs ≤ n) : (x * y).natAbs ≤ m * n := by
  rw [Int.natAbs_mul]; exact Nat.mul_le_mul hx hy
theorem nbA {a b : Int} {A B C : Nat} (ha : a.natAbs ≤ A) (hb : b.natAbs ≤ B) (h : A + B ≤ C) : (a + b).natAbs ≤ C := Nat.le_trans (Int.natAbs_add_le a b) (Nat.le_trans (Nat.add_le_add ha hb) h)
theorem nbS {a b : Int} {A B C : Nat} (ha : a.natAbs ≤ A) (hb : b.natAbs ≤ B) (h : A + B ≤ C) : (a - b).natAbs ≤ C := by
  rw [Int.sub_eq_add_neg]; exact nbA ha (by rw [Int.natAbs_neg]; exact hb) h
theorem nbC (c : Int) {a : Int} {A : Nat} (C : Nat) (ha : a.natAbs ≤ A) (h : c.natAbs * A ≤ C) : (c * a).natAbs ≤ C := Nat.le_trans (mb (Nat.le_refl _) ha) h
noncomputable abbrev tH : TR := .bin .div (.bin .sub (.var 5) (.var 4)) (.num 200000000)
noncomputable abbrev tHo (t : TR) (p : TR) : TR := .bin .add (.bin .mul t (.var 7)) p
noncomputable abbrev tV : TR := tHo (tHo (tHo (.var 0) (.var 1)) (.var 2)) (.var 3)
noncomputable abbrev tV4 : TR := .bin .mul (.num 400000000) (.var 9)
noncomputable abbrev tSV : TR := .bin .add (.var 8) (.var 9)
noncomputable abbrev tXH : TR := .bin .add (.var 7) (.var 6)
noncomputable abbrev tT : TR := .bin .mul (.bin .mul (.var 8) (.var 6)) (.num 400000000)
noncomputable abbrev tCo (n : Int) (i : Nat) : TR := .bin .mul (.num (n * 10 ^ 8)) (.var i)
noncomputable abbrev tR : TR := .bin .sub (.bin .mul (tHo (tHo (tHo (tCo 3 0) (tCo 4 1)) (tCo 6 2)) (tCo 12 3)) (.var 7)) (.var 11)
/-- the script's numbers -/
structure In where
  (d e f g a b : Int)
structure In.Ok (z : In) : Prop where
  d : z.d.natAbs ≤ 9
  e : z.e.natAbs ≤ 9
  f : z.f.natAbs ≤ 9
  g : z.g.natAbs ≤ 9
  a : z.a.natAbs ≤ 20
  b : z.b.natAbs ≤ 20
/-- the cubic at x twentieths, in eight-thousandths -/
noncomputable def In.P (z : In) (x : Int) : Int := ((z.d * x + 20 * z.e) * x + 400 * z.f) * x + 8000 * z.g
/-- twelve times its integral, at t tenths, in ten-thousandths -/
noncomputable def In.G (z : In) (t : Int) : Int := (((3 * z.d * t + 40 * z.e) * t + 600 * z.f) * t + 12000 * z.g) * t
structure In.At (z : In) (σ : St) : Prop where
  d : σ.v 0 = some (z.d * 10 ^ 8)
  e : σ.v 1 = some (z.e * 10 ^ 8)
  f : σ.v 2 = some (z.f * 10 ^ 8)
  g : σ.v 3 = some (z.g * 10 ^ 8)
  a : σ.v 4 = some (z.a * 10 ^ 7)
  b : σ.v 5 = some (z.b * 10 ^ 7)
theorem In.P_bound {z : In} (o : z.Ok) {x : Int} (hx : x.natAbs ≤ 40) : (z.d * x).natAbs ≤ 360 ∧ ((z.d * x + 20 * z.e) * x).natAbs ≤ 21600 ∧ (((z.d * x + 20 * z.e) * x + 400 * z.f) * x).natAbs ≤ 1008000 ∧ (z.P x).natAbs ≤ 1080000 := by
  obtain ⟨od, oe, of_, og, _, _⟩ := o
  have h1 := mb od hx
  have h2 := mb (x := z.d * x + 20 * z.e) (m := 540) (nbA h1 (nbC 20 180 oe (by decide)) (by decide)) hx
  have h3 := mb (x := (z.d * x + 20 * z.e) * x + 400 * z.f) (m := 25200) (nbA h2 (nbC 400 3600 of_ (by decide)) (by decide)) hx
  exact ⟨h1, h2, h3, nbA h3 (nbC 8000 72000 og (by decide)) (by decide)⟩
theorem In.G_bound {z : In} (o : z.Ok) {t : Int} (ht : t.natAbs ≤ 20) : (3 * z.d * t).natAbs ≤ 540 ∧ ((3 * z.d * t + 40 * z.e) * t).natAbs ≤ 18000 ∧ (((3 * z.d * t + 40 * z.e) * t + 600 * z.f) * t).natAbs ≤ 468000 ∧ (z.G t).natAbs ≤ 11520000 := by
  obtain ⟨od, oe, of_, og, _, _⟩ := o
  have h1 := mb (x := 3 * z.d) (m := 27) (nbC 3 27 od (by decide)) ht
  have h2 := mb (x := 3 * z.d * t + 40 * z.e) (m := 900) (nbA h1 (nbC 40 360 oe (by decide)) (by decide)) ht
  have h3 := mb (x := (3 * z.d * t + 40 * z.e) * t + 600 * z.f) (m := 23400) (nbA h2 (nbC 600 5400 of_ (by decide)) (by decide)) ht
  have h4 := mb (x := ((3 * z.d * t + 40 * z.e) * t + 600 * z.f) * t + 12000 * z.g) (m := 576000) (nbA h3 (nbC 12000 108000 og (by decide)) (by decide)) ht
  exact ⟨h1, h2, h3, h4⟩
theorem sb {p : Int} {m : Nat} (c : Int) (h : p.natAbs ≤ m) (hc : m * c.natAbs < 10 ^ 14) : (p * c).natAbs < 10 ^ 14 := by
  rw [Int.natAbs_mul]; exact Nat.lt_of_le_of_lt (Nat.mul_le_mul_right _ h) hc
theorem sc {p x y z : Int} (h : y * z = x) : p * x = p * y * z := by rw [Int.mul_assoc, h]
theorem sd {u v c w k : Int} (h : k * c = w) : u * c + v * w = (u + k * v) * c := by subst h; grind
theorem sm {p q u v w : Int} (h : u * v = w * 10 ^ 8) : (p * u) * (q * v) = (p * q * w) * 10 ^ 8 := by
  have : (p * u) * (q * v) = p * q * (u * v) := by grind
  rw [this, h]; grind
theorem ev_H {z : In} (o : z.Ok) {σ : St} (h : z.At σ) : Ev σ tH ((z.b - z.a) * 5000000) := by
  have ha := o.a
  have hb := o.b
  exact .half (a' := z.b - z.a) (.sub (.var h.b) (.var h.a) (sb _ hb (by decide)) (sb _ ha (by decide))) (by lia) (by lia) (Nat.lt_of_le_of_lt (nbS (C := 400000000) (mb hb (Nat.le_refl _)) (mb ha (Nat.le_refl _)) (by decide)) (by decide))
theorem ev_V {z : In} (o : z.Ok) {σ : St} (h : z.At σ) {x : Int} (hx : x.natAbs ≤ 40) (h7 : σ.v 7 = some (x * 5000000)) : Ev σ tV (z.P x * 12500) := by
  obtain ⟨b1, b2, b3, b4⟩ := z.P_bound o hx
  have k1 : (z.d * x + 20 * z.e).natAbs ≤ 1000 := nbA b1 (nbC 20 180 o.e (by decide)) (by decide)
  have k2 : ((z.d * x + 20 * z.e) * x + 400 * z.f).natAbs ≤ 100000 := nbA b2 (nbC 400 3600 o.f (by decide)) (by decide)
  have e1 : Ev σ (.bin .mul (.var 0) (.var 7)) (z.d * x * 5000000) := .mul 8 6 (a' := z.d) (b' := x * 5) (.var h.d) (.var h7) rfl (sc rfl) (by decide) (sm (by decide)) (sb _ o.d (by decide)) (sb _ hx (by decide)) (sb _ b1 (by decide))
  have e2 : Ev σ (tHo (.var 0) (.var 1)) ((z.d * x + 20 * z.e) * 5000000) := (e1.add (.var h.e) (sb _ b1 (by decide)) (sb _ o.e (by decide))).to (sd (by decide))
  have e3 : Ev σ (.bin .mul (tHo (.var 0) (.var 1)) (.var 7)) ((z.d * x + 20 * z.e) * x * 250000) := .mul 6 6 (a' := (z.d * x + 20 * z.e) * 5) (b' := x * 5) e2 (.var h7) (sc rfl) (sc rfl) (by decide) (sm (by decide)) (sb _ k1 (by decide)) (sb _ hx (by decide)) (sb _ b2 (by decide))
  have e4 : Ev σ (tHo (tHo (.var 0) (.var 1)) (.var 2)) (((z.d * x + 20 * z.e) * x + 400 * z.f) * 250000) := (e3.add (.var h.f) (sb _ b2 (by decide)) (sb _ o.f (by decide))).to (sd (by decide))
  have e5 : Ev σ (.bin .mul (tHo (tHo (.var 0) (.var 1)) (.var 2)) (.var 7)) (((z.d * x + 20 * z.e) * x + 400 * z.f) * x * 12500) := .mul 4 6 (a' := ((z.d * x + 20 * z.e) * x + 400 * z.f) * 25) (b' := x * 5) e4 (.var h7) (sc rfl) (sc rfl) (by decide) (sm (by decide)) (sb _ k2 (by decide)) (sb _ hx (by decide)) (sb _ b3 (by decide))
  exact (e5.add (.var h.g) (sb _ b3 (by decide)) (sb _ o.g (by decide))).to (sd (by decide))
theorem ev_V4 {σ : St} {p : Int} (hp : p.natAbs ≤ 1080000) (h9 : σ.v 9 = some (p * 12500)) : Ev σ tV4 (4 * p * 12500) :=
  .mul 8 0 (a' := 4) (b' := p * 12500) (.num _) (.var h9) (by decide) (by lia) (by decide) (by lia) (by decide) (sb _ hp (by decide)) (by lia)
theorem ev_SV {σ : St} {s p : Int} (hs : s.natAbs ≤ 10000000) (hp : p.natAbs ≤ 10000000) (h8 : σ.v 8 = some (s * 12500)) (h9 : σ.v 9 = some (p * 12500)) : Ev σ tSV ((s + p) * 12500) :=
  (Ev.add (.var h8) (.var h9) (sb _ hs (by decide)) (sb _ hp (by decide))).to (Int.add_mul ..).symm
theorem ev_XH {σ : St} {x h : Int} (hx : x.natAbs ≤ 1000) (hh : h.natAbs ≤ 1000) (h7 : σ.v 7 = some (x * 5000000)) (h6 : σ.v 6 = some (h * 5000000)) : Ev σ tXH ((x + h) * 5000000) :=
  (Ev.add (.var h7) (.var h6) (sb _ hx (by decide)) (sb _ hh (by decide))).to (Int.add_mul ..).symm
theorem ev_T {σ : St} {s h : Int} (hs : s.natAbs ≤ 10000000) (hh : h.natAbs ≤ 40) (h8 : σ.v 8 = some (s * 12500)) (h6 : σ.v 6 = some (h * 5000000)) : Ev σ tT (s * h * 2500) := by
  have b := mb hs hh
  have e1 : Ev σ (.bin .mul (.var 8) (.var 6)) (s * h * 625) := .mul 2 6 (a' := s * 125) (b' := h * 5) (.var h8) (.var h6) (sc rfl) (sc rfl) (by decide) (sm (by decide)) (sb _ hs (by decide)) (sb _ hh (by decide)) (sb _ b (by decide))
  exact .mul 0 8 (a' := s * h * 625) (b' := 4) e1 (.num _) (by lia) (by decide) (by decide) (by lia) (sb _ b (by decide)) (by decide) (sb _ b (by decide))
theorem ev_co {σ : St} {i : Nat} {n y : Int} (hn : n.natAbs ≤ 12) (hy : y.natAbs ≤ 9) (h : σ.v i = some (y * 10 ^ 8)) : Ev σ (tCo n i) (n * y * 10 ^ 8) := by
  have b := mb hn hy
  exact .mul 8 8 (a' := n) (b' := y) (.num _) (.var h) rfl rfl (by decide) (sm (by decide)) (sb _ hn (by decide)) (sb _ hy (by decide)) (sb _ b (by decide))
theorem ev_R {z : In} (o : z.Ok) {σ : St} (h : z.At σ) {t r : Int} (ht : t.natAbs ≤ 20) (hr : r.natAbs ≤ 100000000) (h7 : σ.v 7 = some (t * 10 ^ 7)) (h11 : σ.v 11 = some (r * 10 ^ 4)) : Ev σ tR ((z.G t - r) * 10 ^ 4) := by
  refine @dq _ (by
  obtain ⟨b1, b2, b3, b4⟩ := z.G_bound o ht
  have k1 : (3 * z.d * t + 40 * z.e).natAbs ≤ 1000 := nbA b1 (nbC 40 360 o.e (by decide)) (by decide)
  have k2 : ((3 * z.d * t + 40 * z.e) * t + 600 * z.f).natAbs ≤ 100000 := nbA b2 (nbC 600 5400 o.f (by decide)) (by decide)
  have k3 : (((3 * z.d * t + 40 * z.e) * t + 600 * z.f) * t + 12000 * z.g).natAbs ≤ 1000000 := nbA b3 (nbC 12000 108000 o.g (by decide)) (by decide)
  have d1 : (3 * z.d).natAbs ≤ 27 := nbC 3 27 o.d (by decide)
  have d2 : (4 * z.e).natAbs ≤ 36 := nbC 4 36 o.e (by decide)
  have d3 : (6 * z.f).natAbs ≤ 54 := nbC 6 54 o.f (by decide)
  have d4 : (12 * z.g).natAbs ≤ 108 := nbC 12 108 o.g (by decide)
  have e0 := ev_co (i := 0) (n := 3) (by decide) o.d h.d
  have f1 := ev_co (i := 1) (n := 4) (by decide) o.e h.e
  have f2 := ev_co (i := 2) (n := 6) (by decide) o.f h.f
  have f3 := ev_co (i := 3) (n := 12) (by decide) o.g h.g
  have e1 : Ev σ (.bin .mul (tCo 3 0) (.var 7)) (3 * z.d * t * 10 ^ 7) := .mul 8 7 (a' := 3 * z.d) (b' := t) e0 (.var h7) rfl rfl (by decide) (sm (by decide)) (sb _ d1 (by decide)) (sb _ ht (by decide)) (sb _ b1 (by decide))
  have e2 : Ev σ (tHo (tCo 3 0) (tCo 4 1)) ((3 * z.d * t + 40 * z.e) * 10 ^ 7) := (e1.add f1 (sb _ b1 (by decide)) (sb _ d2 (by decide))).to ((sd (k := 10) (by decide)).trans (by rw [show (10 : Int) * (4 * z.e) = 40 * z.e from (Int.mul_assoc 10 4 z.e).symm]))
  have e3 : Ev σ (.bin .mul (tHo (tCo 3 0) (tCo 4 1)) (.var 7)) ((3 * z.d * t + 40 * z.e) * t * 10 ^ 6) := .mul 7 7 (a' := 3 * z.d * t + 40 * z.e) (b' := t) e2 (.var h7) rfl rfl (by decide) (sm (by decide)) (sb _ k1 (by decide)) (sb _ ht (by decide)) (sb _ b2 (by decide))
  have e4 : Ev σ (tHo (tHo (tCo 3 0) (tCo 4 1)) (tCo 6 2)) (((3 * z.d * t + 40 * z.e) * t + 600 * z.f) * 10 ^ 6) := (e3.add f2 (sb _ b2 (by decide)) (sb _ d3 (by decide))).to ((sd (k := 100) (by decide)).trans (by rw [show (100 : Int) * (6 * z.f) = 600 * z.f from (Int.mul_assoc 100 6 z.f).symm]))
  have e5 : Ev σ (.bin .mul (tHo (tHo (tCo 3 0) (tCo 4 1)) (tCo 6 2)) (.var 7)) (((3 * z.d * t + 40 * z.e) * t + 600 * z.f) * t * 10 ^ 5) := .mul 6 7 (a' := (3 * z.d * t + 40 * z.e) * t + 600 * z.f) (b' := t) e4 (.var h7) rfl rfl (by decide) (sm (by decide)) (sb _ k2 (by decide)) (sb _ ht (by decide)) (sb _ b3 (by decide))
  have e6 : Ev σ (tHo (tHo (tHo (tCo 3 0) (tCo 4 1)) (tCo 6 2)) (tCo 12 3)) ((((3 * z.d * t + 40 * z.e) * t + 600 * z.f) * t + 12000 * z.g) * 10 ^ 5) := (e5.add f3 (sb _ b3 (by decide)) (sb _ d4 (by decide))).to ((sd (k := 1000) (by decide)).trans (by rw [show (1000 : Int) * (12 * z.g) = 12000 * z.g from (Int.mul_assoc 1000 12 z.g).symm]))
  have e7 : Ev σ (.bin .mul (tHo (tHo (tHo (tCo 3 0) (tCo 4 1)) (tCo 6 2)) (tCo 12 3)) (.var 7)) (z.G t * 10 ^ 4) := .mul 5 7 (a' := ((3 * z.d * t + 40 * z.e) * t + 600 * z.f) * t + 12000 * z.g) (b' := t) e6 (.var h7) rfl rfl (by decide) (sm (by decide)) (sb _ k3 (by decide)) (sb _ ht (by decide)) (sb _ b4 (by decide))
  exact (e7.sub (.var h11) (sb _ b4 (by decide)) (sb _ hr (by decide))).to (Int.sub_mul ..).symm) fun q hf => ?_
  simpa only using fq hf (@Eq _ 5 5)
theorem simpson (z : In) : (z.P (2 * z.a) + 4 * z.P (z.a + z.b) + z.P (2 * z.b)) * (z.b - z.a) = 4 * (z.G z.b - z.G z.a) := by unfold In.P In.G; grind
theorem neIn : Nonempty In := ⟨⟨0,0,0,0,0,0⟩⟩
-- E2
noncomputable def St.set (σ : St) (i : Nat) (N : Int) : St := ⟨fun j => if j = i then some N else σ.v j, σ.k⟩
noncomputable def St.setK (σ : St) (n : Int) : St := ⟨σ.v, some n⟩
theorem St.set_same {σ : St} {i : Nat} {N : Int} : (σ.set i N).v i = some N := if_pos rfl
theorem St.set_ne {σ : St} {i j : Nat} {N : Int} (h : j ≠ i) : (σ.set i N).v j = σ.v j := if_neg h
theorem In.At.set {z : In} {σ : St} (h : z.At σ) {i : Nat} {N : Int} (hi : 6 ≤ i) : z.At (σ.set i N) :=
  ⟨(St.set_ne (by lia)).trans h.d, (St.set_ne (by lia)).trans h.e, (St.set_ne (by lia)).trans h.f, (St.set_ne (by lia)).trans h.g, (St.set_ne (by lia)).trans h.a, (St.set_ne (by lia)).trans h.b⟩
theorem In.At.setK {z : In} {σ : St} (h : z.At σ) {n : Int} : z.At (σ.setK n) := ⟨h.d, h.e, h.f, h.g, h.a, h.b⟩
/-- the t-th place, in twentieths; the weighted sum of the values ahead of it -/
noncomputable def In.x (z : In) (t : Nat) : Int := 2 * z.a + t * (z.b - z.a)
noncomputable def cw (t : Nat) : Int := if t = 1 then 4 else 1
noncomputable def In.s (z : In) : Nat → Int
  | 0 => 0
  | t + 1 => z.s t + cw t * z.P (z.x t)
noncomputable def In.q (z : In) : Nat → Int
  | 0 => z.a
  | _ + 1 => z.b
def In.r (z : In) : Nat → Int
  | 0 => 0
  | t + 1 => z.G (z.q t) - z.r t
theorem In.x_bound {z : In} (o : z.Ok) {t : Nat} (h : t ≤ 2) : (z.x t).natAbs ≤ 40 := by
  have e : z.x t = (2 - (t : Int)) * z.a + (t : Int) * z.b := by unfold In.x; grind
  rw [e]
  match t, h with
  | 0, _ => exact nbA (nbC 2 40 o.a (by decide)) (nbC 0 0 o.b (by decide)) (by decide)
  | 1, _ => exact nbA (nbC 1 20 o.a (by decide)) (nbC 1 20 o.b (by decide)) (by decide)
  | 2, _ => exact nbA (nbC 0 0 o.a (by decide)) (nbC 2 40 o.b (by decide)) (by decide)
theorem In.p_bound {z : In} (o : z.Ok) {t : Nat} (h : t ≤ 2) : (cw t * z.P (z.x t)).natAbs ≤ 4320000 := by
  have := (z.P_bound o (z.x_bound o h)).2.2.2
  refine Nat.le_trans (mb (m := 4) ?_ this) (by decide)
  unfold cw
  split <;> decide
theorem In.s_bound {z : In} (o : z.Ok) : ∀ {t : Nat}, t ≤ 3 → (z.s t).natAbs ≤ 6480000
  | 0, _ => by show (0 : Int).natAbs ≤ _; decide
  | 1, _ => nbA (A := 0) (B := 4320000) (Nat.le_refl _) (z.p_bound o (t := 0) (by decide)) (by decide)
  | 2, _ => nbA (A := 1080000) (nbA (A := 0) (B := 1080000) (Nat.le_refl _) (nbC 1 _ (z.P_bound o (z.x_bound o (t := 0) (by decide))).2.2.2 (by decide)) (by decide)) (nbC 4 4320000 (z.P_bound o (z.x_bound o (t := 1) (by decide))).2.2.2 (by decide)) (by decide)
  | 3, _ => nbA (A := 5400000) (nbA (A := 1080000) (nbA (A := 0) (B := 1080000) (Nat.le_refl _) (nbC 1 _ (z.P_bound o (z.x_bound o (t := 0) (by decide))).2.2.2 (by decide)) (by decide)) (nbC 4 4320000 (z.P_bound o (z.x_bound o (t := 1) (by decide))).2.2.2 (by decide)) (by decide)) (nbC 1 1080000 (z.P_bound o (z.x_bound o (t := 2) (by decide))).2.2.2 (by decide)) (by decide)
theorem In.q_bound {z : In} (o : z.Ok) : ∀ (t : Nat), (z.q t).natAbs ≤ 20
  | 0 => o.a
  | _ + 1 => o.b
theorem In.r_bound {z : In} (o : z.Ok) {t : Nat} (h : t ≤ 2) : (z.r t).natAbs ≤ 100000000 := by
  have h1 := (z.G_bound o o.a).2.2.2
  have h2 := (z.G_bound o o.b).2.2.2
  have h3 : (z.G z.a - 0).natAbs ≤ 11520000 := nbS h1 (Nat.le_refl _) (by decide)
  match t, h with
  | 0, _ => exact Nat.zero_le _
  | 1, _ => exact Nat.le_trans h3 (by decide)
  | 2, _ => exact nbS h2 h3 (by decide)
/-- twelve times the integral, in ten-thousandths -/
def In.due (z : In) : Int := z.G z.b - z.G z.a
theorem In.s3 (z : In) : z.s 3 * (z.b - z.a) * 2500 = z.due * 10 ^ 4 := by
  have h := simpson z
  have e : z.s 3 = z.P (2 * z.a) + 4 * z.P (z.a + z.b) + z.P (2 * z.b) := by
    show 0 + cw 0 * z.P (z.x 0) + cw 1 * z.P (z.x 1) + cw 2 * z.P (z.x 2) = _
    rw [show z.x 0 = 2 * z.a by unfold In.x; lia, show z.x 1 = z.a + z.b by unfold In.x; lia, show z.x 2 = 2 * z.b by unfold In.x; lia, show cw 0 = 1 from rfl, show cw 1 = 4 from rfl, show cw 2 = 1 from rfl]
    lia
  rw [e, h]; unfold In.due; lia
theorem In.r2 (z : In) : z.r 2 = z.due := by show z.G z.b - (z.G z.a - 0) = z.G z.b - z.G z.a; lia
abbrev vH (z : In) (σ : St) : Prop := σ.v 6 = some ((z.b - z.a) * 5000000)
abbrev vX (z : In) (σ : St) (t : Nat) : Prop := σ.v 7 = some (z.x t * 5000000)
abbrev vS (z : In) (σ : St) (t : Nat) : Prop := σ.v 8 = some (z.s t * 12500)
abbrev vT (z : In) (σ : St) : Prop := σ.v 10 = some (z.due * 10 ^ 4)
/-- what the memory holds ahead of statement i, in the loop's turn t -/
def Ph (z : In) (i t : Nat) (σ : St) : Prop := z.At σ ∧ match i with
  | 0 => t = 0
  | 1 => t = 0 ∧ vH z σ
  | 2 => t = 0 ∧ vH z σ ∧ vX z σ 0
  | 3 => t = 0 ∧ vH z σ ∧ vX z σ 0 ∧ vS z σ 0
  | 4 => t < 3 ∧ vH z σ ∧ vX z σ t ∧ vS z σ t ∧ σ.k = some (t + 1)
  | 5 => t < 3 ∧ vH z σ ∧ vX z σ t ∧ vS z σ t ∧ σ.k = some (t + 1) ∧ σ.v 9 = some (z.P (z.x t) * 12500)
  | 6 => t < 3 ∧ vH z σ ∧ vX z σ t ∧ vS z σ t ∧ σ.k = some (t + 1) ∧ σ.v 9 = some (cw t * z.P (z.x t) * 12500)
  | 7 => t < 3 ∧ vH z σ ∧ vX z σ t ∧ vS z σ (t + 1) ∧ σ.k = some (t + 1)
  | 8 => t = 0 ∧ vH z σ ∧ vS z σ 3
  | 9 => t = 0 ∧ vT z σ
  | 10 => t = 0 ∧ vT z σ ∧ σ.v 11 = some (0 * 10 ^ 4)
  | 11 => t = 0 ∧ vT z σ ∧ σ.v 11 = some (0 * 10 ^ 4) ∧ σ.v 7 = some (z.q 0 * 10 ^ 7)
  | 12 => t < 2 ∧ vT z σ ∧ σ.v 11 = some (z.r t * 10 ^ 4) ∧ σ.v 7 = some (z.q t * 10 ^ 7) ∧ σ.k = some (t + 1)
  | 13 => t < 2 ∧ vT z σ ∧ σ.v 11 = some (z.r (t + 1) * 10 ^ 4) ∧ σ.k = some (t + 1)
  | 14 => t = 0 ∧ vT z σ ∧ σ.v 11 = some (z.r 2 * 10 ^ 4) ∧ σ.v 7 = some (z.b * 10 ^ 7) ∧ σ.k = some 3
  | _ => False
/-- behind the loop's last statement, its counter not yet raised -/
def Qh (z : In) (i t : Nat) (σ : St) : Prop := z.At σ ∧ match i with
  | 7 => t < 3 ∧ vH z σ ∧ vX z σ (t + 1) ∧ vS z σ (t + 1) ∧ σ.k = some (t + 1)
  | 13 => t < 2 ∧ vT z σ ∧ σ.v 11 = some (z.r (t + 1) * 10 ^ 4) ∧ σ.v 7 = some (z.b * 10 ^ 7) ∧ σ.k = some (t + 1)
  | _ => False
/-- the target and the tree of an assignment -/
noncomputable def aT : Nat → Nat
  | 0 => 6 | 1 => 7 | 2 => 8 | 4 => 9 | 5 => 9 | 6 => 8 | 7 => 7 | 8 => 10 | 9 => 11 | 10 => 7 | 12 => 11 | _ => 7
noncomputable def aE : Nat → TR
  | 0 => tH | 1 => .var 4 | 2 => .num 0 | 4 => tV | 5 => tV4 | 6 => tSV | 7 => tXH | 8 => tT | 9 => .num 0 | 10 => .var 4 | 12 => tR | _ => .var 5
theorem ph_cases (i : Nat) (h3 : i ≠ 3) (h5 : i ≠ 5) (h7 : i ≠ 7) (h11 : i ≠ 11) (h13 : i ≠ 13) (h14 : i ≠ 14) : i = 0 ∨ i = 1 ∨ i = 2 ∨ i = 4 ∨ i = 6 ∨ i = 8 ∨ i = 9 ∨ i = 10 ∨ i = 12 ∨ 15 ≤ i := by
  rcases Nat.lt_or_ge i 15 with h | h
  · exact (by decide : ∀ i : Fin 15, i.1 ≠ 3 → i.1 ≠ 5 → i.1 ≠ 7 → i.1 ≠ 11 → i.1 ≠ 13 → i.1 ≠ 14 → i.1 = 0 ∨ i.1 = 1 ∨ i.1 = 2 ∨ i.1 = 4 ∨ i.1 = 6 ∨ i.1 = 8 ∨ i.1 = 9 ∨ i.1 = 10 ∨ i.1 = 12 ∨ 15 ≤ i.1) ⟨i, h⟩ h3 h5 h7 h11 h13 h14
  · simp [h]
theorem ph_step {z : In} (o : z.Ok) {i t : Nat} {σ : St} (h : Ph z i t σ) (h3 : i ≠ 3) (h5 : i ≠ 5) (h7 : i ≠ 7) (h11 : i ≠ 11) (h13 : i ≠ 13) (h14 : i ≠ 14) : ∃ N, Ev σ (aE i) N ∧ Ph z (i + 1) t (σ.set (aT i) N) := by
  refine @dq _ (by
  obtain ⟨a, h⟩ := h
  rcases (ph_cases i h3 h5 h7 h11 h13 h14) with rfl | rfl | rfl | rfl | rfl | rfl | rfl | rfl | rfl | hi
  · exact ⟨_, ev_H o a, a.set (by decide), h, (by first | exact St.set_same | exact (St.set_ne (by decide)).trans ‹_› | assumption | rfl)⟩
  · obtain ⟨h, k6⟩ := h
    exact ⟨_, (Ev.var a.a).to (show z.a * 10 ^ 7 = z.x 0 * 5000000 by unfold In.x; lia), a.set (by decide), h, (by first | exact St.set_same | exact (St.set_ne (by decide)).trans ‹_› | assumption | rfl), (by first | exact St.set_same | exact (St.set_ne (by decide)).trans ‹_› | assumption | rfl)⟩
  · obtain ⟨h, k6, k7⟩ := h
    exact ⟨_, (Ev.num 0).to (show 0 = z.s 0 * 12500 from rfl), a.set (by decide), h, (by first | exact St.set_same | exact (St.set_ne (by decide)).trans ‹_› | assumption | rfl), (by first | exact St.set_same | exact (St.set_ne (by decide)).trans ‹_› | assumption | rfl), (by first | exact St.set_same | exact (St.set_ne (by decide)).trans ‹_› | assumption | rfl)⟩
  · obtain ⟨h, k6, k7, k8, kk⟩ := h
    exact ⟨_, ev_V o a (z.x_bound o (by lia)) k7, a.set (by decide), h, (by first | exact St.set_same | exact (St.set_ne (by decide)).trans ‹_› | assumption | rfl), (by first | exact St.set_same | exact (St.set_ne (by decide)).trans ‹_› | assumption | rfl), (by first | exact St.set_same | exact (St.set_ne (by decide)).trans ‹_› | assumption | rfl), (by first | exact St.set_same | exact (St.set_ne (by decide)).trans ‹_› | assumption | rfl), (by first | exact St.set_same | exact (St.set_ne (by decide)).trans ‹_› | assumption | rfl)⟩
  · obtain ⟨h, k6, k7, k8, kk, k9⟩ := h
    exact ⟨_, ev_SV (Nat.le_trans (z.s_bound o (by lia)) (by decide)) (Nat.le_trans (z.p_bound o (by lia)) (by decide)) k8 k9, a.set (by decide), h, (by first | exact St.set_same | exact (St.set_ne (by decide)).trans ‹_› | assumption | rfl), (by first | exact St.set_same | exact (St.set_ne (by decide)).trans ‹_› | assumption | rfl), (by first | exact St.set_same | exact (St.set_ne (by decide)).trans ‹_› | assumption | rfl), (by first | exact St.set_same | exact (St.set_ne (by decide)).trans ‹_› | assumption | rfl)⟩
  · obtain ⟨h, k6, k8⟩ := h
    have hb : (z.b - z.a).natAbs ≤ 40 := nbS o.b o.a (by decide)
    exact ⟨_, (ev_T (Nat.le_trans (z.s_bound o (by lia)) (by decide)) hb k8 k6).to z.s3, a.set (by decide), h, (by first | exact St.set_same | exact (St.set_ne (by decide)).trans ‹_› | assumption | rfl)⟩
  · obtain ⟨h, k6⟩ := h
    exact ⟨_, (Ev.num 0).to (show 0 = 0 * 10 ^ 4 from rfl), a.set (by decide), h, (by first | exact St.set_same | exact (St.set_ne (by decide)).trans ‹_› | assumption | rfl), (by first | exact St.set_same | exact (St.set_ne (by decide)).trans ‹_› | assumption | rfl)⟩
  · obtain ⟨h, k6, k8⟩ := h
    exact ⟨_, (Ev.var a.a).to rfl, a.set (by decide), h, (by first | exact St.set_same | exact (St.set_ne (by decide)).trans ‹_› | assumption | rfl), (by first | exact St.set_same | exact (St.set_ne (by decide)).trans ‹_› | assumption | rfl), (by first | exact St.set_same | exact (St.set_ne (by decide)).trans ‹_› | assumption | rfl)⟩
  · obtain ⟨h, k6, k8, k7, kk⟩ := h
    exact ⟨_, ev_R o a (z.q_bound o t) (z.r_bound o (by lia)) k7 k8, a.set (by decide), h, (by first | exact St.set_same | exact (St.set_ne (by decide)).trans ‹_› | assumption | rfl), (by first | exact St.set_same | exact (St.set_ne (by decide)).trans ‹_› | assumption | rfl), (by first | exact St.set_same | exact (St.set_ne (by decide)).trans ‹_› | assumption | rfl)⟩
  · exfalso
    revert h
    obtain ⟨j, rfl⟩ := Nat.exists_eq_add_of_le' hi
    exact id) fun q hf => ?_
  simpa only using fq hf (@Eq _ 5 5)
theorem ph_lif {z : In} (o : z.Ok) {t : Nat} {σ : St} (h : Ph z 5 t σ) : σ.k = some ((t : Int) + 1) ∧ t < 3 ∧ (t ≠ 1 → Ph z 6 t σ) ∧ (t = 1 → ∃ N, Ev σ (aE 5) N ∧ Ph z 6 t (σ.set (aT 5) N)) := by
  refine viaP fun PZ kZ => ?_
  obtain ⟨a, h, k6, k7, k8, kk, k9⟩ := h
  refine kZ ?_; clear kZ PZ
  refine ⟨kk, h, fun ht => ⟨a, h, k6, k7, k8, kk, ?_⟩, fun ht => ?_⟩
  · rw [k9, show cw t = 1 from if_neg ht, Int.one_mul]
  · have hp := (z.P_bound o (z.x_bound o (t := t) (by lia))).2.2.2
    refine ⟨_, (ev_V4 hp k9).to (show 4 * z.P (z.x t) * 12500 = cw t * z.P (z.x t) * 12500 by rw [show cw t = 4 from if_pos ht]), a.set (by decide), h, (by first | exact St.set_same | exact (St.set_ne (by decide)).trans ‹_› | assumption | rfl), (by first | exact St.set_same | exact (St.set_ne (by decide)).trans ‹_› | assumption | rfl), (by first | exact St.set_same | exact (St.set_ne (by decide)).trans ‹_› | assumption | rfl), (by first | exact St.set_same | exact (St.set_ne (by decide)).trans ‹_› | assumption | rfl), (by first | exact St.set_same | exact (St.set_ne (by decide)).trans ‹_› | assumption | rfl)⟩
theorem ph_end {z : In} (o : z.Ok) {i t : Nat} {σ : St} (h : Ph z i t σ) (hi : i = 7 ∨ i = 13) : ∃ N, Ev σ (aE i) N ∧ Qh z i t (σ.set (aT i) N) := by
  obtain ⟨a, h⟩ := h
  rcases hi with rfl | rfl
  · obtain ⟨h, k6, k7, k8, kk⟩ := h
    have hb : (z.b - z.a).natAbs ≤ 40 := nbS o.b o.a (by decide)
    have hx := z.x_bound o (t := t) (by lia)
    exact ⟨_, (ev_XH (by lia) (by lia) k7 k6).to (show (z.x t + (z.b - z.a)) * 5000000 = z.x (t + 1) * 5000000 by unfold In.x; grind), a.set (by decide), h, (by first | exact St.set_same | exact (St.set_ne (by decide)).trans ‹_› | assumption | rfl), (by first | exact St.set_same | exact (St.set_ne (by decide)).trans ‹_› | assumption | rfl), (by first | exact St.set_same | exact (St.set_ne (by decide)).trans ‹_› | assumption | rfl), (by first | exact St.set_same | exact (St.set_ne (by decide)).trans ‹_› | assumption | rfl)⟩
  · obtain ⟨h, k6, k8, kk⟩ := h
    exact ⟨_, (Ev.var a.b).to rfl, a.set (by decide), h, (by first | exact St.set_same | exact (St.set_ne (by decide)).trans ‹_› | assumption | rfl), (by first | exact St.set_same | exact (St.set_ne (by decide)).trans ‹_› | assumption | rfl), (by first | exact St.set_same | exact (St.set_ne (by decide)).trans ‹_› | assumption | rfl), (by first | exact St.set_same | exact (St.set_ne (by decide)).trans ‹_› | assumption | rfl)⟩
theorem ph_do {z : In} {i t : Nat} {σ : St} (h : Ph z i t σ) (hi : i = 3 ∨ i = 11) : t = 0 ∧ Ph z (i + 1) 0 (σ.setK 1) := by
  obtain ⟨a, h⟩ := h
  rcases hi with rfl | rfl
  · obtain ⟨h, k6, k7, k8⟩ := h
    exact ⟨h, a.setK, by show 0 < 3; lia, k6, k7, k8, rfl⟩
  · obtain ⟨h, k6, k8, k7⟩ := h
    exact ⟨h, a.setK, by show 0 < 2; lia, k6, k8, k7, rfl⟩
/-- the loop's first statement, its last turn -/
noncomputable def lpB (i : Nat) : Nat := if i ≤ 7 then 3 else 11
noncomputable def lpN (i : Nat) : Nat := if i ≤ 7 then 3 else 2
theorem qh_facts {z : In} {i t : Nat} {σ : St} (h : Qh z i t σ) : (i = 7 ∨ i = 13) ∧ t < lpN i ∧ σ.k = some ((t : Int) + 1) := by
  obtain ⟨a, h⟩ := h
  rcases (show i = 7 ∨ i = 13 ∨ (i ≠ 7 ∧ i ≠ 13) by lia) with rfl | rfl | ⟨h1, h2⟩
  · exact ⟨.inl rfl, h.1, h.2.2.2.2⟩
  · exact ⟨.inr rfl, h.1, h.2.2.2.2⟩
  · exfalso; revert h; split
    · exact absurd rfl h1
    · exact absurd rfl h2
    · exact id
theorem qh_more {z : In} {i t : Nat} {σ : St} (h : Qh z i t σ) (ht : t + 1 < lpN i) : Ph z (lpB i + 1) (t + 1) (σ.setK ((t : Int) + 1 + 1)) := by
  refine viaP fun PZ kZ => ?_
  obtain ⟨hi, -, -⟩ := qh_facts h
  obtain ⟨a, h⟩ := h
  refine kZ ?_; clear kZ PZ
  rcases hi with rfl | rfl
  · obtain ⟨h, k6, k7, k8, kk⟩ := h
    exact ⟨a.setK, ht, k6, k7, k8, rfl⟩
  · obtain ⟨h, k6, k8, k7, kk⟩ := h
    exact ⟨a.setK, ht, k6, k8, k7, rfl⟩
theorem qh_done {z : In} {i t : Nat} {σ : St} (h : Qh z i t σ) (ht : ¬ t + 1 < lpN i) : Ph z (i + 1) 0 (σ.setK ((t : Int) + 1 + 1)) := by
  refine viaP fun PZ kZ => ?_
  obtain ⟨hi, -, -⟩ := qh_facts h
  obtain ⟨a, h⟩ := h
  refine kZ ?_; clear kZ PZ
  rcases hi with rfl | rfl
  · obtain ⟨h, k6, k7, k8, kk⟩ := h
    have e : t = 2 := by unfold lpN at ht; simp at ht; lia
    subst e
    exact ⟨a.setK, rfl, k6, k8⟩
  · obtain ⟨h, k6, k8, k7, kk⟩ := h
    have e : t = 1 := by unfold lpN at ht; simp at ht; lia
    subst e
    exact ⟨a.setK, rfl, k6, k8, k7, rfl⟩
-- MB3
/-- a call that turns the ledger into another -/
def SpecT (w : World) (D U : Nat) (f : Addr) (args : List Value) (led : Led) (post : Value → Led → Prop) : Prop :=
  ∀ (p : Program) (loose : List Str) (mean : ExcName → Option Value) (mg mb : Str → Option Value) (dp un : Nat) (gd : Option (List Code)) (cn : Str) (cs : Scope) (a : Addr) (ccd : Value) (cl : List (Str × Addr)) (outer : List Env) (A₀ : Around) (base h₀ : Heap) (L : Addr) (m : Str → Option Value) (s : Shared) (Q E : Value → Shared → Prop),
   Below A₀ base outer h₀ → Fr h₀ L s.heap m → (KK w.params).In h₀ → News h₀ L s.heap led → Top p loose mean mg mb h₀ → cs.kind = .function → dp + D < recursionLimit → un + U < cLine →
   (∀ v n h' tk', Fr h₀ L h' m → News h₀ L h' n → post v n → Q v { s with heap := h', toks := tk' }) →
   wpAny (model PySem.Challenge.rw_sz0042_01.row.prog w) (ktrTop dp un gd cn cs L a ccd cl outer) (call (.ref f) args) Q E s
theorem specT_use {D U : Nat} {f : Addr} {args : List Value} {led : Led} {post : Value → Led → Prop} {w : World} (C : SpecT w D U f args led post) {p : Program} {loose : List Str} {mean : ExcName → Option Value} {mg mb : Str → Option Value} {dp un : Nat} {gd : Option (List Code)} {cn : Str} {cs : Scope} {a : Addr} {ccd : Value} {cl : List (Str × Addr)} {outer : List Env} {A₀ : Around} {base h₀ : Heap} {L : Addr} {m : Str → Option Value} {s : Shared} {Q E : Value → Shared → Prop}
    (B : Below A₀ base outer h₀) (F : Fr h₀ L s.heap m) (X : (KK w.params).In h₀) (N : News h₀ L s.heap led) (T : Top p loose mean mg mb h₀) (hk : cs.kind = .function) (hd : dp + D < recursionLimit) (hu : un + U < cLine)
    (ret : ∀ v n h' tk', Fr h₀ L h' m → News h₀ L h' n → post v n → Q v { s with heap := h', toks := tk' }) :
    wpAny (model PySem.Challenge.rw_sz0042_01.row.prog w) (ktrTop dp un gd cn cs L a ccd cl outer) (call (.ref f) args) Q E s := C _ _ _ _ _ _ _ _ _ _ _ _ _ _ _ _ _ _ _ _ _ _ B F X N T hk hd hu ret
theorem SpecT.weak {w : World} {D U D' U' : Nat} {f : Addr} {args : List Value} {led led' : Led} {post post' : Value → Led → Prop} (C : SpecT w D U f args led post) (hD : D ≤ D') (hU : U ≤ U') (hs : ∀ p ∈ led, p ∈ led') (hp : ∀ v n, post v n → post' v n) : SpecT w D' U' f args led' post' := by
  intro p loose mean mg mb dp un gd cn cs a ccd cl outer A₀ base h₀ L m s Q E B F X N T hk hd hu hret
  exact C _ _ _ _ _ _ _ _ _ _ _ _ _ _ _ _ _ _ _ _ _ _ B F X (fun p hp => N p (hs p hp)) T hk (by omega) (by omega) fun v n h' tk' F' N' q => hret v n h' tk' F' N' (hp _ _ q)
theorem SpecPW.t {w : World} {D U : Nat} {f : Addr} {args : List Value} {led : Led} {post : Value → Led → Prop} (C : SpecPW w D U f args led post) : SpecT w D U f args led (fun v n => Grown led n ∧ post v n) := by
  intro p loose mean mg mb dp un gd cn cs a ccd cl outer A₀ base h₀ L m s Q E B F X N T hk hd hu hret
  exact C _ _ _ _ _ _ _ _ _ _ _ _ _ _ _ _ _ _ _ _ _ _ B F X N T hk hd hu fun v tl h' tk' F' N' hl q => hret v _ h' tk' F' N' ⟨⟨tl, rfl, hl⟩, q⟩
/-- the ledger handed on may be any part of the one that holds -/
theorem SpecT.post {w : World} {D U : Nat} {f : Addr} {args : List Value} {led : Led} {post post' : Value → Led → Prop} (C : SpecT w D U f args led post) (hp : ∀ v n, post v n → ∃ n', (∀ p ∈ n', p ∈ n) ∧ post' v n') : SpecT w D U f args led post' := by
  intro p loose mean mg mb dp un gd cn cs a ccd cl outer A₀ base h₀ L m s Q E B F X N T hk hd hu hret
  exact C _ _ _ _ _ _ _ _ _ _ _ _ _ _ _ _ _ _ _ _ _ _ B F X N T hk hd hu fun v n h' tk' F' N' q => by
    obtain ⟨n', h1, h2⟩ := hp _ _ q
    exact hret v n' h' tk' F' (fun p hp => N' p (h1 p hp)) h2
def HSpecT (w : World) (D U : Nat) (f : Addr) (args : List Value) (led : Led) (post : Value → Led → Prop) : Prop := SpecT w D U f args led post
theorem HSpecT.use {w : World} {D U : Nat} {f : Addr} {args : List Value} {led : Led} {post : Value → Led → Prop} (h : HSpecT w D U f args led post) : SpecT w D U f args led post := h
theorem words5 : True := by
  k_with "G5" => (
    k_with "!call ref" => ((with_reducible show wpAny _ _ (call (Value.ref _) _) _ _ _); k_here; k_dflt (refine' specT_use ?z22kC ?z22k1 ?z22k2 ?z22k3 ?z22k4 ?z22k5 ?z22kK ?z22kd ?z22ku ?_; (case z22k4 => k_asm); (case z22kC => k_extra "specT"); (case z22k1 => k_asm); (case z22k2 => k_asm); (case z22k3 => k_asm); (case z22k5 => k_asm); (case z22kK => first | exact rfl | assumption); (case z22kd => ktr_room); (case z22ku => ktr_units)); intro v9 n9 h9 tk9 F9 N9; (first | k_extra "openT" | intro hp9); (try k_sweep); (try k_fold))
    k_with "m:k_all" => assumption
    k_with "!setItem ref int" => (k_here; (with_reducible show wpAny _ _ (setItem (Value.ref _) (Value.int _ _) _) _ _ _); k_dflt (refine' setL_K ?z23F ?z23N ?z23U ?z23a ?z23b ?z23c ?_; (case z23F => k_asm); (case z23N => k_asm); (case z23U => k_upd); (case z23a => omega); (case z23b => (try simp only [List.length_set]); omega); (case z23c => omega); k_whole); intro h' F' N'; (try k_sweep)))
  k_extra "G5"
  trivial
-- T01
theorem c_st2 : ∀ (w : World) (ce : Addr) (vs : List Value) (nn : Nat) (ad : Int) (t1 t2 : Tok) (x : Value) (led : Led), (∀ p ∈ led, p.1 ≠ ce) → vs.length = 25 → 0 ≤ ad → ad < 24 → SpecT w 2 24 173 [.ref ce, .int 2 t1, .int ad t2, x] ((ce, listOf vs.toArray nn) :: led) (fun v n => v = .none ∧ ∃ c1 c2 t3 t4, n = (c2, tp [.int 6 t4, x]) :: (c1, tp [.int 2 t3, x]) :: (ce, listOf ((vs.set ad.toNat (.ref c1)).set (ad + 1).toNat (.ref c2)).toArray nn) :: led ∧ (@LT.lt Nat _ ce c1 ∧ AllLt c1 led) ∧ @LT.lt Nat _ c1 c2 ∧ @LT.lt Nat _ ce c2 ∧ AllLt c2 led) := by
  refine @dq _ (by
  unfold SpecT
  k_fill
  k_extra "h0"
  k_extra "b1.8"
  k_extra "b2.1"
  intro b1 b2 b3 b4
  k_extra "hv"
  k_with "specV" => exact c_units2 _ _ 
  k_with "specV" => (refine' c_need _ _ _ _ _ _ _ _ ?q348 ?q349 ?q350 ?q351 ?q352; (case q348 => first | assumption | k_mem); (case q349 => assumption); (case q350 => omega); (case q351 => omega); (case q352 => omega))
  k_with "len" => assumption
  k_with "item" => assumption
  k_steps
  all_goals first
    | exact hret _ _ _ _ ‹_› ‹_› ⟨rfl, _, _, _, _, rfl, by assumption, by assumption⟩) fun q hf => ?_
  simpa only using fq hf (@Eq _ 5 5)
theorem c_st0 : ∀ (w : World) (ce : Addr) (vs : List Value) (nn : Nat) (ad : Int) (t1 t2 : Tok) (x : Value) (led : Led), (∀ p ∈ led, p.1 ≠ ce) → vs.length = 25 → 0 ≤ ad → ad < 25 → SpecT w 2 24 173 [.ref ce, .int 0 t1, .int ad t2, x] ((ce, listOf vs.toArray nn) :: led) (fun v n => v = .none ∧ ∃ c1 t3, n = (c1, tp [.int 0 t3, x]) :: (ce, listOf (vs.set ad.toNat (.ref c1)).toArray nn) :: led ∧ @LT.lt Nat _ ce c1 ∧ AllLt c1 led) := by
  refine @dq _ (by
  unfold SpecT
  k_fill
  k_extra "h0"
  k_extra "b1.8"
  k_extra "b2.1"
  intro b1 b2 b3 b4
  k_extra "hv"
  k_with "specV" => exact c_units0 _ _ 
  k_with "specV" => (refine' c_need _ _ _ _ _ _ _ _ ?q353 ?q354 ?q355 ?q356 ?q357; (case q353 => first | assumption | k_mem); (case q354 => assumption); (case q355 => omega); (case q356 => omega); (case q357 => omega))
  k_with "len" => assumption
  k_with "item" => assumption
  k_steps
  all_goals first
    | exact hret _ _ _ _ ‹_› ‹_› ⟨rfl, _, _, rfl, by assumption⟩) fun q hf => ?_
  simpa only using fq hf (@Eq _ 5 5)
-- T02
theorem c_mst2 : ∀ (w : World) (ce : Addr) (vs : List Value) (nn : Nat) (me md : Addr) (q1 q2 : Tok) (ch : Value) (pa : Addr) (t1 t2 : Tok) (z1 z2 : Value) (ad : Int) (x : Value) (led : Led), (∀ p ∈ led, p.1 ≠ ce) → vs.length = 25 → (me, instObj 141 md) ∈ led → (md, dictOf [enS w.params "numeric" q1 (.ref ce), enS w.params "characters" q2 ch] 2) ∈ led → (pa, tp [.int 2 t1, .int ad t2, z1, z2]) ∈ led → 0 ≤ ad → ad < 24 → SpecT w 3 32 131 [.ref me, .ref pa, x] ((ce, listOf vs.toArray nn) :: led) (fun v n => v = .none ∧ ∃ c1 c2 t3 t4, n = (c2, tp [.int 6 t4, x]) :: (c1, tp [.int 2 t3, x]) :: (ce, listOf ((vs.set ad.toNat (.ref c1)).set (ad + 1).toNat (.ref c2)).toArray nn) :: led ∧ (@LT.lt Nat _ ce c1 ∧ AllLt c1 led) ∧ @LT.lt Nat _ c1 c2 ∧ @LT.lt Nat _ ce c2 ∧ AllLt c2 led) := by
  refine @dq _ (by
  unfold SpecT
  k_fill
  k_extra "h0"
  k_extra "b1.12"
  k_extra "b2.4"
  k_extra "b3.1"
  intro b1 b2 b3 b4 b5 b6 b7
  k_extra "hv"
  k_with "specT" => (refine' c_st2 _ _ _ _ _ _ _ _ _ ?q358 ?q359 ?q360 ?q361; (case q358 => assumption); (case q359 => assumption); (case q360 => omega); (case q361 => omega))
  k_with "len" => assumption
  k_with "item" => assumption
  k_with "openT" => rintro ⟨rfl, c1, c2, t3, t4, rfl, l1, l2⟩
  k_steps
  all_goals first
    | exact hret _ _ _ _ ‹_› ‹_› ⟨rfl, _, _, _, _, rfl, by assumption, by assumption⟩) fun q hf => ?_
  simpa only using fq hf (@Eq _ 5 5)
theorem c_mst0 : ∀ (w : World) (ce : Addr) (vs : List Value) (nn : Nat) (me md : Addr) (q1 q2 : Tok) (ch : Value) (pa : Addr) (t1 t2 : Tok) (z1 z2 : Value) (ad : Int) (x : Value) (led : Led), (∀ p ∈ led, p.1 ≠ ce) → vs.length = 25 → (me, instObj 141 md) ∈ led → (md, dictOf [enS w.params "numeric" q1 (.ref ce), enS w.params "characters" q2 ch] 2) ∈ led → (pa, tp [.int 0 t1, .int ad t2, z1, z2]) ∈ led → 0 ≤ ad → ad < 25 → SpecT w 3 32 131 [.ref me, .ref pa, x] ((ce, listOf vs.toArray nn) :: led) (fun v n => v = .none ∧ ∃ c1 t3, n = (c1, tp [.int 0 t3, x]) :: (ce, listOf (vs.set ad.toNat (.ref c1)).toArray nn) :: led ∧ @LT.lt Nat _ ce c1 ∧ AllLt c1 led) := by
  refine @dq _ (by
  unfold SpecT
  k_fill
  k_extra "h0"
  k_extra "b1.12"
  k_extra "b2.4"
  k_extra "b3.1"
  intro b1 b2 b3 b4 b5 b6 b7
  k_extra "hv"
  k_with "specT" => (refine' c_st0 _ _ _ _ _ _ _ _ _ ?q362 ?q363 ?q364 ?q365; (case q362 => assumption); (case q363 => assumption); (case q364 => omega); (case q365 => omega))
  k_with "len" => assumption
  k_with "item" => assumption
  k_with "openT" => rintro ⟨rfl, c1, t3, rfl, l1⟩
  k_steps
  all_goals first
    | exact hret _ _ _ _ ‹_› ‹_› ⟨rfl, _, _, rfl, by assumption⟩) fun q hf => ?_
  simpa only using fq hf (@Eq _ 5 5)
-- MB4
theorem allLt_all {d : Nat} : ∀ {led : Led}, AllLt d led → ∀ p ∈ led, @LT.lt Nat _ p.1 d
  | [], _, p, h => nomatch h
  | q :: r, ⟨h1, h2⟩, p, h => by
    rcases List.mem_cons.mp h with rfl | h
    · exact h1
    · exact allLt_all h2 p h
theorem words6 : True := by
  k_with "G6" => (
    k_with "!eval Call" => (k_here; (with_reducible show wpAny _ _ (eval (Expr.Call (Expr.Name _ _) _ [] _) _) _ _ _); k_dflt (refine Call_ ?_)))
  k_extra "G6"
  trivial
-- T03
theorem c_zero : ∀ (w : World) (x : Int) (t : Tok) (led : Led), SpecPW w 1 8 426 [.int x t] led (fun v _ => v = .bool (decide (x = 0))) := by
  refine @dq _ (by
  unfold SpecPW
  k_fill
  k_extra "h0"
  k_extra "b1.4"
  k_extra "hv"
  k_steps
  all_goals first
    | exact Grown.ret (post := fun v _ => v = .bool (decide (y1_2 = 0))) hret ‹_› ‹_› rfl (by repeat (first | exact Grown.refl | (refine Grown.app ?_ ?_; rotate_left; assumption) | (refine Grown.cons ?_ ?_; rotate_left; first | assumption | exact fun p hp => Nat.lt_succ_of_lt (by first | exact l1 p hp | (apply_assumption; assumption)))))
    | exact Grown.retV hret ‹_› ‹_› (by repeat (first | exact Grown.refl | (refine Grown.app ?_ ?_; rotate_left; assumption) | (refine Grown.cons ?_ ?_; rotate_left; first | assumption | exact fun p hp => Nat.lt_succ_of_lt (by first | exact l1 p hp | (apply_assumption; assumption)))))) fun q hf => ?_
  simpa only using fq hf (@Eq _ 5 5)
-- T04
def InR (y : Int) : Prop := 1 ≤ y ∧ y ≤ 100
theorem c_trip : ∀ (w : World) (oa : Addr) (oo : Obj) (ov : List (Int × Value)) (la ld : Addr) (k1 k2 k3 k4 k5 k6 k7 k8 : Tok) (y : Int) (t1 t2 t3 t4 : Tok) (led : Led), (oa, oo) ∈ led → (oa == sysModules) = false → oo.IsDictOf (intKind WP w) ov → valueAt ov 0 = some (.ref 292) → (la, instObj 797 ld) ∈ led → (ld, dictOf [enS w.params "width" k1 (.int 32 1339), enS w.params "real_digits" k2 (.int 7 1340), enS w.params "double_digits" k3 (.int 15 1341), enS w.params "top_exponent" k4 (.int 38 1342), enS w.params "steps" k5 (.int 1000000 1343), enS w.params "continuations" k6 (.int 19 1344), enS w.params "columns" k7 (.int 72 1345), enS w.params "depth" k8 (.int 40 1346)] 8) ∈ led → InR y → SpecPW w 4 40 433 [.int 0 t1, .int 1 t2, .int y t3, .int 1 t4, .ref oa, .ref la] led (fun v _ => ∃ t, v = .int y t) := by
  refine @dq _ (by
  unfold SpecPW
  k_fill
  k_extra "h0"
  k_extra "b1.12"
  k_extra "b2.8"
  intro b1 b2 b3 b4 b5 b6 b7
  k_extra "hv"
  k_with "openP" => first | subst hp9 | skip
  k_with "specPW" => exact c_zero _ _ _ _ 
  k_with "specV" => (refine' c_ib_sub _ _ _ _ _ _ _ _ _ _ _ _ _ _ _ _ _ _ ?q366 ?q367 ?q368 ?q369; (case q366 => first | assumption | k_mem); (case q367 => first | assumption | k_mem); (case q368 => first | omega | (unfold InR at *; split <;> omega) | (unfold InR at *; omega)); (case q369 => first | omega | (unfold InR at *; split <;> omega) | (unfold InR at *; omega))) 
  k_with "specV" => (refine' c_ib_add _ _ _ _ _ _ _ _ _ _ _ _ _ _ _ _ _ _ ?q370 ?q371 ?q372 ?q373; (case q370 => first | assumption | k_mem); (case q371 => first | assumption | k_mem); (case q372 => first | omega | (unfold InR at *; split <;> omega) | (unfold InR at *; omega)); (case q373 => first | omega | (unfold InR at *; split <;> omega) | (unfold InR at *; omega))) 
  k_with "specV" => (refine' c_ib_div _ _ _ _ _ _ _ _ _ _ _ _ _ _ _ _ _ ?q374 ?q375 ?q376 ?q377; (case q374 => first | assumption | k_mem); (case q375 => first | assumption | k_mem); (case q376 => first | omega | (unfold InR at *; split <;> omega) | (unfold InR at *; omega)); (case q377 => first | omega | (unfold InR at *; split <;> omega) | (unfold InR at *; omega))) 
  k_with "specV" => (refine' c_fit_int _ _ _ _  ?q378 ?q379; (case q378 => first | omega | (unfold InR at *; split <;> omega) | (unfold InR at *; omega)); (case q379 => first | omega | (unfold InR at *; split <;> omega) | (unfold InR at *; omega))) 
  k_with "val" => assumption
  k_with "isval" => (refine' vIs ?q380; (case q380 => assumption))
  k_steps
  all_goals first
    | exact Grown.ret (post := fun v _ => ∃ t, v = .int y2_3 t) hret ‹_› ‹_› ⟨_, congrArg (Value.int · _) (by unfold InR at *; first | omega | (split <;> omega))⟩ (by repeat (first | exact Grown.refl | (refine Grown.app ?_ ?_; rotate_left; assumption) | (refine Grown.cons ?_ ?_; rotate_left; first | assumption | exact fun p hp => Nat.lt_succ_of_lt (by first | exact l1 p hp | (apply_assumption; assumption)))))
    | exact Grown.retV hret ‹_› ‹_› (by repeat (first | exact Grown.refl | (refine Grown.app ?_ ?_; rotate_left; assumption) | (refine Grown.cons ?_ ?_; rotate_left; first | assumption | exact fun p hp => Nat.lt_succ_of_lt (by first | exact l1 p hp | (apply_assumption; assumption)))))
    | (exfalso; unfold InR at *; omega)) fun q hf => ?_
  simpa only using fq hf (@Eq _ 5 5)
-- T05
theorem c_csteps : ∀ (w : World) (ru rd : Addr) (r : RV) (ns : Int) (ts : Tok) (la ld : Addr) (k1 k2 k3 k4 k5 k6 k7 k8 : Tok) (mn : Int) (t1 : Tok) (led : Led), (ru, instObj 450 rd) ∈ led → (∀ p ∈ led, p.1 ≠ rd) → r.la = la → (la, instObj 797 ld) ∈ led → (ld, dictOf [enS w.params "width" k1 (.int 32 1339), enS w.params "real_digits" k2 (.int 7 1340), enS w.params "double_digits" k3 (.int 15 1341), enS w.params "top_exponent" k4 (.int 38 1342), enS w.params "steps" k5 (.int 1000000 1343), enS w.params "continuations" k6 (.int 19 1344), enS w.params "columns" k7 (.int 72 1345), enS w.params "depth" k8 (.int 40 1346)] 8) ∈ led → 0 ≤ mn → ns + mn ≤ 1000000 → SpecT w 1 16 618 [.ref ru, .int mn t1] ((rd, runD w.params r ns ts) :: led) (fun v n => v = .none ∧ ∃ t, n = (rd, runD w.params r (ns + mn) t) :: led) := by
  refine @dq _ (by
  unfold SpecT
  k_fill
  intro w ru rd r ns ts la ld k1 k2 k3 k4 k5 k6 k7 k8 mn t1 led b1 b2 b3 b4 b5 b6 b7 p loose mean mg mb dp un gd cn cs a ccd cl outer A₀ base h₀ L mm s Q E B F X N T hk hd hu hret
  subst b3
  k_extra "rva"
  k_extra "b1.12"
  k_extra "b2.6"
  intro b1 b2 b5 b6 b7
  k_extra "hd"
  intro B F X N T hk hd hu hret b4
  with_reducible k_extra "bar"
  refine wpAny_call ?_
  k_extra "en"
  k_steps
  all_goals first
    | exact hret _ _ _ _ ‹_› ‹_› ⟨rfl, _, rfl⟩) fun q hf => ?_
  simpa only using fq hf (@Eq _ 5 5)
theorem c_cstep : ∀ (w : World) (ru rd : Addr) (r : RV) (ns : Int) (ts : Tok) (la ld : Addr) (k1 k2 k3 k4 k5 k6 k7 k8 : Tok) (led : Led), (ru, instObj 450 rd) ∈ led → (∀ p ∈ led, p.1 ≠ rd) → r.la = la → (la, instObj 797 ld) ∈ led → (ld, dictOf [enS w.params "width" k1 (.int 32 1339), enS w.params "real_digits" k2 (.int 7 1340), enS w.params "double_digits" k3 (.int 15 1341), enS w.params "top_exponent" k4 (.int 38 1342), enS w.params "steps" k5 (.int 1000000 1343), enS w.params "continuations" k6 (.int 19 1344), enS w.params "columns" k7 (.int 72 1345), enS w.params "depth" k8 (.int 40 1346)] 8) ∈ led → ns + 1 ≤ 1000000 → SpecT w 2 24 625 [.ref ru] ((rd, runD w.params r ns ts) :: led) (fun v n => v = .none ∧ ∃ t, n = (rd, runD w.params r (ns + 1) t) :: led) := by
  refine @dq _ (by
  unfold SpecT
  k_fill
  intro w ru rd r ns ts la ld k1 k2 k3 k4 k5 k6 k7 k8 led b1 b2 b3 b4 b5 b6 p loose mean mg mb dp un gd cn cs a ccd cl outer A₀ base h₀ L mm s Q E B F X N T hk hd hu hret
  subst b3
  k_extra "rva"
  k_extra "b1.12"
  k_extra "b2.4"
  intro b1 b2 b5 b6
  k_extra "hd"
  intro B F X N T hk hd hu hret b4
  with_reducible k_extra "bar"
  refine wpAny_call ?_
  k_extra "en"
  k_with "specT" => (refine' c_csteps _ _ _ _ _ _ _ _ _ _ _ _ _ _ _ _ _ _ _ ?q381 ?q382 rfl ?q383 ?q384 ?q385 ?q386; (case q381 => first | assumption | k_mem); (case q382 => assumption); (case q383 => first | assumption | k_mem); (case q384 => first | assumption | k_mem); (case q385 => omega); (case q386 => omega))
  k_with "openT" => rintro ⟨rfl, t3, rfl⟩
  k_steps
  all_goals first
    | exact hret _ _ _ _ ‹_› ‹_› ⟨rfl, _, rfl⟩) fun q hf => ?_
  simpa only using fq hf (@Eq _ 5 5)
-- T06
theorem c_stval : ∀ (w : World) (D U : Nat) (R1 : Value → Led → Prop) (R : Led → Prop) (ru rd : Addr) (r : RV) (ns : Int) (ts : Tok) (md tg ce : Addr) (q1 q2 : Tok) (ch x : Value) (led : Led), (ru, instObj 450 rd) ∈ led → (rd, runD w.params r ns ts) ∈ led → (r.me, instObj 141 md) ∈ led → (md, dictOf [enS w.params "numeric" q1 (.ref ce), enS w.params "characters" q2 ch] 2) ∈ led → HSpecT w D U 487 [.ref ru, .ref tg] led R1 → (∀ v n, R1 v n → HSpecT w D U 131 [.ref r.me, v, x] n (fun v n => v = .none ∧ R n)) → SpecT w (D + 1) (U + 8) 646 [.ref ru, .ref tg, x] (led) (fun v n => v = .none ∧ R n) := by
  refine @dq _ (by
  unfold SpecT
  k_fill
  k_extra "h0"
  k_extra "b1.12"
  k_extra "b2.6"
  intro b1 b2 b3 b4 b5 b6
  k_extra "hv"
  k_with "specT" => exact HSpecT.use b5
  k_with "specT" => (refine' HSpecT.use (b6 _ _ ?q387); (case q387 => assumption))
  k_with "openT" => first | rintro ⟨rfl, hR⟩ | intro hp1
  k_steps
  all_goals first
    | exact hret _ _ _ _ ‹_› ‹_› ⟨rfl, by assumption⟩) fun q hf => ?_
  simpa only using fq hf (@Eq _ 5 5)
-- T07
theorem c_assign : ∀ (w : World) (D U : Nat) (R1 : Value → Led → Prop) (R : Led → Prop) (ru un tg ex st : Addr) (wd : Value) (at_ : Int) (t1 : Tok) (led : Led), (st, tp [wd, .ref tg, .ref ex]) ∈ led → HSpecT w D U 461 [.ref ru, .ref ex] led R1 → (∀ v n, R1 v n → (st, tp [wd, .ref tg, .ref ex]) ∈ n) → (∀ v n, R1 v n → HSpecT w D U 646 [.ref ru, .ref tg, v] n (fun v n => v = .none ∧ R n)) → SpecT w (D + 1) (U + 8) 653 [.ref ru, .ref un, .int at_ t1, .ref st] (led) (fun v n => (∃ t, v = .int (at_ + 1) t) ∧ R n) := by
  refine @dq _ (by
  unfold SpecT
  k_fill
  k_extra "h0"
  k_extra "b1.12"
  k_extra "b2.2"
  intro b1 b2 b3 b4
  k_extra "hv"
  k_with "specT" => exact HSpecT.use b2
  k_with "specT" => (refine' HSpecT.use (b4 _ _ ?q388); (case q388 => assumption))
  k_with "openT" => first | rintro ⟨rfl, hR⟩ | (intro hp1; have hm1 := b3 _ _ hp1)
  k_steps
  all_goals first
    | exact hret _ _ _ _ ‹_› ‹_› ⟨⟨_, rfl⟩, by assumption⟩) fun q hf => ?_
  simpa only using fq hf (@Eq _ 5 5)
-- T08
theorem c_exec2 : ∀ (w : World) (D U : Nat) (R : Value → Led → Prop) (ru rd : Addr) (r : RV) (ns : Int) (ts : Tok) (sa : Addr) (so : Obj) (sv : List (Str × Value)) (wd : Str) (f st : Addr) (t1 t2 : Tok) (un : Value) (at_ : Int) (x1 : Value) (led : Led), (ru, instObj 450 rd) ∈ led → (rd, runD w.params r ns ts) ∈ led → r.st = sa → (sa, so) ∈ led → (sa == sysModules) = false → so.IsDictOf (strKind WP w) sv → valueAt sv wd = some (.ref f) → keepIn (KK w.params) (.ref f) = true → (st, tp [.str wd t1, x1]) ∈ led → HSpecT w D U f [.ref ru, un, .int at_ t2, .ref st] led R → SpecT w (D + 1) (U + 8) 611 [.ref ru, un, .int at_ t2, .ref st] (led) (R) := by
  refine @dq _ (by
  unfold SpecT
  k_fill
  intro w D U R ru rd r ns ts sa so sv wd f st t1 t2 un at_ x1 led b1 b2 b3 b4 b5 b6 b7 b8 b9 b10 p loose mean mg mb dp un gd cn cs a ccd cl outer A₀ base h₀ L mm s Q E B F X N T hk hd hu hret
  subst b3
  k_extra "rva"
  k_extra "b1.12"
  k_extra "b2.8"
  intro b1 b2 b6 b7 b8 b9 b10
  k_extra "hd"
  intro B F X N T hk hd hu hret b4 b5
  with_reducible k_extra "bar"
  refine wpAny_call ?_
  k_extra "en"
  k_with "val" => assumption
  k_with "isval" => (refine' vIs ?q389; (case q389 => assumption))
  k_with "specT" => exact HSpecT.use b10
  k_with "openT" => intro hp1
  k_steps
  all_goals first
    | exact hret _ _ _ _ ‹_› ‹_› ‹_›) fun q hf => ?_
  simpa only using fq hf (@Eq _ 5 5)
theorem c_exec3 : ∀ (w : World) (D U : Nat) (R : Value → Led → Prop) (ru rd : Addr) (r : RV) (ns : Int) (ts : Tok) (sa : Addr) (so : Obj) (sv : List (Str × Value)) (wd : Str) (f st : Addr) (t1 t2 : Tok) (un : Value) (at_ : Int) (x1 x2 : Value) (led : Led), (ru, instObj 450 rd) ∈ led → (rd, runD w.params r ns ts) ∈ led → r.st = sa → (sa, so) ∈ led → (sa == sysModules) = false → so.IsDictOf (strKind WP w) sv → valueAt sv wd = some (.ref f) → keepIn (KK w.params) (.ref f) = true → (st, tp [.str wd t1, x1, x2]) ∈ led → HSpecT w D U f [.ref ru, un, .int at_ t2, .ref st] led R → SpecT w (D + 1) (U + 8) 611 [.ref ru, un, .int at_ t2, .ref st] (led) (R) := by
  refine @dq _ (by
  unfold SpecT
  k_fill
  intro w D U R ru rd r ns ts sa so sv wd f st t1 t2 un at_ x1 x2 led b1 b2 b3 b4 b5 b6 b7 b8 b9 b10 p loose mean mg mb dp un gd cn cs a ccd cl outer A₀ base h₀ L mm s Q E B F X N T hk hd hu hret
  subst b3
  k_extra "rva"
  k_extra "b1.12"
  k_extra "b2.8"
  k_extra "b3.1"
  intro b1 b2 b6 b7 b8 b9 b10
  k_extra "hd"
  intro B F X N T hk hd hu hret b4 b5
  with_reducible k_extra "bar"
  refine wpAny_call ?_
  k_extra "en"
  k_with "val" => assumption
  k_with "isval" => (refine' vIs ?q390; (case q390 => assumption))
  k_with "specT" => exact HSpecT.use b10
  k_with "openT" => intro hp1
  k_steps
  all_goals first
    | exact hret _ _ _ _ ‹_› ‹_› ‹_›) fun q hf => ?_
  simpa only using fq hf (@Eq _ 5 5)
theorem c_exec6 : ∀ (w : World) (D U : Nat) (R : Value → Led → Prop) (ru rd : Addr) (r : RV) (ns : Int) (ts : Tok) (sa : Addr) (so : Obj) (sv : List (Str × Value)) (wd : Str) (f st : Addr) (t1 t2 : Tok) (un : Value) (at_ : Int) (x1 x2 x3 x4 x5 : Value) (led : Led), (ru, instObj 450 rd) ∈ led → (rd, runD w.params r ns ts) ∈ led → r.st = sa → (sa, so) ∈ led → (sa == sysModules) = false → so.IsDictOf (strKind WP w) sv → valueAt sv wd = some (.ref f) → keepIn (KK w.params) (.ref f) = true → (st, tp [.str wd t1, x1, x2, x3, x4, x5]) ∈ led → HSpecT w D U f [.ref ru, un, .int at_ t2, .ref st] led R → SpecT w (D + 1) (U + 8) 611 [.ref ru, un, .int at_ t2, .ref st] (led) (R) := by
  refine @dq _ (by
  unfold SpecT
  k_fill
  intro w D U R ru rd r ns ts sa so sv wd f st t1 t2 un at_ x1 x2 x3 x4 x5 led b1 b2 b3 b4 b5 b6 b7 b8 b9 b10 p loose mean mg mb dp un gd cn cs a ccd cl outer A₀ base h₀ L mm s Q E B F X N T hk hd hu hret
  subst b3
  k_extra "rva"
  k_extra "b1.12"
  k_extra "b2.12"
  intro b1 b2 b6 b7 b8 b9 b10
  k_extra "hd"
  intro B F X N T hk hd hu hret b4 b5
  with_reducible k_extra "bar"
  refine wpAny_call ?_
  k_extra "en"
  k_with "val" => assumption
  k_with "isval" => (refine' vIs ?q391; (case q391 => assumption))
  k_with "specT" => exact HSpecT.use b10
  k_with "openT" => intro hp1
  k_steps
  all_goals first
    | exact hret _ _ _ _ ‹_› ‹_› ‹_›) fun q hf => ?_
  simpa only using fq hf (@Eq _ 5 5)
theorem c_exec1 : ∀ (w : World) (D U : Nat) (R : Value → Led → Prop) (ru rd : Addr) (r : RV) (ns : Int) (ts : Tok) (sa : Addr) (so : Obj) (sv : List (Str × Value)) (wd : Str) (f st : Addr) (t1 t2 : Tok) (un : Value) (at_ : Int)  (led : Led), (ru, instObj 450 rd) ∈ led → (rd, runD w.params r ns ts) ∈ led → r.st = sa → (sa, so) ∈ led → (sa == sysModules) = false → so.IsDictOf (strKind WP w) sv → valueAt sv wd = some (.ref f) → keepIn (KK w.params) (.ref f) = true → (st, tp [.str wd t1]) ∈ led → HSpecT w D U f [.ref ru, un, .int at_ t2, .ref st] led R → SpecT w (D + 1) (U + 8) 611 [.ref ru, un, .int at_ t2, .ref st] (led) (R) := by
  refine @dq _ (by
  unfold SpecT
  k_fill
  intro w D U R ru rd r ns ts sa so sv wd f st t1 t2 un at_  led b1 b2 b3 b4 b5 b6 b7 b8 b9 b10 p loose mean mg mb dp un gd cn cs a ccd cl outer A₀ base h₀ L mm s Q E B F X N T hk hd hu hret
  subst b3
  k_extra "rva"
  k_extra "b1.12"
  k_extra "b2.6"
  k_extra "b3.1"
  intro b1 b2 b6 b7 b8 b9 b10
  k_extra "hd"
  intro B F X N T hk hd hu hret b4 b5
  with_reducible k_extra "bar"
  refine wpAny_call ?_
  k_extra "en"
  k_with "val" => assumption
  k_with "isval" => (refine' vIs ?q392; (case q392 => assumption))
  k_with "specT" => exact HSpecT.use b10
  k_with "openT" => intro hp1
  k_steps
  all_goals first
    | exact hret _ _ _ _ ‹_› ‹_› ‹_›) fun q hf => ?_
  simpa only using fq hf (@Eq _ 5 5)
-- T09
theorem c_lif1 : ∀ (w : World) (D U : Nat) (R1 : Led → Prop) (R : Value → Led → Prop) (ru un ex st s2 : Addr) (wd : Value) (at_ : Int) (t1 : Tok) (led : Led), (st, tp [wd, .ref ex, .ref s2]) ∈ led → HSpecT w D U 461 [.ref ru, .ref ex] led (fun v n => v = .bool true ∧ R1 n) → (∀ n, R1 n → (st, tp [wd, .ref ex, .ref s2]) ∈ n) → (∀ n t, R1 n → HSpecT w D U 611 [.ref ru, .ref un, .int at_ t, .ref s2] n R) → SpecT w (D + 1) (U + 8) 716 [.ref ru, .ref un, .int at_ t1, .ref st] (led) (R) := by
  refine @dq _ (by
  unfold SpecT
  k_fill
  k_extra "h0"
  k_extra "b1.12"
  k_extra "b2.2"
  intro b1 b2 b3 b4
  k_extra "hv"
  k_with "specT" => exact HSpecT.use b2
  k_with "specT" => (refine' HSpecT.use (b4 _ _ ?q393); (case q393 => assumption))
  k_with "openT" => first | (rintro ⟨rfl, hR⟩; have hm1 := b3 _ hR) | intro hp1
  k_steps
  all_goals first
    | exact hret _ _ _ _ ‹_› ‹_› ‹_›) fun q hf => ?_
  simpa only using fq hf (@Eq _ 5 5)
theorem c_lif0 : ∀ (w : World) (D U : Nat) (R : Led → Prop) (ru un ex st s2 : Addr) (wd : Value) (at_ : Int) (t1 : Tok) (led : Led), (st, tp [wd, .ref ex, .ref s2]) ∈ led → HSpecT w D U 461 [.ref ru, .ref ex] led (fun v n => v = .bool false ∧ R n) → SpecT w (D + 1) (U + 8) 716 [.ref ru, .ref un, .int at_ t1, .ref st] (led) (fun v n => (∃ t, v = .int (at_ + 1) t) ∧ R n) := by
  refine @dq _ (by
  unfold SpecT
  k_fill
  k_extra "h0"
  k_extra "b1.12"
  k_extra "b2.1"
  intro b1 b2
  k_extra "hv"
  k_with "specT" => exact HSpecT.use b2
  k_with "openT" => rintro ⟨rfl, hR⟩
  k_steps
  all_goals first
    | exact hret _ _ _ _ ‹_› ‹_› ⟨⟨_, rfl⟩, by assumption⟩) fun q hf => ?_
  simpa only using fq hf (@Eq _ 5 5)
-- K1
section
variable {prog : Program} {w : World} {A : Around} {E : Value → Shared → Prop} {s : Shared}
noncomputable def mixIs : Sum Str Int → Value → Bool
  | .inl x, v => Value.isStrOf x v
  | .inr n, v => Value.isInt n v
theorem eqB_str_int {a : Str} {t u : Tok} {b : Int} {Q : Bool → Shared → Prop} (h : Q false s) : wpAny (model prog w) A (eqBool (.str a t) (.int b u)) Q E s := by
  have hab : ¬ (Value.str a t == Value.int b u) = true := fun e => nomatch (eq_of_beq e)
  unfold eqBool
  try with_reducible refine wpAny_holding ?_
  rw [if_neg hab]
  exact wpAny_bind (PySem.EqMixed.eq_str_int (wpAny_truthy_bool h))
theorem eqB_int_str {a : Str} {t u : Tok} {b : Int} {Q : Bool → Shared → Prop} (h : Q false s) : wpAny (model prog w) A (eqBool (.int b u) (.str a t)) Q E s := by
  have hab : ¬ (Value.int b u == Value.str a t) = true := fun e => nomatch (eq_of_beq e)
  unfold eqBool
  try with_reducible refine wpAny_holding ?_
  rw [if_neg hab]
  exact wpAny_bind (PySem.EqMixed.eq_int_str (wpAny_truthy_bool h))
/-- keys that are strings or whole numbers -/
noncomputable def mixK (prog : Program) (w : World) : PySem.KeyKind prog w (Sum Str Int) where
  is := mixIs
  hash := fun k => match k with | .inl x => (PySem.strKind prog w).hash x | .inr n => (PySem.intKind prog w).hash n
  inj := fun v a b ha hb => by
    cases a with
    | inl x => cases b with
      | inl y => exact congrArg _ (Value.isStrOf_inj v x y ha hb)
      | inr n =>
        obtain ⟨t, rfl⟩ := Value.isStrOf_shape ha
        obtain ⟨u, hu⟩ := Value.isInt_shape (k := n) (v := .str x t) hb
        exact nomatch hu
    | inr n => cases b with
      | inl y =>
        obtain ⟨t, rfl⟩ := Value.isStrOf_shape hb
        obtain ⟨u, hu⟩ := Value.isInt_shape (k := n) (v := .str y t) ha
        exact nomatch hu
      | inr m => exact congrArg _ (Value.isInt_inj v n m ha hb)
  byValue := fun k v h => by
    cases k with
    | inl x => exact (PySem.strKind prog w).byValue x v h
    | inr n => exact (PySem.intKind prog w).byValue n v h
  pyHash := fun {A E s k v Q} hk h => by
    cases k with
    | inl x => exact (PySem.strKind prog w).pyHash hk h
    | inr n => exact (PySem.intKind prog w).pyHash hk h
  eqBool := fun {A E s a b u v Q} hu hv h => by
    cases a with
    | inl x => cases b with
      | inl y =>
        refine (PySem.strKind prog w).eqBool hu hv ?_
        rw [show decide (x = y) = decide (Sum.inl (β := Int) x = Sum.inl y) by simp]; exact h
      | inr n =>
        obtain ⟨t, rfl⟩ := Value.isStrOf_shape hu
        obtain ⟨t2, rfl⟩ := Value.isInt_shape hv
        refine eqB_str_int ?_
        rw [show decide (Sum.inl (β := Int) x = Sum.inr n) = false by simp] at h; exact h
    | inr n => cases b with
      | inl y =>
        obtain ⟨t, rfl⟩ := Value.isStrOf_shape hv
        obtain ⟨t2, rfl⟩ := Value.isInt_shape hu
        refine eqB_int_str ?_
        rw [show decide (Sum.inr (α := Str) n = Sum.inl y) = false by simp] at h; exact h
      | inr m =>
        refine (PySem.intKind prog w).eqBool hu hv ?_
        rw [show decide (n = m) = decide (Sum.inr (α := Str) n = Sum.inr m) by simp]; exact h
  «strs» := fun k x t v h => by
    cases k with
    | inl y => exact (PySem.strKind prog w).«strs» y x t v h
    | inr n => exact nomatch (Value.isInt_shape (k := n) (v := .str x t) h).choose_spec
noncomputable abbrev lpK (prog : Program) (w : World) : PySem.HeapKind prog w (List (Sum Str Int)) := PySem.tupleKind (mixK prog w)
noncomputable def lpKey (S : Str) (k : Int) : List (Sum Str Int) := [.inl S, .inr k]
/-- the dict of the open loops: none, one -/
def Loop0 (o : Obj) : Prop := o.ExactDict ∧ ∃ es ep, o.data = .dict es ep ∧ es.toList = []
def Loop1 (w : World) (o : Obj) (S : Str) (k : Int) (a : Addr) (v : Value) : Prop := o.ExactDict ∧ ∃ es ep, o.data = .dict es ep ∧ es.toList = [PySem.entryOfKey (lpK WP w) (lpKey S k, a, v)]
theorem mix_s {S : Str} {v : Value} : (mixK prog w).is (.inl S) v = Value.isStrOf S v := rfl
theorem mix_i {k : Int} {v : Value} : (mixK prog w).is (.inr k) v = Value.isInt k v := rfl
theorem lp_is {h : Heap} {a : Addr} {S : Str} {k : Int} {t u : Tok} (hg : h.get? a = some (tp [.str S t, .int k u])) : (lpK WP w).is h (lpKey S k) a :=
  ⟨_, _, _, hg, rfl, rfl, .cons (mix_s.trans (by simp [Value.isStrOf])) (.cons (mix_i.trans (by simp [Value.isInt])) .nil)⟩
theorem Loop0.heap {h : Heap} {d : Addr} {o : Obj} (hg : h.get? d = some o) (h0 : Loop0 o) : h.DictOfH (lpK WP w) d [] := by
  refine viaP fun PZ kZ => ?_
  obtain ⟨a, es, ep, b, c⟩ := h0
  refine kZ ?_; clear kZ PZ
  exact ⟨o, es, ep, hg, a, b, c, (fun x hx => nomatch hx), List.nodup_nil⟩
theorem Loop1.heap {h : Heap} {d a : Addr} {o : Obj} {S : Str} {k : Int} {v : Value} {t u : Tok} (hg : h.get? d = some o) (h1 : Loop1 w o S k a v) (ha : h.get? a = some (tp [.str S t, .int k u])) : h.DictOfH (lpK WP w) d [(lpKey S k, a, v)] := by
  refine viaP fun PZ kZ => ?_
  obtain ⟨x, es, ep, b, c⟩ := h1
  refine kZ ?_; clear kZ PZ
  refine ⟨o, es, ep, hg, x, b, c, fun y hy => ?_, ?_⟩
  · rw [List.mem_singleton.mp hy]; exact lp_is ha
  · exact List.nodup_cons.mpr ⟨(fun h => nomatch h), List.nodup_nil⟩
theorem lp_at {S : Str} {k : Int} {a : Addr} {v : Value} : PySem.atKey [(lpKey S k, a, v)] (lpKey S k) = some (a, v) := by simp [PySem.atKey]
end
section
variable {w : World} {A : Around} {E : Value → Shared → Prop} {s : Shared} {h₀ : Heap} {L d a a0 : Addr} {m : Str → Option Value} {news : List (Addr × Obj)} {g : Obj → List (Addr × Obj)} {o : Obj} {S : Str} {k : Int} {t u t' u' : Tok} {v v' : Value}
theorem lp_set0 {Q : Unit → Shared → Prop} (F : Fr h₀ L s.heap m) (N : News h₀ L s.heap news) (U : UpdF d o news g) (h0 : Loop0 o) (ha : (a, tp [.str S t, .int k u]) ∈ news) (hu : A.units + 1 < cLine)
    (h : ∀ h' o', Fr h₀ L h' m → News h₀ L h' (g o') → Loop1 w o' S k a v → Q () { s with heap := h', toks := s.toks + 3 }) : wpAny (model WP w) A (setItem (.ref d) (.ref a) v) Q E s := by
  refine viaP fun PZ kZ => ?_
  obtain ⟨pre, post, rfl, hg, x, y⟩ := U.split
  refine kZ ?_; clear kZ PZ
  have hm := N (d, o) (List.mem_append_right _ (.head _))
  refine PySem.wpAny_setItem_heap (knd := lpK WP w) (PySem.tupleKind_room_in1 hu) (lp_is (N.get ha)) (h0.heap hm.1) fun h' hmm hs => ?_
  refine viaP fun PZ kZ => ?_
  obtain ⟨o', es', ep', ho', hc', hd', he', _, hn'⟩ := hmm
  refine kZ ?_; clear kZ PZ
  exact h h' o' (F.change hs hm.2.1 hm.2.2) (hg o' ▸ N.setIn x y hs ho') ⟨hc', es', ep', hd', he'⟩
theorem lp_set1 {Q : Unit → Shared → Prop} (F : Fr h₀ L s.heap m) (N : News h₀ L s.heap news) (U : UpdF d o news g) (h1 : Loop1 w o S k a0 v') (h2 : (a0, tp [.str S t', .int k u']) ∈ news) (ha : (a, tp [.str S t, .int k u]) ∈ news) (hu : A.units + 1 < cLine)
    (h : ∀ h' o', Fr h₀ L h' m → News h₀ L h' (g o') → Loop1 w o' S k a0 v → Q () { s with heap := h', toks := s.toks + 3 }) : wpAny (model WP w) A (setItem (.ref d) (.ref a) v) Q E s := by
  refine viaP fun PZ kZ => ?_
  obtain ⟨pre, post, rfl, hg, x, y⟩ := U.split
  refine kZ ?_; clear kZ PZ
  have hm := N (d, o) (List.mem_append_right _ (.head _))
  refine PySem.wpAny_setItem_heap (knd := lpK WP w) (PySem.tupleKind_room_in1 hu) (lp_is (N.get ha)) (h1.heap hm.1 (N.get h2)) (fun h' hmm hs => ?_)
  rw [PySem.storedH_old lp_at] at hmm
  refine viaP fun PZ kZ => ?_
  obtain ⟨o', es', ep', ho', hc', hd', he', _, hn'⟩ := hmm
  refine kZ ?_; clear kZ PZ
  exact h h' o' (F.change hs hm.2.1 hm.2.2) (hg o' ▸ N.setIn x y hs ho') ⟨hc', es', ep', hd', by simpa [PySem.putAt] using he'⟩
theorem lp_notin1 {Q : Value → Shared → Prop} (N : News h₀ L s.heap news) (hd : (d, o) ∈ news) (lo : (d == sysModules) = false) (h1 : Loop1 w o S k a0 v) (h2 : (a0, tp [.str S t', .int k u']) ∈ news) (ha : (a, tp [.str S t, .int k u]) ∈ news) (hu : A.units + 1 < cLine)
    (h : Q (.bool false) { s with toks := s.toks + 3 }) : wpAny (model WP w) A (compareOp .NotIn (.ref a) (.ref d)) Q E s := by
  refine PyProof.Rows.wpAny_notIn_heap (knd := lpK WP w) (PySem.tupleKind_room_in1 hu) (lp_is (N.get ha)) lo (h1.heap (N.get hd) (N.get h2)) ?_
  rw [lp_at]; exact h
theorem lp_item {value slice : PySem.Expr} {Q : Value → Shared → Prop} (N : News h₀ L s.heap news) (hd : (d, o) ∈ news) (h1 : Loop1 w o S k a0 v) (h2 : (a0, tp [.str S t', .int k u']) ∈ news) (ha : (a, tp [.str S t, .int k u]) ∈ news) (hu : A.units + 1 < cLine)
    (h : Q v { s with toks := s.toks + 3 }) (hs : subscripted slice false (.ref d) (.ref a) = operate [.ref d, .ref a] (getItem (.ref d) (.ref a)) := by with_unfolding_all rfl) (hg : ∀ r, letTemporaryGo value (.ref d) r = pure () := by intro _; with_unfolding_all rfl) :
    wpAny (model WP w) A (subscriptTail value slice (.ref d) (.ref a)) Q E s :=
  have hD := h1.heap (N.get hd) (N.get h2)
  subscriptTail_builtin hD.typeIs slot_dict_getitem.lookup (PySem.wpAny_getItem_heap (knd := lpK WP w) (PySem.tupleKind_room_in1 hu) (lp_is (N.get ha)) hD lp_at h) hs hg
end
-- K2
section
variable {w : World} {A : Around} {E : Value → Shared → Prop} {s : Shared} {d a a0 : Addr} {o : Obj} {S : Str} {k : Int} {t u t' u' : Tok} {v : Value}
theorem lp_takeOut {Q : Option DictEntry → Shared → Prop} (hu : A.units < cLine) (ha : s.heap.get? a = some (tp [.str S t, .int k u])) (hd : s.heap.get? d = some o) (h1 : Loop1 w o S k a0 v) (h2 : s.heap.get? a0 = some (tp [.str S t', .int k u']))
    (h : ∀ e h' o', e.val = v → h'.get? d = some o' → Loop0 o' → Heap.SameBut d s.heap h' → Q (some e) { s with heap := h', toks := s.toks + 3 }) : wpAny (model WP w) A (Builtin.Dict.takeOut d (.ref a)) Q E s := by
  refine viaP fun PZ kZ => ?_
  obtain ⟨hc, es, ep, hdat, hes⟩ := h1
  refine kZ ?_; clear kZ PZ
  have hz : es.size = 1 := by rw [← Array.length_toList, hes]; rfl
  have he : es[0]? = some (PySem.entryOfKey (lpK WP w) (lpKey S k, a0, v)) := by rw [← Array.getElem?_toList, hes]; rfl
  unfold Builtin.Dict.takeOut
  try with_reducible refine wpAny_holding ?_
  refine wpAny_bind ((lpK WP w).pyHash (k := lpKey S k) hu (lp_is ha) ?_)
  refine wpAny_bind (PySem.wpAny_dictFind_heap (knd := lpK WP w) (xs := [(lpKey S k, a0, v)]) (s := { s with toks := s.toks + 3 }) hu (lp_is ha) hd hdat hes (fun x hx => by rw [List.mem_singleton.mp hx]; exact lp_is h2) (List.nodup_cons.mpr ⟨(fun h => nomatch h), List.nodup_nil⟩) (fun hn => absurd rfl (hn 0 (a0, v))) (fun j p hj => ?_))
  have hj0 : j = 0 := by
    cases j with
    | zero => rfl
    | succ j => simp at hj
  subst hj0
  refine wpAny_bind (wpAny_dictEntries (s := { s with toks := s.toks + 3 }) hd hdat ?_)
  rw [he]
  refine wpAny_bind (wpAny_updateDictKeys (hz := by rw [hz]; decide) (s := { s with toks := s.toks + 3 }) hd hdat (wpAny_pure ?_))
  refine h _ _ _ rfl (Heap.get?_update_self _ hd (Obj.isFreed_of_dict (Obj.data_mapDictKeys hdat _))) ⟨hc.mapDictKeys _, _, ep + 1, Obj.data_mapDictKeys hdat _, ?_⟩ (Heap.SameBut.update ..)
  obtain ⟨l⟩ := es
  simp only at hes
  subst hes
  simp
end
section
variable {w : World} {A : Around} {E : Value → Shared → Prop} {s : Shared} {h₀ : Heap} {L d a a0 : Addr} {m : Str → Option Value} {news : List (Addr × Obj)} {g : Obj → List (Addr × Obj)} {o : Obj} {S : Str} {k : Int} {t u t' u' : Tok} {v v' : Value}
theorem lp_pop {Q : Value → Shared → Prop} (F : Fr h₀ L s.heap m) (N : News h₀ L s.heap news) (U : UpdF d o news g) (h1 : Loop1 w o S k a0 v) (h2 : (a0, tp [.str S t', .int k u']) ∈ news) (ha : (a, tp [.str S t, .int k u]) ∈ news) (hu : A.units + 1 < cLine)
    (h : ∀ h' o', Fr h₀ L h' m → News h₀ L h' (g o') → Loop0 o' → Q v { s with heap := h', toks := s.toks + 3 }) : wpAny (model WP w) A (call (.builtin "dict.pop") [.ref d, .ref a]) Q E s := by
  refine viaP fun PZ kZ => ?_
  obtain ⟨pre, post, rfl, hg, x, y⟩ := U.split
  refine kZ ?_; clear kZ PZ
  have hm := N (d, o) (List.mem_append_right _ (.head _))
  have hD := h1.heap hm.1 (N.get h2)
  have meets : MeetsIn WP w (Builtin.«dict.pop» ⟨[.ref d, .ref a], []⟩) (fun A R s => A.units + 1 < cLine ∧ s.heap.get? a = some (tp [.str S t, .int k u]) ∧ s.heap.get? d = some o ∧ s.heap.get? a0 = some (tp [.str S t', .int k u']) ∧
      ∀ h' o', h'.get? d = some o' → Loop0 o' → Heap.SameBut d s.heap h' → R (.ok (.ret v)) { s with heap := h', toks := s.toks + 3 }) :=
    .of_wp fun A R s ⟨hu, ga, gd, g0, hR⟩ => by
      have hDs := h1.heap gd g0
      unfold Builtin.«dict.pop»
      refine wpAny_bind ?_
      unfold Builtin.Dict.keyAndDefault
      refine wpAny_bind (wpAny_notOrdered_dict hDs.typeIs ?_)
      show wpAny _ _ (pure (d, Value.ref a, none)) _ _ s
      refine wpAny_pure ?_
      have hp : (keyPart (Value.ref a)).isSome = false := rfl
      refine viaP fun PZ kZ => ?_
      obtain ⟨hc, es, ep, hdat, hes⟩ := id h1
      refine kZ ?_; clear kZ PZ
      have hz : es.isEmpty = false := by
        have : es.size = 1 := by rw [← Array.length_toList, hes]; rfl
        rw [Array.isEmpty, this]; rfl
      simp only [hp, Bool.false_eq_true, if_false]
      refine wpAny_bind (wpAny_dictEntries gd hdat ?_)
      refine wpAny_bind (wpAny_pure ?_)
      rw [hz]
      simp only [Bool.false_eq_true, if_false]
      refine wpAny_bind (lp_takeOut (PySem.tupleKind_room_in1 (knd := mixK WP w) hu) ga gd h1 g0 fun e h' o' hev ho' h0 hs' => ?_)
      simp only [Option.isNone_some, Bool.false_eq_true, if_false]
      exact wpAny_bind (wpAny_letGo (wpAny_pure ⟨e.val, rfl, by rw [hev]; exact hR h' o' ho' h0 hs'⟩))
  exact call_meetsIn PySem.F.slot_dict_pop hD.typeIs PySem.F.entry_dict_pop (PySem.F.args_dict_pop_2 _ _) meets ⟨hu, N.get ha, hm.1, N.get h2, fun h' o' ho' h0 hs => h h' o' (F.change hs hm.2.1 hm.2.2) (hg o' ▸ N.setIn x y hs ho') h0⟩
theorem lp_method {pl : Sem Bool} {Q : Value × List Value → Shared → Prop} (N : News h₀ L s.heap news) (hd : (d, o) ∈ news) (h1 : Loop1 w o S k a0 v) (h2 : (a0, tp [.str S t', .int k u']) ∈ news) (h : Q (.builtin "dict.pop", [.ref d]) s) :
    wpAny (model WP w) A (getMethod (.ref d) (Str.ofString "pop") pl) Q E s := by
  have hD := h1.heap (N.get hd) (N.get h2)
  refine getMethod_builtin hD.typeIs PySem.F.plainAttrs_dict PySem.F.slot_dict_pop PySem.F.type_dict_pop (fun b e => ?_) h
  injection e with e
  subst e
  exact ⟨o, N.get hd, h1.1.2.1⟩
end
-- MB5
/-- the attributes of a UnitTree, of a Flow -/
structure UV where
  (nm : Str) (tn : Tok) (sl : Addr) (a_kind a_dummies a_entries a_symbols a_formats a_labels a_result a_commons a_equivs a_datas a_saves a_constants : Value) (kk : Nat → Tok)
noncomputable abbrev unitD (P : Params) (u : UV) : Obj := dictOf [enS P "kind" (u.kk 0) (u.a_kind), enS P "name" (u.kk 1) (.str u.nm u.tn), enS P "dummies" (u.kk 2) (u.a_dummies), enS P "entries" (u.kk 3) (u.a_entries), enS P "symbols" (u.kk 4) (u.a_symbols), enS P "statements" (u.kk 5) (.ref u.sl), enS P "formats" (u.kk 6) (u.a_formats), enS P "labels" (u.kk 7) (u.a_labels), enS P "result" (u.kk 8) (u.a_result), enS P "commons" (u.kk 9) (u.a_commons), enS P "equivs" (u.kk 10) (u.a_equivs), enS P "datas" (u.kk 11) (u.a_datas), enS P "saves" (u.kk 12) (u.a_saves), enS P "constants" (u.kk 13) (u.a_constants)] 14
structure FV where
  (d_labels d_next_arm d_block_end d_do_end d_ending : Addr) (kk : Nat → Tok)
noncomputable abbrev flowD (P : Params) (u : FV) : Obj := dictOf [enS P "labels" (u.kk 0) (.ref u.d_labels), enS P "next_arm" (u.kk 1) (.ref u.d_next_arm), enS P "block_end" (u.kk 2) (.ref u.d_block_end), enS P "do_end" (u.kk 3) (.ref u.d_do_end), enS P "ending" (u.kk 4) (.ref u.d_ending)] 5
theorem neUV : Nonempty UV := ⟨by constructor <;> first | exact 0 | exact Value.none | exact Str.ofString "" | exact (fun _ => 0) | exact [] | exact default | exact ⟨[], 0⟩⟩
theorem neFV : Nonempty FV := ⟨by constructor <;> first | exact 0 | exact Value.none | exact Str.ofString "" | exact (fun _ => 0) | exact [] | exact default | exact ⟨[], 0⟩⟩
theorem words7 : True := by
  k_with "G7" => (
    k_with "!setItem ref ref" => (k_here; k_dflt (refine' lp_set0 (w := _) ?z24F ?z24N ?z24U ?z24h0 ?z24ha ?z24hu ?_; (case z24F => k_asm); (case z24N => k_asm); (case z24U => k_updF); (case z24h0 => assumption); (case z24ha => first | assumption | k_mem); (case z24hu => ktr_units); k_whole); intro h' o' F' N' hl'; (try dsimp only at N'); (try k_sweep))
    k_with "!setItem ref ref" => (k_here; k_dflt (refine' lp_set1 ?z25F ?z25N ?z25U ?z25h1 ?z25h2 ?z25ha ?z25hu ?_; (case z25F => k_asm); (case z25N => k_asm); (case z25U => k_updF); (case z25h1 => assumption); (case z25h2 => first | assumption | k_mem); (case z25ha => first | assumption | k_mem); (case z25hu => ktr_units); k_whole); intro h' o' F' N' hl'; (try dsimp only at N'); (try k_sweep))
    k_with "!compareOp NotIn ref ref" => (k_here; k_dflt (refine' lp_notin1 ?z26N ?z26d ?z26lo ?z26h1 ?z26h2 ?z26ha ?z26hu ?_; (case z26N => k_asm); (case z26d => first | assumption | k_mem); (case z26lo => assumption); (case z26h1 => assumption); (case z26h2 => first | assumption | k_mem); (case z26ha => first | assumption | k_mem); (case z26hu => ktr_units); k_whole))
    k_with "!subscriptTail Name" => (k_here; (with_reducible show wpAny _ _ (subscriptTail _ _ (Value.ref _) (Value.ref _)) _ _ _); k_dflt (refine' lp_item ?z27N ?z27d ?z27h1 ?z27h2 ?z27ha ?z27hu ?_; (case z27N => k_asm); (case z27d => first | assumption | k_mem); (case z27h1 => assumption); (case z27h2 => first | assumption | k_mem); (case z27ha => first | assumption | k_mem); (case z27hu => ktr_units); k_whole))
    k_with "!getMethod ref" => (k_here; (with_reducible show wpAny _ _ (getMethod (Value.ref _) (Str.ofString "pop") _) _ _ _); k_dflt (refine' lp_method ?z28N ?z28d ?z28h1 ?z28h2 ?_; (case z28N => k_asm); (case z28d => first | assumption | k_mem); (case z28h1 => assumption); (case z28h2 => first | assumption | k_mem); k_whole))
    k_with "!call builtin:dict.pop" => (k_here; (with_reducible show wpAny _ _ (call (Value.builtin _) [Value.ref _, Value.ref _]) _ _ _); k_dflt (refine' lp_pop ?z29F ?z29N ?z29U ?z29h1 ?z29h2 ?z29ha ?z29hu ?_; (case z29F => k_asm); (case z29N => k_asm); (case z29U => k_updF); (case z29h1 => assumption); (case z29h2 => first | assumption | k_mem); (case z29ha => first | assumption | k_mem); (case z29hu => ktr_units); k_whole); intro h' o' F' N' hl'; (try dsimp only at N'); (try k_sweep)))
  k_extra "G7"
  trivial
theorem words8 : True := by
  k_extra "G1"
  k_extra "G2"
  k_extra "G3"
  k_extra "G4"
  k_extra "G5"
  k_extra "G6"
  k_extra "G7"
  trivial
-- T10
theorem c_flowfor : ∀ (w : World) (ru rd : Addr) (r : RV) (ns : Int) (ts : Tok) (un ud : Addr) (u : UV) (fo : Obj) (fv : List (Str × Value)) (fw : Addr) (led : Led), (ru, instObj 450 rd) ∈ led → (rd, runD w.params r ns ts) ∈ led → (un, instObj 818 ud) ∈ led → (ud, unitD w.params u) ∈ led → (r.fl, fo) ∈ led → (r.fl == sysModules) = false → fo.IsDictOf (strKind WP w) fv → valueAt fv u.nm = some (.ref fw) → SpecPW w 1 8 604 [.ref ru, .ref un] led (fun v _ => v = .ref fw) := by
  refine @dq _ (by
  unfold SpecPW
  k_fill
  k_extra "h0"
  k_extra "b1.12"
  k_extra "b2.1"
  intro b1 b2 b3 b4 b5 b6 b7 b8
  k_extra "hv"
  k_with "val" => assumption
  k_with "isval" => (refine' vIs ?q394; (case q394 => assumption))
  k_steps
  all_goals first
    | exact Grown.ret (post := fun v _ => v = .ref y1_12) hret ‹_› ‹_› rfl (by repeat (first | exact Grown.refl | (refine Grown.app ?_ ?_; rotate_left; assumption) | (refine Grown.cons ?_ ?_; rotate_left; first | assumption | exact fun p hp => Nat.lt_succ_of_lt (by first | exact l1 p hp | (apply_assumption; assumption)))))
    | exact Grown.retV hret ‹_› ‹_› (by repeat (first | exact Grown.refl | (refine Grown.app ?_ ?_; rotate_left; assumption) | (refine Grown.cons ?_ ?_; rotate_left; first | assumption | exact fun p hp => Nat.lt_succ_of_lt (by first | exact l1 p hp | (apply_assumption; assumption)))))) fun q hf => ?_
  simpa only using fq hf (@Eq _ 5 5)
theorem c_doend : ∀ (w : World) (x y z : Value) (at_ : Int) (t : Tok) (led : Led), SpecPW w 1 8 765 [x, y, .int at_ t, z] led (fun v n => ∃ a t1 t2, v = .ref a ∧ (a, tp [.str (Str.ofString "return") t1, .int 0 t2]) ∈ n) := by
  refine @dq _ (by
  unfold SpecPW
  k_fill
  k_extra "h0"
  k_extra "b1.6"
  k_extra "b2.1"
  k_extra "hv"
  k_steps
  all_goals first
    | exact Grown.ret (post := fun v n => ∃ a t1 t2, v = .ref a ∧ (a, tp [.str (Str.ofString "return") t1, .int 0 t2]) ∈ n) hret ‹_› ‹_› ⟨_, _, _, rfl, List.mem_cons_self⟩ (by repeat (first | exact Grown.refl | (refine Grown.app ?_ ?_; rotate_left; assumption) | (refine Grown.cons ?_ ?_; rotate_left; first | assumption | exact fun p hp => Nat.lt_succ_of_lt (by first | exact l1 p hp | (apply_assumption; assumption)))))
    | exact Grown.retV hret ‹_› ‹_› (by repeat (first | exact Grown.refl | (refine Grown.app ?_ ?_; rotate_left; assumption) | (refine Grown.cons ?_ ?_; rotate_left; first | assumption | exact fun p hp => Nat.lt_succ_of_lt (by first | exact l1 p hp | (apply_assumption; assumption)))))) fun q hf => ?_
  simpa only using fq hf (@Eq _ 5 5)
-- T11
theorem c_dodo : ∀ (w : World) (D U : Nat) (I I2 : Led → Prop) (J : Value → Led → Prop) (ru rd : Addr) (r : RV) (ns : Int) (ts : Tok) (un ud : Addr) (u : UV) (md ce : Addr) (q1 q2 : Tok) (ch : Value) (st tg e1 e2 e3 : Addr) (wd : Str) (lab cnt at_ : Int) (tx ty : Value) (t1 t2 t3 ta tb tc : Tok) (t4 : Tok) (led : Led), 0 < cnt → I led → (∀ n, I n → ((st, tp [.str wd t1, .int lab t2, .ref tg, .ref e1, .ref e2, .ref e3]) ∈ n ∧ (tg, tp [tx, .int 0 t3, ty]) ∈ n ∧ (ru, instObj 450 rd) ∈ n ∧ (rd, runD w.params r ns ts) ∈ n ∧ (r.me, instObj 141 md) ∈ n ∧ (md, dictOf [enS w.params "numeric" q1 (.ref ce), enS w.params "characters" q2 ch] 2) ∈ n)) → (∀ n, I2 n → ∃ rest lobj, n = (r.lo, lobj) :: rest ∧ Loop0 lobj ∧ (∀ p ∈ rest, p.1 ≠ r.lo) ∧ (ru, instObj 450 rd) ∈ rest ∧ (rd, runD w.params r ns ts) ∈ rest ∧ (un, instObj 818 ud) ∈ rest ∧ (ud, unitD w.params u) ∈ rest) → (∀ n, I n → HSpecT w D U 604 [.ref ru, .ref un] n (fun v n => (∃ a, v = .ref a) ∧ I n)) → (∀ n, I n → HSpecT w D U 461 [.ref ru, .ref e1] n (fun v n => v = .int 1 ta ∧ I n)) → (∀ n, I n → HSpecT w D U 461 [.ref ru, .ref e2] n (fun v n => v = .int cnt tb ∧ I n)) → (∀ n, I n → HSpecT w D U 461 [.ref ru, .ref e3] n (fun v n => v = .int 1 tc ∧ I n)) → (∀ n, I n → HSpecT w D U 433 [.int 0 t3, .int 1 ta, .int cnt tb, .int 1 tc, .ref r.op, .ref r.la] n (fun v n => (∃ t, v = .int cnt t) ∧ I n)) → (∀ n, I n → HSpecT w D U 487 [.ref ru, .ref tg] n (fun v n => J v n ∧ I n)) → (∀ v n, J v n → I n → HSpecT w D U 131 [.ref r.me, v, .int 1 ta] n (fun v n => v = .none ∧ I2 n)) → SpecT w (D + 1) (U + 8) 744 [.ref ru, .ref un, .int at_ t4, .ref st] (led) (fun v n => (∃ t, v = .int (at_ + 1) t) ∧ ∃ rest lobj lobj2 c kt t5 t6 t7 t8, I2 ((r.lo, lobj) :: rest) ∧ n = (kt, tp [.str u.nm t5, .int at_ t6]) :: (c, tp [.int cnt t7, .int 1 t8]) :: (r.lo, lobj2) :: rest ∧ Loop1 w lobj2 u.nm at_ kt (.ref c) ∧ (@LT.lt Nat _ r.lo c ∧ AllLt c rest) ∧ @LT.lt Nat _ c kt ∧ @LT.lt Nat _ r.lo kt ∧ AllLt kt rest) := by
  refine @dq _ (by
  unfold SpecT
  k_fill
  k_extra "h0"
  k_extra "b1.12"
  k_extra "b2.12"
  k_extra "b3.12"
  k_extra "b4.2"
  intro b1 b2 b3 b4 b5 b6 b7 b8 b9 b10 b11
  k_extra "hd"
  intro B F X N T hk hd hu hret
  with_reducible k_extra "bar"
  have fI := b3 _ b2
  obtain ⟨f1, f2, f3, f4, f5, f6⟩ := fI
  refine wpAny_call ?_
  k_extra "en"
  k_with "specT" => (refine' HSpecT.use (b5 _ ?q395); (case q395 => assumption))
  k_with "specT" => (refine' HSpecT.use (b6 _ ?q396); (case q396 => assumption))
  k_with "specT" => (refine' HSpecT.use (b7 _ ?q397); (case q397 => assumption))
  k_with "specT" => (refine' HSpecT.use (b8 _ ?q398); (case q398 => assumption))
  k_with "specT" => (refine' HSpecT.use (b9 _ ?q399); (case q399 => assumption))
  k_with "specT" => (refine' HSpecT.use (b10 _ ?q400); (case q400 => assumption))
  k_with "specT" => (refine' HSpecT.use (b11 _ _ ?q401 ?q402); (case q401 => assumption); (case q402 => assumption))
  k_with "openT" => first | (rintro ⟨rfl, hI⟩; obtain ⟨rest, lobj, rfl, g1, g2, g3, g4, g5, g6⟩ := b4 _ hI) | (rintro ⟨rfl, hI⟩; obtain ⟨f1, f2, f3, f4, f5, f6⟩ := b3 _ hI) | (rintro ⟨⟨_, rfl⟩, hI⟩; obtain ⟨f1, f2, f3, f4, f5, f6⟩ := b3 _ hI) | (rintro ⟨hJ, hI⟩; obtain ⟨f1, f2, f3, f4, f5, f6⟩ := b3 _ hI)
  k_steps
  all_goals first
    | exact hret _ _ _ _ ‹_› ‹_› ⟨⟨_, rfl⟩, _, _, _, _, _, _, _, _, _, by assumption, rfl, by assumption, by assumption, by assumption⟩) fun q hf => ?_
  simpa only using fq hf (@Eq _ 5 5)
-- MB6
inductive Pick (d : Addr) (o : Obj) : Led → Led → Prop
  | head {r} : (∀ p ∈ r, p.1 ≠ d) → Pick d o ((d, o) :: r) r
  | cons {p r r'} : p.1 ≠ d → Pick d o r r' → Pick d o (p :: r) (p :: r')
theorem Pick.all {d : Addr} {o : Obj} {l l' : Led} (h : Pick d o l l') : (∀ p ∈ l', p.1 ≠ d) ∧ ∀ p ∈ (d, o) :: l', p ∈ l := by
  induction h with
  | head h => exact ⟨h, fun p hp => hp⟩
  | cons h _ ih =>
    refine ⟨fun p hp => ?_, fun p hp => ?_⟩
    · rcases List.mem_cons.mp hp with rfl | hp
      · exact h
      · exact ih.1 p hp
    · rcases List.mem_cons.mp hp with rfl | hp
      · exact .tail _ (ih.2 _ (.head _))
      · rcases List.mem_cons.mp hp with rfl | hp
        · exact .head _
        · exact .tail _ (ih.2 _ (.tail _ hp))
theorem SpecT.pick {w : World} {D U : Nat} {f : Addr} {args : List Value} {led X : Led} {d : Addr} {o : Obj} {post : Value → Led → Prop} (P : Pick d o led X) (C : (∀ p ∈ X, p.1 ≠ d) → SpecT w D U f args ((d, o) :: X) post) : SpecT w D U f args led post :=
  (C P.all.1).weak (Nat.le_refl _) (Nat.le_refl _) P.all.2 fun _ _ h => h
theorem SpecPW.drop {w : World} {D U : Nat} {f : Addr} {args : List Value} {led : Led} {P : Value → Prop} (C : SpecPW w D U f args led (fun v _ => P v)) : SpecT w D U f args led (fun v n => n = led ∧ P v) :=
  C.t.post fun v n h => ⟨led, h.1.sub, rfl, h.2⟩
theorem HSpec.of {w : World} {D U : Nat} {f : Addr} {args : List Value} {led : Led} {post : Value → Led → Prop} (h : SpecPW w D U f args led post) : HSpec w D U f args led post := h
theorem HSpecT.of {w : World} {D U : Nat} {f : Addr} {args : List Value} {led : Led} {post : Value → Led → Prop} (h : SpecT w D U f args led post) : HSpecT w D U f args led post := h
/-- no address stands twice -/
def Fn (n : Led) : Prop := ∀ p ∈ n, ∀ q ∈ n, p.1 = q.1 → p.2 = q.2
theorem SpecT.postN {w : World} {D U : Nat} {f : Addr} {args : List Value} {led : Led} {post post' : Value → Led → Prop} (C : SpecT w D U f args led post) (hp : ∀ v n, Fn n → post v n → ∃ n', (∀ p ∈ n', p ∈ n) ∧ post' v n') : SpecT w D U f args led post' := by
  intro p loose mean mg mb dp un gd cn cs a ccd cl outer A₀ base h₀ L m s Q E B F X N T hk hd hu hret
  exact C _ _ _ _ _ _ _ _ _ _ _ _ _ _ _ _ _ _ _ _ _ _ B F X N T hk hd hu fun v n h' tk' F' N' q => by
    obtain ⟨n', h1, h2⟩ := hp _ _ (fun p hp q hq e => by
      have a := (N' p hp).1
      have b := (N' q hq).1
      rw [e] at a
      exact Option.some.inj (a.symm.trans b)) q
    exact hret v n' h' tk' F' (fun p hp => N' p (h1 p hp)) h2
theorem unrEnd_pick {h₀ : Heap} {L I : Addr} {it : Obj} {rest : (Str → Option Value) → List (Addr × Obj) → Prop} {s₁ : Shared} {h' : Heap} {tk : Nat} {m' : Str → Option Value} {all X : List (Addr × Obj)} (F : Fr h₀ L h' m') (N : News h₀ L h' all) (P : Pick I it all X) (r : rest m' X) :
    UnrEnd h₀ L s₁ I it rest { s₁ with heap := h', toks := tk } := UnrEnd.intro F N X P.all.2 P.all.1 r
theorem words9 : True := by
  k_with "G9" => (
    k_with "m:k_upd" => first | (refine' Pick.head ?z30a; (case z30a => k_all)) | (refine' Pick.cons ?z30a ?z30b; (case z30a => k_ne); (case z30b => k_upd))
    k_with "!exec For Name Subscript cons nil" => (k_here; (rename Fr _ _ _ _ => lF'); (with_reducible refine' For_invVF lF' ?z31k1 ?z31k2 ?_ ?z31hs ?z31hE); (with_unfolding_all ((case z31k1 => exact rfl); (case z31k2 => exact rfl); (case z31hs => intro _; rfl); (case z31hE => with_reducible first | exact PySem.PassesOwn.never | exact PySem.PassesOwn.leaving | exact PySem.PassesOwn.looking); k_whole)))
    k_with "!pyIter ref" => (k_here; (with_reducible show wpAny _ _ (pyIter (Value.ref _)) (fun it s₂ => LoopAtV _ _ _ _ _ _ _ _ _ it s₂) _ _); (rename Fr _ _ _ _ => lF'); (rename News _ _ _ _ => lN'); (with_unfolding_all refine' iter_listUnr ?z32hh lF' lN' ?z32hm ?z32hc ?z32hd ?_; (case z32hh => rfl); (case z32hm => k_mem); (case z32hc => rfl); (case z32hd => rfl)); clear lF' lN'; intro i' l1; (try k_lt l1))
    k_with "!UnrEnd" => (k_dflt (refine' unrEnd_pick ?z33F ?z33N ?z33P ⟨?z33m, ?_⟩; (case z33F => k_asm); (case z33N => k_asm); (case z33P => k_upd); (case z33m => k_mem); k_whole)))
  k_extra "G9"
  trivial
-- T12
theorem stp_dummy : True := trivial
theorem c_step1 : ∀ (w : World) (ru rd : Addr) (r : RV) (ns : Int) (ts : Tok) (un ud : Addr) (u : UV) (fo : Obj) (fv : List (Str × Value)) (oo : Obj) (ov : List (Int × Value)) (md : Addr) (q1 q2 : Tok) (ch : Value) (fw fd : Addr) (fl : FV) (en : Obj) (ev : List (Int × Value)) (li : Addr) (ln : Nat) (ce : Addr) (vs : List Value) (nn : Nat) (lobj : Obj) (sts : List Value) (sn : Nat) (start ed cnt kv lab : Int) (s1 st tg e1 e2 e3 kt0 c0 ck pa : Addr) (wd : Str) (sx sy z1 z2 : Value) (tl t1 t2 t3 t4 t5 t6 t7 t8 t9 ta tb tc td te tf : Tok) (led : Led), (ru, instObj 450 rd) ∈ led → (rd, runD w.params r ns ts) ∈ led → (un, instObj 818 ud) ∈ led → (ud, unitD w.params u) ∈ led → (r.fr, fo) ∈ led → (r.fr == sysModules) = false → fo.IsDictOf (strKind WP w) fv → (r.op, oo) ∈ led → (r.op == sysModules) = false → oo.IsDictOf (intKind WP w) ov → valueAt ov 0 = some (.ref 292) → LimIs w.params led r.la → (r.me, instObj 141 md) ∈ led → (md, dictOf [enS w.params "numeric" q1 (.ref ce), enS w.params "characters" q2 ch] 2) ∈ led → (fw, instObj 546 fd) ∈ led → (fd, flowD w.params fl) ∈ led → (fl.d_ending, en) ∈ led → en.IsDictOf (intKind WP w) ev → valueAt ev ed = some (.ref li) → (li, listOf [.int start tl].toArray ln) ∈ led → (u.sl, listOf sts.toArray sn) ∈ led → sts[start.toNat]? = some (.ref s1) → (s1, tp [sx, .ref st, sy]) ∈ led → (st, tp [.str wd t1, .int lab t2, .ref tg, .ref e1, .ref e2, .ref e3]) ∈ led → (tg, tp [.str (Str.ofString "var") t3, .int 0 t4, .str (Str.ofString "K") t5]) ∈ led → (r.lo == sysModules) = false → Loop1 w lobj u.nm start kt0 (.ref c0) → (kt0, tp [.str u.nm t6, .int start t7]) ∈ led → (c0, tp [.int cnt t8, .int 1 t9]) ∈ led → (∀ p ∈ led, p.1 ≠ ce) → (∀ p ∈ led, p.1 ≠ r.lo) → @Ne Nat r.lo ce → vs.length = 25 → vs[(24 : Int).toNat]? = some (.ref ck) → (ck, tp [.int 0 ta, .int kv tb]) ∈ led → valueAt fv (Str.ofString "K") = some (.ref pa) → (pa, tp [.int 0 tc, .int 24 td, z1, z2]) ∈ led → 0 ≤ kv → kv < 1000 → 0 ≤ start → start < 100 → 1 < cnt → SpecT w 6 60 751 [.ref ru, .ref un, .ref fw, .int ed te, .int 0 tf] ((ce, listOf vs.toArray nn) :: (r.lo, lobj) :: led) (fun v n => (∃ t, v = .int (start + 1) t) ∧ ∃ c1 c2 lobj2 t10 t11 t12, (∀ p ∈ led, p ∈ n) ∧ (ce, listOf (vs.set (24 : Int).toNat (.ref c1)).toArray nn) ∈ n ∧ (c1, tp [.int 0 t10, .int (kv + 1) t11]) ∈ n ∧ (r.lo, lobj2) ∈ n ∧ (c2, tp [.int (cnt - 1) t12, .int 1 t9]) ∈ n ∧ Loop1 w lobj2 u.nm start kt0 (.ref c2)) := by
  refine @dq _ (by
  unfold SpecT
  k_fill
  k_extra "h0"
  k_extra "b1.12"
  k_extra "b2.12"
  k_extra "b3.12"
  k_extra "b4.12"
  k_extra "b5.12"
  k_extra "b6.6"
  k_extra "b7.1"
  intro b1 b2 b3 b4 b5 b6 b7 b8 b9 b10 b11 b12 b13 b14 b15 b16 b17 b18 b19 b20 b21 b22 b23 b24 b25 b26 b27 b28 b29 b30 b31 b32 b33 b34 b35 b36 b37 b38 b39 b40 b41 b42
  k_extra "hv"
  k_with "val" => assumption
  k_with "isval" => (refine' vIs ?q403; (case q403 => assumption))
  k_with "len" => assumption
  k_with "item" => assumption
  k_with "specV" => (refine' c_mload0 y3_1 y3_2 y3_3  _ _ _ _ _ _ _ _ _ _ _ _ _ _ _ _ ?q404 ?q405 ?q406 ?q407 ?q408 ?q409 ?q410 ?q411 ?q412; (case q404 => first | assumption | k_mem); (case q405 => assumption); (case q406 => first | assumption | k_mem); (case q407 => first | assumption | k_mem); (case q408 => first | assumption | k_mem); (case q409 => omega); (case q410 => omega); (case q411 => assumption); (case q412 => first | assumption | k_mem))
  k_with "specT" => (refine' SpecPW.drop (c_place _  _ _ _ _ _ _ _ _ _ _ _ _ _ _ _ _ ?q413 ?q414 ?q415 ?q416 ?q417 ?q418 ?q419 ?q420); (case q413 => first | assumption | k_mem); (case q414 => first | assumption | k_mem); (case q415 => first | assumption | k_mem); (case q416 => assumption); (case q417 => assumption); (case q418 => assumption); (case q419 => first | assumption | k_mem); (case q420 => first | assumption | k_mem))
  k_with "specT" => exact SpecPW.drop (P := fun v => ∃ t, v = .int (y3_10 + 1) t) (c_reckon _ 3 24 (fun v _ => ∃ t, v = .int (y3_10 + 1) t)  _ _ _ _ _ _ _ _ _ _ _ _ _ _ _ (by first | assumption | k_mem) (by first | assumption | k_mem) (by first | assumption | k_mem) ‹_› ‹_› ‹_› rfl (fun y5_6 y5_7 => HSpec.of (rop_int (LimIs.sub ‹_› (fun p hp => by k_mem)) _ _ y5_6 y5_7 (Or.inl ⟨rfl, rfl⟩) (by omega) (by omega))))
  k_with "specT" => exact SpecT.pick (d := y3_1) (by k_upd) (fun hX => c_mst0 _ y3_1 y3_2 y3_3  _ _ _ _ _ _ _ _ _ _ _ _ _ hX ‹_› (by first | assumption | k_mem) (by first | assumption | k_mem) (by first | assumption | k_mem) (by omega) (by omega))
  k_with "openT" => first | rintro ⟨rfl, rfl⟩ | rintro ⟨rfl, _, rfl⟩ | (rintro ⟨rfl, c1, y5_6, rfl, l1⟩; simp only [AllLt] at l1)
  k_steps
  all_goals first
    | exact hret _ _ _ _ ‹_› ‹_› ⟨⟨_, rfl⟩, _, _, _, _, _, _, (fun p hp => by k_mem), by k_mem, by k_mem, by k_mem, by k_mem, by assumption⟩) fun q hf => ?_
  simpa only using fq hf (@Eq _ 5 5)
-- T13
theorem c_step0 : ∀ (w : World) (ru rd : Addr) (r : RV) (ns : Int) (ts : Tok) (un ud : Addr) (u : UV) (fo : Obj) (fv : List (Str × Value)) (oo : Obj) (ov : List (Int × Value)) (md : Addr) (q1 q2 : Tok) (ch : Value) (fw fd : Addr) (fl : FV) (en : Obj) (ev : List (Int × Value)) (li : Addr) (ln : Nat) (ce : Addr) (vs : List Value) (nn : Nat) (lobj : Obj) (sts : List Value) (sn : Nat) (start ed kv lab : Int) (s1 st tg e1 e2 e3 kt0 c0 ck pa : Addr) (wd : Str) (sx sy z1 z2 : Value) (tl t1 t2 t3 t4 t5 t6 t7 t8 t9 ta tb tc td te tf : Tok) (led : Led), (ru, instObj 450 rd) ∈ led → (rd, runD w.params r ns ts) ∈ led → (un, instObj 818 ud) ∈ led → (ud, unitD w.params u) ∈ led → (r.fr, fo) ∈ led → (r.fr == sysModules) = false → fo.IsDictOf (strKind WP w) fv → (r.op, oo) ∈ led → (r.op == sysModules) = false → oo.IsDictOf (intKind WP w) ov → valueAt ov 0 = some (.ref 292) → LimIs w.params led r.la → (r.me, instObj 141 md) ∈ led → (md, dictOf [enS w.params "numeric" q1 (.ref ce), enS w.params "characters" q2 ch] 2) ∈ led → (fw, instObj 546 fd) ∈ led → (fd, flowD w.params fl) ∈ led → (fl.d_ending, en) ∈ led → en.IsDictOf (intKind WP w) ev → valueAt ev ed = some (.ref li) → (li, listOf [.int start tl].toArray ln) ∈ led → (u.sl, listOf sts.toArray sn) ∈ led → sts[start.toNat]? = some (.ref s1) → (s1, tp [sx, .ref st, sy]) ∈ led → (st, tp [.str wd t1, .int lab t2, .ref tg, .ref e1, .ref e2, .ref e3]) ∈ led → (tg, tp [.str (Str.ofString "var") t3, .int 0 t4, .str (Str.ofString "K") t5]) ∈ led → (r.lo == sysModules) = false → Loop1 w lobj u.nm start kt0 (.ref c0) → (kt0, tp [.str u.nm t6, .int start t7]) ∈ led → (c0, tp [.int 1 t8, .int 1 t9]) ∈ led → (∀ p ∈ led, p.1 ≠ ce) → (∀ p ∈ led, p.1 ≠ r.lo) → @Ne Nat r.lo ce → vs.length = 25 → vs[(24 : Int).toNat]? = some (.ref ck) → (ck, tp [.int 0 ta, .int kv tb]) ∈ led → valueAt fv (Str.ofString "K") = some (.ref pa) → (pa, tp [.int 0 tc, .int 24 td, z1, z2]) ∈ led → 0 ≤ kv → kv < 1000 → 0 ≤ start → start < 100 → SpecT w 6 60 751 [.ref ru, .ref un, .ref fw, .int ed te, .int 0 tf] ((ce, listOf vs.toArray nn) :: (r.lo, lobj) :: led) (fun v n => (∃ t, v = .int (ed + 1) t) ∧ ∃ c1 lobj2 t10 t11, (∀ p ∈ led, p ∈ n) ∧ (ce, listOf (vs.set (24 : Int).toNat (.ref c1)).toArray nn) ∈ n ∧ (c1, tp [.int 0 t10, .int (kv + 1) t11]) ∈ n ∧ (r.lo, lobj2) ∈ n ∧ Loop0 lobj2) := by
  refine @dq _ (by
  unfold SpecT
  k_fill
  k_extra "h0"
  k_extra "b1.12"
  k_extra "b2.12"
  k_extra "b3.12"
  k_extra "b4.12"
  k_extra "b5.12"
  k_extra "b6.6"
  intro b1 b2 b3 b4 b5 b6 b7 b8 b9 b10 b11 b12 b13 b14 b15 b16 b17 b18 b19 b20 b21 b22 b23 b24 b25 b26 b27 b28 b29 b30 b31 b32 b33 b34 b35 b36 b37 b38 b39 b40 b41
  k_extra "hv"
  k_with "val" => assumption
  k_with "isval" => (refine' vIs ?q421; (case q421 => assumption))
  k_with "len" => assumption
  k_with "item" => assumption
  k_with "specV" => (refine' c_mload0 y3_1 y3_2 y3_3  _ _ _ _ _ _ _ _ _ _ _ _ _ _ _ _ ?q422 ?q423 ?q424 ?q425 ?q426 ?q427 ?q428 ?q429 ?q430; (case q422 => first | assumption | k_mem); (case q423 => assumption); (case q424 => first | assumption | k_mem); (case q425 => first | assumption | k_mem); (case q426 => first | assumption | k_mem); (case q427 => omega); (case q428 => omega); (case q429 => assumption); (case q430 => first | assumption | k_mem))
  k_with "specT" => (refine' SpecPW.drop (c_place _  _ _ _ _ _ _ _ _ _ _ _ _ _ _ _ _ ?q431 ?q432 ?q433 ?q434 ?q435 ?q436 ?q437 ?q438); (case q431 => first | assumption | k_mem); (case q432 => first | assumption | k_mem); (case q433 => first | assumption | k_mem); (case q434 => assumption); (case q435 => assumption); (case q436 => assumption); (case q437 => first | assumption | k_mem); (case q438 => first | assumption | k_mem))
  k_with "specT" => exact SpecPW.drop (P := fun v => ∃ t, v = .int (y3_9 + 1) t) (c_reckon _ 3 24 (fun v _ => ∃ t, v = .int (y3_9 + 1) t)  _ _ _ _ _ _ _ _ _ _ _ _ _ _ _ (by first | assumption | k_mem) (by first | assumption | k_mem) (by first | assumption | k_mem) ‹_› ‹_› ‹_› rfl (fun y5_5 y5_6 => HSpec.of (rop_int (LimIs.sub ‹_› (fun p hp => by k_mem)) _ _ y5_5 y5_6 (Or.inl ⟨rfl, rfl⟩) (by omega) (by omega))))
  k_with "specT" => exact SpecT.pick (d := y3_1) (by k_upd) (fun hX => c_mst0 _ y3_1 y3_2 y3_3  _ _ _ _ _ _ _ _ _ _ _ _ _ hX ‹_› (by first | assumption | k_mem) (by first | assumption | k_mem) (by first | assumption | k_mem) (by omega) (by omega))
  k_with "openT" => first | rintro ⟨rfl, rfl⟩ | rintro ⟨rfl, _, rfl⟩ | (rintro ⟨rfl, c1, y5_5, rfl, l1⟩; simp only [AllLt] at l1)
  k_steps
  all_goals first
    | exact hret _ _ _ _ ‹_› ‹_› ⟨⟨_, rfl⟩, _, _, _, _, (fun p hp => by k_mem), by k_mem, by k_mem, by k_mem, by assumption⟩) fun q hf => ?_
  simpa only using fq hf (@Eq _ 5 5)
-- MB7
structure WS where
  (k : Nat) (at_ : Int) (tok : Tok) (led : Led)
def SOut (I : Nat → Int → Led → Prop) (k : Nat) (v : Value) (n : Led) : Prop := ∃ at2 k2, k = k2 + 1 ∧ (∃ t, v = .int at2 t) ∧ I k2 at2 n
theorem SOut.out {I : Nat → Int → Led → Prop} {k : Nat} {v : Value} {n : Led} (h : SOut I k v n) : ∃ at2 k2, k = k2 + 1 ∧ (∃ t, v = .int at2 t) ∧ I k2 at2 n := h
theorem words10 : True := by
  k_with "G10" => (
    k_with "!compareOp In int ref" => (k_here; k_dflt ((refine' kda_in (knd := PySem.intKind _ _) ?q439 ?q440 ?q441 ?q442 (intKind_is _ _ _ _) true ?q443 ?_; (case q439 => k_asm); (case q440 => first | assumption | k_mem); (case q441 => assumption); (case q442 => assumption); (case q443 => assumption))))
    k_with "!compareOp In int ref" => (k_here; k_dflt ((refine' kda_in (knd := PySem.intKind _ _) ?q444 ?q445 ?q446 ?q447 (intKind_is _ _ _ _) false ?q448 ?_; (case q444 => k_asm); (case q445 => first | assumption | k_mem); (case q446 => assumption); (case q447 => assumption); (case q448 => assumption))))
    k_with "!KswEnd" => (k_dflt (k_extra "KswEnd")))
  k_extra "G10"
  trivial
structure FY where
  (S : Led) (fw fd : Addr) (fl : FV) (en : Obj) (ev : List (Int × Value))
theorem neFY : Nonempty FY := neFV.elim fun f => ⟨⟨[],0,0,f,dictOf [] 0,[]⟩⟩
-- T14
theorem c_rununit : ∀ (w : World) (D U : Nat) (I I1 I2 : FY → Nat → Int → Led → Prop) (Fin : Led → Prop) (ru un ud : Addr) (u : UV) (sts : List Value) (sn k0 : Nat) (ts : Tok) (led : Led), sts.length = 15 → HSpecT w D U 604 [.ref ru, .ref un] led (fun v n => ∃ y : FY, v = .ref y.fw ∧ (y.fl.d_ending == sysModules) = false ∧ y.en.IsDictOf (intKind WP w) y.ev ∧ I y k0 0 n) → (∀ y k at_ n, I y k at_ n → ((un, instObj 818 ud) ∈ n ∧ (ud, unitD w.params u) ∈ n ∧ (u.sl, listOf sts.toArray sn) ∈ n ∧ (y.fw, instObj 546 y.fd) ∈ n ∧ (y.fd, flowD w.params y.fl) ∈ n ∧ (y.fl.d_ending, y.en) ∈ n) ∧ 0 ≤ at_ ∧ at_ < 15 ∧ HSpecT w D U 625 [.ref ru] n (fun v n => v = .none ∧ I1 y k at_ n)) → (∀ y k at_ n, I1 y k at_ n → ((un, instObj 818 ud) ∈ n ∧ (ud, unitD w.params u) ∈ n ∧ (u.sl, listOf sts.toArray sn) ∈ n ∧ (y.fw, instObj 546 y.fd) ∈ n ∧ (y.fd, flowD w.params y.fl) ∈ n ∧ (y.fl.d_ending, y.en) ∈ n) ∧ 0 ≤ at_ ∧ at_ < 15 ∧ ∃ s1 st x x2, sts[at_.toNat]? = some (.ref s1) ∧ (s1, tp [x, .ref st, x2]) ∈ n ∧ ∀ t, HSpecT w D U 611 [.ref ru, .ref un, .int at_ t, .ref st] n (fun v n => (((un, instObj 818 ud) ∈ n ∧ (ud, unitD w.params u) ∈ n ∧ (u.sl, listOf sts.toArray sn) ∈ n ∧ (y.fw, instObj 546 y.fd) ∈ n ∧ (y.fd, flowD w.params y.fl) ∈ n ∧ (y.fl.d_ending, y.en) ∈ n) ∧ (∃ t, v = .int (at_ + 1) t) ∧ (valueAt y.ev at_).isSome = false ∧ ∃ k2, k = k2 + 1 ∧ I y k2 (at_ + 1) n) ∨ (((un, instObj 818 ud) ∈ n ∧ (ud, unitD w.params u) ∈ n ∧ (u.sl, listOf sts.toArray sn) ∈ n ∧ (y.fw, instObj 546 y.fd) ∈ n ∧ (y.fd, flowD w.params y.fl) ∈ n ∧ (y.fl.d_ending, y.en) ∈ n) ∧ (∃ t, v = .int (at_ + 1) t) ∧ (valueAt y.ev at_).isSome = true ∧ I2 y k at_ n) ∨ (∃ a t1 t2, v = .ref a ∧ (a, tp [.str (Str.ofString "return") t1, .int 0 t2]) ∈ n ∧ Fin n))) → (∀ y k at_ n, I2 y k at_ n → ∀ t t2, HSpecT w D U 751 [.ref ru, .ref un, .ref y.fw, .int at_ t, .int 0 t2] n (fun v n => SOut (I y) k v n)) → SpecT w (D + 1) (U + 8) 632 [.ref ru, .ref un, .int 0 ts] (led) (fun v n => (∃ t, v = .int 0 t) ∧ Fin n) := by
  refine @dq _ (by
  unfold SpecT
  k_fill
  k_extra "h0"
  k_extra "b1.12"
  k_extra "b2.4"
  intro b1 b4 b5 b6 b7
  k_extra "hv"
  k_with "len" => assumption
  k_with "item" => assumption
  k_with "val" => assumption
  k_with "isval" => (refine' vIs ?q449; (case q449 => assumption))
  k_with "!exec While Compare cons nil" => ((rename FY => yy); (rename Fr _ _ _ _ => lF'); (rename News _ _ _ _ => lN'); (with_unfolding_all refine' ksw_while (fun c : WS => c.led) (fun c : WS => [(Str.ofString "at", Value.int c.at_ c.tok)]) (fun c : WS => y1_4 yy c.k c.at_ c.led) [Str.ofString "found"] (fun _ => True) (fun c : WS => c.k) ⟨y2_2, 0, y2_3, _⟩ lF' lN' ?kf ?kk trivial ?_); (case kf => assumption); (case kk => (intro p hp; rw [List.mem_singleton.mp hp]; rfl)); clear lF' lN'; intro ⟨k, at_, tok, n⟩ uu hh tk hI _ F' N'; dsimp only [kstB] at F'; dsimp only at hI N'; obtain ⟨⟨f1, f2, f3, f4, f5, f6⟩, a1, a2, hC⟩ := b5 _ _ _ _ hI; all_goals (try k_fold))
  k_with "specT" => exact HSpecT.use b4
  k_with "specT" => (refine' HSpecT.use ?q450; (case q450 => assumption))
  k_with "specT" => exact HSpecT.use (hX _)
  k_with "specT" => (refine' HSpecT.use (b7 _ _ _ _ ?q451 _ _); (case q451 => assumption))
  k_with "openT" => first | ((show (∃ y : FY, _) → _); rintro ⟨yy, rfl, b2, b3, hI1⟩) | (rintro ⟨rfl, hI1⟩; (rename y1_5 _ _ _ _ => q9); obtain ⟨⟨f1, f2, f3, f4, f5, f6⟩, a1, a2, s1, st, x, y, g1, g2, hX⟩ := b6 _ _ _ _ q9) | rintro ⟨rfl, hI1⟩ | ((show SOut _ _ _ _ → _); intro hO; obtain ⟨at2, k2, hk2, ⟨_, rfl⟩, hI3⟩ := SOut.out hO) | (rintro (⟨⟨f1, f2, f3, f4, f5, f6⟩, ⟨_, rfl⟩, hs, k2, hk2, hI3⟩ | ⟨⟨f1, f2, f3, f4, f5, f6⟩, ⟨_, rfl⟩, hs, hI2⟩ | ⟨a, t1, t2, rfl, hm, hF⟩))
  k_with "!KswEnd" => first | (exfalso; omega) | (refine' ksw_end (WS.mk _ _ _ _) ?q452 ?q453 (fun p hp => hp) ?q454 ?q455 ?q456 trivial (Nat.lt_of_lt_of_eq (Nat.lt_succ_self _) (Eq.symm hk2)); (case q452 => assumption); (case q453 => assumption); (case q454 => assumption); (case q455 => kst_all); (case q456 => ksw_same))
  k_steps
  all_goals first
    | exact hret _ _ _ _ ‹_› ‹_› ⟨⟨_, rfl⟩, by assumption⟩) fun q hf => ?_
  simpa only using fq hf (@Eq _ 5 5)
-- MB8
theorem truthL_K {prog : Program} {w : World} {A : Around} {E : Value → Shared → Prop} {s : Shared} {h₀ : Heap} {L D : Addr} {news : List (Addr × Obj)} {vs : List Value} {n : Nat} {Q : Bool → Shared → Prop} (N : News h₀ L s.heap news) (hm : (D, listOf vs.toArray n) ∈ news) (hz : vs.length ≤ 10) (h : Q (!vs.isEmpty) { s with toks := s.toks + 1 + 1 }) :
    wpAny (model prog w) A (truthy (.ref D)) Q E s :=
  wpAny_truthy_list (items := vs.toArray) (PySem.IsL.isList (n := n) (N _ hm).1) (by rw [List.size_toArray]; omega) (by rw [List.isEmpty_toArray]; exact h)
theorem words11 : True := by
  k_with "G11" => (
    k_with "!setItem ref int" => (k_here; k_dflt (refine' kda_set (knd := PySem.intKind _ _) ?z34F ?z34N ?z34U ?z34d (intKind_is _ _ _ _) ?z34z ?_; (case z34F => k_asm); (case z34N => k_asm); (case z34U => k_updF); (case z34d => assumption); (case z34z => k_extra "size")); intro h' o' F' N' hd'; (try dsimp only at N'); (try k_sweep))
    k_with "!setItem ref str" => (k_here; k_dflt (refine' kda_set (knd := PySem.strKind _ _) ?z35F ?z35N ?z35U ?z35d (strKind_is _ _ _ _) ?z35z ?_; (case z35F => k_asm); (case z35N => k_asm); (case z35U => k_updF); (case z35d => assumption); (case z35z => k_extra "size")); intro h' o' F' N' hd'; (try dsimp only at N'); (try k_sweep))
    k_with "!compareOp NotIn int ref" => (k_here; k_dflt ((refine' kdg_notin (knd := PySem.intKind _ _) ?q457 ?q458 ?q459 ?q460 (intKind_is _ _ _ _) false ?q461 ?_; (case q457 => k_asm); (case q458 => first | assumption | k_mem); (case q459 => assumption); (case q460 => assumption); (case q461 => k_extra "isnone"))); (try dsimp only [Bool.not_true, Bool.not_false]))
    k_with "!compareOp NotIn str ref" => (k_here; k_dflt ((refine' kdg_notin (knd := PySem.strKind _ _) ?q462 ?q463 ?q464 ?q465 (strKind_is _ _ _ _) false ?q466 ?_; (case q462 => k_asm); (case q463 => first | assumption | k_mem); (case q464 => assumption); (case q465 => assumption); (case q466 => k_extra "isnone"))); (try dsimp only [Bool.not_true, Bool.not_false]))
    k_with "!truthy ref" => (k_here; (with_reducible show wpAny _ _ (truthy (Value.ref _)) _ _ _); k_dflt (refine' truthL_K ?z36N ?z36hm ?z36hz ?_; (case z36N => k_asm); (case z36hm => first | assumption | k_mem); (case z36hz => first | decide | (simp only [List.length_cons, List.length_nil]; omega) | omega)); (try dsimp only [List.isEmpty_cons, List.isEmpty_nil, Bool.not_true, Bool.not_false])))
  k_extra "G11"
  trivial
-- F01
theorem c_nl0 : ∀ (w : World) (fw at_ : Value) (t : Tok) (led : Led), SpecT w 1 8 557 [fw, .int 0 t, at_] (led) (fun v n => v = .none ∧ n = led) := by
  refine @dq _ (by
  unfold SpecT
  k_fill
  k_extra "h0"
  k_extra "b1.4"
  k_extra "b2.1"
  k_extra "hv"
  k_steps
  all_goals first
    | exact hret _ _ _ _ ‹_› ‹_› ⟨rfl, rfl⟩
    | (exfalso; omega)) fun q hf => ?_
  simpa only using fq hf (@Eq _ 5 5)
theorem c_nl1 : ∀ (w : World) (fw fd d1 d2 d3 d4 d5 : Addr) (x0 x1 x2 x3 x4 : Tok) (lb : Obj) (lv : List (Int × Value)) (la at_ : Int) (t t2 : Tok) (led : Led), (fw, instObj 546 fd) ∈ led → (fd, dictOf [enS w.params "labels" x0 (.ref d1), enS w.params "next_arm" x1 (.ref d2), enS w.params "block_end" x2 (.ref d3), enS w.params "do_end" x3 (.ref d4), enS w.params "ending" x4 (.ref d5)] 5) ∈ led → (∀ p ∈ led, p.1 ≠ d1) → (d1 == sysModules) = false → lb.IsDictOf (intKind WP w) lv → lv.length ≤ 5 → valueAt lv la = none → (valueAt lv la).isSome = false → 0 < la → SpecT w 1 8 557 [.ref fw, .int la t, .int at_ t2] ((d1, lb) :: led) (fun v n => v = .none ∧ ∃ lb2, n = (d1, lb2) :: led ∧ lb2.IsDictOf (intKind WP w) (stored lv la (.int at_ t2))) := by
  refine @dq _ (by
  unfold SpecT
  k_fill
  k_extra "h0"
  k_extra "b1.12"
  k_extra "b2.8"
  intro b1 b2 b3 b4 b5 b6 b7 b8 b9
  k_extra "hv"
  k_with "val" => assumption
  k_with "isval" => (refine' vIs ?q467; (case q467 => assumption))
  k_with "size" => (rw [sizeLine_eq]; omega)
  k_with "isnone" => (rw [show valueAt _ _ = none from by assumption]; rfl)
  k_steps
  all_goals first
    | exact hret _ _ _ _ ‹_› ‹_› ⟨rfl, _, rfl, by assumption⟩
    | (exfalso; omega)) fun q hf => ?_
  simpa only using fq hf (@Eq _ 5 5)
-- F02
theorem c_arm : ∀ (w : World) (bl : Addr) (bn : Nat) (led : Led), (bl, listOf ([] : List Value).toArray bn) ∈ led → SpecT w 1 8 571 [.ref bl] (led) (fun v n => (∃ t, v = .int (-1) t) ∧ n = led) := by
  refine @dq _ (by
  unfold SpecT
  k_fill
  k_extra "h0"
  k_extra "b1.4"
  intro b1
  k_extra "hv"
  k_with "len" => assumption
  k_with "item" => assumption
  k_steps
  all_goals first
    | exact hret _ _ _ _ ‹_› ‹_› ⟨⟨_, rfl⟩, rfl⟩
    | (exfalso; omega)) fun q hf => ?_
  simpa only using fq hf (@Eq _ 5 5)
theorem c_ne0a : ∀ (w : World) (fw bl at_ : Value) (lp : Addr) (nn : Nat) (t : Tok) (led : Led), (lp, listOf ([] : List Value).toArray nn) ∈ led → SpecT w 1 16 578 [fw, .ref lp, bl, .int 0 t, at_] (led) (fun v n => v = .none ∧ n = led) := by
  refine @dq _ (by
  unfold SpecT
  k_fill
  k_extra "h0"
  k_extra "b1.8"
  intro b1
  k_extra "hv"
  k_with "len" => assumption
  k_with "item" => assumption
  k_steps
  all_goals first
    | exact hret _ _ _ _ ‹_› ‹_› ⟨rfl, rfl⟩
    | (exfalso; omega)) fun q hf => ?_
  simpa only using fq hf (@Eq _ 5 5)
theorem c_ne0b : ∀ (w : World) (fw bl at_ : Value) (lp : Addr) (nn : Nat) (t : Tok) (x : Value) (led : Led), (lp, listOf ([ x] : List Value).toArray nn) ∈ led → SpecT w 1 16 578 [fw, .ref lp, bl, .int 0 t, at_] (led) (fun v n => v = .none ∧ n = led) := by
  refine @dq _ (by
  unfold SpecT
  k_fill
  k_extra "h0"
  k_extra "b1.8"
  k_extra "b2.1"
  intro b1
  k_extra "hv"
  k_with "len" => assumption
  k_with "item" => assumption
  k_steps
  all_goals first
    | exact hret _ _ _ _ ‹_› ‹_› ⟨rfl, rfl⟩
    | (exfalso; omega)) fun q hf => ?_
  simpa only using fq hf (@Eq _ 5 5)
-- MB9
theorem valueAt_cons {K : Type} [DecidableEq K] {p : K × Value} {kvs : List (K × Value)} {k : K} : valueAt (p :: kvs) k = if p.1 = k then some p.2 else valueAt kvs k := by
  unfold valueAt
  rw [List.find?_cons]
  by_cases h : p.1 = k <;> simp [h]
theorem stored_cons {K : Type} [DecidableEq K] {p : K × Value} {kvs : List (K × Value)} {k : K} {v : Value} : stored (p :: kvs) k v = if p.1 = k then (p.1, v) :: kvs.map (fun kv => if kv.1 = k then (kv.1, v) else kv) else p :: stored kvs k v := by
  unfold stored
  by_cases h : p.1 = k
  · simp [h]
  · by_cases h2 : (kvs.any fun kv => decide (kv.1 = k)) = true <;> simp [h, h2]
theorem valueAt_stored_same {K : Type} [DecidableEq K] : ∀ (kvs : List (K × Value)) (k : K) (v : Value), valueAt (stored kvs k v) k = some v
  | [], k, v => by simp [stored, valueAt]
  | p :: r, k, v => by
    rw [stored_cons]
    by_cases h : p.1 = k
    · rw [if_pos h, valueAt_cons, if_pos h]
    · rw [if_neg h, valueAt_cons, if_neg h]
      exact valueAt_stored_same r k v
theorem valueAt_map_other {K : Type} [DecidableEq K] {k k' : K} {v : Value} (hk : k' ≠ k) : ∀ (kvs : List (K × Value)), valueAt (kvs.map (fun kv => if kv.1 = k then (kv.1, v) else kv)) k' = valueAt kvs k'
  | [] => rfl
  | p :: r => by
    rw [List.map_cons, valueAt_cons, valueAt_cons, valueAt_map_other hk r]
    by_cases h : p.1 = k
    · have h2 : p.1 ≠ k' := by rw [h]; exact Ne.symm hk
      rw [if_pos h]
      dsimp only
      rw [if_neg h2, if_neg h2]
    · rw [if_neg h]
theorem valueAt_stored_other {K : Type} [DecidableEq K] {k k' : K} {v : Value} (hk : k' ≠ k) : ∀ (kvs : List (K × Value)), valueAt (stored kvs k v) k' = valueAt kvs k'
  | [] => by simp [stored, valueAt, Ne.symm hk]
  | p :: r => by
    rw [stored_cons]
    by_cases h : p.1 = k
    · have h2 : p.1 ≠ k' := by rw [h]; exact Ne.symm hk
      rw [if_pos h, valueAt_cons, valueAt_cons, valueAt_map_other hk r]
      dsimp only
      rw [if_neg h2, if_neg h2]
    · rw [if_neg h, valueAt_cons, valueAt_cons, valueAt_stored_other hk r]
theorem stored_len {K : Type} [DecidableEq K] (kvs : List (K × Value)) (k : K) (v : Value) : (stored kvs k v).length ≤ kvs.length + 1 := PySem.stored_length_le kvs k v
theorem getItemD_K {prog : Program} {w : World} {K : Type} [DecidableEq K] {knd : PySem.KeyKind prog w K} {A : Around} {E : Value → Shared → Prop} {s : Shared} {h₀ : Heap} {L d : Addr} {news : List (Addr × Obj)} {o : Obj} {kvs : List (K × Value)} {k : K} {key v : Value} {Q : Value → Shared → Prop}
    (N : News h₀ L s.heap news) (hp : (d, o) ∈ news) (hd : o.IsDictOf knd kvs) (hkey : knd.is k key = true) (hl : valueAt kvs k = some v) (h : Q v { s with toks := s.toks + 1 }) : wpAny (model prog w) A (getItem (.ref d) key) Q E s :=
  wpAny_getItem_of hkey (kda_dict N hp hd).mapOf hl h
theorem words12 : True := by
  k_with "G12" => (
    k_with "!getItem" => (k_here; (with_reducible show wpAny _ _ (getItem (Value.ref _) (Value.int _ _)) _ _ _); k_dflt ((refine' getItemD_K (knd := PySem.intKind _ _) ?q468 ?q469 ?q470 (intKind_is _ _ _ _) ?q471 ?_; (case q468 => k_asm); (case q469 => first | assumption | k_mem); (case q470 => assumption); (case q471 => k_extra "val"))))
    k_with "!getItem" => (k_here; (with_reducible show wpAny _ _ (getItem (Value.ref _) (Value.str _ _)) _ _ _); k_dflt ((refine' getItemD_K (knd := PySem.strKind _ _) ?q472 ?q473 ?q474 (strKind_is _ _ _ _) ?q475 ?_; (case q472 => k_asm); (case q473 => first | assumption | k_mem); (case q474 => assumption); (case q475 => k_extra "val")))))
  k_extra "G12"
  trivial
-- F03
theorem c_ne1 : ∀ (w : World) (fw fd d1 d2 d3 d4 d5 : Addr) (x0 x1 x2 x3 x4 : Tok) (lp c bl : Addr) (nn bn : Nat) (de en : Obj) (dv ev : List (Int × Value)) (la at_ st : Int) (t1 t2 t3 t4 t5 : Tok) (led : Led), (fw, instObj 546 fd) ∈ led → (fd, dictOf [enS w.params "labels" x0 (.ref d1), enS w.params "next_arm" x1 (.ref d2), enS w.params "block_end" x2 (.ref d3), enS w.params "do_end" x3 (.ref d4), enS w.params "ending" x4 (.ref d5)] 5) ∈ led → (∀ p ∈ led, p.1 ≠ lp) → (∀ p ∈ led, p.1 ≠ d4) → (∀ p ∈ led, p.1 ≠ d5) → @Ne Nat lp d4 → @Ne Nat lp d5 → @Ne Nat d4 d5 → (d5 == sysModules) = false → de.IsDictOf (intKind WP w) dv → en.IsDictOf (intKind WP w) ev → dv.length ≤ 5 → ev.length ≤ 5 → valueAt ev at_ = none → (bl, listOf ([] : List Value).toArray bn) ∈ led → (c, tp [.int la t3, .int st t4, .int (-1) t5]) ∈ led → 0 < la → SpecT w 2 24 578 [.ref fw, .ref lp, .ref bl, .int la t1, .int at_ t2] ((lp, listOf ([.ref c] : List Value).toArray nn) :: (d4, de) :: (d5, en) :: led) (fun v n => v = .none ∧ ∃ li ln n2 de2 en2 nn2, n = n2 ∧ (@LT.lt Nat _ lp li ∧ @LT.lt Nat _ d4 li ∧ @LT.lt Nat _ d5 li ∧ AllLt li led) ∧ (∀ p ∈ led, p ∈ n2) ∧ (lp, listOf ([] : List Value).toArray nn2) ∈ n2 ∧ (d4, de2) ∈ n2 ∧ (d5, en2) ∈ n2 ∧ (li, listOf ([.int st t4] : List Value).toArray ln) ∈ n2 ∧ de2.IsDictOf (intKind WP w) (stored dv st (.int at_ t2)) ∧ en2.IsDictOf (intKind WP w) (stored ev at_ (.ref li))) := by
  refine @dq _ (by
  unfold SpecT
  k_fill
  k_extra "h0"
  k_extra "b1.12"
  k_extra "b2.12"
  k_extra "b3.6"
  k_extra "b4.1"
  intro b1 b2 b3 b4 b5 b6 b7 b8 b9 b10 b11 b12 b13 b14 b15 b16 b17
  k_extra "hv"
  k_with "specT" => (refine' c_arm _ _ _ _ ?q476; (case q476 => first | assumption | k_mem))
  k_with "len" => assumption
  k_with "item" => assumption
  k_with "size" => (rw [sizeLine_eq]; omega)
  k_with "isnone" => (rw [show valueAt _ _ = none from by assumption]; rfl)
  k_with "val" => first | assumption | exact valueAt_stored_same _ _ _
  k_with "openT" => rintro ⟨⟨_, rfl⟩, rfl⟩
  k_steps
  all_goals first
    | exact hret _ _ _ _ ‹_› ‹_› ⟨rfl, _, _, _, _, _, _, rfl, by assumption, (fun p hp => by k_mem), by k_mem, by k_mem, by k_mem, by k_mem, by assumption, by assumption⟩
    | (exfalso; omega)) fun q hf => ?_
  simpa only using fq hf (@Eq _ 5 5)
-- FB
noncomputable def Ex (d : Addr) (n : Led) : Led := n.filter fun p => decide (@Ne Nat p.1 d)
theorem Ex.mem {d : Addr} {n : Led} {p : Addr × Obj} : p ∈ Ex d n ↔ p ∈ n ∧ p.1 ≠ d := by
  unfold Ex
  rw [List.mem_filter]
  exact and_congr_right fun _ => decide_eq_true_iff
theorem SpecT.pre {w : World} {D U : Nat} {f : Addr} {args : List Value} {led : Led} {post : Value → Led → Prop} (C : Fn led → SpecT w D U f args led post) : SpecT w D U f args led post := by
  intro p loose mean mg mb dp un gd cn cs a ccd cl outer A₀ base h₀ L m s Q E B F X N T hk hd hu hret
  refine C (fun p hp q hq e => ?_) _ _ _ _ _ _ _ _ _ _ _ _ _ _ _ _ _ _ _ _ _ _ B F X N T hk hd hu hret
  have a := (N p hp).1
  have b := (N q hq).1
  rw [e] at a
  exact Option.some.inj (a.symm.trans b)
theorem SpecT.front {w : World} {D U : Nat} {f : Addr} {args : List Value} {led : Led} {post : Value → Led → Prop} {d : Addr} {o : Obj} (hm : (d, o) ∈ led) (C : (∀ p ∈ Ex d led, p.1 ≠ d) → SpecT w D U f args ((d, o) :: Ex d led) post) : SpecT w D U f args led post :=
  (C fun p hp => (Ex.mem.mp hp).2).weak (Nat.le_refl _) (Nat.le_refl _) (fun p hp => by
    rcases List.mem_cons.mp hp with rfl | hp
    · exact hm
    · exact (Ex.mem.mp hp).1) fun _ _ h => h
theorem Fn.ne {n : Led} (f : Fn n) {p q : Addr × Obj} (hp : p ∈ n) (hq : q ∈ n) (h : p.2 ≠ q.2) : p.1 ≠ q.1 := fun e => h (f p hp q hq e)
theorem fn_news {h₀ h : Heap} {L : Addr} {n : Led} (N : News h₀ L h n) : Fn n := fun p hp q hq e => by
  have a := (N p hp).1
  have b := (N q hq).1
  rw [e] at a
  exact Option.some.inj (a.symm.trans b)
section
variable {prog : Program} {w : World} {A : Around} {E : Value → Shared → Prop} {s : Shared} {env : Env} {h₀ : Heap} {x : Str} {body : List Stmt} {Q : Flow → Shared → Prop}
/-- a for over a range: the state is told by a predicate on the ledger -/
theorem rangeRest_J (stored : List Str) (J : Nat → Led → Prop) {m₀ : Str → Option Value} {I : Addr} {a : Int} {n : Nat}
    (turn : ∀ (i : Nat) (k : Int) (n1 : Led) (t : Tok) (u : Str → Option Value) h tk, i < n → k = a + (i : Int) → J i n1 → Fr h₀ env.locals h (fun y => if y = x then some (.int k t) else if stored.contains y then u y else m₀ y) → News h₀ env.locals h ((I, itR (a + ((i + 1 : Nat) : Int)) ((n : Int) - ((i + 1 : Nat) : Int))) :: n1) →
      wpAny (model prog w) A (execs body env) (UnrPost h₀ env.locals { s with heap := h, toks := tk } I (itR (a + ((i + 1 : Nat) : Int)) ((n : Int) - ((i + 1 : Nat) : Int))) (fun m' n' => J (i + 1) n' ∧ ∀ z, z ≠ x → stored.contains z = false → m' z = m₀ z) Q) E { s with heap := h, toks := tk })
    (done : ∀ (n1 : Led) (u : Str → Option Value) h tk, J n n1 → Fr h₀ env.locals h (fun y => if y = x then u y else if stored.contains y then u y else m₀ y) → News h₀ env.locals h n1 → Q .next { s with heap := h, toks := tk }) :
    ∀ (k i : Nat) (m : Str → Option Value) (n1 : Led), i + k = n → J i n1 → (∀ z, z ≠ x → stored.contains z = false → m z = m₀ z) → RangeRest prog w A E h₀ env x body Q s I a n k i m n1
  | 0, i, m, n1, hi, hJ, hz => RangeRest.zero fun h tk F N => by
    have e : i = n := by lia
    subst e
    refine done n1 m h tk hJ ?_ N
    have em : (fun y => if y = x then m y else if stored.contains y then m y else m₀ y) = m := by
      funext y
      by_cases hy : y = x
      · rw [if_pos hy]
      · rw [if_neg hy]
        cases hc : stored.contains y with
        | true => simp
        | false => simp [hz y hy hc]
    rw [em]; exact F
  | k + 1, i, m, n1, hi, hJ, hz => RangeRest.succ fun t h tk F N => by
    have em : (fun y => if y = x then some (Value.int (a + (i : Int)) t) else m y) = (fun y => if y = x then some (Value.int (a + (i : Int)) t) else if stored.contains y then m y else m₀ y) := by
      funext y
      by_cases hy : y = x
      · rw [if_pos hy, if_pos hy]
      · rw [if_neg hy, if_neg hy]
        cases hc : stored.contains y with
        | true => simp
        | false => simp [hz y hy hc]
    rw [em] at F
    refine wpAny_mono (turn i _ n1 t m h tk (by lia) rfl hJ F N) (fun f s₂ p => ?_) fun _ _ e => e
    have up : UnrEnd h₀ env.locals { s with heap := h, toks := tk } I (itR (a + ((i + 1 : Nat) : Int)) ((n : Int) - ((i + 1 : Nat) : Int))) (fun m' n' => J (i + 1) n' ∧ ∀ z, z ≠ x → stored.contains z = false → m' z = m₀ z) s₂ →
        UnrEnd h₀ env.locals { s with heap := h, toks := tk } I (itR (a + ((i + 1 : Nat) : Int)) ((n : Int) - ((i + 1 : Nat) : Int))) (RangeRest prog w A E h₀ env x body Q s I a n k (i + 1)) s₂ := by
      rintro ⟨h', tk', m', n', e, F', N', off, hJ', hz'⟩
      exact ⟨h', tk', m', n', e, F', N', off, rangeRest_J stored J turn done k (i + 1) m' n' (by lia) hJ' hz'⟩
    cases f with
    | ret v => exact p
    | brk => exact p
    | next => exact up p
    | cont => exact up p
theorem unrEnd_J {L I : Addr} {it : Obj} {rest : (Str → Option Value) → List (Addr × Obj) → Prop} {s₁ : Shared} {h' : Heap} {tk : Nat} {m' : Str → Option Value} {all : List (Addr × Obj)} (F : Fr h₀ L h' m') (N : News h₀ L h' all) (hm : (I, it) ∈ all) (r : rest m' (Ex I all)) :
    UnrEnd h₀ L s₁ I it rest { s₁ with heap := h', toks := tk } :=
  UnrEnd.intro F N (Ex I all) (fun p hp => by
    rcases List.mem_cons.mp hp with rfl | hp
    · exact hm
    · exact (Ex.mem.mp hp).1) (fun p hp => (Ex.mem.mp hp).2) r
end
structure FRec where
  (fw fd d1 d2 d3 d4 d5 bl lp : Addr) (x0 x1 x2 x3 x4 : Tok) (bn : Nat)
noncomputable abbrev FRec.dict (P : Params) (a : FRec) : Obj := dictOf [enS P "labels" a.x0 (.ref a.d1), enS P "next_arm" a.x1 (.ref a.d2), enS P "block_end" a.x2 (.ref a.d3), enS P "do_end" a.x3 (.ref a.d4), enS P "ending" a.x4 (.ref a.d5)] 5
/-- the four that change: the dicts d1, d4, d5, the list lp -/
def Off4 (a : FRec) (x : Addr) : Prop := @Ne Nat x a.d1 ∧ @Ne Nat x a.d4 ∧ @Ne Nat x a.d5 ∧ @Ne Nat x a.lp
structure FD (a : FRec) (led : Led) : Prop where
  fw : Off4 a a.fw
  fd : Off4 a a.fd
  bl : Off4 a a.bl
  led : ∀ p ∈ led, Off4 a p.1
  n : @Ne Nat a.d1 a.d4 ∧ @Ne Nat a.d1 a.d5 ∧ @Ne Nat a.d1 a.lp ∧ @Ne Nat a.d4 a.d5 ∧ @Ne Nat a.d4 a.lp ∧ @Ne Nat a.d5 a.lp
  s1 : (a.d1 == sysModules) = false
  s5 : (a.d5 == sysModules) = false
structure FS (w : World) (a : FRec) (led : Led) (n : Led) (lv dv ev : List (Int × Value)) (ls : List Value) : Prop where
  led : ∀ p ∈ led, p ∈ n
  fw : (a.fw, instObj 546 a.fd) ∈ n
  fd : (a.fd, a.dict w.params) ∈ n
  bl : (a.bl, listOf ([] : List Value).toArray a.bn) ∈ n
  d1 : ∃ o, (a.d1, o) ∈ n ∧ o.IsDictOf (intKind WP w) lv
  d4 : ∃ o, (a.d4, o) ∈ n ∧ o.IsDictOf (intKind WP w) dv
  d5 : ∃ o, (a.d5, o) ∈ n ∧ o.IsDictOf (intKind WP w) ev
  lp : ∃ nn, (a.lp, listOf ls.toArray nn) ∈ n
theorem FS.sub {w : World} {a : FRec} {led n n' : Led} {lv dv ev : List (Int × Value)} {ls : List Value} (h : FS w a led n lv dv ev ls) (g : ∀ p ∈ n, p ∈ n') : FS w a led n' lv dv ev ls := by
  refine viaP fun PZ kZ => ?_
  obtain ⟨h1, h2, h3, h4, ⟨o1, a1, b1⟩, ⟨o4, a4, b4⟩, ⟨o5, a5, b5⟩, nn, h6⟩ := h
  refine kZ ?_; clear kZ PZ
  exact ⟨fun p hp => g _ (h1 p hp), g _ h2, g _ h3, g _ h4, ⟨o1, g _ a1, b1⟩, ⟨o4, g _ a4, b4⟩, ⟨o5, g _ a5, b5⟩, nn, g _ h6⟩
theorem fs_label {w : World} {a : FRec} {led n : Led} {lv dv ev : List (Int × Value)} {ls : List Value} {la at_ : Int} {t t2 : Tok} (D : FD a led) (S : FS w a led n lv dv ev ls) (h1 : lv.length ≤ 5) (h2 : valueAt lv la = none) (h3 : 0 < la) :
    SpecT w 1 8 557 [.ref a.fw, .int la t, .int at_ t2] n (fun v n' => v = .none ∧ FS w a led n' (stored lv la (.int at_ t2)) dv ev ls ∧ ∀ p ∈ n, p.1 ≠ a.d1 → p ∈ n') := by
  obtain ⟨o1, a1, b1⟩ := S.d1
  refine (SpecT.front a1 fun hX => c_nl1 w a.fw a.fd a.d1 a.d2 a.d3 a.d4 a.d5 a.x0 a.x1 a.x2 a.x3 a.x4 o1 lv la at_ t t2 _ (Ex.mem.mpr ⟨S.fw, D.fw.1⟩) (Ex.mem.mpr ⟨S.fd, D.fd.1⟩) hX D.s1 b1 h1 h2 (by rw [h2]; rfl) h3).weak (Nat.le_refl _) (Nat.le_refl _) (fun _ h => h) fun v n' h => ?_
  refine viaP fun PZ kZ => ?_
  obtain ⟨rfl, lb2, rfl, hd⟩ := h
  have keep : ∀ p ∈ n, p.1 ≠ a.d1 → p ∈ (a.d1, lb2) :: Ex a.d1 n := fun p hp hn => .tail _ (Ex.mem.mpr ⟨hp, hn⟩)
  obtain ⟨o4, a4, b4⟩ := S.d4
  obtain ⟨o5, a5, b5⟩ := S.d5
  obtain ⟨nn, h6⟩ := S.lp
  refine kZ ?_; clear kZ PZ
  exact ⟨rfl, ⟨fun p hp => keep p (S.led p hp) (D.led p hp).1, keep _ S.fw D.fw.1, keep _ S.fd D.fd.1, keep _ S.bl D.bl.1, ⟨lb2, .head _, hd⟩, ⟨o4, keep _ a4 (Ne.symm D.n.1), b4⟩, ⟨o5, keep _ a5 (Ne.symm D.n.2.1), b5⟩, nn, keep _ h6 (Ne.symm D.n.2.2.1)⟩, keep⟩
theorem fs_ends {w : World} {a : FRec} {led n : Led} {lv dv ev : List (Int × Value)} {la at_ st : Int} {c : Addr} {t1 t2 t3 t4 t5 : Tok} (D : FD a led) (S : FS w a led n lv dv ev [.ref c]) (hc : (c, tp [.int la t3, .int st t4, .int (-1) t5]) ∈ n) (hc4 : Off4 a c) (h1 : dv.length ≤ 5) (h2 : ev.length ≤ 5) (h3 : valueAt ev at_ = none) (h4 : 0 < la) :
    SpecT w 2 24 578 [.ref a.fw, .ref a.lp, .ref a.bl, .int la t1, .int at_ t2] n (fun v n' => v = .none ∧ ∃ li ln, @Ne Nat li a.lp ∧ FS w a led n' lv (stored dv st (.int at_ t2)) (stored ev at_ (.ref li)) [] ∧ (li, listOf ([.int st t4] : List Value).toArray ln) ∈ n' ∧ ∀ p ∈ n, p.1 ≠ a.d4 → p.1 ≠ a.d5 → p.1 ≠ a.lp → p ∈ n') := by
  refine viaP fun PZ kZ => ?_
  obtain ⟨o4, a4, b4⟩ := S.d4
  obtain ⟨o5, a5, b5⟩ := S.d5
  obtain ⟨nn, h6⟩ := S.lp
  refine kZ ?_; clear kZ PZ
  let X := Ex a.d5 (Ex a.d4 (Ex a.lp n))
  have toX : ∀ p ∈ n, p.1 ≠ a.d4 → p.1 ≠ a.d5 → p.1 ≠ a.lp → p ∈ X := fun p hp x y z => Ex.mem.mpr ⟨Ex.mem.mpr ⟨Ex.mem.mpr ⟨hp, z⟩, x⟩, y⟩
  have ofX : ∀ p ∈ X, p ∈ n ∧ p.1 ≠ a.d4 ∧ p.1 ≠ a.d5 ∧ p.1 ≠ a.lp := fun p hp => by
    have q1 := Ex.mem.mp hp
    have q2 := Ex.mem.mp q1.1
    have q3 := Ex.mem.mp q2.1
    exact ⟨q3.1, q2.2, q1.2, q3.2⟩
  haveI C := c_ne1 w a.fw a.fd a.d1 a.d2 a.d3 a.d4 a.d5 a.x0 a.x1 a.x2 a.x3 a.x4 a.lp c a.bl nn a.bn o4 o5 dv ev la at_ st t1 t2 t3 t4 t5 X (toX _ S.fw D.fw.2.1 D.fw.2.2.1 D.fw.2.2.2) (toX _ S.fd D.fd.2.1 D.fd.2.2.1 D.fd.2.2.2) (fun p hp => (ofX p hp).2.2.2) (fun p hp => (ofX p hp).2.1) (fun p hp => (ofX p hp).2.2.1)
    (Ne.symm D.n.2.2.2.2.1) (Ne.symm D.n.2.2.2.2.2) D.n.2.2.2.1 D.s5 b4 b5 h1 h2 h3 (toX _ S.bl D.bl.2.1 D.bl.2.2.1 D.bl.2.2.2) (toX _ hc hc4.2.1 hc4.2.2.1 hc4.2.2.2) h4
  refine C.weak (Nat.le_refl _) (Nat.le_refl _) (fun p hp => ?_) fun v n' h => ?_
  · rcases List.mem_cons.mp hp with rfl | hp
    · exact h6
    · rcases List.mem_cons.mp hp with rfl | hp
      · exact a4
      · rcases List.mem_cons.mp hp with rfl | hp
        · exact a5
        · exact (ofX p hp).1
  · obtain ⟨rfl, li, ln, n2, de2, en2, nn2, rfl, k1, k2, k3, k4, k5, k6, k7, k8⟩ := h
    have keep : ∀ p ∈ n, p.1 ≠ a.d4 → p.1 ≠ a.d5 → p.1 ≠ a.lp → p ∈ n' := fun p hp x y z => k2 p (toX p hp x y z)
    obtain ⟨o1, a1, b1⟩ := S.d1
    exact ⟨rfl, li, ln, (fun e => Nat.lt_irrefl _ (e ▸ k1.1)), ⟨fun p hp => keep p (S.led p hp) (D.led p hp).2.1 (D.led p hp).2.2.1 (D.led p hp).2.2.2, keep _ S.fw D.fw.2.1 D.fw.2.2.1 D.fw.2.2.2, keep _ S.fd D.fd.2.1 D.fd.2.2.1 D.fd.2.2.2, keep _ S.bl D.bl.2.1 D.bl.2.2.1 D.bl.2.2.2, ⟨o1, keep _ a1 D.n.1 D.n.2.1 D.n.2.2.1, b1⟩, ⟨de2, k4, k7⟩, ⟨en2, k5, k8⟩, nn2, k3⟩, k6, keep⟩
theorem neFRec : Nonempty FRec := ⟨by constructor <;> first | exact 0 | exact Value.none | exact Str.ofString "" | exact (fun _ => 0) | exact [] | exact default | exact ⟨[], 0⟩⟩
-- FC
theorem dcls {prog : Program} {w : World} {K : Type} [DecidableEq K] {knd : PySem.KeyKind prog w K} {o : Obj} {kvs : List (K × Value)} (h : o.IsDictOf knd kvs) : o.cls = .type "dict" := by
  obtain ⟨_, _, h, _⟩ := h
  exact h.1
noncomputable def labOf (i : Nat) : Int := if i = 7 then 10 else if i = 13 then 20 else 0
noncomputable def doOf (i : Nat) : Int := if i = 3 then 10 else 20
theorem FS.drop {w : World} {a : FRec} {led n : Led} {lv dv ev : List (Int × Value)} {ls : List Value} {I : Addr} {it : Obj} (S : FS w a led n lv dv ev ls) (f : Fn n) (hI : (I, it) ∈ n) (hc : it.cls = .type "range_iterator") (hl : ∀ p ∈ led, p.1 ≠ I) : FS w a led (Ex I n) lv dv ev ls := by
  have off : ∀ p ∈ n, p.2.cls ≠ .type "range_iterator" → p ∈ Ex I n := fun p hp h => Ex.mem.mpr ⟨hp, fun e => h (by rw [f p hp _ hI e]; exact hc)⟩
  refine viaP fun PZ kZ => ?_
  obtain ⟨h1, h2, h3, h4, ⟨o1, a1, b1⟩, ⟨o4, a4, b4⟩, ⟨o5, a5, b5⟩, nn, h6⟩ := S
  refine kZ ?_; clear kZ PZ
  refine ⟨fun p hp => Ex.mem.mpr ⟨h1 p hp, hl p hp⟩, off _ h2 (fun e => nomatch e), off _ h3 (by show Value.type "dict" ≠ _; decide), off _ h4 (by show Value.type "list" ≠ _; decide), ⟨o1, off _ a1 ?_, b1⟩, ⟨o4, off _ a4 ?_, b4⟩, ⟨o5, off _ a5 ?_, b5⟩, nn, off _ h6 (by show Value.type "list" ≠ _; decide)⟩
  · show o1.cls ≠ _; rw [(dcls b1)]; decide
  · show o4.cls ≠ _; rw [(dcls b4)]; decide
  · show o5.cls ≠ _; rw [(dcls b5)]; decide
/-- an object that is neither a dict nor the list lp is none of the four -/
theorem FS.off4 {w : World} {a : FRec} {led n : Led} {lv dv ev : List (Int × Value)} {ls : List Value} {p : Addr × Obj} (S : FS w a led n lv dv ev ls) (f : Fn n) (hp : p ∈ n) (hc : p.2.cls ≠ .type "dict") (hl : @Ne Nat p.1 a.lp) : Off4 a p.1 := by
  refine viaP fun PZ kZ => ?_
  obtain ⟨h1, h2, h3, h4, ⟨o1, a1, b1⟩, ⟨o4, a4, b4⟩, ⟨o5, a5, b5⟩, nn, h6⟩ := S
  refine kZ ?_; clear kZ PZ
  exact ⟨f.ne hp a1 fun e => hc (by rw [e]; exact (dcls b1)), f.ne hp a4 fun e => hc (by rw [e]; exact (dcls b4)), f.ne hp a5 fun e => hc (by rw [e]; exact (dcls b5)), hl⟩
theorem FS.ne_lp {w : World} {a : FRec} {led n : Led} {lv dv ev : List (Int × Value)} {ls : List Value} {p : Addr × Obj} (S : FS w a led n lv dv ev ls) (f : Fn n) (hp : p ∈ n) (hc : p.2.cls ≠ .type "list") : @Ne Nat p.1 a.lp := by
  obtain ⟨nn, h6⟩ := S.lp
  exact f.ne hp h6 fun e => hc (by rw [e])
theorem tp_cls (l : List Value) : (tp l).cls = .type "tuple" := rfl
def FP (w : World) (a : FRec) (led : Led) (i : Nat) (n : Led) : Prop :=
  (i ≤ 3 ∧ FS w a led n [] [] [] []) ∨
  (4 ≤ i ∧ i ≤ 7 ∧ ∃ c t1 t2 t3, FS w a led n [] [] [] [.ref c] ∧ (c, tp [.int 10 t1, .int 3 t2, .int (-1) t3]) ∈ n) ∨
  (8 ≤ i ∧ i ≤ 11 ∧ ∃ lv dv l1 n1 t1, FS w a led n lv dv [(7, .ref l1)] [] ∧ valueAt lv 20 = none ∧ lv.length ≤ 3 ∧ dv.length ≤ 3 ∧ (l1, listOf ([.int 3 t1] : List Value).toArray n1) ∈ n ∧ @Ne Nat l1 a.lp) ∨
  (12 ≤ i ∧ i ≤ 13 ∧ ∃ lv dv l1 n1 t1 c t4 t5 t6, FS w a led n lv dv [(7, .ref l1)] [.ref c] ∧ valueAt lv 20 = none ∧ lv.length ≤ 3 ∧ dv.length ≤ 3 ∧ (l1, listOf ([.int 3 t1] : List Value).toArray n1) ∈ n ∧ @Ne Nat l1 a.lp ∧ (c, tp [.int 20 t4, .int 11 t5, .int (-1) t6]) ∈ n) ∨
  (14 ≤ i ∧ ∃ lv dv l1 n1 t1 l2 n2 t2, FS w a led n lv dv [(7, .ref l1), (13, .ref l2)] [] ∧ (l1, listOf ([.int 3 t1] : List Value).toArray n1) ∈ n ∧ (l2, listOf ([.int 11 t2] : List Value).toArray n2) ∈ n)
def FP1 (w : World) (a : FRec) (led : Led) (i : Nat) (n : Led) : Prop :=
  (i = 7 ∧ ∃ lv c t1 t2 t3, FS w a led n lv [] [] [.ref c] ∧ valueAt lv 20 = none ∧ lv.length ≤ 3 ∧ (c, tp [.int 10 t1, .int 3 t2, .int (-1) t3]) ∈ n) ∨
  (i = 13 ∧ ∃ lv dv l1 n1 t1 c t4 t5 t6, FS w a led n lv dv [(7, .ref l1)] [.ref c] ∧ dv.length ≤ 3 ∧ (l1, listOf ([.int 3 t1] : List Value).toArray n1) ∈ n ∧ @Ne Nat l1 a.lp ∧ (c, tp [.int 20 t4, .int 11 t5, .int (-1) t6]) ∈ n)
theorem FP.led {w : World} {a : FRec} {led n : Led} {i : Nat} (h : FP w a led i n) : (∀ p ∈ led, p ∈ n) ∧ (a.bl, listOf ([] : List Value).toArray a.bn) ∈ n := by
  rcases h with h | h | h | h | h
  · exact ⟨h.2.led, h.2.bl⟩
  · exact im4 (fun _ _ _ _ h => ⟨h.1.led, h.1.bl⟩) h.2.2
  · exact im3 (fun _ _ _ => im2 fun _ _ h => ⟨h.1.led, h.1.bl⟩) h.2.2
  · exact im6 (fun _ _ _ _ _ _ => im3 fun _ _ _ h => ⟨h.1.led, h.1.bl⟩) h.2.2
  · exact im8 (fun _ _ _ _ _ _ _ _ h => ⟨h.1.led, h.1.bl⟩) h.2
theorem FP1.led {w : World} {a : FRec} {led n : Led} {i : Nat} (h : FP1 w a led i n) : ∀ p ∈ led, p ∈ n := by
  rcases h with h | h
  · exact im3 (fun _ _ _ => im2 fun _ _ h => h.1.led) h.2
  · exact im6 (fun _ _ _ _ _ _ => im3 fun _ _ _ h => h.1.led) h.2
theorem FP.map {w : World} {a : FRec} {led n n' : Led} {i : Nat} (h : FP w a led i n) (fs : ∀ {lv dv ev : List (Int × Value)} {ls : List Value}, FS w a led n lv dv ev ls → FS w a led n' lv dv ev ls) (tup : ∀ {x : Addr} {l : List Value}, (x, tp l) ∈ n → (x, tp l) ∈ n') (lst : ∀ {x : Addr} {l : Array Value} {c : Nat}, (x, listOf l c) ∈ n → (x, listOf l c) ∈ n') : FP w a led i n' := by
  rcases h with h | h | h | h | h
  · exact .inl ⟨h.1, fs h.2⟩
  · exact .inr (.inl ⟨h.1, h.2.1, im4 (fun c t1 t2 t3 h => ⟨c, t1, t2, t3, fs h.1, tup h.2⟩) h.2.2⟩)
  · exact .inr (.inr (.inl ⟨h.1, h.2.1, im3 (fun lv dv l1 => im2 fun n1 t1 h => ⟨lv, dv, l1, n1, t1, fs h.1, h.2.1, h.2.2.1, h.2.2.2.1, lst h.2.2.2.2.1, h.2.2.2.2.2⟩) h.2.2⟩))
  · exact .inr (.inr (.inr (.inl ⟨h.1, h.2.1, im6 (fun lv dv l1 n1 t1 c => im3 fun t4 t5 t6 h => ⟨lv, dv, l1, n1, t1, c, t4, t5, t6, fs h.1, h.2.1, h.2.2.1, h.2.2.2.1, lst h.2.2.2.2.1, h.2.2.2.2.2.1, tup h.2.2.2.2.2.2⟩) h.2.2⟩)))
  · exact .inr (.inr (.inr (.inr ⟨h.1, im8 (fun lv dv l1 n1 t1 l2 n2 t2 h => ⟨lv, dv, l1, n1, t1, l2, n2, t2, fs h.1, lst h.2.1, lst h.2.2⟩) h.2⟩)))
theorem FP.sub {w : World} {a : FRec} {led n n' : Led} {i : Nat} (h : FP w a led i n) (g : ∀ p ∈ n, p ∈ n') : FP w a led i n' := h.map (fun S => S.sub g) (g _) (g _)
theorem FP.drop {w : World} {a : FRec} {led n : Led} {i : Nat} {I : Addr} {it : Obj} (h : FP w a led i n) (f : Fn n) (hI : (I, it) ∈ n) (hc : it.cls = .type "range_iterator") (hl : ∀ p ∈ led, p.1 ≠ I) : FP w a led i (Ex I n) := by
  have off : ∀ p ∈ n, p.2.cls ≠ .type "range_iterator" → p ∈ Ex I n := fun p hp h => Ex.mem.mpr ⟨hp, fun e => h (by rw [f p hp _ hI e]; exact hc)⟩
  have tup : ∀ {x : Addr} {l : List Value}, (x, tp l) ∈ n → (x, tp l) ∈ Ex I n := fun h => off _ h (by show Value.type "tuple" ≠ _; decide)
  have lst : ∀ {x : Addr} {l : Array Value} {c : Nat}, (x, listOf l c) ∈ n → (x, listOf l c) ∈ Ex I n := fun h => off _ h (by show Value.type "list" ≠ _; decide)
  exact h.map (fun S => S.drop f hI hc hl) tup lst
theorem FP.next {w : World} {a : FRec} {led n : Led} {i : Nat} (h : FP w a led i n) (h3 : i ≠ 3) (h7 : i ≠ 7) (h11 : i ≠ 11) (h13 : i ≠ 13) : FP w a led (i + 1) n := by
  rcases h with ⟨h1, S⟩ | ⟨h1, h2, r⟩ | ⟨h1, h2, r⟩ | ⟨h1, h2, r⟩ | ⟨h1, r⟩
  · exact .inl ⟨Nat.lt_of_le_of_ne h1 h3, S⟩
  · exact .inr (.inl ⟨Nat.le_succ_of_le h1, Nat.lt_of_le_of_ne h2 h7, r⟩)
  · exact .inr (.inr (.inl ⟨Nat.le_succ_of_le h1, Nat.lt_of_le_of_ne h2 h11, r⟩))
  · exact .inr (.inr (.inr (.inl ⟨Nat.le_succ_of_le h1, Nat.lt_of_le_of_ne h2 h13, r⟩)))
  · exact .inr (.inr (.inr (.inr ⟨Nat.le_succ_of_le h1, r⟩)))
theorem fl_ends0 {w : World} {a : FRec} {led n n' : Led} {i : Nat} {t : Tok} {at_ : Value} (h : FP w a led i n) (g : ∀ p ∈ n, p ∈ n') : SpecT w 1 16 578 [.ref a.fw, .ref a.lp, .ref a.bl, .int 0 t, at_] n' (fun v n => v = .none ∧ n = n') := by
  rcases h with h | h | h | h | h
  · exact h.2.lp.elim fun _ h6 => c_ne0a w _ _ _ _ _ _ _ (g _ h6)
  · exact im4 (fun _ _ _ _ h => h.1.lp.elim fun _ h6 => c_ne0b w _ _ _ _ _ _ _ _ (g _ h6)) h.2.2
  · exact im3 (fun _ _ _ => im2 fun _ _ h => h.1.lp.elim fun _ h6 => c_ne0a w _ _ _ _ _ _ _ (g _ h6)) h.2.2
  · exact im6 (fun _ _ _ _ _ _ => im3 fun _ _ _ h => h.1.lp.elim fun _ h6 => c_ne0b w _ _ _ _ _ _ _ _ (g _ h6)) h.2.2
  · exact im8 (fun _ _ _ _ _ _ _ _ h => h.1.lp.elim fun _ h6 => c_ne0a w _ _ _ _ _ _ _ (g _ h6)) h.2
theorem fl_lab {w : World} {a : FRec} {led n n' : Led} {i : Nat} {k : Int} {t t2 : Tok} {I : Addr} {it : Obj} (D : FD a led) (h : FP w a led i n) (hi : i = 7 ∨ i = 13) (hk : k = (i : Int)) (hI : (I, it) ∈ n') (hc : it.cls = .type "range_iterator") (g : ∀ p ∈ n, p ∈ n') :
    SpecT w 1 8 557 [.ref a.fw, .int (labOf i) t, .int k t2] n' (fun v n => v = .none ∧ FP1 w a led i n ∧ (I, it) ∈ n) := by
  refine SpecT.pre fun f => ?_
  have h' := h.sub g
  rcases h' with ⟨h1, S⟩ | ⟨h1, h2, h'⟩ | ⟨h1, h2, _⟩ | ⟨h1, h2, h'⟩ | ⟨h1, _⟩
  · exact absurd h1 (by rcases hi with rfl | rfl <;> decide)
  · have e : i = 7 := hi.resolve_right fun q => absurd h2 (by rw [q]; decide)
    subst e
    refine im4 (fun c t1 t3 t4 => ia2 fun S hc' => ?_) h'
    refine (fs_label D S (by decide) rfl (by decide)).weak (Nat.le_refl _) (Nat.le_refl _) (fun _ h => h) fun v n9 q => ?_
    have k1 := (S.off4 f hc' (by show Value.type "tuple" ≠ _; decide) (S.ne_lp f hc' (by show Value.type "tuple" ≠ _; decide))).1
    have k2 := (S.off4 f hI (by show it.cls ≠ _; rw [hc]; decide) (S.ne_lp f hI (by show it.cls ≠ _; rw [hc]; decide))).1
    exact ⟨q.1, .inl ⟨rfl, _, c, t1, t3, t4, q.2.1, rfl, by show List.length (stored [] _ _) ≤ 3; exact Nat.le_trans (stored_len _ _ _) (by decide), q.2.2 _ hc' k1⟩, q.2.2 _ hI k2⟩
  · omega
  · have e : i = 13 := hi.resolve_left fun q => absurd h1 (by rw [q]; decide)
    subst e
    refine im6 (fun lv dv l1 n1 t1 c => im3 fun t4 t5 t6 => ia7 fun S h3 h4 h5 h6 h7 hc' => ?_) h'
    refine (fs_label D S (by omega) h3 (by decide)).weak (Nat.le_refl _) (Nat.le_refl _) (fun _ h => h) fun v n9 q => ?_
    have k1 := (S.off4 f hc' (by show Value.type "tuple" ≠ _; decide) (S.ne_lp f hc' (by show Value.type "tuple" ≠ _; decide))).1
    have k2 := (S.off4 f hI (by show it.cls ≠ _; rw [hc]; decide) (S.ne_lp f hI (by show it.cls ≠ _; rw [hc]; decide))).1
    have k3 := (S.off4 f h6 (by show Value.type "list" ≠ _; decide) h7).1
    exact ⟨q.1, .inr ⟨rfl, _, dv, l1, n1, t1, c, t4, t5, t6, q.2.1, h5, q.2.2 _ h6 k3, h7, q.2.2 _ hc' k1⟩, q.2.2 _ hI k2⟩
  · omega
theorem fl_ends {w : World} {a : FRec} {led n : Led} {i : Nat} {k : Int} {t t2 : Tok} {I : Addr} {it : Obj} (D : FD a led) (h : FP1 w a led i n) (hk : k = (i : Int)) (hI : (I, it) ∈ n) (hc : it.cls = .type "range_iterator") :
    SpecT w 2 24 578 [.ref a.fw, .ref a.lp, .ref a.bl, .int (labOf i) t, .int k t2] n (fun v n => v = .none ∧ FP w a led (i + 1) n ∧ (I, it) ∈ n) := by
  refine SpecT.pre fun f => ?_
  rcases h with ⟨rfl, h⟩ | ⟨rfl, h⟩
  · refine im3 (fun lv c t1 => im2 fun t3 t4 => ia4 fun S h3 h4 hc' => ?_) h
    have k1 := S.off4 f hc' (by show Value.type "tuple" ≠ _; decide) (S.ne_lp f hc' (by show Value.type "tuple" ≠ _; decide))
    have k2 := S.off4 f hI (by show it.cls ≠ _; rw [hc]; decide) (S.ne_lp f hI (by show it.cls ≠ _; rw [hc]; decide))
    subst hk
    refine (fs_ends D S hc' k1 (by decide) (by decide) rfl (by decide)).weak (Nat.le_refl _) (Nat.le_refl _) (fun _ h => h) fun v n9 q => ?_
    refine viaP fun PZ kZ => ?_
    obtain ⟨q0, li, ln, q1, q2, q3, q4⟩ := q
    refine kZ ?_; clear kZ PZ
    exact ⟨q0, .inr (.inr (.inl ⟨by decide, by decide, lv, _, li, ln, t3, q2, h3, h4, Nat.le_trans (stored_len _ _ _) (by decide), q3, q1⟩)), q4 _ hI k2.2.1 k2.2.2.1 k2.2.2.2⟩
  · refine im6 (fun lv dv l1 n1 t1 c => im3 fun t4 t5 t6 => ia5 fun S h5 h6 h7 hc' => ?_) h
    have k1 := S.off4 f hc' (by show Value.type "tuple" ≠ _; decide) (S.ne_lp f hc' (by show Value.type "tuple" ≠ _; decide))
    have k2 := S.off4 f hI (by show it.cls ≠ _; rw [hc]; decide) (S.ne_lp f hI (by show it.cls ≠ _; rw [hc]; decide))
    have k3 := S.off4 f h6 (by show Value.type "list" ≠ _; decide) h7
    subst hk
    refine (fs_ends D S hc' k1 (by omega) (by show (1 : Nat) ≤ 5; decide) rfl (by decide)).weak (Nat.le_refl _) (Nat.le_refl _) (fun _ h => h) fun v n9 q => ?_
    refine viaP fun PZ kZ => ?_
    obtain ⟨q0, li, ln, q1, q2, q3, q4⟩ := q
    refine kZ ?_; clear kZ PZ
    exact ⟨q0, .inr (.inr (.inr (.inr ⟨by decide, lv, _, l1, n1, t1, li, ln, t5, q2, q4 _ h6 k3.2.1 k3.2.2.1 k3.2.2.2, q3⟩))), q4 _ hI k2.2.1 k2.2.2.1 k2.2.2.2⟩
theorem FP1.sub {w : World} {a : FRec} {led n n' : Led} {i : Nat} (h : FP1 w a led i n) (g : ∀ p ∈ n, p ∈ n') : FP1 w a led i n' := by
  rcases h with h | h
  · exact .inl ⟨h.1, im3 (fun lv c t1 => im2 fun t2 t3 h => ⟨lv, c, t1, t2, t3, h.1.sub g, h.2.1, h.2.2.1, g _ h.2.2.2⟩) h.2⟩
  · exact .inr ⟨h.1, im6 (fun lv dv l1 n1 t1 c => im3 fun t4 t5 t6 h => ⟨lv, dv, l1, n1, t1, c, t4, t5, t6, h.1.sub g, h.2.1, g _ h.2.2.1, h.2.2.2.1, g _ h.2.2.2.2⟩) h.2⟩
theorem fl_do {w : World} {a : FRec} {led n : Led} {i : Nat} (D : FD a led) (h : FP w a led i n) (hi : i = 3 ∨ i = 11) :
    ∃ nn, (a.lp, listOf ([] : List Value).toArray nn) ∈ n ∧ ∀ (n' : Led) (c : Addr) (nn2 : Nat) (k : Int) (t1 t2 t3 : Tok), k = (i : Int) → (∀ p ∈ Ex a.lp n, p ∈ n') → (a.lp, listOf ([.ref c] : List Value).toArray nn2) ∈ n' → (c, tp [.int (doOf i) t1, .int k t2, .int (-1) t3]) ∈ n' → FP w a led (i + 1) n' := by
  have main : ∀ {n' : Led} {lv dv ev : List (Int × Value)} {c : Addr} {nn2 : Nat}, FS w a led n lv dv ev [] → (∀ p ∈ Ex a.lp n, p ∈ n') → (a.lp, listOf ([.ref c] : List Value).toArray nn2) ∈ n' → FS w a led n' lv dv ev [.ref c] := by
    intro n' lv dv ev c nn2 S g hl
    have keep : ∀ {p : Addr × Obj}, p ∈ n → p.1 ≠ a.lp → p ∈ n' := fun hp hn => g _ (Ex.mem.mpr ⟨hp, hn⟩)
    refine viaP fun PZ kZ => ?_
    obtain ⟨h1, h2, h3, h4, ⟨o1, a1, b1⟩, ⟨o4, a4, b4⟩, ⟨o5, a5, b5⟩, nn, h6⟩ := S
    refine kZ ?_; clear kZ PZ
    exact ⟨fun p hp => keep (h1 p hp) (D.led p hp).2.2.2, keep h2 D.fw.2.2.2, keep h3 D.fd.2.2.2, keep h4 D.bl.2.2.2, ⟨o1, keep a1 D.n.2.2.1, b1⟩, ⟨o4, keep a4 D.n.2.2.2.2.1, b4⟩, ⟨o5, keep a5 D.n.2.2.2.2.2, b5⟩, nn2, hl⟩
  rcases h with ⟨h1, S⟩ | ⟨h1, h2, _⟩ | ⟨h1, h2, h'⟩ | ⟨h1, h2, _⟩ | ⟨h1, _⟩
  · have e : i = 3 := hi.resolve_right fun q => absurd h1 (by rw [q]; decide)
    subst e
    obtain ⟨nn, h6⟩ := S.lp
    refine ⟨nn, h6, fun n' c nn2 k t1 t2 t3 hk g hl hc => .inr (.inl ⟨by decide, by decide, c, t1, t2, t3, main S g hl, ?_⟩)⟩
    subst hk; exact hc
  · exact absurd (⟨h1, h2⟩ : 4 ≤ i ∧ i ≤ 7) (by rcases hi with rfl | rfl <;> decide)
  · have e : i = 11 := hi.resolve_left fun q => absurd h1 (by rw [q]; decide)
    subst e
    refine im3 (fun lv dv l1 => im2 fun n1 t1 => ia6 fun S h3 h4 h5 h6 h7 => ?_) h'
    obtain ⟨nn, h8⟩ := S.lp
    refine ⟨nn, h8, fun n' c nn2 k t2 t3 t4 hk g hl hc => .inr (.inr (.inr (.inl ⟨by decide, by decide, lv, dv, l1, n1, t1, c, t2, t3, t4, main S g hl, h3, h4, h5, g _ (Ex.mem.mpr ⟨h6, h7⟩), h7, ?_⟩)))⟩
    subst hk; exact hc
  · exact absurd h1 (by rcases hi with rfl | rfl <;> decide)
  · exact absurd h1 (by rcases hi with rfl | rfl <;> decide)
-- FD
structure KA (i : Nat) : Prop where
  out : i ≠ 3 ∧ i ≠ 5 ∧ i ≠ 7 ∧ i ≠ 11 ∧ i ≠ 13 ∧ i ≠ 14
structure KB (i : Nat) : Prop where
  out : i = 7 ∨ i = 13
structure KC (i : Nat) : Prop where
  out : i = 5
structure KD (i : Nat) : Prop where
  out : i = 3 ∨ i = 11
structure KE (i : Nat) : Prop where
  out : i = 14
theorem fl_kinds (i : Nat) (h : i < 15) : KA i ∨ KB i ∨ KC i ∨ KD i ∨ KE i := by
  by_cases h1 : i = 7 ∨ i = 13
  · exact .inr (.inl ⟨h1⟩)
  · by_cases h2 : i = 5
    · exact .inr (.inr (.inl ⟨h2⟩))
    · by_cases h3 : i = 3 ∨ i = 11
      · exact .inr (.inr (.inr (.inl ⟨h3⟩)))
      · by_cases h4 : i = 14
        · exact .inr (.inr (.inr (.inr ⟨h4⟩)))
        · exact .inl ⟨by lia⟩
theorem labOf_0 {i : Nat} (h : i ≠ 7) (h2 : i ≠ 13) : labOf i = 0 := by unfold labOf; rw [if_neg h, if_neg h2]
theorem fp_start {w : World} {led n : Led} {h₀ h : Heap} {L : Addr} {fw fd d1 d2 d3 d4 d5 bl lp : Addr} {x0 x1 x2 x3 x4 : Tok} {bn nn : Nat} {o1 o4 o5 : Obj} (_N : News h₀ L h n) (h1 : (fw, instObj 546 fd) ∈ n)
    (h2 : (fd, dictOf [enS w.params "labels" x0 (.ref d1), enS w.params "next_arm" x1 (.ref d2), enS w.params "block_end" x2 (.ref d3), enS w.params "do_end" x3 (.ref d4), enS w.params "ending" x4 (.ref d5)] 5) ∈ n)
    (h3 : (lp, listOf ([] : List Value).toArray nn) ∈ n) (h4 : (bl, listOf ([] : List Value).toArray bn) ∈ n) (h5 : (d1, o1) ∈ n) (h6 : (d4, o4) ∈ n) (h7 : (d5, o5) ∈ n) (i1 : o1.IsDictOf (intKind WP w) []) (i4 : o4.IsDictOf (intKind WP w) []) (i5 : o5.IsDictOf (intKind WP w) [])
    (hl : ∀ p ∈ led, p ∈ n) (g1 : AllLt d1 led) (g4 : AllLt d4 led) (g5 : AllLt d5 led) (g6 : AllLt lp led) (s1 : (d1 == sysModules) = false) (s5 : (d5 == sysModules) = false)
    (ne : (@Ne Nat fw d1 ∧ @Ne Nat fw d4 ∧ @Ne Nat fw d5 ∧ @Ne Nat fw lp) ∧ (@Ne Nat fd d1 ∧ @Ne Nat fd d4 ∧ @Ne Nat fd d5 ∧ @Ne Nat fd lp) ∧ (@Ne Nat bl d1 ∧ @Ne Nat bl d4 ∧ @Ne Nat bl d5 ∧ @Ne Nat bl lp) ∧ (@Ne Nat d1 d4 ∧ @Ne Nat d1 d5 ∧ @Ne Nat d1 lp ∧ @Ne Nat d4 d5 ∧ @Ne Nat d4 lp ∧ @Ne Nat d5 lp)) :
    FD ⟨fw, fd, d1, d2, d3, d4, d5, bl, lp, x0, x1, x2, x3, x4, bn⟩ led ∧ FP w ⟨fw, fd, d1, d2, d3, d4, d5, bl, lp, x0, x1, x2, x3, x4, bn⟩ led 0 n :=
  ⟨⟨ne.1, ne.2.1, ne.2.2.1, fun p hp => ⟨Nat.ne_of_lt (allLt_all g1 p hp), Nat.ne_of_lt (allLt_all g4 p hp), Nat.ne_of_lt (allLt_all g5 p hp), Nat.ne_of_lt (allLt_all g6 p hp)⟩, ne.2.2.2, s1, s5⟩,
    .inl ⟨by decide, ⟨hl, h1, h2, h4, ⟨o1, h5, i1⟩, ⟨o4, h6, i4⟩, ⟨o5, h7, i5⟩, nn, h3⟩⟩⟩
theorem FP.fin {w : World} {a : FRec} {led n : Led} (h : FP w a led 15 n) : ∃ lv dv l1 n1 t1 l2 n2 t2, FS w a led n lv dv [(7, .ref l1), (13, .ref l2)] [] ∧ (l1, listOf ([.int 3 t1] : List Value).toArray n1) ∈ n ∧ (l2, listOf ([.int 11 t2] : List Value).toArray n2) ∈ n := by
  rcases h with ⟨h1, _⟩ | ⟨h1, h2, _⟩ | ⟨h1, h2, _⟩ | ⟨h1, h2, _⟩ | ⟨h1, r⟩
  · lia
  · lia
  · lia
  · lia
  · exact r
/-- the program's statements -/
structure PD where
  (sl : Addr) (sn : Nat) (sts : List Value) (sr st y1 y2 y3 y4 : Nat → Addr) (ta tb tc td : Nat → Tok)
structure PIs (pd : PD) (led : Led) : Prop where
  sl : (pd.sl, listOf pd.sts.toArray pd.sn) ∈ led
  len : pd.sts.length = 15
  row : ∀ i, i < 15 → pd.sts[i]? = some (.ref (pd.sr i)) ∧ (pd.sr i, tp [.int (labOf i) (pd.ta i), .ref (pd.st i), .int 1 (pd.tb i)]) ∈ led
  asg : ∀ i, i < 15 → i ≠ 3 → i ≠ 5 → i ≠ 11 → i ≠ 14 → (pd.st i, tp [.str (Str.ofString "assign") (pd.tc i), .ref (pd.y1 i), .ref (pd.y2 i)]) ∈ led
  lif : (pd.st 5, tp [.str (Str.ofString "lif") (pd.tc 5), .ref (pd.y1 5), .ref (pd.y2 5)]) ∈ led
  dos : ∀ i, i = 3 ∨ i = 11 → (pd.st i, tp [.str (Str.ofString "do") (pd.tc i), .int (doOf i) (pd.td i), .ref (pd.y1 i), .ref (pd.y2 i), .ref (pd.y3 i), .ref (pd.y4 i)]) ∈ led
  fin : (pd.st 14, tp [.str (Str.ofString "end") (pd.tc 14)]) ∈ led
theorem PIs.sub {pd : PD} {led n : Led} (h : PIs pd led) (g : ∀ p ∈ led, p ∈ n) : PIs pd n :=
  ⟨g _ h.sl, h.len, fun i hi => ⟨(h.row i hi).1, g _ (h.row i hi).2⟩, fun i a b c d e => g _ (h.asg i a b c d e), g _ h.lif, fun i a => g _ (h.dos i a), g _ h.fin⟩
theorem news_front {h₀ h : Heap} {L I d : Addr} {it o : Obj} {n1 : Led} (N : News h₀ L h ((I, it) :: n1)) (m : (d, o) ∈ n1) : News h₀ L h ((I, it) :: (d, o) :: Ex d n1) := fun p hp => N p (by
  rcases List.mem_cons.mp hp with rfl | hp
  · exact .head _
  · rcases List.mem_cons.mp hp with rfl | hp
    · exact .tail _ m
    · exact .tail _ (Ex.mem.mp hp).1)
theorem ex_ne {d : Addr} {o : Obj} {n1 : Led} (_m : (d, o) ∈ n1) : ∀ p ∈ Ex d n1, p.1 ≠ d := fun p hp => (Ex.mem.mp hp).2
theorem fl_post {w : World} {a : FRec} {led n : Led} (D : FD a led) (h : FP w a led 15 n) : ∃ fw fd d1 d2 d3 d4 d5 x0 x1 x2 x3 x4 en l1 l2 n1 n2 t1 t2, Value.ref a.fw = .ref fw ∧ (fw, instObj 546 fd) ∈ n ∧ (fd, dictOf [enS w.params "labels" x0 (.ref d1), enS w.params "next_arm" x1 (.ref d2), enS w.params "block_end" x2 (.ref d3), enS w.params "do_end" x3 (.ref d4), enS w.params "ending" x4 (.ref d5)] 5) ∈ n ∧ (d5, en) ∈ n ∧ (d5 == sysModules) = false ∧ en.IsDictOf (intKind WP w) [(7, .ref l1), (13, .ref l2)] ∧ (l1, listOf ([.int 3 t1] : List Value).toArray n1) ∈ n ∧ (l2, listOf ([.int 11 t2] : List Value).toArray n2) ∈ n ∧ (∀ p ∈ led, p ∈ n) := by
  refine viaP fun PZ kZ => ?_
  obtain ⟨lv, dv, l1, n1, t1, l2, n2, t2, S, z1, z2⟩ := h.fin
  obtain ⟨o5, s7, s8⟩ := S.d5
  refine kZ ?_; clear kZ PZ
  exact ⟨_, _, _, _, _, _, _, _, _, _, _, _, o5, _, _, _, _, _, _, rfl, S.fw, S.fd, s7, D.s5, s8, z1, z2, S.led⟩
theorem fl_do2 {w : World} {a : FRec} {led n1 : Led} {i : Nat} {c D1 I : Addr} {o1 it : Obj} {nn2 : Nat} {k : Int} {t1 t2 t3 : Tok} (m2 : ∀ (n' : Led) (c : Addr) (nn2 : Nat) (k : Int) (t1 t2 t3 : Tok), k = (i : Int) → (∀ p ∈ Ex a.lp n1, p ∈ n') → (a.lp, listOf ([.ref c] : List Value).toArray nn2) ∈ n' → (c, tp [.int (doOf i) t1, .int k t2, .int (-1) t3]) ∈ n' → FP w a led (i + 1) n') (hk : k = (i : Int)) :
    FP w a led (i + 1) ((c, tp [.int (doOf i) t1, .int k t2, .int (-1) t3]) :: (D1, o1) :: (I, it) :: (a.lp, listOf (#[].push (.ref c)) nn2) :: Ex a.lp n1) :=
  m2 _ c nn2 k t1 t2 t3 hk (fun p hp => .tail _ (.tail _ (.tail _ (.tail _ hp)))) (.tail _ (.tail _ (.tail _ (.head _)))) (.head _)
theorem nePD : Nonempty PD := ⟨by constructor <;> first | exact 0 | exact Value.none | exact Str.ofString "" | exact (fun _ => 0) | exact [] | exact default | exact ⟨[], 0⟩⟩
theorem words13 : True := by
  k_with "G13" => (
    k_with "!pyIter ref" => (k_here; (with_reducible show wpAny _ _ (pyIter (Value.ref _)) (fun it s₂ => LoopAtV _ _ _ _ _ _ _ _ _ it s₂) _ _); k_dflt (k_extra "rangeJ"))
    k_with "!UnrEnd" => (k_dflt (k_extra "endJ"))
    k_with "!call ref" => ((with_reducible show wpAny _ _ (call (Value.ref _) ([] ++ [])) _ _ _); k_here; k_dflt (rw [show (([] : List Value) ++ []) = [] from rfl]))
    k_with "m:k_room" => ktr_room
    k_with "!newTuple" => (k_here; k_dflt (refine' kup_newTuple ?z37F ?z37N ?_ ?z37z; (case z37F => k_asm); (case z37N => k_asm); (case z37z => kmk_size)); intro D' h' F' N' l1; (try k_lt l1); (try k_sweep)))
  k_extra "G13"
  trivial
-- R2
/-- what stays, while the unit is run -/
structure Stc where
  (c : Ctx) (un ud : Addr) (u : UV) (pd : PD) (so : Obj) (sv : List (Str × Value)) (xe : Addr × Obj)
def AsgP (S : Led) (y1 : Addr) (i : Nat) : Prop := ∃ t : Nat → Tok, (y1, tp [.str (Str.ofString "var") (t 0), .int 2 (t 1), .str (nmAt (aT i)) (t 2)]) ∈ S
def LifP (S : Led) (y1 y2 : Addr) : Prop := ∃ (u : Nat → Addr) (t : Nat → Tok), (y1, tp [.str (Str.ofString "eq") (t 0), .int 4 (t 1), .ref (u 0), .ref (u 1)]) ∈ S ∧ (u 0, tp [.str (Str.ofString "var") (t 2), .int 0 (t 3), .str (Str.ofString "K") (t 4)]) ∈ S ∧ (u 1, tp [.str (Str.ofString "const") (t 5), .int 0 (t 6), .int 2 (t 7)]) ∈ S ∧
    (y2, tp [.str (Str.ofString "assign") (t 8), .ref (u 2), .ref (u 3)]) ∈ S ∧ (u 2, tp [.str (Str.ofString "var") (t 9), .int 2 (t 10), .str (nmAt (aT 5)) (t 11)]) ∈ S ∧ (aE 5).Rep S (u 3)
def DosP (S : Led) (y1 y2 y3 y4 : Addr) (i : Nat) : Prop := ∃ t : Nat → Tok, (y1, tp [.str (Str.ofString "var") (t 0), .int 0 (t 1), .str (Str.ofString "K") (t 2)]) ∈ S ∧ (y2, tp [.str (Str.ofString "const") (t 3), .int 0 (t 4), .int 1 (t 5)]) ∈ S ∧ (y3, tp [.str (Str.ofString "const") (t 6), .int 0 (t 7), .int (lpN i) (t 8)]) ∈ S ∧ (y4, tp [.str (Str.ofString "const") (t 9), .int 0 (t 10), .int 1 (t 11)]) ∈ S
theorem AsgP.sub {S S' : Led} {y1 : Addr} {i : Nat} (h : AsgP S y1 i) (g : ∀ p ∈ S, p ∈ S') : AsgP S' y1 i := h.imp fun _ h => g _ h
theorem LifP.sub {S S' : Led} {y1 y2 : Addr} (h : LifP S y1 y2) (g : ∀ p ∈ S, p ∈ S') : LifP S' y1 y2 := h.imp fun _ h => h.imp fun _ h => ⟨g _ h.1, g _ h.2.1, g _ h.2.2.1, g _ h.2.2.2.1, g _ h.2.2.2.2.1, h.2.2.2.2.2.sub g⟩
theorem DosP.sub {S S' : Led} {y1 y2 y3 y4 : Addr} {i : Nat} (h : DosP S y1 y2 y3 y4 i) (g : ∀ p ∈ S, p ∈ S') : DosP S' y1 y2 y3 y4 i := h.imp fun _ h => ⟨g _ h.1, g _ h.2.1, g _ h.2.2.1, g _ h.2.2.2⟩
structure StIs (w : World) (q : Stc) (S : Led) : Prop where
  env : EnvIs w q.c S
  un : (q.un, instObj 818 q.ud) ∈ S
  ud : (q.ud, unitD w.params q.u) ∈ S
  usl : q.u.sl = q.pd.sl
  pis : PIs q.pd S
  st : (q.c.r.st, q.so) ∈ S
  st1 : (q.c.r.st == sysModules) = false
  st2 : q.so.IsDictOf (strKind WP w) q.sv
  kA : valueAt q.sv (Str.ofString "assign") = some (.ref 653)
  kL : valueAt q.sv (Str.ofString "lif") = some (.ref 716)
  kD : valueAt q.sv (Str.ofString "do") = some (.ref 744)
  kE : valueAt q.sv (Str.ofString "end") = some (.ref 765)
  lo : (q.c.r.lo == sysModules) = false
  asg : ∀ i, i < 15 → i ≠ 3 → i ≠ 5 → i ≠ 11 → i ≠ 14 → AsgP S (q.pd.y1 i) i ∧ (aE i).Rep S (q.pd.y2 i)
  lif : LifP S (q.pd.y1 5) (q.pd.y2 5)
  dos : ∀ i, i = 3 ∨ i = 11 → DosP S (q.pd.y1 i) (q.pd.y2 i) (q.pd.y3 i) (q.pd.y4 i) i
  xe : q.xe ∈ S
structure NeIs (q : Stc) (S : Led) : Prop where
  ne : ∀ p ∈ S, p.1 ≠ q.c.rd ∧ p.1 ≠ q.c.ce ∧ p.1 ≠ q.c.r.lo
  d : @Ne Nat q.c.rd q.c.ce ∧ @Ne Nat q.c.rd q.c.r.lo ∧ @Ne Nat q.c.ce q.c.r.lo
structure FlIs (w : World) (q : Stc) (y : FY) : Prop where
  fls : ∃ fo fv, (q.c.r.fl, fo) ∈ y.S ∧ (q.c.r.fl == sysModules) = false ∧ fo.IsDictOf (strKind WP w) fv ∧ valueAt fv q.u.nm = some (.ref y.fw)
  fw : (y.fw, instObj 546 y.fd) ∈ y.S
  fd : (y.fd, flowD w.params y.fl) ∈ y.S
  en : (y.fl.d_ending, y.en) ∈ y.S
  en2 : y.en.IsDictOf (intKind WP w) y.ev
  e7 : ∀ i : Nat, i = 7 ∨ i = 13 → ∃ li ln tl, valueAt y.ev (i : Int) = some (.ref li) ∧ (li, listOf ([.int (lpB i) tl] : List Value).toArray ln) ∈ y.S
  eN : ∀ i : Nat, i ≠ 7 → i ≠ 13 → valueAt y.ev (i : Int) = none
structure Dyn (w : World) (q : Stc) (y : FY) (ns : Int) (ts : Tok) (vs : List Value) (nn : Nat) (σ : St) (n : Led) : Prop where
  S : ∀ p ∈ y.S, p ∈ n
  rd : (q.c.rd, runD w.params q.c.r ns ts) ∈ n
  ce : (q.c.ce, listOf vs.toArray nn) ∈ n
  mem : MemIs vs σ n
def LpIs (w : World) (q : Stc) (i t : Nat) (n : Led) : Prop := ∃ lobj, (q.c.r.lo, lobj) ∈ n ∧ lobj.cls = .type "dict" ∧
  (((4 ≤ i ∧ i ≤ 7 ∨ 12 ≤ i ∧ i ≤ 13) ∧ ∃ kt c t1 t2 t3 t4, Loop1 w lobj q.u.nm (lpB i) kt (.ref c) ∧ (kt, tp [.str q.u.nm t1, .int (lpB i) t2]) ∈ n ∧ (c, tp [.int ((lpN i : Int) - t) t3, .int 1 t4]) ∈ n) ∨
   (¬(4 ≤ i ∧ i ≤ 7 ∨ 12 ≤ i ∧ i ≤ 13) ∧ Loop0 lobj))
/-- the steps that are left -/
noncomputable def rem (i t : Nat) : Nat := if i ≤ 3 then 25 - i else if i ≤ 7 then 25 - 4 * t - i else if i ≤ 11 then 17 - i else if i ≤ 13 then 17 - 2 * t - i else 1
def ISt (w : World) (q : Stc) (P : Nat → Nat → St → Prop) (lid : Int) (y : FY) (k : Nat) (at_ : Int) (n : Led) : Prop := NeIs q y.S ∧ StIs w q y.S ∧ FlIs w q y ∧ ∃ i t ns ts vs nn σ, at_ = ((i : Nat) : Int) ∧ i < 15 ∧ k = rem i t ∧ 0 ≤ ns ∧ ns + (k : Int) ≤ lid ∧ Dyn w q y ns ts vs nn σ n ∧ P i t σ ∧ LpIs w q i t n
def IFin (w : World) (q : Stc) (z : In) (n : Led) : Prop := ∃ y ns ts vs nn σ, NeIs q y.S ∧ StIs w q y.S ∧ Dyn w q y ns ts vs nn σ n ∧ Ph z 14 0 σ
theorem tup_ne {n : Led} {a d : Addr} {l : List Value} {o : Obj} (f : Fn n) (h : (a, tp l) ∈ n) (hd : (d, o) ∈ n) (hc : o.cls ≠ .type "tuple") : a ≠ d := fun e => by
  have e2 : tp l = o := f _ h _ hd e
  subst e2
  exact hc rfl
theorem Dec.tup {led led' : Led} {v : Value} {N : Int} (h : Dec led v N) (g : ∀ a l, (a, tp l) ∈ led → (a, tp l) ∈ led') : Dec led' v N := by
  refine viaP fun PZ kZ => ?_
  obtain ⟨a, u1, u2, e, h⟩ := h
  refine kZ ?_; clear kZ PZ
  exact ⟨a, u1, u2, e, h.imp (g _ _) id⟩
theorem MemIs.tup {vs : List Value} {σ : St} {n n' : Led} (h : MemIs vs σ n) (g : ∀ a l, (a, tp l) ∈ n → (a, tp l) ∈ n') : MemIs vs σ n' := by
  refine ⟨h.len, fun i N hi => ?_, fun m hm => ?_⟩
  · obtain ⟨c1, c2, t8, t9, x, a, b, d, e, f⟩ := h.v i N hi
    exact ⟨c1, c2, t8, t9, x, a, b, g _ _ d, g _ _ e, f.tup g⟩
  · obtain ⟨c1, t8, t9, a, b⟩ := h.k m hm
    exact ⟨c1, t8, t9, a, g _ _ b⟩
theorem MemIs.put {vs : List Value} {σ : St} {n : Led} {i : Nat} {c1 c2 : Addr} {t3 t4 : Tok} {x : Value} {N : Int} (h : MemIs vs σ n) (m1 : (c1, tp [.int 2 t3, x]) ∈ n) (m2 : (c2, tp [.int 6 t4, x]) ∈ n) (d : Dec n x N) (hi : i < 12) :
    MemIs ((vs.set (2 * (i : Int)).toNat (.ref c1)).set (2 * (i : Int) + 1).toNat (.ref c2)) (σ.set i N) n := by
  have e1 : (2 * (i : Int)).toNat = 2 * i := by lia
  have e2 : (2 * (i : Int) + 1).toNat = 2 * i + 1 := by lia
  rw [e1, e2]
  have hl := h.len
  refine ⟨by rw [List.length_set, List.length_set]; exact hl, fun j M hj => ?_, fun m hm => ?_⟩
  · by_cases hij : j = i
    · subst hij
      have e : N = M := by
        rw [St.set_same] at hj
        exact Option.some.inj hj
      subst e
      refine ⟨c1, c2, t3, t4, x, ?_, ?_, m1, m2, d⟩
      · rw [List.getElem?_set_ne (by lia), List.getElem?_set_self (by lia)]
      · rw [List.getElem?_set_self (by rw [List.length_set]; lia)]
    · rw [St.set_ne hij] at hj
      refine viaP fun PZ kZ => ?_
      obtain ⟨c3, c4, t8, t9, x', a, b, f⟩ := h.v j M hj
      refine kZ ?_; clear kZ PZ
      refine ⟨c3, c4, t8, t9, x', ?_, ?_, f⟩
      · rw [List.getElem?_set_ne (by lia), List.getElem?_set_ne (by lia)]; exact a
      · rw [List.getElem?_set_ne (by lia), List.getElem?_set_ne (by lia)]; exact b
  · obtain ⟨c3, t8, t9, a, b⟩ := h.k m hm
    refine ⟨c3, t8, t9, ?_, b⟩
    rw [List.getElem?_set_ne (by lia), List.getElem?_set_ne (by lia)]; exact a
theorem MemIs.putK {vs : List Value} {σ : St} {n : Led} {c1 : Addr} {t3 t4 : Tok} {N : Int} (h : MemIs vs σ n) (m1 : (c1, tp [.int 0 t3, .int N t4]) ∈ n) : MemIs (vs.set (24 : Int).toNat (.ref c1)) (σ.setK N) n := by
  refine @dq _ (by
  have e1 : (24 : Int).toNat = 24 := rfl
  rw [e1]
  have hl := h.len
  refine ⟨by rw [List.length_set]; exact hl, fun j M hj => ?_, fun m hm => ?_⟩
  · obtain ⟨c3, c4, t8, t9, x', a, b, f⟩ := h.v j M hj
    have h2 : 2 * j + 1 < 25 := by
      rcases Nat.lt_or_ge (2 * j + 1) 25 with q | q
      · exact q
      · rw [List.getElem?_eq_none (by lia)] at b; exact nomatch b
    have h3 : 2 * j ≠ 24 := by
      intro e
      rw [List.getElem?_eq_none (by lia)] at b; exact nomatch b
    refine ⟨c3, c4, t8, t9, x', ?_, ?_, f⟩
    · rw [List.getElem?_set_ne (by lia)]; exact a
    · rw [List.getElem?_set_ne (by lia)]; exact b
  · have e : N = m := Option.some.inj hm
    subst e
    exact ⟨c1, t3, t4, List.getElem?_set_self (by lia), m1⟩) fun q hf => ?_
  simpa only using fq hf (@Eq _ 5 5)
theorem Dyn.now {w : World} {q : Stc} {y : FY} {ns : Int} {ts : Tok} {vs : List Value} {nn : Nat} {σ : St} {n : Led} (D : Dyn w q y ns ts vs nn σ n) (s : StIs w q y.S) : Now w q.c ns ts vs nn σ n := ⟨s.env.sub D.S, D.rd, D.ce, D.mem⟩
theorem Dyn.sub {w : World} {q : Stc} {y : FY} {ns : Int} {ts : Tok} {vs : List Value} {nn : Nat} {σ : St} {n n' : Led} (D : Dyn w q y ns ts vs nn σ n) (g : ∀ p ∈ n, p ∈ n') : Dyn w q y ns ts vs nn σ n' := ⟨fun p hp => g _ (D.S p hp), g _ D.rd, g _ D.ce, D.mem.sub g⟩
theorem Dyn.keepC {w : World} {q : Stc} {y : FY} {ns : Int} {ts : Tok} {vs vs' : List Value} {nn nn' : Nat} {σ σ' : St} {n n' : Led} (D : Dyn w q y ns ts vs nn σ n) (e : NeIs q y.S) (g : ∀ p ∈ n, p.1 ≠ q.c.ce → p ∈ n') (hc : (q.c.ce, listOf vs'.toArray nn') ∈ n') (hm : MemIs vs' σ' n') : Dyn w q y ns ts vs' nn' σ' n' :=
  ⟨fun p hp => g _ (D.S p hp) (e.ne p hp).2.1, g _ D.rd e.d.1, hc, hm⟩
theorem LpIs.keep {w : World} {q : Stc} {i t : Nat} {d : Addr} {o : Obj} {n n' : Led} (h : LpIs w q i t n) (f : Fn n) (hd : (d, o) ∈ n) (hc : o.cls ≠ .type "tuple") (hl : @Ne Nat q.c.r.lo d) (g : ∀ p ∈ n, p.1 ≠ d → p ∈ n') : LpIs w q i t n' := by
  refine viaP fun PZ kZ => ?_
  obtain ⟨lobj, m, k, h⟩ := h
  refine kZ ?_; clear kZ PZ
  refine ⟨lobj, g _ m hl, k, ?_⟩
  rcases h with ⟨a, kt, c, t1, t2, t3, t4, b, b1, b2⟩ | h
  · exact .inl ⟨a, kt, c, t1, t2, t3, t4, b, g _ b1 (tup_ne f b1 hd hc), g _ b2 (tup_ne f b2 hd hc)⟩
  · exact .inr h
theorem LpIs.sub {w : World} {q : Stc} {i t : Nat} {n n' : Led} (h : LpIs w q i t n) (g : ∀ p ∈ n, p ∈ n') : LpIs w q i t n' := by
  refine viaP fun PZ kZ => ?_
  obtain ⟨lobj, m, k, h⟩ := h
  refine kZ ?_; clear kZ PZ
  refine ⟨lobj, g _ m, k, ?_⟩
  rcases h with ⟨a, kt, c, t1, t2, t3, t4, b, b1, b2⟩ | h
  · exact .inl ⟨a, kt, c, t1, t2, t3, t4, b, g _ b1, g _ b2⟩
  · exact .inr h
theorem LpIs.next {w : World} {q : Stc} {i t : Nat} {n : Led} (h : LpIs w q i t n) (h3 : i ≠ 3) (h7 : i ≠ 7) (h11 : i ≠ 11) (h13 : i ≠ 13) : LpIs w q (i + 1) t n := by
  refine viaP fun PZ kZ => ?_
  obtain ⟨lobj, m, k, h⟩ := h
  refine kZ ?_; clear kZ PZ
  refine ⟨lobj, m, k, ?_⟩
  rcases h with ⟨a, h⟩ | ⟨a, h⟩
  · have hi : i < 14 := by rcases a with ⟨_, b⟩ | ⟨_, b⟩ <;> exact Nat.lt_of_le_of_lt b (by decide)
    have key := (by decide : ∀ i : Fin 14, i.1 ≠ 7 → i.1 ≠ 13 → (4 ≤ i.1 ∧ i.1 ≤ 7 ∨ 12 ≤ i.1 ∧ i.1 ≤ 13) → (4 ≤ i.1 + 1 ∧ i.1 + 1 ≤ 7 ∨ 12 ≤ i.1 + 1 ∧ i.1 + 1 ≤ 13) ∧ lpB (i.1 + 1) = lpB i.1 ∧ lpN (i.1 + 1) = lpN i.1) ⟨i, hi⟩ h7 h13 a
    refine .inl ⟨key.1, ?_⟩
    rw [key.2.1, key.2.2]; exact h
  · refine .inr ⟨fun b => a ?_, h⟩
    have hi : i < 14 := by rcases b with ⟨_, b⟩ | ⟨_, b⟩ <;> exact Nat.lt_of_lt_of_le (Nat.lt_succ_self i) (Nat.le_trans b (by decide))
    exact (by decide : ∀ i : Fin 14, i.1 ≠ 3 → i.1 ≠ 11 → (4 ≤ i.1 + 1 ∧ i.1 + 1 ≤ 7 ∨ 12 ≤ i.1 + 1 ∧ i.1 + 1 ≤ 13) → (4 ≤ i.1 ∧ i.1 ≤ 7 ∨ 12 ≤ i.1 ∧ i.1 ≤ 13)) ⟨i, hi⟩ h3 h11 b
theorem rem_next {i t : Nat} (hi : i < 14) (h7 : i ≠ 7) (h13 : i ≠ 13) (ht : i = 4 ∨ i = 5 ∨ i = 6 → t < 3) (ht2 : i = 12 → t < 2) (h3 : i = 3 ∨ i = 11 → t = 0) : rem i t = rem (i + 1) t + 1 := by
  rcases Nat.lt_or_ge t 3 with h | h
  · exact (by decide : ∀ (i : Fin 14) (t : Fin 3), i.1 ≠ 7 → i.1 ≠ 13 → (i.1 = 12 → t.1 < 2) → (i.1 = 3 ∨ i.1 = 11 → t.1 = 0) → rem i.1 t.1 = rem (i.1 + 1) t.1 + 1) ⟨i, hi⟩ ⟨t, h⟩ h7 h13 ht2 h3
  · rcases (by decide : ∀ i : Fin 14, i.1 ≠ 7 → i.1 ≠ 13 → ¬ (i.1 = 4 ∨ i.1 = 5 ∨ i.1 = 6) → i.1 ≠ 12 → ¬ (i.1 = 3 ∨ i.1 = 11) → i.1 = 0 ∨ i.1 = 1 ∨ i.1 = 2 ∨ i.1 = 8 ∨ i.1 = 9 ∨ i.1 = 10) ⟨i, hi⟩ h7 h13 (fun q => absurd (ht q) (Nat.not_lt.mpr h)) (fun q => absurd (Nat.lt_of_lt_of_le (ht2 q) (by decide)) (Nat.not_lt.mpr h)) (fun q => absurd (h3 q ▸ h) (by decide)) with q | q | q | q | q | q <;> (cases q; rfl)
section
variable {w : World} {q : Stc} {z : In} {y : FY} {ns : Int} {ts : Tok} {vs : List Value} {nn : Nat} {σ : St} {n : Led}
/-- a store of a real -/
theorem ex_put (D : Dyn w q y ns ts vs nn σ n) (e : NeIs q y.S) (s : StIs w q y.S) {i : Nat} {x : Value} {N : Int} {pa : Addr} {t6 t7 : Tok} {z1 z2 : Value} (hi : i < 12) (hx : Dec n x N) (hp : (pa, tp [.int 2 t6, .int (2 * (i : Nat)) t7, z1, z2]) ∈ n) :
    SpecT w 3 32 131 [.ref q.c.r.me, .ref pa, x] n (fun v n' => v = .none ∧ ∃ vs', Dyn w q y ns ts vs' nn (σ.set i N) n' ∧ ∀ p ∈ n, p.1 ≠ q.c.ce → p ∈ n') := by
  refine SpecT.pre fun f => ?_
  refine viaP fun PZ kZ => ?_
  obtain ⟨q1, q2, ch, m1, m2⟩ := s.env.me
  refine kZ ?_; clear kZ PZ
  refine (SpecT.front D.ce fun hX => c_mst2 w q.c.ce vs nn q.c.r.me q.c.md q1 q2 ch pa t6 t7 z1 z2 (2 * (i : Nat)) x _ hX D.mem.len (Ex.mem.mpr ⟨D.S _ m1, (e.ne _ m1).2.1⟩) (Ex.mem.mpr ⟨D.S _ m2, (e.ne _ m2).2.1⟩) (Ex.mem.mpr ⟨hp, tup_ne f hp D.ce (by show Value.type "list" ≠ _; decide)⟩) (by lia) (by lia)).weak (Nat.le_refl _) (Nat.le_refl _) (fun _ h => h) fun v n' h => ?_
  refine viaP fun PZ kZ => ?_
  obtain ⟨h0, c1, c2, t3, t4, rfl, -⟩ := h
  refine kZ ?_; clear kZ PZ
  have keep : ∀ p ∈ n, p.1 ≠ q.c.ce → p ∈ (c2, tp [.int 6 t4, x]) :: (c1, tp [.int 2 t3, x]) :: (q.c.ce, listOf ((vs.set (2 * (i : Int)).toNat (.ref c1)).set (2 * (i : Int) + 1).toNat (.ref c2)).toArray nn) :: Ex q.c.ce n := fun p hp hn => .tail _ (.tail _ (.tail _ (Ex.mem.mpr ⟨hp, hn⟩)))
  have tk : ∀ a l, (a, tp l) ∈ n → (a, tp l) ∈ (c2, tp [.int 6 t4, x]) :: (c1, tp [.int 2 t3, x]) :: (q.c.ce, listOf ((vs.set (2 * (i : Int)).toNat (.ref c1)).set (2 * (i : Int) + 1).toNat (.ref c2)).toArray nn) :: Ex q.c.ce n := fun a l h => keep _ h (tup_ne f h D.ce (by show Value.type "list" ≠ _; decide))
  exact ⟨h0, _, D.keepC e keep (.tail _ (.tail _ (.head _))) ((D.mem.tup tk).put (.tail _ (.head _)) (.head _) (hx.tup tk) hi), keep⟩
theorem ex_putK (D : Dyn w q y ns ts vs nn σ n) (e : NeIs q y.S) (s : StIs w q y.S) {N : Int} {pa : Addr} {t6 t7 t8 : Tok} {z1 z2 : Value} (hp : (pa, tp [.int 0 t6, .int 24 t7, z1, z2]) ∈ n) :
    SpecT w 3 32 131 [.ref q.c.r.me, .ref pa, .int N t8] n (fun v n' => v = .none ∧ ∃ vs', Dyn w q y ns ts vs' nn (σ.setK N) n' ∧ ∀ p ∈ n, p.1 ≠ q.c.ce → p ∈ n') := by
  refine SpecT.pre fun f => ?_
  refine viaP fun PZ kZ => ?_
  obtain ⟨q1, q2, ch, m1, m2⟩ := s.env.me
  refine kZ ?_; clear kZ PZ
  refine (SpecT.front D.ce fun hX => c_mst0 w q.c.ce vs nn q.c.r.me q.c.md q1 q2 ch pa t6 t7 z1 z2 24 (.int N t8) _ hX D.mem.len (Ex.mem.mpr ⟨D.S _ m1, (e.ne _ m1).2.1⟩) (Ex.mem.mpr ⟨D.S _ m2, (e.ne _ m2).2.1⟩) (Ex.mem.mpr ⟨hp, tup_ne f hp D.ce (by show Value.type "list" ≠ _; decide)⟩) (by lia) (by lia)).weak (Nat.le_refl _) (Nat.le_refl _) (fun _ h => h) fun v n' h => ?_
  refine viaP fun PZ kZ => ?_
  obtain ⟨h0, c1, t3, rfl, -⟩ := h
  refine kZ ?_; clear kZ PZ
  have keep : ∀ p ∈ n, p.1 ≠ q.c.ce → p ∈ (c1, tp [.int 0 t3, .int N t8]) :: (q.c.ce, listOf (vs.set (24 : Int).toNat (.ref c1)).toArray nn) :: Ex q.c.ce n := fun p hp hn => .tail _ (.tail _ (Ex.mem.mpr ⟨hp, hn⟩))
  have tk : ∀ a l, (a, tp l) ∈ n → (a, tp l) ∈ (c1, tp [.int 0 t3, .int N t8]) :: (q.c.ce, listOf (vs.set (24 : Int).toNat (.ref c1)).toArray nn) :: Ex q.c.ce n := fun a l h => keep _ h (tup_ne f h D.ce (by show Value.type "list" ≠ _; decide))
  exact ⟨h0, _, D.keepC e keep (.tail _ (.head _)) ((D.mem.tup tk).putK (.head _)), keep⟩
/-- an assignment -/
theorem ex_asg (D : Dyn w q y ns ts vs nn σ n) (e : NeIs q y.S) (s : StIs w q y.S) {i : Nat} {N : Int} {T : TR} {st y1 y2 : Addr} {wd : Value} {t1 t2 t3 t4 : Tok} {at_ : Int} (hi : i < 12) (hs : (st, tp [wd, .ref y1, .ref y2]) ∈ y.S) (h1 : (y1, tp [.str (Str.ofString "var") t1, .int 2 t2, .str (nmAt i) t3]) ∈ y.S) (hT : T.Rep y.S y2) (hE : Ev σ T N) (hh : T.ht ≤ 12) :
    SpecT w 41 408 653 [.ref q.c.ru, .ref q.un, .int at_ t4, .ref st] n (fun v n' => (∃ t, v = .int (at_ + 1) t) ∧ ∃ vs', Dyn w q y ns ts vs' nn (σ.set i N) n' ∧ ∀ p ∈ n, p.1 ≠ q.c.ce → p ∈ n') := by
  refine viaP fun PZ kZ => ?_
  obtain ⟨q1, q2, ch, m1, m2⟩ := s.env.me
  obtain ⟨fo, fv, f1, f2, f3, f4, -⟩ := s.env.fr
  obtain ⟨pa, t6, t7, z1, z2, p1, p2⟩ := f4 i hi
  refine kZ ?_; clear kZ PZ
  refine c_assign w 40 400 (fun v n1 => Grown n n1 ∧ Dec n1 v N) _ q.c.ru q.un y1 y2 st wd at_ t4 n (D.S _ hs) (HSpecT.of ?_) (fun v n1 h => h.1.sub _ (D.S _ hs)) (fun v n1 h => HSpecT.of ?_)
  · exact ((ev_real T y2 n (D.now s) (hT.sub D.S) hE.ok).t).weak (by lia) (by lia) (fun _ h => h) fun v n1 h => ⟨h.1, by rw [← hE.val]; exact h.2⟩
  · obtain ⟨g, hd⟩ := h
    have D1 := D.sub g.sub
    haveI C := c_stval w 39 392 (fun v2 n2 => Grown n1 n2 ∧ v2 = .ref pa) (fun n' => ∃ vs', Dyn w q y ns ts vs' nn (σ.set i N) n' ∧ ∀ p ∈ n, p.1 ≠ q.c.ce → p ∈ n') q.c.ru q.c.rd q.c.r ns ts q.c.md y1 q.c.ce q1 q2 ch v n1 (D1.S _ s.env.run) D1.rd (D1.S _ m1) (D1.S _ m2)
      (HSpecT.of (((c_place w q.c.ru q.c.rd q.c.r ns ts fo fv (nmAt i) pa _ y1 2 t1 t2 t3 n1 (D1.S _ s.env.run) D1.rd (D1.S _ f1) f2 f3 p1 (D1.S _ p2) (D1.S _ h1)).t).weak (leN rfl) (leN rfl) (fun _ h => h) fun _ _ h => h))
      (fun v2 n2 h2 => HSpecT.of (by
        obtain ⟨g2, rfl⟩ := h2
        have D2 := D1.sub g2.sub
        exact (ex_put D2 e s hi (hd.sub g2.sub) (D2.S _ p2)).weak (leN rfl) (leN rfl) (fun _ h => h) fun v3 n3 h3 => ⟨h3.1, by
          refine viaP fun PZ kZ => ?_
          obtain ⟨vs', h4, h5⟩ := h3.2
          refine kZ ?_; clear kZ PZ
          exact ⟨vs', h4, fun p hp hn => h5 p (g2.sub _ (g.sub _ hp)) hn⟩⟩))
    exact C.weak (leN rfl) (leN rfl) (fun _ h => h) fun _ _ h => h
theorem ex_step (D : Dyn w q y ns ts vs nn σ n) (e : NeIs q y.S) (s : StIs w q y.S) (h : ns + 1 ≤ 1000000) :
    SpecT w 2 24 625 [.ref q.c.ru] n (fun v n' => v = .none ∧ ∃ ts', Dyn w q y (ns + 1) ts' vs nn σ n' ∧ ∀ p ∈ n, p.1 ≠ q.c.rd → p ∈ n') := by
  refine SpecT.pre fun f => ?_
  refine viaP fun PZ kZ => ?_
  have hz8 := s.env.la; revert hz8; refine im8 ?_; intro ld k1 k2 k3 k4 k5 k6 k7; rintro ⟨k8, hz8⟩; revert hz8; rintro ⟨l1, l2⟩
  refine kZ ?_; clear kZ PZ
  refine (SpecT.front D.rd fun hX => c_cstep w q.c.ru q.c.rd q.c.r ns ts q.c.r.la ld k1 k2 k3 k4 k5 k6 k7 k8 _ (Ex.mem.mpr ⟨D.S _ s.env.run, (e.ne _ s.env.run).1⟩) hX rfl (Ex.mem.mpr ⟨D.S _ l1, (e.ne _ l1).1⟩) (Ex.mem.mpr ⟨D.S _ l2, (e.ne _ l2).1⟩) h).weak (Nat.le_refl _) (Nat.le_refl _) (fun _ h => h) fun v n' h => ?_
  refine viaP fun PZ kZ => ?_
  obtain ⟨h0, t, rfl⟩ := h
  refine kZ ?_; clear kZ PZ
  have keep : ∀ p ∈ n, p.1 ≠ q.c.rd → p ∈ (q.c.rd, runD w.params q.c.r (ns + 1) t) :: Ex q.c.rd n := fun p hp hn => .tail _ (Ex.mem.mpr ⟨hp, hn⟩)
  have tk : ∀ a l, (a, tp l) ∈ n → (a, tp l) ∈ (q.c.rd, runD w.params q.c.r (ns + 1) t) :: Ex q.c.rd n := fun a l h => keep _ h (tup_ne f h D.rd (by show Value.type "dict" ≠ _; decide))
  exact ⟨h0, t, ⟨fun p hp => keep _ (D.S p hp) (e.ne p hp).1, .head _, keep _ D.ce (Ne.symm e.d.1), D.mem.tup tk⟩, keep⟩
end
theorem neStc : Nonempty Stc := neRV.elim fun r => neUV.elim fun u => nePD.elim fun p => ⟨⟨⟨0,0,0,0,r⟩,0,0,u,p,dictOf [] 0,[],(0, dictOf [] 0)⟩⟩
-- R3
theorem aT_lt (i : Nat) : aT i < 12 := by
  rcases Nat.lt_or_ge i 15 with h | h
  · exact (by decide : ∀ i : Fin 15, aT i.1 < 12) ⟨i, h⟩
  · obtain ⟨j, rfl⟩ := Nat.exists_eq_add_of_le' h; exact Nat.le_of_ble_eq_true rfl
theorem aE_ht (i : Nat) : (aE i).ht ≤ 12 := by
  rcases Nat.lt_or_ge i 15 with h | h
  · exact (by decide : ∀ i : Fin 15, (aE i.1).ht ≤ 12) ⟨i, h⟩
  · obtain ⟨j, rfl⟩ := Nat.exists_eq_add_of_le' h; exact Nat.le_of_ble_eq_true rfl
def PAsg (w : World) (q : Stc) (y : FY) (ns : Int) (ts : Tok) (nn : Nat) (σ' : St) (n n' : Led) : Prop := ∃ vs', Dyn w q y ns ts vs' nn σ' n' ∧ ∀ p ∈ n, p.1 ≠ q.c.ce → p ∈ n'
section
variable {w : World} {q : Stc} {z : In} {y : FY} {ns : Int} {ts : Tok} {vs : List Value} {nn : Nat} {σ : St} {n : Led}
theorem go_asg' (D : Dyn w q y ns ts vs nn σ n) (e : NeIs q y.S) (s : StIs w q y.S) {i : Nat} {N : Int} {T : TR} {st y1 y2 : Addr} {t0 t1 t2 t3 t4 : Tok} {at_ : Int} (hi : i < 12) (hs : (st, tp [.str (Str.ofString "assign") t0, .ref y1, .ref y2]) ∈ y.S) (h1 : (y1, tp [.str (Str.ofString "var") t1, .int 2 t2, .str (nmAt i) t3]) ∈ y.S) (hT : T.Rep y.S y2) (hE : Ev σ T N) (hh : T.ht ≤ 12) :
    SpecT w 42 416 611 [.ref q.c.ru, .ref q.un, .int at_ t4, .ref st] n (fun v n' => (∃ t, v = .int (at_ + 1) t) ∧ PAsg w q y ns ts nn (σ.set i N) n n') :=
  c_exec3 w 41 408 _ q.c.ru q.c.rd q.c.r ns ts q.c.r.st q.so q.sv (Str.ofString "assign") 653 st t0 t4 (.ref q.un) at_ (.ref y1) (.ref y2) n (D.S _ s.env.run) D.rd rfl (D.S _ s.st) s.st1 s.st2 s.kA rfl (D.S _ hs) (HSpecT.of (ex_asg D e s hi hs h1 hT hE hh))
theorem go_asg (D : Dyn w q y ns ts vs nn σ n) (e : NeIs q y.S) (s : StIs w q y.S) {i : Nat} {N : Int} (hi : i < 15) (h3 : i ≠ 3) (h5 : i ≠ 5) (h11 : i ≠ 11) (h14 : i ≠ 14) (hE : Ev σ (aE i) N) (at_ : Int) (t : Tok) :
    SpecT w 42 416 611 [.ref q.c.ru, .ref q.un, .int at_ t, .ref (q.pd.st i)] n (fun v n' => (∃ t, v = .int (at_ + 1) t) ∧ PAsg w q y ns ts nn (σ.set (aT i) N) n n') := by
  refine viaP fun PZ kZ => ?_
  obtain ⟨⟨tt, h1⟩, h2⟩ := s.asg i hi h3 h5 h11 h14
  refine kZ ?_; clear kZ PZ
  exact go_asg' D e s (aT_lt i) (s.pis.asg i hi h3 h5 h11 h14) h1 h2 hE (aE_ht i)
theorem go_lif1 (D : Dyn w q y ns ts vs nn σ n) (e : NeIs q y.S) (s : StIs w q y.S) {N : Int} (hk : σ.k = some 2) (hE : Ev σ (aE 5) N) (at_ : Int) (t : Tok) :
    SpecT w 60 600 611 [.ref q.c.ru, .ref q.un, .int at_ t, .ref (q.pd.st 5)] n (fun v n' => (∃ t, v = .int (at_ + 1) t) ∧ PAsg w q y ns ts nn (σ.set (aT 5) N) n n') := by
  refine viaP fun PZ kZ => ?_
  obtain ⟨u, tt, g1, g2, g3, g4, g5, g6⟩ := s.lif
  refine kZ ?_; clear kZ PZ
  have hs := s.pis.lif
  have C := c_lif1 w 50 500 (fun n1 => Grown n n1) (fun v n' => (∃ t, v = .int (at_ + 1) t) ∧ PAsg w q y ns ts nn (σ.set (aT 5) N) n n') q.c.ru q.un (q.pd.y1 5) (q.pd.st 5) (q.pd.y2 5) _ at_ t n (D.S _ hs)
    (HSpecT.of ((ev_keq (m := 2) (D.now s) hk (D.S _ g1) (D.S _ g2) (D.S _ g3)).t.weak (leN rfl) (leN rfl) (fun _ h => h) fun v n1 h => ⟨h.2, h.1⟩))
    (fun n1 g => g.sub _ (D.S _ hs))
    (fun n1 t' g => HSpecT.of ((go_asg' (D.sub g.sub) e s (aT_lt 5) g4 g5 g6 hE (aE_ht 5)).weak (leN rfl) (leN rfl) (fun _ h => h) fun v n' h => ⟨h.1, by
      refine viaP fun PZ kZ => ?_
      obtain ⟨vs', h4, h5⟩ := h.2
      refine kZ ?_; clear kZ PZ
      exact ⟨vs', h4, fun p hp hn => h5 p (g.sub _ hp) hn⟩⟩))
  exact (c_exec3 w 51 508 _ q.c.ru q.c.rd q.c.r ns ts q.c.r.st q.so q.sv (Str.ofString "lif") 716 (q.pd.st 5) (q.pd.tc 5) t (.ref q.un) at_ (.ref (q.pd.y1 5)) (.ref (q.pd.y2 5)) n (D.S _ s.env.run) D.rd rfl (D.S _ s.st) s.st1 s.st2 s.kL rfl (D.S _ hs) (HSpecT.of C)).weak (leN rfl) (leN rfl) (fun _ h => h) fun _ _ h => h
theorem go_lif0 (D : Dyn w q y ns ts vs nn σ n) (s : StIs w q y.S) {m : Int} (hk : σ.k = some m) (hm : m ≠ 2) (at_ : Int) (t : Tok) :
    SpecT w 60 600 611 [.ref q.c.ru, .ref q.un, .int at_ t, .ref (q.pd.st 5)] n (fun v n' => (∃ t, v = .int (at_ + 1) t) ∧ Grown n n') := by
  refine viaP fun PZ kZ => ?_
  obtain ⟨u, tt, g1, g2, g3, g4, g5, g6⟩ := s.lif
  refine kZ ?_; clear kZ PZ
  have hs := s.pis.lif
  have C := c_lif0 w 50 500 (fun n1 => Grown n n1) q.c.ru q.un (q.pd.y1 5) (q.pd.st 5) (q.pd.y2 5) _ at_ t n (D.S _ hs)
    (HSpecT.of ((ev_keq (m := 2) (D.now s) hk (D.S _ g1) (D.S _ g2) (D.S _ g3)).t.weak (leN rfl) (leN rfl) (fun _ h => h) fun v n1 h => ⟨by rw [h.2, decide_eq_false hm], h.1⟩))
  exact (c_exec3 w 51 508 _ q.c.ru q.c.rd q.c.r ns ts q.c.r.st q.so q.sv (Str.ofString "lif") 716 (q.pd.st 5) (q.pd.tc 5) t (.ref q.un) at_ (.ref (q.pd.y1 5)) (.ref (q.pd.y2 5)) n (D.S _ s.env.run) D.rd rfl (D.S _ s.st) s.st1 s.st2 s.kL rfl (D.S _ hs) (HSpecT.of C)).weak (leN rfl) (leN rfl) (fun _ h => h) fun _ _ h => h
theorem go_end (D : Dyn w q y ns ts vs nn σ n) (s : StIs w q y.S) (at_ : Int) (t : Tok) :
    SpecT w 60 600 611 [.ref q.c.ru, .ref q.un, .int at_ t, .ref (q.pd.st 14)] n (fun v n' => ∃ a t1 t2, v = .ref a ∧ (a, tp [.str (Str.ofString "return") t1, .int 0 t2]) ∈ n' ∧ Grown n n') := by
  exact (c_exec1 w 2 16 _ q.c.ru q.c.rd q.c.r ns ts q.c.r.st q.so q.sv (Str.ofString "end") 765 (q.pd.st 14) (q.pd.tc 14) t (.ref q.un) at_ n (D.S _ s.env.run) D.rd rfl (D.S _ s.st) s.st1 s.st2 s.kE rfl (D.S _ s.pis.fin) (HSpecT.of ((c_doend w _ _ _ at_ t n).t.weak (leN rfl) (leN rfl) (fun _ h => h) fun v n' h => by
    refine viaP fun PZ kZ => ?_
    obtain ⟨g, a, t1, t2, h1, h2⟩ := h
    refine kZ ?_; clear kZ PZ
    exact ⟨a, t1, t2, h1, h2, g⟩))).weak (leN rfl) (leN rfl) (fun _ h => h) fun _ _ h => h
theorem go_do (D : Dyn w q y ns ts vs nn σ n) (e : NeIs q y.S) (s : StIs w q y.S) (f : FlIs w q y) {i : Nat} (hi : i = 3 ∨ i = 11) (hl : LpIs w q i 0 n) (t : Tok) :
    SpecT w 60 600 611 [.ref q.c.ru, .ref q.un, .int (i : Nat) t, .ref (q.pd.st i)] n (fun v n' => (∃ t, v = .int ((i : Nat) + 1) t) ∧ ∃ vs', Dyn w q y ns ts vs' nn (σ.setK 1) n' ∧ LpIs w q (i + 1) 0 n') := by
  have hI4 : 4 ≤ i + 1 ∧ i + 1 ≤ 7 ∨ 12 ≤ i + 1 ∧ i + 1 ≤ 13 := by rcases hi with rfl | rfl <;> decide
  refine viaP fun PZ kZ => ?_
  obtain ⟨q1, q2, ch, m1, m2⟩ := s.env.me
  obtain ⟨fo, fv, f1, f2, f3, -, f4⟩ := s.env.fr
  obtain ⟨pa, t6, t7, z1, z2, p1, p2⟩ := f4
  refine viaP fun PZ kZ => ?_
  obtain ⟨tt, g1, g2, g3, g4⟩ := s.dos i hi
  obtain ⟨lobj, lm, lc, hl⟩ := hl
  have hl0 : Loop0 lobj := by
    rcases hl with ⟨h, _⟩ | ⟨_, h⟩
    · omega
    · exact h
  have hs := s.pis.dos i hi
  obtain ⟨oo, ov, o1, o2, o3, o4, -⟩ := s.env.op
  have hz8 := s.env.la; revert hz8; refine im8 ?_; intro ld k1 k2 k3 k4 k5 k6 k7; rintro ⟨k8, hz8⟩; revert hz8; rintro ⟨l1, l2⟩
  obtain ⟨go, gv, v1, v2, v3, v4⟩ := f.fls
  refine kZ ?_; clear kZ PZ
  have hN : (1 : Int) ≤ (lpN i : Nat) ∧ ((lpN i : Nat) : Int) ≤ 100 := by unfold lpN; split <;> decide
  have C := c_dodo w 50 500 (fun n' => Grown n n') (fun n' => ∃ rest lobj vs', n' = (q.c.r.lo, lobj) :: rest ∧ Loop0 lobj ∧ (∀ p ∈ rest, p.1 ≠ q.c.r.lo) ∧ Dyn w q y ns ts vs' nn (σ.setK 1) rest) (fun v n' => v = .ref pa)
    q.c.ru q.c.rd q.c.r ns ts q.un q.ud q.u q.c.md q.c.ce q1 q2 ch (q.pd.st i) (q.pd.y1 i) (q.pd.y2 i) (q.pd.y3 i) (q.pd.y4 i) (Str.ofString "do") (doOf i) (lpN i : Nat) (i : Nat) (.str (Str.ofString "var") (tt 0)) (.str (Str.ofString "K") (tt 2)) (q.pd.tc i) (q.pd.td i) (tt 1) (tt 5) (tt 8) (tt 11) t n (by omega) Grown.refl
    (fun n' g => ⟨g.sub _ (D.S _ hs), g.sub _ (D.S _ g1), g.sub _ (D.S _ s.env.run), g.sub _ D.rd, g.sub _ (D.S _ m1), g.sub _ (D.S _ m2)⟩)
    (fun n' h => by
      refine viaP fun PZ kZ => ?_
      obtain ⟨rest, lobj, vs', e1, e2, e3, d3⟩ := h
      refine kZ ?_; clear kZ PZ
      exact ⟨rest, lobj, e1, e2, e3, d3.S _ s.env.run, d3.rd, d3.S _ s.un, d3.S _ s.ud⟩)
    (fun n' g => HSpecT.of (((c_flowfor w q.c.ru q.c.rd q.c.r ns ts q.un q.ud q.u go gv y.fw n' (g.sub _ (D.S _ s.env.run)) (g.sub _ D.rd) (g.sub _ (D.S _ s.un)) (g.sub _ (D.S _ s.ud)) (g.sub _ (D.S _ v1)) v2 v3 v4).t).weak (leN rfl) (leN rfl) (fun _ h => h) fun v n2 h => ⟨⟨_, h.2⟩, g.trans h.1⟩))
    (fun n' g => HSpecT.of (((ev_int ((D.sub g.sub).now s) (g.sub _ (D.S _ g2))).t).weak (leN rfl) (leN rfl) (fun _ h => h) fun v n2 h => ⟨h.2, g.trans h.1⟩))
    (fun n' g => HSpecT.of (((ev_int ((D.sub g.sub).now s) (g.sub _ (D.S _ g3))).t).weak (leN rfl) (leN rfl) (fun _ h => h) fun v n2 h => ⟨h.2, g.trans h.1⟩))
    (fun n' g => HSpecT.of (((ev_int ((D.sub g.sub).now s) (g.sub _ (D.S _ g4))).t).weak (leN rfl) (leN rfl) (fun _ h => h) fun v n2 h => ⟨h.2, g.trans h.1⟩))
    (fun n' g => HSpecT.of (((c_trip w q.c.r.op oo ov q.c.r.la ld k1 k2 k3 k4 k5 k6 k7 k8 (lpN i : Nat) (tt 1) (tt 5) (tt 8) (tt 11) n' (g.sub _ (D.S _ o1)) o2 o3 o4 (g.sub _ (D.S _ l1)) (g.sub _ (D.S _ l2)) hN).t).weak (leN rfl) (leN rfl) (fun _ h => h) fun v n2 h => ⟨h.2, g.trans h.1⟩))
    (fun n' g => HSpecT.of (((c_place w q.c.ru q.c.rd q.c.r ns ts fo fv (Str.ofString "K") pa _ (q.pd.y1 i) 0 (tt 0) (tt 1) (tt 2) n' (g.sub _ (D.S _ s.env.run)) (g.sub _ D.rd) (g.sub _ (D.S _ f1)) f2 f3 p1 (g.sub _ (D.S _ p2)) (g.sub _ (D.S _ g1))).t).weak (leN rfl) (leN rfl) (fun _ h => h) fun v n2 h => ⟨h.2, g.trans h.1⟩))
    (fun v n' hv g => HSpecT.of (by
      subst hv
      refine SpecT.pre fun fn => ?_
      refine (((ex_putK (D.sub g.sub) e s (N := 1) (t8 := (tt 5)) (g.sub _ (D.S _ p2))).weak (Nat.le_refl _) (Nat.le_refl _) (fun _ h => h) (fun v n3 h => h)).postN fun v n3 fn3 h => ?_).weak (leN rfl) (leN rfl) (fun _ h => h) fun _ _ h => h
      refine viaP fun PZ kZ => ?_
      obtain ⟨h0, vs', d3, keep⟩ := h
      have lm3 := keep _ (g.sub _ lm) (Ne.symm e.d.2.2)
      refine kZ ⟨(q.c.r.lo, lobj) :: Ex q.c.r.lo n3, fun p hp => ?_, h0, Ex q.c.r.lo n3, lobj, vs', rfl, hl0, (fun p hp => (Ex.mem.mp hp).2), ?_⟩
      · rcases List.mem_cons.mp hp with rfl | hp
        · exact lm3
        · exact (Ex.mem.mp hp).1
      · exact ⟨fun p hp => Ex.mem.mpr ⟨d3.S p hp, (e.ne p hp).2.2⟩, Ex.mem.mpr ⟨d3.rd, e.d.2.1⟩, Ex.mem.mpr ⟨d3.ce, e.d.2.2⟩, d3.mem.tup fun a l h => Ex.mem.mpr ⟨h, tup_ne fn3 h lm3 (by rw [lc]; decide)⟩⟩))
  refine kZ ?_
  clear kZ PZ
  refine (c_exec6 w 51 508 _ q.c.ru q.c.rd q.c.r ns ts q.c.r.st q.so q.sv (Str.ofString "do") 744 (q.pd.st i) (q.pd.tc i) t (.ref q.un) (i : Nat) (.int (doOf i) (q.pd.td i)) (.ref (q.pd.y1 i)) (.ref (q.pd.y2 i)) (.ref (q.pd.y3 i)) (.ref (q.pd.y4 i)) n (D.S _ s.env.run) D.rd rfl (D.S _ s.st) s.st1 s.st2 s.kD rfl (D.S _ hs) (HSpecT.of C)).weak (leN rfl) (leN rfl) (fun _ h => h) fun v n' h => ?_
  refine viaP fun PZ kZ => ?_
  obtain ⟨h0, rest, lobj', lobj2, c, kt, t5', t6', t7', t8', ⟨rest', lobj3, vs', e1, e2, e3, d3⟩, rfl, hL, -⟩ := h
  obtain ⟨e4, rfl⟩ := List.cons.inj e1
  refine kZ ⟨h0, vs', d3.sub (fun p hp => .tail _ (.tail _ (.tail _ hp))), lobj2, .tail _ (.tail _ (.head _)), hL.1.1, .inl ⟨hI4, kt, c, t5', t6', t7', t8', ?_, ?_, ?_⟩⟩
  · rw [show ((lpB (i + 1) : Nat) : Int) = (i : Nat) by rcases hi with rfl | rfl <;> rfl]; exact hL
  · rw [show ((lpB (i + 1) : Nat) : Int) = (i : Nat) by rcases hi with rfl | rfl <;> rfl]; exact .head _
  · rw [show ((lpN (i + 1) : Nat) : Int) - ((0 : Nat) : Int) = (lpN i : Nat) by rcases hi with rfl | rfl <;> rfl]; exact .tail _ (.head _)
end
-- R4
section
variable {w : World} {q : Stc} {z : In} {y : FY} {ns : Int} {ts : Tok} {vs : List Value} {nn : Nat} {σ : St} {n : Led}
theorem go_loop (D : Dyn w q y ns ts vs nn σ n) (e : NeIs q y.S) (s : StIs w q y.S) (f : FlIs w q y) {i t : Nat} (hi : i = 7 ∨ i = 13) (hk : σ.k = some ((t : Int) + 1)) (ht : t < lpN i) (hl : LpIs w q i t n) (te tf : Tok) :
    SpecT w 60 600 751 [.ref q.c.ru, .ref q.un, .ref y.fw, .int (i : Nat) te, .int 0 tf] n (fun v n' => ∃ vs', Dyn w q y ns ts vs' nn (σ.setK ((t : Int) + 1 + 1)) n' ∧
      ((t + 1 < lpN i ∧ (∃ t', v = .int ((lpB i : Nat) + 1) t') ∧ LpIs w q (lpB i + 1) (t + 1) n') ∨ (¬ t + 1 < lpN i ∧ (∃ t', v = .int ((i : Nat) + 1) t') ∧ LpIs w q (i + 1) 0 n'))) := by
  refine SpecT.pre fun fn => ?_
  refine viaP fun PZ kZ => ?_
  obtain ⟨lobj, lm, lc, hl⟩ := hl
  rcases hl with ⟨-, kt, c, u1, u2, u3, u4, hL, hkt, hc⟩ | ⟨h, _⟩
  case inr => lia
  refine viaP fun PZ kZ => ?_
  obtain ⟨q1, q2, ch, m1, m2⟩ := s.env.me
  obtain ⟨fo, fv, f1, f2, f3, -, f4⟩ := s.env.fr
  obtain ⟨pa, t6, t7, z1, z2, p1, p2⟩ := f4
  have hb : lpB i = 3 ∨ lpB i = 11 := by unfold lpB; split <;> decide
  refine viaP fun PZ kZ => ?_
  obtain ⟨vv, g1, g2, g3, g4⟩ := s.dos (lpB i) hb
  have hs := s.pis.dos (lpB i) hb
  obtain ⟨r1, r2⟩ := s.pis.row (lpB i) (by lia)
  obtain ⟨oo, ov, o1, o2, o3, o4, -⟩ := s.env.op
  obtain ⟨li, ln, tl, w1, w2⟩ := f.e7 i hi
  obtain ⟨ck, t8, t9, x1, x2⟩ := D.mem.k _ hk
  refine kZ ?_; clear kZ PZ
  refine kZ ?_; clear kZ PZ
  have hN : lpN i ≤ 3 := by unfold lpN; split <;> decide
  have inX : ∀ p ∈ n, p.1 ≠ q.c.ce → p.1 ≠ q.c.r.lo → p ∈ Ex q.c.r.lo (Ex q.c.ce n) := fun p hp a b => Ex.mem.mpr ⟨Ex.mem.mpr ⟨hp, a⟩, b⟩
  have sX : ∀ p ∈ y.S, p ∈ Ex q.c.r.lo (Ex q.c.ce n) := fun p hp => inX p (D.S p hp) (e.ne p hp).2.1 (e.ne p hp).2.2
  have tX : ∀ a l, (a, tp l) ∈ n → (a, tp l) ∈ Ex q.c.r.lo (Ex q.c.ce n) := fun a l h => inX _ h (tup_ne fn h D.ce (by show Value.type "list" ≠ _; decide)) (tup_ne fn h lm (by rw [lc]; decide))
  have rX := inX _ D.rd e.d.1 e.d.2.1
  have dX : (fun p hp => (Ex.mem.mp (Ex.mem.mp hp).1).2 : ∀ p ∈ Ex q.c.r.lo (Ex q.c.ce n), p.1 ≠ q.c.ce) = (fun p hp => (Ex.mem.mp (Ex.mem.mp hp).1).2) := rfl
  have ofX : ∀ p ∈ (q.c.ce, listOf vs.toArray nn) :: (q.c.r.lo, lobj) :: Ex q.c.r.lo (Ex q.c.ce n), p ∈ n := fun p hp => by
    rcases List.mem_cons.mp hp with rfl | hp
    · exact D.ce
    · rcases List.mem_cons.mp hp with rfl | hp
      · exact lm
      · exact (Ex.mem.mp (Ex.mem.mp hp).1).1
  have hst : q.pd.sts[((lpB i : Nat) : Int).toNat]? = some (.ref (q.pd.sr (lpB i))) := by rw [Int.toNat_natCast]; exact r1
  have dyn : ∀ {n' : Led} {c1 : Addr} {ta tb : Tok}, (∀ p ∈ Ex q.c.r.lo (Ex q.c.ce n), p ∈ n') → (q.c.ce, listOf (vs.set (24 : Int).toNat (.ref c1)).toArray nn) ∈ n' → (c1, tp [.int 0 ta, .int ((t : Int) + 1 + 1) tb]) ∈ n' → Dyn w q y ns ts (vs.set (24 : Int).toNat (.ref c1)) nn (σ.setK ((t : Int) + 1 + 1)) n' := fun g hce hc1 =>
    ⟨fun p hp => g _ (sX p hp), g _ rX, hce, (D.mem.tup fun a l h => g _ (tX a l h)).putK hc1⟩
  by_cases hm : t + 1 < lpN i
  · refine kZ ?_
    clear kZ PZ
    refine (c_step1 w q.c.ru q.c.rd q.c.r ns ts q.un q.ud q.u fo fv oo ov q.c.md q1 q2 ch y.fw y.fd y.fl y.en y.ev li ln q.c.ce vs nn lobj q.pd.sts q.pd.sn (lpB i : Nat) (i : Nat) ((lpN i : Int) - t) ((t : Int) + 1) (doOf (lpB i)) (q.pd.sr (lpB i)) (q.pd.st (lpB i)) (q.pd.y1 (lpB i)) (q.pd.y2 (lpB i)) (q.pd.y3 (lpB i)) (q.pd.y4 (lpB i)) kt c ck pa (Str.ofString "do") _ _ z1 z2 tl (q.pd.tc (lpB i)) (q.pd.td (lpB i)) (vv 0) (vv 1) (vv 2) u1 u2 u3 u4 t8 t9 t6 t7 te tf (Ex q.c.r.lo (Ex q.c.ce n))
      (sX _ s.env.run) rX (sX _ s.un) (sX _ s.ud) (sX _ f1) f2 f3 (sX _ o1) o2 o3 o4 (s.env.la.sub sX) (sX _ m1) (sX _ m2) (sX _ f.fw) (sX _ f.fd) (sX _ f.en) f.en2 w1 (sX _ w2) (s.usl ▸ sX _ s.pis.sl) hst (sX _ r2) (sX _ hs) (sX _ g1) s.lo hL (tX _ _ hkt) (tX _ _ hc) (fun p hp => (Ex.mem.mp (Ex.mem.mp hp).1).2) (fun p hp => (Ex.mem.mp hp).2) (Ne.symm e.d.2.2) D.mem.len x1 (tX _ _ x2) p1 (sX _ p2) (by lia) (by lia) (by lia) (by lia) (by lia)).weak (leN rfl) (leN rfl) ofX fun v n' h => ?_
    refine viaP fun PZ kZ => ?_
    obtain ⟨h0, c1, c2, lobj2, t10, t11, t12, k1, k2, k3, k4, k5, k6⟩ := h
    refine kZ ?_; clear kZ PZ
    refine ⟨_, dyn k1 k2 k3, .inl ⟨hm, h0, lobj2, k4, k6.1.1, .inl ⟨by lia, kt, c2, u1, u2, t12, u4, ?_, ?_, ?_⟩⟩⟩
    · rw [show lpB (lpB i + 1) = lpB i by rcases hi with rfl | rfl <;> rfl]; exact k6
    · rw [show lpB (lpB i + 1) = lpB i by rcases hi with rfl | rfl <;> rfl]; exact k1 _ (tX _ _ hkt)
    · rw [show ((lpN (lpB i + 1) : Nat) : Int) - ((t + 1 : Nat) : Int) = (lpN i : Int) - t - 1 by rw [show lpN (lpB i + 1) = lpN i by rcases hi with rfl | rfl <;> rfl]; lia]; exact k5
  · rw [show (lpN i : Int) - t = 1 by lia] at hc
    refine kZ ?_
    clear kZ PZ
    refine (c_step0 w q.c.ru q.c.rd q.c.r ns ts q.un q.ud q.u fo fv oo ov q.c.md q1 q2 ch y.fw y.fd y.fl y.en y.ev li ln q.c.ce vs nn lobj q.pd.sts q.pd.sn (lpB i : Nat) (i : Nat) ((t : Int) + 1) (doOf (lpB i)) (q.pd.sr (lpB i)) (q.pd.st (lpB i)) (q.pd.y1 (lpB i)) (q.pd.y2 (lpB i)) (q.pd.y3 (lpB i)) (q.pd.y4 (lpB i)) kt c ck pa (Str.ofString "do") _ _ z1 z2 tl (q.pd.tc (lpB i)) (q.pd.td (lpB i)) (vv 0) (vv 1) (vv 2) u1 u2 u3 u4 t8 t9 t6 t7 te tf (Ex q.c.r.lo (Ex q.c.ce n))
      (sX _ s.env.run) rX (sX _ s.un) (sX _ s.ud) (sX _ f1) f2 f3 (sX _ o1) o2 o3 o4 (s.env.la.sub sX) (sX _ m1) (sX _ m2) (sX _ f.fw) (sX _ f.fd) (sX _ f.en) f.en2 w1 (sX _ w2) (s.usl ▸ sX _ s.pis.sl) hst (sX _ r2) (sX _ hs) (sX _ g1) s.lo hL (tX _ _ hkt) (tX _ _ hc) (fun p hp => (Ex.mem.mp (Ex.mem.mp hp).1).2) (fun p hp => (Ex.mem.mp hp).2) (Ne.symm e.d.2.2) D.mem.len x1 (tX _ _ x2) p1 (sX _ p2) (by lia) (by lia) (by lia) (by lia)).weak (leN rfl) (leN rfl) ofX fun v n' h => ?_
    refine viaP fun PZ kZ => ?_
    obtain ⟨h0, c1, lobj2, t10, t11, k1, k2, k3, k4, k5⟩ := h
    refine kZ ?_; clear kZ PZ
    exact ⟨_, dyn k1 k2 k3, .inr ⟨hm, h0, lobj2, k4, k5.1.1, .inr ⟨by lia, k5⟩⟩⟩
def Six (w : World) (q : Stc) (y : FY) (n : Led) : Prop := (q.un, instObj 818 q.ud) ∈ n ∧ (q.ud, unitD w.params q.u) ∈ n ∧ (q.u.sl, listOf q.pd.sts.toArray q.pd.sn) ∈ n ∧ (y.fw, instObj 546 y.fd) ∈ n ∧ (y.fd, flowD w.params y.fl) ∈ n ∧ (y.fl.d_ending, y.en) ∈ n
theorem ISt.six {P : Nat → Nat → St → Prop} {lid : Int} {k : Nat} {at_ : Int} (h : ISt w q P lid y k at_ n) : Six w q y n ∧ 0 ≤ at_ ∧ at_ < 15 := by
  refine viaP fun PZ kZ => ?_
  obtain ⟨e, s, f, i, t, ns, ts, vs, nn, σ, rfl, hi, hk, h0, hn, D, hP, hl⟩ := h
  refine kZ ?_; clear kZ PZ
  exact ⟨⟨D.S _ s.un, D.S _ s.ud, s.usl ▸ D.S _ s.pis.sl, D.S _ f.fw, D.S _ f.fd, D.S _ f.en⟩, by lia, by lia⟩
theorem go_count {k : Nat} {at_ : Int} (h : ISt w q (Ph z) 1000 y k at_ n) : HSpecT w 60 600 625 [.ref q.c.ru] n (fun v n' => v = .none ∧ ISt w q (Ph z) 1001 y k at_ n') := by
  refine viaP fun PZ kZ => ?_
  obtain ⟨e, s, f, i, t, ns, ts, vs, nn, σ, rfl, hi, hk, h0, hn, D, hP, hl⟩ := h
  refine kZ ?_; clear kZ PZ
  refine HSpecT.of (SpecT.pre fun fn => ?_)
  refine (ex_step D e s (by lia)).weak (leN rfl) (leN rfl) (fun _ h => h) fun v n' h => ⟨h.1, ?_⟩
  refine viaP fun PZ kZ => ?_
  obtain ⟨ts', D', keep⟩ := h.2
  refine kZ ?_; clear kZ PZ
  exact ⟨e, s, f, i, t, _, _, _, _, _, rfl, hi, hk, by lia, by lia, D', hP, hl.keep fn D.rd (by show Value.type "dict" ≠ _; decide) (Ne.symm e.d.2.1) keep⟩
theorem go_turn {k : Nat} {at_ : Int} (h : ISt w q (Qh z) 1001 y k at_ n) (t t2 : Tok) : HSpecT w 60 600 751 [.ref q.c.ru, .ref q.un, .ref y.fw, .int at_ t, .int 0 t2] n (fun v n' => SOut (ISt w q (Ph z) 1000 y) k v n') := by
  refine @dq _ (by
  refine viaP fun PZ kZ => ?_
  obtain ⟨e, s, f, i, j, ns, ts, vs, nn, σ, rfl, hi, hk, h0, hn, D, hP, hl⟩ := h
  obtain ⟨h1, h2, h3⟩ := qh_facts hP
  refine kZ ?_; clear kZ PZ
  refine HSpecT.of ((go_loop D e s f h1 h3 h2 hl t t2).weak (leN rfl) (leN rfl) (fun _ h => h) fun v n' h => ?_)
  refine viaP fun PZ kZ => ?_
  obtain ⟨vs', D', h⟩ := h
  refine kZ ?_; clear kZ PZ
  have hN : lpN i = if i = 7 then 3 else 2 := by rcases h1 with rfl | rfl <;> rfl
  have hB : lpB i = if i = 7 then 3 else 11 := by rcases h1 with rfl | rfl <;> rfl
  rcases h with ⟨hm, hv, hl'⟩ | ⟨hm, hv, hl'⟩
  · have hr : rem i j = rem (lpB i + 1) (j + 1) + 1 := by
      rcases h1 with rfl | rfl
      · have : lpN 7 = 3 := rfl
        show rem 7 j = rem 4 (j + 1) + 1
        exact (by decide : ∀ j : Fin 2, rem 7 j.1 = rem 4 (j.1 + 1) + 1) ⟨j, by lia⟩
      · have : lpN 13 = 2 := rfl
        show rem 13 j = rem 12 (j + 1) + 1
        exact (by decide : ∀ j : Fin 1, rem 13 j.1 = rem 12 (j.1 + 1) + 1) ⟨j, by lia⟩
    refine ⟨((lpB i + 1 : Nat) : Int), rem (lpB i + 1) (j + 1), hk.trans hr, hv, e, s, f, lpB i + 1, j + 1, ns, ts, vs', nn, _, rfl, ?_, rfl, h0, by lia, D', qh_more hP hm, hl'⟩
    rw [hB]; split <;> decide
  · have hr : rem i j = rem (i + 1) 0 + 1 := by
      rcases h1 with rfl | rfl
      · have : lpN 7 = 3 := rfl
        have : j = 2 := by lia
        subst this; rfl
      · have : lpN 13 = 2 := rfl
        have : j = 1 := by lia
        subst this; rfl
    exact ⟨((i + 1 : Nat) : Int), rem (i + 1) 0, hk.trans hr, hv, e, s, f, i + 1, 0, ns, ts, vs', nn, _, rfl, by lia, rfl, h0, by lia, D', qh_done hP hm, hl'⟩) fun q hf => ?_
  simpa only using fq hf (@Eq _ 5 5)
theorem kinds (i : Nat) : (i ≠ 3 ∧ i ≠ 5 ∧ i ≠ 7 ∧ i ≠ 11 ∧ i ≠ 13 ∧ i ≠ 14) ∨ i = 5 ∨ (i = 3 ∨ i = 11) ∨ (i = 7 ∨ i = 13) ∨ i = 14 := by
  by_cases h3 : i = 3
  · exact .inr (.inr (.inl (.inl h3)))
  by_cases h5 : i = 5
  · exact .inr (.inl h5)
  by_cases h7 : i = 7
  · exact .inr (.inr (.inr (.inl (.inl h7))))
  by_cases h11 : i = 11
  · exact .inr (.inr (.inl (.inr h11)))
  by_cases h13 : i = 13
  · exact .inr (.inr (.inr (.inl (.inr h13))))
  by_cases h14 : i = 14
  · exact .inr (.inr (.inr (.inr h14)))
  exact .inl ⟨h3, h5, h7, h11, h13, h14⟩
def SOutS (w : World) (q : Stc) (z : In) (y : FY) (k : Nat) (at_ : Int) (v : Value) (n : Led) : Prop :=
      (Six w q y n ∧ (∃ t, v = .int (at_ + 1) t) ∧ (valueAt y.ev at_).isSome = false ∧ ∃ k2, k = k2 + 1 ∧ ISt w q (Ph z) 1000 y k2 (at_ + 1) n) ∨
      (Six w q y n ∧ (∃ t, v = .int (at_ + 1) t) ∧ (valueAt y.ev at_).isSome = true ∧ ISt w q (Qh z) 1001 y k at_ n) ∨
      (∃ a t1 t2, v = .ref a ∧ (a, tp [.str (Str.ofString "return") t1, .int 0 t2]) ∈ n ∧ IFin w q z n)
theorem go_stmt (o : z.Ok) {k : Nat} {at_ : Int} (h : ISt w q (Ph z) 1001 y k at_ n) :
    Six w q y n ∧ 0 ≤ at_ ∧ at_ < 15 ∧ ∃ s1 st x x2, q.pd.sts[at_.toNat]? = some (.ref s1) ∧ (s1, tp [x, .ref st, x2]) ∈ n ∧ ∀ t, HSpecT w 60 600 611 [.ref q.c.ru, .ref q.un, .int at_ t, .ref st] n (SOutS w q z y k at_) := by
  refine viaP fun PZ kZ => ?_
  obtain ⟨hsix, ha0, ha1⟩ := h.six
  refine kZ ?_; clear kZ PZ
  refine ⟨hsix, ha0, ha1, ?_⟩
  refine viaP fun PZ kZ => ?_
  obtain ⟨e, s, f, i, j, ns, ts, vs, nn, σ, rfl, hi, hk, h0, hn, D, hP, hl⟩ := h
  obtain ⟨r1, r2⟩ := s.pis.row i hi
  refine kZ ?_; clear kZ PZ
  refine ⟨_, q.pd.st i, _, _, by rw [Int.toNat_natCast]; exact r1, D.S _ r2, fun t => HSpecT.of (SpecT.pre fun fn => ?_)⟩
  -- a step on to the next statement
  have next : ∀ {v : Value} {n' : Led} {vs' : List Value} {σ' : St}, i ≠ 7 → i ≠ 13 → i < 14 → rem i j = rem (i + 1) j + 1 → (∃ t, v = .int ((i : Nat) + 1) t) → Dyn w q y ns ts vs' nn σ' n' → Ph z (i + 1) j σ' → LpIs w q (i + 1) j n' →
      (Six w q y n' ∧ (∃ t, v = .int ((i : Nat) + 1) t) ∧ (valueAt y.ev ((i : Nat) : Int)).isSome = false ∧ ∃ k2, k = k2 + 1 ∧ ISt w q (Ph z) 1000 y k2 ((i : Nat) + 1) n') := by
    intro v n' vs' σ' h7 h13 h14 hr hv D' hP' hl'
    have I : ISt w q (Ph z) 1000 y (rem (i + 1) j) (((i + 1 : Nat) : Int)) n' := ⟨e, s, f, i + 1, j, ns, ts, vs', nn, σ', rfl, by lia, rfl, h0, by lia, D', hP', hl'⟩
    exact ⟨I.six.1, hv, by rw [f.eN i h7 h13]; rfl, _, hk.trans hr, I⟩
  have keepL : ∀ {n' : Led}, (∀ p ∈ n, p.1 ≠ q.c.ce → p ∈ n') → LpIs w q i j n' := fun g => hl.keep fn D.ce (by show Value.type "list" ≠ _; decide) (Ne.symm e.d.2.2) g
  have hkd : (i ≠ 3 ∧ i ≠ 5 ∧ i ≠ 7 ∧ i ≠ 11 ∧ i ≠ 13 ∧ i ≠ 14) ∨ i = 5 ∨ (i = 3 ∨ i = 11) ∨ (i = 7 ∨ i = 13) ∨ i = 14 := kinds i
  rcases hkd with ⟨h3, h5, h7, h11, h13, h14⟩ | rfl | h | h | rfl
  · obtain ⟨N, hE, hP'⟩ := ph_step o hP h3 h5 h7 h11 h13 h14
    have hr : rem i j = rem (i + 1) j + 1 := rem_next (by lia) h7 h13 (fun h => by rcases h with rfl | rfl | rfl <;> first | exact hP.2.1 | lia) (fun h => by subst h; exact hP.2.1) (fun h => by lia)
    refine (go_asg D e s hi h3 h5 h11 h14 hE _ t).weak (leN rfl) (leN rfl) (fun _ h => h) fun v n' h => .inl ?_
    refine viaP fun PZ kZ => ?_
    obtain ⟨hv, vs', D', keep⟩ := h
    refine kZ ?_; clear kZ PZ
    exact next h7 h13 (by lia) hr hv D' hP' ((keepL keep).next h3 h7 h11 h13)
  · obtain ⟨kk, ht, c0, c1⟩ := ph_lif o hP
    have hr : rem 5 j = rem 6 j + 1 := rem_next (i := 5) (by lia) (by lia) (by lia) (fun _ => ht) (fun h => by lia) (fun h => by lia)
    by_cases hj : j = 1
    · obtain ⟨N, hE, hP'⟩ := c1 hj
      refine (go_lif1 D e s (by rw [kk, hj]; rfl) hE _ t).weak (leN rfl) (leN rfl) (fun _ h => h) fun v n' h => .inl ?_
      refine viaP fun PZ kZ => ?_
      obtain ⟨hv, vs', D', keep⟩ := h
      refine kZ ?_; clear kZ PZ
      exact next (by lia) (by lia) (by lia) hr hv D' hP' ((keepL keep).next (by lia) (by lia) (by lia) (by lia))
    · refine (go_lif0 D s kk (by lia) _ t).weak (leN rfl) (leN rfl) (fun _ h => h) fun v n' h => .inl ?_
      obtain ⟨hv, g⟩ := h
      exact next (by lia) (by lia) (by lia) hr hv (D.sub g.sub) (c0 hj) ((hl.sub g.sub).next (by lia) (by lia) (by lia) (by lia))
  · obtain ⟨hj, hP'⟩ := ph_do hP h
    subst hj
    have hr : rem i 0 = rem (i + 1) 0 + 1 := by rcases h with rfl | rfl <;> rfl
    refine (go_do D e s f h hl t).weak (leN rfl) (leN rfl) (fun _ h => h) fun v n' h9 => .inl ?_
    refine viaP fun PZ kZ => ?_
    obtain ⟨hv, vs', D', hl'⟩ := h9
    refine kZ ?_; clear kZ PZ
    exact next (by lia) (by lia) (by lia) hr hv D' hP' hl'
  · obtain ⟨N, hE, hQ⟩ := ph_end o hP h
    refine (go_asg D e s hi (by lia) (by lia) (by lia) (by lia) hE _ t).weak (leN rfl) (leN rfl) (fun _ h => h) fun v n' h9 => .inr (.inl ?_)
    refine viaP fun PZ kZ => ?_
    obtain ⟨hv, vs', D', keep⟩ := h9
    have I : ISt w q (Qh z) 1001 y k ((i : Nat) : Int) n' := ⟨e, s, f, i, j, ns, ts, vs', nn, _, rfl, hi, hk, h0, hn, D', hQ, keepL keep⟩
    obtain ⟨li, ln, tl, w1, w2⟩ := f.e7 i h
    refine kZ ?_; clear kZ PZ
    exact ⟨I.six.1, hv, by rw [w1]; rfl, I⟩
  · refine (go_end D s _ t).weak (leN rfl) (leN rfl) (fun _ h => h) fun v n' h => .inr (.inr ?_)
    refine viaP fun PZ kZ => ?_
    obtain ⟨a, t1, t2, hv, hm, g⟩ := h
    refine kZ ?_; clear kZ PZ
    have hj : j = 0 := hP.2.1
    subst hj
    exact ⟨a, t1, t2, hv, hm, y, ns, ts, vs, nn, σ, e, s, D.sub g.sub, hP⟩
/-- the unit, run -/
theorem run_all_unit (o : z.Ok) {led : Led} {t : Tok} (hl : q.pd.sts.length = 15) (h : HSpecT w 60 600 604 [.ref q.c.ru, .ref q.un] led (fun v n => ∃ y : FY, v = .ref y.fw ∧ (y.fl.d_ending == sysModules) = false ∧ y.en.IsDictOf (intKind WP w) y.ev ∧ ISt w q (Ph z) 1000 y 25 0 n)) :
    SpecT w 61 608 632 [.ref q.c.ru, .ref q.un, .int 0 t] led (fun v n => (∃ t, v = .int 0 t) ∧ IFin w q z n) :=
  c_rununit w 60 600 (ISt w q (Ph z) 1000) (ISt w q (Ph z) 1001) (ISt w q (Qh z) 1001) (IFin w q z) q.c.ru q.un q.ud q.u q.pd.sts q.pd.sn 25 t led hl h
    (fun y k at_ n h => ⟨h.six.1, h.six.2.1, h.six.2.2, go_count h⟩) (fun y k at_ n h => go_stmt o h) (fun y k at_ n h t t2 => go_turn h t t2)
end
-- F06
theorem c_flowfor1 : ∀ (w : World) (D U : Nat) (R : Addr → Led → Prop) (ru rd : Addr) (r : RV) (ns : Int) (ts : Tok) (un ud : Addr) (u : UV) (fo : Obj) (led : Led), (ru, instObj 450 rd) ∈ led → (rd, runD w.params r ns ts) ∈ led → (un, instObj 818 ud) ∈ led → (ud, unitD w.params u) ∈ led → (r.fl, fo) ∈ led → (r.fl == sysModules) = false → fo.IsDictOf (strKind WP w) [] → HSpecT w D U 585 [.ref u.sl] led (fun v n => ∃ fw rest, v = .ref fw ∧ n = (r.fl, fo) :: rest ∧ (∀ p ∈ rest, p.1 ≠ r.fl) ∧ (ru, instObj 450 rd) ∈ rest ∧ (rd, runD w.params r ns ts) ∈ rest ∧ (un, instObj 818 ud) ∈ rest ∧ (ud, unitD w.params u) ∈ rest ∧ R fw rest) →
    SpecT w (D + 1) (U + 8) 604 [.ref ru, .ref un] led (fun v n => ∃ fw fo2 rest, v = .ref fw ∧ n = (r.fl, fo2) :: rest ∧ fo2.IsDictOf (strKind WP w) (stored [] u.nm (.ref fw)) ∧ R fw rest) := by
  unfold SpecT
  k_fill
  k_extra "h0"
  k_extra "b1.12"
  k_extra "b2.2"
  intro b1 b2 b3 b4 b5 b6 b7 b8
  k_extra "hd"
  intro B F X N T hk hd hu hret
  with_reducible k_extra "bar"
  have hv0 : valueAt ([] : List (Str × Value)) y1_12.nm = none := rfl
  refine wpAny_call ?_
  k_extra "en"
  k_with "val" => exact valueAt_stored_same _ _ _
  k_with "isnone" => rfl
  k_with "size" => (rw [sizeLine_eq]; exact Nat.zero_le _)
  k_with "specT" => exact HSpecT.use b8
  k_with "openT" => rintro ⟨fw, rest, rfl, rfl, hne, f1, f2, f3, f4, hR⟩
  k_steps
  all_goals first
    | exact hret _ _ _ _ ‹_› ‹_› ⟨_, _, _, rfl, rfl, by assumption, by assumption⟩
    | (exfalso; omega)
-- F05
theorem c_flowof : ∀ (w : World) (pd : PD) (led : Led), PIs pd led → SpecT w 6 60 585 [.ref pd.sl] (led) (fun v n => ∃ fw fd d1 d2 d3 d4 d5 x0 x1 x2 x3 x4 en l1 l2 n1 n2 t1 t2, v = .ref fw ∧ (fw, instObj 546 fd) ∈ n ∧ (fd, dictOf [enS w.params "labels" x0 (.ref d1), enS w.params "next_arm" x1 (.ref d2), enS w.params "block_end" x2 (.ref d3), enS w.params "do_end" x3 (.ref d4), enS w.params "ending" x4 (.ref d5)] 5) ∈ n ∧ (d5, en) ∈ n ∧ (d5 == sysModules) = false ∧ en.IsDictOf (intKind WP w) [(7, .ref l1), (13, .ref l2)] ∧ (l1, listOf ([.int 3 t1] : List Value).toArray n1) ∈ n ∧ (l2, listOf ([.int 11 t2] : List Value).toArray n2) ∈ n ∧ (∀ p ∈ led, p ∈ n)) := by
  refine @dq _ (by
  unfold SpecT
  k_fill
  k_extra "h0"
  k_extra "b1.3"
  intro b1
  k_extra "hd"
  intro B F X N T hk hd hu hret
  with_reducible k_extra "bar"
  have q1 := b1.sl
  have q2 := b1.len
  refine wpAny_call ?_
  k_extra "en"
  k_with "m:omega" => first | (with_reducible assumption) | (with_reducible (refine neN ?_; k_extra "n")) | decide | omega (config := {})
  k_with "len" => assumption
  k_with "item" => assumption
  k_with "rangeJ" => (
    (repeat (rename _ ∧ _ => hx; obtain ⟨hx1, hx2⟩ := hx))
    (rename IsRange _ _ _ _ _ _ _ _ => rgX)
    (rename Fr _ _ _ _ => lF')
    (rename News _ _ _ _ => lN')
    (have hS := fp_start (w := y1_1) (led := y1_3) lN' (by first | assumption | k_mem) (by first | assumption | k_mem) (by first | assumption | k_mem) (List.mem_cons_of_mem _ (by k_mem)) (by first | assumption | k_mem) (by first | assumption | k_mem) (by first | assumption | k_mem) ‹_› ‹_› ‹_› (fun p hp => by k_mem) ‹_› ‹_› ‹_› ‹_› ‹_› ‹_› (by refine ⟨⟨?_, ?_, ?_, ?_⟩, ⟨?_, ?_, ?_, ?_⟩, ⟨?_, ?_, ?_, ?_⟩, ⟨?_, ?_, ?_, ?_, ?_, ?_⟩⟩ <;> omega))
    obtain ⟨hD, hP0⟩ := hS
    (with_unfolding_all (refine' iter_rangeUnr (n := 15) rfl rgX ?q477 ?q478 lF' lN' (fun I lI => rangeRest_J [Str.ofString "label", Str.ofString "stmt"] (FP y1_1 _ y1_3) ?turn ?done 15 0 _ _ rfl hP0 (fun _ _ _ => rfl)); (case q477 => first | decide | rfl); (case q478 => first | decide | rfl)))
    all_goals (have hlI : ∀ p ∈ y1_3, p.1 ≠ I := fun p hp => Nat.ne_of_lt (lI p (by k_mem)))
    all_goals (clear lI lF' rgX lN')
    (case' turn => (intro i k n1 t u h tk hi hk hJ F' N'; have g1 : y1_2.sts[k.toNat]? = some (.ref (y1_2.sr i)) := (by rw [show k.toNat = i by omega]; exact (b1.row i hi).1); have hl := hJ.led; have g2 := hl.1 _ (b1.row i hi).2; have q1' := hl.1 _ q1; have hkin := fl_kinds i hi; obtain hA | hB | hC | hO | hE := hkin))
    all_goals (first
      | ((rename KA _ => hA); have hA' := hA.out; rw [labOf_0 hA'.2.2.1 hA'.2.2.2.2.1] at g2; have g3 := hl.1 _ (b1.asg i hi hA'.1 hA'.2.1 hA'.2.2.2.1 hA'.2.2.2.2.2))
      | ((rename KB _ => hB); have hB' := hB.out; have gS := b1.asg i hi (by omega) (by omega) (by omega) (by omega); have g3 := hl.1 _ gS)
      | ((rename KC _ => hC); have hC' := hC.out; subst hC'; rw [labOf_0 (by decide) (by decide)] at g2; have g3 := hl.1 _ b1.lif)
      | ((rename KE _ => hE); have hE' := hE.out; subst hE'; rw [labOf_0 (by decide) (by decide)] at g2; have g3 := hl.1 _ b1.fin)
      | ((rename KD _ => hO); have hO' := hO.out; rw [labOf_0 (by omega) (by omega)] at g2; have g3 := b1.dos i hO'; obtain ⟨nn, m1, m2⟩ := fl_do hD hJ hO'; have hIlp := (fn_news N').ne List.mem_cons_self (List.mem_cons_of_mem _ m1) (fun e => by have := congrArg Obj.cls e; revert this; show Value.type "range_iterator" ≠ Value.type "list"; decide); have e1 := (Ex.mem (d := (_ : Addr))).mpr ⟨g2, (hD.led _ (b1.row i hi).2).2.2.2⟩; have e2 := (Ex.mem (d := (_ : Addr))).mpr ⟨hl.1 _ g3, (hD.led _ g3).2.2.2⟩; have e3 := (Ex.mem (d := (_ : Addr))).mpr ⟨hl.2, hD.bl.2.2.2⟩; have e4 := (Ex.mem (d := (_ : Addr))).mpr ⟨q1', (hD.led _ q1).2.2.2⟩; have N2 := news_front N' m1; have e5 := ex_ne m1; clear N' g2 q1'; dsimp only at e1 e2 e3 e4 e5 N2 hIlp m2)
      | (intro n1 u h tk hJ F' N'; obtain ⟨lv, dv, l1, nn1, tt1, l2, nn2, tt2, S, z1, z2⟩ := hJ.fin; obtain ⟨s1, s2, s3, s4, s5, s6, ⟨o5, s7, s8⟩, ⟨nn, s9⟩⟩ := S))
    all_goals (try have hk0 : (0 : Int) ≤ k := by omega)
    all_goals (try have hk1 : k < 2 ^ 63 := by omega)
    all_goals (try have hk2 : k = (i : Int) := by omega)
    all_goals (try have hk2 : k = (5 : Int) := by omega)
    all_goals (try have hk2 : k = (14 : Int) := by omega)
    all_goals (try dsimp only at *)
    all_goals (try k_fold))
  k_with "specT" => ((show SpecT _ _ _ 557 _ _ _); exact c_nl0 _ _ _ _ _)
  k_with "specT" => ((show SpecT _ _ _ 557 _ _ _); (refine' fl_lab hD ?q479 hB' ?q480 List.mem_cons_self rfl (fun p hp => List.mem_cons_of_mem _ hp); (case q479 => assumption); (case q480 => omega)))
  k_with "specT" => ((show SpecT _ _ _ 578 _ _ _); exact fl_ends0 hJ (fun p hp => by k_mem))
  k_with "specT" => ((show SpecT _ _ _ 578 _ _ _); exact fl_ends hD (FP1.sub ‹_› (fun p hp => by k_mem)) (by omega) (by first | exact hI | exact List.mem_cons_of_mem _ hI) rfl)
  k_with "specT" => ((show SpecT _ _ _ 571 _ _ _); (refine' c_arm _ _ _ _ ?q481; (case q481 => first | assumption | k_mem)))
  k_with "openT" => first | rintro ⟨rfl, rfl⟩ | rintro ⟨⟨_, rfl⟩, rfl⟩ | (rintro ⟨rfl, hP, hI⟩; (rename FP1 _ _ _ _ _ => q9); have g9 := FP1.led q9 _ gS) | rintro ⟨rfl, hP, hI⟩
  k_with "endJ" => first | exact unrEnd_J (by k_asm) (by k_asm) (by k_mem) ⟨FP.drop (FP.next (FP.sub hJ (fun p hp => by k_mem)) (by omega) (by omega) (by omega) (by omega)) (fn_news (by k_asm)) (by k_mem) rfl hlI, (by intro z h2 h3; (simp only [List.contains_cons, List.contains_nil, Bool.or_false, Bool.or_eq_false_iff, beq_eq_false_iff_ne, ne_eq] at h3); simp [h2, h3])⟩ | exact unrEnd_J (by k_asm) (by k_asm) ‹_› ⟨FP.drop ‹_› (fn_news (by k_asm)) ‹_› rfl hlI, (by intro z h2 h3; (simp only [List.contains_cons, List.contains_nil, Bool.or_false, Bool.or_eq_false_iff, beq_eq_false_iff_ne, ne_eq] at h3); simp [h2, h3])⟩ | exact unrEnd_J (by k_asm) (by k_asm) (by k_mem) ⟨FP.drop (fl_do2 m2 (by omega)) (fn_news (by k_asm)) (by k_mem) rfl hlI, (by intro z h2 h3; (simp only [List.contains_cons, List.contains_nil, Bool.or_false, Bool.or_eq_false_iff, beq_eq_false_iff_ne, ne_eq] at h3); simp [h2, h3])⟩
  k_steps
  all_goals first
    | exact hret _ _ _ _ ‹_› ‹_› (fl_post hD hJ)
    | (exfalso; omega)) fun q hf => ?_
  simpa only using fq hf (@Eq _ 5 5)
-- R5
theorem pairs_len {prog : Program} {w : World} {K : Type} [DecidableEq K] {knd : PySem.KeyKind prog w K} : ∀ {es : List DictEntry} {kvs : List (K × Value)}, Pairs knd es kvs → es.length = kvs.length := by
  intro es kvs h
  induction h with
  | nil => rfl
  | cons _ _ _ ih => exact congrArg (· + 1) ih
/-- how many entries a dict's table holds -/
noncomputable def esLen (o : Obj) : Nat := match o.data with
  | .dict es _ => es.size
  | .seq l _ => l.size
  | _ => 0
theorem isd_len {prog : Program} {w : World} {K : Type} [DecidableEq K] {knd : PySem.KeyKind prog w K} {o : Obj} {kvs : List (K × Value)} (h : o.IsDictOf knd kvs) : esLen o = kvs.length := by
  obtain ⟨es, ep, _, e, _, hp, _⟩ := h
  unfold esLen
  rw [e]
  show es.size = _
  rw [← Array.length_toList]
  exact pairs_len hp
theorem loop0_len {o : Obj} (h : Loop0 o) : esLen o = 0 := by
  obtain ⟨_, es, ep, e, h⟩ := h
  unfold esLen
  rw [e]
  show es.size = _
  rw [← Array.length_toList, h]; rfl
theorem ne_len {a b : Obj} (h : esLen a ≠ esLen b) : a ≠ b := fun e => h (e ▸ rfl)
structure Ini (w : World) (q : Stc) (z : In) (S0 led : Led) : Prop where
  st : StIs w q S0
  sub : ∀ p ∈ S0, p ∈ led
  ne : NeIs q S0
  nefl : ∀ p ∈ S0, p.1 ≠ q.c.r.fl
  dfl : @Ne Nat q.c.r.fl q.c.rd ∧ @Ne Nat q.c.r.fl q.c.ce ∧ @Ne Nat q.c.r.fl q.c.r.lo
  dyn : ∃ ts vs nn σ, (q.c.rd, runD w.params q.c.r 0 ts) ∈ led ∧ (q.c.ce, listOf vs.toArray nn) ∈ led ∧ MemIs vs σ led ∧ Ph z 0 0 σ
  lo : ∃ lobj, (q.c.r.lo, lobj) ∈ led ∧ lobj.cls = .type "dict" ∧ Loop0 lobj
  fl : ∃ fo, (q.c.r.fl, fo) ∈ led ∧ (q.c.r.fl == sysModules) = false ∧ fo.IsDictOf (strKind WP w) []
theorem go_start : ∀ (w : World) (q : Stc) (z : In) (S0 led : Led), (Ini w q z S0 led) → HSpecT w 60 600 604 [.ref q.c.ru, .ref q.un] led (fun v n => ∃ y : FY, v = .ref y.fw ∧ (y.fl.d_ending == sysModules) = false ∧ y.en.IsDictOf (intKind WP w) y.ev ∧ ISt w q (Ph z) 1000 y 25 0 n) := by
  refine @dq _ (by
  k_extra "h0"
  k_extra "b1.4"
  k_extra "b2.1"
  intro I
  refine viaP fun PZ kZ => ?_
  obtain ⟨s, sub, ne, nefl, dfl, ⟨ts, vs, nn, σ, hrd, hce, hmem, hph⟩, ⟨lobj, hlo, hlc, hl0⟩, fo, hfl, hfs, hfo⟩ := I
  have C0 : HSpecT y1_1 50 500 585 [.ref y1_2.u.sl] y2_1 (fun v n => ∃ fw rest, v = .ref fw ∧ n = (y1_2.c.r.fl, fo) :: rest ∧ (∀ p ∈ rest, p.1 ≠ y1_2.c.r.fl) ∧ (y1_2.c.ru, instObj 450 y1_2.c.rd) ∈ rest ∧ (y1_2.c.rd, runD y1_1.params y1_2.c.r 0 ts) ∈ rest ∧ (y1_2.un, instObj 818 y1_2.ud) ∈ rest ∧ (y1_2.ud, unitD y1_1.params y1_2.u) ∈ rest ∧
      ((∀ p ∈ y2_1, p.1 ≠ y1_2.c.r.fl → p ∈ rest) ∧ ∃ fd fl en l1 l2 n1 n2 t1 t2, (fw, instObj 546 fd) ∈ rest ∧ (fd, flowD y1_1.params fl) ∈ rest ∧ (fl.d_ending, en) ∈ rest ∧ (fl.d_ending == sysModules) = false ∧ en.IsDictOf (intKind WP y1_1) [(7, .ref l1), (13, .ref l2)] ∧ (l1, listOf ([.int 3 t1] : List Value).toArray n1) ∈ rest ∧ (l2, listOf ([.int 11 t2] : List Value).toArray n2) ∈ rest)) := by
    rw [s.usl]
    refine HSpecT.of (((c_flowof y1_1 y1_2.pd y2_1 (s.pis.sub sub)).postN fun v n fn h => ?_).weak (leN rfl) (leN rfl) (fun _ h => h) fun _ _ h => h)
    refine viaP fun PZ kZ => ?_
    revert h; refine im12 ?_; intro fw fd d1 d2 d3 d4 d5 x0 x1 x2 x3 x4; refine im6 ?_; intro en l1 l2 n1 n2 t1; rintro ⟨t2, hz8⟩; revert hz8; rintro ⟨rfl, g1, g2, g3, g4, g5, g6, g7, g8⟩
    have hf := g8 _ hfl
    have off : ∀ {p : Addr × Obj}, p ∈ n → p.2 ≠ fo → p ∈ Ex y1_2.c.r.fl n := fun hp hn => Ex.mem.mpr ⟨hp, fn.ne hp hf hn⟩
    have keep : ∀ p ∈ y2_1, p.1 ≠ y1_2.c.r.fl → p ∈ Ex y1_2.c.r.fl n := fun p hp hn => Ex.mem.mpr ⟨g8 p hp, hn⟩
    have l0 : esLen fo = 0 := isd_len hfo
    refine kZ ⟨(y1_2.c.r.fl, fo) :: Ex y1_2.c.r.fl n, fun p hp => ?_, fw, Ex y1_2.c.r.fl n, rfl, rfl, fun p hp => (Ex.mem.mp hp).2, keep _ (sub _ s.env.run) (nefl _ s.env.run), keep _ hrd (Ne.symm dfl.1), keep _ (sub _ s.un) (nefl _ s.un), keep _ (sub _ s.ud) (nefl _ s.ud), keep, fd, ⟨d1, d2, d3, d4, d5, fun i => match i with | 0 => x0 | 1 => x1 | 2 => x2 | 3 => x3 | _ => x4⟩, en, l1, l2, n1, n2, t1, t2, ?_, off g2 ?_, off g3 ?_, g4, g5, off g6 ?_, off g7 ?_⟩
    · rcases List.mem_cons.mp hp with rfl | hp
      · exact hf
      · exact (Ex.mem.mp hp).1
    · refine off g1 fun e => ?_
      have := congrArg Obj.cls e
      rw [dcls hfo] at this
      exact absurd this (by show Value.ref 546 ≠ Value.type "dict"; exact fun h => nomatch h)
    · exact ne_len (by rw [l0]; show (5 : Nat) ≠ 0; decide)
    · exact ne_len (by rw [l0, isd_len g5]; show (2 : Nat) ≠ 0; decide)
    · exact ne_len (by rw [l0]; show (1 : Nat) ≠ 0; decide)
    · exact ne_len (by rw [l0]; show (1 : Nat) ≠ 0; decide)
  refine kZ ?_
  clear kZ PZ
  refine HSpecT.of (SpecT.pre fun fnl => ?_)
  refine ((c_flowfor1 y1_1 50 500 _ y1_2.c.ru y1_2.c.rd y1_2.c.r 0 ts y1_2.un y1_2.ud y1_2.u fo y2_1 (sub _ s.env.run) hrd (sub _ s.un) (sub _ s.ud) hfl hfs hfo C0).postN fun v n fn h => ?_).weak (leN rfl) (leN rfl) (fun _ h => h) fun _ _ h => h
  refine viaP fun PZ kZ => ?_
  obtain ⟨fw, fo2, rest, rfl, rfl, hf2, keep, fd, fl, en, l1, l2, n1, n2, t1, t2, g1, g2, g3, g4, g5, g6, g7⟩ := h
  have krd := keep _ hrd (Ne.symm dfl.1)
  have kce := keep _ hce (Ne.symm dfl.2.1)
  have klo := keep _ hlo (Ne.symm dfl.2.2)
  have up : ∀ {p : Addr × Obj}, p ∈ rest → p ∈ (y1_2.c.r.fl, fo2) :: rest := fun h => .tail _ h
  have ex3 : ∀ {p : Addr × Obj}, p ∈ (y1_2.c.r.fl, fo2) :: rest → p.1 ≠ y1_2.c.rd → p.1 ≠ y1_2.c.ce → p.1 ≠ y1_2.c.r.lo → p ∈ Ex y1_2.c.rd (Ex y1_2.c.ce (Ex y1_2.c.r.lo ((y1_2.c.r.fl, fo2) :: rest))) := fun hp a b c => Ex.mem.mpr ⟨Ex.mem.mpr ⟨Ex.mem.mpr ⟨hp, c⟩, b⟩, a⟩
  have of3 : ∀ {p : Addr × Obj}, p ∈ Ex y1_2.c.rd (Ex y1_2.c.ce (Ex y1_2.c.r.lo ((y1_2.c.r.fl, fo2) :: rest))) → p ∈ (y1_2.c.r.fl, fo2) :: rest ∧ p.1 ≠ y1_2.c.rd ∧ p.1 ≠ y1_2.c.ce ∧ p.1 ≠ y1_2.c.r.lo := fun hp => by
    have a := Ex.mem.mp hp
    have b := Ex.mem.mp a.1
    have c := Ex.mem.mp b.1
    exact ⟨c.1, a.2, b.2, c.2⟩
  have byo : ∀ {p : Addr × Obj}, p ∈ rest → p.2 ≠ runD y1_1.params y1_2.c.r 0 ts → p.2 ≠ listOf vs.toArray nn → p.2 ≠ lobj → p ∈ Ex y1_2.c.rd (Ex y1_2.c.ce (Ex y1_2.c.r.lo ((y1_2.c.r.fl, fo2) :: rest))) := fun hp a b c => ex3 (up hp) (fn.ne (up hp) (up krd) a) (fn.ne (up hp) (up kce) b) (fn.ne (up hp) (up klo) c)
  have s0 : ∀ p ∈ y1_4, p ∈ Ex y1_2.c.rd (Ex y1_2.c.ce (Ex y1_2.c.r.lo ((y1_2.c.r.fl, fo2) :: rest))) := fun p hp => ex3 (up (keep p (sub p hp) (nefl p hp))) (ne.ne p hp).1 (ne.ne p hp).2.1 (ne.ne p hp).2.2
  have ll : esLen lobj = 0 := loop0_len hl0
  have hv : vs.length = 25 := hmem.len
  refine kZ ⟨_, fun _ h => h, ⟨Ex y1_2.c.rd (Ex y1_2.c.ce (Ex y1_2.c.r.lo ((y1_2.c.r.fl, fo2) :: rest))), fw, fd, fl, en, [(7, .ref l1), (13, .ref l2)]⟩, rfl, g4, g5, ⟨fun p hp => (of3 hp).2, ne.d⟩, ?_, ?_, 0, 0, 0, ts, vs, nn, σ, rfl, by decide, rfl, by decide, by decide, ⟨fun p hp => (of3 hp).1, up krd, up kce, ?_⟩, hph, lobj, up klo, hlc, .inr ⟨by decide, hl0⟩⟩
  · exact ⟨s.env.sub s0, s0 _ s.un, s0 _ s.ud, s.usl, s.pis.sub s0, s0 _ s.st, s.st1, s.st2, s.kA, s.kL, s.kD, s.kE, s.lo, fun i a b c d e => ⟨(s.asg i a b c d e).1.sub s0, (s.asg i a b c d e).2.sub s0⟩, s.lif.sub s0, fun i hi => (s.dos i hi).sub s0, s0 _ s.xe⟩
  · refine ⟨⟨fo2, _, ex3 (.head _) dfl.1 dfl.2.1 dfl.2.2, hfs, hf2, valueAt_stored_same _ _ _⟩, byo g1 ?_ ?_ ?_, byo g2 ?_ ?_ ?_, byo g3 ?_ ?_ ?_, g5, fun i hi => ?_, fun i h7 h13 => ?_⟩
    · exact fun e => absurd (congrArg Obj.cls e) (by show Value.ref 546 ≠ Value.type "dict"; exact fun h => nomatch h)
    · exact fun e => absurd (congrArg Obj.cls e) (by show Value.ref 546 ≠ Value.type "list"; exact fun h => nomatch h)
    · exact fun e => absurd (congrArg Obj.cls e) (by rw [hlc]; show Value.ref 546 ≠ Value.type "dict"; exact fun h => nomatch h)
    · exact ne_len (by show (5 : Nat) ≠ 16; decide)
    · exact fun e => absurd (congrArg Obj.cls e) (by show Value.type "dict" ≠ Value.type "list"; decide)
    · exact ne_len (by rw [ll]; show (5 : Nat) ≠ 0; decide)
    · exact ne_len (by rw [isd_len g5]; show (2 : Nat) ≠ 16; decide)
    · exact fun e => absurd (congrArg Obj.cls e) (by rw [dcls g5]; show Value.type "dict" ≠ Value.type "list"; decide)
    · exact ne_len (by rw [isd_len g5, ll]; show (2 : Nat) ≠ 0; decide)
    · have lsz : esLen (listOf vs.toArray nn) = 25 := by show vs.toArray.size = 25; rw [List.size_toArray]; exact hv
      rcases hi with rfl | rfl
      · refine ⟨l1, n1, t1, rfl, byo g6 ?_ ?_ ?_⟩
        · exact fun e => absurd (congrArg Obj.cls e) (by show Value.type "list" ≠ Value.type "dict"; decide)
        · exact ne_len (by rw [lsz]; show (1 : Nat) ≠ 25; decide)
        · exact fun e => absurd (congrArg Obj.cls e) (by rw [hlc]; show Value.type "list" ≠ Value.type "dict"; decide)
      · refine ⟨l2, n2, t2, rfl, byo g7 ?_ ?_ ?_⟩
        · exact fun e => absurd (congrArg Obj.cls e) (by show Value.type "list" ≠ Value.type "dict"; decide)
        · exact ne_len (by rw [lsz]; show (1 : Nat) ≠ 25; decide)
        · exact fun e => absurd (congrArg Obj.cls e) (by rw [hlc]; show Value.type "list" ≠ Value.type "dict"; decide)
    · show valueAt [((7 : Int), Value.ref l1), (13, Value.ref l2)] (i : Int) = none
      rw [valueAt_cons, if_neg (by show (7 : Int) ≠ i; lia), valueAt_cons, if_neg (by show (13 : Int) ≠ i; lia)]
      rfl
  · refine hmem.tup fun a l h => up (keep _ h fun e => ?_)
    exact tup_ne fnl h hfl (by rw [dcls hfo]; decide) e) fun q hf => ?_
  simpa only using fq hf (@Eq _ 5 5)
/-- the unit, run from its beginning -/
theorem run_it {w : World} {q : Stc} {z : In} {S0 led : Led} {t : Tok} (o : z.Ok) (I : Ini w q z S0 led) : SpecT w 61 608 632 [.ref q.c.ru, .ref q.un, .int 0 t] led (fun v n => (∃ t, v = .int 0 t) ∧ IFin w q z n) :=
  run_all_unit o I.st.pis.len ((go_start _ _ _ _ _) I)
theorem words14 : True := by
  k_with_none
  k_with "cl1" => (rename BAR _ => bq9; refine letI kk := _; haveI bq8 := @barS kk bq9; letI x1 := _; goW1 (k := kk) (n := by k_extra "ne") x1 rfl ?_; try clear bq9)
  k_with "cl2" => (rename BAR _ => bq9; refine letI kk := _; haveI bq8 := @barS kk bq9; letI Wq := mkW2 (k := kk) (n := by k_extra "ne"); letI x1 := _; letI x2 := _; goW2 Wq rfl x1 x2 rfl rfl ?_; try clear bq9)
  k_with "cl3" => (rename BAR _ => bq9; refine letI kk := _; haveI bq8 := @barS kk bq9; letI Wq := mkW3 (k := kk) (n := by k_extra "ne"); letI x1 := _; letI x2 := _; letI x3 := _; goW3 Wq rfl x1 x2 x3 rfl rfl rfl ?_; try clear bq9)
  k_with "cl4" => (rename BAR _ => bq9; refine letI kk := _; haveI bq8 := @barS kk bq9; letI Wq := mkW4 (k := kk) (n := by k_extra "ne"); letI x1 := _; letI x2 := _; letI x3 := _; letI x4 := _; goW4 Wq rfl x1 x2 x3 x4 rfl rfl rfl rfl ?_; try clear bq9)
  k_with "cl6" => (rename BAR _ => bq9; refine letI kk := _; haveI bq8 := @barS kk bq9; letI Wq := mkW6 (k := kk) (n := by k_extra "ne"); letI x1 := _; letI x2 := _; letI x3 := _; letI x4 := _; letI x5 := _; letI x6 := _; goW6 Wq rfl x1 x2 x3 x4 x5 x6 rfl rfl rfl rfl rfl rfl ?_; try clear bq9)
  k_with "cl8" => (rename BAR _ => bq9; refine letI kk := _; haveI bq8 := @barS kk bq9; letI Wq := mkW8 (k := kk) (n := by k_extra "ne"); letI x1 := _; letI x2 := _; letI x3 := _; letI x4 := _; letI x5 := _; letI x6 := _; letI x7 := _; letI x8 := _; goW8 Wq rfl x1 x2 x3 x4 x5 x6 x7 x8 rfl rfl rfl rfl rfl rfl rfl rfl ?_; try clear bq9)
  k_with "cl12" => (rename BAR _ => bq9; refine letI kk := _; haveI bq8 := @barS kk bq9; letI Wq := mkW12 (k := kk) (n := by k_extra "ne"); letI x1 := _; letI x2 := _; letI x3 := _; letI x4 := _; letI x5 := _; letI x6 := _; letI x7 := _; letI x8 := _; letI x9 := _; letI x10 := _; letI x11 := _; letI x12 := _; goW12 Wq rfl x1 x2 x3 x4 x5 x6 x7 x8 x9 x10 x11 x12 rfl rfl rfl rfl rfl rfl rfl rfl rfl rfl rfl rfl ?_; try clear bq9)
  k_with "bar" => (rename BAR _ => bq9; refine haveI bq8 : BAR _ := barS bq9; ?_; try clear bq9)
  k_with "bc" => skip
  k_with "rv" => ((fail_if_success (rename _ => xq; refine useBar xq ?_)); w_why)
  k_with "nc1" => with_reducible ((first | (fail_if_success (intro zb)) | refine Box.o ?_); (repeat ((fail_if_success (rename (_ : Prop) => xq; refine useBar xq ?_)); w_why)))
  k_with "nc2" => with_reducible (first | (k_extra "rv"; first | (k_extra "rv"; first | (k_extra "rv"; first | (k_extra "rv"; first | (k_extra "rv"; first | (k_extra "rv"; first | (k_extra "rv"; first | (k_extra "rv"; first | (k_extra "rv"; first | (k_extra "rv"; first | (k_extra "rv"; first | (k_extra "rv"; (k_extra "nc2"; k_extra "cl12")) | (k_extra "cl8"; k_extra "cl3")) | (k_extra "cl8"; k_extra "cl2")) | (k_extra "cl8"; k_extra "cl1")) | (k_extra "cl8")) | (k_extra "cl6"; k_extra "cl1")) | (k_extra "cl6")) | (k_extra "cl4"; k_extra "cl1")) | (k_extra "cl4")) | (k_extra "cl3")) | (k_extra "cl2")) | (k_extra "cl1")) | (skip))
  k_with "nc3" => with_reducible ((repeat (set_option tactic.hygienic false in intro)); (try k_extra "unf"); (try (refine Box.mk ?_)); k_extra "bar")
  k_with "cls" => with_reducible (try ((rename BAR _ => zq); (fail_if_success (rename PySem.W.KPfMark => zz)); k_whole; (fail_if_success (rename _ => xq; refine useBar xq ?_)); k_extra "nc1"; k_extra "nc2"; k_extra "nc3"))
  k_with "re" => (first | exact Nat.le_of_ble_eq_true rfl | exact Nat.le_of_eq (Nat.add_comm _ _) | omega)
  k_with "rm" => (first | (refine' rm0 ?q482; (case q482 => k_extra "as")) | (refine' rm1 ?q483 ?q484; (case q483 => k_extra "as"); (case q484 => k_extra "re")) | (refine' rm2 ?q485 ?q486; (case q485 => k_extra "as"); (case q486 => k_extra "re")) | (refine' rm3 ?q487 ?q488; (case q487 => k_extra "as"); (case q488 => k_extra "re")) | exact Nat.le_of_ble_eq_true rfl)
  k_with "m:ktr_room" => k_extra "rm"
  k_with "m:ktr_units" => k_extra "rm"
  k_with "m:k_ne" => (refine neN ?_; (try dsimp only); first | (with_reducible k_extra "n") | k_extra "n" | omega)
  k_with "ne" => (repeat' first | (with_reducible refine neP ?_ ?_) | infer_instance | exact neW | exact nePar | exact neA | exact neS | exact neH | exact neRV | exact neUV | exact neFV | exact nePD | exact neFRec | exact neFY | exact neStc | exact neRowD | exact neIn | exact neSt)
  k_with "fold" => ((fail_if_success (with_reducible rename PySem.W.KPfMark => zz)); k_whole; k_extra "cls"; with_reducible (refine letI qk := _; letI ek := _; (?_ : wpAny _ _ _ qk ek _)); with_reducible k_extra "bar")
  k_with "as" => (with_reducible assumption)
  k_with "od" => ((fail_if_success (fail_if_success (decide +kernel))); kernel_rfl)
  k_with "n" => first | (refine' Nat.ne_of_gt ?q489; (case q489 => assumption)) | (refine' Nat.ne_of_lt ?q490; (case q490 => assumption)) | (refine' gt1 ?q491; (case q491 => assumption)) | (refine' gt2 ?q492; (case q492 => assumption)) | (refine' lt2' ?q493; (case q493 => assumption)) | (refine' gt3 ?q494; (case q494 => assumption)) | (refine' lt3' ?q495; (case q495 => assumption)) | (refine' gt4 ?q496; (case q496 => assumption)) | (refine' lt4' ?q497; (case q497 => assumption)) | (refine' gt5 ?q498; (case q498 => assumption)) | (refine' lt5' ?q499; (case q499 => assumption)) | (refine' gt6 ?q500; (case q500 => assumption)) | (refine' lt6' ?q501; (case q501 => assumption)) | (refine' gt7 ?q502; (case q502 => assumption)) | (refine' lt7' ?q503; (case q503 => assumption)) | (refine' gt8 ?q504; (case q504 => assumption)) | (refine' lt8' ?q505; (case q505 => assumption)) | (refine' Nat.ne_of_lt (And.left ?q506); (case q506 => assumption))
  k_with "m:omega" => first | (k_whole; first | (with_reducible assumption) | ((fail_if_success (fail_if_success (decide +kernel))); (fail_if_success (fail_if_success (omega (config := {})))); (decide +kernel)) | ((refine' oF ?q507 ?_; (case q507 => k_extra "as")); k_extra "od") | ((refine' oE ?q508 ?_; (case q508 => k_extra "as")); k_extra "od") | ((refine' oG ?q509 ?_; (case q509 => k_extra "as")); k_extra "od") | ((refine' oH ?q510 ?_; (case q510 => k_extra "as")); k_extra "od") | ((refine' oI ?q511 ?_; (case q511 => k_extra "as")); k_extra "od") | ((refine' oJ ?q512 ?_; (case q512 => k_extra "as")); k_extra "od") | (with_reducible (refine neN ?_; k_extra "n"))) | k_extra "oc" | ((try (with_reducible rename (_ < PySem.recursionLimit) => zd; clear zd)); (try (with_reducible rename (_ < PySem.cLine) => zd; clear zd)); omega (config := {})) | omega (config := {})
  k_with "m:decide" => ((fail_if_success (fail_if_success (decide (config := {})))); first | (refine of_decide_eq_true ?_; exact Eq.refl true) | decide (config := {}))
  k_with "rl" => (rotate_left; (first | (rename (_ : Prop) => xz; (fail_if_success (refine useBar xz ?_)); exact xz) | assumption); intro h; clear h)
  k_with "en" => k_dflt (refine' code_def ?z1k1 ?z1k2 ?z1k3 ?z1k4 ?z1k5 ?z1kA ?z1kF ?z1kK ?z1k6 ?z1k7 ?z1k8 ?z1k9 ?z1kB ?_ ?z1c2 ?z1c3 ?z1c4 ?z1c5; (case z1kA => exact rfl); (case z1kF => exact rfl); (case z1kK => assumption); (case z1k1 => k_asm); (case z1k2 => k_asm); (case z1k3 => k_asm); (case z1k4 => k_asm); (case z1k5 => k_asm); (case z1k6 => k_is); (case z1k7 => k_is); (case z1k8 => ktr_room); (case z1k9 => exact BindsTo.of_eq rfl); (case z1c5 => decide); (case z1kB => exact locs rfl); (case z1c2 => exact rfl); (case z1c3 => exact rfl); (case z1c4 => exact rfl); k_whole; intro g' L' h' FG' F' N' B' X' T'; (try k_fold))
  k_with "!callWith" => (k_here; (first | (with_reducible refine' callWith_method1 ?_ ?z2he ?z2hp) | (with_reducible refine' callWith_builtin1 ?_ ?z2he ?z2hp)); (case z2he => k_dflt (exact rfl)); (case z2hp => k_dflt (exact rfl)))
  k_with "!newList" => (k_here; k_dflt (refine' newList_K ?z3k1 ?z3k2 ?_ ?z3z; (case z3k1 => k_asm); (case z3k2 => k_asm); (case z3z => exact Nat.le_of_ble_eq_true rfl); k_whole); intro l' h' F' N' l1; (try k_lt l1); (try k_sweep))
  k_with "!subscriptTail Name Constant ref int" => k_extra "!subscriptTail Name"
  k_with "!subscriptTail Name Name ref int" => k_extra "!subscriptTail Name"
  k_with "m:k_in" => first | with_reducible assumption | (refine' Frag.In.keeps ?q513 (Fr.keep ?q514); (case q513 => with_reducible assumption); (case q514 => with_reducible assumption)) | (refine' Frag.In.keeps ?q515 (Fr.keep ?q516); (case q515 => k_asm); (case q516 => k_asm))
  k_with "unf" => ((fail_if_success (fail_if_success k_unfold)); first | with_reducible (refine (?_ : wpAny _ _ _ _ _ _)) | k_unfold)
  k_with "!spliced" => first | (k_dflt (refine args_cons ?_)) | (k_dflt (refine args_nil ?_); (try simp only [List.cons_append, List.nil_append]))
  k_with "ite" => (k_closed; k_dflt (first | (refine' ite_pos ?z4i ?_; (case z4i => decide)) | (refine' ite_neg ?z4j ?_; (case z4j => decide))))
  k_with "!eval Name" => (k_here; k_dflt (refine' nameX_K ?z5F ?z5X ?z5T ?z5e ?_ ?z5a ?z5b; (case z5F => k_asm); (case z5X => k_asm); (case z5T => k_asm); (case z5a => rfl); (case z5b => rfl); (case z5e => k_is); k_whole))
  k_with "!eval Call" => (k_here; (with_reducible show wpAny _ _ (eval (Expr.Call (Expr.Name _ _) (_ :: _) _ _) _) _ _ _); k_dflt (refine' callA ?z6hk ?z6X ?z6T ?z6i ?z6F ?z6e ?z6f ?z6d ?z6kp ?z6q ?_; (case z6i => rfl); (case z6f => rfl); (case z6hk => rfl); (case z6F => k_asm); (case z6q => rfl); (case z6d => rfl); (case z6X => k_asm); (case z6T => k_asm); (case z6e => k_is); (case z6kp => k_is); k_whole))
  k_with "!execs cons" => (k_here; (with_reducible refine wpAny_execs_cons ?_); try dsimp only)
  k_with "!execs nil" => (k_here; with_reducible refine wpAny_execs_nil ?_)
  k_with "!spliced" => (k_here; (with_reducible show wpAny _ _ (spliced (backTo _ (starEach (_ :: _) _))) _ _ _); k_dflt (refine' argsB ?z7hk ?z7i ?z7F ?z7q ?_; (case z7i => rfl); (case z7hk => rfl); (case z7F => k_asm); (case z7q => rfl); k_whole; (try dsimp only [List.cons_append, List.nil_append])))
  k_with "!eval Subscript" => (k_here; (with_reducible show wpAny _ _ (eval (Expr.Subscript (Expr.Name _ _) (Expr.Constant (Const.int _) _ _) _) _) _ _ _); k_dflt (refine' subNI ?z8hk ?z8F ?z8e ?z8x ?z8d ?_; (case z8hk => rfl); (case z8F => k_asm); (case z8x => rfl); (case z8d => rfl); (case z8e => rfl); k_whole))
  k_with "!eval Name" => (k_here; k_dflt (refine' nameA ?z9hk ?z9F ?z9e ?z9x ?z9d ?_; (case z9x => rfl); (case z9hk => rfl); (case z9F => k_asm); (case z9d => rfl); (case z9e => rfl); k_whole))
  k_with "rva" => ((repeat revert ‹_›); refine haveI b8 : BAR 0 := bar0; ?_)
  k_with "m:k_fold" => ((with_reducible rename BAR _ => zq); k_extra "fold")
  k_with "m:k_steps" => repeat' (first | (k_extra "unf"; (try dsimp only)) | (k_end; wrow_close) | (walk1; all_goals k_extra "cls") | (dsimp only; walk1; all_goals k_extra "cls") | (leave1; (try dsimp only); all_goals k_extra "cls") | fail "no step")
  k_with "b1.2" => (with_reducible (rename BAR _ => bq9; refine letI kk := _; haveI bq8 := @barS kk bq9; letI Wq := mkW2 (k := kk) (n := by k_extra "ne"); letI y1_1 := _; letI y1_2 := _; goW2 Wq rfl y1_1 y1_2 rfl rfl ?_; try clear bq9))
  k_with "b1.3" => (with_reducible (rename BAR _ => bq9; refine letI kk := _; haveI bq8 := @barS kk bq9; letI Wq := mkW3 (k := kk) (n := by k_extra "ne"); letI y1_1 := _; letI y1_2 := _; letI y1_3 := _; goW3 Wq rfl y1_1 y1_2 y1_3 rfl rfl rfl ?_; try clear bq9))
  k_with "b1.4" => (with_reducible (rename BAR _ => bq9; refine letI kk := _; haveI bq8 := @barS kk bq9; letI Wq := mkW4 (k := kk) (n := by k_extra "ne"); letI y1_1 := _; letI y1_2 := _; letI y1_3 := _; letI y1_4 := _; goW4 Wq rfl y1_1 y1_2 y1_3 y1_4 rfl rfl rfl rfl ?_; try clear bq9))
  k_with "b1.6" => (with_reducible (rename BAR _ => bq9; refine letI kk := _; haveI bq8 := @barS kk bq9; letI Wq := mkW6 (k := kk) (n := by k_extra "ne"); letI y1_1 := _; letI y1_2 := _; letI y1_3 := _; letI y1_4 := _; letI y1_5 := _; letI y1_6 := _; goW6 Wq rfl y1_1 y1_2 y1_3 y1_4 y1_5 y1_6 rfl rfl rfl rfl rfl rfl ?_; try clear bq9))
  k_with "b1.8" => (with_reducible (rename BAR _ => bq9; refine letI kk := _; haveI bq8 := @barS kk bq9; letI Wq := mkW8 (k := kk) (n := by k_extra "ne"); letI y1_1 := _; letI y1_2 := _; letI y1_3 := _; letI y1_4 := _; letI y1_5 := _; letI y1_6 := _; letI y1_7 := _; letI y1_8 := _; goW8 Wq rfl y1_1 y1_2 y1_3 y1_4 y1_5 y1_6 y1_7 y1_8 rfl rfl rfl rfl rfl rfl rfl rfl ?_; try clear bq9))
  k_with "b1.12" => (with_reducible (rename BAR _ => bq9; refine letI kk := _; haveI bq8 := @barS kk bq9; letI Wq := mkW12 (k := kk) (n := by k_extra "ne"); letI y1_1 := _; letI y1_2 := _; letI y1_3 := _; letI y1_4 := _; letI y1_5 := _; letI y1_6 := _; letI y1_7 := _; letI y1_8 := _; letI y1_9 := _; letI y1_10 := _; letI y1_11 := _; letI y1_12 := _; goW12 Wq rfl y1_1 y1_2 y1_3 y1_4 y1_5 y1_6 y1_7 y1_8 y1_9 y1_10 y1_11 y1_12 rfl rfl rfl rfl rfl rfl rfl rfl rfl rfl rfl rfl ?_; try clear bq9))
  k_with "b2.1" => (with_reducible (rename BAR _ => bq9; refine letI kk := _; haveI bq8 := @barS kk bq9; letI y2_1 := _; goW1 (k := kk) (n := by k_extra "ne") y2_1 rfl ?_; try clear bq9))
  k_with "b2.2" => (with_reducible (rename BAR _ => bq9; refine letI kk := _; haveI bq8 := @barS kk bq9; letI Wq := mkW2 (k := kk) (n := by k_extra "ne"); letI y2_1 := _; letI y2_2 := _; goW2 Wq rfl y2_1 y2_2 rfl rfl ?_; try clear bq9))
  k_with "b2.3" => (with_reducible (rename BAR _ => bq9; refine letI kk := _; haveI bq8 := @barS kk bq9; letI Wq := mkW3 (k := kk) (n := by k_extra "ne"); letI y2_1 := _; letI y2_2 := _; letI y2_3 := _; goW3 Wq rfl y2_1 y2_2 y2_3 rfl rfl rfl ?_; try clear bq9))
  k_with "b2.4" => (with_reducible (rename BAR _ => bq9; refine letI kk := _; haveI bq8 := @barS kk bq9; letI Wq := mkW4 (k := kk) (n := by k_extra "ne"); letI y2_1 := _; letI y2_2 := _; letI y2_3 := _; letI y2_4 := _; goW4 Wq rfl y2_1 y2_2 y2_3 y2_4 rfl rfl rfl rfl ?_; try clear bq9))
  k_with "b2.6" => (with_reducible (rename BAR _ => bq9; refine letI kk := _; haveI bq8 := @barS kk bq9; letI Wq := mkW6 (k := kk) (n := by k_extra "ne"); letI y2_1 := _; letI y2_2 := _; letI y2_3 := _; letI y2_4 := _; letI y2_5 := _; letI y2_6 := _; goW6 Wq rfl y2_1 y2_2 y2_3 y2_4 y2_5 y2_6 rfl rfl rfl rfl rfl rfl ?_; try clear bq9))
  k_with "b2.8" => (with_reducible (rename BAR _ => bq9; refine letI kk := _; haveI bq8 := @barS kk bq9; letI Wq := mkW8 (k := kk) (n := by k_extra "ne"); letI y2_1 := _; letI y2_2 := _; letI y2_3 := _; letI y2_4 := _; letI y2_5 := _; letI y2_6 := _; letI y2_7 := _; letI y2_8 := _; goW8 Wq rfl y2_1 y2_2 y2_3 y2_4 y2_5 y2_6 y2_7 y2_8 rfl rfl rfl rfl rfl rfl rfl rfl ?_; try clear bq9))
  k_with "b2.12" => (with_reducible (rename BAR _ => bq9; refine letI kk := _; haveI bq8 := @barS kk bq9; letI Wq := mkW12 (k := kk) (n := by k_extra "ne"); letI y2_1 := _; letI y2_2 := _; letI y2_3 := _; letI y2_4 := _; letI y2_5 := _; letI y2_6 := _; letI y2_7 := _; letI y2_8 := _; letI y2_9 := _; letI y2_10 := _; letI y2_11 := _; letI y2_12 := _; goW12 Wq rfl y2_1 y2_2 y2_3 y2_4 y2_5 y2_6 y2_7 y2_8 y2_9 y2_10 y2_11 y2_12 rfl rfl rfl rfl rfl rfl rfl rfl rfl rfl rfl rfl ?_; try clear bq9))
  k_with "b3.1" => (with_reducible (rename BAR _ => bq9; refine letI kk := _; haveI bq8 := @barS kk bq9; letI y3_1 := _; goW1 (k := kk) (n := by k_extra "ne") y3_1 rfl ?_; try clear bq9))
  k_with "b3.2" => (with_reducible (rename BAR _ => bq9; refine letI kk := _; haveI bq8 := @barS kk bq9; letI Wq := mkW2 (k := kk) (n := by k_extra "ne"); letI y3_1 := _; letI y3_2 := _; goW2 Wq rfl y3_1 y3_2 rfl rfl ?_; try clear bq9))
  k_with "b3.6" => (with_reducible (rename BAR _ => bq9; refine letI kk := _; haveI bq8 := @barS kk bq9; letI Wq := mkW6 (k := kk) (n := by k_extra "ne"); letI y3_1 := _; letI y3_2 := _; letI y3_3 := _; letI y3_4 := _; letI y3_5 := _; letI y3_6 := _; goW6 Wq rfl y3_1 y3_2 y3_3 y3_4 y3_5 y3_6 rfl rfl rfl rfl rfl rfl ?_; try clear bq9))
  k_with "b3.8" => (with_reducible (rename BAR _ => bq9; refine letI kk := _; haveI bq8 := @barS kk bq9; letI Wq := mkW8 (k := kk) (n := by k_extra "ne"); letI y3_1 := _; letI y3_2 := _; letI y3_3 := _; letI y3_4 := _; letI y3_5 := _; letI y3_6 := _; letI y3_7 := _; letI y3_8 := _; goW8 Wq rfl y3_1 y3_2 y3_3 y3_4 y3_5 y3_6 y3_7 y3_8 rfl rfl rfl rfl rfl rfl rfl rfl ?_; try clear bq9))
  k_with "b3.12" => (with_reducible (rename BAR _ => bq9; refine letI kk := _; haveI bq8 := @barS kk bq9; letI Wq := mkW12 (k := kk) (n := by k_extra "ne"); letI y3_1 := _; letI y3_2 := _; letI y3_3 := _; letI y3_4 := _; letI y3_5 := _; letI y3_6 := _; letI y3_7 := _; letI y3_8 := _; letI y3_9 := _; letI y3_10 := _; letI y3_11 := _; letI y3_12 := _; goW12 Wq rfl y3_1 y3_2 y3_3 y3_4 y3_5 y3_6 y3_7 y3_8 y3_9 y3_10 y3_11 y3_12 rfl rfl rfl rfl rfl rfl rfl rfl rfl rfl rfl rfl ?_; try clear bq9))
  k_with "b4.1" => (with_reducible (rename BAR _ => bq9; refine letI kk := _; haveI bq8 := @barS kk bq9; letI y4_1 := _; goW1 (k := kk) (n := by k_extra "ne") y4_1 rfl ?_; try clear bq9))
  k_with "b4.2" => (with_reducible (rename BAR _ => bq9; refine letI kk := _; haveI bq8 := @barS kk bq9; letI Wq := mkW2 (k := kk) (n := by k_extra "ne"); letI y4_1 := _; letI y4_2 := _; goW2 Wq rfl y4_1 y4_2 rfl rfl ?_; try clear bq9))
  k_with "b4.12" => (with_reducible (rename BAR _ => bq9; refine letI kk := _; haveI bq8 := @barS kk bq9; letI Wq := mkW12 (k := kk) (n := by k_extra "ne"); letI y4_1 := _; letI y4_2 := _; letI y4_3 := _; letI y4_4 := _; letI y4_5 := _; letI y4_6 := _; letI y4_7 := _; letI y4_8 := _; letI y4_9 := _; letI y4_10 := _; letI y4_11 := _; letI y4_12 := _; goW12 Wq rfl y4_1 y4_2 y4_3 y4_4 y4_5 y4_6 y4_7 y4_8 y4_9 y4_10 y4_11 y4_12 rfl rfl rfl rfl rfl rfl rfl rfl rfl rfl rfl rfl ?_; try clear bq9))
  k_with "b5.12" => (with_reducible (rename BAR _ => bq9; refine letI kk := _; haveI bq8 := @barS kk bq9; letI Wq := mkW12 (k := kk) (n := by k_extra "ne"); letI y5_1 := _; letI y5_2 := _; letI y5_3 := _; letI y5_4 := _; letI y5_5 := _; letI y5_6 := _; letI y5_7 := _; letI y5_8 := _; letI y5_9 := _; letI y5_10 := _; letI y5_11 := _; letI y5_12 := _; goW12 Wq rfl y5_1 y5_2 y5_3 y5_4 y5_5 y5_6 y5_7 y5_8 y5_9 y5_10 y5_11 y5_12 rfl rfl rfl rfl rfl rfl rfl rfl rfl rfl rfl rfl ?_; try clear bq9))
  k_with "b6.6" => (with_reducible (rename BAR _ => bq9; refine letI kk := _; haveI bq8 := @barS kk bq9; letI Wq := mkW6 (k := kk) (n := by k_extra "ne"); letI y6_1 := _; letI y6_2 := _; letI y6_3 := _; letI y6_4 := _; letI y6_5 := _; letI y6_6 := _; goW6 Wq rfl y6_1 y6_2 y6_3 y6_4 y6_5 y6_6 rfl rfl rfl rfl rfl rfl ?_; try clear bq9))
  k_with "b7.1" => (with_reducible (rename BAR _ => bq9; refine letI kk := _; haveI bq8 := @barS kk bq9; letI y7_1 := _; goW1 (k := kk) (n := by k_extra "ne") y7_1 rfl ?_; try clear bq9))
  k_with "hd" => (with_reducible (rename BAR _ => bq9; refine letI kk := _; haveI bq8 := @barS kk bq9; letI Wq := mkW22 (k := kk) (n := by k_extra "ne"); letI p := _; letI loose := _; letI mean := _; letI mg := _; letI mb := _; letI dp := _; letI un := _; letI gd := _; letI cn := _; letI cs := _; letI a := _; letI ccd := _; letI cl := _; letI outer := _; letI A₀ := _; letI base := _; letI h₀ := _; letI L := _; letI mm := _; letI s := _; letI Q := _; letI E := _; goW22 Wq rfl p loose mean mg mb dp un gd cn cs a ccd cl outer A₀ base h₀ L mm s Q E rfl rfl rfl rfl rfl rfl rfl rfl rfl rfl rfl rfl rfl rfl rfl rfl rfl rfl rfl rfl rfl rfl ?_; try clear bq9))
  k_with "hdw" => (with_reducible (rename BAR _ => bq9; refine letI kk := _; haveI bq8 := @barS kk bq9; letI Wq := mkW23 (k := kk) (n := by k_extra "ne"); letI w := _; letI p := _; letI loose := _; letI mean := _; letI mg := _; letI mb := _; letI dp := _; letI un := _; letI gd := _; letI cn := _; letI cs := _; letI a := _; letI ccd := _; letI cl := _; letI outer := _; letI A₀ := _; letI base := _; letI h₀ := _; letI L := _; letI mm := _; letI s := _; letI Q := _; letI E := _; goW23 Wq rfl w p loose mean mg mb dp un gd cn cs a ccd cl outer A₀ base h₀ L mm s Q E rfl rfl rfl rfl rfl rfl rfl rfl rfl rfl rfl rfl rfl rfl rfl rfl rfl rfl rfl rfl rfl rfl rfl ?_; try clear bq9))
  k_with "hw" => (k_extra "hdw"; intro B F X N T hk hd hu hret; (with_reducible k_extra "bar"); refine wpAny_call ?_; k_extra "en")
  k_with "hv" => (k_extra "hd"; intro B F X N T hk hd hu hret; (with_reducible k_extra "bar"); refine wpAny_call ?_; k_extra "en")
  k_with "h0" => refine haveI b8 : BAR 0 := bar0; ?_
  k_with "!subscriptTail Name" => (k_here; (with_reducible show wpAny _ _ (subscriptTail _ _ (Value.ref _) (Value.int _ _)) _ _ _); k_dflt (refine' item_tupleT ?z10t ?z10a ?z10b ?z10c ?z10d ?_; (case z10t => refine' TupIs.tup ?z10tF ?z10tX ?z10tN ?z10tp; (case z10tF => k_asm); (case z10tX => k_asm); (case z10tN => k_asm); (case z10tp => first | assumption | (refine' TupIs.cons ?q517; (case q517 => assumption)) | (refine' TupIs.app ?q518; (case q518 => assumption)) | (refine' TupIs.cons (TupIs.cons ?q519); (case q519 => assumption)))); (case z10a => decide); (case z10b => decide); (case z10c => rfl); (case z10d => rfl); k_whole))
  k_with "!assign Tuple" => (k_here; (with_reducible show wpAny _ _ (assign (Expr.Tuple _ _ _) _ (Value.ref _)) _ _ _); k_dflt (refine' unpackN_ ?z11k1 ?z11k2 ?z11k3 ?z11k4 ?z11k5 ?z11k6 ?_; (case z11k1 => k_asm); (case z11k2 => k_asm); (case z11k3 => refine' TupIs.tup ?z11tF ?z11tX ?z11tN ?z11tp; (case z11tF => k_asm); (case z11tX => k_asm); (case z11tN => k_asm); (case z11tp => first | assumption | (refine' TupIs.cons ?q520; (case q520 => assumption)) | (refine' TupIs.app ?q521; (case q521 => assumption)))); (case z11k4 => exact rfl); (case z11k5 => exact rfl); (case z11k6 => exact rfl); k_whole); intro h' F' N'; (try k_sweep))
  k_with "!binaryOp Pow int int" => (k_here; (with_reducible refine pow_int_small ?z12kb1 ?z12kb2 ?z12kb3 ?_); (case z12kb1 => first | omega | (split <;> omega)); (case z12kb2 => first | omega | (split <;> omega)); (case z12kb3 => decide))
  k_with "!binaryOp Mult int int" => (k_here; (with_reducible refine PyProof.Rows.mul_int ?_ ?z13kb1); (case z13kb1 => first | (refine' IntMulOk.of_left (intBits_le_64 ?q522 ?q523); (case q522 => first | omega | (split <;> omega)); (case q523 => first | omega | (split <;> omega))) | (refine' IntMulOk.of_right (intBits_le_64 ?q524 ?q525); (case q524 => first | omega | (split <;> omega)); (case q525 => first | omega | (split <;> omega)))))
  k_with "!call ref" => ((with_reducible show wpAny _ _ (call (Value.ref _) _) _ _ _); k_here; k_dflt (refine' specP_use ?z14kC ?z14k1 ?z14k2 ?z14k3 ?z14k4 ?z14k5 ?z14kK ?z14kd ?z14ku ?_; (case z14k4 => k_asm); (case z14kC => k_extra "specP"); (case z14k1 => k_asm); (case z14k2 => k_asm); (case z14k3 => k_asm); (case z14k5 => k_asm); (case z14kK => first | exact rfl | assumption); (case z14kd => ktr_room); (case z14ku => ktr_units)); intro v9 tl9 h9 tk9 F9 N9 l9 hp9; (first | (obtain ⟨a9, u9, z9, e9, hp9⟩ := hp9; subst e9) | k_extra "openP"); (try k_sweep); (try k_fold))
  k_with "!call ref" => ((with_reducible show wpAny _ _ (call (Value.ref _) _) _ _ _); k_here; k_dflt (refine' specV_use ?z15kC ?z15k1 ?z15k2 ?z15k3 ?z15k4 ?z15k5 ?z15kK ?z15kd ?z15ku ?_; (case z15k4 => k_asm); (case z15kC => k_extra "specV"); (case z15k1 => k_asm); (case z15k2 => k_asm); (case z15k3 => k_asm); (case z15k5 => k_asm); (case z15kK => first | exact rfl | assumption); (case z15kd => ktr_room); (case z15ku => ktr_units)); intro v9 h9 tk9 F9 N9 hp9; (first | (refine Exists.elim hp9 ?_; clear hp9; intro t9 e9; subst e9) | subst hp9); (try k_sweep); (try k_fold))
  k_with "!call builtin:divmod" => (k_here; (with_reducible show wpAny _ _ (call (Value.builtin _) [Value.int _ _, Value.int _ _]) _ _ _); k_dflt (refine' divmod_K ?z16k1 ?z16k2 ?z16k3 ?z16k4 ?_; (case z16k1 => k_asm); (case z16k2 => k_asm); (case z16k3 => first | omega | k_extra "nonzero"); (case z16k4 => first | (refine' Or.inl (PyProof.noPylong_small ?q526); (case q526 => omega)) | (refine' Or.inr (PySem.PylongRoom.of (PySem.Heap.NoLimit.keeps (PyProof.Rows.Top.nolimit ?q527) (PyProof.Rows.Fr.keep ?q528)) (of_decide_eq_true ?q529)); (case q527 => assumption); (case q528 => assumption); (case q529 => with_unfolding_all rfl)) | k_extra "room"); k_whole); intro d' h' F' N' l1; (try k_sweep))
  k_with "m:k_mem" => (refine List.mem_append_right _ ?_; k_mem)
  k_with "!call builtin:len" => (k_here; (with_reducible show wpAny _ _ (call (Value.builtin _) [Value.ref _]) _ _ _); k_dflt (refine' lenL_K ?z17k1 ?z17k2 ?z17k3 ?z17k4 ?_; (case z17k1 => k_asm); (case z17k2 => first | assumption | k_mem); (case z17k3 => k_extra "len"); (case z17k4 => decide); k_whole))
  k_with "!subscriptTail Name" => (k_here; (with_reducible show wpAny _ _ (subscriptTail _ _ (Value.ref _) (Value.int _ _)) _ _ _); k_dflt (refine' itemL_K ?z18k1 ?z18k2 ?z18k3 ?z18k4 ?z18k5 ?_ ?z18k6; (case z18k1 => k_asm); (case z18k2 => first | assumption | k_mem); (case z18k3 => omega); (case z18k4 => omega); (case z18k5 => k_extra "item"); (case z18k6 => with_unfolding_all rfl); k_whole))
  k_with "!subscriptTail Name" => (k_here; (with_reducible show wpAny _ _ (subscriptTail _ _ (Value.ref _) (Value.int _ _)) _ _ _); k_dflt (refine' item_tupleT ?z19t ?z19a ?z19b ?z19c ?z19d ?_; (case z19t => refine' News.isTup ?z19tN ?z19tp; (case z19tN => k_asm); (case z19tp => first | assumption | k_mem)); (case z19a => decide); (case z19b => decide); (case z19c => rfl); (case z19d => rfl); k_whole))
  k_with "!call ref" => ((with_reducible show wpAny _ _ (call (Value.ref _) _) _ _ _); k_here; k_dflt (refine' specPW_use ?z20kC ?z20k1 ?z20k2 ?z20k3 ?z20k4 ?z20k5 ?z20kK ?z20kd ?z20ku ?_; (case z20k4 => k_asm); (case z20kC => k_extra "specPW"); (case z20k1 => k_asm); (case z20k2 => k_asm); (case z20k3 => k_asm); (case z20k5 => k_asm); (case z20kK => first | exact rfl | assumption); (case z20kd => ktr_room); (case z20ku => ktr_units)); intro v9 tl9 h9 tk9 F9 N9 l9 hp9; (first | (obtain ⟨a9, u9, z9, e9, hp9⟩ := hp9; subst e9) | k_extra "openP" | subst hp9 | skip); (try k_sweep); (try k_fold))
  k_with "!subscriptTail Name" => (k_here; (with_reducible show wpAny _ _ (subscriptTail _ _ (Value.ref _) (Value.str _ _)) _ _ _); k_dflt ((refine' kda_item (knd := PySem.strKind _ _) ?q530 ?q531 ?q532 (strKind_is _ _ _ _) ?q533 ?_; (case q530 => k_asm); (case q531 => first | assumption | k_mem); (case q532 => assumption); (case q533 => k_extra "val"))))
  k_with "!subscriptTail Name" => (k_here; (with_reducible show wpAny _ _ (subscriptTail _ _ (Value.ref _) (Value.int _ _)) _ _ _); k_dflt ((refine' kda_item (knd := PySem.intKind _ _) ?q534 ?q535 ?q536 (intKind_is _ _ _ _) ?q537 ?_; (case q534 => k_asm); (case q535 => first | assumption | k_mem); (case q536 => assumption); (case q537 => k_extra "val"))))
  k_with "!getMethod ref" => (k_here; (with_reducible show wpAny _ _ (getMethod (Value.ref _) (Str.ofString "get") _) _ _ _); k_dflt ((refine' kdg_method (knd := PySem.strKind WP _) ?q538 ?q539 ?q540 ?_; (case q538 => k_asm); (case q539 => first | assumption | k_mem); (case q540 => assumption))))
  k_with "!call builtin:dict.get" => (k_here; k_dflt ((refine' kdg_get1 (knd := PySem.strKind _ _) ?q541 ?q542 ?q543 ?q544 (strKind_is _ _ _ _) (some _) ?q545 ?_; (case q541 => k_asm); (case q542 => first | assumption | k_mem); (case q543 => assumption); (case q544 => assumption); (case q545 => k_extra "val"))); (try dsimp only [Option.getD]))
  k_with "!compareOp NotIn str ref" => (k_here; k_dflt ((refine' kdg_notin (knd := PySem.strKind _ _) ?q546 ?q547 ?q548 ?q549 (strKind_is _ _ _ _) true ?q550 ?_; (case q546 => k_asm); (case q547 => first | assumption | k_mem); (case q548 => assumption); (case q549 => assumption); (case q550 => k_extra "isval"))); (try dsimp only [Bool.not_true, Bool.not_false]))
  k_with "!compareOp NotIn int ref" => (k_here; k_dflt ((refine' kdg_notin (knd := PySem.intKind _ _) ?q551 ?q552 ?q553 ?q554 (intKind_is _ _ _ _) true ?q555 ?_; (case q551 => k_asm); (case q552 => first | assumption | k_mem); (case q553 => assumption); (case q554 => assumption); (case q555 => k_extra "isval"))); (try dsimp only [Bool.not_true, Bool.not_false]))
  k_with "m:k_mem" => first | assumption | (with_reducible exact List.mem_cons_self) | (with_reducible refine List.mem_cons_of_mem _ ?_; k_mem) | (with_reducible refine List.mem_append_right _ ?_; k_mem)
  k_with "!subscriptTail Subscript" => (k_here; k_dflt (refine kba_turn (value' := PySem.Expr.Name (PySem.Str.ofString "_") ⟨0, 0, 0, 0⟩) (fun _ => rfl) ?_))
  k_with "!subscriptTail Attribute" => (k_here; k_dflt (refine kba_turn (value' := PySem.Expr.Name (PySem.Str.ofString "_") ⟨0, 0, 0, 0⟩) (fun _ => rfl) ?_))
  k_with "!callWith ref" => (k_here; k_dflt (refine' callWith_K ?z21k1 ?z21k2 ?_; (case z21k1 => k_asm); (case z21k2 => with_reducible assumption); k_whole))
  k_with "!call ref" => ((with_reducible show wpAny _ _ (call (Value.ref _) _) _ _ _); k_here; k_dflt (refine' specT_use ?z22kC ?z22k1 ?z22k2 ?z22k3 ?z22k4 ?z22k5 ?z22kK ?z22kd ?z22ku ?_; (case z22k4 => k_asm); (case z22kC => k_extra "specT"); (case z22k1 => k_asm); (case z22k2 => k_asm); (case z22k3 => k_asm); (case z22k5 => k_asm); (case z22kK => first | exact rfl | assumption); (case z22kd => ktr_room); (case z22ku => ktr_units)); intro v9 n9 h9 tk9 F9 N9; (first | k_extra "openT" | intro hp9); (try k_sweep); (try k_fold))
  k_with "m:k_all" => assumption
  k_with "!setItem ref int" => (k_here; (with_reducible show wpAny _ _ (setItem (Value.ref _) (Value.int _ _) _) _ _ _); k_dflt (refine' setL_K ?z23F ?z23N ?z23U ?z23a ?z23b ?z23c ?_; (case z23F => k_asm); (case z23N => k_asm); (case z23U => k_upd); (case z23a => omega); (case z23b => (try simp only [List.length_set]); omega); (case z23c => omega); k_whole); intro h' F' N'; (try k_sweep))
  k_with "!eval Call" => (k_here; (with_reducible show wpAny _ _ (eval (Expr.Call (Expr.Name _ _) _ [] _) _) _ _ _); k_dflt (refine Call_ ?_))
  k_with "!setItem ref ref" => (k_here; k_dflt (refine' lp_set0 (w := _) ?z24F ?z24N ?z24U ?z24h0 ?z24ha ?z24hu ?_; (case z24F => k_asm); (case z24N => k_asm); (case z24U => k_updF); (case z24h0 => assumption); (case z24ha => first | assumption | k_mem); (case z24hu => ktr_units); k_whole); intro h' o' F' N' hl'; (try dsimp only at N'); (try k_sweep))
  k_with "!setItem ref ref" => (k_here; k_dflt (refine' lp_set1 ?z25F ?z25N ?z25U ?z25h1 ?z25h2 ?z25ha ?z25hu ?_; (case z25F => k_asm); (case z25N => k_asm); (case z25U => k_updF); (case z25h1 => assumption); (case z25h2 => first | assumption | k_mem); (case z25ha => first | assumption | k_mem); (case z25hu => ktr_units); k_whole); intro h' o' F' N' hl'; (try dsimp only at N'); (try k_sweep))
  k_with "!compareOp NotIn ref ref" => (k_here; k_dflt (refine' lp_notin1 ?z26N ?z26d ?z26lo ?z26h1 ?z26h2 ?z26ha ?z26hu ?_; (case z26N => k_asm); (case z26d => first | assumption | k_mem); (case z26lo => assumption); (case z26h1 => assumption); (case z26h2 => first | assumption | k_mem); (case z26ha => first | assumption | k_mem); (case z26hu => ktr_units); k_whole))
  k_with "!subscriptTail Name" => (k_here; (with_reducible show wpAny _ _ (subscriptTail _ _ (Value.ref _) (Value.ref _)) _ _ _); k_dflt (refine' lp_item ?z27N ?z27d ?z27h1 ?z27h2 ?z27ha ?z27hu ?_; (case z27N => k_asm); (case z27d => first | assumption | k_mem); (case z27h1 => assumption); (case z27h2 => first | assumption | k_mem); (case z27ha => first | assumption | k_mem); (case z27hu => ktr_units); k_whole))
  k_with "!getMethod ref" => (k_here; (with_reducible show wpAny _ _ (getMethod (Value.ref _) (Str.ofString "pop") _) _ _ _); k_dflt (refine' lp_method ?z28N ?z28d ?z28h1 ?z28h2 ?_; (case z28N => k_asm); (case z28d => first | assumption | k_mem); (case z28h1 => assumption); (case z28h2 => first | assumption | k_mem); k_whole))
  k_with "!call builtin:dict.pop" => (k_here; (with_reducible show wpAny _ _ (call (Value.builtin _) [Value.ref _, Value.ref _]) _ _ _); k_dflt (refine' lp_pop ?z29F ?z29N ?z29U ?z29h1 ?z29h2 ?z29ha ?z29hu ?_; (case z29F => k_asm); (case z29N => k_asm); (case z29U => k_updF); (case z29h1 => assumption); (case z29h2 => first | assumption | k_mem); (case z29ha => first | assumption | k_mem); (case z29hu => ktr_units); k_whole); intro h' o' F' N' hl'; (try dsimp only at N'); (try k_sweep))
  k_with "m:k_upd" => first | (refine' Pick.head ?z30a; (case z30a => k_all)) | (refine' Pick.cons ?z30a ?z30b; (case z30a => k_ne); (case z30b => k_upd))
  k_with "!exec For Name Subscript cons nil" => (k_here; (rename Fr _ _ _ _ => lF'); (with_reducible refine' For_invVF lF' ?z31k1 ?z31k2 ?_ ?z31hs ?z31hE); (with_unfolding_all ((case z31k1 => exact rfl); (case z31k2 => exact rfl); (case z31hs => intro _; rfl); (case z31hE => with_reducible first | exact PySem.PassesOwn.never | exact PySem.PassesOwn.leaving | exact PySem.PassesOwn.looking); k_whole)))
  k_with "!pyIter ref" => (k_here; (with_reducible show wpAny _ _ (pyIter (Value.ref _)) (fun it s₂ => LoopAtV _ _ _ _ _ _ _ _ _ it s₂) _ _); (rename Fr _ _ _ _ => lF'); (rename News _ _ _ _ => lN'); (with_unfolding_all refine' iter_listUnr ?z32hh lF' lN' ?z32hm ?z32hc ?z32hd ?_; (case z32hh => rfl); (case z32hm => k_mem); (case z32hc => rfl); (case z32hd => rfl)); clear lF' lN'; intro i' l1; (try k_lt l1))
  k_with "!UnrEnd" => (k_dflt (refine' unrEnd_pick ?z33F ?z33N ?z33P ⟨?z33m, ?_⟩; (case z33F => k_asm); (case z33N => k_asm); (case z33P => k_upd); (case z33m => k_mem); k_whole))
  k_with "!compareOp In int ref" => (k_here; k_dflt ((refine' kda_in (knd := PySem.intKind _ _) ?q556 ?q557 ?q558 ?q559 (intKind_is _ _ _ _) true ?q560 ?_; (case q556 => k_asm); (case q557 => first | assumption | k_mem); (case q558 => assumption); (case q559 => assumption); (case q560 => assumption))))
  k_with "!compareOp In int ref" => (k_here; k_dflt ((refine' kda_in (knd := PySem.intKind _ _) ?q561 ?q562 ?q563 ?q564 (intKind_is _ _ _ _) false ?q565 ?_; (case q561 => k_asm); (case q562 => first | assumption | k_mem); (case q563 => assumption); (case q564 => assumption); (case q565 => assumption))))
  k_with "!KswEnd" => (k_dflt (k_extra "KswEnd"))
  k_with "!setItem ref int" => (k_here; k_dflt (refine' kda_set (knd := PySem.intKind _ _) ?z34F ?z34N ?z34U ?z34d (intKind_is _ _ _ _) ?z34z ?_; (case z34F => k_asm); (case z34N => k_asm); (case z34U => k_updF); (case z34d => assumption); (case z34z => k_extra "size")); intro h' o' F' N' hd'; (try dsimp only at N'); (try k_sweep))
  k_with "!setItem ref str" => (k_here; k_dflt (refine' kda_set (knd := PySem.strKind _ _) ?z35F ?z35N ?z35U ?z35d (strKind_is _ _ _ _) ?z35z ?_; (case z35F => k_asm); (case z35N => k_asm); (case z35U => k_updF); (case z35d => assumption); (case z35z => k_extra "size")); intro h' o' F' N' hd'; (try dsimp only at N'); (try k_sweep))
  k_with "!compareOp NotIn int ref" => (k_here; k_dflt ((refine' kdg_notin (knd := PySem.intKind _ _) ?q566 ?q567 ?q568 ?q569 (intKind_is _ _ _ _) false ?q570 ?_; (case q566 => k_asm); (case q567 => first | assumption | k_mem); (case q568 => assumption); (case q569 => assumption); (case q570 => k_extra "isnone"))); (try dsimp only [Bool.not_true, Bool.not_false]))
  k_with "!compareOp NotIn str ref" => (k_here; k_dflt ((refine' kdg_notin (knd := PySem.strKind _ _) ?q571 ?q572 ?q573 ?q574 (strKind_is _ _ _ _) false ?q575 ?_; (case q571 => k_asm); (case q572 => first | assumption | k_mem); (case q573 => assumption); (case q574 => assumption); (case q575 => k_extra "isnone"))); (try dsimp only [Bool.not_true, Bool.not_false]))
  k_with "!truthy ref" => (k_here; (with_reducible show wpAny _ _ (truthy (Value.ref _)) _ _ _); k_dflt (refine' truthL_K ?z36N ?z36hm ?z36hz ?_; (case z36N => k_asm); (case z36hm => first | assumption | k_mem); (case z36hz => first | decide | (simp only [List.length_cons, List.length_nil]; omega) | omega)); (try dsimp only [List.isEmpty_cons, List.isEmpty_nil, Bool.not_true, Bool.not_false]))
  k_with "!getItem" => (k_here; (with_reducible show wpAny _ _ (getItem (Value.ref _) (Value.int _ _)) _ _ _); k_dflt ((refine' getItemD_K (knd := PySem.intKind _ _) ?q576 ?q577 ?q578 (intKind_is _ _ _ _) ?q579 ?_; (case q576 => k_asm); (case q577 => first | assumption | k_mem); (case q578 => assumption); (case q579 => k_extra "val"))))
  k_with "!getItem" => (k_here; (with_reducible show wpAny _ _ (getItem (Value.ref _) (Value.str _ _)) _ _ _); k_dflt ((refine' getItemD_K (knd := PySem.strKind _ _) ?q580 ?q581 ?q582 (strKind_is _ _ _ _) ?q583 ?_; (case q580 => k_asm); (case q581 => first | assumption | k_mem); (case q582 => assumption); (case q583 => k_extra "val"))))
  k_with "!pyIter ref" => (k_here; (with_reducible show wpAny _ _ (pyIter (Value.ref _)) (fun it s₂ => LoopAtV _ _ _ _ _ _ _ _ _ it s₂) _ _); k_dflt (k_extra "rangeJ"))
  k_with "!UnrEnd" => (k_dflt (k_extra "endJ"))
  k_with "!call ref" => ((with_reducible show wpAny _ _ (call (Value.ref _) ([] ++ [])) _ _ _); k_here; k_dflt (rw [show (([] : List Value) ++ []) = [] from rfl]))
  k_with "m:k_room" => ktr_room
  k_with "!newTuple" => (k_here; k_dflt (refine' kup_newTuple ?z37F ?z37N ?_ ?z37z; (case z37F => k_asm); (case z37N => k_asm); (case z37z => kmk_size)); intro D' h' F' N' l1; (try k_lt l1); (try k_sweep))
  trivial
-- L1
theorem c_lrs : ∀ (w : World) (x : Str) (t : Tok) (led : Led), SpecPW w 1 8 837 [.str x t] (led) (fun v n => ∃ a t1 t2, v = .ref a ∧ (a, tp [.str (Str.ofString "var") t1, .int 2 t2, .str x t]) ∈ n ∧ ∀ p ∈ led, @LT.lt Nat _ p.1 a) := by
  refine @dq _ (by
  unfold SpecPW
  k_fill
  k_extra "h0"
  k_extra "b1.4"
  k_extra "hv"
  k_steps
  all_goals first
    | exact Grown.ret (post := fun v n => ∃ a t1 t2, v = .ref a ∧ (a, tp [.str (Str.ofString "var") t1, .int 2 t2, .str y1_2 y1_3]) ∈ n ∧ ∀ p ∈ y1_4, @LT.lt Nat _ p.1 a) hret ‹_› ‹_› ⟨_, _, _, rfl, by k_mem, (by first | assumption | exact allLt_all ‹_›)⟩ (by repeat (first | exact Grown.refl | (refine Grown.app ?_ ?_; rotate_left; assumption) | (refine Grown.cons ?_ ?_; rotate_left; first | assumption | exact allLt_all ‹_› | exact fun p hp => Nat.lt_succ_of_lt (by first | exact l1 p hp | (apply_assumption; assumption)))))
    | exact Grown.retV hret ‹_› ‹_› (by repeat (first | exact Grown.refl | (refine Grown.app ?_ ?_; rotate_left; assumption) | (refine Grown.cons ?_ ?_; rotate_left; first | assumption | exact allLt_all ‹_› | exact fun p hp => Nat.lt_succ_of_lt (by first | exact l1 p hp | (apply_assumption; assumption)))))
    | (exfalso; omega)) fun q hf => ?_
  simpa only using fq hf (@Eq _ 5 5)
theorem c_lrn : ∀ (w : World) (c : Addr) (m e : Int) (t1 t2 : Tok) (led : Led), (c, tp [.int m t1, .int e t2]) ∈ led → SpecPW w 1 8 837 [.ref c] (led) (fun v n => ∃ a t1 t2, v = .ref a ∧ (a, tp [.str (Str.ofString "const") t1, .int 2 t2, .ref c]) ∈ n ∧ ∀ p ∈ led, @LT.lt Nat _ p.1 a) := by
  refine @dq _ (by
  unfold SpecPW
  k_fill
  k_extra "h0"
  k_extra "b1.6"
  k_extra "b2.1"
  intro b1
  k_extra "hv"
  k_steps
  all_goals first
    | exact Grown.ret (post := fun v n => ∃ a y1_5 y1_6, v = .ref a ∧ (a, tp [.str (Str.ofString "const") y1_5, .int 2 y1_6, .ref y1_2]) ∈ n ∧ ∀ p ∈ y2_1, @LT.lt Nat _ p.1 a) hret ‹_› ‹_› ⟨_, _, _, rfl, by k_mem, (by first | assumption | exact allLt_all ‹_›)⟩ (by repeat (first | exact Grown.refl | (refine Grown.app ?_ ?_; rotate_left; assumption) | (refine Grown.cons ?_ ?_; rotate_left; first | assumption | exact allLt_all ‹_› | exact fun p hp => Nat.lt_succ_of_lt (by first | exact l1 p hp | (apply_assumption; assumption)))))
    | exact Grown.retV hret ‹_› ‹_› (by repeat (first | exact Grown.refl | (refine Grown.app ?_ ?_; rotate_left; assumption) | (refine Grown.cons ?_ ?_; rotate_left; first | assumption | exact allLt_all ‹_› | exact fun p hp => Nat.lt_succ_of_lt (by first | exact l1 p hp | (apply_assumption; assumption)))))
    | (exfalso; omega)) fun q hf => ?_
  simpa only using fq hf (@Eq _ 5 5)
theorem c_lr3 : ∀ (w : World) (c : Addr) (wd : Str) (x y : Value) (t1 : Tok) (led : Led), (c, tp [.str wd t1, x, y]) ∈ led → SpecPW w 1 8 837 [.ref c] (led) (fun v n => v = .ref c) := by
  refine @dq _ (by
  unfold SpecPW
  k_fill
  k_extra "h0"
  k_extra "b1.6"
  k_extra "b2.1"
  intro b1
  k_extra "hv"
  k_steps
  all_goals first
    | exact Grown.ret (post := fun v n => v = .ref y1_2) hret ‹_› ‹_› rfl (by repeat (first | exact Grown.refl | (refine Grown.app ?_ ?_; rotate_left; assumption) | (refine Grown.cons ?_ ?_; rotate_left; first | assumption | exact allLt_all ‹_› | exact fun p hp => Nat.lt_succ_of_lt (by first | exact l1 p hp | (apply_assumption; assumption)))))
    | exact Grown.retV hret ‹_› ‹_› (by repeat (first | exact Grown.refl | (refine Grown.app ?_ ?_; rotate_left; assumption) | (refine Grown.cons ?_ ?_; rotate_left; first | assumption | exact allLt_all ‹_› | exact fun p hp => Nat.lt_succ_of_lt (by first | exact l1 p hp | (apply_assumption; assumption)))))
    | (exfalso; omega)) fun q hf => ?_
  simpa only using fq hf (@Eq _ 5 5)
theorem c_lr4 : ∀ (w : World) (c : Addr) (wd : Str) (x y z : Value) (t1 : Tok) (led : Led), (c, tp [.str wd t1, x, y, z]) ∈ led → SpecPW w 1 8 837 [.ref c] (led) (fun v n => v = .ref c) := by
  refine @dq _ (by
  unfold SpecPW
  k_fill
  k_extra "h0"
  k_extra "b1.8"
  intro b1
  k_extra "hv"
  k_steps
  all_goals first
    | exact Grown.ret (post := fun v n => v = .ref y1_2) hret ‹_› ‹_› rfl (by repeat (first | exact Grown.refl | (refine Grown.app ?_ ?_; rotate_left; assumption) | (refine Grown.cons ?_ ?_; rotate_left; first | assumption | exact allLt_all ‹_› | exact fun p hp => Nat.lt_succ_of_lt (by first | exact l1 p hp | (apply_assumption; assumption)))))
    | exact Grown.retV hret ‹_› ‹_› (by repeat (first | exact Grown.refl | (refine Grown.app ?_ ?_; rotate_left; assumption) | (refine Grown.cons ?_ ?_; rotate_left; first | assumption | exact allLt_all ‹_› | exact fun p hp => Nat.lt_succ_of_lt (by first | exact l1 p hp | (apply_assumption; assumption)))))
    | (exfalso; omega)) fun q hf => ?_
  simpa only using fq hf (@Eq _ 5 5)
-- L2
theorem c_lop : ∀ (w : World) (D U : Nat) (R1 : Value → Led → Prop) (R2 : Value → Value → Led → Prop) (wd : Str) (t0 : Tok) (x y : Value) (led : Led), HSpec w D U 837 [x] led R1 → (∀ v1 n1, R1 v1 n1 → Grown led n1 → HSpec w D U 837 [y] n1 (R2 v1)) → SpecPW w (D + 1) (U + 8) 844 [.str wd t0, x, y] (led) (fun v n => ∃ c t2 v1 v2 n2, v = .ref c ∧ n = (c, tp [.str wd t0, .int 2 t2, v1, v2]) :: n2 ∧ R2 v1 v2 n2 ∧ ∀ p ∈ led, @LT.lt Nat _ p.1 c) := by
  refine @dq _ (by
  unfold SpecPW
  k_fill
  k_extra "h0"
  k_extra "b1.8"
  k_extra "b2.2"
  intro b1 b2
  k_extra "hv"
  k_with "specPW" => exact HSpec.use b1
  k_with "specPW" => (refine' HSpec.use (b2 _ _ ?q584 ?q585); (case q584 => assumption); (case q585 => repeat (first | exact Grown.refl | (refine Grown.app ?_ ?_; rotate_left; assumption) | (refine Grown.cons ?_ ?_; rotate_left; first | assumption | (refine' allLt_all ?q586; (case q586 => assumption)) | exact fun p hp => Nat.lt_succ_of_lt (by first | exact l1 p hp | (apply_assumption; assumption))))))
  k_with "openP" => try dsimp only
  k_steps
  all_goals first
    | exact Grown.ret (post := fun v n => ∃ c t2 v1 v2 n2, v = .ref c ∧ n = (c, tp [.str y1_6 y1_7, .int 2 t2, v1, v2]) :: n2 ∧ y1_5 v1 v2 n2 ∧ ∀ p ∈ y2_2, @LT.lt Nat _ p.1 c) hret ‹_› ‹_› ⟨_, _, _, _, _, rfl, rfl, by assumption, fun p hp => by (rename ∀ p : Addr × Obj, p ∈ _ → @LT.lt Nat _ p.1 _ => hh9); exact hh9 p (by k_mem)⟩ (by repeat (first | exact Grown.refl | (refine Grown.app ?_ ?_; rotate_left; assumption) | (refine Grown.cons ?_ ?_; rotate_left; first | assumption | exact allLt_all ‹_› | exact fun p hp => Nat.lt_succ_of_lt (by first | exact l1 p hp | (apply_assumption; assumption)))))
    | exact Grown.retV hret ‹_› ‹_› (by repeat (first | exact Grown.refl | (refine Grown.app ?_ ?_; rotate_left; assumption) | (refine Grown.cons ?_ ?_; rotate_left; first | assumption | exact allLt_all ‹_› | exact fun p hp => Nat.lt_succ_of_lt (by first | exact l1 p hp | (apply_assumption; assumption)))))
    | (exfalso; omega)) fun q hf => ?_
  simpa only using fq hf (@Eq _ 5 5)
theorem c_llay : ∀ (w : World) (D U : Nat) (R1 : Value → Led → Prop) (x y : Value) (led : Led), (∀ n1, Grown led n1 → HSpec w D U 837 [y] n1 R1) → SpecPW w (D + 1) (U + 8) 851 [x, y] (led) (fun v n => ∃ c y1 t1 t2 t3 v1 n2, v = .ref c ∧ n = (c, tp [.str (Str.ofString "assign") t1, .ref y1, v1]) :: n2 ∧ (y1, tp [.str (Str.ofString "var") t2, .int 2 t3, x]) ∈ n2 ∧ R1 v1 n2) := by
  refine @dq _ (by
  unfold SpecPW
  k_fill
  k_extra "h0"
  k_extra "b1.6"
  k_extra "b2.1"
  intro b1
  k_extra "hv"
  k_with "specPW" => (refine' HSpec.use (b1 _ ?q587); (case q587 => repeat (first | exact Grown.refl | (refine Grown.app ?_ ?_; rotate_left; assumption) | (refine Grown.cons ?_ ?_; rotate_left; first | assumption | (refine' allLt_all ?q588; (case q588 => assumption)) | exact fun p hp => Nat.lt_succ_of_lt (by first | exact l1 p hp | (apply_assumption; assumption))))))
  k_with "openP" => try dsimp only
  k_steps
  all_goals first
    | exact Grown.ret (post := fun v n => ∃ c y1 t1 t2 t3 v1 n2, v = .ref c ∧ n = (c, tp [.str (Str.ofString "assign") t1, .ref y1, v1]) :: n2 ∧ (y1, tp [.str (Str.ofString "var") t2, .int 2 t3, y1_5]) ∈ n2 ∧ y1_4 v1 n2) hret ‹_› ‹_› ⟨_, _, _, _, _, _, _, rfl, rfl, by k_mem, by assumption⟩ (by repeat (first | exact Grown.refl | (refine Grown.app ?_ ?_; rotate_left; assumption) | (refine Grown.cons ?_ ?_; rotate_left; first | assumption | exact allLt_all ‹_› | exact fun p hp => Nat.lt_succ_of_lt (by first | exact l1 p hp | (apply_assumption; assumption)))))
    | exact Grown.retV hret ‹_› ‹_› (by repeat (first | exact Grown.refl | (refine Grown.app ?_ ?_; rotate_left; assumption) | (refine Grown.cons ?_ ?_; rotate_left; first | assumption | exact allLt_all ‹_› | exact fun p hp => Nat.lt_succ_of_lt (by first | exact l1 p hp | (apply_assumption; assumption)))))
    | (exfalso; omega)) fun q hf => ?_
  simpa only using fq hf (@Eq _ 5 5)
theorem c_lrounds : ∀ (w : World) (lab last : Int) (ta tb : Tok) (led : Led), SpecPW w 1 8 865 [.int lab ta, .int last tb] (led) (fun v n => ∃ c y1 y2 y3 t1 t2 t3 t4 t5 t6 t7 t8 t9, v = .ref c ∧ (c, tp [.str (Str.ofString "do") t1, .int lab ta, .ref y1, .ref y2, .ref y3, .ref y2]) ∈ n ∧ (y1, tp [.str (Str.ofString "var") t2, .int 0 t3, .str (Str.ofString "K") t4]) ∈ n ∧ (y2, tp [.str (Str.ofString "const") t5, .int 0 t6, .int 1 t7]) ∈ n ∧ (y3, tp [.str (Str.ofString "const") t8, .int 0 t9, .int last tb]) ∈ n) := by
  refine @dq _ (by
  unfold SpecPW
  k_fill
  k_extra "h0"
  k_extra "b1.6"
  k_extra "hv"
  k_steps
  all_goals first
    | exact Grown.ret (post := fun v n => ∃ c y1 y2 y3 t1 t2 t3 t4 t5 t6 t7 t8 t9, v = .ref c ∧ (c, tp [.str (Str.ofString "do") t1, .int y1_2 y1_4, .ref y1, .ref y2, .ref y3, .ref y2]) ∈ n ∧ (y1, tp [.str (Str.ofString "var") t2, .int 0 t3, .str (Str.ofString "K") t4]) ∈ n ∧ (y2, tp [.str (Str.ofString "const") t5, .int 0 t6, .int 1 t7]) ∈ n ∧ (y3, tp [.str (Str.ofString "const") t8, .int 0 t9, .int y1_3 y1_5]) ∈ n) hret ‹_› ‹_› ⟨_, _, _, _, _, _, _, _, _, _, _, _, _, rfl, by k_mem, by k_mem, by k_mem, by k_mem⟩ (by repeat (first | exact Grown.refl | (refine Grown.app ?_ ?_; rotate_left; assumption) | (refine Grown.cons ?_ ?_; rotate_left; first | assumption | exact allLt_all ‹_› | exact fun p hp => Nat.lt_succ_of_lt (by first | exact l1 p hp | (apply_assumption; assumption)))))
    | exact Grown.retV hret ‹_› ‹_› (by repeat (first | exact Grown.refl | (refine Grown.app ?_ ?_; rotate_left; assumption) | (refine Grown.cons ?_ ?_; rotate_left; first | assumption | exact allLt_all ‹_› | exact fun p hp => Nat.lt_succ_of_lt (by first | exact l1 p hp | (apply_assumption; assumption)))))
    | (exfalso; omega)) fun q hf => ?_
  simpa only using fq hf (@Eq _ 5 5)
-- LB
theorem Grown.consL {led n : Led} {D : Addr} {o : Obj} (g : Grown led n) (h : ∀ p ∈ led, @LT.lt Nat _ p.1 D) : Grown led ((D, o) :: n) := by
  obtain ⟨t, rfl, h1⟩ := g
  exact ⟨(D, o) :: t, rfl, fun q hq p hp => by
    rcases List.mem_cons.mp hq with rfl | hq
    · exact h p hp
    · exact h1 q hq p hp⟩
theorem Ex.app {d : Addr} {a b : Led} : Ex d (a ++ b) = Ex d a ++ Ex d b := List.filter_append ..
theorem Ex.id {d : Addr} {a : Led} (h : ∀ p ∈ a, p.1 ≠ d) : Ex d a = a := List.filter_eq_self.mpr fun p hp => decide_eq_true (h p hp)
theorem Grown.ex {led n : Led} {I : Addr} (g : Grown led n) (h : ∀ p ∈ led, p.1 ≠ I) : Grown led (Ex I n) := by
  obtain ⟨t, rfl, h1⟩ := g
  exact ⟨Ex I t, by rw [Ex.app, Ex.id h], fun q hq p hp => h1 q (Ex.mem.mp hq).1 p hp⟩
local macro_rules | `(tactic| k_mem) => `(tactic| (with_reducible refine Ex.mem.mpr ?_; refine ⟨?ka, ?kb⟩; (case ka => k_mem); (case kb => k_ne)))
theorem words15 : True := by
  k_with "G15" => (
    k_with "!UnrEnd" => (k_dflt (refine' unrEnd_J ?z38F ?z38N ?z38m ?_; (case z38F => k_asm); (case z38N => k_asm); (case z38m => k_mem); k_whole))
    k_with "!UnrEnd" => (k_dflt (refine' unrEnd_J ?z39F ?z39N ?z39m ⟨?z39l, ?_⟩; (case z39F => k_asm); (case z39N => k_asm); (case z39m => k_mem); (case z39l => k_mem); k_whole)))
  k_extra "G15"
  trivial
-- L3
theorem c_lhs : ∀ (w : World) (D U : Nat) (R : Nat → Value → Led → Prop) (R9 : Nat → Value → Led → Prop) (t0 : Tok) (led : Led), (∀ n1 (t : Tok), Grown led n1 → HSpec w D U 837 [.str (Str.ofString "D") t] n1 (R 0)) → (∀ i v n1 n2 I t1 t2, R i v n1 → (∀ p ∈ n1, p ∈ n2) → (∀ p ∈ n1, p.1 ≠ I) → (∃ o, (I, o) ∈ n2) → HSpec w D U 844 [.str (Str.ofString "mul") t1, v, .str (Str.ofString "X") t2] n2 (fun v n => R9 i v (Ex I n))) → (∀ v n1 n2 I (t1 t2 : Tok), R9 0 v n1 → (∀ p ∈ n1, p ∈ n2) → (∀ p ∈ n1, p.1 ≠ I) → (∃ o, (I, o) ∈ n2) → HSpec w D U 844 [.str (Str.ofString "add") t1, v, .str (Str.ofString "E") t2] n2 (fun v n => R 1 v (Ex I n))) → (∀ v n1 n2 I (t1 t2 : Tok), R9 1 v n1 → (∀ p ∈ n1, p ∈ n2) → (∀ p ∈ n1, p.1 ≠ I) → (∃ o, (I, o) ∈ n2) → HSpec w D U 844 [.str (Str.ofString "add") t1, v, .str (Str.ofString "F") t2] n2 (fun v n => R 2 v (Ex I n))) → (∀ v n1 n2 I (t1 t2 : Tok), R9 2 v n1 → (∀ p ∈ n1, p ∈ n2) → (∀ p ∈ n1, p.1 ≠ I) → (∃ o, (I, o) ∈ n2) → HSpec w D U 844 [.str (Str.ofString "add") t1, v, .str (Str.ofString "G") t2] n2 (fun v n => R 3 v (Ex I n))) → SpecPW w (D + 1) (U + 8) 858 [.str (Str.ofString "DEFG") t0] (led) (fun v n => R 3 v n) := by
  refine @dq _ (by
  unfold SpecPW
  k_fill
  k_extra "h0"
  k_extra "b1.6"
  k_extra "b2.1"
  intro b1 b2 b3 b4 b5
  k_extra "hv"
  k_with "specPW" => (refine' HSpec.use (b1 _ _ ?q589); (case q589 => repeat (first | exact Grown.refl | (refine Grown.app ?_ ?_; rotate_left; assumption) | (refine Grown.cons ?_ ?_; rotate_left; first | assumption | (refine' allLt_all ?q590; (case q590 => assumption)) | exact fun p hp => Nat.lt_succ_of_lt (by first | exact l1 p hp | (apply_assumption; assumption))))))
  k_with "specPW" => exact HSpec.use (b2 _ _ _ _ _ _ _ ‹_› (fun p hp => by first | exact (Ex.mem.mp hp).1 | k_mem) (by first | exact fun p hp => (Ex.mem.mp hp).2 | ((rename ∀ p : Addr × Obj, p ∈ _ → @LT.lt Nat _ p.1 _ => hlt9); exact fun p hp => Nat.ne_of_lt (hlt9 p hp))) ⟨_, by k_mem⟩)
  k_with "specPW" => exact HSpec.use (b3 _ _ _ _ _ _ ‹_› (fun p hp => by first | exact (Ex.mem.mp hp).1 | k_mem) (by first | exact fun p hp => (Ex.mem.mp hp).2 | ((rename ∀ p : Addr × Obj, p ∈ _ → @LT.lt Nat _ p.1 _ => hlt9); exact fun p hp => Nat.ne_of_lt (hlt9 p hp))) ⟨_, by k_mem⟩)
  k_with "specPW" => exact HSpec.use (b4 _ _ _ _ _ _ ‹_› (fun p hp => by first | exact (Ex.mem.mp hp).1 | k_mem) (by first | exact fun p hp => (Ex.mem.mp hp).2 | ((rename ∀ p : Addr × Obj, p ∈ _ → @LT.lt Nat _ p.1 _ => hlt9); exact fun p hp => Nat.ne_of_lt (hlt9 p hp))) ⟨_, by k_mem⟩)
  k_with "specPW" => exact HSpec.use (b5 _ _ _ _ _ _ ‹_› (fun p hp => by first | exact (Ex.mem.mp hp).1 | k_mem) (by first | exact fun p hp => (Ex.mem.mp hp).2 | ((rename ∀ p : Addr × Obj, p ∈ _ → @LT.lt Nat _ p.1 _ => hlt9); exact fun p hp => Nat.ne_of_lt (hlt9 p hp))) ⟨_, by k_mem⟩)
  k_with "openP" => try dsimp only
  k_steps
  all_goals first
    | ((rename ∀ p : Addr × Obj, p ∈ _ → @LT.lt Nat _ p.1 _ => hI9); exact Grown.ret (post := fun v n => y1_4 3 v n) hret ‹_› ‹_› ‹_› (by repeat (first | exact Grown.refl | (refine Grown.ex ?_ ?_; rotate_left; (exact fun p hp => Nat.ne_of_lt (by first | exact hI9 p hp | exact hI9 p (List.mem_append_right _ hp)))) | (refine Grown.app ?_ ?_; rotate_left; assumption) | (refine Grown.consL ?_ ?_; rotate_left; (exact fun p hp => by first | exact hI9 p hp | exact hI9 p (List.mem_append_right _ hp))))))) fun q hf => ?_
  simpa only using fq hf (@Eq _ 5 5)
-- L4
theorem c_lhl : ∀ (w : World) (D U : Nat) (R : Nat → Value → Led → Prop) (R9 : Nat → Value → Led → Prop) (ll p0 p1 p2 p3 : Addr) (ln : Nat) (led : Led), (ll, listOf ([.ref p0, .ref p1, .ref p2, .ref p3] : List Value).toArray ln) ∈ led → (∀ n1, Grown led n1 → HSpec w D U 837 [.ref p0] n1 (R 0)) → (∀ i v n1 n2 I t1 t2, R i v n1 → (∀ p ∈ n1, p ∈ n2) → (∀ p ∈ n1, p.1 ≠ I) → (∃ o, (I, o) ∈ n2) → HSpec w D U 844 [.str (Str.ofString "mul") t1, v, .str (Str.ofString "X") t2] n2 (fun v n => R9 i v (Ex I n))) → (∀ v n1 n2 I (t1 : Tok), R9 0 v n1 → (∀ p ∈ n1, p ∈ n2) → (∀ p ∈ n1, p.1 ≠ I) → (∃ o, (I, o) ∈ n2) → HSpec w D U 844 [.str (Str.ofString "add") t1, v, .ref p1] n2 (fun v n => R 1 v (Ex I n))) → (∀ v n1 n2 I (t1 : Tok), R9 1 v n1 → (∀ p ∈ n1, p ∈ n2) → (∀ p ∈ n1, p.1 ≠ I) → (∃ o, (I, o) ∈ n2) → HSpec w D U 844 [.str (Str.ofString "add") t1, v, .ref p2] n2 (fun v n => R 2 v (Ex I n))) → (∀ v n1 n2 I (t1 : Tok), R9 2 v n1 → (∀ p ∈ n1, p ∈ n2) → (∀ p ∈ n1, p.1 ≠ I) → (∃ o, (I, o) ∈ n2) → HSpec w D U 844 [.str (Str.ofString "add") t1, v, .ref p3] n2 (fun v n => R 3 v (Ex I n))) → SpecPW w (D + 1) (U + 8) 858 [.ref ll] (led) (fun v n => R 3 v n) := by
  refine @dq _ (by
  unfold SpecPW
  k_fill
  k_extra "h0"
  k_extra "b1.12"
  intro b1 b2 b3 b4 b5 b6
  k_extra "hv"
  k_with "len" => rfl
  k_with "item" => rfl
  k_with "specPW" => (refine' HSpec.use (b2 _ ?q591); (case q591 => repeat (first | exact Grown.refl | (refine Grown.app ?_ ?_; rotate_left; assumption) | (refine Grown.cons ?_ ?_; rotate_left; first | assumption | (refine' allLt_all ?q592; (case q592 => assumption)) | exact fun p hp => Nat.lt_succ_of_lt (by first | exact l1 p hp | (apply_assumption; assumption))))))
  k_with "specPW" => exact HSpec.use (b3 _ _ _ _ _ _ _ ‹_› (fun p hp => by first | exact (Ex.mem.mp hp).1 | k_mem) (by first | exact fun p hp => (Ex.mem.mp hp).2 | exact fun p hp => Nat.ne_of_lt (allLt_all (And.right ‹_›) p hp)) ⟨_, by k_mem⟩)
  k_with "specPW" => exact HSpec.use (b4 _ _ _ _ _ ‹_› (fun p hp => by first | exact (Ex.mem.mp hp).1 | k_mem) (by first | exact fun p hp => (Ex.mem.mp hp).2 | exact fun p hp => Nat.ne_of_lt (allLt_all (And.right ‹_›) p hp)) ⟨_, by k_mem⟩)
  k_with "specPW" => exact HSpec.use (b5 _ _ _ _ _ ‹_› (fun p hp => by first | exact (Ex.mem.mp hp).1 | k_mem) (by first | exact fun p hp => (Ex.mem.mp hp).2 | exact fun p hp => Nat.ne_of_lt (allLt_all (And.right ‹_›) p hp)) ⟨_, by k_mem⟩)
  k_with "specPW" => exact HSpec.use (b6 _ _ _ _ _ ‹_› (fun p hp => by first | exact (Ex.mem.mp hp).1 | k_mem) (by first | exact fun p hp => (Ex.mem.mp hp).2 | exact fun p hp => Nat.ne_of_lt (allLt_all (And.right ‹_›) p hp)) ⟨_, by k_mem⟩)
  k_with "openP" => try dsimp only
  k_steps
  all_goals first
    | ((rename ∀ p : Addr × Obj, p ∈ _ → @LT.lt Nat _ p.1 _ => hI9); (rename _ ∧ AllLt _ _ => hJ9); exact Grown.ret (post := fun v n => y1_4 3 v n) hret ‹_› ‹_› ‹_› (by repeat (first | exact Grown.refl | (refine Grown.ex ?_ ?_; rotate_left; (exact fun p hp => Nat.ne_of_lt (allLt_all (And.right hJ9) p (List.mem_append_right _ hp)))) | (refine Grown.app ?_ ?_; rotate_left; assumption) | (refine Grown.consL ?_ ?_; rotate_left; (exact fun p hp => by first | exact hI9 p (List.mem_append_right _ hp) | exact allLt_all (And.right hJ9) p (List.mem_append_right _ hp))))))) fun q hf => ?_
  simpa only using fq hf (@Eq _ 5 5)
-- L5
/-- what a ledger shows: all of it, or all but one place -/
structure Vw (led : Led) (g : Led → Led) : Prop where
  mono : ∀ n n' : Led, (∀ p ∈ n, p ∈ n') → ∀ p ∈ g n, p ∈ g n'
  new : ∀ (n : Led) (a : Addr) (l : List Value), (a, tp l) ∈ n → (∀ q ∈ led, @LT.lt Nat _ q.1 a) → (a, tp l) ∈ g n
  sub : ∀ (n : Led), ∀ p ∈ g n, p ∈ n
theorem Vw.all {led : Led} : Vw led (fun n => n) := ⟨fun _ _ h => h, fun _ _ _ h _ => h, fun _ _ h => h⟩
theorem Vw.ex {led : Led} {I : Addr} (h : ∃ o, (I, o) ∈ led) : Vw led (Ex I) := by
  obtain ⟨o, h⟩ := h
  exact ⟨fun n n' g p hp => Ex.mem.mpr ⟨g _ (Ex.mem.mp hp).1, (Ex.mem.mp hp).2⟩, fun n a l hp f => Ex.mem.mpr ⟨hp, Nat.ne_of_gt (f _ h)⟩, fun n p hp => (Ex.mem.mp hp).1⟩
theorem Vw.up {led n : Led} {g : Led → Led} (V : Vw led g) (h : ∀ p ∈ led, p ∈ n) : Vw n g := ⟨V.mono, fun m a l hp f => V.new m a l hp fun q hq => f q (h q hq), V.sub⟩
noncomputable def Tup (n : Led) : Led := n.filter fun p => decide (p.2.cls = .type "tuple")
theorem Tup.mem {n : Led} {p : Addr × Obj} : p ∈ Tup n ↔ p ∈ n ∧ p.2.cls = .type "tuple" := by
  unfold Tup
  rw [List.mem_filter]
  exact and_congr_right fun _ => decide_eq_true_iff
theorem Tup.app {a b : Led} : Tup (a ++ b) = Tup a ++ Tup b := List.filter_append ..
theorem Tup.tup {a : Addr} {l : List Value} {n : Led} : Tup ((a, tp l) :: n) = (a, tp l) :: Tup n := List.filter_cons_of_pos (decide_eq_true rfl)
theorem Tup.lst {a : Addr} {l : Array Value} {k : Nat} {n : Led} : Tup ((a, listOf l k) :: n) = Tup n := List.filter_cons_of_neg (by show ¬ decide (Value.type "list" = Value.type "tuple") = true; decide)
theorem Vw.tup {led : Led} : Vw led Tup := ⟨fun n n' g p hp => Tup.mem.mpr ⟨g _ (Tup.mem.mp hp).1, (Tup.mem.mp hp).2⟩, fun n a l hp _ => Tup.mem.mpr ⟨hp, rfl⟩, fun n p hp => (Tup.mem.mp hp).1⟩
def Told (m : Led) (v : Value) (T : TR) : Prop :=
  (∃ i t, i < 12 ∧ T = .var i ∧ v = .str (nmAt i) t) ∨ (∃ N p q a t1 t2, T = .num N ∧ cN N = (p, q) ∧ v = .ref a ∧ (a, tp [.int p t1, .int q t2]) ∈ m) ∨ (∃ a, v = .ref a ∧ T.Rep m a)
theorem Told.sub {m m' : Led} {v : Value} {T : TR} (h : Told m v T) (g : ∀ p ∈ m, p ∈ m') : Told m' v T := by
  rcases h with h | ⟨N, p, q, a, t1, t2, h1, h2, h3, h4⟩ | ⟨a, h1, h2⟩
  · exact .inl h
  · exact .inr (.inl ⟨N, p, q, a, t1, t2, h1, h2, h3, g _ h4⟩)
  · exact .inr (.inr ⟨a, h1, h2.sub g⟩)
def Stands (n : Led) (v : Value) (T : TR) : Prop := ∃ a, v = .ref a ∧ T.Rep n a
theorem Stands.told {n : Led} {v : Value} {T : TR} (h : Stands n v T) : Told n v T := .inr (.inr h)
theorem Stands.sub {m m' : Led} {v : Value} {T : TR} (h : Stands m v T) (g : ∀ p ∈ m, p ∈ m') : Stands m' v T := by
  obtain ⟨a, h1, h2⟩ := h
  exact ⟨a, h1, h2.sub g⟩
theorem l_real {w : World} {led : Led} {g : Led → Led} {v : Value} {T : TR} (V : Vw led g) (h : Told (g led) v T) : SpecPW w 1 8 837 [v] led (fun v' n => Stands (g n) v' T) := by
  refine @dq _ (by
  rcases h with ⟨i, t, hi, rfl, rfl⟩ | ⟨N, p, q, a, t1, t2, rfl, e, rfl, hm⟩ | ⟨a, rfl, hr⟩
  · exact (c_lrs w (nmAt i) t led).weakG (Nat.le_refl _) (Nat.le_refl _) fun v n _ h => by
      refine viaP fun PZ kZ => ?_
      obtain ⟨a, t1, t2, rfl, h1, h2⟩ := h
      refine kZ ?_; clear kZ PZ
      exact ⟨a, rfl, hi, t1, t2, t, V.new _ _ _ h1 h2⟩
  · exact (c_lrn w a p q t1 t2 led (V.sub _ _ hm)).weakG (Nat.le_refl _) (Nat.le_refl _) fun v n gr h => by
      refine viaP fun PZ kZ => ?_
      obtain ⟨b, t3, t4, rfl, h1, h2⟩ := h
      refine kZ ?_; clear kZ PZ
      refine ⟨b, rfl, t3, t4, _, V.new _ _ _ h1 h2, Dec.of e.symm ⟨a, t1, t2, rfl, .inl ?_⟩⟩
      exact V.mono _ _ gr.sub _ hm
  · have key2 : ∀ {x y : Value} {wd : Str} {t1 : Tok}, (a, tp [.str wd t1, x, y]) ∈ g led → SpecPW w 1 8 837 [.ref a] led (fun v' n => Stands (g n) v' T) := fun {x y wd t1} hm =>
      (c_lr3 w a wd x y t1 led (V.sub _ _ hm)).weakG (Nat.le_refl _) (Nat.le_refl _) fun v n gr h => ⟨a, h, hr.sub (V.mono _ _ gr.sub)⟩
    have key3 : ∀ {x y z : Value} {wd : Str} {t1 : Tok}, (a, tp [.str wd t1, x, y, z]) ∈ g led → SpecPW w 1 8 837 [.ref a] led (fun v' n => Stands (g n) v' T) := fun {x y z wd t1} hm =>
      (c_lr4 w a wd x y z t1 led (V.sub _ _ hm)).weakG (Nat.le_refl _) (Nat.le_refl _) fun v n gr h => ⟨a, h, hr.sub (V.mono _ _ gr.sub)⟩
    cases T with
    | num N =>
      refine viaP fun PZ kZ => ?_
      obtain ⟨t1, t2, x, h1, _⟩ := hr
      refine kZ ?_; clear kZ PZ
      exact key2 h1
    | var i =>
      refine viaP fun PZ kZ => ?_
      obtain ⟨_, t1, t2, t3, h1⟩ := hr
      refine kZ ?_; clear kZ PZ
      exact key2 h1
    | bin o l r =>
      refine viaP fun PZ kZ => ?_
      obtain ⟨t1, t2, b, c, h1, _, _⟩ := hr
      refine kZ ?_; clear kZ PZ
      exact key3 h1) fun q hf => ?_
  simpa only using fq hf (@Eq _ 5 5)
theorem l_op {w : World} {led : Led} {g : Led → Led} {v1 v2 : Value} {T1 T2 : TR} {o : Op} {t : Tok} (V : Vw led g) (h1 : Told (g led) v1 T1) (h2 : Told (g led) v2 T2) :
    SpecPW w 2 16 844 [.str o.word t, v1, v2] led (fun v n => Stands (g n) v (.bin o T1 T2)) := by
  refine (c_lop w 1 8 (fun v n => Grown led n ∧ Stands (g n) v T1) (fun v v' n => Grown led n ∧ Stands (g n) v T1 ∧ Stands (g n) v' T2) o.word t v1 v2 led (HSpec.of ((l_real V h1).weakG (Nat.le_refl _) (Nat.le_refl _) fun v n gr h => ⟨gr, h⟩)) (fun v n h gr => HSpec.of ((l_real (V.up gr.sub) (h2.sub (V.mono _ _ gr.sub))).weakG (Nat.le_refl _) (Nat.le_refl _) fun v' n' gr' h' => ⟨gr.trans gr', h.2.sub (V.mono _ _ gr'.sub), h'⟩))).weakG (Nat.le_refl _) (Nat.le_refl _) fun v n gr h => ?_
  refine viaP fun PZ kZ => ?_
  obtain ⟨c, t2, x1, x2, n2, rfl, rfl, ⟨gr2, ⟨a, rfl, ra⟩, ⟨b, rfl, rb⟩⟩, hf⟩ := h
  refine kZ ?_; clear kZ PZ
  have up : ∀ p ∈ g n2, p ∈ g ((c, tp [.str o.word t, .int 2 t2, .ref a, .ref b]) :: n2) := V.mono _ _ fun p hp => .tail _ hp
  exact ⟨c, rfl, t, t2, a, b, V.new _ _ _ (.head _) hf, ra.sub up, rb.sub up⟩
/-- an assignment stands in the ledger -/
def LaysA (n : Led) (c : Addr) (i : Nat) (T : TR) : Prop := ∃ y1 y2 t1 t2 t3 t4, (c, tp [.str (Str.ofString "assign") t1, .ref y1, .ref y2]) ∈ n ∧ (y1, tp [.str (Str.ofString "var") t2, .int 2 t3, .str (nmAt i) t4]) ∈ n ∧ T.Rep n y2
theorem LaysA.sub {m m' : Led} {c : Addr} {i : Nat} {T : TR} (h : LaysA m c i T) (g : ∀ p ∈ m, p ∈ m') : LaysA m' c i T := by
  refine viaP fun PZ kZ => ?_
  revert h; refine im6 ?_; intro y1 y2 t1 t2 t3 t4; rintro ⟨h2, h3, h4⟩
  refine kZ ?_; clear kZ PZ
  exact ⟨y1, y2, t1, t2, t3, t4, g _ h2, g _ h3, h4.sub g⟩
def Lays (n : Led) (v : Value) (i : Nat) (T : TR) : Prop := ∃ c, v = .ref c ∧ LaysA n c i T
theorem l_lay {w : World} {led : Led} {v : Value} {i : Nat} {T : TR} {t : Tok} (h : Told (Tup led) v T) : SpecPW w 2 16 851 [.str (nmAt i) t, v] led (fun v n => Lays (Tup n) v i T) := by
  refine (c_llay w 1 8 (fun v n => Stands (Tup n) v T) (.str (nmAt i) t) v led (fun n1 gr => HSpec.of (l_real (g := Tup) .tup (h.sub (Vw.tup (led := led).mono _ _ gr.sub))))).weakG (Nat.le_refl _) (Nat.le_refl _) fun v n gr h => ?_
  refine viaP fun PZ kZ => ?_
  obtain ⟨c, y1, t1, t2, t3, v1, n2, rfl, rfl, h1, ⟨a, rfl, ha⟩⟩ := h
  refine kZ ?_; clear kZ PZ
  exact ⟨c, rfl, y1, a, t1, t2, t3, t, Tup.mem.mpr ⟨.head _, rfl⟩, Tup.mem.mpr ⟨.tail _ h1, rfl⟩, ha.sub (by rw [Tup.tup]; exact fun p hp => .tail _ hp)⟩
/-- the head of a loop stands in the ledger -/
def DosA (n : Led) (c : Addr) (lab last : Int) : Prop := ∃ y1 y2 y3 t1 ta t2 t3 t4 t5 t6 t7 t8 t9 tb, (c, tp [.str (Str.ofString "do") t1, .int lab ta, .ref y1, .ref y2, .ref y3, .ref y2]) ∈ n ∧ (y1, tp [.str (Str.ofString "var") t2, .int 0 t3, .str (Str.ofString "K") t4]) ∈ n ∧ (y2, tp [.str (Str.ofString "const") t5, .int 0 t6, .int 1 t7]) ∈ n ∧ (y3, tp [.str (Str.ofString "const") t8, .int 0 t9, .int last tb]) ∈ n
theorem DosA.sub {m m' : Led} {c : Addr} {lab last : Int} (h : DosA m c lab last) (g : ∀ p ∈ m, p ∈ m') : DosA m' c lab last := by
  refine viaP fun PZ kZ => ?_
  revert h; refine im12 ?_; intro y1 y2 y3 t1 ta t2 t3 t4 t5 t6 t7 t8; refine im2 ?_; intro t9 tb; rintro ⟨h1, h2, h3, h4⟩
  refine kZ ?_; clear kZ PZ
  exact ⟨y1, y2, y3, t1, ta, t2, t3, t4, t5, t6, t7, t8, t9, tb, g _ h1, g _ h2, g _ h3, g _ h4⟩
theorem l_rounds {w : World} {led : Led} {lab last : Int} {ta tb : Tok} : SpecPW w 1 8 865 [.int lab ta, .int last tb] led (fun v n => ∃ c, v = .ref c ∧ DosA (Tup n) c lab last) :=
  (c_lrounds w lab last ta tb led).weak (Nat.le_refl _) (Nat.le_refl _) fun v n h => by
    refine viaP fun PZ kZ => ?_
    revert h; refine im12 ?_; intro c y1 y2 y3 t1 t2 t3 t4 t5 t6 t7 t8; rintro ⟨t9, hz8⟩; revert hz8; rintro ⟨h0, h1, h2, h3, h4⟩
    refine kZ ?_; clear kZ PZ
    exact ⟨c, h0, y1, y2, y3, t1, ta, t2, t3, t4, t5, t6, t7, t8, t9, tb, Tup.mem.mpr ⟨h1, rfl⟩, Tup.mem.mpr ⟨h2, rfl⟩, Tup.mem.mpr ⟨h3, rfl⟩, Tup.mem.mpr ⟨h4, rfl⟩⟩
noncomputable def hoT (p : Nat → TR) : Nat → TR
  | 0 => p 0
  | i + 1 => tHo (hoT p i) (p (i + 1))
theorem ex_keep {led n1 n2 : Led} {I : Addr} (h1 : ∀ p ∈ n1, p ∈ n2) (h2 : ∀ p ∈ n1, p.1 ≠ I) : ∀ p ∈ n1, p ∈ Ex I n2 := fun p hp => Ex.mem.mpr ⟨h1 p hp, h2 p hp⟩
theorem ho_mul {w : World} {led n1 n2 : Led} {I : Addr} {v : Value} {T : TR} {t1 t2 : Tok} {i : Nat} (h : (∀ p ∈ led, p ∈ n1) ∧ Stands n1 v T) (h1 : ∀ p ∈ n1, p ∈ n2) (h2 : ∀ p ∈ n1, p.1 ≠ I) (h3 : ∃ o, (I, o) ∈ n2) :
    SpecPW w 3 24 844 [.str (Str.ofString "mul") t1, v, .str (Str.ofString "X") t2] n2 (fun v n => (∀ p ∈ led, p ∈ Ex I n) ∧ Stands (Ex I n) v (.bin .mul T (.var 7))) :=
  (l_op (o := .mul) (Vw.ex h3) (h.2.told.sub (ex_keep (led := led) h1 h2)) (.inl ⟨7, t2, by decide, rfl, rfl⟩)).weakG (by lia) (by lia) fun v n gr q => ⟨fun p hp => Ex.mem.mpr ⟨gr.sub _ (h1 _ (h.1 _ hp)), h2 _ (h.1 _ hp)⟩, q⟩
theorem ho_add {w : World} {led n1 n2 : Led} {I : Addr} {v v' : Value} {T T' : TR} {t1 : Tok} {i : Nat} (h : (∀ p ∈ led, p ∈ n1) ∧ Stands n1 v T) (hv : Told led v' T') (h1 : ∀ p ∈ n1, p ∈ n2) (h2 : ∀ p ∈ n1, p.1 ≠ I) (h3 : ∃ o, (I, o) ∈ n2) :
    SpecPW w 3 24 844 [.str (Str.ofString "add") t1, v, v'] n2 (fun v n => (∀ p ∈ led, p ∈ Ex I n) ∧ Stands (Ex I n) v (.bin .add T T')) :=
  (l_op (o := .add) (Vw.ex h3) (h.2.told.sub (ex_keep (led := led) h1 h2)) (hv.sub fun p hp => ex_keep (led := led) h1 h2 p (h.1 p hp))).weakG (by lia) (by lia) fun v n gr q => ⟨fun p hp => Ex.mem.mpr ⟨gr.sub _ (h1 _ (h.1 _ hp)), h2 _ (h.1 _ hp)⟩, q⟩
theorem l_hs {w : World} {led : Led} {t : Tok} : SpecPW w 4 32 858 [.str (Str.ofString "DEFG") t] led (fun v n => Stands n v tV) := by
  refine (c_lhs w 3 24 (fun i v n => (∀ p ∈ led, p ∈ n) ∧ Stands n v (hoT .var i)) (fun i v n => (∀ p ∈ led, p ∈ n) ∧ Stands n v (.bin .mul (hoT .var i) (.var 7))) t led (fun n1 t gr => HSpec.of ((l_real (g := fun n => n) .all (.inl ⟨0, t, by decide, rfl, rfl⟩)).weakG (by lia) (by lia) fun v n gr' h => ⟨fun p hp => gr'.sub _ (gr.sub _ hp), h⟩))
    (fun i v n1 n2 I t1 t2 h h1 h2 h3 => HSpec.of (ho_mul (i := i) h h1 h2 h3)) (fun v n1 n2 I t1 t2 h h1 h2 h3 => HSpec.of (ho_add (i := 0) (T' := .var 1) h (.inl ⟨1, t2, by decide, rfl, rfl⟩) h1 h2 h3)) (fun v n1 n2 I t1 t2 h h1 h2 h3 => HSpec.of (ho_add (i := 0) (T' := .var 2) h (.inl ⟨2, t2, by decide, rfl, rfl⟩) h1 h2 h3)) (fun v n1 n2 I t1 t2 h h1 h2 h3 => HSpec.of (ho_add (i := 0) (T' := .var 3) h (.inl ⟨3, t2, by decide, rfl, rfl⟩) h1 h2 h3))).weak (leN rfl) (leN rfl) fun v n h => h.2
theorem l_hl {w : World} {led : Led} {ll p0 p1 p2 p3 : Addr} {ln : Nat} (hl : (ll, listOf ([.ref p0, .ref p1, .ref p2, .ref p3] : List Value).toArray ln) ∈ led) (h0 : (tCo 3 0).Rep led p0) (h1 : (tCo 4 1).Rep led p1) (h2 : (tCo 6 2).Rep led p2) (h3 : (tCo 12 3).Rep led p3) :
    SpecPW w 4 32 858 [.ref ll] led (fun v n => Stands n v (tHo (tHo (tHo (tCo 3 0) (tCo 4 1)) (tCo 6 2)) (tCo 12 3))) := by
  let P : Nat → TR := fun i => match i with | 0 => tCo 3 0 | 1 => tCo 4 1 | 2 => tCo 6 2 | _ => tCo 12 3
  refine (c_lhl w 3 24 (fun i v n => (∀ p ∈ led, p ∈ n) ∧ Stands n v (hoT P i)) (fun i v n => (∀ p ∈ led, p ∈ n) ∧ Stands n v (.bin .mul (hoT P i) (.var 7))) ll p0 p1 p2 p3 ln led hl (fun n1 gr => HSpec.of ((l_real (g := fun n => n) (T := tCo 3 0) .all (.inr (.inr ⟨p0, rfl, h0.sub gr.sub⟩))).weakG (by lia) (by lia) fun v n gr' h => ⟨fun p hp => gr'.sub _ (gr.sub _ hp), h⟩))
    (fun i v n1 n2 I t1 t2 h h1 h2 h3 => HSpec.of (ho_mul (i := i) h h1 h2 h3)) (fun v n1 n2 I t1 h q1 q2 q3 => HSpec.of (ho_add (i := 0) (T' := P 1) h (.inr (.inr ⟨p1, rfl, h1⟩)) q1 q2 q3)) (fun v n1 n2 I t1 h q1 q2 q3 => HSpec.of (ho_add (i := 0) (T' := P 2) h (.inr (.inr ⟨p2, rfl, h2⟩)) q1 q2 q3)) (fun v n1 n2 I t1 h q1 q2 q3 => HSpec.of (ho_add (i := 0) (T' := P 3) h (.inr (.inr ⟨p3, rfl, h3⟩)) q1 q2 q3))).weak (leN rfl) (leN rfl) fun v n h => h.2
theorem TR.Rep.tups {n : Led} : ∀ {T : TR} {a : Addr}, T.Rep n a → T.Rep (Tup n) a := by
  intro T
  induction T with
  | num N => exact fun h => h.imp fun _ h => h.imp fun _ h => h.imp fun _ h => ⟨Tup.mem.mpr ⟨h.1, rfl⟩, h.2.imp fun _ h => h.imp fun _ h => h.imp fun _ h => ⟨h.1, h.2.imp (fun h => Tup.mem.mpr ⟨h, rfl⟩) id⟩⟩
  | var i => exact fun h => ⟨h.1, h.2.imp fun _ h => h.imp fun _ h => h.imp fun _ h => Tup.mem.mpr ⟨h, rfl⟩⟩
  | bin o l r hl hr => exact fun h => h.imp fun _ h => h.imp fun _ h => h.imp fun _ h => h.imp fun _ h => ⟨Tup.mem.mpr ⟨h.1, rfl⟩, hl h.2.1, hr h.2.2⟩
theorem l_hsT {w : World} {led : Led} {t : Tok} : SpecPW w 4 32 858 [.str (Str.ofString "DEFG") t] led (fun v n => Stands (Tup n) v tV) := l_hs.weak (Nat.le_refl _) (Nat.le_refl _) fun v n h => by
  obtain ⟨a, e, h⟩ := h
  exact ⟨a, e, h.tups⟩
theorem l_hlT {w : World} {led : Led} {ll p0 p1 p2 p3 : Addr} {ln : Nat} (hl : (ll, listOf ([.ref p0, .ref p1, .ref p2, .ref p3] : List Value).toArray ln) ∈ led) (h0 : (tCo 3 0).Rep (Tup led) p0) (h1 : (tCo 4 1).Rep (Tup led) p1) (h2 : (tCo 6 2).Rep (Tup led) p2) (h3 : (tCo 12 3).Rep (Tup led) p3) :
    SpecPW w 4 32 858 [.ref ll] led (fun v n => Stands (Tup n) v (tHo (tHo (tHo (tCo 3 0) (tCo 4 1)) (tCo 6 2)) (tCo 12 3))) :=
  (l_hl hl (h0.sub fun p hp => (Tup.mem.mp hp).1) (h1.sub fun p hp => (Tup.mem.mp hp).1) (h2.sub fun p hp => (Tup.mem.mp hp).1) (h3.sub fun p hp => (Tup.mem.mp hp).1)).weak (Nat.le_refl _) (Nat.le_refl _) fun v n h => by
  obtain ⟨a, e, h⟩ := h
  exact ⟨a, e, h.tups⟩
theorem told_s {m : Led} {t : Tok} (i : Nat) {x : Str} (h : i < 12) (e : x = nmAt i) : Told m (.str x t) (.var i) := .inl ⟨i, t, h, rfl, by rw [e]⟩
theorem told_n {m : Led} {a : Addr} {n : Int} {t1 t2 : Tok} (h : (a, tp [.int n t1, .int 0 t2]) ∈ m) (h0 : n % 10 ≠ 0) : Told m (.ref a) (.num (n * 10 ^ 8)) :=
  .inr (.inl ⟨_, n, 0, a, t1, t2, rfl, by
    have e := cN_of (M := n) (E := 0) (by decide)
    rw [stripZ_done 0 (by lia) h0] at e
    exact e.symm, rfl, h⟩)
theorem told_0 {m : Led} {a : Addr} {t1 t2 : Tok} (h : (a, tp [.int 0 t1, .int 0 t2]) ∈ m) : Told m (.ref a) (.num 0) := .inr (.inl ⟨0, 0, 0, a, t1, t2, rfl, cN_zero, rfl, h⟩)
theorem told_t {m m' : Led} {a : Addr} {T : TR} (h : T.Rep m a) (g : ∀ p ∈ m, p ∈ m') : Told m' (.ref a) T := .inr (.inr ⟨a, rfl, h.sub g⟩)
theorem l_lay' {w : World} {led : Led} {v : Value} {x : Str} {T : TR} {t : Tok} (i : Nat) (e : x = nmAt i) (h : Told (Tup led) v T) : SpecPW w 2 16 851 [.str x t, v] led (fun v n => Lays (Tup n) v i T) := by subst e; exact l_lay h
theorem l_op' {w : World} {led : Led} {v1 v2 : Value} {T1 T2 : TR} {x : Str} {t : Tok} (o : Op) (e : x = o.word) (h1 : Told (Tup led) v1 T1) (h2 : Told (Tup led) v2 T2) :
    SpecPW w 2 16 844 [.str x t, v1, v2] led (fun v n => Stands (Tup n) v (.bin o T1 T2)) := by subst e; exact l_op .tup h1 h2
theorem Grown.appL {led n n2 tl : Led} (g : Grown led n) (h : ∀ q ∈ tl, ∀ p ∈ n2, @LT.lt Nat _ p.1 q.1) (hs : ∀ p ∈ led, p ∈ n2) : Grown led (tl ++ n) := by
  obtain ⟨t, rfl, h1⟩ := g
  exact ⟨tl ++ t, (List.append_assoc ..).symm, fun q hq p hp => by
    rcases List.mem_append.mp hq with hq | hq
    · exact h q hq p (hs p hp)
    · exact h1 q hq p hp⟩
theorem Upd.app {d : Addr} {o o' : Obj} {tl a b : Led} (h : ∀ p ∈ tl, p.1 ≠ d) (U : Upd d o o' a b) : Upd d o o' (tl ++ a) (tl ++ b) := by
  induction tl with
  | nil => exact U
  | cons x r ih => exact Upd.tail (h x (.head _)) (ih fun p hp => h p (.tail _ hp))
theorem Stands.out {n : Led} {v : Value} {T : TR} (h : Stands n v T) : ∃ a, v = .ref a ∧ T.Rep n a := h
theorem Lays.out {n : Led} {v : Value} {i : Nat} {T : TR} (h : Lays n v i T) : ∃ a, v = .ref a ∧ LaysA n a i T := h
def Doss (n : Led) (v : Value) (lab last : Int) : Prop := ∃ c, v = .ref c ∧ DosA n c lab last
theorem Doss.out {n : Led} {v : Value} {lab last : Int} (h : Doss n v lab last) : ∃ a, v = .ref a ∧ DosA n a lab last := h
theorem l_rounds' {w : World} {led : Led} {lab last : Int} {ta tb : Tok} : SpecPW w 1 8 865 [.int lab ta, .int last tb] led (fun v n => Doss (Tup n) v lab last) := l_rounds
end
section
theorem words0LC : True := by
  k_with_none
  trivial
theorem words16 : True := by
  k_with "G16" => (
    k_with "cl1" => (rename BAR _ => bq9; refine letI kk := _; haveI bq8 := @barS kk bq9; letI x1 := _; goW1 (k := kk) (n := by k_extra "ne") x1 rfl ?_; try clear bq9)
    k_with "cl2" => (rename BAR _ => bq9; refine letI kk := _; haveI bq8 := @barS kk bq9; letI Wq := mkW2 (k := kk) (n := by k_extra "ne"); letI x1 := _; letI x2 := _; goW2 Wq rfl x1 x2 rfl rfl ?_; try clear bq9)
    k_with "cl3" => (rename BAR _ => bq9; refine letI kk := _; haveI bq8 := @barS kk bq9; letI Wq := mkW3 (k := kk) (n := by k_extra "ne"); letI x1 := _; letI x2 := _; letI x3 := _; goW3 Wq rfl x1 x2 x3 rfl rfl rfl ?_; try clear bq9)
    k_with "cl4" => (rename BAR _ => bq9; refine letI kk := _; haveI bq8 := @barS kk bq9; letI Wq := mkW4 (k := kk) (n := by k_extra "ne"); letI x1 := _; letI x2 := _; letI x3 := _; letI x4 := _; goW4 Wq rfl x1 x2 x3 x4 rfl rfl rfl rfl ?_; try clear bq9)
    k_with "cl6" => (rename BAR _ => bq9; refine letI kk := _; haveI bq8 := @barS kk bq9; letI Wq := mkW6 (k := kk) (n := by k_extra "ne"); letI x1 := _; letI x2 := _; letI x3 := _; letI x4 := _; letI x5 := _; letI x6 := _; goW6 Wq rfl x1 x2 x3 x4 x5 x6 rfl rfl rfl rfl rfl rfl ?_; try clear bq9)
    k_with "cl8" => (rename BAR _ => bq9; refine letI kk := _; haveI bq8 := @barS kk bq9; letI Wq := mkW8 (k := kk) (n := by k_extra "ne"); letI x1 := _; letI x2 := _; letI x3 := _; letI x4 := _; letI x5 := _; letI x6 := _; letI x7 := _; letI x8 := _; goW8 Wq rfl x1 x2 x3 x4 x5 x6 x7 x8 rfl rfl rfl rfl rfl rfl rfl rfl ?_; try clear bq9)
    k_with "cl12" => (rename BAR _ => bq9; refine letI kk := _; haveI bq8 := @barS kk bq9; letI Wq := mkW12 (k := kk) (n := by k_extra "ne"); letI x1 := _; letI x2 := _; letI x3 := _; letI x4 := _; letI x5 := _; letI x6 := _; letI x7 := _; letI x8 := _; letI x9 := _; letI x10 := _; letI x11 := _; letI x12 := _; goW12 Wq rfl x1 x2 x3 x4 x5 x6 x7 x8 x9 x10 x11 x12 rfl rfl rfl rfl rfl rfl rfl rfl rfl rfl rfl rfl ?_; try clear bq9)
    k_with "bar" => (rename BAR _ => bq9; refine haveI bq8 : BAR _ := barS bq9; ?_; try clear bq9)
    k_with "bc" => skip
    k_with "rv" => ((fail_if_success (rename _ => xq; refine useBar xq ?_)); w_why)
    k_with "nc1" => with_reducible ((first | (fail_if_success (intro zb)) | refine Box.o ?_); (repeat ((fail_if_success (rename (_ : Prop) => xq; refine useBar xq ?_)); w_why)))
    k_with "nc2" => with_reducible (first | (k_extra "rv"; first | (k_extra "rv"; first | (k_extra "rv"; first | (k_extra "rv"; first | (k_extra "rv"; first | (k_extra "rv"; first | (k_extra "rv"; first | (k_extra "rv"; first | (k_extra "rv"; first | (k_extra "rv"; first | (k_extra "rv"; first | (k_extra "rv"; (k_extra "nc2"; k_extra "cl12")) | (k_extra "cl8"; k_extra "cl3")) | (k_extra "cl8"; k_extra "cl2")) | (k_extra "cl8"; k_extra "cl1")) | (k_extra "cl8")) | (k_extra "cl6"; k_extra "cl1")) | (k_extra "cl6")) | (k_extra "cl4"; k_extra "cl1")) | (k_extra "cl4")) | (k_extra "cl3")) | (k_extra "cl2")) | (k_extra "cl1")) | (skip))
    k_with "nc3" => with_reducible ((repeat (set_option tactic.hygienic false in intro)); (try k_extra "unf"); (try (refine Box.mk ?_)); k_extra "bar")
    k_with "cls" => with_reducible (try ((rename BAR _ => zq); (fail_if_success (rename PySem.W.KPfMark => zz)); k_whole; (fail_if_success (rename _ => xq; refine useBar xq ?_)); k_extra "nc1"; k_extra "nc2"; k_extra "nc3"))
    k_with "re" => (first | exact Nat.le_of_ble_eq_true rfl | exact Nat.le_of_eq (Nat.add_comm _ _) | omega)
    k_with "rm" => (first | (refine' rm0 ?q593; (case q593 => k_extra "as")) | (refine' rm1 ?q594 ?q595; (case q594 => k_extra "as"); (case q595 => k_extra "re")) | (refine' rm2 ?q596 ?q597; (case q596 => k_extra "as"); (case q597 => k_extra "re")) | (refine' rm3 ?q598 ?q599; (case q598 => k_extra "as"); (case q599 => k_extra "re")) | exact Nat.le_of_ble_eq_true rfl)
    k_with "m:ktr_room" => k_extra "rm"
    k_with "m:ktr_units" => k_extra "rm"
    k_with "m:k_ne" => (refine neN ?_; (try dsimp only); first | (with_reducible k_extra "n") | k_extra "n" | omega)
    k_with "ne" => (repeat' first | (with_reducible refine neP ?_ ?_) | infer_instance | exact neW | exact nePar | exact neA | exact neS | exact neH | exact neRV | exact neUV | exact neFV | exact nePD | exact neFRec | exact neFY | exact neStc | exact neRowD | exact neIn | exact neSt)
    k_with "fold" => ((fail_if_success (with_reducible rename PySem.W.KPfMark => zz)); k_whole; k_extra "cls"; with_reducible (refine letI qk := _; letI ek := _; (?_ : wpAny _ _ _ qk ek _)); with_reducible k_extra "bar")
    k_with "as" => (with_reducible assumption)
    k_with "od" => ((fail_if_success (fail_if_success (decide +kernel))); kernel_rfl)
    k_with "n" => first | (refine' Nat.ne_of_gt ?q600; (case q600 => assumption)) | (refine' Nat.ne_of_lt ?q601; (case q601 => assumption)) | (refine' gt1 ?q602; (case q602 => assumption)) | (refine' gt2 ?q603; (case q603 => assumption)) | (refine' lt2' ?q604; (case q604 => assumption)) | (refine' gt3 ?q605; (case q605 => assumption)) | (refine' lt3' ?q606; (case q606 => assumption)) | (refine' gt4 ?q607; (case q607 => assumption)) | (refine' lt4' ?q608; (case q608 => assumption)) | (refine' gt5 ?q609; (case q609 => assumption)) | (refine' lt5' ?q610; (case q610 => assumption)) | (refine' gt6 ?q611; (case q611 => assumption)) | (refine' lt6' ?q612; (case q612 => assumption)) | (refine' gt7 ?q613; (case q613 => assumption)) | (refine' lt7' ?q614; (case q614 => assumption)) | (refine' gt8 ?q615; (case q615 => assumption)) | (refine' lt8' ?q616; (case q616 => assumption)) | (refine' Nat.ne_of_lt (And.left ?q617); (case q617 => assumption))
    k_with "m:omega" => first | (k_whole; first | (with_reducible assumption) | ((fail_if_success (fail_if_success (decide +kernel))); (fail_if_success (fail_if_success (omega (config := {})))); (decide +kernel)) | ((refine' oF ?q618 ?_; (case q618 => k_extra "as")); k_extra "od") | ((refine' oE ?q619 ?_; (case q619 => k_extra "as")); k_extra "od") | ((refine' oG ?q620 ?_; (case q620 => k_extra "as")); k_extra "od") | ((refine' oH ?q621 ?_; (case q621 => k_extra "as")); k_extra "od") | ((refine' oI ?q622 ?_; (case q622 => k_extra "as")); k_extra "od") | ((refine' oJ ?q623 ?_; (case q623 => k_extra "as")); k_extra "od") | (with_reducible (refine neN ?_; k_extra "n"))) | k_extra "oc" | ((try (with_reducible rename (_ < PySem.recursionLimit) => zd; clear zd)); (try (with_reducible rename (_ < PySem.cLine) => zd; clear zd)); omega (config := {})) | omega (config := {})
    k_with "m:decide" => ((fail_if_success (fail_if_success (decide (config := {})))); first | (refine of_decide_eq_true ?_; exact Eq.refl true) | decide (config := {}))
    k_with "rl" => (rotate_left; (first | (rename (_ : Prop) => xz; (fail_if_success (refine useBar xz ?_)); exact xz) | assumption); intro h; clear h)
    k_with "en" => k_dflt (refine' code_def ?z1k1 ?z1k2 ?z1k3 ?z1k4 ?z1k5 ?z1kA ?z1kF ?z1kK ?z1k6 ?z1k7 ?z1k8 ?z1k9 ?z1kB ?_ ?z1c2 ?z1c3 ?z1c4 ?z1c5; (case z1kA => exact rfl); (case z1kF => exact rfl); (case z1kK => assumption); (case z1k1 => k_asm); (case z1k2 => k_asm); (case z1k3 => k_asm); (case z1k4 => k_asm); (case z1k5 => k_asm); (case z1k6 => k_is); (case z1k7 => k_is); (case z1k8 => ktr_room); (case z1k9 => exact BindsTo.of_eq rfl); (case z1c5 => decide); (case z1kB => exact locs rfl); (case z1c2 => exact rfl); (case z1c3 => exact rfl); (case z1c4 => exact rfl); k_whole; intro g' L' h' FG' F' N' B' X' T'; (try k_fold))
    k_with "!callWith" => (k_here; (first | (with_reducible refine' callWith_method1 ?_ ?z2he ?z2hp) | (with_reducible refine' callWith_builtin1 ?_ ?z2he ?z2hp)); (case z2he => k_dflt (exact rfl)); (case z2hp => k_dflt (exact rfl)))
    k_with "!newList" => (k_here; k_dflt (refine' newList_K ?z3k1 ?z3k2 ?_ ?z3z; (case z3k1 => k_asm); (case z3k2 => k_asm); (case z3z => exact Nat.le_of_ble_eq_true rfl); k_whole); intro l' h' F' N' l1; (try k_lt l1); (try k_sweep))
    k_with "!subscriptTail Name Constant ref int" => k_extra "!subscriptTail Name"
    k_with "!subscriptTail Name Name ref int" => k_extra "!subscriptTail Name"
    k_with "m:k_in" => first | with_reducible assumption | (refine' Frag.In.keeps ?q624 (Fr.keep ?q625); (case q624 => with_reducible assumption); (case q625 => with_reducible assumption)) | (refine' Frag.In.keeps ?q626 (Fr.keep ?q627); (case q626 => k_asm); (case q627 => k_asm))
    k_with "unf" => ((fail_if_success (fail_if_success k_unfold)); first | with_reducible (refine (?_ : wpAny _ _ _ _ _ _)) | k_unfold)
    k_with "!spliced" => first | (k_dflt (refine args_cons ?_)) | (k_dflt (refine args_nil ?_); (try simp only [List.cons_append, List.nil_append]))
    k_with "ite" => (k_closed; k_dflt (first | (refine' ite_pos ?z4i ?_; (case z4i => decide)) | (refine' ite_neg ?z4j ?_; (case z4j => decide))))
    k_with "!eval Name" => (k_here; k_dflt (refine' nameX_K ?z5F ?z5X ?z5T ?z5e ?_ ?z5a ?z5b; (case z5F => k_asm); (case z5X => k_asm); (case z5T => k_asm); (case z5a => rfl); (case z5b => rfl); (case z5e => k_is); k_whole))
    k_with "!eval Call" => (k_here; (with_reducible show wpAny _ _ (eval (Expr.Call (Expr.Name _ _) (_ :: _) _ _) _) _ _ _); k_dflt (refine' callA ?z6hk ?z6X ?z6T ?z6i ?z6F ?z6e ?z6f ?z6d ?z6kp ?z6q ?_; (case z6i => rfl); (case z6f => rfl); (case z6hk => rfl); (case z6F => k_asm); (case z6q => rfl); (case z6d => rfl); (case z6X => k_asm); (case z6T => k_asm); (case z6e => k_is); (case z6kp => k_is); k_whole))
    k_with "!execs cons" => (k_here; (with_reducible refine wpAny_execs_cons ?_); try dsimp only)
    k_with "!execs nil" => (k_here; with_reducible refine wpAny_execs_nil ?_)
    k_with "!spliced" => (k_here; (with_reducible show wpAny _ _ (spliced (backTo _ (starEach (_ :: _) _))) _ _ _); k_dflt (refine' argsB ?z7hk ?z7i ?z7F ?z7q ?_; (case z7i => rfl); (case z7hk => rfl); (case z7F => k_asm); (case z7q => rfl); k_whole; (try dsimp only [List.cons_append, List.nil_append])))
    k_with "!eval Subscript" => (k_here; (with_reducible show wpAny _ _ (eval (Expr.Subscript (Expr.Name _ _) (Expr.Constant (Const.int _) _ _) _) _) _ _ _); k_dflt (refine' subNI ?z8hk ?z8F ?z8e ?z8x ?z8d ?_; (case z8hk => rfl); (case z8F => k_asm); (case z8x => rfl); (case z8d => rfl); (case z8e => rfl); k_whole))
    k_with "!eval Name" => (k_here; k_dflt (refine' nameA ?z9hk ?z9F ?z9e ?z9x ?z9d ?_; (case z9x => rfl); (case z9hk => rfl); (case z9F => k_asm); (case z9d => rfl); (case z9e => rfl); k_whole))
    k_with "rva" => ((repeat revert ‹_›); refine haveI b8 : BAR 0 := bar0; ?_)
    k_with "m:k_fold" => ((with_reducible rename BAR _ => zq); k_extra "fold")
    k_with "m:k_steps" => repeat' (first | (k_extra "unf"; (try dsimp only)) | (k_end; wrow_close) | (walk1; all_goals k_extra "cls") | (dsimp only; walk1; all_goals k_extra "cls") | (leave1; (try dsimp only); all_goals k_extra "cls") | fail "no step")
    k_with "b1.2" => (with_reducible (rename BAR _ => bq9; refine letI kk := _; haveI bq8 := @barS kk bq9; letI Wq := mkW2 (k := kk) (n := by k_extra "ne"); letI y1_1 := _; letI y1_2 := _; goW2 Wq rfl y1_1 y1_2 rfl rfl ?_; try clear bq9))
    k_with "b1.3" => (with_reducible (rename BAR _ => bq9; refine letI kk := _; haveI bq8 := @barS kk bq9; letI Wq := mkW3 (k := kk) (n := by k_extra "ne"); letI y1_1 := _; letI y1_2 := _; letI y1_3 := _; goW3 Wq rfl y1_1 y1_2 y1_3 rfl rfl rfl ?_; try clear bq9))
    k_with "b1.4" => (with_reducible (rename BAR _ => bq9; refine letI kk := _; haveI bq8 := @barS kk bq9; letI Wq := mkW4 (k := kk) (n := by k_extra "ne"); letI y1_1 := _; letI y1_2 := _; letI y1_3 := _; letI y1_4 := _; goW4 Wq rfl y1_1 y1_2 y1_3 y1_4 rfl rfl rfl rfl ?_; try clear bq9))
    k_with "b1.6" => (with_reducible (rename BAR _ => bq9; refine letI kk := _; haveI bq8 := @barS kk bq9; letI Wq := mkW6 (k := kk) (n := by k_extra "ne"); letI y1_1 := _; letI y1_2 := _; letI y1_3 := _; letI y1_4 := _; letI y1_5 := _; letI y1_6 := _; goW6 Wq rfl y1_1 y1_2 y1_3 y1_4 y1_5 y1_6 rfl rfl rfl rfl rfl rfl ?_; try clear bq9))
    k_with "b1.8" => (with_reducible (rename BAR _ => bq9; refine letI kk := _; haveI bq8 := @barS kk bq9; letI Wq := mkW8 (k := kk) (n := by k_extra "ne"); letI y1_1 := _; letI y1_2 := _; letI y1_3 := _; letI y1_4 := _; letI y1_5 := _; letI y1_6 := _; letI y1_7 := _; letI y1_8 := _; goW8 Wq rfl y1_1 y1_2 y1_3 y1_4 y1_5 y1_6 y1_7 y1_8 rfl rfl rfl rfl rfl rfl rfl rfl ?_; try clear bq9))
    k_with "b1.12" => (with_reducible (rename BAR _ => bq9; refine letI kk := _; haveI bq8 := @barS kk bq9; letI Wq := mkW12 (k := kk) (n := by k_extra "ne"); letI y1_1 := _; letI y1_2 := _; letI y1_3 := _; letI y1_4 := _; letI y1_5 := _; letI y1_6 := _; letI y1_7 := _; letI y1_8 := _; letI y1_9 := _; letI y1_10 := _; letI y1_11 := _; letI y1_12 := _; goW12 Wq rfl y1_1 y1_2 y1_3 y1_4 y1_5 y1_6 y1_7 y1_8 y1_9 y1_10 y1_11 y1_12 rfl rfl rfl rfl rfl rfl rfl rfl rfl rfl rfl rfl ?_; try clear bq9))
    k_with "b2.1" => (with_reducible (rename BAR _ => bq9; refine letI kk := _; haveI bq8 := @barS kk bq9; letI y2_1 := _; goW1 (k := kk) (n := by k_extra "ne") y2_1 rfl ?_; try clear bq9))
    k_with "b2.2" => (with_reducible (rename BAR _ => bq9; refine letI kk := _; haveI bq8 := @barS kk bq9; letI Wq := mkW2 (k := kk) (n := by k_extra "ne"); letI y2_1 := _; letI y2_2 := _; goW2 Wq rfl y2_1 y2_2 rfl rfl ?_; try clear bq9))
    k_with "b2.3" => (with_reducible (rename BAR _ => bq9; refine letI kk := _; haveI bq8 := @barS kk bq9; letI Wq := mkW3 (k := kk) (n := by k_extra "ne"); letI y2_1 := _; letI y2_2 := _; letI y2_3 := _; goW3 Wq rfl y2_1 y2_2 y2_3 rfl rfl rfl ?_; try clear bq9))
    k_with "b2.4" => (with_reducible (rename BAR _ => bq9; refine letI kk := _; haveI bq8 := @barS kk bq9; letI Wq := mkW4 (k := kk) (n := by k_extra "ne"); letI y2_1 := _; letI y2_2 := _; letI y2_3 := _; letI y2_4 := _; goW4 Wq rfl y2_1 y2_2 y2_3 y2_4 rfl rfl rfl rfl ?_; try clear bq9))
    k_with "b2.6" => (with_reducible (rename BAR _ => bq9; refine letI kk := _; haveI bq8 := @barS kk bq9; letI Wq := mkW6 (k := kk) (n := by k_extra "ne"); letI y2_1 := _; letI y2_2 := _; letI y2_3 := _; letI y2_4 := _; letI y2_5 := _; letI y2_6 := _; goW6 Wq rfl y2_1 y2_2 y2_3 y2_4 y2_5 y2_6 rfl rfl rfl rfl rfl rfl ?_; try clear bq9))
    k_with "b2.8" => (with_reducible (rename BAR _ => bq9; refine letI kk := _; haveI bq8 := @barS kk bq9; letI Wq := mkW8 (k := kk) (n := by k_extra "ne"); letI y2_1 := _; letI y2_2 := _; letI y2_3 := _; letI y2_4 := _; letI y2_5 := _; letI y2_6 := _; letI y2_7 := _; letI y2_8 := _; goW8 Wq rfl y2_1 y2_2 y2_3 y2_4 y2_5 y2_6 y2_7 y2_8 rfl rfl rfl rfl rfl rfl rfl rfl ?_; try clear bq9))
    k_with "b2.12" => (with_reducible (rename BAR _ => bq9; refine letI kk := _; haveI bq8 := @barS kk bq9; letI Wq := mkW12 (k := kk) (n := by k_extra "ne"); letI y2_1 := _; letI y2_2 := _; letI y2_3 := _; letI y2_4 := _; letI y2_5 := _; letI y2_6 := _; letI y2_7 := _; letI y2_8 := _; letI y2_9 := _; letI y2_10 := _; letI y2_11 := _; letI y2_12 := _; goW12 Wq rfl y2_1 y2_2 y2_3 y2_4 y2_5 y2_6 y2_7 y2_8 y2_9 y2_10 y2_11 y2_12 rfl rfl rfl rfl rfl rfl rfl rfl rfl rfl rfl rfl ?_; try clear bq9))
    k_with "b3.1" => (with_reducible (rename BAR _ => bq9; refine letI kk := _; haveI bq8 := @barS kk bq9; letI y3_1 := _; goW1 (k := kk) (n := by k_extra "ne") y3_1 rfl ?_; try clear bq9))
    k_with "b3.2" => (with_reducible (rename BAR _ => bq9; refine letI kk := _; haveI bq8 := @barS kk bq9; letI Wq := mkW2 (k := kk) (n := by k_extra "ne"); letI y3_1 := _; letI y3_2 := _; goW2 Wq rfl y3_1 y3_2 rfl rfl ?_; try clear bq9))
    k_with "b3.6" => (with_reducible (rename BAR _ => bq9; refine letI kk := _; haveI bq8 := @barS kk bq9; letI Wq := mkW6 (k := kk) (n := by k_extra "ne"); letI y3_1 := _; letI y3_2 := _; letI y3_3 := _; letI y3_4 := _; letI y3_5 := _; letI y3_6 := _; goW6 Wq rfl y3_1 y3_2 y3_3 y3_4 y3_5 y3_6 rfl rfl rfl rfl rfl rfl ?_; try clear bq9))
    k_with "b3.8" => (with_reducible (rename BAR _ => bq9; refine letI kk := _; haveI bq8 := @barS kk bq9; letI Wq := mkW8 (k := kk) (n := by k_extra "ne"); letI y3_1 := _; letI y3_2 := _; letI y3_3 := _; letI y3_4 := _; letI y3_5 := _; letI y3_6 := _; letI y3_7 := _; letI y3_8 := _; goW8 Wq rfl y3_1 y3_2 y3_3 y3_4 y3_5 y3_6 y3_7 y3_8 rfl rfl rfl rfl rfl rfl rfl rfl ?_; try clear bq9))
    k_with "b3.12" => (with_reducible (rename BAR _ => bq9; refine letI kk := _; haveI bq8 := @barS kk bq9; letI Wq := mkW12 (k := kk) (n := by k_extra "ne"); letI y3_1 := _; letI y3_2 := _; letI y3_3 := _; letI y3_4 := _; letI y3_5 := _; letI y3_6 := _; letI y3_7 := _; letI y3_8 := _; letI y3_9 := _; letI y3_10 := _; letI y3_11 := _; letI y3_12 := _; goW12 Wq rfl y3_1 y3_2 y3_3 y3_4 y3_5 y3_6 y3_7 y3_8 y3_9 y3_10 y3_11 y3_12 rfl rfl rfl rfl rfl rfl rfl rfl rfl rfl rfl rfl ?_; try clear bq9))
    k_with "b4.1" => (with_reducible (rename BAR _ => bq9; refine letI kk := _; haveI bq8 := @barS kk bq9; letI y4_1 := _; goW1 (k := kk) (n := by k_extra "ne") y4_1 rfl ?_; try clear bq9))
    k_with "b4.2" => (with_reducible (rename BAR _ => bq9; refine letI kk := _; haveI bq8 := @barS kk bq9; letI Wq := mkW2 (k := kk) (n := by k_extra "ne"); letI y4_1 := _; letI y4_2 := _; goW2 Wq rfl y4_1 y4_2 rfl rfl ?_; try clear bq9))
    k_with "b4.12" => (with_reducible (rename BAR _ => bq9; refine letI kk := _; haveI bq8 := @barS kk bq9; letI Wq := mkW12 (k := kk) (n := by k_extra "ne"); letI y4_1 := _; letI y4_2 := _; letI y4_3 := _; letI y4_4 := _; letI y4_5 := _; letI y4_6 := _; letI y4_7 := _; letI y4_8 := _; letI y4_9 := _; letI y4_10 := _; letI y4_11 := _; letI y4_12 := _; goW12 Wq rfl y4_1 y4_2 y4_3 y4_4 y4_5 y4_6 y4_7 y4_8 y4_9 y4_10 y4_11 y4_12 rfl rfl rfl rfl rfl rfl rfl rfl rfl rfl rfl rfl ?_; try clear bq9))
    k_with "b5.12" => (with_reducible (rename BAR _ => bq9; refine letI kk := _; haveI bq8 := @barS kk bq9; letI Wq := mkW12 (k := kk) (n := by k_extra "ne"); letI y5_1 := _; letI y5_2 := _; letI y5_3 := _; letI y5_4 := _; letI y5_5 := _; letI y5_6 := _; letI y5_7 := _; letI y5_8 := _; letI y5_9 := _; letI y5_10 := _; letI y5_11 := _; letI y5_12 := _; goW12 Wq rfl y5_1 y5_2 y5_3 y5_4 y5_5 y5_6 y5_7 y5_8 y5_9 y5_10 y5_11 y5_12 rfl rfl rfl rfl rfl rfl rfl rfl rfl rfl rfl rfl ?_; try clear bq9))
    k_with "b6.6" => (with_reducible (rename BAR _ => bq9; refine letI kk := _; haveI bq8 := @barS kk bq9; letI Wq := mkW6 (k := kk) (n := by k_extra "ne"); letI y6_1 := _; letI y6_2 := _; letI y6_3 := _; letI y6_4 := _; letI y6_5 := _; letI y6_6 := _; goW6 Wq rfl y6_1 y6_2 y6_3 y6_4 y6_5 y6_6 rfl rfl rfl rfl rfl rfl ?_; try clear bq9))
    k_with "b7.1" => (with_reducible (rename BAR _ => bq9; refine letI kk := _; haveI bq8 := @barS kk bq9; letI y7_1 := _; goW1 (k := kk) (n := by k_extra "ne") y7_1 rfl ?_; try clear bq9))
    k_with "hd" => (with_reducible (rename BAR _ => bq9; refine letI kk := _; haveI bq8 := @barS kk bq9; letI Wq := mkW22 (k := kk) (n := by k_extra "ne"); letI p := _; letI loose := _; letI mean := _; letI mg := _; letI mb := _; letI dp := _; letI un := _; letI gd := _; letI cn := _; letI cs := _; letI a := _; letI ccd := _; letI cl := _; letI outer := _; letI A₀ := _; letI base := _; letI h₀ := _; letI L := _; letI mm := _; letI s := _; letI Q := _; letI E := _; goW22 Wq rfl p loose mean mg mb dp un gd cn cs a ccd cl outer A₀ base h₀ L mm s Q E rfl rfl rfl rfl rfl rfl rfl rfl rfl rfl rfl rfl rfl rfl rfl rfl rfl rfl rfl rfl rfl rfl ?_; try clear bq9))
    k_with "hdw" => (with_reducible (rename BAR _ => bq9; refine letI kk := _; haveI bq8 := @barS kk bq9; letI Wq := mkW23 (k := kk) (n := by k_extra "ne"); letI w := _; letI p := _; letI loose := _; letI mean := _; letI mg := _; letI mb := _; letI dp := _; letI un := _; letI gd := _; letI cn := _; letI cs := _; letI a := _; letI ccd := _; letI cl := _; letI outer := _; letI A₀ := _; letI base := _; letI h₀ := _; letI L := _; letI mm := _; letI s := _; letI Q := _; letI E := _; goW23 Wq rfl w p loose mean mg mb dp un gd cn cs a ccd cl outer A₀ base h₀ L mm s Q E rfl rfl rfl rfl rfl rfl rfl rfl rfl rfl rfl rfl rfl rfl rfl rfl rfl rfl rfl rfl rfl rfl rfl ?_; try clear bq9))
    k_with "hw" => (k_extra "hdw"; intro B F X N T hk hd hu hret; (with_reducible k_extra "bar"); refine wpAny_call ?_; k_extra "en")
    k_with "hv" => (k_extra "hd"; intro B F X N T hk hd hu hret; (with_reducible k_extra "bar"); refine wpAny_call ?_; k_extra "en")
    k_with "h0" => refine haveI b8 : BAR 0 := bar0; ?_)
  k_extra "G16"
  trivial
-- LC
theorem nm0 : Str.ofString "D" = nmAt 0 := rfl
theorem toldD {m : Led} {t : Tok} : Told m (.str (Str.ofString "D") t) (.var 0) := told_s 0 (by decide) rfl
theorem nm1 : Str.ofString "E" = nmAt 1 := rfl
theorem toldE {m : Led} {t : Tok} : Told m (.str (Str.ofString "E") t) (.var 1) := told_s 1 (by decide) rfl
theorem nm2 : Str.ofString "F" = nmAt 2 := rfl
theorem toldF {m : Led} {t : Tok} : Told m (.str (Str.ofString "F") t) (.var 2) := told_s 2 (by decide) rfl
theorem nm3 : Str.ofString "G" = nmAt 3 := rfl
theorem toldG {m : Led} {t : Tok} : Told m (.str (Str.ofString "G") t) (.var 3) := told_s 3 (by decide) rfl
theorem nm4 : Str.ofString "A" = nmAt 4 := rfl
theorem toldA {m : Led} {t : Tok} : Told m (.str (Str.ofString "A") t) (.var 4) := told_s 4 (by decide) rfl
theorem nm5 : Str.ofString "B" = nmAt 5 := rfl
theorem toldB {m : Led} {t : Tok} : Told m (.str (Str.ofString "B") t) (.var 5) := told_s 5 (by decide) rfl
theorem nm6 : Str.ofString "H" = nmAt 6 := rfl
theorem toldH {m : Led} {t : Tok} : Told m (.str (Str.ofString "H") t) (.var 6) := told_s 6 (by decide) rfl
theorem nm7 : Str.ofString "X" = nmAt 7 := rfl
theorem toldX {m : Led} {t : Tok} : Told m (.str (Str.ofString "X") t) (.var 7) := told_s 7 (by decide) rfl
theorem nm8 : Str.ofString "S" = nmAt 8 := rfl
theorem toldS {m : Led} {t : Tok} : Told m (.str (Str.ofString "S") t) (.var 8) := told_s 8 (by decide) rfl
theorem nm9 : Str.ofString "V" = nmAt 9 := rfl
theorem toldV {m : Led} {t : Tok} : Told m (.str (Str.ofString "V") t) (.var 9) := told_s 9 (by decide) rfl
theorem nm10 : Str.ofString "T" = nmAt 10 := rfl
theorem toldT {m : Led} {t : Tok} : Told m (.str (Str.ofString "T") t) (.var 10) := told_s 10 (by decide) rfl
theorem nm11 : Str.ofString "R" = nmAt 11 := rfl
theorem toldR {m : Led} {t : Tok} : Told m (.str (Str.ofString "R") t) (.var 11) := told_s 11 (by decide) rfl
theorem ow_add : Str.ofString "add" = Op.word .add := rfl
theorem ow_sub : Str.ofString "sub" = Op.word .sub := rfl
theorem ow_mul : Str.ofString "mul" = Op.word .mul := rfl
theorem ow_div : Str.ofString "div" = Op.word .div := rfl
structure Collapsed (d : Addr) (n : Led) (X : Led) : Prop where
  keep : ∀ p ∈ n, p.1 ≠ d → p ∈ X
  tup : ∀ p ∈ n, p.2.cls = .type "tuple" → p ∈ X
theorem Collapsed.tups {d : Addr} {n X : Led} (h : Collapsed d n X) : ∀ p ∈ Tup n, p ∈ Tup X := fun p hp => Tup.mem.mpr ⟨h.tup p (Tup.mem.mp hp).1 (Tup.mem.mp hp).2, (Tup.mem.mp hp).2⟩
theorem collapse {G : Prop} {h₀ h : Heap} {L d : Addr} {n : Led} {its : Array Value} {k : Nat} (N : News h₀ L h n) (hm : (d, listOf its (k + 1)) ∈ n) (g : ∀ X, Collapsed d n X → (∀ p ∈ X, p.1 ≠ d) → News h₀ L h ((d, listOf its (k + 1)) :: X) → G) : G :=
  g (Ex d n) ⟨fun p hp hn => Ex.mem.mpr ⟨hp, hn⟩, fun p hp hc => Ex.mem.mpr ⟨hp, fun e => by
    have e2 : p.2 = listOf its (k + 1) := fn_news N p hp _ hm e
    rw [e2] at hc
    exact absurd hc (by show Value.type "list" ≠ _; decide)⟩⟩ (fun p hp => (Ex.mem.mp hp).2) fun p hp => by
    rcases List.mem_cons.mp hp with rfl | hp
    · exact N _ hm
    · exact N p (Ex.mem.mp hp).1
theorem TR.Rep.subR {led led' : Led} {T : TR} {tr : Addr} (h : T.Rep led tr) (g : ∀ p ∈ led, p ∈ led') : T.Rep led' tr := h.sub g
theorem app_ne {tl n2 : Led} {d : Addr} {o : Obj} (h : ∀ q ∈ tl, ∀ p ∈ n2, @LT.lt Nat _ p.1 q.1) (hm : (d, o) ∈ n2) : ∀ p ∈ tl, p.1 ≠ d := fun q hq => Nat.ne_of_gt (h q hq _ hm)
theorem cons_ne {n2 : Led} {D d : Addr} {o : Obj} (h : ∀ p ∈ n2, @LT.lt Nat _ p.1 D) (hm : (d, o) ∈ n2) : D ≠ d := Nat.ne_of_gt (h _ hm)
theorem cons_ne2 {n2 : Led} {D d : Addr} {o : Obj} (h : AllLt D n2) (hm : (d, o) ∈ n2) : D ≠ d := Nat.ne_of_gt (allLt_all h _ hm)
theorem head_ne {d : Addr} : ∀ {r : Led}, AllLt d r → ∀ p ∈ r, p.1 ≠ d := fun h p hp => Nat.ne_of_lt (allLt_all h p hp)
theorem head_ne2 {d : Addr} {r : Led} (h : ∀ p ∈ r, @LT.lt Nat _ p.1 d) : ∀ p ∈ r, p.1 ≠ d := fun p hp => Nat.ne_of_lt (h p hp)
theorem UpdF.app {d : Addr} {o : Obj} {tl a : Led} {g : Obj → Led} (h : ∀ p ∈ tl, p.1 ≠ d) (U : UpdF d o a g) : UpdF d o (tl ++ a) (fun o' => tl ++ g o') := by
  induction tl with
  | nil => exact U
  | cons x r ih => exact UpdF.tail (h x (.head _)) (ih fun p hp => h p (.tail _ hp))
theorem words17 : True := by
  k_with "G17" => (
    k_with "!call ref" => ((with_reducible show wpAny _ _ (call (Value.ref _) _) _ _ _); k_here; k_dflt (refine' specPW_use ?z40kC ?z40k1 ?z40k2 ?z40k3 ?z40k4 ?z40k5 ?z40kK ?z40kd ?z40ku ?_; (case z40k4 => k_asm); (case z40kC => k_extra "specPW"); (case z40k1 => k_asm); (case z40k2 => k_asm); (case z40k3 => k_asm); (case z40k5 => k_asm); (case z40kK => first | exact rfl | assumption); (case z40kd => ktr_room); (case z40ku => ktr_units)); intro v9 tl9 h9 tk9 F9 N9 l9 hp9; (first | (obtain ⟨a9, u9, z9, e9, hp9⟩ := hp9; subst e9) | k_extra "openP" | subst hp9 | skip); (try k_sweep); (try k_fold))
    k_with "m:k_mem" => ((repeat (first | (with_reducible assumption) | (with_reducible exact List.mem_cons_self) | (with_reducible refine List.mem_cons_of_mem _ ?_) | (with_reducible refine List.mem_append_right _ ?_))); done)
    k_with "m:k_upd" => (refine' Upd.head ?z41a; (case z41a => first | (refine' head_ne ?q628; (case q628 => assumption)) | (refine' head_ne2 ?q629; (case q629 => assumption))))
    k_with "m:k_updF" => (refine' UpdF.head ?z42a; (case z42a => first | (refine' head_ne ?q630; (case q630 => assumption)) | (refine' head_ne2 ?q631; (case q631 => assumption))))
    k_with "m:tn" => first | k_ne | (refine' cons_ne ?q632 ?q633; (case q632 => assumption); (case q633 => k_mem)) | (refine' cons_ne2 ?q634 ?q635; (case q634 => assumption); (case q635 => k_mem)) | (refine' cons_ne2 (And.right ?q636) ?q637; (case q636 => assumption); (case q637 => k_mem)) | (refine' cons_ne2 (And.right (And.right ?q638)) ?q639; (case q638 => assumption); (case q639 => k_mem)) | (refine' cons_ne2 (And.right (And.right (And.right ?q640))) ?q641; (case q640 => assumption); (case q641 => k_mem)) | (refine' cons_ne2 (And.right (And.right (And.right (And.right ?q642)))) ?q643; (case q642 => assumption); (case q643 => k_mem)) | (refine' cons_ne2 (And.right (And.right (And.right (And.right (And.right ?q644))))) ?q645; (case q644 => assumption); (case q645 => k_mem))
    k_with "m:k_upd" => (refine' Upd.tail ?z43a ?z43b; (case z43a => k_extra "m:tn"); (case z43b => k_upd))
    k_with "m:k_updF" => (refine' UpdF.tail ?z44a ?z44b; (case z44a => k_extra "m:tn"); (case z44b => k_updF))
    k_with "m:k_upd" => (refine' Upd.app ?z45a ?z45b; (case z45a => (refine' app_ne ?q646 ?q647; (case q646 => assumption); (case q647 => k_mem))); (case z45b => k_upd))
    k_with "m:k_updF" => (refine' UpdF.app ?z46a ?z46b; (case z46a => (refine' app_ne ?q648 ?q649; (case q648 => assumption); (case q649 => k_mem))); (case z46b => k_updF))
    k_with "!call builtin:list.extend" => (k_here; (with_reducible show wpAny _ _ (call (Value.builtin _) [Value.ref _, Value.ref _]) _ _ _); k_dflt (refine' kl_extend ?z47F ?z47N ?z47b ?z47e ?z47ne ?z47U ?z47d ?z47z ?z47y ?_; (case z47F => k_asm); (case z47N => k_asm); (case z47b => k_mem); (case z47U => k_upd); (case z47e => kl_lit); (case z47ne => kl_some); (case z47d => kl_no); (case z47z => kl_room); (case z47y => kl_room)); intro h' F' N'; (try k_sweep)))
  k_extra "G17"
  trivial
-- LD
/-- a display of more than fifteen pairs: pair by pair -/
def LongE (prog : Program) (w : World) (A : Around) (E : Value → Shared → Prop) (d : Addr) (Q : Shared → Prop) (env : Env) : List (Option PySem.Expr) → List PySem.Expr → Shared → Prop
  | some k :: ks, v :: vs, s => wpAny (model prog w) A (eval k env) (fun kv s1 => wpAny (model prog w) A (eval v env) (fun vv s2 => wpAny (model prog w) A (dictSet d kv vv) (fun _ s3 => LongE prog w A E d Q env ks vs s3) E s2) E s1) E s
  | _, _, s => Q s
section
variable {prog : Program} {w : World} {A : Around} {E : Value → Shared → Prop} {s : Shared} {env : Env} {h₀ : Heap} {L d : Addr} {m : Str → Option Value} {news : List (Addr × Obj)}
theorem LongE.cons {Q : Shared → Prop} {k v : PySem.Expr} {ks : List (Option PySem.Expr)} {vs : List PySem.Expr} (h : wpAny (model prog w) A (eval k env) (fun kv s1 => wpAny (model prog w) A (eval v env) (fun vv s2 => wpAny (model prog w) A (dictSet d kv vv) (fun _ s3 => LongE prog w A E d Q env ks vs s3) E s2) E s1) E s) :
    LongE prog w A E d Q env (some k :: ks) (v :: vs) s := h
theorem LongE.nil {Q : Shared → Prop} (h : Q s) : LongE prog w A E d Q env [] [] s := h
theorem longE_forIn {pos : Pos} {Q : PUnit → Shared → Prop} : ∀ (ks : List (Option PySem.Expr)) (vs : List PySem.Expr) (s : Shared), ks.all (·.isSome) = true → ks.length = vs.length → LongE prog w A E d (Q PUnit.unit) env ks vs s →
    wpAny (model prog w) A (forIn (pairTrees ks vs env pos) PUnit.unit fun (x : Sem Value × Sem Value) (_ : PUnit) => (do let kv ← x.1; let vv ← holding [kv] x.2; holding [kv, vv] (dictSet d kv vv); pure (ForInStep.yield PUnit.unit) : Sem (ForInStep PUnit))) Q E s
  | [], [], s, _, _, h => by
    rw [pairTrees, List.forIn_nil]
    · exact wpAny_pure h
    · exact fun _ _ _ _ h => nomatch h
  | [], _ :: _, _, _, h, _ => by simp at h
  | _ :: _, [], _, _, h, _ => by simp at h
  | none :: _, _ :: _, _, h, _, _ => by simp at h
  | some k :: ks, v :: vs, s, ha, hl, h => by
    rw [pairTrees, List.forIn_cons]
    refine wpAny_bind (wpAny_bind (wpAny_mono h (fun kv s1 h1 => ?_) fun _ _ e => e))
    refine wpAny_bind (wpAny_holding (wpAny_bind (wpAny_mono h1 (fun vv s2 h2 => wpAny_bind (wpAny_standAt (wpAny_pure ?_))) fun _ _ e => e)))
    refine wpAny_bind (wpAny_holding (wpAny_mono h2 (fun _ s3 h3 => wpAny_pure ?_) fun _ _ e => e))
    exact longE_forIn ks vs s3 (by simpa using ha) (by simpa using hl) h3
theorem dict_long {keys : List (Option PySem.Expr)} {values : List PySem.Expr} {pos : Pos} {Q : Value → Shared → Prop} (F : Fr h₀ L s.heap m) (N : News h₀ L s.heap news) (hbig : h₀.NoLimit)
    (hall : keys.all (·.isSome) = true) (hl : keys.length = values.length) (hlen : keys.length = 16)
    (h : ∀ (d : Addr) h' o, Fr h₀ L h' m → News h₀ L h' ((d, o) :: news) → (∀ p ∈ news, @LT.lt Nat _ p.1 d) → (d == sysModules) = false → o.IsDictOf (PySem.strKind prog w) [] →
      LongE prog w A E d (fun s' => Q (.ref d) s') env keys values { s with heap := h' }) :
    wpAny (model prog w) A (eval (.Dict keys values pos) env) Q E s := by
  have hn := pairTrees_length keys values env pos hall hl
  have h0 : pairTrees keys values env pos ≠ [] := fun e => by rw [e, hlen] at hn; exact nomatch hn
  rw [arm_eval_Dict, zip_pairTrees keys values env pos hall hl, dictDisplay_pairs _ h0 (by lia)]
  refine wpAny_bind (wpAny_standAt (wpAny_bind ?_))
  unfold subDict
  refine wpAny_bind (wpAny_alloc ?_)
  refine wpAny_bind (wpAny_holding ?_)
  rw [if_neg (by lia)]
  refine wpAny_bind (wpAny_rule ?_)
  obtain ⟨o, ho, hd⟩ := Heap.dictOf_iff.mp (Heap.DictOf.new (knd := PySem.strKind prog w) s.heap)
  have key := h _ _ o (F.push _) (news_pushed F N (fun b x e => Heap.get?_push_of_some _ e) ho rfl) (fun p hp => Heap.lt_size (N p hp).1) (F.notModules (modules_low hbig)) hd
  have go := longE_forIn (pos := pos) (Q := fun _ s' => Q (.ref s.heap.objs.size) s') keys values _ hall hl key
  exact wpAny_bind (wpAny_mono go (fun _ s' q => wpAny_pure (wpAny_pure (wpAny_pure q))) fun _ _ e => e)
theorem kda_dset {K : Type} [DecidableEq K] {knd : PySem.KeyKind prog w K} {o : Obj} {kvs : List (K × Value)} {k : K} {key v : Value} {g : Obj → Led} {Q : Unit → Shared → Prop} (F : Fr h₀ L s.heap m) (N : News h₀ L s.heap news) (U : UpdF d o news g) (hd : o.IsDictOf knd kvs) (hkey : knd.is k key = true) (hsz : kvs.length ≤ sizeLine)
    (h : ∀ h' o', Fr h₀ L h' m → News h₀ L h' (g o') → o'.IsDictOf knd (stored kvs k v) → Q () { s with heap := h', toks := s.toks + 1 }) : wpAny (model prog w) A (dictSet d key v) Q E s := by
  refine viaP fun PZ kZ => ?_
  obtain ⟨pre, post, rfl, hg, a, b⟩ := U.split
  refine kZ ?_; clear kZ PZ
  have hm := N (d, o) (List.mem_append_right _ (.head _))
  refine wpAny_dictSet_pairs (hsz := hsz) hkey (Heap.dictOf_iff.mpr ⟨o, hm.1, hd⟩) fun h' hmm hs => ?_
  obtain ⟨o', ho', hd'⟩ := Heap.dictOf_iff.mp hmm
  exact h h' o' (F.change hs hm.2.1 hm.2.2) (hg o' ▸ N.setIn a b hs ho') hd'
end
theorem sz_step {K : Type} [DecidableEq K] {kvs : List (K × Value)} {k : K} {v : Value} {c : Nat} (h : kvs.length ≤ c) : (stored kvs k v).length ≤ c + 1 := Nat.le_trans (stored_len _ _ _) (Nat.succ_le_succ h)
theorem strPairs_le (vs : List (Value × Value)) : (strPairs vs).length ≤ vs.length := by
  induction vs with
  | nil => exact Nat.le_refl _
  | cons a r ih =>
    unfold strPairs
    split
    · rename_i e
      cases e
      exact Nat.succ_le_succ ih
    · exact Nat.zero_le _
theorem sz_pairs {vs : List (Value × Value)} {c : Nat} (h : vs.length ≤ c) : (strPairs vs).length ≤ c := Nat.le_trans (strPairs_le vs) h
theorem sz_nil {K : Type} {c : Nat} : ([] : List (K × Value)).length ≤ c := Nat.zero_le _
theorem sz_line {n : Nat} (h : n ≤ 200) : n ≤ sizeLine := Nat.le_trans h (by rw [sizeLine_eq]; decide)
theorem va_other {K : Type} [DecidableEq K] {kvs : List (K × Value)} {k k' : K} {v x : Value} (hk : k' ≠ k) (h : valueAt kvs k' = some x) : valueAt (stored kvs k v) k' = some x := (valueAt_stored_other hk kvs).trans h
theorem va_none {K : Type} [DecidableEq K] {kvs : List (K × Value)} {k k' : K} {v : Value} (hk : k' ≠ k) (h : valueAt kvs k' = none) : valueAt (stored kvs k v) k' = none := (valueAt_stored_other hk kvs).trans h
theorem va_hit {K : Type} [DecidableEq K] {kvs : List (K × Value)} {k : K} {v : Value} : valueAt ((k, v) :: kvs) k = some v := by rw [valueAt_cons, if_pos rfl]
theorem va_miss {K : Type} [DecidableEq K] {kvs : List (K × Value)} {k k' : K} {v : Value} {r : Option Value} (hk : k ≠ k') (h : valueAt kvs k' = r) : valueAt ((k, v) :: kvs) k' = r := by rw [valueAt_cons, if_neg hk]; exact h
theorem va_nil {K : Type} [DecidableEq K] {k : K} : valueAt ([] : List (K × Value)) k = none := rfl
theorem rep_flat : ∀ k : Nat, (List.replicate k [Value.none]).flatten = List.replicate k Value.none
  | 0 => rfl
  | k + 1 => by rw [List.replicate_succ, List.replicate_succ, List.flatten_cons, rep_flat k]; rfl
theorem noneMul_K {prog : Program} {w : World} {A : Around} {E : Value → Shared → Prop} {s : Shared} {h₀ : Heap} {L l : Addr} {m : Str → Option Value} {news : List (Addr × Obj)} {c k : Nat} {x : Int} {u : Tok} {Q : Value → Shared → Prop} (F : Fr h₀ L s.heap m) (N : News h₀ L s.heap news) (hm : (l, listOf ([Value.none] : List Value).toArray c) ∈ news) (hx : x = (k : Nat)) (hk : k ≤ 256)
    (h : ∀ D h', Fr h₀ L h' m → News h₀ L h' ((D, listOf (List.replicate k Value.none).toArray 0) :: news) → (∀ p ∈ news, @LT.lt Nat _ p.1 D) → Q (.ref D) { s with heap := h' }) : wpAny (model prog w) A (binaryOp .Mult (.ref l) (.int x u)) Q E s := by
  subst hx
  refine KMa.mul (vs := [Value.none]) F N (PySem.IsL.isList (n := c) (N _ hm).1) (by lia) (by lia) (by simp; lia) ?_ h
  rw [Int.toNat_natCast]
  exact rep_flat k
theorem News.cons' {h₀ h : Heap} {L : Addr} {n x : Led} {q : Addr × Obj} (N : News h₀ L h n) (hm : q ∈ n) (r : News h₀ L h x) : News h₀ L h (q :: x) := fun p hp => by
  rcases List.mem_cons.mp hp with rfl | hp
  · exact N _ hm
  · exact r p hp
theorem News.all {h₀ h : Heap} {L : Addr} {n x : Led} (N : News h₀ L h n) (hm : ∀ p ∈ x, p ∈ n) : News h₀ L h x := fun p hp => N p (hm p hp)
theorem words18 : True := by
  k_with "G18" => (
    k_with "!eval Dict" => (k_here; k_dflt (refine' dict_long ?z48F ?z48N ?z48b ?z48a ?z48l ?z48n ?_; (case z48F => k_asm); (case z48N => k_asm); (case z48n => exact rfl); (case z48b => (refine' Top.nolimit ?q650; (case q650 => k_asm))); (case z48a => exact rfl); (case z48l => exact rfl)); intro d' h' o' F' N' l1 lo' hd'; (try k_lt l1))
    k_with "!LongE" => (k_dflt (first | refine LongE.cons ?_ | refine LongE.nil ?_))
    k_with "!dictSet" => (k_here; k_dflt (refine' kda_dset (knd := PySem.strKind _ _) ?z49F ?z49N ?z49U ?z49d (strKind_is _ _ _ _) ?z49z ?_; (case z49F => k_asm); (case z49N => k_asm); (case z49U => k_updF); (case z49d => assumption); (case z49z => k_extra "size")); intro h' o' F' N' hd'; (try dsimp only at N'); (try k_sweep))
    k_with "!setItem ref str" => (k_here; k_dflt (refine' kda_set (knd := PySem.strKind _ _) ?z50F ?z50N ?z50U ?z50d (strKind_is _ _ _ _) ?z50z ?_; (case z50F => k_asm); (case z50N => k_asm); (case z50U => k_updF); (case z50d => assumption); (case z50z => k_extra "size")); intro h' o' F' N' hd'; (try dsimp only at N'); (try k_sweep))
    k_with "!binaryOp Mult ref int" => (k_here; (with_reducible show wpAny _ _ (binaryOp Operator.Mult (Value.ref _) (Value.int _ _)) _ _ _); k_dflt (refine' noneMul_K (k := 25) ?z51F ?z51N ?z51m ?z51x ?z51k ?_; (case z51F => k_asm); (case z51N => k_asm); (case z51m => k_mem); (case z51x => exact rfl); (case z51k => decide)); intro D' h' F' N' l1; (try k_lt l1); (try k_sweep))
    k_with "!binaryOp Mult ref int" => (k_here; (with_reducible show wpAny _ _ (binaryOp Operator.Mult (Value.ref _) (Value.int _ _)) _ _ _); k_dflt (refine' noneMul_K (k := 0) ?z52F ?z52N ?z52m ?z52x ?z52k ?_; (case z52F => k_asm); (case z52N => k_asm); (case z52m => k_mem); (case z52x => exact rfl); (case z52k => decide)); intro D' h' F' N' l1; (try k_lt l1); (try k_sweep))
    k_with "!Exists" => (k_here; ((refine' kda_made_str ?q651 ?q652 (Top.nolimit ?q653) ?q654 (of_decide_eq_true ?q655) ?q656 ?_; (case q651 => k_asm); (case q652 => first | k_asm | exact News.nil); (case q653 => k_asm); (case q654 => rfl); (case q655 => kernel_rfl!); (case q656 => rfl)); intro h' o' F' N' l1 lo' hd'; (try k_lt l1))))
  k_extra "G18"
  trivial
-- TU
section
variable {prog : Program} {w : World} {A : Around} {E : Value → Shared → Prop} {s : Shared} {env : Env} {h₀ : Heap} {x : Str} {body : List Stmt} {Q : Flow → Shared → Prop}
/-- a for over a tuple, turn by turn -/
def TupRest (prog : Program) (w : World) (A : Around) (E : Value → Shared → Prop) (h₀ : Heap) (env : Env) (x : Str) (body : List Stmt) (Q : Flow → Shared → Prop) (s : Shared) (I : Addr) (tpl : Addr × Obj) : List Value → (Str → Option Value) → Led → Prop
  | [], m, news => ∀ h tk, Fr h₀ env.locals h m → News h₀ env.locals h news → Q .next { s with heap := h, toks := tk }
  | v :: r, m, news => ∀ (it : Obj) h tk, Fr h₀ env.locals h (fun y => if y = x then some v else m y) → News h₀ env.locals h ((I, it) :: news) →
      wpAny (model prog w) A (execs body env) (UnrPost h₀ env.locals { s with heap := h, toks := tk } I it (fun m' n' => tpl ∈ n' ∧ TupRest prog w A E h₀ env x body Q s I tpl r m' n') Q) E { s with heap := h, toks := tk }
theorem TupRest.zero {I : Addr} {tpl : Addr × Obj} {m : Str → Option Value} {news : Led} (h : ∀ h tk, Fr h₀ env.locals h m → News h₀ env.locals h news → Q .next { s with heap := h, toks := tk }) : TupRest prog w A E h₀ env x body Q s I tpl [] m news := h
theorem TupRest.succ {I : Addr} {tpl : Addr × Obj} {v : Value} {r : List Value} {m : Str → Option Value} {news : Led}
    (h : ∀ (it : Obj) h tk, Fr h₀ env.locals h (fun y => if y = x then some v else m y) → News h₀ env.locals h ((I, it) :: news) →
      wpAny (model prog w) A (execs body env) (UnrPost h₀ env.locals { s with heap := h, toks := tk } I it (fun m' n' => tpl ∈ n' ∧ TupRest prog w A E h₀ env x body Q s I tpl r m' n') Q) E { s with heap := h, toks := tk }) : TupRest prog w A E h₀ env x body Q s I tpl (v :: r) m news := h
theorem iter_tupUnr : ∀ (prog : Program) (w : World) (A : Around) (E : Value → Shared → Prop) (s : Shared) (env : Env) (h₀ : Heap) (x : Str) (body : List Stmt) (Q : Flow → Shared → Prop) (ax : Addr) (vs : List Value) (m₀ : Str → Option Value) (news : Led), (A.handled = none) → (Fr h₀ env.locals s.heap m₀) → (News h₀ env.locals s.heap news) → ((ax, tp vs) ∈ news) → (∀ I : Addr, (∀ p ∈ news, @LT.lt Nat _ p.1 I) → TupRest prog w A E h₀ env x body Q s I (ax, tp vs) vs m₀ news) → wpAny (model prog w) A (pyIter (.ref ax)) (fun it s₂ => LoopAtV prog w A h₀ env x body Q E it s₂) E s := by
  refine @dq _ (by
  k_extra "h0"
  k_extra "b1.12"
  k_extra "b2.2"
  intro hh F N hm rest₀
  have z := N _ hm
  have hT : y1_5.heap.IsTuple y1_11 y1_12.toArray := ⟨_, z.1, rfl, _, rfl⟩
  have hlt : y1_11 < y1_5.heap.objs.size := Heap.lt_size z.1
  have hne : y1_11 ≠ y1_5.heap.objs.size := Nat.ne_of_lt hlt
  have hnew := next_is_new F
  refine wpAny_pyIter_tuple hT ?_
  have W := Walks.tuple (prog := y1_1) (w := y1_2) hh y1_5.heap.objs.size y1_11 hne y1_12.toArray
  rw [List.size_toArray] at W
  have rest := rest₀ y1_5.heap.objs.size fun p hp => Heap.lt_size (N p hp).1
  refine ⟨_, _, _, y1_12.length, _, _, y2_1, y2_2, fun i m₁ n₁ => (y1_11, tp y1_12) ∈ n₁ ∧ TupRest y1_1 y1_2 y1_3 y1_4 y1_7 y1_6 y1_8 y1_9 y1_10 y1_5 y1_5.heap.objs.size (y1_11, tp y1_12) (y1_12.drop i) m₁ n₁, rfl, W, ?_, ?_, ?_, ⟨⟨_, Heap.get?_push_size _ rfl, rfl, rfl⟩, hT.push _⟩, F.push _, fun p hp => ⟨Heap.get?_push_of_some _ (N p hp).1, (N p hp).2⟩, ⟨hm, by rw [List.drop_zero]; exact rest⟩, ?_, ?_⟩
  · intro h
    rcases List.mem_cons.mp h with e | h
    · exact absurd F.ns.lt (e ▸ Nat.lt_irrefl _)
    · exact z.2.1 (List.mem_singleton.mp h).symm
  · intro b hb
    rw [List.mem_singleton.mp hb]; exact hnew
  · intro p hp hI
    exact absurd (Heap.lt_size (N p hp).1) ((List.mem_singleton.mp hI) ▸ Nat.lt_irrefl _)
  · rintro i v m₁ n₁ s₁ own ⟨h1, t1, rfl⟩ hin hP ⟨mem1, hJ⟩ _ hown hget hall hst F1 N1
    obtain ⟨it, hit, _, _⟩ := hst.1
    have memI := hall y1_5.heap.objs.size (.head _) hnew _ hit
    have hv : y1_12[i]? = some v := by simpa using hP
    have hd : y1_12.drop i = v :: y1_12.drop (i + 1) := by
      rw [List.drop_eq_getElem_cons hin]
      congr 1
      exact Option.some.inj ((List.getElem?_eq_getElem hin).symm.trans hv)
    rw [hd] at hJ
    refine wpAny_mono (hJ it h1 t1 F1 fun p hp => ?_) (fun f s₂ p => ?_) fun _ _ e => e
    · rcases List.mem_cons.mp hp with rfl | hp
      · exact N1 _ (List.mem_append_left _ memI)
      · exact N1 _ (List.mem_append_right _ hp)
    · have fin : UnrEnd y1_7 y1_6.locals { y1_5 with heap := h1, toks := t1 } y1_5.heap.objs.size it (fun m' n' => (y1_11, tp y1_12) ∈ n' ∧ TupRest y1_1 y1_2 y1_3 y1_4 y1_7 y1_6 y1_8 y1_9 y1_10 y1_5 y1_5.heap.objs.size (y1_11, tp y1_12) (y1_12.drop (i + 1)) m' n') s₂ →
          LoopStepU y1_7 y1_6.locals [y1_5.heap.objs.size] own (fun m₁ n₁ => (y1_11, tp y1_12) ∈ n₁ ∧ TupRest y1_1 y1_2 y1_3 y1_4 y1_7 y1_6 y1_8 y1_9 y1_10 y1_5 y1_5.heap.objs.size (y1_11, tp y1_12) (y1_12.drop (i + 1)) m₁ n₁) { y1_5 with heap := h1, toks := t1 } .next s₂ := by
        rintro ⟨h', tk, m', n', e, F', N', off, mm, r⟩
        refine ⟨rfl, h', tk, m', n', e, F', fun p hp => ?_, fun p hp hI => off p hp (List.mem_singleton.mp hI), mm, r⟩
        rcases List.mem_append.mp hp with hp | hp
        · have h2 : h1.get? p.1 = some p.2 := hget p hp
          rcases List.mem_cons.mp (hown p hp) with q | q
          · have : p = (y1_5.heap.objs.size, it) := by
              rw [q, hit] at h2
              exact Prod.ext q (Option.some.inj h2).symm
            rw [this]; exact N' _ (.head _)
          · have q' := List.mem_singleton.mp q
            have : p = (y1_11, tp y1_12) := by
              rw [q', (N1 _ (List.mem_append_right _ mem1)).1] at h2
              exact Prod.ext q' (Option.some.inj h2).symm
            rw [this]; exact N' _ (.tail _ mm)
        · exact N' _ (.tail _ hp)
      cases f with
      | ret v => exact .ret p
      | brk => exact .brk p
      | next => exact .next (fin p)
      | cont => exact .cont (fin p)
  · rintro h' tk m' n' F' N' _ ⟨_, hJ⟩
    rw [List.drop_length] at hJ
    exact hJ h' tk F' N') fun q hf => ?_
  simpa only using fq hf (@Eq _ 5 5)
end
theorem loop0_of {w : World} {o : Obj} (h : o.IsDictOf (strKind WP w) []) : Loop0 o := by
  refine viaP fun PZ kZ => ?_
  obtain ⟨es, ep, c, e, _, hp, _⟩ := h
  refine kZ ?_; clear kZ PZ
  refine ⟨c, es, ep, e, ?_⟩
  cases hq : es.toList with
  | nil => rfl
  | cons a r => rw [hq] at hp; exact nomatch hp
theorem words19 : True := by
  k_with "G19" => (
    k_with "!pyIter ref" => (k_here; (with_reducible show wpAny _ _ (pyIter (Value.ref _)) (fun it s₂ => LoopAtV _ _ _ _ _ _ _ _ _ it s₂) _ _); k_extra "tupU")
    k_with "!TupRest" => (with_unfolding_all first | (refine TupRest.succ (fun it' h' tk' F' N' => ?_)) | (refine TupRest.zero (fun h' tk' F' N' => ?_)))
    k_with "m:k_upd" => first | (refine' Pick.head ?z53a; (case z53a => k_all)) | (refine' Pick.cons ?z53a ?z53b; (case z53a => k_ne); (case z53b => k_upd))
    k_with "!UnrEnd" => (k_dflt (refine' unrEnd_pick ?z54F ?z54N ?z54P ⟨?z54m, ?_⟩; (case z54F => k_asm); (case z54N => k_asm); (case z54P => k_upd); (case z54m => k_mem); k_whole))
    k_with "!exec For Name Tuple cons nil" => (k_here; (rename Fr _ _ _ _ => lF'); (with_reducible refine' For_invVF lF' ?z55k1 ?z55k2 ?_ ?z55hs ?z55hE); (with_unfolding_all ((case z55k1 => exact rfl); (case z55k2 => exact rfl); (case z55hs => intro _; kernel_rfl!); (case z55hE => with_reducible first | exact PySem.PassesOwn.never | exact PySem.PassesOwn.leaving | exact PySem.PassesOwn.looking); k_whole))))
  k_extra "G19"
  trivial
-- W1
theorem c_cs : ∀ (w : World)  (led : Led), SpecT w 1 8 779 [] (led) (fun v n => ∃ d o kv, v = .ref d ∧ n = (d, o) :: led ∧ (∀ p ∈ led, @LT.lt Nat _ p.1 d) ∧ (d == sysModules) = false ∧ o.IsDictOf (strKind WP w) kv ∧ kv.length ≤ 16 ∧ valueAt kv (Str.ofString "lif") = some (.ref 716) ∧ valueAt kv (Str.ofString "do") = some (.ref 744) ∧ valueAt kv (Str.ofString "end") = some (.ref 765)) := by
  refine @dq _ (by
  unfold SpecT
  k_fill
  k_extra "h0"
  k_extra "b1.2"
  k_extra "hv"
  k_with "size" => (refine' sz_line ?q657; (case q657 => repeat (first | with_reducible refine sz_step (c := _) ?_ | with_reducible exact sz_nil | (refine' sz_pairs ?q658; (case q658 => first | decide | simp)))))
  k_steps
  all_goals (repeat (rename _ ∧ _ => hx; obtain ⟨hx1, hx2⟩ := hx))
  all_goals first
    | exact hret _ _ _ _ ‹_› (by exact News.cons' ‹_› (by k_mem) (News.all ‹_› (fun p hp => by k_mem))) ⟨_, _, _, rfl, rfl, (by first | assumption | exact allLt_all ‹_› | omega), by assumption, by assumption, (by repeat (first | with_reducible refine sz_step (c := _) ?_ | with_reducible exact sz_nil | exact sz_pairs (by first | decide | simp))), (by repeat (with_reducible first | exact valueAt_stored_same _ _ _ | exact va_hit | refine va_other (by decide +kernel) ?_ | refine va_miss (by decide +kernel) ?_ | with_unfolding_all exact rfl)), (by repeat (with_reducible first | exact valueAt_stored_same _ _ _ | exact va_hit | refine va_other (by decide +kernel) ?_ | refine va_miss (by decide +kernel) ?_ | with_unfolding_all exact rfl)), (by repeat (with_reducible first | exact valueAt_stored_same _ _ _ | exact va_hit | refine va_other (by decide +kernel) ?_ | refine va_miss (by decide +kernel) ?_ | with_unfolding_all exact rfl))⟩) fun q hf => ?_
  simpa only using fq hf (@Eq _ 5 5)
-- W2
theorem c_as : ∀ (w : World)  (led : Led), SpecT w 1 8 681 [] (led) (fun v n => ∃ d o t1 t2, v = .ref d ∧ n = (d, o) :: led ∧ (∀ p ∈ led, @LT.lt Nat _ p.1 d) ∧ (d == sysModules) = false ∧ o.IsDictOf (strKind WP w) (strPairs [(.str (Str.ofString "assign") t1, .ref 653), (.str (Str.ofString "setlabel") t2, .ref 667)])) := by
  refine @dq _ (by
  unfold SpecT
  k_fill
  k_extra "h0"
  k_extra "b1.2"
  k_extra "hv"
  k_steps
  all_goals (repeat (rename _ ∧ _ => hx; obtain ⟨hx1, hx2⟩ := hx))
  all_goals first
    | exact hret _ _ _ _ ‹_› (by exact News.cons' ‹_› (by k_mem) (News.all ‹_› (fun p hp => by k_mem))) ⟨_, _, _, _, rfl, rfl, (by first | assumption | exact allLt_all ‹_› | omega), by assumption, by assumption⟩) fun q hf => ?_
  simpa only using fq hf (@Eq _ 5 5)
-- W3
theorem c_mkmem : ∀ (w : World) (t1 t2 : Tok) (led : Led), SpecT w 2 16 141 [.int 25 t1, .int 0 t2] (led) (fun v n => ∃ me md ce q1 q2 ch, v = .ref me ∧ n = (ce, listOf (List.replicate 25 Value.none).toArray 0) :: (me, instObj 141 md) :: (md, dictOf [enS w.params "numeric" q1 (.ref ce), enS w.params "characters" q2 ch] 2) :: led ∧ (∀ p ∈ led, @LT.lt Nat _ p.1 md) ∧ @LT.lt Nat _ md me ∧ @LT.lt Nat _ me ce) := by
  refine @dq _ (by
  unfold SpecT
  k_fill
  k_extra "h0"
  k_extra "b1.4"
  k_extra "hd"
  intro B F X N T hk hd hu hret
  with_reducible k_extra "bar"
  k_dflt (refine' call_cls ?k1 ?k2 ?k3 ?k4 ?k5 ?k6 ?_; (case k1 => k_asm); (case k2 => k_asm); (case k3 => k_asm); (case k4 => k_is); (case k5 => k_is); (case k6 => k_is); k_whole; intro x' d' h' F' N' l1 l2; (try k_lt l1); (try k_lt2 l2); (try k_sweep))
  k_dflt (refine' code_def ?k1 ?k2 ?k3 ?k4 ?k5 ?kA ?kF ?kK ?k6 ?k7 ?k8 ?k9 ?kB ?_ ?c2 ?c3 ?c4 ?c5; (case kA => exact rfl); (case kF => exact rfl); (case kK => assumption); (case k1 => k_asm); (case k2 => k_asm); (case k3 => k_asm); (case k4 => k_asm); (case k5 => k_asm); (case k6 => k_is); (case k7 => k_is); (case k8 => ktr_room); (case k9 => first | exact BindsTo.of_eq rfl | exact binds_K (by k_in) rfl (by k_is) rfl rfl rfl); (case c5 => decide); (case kB => exact locs rfl); (case c2 => exact rfl); (case c3 => exact rfl); (case c4 => exact rfl); k_whole; intro g' L' h' FG' F' N' B' X' T'; (try dsimp only); (try k_fold))
  k_steps
  all_goals (repeat (rename _ ∧ _ => hx; obtain ⟨hx1, hx2⟩ := hx))
  all_goals first
    | exact hret _ _ _ _ ‹_› (by exact News.cons' ‹_› (by k_mem) (News.cons' ‹_› (by k_mem) (News.cons' ‹_› (by k_mem) (News.all ‹_› (fun p hp => by k_mem))))) ⟨_, _, _, _, _, _, rfl, rfl, (by first | assumption | exact allLt_all ‹_› | omega), (by first | assumption | exact allLt_all ‹_› | omega), (by first | assumption | exact allLt_all ‹_› | omega)⟩) fun q hf => ?_
  simpa only using fq hf (@Eq _ 5 5)
-- W4
theorem c_mkunit : ∀ (w : World) (x y : Value) (led : Led), SpecT w 2 16 818 [x, y] (led) (fun v n => ∃ un ud k0 k1 k2 k3 k4 k5 k6 k7 k8 k9 k10 k11 k12 k13 u2 u3 u4 u6 u7 u8 u9 u10 u11 u12 u13 sl, v = .ref un ∧ n = (un, instObj 818 ud) :: (ud, dictOf [enS w.params "kind" k0 (x), enS w.params "name" k1 (y), enS w.params "dummies" k2 (u2), enS w.params "entries" k3 (u3), enS w.params "symbols" k4 (u4), enS w.params "statements" k5 (.ref sl), enS w.params "formats" k6 (u6), enS w.params "labels" k7 (u7), enS w.params "result" k8 (u8), enS w.params "commons" k9 (u9), enS w.params "equivs" k10 (u10), enS w.params "datas" k11 (u11), enS w.params "saves" k12 (u12), enS w.params "constants" k13 (u13)] 14) :: led ∧ (∀ p ∈ led, @LT.lt Nat _ p.1 ud) ∧ @LT.lt Nat _ ud un) := by
  refine @dq _ (by
  unfold SpecT
  k_fill
  k_extra "h0"
  k_extra "b1.4"
  k_extra "hd"
  intro B F X N T hk hd hu hret
  with_reducible k_extra "bar"
  k_dflt (refine' call_cls ?k1 ?k2 ?k3 ?k4 ?k5 ?k6 ?_; (case k1 => k_asm); (case k2 => k_asm); (case k3 => k_asm); (case k4 => k_is); (case k5 => k_is); (case k6 => k_is); k_whole; intro x' d' h' F' N' l1 l2; (try k_lt l1); (try k_lt2 l2); (try k_sweep))
  k_dflt (refine' code_def ?k1 ?k2 ?k3 ?k4 ?k5 ?kA ?kF ?kK ?k6 ?k7 ?k8 ?k9 ?kB ?_ ?c2 ?c3 ?c4 ?c5; (case kA => exact rfl); (case kF => exact rfl); (case kK => assumption); (case k1 => k_asm); (case k2 => k_asm); (case k3 => k_asm); (case k4 => k_asm); (case k5 => k_asm); (case k6 => k_is); (case k7 => k_is); (case k8 => ktr_room); (case k9 => first | exact BindsTo.of_eq rfl | exact binds_K (by k_in) rfl (by k_is) rfl rfl rfl); (case c5 => decide); (case kB => exact locs rfl); (case c2 => exact rfl); (case c3 => exact rfl); (case c4 => exact rfl); k_whole; intro g' L' h' FG' F' N' B' X' T'; (try dsimp only); (try k_fold))
  k_steps
  all_goals (repeat (rename _ ∧ _ => hx; obtain ⟨hx1, hx2⟩ := hx))
  all_goals first
    | exact hret _ _ _ _ ‹_› (by exact News.cons' ‹_› (by k_mem) (News.cons' ‹_› (by k_mem) (News.all ‹_› (fun p hp => by k_mem)))) ⟨_, _, _, _, _, _, _, _, _, _, _, _, _, _, _, _, _, _, _, _, _, _, _, _, _, _, _, _, rfl, rfl, (by first | assumption | exact allLt_all ‹_› | omega), (by first | assumption | exact allLt_all ‹_› | omega)⟩) fun q hf => ?_
  simpa only using fq hf (@Eq _ 5 5)
-- W5
theorem c_mklim : ∀ (w : World)  (led : Led), SpecT w 2 16 797 [] (led) (fun v n => ∃ la ld k1 k2 k3 k4 k5 k6 k7 k8, v = .ref la ∧ n = (la, instObj 797 ld) :: (ld, dictOf [enS w.params "width" k1 (.int 32 1339), enS w.params "real_digits" k2 (.int 7 1340), enS w.params "double_digits" k3 (.int 15 1341), enS w.params "top_exponent" k4 (.int 38 1342), enS w.params "steps" k5 (.int 1000000 1343), enS w.params "continuations" k6 (.int 19 1344), enS w.params "columns" k7 (.int 72 1345), enS w.params "depth" k8 (.int 40 1346)] 8) :: led ∧ (∀ p ∈ led, @LT.lt Nat _ p.1 ld) ∧ @LT.lt Nat _ ld la) := by
  refine @dq _ (by
  unfold SpecT
  k_fill
  k_extra "h0"
  k_extra "b1.2"
  k_extra "hd"
  intro B F X N T hk hd hu hret
  with_reducible k_extra "bar"
  k_dflt (refine' call_cls ?k1 ?k2 ?k3 ?k4 ?k5 ?k6 ?_; (case k1 => k_asm); (case k2 => k_asm); (case k3 => k_asm); (case k4 => k_is); (case k5 => k_is); (case k6 => k_is); k_whole; intro x' d' h' F' N' l1 l2; (try k_lt l1); (try k_lt2 l2); (try k_sweep))
  k_dflt (refine' code_def ?k1 ?k2 ?k3 ?k4 ?k5 ?kA ?kF ?kK ?k6 ?k7 ?k8 ?k9 ?kB ?_ ?c2 ?c3 ?c4 ?c5; (case kA => exact rfl); (case kF => exact rfl); (case kK => assumption); (case k1 => k_asm); (case k2 => k_asm); (case k3 => k_asm); (case k4 => k_asm); (case k5 => k_asm); (case k6 => k_is); (case k7 => k_is); (case k8 => ktr_room); (case k9 => first | exact BindsTo.of_eq rfl | exact binds_K (by k_in) rfl (by k_is) rfl rfl rfl); (case c5 => decide); (case kB => exact locs rfl); (case c2 => exact rfl); (case c3 => exact rfl); (case c4 => exact rfl); k_whole; intro g' L' h' FG' F' N' B' X' T'; (try dsimp only); (try k_fold))
  k_steps
  all_goals (repeat (rename _ ∧ _ => hx; obtain ⟨hx1, hx2⟩ := hx))
  all_goals first
    | exact hret _ _ _ _ ‹_› (by exact News.cons' ‹_› (by k_mem) (News.cons' ‹_› (by k_mem) (News.all ‹_› (fun p hp => by k_mem)))) ⟨_, _, _, _, _, _, _, _, _, _, rfl, rfl, (by first | assumption | exact allLt_all ‹_› | omega), (by first | assumption | exact allLt_all ‹_› | omega)⟩) fun q hf => ?_
  simpa only using fq hf (@Eq _ 5 5)
-- W6
theorem c_mkrun : ∀ (w : World) (x1 x2 x3 x4 x5 x6 : Value) (led : Led), SpecT w 2 16 450 [x1, x2, x3, x4, x5, x6] (led) (fun v n => ∃ ru rd fr fl lo op de pl cs ac li ts fo flo loo k0 k1 k2 k3 k4 k5 k6 k7 k8 k9 k10 k11 k12 k13 k14 k15, v = .ref ru ∧ n = (ru, instObj 450 rd) :: (rd, dictOf [enS w.params "memory" k0 (x1), enS w.params "limits" k1 (x2), enS w.params "units" k2 (x3), enS w.params "world" k3 (x4), enS w.params "expressions" k4 (x5), enS w.params "statements" k5 (x6), enS w.params "frame" k6 (.ref fr), enS w.params "depth" k7 (de), enS w.params "steps" k8 (.int 0 ts), enS w.params "places" k9 (pl), enS w.params "flows" k10 (.ref fl), enS w.params "clears" k11 (cs), enS w.params "active" k12 (ac), enS w.params "loops" k13 (.ref lo), enS w.params "operations" k14 (.ref op), enS w.params "library" k15 (li)] 16) :: (fr, fo) :: (fl, flo) :: (lo, loo) :: led ∧ (∀ p ∈ led, @LT.lt Nat _ p.1 rd) ∧ @LT.lt Nat _ rd ru ∧ @LT.lt Nat _ ru fr ∧ @LT.lt Nat _ fr fl ∧ @LT.lt Nat _ fl lo ∧ (fr == sysModules) = false ∧ (fl == sysModules) = false ∧ (lo == sysModules) = false ∧ fo.IsDictOf (strKind WP w) [] ∧ flo.IsDictOf (strKind WP w) [] ∧ Loop0 loo ∧ loo.cls = .type "dict") := by
  refine @dq _ (by
  unfold SpecT
  k_fill
  k_extra "h0"
  k_extra "b1.8"
  k_extra "hd"
  intro B F X N T hk hd hu hret
  with_reducible k_extra "bar"
  k_dflt (refine' call_cls ?k1 ?k2 ?k3 ?k4 ?k5 ?k6 ?_; (case k1 => k_asm); (case k2 => k_asm); (case k3 => k_asm); (case k4 => k_is); (case k5 => k_is); (case k6 => k_is); k_whole; intro x' d' h' F' N' l1 l2; (try k_lt l1); (try k_lt2 l2); (try k_sweep))
  k_dflt (refine' code_def ?k1 ?k2 ?k3 ?k4 ?k5 ?kA ?kF ?kK ?k6 ?k7 ?k8 ?k9 ?kB ?_ ?c2 ?c3 ?c4 ?c5; (case kA => exact rfl); (case kF => exact rfl); (case kK => assumption); (case k1 => k_asm); (case k2 => k_asm); (case k3 => k_asm); (case k4 => k_asm); (case k5 => k_asm); (case k6 => k_is); (case k7 => k_is); (case k8 => ktr_room); (case k9 => first | exact BindsTo.of_eq rfl | exact binds_K (by k_in) rfl (by k_is) rfl rfl rfl); (case c5 => decide); (case kB => exact locs rfl); (case c2 => exact rfl); (case c3 => exact rfl); (case c4 => exact rfl); k_whole; intro g' L' h' FG' F' N' B' X' T'; (try dsimp only); (try k_fold))
  k_steps
  all_goals (repeat (rename _ ∧ _ => hx; obtain ⟨hx1, hx2⟩ := hx))
  all_goals first
    | exact hret _ _ _ _ ‹_› (by exact News.cons' ‹_› (by k_mem) (News.cons' ‹_› (by k_mem) (News.cons' ‹_› (by k_mem) (News.cons' ‹_› (by k_mem) (News.cons' ‹_› (by k_mem) (News.all ‹_› (fun p hp => by k_mem))))))) ⟨_, _, _, _, _, _, _, _, _, _, _, _, _, _, _, _, _, _, _, _, _, _, _, _, _, _, _, _, _, _, _, rfl, rfl, (by first | assumption | exact allLt_all ‹_› | omega), (by first | assumption | exact allLt_all ‹_› | omega), (by first | assumption | exact allLt_all ‹_› | omega), (by first | assumption | exact allLt_all ‹_› | omega), (by first | assumption | exact allLt_all ‹_› | omega), by assumption, by assumption, by assumption, by assumption, by assumption, loop0_of ‹_›, dcls (knd := strKind WP y1_1) ‹_›⟩) fun q hf => ?_
  simpa only using fq hf (@Eq _ 5 5)
-- W7
theorem c_pe : ∀ (w : World)  (led : Led), SpecT w 2 16 529 [] (led) (fun v n => ∃ d o kv, v = .ref d ∧ n = (d, o) :: led ∧ (∀ p ∈ led, @LT.lt Nat _ p.1 d) ∧ (d == sysModules) = false ∧ o.IsDictOf (strKind WP w) kv ∧ kv.length ≤ 19 ∧ valueAt kv (Str.ofString "const") = some (.ref 494) ∧ valueAt kv (Str.ofString "var") = some (.ref 501) ∧ valueAt kv (Str.ofString "add") = some (.ref 515) ∧ valueAt kv (Str.ofString "sub") = some (.ref 515) ∧ valueAt kv (Str.ofString "mul") = some (.ref 515) ∧ valueAt kv (Str.ofString "div") = some (.ref 515) ∧ valueAt kv (Str.ofString "eq") = some (.ref 522)) := by
  refine @dq _ (by
  unfold SpecT
  k_fill
  k_extra "h0"
  k_extra "b1.2"
  k_extra "hv"
  k_with "size" => (refine' sz_line ?q659; (case q659 => repeat (first | with_reducible refine sz_step (c := _) ?_ | with_reducible exact sz_nil | (refine' sz_pairs ?q660; (case q660 => first | decide | simp)))))
  k_with "tupU" => ((rename Fr _ _ _ _ => lF'); (rename News _ _ _ _ => lN'); (with_unfolding_all refine' (iter_tupUnr _ _ _ _ _ _ _ _ _ _ _ _ _ _) ?hh lF' lN' ?hm ?_; (case hh => rfl); (case hm => k_mem)); clear lF' lN'; intro i' l1; (try k_lt l1))
  k_steps
  all_goals (repeat (rename _ ∧ _ => hx; obtain ⟨hx1, hx2⟩ := hx))
  all_goals first
    | exact hret _ _ _ _ ‹_› (by exact News.cons' ‹_› (by k_mem) (News.all ‹_› (fun p hp => by k_mem))) ⟨_, _, _, rfl, rfl, (by first | assumption | exact allLt_all ‹_› | omega), by assumption, by assumption, (by repeat (first | with_reducible refine sz_step (c := _) ?_ | with_reducible exact sz_nil | exact sz_pairs (by first | decide | simp))), (by repeat (with_reducible first | exact valueAt_stored_same _ _ _ | exact va_hit | refine va_other (by decide +kernel) ?_ | refine va_miss (by decide +kernel) ?_ | with_unfolding_all exact rfl)), (by repeat (with_reducible first | exact valueAt_stored_same _ _ _ | exact va_hit | refine va_other (by decide +kernel) ?_ | refine va_miss (by decide +kernel) ?_ | with_unfolding_all exact rfl)), (by repeat (with_reducible first | exact valueAt_stored_same _ _ _ | exact va_hit | refine va_other (by decide +kernel) ?_ | refine va_miss (by decide +kernel) ?_ | with_unfolding_all exact rfl)), (by repeat (with_reducible first | exact valueAt_stored_same _ _ _ | exact va_hit | refine va_other (by decide +kernel) ?_ | refine va_miss (by decide +kernel) ?_ | with_unfolding_all exact rfl)), (by repeat (with_reducible first | exact valueAt_stored_same _ _ _ | exact va_hit | refine va_other (by decide +kernel) ?_ | refine va_miss (by decide +kernel) ?_ | with_unfolding_all exact rfl)), (by repeat (with_reducible first | exact valueAt_stored_same _ _ _ | exact va_hit | refine va_other (by decide +kernel) ?_ | refine va_miss (by decide +kernel) ?_ | with_unfolding_all exact rfl)), (by repeat (with_reducible first | exact valueAt_stored_same _ _ _ | exact va_hit | refine va_other (by decide +kernel) ?_ | refine va_miss (by decide +kernel) ?_ | with_unfolding_all exact rfl))⟩) fun q hf => ?_
  simpa only using fq hf (@Eq _ 5 5)
-- LT
section
open PyProof.Rows.LCg PyProof.Rows.LCp PySem.Spec PySem.Calls
variable {prog : Program} {w : World} {A : Around} {E : Value → Shared → Prop} {s : Shared} {h₀ : Heap} {L : Addr} {m : Str → Option Value} {env : Env}
/-- a comprehension under way over a tuple: its places -/
structure CPl (h₀ : Heap) (L I C D ax : Addr) : Prop where
  n : @Ne Nat ax I ∧ @Ne Nat ax C ∧ @Ne Nat ax D ∧ @Ne Nat I C ∧ @Ne Nat I D ∧ @Ne Nat C D ∧ @Ne Nat L I ∧ @Ne Nat C L ∧ @Ne Nat D L
  o : h₀.get? I = none ∧ h₀.get? C = none ∧ h₀.get? D = none
structure CHp (h₀ : Heap) (L : Addr) (m : Str → Option Value) (I C D ax : Addr) (its : Array Value) (i : Nat) (m' : Str → Option Value) (ys : List Value) (news : Led) (h : Heap) : Prop where
  it : h.IsTupleIter I ax i
  src : h.IsTuple ax its
  F : Fr h₀ L h m
  ns : h.Ns C m'
  N : News h₀ L h ((D, lst ys) :: news)
  off : Off3 I C D news
theorem chp_next {I C D ax : Addr} {its : Array Value} {i : Nat} {m' : Str → Option Value} {ys : List Value} {news : Led} {Q : Option Value → Shared → Prop} (hh : A.handled = none) (p : CPl h₀ L I C D ax) (c : CHp h₀ L m I C D ax its i m' ys news s.heap) (hi : i < its.size)
    (k : ∀ v h' tk, its[i]? = some v → CHp h₀ L m I C D ax its (i + 1) m' ys news h' → Q (some v) { s with heap := h', toks := tk }) : wpAny (model prog w) A (pyNext (.ref I)) Q E s := by
  refine (Walks.tuple hh I ax p.n.1 its).item i s Q E hi ⟨c.it, c.src⟩ fun v h' tk hv st keep => k v h' tk hv ?_
  have kp : ∀ b o, b ≠ I → s.heap.get? b = some o → h'.get? b = some o := fun b o hb e => keep b o (by simpa using hb) e
  have off := c.off.mem
  refine ⟨st.1, st.2, fr_but c.F keep p.n.2.2.2.2.2.2.1 p.o.1, c.ns.at' fun o e => kp C o (Ne.symm p.n.2.2.2.1) e, fun q hq => ?_, c.off⟩
  have z := c.N q hq
  refine ⟨kp _ _ ?_ z.1, z.2⟩
  rcases List.mem_cons.mp hq with rfl | hq
  · exact Ne.symm p.n.2.2.2.2.1
  · exact (off q hq).1
theorem chp_bind {I C D ax t : Addr} {its : Array Value} {i : Nat} {m' : Str → Option Value} {ys : List Value} {news : Led} {x x₂ : Str} {px px₂ tpos : Pos} {tk} {scope : Scope} {cl : List (Str × Addr)} {v₁ v₂ : Value} {Q : Unit → Shared → Prop} (hh : A.handled = none) (p : CPl h₀ L I C D ax) (c : CHp h₀ L m I C D ax its i m' ys news s.heap)
    {ot : Obj} {nt : Nat} (ht : (t, ot) ∈ news) (hoc : ot.cls = .type "tuple") (hod : ot.data = .seq #[v₁, v₂] nt) (hkind : scope.kind = .function) (hx : scope.names.lookup x = some .local) (hx₂ : scope.names.lookup x₂ = some .local) (hxx : x ≠ x₂)
    (k : ∀ m₂ h' tk, m₂ x = some v₁ → m₂ x₂ = some v₂ → CHp h₀ L m I C D ax its i m₂ ys news h' → Q () { s with heap := h', toks := tk }) :
    wpAny (model prog w) A (assign (.Tuple [.Name x px, .Name x₂ px₂] tk tpos) (compEnvC scope cl C env) (.ref t)) Q E s := by
  have T : IsTup s.heap t #[v₁, v₂] := ⟨_, (c.N _ (.tail _ ht)).1, hoc, _, hod⟩
  refine assign_Tuple_tuple hh T rfl rfl fun h₅ he => ?_
  have up : ∀ b o, s.heap.get? b = some o → h₅.get? b = some o := fun b o e => he b o (Nat.ne_of_lt (Heap.lt_size e)) e
  refine assignInOrder_cons (wpAny_assign_Name (wpAny_storeName_local (lookup_relabel_local hx) (c.ns.at' fun o e => up C o e) (fun h₆ n₆ s₆ => ?_) (by simp [compEnvC, relabel, hkind])))
  refine assignInOrder_cons (wpAny_assign_Name (wpAny_storeName_local (lookup_relabel_local hx₂) n₆ (fun h₇ n₇ s₇ => ?_) (by simp [compEnvC, relabel, hkind])))
  refine assignInOrder_nil ?_
  have all : ∀ b o, b ≠ C → s.heap.get? b = some o → h₇.get? b = some o := fun b o hb e => s₇.extBut b o hb (s₆.extBut b o hb (up b o e))
  have off := c.off.mem
  refine k _ h₇ _ (by simp [hxx]) (by simp) ⟨c.it.at fun o e => all I o p.n.2.2.2.1 e, c.src.at fun o e => all ax o p.n.2.1 e, ((c.F.keeps up).change s₆ p.n.2.2.2.2.2.2.2.1 p.o.2.1).change s₇ p.n.2.2.2.2.2.2.2.1 p.o.2.1, n₇, fun q hq => ?_, c.off⟩
  have z := c.N q hq
  refine ⟨all _ _ ?_ z.1, z.2⟩
  rcases List.mem_cons.mp hq with rfl | hq
  · exact Ne.symm p.n.2.2.2.2.2.1
  · exact (off q hq).2.1
theorem chp_done {I C D ax : Addr} {its : Array Value} {m' : Str → Option Value} {ys : List Value} {news : Led} {Q : Option Value → Shared → Prop} (hh : A.handled = none) (p : CPl h₀ L I C D ax) (c : CHp h₀ L m I C D ax its its.size m' ys news s.heap)
    (k : ∀ h' tk, Fr h₀ L h' m → h'.Ns C m' → News h₀ L h' ((D, lst ys) :: news) → Q none { s with heap := h', toks := tk }) : wpAny (model prog w) A (pyNext (.ref I)) Q E s := by
  refine (Walks.tuple hh I ax p.n.1 its).done s Q E ⟨c.it, c.src⟩ fun h' tk keep => ?_
  have kp : ∀ b o, b ≠ I → s.heap.get? b = some o → h'.get? b = some o := fun b o hb e => keep b o (by simpa using hb) e
  have off := c.off.mem
  refine k h' tk (fr_but c.F keep p.n.2.2.2.2.2.2.1 p.o.1) (c.ns.at' fun o e => kp C o (Ne.symm p.n.2.2.2.1) e) fun q hq => ?_
  have z := c.N q hq
  refine ⟨kp _ _ ?_ z.1, z.2⟩
  rcases List.mem_cons.mp hq with rfl | hq
  · exact Ne.symm p.n.2.2.2.2.1
  · exact (off q hq).1
theorem chp_loop : ∀ (prog : Program) (w : World) (A : Around) (s : Shared) (h₀ : Heap) (L : Addr) (m : Str → Option Value) (env : Env) (elt iter : Expr) (x x₂ : Str) (px px₂ tpos : Pos) (tk : Nat) (scope : Scope) (cl : List (Str × Addr)) (pos : Pos) (I C D ax : Addr) (ox : Obj) (nx : Nat) (its : Array Value) (Fin : List Value → Led → Prop) (R : Result → Shared → Prop) (m' : Str → Option Value) (news : Led) (h : Heap) (t0 : Nat), (A.handled = none) → (CPl h₀ L I C D ax) → (scope.kind = .function) → (scope.names.lookup x = some .local) → (scope.names.lookup x₂ = some .local) → (x ≠ x₂) → (its.size ≤ sizeLine) → (ox.cls = .type "tuple") → (ox.data = .seq its nx) → (∀ h tk m' ys news, Fr h₀ L h m → h.Ns C m' → News h₀ L h ((D, lst ys) :: news) → Off3 I C D news → Fin ys news → R (.ok .next) { s with heap := h, toks := tk }) → (CHp h₀ L m I C D ax its 0 m' [] news h) → ((ax, ox) ∈ news) → (CompRestP prog w A h₀ L m env elt x x₂ scope cl s (fun n => (ax, ox) ∈ n) (fun i v => its[i]? = some v) Fin its.size 0 [] news) → codeAny (model prog w) A (.compLoop (.ListComp elt [⟨.Tuple [.Name x px, .Name x₂ px₂] tk tpos, iter, [], 0⟩] scope pos) 0 (.ref I) (.ref D) (compEnvC scope cl C env)) R { s with heap := h, toks := t0 } := by
  refine @dq _ (by
  k_extra "h0"
  k_extra "b1.12"
  k_extra "b2.12"
  k_extra "b3.8"
  intro hh p hkind hx hx₂ hxx hsz hoc hod fin c hm rest
  refine codeAny_compLoop_pair (fun k s' => ∃ g t i ys y3_5 n, s' = { y1_4 with heap := g, toks := t } ∧ i ≤ y3_2.size ∧ k = y3_2.size + 1 - i ∧ ys.length = i ∧ CHp y1_5 y1_6 y1_7 y2_8 y2_9 y2_10 y2_11 y3_2 i y3_5 ys n g ∧ (y2_11, y2_12) ∈ n ∧ CompRestP y1_1 y1_2 y1_3 y1_5 y1_6 y1_7 y1_8 y1_9 y1_11 y1_12 y2_5 y2_6 y1_4 (fun n => (y2_11, y2_12) ∈ n) (fun i v => y3_2[i]? = some v) y3_3 (y3_2.size - i) i ys n) ?_ (y3_2.size + 1)
    ⟨y3_7, y3_8, 0, [], y3_5, y3_6, rfl, Nat.zero_le _, rfl, rfl, c, hm, rest⟩
  rintro k s' ⟨g, t, i, ys, m1, n, rfl, hi, rfl, hyl, c1, hm1, rest1⟩
  by_cases hlt : i < y3_2.size
  · obtain ⟨j, hj⟩ : ∃ j, y3_2.size - i = j + 1 := ⟨y3_2.size - i - 1, by omega⟩
    rw [hj] at rest1
    refine chp_next hh p c1 hlt fun v g2 t2 hv c2 => ?_
    refine viaP fun PZ kZ => ?_
    obtain ⟨tt, ot, v₁, v₂, nt, rfl, hmt, hct, hdt, go⟩ := rest1 v hv
    refine kZ ?_; clear kZ PZ
    refine letGo_tupleiter c2.it ?_
    refine chp_bind hh p c2 hmt hct hdt hkind hx hx₂ hxx fun m₂ g3 t3 e1 e2 c3 => ?_
    refine viaP fun PZ kZ => ?_
    obtain ⟨oI, heI, hI2⟩ := id c3.it
    obtain ⟨oC, heC, hoC⟩ := ns_obj c3.ns
    refine kZ ?_; clear kZ PZ
    have N3 : News y1_5 y1_6 g3 ((y2_8, oI) :: (y2_9, oC) :: (y2_10, lst ys) :: n) := fun q hq => by
      rcases List.mem_cons.mp hq with rfl | hq
      · exact ⟨heI, Ne.symm p.n.2.2.2.2.2.2.1, p.o.1⟩
      · rcases List.mem_cons.mp hq with rfl | hq
        · exact ⟨heC, p.n.2.2.2.2.2.2.2.1, p.o.2.1⟩
        · exact c3.N q hq
    refine wpAny_mono (go y2_8 oI y2_9 oC y2_10 m₂ g3 t3 _ hoC e1 e2 c3.F N3 c3.off ⟨p.n.2.2.2.1, p.n.2.2.2.2.1, p.n.2.2.2.2.2.1⟩) (fun yv s₄ h₄ => ?_) fun _ _ e => e
    refine viaP fun PZ kZ => ?_
    obtain ⟨g4, t4, n4, rfl, F4, N4, off4, hm4, rest4⟩ := h₄
    refine kZ ?_; clear kZ PZ
    have zI := (N4 _ (.head _)).1
    have zC := (N4 _ (.tail _ (.head _))).1
    have zD := (N4 _ (.tail _ (.tail _ (.head _)))).1
    have N4' : News y1_5 y1_6 g4 n4 := fun q hq => N4 q (.tail _ (.tail _ (.tail _ hq)))
    refine append_at (hsz := by show ys.toArray.size ≤ sizeLine; rw [List.size_toArray, hyl]; omega) zD fun g5 s5 hD5 => ?_
    have k5 : ∀ b o, b ≠ y2_10 → g4.get? b = some o → g5.get? b = some o := s5.extBut
    have offm := off4.mem
    refine ⟨y3_2.size + 1 - (i + 1), by omega, g5, t4, i + 1, ys ++ [yv], _, n4, rfl, hlt, rfl, by rw [List.length_append, List.length_singleton, hyl], ⟨⟨oI, k5 _ _ p.n.2.2.2.2.1 zI, hI2⟩, ⟨y2_12, k5 _ _ p.n.2.2.1 (N4' _ hm4).1, hoc, _, hod⟩, F4.change s5 p.n.2.2.2.2.2.2.2.2 p.o.2.2, (hoC.ns zC).sameBut s5 p.n.2.2.2.2.2.1, fun q hq => ?_, off4⟩, hm4, ?_⟩
    · rcases List.mem_cons.mp hq with rfl | hq
      · exact ⟨hD5.trans (congrArg some (lst_snoc ys yv)), p.n.2.2.2.2.2.2.2.2, p.o.2.2⟩
      · exact ⟨k5 _ _ (offm q hq).2.2 (N4' q hq).1, (N4' q hq).2⟩
    · rw [show y3_2.size - (i + 1) = j by omega]
      exact rest4
  · obtain rfl : i = y3_2.size := Nat.le_antisymm hi (Nat.not_lt.mp hlt)
    rw [Nat.sub_self] at rest1
    exact chp_done hh p c1 fun g2 t2 F2 n2 N2 => fin g2 t2 _ ys n F2 n2 N2 c1.off rest1) fun q hf => ?_
  simpa only using fq hf (@Eq _ 5 5)
def SrcT (prog : Program) (w : World) (A : Around) (h₀ : Heap) (L : Addr) (m : Str → Option Value) (env : Env) (elt : Expr) (x x₂ : Str) (scope : Scope) (cl : List (Str × Addr)) (Fin : Shared → List Value → Led → Prop) (xv : Value) (s₁ : Shared) : Prop :=
  ∃ ax ox its nx news, xv = .ref ax ∧ A.handled = none ∧ Fr h₀ L s₁.heap m ∧ News h₀ L s₁.heap news ∧ (ax, ox) ∈ news ∧ ox.cls = .type "tuple" ∧ ox.data = .seq its nx ∧ its.size ≤ sizeLine ∧
    ∀ g t, CompRestP prog w A h₀ L m env elt x x₂ scope cl { s₁ with heap := g, toks := t } (fun n => (ax, ox) ∈ n) (fun i v => its[i]? = some v) (Fin { s₁ with heap := g, toks := t }) its.size 0 [] news
theorem SrcT.intro {elt : Expr} {x x₂ : Str} {scope : Scope} {cl : List (Str × Addr)} {Fin : Shared → List Value → Led → Prop} {ax : Addr} {l : List Value} {news : Led} {s₁ : Shared} (hh : A.handled = none) (F : Fr h₀ L s₁.heap m) (N : News h₀ L s₁.heap news) (hm : (ax, tp l) ∈ news) (hsz : l.length ≤ sizeLine)
    (h : ∀ g t, CompRestP prog w A h₀ L m env elt x x₂ scope cl { s₁ with heap := g, toks := t } (fun n => (ax, tp l) ∈ n) (fun i v => l.toArray[i]? = some v) (Fin { s₁ with heap := g, toks := t }) l.length 0 [] news) :
    SrcT prog w A h₀ L m env elt x x₂ scope cl Fin (.ref ax) s₁ := ⟨ax, _, l.toArray, _, news, rfl, hh, F, N, hm, rfl, rfl, hsz, h⟩
theorem Assign_ListComp_T {elt iter : Expr} {x x₂ y : Str} {px px₂ tpos py : Pos} {tk} {scope : Scope} {cl : List (Str × Addr)} {pos spos : Pos} {Q : Flow → Shared → Prop} (F₀ : Fr h₀ L s.heap m) (hLe : env.locals = L)
    (hsw : swapsWith (.ListComp elt [⟨.Tuple [.Name x px, .Name x₂ px₂] tk tpos, iter, [], 0⟩] scope pos) (some (.Name y py)) spos.line env = pure true)
    (hclos : closureFor scope env = pure cl) (hcell : ∀ z ∈ scope.names, z.2 ≠ .cell) (hkind : scope.kind = .function)
    (hnames : ∀ z ∈ scope.names, z.2 = .local → scope.names.lookup z.1 = some .local) (hx : scope.names.lookup x = some .local) (hx₂ : scope.names.lookup x₂ = some .local) (hxx : x ≠ x₂)
    (hy : env.kindOf y = some .local) (hp : (env.scope.kind == .class || (env.scope.kind == .module && env.locals != env.globals)) = false)
    (h : wpAny (model prog w) A (eval iter env) (SrcT prog w A h₀ L m env elt x x₂ scope cl (fun s₂ => FinA h₀ L m s₂ y Q)) E s)
    (hs : ∀ x, foldedSetIterable iter env x = pure x := by intro _; rfl) :
    wpAny (model prog w) A (exec (.Assign [.Name y py] (.ListComp elt [⟨.Tuple [.Name x px, .Name x₂ px₂] tk tpos, iter, [], 0⟩] scope pos) spos) env) Q E s := by
  subst hLe
  rw [exec_Assign_Name_used _ _ _ _ hsw]
  refine wpAny_bind (wpAny_standAt (wpAny_bind ?_))
  show wpAny _ A (do let _ ← comprehension (.ListComp elt [⟨.Tuple [.Name x px, .Name x₂ px₂] tk tpos, iter, [], 0⟩] scope pos) scope env _ (newList []) false (eval iter env) (some (assign (.Name y py) env))) _ _ s
  refine wpAny_bind (wpAny_mono (wpAny_comprehension_free (use := some (assign (.Name y py) env)) (Q := fun _ s' => Q .next s') rfl hs hclos hkind hnames (wpAny_mono h (fun xv s₁ h₁ => ?_) fun _ _ e => e)) (fun _ s' hq => wpAny_pure (wpAny_pure hq)) fun _ _ e => e)
  refine viaP fun PZ kZ => ?_
  obtain ⟨ax, ox, its, nx, news, rfl, hh, F, N, hm, hoc, hod, hsz, rest⟩ := h₁
  refine kZ ?_; clear kZ PZ
  have hT : s₁.heap.IsTuple ax its := ⟨ox, (N _ hm).1, hoc, _, hod⟩
  have hax : ax < s₁.heap.objs.size := Heap.lt_size (N _ hm).1
  refine wpAny_pyIter_tuple hT ?_
  -- the iterator, the list, the frame
  refine wpAny_newObj_type (wpAny_newFunctionEnv hcell (by intro z hz; simp at hz) (fun h₃ hns₃ hsb₃ => ?_) hkind)
  dsimp only at hns₃ hsb₃ ⊢
  generalize hH1 : s₁.heap.push { cls := .type "tuple_iterator", data := .fields #[.ref ax, .int 0 0] } = H1 at hns₃ hsb₃ ⊢
  generalize hH2 : H1.push { cls := .type "list", dict := none, data := .seq ([] : List Value).toArray } = H2 at hns₃ hsb₃ ⊢
  have z1 : H1.objs.size = s₁.heap.objs.size + 1 := by rw [← hH1, Heap.size_push]
  have z2 : H2.objs.size = s₁.heap.objs.size + 2 := by rw [← hH2, Heap.size_push, z1]
  have up1 : ∀ b o, s₁.heap.get? b = some o → H1.get? b = some o := fun b o e => hH1 ▸ Heap.get?_push_of_some _ e
  have up2 : ∀ b o, H1.get? b = some o → H2.get? b = some o := fun b o e => hH2 ▸ Heap.get?_push_of_some _ e
  have up3 : ∀ b o, H2.get? b = some o → h₃.get? b = some o := fun b o e => hsb₃.extBut b o (Nat.ne_of_lt (Heap.lt_size e)) (Heap.get?_push_of_some _ e)
  have up : ∀ b o, s₁.heap.get? b = some o → h₃.get? b = some o := fun b o e => up3 b o (up2 b o (up1 b o e))
  have hL : env.locals < s₁.heap.objs.size := F.ns.lt
  have fresh₀ : ∀ a, s₁.heap.objs.size ≤ a → h₀.get? a = none := fun a ha => by
    cases e : h₀.get? a with
    | none => rfl
    | some o' => exact absurd (Heap.lt_size (F.keep a o' e)) (Nat.not_lt.mpr ha)
  have P : CPl h₀ env.locals s₁.heap.objs.size H2.objs.size H1.objs.size ax :=
    ⟨⟨Nat.ne_of_lt hax, Nat.ne_of_lt (Nat.lt_of_lt_of_le hax (by omega)), Nat.ne_of_lt (Nat.lt_of_lt_of_le hax (by omega)), Nat.ne_of_lt (by omega), Nat.ne_of_lt (by omega), Nat.ne_of_gt (by omega), Nat.ne_of_lt hL, Nat.ne_of_gt (Nat.lt_of_lt_of_le hL (by omega)), Nat.ne_of_gt (Nat.lt_of_lt_of_le hL (by omega))⟩, fresh₀ _ (Nat.le_refl _), fresh₀ _ (by omega), fresh₀ _ (by omega)⟩
  have c : CHp h₀ env.locals m s₁.heap.objs.size H2.objs.size H1.objs.size ax its 0 (fun x => List.lookup x ([] : List (Str × Value)).reverse) [] news h₃ := by
    refine ⟨⟨_, up3 _ _ (up2 _ _ (hH1 ▸ Heap.get?_push_size _ rfl)), rfl, rfl⟩, hT.at fun o e => up ax o e, F.keeps up, hns₃, fun q hq => ?_, Off3.of fun q hq => ?_⟩
    · rcases List.mem_cons.mp hq with rfl | hq
      · exact ⟨up3 _ _ (hH2 ▸ Heap.get?_push_size _ rfl), P.n.2.2.2.2.2.2.2.2, P.o.2.2⟩
      · exact ⟨up _ _ (N q hq).1, (N q hq).2⟩
    · have := Heap.lt_size (N q hq).1
      exact ⟨Nat.ne_of_lt this, Nat.ne_of_lt (Nat.lt_of_lt_of_le this (by omega)), Nat.ne_of_lt (Nat.lt_of_lt_of_le this (by omega))⟩
  have fin : ∀ g t m' ys n, Fr h₀ env.locals g m → g.Ns H2.objs.size m' → News h₀ env.locals g ((H1.objs.size, lst ys) :: n) → Off3 s₁.heap.objs.size H2.objs.size H1.objs.size n → FinA h₀ env.locals m { s₁ with heap := h₃, toks := s₁.toks } y Q ys n → compPost (model prog w) A E (some (assign (.Name y py) env)) (fun _ s' => Q .next s') (.ref H1.objs.size) H2.objs.size (.ok .next) { s₁ with heap := g, toks := t } := by
    intro g t m' ys n F' hn N' o3 fin
    show wpAny _ A (assign (.Name y py) env (.ref H1.objs.size)) _ _ _
    refine wpAny_assign_Name (wpAny_storeName_local hy F'.ns (fun h₂ hn₂ hs₂ => ?_) hp)
    have hL₀ : h₀.get? env.locals = none := Heap.get?_none_of_le F'.above
    have F₂ : Fr h₀ env.locals h₂ (fun z => if z = y then some (.ref H1.objs.size) else m z) := ⟨hn₂, fun b o e => hs₂.extBut b o (fun q => by rw [q, hL₀] at e; cases e) (F'.keep b o e), F'.above⟩
    refine ⟨m', hn.sameBut hs₂ P.n.2.2.2.2.2.2.2.1, fun h'' hs'' => fin _ h'' _ (F₂.change hs'' P.n.2.2.2.2.2.2.2.1 P.o.2.1) (fun q hq => ?_) o3.one⟩
    have z : h₂.get? q.1 = some q.2 := hs₂.extBut _ _ (N' q hq).2.1 (N' q hq).1
    refine ⟨hs''.extBut _ _ ?_ z, (N' q hq).2⟩
    rcases List.mem_cons.mp hq with rfl | hq
    · exact Ne.symm P.n.2.2.2.2.2.1
    · exact (o3.mem q hq).2.1
  haveI L0 := fun t0 => (chp_loop (iter := iter) (tk := tk) (px := px) (px₂ := px₂) (tpos := tpos) (pos := pos) (s := { s₁ with heap := h₃, toks := s₁.toks }) (t0 := t0) _ _ _ _ _ _ _ _ _ _ _ _ _ _ _ _ _ _ _ _ _ _ _ _) hh P hkind hx hx₂ hxx hsz hoc hod fin c hm (rest h₃ s₁.toks)
  exact codeAny_compStart_list (L0 _) ((Walks.tuple hh s₁.heap.objs.size ax P.n.1 its).self 0 _ _ _ ⟨c.it, c.src⟩ (L0 _))
theorem off3_app {I C D : Addr} {a b : Led} (h : ∀ p ∈ a, p.1 ≠ I ∧ p.1 ≠ C ∧ p.1 ≠ D) (h2 : Off3 I C D b) : Off3 I C D (a ++ b) := Off3.of fun p hp => by
  rcases List.mem_append.mp hp with hp | hp
  · exact h p hp
  · exact h2.mem p hp
theorem compEnd_app {I C D : Addr} {s₁ : Shared} {oI oC oD : Obj} {S : Led → Prop} {rest : Value → Led → Prop} {y : Value} {h' : Heap} {tk : Nat} {tl news : Led} (F : Fr h₀ L h' m) (N : News h₀ L h' (tl ++ (I, oI) :: (C, oC) :: (D, oD) :: news)) (lt : ∀ q ∈ tl, ∀ p ∈ (I, oI) :: (C, oC) :: (D, oD) :: news, @LT.lt Nat _ p.1 q.1) (off : Off3 I C D news) (hS : S (tl ++ news)) (r : rest y (tl ++ news)) :
    CompEnd h₀ L m s₁ I oI C oC D oD S rest y { s₁ with heap := h', toks := tk } :=
  CompEnd.intro F N (tl ++ news) (fun p hp => by
    rcases List.mem_cons.mp hp with rfl | hp
    · exact List.mem_append_right _ (.head _)
    · rcases List.mem_cons.mp hp with rfl | hp
      · exact List.mem_append_right _ (.tail _ (.head _))
      · rcases List.mem_cons.mp hp with rfl | hp
        · exact List.mem_append_right _ (.tail _ (.tail _ (.head _)))
        · rcases List.mem_append.mp hp with hp | hp
          · exact List.mem_append_left _ hp
          · exact List.mem_append_right _ (.tail _ (.tail _ (.tail _ hp))))
    (off3_app (fun p hp => ⟨Nat.ne_of_gt (lt p hp _ (.head _)), Nat.ne_of_gt (lt p hp _ (.tail _ (.head _))), Nat.ne_of_gt (lt p hp _ (.tail _ (.tail _ (.head _))))⟩) off) hS r
end
theorem words20 : True := by
  k_with "G20" => (
    k_with "!exec Assign cons ListComp" => (k_here; k_dflt (refine' Assign_ListComp_T ?z56F ?z56a ?z56b ?z56c ?z56d ?z56e ?z56f ?z56g ?z56h ?z56i ?z56j ?z56k ?_; (case z56F => k_asm); (case z56a => exact rfl); (case z56b => with_unfolding_all rfl); (case z56c => with_unfolding_all rfl); (case z56d => decide); (case z56e => exact rfl); (case z56f => decide); (case z56g => exact rfl); (case z56h => exact rfl); (case z56i => decide); (case z56j => exact rfl); (case z56k => exact rfl); k_whole))
    k_with "!exec Assign cons ListComp" => (k_here; k_extra "compW")
    k_with "!SrcT" => (k_here; k_dflt ((refine' SrcT.intro ?q661 ?q662 ?q663 ?q664 ?q665 ?_; (case q661 => rfl); (case q662 => k_asm); (case q663 => k_asm); (case q664 => k_mem); (case q665 => first | decide | exact Nat.le_of_ble_eq_true rfl)); intro g' t'))
    k_with "!CompEnd" => (k_here; k_dflt (refine' compEnd_app ?z57F ?z57N ?z57l ?z57o ?z57S ?_; (case z57F => k_asm); (case z57N => k_asm); (case z57l => assumption); (case z57o => assumption); (case z57S => k_mem); k_whole)))
  k_extra "G20"
  trivial
-- L7
theorem Vw.comp {led : Led} {g g' : Led → Led} (V : Vw led g) (W : Vw led g') (h : ∀ n n' : Led, (∀ p ∈ n, p ∈ n') → ∀ p ∈ g' n, p ∈ g' n') : Vw led (fun n => g (g' n)) :=
  ⟨fun n n' s => V.mono _ _ (h n n' s), fun n a l hp f => V.new _ a l (W.new n a l hp f) f, fun n p hp => W.sub n p (V.sub _ p hp)⟩
theorem l_opC {w : World} {I C D : Addr} {oI oC oD : Obj} {news : Led} {v1 v2 : Value} {T1 T2 : TR} {x : Str} {t : Tok} (o : Op) (e : x = o.word) (off : PyProof.Rows.LCg.Off3 I C D news) (h1 : Told (Tup news) v1 T1) (h2 : Told (Tup news) v2 T2) :
    SpecPW w 2 16 844 [.str x t, v1, v2] ((I, oI) :: (C, oC) :: (D, oD) :: news) (fun v n => ∀ tl, n = tl ++ (I, oI) :: (C, oC) :: (D, oD) :: news → Stands (Tup (tl ++ news)) v (.bin o T1 T2)) := by
  subst e
  have m1 : ∃ o, (I, o) ∈ (I, oI) :: (C, oC) :: (D, oD) :: news := ⟨oI, .head _⟩
  have m2 : ∃ o, (C, o) ∈ (I, oI) :: (C, oC) :: (D, oD) :: news := ⟨oC, .tail _ (.head _)⟩
  have m3 : ∃ o, (D, o) ∈ (I, oI) :: (C, oC) :: (D, oD) :: news := ⟨oD, .tail _ (.tail _ (.head _))⟩
  have V3 := Vw.ex m3
  have V2 := (Vw.ex m2).comp V3 V3.mono
  have V1 := (Vw.ex m1).comp V2 V2.mono
  have V := (Vw.tup (led := (I, oI) :: (C, oC) :: (D, oD) :: news)).comp V1 V1.mono
  have key : ∀ tl : Led, (∀ q ∈ tl, ∀ p ∈ (I, oI) :: (C, oC) :: (D, oD) :: news, @LT.lt Nat _ p.1 q.1) → ∀ p ∈ Ex I (Ex C (Ex D (tl ++ (I, oI) :: (C, oC) :: (D, oD) :: news))), p ∈ tl ++ news := by
    intro tl hl p hp
    have a := Ex.mem.mp hp
    have b := Ex.mem.mp a.1
    have c := Ex.mem.mp b.1
    rcases List.mem_append.mp c.1 with q | q
    · exact List.mem_append_left _ q
    · rcases List.mem_cons.mp q with rfl | q
      · exact absurd rfl a.2
      · rcases List.mem_cons.mp q with rfl | q
        · exact absurd rfl b.2
        · rcases List.mem_cons.mp q with rfl | q
          · exact absurd rfl c.2
          · exact List.mem_append_right _ q
  have toV : ∀ p ∈ Tup news, p ∈ Tup (Ex I (Ex C (Ex D ((I, oI) :: (C, oC) :: (D, oD) :: news)))) := fun p hp => by
    have a := Tup.mem.mp hp
    have q := off.mem p a.1
    exact Tup.mem.mpr ⟨Ex.mem.mpr ⟨Ex.mem.mpr ⟨Ex.mem.mpr ⟨.tail _ (.tail _ (.tail _ a.1)), q.2.2⟩, q.2.1⟩, q.1⟩, a.2⟩
  refine (l_op (o := o) V (h1.sub toV) (h2.sub toV)).weakG (Nat.le_refl _) (Nat.le_refl _) fun v n gr h => ?_
  obtain ⟨tl, rfl, hl⟩ := gr
  intro tl2 e
  have e2 := List.append_cancel_right e
  subst e2
  exact h.sub fun p hp => Tup.mem.mpr ⟨key tl hl p (Tup.mem.mp hp).1, (Tup.mem.mp hp).2⟩
-- LX
theorem memT {p : Addr × Obj} {m m' l : Led} (h : p ∈ m) (g : ∀ q ∈ m, q ∈ l) (S : ∀ q ∈ l, q ∈ m') : p ∈ m' := S _ (g _ h)
theorem Lays.sub {m m' : Led} {v : Value} {i : Nat} {T : TR} (h : Lays m v i T) (g : ∀ p ∈ m, p ∈ m') : Lays m' v i T := by
  obtain ⟨c, e, h⟩ := h
  exact ⟨c, e, h.sub g⟩
theorem Doss.sub {m m' : Led} {v : Value} {lab last : Int} (h : Doss m v lab last) (g : ∀ p ∈ m, p ∈ m') : Doss m' v lab last := by
  obtain ⟨c, e, h⟩ := h
  exact ⟨c, e, h.sub g⟩
abbrev PS (T : TR) : Led → Value → Prop := fun m v => Stands m v T
abbrev PL (i : Nat) (T : TR) : Led → Value → Prop := fun m v => Lays m v i T
abbrev PDo (lab last : Int) : Led → Value → Prop := fun m v => Doss m v lab last
theorem memL5 {r : Addr} {a b c d e : Value} {l : List Value} {k : Nat} {led : Led} (h : (r, listOf (a :: b :: c :: d :: e :: l).toArray k) ∈ led) : (r, listOf (a :: b :: c :: d :: e :: l).toArray k) ∈ led := h
/-- the tuples of the one stand in the other -/
def Gr (l n : Led) : Prop := ∀ p ∈ Tup l, p ∈ Tup n
theorem Gr.tl {x : Addr × Obj} {l n : Led} (S : Gr (x :: l) n) : Gr l n := fun p hp => S p (Tup.mem.mpr ⟨.tail _ (Tup.mem.mp hp).1, (Tup.mem.mp hp).2⟩)
theorem Gr.hd {a : Addr} {v : List Value} {l n : Led} (S : Gr ((a, tp v) :: l) n) : (a, tp v) ∈ Tup n := S _ (Tup.mem.mpr ⟨.head _, rfl⟩)
theorem Gr.app {a b n : Led} (S : Gr (a ++ b) n) : Gr b n := fun p hp => S p (Tup.mem.mpr ⟨List.mem_append_right _ (Tup.mem.mp hp).1, (Tup.mem.mp hp).2⟩)
theorem Gr.apl {a b n : Led} (S : Gr (a ++ b) n) : Gr a n := fun p hp => S p (Tup.mem.mpr ⟨List.mem_append_left _ (Tup.mem.mp hp).1, (Tup.mem.mp hp).2⟩)
theorem Gr.refl {n : Led} : Gr n n := fun _ h => h
theorem Gr.trans {a b c : Led} (S : Gr a b) (T : Gr b c) : Gr a c := fun p hp => T p (S p hp)
section
variable {D U : Nat} {f : Addr} {args : List Value} {led : Led} {w : World} {p : Program} {loose : List Str} {mean : ExcName → Option Value} {mg mb : Str → Option Value} {dp un : Nat} {gd : Option (List Code)} {cn : Str} {cs : Scope} {a : Addr} {ccd : Value} {cl : List (Str × Addr)} {outer : List Env} {A₀ : Around} {base h₀ : Heap} {L : Addr} {m : Str → Option Value} {s : Shared} {Q E : Value → Shared → Prop}
/-- a call of a maker, no list at hand -/
theorem specY_use (P : Led → Value → Prop) (C : SpecPW w D U f args led (fun v n => P (Tup n) v))
    (B : Below A₀ base outer h₀) (F : Fr h₀ L s.heap m) (X : (KK w.params).In h₀) (N : News h₀ L s.heap led) (T : Top p loose mean mg mb h₀) (hk : cs.kind = .function) (hd : dp + D < recursionLimit) (hu : un + U < cLine)
    (ret : ∀ v n h' tk', Fr h₀ L h' m → News h₀ L h' n → (∀ p ∈ led, p ∈ n) → (∀ p ∈ Tup led, p ∈ Tup n) → P (Tup n) v → Q v { s with heap := h', toks := tk' }) :
    wpAny (model PySem.Challenge.rw_sz0042_01.row.prog w) (ktrTop dp un gd cn cs L a ccd cl outer) (call (.ref f) args) Q E s :=
  C _ _ _ _ _ _ _ _ _ _ _ _ _ _ _ _ _ _ _ _ _ _ B F X N T hk hd hu fun v tl h' tk' F' N' _ hp => ret v (tl ++ led) h' tk' F' N' (fun _ h => List.mem_append_right _ h) (fun _ h => by rw [Tup.app]; exact List.mem_append_right _ h) hp
/-- a call of a maker, a list at hand: the list stays ahead -/
theorem specX_use (P : Led → Value → Prop) {r : Addr} {l : Array Value} {k : Nat} (hm : (r, listOf l k) ∈ led) (hP : ∀ m m', (∀ p ∈ m, p ∈ m') → ∀ v, P m v → P m' v) (C : SpecPW w D U f args led (fun v n => P (Tup n) v))
    (B : Below A₀ base outer h₀) (F : Fr h₀ L s.heap m) (X : (KK w.params).In h₀) (N : News h₀ L s.heap led) (T : Top p loose mean mg mb h₀) (hk : cs.kind = .function) (hd : dp + D < recursionLimit) (hu : un + U < cLine)
    (ret : ∀ v n h' tk', Fr h₀ L h' m → News h₀ L h' ((r, listOf l k) :: n) → (∀ p ∈ n, p.1 ≠ r) → (∀ p ∈ led, p.1 ≠ r → p ∈ n) → (∀ p ∈ Tup led, p ∈ Tup n) → P (Tup n) v → Q v { s with heap := h', toks := tk' }) :
    wpAny (model PySem.Challenge.rw_sz0042_01.row.prog w) (ktrTop dp un gd cn cs L a ccd cl outer) (call (.ref f) args) Q E s :=
  C _ _ _ _ _ _ _ _ _ _ _ _ _ _ _ _ _ _ _ _ _ _ B F X N T hk hd hu fun v tl h' tk' F' N' _ hp => by
    have key : ∀ p ∈ Tup (tl ++ led), p ∈ Tup (Ex r (tl ++ led)) := fun p hp => by
      obtain ⟨h1, h2⟩ := Tup.mem.mp hp
      refine Tup.mem.mpr ⟨Ex.mem.mpr ⟨h1, fun e => ?_⟩, h2⟩
      have e2 : p.2 = listOf l k := fn_news N' p h1 _ (List.mem_append_right _ hm) e
      rw [e2] at h2
      exact absurd h2 (by show Value.type "list" ≠ _; decide)
    refine ret v (Ex r (tl ++ led)) h' tk' F' (fun p hp => ?_) (fun p hp => (Ex.mem.mp hp).2) (fun p hp hn => Ex.mem.mpr ⟨List.mem_append_right _ hp, hn⟩) (fun p hp => key p (by rw [Tup.app]; exact List.mem_append_right _ hp)) (hP _ _ key v hp)
    rcases List.mem_cons.mp hp with rfl | hp
    · exact N' _ (List.mem_append_right _ hm)
    · exact N' p (Ex.mem.mp hp).1
theorem specY_S {T9 : TR} (C : SpecPW w D U f args led (fun v n => Stands (Tup n) v T9)) (B : Below A₀ base outer h₀) (F : Fr h₀ L s.heap m) (X : (KK w.params).In h₀) (N : News h₀ L s.heap led) (T : Top p loose mean mg mb h₀) (hk : cs.kind = .function) (hd : dp + D < recursionLimit) (hu : un + U < cLine)
    (ret : ∀ v n h' tk', Fr h₀ L h' m → News h₀ L h' n → (∀ p ∈ led, p ∈ n) → Gr led n → Stands (Tup n) v T9 → Q v { s with heap := h', toks := tk' }) : wpAny (model PySem.Challenge.rw_sz0042_01.row.prog w) (ktrTop dp un gd cn cs L a ccd cl outer) (call (.ref f) args) Q E s := specY_use (PS T9) C B F X N T hk hd hu ret
theorem specX_S {T9 : TR} {r : Addr} {l : Array Value} {k : Nat} (hm : (r, listOf l k) ∈ led) (C : SpecPW w D U f args led (fun v n => Stands (Tup n) v T9)) (B : Below A₀ base outer h₀) (F : Fr h₀ L s.heap m) (X : (KK w.params).In h₀) (N : News h₀ L s.heap led) (T : Top p loose mean mg mb h₀) (hk : cs.kind = .function) (hd : dp + D < recursionLimit) (hu : un + U < cLine)
    (ret : ∀ v n h' tk', Fr h₀ L h' m → News h₀ L h' ((r, listOf l k) :: n) → (∀ p ∈ n, p.1 ≠ r) → (∀ p ∈ led, p.1 ≠ r → p ∈ n) → Gr led n → Stands (Tup n) v T9 → Q v { s with heap := h', toks := tk' }) : wpAny (model PySem.Challenge.rw_sz0042_01.row.prog w) (ktrTop dp un gd cn cs L a ccd cl outer) (call (.ref f) args) Q E s := specX_use (PS T9) hm (fun _ _ g _ h => h.sub g) C B F X N T hk hd hu ret
theorem specY_L {i9 : Nat} {T9 : TR} (C : SpecPW w D U f args led (fun v n => Lays (Tup n) v i9 T9)) (B : Below A₀ base outer h₀) (F : Fr h₀ L s.heap m) (X : (KK w.params).In h₀) (N : News h₀ L s.heap led) (T : Top p loose mean mg mb h₀) (hk : cs.kind = .function) (hd : dp + D < recursionLimit) (hu : un + U < cLine)
    (ret : ∀ v n h' tk', Fr h₀ L h' m → News h₀ L h' n → (∀ p ∈ led, p ∈ n) → Gr led n → Lays (Tup n) v i9 T9 → Q v { s with heap := h', toks := tk' }) : wpAny (model PySem.Challenge.rw_sz0042_01.row.prog w) (ktrTop dp un gd cn cs L a ccd cl outer) (call (.ref f) args) Q E s := specY_use (PL i9 T9) C B F X N T hk hd hu ret
theorem specX_L {i9 : Nat} {T9 : TR} {r : Addr} {l : Array Value} {k : Nat} (hm : (r, listOf l k) ∈ led) (C : SpecPW w D U f args led (fun v n => Lays (Tup n) v i9 T9)) (B : Below A₀ base outer h₀) (F : Fr h₀ L s.heap m) (X : (KK w.params).In h₀) (N : News h₀ L s.heap led) (T : Top p loose mean mg mb h₀) (hk : cs.kind = .function) (hd : dp + D < recursionLimit) (hu : un + U < cLine)
    (ret : ∀ v n h' tk', Fr h₀ L h' m → News h₀ L h' ((r, listOf l k) :: n) → (∀ p ∈ n, p.1 ≠ r) → (∀ p ∈ led, p.1 ≠ r → p ∈ n) → Gr led n → Lays (Tup n) v i9 T9 → Q v { s with heap := h', toks := tk' }) : wpAny (model PySem.Challenge.rw_sz0042_01.row.prog w) (ktrTop dp un gd cn cs L a ccd cl outer) (call (.ref f) args) Q E s := specX_use (PL i9 T9) hm (fun _ _ g _ h => h.sub g) C B F X N T hk hd hu ret
theorem specY_D {a9 b9 : Int} (C : SpecPW w D U f args led (fun v n => Doss (Tup n) v a9 b9)) (B : Below A₀ base outer h₀) (F : Fr h₀ L s.heap m) (X : (KK w.params).In h₀) (N : News h₀ L s.heap led) (T : Top p loose mean mg mb h₀) (hk : cs.kind = .function) (hd : dp + D < recursionLimit) (hu : un + U < cLine)
    (ret : ∀ v n h' tk', Fr h₀ L h' m → News h₀ L h' n → (∀ p ∈ led, p ∈ n) → Gr led n → Doss (Tup n) v a9 b9 → Q v { s with heap := h', toks := tk' }) : wpAny (model PySem.Challenge.rw_sz0042_01.row.prog w) (ktrTop dp un gd cn cs L a ccd cl outer) (call (.ref f) args) Q E s := specY_use (PDo a9 b9) C B F X N T hk hd hu ret
theorem specX_D {a9 b9 : Int} {r : Addr} {l : Array Value} {k : Nat} (hm : (r, listOf l k) ∈ led) (C : SpecPW w D U f args led (fun v n => Doss (Tup n) v a9 b9)) (B : Below A₀ base outer h₀) (F : Fr h₀ L s.heap m) (X : (KK w.params).In h₀) (N : News h₀ L s.heap led) (T : Top p loose mean mg mb h₀) (hk : cs.kind = .function) (hd : dp + D < recursionLimit) (hu : un + U < cLine)
    (ret : ∀ v n h' tk', Fr h₀ L h' m → News h₀ L h' ((r, listOf l k) :: n) → (∀ p ∈ n, p.1 ≠ r) → (∀ p ∈ led, p.1 ≠ r → p ∈ n) → Gr led n → Doss (Tup n) v a9 b9 → Q v { s with heap := h', toks := tk' }) : wpAny (model PySem.Challenge.rw_sz0042_01.row.prog w) (ktrTop dp un gd cn cs L a ccd cl outer) (call (.ref f) args) Q E s := specX_use (PDo a9 b9) hm (fun _ _ g _ h => h.sub g) C B F X N T hk hd hu ret
end
theorem News.tl {h₀ h : Heap} {L : Addr} {x : Addr × Obj} {n : Led} (N : News h₀ L h (x :: n)) : News h₀ L h n := fun p hp => N p (.tail _ hp)
theorem partsT {d r : Addr} {a b c e : Value} {k : Nat} {led n : Led} (K : ∀ p ∈ led, p.1 ≠ r → p ∈ n) (hm : (d, listOf [a, b, c, e].toArray k) ∈ led) (hn : d ≠ r) : (d, listOf [a, b, c, e].toArray k) ∈ n := K _ hm hn
/-- what stood at the call still stands -/
def Kept (led n : Led) : Prop := ∀ p ∈ led, p ∈ n
theorem Kept.refl {led : Led} : Kept led led := fun _ h => h
theorem Kept.y {led0 m led n : Led} (h : Kept led0 m) (g : ∀ p ∈ m, p ∈ led) (K : ∀ p ∈ led, p ∈ n) : Kept led0 n := fun p hp => K p (g p (h p hp))
theorem Kept.x {led0 m led n : Led} {r : Addr} (h : Kept led0 m) (g : ∀ p ∈ m, p ∈ led) (K : ∀ p ∈ led, p.1 ≠ r → p ∈ n) (hn : ∀ p ∈ m, p.1 ≠ r) : Kept led0 n := fun p hp => K p (g p (h p hp)) (hn p (h p hp))
/-- the rows of the rule stand -/
structure Rows15 (n : Led) (r s : Nat → Addr) : Prop where
  row : ∀ i, i < 15 → ∃ t, (r i, tp [.int (labOf i) t, .ref (s i)]) ∈ n
  asg : ∀ i, i < 15 → i ≠ 3 → i ≠ 5 → i ≠ 11 → i ≠ 14 → LaysA n (s i) (aT i) (aE i)
  lif : ∃ ya yb a b t t1 t2 t3 t4 t5 t6 t7 t8, (s 5, tp [.str (Str.ofString "lif") t, .ref ya, .ref yb]) ∈ n ∧ (ya, tp [.str (Str.ofString "eq") t1, .int 4 t2, .ref a, .ref b]) ∈ n ∧ (a, tp [.str (Str.ofString "var") t3, .int 0 t4, .str (Str.ofString "K") t5]) ∈ n ∧ (b, tp [.str (Str.ofString "const") t6, .int 0 t7, .int 2 t8]) ∈ n ∧ LaysA n yb (aT 5) (aE 5)
  do1 : DosA n (s 3) 10 3
  do2 : DosA n (s 11) 20 2
  fin : ∃ t, (s 14, tp [.str (Str.ofString "end") t]) ∈ n
theorem ruleEnd {led n : Led} {v : Value} {ls : Addr} {k : Nat} {r0 r1 r2 r3 r4 r5 r6 r7 r8 r9 r10 r11 r12 r13 r14 s0 s1 s2 s3 s4 s5 s6 s7 s8 s9 s10 s11 s12 s13 s14 ya yb a b : Addr} {t0 t1 t2 t3 t4 t5 t6 t7 t8 t9 t10 t11 t12 t13 t14 u0 u1 u2 u3 u4 u5 u6 u7 u8 u9 : Tok}
    (hv : v = .ref ls) (hls : (ls, listOf ([.ref r0, .ref r1, .ref r2, .ref r3, .ref r4, .ref r5, .ref r6, .ref r7, .ref r8, .ref r9, .ref r10, .ref r11, .ref r12, .ref r13, .ref r14] : List Value).toArray k) ∈ n) (hk : Kept led n)
    (h0 : (r0, tp [.int 0 t0, .ref s0]) ∈ Tup n)    (h1 : (r1, tp [.int 0 t1, .ref s1]) ∈ Tup n)    (h2 : (r2, tp [.int 0 t2, .ref s2]) ∈ Tup n)    (h3 : (r3, tp [.int 0 t3, .ref s3]) ∈ Tup n)
    (h4 : (r4, tp [.int 0 t4, .ref s4]) ∈ Tup n)    (h5 : (r5, tp [.int 0 t5, .ref s5]) ∈ Tup n)    (h6 : (r6, tp [.int 0 t6, .ref s6]) ∈ Tup n)    (h7 : (r7, tp [.int 10 t7, .ref s7]) ∈ Tup n)
    (h8 : (r8, tp [.int 0 t8, .ref s8]) ∈ Tup n)    (h9 : (r9, tp [.int 0 t9, .ref s9]) ∈ Tup n)    (h10 : (r10, tp [.int 0 t10, .ref s10]) ∈ Tup n)    (h11 : (r11, tp [.int 0 t11, .ref s11]) ∈ Tup n)
    (h12 : (r12, tp [.int 0 t12, .ref s12]) ∈ Tup n)    (h13 : (r13, tp [.int 20 t13, .ref s13]) ∈ Tup n)    (h14 : (r14, tp [.int 0 t14, .ref s14]) ∈ Tup n)
    (a0 : LaysA (Tup n) s0 (aT 0) (aE 0))    (a1 : LaysA (Tup n) s1 (aT 1) (aE 1))    (a2 : LaysA (Tup n) s2 (aT 2) (aE 2))    (a4 : LaysA (Tup n) s4 (aT 4) (aE 4))    (a6 : LaysA (Tup n) s6 (aT 6) (aE 6))    (a7 : LaysA (Tup n) s7 (aT 7) (aE 7))    (a8 : LaysA (Tup n) s8 (aT 8) (aE 8))    (a9 : LaysA (Tup n) s9 (aT 9) (aE 9))    (a10 : LaysA (Tup n) s10 (aT 10) (aE 10))    (a12 : LaysA (Tup n) s12 (aT 12) (aE 12))    (a13 : LaysA (Tup n) s13 (aT 13) (aE 13))
    (d3 : DosA (Tup n) s3 10 3) (d11 : DosA (Tup n) s11 20 2) (e14 : (s14, tp [.str (Str.ofString "end") u9]) ∈ Tup n)
    (l0 : (s5, tp [.str (Str.ofString "lif") u0, .ref ya, .ref yb]) ∈ Tup n) (l1 : (ya, tp [.str (Str.ofString "eq") u1, .int 4 u2, .ref a, .ref b]) ∈ Tup n) (l2 : (a, tp [.str (Str.ofString "var") u3, .int 0 u4, .str (Str.ofString "K") u5]) ∈ Tup n) (l3 : (b, tp [.str (Str.ofString "const") u6, .int 0 u7, .int 2 u8]) ∈ Tup n) (l4 : LaysA (Tup n) yb (aT 5) (aE 5)) :
    ∃ ls k r s, v = .ref ls ∧ (ls, listOf ((List.range 15).map fun i => Value.ref (r i)).toArray k) ∈ n ∧ Kept led n ∧ Rows15 (Tup n) r s := by
  refine ⟨ls, k, fun i => ([r0, r1, r2, r3, r4, r5, r6, r7, r8, r9, r10, r11, r12, r13, r14] : List Addr).getD i 0, fun i => ([s0, s1, s2, s3, s4, s5, s6, s7, s8, s9, s10, s11, s12, s13, s14] : List Addr).getD i 0, hv, hls, hk, ?_, ?_, ⟨_, _, _, _, _, _, _, _, _, _, _, _, _, l0, l1, l2, l3, l4⟩, d3, d11, _, e14⟩
  · intro i hi
    match i, hi with
    | 0, _ => exact ⟨_, h0⟩
    | 1, _ => exact ⟨_, h1⟩
    | 2, _ => exact ⟨_, h2⟩
    | 3, _ => exact ⟨_, h3⟩
    | 4, _ => exact ⟨_, h4⟩
    | 5, _ => exact ⟨_, h5⟩
    | 6, _ => exact ⟨_, h6⟩
    | 7, _ => exact ⟨_, h7⟩
    | 8, _ => exact ⟨_, h8⟩
    | 9, _ => exact ⟨_, h9⟩
    | 10, _ => exact ⟨_, h10⟩
    | 11, _ => exact ⟨_, h11⟩
    | 12, _ => exact ⟨_, h12⟩
    | 13, _ => exact ⟨_, h13⟩
    | 14, _ => exact ⟨_, h14⟩
    | i + 15, h => omega
  · intro i hi n1 n2 n3 n4
    match i, hi, n1, n2, n3, n4 with
    | 0, _, _, _, _, _ => exact a0
    | 1, _, _, _, _, _ => exact a1
    | 2, _, _, _, _, _ => exact a2
    | 3, _, x, _, _, _ => exact absurd rfl x
    | 4, _, _, _, _, _ => exact a4
    | 5, _, _, x, _, _ => exact absurd rfl x
    | 6, _, _, _, _, _ => exact a6
    | 7, _, _, _, _, _ => exact a7
    | 8, _, _, _, _, _ => exact a8
    | 9, _, _, _, _, _ => exact a9
    | 10, _, _, _, _, _ => exact a10
    | 11, _, _, _, x, _ => exact absurd rfl x
    | 12, _, _, _, _, _ => exact a12
    | 13, _, _, _, _, _ => exact a13
    | 14, _, _, _, _, x => exact absurd rfl x
    | i + 15, h, _, _, _, _ => omega
/-- the tuples of the one stand in the last one -/
structure GF (n M : Led) : Prop where
  out : Gr n M
theorem GF.step {a b M : Led} (T : GF b M) (S : Gr a b) : GF a M := ⟨S.trans T.out⟩
theorem words21 : True := by
  k_with "G21" => (
    k_with "!call ref" => (k_here; k_extra "callX")
    k_with "m:k_upd" => (refine' Upd.head ?z58a; (case z58a => assumption))
    k_with "!call builtin:list.extend" => (k_here; (with_reducible show wpAny _ _ (call (Value.builtin _) [Value.ref _, Value.ref _]) _ _ _); k_dflt (refine' kl_extend ?z59F ?z59N ?z59b ?z59e ?z59ne ?z59U ?z59d ?z59z ?z59y ?_; (case z59F => k_asm); (case z59N => k_asm); (case z59b => k_mem); (case z59U => k_upd); (case z59e => kl_lit); (case z59ne => kl_some); (case z59d => kl_no); (case z59z => kl_room); (case z59y => kl_room)); intro h' F' N'; replace N' := News.tl N'; (try k_sweep)))
  k_extra "G21"
  trivial
-- LA
/-- a call that reads the base heap: what holds there is a premise -/
def SpecH (w : World) (D U : Nat) (f : Addr) (args : List Value) (led : Led) (Φ : Heap → Prop) (post : Value → Prop) : Prop :=
  ∀ (p : Program) (loose : List Str) (mean : ExcName → Option Value) (mg mb : Str → Option Value) (dp un : Nat) (gd : Option (List Code)) (cn : Str) (cs : Scope) (a : Addr) (ccd : Value) (cl : List (Str × Addr)) (outer : List Env) (A₀ : Around) (base h₀ : Heap) (L : Addr) (m : Str → Option Value) (s : Shared) (Q E : Value → Shared → Prop),
   Below A₀ base outer h₀ → Fr h₀ L s.heap m → (KK w.params).In h₀ → News h₀ L s.heap led → Top p loose mean mg mb h₀ → cs.kind = .function → dp + D < recursionLimit → un + U < cLine → Φ h₀ →
   (∀ v h' tk', Fr h₀ L h' m → News h₀ L h' led → post v → Q v { s with heap := h', toks := tk' }) →
   wpAny (model PySem.Challenge.rw_sz0042_01.row.prog w) (ktrTop dp un gd cn cs L a ccd cl outer) (call (.ref f) args) Q E s
theorem specH_use {D U : Nat} {f : Addr} {args : List Value} {led : Led} {Φ : Heap → Prop} {post : Value → Prop} {w : World} (C : SpecH w D U f args led Φ post) {p : Program} {loose : List Str} {mean : ExcName → Option Value} {mg mb : Str → Option Value} {dp un : Nat} {gd : Option (List Code)} {cn : Str} {cs : Scope} {a : Addr} {ccd : Value} {cl : List (Str × Addr)} {outer : List Env} {A₀ : Around} {base h₀ : Heap} {L : Addr} {m : Str → Option Value} {s : Shared} {Q E : Value → Shared → Prop}
    (B : Below A₀ base outer h₀) (F : Fr h₀ L s.heap m) (X : (KK w.params).In h₀) (N : News h₀ L s.heap led) (T : Top p loose mean mg mb h₀) (hk : cs.kind = .function) (hd : dp + D < recursionLimit) (hu : un + U < cLine) (hp : Φ h₀)
    (ret : ∀ v h' tk', Fr h₀ L h' m → News h₀ L h' led → post v → Q v { s with heap := h', toks := tk' }) :
    wpAny (model PySem.Challenge.rw_sz0042_01.row.prog w) (ktrTop dp un gd cn cs L a ccd cl outer) (call (.ref f) args) Q E s := C _ _ _ _ _ _ _ _ _ _ _ _ _ _ _ _ _ _ _ _ _ _ B F X N T hk hd hu hp ret
theorem up_list {P : Params} {h₀ g : Heap} {L a : Addr} {m : Str → Option Value} {l : Array Value} (_X : (KK P).In g) (F : Fr h₀ L g m) (hL : h₀.IsList a l) : g.IsList a l := by
  obtain ⟨o, e, r⟩ := hL
  exact ⟨o, F.keep _ _ e, r⟩
/-- what the law asks of its script -/
noncomputable def asked (ns : List Int) (place many : Int) : Int := (if place < (ns.length : Int) then ns.getD place.toNat 0 else ([11, 4, 10, 16, 17, 34] : List Int).getD place.toNat 0).fmod many
theorem asked_lo (ns : List Int) (place : Int) {many : Int} (h : 0 < many) : 0 ≤ asked ns place many := fmod_lo _ h
theorem asked_hi (ns : List Int) (place : Int) {many : Int} (h : 0 < many) : asked ns place many < many := fmod_hi _ h
theorem asked_1 {ns : List Int} {place many : Int} (h : place < (ns.length : Int)) : (ns.getD place.toNat 0).fmod many = asked ns place many := by unfold asked; rw [if_pos h]
theorem asked_2 {ns : List Int} {place many : Int} (h : ¬ place < (ns.length : Int)) : (([11, 4, 10, 16, 17, 34] : List Int).getD place.toNat 0).fmod many = asked ns place many := by unfold asked; rw [if_neg h]
theorem c_asked : ∀ (w : World) (sa : Addr) (vs : List Value) (ns : List Int) (place many : Int) (t1 t2 : Tok) (led : Led), IntsAre vs ns → ns.length ≤ 63 → 0 ≤ place → place < 6 → 0 < many → many < 100 → SpecH w 1 8 830 [.ref sa, .int place t1, .int many t2] led (fun h => h.IsList sa vs.toArray) (fun v => ∃ t, v = .int (asked ns place many) t) := by
  refine @dq _ (by
  unfold SpecH
  k_fill
  k_extra "h0"
  k_extra "b1.8"
  k_extra "b2.1"
  intro hI hlen h0 h6 hm0 hm1
  k_extra "hd"
  intro B F X N T hk hd hu hL hret
  with_reducible k_extra "bar"
  refine wpAny_call ?_
  k_extra "en"
  rename (KK _).In _ => Xn
  have hL2 := up_list Xn ‹_› hL
  clear hL
  k_steps
  all_goals first
    | exact hret _ _ _ ‹_› ‹_› ⟨_, congrArg (Value.int · _) (asked_1 (by first | assumption | omega))⟩
    | exact hret _ _ _ ‹_› ‹_› ⟨_, congrArg (Value.int · _) (asked_2 (by first | assumption | omega))⟩) fun q hf => ?_
  simpa only using fq hf (@Eq _ 5 5)
theorem words22 : True := by
  k_with "G22" => (
    k_with "!call ref" => ((with_reducible show wpAny _ _ (call (Value.ref 830) _) _ _ _); k_here; k_dflt (refine' specH_use ?z60kC ?z60k1 ?z60k2 ?z60k3 ?z60k4 ?z60k5 ?z60kK ?z60kd ?z60ku ?z60kH ?_; (case z60k4 => k_asm); (case z60kC => k_extra "specH"); (case z60k1 => k_asm); (case z60k2 => k_asm); (case z60k3 => k_asm); (case z60k5 => k_asm); (case z60kK => first | exact rfl | assumption); (case z60kd => ktr_room); (case z60ku => ktr_units); (case z60kH => assumption)); intro v9 h9 tk9 F9 N9 hp9; (obtain ⟨t9, e9⟩ := hp9; subst e9); (try k_sweep); (try k_fold)))
  k_extra "G22"
  trivial
-- LP
/-- the list of the four parts stands, apart from the rows -/
def PartsIs (led : Led) (d r : Addr) : Prop := d ≠ r ∧ ∃ p0 p1 p2 p3 k, (d, listOf ([.ref p0, .ref p1, .ref p2, .ref p3] : List Value).toArray k) ∈ led ∧ (tCo 3 0).Rep (Tup led) p0 ∧ (tCo 4 1).Rep (Tup led) p1 ∧ (tCo 6 2).Rep (Tup led) p2 ∧ (tCo 12 3).Rep (Tup led) p3
theorem PartsIs.x {led led2 n : Led} {d r : Addr} (h : PartsIs led d r) (g : ∀ p ∈ led, p ∈ led2) (K : ∀ p ∈ led2, p.1 ≠ r → p ∈ n) (S : Gr led2 n) : PartsIs n d r := by
  refine viaP fun PZ kZ => ?_
  obtain ⟨hn, p0, p1, p2, p3, k, a, b0, b1, b2, b3⟩ := h
  refine kZ ?_; clear kZ PZ
  have u : ∀ p ∈ Tup led, p ∈ Tup n := fun p hp => S p (Tup.mem.mpr ⟨g _ (Tup.mem.mp hp).1, (Tup.mem.mp hp).2⟩)
  exact ⟨hn, p0, p1, p2, p3, k, K _ (g _ a) hn, b0.sub u, b1.sub u, b2.sub u, b3.sub u⟩
theorem PartsIs.mk {led n m1 m2 m3 m4 : Led} {d r : Addr} {v1 v2 v3 v4 : Value} (K : ∀ p ∈ led, p.1 ≠ r → p ∈ n) (S : Gr led n) (hm : (d, LCg.lst [v1, v2, v3, v4]) ∈ led) (hn : d ≠ r) (h1 : Stands (Tup m1) v1 (tCo 3 0)) (h2 : Stands (Tup m2) v2 (tCo 4 1)) (h3 : Stands (Tup m3) v3 (tCo 6 2)) (h4 : Stands (Tup m4) v4 (tCo 12 3))
    (g1 : ∀ p ∈ m1, p ∈ led) (g2 : ∀ p ∈ m2, p ∈ led) (g3 : ∀ p ∈ m3, p ∈ led) (g4 : ∀ p ∈ m4, p ∈ led) : PartsIs n d r := by
  refine viaP fun PZ kZ => ?_
  obtain ⟨p0, rfl, h1⟩ := h1
  obtain ⟨p1, rfl, h2⟩ := h2
  obtain ⟨p2, rfl, h3⟩ := h3
  obtain ⟨p3, rfl, h4⟩ := h4
  refine kZ ?_; clear kZ PZ
  have u : ∀ {m : Led}, (∀ p ∈ m, p ∈ led) → ∀ p ∈ Tup m, p ∈ Tup n := fun g p hp => S p (Tup.mem.mpr ⟨g _ (Tup.mem.mp hp).1, (Tup.mem.mp hp).2⟩)
  exact ⟨hn, p0, p1, p2, p3, 4, K _ hm hn, h1.sub (u g1), h2.sub (u g2), h3.sub (u g3), h4.sub (u g4)⟩
theorem l_hlP {w : World} {led led2 : Led} {d r : Addr} (h : PartsIs led d r) (g : ∀ p ∈ led, p ∈ led2) : SpecPW w 4 32 858 [.ref d] led2 (fun v n => Stands (Tup n) v (tHo (tHo (tHo (tCo 3 0) (tCo 4 1)) (tCo 6 2)) (tCo 12 3))) := by
  refine viaP fun PZ kZ => ?_
  obtain ⟨hn, p0, p1, p2, p3, k, a, b0, b1, b2, b3⟩ := h
  refine kZ ?_; clear kZ PZ
  have u : ∀ p ∈ Tup led, p ∈ Tup led2 := fun p hp => Tup.mem.mpr ⟨g _ (Tup.mem.mp hp).1, (Tup.mem.mp hp).2⟩
  exact l_hlT (g _ a) (b0.sub u) (b1.sub u) (b2.sub u) (b3.sub u)
theorem off1_of {D r : Addr} {o : Obj} : ∀ {n : Led}, LCg.Off1 D n → (r, o) ∈ n → D ≠ r := by
  intro n
  induction n with
  | nil => exact fun _ h => nomatch h
  | cons p n ih =>
    intro h hm
    rcases List.mem_cons.mp hm with e | hm
    · cases e; exact Ne.symm h.1
    · exact ih h.2 hm
/-- the facts at the end, all of them of the last ledger -/
structure InF (p : Addr × Obj) (M : Led) : Prop where
  out : p ∈ Tup M
structure LaysF (M : Led) (s : Addr) (i : Nat) (T : TR) : Prop where
  out : LaysA (Tup M) s i T
structure DosF (M : Led) (s : Addr) (a b : Int) : Prop where
  out : DosA (Tup M) s a b
theorem inF_tp {a : Addr} {v : List Value} {M : Led} (h : (a, tp v) ∈ M) : InF (a, tp v) M := ⟨Tup.mem.mpr ⟨h, rfl⟩⟩
theorem GF.inF {n M : Led} {p : Addr × Obj} (c : GF n M) (h : p ∈ Tup n) : InF p M := ⟨c.out p h⟩
theorem GF.laysF {n M : Led} {s : Addr} {i : Nat} {T : TR} (c : GF n M) (h : LaysA (Tup n) s i T) : LaysF M s i T := ⟨h.sub c.out⟩
theorem GF.dosF {n M : Led} {s : Addr} {a b : Int} (c : GF n M) (h : DosA (Tup n) s a b) : DosF M s a b := ⟨h.sub c.out⟩
theorem GF.start {n M : Led} (g : ∀ p ∈ n, p ∈ M) : GF n M := ⟨fun p hp => Tup.mem.mpr ⟨g _ (Tup.mem.mp hp).1, (Tup.mem.mp hp).2⟩⟩
theorem gen6 {a b c d e f : Addr × Obj} {n : Led} {C : Led → Prop} (h : ∀ M, a ∈ M → c ∈ M → d ∈ M → e ∈ M → (∀ p ∈ n, p ∈ M) → C M) : C (a :: b :: c :: d :: e :: f :: n) :=
  h _ (.head _) (.tail _ (.tail _ (.head _))) (.tail _ (.tail _ (.tail _ (.head _)))) (.tail _ (.tail _ (.tail _ (.tail _ (.head _))))) fun p hp => .tail _ (.tail _ (.tail _ (.tail _ (.tail _ (.tail _ hp)))))
theorem ruleEndF {led n : Led} {v : Value} {ls : Addr} {k : Nat} {r0 r1 r2 r3 r4 r5 r6 r7 r8 r9 r10 r11 r12 r13 r14 s0 s1 s2 s3 s4 s5 s6 s7 s8 s9 s10 s11 s12 s13 s14 ya yb a b : Addr} {t0 t1 t2 t3 t4 t5 t6 t7 t8 t9 t10 t11 t12 t13 t14 u0 u1 u2 u3 u4 u5 u6 u7 u8 u9 : Tok}
    (hv : v = .ref ls) (hls : (ls, listOf ([.ref r0, .ref r1, .ref r2, .ref r3, .ref r4, .ref r5, .ref r6, .ref r7, .ref r8, .ref r9, .ref r10, .ref r11, .ref r12, .ref r13, .ref r14] : List Value).toArray k) ∈ n) (hk : Kept led n)
    (h0 : InF (r0, tp [.int 0 t0, .ref s0]) n)    (h1 : InF (r1, tp [.int 0 t1, .ref s1]) n)    (h2 : InF (r2, tp [.int 0 t2, .ref s2]) n)    (h3 : InF (r3, tp [.int 0 t3, .ref s3]) n)
    (h4 : InF (r4, tp [.int 0 t4, .ref s4]) n)    (h5 : InF (r5, tp [.int 0 t5, .ref s5]) n)    (h6 : InF (r6, tp [.int 0 t6, .ref s6]) n)    (h7 : InF (r7, tp [.int 10 t7, .ref s7]) n)
    (h8 : InF (r8, tp [.int 0 t8, .ref s8]) n)    (h9 : InF (r9, tp [.int 0 t9, .ref s9]) n)    (h10 : InF (r10, tp [.int 0 t10, .ref s10]) n)    (h11 : InF (r11, tp [.int 0 t11, .ref s11]) n)
    (h12 : InF (r12, tp [.int 0 t12, .ref s12]) n)    (h13 : InF (r13, tp [.int 20 t13, .ref s13]) n)    (h14 : InF (r14, tp [.int 0 t14, .ref s14]) n)
    (a0 : LaysF n s0 (aT 0) (aE 0))    (a1 : LaysF n s1 (aT 1) (aE 1))    (a2 : LaysF n s2 (aT 2) (aE 2))    (a4 : LaysF n s4 (aT 4) (aE 4))    (a6 : LaysF n s6 (aT 6) (aE 6))    (a7 : LaysF n s7 (aT 7) (aE 7))    (a8 : LaysF n s8 (aT 8) (aE 8))    (a9 : LaysF n s9 (aT 9) (aE 9))    (a10 : LaysF n s10 (aT 10) (aE 10))    (a12 : LaysF n s12 (aT 12) (aE 12))    (a13 : LaysF n s13 (aT 13) (aE 13))
    (d3 : DosF n s3 10 3) (d11 : DosF n s11 20 2) (e14 : InF (s14, tp [.str (Str.ofString "end") u9]) n)
    (l0 : InF (s5, tp [.str (Str.ofString "lif") u0, .ref ya, .ref yb]) n) (l1 : InF (ya, tp [.str (Str.ofString "eq") u1, .int 4 u2, .ref a, .ref b]) n) (l2 : InF (a, tp [.str (Str.ofString "var") u3, .int 0 u4, .str (Str.ofString "K") u5]) n) (l3 : InF (b, tp [.str (Str.ofString "const") u6, .int 0 u7, .int 2 u8]) n) (l4 : LaysF n yb (aT 5) (aE 5)) :
    ∃ ls k r s, v = .ref ls ∧ (ls, listOf ((List.range 15).map fun i => Value.ref (r i)).toArray k) ∈ n ∧ Kept led n ∧ Rows15 (Tup n) r s :=
  ruleEnd hv hls hk h0.out h1.out h2.out h3.out h4.out h5.out h6.out h7.out h8.out h9.out h10.out h11.out h12.out h13.out h14.out a0.out a1.out a2.out a4.out a6.out a7.out a8.out a9.out a10.out a12.out a13.out d3.out d11.out e14.out l0.out l1.out l2.out l3.out l4.out
-- L6
theorem c_lrule : ∀ (w : World) (led : Led), SpecT w 6 48 870 [] (led) (fun v n => ∃ ls k r s, v = .ref ls ∧ (ls, listOf ((List.range 15).map fun i => Value.ref (r i)).toArray k) ∈ n ∧ Kept led n ∧ Rows15 (Tup n) r s) := by
  refine @dq _ (by
  unfold SpecT
  k_fill
  k_extra "h0"
  k_extra "b1.2"
  k_extra "hd"
  intro B F X N T hk hd hu hret
  with_reducible k_extra "bar"
  have hK0 : Kept y1_2 y1_2 := Kept.refl
  refine wpAny_call ?_
  k_extra "en"
  k_with "told" => first | exact toldD | exact toldE | exact toldF | exact toldG | exact toldA | exact toldB | exact toldH | exact toldX | exact toldS | exact toldV | exact toldT | exact toldR | (refine' told_t ?q666 ?q667; (case q666 => with_reducible assumption); (case q667 => (try simp only [Tup.app, Tup.tup, Tup.lst]); exact fun p hp => by k_mem)) | (refine' told_n ?q668 ?q669; (case q668 => (try simp only [Tup.app, Tup.tup, Tup.lst]); k_mem); (case q669 => decide)) | (refine' told_0 ?q670; (case q670 => (try simp only [Tup.app, Tup.tup, Tup.lst]); k_mem))
  k_with "toldC" => first | exact toldD | exact toldE | exact toldF | exact toldG | (refine' told_n (Tup.mem.mpr ⟨?q671, rfl⟩) ?q672; (case q671 => k_mem); (case q672 => decide))
  k_with "specX" => ((show SpecPW _ _ _ 844 (Value.str (Str.ofString "add") _ :: _) _ _); (refine' l_op' .add ow_add ?q673 ?q674; (case q673 => k_extra "told"); (case q674 => k_extra "told")))
  k_with "specX" => ((show SpecPW _ _ _ 844 (Value.str (Str.ofString "sub") _ :: _) _ _); (refine' l_op' .sub ow_sub ?q675 ?q676; (case q675 => k_extra "told"); (case q676 => k_extra "told")))
  k_with "specX" => ((show SpecPW _ _ _ 844 (Value.str (Str.ofString "mul") _ :: _) _ _); (refine' l_op' .mul ow_mul ?q677 ?q678; (case q677 => k_extra "told"); (case q678 => k_extra "told")))
  k_with "specX" => ((show SpecPW _ _ _ 844 (Value.str (Str.ofString "div") _ :: _) _ _); (refine' l_op' .div ow_div ?q679 ?q680; (case q679 => k_extra "told"); (case q680 => k_extra "told")))
  k_with "specPW" => ((show SpecPW _ _ _ 844 (Value.str (Str.ofString "mul") _ :: _) ((_, _) :: (_, _) :: (_, PyProof.Rows.LCg.lst _) :: _) _); refine' l_opC .mul ow_mul ?z1 ?z2 ?z3; (case z1 => assumption); (case z2 => k_extra "toldC"); (case z3 => k_extra "toldC"))
  k_with "specX" => ((show SpecPW _ _ _ 851 (Value.str (Str.ofString "H") _ :: _) _ _); (refine' l_lay' 6 nm6 ?q681; (case q681 => k_extra "told")))
  k_with "specX" => ((show SpecPW _ _ _ 851 (Value.str (Str.ofString "X") _ :: _) _ _); (refine' l_lay' 7 nm7 ?q682; (case q682 => k_extra "told")))
  k_with "specX" => ((show SpecPW _ _ _ 851 (Value.str (Str.ofString "S") _ :: _) _ _); (refine' l_lay' 8 nm8 ?q683; (case q683 => k_extra "told")))
  k_with "specX" => ((show SpecPW _ _ _ 851 (Value.str (Str.ofString "V") _ :: _) _ _); (refine' l_lay' 9 nm9 ?q684; (case q684 => k_extra "told")))
  k_with "specX" => ((show SpecPW _ _ _ 851 (Value.str (Str.ofString "T") _ :: _) _ _); (refine' l_lay' 10 nm10 ?q685; (case q685 => k_extra "told")))
  k_with "specX" => ((show SpecPW _ _ _ 851 (Value.str (Str.ofString "R") _ :: _) _ _); (refine' l_lay' 11 nm11 ?q686; (case q686 => k_extra "told")))
  k_with "specX" => ((show SpecPW _ _ _ 865 _ _ _); exact l_rounds')
  k_with "specX" => ((show SpecPW _ _ _ 858 (Value.str _ _ :: _) _ _); exact l_hsT)
  k_with "specX" => ((show SpecPW _ _ _ 858 (Value.ref _ :: _) _ _); exact l_hlP (by with_reducible assumption) (fun p hp => by k_mem))
  k_with "callX" => ((fail_if_success (with_reducible rename News _ _ _ ((_, _) :: (_, _) :: (_, PyProof.Rows.LCg.lst _) :: _) => hz)); (with_reducible show wpAny _ _ (call (Value.ref 844) _) _ _ _); k_dflt (first | ((refine' specX_S ?kr ?kC ?k1 ?k2 ?k3 ?k4 ?k5 ?kK ?kd ?ku ?_; (case k4 => k_asm); (case kr => k_extra "lastL"); (case kC => k_extra "specX"); (case k1 => k_asm); (case k2 => k_asm); (case k3 => k_asm); (case k5 => k_asm); (case kK => first | exact rfl | assumption); (case kd => ktr_room); (case ku => ktr_units)); intro v9 n9 h9 tk9 F9 N9 ne9 K9 S9 hp9) | ((refine' specY_S ?kC ?k1 ?k2 ?k3 ?k4 ?k5 ?kK ?kd ?ku ?_; (case k4 => k_asm); (case kC => k_extra "specX"); (case k1 => k_asm); (case k2 => k_asm); (case k3 => k_asm); (case k5 => k_asm); (case kK => first | exact rfl | assumption); (case kd => ktr_room); (case ku => ktr_units)); intro v9 n9 h9 tk9 F9 N9 K9 S9 hp9)); (try k_extra "carry"); (have hz9 := Stands.out hp9); clear hp9; obtain ⟨a9, rfl, hq9⟩ := hz9; (try dsimp only); (try k_sweep))
  k_with "callX" => ((fail_if_success (with_reducible rename News _ _ _ ((_, _) :: (_, _) :: (_, PyProof.Rows.LCg.lst _) :: _) => hz)); (with_reducible show wpAny _ _ (call (Value.ref 858) _) _ _ _); k_dflt (first | ((refine' specX_S ?kr ?kC ?k1 ?k2 ?k3 ?k4 ?k5 ?kK ?kd ?ku ?_; (case k4 => k_asm); (case kr => k_extra "lastL"); (case kC => k_extra "specX"); (case k1 => k_asm); (case k2 => k_asm); (case k3 => k_asm); (case k5 => k_asm); (case kK => first | exact rfl | assumption); (case kd => ktr_room); (case ku => ktr_units)); intro v9 n9 h9 tk9 F9 N9 ne9 K9 S9 hp9) | ((refine' specY_S ?kC ?k1 ?k2 ?k3 ?k4 ?k5 ?kK ?kd ?ku ?_; (case k4 => k_asm); (case kC => k_extra "specX"); (case k1 => k_asm); (case k2 => k_asm); (case k3 => k_asm); (case k5 => k_asm); (case kK => first | exact rfl | assumption); (case kd => ktr_room); (case ku => ktr_units)); intro v9 n9 h9 tk9 F9 N9 K9 S9 hp9)); (try k_extra "carry"); (have hz9 := Stands.out hp9); clear hp9; obtain ⟨a9, rfl, hq9⟩ := hz9; (try dsimp only); (try k_sweep))
  k_with "callX" => ((fail_if_success (with_reducible rename News _ _ _ ((_, _) :: (_, _) :: (_, PyProof.Rows.LCg.lst _) :: _) => hz)); (with_reducible show wpAny _ _ (call (Value.ref 851) _) _ _ _); k_dflt (first | ((refine' specX_L ?kr ?kC ?k1 ?k2 ?k3 ?k4 ?k5 ?kK ?kd ?ku ?_; (case k4 => k_asm); (case kr => k_extra "lastL"); (case kC => k_extra "specX"); (case k1 => k_asm); (case k2 => k_asm); (case k3 => k_asm); (case k5 => k_asm); (case kK => first | exact rfl | assumption); (case kd => ktr_room); (case ku => ktr_units)); intro v9 n9 h9 tk9 F9 N9 ne9 K9 S9 hp9) | ((refine' specY_L ?kC ?k1 ?k2 ?k3 ?k4 ?k5 ?kK ?kd ?ku ?_; (case k4 => k_asm); (case kC => k_extra "specX"); (case k1 => k_asm); (case k2 => k_asm); (case k3 => k_asm); (case k5 => k_asm); (case kK => first | exact rfl | assumption); (case kd => ktr_room); (case ku => ktr_units)); intro v9 n9 h9 tk9 F9 N9 K9 S9 hp9)); (try k_extra "carry"); (have hz9 := Lays.out hp9); clear hp9; obtain ⟨a9, rfl, hq9⟩ := hz9; (try dsimp only); (try k_sweep))
  k_with "callX" => ((fail_if_success (with_reducible rename News _ _ _ ((_, _) :: (_, _) :: (_, PyProof.Rows.LCg.lst _) :: _) => hz)); (with_reducible show wpAny _ _ (call (Value.ref 865) _) _ _ _); k_dflt (first | ((refine' specX_D ?kr ?kC ?k1 ?k2 ?k3 ?k4 ?k5 ?kK ?kd ?ku ?_; (case k4 => k_asm); (case kr => k_extra "lastL"); (case kC => k_extra "specX"); (case k1 => k_asm); (case k2 => k_asm); (case k3 => k_asm); (case k5 => k_asm); (case kK => first | exact rfl | assumption); (case kd => ktr_room); (case ku => ktr_units)); intro v9 n9 h9 tk9 F9 N9 ne9 K9 S9 hp9) | ((refine' specY_D ?kC ?k1 ?k2 ?k3 ?k4 ?k5 ?kK ?kd ?ku ?_; (case k4 => k_asm); (case kC => k_extra "specX"); (case k1 => k_asm); (case k2 => k_asm); (case k3 => k_asm); (case k5 => k_asm); (case kK => first | exact rfl | assumption); (case kd => ktr_room); (case ku => ktr_units)); intro v9 n9 h9 tk9 F9 N9 K9 S9 hp9)); (try k_extra "carry"); (have hz9 := Doss.out hp9); clear hp9; obtain ⟨a9, rfl, hq9⟩ := hz9; (try dsimp only); (try k_sweep))
  k_with "parts" => first
    | ((with_reducible rename PartsIs _ _ _ => hpz); (have hpy := PartsIs.x hpz (fun p hp => by k_mem) K9 S9); clear hpz)
    | ((with_reducible rename (∀ tl : Led, _ → Stands (Tup (tl ++ _)) _ _) => q4); (have r4 := q4 _ rfl); clear q4; (with_reducible rename (∀ tl : Led, _ → Stands (Tup (tl ++ _)) _ _) => q3); (have r3 := q3 _ rfl); clear q3; (with_reducible rename (∀ tl : Led, _ → Stands (Tup (tl ++ _)) _ _) => q2); (have r2 := q2 _ rfl); clear q2; (with_reducible rename (∀ tl : Led, _ → Stands (Tup (tl ++ _)) _ _) => q1); (have r1 := q1 _ rfl); clear q1; (have hpy := PartsIs.mk K9 S9 (by k_mem) (off1_of (by with_reducible assumption) (by k_mem)) r1 r2 r3 r4 (fun p hp => by k_mem) (fun p hp => by k_mem) (fun p hp => by k_mem) (fun p hp => by k_mem)); clear r1 r2 r3 r4)
  k_with "lastL" => first | ((with_reducible refine List.mem_cons_of_mem _ ?_); k_extra "lastL") | ((with_reducible refine List.mem_append_right _ ?_); k_extra "lastL") | (with_reducible exact List.mem_cons_self)
  k_with "carry" => ((try k_extra "parts"); (first | (with_reducible rename Kept _ _ => hz; have hz2 := Kept.y hz (fun p hp => by k_mem) K9; clear hz) | (with_reducible rename Kept _ _ => hz; have hz2 := Kept.x hz (fun p hp => by k_mem) K9 (by first | with_reducible assumption | (refine' head_ne ?q687; (case q687 => with_reducible assumption)) | (refine' head_ne2 ?q688; (case q688 => with_reducible assumption)) | (refine' head_ne (And.right ?q689); (case q689 => with_reducible assumption)) | (refine' head_ne (And.right (And.right ?q690)); (case q690 => with_reducible assumption))); clear hz)); (repeat (first | (have hx := Gr.hd S9; replace S9 := Gr.tl S9) | replace S9 := Gr.tl S9 | (have hx := Gr.apl S9; replace S9 := Gr.app S9))); clear K9)
  k_steps
  refine' hret _ _ _ _ ?hF ?hN ?_
  case hF => k_asm
  case hN => (rename News _ _ _ _ => NF; exact NF)
  refine gen6 (C := fun n => ∃ ls k r s, Value.ref _ = Value.ref ls ∧ (ls, listOf ((List.range 15).map fun i => Value.ref (r i)).toArray k) ∈ n ∧ Kept y1_2 n ∧ Rows15 (Tup n) r s) ?_
  intro M hls m1 m2 m3 gM
  have hk9 : Kept y1_2 M := fun p hp => gM _ (hz2 p hp)
  have c9 := GF.start gM
  have i1 := inF_tp m1
  have i2 := inF_tp m2
  have i3 := inF_tp m3
  repeat (first
    | (with_reducible rename (_ ∈ Tup _) => hz; have hy := GF.inF (by with_reducible assumption) hz; clear hz)
    | (with_reducible rename LaysA (Tup _) _ _ _ => hz; have hy := GF.laysF (by with_reducible assumption) hz; clear hz)
    | (with_reducible rename DosA (Tup _) _ _ _ => hz; have hy := GF.dosF (by with_reducible assumption) hz; clear hz)
    | (with_reducible rename Gr _ _ => hz; have hy := GF.step (by with_reducible assumption) hz; clear hz))
  exact ruleEndF rfl hls hk9 ‹_› ‹_› ‹_› ‹_› ‹_› ‹_› ‹_› ‹_› ‹_› ‹_› ‹_› ‹_› ‹_› ‹_› ‹_› ‹_› ‹_› ‹_› ‹_› ‹_› ‹_› ‹_› ‹_› ‹_› ‹_› ‹_› ‹_› ‹_› ‹_› ‹_› ‹_› ‹_› ‹_› ‹_›) fun q hf => ?_
  simpa only using fq hf (@Eq _ 5 5)
end
section
theorem words23 : True := by
  k_with_none
  k_with "cl1" => (rename BAR _ => bq9; refine letI kk := _; haveI bq8 := @barS kk bq9; letI x1 := _; goW1 (k := kk) (n := by k_extra "ne") x1 rfl ?_; try clear bq9)
  k_with "cl2" => (rename BAR _ => bq9; refine letI kk := _; haveI bq8 := @barS kk bq9; letI Wq := mkW2 (k := kk) (n := by k_extra "ne"); letI x1 := _; letI x2 := _; goW2 Wq rfl x1 x2 rfl rfl ?_; try clear bq9)
  k_with "cl3" => (rename BAR _ => bq9; refine letI kk := _; haveI bq8 := @barS kk bq9; letI Wq := mkW3 (k := kk) (n := by k_extra "ne"); letI x1 := _; letI x2 := _; letI x3 := _; goW3 Wq rfl x1 x2 x3 rfl rfl rfl ?_; try clear bq9)
  k_with "cl4" => (rename BAR _ => bq9; refine letI kk := _; haveI bq8 := @barS kk bq9; letI Wq := mkW4 (k := kk) (n := by k_extra "ne"); letI x1 := _; letI x2 := _; letI x3 := _; letI x4 := _; goW4 Wq rfl x1 x2 x3 x4 rfl rfl rfl rfl ?_; try clear bq9)
  k_with "cl6" => (rename BAR _ => bq9; refine letI kk := _; haveI bq8 := @barS kk bq9; letI Wq := mkW6 (k := kk) (n := by k_extra "ne"); letI x1 := _; letI x2 := _; letI x3 := _; letI x4 := _; letI x5 := _; letI x6 := _; goW6 Wq rfl x1 x2 x3 x4 x5 x6 rfl rfl rfl rfl rfl rfl ?_; try clear bq9)
  k_with "cl8" => (rename BAR _ => bq9; refine letI kk := _; haveI bq8 := @barS kk bq9; letI Wq := mkW8 (k := kk) (n := by k_extra "ne"); letI x1 := _; letI x2 := _; letI x3 := _; letI x4 := _; letI x5 := _; letI x6 := _; letI x7 := _; letI x8 := _; goW8 Wq rfl x1 x2 x3 x4 x5 x6 x7 x8 rfl rfl rfl rfl rfl rfl rfl rfl ?_; try clear bq9)
  k_with "cl12" => (rename BAR _ => bq9; refine letI kk := _; haveI bq8 := @barS kk bq9; letI Wq := mkW12 (k := kk) (n := by k_extra "ne"); letI x1 := _; letI x2 := _; letI x3 := _; letI x4 := _; letI x5 := _; letI x6 := _; letI x7 := _; letI x8 := _; letI x9 := _; letI x10 := _; letI x11 := _; letI x12 := _; goW12 Wq rfl x1 x2 x3 x4 x5 x6 x7 x8 x9 x10 x11 x12 rfl rfl rfl rfl rfl rfl rfl rfl rfl rfl rfl rfl ?_; try clear bq9)
  k_with "bar" => (rename BAR _ => bq9; refine haveI bq8 : BAR _ := barS bq9; ?_; try clear bq9)
  k_with "bc" => skip
  k_with "rv" => ((fail_if_success (rename _ => xq; refine useBar xq ?_)); w_why)
  k_with "nc1" => with_reducible ((first | (fail_if_success (intro zb)) | refine Box.o ?_); (repeat ((fail_if_success (rename (_ : Prop) => xq; refine useBar xq ?_)); w_why)))
  k_with "nc2" => with_reducible (first | (k_extra "rv"; first | (k_extra "rv"; first | (k_extra "rv"; first | (k_extra "rv"; first | (k_extra "rv"; first | (k_extra "rv"; first | (k_extra "rv"; first | (k_extra "rv"; first | (k_extra "rv"; first | (k_extra "rv"; first | (k_extra "rv"; first | (k_extra "rv"; (k_extra "nc2"; k_extra "cl12")) | (k_extra "cl8"; k_extra "cl3")) | (k_extra "cl8"; k_extra "cl2")) | (k_extra "cl8"; k_extra "cl1")) | (k_extra "cl8")) | (k_extra "cl6"; k_extra "cl1")) | (k_extra "cl6")) | (k_extra "cl4"; k_extra "cl1")) | (k_extra "cl4")) | (k_extra "cl3")) | (k_extra "cl2")) | (k_extra "cl1")) | (skip))
  k_with "nc3" => with_reducible ((repeat (set_option tactic.hygienic false in intro)); (try k_extra "unf"); (try (refine Box.mk ?_)); k_extra "bar")
  k_with "cls" => with_reducible (try ((rename BAR _ => zq); (fail_if_success (rename PySem.W.KPfMark => zz)); k_whole; (fail_if_success (rename _ => xq; refine useBar xq ?_)); k_extra "nc1"; k_extra "nc2"; k_extra "nc3"))
  k_with "re" => (first | exact Nat.le_of_ble_eq_true rfl | exact Nat.le_of_eq (Nat.add_comm _ _) | omega)
  k_with "rm" => (first | (refine' rm0 ?q691; (case q691 => k_extra "as")) | (refine' rm1 ?q692 ?q693; (case q692 => k_extra "as"); (case q693 => k_extra "re")) | (refine' rm2 ?q694 ?q695; (case q694 => k_extra "as"); (case q695 => k_extra "re")) | (refine' rm3 ?q696 ?q697; (case q696 => k_extra "as"); (case q697 => k_extra "re")) | exact Nat.le_of_ble_eq_true rfl)
  k_with "m:ktr_room" => k_extra "rm"
  k_with "m:ktr_units" => k_extra "rm"
  k_with "m:k_ne" => (refine neN ?_; (try dsimp only); first | (with_reducible k_extra "n") | k_extra "n" | omega)
  k_with "ne" => (repeat' first | (with_reducible refine neP ?_ ?_) | infer_instance | exact neW | exact nePar | exact neA | exact neS | exact neH | exact neRV | exact neUV | exact neFV | exact nePD | exact neFRec | exact neFY | exact neStc | exact neRowD | exact neIn | exact neSt)
  k_with "fold" => ((fail_if_success (with_reducible rename PySem.W.KPfMark => zz)); k_whole; k_extra "cls"; with_reducible (refine letI qk := _; letI ek := _; (?_ : wpAny _ _ _ qk ek _)); with_reducible k_extra "bar")
  k_with "as" => (with_reducible assumption)
  k_with "od" => ((fail_if_success (fail_if_success (decide +kernel))); kernel_rfl)
  k_with "n" => first | (refine' Nat.ne_of_gt ?q698; (case q698 => assumption)) | (refine' Nat.ne_of_lt ?q699; (case q699 => assumption)) | (refine' gt1 ?q700; (case q700 => assumption)) | (refine' gt2 ?q701; (case q701 => assumption)) | (refine' lt2' ?q702; (case q702 => assumption)) | (refine' gt3 ?q703; (case q703 => assumption)) | (refine' lt3' ?q704; (case q704 => assumption)) | (refine' gt4 ?q705; (case q705 => assumption)) | (refine' lt4' ?q706; (case q706 => assumption)) | (refine' gt5 ?q707; (case q707 => assumption)) | (refine' lt5' ?q708; (case q708 => assumption)) | (refine' gt6 ?q709; (case q709 => assumption)) | (refine' lt6' ?q710; (case q710 => assumption)) | (refine' gt7 ?q711; (case q711 => assumption)) | (refine' lt7' ?q712; (case q712 => assumption)) | (refine' gt8 ?q713; (case q713 => assumption)) | (refine' lt8' ?q714; (case q714 => assumption)) | (refine' Nat.ne_of_lt (And.left ?q715); (case q715 => assumption))
  k_with "m:omega" => first | (k_whole; first | (with_reducible assumption) | ((fail_if_success (fail_if_success (decide +kernel))); (fail_if_success (fail_if_success (omega (config := {})))); (decide +kernel)) | ((refine' oF ?q716 ?_; (case q716 => k_extra "as")); k_extra "od") | ((refine' oE ?q717 ?_; (case q717 => k_extra "as")); k_extra "od") | ((refine' oG ?q718 ?_; (case q718 => k_extra "as")); k_extra "od") | ((refine' oH ?q719 ?_; (case q719 => k_extra "as")); k_extra "od") | ((refine' oI ?q720 ?_; (case q720 => k_extra "as")); k_extra "od") | ((refine' oJ ?q721 ?_; (case q721 => k_extra "as")); k_extra "od") | (with_reducible (refine neN ?_; k_extra "n"))) | k_extra "oc" | ((try (with_reducible rename (_ < PySem.recursionLimit) => zd; clear zd)); (try (with_reducible rename (_ < PySem.cLine) => zd; clear zd)); omega (config := {})) | omega (config := {})
  k_with "m:decide" => ((fail_if_success (fail_if_success (decide (config := {})))); first | (refine of_decide_eq_true ?_; exact Eq.refl true) | decide (config := {}))
  k_with "rl" => (rotate_left; (first | (rename (_ : Prop) => xz; (fail_if_success (refine useBar xz ?_)); exact xz) | assumption); intro h; clear h)
  k_with "en" => k_dflt (refine' code_def ?z1k1 ?z1k2 ?z1k3 ?z1k4 ?z1k5 ?z1kA ?z1kF ?z1kK ?z1k6 ?z1k7 ?z1k8 ?z1k9 ?z1kB ?_ ?z1c2 ?z1c3 ?z1c4 ?z1c5; (case z1kA => exact rfl); (case z1kF => exact rfl); (case z1kK => assumption); (case z1k1 => k_asm); (case z1k2 => k_asm); (case z1k3 => k_asm); (case z1k4 => k_asm); (case z1k5 => k_asm); (case z1k6 => k_is); (case z1k7 => k_is); (case z1k8 => ktr_room); (case z1k9 => exact BindsTo.of_eq rfl); (case z1c5 => decide); (case z1kB => exact locs rfl); (case z1c2 => exact rfl); (case z1c3 => exact rfl); (case z1c4 => exact rfl); k_whole; intro g' L' h' FG' F' N' B' X' T'; (try k_fold))
  k_with "!callWith" => (k_here; (first | (with_reducible refine' callWith_method1 ?_ ?z2he ?z2hp) | (with_reducible refine' callWith_builtin1 ?_ ?z2he ?z2hp)); (case z2he => k_dflt (exact rfl)); (case z2hp => k_dflt (exact rfl)))
  k_with "!newList" => (k_here; k_dflt (refine' newList_K ?z3k1 ?z3k2 ?_ ?z3z; (case z3k1 => k_asm); (case z3k2 => k_asm); (case z3z => exact Nat.le_of_ble_eq_true rfl); k_whole); intro l' h' F' N' l1; (try k_lt l1); (try k_sweep))
  k_with "!subscriptTail Name Constant ref int" => k_extra "!subscriptTail Name"
  k_with "!subscriptTail Name Name ref int" => k_extra "!subscriptTail Name"
  k_with "m:k_in" => first | with_reducible assumption | (refine' Frag.In.keeps ?q722 (Fr.keep ?q723); (case q722 => with_reducible assumption); (case q723 => with_reducible assumption)) | (refine' Frag.In.keeps ?q724 (Fr.keep ?q725); (case q724 => k_asm); (case q725 => k_asm))
  k_with "unf" => ((fail_if_success (fail_if_success k_unfold)); first | with_reducible (refine (?_ : wpAny _ _ _ _ _ _)) | k_unfold)
  k_with "!spliced" => first | (k_dflt (refine args_cons ?_)) | (k_dflt (refine args_nil ?_); (try simp only [List.cons_append, List.nil_append]))
  k_with "ite" => (k_closed; k_dflt (first | (refine' ite_pos ?z4i ?_; (case z4i => decide)) | (refine' ite_neg ?z4j ?_; (case z4j => decide))))
  k_with "!eval Name" => (k_here; k_dflt (refine' nameX_K ?z5F ?z5X ?z5T ?z5e ?_ ?z5a ?z5b; (case z5F => k_asm); (case z5X => k_asm); (case z5T => k_asm); (case z5a => rfl); (case z5b => rfl); (case z5e => k_is); k_whole))
  k_with "!eval Call" => (k_here; (with_reducible show wpAny _ _ (eval (Expr.Call (Expr.Name _ _) (_ :: _) _ _) _) _ _ _); k_dflt (refine' callA ?z6hk ?z6X ?z6T ?z6i ?z6F ?z6e ?z6f ?z6d ?z6kp ?z6q ?_; (case z6i => rfl); (case z6f => rfl); (case z6hk => rfl); (case z6F => k_asm); (case z6q => rfl); (case z6d => rfl); (case z6X => k_asm); (case z6T => k_asm); (case z6e => k_is); (case z6kp => k_is); k_whole))
  k_with "!execs cons" => (k_here; (with_reducible refine wpAny_execs_cons ?_); try dsimp only)
  k_with "!execs nil" => (k_here; with_reducible refine wpAny_execs_nil ?_)
  k_with "!spliced" => (k_here; (with_reducible show wpAny _ _ (spliced (backTo _ (starEach (_ :: _) _))) _ _ _); k_dflt (refine' argsB ?z7hk ?z7i ?z7F ?z7q ?_; (case z7i => rfl); (case z7hk => rfl); (case z7F => k_asm); (case z7q => rfl); k_whole; (try dsimp only [List.cons_append, List.nil_append])))
  k_with "!eval Subscript" => (k_here; (with_reducible show wpAny _ _ (eval (Expr.Subscript (Expr.Name _ _) (Expr.Constant (Const.int _) _ _) _) _) _ _ _); k_dflt (refine' subNI ?z8hk ?z8F ?z8e ?z8x ?z8d ?_; (case z8hk => rfl); (case z8F => k_asm); (case z8x => rfl); (case z8d => rfl); (case z8e => rfl); k_whole))
  k_with "!eval Name" => (k_here; k_dflt (refine' nameA ?z9hk ?z9F ?z9e ?z9x ?z9d ?_; (case z9x => rfl); (case z9hk => rfl); (case z9F => k_asm); (case z9d => rfl); (case z9e => rfl); k_whole))
  k_with "rva" => ((repeat revert ‹_›); refine haveI b8 : BAR 0 := bar0; ?_)
  k_with "m:k_fold" => ((with_reducible rename BAR _ => zq); k_extra "fold")
  k_with "m:k_steps" => repeat' (first | (k_extra "unf"; (try dsimp only)) | (k_end; wrow_close) | (walk1; all_goals k_extra "cls") | (dsimp only; walk1; all_goals k_extra "cls") | (leave1; (try dsimp only); all_goals k_extra "cls") | fail "no step")
  k_with "b1.2" => (with_reducible (rename BAR _ => bq9; refine letI kk := _; haveI bq8 := @barS kk bq9; letI Wq := mkW2 (k := kk) (n := by k_extra "ne"); letI y1_1 := _; letI y1_2 := _; goW2 Wq rfl y1_1 y1_2 rfl rfl ?_; try clear bq9))
  k_with "b1.3" => (with_reducible (rename BAR _ => bq9; refine letI kk := _; haveI bq8 := @barS kk bq9; letI Wq := mkW3 (k := kk) (n := by k_extra "ne"); letI y1_1 := _; letI y1_2 := _; letI y1_3 := _; goW3 Wq rfl y1_1 y1_2 y1_3 rfl rfl rfl ?_; try clear bq9))
  k_with "b1.4" => (with_reducible (rename BAR _ => bq9; refine letI kk := _; haveI bq8 := @barS kk bq9; letI Wq := mkW4 (k := kk) (n := by k_extra "ne"); letI y1_1 := _; letI y1_2 := _; letI y1_3 := _; letI y1_4 := _; goW4 Wq rfl y1_1 y1_2 y1_3 y1_4 rfl rfl rfl rfl ?_; try clear bq9))
  k_with "b1.6" => (with_reducible (rename BAR _ => bq9; refine letI kk := _; haveI bq8 := @barS kk bq9; letI Wq := mkW6 (k := kk) (n := by k_extra "ne"); letI y1_1 := _; letI y1_2 := _; letI y1_3 := _; letI y1_4 := _; letI y1_5 := _; letI y1_6 := _; goW6 Wq rfl y1_1 y1_2 y1_3 y1_4 y1_5 y1_6 rfl rfl rfl rfl rfl rfl ?_; try clear bq9))
  k_with "b1.8" => (with_reducible (rename BAR _ => bq9; refine letI kk := _; haveI bq8 := @barS kk bq9; letI Wq := mkW8 (k := kk) (n := by k_extra "ne"); letI y1_1 := _; letI y1_2 := _; letI y1_3 := _; letI y1_4 := _; letI y1_5 := _; letI y1_6 := _; letI y1_7 := _; letI y1_8 := _; goW8 Wq rfl y1_1 y1_2 y1_3 y1_4 y1_5 y1_6 y1_7 y1_8 rfl rfl rfl rfl rfl rfl rfl rfl ?_; try clear bq9))
  k_with "b1.12" => (with_reducible (rename BAR _ => bq9; refine letI kk := _; haveI bq8 := @barS kk bq9; letI Wq := mkW12 (k := kk) (n := by k_extra "ne"); letI y1_1 := _; letI y1_2 := _; letI y1_3 := _; letI y1_4 := _; letI y1_5 := _; letI y1_6 := _; letI y1_7 := _; letI y1_8 := _; letI y1_9 := _; letI y1_10 := _; letI y1_11 := _; letI y1_12 := _; goW12 Wq rfl y1_1 y1_2 y1_3 y1_4 y1_5 y1_6 y1_7 y1_8 y1_9 y1_10 y1_11 y1_12 rfl rfl rfl rfl rfl rfl rfl rfl rfl rfl rfl rfl ?_; try clear bq9))
  k_with "b2.1" => (with_reducible (rename BAR _ => bq9; refine letI kk := _; haveI bq8 := @barS kk bq9; letI y2_1 := _; goW1 (k := kk) (n := by k_extra "ne") y2_1 rfl ?_; try clear bq9))
  k_with "b2.2" => (with_reducible (rename BAR _ => bq9; refine letI kk := _; haveI bq8 := @barS kk bq9; letI Wq := mkW2 (k := kk) (n := by k_extra "ne"); letI y2_1 := _; letI y2_2 := _; goW2 Wq rfl y2_1 y2_2 rfl rfl ?_; try clear bq9))
  k_with "b2.3" => (with_reducible (rename BAR _ => bq9; refine letI kk := _; haveI bq8 := @barS kk bq9; letI Wq := mkW3 (k := kk) (n := by k_extra "ne"); letI y2_1 := _; letI y2_2 := _; letI y2_3 := _; goW3 Wq rfl y2_1 y2_2 y2_3 rfl rfl rfl ?_; try clear bq9))
  k_with "b2.4" => (with_reducible (rename BAR _ => bq9; refine letI kk := _; haveI bq8 := @barS kk bq9; letI Wq := mkW4 (k := kk) (n := by k_extra "ne"); letI y2_1 := _; letI y2_2 := _; letI y2_3 := _; letI y2_4 := _; goW4 Wq rfl y2_1 y2_2 y2_3 y2_4 rfl rfl rfl rfl ?_; try clear bq9))
  k_with "b2.6" => (with_reducible (rename BAR _ => bq9; refine letI kk := _; haveI bq8 := @barS kk bq9; letI Wq := mkW6 (k := kk) (n := by k_extra "ne"); letI y2_1 := _; letI y2_2 := _; letI y2_3 := _; letI y2_4 := _; letI y2_5 := _; letI y2_6 := _; goW6 Wq rfl y2_1 y2_2 y2_3 y2_4 y2_5 y2_6 rfl rfl rfl rfl rfl rfl ?_; try clear bq9))
  k_with "b2.8" => (with_reducible (rename BAR _ => bq9; refine letI kk := _; haveI bq8 := @barS kk bq9; letI Wq := mkW8 (k := kk) (n := by k_extra "ne"); letI y2_1 := _; letI y2_2 := _; letI y2_3 := _; letI y2_4 := _; letI y2_5 := _; letI y2_6 := _; letI y2_7 := _; letI y2_8 := _; goW8 Wq rfl y2_1 y2_2 y2_3 y2_4 y2_5 y2_6 y2_7 y2_8 rfl rfl rfl rfl rfl rfl rfl rfl ?_; try clear bq9))
  k_with "b2.12" => (with_reducible (rename BAR _ => bq9; refine letI kk := _; haveI bq8 := @barS kk bq9; letI Wq := mkW12 (k := kk) (n := by k_extra "ne"); letI y2_1 := _; letI y2_2 := _; letI y2_3 := _; letI y2_4 := _; letI y2_5 := _; letI y2_6 := _; letI y2_7 := _; letI y2_8 := _; letI y2_9 := _; letI y2_10 := _; letI y2_11 := _; letI y2_12 := _; goW12 Wq rfl y2_1 y2_2 y2_3 y2_4 y2_5 y2_6 y2_7 y2_8 y2_9 y2_10 y2_11 y2_12 rfl rfl rfl rfl rfl rfl rfl rfl rfl rfl rfl rfl ?_; try clear bq9))
  k_with "b3.1" => (with_reducible (rename BAR _ => bq9; refine letI kk := _; haveI bq8 := @barS kk bq9; letI y3_1 := _; goW1 (k := kk) (n := by k_extra "ne") y3_1 rfl ?_; try clear bq9))
  k_with "b3.2" => (with_reducible (rename BAR _ => bq9; refine letI kk := _; haveI bq8 := @barS kk bq9; letI Wq := mkW2 (k := kk) (n := by k_extra "ne"); letI y3_1 := _; letI y3_2 := _; goW2 Wq rfl y3_1 y3_2 rfl rfl ?_; try clear bq9))
  k_with "b3.6" => (with_reducible (rename BAR _ => bq9; refine letI kk := _; haveI bq8 := @barS kk bq9; letI Wq := mkW6 (k := kk) (n := by k_extra "ne"); letI y3_1 := _; letI y3_2 := _; letI y3_3 := _; letI y3_4 := _; letI y3_5 := _; letI y3_6 := _; goW6 Wq rfl y3_1 y3_2 y3_3 y3_4 y3_5 y3_6 rfl rfl rfl rfl rfl rfl ?_; try clear bq9))
  k_with "b3.8" => (with_reducible (rename BAR _ => bq9; refine letI kk := _; haveI bq8 := @barS kk bq9; letI Wq := mkW8 (k := kk) (n := by k_extra "ne"); letI y3_1 := _; letI y3_2 := _; letI y3_3 := _; letI y3_4 := _; letI y3_5 := _; letI y3_6 := _; letI y3_7 := _; letI y3_8 := _; goW8 Wq rfl y3_1 y3_2 y3_3 y3_4 y3_5 y3_6 y3_7 y3_8 rfl rfl rfl rfl rfl rfl rfl rfl ?_; try clear bq9))
  k_with "b3.12" => (with_reducible (rename BAR _ => bq9; refine letI kk := _; haveI bq8 := @barS kk bq9; letI Wq := mkW12 (k := kk) (n := by k_extra "ne"); letI y3_1 := _; letI y3_2 := _; letI y3_3 := _; letI y3_4 := _; letI y3_5 := _; letI y3_6 := _; letI y3_7 := _; letI y3_8 := _; letI y3_9 := _; letI y3_10 := _; letI y3_11 := _; letI y3_12 := _; goW12 Wq rfl y3_1 y3_2 y3_3 y3_4 y3_5 y3_6 y3_7 y3_8 y3_9 y3_10 y3_11 y3_12 rfl rfl rfl rfl rfl rfl rfl rfl rfl rfl rfl rfl ?_; try clear bq9))
  k_with "b4.1" => (with_reducible (rename BAR _ => bq9; refine letI kk := _; haveI bq8 := @barS kk bq9; letI y4_1 := _; goW1 (k := kk) (n := by k_extra "ne") y4_1 rfl ?_; try clear bq9))
  k_with "b4.2" => (with_reducible (rename BAR _ => bq9; refine letI kk := _; haveI bq8 := @barS kk bq9; letI Wq := mkW2 (k := kk) (n := by k_extra "ne"); letI y4_1 := _; letI y4_2 := _; goW2 Wq rfl y4_1 y4_2 rfl rfl ?_; try clear bq9))
  k_with "b4.12" => (with_reducible (rename BAR _ => bq9; refine letI kk := _; haveI bq8 := @barS kk bq9; letI Wq := mkW12 (k := kk) (n := by k_extra "ne"); letI y4_1 := _; letI y4_2 := _; letI y4_3 := _; letI y4_4 := _; letI y4_5 := _; letI y4_6 := _; letI y4_7 := _; letI y4_8 := _; letI y4_9 := _; letI y4_10 := _; letI y4_11 := _; letI y4_12 := _; goW12 Wq rfl y4_1 y4_2 y4_3 y4_4 y4_5 y4_6 y4_7 y4_8 y4_9 y4_10 y4_11 y4_12 rfl rfl rfl rfl rfl rfl rfl rfl rfl rfl rfl rfl ?_; try clear bq9))
  k_with "b5.12" => (with_reducible (rename BAR _ => bq9; refine letI kk := _; haveI bq8 := @barS kk bq9; letI Wq := mkW12 (k := kk) (n := by k_extra "ne"); letI y5_1 := _; letI y5_2 := _; letI y5_3 := _; letI y5_4 := _; letI y5_5 := _; letI y5_6 := _; letI y5_7 := _; letI y5_8 := _; letI y5_9 := _; letI y5_10 := _; letI y5_11 := _; letI y5_12 := _; goW12 Wq rfl y5_1 y5_2 y5_3 y5_4 y5_5 y5_6 y5_7 y5_8 y5_9 y5_10 y5_11 y5_12 rfl rfl rfl rfl rfl rfl rfl rfl rfl rfl rfl rfl ?_; try clear bq9))
  k_with "b6.6" => (with_reducible (rename BAR _ => bq9; refine letI kk := _; haveI bq8 := @barS kk bq9; letI Wq := mkW6 (k := kk) (n := by k_extra "ne"); letI y6_1 := _; letI y6_2 := _; letI y6_3 := _; letI y6_4 := _; letI y6_5 := _; letI y6_6 := _; goW6 Wq rfl y6_1 y6_2 y6_3 y6_4 y6_5 y6_6 rfl rfl rfl rfl rfl rfl ?_; try clear bq9))
  k_with "b7.1" => (with_reducible (rename BAR _ => bq9; refine letI kk := _; haveI bq8 := @barS kk bq9; letI y7_1 := _; goW1 (k := kk) (n := by k_extra "ne") y7_1 rfl ?_; try clear bq9))
  k_with "hd" => (with_reducible (rename BAR _ => bq9; refine letI kk := _; haveI bq8 := @barS kk bq9; letI Wq := mkW22 (k := kk) (n := by k_extra "ne"); letI p := _; letI loose := _; letI mean := _; letI mg := _; letI mb := _; letI dp := _; letI un := _; letI gd := _; letI cn := _; letI cs := _; letI a := _; letI ccd := _; letI cl := _; letI outer := _; letI A₀ := _; letI base := _; letI h₀ := _; letI L := _; letI mm := _; letI s := _; letI Q := _; letI E := _; goW22 Wq rfl p loose mean mg mb dp un gd cn cs a ccd cl outer A₀ base h₀ L mm s Q E rfl rfl rfl rfl rfl rfl rfl rfl rfl rfl rfl rfl rfl rfl rfl rfl rfl rfl rfl rfl rfl rfl ?_; try clear bq9))
  k_with "hdw" => (with_reducible (rename BAR _ => bq9; refine letI kk := _; haveI bq8 := @barS kk bq9; letI Wq := mkW23 (k := kk) (n := by k_extra "ne"); letI w := _; letI p := _; letI loose := _; letI mean := _; letI mg := _; letI mb := _; letI dp := _; letI un := _; letI gd := _; letI cn := _; letI cs := _; letI a := _; letI ccd := _; letI cl := _; letI outer := _; letI A₀ := _; letI base := _; letI h₀ := _; letI L := _; letI mm := _; letI s := _; letI Q := _; letI E := _; goW23 Wq rfl w p loose mean mg mb dp un gd cn cs a ccd cl outer A₀ base h₀ L mm s Q E rfl rfl rfl rfl rfl rfl rfl rfl rfl rfl rfl rfl rfl rfl rfl rfl rfl rfl rfl rfl rfl rfl rfl ?_; try clear bq9))
  k_with "hw" => (k_extra "hdw"; intro B F X N T hk hd hu hret; (with_reducible k_extra "bar"); refine wpAny_call ?_; k_extra "en")
  k_with "hv" => (k_extra "hd"; intro B F X N T hk hd hu hret; (with_reducible k_extra "bar"); refine wpAny_call ?_; k_extra "en")
  k_with "h0" => refine haveI b8 : BAR 0 := bar0; ?_
  k_with "!subscriptTail Name" => (k_here; (with_reducible show wpAny _ _ (subscriptTail _ _ (Value.ref _) (Value.int _ _)) _ _ _); k_dflt (refine' item_tupleT ?z61t ?z61a ?z61b ?z61c ?z61d ?_; (case z61t => refine' TupIs.tup ?z61tF ?z61tX ?z61tN ?z61tp; (case z61tF => k_asm); (case z61tX => k_asm); (case z61tN => k_asm); (case z61tp => first | assumption | (refine' TupIs.cons ?q726; (case q726 => assumption)) | (refine' TupIs.app ?q727; (case q727 => assumption)) | (refine' TupIs.cons (TupIs.cons ?q728); (case q728 => assumption)))); (case z61a => decide); (case z61b => decide); (case z61c => rfl); (case z61d => rfl); k_whole))
  k_with "!assign Tuple" => (k_here; (with_reducible show wpAny _ _ (assign (Expr.Tuple _ _ _) _ (Value.ref _)) _ _ _); k_dflt (refine' unpackN_ ?z62k1 ?z62k2 ?z62k3 ?z62k4 ?z62k5 ?z62k6 ?_; (case z62k1 => k_asm); (case z62k2 => k_asm); (case z62k3 => refine' TupIs.tup ?z62tF ?z62tX ?z62tN ?z62tp; (case z62tF => k_asm); (case z62tX => k_asm); (case z62tN => k_asm); (case z62tp => first | assumption | (refine' TupIs.cons ?q729; (case q729 => assumption)) | (refine' TupIs.app ?q730; (case q730 => assumption)))); (case z62k4 => exact rfl); (case z62k5 => exact rfl); (case z62k6 => exact rfl); k_whole); intro h' F' N'; (try k_sweep))
  k_with "!binaryOp Pow int int" => (k_here; (with_reducible refine pow_int_small ?z63kb1 ?z63kb2 ?z63kb3 ?_); (case z63kb1 => first | omega | (split <;> omega)); (case z63kb2 => first | omega | (split <;> omega)); (case z63kb3 => decide))
  k_with "!binaryOp Mult int int" => (k_here; (with_reducible refine PyProof.Rows.mul_int ?_ ?z64kb1); (case z64kb1 => first | (refine' IntMulOk.of_left (intBits_le_64 ?q731 ?q732); (case q731 => first | omega | (split <;> omega)); (case q732 => first | omega | (split <;> omega))) | (refine' IntMulOk.of_right (intBits_le_64 ?q733 ?q734); (case q733 => first | omega | (split <;> omega)); (case q734 => first | omega | (split <;> omega)))))
  k_with "!call ref" => ((with_reducible show wpAny _ _ (call (Value.ref _) _) _ _ _); k_here; k_dflt (refine' specP_use ?z65kC ?z65k1 ?z65k2 ?z65k3 ?z65k4 ?z65k5 ?z65kK ?z65kd ?z65ku ?_; (case z65k4 => k_asm); (case z65kC => k_extra "specP"); (case z65k1 => k_asm); (case z65k2 => k_asm); (case z65k3 => k_asm); (case z65k5 => k_asm); (case z65kK => first | exact rfl | assumption); (case z65kd => ktr_room); (case z65ku => ktr_units)); intro v9 tl9 h9 tk9 F9 N9 l9 hp9; (first | (obtain ⟨a9, u9, z9, e9, hp9⟩ := hp9; subst e9) | k_extra "openP"); (try k_sweep); (try k_fold))
  k_with "!call ref" => ((with_reducible show wpAny _ _ (call (Value.ref _) _) _ _ _); k_here; k_dflt (refine' specV_use ?z66kC ?z66k1 ?z66k2 ?z66k3 ?z66k4 ?z66k5 ?z66kK ?z66kd ?z66ku ?_; (case z66k4 => k_asm); (case z66kC => k_extra "specV"); (case z66k1 => k_asm); (case z66k2 => k_asm); (case z66k3 => k_asm); (case z66k5 => k_asm); (case z66kK => first | exact rfl | assumption); (case z66kd => ktr_room); (case z66ku => ktr_units)); intro v9 h9 tk9 F9 N9 hp9; (first | (refine Exists.elim hp9 ?_; clear hp9; intro t9 e9; subst e9) | subst hp9); (try k_sweep); (try k_fold))
  k_with "!call builtin:divmod" => (k_here; (with_reducible show wpAny _ _ (call (Value.builtin _) [Value.int _ _, Value.int _ _]) _ _ _); k_dflt (refine' divmod_K ?z67k1 ?z67k2 ?z67k3 ?z67k4 ?_; (case z67k1 => k_asm); (case z67k2 => k_asm); (case z67k3 => first | omega | k_extra "nonzero"); (case z67k4 => first | (refine' Or.inl (PyProof.noPylong_small ?q735); (case q735 => omega)) | (refine' Or.inr (PySem.PylongRoom.of (PySem.Heap.NoLimit.keeps (PyProof.Rows.Top.nolimit ?q736) (PyProof.Rows.Fr.keep ?q737)) (of_decide_eq_true ?q738)); (case q736 => assumption); (case q737 => assumption); (case q738 => with_unfolding_all rfl)) | k_extra "room"); k_whole); intro d' h' F' N' l1; (try k_sweep))
  k_with "m:k_mem" => (refine List.mem_append_right _ ?_; k_mem)
  trivial
-- LH
-- LM
theorem ints4 {ns : List Int} {ys : List Value} (h : IntsAre ys (List.map (fun k => asked ns k 19 - 9) (rangeKs 0 ((4 : Int) - 0).toNat))) : ∃ a b c d t0 t1 t2 t3, ys = [.int a t0, .int b t1, .int c t2, .int d t3] ∧ (-9 ≤ a ∧ a ≤ 9) ∧ (-9 ≤ b ∧ b ≤ 9) ∧ (-9 ≤ c ∧ c ≤ 9) ∧ (-9 ≤ d ∧ d ≤ 9) := by
  have key : ∀ k, -9 ≤ asked ns k 19 - 9 ∧ asked ns k 19 - 9 ≤ 9 := fun k => by
    have h1 := asked_lo ns k (many := 19) (by decide)
    have h2 := asked_hi ns k (many := 19) (by decide)
    omega
  rw [show rangeKs 0 ((4 : Int) - 0).toNat = [0, 1, 2, 3] from rfl] at h
  cases h with
  | cons n t h => cases h with
    | cons n t h => cases h with
      | cons n t h => cases h with
        | cons n t h => cases h with
          | nil => exact ⟨_, _, _, _, _, _, _, _, rfl, key _, key _, key _, key _⟩
section
open PyProof.Rows.LCg PySem.Spec PySem.Calls
variable {prog : Program} {w : World} {A : Around} {E : Value → Shared → Prop} {s : Shared} {h₀ : Heap} {L : Addr} {m : Str → Option Value} {env : Env}
def SrcN (prog : Program) (w : World) (A : Around) (h₀ : Heap) (L : Addr) (m : Str → Option Value) (env : Env) (elt : Expr) (x : Str) (scope : Scope) (cl : List (Str × Addr)) (Fin : Shared → List Value → Led → Prop) (xv : Value) (s₁ : Shared) : Prop :=
  ∃ ax ox its nx news, xv = .ref ax ∧ A.handled = none ∧ Fr h₀ L s₁.heap m ∧ News h₀ L s₁.heap news ∧ (ax, ox) ∈ news ∧ ox.cls = .type "tuple" ∧ ox.data = .seq its nx ∧ its.size ≤ sizeLine ∧
    ∀ g, CompRest prog w A h₀ L m env elt x scope cl { s₁ with heap := g } (fun n => (ax, ox) ∈ n) (fun i v => its[i]? = some v) (Fin { s₁ with heap := g }) its.size 0 [] news
theorem SrcN.intro {elt : Expr} {x : Str} {scope : Scope} {cl : List (Str × Addr)} {Fin : Shared → List Value → Led → Prop} {ax : Addr} {l : List Value} {ks : List Int} {news : Led} {s₁ : Shared} (hh : A.handled = none) (F : Fr h₀ L s₁.heap m) (N : News h₀ L s₁.heap news) (hm : (ax, tp l) ∈ news) (hsz : l.length ≤ sizeLine) (hi : IntsAre l ks) {g : Int → Int}
    (turn : ∀ (hp : Heap) k t I oI C oC D m₂ ys h tk (E' : Value → Shared → Prop), k ∈ ks → NsObj oC m₂ → m₂ x = some (.int k t) → Fr h₀ L h m → News h₀ L h ((I, oI) :: (C, oC) :: (D, lst ys) :: news) → Off3 I C D news → ((@Ne Nat I C) ∧ (@Ne Nat I D) ∧ (@Ne Nat C D)) →
      wpAny (model prog w) A (eval elt (compEnvC scope cl C env)) (CompEnd h₀ L m { s₁ with heap := h, toks := tk } I oI C oC D (lst ys) (fun n => (ax, tp l) ∈ n) (fun y news' => KCfEl news (g k) y news')) E' { s₁ with heap := h, toks := tk })
    (fin : ∀ (hp : Heap) ys, IntsAre ys (ks.map g) → Fin { s₁ with heap := hp } ys news) :
    SrcN prog w A h₀ L m env elt x scope cl Fin (.ref ax) s₁ := ⟨ax, _, l.toArray, _, news, rfl, hh, F, N, hm, rfl, rfl, hsz, fun hp => kcf_list g hi (fun k t I oI C oC D m₂ ys h tk E' hk hC hx F N off ne _ => turn hp k t I oI C oC D m₂ ys h tk E' hk hC hx F N off ne) (fin hp)⟩
theorem SrcN.ask {elt : Expr} {x : Str} {scope : Scope} {cl : List (Str × Addr)} {Fin : Shared → List Value → Led → Prop} {ax : Addr} {l : List Value} {ks : List Int} {vs : List Value} {ns : List Int} {news : Led} {s₁ : Shared} (_hv : IntsAre vs ns) (hh : A.handled = none) (F : Fr h₀ L s₁.heap m) (N : News h₀ L s₁.heap news) (hm : (ax, tp l) ∈ news) (hsz : l.length ≤ sizeLine) (hi : IntsAre l ks)
    (turn : ∀ (hp : Heap) k t I oI C oC D m₂ ys h tk (E' : Value → Shared → Prop), k ∈ ks → NsObj oC m₂ → m₂ x = some (.int k t) → Fr h₀ L h m → News h₀ L h ((I, oI) :: (C, oC) :: (D, lst ys) :: news) → Off3 I C D news → ((@Ne Nat I C) ∧ (@Ne Nat I D) ∧ (@Ne Nat C D)) →
      wpAny (model prog w) A (eval elt (compEnvC scope cl C env)) (CompEnd h₀ L m { s₁ with heap := h, toks := tk } I oI C oC D (lst ys) (fun n => (ax, tp l) ∈ n) (fun y news' => KCfEl news (asked ns k 41 - 20) y news')) E' { s₁ with heap := h, toks := tk })
    (fin : ∀ (hp : Heap) ys, IntsAre ys (ks.map fun k => asked ns k 41 - 20) → Fin { s₁ with heap := hp } ys news) :
    SrcN prog w A h₀ L m env elt x scope cl Fin (.ref ax) s₁ := SrcN.intro hh F N hm hsz hi (g := fun k => asked ns k 41 - 20) turn fin
theorem Assign_ListComp_N {elt iter : Expr} {x y : Str} {px py : Pos} {scope : Scope} {cl : List (Str × Addr)} {pos spos : Pos} {Q : Flow → Shared → Prop} (F₀ : Fr h₀ L s.heap m) (hLe : env.locals = L)
    (hsw : swapsWith (.ListComp elt [⟨.Name x px, iter, [], 0⟩] scope pos) (some (.Name y py)) spos.line env = pure true)
    (hclos : closureFor scope env = pure cl) (hcell : ∀ z ∈ scope.names, z.2 ≠ .cell) (hkind : scope.kind = .function)
    (hnames : ∀ z ∈ scope.names, z.2 = .local → scope.names.lookup z.1 = some .local) (hx : scope.names.lookup x = some .local)
    (hy : env.kindOf y = some .local) (hp : (env.scope.kind == .class || (env.scope.kind == .module && env.locals != env.globals)) = false)
    (h : wpAny (model prog w) A (eval iter env) (SrcN prog w A h₀ L m env elt x scope cl (fun s₂ => FinA h₀ L m s₂ y Q)) E s)
    (hs : ∀ x, foldedSetIterable iter env x = pure x := by intro _; rfl) :
    wpAny (model prog w) A (exec (.Assign [.Name y py] (.ListComp elt [⟨.Name x px, iter, [], 0⟩] scope pos) spos) env) Q E s := by
  subst hLe
  rw [exec_Assign_Name_used _ _ _ _ hsw]
  refine wpAny_bind (wpAny_standAt (wpAny_bind ?_))
  show wpAny _ A (do let _ ← comprehension (.ListComp elt [⟨.Name x px, iter, [], 0⟩] scope pos) scope env _ (newList []) false (eval iter env) (some (assign (.Name y py) env))) _ _ s
  refine wpAny_bind (wpAny_mono (wpAny_comprehension_free (use := some (assign (.Name y py) env)) (Q := fun _ s' => Q .next s') rfl hs hclos hkind hnames
    (wpAny_mono h (fun xv s₁ h₁ => ?_) fun _ _ e => e)) (fun _ s' hq => wpAny_pure (wpAny_pure hq)) fun _ _ e => e)
  refine viaP fun PZ kZ => ?_
  obtain ⟨ax, ox, its, nx, news, rfl, hh, F, N, hm, hoc, hod, hsz, R⟩ := h₁
  refine kZ ?_; clear kZ PZ
  have hT : s₁.heap.IsTuple ax its := ⟨ox, (N _ hm).1, hoc, _, hod⟩
  have hax : ax < s₁.heap.objs.size := Heap.lt_size (N _ hm).1
  refine wpAny_pyIter_tuple hT ?_
  have up : ∀ b o, s₁.heap.get? b = some o → (s₁.heap.push { cls := .type "tuple_iterator", data := .fields #[.ref ax, .int 0 0] }).get? b = some o := fun b o e => Heap.get?_push_of_some _ e
  refine block_U (Walks.tuple hh s₁.heap.objs.size ax (Nat.ne_of_lt hax) its) hsz (fun i h st => by obtain ⟨o, e, _⟩ := st.1; exact ⟨o, e⟩) (S := fun n => (ax, ox) ∈ n) (fun i h h' o nw st e e' _ N' S' => ⟨by obtain ⟨o', q, r⟩ := st.1; rw [e] at q; cases q; exact ⟨o, e', r⟩, ⟨ox, (N' _ S').1, hoc, _, hod⟩⟩) hcell hkind hx ⟨⟨_, Heap.get?_push_size _ rfl, rfl, rfl⟩, hT.at fun o e => up ax o e⟩ (fun b hb => ?_)
      (F.keeps up) (N.grown up) (Nat.ne_of_lt F.ns.lt) (next_is_new F) (fun p hp => Nat.ne_of_lt (Heap.lt_size (N p hp).1)) hm (R _) ?_
  · show b < (s₁.heap.push _).objs.size
    rw [Heap.size_push]
    rcases List.mem_cons.mp hb with rfl | hb
    · exact Nat.lt_succ_self _
    · rw [List.mem_singleton.mp hb]; exact Nat.lt_succ_of_lt hax
  · intro D C h' tk m' ys news' F' N' o1 hn hC₀ hD₀ hCL hDL hCD offC fin
    show wpAny _ A (assign (.Name y py) env (.ref D)) _ _ _
    refine wpAny_assign_Name (wpAny_storeName_local hy F'.ns (fun h₂ hn₂ hs₂ => ?_) hp)
    have hL₀ : h₀.get? env.locals = none := Heap.get?_none_of_le F'.above
    have F₂ : Fr h₀ env.locals h₂ (fun z => if z = y then some (.ref D) else m z) := ⟨hn₂, fun b o e => hs₂.extBut b o (fun q => by rw [q, hL₀] at e; cases e) (F'.keep b o e), F'.above⟩
    refine ⟨m', hn.sameBut hs₂ hCL, fun h'' hs'' => fin D h'' _ (F₂.change hs'' hCL hC₀) (fun p hp => ?_) o1⟩
    have z : h₂.get? p.1 = some p.2 := hs₂.extBut _ _ (N' p hp).2.1 (N' p hp).1
    refine ⟨hs''.extBut _ _ ?_ z, (N' p hp).2⟩
    rcases List.mem_cons.mp hp with rfl | hp
    · exact Ne.symm hCD
    · exact offC p hp
theorem ints2 {ns : List Int} {ys : List Value} (h : IntsAre ys (List.map (fun k => asked ns k 41 - 20) [4, 5])) : ∃ a b t0 t1, ys = [.int a t0, .int b t1] ∧ (-20 ≤ a ∧ a ≤ 20) ∧ (-20 ≤ b ∧ b ≤ 20) := by
  have key : ∀ k, -20 ≤ asked ns k 41 - 20 ∧ asked ns k 41 - 20 ≤ 20 := fun k => by
    have h1 := asked_lo ns k (many := 41) (by decide)
    have h2 := asked_hi ns k (many := 41) (by decide)
    omega
  cases h with
  | cons n t h => cases h with
    | cons n t h => cases h with
      | nil => exact ⟨_, _, _, _, rfl, key _, key _⟩
end
-- LR
section
open PyProof.Rows.LCg PyProof.Rows.LCp PySem.Spec PySem.Calls
variable {prog : Program} {w : World} {A : Around} {E : Value → Shared → Prop} {s : Shared} {h₀ : Heap} {L : Addr} {m : Str → Option Value} {env : Env}
theorem off1_mem {D : Addr} : ∀ {l : Led}, Off1 D l → ∀ p ∈ l, p.1 ≠ D
  | [], _, _, h => nomatch h
  | _ :: _, h, _, hp => (List.mem_cons.mp hp).elim (fun e => e ▸ h.1) (off1_mem h.2 _)
noncomputable def rowsL (q : Nat → Addr) (i : Nat) : List Value := (List.range i).map fun l => .ref (q l)
theorem rowsL_succ (q : Nat → Addr) (i : Nat) (a : Addr) : rowsL q i ++ [.ref a] = rowsL (fun l => if l = i then a else q l) (i + 1) := by
  unfold rowsL
  rw [List.range_succ, List.map_append]
  congr 1
  · exact List.map_congr_left fun l hl => congrArg Value.ref (if_neg (Nat.ne_of_lt (List.mem_range.mp hl))).symm
  · simp
theorem rowsL_get {q : Nat → Addr} {n i : Nat} (h : i < n) : (rowsL q n)[i]? = some (.ref (q i)) := by
  unfold rowsL
  rw [List.getElem?_map, List.getElem?_range h]; rfl
/-- one row of the statements -/
def RowAt (lab : Nat → Int) (st q : Nat → Addr) (n : Led) (i : Nat) : Prop := ∃ t t', (q i, tp [.int (lab i) t, .ref (st i), .int 1 t']) ∈ n
/-- the turn of the comprehension: the row is made -/
def RowTurn (prog : Program) (w : World) (A : Around) (h₀ : Heap) (L : Addr) (m : Str → Option Value) (env : Env) (elt : Expr) (x x₂ : Str) (scope : Scope) (cl : List (Str × Addr)) (s : Shared) : Prop :=
  ∀ v₁ v₂ ys news I oI C oC D m₂ h tk (E' : Value → Shared → Prop), NsObj oC m₂ → m₂ x = some v₁ → m₂ x₂ = some v₂ → Fr h₀ L h m → News h₀ L h ((I, oI) :: (C, oC) :: (D, lst ys) :: news) → Off3 I C D news → ((@Ne Nat I C) ∧ (@Ne Nat I D) ∧ (@Ne Nat C D)) →
      wpAny (model prog w) A (eval elt (compEnvC scope cl C env)) (CompEnd h₀ L m { s with heap := h, toks := tk } I oI C oC D (lst ys) (fun _ => True) (fun y news' => ∃ q t', y = .ref q ∧ news' = (q, tp [v₁, v₂, .int 1 t']) :: news)) E' { s with heap := h, toks := tk }
theorem compRows {elt : Expr} {x x₂ : Str} {scope : Scope} {cl : List (Str × Addr)} {ax : Addr} {k : Nat} {lab : Nat → Int} {r st : Nat → Addr} {n0 : Led} {Fin : List Value → Led → Prop} (hm : (ax, listOf (rowsL r 15).toArray k) ∈ n0) (hrow : ∀ i, i < 15 → ∃ t, (r i, tp [.int (lab i) t, .ref (st i)]) ∈ n0) (turn : RowTurn prog w A h₀ L m env elt x x₂ scope cl s)
    (fin : ∀ (q : Nat → Addr) news, Kept n0 news → (∀ i, i < 15 → RowAt lab st q news i) → Fin (rowsL q 15) news) :
    ∀ j i (q : Nat → Addr) news, i + j = 15 → Kept n0 news → (∀ l, l < i → RowAt lab st q news l) → CompRestP prog w A h₀ L m env elt x x₂ scope cl s (SrcAt h₀ ax (rowsL r 15).toArray) (fun i v => (rowsL r 15).toArray[i]? = some v) Fin j i (rowsL q i) news := by
  intro j
  induction j with
  | zero =>
    intro i q news e hk hq
    obtain rfl : i = 15 := by lia
    exact CompRestP.zero (fin q news hk hq)
  | succ j ih =>
    intro i q news e hk hq
    have hi : i < 15 := by lia
    refine CompRestP.succ fun v hv => ?_
    have hv2 : v = .ref (r i) := by
      rw [show (rowsL r 15).toArray[i]? = (rowsL r 15)[i]? from List.getElem?_toArray .., rowsL_get hi] at hv
      exact (Option.some.inj hv).symm
    obtain ⟨t, ht⟩ := hrow i hi
    refine ⟨r i, _, .int (lab i) t, .ref (st i), _, hv2, hk _ ht, rfl, rfl, fun I oI C oC D m₂ h tk E' hC h1 h2 F N off ne => wpAny_mono (turn _ _ _ _ _ _ _ _ _ _ _ _ _ hC h1 h2 F N off ne) (fun y s' he => ?_) fun _ _ e => e⟩
    refine viaP fun PZ kZ => ?_
    obtain ⟨h', tk', news', rfl, F', N', off', -, b, t', rfl, rfl⟩ := he
    refine kZ ?_; clear kZ PZ
    refine ⟨h', tk', _, rfl, F', N', off', .inr ⟨_, .tail _ (hk _ hm), rfl, _, rfl⟩, ?_⟩
    show CompRestP _ _ _ _ _ _ _ _ _ _ _ _ _ _ _ _ _ _ (rowsL q i ++ [.ref b]) _
    rw [rowsL_succ]
    refine ih (i + 1) _ _ (by lia) (fun p hp => .tail _ (hk p hp)) fun l hl => ?_
    by_cases hc : l = i
    · subst hc
      exact ⟨t, t', by show (ite (l = l) b (q l), _) ∈ _; rw [if_pos rfl]; exact .head _⟩
    · obtain ⟨u, u', hu⟩ := hq l (by lia)
      exact ⟨u, u', by show (ite (l = i) b (q l), _) ∈ _; rw [if_neg hc]; exact .tail _ hu⟩
/-- the source of the statements' comprehension -/
theorem SrcLP.rows {elt : Expr} {x x₂ : Str} {scope : Scope} {cl : List (Str × Addr)} {ax ud : Addr} {oud : Obj} {k : Nat} {lab : Nat → Int} {r st : Nat → Addr} {n0 : Led} {Q : Value → Shared → Prop} {s₁ : Shared}
    (hh : A.handled = none) (F : Fr h₀ L s₁.heap m) (N : News h₀ L s₁.heap n0) (hm : (ax, listOf (rowsL r 15).toArray k) ∈ n0) (hrow : ∀ i, i < 15 → ∃ t, (r i, tp [.int (lab i) t, .ref (st i)]) ∈ n0) (hud : (ud, oud) ∈ n0) (hc : oud.cls ≠ .type "tuple")
    (turn : ∀ g, RowTurn prog w A h₀ L m env elt x x₂ scope cl { s₁ with heap := g })
    (fin : ∀ g D h tk q X, Fr h₀ L h m → News h₀ L h ((ud, oud) :: X) → (∀ p ∈ X, p.1 ≠ ud) → (D, lst (rowsL q 15)) ∈ X → (∀ p ∈ n0, p.1 ≠ ud → p ∈ X) → (∀ p ∈ Tup n0, p ∈ Tup X) → (∀ i, i < 15 → RowAt lab st q X i) → Q (.ref D) { { s₁ with heap := g } with heap := h, toks := tk }) :
    SrcLP prog w A h₀ L m env elt x x₂ scope cl (fun s₂ => FinE h₀ L m s₂ Q) (.ref ax) s₁ := by
  refine SrcLP.ledger hh F N hm (show (rowsL r 15).length ≤ sizeLine by unfold rowsL; rw [List.length_map, List.length_range]; decide) fun g => ?_
  haveI key := compRows (s := { s₁ with heap := g }) (elt := elt) (x := x) (x₂ := x₂) (scope := scope) (cl := cl) (env := env) (prog := prog) (w := w) (A := A) (h₀ := h₀) (L := L) (m := m) (Fin := FinE h₀ L m { s₁ with heap := g } Q) hm hrow (turn g) (fun q news hk hq => ?_) 15 0 (fun _ => 0) n0 rfl (fun _ h => h) (fun l hl => absurd hl (Nat.not_lt_zero _))
  · exact key
  · intro D h tk F' N' off
    have hud' : (ud, oud) ∈ (D, lst (rowsL q 15)) :: news := .tail _ (hk _ hud)
    have hD : D ≠ ud := fun e => by
      exact off1_mem off _ (hk _ hud) e.symm
    refine fin g D h tk q (Ex ud ((D, lst (rowsL q 15)) :: news)) F' (fun p hp => ?_) (fun p hp => (Ex.mem.mp hp).2) (Ex.mem.mpr ⟨.head _, hD⟩) (fun p hp hn => Ex.mem.mpr ⟨.tail _ (hk _ hp), hn⟩) (fun p hp => ?_) fun i hi => ?_
    · rcases List.mem_cons.mp hp with rfl | hp
      · exact N' _ hud'
      · exact N' p (Ex.mem.mp hp).1
    · obtain ⟨hp, ht⟩ := Tup.mem.mp hp
      refine Tup.mem.mpr ⟨Ex.mem.mpr ⟨.tail _ (hk _ hp), fun e => hc ?_⟩, ht⟩
      have e2 : p.2 = oud := fn_news N' _ (List.mem_cons_of_mem _ (hk _ hp)) _ hud' e
      rw [← e2]; exact ht
    · obtain ⟨t, t', ht⟩ := hq i hi
      refine ⟨t, t', Ex.mem.mpr ⟨.tail _ ht, fun e => hc ?_⟩⟩
      have e2 : tp _ = oud := fn_news N' _ (List.mem_cons_of_mem _ ht) _ hud' e
      rw [← e2]
theorem compEnd_row {I C D q : Addr} {o : Obj} {s₁ : Shared} {oI oC oD : Obj} {rest : Value → Led → Prop} {y : Value} {h' : Heap} {tk : Nat} {news : Led} (F : Fr h₀ L h' m) (N : News h₀ L h' ((q, o) :: (I, oI) :: (C, oC) :: (D, oD) :: news)) (l : @LT.lt Nat _ I q ∧ @LT.lt Nat _ C q ∧ @LT.lt Nat _ D q ∧ AllLt q news) (off : Off3 I C D news) (r : rest y ((q, o) :: news)) :
    CompEnd h₀ L m s₁ I oI C oC D oD (fun _ => True) rest y { s₁ with heap := h', toks := tk } :=
  CompEnd.intro F N ((q, o) :: news) (fun p hp => by
    rcases List.mem_cons.mp hp with rfl | hp
    · exact .tail _ (.head _)
    · rcases List.mem_cons.mp hp with rfl | hp
      · exact .tail _ (.tail _ (.head _))
      · rcases List.mem_cons.mp hp with rfl | hp
        · exact .tail _ (.tail _ (.tail _ (.head _)))
        · rcases List.mem_cons.mp hp with rfl | hp
          · exact .head _
          · exact .tail _ (.tail _ (.tail _ (.tail _ hp)))) (Off3.of fun p hp => by
    rcases List.mem_cons.mp hp with rfl | hp
    · exact ⟨Nat.ne_of_gt l.1, Nat.ne_of_gt l.2.1, Nat.ne_of_gt l.2.2.1⟩
    · exact off.mem _ hp) trivial r
theorem compEnd_ask {I C D : Addr} {s₁ : Shared} {oI oC oD : Obj} {S : Led → Prop} {r : Int} {t : Tok} {h' : Heap} {tk : Nat} {news : Led} (F : Fr h₀ L h' m) (N : News h₀ L h' ((I, oI) :: (C, oC) :: (D, oD) :: news)) (off : Off3 I C D news) (hS : S news) :
    CompEnd h₀ L m s₁ I oI C oC D oD S (fun y news' => KCfEl news r y news') (.int r t) { s₁ with heap := h', toks := tk } := CompEnd.intro F N news (fun _ h => h) off hS ⟨rfl, t, rfl⟩
end
theorem Rows15.sub {n n' : Led} {r s : Nat → Addr} (h : Rows15 n r s) (g : ∀ p ∈ n, p ∈ n') : Rows15 n' r s := by
  refine viaP fun PZ kZ => ?_
  obtain ⟨h1, h2, ⟨ya, yb, a, b, t, t1, t2, t3, t4, t5, t6, t7, t8, l0, l1, l2, l3, l4⟩, h4, h5, t9, h6⟩ := h
  refine kZ ?_; clear kZ PZ
  exact ⟨fun i hi => (h1 i hi).imp fun t ht => g _ ht, fun i a b c d e => (h2 i a b c d e).sub g, ⟨ya, yb, a, b, t, t1, t2, t3, t4, t5, t6, t7, t8, g _ l0, g _ l1, g _ l2, g _ l3, l4.sub g⟩, h4.sub g, h5.sub g, t9, g _ h6⟩
theorem Rows15.rowN {n : Led} {r s : Nat → Addr} (h : Rows15 (Tup n) r s) : ∀ i, i < 15 → ∃ t, (r i, tp [.int (labOf i) t, .ref (s i)]) ∈ n := fun i hi => (h.row i hi).imp fun t ht => (Tup.mem.mp ht).1
/-- the unit's statements stand -/
def Prog15 (X : Led) (D : Addr) : Prop := ∃ q r s, (D, LCg.lst (rowsL q 15)) ∈ X ∧ (∀ i, i < 15 → RowAt labOf s q X i) ∧ Rows15 (Tup X) r s
-- LV
section
variable {w : World} {A : Around} {E : Value → Shared → Prop} {s : Shared} {h₀ : Heap} {L d d2 : Addr} {m : Str → Option Value} {news : Led} {o o2 : Obj}
theorem kdu_method {K : Type} [DecidableEq K] {knd : PySem.KeyKind WP w K} {kvs : List (K × Value)} {pl : Sem Bool} {Q : Value × List Value → Shared → Prop} (N : News h₀ L s.heap news) (hp : (d, o) ∈ news) (hd : o.IsDictOf knd kvs) (h : Q (.builtin "dict.update", [.ref d]) s) : wpAny (model WP w) A (getMethod (.ref d) (Str.ofString "update") pl) Q E s :=
  have hD := kda_dict N hp hd
  getMethod_builtin hD.typeIs PySem.F.plainAttrs_dict PySem.F.slot_dict_update PySem.F.type_dict_update hD.mapOf.noDict h
/-- the handlers of the run: the two dicts put together -/
theorem kdu_update {kvs : List (Str × Value)} {t1 t2 : Tok} {g : Obj → Led} {Q : Value → Shared → Prop} (F : Fr h₀ L s.heap m) (N : News h₀ L s.heap news) (U : UpdF d o news g) (hd : o.IsDictOf (strKind WP w) kvs) (hz : kvs.length ≤ 16) (v1 : valueAt kvs (Str.ofString "lif") = some (.ref 716)) (v2 : valueAt kvs (Str.ofString "do") = some (.ref 744)) (v3 : valueAt kvs (Str.ofString "end") = some (.ref 765))
    (hm2 : (d2, o2) ∈ news) (hd2 : o2.IsDictOf (strKind WP w) (strPairs [(.str (Str.ofString "assign") t1, .ref 653), (.str (Str.ofString "setlabel") t2, .ref 667)])) (lo : (d2 == sysModules) = false) (hne : d ≠ d2)
    (h : ∀ h' o' kv, Fr h₀ L h' m → News h₀ L h' (g o') → o'.IsDictOf (strKind WP w) kv → valueAt kv (Str.ofString "assign") = some (.ref 653) → valueAt kv (Str.ofString "lif") = some (.ref 716) → valueAt kv (Str.ofString "do") = some (.ref 744) → valueAt kv (Str.ofString "end") = some (.ref 765) → Q .none { s with heap := h' }) :
    wpAny (model WP w) A (call (.builtin "dict.update") [.ref d, .ref d2]) Q E s := by
  refine viaP fun PZ kZ => ?_
  obtain ⟨pre, post, rfl, hg, a, b⟩ := U.split
  refine kZ ?_; clear kZ PZ
  have hm := N (d, o) (List.mem_append_right _ (.head _))
  have hD : s.heap.DictOf (strKind WP w) d kvs := Heap.dictOf_iff.mpr ⟨o, hm.1, hd⟩
  have hD2 : s.heap.DictOf (strKind WP w) d2 [(Str.ofString "assign", .ref 653), (Str.ofString "setlabel", .ref 667)] := Heap.dictOf_iff.mpr ⟨o2, (N _ hm2).1, hd2⟩
  refine call_meetsIn PySem.F.slot_dict_update hD.typeIs PySem.F.entry_dict_update (PySem.F.args_dict_update_2 _ _) (meets_dict_update (strKind WP w) d d2 hne lo)
    ⟨kvs, _, hD, hD2, Nat.le_trans (Nat.add_le_add_right hz 2) (by decide), fun h' hmm _ hs => ?_⟩
  obtain ⟨o', ho', hd'⟩ := Heap.dictOf_iff.mp hmm
  refine h h' o' _ (F.change hs hm.2.1 hm.2.2) (hg o' ▸ N.setIn a b hs ho') hd' ?_ ?_ ?_ ?_
  · exact va_other (by decide) (valueAt_stored_same _ _ _)
  · exact va_other (by decide) (va_other (by decide) v1)
  · exact va_other (by decide) (va_other (by decide) v2)
  · exact va_other (by decide) (va_other (by decide) v3)
end
-- LS
/-- what a row of the unit's statements holds -/
structure RowD where
  (y1 y2 y3 y4 : Addr) (ta tb tc td : Tok)
structure RowOk (X : Led) (q s : Nat → Addr) (i : Nat) (d : RowD) : Prop where
  row : (q i, tp [.int (labOf i) d.ta, .ref (s i), .int 1 d.tb]) ∈ X
  asg : i ≠ 3 → i ≠ 5 → i ≠ 11 → i ≠ 14 → (s i, tp [.str (Str.ofString "assign") d.tc, .ref d.y1, .ref d.y2]) ∈ X ∧ AsgP X d.y1 i ∧ (aE i).Rep X d.y2
  lif : i = 5 → (s 5, tp [.str (Str.ofString "lif") d.tc, .ref d.y1, .ref d.y2]) ∈ X ∧ LifP X d.y1 d.y2
  dos : i = 3 ∨ i = 11 → (s i, tp [.str (Str.ofString "do") d.tc, .int (doOf i) d.td, .ref d.y1, .ref d.y2, .ref d.y3, .ref d.y4]) ∈ X ∧ DosP X d.y1 d.y2 d.y3 d.y4 i
  fin : i = 14 → (s 14, tp [.str (Str.ofString "end") d.tc]) ∈ X
theorem rowOk {X : Led} {q r s : Nat → Addr} (hq : ∀ i, i < 15 → RowAt labOf s q X i) (hR : Rows15 X r s) (i : Nat) : ∃ d : RowD, i < 15 → RowOk X q s i d := by
  refine @dq _ (by
  by_cases hi : i < 15
  · obtain ⟨ta, tb, hrow⟩ := hq i hi
    by_cases h5 : i = 5
    · subst h5
      refine viaP fun PZ kZ => ?_
      have hz8 := hR.lif; revert hz8; refine im12 ?_; intro ya yb a b t t1 t2 t3 t4 t5 t6 t7; rintro ⟨t8, hz8⟩; revert hz8; rintro ⟨l0, l1, l2, l3, y1, y2, u1, u2, u3, u4, m1, m2, m3⟩
      refine kZ ?_; clear kZ PZ
      exact ⟨⟨ya, yb, 0, 0, ta, tb, t, 0⟩, fun _ => ⟨hrow, fun _ h => absurd rfl h, fun _ => ⟨l0, fun i => List.getD [a, b, y1, y2] i 0, fun i => List.getD [t1, t2, t3, t4, t5, t6, t7, t8, u1, u2, u3, u4] i 0, l1, l2, l3, m1, m2, m3⟩, fun h => absurd h (by decide), fun h => absurd h (by decide)⟩⟩
    · by_cases h14 : i = 14
      · subst h14
        obtain ⟨t, ht⟩ := hR.fin
        exact ⟨⟨0, 0, 0, 0, ta, tb, t, 0⟩, fun _ => ⟨hrow, fun _ _ _ h => absurd rfl h, fun h => absurd h (by decide), fun h => absurd h (by decide), fun _ => ht⟩⟩
      · by_cases h3 : i = 3
        · subst h3
          refine viaP fun PZ kZ => ?_
          have hz8 := hR.do1; revert hz8; refine im12 ?_; intro y1 y2 y3 t1 tc t2 t3 t4 t5 t6 t7 t8; refine im2 ?_; intro t9 td; rintro ⟨m1, m2, m3, m4⟩
          refine kZ ?_; clear kZ PZ
          exact ⟨⟨y1, y2, y3, y2, ta, tb, t1, tc⟩, fun _ => ⟨hrow, fun h => absurd rfl h, fun h => absurd h (by decide), fun _ => ⟨m1, fun i => List.getD [t2, t3, t4, t5, t6, t7, t8, t9, td, t5, t6, t7] i 0, m2, m3, m4, m3⟩, fun h => absurd h (by decide)⟩⟩
        · by_cases h11 : i = 11
          · subst h11
            refine viaP fun PZ kZ => ?_
            have hz8 := hR.do2; revert hz8; refine im12 ?_; intro y1 y2 y3 t1 tc t2 t3 t4 t5 t6 t7 t8; refine im2 ?_; intro t9 td; rintro ⟨m1, m2, m3, m4⟩
            refine kZ ?_; clear kZ PZ
            exact ⟨⟨y1, y2, y3, y2, ta, tb, t1, tc⟩, fun _ => ⟨hrow, fun _ _ h => absurd rfl h, fun h => absurd h (by decide), fun _ => ⟨m1, fun i => List.getD [t2, t3, t4, t5, t6, t7, t8, t9, td, t5, t6, t7] i 0, m2, m3, m4, m3⟩, fun h => absurd h (by decide)⟩⟩
          · have hz8 := hR.asg i hi h3 h5 h11 h14; revert hz8; refine im6 ?_; intro y1 y2 t1 t2 t3 t4; rintro ⟨m1, m2, m3⟩
            exact ⟨⟨y1, y2, 0, 0, ta, tb, t1, 0⟩, fun _ => ⟨hrow, fun _ _ _ _ => ⟨m1, ⟨fun i => List.getD [t2, t3, t4] i 0, m2⟩, m3⟩, fun h => absurd h h5, fun h => h.elim (fun h => absurd h h3) fun h => absurd h h11, fun h => absurd h h14⟩⟩
  · exact ⟨⟨0, 0, 0, 0, 0, 0, 0, 0⟩, fun h => absurd h hi⟩) fun q hf => ?_
  simpa only using fq hf (@Eq _ 5 5)
/-- the program that stands -/
structure ProgIs (pd : PD) (X : Led) (D : Addr) : Prop where
  e : pd.sl = D
  len : pd.sts.length = 15 ∧ pd.sn = 15
  sl : (D, LCg.lst pd.sts) ∈ X
  row : ∀ i, i < 15 → pd.sts[i]? = some (.ref (pd.sr i))
  ok : ∀ i, i < 15 → RowOk X pd.sr pd.st i ⟨pd.y1 i, pd.y2 i, pd.y3 i, pd.y4 i, pd.ta i, pd.tb i, pd.tc i, pd.td i⟩
theorem prog_is {X : Led} {D : Addr} (h : Prog15 X D) : ∃ pd, ProgIs pd X D := by
  refine viaP fun PZ kZ => ?_
  obtain ⟨q, r, s, hD, hq, hR⟩ := h
  obtain ⟨f, hf⟩ := Classical.skolem.mp (rowOk hq (hR.sub fun p hp => (Tup.mem.mp hp).1))
  refine kZ ?_; clear kZ PZ
  exact ⟨⟨D, 15, rowsL q 15, q, s, fun i => (f i).y1, fun i => (f i).y2, fun i => (f i).y3, fun i => (f i).y4, fun i => (f i).ta, fun i => (f i).tb, fun i => (f i).tc, fun i => (f i).td⟩, rfl, ⟨by show (rowsL q 15).length = 15; unfold rowsL; rw [List.length_map, List.length_range], rfl⟩, hD, fun i hi => rowsL_get hi, fun i hi => hf i hi⟩
theorem lst_len {l : List Value} {n : Nat} (h : l.length = n) : LCg.lst l = listOf l.toArray n := by rw [← h]
theorem ProgIs.pis {pd : PD} {X X' : Led} {D : Addr} (h : ProgIs pd X D) (g : ∀ p ∈ X, p ∈ X') : PIs pd X' :=
  ⟨by
    have := h.sl
    rw [lst_len h.len.1] at this
    rw [h.e, h.len.2]
    exact g _ this, h.len.1, fun i hi => ⟨h.row i hi, g _ (h.ok i hi).row⟩, fun i hi a b c d => g _ ((h.ok i hi).asg a b c d).1, g _ ((h.ok 5 (by decide)).lif rfl).1, fun i hi => g _ ((h.ok i (by rcases hi with rfl | rfl <;> decide)).dos hi).1, g _ ((h.ok 14 (by decide)).fin rfl)⟩
/-- the frame of the run -/
def FrIs (w : World) (fr : Addr) (S : Led) : Prop := ∃ fo fv, (fr, fo) ∈ S ∧ (fr == sysModules) = false ∧ fo.IsDictOf (strKind WP w) fv ∧
    (∀ i, i < 12 → ∃ pa t6 t7 z1 z2, valueAt fv (nmAt i) = some (.ref pa) ∧ (pa, tp [.int 2 t6, .int (2 * (i : Nat)) t7, z1, z2]) ∈ S) ∧
    (∃ pa t6 t7 z1 z2, valueAt fv (Str.ofString "K") = some (.ref pa) ∧ (pa, tp [.int 0 t6, .int 24 t7, z1, z2]) ∈ S)
/-- the law's state behind the building of the run -/
structure Pre (w : World) (q : Stc) (S : Led) : Prop where
  mk1 : ∀ S' : Led, (∀ p ∈ S, p ∈ S') → FrIs w q.c.r.fr S' → StIs w q S'
  ne : ∀ p ∈ S, @Ne Nat p.1 q.c.rd ∧ @Ne Nat p.1 q.c.ce ∧ @Ne Nat p.1 q.c.r.lo ∧ @Ne Nat p.1 q.c.r.fl ∧ @Ne Nat p.1 q.c.r.fr
  d : @Ne Nat q.c.rd q.c.ce ∧ @Ne Nat q.c.rd q.c.r.lo ∧ @Ne Nat q.c.ce q.c.r.lo ∧ @Ne Nat q.c.r.fl q.c.rd ∧ @Ne Nat q.c.r.fl q.c.ce ∧ @Ne Nat q.c.r.fl q.c.r.lo ∧ @Ne Nat q.c.r.fr q.c.rd ∧ @Ne Nat q.c.r.fr q.c.ce ∧ @Ne Nat q.c.r.fr q.c.r.lo ∧ @Ne Nat q.c.r.fr q.c.r.fl
theorem ne5 {a rd ce lo fl fr : Nat} (h : a < rd) (h1 : rd < fr) (h2 : fr < fl) (h3 : fl < lo) (hc : a ≠ ce) : a ≠ rd ∧ a ≠ ce ∧ a ≠ lo ∧ a ≠ fl ∧ a ≠ fr :=
  ⟨Nat.ne_of_lt h, hc, Nat.ne_of_lt (Nat.lt_trans h (Nat.lt_trans h1 (Nat.lt_trans h2 h3))), Nat.ne_of_lt (Nat.lt_trans h (Nat.lt_trans h1 h2)), Nat.ne_of_lt (Nat.lt_trans h h1)⟩
theorem law_collapse : ∀ (w : World) (h₀ h : Heap) (L : Addr) (opO rdO rfo rflo rloo peO unO asO : Obj) (unD lld asD : Addr) (lk1 lk2 lk3 lk4 lk5 lk6 lk7 lk8 mq1 mq2 ts : Tok) (mch : Value) (X0 : Led) (opV : List (Int × Value)) (peV : List (Str × Value)) (q : Stc), (News h₀ L h ((q.c.r.op, opO) :: (q.c.ru, instObj 450 q.c.rd) :: (q.c.rd, runD w.params q.c.r 0 ts) :: (q.c.r.fr, rfo) :: (q.c.r.fl, rflo) :: (q.c.r.lo, rloo) :: (q.c.r.ex, peO) :: (unD, unO) :: (q.c.r.la, instObj 797 lld) ::
      (lld, dictOf [enS w.params "width" lk1 (.int 32 1339), enS w.params "real_digits" lk2 (.int 7 1340), enS w.params "double_digits" lk3 (.int 15 1341), enS w.params "top_exponent" lk4 (.int 38 1342), enS w.params "steps" lk5 (.int 1000000 1343), enS w.params "continuations" lk6 (.int 19 1344), enS w.params "columns" lk7 (.int 72 1345), enS w.params "depth" lk8 (.int 40 1346)] 8) ::
      (q.c.ce, listOf (List.replicate 25 Value.none).toArray 0) :: (q.c.r.me, instObj 141 q.c.md) :: (q.c.md, dictOf [enS w.params "numeric" mq1 (.ref q.c.ce), enS w.params "characters" mq2 mch] 2) :: (asD, asO) :: (q.c.r.st, q.so) :: (q.ud, unitD w.params q.u) :: X0)) → (∀ p ∈ (q.c.ru, instObj 450 q.c.rd) :: (q.c.rd, rdO) :: (q.c.r.fr, rfo) :: (q.c.r.fl, rflo) :: (q.c.r.lo, rloo) :: (q.c.r.ex, peO) :: (unD, unO) :: (q.c.r.la, instObj 797 lld) ::
      (lld, dictOf [enS w.params "width" lk1 (.int 32 1339), enS w.params "real_digits" lk2 (.int 7 1340), enS w.params "double_digits" lk3 (.int 15 1341), enS w.params "top_exponent" lk4 (.int 38 1342), enS w.params "steps" lk5 (.int 1000000 1343), enS w.params "continuations" lk6 (.int 19 1344), enS w.params "columns" lk7 (.int 72 1345), enS w.params "depth" lk8 (.int 40 1346)] 8) ::
      (q.c.ce, listOf (List.replicate 25 Value.none).toArray 0) :: (q.c.r.me, instObj 141 q.c.md) :: (q.c.md, dictOf [enS w.params "numeric" mq1 (.ref q.c.ce), enS w.params "characters" mq2 mch] 2) :: (asD, asO) :: (q.c.r.st, q.so) :: (q.ud, unitD w.params q.u) :: X0, @LT.lt Nat _ p.1 q.c.r.op) → (∀ p ∈ (q.c.r.ex, peO) :: (unD, unO) :: (q.c.r.la, instObj 797 lld) ::
      (lld, dictOf [enS w.params "width" lk1 (.int 32 1339), enS w.params "real_digits" lk2 (.int 7 1340), enS w.params "double_digits" lk3 (.int 15 1341), enS w.params "top_exponent" lk4 (.int 38 1342), enS w.params "steps" lk5 (.int 1000000 1343), enS w.params "continuations" lk6 (.int 19 1344), enS w.params "columns" lk7 (.int 72 1345), enS w.params "depth" lk8 (.int 40 1346)] 8) ::
      (q.c.ce, listOf (List.replicate 25 Value.none).toArray 0) :: (q.c.r.me, instObj 141 q.c.md) :: (q.c.md, dictOf [enS w.params "numeric" mq1 (.ref q.c.ce), enS w.params "characters" mq2 mch] 2) :: (asD, asO) :: (q.c.r.st, q.so) :: (q.ud, unitD w.params q.u) :: X0, @LT.lt Nat _ p.1 q.c.rd) → (@LT.lt Nat _ q.c.rd q.c.ru) → (@LT.lt Nat _ q.c.ru q.c.r.fr) → (@LT.lt Nat _ q.c.r.fr q.c.r.fl) → (@LT.lt Nat _ q.c.r.fl q.c.r.lo) → (@LT.lt Nat _ q.c.ce q.c.r.ex) → (@LT.lt Nat _ q.c.ce unD) → (@LT.lt Nat _ q.c.ce lld) → (@LT.lt Nat _ lld q.c.r.la) → (@LT.lt Nat _ q.c.r.me q.c.ce) → (@LT.lt Nat _ q.c.md q.c.r.me) → (∀ p ∈ (asD, asO) :: (q.c.r.st, q.so) :: (q.ud, unitD w.params q.u) :: X0, @LT.lt Nat _ p.1 q.c.md) → ((q.un, instObj 818 q.ud) ∈ X0) → (ProgIs q.pd X0 q.u.sl) → ((q.c.r.op == sysModules) = false) → (opO.IsDictOf (intKind WP w) opV) → (valueAt opV 0 = some (.ref 292)) → (valueAt opV 2 = some (.ref 419)) → ((q.c.r.ex == sysModules) = false) → (peO.IsDictOf (strKind WP w) peV) → (valueAt peV (Str.ofString "const") = some (.ref 494) ∧ valueAt peV (Str.ofString "var") = some (.ref 501) ∧ valueAt peV (Str.ofString "add") = some (.ref 515) ∧ valueAt peV (Str.ofString "sub") = some (.ref 515) ∧ valueAt peV (Str.ofString "mul") = some (.ref 515) ∧ valueAt peV (Str.ofString "div") = some (.ref 515) ∧ valueAt peV (Str.ofString "eq") = some (.ref 522)) → ((q.c.r.st == sysModules) = false) → (q.so.IsDictOf (strKind WP w) q.sv) → (valueAt q.sv (Str.ofString "assign") = some (.ref 653)) → (valueAt q.sv (Str.ofString "lif") = some (.ref 716)) → (valueAt q.sv (Str.ofString "do") = some (.ref 744)) → (valueAt q.sv (Str.ofString "end") = some (.ref 765)) → ((q.c.r.lo == sysModules) = false) → (q.xe ∈ X0) → ∃ S, Pre w q S ∧ News h₀ L h ((q.c.r.fr, rfo) :: (q.c.ce, listOf (List.replicate 25 Value.none).toArray 0) :: (q.c.rd, runD w.params q.c.r 0 ts) :: (q.c.r.fl, rflo) :: (q.c.r.lo, rloo) :: S) ∧ (q.c.ru, instObj 450 q.c.rd) ∈ S ∧ (q.c.r.me, instObj 141 q.c.md) ∈ S ∧ (q.c.md, dictOf [enS w.params "numeric" mq1 (.ref q.c.ce), enS w.params "characters" mq2 mch] 2) ∈ S ∧ (∀ p ∈ X0, p ∈ S) := by
  k_extra "h0"
  k_extra "b1.12"
  k_extra "b2.12"
  k_extra "b3.6"
  k_extra "b4.1"
  intro N lop lrd lru lfr lfl llo lpe lun llld lla lce lme lmd hun hpd sop dop op1 op2 spe dpe vpe sst dst st1 st2 st3 st4 slo hxe
  have lrf : @LT.lt Nat _ y4_1.c.rd y4_1.c.r.fr := Nat.lt_trans lru lfr
  have hce : @LT.lt Nat _ y4_1.c.ce y4_1.c.rd := lrd _ (.tail _ (.tail _ (.tail _ (.tail _ (.head _)))))
  have lmc : @LT.lt Nat _ y4_1.c.md y4_1.c.ce := Nat.lt_trans lme lce
  refine ⟨(y4_1.c.r.op, y1_5) :: (y4_1.c.ru, instObj 450 y4_1.c.rd) :: (y4_1.c.r.ex, y1_10) :: (y2_1, y1_11) :: (y4_1.c.r.la, instObj 797 y2_2) ::
      (y2_2, dictOf [enS y1_1.params "width" y2_4 (.int 32 1339), enS y1_1.params "real_digits" y2_5 (.int 7 1340), enS y1_1.params "double_digits" y2_6 (.int 15 1341), enS y1_1.params "top_exponent" y2_7 (.int 38 1342), enS y1_1.params "steps" y2_8 (.int 1000000 1343), enS y1_1.params "continuations" y2_9 (.int 19 1344), enS y1_1.params "columns" y2_10 (.int 72 1345), enS y1_1.params "depth" y2_11 (.int 40 1346)] 8) ::
      (y4_1.c.r.me, instObj 141 y4_1.c.md) :: (y4_1.c.md, dictOf [enS y1_1.params "numeric" y2_12 (.ref y4_1.c.ce), enS y1_1.params "characters" y3_1 y3_3] 2) :: (y2_3, y1_12) :: (y4_1.c.r.st, y4_1.so) :: (y4_1.ud, unitD y1_1.params y4_1.u) :: y3_4, ⟨fun S' g fr => ?_, ?_, ?_⟩, ?_, .tail _ (.head _), .tail _ (.tail _ (.tail _ (.tail _ (.tail _ (.tail _ (.head _)))))), .tail _ (.tail _ (.tail _ (.tail _ (.tail _ (.tail _ (.tail _ (.head _))))))), fun p hp => .tail _ (.tail _ (.tail _ (.tail _ (.tail _ (.tail _ (.tail _ (.tail _ (.tail _ (.tail _ (.tail _ hp))))))))))⟩
  · have gX : ∀ p ∈ y3_4, p ∈ S' := fun p hp => g p (.tail _ (.tail _ (.tail _ (.tail _ (.tail _ (.tail _ (.tail _ (.tail _ (.tail _ (.tail _ (.tail _ hp)))))))))))
    refine ⟨⟨g _ (.tail _ (.head _)), fr, ⟨y2_12, y3_1, y3_3, g _ (.tail _ (.tail _ (.tail _ (.tail _ (.tail _ (.tail _ (.head _))))))), g _ (.tail _ (.tail _ (.tail _ (.tail _ (.tail _ (.tail _ (.tail _ (.head _))))))))⟩, ⟨y1_5, y3_5, g _ (.head _), sop, dop, op1, op2⟩, ⟨y1_10, y3_6, g _ (.tail _ (.tail _ (.head _))), spe, dpe, vpe⟩,
      ⟨y2_2, y2_4, y2_5, y2_6, y2_7, y2_8, y2_9, y2_10, y2_11, g _ (.tail _ (.tail _ (.tail _ (.tail _ (.head _))))), g _ (.tail _ (.tail _ (.tail _ (.tail _ (.tail _ (.head _))))))⟩⟩, gX _ hun, g _ (.tail _ (.tail _ (.tail _ (.tail _ (.tail _ (.tail _ (.tail _ (.tail _ (.tail _ (.tail _ (.head _))))))))))), hpd.e.symm, hpd.pis gX, g _ (.tail _ (.tail _ (.tail _ (.tail _ (.tail _ (.tail _ (.tail _ (.tail _ (.tail _ (.head _)))))))))), sst, dst, st1, st2, st3, st4, slo, ?_, ?_, ?_, gX _ hxe⟩
    · intro i hi a b c d
      exact ⟨((hpd.ok i hi).asg a b c d).2.1.sub gX, ((hpd.ok i hi).asg a b c d).2.2.sub gX⟩
    · exact ((hpd.ok 5 (by decide)).lif rfl).2.sub gX
    · intro i hi
      exact ((hpd.ok i (by rcases hi with rfl | rfl <;> decide)).dos hi).2.sub gX
  · intro p hp
    have k : ∀ {a : Nat}, a < y4_1.c.rd → a ≠ y4_1.c.ce → a ≠ y4_1.c.rd ∧ a ≠ y4_1.c.ce ∧ a ≠ y4_1.c.r.lo ∧ a ≠ y4_1.c.r.fl ∧ a ≠ y4_1.c.r.fr := fun y1_3 hc => ne5 y1_3 lrf lfl llo hc
    have lb : ∀ p ∈ (y2_3, y1_12) :: (y4_1.c.r.st, y4_1.so) :: (y4_1.ud, unitD y1_1.params y4_1.u) :: y3_4, @LT.lt Nat _ p.1 y4_1.c.ce := fun p hp => Nat.lt_trans (lmd p hp) lmc
    rcases List.mem_cons.mp hp with rfl | hp
    · exact ⟨Nat.ne_of_gt (lop _ (.tail _ (.head _))), Nat.ne_of_gt (Nat.lt_trans hce (lop _ (.tail _ (.head _)))), Nat.ne_of_gt (lop _ (.tail _ (.tail _ (.tail _ (.tail _ (.head _)))))), Nat.ne_of_gt (lop _ (.tail _ (.tail _ (.tail _ (.head _))))), Nat.ne_of_gt (lop _ (.tail _ (.tail _ (.head _))))⟩
    rcases List.mem_cons.mp hp with rfl | hp
    · exact ⟨Nat.ne_of_gt lru, Nat.ne_of_gt (Nat.lt_trans hce lru), Nat.ne_of_lt (Nat.lt_trans lfr (Nat.lt_trans lfl llo)), Nat.ne_of_lt (Nat.lt_trans lfr lfl), Nat.ne_of_lt lfr⟩
    rcases List.mem_cons.mp hp with rfl | hp
    · exact k (lrd _ (.head _)) (Nat.ne_of_gt lpe)
    rcases List.mem_cons.mp hp with rfl | hp
    · exact k (lrd _ (.tail _ (.head _))) (Nat.ne_of_gt lun)
    rcases List.mem_cons.mp hp with rfl | hp
    · exact k (lrd _ (.tail _ (.tail _ (.head _)))) (Nat.ne_of_gt (Nat.lt_trans llld lla))
    rcases List.mem_cons.mp hp with rfl | hp
    · exact k (lrd _ (.tail _ (.tail _ (.tail _ (.head _))))) (Nat.ne_of_gt llld)
    rcases List.mem_cons.mp hp with rfl | hp
    · exact k (Nat.lt_trans lce hce) (Nat.ne_of_lt lce)
    rcases List.mem_cons.mp hp with rfl | hp
    · exact k (Nat.lt_trans lmc hce) (Nat.ne_of_lt lmc)
    · exact k (Nat.lt_trans (lb p hp) hce) (Nat.ne_of_lt (lb p hp))
  · exact ⟨Nat.ne_of_gt hce, Nat.ne_of_lt (Nat.lt_trans lrf (Nat.lt_trans lfl llo)), Nat.ne_of_lt (Nat.lt_trans hce (Nat.lt_trans lrf (Nat.lt_trans lfl llo))), Nat.ne_of_gt (Nat.lt_trans lrf lfl), Nat.ne_of_gt (Nat.lt_trans hce (Nat.lt_trans lrf lfl)), Nat.ne_of_lt llo, Nat.ne_of_gt lrf, Nat.ne_of_gt (Nat.lt_trans hce lrf), Nat.ne_of_lt (Nat.lt_trans lfl llo), Nat.ne_of_lt lfl⟩
  · intro p hp
    refine N p ?_
    rcases List.mem_cons.mp hp with rfl | hp
    · exact .tail _ (.tail _ (.tail _ (.head _)))
    rcases List.mem_cons.mp hp with rfl | hp
    · exact .tail _ (.tail _ (.tail _ (.tail _ (.tail _ (.tail _ (.tail _ (.tail _ (.tail _ (.tail _ (.head _))))))))))
    rcases List.mem_cons.mp hp with rfl | hp
    · exact .tail _ (.tail _ (.head _))
    rcases List.mem_cons.mp hp with rfl | hp
    · exact .tail _ (.tail _ (.tail _ (.tail _ (.head _))))
    rcases List.mem_cons.mp hp with rfl | hp
    · exact .tail _ (.tail _ (.tail _ (.tail _ (.tail _ (.head _)))))
    rcases List.mem_cons.mp hp with rfl | hp
    · exact .head _
    rcases List.mem_cons.mp hp with rfl | hp
    · exact .tail _ (.head _)
    rcases List.mem_cons.mp hp with rfl | hp
    · exact .tail _ (.tail _ (.tail _ (.tail _ (.tail _ (.tail _ (.head _))))))
    rcases List.mem_cons.mp hp with rfl | hp
    · exact .tail _ (.tail _ (.tail _ (.tail _ (.tail _ (.tail _ (.tail _ (.head _)))))))
    rcases List.mem_cons.mp hp with rfl | hp
    · exact .tail _ (.tail _ (.tail _ (.tail _ (.tail _ (.tail _ (.tail _ (.tail _ (.head _))))))))
    rcases List.mem_cons.mp hp with rfl | hp
    · exact .tail _ (.tail _ (.tail _ (.tail _ (.tail _ (.tail _ (.tail _ (.tail _ (.tail _ (.head _)))))))))
    · exact .tail _ (.tail _ (.tail _ (.tail _ (.tail _ (.tail _ (.tail _ (.tail _ (.tail _ (.tail _ (.tail _ hp))))))))))
theorem neRowD : Nonempty RowD := ⟨by constructor <;> first | exact 0 | exact Value.none | exact Str.ofString "" | exact (fun _ => 0) | exact [] | exact default | exact ⟨[], 0⟩⟩
-- LG
/-- the words of the run's frame, in the order in which they are stored -/
def kAt : Nat → Str
  | 0 => Str.ofString "K"
  | k + 1 => nmAt k
noncomputable def cA : Nat → Int
  | 0 => 0
  | _ + 1 => 2
noncomputable def iA : Nat → Int
  | 0 => 24
  | k + 1 => 2 * ((k : Nat) : Int)
def FrN (w : World) (fo : Obj) (S : Led) (k : Nat) : Prop := ∃ fv, fo.IsDictOf (strKind WP w) fv ∧ fv.length ≤ k ∧ ∀ j, j < k → ∃ pa t6 t7 z1 z2, valueAt fv (kAt j) = some (.ref pa) ∧ (pa, tp [.int (cA j) t6, .int (iA j) t7, z1, z2]) ∈ S
theorem kAt_ne : ∀ k, k < 13 → ∀ j, j < k → kAt j ≠ kAt k := by decide
theorem FrN.zero {w : World} {fo : Obj} {S : Led} (h : fo.IsDictOf (strKind WP w) []) : FrN w fo S 0 := ⟨[], h, Nat.le_refl _, fun _ h => nomatch h⟩
theorem FrN.fr {w : World} {fo : Obj} {S S' : Led} {fr : Addr} (H : FrN w fo S 13) (hs : (fr == sysModules) = false) (g : ∀ p ∈ S, p ∈ S') (hf : (fr, fo) ∈ S') : FrIs w fr S' := by
  obtain ⟨fv, h1, _, h3⟩ := H
  refine ⟨fo, fv, hf, hs, h1, fun i hi => ?_, ?_⟩
  · obtain ⟨pa, t6, t7, z1, z2, a, b⟩ := h3 (i + 1) (by lia)
    exact ⟨pa, t6, t7, z1, z2, a, g _ b⟩
  · obtain ⟨pa, t6, t7, z1, z2, a, b⟩ := h3 0 (by lia)
    exact ⟨pa, t6, t7, z1, z2, a, g _ b⟩
theorem Pre.cons {w : World} {q : Stc} {S : Led} (P : Pre w q S) {x : Addr × Obj} (h : @Ne Nat x.1 q.c.rd ∧ @Ne Nat x.1 q.c.ce ∧ @Ne Nat x.1 q.c.r.lo ∧ @Ne Nat x.1 q.c.r.fl ∧ @Ne Nat x.1 q.c.r.fr) : Pre w q (x :: S) :=
  ⟨fun S' g => P.mk1 S' fun p hp => g p (.tail _ hp), fun p hp => by
    rcases List.mem_cons.mp hp with rfl | hp
    · exact h
    · exact P.ne p hp, P.d⟩
/-- what is no tuple -/
structure NoT (ceO rdO flO loO : Obj) : Prop where
  ce : ceO.cls ≠ .type "tuple"
  rd : rdO.cls ≠ .type "tuple"
  fl : flO.cls ≠ .type "tuple"
  lo : loO.cls ≠ .type "tuple"
section
variable {w : World} {A : Around} {E : Value → Shared → Prop} {s : Shared} {h₀ : Heap} {L D : Addr} {m : Str → Option Value} {pre S : Led} {fo ceO rdO flO loO : Obj} {q : Stc} {k : Nat} {a b : Int} {t1 t2 kt : Tok} {z1 z2 : Value} {key : Str} {Q : Unit → Shared → Prop} {x : Addr × Obj}
theorem frame_put (F : Fr h₀ L s.heap m) (N : News h₀ L s.heap ((D, tp [.int a t1, .int b t2, z1, z2]) :: (pre ++ (q.c.r.fr, fo) :: (q.c.ce, ceO) :: (q.c.rd, rdO) :: (q.c.r.fl, flO) :: (q.c.r.lo, loO) :: S)))
    (hpre : ∀ p ∈ pre, p.1 ≠ q.c.r.fr) (P : Pre w q S) (H : FrN w fo S k) (C : NoT ceO rdO flO loO) (hk : k < 13) (e1 : key = kAt k) (e2 : a = cA k) (e3 : b = iA k)
    (h : ∀ h' fo', Fr h₀ L h' m → News h₀ L h' (pre ++ (q.c.r.fr, fo') :: (q.c.ce, ceO) :: (q.c.rd, rdO) :: (q.c.r.fl, flO) :: (q.c.r.lo, loO) :: (D, tp [.int a t1, .int b t2, z1, z2]) :: S) → Pre w q ((D, tp [.int a t1, .int b t2, z1, z2]) :: S) → FrN w fo' ((D, tp [.int a t1, .int b t2, z1, z2]) :: S) (k + 1) → Q () { s with heap := h', toks := s.toks + 1 }) :
    wpAny (model WP w) A (setItem (.ref q.c.r.fr) (.str key kt) (.ref D)) Q E s := by
  have fn := fn_news N
  refine viaP fun PZ kZ => ?_
  obtain ⟨fv, d1, d2, d3⟩ := H
  have tn : ∀ {d : Addr} {o : Obj}, (d, o) ∈ pre ++ (q.c.r.fr, fo) :: (q.c.ce, ceO) :: (q.c.rd, rdO) :: (q.c.r.fl, flO) :: (q.c.r.lo, loO) :: S → o.cls ≠ .type "tuple" → @Ne Nat D d := fun hd hc => tup_ne fn (.head _) (.tail _ hd) hc
  have u : ∀ {p : Addr × Obj}, p ∈ (q.c.r.fr, fo) :: (q.c.ce, ceO) :: (q.c.rd, rdO) :: (q.c.r.fl, flO) :: (q.c.r.lo, loO) :: S → p ∈ pre ++ (q.c.r.fr, fo) :: (q.c.ce, ceO) :: (q.c.rd, rdO) :: (q.c.r.fl, flO) :: (q.c.r.lo, loO) :: S := fun h => List.mem_append_right _ h
  have n1 : @Ne Nat D q.c.r.fr := tn (u (.head _)) (by rw [dcls d1]; decide)
  have n2 : @Ne Nat D q.c.ce := tn (u (.tail _ (.head _))) C.ce
  have n3 : @Ne Nat D q.c.rd := tn (u (.tail _ (.tail _ (.head _)))) C.rd
  have n4 : @Ne Nat D q.c.r.fl := tn (u (.tail _ (.tail _ (.tail _ (.head _))))) C.fl
  have n5 : @Ne Nat D q.c.r.lo := tn (u (.tail _ (.tail _ (.tail _ (.tail _ (.head _)))))) C.lo
  obtain ⟨g1, g2, g3, g4, g5, g6, g7, g8, g9, g0⟩ := P.d
  refine kZ ?_; clear kZ PZ
  refine kda_set (knd := PySem.strKind _ _) F N (UpdF.tail n1 (UpdF.app hpre (UpdF.head fun p hp => ?_))) d1 (strKind_is _ _ _ _) (Nat.le_trans d2 (Nat.le_trans (Nat.le_of_lt hk) (by decide))) fun h' fo' F' N' d' => ?_
  · rcases List.mem_cons.mp hp with rfl | hp
    · exact Ne.symm g8
    rcases List.mem_cons.mp hp with rfl | hp
    · exact Ne.symm g7
    rcases List.mem_cons.mp hp with rfl | hp
    · exact Ne.symm g0
    rcases List.mem_cons.mp hp with rfl | hp
    · exact Ne.symm g9
    · exact (P.ne p hp).2.2.2.2
  · refine h h' fo' F' (fun p hp => N' p ?_) (P.cons ⟨n3, n2, n5, n4, n1⟩) ⟨_, d', Nat.le_trans (stored_len _ _ _) (Nat.succ_le_succ d2), fun j hj => ?_⟩
    · rcases List.mem_append.mp hp with hp | hp
      · exact .tail _ (List.mem_append_left _ hp)
      rcases List.mem_cons.mp hp with rfl | hp
      · exact .tail _ (List.mem_append_right _ (.head _))
      rcases List.mem_cons.mp hp with rfl | hp
      · exact .tail _ (List.mem_append_right _ (.tail _ (.head _)))
      rcases List.mem_cons.mp hp with rfl | hp
      · exact .tail _ (List.mem_append_right _ (.tail _ (.tail _ (.head _))))
      rcases List.mem_cons.mp hp with rfl | hp
      · exact .tail _ (List.mem_append_right _ (.tail _ (.tail _ (.tail _ (.head _)))))
      rcases List.mem_cons.mp hp with rfl | hp
      · exact .tail _ (List.mem_append_right _ (.tail _ (.tail _ (.tail _ (.tail _ (.head _))))))
      rcases List.mem_cons.mp hp with rfl | hp
      · exact .head _
      · exact .tail _ (List.mem_append_right _ (.tail _ (.tail _ (.tail _ (.tail _ (.tail _ hp))))))
    · by_cases hjk : j = k
      · subst hjk
        subst e1 e2 e3
        exact ⟨D, t1, t2, z1, z2, valueAt_stored_same _ _ _, .head _⟩
      · obtain ⟨pa, t6, t7, y1, y2, v1, v2⟩ := d3 j (by lia)
        refine ⟨pa, t6, t7, y1, y2, va_other ?_ v1, .tail _ v2⟩
        rw [e1]
        exact kAt_ne k hk j (by lia)
theorem News.dropY {d y : Addr × Obj} {n : Led} (N : News h₀ L s.heap (d :: y :: n)) : News h₀ L s.heap (d :: n) := fun p hp => N p (by
  rcases List.mem_cons.mp hp with rfl | hp
  · exact .head _
  · exact .tail _ (.tail _ hp))
theorem frame_set0 {y : Addr × Obj} (F : Fr h₀ L s.heap m) (N : News h₀ L s.heap ((D, tp [.int a t1, .int b t2, z1, z2]) :: y :: (q.c.r.fr, fo) :: (q.c.ce, ceO) :: (q.c.rd, rdO) :: (q.c.r.fl, flO) :: (q.c.r.lo, loO) :: S))
    (P : Pre w q S) (H : FrN w fo S k) (C : NoT ceO rdO flO loO) (hk : k < 13) (e1 : key = kAt k) (e2 : a = cA k) (e3 : b = iA k)
    (h : ∀ h' fo', Fr h₀ L h' m → News h₀ L h' ((q.c.r.fr, fo') :: (q.c.ce, ceO) :: (q.c.rd, rdO) :: (q.c.r.fl, flO) :: (q.c.r.lo, loO) :: (D, tp [.int a t1, .int b t2, z1, z2]) :: S) → Pre w q ((D, tp [.int a t1, .int b t2, z1, z2]) :: S) → FrN w fo' ((D, tp [.int a t1, .int b t2, z1, z2]) :: S) (k + 1) → Q () { s with heap := h', toks := s.toks + 1 }) :
    wpAny (model WP w) A (setItem (.ref q.c.r.fr) (.str key kt) (.ref D)) Q E s := frame_put (pre := []) F (News.dropY N) (fun _ h => nomatch h) P H C hk e1 e2 e3 h
theorem frame_set1 {y : Addr × Obj} (F : Fr h₀ L s.heap m) (N : News h₀ L s.heap ((D, tp [.int a t1, .int b t2, z1, z2]) :: y :: x :: (q.c.r.fr, fo) :: (q.c.ce, ceO) :: (q.c.rd, rdO) :: (q.c.r.fl, flO) :: (q.c.r.lo, loO) :: S))
    (hI : ∀ p ∈ (q.c.r.fr, fo) :: (q.c.ce, ceO) :: (q.c.rd, rdO) :: (q.c.r.fl, flO) :: (q.c.r.lo, loO) :: S, p.1 ≠ x.1) (hc : x.2.cls ≠ .type "tuple") (P : Pre w q S) (H : FrN w fo S k) (C : NoT ceO rdO flO loO) (hk : k < 13) (e1 : key = kAt k) (e2 : a = cA k) (e3 : b = iA k)
    (h : ∀ h' fo', Fr h₀ L h' m → News h₀ L h' (x :: (q.c.r.fr, fo') :: (q.c.ce, ceO) :: (q.c.rd, rdO) :: (q.c.r.fl, flO) :: (q.c.r.lo, loO) :: (D, tp [.int a t1, .int b t2, z1, z2]) :: S) → (∀ p ∈ (q.c.r.fr, fo') :: (q.c.ce, ceO) :: (q.c.rd, rdO) :: (q.c.r.fl, flO) :: (q.c.r.lo, loO) :: (D, tp [.int a t1, .int b t2, z1, z2]) :: S, p.1 ≠ x.1) → Pre w q ((D, tp [.int a t1, .int b t2, z1, z2]) :: S) → FrN w fo' ((D, tp [.int a t1, .int b t2, z1, z2]) :: S) (k + 1) → Q () { s with heap := h', toks := s.toks + 1 }) :
    wpAny (model WP w) A (setItem (.ref q.c.r.fr) (.str key kt) (.ref D)) Q E s := by
  have fn := fn_news N
  have hD : @Ne Nat D x.1 := tup_ne fn (.head _) (.tail _ (.tail _ (.head _))) hc
  refine frame_put (pre := [x]) F (News.dropY N) (fun p hp => by cases List.mem_singleton.mp hp; exact Ne.symm (hI _ (.head _))) P H C hk e1 e2 e3 fun h' fo' F' N' P' H' => h h' fo' F' N' (fun p hp => ?_) P' H'
  rcases List.mem_cons.mp hp with rfl | hp
  · exact hI (q.c.r.fr, fo) (.head _)
  rcases List.mem_cons.mp hp with rfl | hp
  · exact hI _ (.tail _ (.head _))
  rcases List.mem_cons.mp hp with rfl | hp
  · exact hI _ (.tail _ (.tail _ (.head _)))
  rcases List.mem_cons.mp hp with rfl | hp
  · exact hI _ (.tail _ (.tail _ (.tail _ (.head _))))
  rcases List.mem_cons.mp hp with rfl | hp
  · exact hI _ (.tail _ (.tail _ (.tail _ (.tail _ (.head _)))))
  rcases List.mem_cons.mp hp with rfl | hp
  · exact hD
  · exact hI _ (.tail _ (.tail _ (.tail _ (.tail _ (.tail _ hp)))))
end
/-- the law's state ahead of the frame's words -/
structure LawS (w : World) (q : Stc) (flO loO : Obj) : Prop where
  sfr : (q.c.r.fr == sysModules) = false
  sfl : (q.c.r.fl == sysModules) = false
  dfl : flO.IsDictOf (strKind WP w) []
  dlo : Loop0 loO
  clo : loO.cls = .type "dict"
theorem law_col {w : World} {h₀ h : Heap} {L : Addr} (q : Stc) {opO rdO rfo rflo rloo peO unO asO : Obj} {unD lld asD : Addr} {lk1 lk2 lk3 lk4 lk5 lk6 lk7 lk8 mq1 mq2 ts : Tok} {mch : Value} {X0 : Led} {opV : List (Int × Value)} {peV : List (Str × Value)}
    (N : News h₀ L h ((q.c.r.op, opO) :: (q.c.ru, instObj 450 q.c.rd) :: (q.c.rd, runD w.params q.c.r 0 ts) :: (q.c.r.fr, rfo) :: (q.c.r.fl, rflo) :: (q.c.r.lo, rloo) :: (q.c.r.ex, peO) :: (unD, unO) :: (q.c.r.la, instObj 797 lld) ::
      (lld, dictOf [enS w.params "width" lk1 (.int 32 1339), enS w.params "real_digits" lk2 (.int 7 1340), enS w.params "double_digits" lk3 (.int 15 1341), enS w.params "top_exponent" lk4 (.int 38 1342), enS w.params "steps" lk5 (.int 1000000 1343), enS w.params "continuations" lk6 (.int 19 1344), enS w.params "columns" lk7 (.int 72 1345), enS w.params "depth" lk8 (.int 40 1346)] 8) ::
      (q.c.ce, listOf (List.replicate 25 Value.none).toArray 0) :: (q.c.r.me, instObj 141 q.c.md) :: (q.c.md, dictOf [enS w.params "numeric" mq1 (.ref q.c.ce), enS w.params "characters" mq2 mch] 2) :: (asD, asO) :: (q.c.r.st, q.so) :: (q.ud, unitD w.params q.u) :: X0))
    (lop : ∀ p ∈ (q.c.ru, instObj 450 q.c.rd) :: (q.c.rd, rdO) :: (q.c.r.fr, rfo) :: (q.c.r.fl, rflo) :: (q.c.r.lo, rloo) :: (q.c.r.ex, peO) :: (unD, unO) :: (q.c.r.la, instObj 797 lld) ::
      (lld, dictOf [enS w.params "width" lk1 (.int 32 1339), enS w.params "real_digits" lk2 (.int 7 1340), enS w.params "double_digits" lk3 (.int 15 1341), enS w.params "top_exponent" lk4 (.int 38 1342), enS w.params "steps" lk5 (.int 1000000 1343), enS w.params "continuations" lk6 (.int 19 1344), enS w.params "columns" lk7 (.int 72 1345), enS w.params "depth" lk8 (.int 40 1346)] 8) ::
      (q.c.ce, listOf (List.replicate 25 Value.none).toArray 0) :: (q.c.r.me, instObj 141 q.c.md) :: (q.c.md, dictOf [enS w.params "numeric" mq1 (.ref q.c.ce), enS w.params "characters" mq2 mch] 2) :: (asD, asO) :: (q.c.r.st, q.so) :: (q.ud, unitD w.params q.u) :: X0, @LT.lt Nat _ p.1 q.c.r.op)
    (lrd : ∀ p ∈ (q.c.r.ex, peO) :: (unD, unO) :: (q.c.r.la, instObj 797 lld) ::
      (lld, dictOf [enS w.params "width" lk1 (.int 32 1339), enS w.params "real_digits" lk2 (.int 7 1340), enS w.params "double_digits" lk3 (.int 15 1341), enS w.params "top_exponent" lk4 (.int 38 1342), enS w.params "steps" lk5 (.int 1000000 1343), enS w.params "continuations" lk6 (.int 19 1344), enS w.params "columns" lk7 (.int 72 1345), enS w.params "depth" lk8 (.int 40 1346)] 8) ::
      (q.c.ce, listOf (List.replicate 25 Value.none).toArray 0) :: (q.c.r.me, instObj 141 q.c.md) :: (q.c.md, dictOf [enS w.params "numeric" mq1 (.ref q.c.ce), enS w.params "characters" mq2 mch] 2) :: (asD, asO) :: (q.c.r.st, q.so) :: (q.ud, unitD w.params q.u) :: X0, @LT.lt Nat _ p.1 q.c.rd)
    (lru : @LT.lt Nat _ q.c.rd q.c.ru) (lfr : @LT.lt Nat _ q.c.ru q.c.r.fr) (lfl : @LT.lt Nat _ q.c.r.fr q.c.r.fl) (llo : @LT.lt Nat _ q.c.r.fl q.c.r.lo)
    (lpe : @LT.lt Nat _ q.c.ce q.c.r.ex) (lun : @LT.lt Nat _ q.c.ce unD) (llld : @LT.lt Nat _ q.c.ce lld) (lla : @LT.lt Nat _ lld q.c.r.la) (lce : @LT.lt Nat _ q.c.r.me q.c.ce) (lme : @LT.lt Nat _ q.c.md q.c.r.me)
    (lmd : ∀ p ∈ (asD, asO) :: (q.c.r.st, q.so) :: (q.ud, unitD w.params q.u) :: X0, @LT.lt Nat _ p.1 q.c.md)
    (hun : (q.un, instObj 818 q.ud) ∈ X0) (hpd : ProgIs q.pd X0 q.u.sl)
    (sop : (q.c.r.op == sysModules) = false) (dop : opO.IsDictOf (intKind WP w) opV) (op1 : valueAt opV 0 = some (.ref 292)) (op2 : valueAt opV 2 = some (.ref 419))
    (spe : (q.c.r.ex == sysModules) = false) (dpe : peO.IsDictOf (strKind WP w) peV)
    (vpe : valueAt peV (Str.ofString "const") = some (.ref 494) ∧ valueAt peV (Str.ofString "var") = some (.ref 501) ∧ valueAt peV (Str.ofString "add") = some (.ref 515) ∧ valueAt peV (Str.ofString "sub") = some (.ref 515) ∧ valueAt peV (Str.ofString "mul") = some (.ref 515) ∧ valueAt peV (Str.ofString "div") = some (.ref 515) ∧ valueAt peV (Str.ofString "eq") = some (.ref 522))
    (sst : (q.c.r.st == sysModules) = false) (dst : q.so.IsDictOf (strKind WP w) q.sv) (st1 : valueAt q.sv (Str.ofString "assign") = some (.ref 653)) (st2 : valueAt q.sv (Str.ofString "lif") = some (.ref 716)) (st3 : valueAt q.sv (Str.ofString "do") = some (.ref 744)) (st4 : valueAt q.sv (Str.ofString "end") = some (.ref 765))
    (slo : (q.c.r.lo == sysModules) = false) (hxe : q.xe ∈ X0) (sfr : (q.c.r.fr == sysModules) = false) (sfl : (q.c.r.fl == sysModules) = false) (dfo : rfo.IsDictOf (strKind WP w) []) (dfl : rflo.IsDictOf (strKind WP w) []) (dlo : Loop0 rloo) (clo : rloo.cls = .type "dict") :
    ∃ (q' : Stc) (S : Led) (ceO rdO : Obj), q.c.ru = q'.c.ru ∧ q.un = q'.un ∧ (∀ T : Led, q'.xe ∈ T → q.xe ∈ T) ∧ rdO = runD w.params q'.c.r 0 ts ∧ ceO = listOf (List.replicate 25 Value.none).toArray 0 ∧ Pre w q' S ∧ FrN w rfo S 0 ∧ LawS w q' rflo rloo ∧ NoT ceO rdO rflo rloo ∧ News h₀ L h ((q'.c.r.fr, rfo) :: (q'.c.ce, ceO) :: (q'.c.rd, rdO) :: (q'.c.r.fl, rflo) :: (q'.c.r.lo, rloo) :: S) ∧ (q'.c.ru, instObj 450 q'.c.rd) ∈ S ∧ (q'.c.r.me, instObj 141 q'.c.md) ∈ S ∧ (q'.c.md, dictOf [enS w.params "numeric" mq1 (.ref q'.c.ce), enS w.params "characters" mq2 mch] 2) ∈ S ∧ q'.xe ∈ S := by
  refine viaP fun PZ kZ => ?_
  obtain ⟨S, h1, h2, h3, h4, h5, h6⟩ := (law_collapse _ _ _ _ _ _ _ _ _ _ _ _ _ _ _ _ _ _ _ _ _ _ _ _ _ _ _ _ _ _) q N lop lrd lru lfr lfl llo lpe lun llld lla lce lme lmd hun hpd sop dop op1 op2 spe dpe vpe sst dst st1 st2 st3 st4 slo hxe
  refine kZ ?_; clear kZ PZ
  exact ⟨q, S, _, _, rfl, rfl, fun _ h => h, rfl, rfl, h1, FrN.zero dfo, ⟨sfr, sfl, dfl, dlo, clo⟩, ⟨by show Value.type "list" ≠ _; decide, by show Value.type "dict" ≠ _; decide, by rw [dcls dfl]; decide, by rw [clo]; decide⟩, h2, h3, h4, h5, h6 _ hxe⟩
theorem item_k (i : Nat) (h : i < 12) : PySem.Txt.item (Str.ofString "DEFGABHXSVTR") (0 + ((i : Nat) : Int)) = kAt (i + 1) :=
  (by decide +kernel : ∀ j : Fin 12, PySem.Txt.item (Str.ofString "DEFGABHXSVTR") (0 + ((j.val : Nat) : Int)) = kAt (j.val + 1)) ⟨i, h⟩
theorem iA_k (i : Nat) : 2 * (0 + ((i : Nat) : Int)) = iA (i + 1) := by show 2 * (0 + ((i : Nat) : Int)) = 2 * ((i : Nat) : Int); lia
theorem upd_rd {opD ru rd fr fl lo : Addr} {opO ruO o o' a b c : Obj} {rest : Led} (h1 : @LT.lt Nat _ rd opD) (lru : @LT.lt Nat _ rd ru) (lfr : @LT.lt Nat _ ru fr) (lfl : @LT.lt Nat _ fr fl) (llo : @LT.lt Nat _ fl lo) (lrd : ∀ p ∈ rest, @LT.lt Nat _ p.1 rd) :
    Upd rd o o' ((opD, opO) :: (ru, ruO) :: (rd, o) :: (fr, a) :: (fl, b) :: (lo, c) :: rest) ((opD, opO) :: (ru, ruO) :: (rd, o') :: (fr, a) :: (fl, b) :: (lo, c) :: rest) := by
  have l1 := Nat.lt_trans lru lfr
  have l2 := Nat.lt_trans l1 lfl
  refine Upd.tail (Nat.ne_of_gt h1) (Upd.tail (Nat.ne_of_gt lru) (Upd.head fun p hp => ?_))
  rcases List.mem_cons.mp hp with rfl | hp
  · exact Nat.ne_of_gt l1
  rcases List.mem_cons.mp hp with rfl | hp
  · exact Nat.ne_of_gt l2
  rcases List.mem_cons.mp hp with rfl | hp
  · exact Nat.ne_of_gt (Nat.lt_trans l2 llo)
  · exact Nat.ne_of_lt (lrd p hp)
-- LI
theorem c_rr {w : World} {m e N : Int} {t1 t2 t3 t4 : Tok} {led : Led} (hm : -20 ≤ m ∧ m ≤ 20) (e0 : -8 ≤ e) (e1 : e ≤ 5) (hN : N = m * 10 ^ (e + 8).toNat) : SpecPW w 3 24 321 [.int m t1, .int e t2, .int 15 t3, .int 38 t4] led (fun v n => Dec n v N) := by
  haveI C := (c_round_real m e t1 t2 t3 t4 led (by have := digs_le (n := m) (k := 2) (by omega); omega) (by omega) e1).w w
  refine C.weak (Nat.le_refl _) (Nat.le_refl _) fun v n hp => Dec.of ?_ hp
  rw [cN_of e0, hN]
theorem c_rr0 {w : World} {m : Int} {t1 t2 t3 t4 : Tok} {led : Led} (hm : -20 ≤ m ∧ m ≤ 20) : SpecPW w 3 24 321 [.int m t1, .int 0 t2, .int 15 t3, .int 38 t4] led (fun v n => Dec n v (m * 10 ^ 8)) := c_rr hm (by decide) (by decide) rfl
theorem c_rr1 {w : World} {m : Int} {t1 t2 t3 t4 : Tok} {led : Led} (hm : -20 ≤ m ∧ m ≤ 20) : SpecPW w 3 24 321 [.int m t1, .int (-1) t2, .int 15 t3, .int 38 t4] led (fun v n => Dec n v (m * 10 ^ 7)) := c_rr hm (by decide) (by decide) rfl
/-- a store into the memory, in the loop over the told numbers -/
theorem c_store : ∀ (w : World) (q : Stc) (tl S : Led) (D b : Addr) (y x : Addr × Obj) (t1 t2 q1 q2 : Tok) (z1 z2 ch : Value) (vs : List Value) (nn i : Nat) (σ : St) (N : Int), (∀ p ∈ S, p.1 ≠ q.c.ce) → (x.1 ≠ q.c.ce) → (∀ p ∈ S, p.1 ≠ x.1) → (x.2.cls ≠ .type "tuple") → (y.2.cls = .type "tuple") → (MemIs vs σ S) → ((q.c.r.me, instObj 141 q.c.md) ∈ S) → ((q.c.md, dictOf [enS w.params "numeric" q1 (.ref q.c.ce), enS w.params "characters" q2 ch] 2) ∈ S) → (∀ q' ∈ tl, ∀ p ∈ (D, tp [.int 2 t1, .int (2 * (0 + ((i : Nat) : Int))) t2, z1, z2]) :: y :: x :: (q.c.ce, listOf vs.toArray nn) :: S, @LT.lt Nat _ p.1 q'.1) → (Dec (tl ++ (D, tp [.int 2 t1, .int (2 * (0 + ((i : Nat) : Int))) t2, z1, z2]) :: y :: x :: (q.c.ce, listOf vs.toArray nn) :: S) (.ref b) N) → (i < 12) → SpecT w 3 32 131 [.ref q.c.r.me, .ref D, .ref b] (tl ++ (D, tp [.int 2 t1, .int (2 * (0 + ((i : Nat) : Int))) t2, z1, z2]) :: y :: x :: (q.c.ce, listOf vs.toArray nn) :: S)
      (fun v n => v = .none ∧ ∃ c1 c2 t3 t4 vs', n = x :: (q.c.ce, listOf vs'.toArray nn) :: (c2, tp [.int 6 t4, .ref b]) :: (c1, tp [.int 2 t3, .ref b]) :: (D, tp [.int 2 t1, .int (2 * (0 + ((i : Nat) : Int))) t2, z1, z2]) :: y :: (tl ++ S) ∧
        MemIs vs' (σ.set i N) ((c2, tp [.int 6 t4, .ref b]) :: (c1, tp [.int 2 t3, .ref b]) :: (D, tp [.int 2 t1, .int (2 * (0 + ((i : Nat) : Int))) t2, z1, z2]) :: y :: (tl ++ S)) ∧
        (∀ p ∈ (c2, tp [.int 6 t4, .ref b]) :: (c1, tp [.int 2 t3, .ref b]) :: (D, tp [.int 2 t1, .int (2 * (0 + ((i : Nat) : Int))) t2, z1, z2]) :: y :: (tl ++ S), p.1 ≠ q.c.ce) ∧ (∀ p ∈ (q.c.ce, listOf vs'.toArray nn) :: (c2, tp [.int 6 t4, .ref b]) :: (c1, tp [.int 2 t3, .ref b]) :: (D, tp [.int 2 t1, .int (2 * (0 + ((i : Nat) : Int))) t2, z1, z2]) :: y :: (tl ++ S), p.1 ≠ x.1)) := by
  k_extra "h0"
  k_extra "b1.12"
  k_extra "b2.8"
  intro hne hxc hI hc hy M hme hmd hl hd hi
  generalize hP : ((y1_5, tp [.int 2 y1_9, .int (2 * (0 + ((y2_6 : Nat) : Int))) y1_10, y2_1, y2_2]) : Addr × Obj) = P at *
  refine SpecT.pre fun fn => ?_
  have eP : P.1 = y1_5 := by rw [← hP]
  have cP : P.2.cls = .type "tuple" := by rw [← hP]
  have inP : P ∈ y1_3 ++ P :: y1_7 :: y1_8 :: (y1_2.c.ce, listOf y2_4.toArray y2_5) :: y1_4 := List.mem_append_right _ (.head _)
  have inX : y1_8 ∈ y1_3 ++ P :: y1_7 :: y1_8 :: (y1_2.c.ce, listOf y2_4.toArray y2_5) :: y1_4 := List.mem_append_right _ (.tail _ (.tail _ (.head _)))
  have inC : (y1_2.c.ce, listOf y2_4.toArray y2_5) ∈ y1_3 ++ P :: y1_7 :: y1_8 :: (y1_2.c.ce, listOf y2_4.toArray y2_5) :: y1_4 := List.mem_append_right _ (.tail _ (.tail _ (.tail _ (.head _))))
  have nPc : P.1 ≠ y1_2.c.ce := fn.ne inP inC fun e => absurd (congrArg Obj.cls e) (by rw [cP]; show Value.type "tuple" ≠ Value.type "list"; decide)
  have nPx : P.1 ≠ y1_8.1 := fn.ne inP inX fun e => hc (by rw [← e]; exact cP)
  have inY : y1_7 ∈ y1_3 ++ P :: y1_7 :: y1_8 :: (y1_2.c.ce, listOf y2_4.toArray y2_5) :: y1_4 := List.mem_append_right _ (.tail _ (.head _))
  have nYc : y1_7.1 ≠ y1_2.c.ce := fn.ne inY inC fun e => absurd (congrArg Obj.cls e) (by rw [hy]; show Value.type "tuple" ≠ Value.type "list"; decide)
  have nYx : y1_7.1 ≠ y1_8.1 := fn.ne inY inX fun e => hc (by rw [← e]; exact hy)
  have hlc : ∀ p ∈ y1_3, p.1 ≠ y1_2.c.ce := fun p hp => Nat.ne_of_gt (hl p hp _ (.tail _ (.tail _ (.tail _ (.head _)))))
  have hlx : ∀ p ∈ y1_3, p.1 ≠ y1_8.1 := fun p hp => Nat.ne_of_gt (hl p hp _ (.tail _ (.tail _ (.head _))))
  have n1 : ∀ p ∈ y1_8 :: P :: y1_7 :: (y1_3 ++ y1_4), p.1 ≠ y1_2.c.ce := fun p hp => by
    rcases List.mem_cons.mp hp with rfl | hp
    · exact hxc
    rcases List.mem_cons.mp hp with rfl | hp
    · exact nPc
    rcases List.mem_cons.mp hp with rfl | hp
    · exact nYc
    rcases List.mem_append.mp hp with hp | hp
    · exact hlc p hp
    · exact hne p hp
  have up : ∀ {p : Addr × Obj}, p ∈ y1_4 → p ∈ y1_8 :: P :: y1_7 :: (y1_3 ++ y1_4) := fun h => .tail _ (.tail _ (.tail _ (List.mem_append_right _ h)))
  have inD : (y1_5, tp [.int 2 y1_9, .int (2 * (0 + ((y2_6 : Nat) : Int))) y1_10, y2_1, y2_2]) ∈ y1_8 :: P :: y1_7 :: (y1_3 ++ y1_4) := by rw [hP]; exact .tail _ (.head _)
  refine (SpecT.post (c_mst2 y1_1 y1_2.c.ce y2_4 y2_5 y1_2.c.r.me y1_2.c.md y1_11 y1_12 y2_3 y1_5 y1_9 y1_10 y2_1 y2_2 (2 * (0 + ((y2_6 : Nat) : Int))) (.ref y1_6) (y1_8 :: P :: y1_7 :: (y1_3 ++ y1_4)) n1 M.len (up hme) (up hmd) inD (by omega) (by omega)) (post' := _) fun v n h => ?_).weak (Nat.le_refl _) (Nat.le_refl _) (fun p hp => ?_) fun _ _ h => h
  · obtain ⟨rfl, c1, c2, t3, t4, rfl, ⟨a1, a2⟩, a3, a4, a5⟩ := h
    have b1 := allLt_all a2
    have b2 := allLt_all a5
    have m2 := M.sub (led' := (c2, tp [.int 6 t4, .ref y1_6]) :: (c1, tp [.int 2 t3, .ref y1_6]) :: P :: y1_7 :: (y1_3 ++ y1_4)) fun p hp => .tail _ (.tail _ (.tail _ (.tail _ (List.mem_append_right _ hp))))
    have hd2 : Dec ((c2, tp [.int 6 t4, .ref y1_6]) :: (c1, tp [.int 2 t3, .ref y1_6]) :: P :: y1_7 :: (y1_3 ++ y1_4)) (.ref y1_6) y2_8 := by
      refine hd.tup fun a l h => ?_
      rcases List.mem_append.mp h with h | h
      · exact .tail _ (.tail _ (.tail _ (.tail _ (List.mem_append_left _ h))))
      rcases List.mem_cons.mp h with h | h
      · exact .tail _ (.tail _ (h ▸ .head _))
      rcases List.mem_cons.mp h with h | h
      · exact .tail _ (.tail _ (.tail _ (h ▸ .head _)))
      rcases List.mem_cons.mp h with h | h
      · exact absurd (by rw [← h]) hc
      rcases List.mem_cons.mp h with h | h
      · exact absurd (congrArg (fun p => Obj.cls p.2) h) (by show Value.type "tuple" ≠ Value.type "list"; decide)
      · exact .tail _ (.tail _ (.tail _ (.tail _ (List.mem_append_right _ h))))
    have m3 := m2.put (i := y2_6) (.tail _ (.head _)) (.head _) hd2 hi
    rw [show 2 * (0 + ((y2_6 : Nat) : Int)) = 2 * (y2_6 : Int) by omega]
    refine ⟨_, fun p hp => ?_, rfl, c1, c2, t3, t4, _, rfl, m3, fun p hp => ?_, fun p hp => ?_⟩
    · rcases List.mem_cons.mp hp with rfl | hp
      · exact .tail _ (.tail _ (.tail _ (.head _)))
      rcases List.mem_cons.mp hp with rfl | hp
      · exact .tail _ (.tail _ (.head _))
      rcases List.mem_cons.mp hp with rfl | hp
      · exact .head _
      rcases List.mem_cons.mp hp with rfl | hp
      · exact .tail _ (.head _)
      · exact .tail _ (.tail _ (.tail _ (.tail _ hp)))
    · rcases List.mem_cons.mp hp with rfl | hp
      · exact Nat.ne_of_gt a4
      rcases List.mem_cons.mp hp with rfl | hp
      · exact Nat.ne_of_gt a1
      · exact n1 p (.tail _ hp)
    · rcases List.mem_cons.mp hp with rfl | hp
      · exact Ne.symm hxc
      rcases List.mem_cons.mp hp with rfl | hp
      · exact Nat.ne_of_gt (b2 y1_8 (.head _))
      rcases List.mem_cons.mp hp with rfl | hp
      · exact Nat.ne_of_gt (b1 y1_8 (.head _))
      rcases List.mem_cons.mp hp with rfl | hp
      · exact nPx
      rcases List.mem_cons.mp hp with rfl | hp
      · exact nYx
      rcases List.mem_append.mp hp with hp | hp
      · exact hlx p hp
      · exact hI p hp
  · rcases List.mem_cons.mp hp with rfl | hp
    · exact inC
    rcases List.mem_cons.mp hp with rfl | hp
    · exact inX
    rcases List.mem_cons.mp hp with rfl | hp
    · exact inP
    rcases List.mem_cons.mp hp with rfl | hp
    · exact inY
    rcases List.mem_append.mp hp with hp | hp
    · exact List.mem_append_left _ hp
    · exact List.mem_append_right _ (.tail _ (.tail _ (.tail _ (.tail _ hp))))
theorem at_mk {σ : St} {d e f g a b : Int} : In.At ⟨d, e, f, g, a, b⟩ ((((((σ.set 0 (d * 10 ^ 8)).set 1 (e * 10 ^ 8)).set 2 (f * 10 ^ 8)).set 3 (g * 10 ^ 8)).set 4 (a * 10 ^ 7)).set 5 (b * 10 ^ 7)) := ⟨rfl, rfl, rfl, rfl, rfl, rfl⟩
theorem ini_mk {w : World} {q : Stc} {z : In} {Sx led : Led} {fo flO loO : Obj} {vs : List Value} {nn : Nat} {σ : St} {ts : Tok} (P : Pre w q Sx) (H : FrN w fo Sx 13) (A : LawS w q flO loO) (hS : ∀ p ∈ Sx, p ∈ led) (hf : (q.c.r.fr, fo) ∈ led) (hrd : (q.c.rd, runD w.params q.c.r 0 ts) ∈ led) (hfl : (q.c.r.fl, flO) ∈ led) (hlo : (q.c.r.lo, loO) ∈ led)
    (hce : (q.c.ce, listOf vs.toArray nn) ∈ led) (M : MemIs vs σ led) (hz : z.At σ) : Ini w q z ((q.c.r.fr, fo) :: Sx) led := by
  refine viaP fun PZ kZ => ?_
  obtain ⟨d1, d2, d3, d4, d5, d6, d7, d8, d9, d0⟩ := P.d
  refine kZ ?_; clear kZ PZ
  refine ⟨P.mk1 _ (fun p hp => .tail _ hp) (H.fr A.sfr (fun p hp => .tail _ hp) (.head _)), fun p hp => ?_, ⟨fun p hp => ?_, d1, d2, d3⟩, fun p hp => ?_, ⟨d4, d5, d6⟩, ⟨ts, vs, nn, σ, hrd, hce, M, hz, rfl⟩, ⟨loO, hlo, A.clo, A.dlo⟩, flO, hfl, A.sfl, A.dfl⟩
  · rcases List.mem_cons.mp hp with rfl | hp
    · exact hf
    · exact hS p hp
  · rcases List.mem_cons.mp hp with rfl | hp
    · exact ⟨d7, d8, d9⟩
    · exact ⟨(P.ne p hp).1, (P.ne p hp).2.1, (P.ne p hp).2.2.1⟩
  · rcases List.mem_cons.mp hp with rfl | hp
    · exact d0
    · exact (P.ne p hp).2.2.2.1
theorem mem_start : ∀ (w : World) (q : Stc) (h₀ h : Heap) (L : Addr) (Sx : Led) (l a1 a2 a3 a4 a5 a6 : Addr × Obj) (fo ceO rdO flO loO : Obj), (News h₀ L h (l :: a1 :: a2 :: a3 :: a4 :: a5 :: a6 :: (q.c.r.fr, fo) :: (q.c.ce, ceO) :: (q.c.rd, rdO) :: (q.c.r.fl, flO) :: (q.c.r.lo, loO) :: Sx)) → (Pre w q Sx) → (FrN w fo Sx 13) → (NoT ceO rdO flO loO) → (ceO = listOf (List.replicate 25 Value.none).toArray 0) → (esLen l.2 ≠ 25) → (a1.2.cls = .type "tuple") → (a2.2.cls = .type "tuple") → (a3.2.cls = .type "tuple") → (a4.2.cls = .type "tuple") → (a5.2.cls = .type "tuple") → (a6.2.cls = .type "tuple") → ∃ Sy X, Pre w q Sy ∧ FrN w fo Sy 13 ∧ News h₀ L h ((q.c.ce, ceO) :: X) ∧ (∀ p ∈ X, p.1 ≠ q.c.ce) ∧ l ∈ X ∧ a1 ∈ X ∧ a2 ∈ X ∧ a3 ∈ X ∧ a4 ∈ X ∧ a5 ∈ X ∧ a6 ∈ X ∧ (q.c.r.fr, fo) ∈ X ∧ (q.c.rd, rdO) ∈ X ∧ (q.c.r.fl, flO) ∈ X ∧ (q.c.r.lo, loO) ∈ X ∧ (∀ p ∈ Sy, p ∈ X) ∧ (∀ p ∈ Sx, p ∈ X) := by
  refine @dq _ (by
  k_extra "h0"
  k_extra "b1.12"
  k_extra "b2.6"
  intro N P H C hce cl c1 c2 c3 c4 c5 c6
  have fn := fn_news N
  refine viaP fun PZ kZ => ?_
  obtain ⟨d1, d2, d3, d4, d5, d6, d7, d8, d9, d0⟩ := P.d
  refine kZ ?_; clear kZ PZ
  have hc : (y1_2.c.ce, y2_3) ∈ y1_7 :: y1_8 :: y1_9 :: y1_10 :: y1_11 :: y1_12 :: y2_1 :: (y1_2.c.r.fr, y2_2) :: (y1_2.c.ce, y2_3) :: (y1_2.c.rd, y2_4) :: (y1_2.c.r.fl, y2_5) :: (y1_2.c.r.lo, y2_6) :: y1_6 := .tail _ (.tail _ (.tail _ (.tail _ (.tail _ (.tail _ (.tail _ (.tail _ (.head _))))))))
  have tn : ∀ {a : Addr × Obj}, a ∈ y1_7 :: y1_8 :: y1_9 :: y1_10 :: y1_11 :: y1_12 :: y2_1 :: (y1_2.c.r.fr, y2_2) :: (y1_2.c.ce, y2_3) :: (y1_2.c.rd, y2_4) :: (y1_2.c.r.fl, y2_5) :: (y1_2.c.r.lo, y2_6) :: y1_6 → a.2.cls = .type "tuple" → a.1 ≠ y1_2.c.ce := fun y1_4 k => fn.ne y1_4 hc fun e => C.ce ((congrArg Obj.cls e).symm.trans k)
  refine ⟨y1_6, y1_7 :: y1_8 :: y1_9 :: y1_10 :: y1_11 :: y1_12 :: y2_1 :: (y1_2.c.r.fr, y2_2) :: (y1_2.c.rd, y2_4) :: (y1_2.c.r.fl, y2_5) :: (y1_2.c.r.lo, y2_6) :: y1_6, P, H, fun p hp => N p ?_, fun p hp => ?_, .head _, .tail _ (.head _), .tail _ (.tail _ (.head _)), .tail _ (.tail _ (.tail _ (.head _))), .tail _ (.tail _ (.tail _ (.tail _ (.head _)))), .tail _ (.tail _ (.tail _ (.tail _ (.tail _ (.head _))))), .tail _ (.tail _ (.tail _ (.tail _ (.tail _ (.tail _ (.head _)))))),
    .tail _ (.tail _ (.tail _ (.tail _ (.tail _ (.tail _ (.tail _ (.head _))))))), .tail _ (.tail _ (.tail _ (.tail _ (.tail _ (.tail _ (.tail _ (.tail _ (.head _)))))))), .tail _ (.tail _ (.tail _ (.tail _ (.tail _ (.tail _ (.tail _ (.tail _ (.tail _ (.head _))))))))), .tail _ (.tail _ (.tail _ (.tail _ (.tail _ (.tail _ (.tail _ (.tail _ (.tail _ (.tail _ (.head _)))))))))), ?_, ?_⟩
  · simp only [List.mem_cons] at hp ⊢
    rcases hp with y1_4 | y1_4 | y1_4 | y1_4 | y1_4 | y1_4 | y1_4 | y1_4 | y1_4 | y1_4 | y1_4 | y1_4 | y1_4 <;> simp only [y1_4, true_or, or_true]
  · rcases List.mem_cons.mp hp with rfl | hp
    · exact fn.ne (.head _) hc fun e => cl ((congrArg esLen e).trans (by show esLen y2_3 = 25; rw [hce]; rfl))
    rcases List.mem_cons.mp hp with rfl | hp
    · exact tn (.tail _ (.head _)) c1
    rcases List.mem_cons.mp hp with rfl | hp
    · exact tn (.tail _ (.tail _ (.head _))) c2
    rcases List.mem_cons.mp hp with rfl | hp
    · exact tn (.tail _ (.tail _ (.tail _ (.head _)))) c3
    rcases List.mem_cons.mp hp with rfl | hp
    · exact tn (.tail _ (.tail _ (.tail _ (.tail _ (.head _))))) c4
    rcases List.mem_cons.mp hp with rfl | hp
    · exact tn (.tail _ (.tail _ (.tail _ (.tail _ (.tail _ (.head _)))))) c5
    rcases List.mem_cons.mp hp with rfl | hp
    · exact tn (.tail _ (.tail _ (.tail _ (.tail _ (.tail _ (.tail _ (.head _))))))) c6
    rcases List.mem_cons.mp hp with rfl | hp
    · exact d8
    rcases List.mem_cons.mp hp with rfl | hp
    · exact d1
    rcases List.mem_cons.mp hp with rfl | hp
    · exact d5
    rcases List.mem_cons.mp hp with rfl | hp
    · exact Ne.symm d3
    · exact (P.ne p hp).2.1
  · exact fun p hp => .tail _ (.tail _ (.tail _ (.tail _ (.tail _ (.tail _ (.tail _ (.tail _ (.tail _ (.tail _ (.tail _ hp))))))))))
  · exact fun p hp => .tail _ (.tail _ (.tail _ (.tail _ (.tail _ (.tail _ (.tail _ (.tail _ (.tail _ (.tail _ (.tail _ hp))))))))))) fun q hf => ?_
  simpa only using fq hf (@Eq _ 5 5)
theorem mem_zero {S : Led} : MemIs (List.replicate 25 Value.none) ⟨fun _ => none, none⟩ S := ⟨by rw [List.length_replicate], fun _ _ h => (nomatch h), fun _ h => (nomatch h)⟩
-- LZ
/-- a real word of the run: its place, its cells, its pair -/
def RealAt (fv : List (Str × Value)) (vs : List Value) (n : Led) (key : Str) (ad N : Int) : Prop := ∃ pa t6 t7 z1 z2 c1 c2 t8 t9 x u1 u2, valueAt fv key = some (.ref pa) ∧ (pa, tp [.int 2 t6, .int ad t7, z1, z2]) ∈ n ∧ vs[ad.toNat]? = some (.ref c1) ∧ vs[(ad + 1).toNat]? = some (.ref c2) ∧
  (c1, tp [.int 2 t8, .ref x]) ∈ n ∧ (c2, tp [.int 6 t9, .ref x]) ∈ n ∧ TupIs n x [.int (cN N).1 u1, .int (cN N).2 u2]
def KAt (fv : List (Str × Value)) (vs : List Value) (n : Led) : Prop := ∃ pa t6 t7 z1 z2 c1 t8 t9, valueAt fv (Str.ofString "K") = some (.ref pa) ∧ (pa, tp [.int 0 t6, .int 24 t7, z1, z2]) ∈ n ∧ vs[(24 : Int).toNat]? = some (.ref c1) ∧ (c1, tp [.int 0 t8, .int 3 t9]) ∈ n
theorem real_at {fv : List (Str × Value)} {vs : List Value} {n : Led} {σ : St} (M : MemIs vs σ n) {i : Nat} {N : Int} (hp : ∃ pa t6 t7 z1 z2, valueAt fv (nmAt i) = some (.ref pa) ∧ (pa, tp [.int 2 t6, .int (2 * (i : Nat)) t7, z1, z2]) ∈ n) (h : σ.v i = some N) : RealAt fv vs n (nmAt i) (2 * (i : Nat)) N := by
  refine viaP fun PZ kZ => ?_
  obtain ⟨pa, t6, t7, z1, z2, a, b⟩ := hp
  have hz8 := M.v i N h; revert hz8; refine im4 ?_; intro c1 c2 t8 t9; rintro ⟨x, hz8⟩; revert hz8; rintro ⟨g1, g2, g3, g4, y, u1, u2, rfl, g5⟩
  refine kZ ?_; clear kZ PZ
  refine ⟨pa, t6, t7, z1, z2, c1, c2, t8, t9, y, u1, u2, a, b, ?_, ?_, g3, g4, g5⟩
  · rw [show (2 * ((i : Nat) : Int)).toNat = 2 * i by lia]; exact g1
  · rw [show (2 * ((i : Nat) : Int) + 1).toNat = 2 * i + 1 by lia]; exact g2
/-- what is read behind the run -/
def FinIs (w : World) (q : Stc) (z : In) (n : Led) : Prop := ∃ ns ts vs nn fo fv q1 q2 ch, (q.c.ru, instObj 450 q.c.rd) ∈ n ∧ (q.c.rd, runD w.params q.c.r ns ts) ∈ n ∧ (q.c.r.me, instObj 141 q.c.md) ∈ n ∧ (q.c.md, dictOf [enS w.params "numeric" q1 (.ref q.c.ce), enS w.params "characters" q2 ch] 2) ∈ n ∧
  (q.c.ce, listOf vs.toArray nn) ∈ n ∧ vs.length = 25 ∧ (q.c.r.fr, fo) ∈ n ∧ (q.c.r.fr == sysModules) = false ∧ fo.IsDictOf (strKind WP w) fv ∧ KAt fv vs n ∧ RealAt fv vs n (Str.ofString "X") 14 (z.b * 10 ^ 7) ∧ RealAt fv vs n (Str.ofString "B") 10 (z.b * 10 ^ 7) ∧ RealAt fv vs n (Str.ofString "T") 20 (z.due * 10 ^ 4) ∧ RealAt fv vs n (Str.ofString "R") 22 (z.due * 10 ^ 4) ∧ q.xe ∈ n
theorem fin_is : ∀ (w : World) (q : Stc) (z : In) (n : Led), (IFin w q z n) → FinIs w q z n := by
  k_extra "h0"
  k_extra "b1.4"
  intro h
  refine viaP fun PZ kZ => ?_
  obtain ⟨y, ns, ts, vs, nn, σ, e, s, D, A, -, T, R, X, K⟩ := h
  have sv := s.env.sub D.S
  obtain ⟨fo, fv, f1, f2, f3, f4, pk, t6, t7, z1, z2, k1, k2⟩ := sv.fr
  obtain ⟨q1, q2, ch, m1, m2⟩ := sv.me
  obtain ⟨c1, t8, t9, g1, g2⟩ := D.mem.k 3 K
  refine kZ ?_; clear kZ PZ
  rw [y1_3.r2] at R
  exact ⟨ns, ts, vs, nn, fo, fv, q1, q2, ch, sv.run, D.rd, m1, m2, D.ce, D.mem.len, f1, f2, f3, ⟨pk, t6, t7, z1, z2, c1, t8, t9, k1, k2, g1, g2⟩, real_at D.mem (f4 7 (by decide)) X, real_at D.mem (f4 5 (by decide)) A.b, real_at D.mem (f4 10 (by decide)) T, real_at D.mem (f4 11 (by decide)) R, D.S _ s.xe⟩
/-- the last line's whole number -/
theorem due_of (N : Int) : (cN (N * 10 ^ 4)).1 * 10 ^ (max ((cN (N * 10 ^ 4)).2 + 4) 0).toNat = N := by
  by_cases h : N = 0
  · subst h; rw [show (0 : Int) * 10 ^ 4 = 0 from rfl, cN_zero]; rfl
  · have e : cN (N * 10 ^ 4) = stripZ N (-4) := by rw [cN_of (M := N) (E := -4) (by decide)]; rfl
    obtain ⟨_, h2, h3⟩ := strip_eq _ N (-4) (Nat.le_refl _) h
    rw [e, Int.max_eq_left (by lia)]
    exact h3.symm
theorem cN_exp {N : Int} {k : Nat} (h : N.natAbs < 10 ^ k) : (cN N).2 ≤ k := by
  by_cases h0 : N = 0
  · subst h0; rw [cN_zero]; show (0 : Int) ≤ k; lia
  · obtain ⟨h1, h2, h3⟩ := cN_facts h0
    rcases Int.lt_or_le (k : Int) (cN N).2 with hk | hk
    · exfalso
      have e1 : N.natAbs = (cN N).1.natAbs * 10 ^ ((cN N).2 + 8).toNat := by
        have := congrArg Int.natAbs h3
        rwa [Int.natAbs_mul, Int.natAbs_pow] at this
      have e2 : 10 ^ k ≤ 10 ^ ((cN N).2 + 8).toNat := Nat.pow_le_pow_right (by decide) (by lia)
      have e3 : 1 * 10 ^ ((cN N).2 + 8).toNat ≤ (cN N).1.natAbs * 10 ^ ((cN N).2 + 8).toNat := Nat.mul_le_mul_right _ (by lia)
      rw [← e1, Nat.one_mul] at e3
      lia
    · exact hk
theorem cN_fst {N : Int} {k : Nat} (h : N.natAbs < 10 ^ k) : (cN N).1.natAbs < 10 ^ k := by
  by_cases h0 : N = 0
  · subst h0; rw [cN_zero]; exact Nat.pow_pos (by decide)
  · obtain ⟨h1, h2, h3⟩ := cN_facts h0
    have e1 : N.natAbs = (cN N).1.natAbs * 10 ^ ((cN N).2 + 8).toNat := by
      have := congrArg Int.natAbs h3
      rwa [Int.natAbs_mul, Int.natAbs_pow] at this
    refine Nat.lt_of_le_of_lt ?_ h
    rw [e1]
    exact Nat.le_mul_of_pos_right _ (Nat.pow_pos (by decide))
theorem in_ok {d e f g a b : Int} (hd : -9 ≤ d ∧ d ≤ 9) (he : -9 ≤ e ∧ e ≤ 9) (hf : -9 ≤ f ∧ f ≤ 9) (hg : -9 ≤ g ∧ g ≤ 9) (ha : -20 ≤ a ∧ a ≤ 20) (hb : -20 ≤ b ∧ b ≤ 20) : In.Ok ⟨d, e, f, g, a, b⟩ :=
  ⟨by show d.natAbs ≤ 9; lia, by show e.natAbs ≤ 9; lia, by show f.natAbs ≤ 9; lia, by show g.natAbs ≤ 9; lia, by show a.natAbs ≤ 20; lia, by show b.natAbs ≤ 20; lia⟩
theorem wk20 {m : Int} (h : -9 ≤ m ∧ m ≤ 9) : -20 ≤ m ∧ m ≤ 20 := ⟨Int.le_trans (by decide) h.1, Int.le_trans h.2 (by decide)⟩
theorem mx8 {e : Int} : 0 ≤ (if (0 : Int) > e + 4 then 0 else e + 4) := by
  split <;> lia
theorem mx9 {e b c : Int} (h : e ≤ b) (q : decide (b + 4 ≤ c) = true) (r : decide ((0 : Int) ≤ c) = true) : (if (0 : Int) > e + 4 then 0 else e + 4) ≤ c := by
  have q := of_decide_eq_true q
  have r := of_decide_eq_true r
  split <;> lia
theorem due_exp {z : In} (o : z.Ok) : (cN (z.due * 10 ^ 4)).2 ≤ 20 := by
  have h1 := (In.G_bound o (t := z.a) o.a).2.2.2
  have h2 := (In.G_bound o (t := z.b) o.b).2.2.2
  exact cN_exp (k := 20) (Nat.lt_trans (sb (10 ^ 4) (nbS (C := 23040000) h2 h1 (by decide)) (by decide)) (by decide))
theorem due_fst {z : In} (o : z.Ok) : -(2 ^ 64) < (cN (z.due * 10 ^ 4)).1 ∧ (cN (z.due * 10 ^ 4)).1 < 2 ^ 64 := by
  have h1 := (In.G_bound o (t := z.a) o.a).2.2.2
  have h2 := (In.G_bound o (t := z.b) o.b).2.2.2
  have h3 := cN_fst (N := z.due * 10 ^ 4) (k := 18) (Nat.lt_trans (sb (10 ^ 4) (nbS (C := 23040000) h2 h1 (by decide)) (by decide)) (by decide))
  lia
theorem last_ok (d e f g a b : Int) : (((cN (In.due ⟨d, e, f, g, a, b⟩ * 10 ^ 4)).1 * 10 ^ (if 0 > (cN (In.due ⟨d, e, f, g, a, b⟩ * 10 ^ 4)).2 + 4 then 0 else (cN (In.due ⟨d, e, f, g, a, b⟩ * 10 ^ 4)).2 + 4).toNat == In.G ⟨d, e, f, g, 0, 0⟩ b - In.G ⟨d, e, f, g, 0, 0⟩ a) == true) = true := by
  have h := due_of (In.due ⟨d, e, f, g, a, b⟩)
  have e1 : ∀ x : Int, (if 0 > x then 0 else x) = max x 0 := fun x => by split <;> lia
  rw [e1, h]
  show ((In.due ⟨d, e, f, g, a, b⟩ == In.due ⟨d, e, f, g, a, b⟩) == true) = true
  simp
theorem none_raised (args : List WData) : ∀ ct ∈ PySem.Challenge.rw_sz0042_01.row.raises, WTm.holds PySem.Challenge.rw_sz0042_01.row.records ct.2 { args := args } = false := by
  have e : PySem.Challenge.rw_sz0042_01.row.raises = [] := rfl
  rw [e]; exact fun _ h => nomatch h
section
variable {prog : Program} {w : World} {A : Around} {E : Value → Shared → Prop} {s : Shared} {a b : Addr} {m e : Int} {t1 t2 t3 t4 : Tok} {Q : Value → Shared → Prop}
theorem pair_all (j : Nat) (h1 : j < (#[Value.int m t1, Value.int e t2] : Array Value).size) (h2 : j < (#[Value.int m t3, Value.int e t4] : Array Value).size) : SeqAt.EqAt A.in1 s (#[Value.int m t1, Value.int e t2] : Array Value)[j] (#[Value.int m t3, Value.int e t4] : Array Value)[j] true := by
  match j, h1, h2 with
  | 0, _, _ =>
    have := SeqAt.EqAt.int_int (A := A.in1) (s := s) m t1 m t3
    rwa [beq_self_eq_true] at this
  | 1, _, _ =>
    have := SeqAt.EqAt.int_int (A := A.in1) (s := s) e t2 e t4
    rwa [beq_self_eq_true] at this
theorem pair_eq (ha : IsTup s.heap a ([.int m t1, .int e t2] : List Value).toArray) (hb : IsTup s.heap b ([.int m t3, .int e t4] : List Value).toArray) (hu : A.units < cLine) (h : Q (.bool true) s) : wpAny (model prog w) A (compareOp .Eq (.ref a) (.ref b)) Q E s :=
  SeqAt.eq_tupleAt (e := fun _ => true) ha hb hu pair_all h
theorem pair_ne (ha : IsTup s.heap a ([.int m t1, .int e t2] : List Value).toArray) (hb : IsTup s.heap b ([.int m t3, .int e t4] : List Value).toArray) (hu : A.units < cLine) (h : Q (.bool false) s) : wpAny (model prog w) A (compareOp .NotEq (.ref a) (.ref b)) Q E s :=
  SeqAt.RcNeAt.tuples (e := fun _ => true) ha hb hu pair_all prog w E Q h
end
theorem gain_G (z : In) (t : Int) : 3 * z.d * t ^ 4 + 40 * z.e * t ^ 3 + 600 * z.f * t ^ 2 + 12000 * z.g * t = z.G t := by unfold In.G; grind
local macro_rules | `(tactic| walk_at "binaryOp Pow int int") => `(tactic| (k_here; (with_reducible show wpAny _ _ (binaryOp Operator.Pow (Value.int _ _) (Value.int _ _)) _ _ _); k_extra "powI"))
theorem c_gain : ∀ (d e f g t : Int) (t1 t2 t3 t4 t5 : Tok) (led : Led), -9 ≤ d ∧ d ≤ 9 → -9 ≤ e ∧ e ≤ 9 → -9 ≤ f ∧ f ≤ 9 → -9 ≤ g ∧ g ≤ 9 → -20 ≤ t ∧ t ≤ 20 → SpecV 1 8 877 [.int d t1, .int e t2, .int f t3, .int g t4, .int t t5] led (fun v => ∃ u, v = .int (In.G ⟨d, e, f, g, 0, 0⟩ t) u) := by
  refine @dq _ (by
  unfold SpecV
  k_fill
  k_extra "h0"
  k_extra "b1.8"
  k_extra "b2.3"
  intro b1 b2 b3 b4 b5
  k_extra "hw"
  k_with "powI" => (k_dflt (refine' pow_int_small ?z1 ?z2 ?z3 ?_; (case z1 => decide); (case z2 => decide); (case z3 => omega)))
  k_steps
  all_goals first
    | exact hret _ _ _ ‹_› ‹_› ⟨_, congrArg (Value.int · _) (gain_G ⟨y1_1, y1_2, y1_3, y1_4, 0, 0⟩ y1_5)⟩) fun q hf => ?_
  simpa only using fq hf (@Eq _ 5 5)
theorem words24 : True := by
  k_with_none
  k_with "cl1" => (rename BAR _ => bq9; refine letI kk := _; haveI bq8 := @barS kk bq9; letI x1 := _; goW1 (k := kk) (n := by k_extra "ne") x1 rfl ?_; try clear bq9)
  k_with "cl2" => (rename BAR _ => bq9; refine letI kk := _; haveI bq8 := @barS kk bq9; letI Wq := mkW2 (k := kk) (n := by k_extra "ne"); letI x1 := _; letI x2 := _; goW2 Wq rfl x1 x2 rfl rfl ?_; try clear bq9)
  k_with "cl3" => (rename BAR _ => bq9; refine letI kk := _; haveI bq8 := @barS kk bq9; letI Wq := mkW3 (k := kk) (n := by k_extra "ne"); letI x1 := _; letI x2 := _; letI x3 := _; goW3 Wq rfl x1 x2 x3 rfl rfl rfl ?_; try clear bq9)
  k_with "cl4" => (rename BAR _ => bq9; refine letI kk := _; haveI bq8 := @barS kk bq9; letI Wq := mkW4 (k := kk) (n := by k_extra "ne"); letI x1 := _; letI x2 := _; letI x3 := _; letI x4 := _; goW4 Wq rfl x1 x2 x3 x4 rfl rfl rfl rfl ?_; try clear bq9)
  k_with "cl6" => (rename BAR _ => bq9; refine letI kk := _; haveI bq8 := @barS kk bq9; letI Wq := mkW6 (k := kk) (n := by k_extra "ne"); letI x1 := _; letI x2 := _; letI x3 := _; letI x4 := _; letI x5 := _; letI x6 := _; goW6 Wq rfl x1 x2 x3 x4 x5 x6 rfl rfl rfl rfl rfl rfl ?_; try clear bq9)
  k_with "cl8" => (rename BAR _ => bq9; refine letI kk := _; haveI bq8 := @barS kk bq9; letI Wq := mkW8 (k := kk) (n := by k_extra "ne"); letI x1 := _; letI x2 := _; letI x3 := _; letI x4 := _; letI x5 := _; letI x6 := _; letI x7 := _; letI x8 := _; goW8 Wq rfl x1 x2 x3 x4 x5 x6 x7 x8 rfl rfl rfl rfl rfl rfl rfl rfl ?_; try clear bq9)
  k_with "cl12" => (rename BAR _ => bq9; refine letI kk := _; haveI bq8 := @barS kk bq9; letI Wq := mkW12 (k := kk) (n := by k_extra "ne"); letI x1 := _; letI x2 := _; letI x3 := _; letI x4 := _; letI x5 := _; letI x6 := _; letI x7 := _; letI x8 := _; letI x9 := _; letI x10 := _; letI x11 := _; letI x12 := _; goW12 Wq rfl x1 x2 x3 x4 x5 x6 x7 x8 x9 x10 x11 x12 rfl rfl rfl rfl rfl rfl rfl rfl rfl rfl rfl rfl ?_; try clear bq9)
  k_with "bar" => (rename BAR _ => bq9; refine haveI bq8 : BAR _ := barS bq9; ?_; try clear bq9)
  k_with "bc" => skip
  k_with "rv" => ((fail_if_success (rename _ => xq; refine useBar xq ?_)); w_why)
  k_with "nc1" => with_reducible ((first | (fail_if_success (intro zb)) | refine Box.o ?_); (repeat ((fail_if_success (rename (_ : Prop) => xq; refine useBar xq ?_)); w_why)))
  k_with "nc2" => with_reducible (first | (k_extra "rv"; first | (k_extra "rv"; first | (k_extra "rv"; first | (k_extra "rv"; first | (k_extra "rv"; first | (k_extra "rv"; first | (k_extra "rv"; first | (k_extra "rv"; first | (k_extra "rv"; first | (k_extra "rv"; first | (k_extra "rv"; first | (k_extra "rv"; (k_extra "nc2"; k_extra "cl12")) | (k_extra "cl8"; k_extra "cl3")) | (k_extra "cl8"; k_extra "cl2")) | (k_extra "cl8"; k_extra "cl1")) | (k_extra "cl8")) | (k_extra "cl6"; k_extra "cl1")) | (k_extra "cl6")) | (k_extra "cl4"; k_extra "cl1")) | (k_extra "cl4")) | (k_extra "cl3")) | (k_extra "cl2")) | (k_extra "cl1")) | (skip))
  k_with "nc3" => with_reducible ((repeat (set_option tactic.hygienic false in intro)); (try k_extra "unf"); (try (refine Box.mk ?_)); k_extra "bar")
  k_with "cls" => with_reducible (try ((rename BAR _ => zq); (fail_if_success (rename PySem.W.KPfMark => zz)); k_whole; (fail_if_success (rename _ => xq; refine useBar xq ?_)); k_extra "nc1"; k_extra "nc2"; k_extra "nc3"))
  k_with "re" => (first | exact Nat.le_of_ble_eq_true rfl | exact Nat.le_of_eq (Nat.add_comm _ _) | omega)
  k_with "rm" => (first | (refine' rm0 ?q739; (case q739 => k_extra "as")) | (refine' rm1 ?q740 ?q741; (case q740 => k_extra "as"); (case q741 => k_extra "re")) | (refine' rm2 ?q742 ?q743; (case q742 => k_extra "as"); (case q743 => k_extra "re")) | (refine' rm3 ?q744 ?q745; (case q744 => k_extra "as"); (case q745 => k_extra "re")) | exact Nat.le_of_ble_eq_true rfl)
  k_with "m:ktr_room" => k_extra "rm"
  k_with "m:ktr_units" => k_extra "rm"
  k_with "m:k_ne" => (refine neN ?_; (try dsimp only); first | (with_reducible k_extra "n") | k_extra "n" | omega)
  k_with "ne" => (repeat' first | (with_reducible refine neP ?_ ?_) | infer_instance | exact neW | exact nePar | exact neA | exact neS | exact neH | exact neRV | exact neUV | exact neFV | exact nePD | exact neFRec | exact neFY | exact neStc | exact neRowD | exact neIn | exact neSt)
  k_with "fold" => ((fail_if_success (with_reducible rename PySem.W.KPfMark => zz)); k_whole; k_extra "cls"; with_reducible (refine letI qk := _; letI ek := _; (?_ : wpAny _ _ _ qk ek _)); with_reducible k_extra "bar")
  k_with "as" => (with_reducible assumption)
  k_with "od" => ((fail_if_success (fail_if_success (decide +kernel))); kernel_rfl)
  k_with "n" => first | (refine' Nat.ne_of_gt ?q746; (case q746 => assumption)) | (refine' Nat.ne_of_lt ?q747; (case q747 => assumption)) | (refine' gt1 ?q748; (case q748 => assumption)) | (refine' gt2 ?q749; (case q749 => assumption)) | (refine' lt2' ?q750; (case q750 => assumption)) | (refine' gt3 ?q751; (case q751 => assumption)) | (refine' lt3' ?q752; (case q752 => assumption)) | (refine' gt4 ?q753; (case q753 => assumption)) | (refine' lt4' ?q754; (case q754 => assumption)) | (refine' gt5 ?q755; (case q755 => assumption)) | (refine' lt5' ?q756; (case q756 => assumption)) | (refine' gt6 ?q757; (case q757 => assumption)) | (refine' lt6' ?q758; (case q758 => assumption)) | (refine' gt7 ?q759; (case q759 => assumption)) | (refine' lt7' ?q760; (case q760 => assumption)) | (refine' gt8 ?q761; (case q761 => assumption)) | (refine' lt8' ?q762; (case q762 => assumption)) | (refine' Nat.ne_of_lt (And.left ?q763); (case q763 => assumption))
  k_with "m:omega" => first | (k_whole; first | (with_reducible assumption) | ((fail_if_success (fail_if_success (decide +kernel))); (fail_if_success (fail_if_success (omega (config := {})))); (decide +kernel)) | ((refine' oF ?q764 ?_; (case q764 => k_extra "as")); k_extra "od") | ((refine' oE ?q765 ?_; (case q765 => k_extra "as")); k_extra "od") | ((refine' oG ?q766 ?_; (case q766 => k_extra "as")); k_extra "od") | ((refine' oH ?q767 ?_; (case q767 => k_extra "as")); k_extra "od") | ((refine' oI ?q768 ?_; (case q768 => k_extra "as")); k_extra "od") | ((refine' oJ ?q769 ?_; (case q769 => k_extra "as")); k_extra "od") | (with_reducible (refine neN ?_; k_extra "n"))) | k_extra "oc" | ((try (with_reducible rename (_ < PySem.recursionLimit) => zd; clear zd)); (try (with_reducible rename (_ < PySem.cLine) => zd; clear zd)); omega (config := {})) | omega (config := {})
  k_with "m:decide" => ((fail_if_success (fail_if_success (decide (config := {})))); first | (refine of_decide_eq_true ?_; exact Eq.refl true) | decide (config := {}))
  k_with "rl" => (rotate_left; (first | (rename (_ : Prop) => xz; (fail_if_success (refine useBar xz ?_)); exact xz) | assumption); intro h; clear h)
  k_with "en" => k_dflt (refine' code_def ?z1k1 ?z1k2 ?z1k3 ?z1k4 ?z1k5 ?z1kA ?z1kF ?z1kK ?z1k6 ?z1k7 ?z1k8 ?z1k9 ?z1kB ?_ ?z1c2 ?z1c3 ?z1c4 ?z1c5; (case z1kA => exact rfl); (case z1kF => exact rfl); (case z1kK => assumption); (case z1k1 => k_asm); (case z1k2 => k_asm); (case z1k3 => k_asm); (case z1k4 => k_asm); (case z1k5 => k_asm); (case z1k6 => k_is); (case z1k7 => k_is); (case z1k8 => ktr_room); (case z1k9 => exact BindsTo.of_eq rfl); (case z1c5 => decide); (case z1kB => exact locs rfl); (case z1c2 => exact rfl); (case z1c3 => exact rfl); (case z1c4 => exact rfl); k_whole; intro g' L' h' FG' F' N' B' X' T'; (try k_fold))
  k_with "!callWith" => (k_here; (first | (with_reducible refine' callWith_method1 ?_ ?z2he ?z2hp) | (with_reducible refine' callWith_builtin1 ?_ ?z2he ?z2hp)); (case z2he => k_dflt (exact rfl)); (case z2hp => k_dflt (exact rfl)))
  k_with "!newList" => (k_here; k_dflt (refine' newList_K ?z3k1 ?z3k2 ?_ ?z3z; (case z3k1 => k_asm); (case z3k2 => k_asm); (case z3z => exact Nat.le_of_ble_eq_true rfl); k_whole); intro l' h' F' N' l1; (try k_lt l1); (try k_sweep))
  k_with "!subscriptTail Name Constant ref int" => k_extra "!subscriptTail Name"
  k_with "!subscriptTail Name Name ref int" => k_extra "!subscriptTail Name"
  k_with "m:k_in" => first | with_reducible assumption | (refine' Frag.In.keeps ?q770 (Fr.keep ?q771); (case q770 => with_reducible assumption); (case q771 => with_reducible assumption)) | (refine' Frag.In.keeps ?q772 (Fr.keep ?q773); (case q772 => k_asm); (case q773 => k_asm))
  k_with "unf" => ((fail_if_success (fail_if_success k_unfold)); first | with_reducible (refine (?_ : wpAny _ _ _ _ _ _)) | k_unfold)
  k_with "!spliced" => first | (k_dflt (refine args_cons ?_)) | (k_dflt (refine args_nil ?_); (try simp only [List.cons_append, List.nil_append]))
  k_with "ite" => (k_closed; k_dflt (first | (refine' ite_pos ?z4i ?_; (case z4i => decide)) | (refine' ite_neg ?z4j ?_; (case z4j => decide))))
  k_with "!eval Name" => (k_here; k_dflt (refine' nameX_K ?z5F ?z5X ?z5T ?z5e ?_ ?z5a ?z5b; (case z5F => k_asm); (case z5X => k_asm); (case z5T => k_asm); (case z5a => rfl); (case z5b => rfl); (case z5e => k_is); k_whole))
  k_with "!eval Call" => (k_here; (with_reducible show wpAny _ _ (eval (Expr.Call (Expr.Name _ _) (_ :: _) _ _) _) _ _ _); k_dflt (refine' callA ?z6hk ?z6X ?z6T ?z6i ?z6F ?z6e ?z6f ?z6d ?z6kp ?z6q ?_; (case z6i => rfl); (case z6f => rfl); (case z6hk => rfl); (case z6F => k_asm); (case z6q => rfl); (case z6d => rfl); (case z6X => k_asm); (case z6T => k_asm); (case z6e => k_is); (case z6kp => k_is); k_whole))
  k_with "!execs cons" => (k_here; (with_reducible refine wpAny_execs_cons ?_); try dsimp only)
  k_with "!execs nil" => (k_here; with_reducible refine wpAny_execs_nil ?_)
  k_with "!spliced" => (k_here; (with_reducible show wpAny _ _ (spliced (backTo _ (starEach (_ :: _) _))) _ _ _); k_dflt (refine' argsB ?z7hk ?z7i ?z7F ?z7q ?_; (case z7i => rfl); (case z7hk => rfl); (case z7F => k_asm); (case z7q => rfl); k_whole; (try dsimp only [List.cons_append, List.nil_append])))
  k_with "!eval Subscript" => (k_here; (with_reducible show wpAny _ _ (eval (Expr.Subscript (Expr.Name _ _) (Expr.Constant (Const.int _) _ _) _) _) _ _ _); k_dflt (refine' subNI ?z8hk ?z8F ?z8e ?z8x ?z8d ?_; (case z8hk => rfl); (case z8F => k_asm); (case z8x => rfl); (case z8d => rfl); (case z8e => rfl); k_whole))
  k_with "!eval Name" => (k_here; k_dflt (refine' nameA ?z9hk ?z9F ?z9e ?z9x ?z9d ?_; (case z9x => rfl); (case z9hk => rfl); (case z9F => k_asm); (case z9d => rfl); (case z9e => rfl); k_whole))
  k_with "rva" => ((repeat revert ‹_›); refine haveI b8 : BAR 0 := bar0; ?_)
  k_with "m:k_fold" => ((with_reducible rename BAR _ => zq); k_extra "fold")
  k_with "m:k_steps" => repeat' (first | (k_extra "unf"; (try dsimp only)) | (k_end; wrow_close) | (walk1; all_goals k_extra "cls") | (dsimp only; walk1; all_goals k_extra "cls") | (leave1; (try dsimp only); all_goals k_extra "cls") | fail "no step")
  k_with "b1.2" => (with_reducible (rename BAR _ => bq9; refine letI kk := _; haveI bq8 := @barS kk bq9; letI Wq := mkW2 (k := kk) (n := by k_extra "ne"); letI y1_1 := _; letI y1_2 := _; goW2 Wq rfl y1_1 y1_2 rfl rfl ?_; try clear bq9))
  k_with "b1.3" => (with_reducible (rename BAR _ => bq9; refine letI kk := _; haveI bq8 := @barS kk bq9; letI Wq := mkW3 (k := kk) (n := by k_extra "ne"); letI y1_1 := _; letI y1_2 := _; letI y1_3 := _; goW3 Wq rfl y1_1 y1_2 y1_3 rfl rfl rfl ?_; try clear bq9))
  k_with "b1.4" => (with_reducible (rename BAR _ => bq9; refine letI kk := _; haveI bq8 := @barS kk bq9; letI Wq := mkW4 (k := kk) (n := by k_extra "ne"); letI y1_1 := _; letI y1_2 := _; letI y1_3 := _; letI y1_4 := _; goW4 Wq rfl y1_1 y1_2 y1_3 y1_4 rfl rfl rfl rfl ?_; try clear bq9))
  k_with "b1.6" => (with_reducible (rename BAR _ => bq9; refine letI kk := _; haveI bq8 := @barS kk bq9; letI Wq := mkW6 (k := kk) (n := by k_extra "ne"); letI y1_1 := _; letI y1_2 := _; letI y1_3 := _; letI y1_4 := _; letI y1_5 := _; letI y1_6 := _; goW6 Wq rfl y1_1 y1_2 y1_3 y1_4 y1_5 y1_6 rfl rfl rfl rfl rfl rfl ?_; try clear bq9))
  k_with "b1.8" => (with_reducible (rename BAR _ => bq9; refine letI kk := _; haveI bq8 := @barS kk bq9; letI Wq := mkW8 (k := kk) (n := by k_extra "ne"); letI y1_1 := _; letI y1_2 := _; letI y1_3 := _; letI y1_4 := _; letI y1_5 := _; letI y1_6 := _; letI y1_7 := _; letI y1_8 := _; goW8 Wq rfl y1_1 y1_2 y1_3 y1_4 y1_5 y1_6 y1_7 y1_8 rfl rfl rfl rfl rfl rfl rfl rfl ?_; try clear bq9))
  k_with "b1.12" => (with_reducible (rename BAR _ => bq9; refine letI kk := _; haveI bq8 := @barS kk bq9; letI Wq := mkW12 (k := kk) (n := by k_extra "ne"); letI y1_1 := _; letI y1_2 := _; letI y1_3 := _; letI y1_4 := _; letI y1_5 := _; letI y1_6 := _; letI y1_7 := _; letI y1_8 := _; letI y1_9 := _; letI y1_10 := _; letI y1_11 := _; letI y1_12 := _; goW12 Wq rfl y1_1 y1_2 y1_3 y1_4 y1_5 y1_6 y1_7 y1_8 y1_9 y1_10 y1_11 y1_12 rfl rfl rfl rfl rfl rfl rfl rfl rfl rfl rfl rfl ?_; try clear bq9))
  k_with "b2.1" => (with_reducible (rename BAR _ => bq9; refine letI kk := _; haveI bq8 := @barS kk bq9; letI y2_1 := _; goW1 (k := kk) (n := by k_extra "ne") y2_1 rfl ?_; try clear bq9))
  k_with "b2.2" => (with_reducible (rename BAR _ => bq9; refine letI kk := _; haveI bq8 := @barS kk bq9; letI Wq := mkW2 (k := kk) (n := by k_extra "ne"); letI y2_1 := _; letI y2_2 := _; goW2 Wq rfl y2_1 y2_2 rfl rfl ?_; try clear bq9))
  k_with "b2.3" => (with_reducible (rename BAR _ => bq9; refine letI kk := _; haveI bq8 := @barS kk bq9; letI Wq := mkW3 (k := kk) (n := by k_extra "ne"); letI y2_1 := _; letI y2_2 := _; letI y2_3 := _; goW3 Wq rfl y2_1 y2_2 y2_3 rfl rfl rfl ?_; try clear bq9))
  k_with "b2.4" => (with_reducible (rename BAR _ => bq9; refine letI kk := _; haveI bq8 := @barS kk bq9; letI Wq := mkW4 (k := kk) (n := by k_extra "ne"); letI y2_1 := _; letI y2_2 := _; letI y2_3 := _; letI y2_4 := _; goW4 Wq rfl y2_1 y2_2 y2_3 y2_4 rfl rfl rfl rfl ?_; try clear bq9))
  k_with "b2.6" => (with_reducible (rename BAR _ => bq9; refine letI kk := _; haveI bq8 := @barS kk bq9; letI Wq := mkW6 (k := kk) (n := by k_extra "ne"); letI y2_1 := _; letI y2_2 := _; letI y2_3 := _; letI y2_4 := _; letI y2_5 := _; letI y2_6 := _; goW6 Wq rfl y2_1 y2_2 y2_3 y2_4 y2_5 y2_6 rfl rfl rfl rfl rfl rfl ?_; try clear bq9))
  k_with "b2.8" => (with_reducible (rename BAR _ => bq9; refine letI kk := _; haveI bq8 := @barS kk bq9; letI Wq := mkW8 (k := kk) (n := by k_extra "ne"); letI y2_1 := _; letI y2_2 := _; letI y2_3 := _; letI y2_4 := _; letI y2_5 := _; letI y2_6 := _; letI y2_7 := _; letI y2_8 := _; goW8 Wq rfl y2_1 y2_2 y2_3 y2_4 y2_5 y2_6 y2_7 y2_8 rfl rfl rfl rfl rfl rfl rfl rfl ?_; try clear bq9))
  k_with "b2.12" => (with_reducible (rename BAR _ => bq9; refine letI kk := _; haveI bq8 := @barS kk bq9; letI Wq := mkW12 (k := kk) (n := by k_extra "ne"); letI y2_1 := _; letI y2_2 := _; letI y2_3 := _; letI y2_4 := _; letI y2_5 := _; letI y2_6 := _; letI y2_7 := _; letI y2_8 := _; letI y2_9 := _; letI y2_10 := _; letI y2_11 := _; letI y2_12 := _; goW12 Wq rfl y2_1 y2_2 y2_3 y2_4 y2_5 y2_6 y2_7 y2_8 y2_9 y2_10 y2_11 y2_12 rfl rfl rfl rfl rfl rfl rfl rfl rfl rfl rfl rfl ?_; try clear bq9))
  k_with "b3.1" => (with_reducible (rename BAR _ => bq9; refine letI kk := _; haveI bq8 := @barS kk bq9; letI y3_1 := _; goW1 (k := kk) (n := by k_extra "ne") y3_1 rfl ?_; try clear bq9))
  k_with "b3.2" => (with_reducible (rename BAR _ => bq9; refine letI kk := _; haveI bq8 := @barS kk bq9; letI Wq := mkW2 (k := kk) (n := by k_extra "ne"); letI y3_1 := _; letI y3_2 := _; goW2 Wq rfl y3_1 y3_2 rfl rfl ?_; try clear bq9))
  k_with "b3.6" => (with_reducible (rename BAR _ => bq9; refine letI kk := _; haveI bq8 := @barS kk bq9; letI Wq := mkW6 (k := kk) (n := by k_extra "ne"); letI y3_1 := _; letI y3_2 := _; letI y3_3 := _; letI y3_4 := _; letI y3_5 := _; letI y3_6 := _; goW6 Wq rfl y3_1 y3_2 y3_3 y3_4 y3_5 y3_6 rfl rfl rfl rfl rfl rfl ?_; try clear bq9))
  k_with "b3.8" => (with_reducible (rename BAR _ => bq9; refine letI kk := _; haveI bq8 := @barS kk bq9; letI Wq := mkW8 (k := kk) (n := by k_extra "ne"); letI y3_1 := _; letI y3_2 := _; letI y3_3 := _; letI y3_4 := _; letI y3_5 := _; letI y3_6 := _; letI y3_7 := _; letI y3_8 := _; goW8 Wq rfl y3_1 y3_2 y3_3 y3_4 y3_5 y3_6 y3_7 y3_8 rfl rfl rfl rfl rfl rfl rfl rfl ?_; try clear bq9))
  k_with "b3.12" => (with_reducible (rename BAR _ => bq9; refine letI kk := _; haveI bq8 := @barS kk bq9; letI Wq := mkW12 (k := kk) (n := by k_extra "ne"); letI y3_1 := _; letI y3_2 := _; letI y3_3 := _; letI y3_4 := _; letI y3_5 := _; letI y3_6 := _; letI y3_7 := _; letI y3_8 := _; letI y3_9 := _; letI y3_10 := _; letI y3_11 := _; letI y3_12 := _; goW12 Wq rfl y3_1 y3_2 y3_3 y3_4 y3_5 y3_6 y3_7 y3_8 y3_9 y3_10 y3_11 y3_12 rfl rfl rfl rfl rfl rfl rfl rfl rfl rfl rfl rfl ?_; try clear bq9))
  k_with "b4.1" => (with_reducible (rename BAR _ => bq9; refine letI kk := _; haveI bq8 := @barS kk bq9; letI y4_1 := _; goW1 (k := kk) (n := by k_extra "ne") y4_1 rfl ?_; try clear bq9))
  k_with "b4.2" => (with_reducible (rename BAR _ => bq9; refine letI kk := _; haveI bq8 := @barS kk bq9; letI Wq := mkW2 (k := kk) (n := by k_extra "ne"); letI y4_1 := _; letI y4_2 := _; goW2 Wq rfl y4_1 y4_2 rfl rfl ?_; try clear bq9))
  k_with "b4.12" => (with_reducible (rename BAR _ => bq9; refine letI kk := _; haveI bq8 := @barS kk bq9; letI Wq := mkW12 (k := kk) (n := by k_extra "ne"); letI y4_1 := _; letI y4_2 := _; letI y4_3 := _; letI y4_4 := _; letI y4_5 := _; letI y4_6 := _; letI y4_7 := _; letI y4_8 := _; letI y4_9 := _; letI y4_10 := _; letI y4_11 := _; letI y4_12 := _; goW12 Wq rfl y4_1 y4_2 y4_3 y4_4 y4_5 y4_6 y4_7 y4_8 y4_9 y4_10 y4_11 y4_12 rfl rfl rfl rfl rfl rfl rfl rfl rfl rfl rfl rfl ?_; try clear bq9))
  k_with "b5.12" => (with_reducible (rename BAR _ => bq9; refine letI kk := _; haveI bq8 := @barS kk bq9; letI Wq := mkW12 (k := kk) (n := by k_extra "ne"); letI y5_1 := _; letI y5_2 := _; letI y5_3 := _; letI y5_4 := _; letI y5_5 := _; letI y5_6 := _; letI y5_7 := _; letI y5_8 := _; letI y5_9 := _; letI y5_10 := _; letI y5_11 := _; letI y5_12 := _; goW12 Wq rfl y5_1 y5_2 y5_3 y5_4 y5_5 y5_6 y5_7 y5_8 y5_9 y5_10 y5_11 y5_12 rfl rfl rfl rfl rfl rfl rfl rfl rfl rfl rfl rfl ?_; try clear bq9))
  k_with "b6.6" => (with_reducible (rename BAR _ => bq9; refine letI kk := _; haveI bq8 := @barS kk bq9; letI Wq := mkW6 (k := kk) (n := by k_extra "ne"); letI y6_1 := _; letI y6_2 := _; letI y6_3 := _; letI y6_4 := _; letI y6_5 := _; letI y6_6 := _; goW6 Wq rfl y6_1 y6_2 y6_3 y6_4 y6_5 y6_6 rfl rfl rfl rfl rfl rfl ?_; try clear bq9))
  k_with "b7.1" => (with_reducible (rename BAR _ => bq9; refine letI kk := _; haveI bq8 := @barS kk bq9; letI y7_1 := _; goW1 (k := kk) (n := by k_extra "ne") y7_1 rfl ?_; try clear bq9))
  k_with "hd" => (with_reducible (rename BAR _ => bq9; refine letI kk := _; haveI bq8 := @barS kk bq9; letI Wq := mkW22 (k := kk) (n := by k_extra "ne"); letI p := _; letI loose := _; letI mean := _; letI mg := _; letI mb := _; letI dp := _; letI un := _; letI gd := _; letI cn := _; letI cs := _; letI a := _; letI ccd := _; letI cl := _; letI outer := _; letI A₀ := _; letI base := _; letI h₀ := _; letI L := _; letI mm := _; letI s := _; letI Q := _; letI E := _; goW22 Wq rfl p loose mean mg mb dp un gd cn cs a ccd cl outer A₀ base h₀ L mm s Q E rfl rfl rfl rfl rfl rfl rfl rfl rfl rfl rfl rfl rfl rfl rfl rfl rfl rfl rfl rfl rfl rfl ?_; try clear bq9))
  k_with "hdw" => (with_reducible (rename BAR _ => bq9; refine letI kk := _; haveI bq8 := @barS kk bq9; letI Wq := mkW23 (k := kk) (n := by k_extra "ne"); letI w := _; letI p := _; letI loose := _; letI mean := _; letI mg := _; letI mb := _; letI dp := _; letI un := _; letI gd := _; letI cn := _; letI cs := _; letI a := _; letI ccd := _; letI cl := _; letI outer := _; letI A₀ := _; letI base := _; letI h₀ := _; letI L := _; letI mm := _; letI s := _; letI Q := _; letI E := _; goW23 Wq rfl w p loose mean mg mb dp un gd cn cs a ccd cl outer A₀ base h₀ L mm s Q E rfl rfl rfl rfl rfl rfl rfl rfl rfl rfl rfl rfl rfl rfl rfl rfl rfl rfl rfl rfl rfl rfl rfl ?_; try clear bq9))
  k_with "hw" => (k_extra "hdw"; intro B F X N T hk hd hu hret; (with_reducible k_extra "bar"); refine wpAny_call ?_; k_extra "en")
  k_with "hv" => (k_extra "hd"; intro B F X N T hk hd hu hret; (with_reducible k_extra "bar"); refine wpAny_call ?_; k_extra "en")
  k_with "h0" => refine haveI b8 : BAR 0 := bar0; ?_
  k_with "!subscriptTail Name" => (k_here; (with_reducible show wpAny _ _ (subscriptTail _ _ (Value.ref _) (Value.int _ _)) _ _ _); k_dflt (refine' item_tupleT ?z68t ?z68a ?z68b ?z68c ?z68d ?_; (case z68t => refine' TupIs.tup ?z68tF ?z68tX ?z68tN ?z68tp; (case z68tF => k_asm); (case z68tX => k_asm); (case z68tN => k_asm); (case z68tp => first | assumption | (refine' TupIs.cons ?q774; (case q774 => assumption)) | (refine' TupIs.app ?q775; (case q775 => assumption)) | (refine' TupIs.cons (TupIs.cons ?q776); (case q776 => assumption)))); (case z68a => decide); (case z68b => decide); (case z68c => rfl); (case z68d => rfl); k_whole))
  k_with "!assign Tuple" => (k_here; (with_reducible show wpAny _ _ (assign (Expr.Tuple _ _ _) _ (Value.ref _)) _ _ _); k_dflt (refine' unpackN_ ?z69k1 ?z69k2 ?z69k3 ?z69k4 ?z69k5 ?z69k6 ?_; (case z69k1 => k_asm); (case z69k2 => k_asm); (case z69k3 => refine' TupIs.tup ?z69tF ?z69tX ?z69tN ?z69tp; (case z69tF => k_asm); (case z69tX => k_asm); (case z69tN => k_asm); (case z69tp => first | assumption | (refine' TupIs.cons ?q777; (case q777 => assumption)) | (refine' TupIs.app ?q778; (case q778 => assumption)))); (case z69k4 => exact rfl); (case z69k5 => exact rfl); (case z69k6 => exact rfl); k_whole); intro h' F' N'; (try k_sweep))
  k_with "!binaryOp Pow int int" => (k_here; (with_reducible refine pow_int_small ?z70kb1 ?z70kb2 ?z70kb3 ?_); (case z70kb1 => first | omega | (split <;> omega)); (case z70kb2 => first | omega | (split <;> omega)); (case z70kb3 => decide))
  k_with "!binaryOp Mult int int" => (k_here; (with_reducible refine PyProof.Rows.mul_int ?_ ?z71kb1); (case z71kb1 => first | (refine' IntMulOk.of_left (intBits_le_64 ?q779 ?q780); (case q779 => first | omega | (split <;> omega)); (case q780 => first | omega | (split <;> omega))) | (refine' IntMulOk.of_right (intBits_le_64 ?q781 ?q782); (case q781 => first | omega | (split <;> omega)); (case q782 => first | omega | (split <;> omega)))))
  k_with "!call ref" => ((with_reducible show wpAny _ _ (call (Value.ref _) _) _ _ _); k_here; k_dflt (refine' specP_use ?z72kC ?z72k1 ?z72k2 ?z72k3 ?z72k4 ?z72k5 ?z72kK ?z72kd ?z72ku ?_; (case z72k4 => k_asm); (case z72kC => k_extra "specP"); (case z72k1 => k_asm); (case z72k2 => k_asm); (case z72k3 => k_asm); (case z72k5 => k_asm); (case z72kK => first | exact rfl | assumption); (case z72kd => ktr_room); (case z72ku => ktr_units)); intro v9 tl9 h9 tk9 F9 N9 l9 hp9; (first | (obtain ⟨a9, u9, z9, e9, hp9⟩ := hp9; subst e9) | k_extra "openP"); (try k_sweep); (try k_fold))
  k_with "!call ref" => ((with_reducible show wpAny _ _ (call (Value.ref _) _) _ _ _); k_here; k_dflt (refine' specV_use ?z73kC ?z73k1 ?z73k2 ?z73k3 ?z73k4 ?z73k5 ?z73kK ?z73kd ?z73ku ?_; (case z73k4 => k_asm); (case z73kC => k_extra "specV"); (case z73k1 => k_asm); (case z73k2 => k_asm); (case z73k3 => k_asm); (case z73k5 => k_asm); (case z73kK => first | exact rfl | assumption); (case z73kd => ktr_room); (case z73ku => ktr_units)); intro v9 h9 tk9 F9 N9 hp9; (first | (refine Exists.elim hp9 ?_; clear hp9; intro t9 e9; subst e9) | subst hp9); (try k_sweep); (try k_fold))
  k_with "!call builtin:divmod" => (k_here; (with_reducible show wpAny _ _ (call (Value.builtin _) [Value.int _ _, Value.int _ _]) _ _ _); k_dflt (refine' divmod_K ?z74k1 ?z74k2 ?z74k3 ?z74k4 ?_; (case z74k1 => k_asm); (case z74k2 => k_asm); (case z74k3 => first | omega | k_extra "nonzero"); (case z74k4 => first | (refine' Or.inl (PyProof.noPylong_small ?q783); (case q783 => omega)) | (refine' Or.inr (PySem.PylongRoom.of (PySem.Heap.NoLimit.keeps (PyProof.Rows.Top.nolimit ?q784) (PyProof.Rows.Fr.keep ?q785)) (of_decide_eq_true ?q786)); (case q784 => assumption); (case q785 => assumption); (case q786 => with_unfolding_all rfl)) | k_extra "room"); k_whole); intro d' h' F' N' l1; (try k_sweep))
  k_with "m:k_mem" => (refine List.mem_append_right _ ?_; k_mem)
  k_with "!callWith ref" => (k_here; k_dflt (refine' callWith_K ?z75k1 ?z75k2 ?_; (case z75k1 => k_asm); (case z75k2 => with_reducible assumption); k_whole))
  k_with "!call ref" => ((with_reducible show wpAny _ _ (call (Value.ref _) _) _ _ _); k_here; k_dflt (refine' specT_use ?z76kC ?z76k1 ?z76k2 ?z76k3 ?z76k4 ?z76k5 ?z76kK ?z76kd ?z76ku ?_; (case z76k4 => k_asm); (case z76kC => k_extra "specT"); (case z76k1 => k_asm); (case z76k2 => k_asm); (case z76k3 => k_asm); (case z76k5 => k_asm); (case z76kK => first | exact rfl | assumption); (case z76kd => ktr_room); (case z76ku => ktr_units)); intro v9 n9 h9 tk9 F9 N9; (first | k_extra "openT" | intro hp9); (try k_sweep); (try k_fold))
  k_with "m:k_all" => assumption
  k_with "!setItem ref int" => (k_here; (with_reducible show wpAny _ _ (setItem (Value.ref _) (Value.int _ _) _) _ _ _); k_dflt (refine' setL_K ?z77F ?z77N ?z77U ?z77a ?z77b ?z77c ?_; (case z77F => k_asm); (case z77N => k_asm); (case z77U => k_upd); (case z77a => omega); (case z77b => (try simp only [List.length_set]); omega); (case z77c => omega); k_whole); intro h' F' N'; (try k_sweep))
  k_with "!eval Name" => (k_here; (with_reducible show wpAny _ _ (eval (Expr.Name _ _) (compEnvC _ _ _ _)) _ _ _); k_dflt (refine' LCgL.ld_global ?z78z1 ?z78z2 ?z78z3 ?z78z4 ?_ ?z78z6 ?z78z7 ?z78z8 ?z78z9; (case z78z6 => rfl); (case z78z7 => rfl); (case z78z8 => rfl); (case z78z9 => decide); (case z78z1 => k_asm); (case z78z2 => k_asm); (case z78z3 => k_asm); (case z78z4 => k_is)))
  k_with "!call ref" => ((with_reducible show wpAny _ _ (call (Value.ref 830) _) _ _ _); k_here; k_dflt (refine' specH_use ?z79kC ?z79k1 ?z79k2 ?z79k3 ?z79k4 ?z79k5 ?z79kK ?z79kd ?z79ku ?z79kH ?_; (case z79k4 => k_asm); (case z79kC => k_extra "specH"); (case z79k1 => k_asm); (case z79k2 => k_asm); (case z79k3 => k_asm); (case z79k5 => k_asm); (case z79kK => first | exact rfl | assumption); (case z79kd => ktr_room); (case z79ku => ktr_units); (case z79kH => assumption)); intro v9 h9 tk9 F9 N9 hp9; (obtain ⟨t9, e9⟩ := hp9; subst e9); (try k_sweep); (try k_fold))
  k_with "!assign Tuple" => (k_here; k_extra "unpackW")
  k_with "!exec Assign cons ListComp" => (k_here; k_dflt (refine' Assign_ListComp_N ?z80z1 ?z80z2 ?z80z3 ?z80z4 ?z80z5 ?z80z6 ?z80z7 ?z80z8 ?z80z9 ?z80y1 ?_; (case z80z1 => k_asm); (case z80z2 => exact rfl); (case z80z3 => with_unfolding_all rfl); (case z80z4 => with_unfolding_all rfl); (case z80z5 => decide); (case z80z6 => exact rfl); (case z80z7 => decide); (case z80z8 => exact rfl); (case z80z9 => exact rfl); (case z80y1 => exact rfl); k_whole))
  k_with "!SrcN" => (k_here; k_dflt (refine' SrcN.ask ?z81z9 ?z81z1 ?z81z2 ?z81z3 ?z81z4 ?z81z5 ?z81z6 ?z81z7 ?z81z8; (case z81z9 => assumption); (case z81z1 => rfl); (case z81z2 => k_asm); (case z81z3 => k_asm); (case z81z4 => k_mem); (case z81z6 => exact .cons _ _ (.cons _ _ .nil)); (case z81z5 => exact Nat.le_of_ble_eq_true rfl); (case' z81z8 => (intro hp9 ys9 hI9; k_extra "unpackE")); (case' z81z7 => (intro g0 k0 t0 I0 oI0 C0 oC0 D0 m0 ys0 h0 tk0 E0 hk0 hC0 hx0 F0 N0 off0 ne0; (simp only [List.mem_cons, List.not_mem_nil, or_false] at hk0)))))
  k_with "!eval ListComp" => (k_here; (with_reducible show wpAny _ _ (eval (Expr.ListComp _ [⟨Expr.Tuple _ _ _, _, [], 0⟩] _ _) _) _ _ _); k_dflt (refine' LCp.ListComp_P ?z82z1 ?z82z2 ?z82z3 ?z82z4 ?z82z5 ?z82z6 ?z82z7 ?z82z8 ?_; (case z82z1 => k_asm); (case z82z2 => with_unfolding_all rfl); (case z82z3 => decide); (case z82z4 => exact rfl); (case z82z5 => decide); (case z82z6 => exact rfl); (case z82z7 => exact rfl); (case z82z8 => decide); k_whole))
  k_with "!SrcLP" => (k_here; k_dflt (k_extra "rowsW"))
  k_with "!CompEnd" => (k_here; k_dflt (first | (refine' compEnd_ask ?z83F ?z83N ?z83o ?z83l; (case z83F => k_asm); (case z83N => k_asm); (case z83o => assumption); (case z83l => k_mem)) | (refine' compEnd_row ?z83F ?z83N ?z83l ?z83o ⟨_, _, rfl, rfl⟩; (case z83F => k_asm); (case z83N => k_asm); (case z83l => assumption); (case z83o => assumption))))
  k_with "m:k_mem" => with_reducible first | assumption | ((repeat (first | (exact List.mem_cons_self) | (refine List.mem_cons_of_mem _ ?_) | (refine List.mem_append_right _ ?_))); first | done | assumption)
  k_with "m:k_upd" => (refine' Upd.head ?z84a; (case z84a => assumption))
  k_with "m:k_updF" => (refine' UpdF.head ?z85a; (case z85a => first | with_reducible assumption | (refine' head_ne2 ?q787; (case q787 => assumption)) | (refine' head_ne ?q788; (case q788 => assumption))))
  k_with "!getMethod ref" => (k_here; k_extra "getM")
  k_with "!call builtin:dict.update" => (k_here; k_extra "callU")
  k_with "!eval Dict" => (k_here; k_extra "dictW")
  k_with "!setAttr ref" => (k_here; (with_reducible show wpAny _ _ (setAttr (Value.ref _) (Str.ofString "operations") _) _ _ _); k_extra "setA")
  k_with "!setItem ref str" => (k_here; k_extra "setI")
  k_with "!pyIter ref" => (k_here; (with_reducible show wpAny _ _ (pyIter (Value.ref _)) (fun it s₂ => LoopAtV _ _ _ _ _ _ _ _ _ it s₂) _ _); k_extra "pyI")
  k_with "!UnrEnd" => (k_dflt (refine' unrEnd_pick ?z86F ?z86N ?z86P ?_; (case z86F => k_asm); (case z86N => k_asm); (case z86P => (refine' Pick.head ?z86a; (case z86a => assumption))); k_whole))
  k_with "!subscriptTail Name" => (k_here; (with_reducible show wpAny _ _ (subscriptTail _ _ (Value.ref _) (Value.int _ _)) _ _ _); k_extra "subL")
  k_with "!call ref" => ((with_reducible show wpAny _ _ (call (Value.ref 321) _) _ _ _); k_here; k_dflt (refine' specPW_use ?z87kC ?z87k1 ?z87k2 ?z87k3 ?z87k4 ?z87k5 ?z87kK ?z87kd ?z87ku ?_; (case z87k4 => k_asm); (case z87kC => k_extra "specPW"); (case z87k1 => k_asm); (case z87k2 => k_asm); (case z87k3 => k_asm); (case z87k5 => k_asm); (case z87kK => first | exact rfl | assumption); (case z87kd => ktr_room); (case z87ku => ktr_units)); intro v9 tl9 h9 tk9 F9 N9 l9 hp9; k_dflt (obtain ⟨a9, u9, z9, e9, hp9⟩ := hp9; subst e9); (try k_sweep); (try k_fold))
  k_with "!compareOp NotEq ref ref" => (k_here; (with_reducible show wpAny _ _ (compareOp CmpOp.NotEq (Value.ref _) (Value.ref _)) _ _ _); k_extra "cmpN")
  k_with "!compareOp Eq ref ref" => (k_here; (with_reducible show wpAny _ _ (compareOp CmpOp.Eq (Value.ref _) (Value.ref _)) _ _ _); k_extra "cmpE")
  k_with "!subscriptTail Name" => (k_here; (with_reducible show wpAny _ _ (subscriptTail _ _ (Value.ref _) (Value.str _ _)) _ _ _); k_extra "subS")
  k_with "!binaryOp Pow int int" => (k_here; (with_reducible show wpAny _ _ (binaryOp Operator.Pow (Value.int _ _) (Value.int _ _)) _ _ _); k_extra "powI")
  k_with "!subscriptTail Subscript" => (k_here; k_dflt (refine kba_turn (value' := PySem.Expr.Name (PySem.Str.ofString "_") ⟨0, 0, 0, 0⟩) (fun _ => rfl) ?_))
  k_with "!subscriptTail Attribute" => (k_here; k_dflt (refine kba_turn (value' := PySem.Expr.Name (PySem.Str.ofString "_") ⟨0, 0, 0, 0⟩) (fun _ => rfl) ?_))
  k_with "!call ref" => (k_here; k_extra "callW")
  k_with "!callWith ref" => (k_here; k_dflt (first | (refine' callWith_K ?k3 ?k4 ?_; (case k3 => k_asm); (case k4 => first | with_reducible assumption | k_is)) | (refine' callWith_K0 ?k1 ?k2 ?_; (case k1 => k_in); (case k2 => k_is))); k_whole)
  k_with "!subscriptTail Name Name ref int" => (k_here; (with_reducible show wpAny _ _ (subscriptTail _ _ (Value.ref _) (Value.int _ _)) _ _ _); k_extra "subL")
  k_with "!subscriptTail Name Constant ref int" => (k_here; (with_reducible show wpAny _ _ (subscriptTail _ _ (Value.ref _) (Value.int _ _)) _ _ _); k_extra "subT")
  k_with "!exec Assign cons ListComp" => (k_here; first | ((with_reducible show wpAny _ _ (exec (Stmt.Assign [Expr.Tuple _ _ _] _ _) _) _ _ _); k_dflt (refine Assign_Tuple ?_)) | (with_reducible refine plainObj_wpAny_Assign_Attribute ?_ ?_; rotate_left; with_unfolding_all rfl))
  k_with "oc" => (k_whole; (repeat (with_reducible rename (@LT.lt Nat _ _ _) => zd; clear zd)); (repeat (with_reducible rename (_ ∧ _) => zd; clear zd)); (repeat (with_reducible rename (¬ _) => zd; clear zd)); omega (config := {}))
  k_with "m:k_qdec" => first | exact names_ok | exact imp_none
  trivial
theorem law_holds : PySem.Challenge.rw_sz0042_01.Holds := by
  refine @dq _ (by
  refine holds_law said_law fun said => ?_
  refine holds_open (r := PySem.Challenge.rw_sz0042_01.row) (q := qv) (loose := looseL) (Xt := XtL) (XP := XL qv []) (Yf := HK.obs) (Ya := HK.val) (YP := HK.says) (N := 12000) left_all (Hook.of HK) (Hook.keeps HK) (fun s e => xl_of s (Bool.and_eq_true_iff.mp e).1) XL.keeps (by rfl) (by rfl) (by rfl) (fun s e => recFacts_of (Bool.and_eq_true_iff.mp e).2) (by rfl) said chains_ok bare_ok promised_ok ?hc
  k_extra "h0"
  k_fill
  intro w s₀ s₁ mg mb G Y fa o pm cd doc dV kV ho hd hcd hD hmg hg args vals as hpre hlay hrd hwl hlo
  have KX : (KK w.params).In s₁.heap := kIn_of Y
  k_behind G ho hd hcd hD hmg hpre hlay hrd hwl hlo cd
  rename Top _ _ _ _ _ _ => T1
  obtain ⟨p1, lo1, me1, T2⟩ : ∃ p1 lo1 me1, Top p1 lo1 me1 mg mb s₁.heap := ⟨_, _, _, T1⟩
  revert KX
  k_fill
  intro KX
  k_with "callW" => ((with_reducible show wpAny _ _ (call (Value.ref 818) _) _ _ _); k_dflt (refine' specT_use ?kC ?k1 ?k2 ?k3 ?k4 ?k5 ?kK ?kd ?ku ?_; (case k4 => k_asm); (case kC => exact c_mkunit _ _ _ _); (case k1 => k_asm); (case k2 => k_asm); (case k3 => k_asm); (case k5 => k_asm); (case kK => first | exact rfl | assumption); (case kd => ktr_room); (case ku => ktr_units)); intro v9 n9 h9 tk9 F9 N9; ((refine im12 ?_; intro un ud uk0 uk1 uk2 uk3 uk4 uk5 uk6 uk7 uk8 uk9; refine im12 ?_; intro uk10 uk11 uk12 uk13 uu2 uu3 uu4 uu6 uu7 uu8 uu9 uu10; refine im4 ?_; intro uu11 uu12 uu13 usl; rintro ⟨rfl, rfl, hz8⟩; revert hz8; refine ia2 ?_; intro lud lun; k_extra "nc1"; with_reducible revert un ud uk0 uk1 uk2 uk3 uk4 uk5 uk6 uk7 uk8 uk9 uk10 uk11 uk12 uk13 uu2 uu3 uu4 uu6 uu7 uu8 uu9 uu10 uu11 uu12 uu13 usl; k_extra "nc2"; with_reducible (rename BAR _ => bq9; refine letI kk := _; haveI bq8 := @barS kk bq9; letI Wq := mkW12 (k := kk) (n := by k_extra "ne"); letI un := _; letI ud := _; letI uk0 := _; letI uk1 := _; letI uk2 := _; letI uk3 := _; letI uk4 := _; letI uk5 := _; letI uk6 := _; letI uk7 := _; letI uk8 := _; letI uk9 := _; goW12 Wq rfl un ud uk0 uk1 uk2 uk3 uk4 uk5 uk6 uk7 uk8 uk9 rfl rfl rfl rfl rfl rfl rfl rfl rfl rfl rfl rfl ?_; try clear bq9); with_reducible (rename BAR _ => bq9; refine letI kk := _; haveI bq8 := @barS kk bq9; letI Wq := mkW12 (k := kk) (n := by k_extra "ne"); letI uk10 := _; letI uk11 := _; letI uk12 := _; letI uk13 := _; letI uu2 := _; letI uu3 := _; letI uu4 := _; letI uu6 := _; letI uu7 := _; letI uu8 := _; letI uu9 := _; letI uu10 := _; goW12 Wq rfl uk10 uk11 uk12 uk13 uu2 uu3 uu4 uu6 uu7 uu8 uu9 uu10 rfl rfl rfl rfl rfl rfl rfl rfl rfl rfl rfl rfl ?_; try clear bq9); with_reducible (rename BAR _ => bq9; refine letI kk := _; haveI bq8 := @barS kk bq9; letI Wq := mkW4 (k := kk) (n := by k_extra "ne"); letI uu11 := _; letI uu12 := _; letI uu13 := _; letI usl := _; goW4 Wq rfl uu11 uu12 uu13 usl rfl rfl rfl rfl ?_; try clear bq9); k_extra "nc3")); (try k_sweep); (try k_fold))
  k_with "callW" => ((with_reducible show wpAny _ _ (call (Value.ref 870) _) _ _ _); k_dflt (refine' specT_use ?kC ?k1 ?k2 ?k3 ?k4 ?k5 ?kK ?kd ?ku ?_; (case k4 => k_asm); (case kC => exact c_lrule _ _); (case k1 => k_asm); (case k2 => k_asm); (case k3 => k_asm); (case k5 => k_asm); (case kK => first | exact rfl | assumption); (case kd => ktr_room); (case ku => ktr_units)); intro v9 n9 h9 tk9 F9 N9; ((refine im4 ?_; intro rls rk rr rs; rintro ⟨rfl, hz8⟩; revert hz8; refine ia3 ?_; intro hls hkR hRR; change Rows15 _ _ _ at hRR; k_extra "nc1"; with_reducible revert rls rk rr rs; k_extra "nc2"; with_reducible (rename BAR _ => bq9; refine letI kk := _; haveI bq8 := @barS kk bq9; letI Wq := mkW4 (k := kk) (n := by k_extra "ne"); letI rls := _; letI rk := _; letI rr := _; letI rs := _; goW4 Wq rfl rls rk rr rs rfl rfl rfl rfl ?_; try clear bq9); k_extra "nc3")); (try k_sweep); (try k_fold))
  k_with "callW" => ((with_reducible show wpAny _ _ (call (Value.ref 779) _) _ _ _); k_dflt (refine' specT_use ?kC ?k1 ?k2 ?k3 ?k4 ?k5 ?kK ?kd ?ku ?_; (case k4 => k_asm); (case kC => exact c_cs _ _); (case k1 => k_asm); (case k2 => k_asm); (case k3 => k_asm); (case k5 => k_asm); (case kK => first | exact rfl | assumption); (case kd => ktr_room); (case ku => ktr_units)); intro v9 n9 h9 tk9 F9 N9; ((refine im3 ?_; intro csD csO csV; rintro ⟨rfl, rfl, hz8⟩; revert hz8; refine ia7 ?_; intro lcs scs dcs zcs vcs1 vcs2 vcs3; k_extra "nc1"; with_reducible revert csD csO csV; k_extra "nc2"; with_reducible (rename BAR _ => bq9; refine letI kk := _; haveI bq8 := @barS kk bq9; letI Wq := mkW3 (k := kk) (n := by k_extra "ne"); letI csD := _; letI csO := _; letI csV := _; goW3 Wq rfl csD csO csV rfl rfl rfl ?_; try clear bq9); k_extra "nc3")); (try k_sweep); (try k_fold))
  k_with "callW" => ((with_reducible show wpAny _ _ (call (Value.ref 681) _) _ _ _); k_dflt (refine' specT_use ?kC ?k1 ?k2 ?k3 ?k4 ?k5 ?kK ?kd ?ku ?_; (case k4 => k_asm); (case kC => exact c_as _ _); (case k1 => k_asm); (case k2 => k_asm); (case k3 => k_asm); (case k5 => k_asm); (case kK => first | exact rfl | assumption); (case kd => ktr_room); (case ku => ktr_units)); intro v9 n9 h9 tk9 F9 N9; ((refine im4 ?_; intro asD asO ast1 ast2; rintro ⟨rfl, rfl, hz8⟩; revert hz8; refine ia3 ?_; intro las sas das; k_extra "nc1"; with_reducible revert asD asO ast1 ast2; k_extra "nc2"; with_reducible (rename BAR _ => bq9; refine letI kk := _; haveI bq8 := @barS kk bq9; letI Wq := mkW4 (k := kk) (n := by k_extra "ne"); letI asD := _; letI asO := _; letI ast1 := _; letI ast2 := _; goW4 Wq rfl asD asO ast1 ast2 rfl rfl rfl rfl ?_; try clear bq9); k_extra "nc3")); (try k_sweep); (try k_fold))
  k_with "callW" => ((with_reducible show wpAny _ _ (call (Value.ref 141) _) _ _ _); k_dflt (refine' specT_use ?kC ?k1 ?k2 ?k3 ?k4 ?k5 ?kK ?kd ?ku ?_; (case k4 => k_asm); (case kC => exact c_mkmem _ _ _ _); (case k1 => k_asm); (case k2 => k_asm); (case k3 => k_asm); (case k5 => k_asm); (case kK => first | exact rfl | assumption); (case kd => ktr_room); (case ku => ktr_units)); intro v9 n9 h9 tk9 F9 N9; ((refine im6 ?_; intro mme mmd mce mq1 mq2 mch; rintro ⟨rfl, rfl, hz8⟩; revert hz8; refine ia3 ?_; intro lmd lme lce; k_extra "nc1"; with_reducible revert mme mmd mce mq1 mq2 mch; k_extra "nc2"; with_reducible (rename BAR _ => bq9; refine letI kk := _; haveI bq8 := @barS kk bq9; letI Wq := mkW6 (k := kk) (n := by k_extra "ne"); letI mme := _; letI mmd := _; letI mce := _; letI mq1 := _; letI mq2 := _; letI mch := _; goW6 Wq rfl mme mmd mce mq1 mq2 mch rfl rfl rfl rfl rfl rfl ?_; try clear bq9); k_extra "nc3")); (try k_sweep); (try k_fold))
  k_with "callW" => ((with_reducible show wpAny _ _ (call (Value.ref 797) _) _ _ _); k_dflt (refine' specT_use ?kC ?k1 ?k2 ?k3 ?k4 ?k5 ?kK ?kd ?ku ?_; (case k4 => k_asm); (case kC => exact c_mklim _ _); (case k1 => k_asm); (case k2 => k_asm); (case k3 => k_asm); (case k5 => k_asm); (case kK => first | exact rfl | assumption); (case kd => ktr_room); (case ku => ktr_units)); intro v9 n9 h9 tk9 F9 N9; ((refine im8 ?_; intro lla lld lk1 lk2 lk3 lk4 lk5 lk6; refine im2 ?_; intro lk7 lk8; rintro ⟨rfl, rfl, hz8⟩; revert hz8; refine ia2 ?_; intro lld1 lla1; k_extra "nc1"; with_reducible revert lla lld lk1 lk2 lk3 lk4 lk5 lk6 lk7 lk8; k_extra "nc2"; with_reducible (rename BAR _ => bq9; refine letI kk := _; haveI bq8 := @barS kk bq9; letI Wq := mkW8 (k := kk) (n := by k_extra "ne"); letI lla := _; letI lld := _; letI lk1 := _; letI lk2 := _; letI lk3 := _; letI lk4 := _; letI lk5 := _; letI lk6 := _; goW8 Wq rfl lla lld lk1 lk2 lk3 lk4 lk5 lk6 rfl rfl rfl rfl rfl rfl rfl rfl ?_; try clear bq9); with_reducible (rename BAR _ => bq9; refine letI kk := _; haveI bq8 := @barS kk bq9; letI Wq := mkW2 (k := kk) (n := by k_extra "ne"); letI lk7 := _; letI lk8 := _; goW2 Wq rfl lk7 lk8 rfl rfl ?_; try clear bq9); k_extra "nc3")); (try k_sweep); (try k_fold))
  k_with "callW" => ((with_reducible show wpAny _ _ (call (Value.ref 450) _) _ _ _); k_dflt (refine' specT_use ?kC ?k1 ?k2 ?k3 ?k4 ?k5 ?kK ?kd ?ku ?_; (case k4 => k_asm); (case kC => exact c_mkrun _ _ _ _ _ _ _ _); (case k1 => k_asm); (case k2 => k_asm); (case k3 => k_asm); (case k5 => k_asm); (case kK => first | exact rfl | assumption); (case kd => ktr_room); (case ku => ktr_units)); intro v9 n9 h9 tk9 F9 N9; ((refine im12 ?_; intro rru rrd rfr rfl9 rlo rop rde rpl rcs rac rli rts; refine im12 ?_; intro rfo rflo rloo rk0 rk1 rk2 rk3 rk4 rk5 rk6 rk7 rk8; refine im6 ?_; intro rk9 rk10 rk11 rk12 rk13 rk14; rintro ⟨rk15, hz8⟩; revert hz8; rintro ⟨rfl, rfl, hz8⟩; revert hz8; refine ia10 ?_; intro lrd lru lfr lfl llo sfr sfl slo dfo; refine ia3 ?_; intro dfl dlo clo; k_extra "nc1"; with_reducible revert rru rrd rfr rfl9 rlo rop rde rpl rcs rac rli rts rfo rflo rloo rk0 rk1 rk2 rk3 rk4 rk5 rk6 rk7 rk8 rk9 rk10 rk11 rk12 rk13 rk14 rk15; k_extra "nc2"; with_reducible (rename BAR _ => bq9; refine letI kk := _; haveI bq8 := @barS kk bq9; letI Wq := mkW12 (k := kk) (n := by k_extra "ne"); letI rru := _; letI rrd := _; letI rfr := _; letI rfl9 := _; letI rlo := _; letI rop := _; letI rde := _; letI rpl := _; letI rcs := _; letI rac := _; letI rli := _; letI rts := _; goW12 Wq rfl rru rrd rfr rfl9 rlo rop rde rpl rcs rac rli rts rfl rfl rfl rfl rfl rfl rfl rfl rfl rfl rfl rfl ?_; try clear bq9); with_reducible (rename BAR _ => bq9; refine letI kk := _; haveI bq8 := @barS kk bq9; letI Wq := mkW12 (k := kk) (n := by k_extra "ne"); letI rfo := _; letI rflo := _; letI rloo := _; letI rk0 := _; letI rk1 := _; letI rk2 := _; letI rk3 := _; letI rk4 := _; letI rk5 := _; letI rk6 := _; letI rk7 := _; letI rk8 := _; goW12 Wq rfl rfo rflo rloo rk0 rk1 rk2 rk3 rk4 rk5 rk6 rk7 rk8 rfl rfl rfl rfl rfl rfl rfl rfl rfl rfl rfl rfl ?_; try clear bq9); with_reducible (rename BAR _ => bq9; refine letI kk := _; haveI bq8 := @barS kk bq9; letI Wq := mkW6 (k := kk) (n := by k_extra "ne"); letI rk9 := _; letI rk10 := _; letI rk11 := _; letI rk12 := _; letI rk13 := _; letI rk14 := _; goW6 Wq rfl rk9 rk10 rk11 rk12 rk13 rk14 rfl rfl rfl rfl rfl rfl ?_; try clear bq9); with_reducible (rename BAR _ => bq9; refine letI kk := _; haveI bq8 := @barS kk bq9; letI rk15 := _; goW1 (k := kk) (n := by k_extra "ne") rk15 rfl ?_; try clear bq9); k_extra "nc3")); (try k_sweep); (try k_fold))
  k_with "callW" => ((with_reducible show wpAny _ _ (call (Value.ref 529) _) _ _ _); k_dflt (refine' specT_use ?kC ?k1 ?k2 ?k3 ?k4 ?k5 ?kK ?kd ?ku ?_; (case k4 => k_asm); (case kC => exact c_pe _ _); (case k1 => k_asm); (case k2 => k_asm); (case k3 => k_asm); (case k5 => k_asm); (case kK => first | exact rfl | assumption); (case kd => ktr_room); (case ku => ktr_units)); intro v9 n9 h9 tk9 F9 N9; ((refine im3 ?_; intro peD peO peV; rintro ⟨rfl, rfl, hz8⟩; revert hz8; refine ia10 ?_; intro lpe spe dpe zpe vpe1 vpe2 vpe3 vpe4 vpe5; refine ia2 ?_; intro vpe6 vpe7; k_extra "nc1"; with_reducible revert peD peO peV; k_extra "nc2"; with_reducible (rename BAR _ => bq9; refine letI kk := _; haveI bq8 := @barS kk bq9; letI Wq := mkW3 (k := kk) (n := by k_extra "ne"); letI peD := _; letI peO := _; letI peV := _; goW3 Wq rfl peD peO peV rfl rfl rfl ?_; try clear bq9); k_extra "nc3")); (try k_sweep); (try k_fold))
  k_with "callW" => ((with_reducible show wpAny _ _ (call (Value.ref 131) _) _ _ _); k_dflt (refine' specT_use ?kC ?k1 ?k2 ?k3 ?k4 ?k5 ?kK ?kd ?ku ?_; (case k4 => k_asm); (case kC => refine' (c_store (q := q9) _ _ _ _ _ _ _ _ _ _ _ _ _ _ _ _ _ _ _) ?z1 ?z2 ?z3 ?z4 ?z5 ?z6 ?z7 ?z8 ?z9 ?z0 ?y1; (case z6 => exact hM9); (case z1 => exact hneX); (case z2 => exact fun e => hneI _ (.head _) e.symm); (case z3 => exact fun p hp => hneI p (.tail _ hp)); (case z4 => (show Value.type _ ≠ _; decide)); (case z5 => exact rfl); (case z7 => k_mem); (case z8 => k_mem); (case z9 => assumption); (case z0 => (refine' ⟨_, _, _, rfl, ?q789⟩; (case q789 => assumption))); (case y1 => decide)); (case k1 => k_asm); (case k2 => k_asm); (case k3 => k_asm); (case k5 => k_asm); (case kK => first | exact rfl | assumption); (case kd => ktr_room); (case ku => ktr_units)); intro v9 n9 h9 tk9 F9 N9; (k_dflt (rintro ⟨rfl, c1, c2, t3, t4, vs8, rfl, hM8, hneX8, hneI8⟩; clear hM9 hneX hneI; (have hM9 := hM8); (have hneX := hneX8); (have hneI := hneI8); clear hM8 hneX8 hneI8)); (try k_sweep); (try k_fold))
  k_with "callW" => ((with_reducible show wpAny _ _ (call (Value.ref 632) _) _ _ _); k_dflt (refine' specT_use ?kC ?k1 ?k2 ?k3 ?k4 ?k5 ?kK ?kd ?ku ?_; (case k4 => k_asm); (case kC => refine' run_it (q := q9) (z := ⟨d9, e9, f9, g9, a9, b9⟩) ?z1 (ini_mk hPre hFrN hLaw ?z2 ?z3 ?z4 ?z5 ?z6 ?z7 ?z8 ?z9); (case z7 => exact List.mem_cons_self); (case z1 => exact in_ok hd9 he9 hf9 hg9 ha9 hb9); (case z2 => exact fun p hp => by (have hp2 := hSyX p hp; k_mem)); (case z3 => k_mem); (case z4 => k_mem); (case z5 => k_mem); (case z6 => k_mem); (case z8 => exact hM9.sub fun p hp => List.mem_cons_of_mem _ hp); (case z9 => exact at_mk)); (case k1 => k_asm); (case k2 => k_asm); (case k3 => k_asm); (case k5 => k_asm); (case kK => first | exact rfl | assumption); (case kd => ktr_room); (case ku => ktr_units)); intro v9 n9 h9 tk9 F9 N9; (k_dflt (rintro ⟨⟨t0, rfl⟩, (hFin : IFin _ _ _ _)⟩; (have hz8 := (fin_is _ _ _ _) hFin); clear hFin; revert hz8; refine im8 ?_; intro ns9 ts9 vs9 nn9 fo9 fv9 q19 q29; refine fun hz => Exists.elim hz ?_; clear hz; intro ch9; refine ia10 ?_; intro fru frd fme fmd fce fvl ffr fsy fdo; refine ia6 ?_; refine im8 ?_; intro pK kt6 kt7 kz1 kz2 kc1 kt8 kt9; refine ia4 ?_; intro kv kp kg kc; refine im12 ?_; intro pX xt6 xt7 xz1 xz2 xc1 xc2 xt8 xt9 xx xu1 xu2; refine ia7 ?_; intro xv xp xg1 xg2 xm1 xm2 xd; refine im12 ?_; intro pB bt6 bt7 bz1 bz2 bc1 bc2 bt8 bt9 bx bu1 bu2; refine ia7 ?_; intro bv bp bg1 bg2 bm1 bm2 bd; refine im12 ?_; intro pT tt6 tt7 tz1 tz2 tc1 tc2 tt8 tt9 tx tu1 tu2; refine ia7 ?_; intro tv tp9 tg1 tg2 tm1 tm2 td; refine im12 ?_; intro pR rt6 rt7 rz1 rz2 rc1 rc2 rt8 rt9 rx ru1 ru2; refine ia7 ?_; intro rv rp rg1 rg2 rm1 rm2 rd9; intro fxe; (have hends : (_, listOf ([Value.int a9 ta9, Value.int b9 tb9] : List Value).toArray 2) ∈ _ := hxT _ fxe); (have hexp := due_exp (in_ok hd9 he9 hf9 hg9 ha9 hb9)); (have hfst := due_fst (in_ok hd9 he9 hf9 hg9 ha9 hb9)); clear fxe hxT hPre hFrN hLaw hNoT hM9; k_extra "nc1"; with_reducible revert t0 ns9 ts9 vs9 nn9 fo9 fv9 q19 q29 ch9 pK kt6 kt7 kz1 kz2 kc1 kt8 kt9 pX xt6 xt7 xz1 xz2 xc1 xc2 xt8 xt9 xx xu1 xu2 pB bt6 bt7 bz1 bz2 bc1 bc2 bt8 bt9 bx bu1 bu2 pT tt6 tt7 tz1 tz2 tc1 tc2 tt8 tt9 tx tu1 tu2 pR rt6 rt7 rz1 rz2 rc1 rc2 rt8 rt9 rx ru1 ru2; k_extra "nc2"; with_reducible (rename BAR _ => bq9; refine letI kk := _; haveI bq8 := @barS kk bq9; letI Wq := mkW12 (k := kk) (n := by k_extra "ne"); letI t0 := _; letI ns9 := _; letI ts9 := _; letI vs9 := _; letI nn9 := _; letI fo9 := _; letI fv9 := _; letI q19 := _; letI q29 := _; letI ch9 := _; letI pK := _; letI kt6 := _; goW12 Wq rfl t0 ns9 ts9 vs9 nn9 fo9 fv9 q19 q29 ch9 pK kt6 rfl rfl rfl rfl rfl rfl rfl rfl rfl rfl rfl rfl ?_; try clear bq9); with_reducible (rename BAR _ => bq9; refine letI kk := _; haveI bq8 := @barS kk bq9; letI Wq := mkW12 (k := kk) (n := by k_extra "ne"); letI kt7 := _; letI kz1 := _; letI kz2 := _; letI kc1 := _; letI kt8 := _; letI kt9 := _; letI pX := _; letI xt6 := _; letI xt7 := _; letI xz1 := _; letI xz2 := _; letI xc1 := _; goW12 Wq rfl kt7 kz1 kz2 kc1 kt8 kt9 pX xt6 xt7 xz1 xz2 xc1 rfl rfl rfl rfl rfl rfl rfl rfl rfl rfl rfl rfl ?_; try clear bq9); with_reducible (rename BAR _ => bq9; refine letI kk := _; haveI bq8 := @barS kk bq9; letI Wq := mkW12 (k := kk) (n := by k_extra "ne"); letI xc2 := _; letI xt8 := _; letI xt9 := _; letI xx := _; letI xu1 := _; letI xu2 := _; letI pB := _; letI bt6 := _; letI bt7 := _; letI bz1 := _; letI bz2 := _; letI bc1 := _; goW12 Wq rfl xc2 xt8 xt9 xx xu1 xu2 pB bt6 bt7 bz1 bz2 bc1 rfl rfl rfl rfl rfl rfl rfl rfl rfl rfl rfl rfl ?_; try clear bq9); with_reducible (rename BAR _ => bq9; refine letI kk := _; haveI bq8 := @barS kk bq9; letI Wq := mkW12 (k := kk) (n := by k_extra "ne"); letI bc2 := _; letI bt8 := _; letI bt9 := _; letI bx := _; letI bu1 := _; letI bu2 := _; letI pT := _; letI tt6 := _; letI tt7 := _; letI tz1 := _; letI tz2 := _; letI tc1 := _; goW12 Wq rfl bc2 bt8 bt9 bx bu1 bu2 pT tt6 tt7 tz1 tz2 tc1 rfl rfl rfl rfl rfl rfl rfl rfl rfl rfl rfl rfl ?_; try clear bq9); with_reducible (rename BAR _ => bq9; refine letI kk := _; haveI bq8 := @barS kk bq9; letI Wq := mkW12 (k := kk) (n := by k_extra "ne"); letI tc2 := _; letI tt8 := _; letI tt9 := _; letI tx := _; letI tu1 := _; letI tu2 := _; letI pR := _; letI rt6 := _; letI rt7 := _; letI rz1 := _; letI rz2 := _; letI rc1 := _; goW12 Wq rfl tc2 tt8 tt9 tx tu1 tu2 pR rt6 rt7 rz1 rz2 rc1 rfl rfl rfl rfl rfl rfl rfl rfl rfl rfl rfl rfl ?_; try clear bq9); with_reducible (rename BAR _ => bq9; refine letI kk := _; haveI bq8 := @barS kk bq9; letI Wq := mkW6 (k := kk) (n := by k_extra "ne"); letI rc2 := _; letI rt8 := _; letI rt9 := _; letI rx := _; letI ru1 := _; letI ru2 := _; goW6 Wq rfl rc2 rt8 rt9 rx ru1 ru2 rfl rfl rfl rfl rfl rfl ?_; try clear bq9); k_extra "nc3")); (try k_sweep); (try k_fold))
  k_extra "nc1"; with_reducible revert w mg mb; k_extra "nc2"; with_reducible (rename BAR _ => bq9; refine letI kk := _; haveI bq8 := @barS kk bq9; letI Wq := mkW3 (k := kk) (n := by k_extra "ne"); letI w := _; letI mg := _; letI mb := _; goW3 Wq rfl w mg mb rfl rfl rfl ?_; try clear bq9); k_extra "nc3"
  k_fold
  k_with "specH" => (refine' c_asked _ _ _ _ _ _ _ _ _ ?q790 ?q791 ?q792 ?q793 ?q794 ?q795; (case q790 => assumption); (case q791 => omega); (case q792 => omega); (case q793 => omega); (case q794 => decide); (case q795 => decide))
  k_with "unpackW" => ((rename IntsAre _ (List.map _ (rangeKs 0 ((4 : Int) - 0).toNat)) => hI9); (have hI7 := ints4 hI9); clear hI9; obtain ⟨d9, e9, f9, g9, td9, te9, tf9, tg9, hyz, hd9, he9, hf9, hg9⟩ := hI7; (rename News _ _ _ _ => lN9); rw [hyz] at lN9; clear hyz; rename List.length _ = _ => hL9; clear hL9; k_extra "nc1"; with_reducible revert d9 e9 f9 g9 td9 te9 tf9 tg9; k_extra "nc2"; with_reducible (rename BAR _ => bq9; refine letI kk := _; haveI bq8 := @barS kk bq9; letI Wq := mkW8 (k := kk) (n := by k_extra "ne"); letI d9 := _; letI e9 := _; letI f9 := _; letI g9 := _; letI td9 := _; letI te9 := _; letI tf9 := _; letI tg9 := _; goW8 Wq rfl d9 e9 f9 g9 td9 te9 tf9 tg9 rfl rfl rfl rfl rfl rfl rfl rfl ?_; try clear bq9); k_extra "nc3")
  k_with "unpackE" => ((rename IntsAre _ (List.map _ [4, 5]) => hI9); (have hI7 := ints2 hI9); clear hI9; obtain ⟨a9, b9, ta9, tb9, rfl, ha9, hb9⟩ := hI7; k_extra "nc1"; with_reducible revert a9 b9 ta9 tb9; k_extra "nc2"; with_reducible (rename BAR _ => bq9; refine letI kk := _; haveI bq8 := @barS kk bq9; letI Wq := mkW4 (k := kk) (n := by k_extra "ne"); letI a9 := _; letI b9 := _; letI ta9 := _; letI tb9 := _; goW4 Wq rfl a9 b9 ta9 tb9 rfl rfl rfl rfl ?_; try clear bq9); k_extra "nc3")
  k_with "rowsW" => ((refine' SrcLP.rows (lab := labOf) ?z1 ?z2 ?z3 ?z4 ?z5 ?z6 ?z7 ?y8 ?y9); (case z1 => rfl); (case z2 => k_asm); (case z3 => k_asm); (case z4 => exact hls); (case z5 => exact hRR.rowN); (case z6 => exact hkR _ (List.mem_cons_of_mem _ List.mem_cons_self)); (case z7 => exact (by show Value.type "dict" ≠ Value.type "tuple"; decide)); (case' y9 => (intro g0 D0 h0 tk0 q0 X0 F0 N0 hne0 hD0 hX0 hT0 hq0; (have hP0 : Prog15 X0 D0 := ⟨_, _, _, hD0, hq0, hRR.sub hT0⟩); (have hun0 := hX0 _ (hkR _ List.mem_cons_self) (Nat.ne_of_gt lun)); (have hE0 := hX0 _ (hkR _ (List.mem_cons_of_mem _ (List.mem_cons_of_mem _ List.mem_cons_self))) (Nat.ne_of_lt (lud _ List.mem_cons_self))); clear hX0 hT0 hq0 hD0 hRR hkR hls lud lun; (try dsimp only); (try k_sweep); k_extra "nc1"; with_reducible revert g0 D0 h0 tk0 q0 X0; k_extra "nc2"; with_reducible (rename BAR _ => bq9; refine letI kk := _; haveI bq8 := @barS kk bq9; letI Wq := mkW6 (k := kk) (n := by k_extra "ne"); letI g0 := _; letI D0 := _; letI h0 := _; letI tk0 := _; letI q0 := _; letI X0 := _; goW6 Wq rfl g0 D0 h0 tk0 q0 X0 rfl rfl rfl rfl rfl rfl ?_; try clear bq9); k_extra "nc3")); (case' y8 => (intro g0; unfold RowTurn; intro v1 v2 ys1 news1 I1 oI1 C1 oC1 D1 m1 h1 tk1 E1 hC1 hx1 hy1 F1 N1 off1 ne1)))
  k_with "getM" => ((with_reducible show wpAny _ _ (getMethod (Value.ref _) (Str.ofString "update") _) _ _ _); k_dflt (refine' kdu_method (knd := PySem.strKind WP _) ?z1 ?z2 dcs ?_; (case z1 => k_asm); (case z2 => k_mem)))
  k_with "callU" => (k_dflt (refine' kdu_update ?z1 ?z2 (UpdF.tail (Nat.ne_of_gt (las _ List.mem_cons_self)) (UpdF.head (head_ne2 lcs))) dcs zcs vcs1 vcs2 vcs3 List.mem_cons_self das sas (Nat.ne_of_lt (las _ List.mem_cons_self)) ?_; (case z1 => k_asm); (case z2 => k_asm)); intro h0 hdO hdV F0 N0 dhd vhd1 vhd2 vhd3 vhd4; (try dsimp only at N0); clear dcs zcs vcs1 vcs2 vcs3 das sas; (try k_sweep); k_extra "nc1"; with_reducible revert h0 hdO hdV; k_extra "nc2"; with_reducible (rename BAR _ => bq9; refine letI kk := _; haveI bq8 := @barS kk bq9; letI Wq := mkW3 (k := kk) (n := by k_extra "ne"); letI h0 := _; letI hdO := _; letI hdV := _; goW3 Wq rfl h0 hdO hdV rfl rfl rfl ?_; try clear bq9); k_extra "nc3")
  k_with "dictW" => ((with_reducible show wpAny _ _ (eval (Expr.Dict [some (Expr.Name _ _), _] _ _) _) _ _ _); k_dflt (refine' kdn_eval (knd := PySem.intKind _ _) ?z2 ?z3 ?z4 ?z5 ?z6 ?z7 ?z8 ?_; (case z2 => k_asm); (case z3 => k_asm); (case z4 => exact Top.nolimit T2); (case z5 => rfl); (case z6 => rfl); (case z7 => exact List.cons_ne_nil _ _); (case z8 => exact Nat.le_of_ble_eq_true rfl)); intro opD h0 o0 F0 N0 lop sop dop; k_extra "nc1"; with_reducible revert opD h0 o0; k_extra "nc2"; with_reducible (rename BAR _ => bq9; refine letI kk := _; haveI bq8 := @barS kk bq9; letI Wq := mkW3 (k := kk) (n := by k_extra "ne"); letI opD := _; letI h0 := _; letI o0 := _; goW3 Wq rfl opD h0 o0 rfl rfl rfl ?_; try clear bq9); k_extra "nc3")
  k_with "setA" => ((k_dflt (refine' set_dict ?k1 ?k2 ?k3 ?k4 ?k5 ?k6 ?k7 ?k8 ?k9 ?k10 ?k11 ?k12 ?k13 ?_; (case k1 => k_asm); (case k2 => k_asm); (case k3 => k_asm); (case k4 => k_inst); (case k5 => exact rfl); (case k6 => k_is); (case k7 => k_is); (case k8 => k_is); (case k9 => k_is); (case k10 => k_get); (case k11 => k_put); (case k12 => exact upd_rd (lop _ (.tail _ (.head _))) lru lfr lfl llo lrd); (case k13 => exact Nat.le_of_ble_eq_true rfl))); intro h8 F8 N8; (rename (lla < _ ∧ _) => lu9); (rename Obj.IsDictOf (PySem.intKind _ _) _ (intKeyPairs _) => do9); obtain ⟨pd9, hpd9⟩ := prog_is hP0; (have hC9 := law_col (⟨⟨rru, rrd, mmd, mce, ⟨mme, lla, peD, csD, rfr, rfl9, rlo, opD, _, .none, rde, rpl, rcs, rac, rli, fun i => ([rk0, rk1, rk2, rk3, rk4, rk5, rk6, rk7, rk8, rk9, rk10, rk11, rk12, rk13, rk14, rk15] : List Tok).getD i 0⟩⟩, un, ud, ⟨Str.ofString "SIMPSN", _, D0, _, uu2, uu3, uu4, uu6, uu7, uu8, uu9, uu10, uu11, uu12, uu13, fun i => ([uk0, uk1, uk2, uk3, uk4, uk5, uk6, uk7, uk8, uk9, uk10, uk11, uk12, uk13] : List Tok).getD i 0⟩, pd9, hdO, hdV, (_, PyProof.Rows.LCg.lst [Value.int a9 ta9, Value.int b9 tb9])⟩ : Stc) N8 lop lrd lru lfr lfl llo (lpe _ (.tail _ (.tail _ (.tail _ (.head _))))) (And.left (And.right (And.right lu9))) (lld1 _ (.head _)) lla1 lce lme lmd hun0 hpd9 sop do9 rfl rfl spe dpe ⟨vpe1, vpe2, vpe3, vpe4, vpe5, vpe6, vpe7⟩ scs dhd vhd1 vhd2 vhd3 vhd4 slo hE0 sfr sfl dfo dfl dlo clo); (try dsimp only at hC9); obtain ⟨q9, S9, ceO, rdO, eq1, eq2, hxT, er9, ec9, hPre, hFrN, hLaw, hNoT, N9, hru, hme, hmd, hends1⟩ := hC9; (have hends : (_, listOf ([Value.int a9 ta9, Value.int b9 tb9] : List Value).toArray 2) ∈ S9 := hxT _ hends1); clear hends1; clear N8 lop lrd lru lfr lfl llo lpe lu9 lld1 lla1 lce lme lmd hun0 hpd9 sop do9 spe dpe vpe1 vpe2 vpe3 vpe4 vpe5 vpe6 vpe7 scs dhd vhd1 vhd2 vhd3 vhd4 slo sfr sfl dfo dfl dlo clo hE0 hP0; (try clear lcs las hne0); (try rw [eq1] at F8); (try rw [eq2] at F8); (try rw [eq1]); (try rw [eq2]); clear eq1 eq2; subst er9; subst ec9; (try dsimp only); (try k_sweep); k_extra "nc1"; with_reducible revert q9; k_extra "nc2"; with_reducible (rename BAR _ => bq9; refine letI kk := _; haveI bq8 := @barS kk bq9; letI q9 := _; goW1 (k := kk) (n := by k_extra "ne") q9 rfl ?_; try clear bq9); k_extra "nc3")
  k_with "setI" => ((first | (k_dflt (refine' frame_set1 ?z1 ?z2 ?z8 ?z7 hPre hFrN hNoT ?z3 ?z4 ?z5 ?z6 ?_; (case z1 => k_asm); (case z2 => k_asm); (case z8 => exact hneI); (case z7 => (show Value.type _ ≠ _; decide)); (case z3 => decide); (case z4 => (refine' item_k _ ?q796; (case q796 => decide))); (case z5 => exact rfl); (case z6 => exact iA_k _))) | (k_dflt (refine' frame_set0 ?z1 ?z2 hPre hFrN hNoT ?z3 ?z4 ?z5 ?z6 ?_; (case z1 => k_asm); (case z2 => k_asm); (case z3 => decide); (case z4 => first | exact rfl | decide); (case z5 => first | exact rfl | decide); (case z6 => first | exact rfl | decide)))); intro h8 fo8 F8 N8; (try (intro hI8; clear hneI; have hneI := hI8; clear hI8)); intro P8 R8; clear hPre hFrN; (have hPre := P8); (have hFrN := R8); clear P8 R8; (try dsimp only); (try k_sweep))
  k_with "subL" => first
    | (k_dflt (refine' itemL_K ?z1 ?z2 ?z3 ?z4 ?z5 ?_ ?z6; (case z1 => k_asm); (case z2 => k_mem); (case z3 => decide); (case z4 => decide); (case z5 => exact rfl); (case z6 => with_unfolding_all rfl); k_whole))
    | (k_dflt (refine' item_tupleT ?z1 ?z2 ?z3 ?z4 ?z5 ?_; (case z1 => refine' News.isTup ?z6 ?z7; (case z6 => k_asm); (case z7 => k_mem)); (case z2 => decide); (case z3 => decide); (case z4 => rfl); (case z5 => rfl); k_whole))
  k_with "subT" => first
    | (k_dflt (refine' item_tupleT ?z1 ?z2 ?z3 ?z4 ?z5 ?_; (case z1 => refine' News.isTup ?z6 ?z7; (case z6 => k_asm); (case z7 => k_mem)); (case z2 => decide); (case z3 => decide); (case z4 => rfl); (case z5 => rfl); k_whole))
    | (k_dflt (refine' itemL_K ?z1 ?z2 ?z3 ?z4 ?z5 ?_ ?z6; (case z1 => k_asm); (case z2 => k_mem); (case z3 => decide); (case z4 => decide); (case z5 => exact rfl); (case z6 => with_unfolding_all rfl); k_whole))
  k_with "pyI" => k_dflt ((rename IsRange _ _ _ _ _ _ _ _ => rgX); (rename Fr _ _ _ _ => lF9); (rename News _ _ _ _ => lN9); first
    | ((with_unfolding_all refine' iter_rangeUnr (n := 12) ?z1 rgX ?z2 ?z3 lF9 lN9 ?_; (case z1 => rfl); (case z2 => first | decide | rfl); (case z3 => first | decide | rfl)); clear lF9 lN9; intro I9 lI9; (have hneI : ∀ p ∈ _, Prod.fst p ≠ I9 := fun p hp => Nat.ne_of_lt (lI9 p hp)); clear lI9)
    | (obtain ⟨Sy, X9, hPy, hFy, lM9, hneX, hT0, hT1, hT2, hT3, hT4, hT5, hT6, hfrX, hrdX, hflX, hloX, hSyX, hSxX⟩ := (mem_start _ _ _ _ _ _ _ _ _ _ _ _ _ _ _ _ _ _) lN9 hPre hFrN hNoT rfl (by show (6 : Nat) ≠ 25; decide) rfl rfl rfl rfl rfl rfl; (have hruX := hSxX _ (by k_mem : (q9.c.ru, instObj 450 q9.c.rd) ∈ _)); (have hmeX := hSxX _ (by k_mem : (q9.c.r.me, instObj 141 q9.c.md) ∈ _)); (have hmdX := hSxX _ (by k_mem : (q9.c.md, dictOf [enS w.params "numeric" mq1 (Value.ref q9.c.ce), enS w.params "characters" mq2 mch] 2) ∈ _)); (have hU1 : (_, tp [Value.int b9 tb9, Value.int (-1) _]) ∈ X9 := hT1); (have hU2 : (_, tp [Value.int a9 ta9, Value.int (-1) _]) ∈ X9 := hT2); (have hU3 : (_, tp [Value.int g9 tg9, Value.int 0 _]) ∈ X9 := hT3); (have hU4 : (_, tp [Value.int f9 tf9, Value.int 0 _]) ∈ X9 := hT4); (have hU5 : (_, tp [Value.int e9 te9, Value.int 0 _]) ∈ X9 := hT5); (have hU6 : (_, tp [Value.int d9 td9, Value.int 0 _]) ∈ X9 := hT6); clear hT1 hT2 hT3 hT4 hT5 hT6; (have hU0 : (_, listOf ([_, _, _, _, _, _] : List Value).toArray 0) ∈ X9 := hT0); clear hT0; clear lN9 hPre hFrN hSxX hru hme hmd hends; (have hPre := hPy); (have hFrN := hFy); clear hPy hFy; (have hM9 := mem_zero (S := X9)); (with_unfolding_all refine' iter_rangeUnr (n := 6) ?z1 rgX ?z2 ?z3 lF9 lM9 ?_; (case z1 => rfl); (case z2 => first | decide | rfl); (case z3 => first | decide | rfl)); clear lF9 lM9; intro I9 lI9; clear hneI; (have hneI : ∀ p ∈ _, Prod.fst p ≠ I9 := fun p hp => Nat.ne_of_lt (lI9 p hp)); clear lI9))
  k_with "specPW" => ((show SpecPW _ _ _ 321 (Value.int _ _ :: Value.int 0 _ :: _) _ _); (refine' c_rr0 ?kw1; (case kw1 => first | assumption | (refine wk20 ?_; assumption))))
  k_with "specPW" => ((show SpecPW _ _ _ 321 (Value.int _ _ :: Value.int (-1) _ :: _) _ _); (refine' c_rr1 ?kw2; (case kw2 => first | assumption | (refine wk20 ?_; assumption))))
  k_with "subS" => first | ((with_reducible show wpAny _ _ (subscriptTail _ _ (Value.ref _) (Value.str (Str.ofString "K") _)) _ _ _); k_dflt ((try (refine kba_turn (value' := PySem.Expr.Name (PySem.Str.ofString "_") ⟨0, 0, 0, 0⟩) (fun _ => rfl) ?_)); refine' kda_item (knd := PySem.strKind _ _) ?z1 ffr fdo (strKind_is _ _ _ _) kv ?_; (case z1 => k_asm))) | ((with_reducible show wpAny _ _ (subscriptTail _ _ (Value.ref _) (Value.str (Str.ofString "X") _)) _ _ _); k_dflt ((try (refine kba_turn (value' := PySem.Expr.Name (PySem.Str.ofString "_") ⟨0, 0, 0, 0⟩) (fun _ => rfl) ?_)); refine' kda_item (knd := PySem.strKind _ _) ?z1 ffr fdo (strKind_is _ _ _ _) xv ?_; (case z1 => k_asm))) | ((with_reducible show wpAny _ _ (subscriptTail _ _ (Value.ref _) (Value.str (Str.ofString "B") _)) _ _ _); k_dflt ((try (refine kba_turn (value' := PySem.Expr.Name (PySem.Str.ofString "_") ⟨0, 0, 0, 0⟩) (fun _ => rfl) ?_)); refine' kda_item (knd := PySem.strKind _ _) ?z1 ffr fdo (strKind_is _ _ _ _) bv ?_; (case z1 => k_asm))) | ((with_reducible show wpAny _ _ (subscriptTail _ _ (Value.ref _) (Value.str (Str.ofString "T") _)) _ _ _); k_dflt ((try (refine kba_turn (value' := PySem.Expr.Name (PySem.Str.ofString "_") ⟨0, 0, 0, 0⟩) (fun _ => rfl) ?_)); refine' kda_item (knd := PySem.strKind _ _) ?z1 ffr fdo (strKind_is _ _ _ _) tv ?_; (case z1 => k_asm))) | ((with_reducible show wpAny _ _ (subscriptTail _ _ (Value.ref _) (Value.str (Str.ofString "R") _)) _ _ _); k_dflt ((try (refine kba_turn (value' := PySem.Expr.Name (PySem.Str.ofString "_") ⟨0, 0, 0, 0⟩) (fun _ => rfl) ?_)); refine' kda_item (knd := PySem.strKind _ _) ?z1 ffr fdo (strKind_is _ _ _ _) rv ?_; (case z1 => k_asm)))
  k_with "specV" => ((show SpecV _ _ 124 _ _ _); first | (refine' c_mload0 _ _ _ _ _ _ _ _ _ _ _ _ _ _ _ _ _ _ _ fce fvl fme fmd kp ?q797 ?q798 kg kc; (case q797 => decide); (case q798 => decide)) | (refine' c_mload2 _ _ _ _ _ _ _ _ _ _ _ _ _ _ _ _ _ _ _ _ _ _ fce fvl fme fmd xp ?q799 ?q800 xg1 xg2 xm1 xm2; (case q799 => decide); (case q800 => decide)) | (refine' c_mload2 _ _ _ _ _ _ _ _ _ _ _ _ _ _ _ _ _ _ _ _ _ _ fce fvl fme fmd bp ?q801 ?q802 bg1 bg2 bm1 bm2; (case q801 => decide); (case q802 => decide)) | (refine' c_mload2 _ _ _ _ _ _ _ _ _ _ _ _ _ _ _ _ _ _ _ _ _ _ fce fvl fme fmd tp9 ?q803 ?q804 tg1 tg2 tm1 tm2; (case q803 => decide); (case q804 => decide)) | (refine' c_mload2 _ _ _ _ _ _ _ _ _ _ _ _ _ _ _ _ _ _ _ _ _ _ fce fvl fme fmd rp ?q805 ?q806 rg1 rg2 rm1 rm2; (case q805 => decide); (case q806 => decide)))
  k_with "specV" => ((show SpecV _ _ 877 _ _ _); (refine' c_gain _ _ _ _ _ _ _ _ _ _ _ hd9 he9 hf9 hg9 ?q807; (case q807 => first | exact ha9 | exact hb9)))
  k_with "cmpN" => (k_dflt (refine' pair_ne (TupIs.tup ?z1 ?z2 ?z3 xd) (TupIs.tup ?z4 ?z5 ?z6 bd) ?z7 ?_; (case z1 => k_asm); (case z2 => k_asm); (case z3 => k_asm); (case z4 => k_asm); (case z5 => k_asm); (case z6 => k_asm); (case z7 => ktr_units)))
  k_with "cmpE" => (k_dflt (refine' pair_eq (TupIs.tup ?z1 ?z2 ?z3 td) (TupIs.tup ?z4 ?z5 ?z6 rd9) ?z7 ?_; (case z1 => k_asm); (case z2 => k_asm); (case z3 => k_asm); (case z4 => k_asm); (case z5 => k_asm); (case z6 => k_asm); (case z7 => ktr_units)))
  k_with "powI" => (k_dflt (refine' pow_int_small ?z1 ?z2 ?z3 ?_; (case z1 => first | exact mx8 | omega); (case z2 => first | (refine mx9 (b := 20) ?_ rfl rfl; assumption) | omega); (case z3 => decide)))
  k_with "!binaryOp Mult int int" => ((with_reducible show wpAny _ _ (binaryOp _ _ (Value.int (HPow.hPow _ _) _)) _ _ _); k_dflt ((refine PyProof.Rows.mul_int ?_ ?kb1); (case kb1 => exact IntMulOk.of_left (intBits_le_64 hfst.1 hfst.2))))
  repeat' (first | (k_unfold; (try dsimp only)) | (walk1; all_goals walk_at "cls") | (dsimp only; walk1; all_goals walk_at "cls") | (leave1; (try dsimp only); all_goals walk_at "cls"))
  kc_bool
  refine goodW_bool (by with_reducible assumption) (by with_reducible assumption) (raisesW_false (none_raised _)) ?_
  refine postW_of (by wrow_shape) (w_eq_bool (w_res rfl) w_lit) ?_
  exact last_ok _ _ _ _ _ _) fun q hf => ?_
  simpa only using fq hf (@Eq _ 5 5)
end
end
end
end Mine
theorem PySem.Challenge.cw_sz0042_01_holds : PySem.Challenge.rw_sz0042_01.Holds :=
  Mine.law_holds
