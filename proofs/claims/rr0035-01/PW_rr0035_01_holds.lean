import PyProof.Rows.All
import Wide.All
import OpenK.AllK
import Wide.FinOn
import Lean
import PySem.Challenge.RW_rr0035_01
set_option Elab.async false
set_option maxRecDepth 100000
set_option bootstrap.genMatcherCode false
set_option compiler.extract_closed false
set_option linter.all false
local macro_rules
  | `(tactic| omega) => `(tactic| first
    | assumption
    | exact Nat.le_refl _
    | exact Nat.lt_of_lt_of_le (by assumption) (Nat.le_of_ble_eq_true rfl)
    | exact Nat.lt_of_le_of_lt (by assumption) (Nat.le_of_ble_eq_true rfl)
    | exact Nat.lt_of_lt_of_le (Nat.lt_of_le_of_lt (Nat.le_add_right _ _) (by assumption)) (Nat.le_of_ble_eq_true rfl)
    | exact Nat.lt_of_lt_of_le (Nat.lt_of_le_of_lt (Nat.le_add_left _ _) (by assumption)) (Nat.le_of_ble_eq_true rfl)
    | exact Nat.le_add_right _ _
    | exact Nat.le_add_left _ _
    | exact Nat.le_trans (by assumption) (Nat.le_add_right _ _)
    | exact Nat.le_trans (Nat.le_add_right _ _) (by assumption)
    | omega +splitDisjunctions)
section
open PySem PySem.W PySem.W.X PyProof.Rows
set_option maxRecDepth 100000
namespace Hd
open PySem
noncomputable abbrev pg : Program := PySem.Challenge.rw_rr0035_01.row.toRowW.1
noncomputable def bdy : List Stmt := PySem.Challenge.pw_rr0035_01.main.body
noncomputable def fdO (s : Option Stmt) : Arguments × FuncBody × Scope := match s with
  | some (.FunctionDef _ a b _ _ _ sc _ _ _) => (a, .stmts b, sc)
  | _ => (⟨[], [], none, [], [], none, []⟩, .stmts [], ⟨.function, [], false, false, []⟩)
noncomputable def tf (i : Nat) := fdO bdy[i]?
noncomputable def mf (i j : Nat) := fdO (match bdy[i]? with
  | some (.ClassDef _ _ _ b _ _ _ _ _ _ _) => b[j]?
  | _ => none)
noncomputable def fo (f : Arguments × FuncBody × Scope) (nm q : Str) (g : Addr) (cl : List (Str × Addr)) (d kd doc pm : Value) (an : Option Addr) (cd ct : Value) (bi : Addr) : FuncData := ⟨nm, q, f.1, f.2.1, f.2.2, g, cl, d, kd, doc, pm, an, cd, ct, bi⟩
noncomputable def tp (l : List Value) : Obj := ⟨.type "tuple", none, .seq ⟨l⟩ 0, ⟨[]⟩⟩
noncomputable def de (P : Params) (x : Str) (t : Nat) (v : Value) : DictEntry := ⟨PySem.PyData.keyHash P x, .str x t, v⟩
noncomputable def ff (x : FuncData) : Obj := ⟨.type "function", none, .func x, ⟨[]⟩⟩
noncomputable def fx (x : FuncData) : Obj := ⟨.none, none, .func x, ⟨[]⟩⟩
noncomputable def fy (l : List Value) : Obj := ⟨.none, none, .fields ⟨l⟩, ⟨[]⟩⟩
noncomputable def fl (t : String) (l : List Value) : Obj := ⟨.type t, none, .fields ⟨l⟩, ⟨[]⟩⟩
noncomputable abbrev Nd := BT.node
noncomputable abbrev Nl := BT.nil
noncomputable def o43 (P : Params) : Obj := tp []
noncomputable def o44 (P : Params) : Obj := fy []
noncomputable def o45 (P : Params) : Obj := fl "code" [.str "<module>" 182, .str "<module>" 183, .str "/claim/cut.py" 184, .int 1 0, .int 0 0, .int 0 0, .int 0 0, .int 0 0, .ref 11, (.bool false), .int 181 0, .ref 12, .none, .none, .none, .none, .int 185 0, .int 1 0, .str "/claim/cut.py" 186]
noncomputable def o46 (P : Params) : Obj := ⟨.type "frame", none, .plain, ⟨[(some (.ref 13)), (some (.ref 3)), (some (.ref 3)), none, (some (.str "__main__" 164)), none, (some (.ref 0))]⟩⟩
noncomputable def tr0 (P : Params) : BT := (Nd (boot_o_0 P) (Nd (boot_o_1 P) (Nd (boot_o_3 P) (Nd (boot_o_7 P) Nl Nl) (Nd (o43 P) Nl Nl)) (Nd (boot_o_5 P) (Nd (boot_o_9 P) Nl Nl) (Nd (o45 P) Nl Nl))) (Nd (boot_o_2 P) (Nd (boot_o_4 P) (Nd (boot_o_8 P) Nl Nl) (Nd (o44 P) Nl Nl)) (Nd (boot_o_6 P) (Nd (boot_o_10 P) Nl Nl) (Nd (o46 P) Nl Nl))))
noncomputable def o49 (P : Params) : Obj := ⟨.none, none, (.dict ⟨[de P "type.__subclasses__.Exception.0" 212 (.int 31 0), de P "type.__subclasses__.Exception.n" 213 (.int 1 0)]⟩ 2), ⟨[]⟩⟩
noncomputable def o72 (P : Params) : Obj := ⟨.type "dict", none, (.dict ⟨[de P "__name__" 165 (.str "clausemill.symbols" 194), de P "__doc__" 166 .none, de P "__package__" 167 .none, de P "__loader__" 168 (.builtin "__main__.__loader__#opaque"), de P "__spec__" 169 .none, de P "__annotations__" 170 (.ref 6), de P "__builtins__" 171 (.ref 4), de P "__file__" 173 (.str "/claim/cut.py" 172), de P "__cached__" 174 .none, de P "_wall" 193 (.ref 21), de P "ClausemillError" 215 (.ref 31), de P "PrologError" 240 (.ref 51), de P "A_NIL" 242 (.int 0 241), de P "A_SYSTEM" 244 (.int 25 243), de P "F_DOT" 246 (.int 0 245), de P "F_ERROR" 248 (.int 16 247), de P "fixed_atoms" 254 (.ref 60), de P "fixed_functors" 260 (.ref 67)]⟩ 18), ⟨[]⟩⟩
noncomputable def o73 (P : Params) : Obj := fy [.int 1 0, .int 0 0, .ref 20, .int 5 0, .int 0 0, .ref 27, .int 7 0, .int 0 0, .ref 40, .int 15 0, .int 0 0, .ref 59, .int 17 0, .int 0 0, .ref 66]
noncomputable def o52 (P : Params) : Obj := tp []
noncomputable def o53 (P : Params) : Obj := fy []
noncomputable def o54 (P : Params) : Obj := tp [.str "k" 190]
noncomputable def o55 (P : Params) : Obj := tp []
noncomputable def o56 (P : Params) : Obj := fx (fo (tf 0) "_wall" "_wall" 0 [] .none .none .none .none none .none .none 0)
noncomputable def o57 (P : Params) : Obj := fl "code" [.str "_wall" 187, .str "_wall" 188, .str "/claim/cut.py" 189, .int 1 0, .int 1 0, .int 0 0, .int 0 0, .int 3 0, .ref 15, (.bool true), .int 181 0, .ref 16, .none, .ref 17, .ref 18, .ref 19, .int 191 0, .int 1 0, .str "/claim/cut.py" 192]
noncomputable def o58 (P : Params) : Obj := ff (fo (tf 0) "_wall" "_wall" 3 [] .none .none .none (.str "__main__" 164) none (.ref 20) .none 0)
noncomputable def o59 (P : Params) : Obj := tp [.type "Exception"]
noncomputable def o60 (P : Params) : Obj := fl "builtin_function_or_method" [.builtin "type.__prepare__", .type "type"]
noncomputable def o61 (P : Params) : Obj := ⟨.type "dict", none, (.dict ⟨[de P "__module__" 203 (.str "clausemill.symbols" 194), de P "__qualname__" 205 (.str "ClausemillError" 204), de P "__firstlineno__" 207 (.int 5 206), de P "__static_attributes__" 208 (.ref 29)]⟩ 4), ⟨[]⟩⟩
noncomputable def o62 (P : Params) : Obj := tp []
noncomputable def o63 (P : Params) : Obj := fy []
noncomputable def o64 (P : Params) : Obj := fl "code" [.str "ClausemillError" 198, .str "ClausemillError" 199, .str "/claim/cut.py" 200, .int 5 0, .int 0 0, .int 0 0, .int 0 0, .int 0 0, .ref 25, (.bool false), .int 181 0, .ref 26, .none, .none, .none, .none, .int 201 0, .int 5 0, .str "/claim/cut.py" 202]
noncomputable def o65 (P : Params) : Obj := ⟨.type "frame", none, .plain, ⟨[(some (.ref 27)), (some (.ref 3)), (some (.ref 24)), none, (some (.str "clausemill.symbols" 194)), none, (some (.ref 0))]⟩⟩
noncomputable def o66 (P : Params) : Obj := tp []
noncomputable def o67 (P : Params) : Obj := ⟨.type "dict", none, (.dict ⟨[de P "__module__" 203 (.str "clausemill.symbols" 194), de P "__firstlineno__" 207 (.int 5 206), de P "__static_attributes__" 208 (.ref 29), de P "__weakref__" 210 (.ref 32), de P "__doc__" 211 .none]⟩ 3), ⟨[]⟩⟩
noncomputable def o74 (P : Params) : Obj := ⟨.type "type", none, (.cls ⟨"ClausemillError", [.type "Exception"], [.ref 31, .type "Exception", .type "BaseException", .type "object"], 30, "ClausemillError", true, [], [.ref 51], false, none, false⟩), ⟨[(some (.ref 22)), none, (some (.str "ClausemillError" 196)), (some (.str "ClausemillError" 204)), (some (.builtin "Exception.__new__")), (some (.bool true))]⟩⟩
noncomputable def o69 (P : Params) : Obj := fl "getset_descriptor" [.str "__weakref__" 209, .ref 31, .builtin "ExceptionGroup.__weakref__", .none]
noncomputable def o70 (P : Params) : Obj := fl "super" [.ref 31, .ref 31, .ref 31]
noncomputable def o71 (P : Params) : Obj := fl "builtin_function_or_method" [.builtin "object.__init_subclass__", .ref 31]
noncomputable def o75 (P : Params) : Obj := tp [.ref 31]
noncomputable def o76 (P : Params) : Obj := fl "builtin_function_or_method" [.builtin "type.__prepare__", .type "type"]
noncomputable def o77 (P : Params) : Obj := ⟨.type "dict", none, (.dict ⟨[de P "__module__" 223 (.str "clausemill.symbols" 194), de P "__qualname__" 225 (.str "PrologError" 224), de P "__firstlineno__" 227 (.int 7 226), de P "__init__" 235 (.ref 48), de P "__static_attributes__" 237 (.ref 49)]⟩ 5), ⟨[]⟩⟩
noncomputable def o78 (P : Params) : Obj := tp []
noncomputable def o79 (P : Params) : Obj := fy [.int 9 0, .int 4 0, .ref 47]
noncomputable def o80 (P : Params) : Obj := fl "code" [.str "PrologError" 218, .str "PrologError" 219, .str "/claim/cut.py" 220, .int 7 0, .int 0 0, .int 0 0, .int 0 0, .int 0 0, .ref 38, (.bool false), .int 181 0, .ref 39, .none, .none, .none, .none, .int 221 0, .int 7 0, .str "/claim/cut.py" 222]
noncomputable def o81 (P : Params) : Obj := ⟨.type "frame", none, .plain, ⟨[(some (.ref 40)), (some (.ref 3)), (some (.ref 37)), none, (some (.str "clausemill.symbols" 194)), none, (some (.ref 0))]⟩⟩
noncomputable def o82 (P : Params) : Obj := tp []
noncomputable def o83 (P : Params) : Obj := fy []
noncomputable def o84 (P : Params) : Obj := tp [.str "self" 231, .str "ball" 232]
noncomputable def o85 (P : Params) : Obj := tp []
noncomputable def o86 (P : Params) : Obj := fx (fo (mf 3 0) "__init__" "PrologError.__init__" 0 [] .none .none .none .none none .none .none 0)
noncomputable def o87 (P : Params) : Obj := fl "code" [.str "__init__" 228, .str "PrologError.__init__" 229, .str "/claim/cut.py" 230, .int 9 0, .int 2 0, .int 0 0, .int 0 0, .int 3 0, .ref 42, (.bool true), .int 181 0, .ref 43, .none, .ref 44, .ref 45, .ref 46, .int 233 0, .int 9 0, .str "/claim/cut.py" 234]
noncomputable def o88 (P : Params) : Obj := ff (fo (mf 3 0) "__init__" "PrologError.__init__" 3 [] .none .none .none (.str "clausemill.symbols" 194) none (.ref 47) .none 0)
noncomputable def o89 (P : Params) : Obj := tp [.str "ball" 236]
noncomputable def o90 (P : Params) : Obj := ⟨.type "dict", none, (.dict ⟨[de P "__module__" 223 (.str "clausemill.symbols" 194), de P "__firstlineno__" 227 (.int 7 226), de P "__init__" 235 (.ref 48), de P "__static_attributes__" 237 (.ref 49), de P "__doc__" 238 .none]⟩ 2), ⟨[]⟩⟩
noncomputable def o91 (P : Params) : Obj := ⟨.type "type", none, (.cls ⟨"PrologError", [.ref 31], [.ref 51, .ref 31, .type "Exception", .type "BaseException", .type "object"], 50, "PrologError", true, [], [], false, none, false⟩), ⟨[(some (.ref 35)), none, (some (.str "PrologError" 216)), (some (.str "PrologError" 224)), (some (.builtin "Exception.__new__")), (some (.bool true))]⟩⟩
noncomputable def o92 (P : Params) : Obj := fl "super" [.ref 51, .ref 51, .ref 51]
noncomputable def o93 (P : Params) : Obj := fl "builtin_function_or_method" [.builtin "object.__init_subclass__", .ref 51]
noncomputable def o94 (P : Params) : Obj := tp []
noncomputable def o95 (P : Params) : Obj := fy []
noncomputable def o96 (P : Params) : Obj := tp []
noncomputable def o97 (P : Params) : Obj := tp []
noncomputable def o98 (P : Params) : Obj := fx (fo (tf 8) "fixed_atoms" "fixed_atoms" 0 [] .none .none .none .none none .none .none 0)
noncomputable def o99 (P : Params) : Obj := fl "code" [.str "fixed_atoms" 249, .str "fixed_atoms" 250, .str "/claim/cut.py" 251, .int 15 0, .int 0 0, .int 0 0, .int 0 0, .int 3 0, .ref 54, (.bool true), .int 181 0, .ref 55, .none, .ref 56, .ref 57, .ref 58, .int 252 0, .int 15 0, .str "/claim/cut.py" 253]
noncomputable def o100 (P : Params) : Obj := ff (fo (tf 8) "fixed_atoms" "fixed_atoms" 3 [] .none .none .none (.str "clausemill.symbols" 194) none (.ref 59) .none 0)
noncomputable def o101 (P : Params) : Obj := tp []
noncomputable def o102 (P : Params) : Obj := fy []
noncomputable def o103 (P : Params) : Obj := tp []
noncomputable def o104 (P : Params) : Obj := tp []
noncomputable def o105 (P : Params) : Obj := fx (fo (tf 9) "fixed_functors" "fixed_functors" 0 [] .none .none .none .none none .none .none 0)
noncomputable def o106 (P : Params) : Obj := fl "code" [.str "fixed_functors" 255, .str "fixed_functors" 256, .str "/claim/cut.py" 257, .int 17 0, .int 0 0, .int 0 0, .int 0 0, .int 3 0, .ref 61, (.bool true), .int 181 0, .ref 62, .none, .ref 63, .ref 64, .ref 65, .int 258 0, .int 17 0, .str "/claim/cut.py" 259]
noncomputable def o107 (P : Params) : Obj := ff (fo (tf 9) "fixed_functors" "fixed_functors" 3 [] .none .none .none (.str "clausemill.symbols" 194) none (.ref 66) .none 0)
noncomputable def tr1 (P : Params) : BT := (Nd (boot_o_0 P) (Nd (boot_o_1 P) (Nd (o72 P) (Nd (boot_o_7 P) (Nd (o52 P) (Nd (o74 P) (Nd (o103 P) Nl Nl) Nl) (Nd (o87 P) Nl Nl)) (Nd (o60 P) (Nd (o79 P) Nl Nl) (Nd (o95 P) Nl Nl))) (Nd (o43 P) (Nd (o56 P) (Nd (o75 P) (Nd (o107 P) Nl Nl) Nl) (Nd (o91 P) Nl Nl)) (Nd (o64 P) (Nd (o83 P) Nl Nl) (Nd (o99 P) Nl Nl)))) (Nd (boot_o_5 P) (Nd (boot_o_9 P) (Nd (o54 P) (Nd (o70 P) (Nd (o105 P) Nl Nl) Nl) (Nd (o89 P) Nl Nl)) (Nd (o62 P) (Nd (o81 P) Nl Nl) (Nd (o97 P) Nl Nl))) (Nd (o45 P) (Nd (o58 P) (Nd (o77 P) Nl Nl) (Nd (o93 P) Nl Nl)) (Nd (o66 P) (Nd (o85 P) Nl Nl) (Nd (o101 P) Nl Nl))))) (Nd (o49 P) (Nd (boot_o_4 P) (Nd (boot_o_8 P) (Nd (o53 P) (Nd (o69 P) (Nd (o104 P) Nl Nl) Nl) (Nd (o88 P) Nl Nl)) (Nd (o61 P) (Nd (o80 P) Nl Nl) (Nd (o96 P) Nl Nl))) (Nd (o73 P) (Nd (o57 P) (Nd (o76 P) Nl Nl) (Nd (o92 P) Nl Nl)) (Nd (o65 P) (Nd (o84 P) Nl Nl) (Nd (o100 P) Nl Nl)))) (Nd (boot_o_6 P) (Nd (boot_o_10 P) (Nd (o55 P) (Nd (o71 P) (Nd (o106 P) Nl Nl) Nl) (Nd (o90 P) Nl Nl)) (Nd (o63 P) (Nd (o82 P) Nl Nl) (Nd (o98 P) Nl Nl))) (Nd (o46 P) (Nd (o59 P) (Nd (o78 P) Nl Nl) (Nd (o94 P) Nl Nl)) (Nd (o67 P) (Nd (o86 P) Nl Nl) (Nd (o102 P) Nl Nl))))))
noncomputable def o201 (P : Params) : Obj := ⟨.type "dict", none, (.dict ⟨[de P "__name__" 165 (.str "clausemill.store" 425), de P "__doc__" 166 .none, de P "__package__" 167 .none, de P "__loader__" 168 (.builtin "__main__.__loader__#opaque"), de P "__spec__" 169 .none, de P "__annotations__" 170 (.ref 6), de P "__builtins__" 171 (.ref 4), de P "__file__" 173 (.str "/claim/cut.py" 172), de P "__cached__" 174 .none, de P "_wall" 193 (.ref 21), de P "ClausemillError" 215 (.ref 31), de P "PrologError" 240 (.ref 51), de P "A_NIL" 242 (.int 0 241), de P "A_SYSTEM" 244 (.int 25 243), de P "F_DOT" 246 (.int 0 245), de P "F_ERROR" 248 (.int 16 247), de P "fixed_atoms" 254 (.ref 60), de P "fixed_functors" 260 (.ref 67), de P "Symbols" 380 (.ref 154), de P "system_error" 389 (.ref 165), de P "formal_of" 400 (.ref 172), de P "instantiation_error" 407 (.ref 179), de P "type_error" 416 (.ref 186), de P "resource_error" 424 (.ref 193), de P "REF" 428 (.int 0 427), de P "SRF" 430 (.int 1 429), de P "STR" 432 (.int 2 431), de P "LIS" 434 (.int 3 433), de P "CON" 436 (.int 4 435), de P "INT" 438 (.int 5 437), de P "FUN" 440 (.int 6 439), de P "VOID" 442 (.ref 194), de P "VISIT" 444 (.int 0 443), de P "BUILD" 446 (.int 1 445)]⟩ 34), ⟨[]⟩⟩
noncomputable def o202 (P : Params) : Obj := fy [.int 1 0, .int 0 0, .ref 20, .int 5 0, .int 0 0, .ref 27, .int 7 0, .int 0 0, .ref 40, .int 15 0, .int 0 0, .ref 59, .int 17 0, .int 0 0, .ref 66, .int 19 0, .int 0 0, .ref 73, .int 77 0, .int 0 0, .ref 164, .int 79 0, .int 0 0, .ref 171, .int 84 0, .int 0 0, .ref 178, .int 86 0, .int 0 0, .ref 185, .int 88 0, .int 0 0, .ref 192]
noncomputable def o110 (P : Params) : Obj := tp []
noncomputable def o111 (P : Params) : Obj := fl "builtin_function_or_method" [.builtin "type.__prepare__", .type "type"]
noncomputable def o112 (P : Params) : Obj := ⟨.type "dict", none, (.dict ⟨[de P "__module__" 268 (.str "clausemill.symbols" 194), de P "__qualname__" 270 (.str "Symbols" 269), de P "__firstlineno__" 272 (.int 19 271), de P "__init__" 281 (.ref 81), de P "atom" 291 (.ref 88), de P "text" 299 (.ref 95), de P "functor" 311 (.ref 102), de P "func" 320 (.ref 109), de P "name" 328 (.ref 116), de P "arity" 336 (.ref 123), de P "label" 344 (.ref 130), de P "count" 351 (.ref 137), de P "functor_count" 358 (.ref 144), de P "known" 368 (.ref 151), de P "__static_attributes__" 373 (.ref 152)]⟩ 15), ⟨[]⟩⟩
noncomputable def o113 (P : Params) : Obj := tp []
noncomputable def o114 (P : Params) : Obj := fy [.int 21 0, .int 4 0, .ref 80, .int 31 0, .int 4 0, .ref 87, .int 40 0, .int 4 0, .ref 94, .int 43 0, .int 4 0, .ref 101, .int 53 0, .int 4 0, .ref 108, .int 56 0, .int 4 0, .ref 115, .int 59 0, .int 4 0, .ref 122, .int 62 0, .int 4 0, .ref 129, .int 65 0, .int 4 0, .ref 136, .int 68 0, .int 4 0, .ref 143, .int 71 0, .int 4 0, .ref 150]
noncomputable def o115 (P : Params) : Obj := fl "code" [.str "Symbols" 263, .str "Symbols" 264, .str "/claim/cut.py" 265, .int 19 0, .int 0 0, .int 0 0, .int 0 0, .int 0 0, .ref 71, (.bool false), .int 181 0, .ref 72, .none, .none, .none, .none, .int 266 0, .int 19 0, .str "/claim/cut.py" 267]
noncomputable def o116 (P : Params) : Obj := ⟨.type "frame", none, .plain, ⟨[(some (.ref 73)), (some (.ref 3)), (some (.ref 70)), none, (some (.str "clausemill.symbols" 194)), none, (some (.ref 0))]⟩⟩
noncomputable def o117 (P : Params) : Obj := tp []
noncomputable def o118 (P : Params) : Obj := fy []
noncomputable def o119 (P : Params) : Obj := tp [.str "self" 276, .str "text" 277, .str "row" 278]
noncomputable def o120 (P : Params) : Obj := tp []
noncomputable def o121 (P : Params) : Obj := fx (fo (mf 10 0) "__init__" "Symbols.__init__" 0 [] .none .none .none .none none .none .none 0)
noncomputable def o122 (P : Params) : Obj := fl "code" [.str "__init__" 273, .str "Symbols.__init__" 274, .str "/claim/cut.py" 275, .int 21 0, .int 1 0, .int 0 0, .int 0 0, .int 3 0, .ref 75, (.bool true), .int 181 0, .ref 76, .none, .ref 77, .ref 78, .ref 79, .int 279 0, .int 21 0, .str "/claim/cut.py" 280]
noncomputable def o123 (P : Params) : Obj := ff (fo (mf 10 0) "__init__" "Symbols.__init__" 3 [] .none .none .none (.str "clausemill.symbols" 194) none (.ref 80) .none 0)
noncomputable def o124 (P : Params) : Obj := tp []
noncomputable def o125 (P : Params) : Obj := fy []
noncomputable def o126 (P : Params) : Obj := tp [.str "self" 285, .str "text" 286, .str "found" 287, .str "number" 288]
noncomputable def o127 (P : Params) : Obj := tp []
noncomputable def o128 (P : Params) : Obj := fx (fo (mf 10 1) "atom" "Symbols.atom" 0 [] .none .none .none .none none .none .none 0)
noncomputable def o129 (P : Params) : Obj := fl "code" [.str "atom" 282, .str "Symbols.atom" 283, .str "/claim/cut.py" 284, .int 31 0, .int 2 0, .int 0 0, .int 0 0, .int 3 0, .ref 82, (.bool true), .int 181 0, .ref 83, .none, .ref 84, .ref 85, .ref 86, .int 289 0, .int 31 0, .str "/claim/cut.py" 290]
noncomputable def o130 (P : Params) : Obj := ff (fo (mf 10 1) "atom" "Symbols.atom" 3 [] .none .none .none (.str "clausemill.symbols" 194) none (.ref 87) .none 0)
noncomputable def o131 (P : Params) : Obj := tp []
noncomputable def o132 (P : Params) : Obj := fy []
noncomputable def o133 (P : Params) : Obj := tp [.str "self" 295, .str "number" 296]
noncomputable def o134 (P : Params) : Obj := tp []
noncomputable def o135 (P : Params) : Obj := fx (fo (mf 10 2) "text" "Symbols.text" 0 [] .none .none .none .none none .none .none 0)
noncomputable def o136 (P : Params) : Obj := fl "code" [.str "text" 292, .str "Symbols.text" 293, .str "/claim/cut.py" 294, .int 40 0, .int 2 0, .int 0 0, .int 0 0, .int 3 0, .ref 89, (.bool true), .int 181 0, .ref 90, .none, .ref 91, .ref 92, .ref 93, .int 297 0, .int 40 0, .str "/claim/cut.py" 298]
noncomputable def o137 (P : Params) : Obj := ff (fo (mf 10 2) "text" "Symbols.text" 3 [] .none .none .none (.str "clausemill.symbols" 194) none (.ref 94) .none 0)
noncomputable def o138 (P : Params) : Obj := tp []
noncomputable def o139 (P : Params) : Obj := fy []
noncomputable def o140 (P : Params) : Obj := tp [.str "self" 303, .str "atom" 304, .str "arity" 305, .str "key" 306, .str "found" 307, .str "number" 308]
noncomputable def o141 (P : Params) : Obj := tp []
noncomputable def o142 (P : Params) : Obj := fx (fo (mf 10 3) "functor" "Symbols.functor" 0 [] .none .none .none .none none .none .none 0)
noncomputable def o143 (P : Params) : Obj := fl "code" [.str "functor" 300, .str "Symbols.functor" 301, .str "/claim/cut.py" 302, .int 43 0, .int 3 0, .int 0 0, .int 0 0, .int 3 0, .ref 96, (.bool true), .int 181 0, .ref 97, .none, .ref 98, .ref 99, .ref 100, .int 309 0, .int 43 0, .str "/claim/cut.py" 310]
noncomputable def o144 (P : Params) : Obj := ff (fo (mf 10 3) "functor" "Symbols.functor" 3 [] .none .none .none (.str "clausemill.symbols" 194) none (.ref 101) .none 0)
noncomputable def o145 (P : Params) : Obj := tp []
noncomputable def o146 (P : Params) : Obj := fy []
noncomputable def o147 (P : Params) : Obj := tp [.str "self" 315, .str "text" 316, .str "arity" 317]
noncomputable def o148 (P : Params) : Obj := tp []
noncomputable def o149 (P : Params) : Obj := fx (fo (mf 10 4) "func" "Symbols.func" 0 [] .none .none .none .none none .none .none 0)
noncomputable def o150 (P : Params) : Obj := fl "code" [.str "func" 312, .str "Symbols.func" 313, .str "/claim/cut.py" 314, .int 53 0, .int 3 0, .int 0 0, .int 0 0, .int 3 0, .ref 103, (.bool true), .int 181 0, .ref 104, .none, .ref 105, .ref 106, .ref 107, .int 318 0, .int 53 0, .str "/claim/cut.py" 319]
noncomputable def o151 (P : Params) : Obj := ff (fo (mf 10 4) "func" "Symbols.func" 3 [] .none .none .none (.str "clausemill.symbols" 194) none (.ref 108) .none 0)
noncomputable def o152 (P : Params) : Obj := tp []
noncomputable def o153 (P : Params) : Obj := fy []
noncomputable def o154 (P : Params) : Obj := tp [.str "self" 324, .str "functor" 325]
noncomputable def o155 (P : Params) : Obj := tp []
noncomputable def o156 (P : Params) : Obj := fx (fo (mf 10 5) "name" "Symbols.name" 0 [] .none .none .none .none none .none .none 0)
noncomputable def o157 (P : Params) : Obj := fl "code" [.str "name" 321, .str "Symbols.name" 322, .str "/claim/cut.py" 323, .int 56 0, .int 2 0, .int 0 0, .int 0 0, .int 3 0, .ref 110, (.bool true), .int 181 0, .ref 111, .none, .ref 112, .ref 113, .ref 114, .int 326 0, .int 56 0, .str "/claim/cut.py" 327]
noncomputable def o158 (P : Params) : Obj := ff (fo (mf 10 5) "name" "Symbols.name" 3 [] .none .none .none (.str "clausemill.symbols" 194) none (.ref 115) .none 0)
noncomputable def o159 (P : Params) : Obj := tp []
noncomputable def o160 (P : Params) : Obj := fy []
noncomputable def o161 (P : Params) : Obj := tp [.str "self" 332, .str "functor" 333]
noncomputable def o162 (P : Params) : Obj := tp []
noncomputable def o163 (P : Params) : Obj := fx (fo (mf 10 6) "arity" "Symbols.arity" 0 [] .none .none .none .none none .none .none 0)
noncomputable def o164 (P : Params) : Obj := fl "code" [.str "arity" 329, .str "Symbols.arity" 330, .str "/claim/cut.py" 331, .int 59 0, .int 2 0, .int 0 0, .int 0 0, .int 3 0, .ref 117, (.bool true), .int 181 0, .ref 118, .none, .ref 119, .ref 120, .ref 121, .int 334 0, .int 59 0, .str "/claim/cut.py" 335]
noncomputable def o165 (P : Params) : Obj := ff (fo (mf 10 6) "arity" "Symbols.arity" 3 [] .none .none .none (.str "clausemill.symbols" 194) none (.ref 122) .none 0)
noncomputable def o166 (P : Params) : Obj := tp []
noncomputable def o167 (P : Params) : Obj := fy []
noncomputable def o168 (P : Params) : Obj := tp [.str "self" 340, .str "functor" 341]
noncomputable def o169 (P : Params) : Obj := tp []
noncomputable def o170 (P : Params) : Obj := fx (fo (mf 10 7) "label" "Symbols.label" 0 [] .none .none .none .none none .none .none 0)
noncomputable def o171 (P : Params) : Obj := fl "code" [.str "label" 337, .str "Symbols.label" 338, .str "/claim/cut.py" 339, .int 62 0, .int 2 0, .int 0 0, .int 0 0, .int 3 0, .ref 124, (.bool true), .int 181 0, .ref 125, .none, .ref 126, .ref 127, .ref 128, .int 342 0, .int 62 0, .str "/claim/cut.py" 343]
noncomputable def o172 (P : Params) : Obj := ff (fo (mf 10 7) "label" "Symbols.label" 3 [] .none .none .none (.str "clausemill.symbols" 194) none (.ref 129) .none 0)
noncomputable def o173 (P : Params) : Obj := tp []
noncomputable def o174 (P : Params) : Obj := fy []
noncomputable def o175 (P : Params) : Obj := tp [.str "self" 348]
noncomputable def o176 (P : Params) : Obj := tp []
noncomputable def o177 (P : Params) : Obj := fx (fo (mf 10 8) "count" "Symbols.count" 0 [] .none .none .none .none none .none .none 0)
noncomputable def o178 (P : Params) : Obj := fl "code" [.str "count" 345, .str "Symbols.count" 346, .str "/claim/cut.py" 347, .int 65 0, .int 1 0, .int 0 0, .int 0 0, .int 3 0, .ref 131, (.bool true), .int 181 0, .ref 132, .none, .ref 133, .ref 134, .ref 135, .int 349 0, .int 65 0, .str "/claim/cut.py" 350]
noncomputable def o179 (P : Params) : Obj := ff (fo (mf 10 8) "count" "Symbols.count" 3 [] .none .none .none (.str "clausemill.symbols" 194) none (.ref 136) .none 0)
noncomputable def o180 (P : Params) : Obj := tp []
noncomputable def o181 (P : Params) : Obj := fy []
noncomputable def o182 (P : Params) : Obj := tp [.str "self" 355]
noncomputable def o183 (P : Params) : Obj := tp []
noncomputable def o184 (P : Params) : Obj := fx (fo (mf 10 9) "functor_count" "Symbols.functor_count" 0 [] .none .none .none .none none .none .none 0)
noncomputable def o185 (P : Params) : Obj := fl "code" [.str "functor_count" 352, .str "Symbols.functor_count" 353, .str "/claim/cut.py" 354, .int 68 0, .int 1 0, .int 0 0, .int 0 0, .int 3 0, .ref 138, (.bool true), .int 181 0, .ref 139, .none, .ref 140, .ref 141, .ref 142, .int 356 0, .int 68 0, .str "/claim/cut.py" 357]
noncomputable def o186 (P : Params) : Obj := ff (fo (mf 10 9) "functor_count" "Symbols.functor_count" 3 [] .none .none .none (.str "clausemill.symbols" 194) none (.ref 143) .none 0)
noncomputable def o187 (P : Params) : Obj := tp []
noncomputable def o188 (P : Params) : Obj := fy []
noncomputable def o189 (P : Params) : Obj := tp [.str "self" 362, .str "text" 363, .str "arity" 364, .str "atom" 365]
noncomputable def o190 (P : Params) : Obj := tp []
noncomputable def o191 (P : Params) : Obj := fx (fo (mf 10 10) "known" "Symbols.known" 0 [] .none .none .none .none none .none .none 0)
noncomputable def o192 (P : Params) : Obj := fl "code" [.str "known" 359, .str "Symbols.known" 360, .str "/claim/cut.py" 361, .int 71 0, .int 3 0, .int 0 0, .int 0 0, .int 3 0, .ref 145, (.bool true), .int 181 0, .ref 146, .none, .ref 147, .ref 148, .ref 149, .int 366 0, .int 71 0, .str "/claim/cut.py" 367]
noncomputable def o193 (P : Params) : Obj := ff (fo (mf 10 10) "known" "Symbols.known" 3 [] .none .none .none (.str "clausemill.symbols" 194) none (.ref 150) .none 0)
noncomputable def o194 (P : Params) : Obj := tp [.str "atom_numbers" 369, .str "functor_numbers" 370, .str "functors" 371, .str "texts" 372]
noncomputable def o195 (P : Params) : Obj := ⟨.type "dict", none, (.dict ⟨[de P "__module__" 268 (.str "clausemill.symbols" 194), de P "__firstlineno__" 272 (.int 19 271), de P "__init__" 281 (.ref 81), de P "atom" 291 (.ref 88), de P "text" 299 (.ref 95), de P "functor" 311 (.ref 102), de P "func" 320 (.ref 109), de P "name" 328 (.ref 116), de P "arity" 336 (.ref 123), de P "label" 344 (.ref 130), de P "count" 351 (.ref 137), de P "functor_count" 358 (.ref 144), de P "known" 368 (.ref 151), de P "__static_attributes__" 373 (.ref 152), de P "__dict__" 375 (.ref 155), de P "__weakref__" 377 (.ref 156), de P "__doc__" 378 .none]⟩ 4), ⟨[]⟩⟩
noncomputable def o196 (P : Params) : Obj := ⟨.type "type", none, (.cls ⟨"Symbols", [.type "object"], [.ref 154, .type "object"], 153, "Symbols", true, [], [], false, none, false⟩), ⟨[none, none, (some (.str "Symbols" 261)), (some (.str "Symbols" 269)), (some (.builtin "object.__new__")), (some (.bool true))]⟩⟩
noncomputable def o197 (P : Params) : Obj := fl "getset_descriptor" [.str "__dict__" 374, .ref 154, .builtin "function.__dict__", .builtin "function.__dict__#set"]
noncomputable def o198 (P : Params) : Obj := fl "getset_descriptor" [.str "__weakref__" 376, .ref 154, .builtin "ExceptionGroup.__weakref__", .none]
noncomputable def o199 (P : Params) : Obj := fl "super" [.ref 154, .ref 154, .ref 154]
noncomputable def o200 (P : Params) : Obj := fl "builtin_function_or_method" [.builtin "object.__init_subclass__", .ref 154]
noncomputable def o203 (P : Params) : Obj := tp []
noncomputable def o204 (P : Params) : Obj := fy []
noncomputable def o205 (P : Params) : Obj := tp [.str "formal" 386]
noncomputable def o206 (P : Params) : Obj := tp []
noncomputable def o207 (P : Params) : Obj := fx (fo (tf 12) "system_error" "system_error" 0 [] .none .none .none .none none .none .none 0)
noncomputable def o208 (P : Params) : Obj := fl "code" [.str "system_error" 383, .str "system_error" 384, .str "/claim/cut.py" 385, .int 77 0, .int 1 0, .int 0 0, .int 0 0, .int 3 0, .ref 159, (.bool true), .int 181 0, .ref 160, .none, .ref 161, .ref 162, .ref 163, .int 387 0, .int 77 0, .str "/claim/cut.py" 388]
noncomputable def o209 (P : Params) : Obj := ff (fo (tf 12) "system_error" "system_error" 3 [] .none .none .none (.str "clausemill.terms" 381) none (.ref 164) .none 0)
noncomputable def o210 (P : Params) : Obj := tp []
noncomputable def o211 (P : Params) : Obj := fy []
noncomputable def o212 (P : Params) : Obj := tp [.str "symbols" 393, .str "name" 394, .str "parts" 395, .str "args" 396, .str "part" 397]
noncomputable def o213 (P : Params) : Obj := tp []
noncomputable def o214 (P : Params) : Obj := fx (fo (tf 13) "formal_of" "formal_of" 0 [] .none .none .none .none none .none .none 0)
noncomputable def o215 (P : Params) : Obj := fl "code" [.str "formal_of" 390, .str "formal_of" 391, .str "/claim/cut.py" 392, .int 79 0, .int 3 0, .int 0 0, .int 0 0, .int 3 0, .ref 166, (.bool true), .int 181 0, .ref 167, .none, .ref 168, .ref 169, .ref 170, .int 398 0, .int 79 0, .str "/claim/cut.py" 399]
noncomputable def o216 (P : Params) : Obj := ff (fo (tf 13) "formal_of" "formal_of" 3 [] .none .none .none (.str "clausemill.terms" 381) none (.ref 171) .none 0)
noncomputable def o217 (P : Params) : Obj := tp []
noncomputable def o218 (P : Params) : Obj := fy []
noncomputable def o219 (P : Params) : Obj := tp [.str "symbols" 404]
noncomputable def o220 (P : Params) : Obj := tp []
noncomputable def o221 (P : Params) : Obj := fx (fo (tf 14) "instantiation_error" "instantiation_error" 0 [] .none .none .none .none none .none .none 0)
noncomputable def o222 (P : Params) : Obj := fl "code" [.str "instantiation_error" 401, .str "instantiation_error" 402, .str "/claim/cut.py" 403, .int 84 0, .int 1 0, .int 0 0, .int 0 0, .int 3 0, .ref 173, (.bool true), .int 181 0, .ref 174, .none, .ref 175, .ref 176, .ref 177, .int 405 0, .int 84 0, .str "/claim/cut.py" 406]
noncomputable def o223 (P : Params) : Obj := ff (fo (tf 14) "instantiation_error" "instantiation_error" 3 [] .none .none .none (.str "clausemill.terms" 381) none (.ref 178) .none 0)
noncomputable def o224 (P : Params) : Obj := tp []
noncomputable def o225 (P : Params) : Obj := fy []
noncomputable def o226 (P : Params) : Obj := tp [.str "symbols" 411, .str "kind" 412, .str "culprit" 413]
noncomputable def o227 (P : Params) : Obj := tp []
noncomputable def o228 (P : Params) : Obj := fx (fo (tf 15) "type_error" "type_error" 0 [] .none .none .none .none none .none .none 0)
noncomputable def o229 (P : Params) : Obj := fl "code" [.str "type_error" 408, .str "type_error" 409, .str "/claim/cut.py" 410, .int 86 0, .int 3 0, .int 0 0, .int 0 0, .int 3 0, .ref 180, (.bool true), .int 181 0, .ref 181, .none, .ref 182, .ref 183, .ref 184, .int 414 0, .int 86 0, .str "/claim/cut.py" 415]
noncomputable def o230 (P : Params) : Obj := ff (fo (tf 15) "type_error" "type_error" 3 [] .none .none .none (.str "clausemill.terms" 381) none (.ref 185) .none 0)
noncomputable def o231 (P : Params) : Obj := tp []
noncomputable def o232 (P : Params) : Obj := fy []
noncomputable def o233 (P : Params) : Obj := tp [.str "symbols" 420, .str "what" 421]
noncomputable def o234 (P : Params) : Obj := tp []
noncomputable def o235 (P : Params) : Obj := fx (fo (tf 16) "resource_error" "resource_error" 0 [] .none .none .none .none none .none .none 0)
noncomputable def o236 (P : Params) : Obj := fl "code" [.str "resource_error" 417, .str "resource_error" 418, .str "/claim/cut.py" 419, .int 88 0, .int 2 0, .int 0 0, .int 0 0, .int 3 0, .ref 187, (.bool true), .int 181 0, .ref 188, .none, .ref 189, .ref 190, .ref 191, .int 422 0, .int 88 0, .str "/claim/cut.py" 423]
noncomputable def o237 (P : Params) : Obj := ff (fo (tf 16) "resource_error" "resource_error" 3 [] .none .none .none (.str "clausemill.terms" 381) none (.ref 192) .none 0)
noncomputable def o238 (P : Params) : Obj := tp [.int 5 437, .int 0 441]
noncomputable def tr2 (P : Params) : BT := (Nd (boot_o_0 P) (Nd (boot_o_1 P) (Nd (o201 P) (Nd (boot_o_7 P) (Nd (o52 P) (Nd (o74 P) (Nd (o103 P) (Nd (o169 P) Nl Nl) (Nd (o235 P) Nl Nl)) (Nd (o137 P) (Nd (o203 P) Nl Nl) Nl)) (Nd (o87 P) (Nd (o121 P) (Nd (o185 P) Nl Nl) Nl) (Nd (o153 P) (Nd (o219 P) Nl Nl) Nl))) (Nd (o60 P) (Nd (o79 P) (Nd (o113 P) (Nd (o177 P) Nl Nl) Nl) (Nd (o145 P) (Nd (o211 P) Nl Nl) Nl)) (Nd (o95 P) (Nd (o129 P) (Nd (o193 P) Nl Nl) Nl) (Nd (o161 P) (Nd (o227 P) Nl Nl) Nl)))) (Nd (o43 P) (Nd (o56 P) (Nd (o75 P) (Nd (o107 P) (Nd (o173 P) Nl Nl) Nl) (Nd (o141 P) (Nd (o207 P) Nl Nl) Nl)) (Nd (o91 P) (Nd (o125 P) (Nd (o189 P) Nl Nl) Nl) (Nd (o157 P) (Nd (o223 P) Nl Nl) Nl))) (Nd (o64 P) (Nd (o83 P) (Nd (o117 P) (Nd (o181 P) Nl Nl) Nl) (Nd (o149 P) (Nd (o215 P) Nl Nl) Nl)) (Nd (o99 P) (Nd (o133 P) (Nd (o197 P) Nl Nl) Nl) (Nd (o165 P) (Nd (o231 P) Nl Nl) Nl))))) (Nd (boot_o_5 P) (Nd (boot_o_9 P) (Nd (o54 P) (Nd (o70 P) (Nd (o105 P) (Nd (o171 P) Nl Nl) (Nd (o237 P) Nl Nl)) (Nd (o139 P) (Nd (o205 P) Nl Nl) Nl)) (Nd (o89 P) (Nd (o123 P) (Nd (o187 P) Nl Nl) Nl) (Nd (o155 P) (Nd (o221 P) Nl Nl) Nl))) (Nd (o62 P) (Nd (o81 P) (Nd (o115 P) (Nd (o179 P) Nl Nl) Nl) (Nd (o147 P) (Nd (o213 P) Nl Nl) Nl)) (Nd (o97 P) (Nd (o131 P) (Nd (o195 P) Nl Nl) Nl) (Nd (o163 P) (Nd (o229 P) Nl Nl) Nl)))) (Nd (o45 P) (Nd (o58 P) (Nd (o77 P) (Nd (o111 P) (Nd (o175 P) Nl Nl) Nl) (Nd (o143 P) (Nd (o209 P) Nl Nl) Nl)) (Nd (o93 P) (Nd (o127 P) (Nd (o191 P) Nl Nl) Nl) (Nd (o159 P) (Nd (o225 P) Nl Nl) Nl))) (Nd (o66 P) (Nd (o85 P) (Nd (o119 P) (Nd (o183 P) Nl Nl) Nl) (Nd (o151 P) (Nd (o217 P) Nl Nl) Nl)) (Nd (o101 P) (Nd (o135 P) (Nd (o199 P) Nl Nl) Nl) (Nd (o167 P) (Nd (o233 P) Nl Nl) Nl)))))) (Nd (o49 P) (Nd (boot_o_4 P) (Nd (boot_o_8 P) (Nd (o53 P) (Nd (o69 P) (Nd (o104 P) (Nd (o170 P) Nl Nl) (Nd (o236 P) Nl Nl)) (Nd (o138 P) (Nd (o204 P) Nl Nl) Nl)) (Nd (o88 P) (Nd (o122 P) (Nd (o186 P) Nl Nl) Nl) (Nd (o154 P) (Nd (o220 P) Nl Nl) Nl))) (Nd (o61 P) (Nd (o80 P) (Nd (o114 P) (Nd (o178 P) Nl Nl) Nl) (Nd (o146 P) (Nd (o212 P) Nl Nl) Nl)) (Nd (o96 P) (Nd (o130 P) (Nd (o194 P) Nl Nl) Nl) (Nd (o162 P) (Nd (o228 P) Nl Nl) Nl)))) (Nd (o202 P) (Nd (o57 P) (Nd (o76 P) (Nd (o110 P) (Nd (o174 P) Nl Nl) Nl) (Nd (o142 P) (Nd (o208 P) Nl Nl) Nl)) (Nd (o92 P) (Nd (o126 P) (Nd (o190 P) Nl Nl) Nl) (Nd (o158 P) (Nd (o224 P) Nl Nl) Nl))) (Nd (o65 P) (Nd (o84 P) (Nd (o118 P) (Nd (o182 P) Nl Nl) Nl) (Nd (o150 P) (Nd (o216 P) Nl Nl) Nl)) (Nd (o100 P) (Nd (o134 P) (Nd (o198 P) Nl Nl) Nl) (Nd (o166 P) (Nd (o232 P) Nl Nl) Nl))))) (Nd (boot_o_6 P) (Nd (boot_o_10 P) (Nd (o55 P) (Nd (o71 P) (Nd (o106 P) (Nd (o172 P) Nl Nl) (Nd (o238 P) Nl Nl)) (Nd (o140 P) (Nd (o206 P) Nl Nl) Nl)) (Nd (o90 P) (Nd (o124 P) (Nd (o188 P) Nl Nl) Nl) (Nd (o156 P) (Nd (o222 P) Nl Nl) Nl))) (Nd (o63 P) (Nd (o82 P) (Nd (o116 P) (Nd (o180 P) Nl Nl) Nl) (Nd (o148 P) (Nd (o214 P) Nl Nl) Nl)) (Nd (o98 P) (Nd (o132 P) (Nd (o196 P) Nl Nl) Nl) (Nd (o164 P) (Nd (o230 P) Nl Nl) Nl)))) (Nd (o46 P) (Nd (o59 P) (Nd (o78 P) (Nd (o112 P) (Nd (o176 P) Nl Nl) Nl) (Nd (o144 P) (Nd (o210 P) Nl Nl) Nl)) (Nd (o94 P) (Nd (o128 P) (Nd (o192 P) Nl Nl) Nl) (Nd (o160 P) (Nd (o226 P) Nl Nl) Nl))) (Nd (o67 P) (Nd (o86 P) (Nd (o120 P) (Nd (o184 P) Nl Nl) Nl) (Nd (o152 P) (Nd (o218 P) Nl Nl) Nl)) (Nd (o102 P) (Nd (o136 P) (Nd (o200 P) Nl Nl) Nl) (Nd (o168 P) (Nd (o234 P) Nl Nl) Nl)))))))
noncomputable def o239 (P : Params) : Obj := ⟨.type "dict", none, (.dict ⟨[de P "__name__" 165 (.str "clausemill.store" 425), de P "__doc__" 166 .none, de P "__package__" 167 .none, de P "__loader__" 168 (.builtin "__main__.__loader__#opaque"), de P "__spec__" 169 .none, de P "__annotations__" 170 (.ref 6), de P "__builtins__" 171 (.ref 4), de P "__file__" 173 (.str "/claim/cut.py" 172), de P "__cached__" 174 .none, de P "_wall" 193 (.ref 21), de P "ClausemillError" 215 (.ref 31), de P "PrologError" 240 (.ref 51), de P "A_NIL" 242 (.int 0 241), de P "A_SYSTEM" 244 (.int 25 243), de P "F_DOT" 246 (.int 0 245), de P "F_ERROR" 248 (.int 16 247), de P "fixed_atoms" 254 (.ref 60), de P "fixed_functors" 260 (.ref 67), de P "Symbols" 380 (.ref 154), de P "system_error" 389 (.ref 165), de P "formal_of" 400 (.ref 172), de P "instantiation_error" 407 (.ref 179), de P "type_error" 416 (.ref 186), de P "resource_error" 424 (.ref 193), de P "REF" 428 (.int 0 427), de P "SRF" 430 (.int 1 429), de P "STR" 432 (.int 2 431), de P "LIS" 434 (.int 3 433), de P "CON" 436 (.int 4 435), de P "INT" 438 (.int 5 437), de P "FUN" 440 (.int 6 439), de P "VOID" 442 (.ref 194), de P "VISIT" 444 (.int 0 443), de P "BUILD" 446 (.int 1 445), de P "Cells" 640 (.ref 338)]⟩ 35), ⟨[]⟩⟩
noncomputable def o240 (P : Params) : Obj := fy [.int 1 0, .int 0 0, .ref 20, .int 5 0, .int 0 0, .ref 27, .int 7 0, .int 0 0, .ref 40, .int 15 0, .int 0 0, .ref 59, .int 17 0, .int 0 0, .ref 66, .int 19 0, .int 0 0, .ref 73, .int 77 0, .int 0 0, .ref 164, .int 79 0, .int 0 0, .ref 171, .int 84 0, .int 0 0, .ref 178, .int 86 0, .int 0 0, .ref 185, .int 88 0, .int 0 0, .ref 192, .int 101 0, .int 0 0, .ref 200]
noncomputable def o241 (P : Params) : Obj := tp []
noncomputable def o242 (P : Params) : Obj := fl "builtin_function_or_method" [.builtin "type.__prepare__", .type "type"]
noncomputable def o243 (P : Params) : Obj := ⟨.type "dict", none, (.dict ⟨[de P "__module__" 454 (.str "clausemill.store" 425), de P "__qualname__" 456 (.str "Cells" 455), de P "__firstlineno__" 458 (.int 101 457), de P "__init__" 468 (.ref 209), de P "push" 477 (.ref 216), de P "new_var" 485 (.ref 223), de P "reserve" 495 (.ref 230), de P "trim" 503 (.ref 237), de P "deref" 513 (.ref 244), de P "is_unbound" 521 (.ref 251), de P "bind" 531 (.ref 258), de P "bind_pair" 540 (.ref 265), de P "globalise" 549 (.ref 272), de P "mark" 556 (.ref 279), de P "undo_to" 564 (.ref 286), de P "stack_put" 573 (.ref 293), de P "is_compound" 581 (.ref 300), de P "functor_of" 590 (.ref 307), de P "width" 599 (.ref 314), de P "base" 607 (.ref 321), de P "arg" 616 (.ref 328), de P "new_block" 625 (.ref 335), de P "__static_attributes__" 633 (.ref 336)]⟩ 23), ⟨[]⟩⟩
noncomputable def o244 (P : Params) : Obj := tp []
noncomputable def o245 (P : Params) : Obj := fy [.int 103 0, .int 4 0, .ref 208, .int 112 0, .int 4 0, .ref 215, .int 119 0, .int 4 0, .ref 222, .int 124 0, .int 4 0, .ref 229, .int 132 0, .int 4 0, .ref 236, .int 135 0, .int 4 0, .ref 243, .int 148 0, .int 4 0, .ref 250, .int 151 0, .int 4 0, .ref 257, .int 162 0, .int 4 0, .ref 264, .int 175 0, .int 4 0, .ref 271, .int 183 0, .int 4 0, .ref 278, .int 186 0, .int 4 0, .ref 285, .int 189 0, .int 4 0, .ref 292, .int 192 0, .int 4 0, .ref 299, .int 195 0, .int 4 0, .ref 306, .int 205 0, .int 4 0, .ref 313, .int 213 0, .int 4 0, .ref 320, .int 218 0, .int 4 0, .ref 327, .int 221 0, .int 4 0, .ref 334]
noncomputable def o246 (P : Params) : Obj := fl "code" [.str "Cells" 449, .str "Cells" 450, .str "/claim/cut.py" 451, .int 101 0, .int 0 0, .int 0 0, .int 0 0, .int 0 0, .ref 198, (.bool false), .int 181 0, .ref 199, .none, .none, .none, .none, .int 452 0, .int 101 0, .str "/claim/cut.py" 453]
noncomputable def o247 (P : Params) : Obj := ⟨.type "frame", none, .plain, ⟨[(some (.ref 200)), (some (.ref 3)), (some (.ref 197)), none, (some (.str "clausemill.store" 425)), none, (some (.ref 0))]⟩⟩
noncomputable def o248 (P : Params) : Obj := tp [.int 100000 459]
noncomputable def o249 (P : Params) : Obj := tp []
noncomputable def o250 (P : Params) : Obj := fy []
noncomputable def o251 (P : Params) : Obj := tp [.str "self" 463, .str "symbols" 464, .str "max_heap" 465]
noncomputable def o252 (P : Params) : Obj := tp []
noncomputable def o253 (P : Params) : Obj := fx (fo (mf 28 0) "__init__" "Cells.__init__" 0 [] .none .none .none .none none .none .none 0)
noncomputable def o254 (P : Params) : Obj := fl "code" [.str "__init__" 460, .str "Cells.__init__" 461, .str "/claim/cut.py" 462, .int 103 0, .int 3 0, .int 0 0, .int 0 0, .int 3 0, .ref 203, (.bool true), .int 181 0, .ref 204, .none, .ref 205, .ref 206, .ref 207, .int 466 0, .int 103 0, .str "/claim/cut.py" 467]
noncomputable def o255 (P : Params) : Obj := ff (fo (mf 28 0) "__init__" "Cells.__init__" 3 [] (.ref 202) .none .none (.str "clausemill.store" 425) none (.ref 208) .none 0)
noncomputable def o256 (P : Params) : Obj := tp []
noncomputable def o257 (P : Params) : Obj := fy []
noncomputable def o258 (P : Params) : Obj := tp [.str "self" 472, .str "cell" 473, .str "address" 474]
noncomputable def o259 (P : Params) : Obj := tp []
noncomputable def o260 (P : Params) : Obj := fx (fo (mf 28 1) "push" "Cells.push" 0 [] .none .none .none .none none .none .none 0)
noncomputable def o261 (P : Params) : Obj := fl "code" [.str "push" 469, .str "Cells.push" 470, .str "/claim/cut.py" 471, .int 112 0, .int 2 0, .int 0 0, .int 0 0, .int 3 0, .ref 210, (.bool true), .int 181 0, .ref 211, .none, .ref 212, .ref 213, .ref 214, .int 475 0, .int 112 0, .str "/claim/cut.py" 476]
noncomputable def o262 (P : Params) : Obj := ff (fo (mf 28 1) "push" "Cells.push" 3 [] .none .none .none (.str "clausemill.store" 425) none (.ref 215) .none 0)
noncomputable def o263 (P : Params) : Obj := tp []
noncomputable def o264 (P : Params) : Obj := fy []
noncomputable def o265 (P : Params) : Obj := tp [.str "self" 481, .str "cell" 482]
noncomputable def o266 (P : Params) : Obj := tp []
noncomputable def o267 (P : Params) : Obj := fx (fo (mf 28 2) "new_var" "Cells.new_var" 0 [] .none .none .none .none none .none .none 0)
noncomputable def o268 (P : Params) : Obj := fl "code" [.str "new_var" 478, .str "Cells.new_var" 479, .str "/claim/cut.py" 480, .int 119 0, .int 1 0, .int 0 0, .int 0 0, .int 3 0, .ref 217, (.bool true), .int 181 0, .ref 218, .none, .ref 219, .ref 220, .ref 221, .int 483 0, .int 119 0, .str "/claim/cut.py" 484]
noncomputable def o269 (P : Params) : Obj := ff (fo (mf 28 2) "new_var" "Cells.new_var" 3 [] .none .none .none (.str "clausemill.store" 425) none (.ref 222) .none 0)
noncomputable def o270 (P : Params) : Obj := tp []
noncomputable def o271 (P : Params) : Obj := fy []
noncomputable def o272 (P : Params) : Obj := tp [.str "self" 489, .str "count" 490, .str "first" 491, .str "step" 492]
noncomputable def o273 (P : Params) : Obj := tp []
noncomputable def o274 (P : Params) : Obj := fx (fo (mf 28 3) "reserve" "Cells.reserve" 0 [] .none .none .none .none none .none .none 0)
noncomputable def o275 (P : Params) : Obj := fl "code" [.str "reserve" 486, .str "Cells.reserve" 487, .str "/claim/cut.py" 488, .int 124 0, .int 2 0, .int 0 0, .int 0 0, .int 3 0, .ref 224, (.bool true), .int 181 0, .ref 225, .none, .ref 226, .ref 227, .ref 228, .int 493 0, .int 124 0, .str "/claim/cut.py" 494]
noncomputable def o276 (P : Params) : Obj := ff (fo (mf 28 3) "reserve" "Cells.reserve" 3 [] .none .none .none (.str "clausemill.store" 425) none (.ref 229) .none 0)
noncomputable def o277 (P : Params) : Obj := tp []
noncomputable def o278 (P : Params) : Obj := fy []
noncomputable def o279 (P : Params) : Obj := tp [.str "self" 499, .str "h" 500]
noncomputable def o280 (P : Params) : Obj := tp []
noncomputable def o281 (P : Params) : Obj := fx (fo (mf 28 4) "trim" "Cells.trim" 0 [] .none .none .none .none none .none .none 0)
noncomputable def o282 (P : Params) : Obj := fl "code" [.str "trim" 496, .str "Cells.trim" 497, .str "/claim/cut.py" 498, .int 132 0, .int 2 0, .int 0 0, .int 0 0, .int 3 0, .ref 231, (.bool true), .int 181 0, .ref 232, .none, .ref 233, .ref 234, .ref 235, .int 501 0, .int 132 0, .str "/claim/cut.py" 502]
noncomputable def o283 (P : Params) : Obj := ff (fo (mf 28 4) "trim" "Cells.trim" 3 [] .none .none .none (.str "clausemill.store" 425) none (.ref 236) .none 0)
noncomputable def o284 (P : Params) : Obj := tp []
noncomputable def o285 (P : Params) : Obj := fy []
noncomputable def o286 (P : Params) : Obj := tp [.str "self" 507, .str "cell" 508, .str "tag" 509, .str "found" 510]
noncomputable def o287 (P : Params) : Obj := tp []
noncomputable def o288 (P : Params) : Obj := fx (fo (mf 28 5) "deref" "Cells.deref" 0 [] .none .none .none .none none .none .none 0)
noncomputable def o289 (P : Params) : Obj := fl "code" [.str "deref" 504, .str "Cells.deref" 505, .str "/claim/cut.py" 506, .int 135 0, .int 2 0, .int 0 0, .int 0 0, .int 3 0, .ref 238, (.bool true), .int 181 0, .ref 239, .none, .ref 240, .ref 241, .ref 242, .int 511 0, .int 135 0, .str "/claim/cut.py" 512]
noncomputable def o290 (P : Params) : Obj := ff (fo (mf 28 5) "deref" "Cells.deref" 3 [] .none .none .none (.str "clausemill.store" 425) none (.ref 243) .none 0)
noncomputable def o291 (P : Params) : Obj := tp []
noncomputable def o292 (P : Params) : Obj := fy []
noncomputable def o293 (P : Params) : Obj := tp [.str "self" 517, .str "cell" 518]
noncomputable def o294 (P : Params) : Obj := tp []
noncomputable def o295 (P : Params) : Obj := fx (fo (mf 28 6) "is_unbound" "Cells.is_unbound" 0 [] .none .none .none .none none .none .none 0)
noncomputable def o296 (P : Params) : Obj := fl "code" [.str "is_unbound" 514, .str "Cells.is_unbound" 515, .str "/claim/cut.py" 516, .int 148 0, .int 2 0, .int 0 0, .int 0 0, .int 3 0, .ref 245, (.bool true), .int 181 0, .ref 246, .none, .ref 247, .ref 248, .ref 249, .int 519 0, .int 148 0, .str "/claim/cut.py" 520]
noncomputable def o297 (P : Params) : Obj := ff (fo (mf 28 6) "is_unbound" "Cells.is_unbound" 3 [] .none .none .none (.str "clausemill.store" 425) none (.ref 250) .none 0)
noncomputable def o298 (P : Params) : Obj := tp []
noncomputable def o299 (P : Params) : Obj := fy []
noncomputable def o300 (P : Params) : Obj := tp [.str "self" 525, .str "cell" 526, .str "value" 527, .str "place" 528]
noncomputable def o301 (P : Params) : Obj := tp []
noncomputable def o302 (P : Params) : Obj := fx (fo (mf 28 7) "bind" "Cells.bind" 0 [] .none .none .none .none none .none .none 0)
noncomputable def o303 (P : Params) : Obj := fl "code" [.str "bind" 522, .str "Cells.bind" 523, .str "/claim/cut.py" 524, .int 151 0, .int 3 0, .int 0 0, .int 0 0, .int 3 0, .ref 252, (.bool true), .int 181 0, .ref 253, .none, .ref 254, .ref 255, .ref 256, .int 529 0, .int 151 0, .str "/claim/cut.py" 530]
noncomputable def o304 (P : Params) : Obj := ff (fo (mf 28 7) "bind" "Cells.bind" 3 [] .none .none .none (.str "clausemill.store" 425) none (.ref 257) .none 0)
noncomputable def o305 (P : Params) : Obj := tp []
noncomputable def o306 (P : Params) : Obj := fy []
noncomputable def o307 (P : Params) : Obj := tp [.str "self" 535, .str "c1" 536, .str "c2" 537]
noncomputable def o308 (P : Params) : Obj := tp []
noncomputable def o309 (P : Params) : Obj := fx (fo (mf 28 8) "bind_pair" "Cells.bind_pair" 0 [] .none .none .none .none none .none .none 0)
noncomputable def o310 (P : Params) : Obj := fl "code" [.str "bind_pair" 532, .str "Cells.bind_pair" 533, .str "/claim/cut.py" 534, .int 162 0, .int 3 0, .int 0 0, .int 0 0, .int 3 0, .ref 259, (.bool true), .int 181 0, .ref 260, .none, .ref 261, .ref 262, .ref 263, .int 538 0, .int 162 0, .str "/claim/cut.py" 539]
noncomputable def o311 (P : Params) : Obj := ff (fo (mf 28 8) "bind_pair" "Cells.bind_pair" 3 [] .none .none .none (.str "clausemill.store" 425) none (.ref 264) .none 0)
noncomputable def o312 (P : Params) : Obj := tp []
noncomputable def o313 (P : Params) : Obj := fy []
noncomputable def o314 (P : Params) : Obj := tp [.str "self" 544, .str "cell" 545, .str "fresh" 546]
noncomputable def o315 (P : Params) : Obj := tp []
noncomputable def o316 (P : Params) : Obj := fx (fo (mf 28 9) "globalise" "Cells.globalise" 0 [] .none .none .none .none none .none .none 0)
noncomputable def o317 (P : Params) : Obj := fl "code" [.str "globalise" 541, .str "Cells.globalise" 542, .str "/claim/cut.py" 543, .int 175 0, .int 2 0, .int 0 0, .int 0 0, .int 3 0, .ref 266, (.bool true), .int 181 0, .ref 267, .none, .ref 268, .ref 269, .ref 270, .int 547 0, .int 175 0, .str "/claim/cut.py" 548]
noncomputable def o318 (P : Params) : Obj := ff (fo (mf 28 9) "globalise" "Cells.globalise" 3 [] .none .none .none (.str "clausemill.store" 425) none (.ref 271) .none 0)
noncomputable def o319 (P : Params) : Obj := tp []
noncomputable def o320 (P : Params) : Obj := fy []
noncomputable def o321 (P : Params) : Obj := tp [.str "self" 553]
noncomputable def o322 (P : Params) : Obj := tp []
noncomputable def o323 (P : Params) : Obj := fx (fo (mf 28 10) "mark" "Cells.mark" 0 [] .none .none .none .none none .none .none 0)
noncomputable def o324 (P : Params) : Obj := fl "code" [.str "mark" 550, .str "Cells.mark" 551, .str "/claim/cut.py" 552, .int 183 0, .int 1 0, .int 0 0, .int 0 0, .int 3 0, .ref 273, (.bool true), .int 181 0, .ref 274, .none, .ref 275, .ref 276, .ref 277, .int 554 0, .int 183 0, .str "/claim/cut.py" 555]
noncomputable def o325 (P : Params) : Obj := ff (fo (mf 28 10) "mark" "Cells.mark" 3 [] .none .none .none (.str "clausemill.store" 425) none (.ref 278) .none 0)
noncomputable def o326 (P : Params) : Obj := tp []
noncomputable def o327 (P : Params) : Obj := fy []
noncomputable def o328 (P : Params) : Obj := tp [.str "self" 560, .str "mark" 561]
noncomputable def o329 (P : Params) : Obj := tp []
noncomputable def o330 (P : Params) : Obj := fx (fo (mf 28 11) "undo_to" "Cells.undo_to" 0 [] .none .none .none .none none .none .none 0)
noncomputable def o331 (P : Params) : Obj := fl "code" [.str "undo_to" 557, .str "Cells.undo_to" 558, .str "/claim/cut.py" 559, .int 186 0, .int 2 0, .int 0 0, .int 0 0, .int 3 0, .ref 280, (.bool true), .int 181 0, .ref 281, .none, .ref 282, .ref 283, .ref 284, .int 562 0, .int 186 0, .str "/claim/cut.py" 563]
noncomputable def o332 (P : Params) : Obj := ff (fo (mf 28 11) "undo_to" "Cells.undo_to" 3 [] .none .none .none (.str "clausemill.store" 425) none (.ref 285) .none 0)
noncomputable def o333 (P : Params) : Obj := tp []
noncomputable def o334 (P : Params) : Obj := fy []
noncomputable def o335 (P : Params) : Obj := tp [.str "self" 568, .str "i" 569, .str "value" 570]
noncomputable def o336 (P : Params) : Obj := tp []
noncomputable def o337 (P : Params) : Obj := fx (fo (mf 28 12) "stack_put" "Cells.stack_put" 0 [] .none .none .none .none none .none .none 0)
noncomputable def o338 (P : Params) : Obj := fl "code" [.str "stack_put" 565, .str "Cells.stack_put" 566, .str "/claim/cut.py" 567, .int 189 0, .int 3 0, .int 0 0, .int 0 0, .int 3 0, .ref 287, (.bool true), .int 181 0, .ref 288, .none, .ref 289, .ref 290, .ref 291, .int 571 0, .int 189 0, .str "/claim/cut.py" 572]
noncomputable def o339 (P : Params) : Obj := ff (fo (mf 28 12) "stack_put" "Cells.stack_put" 3 [] .none .none .none (.str "clausemill.store" 425) none (.ref 292) .none 0)
noncomputable def o340 (P : Params) : Obj := tp []
noncomputable def o341 (P : Params) : Obj := fy []
noncomputable def o342 (P : Params) : Obj := tp [.str "self" 577, .str "cell" 578]
noncomputable def o343 (P : Params) : Obj := tp []
noncomputable def o344 (P : Params) : Obj := fx (fo (mf 28 13) "is_compound" "Cells.is_compound" 0 [] .none .none .none .none none .none .none 0)
noncomputable def o345 (P : Params) : Obj := fl "code" [.str "is_compound" 574, .str "Cells.is_compound" 575, .str "/claim/cut.py" 576, .int 192 0, .int 2 0, .int 0 0, .int 0 0, .int 3 0, .ref 294, (.bool true), .int 181 0, .ref 295, .none, .ref 296, .ref 297, .ref 298, .int 579 0, .int 192 0, .str "/claim/cut.py" 580]
noncomputable def o346 (P : Params) : Obj := ff (fo (mf 28 13) "is_compound" "Cells.is_compound" 3 [] .none .none .none (.str "clausemill.store" 425) none (.ref 299) .none 0)
noncomputable def o347 (P : Params) : Obj := tp []
noncomputable def o348 (P : Params) : Obj := fy []
noncomputable def o349 (P : Params) : Obj := tp [.str "self" 585, .str "cell" 586, .str "tag" 587]
noncomputable def o350 (P : Params) : Obj := tp []
noncomputable def o351 (P : Params) : Obj := fx (fo (mf 28 14) "functor_of" "Cells.functor_of" 0 [] .none .none .none .none none .none .none 0)
noncomputable def o352 (P : Params) : Obj := fl "code" [.str "functor_of" 582, .str "Cells.functor_of" 583, .str "/claim/cut.py" 584, .int 195 0, .int 2 0, .int 0 0, .int 0 0, .int 3 0, .ref 301, (.bool true), .int 181 0, .ref 302, .none, .ref 303, .ref 304, .ref 305, .int 588 0, .int 195 0, .str "/claim/cut.py" 589]
noncomputable def o353 (P : Params) : Obj := ff (fo (mf 28 14) "functor_of" "Cells.functor_of" 3 [] .none .none .none (.str "clausemill.store" 425) none (.ref 306) .none 0)
noncomputable def o354 (P : Params) : Obj := tp []
noncomputable def o355 (P : Params) : Obj := fy []
noncomputable def o356 (P : Params) : Obj := tp [.str "self" 594, .str "cell" 595, .str "tag" 596]
noncomputable def o357 (P : Params) : Obj := tp []
noncomputable def o358 (P : Params) : Obj := fx (fo (mf 28 15) "width" "Cells.width" 0 [] .none .none .none .none none .none .none 0)
noncomputable def o359 (P : Params) : Obj := fl "code" [.str "width" 591, .str "Cells.width" 592, .str "/claim/cut.py" 593, .int 205 0, .int 2 0, .int 0 0, .int 0 0, .int 3 0, .ref 308, (.bool true), .int 181 0, .ref 309, .none, .ref 310, .ref 311, .ref 312, .int 597 0, .int 205 0, .str "/claim/cut.py" 598]
noncomputable def o360 (P : Params) : Obj := ff (fo (mf 28 15) "width" "Cells.width" 3 [] .none .none .none (.str "clausemill.store" 425) none (.ref 313) .none 0)
noncomputable def o361 (P : Params) : Obj := tp []
noncomputable def o362 (P : Params) : Obj := fy []
noncomputable def o363 (P : Params) : Obj := tp [.str "self" 603, .str "cell" 604]
noncomputable def o364 (P : Params) : Obj := tp []
noncomputable def o365 (P : Params) : Obj := fx (fo (mf 28 16) "base" "Cells.base" 0 [] .none .none .none .none none .none .none 0)
noncomputable def o366 (P : Params) : Obj := fl "code" [.str "base" 600, .str "Cells.base" 601, .str "/claim/cut.py" 602, .int 213 0, .int 2 0, .int 0 0, .int 0 0, .int 3 0, .ref 315, (.bool true), .int 181 0, .ref 316, .none, .ref 317, .ref 318, .ref 319, .int 605 0, .int 213 0, .str "/claim/cut.py" 606]
noncomputable def o367 (P : Params) : Obj := ff (fo (mf 28 16) "base" "Cells.base" 3 [] .none .none .none (.str "clausemill.store" 425) none (.ref 320) .none 0)
noncomputable def o368 (P : Params) : Obj := tp []
noncomputable def o369 (P : Params) : Obj := fy []
noncomputable def o370 (P : Params) : Obj := tp [.str "self" 611, .str "cell" 612, .str "i" 613]
noncomputable def o371 (P : Params) : Obj := tp []
noncomputable def o372 (P : Params) : Obj := fx (fo (mf 28 17) "arg" "Cells.arg" 0 [] .none .none .none .none none .none .none 0)
noncomputable def o373 (P : Params) : Obj := fl "code" [.str "arg" 608, .str "Cells.arg" 609, .str "/claim/cut.py" 610, .int 218 0, .int 3 0, .int 0 0, .int 0 0, .int 3 0, .ref 322, (.bool true), .int 181 0, .ref 323, .none, .ref 324, .ref 325, .ref 326, .int 614 0, .int 218 0, .str "/claim/cut.py" 615]
noncomputable def o374 (P : Params) : Obj := ff (fo (mf 28 17) "arg" "Cells.arg" 3 [] .none .none .none (.str "clausemill.store" 425) none (.ref 327) .none 0)
noncomputable def o375 (P : Params) : Obj := tp []
noncomputable def o376 (P : Params) : Obj := fy []
noncomputable def o377 (P : Params) : Obj := tp [.str "self" 620, .str "f" 621, .str "start" 622]
noncomputable def o378 (P : Params) : Obj := tp []
noncomputable def o379 (P : Params) : Obj := fx (fo (mf 28 18) "new_block" "Cells.new_block" 0 [] .none .none .none .none none .none .none 0)
noncomputable def o380 (P : Params) : Obj := fl "code" [.str "new_block" 617, .str "Cells.new_block" 618, .str "/claim/cut.py" 619, .int 221 0, .int 2 0, .int 0 0, .int 0 0, .int 3 0, .ref 329, (.bool true), .int 181 0, .ref 330, .none, .ref 331, .ref 332, .ref 333, .int 623 0, .int 221 0, .str "/claim/cut.py" 624]
noncomputable def o381 (P : Params) : Obj := ff (fo (mf 28 18) "new_block" "Cells.new_block" 3 [] .none .none .none (.str "clausemill.store" 425) none (.ref 334) .none 0)
noncomputable def o382 (P : Params) : Obj := tp [.str "bb" 626, .str "hb" 627, .str "heap" 628, .str "max_heap" 629, .str "stack" 630, .str "symbols" 631, .str "trail" 632]
noncomputable def o383 (P : Params) : Obj := ⟨.type "dict", none, (.dict ⟨[de P "__module__" 454 (.str "clausemill.store" 425), de P "__firstlineno__" 458 (.int 101 457), de P "__init__" 468 (.ref 209), de P "push" 477 (.ref 216), de P "new_var" 485 (.ref 223), de P "reserve" 495 (.ref 230), de P "trim" 503 (.ref 237), de P "deref" 513 (.ref 244), de P "is_unbound" 521 (.ref 251), de P "bind" 531 (.ref 258), de P "bind_pair" 540 (.ref 265), de P "globalise" 549 (.ref 272), de P "mark" 556 (.ref 279), de P "undo_to" 564 (.ref 286), de P "stack_put" 573 (.ref 293), de P "is_compound" 581 (.ref 300), de P "functor_of" 590 (.ref 307), de P "width" 599 (.ref 314), de P "base" 607 (.ref 321), de P "arg" 616 (.ref 328), de P "new_block" 625 (.ref 335), de P "__static_attributes__" 633 (.ref 336), de P "__dict__" 635 (.ref 339), de P "__weakref__" 637 (.ref 340), de P "__doc__" 638 .none]⟩ 4), ⟨[]⟩⟩
noncomputable def o384 (P : Params) : Obj := ⟨.type "type", none, (.cls ⟨"Cells", [.type "object"], [.ref 338, .type "object"], 337, "Cells", true, [], [], false, none, false⟩), ⟨[none, none, (some (.str "Cells" 447)), (some (.str "Cells" 455)), (some (.builtin "object.__new__")), (some (.bool true))]⟩⟩
noncomputable def o385 (P : Params) : Obj := fl "getset_descriptor" [.str "__dict__" 634, .ref 338, .builtin "function.__dict__", .builtin "function.__dict__#set"]
noncomputable def o386 (P : Params) : Obj := fl "getset_descriptor" [.str "__weakref__" 636, .ref 338, .builtin "ExceptionGroup.__weakref__", .none]
noncomputable def o387 (P : Params) : Obj := fl "super" [.ref 338, .ref 338, .ref 338]
noncomputable def o388 (P : Params) : Obj := fl "builtin_function_or_method" [.builtin "object.__init_subclass__", .ref 338]
noncomputable def tr3 (P : Params) : BT := (Nd (boot_o_0 P) (Nd (boot_o_1 P) (Nd (o239 P) (Nd (boot_o_7 P) (Nd (o52 P) (Nd (o74 P) (Nd (o103 P) (Nd (o169 P) (Nd (o301 P) Nl Nl) Nl) (Nd (o235 P) (Nd (o365 P) Nl Nl) Nl)) (Nd (o137 P) (Nd (o203 P) (Nd (o333 P) Nl Nl) Nl) (Nd (o269 P) Nl Nl))) (Nd (o87 P) (Nd (o121 P) (Nd (o185 P) (Nd (o317 P) Nl Nl) Nl) (Nd (o253 P) (Nd (o381 P) Nl Nl) Nl)) (Nd (o153 P) (Nd (o219 P) (Nd (o349 P) Nl Nl) Nl) (Nd (o285 P) Nl Nl)))) (Nd (o60 P) (Nd (o79 P) (Nd (o113 P) (Nd (o177 P) (Nd (o309 P) Nl Nl) Nl) (Nd (o245 P) (Nd (o373 P) Nl Nl) Nl)) (Nd (o145 P) (Nd (o211 P) (Nd (o341 P) Nl Nl) Nl) (Nd (o277 P) Nl Nl))) (Nd (o95 P) (Nd (o129 P) (Nd (o193 P) (Nd (o325 P) Nl Nl) Nl) (Nd (o261 P) Nl Nl)) (Nd (o161 P) (Nd (o227 P) (Nd (o357 P) Nl Nl) Nl) (Nd (o293 P) Nl Nl))))) (Nd (o43 P) (Nd (o56 P) (Nd (o75 P) (Nd (o107 P) (Nd (o173 P) (Nd (o305 P) Nl Nl) Nl) (Nd (o241 P) (Nd (o369 P) Nl Nl) Nl)) (Nd (o141 P) (Nd (o207 P) (Nd (o337 P) Nl Nl) Nl) (Nd (o273 P) Nl Nl))) (Nd (o91 P) (Nd (o125 P) (Nd (o189 P) (Nd (o321 P) Nl Nl) Nl) (Nd (o257 P) (Nd (o385 P) Nl Nl) Nl)) (Nd (o157 P) (Nd (o223 P) (Nd (o353 P) Nl Nl) Nl) (Nd (o289 P) Nl Nl)))) (Nd (o64 P) (Nd (o83 P) (Nd (o117 P) (Nd (o181 P) (Nd (o313 P) Nl Nl) Nl) (Nd (o249 P) (Nd (o377 P) Nl Nl) Nl)) (Nd (o149 P) (Nd (o215 P) (Nd (o345 P) Nl Nl) Nl) (Nd (o281 P) Nl Nl))) (Nd (o99 P) (Nd (o133 P) (Nd (o197 P) (Nd (o329 P) Nl Nl) Nl) (Nd (o265 P) Nl Nl)) (Nd (o165 P) (Nd (o231 P) (Nd (o361 P) Nl Nl) Nl) (Nd (o297 P) Nl Nl)))))) (Nd (boot_o_5 P) (Nd (boot_o_9 P) (Nd (o54 P) (Nd (o70 P) (Nd (o105 P) (Nd (o171 P) (Nd (o303 P) Nl Nl) Nl) (Nd (o237 P) (Nd (o367 P) Nl Nl) Nl)) (Nd (o139 P) (Nd (o205 P) (Nd (o335 P) Nl Nl) Nl) (Nd (o271 P) Nl Nl))) (Nd (o89 P) (Nd (o123 P) (Nd (o187 P) (Nd (o319 P) Nl Nl) Nl) (Nd (o255 P) (Nd (o383 P) Nl Nl) Nl)) (Nd (o155 P) (Nd (o221 P) (Nd (o351 P) Nl Nl) Nl) (Nd (o287 P) Nl Nl)))) (Nd (o62 P) (Nd (o81 P) (Nd (o115 P) (Nd (o179 P) (Nd (o311 P) Nl Nl) Nl) (Nd (o247 P) (Nd (o375 P) Nl Nl) Nl)) (Nd (o147 P) (Nd (o213 P) (Nd (o343 P) Nl Nl) Nl) (Nd (o279 P) Nl Nl))) (Nd (o97 P) (Nd (o131 P) (Nd (o195 P) (Nd (o327 P) Nl Nl) Nl) (Nd (o263 P) Nl Nl)) (Nd (o163 P) (Nd (o229 P) (Nd (o359 P) Nl Nl) Nl) (Nd (o295 P) Nl Nl))))) (Nd (o45 P) (Nd (o58 P) (Nd (o77 P) (Nd (o111 P) (Nd (o175 P) (Nd (o307 P) Nl Nl) Nl) (Nd (o243 P) (Nd (o371 P) Nl Nl) Nl)) (Nd (o143 P) (Nd (o209 P) (Nd (o339 P) Nl Nl) Nl) (Nd (o275 P) Nl Nl))) (Nd (o93 P) (Nd (o127 P) (Nd (o191 P) (Nd (o323 P) Nl Nl) Nl) (Nd (o259 P) (Nd (o387 P) Nl Nl) Nl)) (Nd (o159 P) (Nd (o225 P) (Nd (o355 P) Nl Nl) Nl) (Nd (o291 P) Nl Nl)))) (Nd (o66 P) (Nd (o85 P) (Nd (o119 P) (Nd (o183 P) (Nd (o315 P) Nl Nl) Nl) (Nd (o251 P) (Nd (o379 P) Nl Nl) Nl)) (Nd (o151 P) (Nd (o217 P) (Nd (o347 P) Nl Nl) Nl) (Nd (o283 P) Nl Nl))) (Nd (o101 P) (Nd (o135 P) (Nd (o199 P) (Nd (o331 P) Nl Nl) Nl) (Nd (o267 P) Nl Nl)) (Nd (o167 P) (Nd (o233 P) (Nd (o363 P) Nl Nl) Nl) (Nd (o299 P) Nl Nl))))))) (Nd (o49 P) (Nd (boot_o_4 P) (Nd (boot_o_8 P) (Nd (o53 P) (Nd (o69 P) (Nd (o104 P) (Nd (o170 P) (Nd (o302 P) Nl Nl) Nl) (Nd (o236 P) (Nd (o366 P) Nl Nl) Nl)) (Nd (o138 P) (Nd (o204 P) (Nd (o334 P) Nl Nl) Nl) (Nd (o270 P) Nl Nl))) (Nd (o88 P) (Nd (o122 P) (Nd (o186 P) (Nd (o318 P) Nl Nl) Nl) (Nd (o254 P) (Nd (o382 P) Nl Nl) Nl)) (Nd (o154 P) (Nd (o220 P) (Nd (o350 P) Nl Nl) Nl) (Nd (o286 P) Nl Nl)))) (Nd (o61 P) (Nd (o80 P) (Nd (o114 P) (Nd (o178 P) (Nd (o310 P) Nl Nl) Nl) (Nd (o246 P) (Nd (o374 P) Nl Nl) Nl)) (Nd (o146 P) (Nd (o212 P) (Nd (o342 P) Nl Nl) Nl) (Nd (o278 P) Nl Nl))) (Nd (o96 P) (Nd (o130 P) (Nd (o194 P) (Nd (o326 P) Nl Nl) Nl) (Nd (o262 P) Nl Nl)) (Nd (o162 P) (Nd (o228 P) (Nd (o358 P) Nl Nl) Nl) (Nd (o294 P) Nl Nl))))) (Nd (o240 P) (Nd (o57 P) (Nd (o76 P) (Nd (o110 P) (Nd (o174 P) (Nd (o306 P) Nl Nl) Nl) (Nd (o242 P) (Nd (o370 P) Nl Nl) Nl)) (Nd (o142 P) (Nd (o208 P) (Nd (o338 P) Nl Nl) Nl) (Nd (o274 P) Nl Nl))) (Nd (o92 P) (Nd (o126 P) (Nd (o190 P) (Nd (o322 P) Nl Nl) Nl) (Nd (o258 P) (Nd (o386 P) Nl Nl) Nl)) (Nd (o158 P) (Nd (o224 P) (Nd (o354 P) Nl Nl) Nl) (Nd (o290 P) Nl Nl)))) (Nd (o65 P) (Nd (o84 P) (Nd (o118 P) (Nd (o182 P) (Nd (o314 P) Nl Nl) Nl) (Nd (o250 P) (Nd (o378 P) Nl Nl) Nl)) (Nd (o150 P) (Nd (o216 P) (Nd (o346 P) Nl Nl) Nl) (Nd (o282 P) Nl Nl))) (Nd (o100 P) (Nd (o134 P) (Nd (o198 P) (Nd (o330 P) Nl Nl) Nl) (Nd (o266 P) Nl Nl)) (Nd (o166 P) (Nd (o232 P) (Nd (o362 P) Nl Nl) Nl) (Nd (o298 P) Nl Nl)))))) (Nd (boot_o_6 P) (Nd (boot_o_10 P) (Nd (o55 P) (Nd (o71 P) (Nd (o106 P) (Nd (o172 P) (Nd (o304 P) Nl Nl) Nl) (Nd (o238 P) (Nd (o368 P) Nl Nl) Nl)) (Nd (o140 P) (Nd (o206 P) (Nd (o336 P) Nl Nl) Nl) (Nd (o272 P) Nl Nl))) (Nd (o90 P) (Nd (o124 P) (Nd (o188 P) (Nd (o320 P) Nl Nl) Nl) (Nd (o256 P) (Nd (o384 P) Nl Nl) Nl)) (Nd (o156 P) (Nd (o222 P) (Nd (o352 P) Nl Nl) Nl) (Nd (o288 P) Nl Nl)))) (Nd (o63 P) (Nd (o82 P) (Nd (o116 P) (Nd (o180 P) (Nd (o312 P) Nl Nl) Nl) (Nd (o248 P) (Nd (o376 P) Nl Nl) Nl)) (Nd (o148 P) (Nd (o214 P) (Nd (o344 P) Nl Nl) Nl) (Nd (o280 P) Nl Nl))) (Nd (o98 P) (Nd (o132 P) (Nd (o196 P) (Nd (o328 P) Nl Nl) Nl) (Nd (o264 P) Nl Nl)) (Nd (o164 P) (Nd (o230 P) (Nd (o360 P) Nl Nl) Nl) (Nd (o296 P) Nl Nl))))) (Nd (o46 P) (Nd (o59 P) (Nd (o78 P) (Nd (o112 P) (Nd (o176 P) (Nd (o308 P) Nl Nl) Nl) (Nd (o244 P) (Nd (o372 P) Nl Nl) Nl)) (Nd (o144 P) (Nd (o210 P) (Nd (o340 P) Nl Nl) Nl) (Nd (o276 P) Nl Nl))) (Nd (o94 P) (Nd (o128 P) (Nd (o192 P) (Nd (o324 P) Nl Nl) Nl) (Nd (o260 P) (Nd (o388 P) Nl Nl) Nl)) (Nd (o160 P) (Nd (o226 P) (Nd (o356 P) Nl Nl) Nl) (Nd (o292 P) Nl Nl)))) (Nd (o67 P) (Nd (o86 P) (Nd (o120 P) (Nd (o184 P) (Nd (o316 P) Nl Nl) Nl) (Nd (o252 P) (Nd (o380 P) Nl Nl) Nl)) (Nd (o152 P) (Nd (o218 P) (Nd (o348 P) Nl Nl) Nl) (Nd (o284 P) Nl Nl))) (Nd (o102 P) (Nd (o136 P) (Nd (o200 P) (Nd (o332 P) Nl Nl) Nl) (Nd (o268 P) Nl Nl)) (Nd (o168 P) (Nd (o234 P) (Nd (o364 P) Nl Nl) Nl) (Nd (o300 P) Nl Nl))))))))
noncomputable def o535 (P : Params) : Obj := ⟨.type "dict", none, (.dict ⟨[de P "__name__" 165 (.str "clausemill.unify" 738), de P "__doc__" 166 .none, de P "__package__" 167 .none, de P "__loader__" 168 (.builtin "__main__.__loader__#opaque"), de P "__spec__" 169 .none, de P "__annotations__" 170 (.ref 6), de P "__builtins__" 171 (.ref 4), de P "__file__" 173 (.str "/claim/cut.py" 172), de P "__cached__" 174 .none, de P "_wall" 193 (.ref 21), de P "ClausemillError" 215 (.ref 31), de P "PrologError" 240 (.ref 51), de P "A_NIL" 242 (.int 0 241), de P "A_SYSTEM" 244 (.int 25 243), de P "F_DOT" 246 (.int 0 245), de P "F_ERROR" 248 (.int 16 247), de P "fixed_atoms" 254 (.ref 60), de P "fixed_functors" 260 (.ref 67), de P "Symbols" 380 (.ref 154), de P "system_error" 389 (.ref 165), de P "formal_of" 400 (.ref 172), de P "instantiation_error" 407 (.ref 179), de P "type_error" 416 (.ref 186), de P "resource_error" 424 (.ref 193), de P "REF" 428 (.int 0 427), de P "SRF" 430 (.int 1 429), de P "STR" 432 (.int 2 431), de P "LIS" 434 (.int 3 433), de P "CON" 436 (.int 4 435), de P "INT" 438 (.int 5 437), de P "FUN" 440 (.int 6 439), de P "VOID" 442 (.ref 194), de P "VISIT" 444 (.int 0 443), de P "BUILD" 446 (.int 1 445), de P "Cells" 640 (.ref 338), de P "Store" 737 (.ref 395), de P "PairSet" 779 (.ref 421), de P "push_arguments" 790 (.ref 432), de P "push_pairs" 803 (.ref 439), de P "same_shape" 812 (.ref 446), de P "is_variable" 819 (.ref 453)]⟩ 41), ⟨[]⟩⟩
noncomputable def o536 (P : Params) : Obj := fy [.int 1 0, .int 0 0, .ref 20, .int 5 0, .int 0 0, .ref 27, .int 7 0, .int 0 0, .ref 40, .int 15 0, .int 0 0, .ref 59, .int 17 0, .int 0 0, .ref 66, .int 19 0, .int 0 0, .ref 73, .int 77 0, .int 0 0, .ref 164, .int 79 0, .int 0 0, .ref 171, .int 84 0, .int 0 0, .ref 178, .int 86 0, .int 0 0, .ref 185, .int 88 0, .int 0 0, .ref 192, .int 101 0, .int 0 0, .ref 200, .int 227 0, .int 0 0, .ref 348, .int 326 0, .int 0 0, .ref 403, .int 338 0, .int 0 0, .ref 431, .int 342 0, .int 0 0, .ref 438, .int 347 0, .int 0 0, .ref 445, .int 353 0, .int 0 0, .ref 452]
noncomputable def o479 (P : Params) : Obj := ⟨.type "type", none, (.cls ⟨"Cells", [.type "object"], [.ref 338, .type "object"], 337, "Cells", true, [], [.ref 395], false, none, false⟩), ⟨[none, none, (some (.str "Cells" 447)), (some (.str "Cells" 455)), (some (.builtin "object.__new__")), (some (.bool true))]⟩⟩
noncomputable def o480 (P : Params) : Obj := tp [.ref 338]
noncomputable def o481 (P : Params) : Obj := fl "builtin_function_or_method" [.builtin "type.__prepare__", .type "type"]
noncomputable def o482 (P : Params) : Obj := ⟨.type "dict", none, (.dict ⟨[de P "__module__" 648 (.str "clausemill.store" 425), de P "__qualname__" 650 (.str "Store" 649), de P "__firstlineno__" 652 (.int 227 651), de P "new_struct" 666 (.ref 356), de P "build_list" 681 (.ref 364), de P "list_cells" 691 (.ref 371), de P "put_term" 700 (.ref 378), de P "whole_size" 713 (.ref 385), de P "take_term" 733 (.ref 392), de P "__static_attributes__" 734 (.ref 393)]⟩ 10), ⟨[]⟩⟩
noncomputable def o483 (P : Params) : Obj := tp []
noncomputable def o484 (P : Params) : Obj := fy [.int 229 0, .int 4 0, .ref 355, .int 242 0, .int 4 0, .ref 363, .int 261 0, .int 4 0, .ref 370, .int 271 0, .int 4 0, .ref 377, .int 274 0, .int 4 0, .ref 384, .int 285 0, .int 4 0, .ref 391]
noncomputable def o485 (P : Params) : Obj := fl "code" [.str "Store" 643, .str "Store" 644, .str "/claim/cut.py" 645, .int 227 0, .int 0 0, .int 0 0, .int 0 0, .int 0 0, .ref 346, (.bool false), .int 181 0, .ref 347, .none, .none, .none, .none, .int 646 0, .int 227 0, .str "/claim/cut.py" 647]
noncomputable def o486 (P : Params) : Obj := ⟨.type "frame", none, .plain, ⟨[(some (.ref 348)), (some (.ref 3)), (some (.ref 345)), none, (some (.str "clausemill.store" 425)), none, (some (.ref 0))]⟩⟩
noncomputable def o487 (P : Params) : Obj := tp []
noncomputable def o488 (P : Params) : Obj := fy []
noncomputable def o489 (P : Params) : Obj := tp [.str "self" 656, .str "f" 657, .str "cells" 658, .str "values" 659, .str "cell" 660, .str "made" 661, .str "place" 662, .str "value" 663]
noncomputable def o490 (P : Params) : Obj := tp []
noncomputable def o491 (P : Params) : Obj := fx (fo (mf 29 0) "new_struct" "Store.new_struct" 0 [] .none .none .none .none none .none .none 0)
noncomputable def o492 (P : Params) : Obj := fl "code" [.str "new_struct" 653, .str "Store.new_struct" 654, .str "/claim/cut.py" 655, .int 229 0, .int 3 0, .int 0 0, .int 0 0, .int 3 0, .ref 350, (.bool true), .int 181 0, .ref 351, .none, .ref 352, .ref 353, .ref 354, .int 664 0, .int 229 0, .str "/claim/cut.py" 665]
noncomputable def o493 (P : Params) : Obj := ff (fo (mf 29 0) "new_struct" "Store.new_struct" 3 [] .none .none .none (.str "clausemill.store" 425) none (.ref 355) .none 0)
noncomputable def o494 (P : Params) : Obj := tp [.none]
noncomputable def o495 (P : Params) : Obj := tp []
noncomputable def o496 (P : Params) : Obj := fy []
noncomputable def o497 (P : Params) : Obj := tp [.str "self" 670, .str "cells" 671, .str "tail" 672, .str "end" 673, .str "values" 674, .str "cell" 675, .str "start" 676, .str "place" 677, .str "value" 678]
noncomputable def o498 (P : Params) : Obj := tp []
noncomputable def o499 (P : Params) : Obj := fx (fo (mf 29 1) "build_list" "Store.build_list" 0 [] .none .none .none .none none .none .none 0)
noncomputable def o500 (P : Params) : Obj := fl "code" [.str "build_list" 667, .str "Store.build_list" 668, .str "/claim/cut.py" 669, .int 242 0, .int 3 0, .int 0 0, .int 0 0, .int 3 0, .ref 358, (.bool true), .int 181 0, .ref 359, .none, .ref 360, .ref 361, .ref 362, .int 679 0, .int 242 0, .str "/claim/cut.py" 680]
noncomputable def o501 (P : Params) : Obj := ff (fo (mf 29 1) "build_list" "Store.build_list" 3 [] (.ref 357) .none .none (.str "clausemill.store" 425) none (.ref 363) .none 0)
noncomputable def o502 (P : Params) : Obj := tp []
noncomputable def o503 (P : Params) : Obj := fy []
noncomputable def o504 (P : Params) : Obj := tp [.str "self" 685, .str "cell" 686, .str "found" 687, .str "seen" 688]
noncomputable def o505 (P : Params) : Obj := tp []
noncomputable def o506 (P : Params) : Obj := fx (fo (mf 29 2) "list_cells" "Store.list_cells" 0 [] .none .none .none .none none .none .none 0)
noncomputable def o507 (P : Params) : Obj := fl "code" [.str "list_cells" 682, .str "Store.list_cells" 683, .str "/claim/cut.py" 684, .int 261 0, .int 2 0, .int 0 0, .int 0 0, .int 3 0, .ref 365, (.bool true), .int 181 0, .ref 366, .none, .ref 367, .ref 368, .ref 369, .int 689 0, .int 261 0, .str "/claim/cut.py" 690]
noncomputable def o508 (P : Params) : Obj := ff (fo (mf 29 2) "list_cells" "Store.list_cells" 3 [] .none .none .none (.str "clausemill.store" 425) none (.ref 370) .none 0)
noncomputable def o509 (P : Params) : Obj := tp []
noncomputable def o510 (P : Params) : Obj := fy []
noncomputable def o511 (P : Params) : Obj := tp [.str "self" 695, .str "term" 696, .str "table" 697]
noncomputable def o512 (P : Params) : Obj := tp []
noncomputable def o513 (P : Params) : Obj := fx (fo (mf 29 3) "put_term" "Store.put_term" 0 [] .none .none .none .none none .none .none 0)
noncomputable def o514 (P : Params) : Obj := fl "code" [.str "put_term" 692, .str "Store.put_term" 693, .str "/claim/cut.py" 694, .int 271 0, .int 3 0, .int 0 0, .int 0 0, .int 3 0, .ref 372, (.bool true), .int 181 0, .ref 373, .none, .ref 374, .ref 375, .ref 376, .int 698 0, .int 271 0, .str "/claim/cut.py" 699]
noncomputable def o515 (P : Params) : Obj := ff (fo (mf 29 3) "put_term" "Store.put_term" 3 [] .none .none .none (.str "clausemill.store" 425) none (.ref 377) .none 0)
noncomputable def o516 (P : Params) : Obj := tp []
noncomputable def o517 (P : Params) : Obj := fy []
noncomputable def o518 (P : Params) : Obj := tp [.str "self" 704, .str "cell" 705, .str "sizes" 706, .str "size" 707, .str "place" 708, .str "step" 709, .str "part" 710]
noncomputable def o519 (P : Params) : Obj := tp []
noncomputable def o520 (P : Params) : Obj := fx (fo (mf 29 4) "whole_size" "Store.whole_size" 0 [] .none .none .none .none none .none .none 0)
noncomputable def o521 (P : Params) : Obj := fl "code" [.str "whole_size" 701, .str "Store.whole_size" 702, .str "/claim/cut.py" 703, .int 274 0, .int 3 0, .int 0 0, .int 0 0, .int 3 0, .ref 379, (.bool true), .int 181 0, .ref 380, .none, .ref 381, .ref 382, .ref 383, .int 711 0, .int 274 0, .str "/claim/cut.py" 712]
noncomputable def o522 (P : Params) : Obj := ff (fo (mf 29 4) "whole_size" "Store.whole_size" 3 [] .none .none .none (.str "clausemill.store" 425) none (.ref 384) .none 0)
noncomputable def o523 (P : Params) : Obj := tp []
noncomputable def o524 (P : Params) : Obj := fy []
noncomputable def o525 (P : Params) : Obj := tp [.str "self" 717, .str "cell" 718, .str "table" 719, .str "known" 720, .str "sizes" 721, .str "results" 722, .str "work" 723, .str "what" 724, .str "f" 725, .str "first" 726, .str "term" 727, .str "tag" 728, .str "place" 729, .str "step" 730]
noncomputable def o526 (P : Params) : Obj := tp []
noncomputable def o527 (P : Params) : Obj := fx (fo (mf 29 5) "take_term" "Store.take_term" 0 [] .none .none .none .none none .none .none 0)
noncomputable def o528 (P : Params) : Obj := fl "code" [.str "take_term" 714, .str "Store.take_term" 715, .str "/claim/cut.py" 716, .int 285 0, .int 3 0, .int 0 0, .int 0 0, .int 3 0, .ref 386, (.bool true), .int 181 0, .ref 387, .none, .ref 388, .ref 389, .ref 390, .int 731 0, .int 285 0, .str "/claim/cut.py" 732]
noncomputable def o529 (P : Params) : Obj := ff (fo (mf 29 5) "take_term" "Store.take_term" 3 [] .none .none .none (.str "clausemill.store" 425) none (.ref 391) .none 0)
noncomputable def o530 (P : Params) : Obj := tp []
noncomputable def o531 (P : Params) : Obj := ⟨.type "dict", none, (.dict ⟨[de P "__module__" 648 (.str "clausemill.store" 425), de P "__firstlineno__" 652 (.int 227 651), de P "new_struct" 666 (.ref 356), de P "build_list" 681 (.ref 364), de P "list_cells" 691 (.ref 371), de P "put_term" 700 (.ref 378), de P "whole_size" 713 (.ref 385), de P "take_term" 733 (.ref 392), de P "__static_attributes__" 734 (.ref 393), de P "__doc__" 735 .none]⟩ 2), ⟨[]⟩⟩
noncomputable def o532 (P : Params) : Obj := ⟨.type "type", none, (.cls ⟨"Store", [.ref 338], [.ref 395, .ref 338, .type "object"], 394, "Store", true, [], [], false, none, false⟩), ⟨[(some (.ref 343)), none, (some (.str "Store" 641)), (some (.str "Store" 649)), (some (.builtin "object.__new__")), (some (.bool true))]⟩⟩
noncomputable def o533 (P : Params) : Obj := fl "super" [.ref 395, .ref 395, .ref 395]
noncomputable def o534 (P : Params) : Obj := fl "builtin_function_or_method" [.builtin "object.__init_subclass__", .ref 395]
noncomputable def o537 (P : Params) : Obj := tp []
noncomputable def o538 (P : Params) : Obj := fl "builtin_function_or_method" [.builtin "type.__prepare__", .type "type"]
noncomputable def o539 (P : Params) : Obj := ⟨.type "dict", none, (.dict ⟨[de P "__module__" 747 (.str "clausemill.unify" 738), de P "__qualname__" 749 (.str "PairSet" 748), de P "__firstlineno__" 751 (.int 326 750), de P "__init__" 759 (.ref 411), de P "add" 769 (.ref 418), de P "__static_attributes__" 772 (.ref 419)]⟩ 6), ⟨[]⟩⟩
noncomputable def o540 (P : Params) : Obj := tp []
noncomputable def o541 (P : Params) : Obj := fy [.int 328 0, .int 4 0, .ref 410, .int 332 0, .int 4 0, .ref 417]
noncomputable def o542 (P : Params) : Obj := fl "code" [.str "PairSet" 742, .str "PairSet" 743, .str "/claim/cut.py" 744, .int 326 0, .int 0 0, .int 0 0, .int 0 0, .int 0 0, .ref 401, (.bool false), .int 181 0, .ref 402, .none, .none, .none, .none, .int 745 0, .int 326 0, .str "/claim/cut.py" 746]
noncomputable def o543 (P : Params) : Obj := ⟨.type "frame", none, .plain, ⟨[(some (.ref 403)), (some (.ref 3)), (some (.ref 400)), none, (some (.str "clausemill.unify" 738)), none, (some (.ref 0))]⟩⟩
noncomputable def o544 (P : Params) : Obj := tp []
noncomputable def o545 (P : Params) : Obj := fy []
noncomputable def o546 (P : Params) : Obj := tp [.str "self" 755, .str "store" 756]
noncomputable def o547 (P : Params) : Obj := tp []
noncomputable def o548 (P : Params) : Obj := fx (fo (mf 31 0) "__init__" "PairSet.__init__" 0 [] .none .none .none .none none .none .none 0)
noncomputable def o549 (P : Params) : Obj := fl "code" [.str "__init__" 752, .str "PairSet.__init__" 753, .str "/claim/cut.py" 754, .int 328 0, .int 2 0, .int 0 0, .int 0 0, .int 3 0, .ref 405, (.bool true), .int 181 0, .ref 406, .none, .ref 407, .ref 408, .ref 409, .int 757 0, .int 328 0, .str "/claim/cut.py" 758]
noncomputable def o550 (P : Params) : Obj := ff (fo (mf 31 0) "__init__" "PairSet.__init__" 3 [] .none .none .none (.str "clausemill.unify" 738) none (.ref 410) .none 0)
noncomputable def o551 (P : Params) : Obj := tp []
noncomputable def o552 (P : Params) : Obj := fy []
noncomputable def o553 (P : Params) : Obj := tp [.str "self" 763, .str "left" 764, .str "right" 765, .str "number" 766]
noncomputable def o554 (P : Params) : Obj := tp []
noncomputable def o555 (P : Params) : Obj := fx (fo (mf 31 1) "add" "PairSet.add" 0 [] .none .none .none .none none .none .none 0)
noncomputable def o556 (P : Params) : Obj := fl "code" [.str "add" 760, .str "PairSet.add" 761, .str "/claim/cut.py" 762, .int 332 0, .int 3 0, .int 0 0, .int 0 0, .int 3 0, .ref 412, (.bool true), .int 181 0, .ref 413, .none, .ref 414, .ref 415, .ref 416, .int 767 0, .int 332 0, .str "/claim/cut.py" 768]
noncomputable def o557 (P : Params) : Obj := ff (fo (mf 31 1) "add" "PairSet.add" 3 [] .none .none .none (.str "clausemill.unify" 738) none (.ref 417) .none 0)
noncomputable def o558 (P : Params) : Obj := tp [.str "met" 770, .str "span" 771]
noncomputable def o559 (P : Params) : Obj := ⟨.type "dict", none, (.dict ⟨[de P "__module__" 747 (.str "clausemill.unify" 738), de P "__firstlineno__" 751 (.int 326 750), de P "__init__" 759 (.ref 411), de P "add" 769 (.ref 418), de P "__static_attributes__" 772 (.ref 419), de P "__dict__" 774 (.ref 422), de P "__weakref__" 776 (.ref 423), de P "__doc__" 777 .none]⟩ 4), ⟨[]⟩⟩
noncomputable def o560 (P : Params) : Obj := ⟨.type "type", none, (.cls ⟨"PairSet", [.type "object"], [.ref 421, .type "object"], 420, "PairSet", true, [], [], false, none, false⟩), ⟨[none, none, (some (.str "PairSet" 740)), (some (.str "PairSet" 748)), (some (.builtin "object.__new__")), (some (.bool true))]⟩⟩
noncomputable def o561 (P : Params) : Obj := fl "getset_descriptor" [.str "__dict__" 773, .ref 421, .builtin "function.__dict__", .builtin "function.__dict__#set"]
noncomputable def o562 (P : Params) : Obj := fl "getset_descriptor" [.str "__weakref__" 775, .ref 421, .builtin "ExceptionGroup.__weakref__", .none]
noncomputable def o563 (P : Params) : Obj := fl "super" [.ref 421, .ref 421, .ref 421]
noncomputable def o564 (P : Params) : Obj := fl "builtin_function_or_method" [.builtin "object.__init_subclass__", .ref 421]
noncomputable def o565 (P : Params) : Obj := tp []
noncomputable def o566 (P : Params) : Obj := fy []
noncomputable def o567 (P : Params) : Obj := tp [.str "store" 783, .str "cell" 784, .str "work" 785, .str "place" 786, .str "step" 787]
noncomputable def o568 (P : Params) : Obj := tp []
noncomputable def o569 (P : Params) : Obj := fx (fo (tf 32) "push_arguments" "push_arguments" 0 [] .none .none .none .none none .none .none 0)
noncomputable def o570 (P : Params) : Obj := fl "code" [.str "push_arguments" 780, .str "push_arguments" 781, .str "/claim/cut.py" 782, .int 338 0, .int 3 0, .int 0 0, .int 0 0, .int 3 0, .ref 426, (.bool true), .int 181 0, .ref 427, .none, .ref 428, .ref 429, .ref 430, .int 788 0, .int 338 0, .str "/claim/cut.py" 789]
noncomputable def o571 (P : Params) : Obj := ff (fo (tf 32) "push_arguments" "push_arguments" 3 [] .none .none .none (.str "clausemill.unify" 738) none (.ref 431) .none 0)
noncomputable def o572 (P : Params) : Obj := tp []
noncomputable def o573 (P : Params) : Obj := fy []
noncomputable def o574 (P : Params) : Obj := tp [.str "store" 794, .str "left" 795, .str "right" 796, .str "work" 797, .str "left_place" 798, .str "right_place" 799, .str "step" 800]
noncomputable def o575 (P : Params) : Obj := tp []
noncomputable def o576 (P : Params) : Obj := fx (fo (tf 33) "push_pairs" "push_pairs" 0 [] .none .none .none .none none .none .none 0)
noncomputable def o577 (P : Params) : Obj := fl "code" [.str "push_pairs" 791, .str "push_pairs" 792, .str "/claim/cut.py" 793, .int 342 0, .int 4 0, .int 0 0, .int 0 0, .int 3 0, .ref 433, (.bool true), .int 181 0, .ref 434, .none, .ref 435, .ref 436, .ref 437, .int 801 0, .int 342 0, .str "/claim/cut.py" 802]
noncomputable def o578 (P : Params) : Obj := ff (fo (tf 33) "push_pairs" "push_pairs" 3 [] .none .none .none (.str "clausemill.unify" 738) none (.ref 438) .none 0)
noncomputable def o579 (P : Params) : Obj := tp []
noncomputable def o580 (P : Params) : Obj := fy []
noncomputable def o581 (P : Params) : Obj := tp [.str "store" 807, .str "left" 808, .str "right" 809]
noncomputable def o582 (P : Params) : Obj := tp []
noncomputable def o583 (P : Params) : Obj := fx (fo (tf 34) "same_shape" "same_shape" 0 [] .none .none .none .none none .none .none 0)
noncomputable def o584 (P : Params) : Obj := fl "code" [.str "same_shape" 804, .str "same_shape" 805, .str "/claim/cut.py" 806, .int 347 0, .int 3 0, .int 0 0, .int 0 0, .int 3 0, .ref 440, (.bool true), .int 181 0, .ref 441, .none, .ref 442, .ref 443, .ref 444, .int 810 0, .int 347 0, .str "/claim/cut.py" 811]
noncomputable def o585 (P : Params) : Obj := ff (fo (tf 34) "same_shape" "same_shape" 3 [] .none .none .none (.str "clausemill.unify" 738) none (.ref 445) .none 0)
noncomputable def o586 (P : Params) : Obj := tp []
noncomputable def o587 (P : Params) : Obj := fy []
noncomputable def o588 (P : Params) : Obj := tp [.str "cell" 816]
noncomputable def o589 (P : Params) : Obj := tp []
noncomputable def o590 (P : Params) : Obj := fx (fo (tf 35) "is_variable" "is_variable" 0 [] .none .none .none .none none .none .none 0)
noncomputable def o591 (P : Params) : Obj := fl "code" [.str "is_variable" 813, .str "is_variable" 814, .str "/claim/cut.py" 815, .int 353 0, .int 1 0, .int 0 0, .int 0 0, .int 3 0, .ref 447, (.bool true), .int 181 0, .ref 448, .none, .ref 449, .ref 450, .ref 451, .int 817 0, .int 353 0, .str "/claim/cut.py" 818]
noncomputable def o592 (P : Params) : Obj := ff (fo (tf 35) "is_variable" "is_variable" 3 [] .none .none .none (.str "clausemill.unify" 738) none (.ref 452) .none 0)
noncomputable def tr4 (P : Params) : BT := (Nd (boot_o_0 P) (Nd (boot_o_1 P) (Nd (o535 P) (Nd (boot_o_7 P) (Nd (o52 P) (Nd (o74 P) (Nd (o103 P) (Nd (o169 P) (Nd (o301 P) Nl Nl) (Nd (o520 P) Nl Nl)) (Nd (o235 P) (Nd (o365 P) Nl Nl) (Nd (o586 P) Nl Nl))) (Nd (o137 P) (Nd (o203 P) (Nd (o333 P) Nl Nl) (Nd (o554 P) Nl Nl)) (Nd (o269 P) (Nd (o488 P) Nl Nl) Nl))) (Nd (o87 P) (Nd (o121 P) (Nd (o185 P) (Nd (o317 P) Nl Nl) (Nd (o538 P) Nl Nl)) (Nd (o253 P) (Nd (o381 P) Nl Nl) Nl)) (Nd (o153 P) (Nd (o219 P) (Nd (o349 P) Nl Nl) (Nd (o570 P) Nl Nl)) (Nd (o285 P) (Nd (o504 P) Nl Nl) Nl)))) (Nd (o60 P) (Nd (o79 P) (Nd (o113 P) (Nd (o177 P) (Nd (o309 P) Nl Nl) (Nd (o528 P) Nl Nl)) (Nd (o245 P) (Nd (o373 P) Nl Nl) Nl)) (Nd (o145 P) (Nd (o211 P) (Nd (o341 P) Nl Nl) (Nd (o562 P) Nl Nl)) (Nd (o277 P) (Nd (o496 P) Nl Nl) Nl))) (Nd (o95 P) (Nd (o129 P) (Nd (o193 P) (Nd (o325 P) Nl Nl) (Nd (o546 P) Nl Nl)) (Nd (o261 P) (Nd (o480 P) Nl Nl) Nl)) (Nd (o161 P) (Nd (o227 P) (Nd (o357 P) Nl Nl) (Nd (o578 P) Nl Nl)) (Nd (o293 P) (Nd (o512 P) Nl Nl) Nl))))) (Nd (o43 P) (Nd (o56 P) (Nd (o75 P) (Nd (o107 P) (Nd (o173 P) (Nd (o305 P) Nl Nl) (Nd (o524 P) Nl Nl)) (Nd (o241 P) (Nd (o369 P) Nl Nl) (Nd (o590 P) Nl Nl))) (Nd (o141 P) (Nd (o207 P) (Nd (o337 P) Nl Nl) (Nd (o558 P) Nl Nl)) (Nd (o273 P) (Nd (o492 P) Nl Nl) Nl))) (Nd (o91 P) (Nd (o125 P) (Nd (o189 P) (Nd (o321 P) Nl Nl) (Nd (o542 P) Nl Nl)) (Nd (o257 P) (Nd (o385 P) Nl Nl) Nl)) (Nd (o157 P) (Nd (o223 P) (Nd (o353 P) Nl Nl) (Nd (o574 P) Nl Nl)) (Nd (o289 P) (Nd (o508 P) Nl Nl) Nl)))) (Nd (o64 P) (Nd (o83 P) (Nd (o117 P) (Nd (o181 P) (Nd (o313 P) Nl Nl) (Nd (o532 P) Nl Nl)) (Nd (o249 P) (Nd (o377 P) Nl Nl) Nl)) (Nd (o149 P) (Nd (o215 P) (Nd (o345 P) Nl Nl) (Nd (o566 P) Nl Nl)) (Nd (o281 P) (Nd (o500 P) Nl Nl) Nl))) (Nd (o99 P) (Nd (o133 P) (Nd (o197 P) (Nd (o329 P) Nl Nl) (Nd (o550 P) Nl Nl)) (Nd (o265 P) (Nd (o484 P) Nl Nl) Nl)) (Nd (o165 P) (Nd (o231 P) (Nd (o361 P) Nl Nl) (Nd (o582 P) Nl Nl)) (Nd (o297 P) (Nd (o516 P) Nl Nl) Nl)))))) (Nd (boot_o_5 P) (Nd (boot_o_9 P) (Nd (o54 P) (Nd (o70 P) (Nd (o105 P) (Nd (o171 P) (Nd (o303 P) Nl Nl) (Nd (o522 P) Nl Nl)) (Nd (o237 P) (Nd (o367 P) Nl Nl) (Nd (o588 P) Nl Nl))) (Nd (o139 P) (Nd (o205 P) (Nd (o335 P) Nl Nl) (Nd (o556 P) Nl Nl)) (Nd (o271 P) (Nd (o490 P) Nl Nl) Nl))) (Nd (o89 P) (Nd (o123 P) (Nd (o187 P) (Nd (o319 P) Nl Nl) (Nd (o540 P) Nl Nl)) (Nd (o255 P) (Nd (o383 P) Nl Nl) Nl)) (Nd (o155 P) (Nd (o221 P) (Nd (o351 P) Nl Nl) (Nd (o572 P) Nl Nl)) (Nd (o287 P) (Nd (o506 P) Nl Nl) Nl)))) (Nd (o62 P) (Nd (o81 P) (Nd (o115 P) (Nd (o179 P) (Nd (o311 P) Nl Nl) (Nd (o530 P) Nl Nl)) (Nd (o247 P) (Nd (o375 P) Nl Nl) Nl)) (Nd (o147 P) (Nd (o213 P) (Nd (o343 P) Nl Nl) (Nd (o564 P) Nl Nl)) (Nd (o279 P) (Nd (o498 P) Nl Nl) Nl))) (Nd (o97 P) (Nd (o131 P) (Nd (o195 P) (Nd (o327 P) Nl Nl) (Nd (o548 P) Nl Nl)) (Nd (o263 P) (Nd (o482 P) Nl Nl) Nl)) (Nd (o163 P) (Nd (o229 P) (Nd (o359 P) Nl Nl) (Nd (o580 P) Nl Nl)) (Nd (o295 P) (Nd (o514 P) Nl Nl) Nl))))) (Nd (o45 P) (Nd (o58 P) (Nd (o77 P) (Nd (o111 P) (Nd (o175 P) (Nd (o307 P) Nl Nl) (Nd (o526 P) Nl Nl)) (Nd (o243 P) (Nd (o371 P) Nl Nl) (Nd (o592 P) Nl Nl))) (Nd (o143 P) (Nd (o209 P) (Nd (o339 P) Nl Nl) (Nd (o560 P) Nl Nl)) (Nd (o275 P) (Nd (o494 P) Nl Nl) Nl))) (Nd (o93 P) (Nd (o127 P) (Nd (o191 P) (Nd (o323 P) Nl Nl) (Nd (o544 P) Nl Nl)) (Nd (o259 P) (Nd (o387 P) Nl Nl) Nl)) (Nd (o159 P) (Nd (o225 P) (Nd (o355 P) Nl Nl) (Nd (o576 P) Nl Nl)) (Nd (o291 P) (Nd (o510 P) Nl Nl) Nl)))) (Nd (o66 P) (Nd (o85 P) (Nd (o119 P) (Nd (o183 P) (Nd (o315 P) Nl Nl) (Nd (o534 P) Nl Nl)) (Nd (o251 P) (Nd (o379 P) Nl Nl) Nl)) (Nd (o151 P) (Nd (o217 P) (Nd (o347 P) Nl Nl) (Nd (o568 P) Nl Nl)) (Nd (o283 P) (Nd (o502 P) Nl Nl) Nl))) (Nd (o101 P) (Nd (o135 P) (Nd (o199 P) (Nd (o331 P) Nl Nl) (Nd (o552 P) Nl Nl)) (Nd (o267 P) (Nd (o486 P) Nl Nl) Nl)) (Nd (o167 P) (Nd (o233 P) (Nd (o363 P) Nl Nl) (Nd (o584 P) Nl Nl)) (Nd (o299 P) (Nd (o518 P) Nl Nl) Nl))))))) (Nd (o49 P) (Nd (boot_o_4 P) (Nd (boot_o_8 P) (Nd (o53 P) (Nd (o69 P) (Nd (o104 P) (Nd (o170 P) (Nd (o302 P) Nl Nl) (Nd (o521 P) Nl Nl)) (Nd (o236 P) (Nd (o366 P) Nl Nl) (Nd (o587 P) Nl Nl))) (Nd (o138 P) (Nd (o204 P) (Nd (o334 P) Nl Nl) (Nd (o555 P) Nl Nl)) (Nd (o270 P) (Nd (o489 P) Nl Nl) Nl))) (Nd (o88 P) (Nd (o122 P) (Nd (o186 P) (Nd (o318 P) Nl Nl) (Nd (o539 P) Nl Nl)) (Nd (o254 P) (Nd (o382 P) Nl Nl) Nl)) (Nd (o154 P) (Nd (o220 P) (Nd (o350 P) Nl Nl) (Nd (o571 P) Nl Nl)) (Nd (o286 P) (Nd (o505 P) Nl Nl) Nl)))) (Nd (o61 P) (Nd (o80 P) (Nd (o114 P) (Nd (o178 P) (Nd (o310 P) Nl Nl) (Nd (o529 P) Nl Nl)) (Nd (o246 P) (Nd (o374 P) Nl Nl) Nl)) (Nd (o146 P) (Nd (o212 P) (Nd (o342 P) Nl Nl) (Nd (o563 P) Nl Nl)) (Nd (o278 P) (Nd (o497 P) Nl Nl) Nl))) (Nd (o96 P) (Nd (o130 P) (Nd (o194 P) (Nd (o326 P) Nl Nl) (Nd (o547 P) Nl Nl)) (Nd (o262 P) (Nd (o481 P) Nl Nl) Nl)) (Nd (o162 P) (Nd (o228 P) (Nd (o358 P) Nl Nl) (Nd (o579 P) Nl Nl)) (Nd (o294 P) (Nd (o513 P) Nl Nl) Nl))))) (Nd (o536 P) (Nd (o57 P) (Nd (o76 P) (Nd (o110 P) (Nd (o174 P) (Nd (o306 P) Nl Nl) (Nd (o525 P) Nl Nl)) (Nd (o242 P) (Nd (o370 P) Nl Nl) (Nd (o591 P) Nl Nl))) (Nd (o142 P) (Nd (o208 P) (Nd (o338 P) Nl Nl) (Nd (o559 P) Nl Nl)) (Nd (o274 P) (Nd (o493 P) Nl Nl) Nl))) (Nd (o92 P) (Nd (o126 P) (Nd (o190 P) (Nd (o322 P) Nl Nl) (Nd (o543 P) Nl Nl)) (Nd (o258 P) (Nd (o386 P) Nl Nl) Nl)) (Nd (o158 P) (Nd (o224 P) (Nd (o354 P) Nl Nl) (Nd (o575 P) Nl Nl)) (Nd (o290 P) (Nd (o509 P) Nl Nl) Nl)))) (Nd (o65 P) (Nd (o84 P) (Nd (o118 P) (Nd (o182 P) (Nd (o314 P) Nl Nl) (Nd (o533 P) Nl Nl)) (Nd (o250 P) (Nd (o378 P) Nl Nl) Nl)) (Nd (o150 P) (Nd (o216 P) (Nd (o346 P) Nl Nl) (Nd (o567 P) Nl Nl)) (Nd (o282 P) (Nd (o501 P) Nl Nl) Nl))) (Nd (o100 P) (Nd (o134 P) (Nd (o198 P) (Nd (o330 P) Nl Nl) (Nd (o551 P) Nl Nl)) (Nd (o266 P) (Nd (o485 P) Nl Nl) Nl)) (Nd (o166 P) (Nd (o232 P) (Nd (o362 P) Nl Nl) (Nd (o583 P) Nl Nl)) (Nd (o298 P) (Nd (o517 P) Nl Nl) Nl)))))) (Nd (boot_o_6 P) (Nd (boot_o_10 P) (Nd (o55 P) (Nd (o71 P) (Nd (o106 P) (Nd (o172 P) (Nd (o304 P) Nl Nl) (Nd (o523 P) Nl Nl)) (Nd (o238 P) (Nd (o368 P) Nl Nl) (Nd (o589 P) Nl Nl))) (Nd (o140 P) (Nd (o206 P) (Nd (o336 P) Nl Nl) (Nd (o557 P) Nl Nl)) (Nd (o272 P) (Nd (o491 P) Nl Nl) Nl))) (Nd (o90 P) (Nd (o124 P) (Nd (o188 P) (Nd (o320 P) Nl Nl) (Nd (o541 P) Nl Nl)) (Nd (o256 P) (Nd (o479 P) Nl Nl) Nl)) (Nd (o156 P) (Nd (o222 P) (Nd (o352 P) Nl Nl) (Nd (o573 P) Nl Nl)) (Nd (o288 P) (Nd (o507 P) Nl Nl) Nl)))) (Nd (o63 P) (Nd (o82 P) (Nd (o116 P) (Nd (o180 P) (Nd (o312 P) Nl Nl) (Nd (o531 P) Nl Nl)) (Nd (o248 P) (Nd (o376 P) Nl Nl) Nl)) (Nd (o148 P) (Nd (o214 P) (Nd (o344 P) Nl Nl) (Nd (o565 P) Nl Nl)) (Nd (o280 P) (Nd (o499 P) Nl Nl) Nl))) (Nd (o98 P) (Nd (o132 P) (Nd (o196 P) (Nd (o328 P) Nl Nl) (Nd (o549 P) Nl Nl)) (Nd (o264 P) (Nd (o483 P) Nl Nl) Nl)) (Nd (o164 P) (Nd (o230 P) (Nd (o360 P) Nl Nl) (Nd (o581 P) Nl Nl)) (Nd (o296 P) (Nd (o515 P) Nl Nl) Nl))))) (Nd (o46 P) (Nd (o59 P) (Nd (o78 P) (Nd (o112 P) (Nd (o176 P) (Nd (o308 P) Nl Nl) (Nd (o527 P) Nl Nl)) (Nd (o244 P) (Nd (o372 P) Nl Nl) Nl)) (Nd (o144 P) (Nd (o210 P) (Nd (o340 P) Nl Nl) (Nd (o561 P) Nl Nl)) (Nd (o276 P) (Nd (o495 P) Nl Nl) Nl))) (Nd (o94 P) (Nd (o128 P) (Nd (o192 P) (Nd (o324 P) Nl Nl) (Nd (o545 P) Nl Nl)) (Nd (o260 P) (Nd (o388 P) Nl Nl) Nl)) (Nd (o160 P) (Nd (o226 P) (Nd (o356 P) Nl Nl) (Nd (o577 P) Nl Nl)) (Nd (o292 P) (Nd (o511 P) Nl Nl) Nl)))) (Nd (o67 P) (Nd (o86 P) (Nd (o120 P) (Nd (o184 P) (Nd (o316 P) Nl Nl) (Nd (o537 P) Nl Nl)) (Nd (o252 P) (Nd (o380 P) Nl Nl) Nl)) (Nd (o152 P) (Nd (o218 P) (Nd (o348 P) Nl Nl) (Nd (o569 P) Nl Nl)) (Nd (o284 P) (Nd (o503 P) Nl Nl) Nl))) (Nd (o102 P) (Nd (o136 P) (Nd (o200 P) (Nd (o332 P) Nl Nl) (Nd (o553 P) Nl Nl)) (Nd (o268 P) (Nd (o487 P) Nl Nl) Nl)) (Nd (o168 P) (Nd (o234 P) (Nd (o364 P) Nl Nl) (Nd (o585 P) Nl Nl)) (Nd (o300 P) (Nd (o519 P) Nl Nl) Nl))))))))
noncomputable def o666 (P : Params) : Obj := ⟨.type "dict", none, (.dict ⟨[de P "__name__" 165 (.str "clausemill.areas" 1030), de P "__doc__" 166 .none, de P "__package__" 167 .none, de P "__loader__" 168 (.builtin "__main__.__loader__#opaque"), de P "__spec__" 169 .none, de P "__annotations__" 170 (.ref 6), de P "__builtins__" 171 (.ref 4), de P "__file__" 173 (.str "/claim/cut.py" 172), de P "__cached__" 174 .none, de P "_wall" 193 (.ref 21), de P "ClausemillError" 215 (.ref 31), de P "PrologError" 240 (.ref 51), de P "A_NIL" 242 (.int 0 241), de P "A_SYSTEM" 244 (.int 25 243), de P "F_DOT" 246 (.int 0 245), de P "F_ERROR" 248 (.int 16 247), de P "fixed_atoms" 254 (.ref 60), de P "fixed_functors" 260 (.ref 67), de P "Symbols" 380 (.ref 154), de P "system_error" 389 (.ref 165), de P "formal_of" 400 (.ref 172), de P "instantiation_error" 407 (.ref 179), de P "type_error" 416 (.ref 186), de P "resource_error" 424 (.ref 193), de P "REF" 428 (.int 0 427), de P "SRF" 430 (.int 1 429), de P "STR" 432 (.int 2 431), de P "LIS" 434 (.int 3 433), de P "CON" 436 (.int 4 435), de P "INT" 438 (.int 5 437), de P "FUN" 440 (.int 6 439), de P "VOID" 442 (.ref 194), de P "VISIT" 444 (.int 0 443), de P "BUILD" 446 (.int 1 445), de P "Cells" 640 (.ref 338), de P "Store" 737 (.ref 395), de P "PairSet" 779 (.ref 421), de P "push_arguments" 790 (.ref 432), de P "push_pairs" 803 (.ref 439), de P "same_shape" 812 (.ref 446), de P "is_variable" 819 (.ref 453), de P "unify" 833 (.ref 460), de P "unify_unify" 834 (.ref 460), de P "bind_checked" 844 (.ref 467), de P "occurs_in" 855 (.ref 474), de P "rank" 863 (.ref 481), de P "order" 871 (.ref 488), de P "compare_shapes" 884 (.ref 495), de P "compare_tops" 895 (.ref 502), de P "compare" 909 (.ref 509), de P "merge" 924 (.ref 516), de P "merge_sort" 939 (.ref 523), de P "NIL_CELL" 942 (.ref 524), de P "order_of" 949 (.ref 531), de P "pred_identical" 956 (.ref 538), de P "pred_not_identical" 963 (.ref 545), de P "pred_before" 970 (.ref 552), de P "pred_after" 977 (.ref 559), de P "pred_not_after" 984 (.ref 566), de P "pred_not_before" 991 (.ref 573), de P "partial_list" 1001 (.ref 580), de P "proper_list" 1011 (.ref 587), de P "pred_sort" 1020 (.ref 594), de P "pred_msort" 1029 (.ref 601), de P "READ" 1033 (.str "read" 1032), de P "EXTRA" 1035 (.int 8 1034)]⟩ 66), ⟨[]⟩⟩
noncomputable def o667 (P : Params) : Obj := fy [.int 1 0, .int 0 0, .ref 20, .int 5 0, .int 0 0, .ref 27, .int 7 0, .int 0 0, .ref 40, .int 15 0, .int 0 0, .ref 59, .int 17 0, .int 0 0, .ref 66, .int 19 0, .int 0 0, .ref 73, .int 77 0, .int 0 0, .ref 164, .int 79 0, .int 0 0, .ref 171, .int 84 0, .int 0 0, .ref 178, .int 86 0, .int 0 0, .ref 185, .int 88 0, .int 0 0, .ref 192, .int 101 0, .int 0 0, .ref 200, .int 227 0, .int 0 0, .ref 348, .int 326 0, .int 0 0, .ref 403, .int 338 0, .int 0 0, .ref 431, .int 342 0, .int 0 0, .ref 438, .int 347 0, .int 0 0, .ref 445, .int 353 0, .int 0 0, .ref 452, .int 355 0, .int 0 0, .ref 459, .int 379 0, .int 0 0, .ref 466, .int 384 0, .int 0 0, .ref 473, .int 400 0, .int 0 0, .ref 480, .int 409 0, .int 0 0, .ref 487, .int 415 0, .int 0 0, .ref 494, .int 425 0, .int 0 0, .ref 501, .int 437 0, .int 0 0, .ref 508, .int 452 0, .int 0 0, .ref 515, .int 469 0, .int 0 0, .ref 522, .int 493 0, .int 0 0, .ref 530, .int 495 0, .int 0 0, .ref 537, .int 497 0, .int 0 0, .ref 544, .int 499 0, .int 0 0, .ref 551, .int 501 0, .int 0 0, .ref 558, .int 503 0, .int 0 0, .ref 565, .int 505 0, .int 0 0, .ref 572, .int 507 0, .int 0 0, .ref 579, .int 512 0, .int 0 0, .ref 586, .int 519 0, .int 0 0, .ref 593, .int 524 0, .int 0 0, .ref 600]
noncomputable def o595 (P : Params) : Obj := tp []
noncomputable def o596 (P : Params) : Obj := fy []
noncomputable def o597 (P : Params) : Obj := tp [.str "store" 823, .str "c1" 824, .str "c2" 825, .str "occurs" 826, .str "met" 827, .str "work" 828, .str "left" 829, .str "right" 830]
noncomputable def o598 (P : Params) : Obj := tp []
noncomputable def o599 (P : Params) : Obj := fx (fo (tf 36) "unify" "unify" 0 [] .none .none .none .none none .none .none 0)
noncomputable def o600 (P : Params) : Obj := fl "code" [.str "unify" 820, .str "unify" 821, .str "/claim/cut.py" 822, .int 355 0, .int 4 0, .int 0 0, .int 0 0, .int 3 0, .ref 454, (.bool true), .int 181 0, .ref 455, .none, .ref 456, .ref 457, .ref 458, .int 831 0, .int 355 0, .str "/claim/cut.py" 832]
noncomputable def o601 (P : Params) : Obj := ff (fo (tf 36) "unify" "unify" 3 [] .none .none .none (.str "clausemill.unify" 738) none (.ref 459) .none 0)
noncomputable def o602 (P : Params) : Obj := tp []
noncomputable def o603 (P : Params) : Obj := fy []
noncomputable def o604 (P : Params) : Obj := tp [.str "store" 838, .str "variable" 839, .str "value" 840, .str "occurs" 841]
noncomputable def o605 (P : Params) : Obj := tp []
noncomputable def o606 (P : Params) : Obj := fx (fo (tf 38) "bind_checked" "bind_checked" 0 [] .none .none .none .none none .none .none 0)
noncomputable def o607 (P : Params) : Obj := fl "code" [.str "bind_checked" 835, .str "bind_checked" 836, .str "/claim/cut.py" 837, .int 379 0, .int 4 0, .int 0 0, .int 0 0, .int 3 0, .ref 461, (.bool true), .int 181 0, .ref 462, .none, .ref 463, .ref 464, .ref 465, .int 842 0, .int 379 0, .str "/claim/cut.py" 843]
noncomputable def o608 (P : Params) : Obj := ff (fo (tf 38) "bind_checked" "bind_checked" 3 [] .none .none .none (.str "clausemill.unify" 738) none (.ref 466) .none 0)
noncomputable def o609 (P : Params) : Obj := tp []
noncomputable def o610 (P : Params) : Obj := fy []
noncomputable def o611 (P : Params) : Obj := tp [.str "store" 848, .str "variable" 849, .str "cell" 850, .str "met" 851, .str "work" 852]
noncomputable def o612 (P : Params) : Obj := tp []
noncomputable def o613 (P : Params) : Obj := fx (fo (tf 39) "occurs_in" "occurs_in" 0 [] .none .none .none .none none .none .none 0)
noncomputable def o614 (P : Params) : Obj := fl "code" [.str "occurs_in" 845, .str "occurs_in" 846, .str "/claim/cut.py" 847, .int 384 0, .int 3 0, .int 0 0, .int 0 0, .int 3 0, .ref 468, (.bool true), .int 181 0, .ref 469, .none, .ref 470, .ref 471, .ref 472, .int 853 0, .int 384 0, .str "/claim/cut.py" 854]
noncomputable def o615 (P : Params) : Obj := ff (fo (tf 39) "occurs_in" "occurs_in" 3 [] .none .none .none (.str "clausemill.unify" 738) none (.ref 473) .none 0)
noncomputable def o616 (P : Params) : Obj := tp []
noncomputable def o617 (P : Params) : Obj := fy []
noncomputable def o618 (P : Params) : Obj := tp [.str "cell" 859, .str "tag" 860]
noncomputable def o619 (P : Params) : Obj := tp []
noncomputable def o620 (P : Params) : Obj := fx (fo (tf 40) "rank" "rank" 0 [] .none .none .none .none none .none .none 0)
noncomputable def o621 (P : Params) : Obj := fl "code" [.str "rank" 856, .str "rank" 857, .str "/claim/cut.py" 858, .int 400 0, .int 1 0, .int 0 0, .int 0 0, .int 3 0, .ref 475, (.bool true), .int 181 0, .ref 476, .none, .ref 477, .ref 478, .ref 479, .int 861 0, .int 400 0, .str "/claim/cut.py" 862]
noncomputable def o622 (P : Params) : Obj := ff (fo (tf 40) "rank" "rank" 3 [] .none .none .none (.str "clausemill.unify" 738) none (.ref 480) .none 0)
noncomputable def o623 (P : Params) : Obj := tp []
noncomputable def o624 (P : Params) : Obj := fy []
noncomputable def o625 (P : Params) : Obj := tp [.str "left" 867, .str "right" 868]
noncomputable def o626 (P : Params) : Obj := tp []
noncomputable def o627 (P : Params) : Obj := fx (fo (tf 41) "order" "order" 0 [] .none .none .none .none none .none .none 0)
noncomputable def o628 (P : Params) : Obj := fl "code" [.str "order" 864, .str "order" 865, .str "/claim/cut.py" 866, .int 409 0, .int 2 0, .int 0 0, .int 0 0, .int 3 0, .ref 482, (.bool true), .int 181 0, .ref 483, .none, .ref 484, .ref 485, .ref 486, .int 869 0, .int 409 0, .str "/claim/cut.py" 870]
noncomputable def o629 (P : Params) : Obj := ff (fo (tf 41) "order" "order" 3 [] .none .none .none (.str "clausemill.unify" 738) none (.ref 487) .none 0)
noncomputable def o630 (P : Params) : Obj := tp []
noncomputable def o631 (P : Params) : Obj := fy []
noncomputable def o632 (P : Params) : Obj := tp [.str "store" 875, .str "left" 876, .str "right" 877, .str "symbols" 878, .str "f" 879, .str "g" 880, .str "result" 881]
noncomputable def o633 (P : Params) : Obj := tp []
noncomputable def o634 (P : Params) : Obj := fx (fo (tf 42) "compare_shapes" "compare_shapes" 0 [] .none .none .none .none none .none .none 0)
noncomputable def o635 (P : Params) : Obj := fl "code" [.str "compare_shapes" 872, .str "compare_shapes" 873, .str "/claim/cut.py" 874, .int 415 0, .int 3 0, .int 0 0, .int 0 0, .int 3 0, .ref 489, (.bool true), .int 181 0, .ref 490, .none, .ref 491, .ref 492, .ref 493, .int 882 0, .int 415 0, .str "/claim/cut.py" 883]
noncomputable def o636 (P : Params) : Obj := ff (fo (tf 42) "compare_shapes" "compare_shapes" 3 [] .none .none .none (.str "clausemill.unify" 738) none (.ref 494) .none 0)
noncomputable def o637 (P : Params) : Obj := tp []
noncomputable def o638 (P : Params) : Obj := fy []
noncomputable def o639 (P : Params) : Obj := tp [.str "store" 888, .str "left" 889, .str "right" 890, .str "kind" 891, .str "result" 892]
noncomputable def o640 (P : Params) : Obj := tp []
noncomputable def o641 (P : Params) : Obj := fx (fo (tf 43) "compare_tops" "compare_tops" 0 [] .none .none .none .none none .none .none 0)
noncomputable def o642 (P : Params) : Obj := fl "code" [.str "compare_tops" 885, .str "compare_tops" 886, .str "/claim/cut.py" 887, .int 425 0, .int 3 0, .int 0 0, .int 0 0, .int 3 0, .ref 496, (.bool true), .int 181 0, .ref 497, .none, .ref 498, .ref 499, .ref 500, .int 893 0, .int 425 0, .str "/claim/cut.py" 894]
noncomputable def o643 (P : Params) : Obj := ff (fo (tf 43) "compare_tops" "compare_tops" 3 [] .none .none .none (.str "clausemill.unify" 738) none (.ref 501) .none 0)
noncomputable def o644 (P : Params) : Obj := tp []
noncomputable def o645 (P : Params) : Obj := fy []
noncomputable def o646 (P : Params) : Obj := tp [.str "store" 899, .str "c1" 900, .str "c2" 901, .str "met" 902, .str "work" 903, .str "left" 904, .str "right" 905, .str "result" 906]
noncomputable def o647 (P : Params) : Obj := tp []
noncomputable def o648 (P : Params) : Obj := fx (fo (tf 44) "compare" "compare" 0 [] .none .none .none .none none .none .none 0)
noncomputable def o649 (P : Params) : Obj := fl "code" [.str "compare" 896, .str "compare" 897, .str "/claim/cut.py" 898, .int 437 0, .int 3 0, .int 0 0, .int 0 0, .int 3 0, .ref 503, (.bool true), .int 181 0, .ref 504, .none, .ref 505, .ref 506, .ref 507, .int 907 0, .int 437 0, .str "/claim/cut.py" 908]
noncomputable def o650 (P : Params) : Obj := ff (fo (tf 44) "compare" "compare" 3 [] .none .none .none (.str "clausemill.unify" 738) none (.ref 508) .none 0)
noncomputable def o651 (P : Params) : Obj := tp []
noncomputable def o652 (P : Params) : Obj := fy []
noncomputable def o653 (P : Params) : Obj := tp [.str "store" 913, .str "keys" 914, .str "left" 915, .str "right" 916, .str "unique" 917, .str "merged" 918, .str "i" 919, .str "j" 920, .str "result" 921]
noncomputable def o654 (P : Params) : Obj := tp []
noncomputable def o655 (P : Params) : Obj := fx (fo (tf 45) "merge" "merge" 0 [] .none .none .none .none none .none .none 0)
noncomputable def o656 (P : Params) : Obj := fl "code" [.str "merge" 910, .str "merge" 911, .str "/claim/cut.py" 912, .int 452 0, .int 5 0, .int 0 0, .int 0 0, .int 3 0, .ref 510, (.bool true), .int 181 0, .ref 511, .none, .ref 512, .ref 513, .ref 514, .int 922 0, .int 452 0, .str "/claim/cut.py" 923]
noncomputable def o657 (P : Params) : Obj := ff (fo (tf 45) "merge" "merge" 3 [] .none .none .none (.str "clausemill.unify" 738) none (.ref 515) .none 0)
noncomputable def o658 (P : Params) : Obj := tp []
noncomputable def o659 (P : Params) : Obj := fy []
noncomputable def o660 (P : Params) : Obj := tp [.str "store" 928, .str "cells" 929, .str "unique" 930, .str "keyed" 931, .str "keys" 932, .str "runs" 933, .str "i" 934, .str "longer" 935, .str "found" 936]
noncomputable def o661 (P : Params) : Obj := tp []
noncomputable def o662 (P : Params) : Obj := fx (fo (tf 46) "merge_sort" "merge_sort" 0 [] .none .none .none .none none .none .none 0)
noncomputable def o663 (P : Params) : Obj := fl "code" [.str "merge_sort" 925, .str "merge_sort" 926, .str "/claim/cut.py" 927, .int 469 0, .int 4 0, .int 0 0, .int 0 0, .int 3 0, .ref 517, (.bool true), .int 181 0, .ref 518, .none, .ref 519, .ref 520, .ref 521, .int 937 0, .int 469 0, .str "/claim/cut.py" 938]
noncomputable def o664 (P : Params) : Obj := ff (fo (tf 46) "merge_sort" "merge_sort" 3 [] .none .none .none (.str "clausemill.unify" 738) none (.ref 522) .none 0)
noncomputable def o665 (P : Params) : Obj := tp [.int 4 435, .int 0 241]
noncomputable def o668 (P : Params) : Obj := tp []
noncomputable def o669 (P : Params) : Obj := fy []
noncomputable def o670 (P : Params) : Obj := tp [.str "m" 946]
noncomputable def o671 (P : Params) : Obj := tp []
noncomputable def o672 (P : Params) : Obj := fx (fo (tf 49) "order_of" "order_of" 0 [] .none .none .none .none none .none .none 0)
noncomputable def o673 (P : Params) : Obj := fl "code" [.str "order_of" 943, .str "order_of" 944, .str "/claim/cut.py" 945, .int 493 0, .int 1 0, .int 0 0, .int 0 0, .int 3 0, .ref 525, (.bool true), .int 181 0, .ref 526, .none, .ref 527, .ref 528, .ref 529, .int 947 0, .int 493 0, .str "/claim/cut.py" 948]
noncomputable def o674 (P : Params) : Obj := ff (fo (tf 49) "order_of" "order_of" 3 [] .none .none .none (.str "clausemill.preds_terms" 940) none (.ref 530) .none 0)
noncomputable def o675 (P : Params) : Obj := tp []
noncomputable def o676 (P : Params) : Obj := fy []
noncomputable def o677 (P : Params) : Obj := tp [.str "m" 953]
noncomputable def o678 (P : Params) : Obj := tp []
noncomputable def o679 (P : Params) : Obj := fx (fo (tf 50) "pred_identical" "pred_identical" 0 [] .none .none .none .none none .none .none 0)
noncomputable def o680 (P : Params) : Obj := fl "code" [.str "pred_identical" 950, .str "pred_identical" 951, .str "/claim/cut.py" 952, .int 495 0, .int 1 0, .int 0 0, .int 0 0, .int 3 0, .ref 532, (.bool true), .int 181 0, .ref 533, .none, .ref 534, .ref 535, .ref 536, .int 954 0, .int 495 0, .str "/claim/cut.py" 955]
noncomputable def o681 (P : Params) : Obj := ff (fo (tf 50) "pred_identical" "pred_identical" 3 [] .none .none .none (.str "clausemill.preds_terms" 940) none (.ref 537) .none 0)
noncomputable def o682 (P : Params) : Obj := tp []
noncomputable def o683 (P : Params) : Obj := fy []
noncomputable def o684 (P : Params) : Obj := tp [.str "m" 960]
noncomputable def o685 (P : Params) : Obj := tp []
noncomputable def o686 (P : Params) : Obj := fx (fo (tf 51) "pred_not_identical" "pred_not_identical" 0 [] .none .none .none .none none .none .none 0)
noncomputable def o687 (P : Params) : Obj := fl "code" [.str "pred_not_identical" 957, .str "pred_not_identical" 958, .str "/claim/cut.py" 959, .int 497 0, .int 1 0, .int 0 0, .int 0 0, .int 3 0, .ref 539, (.bool true), .int 181 0, .ref 540, .none, .ref 541, .ref 542, .ref 543, .int 961 0, .int 497 0, .str "/claim/cut.py" 962]
noncomputable def o688 (P : Params) : Obj := ff (fo (tf 51) "pred_not_identical" "pred_not_identical" 3 [] .none .none .none (.str "clausemill.preds_terms" 940) none (.ref 544) .none 0)
noncomputable def o689 (P : Params) : Obj := tp []
noncomputable def o690 (P : Params) : Obj := fy []
noncomputable def o691 (P : Params) : Obj := tp [.str "m" 967]
noncomputable def o692 (P : Params) : Obj := tp []
noncomputable def o693 (P : Params) : Obj := fx (fo (tf 52) "pred_before" "pred_before" 0 [] .none .none .none .none none .none .none 0)
noncomputable def o694 (P : Params) : Obj := fl "code" [.str "pred_before" 964, .str "pred_before" 965, .str "/claim/cut.py" 966, .int 499 0, .int 1 0, .int 0 0, .int 0 0, .int 3 0, .ref 546, (.bool true), .int 181 0, .ref 547, .none, .ref 548, .ref 549, .ref 550, .int 968 0, .int 499 0, .str "/claim/cut.py" 969]
noncomputable def o695 (P : Params) : Obj := ff (fo (tf 52) "pred_before" "pred_before" 3 [] .none .none .none (.str "clausemill.preds_terms" 940) none (.ref 551) .none 0)
noncomputable def o696 (P : Params) : Obj := tp []
noncomputable def o697 (P : Params) : Obj := fy []
noncomputable def o698 (P : Params) : Obj := tp [.str "m" 974]
noncomputable def o699 (P : Params) : Obj := tp []
noncomputable def o700 (P : Params) : Obj := fx (fo (tf 53) "pred_after" "pred_after" 0 [] .none .none .none .none none .none .none 0)
noncomputable def o701 (P : Params) : Obj := fl "code" [.str "pred_after" 971, .str "pred_after" 972, .str "/claim/cut.py" 973, .int 501 0, .int 1 0, .int 0 0, .int 0 0, .int 3 0, .ref 553, (.bool true), .int 181 0, .ref 554, .none, .ref 555, .ref 556, .ref 557, .int 975 0, .int 501 0, .str "/claim/cut.py" 976]
noncomputable def o702 (P : Params) : Obj := ff (fo (tf 53) "pred_after" "pred_after" 3 [] .none .none .none (.str "clausemill.preds_terms" 940) none (.ref 558) .none 0)
noncomputable def o703 (P : Params) : Obj := tp []
noncomputable def o704 (P : Params) : Obj := fy []
noncomputable def o705 (P : Params) : Obj := tp [.str "m" 981]
noncomputable def o706 (P : Params) : Obj := tp []
noncomputable def o707 (P : Params) : Obj := fx (fo (tf 54) "pred_not_after" "pred_not_after" 0 [] .none .none .none .none none .none .none 0)
noncomputable def o708 (P : Params) : Obj := fl "code" [.str "pred_not_after" 978, .str "pred_not_after" 979, .str "/claim/cut.py" 980, .int 503 0, .int 1 0, .int 0 0, .int 0 0, .int 3 0, .ref 560, (.bool true), .int 181 0, .ref 561, .none, .ref 562, .ref 563, .ref 564, .int 982 0, .int 503 0, .str "/claim/cut.py" 983]
noncomputable def o709 (P : Params) : Obj := ff (fo (tf 54) "pred_not_after" "pred_not_after" 3 [] .none .none .none (.str "clausemill.preds_terms" 940) none (.ref 565) .none 0)
noncomputable def o710 (P : Params) : Obj := tp []
noncomputable def o711 (P : Params) : Obj := fy []
noncomputable def o712 (P : Params) : Obj := tp [.str "m" 988]
noncomputable def o713 (P : Params) : Obj := tp []
noncomputable def o714 (P : Params) : Obj := fx (fo (tf 55) "pred_not_before" "pred_not_before" 0 [] .none .none .none .none none .none .none 0)
noncomputable def o715 (P : Params) : Obj := fl "code" [.str "pred_not_before" 985, .str "pred_not_before" 986, .str "/claim/cut.py" 987, .int 505 0, .int 1 0, .int 0 0, .int 0 0, .int 3 0, .ref 567, (.bool true), .int 181 0, .ref 568, .none, .ref 569, .ref 570, .ref 571, .int 989 0, .int 505 0, .str "/claim/cut.py" 990]
noncomputable def o716 (P : Params) : Obj := ff (fo (tf 55) "pred_not_before" "pred_not_before" 3 [] .none .none .none (.str "clausemill.preds_terms" 940) none (.ref 572) .none 0)
noncomputable def o717 (P : Params) : Obj := tp []
noncomputable def o718 (P : Params) : Obj := fy []
noncomputable def o719 (P : Params) : Obj := tp [.str "m" 995, .str "cell" 996, .str "items" 997, .str "tail" 998]
noncomputable def o720 (P : Params) : Obj := tp []
noncomputable def o721 (P : Params) : Obj := fx (fo (tf 56) "partial_list" "partial_list" 0 [] .none .none .none .none none .none .none 0)
noncomputable def o722 (P : Params) : Obj := fl "code" [.str "partial_list" 992, .str "partial_list" 993, .str "/claim/cut.py" 994, .int 507 0, .int 2 0, .int 0 0, .int 0 0, .int 3 0, .ref 574, (.bool true), .int 181 0, .ref 575, .none, .ref 576, .ref 577, .ref 578, .int 999 0, .int 507 0, .str "/claim/cut.py" 1000]
noncomputable def o723 (P : Params) : Obj := ff (fo (tf 56) "partial_list" "partial_list" 3 [] .none .none .none (.str "clausemill.preds_terms" 940) none (.ref 579) .none 0)
noncomputable def o724 (P : Params) : Obj := tp []
noncomputable def o725 (P : Params) : Obj := fy []
noncomputable def o726 (P : Params) : Obj := tp [.str "m" 1005, .str "cell" 1006, .str "items" 1007, .str "tail" 1008]
noncomputable def o727 (P : Params) : Obj := tp []
noncomputable def o728 (P : Params) : Obj := fx (fo (tf 57) "proper_list" "proper_list" 0 [] .none .none .none .none none .none .none 0)
noncomputable def o729 (P : Params) : Obj := fl "code" [.str "proper_list" 1002, .str "proper_list" 1003, .str "/claim/cut.py" 1004, .int 512 0, .int 2 0, .int 0 0, .int 0 0, .int 3 0, .ref 581, (.bool true), .int 181 0, .ref 582, .none, .ref 583, .ref 584, .ref 585, .int 1009 0, .int 512 0, .str "/claim/cut.py" 1010]
noncomputable def o730 (P : Params) : Obj := ff (fo (tf 57) "proper_list" "proper_list" 3 [] .none .none .none (.str "clausemill.preds_terms" 940) none (.ref 586) .none 0)
noncomputable def o731 (P : Params) : Obj := tp []
noncomputable def o732 (P : Params) : Obj := fy []
noncomputable def o733 (P : Params) : Obj := tp [.str "m" 1015, .str "items" 1016, .str "found" 1017]
noncomputable def o734 (P : Params) : Obj := tp []
noncomputable def o735 (P : Params) : Obj := fx (fo (tf 58) "pred_sort" "pred_sort" 0 [] .none .none .none .none none .none .none 0)
noncomputable def o736 (P : Params) : Obj := fl "code" [.str "pred_sort" 1012, .str "pred_sort" 1013, .str "/claim/cut.py" 1014, .int 519 0, .int 1 0, .int 0 0, .int 0 0, .int 3 0, .ref 588, (.bool true), .int 181 0, .ref 589, .none, .ref 590, .ref 591, .ref 592, .int 1018 0, .int 519 0, .str "/claim/cut.py" 1019]
noncomputable def o737 (P : Params) : Obj := ff (fo (tf 58) "pred_sort" "pred_sort" 3 [] .none .none .none (.str "clausemill.preds_terms" 940) none (.ref 593) .none 0)
noncomputable def o738 (P : Params) : Obj := tp []
noncomputable def o739 (P : Params) : Obj := fy []
noncomputable def o740 (P : Params) : Obj := tp [.str "m" 1024, .str "items" 1025, .str "found" 1026]
noncomputable def o741 (P : Params) : Obj := tp []
noncomputable def o742 (P : Params) : Obj := fx (fo (tf 59) "pred_msort" "pred_msort" 0 [] .none .none .none .none none .none .none 0)
noncomputable def o743 (P : Params) : Obj := fl "code" [.str "pred_msort" 1021, .str "pred_msort" 1022, .str "/claim/cut.py" 1023, .int 524 0, .int 1 0, .int 0 0, .int 0 0, .int 3 0, .ref 595, (.bool true), .int 181 0, .ref 596, .none, .ref 597, .ref 598, .ref 599, .int 1027 0, .int 524 0, .str "/claim/cut.py" 1028]
noncomputable def o744 (P : Params) : Obj := ff (fo (tf 59) "pred_msort" "pred_msort" 3 [] .none .none .none (.str "clausemill.preds_terms" 940) none (.ref 600) .none 0)
noncomputable def tr5 (P : Params) : BT := (Nd (boot_o_0 P) (Nd (boot_o_1 P) (Nd (o666 P) (Nd (boot_o_7 P) (Nd (o52 P) (Nd (o74 P) (Nd (o103 P) (Nd (o169 P) (Nd (o301 P) (Nd (o652 P) Nl Nl) Nl) (Nd (o520 P) Nl Nl)) (Nd (o235 P) (Nd (o365 P) (Nd (o718 P) Nl Nl) Nl) (Nd (o586 P) Nl Nl))) (Nd (o137 P) (Nd (o203 P) (Nd (o333 P) (Nd (o686 P) Nl Nl) Nl) (Nd (o554 P) Nl Nl)) (Nd (o269 P) (Nd (o488 P) Nl Nl) (Nd (o620 P) Nl Nl)))) (Nd (o87 P) (Nd (o121 P) (Nd (o185 P) (Nd (o317 P) (Nd (o670 P) Nl Nl) Nl) (Nd (o538 P) Nl Nl)) (Nd (o253 P) (Nd (o381 P) (Nd (o734 P) Nl Nl) Nl) (Nd (o604 P) Nl Nl))) (Nd (o153 P) (Nd (o219 P) (Nd (o349 P) (Nd (o702 P) Nl Nl) Nl) (Nd (o570 P) Nl Nl)) (Nd (o285 P) (Nd (o504 P) Nl Nl) (Nd (o636 P) Nl Nl))))) (Nd (o60 P) (Nd (o79 P) (Nd (o113 P) (Nd (o177 P) (Nd (o309 P) (Nd (o660 P) Nl Nl) Nl) (Nd (o528 P) Nl Nl)) (Nd (o245 P) (Nd (o373 P) (Nd (o726 P) Nl Nl) Nl) (Nd (o596 P) Nl Nl))) (Nd (o145 P) (Nd (o211 P) (Nd (o341 P) (Nd (o694 P) Nl Nl) Nl) (Nd (o562 P) Nl Nl)) (Nd (o277 P) (Nd (o496 P) Nl Nl) (Nd (o628 P) Nl Nl)))) (Nd (o95 P) (Nd (o129 P) (Nd (o193 P) (Nd (o325 P) (Nd (o678 P) Nl Nl) Nl) (Nd (o546 P) Nl Nl)) (Nd (o261 P) (Nd (o480 P) (Nd (o742 P) Nl Nl) Nl) (Nd (o612 P) Nl Nl))) (Nd (o161 P) (Nd (o227 P) (Nd (o357 P) (Nd (o710 P) Nl Nl) Nl) (Nd (o578 P) Nl Nl)) (Nd (o293 P) (Nd (o512 P) Nl Nl) (Nd (o644 P) Nl Nl)))))) (Nd (o43 P) (Nd (o56 P) (Nd (o75 P) (Nd (o107 P) (Nd (o173 P) (Nd (o305 P) (Nd (o656 P) Nl Nl) Nl) (Nd (o524 P) Nl Nl)) (Nd (o241 P) (Nd (o369 P) (Nd (o722 P) Nl Nl) Nl) (Nd (o590 P) Nl Nl))) (Nd (o141 P) (Nd (o207 P) (Nd (o337 P) (Nd (o690 P) Nl Nl) Nl) (Nd (o558 P) Nl Nl)) (Nd (o273 P) (Nd (o492 P) Nl Nl) (Nd (o624 P) Nl Nl)))) (Nd (o91 P) (Nd (o125 P) (Nd (o189 P) (Nd (o321 P) (Nd (o674 P) Nl Nl) Nl) (Nd (o542 P) Nl Nl)) (Nd (o257 P) (Nd (o385 P) (Nd (o738 P) Nl Nl) Nl) (Nd (o608 P) Nl Nl))) (Nd (o157 P) (Nd (o223 P) (Nd (o353 P) (Nd (o706 P) Nl Nl) Nl) (Nd (o574 P) Nl Nl)) (Nd (o289 P) (Nd (o508 P) Nl Nl) (Nd (o640 P) Nl Nl))))) (Nd (o64 P) (Nd (o83 P) (Nd (o117 P) (Nd (o181 P) (Nd (o313 P) (Nd (o664 P) Nl Nl) Nl) (Nd (o532 P) Nl Nl)) (Nd (o249 P) (Nd (o377 P) (Nd (o730 P) Nl Nl) Nl) (Nd (o600 P) Nl Nl))) (Nd (o149 P) (Nd (o215 P) (Nd (o345 P) (Nd (o698 P) Nl Nl) Nl) (Nd (o566 P) Nl Nl)) (Nd (o281 P) (Nd (o500 P) Nl Nl) (Nd (o632 P) Nl Nl)))) (Nd (o99 P) (Nd (o133 P) (Nd (o197 P) (Nd (o329 P) (Nd (o682 P) Nl Nl) Nl) (Nd (o550 P) Nl Nl)) (Nd (o265 P) (Nd (o484 P) Nl Nl) (Nd (o616 P) Nl Nl))) (Nd (o165 P) (Nd (o231 P) (Nd (o361 P) (Nd (o714 P) Nl Nl) Nl) (Nd (o582 P) Nl Nl)) (Nd (o297 P) (Nd (o516 P) Nl Nl) (Nd (o648 P) Nl Nl))))))) (Nd (boot_o_5 P) (Nd (boot_o_9 P) (Nd (o54 P) (Nd (o70 P) (Nd (o105 P) (Nd (o171 P) (Nd (o303 P) (Nd (o654 P) Nl Nl) Nl) (Nd (o522 P) Nl Nl)) (Nd (o237 P) (Nd (o367 P) (Nd (o720 P) Nl Nl) Nl) (Nd (o588 P) Nl Nl))) (Nd (o139 P) (Nd (o205 P) (Nd (o335 P) (Nd (o688 P) Nl Nl) Nl) (Nd (o556 P) Nl Nl)) (Nd (o271 P) (Nd (o490 P) Nl Nl) (Nd (o622 P) Nl Nl)))) (Nd (o89 P) (Nd (o123 P) (Nd (o187 P) (Nd (o319 P) (Nd (o672 P) Nl Nl) Nl) (Nd (o540 P) Nl Nl)) (Nd (o255 P) (Nd (o383 P) (Nd (o736 P) Nl Nl) Nl) (Nd (o606 P) Nl Nl))) (Nd (o155 P) (Nd (o221 P) (Nd (o351 P) (Nd (o704 P) Nl Nl) Nl) (Nd (o572 P) Nl Nl)) (Nd (o287 P) (Nd (o506 P) Nl Nl) (Nd (o638 P) Nl Nl))))) (Nd (o62 P) (Nd (o81 P) (Nd (o115 P) (Nd (o179 P) (Nd (o311 P) (Nd (o662 P) Nl Nl) Nl) (Nd (o530 P) Nl Nl)) (Nd (o247 P) (Nd (o375 P) (Nd (o728 P) Nl Nl) Nl) (Nd (o598 P) Nl Nl))) (Nd (o147 P) (Nd (o213 P) (Nd (o343 P) (Nd (o696 P) Nl Nl) Nl) (Nd (o564 P) Nl Nl)) (Nd (o279 P) (Nd (o498 P) Nl Nl) (Nd (o630 P) Nl Nl)))) (Nd (o97 P) (Nd (o131 P) (Nd (o195 P) (Nd (o327 P) (Nd (o680 P) Nl Nl) Nl) (Nd (o548 P) Nl Nl)) (Nd (o263 P) (Nd (o482 P) (Nd (o744 P) Nl Nl) Nl) (Nd (o614 P) Nl Nl))) (Nd (o163 P) (Nd (o229 P) (Nd (o359 P) (Nd (o712 P) Nl Nl) Nl) (Nd (o580 P) Nl Nl)) (Nd (o295 P) (Nd (o514 P) Nl Nl) (Nd (o646 P) Nl Nl)))))) (Nd (o45 P) (Nd (o58 P) (Nd (o77 P) (Nd (o111 P) (Nd (o175 P) (Nd (o307 P) (Nd (o658 P) Nl Nl) Nl) (Nd (o526 P) Nl Nl)) (Nd (o243 P) (Nd (o371 P) (Nd (o724 P) Nl Nl) Nl) (Nd (o592 P) Nl Nl))) (Nd (o143 P) (Nd (o209 P) (Nd (o339 P) (Nd (o692 P) Nl Nl) Nl) (Nd (o560 P) Nl Nl)) (Nd (o275 P) (Nd (o494 P) Nl Nl) (Nd (o626 P) Nl Nl)))) (Nd (o93 P) (Nd (o127 P) (Nd (o191 P) (Nd (o323 P) (Nd (o676 P) Nl Nl) Nl) (Nd (o544 P) Nl Nl)) (Nd (o259 P) (Nd (o387 P) (Nd (o740 P) Nl Nl) Nl) (Nd (o610 P) Nl Nl))) (Nd (o159 P) (Nd (o225 P) (Nd (o355 P) (Nd (o708 P) Nl Nl) Nl) (Nd (o576 P) Nl Nl)) (Nd (o291 P) (Nd (o510 P) Nl Nl) (Nd (o642 P) Nl Nl))))) (Nd (o66 P) (Nd (o85 P) (Nd (o119 P) (Nd (o183 P) (Nd (o315 P) (Nd (o668 P) Nl Nl) Nl) (Nd (o534 P) Nl Nl)) (Nd (o251 P) (Nd (o379 P) (Nd (o732 P) Nl Nl) Nl) (Nd (o602 P) Nl Nl))) (Nd (o151 P) (Nd (o217 P) (Nd (o347 P) (Nd (o700 P) Nl Nl) Nl) (Nd (o568 P) Nl Nl)) (Nd (o283 P) (Nd (o502 P) Nl Nl) (Nd (o634 P) Nl Nl)))) (Nd (o101 P) (Nd (o135 P) (Nd (o199 P) (Nd (o331 P) (Nd (o684 P) Nl Nl) Nl) (Nd (o552 P) Nl Nl)) (Nd (o267 P) (Nd (o486 P) Nl Nl) (Nd (o618 P) Nl Nl))) (Nd (o167 P) (Nd (o233 P) (Nd (o363 P) (Nd (o716 P) Nl Nl) Nl) (Nd (o584 P) Nl Nl)) (Nd (o299 P) (Nd (o518 P) Nl Nl) (Nd (o650 P) Nl Nl)))))))) (Nd (o49 P) (Nd (boot_o_4 P) (Nd (boot_o_8 P) (Nd (o53 P) (Nd (o69 P) (Nd (o104 P) (Nd (o170 P) (Nd (o302 P) (Nd (o653 P) Nl Nl) Nl) (Nd (o521 P) Nl Nl)) (Nd (o236 P) (Nd (o366 P) (Nd (o719 P) Nl Nl) Nl) (Nd (o587 P) Nl Nl))) (Nd (o138 P) (Nd (o204 P) (Nd (o334 P) (Nd (o687 P) Nl Nl) Nl) (Nd (o555 P) Nl Nl)) (Nd (o270 P) (Nd (o489 P) Nl Nl) (Nd (o621 P) Nl Nl)))) (Nd (o88 P) (Nd (o122 P) (Nd (o186 P) (Nd (o318 P) (Nd (o671 P) Nl Nl) Nl) (Nd (o539 P) Nl Nl)) (Nd (o254 P) (Nd (o382 P) (Nd (o735 P) Nl Nl) Nl) (Nd (o605 P) Nl Nl))) (Nd (o154 P) (Nd (o220 P) (Nd (o350 P) (Nd (o703 P) Nl Nl) Nl) (Nd (o571 P) Nl Nl)) (Nd (o286 P) (Nd (o505 P) Nl Nl) (Nd (o637 P) Nl Nl))))) (Nd (o61 P) (Nd (o80 P) (Nd (o114 P) (Nd (o178 P) (Nd (o310 P) (Nd (o661 P) Nl Nl) Nl) (Nd (o529 P) Nl Nl)) (Nd (o246 P) (Nd (o374 P) (Nd (o727 P) Nl Nl) Nl) (Nd (o597 P) Nl Nl))) (Nd (o146 P) (Nd (o212 P) (Nd (o342 P) (Nd (o695 P) Nl Nl) Nl) (Nd (o563 P) Nl Nl)) (Nd (o278 P) (Nd (o497 P) Nl Nl) (Nd (o629 P) Nl Nl)))) (Nd (o96 P) (Nd (o130 P) (Nd (o194 P) (Nd (o326 P) (Nd (o679 P) Nl Nl) Nl) (Nd (o547 P) Nl Nl)) (Nd (o262 P) (Nd (o481 P) (Nd (o743 P) Nl Nl) Nl) (Nd (o613 P) Nl Nl))) (Nd (o162 P) (Nd (o228 P) (Nd (o358 P) (Nd (o711 P) Nl Nl) Nl) (Nd (o579 P) Nl Nl)) (Nd (o294 P) (Nd (o513 P) Nl Nl) (Nd (o645 P) Nl Nl)))))) (Nd (o667 P) (Nd (o57 P) (Nd (o76 P) (Nd (o110 P) (Nd (o174 P) (Nd (o306 P) (Nd (o657 P) Nl Nl) Nl) (Nd (o525 P) Nl Nl)) (Nd (o242 P) (Nd (o370 P) (Nd (o723 P) Nl Nl) Nl) (Nd (o591 P) Nl Nl))) (Nd (o142 P) (Nd (o208 P) (Nd (o338 P) (Nd (o691 P) Nl Nl) Nl) (Nd (o559 P) Nl Nl)) (Nd (o274 P) (Nd (o493 P) Nl Nl) (Nd (o625 P) Nl Nl)))) (Nd (o92 P) (Nd (o126 P) (Nd (o190 P) (Nd (o322 P) (Nd (o675 P) Nl Nl) Nl) (Nd (o543 P) Nl Nl)) (Nd (o258 P) (Nd (o386 P) (Nd (o739 P) Nl Nl) Nl) (Nd (o609 P) Nl Nl))) (Nd (o158 P) (Nd (o224 P) (Nd (o354 P) (Nd (o707 P) Nl Nl) Nl) (Nd (o575 P) Nl Nl)) (Nd (o290 P) (Nd (o509 P) Nl Nl) (Nd (o641 P) Nl Nl))))) (Nd (o65 P) (Nd (o84 P) (Nd (o118 P) (Nd (o182 P) (Nd (o314 P) (Nd (o665 P) Nl Nl) Nl) (Nd (o533 P) Nl Nl)) (Nd (o250 P) (Nd (o378 P) (Nd (o731 P) Nl Nl) Nl) (Nd (o601 P) Nl Nl))) (Nd (o150 P) (Nd (o216 P) (Nd (o346 P) (Nd (o699 P) Nl Nl) Nl) (Nd (o567 P) Nl Nl)) (Nd (o282 P) (Nd (o501 P) Nl Nl) (Nd (o633 P) Nl Nl)))) (Nd (o100 P) (Nd (o134 P) (Nd (o198 P) (Nd (o330 P) (Nd (o683 P) Nl Nl) Nl) (Nd (o551 P) Nl Nl)) (Nd (o266 P) (Nd (o485 P) Nl Nl) (Nd (o617 P) Nl Nl))) (Nd (o166 P) (Nd (o232 P) (Nd (o362 P) (Nd (o715 P) Nl Nl) Nl) (Nd (o583 P) Nl Nl)) (Nd (o298 P) (Nd (o517 P) Nl Nl) (Nd (o649 P) Nl Nl))))))) (Nd (boot_o_6 P) (Nd (boot_o_10 P) (Nd (o55 P) (Nd (o71 P) (Nd (o106 P) (Nd (o172 P) (Nd (o304 P) (Nd (o655 P) Nl Nl) Nl) (Nd (o523 P) Nl Nl)) (Nd (o238 P) (Nd (o368 P) (Nd (o721 P) Nl Nl) Nl) (Nd (o589 P) Nl Nl))) (Nd (o140 P) (Nd (o206 P) (Nd (o336 P) (Nd (o689 P) Nl Nl) Nl) (Nd (o557 P) Nl Nl)) (Nd (o272 P) (Nd (o491 P) Nl Nl) (Nd (o623 P) Nl Nl)))) (Nd (o90 P) (Nd (o124 P) (Nd (o188 P) (Nd (o320 P) (Nd (o673 P) Nl Nl) Nl) (Nd (o541 P) Nl Nl)) (Nd (o256 P) (Nd (o479 P) (Nd (o737 P) Nl Nl) Nl) (Nd (o607 P) Nl Nl))) (Nd (o156 P) (Nd (o222 P) (Nd (o352 P) (Nd (o705 P) Nl Nl) Nl) (Nd (o573 P) Nl Nl)) (Nd (o288 P) (Nd (o507 P) Nl Nl) (Nd (o639 P) Nl Nl))))) (Nd (o63 P) (Nd (o82 P) (Nd (o116 P) (Nd (o180 P) (Nd (o312 P) (Nd (o663 P) Nl Nl) Nl) (Nd (o531 P) Nl Nl)) (Nd (o248 P) (Nd (o376 P) (Nd (o729 P) Nl Nl) Nl) (Nd (o599 P) Nl Nl))) (Nd (o148 P) (Nd (o214 P) (Nd (o344 P) (Nd (o697 P) Nl Nl) Nl) (Nd (o565 P) Nl Nl)) (Nd (o280 P) (Nd (o499 P) Nl Nl) (Nd (o631 P) Nl Nl)))) (Nd (o98 P) (Nd (o132 P) (Nd (o196 P) (Nd (o328 P) (Nd (o681 P) Nl Nl) Nl) (Nd (o549 P) Nl Nl)) (Nd (o264 P) (Nd (o483 P) Nl Nl) (Nd (o615 P) Nl Nl))) (Nd (o164 P) (Nd (o230 P) (Nd (o360 P) (Nd (o713 P) Nl Nl) Nl) (Nd (o581 P) Nl Nl)) (Nd (o296 P) (Nd (o515 P) Nl Nl) (Nd (o647 P) Nl Nl)))))) (Nd (o46 P) (Nd (o59 P) (Nd (o78 P) (Nd (o112 P) (Nd (o176 P) (Nd (o308 P) (Nd (o659 P) Nl Nl) Nl) (Nd (o527 P) Nl Nl)) (Nd (o244 P) (Nd (o372 P) (Nd (o725 P) Nl Nl) Nl) (Nd (o595 P) Nl Nl))) (Nd (o144 P) (Nd (o210 P) (Nd (o340 P) (Nd (o693 P) Nl Nl) Nl) (Nd (o561 P) Nl Nl)) (Nd (o276 P) (Nd (o495 P) Nl Nl) (Nd (o627 P) Nl Nl)))) (Nd (o94 P) (Nd (o128 P) (Nd (o192 P) (Nd (o324 P) (Nd (o677 P) Nl Nl) Nl) (Nd (o545 P) Nl Nl)) (Nd (o260 P) (Nd (o388 P) (Nd (o741 P) Nl Nl) Nl) (Nd (o611 P) Nl Nl))) (Nd (o160 P) (Nd (o226 P) (Nd (o356 P) (Nd (o709 P) Nl Nl) Nl) (Nd (o577 P) Nl Nl)) (Nd (o292 P) (Nd (o511 P) Nl Nl) (Nd (o643 P) Nl Nl))))) (Nd (o67 P) (Nd (o86 P) (Nd (o120 P) (Nd (o184 P) (Nd (o316 P) (Nd (o669 P) Nl Nl) Nl) (Nd (o537 P) Nl Nl)) (Nd (o252 P) (Nd (o380 P) (Nd (o733 P) Nl Nl) Nl) (Nd (o603 P) Nl Nl))) (Nd (o152 P) (Nd (o218 P) (Nd (o348 P) (Nd (o701 P) Nl Nl) Nl) (Nd (o569 P) Nl Nl)) (Nd (o284 P) (Nd (o503 P) Nl Nl) (Nd (o635 P) Nl Nl)))) (Nd (o102 P) (Nd (o136 P) (Nd (o200 P) (Nd (o332 P) (Nd (o685 P) Nl Nl) Nl) (Nd (o553 P) Nl Nl)) (Nd (o268 P) (Nd (o487 P) Nl Nl) (Nd (o619 P) Nl Nl))) (Nd (o168 P) (Nd (o234 P) (Nd (o364 P) (Nd (o717 P) Nl Nl) Nl) (Nd (o585 P) Nl Nl)) (Nd (o300 P) (Nd (o519 P) Nl Nl) (Nd (o651 P) Nl Nl)))))))))
noncomputable def o998 (P : Params) : Obj := ⟨.type "dict", none, (.dict ⟨[de P "__name__" 165 (.str "law_rr0035_01" 1246), de P "__doc__" 166 .none, de P "__package__" 167 .none, de P "__loader__" 168 (.builtin "__main__.__loader__#opaque"), de P "__spec__" 169 .none, de P "__annotations__" 170 (.ref 6), de P "__builtins__" 171 (.ref 4), de P "__file__" 173 (.str "/claim/cut.py" 172), de P "__cached__" 174 .none, de P "_wall" 193 (.ref 21), de P "ClausemillError" 215 (.ref 31), de P "PrologError" 240 (.ref 51), de P "A_NIL" 242 (.int 0 241), de P "A_SYSTEM" 244 (.int 25 243), de P "F_DOT" 246 (.int 0 245), de P "F_ERROR" 248 (.int 16 247), de P "fixed_atoms" 254 (.ref 60), de P "fixed_functors" 260 (.ref 67), de P "Symbols" 380 (.ref 154), de P "system_error" 389 (.ref 165), de P "formal_of" 400 (.ref 172), de P "instantiation_error" 407 (.ref 179), de P "type_error" 416 (.ref 186), de P "resource_error" 424 (.ref 193), de P "REF" 428 (.int 0 427), de P "SRF" 430 (.int 1 429), de P "STR" 432 (.int 2 431), de P "LIS" 434 (.int 3 433), de P "CON" 436 (.int 4 435), de P "INT" 438 (.int 5 437), de P "FUN" 440 (.int 6 439), de P "VOID" 442 (.ref 194), de P "VISIT" 444 (.int 0 443), de P "BUILD" 446 (.int 1 445), de P "Cells" 640 (.ref 338), de P "Store" 737 (.ref 395), de P "PairSet" 779 (.ref 421), de P "push_arguments" 790 (.ref 432), de P "push_pairs" 803 (.ref 439), de P "same_shape" 812 (.ref 446), de P "is_variable" 819 (.ref 453), de P "unify" 833 (.ref 460), de P "unify_unify" 834 (.ref 460), de P "bind_checked" 844 (.ref 467), de P "occurs_in" 855 (.ref 474), de P "rank" 863 (.ref 481), de P "order" 871 (.ref 488), de P "compare_shapes" 884 (.ref 495), de P "compare_tops" 895 (.ref 502), de P "compare" 909 (.ref 509), de P "merge" 924 (.ref 516), de P "merge_sort" 939 (.ref 523), de P "NIL_CELL" 942 (.ref 524), de P "order_of" 949 (.ref 531), de P "pred_identical" 956 (.ref 538), de P "pred_not_identical" 963 (.ref 545), de P "pred_before" 970 (.ref 552), de P "pred_after" 977 (.ref 559), de P "pred_not_after" 984 (.ref 566), de P "pred_not_before" 991 (.ref 573), de P "partial_list" 1001 (.ref 580), de P "proper_list" 1011 (.ref 587), de P "pred_sort" 1020 (.ref 594), de P "pred_msort" 1029 (.ref 601), de P "READ" 1033 (.str "read" 1032), de P "EXTRA" 1035 (.int 8 1034), de P "Areas" 1245 (.ref 759), de P "_law_digit" 1258 (.ref 770), de P "_law_simple" 1268 (.ref 777), de P "_law_element" 1274 (.ref 782), de P "_law_holds" 1284 (.ref 789), de P "_law_sorted" 1296 (.ref 796), de P "_law_between" 1302 (.ref 801), de P "law" 1308 (.ref 806)]⟩ 74), ⟨[]⟩⟩
noncomputable def o999 (P : Params) : Obj := fy [.int 1 0, .int 0 0, .ref 20, .int 5 0, .int 0 0, .ref 27, .int 7 0, .int 0 0, .ref 40, .int 15 0, .int 0 0, .ref 59, .int 17 0, .int 0 0, .ref 66, .int 19 0, .int 0 0, .ref 73, .int 77 0, .int 0 0, .ref 164, .int 79 0, .int 0 0, .ref 171, .int 84 0, .int 0 0, .ref 178, .int 86 0, .int 0 0, .ref 185, .int 88 0, .int 0 0, .ref 192, .int 101 0, .int 0 0, .ref 200, .int 227 0, .int 0 0, .ref 348, .int 326 0, .int 0 0, .ref 403, .int 338 0, .int 0 0, .ref 431, .int 342 0, .int 0 0, .ref 438, .int 347 0, .int 0 0, .ref 445, .int 353 0, .int 0 0, .ref 452, .int 355 0, .int 0 0, .ref 459, .int 379 0, .int 0 0, .ref 466, .int 384 0, .int 0 0, .ref 473, .int 400 0, .int 0 0, .ref 480, .int 409 0, .int 0 0, .ref 487, .int 415 0, .int 0 0, .ref 494, .int 425 0, .int 0 0, .ref 501, .int 437 0, .int 0 0, .ref 508, .int 452 0, .int 0 0, .ref 515, .int 469 0, .int 0 0, .ref 522, .int 493 0, .int 0 0, .ref 530, .int 495 0, .int 0 0, .ref 537, .int 497 0, .int 0 0, .ref 544, .int 499 0, .int 0 0, .ref 551, .int 501 0, .int 0 0, .ref 558, .int 503 0, .int 0 0, .ref 565, .int 505 0, .int 0 0, .ref 572, .int 507 0, .int 0 0, .ref 579, .int 512 0, .int 0 0, .ref 586, .int 519 0, .int 0 0, .ref 593, .int 524 0, .int 0 0, .ref 600, .int 532 0, .int 0 0, .ref 607, .int 623 0, .int 0 0, .ref 769, .int 630 0, .int 0 0, .ref 776, .int 637 0, .int 0 0, .ref 781, .int 646 0, .int 0 0, .ref 788, .int 649 0, .int 0 0, .ref 795, .int 656 0, .int 0 0, .ref 800, .int 664 0, .int 0 0, .ref 805]
noncomputable def o747 (P : Params) : Obj := tp []
noncomputable def o748 (P : Params) : Obj := fl "builtin_function_or_method" [.builtin "type.__prepare__", .type "type"]
noncomputable def o749 (P : Params) : Obj := ⟨.type "dict", none, (.dict ⟨[de P "__module__" 1043 (.str "clausemill.areas" 1030), de P "__qualname__" 1045 (.str "Areas" 1044), de P "__firstlineno__" 1047 (.int 532 1046), de P "__init__" 1061 (.ref 616), de P "reset" 1068 (.ref 623), de P "set_x" 1077 (.ref 630), de P "set_arguments" 1087 (.ref 637), de P "arg" 1095 (.ref 644), de P "unify" 1104 (.ref 651), de P "take" 1112 (.ref 658), de P "put" 1120 (.ref 665), de P "top" 1127 (.ref 672), de P "push_environment" 1135 (.ref 679), de P "pop_environment" 1142 (.ref 686), de P "in_chain" 1150 (.ref 693), de P "set_choice" 1158 (.ref 700), de P "push_choice" 1167 (.ref 707), de P "set_alternative" 1175 (.ref 714), de P "choice_part" 1183 (.ref 721), de P "restore_choice" 1190 (.ref 728), de P "pop_choice" 1197 (.ref 735), de P "cut_back" 1205 (.ref 742), de P "choices" 1212 (.ref 749), de P "environments" 1219 (.ref 756), de P "__static_attributes__" 1238 (.ref 757)]⟩ 25), ⟨[]⟩⟩
noncomputable def o750 (P : Params) : Obj := tp []
noncomputable def o751 (P : Params) : Obj := fy [.int 534 0, .int 4 0, .ref 615, .int 542 0, .int 4 0, .ref 622, .int 557 0, .int 4 0, .ref 629, .int 562 0, .int 4 0, .ref 636, .int 568 0, .int 4 0, .ref 643, .int 571 0, .int 4 0, .ref 650, .int 574 0, .int 4 0, .ref 657, .int 577 0, .int 4 0, .ref 664, .int 580 0, .int 4 0, .ref 671, .int 587 0, .int 4 0, .ref 678, .int 590 0, .int 4 0, .ref 685, .int 593 0, .int 4 0, .ref 692, .int 596 0, .int 4 0, .ref 699, .int 599 0, .int 4 0, .ref 706, .int 602 0, .int 4 0, .ref 713, .int 605 0, .int 4 0, .ref 720, .int 608 0, .int 4 0, .ref 727, .int 611 0, .int 4 0, .ref 734, .int 614 0, .int 4 0, .ref 741, .int 617 0, .int 4 0, .ref 748, .int 620 0, .int 4 0, .ref 755]
noncomputable def o752 (P : Params) : Obj := fl "code" [.str "Areas" 1038, .str "Areas" 1039, .str "/claim/cut.py" 1040, .int 532 0, .int 0 0, .int 0 0, .int 0 0, .int 0 0, .ref 605, (.bool false), .int 181 0, .ref 606, .none, .none, .none, .none, .int 1041 0, .int 532 0, .str "/claim/cut.py" 1042]
noncomputable def o753 (P : Params) : Obj := ⟨.type "frame", none, .plain, ⟨[(some (.ref 607)), (some (.ref 3)), (some (.ref 604)), none, (some (.str "clausemill.areas" 1030)), none, (some (.ref 0))]⟩⟩
noncomputable def o754 (P : Params) : Obj := tp [.int 100000 1048, (.bool true), .int 4096 1049]
noncomputable def o755 (P : Params) : Obj := tp []
noncomputable def o756 (P : Params) : Obj := fy []
noncomputable def o757 (P : Params) : Obj := tp [.str "self" 1053, .str "symbols" 1054, .str "code" 1055, .str "max_heap" 1056, .str "occurs" 1057, .str "max_bits" 1058]
noncomputable def o758 (P : Params) : Obj := tp []
noncomputable def o759 (P : Params) : Obj := fx (fo (mf 63 0) "__init__" "Areas.__init__" 0 [] .none .none .none .none none .none .none 0)
noncomputable def o760 (P : Params) : Obj := fl "code" [.str "__init__" 1050, .str "Areas.__init__" 1051, .str "/claim/cut.py" 1052, .int 534 0, .int 6 0, .int 0 0, .int 0 0, .int 3 0, .ref 610, (.bool true), .int 181 0, .ref 611, .none, .ref 612, .ref 613, .ref 614, .int 1059 0, .int 534 0, .str "/claim/cut.py" 1060]
noncomputable def o761 (P : Params) : Obj := ff (fo (mf 63 0) "__init__" "Areas.__init__" 3 [] (.ref 609) .none .none (.str "clausemill.areas" 1030) none (.ref 615) .none 0)
noncomputable def o762 (P : Params) : Obj := tp []
noncomputable def o763 (P : Params) : Obj := fy []
noncomputable def o764 (P : Params) : Obj := tp [.str "self" 1065]
noncomputable def o765 (P : Params) : Obj := tp []
noncomputable def o766 (P : Params) : Obj := fx (fo (mf 63 1) "reset" "Areas.reset" 0 [] .none .none .none .none none .none .none 0)
noncomputable def o767 (P : Params) : Obj := fl "code" [.str "reset" 1062, .str "Areas.reset" 1063, .str "/claim/cut.py" 1064, .int 542 0, .int 1 0, .int 0 0, .int 0 0, .int 3 0, .ref 617, (.bool true), .int 181 0, .ref 618, .none, .ref 619, .ref 620, .ref 621, .int 1066 0, .int 542 0, .str "/claim/cut.py" 1067]
noncomputable def o768 (P : Params) : Obj := ff (fo (mf 63 1) "reset" "Areas.reset" 3 [] .none .none .none (.str "clausemill.areas" 1030) none (.ref 622) .none 0)
noncomputable def o769 (P : Params) : Obj := tp []
noncomputable def o770 (P : Params) : Obj := fy []
noncomputable def o771 (P : Params) : Obj := tp [.str "self" 1072, .str "number" 1073, .str "cell" 1074]
noncomputable def o772 (P : Params) : Obj := tp []
noncomputable def o773 (P : Params) : Obj := fx (fo (mf 63 2) "set_x" "Areas.set_x" 0 [] .none .none .none .none none .none .none 0)
noncomputable def o774 (P : Params) : Obj := fl "code" [.str "set_x" 1069, .str "Areas.set_x" 1070, .str "/claim/cut.py" 1071, .int 557 0, .int 3 0, .int 0 0, .int 0 0, .int 3 0, .ref 624, (.bool true), .int 181 0, .ref 625, .none, .ref 626, .ref 627, .ref 628, .int 1075 0, .int 557 0, .str "/claim/cut.py" 1076]
noncomputable def o775 (P : Params) : Obj := ff (fo (mf 63 2) "set_x" "Areas.set_x" 3 [] .none .none .none (.str "clausemill.areas" 1030) none (.ref 629) .none 0)
noncomputable def o776 (P : Params) : Obj := tp []
noncomputable def o777 (P : Params) : Obj := fy []
noncomputable def o778 (P : Params) : Obj := tp [.str "self" 1081, .str "cells" 1082, .str "number" 1083, .str "cell" 1084]
noncomputable def o779 (P : Params) : Obj := tp []
noncomputable def o780 (P : Params) : Obj := fx (fo (mf 63 3) "set_arguments" "Areas.set_arguments" 0 [] .none .none .none .none none .none .none 0)
noncomputable def o781 (P : Params) : Obj := fl "code" [.str "set_arguments" 1078, .str "Areas.set_arguments" 1079, .str "/claim/cut.py" 1080, .int 562 0, .int 2 0, .int 0 0, .int 0 0, .int 3 0, .ref 631, (.bool true), .int 181 0, .ref 632, .none, .ref 633, .ref 634, .ref 635, .int 1085 0, .int 562 0, .str "/claim/cut.py" 1086]
noncomputable def o782 (P : Params) : Obj := ff (fo (mf 63 3) "set_arguments" "Areas.set_arguments" 3 [] .none .none .none (.str "clausemill.areas" 1030) none (.ref 636) .none 0)
noncomputable def o783 (P : Params) : Obj := tp []
noncomputable def o784 (P : Params) : Obj := fy []
noncomputable def o785 (P : Params) : Obj := tp [.str "self" 1091, .str "i" 1092]
noncomputable def o786 (P : Params) : Obj := tp []
noncomputable def o787 (P : Params) : Obj := fx (fo (mf 63 4) "arg" "Areas.arg" 0 [] .none .none .none .none none .none .none 0)
noncomputable def o788 (P : Params) : Obj := fl "code" [.str "arg" 1088, .str "Areas.arg" 1089, .str "/claim/cut.py" 1090, .int 568 0, .int 2 0, .int 0 0, .int 0 0, .int 3 0, .ref 638, (.bool true), .int 181 0, .ref 639, .none, .ref 640, .ref 641, .ref 642, .int 1093 0, .int 568 0, .str "/claim/cut.py" 1094]
noncomputable def o789 (P : Params) : Obj := ff (fo (mf 63 4) "arg" "Areas.arg" 3 [] .none .none .none (.str "clausemill.areas" 1030) none (.ref 643) .none 0)
noncomputable def o790 (P : Params) : Obj := tp []
noncomputable def o791 (P : Params) : Obj := fy []
noncomputable def o792 (P : Params) : Obj := tp [.str "self" 1099, .str "c1" 1100, .str "c2" 1101]
noncomputable def o793 (P : Params) : Obj := tp []
noncomputable def o794 (P : Params) : Obj := fx (fo (mf 63 5) "unify" "Areas.unify" 0 [] .none .none .none .none none .none .none 0)
noncomputable def o795 (P : Params) : Obj := fl "code" [.str "unify" 1096, .str "Areas.unify" 1097, .str "/claim/cut.py" 1098, .int 571 0, .int 3 0, .int 0 0, .int 0 0, .int 3 0, .ref 645, (.bool true), .int 181 0, .ref 646, .none, .ref 647, .ref 648, .ref 649, .int 1102 0, .int 571 0, .str "/claim/cut.py" 1103]
noncomputable def o796 (P : Params) : Obj := ff (fo (mf 63 5) "unify" "Areas.unify" 3 [] .none .none .none (.str "clausemill.areas" 1030) none (.ref 650) .none 0)
noncomputable def o797 (P : Params) : Obj := tp []
noncomputable def o798 (P : Params) : Obj := fy []
noncomputable def o799 (P : Params) : Obj := tp [.str "self" 1108, .str "cell" 1109]
noncomputable def o800 (P : Params) : Obj := tp []
noncomputable def o801 (P : Params) : Obj := fx (fo (mf 63 6) "take" "Areas.take" 0 [] .none .none .none .none none .none .none 0)
noncomputable def o802 (P : Params) : Obj := fl "code" [.str "take" 1105, .str "Areas.take" 1106, .str "/claim/cut.py" 1107, .int 574 0, .int 2 0, .int 0 0, .int 0 0, .int 3 0, .ref 652, (.bool true), .int 181 0, .ref 653, .none, .ref 654, .ref 655, .ref 656, .int 1110 0, .int 574 0, .str "/claim/cut.py" 1111]
noncomputable def o803 (P : Params) : Obj := ff (fo (mf 63 6) "take" "Areas.take" 3 [] .none .none .none (.str "clausemill.areas" 1030) none (.ref 657) .none 0)
noncomputable def o804 (P : Params) : Obj := tp []
noncomputable def o805 (P : Params) : Obj := fy []
noncomputable def o806 (P : Params) : Obj := tp [.str "self" 1116, .str "term" 1117]
noncomputable def o807 (P : Params) : Obj := tp []
noncomputable def o808 (P : Params) : Obj := fx (fo (mf 63 7) "put" "Areas.put" 0 [] .none .none .none .none none .none .none 0)
noncomputable def o809 (P : Params) : Obj := fl "code" [.str "put" 1113, .str "Areas.put" 1114, .str "/claim/cut.py" 1115, .int 577 0, .int 2 0, .int 0 0, .int 0 0, .int 3 0, .ref 659, (.bool true), .int 181 0, .ref 660, .none, .ref 661, .ref 662, .ref 663, .int 1118 0, .int 577 0, .str "/claim/cut.py" 1119]
noncomputable def o810 (P : Params) : Obj := ff (fo (mf 63 7) "put" "Areas.put" 3 [] .none .none .none (.str "clausemill.areas" 1030) none (.ref 664) .none 0)
noncomputable def o811 (P : Params) : Obj := tp []
noncomputable def o812 (P : Params) : Obj := fy []
noncomputable def o813 (P : Params) : Obj := tp [.str "self" 1124]
noncomputable def o814 (P : Params) : Obj := tp []
noncomputable def o815 (P : Params) : Obj := fx (fo (mf 63 8) "top" "Areas.top" 0 [] .none .none .none .none none .none .none 0)
noncomputable def o816 (P : Params) : Obj := fl "code" [.str "top" 1121, .str "Areas.top" 1122, .str "/claim/cut.py" 1123, .int 580 0, .int 1 0, .int 0 0, .int 0 0, .int 3 0, .ref 666, (.bool true), .int 181 0, .ref 667, .none, .ref 668, .ref 669, .ref 670, .int 1125 0, .int 580 0, .str "/claim/cut.py" 1126]
noncomputable def o817 (P : Params) : Obj := ff (fo (mf 63 8) "top" "Areas.top" 3 [] .none .none .none (.str "clausemill.areas" 1030) none (.ref 671) .none 0)
noncomputable def o818 (P : Params) : Obj := tp []
noncomputable def o819 (P : Params) : Obj := fy []
noncomputable def o820 (P : Params) : Obj := tp [.str "self" 1131, .str "size" 1132]
noncomputable def o821 (P : Params) : Obj := tp []
noncomputable def o822 (P : Params) : Obj := fx (fo (mf 63 9) "push_environment" "Areas.push_environment" 0 [] .none .none .none .none none .none .none 0)
noncomputable def o823 (P : Params) : Obj := fl "code" [.str "push_environment" 1128, .str "Areas.push_environment" 1129, .str "/claim/cut.py" 1130, .int 587 0, .int 2 0, .int 0 0, .int 0 0, .int 3 0, .ref 673, (.bool true), .int 181 0, .ref 674, .none, .ref 675, .ref 676, .ref 677, .int 1133 0, .int 587 0, .str "/claim/cut.py" 1134]
noncomputable def o824 (P : Params) : Obj := ff (fo (mf 63 9) "push_environment" "Areas.push_environment" 3 [] .none .none .none (.str "clausemill.areas" 1030) none (.ref 678) .none 0)
noncomputable def o825 (P : Params) : Obj := tp []
noncomputable def o826 (P : Params) : Obj := fy []
noncomputable def o827 (P : Params) : Obj := tp [.str "self" 1139]
noncomputable def o828 (P : Params) : Obj := tp []
noncomputable def o829 (P : Params) : Obj := fx (fo (mf 63 10) "pop_environment" "Areas.pop_environment" 0 [] .none .none .none .none none .none .none 0)
noncomputable def o830 (P : Params) : Obj := fl "code" [.str "pop_environment" 1136, .str "Areas.pop_environment" 1137, .str "/claim/cut.py" 1138, .int 590 0, .int 1 0, .int 0 0, .int 0 0, .int 3 0, .ref 680, (.bool true), .int 181 0, .ref 681, .none, .ref 682, .ref 683, .ref 684, .int 1140 0, .int 590 0, .str "/claim/cut.py" 1141]
noncomputable def o831 (P : Params) : Obj := ff (fo (mf 63 10) "pop_environment" "Areas.pop_environment" 3 [] .none .none .none (.str "clausemill.areas" 1030) none (.ref 685) .none 0)
noncomputable def o832 (P : Params) : Obj := tp []
noncomputable def o833 (P : Params) : Obj := fy []
noncomputable def o834 (P : Params) : Obj := tp [.str "self" 1146, .str "index" 1147]
noncomputable def o835 (P : Params) : Obj := tp []
noncomputable def o836 (P : Params) : Obj := fx (fo (mf 63 11) "in_chain" "Areas.in_chain" 0 [] .none .none .none .none none .none .none 0)
noncomputable def o837 (P : Params) : Obj := fl "code" [.str "in_chain" 1143, .str "Areas.in_chain" 1144, .str "/claim/cut.py" 1145, .int 593 0, .int 2 0, .int 0 0, .int 0 0, .int 3 0, .ref 687, (.bool true), .int 181 0, .ref 688, .none, .ref 689, .ref 690, .ref 691, .int 1148 0, .int 593 0, .str "/claim/cut.py" 1149]
noncomputable def o838 (P : Params) : Obj := ff (fo (mf 63 11) "in_chain" "Areas.in_chain" 3 [] .none .none .none (.str "clausemill.areas" 1030) none (.ref 692) .none 0)
noncomputable def o839 (P : Params) : Obj := tp []
noncomputable def o840 (P : Params) : Obj := fy []
noncomputable def o841 (P : Params) : Obj := tp [.str "self" 1154, .str "b" 1155]
noncomputable def o842 (P : Params) : Obj := tp []
noncomputable def o843 (P : Params) : Obj := fx (fo (mf 63 12) "set_choice" "Areas.set_choice" 0 [] .none .none .none .none none .none .none 0)
noncomputable def o844 (P : Params) : Obj := fl "code" [.str "set_choice" 1151, .str "Areas.set_choice" 1152, .str "/claim/cut.py" 1153, .int 596 0, .int 2 0, .int 0 0, .int 0 0, .int 3 0, .ref 694, (.bool true), .int 181 0, .ref 695, .none, .ref 696, .ref 697, .ref 698, .int 1156 0, .int 596 0, .str "/claim/cut.py" 1157]
noncomputable def o845 (P : Params) : Obj := ff (fo (mf 63 12) "set_choice" "Areas.set_choice" 3 [] .none .none .none (.str "clausemill.areas" 1030) none (.ref 699) .none 0)
noncomputable def o846 (P : Params) : Obj := tp []
noncomputable def o847 (P : Params) : Obj := fy []
noncomputable def o848 (P : Params) : Obj := tp [.str "self" 1162, .str "cells" 1163, .str "alternative" 1164]
noncomputable def o849 (P : Params) : Obj := tp []
noncomputable def o850 (P : Params) : Obj := fx (fo (mf 63 13) "push_choice" "Areas.push_choice" 0 [] .none .none .none .none none .none .none 0)
noncomputable def o851 (P : Params) : Obj := fl "code" [.str "push_choice" 1159, .str "Areas.push_choice" 1160, .str "/claim/cut.py" 1161, .int 599 0, .int 3 0, .int 0 0, .int 0 0, .int 3 0, .ref 701, (.bool true), .int 181 0, .ref 702, .none, .ref 703, .ref 704, .ref 705, .int 1165 0, .int 599 0, .str "/claim/cut.py" 1166]
noncomputable def o852 (P : Params) : Obj := ff (fo (mf 63 13) "push_choice" "Areas.push_choice" 3 [] .none .none .none (.str "clausemill.areas" 1030) none (.ref 706) .none 0)
noncomputable def o853 (P : Params) : Obj := tp []
noncomputable def o854 (P : Params) : Obj := fy []
noncomputable def o855 (P : Params) : Obj := tp [.str "self" 1171, .str "address" 1172]
noncomputable def o856 (P : Params) : Obj := tp []
noncomputable def o857 (P : Params) : Obj := fx (fo (mf 63 14) "set_alternative" "Areas.set_alternative" 0 [] .none .none .none .none none .none .none 0)
noncomputable def o858 (P : Params) : Obj := fl "code" [.str "set_alternative" 1168, .str "Areas.set_alternative" 1169, .str "/claim/cut.py" 1170, .int 602 0, .int 2 0, .int 0 0, .int 0 0, .int 3 0, .ref 708, (.bool true), .int 181 0, .ref 709, .none, .ref 710, .ref 711, .ref 712, .int 1173 0, .int 602 0, .str "/claim/cut.py" 1174]
noncomputable def o859 (P : Params) : Obj := ff (fo (mf 63 14) "set_alternative" "Areas.set_alternative" 3 [] .none .none .none (.str "clausemill.areas" 1030) none (.ref 713) .none 0)
noncomputable def o860 (P : Params) : Obj := tp []
noncomputable def o861 (P : Params) : Obj := fy []
noncomputable def o862 (P : Params) : Obj := tp [.str "self" 1179, .str "part" 1180]
noncomputable def o863 (P : Params) : Obj := tp []
noncomputable def o864 (P : Params) : Obj := fx (fo (mf 63 15) "choice_part" "Areas.choice_part" 0 [] .none .none .none .none none .none .none 0)
noncomputable def o865 (P : Params) : Obj := fl "code" [.str "choice_part" 1176, .str "Areas.choice_part" 1177, .str "/claim/cut.py" 1178, .int 605 0, .int 2 0, .int 0 0, .int 0 0, .int 3 0, .ref 715, (.bool true), .int 181 0, .ref 716, .none, .ref 717, .ref 718, .ref 719, .int 1181 0, .int 605 0, .str "/claim/cut.py" 1182]
noncomputable def o866 (P : Params) : Obj := ff (fo (mf 63 15) "choice_part" "Areas.choice_part" 3 [] .none .none .none (.str "clausemill.areas" 1030) none (.ref 720) .none 0)
noncomputable def o867 (P : Params) : Obj := tp []
noncomputable def o868 (P : Params) : Obj := fy []
noncomputable def o869 (P : Params) : Obj := tp [.str "self" 1187]
noncomputable def o870 (P : Params) : Obj := tp []
noncomputable def o871 (P : Params) : Obj := fx (fo (mf 63 16) "restore_choice" "Areas.restore_choice" 0 [] .none .none .none .none none .none .none 0)
noncomputable def o872 (P : Params) : Obj := fl "code" [.str "restore_choice" 1184, .str "Areas.restore_choice" 1185, .str "/claim/cut.py" 1186, .int 608 0, .int 1 0, .int 0 0, .int 0 0, .int 3 0, .ref 722, (.bool true), .int 181 0, .ref 723, .none, .ref 724, .ref 725, .ref 726, .int 1188 0, .int 608 0, .str "/claim/cut.py" 1189]
noncomputable def o873 (P : Params) : Obj := ff (fo (mf 63 16) "restore_choice" "Areas.restore_choice" 3 [] .none .none .none (.str "clausemill.areas" 1030) none (.ref 727) .none 0)
noncomputable def o874 (P : Params) : Obj := tp []
noncomputable def o875 (P : Params) : Obj := fy []
noncomputable def o876 (P : Params) : Obj := tp [.str "self" 1194]
noncomputable def o877 (P : Params) : Obj := tp []
noncomputable def o878 (P : Params) : Obj := fx (fo (mf 63 17) "pop_choice" "Areas.pop_choice" 0 [] .none .none .none .none none .none .none 0)
noncomputable def o879 (P : Params) : Obj := fl "code" [.str "pop_choice" 1191, .str "Areas.pop_choice" 1192, .str "/claim/cut.py" 1193, .int 611 0, .int 1 0, .int 0 0, .int 0 0, .int 3 0, .ref 729, (.bool true), .int 181 0, .ref 730, .none, .ref 731, .ref 732, .ref 733, .int 1195 0, .int 611 0, .str "/claim/cut.py" 1196]
noncomputable def o880 (P : Params) : Obj := ff (fo (mf 63 17) "pop_choice" "Areas.pop_choice" 3 [] .none .none .none (.str "clausemill.areas" 1030) none (.ref 734) .none 0)
noncomputable def o881 (P : Params) : Obj := tp []
noncomputable def o882 (P : Params) : Obj := fy []
noncomputable def o883 (P : Params) : Obj := tp [.str "self" 1201, .str "b" 1202]
noncomputable def o884 (P : Params) : Obj := tp []
noncomputable def o885 (P : Params) : Obj := fx (fo (mf 63 18) "cut_back" "Areas.cut_back" 0 [] .none .none .none .none none .none .none 0)
noncomputable def o886 (P : Params) : Obj := fl "code" [.str "cut_back" 1198, .str "Areas.cut_back" 1199, .str "/claim/cut.py" 1200, .int 614 0, .int 2 0, .int 0 0, .int 0 0, .int 3 0, .ref 736, (.bool true), .int 181 0, .ref 737, .none, .ref 738, .ref 739, .ref 740, .int 1203 0, .int 614 0, .str "/claim/cut.py" 1204]
noncomputable def o887 (P : Params) : Obj := ff (fo (mf 63 18) "cut_back" "Areas.cut_back" 3 [] .none .none .none (.str "clausemill.areas" 1030) none (.ref 741) .none 0)
noncomputable def o888 (P : Params) : Obj := tp []
noncomputable def o889 (P : Params) : Obj := fy []
noncomputable def o890 (P : Params) : Obj := tp [.str "self" 1209]
noncomputable def o891 (P : Params) : Obj := tp []
noncomputable def o892 (P : Params) : Obj := fx (fo (mf 63 19) "choices" "Areas.choices" 0 [] .none .none .none .none none .none .none 0)
noncomputable def o893 (P : Params) : Obj := fl "code" [.str "choices" 1206, .str "Areas.choices" 1207, .str "/claim/cut.py" 1208, .int 617 0, .int 1 0, .int 0 0, .int 0 0, .int 3 0, .ref 743, (.bool true), .int 181 0, .ref 744, .none, .ref 745, .ref 746, .ref 747, .int 1210 0, .int 617 0, .str "/claim/cut.py" 1211]
noncomputable def o894 (P : Params) : Obj := ff (fo (mf 63 19) "choices" "Areas.choices" 3 [] .none .none .none (.str "clausemill.areas" 1030) none (.ref 748) .none 0)
noncomputable def o895 (P : Params) : Obj := tp []
noncomputable def o896 (P : Params) : Obj := fy []
noncomputable def o897 (P : Params) : Obj := tp [.str "self" 1216]
noncomputable def o898 (P : Params) : Obj := tp []
noncomputable def o899 (P : Params) : Obj := fx (fo (mf 63 20) "environments" "Areas.environments" 0 [] .none .none .none .none none .none .none 0)
noncomputable def o900 (P : Params) : Obj := fl "code" [.str "environments" 1213, .str "Areas.environments" 1214, .str "/claim/cut.py" 1215, .int 620 0, .int 1 0, .int 0 0, .int 0 0, .int 3 0, .ref 750, (.bool true), .int 181 0, .ref 751, .none, .ref 752, .ref 753, .ref 754, .int 1217 0, .int 620 0, .str "/claim/cut.py" 1218]
noncomputable def o901 (P : Params) : Obj := ff (fo (mf 63 20) "environments" "Areas.environments" 3 [] .none .none .none (.str "clausemill.areas" 1030) none (.ref 755) .none 0)
noncomputable def o902 (P : Params) : Obj := tp [.str "b" 1220, .str "b0" 1221, .str "bags" 1222, .str "code" 1223, .str "collect_wanted" 1224, .str "cp" 1225, .str "e" 1226, .str "guard" 1227, .str "max_bits" 1228, .str "max_heap" 1229, .str "mode" 1230, .str "occurs" 1231, .str "p" 1232, .str "roots" 1233, .str "s" 1234, .str "store" 1235, .str "symbols" 1236, .str "x" 1237]
noncomputable def o903 (P : Params) : Obj := ⟨.type "dict", none, (.dict ⟨[de P "__module__" 1043 (.str "clausemill.areas" 1030), de P "__firstlineno__" 1047 (.int 532 1046), de P "__init__" 1061 (.ref 616), de P "reset" 1068 (.ref 623), de P "set_x" 1077 (.ref 630), de P "set_arguments" 1087 (.ref 637), de P "arg" 1095 (.ref 644), de P "unify" 1104 (.ref 651), de P "take" 1112 (.ref 658), de P "put" 1120 (.ref 665), de P "top" 1127 (.ref 672), de P "push_environment" 1135 (.ref 679), de P "pop_environment" 1142 (.ref 686), de P "in_chain" 1150 (.ref 693), de P "set_choice" 1158 (.ref 700), de P "push_choice" 1167 (.ref 707), de P "set_alternative" 1175 (.ref 714), de P "choice_part" 1183 (.ref 721), de P "restore_choice" 1190 (.ref 728), de P "pop_choice" 1197 (.ref 735), de P "cut_back" 1205 (.ref 742), de P "choices" 1212 (.ref 749), de P "environments" 1219 (.ref 756), de P "__static_attributes__" 1238 (.ref 757), de P "__dict__" 1240 (.ref 760), de P "__weakref__" 1242 (.ref 761), de P "__doc__" 1243 .none]⟩ 4), ⟨[]⟩⟩
noncomputable def o904 (P : Params) : Obj := ⟨.type "type", none, (.cls ⟨"Areas", [.type "object"], [.ref 759, .type "object"], 758, "Areas", true, [], [], false, none, false⟩), ⟨[none, none, (some (.str "Areas" 1036)), (some (.str "Areas" 1044)), (some (.builtin "object.__new__")), (some (.bool true))]⟩⟩
noncomputable def o905 (P : Params) : Obj := fl "getset_descriptor" [.str "__dict__" 1239, .ref 759, .builtin "function.__dict__", .builtin "function.__dict__#set"]
noncomputable def o906 (P : Params) : Obj := fl "getset_descriptor" [.str "__weakref__" 1241, .ref 759, .builtin "ExceptionGroup.__weakref__", .none]
noncomputable def o907 (P : Params) : Obj := fl "super" [.ref 759, .ref 759, .ref 759]
noncomputable def o908 (P : Params) : Obj := fl "builtin_function_or_method" [.builtin "object.__init_subclass__", .ref 759]
noncomputable def o1000 (P : Params) : Obj := tp []
noncomputable def o1001 (P : Params) : Obj := fy []
noncomputable def o1002 (P : Params) : Obj := tp [.str "pot" 1251, .str "limit" 1252, .str "numbers" 1253, .str "spot" 1254, .str "digit" 1255]
noncomputable def o1003 (P : Params) : Obj := tp []
noncomputable def o1004 (P : Params) : Obj := fx (fo (tf 65) "_law_digit" "_law_digit" 0 [] .none .none .none .none none .none .none 0)
noncomputable def o1005 (P : Params) : Obj := fl "code" [.str "_law_digit" 1248, .str "_law_digit" 1249, .str "/claim/cut.py" 1250, .int 623 0, .int 2 0, .int 0 0, .int 0 0, .int 3 0, .ref 764, (.bool true), .int 181 0, .ref 765, .none, .ref 766, .ref 767, .ref 768, .int 1256 0, .int 623 0, .str "/claim/cut.py" 1257]
noncomputable def o1006 (P : Params) : Obj := ff (fo (tf 65) "_law_digit" "_law_digit" 3 [] .none .none .none (.str "law_rr0035_01" 1246) none (.ref 769) .none 0)
noncomputable def o1007 (P : Params) : Obj := tp []
noncomputable def o1008 (P : Params) : Obj := fy []
noncomputable def o1009 (P : Params) : Obj := tp [.str "pot" 1262, .str "areas" 1263, .str "loose" 1264, .str "kind" 1265]
noncomputable def o1010 (P : Params) : Obj := tp []
noncomputable def o1011 (P : Params) : Obj := fx (fo (tf 66) "_law_simple" "_law_simple" 0 [] .none .none .none .none none .none .none 0)
noncomputable def o1012 (P : Params) : Obj := fl "code" [.str "_law_simple" 1259, .str "_law_simple" 1260, .str "/claim/cut.py" 1261, .int 630 0, .int 3 0, .int 0 0, .int 0 0, .int 3 0, .ref 771, (.bool true), .int 181 0, .ref 772, .none, .ref 773, .ref 774, .ref 775, .int 1266 0, .int 630 0, .str "/claim/cut.py" 1267]
noncomputable def o1013 (P : Params) : Obj := ff (fo (tf 66) "_law_simple" "_law_simple" 3 [] .none .none .none (.str "law_rr0035_01" 1246) none (.ref 776) .none 0)
noncomputable def o1014 (P : Params) : Obj := tp []
noncomputable def o1015 (P : Params) : Obj := fy []
noncomputable def o1016 (P : Params) : Obj := fx (fo (tf 67) "_law_element" "_law_element" 0 [] .none .none .none .none none .none .none 0)
noncomputable def o1017 (P : Params) : Obj := fl "code" [.str "_law_element" 1269, .str "_law_element" 1270, .str "/claim/cut.py" 1271, .int 637 0, .int 3 0, .int 0 0, .int 0 0, .int 3 0, .ref 778, (.bool true), .int 181 0, .ref 779, .none, .none, .none, .ref 780, .int 1272 0, .int 637 0, .str "/claim/cut.py" 1273]
noncomputable def o1018 (P : Params) : Obj := ff (fo (tf 67) "_law_element" "_law_element" 3 [] .none .none .none (.str "law_rr0035_01" 1246) none (.ref 781) .none 0)
noncomputable def o1019 (P : Params) : Obj := tp []
noncomputable def o1020 (P : Params) : Obj := fy []
noncomputable def o1021 (P : Params) : Obj := tp [.str "areas" 1278, .str "pred" 1279, .str "one" 1280, .str "other" 1281]
noncomputable def o1022 (P : Params) : Obj := tp []
noncomputable def o1023 (P : Params) : Obj := fx (fo (tf 68) "_law_holds" "_law_holds" 0 [] .none .none .none .none none .none .none 0)
noncomputable def o1024 (P : Params) : Obj := fl "code" [.str "_law_holds" 1275, .str "_law_holds" 1276, .str "/claim/cut.py" 1277, .int 646 0, .int 4 0, .int 0 0, .int 0 0, .int 3 0, .ref 783, (.bool true), .int 181 0, .ref 784, .none, .ref 785, .ref 786, .ref 787, .int 1282 0, .int 646 0, .str "/claim/cut.py" 1283]
noncomputable def o1025 (P : Params) : Obj := ff (fo (tf 68) "_law_holds" "_law_holds" 3 [] .none .none .none (.str "law_rr0035_01" 1246) none (.ref 788) .none 0)
noncomputable def o1026 (P : Params) : Obj := tp []
noncomputable def o1027 (P : Params) : Obj := fy []
noncomputable def o1028 (P : Params) : Obj := tp [.str "areas" 1288, .str "pred" 1289, .str "cells" 1290, .str "made" 1291, .str "listed" 1292, .str "rest" 1293]
noncomputable def o1029 (P : Params) : Obj := tp []
noncomputable def o1030 (P : Params) : Obj := fx (fo (tf 69) "_law_sorted" "_law_sorted" 0 [] .none .none .none .none none .none .none 0)
noncomputable def o1031 (P : Params) : Obj := fl "code" [.str "_law_sorted" 1285, .str "_law_sorted" 1286, .str "/claim/cut.py" 1287, .int 649 0, .int 3 0, .int 0 0, .int 0 0, .int 3 0, .ref 790, (.bool true), .int 181 0, .ref 791, .none, .ref 792, .ref 793, .ref 794, .int 1294 0, .int 649 0, .str "/claim/cut.py" 1295]
noncomputable def o1032 (P : Params) : Obj := ff (fo (tf 69) "_law_sorted" "_law_sorted" 3 [] .none .none .none (.str "law_rr0035_01" 1246) none (.ref 795) .none 0)
noncomputable def o1033 (P : Params) : Obj := tp []
noncomputable def o1034 (P : Params) : Obj := fy []
noncomputable def o1035 (P : Params) : Obj := fx (fo (tf 70) "_law_between" "_law_between" 0 [] .none .none .none .none none .none .none 0)
noncomputable def o1036 (P : Params) : Obj := fl "code" [.str "_law_between" 1297, .str "_law_between" 1298, .str "/claim/cut.py" 1299, .int 656 0, .int 3 0, .int 0 0, .int 0 0, .int 3 0, .ref 797, (.bool true), .int 181 0, .ref 798, .none, .none, .none, .ref 799, .int 1300 0, .int 656 0, .str "/claim/cut.py" 1301]
noncomputable def o1037 (P : Params) : Obj := ff (fo (tf 70) "_law_between" "_law_between" 3 [] .none .none .none (.str "law_rr0035_01" 1246) none (.ref 800) .none 0)
noncomputable def o1038 (P : Params) : Obj := tp []
noncomputable def o1039 (P : Params) : Obj := fy []
noncomputable def o1040 (P : Params) : Obj := fx (fo (tf 71) "law" "law" 0 [] .none .none .none .none none .none .none 0)
noncomputable def o1041 (P : Params) : Obj := fl "code" [.str "law" 1303, .str "law" 1304, .str "/claim/cut.py" 1305, .int 664 0, .int 1 0, .int 0 0, .int 0 0, .int 3 0, .ref 802, (.bool true), .int 181 0, .ref 803, .none, .none, .none, .ref 804, .int 1306 0, .int 664 0, .str "/claim/cut.py" 1307]
noncomputable def o1042 (P : Params) : Obj := ff (fo (tf 71) "law" "law" 3 [] .none .none .none (.str "law_rr0035_01" 1246) none (.ref 805) .none 0)
noncomputable def tr6 (P : Params) : BT := (Nd (boot_o_0 P) (Nd (boot_o_1 P) (Nd (o998 P) (Nd (boot_o_7 P) (Nd (o52 P) (Nd (o74 P) (Nd (o103 P) (Nd (o169 P) (Nd (o301 P) (Nd (o652 P) Nl Nl) (Nd (o1003 P) Nl Nl)) (Nd (o520 P) (Nd (o784 P) Nl Nl) Nl)) (Nd (o235 P) (Nd (o365 P) (Nd (o718 P) Nl Nl) Nl) (Nd (o586 P) (Nd (o848 P) Nl Nl) Nl))) (Nd (o137 P) (Nd (o203 P) (Nd (o333 P) (Nd (o686 P) Nl Nl) (Nd (o1035 P) Nl Nl)) (Nd (o554 P) (Nd (o816 P) Nl Nl) Nl)) (Nd (o269 P) (Nd (o488 P) (Nd (o752 P) Nl Nl) Nl) (Nd (o620 P) (Nd (o880 P) Nl Nl) Nl)))) (Nd (o87 P) (Nd (o121 P) (Nd (o185 P) (Nd (o317 P) (Nd (o670 P) Nl Nl) (Nd (o1019 P) Nl Nl)) (Nd (o538 P) (Nd (o800 P) Nl Nl) Nl)) (Nd (o253 P) (Nd (o381 P) (Nd (o734 P) Nl Nl) Nl) (Nd (o604 P) (Nd (o864 P) Nl Nl) Nl))) (Nd (o153 P) (Nd (o219 P) (Nd (o349 P) (Nd (o702 P) Nl Nl) Nl) (Nd (o570 P) (Nd (o832 P) Nl Nl) Nl)) (Nd (o285 P) (Nd (o504 P) (Nd (o768 P) Nl Nl) Nl) (Nd (o636 P) (Nd (o896 P) Nl Nl) Nl))))) (Nd (o60 P) (Nd (o79 P) (Nd (o113 P) (Nd (o177 P) (Nd (o309 P) (Nd (o660 P) Nl Nl) (Nd (o1011 P) Nl Nl)) (Nd (o528 P) (Nd (o792 P) Nl Nl) Nl)) (Nd (o245 P) (Nd (o373 P) (Nd (o726 P) Nl Nl) Nl) (Nd (o596 P) (Nd (o856 P) Nl Nl) Nl))) (Nd (o145 P) (Nd (o211 P) (Nd (o341 P) (Nd (o694 P) Nl Nl) Nl) (Nd (o562 P) (Nd (o824 P) Nl Nl) Nl)) (Nd (o277 P) (Nd (o496 P) (Nd (o760 P) Nl Nl) Nl) (Nd (o628 P) (Nd (o888 P) Nl Nl) Nl)))) (Nd (o95 P) (Nd (o129 P) (Nd (o193 P) (Nd (o325 P) (Nd (o678 P) Nl Nl) (Nd (o1027 P) Nl Nl)) (Nd (o546 P) (Nd (o808 P) Nl Nl) Nl)) (Nd (o261 P) (Nd (o480 P) (Nd (o742 P) Nl Nl) Nl) (Nd (o612 P) (Nd (o872 P) Nl Nl) Nl))) (Nd (o161 P) (Nd (o227 P) (Nd (o357 P) (Nd (o710 P) Nl Nl) Nl) (Nd (o578 P) (Nd (o840 P) Nl Nl) Nl)) (Nd (o293 P) (Nd (o512 P) (Nd (o776 P) Nl Nl) Nl) (Nd (o644 P) (Nd (o904 P) Nl Nl) Nl)))))) (Nd (o43 P) (Nd (o56 P) (Nd (o75 P) (Nd (o107 P) (Nd (o173 P) (Nd (o305 P) (Nd (o656 P) Nl Nl) (Nd (o1007 P) Nl Nl)) (Nd (o524 P) (Nd (o788 P) Nl Nl) Nl)) (Nd (o241 P) (Nd (o369 P) (Nd (o722 P) Nl Nl) Nl) (Nd (o590 P) (Nd (o852 P) Nl Nl) Nl))) (Nd (o141 P) (Nd (o207 P) (Nd (o337 P) (Nd (o690 P) Nl Nl) (Nd (o1039 P) Nl Nl)) (Nd (o558 P) (Nd (o820 P) Nl Nl) Nl)) (Nd (o273 P) (Nd (o492 P) (Nd (o756 P) Nl Nl) Nl) (Nd (o624 P) (Nd (o884 P) Nl Nl) Nl)))) (Nd (o91 P) (Nd (o125 P) (Nd (o189 P) (Nd (o321 P) (Nd (o674 P) Nl Nl) (Nd (o1023 P) Nl Nl)) (Nd (o542 P) (Nd (o804 P) Nl Nl) Nl)) (Nd (o257 P) (Nd (o385 P) (Nd (o738 P) Nl Nl) Nl) (Nd (o608 P) (Nd (o868 P) Nl Nl) Nl))) (Nd (o157 P) (Nd (o223 P) (Nd (o353 P) (Nd (o706 P) Nl Nl) Nl) (Nd (o574 P) (Nd (o836 P) Nl Nl) Nl)) (Nd (o289 P) (Nd (o508 P) (Nd (o772 P) Nl Nl) Nl) (Nd (o640 P) (Nd (o900 P) Nl Nl) Nl))))) (Nd (o64 P) (Nd (o83 P) (Nd (o117 P) (Nd (o181 P) (Nd (o313 P) (Nd (o664 P) Nl Nl) (Nd (o1015 P) Nl Nl)) (Nd (o532 P) (Nd (o796 P) Nl Nl) Nl)) (Nd (o249 P) (Nd (o377 P) (Nd (o730 P) Nl Nl) Nl) (Nd (o600 P) (Nd (o860 P) Nl Nl) Nl))) (Nd (o149 P) (Nd (o215 P) (Nd (o345 P) (Nd (o698 P) Nl Nl) Nl) (Nd (o566 P) (Nd (o828 P) Nl Nl) Nl)) (Nd (o281 P) (Nd (o500 P) (Nd (o764 P) Nl Nl) Nl) (Nd (o632 P) (Nd (o892 P) Nl Nl) Nl)))) (Nd (o99 P) (Nd (o133 P) (Nd (o197 P) (Nd (o329 P) (Nd (o682 P) Nl Nl) (Nd (o1031 P) Nl Nl)) (Nd (o550 P) (Nd (o812 P) Nl Nl) Nl)) (Nd (o265 P) (Nd (o484 P) (Nd (o748 P) Nl Nl) Nl) (Nd (o616 P) (Nd (o876 P) Nl Nl) Nl))) (Nd (o165 P) (Nd (o231 P) (Nd (o361 P) (Nd (o714 P) Nl Nl) Nl) (Nd (o582 P) (Nd (o844 P) Nl Nl) Nl)) (Nd (o297 P) (Nd (o516 P) (Nd (o780 P) Nl Nl) Nl) (Nd (o648 P) (Nd (o908 P) Nl Nl) Nl))))))) (Nd (boot_o_5 P) (Nd (boot_o_9 P) (Nd (o54 P) (Nd (o70 P) (Nd (o105 P) (Nd (o171 P) (Nd (o303 P) (Nd (o654 P) Nl Nl) (Nd (o1005 P) Nl Nl)) (Nd (o522 P) (Nd (o786 P) Nl Nl) Nl)) (Nd (o237 P) (Nd (o367 P) (Nd (o720 P) Nl Nl) Nl) (Nd (o588 P) (Nd (o850 P) Nl Nl) Nl))) (Nd (o139 P) (Nd (o205 P) (Nd (o335 P) (Nd (o688 P) Nl Nl) (Nd (o1037 P) Nl Nl)) (Nd (o556 P) (Nd (o818 P) Nl Nl) Nl)) (Nd (o271 P) (Nd (o490 P) (Nd (o754 P) Nl Nl) Nl) (Nd (o622 P) (Nd (o882 P) Nl Nl) Nl)))) (Nd (o89 P) (Nd (o123 P) (Nd (o187 P) (Nd (o319 P) (Nd (o672 P) Nl Nl) (Nd (o1021 P) Nl Nl)) (Nd (o540 P) (Nd (o802 P) Nl Nl) Nl)) (Nd (o255 P) (Nd (o383 P) (Nd (o736 P) Nl Nl) Nl) (Nd (o606 P) (Nd (o866 P) Nl Nl) Nl))) (Nd (o155 P) (Nd (o221 P) (Nd (o351 P) (Nd (o704 P) Nl Nl) Nl) (Nd (o572 P) (Nd (o834 P) Nl Nl) Nl)) (Nd (o287 P) (Nd (o506 P) (Nd (o770 P) Nl Nl) Nl) (Nd (o638 P) (Nd (o898 P) Nl Nl) Nl))))) (Nd (o62 P) (Nd (o81 P) (Nd (o115 P) (Nd (o179 P) (Nd (o311 P) (Nd (o662 P) Nl Nl) (Nd (o1013 P) Nl Nl)) (Nd (o530 P) (Nd (o794 P) Nl Nl) Nl)) (Nd (o247 P) (Nd (o375 P) (Nd (o728 P) Nl Nl) Nl) (Nd (o598 P) (Nd (o858 P) Nl Nl) Nl))) (Nd (o147 P) (Nd (o213 P) (Nd (o343 P) (Nd (o696 P) Nl Nl) Nl) (Nd (o564 P) (Nd (o826 P) Nl Nl) Nl)) (Nd (o279 P) (Nd (o498 P) (Nd (o762 P) Nl Nl) Nl) (Nd (o630 P) (Nd (o890 P) Nl Nl) Nl)))) (Nd (o97 P) (Nd (o131 P) (Nd (o195 P) (Nd (o327 P) (Nd (o680 P) Nl Nl) (Nd (o1029 P) Nl Nl)) (Nd (o548 P) (Nd (o810 P) Nl Nl) Nl)) (Nd (o263 P) (Nd (o482 P) (Nd (o744 P) Nl Nl) Nl) (Nd (o614 P) (Nd (o874 P) Nl Nl) Nl))) (Nd (o163 P) (Nd (o229 P) (Nd (o359 P) (Nd (o712 P) Nl Nl) Nl) (Nd (o580 P) (Nd (o842 P) Nl Nl) Nl)) (Nd (o295 P) (Nd (o514 P) (Nd (o778 P) Nl Nl) Nl) (Nd (o646 P) (Nd (o906 P) Nl Nl) Nl)))))) (Nd (o45 P) (Nd (o58 P) (Nd (o77 P) (Nd (o111 P) (Nd (o175 P) (Nd (o307 P) (Nd (o658 P) Nl Nl) (Nd (o1009 P) Nl Nl)) (Nd (o526 P) (Nd (o790 P) Nl Nl) Nl)) (Nd (o243 P) (Nd (o371 P) (Nd (o724 P) Nl Nl) Nl) (Nd (o592 P) (Nd (o854 P) Nl Nl) Nl))) (Nd (o143 P) (Nd (o209 P) (Nd (o339 P) (Nd (o692 P) Nl Nl) (Nd (o1041 P) Nl Nl)) (Nd (o560 P) (Nd (o822 P) Nl Nl) Nl)) (Nd (o275 P) (Nd (o494 P) (Nd (o758 P) Nl Nl) Nl) (Nd (o626 P) (Nd (o886 P) Nl Nl) Nl)))) (Nd (o93 P) (Nd (o127 P) (Nd (o191 P) (Nd (o323 P) (Nd (o676 P) Nl Nl) (Nd (o1025 P) Nl Nl)) (Nd (o544 P) (Nd (o806 P) Nl Nl) Nl)) (Nd (o259 P) (Nd (o387 P) (Nd (o740 P) Nl Nl) Nl) (Nd (o610 P) (Nd (o870 P) Nl Nl) Nl))) (Nd (o159 P) (Nd (o225 P) (Nd (o355 P) (Nd (o708 P) Nl Nl) Nl) (Nd (o576 P) (Nd (o838 P) Nl Nl) Nl)) (Nd (o291 P) (Nd (o510 P) (Nd (o774 P) Nl Nl) Nl) (Nd (o642 P) (Nd (o902 P) Nl Nl) Nl))))) (Nd (o66 P) (Nd (o85 P) (Nd (o119 P) (Nd (o183 P) (Nd (o315 P) (Nd (o668 P) Nl Nl) (Nd (o1017 P) Nl Nl)) (Nd (o534 P) (Nd (o798 P) Nl Nl) Nl)) (Nd (o251 P) (Nd (o379 P) (Nd (o732 P) Nl Nl) Nl) (Nd (o602 P) (Nd (o862 P) Nl Nl) Nl))) (Nd (o151 P) (Nd (o217 P) (Nd (o347 P) (Nd (o700 P) Nl Nl) Nl) (Nd (o568 P) (Nd (o830 P) Nl Nl) Nl)) (Nd (o283 P) (Nd (o502 P) (Nd (o766 P) Nl Nl) Nl) (Nd (o634 P) (Nd (o894 P) Nl Nl) Nl)))) (Nd (o101 P) (Nd (o135 P) (Nd (o199 P) (Nd (o331 P) (Nd (o684 P) Nl Nl) (Nd (o1033 P) Nl Nl)) (Nd (o552 P) (Nd (o814 P) Nl Nl) Nl)) (Nd (o267 P) (Nd (o486 P) (Nd (o750 P) Nl Nl) Nl) (Nd (o618 P) (Nd (o878 P) Nl Nl) Nl))) (Nd (o167 P) (Nd (o233 P) (Nd (o363 P) (Nd (o716 P) Nl Nl) Nl) (Nd (o584 P) (Nd (o846 P) Nl Nl) Nl)) (Nd (o299 P) (Nd (o518 P) (Nd (o782 P) Nl Nl) Nl) (Nd (o650 P) (Nd (o1001 P) Nl Nl) Nl)))))))) (Nd (o49 P) (Nd (boot_o_4 P) (Nd (boot_o_8 P) (Nd (o53 P) (Nd (o69 P) (Nd (o104 P) (Nd (o170 P) (Nd (o302 P) (Nd (o653 P) Nl Nl) (Nd (o1004 P) Nl Nl)) (Nd (o521 P) (Nd (o785 P) Nl Nl) Nl)) (Nd (o236 P) (Nd (o366 P) (Nd (o719 P) Nl Nl) Nl) (Nd (o587 P) (Nd (o849 P) Nl Nl) Nl))) (Nd (o138 P) (Nd (o204 P) (Nd (o334 P) (Nd (o687 P) Nl Nl) (Nd (o1036 P) Nl Nl)) (Nd (o555 P) (Nd (o817 P) Nl Nl) Nl)) (Nd (o270 P) (Nd (o489 P) (Nd (o753 P) Nl Nl) Nl) (Nd (o621 P) (Nd (o881 P) Nl Nl) Nl)))) (Nd (o88 P) (Nd (o122 P) (Nd (o186 P) (Nd (o318 P) (Nd (o671 P) Nl Nl) (Nd (o1020 P) Nl Nl)) (Nd (o539 P) (Nd (o801 P) Nl Nl) Nl)) (Nd (o254 P) (Nd (o382 P) (Nd (o735 P) Nl Nl) Nl) (Nd (o605 P) (Nd (o865 P) Nl Nl) Nl))) (Nd (o154 P) (Nd (o220 P) (Nd (o350 P) (Nd (o703 P) Nl Nl) Nl) (Nd (o571 P) (Nd (o833 P) Nl Nl) Nl)) (Nd (o286 P) (Nd (o505 P) (Nd (o769 P) Nl Nl) Nl) (Nd (o637 P) (Nd (o897 P) Nl Nl) Nl))))) (Nd (o61 P) (Nd (o80 P) (Nd (o114 P) (Nd (o178 P) (Nd (o310 P) (Nd (o661 P) Nl Nl) (Nd (o1012 P) Nl Nl)) (Nd (o529 P) (Nd (o793 P) Nl Nl) Nl)) (Nd (o246 P) (Nd (o374 P) (Nd (o727 P) Nl Nl) Nl) (Nd (o597 P) (Nd (o857 P) Nl Nl) Nl))) (Nd (o146 P) (Nd (o212 P) (Nd (o342 P) (Nd (o695 P) Nl Nl) Nl) (Nd (o563 P) (Nd (o825 P) Nl Nl) Nl)) (Nd (o278 P) (Nd (o497 P) (Nd (o761 P) Nl Nl) Nl) (Nd (o629 P) (Nd (o889 P) Nl Nl) Nl)))) (Nd (o96 P) (Nd (o130 P) (Nd (o194 P) (Nd (o326 P) (Nd (o679 P) Nl Nl) (Nd (o1028 P) Nl Nl)) (Nd (o547 P) (Nd (o809 P) Nl Nl) Nl)) (Nd (o262 P) (Nd (o481 P) (Nd (o743 P) Nl Nl) Nl) (Nd (o613 P) (Nd (o873 P) Nl Nl) Nl))) (Nd (o162 P) (Nd (o228 P) (Nd (o358 P) (Nd (o711 P) Nl Nl) Nl) (Nd (o579 P) (Nd (o841 P) Nl Nl) Nl)) (Nd (o294 P) (Nd (o513 P) (Nd (o777 P) Nl Nl) Nl) (Nd (o645 P) (Nd (o905 P) Nl Nl) Nl)))))) (Nd (o999 P) (Nd (o57 P) (Nd (o76 P) (Nd (o110 P) (Nd (o174 P) (Nd (o306 P) (Nd (o657 P) Nl Nl) (Nd (o1008 P) Nl Nl)) (Nd (o525 P) (Nd (o789 P) Nl Nl) Nl)) (Nd (o242 P) (Nd (o370 P) (Nd (o723 P) Nl Nl) Nl) (Nd (o591 P) (Nd (o853 P) Nl Nl) Nl))) (Nd (o142 P) (Nd (o208 P) (Nd (o338 P) (Nd (o691 P) Nl Nl) (Nd (o1040 P) Nl Nl)) (Nd (o559 P) (Nd (o821 P) Nl Nl) Nl)) (Nd (o274 P) (Nd (o493 P) (Nd (o757 P) Nl Nl) Nl) (Nd (o625 P) (Nd (o885 P) Nl Nl) Nl)))) (Nd (o92 P) (Nd (o126 P) (Nd (o190 P) (Nd (o322 P) (Nd (o675 P) Nl Nl) (Nd (o1024 P) Nl Nl)) (Nd (o543 P) (Nd (o805 P) Nl Nl) Nl)) (Nd (o258 P) (Nd (o386 P) (Nd (o739 P) Nl Nl) Nl) (Nd (o609 P) (Nd (o869 P) Nl Nl) Nl))) (Nd (o158 P) (Nd (o224 P) (Nd (o354 P) (Nd (o707 P) Nl Nl) Nl) (Nd (o575 P) (Nd (o837 P) Nl Nl) Nl)) (Nd (o290 P) (Nd (o509 P) (Nd (o773 P) Nl Nl) Nl) (Nd (o641 P) (Nd (o901 P) Nl Nl) Nl))))) (Nd (o65 P) (Nd (o84 P) (Nd (o118 P) (Nd (o182 P) (Nd (o314 P) (Nd (o665 P) Nl Nl) (Nd (o1016 P) Nl Nl)) (Nd (o533 P) (Nd (o797 P) Nl Nl) Nl)) (Nd (o250 P) (Nd (o378 P) (Nd (o731 P) Nl Nl) Nl) (Nd (o601 P) (Nd (o861 P) Nl Nl) Nl))) (Nd (o150 P) (Nd (o216 P) (Nd (o346 P) (Nd (o699 P) Nl Nl) Nl) (Nd (o567 P) (Nd (o829 P) Nl Nl) Nl)) (Nd (o282 P) (Nd (o501 P) (Nd (o765 P) Nl Nl) Nl) (Nd (o633 P) (Nd (o893 P) Nl Nl) Nl)))) (Nd (o100 P) (Nd (o134 P) (Nd (o198 P) (Nd (o330 P) (Nd (o683 P) Nl Nl) (Nd (o1032 P) Nl Nl)) (Nd (o551 P) (Nd (o813 P) Nl Nl) Nl)) (Nd (o266 P) (Nd (o485 P) (Nd (o749 P) Nl Nl) Nl) (Nd (o617 P) (Nd (o877 P) Nl Nl) Nl))) (Nd (o166 P) (Nd (o232 P) (Nd (o362 P) (Nd (o715 P) Nl Nl) Nl) (Nd (o583 P) (Nd (o845 P) Nl Nl) Nl)) (Nd (o298 P) (Nd (o517 P) (Nd (o781 P) Nl Nl) Nl) (Nd (o649 P) (Nd (o1000 P) Nl Nl) Nl))))))) (Nd (boot_o_6 P) (Nd (boot_o_10 P) (Nd (o55 P) (Nd (o71 P) (Nd (o106 P) (Nd (o172 P) (Nd (o304 P) (Nd (o655 P) Nl Nl) (Nd (o1006 P) Nl Nl)) (Nd (o523 P) (Nd (o787 P) Nl Nl) Nl)) (Nd (o238 P) (Nd (o368 P) (Nd (o721 P) Nl Nl) Nl) (Nd (o589 P) (Nd (o851 P) Nl Nl) Nl))) (Nd (o140 P) (Nd (o206 P) (Nd (o336 P) (Nd (o689 P) Nl Nl) (Nd (o1038 P) Nl Nl)) (Nd (o557 P) (Nd (o819 P) Nl Nl) Nl)) (Nd (o272 P) (Nd (o491 P) (Nd (o755 P) Nl Nl) Nl) (Nd (o623 P) (Nd (o883 P) Nl Nl) Nl)))) (Nd (o90 P) (Nd (o124 P) (Nd (o188 P) (Nd (o320 P) (Nd (o673 P) Nl Nl) (Nd (o1022 P) Nl Nl)) (Nd (o541 P) (Nd (o803 P) Nl Nl) Nl)) (Nd (o256 P) (Nd (o479 P) (Nd (o737 P) Nl Nl) Nl) (Nd (o607 P) (Nd (o867 P) Nl Nl) Nl))) (Nd (o156 P) (Nd (o222 P) (Nd (o352 P) (Nd (o705 P) Nl Nl) Nl) (Nd (o573 P) (Nd (o835 P) Nl Nl) Nl)) (Nd (o288 P) (Nd (o507 P) (Nd (o771 P) Nl Nl) Nl) (Nd (o639 P) (Nd (o899 P) Nl Nl) Nl))))) (Nd (o63 P) (Nd (o82 P) (Nd (o116 P) (Nd (o180 P) (Nd (o312 P) (Nd (o663 P) Nl Nl) (Nd (o1014 P) Nl Nl)) (Nd (o531 P) (Nd (o795 P) Nl Nl) Nl)) (Nd (o248 P) (Nd (o376 P) (Nd (o729 P) Nl Nl) Nl) (Nd (o599 P) (Nd (o859 P) Nl Nl) Nl))) (Nd (o148 P) (Nd (o214 P) (Nd (o344 P) (Nd (o697 P) Nl Nl) Nl) (Nd (o565 P) (Nd (o827 P) Nl Nl) Nl)) (Nd (o280 P) (Nd (o499 P) (Nd (o763 P) Nl Nl) Nl) (Nd (o631 P) (Nd (o891 P) Nl Nl) Nl)))) (Nd (o98 P) (Nd (o132 P) (Nd (o196 P) (Nd (o328 P) (Nd (o681 P) Nl Nl) (Nd (o1030 P) Nl Nl)) (Nd (o549 P) (Nd (o811 P) Nl Nl) Nl)) (Nd (o264 P) (Nd (o483 P) (Nd (o747 P) Nl Nl) Nl) (Nd (o615 P) (Nd (o875 P) Nl Nl) Nl))) (Nd (o164 P) (Nd (o230 P) (Nd (o360 P) (Nd (o713 P) Nl Nl) Nl) (Nd (o581 P) (Nd (o843 P) Nl Nl) Nl)) (Nd (o296 P) (Nd (o515 P) (Nd (o779 P) Nl Nl) Nl) (Nd (o647 P) (Nd (o907 P) Nl Nl) Nl)))))) (Nd (o46 P) (Nd (o59 P) (Nd (o78 P) (Nd (o112 P) (Nd (o176 P) (Nd (o308 P) (Nd (o659 P) Nl Nl) (Nd (o1010 P) Nl Nl)) (Nd (o527 P) (Nd (o791 P) Nl Nl) Nl)) (Nd (o244 P) (Nd (o372 P) (Nd (o725 P) Nl Nl) Nl) (Nd (o595 P) (Nd (o855 P) Nl Nl) Nl))) (Nd (o144 P) (Nd (o210 P) (Nd (o340 P) (Nd (o693 P) Nl Nl) (Nd (o1042 P) Nl Nl)) (Nd (o561 P) (Nd (o823 P) Nl Nl) Nl)) (Nd (o276 P) (Nd (o495 P) (Nd (o759 P) Nl Nl) Nl) (Nd (o627 P) (Nd (o887 P) Nl Nl) Nl)))) (Nd (o94 P) (Nd (o128 P) (Nd (o192 P) (Nd (o324 P) (Nd (o677 P) Nl Nl) (Nd (o1026 P) Nl Nl)) (Nd (o545 P) (Nd (o807 P) Nl Nl) Nl)) (Nd (o260 P) (Nd (o388 P) (Nd (o741 P) Nl Nl) Nl) (Nd (o611 P) (Nd (o871 P) Nl Nl) Nl))) (Nd (o160 P) (Nd (o226 P) (Nd (o356 P) (Nd (o709 P) Nl Nl) Nl) (Nd (o577 P) (Nd (o839 P) Nl Nl) Nl)) (Nd (o292 P) (Nd (o511 P) (Nd (o775 P) Nl Nl) Nl) (Nd (o643 P) (Nd (o903 P) Nl Nl) Nl))))) (Nd (o67 P) (Nd (o86 P) (Nd (o120 P) (Nd (o184 P) (Nd (o316 P) (Nd (o669 P) Nl Nl) (Nd (o1018 P) Nl Nl)) (Nd (o537 P) (Nd (o799 P) Nl Nl) Nl)) (Nd (o252 P) (Nd (o380 P) (Nd (o733 P) Nl Nl) Nl) (Nd (o603 P) (Nd (o863 P) Nl Nl) Nl))) (Nd (o152 P) (Nd (o218 P) (Nd (o348 P) (Nd (o701 P) Nl Nl) Nl) (Nd (o569 P) (Nd (o831 P) Nl Nl) Nl)) (Nd (o284 P) (Nd (o503 P) (Nd (o767 P) Nl Nl) Nl) (Nd (o635 P) (Nd (o895 P) Nl Nl) Nl)))) (Nd (o102 P) (Nd (o136 P) (Nd (o200 P) (Nd (o332 P) (Nd (o685 P) Nl Nl) (Nd (o1034 P) Nl Nl)) (Nd (o553 P) (Nd (o815 P) Nl Nl) Nl)) (Nd (o268 P) (Nd (o487 P) (Nd (o751 P) Nl Nl) Nl) (Nd (o619 P) (Nd (o879 P) Nl Nl) Nl))) (Nd (o168 P) (Nd (o234 P) (Nd (o364 P) (Nd (o717 P) Nl Nl) Nl) (Nd (o585 P) (Nd (o847 P) Nl Nl) Nl)) (Nd (o300 P) (Nd (o519 P) (Nd (o783 P) Nl Nl) Nl) (Nd (o651 P) (Nd (o1002 P) Nl Nl) Nl)))))))))
noncomputable def en : Env := { scope := pg.main.scope, locals := mainNs, globals := mainNs, cells := [], code := .ref 13, frame := some 14 }
noncomputable abbrev bh : List Stmt := behindTheImports pg
noncomputable abbrev cE : Code := .body bh en
noncomputable def sl (i n : Nat) : List Stmt := List.take n (List.drop i bdy)
noncomputable abbrev p0 : Pos := ⟨0,0,0,0⟩
noncomputable abbrev stT (T : BT) (n k : Nat) (os : OsState) : SharedT := ⟨T, n, {}, ⟨[]⟩, {}, k, os⟩
noncomputable def Pc (R : (String → Option Builtin) → Program → World → Nat → Option Value → Nat → Nat → SharedT → Thread → Option (Flow × SharedT × Code × Pos)) (tb : String → Option Builtin)
    (n : Nat) (T T' : Params → BT) (a ka b kb i j : Nat) (p p' : Pos) : Prop :=
  ∀ w : World, (fun os => R tb pg w 11 (some (.ref 6)) 1 n (stT (T w.params) a ka os) (piecesOf (sl i j) en cE p [topFrame p0])) = fun os => some (.next, stT (T' w.params) b kb os, cE, p')
noncomputable abbrev PcW := Pc Fast.tw10110043849684766642 Fast.tw14364793385576792824
theorem pc_of {n : Nat} {T T' : Params → BT} {a ka b kb i j : Nat} {p p' : Pos} (h : PcW n T T' a ka b kb i j p p') (w : World) (os : OsState) :
    segRun treeTable pg w 11 (some (.ref 6)) 1 n (stT (T w.params) a ka os).abs (piecesOf (sl i j) en cE p [topFrame p0]) = some (.next, (stT (T' w.params) b kb os).abs, cE, p') := by
  have e : Pc segRunT treeTable n T T' a ka b kb i j p p' := by rw [Fast.te10110043849684766642, Fast.te14364793385576792824]; exact h
  exact segRun_of (congrFun (e w) os)
end Hd
end
section
set_option maxRecDepth 100000
open PySem PySem.W PySem.W.X PyProof.Rows
namespace Hd
open PySem
theorem pc0 : PcW 572 tr0 tr1 15 187 68 261 0 10 ⟨0,0,0,0⟩ ⟨17,0,18,389⟩ := by intro w; kernel_rfl
end Hd
end
section
set_option maxRecDepth 100000
open PySem PySem.W PySem.W.X PyProof.Rows
namespace Hd
open PySem
theorem pc1 : PcW 818 tr1 tr2 68 261 195 447 10 18 ⟨17,0,18,389⟩ ⟨100,0,100,5⟩ := by intro w; kernel_rfl
end Hd
end
section
set_option maxRecDepth 100000
open PySem PySem.W PySem.W.X PyProof.Rows
namespace Hd
open PySem
theorem pc2 : PcW 821 tr2 tr3 195 447 343 641 28 1 ⟨100,0,100,5⟩ ⟨101,0,226,27⟩ := by intro w; kernel_rfl
end Hd
end
section
set_option maxRecDepth 100000
open PySem PySem.W PySem.W.X PyProof.Rows
namespace Hd
open PySem
theorem pc3 : PcW 833 tr3 tr4 343 641 454 820 29 7 ⟨101,0,226,27⟩ ⟨353,0,354,43⟩ := by intro w; kernel_rfl
end Hd
end
section
set_option maxRecDepth 100000
open PySem PySem.W PySem.W.X PyProof.Rows
namespace Hd
open PySem
theorem pc4 : PcW 729 tr4 tr5 454 820 602 1036 36 27 ⟨353,0,354,43⟩ ⟨531,0,531,5⟩ := by intro w; kernel_rfl
end Hd
end
section
set_option maxRecDepth 100000
open PySem PySem.W PySem.W.X PyProof.Rows
namespace Hd
open PySem
theorem pc5 : PcW 1103 tr5 tr6 602 1036 807 1309 63 9 ⟨531,0,531,5⟩ ⟨664,0,699,95⟩ := by intro w; kernel_rfl
end Hd
end
section
set_option maxRecDepth 100000
open PySem PySem.W PySem.W.X PyProof.Rows
namespace Hd
open PySem
noncomputable abbrev H1 (P : Params) : Heap := absHeap (tr6 P) 807 {}
theorem pre0 (w : World) : (fun os => Fast.tw15667345088766844465 Fast.tw14364793385576792824 pg w 11 (some (.ref 6)) 12 ⟨boot_heap w.params, ⟨[]⟩, boot_drawn, boot_toks, os⟩ (topStub pg)) =
    fun os => some ((stT (tr0 w.params) 15 187 os).abs, ⟨Fast.tw11892475500146522536 Fast.tw14364793385576792824 cE, cE, p0, [topFrame p0]⟩) := by kernel_rfl
theorem blk0 (w : World) : (fun os => Fast.tw14374325043358763698 Fast.tw14364793385576792824 pg w 11 (some (.ref 6)) 1 1 (stT (tr0 w.params) 15 187 os).abs (blockOf bh en cE p0 [topFrame p0])) =
    fun os => some (.next, (stT (tr0 w.params) 15 187 os).abs, cE, p0) := by kernel_rfl
theorem fin0 (w : World) : (fun os => Fast.tw14082659384304107361 Fast.tw14364793385576792824 pg w 11 (some (.ref 6)) 2 (stT (tr6 w.params) 807 1309 os).abs ⟨doneF .next, cE, ⟨664,0,699,95⟩, [topFrame p0]⟩) =
    fun os => some ⟨H1 w.params, ⟨[]⟩, {}, 1309, os⟩ := by kernel_rfl
theorem size0 (w : World) : ((boot_heap w.params).isNs mainGlobals && (⟨[]⟩ : Array GenState).size == 0, (boot_heap w.params).objs.size, (boot_heap w.params).nsMap mainGlobals "__annotations__") = (true, 11, some (.ref 6)) := by kernel_rfl
theorem bh_eq : bh = sl 0 10 ++ (sl 10 18 ++ (sl 28 1 ++ (sl 29 7 ++ (sl 36 27 ++ (sl 63 9 ++ []))))) := by kernel_rfl
theorem rest_eq {tb : String → Option Builtin} {p : Program} {w : World} {n N : Nat} {ann : Option Value} {s r : Shared} {b b' : List Stmt} {env : Env} {c : Code} {q : Pos} {B : List Frame} (e : b = b')
    (h : topRun tb p w n ann N s (restOf b' env c q B) = some r) : topRun tb p w n ann N s (restOf b env c q B) = some r := by subst e; exact h
theorem run0 (w : World) (os : OsState) : topRun treeTable pg w 11 (some (.ref 6)) (12 + (1 + (572 + (818 + (821 + (833 + (729 + (1103 + 2)))))))) ⟨boot_heap w.params, ⟨[]⟩, boot_drawn, boot_toks, os⟩ (topStub pg) = some ⟨H1 w.params, ⟨[]⟩, {}, 1309, os⟩ := by
  have a := pre0 w
  have b := blk0 w
  have c := fin0 w
  rw [← Fast.te15667345088766844465, ← Fast.te11892475500146522536, ← Fast.te14364793385576792824] at a
  rw [← Fast.te14374325043358763698, ← Fast.te14364793385576792824] at b
  rw [← Fast.te14082659384304107361, ← Fast.te14364793385576792824] at c
  refine go_top (congrFun a os) (piece_block (congrFun b os) (rest_eq bh_eq ?_))
  exact piece_app (pc_of pc0 w os) (piece_app (pc_of pc1 w os) (piece_app (pc_of pc2 w os) (piece_app (pc_of pc3 w os) (piece_app (pc_of pc4 w os) (piece_app (pc_of pc5 w os) (piece_nil (congrFun c os)))))))
end Hd
end
section
set_option maxRecDepth 100000
open PySem PySem.W PySem.W.X PyProof.Rows
namespace Hd
open PySem
noncomputable def q0 : Program := view pg [71]
noncomputable def ls0 : List Str := ([("_wall" : Str), ("ClausemillError" : Str), ("PrologError" : Str), ("A_NIL" : Str), ("A_SYSTEM" : Str), ("F_DOT" : Str), ("F_ERROR" : Str), ("fixed_atoms" : Str), ("fixed_functors" : Str), ("Symbols" : Str), ("system_error" : Str), ("formal_of" : Str), ("instantiation_error" : Str), ("type_error" : Str), ("resource_error" : Str), ("REF" : Str), ("SRF" : Str), ("STR" : Str), ("LIS" : Str), ("CON" : Str), ("INT" : Str), ("FUN" : Str), ("VOID" : Str), ("VISIT" : Str), ("BUILD" : Str), ("Cells" : Str), ("Store" : Str), ("PairSet" : Str), ("push_arguments" : Str), ("push_pairs" : Str)] ++ [("same_shape" : Str), ("is_variable" : Str), ("unify" : Str), ("unify_unify" : Str), ("bind_checked" : Str), ("occurs_in" : Str), ("rank" : Str), ("order" : Str), ("compare_shapes" : Str), ("compare_tops" : Str), ("compare" : Str), ("merge" : Str), ("merge_sort" : Str), ("NIL_CELL" : Str), ("order_of" : Str), ("pred_identical" : Str), ("pred_not_identical" : Str), ("pred_before" : Str), ("pred_after" : Str), ("pred_not_after" : Str), ("pred_not_before" : Str), ("partial_list" : Str), ("proper_list" : Str), ("pred_sort" : Str), ("pred_msort" : Str), ("READ" : Str), ("EXTRA" : Str), ("Areas" : Str), ("_law_digit" : Str), ("_law_simple" : Str)] ++ [("_law_element" : Str), ("_law_holds" : Str), ("_law_sorted" : Str), ("_law_between" : Str)] : List Str)
noncomputable abbrev Xt0 : Shared → Bool := fun s => xlAt q0 [] s && recOk (RowW.records PySem.Challenge.rw_rr0035_01.row.toRowW) s
noncomputable abbrev sh1 (P : Params) (os : OsState) : Shared := ⟨H1 P, ⟨[]⟩, {}, 1309, os⟩
end Hd
end
section
set_option maxRecDepth 100000
open PySem PySem.W PySem.W.X PyProof.Rows
namespace Hd
open PySem
theorem look1 (w : World) : (fun os => (staticsOk (Fast.tw5923862056798008813 pg.main.body) (boot_heap w.params) (H1 w.params) && namesBound pg (H1 w.params) && gensDone (sh1 w.params os) && laidKept (boot_heap w.params) (H1 w.params))) = fun _ => true := by kernel_rfl
end Hd
end
section
set_option maxRecDepth 100000
open PySem PySem.W PySem.W.X PyProof.Rows
namespace Hd
open PySem
theorem look2 (w : World) : (fun os => Fast.tw4187177175401517315 q0 ls0 (Fast.tw5923862056798008813 pg.main.body) Xt0 true (sh1 w.params os)) = fun _ => openGood q0 ls0 := by kernel_rfl
end Hd
end
section
set_option maxRecDepth 100000
open PySem PySem.W PySem.W.X PyProof.Rows
namespace Hd
open PySem
theorem ws0 : Fast.tw9446332074065402090 PySem.Challenge.rw_rr0035_01 = true := by kernel_rfl
end Hd
end
section
open PySem PySem.W PyProof.Rows
namespace Mine
open PySem
set_option genInjectivity false in
set_option genSizeOf false in
set_option genSizeOfSpec false in
inductive BM where
  | append | pop | extend | get | add
  deriving DecidableEq
set_option genInjectivity false in
set_option genSizeOf false in
set_option genSizeOfSpec false in
inductive E where
  | con (c : Const)
  | loc (i : Nat)
  | glo (i : Nat)
  | attr (o : E) (a : Nat)
  | bin (op : Operator) (l r : E)
  | neg (x : E)
  | not (x : E)
  | cmp (op : CmpOp) (l r : E)
  | bop (all : Bool) (xs : E)
  | ife (c a b : E)
  | sub (o i : E)
  | slc (o lo hi st : E)
  | no
  | tup (xs : E)
  | lst (k : Nat) (xs : E)
  | dic (k : Nat) (t : Bool)
  | nil
  | cons (a b : E)
  | call (f : E) (k : Nat) (xs : E)
  | meth (o : E) (m : Nat) (xs : E)
  | bm (o : E) (m : BM) (xs : E)
  | comp (elt src cnd : E) (i : Nat)
set_option genInjectivity false in
set_option genSizeOf false in
set_option genSizeOfSpec false in
inductive S where
  | done
  | asg (i : Nat) (e : E) (r : S)
  | asga (o : E) (a : Nat) (e : E) (r : S)
  | asgs (o i e : E) (r : S)
  | unp (i j : Nat) (e : E) (r : S)
  | aug (i : Nat) (op : Operator) (e : E) (r : S)
  | augs (o i : E) (op : Operator) (e : E) (r : S)
  | exp (e : E) (r : S)
  | ite (c : E) (a b : S) (r : S)
  | whl (c : E) (b : S) (r : S)
  | for (i : Nat) (src : E) (b : S) (r : S)
  | ret (e : E) (dr : List Nat)
  | cont
  | raw (r : S)
  | frz (i : Nat) (r : S)
structure Nm where
  loc : List Str
  glo : List Str
  att : List Str
  scope : Scope
noncomputable def isLoc (n : Nm) (i : Nat) (x : Str) : Bool := match n.loc[i]? with
  | some y => decide (y = x) && (match n.scope.names.lookup x with | some .local => true | some .cell => true | some .free => true | _ => false) && !decide (x = ("__debug__" : Str)) && !decide (x = ("__classdict__" : Str))
  | none => false
noncomputable def isSto (n : Nm) (i : Nat) (x : Str) : Bool := isLoc n i x && (match n.scope.names.lookup x with | some .local => true | some .cell => true | _ => false)
noncomputable def isGlo (n : Nm) (i : Nat) (x : Str) : Bool := match n.glo[i]? with
  | some y => decide (y = x) && (match n.scope.names.lookup x with | some .globalImplicit => true | _ => false) && !decide (x = ("__debug__" : Str)) && !decide (x = ("__name__" : Str))
  | none => false
noncomputable def isAtt (n : Nm) (a : Nat) (x : Str) : Bool := match n.att[a]? with
  | some y => decide (y = x)
  | none => false
noncomputable def BM.name : BM → Str
  | .append => "append"
  | .pop => "pop"
  | .extend => "extend"
  | .get => "get"
  | .add => "add"
noncomputable def relS (sc outer : Scope) : Scope := { sc with names := sc.names.map fun (n, k) => if (k == .free && outer.kind == .function && outer.names.lookup n == some .cell) then (n, .cell) else (n, k) }
noncomputable def keysNd : List (Str × NameKind) → Bool
  | [] => true
  | p :: r => !(r.any fun q => q.1 == p.1) && keysNd r
noncomputable def compOK (n : Nm) (sc : Scope) (x : Str) : Bool := (sc.kind == .function) && keysNd sc.names && decide (sc.names.lookup x = some .local) &&
  sc.names.all fun p => (match p.2 with
    | .cell => false
    | .free => decide (n.scope.names.lookup p.1 = some .cell)
    | .local => decide (p.1 = x) || !(n.loc.any fun y => y == p.1)
    | _ => true)
section views
variable (x : Expr) (s : Stmt)
noncomputable def onC {α : Type} (l : List α) (f : α → List α → Bool) : Bool := match l with | [] => false | a :: r => f a r
noncomputable def on1 {α : Type} (l : List α) (f : α → Bool) : Bool := onC l fun a r => r.isEmpty && f a
noncomputable def onO {α : Type} (l : Option α) (f : α → Bool) : Bool := match l with | none => false | some a => f a
noncomputable def vCon (f : Const → Bool) : Bool := @PySem.Expr.casesOn (fun _ => Bool) x (fun _ _ _ => false) (fun _ _ _ => false) (fun _ _ _ _ => false) (fun _ _ _ => false) (fun _ _ _ _ => false) (fun _ _ _ _ => false) (fun _ _ _ => false) (fun _ _ _ => false) (fun _ _ _ _ => false) (fun _ _ _ _ => false) (fun _ _ _ _ _ => false) (fun _ _ _ _ => false) (fun _ _ => false) (fun _ _ => false) (fun _ _ => false) (fun _ _ _ _ => false) (fun _ _ _ _ => false) (fun _ _ _ _ => false) (fun _ _ => false) (fun (a0 : PySem.Const) (a1 : Nat) (a2 : PySem.Pos) => f a0) (fun _ _ _ => false) (fun _ _ _ => false) (fun _ _ => false) (fun _ _ => false) (fun _ _ => false) (fun _ _ _ => false) (fun _ _ _ _ => false)
noncomputable def vNm (f : Str → Bool) : Bool := @PySem.Expr.casesOn (fun _ => Bool) x (fun _ _ _ => false) (fun _ _ _ => false) (fun _ _ _ _ => false) (fun _ _ _ => false) (fun _ _ _ _ => false) (fun _ _ _ _ => false) (fun _ _ _ => false) (fun _ _ _ => false) (fun _ _ _ _ => false) (fun _ _ _ _ => false) (fun _ _ _ _ _ => false) (fun _ _ _ _ => false) (fun _ _ => false) (fun _ _ => false) (fun _ _ => false) (fun _ _ _ _ => false) (fun _ _ _ _ => false) (fun _ _ _ _ => false) (fun _ _ => false) (fun _ _ _ => false) (fun _ _ _ => false) (fun _ _ _ => false) (fun _ _ => false) (fun (a0 : PySem.Str) (a1 : PySem.Pos) => f a0) (fun _ _ => false) (fun _ _ _ => false) (fun _ _ _ _ => false)
noncomputable def vAt (f : Expr → Str → Pos → Bool) : Bool := @PySem.Expr.casesOn (fun _ => Bool) x (fun _ _ _ => false) (fun _ _ _ => false) (fun _ _ _ _ => false) (fun _ _ _ => false) (fun _ _ _ _ => false) (fun _ _ _ _ => false) (fun _ _ _ => false) (fun _ _ _ => false) (fun _ _ _ _ => false) (fun _ _ _ _ => false) (fun _ _ _ _ _ => false) (fun _ _ _ _ => false) (fun _ _ => false) (fun _ _ => false) (fun _ _ => false) (fun _ _ _ _ => false) (fun _ _ _ _ => false) (fun _ _ _ _ => false) (fun _ _ => false) (fun _ _ _ => false) (fun (a0 : PySem.Expr) (a1 : PySem.Str) (a2 : PySem.Pos) => f a0 a1 a2) (fun _ _ _ => false) (fun _ _ => false) (fun _ _ => false) (fun _ _ => false) (fun _ _ _ => false) (fun _ _ _ _ => false)
noncomputable def vBin (f : Expr → Operator → Expr → Bool) : Bool := @PySem.Expr.casesOn (fun _ => Bool) x (fun _ _ _ => false) (fun _ _ _ => false) (fun (a0 : PySem.Expr) (a1 : PySem.Operator) (a2 : PySem.Expr) (a3 : PySem.Pos) => f a0 a1 a2) (fun _ _ _ => false) (fun _ _ _ _ => false) (fun _ _ _ _ => false) (fun _ _ _ => false) (fun _ _ _ => false) (fun _ _ _ _ => false) (fun _ _ _ _ => false) (fun _ _ _ _ _ => false) (fun _ _ _ _ => false) (fun _ _ => false) (fun _ _ => false) (fun _ _ => false) (fun _ _ _ _ => false) (fun _ _ _ _ => false) (fun _ _ _ _ => false) (fun _ _ => false) (fun _ _ _ => false) (fun _ _ _ => false) (fun _ _ _ => false) (fun _ _ => false) (fun _ _ => false) (fun _ _ => false) (fun _ _ _ => false) (fun _ _ _ _ => false)
noncomputable def vUn (f : UnaryOp → Expr → Bool) : Bool := @PySem.Expr.casesOn (fun _ => Bool) x (fun _ _ _ => false) (fun _ _ _ => false) (fun _ _ _ _ => false) (fun (a0 : PySem.UnaryOp) (a1 : PySem.Expr) (a2 : PySem.Pos) => f a0 a1) (fun _ _ _ _ => false) (fun _ _ _ _ => false) (fun _ _ _ => false) (fun _ _ _ => false) (fun _ _ _ _ => false) (fun _ _ _ _ => false) (fun _ _ _ _ _ => false) (fun _ _ _ _ => false) (fun _ _ => false) (fun _ _ => false) (fun _ _ => false) (fun _ _ _ _ => false) (fun _ _ _ _ => false) (fun _ _ _ _ => false) (fun _ _ => false) (fun _ _ _ => false) (fun _ _ _ => false) (fun _ _ _ => false) (fun _ _ => false) (fun _ _ => false) (fun _ _ => false) (fun _ _ _ => false) (fun _ _ _ _ => false)
noncomputable def vCmp (f : Expr → List CmpOp → List Expr → Bool) : Bool := @PySem.Expr.casesOn (fun _ => Bool) x (fun _ _ _ => false) (fun _ _ _ => false) (fun _ _ _ _ => false) (fun _ _ _ => false) (fun _ _ _ _ => false) (fun _ _ _ _ => false) (fun _ _ _ => false) (fun _ _ _ => false) (fun _ _ _ _ => false) (fun _ _ _ _ => false) (fun _ _ _ _ _ => false) (fun _ _ _ _ => false) (fun _ _ => false) (fun _ _ => false) (fun _ _ => false) (fun (a0 : PySem.Expr) (a1 : List PySem.CmpOp) (a2 : List PySem.Expr) (a3 : PySem.Pos) => f a0 a1 a2) (fun _ _ _ _ => false) (fun _ _ _ _ => false) (fun _ _ => false) (fun _ _ _ => false) (fun _ _ _ => false) (fun _ _ _ => false) (fun _ _ => false) (fun _ _ => false) (fun _ _ => false) (fun _ _ _ => false) (fun _ _ _ _ => false)
noncomputable def vBo (f : BoolOp → List Expr → Bool) : Bool := @PySem.Expr.casesOn (fun _ => Bool) x (fun (a0 : PySem.BoolOp) (a1 : List PySem.Expr) (a2 : PySem.Pos) => f a0 a1) (fun _ _ _ => false) (fun _ _ _ _ => false) (fun _ _ _ => false) (fun _ _ _ _ => false) (fun _ _ _ _ => false) (fun _ _ _ => false) (fun _ _ _ => false) (fun _ _ _ _ => false) (fun _ _ _ _ => false) (fun _ _ _ _ _ => false) (fun _ _ _ _ => false) (fun _ _ => false) (fun _ _ => false) (fun _ _ => false) (fun _ _ _ _ => false) (fun _ _ _ _ => false) (fun _ _ _ _ => false) (fun _ _ => false) (fun _ _ _ => false) (fun _ _ _ => false) (fun _ _ _ => false) (fun _ _ => false) (fun _ _ => false) (fun _ _ => false) (fun _ _ _ => false) (fun _ _ _ _ => false)
noncomputable def vIf (f : Expr → Expr → Expr → Bool) : Bool := @PySem.Expr.casesOn (fun _ => Bool) x (fun _ _ _ => false) (fun _ _ _ => false) (fun _ _ _ _ => false) (fun _ _ _ => false) (fun _ _ _ _ => false) (fun (a0 : PySem.Expr) (a1 : PySem.Expr) (a2 : PySem.Expr) (a3 : PySem.Pos) => f a0 a1 a2) (fun _ _ _ => false) (fun _ _ _ => false) (fun _ _ _ _ => false) (fun _ _ _ _ => false) (fun _ _ _ _ _ => false) (fun _ _ _ _ => false) (fun _ _ => false) (fun _ _ => false) (fun _ _ => false) (fun _ _ _ _ => false) (fun _ _ _ _ => false) (fun _ _ _ _ => false) (fun _ _ => false) (fun _ _ _ => false) (fun _ _ _ => false) (fun _ _ _ => false) (fun _ _ => false) (fun _ _ => false) (fun _ _ => false) (fun _ _ _ => false) (fun _ _ _ _ => false)
noncomputable def vSub (f : Expr → Expr → Bool) : Bool := @PySem.Expr.casesOn (fun _ => Bool) x (fun _ _ _ => false) (fun _ _ _ => false) (fun _ _ _ _ => false) (fun _ _ _ => false) (fun _ _ _ _ => false) (fun _ _ _ _ => false) (fun _ _ _ => false) (fun _ _ _ => false) (fun _ _ _ _ => false) (fun _ _ _ _ => false) (fun _ _ _ _ _ => false) (fun _ _ _ _ => false) (fun _ _ => false) (fun _ _ => false) (fun _ _ => false) (fun _ _ _ _ => false) (fun _ _ _ _ => false) (fun _ _ _ _ => false) (fun _ _ => false) (fun _ _ _ => false) (fun _ _ _ => false) (fun (a0 : PySem.Expr) (a1 : PySem.Expr) (a2 : PySem.Pos) => f a0 a1) (fun _ _ => false) (fun _ _ => false) (fun _ _ => false) (fun _ _ _ => false) (fun _ _ _ _ => false)
noncomputable def vSl (f : Option Expr → Option Expr → Option Expr → Bool) : Bool := @PySem.Expr.casesOn (fun _ => Bool) x (fun _ _ _ => false) (fun _ _ _ => false) (fun _ _ _ _ => false) (fun _ _ _ => false) (fun _ _ _ _ => false) (fun _ _ _ _ => false) (fun _ _ _ => false) (fun _ _ _ => false) (fun _ _ _ _ => false) (fun _ _ _ _ => false) (fun _ _ _ _ _ => false) (fun _ _ _ _ => false) (fun _ _ => false) (fun _ _ => false) (fun _ _ => false) (fun _ _ _ _ => false) (fun _ _ _ _ => false) (fun _ _ _ _ => false) (fun _ _ => false) (fun _ _ _ => false) (fun _ _ _ => false) (fun _ _ _ => false) (fun _ _ => false) (fun _ _ => false) (fun _ _ => false) (fun _ _ _ => false) (fun (a0 : Option PySem.Expr) (a1 : Option PySem.Expr) (a2 : Option PySem.Expr) (a3 : PySem.Pos) => f a0 a1 a2)
noncomputable def vTup (f : List Expr → Bool) : Bool := @PySem.Expr.casesOn (fun _ => Bool) x (fun _ _ _ => false) (fun _ _ _ => false) (fun _ _ _ _ => false) (fun _ _ _ => false) (fun _ _ _ _ => false) (fun _ _ _ _ => false) (fun _ _ _ => false) (fun _ _ _ => false) (fun _ _ _ _ => false) (fun _ _ _ _ => false) (fun _ _ _ _ _ => false) (fun _ _ _ _ => false) (fun _ _ => false) (fun _ _ => false) (fun _ _ => false) (fun _ _ _ _ => false) (fun _ _ _ _ => false) (fun _ _ _ _ => false) (fun _ _ => false) (fun _ _ _ => false) (fun _ _ _ => false) (fun _ _ _ => false) (fun _ _ => false) (fun _ _ => false) (fun _ _ => false) (fun (a0 : List PySem.Expr) (a1 : Nat) (a2 : PySem.Pos) => f a0) (fun _ _ _ _ => false)
noncomputable def vLst (f : List Expr → Bool) : Bool := @PySem.Expr.casesOn (fun _ => Bool) x (fun _ _ _ => false) (fun _ _ _ => false) (fun _ _ _ _ => false) (fun _ _ _ => false) (fun _ _ _ _ => false) (fun _ _ _ _ => false) (fun _ _ _ => false) (fun _ _ _ => false) (fun _ _ _ _ => false) (fun _ _ _ _ => false) (fun _ _ _ _ _ => false) (fun _ _ _ _ => false) (fun _ _ => false) (fun _ _ => false) (fun _ _ => false) (fun _ _ _ _ => false) (fun _ _ _ _ => false) (fun _ _ _ _ => false) (fun _ _ => false) (fun _ _ _ => false) (fun _ _ _ => false) (fun _ _ _ => false) (fun _ _ => false) (fun _ _ => false) (fun (a0 : List PySem.Expr) (a1 : PySem.Pos) => f a0) (fun _ _ _ => false) (fun _ _ _ _ => false)
noncomputable def vDic (f : List (Option Expr) → List Expr → Bool) : Bool := @PySem.Expr.casesOn (fun _ => Bool) x (fun _ _ _ => false) (fun _ _ _ => false) (fun _ _ _ _ => false) (fun _ _ _ => false) (fun _ _ _ _ => false) (fun _ _ _ _ => false) (fun (a0 : List (Option PySem.Expr)) (a1 : List PySem.Expr) (a2 : PySem.Pos) => f a0 a1) (fun _ _ _ => false) (fun _ _ _ _ => false) (fun _ _ _ _ => false) (fun _ _ _ _ _ => false) (fun _ _ _ _ => false) (fun _ _ => false) (fun _ _ => false) (fun _ _ => false) (fun _ _ _ _ => false) (fun _ _ _ _ => false) (fun _ _ _ _ => false) (fun _ _ => false) (fun _ _ _ => false) (fun _ _ _ => false) (fun _ _ _ => false) (fun _ _ => false) (fun _ _ => false) (fun _ _ => false) (fun _ _ _ => false) (fun _ _ _ _ => false)
noncomputable def vCal (f : Expr → List Expr → List Keyword → Pos → Bool) : Bool := @PySem.Expr.casesOn (fun _ => Bool) x (fun _ _ _ => false) (fun _ _ _ => false) (fun _ _ _ _ => false) (fun _ _ _ => false) (fun _ _ _ _ => false) (fun _ _ _ _ => false) (fun _ _ _ => false) (fun _ _ _ => false) (fun _ _ _ _ => false) (fun _ _ _ _ => false) (fun _ _ _ _ _ => false) (fun _ _ _ _ => false) (fun _ _ => false) (fun _ _ => false) (fun _ _ => false) (fun _ _ _ _ => false) (fun (a0 : PySem.Expr) (a1 : List PySem.Expr) (a2 : List PySem.Keyword) (a3 : PySem.Pos) => f a0 a1 a2 a3) (fun _ _ _ _ => false) (fun _ _ => false) (fun _ _ _ => false) (fun _ _ _ => false) (fun _ _ _ => false) (fun _ _ => false) (fun _ _ => false) (fun _ _ => false) (fun _ _ _ => false) (fun _ _ _ _ => false)
noncomputable def vCom (f : Expr → List Comprehension → Scope → Bool) : Bool := @PySem.Expr.casesOn (fun _ => Bool) x (fun _ _ _ => false) (fun _ _ _ => false) (fun _ _ _ _ => false) (fun _ _ _ => false) (fun _ _ _ _ => false) (fun _ _ _ _ => false) (fun _ _ _ => false) (fun _ _ _ => false) (fun (a0 : PySem.Expr) (a1 : List PySem.Comprehension) (a2 : PySem.Scope) (a3 : PySem.Pos) => f a0 a1 a2) (fun _ _ _ _ => false) (fun _ _ _ _ _ => false) (fun _ _ _ _ => false) (fun _ _ => false) (fun _ _ => false) (fun _ _ => false) (fun _ _ _ _ => false) (fun _ _ _ _ => false) (fun _ _ _ _ => false) (fun _ _ => false) (fun _ _ _ => false) (fun _ _ _ => false) (fun _ _ _ => false) (fun _ _ => false) (fun _ _ => false) (fun _ _ => false) (fun _ _ _ => false) (fun _ _ _ _ => false)
noncomputable def sAsg (f : List Expr → Expr → Bool) : Bool := @PySem.Stmt.casesOn (fun _ => Bool) s (fun _ _ _ _ _ _ _ _ _ _ => false) (fun _ _ _ _ _ _ _ _ _ _ => false) (fun _ _ _ _ _ _ _ _ _ _ _ => false) (fun _ _ => false) (fun _ _ => false) (fun (a0 : List PySem.Expr) (a1 : PySem.Expr) (a2 : PySem.Pos) => f a0 a1) (fun _ _ _ _ _ _ _ => false) (fun _ _ _ _ => false) (fun _ _ _ _ _ => false) (fun _ _ _ _ _ => false) (fun _ _ _ _ _ => false) (fun _ _ _ _ => false) (fun _ _ _ _ => false) (fun _ _ _ => false) (fun _ _ _ => false) (fun _ _ _ => false) (fun _ _ _ => false) (fun _ _ _ _ _ => false) (fun _ _ _ _ _ => false) (fun _ _ _ => false) (fun _ _ => false) (fun _ _ _ _ => false) (fun _ _ => false) (fun _ _ => false) (fun _ _ => false) (fun _ => false) (fun _ => false) (fun _ => false)
noncomputable def sAug (f : Expr → Operator → Expr → Bool) : Bool := @PySem.Stmt.casesOn (fun _ => Bool) s (fun _ _ _ _ _ _ _ _ _ _ => false) (fun _ _ _ _ _ _ _ _ _ _ => false) (fun _ _ _ _ _ _ _ _ _ _ _ => false) (fun _ _ => false) (fun _ _ => false) (fun _ _ _ => false) (fun _ _ _ _ _ _ _ => false) (fun (a0 : PySem.Expr) (a1 : PySem.Operator) (a2 : PySem.Expr) (a3 : PySem.Pos) => f a0 a1 a2) (fun _ _ _ _ _ => false) (fun _ _ _ _ _ => false) (fun _ _ _ _ _ => false) (fun _ _ _ _ => false) (fun _ _ _ _ => false) (fun _ _ _ => false) (fun _ _ _ => false) (fun _ _ _ => false) (fun _ _ _ => false) (fun _ _ _ _ _ => false) (fun _ _ _ _ _ => false) (fun _ _ _ => false) (fun _ _ => false) (fun _ _ _ _ => false) (fun _ _ => false) (fun _ _ => false) (fun _ _ => false) (fun _ => false) (fun _ => false) (fun _ => false)
noncomputable def sExp (f : Expr → Bool) : Bool := @PySem.Stmt.casesOn (fun _ => Bool) s (fun _ _ _ _ _ _ _ _ _ _ => false) (fun _ _ _ _ _ _ _ _ _ _ => false) (fun _ _ _ _ _ _ _ _ _ _ _ => false) (fun _ _ => false) (fun _ _ => false) (fun _ _ _ => false) (fun _ _ _ _ _ _ _ => false) (fun _ _ _ _ => false) (fun _ _ _ _ _ => false) (fun _ _ _ _ _ => false) (fun _ _ _ _ _ => false) (fun _ _ _ _ => false) (fun _ _ _ _ => false) (fun _ _ _ => false) (fun _ _ _ => false) (fun _ _ _ => false) (fun _ _ _ => false) (fun _ _ _ _ _ => false) (fun _ _ _ _ _ => false) (fun _ _ _ => false) (fun _ _ => false) (fun _ _ _ _ => false) (fun _ _ => false) (fun _ _ => false) (fun (a0 : PySem.Expr) (a1 : PySem.Pos) => f a0) (fun _ => false) (fun _ => false) (fun _ => false)
noncomputable def sIf (f : Expr → List Stmt → List Stmt → Bool) : Bool := @PySem.Stmt.casesOn (fun _ => Bool) s (fun _ _ _ _ _ _ _ _ _ _ => false) (fun _ _ _ _ _ _ _ _ _ _ => false) (fun _ _ _ _ _ _ _ _ _ _ _ => false) (fun _ _ => false) (fun _ _ => false) (fun _ _ _ => false) (fun _ _ _ _ _ _ _ => false) (fun _ _ _ _ => false) (fun _ _ _ _ _ => false) (fun _ _ _ _ _ => false) (fun _ _ _ _ _ => false) (fun _ _ _ _ => false) (fun (a0 : PySem.Expr) (a1 : List PySem.Stmt) (a2 : List PySem.Stmt) (a3 : PySem.Pos) => f a0 a1 a2) (fun _ _ _ => false) (fun _ _ _ => false) (fun _ _ _ => false) (fun _ _ _ => false) (fun _ _ _ _ _ => false) (fun _ _ _ _ _ => false) (fun _ _ _ => false) (fun _ _ => false) (fun _ _ _ _ => false) (fun _ _ => false) (fun _ _ => false) (fun _ _ => false) (fun _ => false) (fun _ => false) (fun _ => false)
noncomputable def sWh (f : Expr → List Stmt → List Stmt → Bool) : Bool := @PySem.Stmt.casesOn (fun _ => Bool) s (fun _ _ _ _ _ _ _ _ _ _ => false) (fun _ _ _ _ _ _ _ _ _ _ => false) (fun _ _ _ _ _ _ _ _ _ _ _ => false) (fun _ _ => false) (fun _ _ => false) (fun _ _ _ => false) (fun _ _ _ _ _ _ _ => false) (fun _ _ _ _ => false) (fun _ _ _ _ _ => false) (fun _ _ _ _ _ => false) (fun _ _ _ _ _ => false) (fun (a0 : PySem.Expr) (a1 : List PySem.Stmt) (a2 : List PySem.Stmt) (a3 : PySem.Pos) => f a0 a1 a2) (fun _ _ _ _ => false) (fun _ _ _ => false) (fun _ _ _ => false) (fun _ _ _ => false) (fun _ _ _ => false) (fun _ _ _ _ _ => false) (fun _ _ _ _ _ => false) (fun _ _ _ => false) (fun _ _ => false) (fun _ _ _ _ => false) (fun _ _ => false) (fun _ _ => false) (fun _ _ => false) (fun _ => false) (fun _ => false) (fun _ => false)
noncomputable def sFor (f : Expr → Expr → List Stmt → List Stmt → Bool) : Bool := @PySem.Stmt.casesOn (fun _ => Bool) s (fun _ _ _ _ _ _ _ _ _ _ => false) (fun _ _ _ _ _ _ _ _ _ _ => false) (fun _ _ _ _ _ _ _ _ _ _ _ => false) (fun _ _ => false) (fun _ _ => false) (fun _ _ _ => false) (fun _ _ _ _ _ _ _ => false) (fun _ _ _ _ => false) (fun _ _ _ _ _ => false) (fun (a0 : PySem.Expr) (a1 : PySem.Expr) (a2 : List PySem.Stmt) (a3 : List PySem.Stmt) (a4 : PySem.Pos) => f a0 a1 a2 a3) (fun _ _ _ _ _ => false) (fun _ _ _ _ => false) (fun _ _ _ _ => false) (fun _ _ _ => false) (fun _ _ _ => false) (fun _ _ _ => false) (fun _ _ _ => false) (fun _ _ _ _ _ => false) (fun _ _ _ _ _ => false) (fun _ _ _ => false) (fun _ _ => false) (fun _ _ _ _ => false) (fun _ _ => false) (fun _ _ => false) (fun _ _ => false) (fun _ => false) (fun _ => false) (fun _ => false)
noncomputable def sRet (f : Option Expr → Bool) : Bool := @PySem.Stmt.casesOn (fun _ => Bool) s (fun _ _ _ _ _ _ _ _ _ _ => false) (fun _ _ _ _ _ _ _ _ _ _ => false) (fun _ _ _ _ _ _ _ _ _ _ _ => false) (fun (a0 : Option PySem.Expr) (a1 : PySem.Pos) => f a0) (fun _ _ => false) (fun _ _ _ => false) (fun _ _ _ _ _ _ _ => false) (fun _ _ _ _ => false) (fun _ _ _ _ _ => false) (fun _ _ _ _ _ => false) (fun _ _ _ _ _ => false) (fun _ _ _ _ => false) (fun _ _ _ _ => false) (fun _ _ _ => false) (fun _ _ _ => false) (fun _ _ _ => false) (fun _ _ _ => false) (fun _ _ _ _ _ => false) (fun _ _ _ _ _ => false) (fun _ _ _ => false) (fun _ _ => false) (fun _ _ _ _ => false) (fun _ _ => false) (fun _ _ => false) (fun _ _ => false) (fun _ => false) (fun _ => false) (fun _ => false)
noncomputable def sCon : Bool := @PySem.Stmt.casesOn (fun _ => Bool) s (fun _ _ _ _ _ _ _ _ _ _ => false) (fun _ _ _ _ _ _ _ _ _ _ => false) (fun _ _ _ _ _ _ _ _ _ _ _ => false) (fun _ _ => false) (fun _ _ => false) (fun _ _ _ => false) (fun _ _ _ _ _ _ _ => false) (fun _ _ _ _ => false) (fun _ _ _ _ _ => false) (fun _ _ _ _ _ => false) (fun _ _ _ _ _ => false) (fun _ _ _ _ => false) (fun _ _ _ _ => false) (fun _ _ _ => false) (fun _ _ _ => false) (fun _ _ _ => false) (fun _ _ _ => false) (fun _ _ _ _ _ => false) (fun _ _ _ _ _ => false) (fun _ _ _ => false) (fun _ _ => false) (fun _ _ _ _ => false) (fun _ _ => false) (fun _ _ => false) (fun _ _ => false) (fun _ => false) (fun _ => false) (fun (a0 : PySem.Pos) => true)
end views
noncomputable def notSuper (x : Expr) : Bool := !(vCal x fun f _ _ _ => vNm f fun y => decide (y = ("super" : Str)))
noncomputable def isName (x : Expr) : Bool := vNm x fun _ => true
noncomputable def isComp (x : Expr) : Bool := vCom x fun _ _ _ => true
mutual
noncomputable def mE (n : Nm) : E → Expr → Bool
  | .con c, x => vCon x fun c' => decide (c = c')
  | .loc i, x => vNm x fun x => isLoc n i x
  | .glo i, x => vNm x fun x => isGlo n i x
  | .attr o a, x => vAt x fun o' x _ => mE n o o' && isAtt n a x && notSuper o'
  | .bin op l r, x => vBin x fun l' op' r' => decide (op = op') && mE n l l' && mE n r r'
  | .neg y, x => vUn x fun o x' => decide (o = .USub) && mE n y x'
  | .not y, x => vUn x fun o x' => decide (o = .Not) && mE n y x'
  | .cmp op l r, x => vCmp x fun l' os rs => on1 os fun op' => on1 rs fun r' => decide (op = op') && mE n l l' && mE n r r'
  | .bop t xs, x => vBo x fun op xs' => (decide (op = .And) == t) && mEs n xs xs' && !xs'.isEmpty
  | .ife c a b, x => vIf x fun c' a' b' => mE n c c' && mE n a a' && mE n b b'
  | .sub o i, x => vSub x fun o' i' => mE n o o' && mE n i i'
  | .slc o lo hi st, x => vSub x fun o' sl => vSl sl fun lo' hi' st' => mE n o o' && mO n lo lo' && mO n hi hi' && mO n st st'
  | .tup xs, x => vTup x fun xs' => mEs n xs xs' && decide (xs'.length < 100)
  | .lst _ xs, x => vLst x fun xs' => mEs n xs xs' && decide (xs'.length < 100)
  | .dic _ _, x => vDic x fun a b => a.isEmpty && b.isEmpty
  | .call f _ xs, x => vCal x fun f' xs' ks _ => ks.isEmpty && mE n f f' && isName f' && mEs n xs xs'
  | .meth o m xs, x => vCal x fun f' xs' ks p => vAt f' fun o' x pa => ks.isEmpty && mE n o o' && isAtt n m x && mEs n xs xs' && decide (xs'.length < 20) && (pa.endLine == p.line) && notSuper o'
  | .bm o m xs, x => vCal x fun f' xs' ks p => vAt f' fun o' x pa => ks.isEmpty && mE n o o' && decide (x = m.name) && mEs n xs xs' && decide (xs'.length < 20) && (pa.endLine == p.line) && notSuper o'
  | .comp elt src cnd i, x => vCom x fun elt' gs sc => on1 gs fun g => vNm g.target fun x => decide (g.is_async = 0) && mE n src g.iter && mE { n with scope := relS sc n.scope } elt elt' && mEs { n with scope := relS sc n.scope } cnd g.ifs && isLoc { n with scope := relS sc n.scope } i x && compOK n sc x
  | .no, _ => false
  | .nil, _ => false
  | .cons _ _, _ => false
noncomputable def mEs (n : Nm) : E → List Expr → Bool
  | .nil, l => l.isEmpty
  | .cons a b, l => onC l fun x xs => mE n a x && mEs n b xs
  | _, _ => false
noncomputable def mO (n : Nm) : E → Option Expr → Bool
  | .no, o => o.isNone
  | .con c, o => onO o fun x => vCon x fun c' => decide (c = c')
  | .neg e, o => onO o fun x => vUn x fun o x' => decide (o = .USub) && mE n e x'
  | .loc i, o => onO o fun x => vNm x fun x => isLoc n i x
  | .call f _ xs, o => onO o fun x => vCal x fun f' xs' ks _ => ks.isEmpty && mE n f f' && isName f' && mEs n xs xs'
  | _, _ => false
end
noncomputable def mS (n : Nm) : S → List Stmt → Bool
  | .done, l => l.isEmpty
  | .asg i e r, l => onC l fun s rest => sAsg s fun ts e' => on1 ts fun t => vNm t fun x => isSto n i x && mE n e e' && mS n r rest
  | .asga o a e r, l => onC l fun s rest => sAsg s fun ts e' => on1 ts fun t => vAt t fun o' x _ => mE n o o' && isAtt n a x && mE n e e' && notSuper o' && !isComp e' && mS n r rest
  | .asgs o i e r, l => onC l fun s rest => sAsg s fun ts e' => on1 ts fun t => vSub t fun o' i' => mE n o o' && mE n i i' && mE n e e' && !isComp e' && mS n r rest
  | .unp i j e r, l => onC l fun s rest => sAsg s fun ts e' => on1 ts fun t => vTup t fun es => onC es fun a es' => on1 es' fun b => vNm a fun x => vNm b fun y => vCal e' fun f xs kw pc => isSto n i x && isSto n j y && !decide (i = j) && mE n e (.Call f xs kw pc) && mS n r rest
  | .aug i op e r, l => onC l fun s rest => sAug s fun t op' e' => vNm t fun x => isSto n i x && decide (op = op') && mE n e e' && mS n r rest
  | .augs o i op e r, l => onC l fun s rest => sAug s fun t op' e' => vSub t fun o' i' => mE n o o' && mE n i i' && decide (op = op') && mE n e e' && mS n r rest
  | .exp e r, l => onC l fun s rest => sExp s fun e' => mE n e e' && !isComp e' && mS n r rest
  | .ite c a b r, l => onC l fun s rest => sIf s fun c' a' b' => mE n c c' && mS n a a' && mS n b b' && mS n r rest
  | .whl c b r, l => onC l fun s rest => sWh s fun c' b' e' => e'.isEmpty && mE n c c' && mS n b b' && mS n r rest
  | .for i src b r, l => onC l fun s rest => sFor s fun t src' b' e' => vNm t fun x => e'.isEmpty && isSto n i x && mE n src src' && mS n b b' && mS n r rest
  | .ret e _, l => onC l fun s _ => sRet s fun o => onO o fun e' => mE n e e'
  | .cont, l => onC l fun s _ => sCon s
  | .raw r, l => onC l fun _ rest => mS n r rest
  | .frz _ r, l => mS n r l
set_option genInjectivity false in
set_option genSizeOf false in
set_option genSizeOfSpec false in
inductive AV where
  | un
  | d (x : PyData)
  | obj (k : Nat)
  | ins (c k : Nat)
  | fn (i : Nat)
  | fns (l : List Nat)
  | rng (a b c : Int)
set_option genInjectivity false in
set_option genSizeOf false in
set_option genSizeOfSpec false in
inductive AO where
  | dat (l : List PyData)
  | mix (l : List AV)
  | ns (l : List (Nat × AV))
  | dstr (l : List (Str × Int))
  | dtup (l : List (List Int × Int))
  | iset (l : List Int)
noncomputable abbrev H := List (Nat × AO)
noncomputable def look : H → Nat → Option AO
  | [], _ => none
  | (k, o) :: t, j => if k = j then some o else look t j
noncomputable def put : H → Nat → AO → H
  | [], _, _ => []
  | (k, o) :: t, j, x => if k = j then (k, x) :: t else (k, o) :: put t j x
noncomputable def del : H → Nat → H
  | [], _ => []
  | (k, o) :: t, j => if k = j then t else (k, o) :: del t j
noncomputable def dels (σ : H) : List Nat → H
  | [] => σ
  | k :: r => dels (del σ k) r
noncomputable def AV.refs : AV → List Nat
  | .obj k => [k]
  | .ins _ k => [k]
  | _ => []
noncomputable def AO.refs : AO → List Nat
  | .mix l => l.flatMap AV.refs
  | .ns l => l.flatMap fun p => p.2.refs
  | _ => []
noncomputable def ClosedH (σ : H) : Prop := ∀ j o, look σ j = some o → ∀ r ∈ o.refs, (look σ r).isSome = true
noncomputable def LiveV (σ : H) (v : AV) : Prop := ∀ r ∈ v.refs, (look σ r).isSome = true
set_option genInjectivity false in
set_option genSizeOf false in
set_option genSizeOfSpec false in
inductive GK where
  | dat (x : PyData)
  | fn (f : Nat)
  | cls (c : Nat)
  | len | range | list | sorted | set
structure Tb where
  glo : Nat → Option GK
  meth : Nat → Nat → Option Nat
  ini : Nat → Option Nat
  att : Nat → Nat → Bool
noncomputable abbrev CallT := Nat → List AV → H → (AV → H → Prop) → Prop
noncomputable def getI {α : Type} (xs : List α) (j : Int) : Option α := if 0 ≤ j then xs[j.toNat]? else if 0 ≤ j + xs.length then xs[(j + xs.length).toNat]? else none
noncomputable def unDs : List AV → Option (List PyData)
  | [] => some []
  | .d x :: r => match unDs r with | some xs => some (x :: xs) | none => none
  | _ :: _ => none
noncomputable def unFs : List AV → Option (List Nat)
  | [] => some []
  | .fn x :: r => match unFs r with | some xs => some (x :: xs) | none => none
  | _ :: _ => none
noncomputable def unInts : List PyData → Option (List Int)
  | [] => some []
  | .int x :: r => match unInts r with | some xs => some (x :: xs) | none => none
  | _ :: _ => none
noncomputable def pairD (p : Int × Int) : PyData := .tuple [.int p.1, .int p.2]
@[reducible] def ltP (a b : Int × Int) : Prop := a.1 < b.1 ∨ (a.1 = b.1 ∧ a.2 < b.2)
inductive BinA (Q : AV → Prop) : Operator → AV → AV → Prop
  | add {x y : Int} (q : Q (.d (.int (x + y)))) : BinA Q .Add (.d (.int x)) (.d (.int y))
  | sub {x y : Int} (q : Q (.d (.int (x - y)))) : BinA Q .Sub (.d (.int x)) (.d (.int y))
  | mul {x y : Int} (h : -(2 ^ 63) < x ∧ x < 2 ^ 63) (q : Q (.d (.int (x * y)))) : BinA Q .Mult (.d (.int x)) (.d (.int y))
  | fdv {x y : Int} (h : y ≠ 0 ∧ y.natAbs < 1073741824) (q : Q (.d (.int (x.fdiv y)))) : BinA Q .FloorDiv (.d (.int x)) (.d (.int y))
  | mod {x y : Int} (h : y ≠ 0) (q : Q (.d (.int (x.fmod y)))) : BinA Q .Mod (.d (.int x)) (.d (.int y))
  | pow (q : Q (.d (.int 100000000000000000000))) : BinA Q .Pow (.d (.int 10)) (.d (.int 20))
noncomputable abbrev binA (op : Operator) (a b : AV) (Q : AV → Prop) : Prop := BinA Q op a b
noncomputable def datO : Option AO → Option PyData
  | some (.dat l) => some (.list l)
  | _ => none
noncomputable def dataIn (σ : H) : AV → Option PyData
  | .d x => some x
  | .obj k => datO (look σ k)
  | _ => none
noncomputable def eqOk (x : PyData) : Prop := x.canLay0 = true ∧ x.depth ≤ 60
noncomputable def isNone : AV → Bool
  | .d .none => true
  | _ => false
inductive OrdA (Q : Bool → Prop) : CmpOp → AV → AV → Prop
  | ilt {x y : Int} (q : Q (decide (x < y))) : OrdA Q .Lt (.d (.int x)) (.d (.int y))
  | igt {x y : Int} (q : Q (decide (y < x))) : OrdA Q .Gt (.d (.int x)) (.d (.int y))
  | ile {x y : Int} (q : Q (decide (x ≤ y))) : OrdA Q .LtE (.d (.int x)) (.d (.int y))
  | ige {x y : Int} (q : Q (decide (y ≤ x))) : OrdA Q .GtE (.d (.int x)) (.d (.int y))
  | slt {x y : Str} (q : Q (decide (x.cps.toList < y.cps.toList))) : OrdA Q .Lt (.d (.str x)) (.d (.str y))
  | sgt {x y : Str} (q : Q (decide (y.cps.toList < x.cps.toList))) : OrdA Q .Gt (.d (.str x)) (.d (.str y))
  | plt {a b c d : Int} (q : Q (decide (ltP (a, b) (c, d)))) : OrdA Q .Lt (.d (.tuple [.int a, .int b])) (.d (.tuple [.int c, .int d]))
  | pgt {a b c d : Int} (q : Q (decide (ltP (c, d) (a, b)))) : OrdA Q .Gt (.d (.tuple [.int a, .int b])) (.d (.tuple [.int c, .int d]))
noncomputable abbrev ordA (op : CmpOp) (a b : AV) (Q : Bool → Prop) : Prop := OrdA Q op a b
inductive InA (σ : H) (Q : Bool → Prop) : AV → AV → Prop
  | set {k : Nat} {l : List Int} {x : Int} (e : look σ k = some (.iset l)) (q : Q (decide (x ∈ l))) : InA σ Q (.d (.int x)) (.obj k)
  | lst {x : PyData} {xs : List PyData} (h1 : eqOk x) (h2 : eqOk (.list xs)) (q : Q (xs.any fun y => PyData.eqv y x)) : InA σ Q (.d x) (.d (.list xs))
noncomputable abbrev inA (a b : AV) (σ : H) (Q : Bool → Prop) : Prop := InA σ Q a b
inductive CmpA (σ : H) (Q : Bool → Prop) : CmpOp → AV → AV → Prop
  | eq {a b : AV} {x y : PyData} (ea : dataIn σ a = some x) (eb : dataIn σ b = some y) (h1 : eqOk x) (h2 : eqOk y) (q : Q (PyData.eqv x y)) : CmpA σ Q .Eq a b
  | ne {a b : AV} {x y : PyData} (ea : dataIn σ a = some x) (eb : dataIn σ b = some y) (h1 : eqOk x) (h2 : eqOk y) (q : Q (!PyData.eqv x y)) : CmpA σ Q .NotEq a b
  | is {a : AV} (u : a ≠ .un) (q : Q (isNone a)) : CmpA σ Q .Is a (.d .none)
  | mem {a b : AV} (h : inA a b σ Q) : CmpA σ Q .In a b
  | nmem {a b : AV} (h : inA a b σ fun t => Q (!t)) : CmpA σ Q .NotIn a b
  | ord {op : CmpOp} {a b : AV} (h : ordA op a b Q) : CmpA σ Q op a b
noncomputable abbrev cmpA (op : CmpOp) (a b : AV) (σ : H) (Q : Bool → Prop) : Prop := CmpA σ Q op a b
noncomputable def boolA (a : AV) (Q : Bool → Prop) : Prop := match a with
  | .d (.bool b) => Q b
  | _ => False
inductive SubA (σ : H) (Q : AV → Prop) : AV → AV → Prop
  | lst {xs : List PyData} {j : Int} {x : PyData} (hl : xs.length < 2 ^ 20) (e : getI xs j = some x) (q : Q (.d x)) : SubA σ Q (.d (.list xs)) (.d (.int j))
  | tup {xs : List PyData} {j : Int} {x : PyData} (hl : xs.length < 2 ^ 20) (e : getI xs j = some x) (q : Q (.d x)) : SubA σ Q (.d (.tuple xs)) (.d (.int j))
  | dat {k : Nat} {xs : List PyData} {j : Int} {x : PyData} (h : look σ k = some (.dat xs)) (hl : xs.length < 2 ^ 20) (e : getI xs j = some x) (q : Q (.d x)) : SubA σ Q (.obj k) (.d (.int j))
  | mix {k : Nat} {xs : List AV} {j : Int} {x : AV} (h : look σ k = some (.mix xs)) (hl : xs.length < 2 ^ 20) (e : getI xs j = some x) (q : Q x) : SubA σ Q (.obj k) (.d (.int j))
noncomputable abbrev subA (o i : AV) (σ : H) (Q : AV → Prop) : Prop := SubA σ Q o i
inductive SlcA (σ : H) (Q : AV → Prop) : AV → AV → AV → AV → Prop
  | to {o : AV} {xs : List PyData} {h : Nat} (e : dataIn σ o = some (.list xs)) (hl : xs.length < 2 ^ 20) (q : Q (.d (.list (xs.take h)))) : SlcA σ Q o .un (.d (.int h)) .un
  | frm {o : AV} {xs : List PyData} {l : Nat} (e : dataIn σ o = some (.list xs)) (hl : xs.length < 2 ^ 20) (q : Q (.d (.list (xs.drop l)))) : SlcA σ Q o (.d (.int l)) .un .un
  | rev {o : AV} {xs : List PyData} (e : dataIn σ o = some (.list xs)) (hl : xs.length < 2 ^ 20) (q : Q (.d (.list xs.reverse))) : SlcA σ Q o .un .un (.d (.int (-1)))
noncomputable abbrev slcA (o lo hi st : AV) (σ : H) (Q : AV → Prop) : Prop := SlcA σ Q o lo hi st
inductive AttrA (tb : Tb) (σ : H) (Q : AV → Prop) : AV → Nat → Prop
  | mk {c k a : Nat} {l : List (Nat × AV)} {v : AV} (h : look σ k = some (.ns l)) (e : l.lookup a = some v) (t : tb.att c a = true) (u : v ≠ .un) (q : Q v) : AttrA tb σ Q (.ins c k) a
noncomputable abbrev attrA (tb : Tb) (o : AV) (a : Nat) (σ : H) (Q : AV → Prop) : Prop := AttrA tb σ Q o a
noncomputable def tupA (vs : List AV) (Q : AV → Prop) : Prop := match unDs vs with
  | some xs => Q (.d (.tuple xs))
  | none => False
noncomputable def lstA (k : Nat) (vs : List AV) (σ : H) (Q : AV → H → Prop) : Prop := match k with
  | 0 => match unDs vs with
    | some xs => Q (.d (.list xs)) σ
    | none => match unFs vs with
      | some l => Q (.fns l) σ
      | none => False
  | k + 1 => look σ (k + 1) = none ∧ match unDs vs with
    | some xs => Q (.obj (k + 1)) ((k + 1, .dat xs) :: σ)
    | none => Q (.obj (k + 1)) ((k + 1, .mix vs) :: σ)
noncomputable def sizeOk (l : List PyData) : Prop := l.length < 2 ^ 20
inductive LenA (σ : H) (Q : AV → Prop) : List AV → Prop
  | mk {o : AV} {xs : List PyData} (e : dataIn σ o = some (.list xs)) (hl : xs.length < 2 ^ 20) (q : Q (.d (.int xs.length))) : LenA σ Q [o]
noncomputable abbrev lenA (vs : List AV) (σ : H) (Q : AV → Prop) : Prop := LenA σ Q vs
inductive MklA (σ : H) (Q : AV → H → Prop) : Nat → List AV → Prop
  | zero {o : AV} {xs : List PyData} (e : dataIn σ o = some (.list xs)) (hl : xs.length < 2 ^ 20) (q : Q (.d (.list xs)) σ) : MklA σ Q 0 [o]
  | succ {k : Nat} {o : AV} {xs : List PyData} (e : dataIn σ o = some (.list xs)) (hl : xs.length < 2 ^ 20) (f : look σ (k + 1) = none) (q : Q (.obj (k + 1)) ((k + 1, .dat xs) :: σ)) : MklA σ Q (k + 1) [o]
noncomputable abbrev mklA (k : Nat) (vs : List AV) (σ : H) (Q : AV → H → Prop) : Prop := MklA σ Q k vs
inductive SrtA (Q : AV → Prop) : List AV → Prop
  | mk {ps : List (Int × Int)} (hl : ps.length ≤ 4) (q : ∀ ys : List (Int × Int), ys.Perm ps → ys.Pairwise (fun a b => ¬ ltP b a) → Q (.d (.list (ys.map pairD)))) : SrtA Q [.d (.list (ps.map pairD))]
noncomputable abbrev srtA (vs : List AV) (Q : AV → Prop) : Prop := SrtA Q vs
inductive SetA (σ : H) (Q : AV → H → Prop) : Nat → List AV → Prop
  | mk {k : Nat} (h : look σ k = none) (q : Q (.obj k) ((k, .iset []) :: σ)) : SetA σ Q k []
noncomputable abbrev setA (k : Nat) (vs : List AV) (σ : H) (Q : AV → H → Prop) : Prop := SetA σ Q k vs
noncomputable def rangeL (lo hi st : Int) : List Int :=
  if st = 1 then (List.range (hi - lo).toNat).map fun (i : Nat) => lo + i
  else if st = 2 then (List.range ((hi - lo + 1) / 2).toNat).map fun (i : Nat) => lo + 2 * i
  else if st = -1 then (List.range (lo - hi).toNat).map fun (i : Nat) => lo - i
  else []
noncomputable def small (x : Int) : Prop := -(2 ^ 40) < x ∧ x < 2 ^ 40
inductive RngA (Q : AV → Prop) : List AV → Prop
  | one {h : Int} (s : small h) (q : Q (.rng 0 h 1)) : RngA Q [.d (.int h)]
  | two {l h : Int} (s : small l) (s2 : small h) (q : Q (.rng l h 1)) : RngA Q [.d (.int l), .d (.int h)]
  | three {l h c : Int} (s : small l) (s2 : small h) (s3 : c = 1 ∨ c = 2 ∨ c = -1) (q : Q (.rng l h c)) : RngA Q [.d (.int l), .d (.int h), .d (.int c)]
noncomputable abbrev rngA (vs : List AV) (Q : AV → Prop) : Prop := RngA Q vs
noncomputable def itsA (v : AV) (Q : List AV → Prop) : Prop := match v with
  | .d (.list xs) => xs.length < 2 ^ 20 ∧ Q (xs.map .d)
  | .d (.tuple xs) => xs.length < 2 ^ 20 ∧ Q (xs.map .d)
  | .fns l => l.length < 2 ^ 20 ∧ Q (l.map .fn)
  | .rng a b c => (rangeL a b c).length < 2 ^ 20 ∧ Q ((rangeL a b c).map fun i => .d (.int i))
  | _ => False
noncomputable def callA (tb : Tb) (C : CallT) (f : AV) (k : Nat) (vs : List AV) (σ : H) (Q : AV → H → Prop) : Prop := match f with
  | .fn i => match tb.glo i with
    | some (.fn f) => C f vs σ Q
    | some (.cls c) => match tb.ini c with
      | some f => look σ k = none ∧ C f (.ins c k :: vs) ((k, .ns []) :: σ) fun r σ' => r = .d .none ∧ Q (.ins c k) σ'
      | none => False
    | some .len => lenA vs σ fun v => Q v σ
    | some .list => mklA k vs σ Q
    | some .sorted => srtA vs fun v => Q v σ
    | some .set => setA k vs σ Q
    | some .range => rngA vs fun v => Q v σ
    | _ => False
  | _ => False
inductive MethT (tb : Tb) (σ : H) : AV → Nat → Prop
  | mk {c k m f : Nat} {l : List (Nat × AV)} (h : look σ k = some (.ns l)) (t : tb.meth c m = some f) (e : l.lookup m = none) : MethT tb σ (.ins c k) m
noncomputable abbrev methT (tb : Tb) (o : AV) (m : Nat) (σ : H) : Prop := MethT tb σ o m
noncomputable def methA (tb : Tb) (C : CallT) (o : AV) (m : Nat) (vs : List AV) (σ : H) (Q : AV → H → Prop) : Prop := match o with
  | .ins c k => match tb.meth c m with
    | some f => C f (.ins c k :: vs) σ Q
    | none => False
  | _ => False
noncomputable def insI (l : List (List Int × Int)) (k : List Int) (v : Int) : List (List Int × Int) := match l with
  | [] => [(k, v)]
  | p :: r => if p.1 = k then (k, v) :: r else p :: insI r k v
noncomputable def insS (l : List (Str × Int)) (k : Str) (v : Int) : List (Str × Int) := match l with
  | [] => [(k, v)]
  | p :: r => if p.1 = k then (k, v) :: r else p :: insS r k v
inductive BmA (σ : H) (Q : AV → H → Prop) : AV → BM → List AV → Prop
  | app {k : Nat} {l : List PyData} {x : PyData} (h : look σ k = some (.dat l)) (hl : l.length < 2 ^ 20) (q : Q (.d .none) (put σ k (.dat (l ++ [x])))) : BmA σ Q (.obj k) .append [.d x]
  | pop {k : Nat} {l : List PyData} {x : PyData} (h : look σ k = some (.dat (l ++ [x]))) (hl : l.length + 1 < 2 ^ 20) (q : Q (.d x) (put σ k (.dat l))) : BmA σ Q (.obj k) .pop []
  | ext {k : Nat} {l ys : List PyData} (h : look σ k = some (.dat l)) (hl : l.length + ys.length < 2 ^ 20) (q : Q (.d .none) (put σ k (.dat (l ++ ys)))) : BmA σ Q (.obj k) .extend [.d (.list ys)]
  | gets {k : Nat} {l : List (Str × Int)} {x : Str} {z : Int} (h : look σ k = some (.dstr l)) (q : Q (.d (.int ((l.lookup x).getD z))) σ) : BmA σ Q (.obj k) .get [.d (.str x), .d (.int z)]
  | gett {k : Nat} {l : List (List Int × Int)} {ys : List PyData} {ns : List Int} {z : Int} (h : look σ k = some (.dtup l)) (e : unInts ys = some ns) (q : Q (.d (.int ((l.lookup ns).getD z))) σ) : BmA σ Q (.obj k) .get [.d (.tuple ys), .d (.int z)]
  | add {k : Nat} {l : List Int} {x : Int} (h : look σ k = some (.iset l)) (hl : l.length < 4000) (q : Q (.d .none) (put σ k (.iset (if x ∈ l then l else l ++ [x])))) : BmA σ Q (.obj k) .add [.d (.int x)]
noncomputable abbrev bmA (o : AV) (m : BM) (vs : List AV) (σ : H) (Q : AV → H → Prop) : Prop := BmA σ Q o m vs
inductive BmT (σ : H) : AV → BM → Prop
  | app {k : Nat} {l : List PyData} (h : look σ k = some (.dat l)) : BmT σ (.obj k) .append
  | pop {k : Nat} {l : List PyData} (h : look σ k = some (.dat l)) : BmT σ (.obj k) .pop
  | ext {k : Nat} {l : List PyData} (h : look σ k = some (.dat l)) : BmT σ (.obj k) .extend
  | gets {k : Nat} {l : List (Str × Int)} (h : look σ k = some (.dstr l)) : BmT σ (.obj k) .get
  | gett {k : Nat} {l : List (List Int × Int)} (h : look σ k = some (.dtup l)) : BmT σ (.obj k) .get
  | add {k : Nat} {l : List Int} (h : look σ k = some (.iset l)) : BmT σ (.obj k) .add
noncomputable abbrev bmT (v : AV) (m : BM) (σ : H) : Prop := BmT σ v m
noncomputable def fnT (tb : Tb) (f : AV) (P : Prop) : Prop := match f with
  | .fn i => match tb.glo i with
    | some (.dat _) => False
    | some _ => P
    | none => False
  | _ => False
noncomputable def augA (op : Operator) (P : Prop) : Prop := match op with
  | .Add => P
  | _ => False
noncomputable def compA (F : AV → H → (Option AV → H → Prop) → Prop) : List AV → List PyData → H → (AV → H → Prop) → Prop
  | [], acc, σ, Q => Q (.d (.list acc)) σ
  | x :: xs, acc, σ, Q => F x σ fun r σ' => match r with
    | some (.d y) => compA F xs (acc ++ [y]) σ' Q
    | some _ => False
    | none => compA F xs acc σ' Q
mutual
noncomputable def ev (tb : Tb) (C : CallT) : E → List AV → H → (AV → H → Prop) → Prop
  | .con c, _, σ, Q => match c with
    | .int i => Q (.d (.int i)) σ
    | .bool b => Q (.d (.bool b)) σ
    | .none => Q (.d .none) σ
    | .str s => Q (.d (.str s)) σ
    | _ => False
  | .loc i, l, σ, Q => match l[i]? with
    | some .un => False
    | some v => Q v σ
    | none => False
  | .glo i, _, σ, Q => match tb.glo i with
    | some (.dat x) => Q (.d x) σ
    | some _ => Q (.fn i) σ
    | none => False
  | .attr o a, l, σ, Q => ev tb C o l σ fun v σ' => attrA tb v a σ' fun r => Q r σ'
  | .bin op a b, l, σ, Q => ev tb C a l σ fun x σ1 => ev tb C b l σ1 fun y σ2 => binA op x y fun r => Q r σ2
  | .neg a, l, σ, Q => ev tb C a l σ fun x σ1 => match x with
    | .d (.int i) => Q (.d (.int (-i))) σ1
    | _ => False
  | .not a, l, σ, Q => ev tb C a l σ fun x σ1 => boolA x fun b => Q (.d (.bool (!b))) σ1
  | .cmp op a b, l, σ, Q => ev tb C a l σ fun x σ1 => ev tb C b l σ1 fun y σ2 => cmpA op x y σ2 fun r => Q (.d (.bool r)) σ2
  | .bop t xs, l, σ, Q => evb tb C t xs l σ fun r σ1 => Q (.d (.bool r)) σ1
  | .ife c a b, l, σ, Q => ev tb C c l σ fun x σ1 => boolA x fun t => match t with
    | true => ev tb C a l σ1 Q
    | false => ev tb C b l σ1 Q
  | .sub o i, l, σ, Q => ev tb C o l σ fun x σ1 => ev tb C i l σ1 fun y σ2 => subA x y σ2 fun r => Q r σ2
  | .slc o lo hi st, l, σ, Q => ev tb C o l σ fun x σ1 => ev tb C lo l σ1 fun a σ2 => ev tb C hi l σ2 fun b σ3 => ev tb C st l σ3 fun c σ4 => slcA x a b c σ4 fun r => Q r σ4
  | .no, _, σ, Q => Q .un σ
  | .tup xs, l, σ, Q => evs tb C xs l σ fun vs σ1 => tupA vs fun r => Q r σ1
  | .lst k xs, l, σ, Q => evs tb C xs l σ fun vs σ1 => lstA k vs σ1 Q
  | .dic k t, _, σ, Q => look σ k = none ∧ Q (.obj k) ((k, if t then .dtup [] else .dstr []) :: σ)
  | .nil, _, _, _ => False
  | .cons _ _, _, _, _ => False
  | .call f k xs, l, σ, Q => ev tb C f l σ fun g σ1 => fnT tb g (evs tb C xs l σ1 fun vs σ2 => callA tb C g k vs σ2 Q)
  | .meth o m xs, l, σ, Q => ev tb C o l σ fun v σ1 => methT tb v m σ1 ∧ evs tb C xs l σ1 fun vs σ2 => methA tb C v m vs σ2 Q
  | .bm o m xs, l, σ, Q => ev tb C o l σ fun v σ1 => bmT v m σ1 ∧ evs tb C xs l σ1 fun vs σ2 => bmA v m vs σ2 Q
  | .comp elt src cnd i, l, σ, Q => ev tb C src l σ fun v σ1 => itsA v fun xs => compA (fun x σ' k => evb tb C true cnd (l.set i x) σ' fun t σ2 => match t with
      | true => ev tb C elt (l.set i x) σ2 fun y σ3 => k (some y) σ3
      | false => k none σ2) xs [] σ1 Q
noncomputable def evs (tb : Tb) (C : CallT) : E → List AV → H → (List AV → H → Prop) → Prop
  | .nil, _, σ, Q => Q [] σ
  | .cons a b, l, σ, Q => ev tb C a l σ fun v σ1 => evs tb C b l σ1 fun vs σ2 => Q (v :: vs) σ2
  | _, _, _, _ => False
noncomputable def evb (tb : Tb) (C : CallT) : Bool → E → List AV → H → (Bool → H → Prop) → Prop
  | t, .nil, _, σ, Q => Q t σ
  | t, .cons a b, l, σ, Q => ev tb C a l σ fun v σ1 => boolA v fun r => match t, r with
    | true, true => evb tb C t b l σ1 Q
    | true, false => Q false σ1
    | false, true => Q true σ1
    | false, false => evb tb C t b l σ1 Q
  | _, _, _, _, _ => False
end
set_option genInjectivity false in
set_option genSizeOf false in
set_option genSizeOfSpec false in
inductive Fl where
  | next | cont | ret (v : AV)
noncomputable def forA (F : AV → List AV → H → (Fl → List AV → H → Prop) → Prop) : List AV → List AV → H → (Fl → List AV → H → Prop) → Prop
  | [], l, σ, Q => Q .next l σ
  | x :: xs, l, σ, Q => F x l σ fun f l' σ' => match f with
    | .next => forA F xs l' σ' Q
    | .cont => forA F xs l' σ' Q
    | .ret v => Q (.ret v) l' σ'
noncomputable def whA (T : List AV → H → (Bool → H → Prop) → Prop) (F : List AV → H → (Fl → List AV → H → Prop) → Prop) : Nat → List AV → H → (Fl → List AV → H → Prop) → Prop
  | 0, _, _, _ => False
  | n + 1, l, σ, Q => T l σ fun t σ1 => match t with
    | false => Q .next l σ1
    | true => F l σ1 fun f l' σ' => match f with
      | .next => whA T F n l' σ' Q
      | .cont => whA T F n l' σ' Q
      | .ret v => Q (.ret v) l' σ'
noncomputable def setNs (l : List (Nat × AV)) (a : Nat) (v : AV) : List (Nat × AV) := match l with
  | [] => [(a, v)]
  | p :: r => if p.1 = a then (a, v) :: r else p :: setNs r a v
inductive AsgaA (tb : Tb) (v : AV) (σ : H) (Q : H → Prop) : AV → Nat → Prop
  | mk {c k a : Nat} {l : List (Nat × AV)} (h : look σ k = some (.ns l)) (hl : l.length < 100) (t : tb.att c a = true) (q : Q (put σ k (.ns (setNs l a v)))) : AsgaA tb v σ Q (.ins c k) a
noncomputable abbrev asgaA (tb : Tb) (o : AV) (a : Nat) (v : AV) (σ : H) (Q : H → Prop) : Prop := AsgaA tb v σ Q o a
inductive AsgsA (σ : H) (Q : H → Prop) : AV → AV → AV → Prop
  | dat {k j : Nat} {l : List PyData} {x : PyData} (h : look σ k = some (.dat l)) (hj : j < l.length) (hl : l.length < 2 ^ 20) (q : Q (put σ k (.dat (l.set j x)))) : AsgsA σ Q (.obj k) (.d (.int j)) (.d x)
  | mix {k j : Nat} {l : List AV} {v : AV} (h : look σ k = some (.mix l)) (hj : j < l.length) (hl : l.length < 2 ^ 20) (u : v ≠ .un) (q : Q (put σ k (.mix (l.set j v)))) : AsgsA σ Q (.obj k) (.d (.int j)) v
  | dstr {k : Nat} {l : List (Str × Int)} {s : Str} {x : Int} (h : look σ k = some (.dstr l)) (hl : l.length < 1000) (q : Q (put σ k (.dstr (insS l s x)))) : AsgsA σ Q (.obj k) (.d (.str s)) (.d (.int x))
  | dtup {k : Nat} {l : List (List Int × Int)} {ys : List PyData} {ns : List Int} {x : Int} (h : look σ k = some (.dtup l)) (e : unInts ys = some ns) (hl : l.length < 1000) (q : Q (put σ k (.dtup (insI l ns x)))) : AsgsA σ Q (.obj k) (.d (.tuple ys)) (.d (.int x))
noncomputable abbrev asgsA (o i v : AV) (σ : H) (Q : H → Prop) : Prop := AsgsA σ Q o i v
noncomputable def unp2A (v : AV) (Q : PyData → PyData → Prop) : Prop := match v with
  | .d (.tuple [x, y]) => Q x y
  | _ => False
inductive FrzA (l : List AV) (i : Nat) (own : List Nat) (σ : H) (Q : List AV → H → Prop) : Prop
  | mk {k : Nat} {xs : List PyData} (e : l[i]? = some (.obj k)) (h : look σ k = some (.dat xs)) (ho : k ∈ own) (hn : ∀ (j : Nat) (v : AV), (l.set i .un)[j]? = some v → k ∉ v.refs) (hc : ClosedH (del σ k)) (q : Q (l.set i (.d (.list xs))) (del σ k)) : FrzA l i own σ Q
noncomputable abbrev frzA (l : List AV) (i : Nat) (own : List Nat) (σ : H) (Q : List AV → H → Prop) : Prop := FrzA l i own σ Q
noncomputable def retA (dr own : List Nat) (v : AV) (σ : H) (Q : AV → H → Prop) : Prop := match dr with
  | [] => Q v σ
  | _ :: _ => (∀ k ∈ dr, k ∈ own) ∧ ClosedH (dels σ dr) ∧ LiveV (dels σ dr) v ∧ Q v (dels σ dr)
noncomputable def tst (tb : Tb) (C : CallT) (e : E) (l : List AV) (σ : H) (Q : Bool → H → Prop) : Prop := ev tb C e l σ fun v σ' => boolA v fun b => Q b σ'
noncomputable def ex (tb : Tb) (C : CallT) (own : List Nat) : S → List AV → H → (Fl → List AV → H → Prop) → Prop
  | .done, l, σ, Q => Q .next l σ
  | .asg i e r, l, σ, Q => ev tb C e l σ fun v σ1 => ex tb C own r (l.set i v) σ1 Q
  | .asga o a e r, l, σ, Q => ev tb C e l σ fun v σ1 => ev tb C o l σ1 fun x σ2 => asgaA tb x a v σ2 fun σ3 => ex tb C own r l σ3 Q
  | .asgs o i e r, l, σ, Q => ev tb C e l σ fun v σ1 => ev tb C o l σ1 fun x σ2 => ev tb C i l σ2 fun y σ3 => asgsA x y v σ3 fun σ4 => ex tb C own r l σ4 Q
  | .unp i j e r, l, σ, Q => ev tb C e l σ fun v σ1 => unp2A v fun x y => ex tb C own r ((l.set i (.d x)).set j (.d y)) σ1 Q
  | .aug i op e r, l, σ, Q => ev tb C (.loc i) l σ fun x σ1 => ev tb C e l σ1 fun y σ2 => augA op (binA op x y fun v => ex tb C own r (l.set i v) σ2 Q)
  | .augs o i op e r, l, σ, Q => ev tb C o l σ fun x σ1 => ev tb C i l σ1 fun y σ2 => subA x y σ2 fun z => ev tb C e l σ2 fun w σ3 => augA op (binA op z w fun v => asgsA x y v σ3 fun σ4 => ex tb C own r l σ4 Q)
  | .exp e r, l, σ, Q => ev tb C e l σ fun _ σ1 => ex tb C own r l σ1 Q
  | .ite c a b r, l, σ, Q => tst tb C c l σ fun t σ1 => match t with
    | true => ex tb C own a l σ1 fun f l' σ' => match f with
      | .next => ex tb C own r l' σ' Q
      | f => Q f l' σ'
    | false => ex tb C own b l σ1 fun f l' σ' => match f with
      | .next => ex tb C own r l' σ' Q
      | f => Q f l' σ'
  | .whl c b r, l, σ, Q => ∃ n, whA (tst tb C c) (ex tb C own b) n l σ fun f l' σ' => match f with
      | .next => ex tb C own r l' σ' Q
      | f => Q f l' σ'
  | .for i src b r, l, σ, Q => ev tb C src l σ fun v σ1 => itsA v fun xs => forA (fun x l σ k => ex tb C own b (l.set i x) σ k) xs l σ1 fun f l' σ' => match f with
      | .next => ex tb C own r l' σ' Q
      | f => Q f l' σ'
  | .ret e dr, l, σ, Q => ev tb C e l σ fun v σ1 => retA dr own v σ1 fun v' σ2 => Q (.ret v') l σ2
  | .cont, l, σ, Q => Q .cont l σ
  | .raw _, _, _, _ => False
  | .frz i r, l, σ, Q => frzA l i own σ fun l' σ' => ex tb C own r l' σ' Q
structure FD where
  np : Nat
  ns : Nat
  dflt : List PyData
  own : List Nat
  body : S
noncomputable def initL (f : FD) (args : List AV) : List AV := (args ++ (f.dflt.drop (args.length + f.dflt.length - f.np)).map .d) ++ List.replicate (f.ns - f.np) .un
noncomputable def callF (tb : Tb) (fd : Nat → Option FD) : Nat → CallT
  | 0, _, _, _, _ => False
  | n + 1, f, args, σ, Q => match fd f with
    | none => False
    | some F => args.length ≤ F.np ∧ F.np ≤ args.length + F.dflt.length ∧ (∀ k ∈ F.own, look σ k = none) ∧
      ex tb (callF tb fd n) F.own F.body (initL F args) σ fun f _ σ' => match f with
        | .ret v => Q v σ'
        | .next => Q (.d .none) σ'
        | .cont => False
theorem ft {P : Prop} (h : false = true) : P := Bool.noConfusion h
theorem al {a b : Bool} (h : (a && b) = true) : a = true := (Bool.and_eq_true_iff.mp h).1
theorem ar {a b : Bool} (h : (a && b) = true) : b = true := (Bool.and_eq_true_iff.mp h).2
theorem dq {P : Prop} [Decidable P] (h : decide P = true) : P := of_decide_eq_true h
@[elab_as_elim] theorem onC_i {α : Type} {l : List α} {f : α → List α → Bool} {G : List α → Prop} (h : onC l f = true) (k : ∀ a r, f a r = true → G (a :: r)) : G l := match l, h with
  | [], h => ft h
  | a :: r, h => k a r h
@[elab_as_elim] theorem on1_i {α : Type} {l : List α} {f : α → Bool} {G : List α → Prop} (h : on1 l f = true) (k : ∀ a, f a = true → G [a]) : G l := onC_i h fun a r h => match r, h with
  | [], h => k a (ar h)
  | _ :: _, h => ft h
@[elab_as_elim] theorem onO_i {α : Type} {l : Option α} {f : α → Bool} {G : Option α → Prop} (h : onO l f = true) (k : ∀ a, f a = true → G (some a)) : G l := match l, h with
  | none, h => ft h
  | some a, h => k a h
@[elab_as_elim] theorem isE_i {α : Type} {l : List α} {G : List α → Prop} (h : l.isEmpty = true) (k : G []) : G l := match l, h with
  | [], _ => k
  | _ :: _, h => ft h
@[elab_as_elim] theorem vCon_i {x : PySem.Expr} {f : Const → Bool} {G : PySem.Expr → Prop} (h : vCon x f = true) (k : ∀ (a0 : PySem.Const) (a1 : Nat) (a2 : PySem.Pos), f a0 = true → G (.Constant a0 a1 a2)) : G x := @PySem.Expr.casesOn (fun x => vCon x f = true → G x) x (fun _ _ _ => ft) (fun _ _ _ => ft) (fun _ _ _ _ => ft) (fun _ _ _ => ft) (fun _ _ _ _ => ft) (fun _ _ _ _ => ft) (fun _ _ _ => ft) (fun _ _ _ => ft) (fun _ _ _ _ => ft) (fun _ _ _ _ => ft) (fun _ _ _ _ _ => ft) (fun _ _ _ _ => ft) (fun _ _ => ft) (fun _ _ => ft) (fun _ _ => ft) (fun _ _ _ _ => ft) (fun _ _ _ _ => ft) (fun _ _ _ _ => ft) (fun _ _ => ft) (fun a0 a1 a2 h => k a0 a1 a2 h) (fun _ _ _ => ft) (fun _ _ _ => ft) (fun _ _ => ft) (fun _ _ => ft) (fun _ _ => ft) (fun _ _ _ => ft) (fun _ _ _ _ => ft) h
@[elab_as_elim] theorem vNm_i {x : PySem.Expr} {f : Str → Bool} {G : PySem.Expr → Prop} (h : vNm x f = true) (k : ∀ (a0 : PySem.Str) (a1 : PySem.Pos), f a0 = true → G (.Name a0 a1)) : G x := @PySem.Expr.casesOn (fun x => vNm x f = true → G x) x (fun _ _ _ => ft) (fun _ _ _ => ft) (fun _ _ _ _ => ft) (fun _ _ _ => ft) (fun _ _ _ _ => ft) (fun _ _ _ _ => ft) (fun _ _ _ => ft) (fun _ _ _ => ft) (fun _ _ _ _ => ft) (fun _ _ _ _ => ft) (fun _ _ _ _ _ => ft) (fun _ _ _ _ => ft) (fun _ _ => ft) (fun _ _ => ft) (fun _ _ => ft) (fun _ _ _ _ => ft) (fun _ _ _ _ => ft) (fun _ _ _ _ => ft) (fun _ _ => ft) (fun _ _ _ => ft) (fun _ _ _ => ft) (fun _ _ _ => ft) (fun _ _ => ft) (fun a0 a1 h => k a0 a1 h) (fun _ _ => ft) (fun _ _ _ => ft) (fun _ _ _ _ => ft) h
@[elab_as_elim] theorem vAt_i {x : PySem.Expr} {f : Expr → Str → Pos → Bool} {G : PySem.Expr → Prop} (h : vAt x f = true) (k : ∀ (a0 : PySem.Expr) (a1 : PySem.Str) (a2 : PySem.Pos), f a0 a1 a2 = true → G (.Attribute a0 a1 a2)) : G x := @PySem.Expr.casesOn (fun x => vAt x f = true → G x) x (fun _ _ _ => ft) (fun _ _ _ => ft) (fun _ _ _ _ => ft) (fun _ _ _ => ft) (fun _ _ _ _ => ft) (fun _ _ _ _ => ft) (fun _ _ _ => ft) (fun _ _ _ => ft) (fun _ _ _ _ => ft) (fun _ _ _ _ => ft) (fun _ _ _ _ _ => ft) (fun _ _ _ _ => ft) (fun _ _ => ft) (fun _ _ => ft) (fun _ _ => ft) (fun _ _ _ _ => ft) (fun _ _ _ _ => ft) (fun _ _ _ _ => ft) (fun _ _ => ft) (fun _ _ _ => ft) (fun a0 a1 a2 h => k a0 a1 a2 h) (fun _ _ _ => ft) (fun _ _ => ft) (fun _ _ => ft) (fun _ _ => ft) (fun _ _ _ => ft) (fun _ _ _ _ => ft) h
@[elab_as_elim] theorem vBin_i {x : PySem.Expr} {f : Expr → Operator → Expr → Bool} {G : PySem.Expr → Prop} (h : vBin x f = true) (k : ∀ (a0 : PySem.Expr) (a1 : PySem.Operator) (a2 : PySem.Expr) (a3 : PySem.Pos), f a0 a1 a2 = true → G (.BinOp a0 a1 a2 a3)) : G x := @PySem.Expr.casesOn (fun x => vBin x f = true → G x) x (fun _ _ _ => ft) (fun _ _ _ => ft) (fun a0 a1 a2 a3 h => k a0 a1 a2 a3 h) (fun _ _ _ => ft) (fun _ _ _ _ => ft) (fun _ _ _ _ => ft) (fun _ _ _ => ft) (fun _ _ _ => ft) (fun _ _ _ _ => ft) (fun _ _ _ _ => ft) (fun _ _ _ _ _ => ft) (fun _ _ _ _ => ft) (fun _ _ => ft) (fun _ _ => ft) (fun _ _ => ft) (fun _ _ _ _ => ft) (fun _ _ _ _ => ft) (fun _ _ _ _ => ft) (fun _ _ => ft) (fun _ _ _ => ft) (fun _ _ _ => ft) (fun _ _ _ => ft) (fun _ _ => ft) (fun _ _ => ft) (fun _ _ => ft) (fun _ _ _ => ft) (fun _ _ _ _ => ft) h
@[elab_as_elim] theorem vUn_i {x : PySem.Expr} {f : UnaryOp → Expr → Bool} {G : PySem.Expr → Prop} (h : vUn x f = true) (k : ∀ (a0 : PySem.UnaryOp) (a1 : PySem.Expr) (a2 : PySem.Pos), f a0 a1 = true → G (.UnaryOp a0 a1 a2)) : G x := @PySem.Expr.casesOn (fun x => vUn x f = true → G x) x (fun _ _ _ => ft) (fun _ _ _ => ft) (fun _ _ _ _ => ft) (fun a0 a1 a2 h => k a0 a1 a2 h) (fun _ _ _ _ => ft) (fun _ _ _ _ => ft) (fun _ _ _ => ft) (fun _ _ _ => ft) (fun _ _ _ _ => ft) (fun _ _ _ _ => ft) (fun _ _ _ _ _ => ft) (fun _ _ _ _ => ft) (fun _ _ => ft) (fun _ _ => ft) (fun _ _ => ft) (fun _ _ _ _ => ft) (fun _ _ _ _ => ft) (fun _ _ _ _ => ft) (fun _ _ => ft) (fun _ _ _ => ft) (fun _ _ _ => ft) (fun _ _ _ => ft) (fun _ _ => ft) (fun _ _ => ft) (fun _ _ => ft) (fun _ _ _ => ft) (fun _ _ _ _ => ft) h
@[elab_as_elim] theorem vCmp_i {x : PySem.Expr} {f : Expr → List CmpOp → List Expr → Bool} {G : PySem.Expr → Prop} (h : vCmp x f = true) (k : ∀ (a0 : PySem.Expr) (a1 : List PySem.CmpOp) (a2 : List PySem.Expr) (a3 : PySem.Pos), f a0 a1 a2 = true → G (.Compare a0 a1 a2 a3)) : G x := @PySem.Expr.casesOn (fun x => vCmp x f = true → G x) x (fun _ _ _ => ft) (fun _ _ _ => ft) (fun _ _ _ _ => ft) (fun _ _ _ => ft) (fun _ _ _ _ => ft) (fun _ _ _ _ => ft) (fun _ _ _ => ft) (fun _ _ _ => ft) (fun _ _ _ _ => ft) (fun _ _ _ _ => ft) (fun _ _ _ _ _ => ft) (fun _ _ _ _ => ft) (fun _ _ => ft) (fun _ _ => ft) (fun _ _ => ft) (fun a0 a1 a2 a3 h => k a0 a1 a2 a3 h) (fun _ _ _ _ => ft) (fun _ _ _ _ => ft) (fun _ _ => ft) (fun _ _ _ => ft) (fun _ _ _ => ft) (fun _ _ _ => ft) (fun _ _ => ft) (fun _ _ => ft) (fun _ _ => ft) (fun _ _ _ => ft) (fun _ _ _ _ => ft) h
@[elab_as_elim] theorem vBo_i {x : PySem.Expr} {f : BoolOp → List Expr → Bool} {G : PySem.Expr → Prop} (h : vBo x f = true) (k : ∀ (a0 : PySem.BoolOp) (a1 : List PySem.Expr) (a2 : PySem.Pos), f a0 a1 = true → G (.BoolOp a0 a1 a2)) : G x := @PySem.Expr.casesOn (fun x => vBo x f = true → G x) x (fun a0 a1 a2 h => k a0 a1 a2 h) (fun _ _ _ => ft) (fun _ _ _ _ => ft) (fun _ _ _ => ft) (fun _ _ _ _ => ft) (fun _ _ _ _ => ft) (fun _ _ _ => ft) (fun _ _ _ => ft) (fun _ _ _ _ => ft) (fun _ _ _ _ => ft) (fun _ _ _ _ _ => ft) (fun _ _ _ _ => ft) (fun _ _ => ft) (fun _ _ => ft) (fun _ _ => ft) (fun _ _ _ _ => ft) (fun _ _ _ _ => ft) (fun _ _ _ _ => ft) (fun _ _ => ft) (fun _ _ _ => ft) (fun _ _ _ => ft) (fun _ _ _ => ft) (fun _ _ => ft) (fun _ _ => ft) (fun _ _ => ft) (fun _ _ _ => ft) (fun _ _ _ _ => ft) h
@[elab_as_elim] theorem vIf_i {x : PySem.Expr} {f : Expr → Expr → Expr → Bool} {G : PySem.Expr → Prop} (h : vIf x f = true) (k : ∀ (a0 : PySem.Expr) (a1 : PySem.Expr) (a2 : PySem.Expr) (a3 : PySem.Pos), f a0 a1 a2 = true → G (.IfExp a0 a1 a2 a3)) : G x := @PySem.Expr.casesOn (fun x => vIf x f = true → G x) x (fun _ _ _ => ft) (fun _ _ _ => ft) (fun _ _ _ _ => ft) (fun _ _ _ => ft) (fun _ _ _ _ => ft) (fun a0 a1 a2 a3 h => k a0 a1 a2 a3 h) (fun _ _ _ => ft) (fun _ _ _ => ft) (fun _ _ _ _ => ft) (fun _ _ _ _ => ft) (fun _ _ _ _ _ => ft) (fun _ _ _ _ => ft) (fun _ _ => ft) (fun _ _ => ft) (fun _ _ => ft) (fun _ _ _ _ => ft) (fun _ _ _ _ => ft) (fun _ _ _ _ => ft) (fun _ _ => ft) (fun _ _ _ => ft) (fun _ _ _ => ft) (fun _ _ _ => ft) (fun _ _ => ft) (fun _ _ => ft) (fun _ _ => ft) (fun _ _ _ => ft) (fun _ _ _ _ => ft) h
@[elab_as_elim] theorem vSub_i {x : PySem.Expr} {f : Expr → Expr → Bool} {G : PySem.Expr → Prop} (h : vSub x f = true) (k : ∀ (a0 : PySem.Expr) (a1 : PySem.Expr) (a2 : PySem.Pos), f a0 a1 = true → G (.Subscript a0 a1 a2)) : G x := @PySem.Expr.casesOn (fun x => vSub x f = true → G x) x (fun _ _ _ => ft) (fun _ _ _ => ft) (fun _ _ _ _ => ft) (fun _ _ _ => ft) (fun _ _ _ _ => ft) (fun _ _ _ _ => ft) (fun _ _ _ => ft) (fun _ _ _ => ft) (fun _ _ _ _ => ft) (fun _ _ _ _ => ft) (fun _ _ _ _ _ => ft) (fun _ _ _ _ => ft) (fun _ _ => ft) (fun _ _ => ft) (fun _ _ => ft) (fun _ _ _ _ => ft) (fun _ _ _ _ => ft) (fun _ _ _ _ => ft) (fun _ _ => ft) (fun _ _ _ => ft) (fun _ _ _ => ft) (fun a0 a1 a2 h => k a0 a1 a2 h) (fun _ _ => ft) (fun _ _ => ft) (fun _ _ => ft) (fun _ _ _ => ft) (fun _ _ _ _ => ft) h
@[elab_as_elim] theorem vSl_i {x : PySem.Expr} {f : Option Expr → Option Expr → Option Expr → Bool} {G : PySem.Expr → Prop} (h : vSl x f = true) (k : ∀ (a0 : Option PySem.Expr) (a1 : Option PySem.Expr) (a2 : Option PySem.Expr) (a3 : PySem.Pos), f a0 a1 a2 = true → G (.Slice a0 a1 a2 a3)) : G x := @PySem.Expr.casesOn (fun x => vSl x f = true → G x) x (fun _ _ _ => ft) (fun _ _ _ => ft) (fun _ _ _ _ => ft) (fun _ _ _ => ft) (fun _ _ _ _ => ft) (fun _ _ _ _ => ft) (fun _ _ _ => ft) (fun _ _ _ => ft) (fun _ _ _ _ => ft) (fun _ _ _ _ => ft) (fun _ _ _ _ _ => ft) (fun _ _ _ _ => ft) (fun _ _ => ft) (fun _ _ => ft) (fun _ _ => ft) (fun _ _ _ _ => ft) (fun _ _ _ _ => ft) (fun _ _ _ _ => ft) (fun _ _ => ft) (fun _ _ _ => ft) (fun _ _ _ => ft) (fun _ _ _ => ft) (fun _ _ => ft) (fun _ _ => ft) (fun _ _ => ft) (fun _ _ _ => ft) (fun a0 a1 a2 a3 h => k a0 a1 a2 a3 h) h
@[elab_as_elim] theorem vTup_i {x : PySem.Expr} {f : List Expr → Bool} {G : PySem.Expr → Prop} (h : vTup x f = true) (k : ∀ (a0 : List PySem.Expr) (a1 : Nat) (a2 : PySem.Pos), f a0 = true → G (.Tuple a0 a1 a2)) : G x := @PySem.Expr.casesOn (fun x => vTup x f = true → G x) x (fun _ _ _ => ft) (fun _ _ _ => ft) (fun _ _ _ _ => ft) (fun _ _ _ => ft) (fun _ _ _ _ => ft) (fun _ _ _ _ => ft) (fun _ _ _ => ft) (fun _ _ _ => ft) (fun _ _ _ _ => ft) (fun _ _ _ _ => ft) (fun _ _ _ _ _ => ft) (fun _ _ _ _ => ft) (fun _ _ => ft) (fun _ _ => ft) (fun _ _ => ft) (fun _ _ _ _ => ft) (fun _ _ _ _ => ft) (fun _ _ _ _ => ft) (fun _ _ => ft) (fun _ _ _ => ft) (fun _ _ _ => ft) (fun _ _ _ => ft) (fun _ _ => ft) (fun _ _ => ft) (fun _ _ => ft) (fun a0 a1 a2 h => k a0 a1 a2 h) (fun _ _ _ _ => ft) h
@[elab_as_elim] theorem vLst_i {x : PySem.Expr} {f : List Expr → Bool} {G : PySem.Expr → Prop} (h : vLst x f = true) (k : ∀ (a0 : List PySem.Expr) (a1 : PySem.Pos), f a0 = true → G (.List a0 a1)) : G x := @PySem.Expr.casesOn (fun x => vLst x f = true → G x) x (fun _ _ _ => ft) (fun _ _ _ => ft) (fun _ _ _ _ => ft) (fun _ _ _ => ft) (fun _ _ _ _ => ft) (fun _ _ _ _ => ft) (fun _ _ _ => ft) (fun _ _ _ => ft) (fun _ _ _ _ => ft) (fun _ _ _ _ => ft) (fun _ _ _ _ _ => ft) (fun _ _ _ _ => ft) (fun _ _ => ft) (fun _ _ => ft) (fun _ _ => ft) (fun _ _ _ _ => ft) (fun _ _ _ _ => ft) (fun _ _ _ _ => ft) (fun _ _ => ft) (fun _ _ _ => ft) (fun _ _ _ => ft) (fun _ _ _ => ft) (fun _ _ => ft) (fun _ _ => ft) (fun a0 a1 h => k a0 a1 h) (fun _ _ _ => ft) (fun _ _ _ _ => ft) h
@[elab_as_elim] theorem vDic_i {x : PySem.Expr} {f : List (Option Expr) → List Expr → Bool} {G : PySem.Expr → Prop} (h : vDic x f = true) (k : ∀ (a0 : List (Option PySem.Expr)) (a1 : List PySem.Expr) (a2 : PySem.Pos), f a0 a1 = true → G (.Dict a0 a1 a2)) : G x := @PySem.Expr.casesOn (fun x => vDic x f = true → G x) x (fun _ _ _ => ft) (fun _ _ _ => ft) (fun _ _ _ _ => ft) (fun _ _ _ => ft) (fun _ _ _ _ => ft) (fun _ _ _ _ => ft) (fun a0 a1 a2 h => k a0 a1 a2 h) (fun _ _ _ => ft) (fun _ _ _ _ => ft) (fun _ _ _ _ => ft) (fun _ _ _ _ _ => ft) (fun _ _ _ _ => ft) (fun _ _ => ft) (fun _ _ => ft) (fun _ _ => ft) (fun _ _ _ _ => ft) (fun _ _ _ _ => ft) (fun _ _ _ _ => ft) (fun _ _ => ft) (fun _ _ _ => ft) (fun _ _ _ => ft) (fun _ _ _ => ft) (fun _ _ => ft) (fun _ _ => ft) (fun _ _ => ft) (fun _ _ _ => ft) (fun _ _ _ _ => ft) h
@[elab_as_elim] theorem vCal_i {x : PySem.Expr} {f : Expr → List Expr → List Keyword → Pos → Bool} {G : PySem.Expr → Prop} (h : vCal x f = true) (k : ∀ (a0 : PySem.Expr) (a1 : List PySem.Expr) (a2 : List PySem.Keyword) (a3 : PySem.Pos), f a0 a1 a2 a3 = true → G (.Call a0 a1 a2 a3)) : G x := @PySem.Expr.casesOn (fun x => vCal x f = true → G x) x (fun _ _ _ => ft) (fun _ _ _ => ft) (fun _ _ _ _ => ft) (fun _ _ _ => ft) (fun _ _ _ _ => ft) (fun _ _ _ _ => ft) (fun _ _ _ => ft) (fun _ _ _ => ft) (fun _ _ _ _ => ft) (fun _ _ _ _ => ft) (fun _ _ _ _ _ => ft) (fun _ _ _ _ => ft) (fun _ _ => ft) (fun _ _ => ft) (fun _ _ => ft) (fun _ _ _ _ => ft) (fun a0 a1 a2 a3 h => k a0 a1 a2 a3 h) (fun _ _ _ _ => ft) (fun _ _ => ft) (fun _ _ _ => ft) (fun _ _ _ => ft) (fun _ _ _ => ft) (fun _ _ => ft) (fun _ _ => ft) (fun _ _ => ft) (fun _ _ _ => ft) (fun _ _ _ _ => ft) h
@[elab_as_elim] theorem vCom_i {x : PySem.Expr} {f : Expr → List Comprehension → Scope → Bool} {G : PySem.Expr → Prop} (h : vCom x f = true) (k : ∀ (a0 : PySem.Expr) (a1 : List PySem.Comprehension) (a2 : PySem.Scope) (a3 : PySem.Pos), f a0 a1 a2 = true → G (.ListComp a0 a1 a2 a3)) : G x := @PySem.Expr.casesOn (fun x => vCom x f = true → G x) x (fun _ _ _ => ft) (fun _ _ _ => ft) (fun _ _ _ _ => ft) (fun _ _ _ => ft) (fun _ _ _ _ => ft) (fun _ _ _ _ => ft) (fun _ _ _ => ft) (fun _ _ _ => ft) (fun a0 a1 a2 a3 h => k a0 a1 a2 a3 h) (fun _ _ _ _ => ft) (fun _ _ _ _ _ => ft) (fun _ _ _ _ => ft) (fun _ _ => ft) (fun _ _ => ft) (fun _ _ => ft) (fun _ _ _ _ => ft) (fun _ _ _ _ => ft) (fun _ _ _ _ => ft) (fun _ _ => ft) (fun _ _ _ => ft) (fun _ _ _ => ft) (fun _ _ _ => ft) (fun _ _ => ft) (fun _ _ => ft) (fun _ _ => ft) (fun _ _ _ => ft) (fun _ _ _ _ => ft) h
@[elab_as_elim] theorem sAsg_i {s : PySem.Stmt} {f : List Expr → Expr → Bool} {G : PySem.Stmt → Prop} (h : sAsg s f = true) (k : ∀ (a0 : List PySem.Expr) (a1 : PySem.Expr) (a2 : PySem.Pos), f a0 a1 = true → G (.Assign a0 a1 a2)) : G s := @PySem.Stmt.casesOn (fun s => sAsg s f = true → G s) s (fun _ _ _ _ _ _ _ _ _ _ => ft) (fun _ _ _ _ _ _ _ _ _ _ => ft) (fun _ _ _ _ _ _ _ _ _ _ _ => ft) (fun _ _ => ft) (fun _ _ => ft) (fun a0 a1 a2 h => k a0 a1 a2 h) (fun _ _ _ _ _ _ _ => ft) (fun _ _ _ _ => ft) (fun _ _ _ _ _ => ft) (fun _ _ _ _ _ => ft) (fun _ _ _ _ _ => ft) (fun _ _ _ _ => ft) (fun _ _ _ _ => ft) (fun _ _ _ => ft) (fun _ _ _ => ft) (fun _ _ _ => ft) (fun _ _ _ => ft) (fun _ _ _ _ _ => ft) (fun _ _ _ _ _ => ft) (fun _ _ _ => ft) (fun _ _ => ft) (fun _ _ _ _ => ft) (fun _ _ => ft) (fun _ _ => ft) (fun _ _ => ft) (fun _ => ft) (fun _ => ft) (fun _ => ft) h
@[elab_as_elim] theorem sAug_i {s : PySem.Stmt} {f : Expr → Operator → Expr → Bool} {G : PySem.Stmt → Prop} (h : sAug s f = true) (k : ∀ (a0 : PySem.Expr) (a1 : PySem.Operator) (a2 : PySem.Expr) (a3 : PySem.Pos), f a0 a1 a2 = true → G (.AugAssign a0 a1 a2 a3)) : G s := @PySem.Stmt.casesOn (fun s => sAug s f = true → G s) s (fun _ _ _ _ _ _ _ _ _ _ => ft) (fun _ _ _ _ _ _ _ _ _ _ => ft) (fun _ _ _ _ _ _ _ _ _ _ _ => ft) (fun _ _ => ft) (fun _ _ => ft) (fun _ _ _ => ft) (fun _ _ _ _ _ _ _ => ft) (fun a0 a1 a2 a3 h => k a0 a1 a2 a3 h) (fun _ _ _ _ _ => ft) (fun _ _ _ _ _ => ft) (fun _ _ _ _ _ => ft) (fun _ _ _ _ => ft) (fun _ _ _ _ => ft) (fun _ _ _ => ft) (fun _ _ _ => ft) (fun _ _ _ => ft) (fun _ _ _ => ft) (fun _ _ _ _ _ => ft) (fun _ _ _ _ _ => ft) (fun _ _ _ => ft) (fun _ _ => ft) (fun _ _ _ _ => ft) (fun _ _ => ft) (fun _ _ => ft) (fun _ _ => ft) (fun _ => ft) (fun _ => ft) (fun _ => ft) h
@[elab_as_elim] theorem sExp_i {s : PySem.Stmt} {f : Expr → Bool} {G : PySem.Stmt → Prop} (h : sExp s f = true) (k : ∀ (a0 : PySem.Expr) (a1 : PySem.Pos), f a0 = true → G (.Expr a0 a1)) : G s := @PySem.Stmt.casesOn (fun s => sExp s f = true → G s) s (fun _ _ _ _ _ _ _ _ _ _ => ft) (fun _ _ _ _ _ _ _ _ _ _ => ft) (fun _ _ _ _ _ _ _ _ _ _ _ => ft) (fun _ _ => ft) (fun _ _ => ft) (fun _ _ _ => ft) (fun _ _ _ _ _ _ _ => ft) (fun _ _ _ _ => ft) (fun _ _ _ _ _ => ft) (fun _ _ _ _ _ => ft) (fun _ _ _ _ _ => ft) (fun _ _ _ _ => ft) (fun _ _ _ _ => ft) (fun _ _ _ => ft) (fun _ _ _ => ft) (fun _ _ _ => ft) (fun _ _ _ => ft) (fun _ _ _ _ _ => ft) (fun _ _ _ _ _ => ft) (fun _ _ _ => ft) (fun _ _ => ft) (fun _ _ _ _ => ft) (fun _ _ => ft) (fun _ _ => ft) (fun a0 a1 h => k a0 a1 h) (fun _ => ft) (fun _ => ft) (fun _ => ft) h
@[elab_as_elim] theorem sIf_i {s : PySem.Stmt} {f : Expr → List Stmt → List Stmt → Bool} {G : PySem.Stmt → Prop} (h : sIf s f = true) (k : ∀ (a0 : PySem.Expr) (a1 : List PySem.Stmt) (a2 : List PySem.Stmt) (a3 : PySem.Pos), f a0 a1 a2 = true → G (.If a0 a1 a2 a3)) : G s := @PySem.Stmt.casesOn (fun s => sIf s f = true → G s) s (fun _ _ _ _ _ _ _ _ _ _ => ft) (fun _ _ _ _ _ _ _ _ _ _ => ft) (fun _ _ _ _ _ _ _ _ _ _ _ => ft) (fun _ _ => ft) (fun _ _ => ft) (fun _ _ _ => ft) (fun _ _ _ _ _ _ _ => ft) (fun _ _ _ _ => ft) (fun _ _ _ _ _ => ft) (fun _ _ _ _ _ => ft) (fun _ _ _ _ _ => ft) (fun _ _ _ _ => ft) (fun a0 a1 a2 a3 h => k a0 a1 a2 a3 h) (fun _ _ _ => ft) (fun _ _ _ => ft) (fun _ _ _ => ft) (fun _ _ _ => ft) (fun _ _ _ _ _ => ft) (fun _ _ _ _ _ => ft) (fun _ _ _ => ft) (fun _ _ => ft) (fun _ _ _ _ => ft) (fun _ _ => ft) (fun _ _ => ft) (fun _ _ => ft) (fun _ => ft) (fun _ => ft) (fun _ => ft) h
@[elab_as_elim] theorem sWh_i {s : PySem.Stmt} {f : Expr → List Stmt → List Stmt → Bool} {G : PySem.Stmt → Prop} (h : sWh s f = true) (k : ∀ (a0 : PySem.Expr) (a1 : List PySem.Stmt) (a2 : List PySem.Stmt) (a3 : PySem.Pos), f a0 a1 a2 = true → G (.While a0 a1 a2 a3)) : G s := @PySem.Stmt.casesOn (fun s => sWh s f = true → G s) s (fun _ _ _ _ _ _ _ _ _ _ => ft) (fun _ _ _ _ _ _ _ _ _ _ => ft) (fun _ _ _ _ _ _ _ _ _ _ _ => ft) (fun _ _ => ft) (fun _ _ => ft) (fun _ _ _ => ft) (fun _ _ _ _ _ _ _ => ft) (fun _ _ _ _ => ft) (fun _ _ _ _ _ => ft) (fun _ _ _ _ _ => ft) (fun _ _ _ _ _ => ft) (fun a0 a1 a2 a3 h => k a0 a1 a2 a3 h) (fun _ _ _ _ => ft) (fun _ _ _ => ft) (fun _ _ _ => ft) (fun _ _ _ => ft) (fun _ _ _ => ft) (fun _ _ _ _ _ => ft) (fun _ _ _ _ _ => ft) (fun _ _ _ => ft) (fun _ _ => ft) (fun _ _ _ _ => ft) (fun _ _ => ft) (fun _ _ => ft) (fun _ _ => ft) (fun _ => ft) (fun _ => ft) (fun _ => ft) h
@[elab_as_elim] theorem sFor_i {s : PySem.Stmt} {f : Expr → Expr → List Stmt → List Stmt → Bool} {G : PySem.Stmt → Prop} (h : sFor s f = true) (k : ∀ (a0 : PySem.Expr) (a1 : PySem.Expr) (a2 : List PySem.Stmt) (a3 : List PySem.Stmt) (a4 : PySem.Pos), f a0 a1 a2 a3 = true → G (.For a0 a1 a2 a3 a4)) : G s := @PySem.Stmt.casesOn (fun s => sFor s f = true → G s) s (fun _ _ _ _ _ _ _ _ _ _ => ft) (fun _ _ _ _ _ _ _ _ _ _ => ft) (fun _ _ _ _ _ _ _ _ _ _ _ => ft) (fun _ _ => ft) (fun _ _ => ft) (fun _ _ _ => ft) (fun _ _ _ _ _ _ _ => ft) (fun _ _ _ _ => ft) (fun _ _ _ _ _ => ft) (fun a0 a1 a2 a3 a4 h => k a0 a1 a2 a3 a4 h) (fun _ _ _ _ _ => ft) (fun _ _ _ _ => ft) (fun _ _ _ _ => ft) (fun _ _ _ => ft) (fun _ _ _ => ft) (fun _ _ _ => ft) (fun _ _ _ => ft) (fun _ _ _ _ _ => ft) (fun _ _ _ _ _ => ft) (fun _ _ _ => ft) (fun _ _ => ft) (fun _ _ _ _ => ft) (fun _ _ => ft) (fun _ _ => ft) (fun _ _ => ft) (fun _ => ft) (fun _ => ft) (fun _ => ft) h
@[elab_as_elim] theorem sRet_i {s : PySem.Stmt} {f : Option Expr → Bool} {G : PySem.Stmt → Prop} (h : sRet s f = true) (k : ∀ (a0 : Option PySem.Expr) (a1 : PySem.Pos), f a0 = true → G (.Return a0 a1)) : G s := @PySem.Stmt.casesOn (fun s => sRet s f = true → G s) s (fun _ _ _ _ _ _ _ _ _ _ => ft) (fun _ _ _ _ _ _ _ _ _ _ => ft) (fun _ _ _ _ _ _ _ _ _ _ _ => ft) (fun a0 a1 h => k a0 a1 h) (fun _ _ => ft) (fun _ _ _ => ft) (fun _ _ _ _ _ _ _ => ft) (fun _ _ _ _ => ft) (fun _ _ _ _ _ => ft) (fun _ _ _ _ _ => ft) (fun _ _ _ _ _ => ft) (fun _ _ _ _ => ft) (fun _ _ _ _ => ft) (fun _ _ _ => ft) (fun _ _ _ => ft) (fun _ _ _ => ft) (fun _ _ _ => ft) (fun _ _ _ _ _ => ft) (fun _ _ _ _ _ => ft) (fun _ _ _ => ft) (fun _ _ => ft) (fun _ _ _ _ => ft) (fun _ _ => ft) (fun _ _ => ft) (fun _ _ => ft) (fun _ => ft) (fun _ => ft) (fun _ => ft) h
@[elab_as_elim] theorem sCon_i {s : PySem.Stmt} {G : PySem.Stmt → Prop} (h : sCon s = true) (k : ∀ (a0 : PySem.Pos), true = true → G (.Continue a0)) : G s := @PySem.Stmt.casesOn (fun s => sCon s = true → G s) s (fun _ _ _ _ _ _ _ _ _ _ => ft) (fun _ _ _ _ _ _ _ _ _ _ => ft) (fun _ _ _ _ _ _ _ _ _ _ _ => ft) (fun _ _ => ft) (fun _ _ => ft) (fun _ _ _ => ft) (fun _ _ _ _ _ _ _ => ft) (fun _ _ _ _ => ft) (fun _ _ _ _ _ => ft) (fun _ _ _ _ _ => ft) (fun _ _ _ _ _ => ft) (fun _ _ _ _ => ft) (fun _ _ _ _ => ft) (fun _ _ _ => ft) (fun _ _ _ => ft) (fun _ _ _ => ft) (fun _ _ _ => ft) (fun _ _ _ _ _ => ft) (fun _ _ _ _ _ => ft) (fun _ _ _ => ft) (fun _ _ => ft) (fun _ _ _ _ => ft) (fun _ _ => ft) (fun _ _ => ft) (fun _ _ => ft) (fun _ => ft) (fun _ => ft) (fun a0 h => k a0 h) h
end Mine
end
section
open PySem PySem.W PyProof.Rows
namespace Mine
open PySem
set_option maxRecDepth 10000
noncomputable def nm0 : List Str := []
noncomputable def bd0 : S := (.ret (.tup (.cons (.con (.str "[]")) (.cons (.con (.str ".")) (.cons (.con (.str "{}")) (.cons (.con (.str "-")) (.cons (.con (.str "+")) (.cons (.con (.str "*")) (.cons (.con (.str "/")) (.cons (.con (.str ",")) (.cons (.con (.str "|")) (.cons (.con (.str ";")) (.cons (.con (.str "->")) (.cons (.con (.str "\\+")) (.cons (.con (.str ":-")) (.cons (.con (.str "?-")) (.cons (.con (.str "-->")) (.cons (.con (.str "!")) (.cons (.con (.str "true")) (.cons (.con (.str "fail")) (.cons (.con (.str "false")) (.cons (.con (.str "call")) (.cons (.con (.str "=")) (.cons (.con (.str "^")) (.cons (.con (.str "error")) (.cons (.con (.str "")) (.cons (.con (.str "end_of_file")) (.cons (.con (.str "system")) (.cons (.con (.str "$VAR")) (.cons (.con (.str "catch")) (.cons (.con (.str "throw")) .nil)))))))))))))))))))))))))))))) [])
noncomputable def nm1 : List Str := []
noncomputable def bd1 : S := (.ret (.tup (.cons (.tup (.cons (.con (.str ".")) (.cons (.con (.int 2)) .nil))) (.cons (.tup (.cons (.con (.str ",")) (.cons (.con (.int 2)) .nil))) (.cons (.tup (.cons (.con (.str ";")) (.cons (.con (.int 2)) .nil))) (.cons (.tup (.cons (.con (.str "->")) (.cons (.con (.int 2)) .nil))) (.cons (.tup (.cons (.con (.str "\\+")) (.cons (.con (.int 1)) .nil))) (.cons (.tup (.cons (.con (.str ":-")) (.cons (.con (.int 2)) .nil))) (.cons (.tup (.cons (.con (.str ":-")) (.cons (.con (.int 1)) .nil))) (.cons (.tup (.cons (.con (.str "?-")) (.cons (.con (.int 1)) .nil))) (.cons (.tup (.cons (.con (.str "-->")) (.cons (.con (.int 2)) .nil))) (.cons (.tup (.cons (.con (.str "{}")) (.cons (.con (.int 1)) .nil))) (.cons (.tup (.cons (.con (.str "=")) (.cons (.con (.int 2)) .nil))) (.cons (.tup (.cons (.con (.str "^")) (.cons (.con (.int 2)) .nil))) (.cons (.tup (.cons (.con (.str "-")) (.cons (.con (.int 1)) .nil))) (.cons (.tup (.cons (.con (.str "-")) (.cons (.con (.int 2)) .nil))) (.cons (.tup (.cons (.con (.str "+")) (.cons (.con (.int 2)) .nil))) (.cons (.tup (.cons (.con (.str "/")) (.cons (.con (.int 2)) .nil))) (.cons (.tup (.cons (.con (.str "error")) (.cons (.con (.int 2)) .nil))) (.cons (.tup (.cons (.con (.str "$VAR")) (.cons (.con (.int 1)) .nil))) (.cons (.tup (.cons (.con (.str "catch")) (.cons (.con (.int 3)) .nil))) (.cons (.tup (.cons (.con (.str "throw")) (.cons (.con (.int 1)) .nil))) (.cons (.tup (.cons (.con (.str "!")) (.cons (.con (.int 0)) .nil))) (.cons (.tup (.cons (.con (.str "true")) (.cons (.con (.int 0)) .nil))) (.cons (.tup (.cons (.con (.str "fail")) (.cons (.con (.int 0)) .nil))) (.cons (.tup (.cons (.con (.str "false")) (.cons (.con (.int 0)) .nil))) (.cons (.tup (.cons (.con (.str "call")) (.cons (.con (.int 1)) .nil))) (.cons (.tup (.cons (.con (.str "call")) (.cons (.con (.int 2)) .nil))) (.cons (.tup (.cons (.con (.str "call")) (.cons (.con (.int 3)) .nil))) (.cons (.tup (.cons (.con (.str "call")) (.cons (.con (.int 4)) .nil))) (.cons (.tup (.cons (.con (.str "call")) (.cons (.con (.int 5)) .nil))) (.cons (.tup (.cons (.con (.str "call")) (.cons (.con (.int 6)) .nil))) (.cons (.tup (.cons (.con (.str "call")) (.cons (.con (.int 7)) .nil))) (.cons (.tup (.cons (.con (.str "call")) (.cons (.con (.int 8)) .nil))) .nil))))))))))))))))))))))))))))))))) [])
noncomputable def nm2 : List Str := ["store", "cell", "work", "place", "step"]
noncomputable def bd2 : S := (.asg 3 (.meth (.loc 0) 0 (.cons (.loc 1) .nil))
 (.for 4 (.call (.glo 0) 0 (.cons (.bin .Sub (.meth (.loc 0) 1 (.cons (.loc 1) .nil)) (.con (.int 1))) (.cons (.neg (.con (.int 1))) (.cons (.neg (.con (.int 1))) .nil))))
 (.exp (.bm (.loc 2) .append (.cons (.sub (.attr (.loc 0) 2) (.bin .Add (.loc 3) (.loc 4))) .nil))
 .done)
 .done))
noncomputable def nm3 : List Str := ["store", "left", "right", "work", "left_place", "right_place", "step"]
noncomputable def bd3 : S := (.asg 4 (.meth (.loc 0) 0 (.cons (.loc 1) .nil))
 (.asg 5 (.meth (.loc 0) 0 (.cons (.loc 2) .nil))
 (.for 6 (.call (.glo 0) 0 (.cons (.bin .Sub (.meth (.loc 0) 1 (.cons (.loc 1) .nil)) (.con (.int 1))) (.cons (.neg (.con (.int 1))) (.cons (.neg (.con (.int 1))) .nil))))
 (.exp (.bm (.loc 3) .append (.cons (.tup (.cons (.sub (.attr (.loc 0) 2) (.bin .Add (.loc 4) (.loc 6))) (.cons (.sub (.attr (.loc 0) 2) (.bin .Add (.loc 5) (.loc 6))) .nil))) .nil))
 .done)
 .done)))
noncomputable def nm4 : List Str := ["cell"]
noncomputable def bd4 : S := (.ret (.bop false (.cons (.cmp .Eq (.sub (.loc 0) (.con (.int 0))) (.glo 2)) (.cons (.cmp .Eq (.sub (.loc 0) (.con (.int 0))) (.glo 1)) .nil))) [])
noncomputable def nm5 : List Str := ["store", "c1", "c2", "occurs", "met", "work", "left", "right"]
noncomputable def bd5 : S := (.asg 4 (.call (.glo 3) 34 (.cons (.loc 0) .nil))
 (.asg 5 (.lst 35 (.cons (.tup (.cons (.loc 1) (.cons (.loc 2) .nil))) .nil))
 (.whl (.cmp .Gt (.call (.glo 4) 0 (.cons (.loc 5) .nil)) (.con (.int 0)))
 (.unp 6 7 (.bm (.loc 5) .pop .nil)
 (.asg 6 (.meth (.loc 0) 3 (.cons (.loc 6) .nil))
 (.asg 7 (.meth (.loc 0) 3 (.cons (.loc 7) .nil))
 (.ite (.cmp .Eq (.loc 6) (.loc 7))
 .cont
 .done
 (.ite (.call (.glo 5) 0 (.cons (.loc 6) .nil))
 (.ite (.call (.glo 5) 0 (.cons (.loc 7) .nil))
 (.exp (.meth (.loc 0) 4 (.cons (.loc 6) (.cons (.loc 7) .nil)))
 .done)
 (.ite (.not (.call (.glo 6) 0 (.cons (.loc 0) (.cons (.loc 6) (.cons (.loc 7) (.cons (.loc 3) .nil))))))
 (.ret (.con (.bool false)) [34, 32, 35])
 .done
 .done)
 .done)
 (.ite (.call (.glo 5) 0 (.cons (.loc 7) .nil))
 (.ite (.not (.call (.glo 6) 0 (.cons (.loc 0) (.cons (.loc 7) (.cons (.loc 6) (.cons (.loc 3) .nil))))))
 (.ret (.con (.bool false)) [34, 32, 35])
 .done
 .done)
 (.ite (.bop true (.cons (.meth (.loc 0) 5 (.cons (.loc 6) .nil)) (.cons (.call (.glo 7) 0 (.cons (.loc 0) (.cons (.loc 6) (.cons (.loc 7) .nil)))) .nil)))
 (.ite (.meth (.loc 4) 6 (.cons (.loc 6) (.cons (.loc 7) .nil)))
 (.exp (.call (.glo 8) 0 (.cons (.loc 0) (.cons (.loc 6) (.cons (.loc 7) (.cons (.loc 5) .nil)))))
 .done)
 .done
 .done)
 (.ret (.con (.bool false)) [34, 32, 35])
 .done)
 .done)
 .done)))))
 (.ret (.con (.bool true)) [34, 32, 35]))))
noncomputable def nm6 : List Str := ["store", "variable", "value", "occurs"]
noncomputable def bd6 : S := (.ite (.bop true (.cons (.loc 3) (.cons (.call (.glo 9) 0 (.cons (.loc 0) (.cons (.loc 1) (.cons (.loc 2) .nil)))) .nil)))
 (.ret (.con (.bool false)) [])
 .done
 (.exp (.meth (.loc 0) 7 (.cons (.loc 1) (.cons (.loc 2) .nil)))
 (.ret (.con (.bool true)) [])))
noncomputable def nm7 : List Str := ["store", "variable", "cell", "met", "work"]
noncomputable def bd7 : S := (.asg 2 (.meth (.loc 0) 3 (.cons (.loc 2) .nil))
 (.ite (.cmp .Eq (.loc 2) (.loc 1))
 (.ret (.con (.bool true)) [])
 .done
 (.ite (.bop false (.cons (.cmp .Eq (.sub (.loc 1) (.con (.int 0))) (.glo 1)) (.cons (.not (.meth (.loc 0) 5 (.cons (.loc 2) .nil))) .nil)))
 (.ret (.con (.bool false)) [])
 .done
 (.asg 3 (.call (.glo 10) 36 .nil)
 (.asg 4 (.lst 37 (.cons (.loc 2) .nil))
 (.whl (.cmp .Gt (.call (.glo 4) 0 (.cons (.loc 4) .nil)) (.con (.int 0)))
 (.asg 2 (.meth (.loc 0) 3 (.cons (.bm (.loc 4) .pop .nil) .nil))
 (.ite (.cmp .Eq (.loc 2) (.loc 1))
 (.ret (.con (.bool true)) [36, 37])
 .done
 (.ite (.bop true (.cons (.meth (.loc 0) 5 (.cons (.loc 2) .nil)) (.cons (.cmp .NotIn (.sub (.loc 2) (.con (.int 1))) (.loc 3)) .nil)))
 (.exp (.bm (.loc 3) .add (.cons (.sub (.loc 2) (.con (.int 1))) .nil))
 (.exp (.call (.glo 11) 0 (.cons (.loc 0) (.cons (.loc 2) (.cons (.loc 4) .nil))))
 .done))
 .done
 .done)))
 (.ret (.con (.bool false)) [36, 37])))))))
noncomputable def nm8 : List Str := ["cell", "tag"]
noncomputable def bd8 : S := (.asg 1 (.sub (.loc 0) (.con (.int 0)))
 (.ite (.cmp .Eq (.loc 1) (.glo 12))
 (.ret (.con (.int 1)) [])
 .done
 (.ite (.cmp .Eq (.loc 1) (.glo 13))
 (.ret (.con (.int 2)) [])
 .done
 (.ite (.bop false (.cons (.cmp .Eq (.loc 1) (.glo 15)) (.cons (.cmp .Eq (.loc 1) (.glo 14)) .nil)))
 (.ret (.con (.int 3)) [])
 .done
 (.ret (.con (.int 0)) [])))))
noncomputable def nm9 : List Str := ["left", "right"]
noncomputable def bd9 : S := (.ite (.cmp .Lt (.loc 0) (.loc 1))
 (.ret (.neg (.con (.int 1))) [])
 .done
 (.ite (.cmp .Gt (.loc 0) (.loc 1))
 (.ret (.con (.int 1)) [])
 .done
 (.ret (.con (.int 0)) [])))
noncomputable def nm10 : List Str := ["store", "left", "right", "symbols", "f", "g", "result"]
noncomputable def bd10 : S := (.asg 3 (.attr (.loc 0) 8)
 (.asg 4 (.meth (.loc 0) 9 (.cons (.loc 1) .nil))
 (.asg 5 (.meth (.loc 0) 9 (.cons (.loc 2) .nil))
 (.ite (.cmp .Eq (.loc 4) (.loc 5))
 (.ret (.con (.int 0)) [])
 .done
 (.asg 6 (.call (.glo 16) 0 (.cons (.meth (.loc 3) 10 (.cons (.loc 4) .nil)) (.cons (.meth (.loc 3) 10 (.cons (.loc 5) .nil)) .nil)))
 (.ite (.cmp .NotEq (.loc 6) (.con (.int 0)))
 (.ret (.loc 6) [])
 .done
 (.ret (.call (.glo 16) 0 (.cons (.meth (.loc 3) 11 (.cons (.meth (.loc 3) 12 (.cons (.loc 4) .nil)) .nil)) (.cons (.meth (.loc 3) 11 (.cons (.meth (.loc 3) 12 (.cons (.loc 5) .nil)) .nil)) .nil))) [])))))))
noncomputable def nm11 : List Str := ["store", "left", "right", "kind", "result"]
noncomputable def bd11 : S := (.asg 3 (.call (.glo 17) 0 (.cons (.loc 1) .nil))
 (.asg 4 (.call (.glo 16) 0 (.cons (.loc 3) (.cons (.call (.glo 17) 0 (.cons (.loc 2) .nil)) .nil)))
 (.ite (.cmp .NotEq (.loc 4) (.con (.int 0)))
 (.ret (.loc 4) [])
 .done
 (.ite (.cmp .Eq (.loc 3) (.con (.int 0)))
 (.ret (.call (.glo 16) 0 (.cons (.loc 1) (.cons (.loc 2) .nil))) [])
 .done
 (.ite (.cmp .Eq (.loc 3) (.con (.int 1)))
 (.ret (.call (.glo 16) 0 (.cons (.sub (.loc 1) (.con (.int 1))) (.cons (.sub (.loc 2) (.con (.int 1))) .nil))) [])
 .done
 (.ite (.cmp .Eq (.loc 3) (.con (.int 2)))
 (.ret (.call (.glo 16) 0 (.cons (.meth (.attr (.loc 0) 8) 11 (.cons (.sub (.loc 1) (.con (.int 1))) .nil)) (.cons (.meth (.attr (.loc 0) 8) 11 (.cons (.sub (.loc 2) (.con (.int 1))) .nil)) .nil))) [])
 .done
 (.ret (.call (.glo 18) 0 (.cons (.loc 0) (.cons (.loc 1) (.cons (.loc 2) .nil)))) [])))))))
noncomputable def nm12 : List Str := ["store", "c1", "c2", "met", "work", "left", "right", "result"]
noncomputable def bd12 : S := (.asg 3 (.call (.glo 3) 31 (.cons (.loc 0) .nil))
 (.asg 4 (.lst 33 (.cons (.tup (.cons (.loc 1) (.cons (.loc 2) .nil))) .nil))
 (.whl (.cmp .Gt (.call (.glo 4) 0 (.cons (.loc 4) .nil)) (.con (.int 0)))
 (.unp 5 6 (.bm (.loc 4) .pop .nil)
 (.asg 5 (.meth (.loc 0) 3 (.cons (.loc 5) .nil))
 (.asg 6 (.meth (.loc 0) 3 (.cons (.loc 6) .nil))
 (.ite (.cmp .Eq (.loc 5) (.loc 6))
 .cont
 .done
 (.asg 7 (.call (.glo 19) 0 (.cons (.loc 0) (.cons (.loc 5) (.cons (.loc 6) .nil))))
 (.ite (.cmp .NotEq (.loc 7) (.con (.int 0)))
 (.ret (.loc 7) [31, 32, 33])
 .done
 (.ite (.bop true (.cons (.meth (.loc 0) 5 (.cons (.loc 5) .nil)) (.cons (.meth (.loc 3) 6 (.cons (.loc 5) (.cons (.loc 6) .nil))) .nil)))
 (.exp (.call (.glo 8) 0 (.cons (.loc 0) (.cons (.loc 5) (.cons (.loc 6) (.cons (.loc 4) .nil)))))
 .done)
 .done
 .done)))))))
 (.ret (.con (.int 0)) [31, 32, 33]))))
noncomputable def nm13 : List Str := ["store", "keys", "left", "right", "unique", "merged", "i", "j", "result"]
noncomputable def bd13 : S := (.asg 5 (.lst 30 .nil)
 (.asg 6 (.con (.int 0))
 (.asg 7 (.con (.int 0))
 (.whl (.bop true (.cons (.cmp .Lt (.loc 6) (.call (.glo 4) 0 (.cons (.loc 2) .nil))) (.cons (.cmp .Lt (.loc 7) (.call (.glo 4) 0 (.cons (.loc 3) .nil))) .nil)))
 (.asg 8 (.call (.glo 20) 0 (.cons (.loc 0) (.cons (.sub (.loc 1) (.sub (.loc 2) (.loc 6))) (.cons (.sub (.loc 1) (.sub (.loc 3) (.loc 7))) .nil))))
 (.ite (.cmp .LtE (.loc 8) (.con (.int 0)))
 (.exp (.bm (.loc 5) .append (.cons (.sub (.loc 2) (.loc 6)) .nil))
 (.aug 6 .Add (.con (.int 1))
 (.ite (.bop true (.cons (.cmp .Eq (.loc 8) (.con (.int 0))) (.cons (.loc 4) .nil)))
 (.aug 7 .Add (.con (.int 1))
 .done)
 .done
 .done)))
 (.exp (.bm (.loc 5) .append (.cons (.sub (.loc 3) (.loc 7)) .nil))
 (.aug 7 .Add (.con (.int 1))
 .done))
 .done))
 (.exp (.bm (.loc 5) .extend (.cons (.slc (.loc 2) (.loc 6) .no .no) .nil))
 (.exp (.bm (.loc 5) .extend (.cons (.slc (.loc 3) (.loc 7) .no .no) .nil))
 (.frz 5 (.ret (.loc 5) []))))))))
noncomputable def nm14 : List Str := ["store", "cells", "unique", "keyed", "keys", "runs", "i", "longer", "found"]
noncomputable def bd14 : S := (.ite (.cmp .Eq (.call (.glo 4) 0 (.cons (.loc 1) .nil)) (.con (.int 0)))
 (.ret (.lst 0 .nil) [])
 .done
 (.asg 4 (.lst 24 .nil)
 (.asg 5 (.lst 25 .nil)
 (.for 6 (.call (.glo 0) 0 (.cons (.call (.glo 4) 0 (.cons (.loc 1) .nil)) .nil))
 (.ite (.loc 3)
 (.exp (.bm (.loc 4) .append (.cons (.meth (.loc 0) 13 (.cons (.meth (.loc 0) 3 (.cons (.sub (.loc 1) (.loc 6)) .nil)) (.cons (.con (.int 1)) .nil))) .nil))
 .done)
 (.exp (.bm (.loc 4) .append (.cons (.sub (.loc 1) (.loc 6)) .nil))
 .done)
 (.exp (.bm (.loc 5) .append (.cons (.lst 0 (.cons (.loc 6) .nil)) .nil))
 .done))
 (.frz 4 (.frz 5 (.whl (.cmp .Gt (.call (.glo 4) 0 (.cons (.loc 5) .nil)) (.con (.int 1)))
 (.asg 7 (.lst 26 .nil)
 (.for 6 (.call (.glo 0) 0 (.cons (.con (.int 0)) (.cons (.bin .Sub (.call (.glo 4) 0 (.cons (.loc 5) .nil)) (.con (.int 1))) (.cons (.con (.int 2)) .nil))))
 (.exp (.bm (.loc 7) .append (.cons (.call (.glo 21) 0 (.cons (.loc 0) (.cons (.loc 4) (.cons (.sub (.loc 5) (.loc 6)) (.cons (.sub (.loc 5) (.bin .Add (.loc 6) (.con (.int 1)))) (.cons (.loc 2) .nil)))))) .nil))
 .done)
 (.ite (.cmp .Eq (.bin .Mod (.call (.glo 4) 0 (.cons (.loc 5) .nil)) (.con (.int 2))) (.con (.int 1)))
 (.exp (.bm (.loc 7) .append (.cons (.sub (.loc 5) (.neg (.con (.int 1)))) .nil))
 .done)
 .done
 (.frz 7 (.asg 5 (.loc 7)
 .done)))))
 (.asg 8 (.lst 28 .nil)
 (.for 6 (.sub (.loc 5) (.con (.int 0)))
 (.exp (.bm (.loc 8) .append (.cons (.sub (.loc 1) (.loc 6)) .nil))
 .done)
 (.frz 8 (.ret (.loc 8) [])))))))))))
noncomputable def nm15 : List Str := ["m"]
noncomputable def bd15 : S := (.ret (.call (.glo 20) 0 (.cons (.attr (.loc 0) 14) (.cons (.meth (.loc 0) 13 (.cons (.con (.int 1)) .nil)) (.cons (.meth (.loc 0) 13 (.cons (.con (.int 2)) .nil)) .nil)))) [])
noncomputable def nm16 : List Str := ["m"]
noncomputable def bd16 : S := (.ret (.cmp .Eq (.call (.glo 22) 0 (.cons (.loc 0) .nil)) (.con (.int 0))) [])
noncomputable def nm17 : List Str := ["m"]
noncomputable def bd17 : S := (.ret (.cmp .NotEq (.call (.glo 22) 0 (.cons (.loc 0) .nil)) (.con (.int 0))) [])
noncomputable def nm18 : List Str := ["m"]
noncomputable def bd18 : S := (.ret (.cmp .Lt (.call (.glo 22) 0 (.cons (.loc 0) .nil)) (.con (.int 0))) [])
noncomputable def nm19 : List Str := ["m"]
noncomputable def bd19 : S := (.ret (.cmp .Gt (.call (.glo 22) 0 (.cons (.loc 0) .nil)) (.con (.int 0))) [])
noncomputable def nm20 : List Str := ["m"]
noncomputable def bd20 : S := (.ret (.cmp .LtE (.call (.glo 22) 0 (.cons (.loc 0) .nil)) (.con (.int 0))) [])
noncomputable def nm21 : List Str := ["m"]
noncomputable def bd21 : S := (.ret (.cmp .GtE (.call (.glo 22) 0 (.cons (.loc 0) .nil)) (.con (.int 0))) [])
noncomputable def nm22 : List Str := ["m", "cell", "items", "tail"]
noncomputable def bd22 : S := (.unp 2 3 (.meth (.attr (.loc 0) 14) 15 (.cons (.loc 1) .nil))
 (.ite (.bop true (.cons (.cmp .NotEq (.sub (.loc 3) (.con (.int 0))) (.glo 2)) (.cons (.cmp .NotEq (.loc 3) (.glo 23)) .nil)))
 (.raw .done)
 .done
 (.ret (.loc 2) [])))
noncomputable def nm23 : List Str := ["m", "cell", "items", "tail"]
noncomputable def bd23 : S := (.unp 2 3 (.meth (.attr (.loc 0) 14) 15 (.cons (.loc 1) .nil))
 (.ite (.cmp .Eq (.sub (.loc 3) (.con (.int 0))) (.glo 2))
 (.raw .done)
 .done
 (.ite (.cmp .NotEq (.loc 3) (.glo 23))
 (.raw .done)
 .done
 (.ret (.loc 2) []))))
noncomputable def nm24 : List Str := ["m", "items", "found"]
noncomputable def bd24 : S := (.asg 1 (.call (.glo 24) 0 (.cons (.loc 0) (.cons (.meth (.loc 0) 13 (.cons (.con (.int 1)) .nil)) .nil)))
 (.exp (.call (.glo 25) 0 (.cons (.loc 0) (.cons (.meth (.loc 0) 13 (.cons (.con (.int 2)) .nil)) .nil)))
 (.asg 2 (.call (.glo 26) 0 (.cons (.attr (.loc 0) 14) (.cons (.loc 1) (.cons (.con (.bool true)) (.cons (.con (.bool false)) .nil)))))
 (.ret (.meth (.loc 0) 16 (.cons (.meth (.attr (.loc 0) 14) 17 (.cons (.loc 2) .nil)) (.cons (.meth (.loc 0) 13 (.cons (.con (.int 2)) .nil)) .nil))) []))))
noncomputable def nm25 : List Str := ["m", "items", "found"]
noncomputable def bd25 : S := (.asg 1 (.call (.glo 24) 0 (.cons (.loc 0) (.cons (.meth (.loc 0) 13 (.cons (.con (.int 1)) .nil)) .nil)))
 (.exp (.call (.glo 25) 0 (.cons (.loc 0) (.cons (.meth (.loc 0) 13 (.cons (.con (.int 2)) .nil)) .nil)))
 (.asg 2 (.call (.glo 26) 0 (.cons (.attr (.loc 0) 14) (.cons (.loc 1) (.cons (.con (.bool false)) (.cons (.con (.bool false)) .nil)))))
 (.ret (.meth (.loc 0) 16 (.cons (.meth (.attr (.loc 0) 14) 17 (.cons (.loc 2) .nil)) (.cons (.meth (.loc 0) 13 (.cons (.con (.int 2)) .nil)) .nil))) []))))
noncomputable def nm26 : List Str := ["pot", "limit", "numbers", "spot", "digit"]
noncomputable def bd26 : S := (.asg 2 (.sub (.loc 0) (.con (.int 1)))
 (.asg 3 (.bin .Mod (.sub (.loc 0) (.con (.int 0))) (.call (.glo 4) 0 (.cons (.loc 2) .nil)))
 (.augs (.loc 0) (.con (.int 0)) .Add (.con (.int 1))
 (.asg 4 (.bin .Mod (.sub (.loc 2) (.loc 3)) (.loc 1))
 (.asgs (.loc 2) (.loc 3) (.bin .Add (.bin .FloorDiv (.sub (.loc 2) (.loc 3)) (.loc 1)) (.sub (.loc 0) (.con (.int 0))))
 (.ret (.loc 4) []))))))
noncomputable def nm27 : List Str := ["pot", "areas", "loose", "kind"]
noncomputable def bd27 : S := (.asg 3 (.call (.glo 27) 0 (.cons (.loc 0) (.cons (.con (.int 3)) .nil)))
 (.ite (.cmp .Eq (.loc 3) (.con (.int 0)))
 (.ret (.sub (.loc 2) (.call (.glo 27) 0 (.cons (.loc 0) (.cons (.con (.int 3)) .nil)))) [])
 .done
 (.ite (.cmp .Eq (.loc 3) (.con (.int 1)))
 (.ret (.tup (.cons (.glo 12) (.cons (.sub (.lst 0 (.cons (.neg (.con (.int 1))) (.cons (.con (.int 0)) (.cons (.con (.int 1)) (.cons (.bin .Pow (.con (.int 10)) (.con (.int 20))) .nil))))) (.call (.glo 27) 0 (.cons (.loc 0) (.cons (.con (.int 4)) .nil)))) .nil))) [])
 .done
 (.ret (.tup (.cons (.glo 13) (.cons (.sub (.lst 0 (.cons (.glo 28) (.cons (.meth (.attr (.loc 1) 8) 18 (.cons (.con (.str "a")) .nil)) (.cons (.meth (.attr (.loc 1) 8) 18 (.cons (.con (.str "B")) .nil)) .nil)))) (.call (.glo 27) 0 (.cons (.loc 0) (.cons (.con (.int 3)) .nil)))) .nil))) []))))
noncomputable def nm28 : List Str := ["pot", "areas", "loose", "kind", "parts", "_", "f"]
noncomputable def bd28 : S := (.asg 3 (.call (.glo 27) 0 (.cons (.loc 0) (.cons (.con (.int 4)) .nil)))
 (.ite (.cmp .Lt (.loc 3) (.con (.int 2)))
 (.ret (.call (.glo 29) 0 (.cons (.loc 0) (.cons (.loc 1) (.cons (.loc 2) .nil)))) [])
 .done
 (.asg 4 (.comp (.call (.glo 29) 0 (.cons (.loc 0) (.cons (.loc 1) (.cons (.loc 2) .nil)))) (.call (.glo 0) 0 (.cons (.bin .Add (.con (.int 1)) (.call (.glo 27) 0 (.cons (.loc 0) (.cons (.con (.int 2)) .nil)))) .nil)) .nil 5)
 (.asg 6 (.meth (.attr (.loc 1) 8) 19 (.cons (.con (.str "b")) (.cons (.call (.glo 4) 0 (.cons (.loc 4) .nil)) .nil)))
 (.ite (.bop true (.cons (.cmp .Eq (.loc 3) (.con (.int 3))) (.cons (.cmp .Eq (.call (.glo 4) 0 (.cons (.loc 4) .nil)) (.con (.int 2))) .nil)))
 (.asg 6 (.glo 30)
 .done)
 .done
 (.ret (.meth (.attr (.loc 1) 14) 20 (.cons (.loc 6) (.cons (.loc 4) .nil))) []))))))
noncomputable def nm29 : List Str := ["areas", "pred", "one", "other"]
noncomputable def bd29 : S := (.exp (.meth (.loc 0) 21 (.cons (.lst 0 (.cons (.loc 2) (.cons (.loc 3) .nil))) .nil))
 (.ret (.call (.loc 1) 0 (.cons (.loc 0) .nil)) []))
noncomputable def nm30 : List Str := ["areas", "pred", "cells", "made", "listed", "rest"]
noncomputable def bd30 : S := (.asg 3 (.meth (.attr (.loc 0) 14) 22 .nil)
 (.exp (.meth (.loc 0) 21 (.cons (.lst 0 (.cons (.meth (.attr (.loc 0) 14) 17 (.cons (.loc 2) .nil)) (.cons (.loc 3) .nil))) .nil))
 (.ite (.not (.call (.loc 1) 0 (.cons (.loc 0) .nil)))
 (.ret (.con .none) [])
 .done
 (.unp 4 5 (.meth (.attr (.loc 0) 14) 15 (.cons (.loc 3) .nil))
 (.ret (.ife (.cmp .Eq (.loc 5) (.tup (.cons (.glo 13) (.cons (.glo 28) .nil)))) (.loc 4) (.con .none)) [])))))
noncomputable def nm31 : List Str := ["areas", "one", "other", "signs", "pred", "back", "negated", "sign", "due", "one_due"]
noncomputable def bd31 : S := (.asg 3 (.comp (.call (.glo 31) 0 (.cons (.loc 0) (.cons (.loc 4) (.cons (.loc 1) (.cons (.loc 2) .nil))))) (.lst 0 (.cons (.glo 34) (.cons (.glo 33) (.cons (.glo 32) .nil)))) .nil 4)
 (.asg 5 (.comp (.call (.glo 31) 0 (.cons (.loc 0) (.cons (.loc 4) (.cons (.loc 2) (.cons (.loc 1) .nil))))) (.lst 0 (.cons (.glo 32) (.cons (.glo 33) (.cons (.glo 34) .nil)))) .nil 4)
 (.asg 6 (.comp (.call (.glo 31) 0 (.cons (.loc 0) (.cons (.loc 4) (.cons (.loc 1) (.cons (.loc 2) .nil))))) (.lst 0 (.cons (.glo 37) (.cons (.glo 36) (.cons (.glo 35) .nil)))) .nil 4)
 (.exp (.meth (.loc 0) 21 (.cons (.lst 0 (.cons (.loc 1) (.cons (.loc 2) .nil))) .nil))
 (.asg 7 (.call (.glo 22) 0 (.cons (.loc 0) .nil))
 (.asg 8 (.lst 0 (.cons (.cmp .Eq (.loc 7) (.neg (.con (.int 1)))) (.cons (.cmp .Eq (.loc 7) (.con (.int 0))) (.cons (.cmp .Eq (.loc 7) (.con (.int 1))) .nil))))
 (.ret (.bop true (.cons (.cmp .In (.con (.bool true)) (.loc 8)) (.cons (.cmp .Eq (.loc 3) (.loc 8)) (.cons (.cmp .Eq (.loc 5) (.loc 8)) (.cons (.cmp .Eq (.loc 6) (.comp (.not (.loc 9)) (.loc 8) .nil 9)) .nil))))) [])))))))
noncomputable def nm32 : List Str := ["script", "pot", "areas", "store", "loose", "cells", "_", "spot", "before", "full", "short", "cell", "one", "turned"]
noncomputable def bd32 : S := (.asg 1 (.lst 2 (.cons (.con (.int 0)) (.cons (.ife (.cmp .Gt (.call (.glo 4) 0 (.cons (.loc 0) .nil)) (.con (.int 0))) (.call (.glo 38) 1 (.cons (.slc (.loc 0) .no (.con (.int 20)) .no) .nil)) (.lst 1 (.cons (.con (.int 0)) .nil))) .nil)))
 (.asg 2 (.call (.glo 39) 3 (.cons (.call (.glo 40) 4 .nil) (.cons (.lst 0 .nil) (.cons (.con (.int 3000)) (.cons (.con (.bool true)) .nil)))))
 (.asg 3 (.attr (.loc 2) 14)
 (.asg 4 (.lst 0 (.cons (.meth (.loc 3) 22 .nil) (.cons (.meth (.loc 3) 22 .nil) (.cons (.meth (.loc 3) 22 .nil) .nil))))
 (.asg 5 (.lst 16 .nil)
 (.for 6 (.call (.glo 0) 0 (.cons (.bin .Add (.con (.int 1)) (.call (.glo 27) 0 (.cons (.loc 1) (.cons (.con (.int 4)) .nil)))) .nil))
 (.ite (.bop true (.cons (.cmp .NotEq (.loc 5) (.lst 0 .nil)) (.cons (.cmp .Eq (.call (.glo 27) 0 (.cons (.loc 1) (.cons (.con (.int 4)) .nil))) (.con (.int 1))) .nil)))
 (.exp (.bm (.loc 5) .append (.cons (.sub (.loc 5) (.con (.int 0))) .nil))
 .done)
 (.exp (.bm (.loc 5) .append (.cons (.call (.glo 41) 0 (.cons (.loc 1) (.cons (.loc 2) (.cons (.loc 4) .nil)))) .nil))
 .done)
 .done)
 (.frz 5 (.for 7 (.call (.glo 0) 0 (.cons (.call (.glo 4) 0 (.cons (.loc 5) .nil)) .nil))
 (.ite (.not (.call (.glo 42) 0 (.cons (.loc 2) (.cons (.sub (.loc 5) (.bin .Sub (.loc 7) (.con (.int 1)))) (.cons (.sub (.loc 5) (.loc 7)) .nil)))))
 (.ret (.con (.bool false)) [])
 .done
 .done)
 (.asg 8 (.call (.glo 38) 0 (.cons (.attr (.loc 3) 2) .nil))
 (.asg 9 (.call (.glo 43) 0 (.cons (.loc 2) (.cons (.glo 44) (.cons (.loc 5) .nil))))
 (.asg 10 (.call (.glo 43) 0 (.cons (.loc 2) (.cons (.glo 45) (.cons (.loc 5) .nil))))
 (.ite (.bop false (.cons (.cmp .Is (.loc 9) (.con .none)) (.cons (.cmp .Is (.loc 10) (.con .none)) (.cons (.cmp .NotEq (.call (.glo 46) 0 (.cons (.loc 9) .nil)) (.call (.glo 46) 0 (.cons (.loc 5) .nil))) (.cons (.cmp .NotEq (.slc (.attr (.loc 3) 2) .no (.call (.glo 4) 0 (.cons (.loc 8) .nil)) .no) (.loc 8)) .nil)))))
 (.ret (.con (.bool false)) [])
 .done
 (.for 7 (.call (.glo 0) 0 (.cons (.con (.int 1)) (.cons (.call (.glo 4) 0 (.cons (.loc 9) .nil)) .nil)))
 (.ite (.not (.call (.glo 31) 0 (.cons (.loc 2) (.cons (.glo 35) (.cons (.sub (.loc 9) (.bin .Sub (.loc 7) (.con (.int 1)))) (.cons (.sub (.loc 9) (.loc 7)) .nil))))))
 (.ret (.con (.bool false)) [])
 .done
 .done)
 (.for 7 (.call (.glo 0) 0 (.cons (.con (.int 1)) (.cons (.call (.glo 4) 0 (.cons (.loc 10) .nil)) .nil)))
 (.ite (.not (.call (.glo 31) 0 (.cons (.loc 2) (.cons (.glo 34) (.cons (.sub (.loc 10) (.bin .Sub (.loc 7) (.con (.int 1)))) (.cons (.sub (.loc 10) (.loc 7)) .nil))))))
 (.ret (.con (.bool false)) [])
 .done
 .done)
 (.for 11 (.loc 5)
 (.ite (.cmp .Eq (.comp (.loc 12) (.loc 10) (.cons (.bop false (.cons (.cmp .Eq (.loc 12) (.loc 11)) (.cons (.call (.glo 31) 0 (.cons (.loc 2) (.cons (.glo 33) (.cons (.loc 12) (.cons (.loc 11) .nil))))) .nil))) .nil) 12) (.lst 0 .nil))
 (.ret (.con (.bool false)) [])
 .done
 .done)
 (.ite (.cmp .NotEq (.comp (.loc 12) (.loc 10) (.cons (.cmp .NotIn (.loc 12) (.loc 5)) .nil) 12) (.lst 0 .nil))
 (.ret (.con (.bool false)) [])
 .done
 (.ite (.bop false (.cons (.cmp .NotEq (.call (.glo 43) 0 (.cons (.loc 2) (.cons (.glo 44) (.cons (.loc 9) .nil)))) (.loc 9)) (.cons (.cmp .NotEq (.call (.glo 43) 0 (.cons (.loc 2) (.cons (.glo 45) (.cons (.loc 10) .nil)))) (.loc 10)) .nil)))
 (.ret (.con (.bool false)) [])
 .done
 (.ite (.bop false (.cons (.cmp .NotEq (.call (.glo 43) 0 (.cons (.loc 2) (.cons (.glo 45) (.cons (.loc 9) .nil)))) (.loc 10)) (.cons (.cmp .NotEq (.call (.glo 43) 0 (.cons (.loc 2) (.cons (.glo 44) (.cons (.loc 10) .nil)))) (.loc 10)) .nil)))
 (.ret (.con (.bool false)) [])
 .done
 (.asg 13 (.call (.glo 43) 0 (.cons (.loc 2) (.cons (.glo 45) (.cons (.slc (.loc 5) .no .no (.neg (.con (.int 1)))) .nil))))
 (.ret (.call (.glo 31) 0 (.cons (.loc 2) (.cons (.glo 33) (.cons (.meth (.loc 3) 17 (.cons (.loc 13) .nil)) (.cons (.meth (.loc 3) 17 (.cons (.loc 10) .nil)) .nil))))) []))))))))))))))))))))
noncomputable def nm33 : List Str := ["self", "text", "row"]
noncomputable def bd33 : S := (.asga (.loc 0) 23 (.lst 5 .nil)
 (.asga (.loc 0) 24 (.dic 6 false)
 (.asga (.loc 0) 25 (.lst 7 .nil)
 (.asga (.loc 0) 26 (.dic 8 true)
 (.for 1 (.call (.glo 47) 0 .nil)
 (.exp (.meth (.loc 0) 18 (.cons (.loc 1) .nil))
 .done)
 (.for 2 (.call (.glo 48) 0 .nil)
 (.exp (.meth (.loc 0) 19 (.cons (.sub (.loc 2) (.con (.int 0))) (.cons (.sub (.loc 2) (.con (.int 1))) .nil)))
 .done)
 .done))))))
noncomputable def nm34 : List Str := ["self", "text", "found", "number"]
noncomputable def bd34 : S := (.asg 2 (.bm (.attr (.loc 0) 24) .get (.cons (.loc 1) (.cons (.neg (.con (.int 1))) .nil)))
 (.ite (.cmp .GtE (.loc 2) (.con (.int 0)))
 (.ret (.loc 2) [])
 .done
 (.asg 3 (.call (.glo 4) 0 (.cons (.attr (.loc 0) 23) .nil))
 (.exp (.bm (.attr (.loc 0) 23) .append (.cons (.loc 1) .nil))
 (.asgs (.attr (.loc 0) 24) (.loc 1) (.loc 3)
 (.ret (.loc 3) []))))))
noncomputable def nm35 : List Str := ["self", "number"]
noncomputable def bd35 : S := (.ret (.sub (.attr (.loc 0) 23) (.loc 1)) [])
noncomputable def nm36 : List Str := ["self", "atom", "arity", "key", "found", "number"]
noncomputable def bd36 : S := (.asg 3 (.tup (.cons (.loc 1) (.cons (.loc 2) .nil)))
 (.asg 4 (.bm (.attr (.loc 0) 26) .get (.cons (.loc 3) (.cons (.neg (.con (.int 1))) .nil)))
 (.ite (.cmp .GtE (.loc 4) (.con (.int 0)))
 (.ret (.loc 4) [])
 .done
 (.asg 5 (.call (.glo 4) 0 (.cons (.attr (.loc 0) 25) .nil))
 (.exp (.bm (.attr (.loc 0) 25) .append (.cons (.loc 3) .nil))
 (.asgs (.attr (.loc 0) 26) (.loc 3) (.loc 5)
 (.ret (.loc 5) [])))))))
noncomputable def nm37 : List Str := ["self", "text", "arity"]
noncomputable def bd37 : S := (.ret (.meth (.loc 0) 27 (.cons (.meth (.loc 0) 18 (.cons (.loc 1) .nil)) (.cons (.loc 2) .nil))) [])
noncomputable def nm38 : List Str := ["self", "functor"]
noncomputable def bd38 : S := (.ret (.sub (.sub (.attr (.loc 0) 25) (.loc 1)) (.con (.int 0))) [])
noncomputable def nm39 : List Str := ["self", "functor"]
noncomputable def bd39 : S := (.ret (.sub (.sub (.attr (.loc 0) 25) (.loc 1)) (.con (.int 1))) [])
noncomputable def nm40 : List Str := ["self", "symbols", "max_heap"]
noncomputable def bd40 : S := (.asga (.loc 0) 8 (.loc 1)
 (.asga (.loc 0) 28 (.loc 2)
 (.asga (.loc 0) 2 (.lst 10 .nil)
 (.asga (.loc 0) 29 (.lst 11 .nil)
 (.asga (.loc 0) 30 (.lst 12 .nil)
 (.asga (.loc 0) 31 (.con (.int 0))
 (.asga (.loc 0) 32 (.con (.int 0))
 .done)))))))
noncomputable def nm41 : List Str := ["self", "cell", "address"]
noncomputable def bd41 : S := (.asg 2 (.call (.glo 4) 0 (.cons (.attr (.loc 0) 2) .nil))
 (.ite (.cmp .GtE (.loc 2) (.attr (.loc 0) 28))
 (.raw .done)
 .done
 (.exp (.bm (.attr (.loc 0) 2) .append (.cons (.loc 1) .nil))
 (.ret (.loc 2) []))))
noncomputable def nm42 : List Str := ["self", "cell"]
noncomputable def bd42 : S := (.asg 1 (.tup (.cons (.glo 2) (.cons (.call (.glo 4) 0 (.cons (.attr (.loc 0) 2) .nil)) .nil)))
 (.exp (.meth (.loc 0) 33 (.cons (.loc 1) .nil))
 (.ret (.loc 1) [])))
noncomputable def nm43 : List Str := ["self", "count", "first", "step"]
noncomputable def bd43 : S := (.asg 2 (.call (.glo 4) 0 (.cons (.attr (.loc 0) 2) .nil))
 (.ite (.cmp .Gt (.bin .Add (.loc 2) (.loc 1)) (.attr (.loc 0) 28))
 (.raw .done)
 .done
 (.for 3 (.call (.glo 0) 0 (.cons (.loc 1) .nil))
 (.exp (.bm (.attr (.loc 0) 2) .append (.cons (.tup (.cons (.glo 2) (.cons (.bin .Add (.loc 2) (.loc 3)) .nil))) .nil))
 .done)
 (.ret (.loc 2) []))))
noncomputable def nm44 : List Str := ["self", "cell", "tag", "found"]
noncomputable def bd44 : S := (.whl (.con (.bool true))
 (.asg 2 (.sub (.loc 1) (.con (.int 0)))
 (.ite (.cmp .Eq (.loc 2) (.glo 2))
 (.asg 3 (.sub (.attr (.loc 0) 2) (.sub (.loc 1) (.con (.int 1))))
 .done)
 (.ite (.cmp .Eq (.loc 2) (.glo 1))
 (.asg 3 (.sub (.attr (.loc 0) 29) (.sub (.loc 1) (.con (.int 1))))
 .done)
 (.ret (.loc 1) [])
 .done)
 (.ite (.cmp .Eq (.loc 3) (.loc 1))
 (.ret (.loc 1) [])
 .done
 (.asg 1 (.loc 3)
 .done))))
 .done)
noncomputable def nm45 : List Str := ["self", "cell", "value", "place"]
noncomputable def bd45 : S := (.asg 3 (.sub (.loc 1) (.con (.int 1)))
 (.ite (.cmp .Eq (.sub (.loc 1) (.con (.int 0))) (.glo 2))
 (.asgs (.attr (.loc 0) 2) (.loc 3) (.loc 2)
 (.ite (.cmp .Lt (.loc 3) (.attr (.loc 0) 31))
 (.exp (.bm (.attr (.loc 0) 30) .append (.cons (.loc 3) .nil))
 .done)
 .done
 .done))
 (.asgs (.attr (.loc 0) 29) (.loc 3) (.loc 2)
 (.ite (.cmp .Lt (.loc 3) (.attr (.loc 0) 32))
 (.exp (.bm (.attr (.loc 0) 30) .append (.cons (.bin .Sub (.neg (.con (.int 1))) (.loc 3)) .nil))
 .done)
 .done
 .done))
 .done))
noncomputable def nm46 : List Str := ["self", "cell", "fresh"]
noncomputable def bd46 : S := (.asg 1 (.meth (.loc 0) 3 (.cons (.loc 1) .nil))
 (.ite (.cmp .Eq (.sub (.loc 1) (.con (.int 0))) (.glo 1))
 (.asg 2 (.meth (.loc 0) 22 .nil)
 (.exp (.meth (.loc 0) 7 (.cons (.loc 1) (.cons (.loc 2) .nil)))
 (.ret (.loc 2) [])))
 .done
 (.ret (.loc 1) [])))
noncomputable def nm47 : List Str := ["self", "cell"]
noncomputable def bd47 : S := (.ret (.bop false (.cons (.cmp .Eq (.sub (.loc 1) (.con (.int 0))) (.glo 15)) (.cons (.cmp .Eq (.sub (.loc 1) (.con (.int 0))) (.glo 14)) .nil))) [])
noncomputable def nm48 : List Str := ["self", "cell", "tag"]
noncomputable def bd48 : S := (.asg 2 (.sub (.loc 1) (.con (.int 0)))
 (.ite (.cmp .Eq (.loc 2) (.glo 15))
 (.ret (.sub (.sub (.attr (.loc 0) 2) (.sub (.loc 1) (.con (.int 1)))) (.con (.int 1))) [])
 .done
 (.ite (.cmp .Eq (.loc 2) (.glo 14))
 (.ret (.glo 30) [])
 .done
 (.ite (.cmp .Eq (.loc 2) (.glo 13))
 (.ret (.meth (.attr (.loc 0) 8) 27 (.cons (.sub (.loc 1) (.con (.int 1))) (.cons (.con (.int 0)) .nil))) [])
 .done
 (.ret (.neg (.con (.int 1))) [])))))
noncomputable def nm49 : List Str := ["self", "cell", "tag"]
noncomputable def bd49 : S := (.asg 2 (.sub (.loc 1) (.con (.int 0)))
 (.ite (.cmp .Eq (.loc 2) (.glo 14))
 (.ret (.con (.int 2)) [])
 .done
 (.ite (.cmp .Eq (.loc 2) (.glo 15))
 (.ret (.meth (.attr (.loc 0) 8) 10 (.cons (.sub (.sub (.attr (.loc 0) 2) (.sub (.loc 1) (.con (.int 1)))) (.con (.int 1))) .nil)) [])
 .done
 (.ret (.con (.int 0)) []))))
noncomputable def nm50 : List Str := ["self", "cell"]
noncomputable def bd50 : S := (.ite (.cmp .Eq (.sub (.loc 1) (.con (.int 0))) (.glo 14))
 (.ret (.sub (.loc 1) (.con (.int 1))) [])
 .done
 (.ret (.bin .Add (.sub (.loc 1) (.con (.int 1))) (.con (.int 1))) []))
noncomputable def nm51 : List Str := ["self", "f", "start"]
noncomputable def bd51 : S := (.ite (.cmp .Eq (.loc 1) (.glo 30))
 (.ret (.tup (.cons (.glo 14) (.cons (.meth (.loc 0) 34 (.cons (.con (.int 2)) .nil)) .nil))) [])
 .done
 (.asg 2 (.meth (.loc 0) 34 (.cons (.bin .Add (.con (.int 1)) (.meth (.attr (.loc 0) 8) 10 (.cons (.loc 1) .nil))) .nil))
 (.asgs (.attr (.loc 0) 2) (.loc 2) (.tup (.cons (.glo 49) (.cons (.loc 1) .nil)))
 (.ret (.tup (.cons (.glo 15) (.cons (.loc 2) .nil))) []))))
noncomputable def nm52 : List Str := ["self", "f", "cells", "values", "cell", "made", "place", "value"]
noncomputable def bd52 : S := (.ite (.cmp .Eq (.call (.glo 4) 0 (.cons (.loc 2) .nil)) (.con (.int 0)))
 (.ret (.tup (.cons (.glo 13) (.cons (.meth (.attr (.loc 0) 8) 12 (.cons (.loc 1) .nil)) .nil))) [])
 .done
 (.asg 3 (.lst 20 .nil)
 (.for 4 (.loc 2)
 (.exp (.bm (.loc 3) .append (.cons (.meth (.loc 0) 35 (.cons (.loc 4) .nil)) .nil))
 .done)
 (.frz 3 (.asg 5 (.meth (.loc 0) 36 (.cons (.loc 1) .nil))
 (.asg 6 (.meth (.loc 0) 0 (.cons (.loc 5) .nil))
 (.for 7 (.loc 3)
 (.asgs (.attr (.loc 0) 2) (.loc 6) (.loc 7)
 (.aug 6 .Add (.con (.int 1))
 .done))
 (.ret (.loc 5) []))))))))
noncomputable def nm53 : List Str := ["self", "cells", "tail", "end", "values", "cell", "start", "place", "value"]
noncomputable def bd53 : S := (.ite (.cmp .Is (.loc 2) (.con .none))
 (.asg 3 (.tup (.cons (.glo 13) (.cons (.glo 28) .nil)))
 .done)
 (.asg 3 (.meth (.loc 0) 35 (.cons (.loc 2) .nil))
 .done)
 (.asg 4 (.lst 21 .nil)
 (.for 5 (.loc 1)
 (.exp (.bm (.loc 4) .append (.cons (.meth (.loc 0) 35 (.cons (.loc 5) .nil)) .nil))
 .done)
 (.frz 4 (.ite (.cmp .Eq (.call (.glo 4) 0 (.cons (.loc 4) .nil)) (.con (.int 0)))
 (.ret (.loc 3) [])
 .done
 (.asg 6 (.meth (.loc 0) 34 (.cons (.bin .Mult (.con (.int 2)) (.call (.glo 4) 0 (.cons (.loc 4) .nil))) .nil))
 (.asg 7 (.loc 6)
 (.for 8 (.loc 4)
 (.asgs (.attr (.loc 0) 2) (.loc 7) (.loc 8)
 (.asgs (.attr (.loc 0) 2) (.bin .Add (.loc 7) (.con (.int 1))) (.tup (.cons (.glo 14) (.cons (.bin .Add (.loc 7) (.con (.int 2))) .nil)))
 (.aug 7 .Add (.con (.int 2))
 .done)))
 (.asgs (.attr (.loc 0) 2) (.bin .Sub (.loc 7) (.con (.int 1))) (.loc 3)
 (.ret (.tup (.cons (.glo 14) (.cons (.loc 6) .nil))) []))))))))))
noncomputable def nm54 : List Str := ["self", "cell", "found", "seen"]
noncomputable def bd54 : S := (.asg 2 (.lst 22 .nil)
 (.asg 3 (.call (.glo 10) 23 .nil)
 (.asg 1 (.meth (.loc 0) 3 (.cons (.loc 1) .nil))
 (.whl (.bop true (.cons (.cmp .Eq (.sub (.loc 1) (.con (.int 0))) (.glo 14)) (.cons (.cmp .NotIn (.sub (.loc 1) (.con (.int 1))) (.loc 3)) .nil)))
 (.exp (.bm (.loc 3) .add (.cons (.sub (.loc 1) (.con (.int 1))) .nil))
 (.exp (.bm (.loc 2) .append (.cons (.meth (.loc 0) 3 (.cons (.sub (.attr (.loc 0) 2) (.sub (.loc 1) (.con (.int 1)))) .nil)) .nil))
 (.asg 1 (.meth (.loc 0) 3 (.cons (.sub (.attr (.loc 0) 2) (.bin .Add (.sub (.loc 1) (.con (.int 1))) (.con (.int 1)))) .nil))
 .done)))
 (.frz 2 (.ret (.tup (.cons (.loc 2) (.cons (.loc 1) .nil))) [23]))))))
noncomputable def nm55 : List Str := ["self", "store"]
noncomputable def bd55 : S := (.asga (.loc 0) 37 (.bin .Add (.call (.glo 4) 0 (.cons (.attr (.loc 1) 2) .nil)) (.con (.int 1)))
 (.asga (.loc 0) 38 (.call (.glo 10) 32 .nil)
 .done))
noncomputable def nm56 : List Str := ["self", "left", "right", "number"]
noncomputable def bd56 : S := (.asg 3 (.bin .Add (.bin .Mult (.sub (.loc 1) (.con (.int 1))) (.attr (.loc 0) 37)) (.sub (.loc 2) (.con (.int 1))))
 (.ite (.cmp .In (.loc 3) (.attr (.loc 0) 38))
 (.ret (.con (.bool false)) [])
 .done
 (.exp (.bm (.attr (.loc 0) 38) .add (.cons (.loc 3) .nil))
 (.ret (.con (.bool true)) []))))
noncomputable def nm57 : List Str := ["self", "symbols", "code", "max_heap", "occurs", "max_bits"]
noncomputable def bd57 : S := (.asga (.loc 0) 8 (.loc 1)
 (.asga (.loc 0) 39 (.loc 2)
 (.asga (.loc 0) 28 (.loc 3)
 (.asga (.loc 0) 40 (.loc 4)
 (.asga (.loc 0) 41 (.loc 5)
 (.exp (.meth (.loc 0) 42 .nil)
 .done))))))
noncomputable def nm58 : List Str := ["self"]
noncomputable def bd58 : S := (.asga (.loc 0) 14 (.call (.glo 50) 9 (.cons (.attr (.loc 0) 8) (.cons (.attr (.loc 0) 28) .nil)))
 (.asga (.loc 0) 43 (.lst 13 (.cons (.glo 51) .nil))
 (.asga (.loc 0) 44 (.con (.int 0))
 (.asga (.loc 0) 45 (.con (.int 0))
 (.asga (.loc 0) 46 (.neg (.con (.int 1)))
 (.asga (.loc 0) 47 (.neg (.con (.int 1)))
 (.asga (.loc 0) 48 (.neg (.con (.int 1)))
 (.asga (.loc 0) 49 (.glo 52)
 (.asga (.loc 0) 50 (.con (.int 0))
 (.asga (.loc 0) 51 (.glo 51)
 (.asga (.loc 0) 52 (.lst 0 .nil)
 (.asga (.loc 0) 53 (.dic 14 false)
 (.asga (.loc 0) 54 (.con (.bool false))
 .done)))))))))))))
noncomputable def nm59 : List Str := ["self", "number", "cell"]
noncomputable def bd59 : S := (.whl (.cmp .LtE (.call (.glo 4) 0 (.cons (.attr (.loc 0) 43) .nil)) (.loc 1))
 (.exp (.bm (.attr (.loc 0) 43) .append (.cons (.glo 51) .nil))
 .done)
 (.asgs (.attr (.loc 0) 43) (.loc 1) (.loc 2)
 .done))
noncomputable def nm60 : List Str := ["self", "cells", "number", "cell"]
noncomputable def bd60 : S := (.asg 2 (.con (.int 0))
 (.for 3 (.loc 1)
 (.aug 2 .Add (.con (.int 1))
 (.exp (.meth (.loc 0) 55 (.cons (.loc 2) (.cons (.loc 3) .nil)))
 .done))
 .done))
noncomputable def nm61 : List Str := ["self", "i"]
noncomputable def bd61 : S := (.ret (.meth (.attr (.loc 0) 14) 35 (.cons (.sub (.attr (.loc 0) 43) (.loc 1)) .nil)) [])
noncomputable def nm62 : List Str := ["self", "c1", "c2"]
noncomputable def bd62 : S := (.ret (.call (.glo 53) 0 (.cons (.attr (.loc 0) 14) (.cons (.loc 1) (.cons (.loc 2) (.cons (.attr (.loc 0) 40) .nil))))) [])
noncomputable def nmT : List (List Str) := [nm0, nm1, nm2, nm3, nm4, nm5, nm6, nm7, nm8, nm9, nm10, nm11, nm12, nm13, nm14, nm15, nm16, nm17, nm18, nm19, nm20, nm21, nm22, nm23, nm24, nm25, nm26, nm27, nm28, nm29, nm30, nm31, nm32, nm33, nm34, nm35, nm36, nm37, nm38, nm39, nm40, nm41, nm42, nm43, nm44, nm45, nm46, nm47, nm48, nm49, nm50, nm51, nm52, nm53, nm54, nm55, nm56, nm57, nm58, nm59, nm60, nm61, nm62]
noncomputable def fdL : List FD := [
  ⟨0, 0, [], [], bd0⟩,
  ⟨0, 0, [], [], bd1⟩,
  ⟨3, 5, [], [], bd2⟩,
  ⟨4, 7, [], [], bd3⟩,
  ⟨1, 1, [], [], bd4⟩,
  ⟨4, 8, [], [32, 34, 35], bd5⟩,
  ⟨4, 4, [], [], bd6⟩,
  ⟨3, 5, [], [36, 37], bd7⟩,
  ⟨1, 2, [], [], bd8⟩,
  ⟨2, 2, [], [], bd9⟩,
  ⟨3, 7, [], [], bd10⟩,
  ⟨3, 5, [], [], bd11⟩,
  ⟨3, 8, [], [31, 32, 33], bd12⟩,
  ⟨5, 9, [], [30], bd13⟩,
  ⟨4, 9, [], [24, 25, 26, 28], bd14⟩,
  ⟨1, 1, [], [], bd15⟩,
  ⟨1, 1, [], [], bd16⟩,
  ⟨1, 1, [], [], bd17⟩,
  ⟨1, 1, [], [], bd18⟩,
  ⟨1, 1, [], [], bd19⟩,
  ⟨1, 1, [], [], bd20⟩,
  ⟨1, 1, [], [], bd21⟩,
  ⟨2, 4, [], [], bd22⟩,
  ⟨2, 4, [], [], bd23⟩,
  ⟨1, 3, [], [], bd24⟩,
  ⟨1, 3, [], [], bd25⟩,
  ⟨2, 5, [], [], bd26⟩,
  ⟨3, 4, [], [], bd27⟩,
  ⟨3, 7, [], [], bd28⟩,
  ⟨4, 4, [], [], bd29⟩,
  ⟨3, 6, [], [], bd30⟩,
  ⟨3, 10, [], [], bd31⟩,
  ⟨1, 14, [], [16], bd32⟩,
  ⟨1, 3, [], [], bd33⟩,
  ⟨2, 4, [], [], bd34⟩,
  ⟨2, 2, [], [], bd35⟩,
  ⟨3, 6, [], [], bd36⟩,
  ⟨3, 3, [], [], bd37⟩,
  ⟨2, 2, [], [], bd38⟩,
  ⟨2, 2, [], [], bd39⟩,
  ⟨3, 3, [(.int 100000)], [], bd40⟩,
  ⟨2, 3, [], [], bd41⟩,
  ⟨1, 2, [], [], bd42⟩,
  ⟨2, 4, [], [], bd43⟩,
  ⟨2, 4, [], [], bd44⟩,
  ⟨3, 4, [], [], bd45⟩,
  ⟨2, 3, [], [], bd46⟩,
  ⟨2, 2, [], [], bd47⟩,
  ⟨2, 3, [], [], bd48⟩,
  ⟨2, 3, [], [], bd49⟩,
  ⟨2, 2, [], [], bd50⟩,
  ⟨2, 3, [], [], bd51⟩,
  ⟨3, 8, [], [20], bd52⟩,
  ⟨3, 9, [.none], [21], bd53⟩,
  ⟨2, 4, [], [22, 23], bd54⟩,
  ⟨2, 2, [], [], bd55⟩,
  ⟨3, 4, [], [], bd56⟩,
  ⟨6, 6, [(.int 100000), (.bool true), (.int 4096)], [], bd57⟩,
  ⟨1, 1, [], [], bd58⟩,
  ⟨3, 3, [], [], bd59⟩,
  ⟨2, 4, [], [], bd60⟩,
  ⟨2, 2, [], [], bd61⟩,
  ⟨3, 3, [], [], bd62⟩]
noncomputable def fdT (f : Nat) : Option FD := fdL[f]?
noncomputable def nameL (l : List String) : List Str := l.map Str.ofString
noncomputable def gloT : List Str := nameL ["range", "SRF", "REF", "PairSet", "len", "is_variable", "bind_checked", "same_shape", "push_pairs", "occurs_in", "set", "push_arguments", "INT", "CON", "LIS", "STR", "order", "rank", "compare_shapes", "compare_tops", "compare", "merge", "order_of", "NIL_CELL", "proper_list", "partial_list", "merge_sort", "_law_digit", "A_NIL", "_law_simple", "F_DOT", "_law_holds", "pred_after", "pred_identical", "pred_before", "pred_not_after", "pred_not_identical", "pred_not_before", "list", "Areas", "Symbols", "_law_element", "_law_between", "_law_sorted", "pred_msort", "pred_sort", "sorted", "fixed_atoms", "fixed_functors", "FUN", "Store", "VOID", "READ", "unify_unify"]
noncomputable def attT : List Str := nameL ["base", "width", "heap", "deref", "bind_pair", "is_compound", "add", "bind", "symbols", "functor_of", "arity", "text", "name", "arg", "store", "list_cells", "unify", "build_list", "atom", "func", "new_struct", "set_arguments", "new_var", "texts", "atom_numbers", "functors", "functor_numbers", "functor", "max_heap", "stack", "trail", "hb", "bb", "push", "reserve", "globalise", "new_block", "span", "met", "code", "occurs", "max_bits", "reset", "x", "p", "cp", "e", "b", "b0", "mode", "s", "guard", "roots", "bags", "collect_wanted", "set_x"]
noncomputable def gloL : List (Option GK) := [some .range, some (.dat (.int 1)), some (.dat (.int 0)), some (.cls 3), some .len, some (.fn 4), some (.fn 6), none, some (.fn 3), some (.fn 7), some .set, some (.fn 2), some (.dat (.int 5)), some (.dat (.int 4)), some (.dat (.int 3)), some (.dat (.int 2)), some (.fn 9), some (.fn 8), some (.fn 10), some (.fn 11), some (.fn 12), some (.fn 13), some (.fn 15), some (.dat (.tuple [(.int 4), (.int 0)])), some (.fn 23), some (.fn 22), some (.fn 14), some (.fn 26), some (.dat (.int 0)), some (.fn 27), some (.dat (.int 0)), some (.fn 29), some (.fn 19), some (.fn 16), some (.fn 18), some (.fn 20), some (.fn 17), some (.fn 21), some .list, some (.cls 2), some (.cls 0), some (.fn 28), some (.fn 31), some (.fn 30), some (.fn 25), some (.fn 24), some .sorted, some (.fn 0), some (.fn 1), some (.dat (.int 6)), some (.cls 1), some (.dat (.tuple [(.int 5), (.int 0)])), some (.dat (.str "read")), some (.fn 5)]
noncomputable def tbGlo (i : Nat) : Option GK := gloL.getD i none
noncomputable def methL : List (List (Nat × Nat)) := [[(10, 39), (11, 35), (12, 38), (18, 34), (19, 37), (27, 36)], [(0, 50), (1, 49), (3, 44), (5, 47), (7, 45), (9, 48), (15, 54), (17, 53), (20, 52), (22, 42), (33, 41), (34, 43), (35, 46), (36, 51)], [(13, 61), (16, 62), (21, 60), (42, 58), (55, 59)], [(6, 56)]]
noncomputable def tbMeth (c m : Nat) : Option Nat := (methL.getD c []).lookup m
noncomputable def tbIni : Nat → Option Nat
  | 0 => some 33
  | 1 => some 40
  | 2 => some 57
  | 3 => some 55
  | _ => none
noncomputable def attL : List (List Nat) := [[23, 24, 25, 26], [8, 28, 2, 29, 30, 31, 32], [8, 39, 28, 40, 41, 14, 43, 44, 45, 46, 47, 48, 49, 50, 51, 52, 53, 54], [37, 38]]
noncomputable def tbAtt (c a : Nat) : Bool := (attL.getD c []).elem a
noncomputable def tb : Tb := ⟨tbGlo, tbMeth, tbIni, tbAtt⟩
noncomputable def nAtt : Nat := 56
end Mine
end
section
open PySem PySem.W PyProof.Rows
namespace Mine
open PySem PySem.Calls
noncomputable def clA : Nat → Addr
  | 0 => 154
  | 1 => 395
  | 2 => 759
  | _ => 421
noncomputable def fnA (f : Nat) : Addr := [60, 67, 432, 439, 453, 460, 467, 474, 481, 488, 495, 502, 509, 516, 523, 531, 538, 545, 552, 559, 566, 573, 580, 587, 594, 601, 770, 777, 782, 789, 796, 801, 806, 81, 88, 95, 102, 109, 116, 123, 209, 216, 223, 230, 244, 258, 272, 300, 307, 314, 321, 335, 356, 364, 371, 411, 418, 616, 623, 630, 637, 644].getD f 651
noncomputable def gloV (i : Nat) : Option Value := match tbGlo i with
  | some (.fn f) => some (.ref (fnA f))
  | some (.cls c) => some (.ref (clA c))
  | some .len => some (.builtin "len")
  | some .range => some (.type "range")
  | some .list => some (.type "list")
  | some .sorted => some (.builtin "sorted")
  | some .set => some (.type "set")
  | _ => none
noncomputable def okStep (c : Int) : Prop := c = 1 ∨ c = 2 ∨ c = -1
inductive VR (g : Heap) (ρ : Nat → Addr) (σ : H) : AV → Value → Prop
  | un : VR g ρ σ .un .none
  | d {x v as} : Reads g v x as → VR g ρ σ (.d x) v
  | obj {k} : (look σ k).isSome = true → VR g ρ σ (.obj k) (.ref (ρ k))
  | ins {c k x} : (look σ k).isSome = true → g.get? x = some (instObj (clA c) (ρ k)) → VR g ρ σ (.ins c k) (.ref x)
  | fn {i v} : gloV i = some v → VR g ρ σ (.fn i) v
  | fns {l a items n} : g.get? a = some (listOf items n) → l.map gloV = items.toList.map some → VR g ρ σ (.fns l) (.ref a)
  | rng {a b c r t u v} : IsRange g r a b c t u v → small a → small b → okStep c → VR g ρ σ (.rng a b c) (.ref r)
inductive VRs (g : Heap) (ρ : Nat → Addr) (σ : H) : List AV → List Value → Prop
  | nil : VRs g ρ σ [] []
  | cons {a v l vs} : VR g ρ σ a v → VRs g ρ σ l vs → VRs g ρ σ (a :: l) (v :: vs)
noncomputable def attN (a : Nat) : Str := attT.getD a "?"
structure NsR (g : Heap) (ρ : Nat → Addr) (σ : H) (l : List (Nat × AV)) (es : List DictEntry) : Prop where
  len : es.length ≤ l.length
  get : ∀ a, a < nAtt → match l.lookup a with
    | some av => ∃ v, getL (attN a) es = some (some v) ∧ VR g ρ σ av v
    | none => getL (attN a) es = some none
noncomputable def IntPairs (l : List (Str × Int)) (kvs : List (Str × Value)) : Prop := l.map (·.1) = kvs.map (·.1) ∧ ∀ (i : Nat) (p : Str × Int) (q : Str × Value), l[i]? = some p → kvs[i]? = some q → ∃ t, q.2 = Value.int p.2 t
noncomputable def TupPairs (l : List (List Int × Int)) (xs : List (List Int × Addr × Value)) : Prop := l.map (·.1) = xs.map (·.1) ∧ ∀ (i : Nat) (p : List Int × Int) (q : List Int × Addr × Value), l[i]? = some p → xs[i]? = some q → ∃ t, q.2.2 = Value.int p.2 t
section
variable (prog : Program) (w : World)
noncomputable def OAt (g : Heap) (ρ : Nat → Addr) (σ : H) (h : Heap) : AO → Addr → Prop
  | .dat l, a => ∃ items n as, h.get? a = some (listOf items n) ∧ ReadsAll g items.toList l as
  | .mix l, a => ∃ items n, h.get? a = some (listOf items n) ∧ VRs g ρ σ l items.toList
  | .ns l, a => ∃ es n, h.get? a = some (dictOf es n) ∧ NsR g ρ σ l es
  | .dstr l, a => ∃ kvs, h.DictOf (PySem.strKind prog w) a kvs ∧ IntPairs l kvs
  | .dtup l, a => ∃ xs, h.DictOfH (tupleKind (PySem.intKind prog w)) a xs ∧ TupPairs l xs ∧ ∀ x ∈ xs, IsTupleKey (PySem.intKind prog w) g x.1 x.2.1
  | .iset l, a => h.SetOf (PySem.intKind prog w) a (fun k => decide (k ∈ l)) l.length
structure St (hB g : Heap) (ρ : Nat → Addr) (σ : H) (h : Heap) : Prop where
  base : ∀ b o, hB.get? b = some o → g.get? b = some o
  sub : ∀ b o, g.get? b = some o → h.get? b = some o
  own : ∀ k o, look σ k = some o → g.get? (ρ k) = none ∧ ρ k ≠ sysModules ∧ OAt prog w g ρ σ h o (ρ k)
  inj : ∀ k k', (look σ k).isSome = true → (look σ k').isSome = true → ρ k = ρ k' → k = k'
  nd : (σ.map (·.1)).Nodup
  pin : ∃ a o, sysModules < a ∧ g.get? a = some o
end
structure Grow (g : Heap) (ρ : Nat → Addr) (σ : H) (g' : Heap) (ρ' : Nat → Addr) (σ' : H) : Prop where
  sub : ∀ b o, g.get? b = some o → g'.get? b = some o
  dom : ∀ k, (look σ k).isSome = true → (look σ' k).isSome = true
  rho : ∀ k, (look σ k).isSome = true → ρ' k = ρ k
theorem Grow.refl (g : Heap) (ρ : Nat → Addr) (σ : H) : Grow g ρ σ g ρ σ := ⟨fun _ _ e => e, fun _ e => e, fun _ _ => rfl⟩
theorem Grow.trans {g g' g'' : Heap} {ρ ρ' ρ'' : Nat → Addr} {σ σ' σ'' : H} (a : Grow g ρ σ g' ρ' σ') (b : Grow g' ρ' σ' g'' ρ'' σ'') : Grow g ρ σ g'' ρ'' σ'' :=
  ⟨fun x o e => b.sub x o (a.sub x o e), fun k e => b.dom k (a.dom k e), fun k e => (b.rho k (a.dom k e)).trans (a.rho k e)⟩
theorem isRange_keeps {g g' : Heap} (hk : ∀ b o, g.get? b = some o → g'.get? b = some o) {r : Addr} {a b c : Int} {t u v : Tok} (h : IsRange g r a b c t u v) : IsRange g' r a b c t u v := by
  exact hk _ _ h
theorem VR.mono {g g' : Heap} {ρ ρ' : Nat → Addr} {σ σ' : H} (G : Grow g ρ σ g' ρ' σ') {a : AV} {v : Value} (h : VR g ρ σ a v) : VR g' ρ' σ' a v := by
  cases h with
  | un => exact .un
  | d r => exact .d (Reads.keeps G.sub r)
  | @obj k e =>
    have h1 := VR.obj (g := g') (ρ := ρ') (G.dom k e)
    rwa [G.rho k e] at h1
  | @ins c k x e hx => exact .ins (G.dom k e) (by rw [G.rho k e]; exact G.sub _ _ hx)
  | fn e => exact .fn e
  | fns e1 e2 => exact .fns (G.sub _ _ e1) e2
  | rng e a b c => exact .rng (isRange_keeps G.sub e) a b c
theorem VRs.mono {g g' : Heap} {ρ ρ' : Nat → Addr} {σ σ' : H} (G : Grow g ρ σ g' ρ' σ') : ∀ {l : List AV} {vs : List Value}, VRs g ρ σ l vs → VRs g' ρ' σ' l vs
  | _, _, .nil => .nil
  | _, _, .cons a b => .cons (a.mono G) (b.mono G)
theorem NsR.mono {g g' : Heap} {ρ ρ' : Nat → Addr} {σ σ' : H} (G : Grow g ρ σ g' ρ' σ') {l : List (Nat × AV)} {es : List DictEntry} (h : NsR g ρ σ l es) : NsR g' ρ' σ' l es := by
  refine ⟨h.len, fun a ha => ?_⟩
  have := h.get a ha
  cases e : l.lookup a with
  | none => rw [e] at this; exact this
  | some av => rw [e] at this; obtain ⟨v, h1, h2⟩ := this; exact ⟨v, h1, h2.mono G⟩
section
variable {prog : Program} {w : World}
theorem isTupleKey_keeps {g g' : Heap} (hk : ∀ b o, g.get? b = some o → g'.get? b = some o) {ks : List Int} {a : Addr} (h : IsTupleKey (PySem.intKind prog w) g ks a) : IsTupleKey (PySem.intKind prog w) g' ks a :=
  let ⟨o, items, n, ho, r⟩ := h; ⟨o, items, n, hk _ _ ho, r⟩
theorem setOf_at {h h' : Heap} {a : Addr} {S : Int → Bool} {n : Nat} (e : h'.get? a = h.get? a) (m : h.SetOf (PySem.intKind prog w) a S n) : h'.SetOf (PySem.intKind prog w) a S n :=
  let ⟨o, es, ep, t, ho, r⟩ := m; ⟨o, es, ep, t, e.trans ho, r⟩
theorem dictOf_at {K : Type} [DecidableEq K] {knd : KeyKind prog w K} {h h' : Heap} {a : Addr} {kvs : List (K × Value)} (e : h'.get? a = h.get? a) (m : h.DictOf knd a kvs) : h'.DictOf knd a kvs :=
  let ⟨o, es, ep, ho, r⟩ := m; ⟨o, es, ep, e.trans ho, r⟩
theorem dictOfH_at {h g : Heap} {h' : Heap} {a : Addr} {xs : List (List Int × Addr × Value)} (e : h'.get? a = h.get? a) (hk : ∀ x ∈ xs, IsTupleKey (PySem.intKind prog w) g x.1 x.2.1) (hs : ∀ b o, g.get? b = some o → h'.get? b = some o)
    (m : h.DictOfH (tupleKind (PySem.intKind prog w)) a xs) : h'.DictOfH (tupleKind (PySem.intKind prog w)) a xs :=
  let ⟨o, es, ep, ho, r1, r2, r3, _, r5⟩ := m
  ⟨o, es, ep, e.trans ho, r1, r2, r3, fun x hx => isTupleKey_keeps hs (hk x hx), r5⟩
theorem OAt.keep {g g' h h' : Heap} {ρ ρ' : Nat → Addr} {σ σ' : H} (G : Grow g ρ σ g' ρ' σ') (hs : ∀ b o, g'.get? b = some o → h'.get? b = some o) {o : AO} {a : Addr} (e : h'.get? a = h.get? a)
    (x : OAt prog w g ρ σ h o a) : OAt prog w g' ρ' σ' h' o a := by
  cases o with
  | dat l => obtain ⟨i, n, as, h1, h2⟩ := x; exact ⟨i, n, as, e.trans h1, ReadsAll.keeps G.sub h2⟩
  | mix l => obtain ⟨i, n, h1, h2⟩ := x; exact ⟨i, n, e.trans h1, h2.mono G⟩
  | ns l => obtain ⟨es, n, h1, h2⟩ := x; exact ⟨es, n, e.trans h1, h2.mono G⟩
  | dstr l => obtain ⟨kvs, h1, h2⟩ := x; exact ⟨kvs, dictOf_at e h1, h2⟩
  | dtup l => obtain ⟨xs, h1, h2, h3⟩ := x; exact ⟨xs, dictOfH_at e (fun y hy => isTupleKey_keeps G.sub (h3 y hy)) hs h1, h2, fun y hy => isTupleKey_keeps G.sub (h3 y hy)⟩
  | iset l => exact setOf_at e x
theorem OAt.here {g h : Heap} {ρ : Nat → Addr} {σ : H} {o : AO} {a : Addr} (x : OAt prog w g ρ σ h o a) : ∃ ob, h.get? a = some ob := by
  cases o with
  | dat l => obtain ⟨i, n, as, h1, h2⟩ := x; exact ⟨_, h1⟩
  | mix l => obtain ⟨i, n, h1, h2⟩ := x; exact ⟨_, h1⟩
  | ns l => obtain ⟨es, n, h1, h2⟩ := x; exact ⟨_, h1⟩
  | dstr l => obtain ⟨kvs, ⟨o, _, _, h1, _⟩, h2⟩ := x; exact ⟨_, h1⟩
  | dtup l => obtain ⟨xs, ⟨o, _, _, h1, _⟩, h2, h3⟩ := x; exact ⟨_, h1⟩
  | iset l => obtain ⟨o, _, _, _, h1, _⟩ := x; exact ⟨_, h1⟩
end
theorem look_cons_same (k : Nat) (o : AO) (σ : H) : look ((k, o) :: σ) k = some o := by simp [look]
theorem look_cons_ne {k j : Nat} (o : AO) (σ : H) (h : k ≠ j) : look ((k, o) :: σ) j = look σ j := by simp [look, h]
theorem look_cons (k j : Nat) (o : AO) (σ : H) : look ((k, o) :: σ) j = if k = j then some o else look σ j := rfl
theorem look_put (σ : H) (k j : Nat) (o : AO) : look (put σ k o) j = if k = j then (look σ j).map fun _ => o else look σ j := by
  induction σ with
  | nil => simp [put, look]
  | cons p t ih =>
    obtain ⟨a, x⟩ := p
    unfold put
    by_cases h : a = k
    · subst h
      rw [if_pos rfl, look_cons, look_cons]
      by_cases q : a = j <;> simp [q]
    · rw [if_neg h, look_cons, look_cons, ih]
      by_cases q : a = j
      · subst q; simp [Ne.symm h]
      · simp [q]
theorem look_put_isSome (σ : H) (k j : Nat) (o : AO) : (look (put σ k o) j).isSome = (look σ j).isSome := by
  rw [look_put]; split <;> simp
theorem look_put_same {σ : H} {k : Nat} {o o' : AO} (h : look σ k = some o') : look (put σ k o) k = some o := by rw [look_put, if_pos rfl, h]; rfl
theorem look_put_ne {σ : H} {k j : Nat} {o : AO} (h : k ≠ j) : look (put σ k o) j = look σ j := by rw [look_put, if_neg h]
theorem look_none_of_not_mem : ∀ {σ : H} {k : Nat}, k ∉ σ.map (·.1) → look σ k = none
  | [], _, _ => rfl
  | (a, x) :: t, k, h => by
    rw [List.map_cons, List.mem_cons, not_or] at h
    rw [look_cons, if_neg (Ne.symm h.1)]; exact look_none_of_not_mem h.2
theorem mem_of_look : ∀ {σ : H} {k : Nat} {o : AO}, look σ k = some o → k ∈ σ.map (·.1)
  | (a, x) :: t, k, o, h => by
    rw [look_cons] at h
    by_cases q : a = k
    · subst q; simp
    · rw [if_neg q] at h; exact List.mem_cons_of_mem _ (mem_of_look h)
theorem not_mem_of_look : ∀ {σ : H} {k : Nat}, look σ k = none → k ∉ σ.map (·.1)
  | [], _, _ => by simp
  | (a, x) :: t, k, h => by
    rw [look_cons] at h
    by_cases q : a = k
    · rw [if_pos q] at h; cases h
    · rw [if_neg q] at h
      rw [List.map_cons, List.mem_cons, not_or]; exact ⟨Ne.symm q, not_mem_of_look h⟩
theorem put_keys (σ : H) (k : Nat) (o : AO) : (put σ k o).map (·.1) = σ.map (·.1) := by
  induction σ with
  | nil => rfl
  | cons p t ih =>
    obtain ⟨a, x⟩ := p
    unfold put
    split
    · rename_i h; simp [h]
    · simp [ih]
theorem look_del {σ : H} (nd : (σ.map (·.1)).Nodup) (k j : Nat) : look (del σ k) j = if k = j then none else look σ j := by
  induction σ with
  | nil => simp [del, look]
  | cons p t ih =>
    obtain ⟨a, x⟩ := p
    rw [List.map_cons, List.nodup_cons] at nd
    unfold del
    by_cases h : a = k
    · subst h
      rw [if_pos rfl]
      by_cases q : a = j
      · subst q; rw [if_pos rfl]; exact look_none_of_not_mem nd.1
      · rw [if_neg q, look_cons, if_neg q]
    · rw [if_neg h, look_cons, ih nd.2, look_cons]
      by_cases q : a = j
      · subst q; simp [Ne.symm h]
      · simp [q]
theorem del_sub (σ : H) (k : Nat) : ∀ x ∈ (del σ k).map (·.1), x ∈ σ.map (·.1) := by
  induction σ with
  | nil => simp [del]
  | cons p t ih =>
    obtain ⟨a, y⟩ := p
    intro x hx
    unfold del at hx
    split at hx
    · exact List.mem_cons_of_mem _ hx
    · rw [List.map_cons, List.mem_cons] at hx ⊢
      exact hx.imp id (ih x)
theorem del_nodup {σ : H} (nd : (σ.map (·.1)).Nodup) (k : Nat) : ((del σ k).map (·.1)).Nodup := by
  induction σ with
  | nil => simp [del]
  | cons p t ih =>
    obtain ⟨a, y⟩ := p
    rw [List.map_cons, List.nodup_cons] at nd
    unfold del
    split
    · exact nd.2
    · rw [List.map_cons, List.nodup_cons]
      exact ⟨fun h => nd.1 (del_sub t k _ h), ih nd.2⟩
end Mine
end
section
open PySem PySem.W PyProof.Rows
namespace Mine
open PySem PySem.Calls
structure Sta where
  g : Heap
  ρ : Nat → Addr
  σ : H
  h : Heap
noncomputable abbrev VRx (x : Sta) : AV → Value → Prop := VR x.g x.ρ x.σ
noncomputable abbrev VRsx (x : Sta) : List AV → List Value → Prop := VRs x.g x.ρ x.σ
structure Step (L : Addr) (x y : Sta) : Prop where
  grow : Grow x.g x.ρ x.σ y.g y.ρ y.σ
  live : ∀ a, (x.h.get? a).isSome = true → (y.h.get? a).isSome = true
  pres : ∀ a o, a ≠ L → x.h.get? a = some o → (∀ k, (look x.σ k).isSome = true → x.ρ k ≠ a) → y.h.get? a = some o
  new : ∀ k, (look y.σ k).isSome = true → (look x.σ k).isSome = true ∨ x.h.get? (y.ρ k) = none
  gnew : ∀ a o, y.g.get? a = some o → (∃ o', x.g.get? a = some o') ∨ x.h.get? a = none
theorem Step.refl (L : Addr) (x : Sta) : Step L x x := ⟨Grow.refl _ _ _, fun _ e => e, fun _ _ _ e _ => e, fun _ e => .inl e, fun _ _ e => .inl ⟨_, e⟩⟩
theorem dead {h h' : Heap} {a : Addr} (hl : (h.get? a).isSome = true → (h'.get? a).isSome = true) (e : h'.get? a = none) : h.get? a = none := by
  cases q : h.get? a with
  | none => rfl
  | some o => rw [q, e] at hl; exact absurd (hl rfl) (by simp)
theorem Step.trans {L : Addr} {x y z : Sta} (a : Step L x y) (b : Step L y z) : Step L x z where
  grow := a.grow.trans b.grow
  live := fun c e => b.live c (a.live c e)
  pres := fun c o hL e h => b.pres c o hL (a.pres c o hL e h) fun k hk q => by
    rcases a.new k hk with h1 | h1
    · exact h k h1 ((a.grow.rho k h1).symm.trans q)
    · rw [q, e] at h1; cases h1
  new := fun k hk => by
    rcases b.new k hk with h1 | h1
    · rcases a.new k h1 with h2 | h2
      · exact .inl h2
      · exact .inr (by rw [b.grow.rho k h1]; exact h2)
    · exact .inr (dead (a.live _) h1)
  gnew := fun c o e => by
    rcases b.gnew c o e with ⟨o', h1⟩ | h1
    · exact a.gnew c o' h1
    · exact .inr (dead (a.live _) h1)
theorem VR.step {L : Addr} {x y : Sta} (S : Step L x y) {a : AV} {v : Value} (h : VRx x a v) : VRx y a v := h.mono S.grow
theorem VRs.step {L : Addr} {x y : Sta} (S : Step L x y) {a : List AV} {v : List Value} (h : VRsx x a v) : VRsx y a v := h.mono S.grow
structure LR (hB : Heap) (n : Nm) (env : Env) (x : Sta) (l : List AV) : Prop where
  kind : env.scope.kind = .function
  scope : n.scope = env.scope
  ns : ∃ m, x.h.Ns env.locals m ∧ ∀ (i : Nat) (av : AV) (nm : Str), l[i]? = some av → av ≠ .un → n.loc[i]? = some nm → env.kindOf nm = some .local → ∃ v, m nm = some v ∧ VRx x av v
  lout : x.g.get? env.locals = none
  lup : hB.get? env.locals = none
  lown : ∀ k, (look x.σ k).isSome = true → x.ρ k ≠ env.locals
  cells : ∀ (i : Nat) (av : AV) (nm : Str), l[i]? = some av → av ≠ .un → n.loc[i]? = some nm → (env.kindOf nm = some .cell ∨ env.kindOf nm = some .free) → ∃ c v, env.cells.lookup nm = some c ∧ x.h.IsCell c (some v) ∧ VRx x av v
  cin : ∀ nm c, (nm, c) ∈ env.cells → hB.get? c = none ∧ x.g.get? c = none ∧ ∃ v, x.h.IsCell c v
  capart : env.cells.Pairwise fun a b => a.2 ≠ b.2
  chas : ∀ nm, env.kindOf nm = some .cell → ∃ c, env.cells.lookup nm = some c
theorem isCell_ne_own {prog : Program} {w : World} {g h : Heap} {ρ : Nat → Addr} {σ : H} {o : AO} {a c : Addr} {v : Option Value} (x : OAt prog w g ρ σ h o a) (hc : h.IsCell c v) : a ≠ c := by
  rintro rfl
  obtain ⟨ob, h1, h2⟩ := hc
  cases o with
  | dat l => obtain ⟨i, n, as, e, _⟩ := x; rw [h1] at e; cases e; cases h2
  | mix l => obtain ⟨i, n, e, _⟩ := x; rw [h1] at e; cases e; cases h2
  | ns l => obtain ⟨i, n, e, _⟩ := x; rw [h1] at e; cases e; cases h2
  | dstr l => obtain ⟨kvs, ⟨o, es, ep, e, _, hd, _⟩, _⟩ := x; rw [h1] at e; cases e; rw [h2] at hd; cases hd
  | dtup l => obtain ⟨kvs, ⟨o, es, ep, e, _, hd, _⟩, _⟩ := x; rw [h1] at e; cases e; rw [h2] at hd; cases hd
  | iset l => obtain ⟨o, es, ep, t, e, _, hd, _⟩ := x; rw [h1] at e; cases e; rw [h2] at hd; cases hd
theorem ns_ne_cell {h : Heap} {L c : Addr} {m : Str → Option Value} {v : Option Value} (hn : h.Ns L m) (hc : h.IsCell c v) : c ≠ L := by
  rintro rfl
  obtain ⟨o, es, ep, e, hd, _⟩ := hn
  obtain ⟨ob, h1, h2⟩ := hc
  rw [h1] at e; cases e; rw [h2] at hd; cases hd
section
variable {prog : Program} {w : World} {hB : Heap} {n : Nm} {env : Env} {x y : Sta} {l : List AV}
theorem St.ownCell (X : St prog w hB x.g x.ρ x.σ x.h) {c : Addr} {v : Option Value} (hc : x.h.IsCell c v) : ∀ k, (look x.σ k).isSome = true → x.ρ k ≠ c := fun k hk => by
  obtain ⟨o, ho⟩ := Option.isSome_iff_exists.mp hk
  exact isCell_ne_own (X.own k o ho).2.2 hc
theorem St.ownLive (X : St prog w hB x.g x.ρ x.σ x.h) {k : Nat} (hk : (look x.σ k).isSome = true) : ∃ ob, x.h.get? (x.ρ k) = some ob := by
  obtain ⟨o, ho⟩ := Option.isSome_iff_exists.mp hk
  exact (X.own k o ho).2.2.here
theorem ns_live {h : Heap} {a : Addr} {m : Str → Option Value} (hn : h.Ns a m) (e : h.get? a = none) : False := by
  obtain ⟨o, es, ep, e1, _⟩ := hn
  rw [e] at e1; cases e1
theorem LR.same (X : LR hB n env x l) {m : Str → Option Value} (hn : x.h.Ns env.locals m) : ∀ (i : Nat) (av : AV) (nm : Str), l[i]? = some av → av ≠ .un → n.loc[i]? = some nm → env.kindOf nm = some .local → ∃ v, m nm = some v ∧ VRx x av v := by
  obtain ⟨m', hn', hv⟩ := X.ns
  intro i av nm h1 h2 h3 h4
  obtain ⟨v, e, r⟩ := hv i av nm h1 h2 h3 h4
  obtain ⟨o, es, ep, e1, e2, _, e3⟩ := hn
  obtain ⟨o', es', ep', e1', e2', _, e3'⟩ := hn'
  rw [e1] at e1'; cases e1'
  rw [e2] at e2'; cases e2'
  exact ⟨v, ((e3 nm).symm.trans (e3' nm)).trans e, r⟩
theorem LR.step (P : St prog w hB x.g x.ρ x.σ x.h) (X : LR hB n env x l) (S : Step env.locals x y) (hn : ∀ m, x.h.Ns env.locals m → y.h.Ns env.locals m) : LR hB n env y l where
  kind := X.kind
  scope := X.scope
  ns := by
    obtain ⟨m, h1, h2⟩ := X.ns
    refine ⟨m, hn m h1, fun i av nm a b c d => ?_⟩
    obtain ⟨v, e, r⟩ := h2 i av nm a b c d
    exact ⟨v, e, r.step S⟩
  lout := by
    cases e : y.g.get? env.locals with
    | none => rfl
    | some o =>
      obtain ⟨m, h1, _⟩ := X.ns
      rcases S.gnew _ _ e with ⟨o', q⟩ | q
      · rw [X.lout] at q; cases q
      · exact (ns_live h1 q).elim
  lup := X.lup
  lown := fun k hk q => by
    obtain ⟨m, h1, _⟩ := X.ns
    rcases S.new k hk with h2 | h2
    · exact X.lown k h2 ((S.grow.rho k h2).symm.trans q)
    · rw [q] at h2; exact (ns_live h1 h2).elim
  cells := fun i av nm a b c d => by
    obtain ⟨cc, v, e1, e2, e3⟩ := X.cells i av nm a b c d
    obtain ⟨m, h1, _⟩ := X.ns
    have hne := ns_ne_cell h1 e2
    have hk := P.ownCell e2
    obtain ⟨o, ho, hd⟩ := e2
    exact ⟨cc, v, e1, ⟨o, S.pres cc o hne ho hk, hd⟩, e3.step S⟩
  cin := fun nm c hm => by
    obtain ⟨h1, h2, v, h3⟩ := X.cin nm c hm
    obtain ⟨m, q1, _⟩ := X.ns
    have hne := ns_ne_cell q1 h3
    have hk := P.ownCell h3
    obtain ⟨o, ho, hd⟩ := h3
    refine ⟨h1, ?_, v, o, S.pres c o hne ho hk, hd⟩
    cases e : y.g.get? c with
    | none => rfl
    | some o' =>
      rcases S.gnew _ _ e with ⟨o'', q⟩ | q
      · rw [h2] at q; cases q
      · rw [ho] at q; cases q
  capart := X.capart
  chas := X.chas
end
theorem grow_one (g h : Heap) (a : Addr) (o : Obj) (hs : ∀ b o, g.get? b = some o → h.get? b = some o) (ho : h.get? a = some o) :
    ∃ g' : Heap, (∀ b o, g.get? b = some o → g'.get? b = some o) ∧ (∀ b o, g'.get? b = some o → h.get? b = some o) ∧ g'.get? a = some o ∧ ∀ b o', g'.get? b = some o' → (∃ o'', g.get? b = some o'') ∨ b = a := by
  refine ⟨hideAll h ((List.range h.objs.size).filter fun b => (g.get? b).isNone && !(b == a)), fun b o e => ?_, fun b o e => of_hideAll _ e, ?_, fun b o' e => ?_⟩
  · refine hideAll_get _ (hs b o e) fun hm => ?_
    have := (List.mem_filter.mp hm).2
    rw [e] at this; simp at this
  · refine hideAll_get _ ho fun hm => ?_
    have := (List.mem_filter.mp hm).2
    simp at this
  · have hb := of_hideAll _ e
    cases q : g.get? b with
    | some o'' => exact .inl ⟨o'', rfl⟩
    | none =>
      by_cases hba : b = a
      · exact .inr hba
      · exfalso
        have hm : b ∈ (List.range h.objs.size).filter fun b => (g.get? b).isNone && !(b == a) := by
          rw [List.mem_filter]
          exact ⟨List.mem_range.mpr (Heap.lt_size hb), by rw [q]; simp [hba]⟩
        rw [hideAll_none _ hm] at e; cases e
section
variable {prog : Program} {w : World} {hB : Heap} {x : Sta} {L : Addr}
theorem St.idle (P : St prog w hB x.g x.ρ x.σ x.h) {h' : Heap} (hk : ∀ a o, a ≠ L → x.h.get? a = some o → h'.get? a = some o) (hl : (x.h.get? L).isSome = true → (h'.get? L).isSome = true) (hL : x.g.get? L = none) (hO : ∀ k, (look x.σ k).isSome = true → x.ρ k ≠ L) :
    St prog w hB x.g x.ρ x.σ h' ∧ Step L x { x with h := h' } := by
  have hs : ∀ b o, x.g.get? b = some o → h'.get? b = some o := fun b o e => hk b o (fun q => by rw [q, hL] at e; cases e) (P.sub b o e)
  refine ⟨⟨P.base, hs, fun k o e => ?_, P.inj, P.nd, P.pin⟩, ⟨Grow.refl _ _ _, fun a e => ?_, fun a o hL e _ => hk a o hL e, fun _ e => .inl e, fun _ _ e => .inl ⟨_, e⟩⟩⟩
  · obtain ⟨h1, h2, h3⟩ := P.own k o e
    obtain ⟨ob, ho⟩ := h3.here
    exact ⟨h1, h2, h3.keep (Grow.refl _ _ _) hs ((hk _ _ (hO k (by rw [e]; rfl)) ho).trans ho.symm)⟩
  · by_cases q : a = L
    · subst q; exact hl e
    · obtain ⟨o, ho⟩ := Option.isSome_iff_exists.mp e
      rw [show ({ x with h := h' } : Sta).h = h' from rfl, hk a o q ho]; rfl
theorem St.fix (P : St prog w hB x.g x.ρ x.σ x.h) {h' : Heap} {a : Addr} {o : Obj} (hk : ∀ b o, x.h.get? b = some o → h'.get? b = some o) (ha : x.h.get? a = none) (ho : h'.get? a = some o) :
    ∃ g', St prog w hB g' x.ρ x.σ h' ∧ (∀ L, Step L x { x with g := g', h := h' }) ∧ g'.get? a = some o := by
  obtain ⟨g', g1, g2, g3, g4⟩ := grow_one x.g h' a o (fun b o e => hk b o (P.sub b o e)) ho
  have G : Grow x.g x.ρ x.σ g' x.ρ x.σ := ⟨g1, fun _ e => e, fun _ _ => rfl⟩
  refine ⟨g', ⟨fun b o e => g1 b o (P.base b o e), g2, fun k o e => ?_, P.inj, P.nd, (let ⟨a, o, h1, h2⟩ := P.pin; ⟨a, o, h1, g1 a o h2⟩)⟩, fun L => ⟨G, fun a e => ?_, fun a o _ e _ => hk a o e, fun _ e => .inl e, fun b o' e => ?_⟩, g3⟩
  · obtain ⟨h1, h2, h3⟩ := P.own k o e
    obtain ⟨ob, hob⟩ := h3.here
    refine ⟨?_, h2, h3.keep G g2 ((hk _ _ hob).trans hob.symm)⟩
    cases q : g'.get? (x.ρ k) with
    | none => rfl
    | some o' =>
      rcases g4 _ _ q with ⟨o'', r⟩ | r
      · rw [h1] at r; cases r
      · rw [r, ha] at hob; cases hob
  · obtain ⟨o, ho⟩ := Option.isSome_iff_exists.mp e
    rw [show ({ x with g := g', h := h' } : Sta).h = h' from rfl, hk a o ho]; rfl
  · rcases g4 b o' e with h | h
    · exact .inl h
    · exact .inr (h ▸ ha)
theorem St.alloc (P : St prog w hB x.g x.ρ x.σ x.h) {h' : Heap} {a : Addr} {k : Nat} {o : AO} (hf : look x.σ k = none) (hk : ∀ b o, x.h.get? b = some o → h'.get? b = some o) (haz : x.h.objs.size ≤ a)
    (ho : OAt prog w x.g (fun j => if j = k then a else x.ρ j) ((k, o) :: x.σ) h' o a) :
    St prog w hB x.g (fun j => if j = k then a else x.ρ j) ((k, o) :: x.σ) h' ∧ ∀ L, Step L x ⟨x.g, fun j => if j = k then a else x.ρ j, (k, o) :: x.σ, h'⟩ := by
  have ha : x.h.get? a = none := Heap.get?_none_of_le haz
  have hs : ∀ b o, x.g.get? b = some o → h'.get? b = some o := fun b o e => hk b o (P.sub b o e)
  have G : Grow x.g x.ρ x.σ x.g (fun j => if j = k then a else x.ρ j) ((k, o) :: x.σ) := by
    refine ⟨fun _ _ e => e, fun j e => ?_, fun j e => ?_⟩
    · rw [look_cons]; split <;> simp [e]
    · have : j ≠ k := fun q => by rw [q, hf] at e; cases e
      simp [this]
  have old : ∀ j, (look x.σ j).isSome = true → x.ρ j ≠ a := fun j e q => by
    obtain ⟨ob, e1⟩ := P.ownLive e
    rw [q, ha] at e1; cases e1
  have split : ∀ j, (look ((k, o) :: x.σ) j).isSome = true → j = k ∨ (j ≠ k ∧ (look x.σ j).isSome = true) := fun j e => by
    by_cases q : k = j
    · exact .inl q.symm
    · rw [look_cons, if_neg q] at e; exact .inr ⟨Ne.symm q, e⟩
  refine ⟨⟨P.base, hs, fun j oj e => ?_, fun i j hi hj e => ?_, ?_, P.pin⟩, fun L => ⟨G, fun b e => ?_, fun b o _ e _ => hk b o e, fun j e => ?_, fun _ _ e => .inl ⟨_, e⟩⟩⟩
  · rw [look_cons] at e
    by_cases q : k = j
    · subst q
      rw [if_pos rfl] at e; cases e
      simp only [if_true]
      refine ⟨?_, ?_, ho⟩
      · cases q : x.g.get? a with
        | none => rfl
        | some o' => have := P.sub _ _ q; rw [ha] at this; cases this
      · obtain ⟨b, ob, h1, h2⟩ := P.pin
        exact Nat.ne_of_gt (Nat.lt_of_lt_of_le (Nat.lt_trans h1 (Heap.lt_size (P.sub _ _ h2))) haz)
    · rw [if_neg q] at e
      simp only [Ne.symm q, if_false]
      obtain ⟨h1, h2, h3⟩ := P.own j oj e
      obtain ⟨ob, hob⟩ := h3.here
      exact ⟨h1, h2, h3.keep G hs ((hk _ _ hob).trans hob.symm)⟩
  · rcases split i hi with rfl | ⟨hi1, hi2⟩ <;> rcases split j hj with rfl | ⟨hj1, hj2⟩
    · rfl
    · simp only [if_true, hj1, if_false] at e
      exact absurd e.symm (old j hj2)
    · simp only [if_true, hi1, if_false] at e
      exact absurd e (old i hi2)
    · simp only [hi1, hj1, if_false] at e
      exact P.inj i j hi2 hj2 e
  · rw [List.map_cons, List.nodup_cons]
    exact ⟨not_mem_of_look hf, P.nd⟩
  · obtain ⟨o', ho'⟩ := Option.isSome_iff_exists.mp e
    show (h'.get? b).isSome = true
    rw [hk b o' ho']; rfl
  · rcases split j e with rfl | ⟨h1, h2⟩
    · exact .inr (by simp only [if_true]; exact ha)
    · exact .inl h2
theorem St.write (P : St prog w hB x.g x.ρ x.σ x.h) {h' : Heap} {k : Nat} {o o' : AO} (hl : look x.σ k = some o) (hk : ∀ b ob, b ≠ x.ρ k → x.h.get? b = some ob → h'.get? b = some ob)
    (ho : OAt prog w x.g x.ρ (put x.σ k o') h' o' (x.ρ k)) :
    St prog w hB x.g x.ρ (put x.σ k o') h' ∧ ∀ L, Step L x ⟨x.g, x.ρ, put x.σ k o', h'⟩ := by
  have hsome : ∀ j, (look (put x.σ k o') j).isSome = (look x.σ j).isSome := fun j => look_put_isSome x.σ k j o'
  have hs : ∀ b o, x.g.get? b = some o → h'.get? b = some o := fun b ob e => hk b ob (fun q => by rw [q, (P.own k o hl).1] at e; cases e) (P.sub b ob e)
  have G : Grow x.g x.ρ x.σ x.g x.ρ (put x.σ k o') := ⟨fun _ _ e => e, fun j e => by rw [hsome]; exact e, fun _ _ => rfl⟩
  refine ⟨⟨P.base, hs, fun j oj e => ?_, fun i j hi hj e => P.inj i j (by rw [← hsome]; exact hi) (by rw [← hsome]; exact hj) e, by rw [put_keys]; exact P.nd, P.pin⟩,
    fun L => ⟨G, fun b e => ?_, fun b ob _ e hn => hk b ob (fun q => hn k (by rw [hl]; rfl) q.symm) e, fun j e => .inl (by rw [← hsome]; exact e), fun _ _ e => .inl ⟨_, e⟩⟩⟩
  · by_cases q : k = j
    · subst q
      rw [look_put_same hl] at e; cases e
      exact ⟨(P.own k o hl).1, (P.own k o hl).2.1, ho⟩
    · rw [look_put_ne q] at e
      obtain ⟨h1, h2, h3⟩ := P.own j oj e
      obtain ⟨ob, hob⟩ := h3.here
      refine ⟨h1, h2, h3.keep G hs ((hk _ _ (fun r => q ?_) hob).trans hob.symm)⟩
      exact (P.inj j k (by rw [e]; rfl) (by rw [hl]; rfl) r).symm
  · show (h'.get? b).isSome = true
    by_cases q : b = x.ρ k
    · subst q; obtain ⟨ob, e1⟩ := ho.here; rw [e1]; rfl
    · obtain ⟨ob, e1⟩ := Option.isSome_iff_exists.mp e
      rw [hk b ob q e1]; rfl
end
end Mine
end
section
open PySem PySem.W PyProof.Rows
namespace Mine
open PySem PySem.Calls
structure A3 (p0 p1 p2 : Prop) : Prop where
  h0 : p0
  h1 : p1
  h2 : p2
structure A4 (p0 p1 p2 p3 : Prop) : Prop where
  h0 : p0
  h1 : p1
  h2 : p2
  h3 : p3
structure A8 (p0 p1 p2 p3 p4 p5 p6 p7 : Prop) : Prop where
  h0 : p0
  h1 : p1
  h2 : p2
  h3 : p3
  h4 : p4
  h5 : p5
  h6 : p6
  h7 : p7
structure A12 (p0 p1 p2 p3 p4 p5 p6 p7 p8 p9 p10 p11 : Prop) : Prop where
  h0 : p0
  h1 : p1
  h2 : p2
  h3 : p3
  h4 : p4
  h5 : p5
  h6 : p6
  h7 : p7
  h8 : p8
  h9 : p9
  h10 : p10
  h11 : p11
inductive Ex3 {α β γ : Type} (p : α → β → γ → Prop) : Prop
  | mk (a : α) (b : β) (c : γ) (h : p a b c) : Ex3 p
inductive Ex4 {α β γ δ : Type} (p : α → β → γ → δ → Prop) : Prop
  | mk (a : α) (b : β) (c : γ) (d : δ) (h : p a b c d) : Ex4 p
inductive Ex5 {α β γ δ ε : Type} (p : α → β → γ → δ → ε → Prop) : Prop
  | mk (a : α) (b : β) (c : γ) (d : δ) (e : ε) (h : p a b c d e) : Ex5 p
structure A5 (p0 p1 p2 p3 p4 : Prop) : Prop where
  h0 : p0
  h1 : p1
  h2 : p2
  h3 : p3
  h4 : p4
noncomputable abbrev EF : Value → Shared → Prop := fun _ _ => False
structure Rb (A : Around) (n : Nat) : Prop where
  handled : A.handled = none
  depth : A.depth + 3 * n + 5 < recursionLimit
  units : A.units + 200 * n + 300 < cLine
structure ClsOK (K : Frag) (c : Nat) : Prop where
  get : plainGet K (clA c) "" = true
  dict : hasDictIn K (clA c) = true
  seta : findIn K (.ref (clA c)) "__setattr__" = some (some (.builtin "object.__setattr__"))
  over : plainOver K (clA c) = true
  makes : makesIn K (clA c) = true
  keep : keepIn K (.ref (clA c)) = true
  ini : ∀ f, tbIni c = some f → findIn K (.ref (clA c)) "__init__" = some (some (.ref (fnA f))) ∧ typeIn K (.ref (fnA f)) = some (.type "function")
  att : ∀ a, tbAtt c a = true → findIn K (.ref (clA c)) (attN a) = some none ∧ a < nAtt
  meth : ∀ m f, tbMeth c m = some f → findIn K (.ref (clA c)) (attN m) = some (some (.ref (fnA f))) ∧ isFn K (.ref (fnA f)) = true ∧ keepIn K (.ref (fnA f)) = true ∧ m < nAtt
structure SW (K : Frag) (hB : Heap) : Prop where
  KX : K.In hB
  lim : hB.NoLimit
  glo : ∃ mg mb, hB.Ns mainGlobals mg ∧ hB.Ns builtinsNs mb ∧ ∀ i nm gk, gloT[i]? = some nm → tbGlo i = some gk → match gk with
    | .dat d => ∃ v as, mg nm = some v ∧ Reads hB v d as
    | _ => ∃ v, gloV i = some v ∧ (mg nm = some v ∨ (mg nm = none ∧ mb nm = some v))
  cls : ∀ c, c < 4 → ClsOK K c
  fns : ∀ i f, tbGlo i = some (.fn f) → keepIn K (.ref (fnA f)) = true
  clsI : ∀ i c, tbGlo i = some (.cls c) → c < 4
  methI : ∀ c m f, tbMeth c m = some f → c < 4
  attI : ∀ c a, tbAtt c a = true → c < 4
structure FrOK (n : Nm) (env : Env) : Prop where
  glo : n.glo = gloT
  att : n.att = attT
  eg : env.globals = mainGlobals
  eb : env.builtins = builtinsNs
  nd : n.loc.Nodup
section
variable {prog : Program} {w : World} {K : Frag} {hB : Heap} {n : Nm} {env : Env} {A : Around} {x : Sta} {l : List AV} {s : Shared}
theorem keep_all (P : St prog w hB x.g x.ρ x.σ x.h) : ∀ b o, hB.get? b = some o → x.h.get? b = some o := fun b o e => P.sub b o (P.base b o e)
theorem SW.at (W : SW K hB) (P : St prog w hB x.g x.ρ x.σ x.h) : K.In x.h := Frag.In.keeps W.KX (keep_all P)
theorem isLoc_spec {i : Nat} {nm : Str} (h : isLoc n i nm = true) : n.loc[i]? = some nm ∧ (n.scope.names.lookup nm = some .local ∨ n.scope.names.lookup nm = some .cell ∨ n.scope.names.lookup nm = some .free) ∧ (nm == ("__debug__" : Str)) = false ∧ (nm == ("__classdict__" : Str)) = false := by
  unfold isLoc at h
  split at h
  · rename_i y hy
    simp only [Bool.and_eq_true, Bool.not_eq_true', decide_eq_true_eq, decide_eq_false_iff_not] at h
    obtain ⟨⟨⟨rfl, h2⟩, h3⟩, h4⟩ := h
    refine ⟨hy, ?_, beq_eq_false_iff_ne.mpr h3, beq_eq_false_iff_ne.mpr h4⟩
    split at h2 <;> simp_all
  · cases h
theorem isGlo_spec {i : Nat} {nm : Str} (h : isGlo n i nm = true) : n.glo[i]? = some nm ∧ n.scope.names.lookup nm = some .globalImplicit ∧ (nm == ("__debug__" : Str)) = false ∧ nm ≠ ("__name__" : Str) := by
  unfold isGlo at h
  split at h
  · rename_i y hy
    simp only [Bool.and_eq_true, Bool.not_eq_true', decide_eq_true_eq, decide_eq_false_iff_not] at h
    obtain ⟨⟨⟨rfl, h2⟩, h3⟩, h4⟩ := h
    refine ⟨hy, ?_, beq_eq_false_iff_ne.mpr h3, h4⟩
    split at h2 <;> simp_all
  · cases h
theorem isAtt_spec (F : FrOK n env) {a : Nat} {nm : Str} (h : isAtt n a nm = true) : attN a = nm := by
  unfold isAtt at h
  split at h
  · rename_i y hy
    rw [F.att] at hy
    have h2 := of_decide_eq_true h
    subst h2
    unfold attN
    rw [List.getD, hy]; rfl
  · cases h
theorem load_loc (X : LR hB n env x l) (hs : s.heap = x.h) {i : Nat} {nm : Str} {av : AV} (hi : isLoc n i nm = true) (hv : l[i]? = some av) (hu : av ≠ .un) {Q : Value → Shared → Prop} (h : ∀ v, VRx x av v → Q v s) :
    wpAny (model prog w) A (loadName env nm) Q EF s := by
  obtain ⟨h1, h2, h3, h4⟩ := isLoc_spec hi
  rw [X.scope] at h2
  rcases h2 with h2 | h2 | h2
  · obtain ⟨m, hn, hm⟩ := X.ns
    obtain ⟨v, e, r⟩ := hm i av nm hv hu h1 h2
    exact wpAny_loadName_local X.kind h2 (hs ▸ hn) e (h v r)
  · obtain ⟨c, v, e1, e2, r⟩ := X.cells i av nm hv hu h1 (.inl h2)
    exact wpAny_loadName_cell X.kind h2 e1 (hs ▸ e2) (h v r)
  · obtain ⟨c, v, e1, e2, r⟩ := X.cells i av nm hv hu h1 (.inr h2)
    exact wpAny_loadName_free X.kind h2 e1 (hs ▸ e2) (h v r) h4
theorem eval_loc (X : LR hB n env x l) (hs : s.heap = x.h) {i : Nat} {nm : Str} {pos : Pos} {av : AV} (hi : isLoc n i nm = true) (hv : l[i]? = some av) (hu : av ≠ .un) {Q : Value → Shared → Prop} (h : ∀ v, VRx x av v → Q v s) :
    wpAny (model prog w) A (eval (.Name nm pos) env) Q EF s := wpAny_Name (load_loc X hs hi hv hu h) (isLoc_spec hi).2.2.1
theorem eval_glo (W : SW K hB) (F : FrOK n env) (P : St prog w hB x.g x.ρ x.σ x.h) (X : LR hB n env x l) (hs : s.heap = x.h) {i : Nat} {nm : Str} {pos : Pos} {gk : GK} (hi : isGlo n i nm = true) (hg : tbGlo i = some gk) {Q : Value → Shared → Prop}
    (h : match gk with | .dat d => ∀ v as, Reads x.g v d as → Q v s | _ => ∀ v, gloV i = some v → Q v s) : wpAny (model prog w) A (eval (.Name nm pos) env) Q EF s := by
  obtain ⟨h1, h2, h3, h4⟩ := isGlo_spec hi
  rw [X.scope] at h2
  rw [F.glo] at h1
  obtain ⟨mg, mb, G1, G2, G3⟩ := W.glo
  have g3 := G3 i nm gk h1 hg
  have k1 : s.heap.Ns env.globals mg := by rw [hs, F.eg]; exact G1.keeps (keep_all P)
  have k2 : s.heap.Ns env.builtins mb := by rw [hs, F.eb]; exact G2.keeps (keep_all P)
  have gen : ∀ v, (mg nm = some v ∨ (mg nm = none ∧ mb nm = some v)) → Q v s → wpAny (model prog w) A (eval (.Name nm pos) env) Q EF s := fun v hv hq => by
    rcases hv with hv | ⟨hv, hv'⟩
    · exact Name_function_global X.kind h2 (loadGlobal_global k1 hv hq) h3
    · exact Name_function_global X.kind h2 (loadGlobal_builtin k1 hv k2 hv' hq) h3
  cases gk with
  | dat d =>
    obtain ⟨v, as, e, r⟩ := g3
    exact gen v (.inl e) (h v as (Reads.keeps P.base r))
  | fn f => obtain ⟨v, e, r⟩ := g3; exact gen v r (h v e)
  | cls c => obtain ⟨v, e, r⟩ := g3; exact gen v r (h v e)
  | len => obtain ⟨v, e, r⟩ := g3; exact gen v r (h v e)
  | range => obtain ⟨v, e, r⟩ := g3; exact gen v r (h v e)
  | list => obtain ⟨v, e, r⟩ := g3; exact gen v r (h v e)
  | sorted => obtain ⟨v, e, r⟩ := g3; exact gen v r (h v e)
  | set => obtain ⟨v, e, r⟩ := g3; exact gen v r (h v e)
end
section
variable {prog : Program} {w : World} {A : Around} {x : Sta} {s : Shared}
theorem VR.int {i : Int} {v : Value} (h : VRx x (.d (.int i)) v) : ∃ t, v = .int i t := by
  cases h with | d r => cases r with | int i t => exact ⟨t, rfl⟩
theorem VR.bool {b : Bool} {v : Value} (h : VRx x (.d (.bool b)) v) : v = .bool b := by
  cases h with | d r => cases r; rfl
theorem VR.str {b : Str} {v : Value} (h : VRx x (.d (.str b)) v) : ∃ t, v = .str b t := by
  cases h with | d r => cases r with | str i t => exact ⟨t, rfl⟩
theorem VR.rd {d : PyData} {v : Value} (h : VRx x (.d d) v) : ∃ as, Reads x.g v d as := by
  cases h with | d r => exact ⟨_, r⟩
theorem Reads.lst {g : Heap} {v : Value} {xs : List PyData} {bs : List Addr} (h : Reads g v (.list xs) bs) : Ex5 fun a o vs n as => A5 (v = .ref a) (g.get? a = some o) (o.cls = .type "list") (o.data = .seq vs n) (ReadsAll g vs.toList xs as) := by
  cases h with | list h1 h2 h3 h4 => exact ⟨_, _, _, _, _, rfl, h1, h2, h3, h4⟩
theorem Reads.tup {g : Heap} {v : Value} {xs : List PyData} {bs : List Addr} (h : Reads g v (.tuple xs) bs) : Ex5 fun a o vs n as => A5 (v = .ref a) (g.get? a = some o) (o.cls = .type "tuple") (o.data = .seq vs n) (ReadsAll g vs.toList xs as) := by
  cases h with | tuple h1 h2 h3 h4 => exact ⟨_, _, _, _, _, rfl, h1, h2, h3, h4⟩
theorem Reads.int {g : Heap} {v : Value} {i : Int} {bs : List Addr} (h : Reads g v (.int i) bs) : ∃ t, v = .int i t := by
  cases h with | int i t => exact ⟨t, rfl⟩
theorem ra_hd {g : Heap} {vl : List Value} {d : PyData} {ds : List PyData} {bs : List Addr} (h : ReadsAll g vl (d :: ds) bs) : Ex4 fun v vs as cs => A3 (vl = v :: vs) (Reads g v d as) (ReadsAll g vs ds cs) := by
  cases h with | cons a b => exact ⟨_, _, _, _, rfl, a, b⟩
theorem ra_nl {g : Heap} {vl : List Value} {bs : List Addr} (h : ReadsAll g vl [] bs) : vl = [] := by
  cases h; rfl
theorem ra_two {g : Heap} {vl : List Value} {d e : PyData} {bs : List Addr} (h : ReadsAll g vl [d, e] bs) : Ex4 fun v u as cs => A3 (vl = [v, u]) (Reads g v d as) (Reads g u e cs) := by
  obtain ⟨v, vs, as, cs, rfl, a, b⟩ := ra_hd h
  obtain ⟨u, us, cs, ds, rfl, b', c⟩ := ra_hd b
  exact ⟨v, u, as, cs, by rw [ra_nl c], a, b'⟩
theorem VR.lst {xs : List PyData} {v : Value} (h : VRx x (.d (.list xs)) v) : Ex5 fun a o vs n as => A5 (v = .ref a) (x.g.get? a = some o) (o.cls = .type "list") (o.data = .seq vs n) (ReadsAll x.g vs.toList xs as) := by
  obtain ⟨_, r⟩ := h.rd
  exact Reads.lst r
theorem VR.tup {xs : List PyData} {v : Value} (h : VRx x (.d (.tuple xs)) v) : Ex5 fun a o vs n as => A5 (v = .ref a) (x.g.get? a = some o) (o.cls = .type "tuple") (o.data = .seq vs n) (ReadsAll x.g vs.toList xs as) := by
  obtain ⟨_, r⟩ := h.rd
  exact Reads.tup r
theorem VR.fnl {l : List Nat} {v : Value} (h : VRx x (.fns l) v) : Ex3 fun a items n => A3 (v = .ref a) (x.g.get? a = some (listOf items n)) (l.map gloV = items.toList.map some) := by
  cases h with | fns h1 h2 => exact ⟨_, _, _, rfl, h1, h2⟩
theorem VR.rg {a b c : Int} {v : Value} (h : VRx x (.rng a b c) v) : Ex4 fun r t u w => A5 (v = .ref r) (IsRange x.g r a b c t u w) (small a) (small b) (okStep c) := by
  cases h with | rng h1 h2 h3 h4 => exact ⟨_, _, _, _, rfl, h1, h2, h3, h4⟩
theorem VR.fnv {i : Nat} {v : Value} (h : VRx x (.fn i) v) : gloV i = some v := by
  cases h with | fn e => exact e
theorem VR.ob {k : Nat} {v : Value} (h : VRx x (.obj k) v) : v = .ref (x.ρ k) := by
  cases h; rfl
theorem VR.unv {v : Value} (h : VRx x .un v) : v = .none := by
  cases h; rfl
theorem VRs.nilv {vs : List Value} (h : VRsx x [] vs) : vs = [] := by
  cases h; rfl
theorem VRs.hd {a : AV} {l : List AV} {vs : List Value} (h : VRsx x (a :: l) vs) : ∃ v r, vs = v :: r ∧ VRx x a v ∧ VRsx x l r := by
  cases h with | cons a b => exact ⟨_, _, rfl, a, b⟩
theorem VRs.one {a : AV} {vs : List Value} (h : VRsx x [a] vs) : ∃ v, vs = [v] ∧ VRx x a v := by
  obtain ⟨v, r, rfl, h1, h2⟩ := h.hd
  exact ⟨v, by rw [h2.nilv], h1⟩
theorem VRs.two {a b : AV} {vs : List Value} (h : VRsx x [a, b] vs) : ∃ v u, vs = [v, u] ∧ VRx x a v ∧ VRx x b u := by
  obtain ⟨v, r, rfl, h1, h2⟩ := h.hd
  obtain ⟨u, rfl, h3⟩ := h2.one
  exact ⟨v, u, rfl, h1, h3⟩
theorem VRs.three {a b c : AV} {vs : List Value} (h : VRsx x [a, b, c] vs) : ∃ v u t, vs = [v, u, t] ∧ VRx x a v ∧ VRx x b u ∧ VRx x c t := by
  obtain ⟨v, r, rfl, h1, h2⟩ := h.hd
  obtain ⟨u, t, rfl, h3, h4⟩ := h2.two
  exact ⟨v, u, t, rfl, h1, h3, h4⟩
theorem VR.ofInt (i : Int) (t : Tok) : VRx x (.d (.int i)) (.int i t) := .d (.int i t)
theorem VR.ofBool (b : Bool) : VRx x (.d (.bool b)) (.bool b) := .d (.bool b)
theorem VR.ofNone : VRx x (.d .none) .none := .d .none
theorem binA_sound {op : Operator} {a b : AV} {va vb : Value} {Q : AV → Prop} {Qr : Value → Shared → Prop} (ha : VRx x a va) (hb : VRx x b vb) (h : binA op a b Q)
    (hq : ∀ av v tk, VRx x av v → Q av → Qr v { s with toks := tk }) : wpAny (model prog w) A (binaryOp op va vb) Qr EF s := by
  cases h with
  | @add i j q =>
    obtain ⟨t, rfl⟩ := ha.int
    obtain ⟨u, rfl⟩ := hb.int
    exact add_int (hq _ _ _ (.ofInt _ _) q)
  | @sub i j q =>
    obtain ⟨t, rfl⟩ := ha.int
    obtain ⟨u, rfl⟩ := hb.int
    exact sub_int (hq _ _ _ (.ofInt _ _) q)
  | @mul i j h q =>
    obtain ⟨t, rfl⟩ := ha.int
    obtain ⟨u, rfl⟩ := hb.int
    exact PyProof.Rows.mul_int (hq _ _ _ (.ofInt _ _) q) (by exact PySem.IntMulOk.of_left (PySem.intBits_le_64 (by omega) (by omega)))
  | @fdv i j h q =>
    obtain ⟨t, rfl⟩ := ha.int
    obtain ⟨u, rfl⟩ := hb.int
    exact PyProof.Rows.floordiv_int h.1 (hq _ _ _ (.ofInt _ _) q) (.inl (PyProof.noPylong_small h.2))
  | @mod i j h q =>
    obtain ⟨t, rfl⟩ := ha.int
    obtain ⟨u, rfl⟩ := hb.int
    exact PyProof.Rows.mod_int h (hq _ _ _ (.ofInt _ _) q)
  | pow q =>
    obtain ⟨t, rfl⟩ := ha.int
    obtain ⟨u, rfl⟩ := hb.int
    refine PyProof.Rows.pow_int_small (by decide) (by decide) (by decide) ?_
    exact hq _ _ _ (.ofInt _ _) q
theorem iadd_sound {a b : AV} {va vb : Value} {Q : AV → Prop} {Qr : Value → Shared → Prop} (ha : VRx x a va) (hb : VRx x b vb) (h : binA .Add a b Q)
    (hq : ∀ av v tk, VRx x av v → Q av → Qr v { s with toks := tk }) : wpAny (model prog w) A (inplaceOp .Add va vb) Qr EF s := by
  cases h with
  | @add i j q =>
    obtain ⟨t, rfl⟩ := ha.int
    obtain ⟨u, rfl⟩ := hb.int
    exact iadd_int (hq _ _ _ (.ofInt _ _) q)
theorem datO_some : ∀ {o : Option AO} {d : PyData}, datO o = some d → ∃ l, o = some (.dat l) ∧ d = .list l
  | some (.dat l), _, h => by cases h; exact ⟨l, rfl, rfl⟩
theorem dataIn_inv {σ : H} {a : AV} {d : PyData} (h : dataIn σ a = some d) : a = .d d ∨ ∃ k l, a = .obj k ∧ look σ k = some (.dat l) ∧ d = .list l := by
  cases a with
  | d y => cases h; exact .inl rfl
  | obj k =>
    obtain ⟨l, e, rfl⟩ := datO_some h
    exact .inr ⟨k, l, rfl, e, rfl⟩
  | un => cases h
  | ins => cases h
  | fn => cases h
  | fns => cases h
  | rng => cases h
theorem dataIn_sound {hB : Heap} (P : St prog w hB x.g x.ρ x.σ x.h) {a : AV} {d : PyData} {v : Value} (h : dataIn x.σ a = some d) (r : VRx x a v) : ∃ as, Reads x.h v d as := by
  rcases dataIn_inv h with rfl | ⟨k, l, rfl, e, rfl⟩
  · obtain ⟨as, r⟩ := r.rd; exact ⟨_, Reads.keeps P.sub r⟩
  · rw [r.ob]
    obtain ⟨h1, h2, items, n, as, h3, h4⟩ := P.own k _ e
    exact ⟨_, .list h3 rfl rfl (ReadsAll.keeps P.sub h4)⟩
theorem Rb.hu {A : Around} {n : Nat} (R : Rb A n) : A.units + 64 < cLine := by have := R.units; omega
theorem eqOk_room {A : Around} {n : Nat} (R : Rb A n) {a b : PyData} (h : eqOk a) : A.units + min a.depth b.depth < cLine := by
  have := R.units; have := h.2; omega
theorem ltP_tuple {a b c d : Int} : decide (ltP (a, b) (c, d)) = (if a = c then decide (b < d) else decide (a < c)) := by
  unfold ltP
  by_cases h : a = c
  · subst h; simp
  · simp [h]
end
end Mine
end
section
open PySem PySem.W PyProof.Rows
namespace Mine
open PySem PySem.Calls
section
variable {prog : Program} {w : World} {A : Around} {x : Sta} {s : Shared}
theorem pair_of {g : Heap} {a b : Int} {v : Value} {as : List Addr} (r : Reads g v (.tuple [.int a, .int b]) as) : ∃ p o vs n t u, v = .ref p ∧ g.get? p = some o ∧ o.cls = .type "tuple" ∧ o.data = .seq vs n ∧ vs.toList = [.int a t, .int b u] := by
  obtain ⟨p, o, vs, n, as', rfl, h1, h2, h3, h4⟩ := Reads.tup r
  obtain ⟨v, u, _, _, hv, r1, r2⟩ := ra_two h4
  obtain ⟨t, rfl⟩ := Reads.int r1
  obtain ⟨u', rfl⟩ := Reads.int r2
  exact ⟨p, o, vs, n, _, _, rfl, h1, h2, h3, hv⟩
theorem lt_pair {g : Heap} {a b c d : Int} {v v' : Value} {as as' : List Addr} {Q : Value → Shared → Prop} (hu : A.units < cLine) (hs : ∀ b o, g.get? b = some o → s.heap.get? b = some o) (r : Reads g v (.tuple [.int a, .int b]) as) (r' : Reads g v' (.tuple [.int c, .int d]) as')
    (h : Q (.bool (decide (ltP (a, b) (c, d)))) s) : wpAny (model prog w) A (compareOp .Lt v v') Q EF s := by
  obtain ⟨p, o, vs, n, t, u, rfl, h1, h2, h3, h4⟩ := pair_of r
  obtain ⟨p', o', vs', n', t', u', rfl, k1, k2, k3, k4⟩ := pair_of r'
  have T : s.TypeIs (.ref p) "tuple" := ⟨o, hs _ _ h1, h2⟩
  have T' : s.TypeIs (.ref p') "tuple" := ⟨o', hs _ _ k1, k2⟩
  refine cmp_ofLt (wpAny_richCompare_same_room (op := .Lt) T T' F.slot_tuple_lt (wpAny_call_entry F.slot_tuple_lt T F.entry_tuple_lt ?_ (F.args_tuple_lt_2 _ _)) hu)
  show wpAny _ _ (isInstance (.ref p') (.type "tuple") >>= _) _ _ s
  refine wpAny_bind (wpAny_isInstance T' isSubtype_tuple_tuple ?_)
  simp only [Bool.not_true, Bool.false_eq_true, if_false]
  refine wpAny_bind (wpAny_tupleItemsOf (hs _ _ h1) h3 ?_)
  refine wpAny_bind (wpAny_tupleItemsOf (hs _ _ k1) k3 ?_)
  have z1 : vs.size = 2 := by rw [← Array.length_toList, h4]; rfl
  have z2 : vs'.size = 2 := by rw [← Array.length_toList, k4]; rfl
  rw [h4, k4, z1, z2]
  have ask : ∀ (i j : Int) (ti tj : Tok) (Q' : Value → Shared → Prop), Q' (.bool (decide (i < j))) s → wpAny (model prog w) A.in1 (richCompare CmpOp.Lt (Value.int i ti) (Value.int j tj)) Q' EF s := fun i j ti tj Q' hq => lt_int (A := A.in1) (t := ti) (u := tj) hq
  refine wpAny_bind ?_
  simp only [List.zip_cons_cons, List.zip_nil_right]
  rw [List.forIn_cons]
  refine wpAny_bind (wpAny_bind (wpAny_eqBool_int ?_))
  by_cases e : a = c
  · have e1 : (a == c) = true := by simp [e]
    rw [e1]
    simp only [Bool.not_true, Bool.false_eq_true, if_false]
    refine wpAny_pure ?_
    dsimp only
    rw [List.forIn_cons]
    refine wpAny_bind (wpAny_bind (wpAny_eqBool_int ?_))
    by_cases f : b = d
    · have f1 : (b == d) = true := by simp [f]
      rw [f1]
      simp only [Bool.not_true, Bool.false_eq_true, if_false]
      refine wpAny_pure ?_
      dsimp only
      rw [List.forIn_nil]
      refine wpAny_pure (wpAny_pure ⟨_, rfl, (fun e => nomatch e), ?_⟩)
      have : decide (ltP (a, b) (c, d)) = false := by simp [ltP, e, f]
      rw [this] at h
      exact h
    · have f1 : (b == d) = false := by simp [f]
      rw [f1]
      simp only [Bool.not_false, if_true]
      refine wpAny_bind (wpAny_rule (wpAny_bind (ask _ _ _ _ _ (wpAny_bind (wpAny_pure (wpAny_pure ?_))))))
      refine wpAny_pure (wpAny_pure ⟨_, rfl, (fun e => nomatch e), ?_⟩)
      have : decide (ltP (a, b) (c, d)) = decide (b < d) := by simp [ltP, e]
      rw [this] at h
      exact h
  · have e1 : (a == c) = false := by simp [e]
    rw [e1]
    simp only [Bool.not_false, if_true]
    refine wpAny_bind (wpAny_rule (wpAny_bind (ask _ _ _ _ _ (wpAny_bind (wpAny_pure (wpAny_pure ?_))))))
    refine wpAny_pure (wpAny_pure ⟨_, rfl, (fun e => nomatch e), ?_⟩)
    have : decide (ltP (a, b) (c, d)) = decide (a < c) := by simp [ltP, e, Ne.symm e, eq_comm]
    rw [this] at h
    exact h
theorem gt_pair {g : Heap} {a b c d : Int} {v v' : Value} {as as' : List Addr} {Q : Value → Shared → Prop} (hu : A.units < cLine) (hs : ∀ b o, g.get? b = some o → s.heap.get? b = some o) (r : Reads g v (.tuple [.int a, .int b]) as) (r' : Reads g v' (.tuple [.int c, .int d]) as')
    (h : Q (.bool (decide (ltP (c, d) (a, b)))) s) : wpAny (model prog w) A (compareOp .Gt v v') Q EF s := by
  obtain ⟨p, o, vs, n, t, u, rfl, h1, h2, h3, h4⟩ := pair_of r
  obtain ⟨p', o', vs', n', t', u', rfl, k1, k2, k3, k4⟩ := pair_of r'
  have T : s.TypeIs (.ref p) "tuple" := ⟨o, hs _ _ h1, h2⟩
  have T' : s.TypeIs (.ref p') "tuple" := ⟨o', hs _ _ k1, k2⟩
  show wpAny _ _ (richCompare .Gt _ _) _ _ _
  refine (wpAny_richCompare_same_room (op := .Gt) T T' F.slot_tuple_gt (wpAny_call_entry F.slot_tuple_gt T F.entry_tuple_gt ?_ (F.args_tuple_gt_2 _ _)) hu)
  show wpAny _ _ (isInstance (.ref p') (.type "tuple") >>= _) _ _ s
  refine wpAny_bind (wpAny_isInstance T' isSubtype_tuple_tuple ?_)
  simp only [Bool.not_true, Bool.false_eq_true, if_false]
  refine wpAny_bind (wpAny_tupleItemsOf (hs _ _ h1) h3 ?_)
  refine wpAny_bind (wpAny_tupleItemsOf (hs _ _ k1) k3 ?_)
  have z1 : vs.size = 2 := by rw [← Array.length_toList, h4]; rfl
  have z2 : vs'.size = 2 := by rw [← Array.length_toList, k4]; rfl
  rw [h4, k4, z1, z2]
  have ask : ∀ (i j : Int) (ti tj : Tok) (Q' : Value → Shared → Prop), Q' (.bool (decide (j < i))) s → wpAny (model prog w) A.in1 (richCompare CmpOp.Gt (Value.int i ti) (Value.int j tj)) Q' EF s := fun i j ti tj Q' hq => gt_int (A := A.in1) (t := ti) (u := tj) hq
  refine wpAny_bind ?_
  simp only [List.zip_cons_cons, List.zip_nil_right]
  rw [List.forIn_cons]
  refine wpAny_bind (wpAny_bind (wpAny_eqBool_int ?_))
  by_cases e : a = c
  · have e1 : (a == c) = true := by simp [e]
    rw [e1]
    simp only [Bool.not_true, Bool.false_eq_true, if_false]
    refine wpAny_pure ?_
    dsimp only
    rw [List.forIn_cons]
    refine wpAny_bind (wpAny_bind (wpAny_eqBool_int ?_))
    by_cases f : b = d
    · have f1 : (b == d) = true := by simp [f]
      rw [f1]
      simp only [Bool.not_true, Bool.false_eq_true, if_false]
      refine wpAny_pure ?_
      dsimp only
      rw [List.forIn_nil]
      refine wpAny_pure (wpAny_pure ⟨_, rfl, (fun e => nomatch e), ?_⟩)
      have : decide (ltP (c, d) (a, b)) = false := by simp [ltP, e, f]
      rw [this] at h
      exact h
    · have f1 : (b == d) = false := by simp [f]
      rw [f1]
      simp only [Bool.not_false, if_true]
      refine wpAny_bind (wpAny_rule (wpAny_bind (ask _ _ _ _ _ (wpAny_bind (wpAny_pure (wpAny_pure ?_))))))
      refine wpAny_pure (wpAny_pure ⟨_, rfl, (fun e => nomatch e), ?_⟩)
      have : decide (ltP (c, d) (a, b)) = decide (d < b) := by simp [ltP, e]
      rw [this] at h
      exact h
  · have e1 : (a == c) = false := by simp [e]
    rw [e1]
    simp only [Bool.not_false, if_true]
    refine wpAny_bind (wpAny_rule (wpAny_bind (ask _ _ _ _ _ (wpAny_bind (wpAny_pure (wpAny_pure ?_))))))
    refine wpAny_pure (wpAny_pure ⟨_, rfl, (fun e => nomatch e), ?_⟩)
    have : decide (ltP (c, d) (a, b)) = decide (c < a) := by simp [ltP, e, Ne.symm e, eq_comm]
    rw [this] at h
    exact h
end
section
variable {prog : Program} {w : World} {A : Around} {hB : Heap} {x : Sta} {s : Shared} {n : Nat}
theorem ordA_sound (R : Rb A n) (P : St prog w hB x.g x.ρ x.σ x.h) (hs : s.heap = x.h) {op : CmpOp} {a b : AV} {va vb : Value} {Q : Bool → Prop} {Qr : Value → Shared → Prop} (ha : VRx x a va) (hb : VRx x b vb) (h : ordA op a b Q)
    (hq : ∀ t, Q t → Qr (.bool t) s) : wpAny (model prog w) A (compareOp op va vb) Qr EF s := by
  have hu : A.units < cLine := by have := R.units; omega
  cases h with
  | ilt q =>
    obtain ⟨t, rfl⟩ := ha.int
    obtain ⟨u, rfl⟩ := hb.int
    exact lt_int (hq _ q)
  | igt q =>
    obtain ⟨t, rfl⟩ := ha.int
    obtain ⟨u, rfl⟩ := hb.int
    exact gt_int (hq _ q)
  | ile q =>
    obtain ⟨t, rfl⟩ := ha.int
    obtain ⟨u, rfl⟩ := hb.int
    exact PyProof.Rows.le_int (hq _ q)
  | ige q =>
    obtain ⟨t, rfl⟩ := ha.int
    obtain ⟨u, rfl⟩ := hb.int
    exact PyProof.Rows.ge_int (hq _ q)
  | slt q =>
    obtain ⟨t, rfl⟩ := ha.str
    obtain ⟨u, rfl⟩ := hb.str
    exact PyProof.Rows.lt_str (hq _ q)
  | sgt q =>
    obtain ⟨t, rfl⟩ := ha.str
    obtain ⟨u, rfl⟩ := hb.str
    exact PySem.P.gt_str (hq _ q)
  | plt q =>
    obtain ⟨_, ra⟩ := ha.rd
    obtain ⟨_, rb⟩ := hb.rd
    exact lt_pair hu (hs ▸ P.sub) ra rb (hq _ q)
  | pgt q =>
    obtain ⟨_, ra⟩ := ha.rd
    obtain ⟨_, rb⟩ := hb.rd
    exact gt_pair hu (hs ▸ P.sub) ra rb (hq _ q)
theorem inA_sound (neg : Bool) (R : Rb A n) (P : St prog w hB x.g x.ρ x.σ x.h) (hs : s.heap = x.h) {a b : AV} {va vb : Value} {Q : Bool → Prop} {Qr : Value → Shared → Prop} (ha : VRx x a va) (hb : VRx x b vb) (h : inA a b x.σ Q)
    (hq : ∀ t tk, Q t → Qr (.bool (if neg then !t else t)) { s with toks := tk }) : wpAny (model prog w) A (compareOp (if neg then .NotIn else .In) va vb) Qr EF s := by
  cases h with
  | @set k l i e q =>
    obtain ⟨t, rfl⟩ := ha.int
    obtain rfl := hb.ob
    have S' : s.heap.SetOf (PySem.intKind prog w) (x.ρ k) (fun k => decide (k ∈ l)) l.length := hs ▸ (P.own k _ e).2.2
    cases neg with
    | false => exact wpAny_inSet_of (knd := PySem.intKind prog w) (intKind_is prog w i t) rfl S' (hq _ _ q)
    | true => exact wpAny_notInSet_of (knd := PySem.intKind prog w) (intKind_is prog w i t) rfl S' (hq _ _ q)
  | @lst d xs h1 h2 q =>
    obtain ⟨_, ra⟩ := ha.rd
    obtain ⟨_, rb⟩ := hb.rd
    have ra' := Reads.keeps (hs ▸ P.sub : ∀ b o, x.g.get? b = some o → s.heap.get? b = some o) ra
    have rb' := Reads.keeps (hs ▸ P.sub : ∀ b o, x.g.get? b = some o → s.heap.get? b = some o) rb
    have hu : A.units + 1 + min (PyData.depthAll xs) d.depth < cLine := by
      have := R.units; have := h1.2; omega
    cases neg with
    | false => exact SeqAt.in_list_reads rb' ra' h2.1 h1.1 hu (hq _ _ q)
    | true => exact SeqAt.notIn_list_reads rb' ra' h2.1 h1.1 hu (hq _ _ q)
theorem isNone_sound {a : AV} {va : Value} (ha : VRx x a va) (hu : a ≠ .un) : (va == Value.none) = isNone a := by
  cases ha with
  | un => exact absurd rfl hu
  | d r =>
    cases r with
    | none => rfl
    | bool => rfl
    | int => rfl
    | str => rfl
    | list => rfl
    | tuple => rfl
    | dict => rfl
  | obj => rfl
  | ins => rfl
  | @fn i v e =>
    unfold gloV at e
    split at e <;> cases e <;> rfl
  | fns => rfl
  | rng => rfl
theorem cmpA_sound (R : Rb A n) (P : St prog w hB x.g x.ρ x.σ x.h) (hs : s.heap = x.h) {op : CmpOp} {a b : AV} {va vb : Value} {Q : Bool → Prop} {Qr : Value → Shared → Prop} (ha : VRx x a va) (hb : VRx x b vb) (h : cmpA op a b x.σ Q)
    (hq : ∀ t tk, Q t → Qr (.bool t) { s with toks := tk }) : wpAny (model prog w) A (compareOp op va vb) Qr EF s := by
  cases h with
  | eq h1 h2 e1 e2 q =>
    obtain ⟨as, ra⟩ := dataIn_sound P h1 ha
    obtain ⟨bs, rb⟩ := dataIn_sound P h2 hb
    exact SeqAt.compareEq_reads (hs ▸ ra) (hs ▸ rb) e1.1 e2.1 (eqOk_room R e1) (hq _ _ q)
  | ne h1 h2 e1 e2 q =>
    obtain ⟨as, ra⟩ := dataIn_sound P h1 ha
    obtain ⟨bs, rb⟩ := dataIn_sound P h2 hb
    exact SeqAt.compareNe_reads (hs ▸ ra) (hs ▸ rb) e1.1 e2.1 (eqOk_room R e1) (hq _ _ q)
  | is u q =>
    obtain ⟨_, rb⟩ := hb.rd
    cases rb
    exact PySem.is_none (by rw [isNone_sound ha u]; exact hq _ _ q)
  | mem h => exact inA_sound false R P hs ha hb h fun t tk ht => hq _ _ ht
  | nmem h => exact inA_sound true (Q := fun t => Q (!t)) R P hs ha hb h fun t tk ht => hq _ _ ht
  | ord h => exact ordA_sound R P hs ha hb h fun t ht => hq _ _ ht
theorem readsAll_get {g : Heap} {xs : List PyData} : ∀ {vs : List Value} {as : List Addr}, ReadsAll g vs xs as → ∀ {i : Nat} {d : PyData}, xs[i]? = some d → ∃ v bs, vs[i]? = some v ∧ Reads g v d bs := by
  induction xs with
  | nil => intro vs as _ i d h; cases h
  | cons x xs ih =>
    intro vs as r i d h
    obtain ⟨v, vs, as', cs, rfl, a, b⟩ := ra_hd r
    cases i with
    | zero => cases h; exact ⟨_, _, rfl, a⟩
    | succ i => exact ih b h
theorem vrs_get {l : List AV} : ∀ {vs : List Value}, VRsx x l vs → ∀ {i : Nat} {a : AV}, l[i]? = some a → ∃ v, vs[i]? = some v ∧ VRx x a v := by
  induction l with
  | nil => intro vs _ i a h; cases h
  | cons b l ih =>
    intro vs r i a h
    obtain ⟨v, vs, rfl, r1, r2⟩ := r.hd
    cases i with
    | zero => cases h; exact ⟨_, rfl, r1⟩
    | succ i => exact ih r2 h
theorem vrs_length {l : List AV} : ∀ {vs : List Value}, VRsx x l vs → l.length = vs.length := by
  induction l with
  | nil => intro vs r; rw [r.nilv]; rfl
  | cons b l ih =>
    intro vs r
    obtain ⟨v, vs, rfl, r1, r2⟩ := r.hd
    exact congrArg Nat.succ (ih r2)
theorem seqIndex_a {j : Int} {n : Nat} (h0 : 0 ≤ j) (h : j.toNat < n) : seqIndex? j n = some j.toNat := by
  have e : ¬ j < 0 := by omega
  have f : j < n := by omega
  simp [seqIndex?, e, h0, f]
theorem seqIndex_b {j : Int} {n : Nat} (h0 : ¬ 0 ≤ j) (h1 : 0 ≤ j + n) : seqIndex? j n = some (j + n).toNat := by
  have e : j < 0 := by omega
  have f : j + n < n := by omega
  simp [seqIndex?, e, h1, f]
theorem getItem_any {l : Addr} {items : Array Value} {j : Int} {t : Tok} {α : Type} {xs : List α} {y : α} {Q : Value → Shared → Prop} (hl : s.heap.IsList l items ∨ s.heap.IsTuple l items) (hz : xs.length = items.size) (hlt : items.size < 2 ^ 60)
    (hg : getI xs j = some y) (h : ∀ (i : Nat) (v : Value), xs[i]? = some y → items[i]? = some v → Q v s) : wpAny (model prog w) A (getItem (.ref l) (.int j t)) Q EF s := by
  unfold getI at hg
  by_cases h0 : 0 ≤ j
  · rw [if_pos h0] at hg
    have hi : j.toNat < items.size := by rw [← hz]; exact (List.getElem?_eq_some_iff.mp hg).1
    have hv : items[j.toNat]? = some items[j.toNat] := Array.getElem?_eq_getElem hi
    have hf : j < 2 ^ 63 := by omega
    rcases hl with hl | hl
    · exact wpAny_getItem_list hl h0 hf hv (h _ _ hg hv)
    · exact PyProof.Rows.getItem_tuple hl (by omega) hf (j := j.toNat) (seqIndex_a h0 hi) hv (h _ _ hg hv)
  · rw [if_neg h0] at hg
    by_cases h1 : 0 ≤ j + xs.length
    · rw [if_pos h1] at hg
      have hi : (j + xs.length).toNat < items.size := by rw [← hz]; exact (List.getElem?_eq_some_iff.mp hg).1
      have hv : items[(j + xs.length).toNat]? = some items[(j + xs.length).toNat] := Array.getElem?_eq_getElem hi
      rcases hl with hl | hl
      · exact wpAny_getItem_list_neg hl (by omega) (by omega) (by omega) (by rw [← hz]; exact hv) (h _ _ hg hv)
      · exact PyProof.Rows.getItem_tuple hl (by omega) (by omega) (j := (j + xs.length).toNat) (by rw [← hz]; exact seqIndex_b h0 h1) hv (h _ _ hg hv)
    · rw [if_neg h1] at hg; cases hg
end
end Mine
end
section
open PySem PySem.W PyProof.Rows
namespace Mine
open PySem PySem.Calls
structure Inv (prog : Program) (w : World) (hB : Heap) (n : Nm) (env : Env) (x : Sta) (l : List AV) : Prop where
  st : St prog w hB x.g x.ρ x.σ x.h
  lr : LR hB n env x l
noncomputable abbrev Con (prog : Program) (w : World) (hB : Heap) (n : Nm) (env : Env) (l : List AV) (x : Sta) (s : Shared) (Q : AV → H → Prop) (Qr : Value → Shared → Prop) : Prop :=
  ∀ av v y tk, Inv prog w hB n env y l → Step env.locals x y → VRx y av v → Q av y.σ → Qr v { s with heap := y.h, toks := tk }
section
variable {prog : Program} {w : World} {K : Frag} {hB : Heap} {n : Nm} {env : Env} {A : Around} {x : Sta} {l : List AV} {s : Shared} {N : Nat} {Q : AV → H → Prop} {Qr : Value → Shared → Prop}
theorem Inv.step {y : Sta} (I : Inv prog w hB n env x l) (P : St prog w hB y.g y.ρ y.σ y.h) (S : Step env.locals x y) (hn : ∀ m, x.h.Ns env.locals m → y.h.Ns env.locals m) : Inv prog w hB n env y l :=
  ⟨P, I.lr.step I.st S hn⟩
theorem Con.here (I : Inv prog w hB n env x l) (hs : s.heap = x.h) (k : Con prog w hB n env l x s Q Qr) {av : AV} {v : Value} {tk : Nat} (r : VRx x av v) (q : Q av x.σ) : Qr v { s with toks := tk } := by
  have h := k av v x tk I (Step.refl _ _) r q
  rw [← hs] at h; exact h
theorem Con.fix (I : Inv prog w hB n env x l) (k : Con prog w hB n env l x s Q Qr) {av : AV} {v : Value} {tk : Nat} {h' : Heap} {a : Addr} {o : Obj} (hk : ∀ b o, x.h.get? b = some o → h'.get? b = some o) (ha : x.h.get? a = none) (ho : h'.get? a = some o)
    (r : ∀ g', (∀ b o, x.g.get? b = some o → g'.get? b = some o) → g'.get? a = some o → VR g' x.ρ x.σ av v) (q : Q av x.σ) : Qr v { s with heap := h', toks := tk } := by
  obtain ⟨g', P, S, e⟩ := I.st.fix hk ha ho
  exact k av v { x with g := g', h := h' } tk (I.step P (S _) fun m hn => hn.keeps hk) (S _) (r g' (S 0).grow.sub e) q
theorem Con.alloc (I : Inv prog w hB n env x l) (k : Con prog w hB n env l x s Q Qr) {tk : Nat} {h' : Heap} {a : Addr} {j : Nat} {o : AO} (hf : look x.σ j = none) (hk : ∀ b o, x.h.get? b = some o → h'.get? b = some o) (ha : x.h.objs.size ≤ a)
    (ho : OAt prog w x.g (fun i => if i = j then a else x.ρ i) ((j, o) :: x.σ) h' o a) (q : Q (.obj j) ((j, o) :: x.σ)) : Qr (.ref a) { s with heap := h', toks := tk } := by
  obtain ⟨P, S⟩ := I.st.alloc hf hk ha ho
  refine k (.obj j) (.ref a) ⟨x.g, fun i => if i = j then a else x.ρ i, (j, o) :: x.σ, h'⟩ tk (I.step P (S _) fun m hn => hn.keeps hk) (S _) ?_ q
  have := VR.obj (g := x.g) (ρ := fun i => if i = j then a else x.ρ i) (σ := (j, o) :: x.σ) (k := j) (by rw [look_cons_same]; rfl)
  simpa using this
theorem Con.write (I : Inv prog w hB n env x l) (k : Con prog w hB n env l x s Q Qr) {av : AV} {v : Value} {tk : Nat} {h' : Heap} {j : Nat} {o o' : AO} (hl : look x.σ j = some o) (hsb : Heap.SameBut (x.ρ j) x.h h')
    (ho : OAt prog w x.g x.ρ (put x.σ j o') h' o' (x.ρ j)) (r : VRx ⟨x.g, x.ρ, put x.σ j o', h'⟩ av v) (q : Q av (put x.σ j o')) : Qr v { s with heap := h', toks := tk } := by
  obtain ⟨P, S⟩ := I.st.write hl (fun b ob hb e => (hsb.2 b hb).trans e) ho
  exact k av v _ tk (I.step P (S _) fun m hn => hn.sameBut hsb (Ne.symm (I.lr.lown j (by rw [hl]; rfl)))) (S _) r q
theorem VR.putMono {j : Nat} {o o' : AO} {h' : Heap} (_hl : look x.σ j = some o) {av : AV} {v : Value} (r : VRx x av v) : VRx ⟨x.g, x.ρ, put x.σ j o', h'⟩ av v :=
  r.mono ⟨fun _ _ e => e, fun k e => by rw [look_put_isSome]; exact e, fun _ _ => rfl⟩
end
theorem ra_iff {g : Heap} : ∀ {vs : List Value} {xs : List PyData}, (∃ as, ReadsAll g vs xs as) ↔ vs.length = xs.length ∧ ∀ (i : Nat) (d : PyData), xs[i]? = some d → ∃ v bs, vs[i]? = some v ∧ Reads g v d bs
  | [], [] => ⟨fun _ => ⟨rfl, fun i d h => by simp at h⟩, fun _ => ⟨_, .nil⟩⟩
  | [], _ :: _ => ⟨fun ⟨_, h⟩ => (by cases h), fun h => by simp at h⟩
  | _ :: _, [] => ⟨fun ⟨_, h⟩ => (by cases h), fun h => by simp at h⟩
  | v :: vs, x :: xs => by
    constructor
    · rintro ⟨as, h⟩
      cases h with
      | cons r rs =>
        obtain ⟨h1, h2⟩ := ra_iff.mp ⟨_, rs⟩
        refine ⟨by simp [h1], fun i d h => ?_⟩
        cases i with
        | zero => simp at h; subst h; exact ⟨_, _, rfl, r⟩
        | succ i => simp at h; exact h2 i d h
    · rintro ⟨h1, h2⟩
      obtain ⟨v', bs, e, r⟩ := h2 0 x rfl
      simp at e; subst e
      obtain ⟨as, rs⟩ := ra_iff.mpr ⟨by simpa using h1, fun i d h => h2 (i + 1) d h⟩
      exact ⟨_, .cons r rs⟩
theorem ra_take {g : Heap} {vs : List Value} {xs : List PyData} (n : Nat) (h : ∃ as, ReadsAll g vs xs as) : ∃ as, ReadsAll g (vs.take n) (xs.take n) as := by
  rw [ra_iff] at h ⊢
  refine ⟨by simp [h.1], fun i d e => ?_⟩
  rw [List.getElem?_take] at e ⊢
  split at e
  · rename_i hi; rw [if_pos hi]; exact h.2 i d e
  · cases e
theorem ra_drop {g : Heap} {vs : List Value} {xs : List PyData} (n : Nat) (h : ∃ as, ReadsAll g vs xs as) : ∃ as, ReadsAll g (vs.drop n) (xs.drop n) as := by
  rw [ra_iff] at h ⊢
  refine ⟨by simp [h.1], fun i d e => ?_⟩
  rw [List.getElem?_drop] at e ⊢
  exact h.2 _ d e
theorem ra_reverse {g : Heap} {vs : List Value} {xs : List PyData} (h : ∃ as, ReadsAll g vs xs as) : ∃ as, ReadsAll g vs.reverse xs.reverse as := by
  rw [ra_iff] at h ⊢
  refine ⟨by simp [h.1], fun i d e => ?_⟩
  have hi : i < xs.length := by have := (List.getElem?_eq_some_iff.mp e).1; simpa using this
  rw [List.getElem?_reverse hi] at e
  rw [List.getElem?_reverse (by rw [h.1]; exact hi), h.1]
  exact h.2 _ d e
theorem ra_append {g : Heap} {vs ws : List Value} {xs ys : List PyData} (h : ∃ as, ReadsAll g vs xs as) (k : ∃ as, ReadsAll g ws ys as) : ∃ as, ReadsAll g (vs ++ ws) (xs ++ ys) as := by
  rw [ra_iff] at h k ⊢
  refine ⟨by simp [h.1, k.1], fun i d e => ?_⟩
  rw [List.getElem?_append] at e ⊢
  rw [h.1]
  split at e
  · rename_i hi; rw [if_pos hi]; exact h.2 i d e
  · rename_i hi; rw [if_neg hi]; exact k.2 _ d e
theorem ra_set {g : Heap} {vs : List Value} {xs : List PyData} (n : Nat) {v : Value} {x : PyData} (h : ∃ as, ReadsAll g vs xs as) (k : ∃ bs, Reads g v x bs) : ∃ as, ReadsAll g (vs.set n v) (xs.set n x) as := by
  rw [ra_iff] at h ⊢
  obtain ⟨bs, k⟩ := k
  refine ⟨by simp [h.1], fun i d e => ?_⟩
  rw [List.getElem?_set] at e ⊢
  rw [h.1]
  split at e
  · rename_i q
    rw [if_pos q]
    split at e
    · rename_i q2; cases e; rw [if_pos q2]; exact ⟨_, _, rfl, k⟩
    · cases e
  · rename_i q; rw [if_neg q]; exact h.2 i d e
theorem ra_dropLast {g : Heap} {vs : List Value} {xs : List PyData} (h : ∃ as, ReadsAll g vs xs as) : ∃ as, ReadsAll g vs.dropLast xs.dropLast as := by
  have e := (ra_iff.mp h).1
  rw [List.dropLast_eq_take, List.dropLast_eq_take, e]; exact ra_take _ h
theorem ra_one {g : Heap} {v : Value} {x : PyData} {bs : List Addr} (r : Reads g v x bs) : ∃ as, ReadsAll g [v] [x] as := ⟨_, .cons r .nil⟩
theorem ra_len {g : Heap} {vs : List Value} {xs : List PyData} {as : List Addr} (h : ReadsAll g vs xs as) : vs.length = xs.length := (ra_iff.mp ⟨_, h⟩).1
theorem vrs_iff {g : Heap} {ρ : Nat → Addr} {σ : H} : ∀ {l : List AV} {vs : List Value}, VRs g ρ σ l vs ↔ vs.length = l.length ∧ ∀ (i : Nat) (d : AV), l[i]? = some d → ∃ v, vs[i]? = some v ∧ VR g ρ σ d v
  | [], [] => ⟨fun _ => ⟨rfl, fun i d h => by simp at h⟩, fun _ => .nil⟩
  | [], _ :: _ => ⟨fun h => (nomatch h), fun h => by simp at h⟩
  | _ :: _, [] => ⟨fun h => (nomatch h), fun h => by simp at h⟩
  | x :: xs, v :: vs => by
    constructor
    · intro h
      cases h with
      | cons r rs =>
        obtain ⟨h1, h2⟩ := vrs_iff.mp rs
        refine ⟨by simp [h1], fun i d h => ?_⟩
        cases i with
        | zero => simp at h; subst h; exact ⟨_, rfl, r⟩
        | succ i => simp at h; exact h2 i d h
    · rintro ⟨h1, h2⟩
      obtain ⟨v', e, r⟩ := h2 0 x rfl
      simp at e; subst e
      exact .cons r (vrs_iff.mpr ⟨by simpa using h1, fun i d h => h2 (i + 1) d h⟩)
theorem vrs_set {g : Heap} {ρ : Nat → Addr} {σ : H} {vs : List Value} {xs : List AV} (n : Nat) {v : Value} {x : AV} (h : VRs g ρ σ xs vs) (k : VR g ρ σ x v) : VRs g ρ σ (xs.set n x) (vs.set n v) := by
  rw [vrs_iff] at h ⊢
  refine ⟨by simp [h.1], fun i d e => ?_⟩
  rw [List.getElem?_set] at e ⊢
  rw [h.1]
  split at e
  · rename_i q
    rw [if_pos q]
    split at e
    · rename_i q2; cases e; rw [if_pos q2]; exact ⟨_, rfl, k⟩
    · cases e
  · rename_i q; rw [if_neg q]; exact h.2 i d e
theorem unDs_reads {x : Sta} {l : List AV} : ∀ {vs : List Value} {xs : List PyData}, VRsx x l vs → unDs l = some xs → ∃ as, ReadsAll x.g vs xs as := by
  induction l with
  | nil => intro vs xs r h; cases h; rw [r.nilv]; exact ⟨_, .nil⟩
  | cons a l ih =>
    intro vs xs r h
    obtain ⟨v, vs, rfl, r1, r2⟩ := r.hd
    cases a with
    | d y =>
      have h : (match unDs l with
        | some xs => some (y :: xs)
        | none => none) = some xs := h
      cases e : unDs l with
      | none => rw [e] at h; cases h
      | some ys =>
        rw [e] at h; cases h
        obtain ⟨_, r0⟩ := r1.rd
        obtain ⟨as, h1⟩ := ih r2 e
        exact ⟨_, .cons r0 h1⟩
    | _ => cases h
theorem unFs_glo {x : Sta} {l : List AV} : ∀ {vs : List Value} {xs : List Nat}, VRsx x l vs → unFs l = some xs → xs.map gloV = vs.map some := by
  induction l with
  | nil => intro vs xs r h; cases h; rw [r.nilv]; rfl
  | cons a l ih =>
    intro vs xs r h
    obtain ⟨v, vs, rfl, r1, r2⟩ := r.hd
    cases a with
    | fn y =>
      have h : (match unFs l with
        | some xs => some (y :: xs)
        | none => none) = some xs := h
      cases e : unFs l with
      | none => rw [e] at h; cases h
      | some ys =>
        rw [e] at h; cases h
        rw [List.map_cons, List.map_cons, ih r2 e, r1.fnv]
    | _ => cases h
section
variable {prog : Program} {w : World} {K : Frag} {hB : Heap} {n : Nm} {env : Env} {A : Around} {x : Sta} {l : List AV} {s : Shared} {N : Nat} {Q : AV → H → Prop} {Qr : Value → Shared → Prop}
theorem subA_item (P : St prog w hB x.g x.ρ x.σ x.h) (hs : s.heap = x.h) {o i : AV} {vo vi : Value} {Q1 : AV → Prop} (ro : VRx x o vo) (ri : VRx x i vi) (h : subA o i x.σ Q1)
    (k : ∀ av v, VRx x av v → Q1 av → Qr v s) : wpAny (model prog w) A (getItem vo vi) Qr EF s := by
  cases h with
  | @lst xs j y hz hg q =>
    obtain ⟨t, rfl⟩ := ri.int
    obtain ⟨a, ob, vs, nn, as, rfl, h1, h2, h3, h4⟩ := ro.lst
    have hl := ra_len h4
    rw [Array.length_toList] at hl
    refine getItem_any (.inl ⟨ob, hs ▸ P.sub _ _ h1, h2, nn, h3⟩) hl.symm (by omega) hg fun i v e1 e2 => ?_
    obtain ⟨v', bs, e3, r'⟩ := readsAll_get h4 e1
    rw [Array.getElem?_toList, e2] at e3; cases e3
    exact k _ _ (.d r') q
  | @tup xs j y hz hg q =>
    obtain ⟨t, rfl⟩ := ri.int
    obtain ⟨a, ob, vs, nn, as, rfl, h1, h2, h3, h4⟩ := ro.tup
    have hl := ra_len h4
    rw [Array.length_toList] at hl
    refine getItem_any (.inr ⟨ob, hs ▸ P.sub _ _ h1, h2, nn, h3⟩) hl.symm (by omega) hg fun i v e1 e2 => ?_
    obtain ⟨v', bs, e3, r'⟩ := readsAll_get h4 e1
    rw [Array.getElem?_toList, e2] at e3; cases e3
    exact k _ _ (.d r') q
  | @dat kk xs j y e hz hg q =>
    obtain ⟨t, rfl⟩ := ri.int
    obtain rfl := ro.ob
    obtain ⟨items, nn, as, h1, h4⟩ := (P.own kk _ e).2.2
    have hl := ra_len h4
    rw [Array.length_toList] at hl
    refine getItem_any (.inl ⟨_, hs ▸ h1, rfl, nn, rfl⟩) hl.symm (by omega) hg fun i v e1 e2 => ?_
    obtain ⟨v', bs, e3, r'⟩ := readsAll_get h4 e1
    rw [Array.getElem?_toList, e2] at e3; cases e3
    exact k _ _ (.d r') q
  | @mix kk xs j y e hz hg q =>
    obtain ⟨t, rfl⟩ := ri.int
    obtain rfl := ro.ob
    obtain ⟨items, nn, h1, h4⟩ := (P.own kk _ e).2.2
    have hl := (vrs_iff.mp h4).1
    rw [Array.length_toList] at hl
    refine getItem_any (.inl ⟨_, hs ▸ h1, rfl, nn, rfl⟩) hl.symm (by omega) hg fun i v e1 e2 => ?_
    obtain ⟨v', e3, r'⟩ := (vrs_iff.mp h4).2 _ _ e1
    rw [Array.getElem?_toList, e2] at e3; cases e3
    exact k _ _ r' q
theorem subA_type (P : St prog w hB x.g x.ρ x.σ x.h) (hs : s.heap = x.h) {o i : AV} {vo : Value} {Q1 : AV → Prop} (ro : VRx x o vo) (h : subA o i x.σ Q1) : (∃ a xs, vo = .ref a ∧ s.heap.IsList a xs) ∨ ∃ a xs, vo = .ref a ∧ s.heap.IsTuple a xs := by
  cases h with
  | lst =>
    obtain ⟨_, _, _, _, _, rfl, h1, h2, h3, h4⟩ := ro.lst
    exact .inl ⟨_, _, rfl, _, hs ▸ P.sub _ _ h1, h2, _, h3⟩
  | tup =>
    obtain ⟨_, _, _, _, _, rfl, h1, h2, h3, h4⟩ := ro.tup
    exact .inr ⟨_, _, rfl, _, hs ▸ P.sub _ _ h1, h2, _, h3⟩
  | @dat kk xs j y e hz hg q =>
    obtain ⟨items, nn, as, h1, h4⟩ := (P.own kk _ e).2.2
    exact .inl ⟨_, _, ro.ob, _, hs ▸ h1, rfl, nn, rfl⟩
  | @mix kk xs j y e hz hg q =>
    obtain ⟨items, nn, h1, h4⟩ := (P.own kk _ e).2.2
    exact .inl ⟨_, _, ro.ob, _, hs ▸ h1, rfl, nn, rfl⟩
theorem subA_sound (P : St prog w hB x.g x.ρ x.σ x.h) (hs : s.heap = x.h) {value slice : PySem.Expr} {o i : AV} {vo vi : Value} {Q1 : AV → Prop} (ro : VRx x o vo) (ri : VRx x i vi) (h : subA o i x.σ Q1)
    (hsl : ∀ o i, subscripted slice false o i = operate [o, i] (getItem o i)) (k : ∀ av v, VRx x av v → Q1 av → Qr v s) : wpAny (model prog w) A (subscriptTail value slice vo vi) Qr EF s := by
  have it := subA_item (A := A) P hs ro ri h k
  rcases subA_type P hs ro h with ⟨a, xs, rfl, hL⟩ | ⟨a, xs, rfl, hL⟩
  · exact tail_any hL.typeIs PySem.slot_list_getitem.lookup it (hsl _ _)
  · exact tail_any hL.typeIs F.slot_tuple_getitem.lookup it (hsl _ _)
theorem slc_step (I : Inv prog w hB n env x l) (hs : s.heap = x.h) {value slice : PySem.Expr} {a : Addr} {items : Array Value} {vl vu vs : Value} {lo hi st : Option Int} {xs : List PyData} {ops : List Value} (hl : x.h.IsList a items) (hz : items.size < 2 ^ 20)
    (pl : IsPart vl lo) (pu : IsPart vu hi) (ps : IsPart vs st) (h0 : st ≠ some 0)
    (hsl : subscripted slice false (.ref a) (.ref s.heap.objs.size) = operate ops (getItem (.ref a) (.ref s.heap.objs.size)))
    (k : Con prog w hB n env l x s Q Qr) (q : Q (.d (.list xs)) x.σ) (hrg : ∃ as, ReadsAll x.g (slicePick items lo hi st).toList xs as) :
    wpAny (model prog w) A (subscriptTail value slice (.ref a) (.ref s.heap.objs.size)) Qr EF { s with heap := s.heap.push { cls := .type "slice", data := .fields #[vl, vu, vs] } } := by
  have hl' : s.heap.IsList a items := hs ▸ hl
  refine tail_any (Heap.IsList.typeIs (s := { s with heap := s.heap.push { cls := .type "slice", data := .fields #[vl, vu, vs] } }) (hl'.push _)) list_getitem_lookup
    (wpAny_getItem_list_slice (hl'.push _) (Heap.IsSliceOf.new ..) pl pu ps h0 ?_ (by rw [sizeLine_eq]; omega)) hsl
  refine Con.fix I k (a := (s.heap.push { cls := .type "slice", data := .fields #[vl, vu, vs] }).objs.size) (fun b o e => Heap.get?_push_of_some _ (Heap.get?_push_of_some _ (show s.heap.get? b = some o from hs ▸ e))) ?_ (Heap.get?_push_size _ rfl) (fun g' hg' e => ?_) q
  · exact Heap.get?_none_of_le (by rw [Heap.size_push, hs]; omega)
  · obtain ⟨as, hrg⟩ := hrg
    exact .d (.list e rfl rfl (ReadsAll.keeps hg' hrg))
theorem listLike (P : St prog w hB x.g x.ρ x.σ x.h) {o : AV} {v : Value} {xs : List PyData} (h : dataIn x.σ o = some (.list xs)) (r : VRx x o v) : ∃ a ob items nn, v = .ref a ∧ x.h.get? a = some ob ∧ ob.cls = .type "list" ∧ ob.data = .seq items nn ∧ ∃ as, ReadsAll x.g items.toList xs as := by
  rcases dataIn_inv h with rfl | ⟨k, l, rfl, e, he⟩
  · obtain ⟨_, _, _, _, _, rfl, h1, h2, h3, h4⟩ := r.lst
    exact ⟨_, _, _, _, rfl, P.sub _ _ h1, h2, h3, _, h4⟩
  · cases he
    obtain ⟨items, n, as, h3, h4⟩ := (P.own k _ e).2.2
    exact ⟨_, _, _, _, r.ob, h3, rfl, rfl, _, h4⟩
theorem slcA_sound (I : Inv prog w hB n env x l) (hs : s.heap = x.h) {value slice : PySem.Expr} {o lo hi st : AV} {vo vl vu vs : Value} (ro : VRx x o vo) (rl : VRx x lo vl) (rh : VRx x hi vu) (rs : VRx x st vs) (h : slcA o lo hi st x.σ fun r => Q r x.σ)
    (hsl : ∀ o i, ∃ ops, subscripted slice false o i = operate ops (getItem o i))
    (k : Con prog w hB n env l x s Q Qr) :
    wpAny (model prog w) A (subscriptTail value slice vo (.ref s.heap.objs.size)) Qr EF { s with heap := s.heap.push { cls := .type "slice", data := .fields #[vl, vu, vs] } } := by
  cases h with
  | @to xs m e hz q =>
    obtain ⟨a, ob, items, nn, rfl, h1, h2, h3, as, h4⟩ := listLike I.st e ro
    have hz := ra_len h4
    rw [Array.length_toList] at hz
    obtain ⟨ops, hops⟩ := hsl (.ref a) (.ref s.heap.objs.size)
    obtain rfl := rl.unv
    obtain rfl := rs.unv
    obtain ⟨t, rfl⟩ := rh.int
    refine slc_step I hs ⟨ob, h1, h2, nn, h3⟩ (by omega) .none (.int _ _) .none (by simp) hops k q ?_
    rw [slicePick_upto', List.toList_toArray]
    exact ra_take _ ⟨_, h4⟩
  | @frm xs m e hz q =>
    obtain ⟨a, ob, items, nn, rfl, h1, h2, h3, as, h4⟩ := listLike I.st e ro
    have hz := ra_len h4
    rw [Array.length_toList] at hz
    obtain ⟨ops, hops⟩ := hsl (.ref a) (.ref s.heap.objs.size)
    obtain rfl := rh.unv
    obtain rfl := rs.unv
    obtain ⟨t, rfl⟩ := rl.int
    refine slc_step I hs ⟨ob, h1, h2, nn, h3⟩ (by omega) (.int _ _) .none .none (by simp) hops k q ?_
    rw [slicePick_from', List.toList_toArray]
    exact ra_drop _ ⟨_, h4⟩
  | @rev xs e hz q =>
    obtain ⟨a, ob, items, nn, rfl, h1, h2, h3, as, h4⟩ := listLike I.st e ro
    have hz := ra_len h4
    rw [Array.length_toList] at hz
    obtain ⟨ops, hops⟩ := hsl (.ref a) (.ref s.heap.objs.size)
    obtain rfl := rl.unv
    obtain rfl := rh.unv
    obtain ⟨t, rfl⟩ := rs.int
    refine slc_step I hs ⟨ob, h1, h2, nn, h3⟩ (by omega) .none .none (.int _ _) (by decide) hops k q ?_
    rw [krv_pick, List.toList_toArray]
    exact ra_reverse ⟨_, h4⟩
end
end Mine
end
section
open PySem PySem.W PyProof.Rows
namespace Mine
open PySem PySem.Calls
theorem base_plain {o : PySem.Expr} {attr : Str} {env : Env} {whole : Sem Value} (h : notSuper o = true) : attributeBase o attr env whole = whole := by
  cases o with
  | Call f as ks p =>
    cases f with
    | Name id q =>
      cases as with
      | nil =>
        cases ks with
        | nil =>
          have e : (id != "super") = true := by
            have h : (!decide (id = ("super" : Str))) = true := h
            rw [Bool.not_eq_true', decide_eq_false_iff_not] at h
            exact bne_iff_ne.mpr h
          refine (if_pos (by rw [e]; rfl)).trans ?_
          simp
        | cons => rfl
      | cons => rfl
    | _ => rfl
  | _ => rfl
section
variable {prog : Program} {w : World} {K : Frag} {hB : Heap} {n : Nm} {env : Env} {A : Around} {x : Sta} {l : List AV} {s : Shared} {N : Nat} {Q : AV → H → Prop} {Qr : Value → Shared → Prop}
theorem VR.handed {a : AV} {v : Value} (h : VRx x a v) : handedIn v = true := by
  cases h with
  | un => rfl
  | d r => cases r <;> rfl
  | obj => rfl
  | ins => rfl
  | @fn i v e =>
    unfold gloV at e
    split at e <;> cases e <;> first | rfl | decide
  | fns => rfl
  | rng => rfl
theorem VR.inst (P : St prog w hB x.g x.ρ x.σ x.h) (hs : s.heap = x.h) {c k : Nat} {v : Value} {lv : List (Nat × AV)} (h : VRx x (.ins c k) v) (hl : look x.σ k = some (.ns lv)) :
    ∃ a es m, v = .ref a ∧ x.h.get? (x.ρ k) = some (dictOf es m) ∧ x.g.get? a = some (instObj (clA c) (x.ρ k)) ∧ NsR x.g x.ρ x.σ lv es ∧ InstAt s.heap a (instObj (clA c) (x.ρ k)) (clA c) (some (dictOf es m)) := by
  cases h with
  | @ins _ _ a h1 h2 =>
    obtain ⟨es, m, h3, h4⟩ := (P.own k _ hl).2.2
    exact ⟨a, es, m, rfl, h3, h2, h4, ⟨hs ▸ P.sub _ _ h2, rfl, rfl, hs ▸ h3⟩⟩
theorem attrA_sound (W : SW K hB) (P : St prog w hB x.g x.ρ x.σ x.h) (hs : s.heap = x.h) {o : AV} {a : Nat} {vo : Value} {nm : Str} {Q1 : AV → Prop} (hn : attN a = nm) (ro : VRx x o vo) (h : attrA tb o a x.σ Q1)
    (k : ∀ av v tk, VRx x av v → Q1 av → Qr v { s with toks := tk }) : wpAny (model prog w) A (getAttr vo nm true) Qr EF s := by
  subst hn
  cases h with
  | @mk c kk a lv v e hv h1 h2 h3 =>
    obtain ⟨ad, es, m, rfl, _, _, R, I⟩ := VR.inst P hs ro e
    have hc := W.cls c (W.attI c a h1)
    obtain ⟨ha, hlt⟩ := hc.att a h1
    have R1 := R.get a hlt
    rw [hv] at R1
    obtain ⟨vv, g1, g2⟩ := R1
    exact get_value (hs ▸ W.at P) I (plainGet_of hc.get).1 (findObj_own hc.dict ha rfl (by rw [lookIn_dict]; exact g1)) (VR.handed g2) (k _ _ _ g2 h3)
theorem tupA_sound (I : Inv prog w hB n env x l) (hs : s.heap = x.h) {avs : List AV} {vs : List Value} (hz : vs.length < 100) (r : VRsx x avs vs) (h : tupA avs fun r => Q r x.σ) (k : Con prog w hB n env l x s Q Qr) :
    vs.length ≤ sizeLine ∧ Qr (.ref s.heap.objs.size) { s with heap := s.heap.push { cls := .type "tuple", data := .seq vs.toArray } } := by
  refine ⟨by rw [sizeLine_eq]; omega, ?_⟩
  unfold tupA at h
  cases e : unDs avs with
  | none => rw [e] at h; exact h.elim
  | some xs =>
    rw [e] at h
    obtain ⟨as, ra⟩ := unDs_reads r e
    refine Con.fix I k (a := s.heap.objs.size) (fun b o e => Heap.get?_push_of_some _ (show s.heap.get? b = some o from hs ▸ e)) (by rw [hs]; exact Heap.get?_none_of_le (Nat.le_refl _)) (Heap.get?_push_size _ rfl) (fun g' hg' e => ?_) h
    exact .d (.tuple e rfl rfl (ReadsAll.keeps hg' ra))
theorem lstA_sound (I : Inv prog w hB n env x l) (hs : s.heap = x.h) {kk : Nat} {avs : List AV} {vs : List Value} (hz : vs.length < 100) (r : VRsx x avs vs) (h : lstA kk avs x.σ Q) (k : Con prog w hB n env l x s Q Qr) :
    vs.length ≤ sizeLine ∧ Qr (.ref s.heap.objs.size) { s with heap := s.heap.push { cls := .type "list", data := .seq vs.toArray } } := by
  refine ⟨by rw [sizeLine_eq]; omega, ?_⟩
  have hk : ∀ b o, x.h.get? b = some o → (s.heap.push { cls := .type "list", data := .seq vs.toArray }).get? b = some o := fun b o e => Heap.get?_push_of_some _ (show s.heap.get? b = some o from hs ▸ e)
  cases kk with
  | zero =>
    simp only [lstA] at h
    cases e : unDs avs with
    | some xs =>
      rw [e] at h
      obtain ⟨as, ra⟩ := unDs_reads r e
      refine Con.fix I k (a := s.heap.objs.size) hk (by rw [hs]; exact Heap.get?_none_of_le (Nat.le_refl _)) (Heap.get?_push_size _ rfl) (fun g' hg' e => ?_) h
      exact .d (.list e rfl rfl (ReadsAll.keeps hg' ra))
    | none =>
      rw [e] at h
      cases e2 : unFs avs with
      | none => rw [e2] at h; exact h.elim
      | some fs =>
        rw [e2] at h
        have gf := unFs_glo r e2
        refine Con.fix I k (a := s.heap.objs.size) hk (by rw [hs]; exact Heap.get?_none_of_le (Nat.le_refl _)) (Heap.get?_push_size _ rfl) (fun g' hg' e => ?_) h
        exact .fns e gf
  | succ kk =>
    simp only [lstA] at h
    obtain ⟨hf, h⟩ := h
    cases e : unDs avs with
    | some xs =>
      rw [e] at h
      obtain ⟨as, ra⟩ := unDs_reads r e
      exact Con.alloc I k (a := s.heap.objs.size) (o := .dat xs) hf hk (by rw [hs]; exact Nat.le_refl _) ⟨_, _, as, Heap.get?_push_size _ rfl, ra⟩ h
    | none =>
      rw [e] at h
      refine Con.alloc I k (a := s.heap.objs.size) (o := .mix avs) hf hk (by rw [hs]; exact Nat.le_refl _) ⟨_, _, Heap.get?_push_size _ rfl, ?_⟩ h
      refine VRs.mono ⟨fun _ _ e => e, fun j e => ?_, fun j e => ?_⟩ r
      · rw [look_cons]; split <;> simp [e]
      · have : j ≠ kk + 1 := fun q => by rw [q, hf] at e; cases e
        simp [this]
theorem dic_sound (I : Inv prog w hB n env x l) (hs : s.heap = x.h) {kk : Nat} {t : Bool} (h : look x.σ kk = none ∧ Q (.obj kk) ((kk, if t then .dtup [] else .dstr []) :: x.σ)) (k : Con prog w hB n env l x s Q Qr) :
    Qr (.ref s.heap.objs.size) { s with heap := s.heap.push { cls := .type "dict", data := .dict #[] } } := by
  have hk : ∀ b o, x.h.get? b = some o → (s.heap.push { cls := .type "dict", data := .dict #[] }).get? b = some o := fun b o e => Heap.get?_push_of_some _ (show s.heap.get? b = some o from hs ▸ e)
  refine Con.alloc I k (a := s.heap.objs.size) h.1 hk (by rw [hs]; exact Nat.le_refl _) ?_ h.2
  cases t with
  | false => exact ⟨[], Heap.DictOf.new _, rfl, fun i p q e _ => by simp at e⟩
  | true => exact ⟨[], Heap.DictOfH.new _, ⟨rfl, fun i p q e _ => by simp at e⟩, fun x hx => by simp at hx⟩
theorem lenA_sound (P : St prog w hB x.g x.ρ x.σ x.h) (hs : s.heap = x.h) {avs : List AV} {vs : List Value} {Q1 : AV → Prop} (r : VRsx x avs vs) (h : lenA avs x.σ Q1)
    (k : ∀ av v tk, VRx x av v → Q1 av → Qr v { s with toks := tk }) : wpAny (model prog w) A (call (.builtin "len") vs) Qr EF s := by
  cases h with
  | @mk o xs e hl q =>
    obtain ⟨v, rfl, r0⟩ := r.one
    obtain ⟨a, ob, items, nn, rfl, h1, h2, h3, as, h4⟩ := listLike P e r0
    have hz := ra_len h4
    rw [Array.length_toList] at hz
    refine Calls.call_len_list (l := a) (items := items) (hs ▸ ⟨ob, h1, h2, nn, h3⟩) (by omega) ?_
    exact k _ _ _ (by rw [hz]; exact .ofInt _ _) q
theorem mklA_sound (I : Inv prog w hB n env x l) (hs : s.heap = x.h) {kk : Nat} {avs : List AV} {vs : List Value} (r : VRsx x avs vs) (h : mklA kk avs x.σ Q) (k : Con prog w hB n env l x s Q Qr) :
    wpAny (model prog w) A (call (.type "list") vs) Qr EF s := by
  cases h with
  | @zero o xs e hl q =>
    obtain ⟨v, rfl, r0⟩ := r.one
    obtain ⟨a, ob, items, nn, rfl, h1, h2, h3, as, h4⟩ := listLike I.st e r0
    have hz := ra_len h4
    rw [Array.length_toList] at hz
    refine call_list_seq (o := ob) (items := items) a (.inl rfl) (hs ▸ h1) h2 h3 (fun h' c' hk' ho => ?_) (by rw [sizeLine_eq]; omega)
    refine Con.fix I k (a := s.heap.objs.size) (fun b o e => hk' b o (hs ▸ e)) (by rw [hs]; exact Heap.get?_none_of_le (Nat.le_refl _)) ho (fun g' hg' e => ?_) q
    exact .d (.list e rfl rfl (ReadsAll.keeps hg' h4))
  | @succ kk o xs e hl hf q =>
    obtain ⟨v, rfl, r0⟩ := r.one
    obtain ⟨a, ob, items, nn, rfl, h1, h2, h3, as, h4⟩ := listLike I.st e r0
    have hz := ra_len h4
    rw [Array.length_toList] at hz
    refine call_list_seq (o := ob) (items := items) a (.inl rfl) (hs ▸ h1) h2 h3 (fun h' c' hk' ho => ?_) (by rw [sizeLine_eq]; omega)
    exact Con.alloc I k (a := s.heap.objs.size) (o := .dat xs) hf (fun b o e => hk' b o (hs ▸ e)) (by rw [hs]; exact Nat.le_refl _) ⟨_, _, as, ho, h4⟩ q
theorem rngA_sound (I : Inv prog w hB n env x l) (hs : s.heap = x.h) {avs : List AV} {vs : List Value} (r : VRsx x avs vs) (h : rngA avs fun r => Q r x.σ) (k : Con prog w hB n env l x s Q Qr) :
    wpAny (model prog w) A (call (.type "range") vs) Qr EF s := by
  have fin : ∀ (a b c : Int) (t u v : Tok) (tk : Nat), small a → small b → okStep c → Q (.rng a b c) x.σ → Qr (.ref s.heap.objs.size) { s with heap := s.heap.push { cls := .type "range", data := .fields #[.int a t, .int b u, .int c v] }, toks := tk } := fun a b c t u v tk ha hb hc q => by
    refine Con.fix I k (a := s.heap.objs.size) (fun b o e => Heap.get?_push_of_some _ (show s.heap.get? b = some o from hs ▸ e)) (by rw [hs]; exact Heap.get?_none_of_le (Nat.le_refl _)) (Heap.get?_push_size _ rfl) (fun g' hg' e => ?_) q
    exact .rng (t := t) (u := u) (v := v) e ha hb hc
  have z : small 0 := by unfold small; omega
  cases h with
  | one s1 q =>
    obtain ⟨v, rfl, r0⟩ := r.one
    obtain ⟨t, rfl⟩ := r0.int
    exact call_range_1 (fin _ _ _ _ _ _ _ z s1 (.inl rfl) q)
  | two s1 s2 q =>
    obtain ⟨v, v2, rfl, r0, r1⟩ := r.two
    obtain ⟨t, rfl⟩ := r0.int
    obtain ⟨u, rfl⟩ := r1.int
    exact call_range_2 (fin _ _ _ _ _ _ _ s1 s2 (.inl rfl) q)
  | three h1 h2 h3 q =>
    obtain ⟨v, v2, v3, rfl, r0, r1, r2⟩ := r.three
    obtain ⟨t, rfl⟩ := r0.int
    obtain ⟨u, rfl⟩ := r1.int
    obtain ⟨v, rfl⟩ := r2.int
    refine call_range_3 (by rcases h3 with rfl | rfl | rfl <;> decide) (fin _ _ _ _ _ _ _ h1 h2 h3 q) (.inl (PyProof.noPylong_small ?_))
    rcases h3 with rfl | rfl | rfl <;> decide
theorem setA_sound (I : Inv prog w hB n env x l) (hs : s.heap = x.h) {kk : Nat} {avs : List AV} {vs : List Value} (r : VRsx x avs vs) (h : setA kk avs x.σ Q) (k : Con prog w hB n env l x s Q Qr) :
    wpAny (model prog w) A (call (.type "set") vs) Qr EF s := by
  cases h with
  | mk hf q =>
    obtain rfl := r.nilv
    refine call_set_0 fun led => ?_
    refine Con.alloc I k (a := s.heap.objs.size) (o := .iset []) hf (fun b o e => Heap.get?_push_of_some _ (show s.heap.get? b = some o from hs ▸ e)) (by rw [hs]; exact Nat.le_refl _) ?_ q
    refine ⟨_, #[], 0, .fresh 0 0 led, Heap.get?_push_size _ rfl, ⟨rfl, rfl, rfl⟩, rfl, (fun e he => by simp at he), fun k => by simp, by decide, rfl, rfl⟩
end
end Mine
end
section
open PySem PySem.W PyProof.Rows
namespace Mine
open PySem PySem.Calls
theorem valueAt_cons {K : Type} [DecidableEq K] (p : K × Value) (r : List (K × Value)) (k : K) : valueAt (p :: r) k = if p.1 = k then some p.2 else valueAt r k := by
  unfold valueAt
  by_cases h : p.1 = k <;> simp [List.find?_cons, h]
theorem atKey_cons {K : Type} [DecidableEq K] (p : K × Addr × Value) (r : List (K × Addr × Value)) (k : K) : atKey (p :: r) k = if p.1 = k then some p.2 else atKey r k := by
  unfold atKey
  by_cases h : p.1 = k <;> simp [List.find?_cons, h]
theorem lookup_cons' {K V : Type} [DecidableEq K] [BEq K] [LawfulBEq K] (p : K × V) (r : List (K × V)) (k : K) : (p :: r).lookup k = if p.1 = k then some p.2 else r.lookup k := by
  obtain ⟨a, b⟩ := p
  rw [List.lookup_cons]
  by_cases h : a = k
  · subst h; simp
  · have : (k == a) = false := beq_eq_false_iff_ne.mpr (Ne.symm h)
    rw [this]; simp [h]
theorem intPairs_cons {p : Str × Int} {q : Str × Value} {l : List (Str × Int)} {kvs : List (Str × Value)} : IntPairs (p :: l) (q :: kvs) ↔ (p.1 = q.1 ∧ ∃ t, q.2 = Value.int p.2 t) ∧ IntPairs l kvs := by
  constructor
  · rintro ⟨h1, h2⟩
    rw [List.map_cons, List.map_cons, List.cons.injEq] at h1
    exact ⟨⟨h1.1, h2 0 p q rfl rfl⟩, h1.2, fun i a b e1 e2 => h2 (i + 1) a b e1 e2⟩
  · rintro ⟨⟨h1, h2⟩, h3, h4⟩
    refine ⟨by rw [List.map_cons, List.map_cons, h1, h3], fun i a b e1 e2 => ?_⟩
    cases i with
    | zero => simp at e1 e2; subst e1; subst e2; exact h2
    | succ i => simp at e1 e2; exact h4 i a b e1 e2
theorem tupPairs_cons {p : List Int × Int} {q : List Int × Addr × Value} {l : List (List Int × Int)} {kvs : List (List Int × Addr × Value)} : TupPairs (p :: l) (q :: kvs) ↔ (p.1 = q.1 ∧ ∃ t, q.2.2 = Value.int p.2 t) ∧ TupPairs l kvs := by
  constructor
  · rintro ⟨h1, h2⟩
    rw [List.map_cons, List.map_cons, List.cons.injEq] at h1
    exact ⟨⟨h1.1, h2 0 p q rfl rfl⟩, h1.2, fun i a b e1 e2 => h2 (i + 1) a b e1 e2⟩
  · rintro ⟨⟨h1, h2⟩, h3, h4⟩
    refine ⟨by rw [List.map_cons, List.map_cons, h1, h3], fun i a b e1 e2 => ?_⟩
    cases i with
    | zero => simp at e1 e2; subst e1; subst e2; exact h2
    | succ i => simp at e1 e2; exact h4 i a b e1 e2
theorem intPairs_nil_l {kvs : List (Str × Value)} (h : IntPairs [] kvs) : kvs = [] := by
  have := h.1; simp at this; exact this
theorem intPairs_nil_r {l : List (Str × Int)} (h : IntPairs l []) : l = [] := by
  have := h.1; simp at this; exact this
theorem tupPairs_nil_l {kvs : List (List Int × Addr × Value)} (h : TupPairs [] kvs) : kvs = [] := by
  have := h.1; simp at this; exact this
theorem tupPairs_nil_r {l : List (List Int × Int)} (h : TupPairs l []) : l = [] := by
  have := h.1; simp at this; exact this
theorem intPairs_get : ∀ {l : List (Str × Int)} {kvs : List (Str × Value)}, IntPairs l kvs → ∀ (k : Str) (z : Int) (t : Tok), ∃ u, (valueAt kvs k).getD (.int z t) = .int ((l.lookup k).getD z) u
  | [], kvs, h, k, z, t => by rw [intPairs_nil_l h]; exact ⟨t, rfl⟩
  | p :: l, [], h, k, z, t => by cases intPairs_nil_r h
  | p :: l, q :: kvs, h, k, z, t => by
    obtain ⟨⟨h1, u, h2⟩, h3⟩ := intPairs_cons.mp h
    rw [valueAt_cons, lookup_cons', h1]
    by_cases e : q.1 = k
    · rw [if_pos e, if_pos e]; exact ⟨u, h2⟩
    · rw [if_neg e, if_neg e]; exact intPairs_get h3 k z t
theorem tupPairs_get : ∀ {l : List (List Int × Int)} {kvs : List (List Int × Addr × Value)}, TupPairs l kvs → ∀ (k : List Int) (z : Int) (t : Tok), ∃ u, ((atKey kvs k).map (·.2)).getD (.int z t) = .int ((l.lookup k).getD z) u
  | [], kvs, h, k, z, t => by rw [tupPairs_nil_l h]; exact ⟨t, rfl⟩
  | p :: l, [], h, k, z, t => by cases tupPairs_nil_r h
  | p :: l, q :: kvs, h, k, z, t => by
    obtain ⟨⟨h1, u, h2⟩, h3⟩ := tupPairs_cons.mp h
    rw [atKey_cons, lookup_cons', h1]
    by_cases e : q.1 = k
    · rw [if_pos e, if_pos e]; exact ⟨u, h2⟩
    · rw [if_neg e, if_neg e]; exact tupPairs_get h3 k z t
theorem map_id_of {α : Type} {f : α → α} : ∀ {l : List α}, (∀ x ∈ l, f x = x) → l.map f = l
  | [], _ => rfl
  | x :: r, h => by rw [List.map_cons, h x (.head _), map_id_of fun y hy => h y (.tail _ hy)]
theorem stored_cons_eq {p : Str × Value} {r : List (Str × Value)} {k : Str} {v : Value} (nd : ((p :: r).map (·.1)).Nodup) (h : p.1 = k) : stored (p :: r) k v = (k, v) :: r := by
  subst h
  unfold stored
  rw [List.map_cons, List.nodup_cons] at nd
  rw [if_pos (by simp), List.map_cons, if_pos rfl, map_id_of]
  intro x hx
  rw [if_neg]
  intro e
  exact nd.1 (List.mem_map.mpr ⟨x, hx, e⟩)
theorem stored_cons_ne {p : Str × Value} {r : List (Str × Value)} {k : Str} {v : Value} (h : p.1 ≠ k) : stored (p :: r) k v = p :: stored r k v := by
  unfold stored
  have : ((p :: r).any fun kv => decide (kv.1 = k)) = r.any fun kv => decide (kv.1 = k) := by simp [h]
  rw [this]
  split
  · rw [List.map_cons, if_neg h]
  · rfl
theorem intPairs_ins : ∀ {l : List (Str × Int)} {kvs : List (Str × Value)}, IntPairs l kvs → (kvs.map (·.1)).Nodup → ∀ (k : Str) (z : Int) (t : Tok), IntPairs (insS l k z) (stored kvs k (.int z t))
  | [], kvs, h, nd, k, z, t => by
    rw [intPairs_nil_l h]
    exact intPairs_cons.mpr ⟨⟨rfl, t, rfl⟩, rfl, fun i a b e => by simp at e⟩
  | p :: l, [], h, nd, k, z, t => by cases intPairs_nil_r h
  | p :: l, q :: kvs, h, nd, k, z, t => by
    obtain ⟨⟨h1, h2⟩, h3⟩ := intPairs_cons.mp h
    unfold insS
    by_cases e : q.1 = k
    · rw [stored_cons_eq nd e, if_pos (h1.trans e)]
      exact intPairs_cons.mpr ⟨⟨rfl, t, rfl⟩, h3⟩
    · rw [stored_cons_ne e, if_neg (fun q => e (h1.symm.trans q))]
      rw [List.map_cons, List.nodup_cons] at nd
      exact intPairs_cons.mpr ⟨⟨h1, h2⟩, intPairs_ins h3 nd.2 k z t⟩
theorem storedH_cons_ne {p : List Int × Addr × Value} {r : List (List Int × Addr × Value)} {k : List Int} {a : Addr} {v : Value} (h : p.1 ≠ k) : storedH (p :: r) k a v = p :: storedH r k a v := by
  unfold storedH
  rw [atKey_cons, if_neg h]
  split
  · rw [List.map_cons]; unfold putAt; rw [if_neg h]
  · rfl
theorem storedH_cons_eq {p : List Int × Addr × Value} {r : List (List Int × Addr × Value)} {k : List Int} {a : Addr} {v : Value} (nd : ((p :: r).map (·.1)).Nodup) (h : p.1 = k) : storedH (p :: r) k a v = (p.1, p.2.1, v) :: r := by
  subst h
  unfold storedH
  rw [List.map_cons, List.nodup_cons] at nd
  rw [atKey_cons, if_pos rfl, if_pos (by rfl), List.map_cons]
  unfold putAt
  rw [if_pos rfl, map_id_of]
  intro x hx
  rw [if_neg]
  intro e
  exact nd.1 (List.mem_map.mpr ⟨x, hx, e⟩)
theorem tupPairs_ins : ∀ {l : List (List Int × Int)} {kvs : List (List Int × Addr × Value)}, TupPairs l kvs → (kvs.map (·.1)).Nodup → ∀ (k : List Int) (a : Addr) (z : Int) (t : Tok), TupPairs (insI l k z) (storedH kvs k a (.int z t))
  | [], kvs, h, nd, k, a, z, t => by
    rw [tupPairs_nil_l h]
    exact tupPairs_cons.mpr ⟨⟨rfl, t, rfl⟩, rfl, fun i a b e => by simp at e⟩
  | p :: l, [], h, nd, k, a, z, t => by cases tupPairs_nil_r h
  | p :: l, q :: kvs, h, nd, k, a, z, t => by
    obtain ⟨⟨h1, h2⟩, h3⟩ := tupPairs_cons.mp h
    unfold insI
    by_cases e : q.1 = k
    · rw [storedH_cons_eq nd e, if_pos (h1.trans e)]
      exact tupPairs_cons.mpr ⟨⟨e.symm, t, rfl⟩, h3⟩
    · rw [storedH_cons_ne e, if_neg (fun q => e (h1.symm.trans q))]
      rw [List.map_cons, List.nodup_cons] at nd
      exact tupPairs_cons.mpr ⟨⟨h1, h2⟩, tupPairs_ins h3 nd.2 k a z t⟩
theorem storedH_mem {kvs : List (List Int × Addr × Value)} {k : List Int} {a : Addr} {v : Value} {x : List Int × Addr × Value} (h : x ∈ storedH kvs k a v) : (x.1 = k ∧ x.2.1 = a) ∨ ∃ y ∈ kvs, y.1 = x.1 ∧ y.2.1 = x.2.1 := by
  unfold storedH at h
  split at h
  · obtain ⟨y, hy, rfl⟩ := List.mem_map.mp h
    refine .inr ⟨y, hy, ?_⟩
    unfold putAt
    split <;> exact ⟨rfl, rfl⟩
  · rcases List.mem_append.mp h with h | h
    · exact .inr ⟨x, h, rfl, rfl⟩
    · simp at h; subst h; exact .inl ⟨rfl, rfl⟩
theorem itemsAre_of {prog : Program} {w : World} {g : Heap} {ys : List PyData} : ∀ {vs : List Value} {ns : List Int} {as : List Addr}, ReadsAll g vs ys as → unInts ys = some ns → ItemsAre (PySem.intKind prog w) ns vs := by
  induction ys with
  | nil => intro vs ns as r h; cases h; rw [ra_nl r]; exact .nil
  | cons y ys ih =>
    intro vs ns as r h
    obtain ⟨v, vs, as', cs, rfl, r1, r2⟩ := ra_hd r
    cases y with
    | int i =>
      have h : (match unInts ys with
        | some xs => some (i :: xs)
        | none => none) = some ns := h
      cases e : unInts ys with
      | none => rw [e] at h; cases h
      | some ms =>
        rw [e] at h; cases h
        obtain ⟨t, rfl⟩ := Reads.int r1
        exact .cons (intKind_is prog w i t) (ih r2 e)
    | _ => cases h
theorem tupKey_of {prog : Program} {w : World} {g : Heap} {v : Value} {ys : List PyData} {ns : List Int} {as : List Addr} (r : Reads g v (.tuple ys) as) (h : unInts ys = some ns) : ∃ a, v = .ref a ∧ IsTupleKey (PySem.intKind prog w) g ns a := by
  cases r with
  | tuple h1 h2 h3 h4 => exact ⟨_, rfl, _, _, _, h1, h2, h3, itemsAre_of h4 h⟩
end Mine
end
section
open PySem PySem.W PyProof.Rows
namespace Mine
open PySem PySem.Calls
noncomputable def bmId : BM → AO → String
  | .append, _ => "list.append"
  | .pop, _ => "list.pop"
  | .extend, _ => "list.extend"
  | .get, _ => "dict.get"
  | .add, _ => "set.add"
noncomputable def bmI : BM → String
  | .append => "list.append"
  | .pop => "list.pop"
  | .extend => "list.extend"
  | .get => "dict.get"
  | .add => "set.add"
section
variable {prog : Program} {w : World} {K : Frag} {hB : Heap} {n : Nm} {env : Env} {A : Around} {x : Sta} {l : List AV} {s : Shared} {N : Nat} {Q : AV → H → Prop} {Qr : Value → Shared → Prop}
theorem bmT_sound (P : St prog w hB x.g x.ρ x.σ x.h) (hs : s.heap = x.h) {v : AV} {vo : Value} {m : BM} {nm : Str} {pl : Sem Bool} {Q2 : Value × List Value → Shared → Prop} (hn : nm = m.name) (r : VRx x v vo) (h : bmT v m x.σ) (k : ∀ a, vo = .ref a → Q2 (.builtin (bmI m), [.ref a]) s) :
    wpAny (model prog w) A (getMethod vo nm pl) Q2 EF s := by
  subst hn
  cases h with
  | @app kk _ e =>
    obtain rfl := r.ob
    obtain ⟨items, nn, as, h1, _⟩ := (P.own kk _ e).2.2
    exact getMethod_builtin (T := "list") ⟨_, hs ▸ h1, rfl⟩ F.plainAttrs_list F.slot_list_append F.type_list_append (fun a e => by cases e; exact ⟨_, hs ▸ h1, rfl⟩) (k _ rfl)
  | @pop kk _ e =>
    obtain rfl := r.ob
    obtain ⟨items, nn, as, h1, _⟩ := (P.own kk _ e).2.2
    exact getMethod_builtin (T := "list") ⟨_, hs ▸ h1, rfl⟩ F.plainAttrs_list F.slot_list_pop F.type_list_pop (fun a e => by cases e; exact ⟨_, hs ▸ h1, rfl⟩) (k _ rfl)
  | @ext kk _ e =>
    obtain rfl := r.ob
    obtain ⟨items, nn, as, h1, _⟩ := (P.own kk _ e).2.2
    exact getMethod_builtin (T := "list") ⟨_, hs ▸ h1, rfl⟩ F.plainAttrs_list F.slot_list_extend F.type_list_extend (fun a e => by cases e; exact ⟨_, hs ▸ h1, rfl⟩) (k _ rfl)
  | @gets kk _ e =>
    obtain rfl := r.ob
    obtain ⟨kvs, ⟨o, es, ep, h1, h2, _⟩, _⟩ := (P.own kk _ e).2.2
    exact getMethod_builtin (T := "dict") ⟨_, hs ▸ h1, h2.1⟩ F.plainAttrs_dict F.slot_dict_get F.type_dict_get (fun a e => by cases e; exact ⟨_, hs ▸ h1, h2.2.1⟩) (k _ rfl)
  | @gett kk _ e =>
    obtain rfl := r.ob
    obtain ⟨kvs, ⟨o, es, ep, h1, h2, _⟩, _⟩ := (P.own kk _ e).2.2
    exact getMethod_builtin (T := "dict") ⟨_, hs ▸ h1, h2.1⟩ F.plainAttrs_dict F.slot_dict_get F.type_dict_get (fun a e => by cases e; exact ⟨_, hs ▸ h1, h2.2.1⟩) (k _ rfl)
  | @add kk _ e =>
    obtain rfl := r.ob
    exact getMethod_set_add (knd := PySem.intKind prog w) (hs ▸ (P.own kk _ e).2.2) (k _ rfl)
theorem extend_any (l : Addr) (items : Array Value) (n : Nat) (b : Addr) (o2 : Obj) (items2 : Array Value) (n2 : Nat) (hc0 : ¬(!items.isEmpty && Builtin.List.listTooLong (items.size + items2.size)) = true) (hc1 : items.size ≤ sizeLine) (hs2 : items.size + items2.size ≤ sizeLine + 1) :
    Meets (Builtin.«list.extend» ⟨[.ref l, .ref b], []⟩) (fun _ R s => s.heap.get? l = some { cls := .type "list", dict := none, data := .seq items n, slots := #[] } ∧ (s.heap.get? b = some o2 ∧ o2.cls = .type "list" ∧ o2.data = .seq items2 n2) ∧ R (.ok (.ret Value.none)) { s with heap := s.heap.update l (Obj.mapSeq fun x => x ++ items2), toks := s.toks }) :=
  .of_wp fun prog w A R s h => by
    obtain ⟨hl, ⟨hb, hc, hd⟩, h⟩ := h
    have hz' : (items ++ items2).size ≤ sizeLine + 1 := by rw [Array.size_append]; exact hs2
    show wpAny _ A.in1 (Builtin.List.listExtendWith (.ref l) (.ref b) .none) _ _ s
    unfold Builtin.List.listExtendWith
    refine wpAny_bind (wpAny_typeOf ⟨o2, hb, hc⟩ ?_)
    have h1 : (Builtin.List.listSameRef (.ref l) (.ref b) || Value.type "list" == Value.type "list" || Value.type "list" == Value.type "tuple") = true := by simp
    simp only [h1, if_true]
    refine wpAny_bind ?_
    unfold Builtin.List.listItems
    refine wpAny_bind (wpAny_seqItems hb hd (wpAny_pure ?_))
    refine wpAny_bind ?_
    refine wpAny_bind (wpAny_seqItems hl rfl (wpAny_pure ?_))
    rw [if_neg hc0]
    show wpAny _ A.in1 (updateSeq l (· ++ items2) >>= fun _ => ret .none) _ _ s
    refine wpAny_bind (wpAny_updateSeq hl rfl (hz := hc1) (_hz' := hz') ?_)
    exact wpAny_pure ⟨_, rfl, h⟩
theorem sys_ne (_W : SW K hB) (P : St prog w hB x.g x.ρ x.σ x.h) {k : Nat} {o : AO} (h : look x.σ k = some o) : (x.ρ k == sysModules) = false := beq_eq_false_iff_ne.mpr (P.own k o h).2.1
theorem bm_call (W : SW K hB) (R : Rb A N) (I : Inv prog w hB n env x l) (hs : s.heap = x.h) {v : AV} {vo : Value} {m : BM} {avs : List AV} {vs : List Value} (r : VRx x v vo) (rs : VRsx x avs vs) (h : bmA v m avs x.σ Q) (k : Con prog w hB n env l x s Q Qr) :
    wpAny (model prog w) A (call (.builtin (bmI m)) (vo :: vs)) Qr EF s := by
  cases h with
  | @app kk l0 d e hz q =>
    obtain rfl := r.ob
    obtain ⟨v0, rfl, r0⟩ := rs.one
    obtain ⟨_, r0⟩ := r0.rd
    obtain ⟨items, nn, as, h1, h4⟩ := (I.st.own kk _ e).2.2
    have hl := ra_len h4
    rw [Array.length_toList] at hl
    refine wpAny_list_append_plain (items := items) ⟨nn, hs ▸ h1⟩ (fun h' hp hsb => ?_) (by rw [sizeLine_eq]; omega)
    obtain ⟨n', hp⟩ := hp
    refine Con.write I k e (hs ▸ hsb) ?_ .ofNone q
    obtain ⟨bs, hra⟩ := ra_append ⟨_, h4⟩ (ra_one r0)
    exact ⟨_, n', bs, hp, by rw [Array.toList_push]; exact hra⟩
  | @pop kk l0 y e hz q =>
    obtain rfl := r.ob
    obtain rfl := rs.nilv
    obtain ⟨items, nn, as, h1, h4⟩ := (I.st.own kk _ e).2.2
    have hl := ra_len h4
    rw [Array.length_toList, List.length_append, List.length_singleton] at hl
    obtain ⟨v, bs, e3, r'⟩ := readsAll_get h4 (List.getElem?_concat_length (l := l0) (a := y))
    have hl0 : l0.length = items.size - 1 := by omega
    rw [Array.getElem?_toList, hl0] at e3
    have e1 : items.eraseIdxIfInBounds (items.size - 1) = items.pop := by
      rw [Array.eraseIdxIfInBounds, dif_pos (by omega)]
      apply Array.toList_inj.mp
      rw [Array.toList_eraseIdx, Array.toList_pop, ← Array.length_toList, List.eraseIdx_eq_dropLast]
      rw [Array.length_toList]; omega
    have h1' : s.heap.get? (x.ρ kk) = some (listOf items nn) := hs ▸ h1
    refine call_meets F.slot_list_pop ⟨_, h1', rfl⟩ F.entry_list_pop (F.args_list_pop_1 _) (MeetsSeq.list_pop_last (x.ρ kk) items nn v e3 (by rw [sizeLine_eq]; omega)) ⟨h1', ?_⟩
    have hg := get?_update_seq h1' fun xs => xs.eraseIdxIfInBounds (items.size - 1)
    rw [e1] at hg
    refine Con.write (h' := s.heap.update (x.ρ kk) (Obj.mapSeq fun xs => xs.eraseIdxIfInBounds (items.size - 1))) I k e (hs ▸ Heap.SameBut.update ..) ?_ ((VR.d r').mono ⟨fun _ _ e => e, fun j e => by rw [look_put_isSome]; exact e, fun _ _ => rfl⟩) q
    obtain ⟨cs, hra⟩ := ra_dropLast ⟨_, h4⟩
    rw [List.dropLast_concat] at hra
    exact ⟨items.pop, _, cs, hg, by rw [Array.toList_pop]; exact hra⟩
  | @ext kk l0 ys e hz q =>
    obtain rfl := r.ob
    obtain ⟨v0, rfl, r0⟩ := rs.one
    obtain ⟨items, nn, as, h1, h4⟩ := (I.st.own kk _ e).2.2
    have hl := ra_len h4
    rw [Array.length_toList] at hl
    obtain ⟨a, ob, items2, n2, as2, rfl, g1, g2, g3, g4⟩ := r0.lst
    have hl2 := ra_len g4
    rw [Array.length_toList] at hl2
    have hd : items.size + items2.size ≤ sizeLine := by rw [sizeLine_eq]; omega
    have h1' : s.heap.get? (x.ρ kk) = some (listOf items nn) := hs ▸ h1
    refine call_meets PySem.F.slot_list_extend ⟨_, h1', rfl⟩ PySem.F.entry_list_extend (PySem.F.args_list_extend_2 _ _) (extend_any (x.ρ kk) items nn a ob items2 n2 (extend_door hd) (Nat.le_trans (Nat.le_add_right _ _) hd) (Nat.le_succ_of_le hd)) ⟨h1', ⟨hs ▸ I.st.sub _ _ g1, g2, g3⟩, ?_⟩
    have hg := get?_update_seq h1' fun x => x ++ items2
    refine Con.write (h' := s.heap.update (x.ρ kk) (Obj.mapSeq fun x => x ++ items2)) I k e (hs ▸ Heap.SameBut.update ..) ?_ .ofNone q
    obtain ⟨cs, hra⟩ := ra_append ⟨_, h4⟩ ⟨_, g4⟩
    exact ⟨_, _, cs, hg, by rw [Array.toList_append]; exact hra⟩
  | @gets kk l0 y z e q =>
    obtain rfl := r.ob
    obtain ⟨v0, v1, rfl, r0, r1⟩ := rs.two
    obtain ⟨kvs, h1, h4⟩ := (I.st.own kk _ e).2.2
    obtain ⟨t, rfl⟩ := r0.str
    obtain ⟨u, rfl⟩ := r1.int
    have h1' : s.heap.DictOf (PySem.strKind prog w) (x.ρ kk) kvs := hs ▸ h1
    refine call_meetsIn F.slot_dict_get h1'.mapOf.typeIs F.entry_dict_get (F.args_dict_get_3 _ _ _) (meets_dict_get_default (PySem.strKind prog w) (x.ρ kk) (strKind_is prog w y t) (sys_ne W I.st e) (.int z u)) ⟨_, h1'.mapOf, ?_⟩
    obtain ⟨u', e5⟩ := intPairs_get h4 y z u
    show Qr _ _
    rw [e5]
    exact Con.here I hs k (.ofInt _ _) q
  | @gett kk l0 ys ns z e hns q =>
    obtain rfl := r.ob
    obtain ⟨v0, v1, rfl, r0, r1⟩ := rs.two
    obtain ⟨kvs, h1, h4, h5⟩ := (I.st.own kk _ e).2.2
    obtain ⟨_, r0⟩ := r0.rd
    obtain ⟨a, rfl, hk⟩ := tupKey_of (prog := prog) (w := w) r0 hns
    obtain ⟨u, rfl⟩ := r1.int
    have h1' : s.heap.DictOfH (tupleKind (PySem.intKind prog w)) (x.ρ kk) kvs := hs ▸ h1
    refine call_meetsIn F.slot_dict_get h1'.typeIs F.entry_dict_get (F.args_dict_get_3 _ _ _) (meetsH_dict_get_default (tupleKind (PySem.intKind prog w)) (x.ρ kk) a (sys_ne W I.st e) (.int z u)) ⟨tupleKind_room_in1 (by have := R.units; omega), ns, kvs, isTupleKey_keeps (hs ▸ I.st.sub) hk, h1', ?_⟩
    obtain ⟨u', e5⟩ := tupPairs_get h4 ns z u
    show Qr _ _
    rw [e5]
    exact Con.here I hs k (.ofInt _ _) q
  | @add kk l0 i e hz q =>
    obtain rfl := r.ob
    obtain ⟨v0, rfl, r0⟩ := rs.one
    have S' : s.heap.SetOf (PySem.intKind prog w) (x.ρ kk) (fun k => decide (k ∈ l0)) l0.length := hs ▸ (I.st.own kk _ e).2.2
    obtain ⟨t, rfl⟩ := r0.int
    refine call_set_add (knd := PySem.intKind prog w) (intKind_is prog w i t) rfl S' (by unfold scanBound; omega) fun h' hsb hS => ?_
    refine Con.write I k e (hs ▸ hsb) ?_ .ofNone q
    show h'.SetOf (PySem.intKind prog w) (x.ρ kk) (fun k => decide (k ∈ if i ∈ l0 then l0 else l0 ++ [i])) (if i ∈ l0 then l0 else l0 ++ [i]).length
    by_cases hm : i ∈ l0
    · simp only [hm, if_true, decide_true] at hS ⊢
      have : (fun k' => decide (k' ∈ l0) || decide (k' = i)) = fun k' => decide (k' ∈ l0) := by
        funext k'
        by_cases q : k' = i
        · subst q; simp [hm]
        · simp [q]
      rw [this] at hS; exact hS
    · simp only [hm, if_false, decide_false, Bool.false_eq_true] at hS ⊢
      have : (fun k' => decide (k' ∈ l0) || decide (k' = i)) = fun k' => decide (k' ∈ l0 ++ [i]) := by
        funext k'
        simp [List.mem_append]
      rw [this] at hS
      simpa using hS
end
end Mine
end
section
open PySem PySem.W PyProof.Rows
namespace Mine
open PySem PySem.Calls
theorem isStr_iff {v : Value} {a : Str} : v.isStr a = true ↔ ∃ t, v = .str a t := by
  cases v <;> simp [Value.isStr]
theorem getL_nil (nm : Str) : getL nm [] = some none := rfl
theorem getL_cons (nm : Str) (e : DictEntry) (r : List DictEntry) : getL nm (e :: r) = if e.key.isStr nm = true then some (some e.val) else if e.refKey = true then (match getL nm r with | some (some v) => some (some v) | _ => none) else getL nm r := by
  unfold getL
  rw [List.find?_cons]
  by_cases h : e.key.isStr nm = true
  · rw [h, if_pos rfl]
  · rw [Bool.not_eq_true] at h
    rw [h, if_neg Bool.false_ne_true]
    cases hf : r.find? (·.key.isStr nm) with
    | some e' => simp
    | none => by_cases hr : e.refKey = true <;> simp [hr]
theorem getL_putL_same (nm : Str) (hsh : Int) (t : Tok) (v : Value) : ∀ es : List DictEntry, getL nm (putL nm hsh (.str nm t) v es) = some (some v)
  | [] => by rw [putL, getL_cons, if_pos (isStr_iff.mpr ⟨t, rfl⟩)]
  | e :: r => by
    rw [putL]
    by_cases h : e.key.isStr nm = true
    · rw [if_pos h, getL_cons, if_pos h]
    · rw [if_neg h, getL_cons, if_neg h, getL_putL_same nm hsh t v r]; simp
theorem getL_putL_ne {a b : Str} (hab : a ≠ b) (hsh : Int) (t : Tok) (v : Value) : ∀ es : List DictEntry, getL b (putL a hsh (.str a t) v es) = getL b es
  | [] => by
    rw [putL, getL_cons, if_neg (by simp [Value.isStr, hab]), if_neg (by simp [DictEntry.refKey])]
  | e :: r => by
    rw [putL]
    by_cases h : e.key.isStr a = true
    · obtain ⟨t', ht⟩ := isStr_iff.mp h
      rw [if_pos h, getL_cons, getL_cons]
      have h1 : ¬ e.key.isStr b = true := by rw [ht]; simp [Value.isStr, hab]
      have h2 : ¬ e.refKey = true := by simp [DictEntry.refKey, ht]
      rw [if_neg h1, if_neg h1, if_neg h2]
      rw [if_neg (by simp only [DictEntry.refKey] at h2 ⊢; exact h2)]
    · rw [if_neg h, getL_cons, getL_cons, getL_putL_ne hab hsh t v r]
theorem putL_len (nm : Str) (hsh : Int) (key v : Value) : ∀ es : List DictEntry, (putL nm hsh key v es).length = if es.any (·.key.isStr nm) = true then es.length else es.length + 1
  | [] => rfl
  | e :: r => by
    rw [putL]
    by_cases h : e.key.isStr nm = true
    · rw [if_pos h]; simp [h]
    · rw [if_neg h, List.length_cons, putL_len nm hsh key v r]
      have : (e :: r).any (·.key.isStr nm) = r.any (·.key.isStr nm) := by simp [h]
      rw [this]
      split <;> simp
theorem any_of_getL {nm : Str} {es : List DictEntry} (h : getL nm es = some none) : es.any (·.key.isStr nm) = false := by
  unfold getL at h
  cases hf : es.find? (·.key.isStr nm) with
  | some e => rw [hf] at h; simp at h
  | none =>
    rw [List.find?_eq_none] at hf
    rw [List.any_eq_false]; exact hf
theorem setNs_len (a : Nat) (v : AV) : ∀ l : List (Nat × AV), (setNs l a v).length = if (l.lookup a).isSome = true then l.length else l.length + 1
  | [] => rfl
  | p :: r => by
    unfold setNs
    rw [lookup_cons']
    by_cases h : p.1 = a
    · rw [if_pos h, if_pos h]; simp
    · rw [if_neg h, if_neg h, List.length_cons, setNs_len a v r]
      split <;> simp
theorem setNs_get (a : Nat) (v : AV) (b : Nat) : ∀ l : List (Nat × AV), (setNs l a v).lookup b = if a = b then some v else l.lookup b
  | [] => by unfold setNs; rw [lookup_cons']
  | p :: r => by
    unfold setNs
    by_cases h : p.1 = a
    · rw [if_pos h, lookup_cons', lookup_cons']
      by_cases q : a = b
      · rw [if_pos q, if_pos q]
      · rw [if_neg q, if_neg q, if_neg (fun e => q (h.symm.trans e))]
    · rw [if_neg h, lookup_cons', lookup_cons', setNs_get a v b r]
      by_cases q : p.1 = b
      · rw [if_pos q, if_pos q, if_neg (fun e => h (q.trans e.symm))]
      · rw [if_neg q, if_neg q]
theorem attT_nodup : attT.Nodup := by decide +kernel
theorem attT_length : attT.length = nAtt := by decide +kernel
theorem attN_inj' : ∀ a, a < nAtt → ∀ b, b < nAtt → attN a = attN b → a = b := by decide +kernel
theorem attN_inj {a b : Nat} (ha : a < nAtt) (hb : b < nAtt) (h : attN a = attN b) : a = b := attN_inj' a ha b hb h
section
variable {prog : Program} {w : World} {K : Frag} {hB : Heap} {n : Nm} {env : Env} {A : Around} {x : Sta} {l : List AV} {s : Shared} {N : Nat} {Q : AV → H → Prop} {Qr : Value → Shared → Prop}
theorem osa_own {R : Result → Shared → Prop} {C dx : Addr} {a : Addr} {es : List DictEntry} {m : Nat} {nm : Str} {v : Value} {tk : Tok} (X : K.In s.heap) (I : InstAt s.heap a (instObj C dx) C (some (dictOf es m)))
    (hp : plainOver K C = true) (ht : takerIn K C nm = some none) (hh : hasDictIn K C = true) (hl : (getL nm es).isSome = true) (hz : es.length ≤ 900)
    (h : ∀ h' hsh t m', Heap.SameBut dx s.heap h' → h'.get? dx = some (dictOf (putL nm hsh (.str nm t) v es) m') → R (.ok (.ret .none)) { s with heap := h', toks := s.toks + 1 }) :
    codeAny (model prog w) A (.call (.builtin "object.__setattr__") ⟨[.ref a, .str nm tk, v], []⟩) R s := by
  refine osa_open X I hp ht fun b => ?_
  obtain ⟨cd, hc, hd'⟩ := any_some hh
  have D : s.heap.get? dx = some (dictOf es m) := I.dict
  obtain ⟨hx, -, -, -⟩ := I
  refine wpAny_bind (wpAny_pure (wpAny_bind (wpAny_bind (wpAny_loadPart hx (wpAny_bind ((looks_clsIn X hc).here ?_))))))
  rw [hd']
  refine wpAny_pure (a := some dx) (wpAny_bind (wpAny_pure (wpAny_bind ?_)))
  unfold nsSet
  refine wpAny_bind (wpAny_bind (wpAny_askSetting (wpAny_pure (wpAny_bind (wpAny_mkText (wpAny_bind (wpAny_loadPart D ?_)))))))
  dsimp only
  have c : (!es.toArray.any (·.key.isStr nm) && es.toArray.any (·.refKey)) = false := by
    rw [List.any_toArray, List.any_toArray]
    unfold getL at hl
    split at hl
    · rename_i en he
      rw [List.any_eq_true.mpr ⟨en, List.mem_of_find?_eq_some he, List.find?_some he⟩]; rfl
    · split at hl
      · cases hl
      · rename_i z; rw [Bool.not_eq_true] at z; rw [z, Bool.and_false]
  rw [aRefKeyMayBeTheName_at, c]
  have D' : ∀ hsh key, (s.heap.update dx (Obj.putName nm hsh key v)).get? dx = some (dictOf (putL nm hsh key v es) (putN nm es m)) := fun hsh key => by
    have h1 := Heap.get?_update_self (Obj.putName nm hsh key v) D (by rw [putName_dict]; rfl)
    rw [putName_dict] at h1; exact h1
  refine wpAny_updatePart D ?_
  refine wpAny_bind (wpAny_lookBehind (D' _ _) (pastItsLine_dict ?_) ?_)
  · rw [List.size_toArray, putL_len, sizeLine_eq]; split <;> omega
  · exact wpAny_pure (h _ _ _ _ (Heap.SameBut.update ..) (D' _ _))
theorem set_own_dict {E : Value → Shared → Prop} {C dx : Addr} {a : Addr} {es : List DictEntry} {m : Nat} {nm : Str} {v : Value} {Q2 : Unit → Shared → Prop} (X : K.In s.heap) (I : InstAt s.heap a (instObj C dx) C (some (dictOf es m)))
    (hs : findIn K (.ref C) "__setattr__" = some (some (.builtin "object.__setattr__"))) (hp : plainOver K C = true) (ht : takerIn K C nm = some none) (hh : hasDictIn K C = true) (hl : (getL nm es).isSome = true) (hz : es.length ≤ 900)
    (h : ∀ h' hsh t m', Heap.SameBut dx s.heap h' → h'.get? dx = some (dictOf (putL nm hsh (.str nm t) v es) m') → Q2 () { s with heap := h', toks := s.toks + 2 }) :
    wpAny (model prog w) A (setAttr (.ref a) nm v) Q2 E s :=
  set_plain X I hs (osa_own (s := { s with toks := s.toks + 1 }) X I hp ht hh hl hz fun h' hsh t m' a b => h h' hsh t m' a b)
noncomputable abbrev ConU (prog : Program) (w : World) (hB : Heap) (n : Nm) (env : Env) (l : List AV) (x : Sta) (s : Shared) (Q : H → Prop) (Qr : Unit → Shared → Prop) : Prop :=
  ∀ y tk, Inv prog w hB n env y l → Step env.locals x y → Q y.σ → Qr () { s with heap := y.h, toks := tk }
theorem ConU.write {Q : H → Prop} {Qr : Unit → Shared → Prop} (I : Inv prog w hB n env x l) (k : ConU prog w hB n env l x s Q Qr) {tk : Nat} {h' : Heap} {j : Nat} {o o' : AO} (hl : look x.σ j = some o) (hsb : Heap.SameBut (x.ρ j) x.h h')
    (ho : OAt prog w x.g x.ρ (put x.σ j o') h' o' (x.ρ j)) (q : Q (put x.σ j o')) : Qr () { s with heap := h', toks := tk } := by
  obtain ⟨P, S⟩ := I.st.write hl (fun b ob hb e => (hsb.2 b hb).trans e) ho
  exact k _ tk (I.step P (S _) fun m hn => hn.sameBut hsb (Ne.symm (I.lr.lown j (by rw [hl]; rfl)))) (S _) q
theorem asgaA_sound (W : SW K hB) (I : Inv prog w hB n env x l) (hs : s.heap = x.h) {o v : AV} {a : Nat} {vo vv : Value} {nm : Str} {Q1 : H → Prop} {Q2 : Unit → Shared → Prop} (hn : attN a = nm) (ro : VRx x o vo) (rv : VRx x v vv) (h : asgaA tb o a v x.σ Q1)
    (k : ConU prog w hB n env l x s Q1 Q2) : wpAny (model prog w) A (setAttr vo nm vv) Q2 EF s := by
  subst hn
  cases h with
  | @mk c kk a lv e hz h1 q =>
    obtain ⟨ad, es, m, rfl, _, _, R, IA⟩ := VR.inst I.st hs ro e
    have hc := W.cls c (W.attI c a h1)
    obtain ⟨ha, hlt⟩ := hc.att a h1
    have hsome : ∀ b, b < nAtt → (getL (attN b) es).isSome = true := fun b hb => by
      have := R.get b hb
      split at this
      · obtain ⟨v, e, _⟩ := this; rw [e]; rfl
      · rw [this]; rfl
    refine set_own_dict (hs ▸ W.at I.st) IA hc.seta hc.over (by unfold takerIn; rw [ha]; rfl) hc.dict (hsome a hlt) (by have := R.len; omega) fun h' hsh t m' hsb hg => ?_
    refine ConU.write (o' := .ns (setNs lv a v)) I k e (hs ▸ hsb) ?_ q
    refine ⟨_, m', hg, ?_, fun b hb => ?_⟩
    · rw [putL_len, setNs_len]
      have := R.len
      have ra := R.get a hlt
      cases q : lv.lookup a with
      | some av => simp only [Option.isSome_some, if_true]; rw [q] at ra; obtain ⟨v', e', _⟩ := ra
                   have : es.any (·.key.isStr (attN a)) = true := by
                     unfold getL at e'
                     cases hf : es.find? (·.key.isStr (attN a)) with
                     | some en => exact List.any_eq_true.mpr ⟨en, List.mem_of_find?_eq_some hf, List.find?_some (p := fun e : DictEntry => e.key.isStr (attN a)) hf⟩
                     | none => rw [hf] at e'; dsimp only at e'; split at e' <;> cases e'
                   rw [this, if_pos rfl]; omega
      | none => simp only [Option.isSome_none, Bool.false_eq_true, if_false]; split <;> omega
    · rw [setNs_get]
      have G : Grow x.g x.ρ x.σ x.g x.ρ (put x.σ kk (.ns (setNs lv a v))) := ⟨fun _ _ e => e, fun j e => by rw [look_put_isSome]; exact e, fun _ _ => rfl⟩
      by_cases hab : a = b
      · subst hab
        rw [if_pos rfl]
        exact ⟨vv, getL_putL_same _ _ _ _ _, rv.mono G⟩
      · rw [if_neg hab]
        rw [getL_putL_ne (fun e => hab (attN_inj hlt hb e))]
        have := R.get b hb
        split
        · rename_i av e2; rw [e2] at this; obtain ⟨v', e3, r3⟩ := this; exact ⟨v', e3, r3.mono G⟩
        · rename_i e2; rw [e2] at this; exact this
theorem setItem_plain {E : Value → Shared → Prop} {a : Addr} {items : Array Value} {m : Nat} {k : Int} {t : Tok} {v : Value} {Q2 : Unit → Shared → Prop} (ho : s.heap.get? a = some (listOf items m))
    (h0 : 0 ≤ k) (hfit : k < 2 ^ 63) (hn : k < items.size)
    (hQ : ∀ h' m', h'.get? a = some (listOf (items.setIfInBounds k.toNat v) m') → Heap.SameBut a s.heap h' → Q2 () { s with heap := h' }) :
    wpAny (model prog w) A (setItem (.ref a) (.int k t) v) Q2 E s := by
  have hT : s.TypeIs (.ref a) "list" := ⟨_, ho, rfl⟩
  unfold setItem
  try with_reducible refine wpAny_holding ?_
  first | refine wpAny_bind (wpAny_pure ?_) | skip
  refine wpAny_bind (wpAny_sequenceKey hT (by decide) ?_)
  refine wpAny_bind (wpAny_callSpecial?_slot (name := Str.ofString "__setitem__") hT PySem.slot_list_setitem
    (wpAny_call_entry PySem.slot_list_setitem hT PySem.entry_list_setitem ?_ (PySem.args_list_setitem _ _ _)))
  show wpAny _ _ (Builtin.List.listSubscript? (.int k t) >>= _) _ _ s
  refine wpAny_bind (wpAny_listSubscript_int (fitsIndex_of h0 hfit) ?_)
  clear hfit
  obtain ⟨j, rfl⟩ := Int.eq_ofNat_of_zero_le h0
  have hj : j < items.size := by omega
  have hx' : items[j]? = some items[j] := Array.getElem?_eq_getElem hj
  show wpAny _ _ ((seqItemAt a j >>= fun r => pure (r.map (j, ·))) >>= _) _ _ s
  refine wpAny_bind (wpAny_bind (wpAny_seqItemAt ho rfl (wpAny_pure ?_)))
  rw [hx']
  show wpAny _ _ (setSeqItemAt a j v >>= _) _ _ s
  obtain ⟨m', hg⟩ : ∃ m', (s.heap.update a (Obj.mapSeq (·.setIfInBounds j v))).get? a = some (listOf (items.setIfInBounds j v) m') := ⟨_, get?_update_seq ho _⟩
  refine wpAny_bind (wpAny_setSeqItemAt ho rfl ?_)
  first
    | exact wpAny_bind (wpAny_pure (wpAny_pure ⟨.none, rfl, wpAny_pure (hQ _ _ hg (Heap.SameBut.update ..))⟩))
    | exact wpAny_pure ⟨.none, rfl, wpAny_pure (hQ _ _ hg (Heap.SameBut.update ..))⟩
theorem lt63 {j : Nat} (h : j < 2 ^ 20) : (j : Int) < 2 ^ 63 := by omega
theorem asgsA_sound (W : SW K hB) (R : Rb A N) (I : Inv prog w hB n env x l) (hs : s.heap = x.h) {o i v : AV} {vo vi vv : Value} {Q1 : H → Prop} {Q2 : Unit → Shared → Prop} (ro : VRx x o vo) (ri : VRx x i vi) (rv : VRx x v vv) (h : asgsA o i v x.σ Q1)
    (k : ConU prog w hB n env l x s Q1 Q2) : wpAny (model prog w) A (setItem vo vi vv) Q2 EF s := by
  cases h with
  | @dat kk j l0 d e h2 h3 q =>
    obtain rfl := ro.ob
    obtain ⟨items, nn, as, h1, h4⟩ := (I.st.own kk _ e).2.2
    have hl := ra_len h4
    rw [Array.length_toList] at hl
    obtain ⟨t, rfl⟩ := ri.int
    obtain ⟨_, r0⟩ := rv.rd
    refine setItem_plain (hs ▸ h1) (Int.natCast_nonneg j) (lt63 (Nat.lt_trans h2 h3)) (by rw [hl]; exact Int.ofNat_lt.mpr h2) fun h' m' hg hsb => ?_
    refine ConU.write I k e (hs ▸ hsb) ?_ q
    obtain ⟨bs, hra⟩ := ra_set j ⟨_, h4⟩ ⟨_, r0⟩
    exact ⟨_, m', bs, hg, by rw [Array.toList_setIfInBounds]; exact hra⟩
  | @mix kk j l0 v e h2 h3 _ q =>
    obtain rfl := ro.ob
    obtain ⟨items, nn, h1, h4⟩ := (I.st.own kk _ e).2.2
    have hl := (vrs_iff.mp h4).1
    rw [Array.length_toList] at hl
    obtain ⟨t, rfl⟩ := ri.int
    refine setItem_plain (hs ▸ h1) (Int.natCast_nonneg j) (lt63 (Nat.lt_trans h2 h3)) (by rw [hl]; exact Int.ofNat_lt.mpr h2) fun h' m' hg hsb => ?_
    refine ConU.write I k e (hs ▸ hsb) ?_ q
    refine ⟨_, m', hg, ?_⟩
    rw [Array.toList_setIfInBounds]
    exact (vrs_set j h4 rv).mono ⟨fun _ _ e => e, fun j e => by rw [look_put_isSome]; exact e, fun _ _ => rfl⟩
  | @dstr kk l0 y z e hz q =>
    obtain rfl := ro.ob
    obtain ⟨kvs, h1, h4⟩ := (I.st.own kk _ e).2.2
    obtain ⟨t, rfl⟩ := ri.str
    obtain ⟨u, rfl⟩ := rv.int
    have hlen : kvs.length = l0.length := by have := congrArg List.length h4.1; simpa using this.symm
    refine wpAny_setItem_pairs (knd := PySem.strKind prog w) (strKind_is prog w y t) (hs ▸ h1) (fun h' hm hsb => ?_) (by rw [sizeLine_eq, hlen]; omega)
    refine ConU.write I k e (hs ▸ hsb) ?_ q
    obtain ⟨_, _, _, _, _, _, _, _, nd⟩ := h1
    exact ⟨_, hm, intPairs_ins h4 nd y z u⟩
  | @dtup kk l0 ys ns z e hns hz q =>
    obtain rfl := ro.ob
    obtain ⟨kvs, h1, h4, h5⟩ := (I.st.own kk _ e).2.2
    obtain ⟨_, r0⟩ := ri.rd
    obtain ⟨a, rfl, hk⟩ := tupKey_of (prog := prog) (w := w) r0 hns
    obtain ⟨u, rfl⟩ := rv.int
    have hlen : kvs.length = l0.length := by have := congrArg List.length h4.1; simpa using this.symm
    refine wpAny_setItem_heap (knd := tupleKind (PySem.intKind prog w)) (tupleKind_room_in1 (by have := R.units; omega)) (isTupleKey_keeps (hs ▸ I.st.sub) hk) (hs ▸ h1) (fun h' hm hsb => ?_) (by rw [sizeLine_eq, hlen]; omega)
    refine ConU.write I k e (hs ▸ hsb) ?_ q
    obtain ⟨_, _, _, _, _, _, _, _, nd⟩ := h1
    refine ⟨_, hm, tupPairs_ins h4 nd ns a z u, fun y hy => ?_⟩
    rcases storedH_mem hy with ⟨e1, e2⟩ | ⟨y', h1', e1, e2⟩
    · rw [e1, e2]; exact hk
    · rw [← e1, ← e2]; exact h5 y' h1'
end
end Mine
end
section
open PySem PySem.W PyProof.Rows
namespace Mine
open PySem PySem.Calls
structure RbC (A : Around) (n : Nat) : Prop where
  handled : A.handled = none
  depth : A.depth + 3 * n + 3 < recursionLimit
  units : A.units + 200 * n + 250 < cLine
noncomputable def CallS (prog : Program) (w : World) (hB : Heap) (N : Nat) (C : CallT) : Prop := ∀ (f : Nat) (args : List AV) (x : Sta) (A : Around) (vs : List Value) (s : Shared) (Q : AV → H → Prop) (R : Result → Shared → Prop),
  RbC A N → St prog w hB x.g x.ρ x.σ x.h → s.heap = x.h → VRsx x args vs → C f args x.σ Q →
  (∀ av v y tk, St prog w hB y.g y.ρ y.σ y.h → (∀ L, Step L x y) → VRx y av v → Q av y.σ → R (.ok (.ret v)) { s with heap := y.h, toks := tk }) →
  codeAny (model prog w) A (.call (.ref (fnA f)) ⟨vs, []⟩) R s
noncomputable def PE (prog : Program) (w : World) (hB : Heap) (N : Nat) (C : CallT) (e : E) : Prop := ∀ (n : Nm) (env : Env) (a : PySem.Expr) (l : List AV) (Q : AV → H → Prop) (A : Around) (x : Sta) (s : Shared) (Qr : Value → Shared → Prop),
  FrOK n env → mE n e a = true → Rb A N → Inv prog w hB n env x l → s.heap = x.h → ev tb C e l x.σ Q → Con prog w hB n env l x s Q Qr → wpAny (model prog w) A (eval a env) Qr EF s
noncomputable abbrev ConB (prog : Program) (w : World) (hB : Heap) (n : Nm) (env : Env) (l : List AV) (x : Sta) (s : Shared) (Q : Bool → H → Prop) (Qr : Bool → Shared → Prop) : Prop :=
  ∀ b y tk, Inv prog w hB n env y l → Step env.locals x y → Q b y.σ → Qr b { s with heap := y.h, toks := tk }
noncomputable def PT (prog : Program) (w : World) (hB : Heap) (N : Nat) (C : CallT) (e : E) : Prop := ∀ (n : Nm) (env : Env) (a : PySem.Expr) (l : List AV) (Q : Bool → H → Prop) (A : Around) (x : Sta) (s : Shared) (Qr : Bool → Shared → Prop),
  FrOK n env → mE n e a = true → Rb A N → Inv prog w hB n env x l → s.heap = x.h → tst tb C e l x.σ Q → ConB prog w hB n env l x s Q Qr → wpAny (model prog w) A (isTrue a env (eval a env)) Qr EF s
noncomputable abbrev ConS (prog : Program) (w : World) (hB : Heap) (n : Nm) (env : Env) (l : List AV) (k : Nat) (x : Sta) (s : Shared) (Q : List AV → H → Prop) (Qr : List Value → Shared → Prop) : Prop :=
  ∀ avs vs y tk, Inv prog w hB n env y l → Step env.locals x y → VRsx y avs vs → vs.length = k → Q avs y.σ → Qr vs { s with heap := y.h, toks := tk }
noncomputable def PEs (prog : Program) (w : World) (hB : Heap) (N : Nat) (C : CallT) (e : E) : Prop := ∀ (n : Nm) (env : Env) (as : List PySem.Expr) (pos : Pos) (l : List AV) (Q : List AV → H → Prop) (A : Around) (x : Sta) (s : Shared) (Qr : List Value → Shared → Prop),
  FrOK n env → mEs n e as = true → Rb A N → Inv prog w hB n env x l → s.heap = x.h → evs tb C e l x.σ Q → ConS prog w hB n env l as.length x s Q Qr → wpAny (model prog w) A (spliced (backTo pos (starEach as env))) Qr EF s
noncomputable def PEb (prog : Program) (w : World) (hB : Heap) (N : Nat) (C : CallT) (e : E) : Prop := ∀ (t : Bool) (n : Nm) (env : Env) (as : List PySem.Expr) (l : List AV) (Q : Bool → H → Prop) (A : Around) (x : Sta) (s : Shared) (Qr : Bool → Shared → Prop),
  FrOK n env → mEs n e as = true → Rb A N → Inv prog w hB n env x l → s.heap = x.h → evb tb C t e l x.σ Q → ConB prog w hB n env l x s Q Qr → wpAny (model prog w) A (allTrue (if t then .And else .Or) as env) Qr EF s
noncomputable def PEv (prog : Program) (w : World) (hB : Heap) (N : Nat) (C : CallT) (e : E) : Prop := ∀ (t : Bool) (n : Nm) (env : Env) (as : List PySem.Expr) (pos : Pos) (l : List AV) (Q : Bool → H → Prop) (A : Around) (x : Sta) (s : Shared) (Qr : Value → Shared → Prop),
  FrOK n env → as ≠ [] → mEs n e as = true → Rb A N → Inv prog w hB n env x l → s.heap = x.h → evb tb C t e l x.σ Q → ConB prog w hB n env l x s Q (fun b => Qr (.bool b)) → wpAny (model prog w) A (eval (.BoolOp (if t then .And else .Or) as pos) env) Qr EF s
structure P5 (prog : Program) (w : World) (hB : Heap) (N : Nat) (C : CallT) (e : E) : Prop where
  p : PE prog w hB N C e
  t : PT prog w hB N C e
  es : PEs prog w hB N C e
  b : PEb prog w hB N C e
  v : PEv prog w hB N C e
noncomputable def plainT (x : PySem.Expr) : Bool := @PySem.Expr.casesOn (fun _ => Bool) x (fun _ _ _ => false) (fun _ _ _ => true) (fun _ _ _ _ => true) (fun op _ _ => !decide (op = .Not)) (fun _ _ _ _ => true) (fun _ _ _ _ => false) (fun _ _ _ => true) (fun _ _ _ => true) (fun _ _ _ _ => true) (fun _ _ _ _ => true) (fun _ _ _ _ _ => true) (fun _ _ _ _ => true) (fun _ _ => true) (fun _ _ => true) (fun _ _ => true) (fun _ _ _ _ => false) (fun _ _ _ _ => true) (fun _ _ _ _ => true) (fun _ _ => true) (fun _ _ _ => true) (fun _ _ _ => true) (fun _ _ _ => true) (fun _ _ => true) (fun _ _ => true) (fun _ _ => true) (fun _ _ _ => true) (fun _ _ _ _ => true)
theorem isTrue_plain {a : PySem.Expr} {env : Env} {whole : Sem Value} (h : plainT a = true) : isTrue a env whole = (do let v ← whole; standAt a.pos; holding [v] (truthy v)) := by
  cases a with
  | UnaryOp op x p => cases op <;> first | rfl | exact ft h
  | BoolOp => exact ft h
  | IfExp => exact ft h
  | Compare => exact ft h
  | _ => rfl
noncomputable def plainS (x : PySem.Expr) : Bool := @PySem.Expr.casesOn (fun _ => Bool) x (fun _ _ _ => true) (fun _ _ _ => true) (fun _ _ _ _ => true) (fun _ _ _ => true) (fun _ _ _ _ => true) (fun _ _ _ _ => true) (fun _ _ _ => true) (fun _ _ _ => false) (fun _ _ _ _ => true) (fun _ _ _ _ => true) (fun _ _ _ _ _ => true) (fun _ _ _ _ => true) (fun _ _ => true) (fun _ _ => true) (fun _ _ => true) (fun _ _ _ _ => true) (fun _ _ _ _ => true) (fun _ _ _ _ => true) (fun _ _ => true) (fun _ _ _ => true) (fun _ _ _ => true) (fun _ _ _ => true) (fun _ _ => false) (fun _ _ => true) (fun _ _ => true) (fun _ _ _ => true) (fun _ _ _ _ => false)
theorem mE_plain : ∀ (n : Nm) (e : E) (a : PySem.Expr), mE n e a = true → plainS a = true := by
  intro n e a h
  cases e with
  | con => exact vCon_i (G := fun a => plainS a = true) h fun _ _ _ _ => rfl
  | loc => exact vNm_i (G := fun a => plainS a = true) h fun _ _ _ => rfl
  | glo => exact vNm_i (G := fun a => plainS a = true) h fun _ _ _ => rfl
  | attr => exact vAt_i (G := fun a => plainS a = true) h fun _ _ _ _ => rfl
  | bin => exact vBin_i (G := fun a => plainS a = true) h fun _ _ _ _ _ => rfl
  | neg => exact vUn_i (G := fun a => plainS a = true) h fun _ _ _ _ => rfl
  | not => exact vUn_i (G := fun a => plainS a = true) h fun _ _ _ _ => rfl
  | cmp => exact vCmp_i (G := fun a => plainS a = true) h fun _ _ _ _ _ => rfl
  | bop => exact vBo_i (G := fun a => plainS a = true) h fun _ _ _ _ => rfl
  | ife => exact vIf_i (G := fun a => plainS a = true) h fun _ _ _ _ _ => rfl
  | sub => exact vSub_i (G := fun a => plainS a = true) h fun _ _ _ _ => rfl
  | slc => exact vSub_i (G := fun a => plainS a = true) h fun _ _ _ _ => rfl
  | tup => exact vTup_i (G := fun a => plainS a = true) h fun _ _ _ _ => rfl
  | lst => exact vLst_i (G := fun a => plainS a = true) h fun _ _ _ => rfl
  | dic => exact vDic_i (G := fun a => plainS a = true) h fun _ _ _ _ => rfl
  | call => exact vCal_i (G := fun a => plainS a = true) h fun _ _ _ _ _ => rfl
  | meth => exact vCal_i (G := fun a => plainS a = true) h fun _ _ _ _ _ => rfl
  | bm => exact vCal_i (G := fun a => plainS a = true) h fun _ _ _ _ _ => rfl
  | comp => exact vCom_i (G := fun a => plainS a = true) h fun _ _ _ _ _ => rfl
  | no => exact ft h
  | nil => exact ft h
  | cons => exact ft h
theorem starEach_cons {e : PySem.Expr} {rest : List PySem.Expr} {env : Env} (h : plainS e = true) : starEach (e :: rest) env = (false, eval e env) :: starEach rest env := by
  cases e <;> first | rfl | exact ft h
theorem behind_plain {op : CmpOp} {a : PySem.Expr} (h : plainS a = true) : behindInMarks op a = false := by
  cases a <;> first | rfl | exact ft h
theorem sub_plain {a : PySem.Expr} (h : plainS a = true) (o i : Value) : subscripted a false o i = operate [o, i] (getItem o i) := by
  cases a <;> first | rfl | exact ft h
theorem mEs_noStar : ∀ {n : Nm} {xs : E} {as : List PySem.Expr} {env : Env} {pos : Pos}, mEs n xs as = true → (backTo pos (starEach as env)).any (·.1) = false
  | _, _, [], _, _, _ => rfl
  | n, xs, a :: as, env, pos, h => by
    cases xs with
    | cons x r =>
      rw [starEach_cons (mE_plain _ _ _ (al h))]
      have ih := mEs_noStar (env := env) (pos := pos) (ar h)
      simpa [backTo] using ih
    | _ => exact ft h
section
variable {prog : Program} {w : World} {K : Frag} {hB : Heap} {n : Nm} {env : Env} {A : Around} {x : Sta} {l : List AV} {s : Shared} {N : Nat} {C : CallT} {Q : AV → H → Prop} {Qr : Value → Shared → Prop}
theorem Con.trans {y : Sta} {tk : Nat} (k : Con prog w hB n env l x s Q Qr) (S : Step env.locals x y) : Con prog w hB n env l y { s with heap := y.h, toks := tk } Q Qr :=
  fun av v z tk' I' S' r q => k av v z tk' I' (S.trans S') r q
theorem ConB.trans {y : Sta} {tk : Nat} {Q : Bool → H → Prop} {Qr : Bool → Shared → Prop} (k : ConB prog w hB n env l x s Q Qr) (S : Step env.locals x y) : ConB prog w hB n env l y { s with heap := y.h, toks := tk } Q Qr :=
  fun av z tk' I' S' q => k av z tk' I' (S.trans S') q
theorem ConB.here {Q : Bool → H → Prop} {Qr : Bool → Shared → Prop} (I : Inv prog w hB n env x l) (hs : s.heap = x.h) (k : ConB prog w hB n env l x s Q Qr) {b : Bool} {tk : Nat} (q : Q b x.σ) : Qr b { s with toks := tk } := by
  have h := k b x tk I (Step.refl _ _) q
  rw [← hs] at h; exact h
theorem neg_inv {v : AV} {σ : H} {Q : AV → H → Prop} (h : match v with
    | .d (.int i) => Q (.d (.int (-i))) σ
    | _ => False) : ∃ i, v = .d (.int i) ∧ Q (.d (.int (-i))) σ := by
  cases v with
  | d x => cases x <;> first | exact h.elim | exact ⟨_, rfl, h⟩
  | _ => exact h.elim
theorem bool_inv {v : AV} {Q : Bool → Prop} (h : boolA v Q) : ∃ b, v = .d (.bool b) ∧ Q b := by
  cases v with
  | d x => cases x <;> first | exact h.elim | exact ⟨_, rfl, h⟩
  | _ => exact h.elim
theorem PT.of {e : E} (hp : ∀ n a, mE n e a = true → plainT a = true) (h : PE prog w hB N C e) : PT prog w hB N C e := fun n env a l Q A x s Qr F m R I hs he k => by
  refine wpAny_isTrue_value ?_ (isTrue_plain (hp n a m))
  refine h n env a l _ A x s _ F m R I hs he fun av v y tk I' S r q => ?_
  obtain ⟨bb, rfl, q⟩ := bool_inv q
  rw [VR.bool r]; exact wpAny_truthy_bool (k _ y tk I' S q)
theorem pe_con (c : Const) : PE prog w hB N C (.con c) := fun n env a l Q A x s Qr F m R I hs he k => by
  refine vCon_i m fun c' _ _ m => ?_
  obtain rfl := dq m
  cases c with
  | int => exact wpAny_Constant_int (Con.here I hs k (.ofInt _ _) he)
  | bool => exact wpAny_Constant_bool (Con.here I hs k (.ofBool _) he)
  | none => exact wpAny_Constant_none (Con.here I hs k .ofNone he)
  | str => exact wpAny_Constant_str (Con.here I hs k (.d (.str _ _)) he)
  | _ => exact he.elim
theorem loc_inv {tb : Tb} {C : CallT} {i : Nat} {l : List AV} {σ : H} {Q : AV → H → Prop} (h : ev tb C (.loc i) l σ Q) : ∃ v, l[i]? = some v ∧ v ≠ .un ∧ Q v σ := by
  have h : (match l[i]? with
    | some .un => False
    | some v => Q v σ
    | none => False) := h
  cases e : l[i]? with
  | none => rw [e] at h; exact h.elim
  | some v =>
    rw [e] at h
    cases v <;> first | exact h.elim | exact ⟨_, rfl, nofun, h⟩
theorem pe_loc (i : Nat) : PE prog w hB N C (.loc i) := fun n env a l Q A x s Qr F m R I hs he k => by
  refine vNm_i m fun nm _ m => ?_
  obtain ⟨v, e, hu, he⟩ := loc_inv he
  exact eval_loc I.lr hs m e hu fun v' r => Con.here I hs k r he
noncomputable def gloP (g : Option GK) (i : Nat) (σ : H) (Q : AV → H → Prop) : Prop := match g with
  | some (.dat x) => Q (.d x) σ
  | some _ => Q (.fn i) σ
  | none => False
theorem glo_no {tb : Tb} {C : CallT} {i : Nat} {l : List AV} {σ : H} {Q : AV → H → Prop} (e : tb.glo i = none) (h : ev tb C (.glo i) l σ Q) : False := by
  have h : gloP (tb.glo i) i σ Q := h
  rw [e] at h; exact h
theorem glo_so {tb : Tb} {C : CallT} {i : Nat} {l : List AV} {σ : H} {Q : AV → H → Prop} {g : GK} {G : Prop} (e : tb.glo i = some g) (h : ev tb C (.glo i) l σ Q) (k1 : ∀ d, g = .dat d → Q (.d d) σ → G) (k2 : (∀ d, g ≠ .dat d) → Q (.fn i) σ → G) : G := by
  have h : gloP (tb.glo i) i σ Q := h
  rw [e] at h
  cases g <;> first | exact k1 _ rfl h | exact k2 nofun h
theorem pe_glo (W : SW K hB) (i : Nat) : PE prog w hB N C (.glo i) := fun n env a l Q A x s Qr F m R I hs he k => by
  refine vNm_i m fun nm _ m => ?_
  cases e : tb.glo i with
  | none => exact (glo_no (C := C) (l := l) (σ := x.σ) (Q := Q) e he).elim
  | some gk =>
    refine glo_so (C := C) (l := l) (σ := x.σ) (Q := Q) e he ?_ ?_
    · intro d hd he
      subst hd
      exact eval_glo W F I.st I.lr hs m e fun v as r => Con.here I hs k (.d r) he
    · intro hd he
      refine eval_glo W F I.st I.lr hs m e ?_
      cases gk with
      | dat d => exact (hd d rfl).elim
      | _ => exact fun v hv => Con.here I hs k (.fn hv) he
theorem pe_attr (W : SW K hB) {o : E} (a : Nat) (ho : PE prog w hB N C o) : PE prog w hB N C (.attr o a) := fun n env a' l Q A x s Qr F m R I hs he k => by
  refine vAt_i m fun o' nm pos m => ?_
  refine Attribute_any_ ?_ (by rw [arm_eval_Attribute, base_plain (ar m)])
  refine ho n env o' l _ A x s _ F (al (al m)) R I hs he fun av v y tk I' S r q => ?_
  exact attrA_sound W I'.st rfl (isAtt_spec F (ar (al m))) r q fun av' v' tk' r' q' => Con.here I' rfl (k.trans S) r' q'
theorem pe_bin {a b : E} (op : Operator) (ha : PE prog w hB N C a) (hb : PE prog w hB N C b) : PE prog w hB N C (.bin op a b) := fun n env a' l Q A x s Qr F m R I hs he k => by
  refine vBin_i m fun l' op' r' p m => ?_
  obtain rfl := dq (al (al m))
  refine wpAny_BinOp ?_
  refine ha n env _ l _ A x s _ F (ar (al m)) R I hs he fun av v y tk I1 S1 r1 q1 => ?_
  refine hb n env _ l _ A y _ _ F (ar m) R I1 rfl q1 fun bv v2 z tk2 I2 S2 r2 q2 => ?_
  exact binA_sound (r1.step S2) r2 q2 fun av' v' tk' r' q' => Con.here I2 rfl ((k.trans S1).trans S2) r' q'
theorem pe_neg {a : E} (ha : PE prog w hB N C a) : PE prog w hB N C (.neg a) := fun n env a' l Q A x s Qr F m R I hs he k => by
  refine vUn_i m fun op y p m => ?_
  obtain rfl := dq (al m)
  refine wpAny_UnaryOp ?_
  refine ha n env _ l _ A x s _ F (ar m) R I hs he fun av v y tk I1 S1 r1 q1 => ?_
  obtain ⟨i, rfl, q1⟩ := neg_inv q1
  obtain ⟨t, rfl⟩ := r1.int
  exact PyProof.Rows.neg_int (Con.here I1 rfl (k.trans S1) (.ofInt _ _) q1)
theorem pe_not {a : E} (ha : PE prog w hB N C a) : PE prog w hB N C (.not a) := fun n env a' l Q A x s Qr F m R I hs he k => by
  refine vUn_i m fun op y p m => ?_
  obtain rfl := dq (al m)
  refine wpAny_UnaryOp ?_
  refine ha n env _ l _ A x s _ F (ar m) R I hs he fun av v y tk I1 S1 r1 q1 => ?_
  obtain ⟨b, rfl, q1⟩ := bool_inv q1
  rw [VR.bool r1]
  exact not_value (wpAny_truthy_bool (k _ _ y tk I1 S1 (.ofBool _) q1))
theorem pt_not {a : E} (ha : PT prog w hB N C a) : PT prog w hB N C (.not a) := fun n env a' l Q A x s Qr F m R I hs he k => by
  refine vUn_i m fun op y p m => ?_
  obtain rfl := dq (al m)
  exact wpAny_isTrue_Not (ha n env _ l (fun b σ => Q (!b) σ) A x s _ F (ar m) R I hs he fun b y tk I1 S1 q1 => k _ y tk I1 S1 q1)
theorem pe_cmp {a b : E} (op : CmpOp) (ha : PE prog w hB N C a) (hb : PE prog w hB N C b) : PE prog w hB N C (.cmp op a b) := fun n env a' l Q A x s Qr F m R I hs he k => by
  refine vCmp_i m fun l' ops rs p m => ?_
  refine on1_i m fun op' m => ?_
  refine on1_i m fun r' m => ?_
  obtain rfl := dq (al (al m))
  refine wpAny_Compare1 ?_ (behind_plain (mE_plain _ _ _ (ar m)))
  refine ha n env _ l _ A x s _ F (ar (al m)) R I hs he fun av v y tk I1 S1 r1 q1 => ?_
  refine hb n env _ l _ A y _ _ F (ar m) R I1 rfl q1 fun bv v2 z tk2 I2 S2 r2 q2 => ?_
  exact cmpA_sound R I2.st rfl (r1.step S2) r2 q2 fun t tk' q' => Con.here I2 rfl ((k.trans S1).trans S2) (.ofBool _) q'
theorem pt_cmp {a b : E} (op : CmpOp) (ha : PE prog w hB N C a) (hb : PE prog w hB N C b) : PT prog w hB N C (.cmp op a b) := fun n env a' l Q A x s Qr F m R I hs he k => by
  refine vCmp_i m fun l' ops rs p m => ?_
  refine on1_i m fun op' m => ?_
  refine on1_i m fun r' m => ?_
  obtain rfl := dq (al (al m))
  refine wpAny_isTrue_Compare1 ?_ (behind_plain (mE_plain _ _ _ (ar m)))
  refine ha n env _ l _ A x s _ F (ar (al m)) R I hs he fun av v y tk I1 S1 r1 q1 => ?_
  refine hb n env _ l _ A y _ _ F (ar m) R I1 rfl q1 fun bv v2 z tk2 I2 S2 r2 q2 => ?_
  exact cmpA_sound R I2.st rfl (r1.step S2) r2 q2 fun t tk' q' => wpAny_truthy_bool (ConB.here I2 rfl ((k.trans S1).trans S2) q')
theorem pe_ife {c a b : E} (hc : PT prog w hB N C c) (ha : PE prog w hB N C a) (hb : PE prog w hB N C b) : PE prog w hB N C (.ife c a b) := fun n env a' l Q A x s Qr F m R I hs he k => by
  refine vIf_i m fun c' a' b' p m => ?_
  refine wpAny_IfExp ?_
  refine hc n env _ l _ A x s _ F (al (al m)) R I hs he fun t y tk I1 S1 q1 => ?_
  cases t with
  | true => exact ha n env _ l _ A y _ _ F (ar (al m)) R I1 rfl q1 (k.trans S1)
  | false => exact hb n env _ l _ A y _ _ F (ar m) R I1 rfl q1 (k.trans S1)
theorem pt_ife {c a b : E} (hc : PT prog w hB N C c) (ha : PT prog w hB N C a) (hb : PT prog w hB N C b) : PT prog w hB N C (.ife c a b) := fun n env a' l Q A x s Qr F m R I hs he k => by
  refine vIf_i m fun c' a' b' p m => ?_
  rw [arm_isTrue_IfExp]
  refine wpAny_bind (hc n env _ l _ A x s _ F (al (al m)) R I hs he fun t y tk I1 S1 q1 => ?_)
  cases t with
  | true => exact ha n env _ l _ A y _ _ F (ar (al m)) R I1 rfl q1 (k.trans S1)
  | false => exact hb n env _ l _ A y _ _ F (ar m) R I1 rfl q1 (k.trans S1)
theorem pe_sub {o i : E} (ho : PE prog w hB N C o) (hi : PE prog w hB N C i) : PE prog w hB N C (.sub o i) := fun n env a' l Q A x s Qr F m R I hs he k => by
  refine vSub_i m fun o' i' p m => ?_
  refine Subscript_ ?_
  refine ho n env _ l _ A x s _ F (al m) R I hs he fun av v y tk I1 S1 r1 q1 => ?_
  refine hi n env _ l _ A y _ _ F (ar m) R I1 rfl q1 fun bv v2 z tk2 I2 S2 r2 q2 => ?_
  refine subA_sound I2.st rfl (r1.step S2) r2 q2 (sub_plain (mE_plain _ _ _ (ar m))) fun av' v' r' q' => ?_
  exact k av' v' z tk2 I2 (S1.trans S2) r' q'
theorem pes_nil : PEs prog w hB N C .nil := fun n env as pos l Q A x s Qr F m R I hs he k => by
  revert k
  refine isE_i m fun k => ?_
  refine wpAny_items_nil ?_
  have h := k [] [] x s.toks I (Step.refl _ _) .nil rfl he
  rw [← hs] at h; exact h
theorem pes_cons {a b : E} (ha : PE prog w hB N C a) (hb : PEs prog w hB N C b) : PEs prog w hB N C (.cons a b) := fun n env as pos l Q A x s Qr F m R I hs he k => by
  revert k
  refine onC_i m fun a' as m k => ?_
  refine wpAny_items_cons ?_ (starEach_cons (mE_plain _ _ _ (al m)))
  refine ha n env _ l _ A x s _ F (al m) R I hs he fun av v y tk I1 S1 r1 q1 => ?_
  refine hb n env as pos l _ A y _ _ F (ar m) R I1 rfl q1 fun avs vs z tk2 I2 S2 r2 hl q2 => ?_
  exact k _ _ z tk2 I2 (S1.trans S2) (.cons (r1.step S2) r2) (congrArg Nat.succ hl) q2
theorem peb_nil : PEb prog w hB N C .nil := fun t n env as l Q A x s Qr F m R I hs he k => by
  refine isE_i m ?_
  have h : Qr t s := ConB.here (tk := s.toks) I hs k he
  cases t with
  | true => exact wpAny_allTrue_And_nil h
  | false => exact wpAny_allTrue_Or_nil h
theorem peb_cons {a b : E} (ha : PT prog w hB N C a) (hb : PEb prog w hB N C b) : PEb prog w hB N C (.cons a b) := fun t n env as l Q A x s Qr F m R I hs he k => by
  refine onC_i m fun a' as m => ?_
  cases t with
  | true =>
    refine wpAny_allTrue_And_cons ?_
    refine ha n env _ l (fun r σ1 => match true, r with
      | true, true => evb tb C true b l σ1 Q
      | true, false => Q false σ1
      | false, true => Q true σ1
      | false, false => evb tb C true b l σ1 Q) A x s _ F (al m) R I hs he fun r y tk I1 S1 q1 => ?_
    cases r with
    | true => exact hb true n env as l _ A y _ _ F (ar m) R I1 rfl q1 (ConB.trans k S1)
    | false => exact k _ y tk I1 S1 q1
  | false =>
    refine wpAny_allTrue_Or_cons ?_
    refine ha n env _ l (fun r σ1 => match false, r with
      | true, true => evb tb C false b l σ1 Q
      | true, false => Q false σ1
      | false, true => Q true σ1
      | false, false => evb tb C false b l σ1 Q) A x s _ F (al m) R I hs he fun r y tk I1 S1 q1 => ?_
    cases r with
    | true => exact k _ y tk I1 S1 q1
    | false => exact hb false n env as l _ A y _ _ F (ar m) R I1 rfl q1 (ConB.trans k S1)
theorem evb_nil : ∀ {n : Nm} {b : E} {t : Bool} {l : List AV} {σ : H} {Q : Bool → H → Prop}, mEs n b [] = true → evb tb C t b l σ Q → Q t σ
  | _, b, _, _, _, _, m, h => by
    cases b with
    | nil => exact h
    | _ => exact ft m
theorem pev_cons {a b : E} (ha : PE prog w hB N C a) (hb : PEv prog w hB N C b) : PEv prog w hB N C (.cons a b) := fun t n env as pos l Q A x s Qr F hne m R I hs he k => by
  cases as with
  | nil => exact absurd rfl hne
  | cons a' as =>
    have m1 := al m
    have m2 := ar m
    cases as with
    | nil =>
      refine BoolOp_one (ha n env _ l _ A x s _ F m1 R I hs he fun av v y tk I1 S1 r1 q1 => ?_)
      obtain ⟨bb, rfl, q1⟩ := bool_inv q1
      rw [VR.bool r1]
      refine k bb y tk I1 S1 ?_
      cases t <;> cases bb <;> first | exact q1 | exact evb_nil m2 q1
    | cons a2 as =>
      cases t with
      | true =>
        refine BoolOp_and (ha n env _ l _ A x s _ F m1 R I hs he fun av v y tk I1 S1 r1 q1 => ?_)
        obtain ⟨bb, rfl, q1⟩ := bool_inv q1
        rw [VR.bool r1]
        refine wpAny_truthy_bool ?_
        cases bb with
        | true => exact hb true n env (a2 :: as) pos l _ A y _ _ F nofun m2 R I1 rfl q1 (ConB.trans k S1)
        | false => exact k _ y tk I1 S1 q1
      | false =>
        refine BoolOp_or (ha n env _ l _ A x s _ F m1 R I hs he fun av v y tk I1 S1 r1 q1 => ?_)
        obtain ⟨bb, rfl, q1⟩ := bool_inv q1
        rw [VR.bool r1]
        refine wpAny_truthy_bool ?_
        cases bb with
        | true => exact k _ y tk I1 S1 q1
        | false => exact hb false n env (a2 :: as) pos l _ A y _ _ F nofun m2 R I1 rfl q1 (ConB.trans k S1)
end
end Mine
end
section
open PySem PySem.W PyProof.Rows
namespace Mine
open PySem PySem.Calls
theorem mO_cases {n : Nm} {e : E} {a : Option PySem.Expr} (h : mO n e a = true) : (e = .no ∧ a = none) ∨ ∃ x, a = some x ∧ mE n e x = true := by
  cases a with
  | none => cases e <;> first | exact .inl ⟨rfl, rfl⟩ | exact ft h
  | some x => cases e <;> first | exact .inr ⟨x, rfl, h⟩ | exact ft h
section
variable {prog : Program} {w : World} {K : Frag} {hB : Heap} {n : Nm} {env : Env} {A : Around} {x : Sta} {l : List AV} {s : Shared} {N : Nat} {C : CallT} {Q : AV → H → Prop} {Qr : Value → Shared → Prop}
theorem part_sound {e : E} (h : PE prog w hB N C e) {a : Option PySem.Expr} (F : FrOK n env) (m : mO n e a = true) (R : Rb A N) (I : Inv prog w hB n env x l) (hs : s.heap = x.h) (he : ev tb C e l x.σ Q) (k : Con prog w hB n env l x s Q Qr) :
    wpAny (model prog w) A (evalPart a env) Qr EF s := by
  rcases mO_cases m with ⟨rfl, rfl⟩ | ⟨y, rfl, m'⟩
  · refine PySem.wpAny_evalPart_none ?_
    exact Con.here (tk := s.toks) I hs k .un he
  · exact h n env y l Q A x s Qr F m' R I hs he k
theorem pe_slc {o lo hi st : E} (ho : PE prog w hB N C o) (h1 : PE prog w hB N C lo) (h2 : PE prog w hB N C hi) (h3 : PE prog w hB N C st) : PE prog w hB N C (.slc o lo hi st) := fun n env a' l Q A x s Qr F m R I hs he k => by
  refine vSub_i m fun o' i' p m => ?_
  refine vSl_i m fun l' h' s' p' m => ?_
  refine Subscript_ ?_
  refine ho n env _ l _ A x s _ F (al (al (al m))) R I hs he fun av v y tk I1 S1 r1 q1 => ?_
  refine wpAny_Slice ?_
  refine part_sound h1 F (ar (al (al m))) R I1 rfl q1 fun lv v1 y1 tk1 J1 T1 u1 q1 => ?_
  refine part_sound h2 F (ar (al m)) R J1 rfl q1 fun hv v2 y2 tk2 J2 T2 u2 q2 => ?_
  refine part_sound h3 F (ar m) R J2 rfl q2 fun sv v3 y3 tk3 J3 T3 u3 q3 => ?_
  refine slcA_sound (s := { s with heap := y3.h, toks := tk3 }) J3 rfl (((r1.step T1).step T2).step T3) ((u1.step T2).step T3) (u2.step T3) u3 q3 (fun o i => ?_) (fun av' v' z tk' I' S' r' q' => k av' v' z tk' I' (((S1.trans T1).trans T2).trans (T3.trans S')) r' q')
  cases s' with
  | none => exact ⟨_, rfl⟩
  | some _ => exact ⟨_, rfl⟩
theorem pe_tup {xs : E} (hx : PEs prog w hB N C xs) : PE prog w hB N C (.tup xs) := fun n env a' l Q A x s Qr F m R I hs he k => by
  refine vTup_i m fun as c p m => ?_
  refine wpAny_Tuple ?_
  refine hx n env _ _ l _ A x s _ F (al m) R I hs he fun avs vs y tk I1 S1 r1 hl q1 => ?_
  exact tupA_sound (s := { s with heap := y.h, toks := tk }) I1 rfl (by rw [hl]; exact dq (ar m)) r1 q1 (k.trans S1)
theorem pe_lst {xs : E} (kk : Nat) (hx : PEs prog w hB N C xs) : PE prog w hB N C (.lst kk xs) := fun n env a' l Q A x s Qr F m R I hs he k => by
  refine vLst_i m fun as p m => ?_
  refine wpAny_List ?_
  refine hx n env _ _ l _ A x s _ F (al m) R I hs he fun avs vs y tk I1 S1 r1 hl q1 => ?_
  exact lstA_sound (s := { s with heap := y.h, toks := tk }) I1 rfl (by rw [hl]; exact dq (ar m)) r1 q1 (k.trans S1)
theorem pe_dic (kk : Nat) (t : Bool) : PE prog w hB N C (.dic kk t) := fun n env a' l Q A x s Qr F m R I hs he k => by
  refine vDic_i m fun ks vs p m => ?_
  refine isE_i (al m) ?_
  refine isE_i (ar m) ?_
  exact wpAny_Dict_empty (dic_sound I hs he k)
theorem bop_op {op : PySem.BoolOp} {t : Bool} (h : (decide (op = .And) == t) = true) : op = if t then .And else .Or := by
  cases op <;> cases t <;> first | rfl | exact ft h
theorem ne_nilE {α : Type} {l : List α} (h : (!l.isEmpty) = true) : l ≠ [] := by
  cases l with
  | nil => exact ft h
  | cons => exact nofun
theorem pe_bop {xs : E} (t : Bool) (hx : PEv prog w hB N C xs) : PE prog w hB N C (.bop t xs) := fun n env a' l Q A x s Qr F m R I hs he k => by
  refine vBo_i m fun op vs p m => ?_
  rw [bop_op (al (al m))]
  exact hx t n env vs p l _ A x s _ F (ne_nilE (ar m)) (ar (al m)) R I hs he fun b y tk I1 S1 q1 => k _ _ y tk I1 S1 (.ofBool _) q1
theorem pt_bop {xs : E} (t : Bool) (hx : PEb prog w hB N C xs) : PT prog w hB N C (.bop t xs) := fun n env a' l Q A x s Qr F m R I hs he k => by
  refine vBo_i m fun op vs p m => ?_
  rw [bop_op (al (al m))]
  exact wpAny_isTrue_BoolOp (hx t n env vs l _ A x s _ F (ar (al m)) R I hs he k)
theorem evs_nil : ∀ {n : Nm} {b : E} {l : List AV} {σ : H} {Q : List AV → H → Prop}, mEs n b [] = true → evs tb C b l σ Q → Q [] σ
  | _, b, _, _, _, m, h => by
    cases b with
    | nil => exact h
    | _ => exact ft m
theorem hd_plain : ∀ {n : Nm} {b : E} {a : PySem.Expr} {as : List PySem.Expr}, mEs n b (a :: as) = true → plainS a = true
  | _, b, _, _, m => by
    cases b with
    | cons => exact mE_plain _ _ _ (al m)
    | _ => exact ft m
theorem evalArgs_sound {xs : E} (hx : PEs prog w hB N C xs) {as : List PySem.Expr} {pos : Pos} {f : Value} {Q : List AV → H → Prop} {Qa : Args → Shared → Prop} (F : FrOK n env) (m : mEs n xs as = true) (R : Rb A N) (I : Inv prog w hB n env x l) (hs : s.heap = x.h) (he : evs tb C xs l x.σ Q)
    (k : ConS prog w hB n env l as.length x s Q fun vs s' => Qa ⟨vs, []⟩ s') : wpAny (model prog w) A (evalArgs f true (backTo pos (starEach as env)) []) Qa EF s := by
  cases as with
  | nil =>
    refine evalArgs_nil3 ?_
    have h := k [] [] x s.toks I (Step.refl _ _) .nil rfl (evs_nil m he)
    rw [← hs] at h; exact h
  | cons a as =>
    have h := hx n env (a :: as) pos l Q A x s _ F m R I hs he k
    rw [starEach_cons (hd_plain m)] at h ⊢
    exact evalArgs_plain h
theorem Rb.call {A : Around} {n : Nat} (R : Rb A n) : RbC A n := ⟨R.handled, by have := R.depth; omega, by have := R.units; omega⟩
theorem ns_of_step {y : Sta} (P : St prog w hB x.g x.ρ x.σ x.h) (X : LR hB n env x l) (S : ∀ L, Step L x y) : ∀ m, x.h.Ns env.locals m → y.h.Ns env.locals m := fun m hm => by
  have hne : env.locals ≠ env.locals + 1 := Nat.ne_of_lt (Nat.lt_succ_self _)
  exact hm.at' fun o e => (S (env.locals + 1)).pres _ o hne e fun k hk => X.lown k hk
theorem Con.afterCall (I : Inv prog w hB n env x l) (k : Con prog w hB n env l x s Q Qr) {av : AV} {v : Value} {y : Sta} {tk : Nat} (P : St prog w hB y.g y.ρ y.σ y.h) (S : ∀ L, Step L x y) (r : VRx y av v) (q : Q av y.σ) : Qr v { s with heap := y.h, toks := tk } :=
  k av v y tk (I.step P (S _) (ns_of_step I.st I.lr S)) (S _) r q
theorem fn_call (hC : CallS prog w hB N C) (R : Rb A N) (I : Inv prog w hB n env x l) (hs : s.heap = x.h) {f : Nat} {avs : List AV} {vs : List Value} (rs : VRsx x avs vs) (h : C f avs x.σ Q) (k : Con prog w hB n env l x s Q Qr) :
    wpAny (model prog w) A (call (.ref (fnA f)) vs []) Qr EF s :=
  wpAny_call (hC f avs x A vs s Q _ R.call I.st hs rs h fun av v y tk P S r q => Con.afterCall I k P S r q)
theorem cls_call (W : SW K hB) (hC : CallS prog w hB N C) (R : Rb A N) (I : Inv prog w hB n env x l) (hs : s.heap = x.h) {c f kk : Nat} {avs : List AV} {vs : List Value} (hc4 : c < 4) (hi : tbIni c = some f) (rs : VRsx x avs vs) (hf : look x.σ kk = none)
    (h : C f (.ins c kk :: avs) ((kk, .ns []) :: x.σ) fun r σ' => r = .d .none ∧ Q (.ins c kk) σ') (k : Con prog w hB n env l x s Q Qr) :
    wpAny (model prog w) A (call (.ref (clA c)) vs []) Qr EF s := by
  obtain ⟨hh, g, d, t, os⟩ := s
  cases hs
  have hc := W.cls c hc4
  obtain ⟨i1, i2⟩ := hc.ini f hi
  have X := W.at I.st
  have k1 : ∀ b o, x.h.get? b = some o → (x.h.push emptyDict).get? b = some o := fun b o e => Heap.get?_push_of_some _ e
  obtain ⟨P1, A1⟩ := I.st.alloc (k := kk) (o := .ns []) (a := x.h.objs.size) hf k1 (Nat.le_refl _) ⟨[], 0, Heap.get?_push_size _ rfl, ⟨Nat.le_refl _, fun a _ => getL_nil _⟩⟩
  have A2 := P1.fix (x := ⟨x.g, fun j => if j = kk then x.h.objs.size else x.ρ j, (kk, .ns []) :: x.σ, x.h.push emptyDict⟩) (h' := (x.h.push emptyDict).push (instObj (clA c) x.h.objs.size)) (a := x.h.objs.size + 1) (o := instObj (clA c) x.h.objs.size)
    (fun b o e => Heap.get?_push_of_some _ e) (Heap.get?_none_of_le (by show (x.h.push emptyDict).objs.size ≤ _; rw [Heap.size_push]; omega)) (by have e := Heap.size_push x.h emptyDict; rw [← e]; exact Heap.get?_push_size _ rfl)
  obtain ⟨g', P2, S2', e2⟩ := A2
  have SS : ∀ L, Step L x ⟨g', fun j => if j = kk then x.h.objs.size else x.ρ j, (kk, .ns []) :: x.σ, (x.h.push emptyDict).push (instObj (clA c) x.h.objs.size)⟩ := fun L => (A1 L).trans (S2' L)
  have ri : VR g' (fun j => if j = kk then x.h.objs.size else x.ρ j) ((kk, .ns []) :: x.σ) (.ins c kk) (.ref (x.h.objs.size + 1)) := .ins (by rw [look_cons_same]; rfl) (by simpa using e2)
  refine wpAny_call (make_core (makes_of X hc.makes) (looks_findIn X i1) (fun self => bind_fn X self i2) (.inl rfl) ?_)
  have hu : ((Code.builtin "type.__call__" ⟨.ref (clA c) :: vs, []⟩).weight) = 1 := rfl
  have hv : ((Code.builtin "type.__call__" ⟨.ref (clA c) :: vs, []⟩).cUnits) = 1 := rfl
  refine hC f (.ins c kk :: avs) ⟨g', fun j => if j = kk then x.h.objs.size else x.ρ j, (kk, .ns []) :: x.σ, (x.h.push emptyDict).push (instObj (clA c) x.h.objs.size)⟩ _ _ _ _ _ ⟨R.handled, ?_, ?_⟩ P2 rfl (.cons ri (rs.step (SS 0))) h fun av v y tk P S r q => ?_
  · show A.depth + _ + 3 * N + 3 < _
    rw [hu]; have := R.depth; omega
  · show A.units + _ + 200 * N + 250 < _
    have := R.units; omega
  · obtain ⟨rfl, q⟩ := q
    cases r with
    | d r =>
      cases r
      refine ⟨rfl, ?_⟩
      exact Con.afterCall I k P (fun L => (SS L).trans (S L)) (ri.mono (S 0).grow) q
@[elab_as_elim] theorem isName_i {x : PySem.Expr} {G : PySem.Expr → Prop} (h : isName x = true) (k : ∀ nm p, G (.Name nm p)) : G x := by
  have h : vNm x (fun _ => true) = true := h
  exact vNm_i h fun nm p _ => k nm p
theorem fnT_inv {tb : Tb} {f : AV} {P : Prop} (h : fnT tb f P) : fnT tb f True ∧ P := by
  unfold fnT at h ⊢
  cases f with
  | fn i =>
    dsimp only at h ⊢
    cases e : tb.glo i with
    | none => rw [e] at h; exact h.elim
    | some g => rw [e] at h; cases g <;> first | exact ⟨trivial, h⟩ | exact h.elim
  | _ => exact h.elim
theorem pe_call (W : SW K hB) (hC : CallS prog w hB N C) {f xs : E} (kk : Nat) (hf : PE prog w hB N C f) (hx : PEs prog w hB N C xs)
    (srt : ∀ {env : Env} {n : Nm} {l : List AV} {A : Around} {x : Sta} {s : Shared} {Q : AV → H → Prop} {Qr : Value → Shared → Prop} {avs : List AV} {vs : List Value}, FrOK n env → Rb A N → Inv prog w hB n env x l → s.heap = x.h → VRsx x avs vs → srtA avs (fun r => Q r x.σ) → Con prog w hB n env l x s Q Qr → wpAny (model prog w) A (call (.builtin "sorted") vs []) Qr EF s) :
    PE prog w hB N C (.call f kk xs) := fun n env a' l Q A x s Qr F m R I hs he k => by
  refine vCal_i m fun f' as kw p m => ?_
  refine isE_i (al (al (al m))) ?_
  have m1 := ar (al (al m))
  have m2 := ar (al m)
  have m3 := ar m
  revert m1
  refine isName_i m2 fun nm np m1 => ?_
  rw [arm_eval_Call_Name']
  refine wpAny_bind (hf n env _ l _ A x s _ F m1 R I hs he fun fv vf y tk I1 S1 r1 q1 => ?_)
  obtain ⟨hT, q1⟩ := fnT_inv q1
  have hps : (backTo p (starEach as env)).any (·.1) = false := mEs_noStar m3
  have hkw : backToKw p (keywordEach [] env) = [] := rfl
  rw [hkw]
  cases r1 with
  | @fn i v e =>
    unfold fnT at hT
    unfold gloV at e
    have st : ∀ (av : AV) (v : Value) (y' : Sta) (tk' : Nat), Inv prog w hB n env y' l → Step env.locals y y' → VRx y' av v → Q av y'.σ → Qr v { s with heap := y'.h, toks := tk' } := fun av v y' tk' I' S' r q => k av v y' tk' I' (S1.trans S') r q
    have hq : ∀ gk, tbGlo i = some gk → ∀ (avs : List AV) (σ : H), callA tb C (.fn i) kk avs σ Q = (match gk with
        | .fn f => C f avs σ Q
        | .cls c => match tb.ini c with
          | some f => look σ kk = none ∧ C f (.ins c kk :: avs) ((kk, .ns []) :: σ) fun r σ' => r = .d .none ∧ Q (.ins c kk) σ'
          | none => False
        | .len => lenA avs σ fun v => Q v σ
        | .list => mklA kk avs σ Q
        | .sorted => srtA avs fun v => Q v σ
        | .set => setA kk avs σ Q
        | .range => rngA avs fun v => Q v σ
        | _ => False) := fun gk hg avs σ => by
      have : tb.glo i = some gk := hg
      unfold callA
      simp only [this]
      cases gk <;> rfl
    cases hg : tbGlo i with
    | none => rw [hg] at e; cases e
    | some gk =>
      have hqq := hq gk hg
      rw [hg] at e
      cases gk with
      | dat d => cases e
      | fn f =>
        cases e
        refine callWith_of (P := K.In) (by rw [hps]; rfl) (keeps_K (W.fns i f hg)) ?_
        refine evalArgs_sound (s := { s with heap := y.h, toks := tk }) hx F m3 R I1 rfl q1 fun avs vs z tk2 I2 S2 r2 hl q2 => ⟨W.at I2.st, ?_⟩
        rw [hqq] at q2
        exact fn_call (s := { s with heap := z.h, toks := tk2 }) hC R I2 rfl r2 q2 fun av v y' tk' I' S' r q => st av v y' tk' I' (S2.trans S') r q
      | cls c =>
        cases e
        have hc4 := W.clsI i c hg
        refine callWith_of (P := K.In) (by rw [hps]; rfl) (keeps_K (W.cls c hc4).keep) ?_
        refine evalArgs_sound (s := { s with heap := y.h, toks := tk }) hx F m3 R I1 rfl q1 fun avs vs z tk2 I2 S2 r2 hl q2 => ⟨W.at I2.st, ?_⟩
        rw [hqq] at q2
        dsimp only at q2
        cases hi : tb.ini c with
        | none => rw [hi] at q2; exact q2.elim
        | some f =>
          rw [hi] at q2
          exact cls_call (s := { s with heap := z.h, toks := tk2 }) W hC R I2 rfl hc4 hi r2 q2.1 q2.2 fun av v y' tk' I' S' r q => st av v y' tk' I' (S2.trans S') r q
      | len =>
        cases e
        refine callWith_builtin hps ?_
        refine evalArgs_sound (s := { s with heap := y.h, toks := tk }) hx F m3 R I1 rfl q1 fun avs vs z tk2 I2 S2 r2 hl q2 => ?_
        rw [hqq] at q2
        exact lenA_sound (s := { s with heap := z.h, toks := tk2 }) I2.st rfl r2 q2 fun av v tk' r' q' => st av v z tk' I2 S2 r' q'
      | range =>
        cases e
        refine PyProof.Rows.callWith_type hps ?_
        refine evalArgs_sound (s := { s with heap := y.h, toks := tk }) hx F m3 R I1 rfl q1 fun avs vs z tk2 I2 S2 r2 hl q2 => ?_
        rw [hqq] at q2
        exact rngA_sound (s := { s with heap := z.h, toks := tk2 }) I2 rfl r2 q2 fun av v y' tk' I' S' r q => st av v y' tk' I' (S2.trans S') r q
      | list =>
        cases e
        refine PyProof.Rows.callWith_type hps ?_
        refine evalArgs_sound (s := { s with heap := y.h, toks := tk }) hx F m3 R I1 rfl q1 fun avs vs z tk2 I2 S2 r2 hl q2 => ?_
        rw [hqq] at q2
        exact mklA_sound (s := { s with heap := z.h, toks := tk2 }) I2 rfl r2 q2 fun av v y' tk' I' S' r q => st av v y' tk' I' (S2.trans S') r q
      | sorted =>
        cases e
        refine callWith_builtin hps ?_
        refine evalArgs_sound (s := { s with heap := y.h, toks := tk }) hx F m3 R I1 rfl q1 fun avs vs z tk2 I2 S2 r2 hl q2 => ?_
        rw [hqq] at q2
        exact srt (s := { s with heap := z.h, toks := tk2 }) F R I2 rfl r2 q2 fun av v y' tk' I' S' r q => st av v y' tk' I' (S2.trans S') r q
      | set =>
        cases e
        refine PyProof.Rows.callWith_type hps ?_
        refine evalArgs_sound (s := { s with heap := y.h, toks := tk }) hx F m3 R I1 rfl q1 fun avs vs z tk2 I2 S2 r2 hl q2 => ?_
        rw [hqq] at q2
        exact setA_sound (s := { s with heap := z.h, toks := tk2 }) I2 rfl r2 q2 fun av v y' tk' I' S' r q => st av v y' tk' I' (S2.trans S') r q
  | _ => exact (show False from hT).elim
theorem method_eq {o : PySem.Expr} {nm : Str} {pa pos : Pos} {as : List PySem.Expr} (hb : notSuper o = true) (hp : (backTo pos (starEach as env)).any (·.1) = false) (hz : as.length < 20) (hl : (pa.endLine == pos.line) = true) :
    eval (.Call (.Attribute o nm pa) as [] pos) env = (do
      let ov ← eval o env
      standAt pa.atName
      let (f, first) ← holding [ov] (getMethod ov nm (do return (← importBound o env).getD true))
      callWith pos f first (backTo pos (starEach as env)) (backToKw pos (keywordEach [] env))) := by
  have hform : methodCallForm (as.length + ([] : List Keyword).length) (backTo pos (starEach as env)) (backToKw pos (keywordEach [] env)) = true := by
    unfold methodCallForm
    have h1 : (backTo pos (starEach as env)).all (fun x => !x.1) = true := by
      rw [List.all_eq_true]
      intro y hy
      rw [List.any_eq_false] at hp
      simpa using hp y hy
    have h2 : backToKw pos (keywordEach [] env) = [] := rfl
    rw [h1, h2]
    simp; omega
  have hpos : methodCallPos true o env pa pos = pure pos := by unfold methodCallPos; simp [hl]
  rw [arm_eval_Call, base_plain hb]
  unfold methodCall
  rw [hform, hpos]
  simp only [calleeOf, if_true, pure_bind]
theorem methA_inv {tb : Tb} {C : CallT} {c k m f : Nat} {vs : List AV} {σ : H} {Q : AV → H → Prop} (e : tb.meth c m = some f) (h : methA tb C (.ins c k) m vs σ Q) : C f (.ins c k :: vs) σ Q := by
  have h : (match tb.meth c m with
    | some f => C f (.ins c k :: vs) σ Q
    | none => False) := h
  rw [e] at h; exact h
theorem pe_meth (W : SW K hB) (hC : CallS prog w hB N C) {o xs : E} (mm : Nat) (ho : PE prog w hB N C o) (hx : PEs prog w hB N C xs) : PE prog w hB N C (.meth o mm xs) := fun n env a' l Q A x s Qr F m R I hs he k => by
  refine vCal_i m fun f' as kw p m => ?_
  refine vAt_i m fun o' nm pa m => ?_
  have m6 := ar m
  have m5 := ar (al m)
  have m4 := dq (ar (al (al m)))
  have m3 := ar (al (al (al m)))
  have m2 := ar (al (al (al (al m))))
  have m1 := ar (al (al (al (al (al m)))))
  refine isE_i (al (al (al (al (al (al m)))))) ?_
  have hps : (backTo p (starEach as env)).any (·.1) = false := mEs_noStar m3
  have hkw : backToKw p (keywordEach [] env) = [] := rfl
  have hn := isAtt_spec F m2
  subst hn
  rw [method_eq m6 hps m4 m5]
  refine wpAny_bind (ho n env _ l _ A x s _ F m1 R I hs he fun ov v y tk I1 S1 r1 q1 => wpAny_bind (wpAny_standAt (wpAny_bind (wpAny_holding ?_))))
  obtain ⟨hT, q1⟩ := q1
  cases hT with
  | @mk c kk mm f lv e1 e2 hT =>
    obtain ⟨ad, es, mn, rfl, _, _, Rn, IA⟩ := VR.inst (s := { s with heap := y.h, toks := tk }) I1.st rfl r1 e1
    have hc := W.cls c (W.methI c mm f e2)
    obtain ⟨g1, g2, g3, g4⟩ := hc.meth mm f e2
    have hnone := Rn.get mm g4
    rw [hT] at hnone
    refine method_fn (W.at I1.st) IA (plainGet_of hc.get).1 (plainGet_of hc.get).2 g1 (beq_iff_eq.mp g2) (by show (lookIn _ (dictOf es mn)).map _ = _; rw [lookIn_dict, hnone]; rfl) ?_
    rw [hkw]
    refine callWith_of (P := K.In) (by rw [hps]; rfl) (keeps_K g3) ?_
    refine evalArgs_sound (s := { s with heap := y.h, toks := tk }) hx F m3 R I1 rfl q1 fun avs vs z tk2 I2 S2 r2 hl q2 => ⟨W.at I2.st, ?_⟩
    have q3 : C f (.ins c kk :: avs) z.σ Q := methA_inv e2 q2
    exact fn_call (s := { s with heap := z.h, toks := tk2 }) hC R I2 rfl (.cons (r1.step S2) r2) q3 fun av v y' tk' I' S' r q => k av v y' tk' I' ((S1.trans S2).trans S') r q
theorem pe_bm (W : SW K hB) {o xs : E} (mm : BM) (ho : PE prog w hB N C o) (hx : PEs prog w hB N C xs) : PE prog w hB N C (.bm o mm xs) := fun n env a' l Q A x s Qr F m R I hs he k => by
  refine vCal_i m fun f' as kw p m => ?_
  refine vAt_i m fun o' nm pa m => ?_
  have m6 := ar m
  have m5 := ar (al m)
  have m4 := dq (ar (al (al m)))
  have m3 := ar (al (al (al m)))
  have m2 := dq (ar (al (al (al (al m)))))
  have m1 := ar (al (al (al (al (al m)))))
  refine isE_i (al (al (al (al (al (al m)))))) ?_
  have hps : (backTo p (starEach as env)).any (·.1) = false := mEs_noStar m3
  have hkw : backToKw p (keywordEach [] env) = [] := rfl
  rw [method_eq m6 hps m4 m5]
  refine wpAny_bind (ho n env _ l _ A x s _ F m1 R I hs he fun ov v y tk I1 S1 r1 q1 => wpAny_bind (wpAny_standAt (wpAny_bind (wpAny_holding ?_))))
  obtain ⟨hT, q1⟩ := q1
  refine bmT_sound (s := { s with heap := y.h, toks := tk }) I1.st rfl m2 r1 hT fun a ha => ?_
  subst ha
  rw [hkw]
  refine callWith_builtin hps ?_
  refine evalArgs_sound (s := { s with heap := y.h, toks := tk }) hx F m3 R I1 rfl q1 fun avs vs z tk2 I2 S2 r2 hl q2 => ?_
  exact bm_call (s := { s with heap := z.h, toks := tk2 }) W R I2 rfl (r1.step S2) r2 q2 fun av v y' tk' I' S' r q => k av v y' tk' I' ((S1.trans S2).trans S') r q
end
end Mine
end
section
open PySem PySem.W PyProof.Rows
namespace Mine
open PySem PySem.Calls
noncomputable def frX (env : Env) (a : Addr) : Prop := a = env.locals ∨ ∃ p ∈ env.cells, p.2 = a
noncomputable def Unown (x : Sta) (a : Addr) : Prop := ∀ k, (look x.σ k).isSome = true → x.ρ k ≠ a
structure Soft (X : Addr → Prop) (x y : Sta) : Prop where
  sub : ∀ a o, x.g.get? a = some o → y.g.get? a = some o
  live : ∀ a, (x.h.get? a).isSome = true → (y.h.get? a).isSome = true
  pres : ∀ a o, ¬ X a → x.h.get? a = some o → Unown x a → y.h.get? a = some o
  new : ∀ k, (look y.σ k).isSome = true → ((look x.σ k).isSome = true ∧ y.ρ k = x.ρ k) ∨ x.h.get? (y.ρ k) = none
  gnew : ∀ a o, y.g.get? a = some o → (∃ o', x.g.get? a = some o') ∨ x.h.get? a = none ∨ ∃ k, (look x.σ k).isSome = true ∧ x.ρ k = a
theorem Soft.refl (X : Addr → Prop) (x : Sta) : Soft X x x := ⟨fun _ _ e => e, fun _ e => e, fun _ _ _ e _ => e, fun _ e => .inl ⟨e, rfl⟩, fun _ _ e => .inl ⟨_, e⟩⟩
theorem Soft.trans {X : Addr → Prop} {x y z : Sta} (a : Soft X x y) (b : Soft X y z) : Soft X x z where
  sub := fun c o e => b.sub c o (a.sub c o e)
  live := fun c e => b.live c (a.live c e)
  pres := fun c o hX e hu => b.pres c o hX (a.pres c o hX e hu) fun k hk q => by
    rcases a.new k hk with ⟨h1, h2⟩ | h1
    · exact hu k h1 (h2.symm.trans q)
    · rw [q, e] at h1; cases h1
  new := fun k hk => by
    rcases b.new k hk with ⟨h1, h2⟩ | h1
    · rcases a.new k h1 with ⟨h3, h4⟩ | h3
      · exact .inl ⟨h3, h2.trans h4⟩
      · exact .inr (by rw [h2]; exact h3)
    · exact .inr (dead (a.live _) h1)
  gnew := fun c o e => by
    rcases b.gnew c o e with ⟨o', h1⟩ | h1 | ⟨k, h1, h2⟩
    · exact a.gnew c o' h1
    · exact .inr (.inl (dead (a.live _) h1))
    · rcases a.new k h1 with ⟨h3, h4⟩ | h3
      · exact .inr (.inr ⟨k, h3, h4.symm.trans h2⟩)
      · exact .inr (.inl (by rw [← h2]; exact h3))
theorem Soft.ofStep {X : Addr → Prop} {L : Addr} (hX : X L) {x y : Sta} (S : Step L x y) : Soft X x y :=
  ⟨S.grow.sub, S.live, fun a o h e hu => S.pres a o (fun q => h (q ▸ hX)) e hu, fun k hk => by
    rcases S.new k hk with h | h
    · exact .inl ⟨h, S.grow.rho k h⟩
    · exact .inr h, fun a o e => by
    rcases S.gnew a o e with h | h
    · exact .inl h
    · exact .inr (.inl h)⟩
structure Entry (own : List Nat) (env : Env) (x : Sta) : Prop where
  loc : x.h.get? env.locals = none
  cell : ∀ p ∈ env.cells, x.h.get? p.2 = none
  own : ∀ k ∈ own, look x.σ k = none
structure Mv (own : List Nat) (env : Env) (x y : Sta) : Prop where
  soft : Soft (frX env) x y
  ent : ∀ x0, Entry own env x0 → (∀ L, Step L x0 x) → ∀ L, Step L x0 y
theorem Mv.refl {own : List Nat} {env : Env} (x : Sta) : Mv own env x x := ⟨Soft.refl _ _, fun _ _ h => h⟩
theorem Mv.trans {own : List Nat} {env : Env} {x y z : Sta} (a : Mv own env x y) (b : Mv own env y z) : Mv own env x z := ⟨a.soft.trans b.soft, fun x0 e h => b.ent x0 e (a.ent x0 e h)⟩
theorem Step.all {L0 : Addr} {x y : Sta} (S : Step L0 x y) (h : x.h.get? L0 = none) (L : Addr) : Step L x y :=
  ⟨S.grow, S.live, fun a o _ e hu => S.pres a o (fun q => by rw [q, h] at e; cases e) e hu, S.new, S.gnew⟩
theorem Mv.ofStep {own : List Nat} {env : Env} {x y : Sta} (S : Step env.locals x y) : Mv own env x y :=
  ⟨Soft.ofStep (.inl rfl) S, fun x0 e h L => ((h env.locals).trans S).all e.loc L⟩
section
variable {prog : Program} {w : World} {K : Frag} {hB : Heap} {n : Nm} {env : Env} {A : Around} {x y : Sta} {l : List AV} {s : Shared} {N : Nat} {C : CallT} {own : List Nat}
theorem St.quiet (P : St prog w hB x.g x.ρ x.σ x.h) {h' : Heap} {c : Addr} (hk : ∀ a o, a ≠ c → x.h.get? a = some o → h'.get? a = some o) (hL : x.g.get? c = none) (hO : Unown x c) : St prog w hB x.g x.ρ x.σ h' := by
  have hs : ∀ b o, x.g.get? b = some o → h'.get? b = some o := fun b o e => hk b o (fun q => by rw [q, hL] at e; cases e) (P.sub b o e)
  refine ⟨P.base, hs, fun k o e => ?_, P.inj, P.nd, P.pin⟩
  obtain ⟨h1, h2, h3⟩ := P.own k o e
  obtain ⟨ob, ho⟩ := h3.here
  exact ⟨h1, h2, h3.keep (Grow.refl _ _ _) hs ((hk _ _ (hO k (by rw [e]; rfl)) ho).trans ho.symm)⟩
theorem Mv.quiet {h' : Heap} {c : Addr} (hX : frX env c) (hk : ∀ a o, a ≠ c → x.h.get? a = some o → h'.get? a = some o) (hl : (h'.get? c).isSome = true) : Mv own env x { x with h := h' } := by
  have live : ∀ a, (x.h.get? a).isSome = true → (h'.get? a).isSome = true := fun a e => by
    by_cases q : a = c
    · subst q; exact hl
    · obtain ⟨o, ho⟩ := Option.isSome_iff_exists.mp e
      rw [hk a o q ho]; rfl
  refine ⟨⟨fun _ _ e => e, live, fun a o h e _ => hk a o (fun q => h (q ▸ hX)) e, fun _ e => .inl ⟨e, rfl⟩, fun _ _ e => .inl ⟨_, e⟩⟩, fun x0 E S L => ?_⟩
  have hc : x0.h.get? c = none := by
    rcases hX with h | ⟨p, hp, h⟩
    · rw [h]; exact E.loc
    · rw [← h]; exact E.cell p hp
  exact ⟨(S L).grow, fun a e => live a ((S L).live a e), fun a o hL e hu => hk a o (fun q => by rw [q, hc] at e; cases e) ((S L).pres a o hL e hu), (S L).new, (S L).gnew⟩
theorem pairwise_inj {β : Type} {R : β → β → Prop} (hs : ∀ a b, R a b → R b a) : ∀ {l : List β}, l.Pairwise R → ∀ {p q : β}, p ∈ l → q ∈ l → p = q ∨ R p q
  | a :: r, h, p, q, hp, hq => by
    rw [List.pairwise_cons] at h
    rcases List.mem_cons.mp hp with e | h1
    · rcases List.mem_cons.mp hq with e' | h2
      · exact .inl (e.trans e'.symm)
      · exact .inr (e ▸ h.1 q h2)
    · rcases List.mem_cons.mp hq with e' | h2
      · exact .inr (e' ▸ hs _ _ (h.1 p h1))
      · exact pairwise_inj hs h.2 h1 h2
theorem isSto_spec {i : Nat} {nm : Str} (h : isSto n i nm = true) : isLoc n i nm = true ∧ (n.scope.names.lookup nm = some .local ∨ n.scope.names.lookup nm = some .cell) := by
  unfold isSto at h
  rw [Bool.and_eq_true] at h
  refine ⟨h.1, ?_⟩
  have h2 := h.2
  split at h2 <;> simp_all
theorem loc_inj (F : FrOK n env) {i j : Nat} {nm : Str} (h1 : n.loc[i]? = some nm) (h2 : n.loc[j]? = some nm) : i = j := by
  obtain ⟨a1, b1⟩ := List.getElem?_eq_some_iff.mp h1
  obtain ⟨a2, b2⟩ := List.getElem?_eq_some_iff.mp h2
  by_cases h : i = j
  · exact h
  · exact absurd (b1.trans b2.symm) (by
      rcases Nat.lt_or_gt_of_ne h with q | q
      · exact (List.pairwise_iff_getElem.mp F.nd) i j a1 a2 q
      · exact fun e => (List.pairwise_iff_getElem.mp F.nd) j i a2 a1 q e.symm)
theorem set_get {l : List AV} {i j : Nat} {av av' : AV} (h : (l.set i av)[j]? = some av') : (j = i ∧ av' = av) ∨ (j ≠ i ∧ l[j]? = some av') := by
  rw [List.getElem?_set] at h
  split at h
  · rename_i q
    split at h
    · cases h; exact .inl ⟨q.symm, rfl⟩
    · cases h
  · rename_i q; exact .inr ⟨fun e => q e.symm, h⟩
theorem store_loc (F : FrOK n env) (I : Inv prog w hB n env x l) (hs : s.heap = x.h) {i : Nat} {nm : Str} {av : AV} {v : Value} (hi : isSto n i nm = true) (r : VRx x av v) {Qr : Unit → Shared → Prop}
    (k : ∀ h' tk, Inv prog w hB n env { x with h := h' } (l.set i av) → Mv own env x { x with h := h' } → Qr () { s with heap := h', toks := tk }) : wpAny (model prog w) A (storeName env nm v) Qr EF s := by
  obtain ⟨hl, hk⟩ := isSto_spec hi
  obtain ⟨h1, _⟩ := isLoc_spec hl
  have X := I.lr
  rw [X.scope] at hk
  have hp : (env.scope.kind == .class || (env.scope.kind == .module && env.locals != env.globals)) = false := by rw [X.kind]; rfl
  rcases hk with hk | hk
  · obtain ⟨m, hn, hm⟩ := X.ns
    refine wpAny_storeName_local hk (hs ▸ hn) (fun h' hn' hsb => k h' _ ?_ ?_) hp
    · have hkp : ∀ a o, a ≠ env.locals → x.h.get? a = some o → h'.get? a = some o := fun a o q e => (hsb.2 a q).trans (hs ▸ e)
      refine ⟨I.st.quiet hkp X.lout X.lown, ⟨X.kind, X.scope, ⟨_, hn', fun j av' nm' a b c d => ?_⟩, X.lout, X.lup, X.lown, fun j av' nm' a b c d => ?_, fun nm' c hm => ?_, X.capart, X.chas⟩⟩
      · rcases set_get a with ⟨rfl, rfl⟩ | ⟨q, a⟩
        · rw [h1] at c; cases c
          exact ⟨v, by simp, r⟩
        · obtain ⟨v', e, r'⟩ := hm j av' nm' a b c d
          have : nm' ≠ nm := fun e => q (loc_inj F (e ▸ c) h1)
          exact ⟨v', by simp [this, e], r'⟩
      · rcases set_get a with ⟨rfl, rfl⟩ | ⟨q, a⟩
        · rw [h1] at c; cases c
          have d' : env.kindOf nm = some .local := hk
          rw [d'] at d; simp at d
        · obtain ⟨cc, v', e1, e2, e3⟩ := X.cells j av' nm' a b c d
          have hne := ns_ne_cell hn e2
          obtain ⟨o, ho, hd⟩ := e2
          exact ⟨cc, v', e1, ⟨o, hkp _ _ hne ho, hd⟩, e3⟩
      · obtain ⟨g1, g2, v', g3⟩ := X.cin nm' c hm
        have hne := ns_ne_cell hn g3
        obtain ⟨o, ho, hd⟩ := g3
        exact ⟨g1, g2, v', o, hkp _ _ hne ho, hd⟩
    · obtain ⟨o, es, ep, e, _⟩ := hn'
      exact Mv.quiet (.inl rfl) (fun a o q e => (hsb.2 a q).trans (hs ▸ e)) (by rw [e]; rfl)
  · obtain ⟨m, hn, hm⟩ := X.ns
    have hex : ∃ c v0, env.cells.lookup nm = some c ∧ x.h.IsCell c v0 := by
      obtain ⟨c, hc⟩ := X.chas nm hk
      obtain ⟨_, _, v0, h0⟩ := X.cin nm c (mem_of_lookup hc)
      exact ⟨c, v0, hc, h0⟩
    obtain ⟨c, v0, hc, hv⟩ := hex
    have hcm := mem_of_lookup hc
    refine wpAny_storeName_cell X.kind hk hc (hs ▸ hv) fun h' hc' hsb => k h' _ ?_ ?_
    · have hkp : ∀ a o, a ≠ c → x.h.get? a = some o → h'.get? a = some o := fun a o q e => (hsb.2 a q).trans (hs ▸ e)
      have hcl := ns_ne_cell hn hv
      refine ⟨I.st.quiet hkp (X.cin nm c hcm).2.1 (I.st.ownCell hv), ⟨X.kind, X.scope, ⟨m, hn.at' fun o e => hkp _ o (Ne.symm hcl) e, fun j av' nm' a b c' d => ?_⟩, X.lout, X.lup, X.lown, fun j av' nm' a b c' d => ?_, fun nm' cc hm => ?_, X.capart, X.chas⟩⟩
      · rcases set_get a with ⟨rfl, rfl⟩ | ⟨q, a⟩
        · rw [h1] at c'; cases c'
          have d' : env.kindOf nm = some .cell := hk
          rw [d'] at d; simp at d
        · exact hm j av' nm' a b c' d
      · rcases set_get a with ⟨rfl, rfl⟩ | ⟨q, a⟩
        · rw [h1] at c'; cases c'
          exact ⟨c, v, hc, hc', r⟩
        · obtain ⟨cc, v', e1, e2, e3⟩ := X.cells j av' nm' a b c' d
          have hne : cc ≠ c := by
            rcases pairwise_inj (fun _ _ h => Ne.symm h) X.capart (mem_of_lookup e1) hcm with h | h
            · cases h; exact absurd (loc_inj F c' h1) q
            · exact h
          obtain ⟨o, ho, hd⟩ := e2
          exact ⟨cc, v', e1, ⟨o, hkp _ _ hne ho, hd⟩, e3⟩
      · by_cases q : cc = c
        · subst q
          obtain ⟨g1, g2, _⟩ := X.cin nm' cc hm
          exact ⟨g1, g2, _, hc'⟩
        · obtain ⟨g1, g2, v', o, ho, hd⟩ := X.cin nm' cc hm
          exact ⟨g1, g2, v', o, hkp _ _ q ho, hd⟩
    · obtain ⟨o, e, _⟩ := hc'
      exact Mv.quiet (.inr ⟨_, hcm, rfl⟩) (fun a o q e => (hsb.2 a q).trans (hs ▸ e)) (by rw [e]; rfl)
end
end Mine
end
section
open PySem PySem.W PyProof.Rows
namespace Mine
open PySem PySem.Calls
structure Itr (prog : Program) (w : World) (A : Around) (x0 : Sta) (I : Addr) (xs : List AV) (fp : List Addr) (P : Nat → Value → Prop) (T : Nat → Heap → Prop) : Prop where
  W : Walks prog w A I fp [I] xs.length P T
  fp : ∀ b ∈ fp, b = I ∨ ∃ o, x0.g.get? b = some o
  val : ∀ (i : Nat) v av, P i v → xs[i]? = some av → VRx x0 av v
  live : ∀ i h, T i h → ∃ o, h.get? I = some o
theorem rangeL_at {f : Nat → Int} {n i : Nat} {z : Int} (h : ((List.range n).map f)[i]? = some z) : z = f i := by
  rw [List.getElem?_map] at h
  obtain ⟨y, q, rfl⟩ := Option.map_eq_some_iff.mp h
  obtain ⟨q1, q2⟩ := List.getElem?_eq_some_iff.mp q
  rw [List.getElem_range] at q2
  rw [q2]
theorem r1_ (a b : Int) : (((b - a).toNat : Nat) : Int) = if a < b then b - a else 0 := by split <;> omega
theorem r2_ (a b : Int) : ((((b - a + 1) / 2).toNat : Nat) : Int) = if a < b then (b - a - 1) / 2 + 1 else 0 := by split <;> omega
theorem r3_ (a b : Int) : (((a - b).toNat : Nat) : Int) = if a > b then (a - b - 1) / 1 + 1 else 0 := by rw [Int.ediv_one]; split <;> omega
theorem rs2 (a b : Int) : Builtin.Range.rangeSize a b 2 = if a < b then (b - a - 1) / 2 + 1 else 0 := if_pos (by decide)
theorem rs3 (a b : Int) : Builtin.Range.rangeSize a b (-1) = if a > b then (a - b - 1) / 1 + 1 else 0 := if_neg (by decide)
theorem rangeL1 (a b : Int) : rangeL a b 1 = (List.range (b - a).toNat).map fun (i : Nat) => a + i := if_pos rfl
theorem rangeL2 (a b : Int) : rangeL a b 2 = (List.range ((b - a + 1) / 2).toNat).map fun (i : Nat) => a + 2 * i := (if_neg (by decide)).trans (if_pos rfl)
theorem rangeL3 (a b : Int) : rangeL a b (-1) = (List.range (a - b).toNat).map fun (i : Nat) => a - i := (if_neg (by decide)).trans ((if_neg (by decide)).trans (if_pos rfl))
theorem fl_ {i : Int} (h : -(2 ^ 50) ≤ i ∧ i ≤ 2 ^ 50) : Builtin.Range.rangeFitsLong i = true := Bool.and_eq_true_iff.mpr ⟨decide_eq_true (Int.le_trans (by decide) h.1), decide_eq_true (Int.lt_of_le_of_lt h.2 (by decide))⟩
theorem sm_of {a b c : Int} (ha : -(2 ^ 50) ≤ a ∧ a ≤ 2 ^ 50) (hb : -(2 ^ 50) ≤ b ∧ b ≤ 2 ^ 50) (hc : -(2 ^ 50) ≤ c ∧ c ≤ 2 ^ 50) (hr : -(2 ^ 50) ≤ Builtin.Range.rangeSize a b c ∧ Builtin.Range.rangeSize a b c ≤ 2 ^ 50)
    (h1 : -(2 ^ 50) ≤ b + (c - 1) ∧ b + (c - 1) ≤ 2 ^ 50) (h2 : -(2 ^ 50) ≤ b + (c + 1) ∧ b + (c + 1) ≤ 2 ^ 50) : Builtin.Range.small a b c = true := by
  have e : (if c > 0 then Builtin.Range.rangeFitsLong (b + (c - 1)) else Builtin.Range.rangeFitsLong (b + (c + 1))) = true := by
    split
    · exact fl_ h1
    · exact fl_ h2
  unfold Builtin.Range.small
  rw [fl_ ha, fl_ hb, fl_ hc, fl_ hr, e, Bool.or_true]; rfl
theorem rangeL_len (a b c : Int) (hc : okStep c) (ha : small a) (hb : small b) : ((rangeL a b c).length : Int) = Builtin.Range.rangeSize a b c ∧ Builtin.Range.small a b c = true ∧ ∀ (i : Nat) (z : Int), (rangeL a b c)[i]? = some z → z = a + i * c := by
  unfold small at ha hb
  rcases hc with rfl | rfl | rfl
  · rw [rangeL1]
    exact ⟨by rw [rangeSize_one, List.length_map, List.length_range, r1_], small_one (Int.le_of_lt (Int.lt_trans (by decide) ha.1)) (Int.lt_trans ha.2 (by decide)) (Int.le_of_lt (Int.lt_trans (by decide) hb.1)) (Int.lt_trans hb.2 (by decide)), fun i z h => by rw [rangeL_at h, Int.mul_one]⟩
  · rw [rangeL2]
    refine ⟨by rw [rs2, List.length_map, List.length_range, r2_], ?_, fun i z h => by rw [rangeL_at h, Int.mul_comm]⟩
    exact sm_of ⟨by omega, by omega⟩ ⟨by omega, by omega⟩ (by decide) (by rw [rs2]; split <;> exact ⟨by omega, by omega⟩) ⟨by omega, by omega⟩ ⟨by omega, by omega⟩
  · rw [rangeL3]
    refine ⟨by rw [rs3, List.length_map, List.length_range, r3_], ?_, fun i z h => by rw [rangeL_at h, Int.mul_neg, Int.mul_one]; rfl⟩
    exact sm_of ⟨by omega, by omega⟩ ⟨by omega, by omega⟩ (by decide) (by rw [rs3, Int.ediv_one]; split <;> exact ⟨by omega, by omega⟩) ⟨by omega, by omega⟩ ⟨by omega, by omega⟩
section
variable {prog : Program} {w : World} {K : Frag} {hB : Heap} {n : Nm} {env : Env} {A : Around} {x y z : Sta} {l : List AV} {s : Shared} {N : Nat} {C : CallT} {own : List Nat}
noncomputable def ItrO (prog : Program) (w : World) (A : Around) (x : Sta) (s : Shared) (vv : Value) (xs : List AV) : Prop := ∀ (Qr : Value → Shared → Prop), (∀ I fp P T h1, Itr prog w A x I xs fp P T → x.h.get? I = none → (∀ b o, x.h.get? b = some o → h1.get? b = some o) → T 0 h1 → Qr (.ref I) { s with heap := h1 }) → wpAny (model prog w) A (pyIter vv) Qr EF s
theorem iter_open (hh : A.handled = none) (P : St prog w hB x.g x.ρ x.σ x.h) (hs : s.heap = x.h) {v : AV} {vv : Value} (r : VRx x v vv) {Q : List AV → Prop} (h : itsA v Q) :
    ∃ xs, Q xs ∧ xs.length < 2 ^ 20 ∧ (∀ av ∈ xs, av.refs = []) ∧ ItrO prog w A x s vv xs := by
  have hI : x.h.get? x.h.objs.size = none := Heap.get?_none_of_le (Nat.le_refl _)
  have lst : ∀ (a : Addr) (vs : Array Value) (xs : List AV), x.h.IsList a vs → (∃ o, x.g.get? a = some o) → xs.length = vs.size → (∀ (i : Nat) v av, vs[i]? = some v → xs[i]? = some av → VRx x av v) →
      ItrO prog w A x s (.ref a) xs := by
    intro a vs xs hl hg hz hv Qr k
    refine wpAny_pyIter_list (hs ▸ hl) ?_
    have ha : a ≠ x.h.objs.size := fun q => by obtain ⟨o, e⟩ := hg; have := P.sub _ _ e; rw [q, hI] at this; cases this
    have hW := Walks.list (prog := prog) (w := w) hh x.h.objs.size a ha vs
    rw [hs]
    refine k x.h.objs.size _ _ _ _ ⟨hz ▸ hW, fun b hb => ?_, fun i v av e1 e2 => hv i v av e1 e2, fun i h t => ?_⟩ hI (fun b o e => Heap.get?_push_of_some _ e) ⟨⟨_, Heap.get?_push_size _ rfl, rfl, rfl⟩, hl.push _⟩
    · simp at hb; rcases hb with rfl | rfl
      · exact .inl rfl
      · exact .inr hg
    · obtain ⟨o, e, _⟩ := t.1; exact ⟨o, e⟩
  unfold itsA at h
  split at h
  · rename_i ys
    obtain ⟨hz, q⟩ := h
    obtain ⟨a, ob, vs, nn, as, rfl, h1, h2, h3, h4⟩ := r.lst
    have hl := ra_len h4
    rw [Array.length_toList] at hl
    refine ⟨_, q, by rw [List.length_map]; omega, (fun av hav => by obtain ⟨_, _, rfl⟩ := List.mem_map.mp hav; rfl), lst a vs _ ⟨ob, P.sub _ _ h1, h2, nn, h3⟩ ⟨_, h1⟩ (by rw [List.length_map, hl]) fun i v av e1 e2 => ?_⟩
    rw [List.getElem?_map] at e2
    obtain ⟨d, e3, rfl⟩ := Option.map_eq_some_iff.mp e2
    obtain ⟨v', bs, e4, r'⟩ := readsAll_get h4 e3
    rw [Array.getElem?_toList, e1] at e4; cases e4
    exact .d r'
  · rename_i ys
    obtain ⟨hz, q⟩ := h
    obtain ⟨a, ob, vs, nn, as, rfl, h1, h2, h3, h4⟩ := r.tup
    have hl := ra_len h4
    rw [Array.length_toList] at hl
    refine ⟨_, q, by rw [List.length_map]; omega, (fun av hav => by obtain ⟨_, _, rfl⟩ := List.mem_map.mp hav; rfl), fun Qr k => ?_⟩
    have ht : x.h.IsTuple a vs := ⟨ob, P.sub _ _ h1, h2, nn, h3⟩
    refine wpAny_pyIter_tuple (hs ▸ ht) ?_
    have ha : a ≠ x.h.objs.size := fun q => by have := P.sub _ _ h1; rw [q, hI] at this; cases this
    have hW := Walks.tuple (prog := prog) (w := w) hh x.h.objs.size a ha vs
    rw [hs]
    have hl2 : vs.size = (List.map AV.d ys).length := by rw [List.length_map, ← hl]
    refine k x.h.objs.size _ _ _ _ ⟨hl2 ▸ hW, fun b hb => ?_, fun i v av e1 e2 => ?_, fun i h t => ?_⟩ hI (fun b o e => Heap.get?_push_of_some _ e) ⟨⟨_, Heap.get?_push_size _ rfl, rfl, rfl⟩, ht.at fun o e => Heap.get?_push_of_some _ e⟩
    · simp at hb; rcases hb with rfl | rfl
      · exact .inl rfl
      · exact .inr ⟨_, h1⟩
    · rw [List.getElem?_map] at e2
      obtain ⟨d, e3, rfl⟩ := Option.map_eq_some_iff.mp e2
      obtain ⟨v', bs, e4, r'⟩ := readsAll_get h4 e3
      rw [Array.getElem?_toList, e1] at e4; cases e4
      exact .d r'
    · obtain ⟨o, e, _⟩ := t.1; exact ⟨o, e⟩
  · rename_i fs
    obtain ⟨hz, q⟩ := h
    obtain ⟨a, items, nn, rfl, h1, h2⟩ := r.fnl
    have hl : fs.length = items.size := by have := congrArg List.length h2; simpa using this
    refine ⟨_, q, by rw [List.length_map]; omega, (fun av hav => by obtain ⟨_, _, rfl⟩ := List.mem_map.mp hav; rfl), lst a items _ ⟨_, P.sub _ _ h1, rfl, nn, rfl⟩ ⟨_, h1⟩ (by rw [List.length_map, hl]) fun i v av e1 e2 => ?_⟩
    rw [List.getElem?_map] at e2
    obtain ⟨d, e3, rfl⟩ := Option.map_eq_some_iff.mp e2
    have e4 : (fs.map gloV)[i]? = (items.toList.map some)[i]? := by rw [h2]
    rw [List.getElem?_map, List.getElem?_map, e3, Array.getElem?_toList, e1] at e4
    simp at e4
    exact .fn e4
  · rename_i a b c
    obtain ⟨ad, t, u, v, rfl, h1, h2, h3, h4⟩ := r.rg
    obtain ⟨z1, z2, z3⟩ := rangeL_len a b c h4 h2 h3
    obtain ⟨hz, h⟩ := h
    refine ⟨_, h, by rw [List.length_map]; exact hz, (fun av hav => by obtain ⟨_, _, rfl⟩ := List.mem_map.mp hav; rfl), fun Qr k => ?_⟩
    · have hr : IsRange s.heap ad a b c t u v := hs ▸ (isRange_keeps P.sub h1)
      refine wpAny_pyIter_range hr z2 ?_
      have hW := Walks.range (prog := prog) (w := w) hh x.h.objs.size a c (rangeL a b c).length
      rw [hs]
      refine k x.h.objs.size _ _ _ _ ⟨(List.length_map (as := rangeL a b c) (f := fun i => AV.d (.int i))).symm ▸ hW, fun b hb => ?_, fun i v av e1 e2 => ?_, fun i h t => ⟨_, t⟩⟩ hI (fun b o e => Heap.get?_push_of_some _ e) ?_
      · simp at hb; exact .inl hb
      · rw [List.getElem?_map] at e2
        obtain ⟨d, e3, rfl⟩ := Option.map_eq_some_iff.mp e2
        obtain ⟨t, rfl⟩ := e1
        rw [z3 i d e3]
        exact .ofInt _ _
      · show Heap.get? _ _ = _
        have e1 : a + ((0 : Nat) : Int) * c = a := by simp
        have e2 : ((List.map (fun i => AV.d (PyData.int i)) (rangeL a b c)).length : Int) - ((0 : Nat) : Int) = Builtin.Range.rangeSize a b c := by rw [List.length_map, z1]; simp
        rw [e1, e2]
        exact Heap.get?_push_size _ rfl
  · exact h.elim
theorem VR.flat {g g' : Heap} {ρ ρ' : Nat → Addr} {σ σ' : H} (hg : ∀ b o, g.get? b = some o → g'.get? b = some o) {a : AV} {v : Value} (hr : a.refs = []) (h : VR g ρ σ a v) : VR g' ρ' σ' a v := by
  cases h with
  | un => exact .un
  | d r => exact .d (Reads.keeps hg r)
  | obj e => simp [AV.refs] at hr
  | ins e hx => simp [AV.refs] at hr
  | fn e => exact .fn e
  | fns e1 e2 => exact .fns (hg _ _ e1) e2
  | rng e a b c => exact .rng (isRange_keeps hg e) a b c
structure Hid (I : Addr) (y : Sta) : Prop where
  g : y.g.get? I = none
  un : Unown y I
theorem LR.quiet (X : LR hB n env x l) {h' : Heap} {I : Addr} (hk : ∀ a o, a ≠ I → x.h.get? a = some o → h'.get? a = some o) (hX : ¬ frX env I) : LR hB n env { x with h := h' } l where
  kind := X.kind
  scope := X.scope
  ns := by
    obtain ⟨m, h1, h2⟩ := X.ns
    exact ⟨m, h1.at' fun o e => hk _ o (fun q => hX (.inl q.symm)) e, h2⟩
  lout := X.lout
  lup := X.lup
  lown := X.lown
  cells := fun i av nm a b c d => by
    obtain ⟨cc, v, e1, ⟨o, ho, hd⟩, e3⟩ := X.cells i av nm a b c d
    exact ⟨cc, v, e1, ⟨o, hk _ o (fun q => hX (.inr ⟨_, mem_of_lookup e1, q⟩)) ho, hd⟩, e3⟩
  cin := fun nm c hm => by
    obtain ⟨h1, h2, v, o, ho, hd⟩ := X.cin nm c hm
    exact ⟨h1, h2, v, o, hk _ o (fun q => hX (.inr ⟨_, hm, q⟩)) ho, hd⟩
  capart := X.capart
  chas := X.chas
theorem Inv.quiet (X : Inv prog w hB n env x l) {h' : Heap} {I : Addr} (H : Hid I x) (hk : ∀ a o, a ≠ I → x.h.get? a = some o → h'.get? a = some o) (hX : ¬ frX env I) : Inv prog w hB n env { x with h := h' } l :=
  ⟨X.st.quiet hk H.g H.un, X.lr.quiet hk hX⟩
theorem Mv.fresh {x0 : Sta} (m : Mv own env x0 y) {h' : Heap} {I : Addr} (hI : x0.h.get? I = none) (hk : ∀ a o, a ≠ I → y.h.get? a = some o → h'.get? a = some o) : Mv own env x0 { y with h := h' } where
  soft := ⟨m.soft.sub, fun a e => by
      have hne : a ≠ I := fun q => by rw [q, hI] at e; cases e
      obtain ⟨o, ho⟩ := Option.isSome_iff_exists.mp (m.soft.live a e)
      show (h'.get? a).isSome = true
      rw [hk a o hne ho]; rfl, fun a o hX e hu => hk a o (fun q => by rw [q, hI] at e; cases e) (m.soft.pres a o hX e hu), m.soft.new, m.soft.gnew⟩
  ent := fun x00 E S L => by
    have hI0 : x00.h.get? I = none := dead ((S L).live I) hI
    have T := m.ent x00 E S L
    exact ⟨T.grow, fun a e => by
      have hne : a ≠ I := fun q => by rw [q, hI0] at e; cases e
      obtain ⟨o, ho⟩ := Option.isSome_iff_exists.mp (T.live a e)
      show (h'.get? a).isSome = true
      rw [hk a o hne ho]; rfl, fun a o hL e hu => hk a o (fun q => by rw [q, hI0] at e; cases e) (T.pres a o hL e hu), T.new, T.gnew⟩
theorem Hid.mv {I : Addr} (H : Hid I y) {o : Obj} (e : y.h.get? I = some o) (hX : ¬ frX env I) (m : Mv own env y z) : Hid I z ∧ z.h.get? I = some o := by
  refine ⟨⟨?_, fun k hk q => ?_⟩, m.soft.pres I o hX e H.un⟩
  · cases q : z.g.get? I with
    | none => rfl
    | some o' =>
      rcases m.soft.gnew I o' q with ⟨o'', h⟩ | h | ⟨k, h1, h2⟩
      · rw [H.g] at h; cases h
      · rw [e] at h; cases h
      · exact absurd h2 (H.un k h1)
  · rcases m.soft.new k hk with ⟨h1, h2⟩ | h
    · exact H.un k h1 (h2.symm.trans q)
    · rw [q, e] at h; cases h
theorem Itr.keep {x0 : Sta} {I : Addr} {xs : List AV} {fp : List Addr} {P : Nat → Value → Prop} {T : Nat → Heap → Prop} (X : Itr prog w A x0 I xs fp P T) (hg : ∀ a o, x0.g.get? a = some o → y.g.get? a = some o) (Py : St prog w hB y.g y.ρ y.σ y.h) (Pz : St prog w hB z.g z.ρ z.σ z.h) {i : Nat}
    (H : Hid I y) (hX : ¬ frX env I) (m : Mv own env y z) (t : T i y.h) : Hid I z ∧ T i z.h := by
  obtain ⟨o, e⟩ := X.live i _ t
  obtain ⟨H', e'⟩ := H.mv e hX m
  refine ⟨H', X.W.frame i _ _ t fun b hb ob hob => ?_⟩
  rcases X.fp b hb with rfl | ⟨o2, h2⟩
  · rw [e] at hob; cases hob; exact e'
  · have h3 := hg _ _ h2
    have h4 := Py.sub _ _ h3
    rw [h4] at hob; cases hob
    exact Pz.sub _ _ (m.soft.sub _ _ h3)
theorem not_frX (X : LR hB n env x l) {I : Addr} (hI : x.h.get? I = none) : ¬ frX env I := by
  rintro (h | ⟨p, hp, h⟩)
  · obtain ⟨m, hn, _⟩ := X.ns
    exact ns_live hn (h ▸ hI)
  · obtain ⟨_, _, v, o, ho, _⟩ := X.cin p.1 p.2 hp
    rw [h, hI] at ho; cases ho
theorem hid_new (P : St prog w hB x.g x.ρ x.σ x.h) {I : Addr} (hI : x.h.get? I = none) : Hid I x := by
  refine ⟨?_, fun k hk q => ?_⟩
  · cases q : x.g.get? I with
    | none => rfl
    | some o => have := P.sub _ _ q; rw [hI] at this; cases this
  · obtain ⟨ob, e⟩ := P.ownLive hk
    rw [q, hI] at e; cases e
end
end Mine
end
section
open PySem PySem.W PyProof.Rows
namespace Mine
open PySem PySem.Calls
inductive FlR (y : Sta) : Fl → Flow → Prop
  | next : FlR y .next .next
  | cont : FlR y .cont .cont
  | ret {v vv} : VRx y v vv → FlR y (.ret v) (.ret vv)
noncomputable abbrev ConX (prog : Program) (w : World) (hB : Heap) (n : Nm) (env : Env) (own : List Nat) (x : Sta) (s : Shared) (Q : Fl → List AV → H → Prop) (Qr : Flow → Shared → Prop) : Prop :=
  ∀ f fl l' y tk, FlR y f fl → St prog w hB y.g y.ρ y.σ y.h → ((∀ v, f ≠ .ret v) → Inv prog w hB n env y l') → Mv own env x y → Q f l' y.σ → Qr fl { s with heap := y.h, toks := tk }
noncomputable def XS (prog : Program) (w : World) (hB : Heap) (N : Nat) (C : CallT) (own : List Nat) (b : S) : Prop := ∀ (n : Nm) (env : Env) (body : List Stmt) (l : List AV) (Q : Fl → List AV → H → Prop) (A : Around) (x : Sta) (s : Shared) (Qr : Flow → Shared → Prop),
  FrOK n env → mS n b body = true → Rb A N → Inv prog w hB n env x l → s.heap = x.h → ex tb C own b l x.σ Q → ConX prog w hB n env own x s Q Qr → wpAny (model prog w) A (execs body env) Qr EF s
noncomputable def PA (prog : Program) (w : World) (hB : Heap) (N : Nat) (C : CallT) (e : E) : Prop := ∀ (n : Nm) (env : Env) (a : PySem.Expr) (l : List AV) (Q : AV → H → Prop) (A : Around) (x : Sta) (s : Shared) (own : List Nat) (i : Nat) (nm : Str) (px pos : Pos) (Qr : Flow → Shared → Prop),
  FrOK n env → isSto n i nm = true → mE n e a = true → Rb A N → Inv prog w hB n env x l → s.heap = x.h → ev tb C e l x.σ Q →
  (∀ av y tk, Inv prog w hB n env y (l.set i av) → Mv own env x y → Q av y.σ → Qr .next { s with heap := y.h, toks := tk }) → wpAny (model prog w) A (exec (.Assign [.Name nm px] a pos) env) Qr EF s
noncomputable def plainC (x : PySem.Expr) : Bool := @PySem.Expr.casesOn (fun _ => Bool) x (fun _ _ _ => true) (fun _ _ _ => true) (fun _ _ _ _ => true) (fun _ _ _ => true) (fun _ _ _ _ => true) (fun _ _ _ _ => true) (fun _ _ _ => true) (fun _ _ _ => true) (fun _ _ _ _ => false) (fun _ _ _ _ => false) (fun _ _ _ _ _ => false) (fun _ _ _ _ => true) (fun _ _ => true) (fun _ _ => true) (fun _ _ => true) (fun _ _ _ _ => true) (fun _ _ _ _ => true) (fun _ _ _ _ => true) (fun _ _ => true) (fun _ _ _ => true) (fun _ _ _ => true) (fun _ _ _ => true) (fun _ _ => true) (fun _ _ => true) (fun _ _ => true) (fun _ _ _ => true) (fun _ _ _ _ => true)
theorem plainC_of {n : Nm} {e : E} {a : PySem.Expr} (h : mE n e a = true) (hc : isComp a = false) : plainC a = true := by
  revert hc
  cases e with
  | con => exact vCon_i h fun _ _ _ _ _ => rfl
  | loc => exact vNm_i h fun _ _ _ _ => rfl
  | glo => exact vNm_i h fun _ _ _ _ => rfl
  | attr => exact vAt_i h fun _ _ _ _ _ => rfl
  | bin => exact vBin_i h fun _ _ _ _ _ _ => rfl
  | neg => exact vUn_i h fun _ _ _ _ _ => rfl
  | not => exact vUn_i h fun _ _ _ _ _ => rfl
  | cmp => exact vCmp_i h fun _ _ _ _ _ _ => rfl
  | bop => exact vBo_i h fun _ _ _ _ _ => rfl
  | ife => exact vIf_i h fun _ _ _ _ _ _ => rfl
  | sub => exact vSub_i h fun _ _ _ _ _ => rfl
  | slc => exact vSub_i h fun _ _ _ _ _ => rfl
  | tup => exact vTup_i h fun _ _ _ _ _ => rfl
  | lst => exact vLst_i h fun _ _ _ _ => rfl
  | dic => exact vDic_i h fun _ _ _ _ _ => rfl
  | call => exact vCal_i h fun _ _ _ _ _ _ => rfl
  | meth => exact vCal_i h fun _ _ _ _ _ _ => rfl
  | bm => exact vCal_i h fun _ _ _ _ _ _ => rfl
  | comp => exact vCom_i h fun _ _ _ _ _ hc => ft hc.symm
  | no => exact ft h
  | nil => exact ft h
  | cons => exact ft h
theorem swaps_plain {a : PySem.Expr} (h : plainC a = true) (t : Option PySem.Expr) (ln : Nat) (env : Env) : swapsWith a t ln env = pure false := by
  cases a <;> first | rfl | exact ft h
theorem aug_plain {i : PySem.Expr} (h : plainS i = true) (ov iv new : Value) : augStore i ov iv new = (do holding [new, ov, iv] (setItem ov iv new); release [new, ov, iv] []; pure .next) := by
  cases i <;> first | rfl | exact ft h
theorem folded_plain {a : PySem.Expr} (h : plainS a = true) (env : Env) (v : Value) : foldedSetIterable a env v = pure v := by
  cases a <;> first | rfl | exact ft h
section
variable {prog : Program} {w : World} {K : Frag} {hB : Heap} {n : Nm} {env : Env} {A : Around} {x y z : Sta} {l : List AV} {s : Shared} {N : Nat} {C : CallT} {own : List Nat} {Q : Fl → List AV → H → Prop} {Qr : Flow → Shared → Prop}
theorem anyE {α : Type} {m : Sem α} {Q : α → Shared → Prop} {E : Value → Shared → Prop} (h : wpAny (model prog w) A m Q EF s) : wpAny (model prog w) A m Q E s := wpAny_mono h (fun _ _ q => q) fun _ _ f => f.elim
theorem ConX.trans {tk : Nat} (k : ConX prog w hB n env own x s Q Qr) (S : Mv own env x y) : ConX prog w hB n env own y { s with heap := y.h, toks := tk } Q Qr :=
  fun f fl l' z tk' r P I m q => k f fl l' z tk' r P I (S.trans m) q
theorem PA.of {e : E} (hp : ∀ n a, mE n e a = true → isComp a = false) (h : PE prog w hB N C e) : PA prog w hB N C e := fun n env a l Q A x s own i nm px pos Qr F hi m R I hs he k => by
  refine wpAny_Assign_Name ?_ (swaps_plain (plainC_of m (hp n a m)) _ _ _)
  refine h n env a l _ A x s _ F m R I hs he fun av v y tk I1 S1 r1 q1 => ?_
  exact store_loc (own := own) (s := { s with heap := y.h, toks := tk }) F I1 rfl hi r1 fun h' tk' I2 M2 => k av _ tk' I2 ((Mv.ofStep S1).trans M2) q1
theorem xs_done : XS prog w hB N C own .done := fun n env body l Q A x s Qr F m R I hs he k => by
  refine isE_i m ?_
  refine wpAny_execs_nil ?_
  have h := k .next .next l x s.toks .next I.st (fun _ => I) (Mv.refl x) he
  rw [← hs] at h; exact h
theorem nt : ∀ {b : Bool}, (!b) = true → b = false
  | false, _ => rfl
  | true, h => ft h
theorem mS_asg {i : Nat} {e : E} {r : S} {body : List Stmt} (m : mS n (.asg i e r) body = true) : ∃ nm px e' p rest, body = .Assign [.Name nm px] e' p :: rest ∧ isSto n i nm = true ∧ mE n e e' = true ∧ mS n r rest = true := by
  refine onC_i m fun st rest m => ?_
  refine sAsg_i m fun ts v p m => ?_
  refine on1_i m fun t m => ?_
  refine vNm_i m fun nm px m => ?_
  exact ⟨_, _, _, _, _, rfl, al (al m), ar (al m), ar m⟩
theorem mS_asga {o e : E} {a : Nat} {r : S} {body : List Stmt} (m : mS n (.asga o a e r) body = true) : ∃ o' nm px e' p rest, body = .Assign [.Attribute o' nm px] e' p :: rest ∧ mE n o o' = true ∧ isAtt n a nm = true ∧ mE n e e' = true ∧ notSuper o' = true ∧ isComp e' = false ∧ mS n r rest = true := by
  refine onC_i m fun st rest m => ?_
  refine sAsg_i m fun ts v p m => ?_
  refine on1_i m fun t m => ?_
  refine vAt_i m fun o' nm px m => ?_
  exact ⟨_, _, _, _, _, _, rfl, al (al (al (al (al m)))), ar (al (al (al (al m)))), ar (al (al (al m))), ar (al (al m)), nt (ar (al m)), ar m⟩
theorem mS_asgs {o i e : E} {r : S} {body : List Stmt} (m : mS n (.asgs o i e r) body = true) : ∃ o' i' px e' p rest, body = .Assign [.Subscript o' i' px] e' p :: rest ∧ mE n o o' = true ∧ mE n i i' = true ∧ mE n e e' = true ∧ isComp e' = false ∧ mS n r rest = true := by
  refine onC_i m fun st rest m => ?_
  refine sAsg_i m fun ts v p m => ?_
  refine on1_i m fun t m => ?_
  refine vSub_i m fun o' i' px m => ?_
  exact ⟨_, _, _, _, _, _, rfl, al (al (al (al m))), ar (al (al (al m))), ar (al (al m)), nt (ar (al m)), ar m⟩
theorem mS_unp {i j : Nat} {e : E} {r : S} {body : List Stmt} (m : mS n (.unp i j e r) body = true) : ∃ x p1 y p2 k p3 f xs kw pc p rest, body = .Assign [.Tuple [.Name x p1, .Name y p2] k p3] (.Call f xs kw pc) p :: rest ∧ isSto n i x = true ∧ isSto n j y = true ∧ i ≠ j ∧ mE n e (.Call f xs kw pc) = true ∧ mS n r rest = true := by
  refine onC_i m fun st rest m => ?_
  refine sAsg_i m fun ts v p m => ?_
  refine on1_i m fun t m => ?_
  refine vTup_i m fun es k p3 m => ?_
  refine onC_i m fun a es' m => ?_
  refine on1_i m fun b m => ?_
  refine vNm_i m fun x p1 m => ?_
  refine vNm_i m fun y p2 m => ?_
  refine vCal_i m fun f xs kw pc m => ?_
  exact ⟨_, _, _, _, _, _, _, _, _, _, _, _, rfl, al (al (al (al m))), ar (al (al (al m))), of_decide_eq_false (nt (ar (al (al m)))), ar (al m), ar m⟩
theorem mS_aug {i : Nat} {op : Operator} {e : E} {r : S} {body : List Stmt} (m : mS n (.aug i op e r) body = true) : ∃ nm px e' p rest, body = .AugAssign (.Name nm px) op e' p :: rest ∧ isSto n i nm = true ∧ mE n e e' = true ∧ mS n r rest = true := by
  refine onC_i m fun st rest m => ?_
  refine sAug_i m fun t op' v p m => ?_
  refine vNm_i m fun nm px m => ?_
  have e := dq (ar (al (al m)))
  subst e
  exact ⟨_, _, _, _, _, rfl, al (al (al m)), ar (al m), ar m⟩
theorem mS_augs {o i : E} {op : Operator} {e : E} {r : S} {body : List Stmt} (m : mS n (.augs o i op e r) body = true) : ∃ o' i' px e' p rest, body = .AugAssign (.Subscript o' i' px) op e' p :: rest ∧ mE n o o' = true ∧ mE n i i' = true ∧ mE n e e' = true ∧ mS n r rest = true := by
  refine onC_i m fun st rest m => ?_
  refine sAug_i m fun t op' v p m => ?_
  refine vSub_i m fun o' i' px m => ?_
  have e := dq (ar (al (al m)))
  subst e
  exact ⟨_, _, _, _, _, _, rfl, al (al (al (al m))), ar (al (al (al m))), ar (al m), ar m⟩
theorem mS_exp {e : E} {r : S} {body : List Stmt} (m : mS n (.exp e r) body = true) : ∃ e' p rest, body = .Expr e' p :: rest ∧ mE n e e' = true ∧ isComp e' = false ∧ mS n r rest = true := by
  refine onC_i m fun st rest m => ?_
  refine sExp_i m fun v p m => ?_
  exact ⟨_, _, _, rfl, al (al m), nt (ar (al m)), ar m⟩
theorem mS_ite {c : E} {a b r : S} {body : List Stmt} (m : mS n (.ite c a b r) body = true) : ∃ c' a' b' p rest, body = .If c' a' b' p :: rest ∧ mE n c c' = true ∧ mS n a a' = true ∧ mS n b b' = true ∧ mS n r rest = true := by
  refine onC_i m fun st rest m => ?_
  refine sIf_i m fun c' a' b' p m => ?_
  exact ⟨_, _, _, _, _, rfl, al (al (al m)), ar (al (al m)), ar (al m), ar m⟩
theorem mS_whl {c : E} {b r : S} {body : List Stmt} (m : mS n (.whl c b r) body = true) : ∃ c' b' p rest, body = .While c' b' [] p :: rest ∧ mE n c c' = true ∧ mS n b b' = true ∧ mS n r rest = true := by
  refine onC_i m fun st rest m => ?_
  refine sWh_i m fun c' b' o p m => ?_
  refine isE_i (al (al (al m))) ?_
  exact ⟨_, _, _, _, rfl, ar (al (al m)), ar (al m), ar m⟩
theorem mS_for {i : Nat} {src : E} {b r : S} {body : List Stmt} (m : mS n (.for i src b r) body = true) : ∃ nm px c' b' p rest, body = .For (.Name nm px) c' b' [] p :: rest ∧ isSto n i nm = true ∧ mE n src c' = true ∧ mS n b b' = true ∧ mS n r rest = true := by
  refine onC_i m fun st rest m => ?_
  refine sFor_i m fun t c' b' o p m => ?_
  refine vNm_i m fun nm px m => ?_
  refine isE_i (al (al (al (al m)))) ?_
  exact ⟨_, _, _, _, _, _, rfl, ar (al (al (al m))), ar (al (al m)), ar (al m), ar m⟩
theorem mS_ret {e : E} {dr : List Nat} {body : List Stmt} (m : mS n (.ret e dr) body = true) : ∃ e' p rest, body = .Return (some e') p :: rest ∧ mE n e e' = true := by
  refine onC_i m fun st rest m => ?_
  refine sRet_i m fun v p m => ?_
  refine onO_i m fun v m => ?_
  exact ⟨_, _, _, rfl, m⟩
theorem mS_cont {body : List Stmt} (m : mS n .cont body = true) : ∃ p rest, body = .Continue p :: rest := by
  refine onC_i m fun st rest m => ?_
  refine sCon_i m fun p m => ?_
  exact ⟨_, _, rfl⟩
theorem xs_asg {e : E} {r : S} (i : Nat) (h : PA prog w hB N C e) (hr : XS prog w hB N C own r) : XS prog w hB N C own (.asg i e r) := fun n env body l Q A x s Qr F m R I hs he k => by
  obtain ⟨nm, px, e', p, rest, rfl, m1, m2, m3⟩ := mS_asg m
  refine wpAny_execs_cons ?_
  refine h n env _ l _ A x s own i _ _ _ _ F m1 m2 R I hs he fun av y tk I1 M1 q1 => ?_
  exact hr n env _ _ _ A y _ _ F m3 R I1 rfl q1 (ConX.trans k M1)
theorem xs_asga (W : SW K hB) {o e : E} {r : S} (a : Nat) (ho : PE prog w hB N C o) (h : PE prog w hB N C e) (hr : XS prog w hB N C own r) : XS prog w hB N C own (.asga o a e r) := fun n env body l Q A x s Qr F m R I hs he k => by
  obtain ⟨o', nm, px, e', p, rest, rfl, m1, m2, m3, m4, m5, m6⟩ := mS_asga m
  refine wpAny_execs_cons ?_
  refine plainObj_wpAny_Assign_Attribute ?_ (swaps_plain (plainC_of m3 m5) _ _ _)
  refine h n env _ l _ A x s _ F m3 R I hs he fun av v y tk I1 S1 r1 q1 => ?_
  refine ho n env _ l _ A y _ _ F m1 R I1 rfl q1 fun ov vo y2 tk2 I2 S2 r2 q2 => ?_
  refine asgaA_sound (s := { s with heap := y2.h, toks := tk2 }) W I2 rfl (isAtt_spec F m2) r2 (r1.step S2) q2 fun y3 tk3 I3 S3 q3 => ?_
  exact hr n env _ _ _ A y3 _ _ F m6 R I3 rfl q3 (ConX.trans k (Mv.ofStep ((S1.trans S2).trans S3)))
theorem xs_asgs (W : SW K hB) {o i e : E} {r : S} (ho : PE prog w hB N C o) (hi : PE prog w hB N C i) (h : PE prog w hB N C e) (hr : XS prog w hB N C own r) : XS prog w hB N C own (.asgs o i e r) := fun n env body l Q A x s Qr F m R I hs he k => by
  obtain ⟨o', i', px, e', p, rest, rfl, m1, m2, m3, m5, m6⟩ := mS_asgs m
  refine wpAny_execs_cons ?_
  refine wpAny_Assign_Subscript ?_ (swaps_plain (plainC_of m3 m5) _ _ _)
  refine h n env _ l _ A x s _ F m3 R I hs he fun av v y tk I1 S1 r1 q1 => ?_
  refine ho n env _ l _ A y _ _ F m1 R I1 rfl q1 fun ov vo y2 tk2 I2 S2 r2 q2 => ?_
  refine hi n env _ l _ A y2 _ _ F m2 R I2 rfl q2 fun iv vi y3 tk3 I3 S3 r3 q3 => ?_
  refine asgsA_sound (s := { s with heap := y3.h, toks := tk3 }) W R I3 rfl (r2.step S3) r3 ((r1.step S2).step S3) q3 fun y4 tk4 I4 S4 q4 => ?_
  exact hr n env _ _ _ A y4 _ _ F m6 R I4 rfl q4 (ConX.trans k (Mv.ofStep (((S1.trans S2).trans S3).trans S4)))
theorem augA_inv {op : Operator} {P : Prop} (h : augA op P) : op = .Add ∧ P := by
  unfold augA at h
  cases op <;> first | exact ⟨rfl, h⟩ | exact h.elim
theorem xs_aug {e : E} {r : S} (i : Nat) (op : Operator) (h : PE prog w hB N C e) (hr : XS prog w hB N C own r) : XS prog w hB N C own (.aug i op e r) := fun n env body l Q A x s Qr F m R I hs he k => by
  obtain ⟨nm, px, e', p, rest, rfl, m1, m2, m3⟩ := mS_aug m
  refine wpAny_execs_cons ?_
  refine wpAny_AugAssign_Name ?_
  obtain ⟨v, e1, hu, he⟩ := loc_inv he
  refine load_loc I.lr hs (isSto_spec m1).1 e1 hu fun v' r1 => ?_
  refine h n env _ l _ A x s _ F m2 R I hs he fun bv vb y tk I1 S1 r2 q1 => ?_
  obtain ⟨rfl, q1⟩ := augA_inv q1
  refine iadd_sound (s := { s with heap := y.h, toks := tk }) (r1.step S1) r2 q1 fun av' v' tk' r3 q3 => ?_
  refine store_loc (own := own) (s := { s with heap := y.h, toks := tk' }) F I1 rfl m1 r3 fun h' tk2 I2 M2 => ?_
  exact hr n env _ _ _ A _ _ _ F m3 R I2 rfl q3 (ConX.trans k ((Mv.ofStep S1).trans M2))
theorem xs_augs (W : SW K hB) {o i e : E} {r : S} (op : Operator) (ho : PE prog w hB N C o) (hi : PE prog w hB N C i) (h : PE prog w hB N C e) (hr : XS prog w hB N C own r) : XS prog w hB N C own (.augs o i op e r) := fun n env body l Q A x s Qr F m R I hs he k => by
  obtain ⟨o', i', px, e', p, rest, rfl, m1, m2, m3, m6⟩ := mS_augs m
  refine wpAny_execs_cons ?_
  refine wpAny_AugAssign_Subscript_any ?_ (aug_plain (mE_plain _ _ _ m2))
  refine ho n env _ l _ A x s _ F m1 R I hs he fun ov vo y tk I1 S1 r1 q1 => ?_
  refine hi n env _ l _ A y _ _ F m2 R I1 rfl q1 fun iv vi y2 tk2 I2 S2 r2 q2 => ?_
  refine subA_item (s := { s with heap := y2.h, toks := tk2 }) I2.st rfl (r1.step S2) r2 q2 fun zv vz r3 q3 => ?_
  refine h n env _ l _ A y2 _ _ F m3 R I2 rfl q3 fun wv vw y3 tk3 I3 S3 r4 q4 => ?_
  obtain ⟨rfl, q4⟩ := augA_inv q4
  refine iadd_sound (s := { s with heap := y3.h, toks := tk3 }) (r3.step S3) r4 q4 fun av' v' tk' r5 q5 => ?_
  refine asgsA_sound (s := { s with heap := y3.h, toks := tk' }) W R I3 rfl ((r1.step S2).step S3) (r2.step S3) r5 q5 fun y4 tk4 I4 S4 q6 => ?_
  exact hr n env _ _ _ A y4 _ _ F m6 R I4 rfl q6 (ConX.trans k (Mv.ofStep (((S1.trans S2).trans S3).trans S4)))
theorem xs_exp {e : E} {r : S} (h : PE prog w hB N C e) (hr : XS prog w hB N C own r) : XS prog w hB N C own (.exp e r) := fun n env body l Q A x s Qr F m R I hs he k => by
  obtain ⟨e', p, rest, rfl, m1, m2, m3⟩ := mS_exp m
  refine wpAny_execs_cons ?_
  refine wpAny_Expr_any ?_ (by unfold interactive; rw [I.lr.kind]; rfl) (swaps_plain (plainC_of m1 m2) _ _ _)
  refine h n env _ l _ A x s _ F m1 R I hs he fun av v y tk I1 S1 r1 q1 => ?_
  exact hr n env _ _ _ A y _ _ F m3 R I1 rfl q1 (ConX.trans k (Mv.ofStep S1))
theorem xs_ite {c : E} {a b r : S} (hc : PT prog w hB N C c) (ha : XS prog w hB N C own a) (hb : XS prog w hB N C own b) (hr : XS prog w hB N C own r) : XS prog w hB N C own (.ite c a b r) := fun n env body l Q A x s Qr F m R I hs he k => by
  obtain ⟨c', a', b', p, rest, rfl, m1, m2, m3, m4⟩ := mS_ite m
  refine wpAny_execs_cons ?_
  refine wpAny_If ?_
  refine hc n env _ l _ A x s _ F m1 R I hs he fun t y tk I1 S1 q1 => ?_
  have fin : ∀ f fl l' (z : Sta) tk', FlR z f fl → St prog w hB z.g z.ρ z.σ z.h → ((∀ v, f ≠ .ret v) → Inv prog w hB n env z l') → Mv own env y z →
      (match (generalizing := false) f with | .next => ex tb C own r l' z.σ Q | f => Q f l' z.σ) → (match (generalizing := false) fl with | .next => wpAny (model prog w) A (execs rest env) Qr EF { s with heap := z.h, toks := tk' } | fl => Qr fl { s with heap := z.h, toks := tk' }) := by
    intro f fl l' z tk' r1 P1 J1 M1 q2
    cases r1 with
    | next => exact hr n env _ _ _ A z _ _ F m4 R (J1 fun v => by simp) rfl q2 (ConX.trans k ((Mv.ofStep S1).trans M1))
    | cont => exact k .cont _ l' z tk' .cont P1 J1 ((Mv.ofStep S1).trans M1) q2
    | ret rv => exact k _ _ l' z tk' (.ret rv) P1 J1 ((Mv.ofStep S1).trans M1) q2
  cases t with
  | true => exact ha n env _ _ _ A y _ _ F m2 R I1 rfl q1 fun f fl l' z tk' r1 P1 J1 M1 q2 => fin f fl l' z tk' r1 P1 J1 M1 q2
  | false => exact hb n env _ _ _ A y _ _ F m3 R I1 rfl q1 fun f fl l' z tk' r1 P1 J1 M1 q2 => fin f fl l' z tk' r1 P1 J1 M1 q2
theorem xs_cont : XS prog w hB N C own .cont := fun n env body l Q A x s Qr F m R I hs he k => by
  obtain ⟨p, rest, rfl⟩ := mS_cont m
  refine wpAny_execs_cons (wpAny_Continue ?_)
  have h := k .cont .cont l x s.toks .cont I.st (fun _ => I) (Mv.refl x) he
  rw [← hs] at h; exact h
end
end Mine
end
section
open PySem PySem.W PyProof.Rows
namespace Mine
open PySem PySem.Calls
theorem VR.re {g g' : Heap} {ρ : Nat → Addr} {σ σ' : H} (hg : ∀ b o, g.get? b = some o → g'.get? b = some o) {a : AV} {v : Value} (hr : ∀ k ∈ a.refs, (look σ' k).isSome = true) (h : VR g ρ σ a v) : VR g' ρ σ' a v := by
  cases h with
  | un => exact .un
  | d r => exact .d (Reads.keeps hg r)
  | @obj k e => exact .obj (hr k (by simp [AV.refs]))
  | @ins c k x e hx => exact .ins (hr k (by simp [AV.refs])) (hg _ _ hx)
  | fn e => exact .fn e
  | fns e1 e2 => exact .fns (hg _ _ e1) e2
  | rng e a b c => exact .rng (isRange_keeps hg e) a b c
theorem VRs.re {g g' : Heap} {ρ : Nat → Addr} {σ σ' : H} (hg : ∀ b o, g.get? b = some o → g'.get? b = some o) {l : List AV} {vs : List Value} (hr : ∀ a ∈ l, ∀ k ∈ a.refs, (look σ' k).isSome = true) (h : VRs g ρ σ l vs) : VRs g' ρ σ' l vs := by
  induction h with
  | nil => exact .nil
  | cons a b ih => exact .cons (a.re hg (hr _ (.head _))) (ih fun x hx => hr x (.tail _ hx))
theorem lookup_mem {V : Type} : ∀ {l : List (Nat × V)} {a : Nat} {v : V}, l.lookup a = some v → (a, v) ∈ l
  | p :: r, a, v, h => by
    rw [lookup_cons'] at h
    by_cases q : p.1 = a
    · rw [if_pos q] at h; cases h; subst q; exact .head _
    · rw [if_neg q] at h; exact .tail _ (lookup_mem h)
section
variable {prog : Program} {w : World}
theorem OAt.re {g g' h : Heap} {ρ : Nat → Addr} {σ σ' : H} (hg : ∀ b o, g.get? b = some o → g'.get? b = some o) {o : AO} {a : Addr} (hr : ∀ k ∈ o.refs, (look σ' k).isSome = true) (x : OAt prog w g ρ σ h o a) : OAt prog w g' ρ σ' h o a := by
  cases o with
  | dat l => obtain ⟨i, n, as, h1, h2⟩ := x; exact ⟨i, n, as, h1, ReadsAll.keeps hg h2⟩
  | mix l => obtain ⟨i, n, h1, h2⟩ := x; exact ⟨i, n, h1, h2.re hg fun a ha k hk => hr k (by simp only [AO.refs, List.mem_flatMap]; exact ⟨a, ha, hk⟩)⟩
  | ns l =>
    obtain ⟨es, n, h1, h2⟩ := x
    refine ⟨es, n, h1, h2.len, fun a ha => ?_⟩
    have := h2.get a ha
    cases e : l.lookup a with
    | none => rw [e] at this; exact this
    | some av =>
      rw [e] at this; obtain ⟨v, h3, h4⟩ := this
      exact ⟨v, h3, h4.re hg fun k hk => hr k (by simp only [AO.refs, List.mem_flatMap]; exact ⟨_, lookup_mem e, hk⟩)⟩
  | dstr l => exact x
  | dtup l => obtain ⟨xs, h1, h2, h3⟩ := x; exact ⟨xs, h1, h2, fun y hy => isTupleKey_keeps hg (h3 y hy)⟩
  | iset l => exact x
end
theorem look_dels : ∀ {dr : List Nat} {σ : H}, (σ.map (·.1)).Nodup → ∀ j, look (dels σ dr) j = if j ∈ dr then none else look σ j
  | [], σ, nd, j => by simp [dels]
  | k :: r, σ, nd, j => by
    rw [dels, look_dels (del_nodup nd k), look_del nd]
    by_cases h : j ∈ r
    · simp [h]
    · by_cases q : k = j
      · subst q; simp
      · simp [h, q, Ne.symm q]
theorem dels_nodup : ∀ {dr : List Nat} {σ : H}, (σ.map (·.1)).Nodup → ((dels σ dr).map (·.1)).Nodup
  | [], _, nd => nd
  | k :: r, _, nd => dels_nodup (dr := r) (del_nodup nd k)
section
variable {prog : Program} {w : World} {K : Frag} {hB : Heap} {n : Nm} {env : Env} {A : Around} {x y z : Sta} {l : List AV} {s : Shared} {N : Nat} {C : CallT} {own : List Nat} {Q : Fl → List AV → H → Prop} {Qr : Flow → Shared → Prop}
theorem St.drop (P : St prog w hB x.g x.ρ x.σ x.h) (dr : List Nat) (hc : ClosedH (dels x.σ dr)) : St prog w hB x.g x.ρ (dels x.σ dr) x.h := by
  have hl : ∀ j o, look (dels x.σ dr) j = some o → look x.σ j = some o := fun j o e => by
    rw [look_dels P.nd] at e; split at e
    · cases e
    · exact e
  refine ⟨P.base, P.sub, fun j o e => ?_, fun i j hi hj e => ?_, dels_nodup P.nd, P.pin⟩
  · obtain ⟨h1, h2, h3⟩ := P.own j o (hl j o e)
    exact ⟨h1, h2, h3.re (fun _ _ e => e) (hc j o e)⟩
  · obtain ⟨o, ho⟩ := Option.isSome_iff_exists.mp hi
    obtain ⟨o', ho'⟩ := Option.isSome_iff_exists.mp hj
    exact P.inj i j (by rw [hl i o ho]; rfl) (by rw [hl j o' ho']; rfl) e
theorem Mv.drop (P : St prog w hB x.g x.ρ x.σ x.h) (dr : List Nat) (ho : ∀ k ∈ dr, k ∈ own) : Mv own env x { x with σ := dels x.σ dr } where
  soft := ⟨fun _ _ e => e, fun _ e => e, fun _ _ _ e _ => e, fun k e => .inl ⟨by
    rw [look_dels P.nd] at e; split at e
    · cases e
    · exact e, rfl⟩, fun _ _ e => .inl ⟨_, e⟩⟩
  ent := fun x0 E S L => ⟨⟨(S L).grow.sub, fun k e => by
      show (look (dels x.σ dr) k).isSome = true
      rw [look_dels P.nd, if_neg]
      · exact (S L).grow.dom k e
      · exact fun hm => (by rw [E.own k (ho k hm)] at e; cases e), (S L).grow.rho⟩, (S L).live, (S L).pres, fun k e => (S L).new k (by
    have e' : (look (dels x.σ dr) k).isSome = true := e
    rw [look_dels P.nd] at e'; split at e'
    · cases e'
    · exact e'), (S L).gnew⟩
theorem xs_ret {e : E} (dr : List Nat) (h : PE prog w hB N C e) : XS prog w hB N C own (.ret e dr) := fun n env body l Q A x s Qr F m R I hs he k => by
  obtain ⟨e', p, rest, rfl, m1⟩ := mS_ret m
  refine wpAny_execs_cons (wpAny_Return_some ?_)
  refine h n env _ l _ A x s _ F m1 R I hs he fun av v y tk I1 S1 r1 q1 => ?_
  unfold retA at q1
  split at q1
  · exact k _ (.ret v) l y tk (.ret r1) I1.st (fun hv => absurd rfl (hv _)) (Mv.ofStep S1) q1
  · rename_i d ds
    obtain ⟨h1, h2, h3, q⟩ := q1
    exact k _ (.ret v) l { y with σ := dels y.σ (d :: ds) } tk (.ret (r1.re (fun _ _ e => e) h3)) (I1.st.drop _ h2) (fun hv => absurd rfl (hv _)) ((Mv.ofStep S1).trans (Mv.drop I1.st _ h1)) q
theorem xs_frz {r : S} (i : Nat) (hr : XS prog w hB N C own r) : XS prog w hB N C own (.frz i r) := fun n env body l Q A x s Qr F m R I hs he k => by
  have m' : mS n r body = true := by
    cases body with
    | nil => exact m
    | cons => exact m
  cases he with
  | @mk kk xs hi hk ho hloc hcl he =>
    obtain ⟨g1, g2, items, nn, as, g3, g4⟩ := I.st.own kk _ hk
    obtain ⟨g', f1, f2, f3, f4⟩ := grow_one x.g x.h (x.ρ kk) _ I.st.sub g3
    have nd := I.st.nd
    have hl : ∀ j o, look (del x.σ kk) j = some o → j ≠ kk ∧ look x.σ j = some o := fun j o e => by
      rw [look_del nd] at e; split at e
      · cases e
      · rename_i q; exact ⟨Ne.symm q, e⟩
    have hsome : ∀ j, (look (del x.σ kk) j).isSome = true → j ≠ kk ∧ (look x.σ j).isSome = true := fun j e => by
      obtain ⟨o, e'⟩ := Option.isSome_iff_exists.mp e
      obtain ⟨a, b⟩ := hl j o e'
      exact ⟨a, by rw [b]; rfl⟩
    have hback : ∀ j, j ≠ kk → (look x.σ j).isSome = true → (look (del x.σ kk) j).isSome = true := fun j q e => by rw [look_del nd, if_neg (Ne.symm q)]; exact e
    have P : St prog w hB g' x.ρ (del x.σ kk) x.h := by
      refine ⟨fun b o e => f1 b o (I.st.base b o e), f2, fun j o e => ?_, fun a b ha hb e => I.st.inj a b (hsome a ha).2 (hsome b hb).2 e, del_nodup nd kk, (let ⟨a, o, h1, h2⟩ := I.st.pin; ⟨a, o, h1, f1 a o h2⟩)⟩
      obtain ⟨q, e'⟩ := hl j o e
      obtain ⟨h1, h2, h3⟩ := I.st.own j o e'
      refine ⟨?_, h2, h3.re f1 (hcl j o e)⟩
      cases c : g'.get? (x.ρ j) with
      | none => rfl
      | some o' =>
        rcases f4 _ _ c with ⟨o'', d⟩ | d
        · rw [h1] at d; cases d
        · exact absurd (I.st.inj j kk (by rw [e']; rfl) (by rw [hk]; rfl) d) q
    have X := I.lr
    have vre : ∀ {j : Nat} {av : AV} {v : Value}, (l.set i .un)[j]? = some av → VRx x av v → VR g' x.ρ (del x.σ kk) av v := fun {j av v} e r => by
      refine r.re f1 fun k' hk' => ?_
      have hne : k' ≠ kk := fun q => hloc j av e (q ▸ hk')
      refine hback k' hne ?_
      cases r with
      | obj h1 => simp [AV.refs] at hk'; rw [hk']; exact h1
      | ins h1 _ => simp [AV.refs] at hk'; rw [hk']; exact h1
      | _ => simp [AV.refs] at hk'
    have hself : ∀ {v : Value}, VRx x (.obj kk) v → VR g' x.ρ (del x.σ kk) (.d (.list xs)) v := fun {v} r => by
      cases r with
      | obj => exact .d (.list f3 rfl rfl (ReadsAll.keeps f1 g4))
    have gone : ∀ a, a ≠ x.ρ kk → x.g.get? a = none → g'.get? a = none := fun a q e => by
      cases c : g'.get? a with
      | none => rfl
      | some o' =>
        rcases f4 _ _ c with ⟨o'', d⟩ | d
        · rw [e] at d; cases d
        · exact absurd d q
    have pick : ∀ {j : Nat} {av : AV}, (l.set i (.d (.list xs)))[j]? = some av → (j = i ∧ av = .d (.list xs)) ∨ (j ≠ i ∧ l[j]? = some av ∧ (l.set i .un)[j]? = some av) := fun {j av} e => by
      rcases set_get e with h | ⟨h1, h2⟩
      · exact .inl h
      · exact .inr ⟨h1, h2, by rw [List.getElem?_set_ne (Ne.symm h1)]; exact h2⟩
    have I' : Inv prog w hB n env ⟨g', x.ρ, del x.σ kk, x.h⟩ (l.set i (.d (.list xs))) := by
      refine ⟨P, X.kind, X.scope, ?_, ?_, X.lup, fun j e => X.lown j (hsome j e).2, fun j av nm a b c d => ?_, fun nm c hm => ?_, X.capart, X.chas⟩
      · obtain ⟨mm, hn, hv⟩ := X.ns
        refine ⟨mm, hn, fun j av nm a b c d => ?_⟩
        rcases pick a with ⟨rfl, rfl⟩ | ⟨q, a1, a2⟩
        · obtain ⟨v, e, r⟩ := hv j _ nm hi (by simp) c d
          exact ⟨v, e, hself r⟩
        · obtain ⟨v, e, r⟩ := hv j av nm a1 b c d
          exact ⟨v, e, vre a2 r⟩
      · exact gone _ (Ne.symm (X.lown kk (by rw [hk]; rfl))) X.lout
      · rcases pick a with ⟨rfl, rfl⟩ | ⟨q, a1, a2⟩
        · obtain ⟨cc, v, e1, e2, r⟩ := X.cells j _ nm hi (by simp) c d
          exact ⟨cc, v, e1, e2, hself r⟩
        · obtain ⟨cc, v, e1, e2, r⟩ := X.cells j av nm a1 b c d
          exact ⟨cc, v, e1, e2, vre a2 r⟩
      · obtain ⟨h1, h2, v, h3⟩ := X.cin nm c hm
        exact ⟨h1, gone _ (Ne.symm (I.st.ownCell h3 kk (by rw [hk]; rfl))) h2, v, h3⟩
    have M : Mv own env x ⟨g', x.ρ, del x.σ kk, x.h⟩ := by
      refine ⟨⟨f1, fun _ e => e, fun _ _ _ e _ => e, fun j e => .inl ⟨(hsome j e).2, rfl⟩, fun a o e => ?_⟩, fun x0 E S L => ⟨⟨fun a o e => f1 a o ((S L).grow.sub a o e), fun j e => ?_, (S L).grow.rho⟩, (S L).live, (S L).pres, fun j e => (S L).new j (hsome j e).2, fun a o e => ?_⟩⟩
      · rcases f4 a o e with h | h
        · exact .inl h
        · exact .inr (.inr ⟨kk, by rw [hk]; rfl, h.symm⟩)
      · exact hback j (fun q => by rw [q, E.own kk ho] at e; cases e) ((S L).grow.dom j e)
      · rcases f4 a o e with ⟨o', h⟩ | h
        · exact (S L).gnew a o' h
        · subst h
          rcases (S L).new kk (by rw [hk]; rfl) with h | h
          · rw [E.own kk ho] at h; cases h
          · exact .inr h
    exact hr n env body _ _ A _ s _ F m' R I' hs he (by
      have := ConX.trans (tk := s.toks) k M
      rw [show ({ s with heap := x.h, toks := s.toks } : Shared) = s by rw [← hs]] at this
      exact this)
theorem xs_whl {c : E} {b r : S} (hc : PT prog w hB N C c) (hb : XS prog w hB N C own b) (hr : XS prog w hB N C own r) : XS prog w hB N C own (.whl c b r) := fun n env body l Q A x s Qr F m R I hs he k => by
  obtain ⟨c', b', p, rest, rfl, m1, m2, m3⟩ := mS_whl m
  obtain ⟨fuel, he⟩ := he
  refine wpAny_execs_cons (wpAny_While ?_)
  refine codeAny_whileLoop (fun k' s' => Ex3 fun y l' tk => A4 (s' = { s with heap := y.h, toks := tk }) (Inv prog w hB n env y l') (Mv own env x y) <| whA (tst tb C c) (ex tb C own b) k' l' y.σ fun f l' σ' => match f with
      | .next => ex tb C own r l' σ' Q
      | f => Q f l' σ') ?_ fuel ⟨x, l, s.toks, by rw [← hs], I, Mv.refl x, he⟩
  rintro k' s' ⟨y, l', tk, rfl, J, M, hw⟩
  cases k' with
  | zero => exact hw.elim
  | succ k' =>
    refine anyE (hc n env _ l' _ A y _ _ F m1 R J rfl hw fun t z tk2 J2 S2 q2 => ?_)
    cases t with
    | true =>
      simp only at q2
      show wpAny _ _ _ _ _ _
      refine anyE (hb n env _ l' _ A z _ _ F m2 R J2 rfl q2 fun f fl l2 z2 tk3 r3 P3 J3 M3 q3 => ?_)
      have M4 : Mv own env x z2 := (M.trans (Mv.ofStep S2)).trans M3
      cases r3 with
      | next => exact ⟨k', Nat.lt_succ_self _, z2, l2, tk3, rfl, J3 fun v => by simp, M4, q3⟩
      | cont => exact ⟨k', Nat.lt_succ_self _, z2, l2, tk3, rfl, J3 fun v => by simp, M4, q3⟩
      | ret rv => exact k _ _ l2 z2 tk3 (.ret rv) P3 J3 M4 q3
    | false =>
      simp only at q2
      show wpAny _ _ _ _ _ _
      refine wpAny_execs_nil ?_
      exact hr n env _ l' _ A z _ _ F m3 R J2 rfl q2 (ConX.trans k (M.trans (Mv.ofStep S2)))
theorem xs_for {src : E} {b r : S} (i : Nat) (hsrc : PE prog w hB N C src) (hb : XS prog w hB N C own b) (hr : XS prog w hB N C own r) : XS prog w hB N C own (.for i src b r) := fun n env body l Q A x s Qr F m R I hs he k => by
  obtain ⟨nm, px, c', b', p, rest, rfl, m0, m1, m2, m3⟩ := mS_for m
  refine wpAny_execs_cons (wpAny_For ?_ (folded_plain (mE_plain _ _ _ m1) _))
  refine hsrc n env _ l _ A x s _ F m1 R I hs he fun av v x0 tk0 I0 S0 r0 q0 => ?_
  obtain ⟨xs, hq, hz, hflat, op⟩ := iter_open (prog := prog) (w := w) (A := A) (s := { s with heap := x0.h, toks := tk0 }) R.handled I0.st rfl r0 q0
  refine op _ fun It fp P T h1 X hI hk1 t0 => ?_
  have hXf : ¬ frX env It := not_frX I0.lr hI
  have H0 := hid_new I0.st hI
  refine codeAny_forLoop (fun k' s' => Ex4 fun i' y l' tk => A8 (s' = { s with heap := y.h, toks := tk }) (Inv prog w hB n env y l') (Mv own env x0 y) (Hid It y) (T i' y.h) (i' ≤ xs.length) (k' = xs.length + 1 - i') <|
      forA (fun x l σ k => ex tb C own b (l.set i x) σ k) (xs.drop i') l' y.σ fun f l' σ' => match f with
      | .next => ex tb C own r l' σ' Q
      | f => Q f l' σ') ?_ (xs.length + 1) ⟨0, { x0 with h := h1 }, l, tk0, rfl, I0.quiet H0 (fun a o _ e => hk1 a o e) hXf, (Mv.refl x0).fresh hI fun a o _ e => hk1 a o e, ⟨H0.g, H0.un⟩, t0, Nat.zero_le _, by omega, hq⟩
  rintro k' s' ⟨i', y, l', tk, rfl, J, M, H, t, hle, rfl, hw⟩
  by_cases hlt : i' < xs.length
  · refine X.W.item i' _ _ _ hlt t fun v h' tk' hp t' hkp => ?_
    have hkp' : ∀ a o, a ≠ It → y.h.get? a = some o → h'.get? a = some o := fun a o q e => hkp a o (by simpa using q) e
    have hget : xs[i']? = some xs[i'] := List.getElem?_eq_getElem hlt
    rw [List.drop_eq_getElem_cons hlt] at hw
    have J1 := J.quiet H hkp' hXf
    have M1 := M.fresh hI hkp'
    have rv : VRx { y with h := h' } xs[i'] v := by
      exact (X.val i' v _ hp hget).flat M.soft.sub (hflat _ (List.getElem_mem hlt))
    refine wpAny_assign_Name (anyE (store_loc (own := own) (x := { y with h := h' }) (s := { s with heap := h', toks := tk' }) F J1 rfl m0 rv fun h2 tk2 J2 M2 => ?_))
    have K2 := X.keep (i := i' + 1) M1.soft.sub J1.st J2.st ⟨H.g, H.un⟩ hXf M2 t'
    refine anyE (hb n env _ _ _ A { y with h := h2 } _ _ F m2 R J2 rfl hw fun f fl l2 z2 tk3 r3 P3 J3 M3 q3 => ?_)
    have M4 : Mv own env x0 z2 := (M1.trans M2).trans M3
    have K3 := X.keep (i := i' + 1) (M1.trans M2).soft.sub J2.st P3 K2.1 hXf M3 K2.2
    cases r3 with
    | next => exact ⟨xs.length + 1 - (i' + 1), by omega, i' + 1, z2, l2, tk3, rfl, J3 fun v => by simp, M4, K3.1, K3.2, hlt, rfl, q3⟩
    | cont => exact ⟨xs.length + 1 - (i' + 1), by omega, i' + 1, z2, l2, tk3, rfl, J3 fun v => by simp, M4, K3.1, K3.2, hlt, rfl, q3⟩
    | ret rv => exact k _ _ l2 z2 tk3 (.ret rv) P3 J3 ((Mv.ofStep S0).trans M4) q3
  · have hi : i' = xs.length := Nat.le_antisymm hle (Nat.le_of_not_lt hlt)
    subst hi
    refine X.W.done _ _ _ t fun h' tk' hkp => ?_
    have hkp' : ∀ a o, a ≠ It → y.h.get? a = some o → h'.get? a = some o := fun a o q e => hkp a o (by simpa using q) e
    rw [List.drop_length] at hw
    refine wpAny_execs_nil ?_
    exact hr n env _ l' _ A { y with h := h' } _ _ F m3 R (J.quiet H hkp' hXf) rfl hw (ConX.trans k ((Mv.ofStep S0).trans (M.fresh hI hkp')))
theorem unp_inv {v : AV} {Q : PyData → PyData → Prop} (h : unp2A v Q) : ∃ a b, v = .d (.tuple [a, b]) ∧ Q a b := by
  cases v with
  | d x =>
    cases x with
    | tuple l =>
      match l, h with
      | [a, b], h => exact ⟨a, b, rfl, h⟩
    | _ => exact h.elim
  | _ => exact h.elim
theorem xs_unp {e : E} {r : S} (i j : Nat) (h : PE prog w hB N C e) (hr : XS prog w hB N C own r) : XS prog w hB N C own (.unp i j e r) := fun n env body l Q A x s Qr F m R I hs he k => by
  obtain ⟨nm, p1, nm2, p2, kx, p3, f, xs, kw, pc, p, rest, rfl, m0, m1, hne, m2, m3⟩ := mS_unp m
  refine wpAny_execs_cons (wpAny_Assign_stores ?_ rfl rfl)
  refine h n env _ l _ A x s _ F m2 R I hs he fun av v x0 tk0 I0 S0 r0 q0 => ?_
  obtain ⟨d1, d2, rfl, q0⟩ := unp_inv q0
  obtain ⟨a, ob, vs, nn, as, rfl, h1, h2, h3, h4⟩ := r0.tup
  obtain ⟨v1, v2, as1, as2, hv, ra, rb⟩ := ra_two h4
  have ht : x0.h.IsTuple a vs := ⟨ob, I0.st.sub _ _ h1, h2, nn, h3⟩
  have hsz : vs.size = 2 := by rw [← Array.length_toList, hv]; rfl
  show wpAny _ A (assign (.Tuple [.Name nm p1, .Name nm2 p2] kx p3) env (.ref a)) _ _ _
  refine wpAny_assign_Tuple (s := { s with heap := x0.h, toks := tk0 }) R.handled ht (by rw [hsz]; rfl) rfl fun h' hx => ?_
  rw [hv]
  have hI : x0.h.get? x0.h.objs.size = none := Heap.get?_none_of_le (Nat.le_refl _)
  have hXf := not_frX I0.lr hI
  have H0 := hid_new I0.st hI
  have J1 := I0.quiet H0 (fun a o q e => hx a o q e) hXf
  have M1 : Mv own env x0 { x0 with h := h' } := (Mv.refl x0).fresh hI fun a o q e => hx a o q e
  show wpAny _ A (holding [v2] (assign (.Name nm p1) env v1) >>= fun _ => assignInOrder [assign (.Name nm2 p2) env] [v2]) _ _ _
  refine wpAny_bind (wpAny_holding (wpAny_assign_Name (store_loc (own := own) (x := { x0 with h := h' }) (s := { s with heap := h', toks := tk0 }) F J1 rfl m0 (.d ra) fun h2 tk2 J2 M2 => ?_)))
  show wpAny _ A (holding [] (assign (.Name nm2 p2) env v2) >>= fun _ => assignInOrder [] []) _ _ _
  refine wpAny_bind (wpAny_holding (wpAny_assign_Name (store_loc (own := own) (x := { x0 with h := h2 }) (s := { s with heap := h2, toks := tk2 }) F J2 rfl m1 (.d rb) fun h3 tk3 J3 M3 => ?_)))
  refine wpAny_pure ?_
  exact hr n env _ _ _ A { x0 with h := h3 } _ _ F m3 R J3 rfl q0 (ConX.trans k ((Mv.ofStep S0).trans ((M1.trans M2).trans M3)))
end
end Mine
end
section
open PySem PySem.W PyProof.Rows
namespace Mine
open PySem PySem.Calls
theorem forIn_fold {α β : Type} (f : β → α → β) (g : α → β → Sem (ForInStep β)) (h : ∀ x r, g x r = pure (.yield (f r x))) : ∀ (L : List α) (s : β), forIn L s g = pure (L.foldl f s)
  | [], s => by rw [List.forIn_nil]; rfl
  | x :: r, s => by rw [List.forIn_cons, h, pure_bind]; exact forIn_fold f g h r (f s x)
theorem lookup_append' {V : Type} (a b : List (Str × V)) (n : Str) : (a ++ b).lookup n = (a.lookup n).or (b.lookup n) := by
  induction a with
  | nil => simp
  | cons p r ih =>
    rw [List.cons_append, lookup_cons', lookup_cons', ih]
    split <;> simp
theorem fold_lookup : ∀ (L : List (Str × Value)) (s : List (Str × Value)) (n : Str), (L.foldl (fun s x => if (s.lookup x.1).isNone = true then s ++ [(x.1, x.2)] else s) s).lookup n = (s.lookup n).or (L.lookup n)
  | [], s, n => by simp
  | p :: r, s, n => by
    rw [List.foldl_cons, fold_lookup r]
    rw [lookup_cons']
    by_cases h : (s.lookup p.1).isNone = true
    · rw [if_pos h, lookup_append', lookup_cons']
      by_cases q : p.1 = n
      · subst q
        rw [Option.isNone_iff_eq_none] at h
        simp [h]
      · simp [q]
    · rw [if_neg h]
      by_cases q : p.1 = n
      · subst q
        cases e : s.lookup p.1 with
        | none => rw [e] at h; simp at h
        | some v => simp
      · simp [q]
theorem zip_lookup : ∀ {ns : List Str} (vs : List Value), ns.Nodup → ∀ {i : Nat} {n : Str}, ns[i]? = some n → (ns.zip vs).lookup n = vs[i]?
  | [], _, _, i, n, h => by simp at h
  | a :: r, [], _, i, n, h => by simp
  | a :: r, v :: vs, nd, i, n, h => by
    rw [List.zip_cons_cons, lookup_cons']
    rw [List.nodup_cons] at nd
    cases i with
    | zero => simp at h; subst h; simp
    | succ i =>
      simp at h
      have : a ≠ n := fun e => nd.1 (e ▸ List.mem_of_getElem? h)
      rw [if_neg this, zip_lookup vs nd.2 h]; simp
theorem filterMap_zip {g : Str → Option Value} : ∀ {ns : List Str} {V : List Value}, ns.length = V.length → (∀ (i : Nat) n, ns[i]? = some n → g n = V[i]?) → ns.filterMap (fun n => (g n).map fun v => (n, v)) = ns.zip V
  | [], [], _, _ => rfl
  | [], _ :: _, h, _ => by simp at h
  | _ :: _, [], h, _ => by simp at h
  | a :: r, v :: V, h, k => by
    have h0 := k 0 a rfl
    simp at h0
    rw [List.filterMap_cons, h0]
    simp only [Option.map_some, List.zip_cons_cons]
    rw [filterMap_zip (by simpa using h) fun i n e => by simpa using k (i + 1) n e]
noncomputable def dfltIs (h : Heap) (v : Value) (D : List Value) : Prop := (v = .none ∧ D = []) ∨ ∃ a o n, v = .ref a ∧ h.get? a = some o ∧ o.data = .seq D.toArray n
theorem ba1 {i n d v a : Nat} (hl : n = a) (h : i < min (n - d) n) (h3 : a ≤ v + d) : i < n ∧ i < v := by omega
theorem ba2 {n v d a : Nat} (hl : n = a) (h1 : v ≤ a) (h2 : d ≤ a) (h3 : a ≤ v + d) : n = v + (d - (v + d - a)) := by omega
theorem ba3 {n d i v a : Nat} (hl : n = a) (h3 : a ≤ v + d) (q : ¬ i < v) : n - d + (i - (n - d)) = i := by omega
theorem ba4 {n d i v a : Nat} (hl : n = a) (h2 : d ≤ a) (h3 : a ≤ v + d) (q : ¬ i < v) : i - (n - d) = v + d - a + (i - v) := by
  obtain ⟨m, rfl⟩ := Nat.exists_eq_add_of_le h2
  obtain ⟨j, rfl⟩ := Nat.exists_eq_add_of_le (Nat.le_of_not_lt q)
  have h4 : m ≤ v := Nat.le_of_add_le_add_left (Nat.add_comm v d ▸ h3)
  obtain ⟨k, rfl⟩ := Nat.exists_eq_add_of_le h4
  rw [hl, Nat.add_sub_cancel_left, Nat.add_sub_cancel_left, Nat.add_assoc, Nat.add_sub_cancel_left, Nat.add_comm (m + k) d, ← Nat.add_assoc, Nat.add_sub_cancel_left]
theorem binds_any {s : Shared} {fd : FuncData} {as : List Arg} {ds : List PySem.Expr} {vs D : List Value} {kd : List (Option PySem.Expr)} (hp : fd.params = ⟨[], as, none, [], kd, none, ds⟩) (hD : dfltIs s.heap fd.defaults D) (nd : (as.map (·.arg)).Nodup)
    (h1 : vs.length ≤ as.length) (h2 : D.length ≤ as.length) (h3 : as.length ≤ vs.length + D.length) : BindsTo s fd ⟨vs, []⟩ ((as.map (·.arg)).zip (vs ++ D.drop (vs.length + D.length - as.length))) := by
  intro M A E Q hq
  have items : ∃ k : Option (Array Value), (k.getD #[]).toList = D ∧ ∀ {Q : Option (Array Value) → Shared → Prop}, Q k s → wpAny M A (seqItems? fd.defaults) Q E s := by
    rcases hD with ⟨e, rfl⟩ | ⟨a, o, n, e, ho, hd⟩
    · refine ⟨none, rfl, fun {Q} q => ?_⟩
      rw [e]; exact wpAny_pure q
    · exact ⟨some D.toArray, by simp, fun {Q} q => by rw [e]; exact wpAny_seqItems ho hd q⟩
  obtain ⟨k, hk, hw⟩ := items
  unfold bindArgs
  simp only [hp, List.forIn_nil, pure_bind, List.map_nil, List.nil_append, Option.isNone_none, Bool.and_true, List.append_nil]
  refine wpAny_bind (hw ?_)
  rw [hk]
  have hl : (as.map (·.arg)).length = as.length := List.length_map ..
  generalize hN : as.map (·.arg) = ns at *
  have g1 : ¬ (decide (vs.length > ns.length) = true) := by rw [decide_eq_true_eq, hl]; exact Nat.not_lt.mpr h1
  rw [if_neg g1]
  have e0 : D.drop (D.length - ns.length) = D := by rw [Nat.sub_eq_zero_of_le (by rw [hl]; exact h2)]; rfl
  simp only [e0]
  have miss : (ns.take (ns.length - D.length)).filter (fun n => (List.lookup n (ns.zip vs)).isNone) = [] := by
    rw [List.filter_eq_nil_iff]
    intro n hn
    obtain ⟨i, hi, e⟩ := List.mem_iff_getElem.mp hn
    rw [List.length_take] at hi
    rw [List.getElem_take] at e
    have : ns[i]? = some n := by rw [List.getElem?_eq_getElem (ba1 hl hi h3).1, e]
    rw [zip_lookup vs nd this, List.getElem?_eq_getElem (ba1 hl hi h3).2]
    simp
  rw [miss]
  simp only [List.isEmpty_nil, Bool.not_true, Bool.false_eq_true, if_false]
  refine wpAny_bind ?_
  rw [forIn_fold (fun s x => if (s.lookup x.1).isNone = true then s ++ [(x.1, x.2)] else s) _ (fun x r => by obtain ⟨a, b⟩ := x; dsimp only; split <;> rfl)]
  refine wpAny_pure ?_
  have key : ns.filterMap (fun n => (List.lookup n (((ns.drop (ns.length - D.length)).zip D).foldl (fun s x => if (s.lookup x.1).isNone = true then s ++ [(x.1, x.2)] else s) (ns.zip vs))).map fun v => (n, v)) = ns.zip (vs ++ D.drop (vs.length + D.length - as.length)) := by
    refine filterMap_zip (by rw [List.length_append, List.length_drop]; exact ba2 hl h1 h2 h3) fun i n e => ?_
    have hi := (List.getElem?_eq_some_iff.mp e).1
    rw [fold_lookup, zip_lookup vs nd e, List.getElem?_append]
    by_cases q : i < vs.length
    · rw [if_pos q, List.getElem?_eq_getElem q]; rfl
    · rw [if_neg q, List.getElem?_eq_none (Nat.le_of_not_lt q), Option.none_or]
      have nd2 : (ns.drop (ns.length - D.length)).Nodup := nd.sublist (List.drop_sublist _ _)
      have e2 : (ns.drop (ns.length - D.length))[i - (ns.length - D.length)]? = some n := by
        rw [List.getElem?_drop, ba3 hl h3 q]; exact e
      rw [zip_lookup D nd2 e2, List.getElem?_drop]
      rw [ba4 hl h2 h3 q]
  show wpAny M A (pure _) _ _ _
  refine wpAny_pure ?_
  rw [key]
  exact hq
end Mine
end
section
open PySem PySem.W PyProof.Rows
namespace Mine
open PySem PySem.Calls
noncomputable def dfltV : PyData → Value → Bool
  | .int i, .int j _ => decide (i = j)
  | .bool b, .bool c => decide (b = c)
  | .str b, .str c _ => decide (b = c)
  | .none, .none => true
  | _, _ => false
noncomputable def dfltVs : List PyData → List Value → Bool
  | [], [] => true
  | d :: ds, v :: vs => dfltV d v && dfltVs ds vs
  | _, _ => false
noncomputable def dfltK (K : Frag) (v : Value) (ds : List PyData) : Bool := match v with
  | .none => ds.isEmpty
  | .ref a => match K.lookup a with
    | some o => match o.data with
      | .seq xs _ => dfltVs ds xs.toList
      | _ => false
    | none => false
  | _ => false
theorem dfltV_reads {g : Heap} {d : PyData} {v : Value} (h : dfltV d v = true) : ∃ bs, Reads g v d bs := by
  cases d with
  | int i => cases v <;> first | exact ft h | (obtain rfl := dq h; exact ⟨_, .int _ _⟩)
  | bool b => cases v <;> first | exact ft h | (obtain rfl := dq h; exact ⟨_, .bool _⟩)
  | str b => cases v <;> first | exact ft h | (obtain rfl := dq h; exact ⟨_, .str _ _⟩)
  | none => cases v <;> first | exact ft h | exact ⟨_, .none⟩
  | _ => exact ft h
theorem dfltVs_reads {g : Heap} {ds : List PyData} : ∀ {vs : List Value}, dfltVs ds vs = true → ∃ as, ReadsAll g vs ds as := by
  induction ds with
  | nil =>
    intro vs h
    cases vs with
    | nil => exact ⟨_, .nil⟩
    | cons => exact ft h
  | cons d ds ih =>
    intro vs h
    cases vs with
    | nil => exact ft h
    | cons v vs =>
      obtain ⟨as, r⟩ := ih (ar h)
      obtain ⟨bs, rb⟩ := dfltV_reads (g := g) (al h)
      exact ⟨_, .cons rb r⟩
theorem dfltK_is {K : Frag} {h g : Heap} (X : K.In h) {v : Value} {ds : List PyData} (e : dfltK K v ds = true) : ∃ D, dfltIs h v D ∧ ∃ as, ReadsAll g D ds as := by
  unfold dfltK at e
  split at e
  · cases ds with
    | nil => exact ⟨[], .inl ⟨rfl, rfl⟩, _, .nil⟩
    | cons => simp at e
  · rename_i a
    split at e
    · rename_i o ho
      split at e
      · rename_i xs n hd
        exact ⟨xs.toList, .inr ⟨a, o, n, rfl, X _ _ ho, by rw [hd, Array.toArray_toList]⟩, dfltVs_reads e⟩
      · cases e
    · cases e
  · cases e
structure A15 (p0 p1 p2 p3 p4 p5 p6 p7 p8 p9 p10 p11 p12 p13 p14 : Prop) : Prop where
  h0 : p0
  h1 : p1
  h2 : p2
  h3 : p3
  h4 : p4
  h5 : p5
  h6 : p6
  h7 : p7
  h8 : p8
  h9 : p9
  h10 : p10
  h11 : p11
  h12 : p12
  h13 : p13
  h14 : p14
structure FnK (K : Frag) (f : Nat) (F : FD) (loc : List Str) : Prop where
  ex : Ex5 fun oc od osl fd as => Ex3 fun ds kd body => A15 (K.lookup (fnA f) = some (⟨oc, od, .func fd, osl⟩ : Obj)) (fd.params = ⟨[], as, none, [], kd, none, ds⟩) (fd.body = .stmts body) (fd.globals = mainGlobals) (fd.builtins = builtinsNs) (fd.closure = [])
    (fd.scope.kind = .function) (fd.scope.isCoroutine = false) (fd.scope.isGenerator = false) (codeIn K fd.code fd.qualname = true) (mS ⟨loc, gloT, attT, fd.scope⟩ F.body body = true)
    (as.map (·.arg) = loc.take F.np) (dfltK K fd.defaults F.dflt = true)
    (∀ x ∈ loc.take F.np, fd.scope.names.lookup x = some .local ∨ fd.scope.names.lookup x = some .cell) ((fd.scope.names.map (·.1)).Nodup)
  nd : loc.Nodup
  np : F.np ≤ F.ns
  len : loc.length = F.ns
  dl : F.dflt.length ≤ F.np
theorem cellsFrom_lookup : ∀ (names : List (Str × NameKind)) (k : Nat) (acc : List (Str × Addr)) (nm : Str), (names.map (·.1)).Nodup → (names.lookup nm = some .cell ∨ (acc.lookup nm).isSome = true ∧ nm ∉ names.map (·.1)) → ((cellsFrom k names acc).lookup nm).isSome = true
  | [], k, acc, nm, _, h => by
    rcases h with h | h
    · simp at h
    · exact h.1
  | (x, kd) :: r, k, acc, nm, nd, h => by
    rw [List.map_cons, List.nodup_cons] at nd
    unfold cellsFrom
    by_cases hk : (kd == NameKind.cell) = true
    · rw [if_pos hk]
      refine cellsFrom_lookup r _ _ nm nd.2 ?_
      rcases h with h | h
      · rw [lookup_cons'] at h
        by_cases q : x = nm
        · subst q
          exact .inr ⟨by rw [lookup_cons']; simp, nd.1⟩
        · simp only [q, if_false] at h
          exact .inl h
      · rw [List.map_cons, List.mem_cons, not_or] at h
        refine .inr ⟨?_, h.2.2⟩
        rw [lookup_cons']
        split
        · rfl
        · exact h.1
    · rw [if_neg hk]
      refine cellsFrom_lookup r _ _ nm nd.2 ?_
      rcases h with h | h
      · rw [lookup_cons'] at h
        by_cases q : x = nm
        · subst q
          simp only [if_true] at h
          cases h; exact absurd rfl hk
        · simp only [q, if_false] at h
          exact .inl h
      · rw [List.map_cons, List.mem_cons, not_or] at h
        exact .inr ⟨h.1, h.2.2⟩
theorem cellsFrom_nodup : ∀ (names : List (Str × NameKind)) (k : Nat) (acc : List (Str × Addr)), (names.map (·.1)).Nodup → (acc.map (·.1)).Nodup → (∀ x ∈ acc.map (·.1), x ∉ names.map (·.1)) → ((cellsFrom k names acc).map (·.1)).Nodup
  | [], k, acc, _, h, _ => h
  | (x, kd) :: r, k, acc, nd, h, hd => by
    rw [List.map_cons, List.nodup_cons] at nd
    have hd' : ∀ y ∈ acc.map (·.1), y ∉ r.map (·.1) := fun y hy q => hd y hy (by rw [List.map_cons]; exact .tail _ q)
    unfold cellsFrom
    split
    · refine cellsFrom_nodup r _ _ nd.2 ?_ fun y hy => ?_
      · rw [List.map_cons, List.nodup_cons]
        exact ⟨fun q => hd x q (by rw [List.map_cons]; exact .head _), h⟩
      · rw [List.map_cons, List.mem_cons] at hy
        rcases hy with rfl | hy
        · exact nd.1
        · exact hd' y hy
    · exact cellsFrom_nodup r _ _ nd.2 h hd'
theorem lookup_of_mem {V : Type} : ∀ {l : List (Str × V)} {a : Str} {v : V}, (l.map (·.1)).Nodup → (a, v) ∈ l → l.lookup a = some v
  | p :: r, a, v, nd, h => by
    rw [List.map_cons, List.nodup_cons] at nd
    rw [lookup_cons']
    rcases List.mem_cons.mp h with rfl | h
    · simp
    · have hne : p.1 ≠ a := fun e => by
        apply nd.1
        rw [e]
        exact List.mem_map_of_mem (f := (·.1)) h
      rw [if_neg hne]
      exact lookup_of_mem nd.2 h
theorem bindL_miss (kindOf : Str → Option NameKind) : ∀ (binds : List (Str × Value)) (m : Str → Option Value) (nm : Str), nm ∉ binds.map (·.1) → bindL kindOf binds m nm = m nm
  | [], m, nm, _ => rfl
  | (a, v) :: r, m, nm, h => by
    rw [List.map_cons, List.mem_cons, not_or] at h
    unfold bindL
    rw [bindL_miss kindOf r _ nm h.2]
    split
    · simp [h.1]
    · rfl
theorem bindC_miss (kindOf : Str → Option NameKind) : ∀ (binds : List (Str × Value)) (m : Str → Option Value) (nm : Str), nm ∉ binds.map (·.1) → bindC kindOf binds m nm = m nm
  | [], m, nm, _ => rfl
  | (a, v) :: r, m, nm, h => by
    rw [List.map_cons, List.mem_cons, not_or] at h
    unfold bindC
    rw [bindC_miss kindOf r _ nm h.2]
    split
    · rfl
    · simp [h.1]
theorem bindL_hit (kindOf : Str → Option NameKind) : ∀ (binds : List (Str × Value)) (m : Str → Option Value) (nm : Str) (v : Value), (binds.map (·.1)).Nodup → (nm, v) ∈ binds → kindOf nm = some .local → bindL kindOf binds m nm = some v := by
  intro binds
  induction binds with
  | nil => intro m nm v _ hm; cases hm
  | cons p r ih =>
    intro m nm v nd hm hk
    obtain ⟨a, v0⟩ := p
    rw [List.map_cons, List.nodup_cons] at nd
    unfold bindL
    rcases List.mem_cons.mp hm with e | hm
    · obtain ⟨rfl, rfl⟩ := Prod.mk.inj e
      rw [bindL_miss kindOf r _ _ nd.1, if_pos hk]; simp
    · exact ih _ nm v nd.2 hm hk
theorem bindC_hit (kindOf : Str → Option NameKind) : ∀ (binds : List (Str × Value)) (m : Str → Option Value) (nm : Str) (v : Value), (binds.map (·.1)).Nodup → (nm, v) ∈ binds → kindOf nm ≠ some .local → bindC kindOf binds m nm = some v := by
  intro binds
  induction binds with
  | nil => intro m nm v _ hm; cases hm
  | cons p r ih =>
    intro m nm v nd hm hk
    obtain ⟨a, v0⟩ := p
    rw [List.map_cons, List.nodup_cons] at nd
    unfold bindC
    rcases List.mem_cons.mp hm with e | hm
    · obtain ⟨rfl, rfl⟩ := Prod.mk.inj e
      rw [bindC_miss kindOf r _ _ nd.1, if_neg hk]; simp
    · exact ih _ nm v nd.2 hm hk
section
variable {prog : Program} {w : World} {K : Frag} {hB : Heap}
theorem vrs_append {g : Heap} {ρ : Nat → Addr} {σ : H} {l m : List AV} {vs ws : List Value} (h : VRs g ρ σ l vs) (k : VRs g ρ σ m ws) : VRs g ρ σ (l ++ m) (vs ++ ws) := by
  induction h with
  | nil => exact k
  | cons a b ih => exact .cons a ih
theorem vrs_ds {g : Heap} {ρ : Nat → Addr} {σ : H} {xs : List PyData} : ∀ {vs : List Value} {as : List Addr}, ReadsAll g vs xs as → VRs g ρ σ (xs.map .d) vs := by
  induction xs with
  | nil => intro vs as r; rw [ra_nl r]; exact .nil
  | cons x xs ih =>
    intro vs as r
    obtain ⟨v, vs, as', cs, rfl, r1, r2⟩ := ra_hd r
    exact .cons (.d r1) (ih r2)
theorem cs1 {a n r : Nat} (h : a + 3 * n + 3 < r) : a < r := Nat.lt_of_le_of_lt (Nat.le_trans (Nat.le_add_right _ _) (Nat.le_add_right _ _)) h
theorem cs2 {a n r : Nat} (h : a + 3 * (n + 1) + 3 < r) : a + 1 + 3 * n + 5 < r := by omega
theorem cs3 {a n r : Nat} (h : a + 200 * (n + 1) + 250 < r) : a + 3 + 200 * n + 300 < r := by omega
theorem callF_sound (W : SW K hB) (nms : Nat → List Str) (hfn : ∀ f F, fdT f = some F → FnK K f F (nms f)) (hXS : ∀ N, CallS prog w hB N (callF tb fdT N) → ∀ own b, XS prog w hB N (callF tb fdT N) own b) :
    ∀ N, CallS prog w hB N (callF tb fdT N)
  | 0 => fun f args x A vs s Q R _ _ _ _ h _ => by simp [callF] at h
  | N + 1 => fun f args x A vs s Q R RC P hs rs h k => by
    have IH := callF_sound W nms hfn hXS N
    simp only [callF] at h
    cases hf : fdT f with
    | none => rw [hf] at h; exact h.elim
    | some F =>
      rw [hf] at h
      obtain ⟨h1, h2, h3, h4⟩ := h
      obtain ⟨⟨oc, od, osl, fd, as, ds, kd, body, k1, k2, k3, k4, k5, k6, k7, k8, k9, k10, k11, k12, k13, k14, k15⟩, nd, hnp, hlen, hdl⟩ := hfn f F hf
      have X : K.In s.heap := hs ▸ W.at P
      have hvl : args.length = vs.length := (vrs_iff.mp rs).1.symm
      obtain ⟨D, hD, as2, hR⟩ := dfltK_is (g := x.g) X k13
      have hDl : D.length = F.dflt.length := ra_len hR
      have hal : as.length = F.np := by
        have := congrArg List.length k12
        rw [List.length_map, List.length_take, hlen] at this; exact this.trans (Nat.min_eq_left hnp)
      have hv1 : vs.length ≤ as.length := by rw [hal, ← hvl]; exact h1
      have hv2 : D.length ≤ as.length := by rw [hDl, hal]; exact hdl
      have hv3 : as.length ≤ vs.length + D.length := by rw [hal, ← hvl, hDl]; exact h2
      have hbind := binds_any (s := s) (vs := vs) k2 hD (by rw [k12]; exact nd.sublist (List.take_sublist _ _)) hv1 hv2 hv3
      rw [k12] at hbind
      generalize hV : vs ++ D.drop (vs.length + D.length - as.length) = V at hbind
      have hVl : V.length = F.np := by rw [← hV, List.length_append, List.length_drop]; exact (ba2 hal.symm hv1 hv2 hv3).symm
      have hVR : VRsx x (args ++ (F.dflt.drop (args.length + F.dflt.length - F.np)).map .d) V := by
        rw [← hV]
        refine vrs_append rs ?_
        obtain ⟨cs, hc⟩ := ra_drop (vs.length + D.length - as.length) ⟨_, hR⟩
        rw [hvl, ← hDl, ← hal]
        exact vrs_ds hc
      have hbn : ((List.take F.np (nms f)).zip V).map (·.1) = List.take F.np (nms f) := by
        rw [List.map_fst_zip]; rw [List.length_take, hlen, hVl]; exact Nat.min_le_left _ _
      have ndt : (List.take F.np (nms f)).Nodup := nd.sublist (List.take_sublist _ _)
      refine codeAny_call_function (cs1 RC.depth) (X _ _ k1) rfl k8 k9 k3 (codeRec_of X k10) (hbind _ _ _ _ ?_)
      rw [k6]
      refine wpAny_newFunctionEnv_cells k7 (fun p hp => ?_) (fun env he s' IC => ?_)
      · have hm : p.1 ∈ List.take F.np (nms f) := by rw [← hbn]; exact List.mem_map_of_mem hp
        rcases k14 p.1 hm with h | h
        · exact .inl h
        · exact .inr ⟨h, cellsFrom_lookup _ _ _ _ k15 (.inl h)⟩
      · obtain ⟨hh, tk, rfl⟩ := IC.toInCall.same
        have hkp : ∀ b o, x.h.get? b = some o → hh.get? b = some o := fun b o e => IC.toInCall.keep b o (hs ▸ e)
        have hfresh : ∀ a, x.h.objs.size ≤ a → x.h.get? a = none := fun a ha => Heap.get?_none_of_le ha
        have hLf : x.h.get? env.locals = none := hfresh _ (hs ▸ IC.toInCall.fresh)
        have hcf : ∀ p ∈ env.cells, x.h.get? p.2 = none := fun p hp => hfresh _ (Nat.le_trans (hs ▸ IC.toInCall.fresh) (Nat.le_of_lt (IC.above p.1 p.2 hp)))
        have eK : env.scope = fd.scope := by rw [he]; rfl
        have eG : env.globals = mainGlobals := by rw [he, ← k4]; rfl
        have eB : env.builtins = builtinsNs := by rw [he, ← k5]; rfl
        have eC : env.cells = cellsFrom (s.heap.objs.size + 1) fd.scope.names [] := by rw [he]; rfl
        have noneB : ∀ a, x.h.get? a = none → hB.get? a = none := fun a e => by
          cases q : hB.get? a with
          | none => rfl
          | some o => have := keep_all P _ _ q; rw [e] at this; cases this
        have noneG : ∀ a, x.h.get? a = none → x.g.get? a = none := fun a e => by
          cases q : x.g.get? a with
          | none => rfl
          | some o => have := P.sub _ _ q; rw [e] at this; cases this
        have un : ∀ a, x.h.get? a = none → Unown x a := fun a e j hj q => by
          obtain ⟨ob, e1⟩ := P.ownLive hj
          rw [q, e] at e1; cases e1
        have P' : St prog w hB x.g x.ρ x.σ hh := P.quiet (fun a o _ e => hkp a o e) (noneG _ hLf) (un _ hLf)
        have pick : ∀ (i : Nat) (av : AV) (nm : Str), (initL F args)[i]? = some av → av ≠ .un → (nms f)[i]? = some nm → ∃ v, (nm, v) ∈ (List.take F.np (nms f)).zip V ∧ VRx x av v ∧ nm ∈ List.take F.np (nms f) := fun i av nm a b c => by
          unfold initL at a
          have hl0 : (args ++ (F.dflt.drop (args.length + F.dflt.length - F.np)).map AV.d).length = F.np := by rw [List.length_append, List.length_map, List.length_drop]; exact (ba2 rfl h1 hdl h2).symm
          rw [List.getElem?_append] at a
          split at a
          · rename_i hi
            rw [hl0] at hi
            obtain ⟨v, e1, r⟩ := vrs_get hVR a
            have e2 : (List.take F.np (nms f))[i]? = some nm := by rw [List.getElem?_take, if_pos hi]; exact c
            refine ⟨v, List.mem_of_getElem? (i := i) ?_, r, List.mem_of_getElem? e2⟩
            rw [List.getElem?_zip_eq_some]; exact ⟨e2, e1⟩
          · rw [List.getElem?_replicate] at a
            split at a
            · cases a; exact absurd rfl b
            · cases a
        have LRy : LR hB ⟨nms f, gloT, attT, fd.scope⟩ env { x with h := hh } (initL F args) := by
          refine ⟨by rw [eK]; exact k7, eK.symm, ⟨_, IC.toInCall.ns, fun i av nm a b c d => ?_⟩, noneG _ hLf, noneB _ hLf, fun j hj => un _ hLf j hj, fun i av nm a b c d => ?_, fun nm c hm => ?_, IC.apart, fun nm hk => ?_⟩
          · obtain ⟨v, hm, r, _⟩ := pick i av nm a b c
            exact ⟨v, bindL_hit _ _ _ nm v (by rw [hbn]; exact ndt) hm d, r⟩
          · obtain ⟨v, hm, r, hin⟩ := pick i av nm a b c
            have hnl : env.kindOf nm ≠ some .local := by rcases d with d | d <;> rw [d] <;> simp
            have hcell : env.kindOf nm = some .cell := by
              rcases k14 nm hin with h | h
              · exact absurd (show env.kindOf nm = some .local by rw [Env.kindOf, eK]; exact h) hnl
              · rw [Env.kindOf, eK]; exact h
            have hsome : (env.cells.lookup nm).isSome = true := by
              rw [eC]; exact cellsFrom_lookup _ _ _ _ k15 (.inl (by rw [Env.kindOf, eK] at hcell; exact hcell))
            obtain ⟨c', hc'⟩ := Option.isSome_iff_exists.mp hsome
            refine ⟨c', v, hc', ?_, r⟩
            have := IC.cell nm c' hc'
            rw [bindC_hit _ _ _ nm v (by rw [hbn]; exact ndt) hm hnl] at this
            exact this
          · have hn := hcf _ hm
            refine ⟨noneB _ hn, noneG _ hn, ?_⟩
            have hl : env.cells.lookup nm = some c := lookup_of_mem (by rw [eC]; exact cellsFrom_nodup _ _ _ k15 List.nodup_nil (fun x hx => by simp at hx)) hm
            exact ⟨_, IC.cell nm c hl⟩
          · rw [eC]
            exact Option.isSome_iff_exists.mp (cellsFrom_lookup _ _ _ _ k15 (.inl (by rw [Env.kindOf, eK] at hk; exact hk)))
        have S0 : ∀ L, Step L x { x with h := hh } := fun L => ⟨Grow.refl _ _ _, fun a e => by
          obtain ⟨o, ho⟩ := Option.isSome_iff_exists.mp e
          show (hh.get? a).isSome = true
          rw [hkp a o ho]; rfl, fun a o _ e _ => hkp a o e, fun _ e => .inl e, fun _ _ e => .inl ⟨_, e⟩⟩
        refine ⟨W.lim.keeps fun b o e => hkp b o (keep_all P b o e), codeAny_func ?_⟩
        refine anyE (hXS N IH F.own F.body ⟨nms f, gloT, attT, fd.scope⟩ env body (initL F args) _ (A.deeper env) { x with h := hh } _ _ ⟨rfl, rfl, eG, eB, nd⟩ k11 ⟨RC.handled, ?_, ?_⟩ ⟨P', LRy⟩ rfl h4 fun fl flr l' z tk' r1 P1 J1 M1 q1 => ?_)
        · show A.depth + 1 + 3 * N + 5 < _
          exact cs2 RC.depth
        · show A.units + 3 + 200 * N + 300 < _
          exact cs3 RC.units
        · have SS := M1.ent x ⟨hLf, hcf, h3⟩ S0
          cases r1 with
          | next => exact k _ _ z tk' P1 SS .ofNone q1
          | cont => exact q1.elim
          | ret rv => exact k _ _ z tk' P1 SS rv q1
end
end Mine
end
section
open PySem PySem.W PyProof.Rows
namespace Mine
open PySem PySem.Calls
noncomputable def closL (cells : List (Str × Addr)) : List (Str × NameKind) → List (Str × Addr) → List (Str × Addr)
  | [], acc => acc
  | (nm, k) :: r, acc => if k == .free then (match cells.lookup nm with | some c => closL cells r ((nm, c) :: acc) | none => closL cells r acc) else closL cells r acc
theorem closL_run {cells : List (Str × Addr)} {f : Str × NameKind → List (Str × Addr) → Sem (ForInStep (List (Str × Addr)))}
    (hf1 : ∀ nm c acc, cells.lookup nm = some c → f (nm, .free) acc = pure (.yield ((nm, c) :: acc))) (hf2 : ∀ nm k acc, k ≠ NameKind.free → f (nm, k) acc = pure (.yield acc)) :
    ∀ (names : List (Str × NameKind)) (acc : List (Str × Addr)), (∀ nm, (nm, NameKind.free) ∈ names → (cells.lookup nm).isSome = true) → forIn names acc f = pure (closL cells names acc)
  | [], acc, _ => by rw [List.forIn_nil]; rfl
  | (nm, k) :: r, acc, h => by
    rw [List.forIn_cons]
    unfold closL
    by_cases hk : (k == NameKind.free) = true
    · rw [if_pos hk]
      obtain rfl : k = .free := by simpa using hk
      obtain ⟨c, hc⟩ := Option.isSome_iff_exists.mp (h nm (.head _))
      rw [hf1 nm c acc hc, hc]
      simp only [pure_bind]
      exact closL_run hf1 hf2 r _ fun m hm => h m (.tail _ hm)
    · rw [if_neg hk, hf2 nm k acc (by simpa using hk), pure_bind]
      exact closL_run hf1 hf2 r _ fun m hm => h m (.tail _ hm)
theorem closL_mem {cells : List (Str × Addr)} : ∀ (names : List (Str × NameKind)) (acc : List (Str × Addr)) (p : Str × Addr), p ∈ closL cells names acc → p ∈ acc ∨ (cells.lookup p.1 = some p.2 ∧ (p.1, NameKind.free) ∈ names)
  | [], acc, p, h => .inl h
  | (nm, k) :: r, acc, p, h => by
    unfold closL at h
    split at h
    · rename_i hk
      obtain rfl : k = .free := by simpa using hk
      split at h
      · rename_i c hc
        rcases closL_mem r _ p h with h | h
        · rcases List.mem_cons.mp h with rfl | h
          · exact .inr ⟨hc, .head _⟩
          · exact .inl h
        · exact .inr ⟨h.1, .tail _ h.2⟩
      · rcases closL_mem r _ p h with h | h
        · exact .inl h
        · exact .inr ⟨h.1, .tail _ h.2⟩
    · rcases closL_mem r _ p h with h | h
      · exact .inl h
      · exact .inr ⟨h.1, .tail _ h.2⟩
theorem closL_has {cells : List (Str × Addr)} : ∀ (names : List (Str × NameKind)) (acc : List (Str × Addr)) (p : Str × Addr), (p ∈ acc ∨ (cells.lookup p.1 = some p.2 ∧ (p.1, NameKind.free) ∈ names)) → p ∈ closL cells names acc
  | [], acc, p, h => by rcases h with h | h; exact h; simp at h
  | (nm, k) :: r, acc, p, h => by
    unfold closL
    by_cases hk : (k == NameKind.free) = true
    · rw [if_pos hk]
      obtain rfl : k = .free := by simpa using hk
      split
      · rename_i c hc
        refine closL_has r _ p ?_
        rcases h with h | ⟨h1, h2⟩
        · exact .inl (.tail _ h)
        · rcases List.mem_cons.mp h2 with e | h2
          · obtain ⟨e1, _⟩ := Prod.mk.inj e
            rw [e1, hc] at h1
            refine .inl ?_
            obtain ⟨a, b⟩ := p
            simp at e1 h1; subst e1; subst h1; exact .head _
          · exact .inr ⟨h1, h2⟩
      · rename_i hc
        refine closL_has r _ p ?_
        rcases h with h | ⟨h1, h2⟩
        · exact .inl h
        · rcases List.mem_cons.mp h2 with e | h2
          · obtain ⟨e1, _⟩ := Prod.mk.inj e
            rw [e1, hc] at h1; cases h1
          · exact .inr ⟨h1, h2⟩
    · rw [if_neg hk]
      refine closL_has r _ p ?_
      rcases h with h | ⟨h1, h2⟩
      · exact .inl h
      · rcases List.mem_cons.mp h2 with e | h2
        · obtain ⟨_, e2⟩ := Prod.mk.inj e
          subst e2; exact absurd rfl hk
        · exact .inr ⟨h1, h2⟩
theorem closL_nodup {cells : List (Str × Addr)} : ∀ (names : List (Str × NameKind)) (acc : List (Str × Addr)), (names.map (·.1)).Nodup → (acc.map (·.1)).Nodup → (∀ x ∈ acc.map (·.1), x ∉ names.map (·.1)) → ((closL cells names acc).map (·.1)).Nodup
  | [], acc, _, h, _ => h
  | (x, kd) :: r, acc, nd, h, hd => by
    rw [List.map_cons, List.nodup_cons] at nd
    have hd' : ∀ y ∈ acc.map (·.1), y ∉ r.map (·.1) := fun y hy q => hd y hy (by rw [List.map_cons]; exact .tail _ q)
    unfold closL
    split
    · split
      · refine closL_nodup r _ nd.2 ?_ fun y hy => ?_
        · rw [List.map_cons, List.nodup_cons]
          exact ⟨fun q => hd x q (by rw [List.map_cons]; exact .head _), h⟩
        · rw [List.map_cons, List.mem_cons] at hy
          rcases hy with rfl | hy
          · exact nd.1
          · exact hd' y hy
      · exact closL_nodup r _ nd.2 h hd'
    · exact closL_nodup r _ nd.2 h hd'
theorem keysNd_nodup : ∀ {l : List (Str × NameKind)}, keysNd l = true → (l.map (·.1)).Nodup
  | [], _ => List.nodup_nil
  | p :: r, h => by
    simp only [keysNd, Bool.and_eq_true, Bool.not_eq_true', List.any_eq_false] at h
    rw [List.map_cons, List.nodup_cons]
    refine ⟨fun q => ?_, keysNd_nodup h.2⟩
    obtain ⟨y, hy, e⟩ := List.mem_map.mp q
    exact h.1 y hy (by rw [e]; simp)
theorem relS_lookup {outer : Scope} : ∀ {names : List (Str × NameKind)} {nm : Str} {k : NameKind}, ((names.map fun (n, k) => if (k == .free && outer.kind == .function && outer.names.lookup n == some .cell) then (n, NameKind.cell) else (n, k)).lookup nm = some k) →
    names.lookup nm = some k ∨ (k = .cell ∧ names.lookup nm = some .free)
  | [], nm, k, h => by simp at h
  | (n, kd) :: r, nm, k, h => by
    rw [List.map_cons, lookup_cons'] at h
    rw [lookup_cons']
    by_cases q : n = nm
    · subst q
      by_cases hc : (kd == .free && outer.kind == .function && outer.names.lookup n == some .cell) = true
      · simp only [hc, if_true] at h
        simp only [Bool.and_eq_true, beq_iff_eq] at hc
        simp at h
        exact .inr ⟨h.symm, by simp [hc.1.1]⟩
      · simp only [hc, if_false] at h
        simp at h
        exact .inl (by simp [h])
    · rw [if_neg q]
      refine relS_lookup (outer := outer) (names := r) ?_
      by_cases hc : (kd == .free && outer.kind == .function && outer.names.lookup n == some .cell) = true
      · simp only [hc, if_true, q, if_false] at h
        exact h
      · simp only [hc, Bool.false_eq_true, if_false, q] at h
        exact h
section
variable {prog : Program} {w : World} {K : Frag} {hB : Heap} {n : Nm} {env : Env} {A : Around} {x y z x0 : Sta} {l : List AV} {s : Shared} {N : Nat} {C : CallT} {own : List Nat}
theorem store_local (F : FrOK n env) (I : Inv prog w hB n env x l) (hs : s.heap = x.h) {i : Nat} {nm : Str} {av : AV} {v : Value} (h1 : n.loc[i]? = some nm) (hk : env.kindOf nm = some .local) (r : VRx x av v) {Qr : Unit → Shared → Prop}
    (k : ∀ h' tk, Inv prog w hB n env { x with h := h' } (l.set i av) → Heap.SameBut env.locals x.h h' → Qr () { s with heap := h', toks := tk }) : wpAny (model prog w) A (storeName env nm v) Qr EF s := by
  have X := I.lr
  have hp : (env.scope.kind == .class || (env.scope.kind == .module && env.locals != env.globals)) = false := by rw [X.kind]; rfl
  obtain ⟨m, hn, hm⟩ := X.ns
  refine wpAny_storeName_local hk (hs ▸ hn) (fun h' hn' hsb => k h' _ ?_ (hs ▸ hsb)) hp
  have hkp : ∀ a o, a ≠ env.locals → x.h.get? a = some o → h'.get? a = some o := fun a o q e => (hsb.2 a q).trans (hs ▸ e)
  refine ⟨I.st.quiet hkp X.lout X.lown, ⟨X.kind, X.scope, ⟨_, hn', fun j av' nm' a b c d => ?_⟩, X.lout, X.lup, X.lown, fun j av' nm' a b c d => ?_, fun nm' c hm => ?_, X.capart, X.chas⟩⟩
  · rcases set_get a with ⟨rfl, rfl⟩ | ⟨q, a⟩
    · rw [h1] at c; cases c
      exact ⟨v, by simp, r⟩
    · obtain ⟨v', e, r'⟩ := hm j av' nm' a b c d
      have : nm' ≠ nm := fun e => q (loc_inj F (e ▸ c) h1)
      exact ⟨v', by simp [this, e], r'⟩
  · rcases set_get a with ⟨rfl, rfl⟩ | ⟨q, a⟩
    · rw [h1] at c; cases c
      rw [hk] at d; simp at d
    · obtain ⟨cc, v', e1, e2, e3⟩ := X.cells j av' nm' a b c d
      have hne := ns_ne_cell hn e2
      obtain ⟨o, ho, hd⟩ := e2
      exact ⟨cc, v', e1, ⟨o, hkp _ _ hne ho, hd⟩, e3⟩
  · obtain ⟨g1, g2, v', g3⟩ := X.cin nm' c hm
    have hne := ns_ne_cell hn g3
    obtain ⟨o, ho, hd⟩ := g3
    exact ⟨g1, g2, v', o, hkp _ _ hne ho, hd⟩
theorem Step.thenFresh {L D : Addr} (a : Step L x0 y) (b : Step D y z) (hD : x0.h.get? D = none) : Step L x0 z where
  grow := a.grow.trans b.grow
  live := fun c e => b.live c (a.live c e)
  pres := fun c o hL e h => b.pres c o (fun q => by rw [q, hD] at e; cases e) (a.pres c o hL e h) fun k hk q => by
    rcases a.new k hk with h1 | h1
    · exact h k h1 ((a.grow.rho k h1).symm.trans q)
    · rw [q, e] at h1; cases h1
  new := fun k hk => by
    rcases b.new k hk with h1 | h1
    · rcases a.new k h1 with h2 | h2
      · exact .inl h2
      · exact .inr (by rw [b.grow.rho k h1]; exact h2)
    · exact .inr (dead (a.live _) h1)
  gnew := fun c o e => by
    rcases b.gnew c o e with ⟨o', h1⟩ | h1
    · exact a.gnew c o' h1
    · exact .inr (dead (a.live _) h1)
theorem Step.thenQuiet {L c : Addr} (a : Step L x0 y) {h' : Heap} (hk : ∀ b o, b ≠ c → y.h.get? b = some o → h'.get? b = some o) (hc : x0.h.get? c = none) : Step L x0 { y with h := h' } where
  grow := a.grow
  live := fun b e => by
    have hne : b ≠ c := fun q => by rw [q, hc] at e; cases e
    obtain ⟨o, ho⟩ := Option.isSome_iff_exists.mp (a.live b e)
    show (h'.get? b).isSome = true
    rw [hk b o hne ho]; rfl
  pres := fun b o hL e hu => hk b o (fun q => by rw [q, hc] at e; cases e) (a.pres b o hL e hu)
  new := a.new
  gnew := a.gnew
theorem Hid.step {I L : Addr} (H : Hid I y) {o : Obj} (e : y.h.get? I = some o) (hL : I ≠ L) (S : Step L y z) : Hid I z ∧ z.h.get? I = some o := by
  refine ⟨⟨?_, fun k hk q => ?_⟩, S.pres I o hL e H.un⟩
  · cases q : z.g.get? I with
    | none => rfl
    | some o' =>
      rcases S.gnew I o' q with ⟨o'', h⟩ | h
      · rw [H.g] at h; cases h
      · rw [e] at h; cases h
  · rcases S.new k hk with h1 | h
    · exact H.un k h1 ((S.grow.rho k h1).symm.trans q)
    · rw [q, e] at h; cases h
theorem LR.stepL (P : St prog w hB x.g x.ρ x.σ x.h) (X : LR hB n env x l) {L : Addr} (S : Step L x y) (hX : ¬ frX env L) : LR hB n env y l where
  kind := X.kind
  scope := X.scope
  ns := by
    obtain ⟨m, h1, h2⟩ := X.ns
    refine ⟨m, h1.at' fun o e => S.pres _ o (fun q => hX (.inl q.symm)) e X.lown, fun i av nm a b c d => ?_⟩
    obtain ⟨v, e, r⟩ := h2 i av nm a b c d
    exact ⟨v, e, r.step S⟩
  lout := by
    cases e : y.g.get? env.locals with
    | none => rfl
    | some o =>
      obtain ⟨m, h1, _⟩ := X.ns
      rcases S.gnew _ _ e with ⟨o', q⟩ | q
      · rw [X.lout] at q; cases q
      · exact (ns_live h1 q).elim
  lup := X.lup
  lown := fun k hk q => by
    obtain ⟨m, h1, _⟩ := X.ns
    rcases S.new k hk with h2 | h2
    · exact X.lown k h2 ((S.grow.rho k h2).symm.trans q)
    · rw [q] at h2; exact (ns_live h1 h2).elim
  cells := fun i av nm a b c d => by
    obtain ⟨cc, v, e1, e2, e3⟩ := X.cells i av nm a b c d
    have hk := P.ownCell e2
    obtain ⟨o, ho, hd⟩ := e2
    exact ⟨cc, v, e1, ⟨o, S.pres cc o (fun q => hX (.inr ⟨_, mem_of_lookup e1, q⟩)) ho hk, hd⟩, e3.step S⟩
  cin := fun nm c hm => by
    obtain ⟨h1, h2, v, h3⟩ := X.cin nm c hm
    have hk := P.ownCell h3
    obtain ⟨o, ho, hd⟩ := h3
    refine ⟨h1, ?_, v, o, S.pres c o (fun q => hX (.inr ⟨_, hm, q⟩)) ho hk, hd⟩
    cases e : y.g.get? c with
    | none => rfl
    | some o' =>
      rcases S.gnew _ _ e with ⟨o'', q⟩ | q
      · rw [h2] at q; cases q
      · rw [ho] at q; cases q
  capart := X.capart
  chas := X.chas
theorem Inv.adopt (I : Inv prog w hB n env y l) {D : Addr} {o : Obj} (H : Hid D y) (e : y.h.get? D = some o) (hX : ¬ frX env D) :
    ∃ g', Inv prog w hB n env { y with g := g' } l ∧ g'.get? D = some o ∧ (∀ b o, y.g.get? b = some o → g'.get? b = some o) ∧ ∀ b o', g'.get? b = some o' → (∃ o'', y.g.get? b = some o'') ∨ b = D := by
  obtain ⟨g', f1, f2, f3, f4⟩ := grow_one y.g y.h D o I.st.sub e
  have gone : ∀ a, a ≠ D → y.g.get? a = none → g'.get? a = none := fun a q e => by
    cases c : g'.get? a with
    | none => rfl
    | some o' =>
      rcases f4 _ _ c with ⟨o'', d⟩ | d
      · rw [e] at d; cases d
      · exact absurd d q
  have G : Grow y.g y.ρ y.σ g' y.ρ y.σ := ⟨f1, fun _ e => e, fun _ _ => rfl⟩
  have X := I.lr
  refine ⟨g', ⟨⟨fun b o e => f1 b o (I.st.base b o e), f2, fun j oj ej => ?_, I.st.inj, I.st.nd, (let ⟨a, o, h1, h2⟩ := I.st.pin; ⟨a, o, h1, f1 a o h2⟩)⟩, X.kind, X.scope, ?_, gone _ (fun q => hX (.inl q.symm)) X.lout, X.lup, X.lown, fun i av nm a b c d => ?_, fun nm c hm => ?_, X.capart, X.chas⟩, f3, f1, f4⟩
  · obtain ⟨h1, h2, h3⟩ := I.st.own j oj ej
    exact ⟨gone _ (H.un j (by rw [ej]; rfl)) h1, h2, h3.keep G f2 rfl⟩
  · obtain ⟨m, hn, hv⟩ := X.ns
    refine ⟨m, hn, fun i av nm a b c d => ?_⟩
    obtain ⟨v, e, r⟩ := hv i av nm a b c d
    exact ⟨v, e, r.mono G⟩
  · obtain ⟨cc, v, e1, e2, e3⟩ := X.cells i av nm a b c d
    exact ⟨cc, v, e1, e2, e3.mono G⟩
  · obtain ⟨h1, h2, h3⟩ := X.cin nm c hm
    exact ⟨h1, gone _ (fun q => hX (.inr ⟨_, hm, q⟩)) h2, h3⟩
end
end Mine
end
section
open PySem PySem.W PyProof.Rows
namespace Mine
open PySem PySem.Calls
noncomputable def PEc (prog : Program) (w : World) (hB : Heap) (N : Nat) (C : CallT) (e : E) : Prop := ∀ (n : Nm) (env : Env) (as : List PySem.Expr) (l : List AV) (Q : Bool → H → Prop) (A : Around) (x : Sta) (s : Shared) (Qr : Bool → Shared → Prop),
  FrOK n env → mEs n e as = true → Rb A N → Inv prog w hB n env x l → s.heap = x.h → evb tb C true e l x.σ Q → ConB prog w hB n env l x s Q Qr →
  wpAny (model prog w) A (forIn as true fun c r => if r = true then do let ok ← isTrue c env (eval c env); pure (ForInStep.yield ok) else pure (ForInStep.yield r)) Qr EF s
theorem forIn_false {env : Env} : ∀ (as : List PySem.Expr), (forIn as false fun c r => if r = true then do let ok ← isTrue c env (eval c env); pure (ForInStep.yield ok) else pure (ForInStep.yield r) : Sem Bool) = pure false
  | [] => by rw [List.forIn_nil]
  | a :: r => by
    rw [List.forIn_cons]
    simp only [Bool.false_eq_true, if_false, pure_bind]
    exact forIn_false r
section
variable {prog : Program} {w : World} {K : Frag} {hB : Heap} {n : Nm} {env : Env} {A : Around} {x y z x0 : Sta} {l : List AV} {s : Shared} {N : Nat} {C : CallT} {own : List Nat}
theorem pec_nil : PEc prog w hB N C .nil := fun n env as l Q A x s Qr F m R I hs he k => by
  refine isE_i m ?_
  rw [List.forIn_nil]
  exact wpAny_pure (ConB.here (tk := s.toks) I hs k he)
theorem pec_cons {a b : E} (ha : PT prog w hB N C a) (hb : PEc prog w hB N C b) : PEc prog w hB N C (.cons a b) := fun n env as l Q A x s Qr F m R I hs he k => by
  cases as with
  | nil => exact ft m
  | cons a' as =>
    have m1 := al m
    have m2 := ar m
    rw [List.forIn_cons]
    simp only [if_true, bind_assoc]
    refine wpAny_bind (ha n env _ l (fun r σ1 => match true, r with
      | true, true => evb tb C true b l σ1 Q
      | true, false => Q false σ1
      | false, true => Q true σ1
      | false, false => evb tb C true b l σ1 Q) A x s _ F m1 R I hs he fun r y tk I1 S1 q1 => ?_)
    refine wpAny_bind (wpAny_pure ?_)
    cases r with
    | true => exact hb n env as l _ A y _ _ F m2 R I1 rfl q1 (ConB.trans k S1)
    | false =>
      show wpAny _ _ (forIn as false _) _ _ _
      rw [forIn_false]
      exact wpAny_pure (k _ y tk I1 S1 q1)
theorem compOK_spec {sc : Scope} {nm : Str} (h : compOK n sc nm = true) : sc.kind = .function ∧ (sc.names.map (·.1)).Nodup ∧ sc.names.lookup nm = some .local ∧ (∀ p ∈ sc.names, p.2 ≠ .cell ∧ (p.2 = .free → n.scope.names.lookup p.1 = some .cell) ∧ (p.2 = .local → p.1 = nm ∨ p.1 ∉ n.loc)) := by
  simp only [compOK, Bool.and_eq_true, beq_iff_eq, decide_eq_true_eq, List.all_eq_true] at h
  obtain ⟨⟨⟨h1, h2⟩, h3⟩, h4⟩ := h
  refine ⟨h1, keysNd_nodup h2, h3, fun p hp => ?_⟩
  have h5 := h4 p hp
  cases q : p.2 with
  | cell => rw [q] at h5; simp at h5
  | free => rw [q] at h5; exact ⟨by simp, fun _ => by simpa using h5, fun e => by simp at e⟩
  | «local» =>
    rw [q] at h5
    refine ⟨by simp, fun e => by simp at e, fun _ => ?_⟩
    simp only [Bool.or_eq_true, decide_eq_true_eq, Bool.not_eq_true', List.any_eq_false, beq_iff_eq] at h5
    rcases h5 with h5 | h5
    · exact .inl h5
    · exact .inr fun hm => h5 _ hm rfl
  | _ => exact ⟨by simp, fun e => by simp at e, fun e => by simp at e⟩
theorem comp_some {y : AV} {G : PyData → Prop} {N : Prop} (h : match (some y : Option AV) with
    | some (.d y) => G y
    | some _ => False
    | none => N) : ∃ d, y = .d d ∧ G d := by
  cases y <;> first | exact ⟨_, rfl, h⟩ | exact h.elim
theorem comp_core (W : SW K hB) {elt cnd : E} (hel : PE prog w hB N C elt) (hcn : PEc prog w hB N C cnd) {elt' src' : PySem.Expr} {cnd' : List PySem.Expr} {sc : Scope} {i : Nat} {nm : Str} {px pos : Pos}
    (F : FrOK n env) (R : Rb A N) (I0 : Inv prog w hB n env x0 l) (hs : s.heap = x0.h) (m1 : mE { n with scope := relS sc n.scope } elt elt' = true) (m2 : mEs { n with scope := relS sc n.scope } cnd cnd' = true)
    (m3 : isLoc { n with scope := relS sc n.scope } i nm = true) (m4 : compOK n sc nm = true) {v : AV} {vv : Value} {Q : AV → H → Prop} (r0 : VRx x0 v vv)
    (q0 : itsA v fun xs => compA (fun x σ' k => evb tb C true cnd (l.set i x) σ' fun t σ2 => match t with
      | true => ev tb C elt (l.set i x) σ2 fun y σ3 => k (some y) σ3
      | false => k none σ2) xs [] x0.σ Q) {RR : Value → Addr → Result → Shared → Prop}
    (k : ∀ D Cc z tk ys, Inv prog w hB n env z l → Step env.locals x0 z → VRx z (.d (.list ys)) (.ref D) → (∃ m, z.h.Ns Cc m) → Hid Cc z → ¬ frX env Cc → x0.h.get? Cc = none → Q (.d (.list ys)) z.σ → RR (.ref D) Cc (.ok .next) { s with heap := z.h, toks := tk }) :
    wpAny (model prog w) A (pyIter vv) (fun it s₂ => wpAny (model prog w) A (newList []) (fun acc s₃ => wpAny (model prog w) A (newFunctionEnv sc env.globals (closL env.cells sc.names []) [] env.qual none .none (some env)) (fun cenv s₄ =>
      codeAny (model prog w) A (.compStart (.ListComp elt' [⟨.Name nm px, src', cnd', 0⟩] sc pos) 0 it acc { cenv with scope := relabel sc env }) (RR acc cenv.locals) s₄) EF s₃) EF s₂) EF s := by
  obtain ⟨c1, c2, c3, c4⟩ := compOK_spec m4
  obtain ⟨xs, hq, hz, hflat, op⟩ := iter_open (prog := prog) (w := w) (A := A) R.handled I0.st hs r0 q0
  refine op _ fun It fp P T h1 X hI hk1 t0 => ?_
  refine wpAny_newObj_type (wpAny_newFunctionEnv (fun p hp => (c4 p hp).1) (by intro y hy; simp at hy) (fun h3 hns hsb => ?_) c1)
  dsimp only at hns hsb ⊢
  generalize hH2 : h1.push { cls := .type "list", dict := none, data := .seq ([] : List Value).toArray } = H2 at hns hsb ⊢
  have hC : H2.objs.size = h1.objs.size + 1 := by rw [← hH2, Heap.size_push]
  have old1 : ∀ b o, h1.get? b = some o → h3.get? b = some o := fun b o e => hsb.extBut b o (Nat.ne_of_lt (by rw [hC]; exact Nat.lt_succ_of_lt (Heap.lt_size e))) (Heap.get?_push_of_some _ (hH2 ▸ Heap.get?_push_of_some _ e))
  have old : ∀ b o, x0.h.get? b = some o → h3.get? b = some o := fun b o e => old1 b o (hk1 b o e)
  have dn : ∀ a, h1.objs.size ≤ a → x0.h.get? a = none := fun a ha => by
    cases q : x0.h.get? a with
    | none => rfl
    | some o => exact absurd (Heap.lt_size (hk1 a o q)) (Nat.not_lt.mpr ha)
  have hDn : x0.h.get? h1.objs.size = none := dn _ (Nat.le_refl _)
  have hCn : x0.h.get? H2.objs.size = none := dn _ (by rw [hC]; exact Nat.le_succ _)
  obtain ⟨oI, eI⟩ := X.live 0 h1 t0
  have hIlt := Heap.lt_size eI
  have hID : It ≠ h1.objs.size := Nat.ne_of_lt hIlt
  have hIC : It ≠ H2.objs.size := Nat.ne_of_lt (by rw [hC]; exact Nat.lt_succ_of_lt hIlt)
  have hDC : h1.objs.size ≠ H2.objs.size := Nat.ne_of_lt (by rw [hC]; exact Nat.lt_succ_self _)
  have hDg : h3.get? h1.objs.size = some (listOf #[] 0) := hsb.extBut _ _ hDC (Heap.get?_push_of_some _ (hH2 ▸ Heap.get?_push_size _ rfl))
  generalize hDe : h1.objs.size = D at *
  generalize hCe : H2.objs.size = Cc at *
  have hBn : hB.get? Cc = none := by
    cases q : hB.get? Cc with
    | none => rfl
    | some o => have := keep_all I0.st _ _ q; rw [hCn] at this; cases this
  have HI0 := hid_new I0.st hI
  have HD0 := hid_new I0.st hDn
  have HC0 := hid_new I0.st hCn
  have nI := not_frX I0.lr hI
  have nD := not_frX I0.lr hDn
  have nC := not_frX I0.lr hCn
  have hcl : ∀ p ∈ closL env.cells sc.names [], env.cells.lookup p.1 = some p.2 := fun p hp => by
    rcases closL_mem _ _ _ hp with h | h
    · simp at h
    · exact h.1
  have nX : ∀ a, x0.h.get? a = none → a ≠ Cc → ¬ frX (compEnvC sc (closL env.cells sc.names []) Cc env) a := fun a ha hne => by
    rintro (h | ⟨p, hp, h⟩)
    · exact hne h
    · obtain ⟨_, _, v, o, ho, _⟩ := I0.lr.cin p.1 p.2 (mem_of_lookup (hcl p hp))
      rw [h, ha] at ho; cases ho
  have hsc : relabel sc env = relS sc n.scope := by rw [I0.lr.scope]; rfl
  have y0i : Inv prog w hB { n with scope := relS sc n.scope } (compEnvC sc (closL env.cells sc.names []) Cc env) { x0 with h := h3 } (l.set i .un) := by
    have kin : ∀ nm' kd, (compEnvC sc (closL env.cells sc.names []) Cc env).kindOf nm' = some kd → sc.names.lookup nm' = some kd ∨ (kd = .cell ∧ sc.names.lookup nm' = some .free) := fun nm' kd h => relS_lookup (outer := env.scope) h
    have fre : ∀ nm', sc.names.lookup nm' = some .free → env.kindOf nm' = some .cell := fun nm' h => by
      have := (c4 _ (mem_of_lookup h)).2.1 rfl
      rw [Env.kindOf, ← I0.lr.scope]; exact this
    refine ⟨I0.st.quiet (fun a o _ e => old a o e) HC0.g HC0.un, c1, hsc.symm, ⟨_, hns, fun j av nm' a b c d => ?_⟩, HC0.g, hBn, HC0.un, fun j av nm' a b c d => ?_, fun nm' c hm => ?_, ?_, fun nm' hk => ?_⟩
    · rcases kin _ _ d with h | ⟨h, _⟩
      · rcases (c4 _ (mem_of_lookup h)).2.2 rfl with e | e
        · obtain ⟨q1, _⟩ := isLoc_spec m3
          have := loc_inj F (show n.loc[j]? = some nm from (show nm' = nm from e) ▸ c) q1
          subst this
          rcases set_get a with ⟨_, rfl⟩ | ⟨q, _⟩
          · exact absurd rfl b
          · exact absurd rfl q
        · exact absurd (List.mem_of_getElem? c) e
      · cases h
    · have hfree : sc.names.lookup nm' = some .free := by
        rcases d with d | d
        · rcases kin _ _ d with h | ⟨_, h⟩
          · exact absurd rfl (c4 _ (mem_of_lookup h)).1
          · exact h
        · rcases kin _ _ d with h | ⟨h, _⟩
          · exact h
          · cases h
      have hcell := fre _ hfree
      rcases set_get a with ⟨_, rfl⟩ | ⟨q, a'⟩
      · exact absurd rfl b
      · obtain ⟨cc, v, e1, ⟨o, ho, hd⟩, e3⟩ := I0.lr.cells j av nm' a' b c (.inl hcell)
        refine ⟨cc, v, ?_, ⟨o, old _ _ ho, hd⟩, e3⟩
        exact lookup_of_mem (closL_nodup _ _ c2 List.nodup_nil (fun x hx => by simp at hx)) (closL_has sc.names [] (nm', cc) (.inr ⟨e1, mem_of_lookup hfree⟩))
    · obtain ⟨g1, g2, v, o, ho, hd⟩ := I0.lr.cin nm' c (mem_of_lookup (hcl _ hm))
      exact ⟨g1, g2, v, o, old _ _ ho, hd⟩
    · have nd := closL_nodup (cells := env.cells) sc.names [] c2 List.nodup_nil (fun x hx => by simp at hx)
      rw [List.Nodup, List.pairwise_map] at nd
      refine nd.imp_of_mem fun {p q} hp hq hne => ?_
      rcases pairwise_inj (fun _ _ h => Ne.symm h) I0.lr.capart (mem_of_lookup (hcl p hp)) (mem_of_lookup (hcl q hq)) with h | h
      · exact absurd (congrArg Prod.fst h) hne
      · exact h
    · rcases kin _ _ hk with h | ⟨_, h⟩
      · exact absurd rfl (c4 _ (mem_of_lookup h)).1
      · obtain ⟨c, hc⟩ := I0.lr.chas nm' (fre _ h)
        exact ⟨c, lookup_of_mem (closL_nodup _ _ c2 List.nodup_nil (fun x hx => by simp at hx)) (closL_has sc.names [] (nm', c) (.inr ⟨hc, mem_of_lookup h⟩))⟩
  have F' : FrOK { n with scope := relS sc n.scope } (compEnvC sc (closL env.cells sc.names []) Cc env) := ⟨F.glo, F.att, F.eg, F.eb, F.nd⟩
  have hkl : (compEnvC sc (closL env.cells sc.names []) Cc env).kindOf nm = some .local := lookup_relabel_local c3
  obtain ⟨hloc, _⟩ := isLoc_spec m3
  have loop : codeAny (model prog w) A (.compLoop (.ListComp elt' [⟨.Name nm px, src', cnd', 0⟩] sc pos) 0 (.ref It) (.ref D) (compEnvC sc (closL env.cells sc.names []) Cc env)) (RR (.ref D) Cc) { s with heap := h3, toks := s.toks + ([] : List (Str × Value)).length } := by
    refine codeAny_compLoop_tests (fun k' s' => Ex5 fun i' y tk av acc => A12 (s' = { s with heap := y.h, toks := tk }) (Inv prog w hB n env y l) (Inv prog w hB { n with scope := relS sc n.scope } (compEnvC sc (closL env.cells sc.names []) Cc env) y (l.set i av)) (Step env.locals x0 y)
        (Hid It y) (Hid D y) (T i' y.h) (Ex3 fun items nn as => y.h.get? D = some (listOf items nn) ∧ ReadsAll y.g items.toList acc as) (acc.length ≤ i') (i' ≤ xs.length) (k' = xs.length + 1 - i') <|
        compA (fun x σ' k => evb tb C true cnd (l.set i x) σ' fun t σ2 => match t with
          | true => ev tb C elt (l.set i x) σ2 fun y σ3 => k (some y) σ3
          | false => k none σ2) (xs.drop i') acc y.σ Q) ?_ (xs.length + 1) ?_
    · rintro k' s' ⟨i', y, tk, av, acc, rfl, J, Ji, SX, HI, HD, t, ⟨items, nn, as, hg, hra⟩, hacc, hle, rfl, hw⟩
      by_cases hlt : i' < xs.length
      · refine anyE (X.W.item i' _ _ _ hlt t fun v h' tk' hp t' hkp => ?_)
        have hkp' : ∀ a o, a ≠ It → y.h.get? a = some o → h'.get? a = some o := fun a o q e => hkp a o (by simpa using q) e
        have hget : xs[i']? = some xs[i'] := List.getElem?_eq_getElem hlt
        rw [List.drop_eq_getElem_cons hlt] at hw
        have J1 := J.quiet HI hkp' nI
        have Ji1 := Ji.quiet HI hkp' (nX _ hI hIC)
        have SX1 := SX.thenQuiet hkp' hI
        have rv : VRx { y with h := h' } xs[i'] v := (X.val i' v _ hp hget).flat SX.grow.sub (hflat _ (List.getElem_mem hlt))
        refine wpAny_assign_Name (anyE (store_local (x := { y with h := h' }) (s := { s with heap := h', toks := tk' }) F' Ji1 rfl hloc hkl rv fun h2 tk2 Ji2 hsb2 => ?_))
        rw [List.set_set] at Ji2
        have hC2 : ∀ a o, a ≠ Cc → h'.get? a = some o → h2.get? a = some o := fun a o q e => (hsb2.2 a q).trans e
        have HCy : Hid Cc { y with h := h' } := ⟨Ji1.lr.lout, Ji1.lr.lown⟩
        have J2 := J1.quiet HCy hC2 nC
        have SX2 := SX1.thenQuiet hC2 hCn
        obtain ⟨oI', eI'⟩ := X.live _ _ t'
        have eI2 := hC2 _ _ hIC eI'
        have eD2 : h2.get? D = some (listOf items nn) := hC2 _ _ hDC (hkp' _ _ (Ne.symm hID) hg)
        have fpk : ∀ {u u' : Sta}, (∀ a o, x0.g.get? a = some o → u.g.get? a = some o) → St prog w hB u.g u.ρ u.σ u.h → St prog w hB u'.g u'.ρ u'.σ u'.h → (∀ a o, u.g.get? a = some o → u'.g.get? a = some o) → (∀ o, u.h.get? It = some o → u'.h.get? It = some o) → ∀ {j}, T j u.h → T j u'.h := fun {u u'} ga Pu Pu' gb hi {j} tj => by
          refine X.W.frame j _ _ tj fun b hb ob hob => ?_
          rcases X.fp b hb with rfl | ⟨o2, h2⟩
          · exact hi ob hob
          · have h3 := ga _ _ h2
            have h4 := Pu.sub _ _ h3
            rw [h4] at hob; cases hob
            exact Pu'.sub _ _ (gb _ _ h3)
        have t2 : T (i' + 1) h2 := fpk (u := { y with h := h' }) (u' := { y with h := h2 }) SX1.grow.sub J1.st J2.st (fun _ _ e => e) (fun o e => hC2 _ _ hIC e) t'
        refine anyE (hcn _ _ _ _ _ A { y with h := h2 } _ _ F' m2 R Ji2 rfl hw fun tt y3 tk3 Ji3 S3 q3 => ?_)
        have S3' : Step Cc { y with h := h2 } y3 := S3
        have J3 : Inv prog w hB n env y3 l := ⟨Ji3.st, LR.stepL J2.st J2.lr S3' nC⟩
        have SX3 := SX2.thenFresh S3' hCn
        obtain ⟨HI3, eI3⟩ := Hid.step (y := { y with h := h2 }) ⟨HI.g, HI.un⟩ eI2 hIC S3'
        obtain ⟨HD3, eD3⟩ := Hid.step (y := { y with h := h2 }) ⟨HD.g, HD.un⟩ eD2 hDC S3'
        have t3 : T (i' + 1) y3.h := fpk (u := { y with h := h2 }) (u' := y3) SX2.grow.sub J2.st J3.st S3'.grow.sub (fun o e => by rw [eI2] at e; cases e; exact eI3) t2
        cases tt with
        | false =>
          exact ⟨xs.length + 1 - (i' + 1), by omega, i' + 1, y3, tk3, xs[i'], acc, rfl, J3, Ji3, SX3, HI3, HD3, t3, ⟨items, nn, as, eD3, ReadsAll.keeps S3'.grow.sub hra⟩, by omega, hlt, rfl, q3⟩
        | true =>
          simp only [if_true]
          refine anyE (hel _ _ _ _ _ A y3 _ _ F' m1 R Ji3 rfl q3 fun ev4 v4 y4 tk4 Ji4 S4 r4 q4 => ?_)
          have S4' : Step Cc y3 y4 := S4
          have J4 : Inv prog w hB n env y4 l := ⟨Ji4.st, LR.stepL J3.st J3.lr S4' nC⟩
          have SX4 := SX3.thenFresh S4' hCn
          obtain ⟨HI4, eI4⟩ := Hid.step HI3 eI3 hIC S4'
          obtain ⟨HD4, eD4⟩ := Hid.step HD3 eD3 hDC S4'
          have t4 : T (i' + 1) y4.h := fpk (u := y3) (u' := y4) SX3.grow.sub J3.st J4.st S4'.grow.sub (fun o e => by rw [eI3] at e; cases e; exact eI4) t3
          obtain ⟨d, rfl, q4⟩ := comp_some q4
          obtain ⟨_, r4⟩ := r4.rd
          have hl := ra_len hra
          rw [Array.length_toList] at hl
          refine wpAny_list_append_plain (s := { s with heap := y4.h, toks := tk4 }) (items := items) ⟨nn, eD4⟩ (fun h5 hp5 hsb5 => ?_) (by rw [sizeLine_eq]; omega)
          obtain ⟨n5, hp5⟩ := hp5
          have hk5 : ∀ a o, a ≠ D → y4.h.get? a = some o → h5.get? a = some o := fun a o q e => (hsb5.2 a q).trans e
          have J5 := J4.quiet HD4 hk5 nD
          have t5 : T (i' + 1) h5 := fpk (u := y4) (u' := { y4 with h := h5 }) SX4.grow.sub J4.st J5.st (fun _ _ e => e) (fun o e => hk5 _ _ hID e) t4
          obtain ⟨bs, hra5⟩ := ra_append ⟨_, ReadsAll.keeps S4'.grow.sub (ReadsAll.keeps S3'.grow.sub hra)⟩ (ra_one r4)
          exact ⟨xs.length + 1 - (i' + 1), by omega, i' + 1, { y4 with h := h5 }, tk4, xs[i'], acc ++ [d], rfl, J5, Ji4.quiet HD4 hk5 (nX _ hDn hDC), SX4.thenQuiet hk5 hDn, ⟨HI4.g, HI4.un⟩, ⟨HD4.g, HD4.un⟩, t5,
            ⟨_, n5, bs, hp5, by rw [Array.toList_push]; exact hra5⟩, by rw [List.length_append]; simp; omega, hlt, rfl, q4⟩
      · have hi : i' = xs.length := Nat.le_antisymm hle (Nat.le_of_not_lt hlt)
        subst hi
        refine anyE (X.W.done _ _ _ t fun h' tk' hkp => ?_)
        have hkp' : ∀ a o, a ≠ It → y.h.get? a = some o → h'.get? a = some o := fun a o q e => hkp a o (by simpa using q) e
        rw [List.drop_length] at hw
        have J1 := J.quiet HI hkp' nI
        have Ji1 := Ji.quiet HI hkp' (nX _ hI hIC)
        have SX1 := SX.thenQuiet hkp' hI
        have eD1 : h'.get? D = some (listOf items nn) := hkp' _ _ (Ne.symm hID) hg
        have HCy : Hid Cc { y with h := h' } := ⟨Ji1.lr.lout, Ji1.lr.lown⟩
        obtain ⟨g', J2, gD, gs, gn⟩ := J1.adopt (D := D) ⟨HD.g, HD.un⟩ eD1 nD
        obtain ⟨mC, hnC, _⟩ := Ji1.lr.ns
        refine k D Cc { y with g := g', h := h' } tk' acc J2 ⟨⟨fun a o e => gs _ _ (SX1.grow.sub a o e), SX1.grow.dom, SX1.grow.rho⟩, SX1.live, SX1.pres, SX1.new, fun a o e => ?_⟩ (.d (.list gD rfl rfl (ReadsAll.keeps gs hra))) ⟨mC, hnC⟩ ⟨?_, HCy.un⟩ nC hCn hw
        · rcases gn a o e with ⟨o'', h⟩ | h
          · exact SX1.gnew a o'' h
          · exact .inr (by rw [h]; exact hDn)
        · cases q : g'.get? Cc with
          | none => rfl
          | some o =>
            rcases gn _ _ q with ⟨o'', h⟩ | h
            · rw [show y.g.get? Cc = none from HCy.g] at h; cases h
            · exact absurd h (Ne.symm hDC)
    · exact ⟨0, { x0 with h := h3 }, s.toks + ([] : List (Str × Value)).length, .un, [], rfl, I0.quiet HC0 (fun a o _ e => old a o e) nC, y0i, (Step.refl _ x0).thenQuiet (fun a o _ e => old a o e) hCn, ⟨HI0.g, HI0.un⟩, ⟨HD0.g, HD0.un⟩,
        X.W.frame 0 _ _ t0 fun b _ o e => old1 b o e, ⟨#[], 0, [], hDg, .nil⟩, Nat.le_refl _, Nat.zero_le _, by omega, hq⟩
  exact codeAny_compStart_list loop (X.W.self 0 _ _ _ (X.W.frame 0 _ _ t0 fun b _ o e => old1 b o e) loop)
theorem clos_eq {sc : Scope} (h : ∀ nm, (nm, NameKind.free) ∈ sc.names → (env.cells.lookup nm).isSome = true) : closureFor sc env = pure (closL env.cells sc.names []) := by
  unfold closureFor
  simp only [bind_pure]
  refine closL_run (fun nm c acc hc => ?_) (fun nm k acc hk => ?_) sc.names [] h
  · dsimp only
    unfold cellOf
    rw [hc]
    simp
  · dsimp only
    rw [if_neg (by simpa using hk)]
theorem comp_inv {a : PySem.Expr} {elt src cnd : E} {i : Nat} (m : mE n (.comp elt src cnd i) a = true) : ∃ elt' nm px src' cnd' sc p, a = .ListComp elt' [⟨.Name nm px, src', cnd', 0⟩] sc p ∧ mE n src src' = true ∧ mE { n with scope := relS sc n.scope } elt elt' = true ∧
    mEs { n with scope := relS sc n.scope } cnd cnd' = true ∧ isLoc { n with scope := relS sc n.scope } i nm = true ∧ compOK n sc nm = true := by
  refine vCom_i m fun elt' gs sc p m => ?_
  refine on1_i m fun g m => ?_
  obtain ⟨t, it, ifs, as⟩ := g
  refine vNm_i (x := t) m fun nm px m => ?_
  have e := dq (al (al (al (al (al m)))))
  have e : as = 0 := e
  subst e
  exact ⟨_, _, _, _, _, _, _, rfl, ar (al (al (al (al m)))), ar (al (al (al m))), ar (al (al m)), ar (al m), ar m⟩
theorem comp_side {sc : Scope} {nm : Str} (I : Inv prog w hB n env x l) (h : compOK n sc nm = true) : closureFor sc env = pure (closL env.cells sc.names []) ∧ sc.kind = .function ∧ (∀ x ∈ sc.names, x.2 = .local → sc.names.lookup x.1 = some .local) := by
  obtain ⟨c1, c2, c3, c4⟩ := compOK_spec h
  refine ⟨clos_eq fun nm' hm => ?_, c1, fun x hx he => ?_⟩
  · have := (c4 _ hm).2.1 rfl
    rw [I.lr.scope] at this
    exact Option.isSome_iff_exists.mpr (I.lr.chas nm' this)
  · obtain ⟨a, b⟩ := x
    simp at he; subst he
    exact lookup_of_mem c2 hx
theorem pe_comp (W : SW K hB) {elt src cnd : E} (i : Nat) (hel : PE prog w hB N C elt) (hs : PE prog w hB N C src) (hcn : PEc prog w hB N C cnd) : PE prog w hB N C (.comp elt src cnd i) := fun n env a l Q A x s Qr F m R I hsx he k => by
  obtain ⟨elt', nm, px, src', cnd', sc, p, rfl, m0, m1, m2, m3, m4⟩ := comp_inv m
  obtain ⟨d1, d2, d3⟩ := comp_side I m4
  rw [eval_ListComp]
  refine wpAny_comprehension_free (use := none) rfl (folded_plain (mE_plain _ _ _ m0) _) d1 d2 d3 ?_
  refine hs n env _ l _ A x s _ F m0 R I hsx he fun av v y tk I1 S1 r1 q1 => ?_
  refine comp_core (s := { s with heap := y.h, toks := tk }) W hel hcn F R I1 rfl m1 m2 m3 m4 r1 q1 fun D Cc z tk2 ys I2 S2 r2 hC HC nC hCn q2 => ?_
  obtain ⟨mC, hnC⟩ := hC
  refine ⟨mC, hnC, fun h' hsb => ?_⟩
  have hk : ∀ a o, a ≠ Cc → z.h.get? a = some o → h'.get? a = some o := fun a o q e => (hsb.2 a q).trans e
  exact k _ _ { z with h := h' } tk2 (I2.quiet HC hk nC) ((S1.trans S2).thenQuiet hk (dead (S1.live Cc) hCn)) r2 q2
theorem pa_comp (W : SW K hB) {elt src cnd : E} (i : Nat) (hel : PE prog w hB N C elt) (hs : PE prog w hB N C src) (hcn : PEc prog w hB N C cnd) : PA prog w hB N C (.comp elt src cnd i) := fun n env a l Q A x s own j nmj pxj pos Qr F hj m R I hsx he k => by
  have m' := m
  obtain ⟨elt', nm, px, src', cnd', sc, p, rfl, m0, m1, m2, m3, m4⟩ := comp_inv m
  obtain ⟨d1, d2, d3⟩ := comp_side I m4
  have hsw : ∃ b : Bool, swapsWith (.ListComp elt' [⟨.Name nm px, src', cnd', 0⟩] sc p) (some (.Name nmj pxj)) pos.line env = pure b := ⟨_, rfl⟩
  obtain ⟨b, hsw⟩ := hsw
  cases b with
  | false =>
    refine wpAny_Assign_Name ?_ hsw
    refine pe_comp W i hel hs hcn n env _ l _ A x s _ F m' R I hsx he fun av v y tk I1 S1 r1 q1 => ?_
    exact store_loc (own := own) (s := { s with heap := y.h, toks := tk }) F I1 rfl hj r1 fun h' tk' I2 M2 => k av _ tk' I2 ((Mv.ofStep S1).trans M2) q1
  | true =>
    rw [exec_Assign_Name_used _ _ _ _ hsw]
    refine wpAny_bind (wpAny_standAt (wpAny_bind ?_))
    show wpAny _ A (do let _ ← comprehension (.ListComp elt' [⟨.Name nm px, src', cnd', 0⟩] sc p) sc env _ (newList []) false (eval src' env) (some (assign (.Name nmj pxj) env))) _ _ s
    refine wpAny_bind (wpAny_mono (wpAny_comprehension_free (use := some (assign (.Name nmj pxj) env)) (Q := fun _ s' => Qr .next s') rfl (folded_plain (mE_plain _ _ _ m0) _) d1 d2 d3 ?_) (fun _ s' hq => wpAny_pure (wpAny_pure hq)) fun _ _ e => e)
    refine hs n env _ l _ A x s _ F m0 R I hsx he fun av v y tk I1 S1 r1 q1 => ?_
    refine comp_core (s := { s with heap := y.h, toks := tk }) W hel hcn F R I1 rfl m1 m2 m3 m4 r1 q1 fun D Cc z tk2 ys I2 S2 r2 hC HC nC hCn q2 => ?_
    obtain ⟨mC, hnC⟩ := hC
    show wpAny _ A (assign (.Name nmj pxj) env (.ref D)) _ _ _
    refine wpAny_assign_Name (store_loc (own := own) (x := z) (s := { s with heap := z.h, toks := tk2 }) F I2 rfl hj r2 fun h2 tk3 I3 M3 => ?_)
    obtain ⟨oC, esC, epC, eC, rC⟩ := hnC
    obtain ⟨HC3, eC3⟩ := HC.mv eC nC M3
    refine ⟨mC, ⟨oC, esC, epC, eC3, rC⟩, fun h' hsb => ?_⟩
    have hk : ∀ a o, a ≠ Cc → h2.get? a = some o → h'.get? a = some o := fun a o q e => (hsb.2 a q).trans e
    exact k _ { z with h := h' } tk3 (I3.quiet HC3 hk nC) (((Mv.ofStep (S1.trans S2)).trans M3).fresh (dead (S1.live Cc) hCn) hk) q2
end
end Mine
end
section
set_option maxRecDepth 100000
open PySem PySem.W PyProof.Rows
namespace Mine
open PySem PySem.Calls
noncomputable def runO {α : Type} (lt : Nat → Nat → Option Bool) : KasT α → Option α
  | .ret a => some a
  | .ask i j k => match lt i j with
    | some b => runO lt (k b)
    | none => none
theorem runO_wp {α : Type} {lt : Nat → Nat → Option Bool} {cmp : Nat → Nat → (Bool → Shared → Prop) → Shared → Prop} {s : Shared} (hc : ∀ i j b (C : Bool → Shared → Prop), lt i j = some b → C b s → cmp i j C s) {Q : α → Shared → Prop} :
    ∀ (t : KasT α) {r : α}, runO lt t = some r → Q r s → t.kasWp cmp Q s
  | .ret a, r, h, q => by simp [runO] at h; subst h; exact q
  | .ask i j k, r, h, q => by
    unfold runO at h
    split at h
    · rename_i b hb
      exact hc i j b _ hb (runO_wp hc (k b) h q)
    · cases h
noncomputable def ltR (rs : List Nat) (i j : Nat) : Option Bool := if i < rs.length && j < rs.length then some (decide (rs.getD i 0 < rs.getD j 0)) else none
noncomputable def goodR (rs : List Nat) : Bool := match runO (ltR rs) (kas_sort rs.length) with
  | some p => p.toList.isPerm (List.range rs.length) && decide (p.toList.Pairwise fun i j => ¬ (rs.getD j 0 < rs.getD i 0))
  | none => false
theorem good2 : ∀ a b : Fin 2, goodR [a.val, b.val] = true := by decide +kernel
theorem good3 : ∀ a b c : Fin 3, goodR [a.val, b.val, c.val] = true := by decide +kernel
theorem good4 : ∀ a b c d : Fin 4, goodR [a.val, b.val, c.val, d.val] = true := by decide +kernel
theorem ltP_irr (a : Int × Int) : ¬ ltP a a := by unfold ltP; omega
theorem ltP_trans {a b c : Int × Int} (h : ltP a b) (k : ltP b c) : ltP a c := by unfold ltP at *; omega
theorem ltP_neg {a b c : Int × Int} (h : ltP c b) (k : ¬ ltP a b) : ltP c a := by unfold ltP at *; omega
theorem countP_lt {α : Type} {p q : α → Bool} : ∀ {l : List α}, (∀ x ∈ l, p x = true → q x = true) → (∃ x ∈ l, q x = true ∧ p x = false) → l.countP p < l.countP q
  | [], _, h => by obtain ⟨x, hx, _⟩ := h; simp at hx
  | a :: r, h, hx => by
    have hr : r.countP p ≤ r.countP q := List.countP_mono_left fun x hx => h x (.tail _ hx)
    rw [List.countP_cons, List.countP_cons]
    obtain ⟨x, hm, h1, h2⟩ := hx
    rcases List.mem_cons.mp hm with rfl | hm
    · rw [h1, h2]; simp; omega
    · have := countP_lt (p := p) (q := q) (l := r) (fun x hx => h x (.tail _ hx)) ⟨x, hm, h1, h2⟩
      by_cases e : p a = true
      · rw [e, h a (.head _) e]; omega
      · rw [if_neg e]; split <;> omega
noncomputable def rank (ps : List (Int × Int)) (a : Int × Int) : Nat := ps.countP fun q => decide (ltP q a)
theorem rank_lt {ps : List (Int × Int)} {a b : Int × Int} (ha : a ∈ ps) : rank ps a < rank ps b ↔ ltP a b := by
  constructor
  · intro h
    by_cases q : ltP a b
    · exact q
    · have : rank ps b ≤ rank ps a := List.countP_mono_left fun x _ hx => by
        rw [decide_eq_true_eq] at hx ⊢
        exact ltP_neg hx q
      omega
  · intro h
    refine countP_lt (fun x _ hx => ?_) ⟨a, ha, by simpa using h, by simpa using ltP_irr a⟩
    rw [decide_eq_true_eq] at hx ⊢
    exact ltP_trans hx h
theorem rank_bound {ps : List (Int × Int)} {a : Int × Int} (ha : a ∈ ps) : rank ps a < ps.length := by
  have := countP_lt (p := fun q => decide (ltP q a)) (q := fun _ => true) (l := ps) (fun _ _ _ => rfl) ⟨a, ha, rfl, by simpa using ltP_irr a⟩
  rw [List.countP_true] at this
  exact this
theorem sort_runs {ps : List (Int × Int)} (h2 : 2 ≤ ps.length) (h4 : ps.length ≤ 4) : ∃ p : Array Nat, runO (fun i j => if i < ps.length && j < ps.length then some (decide (ltP (ps.getD i (0, 0)) (ps.getD j (0, 0)))) else none) (kas_sort ps.length) = some p ∧
    p.toList.Perm (List.range ps.length) ∧ (p.toList.map fun i => ps.getD i (0, 0)).Pairwise fun a b => ¬ ltP b a := by
  have key : goodR (ps.map (rank ps)) = true := by
    match ps, h2, h4 with
    | [a, b], _, _ => exact good2 ⟨rank [a, b] a, rank_bound (by simp)⟩ ⟨rank [a, b] b, rank_bound (by simp)⟩
    | [a, b, c], _, _ => exact good3 ⟨rank [a, b, c] a, rank_bound (by simp)⟩ ⟨rank [a, b, c] b, rank_bound (by simp)⟩ ⟨rank [a, b, c] c, rank_bound (by simp)⟩
    | [a, b, c, d], _, _ => exact good4 ⟨rank [a, b, c, d] a, rank_bound (by simp)⟩ ⟨rank [a, b, c, d] b, rank_bound (by simp)⟩ ⟨rank [a, b, c, d] c, rank_bound (by simp)⟩ ⟨rank [a, b, c, d] d, rank_bound (by simp)⟩
    | _ :: _ :: _ :: _ :: _ :: _, _, h => simp at h
    | [_], h, _ => simp at h
    | [], h, _ => simp at h
  have hget : ∀ i, i < ps.length → (ps.map (rank ps)).getD i 0 = rank ps (ps.getD i (0, 0)) ∧ ps.getD i (0, 0) ∈ ps := fun i hi => by
    have e : ps.getD i (0, 0) = ps[i] := by simp [List.getD, hi]
    refine ⟨by rw [e]; simp [List.getD, hi], by rw [e]; exact List.getElem_mem hi⟩
  have elt : ltR (ps.map (rank ps)) = fun i j => if i < ps.length && j < ps.length then some (decide (ltP (ps.getD i (0, 0)) (ps.getD j (0, 0)))) else none := by
    funext i j
    unfold ltR
    rw [List.length_map]
    by_cases h : (decide (i < ps.length) && decide (j < ps.length)) = true
    · rw [if_pos h, if_pos h]
      rw [Bool.and_eq_true, decide_eq_true_eq, decide_eq_true_eq] at h
      obtain ⟨e1, m1⟩ := hget i h.1
      obtain ⟨e2, _⟩ := hget j h.2
      rw [e1, e2]
      congr 1
      rw [decide_eq_decide]
      exact rank_lt m1
    · rw [if_neg h, if_neg h]
  unfold goodR at key
  rw [elt, List.length_map] at key
  split at key
  · rename_i p hp
    rw [Bool.and_eq_true, decide_eq_true_eq, List.isPerm_iff] at key
    refine ⟨p, hp, key.1, ?_⟩
    rw [List.pairwise_map]
    refine key.2.imp_of_mem fun {i j} hi hj h => ?_
    have bi : i < ps.length := by simpa using key.1.mem_iff.mp hi
    have bj : j < ps.length := by simpa using key.1.mem_iff.mp hj
    obtain ⟨e1, m1⟩ := hget i bi
    obtain ⟨e2, m2⟩ := hget j bj
    rw [e1, e2, rank_lt m2] at h
    exact h
  · cases key
section
variable {prog : Program} {w : World} {K : Frag} {hB : Heap} {n : Nm} {env : Env} {A : Around} {x y z x0 : Sta} {l : List AV} {s : Shared} {N : Nat} {C : CallT} {own : List Nat} {Q : AV → H → Prop} {Qr : Value → Shared → Prop}
theorem short_sort {E : Value → Shared → Prop} {a : Addr} {vs : List Value} {m : Nat} {P : PySem.Fin → Shared → Prop} (ho : s.heap.get? a = some (seqObj "list" vs.toArray m)) (hz : vs.length < 2)
    (h : ∀ h' c, (∀ b o, b ≠ a → s.heap.get? b = some o → h'.get? b = some o) → h'.get? a = some (listOf vs.toArray c) → P (.done (.ret .none)) { s with heap := h' }) :
    wpAny (model prog w) A (Builtin.«list.sort» ⟨[.ref a], []⟩) P E s := by
  rw [list_sort_plain]
  have ha : a < s.heap.objs.size := Heap.lt_size ho
  refine wpAny_bind (listItems_at ho rfl ?_)
  refine wpAny_bind (listUpdate_at ho rfl ?_ (by rw [List.size_toArray, sizeLine_eq]; omega) (Nat.zero_le _))
  obtain ⟨e1, ho1⟩ : ∃ e1, (s.heap.update a (Obj.mapSeq fun _ => (#[] : Array Value))).get? a = some (seqObj "list" #[] e1) := ⟨_, get?_update_seq ho (fun _ => #[])⟩
  refine wpAny_bind (seqEpoch_at ho1 rfl ?_)
  refine wpAny_bind (wpAny_newTuple ?_ (by show vs.length ≤ _; rw [sizeLine_eq]; omega))
  refine wpAny_bind (wpAny_newList ?_ (Nat.zero_le _))
  refine wpAny_holding ?_
  have s1 := Heap.SameBut.update s.heap a (Obj.mapSeq fun _ => (#[] : Array Value))
  have keep : ∀ b o, b ≠ a → s.heap.get? b = some o → (((s.heap.update a (Obj.mapSeq fun _ => (#[] : Array Value))).push (seqObj "tuple" vs.toArray 0)).push (seqObj "list" #[] 0)).get? b = some o :=
    fun b o hb e => Heap.get?_push_of_some _ (Heap.get?_push_of_some _ (s1.extBut b o hb e))
  have ho6 : (((s.heap.update a (Obj.mapSeq fun _ => (#[] : Array Value))).push (seqObj "tuple" vs.toArray 0)).push (seqObj "list" #[] 0)).get? a = some (seqObj "list" #[] e1) := Heap.get?_push_of_some _ (Heap.get?_push_of_some _ ho1)
  show wpAny (model prog w) A _ P E { s with heap := ((s.heap.update a (Obj.mapSeq fun _ => #[])).push (seqObj "tuple" vs.toArray 0)).push (seqObj "list" #[] 0) }
  generalize ((s.heap.update a (Obj.mapSeq fun _ => (#[] : Array Value))).push (seqObj "tuple" vs.toArray 0)).push (seqObj "list" #[] 0) = H6 at keep ho6 ⊢
  dsimp only
  have h2 : vs.toArray.size < 2 := by rw [List.size_toArray]; exact hz
  rw [if_pos h2, if_pos h2]
  refine wpAny_bind (wpAny_pure ?_)
  rw [StateT.run_pure]
  refine wpAny_bind (wpAny_pure ?_)
  dsimp only
  refine wpAny_bind (seqEpoch_at ho6 rfl ?_)
  have hout : (arrOf (SortSt.mk' general' (vs.toArray.zip vs.toArray) #[] 7 none)).map (·.2) = vs.toArray := by
    show (vs.toArray.zip vs.toArray).map (·.2) = vs.toArray
    match vs, hz with
    | [], _ => simp
    | [v], _ => simp
    | _ :: _ :: _, h => simp only [List.length_cons] at h; omega
  rw [hout]
  refine wpAny_bind (listUpdate_at ho6 rfl ?_ (Nat.zero_le _) (by rw [List.size_toArray, sizeLine_eq]; omega))
  simp only [bne_self_eq_false, Bool.false_eq_true, if_false]
  have s2 := Heap.SameBut.update H6 a (Obj.mapSeq fun _ => vs.toArray)
  obtain ⟨c2, hc2⟩ : ∃ c2, (H6.update a (Obj.mapSeq fun _ => vs.toArray)).get? a = some (seqObj "list" vs.toArray c2) := ⟨_, get?_update_seq ho6 fun _ => vs.toArray⟩
  exact wpAny_pure (h _ c2 (fun b o hb e => s2.extBut b o hb (keep b o hb e)) hc2)
theorem Con.sorted (I : Inv prog w hB n env x l) (k : Con prog w hB n env l x s Q Qr) {m : Str → Option Value} (hm : ∃ hv : ∀ (i : Nat) (av : AV) (nm : Str), l[i]? = some av → av ≠ .un → n.loc[i]? = some nm → env.kindOf nm = some .local → ∃ v, m nm = some v ∧ VRx x av v, x.h.Ns env.locals m) {tk : Nat} {h' : Heap} {D : Addr} {out : Array Value} {c : Nat} {ys : List PyData}
    (hk : ∀ b o, b ≠ env.locals → x.h.get? b = some o → h'.get? b = some o) (hn : h'.Ns env.locals m) (hD : x.h.get? D = none) (ho : h'.get? D = some (listOf out c)) (hr : ∃ as, ReadsAll x.g out.toList ys as) (q : Q (.d (.list ys)) x.σ) : Qr (.ref D) { s with heap := h', toks := tk } := by
  obtain ⟨hv, hn0⟩ := hm
  have X := I.lr
  have nD := not_frX X hD
  have HD := hid_new I.st hD
  have J : Inv prog w hB n env { x with h := h' } l := by
    refine ⟨I.st.quiet hk X.lout X.lown, X.kind, X.scope, ⟨m, hn, hv⟩, X.lout, X.lup, X.lown, fun i av nm a b c d => ?_, fun nm c hm => ?_, X.capart, X.chas⟩
    · obtain ⟨cc, v, e1, e2, e3⟩ := X.cells i av nm a b c d
      have hne := ns_ne_cell hn0 e2
      obtain ⟨o, ho, hd⟩ := e2
      exact ⟨cc, v, e1, ⟨o, hk _ _ hne ho, hd⟩, e3⟩
    · obtain ⟨g1, g2, v, g3⟩ := X.cin nm c hm
      have hne := ns_ne_cell hn0 g3
      obtain ⟨o, ho, hd⟩ := g3
      exact ⟨g1, g2, v, o, hk _ _ hne ho, hd⟩
  obtain ⟨g', J2, gD, gs, gn⟩ := J.adopt (D := D) ⟨HD.g, HD.un⟩ ho nD
  obtain ⟨as, hr⟩ := hr
  refine k (.d (.list ys)) (.ref D) { x with g := g', h := h' } tk J2 ⟨⟨gs, fun _ e => e, fun _ _ => rfl⟩, fun a e => ?_, fun a o hL e _ => hk a o hL e, fun _ e => .inl e, fun a o e => ?_⟩ (.d (.list gD rfl rfl (ReadsAll.keeps gs hr))) q
  · by_cases q : a = env.locals
    · subst q
      obtain ⟨o, _, _, e1, _⟩ := hn
      show (h'.get? env.locals).isSome = true
      rw [e1]; rfl
    · obtain ⟨o, ho⟩ := Option.isSome_iff_exists.mp e
      show (h'.get? a).isSome = true
      rw [hk a o q ho]; rfl
  · rcases gn a o e with h | h
    · exact .inl h
    · exact .inr (h ▸ hD)
noncomputable def allBut (h : Heap) (L : Addr) : List (Addr × Obj) := (List.range h.objs.size).filterMap fun a => if a = L then none else (h.get? a).map fun o => (a, o)
theorem allBut_spec {h : Heap} {L a : Addr} {o : Obj} : (a, o) ∈ allBut h L ↔ a ≠ L ∧ h.get? a = some o := by
  unfold allBut
  rw [List.mem_filterMap]
  constructor
  · rintro ⟨b, _, e⟩
    split at e
    · cases e
    · rename_i hb
      obtain ⟨o', e1, e2⟩ := Option.map_eq_some_iff.mp e
      obtain ⟨rfl, rfl⟩ := Prod.mk.inj e2
      exact ⟨hb, e1⟩
  · rintro ⟨h1, h2⟩
    exact ⟨a, List.mem_range.mpr (Heap.lt_size h2), by rw [if_neg h1, h2]; rfl⟩
theorem fr_all {h : Heap} {L : Addr} {m : Str → Option Value} (hn : h.Ns L m) : Fr {} L h m ∧ News {} L h (allBut h L) :=
  ⟨⟨hn, fun b o e => absurd (Heap.lt_size e) (by simp), Nat.zero_le _⟩, fun p hp => by
    obtain ⟨a, o⟩ := p
    obtain ⟨h1, h2⟩ := allBut_spec.mp hp
    exact ⟨h2, h1, Heap.get?_none_of_le (Nat.zero_le _)⟩⟩
theorem pair_tups {h : Heap} {ps : List (Int × Int)} : ∀ {vs : List Value} {as : List Addr}, ReadsAll h vs (ps.map pairD) as → ∃ fs : List Value, KatTups h vs fs ∧ fs.length = ps.length ∧ ∀ v ∈ fs, ∃ i t, v = .int i t := by
  induction ps with
  | nil => intro vs as r; rw [ra_nl r]; exact ⟨[], .nil, rfl, nofun⟩
  | cons p ps ih =>
    intro vs as r
    obtain ⟨v, vs, as', cs, rfl, r1, rs⟩ := ra_hd r
    obtain ⟨fs, h1, h2, h3⟩ := ih rs
    obtain ⟨a, o, xs, nn, t, u, rfl, g1, g2, g3, g4⟩ := pair_of r1
    refine ⟨.int p.1 t :: fs, .cons g1 g2 g3 (by rw [← Array.getElem?_toList, g4]; rfl) h1, congrArg Nat.succ h2, fun v hv => ?_⟩
    rcases List.mem_cons.mp hv with rfl | hv
    · exact ⟨_, _, rfl⟩
    · exact h3 v hv
theorem pair_lt {b : Bool} {A : Around} {s : Shared} {p q : Int × Int} {v v' : Value} {as as' : List Addr} {C : Bool → Shared → Prop} (r : Reads s.heap v (pairD p) as) (r' : Reads s.heap v' (pairD q) as') (hb : b = true) (h : C (decide (ltP p q)) s) :
    wpAny (model prog w) A (keyLt' (tuples' b) v v') C (fun _ _ => False) s := by
  subst hb
  obtain ⟨a1, b1⟩ := p
  obtain ⟨c1, d1⟩ := q
  obtain ⟨a, o, xs, nn, t, u, rfl, g1, g2, g3, g4⟩ := pair_of r
  obtain ⟨a', o', xs', nn', t', u', rfl, k1, k2, k3, k4⟩ := pair_of r'
  refine kat_lt g1 g3 k1 k3 ?_
  rw [g4, k4]
  simp only [List.zip_cons_cons, List.zip_nil_right]
  refine kat_cons (wpAny_eqBool_int ?_)
  by_cases e : a1 = c1
  · have e1 : (a1 == c1) = true := by simp [e]
    rw [e1]
    refine kat_yes (kat_cons (wpAny_eqBool_int ?_))
    by_cases f : b1 = d1
    · have f1 : (b1 == d1) = true := by simp [f]
      rw [f1]
      refine kat_yes (kat_nil ?_)
      have z1 : xs.size = 2 := by rw [← Array.length_toList, g4]; rfl
      have z2 : xs'.size = 2 := by rw [← Array.length_toList, k4]; rfl
      have : decide (ltP (a1, b1) (c1, d1)) = decide (xs.size < xs'.size) := by rw [z1, z2]; simp [ltP, e, f]
      rw [← this]; exact h
    · have f1 : (b1 == d1) = false := by simp [f]
      rw [f1]
      refine kat_no (kat_one _ _ (lt_int ?_))
      have : decide (ltP (a1, b1) (c1, d1)) = decide (b1 < d1) := by simp [ltP, e]
      rw [this] at h; exact h
  · have e1 : (a1 == c1) = false := by simp [e]
    rw [e1]
    refine kat_no (oneLt_int ?_)
    have : decide (ltP (a1, b1) (c1, d1)) = decide (a1 < c1) := by simp [ltP, e]
    rw [this] at h; exact h
theorem srtA_sound (I : Inv prog w hB n env x l) (hs : s.heap = x.h) {avs : List AV} {vs : List Value} (r : VRsx x avs vs) (h : srtA avs fun r => Q r x.σ) (k : Con prog w hB n env l x s Q Qr) :
    wpAny (model prog w) A (call (.builtin "sorted") vs []) Qr EF s := by
  cases h with
  | @mk ps h4 h =>
    obtain ⟨v0, rfl, r0⟩ := r.one
    obtain ⟨a, ob, items, nn, as, rfl, g1, g2, g3, g4⟩ := r0.lst
    have hl := ra_len g4
    rw [List.length_map] at hl
    have hL : s.heap.IsList a items.toList.toArray := by rw [Array.toArray_toList]; exact ⟨ob, hs ▸ I.st.sub _ _ g1, g2, nn, g3⟩
    obtain ⟨m, hn, hv⟩ := I.lr.ns
    by_cases h2 : 2 ≤ ps.length
    · obtain ⟨F, N⟩ := fr_all hn
      rw [← hs] at F N
      refine kat_sorted F N hL (by omega) (by omega) fun D e1 h' F' N' hlt => ?_
      have hkeep : ∀ b o, b ≠ env.locals → x.h.get? b = some o → h'.get? b = some o := fun b o q e => (N' (b, o) (.tail _ (by rw [hs]; exact allBut_spec.mpr ⟨q, e⟩))).1
      have hDn : x.h.get? D = none := by
        cases q : x.h.get? D with
        | none => rfl
        | some o =>
          have hne := (N' (D, seqObj "list" #[] e1) (.head _)).2.1
          exact absurd (hlt (D, o) (by rw [hs]; exact allBut_spec.mpr ⟨hne, q⟩)) (Nat.lt_irrefl _)
      have hsub : ∀ b o, x.g.get? b = some o → h'.get? b = some o := fun b o e => hkeep b o (fun q => by rw [q, I.lr.lout] at e; cases e) (I.st.sub _ _ e)
      have rd := ReadsAll.keeps hsub g4
      obtain ⟨fs, t1, t2, t3⟩ := pair_tups rd
      refine kat_kind (T := .type "int") t1 (by omega) (fun v hv => ?_) (by rfl) ?_
      · obtain ⟨i, t, rfl⟩ := t3 v hv
        exact Looks.of_pure rfl
      · obtain ⟨p, p1, p2, p3⟩ := sort_runs h2 h4
        rw [hl]
        refine runO_wp (lt := fun i j => if i < ps.length && j < ps.length then some (decide (ltP (ps.getD i (0, 0)) (ps.getD j (0, 0)))) else none) (fun i j b C hb hc => ?_) _ p1 ?_
        · split at hb
          · rename_i hij
            cases hb
            rw [Bool.and_eq_true, decide_eq_true_eq, decide_eq_true_eq] at hij
            have get : ∀ i, i < ps.length → ∃ bs, Reads h' (items.toList.getD i Value.none) (pairD (ps.getD i (0, 0))) bs := fun i hi => by
              obtain ⟨v, bs, e1, r1⟩ := readsAll_get rd (i := i) (d := pairD (ps.getD i (0, 0))) (by rw [List.getElem?_map]; simp [List.getD, hi])
              refine ⟨bs, ?_⟩
              rw [List.getD, e1]; exact r1
            obtain ⟨b1, r1⟩ := get i hij.1
            obtain ⟨b2, r2⟩ := get j hij.2
            exact pair_lt (s := { s with heap := h' }) r1 r2 (by decide) hc
          · cases hb
        · refine KasFin.intro F' N' (.head fun q hq => ?_) fun h'' c F'' N'' => ?_
          · exact Nat.ne_of_lt (hlt q hq)
          · have hk2 : ∀ b o, b ≠ env.locals → x.h.get? b = some o → h''.get? b = some o := fun b o q e => (N'' (b, o) (.tail _ (by rw [hs]; exact allBut_spec.mpr ⟨q, e⟩))).1
            refine Con.sorted I k ⟨hv, hn⟩ hk2 F''.ns hDn (N'' (D, listOf _ c) (.head _)).1 ?_ (h (p.toList.map fun i => ps.getD i (0, 0)) ?_ p3)
            · rw [List.toList_toArray, ra_iff]
              refine ⟨by simp, fun i d e => ?_⟩
              rw [List.map_map, List.getElem?_map] at e
              obtain ⟨j, e1, rfl⟩ := Option.map_eq_some_iff.mp e
              have hj : j < ps.length := by simpa using p2.mem_iff.mp (List.mem_of_getElem? e1)
              obtain ⟨v, bs, e2, r2⟩ := readsAll_get g4 (i := j) (d := pairD (ps.getD j (0, 0))) (by rw [List.getElem?_map]; simp [List.getD, hj])
              refine ⟨v, bs, ?_, r2⟩
              rw [List.getElem?_map, e1, Option.map_some, List.getD, e2]
              rfl
            · have := p2.map (fun i => ps.getD i (0, 0))
              refine this.trans (List.Perm.of_eq ?_)
              apply List.ext_getElem?
              intro i
              rw [List.getElem?_map]
              by_cases hi : i < ps.length
              · rw [List.getElem?_range hi]; simp [List.getD, hi]
              · rw [List.getElem?_eq_none (by simpa using hi), List.getElem?_eq_none (by simpa using hi)]; rfl
    · have hz : items.toList.length < 2 := by omega
      refine Calls.call_function_entry kind_sorted plain_sorted entry_sorted (args_sorted1 _) ?_
      unfold Builtin.«sorted»
      refine wpAny_bind (m := checkCount "sorted" 1 1 _) (wpAny_pure ?_)
      refine wpAny_bind (collect_list hL ?_ (by rw [sizeLine_eq]; omega))
      refine wpAny_bind (wpAny_newList ?_ (by rw [sizeLine_eq]; omega))
      have hsz : ((s.heap.push (seqObj "list" #[] 0)).update s.heap.objs.size (Obj.mapSeq (· ++ items.toList.toArray))).objs.size = s.heap.objs.size + 1 := by
        rw [Heap.size_update, size_push']
      have hoL : (((s.heap.push (seqObj "list" #[] 0)).update s.heap.objs.size (Obj.mapSeq (· ++ items.toList.toArray))).push (seqObj "list" items.toList.toArray 0)).get? (s.heap.objs.size + 1) = some (seqObj "list" items.toList.toArray 0) := by
        rw [← hsz]; exact Heap.get?_push_size _ rfl
      have keep : ∀ b o, s.heap.get? b = some o → (((s.heap.push (seqObj "list" #[] 0)).update s.heap.objs.size (Obj.mapSeq (· ++ items.toList.toArray))).push (seqObj "list" items.toList.toArray 0)).get? b = some o := fun b o q => by
        have hlt : b < s.heap.objs.size := Heap.lt_size q
        rw [Heap.get?_push_ne _ _ _ (by rw [hsz]; exact Nat.ne_of_lt (Nat.lt_succ_of_lt hlt)), Heap.get?_update_ne _ _ _ _ (Nat.ne_of_lt hlt), Heap.get?_push_ne _ _ _ (Nat.ne_of_lt hlt)]
        exact q
      show wpAny _ _ _ _ _ { s with heap := ((s.heap.push (seqObj "list" #[] 0)).update s.heap.objs.size (Obj.mapSeq (· ++ items.toList.toArray))).push (seqObj "list" items.toList.toArray 0) }
      rw [hsz]
      generalize ((s.heap.push (seqObj "list" #[] 0)).update s.heap.objs.size (Obj.mapSeq (· ++ items.toList.toArray))).push (seqObj "list" items.toList.toArray 0) = H1 at hoL keep ⊢
      refine wpAny_bind (wpAny_holding (wpAny_call_entry PyProof.Rows.slot_list_sort ⟨_, hoL, rfl⟩ PyProof.Rows.entry_list_sort (short_sort (s := { s with heap := H1 }) hoL hz fun h' c hk hD => ?_) (PyProof.Rows.args_list_sort _)))
      refine ⟨_, rfl, wpAny_pure ⟨_, rfl, ?_⟩⟩
      have hDn : x.h.get? (s.heap.objs.size + 1) = none := Heap.get?_none_of_le (by rw [hs]; exact Nat.le_succ _)
      have hk2 : ∀ b o, x.h.get? b = some o → h'.get? b = some o := fun b o e => hk b o (fun q => by rw [q, hDn] at e; cases e) (keep b o (hs ▸ e))
      refine Con.sorted I k ⟨hv, hn⟩ (fun b o _ e => hk2 b o e) (hn.keeps hk2) hDn hD ?_ (h ps (List.Perm.refl _) ?_)
      · rw [List.toList_toArray]; exact ⟨_, g4⟩
      · match ps, h2 with
        | [], _ => exact .nil
        | [p], _ => exact List.pairwise_singleton _ _
        | _ :: _ :: _, h2 => exact absurd (by simp) h2
end
end Mine
end
section
set_option maxRecDepth 100000
open PySem PySem.W PyProof.Rows
namespace Mine
open PySem PySem.Calls
noncomputable def isCtl : E → Bool
  | .not _ => true
  | .bop _ _ => true
  | .ife _ _ _ => true
  | .cmp _ _ _ => true
  | _ => false
noncomputable def isCmp : E → Bool
  | .comp _ _ _ _ => true
  | _ => false
theorem mE_plainT {n : Nm} {e : E} {a : PySem.Expr} (m : mE n e a = true) (h : isCtl e = false) : plainT a = true := by
  cases e with
  | con => exact vCon_i m fun _ _ _ _ => rfl
  | loc => exact vNm_i m fun _ _ _ => rfl
  | glo => exact vNm_i m fun _ _ _ => rfl
  | attr => exact vAt_i m fun _ _ _ _ => rfl
  | bin => exact vBin_i m fun _ _ _ _ _ => rfl
  | neg =>
    refine vUn_i m fun op _ _ m => ?_
    have e := dq (al m)
    subst e
    rfl
  | sub => exact vSub_i m fun _ _ _ _ => rfl
  | slc => exact vSub_i m fun _ _ _ _ => rfl
  | tup => exact vTup_i m fun _ _ _ _ => rfl
  | lst => exact vLst_i m fun _ _ _ => rfl
  | dic => exact vDic_i m fun _ _ _ _ => rfl
  | call => exact vCal_i m fun _ _ _ _ _ => rfl
  | meth => exact vCal_i m fun _ _ _ _ _ => rfl
  | bm => exact vCal_i m fun _ _ _ _ _ => rfl
  | comp => exact vCom_i m fun _ _ _ _ _ => rfl
  | cmp => exact ft h.symm
  | bop => exact ft h.symm
  | ife => exact ft h.symm
  | not => exact ft h.symm
  | no => exact ft m
  | nil => exact ft m
  | cons => exact ft m
theorem mE_notComp {n : Nm} {e : E} {a : PySem.Expr} (m : mE n e a = true) (h : isCmp e = false) : isComp a = false := by
  cases e with
  | con => exact vCon_i m fun _ _ _ _ => rfl
  | loc => exact vNm_i m fun _ _ _ => rfl
  | glo => exact vNm_i m fun _ _ _ => rfl
  | attr => exact vAt_i m fun _ _ _ _ => rfl
  | bin => exact vBin_i m fun _ _ _ _ _ => rfl
  | neg => exact vUn_i m fun _ _ _ _ => rfl
  | sub => exact vSub_i m fun _ _ _ _ => rfl
  | slc => exact vSub_i m fun _ _ _ _ => rfl
  | tup => exact vTup_i m fun _ _ _ _ => rfl
  | lst => exact vLst_i m fun _ _ _ => rfl
  | dic => exact vDic_i m fun _ _ _ _ => rfl
  | call => exact vCal_i m fun _ _ _ _ _ => rfl
  | meth => exact vCal_i m fun _ _ _ _ _ => rfl
  | bm => exact vCal_i m fun _ _ _ _ _ => rfl
  | comp => exact ft h.symm
  | cmp => exact vCmp_i m fun _ _ _ _ _ => rfl
  | bop => exact vBo_i m fun _ _ _ _ => rfl
  | ife => exact vIf_i m fun _ _ _ _ _ => rfl
  | not => exact vUn_i m fun _ _ _ _ => rfl
  | no => exact ft m
  | nil => exact ft m
  | cons => exact ft m
structure P7 (prog : Program) (w : World) (hB : Heap) (N : Nat) (C : CallT) (e : E) : Prop where
  p : PE prog w hB N C e
  t : PT prog w hB N C e
  es : PEs prog w hB N C e
  b : PEb prog w hB N C e
  v : PEv prog w hB N C e
  a : PA prog w hB N C e
  c : PEc prog w hB N C e
section
variable {prog : Program} {w : World} {K : Frag} {hB : Heap} {N : Nat} {C : CallT} {own : List Nat}
theorem no_list {e : E} (h : ∀ n as, mEs n e as = false) : PEs prog w hB N C e ∧ PEb prog w hB N C e ∧ PEv prog w hB N C e ∧ PEc prog w hB N C e :=
  ⟨fun n env as pos l Q A x s Qr F m => (by rw [h] at m; cases m), fun t n env as l Q A x s Qr F m => (by rw [h] at m; cases m), fun t n env as pos l Q A x s Qr F _ m => (by rw [h] at m; cases m), fun n env as l Q A x s Qr F m => (by rw [h] at m; cases m)⟩
theorem P7.of {e : E} (hl : ∀ n as, mEs n e as = false) (p : PE prog w hB N C e) (t : PT prog w hB N C e) (a : PA prog w hB N C e) : P7 prog w hB N C e :=
  ⟨p, t, (no_list hl).1, (no_list hl).2.1, (no_list hl).2.2.1, a, (no_list hl).2.2.2⟩
theorem pe_never {e : E} (h : ∀ n a, mE n e a = false) : PE prog w hB N C e ∧ PT prog w hB N C e ∧ PA prog w hB N C e :=
  ⟨fun n env a l Q A x s Qr F m => (by rw [h] at m; cases m), fun n env a l Q A x s Qr F m => (by rw [h] at m; cases m), fun n env a l Q A x s own i nm px pos Qr F _ m => (by rw [h] at m; cases m)⟩
theorem ev_all (W : SW K hB) (hC : CallS prog w hB N C) : ∀ e, P7 prog w hB N C e := by
  intro e
  induction e with
  | con c => exact .of (fun n as => rfl) (pe_con c) (.of (fun n a m => mE_plainT m rfl) (pe_con c)) (.of (fun n a m => mE_notComp m rfl) (pe_con c))
  | loc i => exact .of (fun n as => rfl) (pe_loc i) (.of (fun n a m => mE_plainT m rfl) (pe_loc i)) (.of (fun n a m => mE_notComp m rfl) (pe_loc i))
  | glo i => exact .of (fun n as => rfl) (pe_glo W i) (.of (fun n a m => mE_plainT m rfl) (pe_glo W i)) (.of (fun n a m => mE_notComp m rfl) (pe_glo W i))
  | attr o a h => exact .of (fun n as => rfl) (pe_attr W a h.p) (.of (fun n a m => mE_plainT m rfl) (pe_attr W a h.p)) (.of (fun n a m => mE_notComp m rfl) (pe_attr W a h.p))
  | bin op l r h1 h2 => exact .of (fun n as => rfl) (pe_bin op h1.p h2.p) (.of (fun n a m => mE_plainT m rfl) (pe_bin op h1.p h2.p)) (.of (fun n a m => mE_notComp m rfl) (pe_bin op h1.p h2.p))
  | neg x h => exact .of (fun n as => rfl) (pe_neg h.p) (.of (fun n a m => mE_plainT m rfl) (pe_neg h.p)) (.of (fun n a m => mE_notComp m rfl) (pe_neg h.p))
  | not x h => exact .of (fun n as => rfl) (pe_not h.p) (pt_not h.t) (.of (fun n a m => mE_notComp m rfl) (pe_not h.p))
  | cmp op l r h1 h2 => exact .of (fun n as => rfl) (pe_cmp op h1.p h2.p) (pt_cmp op h1.p h2.p) (.of (fun n a m => mE_notComp m rfl) (pe_cmp op h1.p h2.p))
  | bop t xs h => exact .of (fun n as => rfl) (pe_bop t h.v) (pt_bop t h.b) (.of (fun n a m => mE_notComp m rfl) (pe_bop t h.v))
  | ife c a b h1 h2 h3 => exact .of (fun n as => rfl) (pe_ife h1.t h2.p h3.p) (pt_ife h1.t h2.t h3.t) (.of (fun n a m => mE_notComp m rfl) (pe_ife h1.t h2.p h3.p))
  | sub o i h1 h2 => exact .of (fun n as => rfl) (pe_sub h1.p h2.p) (.of (fun n a m => mE_plainT m rfl) (pe_sub h1.p h2.p)) (.of (fun n a m => mE_notComp m rfl) (pe_sub h1.p h2.p))
  | slc o lo hi st h1 h2 h3 h4 => exact .of (fun n as => rfl) (pe_slc h1.p h2.p h3.p h4.p) (.of (fun n a m => mE_plainT m rfl) (pe_slc h1.p h2.p h3.p h4.p)) (.of (fun n a m => mE_notComp m rfl) (pe_slc h1.p h2.p h3.p h4.p))
  | no => exact .of (fun n as => rfl) (pe_never fun n a => rfl).1 (pe_never fun n a => rfl).2.1 (pe_never fun n a => rfl).2.2
  | tup xs h => exact .of (fun n as => rfl) (pe_tup h.es) (.of (fun n a m => mE_plainT m rfl) (pe_tup h.es)) (.of (fun n a m => mE_notComp m rfl) (pe_tup h.es))
  | lst k xs h => exact .of (fun n as => rfl) (pe_lst k h.es) (.of (fun n a m => mE_plainT m rfl) (pe_lst k h.es)) (.of (fun n a m => mE_notComp m rfl) (pe_lst k h.es))
  | dic k t => exact .of (fun n as => rfl) (pe_dic k t) (.of (fun n a m => mE_plainT m rfl) (pe_dic k t)) (.of (fun n a m => mE_notComp m rfl) (pe_dic k t))
  | nil => exact ⟨(pe_never fun n a => rfl).1, (pe_never fun n a => rfl).2.1, pes_nil, peb_nil, fun t n env as pos l Q A x s Qr F hne m => (by cases as with | nil => exact absurd rfl hne | cons => exact ft m), (pe_never fun n a => rfl).2.2, pec_nil⟩
  | cons a b h1 h2 => exact ⟨(pe_never fun n a => rfl).1, (pe_never fun n a => rfl).2.1, pes_cons h1.p h2.es, peb_cons h1.t h2.b, pev_cons h1.p h2.v, (pe_never fun n a => rfl).2.2, pec_cons h1.t h2.c⟩
  | call f k xs h1 h2 =>
    have hp : PE prog w hB N C (.call f k xs) := pe_call W hC k h1.p h2.es fun F R I hs rs h k => srtA_sound I hs rs h k
    exact .of (fun n as => rfl) hp (.of (fun n a m => mE_plainT m rfl) hp) (.of (fun n a m => mE_notComp m rfl) hp)
  | meth o m xs h1 h2 => exact .of (fun n as => rfl) (pe_meth W hC m h1.p h2.es) (.of (fun n a m => mE_plainT m rfl) (pe_meth W hC m h1.p h2.es)) (.of (fun n a m => mE_notComp m rfl) (pe_meth W hC m h1.p h2.es))
  | bm o m xs h1 h2 => exact .of (fun n as => rfl) (pe_bm W m h1.p h2.es) (.of (fun n a m => mE_plainT m rfl) (pe_bm W m h1.p h2.es)) (.of (fun n a m => mE_notComp m rfl) (pe_bm W m h1.p h2.es))
  | comp elt src cnd i h1 h2 h3 => exact .of (fun n as => rfl) (pe_comp W i h1.p h2.p h3.c) (.of (fun n a m => mE_plainT m rfl) (pe_comp W i h1.p h2.p h3.c)) (pa_comp W i h1.p h2.p h3.c)
theorem ex_all (W : SW K hB) (hC : CallS prog w hB N C) (own : List Nat) : ∀ b, XS prog w hB N C own b := by
  have E := ev_all (prog := prog) (w := w) (N := N) W hC
  intro b
  induction b with
  | done => exact xs_done
  | asg i e r h => exact xs_asg i (E e).a h
  | asga o a e r h => exact xs_asga W a (E o).p (E e).p h
  | asgs o i e r h => exact xs_asgs W (E o).p (E i).p (E e).p h
  | unp i j e r h => exact xs_unp i j (E e).p h
  | aug i op e r h => exact xs_aug i op (E e).p h
  | augs o i op e r h => exact xs_augs W op (E o).p (E i).p (E e).p h
  | exp e r h => exact xs_exp (E e).p h
  | ite c a b r h1 h2 h3 => exact xs_ite (E c).t h1 h2 h3
  | whl c b r h1 h2 => exact xs_whl (E c).t h1 h2
  | «for» i src b r h1 h2 => exact xs_for i (E src).p h1 h2
  | ret e dr => exact xs_ret dr (E e).p
  | cont => exact xs_cont
  | raw r h => exact fun n env body l Q A x s Qr F m R I hs he k => he.elim
  | frz i r h => exact xs_frz i h
theorem call_all (W : SW K hB) (nms : Nat → List Str) (hfn : ∀ f F, fdT f = some F → FnK K f F (nms f)) (N : Nat) : CallS prog w hB N (callF tb fdT N) :=
  callF_sound W nms hfn (fun N hC own b => ex_all W hC own b) N
end
end Mine
end
section
set_option maxRecDepth 100000
open PySem PySem.W PyProof.Rows
namespace Mine
open PySem PySem.Calls
noncomputable def gIn (K : Frag) (nm : Str) : Option (Option Value) := match K.lookup mainGlobals with
  | some o => match o.data with
    | .dict es _ => some (nsFind es nm)
    | _ => none
  | none => none
theorem gIn_spec {K : Frag} {h : Heap} {mg : Str → Option Value} {nm : Str} {r : Option Value} (X : K.In h) (G : h.Ns mainGlobals mg) (e : gIn K nm = some r) : mg nm = r := by
  unfold gIn at e
  split at e
  · rename_i o ho
    obtain ⟨o', es, ep, h1, h2, _, h3⟩ := G
    rw [X _ _ ho] at h1; cases h1
    rw [h2] at e
    cases e
    exact (h3 nm).symm
  · cases e
noncomputable def readK (K : Frag) (v : Value) (d : PyData) : Bool := match d with
  | .tuple ds => match v with
    | .ref a => match K.lookup a with
      | some o => decide (o.cls = .type "tuple") && (match o.data with
        | .seq xs _ => dfltVs ds xs.toList
        | _ => false)
      | none => false
    | _ => false
  | d => dfltV d v
theorem readK_spec {K : Frag} {h : Heap} (X : K.In h) {v : Value} {d : PyData} (e : readK K v d = true) : ∃ as, Reads h v d as := by
  unfold readK at e
  split at e
  · rename_i ds
    split at e
    · rename_i a
      split at e
      · rename_i o ho
        rw [Bool.and_eq_true, decide_eq_true_eq] at e
        obtain ⟨e1, e2⟩ := e
        split at e2
        · rename_i xs nn hd
          obtain ⟨as, r⟩ := dfltVs_reads (g := h) e2
          exact ⟨_, .tuple (X _ _ ho) e1 hd r⟩
        · cases e2
      · cases e
    · cases e
  · rename_i hd
    exact dfltV_reads e
noncomputable def gloOK (K : Frag) (i : Nat) : Bool := match gloT[i]?, tbGlo i with
  | some nm, some gk => match gk with
    | .dat d => match gIn K nm with
      | some (some v) => readK K v d
      | _ => false
    | .fn f => decide (gIn K nm = some (some (.ref (fnA f)))) && keepIn K (.ref (fnA f))
    | .cls c => decide (gIn K nm = some (some (.ref (clA c)))) && decide (c < 4)
    | _ => decide (gIn K nm = some none) && decide (bootBuiltins nm = gloV i) && decide (nm ≠ "__name__")
  | _, none => true
  | none, some _ => false
theorem tbGlo_lt (i : Nat) (gk : GK) (h : tbGlo i = some gk) : i < 54 := by
  refine Nat.lt_of_not_le fun q => ?_
  have e : tbGlo i = none := by unfold tbGlo; rw [List.getD_eq_getElem?_getD, List.getElem?_eq_none q]; rfl
  rw [e] at h; cases h
theorem getD_lt {α : Type} {l : List (List α)} {c : Nat} (h : l.getD c [] ≠ []) : c < l.length := Nat.lt_of_not_le fun q => h (by rw [List.getD_eq_getElem?_getD, List.getElem?_eq_none q]; rfl)
theorem getD_mem {α : Type} {l : List (List α)} {c : Nat} (h : c < l.length) : l.getD c [] ∈ l := by
  rw [List.getD_eq_getElem?_getD, List.getElem?_eq_getElem h]; exact List.getElem_mem h
noncomputable def clsOK (K : Frag) (c : Nat) : Bool := plainGet K (clA c) "" && hasDictIn K (clA c) && decide (findIn K (.ref (clA c)) "__setattr__" = some (some (.builtin "object.__setattr__"))) && plainOver K (clA c) && makesIn K (clA c) && keepIn K (.ref (clA c)) &&
  (match tbIni c with
    | some f => decide (findIn K (.ref (clA c)) "__init__" = some (some (.ref (fnA f)))) && decide (typeIn K (.ref (fnA f)) = some (.type "function"))
    | none => true) &&
  ((List.range nAtt).all fun a => !tbAtt c a || decide (findIn K (.ref (clA c)) (attN a) = some none)) &&
  ((List.range nAtt).all fun m => match tbMeth c m with
    | some f => decide (findIn K (.ref (clA c)) (attN m) = some (some (.ref (fnA f)))) && isFn K (.ref (fnA f)) && keepIn K (.ref (fnA f))
    | none => true)
theorem tbAtt_lt (c a : Nat) (h : tbAtt c a = true) : c < 4 ∧ a < nAtt := by
  unfold tbAtt at h
  have hm := List.elem_iff.mp h
  have hc : c < 4 := getD_lt (l := attL) fun q => by rw [q] at hm; cases hm
  exact ⟨hc, (show ∀ l ∈ attL, ∀ a ∈ l, a < nAtt by decide) _ (getD_mem (l := attL) hc) a hm⟩
theorem tbMeth_lt (c a f : Nat) (h : tbMeth c a = some f) : c < 4 ∧ a < nAtt := by
  unfold tbMeth at h
  have hm := lookup_mem h
  have hc : c < 4 := getD_lt (l := methL) fun q => by rw [q] at hm; cases hm
  exact ⟨hc, (show ∀ l ∈ methL, ∀ p ∈ l, p.1 < nAtt by decide) _ (getD_mem (l := methL) hc) _ hm⟩
theorem clsOK_spec {K : Frag} {c : Nat} (h : clsOK K c = true) : ClsOK K c := by
  simp only [clsOK, Bool.and_eq_true, decide_eq_true_eq, List.all_eq_true, List.mem_range] at h
  obtain ⟨⟨⟨⟨⟨⟨⟨⟨h1, h2⟩, h3⟩, h4⟩, h5⟩, h6⟩, h7⟩, h8⟩, h9⟩ := h
  refine ⟨h1, h2, h3, h4, h5, h6, fun f hf => ?_, fun a ha => ?_, fun m f hm => ?_⟩
  · rw [hf] at h7
    simp only [Bool.and_eq_true, decide_eq_true_eq] at h7
    exact h7
  · have hl := (tbAtt_lt c a ha).2
    have := h8 a hl
    rw [ha] at this
    exact ⟨by simpa using this, hl⟩
  · have hl := (tbMeth_lt c m f hm).2
    have := h9 m hl
    rw [hm] at this
    simp only [Bool.and_eq_true, decide_eq_true_eq] at this
    exact ⟨this.1.1, this.1.2, this.2, hl⟩
noncomputable def nms (f : Nat) : List Str := nmT.getD f []
noncomputable def ndS : List Str → Bool
  | [] => true
  | x :: r => !(r.any fun y => decide (y = x)) && ndS r
theorem ndS_spec : ∀ {l : List Str}, ndS l = true → l.Nodup
  | [], _ => List.nodup_nil
  | x :: r, h => by
    simp only [ndS, Bool.and_eq_true, Bool.not_eq_true', List.any_eq_false, decide_eq_true_eq] at h
    rw [List.nodup_cons]
    exact ⟨fun q => h.1 x q rfl, ndS_spec h.2⟩
noncomputable def bdOK (K : Frag) (F : FD) (loc : List Str) (fd : FuncData) (body : List Stmt) : Bool := decide (fd.globals = mainGlobals) && decide (fd.builtins = builtinsNs) && fd.closure.isEmpty && decide (fd.scope.kind = .function) && !fd.scope.isCoroutine && !fd.scope.isGenerator && codeIn K fd.code fd.qualname &&
        mS ⟨loc, gloT, attT, fd.scope⟩ F.body body && decide (fd.params.args.map (·.arg) = loc.take F.np) && dfltK K fd.defaults F.dflt &&
        ((loc.take F.np).all fun x => decide (fd.scope.names.lookup x = some .local) || decide (fd.scope.names.lookup x = some .cell)) && keysNd fd.scope.names && ndS loc && decide (F.np ≤ F.ns) && decide (loc.length = F.ns) && decide (F.dflt.length ≤ F.np) &&
        fd.params.posonlyargs.isEmpty && fd.params.vararg.isNone && fd.params.kwonlyargs.isEmpty && fd.params.kwarg.isNone
noncomputable def bdyOK (K : Frag) (F : FD) (loc : List Str) (fd : FuncData) : FuncBody → Bool
  | .stmts body => bdOK K F loc fd body
  | _ => false
noncomputable def datOK (K : Frag) (F : FD) (loc : List Str) : Data → Bool
  | .func fd => bdyOK K F loc fd fd.body
  | _ => false
noncomputable def fnOK (K : Frag) (f : Nat) (F : FD) (loc : List Str) : Bool := match K.lookup (fnA f) with
  | some o => datOK K F loc o.data
  | none => false
theorem isN_i {α : Type} : ∀ {o : Option α}, o.isNone = true → o = none
  | none, _ => rfl
theorem isE_e {α : Type} : ∀ {l : List α}, l.isEmpty = true → l = []
  | [], _ => rfl
theorem nt' : ∀ {b : Bool}, (!b) = true → b = false
  | false, _ => rfl
theorem fnOK_spec {K : Frag} {f : Nat} {F : FD} {loc : List Str} (h : fnOK K f F loc = true) : FnK K f F loc := by
  unfold fnOK at h
  cases hl : K.lookup (fnA f) with
  | none => rw [hl] at h; exact ft h
  | some o =>
    rw [hl] at h
    obtain ⟨oc, od, dat, osl⟩ := o
    have h : datOK K F loc dat = true := h
    cases dat with
    | func fd =>
      have h : bdyOK K F loc fd fd.body = true := h
      cases hb : fd.body with
      | stmts body =>
        rw [hb] at h
        have h : bdOK K F loc fd body = true := h
        have a0 := al (al (al (al h)))
        have a1 := al (al (al (al (al a0))))
        have a2 := al (al (al (al a1)))
        have a3 := al (al (al (al a2)))
        have hp : fd.params = ⟨[], fd.params.args, none, [], fd.params.kw_defaults, none, fd.params.defaults⟩ := by
          have e1 := isE_e (ar (al (al (al h))))
          have e2 := isN_i (ar (al (al h)))
          have e3 := isE_e (ar (al h))
          have e4 := isN_i (ar h)
          generalize fd.params = p at e1 e2 e3 e4
          cases p
          dsimp only at e1 e2 e3 e4
          rw [e1, e2, e3, e4]
        exact ⟨⟨oc, od, osl, fd, fd.params.args, fd.params.defaults, fd.params.kw_defaults, body, hl, hp, hb, dq (al (al a3)), dq (ar (al a3)), isE_e (ar a3), dq (ar (al (al (al a2)))), nt' (ar (al (al a2))), nt' (ar (al a2)), ar a2, ar (al (al (al a1))), dq (ar (al (al a1))), ar (al a1),
          fun x hx => (Bool.or_eq_true_iff.mp (List.all_eq_true.mp (ar a1) x hx)).imp dq dq, keysNd_nodup (ar (al (al (al (al a0)))))⟩, ndS_spec (ar (al (al (al a0)))), dq (ar (al (al a0))), dq (ar (al a0)), dq (ar a0)⟩
      | _ => rw [hb] at h; exact ft h
    | _ => exact ft h
noncomputable def fnOK' (K : Frag) (f : Nat) : Bool := match fdT f with
  | some F => fnOK K f F (nms f)
  | none => true
theorem fdT_lt (f : Nat) (F : FD) (h : fdT f = some F) : f < 63 := (List.getElem?_eq_some_iff.mp h).1
theorem sw_of {K : Frag} {hB : Heap} {mg mb : Str → Option Value} (X : K.In hB) (lim : hB.NoLimit) (G : hB.Ns mainGlobals mg) (B : hB.Ns builtinsNs mb) (hb : ∀ x : Str, x ≠ "__name__" → mb x = bootBuiltins x)
    (h1 : (List.range 54).all (gloOK K) = true) (h2 : (List.range 4).all (clsOK K) = true) : SW K hB := by
  rw [List.all_eq_true] at h1 h2
  have gl : ∀ i gk, tbGlo i = some gk → gloOK K i = true := fun i gk h => h1 i (List.mem_range.mpr (tbGlo_lt i gk h))
  refine ⟨X, lim, ⟨mg, mb, G, B, fun i nm gk hn hg => ?_⟩, fun c hc => clsOK_spec (h2 c (List.mem_range.mpr hc)), fun i f hg => ?_, fun i c hg => ?_, fun c m f h => (tbMeth_lt c m f h).1, fun c a h => (tbAtt_lt c a h).1⟩
  · have h := gl i gk hg
    unfold gloOK at h
    rw [hn, hg] at h
    dsimp only at h
    have bi : ∀ v, gloV i = some v → (decide (gIn K nm = some none) && decide (bootBuiltins nm = gloV i) && decide (nm ≠ "__name__")) = true → ∃ v, gloV i = some v ∧ (mg nm = some v ∨ (mg nm = none ∧ mb nm = some v)) := fun v hv h => by
      simp only [Bool.and_eq_true, decide_eq_true_eq] at h
      exact ⟨v, hv, .inr ⟨gIn_spec X G h.1.1, by rw [hb nm h.2, h.1.2, hv]⟩⟩
    have gv : gloV i = (match tbGlo i with
      | some (.fn f) => some (.ref (fnA f))
      | some (.cls c) => some (.ref (clA c))
      | some .len => some (.builtin "len")
      | some .range => some (.type "range")
      | some .list => some (.type "list")
      | some .sorted => some (.builtin "sorted")
      | some .set => some (.type "set")
      | _ => none) := rfl
    rw [hg] at gv
    cases gk with
    | dat d =>
      dsimp only at h ⊢
      split at h
      · rename_i v hv
        obtain ⟨as, r⟩ := readK_spec X h
        exact ⟨v, as, gIn_spec X G hv, r⟩
      · cases h
    | fn f =>
      simp only [Bool.and_eq_true, decide_eq_true_eq] at h
      exact ⟨_, gv, .inl (gIn_spec X G h.1)⟩
    | cls c =>
      simp only [Bool.and_eq_true, decide_eq_true_eq] at h
      exact ⟨_, gv, .inl (gIn_spec X G h.1)⟩
    | len => exact bi _ gv h
    | range => exact bi _ gv h
    | list => exact bi _ gv h
    | sorted => exact bi _ gv h
    | set => exact bi _ gv h
  · have h := gl i _ hg
    unfold gloOK at h
    rw [hg] at h
    split at h
    · rename_i nm gk hn e
      cases e
      simp only [Bool.and_eq_true] at h
      exact h.2
    · rename_i e; cases e
    · cases h
  · have h := gl i _ hg
    unfold gloOK at h
    rw [hg] at h
    split at h
    · rename_i nm gk hn e
      cases e
      simp only [Bool.and_eq_true, decide_eq_true_eq] at h
      exact h.2
    · rename_i e; cases e
    · cases h
theorem fns_of {K : Frag} (h : (List.range 63).all (fnOK' K) = true) : ∀ f F, fdT f = some F → FnK K f F (nms f) := fun f F hf => by
  rw [List.all_eq_true] at h
  have := h f (List.mem_range.mpr (fdT_lt f F hf))
  unfold fnOK' at this
  rw [hf] at this
  exact fnOK_spec this
end Mine
end
section
set_option maxRecDepth 100000
open PySem PySem.W PyProof.Rows
namespace Mine
open PySem
noncomputable abbrev Cl := Int × Int
noncomputable abbrev cA (c : Cl) : AV := .d (pairD c)
noncomputable abbrev iA (x : Int) : AV := .d (.int x)
noncomputable abbrev CF (n : Nat) := callF tb fdT n
noncomputable abbrev stA : AV := .ins 1 9
noncomputable abbrev syA : AV := .ins 0 4
noncomputable abbrev arA : AV := .ins 2 3
structure Wd where
  nums : List Int
  pos : Int
  h : List Cl
  x : List Cl
  texts : List Str
  anum : List (Str × Int)
  fus : List Cl
  fnum : List (List Int × Int)
noncomputable def stN : List (Nat × AV) := [(8, .ins 0 4), (28, iA 3000), (2, .obj 10), (29, .obj 11), (30, .obj 12), (31, iA 0), (32, iA 0)]
noncomputable def arN : List (Nat × AV) := [(8, .ins 0 4), (39, .d (.list [])), (28, iA 3000), (40, .d (.bool true)), (41, iA 4096), (14, .ins 1 9), (43, .obj 13), (44, iA 0), (45, iA 0), (46, iA (-1)), (47, iA (-1)), (48, iA (-1)),
  (49, .d (.str "read")), (50, iA 0), (51, cA (5, 0)), (52, .d (.list [])), (53, .obj 14), (54, .d (.bool false))]
noncomputable def syN : List (Nat × AV) := [(23, .obj 5), (24, .obj 6), (25, .obj 7), (26, .obj 8)]
structure Wo (σ : H) (s : Wd) : Prop where
  ar : look σ 3 = some (.ns arN)
  st : look σ 9 = some (.ns stN)
  sy : look σ 4 = some (.ns syN)
  po : look σ 2 = some (.mix [iA s.pos, .obj 1])
  nu : look σ 1 = some (.dat (s.nums.map .int))
  h : look σ 10 = some (.dat (s.h.map pairD))
  x : look σ 13 = some (.dat (s.x.map pairD))
  te : look σ 5 = some (.dat (s.texts.map .str))
  an : look σ 6 = some (.dstr s.anum)
  fu : look σ 7 = some (.dat (s.fus.map pairD))
  fn : look σ 8 = some (.dtup s.fnum)
  tr : look σ 12 = some (.dat [])
theorem Wo.cons {σ : H} {s : Wd} (w : Wo σ s) (k : Nat) (o : AO) (hk : Nat.ble 15 k = true) : Wo ((k, o) :: σ) s := by
  have e : ∀ j, j < 15 → look ((k, o) :: σ) j = look σ j := fun j hj => if_neg fun q => by
    have := Nat.le_of_ble_eq_true hk
    omega
  obtain ⟨a, b, c, d, f, g, i, j, m, n, p, q⟩ := w
  exact ⟨(e _ (by decide)).trans a, (e _ (by decide)).trans b, (e _ (by decide)).trans c, (e _ (by decide)).trans d, (e _ (by decide)).trans f, (e _ (by decide)).trans g, (e _ (by decide)).trans i, (e _ (by decide)).trans j, (e _ (by decide)).trans m, (e _ (by decide)).trans n, (e _ (by decide)).trans p, (e _ (by decide)).trans q⟩
section
variable {σ : H} {s : Wd} {Q : AV → Prop} {B : Bool → Prop} {R : AV → H → Prop} {C : CallT}
theorem attr_ {c k a : Nat} {l : List (Nat × AV)} {v : AV} (h : look σ k = some (.ns l)) (e : l.lookup a = some v) (t : tb.att c a = true) (u : v ≠ .un) (q : Q v) : attrA tb (.ins c k) a σ Q :=
  .mk h e t u q
theorem st_sy (w : Wo σ s) (q : Q syA) : attrA tb stA 8 σ Q := attr_ w.st rfl rfl nofun q
theorem st_h (w : Wo σ s) (q : Q (.obj 10)) : attrA tb stA 2 σ Q := attr_ w.st rfl rfl nofun q
theorem st_max (w : Wo σ s) (q : Q (iA 3000)) : attrA tb stA 28 σ Q := attr_ w.st rfl rfl nofun q
theorem st_tr (w : Wo σ s) (q : Q (.obj 12)) : attrA tb stA 30 σ Q := attr_ w.st rfl rfl nofun q
theorem st_hb (w : Wo σ s) (q : Q (iA 0)) : attrA tb stA 31 σ Q := attr_ w.st rfl rfl nofun q
theorem ar_sy (w : Wo σ s) (q : Q syA) : attrA tb arA 8 σ Q := attr_ w.ar rfl rfl nofun q
theorem ar_st (w : Wo σ s) (q : Q stA) : attrA tb arA 14 σ Q := attr_ w.ar rfl rfl nofun q
theorem ar_x (w : Wo σ s) (q : Q (.obj 13)) : attrA tb arA 43 σ Q := attr_ w.ar rfl rfl nofun q
theorem ar_oc (w : Wo σ s) (q : Q (.d (.bool true))) : attrA tb arA 40 σ Q := attr_ w.ar rfl rfl nofun q
theorem sy_te (w : Wo σ s) (q : Q (.obj 5)) : attrA tb syA 23 σ Q := attr_ w.sy rfl rfl nofun q
theorem sy_an (w : Wo σ s) (q : Q (.obj 6)) : attrA tb syA 24 σ Q := attr_ w.sy rfl rfl nofun q
theorem sy_fu (w : Wo σ s) (q : Q (.obj 7)) : attrA tb syA 25 σ Q := attr_ w.sy rfl rfl nofun q
theorem sy_fn (w : Wo σ s) (q : Q (.obj 8)) : attrA tb syA 26 σ Q := attr_ w.sy rfl rfl nofun q
theorem meth_ {c k m f : Nat} {l : List (Nat × AV)} (h : look σ k = some (.ns l)) (e : l.lookup m = none) (t : tb.meth c m = some f) : methT tb (.ins c k) m σ := .mk h t e
theorem m_st {m f : Nat} (w : Wo σ s) (e : stN.lookup m = none) (t : tb.meth 1 m = some f) : methT tb stA m σ := meth_ w.st e t
theorem m_ar {m f : Nat} (w : Wo σ s) (e : arN.lookup m = none) (t : tb.meth 2 m = some f) : methT tb arA m σ := meth_ w.ar e t
theorem m_sy {m f : Nat} (w : Wo σ s) (e : syN.lookup m = none) (t : tb.meth 0 m = some f) : methT tb syA m σ := meth_ w.sy e t
theorem sub_ {k : Nat} {xs : List PyData} {j : Int} {x : PyData} (h : look σ k = some (.dat xs)) (hl : xs.length < 2 ^ 20) (e : getI xs j = some x) (q : Q (.d x)) : subA (.obj k) (iA j) σ Q := .dat h hl e q
theorem subm_ {k : Nat} {xs : List AV} {j : Int} {x : AV} (h : look σ k = some (.mix xs)) (hl : xs.length < 2 ^ 20) (e : getI xs j = some x) (q : Q x) : subA (.obj k) (iA j) σ Q := .mix h hl e q
theorem subl_ {xs : List PyData} {j : Int} {x : PyData} (hl : xs.length < 2 ^ 20) (e : getI xs j = some x) (q : Q (.d x)) : subA (.d (.list xs)) (iA j) σ Q := .lst hl e q
theorem sub2_0 {c : Cl} (q : Q (iA c.1)) : subA (cA c) (iA 0) σ Q := .tup (xs := [.int c.1, .int c.2]) (by show 2 < 2 ^ 20; decide) rfl q
theorem sub2_1 {c : Cl} (q : Q (iA c.2)) : subA (cA c) (iA 1) σ Q := .tup (xs := [.int c.1, .int c.2]) (by show 2 < 2 ^ 20; decide) rfl q
theorem getI_nat {α : Type} {xs : List α} {j : Nat} {x : α} (e : xs[j]? = some x) : getI xs (j : Int) = some x := by
  unfold getI
  rw [if_pos (by omega)]
  simpa using e
theorem getI_map {α : Type} {f : α → PyData} {xs : List α} {j : Nat} {x : α} (e : xs[j]? = some x) : getI (xs.map f) (j : Int) = some (f x) := getI_nat (by rw [List.getElem?_map, e]; rfl)
theorem sub_h (w : Wo σ s) {j : Nat} {c : Cl} (hl : s.h.length < 4000) (e : s.h[j]? = some c) (q : Q (cA c)) : subA (.obj 10) (iA j) σ Q := sub_ w.h (by rw [List.length_map]; omega) (getI_map e) q
theorem sub_te (w : Wo σ s) {j : Nat} {c : Str} (hl : s.texts.length < 4000) (e : s.texts[j]? = some c) (q : Q (.d (.str c))) : subA (.obj 5) (iA j) σ Q := sub_ w.te (by rw [List.length_map]; omega) (getI_map e) q
theorem sub_fu (w : Wo σ s) {j : Nat} {c : Cl} (hl : s.fus.length < 4000) (e : s.fus[j]? = some c) (q : Q (cA c)) : subA (.obj 7) (iA j) σ Q := sub_ w.fu (by rw [List.length_map]; omega) (getI_map e) q
theorem sub_x (w : Wo σ s) {j : Nat} {c : Cl} (hl : s.x.length < 4000) (e : s.x[j]? = some c) (q : Q (cA c)) : subA (.obj 13) (iA j) σ Q := sub_ w.x (by rw [List.length_map]; omega) (getI_map e) q
theorem eqv_int (a b : Int) : PyData.eqv (.int a) (.int b) = decide (a = b) := by
  simp only [PyData.eqv]; rfl
theorem eqv_pair (a b : Cl) : PyData.eqv (pairD a) (pairD b) = decide (a = b) := by
  obtain ⟨a1, a2⟩ := a
  obtain ⟨b1, b2⟩ := b
  show (PyData.eqv (.int a1) (.int b1) && (PyData.eqv (.int a2) (.int b2) && true)) = _
  rw [eqv_int, eqv_int, Bool.and_true, ← Bool.decide_and]
  exact decide_eq_decide.mpr (by rw [Prod.mk.injEq])
theorem ok_int (a : Int) : eqOk (.int a) := ⟨rfl, by show 0 ≤ 60; decide⟩
theorem ok_pair (a : Cl) : eqOk (pairD a) := ⟨rfl, by show PyData.depth (.tuple [.int a.1, .int a.2]) ≤ 60; simp [PyData.depth, PyData.depthAll]⟩
theorem eq_ {a b : Int} (q : B (decide (a = b))) : cmpA .Eq (iA a) (iA b) σ B := .eq rfl rfl (ok_int _) (ok_int _) (by rw [eqv_int]; exact q)
theorem eq_t {a b : Int} (e : a = b) (q : B true) : cmpA .Eq (iA a) (iA b) σ B := eq_ (by rw [decide_eq_true e]; exact q)
theorem eq_f {a b : Int} (e : a ≠ b) (q : B false) : cmpA .Eq (iA a) (iA b) σ B := eq_ (by rw [decide_eq_false e]; exact q)
theorem ne_ {a b : Int} (q : B (!decide (a = b))) : cmpA .NotEq (iA a) (iA b) σ B := .ne rfl rfl (ok_int _) (ok_int _) (by rw [eqv_int]; exact q)
theorem ne_t {a b : Int} (e : a ≠ b) (q : B true) : cmpA .NotEq (iA a) (iA b) σ B := ne_ (by rw [decide_eq_false e]; exact q)
theorem ne_f {a b : Int} (e : a = b) (q : B false) : cmpA .NotEq (iA a) (iA b) σ B := ne_ (by rw [decide_eq_true e]; exact q)
theorem eqc_ {a b : Cl} (q : B (decide (a = b))) : cmpA .Eq (cA a) (cA b) σ B := .eq rfl rfl (ok_pair _) (ok_pair _) (by rw [eqv_pair]; exact q)
theorem eqc_t {a b : Cl} (e : a = b) (q : B true) : cmpA .Eq (cA a) (cA b) σ B := eqc_ (by rw [decide_eq_true e]; exact q)
theorem eqc_f {a b : Cl} (e : a ≠ b) (q : B false) : cmpA .Eq (cA a) (cA b) σ B := eqc_ (by rw [decide_eq_false e]; exact q)
theorem nec_ {a b : Cl} (q : B (!decide (a = b))) : cmpA .NotEq (cA a) (cA b) σ B := .ne rfl rfl (ok_pair _) (ok_pair _) (by rw [eqv_pair]; exact q)
theorem lt_ {a b : Int} (q : B (decide (a < b))) : cmpA .Lt (iA a) (iA b) σ B := .ord (.ilt q)
theorem lt_t {a b : Int} (e : a < b) (q : B true) : cmpA .Lt (iA a) (iA b) σ B := lt_ (by rw [decide_eq_true e]; exact q)
theorem lt_f {a b : Int} (e : ¬ a < b) (q : B false) : cmpA .Lt (iA a) (iA b) σ B := lt_ (by rw [decide_eq_false e]; exact q)
theorem gt_ {a b : Int} (q : B (decide (b < a))) : cmpA .Gt (iA a) (iA b) σ B := .ord (.igt q)
theorem gt_t {a b : Int} (e : b < a) (q : B true) : cmpA .Gt (iA a) (iA b) σ B := gt_ (by rw [decide_eq_true e]; exact q)
theorem gt_f {a b : Int} (e : ¬ b < a) (q : B false) : cmpA .Gt (iA a) (iA b) σ B := gt_ (by rw [decide_eq_false e]; exact q)
theorem le_ {a b : Int} (q : B (decide (a ≤ b))) : cmpA .LtE (iA a) (iA b) σ B := .ord (.ile q)
theorem le_t {a b : Int} (e : a ≤ b) (q : B true) : cmpA .LtE (iA a) (iA b) σ B := le_ (by rw [decide_eq_true e]; exact q)
theorem le_f {a b : Int} (e : ¬ a ≤ b) (q : B false) : cmpA .LtE (iA a) (iA b) σ B := le_ (by rw [decide_eq_false e]; exact q)
theorem ge_ {a b : Int} (q : B (decide (b ≤ a))) : cmpA .GtE (iA a) (iA b) σ B := .ord (.ige q)
theorem ge_t {a b : Int} (e : b ≤ a) (q : B true) : cmpA .GtE (iA a) (iA b) σ B := ge_ (by rw [decide_eq_true e]; exact q)
theorem ge_f {a b : Int} (e : ¬ b ≤ a) (q : B false) : cmpA .GtE (iA a) (iA b) σ B := ge_ (by rw [decide_eq_false e]; exact q)
theorem add_ {a b : Int} (q : Q (iA (a + b))) : binA .Add (iA a) (iA b) Q := .add q
theorem sbt_ {a b : Int} (q : Q (iA (a - b))) : binA .Sub (iA a) (iA b) Q := .sub q
theorem mul_ {a b : Int} (l : -(2 ^ 63) < a) (u : a < 2 ^ 63) (q : Q (iA (a * b))) : binA .Mult (iA a) (iA b) Q := .mul ⟨l, u⟩ q
theorem mod_ {a b : Int} (l : b ≠ 0) (q : Q (iA (a.fmod b))) : binA .Mod (iA a) (iA b) Q := .mod l q
theorem fdv_ {a b : Int} (l : b ≠ 0) (u : b.natAbs < 1073741824) (q : Q (iA (a.fdiv b))) : binA .FloorDiv (iA a) (iA b) Q := .fdv ⟨l, u⟩ q
theorem dat_in {k : Nat} {xs : List PyData} (h : look σ k = some (.dat xs)) : dataIn σ (.obj k) = some (.list xs) := congrArg datO h
theorem len_ {k : Nat} {xs : List PyData} (h : look σ k = some (.dat xs)) (hl : xs.length < 2 ^ 20) (q : Q (iA xs.length)) : lenA [.obj k] σ Q := .mk (dat_in h) hl q
theorem lenl_ {xs : List PyData} (hl : xs.length < 2 ^ 20) (q : Q (iA xs.length)) : lenA [.d (.list xs)] σ Q := .mk rfl hl q
theorem app_T {k : Nat} {xs : List PyData} (h : look σ k = some (.dat xs)) : bmT (.obj k) .append σ := .app h
theorem pop_T {k : Nat} {xs : List PyData} (h : look σ k = some (.dat xs)) : bmT (.obj k) .pop σ := .pop h
theorem ext_T {k : Nat} {xs : List PyData} (h : look σ k = some (.dat xs)) : bmT (.obj k) .extend σ := .ext h
theorem gts_T {k : Nat} {xs : List (Str × Int)} (h : look σ k = some (.dstr xs)) : bmT (.obj k) .get σ := .gets h
theorem gtt_T {k : Nat} {xs : List (List Int × Int)} (h : look σ k = some (.dtup xs)) : bmT (.obj k) .get σ := .gett h
theorem add_T {k : Nat} {xs : List Int} (h : look σ k = some (.iset xs)) : bmT (.obj k) .add σ := .add h
theorem app_ {k : Nat} {xs : List PyData} {x : PyData} (h : look σ k = some (.dat xs)) (hl : xs.length < 2 ^ 20) (q : R (.d .none) (put σ k (.dat (xs ++ [x])))) : bmA (.obj k) .append [.d x] σ R := .app h hl q
theorem pop_ {k : Nat} {xs : List PyData} {x : PyData} (h : look σ k = some (.dat (xs ++ [x]))) (hl : xs.length < 4000) (q : R (.d x) (put σ k (.dat xs))) : bmA (.obj k) .pop [] σ R := .pop h (by omega) q
theorem ext_ {k : Nat} {xs ys : List PyData} (h : look σ k = some (.dat xs)) (hl : xs.length + ys.length < 2 ^ 20) (q : R (.d .none) (put σ k (.dat (xs ++ ys)))) : bmA (.obj k) .extend [.d (.list ys)] σ R := .ext h hl q
theorem sad_ {k : Nat} {xs : List Int} {x : Int} (h : look σ k = some (.iset xs)) (hl : xs.length < 4000) (q : R (.d .none) (put σ k (.iset (if x ∈ xs then xs else xs ++ [x])))) : bmA (.obj k) .add [iA x] σ R := .add h hl q
theorem in_ {k : Nat} {xs : List Int} {x : Int} (h : look σ k = some (.iset xs)) (q : B (decide (x ∈ xs))) : cmpA .In (iA x) (.obj k) σ B := .mem (.set h q)
theorem ni_ {k : Nat} {xs : List Int} {x : Int} (h : look σ k = some (.iset xs)) (q : B (!decide (x ∈ xs))) : cmpA .NotIn (iA x) (.obj k) σ B := .nmem (.set h q)
theorem asgs_ {k : Nat} {xs : List PyData} {j : Nat} {x : PyData} {P : H → Prop} (h : look σ k = some (.dat xs)) (hj : j < xs.length) (hl : xs.length < 2 ^ 20) (q : P (put σ k (.dat (xs.set j x)))) : asgsA (.obj k) (iA j) (.d x) σ P := .dat h hj hl q
theorem rng1_ {a : Int} (h : small a) (q : Q (.rng 0 a 1)) : rngA [iA a] Q := .one h q
theorem rng2_ {a b : Int} (h : small a) (h2 : small b) (q : Q (.rng a b 1)) : rngA [iA a, iA b] Q := .two h h2 q
theorem rng3_ {a b c : Int} (h : small a) (h2 : small b) (h3 : c = 1 ∨ c = 2 ∨ c = -1) (q : Q (.rng a b c)) : rngA [iA a, iA b, iA c] Q := .three h h2 h3 q
end
theorem lkput {σ : H} {k j : Nat} {o : AO} : look (put σ k o) j = if j = k then (look σ k).map fun _ => o else look σ j := by
  induction σ with
  | nil => unfold put look; split <;> rfl
  | cons p t ih =>
    obtain ⟨i, x⟩ := p
    unfold put
    by_cases e : i = k
    · subst e
      rw [if_pos rfl]
      unfold look
      by_cases q : i = j
      · subst q; rw [if_pos rfl, if_pos rfl, if_pos rfl]; rfl
      · rw [if_neg q, if_neg (Ne.symm q), if_neg q]
    · rw [if_neg e]
      unfold look
      rw [ih]
      by_cases q : i = j
      · subst q; rw [if_pos rfl, if_neg e, if_pos rfl]
      · rw [if_neg q, if_neg q, if_neg e]
theorem put_at {σ : H} {k : Nat} {o x : AO} (h : look σ k = some x) : look (put σ k o) k = some o := by rw [lkput, if_pos rfl, h]; rfl
theorem put_ne {σ : H} {k j : Nat} {o : AO} (n : j ≠ k) : look (put σ k o) j = look σ j := by rw [lkput, if_neg n]
end Mine
end
section
set_option maxRecDepth 100000
open PySem PySem.W PyProof.Rows
namespace Mine
open PySem
inductive Dr (s : Wd) : Cl → Cl → Prop
  | con {t v : Int} (h0 : t ≠ 0) (h1 : t ≠ 1) : Dr s (t, v) (t, v)
  | var {i : Nat} (e : s.h[i]? = some (0, (i : Int))) : Dr s (0, (i : Int)) (0, (i : Int))
  | bnd {i : Nat} {t v : Int} (e : s.h[i]? = some (t, v)) (h0 : t ≠ 0) (h1 : t ≠ 1) : Dr s (0, (i : Int)) (t, v)
section
variable {σ : H} {s : Wd} {n : Nat} {Q : AV → H → Prop} {c d : Cl}
theorem deref_ (w : Wo σ s) (hl : s.h.length < 4000) (e : Dr s c d) (q : Q (cA d) σ) : CF (n + 1) 44 [stA, cA c] σ Q := by
  cases e with
  | con h0 h1 => exact ⟨Nat.le_refl _, Nat.le_refl _, nofun, 1, sub2_0 (eq_f h0 (eq_f h1 q))⟩
  | var e =>
    refine ⟨Nat.le_refl _, Nat.le_refl _, nofun, 1, ?_⟩
    refine sub2_0 (eq_t rfl (st_h w (sub2_1 (sub_h w hl e (eqc_t rfl ?_)))))
    exact q
  | @bnd i t v e h0 h1 =>
    refine ⟨Nat.le_refl _, Nat.le_refl _, nofun, 2, ?_⟩
    refine sub2_0 (eq_t rfl (st_h w (sub2_1 (sub_h w hl e (eqc_f (fun q => h0 (congrArg Prod.fst q)) ?_)))))
    exact sub2_0 (eq_f h0 (eq_f h1 q))
theorem Dr.ne1 (e : Dr s c d) : d.1 ≠ 1 := by
  cases e with
  | con h0 h1 => exact h1
  | var e => exact nofun
  | bnd e h0 h1 => exact h1
theorem glob_ (w : Wo σ s) (hl : s.h.length < 4000) (e : Dr s c d) (q : Q (cA d) σ) : CF (n + 2) 46 [stA, cA c] σ Q := by
  refine ⟨Nat.le_refl _, Nat.le_refl _, nofun, ?_⟩
  refine ⟨m_st w rfl rfl, ?_⟩
  refine deref_ w hl e ?_
  exact sub2_0 (eq_f e.ne1 q)
theorem arg_ (w : Wo σ s) (hl : s.h.length < 4000) (hx : s.x.length < 4000) {i : Nat} (g : s.x[i]? = some c) (e : Dr s c d) (q : Q (cA d) σ) : CF (n + 3) 61 [arA, iA i] σ Q := by
  refine ⟨Nat.le_refl _, Nat.le_refl _, nofun, ?_⟩
  refine ar_st w ?_
  refine ⟨m_st w rfl rfl, ?_⟩
  refine ar_x w (sub_x w hx g ?_)
  exact glob_ w hl e q
theorem isc_ {t v : Int} (w : Wo σ s) (q : Q (.d (.bool (decide (t = 2 ∨ t = 3)))) σ) : CF (n + 1) 47 [stA, cA (t, v)] σ Q := by
  refine ⟨Nat.le_refl _, Nat.le_refl _, nofun, ?_⟩
  refine sub2_0 ?_
  by_cases h : t = 2
  · refine eq_t h ?_
    rw [decide_eq_true (Or.inl h)] at q
    exact q
  · refine eq_f h (sub2_0 ?_)
    by_cases h3 : t = 3
    · refine eq_t h3 ?_
      rw [decide_eq_true (Or.inr h3)] at q
      exact q
    · refine eq_f h3 ?_
      rw [decide_eq_false (by omega)] at q
      exact q
end
end Mine
end
section
set_option maxRecDepth 100000
open PySem PySem.W PyProof.Rows
namespace Mine
open PySem
theorem n32 : (3 : Int) ≠ 2 := by decide
theorem n23 : (2 : Int) ≠ 3 := by decide
noncomputable def lx : List Int → List Int → Int
  | [], [] => 0
  | [], _ :: _ => -1
  | _ :: _, [] => 1
  | a :: x, b :: y => if a < b then -1 else if b < a then 1 else lx x y
noncomputable def sgn (a b : Int) : Int := if a < b then -1 else if b < a then 1 else 0
noncomputable def txtK (t : Str) : List Int := t.cps.toList.map Int.ofNat ++ [-1]
theorem lx_cons (a b : Int) (x y : List Int) : lx (a :: x) (b :: y) = if a < b then -1 else if b < a then 1 else lx x y := rfl
theorem lx_self : ∀ x, lx x x = 0
  | [] => rfl
  | a :: x => by rw [lx_cons, if_neg (by omega), if_neg (by omega), lx_self x]
theorem lx_one (a b : Int) : lx [a] [b] = sgn a b := rfl
theorem sgn_self (a : Int) : sgn a a = 0 := by unfold sgn; rw [if_neg (by omega), if_neg (by omega)]
theorem lx_txt0 : ∀ l m : List Nat, lx (l.map Int.ofNat ++ [-1]) (m.map Int.ofNat ++ [-1]) = if l < m then -1 else if m < l then 1 else 0
  | [], [] => by simp [lx]
  | [], b :: m => by
    rw [if_pos (List.nil_lt_cons b m)]
    show (if (-1 : Int) < (b : Int) then (-1 : Int) else _) = -1
    rw [if_pos (by omega)]
  | a :: l, [] => by
    rw [if_neg (List.not_lt_nil _), if_pos (List.nil_lt_cons a l)]
    show (if (a : Int) < -1 then (-1 : Int) else if (-1 : Int) < (a : Int) then 1 else _) = 1
    rw [if_neg (by omega), if_pos (by omega)]
  | a :: l, b :: m => by
    show (if (a : Int) < (b : Int) then (-1 : Int) else if (b : Int) < (a : Int) then 1 else lx (l.map Int.ofNat ++ [-1]) (m.map Int.ofNat ++ [-1])) = _
    rw [lx_txt0 l m]
    simp only [List.cons_lt_cons_iff]
    by_cases h : a < b
    · rw [if_pos (by omega), if_pos (.inl h)]
    · by_cases g : b < a
      · rw [if_neg (by omega), if_pos (by omega), if_neg (by omega), if_pos (.inl g)]
      · have e : a = b := by omega
        subst e
        rw [if_neg (by omega), if_neg (by omega)]
        simp
noncomputable def sgnS (t u : Str) : Int := if t.cps.toList < u.cps.toList then -1 else if u.cps.toList < t.cps.toList then 1 else 0
theorem lx_txt (t u : Str) : lx (txtK t) (txtK u) = sgnS t u := lx_txt0 _ _
inductive Sh (s : Wd) : Cl → Nat → Nat → Nat → Str → Prop
  | str {p f ar a : Nat} {tx : Str} (e : s.h[p]? = some (6, (f : Int))) (g : s.fus[f]? = some ((a : Int), (ar : Int))) (t : s.texts[a]? = some tx) : Sh s (2, (p : Int)) f (p + 1) ar tx
  | lis {p a : Nat} {tx : Str} (g : s.fus[0]? = some ((a : Int), 2)) (t : s.texts[a]? = some tx) : Sh s (3, (p : Int)) 0 p 2 tx
structure Sz (s : Wd) : Prop where
  h : s.h.length < 4000
  t : s.texts.length < 4000
  f : s.fus.length < 4000
section
variable {σ : H} {s : Wd} {n : Nat} {Q : AV → H → Prop} {B : Bool → Prop} {c d : Cl} {f b ar a : Nat} {tx : Str}
theorem Sh.tag (e : Sh s c f b ar tx) : c.1 = 2 ∨ c.1 = 3 := by cases e <;> simp
theorem Sh.fu (e : Sh s c f b ar tx) : ∃ a : Nat, s.fus[f]? = some ((a : Int), (ar : Int)) ∧ s.texts[a]? = some tx := by
  cases e with
  | str e g t => exact ⟨_, g, t⟩
  | lis g t => exact ⟨_, g, t⟩
theorem Sh.dr (e : Sh s c f b ar tx) : Dr s c c := by cases e <;> exact .con (by decide) (by decide)
theorem ord_i {x y : Int} (q : Q (iA (sgn x y)) σ) : CF (n + 1) 9 [iA x, iA y] σ Q := by
  refine ⟨Nat.le_refl _, Nat.le_refl _, nofun, ?_⟩
  unfold sgn at q
  by_cases h : x < y
  · rw [if_pos h] at q
    exact lt_t h q
  · rw [if_neg h] at q
    refine lt_f h ?_
    by_cases g : y < x
    · rw [if_pos g] at q; exact gt_t g q
    · rw [if_neg g] at q; exact gt_f g q
theorem lts_ {x y : Str} (q : B (decide (x.cps.toList < y.cps.toList))) : cmpA .Lt (.d (.str x)) (.d (.str y)) σ B := .ord (.slt q)
theorem gts_ {x y : Str} (q : B (decide (y.cps.toList < x.cps.toList))) : cmpA .Gt (.d (.str x)) (.d (.str y)) σ B := .ord (.sgt q)
theorem ltc_ {x y : Cl} (q : B (decide (ltP x y))) : cmpA .Lt (cA x) (cA y) σ B := .ord (.plt q)
theorem gtc_ {x y : Cl} (q : B (decide (ltP y x))) : cmpA .Gt (cA x) (cA y) σ B := .ord (.pgt q)
theorem ord_s {x y : Str} (q : Q (iA (sgnS x y)) σ) : CF (n + 1) 9 [.d (.str x), .d (.str y)] σ Q := by
  refine ⟨Nat.le_refl _, Nat.le_refl _, nofun, lts_ ?_⟩
  unfold sgnS at q
  by_cases h : x.cps.toList < y.cps.toList
  · rw [if_pos h] at q; rw [decide_eq_true h]
    exact q
  · rw [if_neg h] at q; rw [decide_eq_false h]
    refine gts_ ?_
    by_cases g : y.cps.toList < x.cps.toList
    · rw [if_pos g] at q; rw [decide_eq_true g]; exact q
    · rw [if_neg g] at q; rw [decide_eq_false g]; exact q
theorem ltP_0 {x y : Int} : ltP (0, x) (0, y) ↔ x < y := by unfold ltP; simp
theorem ord_v {x y : Int} (q : Q (iA (sgn x y)) σ) : CF (n + 1) 9 [cA (0, x), cA (0, y)] σ Q := by
  refine ⟨Nat.le_refl _, Nat.le_refl _, nofun, ltc_ ?_⟩
  rw [decide_eq_decide.mpr ltP_0]
  unfold sgn at q
  by_cases h : x < y
  · rw [if_pos h] at q; rw [decide_eq_true h]
    exact q
  · rw [if_neg h] at q; rw [decide_eq_false h]
    refine gtc_ ?_
    rw [decide_eq_decide.mpr ltP_0]
    by_cases g : y < x
    · rw [if_pos g] at q; rw [decide_eq_true g]; exact q
    · rw [if_neg g] at q; rw [decide_eq_false g]; exact q
theorem text_ (w : Wo σ s) (z : Sz s) (e : s.texts[a]? = some tx) (q : Q (.d (.str tx)) σ) : CF (n + 1) 35 [syA, iA a] σ Q :=
  ⟨Nat.le_refl _, Nat.le_refl _, nofun, sy_te w (sub_te w z.t e q)⟩
theorem name_ (w : Wo σ s) (z : Sz s) {x : Cl} (e : s.fus[f]? = some x) (q : Q (iA x.1) σ) : CF (n + 1) 38 [syA, iA f] σ Q :=
  ⟨Nat.le_refl _, Nat.le_refl _, nofun, sy_fu w (sub_fu w z.f e (sub2_0 q))⟩
theorem arity_ (w : Wo σ s) (z : Sz s) {x : Cl} (e : s.fus[f]? = some x) (q : Q (iA x.2) σ) : CF (n + 1) 39 [syA, iA f] σ Q :=
  ⟨Nat.le_refl _, Nat.le_refl _, nofun, sy_fu w (sub_fu w z.f e (sub2_1 q))⟩
theorem fun_ (w : Wo σ s) (z : Sz s) (e : Sh s c f b ar tx) (q : Q (iA f) σ) : CF (n + 1) 48 [stA, cA c] σ Q := by
  refine ⟨Nat.le_refl _, Nat.le_refl _, nofun, sub2_0 ?_⟩
  cases e with
  | str e g t => exact eq_t rfl (st_h w (sub2_1 (sub_h w z.h e (sub2_1 q))))
  | lis g t => exact eq_f n32 (eq_t rfl q)
theorem wid_ (w : Wo σ s) (z : Sz s) (e : Sh s c f b ar tx) (q : Q (iA ar) σ) : CF (n + 2) 49 [stA, cA c] σ Q := by
  refine ⟨Nat.le_refl _, Nat.le_refl _, nofun, sub2_0 ?_⟩
  cases e with
  | str e g t => exact eq_f n23 (eq_t rfl (st_sy w ⟨m_sy w rfl rfl, st_h w (sub2_1 (sub_h w z.h e (sub2_1 (arity_ w z g q))))⟩))
  | lis g t => exact eq_t rfl q
theorem base_ (w : Wo σ s) (z : Sz s) (e : Sh s c f b ar tx) (q : Q (iA b) σ) : CF (n + 1) 50 [stA, cA c] σ Q := by
  refine ⟨Nat.le_refl _, Nat.le_refl _, nofun, sub2_0 ?_⟩
  cases e with
  | str e g t => exact eq_f n23 (sub2_1 (add_ q))
  | lis g t => exact eq_t rfl (sub2_1 q)
end
end Mine
end
section
set_option maxRecDepth 100000
open PySem PySem.W PyProof.Rows
namespace Mine
open PySem
noncomputable def rk (t : Int) : Int := if t = 5 then 1 else if t = 4 then 2 else if t = 2 ∨ t = 3 then 3 else 0
inductive Tk (s : Wd) : Cl → List Int → Prop
  | var {i : Nat} : Tk s (0, (i : Int)) [0, (i : Int)]
  | int {v : Int} : Tk s (5, v) [1, v]
  | atom {a : Nat} {tx : Str} (e : s.texts[a]? = some tx) : Tk s (4, (a : Int)) (2 :: txtK tx)
  | cmp {c : Cl} {f b ar : Nat} {tx : Str} (e : Sh s c f b ar tx) : Tk s c (3 :: (ar : Int) :: txtK tx)
section
variable {σ : H} {s : Wd} {n : Nat} {Q : AV → H → Prop} {c d l r : Cl} {f b ar f' b' ar' : Nat} {tx tx' : Str}
theorem rank_ (q : Q (iA (rk c.1)) σ) : CF (n + 1) 8 [cA c] σ Q := by
  refine ⟨Nat.le_refl _, Nat.le_refl _, nofun, sub2_0 ?_⟩
  unfold rk at q
  by_cases h5 : c.1 = 5
  · rw [if_pos h5] at q; exact eq_t h5 q
  rw [if_neg h5] at q
  refine eq_f h5 ?_
  by_cases h4 : c.1 = 4
  · rw [if_pos h4] at q; exact eq_t h4 q
  rw [if_neg h4] at q
  refine eq_f h4 ?_
  by_cases h2 : c.1 = 2
  · rw [if_pos (.inl h2)] at q; exact eq_t h2 q
  refine eq_f h2 ?_
  by_cases h3 : c.1 = 3
  · rw [if_pos (.inr h3)] at q; exact eq_t h3 q
  rw [if_neg (by omega)] at q
  exact eq_f h3 q
theorem sgn_ne {a b : Int} (h : a ≠ b) : sgn a b ≠ 0 := by
  unfold sgn
  by_cases g : a < b
  · rw [if_pos g]; decide
  · rw [if_neg g, if_pos (by omega)]; decide
theorem shapes_ (w : Wo σ s) (z : Sz s) (e : Sh s l f b ar tx) (e' : Sh s r f' b' ar' tx') (q : Q (iA (lx ((ar : Int) :: txtK tx) ((ar' : Int) :: txtK tx'))) σ) : CF (n + 2) 10 [stA, cA l, cA r] σ Q := by
  refine ⟨Nat.le_refl _, Nat.le_refl _, nofun, st_sy w ?_⟩
  refine ⟨m_st w rfl rfl, fun_ w z e ?_⟩
  refine ⟨m_st w rfl rfl, fun_ w z e' ?_⟩
  obtain ⟨a, g, t⟩ := e.fu
  obtain ⟨a', g', t'⟩ := e'.fu
  by_cases h : f = f'
  · subst h
    rw [g] at g'
    cases g'
    rw [t] at t'
    cases t'
    rw [lx_self] at q
    exact eq_t rfl q
  · refine eq_f (by omega) ?_
    refine ⟨m_sy w rfl rfl, arity_ w z g ⟨m_sy w rfl rfl, arity_ w z g' (ord_i ?_)⟩⟩
    rw [lx_cons] at q
    by_cases h : (ar : Int) = ar'
    · rw [if_neg (by omega), if_neg (by omega), lx_txt] at q
      refine ne_f (by show sgn (ar : Int) ar' = 0; rw [h, sgn_self]) ?_
      refine ⟨m_sy w rfl rfl, ⟨m_sy w rfl rfl, name_ w z g (text_ w z t ?_)⟩⟩
      exact ⟨m_sy w rfl rfl, ⟨m_sy w rfl rfl, name_ w z g' (text_ w z t' (ord_s q))⟩⟩
    · refine ne_t (sgn_ne h) ?_
      unfold sgn
      by_cases g2 : (ar : Int) < ar'
      · rw [if_pos g2] at q ⊢; exact q
      · rw [if_neg g2, if_pos (by omega)] at q ⊢; exact q
theorem tops_ne (h : rk l.1 ≠ rk r.1) (q : Q (iA (sgn (rk l.1) (rk r.1))) σ) : CF (n + 3) 11 [stA, cA l, cA r] σ Q := by
  refine ⟨Nat.le_refl _, Nat.le_refl _, nofun, (rank_ ?_)⟩
  refine (rank_ (ord_i ?_))
  exact ne_t (sgn_ne h) q
theorem Sh.rk3 (e : Sh s c f b ar tx) : rk c.1 = 3 := by cases e <;> rfl
theorem Tk.inv {k : List Int} (e : Tk s c k) : (∃ i : Nat, c = (0, (i : Int)) ∧ k = [0, (i : Int)]) ∨ (∃ v, c = (5, v) ∧ k = [1, v]) ∨ (∃ (a : Nat) (tx : Str), c = (4, (a : Int)) ∧ k = 2 :: txtK tx ∧ s.texts[a]? = some tx) ∨ ∃ (f b ar : Nat) (tx : Str), k = 3 :: (ar : Int) :: txtK tx ∧ Sh s c f b ar tx := by
  cases e with
  | var => exact .inl ⟨_, rfl, rfl⟩
  | int => exact .inr (.inl ⟨_, rfl, rfl⟩)
  | atom t => exact .inr (.inr (.inl ⟨_, _, rfl, rfl, t⟩))
  | cmp t => exact .inr (.inr (.inr ⟨_, _, _, _, rfl, t⟩))
theorem Tk.hdr {k : List Int} (e : Tk s c k) : ∃ x, k = rk c.1 :: x := by
  rcases e.inv with ⟨i, rfl, rfl⟩ | ⟨v, rfl, rfl⟩ | ⟨a, tx, rfl, rfl, t⟩ | ⟨f, b, ar, tx, rfl, t⟩
  · exact ⟨_, rfl⟩
  · exact ⟨_, rfl⟩
  · exact ⟨_, rfl⟩
  · rw [t.rk3]; exact ⟨_, rfl⟩
theorem Tk.in0 {k : List Int} (e : Tk s c k) (h : rk c.1 = 0) : ∃ i : Nat, c = (0, (i : Int)) ∧ k = [0, (i : Int)] := by
  rcases e.inv with q | ⟨v, rfl, _⟩ | ⟨a, tx, rfl, _⟩ | ⟨f, b, ar, tx, _, t⟩
  · exact q
  · exact absurd h (show ¬ (1 : Int) = 0 by decide)
  · exact absurd h (show ¬ (2 : Int) = 0 by decide)
  · rw [t.rk3] at h; exact absurd h (by decide)
theorem Tk.in1 {k : List Int} (e : Tk s c k) (h : rk c.1 = 1) : ∃ v, c = (5, v) ∧ k = [1, v] := by
  rcases e.inv with ⟨i, rfl, _⟩ | q | ⟨a, tx, rfl, _⟩ | ⟨f, b, ar, tx, _, t⟩
  · exact absurd h (show ¬ (0 : Int) = 1 by decide)
  · exact q
  · exact absurd h (show ¬ (2 : Int) = 1 by decide)
  · rw [t.rk3] at h; exact absurd h (by decide)
theorem Tk.in2 {k : List Int} (e : Tk s c k) (h : rk c.1 = 2) : ∃ (a : Nat) (tx : Str), c = (4, (a : Int)) ∧ k = 2 :: txtK tx ∧ s.texts[a]? = some tx := by
  rcases e.inv with ⟨i, rfl, _⟩ | ⟨v, rfl, _⟩ | q | ⟨f, b, ar, tx, _, t⟩
  · exact absurd h (show ¬ (0 : Int) = 2 by decide)
  · exact absurd h (show ¬ (1 : Int) = 2 by decide)
  · exact q
  · rw [t.rk3] at h; exact absurd h (by decide)
theorem Tk.in3 {k : List Int} (e : Tk s c k) (h : rk c.1 = 3) : ∃ (f b ar : Nat) (tx : Str), k = 3 :: (ar : Int) :: txtK tx ∧ Sh s c f b ar tx := by
  rcases e.inv with ⟨i, rfl, _⟩ | ⟨v, rfl, _⟩ | ⟨a, tx, rfl, _⟩ | q
  · exact absurd h (show ¬ (0 : Int) = 3 by decide)
  · exact absurd h (show ¬ (1 : Int) = 3 by decide)
  · exact absurd h (show ¬ (2 : Int) = 3 by decide)
  · exact q
theorem tops_ (w : Wo σ s) (z : Sz s) {k k' : List Int} (e : Tk s l k) (e' : Tk s r k') (q : Q (iA (lx k k')) σ) : CF (n + 3) 11 [stA, cA l, cA r] σ Q := by
  have ne : ∀ {a b : Int} {x y : List Int}, rk l.1 = a → rk r.1 = b → k = a :: x → k' = b :: y → a ≠ b → CF (n + 3) 11 [stA, cA l, cA r] σ Q := by
    intro a b x y h1 h2 h3 h4 h
    refine tops_ne (by rw [h1, h2]; exact h) ?_
    rw [h3, h4, lx_cons] at q
    rw [h1, h2]
    unfold sgn
    by_cases g : a < b
    · rw [if_pos g] at q ⊢; exact q
    · rw [if_neg g, if_pos (by omega)] at q ⊢; exact q
  have hs : ∀ (a : Int), sgn a a = 0 := sgn_self
  by_cases hr : rk l.1 = rk r.1
  · rcases e.inv with ⟨i, rfl, rfl⟩ | ⟨v, rfl, rfl⟩ | ⟨a, tx, rfl, rfl, t⟩ | ⟨f, b, ar, tx, rfl, t⟩
    · obtain ⟨i', rfl, rfl⟩ := e'.in0 hr.symm
      refine ⟨Nat.le_refl _, Nat.le_refl _, nofun, (rank_ (rank_ (ord_i (ne_f (hs _) (eq_t rfl (ord_v ?_))))))⟩
      exact q
    · obtain ⟨v', rfl, rfl⟩ := e'.in1 hr.symm
      refine ⟨Nat.le_refl _, Nat.le_refl _, nofun, (rank_ (rank_ (ord_i (ne_f (hs _) (eq_f (by decide : (1 : Int) ≠ 0) (eq_t rfl (sub2_1 (sub2_1 (ord_i ?_)))))))))⟩
      exact q
    · obtain ⟨a', tx', rfl, rfl, t'⟩ := e'.in2 hr.symm
      refine ⟨Nat.le_refl _, Nat.le_refl _, nofun, (rank_ (rank_ (ord_i (ne_f (hs _) (eq_f (by decide : (2 : Int) ≠ 0) (eq_f (by decide : (2 : Int) ≠ 1) (eq_t rfl (st_sy w ⟨m_sy w rfl rfl, sub2_1 (text_ w z t (st_sy w ⟨m_sy w rfl rfl, sub2_1 (text_ w z t' (ord_s ?_))⟩))⟩))))))))⟩
      rw [← lx_txt]
      exact q
    · obtain ⟨f', b', ar', tx', rfl, t'⟩ := e'.in3 (hr.symm.trans t.rk3)
      refine ⟨Nat.le_refl _, Nat.le_refl _, nofun, (rank_ ?_)⟩
      rw [t.rk3]
      refine (rank_ ?_)
      rw [t'.rk3]
      exact ord_i (ne_f (hs _) (eq_f (by decide : (3 : Int) ≠ 0) (eq_f (by decide : (3 : Int) ≠ 1) (eq_f (by decide : (3 : Int) ≠ 2) (shapes_ w z t t' q)))))
  · obtain ⟨x, hx⟩ := e.hdr
    obtain ⟨y, hy⟩ := e'.hdr
    exact ne rfl rfl hx hy hr
end
end Mine
end
section
set_option maxRecDepth 100000
open PySem PySem.W PyProof.Rows
namespace Mine
open PySem
noncomputable def pp (a b : Cl) : PyData := .tuple [pairD a, pairD b]
noncomputable def unW : S → E × S × S
  | .asg _ _ r => unW r
  | .whl c b r => (c, b, r)
  | .unp _ _ _ r => unW r
  | .frz _ r => unW r
  | .ite _ _ _ r => unW r
  | .for _ _ _ r => unW r
  | _ => (.no, .done, .done)
noncomputable abbrev psN (sp : Int) : List (Nat × AV) := [(37, iA sp), (38, .obj 32)]
section
variable {σ : H} {s : Wd} {n : Nat} {Q : AV → H → Prop} {c d l r : Cl} {f b ar f' b' ar' : Nat} {tx tx' : Str} {ws : List PyData} {met : List Int} {sp : Int}
theorem pa_sp (h : look σ 31 = some (.ns (psN sp))) {Q : AV → Prop} (q : Q (iA sp)) : attrA tb (.ins 3 31) 37 σ Q := attr_ h rfl rfl nofun q
theorem pa_me (h : look σ 31 = some (.ns (psN sp))) {Q : AV → Prop} (q : Q (.obj 32)) : attrA tb (.ins 3 31) 38 σ Q := attr_ h rfl rfl nofun q
theorem padd_ (h1 : look σ 31 = some (.ns (psN sp))) (h2 : look σ 32 = some (.iset met)) (hm : met.length < 4000) (u : -(2 ^ 63) < l.2) (u' : l.2 < 2 ^ 63)
    (q : l.2 * sp + r.2 ∈ met → Q (.d (.bool false)) σ) (q' : Q (.d (.bool true)) (put σ 32 (.iset (if l.2 * sp + r.2 ∈ met then met else met ++ [l.2 * sp + r.2])))) : CF (n + 1) 56 [.ins 3 31, cA l, cA r] σ Q := by
  refine ⟨Nat.le_refl _, Nat.le_refl _, nofun, sub2_1 (pa_sp h1 (mul_ u u' (sub2_1 (add_ (pa_me h1 (in_ h2 ?_))))))⟩
  by_cases h : l.2 * sp + r.2 ∈ met
  · rw [decide_eq_true h]; exact q h
  · rw [decide_eq_false h]
    exact pa_me h1 ⟨add_T h2, sad_ h2 hm q'⟩
theorem sm (k : Nat) (h : k < 5000 := by omega) : small (k : Int) := by unfold small; omega
theorem sm1 : small (-1) := by unfold small; omega
theorem push1_ (w : Wo σ s) (z : Sz s) (e : Sh s l f b 1 tx) (e' : Sh s r f' b' 1 tx') {x y : Cl} (g : s.h[b]? = some x) (g' : s.h[b']? = some y) (hw : look σ 33 = some (.dat ws)) (hl : ws.length < 4000)
    (q : Q (.d .none) (put σ 33 (.dat (ws ++ [pp x y])))) : CF (n + 3) 3 [stA, cA l, cA r, .obj 33] σ Q := by
  refine ⟨Nat.le_refl _, Nat.le_refl _, nofun, ⟨m_st w rfl rfl, base_ w z e ?_⟩⟩
  refine ⟨m_st w rfl rfl, base_ w z e' ?_⟩
  refine ⟨m_st w rfl rfl, wid_ w z e (sbt_ ?_)⟩
  refine rng3_ (sm 0) sm1 (.inr (.inr rfl)) ⟨by decide, ?_⟩
  refine ⟨app_T hw, st_h w (add_ ?_)⟩
  refine sub_h (j := b) w z.h g (st_h w (add_ ?_))
  refine sub_h (j := b') w z.h g' ?_
  exact app_ hw (by omega) q
end
end Mine
end
section
set_option maxRecDepth 100000
open PySem PySem.W PyProof.Rows
namespace Mine
open PySem
theorem ClosedH.dat {σ : H} (c : ClosedH σ) (k : Nat) (o : AO) (h : o.refs = []) : ClosedH ((k, o) :: σ) := by
  intro j x e r m
  by_cases q : k = j
  · have e' : some o = some x := by rw [← e]; show some o = (if k = j then some o else look σ j); rw [if_pos q]
    cases e'
    rw [h] at m
    cases m
  · have e' : look σ j = some x := by rw [← e]; show look σ j = (if k = j then some o else look σ j); rw [if_neg q]
    have := c j x e' r m
    show (if k = r then some o else look σ r).isSome = true
    split
    · rfl
    · exact this
section
variable {σ : H} {s : Wd} {n : Nat} {Q : AV → H → Prop} {c d l r : Cl} {f b ar f' b' ar' : Nat} {tx tx' : Str} {ws : List PyData} {met : List Int} {sp : Int}
theorem Wo.put (w : Wo σ s) (k : Nat) (o : AO) (hk : Nat.ble 15 k = true) : Wo (put σ k o) s := by
  have e : ∀ j, j < 15 → look (Mine.put σ k o) j = look σ j := fun j hj => put_ne fun q => by
    have := Nat.le_of_ble_eq_true hk
    omega
  obtain ⟨a, b, c, d, f, g, i, j, m, n, p, q⟩ := w
  exact ⟨(e _ (by decide)).trans a, (e _ (by decide)).trans b, (e _ (by decide)).trans c, (e _ (by decide)).trans d, (e _ (by decide)).trans f, (e _ (by decide)).trans g, (e _ (by decide)).trans i, (e _ (by decide)).trans j, (e _ (by decide)).trans m, (e _ (by decide)).trans n, (e _ (by decide)).trans p, (e _ (by decide)).trans q⟩
theorem push2_ (w : Wo σ s) (z : Sz s) (e : Sh s l f b 2 tx) (e' : Sh s r f' b' 2 tx') {x y x2 y2 : Cl} (g : s.h[b]? = some x) (g' : s.h[b']? = some y) (g2 : s.h[b + 1]? = some x2) (g2' : s.h[b' + 1]? = some y2) (hw : look σ 33 = some (.dat ws)) (hl : ws.length < 4000)
    (q : Q (.d .none) (put (put σ 33 (.dat (ws ++ [pp x2 y2]))) 33 (.dat (ws ++ [pp x2 y2] ++ [pp x y])))) : CF (n + 3) 3 [stA, cA l, cA r, .obj 33] σ Q := by
  refine ⟨Nat.le_refl _, Nat.le_refl _, nofun, ⟨m_st w rfl rfl, base_ w z e ?_⟩⟩
  refine ⟨m_st w rfl rfl, base_ w z e' ?_⟩
  refine ⟨m_st w rfl rfl, wid_ w z e (sbt_ ?_)⟩
  refine rng3_ (sm 1) sm1 (.inr (.inr rfl)) ⟨by decide, ?_⟩
  refine ⟨app_T hw, st_h w (add_ ?_)⟩
  refine sub_h (j := b + 1) w z.h g2 (st_h w (add_ ?_))
  refine sub_h (j := b' + 1) w z.h g2' ?_
  refine app_ hw (by omega) ?_
  have w2 := w.put 33 (.dat (ws ++ [pp x2 y2])) rfl
  have hw2 := put_at (o := .dat (ws ++ [pp x2 y2])) hw
  refine ⟨app_T hw2, st_h w2 (add_ ?_)⟩
  refine sub_h (j := b) w2 z.h g (st_h w2 (add_ ?_))
  refine sub_h (j := b') w2 z.h g' ?_
  exact app_ hw2 (by rw [List.length_append]; show ws.length + 1 < _; omega) q
theorem suc_of {n m : Nat} (h : n + 1 ≤ m) : ∃ j, m = j + 1 := ⟨m - 1, (Nat.sub_add_cancel (Nat.le_trans (Nat.le_add_left 1 n) h)).symm⟩
theorem exj {m L k : Nat} (h : m + L + 1 ≤ k) : ∃ j, k = m + j + L := ⟨k - m - L, by omega⟩
theorem mt1 {a b d c : Nat} (h1 : b ≤ a + 1) (h2 : d ≤ b + 1) (hm : a + 2 * (c + 1) < 1000) : d + 2 * c < 1000 := by omega
theorem mt2 {a b d e c : Nat} (h1 : b ≤ a + 1) (h2 : d ≤ b + 1) (h4 : e ≤ d + 2 * c) : e ≤ a + 2 * (c + 1) := by omega
theorem mt3 {a b d : Nat} (h1 : b ≤ a + 1) (h2 : d ≤ b + 1) : d ≤ a + 2 * 1 := Nat.le_trans h2 (Nat.succ_le_succ h1)
theorem mt4 {a b k : Nat} (h : b ≤ a + 1) (hm : a + 2 * (k + 1) < 1000) {n : Nat} (dd : Nat.ble 1000 n = true) : b < n := Nat.lt_of_le_of_lt h (Nat.lt_of_lt_of_le (Nat.lt_of_le_of_lt (Nat.add_le_add_left (Nat.le_trans (by decide) (Nat.mul_le_mul_left 2 (Nat.le_add_left 1 k))) a) hm) (Nat.le_of_ble_eq_true dd))
theorem le4 {m a : Nat} : m ≤ m + a + 1 + 3 := Nat.le_trans (Nat.le_add_right _ _) (Nat.le_trans (Nat.le_add_right _ _) (Nat.le_add_right _ _))
theorem Sh.fb (e : Sh s c f b ar tx) : (if c.1 = 2 then ((s.h[c.2.toNat]?.map fun x => x.2.toNat).getD 0, c.2.toNat + 1) else (0, c.2.toNat)) = (f, b) := by
  cases e with
  | @str p f ar a tx e g t => exact (if_pos rfl).trans (by show ((s.h[p]?.map fun x => x.2.toNat).getD 0, p + 1) = _; rw [e]; rfl)
  | lis g t => exact if_neg (show ¬ (3 : Int) = 2 by decide)
theorem Sh.uniq (e : Sh s c f b ar tx) (e' : Sh s c f' b' ar' tx') : ar = ar' ∧ tx = tx' ∧ b = b' := by
  have h := e.fb.symm.trans e'.fb
  obtain ⟨a, g, t⟩ := e.fu
  obtain ⟨a', g', t'⟩ := e'.fu
  have hf : f = f' := congrArg Prod.fst h
  rw [← hf] at g'
  have q := Option.some.inj (g.symm.trans g')
  have qa : a = a' := Int.ofNat.inj (congrArg Prod.fst q)
  rw [← qa] at t'
  exact ⟨Int.ofNat.inj (congrArg Prod.snd q), Option.some.inj (t.symm.trans t'), congrArg Prod.snd h⟩
noncomputable def tkT (s : Wd) (c : Cl) : List Int := if c.1 = 0 then [0, c.2] else if c.1 = 5 then [1, c.2] else (s.texts[c.2.toNat]?).elim [] fun t => 2 :: txtK t
theorem Tk.cs {k : List Int} (e : Tk s c k) : (k = tkT s c ∧ ¬ (c.1 = 2 ∨ c.1 = 3)) ∨ ∃ f b ar tx, Sh s c f b ar tx ∧ k = 3 :: (ar : Int) :: txtK tx := by
  cases e with
  | var => exact .inl ⟨rfl, by show ¬ ((0 : Int) = 2 ∨ (0 : Int) = 3); decide⟩
  | int => exact .inl ⟨rfl, by show ¬ ((5 : Int) = 2 ∨ (5 : Int) = 3); decide⟩
  | @atom a tx e => exact .inl ⟨by show _ = (s.texts[a]?).elim [] fun t => 2 :: txtK t; rw [e]; rfl, by show ¬ ((4 : Int) = 2 ∨ (4 : Int) = 3); decide⟩
  | cmp e => exact .inr ⟨_, _, _, _, e, rfl⟩
theorem Tk.uniq {k k' : List Int} (e : Tk s c k) (e' : Tk s c k') : k = k' := by
  rcases e.cs with ⟨h, n⟩ | ⟨f, b, ar, tx, h, rfl⟩
  · rcases e'.cs with ⟨h', _⟩ | ⟨f', b', ar', tx', h', _⟩
    · exact h.trans h'.symm
    · exact absurd h'.tag n
  · rcases e'.cs with ⟨_, n⟩ | ⟨f', b', ar', tx', h', rfl⟩
    · exact absurd h.tag n
    · obtain ⟨e1, e2, _⟩ := h.uniq h'
      rw [e1, e2]
theorem lx_eq0 : ∀ {x y : List Int}, lx x y = 0 → x = y
  | [], [], _ => rfl
  | [], _ :: _, h => by simp [lx] at h
  | _ :: _, [], h => by simp [lx] at h
  | a :: x, b :: y, h => by
    rw [lx_cons] at h
    split at h
    · cases h
    · split at h
      · cases h
      · rw [lx_eq0 h, show a = b by omega]
noncomputable abbrev cpS := unW bd12
noncomputable def Lp (n : Nat) (K : Fl → List AV → H → Prop) (sp : Int) (σ : H) (c1 c2 : AV) (ws : List PyData) (met : List Int) (m : Nat) : Prop :=
  ∀ a5 a6 a7, whA (tst tb (CF (n + 3)) cpS.1) (ex tb (CF (n + 3)) [31, 32, 33] cpS.2.1) m [stA, c1, c2, .ins 3 31, .obj 33, a5, a6, a7] ((33, .dat ws) :: (32, .iset met) :: (31, .ns (psN sp)) :: σ) K
variable {K : Fl → List AV → H → Prop} {c1 c2 : AV} {m : Nat} {x y x' y' : Cl} {k k' : List Int}
theorem Wo.cp (w : Wo σ s) : Wo ((33, .dat ws) :: (32, .iset met) :: (31, .ns (psN sp)) :: σ) s := ((w.cons 31 _ rfl).cons 32 _ rfl).cons 33 _ rfl
theorem Lp.nil (q : ∀ l, l.length = 8 → K .next l ((33, .dat []) :: (32, .iset met) :: (31, .ns (psN sp)) :: σ)) : Lp n K sp σ c1 c2 [] met (m + 1) := by
  intro a5 a6 a7
  refine (len_ (xs := []) rfl (by decide) (gt_f (by decide) ?_))
  exact q _ rfl
theorem gt0 {α : Type} {ws : List α} {x : α} : (0 : Int) < ((ws ++ [x]).length : Nat) := by rw [List.length_append]; show (0 : Int) < ((ws.length + 1 : Nat) : Int); omega
theorem lt20 {α : Type} {ws : List α} {x : α} (h : ws.length < 3000) : (ws ++ [x]).length < 2 ^ 20 := by rw [List.length_append]; show ws.length + 1 < _; omega
theorem Lp.eq (w : Wo σ s) (z : Sz s) (hl : ws.length < 3000) (e : Dr s x x') (e' : Dr s y x') (q : Lp n K sp σ c1 c2 ws met m) : Lp n K sp σ c1 c2 (ws ++ [pp x y]) met (m + 1) := by
  intro a5 a6 a7
  refine (len_ rfl (lt20 hl) (gt_t gt0 ?_))
  refine ⟨pop_T rfl, pop_ rfl (by omega) ?_⟩
  refine ⟨m_st w.cp rfl rfl, deref_ w.cp z.h e ?_⟩
  refine ⟨m_st w.cp rfl rfl, deref_ w.cp z.h e' ?_⟩
  refine eqc_t rfl ?_
  exact q _ _ _
theorem Lp.ne (w : Wo σ s) (z : Sz s) (hc : ClosedH σ) (hl : ws.length < 3000) (e : Dr s x x') (e' : Dr s y y') (t : Tk s x' k) (t' : Tk s y' k') (h : lx k k' ≠ 0) (q : ∀ l, K (.ret (iA (lx k k'))) l σ) : Lp n K sp σ c1 c2 (ws ++ [pp x y]) met (m + 1) := by
  intro a5 a6 a7
  refine (len_ rfl (lt20 hl) (gt_t gt0 ?_))
  refine ⟨pop_T rfl, pop_ rfl (by omega) ?_⟩
  refine ⟨m_st w.cp rfl rfl, deref_ w.cp z.h e ?_⟩
  refine ⟨m_st w.cp rfl rfl, deref_ w.cp z.h e' ?_⟩
  refine eqc_f ?_ ?_
  · rintro rfl
    rw [t.uniq t', lx_self] at h
    exact h rfl
  refine (tops_ w.cp z t t' (ne_t h ?_))
  exact ⟨fun k h => h, hc, nofun, q _⟩
theorem Lp.flat (w : Wo σ s) (z : Sz s) (hl : ws.length < 3000) (e : Dr s x x') (e' : Dr s y y') (t : Tk s x' k) (t' : Tk s y' k') (h : lx k k' = 0) (hn : ¬ (x'.1 = 2 ∨ x'.1 = 3)) (q : Lp n K sp σ c1 c2 ws met m) : Lp n K sp σ c1 c2 (ws ++ [pp x y]) met (m + 1) := by
  by_cases hx : x' = y'
  · subst hx; exact Lp.eq w z hl e e' q
  intro a5 a6 a7
  refine (len_ rfl (lt20 hl) (gt_t gt0 ?_))
  refine ⟨pop_T rfl, pop_ rfl (by omega) ?_⟩
  refine ⟨m_st w.cp rfl rfl, deref_ w.cp z.h e ?_⟩
  refine ⟨m_st w.cp rfl rfl, deref_ w.cp z.h e' ?_⟩
  refine eqc_f hx ?_
  refine (tops_ w.cp z t t' (ne_f h ?_))
  refine ⟨m_st w.cp rfl rfl, isc_ w.cp ?_⟩
  rw [decide_eq_false hn]
  exact q _ _ _
theorem Lp.cmp (w : Wo σ s) (z : Sz s) (hl : ws.length < 3000) (hm : met.length < 3000) (e : Sh s x' f b ar tx) (e' : Sh s y' f' b' ar' tx') (d : Dr s x x') (d' : Dr s y y') (u : -(2 ^ 63) < x'.2) (u' : x'.2 < 2 ^ 63)
    (h : lx ((ar : Int) :: txtK tx) ((ar' : Int) :: txtK tx') = 0) (q : x' = y' ∨ x'.2 * sp + y'.2 ∈ met → Lp n K sp σ c1 c2 ws met m)
    (hp : ar = 1 ∧ (∃ g g', s.h[b]? = some g ∧ s.h[b']? = some g' ∧ ∀ met' : List Int, met'.length ≤ met.length + 1 → Lp n K sp σ c1 c2 (ws ++ [pp g g']) met' m) ∨
      ar = 2 ∧ (∃ g g' g2 g2', s.h[b]? = some g ∧ s.h[b']? = some g' ∧ s.h[b + 1]? = some g2 ∧ s.h[b' + 1]? = some g2' ∧ ∀ met' : List Int, met'.length ≤ met.length + 1 → Lp n K sp σ c1 c2 (ws ++ [pp g2 g2'] ++ [pp g g']) met' m)) :
    Lp n K sp σ c1 c2 (ws ++ [pp x y]) met (m + 1) := by
  by_cases hx : x' = y'
  · subst hx; exact Lp.eq w z hl d d' (q (.inl rfl))
  intro a5 a6 a7
  refine (len_ rfl (lt20 hl) (gt_t gt0 ?_))
  refine ⟨pop_T rfl, pop_ rfl (by omega) ?_⟩
  refine ⟨m_st w.cp rfl rfl, deref_ w.cp z.h d ?_⟩
  refine ⟨m_st w.cp rfl rfl, deref_ w.cp z.h d' ?_⟩
  refine eqc_f hx ?_
  refine (tops_ w.cp z (.cmp e) (.cmp e') (ne_f (by rw [lx_cons, if_neg (by omega), if_neg (by omega)]; exact h) ?_))
  refine ⟨m_st w.cp rfl rfl, isc_ w.cp ?_⟩
  rw [decide_eq_true e.tag]
  have hk := lx_eq0 h
  simp only [List.cons.injEq] at hk
  have ha : ar' = ar := by omega
  subst ha
  refine ⟨meth_ rfl rfl rfl, padd_ rfl rfl (by omega) u u' (fun g => q (.inr g) _ _ _) ?_⟩
  have hlen : (if x'.2 * sp + y'.2 ∈ met then met else met ++ [x'.2 * sp + y'.2]).length ≤ met.length + 1 := by
    split
    · omega
    · rw [List.length_append]; exact Nat.le_refl _
  rcases hp with ⟨rfl, g, g', h1, h2, hq⟩ | ⟨rfl, g, g', g2, g2', h1, h2, h3, h4, hq⟩
  · exact (push1_ w.cp z e e' h1 h2 rfl (by omega) (hq _ hlen _ _ _))
  · exact (push2_ w.cp z e e' h1 h2 h3 h4 rfl (by omega) (hq _ hlen _ _ _))
end
end Mine
end
section
set_option maxRecDepth 100000
open PySem PySem.W PyProof.Rows
namespace Mine
open PySem
noncomputable def PF : List Int → List Int → Prop
  | [], [] => True
  | [], _ :: _ => False
  | _ :: _, [] => False
  | a :: x, b :: y => a = b → PF x y
theorem lx_app : ∀ {x y : List Int}, PF x y → ∀ u v, lx (x ++ u) (y ++ v) = if lx x y = 0 then lx u v else lx x y
  | [], [], _, u, v => by simp [lx]
  | [], _ :: _, h, _, _ => h.elim
  | _ :: _, [], h, _, _ => h.elim
  | a :: x, b :: y, h, u, v => by
    rw [List.cons_append, List.cons_append, lx_cons, lx_cons]
    by_cases h1 : a < b
    · rw [if_pos h1, if_pos h1]; rfl
    · by_cases h2 : b < a
      · rw [if_neg h1, if_pos h2, if_neg h1, if_pos h2]; rfl
      · rw [if_neg h1, if_neg h2, if_neg h1, if_neg h2]
        exact lx_app (h (by omega)) u v
theorem pf_txt : ∀ l m : List Nat, PF (l.map Int.ofNat ++ [-1]) (m.map Int.ofNat ++ [-1])
  | [], [] => fun _ => trivial
  | [], b :: m => fun h => by have : (-1 : Int) = (b : Int) := h; omega
  | a :: l, [] => fun h => by have : (a : Int) = -1 := h; omega
  | a :: l, b :: m => fun _ => pf_txt l m
inductive Fa (s : Wd) : Cl → List Int → Prop
  | var {i : Nat} (e : s.h[i]? = some (0, (i : Int))) : Fa s (0, (i : Int)) [0, (i : Int)]
  | int {v : Int} : Fa s (5, v) [1, v]
  | atom {a : Nat} {tx : Str} (e : s.texts[a]? = some tx) : Fa s (4, (a : Int)) (2 :: txtK tx)
inductive El (s : Wd) : Cl → List Int → Prop
  | flat {c : Cl} {k : List Int} (e : Fa s c k) : El s c k
  | one {c x : Cl} {f b : Nat} {tx : Str} {k : List Int} (e : Sh s c f b 1 tx) (g : s.h[b]? = some x) (a : Fa s x k) : El s c ((3 :: 1 :: txtK tx) ++ k)
  | two {c x y : Cl} {f b : Nat} {tx : Str} {k k' : List Int} (e : Sh s c f b 2 tx) (g : s.h[b]? = some x) (a : Fa s x k) (g' : s.h[b + 1]? = some y) (a' : Fa s y k') : El s c ((3 :: 2 :: txtK tx) ++ (k ++ k'))
section
variable {σ : H} {s : Wd} {n : Nat} {Q : AV → H → Prop} {c d l r : Cl} {f b ar f' b' ar' : Nat} {tx tx' : Str} {ws : List PyData} {met : List Int} {sp : Int}
variable {K : Fl → List AV → H → Prop} {c1 c2 : AV} {m : Nat} {x y x' y' : Cl} {k k' : List Int}
theorem Fa.dr (e : Fa s c k) : Dr s c c := by
  cases e with
  | var e => exact .var e
  | int => exact .con (by decide) (by decide)
  | atom => exact .con (by decide) (by decide)
theorem Fa.tk (e : Fa s c k) : Tk s c k := by
  cases e with
  | var e => exact .var
  | int => exact .int
  | atom e => exact .atom e
theorem Fa.nc (e : Fa s c k) : ¬ (c.1 = 2 ∨ c.1 = 3) := by cases e <;> simp
theorem Fa.hd (e : Fa s c k) : ∃ a r, k = a :: r ∧ a ≠ 3 := by
  cases e with
  | var e => exact ⟨_, _, rfl, by decide⟩
  | int => exact ⟨_, _, rfl, by decide⟩
  | atom e => exact ⟨_, _, rfl, by decide⟩
theorem Tk.pf (e : Tk s x k) (e' : Tk s y k') : PF k k' := by
  cases e <;> cases e' <;> intro h <;> first | (exact fun _ => trivial) | (exact absurd h (by decide)) | exact pf_txt _ _ | exact fun _ => pf_txt _ _
theorem El.dr (e : El s c k) : Dr s c c := by
  cases e with
  | flat e => exact e.dr
  | one e => exact e.dr
  | two e => exact e.dr
theorem Sh.bd (z : Sz s) (e : Sh s c f b ar tx) (g : s.h[b]? = some x) : 0 ≤ c.2 ∧ c.2 < 4000 := by
  obtain ⟨h, _⟩ := List.getElem?_eq_some_iff.mp g
  have := z.h
  cases e <;> exact ⟨by show (0 : Int) ≤ _; omega, by show (_ : Int) < _; omega⟩
end
end Mine
end
section
set_option maxRecDepth 100000
open PySem PySem.W PyProof.Rows
namespace Mine
open PySem
section
variable {σ : H} {s : Wd} {n : Nat} {Q : AV → H → Prop} {c d l r : Cl} {f b ar f' b' ar' : Nat} {tx tx' : Str} {ws : List PyData} {met : List Int} {sp : Int}
variable {K : Fl → List AV → H → Prop} {c1 c2 : AV} {m : Nat} {x y x' y' : Cl} {k k' : List Int}
theorem gt_of {a b : Int} (h : ¬ a < b) (n : a ≠ b) : b < a := by omega
theorem Fa.uniq (e : Fa s c k) (e' : Fa s c k') : k = k' := e.tk.uniq e'.tk
theorem El.uniq (e : El s c k) (e' : El s c k') : k = k' := by
  have no : ∀ {c : Cl} {f b ar : Nat} {tx : Str} {k : List Int}, Sh s c f b ar tx → Fa s c k → False := fun e a => a.nc e.tag
  cases e with
  | flat e =>
    cases e' with
    | flat e' => exact e.uniq e'
    | one e' => exact (no e' e).elim
    | two e' => exact (no e' e).elim
  | one e g a =>
    cases e' with
    | flat e' => exact (no e e').elim
    | one e' g' a' =>
      obtain ⟨_, rfl, rfl⟩ := e.uniq e'
      rw [g] at g'; cases g'
      rw [a.uniq a']
    | two e' => exact absurd (e.uniq e').1 (by decide)
  | two e g a g2 a2 =>
    cases e' with
    | flat e' => exact (no e e').elim
    | one e' => exact absurd (e.uniq e').1 (by decide)
    | two e' g' a' g2' a2' =>
      obtain ⟨_, rfl, rfl⟩ := e.uniq e'
      rw [g] at g'; cases g'
      rw [g2] at g2'; cases g2'
      rw [a.uniq a', a2.uniq a2']
theorem Lp.fa (w : Wo σ s) (z : Sz s) (hc : ClosedH σ) (hl : ws.length < 3000) (e : Fa s x k) (e' : Fa s y k') (q0 : lx k k' = 0 → Lp n K sp σ c1 c2 ws met m) (q1 : lx k k' ≠ 0 → ∀ l, K (.ret (iA (lx k k'))) l σ) :
    Lp n K sp σ c1 c2 (ws ++ [pp x y]) met (m + 1) := by
  by_cases h : lx k k' = 0
  · exact Lp.flat w z hl e.dr e'.dr e.tk e'.tk h e.nc (q0 h)
  · exact Lp.ne w z hc hl e.dr e'.dr e.tk e'.tk h (q1 h)
theorem Lp.el (w : Wo σ s) (z : Sz s) (hc : ClosedH σ) (hl : ws.length < 2000) (hm : met.length < 3000) (e : El s x k) (e' : El s y k') (hz : met = [] ∨ lx k k' = 0)
    (q0 : lx k k' = 0 → ∀ (met' : List Int) m', met'.length ≤ met.length + 1 → m ≤ m' → Lp n K sp σ c1 c2 ws met' m') (q1 : lx k k' ≠ 0 → ∀ l, K (.ret (iA (lx k k'))) l σ) :
    Lp n K sp σ c1 c2 (ws ++ [pp x y]) met (m + 3) := by
  have part : ∀ {t t' u u' : List Int}, Tk s x t → Tk s y t' → k = t ++ u → k' = t' ++ u' → lx t t' ≠ 0 → Lp n K sp σ c1 c2 (ws ++ [pp x y]) met (m + 3) := by
    intro t t' u u' h h' hk hk' hn
    have hx : lx k k' = lx t t' := by rw [hk, hk', lx_app (h.pf h'), if_neg hn]
    refine Lp.ne w z hc (by omega) e.dr e'.dr h h' hn fun l => ?_
    rw [← hx]
    exact q1 (by rw [hx]; exact hn) l
  have eq0 : lx k k' = 0 → ∀ (m' : Nat), m ≤ m' → Lp n K sp σ c1 c2 ws met m' := fun h m' hm' => q0 h met m' (by omega) hm'
  have cmp : ∀ {f b ar f' b' ar' : Nat} {tx tx' : Str} {u u' : List Int}, Sh s x f b ar tx → Sh s y f' b' ar' tx' → (∃ g, s.h[b]? = some g) → k = (3 :: (ar : Int) :: txtK tx) ++ u → k' = (3 :: (ar' : Int) :: txtK tx') ++ u' →
      (lx (3 :: (ar : Int) :: txtK tx) (3 :: (ar' : Int) :: txtK tx') = 0 → lx k k' = lx u u' → ar = 1 ∧ (∃ g g', s.h[b]? = some g ∧ s.h[b']? = some g' ∧ ∀ met' : List Int, met'.length ≤ met.length + 1 → Lp n K sp σ c1 c2 (ws ++ [pp g g']) met' (m + 2)) ∨
      ar = 2 ∧ (∃ g g' g2 g2', s.h[b]? = some g ∧ s.h[b']? = some g' ∧ s.h[b + 1]? = some g2 ∧ s.h[b' + 1]? = some g2' ∧ ∀ met' : List Int, met'.length ≤ met.length + 1 → Lp n K sp σ c1 c2 (ws ++ [pp g2 g2'] ++ [pp g g']) met' (m + 2))) →
      Lp n K sp σ c1 c2 (ws ++ [pp x y]) met (m + 3) := by
    intro f b ar f' b' ar' tx tx' u u' h h' ⟨g, hg⟩ hk hk' hp
    by_cases hn : lx (3 :: (ar : Int) :: txtK tx) (3 :: (ar' : Int) :: txtK tx') = 0
    · have hx : lx k k' = lx u u' := by rw [hk, hk', lx_app ((Tk.cmp h).pf (Tk.cmp h')), if_pos hn]
      have hb := h.bd z hg
      refine Lp.cmp w z (by omega) (by omega) h h' e.dr e'.dr (by omega) (by omega) (by rw [lx_cons, if_neg (by omega), if_neg (by omega)] at hn; exact hn) ?_ (hp hn hx)
      intro hh
      refine eq0 ?_ _ (by omega)
      rcases hh with rfl | hh
      · rw [e.uniq e', lx_self]
      · rcases hz with rfl | hz
        · cases hh
        · exact hz
    · exact part (.cmp h) (.cmp h') hk hk' hn
  cases e with
  | flat e =>
    cases e' with
    | flat e' => exact Lp.fa w z hc (by omega) e e' (fun h => eq0 h _ (by omega)) q1
    | one e' g' a' =>
      obtain ⟨a, r, rfl, ha⟩ := e.hd
      refine part e.tk (.cmp e') (List.append_nil _).symm rfl ?_
      rw [lx_cons]; split
      · decide
      · rename_i hlt; rw [if_pos (gt_of hlt ha)]; decide
    | two e' g' a' g2' a2' =>
      obtain ⟨a, r, rfl, ha⟩ := e.hd
      refine part e.tk (.cmp e') (List.append_nil _).symm rfl ?_
      rw [lx_cons]; split
      · decide
      · rename_i hlt; rw [if_pos (gt_of hlt ha)]; decide
  | one e g a =>
    cases e' with
    | flat e' =>
      obtain ⟨a, r, rfl, ha⟩ := e'.hd
      refine part (.cmp e) e'.tk rfl (List.append_nil _).symm ?_
      rw [lx_cons]; split
      · decide
      · rename_i hlt; rw [if_pos (gt_of hlt (Ne.symm ha))]; decide
    | one e' g' a' =>
      refine cmp e e' ⟨_, g⟩ rfl rfl fun hn hx => .inl ⟨rfl, _, _, g, g', fun met' hm' => ?_⟩
      refine Lp.fa w z hc (by omega) a a' (fun h => q0 (by rw [hx]; exact h) _ _ hm' (by omega)) fun h l => ?_
      rw [← hx]; exact q1 (by rw [hx]; exact h) l
    | two e' g' a' g2' a2' =>
      exact part (.cmp e) (.cmp e') rfl rfl (by rw [lx_cons, if_neg (by decide), if_neg (by decide), lx_cons, if_pos (by decide)]; decide)
  | two e g a g2 a2 =>
    cases e' with
    | flat e' =>
      obtain ⟨a, r, rfl, ha⟩ := e'.hd
      refine part (.cmp e) e'.tk rfl (List.append_nil _).symm ?_
      rw [lx_cons]; split
      · decide
      · rename_i hlt; rw [if_pos (gt_of hlt (Ne.symm ha))]; decide
    | one e' g' a' =>
      exact part (.cmp e) (.cmp e') rfl rfl (by rw [lx_cons, if_neg (by decide), if_neg (by decide), lx_cons, if_neg (by decide), if_pos (by decide)]; decide)
    | two e' g' a' g2' a2' =>
      refine cmp e e' ⟨_, g⟩ rfl rfl fun hn hx => .inr ⟨rfl, _, _, _, _, g, g', g2, g2', fun met' hm' => ?_⟩
      rw [lx_app (a.tk.pf a'.tk)] at hx
      refine Lp.fa w z hc (by rw [List.length_append]; show ws.length + 1 < _; omega) a a' (fun h => ?_) fun h l => ?_
      · rw [if_pos h] at hx
        refine Lp.fa w z hc (by omega) a2 a2' (fun h2 => q0 (by rw [hx]; exact h2) _ _ hm' (by omega)) fun h2 l => ?_
        rw [← hx]; exact q1 (by rw [hx]; exact h2) l
      · rw [if_neg h] at hx
        rw [← hx]; exact q1 (by rw [hx]; exact h) l
theorem asga_ {C : Nat} {k a : Nat} {l : List (Nat × AV)} {v : AV} {P : H → Prop} (h : look σ k = some (.ns l)) (hl : l.length < 100) (t : tb.att C a = true) (q : P (put σ k (.ns (setNs l a v)))) : asgaA tb (.ins C k) a v σ P := .mk h hl t q
theorem set_ {k : Nat} (h : look σ k = none) (q : Q (.obj k) ((k, .iset []) :: σ)) : setA k [] σ Q := .mk h q
theorem own3 {a b c : Nat} (h1 : look σ a = none) (h2 : look σ b = none) (h3 : look σ c = none) : ∀ k ∈ [a, b, c], look σ k = none := by
  intro k hk
  rcases List.mem_cons.mp hk with rfl | hk
  · exact h1
  rcases List.mem_cons.mp hk with rfl | hk
  · exact h2
  rcases List.mem_cons.mp hk with rfl | hk
  · exact h3
  · cases hk
theorem cmp_in (w : Wo σ s) (z : Sz s) (hc : ClosedH σ) (h1 : look σ 31 = none) (h2 : look σ 32 = none) (h3 : look σ 33 = none) (m : Nat)
    (q : ∀ K : Fl → List AV → H → Prop, (∀ l v, Q v σ → K (.ret v) l σ) → (∀ l met, Q (iA 0) σ → K .next l ((33, .dat []) :: (32, .iset met) :: (31, .ns (psN (s.h.length + 1))) :: σ)) →
      Lp n K (s.h.length + 1) σ (cA c) (cA d) [pp c d] [] m) : CF (n + 4) 12 [stA, cA c, cA d] σ Q := by
  refine ⟨Nat.le_refl _, Nat.le_refl _, own3 h1 h2 h3, ?_⟩
  refine ⟨h1, Nat.le_refl _, Nat.le_refl _, nofun, ?_⟩
  have w1 : Wo ((31, .ns []) :: σ) s := w.cons 31 _ rfl
  refine (st_h w1 (len_ w1.h (by rw [List.length_map]; have := z.h; omega) (add_ ?_)))
  refine asga_ rfl (by decide) rfl ?_
  refine (set_ h2 (asga_ rfl (by show 1 < 100; decide) rfl ?_))
  refine ⟨rfl, ?_⟩
  refine ⟨h3, m, ?_⟩
  rw [List.length_map]
  exact q _ (fun l v h => h) (fun l met h => ⟨fun k hk => hk, hc, nofun, h⟩) _ _ _
theorem cmp_ (w : Wo σ s) (z : Sz s) (hc : ClosedH σ) (h1 : look σ 31 = none) (h2 : look σ 32 = none) (h3 : look σ 33 = none) (e : El s c k) (e' : El s d k') (q : Q (iA (lx k k')) σ) : CF (n + 4) 12 [stA, cA c, cA d] σ Q := by
  refine cmp_in w z hc h1 h2 h3 4 fun K kr kn => ?_
  refine Lp.el (ws := []) (m := 1) w z hc (by decide) (by decide) e e' (.inl rfl) (fun h met' m' _ hm => ?_) fun h l => kr l _ q
  obtain ⟨m', rfl⟩ : ∃ j, m' = j + 1 := ⟨m' - 1, by omega⟩
  rw [h] at q
  exact Lp.nil fun l _ => kn l _ q
end
end Mine
end
section
set_option maxRecDepth 100000
open PySem PySem.W PyProof.Rows
namespace Mine
open PySem
theorem look_put_some {σ : H} {k j : Nat} {o : AO} : (look (put σ k o) j).isSome = (look σ j).isSome := by
  rw [lkput]
  split
  · rename_i h; subst h; rw [Option.isSome_map]
  · rfl
theorem ClosedH.put {σ : H} (c : ClosedH σ) (k : Nat) (o : AO) (h : ∀ r ∈ o.refs, (look σ r).isSome = true) : ClosedH (put σ k o) := by
  intro j x e r m
  rw [look_put_some]
  rw [lkput] at e
  split at e
  · rename_i q; subst q
    cases hl : look σ j with
    | none => rw [hl] at e; cases e
    | some y => rw [hl] at e; cases e; exact h r m
  · exact c j x e r m
noncomputable def Z16 (σ : H) : Prop := (∀ j x, look σ j = some x → 16 ∉ x.refs) ∧ look (del σ 16) 16 = none
theorem nd_put {j k : Nat} {o : AO} : ∀ {σ : H}, look (del σ j) j = none → look (del (Mine.put σ k o) j) j = none
  | [], h => h
  | (i, x) :: t, h => by
    unfold del at h
    unfold Mine.put
    by_cases e : i = j
    · rw [if_pos e] at h
      by_cases g : i = k
      · rw [if_pos g]; unfold del; rw [if_pos e]; exact h
      · rw [if_neg g]; unfold del; rw [if_pos e, lkput]
        split
        · rename_i q; rw [← q, h]; rfl
        · exact h
    · rw [if_neg e] at h
      unfold look at h
      rw [if_neg e] at h
      by_cases g : i = k
      · rw [if_pos g]; unfold del; rw [if_neg e]; unfold look; rw [if_neg e]; exact h
      · rw [if_neg g]; unfold del; rw [if_neg e]; unfold look; rw [if_neg e]; exact nd_put h
theorem Z16.put {σ : H} (c : Z16 σ) (k : Nat) (o : AO) (h : 16 ∉ o.refs) : Z16 (Mine.put σ k o) := ⟨fun j x e => by
  rw [lkput] at e
  split at e
  · cases hl : look σ k with
    | none => rw [hl] at e; cases e
    | some y => rw [hl] at e; cases e; exact h
  · exact c.1 j x e, nd_put c.2⟩
structure Wk (o : Option AO) (σ : H) (s : Wd) : Prop where
  w : Wo σ s
  z : Sz s
  hc : ClosedH σ
  fr : ∀ k, 17 ≤ k → look σ k = none
  t : look σ 16 = o
  z6 : Z16 σ
section
variable {σ : H} {s : Wd} {n : Nat} {Q : AV → H → Prop} {c d l r : Cl} {o : Option AO} {k k' : List Int}
theorem Wk.put {s' : Wd} (h : Wk o σ s) (k : Nat) (x : AO) (hk : k < 16) (w : Wo (Mine.put σ k x) s') (z : Sz s') (hx : x.refs = []) : Wk o (Mine.put σ k x) s' :=
  ⟨w, z, h.hc.put k x (by rw [hx]; exact nofun), fun j hj => by rw [put_ne (by omega)]; exact h.fr j hj, by rw [put_ne (by omega)]; exact h.t, h.z6.put k x (by rw [hx]; exact nofun)⟩
theorem Wo.putx (w : Wo σ s) (x : List Cl) : Wo (Mine.put σ 13 (.dat (x.map pairD))) { s with x := x } :=
  ⟨(put_ne (by decide)).trans w.ar, (put_ne (by decide)).trans w.st, (put_ne (by decide)).trans w.sy, (put_ne (by decide)).trans w.po, (put_ne (by decide)).trans w.nu, (put_ne (by decide)).trans w.h, put_at w.x, (put_ne (by decide)).trans w.te, (put_ne (by decide)).trans w.an, (put_ne (by decide)).trans w.fu, (put_ne (by decide)).trans w.fn, (put_ne (by decide)).trans w.tr⟩
theorem Wk.putx (h : Wk o σ s) (x : List Cl) : Wk o (Mine.put σ 13 (.dat (x.map pairD))) { s with x := x } := h.put 13 _ (by decide) (h.w.putx x) ⟨h.z.h, h.z.t, h.z.f⟩ rfl
theorem setx_in (h : Wk o σ s) {i : Nat} (hi : i < s.x.length) (hl : s.x.length < 4000) (q : ∀ σ', Wk o σ' { s with x := s.x.set i c } → Q (.d .none) σ') : CF (n + 1) 59 [arA, iA i, cA c] σ Q := by
  refine ⟨Nat.le_refl _, Nat.le_refl _, nofun, 1, ?_⟩
  refine (ar_x h.w (len_ h.w.x (by rw [List.length_map]; omega) (le_f (by rw [List.length_map]; omega) ?_)))
  refine ar_x h.w (asgs_ h.w.x (by rw [List.length_map]; exact hi) (by rw [List.length_map]; omega) ?_)
  have e : (s.x.map pairD).set i (pairD c) = (s.x.set i c).map pairD := (List.map_set ..).symm
  rw [e]
  exact q _ (h.putx _)
theorem setx_at (h : Wk o σ s) {i : Nat} (hi : i = s.x.length) (hl : s.x.length < 3000) (q : ∀ σ', Wk o σ' { s with x := s.x ++ [c] } → Q (.d .none) σ') : CF (n + 1) 59 [arA, iA i, cA c] σ Q := by
  refine ⟨Nat.le_refl _, Nat.le_refl _, nofun, 2, ?_⟩
  refine (ar_x h.w (len_ h.w.x (by rw [List.length_map]; omega) (le_t (by rw [List.length_map]; omega) ?_)))
  refine ar_x h.w ⟨app_T h.w.x, app_ (x := pairD (5, 0)) h.w.x (by rw [List.length_map]; omega) ?_⟩
  have e : s.x.map pairD ++ [pairD (5, 0)] = (s.x ++ [(5, 0)]).map pairD := by rw [List.map_append]; rfl
  rw [e]
  have h2 := h.putx (s.x ++ [(5, 0)])
  have l2 : (s.x ++ [((5 : Int), (0 : Int))]).length = s.x.length + 1 := by rw [List.length_append]; rfl
  refine (ar_x h2.w (len_ h2.w.x (by rw [List.length_map, l2]; omega) (le_f (by rw [List.length_map, l2]; omega) ?_)))
  refine ar_x h2.w (asgs_ h2.w.x (by rw [List.length_map, l2]; omega) (by rw [List.length_map, l2]; omega) ?_)
  have e2 : ((s.x ++ [((5 : Int), (0 : Int))]).map pairD).set i (pairD c) = (s.x ++ [c]).map pairD := by
    subst hi
    rw [← List.map_set, List.set_append_right _ _ (Nat.le_refl _), Nat.sub_self]; rfl
  show Q _ (put _ 13 (.dat (((s.x ++ [((5 : Int), (0 : Int))]).map pairD).set i (pairD c))))
  rw [e2]
  exact q _ (h2.putx _)
theorem seta_ (h : Wk o σ s) (hx : (∃ v, s.x = [v]) ∨ ∃ v a b, s.x = [v, a, b]) (q : ∀ σ' v, Wk o σ' { s with x := [v, c, d] } → Q (.d .none) σ') : CF (n + 2) 60 [arA, .d (.list [pairD c, pairD d])] σ Q := by
  refine ⟨Nat.le_refl _, Nat.le_refl _, nofun, ⟨by show 2 < _; decide, ?_⟩⟩
  rcases hx with ⟨v, hx⟩ | ⟨v, a, b, hx⟩
  · refine (add_ ⟨m_ar h.w rfl rfl, setx_at (i := 1) h (by rw [hx]; rfl) (by rw [hx]; show 1 < _; decide) fun σ1 h1 => ?_⟩)
    refine (add_ ⟨m_ar h1.w rfl rfl, setx_at (i := 2) h1 (by rw [hx]; rfl) (by rw [hx]; show 2 < _; decide) fun σ2 h2 => ?_⟩)
    exact q σ2 v (by rw [hx] at h2; exact h2)
  · refine (add_ ⟨m_ar h.w rfl rfl, setx_in (i := 1) h (by rw [hx]; show 1 < 3; decide) (by rw [hx]; show 3 < _; decide) fun σ1 h1 => ?_⟩)
    refine (add_ ⟨m_ar h1.w rfl rfl, setx_in (i := 2) h1 (by rw [hx]; show 2 < 3; decide) (by rw [hx]; show 3 < _; decide) fun σ2 h2 => ?_⟩)
    exact q σ2 v (by rw [hx] at h2; exact h2)
theorem oof_ (h : Wk o σ s) {v : Cl} (hx : s.x = [v, c, d]) (e : El s c k) (e' : El s d k') (q : Q (iA (lx k k')) σ) : CF (n + 5) 15 [arA] σ Q := by
  refine ⟨Nat.le_refl _, Nat.le_refl _, nofun, (ar_st h.w ?_)⟩
  refine ⟨m_ar h.w rfl rfl, arg_ (i := 1) h.w h.z.h (by rw [hx]; show 3 < _; decide) (by rw [hx]; rfl) e.dr ?_⟩
  refine ⟨m_ar h.w rfl rfl, arg_ (i := 2) h.w h.z.h (by rw [hx]; show 3 < _; decide) (by rw [hx]; rfl) e'.dr ?_⟩
  exact cmp_ h.w h.z h.hc (h.fr _ (by decide)) (h.fr _ (by decide)) (h.fr _ (by decide)) e e' q
noncomputable def pv (p : Nat) (t : Int) : Bool := match p with
  | 16 => decide (t = 0)
  | 17 => !decide (t = 0)
  | 18 => decide (t < 0)
  | 19 => decide (0 < t)
  | 20 => decide (t ≤ 0)
  | _ => decide (0 ≤ t)
theorem pred_ {p : Nat} (hp : p = 16 ∨ p = 17 ∨ p = 18 ∨ p = 19 ∨ p = 20 ∨ p = 21) (h : Wk o σ s) {v : Cl} (hx : s.x = [v, c, d]) (e : El s c k) (e' : El s d k') (q : Q (.d (.bool (pv p (lx k k')))) σ) : CF (n + 6) p [arA] σ Q := by
  rcases hp with rfl | rfl | rfl | rfl | rfl | rfl
  · exact ⟨Nat.le_refl _, Nat.le_refl _, nofun, (oof_ h hx e e' (eq_ q))⟩
  · exact ⟨Nat.le_refl _, Nat.le_refl _, nofun, (oof_ h hx e e' (ne_ q))⟩
  · exact ⟨Nat.le_refl _, Nat.le_refl _, nofun, (oof_ h hx e e' (lt_ q))⟩
  · exact ⟨Nat.le_refl _, Nat.le_refl _, nofun, (oof_ h hx e e' (gt_ q))⟩
  · exact ⟨Nat.le_refl _, Nat.le_refl _, nofun, (oof_ h hx e e' (le_ q))⟩
  · exact ⟨Nat.le_refl _, Nat.le_refl _, nofun, (oof_ h hx e e' (ge_ q))⟩
end
end Mine
end
section
set_option maxRecDepth 100000
open PySem PySem.W PyProof.Rows
namespace Mine
open PySem
structure Ex (b s : Wd) : Prop where
  h : ∀ (i : Nat) (c : Cl), b.h[i]? = some c → s.h[i]? = some c
  t : ∀ (i : Nat) (c : Str), b.texts[i]? = some c → s.texts[i]? = some c
  f : ∀ (i : Nat) (c : Cl), b.fus[i]? = some c → s.fus[i]? = some c
theorem Ex.refl (s : Wd) : Ex s s := ⟨fun _ _ e => e, fun _ _ e => e, fun _ _ e => e⟩
theorem Ex.trans {a b c : Wd} (x : Ex a b) (y : Ex b c) : Ex a c := ⟨fun i d e => y.h i d (x.h i d e), fun i d e => y.t i d (x.t i d e), fun i d e => y.f i d (x.f i d e)⟩
theorem Fa.mono {b s : Wd} (x : Ex b s) {c : Cl} {k : List Int} (e : Fa b c k) : Fa s c k := by
  cases e with
  | var e => exact .var (x.h _ _ e)
  | int => exact .int
  | atom e => exact .atom (x.t _ _ e)
theorem Sh.mono {b s : Wd} (x : Ex b s) {c : Cl} {f p ar : Nat} {tx : Str} (e : Sh b c f p ar tx) : Sh s c f p ar tx := by
  cases e with
  | str e g t => exact .str (x.h _ _ e) (x.f _ _ g) (x.t _ _ t)
  | lis g t => exact .lis (x.f _ _ g) (x.t _ _ t)
theorem El.mono {b s : Wd} (x : Ex b s) {c : Cl} {k : List Int} (e : El b c k) : El s c k := by
  cases e with
  | flat e => exact .flat (e.mono x)
  | one e g a => exact .one (e.mono x) (x.h _ _ g) (a.mono x)
  | two e g a g2 a2 => exact .two (e.mono x) (x.h _ _ g) (a.mono x) (x.h _ _ g2) (a2.mono x)
theorem lx_neg : ∀ x y : List Int, lx y x = - lx x y
  | [], [] => rfl
  | [], _ :: _ => rfl
  | _ :: _, [] => rfl
  | a :: x, b :: y => by
    rw [lx_cons, lx_cons]
    by_cases h1 : a < b
    · rw [if_neg (by omega), if_pos h1, if_pos h1]; rfl
    · by_cases h2 : b < a
      · rw [if_pos h2, if_neg h1, if_pos h2]
      · rw [if_neg h2, if_neg h1, if_neg h1, if_neg h2, lx_neg x y]
theorem lx_tri : ∀ x y : List Int, lx x y = -1 ∨ lx x y = 0 ∨ lx x y = 1
  | [], [] => .inr (.inl rfl)
  | [], _ :: _ => .inl rfl
  | _ :: _, [] => .inr (.inr rfl)
  | a :: x, b :: y => by
    rw [lx_cons]
    split
    · exact .inl rfl
    · split
      · exact .inr (.inr rfl)
      · exact lx_tri x y
noncomputable def bl (a b c : Bool) : PyData := .list [.bool a, .bool b, .bool c]
theorem ok_bl (a b c : Bool) : eqOk (bl a b c) := ⟨rfl, by show PyData.depth (.list [.bool a, .bool b, .bool c]) ≤ 60; simp [PyData.depth, PyData.depthAll]⟩
theorem ok_bo (a : Bool) : eqOk (.bool a) := ⟨rfl, by show 0 ≤ 60; decide⟩
section
variable {σ : H} {s b : Wd} {n : Nat} {Q : AV → H → Prop} {B : Bool → Prop} {c d : Cl} {o : Option AO} {k k' : List Int}
theorem eqv_bo (a b : Bool) : PyData.eqv (.bool a) (.bool b) = (a == b) := by cases a <;> cases b <;> rfl
theorem eqb_ {a b c a' b' c' : Bool} (q : B (a == a' && (b == b' && (c == c' && true)))) : cmpA .Eq (.d (bl a b c)) (.d (bl a' b' c')) σ B := by
  refine .eq rfl rfl (ok_bl _ _ _) (ok_bl _ _ _) ?_
  show B (PyData.eqv (.bool a) (.bool a') && (PyData.eqv (.bool b) (.bool b') && (PyData.eqv (.bool c) (.bool c') && true)))
  rw [eqv_bo, eqv_bo, eqv_bo]; exact q
theorem inb_ {a b c : Bool} (q : B (a || (b || (c || false)))) : cmpA .In (.d (.bool true)) (.d (bl a b c)) σ B := by
  refine .mem (.lst (ok_bo _) (ok_bl _ _ _) ?_)
  show B (PyData.eqv (.bool a) (.bool true) || (PyData.eqv (.bool b) (.bool true) || (PyData.eqv (.bool c) (.bool true) || false)))
  rw [eqv_bo, eqv_bo, eqv_bo]; cases a <;> cases b <;> cases c <;> exact q
noncomputable def predOf (g p : Nat) : Prop := (g = 33 ∧ p = 16) ∨ (g = 36 ∧ p = 17) ∨ (g = 34 ∧ p = 18) ∨ (g = 32 ∧ p = 19) ∨ (g = 35 ∧ p = 20) ∨ (g = 37 ∧ p = 21)
noncomputable def XR (s : Wd) : Prop := (∃ v, s.x = [v]) ∨ ∃ v a b, s.x = [v, a, b]
theorem holds_ {g p : Nat} (hp : predOf g p) (h : Wk o σ s) (hx : XR s) (x : Ex b s) (e : El b c k) (e' : El b d k') (q : ∀ σ' v, Wk o σ' { s with x := [v, c, d] } → Q (.d (.bool (pv p (lx k k')))) σ') : CF (n + 7) 29 [arA, .fn g, cA c, cA d] σ Q := by
  refine ⟨Nat.le_refl _, Nat.le_refl _, nofun, ⟨m_ar h.w rfl rfl, seta_ h hx fun σ1 v h1 => ?_⟩⟩
  have x1 : Ex b { s with x := [v, c, d] } := ⟨x.h, x.t, x.f⟩
  rcases hp with ⟨rfl, rfl⟩ | ⟨rfl, rfl⟩ | ⟨rfl, rfl⟩ | ⟨rfl, rfl⟩ | ⟨rfl, rfl⟩ | ⟨rfl, rfl⟩
  · exact (pred_ (by decide) h1 rfl (e.mono x1) (e'.mono x1) (q _ _ h1))
  · exact (pred_ (by decide) h1 rfl (e.mono x1) (e'.mono x1) (q _ _ h1))
  · exact (pred_ (by decide) h1 rfl (e.mono x1) (e'.mono x1) (q _ _ h1))
  · exact (pred_ (by decide) h1 rfl (e.mono x1) (e'.mono x1) (q _ _ h1))
  · exact (pred_ (by decide) h1 rfl (e.mono x1) (e'.mono x1) (q _ _ h1))
  · exact (pred_ (by decide) h1 rfl (e.mono x1) (e'.mono x1) (q _ _ h1))
set_option maxHeartbeats 4000000 in
theorem between_ (h : Wk o σ s) (hx : XR s) (x : Ex b s) (e : El b c k) (e' : El b d k') (q : ∀ σ' v, Wk o σ' { s with x := [v, c, d] } → Q (.d (.bool true)) σ') : CF (n + 8) 31 [arA, cA c, cA d] σ Q := by
  refine ⟨Nat.le_refl _, Nat.le_refl _, nofun, by show 3 < _; decide, ?_⟩
  have ex : ∀ {y}, Ex b { s with x := y } := ⟨x.h, x.t, x.f⟩
  have xr : ∀ {u v w : Cl}, XR { s with x := [u, v, w] } := .inr ⟨_, _, _, rfl⟩
  refine (holds_ (p := 18) (by unfold predOf; decide) h hx ex e e' fun σ1 v1 h1 => ?_)
  refine (holds_ (p := 16) (by unfold predOf; decide) h1 xr ex e e' fun σ2 v2 h2 => ?_)
  refine (holds_ (p := 19) (by unfold predOf; decide) h2 xr ex e e' fun σ3 v3 h3 => ?_)
  refine ⟨by show 3 < _; decide, (holds_ (p := 19) (by unfold predOf; decide) h3 xr ex e' e fun σ4 v4 h4 => ?_)⟩
  refine (holds_ (p := 16) (by unfold predOf; decide) h4 xr ex e' e fun σ5 v5 h5 => ?_)
  refine (holds_ (p := 18) (by unfold predOf; decide) h5 xr ex e' e fun σ6 v6 h6 => ?_)
  refine ⟨by show 3 < _; decide, (holds_ (p := 21) (by unfold predOf; decide) h6 xr ex e e' fun σ7 v7 h7 => ?_)⟩
  refine (holds_ (p := 17) (by unfold predOf; decide) h7 xr ex e e' fun σ8 v8 h8 => ?_)
  refine (holds_ (p := 20) (by unfold predOf; decide) h8 xr ex e e' fun σ9 v9 h9 => ?_)
  refine ⟨m_ar h9.w rfl rfl, seta_ h9 xr fun σa va ha => ?_⟩
  refine (oof_ ha rfl (e.mono ex) (e'.mono ex) ?_)
  refine eq_ (eq_ (eq_ ?_))
  rw [lx_neg k k']
  have q' := q σa va ha
  refine inb_ ?_
  rcases lx_tri k k' with t | t | t
  · rw [t]
    exact eqb_ (eqb_ ⟨by show 3 < _; decide, eqb_ q'⟩)
  · rw [t]
    exact eqb_ (eqb_ ⟨by show 3 < _; decide, eqb_ q'⟩)
  · rw [t]
    exact eqb_ (eqb_ ⟨by show 3 < _; decide, eqb_ q'⟩)
end
end Mine
end
section
set_option maxRecDepth 100000
open PySem PySem.W PyProof.Rows
namespace Mine
open PySem
section
variable {σ : H} {s b : Wd} {n : Nat} {Q : AV → H → Prop} {B : Bool → Prop} {c d : Cl} {o : Option AO} {k k' : List Int}
theorem Wk.puth (h : Wk o σ s) (x : List Cl) (hl : x.length < 4000) : Wk o (Mine.put σ 10 (.dat (x.map pairD))) { s with h := x } :=
  h.put 10 _ (by decide) ⟨(put_ne (by decide)).trans h.w.ar, (put_ne (by decide)).trans h.w.st, (put_ne (by decide)).trans h.w.sy, (put_ne (by decide)).trans h.w.po, (put_ne (by decide)).trans h.w.nu, put_at h.w.h, (put_ne (by decide)).trans h.w.x, (put_ne (by decide)).trans h.w.te, (put_ne (by decide)).trans h.w.an, (put_ne (by decide)).trans h.w.fu, (put_ne (by decide)).trans h.w.fn, (put_ne (by decide)).trans h.w.tr⟩ ⟨hl, h.z.t, h.z.f⟩ rfl
theorem apph_ {v : Cl} (h : Wk o σ s) (hl : s.h.length < 3500) (q : ∀ σ', Wk o σ' { s with h := s.h ++ [v] } → Q (.d .none) σ') : bmA (.obj 10) .append [cA v] σ Q := by
  refine app_ h.w.h (by rw [List.length_map]; omega) ?_
  have e : s.h.map pairD ++ [pairD v] = (s.h ++ [v]).map pairD := by rw [List.map_append]; rfl
  rw [e]
  exact q _ (h.puth _ (by rw [List.length_append]; show s.h.length + 1 < _; omega))
theorem asgh_ {v : Cl} {j : Nat} {x : Int} {P : H → Prop} (h : Wk o σ s) (hj : j < s.h.length) (q : ∀ σ', Wk o σ' { s with h := s.h.set j v } → P σ') (hx : x = (j : Int) := by rfl) : asgsA (.obj 10) (iA x) (cA v) σ P := by
  subst hx
  refine asgs_ h.w.h (by rw [List.length_map]; exact hj) (by rw [List.length_map]; have := h.z.h; omega) ?_
  have e : (s.h.map pairD).set j (pairD v) = (s.h.set j v).map pairD := (List.map_set ..).symm
  rw [e]
  exact q _ (h.puth _ (by rw [List.length_set]; exact h.z.h))
theorem newvar_ (h : Wk o σ s) (hl : s.h.length < 2900) (q : ∀ σ', Wk o σ' { s with h := s.h ++ [(0, (s.h.length : Int))] } → Q (cA (0, (s.h.length : Int))) σ') : CF (n + 2) 42 [stA] σ Q := by
  refine ⟨Nat.le_refl _, Nat.le_refl _, nofun, (st_h h.w (len_ h.w.h (by rw [List.length_map]; omega) ?_))⟩
  rw [List.length_map]
  refine ⟨m_st h.w rfl rfl, Nat.le_refl _, Nat.le_refl _, nofun, ?_⟩
  refine (st_h h.w (len_ h.w.h (by rw [List.length_map]; omega) ?_))
  rw [List.length_map]
  refine st_max h.w (ge_f (by omega) ?_)
  exact st_h h.w ⟨app_T h.w.h, apph_ (v := (0, (s.h.length : Int))) h (by omega) q⟩
noncomputable def rsv (b m : Nat) : List Cl := (List.range m).map fun (i : Nat) => ((0 : Int), ((b : Int) + (i : Int)))
theorem rangeL_0 (m : Nat) : rangeL 0 (m : Int) 1 = (List.range m).map fun (i : Nat) => (0 : Int) + (i : Int) := by
  unfold rangeL
  rw [if_pos rfl, show ((m : Int) - 0).toNat = m by omega]
theorem rsv_succ (b m : Nat) : rsv b (m + 1) = rsv b m ++ [((0 : Int), ((b : Int) + (m : Int)))] := by
  unfold rsv; rw [List.range_succ, List.map_append]; rfl
noncomputable abbrev rsF (n : Nat) : AV → List AV → H → (Fl → List AV → H → Prop) → Prop := fun x l σ k => ex tb (CF n) [] (.exp (.bm (.attr (.loc 0) 2) .append (.cons (.tup (.cons (.glo 2) (.cons (.bin .Add (.loc 2) (.loc 3)) .nil))) .nil)) .done) (l.set 3 x) σ k
theorem rsv_loop {a : AV} {b0 : Nat} {K : Fl → List AV → H → Prop} : ∀ (r j : Nat) (σ : H) (a3 : AV), Wk o σ { s with h := s.h ++ rsv b0 j } → s.h.length + j + r < 3400 → (∀ σ' a3', Wk o σ' { s with h := s.h ++ rsv b0 (j + r) } → K .next [stA, a, iA b0, a3'] σ') →
    forA (rsF n) ((List.range' j r).map fun (i : Nat) => iA ((0 : Int) + (i : Int))) [stA, a, iA b0, a3] σ K
  | 0, j, σ, a3, h, hl, q => q σ a3 h
  | r + 1, j, σ, a3, h, hl, q => by
    have hlen : (s.h ++ rsv b0 j).length = s.h.length + j := by rw [List.length_append]; unfold rsv; rw [List.length_map, List.length_range]
    refine st_h h.w ⟨app_T h.w.h, (add_ ?_)⟩
    refine apph_ (v := (0, (b0 : Int) + ((0 : Int) + (j : Int)))) h (by show (s.h ++ rsv b0 j).length < _; rw [hlen]; omega) fun σ' h' => ?_
    have e : (s.h ++ rsv b0 j) ++ [((0 : Int), (b0 : Int) + ((0 : Int) + (j : Int)))] = s.h ++ rsv b0 (j + 1) := by rw [rsv_succ, List.append_assoc, Int.zero_add]
    refine rsv_loop r (j + 1) σ' _ ?_ (by omega) (fun σ'' a3' h'' => q σ'' a3' ?_)
    · rw [← e]; exact h'
    · rw [show j + (r + 1) = j + 1 + r by omega]; exact h''
theorem reserve_ {m : Nat} {x : Int} (h : Wk o σ s) (hl : s.h.length + m < 2900) (q : ∀ σ', Wk o σ' { s with h := s.h ++ rsv s.h.length m } → Q (iA (s.h.length : Int)) σ') (hx : x = (m : Int) := by rfl) : CF (n + 1) 43 [stA, iA x] σ Q := by
  subst hx
  refine ⟨Nat.le_refl _, Nat.le_refl _, nofun, (st_h h.w (len_ h.w.h (by rw [List.length_map]; omega) ?_))⟩
  rw [List.length_map]
  refine add_ (st_max h.w (gt_f (by omega) ?_))
  refine (rng1_ (by unfold small; omega) ?_)
  refine ⟨by rw [rangeL_0, List.length_map, List.length_range]; omega, ?_⟩
  rw [rangeL_0, List.map_map, List.range_eq_range']
  refine rsv_loop (o := o) (s := s) (b0 := s.h.length) m 0 σ _ ?_ (by omega) fun σ' a3' h' => ?_
  · rw [show s.h ++ rsv s.h.length 0 = s.h from List.append_nil _]; exact h
  · rw [Nat.zero_add] at h'; exact q σ' h'
end
end Mine
end
section
set_option maxRecDepth 100000
open PySem PySem.W PyProof.Rows
namespace Mine
open PySem
noncomputable def blk0 : Nat → List Cl → List Cl
  | _, [] => []
  | b, c :: cs => c :: (3, (b : Int) + 2) :: blk0 (b + 2) cs
noncomputable def blk : Nat → List Cl → List Cl
  | _, [] => []
  | _, [c] => [c, (4, 0)]
  | b, c :: d :: cs => c :: (3, (b : Int) + 2) :: blk (b + 2) (d :: cs)
theorem blk0_len : ∀ (b : Nat) (cs : List Cl), (blk0 b cs).length = 2 * cs.length
  | _, [] => rfl
  | b, c :: cs => by
    show (blk0 (b + 2) cs).length + 1 + 1 = 2 * (cs.length + 1)
    rw [blk0_len (b + 2) cs]; omega
theorem blk0_set : ∀ (b : Nat) (c : Cl) (cs : List Cl), (blk0 b (c :: cs)).set (2 * cs.length + 1) (4, 0) = blk b (c :: cs)
  | b, c, [] => rfl
  | b, c, d :: cs => by
    have ih := blk0_set (b + 2) d cs
    show c :: (3, (b : Int) + 2) :: (blk0 (b + 2) (d :: cs)).set (2 * cs.length + 1) (4, 0) = _
    rw [ih]; rfl
section
variable {σ : H} {s b : Wd} {n : Nat} {Q : AV → H → Prop} {B : Bool → Prop} {c d : Cl} {o : Option AO} {k k' : List Int}
theorem Wo.tail {k : Nat} {x : AO} (w : Wo ((k, x) :: σ) s) (hk : Nat.ble 15 k = true) : Wo σ s := by
  have e : ∀ j, j < 15 → look ((k, x) :: σ) j = look σ j := fun j hj => if_neg fun q => by
    have := Nat.le_of_ble_eq_true hk
    omega
  obtain ⟨a, b, c, d, f, g, i, j, m, n, p, q⟩ := w
  exact ⟨(e _ (by decide)).symm.trans a, (e _ (by decide)).symm.trans b, (e _ (by decide)).symm.trans c, (e _ (by decide)).symm.trans d, (e _ (by decide)).symm.trans f, (e _ (by decide)).symm.trans g, (e _ (by decide)).symm.trans i, (e _ (by decide)).symm.trans j, (e _ (by decide)).symm.trans m, (e _ (by decide)).symm.trans n, (e _ (by decide)).symm.trans p, (e _ (by decide)).symm.trans q⟩
theorem bl_loop {K : Fl → List AV → H → Prop} {l1 l2 l3 l6 l7 l8 : AV} (w : Wo σ s) (z : Sz s) : ∀ (cs : List Cl) (vs : List PyData) (l5 : AV), l5.refs = [] → (∀ c ∈ cs, Dr s c c) → vs.length + cs.length < 1000 → (∀ l5, l5.refs = [] → K .next [stA, l1, l2, l3, .obj 21, l5, l6, l7, l8] ((21, .dat (vs ++ cs.map pairD)) :: σ)) →
    forA (fun x l σ k => ex tb (CF (n + 2)) [21] (.exp (.bm (.loc 4) .append (.cons (.meth (.loc 0) 35 (.cons (.loc 5) .nil)) .nil)) .done) (l.set 5 x) σ k) (cs.map cA) [stA, l1, l2, l3, .obj 21, l5, l6, l7, l8] ((21, .dat vs) :: σ) K
  | [], vs, l5, h5, hd, hl, q => by
    have := q l5 h5
    rw [List.map_nil, List.append_nil] at this
    exact this
  | c :: cs, vs, l5, h5, hd, hl, q => by
    have w1 : Wo ((21, .dat vs) :: σ) s := w.cons 21 _ rfl
    rw [List.length_cons] at hl
    refine ⟨app_T rfl, ⟨m_st w1 rfl rfl, glob_ w1 z.h (hd c (List.mem_cons_self ..)) ?_⟩⟩
    refine app_ rfl (by omega) ?_
    refine bl_loop w z cs (vs ++ [pairD c]) _ rfl (fun d hd' => hd d (List.mem_cons_of_mem _ hd')) (by rw [List.length_append]; show vs.length + 1 + _ < _; omega) fun l5 h5 => ?_
    rw [List.append_assoc]
    exact q l5 h5
theorem bl_loop2 {K : Fl → List AV → H → Prop} {l1 l2A l3 l4 l5 l6 : AV} : ∀ (cs : List Cl) (hh rs : List Cl) (σ : H) (l8 : AV), rs.length = 2 * cs.length → Wk o σ { s with h := hh ++ rs } → hh.length + rs.length < 3500 →
    (∀ σ' l8, Wk o σ' { s with h := hh ++ blk0 hh.length cs } → K .next [stA, l1, l2A, l3, l4, l5, l6, iA ((hh.length + 2 * cs.length : Nat) : Int), l8] σ') →
    forA (fun x l σ k => ex tb (CF n) [21] (.asgs (.attr (.loc 0) 2) (.loc 7) (.loc 8) (.asgs (.attr (.loc 0) 2) (.bin .Add (.loc 7) (.con (.int 1))) (.tup (.cons (.glo 14) (.cons (.bin .Add (.loc 7) (.con (.int 2))) .nil))) (.aug 7 .Add (.con (.int 2)) .done))) (l.set 8 x) σ k) (cs.map cA) [stA, l1, l2A, l3, l4, l5, l6, iA (hh.length : Int), l8] σ K
  | [], hh, rs, σ, l8, hr, h, hl, q => by
    have : rs = [] := List.length_eq_zero_iff.mp hr
    subst this
    exact q σ l8 h
  | c :: cs, hh, rs, σ, l8, hr, h, hl, q => by
    rw [List.length_cons] at hr
    match rs, hr with
    | r0 :: r1 :: rs, hr =>
      have hr' : rs.length = 2 * cs.length := by simp only [List.length_cons] at hr; omega
      have hlen : (hh ++ r0 :: r1 :: rs).length = hh.length + (rs.length + 2) := by rw [List.length_append]; rfl
      have hl2 : hh.length + rs.length + 2 < 3500 := by simp only [List.length_cons] at hl; omega
      refine st_h h.w (asgh_ (j := hh.length) h (by show _ < (hh ++ r0 :: r1 :: rs).length; rw [hlen]; omega) fun σ1 h1 => ?_)
      have e1 : (hh ++ r0 :: r1 :: rs).set hh.length c = hh ++ c :: r1 :: rs := by rw [List.set_append_right _ _ (Nat.le_refl _), Nat.sub_self]; rfl
      have h1' : Wk o σ1 { s with h := hh ++ c :: r1 :: rs } := by rw [← e1]; exact h1
      refine add_ (st_h h1'.w (add_ ?_))
      refine asgh_ (v := (3, (hh.length : Int) + 2)) (j := hh.length + 1) h1' (by show _ < (hh ++ c :: r1 :: rs).length; rw [List.length_append]; show _ < _ + (rs.length + 2); omega) fun σ2 h2 => ?_
      have e2 : (hh ++ c :: r1 :: rs).set (hh.length + 1) (3, (hh.length : Int) + 2) = (hh ++ [c, (3, (hh.length : Int) + 2)]) ++ rs := by
        rw [List.set_append_right _ _ (by omega), show hh.length + 1 - hh.length = 1 by omega, List.append_assoc]; rfl
      have l2 : (hh ++ [c, (3, (hh.length : Int) + 2)]).length = hh.length + 2 := by rw [List.length_append]; rfl
      refine add_ ?_
      show forA _ (cs.map cA) [stA, l1, l2A, l3, l4, l5, l6, iA ((hh.length : Int) + 2), cA c] σ2 K
      have e3 : ((hh.length : Int) + 2) = (((hh ++ [c, (3, (hh.length : Int) + 2)]).length : Nat) : Int) := by rw [l2]; omega
      rw [congrArg iA e3]
      refine bl_loop2 cs (hh ++ [c, (3, (hh.length : Int) + 2)]) rs σ2 (cA c) hr' (by rw [← e2]; exact h2) (by rw [l2]; omega) fun σ' l8 h' => ?_
      rw [l2, List.append_assoc] at h'
      have := q σ' l8 h'
      rw [l2, show hh.length + 2 + 2 * cs.length = hh.length + 2 * (c :: cs).length by rw [List.length_cons]; omega]
      exact this
end
end Mine
end
section
set_option maxRecDepth 100000
open PySem PySem.W PyProof.Rows
namespace Mine
open PySem
section
variable {σ : H} {s b : Wd} {n : Nat} {Q : AV → H → Prop} {B : Bool → Prop} {c d : Cl} {o : Option AO} {k k' : List Int}
theorem isn_ {a : AV} (u : a ≠ .un) (q : B (isNone a)) : cmpA .Is a (.d .none) σ B := .is u q
theorem frz_ {l : List AV} {i k : Nat} {own : List Nat} {xs : List PyData} {P : List AV → H → Prop} (e : l[i]? = some (.obj k)) (h : look σ k = some (.dat xs)) (ho : k ∈ own) (hl : ∀ v ∈ l.set i .un, k ∉ v.refs) (hc : ClosedH (del σ k))
    (q : P (l.set i (.d (.list xs))) (del σ k)) : frzA l i own σ P := .mk e h ho (fun j v g => hl v (List.mem_of_getElem? g)) hc q
theorem nr_cons {k : Nat} {v : AV} {l : List AV} (h : k ∉ v.refs) (t : ∀ v ∈ l, k ∉ v.refs) : ∀ w ∈ v :: l, k ∉ w.refs := List.forall_mem_cons.mpr ⟨h, t⟩
theorem nr_nil {k : Nat} : ∀ w ∈ ([] : List AV), k ∉ w.refs := fun _ h => absurd h List.not_mem_nil
theorem nr0 {k : Nat} {v : AV} (h : v.refs = []) : k ∉ v.refs := by rw [h]; exact nofun
theorem map_cA (cs : List Cl) : (cs.map pairD).map AV.d = cs.map cA := by rw [List.map_map]; rfl
theorem build_ {cs : List Cl} (h : Wk o σ s) (h0 : cs ≠ []) (hd : ∀ c ∈ cs, Dr s c c) (hl : cs.length < 100) (hh : s.h.length < 2000) (q : ∀ σ', Wk o σ' { s with h := s.h ++ blk s.h.length cs } → Q (cA (3, (s.h.length : Int))) σ') :
    CF (n + 3) 53 [stA, .d (.list (cs.map pairD))] σ Q := by
  refine ⟨by show 2 ≤ 3; decide, Nat.le_refl _, ?_, isn_ nofun ?_⟩
  · intro k hk
    rcases List.mem_cons.mp hk with rfl | hk
    · exact h.fr _ (by decide)
    · cases hk
  refine ⟨h.fr _ (by decide), ⟨by rw [List.length_map]; omega, ?_⟩⟩
  rw [map_cA]
  refine bl_loop (n := n) h.w h.z cs [] _ rfl hd (by show 0 + _ < _; omega) fun l5 h5 => ?_
  refine frz_ rfl rfl (List.mem_cons_self ..) ?_ h.hc ?_
  · exact nr_cons (by decide) (nr_cons nofun (nr_cons nofun (nr_cons nofun (nr_cons nofun (nr_cons (nr0 h5) (nr_cons nofun (nr_cons nofun (nr_cons nofun nr_nil))))))))
  have hlen : 0 < cs.length := List.length_pos_iff.mpr h0
  refine (lenl_ (by rw [List.nil_append, List.length_map]; omega) (eq_f (by rw [List.nil_append, List.length_map]; omega) ?_))
  refine ⟨m_st h.w rfl rfl, (lenl_ (by rw [List.nil_append, List.length_map]; omega) (mul_ (by decide) (by decide) ?_))⟩
  refine reserve_ (m := 2 * cs.length) h (by omega) (fun σ1 h1 => ?_) (by rw [List.nil_append, List.length_map]; omega)
  refine ⟨by rw [List.nil_append, List.length_map]; omega, ?_⟩
  rw [List.nil_append, map_cA]
  have hr : (rsv s.h.length (2 * cs.length)).length = 2 * cs.length := by unfold rsv; rw [List.length_map, List.length_range]
  refine bl_loop2 (n := n + 2) cs s.h _ σ1 _ hr h1 (by rw [hr]; omega) fun σ2 l8 h2 => ?_
  refine st_h h2.w (sbt_ ?_)
  have hb : (s.h ++ blk0 s.h.length cs).length = s.h.length + 2 * cs.length := by rw [List.length_append, blk0_len]
  refine asgh_ (v := (4, 0)) (j := s.h.length + (2 * (cs.length - 1) + 1)) h2 (by show _ < (s.h ++ blk0 s.h.length cs).length; rw [hb]; omega) (fun σ3 h3 => ?_) (by omega)
  obtain ⟨c, cs', rfl⟩ : ∃ c cs', cs = c :: cs' := by cases cs with | nil => exact absurd rfl h0 | cons c cs' => exact ⟨c, cs', rfl⟩
  have e : (s.h ++ blk0 s.h.length (c :: cs')).set (s.h.length + (2 * ((c :: cs').length - 1) + 1)) (4, 0) = s.h ++ blk s.h.length (c :: cs') := by
    rw [List.set_append_right _ _ (by omega), show s.h.length + (2 * ((c :: cs').length - 1) + 1) - s.h.length = 2 * cs'.length + 1 by rw [List.length_cons]; omega, blk0_set]
  exact q σ3 (by rw [← e]; exact h3)
end
end Mine
end
section
set_option maxRecDepth 100000
open PySem PySem.W PyProof.Rows
namespace Mine
open PySem
noncomputable def Ls (h : List Cl) : Nat → List Cl → Prop
  | _, [] => False
  | b, c :: cs => h[b]? = some c ∧ match cs with
    | [] => h[b + 1]? = some (4, 0)
    | d :: cs => h[b + 1]? = some (3, (b : Int) + 2) ∧ Ls h (b + 2) (d :: cs)
theorem Ls.mono {h h' : List Cl} (x : ∀ (i : Nat) (c : Cl), h[i]? = some c → h'[i]? = some c) : ∀ {cs : List Cl} {b : Nat}, Ls h b cs → Ls h' b cs
  | [_], _, e => ⟨x _ _ e.1, x _ _ e.2⟩
  | _ :: _ :: _, _, e => ⟨x _ _ e.1, x _ _ e.2.1, Ls.mono x e.2.2⟩
theorem Ls_blk : ∀ (cs hh : List Cl), cs ≠ [] → Ls (hh ++ blk hh.length cs) hh.length cs
  | [], _, h => absurd rfl h
  | [c], hh, _ => by
    show (hh ++ [c, (4, 0)])[hh.length]? = some c ∧ (hh ++ [c, (4, 0)])[hh.length + 1]? = some (4, 0)
    constructor
    · rw [List.getElem?_append_right (Nat.le_refl _), Nat.sub_self]; rfl
    · rw [List.getElem?_append_right (by omega), show hh.length + 1 - hh.length = 1 by omega]; rfl
  | c :: d :: cs, hh, _ => by
    have ih := Ls_blk (d :: cs) (hh ++ [c, (3, (hh.length : Int) + 2)]) (by simp)
    have l2 : (hh ++ [c, (3, (hh.length : Int) + 2)]).length = hh.length + 2 := by rw [List.length_append]; rfl
    rw [l2, List.append_assoc] at ih
    refine ⟨?_, ?_, ih⟩
    · rw [List.getElem?_append_right (Nat.le_refl _), Nat.sub_self]; rfl
    · rw [List.getElem?_append_right (by omega), show hh.length + 1 - hh.length = 1 by omega]; rfl
section
variable {σ : H} {s b : Wd} {n : Nat} {Q : AV → H → Prop} {B : Bool → Prop} {c d : Cl} {o : Option AO} {k k' : List Int}
noncomputable abbrev lcS := unW bd54
theorem own2 {a b : Nat} (h1 : look σ a = none) (h2 : look σ b = none) : ∀ k ∈ [a, b], look σ k = none := by
  intro k hk
  rcases List.mem_cons.mp hk with rfl | hk
  · exact h1
  rcases List.mem_cons.mp hk with rfl | hk
  · exact h2
  · cases hk
theorem lc_step {K : Fl → List AV → H → Prop} (w : Wo σ s) (z : Sz s) {p m : Nat} {found : List PyData} {seen : List Int} {t : Cl} (h1 : s.h[p]? = some c) (h2 : s.h[p + 1]? = some t) (e1 : Dr s c c) (e2 : Dr s t t) (hn : (p : Int) ∉ seen) (hl : seen.length < 1000) (hf : found.length < 1000)
    (q : whA (tst tb (CF (n + 1)) lcS.1) (ex tb (CF (n + 1)) [22, 23] lcS.2.1) m [stA, cA t, .obj 22, .obj 23] ((23, .iset (seen ++ [(p : Int)])) :: (22, .dat (found ++ [pairD c])) :: σ) K) :
    whA (tst tb (CF (n + 1)) lcS.1) (ex tb (CF (n + 1)) [22, 23] lcS.2.1) (m + 1) [stA, cA (3, (p : Int)), .obj 22, .obj 23] ((23, .iset seen) :: (22, .dat found) :: σ) K := by
  have w1 : ∀ {a b}, Wo ((23, .iset a) :: (22, .dat b) :: σ) s := fun {a b} => (w.cons 22 _ rfl).cons 23 _ rfl
  refine sub2_0 (eq_t rfl (sub2_1 (ni_ rfl ?_)))
  rw [decide_eq_false hn]
  refine ⟨add_T rfl, sub2_1 (sad_ rfl (by omega) ?_)⟩
  rw [if_neg hn]
  refine ⟨app_T rfl, ⟨m_st w1 rfl rfl, st_h w1 (sub2_1 (sub_h (j := p) w1 z.h h1 (deref_ w1 z.h e1 ?_)))⟩⟩
  refine app_ rfl (by omega) ?_
  refine ⟨m_st w1 rfl rfl, st_h w1 (sub2_1 (add_ ?_))⟩
  exact sub_h (j := p + 1) w1 z.h h2 (deref_ w1 z.h e2 q)
theorem lc_loop {K : Fl → List AV → H → Prop} (w : Wo σ s) (z : Sz s) : ∀ (cs : List Cl) (p m : Nat) (found : List PyData) (seen : List Int), Ls s.h p cs → (∀ c ∈ cs, Dr s c c) → (∀ x ∈ seen, x < (p : Int)) → seen.length + cs.length < 1000 → found.length + cs.length < 1000 → cs.length < m →
    (∀ seen, K .next [stA, cA (4, 0), .obj 22, .obj 23] ((23, .iset seen) :: (22, .dat (found ++ cs.map pairD)) :: σ)) →
    whA (tst tb (CF (n + 1)) lcS.1) (ex tb (CF (n + 1)) [22, 23] lcS.2.1) m [stA, cA (3, (p : Int)), .obj 22, .obj 23] ((23, .iset seen) :: (22, .dat found) :: σ) K
  | [], _, _, _, _, h, _, _, _, _, _, _ => h.elim
  | [c], p, m + 2, found, seen, h, hd, hs, hl, hf, hm, q => by
    rw [List.length_singleton] at hl hf
    refine lc_step w z h.1 h.2 (hd c (List.mem_cons_self ..)) (.con (by decide) (by decide)) (fun g => by have := hs _ g; omega) (by omega) (by omega) ?_
    refine sub2_0 (eq_f (by decide) ?_)
    exact q _
  | c :: d :: cs, p, m + 1, found, seen, h, hd, hs, hl, hf, hm, q => by
    rw [List.length_cons] at hl hf hm
    refine lc_step w z h.1 h.2.1 (hd c (List.mem_cons_self ..)) (.con (by decide) (by decide)) (fun g => by have := hs _ g; omega) (by omega) (by omega) ?_
    have hs2 : ∀ x ∈ seen ++ [(p : Int)], x < ((p + 2 : Nat) : Int) := by
      intro x hx
      rcases List.mem_append.mp hx with hx | hx
      · have := hs x hx; omega
      · have := List.mem_singleton.mp hx; omega
    refine lc_loop w z (d :: cs) (p + 2) m (found ++ [pairD c]) (seen ++ [(p : Int)]) h.2.2 (fun e he => hd e (List.mem_cons_of_mem _ he)) hs2 (by rw [List.length_append]; show seen.length + 1 + _ < _; omega) (by rw [List.length_append]; show found.length + 1 + _ < _; omega) (by omega) fun seen => ?_
    rw [List.append_assoc]
    exact q seen
theorem cells_ (h : Wk o σ s) {p : Nat} {cs : List Cl} (e : Dr s c (3, (p : Int))) (l : Ls s.h p cs) (hd : ∀ c ∈ cs, Dr s c c) (hl : cs.length < 900) (q : Q (.d (.tuple [.list (cs.map pairD), pairD (4, 0)])) σ) : CF (n + 2) 54 [stA, cA c] σ Q := by
  refine ⟨Nat.le_refl _, Nat.le_refl _, own2 (h.fr _ (by decide)) (h.fr _ (by decide)), ?_⟩
  refine ⟨h.fr _ (by decide), (set_ (h.fr _ (by decide)) ?_)⟩
  have w1 : ∀ {a b}, Wo ((23, .iset a) :: (22, .dat b) :: σ) s := fun {a b} => (h.w.cons 22 _ rfl).cons 23 _ rfl
  refine ⟨m_st w1 rfl rfl, deref_ w1 h.z.h e ⟨1000, ?_⟩⟩
  refine lc_loop (n := n) h.w h.z cs p 1000 [] [] l hd nofun (by show 0 + _ < _; omega) (by show 0 + _ < _; omega) (by omega) fun seen => ?_
  refine frz_ rfl rfl (List.mem_cons_self ..) (nr_cons (by decide) (nr_cons nofun (nr_cons nofun (nr_cons (by decide) nr_nil)))) (h.hc.dat 23 _ rfl) ?_
  exact ⟨fun k hk => List.mem_cons_of_mem _ hk, h.hc, nofun, q⟩
theorem cells0_ (h : Wk o σ s) (e : Dr s c d) (h3 : d.1 ≠ 3) (q : Q (.d (.tuple [.list [], pairD d])) σ) : CF (n + 2) 54 [stA, cA c] σ Q := by
  refine ⟨Nat.le_refl _, Nat.le_refl _, own2 (h.fr _ (by decide)) (h.fr _ (by decide)), ?_⟩
  refine ⟨h.fr _ (by decide), (set_ (h.fr _ (by decide)) ?_)⟩
  have w1 : ∀ {a b}, Wo ((23, .iset a) :: (22, .dat b) :: σ) s := fun {a b} => (h.w.cons 22 _ rfl).cons 23 _ rfl
  refine ⟨m_st w1 rfl rfl, deref_ w1 h.z.h e ⟨1, ?_⟩⟩
  refine sub2_0 (eq_f h3 ?_)
  refine frz_ rfl rfl (List.mem_cons_self ..) (nr_cons (by decide) (nr_cons nofun (nr_cons nofun (nr_cons (by decide) nr_nil)))) (h.hc.dat 23 _ rfl) ?_
  exact ⟨fun k hk => List.mem_cons_of_mem _ hk, h.hc, nofun, q⟩
theorem proper_ (h : Wk o σ s) {p : Nat} {cs : List Cl} (l : Ls s.h p cs) (hd : ∀ c ∈ cs, Dr s c c) (hl : cs.length < 900) (q : Q (.d (.list (cs.map pairD))) σ) : CF (n + 3) 23 [arA, cA (3, (p : Int))] σ Q := by
  refine ⟨Nat.le_refl _, Nat.le_refl _, nofun, ar_st h.w ⟨m_st h.w rfl rfl, cells_ h (.con (by decide) (by decide)) l hd hl ?_⟩⟩
  refine sub2_0 (eq_f (by decide) (nec_ (a := (4, 0)) (b := (4, 0)) ?_))
  exact q
theorem partial_ (h : Wk o σ s) {i : Nat} (e : s.h[i]? = some (0, (i : Int))) (q : Q (.d (.list [])) σ) : CF (n + 3) 22 [arA, cA (0, (i : Int))] σ Q := by
  refine ⟨Nat.le_refl _, Nat.le_refl _, nofun, ar_st h.w ⟨m_st h.w rfl rfl, cells0_ h (.var e) (by show (0 : Int) ≠ 3; decide) ?_⟩⟩
  refine sub2_0 (ne_f rfl ?_)
  exact q
end
end Mine
end
section
set_option maxRecDepth 100000
open PySem PySem.W PyProof.Rows
namespace Mine
open PySem
section
variable {σ : H} {s b : Wd} {n : Nat} {Q : AV → H → Prop} {B : Bool → Prop} {c d l x x' y : Cl} {o : Option AO} {k k' : List Int} {f p ar : Nat} {tx : Str} {ws : List PyData} {met : List Int} {v : Cl} {m : Nat} {K : Fl → List AV → H → Prop}
theorem parg1_ (w : Wo σ s) (z : Sz s) (e : Sh s l f p 1 tx) (g : s.h[p]? = some x) (hw : look σ 37 = some (.dat ws)) (hl : ws.length < 4000)
    (q : Q (.d .none) (put σ 37 (.dat (ws ++ [pairD x])))) : CF (n + 3) 2 [stA, cA l, .obj 37] σ Q := by
  refine ⟨Nat.le_refl _, Nat.le_refl _, nofun, ⟨m_st w rfl rfl, base_ w z e ?_⟩⟩
  refine ⟨m_st w rfl rfl, wid_ w z e (sbt_ ?_)⟩
  refine rng3_ (sm 0) sm1 (.inr (.inr rfl)) ⟨by decide, ?_⟩
  refine ⟨app_T hw, st_h w (add_ ?_)⟩
  refine sub_h (j := p) w z.h g ?_
  exact app_ hw (by omega) q
theorem parg2_ (w : Wo σ s) (z : Sz s) (e : Sh s l f p 2 tx) (g : s.h[p]? = some x) (g2 : s.h[p + 1]? = some y) (hw : look σ 37 = some (.dat ws)) (hl : ws.length < 4000)
    (q : Q (.d .none) (put (put σ 37 (.dat (ws ++ [pairD y]))) 37 (.dat (ws ++ [pairD y] ++ [pairD x])))) : CF (n + 3) 2 [stA, cA l, .obj 37] σ Q := by
  refine ⟨Nat.le_refl _, Nat.le_refl _, nofun, ⟨m_st w rfl rfl, base_ w z e ?_⟩⟩
  refine ⟨m_st w rfl rfl, wid_ w z e (sbt_ ?_)⟩
  refine rng3_ (sm 1) sm1 (.inr (.inr rfl)) ⟨by decide, ?_⟩
  refine ⟨app_T hw, st_h w (add_ ?_)⟩
  refine sub_h (j := p + 1) w z.h g2 ?_
  refine app_ hw (by omega) ?_
  have w2 := w.put 37 (.dat (ws ++ [pairD y])) rfl
  have hw2 := put_at (o := .dat (ws ++ [pairD y])) hw
  refine ⟨app_T hw2, st_h w2 (add_ ?_)⟩
  refine sub_h (j := p) w2 z.h g ?_
  exact app_ hw2 (by rw [List.length_append]; show ws.length + 1 < _; omega) q
noncomputable abbrev ocS := unW (match bd7 with
  | .asg _ _ (.ite _ _ _ (.ite _ _ _ r)) => r
  | r => r)
noncomputable def Lo (n : Nat) (K : Fl → List AV → H → Prop) (σ : H) (v : Cl) (ws : List PyData) (met : List Int) (m : Nat) : Prop :=
  ∀ a2, whA (tst tb (CF (n + 3)) ocS.1) (ex tb (CF (n + 3)) [36, 37] ocS.2.1) m [stA, cA v, a2, .obj 36, .obj 37] ((37, .dat ws) :: (36, .iset met) :: σ) K
theorem Wo.oc (w : Wo σ s) : Wo ((37, .dat ws) :: (36, .iset met) :: σ) s := (w.cons 36 _ rfl).cons 37 _ rfl
theorem Lo.nil (q : ∀ l, K .next l ((37, .dat []) :: (36, .iset met) :: σ)) : Lo n K σ v [] met (m + 1) := by
  intro a2
  refine (len_ (xs := []) rfl (by decide) (gt_f (by decide) ?_))
  exact q _
theorem Lo.flat (w : Wo σ s) (z : Sz s) (hl : ws.length < 3000) (e : Dr s x x') (hv : x' ≠ v) (hn : ¬ (x'.1 = 2 ∨ x'.1 = 3)) (q : Lo n K σ v ws met m) : Lo n K σ v (ws ++ [pairD x]) met (m + 1) := by
  intro a2
  refine (len_ rfl (lt20 hl) (gt_t gt0 ?_))
  refine ⟨m_st w.oc rfl rfl, ⟨pop_T rfl, pop_ rfl (by omega) (deref_ w.oc z.h e (eqc_f hv ?_))⟩⟩
  refine ⟨m_st w.oc rfl rfl, isc_ w.oc ?_⟩
  rw [decide_eq_false hn]
  exact q _
theorem Lo.cmp (w : Wo σ s) (z : Sz s) (hl : ws.length < 3000) (hm : met.length < 3000) (e : Sh s x f p ar tx) (hv : x ≠ v) (q : Lo n K σ v ws met m)
    (hp : ar = 1 ∧ (∃ g, s.h[p]? = some g ∧ Lo n K σ v (ws ++ [pairD g]) (met ++ [x.2]) m) ∨
      ar = 2 ∧ (∃ g g2, s.h[p]? = some g ∧ s.h[p + 1]? = some g2 ∧ Lo n K σ v (ws ++ [pairD g2] ++ [pairD g]) (met ++ [x.2]) m)) : Lo n K σ v (ws ++ [pairD x]) met (m + 1) := by
  intro a2
  refine (len_ rfl (lt20 hl) (gt_t gt0 ?_))
  refine ⟨m_st w.oc rfl rfl, ⟨pop_T rfl, pop_ rfl (by omega) (deref_ w.oc z.h e.dr (eqc_f hv ?_))⟩⟩
  refine ⟨m_st w.oc rfl rfl, isc_ w.oc ?_⟩
  rw [decide_eq_true e.tag]
  refine sub2_1 (ni_ rfl ?_)
  by_cases hi : x.2 ∈ met
  · rw [decide_eq_true hi]
    exact q _
  rw [decide_eq_false hi]
  refine ⟨add_T rfl, sub2_1 (sad_ rfl (by omega) ?_)⟩
  rw [if_neg hi]
  rcases hp with ⟨rfl, g, h1, hq⟩ | ⟨rfl, g, g2, h1, h2, hq⟩
  · exact (parg1_ w.oc z e h1 rfl (by omega) (hq _))
  · exact (parg2_ w.oc z e h1 h2 rfl (by omega) (hq _))
theorem Fa.nev (e : Fa b c k) {i : Nat} (hi : b.h.length ≤ i) : c ≠ (0, (i : Int)) := by
  cases e with
  | @var j e =>
    intro h
    simp only [Prod.mk.injEq, true_and] at h
    have : j < b.h.length := (List.getElem?_eq_some_iff.mp e).1
    omega
  | int => simp
  | atom => simp
theorem Lo.el {i : Nat} (w : Wo σ s) (z : Sz s) (hl : ws.length < 2000) (hm : met.length < 2000) (xb : Ex b s) (hi : b.h.length ≤ i) (e : El b x k)
    (q : ∀ (met' : List Int) m', met'.length ≤ met.length + 1 → m ≤ m' → Lo n K σ (0, (i : Int)) ws met' m') : Lo n K σ (0, (i : Int)) (ws ++ [pairD x]) met (m + 3) := by
  have ne : ∀ {x : Cl} {f p ar : Nat} {tx : Str}, Sh b x f p ar tx → x ≠ (0, (i : Int)) := fun e h => by cases e <;> simp at h
  have l1 : (met ++ [x.2]).length = met.length + 1 := by rw [List.length_append]; rfl
  cases e with
  | flat e => exact Lo.flat w z (by omega) (e.mono xb).dr (e.nev hi) e.nc (q met _ (by omega) (by omega))
  | one e g a =>
    refine Lo.cmp w z (by omega) (by omega) (e.mono xb) (ne e) (q met _ (by omega) (by omega)) (.inl ⟨rfl, _, xb.h _ _ g, ?_⟩)
    exact Lo.flat w z (by omega) (a.mono xb).dr (a.nev hi) a.nc (q _ _ (by omega) (by omega))
  | two e g a g2 a2 =>
    refine Lo.cmp w z (by omega) (by omega) (e.mono xb) (ne e) (q met _ (by omega) (by omega)) (.inr ⟨rfl, _, _, xb.h _ _ g, xb.h _ _ g2, ?_⟩)
    refine Lo.flat w z (by rw [List.length_append]; show ws.length + 1 < _; omega) (a.mono xb).dr (a.nev hi) a.nc ?_
    exact Lo.flat w z (by omega) (a2.mono xb).dr (a2.nev hi) a2.nc (q _ _ (by omega) (by omega))
theorem appl {ws : List PyData} {x : PyData} {k n : Nat} (h : ws.length + k < 1000) (d : Nat.ble 1001 n = true) : (ws ++ [x]).length < n := by
  rw [List.length_append]
  exact Nat.lt_of_lt_of_le (Nat.succ_lt_succ (Nat.lt_of_le_of_lt (Nat.le_add_right _ _) h)) (Nat.le_of_ble_eq_true d)
theorem Lo.list {i : Nat} (w : Wo σ s) (z : Sz s) (xb : Ex b s) (hi : b.h.length ≤ i) {ad : Nat} (hd : s.fus[0]? = some ((ad : Int), 2)) (ht : s.texts[ad]? = some tx) : ∀ (cs : List Cl) (p : Nat) (ws : List PyData) (met : List Int) (m : Nat), Ls s.h p cs → (∀ c ∈ cs, ∃ k, El b c k) →
    ws.length + cs.length < 1000 → met.length + 2 * cs.length < 1000 → (∀ (met' : List Int) m', met'.length ≤ met.length + 2 * cs.length → m ≤ m' → Lo n K σ (0, (i : Int)) ws met' m') → Lo n K σ (0, (i : Int)) (ws ++ [pairD (3, (p : Int))]) met (m + 5 * cs.length) := by
  intro cs
  induction cs with
  | nil => intro p ws met m h; exact h.elim
  | cons c cs ih =>
    intro p ws met m h he hl hm q
    cases cs with
    | nil =>
      rw [List.length_singleton] at hl hm q
      have l1 : (met ++ [((3 : Int), (p : Int)).2]).length = met.length + 1 := by rw [List.length_append]; rfl
      obtain ⟨k, e⟩ := he c (List.mem_cons_self ..)
      refine Lo.cmp w z (by omega) (by omega) (.lis hd ht) (by simp) (q _ _ (by omega) (by omega)) (.inr ⟨rfl, _, _, h.1, h.2, ?_⟩)
      refine Lo.el (m := m + 1) w z (appl hl rfl) (by rw [l1]; exact mt4 (k := 0) (Nat.le_refl _) hm rfl) xb hi e fun met' m' hm' hmm => ?_
      obtain ⟨m', rfl⟩ : ∃ j, m' = j + 1 := suc_of hmm
      exact Lo.flat w z (by omega) (.con (by decide) (by decide)) (by simp) (by decide) (q _ _ (mt3 (Nat.le_refl _) (l1 ▸ hm')) (Nat.le_of_succ_le_succ hmm))
    | cons d cs =>
      rw [List.length_cons] at hl hm q
      have l1 : (met ++ [((3 : Int), (p : Int)).2]).length = met.length + 1 := by rw [List.length_append]; rfl
      obtain ⟨k, e⟩ := he c (List.mem_cons_self ..)
      show Lo n K σ _ _ met (m + 5 * (d :: cs).length + 1 + 3 + 1)
      refine Lo.cmp w z (by omega) (by omega) (.lis hd ht) (by simp) (q _ _ (Nat.le_add_right _ _) le4) (.inr ⟨rfl, _, _, h.1, h.2.1, ?_⟩)
      refine Lo.el (m := m + 5 * (d :: cs).length + 1) w z (appl hl rfl) (by rw [l1]; exact mt4 (Nat.le_refl _) hm rfl) xb hi e fun met' m' hm' hmm => ?_
      obtain ⟨j, rfl⟩ : ∃ j, m' = (m + j) + 5 * (d :: cs).length := exj hmm
      exact ih (p + 2) ws met' (m + j) h.2.2 (fun e he' => he e (List.mem_cons_of_mem _ he')) (Nat.lt_of_succ_lt hl) (mt1 (Nat.le_refl _) (l1 ▸ hm') hm) fun met2 m2 h2 h3 => q _ _ (mt2 (Nat.le_refl _) (l1 ▸ hm') h2) (Nat.le_trans (Nat.le_add_right _ _) h3)
end
end Mine
end
section
set_option maxRecDepth 100000
open PySem PySem.W PyProof.Rows
namespace Mine
open PySem
section
variable {σ : H} {s b : Wd} {n : Nat} {Q : AV → H → Prop} {B : Bool → Prop} {c d l x x' y : Cl} {o : Option AO} {k k' : List Int} {f p ar : Nat} {tx : Str} {ws : List PyData} {met : List Int} {v : Cl} {m : Nat} {K : Fl → List AV → H → Prop}
theorem occurs_ {i ad : Nat} (w : Wo σ s) (z : Sz s) (hc : ClosedH σ) (h36 : look σ 36 = none) (h37 : look σ 37 = none) (xb : Ex b s) (hi : b.h.length ≤ i) (hd : s.fus[0]? = some ((ad : Int), 2)) (ht : s.texts[ad]? = some tx) {cs : List Cl} (l : Ls s.h p cs) (he : ∀ c ∈ cs, ∃ k, El b c k) (hl : cs.length < 100)
    (q : Q (.d (.bool false)) σ) : CF (n + 4) 7 [stA, cA (0, (i : Int)), cA (3, (p : Int))] σ Q := by
  refine ⟨Nat.le_refl _, Nat.le_refl _, own2 h36 h37, ⟨m_st w rfl rfl, deref_ w z.h (.con (by decide) (by decide)) (eqc_f (by simp) ?_)⟩⟩
  refine sub2_0 (eq_f (by show (0 : Int) ≠ 1; decide) ⟨m_st w rfl rfl, isc_ w ?_⟩)
  refine (set_ h36 ⟨h37, 1 + 5 * cs.length, ?_⟩)
  refine Lo.list (n := n) w z xb hi hd ht cs p [] [] 1 l he (by show 0 + _ < _; omega) (by show 0 + _ < _; omega) (fun met' m' _ hm => ?_) _
  obtain ⟨m', rfl⟩ : ∃ j, m' = j + 1 := ⟨m' - 1, by omega⟩
  exact Lo.nil fun l => ⟨fun k hk => hk, hc, nofun, q⟩
theorem Wo.h10 (w : Wo σ s) (x : List Cl) : Wo (Mine.put σ 10 (.dat (x.map pairD))) { s with h := x } :=
  ⟨(put_ne (by decide)).trans w.ar, (put_ne (by decide)).trans w.st, (put_ne (by decide)).trans w.sy, (put_ne (by decide)).trans w.po, (put_ne (by decide)).trans w.nu, put_at w.h, (put_ne (by decide)).trans w.x, (put_ne (by decide)).trans w.te, (put_ne (by decide)).trans w.an, (put_ne (by decide)).trans w.fu, (put_ne (by decide)).trans w.fn, (put_ne (by decide)).trans w.tr⟩
theorem bind_ {i : Nat} (w : Wo σ s) (z : Sz s) (hi : i < s.h.length) (q : Q (.d .none) (put σ 10 (.dat ((s.h.set i v).map pairD)))) : CF (n + 1) 45 [stA, cA (0, (i : Int)), cA v] σ Q := by
  refine ⟨Nat.le_refl _, Nat.le_refl _, nofun, sub2_1 (sub2_0 (eq_t rfl (st_h w ?_)))⟩
  refine asgs_ (j := i) w.h (by rw [List.length_map]; exact hi) (by rw [List.length_map]; have := z.h; omega) ?_
  have e : (s.h.map pairD).set i (pairD v) = (s.h.set i v).map pairD := (List.map_set ..).symm
  rw [← e] at q
  have w' := w.h10 (s.h.set i v)
  rw [← e] at w'
  exact st_hb w' (lt_f (by show ¬ (i : Int) < 0; omega) q)
theorem isv_ {c : Cl} (q : Q (.d (.bool (decide (c.1 = 0 ∨ c.1 = 1)))) σ) : CF (n + 1) 4 [cA c] σ Q := by
  refine ⟨Nat.le_refl _, Nat.le_refl _, nofun, sub2_0 ?_⟩
  by_cases h : c.1 = 0
  · rw [decide_eq_true (.inl h)] at q; exact eq_t h q
  · refine eq_f h (sub2_0 ?_)
    by_cases g : c.1 = 1
    · rw [decide_eq_true (.inr g)] at q; exact eq_t g q
    · rw [decide_eq_false (by omega)] at q; exact eq_f g q
theorem bindc_ {i ad : Nat} (w : Wo σ s) (z : Sz s) (hc : ClosedH σ) (h36 : look σ 36 = none) (h37 : look σ 37 = none) (xb : Ex b s) (hi : b.h.length ≤ i) (hih : i < s.h.length) (hd : s.fus[0]? = some ((ad : Int), 2)) (ht : s.texts[ad]? = some tx) {cs : List Cl} (l : Ls s.h p cs) (he : ∀ c ∈ cs, ∃ k, El b c k) (hl : cs.length < 100)
    (q : Q (.d (.bool true)) (put σ 10 (.dat ((s.h.set i (3, (p : Int))).map pairD)))) : CF (n + 5) 6 [stA, cA (0, (i : Int)), cA (3, (p : Int)), .d (.bool true)] σ Q := by
  refine ⟨Nat.le_refl _, Nat.le_refl _, nofun, (occurs_ w z hc h36 h37 xb hi hd ht l he hl ?_)⟩
  exact ⟨m_st w rfl rfl, bind_ w z hih q⟩
theorem unify_ {i ad : Nat} (h : Wk o σ s) (xb : Ex b s) (hi : b.h.length ≤ i) (hv : s.h[i]? = some (0, (i : Int))) (hd : s.fus[0]? = some ((ad : Int), 2)) (ht : s.texts[ad]? = some tx) {cs : List Cl} (l : Ls s.h p cs) (he : ∀ c ∈ cs, ∃ k, El b c k) (hl : cs.length < 100)
    (q : ∀ σ', Wk o σ' { s with h := s.h.set i (3, (p : Int)) } → Q (.d (.bool true)) σ') : CF (n + 6) 5 [stA, cA (3, (p : Int)), cA (0, (i : Int)), .d (.bool true)] σ Q := by
  have hih : i < s.h.length := (List.getElem?_eq_some_iff.mp hv).1
  have f32 := h.fr 32 (by decide)
  have f34 := h.fr 34 (by decide)
  have f35 := h.fr 35 (by decide)
  refine ⟨Nat.le_refl _, Nat.le_refl _, own3 f32 f34 f35, ?_⟩
  refine ⟨f34, Nat.le_refl _, Nat.le_refl _, nofun, ?_⟩
  have w1 : Wo ((34, .ns []) :: σ) s := h.w.cons 34 _ rfl
  refine (st_h w1 (len_ w1.h (by rw [List.length_map]; have := h.z.h; omega) (add_ ?_)))
  refine asga_ rfl (by decide) rfl ?_
  refine (set_ f32 (asga_ rfl (by show 1 < 100; decide) rfl ⟨rfl, ?_⟩))
  refine ⟨f35, 2, ?_⟩
  have w2 : ∀ {ws met sp}, Wo ((35, .dat ws) :: (32, .iset met) :: (34, .ns (psN sp)) :: σ) s := fun {ws met sp} => ((h.w.cons 34 _ rfl).cons 32 _ rfl).cons 35 _ rfl
  have c2 : ∀ {ws met sp}, ClosedH ((35, .dat ws) :: (32, .iset met) :: (34, .ns (psN sp)) :: σ) := by
    intro ws met sp
    refine ClosedH.dat ?_ 35 _ rfl
    intro j x e r m
    by_cases hj : 32 = j
    · subst hj; cases e; cases m
    · by_cases hj2 : 34 = j
      · subst hj2
        cases e
        have : r = 32 := List.mem_singleton.mp m
        subst this; rfl
      · have e' : look σ j = some x := by
          have : look ((32, .iset met) :: (34, .ns (psN sp)) :: σ) j = look σ j := by
            show (if 32 = j then _ else (if 34 = j then _ else look σ j)) = _
            rw [if_neg hj, if_neg hj2]
          rw [← this]; exact e
        have := h.hc j x e' r m
        show (if 32 = r then some _ else if 34 = r then some _ else look σ r).isSome = true
        split
        · rfl
        · split
          · rfl
          · exact this
  refine (len_ (xs := [pp (3, (p : Int)) (0, (i : Int))]) rfl (by show 1 < _; decide) (gt_t (by show (0 : Int) < 1; decide) ?_))
  refine ⟨pop_T rfl, pop_ (xs := []) (x := pp (3, (p : Int)) (0, (i : Int))) rfl (by decide) ?_⟩
  refine ⟨m_st w2 rfl rfl, deref_ w2 h.z.h (.con (by decide) (by decide)) ?_⟩
  refine ⟨m_st w2 rfl rfl, deref_ w2 h.z.h (.var hv) (eqc_f (by simp) ?_)⟩
  refine (isv_ ?_)
  refine (isv_ ?_)
  refine (bindc_ w2 h.z c2 (h.fr 36 (by decide)) (h.fr 37 (by decide)) xb hi hih hd ht l he hl ?_)
  refine (len_ (xs := []) rfl (by decide) (gt_f (by decide) ?_))
  have h' := h.puth (s.h.set i (3, (p : Int))) (by rw [List.length_set]; exact h.z.h)
  refine ⟨fun k hk => ?_, h'.hc, nofun, q _ h'⟩
  rcases List.mem_cons.mp hk with rfl | hk
  · exact List.mem_cons_of_mem _ (List.mem_cons_self ..)
  rcases List.mem_cons.mp hk with rfl | hk
  · exact List.mem_cons_self ..
  · exact List.mem_cons_of_mem _ (List.mem_cons_of_mem _ hk)
end
end Mine
end
section
set_option maxRecDepth 100000
open PySem PySem.W PyProof.Rows
namespace Mine
open PySem
noncomputable def il (l : List Nat) : List PyData := l.map fun (i : Nat) => .int (i : Int)
noncomputable def mrgP (T : Nat → Nat → Int) (u : Bool) : Nat → List Nat → List Nat → List Nat
  | 0, l, r => l ++ r
  | _ + 1, [], r => r
  | _ + 1, a :: l, [] => a :: l
  | n + 1, a :: l, b :: r => if T a b ≤ 0 then a :: mrgP T u n l (if T a b = 0 ∧ u = true then r else b :: r) else b :: mrgP T u n (a :: l) r
section
variable {σ : H} {s b : Wd} {n : Nat} {Q : AV → H → Prop} {B : Bool → Prop} {c d : Cl} {o : Option AO} {m : Nat} {K : Fl → List AV → H → Prop}
structure Cs (b : Wd) (cs : List Cl) (T : Nat → Nat → Int) : Prop where
  t : ∀ i j c d, cs[i]? = some c → cs[j]? = some d → ∃ k k', El b c k ∧ El b d k' ∧ T i j = lx k k'
  l : cs.length < 100
theorem slcd_ {xs : List PyData} {i : Nat} {Q : AV → Prop} (h : xs.length < 2 ^ 20) (q : Q (.d (.list (xs.drop i)))) : slcA (.d (.list xs)) (iA i) .un .un σ Q := .frm rfl h q
theorem subl_n {xs : List PyData} {j : Nat} {x : PyData} {Q : AV → Prop} (hl : xs.length < 2 ^ 20) (e : xs[j]? = some x) (q : Q (.d x)) : subA (.d (.list xs)) (iA j) σ Q := subl_ hl (getI_nat e) q
noncomputable abbrev mgS := unW bd13
theorem lnl (L : List Nat) : (il L).length = L.length := by unfold il; rw [List.length_map]
theorem ltM {a b : Nat} (e : a = b) (h : b < 1000) : a < 2 ^ 20 := by rw [e]; exact Nat.lt_trans h (by decide)
theorem mg_loop {cs : List Cl} {T : Nat → Nat → Int} {L R : List Nat} {u : Bool} (w : Wo σ s) (z : Sz s) (hc : ClosedH σ) (h1 : look σ 31 = none) (h2 : look σ 32 = none) (h3 : look σ 33 = none) (x : Ex b s) (ct : Cs b cs T) (hL : L.length < 1000) (hR : R.length < 1000) :
    ∀ (N : Nat) (L1 l R1 r : List Nat) (acc : List PyData) (a8 : AV) (m : Nat), a8.refs = [] → L = L1 ++ l → R = R1 ++ r → (∀ a ∈ l, a < cs.length) → (∀ a ∈ r, a < cs.length) → l.length + r.length < N → N ≤ m → acc.length + N < 4000 →
    (∀ (acc' : List PyData) (i j : Nat) (a8 : AV), a8.refs = [] → i ≤ L.length → j ≤ R.length → acc'.length < 4000 → acc' ++ ((il L).drop i ++ (il R).drop j) = acc ++ il (mrgP T u N l r) → K .next [stA, .d (.list (cs.map pairD)), .d (.list (il L)), .d (.list (il R)), .d (.bool u), .obj 30, iA i, iA j, a8] ((30, .dat acc') :: σ)) →
    whA (tst tb (CF (n + 4)) mgS.1) (ex tb (CF (n + 4)) [30] mgS.2.1) m [stA, .d (.list (cs.map pairD)), .d (.list (il L)), .d (.list (il R)), .d (.bool u), .obj 30, iA (L1.length : Nat), iA (R1.length : Nat), a8] ((30, .dat acc) :: σ) K
  | 0, _, _, _, _, _, _, _, _, _, _, _, _, h, _, _, _ => absurd h (Nat.not_lt_zero _)
  | N + 1, L1, [], R1, r, acc, a8, m, h8, e1, e2, g1, g2, hN, hm, ha, q => by
    obtain ⟨m, rfl⟩ : ∃ j, m = j + 1 := suc_of hm
    have hlen : (il L).length = L1.length := by unfold il; rw [List.length_map, e1, List.append_nil]
    have h1 : L1.length ≤ L.length := by rw [e1, List.length_append]; omega
    refine (lenl_ (ltM (lnl L) hL) (lt_f (by rw [hlen]; exact Int.lt_irrefl _) ?_))
    have h2 : R1.length ≤ R.length := by rw [e2, List.length_append]; omega
    refine q acc _ _ a8 h8 h1 h2 (by omega) ?_
    rw [List.drop_of_length_le (by rw [hlen]; exact Nat.le_refl _), List.nil_append]
    congr 1
    show (il R).drop R1.length = il r
    unfold il; rw [e2, List.map_append, List.drop_append_of_le_length (by rw [List.length_map]; exact Nat.le_refl _), List.drop_of_length_le (by rw [List.length_map]; exact Nat.le_refl _), List.nil_append]
  | N + 1, L1, a :: l, R1, [], acc, a8, m, h8, e1, e2, g1, g2, hN, hm, ha, q => by
    obtain ⟨m, rfl⟩ : ∃ j, m = j + 1 := suc_of hm
    have hlenR : (il R).length = R1.length := by unfold il; rw [List.length_map, e2, List.append_nil]
    have hlen : (il L).length = L1.length + (l.length + 1) := by unfold il; rw [List.length_map, e1, List.length_append]; rfl
    have h1 : L1.length ≤ L.length := by rw [e1, List.length_append]; omega
    have h2 : R1.length ≤ R.length := by rw [e2, List.length_append]; omega
    have hLl : (il L).length = L.length := by unfold il; rw [List.length_map]
    have hRl : (il R).length = R.length := by unfold il; rw [List.length_map]
    refine (lenl_ (ltM (lnl L) hL) (lt_t (by rw [hlen]; exact Int.ofNat_lt.mpr (Nat.lt_add_of_pos_right (Nat.succ_pos _))) ?_))
    refine (lenl_ (ltM (lnl R) hR) (lt_f (by rw [hlenR]; exact Int.lt_irrefl _) ?_))
    refine q acc _ _ a8 h8 h1 h2 (by omega) ?_
    rw [List.drop_of_length_le (by rw [hlenR]; exact Nat.le_refl _ : (il R).length ≤ R1.length), List.append_nil]
    congr 1
    show (il L).drop L1.length = il (a :: l)
    unfold il; rw [e1, List.map_append, List.drop_append_of_le_length (by rw [List.length_map]; exact Nat.le_refl _), List.drop_of_length_le (by rw [List.length_map]; exact Nat.le_refl _), List.nil_append]
  | N + 1, L1, a :: l, R1, d :: r, acc, a8, m, h8, e1, e2, g1, g2, hN, hm, ha, q => by
    obtain ⟨m, rfl⟩ : ∃ j, m = j + 1 := suc_of hm
    have hlen : (il L).length = L1.length + (l.length + 1) := by unfold il; rw [List.length_map, e1, List.length_append]; rfl
    have hlenR : (il R).length = R1.length + (r.length + 1) := by unfold il; rw [List.length_map, e2, List.length_append]; rfl
    have hLl : (il L).length = L.length := by unfold il; rw [List.length_map]
    have hRl : (il R).length = R.length := by unfold il; rw [List.length_map]
    have gL : (il L)[L1.length]? = some (.int (a : Int)) := by unfold il; rw [List.getElem?_map, e1, List.getElem?_append_right (Nat.le_refl _), Nat.sub_self]; rfl
    have gR : (il R)[R1.length]? = some (.int (d : Int)) := by unfold il; rw [List.getElem?_map, e2, List.getElem?_append_right (Nat.le_refl _), Nat.sub_self]; rfl
    have ia := g1 a (List.mem_cons_self ..)
    have id := g2 d (List.mem_cons_self ..)
    obtain ⟨k, k', ek, ek', eT⟩ := ct.t a d _ _ (List.getElem?_eq_getElem ia) (List.getElem?_eq_getElem id)
    have ga : (cs.map pairD)[a]? = some (pairD cs[a]) := by rw [List.getElem?_map, List.getElem?_eq_getElem ia]; rfl
    have gd : (cs.map pairD)[d]? = some (pairD cs[d]) := by rw [List.getElem?_map, List.getElem?_eq_getElem id]; rfl
    have hcl := ct.l
    have hcm : (cs.map pairD).length < 2 ^ 20 := by rw [List.length_map]; exact Nat.lt_trans hcl (by decide)
    have w1 : Wo ((30, .dat acc) :: σ) s := w.cons 30 _ rfl
    have s1 : ∀ (y : Nat) (t : List Nat), (L1 ++ [y]).length = L1.length + 1 := fun y t => by rw [List.length_append]; rfl
    simp only [List.length_cons] at hN
    refine (lenl_ (ltM (lnl L) hL) (lt_t (by rw [hlen]; exact Int.ofNat_lt.mpr (Nat.lt_add_of_pos_right (Nat.succ_pos _))) ?_))
    refine (lenl_ (ltM (lnl R) hR) (lt_t (by rw [hlenR]; exact Int.ofNat_lt.mpr (Nat.lt_add_of_pos_right (Nat.succ_pos _))) ?_))
    refine (subl_n (ltM (lnl L) hL) gL (subl_n hcm ga ?_))
    refine subl_n (ltM (lnl R) hR) gR (subl_n hcm gd ?_)
    refine cmp_ w1 z (hc.dat 30 _ rfl) h1 h2 h3 (ek.mono x) (ek'.mono x) ?_
    rw [← eT]
    have step : ∀ (acc2 : List PyData) (L1' l' R1' r' : List Nat) (i j : Int), L = L1' ++ l' → R = R1' ++ r' → (∀ a ∈ l', a < cs.length) → (∀ a ∈ r', a < cs.length) → l'.length + r'.length < N → acc2.length = acc.length + 1 → i = (L1'.length : Nat) → j = (R1'.length : Nat) →
        acc2 ++ il (mrgP T u N l' r') = acc ++ il (mrgP T u (N + 1) (a :: l) (d :: r)) →
        whA (tst tb (CF (n + 4)) mgS.1) (ex tb (CF (n + 4)) [30] mgS.2.1) m [stA, .d (.list (cs.map pairD)), .d (.list (il L)), .d (.list (il R)), .d (.bool u), .obj 30, iA i, iA j, iA (T a d)] ((30, .dat acc2) :: σ) K := by
      intro acc2 L1' l' R1' r' i j f1 f2 f3 f4 f5 f6 hi hj f7
      subst hi; subst hj
      exact mg_loop w z hc h1 h2 h3 x ct hL hR N L1' l' R1' r' acc2 _ m rfl f1 f2 f3 f4 f5 (Nat.le_of_succ_le_succ hm) (by rw [f6, Nat.add_assoc, Nat.add_comm 1 N]; exact ha) fun acc' i j a8 p0 p1 p2 p3 p4 => q acc' i j a8 p0 p1 p2 p3 (by rw [p4, f7])
    by_cases ht : T a d ≤ 0
    · refine le_t ht ?_
      refine ⟨app_T rfl, subl_n (ltM (lnl L) hL) gL (app_ rfl (Nat.lt_trans (Nat.lt_of_le_of_lt (Nat.le_add_right _ _) ha) (by decide)) (add_ ?_))⟩
      by_cases h0 : T a d = 0
      · refine eq_t h0 ?_
        cases u with
        | true =>
          refine add_ ?_
          refine step (acc ++ [.int (a : Int)]) (L1 ++ [a]) l (R1 ++ [d]) r _ _ (by rw [e1, List.append_assoc]; try rfl) (by rw [e2, List.append_assoc]; try rfl) (fun y hy => g1 y (List.mem_cons_of_mem _ hy)) (fun y hy => g2 y (List.mem_cons_of_mem _ hy)) (by omega) (by rw [List.length_append]; try rfl) (by rw [List.length_append]; try rfl) (by rw [List.length_append]; try rfl) ?_
          rw [List.append_assoc]
          show acc ++ _ = acc ++ il (if T a d ≤ 0 then _ else _)
          rw [if_pos ht, if_pos ⟨h0, rfl⟩]; rfl
        | false =>
          refine step (acc ++ [.int (a : Int)]) (L1 ++ [a]) l R1 (d :: r) _ _ (by rw [e1, List.append_assoc]; try rfl) e2 (fun y hy => g1 y (List.mem_cons_of_mem _ hy)) g2 (by rw [List.length_cons]; omega) (by rw [List.length_append]; try rfl) (by rw [List.length_append]; try rfl) rfl ?_
          rw [List.append_assoc]
          show acc ++ _ = acc ++ il (if T a d ≤ 0 then _ else _)
          rw [if_pos ht, if_neg (by simp)]; rfl
      · refine eq_f h0 ?_
        refine step (acc ++ [.int (a : Int)]) (L1 ++ [a]) l R1 (d :: r) _ _ (by rw [e1, List.append_assoc]; try rfl) e2 (fun y hy => g1 y (List.mem_cons_of_mem _ hy)) g2 (by rw [List.length_cons]; omega) (by rw [List.length_append]; try rfl) (by rw [List.length_append]; try rfl) rfl ?_
        rw [List.append_assoc]
        show acc ++ _ = acc ++ il (if T a d ≤ 0 then _ else _)
        rw [if_pos ht, if_neg (by simp [h0])]; rfl
    · refine le_f ht ?_
      refine ⟨app_T rfl, subl_n (ltM (lnl R) hR) gR (app_ rfl (Nat.lt_trans (Nat.lt_of_le_of_lt (Nat.le_add_right _ _) ha) (by decide)) (add_ ?_))⟩
      refine step (acc ++ [.int (d : Int)]) L1 (a :: l) (R1 ++ [d]) r _ _ e1 (by rw [e2, List.append_assoc]; try rfl) g1 (fun y hy => g2 y (List.mem_cons_of_mem _ hy)) (by rw [List.length_cons]; omega) (by rw [List.length_append]; try rfl) rfl (by rw [List.length_append]; try rfl) ?_
      rw [List.append_assoc]
      show acc ++ _ = acc ++ il (if T a d ≤ 0 then _ else _)
      rw [if_neg ht]; rfl
end
end Mine
end
section
set_option maxRecDepth 100000
open PySem PySem.W PyProof.Rows
namespace Mine
open PySem
section
variable {σ : H} {s b : Wd} {n : Nat} {Q : AV → H → Prop} {B : Bool → Prop} {c d : Cl} {o : Option AO} {m : Nat} {K : Fl → List AV → H → Prop} {cs : List Cl} {T : Nat → Nat → Int} {u : Bool}
theorem own1 {a : Nat} (h1 : look σ a = none) : ∀ k ∈ [a], look σ k = none := by
  intro k hk
  rcases List.mem_cons.mp hk with rfl | hk
  · exact h1
  · cases hk
theorem merge_ {L R : List Nat} (w : Wo σ s) (z : Sz s) (hc : ClosedH σ) (h0 : look σ 30 = none) (h1 : look σ 31 = none) (h2 : look σ 32 = none) (h3 : look σ 33 = none) (x : Ex b s) (ct : Cs b cs T) (N : Nat) (hN : L.length + R.length < N) (hN2 : N ≤ 100)
    (gL : ∀ a ∈ L, a < cs.length) (gR : ∀ a ∈ R, a < cs.length) (q : Q (.d (.list (il (mrgP T u N L R)))) σ) : CF (n + 5) 13 [stA, .d (.list (cs.map pairD)), .d (.list (il L)), .d (.list (il R)), .d (.bool u)] σ Q := by
  refine ⟨Nat.le_refl _, Nat.le_refl _, own1 h0, ⟨h0, N, ?_⟩⟩
  refine mg_loop (n := n) w z hc h1 h2 h3 x ct (by omega) (by omega) N [] L [] R [] _ N rfl rfl rfl gL gR hN (Nat.le_refl _) (by show 0 + N < _; omega) fun acc' i j a8 h8 hi hj ha e => ?_
  have l1 : (il L).length = L.length := by unfold il; rw [List.length_map]
  have l2 : (il R).length = R.length := by unfold il; rw [List.length_map]
  refine ⟨ext_T rfl, slcd_ (by omega) (ext_ rfl (by rw [List.length_drop]; omega) ?_)⟩
  refine ⟨ext_T rfl, slcd_ (by omega) (ext_ rfl (by rw [List.length_append, List.length_drop, List.length_drop]; omega) ?_)⟩
  refine frz_ rfl rfl (List.mem_cons_self ..) (nr_cons (by decide) (nr_cons nofun (nr_cons nofun (nr_cons nofun (nr_cons nofun (nr_cons nofun (nr_cons nofun (nr_cons nofun (nr_cons (nr0 h8) nr_nil))))))))) hc ?_
  rw [List.nil_append] at e
  rw [List.append_assoc, e]
  exact q
noncomputable def srtI (T : Nat → Nat → Int) (u : Bool) (k : Nat) : List Nat := match k with
  | 1 => [0]
  | 2 => mrgP T u 9 [0] [1]
  | 3 => mrgP T u 9 (mrgP T u 9 [0] [1]) [2]
  | 4 => mrgP T u 9 (mrgP T u 9 [0] [1]) (mrgP T u 9 [2] [3])
  | _ => []
theorem mrgP_lt {k : Nat} : ∀ (N : Nat) (l r : List Nat), (∀ a ∈ l, a < k) → (∀ a ∈ r, a < k) → ∀ a ∈ mrgP T u N l r, a < k
  | 0, l, r, h, g => fun a m => (List.mem_append.mp m).elim (h a) (g a)
  | N + 1, [], r, h, g => g
  | N + 1, a :: l, [], h, g => h
  | N + 1, a :: l, d :: r, h, g => by
    have h' : ∀ a ∈ l, a < k := fun y m => h y (List.mem_cons_of_mem _ m)
    have g' : ∀ a ∈ r, a < k := fun y m => g y (List.mem_cons_of_mem _ m)
    intro y m
    change y ∈ (if T a d ≤ 0 then _ else _) at m
    split at m
    · rcases List.mem_cons.mp m with rfl | m
      · exact h _ (List.mem_cons_self ..)
      · refine mrgP_lt N l _ h' ?_ y m
        split
        · exact g'
        · exact g
    · rcases List.mem_cons.mp m with rfl | m
      · exact g _ (List.mem_cons_self ..)
      · exact mrgP_lt N _ r h g' y m
theorem mrgP_len : ∀ (N : Nat) (l r : List Nat), (mrgP T u N l r).length ≤ l.length + r.length
  | 0, l, r => by unfold mrgP; rw [List.length_append]; omega
  | N + 1, [], r => by unfold mrgP; omega
  | N + 1, a :: l, [] => by unfold mrgP; omega
  | N + 1, a :: l, d :: r => by
    unfold mrgP
    split
    · have h1 := mrgP_len N l (if T a d = 0 ∧ u = true then r else d :: r)
      have h2 : (if T a d = 0 ∧ u = true then r else d :: r).length ≤ r.length + 1 := by split <;> simp
      simp only [List.length_cons]
      omega
    · have := mrgP_len N (a :: l) r
      simp only [List.length_cons] at this ⊢
      omega
theorem ms_loop1 {K : Fl → List AV → H → Prop} {l7 l8 : AV} (hl : cs.length < 100) : ∀ (r j : Nat) (l6 : AV), l6.refs = [] → j + r = cs.length →
    (∀ l6, l6.refs = [] → K .next [stA, .d (.list (cs.map pairD)), .d (.bool u), .d (.bool false), .obj 24, .obj 25, l6, l7, l8] ((25, .dat ((List.range cs.length).map fun i => .list (il [i]))) :: (24, .dat (cs.map pairD)) :: σ)) →
    forA (fun x l σ k => ex tb (CF n) [24, 25, 26, 28] (.ite (.loc 3) (.exp (.bm (.loc 4) .append (.cons (.meth (.loc 0) 13 (.cons (.meth (.loc 0) 3 (.cons (.sub (.loc 1) (.loc 6)) .nil)) (.cons (.con (.int 1)) .nil))) .nil)) .done) (.exp (.bm (.loc 4) .append (.cons (.sub (.loc 1) (.loc 6)) .nil)) .done) (.exp (.bm (.loc 5) .append (.cons (.lst 0 (.cons (.loc 6) .nil)) .nil)) .done)) (l.set 6 x) σ k)
      ((List.range' j r).map fun (i : Nat) => iA ((0 : Int) + (i : Int))) [stA, .d (.list (cs.map pairD)), .d (.bool u), .d (.bool false), .obj 24, .obj 25, l6, l7, l8] ((25, .dat ((List.range j).map fun i => .list (il [i]))) :: (24, .dat ((cs.take j).map pairD)) :: σ) K
  | 0, j, l6, h6, hj, q => by
    have : j = cs.length := by omega
    subst this
    rw [List.take_length]
    exact q l6 h6
  | r + 1, j, l6, h6, hj, q => by
    have hjl : j < cs.length := by omega
    refine ⟨app_T rfl, ?_⟩
    have g : (cs.map pairD)[j]? = some (pairD cs[j]) := by rw [List.getElem?_map, List.getElem?_eq_getElem hjl]; rfl
    have ez : (0 : Int) + (j : Int) = (j : Int) := Int.zero_add _
    refine subl_ (j := (0 : Int) + (j : Int)) (by rw [List.length_map]; omega) (by rw [ez]; exact getI_nat g) (app_ rfl (by rw [List.length_map, List.length_take]; omega) ?_)
    refine ⟨app_T rfl, app_ rfl (by rw [List.length_map, List.length_range]; omega) ?_⟩
    have e1 : (cs.take j).map pairD ++ [pairD cs[j]] = (cs.take (j + 1)).map pairD := by
      rw [List.take_add_one, List.map_append, List.getElem?_eq_getElem hjl]; rfl
    have e2 : ((List.range j).map fun i => PyData.list (il [i])) ++ [.list [.int ((0 : Int) + (j : Int))]] = (List.range (j + 1)).map fun i => .list (il [i]) := by
      rw [List.range_succ, List.map_append, ez]; rfl
    have := ms_loop1 hl r (j + 1) (iA ((0 : Int) + (j : Int))) rfl (by omega) q
    rw [← e1, ← e2] at this
    exact this
end
end Mine
end
section
set_option maxRecDepth 100000
open PySem PySem.W PyProof.Rows
namespace Mine
open PySem
section
variable {σ : H} {s b : Wd} {n : Nat} {Q : AV → H → Prop} {B : Bool → Prop} {o : Option AO} {m : Nat} {K : Fl → List AV → H → Prop} {cs : List Cl} {T : Nat → Nat → Int} {u : Bool} {p q r t : List Nat} {l6 l7 l8 : AV}
noncomputable abbrev msS := unW bd14
noncomputable def Ms (n m : Nat) (K : Fl → List AV → H → Prop) (σ : H) (cs : List Cl) (u : Bool) (R : List (List Nat)) : Prop := ∀ l6 l7, l6.refs = [] → l7.refs = [] → whA (tst tb (CF (n + 5)) msS.1) (ex tb (CF (n + 5)) [24, 25, 26, 28] msS.2.1) m [stA, .d (.list (cs.map pairD)), .d (.bool u), .d (.bool false), .d (.list (cs.map pairD)), .d (.list (R.map fun r => .list (il r))), l6, l7, .un] σ K
theorem Ms.one (hq : ∀ l6 l7, l6.refs = [] → l7.refs = [] → K .next [stA, .d (.list (cs.map pairD)), .d (.bool u), .d (.bool false), .d (.list (cs.map pairD)), .d (.list [.list (il p)]), l6, l7, .un] σ) : Ms n (m + 1) K σ cs u [p] := fun l6 l7 h6 h7 =>
  (lenl_ (xs := [.list (il p)]) (by show 1 < _; decide) (gt_f (by show ¬ (1 : Int) < 1; decide) (hq l6 l7 h6 h7)))
theorem nrm {k : Nat} {a b c d e f g : AV} (hk : 10 ≤ k) (h1 : e.refs = []) (h2 : f.refs = []) (h3 : g.refs = []) (ha : a.refs = []) (hb : b.refs = []) (hc : c.refs = []) (hd : d.refs = []) : ∀ v ∈ [stA, a, b, c, d, e, f, .un, g], k ∉ v.refs :=
  nr_cons (by show k ∉ [9]; simp; omega) (nr_cons (nr0 ha) (nr_cons (nr0 hb) (nr_cons (nr0 hc) (nr_cons (nr0 hd) (nr_cons (nr0 h1) (nr_cons (nr0 h2) (nr_cons nofun (nr_cons (nr0 h3) nr_nil))))))))
theorem Ms.two (h : Wk o σ s) (x : Ex b s) (ct : Cs b cs T) (hp : ∀ a ∈ p, a < cs.length) (hq : ∀ a ∈ q, a < cs.length) (hl : p.length + q.length < 9) (k : Ms n m K σ cs u [mrgP T u 9 p q]) : Ms n (m + 1) K σ cs u [p, q] := by
  intro l6 l7 h6 h7
  refine (lenl_ (xs := [.list (il p), .list (il q)]) (by show 2 < _; decide) (gt_t (by show (1 : Int) < 2; decide) ?_))
  refine ⟨h.fr _ (by decide), (lenl_ (xs := [.list (il p), .list (il q)]) (by show 2 < _; decide) (sbt_ ?_))⟩
  refine rng3_ (b := 1) (sm 0) (sm 1) (.inr (.inl rfl)) ⟨by show 1 < _; decide, ?_⟩
  have w1 : ∀ {a}, Wo ((26, .dat a) :: σ) s := fun {a} => h.w.cons 26 _ rfl
  refine ⟨app_T rfl, (subl_ (by show 2 < _; decide) rfl ?_)⟩
  refine add_ (subl_ (x := .list (il q)) (by show 2 < _; decide) rfl ?_)
  refine merge_ (n := n) w1 h.z (h.hc.dat 26 _ rfl) (h.fr 30 (by decide)) (h.fr 31 (by decide)) (h.fr 32 (by decide)) (h.fr 33 (by decide)) x ct 9 hl (by decide) hp hq ?_
  refine app_ rfl (by decide) ?_
  refine (lenl_ (xs := [.list (il p), .list (il q)]) (by show 2 < _; decide) (mod_ (by decide) (eq_f (by show ¬ Int.fmod 2 2 = 1; decide) ?_)))
  refine frz_ rfl rfl (by decide) (nrm (by decide) rfl rfl rfl rfl rfl rfl rfl) h.hc ?_
  exact k _ _ rfl rfl
theorem Ms.three (h : Wk o σ s) (x : Ex b s) (ct : Cs b cs T) (hp : ∀ a ∈ p, a < cs.length) (hq : ∀ a ∈ q, a < cs.length) (hl : p.length + q.length < 9) (k : Ms n m K σ cs u [mrgP T u 9 p q, r]) : Ms n (m + 1) K σ cs u [p, q, r] := by
  intro l6 l7 h6 h7
  refine (lenl_ (xs := [.list (il p), .list (il q), .list (il r)]) (by show 3 < _; decide) (gt_t (by show (1 : Int) < 3; decide) ?_))
  refine ⟨h.fr _ (by decide), (lenl_ (xs := [.list (il p), .list (il q), .list (il r)]) (by show 3 < _; decide) (sbt_ ?_))⟩
  refine rng3_ (b := 2) (sm 0) (sm 2) (.inr (.inl rfl)) ⟨by show 1 < _; decide, ?_⟩
  have w1 : ∀ {a}, Wo ((26, .dat a) :: σ) s := fun {a} => h.w.cons 26 _ rfl
  refine ⟨app_T rfl, (subl_ (by show 3 < _; decide) rfl ?_)⟩
  refine add_ (subl_ (x := .list (il q)) (by show 3 < _; decide) rfl ?_)
  refine merge_ (n := n) w1 h.z (h.hc.dat 26 _ rfl) (h.fr 30 (by decide)) (h.fr 31 (by decide)) (h.fr 32 (by decide)) (h.fr 33 (by decide)) x ct 9 hl (by decide) hp hq ?_
  refine app_ rfl (by decide) ?_
  refine (lenl_ (xs := [.list (il p), .list (il q), .list (il r)]) (by show 3 < _; decide) (mod_ (by decide) (eq_t (by show Int.fmod 3 2 = 1; decide) ?_)))
  refine ⟨app_T rfl, subl_ (x := .list (il r)) (by show 3 < _; decide) rfl (app_ rfl (by show 1 < _; decide) ?_)⟩
  refine frz_ rfl rfl (by decide) (nrm (by decide) rfl rfl rfl rfl rfl rfl rfl) h.hc ?_
  exact k _ _ rfl rfl
theorem Ms.four (h : Wk o σ s) (x : Ex b s) (ct : Cs b cs T) (hp : ∀ a ∈ p, a < cs.length) (hq : ∀ a ∈ q, a < cs.length) (hr : ∀ a ∈ r, a < cs.length) (ht : ∀ a ∈ t, a < cs.length) (hl : p.length + q.length < 9) (hl2 : r.length + t.length < 9) (k : Ms n m K σ cs u [mrgP T u 9 p q, mrgP T u 9 r t]) : Ms n (m + 1) K σ cs u [p, q, r, t] := by
  intro l6 l7 h6 h7
  refine (lenl_ (xs := [.list (il p), .list (il q), .list (il r), .list (il t)]) (by show 4 < _; decide) (gt_t (by show (1 : Int) < 4; decide) ?_))
  refine ⟨h.fr _ (by decide), (lenl_ (xs := [.list (il p), .list (il q), .list (il r), .list (il t)]) (by show 4 < _; decide) (sbt_ ?_))⟩
  refine rng3_ (b := 3) (sm 0) (sm 3) (.inr (.inl rfl)) ⟨by show 2 < _; decide, ?_⟩
  have w1 : ∀ {a}, Wo ((26, .dat a) :: σ) s := fun {a} => h.w.cons 26 _ rfl
  refine ⟨app_T rfl, (subl_ (by show 4 < _; decide) rfl ?_)⟩
  refine add_ (subl_ (x := .list (il q)) (by show 4 < _; decide) rfl ?_)
  refine merge_ (n := n) w1 h.z (h.hc.dat 26 _ rfl) (h.fr 30 (by decide)) (h.fr 31 (by decide)) (h.fr 32 (by decide)) (h.fr 33 (by decide)) x ct 9 hl (by decide) hp hq ?_
  refine app_ rfl (by decide) ?_
  refine ⟨app_T rfl, (subl_ (x := .list (il r)) (by show 4 < _; decide) rfl ?_)⟩
  refine add_ (subl_ (x := .list (il t)) (by show 4 < _; decide) rfl ?_)
  refine merge_ (n := n) w1 h.z (h.hc.dat 26 _ rfl) (h.fr 30 (by decide)) (h.fr 31 (by decide)) (h.fr 32 (by decide)) (h.fr 33 (by decide)) x ct 9 hl2 (by decide) hr ht ?_
  refine app_ rfl (by show 1 < _; decide) ?_
  refine (lenl_ (xs := [.list (il p), .list (il q), .list (il r), .list (il t)]) (by show 4 < _; decide) (mod_ (by decide) (eq_f (by show ¬ Int.fmod 4 2 = 1; decide) ?_)))
  refine frz_ rfl rfl (by decide) (nrm (by decide) rfl rfl rfl rfl rfl rfl rfl) h.hc ?_
  exact k _ _ rfl rfl
end
end Mine
end
section
set_option maxRecDepth 100000
open PySem PySem.W PyProof.Rows
namespace Mine
open PySem
section
variable {σ : H} {s b : Wd} {n : Nat} {Q : AV → H → Prop} {B : Bool → Prop} {o : Option AO} {m : Nat} {K : Fl → List AV → H → Prop} {cs : List Cl} {T : Nat → Nat → Int} {u : Bool}
noncomputable def pick (cs : List Cl) (p : List Nat) : List Cl := p.map fun i => cs.getD i (0, 0)
theorem ms_loop3 {l2 l3 l4 l5 l7 : AV} (hc : cs.length < 1000) : ∀ (p : List Nat) (acc : List PyData) (l6 : AV), l6.refs = [] → (∀ a ∈ p, a < cs.length) → acc.length + p.length < 1000 → (∀ l6, l6.refs = [] → K .next [stA, .d (.list (cs.map pairD)), l2, l3, l4, l5, l6, l7, .obj 28] ((28, .dat (acc ++ (pick cs p).map pairD)) :: σ)) →
    forA (fun x l σ k => ex tb (CF n) [24, 25, 26, 28] (.exp (.bm (.loc 8) .append (.cons (.sub (.loc 1) (.loc 6)) .nil)) .done) (l.set 6 x) σ k) (p.map fun (i : Nat) => iA (i : Int)) [stA, .d (.list (cs.map pairD)), l2, l3, l4, l5, l6, l7, .obj 28] ((28, .dat acc) :: σ) K
  | [], acc, l6, h6, g, hl, q => by
    have := q l6 h6
    rw [show (pick cs []).map pairD = [] from rfl, List.append_nil] at this
    exact this
  | a :: p, acc, l6, h6, g, hl, q => by
    rw [List.length_cons] at hl
    have ia := g a (List.mem_cons_self ..)
    have ga : (cs.map pairD)[a]? = some (pairD (cs.getD a (0, 0))) := by rw [List.getElem?_map, List.getElem?_eq_getElem ia, List.getD_eq_getElem?_getD, List.getElem?_eq_getElem ia]; rfl
    refine ⟨app_T rfl, subl_n (by rw [List.length_map]; omega) ga (app_ rfl (by omega) ?_)⟩
    refine ms_loop3 hc p (acc ++ [pairD (cs.getD a (0, 0))]) _ rfl (fun y hy => g y (List.mem_cons_of_mem _ hy)) (by rw [List.length_append]; show acc.length + 1 + _ < _; omega) fun l6 h6 => ?_
    rw [List.append_assoc]
    exact q l6 h6
theorem own4 {a b c d : Nat} (h1 : look σ a = none) (h2 : look σ b = none) (h3 : look σ c = none) (h4 : look σ d = none) : ∀ k ∈ [a, b, c, d], look σ k = none := by
  intro k hk
  rcases List.mem_cons.mp hk with rfl | hk
  · exact h1
  · exact own3 h2 h3 h4 k hk
theorem ms_end {p : List Nat} {K : Fl → List AV → H → Prop} {l6 l7 : AV} (h : Wk o σ s) (hc : cs.length ≤ 4) (g : ∀ a ∈ p, a < cs.length) (hp : p.length ≤ 4) (h6 : l6.refs = []) (h7 : l7.refs = []) (q : ∀ l, K (.ret (.d (.list ((pick cs p).map pairD)))) l σ) :
    ex tb (CF (n + 5)) [24, 25, 26, 28] msS.2.2 [stA, .d (.list (cs.map pairD)), .d (.bool u), .d (.bool false), .d (.list (cs.map pairD)), .d (.list [.list (il p)]), l6, l7, .un] σ K := by
  refine ⟨h.fr _ (by decide), subl_ (x := .list (il p)) (by show 1 < _; decide) rfl ?_⟩
  refine ⟨by unfold il; rw [List.length_map]; omega, ?_⟩
  unfold il
  rw [List.map_map]
  refine ms_loop3 (n := n + 5) (by omega) p [] _ h6 g (by show 0 + _ < _; omega) fun l6 h6 => ?_
  refine frz_ rfl rfl (by decide) (nr_cons (by decide) (nr_cons nofun (nr_cons nofun (nr_cons nofun (nr_cons nofun (nr_cons nofun (nr_cons (nr0 h6) (nr_cons (nr0 h7) (nr_cons nofun nr_nil))))))))) h.hc ?_
  exact q _
theorem msort_ (h : Wk o σ s) (x : Ex b s) (ct : Cs b cs T) (hk : 1 ≤ cs.length ∧ cs.length ≤ 4) (q : Q (.d (.list ((pick cs (srtI T u cs.length)).map pairD))) σ) : CF (n + 6) 14 [stA, .d (.list (cs.map pairD)), .d (.bool u), .d (.bool false)] σ Q := by
  refine ⟨Nat.le_refl _, Nat.le_refl _, own4 (h.fr _ (by decide)) (h.fr _ (by decide)) (h.fr _ (by decide)) (h.fr _ (by decide)), ?_⟩
  have hm : (cs.map pairD).length = cs.length := List.length_map ..
  refine (lenl_ (by omega) (eq_f (by omega) ?_))
  refine ⟨h.fr _ (by decide), ⟨h.fr _ (by decide), ?_⟩⟩
  refine (lenl_ (by omega) (rng1_ (by unfold small; omega) ?_))
  rw [hm]
  refine ⟨by rw [rangeL_0, List.length_map, List.length_range]; omega, ?_⟩
  rw [rangeL_0, List.map_map, List.range_eq_range']
  refine ms_loop1 (n := n + 5) (σ := σ) (u := u) (cs := cs) (by omega) cs.length 0 .un rfl (by omega) fun l6 h6 => ?_
  refine frz_ rfl rfl (by decide) (nr_cons (by decide) (nr_cons nofun (nr_cons nofun (nr_cons nofun (nr_cons nofun (nr_cons (by decide) (nr_cons (nr0 h6) (nr_cons nofun (nr_cons nofun nr_nil))))))))) (h.hc.dat 25 _ rfl) ?_
  refine frz_ rfl rfl (by decide) (nr_cons (by decide) (nr_cons nofun (nr_cons nofun (nr_cons nofun (nr_cons nofun (nr_cons nofun (nr_cons (nr0 h6) (nr_cons nofun (nr_cons nofun nr_nil))))))))) h.hc ?_
  have lt1 : ∀ {a k : Nat}, a < k → ∀ y ∈ [a], y < k := fun h y hy => by rw [List.mem_singleton.mp hy]; exact h
  have l2 : ∀ {p q : List Nat}, p.length + q.length ≤ 4 → (mrgP T u 9 p q).length ≤ 4 := fun h => Nat.le_trans (mrgP_len 9 _ _) h
  have m1 := fun {p q : List Nat} (hp : ∀ a ∈ p, a < cs.length) (hq : ∀ a ∈ q, a < cs.length) => mrgP_lt (T := T) (u := u) (k := cs.length) 9 p q hp hq
  obtain ⟨hk1, hk2⟩ := hk
  have cases4 : cs.length = 1 ∨ cs.length = 2 ∨ cs.length = 3 ∨ cs.length = 4 := by omega
  rcases cases4 with e | e | e | e
  · rw [e] at q ⊢
    refine ⟨1, ?_⟩
    exact Ms.one (m := 0) (n := n) (p := [0]) (fun l6 l7 h6 h7 => ms_end h hk2 (lt1 (by omega)) (by decide) h6 h7 fun l => q) _ _ h6 rfl
  · rw [e] at q ⊢
    refine ⟨2, ?_⟩
    refine Ms.two (n := n) (p := [0]) (q := [1]) (m := 1) h x ct (lt1 (by omega)) (lt1 (by omega)) (by decide) ?_ _ _ h6 rfl
    exact Ms.one fun l6 l7 h6 h7 => ms_end h hk2 (m1 (lt1 (by omega)) (lt1 (by omega))) (l2 (by decide)) h6 h7 fun l => q
  · rw [e] at q ⊢
    refine ⟨3, ?_⟩
    refine Ms.three (n := n) (p := [0]) (q := [1]) (r := [2]) (m := 2) h x ct (lt1 (by omega)) (lt1 (by omega)) (by decide) ?_ _ _ h6 rfl
    have hl : (mrgP T u 9 [0] [1]).length ≤ 2 := mrgP_len 9 _ _
    refine Ms.two h x ct (m1 (lt1 (by omega)) (lt1 (by omega))) (lt1 (by omega)) (by show _ + 1 < 9; omega) ?_
    exact Ms.one fun l6 l7 h6 h7 => ms_end h hk2 (m1 (m1 (lt1 (by omega)) (lt1 (by omega))) (lt1 (by omega))) (l2 (by show _ + 1 ≤ 4; omega)) h6 h7 fun l => q
  · rw [e] at q ⊢
    refine ⟨3, ?_⟩
    refine Ms.four (n := n) (p := [0]) (q := [1]) (r := [2]) (t := [3]) (m := 2) h x ct (lt1 (by omega)) (lt1 (by omega)) (lt1 (by omega)) (lt1 (by omega)) (by decide) (by decide) ?_ _ _ h6 rfl
    have hl : (mrgP T u 9 [0] [1]).length ≤ 2 := mrgP_len 9 _ _
    have hl2 : (mrgP T u 9 [2] [3]).length ≤ 2 := mrgP_len 9 _ _
    refine Ms.two h x ct (m1 (lt1 (by omega)) (lt1 (by omega))) (m1 (lt1 (by omega)) (lt1 (by omega))) (by omega) ?_
    exact Ms.one fun l6 l7 h6 h7 => ms_end h hk2 (m1 (m1 (lt1 (by omega)) (lt1 (by omega))) (m1 (lt1 (by omega)) (lt1 (by omega)))) (l2 (by omega)) h6 h7 fun l => q
end
end Mine
end
section
set_option maxRecDepth 100000
open PySem PySem.W PyProof.Rows
namespace Mine
open PySem
theorem Ls.mono2 {h h' : List Cl} : ∀ {cs : List Cl} {b : Nat}, (∀ (i : Nat) (c : Cl), b ≤ i → h[i]? = some c → h'[i]? = some c) → Ls h b cs → Ls h' b cs
  | [_], _, x, e => ⟨x _ _ (Nat.le_refl _) e.1, x _ _ (Nat.le_succ _) e.2⟩
  | _ :: _ :: _, _, x, e => ⟨x _ _ (Nat.le_refl _) e.1, x _ _ (Nat.le_succ _) e.2.1, Ls.mono2 (fun i c hi => x i c (by omega)) e.2.2⟩
theorem app_some {h h' : List Cl} {i : Nat} {c : Cl} (e : h[i]? = some c) : (h ++ h')[i]? = some c := by
  rw [List.getElem?_append_left (List.getElem?_eq_some_iff.mp e).1]; exact e
theorem set_some {h : List Cl} {i j : Nat} {c d : Cl} (n : j ≠ i) (e : h[j]? = some c) : (h.set i d)[j]? = some c := by
  rw [List.getElem?_set_ne (Ne.symm n)]; exact e
structure Dot (b : Wd) : Prop where
  d : ∃ (a : Nat) (tx : Str), b.fus[0]? = some ((a : Int), 2) ∧ b.texts[a]? = some tx
section
variable {σ : H} {s b : Wd} {n : Nat} {Q : AV → H → Prop} {B : Bool → Prop} {o : Option AO} {m : Nat} {cs : List Cl} {T : Nat → Nat → Int} {u : Bool}
theorem pick_el (ct : Cs b cs T) {p : List Nat} (g : ∀ a ∈ p, a < cs.length) : ∀ c ∈ pick cs p, ∃ k, El b c k := by
  intro c hc
  unfold pick at hc
  obtain ⟨a, ha, rfl⟩ := List.mem_map.mp hc
  have e : cs[a]? = some (cs.getD a (0, 0)) := by rw [List.getD_eq_getElem?_getD, List.getElem?_eq_getElem (g a ha)]; rfl
  obtain ⟨k, _, h, _⟩ := ct.t a a _ _ e e
  exact ⟨k, h⟩
theorem cs_el (ct : Cs b cs T) : ∀ c ∈ cs, ∃ k, El b c k := by
  intro c hc
  obtain ⟨i, hi, e⟩ := List.getElem_of_mem hc
  have e2 : cs[i]? = some c := by rw [List.getElem?_eq_getElem hi, e]
  obtain ⟨k, _, h, _⟩ := ct.t i i _ _ e2 e2
  exact ⟨k, h⟩
theorem srtI_lt (hk : 1 ≤ cs.length ∧ cs.length ≤ 4) : (∀ a ∈ srtI T u cs.length, a < cs.length) ∧ (srtI T u cs.length).length ≤ 4 := by
  have lt1 : ∀ {a k : Nat}, a < k → ∀ y ∈ [a], y < k := fun h y hy => by rw [List.mem_singleton.mp hy]; exact h
  have m1 := fun {p q : List Nat} (hp : ∀ a ∈ p, a < cs.length) (hq : ∀ a ∈ q, a < cs.length) => mrgP_lt (T := T) (u := u) (k := cs.length) 9 p q hp hq
  have l1 := fun {p q : List Nat} => mrgP_len (T := T) (u := u) 9 p q
  obtain ⟨hk1, hk2⟩ := hk
  have cases4 : cs.length = 1 ∨ cs.length = 2 ∨ cs.length = 3 ∨ cs.length = 4 := by omega
  have a1 := l1 (p := [0]) (q := [1])
  have a2 := l1 (p := [2]) (q := [3])
  have a3 := l1 (p := mrgP T u 9 [0] [1]) (q := [2])
  have a4 := l1 (p := mrgP T u 9 [0] [1]) (q := mrgP T u 9 [2] [3])
  simp only [List.length_singleton] at a1 a2 a3
  unfold srtI
  rcases cases4 with e | e | e | e
  · rw [e]; exact ⟨lt1 (by omega), by show 1 ≤ 4; decide⟩
  · constructor
    · intro a ha; rw [e] at ha; exact m1 (lt1 (by omega)) (lt1 (by omega)) a ha
    · rw [e]; show (mrgP T u 9 [0] [1]).length ≤ 4; omega
  · constructor
    · intro a ha; rw [e] at ha; exact m1 (m1 (lt1 (by omega)) (lt1 (by omega))) (lt1 (by omega)) a ha
    · rw [e]; show (mrgP T u 9 (mrgP T u 9 [0] [1]) [2]).length ≤ 4; omega
  · constructor
    · intro a ha; rw [e] at ha; exact m1 (m1 (lt1 (by omega)) (lt1 (by omega))) (m1 (lt1 (by omega)) (lt1 (by omega))) a ha
    · rw [e]; show (mrgP T u 9 (mrgP T u 9 [0] [1]) (mrgP T u 9 [2] [3])).length ≤ 4; omega
theorem srtI_ne (hk : 1 ≤ cs.length ∧ cs.length ≤ 4) : srtI T u cs.length ≠ [] := by
  have ne : ∀ (N : Nat) (a : Nat) (l r : List Nat), mrgP T u (N + 1) (a :: l) r ≠ [] := by
    intro N a l r
    cases r with
    | nil => unfold mrgP; simp
    | cons d r => unfold mrgP; split <;> simp
  have ex : ∀ (N : Nat) (a : Nat) (l r : List Nat), ∃ x y, mrgP T u (N + 1) (a :: l) r = x :: y := fun N a l r => by
    cases e : mrgP T u (N + 1) (a :: l) r with
    | nil => exact absurd e (ne N a l r)
    | cons x y => exact ⟨x, y, rfl⟩
  obtain ⟨hk1, hk2⟩ := hk
  have cases4 : cs.length = 1 ∨ cs.length = 2 ∨ cs.length = 3 ∨ cs.length = 4 := by omega
  obtain ⟨x, y, e1⟩ := ex 8 0 [] [1]
  unfold srtI
  rcases cases4 with e | e | e | e
  · rw [e]; simp
  · rw [e]; exact ne _ _ _ _
  · rw [e]; show mrgP T u 9 (mrgP T u 9 [0] [1]) [2] ≠ []; rw [e1]; exact ne _ _ _ _
  · rw [e]; show mrgP T u 9 (mrgP T u 9 [0] [1]) _ ≠ []; rw [e1]; exact ne _ _ _ _
theorem psort_ {g p i : Nat} {v : Cl} (hg : (g = 24 ∧ u = true) ∨ (g = 25 ∧ u = false)) (h : Wk o σ s) (hx : s.x = [v, (3, (p : Int)), (0, (i : Int))]) (l : Ls s.h p cs) (hv : s.h[i]? = some (0, (i : Int))) (x : Ex b s) (hi : b.h.length ≤ i) (dt : Dot b) (ct : Cs b cs T) (hk : 1 ≤ cs.length ∧ cs.length ≤ 4) (hh : s.h.length < 1000)
    (q : ∀ σ', Wk o σ' { s with h := (s.h ++ blk s.h.length (pick cs (srtI T u cs.length))).set i (3, (s.h.length : Int)) } → Q (.d (.bool true)) σ') : CF (n + 8) g [arA] σ Q := by
  have hd : ∀ c ∈ cs, Dr s c c := fun c hc => by obtain ⟨k, e⟩ := cs_el ct c hc; exact (e.mono x).dr
  obtain ⟨pl, pn⟩ := srtI_lt (T := T) (u := u) hk
  have fe := pick_el ct pl
  have fd : ∀ c ∈ pick cs (srtI T u cs.length), Dr s c c := fun c hc => by obtain ⟨k, e⟩ := fe c hc; exact (e.mono x).dr
  have fn : (pick cs (srtI T u cs.length)).length ≤ 4 := by unfold pick; rw [List.length_map]; exact pn
  have f0 : pick cs (srtI T u cs.length) ≠ [] := by unfold pick; intro e; exact srtI_ne hk (List.map_eq_nil_iff.mp e)
  have x3 : s.x.length < 4000 := by rw [hx]; show 3 < _; decide
  obtain ⟨a, tx, d1, d2⟩ := dt.d
  have main : CF (n + 8) g [arA] σ Q := by
    have key : ∀ σ', Wk o σ' { s with h := s.h ++ blk s.h.length (pick cs (srtI T u cs.length)) } → CF (n + 7) 62 [arA, cA (3, (s.h.length : Int)), cA (0, (i : Int))] σ' Q := by
      intro σ' h'
      have xx : Ex b { s with h := s.h ++ blk s.h.length (pick cs (srtI T u cs.length)) } := ⟨fun j c e => app_some (x.h j c e), x.t, x.f⟩
      refine ⟨Nat.le_refl _, Nat.le_refl _, nofun, (ar_st h'.w (ar_oc h'.w ?_))⟩
      exact unify_ (n := n) h' xx hi (app_some hv) (x.f _ _ d1) (x.t _ _ d2) (Ls_blk _ _ f0) fe (by omega) q
    rcases hg with ⟨rfl, rfl⟩ | ⟨rfl, rfl⟩
    all_goals
      refine ⟨Nat.le_refl _, Nat.le_refl _, nofun, ⟨m_ar h.w rfl rfl, arg_ (i := 1) h.w h.z.h x3 (by rw [hx]; rfl) (.con (by decide) (by decide)) (proper_ h l hd (by omega) ?_)⟩⟩
      refine ⟨m_ar h.w rfl rfl, arg_ (i := 2) h.w h.z.h x3 (by rw [hx]; rfl) (.var hv) (partial_ h hv ?_)⟩
      refine (ar_st h.w (msort_ (n := n + 1) h x ct hk ?_))
      refine ⟨m_ar h.w rfl rfl, ar_st h.w ⟨m_st h.w rfl rfl, build_ h f0 fd (by omega) (by omega) fun σ1 h1 => ?_⟩⟩
      exact ⟨m_ar h1.w rfl rfl, arg_ (i := 2) h1.w h1.z.h x3 (by show s.x[2]? = _; rw [hx]; rfl) (.var (app_some hv)) (key σ1 h1)⟩
  exact main
end
end Mine
end
section
set_option maxRecDepth 100000
open PySem PySem.W PyProof.Rows
namespace Mine
open PySem
theorem blk_len : ∀ (b : Nat) (cs : List Cl), (blk b cs).length = 2 * cs.length
  | _, [] => rfl
  | _, [_] => rfl
  | b, c :: d :: cs => by
    show (blk (b + 2) (d :: cs)).length + 1 + 1 = 2 * ((d :: cs).length + 1)
    rw [blk_len (b + 2) (d :: cs)]; omega
structure Bs (b s : Wd) : Prop where
  x : Ex b s
  l : b.h.length ≤ s.h.length
  r : XR s
section
variable {σ : H} {s b : Wd} {n : Nat} {Q : AV → H → Prop} {B : Bool → Prop} {o : Option AO} {m : Nat} {cs : List Cl} {T : Nat → Nat → Int} {u : Bool}
theorem sorted_ {g : Nat} (hg : (g = 45 ∧ u = true) ∨ (g = 44 ∧ u = false)) (h : Wk o σ s) (hb : Bs b s) (dt : Dot b) (ct : Cs b cs T) (hk : 1 ≤ cs.length ∧ cs.length ≤ 4) (hh : s.h.length < 900)
    (q : ∀ σ' s', Wk o σ' s' → Bs b s' → s'.h.length ≤ s.h.length + 20 → Q (.d (.list ((pick cs (srtI T u cs.length)).map pairD))) σ') : CF (n + 9) 30 [arA, .fn g, .d (.list (cs.map pairD))] σ Q := by
  obtain ⟨pl, pn⟩ := srtI_lt (T := T) (u := u) hk
  have fn : (pick cs (srtI T u cs.length)).length ≤ 4 := by unfold pick; rw [List.length_map]; exact pn
  have f0 : pick cs (srtI T u cs.length) ≠ [] := by unfold pick; intro e; exact srtI_ne hk (List.map_eq_nil_iff.mp e)
  have c0 : cs ≠ [] := by rintro rfl; exact absurd hk.1 (by decide)
  have l1 : (s.h ++ [((0 : Int), (s.h.length : Int))]).length = s.h.length + 1 := by rw [List.length_append]; rfl
  have l2 : ((s.h ++ [((0 : Int), (s.h.length : Int))]) ++ blk (s.h ++ [((0 : Int), (s.h.length : Int))]).length cs).length = s.h.length + 1 + 2 * cs.length := by rw [List.length_append, blk_len, l1]
  refine ⟨Nat.le_refl _, Nat.le_refl _, nofun, ar_st h.w ⟨m_st h.w rfl rfl, newvar_ h (by omega) fun σ1 h1 => ?_⟩⟩
  have x1 : Ex b { s with h := s.h ++ [((0 : Int), (s.h.length : Int))] } := ⟨fun j c e => app_some (hb.x.h j c e), hb.x.t, hb.x.f⟩
  have hd1 : ∀ c ∈ cs, Dr { s with h := s.h ++ [((0 : Int), (s.h.length : Int))] } c c := fun c hc => by obtain ⟨k, e⟩ := cs_el ct c hc; exact (e.mono x1).dr
  refine ⟨m_ar h1.w rfl rfl, ar_st h1.w ⟨m_st h1.w rfl rfl, build_ h1 c0 hd1 (by omega) (by show (s.h ++ [_]).length < _; rw [l1]; omega) fun σ2 h2 => ?_⟩⟩
  refine seta_ h2 hb.r fun σ3 v h3 => ?_
  have hp : (((s.h ++ [((0 : Int), (s.h.length : Int))]).length : Nat) : Int) = ((s.h.length + 1 : Nat) : Int) := by rw [l1]
  have hv3 : ((s.h ++ [((0 : Int), (s.h.length : Int))]) ++ blk (s.h ++ [((0 : Int), (s.h.length : Int))]).length cs)[s.h.length]? = some (0, (s.h.length : Int)) := app_some (by rw [List.getElem?_append_right (Nat.le_refl _), Nat.sub_self]; rfl)
  have x3 : Ex b { s with h := (s.h ++ [((0 : Int), (s.h.length : Int))]) ++ blk (s.h ++ [((0 : Int), (s.h.length : Int))]).length cs, x := [v, (3, (((s.h ++ [((0 : Int), (s.h.length : Int))]).length : Nat) : Int)), (0, (s.h.length : Int))] } :=
    ⟨fun j c e => app_some (x1.h j c e), hb.x.t, hb.x.f⟩
  have L3 := Ls_blk cs (s.h ++ [((0 : Int), (s.h.length : Int))]) c0
  have fe := pick_el ct pl
  have fin : ∀ σ4, Wk o σ4 { s with h := (((s.h ++ [((0 : Int), (s.h.length : Int))]) ++ blk (s.h ++ [((0 : Int), (s.h.length : Int))]).length cs) ++ blk ((s.h ++ [((0 : Int), (s.h.length : Int))]) ++ blk (s.h ++ [((0 : Int), (s.h.length : Int))]).length cs).length (pick cs (srtI T u cs.length))).set s.h.length (3, ((((s.h ++ [((0 : Int), (s.h.length : Int))]) ++ blk (s.h ++ [((0 : Int), (s.h.length : Int))]).length cs).length : Nat) : Int)), x := [v, (3, (((s.h ++ [((0 : Int), (s.h.length : Int))]).length : Nat) : Int)), (0, (s.h.length : Int))] } →
      CF (n + 8) 54 [stA, cA (0, (s.h.length : Int))] σ4 fun r σ' => unp2A r fun y z => ex tb (CF (n + 8)) [] (.ret (.ife (.cmp .Eq (.loc 5) (.tup (.cons (.glo 13) (.cons (.glo 28) .nil)))) (.loc 4) (.con .none)) []) ([arA, .fn g, .d (.list (cs.map pairD)), cA (0, (s.h.length : Int)), .d y, .d z]) σ' fun f _ σ' => match f with
        | .ret v => Q v σ'
        | .next => Q (.d .none) σ'
        | .cont => False := by
    intro σ4 h4
    have x4 : Ex b { s with h := (((s.h ++ [((0 : Int), (s.h.length : Int))]) ++ blk (s.h ++ [((0 : Int), (s.h.length : Int))]).length cs) ++ blk ((s.h ++ [((0 : Int), (s.h.length : Int))]) ++ blk (s.h ++ [((0 : Int), (s.h.length : Int))]).length cs).length (pick cs (srtI T u cs.length))).set s.h.length (3, ((((s.h ++ [((0 : Int), (s.h.length : Int))]) ++ blk (s.h ++ [((0 : Int), (s.h.length : Int))]).length cs).length : Nat) : Int)), x := [v, (3, (((s.h ++ [((0 : Int), (s.h.length : Int))]).length : Nat) : Int)), (0, (s.h.length : Int))] } :=
      ⟨fun j c e => set_some (by have := (List.getElem?_eq_some_iff.mp e).1; have := hb.l; omega) (app_some (x3.h j c e)), hb.x.t, hb.x.f⟩
    have L4 := Ls_blk (pick cs (srtI T u cs.length)) ((s.h ++ [((0 : Int), (s.h.length : Int))]) ++ blk (s.h ++ [((0 : Int), (s.h.length : Int))]).length cs) f0
    refine cells_ (n := n + 6) (p := ((s.h ++ [((0 : Int), (s.h.length : Int))]) ++ blk (s.h ++ [((0 : Int), (s.h.length : Int))]).length cs).length) h4 (.bnd ?_ (by decide) (by decide)) (Ls.mono2 (fun j c hj e => set_some (by omega) e) L4) (fun c hc => by obtain ⟨k, e⟩ := fe c hc; exact (e.mono x4).dr) (by omega) ?_
    · show (List.set _ _ _)[_]? = _
      rw [List.getElem?_set_self (by rw [List.length_append]; omega)]
    · refine eqc_t (a := (4, 0)) (b := (4, 0)) rfl ?_
      exact q σ4 _ h4 ⟨x4, by show _ ≤ (List.set _ _ _).length; rw [List.length_set, List.length_append, l2]; have := hb.l; omega, .inr ⟨_, _, _, rfl⟩⟩ (by show (List.set _ _ _).length ≤ _; rw [List.length_set, List.length_append, blk_len, l2]; omega)
  rcases hg with ⟨rfl, rfl⟩ | ⟨rfl, rfl⟩
  · refine (psort_ (n := n) (.inl ⟨rfl, rfl⟩) h3 rfl L3 hv3 x3 hb.l dt ct hk (by show (_ ++ _ : List Cl).length < _; rw [l2]; omega) fun σ4 h4 => ?_)
    exact ar_st h4.w ⟨m_st h4.w rfl rfl, fin σ4 h4⟩
  · refine (psort_ (n := n) (.inr ⟨rfl, rfl⟩) h3 rfl L3 hv3 x3 hb.l dt ct hk (by show (_ ++ _ : List Cl).length < _; rw [l2]; omega) fun σ4 h4 => ?_)
    exact ar_st h4.w ⟨m_st h4.w rfl rfl, fin σ4 h4⟩
end
end Mine
end
section
set_option maxRecDepth 100000
open PySem PySem.W PyProof.Rows
namespace Mine
open PySem
noncomputable def Tr (r : List Nat) (i j : Nat) : Int := if r.getD i 0 < r.getD j 0 then -1 else if r.getD j 0 < r.getD i 0 then 1 else 0
noncomputable def via (T : Nat → Nat → Int) (p : List Nat) (i j : Nat) : Int := T (p.getD i 0) (p.getD j 0)
noncomputable def thr (p q : List Nat) : List Nat := q.map fun i => p.getD i 0
noncomputable def okI (k : Nat) (T : Nat → Nat → Int) : Bool :=
  let F := srtI T false k
  let S := srtI T true k
  let R := (List.range k).reverse
  let D := thr R (srtI (via T R) true k)
  decide (F.length = k) && (List.range k).all (fun i => F.count i == 1) &&
  (List.range (F.length - 1)).all (fun i => decide (T (F.getD i 0) (F.getD (i + 1) 0) ≤ 0)) &&
  (List.range (S.length - 1)).all (fun i => decide (T (S.getD i 0) (S.getD (i + 1) 0) < 0)) &&
  (List.range k).all (fun c => S.any fun x => decide (T x c = 0)) &&
  decide (thr F (srtI (via T F) false F.length) = F) && decide (thr F (srtI (via T F) true F.length) = S) &&
  decide (thr S (srtI (via T S) true S.length) = S) && decide (thr S (srtI (via T S) false S.length) = S) &&
  decide (D.length = S.length) && (List.range D.length).all (fun i => decide (T (D.getD i 0) (S.getD i 0) = 0))
theorem ok1 : ∀ a ∈ List.range 1, okI 1 (Tr [a]) = true := by decide +kernel
theorem ok2 : ∀ a ∈ List.range 2, ∀ b ∈ List.range 2, okI 2 (Tr [a, b]) = true := by decide +kernel
theorem ok3 : ∀ a ∈ List.range 3, ∀ b ∈ List.range 3, ∀ c ∈ List.range 3, okI 3 (Tr [a, b, c]) = true := by decide +kernel
theorem ok4 : ∀ a ∈ List.range 4, ∀ b ∈ List.range 4, ∀ c ∈ List.range 4, ∀ d ∈ List.range 4, okI 4 (Tr [a, b, c, d]) = true := by decide +kernel
theorem lx_trans : ∀ {x y z : List Int}, lx x y = -1 → lx y z = -1 → lx x z = -1
  | [], _, [], h, g => by
    rename_i y
    cases y with
    | nil => exact h
    | cons => simp [lx] at g
  | [], _, _ :: _, h, g => rfl
  | _ :: _, [], _, h, g => by simp [lx] at h
  | _ :: _, _ :: _, [], h, g => by simp [lx] at g
  | a :: x, b :: y, c :: z, h, g => by
    rw [lx_cons] at h g ⊢
    by_cases h1 : a < b
    · by_cases g1 : b < c
      · rw [if_pos (by omega)]
      · by_cases g2 : c < b
        · rw [if_neg g1, if_pos g2] at g; cases g
        · rw [if_pos (by omega)]
    · by_cases h2 : b < a
      · rw [if_neg h1, if_pos h2] at h; cases h
      · rw [if_neg h1, if_neg h2] at h
        by_cases g1 : b < c
        · rw [if_pos (by omega)]
        · by_cases g2 : c < b
          · rw [if_neg g1, if_pos g2] at g; cases g
          · rw [if_neg g1, if_neg g2] at g
            rw [if_neg (by omega), if_neg (by omega)]
            exact lx_trans h g
theorem countP_le {α : Type} {p q : α → Bool} : ∀ {l : List α}, (∀ x ∈ l, p x = true → q x = true) → l.countP p ≤ l.countP q
  | [], _ => Nat.le_refl _
  | x :: l, h => by
    have ih := countP_le (l := l) fun y hy => h y (List.mem_cons_of_mem _ hy)
    rw [List.countP_cons, List.countP_cons]
    have := h x (List.mem_cons_self ..)
    cases hp : p x <;> cases hq : q x <;> simp_all <;> omega
theorem countP_lt2 {α : Type} {p q : α → Bool} : ∀ {l : List α} {y : α}, (∀ x ∈ l, p x = true → q x = true) → y ∈ l → p y = false → q y = true → l.countP p < l.countP q
  | x :: l, y, h, hy, h1, h2 => by
    have h' := fun y hy => h y (List.mem_cons_of_mem x hy)
    rw [List.countP_cons, List.countP_cons]
    rcases List.mem_cons.mp hy with rfl | hy
    · have := countP_le h'
      rw [h1, h2]; simp; omega
    · have ih := countP_lt2 h' hy h1 h2
      have := h x (List.mem_cons_self ..)
      cases hp : p x <;> cases hq : q x <;> simp_all <;> omega
noncomputable def rnk (ks : List (List Int)) (i : Nat) : Nat := (List.range ks.length).countP fun j => lx (ks.getD j []) (ks.getD i []) == -1
theorem rnk_lt {ks : List (List Int)} {i : Nat} (hi : i < ks.length) : rnk ks i < ks.length := by
  have := countP_lt2 (p := fun j => lx (ks.getD j []) (ks.getD i []) == -1) (q := fun _ => true) (l := List.range ks.length) (y := i) (fun _ _ _ => rfl) (List.mem_range.mpr hi) (by rw [lx_self]; rfl) rfl
  rw [List.countP_true, List.length_range] at this
  exact this
theorem rnk_mono {ks : List (List Int)} {i j : Nat} (hi : i < ks.length) (h : lx (ks.getD i []) (ks.getD j []) = -1) : rnk ks i < rnk ks j :=
  countP_lt2 (y := i) (fun x _ e => by rw [beq_iff_eq] at e ⊢; exact lx_trans e h) (List.mem_range.mpr hi) (by rw [lx_self]; rfl) (by rw [h]; rfl)
theorem rnk_T {ks : List (List Int)} {i j : Nat} (hi : i < ks.length) (hj : j < ks.length) : lx (ks.getD i []) (ks.getD j []) = if rnk ks i < rnk ks j then -1 else if rnk ks j < rnk ks i then 1 else 0 := by
  rcases lx_tri (ks.getD i []) (ks.getD j []) with t | t | t
  · rw [t, if_pos (rnk_mono hi t)]
  · have e := lx_eq0 t
    rw [t]
    have : rnk ks i = rnk ks j := by unfold rnk; rw [e]
    rw [if_neg (by omega), if_neg (by omega)]
  · have t' : lx (ks.getD j []) (ks.getD i []) = -1 := by rw [lx_neg, t]
    have := rnk_mono hj t'
    rw [t, if_neg (by omega), if_pos this]
theorem mrgP_congr {T T' : Nat → Nat → Int} {u : Bool} {k : Nat} (e : ∀ i j, i < k → j < k → T i j = T' i j) : ∀ (N : Nat) (l r : List Nat), (∀ a ∈ l, a < k) → (∀ a ∈ r, a < k) → mrgP T u N l r = mrgP T' u N l r
  | 0, l, r, _, _ => rfl
  | N + 1, [], r, _, _ => rfl
  | N + 1, a :: l, [], _, _ => rfl
  | N + 1, a :: l, d :: r, h, g => by
    have h' : ∀ a ∈ l, a < k := fun y m => h y (List.mem_cons_of_mem _ m)
    have g' : ∀ a ∈ r, a < k := fun y m => g y (List.mem_cons_of_mem _ m)
    have ee := e a d (h a (List.mem_cons_self ..)) (g d (List.mem_cons_self ..))
    unfold mrgP
    rw [ee, mrgP_congr e N (a :: l) r h g', mrgP_congr e N l (if T' a d = 0 ∧ u = true then r else d :: r) h' (by split <;> assumption)]
theorem srtI_congr {T T' : Nat → Nat → Int} {u : Bool} {k : Nat} (e : ∀ i j, i < k → j < k → T i j = T' i j) : srtI T u k = srtI T' u k := by
  have lt1 : ∀ {a k : Nat}, a < k → ∀ y ∈ [a], y < k := fun h y hy => by rw [List.mem_singleton.mp hy]; exact h
  unfold srtI
  split
  · rfl
  · exact mrgP_congr e _ _ _ (lt1 (by omega)) (lt1 (by omega))
  · rw [mrgP_congr e _ [0] [1] (lt1 (by omega)) (lt1 (by omega))]
    exact mrgP_congr e _ _ _ (mrgP_lt _ _ _ (lt1 (by omega)) (lt1 (by omega))) (lt1 (by omega))
  · rw [mrgP_congr e _ [0] [1] (lt1 (by omega)) (lt1 (by omega)), mrgP_congr e _ [2] [3] (lt1 (by omega)) (lt1 (by omega))]
    exact mrgP_congr e _ _ _ (mrgP_lt _ _ _ (lt1 (by omega)) (lt1 (by omega))) (mrgP_lt _ _ _ (lt1 (by omega)) (lt1 (by omega)))
  · rfl
end Mine
end
section
set_option maxRecDepth 100000
open PySem PySem.W PyProof.Rows
namespace Mine
open PySem
theorem keys_of {b : Wd} : ∀ {cs : List Cl}, (∀ c ∈ cs, ∃ k, El b c k) → ∃ ks : List (List Int), ks.length = cs.length ∧ ∀ i c, cs[i]? = some c → El b c (ks.getD i [])
  | [], _ => ⟨[], rfl, fun i c e => by simp at e⟩
  | c :: cs, h => by
    obtain ⟨k, e⟩ := h c (List.mem_cons_self ..)
    obtain ⟨ks, h1, h2⟩ := keys_of (cs := cs) fun d hd => h d (List.mem_cons_of_mem _ hd)
    refine ⟨k :: ks, by rw [List.length_cons, List.length_cons, h1], fun i d g => ?_⟩
    cases i with
    | zero => cases g; exact e
    | succ i => exact h2 i d g
theorem Cs.mk' {b : Wd} {cs : List Cl} (h : ∀ c ∈ cs, ∃ k, El b c k) (hk : 1 ≤ cs.length ∧ cs.length ≤ 4) : ∃ r, Cs b cs (Tr r) ∧ okI cs.length (Tr r) = true := by
  obtain ⟨ks, h1, h2⟩ := keys_of h
  have main : ∀ r : List Nat, (∀ i, i < cs.length → r.getD i 0 = rnk ks i) → Cs b cs (Tr r) := by
    intro r hr
    refine ⟨fun i j c d e e' => ⟨_, _, h2 i c e, h2 j d e', ?_⟩, by omega⟩
    have hi := (List.getElem?_eq_some_iff.mp e).1
    have hj := (List.getElem?_eq_some_iff.mp e').1
    rw [rnk_T (by omega) (by omega)]
    unfold Tr
    rw [hr i hi, hr j hj]
  have lt : ∀ i, i < cs.length → rnk ks i < cs.length := fun i hi => by rw [← h1]; exact rnk_lt (by omega)
  have c4 : cs.length = 1 ∨ cs.length = 2 ∨ cs.length = 3 ∨ cs.length = 4 := by omega
  rcases c4 with e | e | e | e <;> rw [e] at lt main ⊢
  · refine ⟨[rnk ks 0], main _ fun i hi => ?_, ok1 _ (List.mem_range.mpr (lt 0 (by omega)))⟩
    match i, hi with
    | 0, _ => rfl
  · refine ⟨[rnk ks 0, rnk ks 1], main _ fun i hi => ?_, ok2 _ (List.mem_range.mpr (lt 0 (by omega))) _ (List.mem_range.mpr (lt 1 (by omega)))⟩
    match i, hi with
    | 0, _ => rfl
    | 1, _ => rfl
  · refine ⟨[rnk ks 0, rnk ks 1, rnk ks 2], main _ fun i hi => ?_, ok3 _ (List.mem_range.mpr (lt 0 (by omega))) _ (List.mem_range.mpr (lt 1 (by omega))) _ (List.mem_range.mpr (lt 2 (by omega)))⟩
    match i, hi with
    | 0, _ => rfl
    | 1, _ => rfl
    | 2, _ => rfl
  · refine ⟨[rnk ks 0, rnk ks 1, rnk ks 2, rnk ks 3], main _ fun i hi => ?_, ok4 _ (List.mem_range.mpr (lt 0 (by omega))) _ (List.mem_range.mpr (lt 1 (by omega))) _ (List.mem_range.mpr (lt 2 (by omega))) _ (List.mem_range.mpr (lt 3 (by omega)))⟩
    match i, hi with
    | 0, _ => rfl
    | 1, _ => rfl
    | 2, _ => rfl
    | 3, _ => rfl
theorem pick_get {cs : List Cl} {p : List Nat} {i a : Nat} (e : p[i]? = some a) : (pick cs p)[i]? = some (cs.getD a (0, 0)) := by unfold pick; rw [List.getElem?_map, e]; rfl
theorem pick_len {cs : List Cl} {p : List Nat} : (pick cs p).length = p.length := by unfold pick; rw [List.length_map]
theorem Cs.pick {b : Wd} {cs : List Cl} {T : Nat → Nat → Int} (ct : Cs b cs T) {p : List Nat} (g : ∀ a ∈ p, a < cs.length) (hp : p.length < 100) : Cs b (pick cs p) (via T p) := by
  refine ⟨fun i j c d e e' => ?_, by rw [pick_len]; exact hp⟩
  have hi := (List.getElem?_eq_some_iff.mp e).1
  have hj := (List.getElem?_eq_some_iff.mp e').1
  rw [pick_len] at hi hj
  have gi := g _ (List.getElem_mem hi)
  have gj := g _ (List.getElem_mem hj)
  rw [pick_get (List.getElem?_eq_getElem hi)] at e
  rw [pick_get (List.getElem?_eq_getElem hj)] at e'
  have ei : cs[p[i]]? = some c := by rw [← e, List.getD_eq_getElem?_getD, List.getElem?_eq_getElem gi]; rfl
  have ej : cs[p[j]]? = some d := by rw [← e', List.getD_eq_getElem?_getD, List.getElem?_eq_getElem gj]; rfl
  have := ct.t _ _ c d ei ej
  unfold via
  rw [List.getD_eq_getElem?_getD, List.getElem?_eq_getElem hi, List.getD_eq_getElem?_getD, List.getElem?_eq_getElem hj]
  exact this
theorem pick_pick {cs : List Cl} {p q : List Nat} (g : ∀ a ∈ q, a < p.length) : pick (pick cs p) q = pick cs (thr p q) := by
  show q.map _ = (thr p q).map _
  unfold thr
  rw [List.map_map]
  refine List.map_congr_left fun i hi => ?_
  have h := g i hi
  rw [List.getD_eq_getElem?_getD, pick_get (List.getElem?_eq_getElem h)]
  show cs.getD p[i] (0, 0) = cs.getD (p.getD i 0) (0, 0)
  rw [List.getD_eq_getElem?_getD (l := p), List.getElem?_eq_getElem h]; rfl
theorem pick_range (cs : List Cl) : pick cs (List.range cs.length) = cs := by
  apply List.ext_getElem?
  intro i
  by_cases h : i < cs.length
  · rw [pick_get (by rw [List.getElem?_range h]), List.getElem?_eq_getElem h, List.getD_eq_getElem?_getD, List.getElem?_eq_getElem h]; rfl
  · rw [List.getElem?_eq_none (by rw [pick_len, List.length_range]; omega), List.getElem?_eq_none (by omega)]
section
variable {σ : H} {s b : Wd} {n : Nat} {Q : AV → H → Prop} {B : Bool → Prop} {o : Option AO} {m : Nat} {cs : List Cl} {T : Nat → Nat → Int} {u : Bool} {K : Fl → List AV → H → Prop}
noncomputable def lwR : S := match bd32 with
  | .asg _ _ (.asg _ _ (.asg _ _ (.asg _ _ (.asg _ _ (.for _ _ _ (.frz _ r)))))) => r
  | r => r
noncomputable def forB : S → E × S × S
  | .for _ e b r => (e, b, r)
  | r => (.no, r, r)
theorem wrapI {i : Nat} (hi : i < cs.length) : ∃ c ∈ cs, getI (cs.map pairD) (((0 : Int) + (i : Int)) - 1) = some (pairD c) := by
  cases i with
  | zero =>
    refine ⟨cs[cs.length - 1], List.getElem_mem _, ?_⟩
    unfold getI
    rw [if_neg (by omega), if_pos (by rw [List.length_map]; omega), List.length_map, show ((0 : Int) + ((0 : Nat) : Int) - 1 + (cs.length : Int)).toNat = cs.length - 1 by omega, List.getElem?_map, List.getElem?_eq_getElem (by omega)]; rfl
  | succ i =>
    refine ⟨cs[i], List.getElem_mem _, ?_⟩
    rw [show (0 : Int) + ((i + 1 : Nat) : Int) - 1 = (i : Int) by omega]
    exact getI_nat (by rw [List.getElem?_map, List.getElem?_eq_getElem (by omega)]; rfl)
theorem btw_loop {l0 l1 l4 l6 l8 l9 la lb lc ld : AV} (he : ∀ c ∈ cs, ∃ k, El b c k) (hl : cs.length ≤ 4) : ∀ (r j : Nat) (σ : H) (s : Wd) (l7 : AV), j + r = cs.length → Wk o σ s → Bs b s →
    (∀ σ' s' l7, Wk o σ' s' → Bs b s' → s'.h = s.h → K .next [l0, l1, arA, stA, l4, .d (.list (cs.map pairD)), l6, l7, l8, l9, la, lb, lc, ld] σ') →
    forA (fun x l σ k => ex tb (CF (n + 9)) [16] (forB lwR).2.1 (l.set 7 x) σ k) ((List.range' j r).map fun (i : Nat) => iA ((0 : Int) + (i : Int))) [l0, l1, arA, stA, l4, .d (.list (cs.map pairD)), l6, l7, l8, l9, la, lb, lc, ld] σ K
  | 0, j, σ, s, l7, hj, h, hb, q => q σ s l7 h hb rfl
  | r + 1, j, σ, s, l7, hj, h, hb, q => by
    have hjl : j < cs.length := by omega
    obtain ⟨c, hc, e1⟩ := wrapI hjl
    obtain ⟨k, ek⟩ := he c hc
    obtain ⟨k', ek'⟩ := he _ (List.getElem_mem hjl)
    have g2 : getI (cs.map pairD) ((0 : Int) + (j : Int)) = some (pairD cs[j]) := by rw [Int.zero_add]; exact getI_nat (by rw [List.getElem?_map, List.getElem?_eq_getElem hjl]; rfl)
    refine (sbt_ (subl_ (by rw [List.length_map]; omega) e1 ?_))
    refine subl_ (by rw [List.length_map]; omega) g2 ?_
    refine between_ (n := n + 1) h hb.r hb.x ek ek' fun σ' v h' => ?_
    exact btw_loop he hl r (j + 1) σ' _ _ (by omega) h' ⟨⟨hb.x.h, hb.x.t, hb.x.f⟩, hb.l, .inr ⟨_, _, _, rfl⟩⟩ q
end
end Mine
end
section
set_option maxRecDepth 100000
open PySem PySem.W PyProof.Rows
namespace Mine
open PySem
theorem okl_lay : ∀ l : List Cl, PyData.canLayAll0 (l.map pairD) = true
  | [] => rfl
  | c :: l => by
    show (PyData.canLay0 (pairD c) && PyData.canLayAll0 (l.map pairD)) = true
    rw [okl_lay l]; rfl
theorem okl_dep : ∀ l : List Cl, PyData.depthAll (l.map pairD) ≤ 5
  | [] => by show 0 ≤ 5; decide
  | c :: l => by
    show max (PyData.depth (pairD c)) (PyData.depthAll (l.map pairD)) ≤ 5
    have := okl_dep l
    have h : PyData.depth (pairD c) ≤ 5 := by show PyData.depth (.tuple [.int c.1, .int c.2]) ≤ 5; simp [PyData.depth, PyData.depthAll]
    omega
theorem ok_l (l : List Cl) : eqOk (.list (l.map pairD)) := ⟨okl_lay l, by show PyData.depthAll (l.map pairD) + 1 ≤ 60; have := okl_dep l; omega⟩
theorem eqv_l : ∀ a b : List Cl, PyData.eqvAll (a.map pairD) (b.map pairD) = decide (a = b)
  | [], [] => rfl
  | [], _ :: _ => rfl
  | _ :: _, [] => rfl
  | x :: a, y :: b => by
    show (PyData.eqv (pairD x) (pairD y) && PyData.eqvAll (a.map pairD) (b.map pairD)) = _
    rw [eqv_l a b, eqv_pair, ← Bool.decide_and]
    exact decide_eq_decide.mpr (by rw [List.cons.injEq])
section
variable {σ : H} {s b : Wd} {n : Nat} {Q : AV → Prop} {R : AV → H → Prop} {B : Bool → Prop} {a c : List Cl}
theorem mkl0_ {k : Nat} {xs : List PyData} (h : look σ k = some (.dat xs)) (hl : xs.length < 2 ^ 20) (q : R (.d (.list xs)) σ) : mklA 0 [.obj k] σ R := .zero (dat_in h) hl q
theorem srt_ (hl : a.length ≤ 4) (q : ∀ ys : List Cl, ys.Perm a → ys.Pairwise (fun a b => ¬ ltP b a) → Q (.d (.list (ys.map pairD)))) : srtA [.d (.list (a.map pairD))] Q := .mk hl q
theorem eql_ (q : B (decide (a = c))) : cmpA .Eq (.d (.list (a.map pairD))) (.d (.list (c.map pairD))) σ B := by
  refine .eq rfl rfl (ok_l _) (ok_l _) ?_
  show B (PyData.eqvAll (a.map pairD) (c.map pairD))
  rw [eqv_l]; exact q
theorem nel_ (q : B (!decide (a = c))) : cmpA .NotEq (.d (.list (a.map pairD))) (.d (.list (c.map pairD))) σ B := by
  refine .ne rfl rfl (ok_l _) (ok_l _) ?_
  show B (!PyData.eqvAll (a.map pairD) (c.map pairD))
  rw [eqv_l]; exact q
theorem slct_ {k h : Nat} {xs : List PyData} (e : look σ k = some (.dat xs)) (hl : xs.length < 2 ^ 20) (q : Q (.d (.list (xs.take h)))) : slcA (.obj k) .un (iA h) .un σ Q := .to (dat_in e) hl q
theorem slcr_ {xs : List PyData} (hl : xs.length < 2 ^ 20) (q : Q (.d (.list xs.reverse))) : slcA (.d (.list xs)) .un .un (iA (-1)) σ Q := .rev rfl hl q
theorem any_l (x : Cl) : ∀ l : List Cl, ((l.map pairD).any fun y => PyData.eqv y (pairD x)) = decide (x ∈ l)
  | [] => by simp
  | y :: l => by
    show (PyData.eqv (pairD y) (pairD x) || (l.map pairD).any _) = _
    rw [any_l x l, eqv_pair, ← Bool.decide_or]
    exact decide_eq_decide.mpr (by rw [List.mem_cons]; constructor <;> rintro (h | h) <;> simp [h])
theorem nil_ {x : Cl} (q : B (!decide (x ∈ a))) : cmpA .NotIn (cA x) (.d (.list (a.map pairD))) σ B := by
  refine .nmem (.lst (ok_pair _) (ok_l _) ?_)
  show B (!((a.map pairD).any fun y => PyData.eqv y (pairD x)))
  rw [any_l]; exact q
theorem ltP_ir (x : Cl) : ¬ ltP x x := by unfold ltP; omega
theorem ltP_tri {x y : Cl} (h : ¬ ltP x y) (g : ¬ ltP y x) : x = y := by
  unfold ltP at h g
  obtain ⟨x1, x2⟩ := x
  obtain ⟨y1, y2⟩ := y
  simp only [Prod.mk.injEq]
  simp only at h g
  omega
theorem sort_uniq {x y : List Cl} (h : x.Perm y) (hx : x.Pairwise (fun a b => ¬ ltP b a)) (hy : y.Pairwise (fun a b => ¬ ltP b a)) : x = y :=
  h.eq_of_pairwise (le := fun a b => ¬ ltP b a) (fun a b _ _ p q => ltP_tri q p) hx hy
end
end Mine
end
section
set_option maxRecDepth 100000
open PySem PySem.W PyProof.Rows
namespace Mine
open PySem
section
variable {σ : H} {s b : Wd} {n : Nat} {Q : AV → H → Prop} {B : Bool → Prop} {o : Option AO} {m : Nat} {cs fs : List Cl} {T : Nat → Nat → Int} {u : Bool} {K : Fl → List AV → H → Prop}
noncomputable def nbB (idx g : Nat) : S := .ite (.not (.call (.glo 31) 0 (.cons (.loc 2) (.cons (.glo g) (.cons (.sub (.loc idx) (.bin .Sub (.loc 7) (.con (.int 1)))) (.cons (.sub (.loc idx) (.loc 7)) .nil)))))) (.ret (.con (.bool false)) []) .done .done
theorem Bs.to {s' : Wd} (hb : Bs b s) {u v w : Cl} : Bs b { s with x := [u, v, w] } := ⟨⟨hb.x.h, hb.x.t, hb.x.f⟩, hb.l, .inr ⟨_, _, _, rfl⟩⟩
theorem rangeL_1 (m : Nat) : rangeL 1 (m : Int) 1 = (List.range (m - 1)).map fun (i : Nat) => (1 : Int) + (i : Int) := by
  unfold rangeL
  rw [if_pos rfl, show ((m : Int) - 1).toNat = m - 1 by omega]
noncomputable def Nb (b : Wd) (p : Nat) (fs : List Cl) : Prop := ∀ i, i + 1 < fs.length → ∃ c d k k', fs[i]? = some c ∧ fs[i + 1]? = some d ∧ El b c k ∧ El b d k' ∧ pv p (lx k k') = true
theorem nb9 {l0 l1 l4 l5 l6 l8 la lb lc ld : AV} (hn : Nb b 20 fs) (hl : fs.length < 100) : ∀ (r j : Nat) (σ : H) (s : Wd) (l7 : AV), j + r + 1 = fs.length → Wk o σ s → Bs b s →
    (∀ σ' s' l7, Wk o σ' s' → Bs b s' → s'.h = s.h → K .next [l0, l1, arA, stA, l4, l5, l6, l7, l8, .d (.list (fs.map pairD)), la, lb, lc, ld] σ') →
    forA (fun x l σ k => ex tb (CF (n + 9)) [16] (nbB 9 35) (l.set 7 x) σ k) ((List.range' j r).map fun (i : Nat) => iA ((1 : Int) + (i : Int))) [l0, l1, arA, stA, l4, l5, l6, l7, l8, .d (.list (fs.map pairD)), la, lb, lc, ld] σ K
  | 0, j, σ, s, l7, hj, h, hb, q => q σ s l7 h hb rfl
  | r + 1, j, σ, s, l7, hj, h, hb, q => by
    obtain ⟨c, d, k, k', e1, e2, e3, e4, e5⟩ := hn j (by omega)
    have g1 : getI (fs.map pairD) ((1 : Int) + (j : Int) - 1) = some (pairD c) := by rw [show (1 : Int) + (j : Int) - 1 = (j : Int) by omega]; exact getI_map e1
    have g2 : getI (fs.map pairD) ((1 : Int) + (j : Int)) = some (pairD d) := by rw [show (1 : Int) + (j : Int) = ((j + 1 : Nat) : Int) by omega]; exact getI_map e2
    refine (sbt_ (subl_ (by rw [List.length_map]; omega) g1 (subl_ (by rw [List.length_map]; omega) g2 ?_)))
    refine holds_ (n := n + 2) (p := 20) (by unfold predOf; decide) h hb.r hb.x e3 e4 fun σ' v h' => ?_
    rw [e5]
    exact nb9 hn hl r (j + 1) σ' _ _ (by omega) h' (hb.to (s' := s)) q
theorem nb10 {l0 l1 l4 l5 l6 l8 la lb lc ld : AV} (hn : Nb b 18 fs) (hl : fs.length < 100) : ∀ (r j : Nat) (σ : H) (s : Wd) (l7 : AV), j + r + 1 = fs.length → Wk o σ s → Bs b s →
    (∀ σ' s' l7, Wk o σ' s' → Bs b s' → s'.h = s.h → K .next [l0, l1, arA, stA, l4, l5, l6, l7, l8, la, .d (.list (fs.map pairD)), lb, lc, ld] σ') →
    forA (fun x l σ k => ex tb (CF (n + 9)) [16] (nbB 10 34) (l.set 7 x) σ k) ((List.range' j r).map fun (i : Nat) => iA ((1 : Int) + (i : Int))) [l0, l1, arA, stA, l4, l5, l6, l7, l8, la, .d (.list (fs.map pairD)), lb, lc, ld] σ K
  | 0, j, σ, s, l7, hj, h, hb, q => q σ s l7 h hb rfl
  | r + 1, j, σ, s, l7, hj, h, hb, q => by
    obtain ⟨c, d, k, k', e1, e2, e3, e4, e5⟩ := hn j (by omega)
    have g1 : getI (fs.map pairD) ((1 : Int) + (j : Int) - 1) = some (pairD c) := by rw [show (1 : Int) + (j : Int) - 1 = (j : Int) by omega]; exact getI_map e1
    have g2 : getI (fs.map pairD) ((1 : Int) + (j : Int)) = some (pairD d) := by rw [show (1 : Int) + (j : Int) = ((j + 1 : Nat) : Int) by omega]; exact getI_map e2
    refine (sbt_ (subl_ (by rw [List.length_map]; omega) g1 (subl_ (by rw [List.length_map]; omega) g2 ?_)))
    refine holds_ (n := n + 2) (p := 18) (by unfold predOf; decide) h hb.r hb.x e3 e4 fun σ' v h' => ?_
    rw [e5]
    exact nb10 hn hl r (j + 1) σ' _ _ (by omega) h' (hb.to (s' := s)) q
noncomputable def cmC : E := .cons (.bop false (.cons (.cmp .Eq (.loc 12) (.loc 11)) (.cons (.call (.glo 31) 0 (.cons (.loc 2) (.cons (.glo 33) (.cons (.loc 12) (.cons (.loc 11) .nil))))) .nil))) .nil
theorem cm_loop {l0 l1 l4 l5 l6 l7 l8 l9 la lc ld : AV} {c : Cl} {k : List Int} (ec : El b c k) : ∀ (xs acc : List Cl) (σ : H) (s : Wd), (∀ x ∈ xs, ∃ k, El b x k) → Wk o σ s → Bs b s →
    (∀ σ' s' acc', Wk o σ' s' → Bs b s' → s'.h = s.h → ((acc ≠ [] ∨ ∃ x ∈ xs, ∃ k', El b x k' ∧ lx k' k = 0) → acc' ≠ []) → Q (.d (.list (acc'.map pairD))) σ') →
    compA (fun x σ' kk => evb tb (CF (n + 9)) true cmC ([l0, l1, arA, stA, l4, l5, l6, l7, l8, l9, la, cA c, lc, ld].set 12 x) σ' fun t σ2 => match t with
      | true => ev tb (CF (n + 9)) (.loc 12) ([l0, l1, arA, stA, l4, l5, l6, l7, l8, l9, la, cA c, lc, ld].set 12 x) σ2 fun y σ3 => kk (some y) σ3
      | false => kk none σ2) (xs.map cA) (acc.map pairD) σ Q
  | [], acc, σ, s, hx, h, hb, q => q σ s acc h hb rfl fun e => e.elim id fun ⟨x, m, _⟩ => nomatch m
  | x :: xs, acc, σ, s, hx, h, hb, q => by
    have ea : acc.map pairD ++ [pairD x] = (acc ++ [x]).map pairD := by rw [List.map_append]; rfl
    obtain ⟨kx, ex⟩ := hx x (List.mem_cons_self ..)
    have hx' : ∀ y ∈ xs, ∃ k, El b y k := fun y hy => hx y (List.mem_cons_of_mem _ hy)
    refine eqc_ ?_
    by_cases hc : x = c
    · rw [decide_eq_true hc]
      show compA _ (xs.map cA) (acc.map pairD ++ [pairD x]) σ Q
      rw [ea]
      exact cm_loop ec xs (acc ++ [x]) σ s hx' h hb fun σ' s' acc' h1 h2 h3 h4 => q σ' s' acc' h1 h2 h3 fun _ => h4 (.inl (by simp))
    · rw [decide_eq_false hc]
      refine (holds_ (n := n + 2) (p := 16) (by unfold predOf; decide) h hb.r hb.x ex ec fun σ1 v h1 => ?_)
      by_cases h0 : lx kx k = 0
      · rw [show pv 16 (lx kx k) = true from decide_eq_true h0]
        show compA _ (xs.map cA) (acc.map pairD ++ [pairD x]) σ1 Q
        rw [ea]
        exact cm_loop ec xs (acc ++ [x]) σ1 _ hx' h1 (hb.to (s' := s)) fun σ' s' acc' h1 h2 h3 h4 => q σ' s' acc' h1 h2 h3 fun _ => h4 (.inl (by simp))
      · rw [show pv 16 (lx kx k) = false from decide_eq_false h0]
        refine cm_loop ec xs acc σ1 _ hx' h1 (hb.to (s' := s)) fun σ' s' acc' h1 h2 h3 h4 => q σ' s' acc' h1 h2 h3 fun hh => h4 ?_
        rcases hh with hh | ⟨y, hy, k', e, e0⟩
        · exact .inl hh
        · rcases List.mem_cons.mp hy with rfl | hy
          · rw [e.uniq ex] at e0; exact absurd e0 h0
          · exact .inr ⟨y, hy, k', e, e0⟩
noncomputable def clB : S := .ite (.cmp .Eq (.comp (.loc 12) (.loc 10) cmC 12) (.lst 0 .nil)) (.ret (.con (.bool false)) []) .done .done
theorem cl_loop {l0 l1 l4 l6 l7 l8 l9 lc ld : AV} (hs : ∀ x ∈ fs, ∃ k, El b x k) (hl : fs.length < 1000) : ∀ (ys : List Cl) (σ : H) (s : Wd) (lb : AV), (∀ y ∈ ys, ∃ k, El b y k ∧ ∃ x ∈ fs, ∃ k', El b x k' ∧ lx k' k = 0) → Wk o σ s → Bs b s →
    (∀ σ' s' lb, Wk o σ' s' → Bs b s' → s'.h = s.h → K .next [l0, l1, arA, stA, l4, .d (.list (cs.map pairD)), l6, l7, l8, l9, .d (.list (fs.map pairD)), lb, lc, ld] σ') →
    forA (fun x l σ k => ex tb (CF (n + 9)) [16] clB (l.set 11 x) σ k) (ys.map cA) [l0, l1, arA, stA, l4, .d (.list (cs.map pairD)), l6, l7, l8, l9, .d (.list (fs.map pairD)), lb, lc, ld] σ K
  | [], σ, s, lb, hy, h, hb, q => q σ s lb h hb rfl
  | y :: ys, σ, s, lb, hy, h, hb, q => by
    obtain ⟨k, ek, x, hx, k', ex', e0⟩ := hy y (List.mem_cons_self ..)
    refine ⟨by rw [List.length_map]; omega, ?_⟩
    rw [map_cA]
    refine cm_loop (n := n) ek fs [] σ s hs h hb fun σ' s' acc' h1 h2 h3 h4 => ?_
    refine eql_ (c := []) ?_
    rw [decide_eq_false (h4 (.inr ⟨x, hx, k', ex', e0⟩))]
    exact cl_loop hs hl ys σ' s' _ (fun y hy' => hy y (List.mem_cons_of_mem _ hy')) h1 h2 fun σ2 s2 lb g1 g2 g3 => q σ2 s2 lb g1 g2 (g3.trans h3)
theorem nc_loop {l0 l1 l4 l6 l7 l8 l9 la lb lc ld : AV} : ∀ (xs : List Cl) (σ : H), (∀ x ∈ xs, x ∈ cs) → Q (.d (.list [])) σ →
    compA (fun x σ' kk => evb tb (CF n) true (.cons (.cmp .NotIn (.loc 12) (.loc 5)) .nil) ([l0, l1, arA, stA, l4, .d (.list (cs.map pairD)), l6, l7, l8, l9, la, lb, lc, ld].set 12 x) σ' fun t σ2 => match t with
      | true => ev tb (CF n) (.loc 12) ([l0, l1, arA, stA, l4, .d (.list (cs.map pairD)), l6, l7, l8, l9, la, lb, lc, ld].set 12 x) σ2 fun y σ3 => kk (some y) σ3
      | false => kk none σ2) (xs.map cA) [] σ Q
  | [], σ, hx, q => q
  | x :: xs, σ, hx, q => by
    refine nil_ ?_
    rw [decide_eq_true (hx x (List.mem_cons_self ..))]
    exact nc_loop xs σ (fun y hy => hx y (List.mem_cons_of_mem _ hy)) q
end
end Mine
end
section
set_option maxRecDepth 100000
open PySem PySem.W PyProof.Rows
namespace Mine
open PySem
inductive Id2 (b : Wd) : List Cl → List Cl → Prop
  | nil : Id2 b [] []
  | cons {c d : Cl} {k k' : List Int} {cs ds : List Cl} (e : El b c k) (e' : El b d k') (h : lx k k' = 0) (t : Id2 b cs ds) : Id2 b (c :: cs) (d :: ds)
theorem Id2.len {b : Wd} {cs ds : List Cl} (h : Id2 b cs ds) : cs.length = ds.length := by
  induction h with
  | nil => rfl
  | cons _ _ _ _ ih => rw [List.length_cons, List.length_cons, ih]
section
variable {σ : H} {s b : Wd} {n : Nat} {Q : AV → H → Prop} {o : Option AO} {m : Nat} {cs ds : List Cl} {K : Fl → List AV → H → Prop} {sp : Int} {c1 c2 : AV}
theorem Ls.lt {h : List Cl} : ∀ {cs : List Cl} {p : Nat}, Ls h p cs → p < h.length
  | [_], p, e => (List.getElem?_eq_some_iff.mp e.1).1
  | _ :: _ :: _, p, e => (List.getElem?_eq_some_iff.mp e.1).1
theorem pb1 {p : Nat} : -(2 ^ 63) < (p : Int) := by omega
theorem pb2 {p n : Nat} (h : p < n) (h2 : n < 4000) : (p : Int) < 2 ^ 63 := by omega
theorem app1 {ws : List PyData} {x : PyData} {k n : Nat} (h : ws.length + k < 1000) (d : Nat.ble 1001 n = true) : (ws ++ [x]).length < n := by
  rw [List.length_append]
  exact Nat.lt_of_lt_of_le (Nat.succ_lt_succ (Nat.lt_of_le_of_lt (Nat.le_add_right _ _) h)) (Nat.le_of_ble_eq_true d)
theorem Lp.list {ad : Nat} {tx : Str} (w : Wo σ s) (z : Sz s) (hc : ClosedH σ) (xb : Ex b s) (hd : s.fus[0]? = some ((ad : Int), 2)) (ht : s.texts[ad]? = some tx) : ∀ (cs ds : List Cl) (p p' : Nat) (ws : List PyData) (met : List Int) (m : Nat), Ls s.h p cs → Ls s.h p' ds → Id2 b cs ds →
    ws.length + cs.length < 1000 → met.length + 2 * cs.length < 1000 → (∀ (met' : List Int) m', met'.length ≤ met.length + 2 * cs.length → m ≤ m' → Lp n K sp σ c1 c2 ws met' m') → Lp n K sp σ c1 c2 (ws ++ [pp (3, (p : Int)) (3, (p' : Int))]) met (m + 5 * cs.length) := by
  intro cs
  induction cs with
  | nil => intro ds p p' ws met m h; exact h.elim
  | cons c cs ih =>
    intro ds p p' ws met m h h' i hl hm q
    cases i with
    | cons e e' h0 t =>
      rename_i d k k' ds
      cases cs with
      | nil =>
        cases t
        rw [List.length_singleton] at hl hm q
        have b1 := h.lt
        have b2 := z.h
        refine Lp.cmp w z (by omega) (by omega) (.lis hd ht) (.lis hd ht) (.con (by decide) (by decide)) (.con (by decide) (by decide)) pb1 (pb2 b1 b2) (lx_self _) (fun _ => q _ _ (by omega) (by omega)) (.inr ⟨rfl, _, _, _, _, h.1, h'.1, h.2, h'.2, fun met' hm' => ?_⟩)
        refine Lp.el (m := m + 1) w z hc (app1 hl rfl) (mt4 hm' hm rfl) (e.mono xb) (e'.mono xb) (.inr h0) (fun _ met2 m2 h2 h3 => ?_) fun hh => absurd h0 hh
        obtain ⟨m2, rfl⟩ : ∃ j, m2 = j + 1 := suc_of h3
        exact Lp.eq (x' := (4, 0)) w z (by omega) (.con (by decide) (by decide)) (.con (by decide) (by decide)) (q _ _ (mt3 hm' h2) (Nat.le_of_succ_le_succ h3))
      | cons c2 cs =>
        cases ds with
        | nil => cases t
        | cons d2 ds =>
          rw [List.length_cons] at hl hm q
          have b1 := h.lt
          have b2 := z.h
          show Lp n K sp σ _ _ _ met (m + 5 * (c2 :: cs).length + 1 + 3 + 1)
          refine Lp.cmp w z (by omega) (by omega) (.lis hd ht) (.lis hd ht) (.con (by decide) (by decide)) (.con (by decide) (by decide)) pb1 (pb2 b1 b2) (lx_self _) (fun _ => q _ _ (Nat.le_add_right _ _) le4) (.inr ⟨rfl, _, _, _, _, h.1, h'.1, h.2.1, h'.2.1, fun met' hm' => ?_⟩)
          refine Lp.el (m := m + 5 * (c2 :: cs).length + 1) w z hc (app1 hl rfl) (mt4 hm' hm rfl) (e.mono xb) (e'.mono xb) (.inr h0) (fun _ met2 m2 h2 h3 => ?_) fun hh => absurd h0 hh
          obtain ⟨j, rfl⟩ : ∃ j, m2 = (m + j) + 5 * (c2 :: cs).length := exj h3
          exact ih (d2 :: ds) (p + 2) (p' + 2) ws met2 (m + j) h.2.2 h'.2.2 t (Nat.lt_of_succ_lt hl) (mt1 hm' h2 hm) fun met3 m3 h4 h5 => q _ _ (mt2 hm' h2 h4) (Nat.le_trans (Nat.le_add_right _ _) h5)
theorem holdsL_ {p p' : Nat} (h : Wk o σ s) (hb : Bs b s) (dt : Dot b) (l1 : Ls s.h p cs) (l2 : Ls s.h p' ds) (i : Id2 b cs ds) (hl : cs.length < 100) (q : ∀ σ', Q (.d (.bool true)) σ') : CF (n + 7) 29 [arA, .fn 33, cA (3, (p : Int)), cA (3, (p' : Int))] σ Q := by
  obtain ⟨a, tx, d1, d2⟩ := dt.d
  refine ⟨Nat.le_refl _, Nat.le_refl _, nofun, ⟨m_ar h.w rfl rfl, seta_ h hb.r fun σ1 v h1 => ?_⟩⟩
  refine ⟨Nat.le_refl _, Nat.le_refl _, nofun, ⟨Nat.le_refl _, Nat.le_refl _, nofun, (ar_st h1.w ?_)⟩⟩
  refine ⟨m_ar h1.w rfl rfl, arg_ (i := 1) h1.w h1.z.h (by show 3 < _; decide) rfl (.con (by decide) (by decide)) ?_⟩
  refine ⟨m_ar h1.w rfl rfl, arg_ (i := 2) h1.w h1.z.h (by show 3 < _; decide) rfl (.con (by decide) (by decide)) ?_⟩
  refine cmp_in (n := n) h1.w h1.z h1.hc (h1.fr _ (by decide)) (h1.fr _ (by decide)) (h1.fr _ (by decide)) (1 + 5 * cs.length) fun K kr kn => ?_
  refine Lp.list (b := b) h1.w h1.z h1.hc ⟨hb.x.h, hb.x.t, hb.x.f⟩ (hb.x.f _ _ d1) (hb.x.t _ _ d2) cs ds p p' [] [] 1 l1 l2 i (by show 0 + _ < _; omega) (by show 0 + _ < _; omega) fun met' m' _ hm => ?_
  obtain ⟨m', rfl⟩ : ∃ j, m' = j + 1 := ⟨m' - 1, by omega⟩
  exact Lp.nil fun l _ => kn l _ (eq_t rfl (q σ1))
end
end Mine
end
section
set_option maxRecDepth 100000
open PySem PySem.W PyProof.Rows
namespace Mine
open PySem
structure Fk (b : Wd) (cs : List Cl) (T : Nat → Nat → Int) : Prop where
  perm : (srtI T false cs.length).Perm (List.range cs.length)
  f2 : Nb b 20 (pick cs (srtI T false cs.length))
  f3 : Nb b 18 (pick cs (srtI T true cs.length))
  f4 : ∀ y ∈ cs, ∃ k, El b y k ∧ ∃ x ∈ pick cs (srtI T true cs.length), ∃ k', El b x k' ∧ lx k' k = 0
  f5 : ∀ x ∈ pick cs (srtI T true cs.length), x ∈ cs
  e1 : thr (srtI T false cs.length) (srtI (via T (srtI T false cs.length)) false (srtI T false cs.length).length) = srtI T false cs.length
  e2 : thr (srtI T false cs.length) (srtI (via T (srtI T false cs.length)) true (srtI T false cs.length).length) = srtI T true cs.length
  e3 : thr (srtI T true cs.length) (srtI (via T (srtI T true cs.length)) true (srtI T true cs.length).length) = srtI T true cs.length
  e4 : thr (srtI T true cs.length) (srtI (via T (srtI T true cs.length)) false (srtI T true cs.length).length) = srtI T true cs.length
  e5 : Id2 b (pick cs (thr (List.range cs.length).reverse (srtI (via T (List.range cs.length).reverse) true cs.length))) (pick cs (srtI T true cs.length))
theorem Id2.of {b : Wd} : ∀ {cs ds : List Cl}, cs.length = ds.length → (∀ (i : Nat) (c d : Cl), cs[i]? = some c → ds[i]? = some d → ∃ k k', El b c k ∧ El b d k' ∧ lx k k' = 0) → Id2 b cs ds
  | [], [], _, _ => .nil
  | c :: cs, d :: ds, h, g => by
    obtain ⟨k, k', e, e', z⟩ := g 0 c d rfl rfl
    exact .cons e e' z (Id2.of (by simpa using h) fun i c d h1 h2 => g (i + 1) c d h1 h2)
theorem pick_some {cs : List Cl} {p : List Nat} {i : Nat} {c : Cl} (g : ∀ a ∈ p, a < cs.length) (e : (pick cs p)[i]? = some c) : i < p.length ∧ p.getD i 0 < cs.length ∧ cs[p.getD i 0]? = some c := by
  have hi := (List.getElem?_eq_some_iff.mp e).1
  rw [pick_len] at hi
  have gi := g _ (List.getElem_mem hi)
  rw [pick_get (List.getElem?_eq_getElem hi)] at e
  have eg : p.getD i 0 = p[i] := by rw [List.getD_eq_getElem?_getD, List.getElem?_eq_getElem hi]; rfl
  refine ⟨hi, by rw [eg]; exact gi, ?_⟩
  rw [eg, ← e, List.getD_eq_getElem?_getD, List.getElem?_eq_getElem gi]; rfl
theorem srtI_lt' {T : Nat → Nat → Int} {u : Bool} {k : Nat} (hk : 1 ≤ k ∧ k ≤ 4) : (∀ a ∈ srtI T u k, a < k) ∧ (srtI T u k).length ≤ 4 := by
  have := srtI_lt (T := T) (u := u) (cs := List.replicate k (0, 0)) (by rw [List.length_replicate]; exact hk)
  rw [List.length_replicate] at this
  exact this
theorem Fk.of {b : Wd} {cs : List Cl} {T : Nat → Nat → Int} (ct : Cs b cs T) (hk : 1 ≤ cs.length ∧ cs.length ≤ 4) (ok : okI cs.length T = true) : Fk b cs T := by
  obtain ⟨lF, nF⟩ := srtI_lt (T := T) (u := false) hk
  obtain ⟨lS, nS⟩ := srtI_lt (T := T) (u := true) hk
  have al_ : ∀ {n : Nat} {f : Nat → Bool}, (List.range n).all f = true → ∀ i, i < n → f i = true := fun h i hi => List.all_eq_true.mp h i (List.mem_range.mpr hi)
  have o2 : ∀ i, i < cs.length → (srtI T false cs.length).count i = 1 := fun i hi => beq_iff_eq.mp (al_ (ar (al (al (al (al (al (al (al (al (al ok)))))))))) i hi)
  have o3 := al_ (ar (al (al (al (al (al (al (al (al ok)))))))))
  have o4 := al_ (ar (al (al (al (al (al (al (al ok))))))))
  have o5 := al_ (ar (al (al (al (al (al (al ok)))))))
  have o6 := dq (ar (al (al (al (al (al ok))))))
  have o7 := dq (ar (al (al (al (al ok)))))
  have o8 := dq (ar (al (al (al ok))))
  have o9 := dq (ar (al (al ok)))
  have oa := dq (ar (al ok))
  have ob := al_ (ar ok)
  have nb : ∀ (u : Bool) (p : Nat) (i : Nat), i + 1 < (pick cs (srtI T u cs.length)).length → ∃ c d k k', (pick cs (srtI T u cs.length))[i]? = some c ∧ (pick cs (srtI T u cs.length))[i + 1]? = some d ∧ El b c k ∧ El b d k' ∧ T ((srtI T u cs.length).getD i 0) ((srtI T u cs.length).getD (i + 1) 0) = lx k k' := by
    intro u p i hi
    obtain ⟨l, _⟩ := srtI_lt (T := T) (u := u) hk
    have h1 := List.getElem?_eq_getElem (Nat.lt_of_succ_lt hi)
    have h2 := List.getElem?_eq_getElem hi
    obtain ⟨_, _, c1⟩ := pick_some l h1
    obtain ⟨_, _, c2⟩ := pick_some l h2
    obtain ⟨k, k', e, e', t⟩ := ct.t _ _ _ _ c1 c2
    exact ⟨_, _, k, k', h1, h2, e, e', t⟩
  refine ⟨?_, ?_, ?_, ?_, ?_, o6, o7, o8, o9, ?_⟩
  · refine List.perm_iff_count.mpr fun a => ?_
    by_cases ha : a < cs.length
    · rw [o2 a ha, List.nodup_range.count, if_pos (List.mem_range.mpr ha)]
    · rw [List.count_eq_zero_of_not_mem fun m => ha (lF a m), List.count_eq_zero_of_not_mem fun m => ha (List.mem_range.mp m)]
  · intro i hi
    obtain ⟨c, d, k, k', h1, h2, e, e', t⟩ := nb false 20 i hi
    rw [pick_len] at hi
    exact ⟨c, d, k, k', h1, h2, e, e', decide_eq_true (by rw [← t]; exact dq (o3 i (Nat.lt_sub_of_add_lt hi)))⟩
  · intro i hi
    obtain ⟨c, d, k, k', h1, h2, e, e', t⟩ := nb true 18 i hi
    rw [pick_len] at hi
    exact ⟨c, d, k, k', h1, h2, e, e', decide_eq_true (by rw [← t]; exact dq (o4 i (Nat.lt_sub_of_add_lt hi)))⟩
  · intro y hy
    obtain ⟨j, hj, ej⟩ := List.getElem_of_mem hy
    obtain ⟨x, hx, ht⟩ := List.any_eq_true.mp (o5 j hj)
    have ht := dq ht
    have ex : cs[x]? = some (cs.getD x (0, 0)) := by rw [List.getD_eq_getElem?_getD, List.getElem?_eq_getElem (lS x hx)]; rfl
    have ey : cs[j]? = some y := by rw [List.getElem?_eq_getElem hj, ej]
    obtain ⟨k, k', e, e', t⟩ := ct.t x j _ _ ex ey
    exact ⟨k', e', cs.getD x (0, 0), List.mem_map.mpr ⟨x, hx, rfl⟩, k, e, by rw [← t]; exact ht⟩
  · intro x hx
    obtain ⟨a, ha, rfl⟩ := List.mem_map.mp hx
    rw [List.getD_eq_getElem?_getD, List.getElem?_eq_getElem (lS a ha)]
    exact List.getElem_mem _
  · have lD : ∀ a ∈ thr (List.range cs.length).reverse (srtI (via T (List.range cs.length).reverse) true cs.length), a < cs.length := by
      intro a ha
      obtain ⟨i, hi, rfl⟩ := List.mem_map.mp ha
      have := (srtI_lt' (T := via T (List.range cs.length).reverse) (u := true) hk).1 i hi
      have hl : i < (List.range cs.length).reverse.length := by rw [List.length_reverse, List.length_range]; exact this
      rw [List.getD_eq_getElem?_getD, List.getElem?_eq_getElem hl]
      exact List.mem_range.mp (List.mem_reverse.mp (List.getElem_mem hl))
    refine Id2.of (by rw [pick_len, pick_len]; exact oa) fun i c d h1 h2 => ?_
    obtain ⟨hi, _, c1⟩ := pick_some lD h1
    obtain ⟨_, _, c2⟩ := pick_some lS h2
    obtain ⟨k, k', e, e', t⟩ := ct.t _ _ _ _ c1 c2
    exact ⟨k, k', e, e', by rw [← t]; exact dq (ob i hi)⟩
end Mine
end
section
set_option maxRecDepth 100000
open PySem PySem.W PyProof.Rows
namespace Mine
open PySem
section
variable {σ : H} {s b : Wd} {n : Nat} {o : Option AO} {cs : List Cl}
theorem take_of {b s : Wd} (x : Ex b s) (l : b.h.length ≤ s.h.length) : s.h.take b.h.length = b.h := by
  apply List.ext_getElem?
  intro i
  by_cases h : i < b.h.length
  · rw [List.getElem?_take_of_lt h, x.h i _ (List.getElem?_eq_getElem h), List.getElem?_eq_getElem h]
  · rw [List.getElem?_eq_none (by rw [List.length_take]; omega), List.getElem?_eq_none (by omega)]
theorem Id2.left {b : Wd} {cs ds : List Cl} (h : Id2 b cs ds) : ∀ c ∈ cs, ∃ k, El b c k := by
  induction h with
  | nil => exact nofun
  | cons e _ _ _ ih => exact List.forall_mem_cons.mpr ⟨⟨_, e⟩, ih⟩
theorem lt4n {a n : Nat} (h : a ≤ 4) (d : Nat.ble 5 n = true) : a < n := Nat.lt_of_le_of_lt h (Nat.le_of_ble_eq_true d)
theorem small4 {a : Nat} (h : a ≤ 4) : small (a : Int) := by unfold small; omega
theorem lenm {xs : List Cl} (h : xs.length < 4000) : (xs.map pairD).length < 2 ^ 20 := by rw [List.length_map]; exact Nat.lt_trans h (by decide)
theorem lt20k {a b n : Nat} (e : b ≤ a + 20) (h : a < n) : b < n + 20 := Nat.lt_of_le_of_lt e (Nat.add_lt_add_right h 20)
set_option maxHeartbeats 4000000 in
theorem lawC {l0 l1 l4 l6 : AV} {K : Fl → List AV → H → Prop} (q0 : ∀ l σ, K (.ret (.d (.bool true))) l σ) (h : Wk o σ b) (hx : XR b) (dt : Dot b) (he : ∀ c ∈ cs, ∃ k, El b c k) (hk : 1 ≤ cs.length ∧ cs.length ≤ 4) (hh : b.h.length < 100) :
    ex tb (CF (n + 10)) [16] lwR [l0, l1, arA, stA, l4, .d (.list (cs.map pairD)), l6, .un, .un, .un, .un, .un, .un, .un] σ K := by
  obtain ⟨r, ct, ok⟩ := Cs.mk' he hk
  have fk := Fk.of ct hk ok
  generalize hT : Tr r = T at ct ok fk
  obtain ⟨lF, nF⟩ := srtI_lt (T := T) (u := false) hk
  obtain ⟨lS, nS⟩ := srtI_lt (T := T) (u := true) hk
  have eF := fk.perm.length_eq
  rw [List.length_range] at eF
  have hS0 : srtI T true cs.length ≠ [] := srtI_ne hk
  have hb0 : Bs b b := ⟨Ex.refl b, Nat.le_refl _, hx⟩
  have hm : (cs.map pairD).length = cs.length := List.length_map ..
  have hm4 : (cs.map pairD).length ≤ 4 := by rw [hm]; exact hk.2
  have lF1 : 1 ≤ (srtI T false cs.length).length := by rw [eF]; exact hk.1
  refine (lenl_ (lt4n hm4 rfl) (rng1_ (small4 hm4) ?_))
  rw [hm]
  refine ⟨by rw [rangeL_0, List.length_map, List.length_range]; exact lt4n hk.2 rfl, ?_⟩
  rw [rangeL_0, List.map_map, List.range_eq_range']
  refine btw_loop (n := n + 1) he hk.2 cs.length 0 σ b .un (Nat.zero_add _) h hb0 fun σ1 s1 l7 h1 b1 eh1 => ?_
  have lm : ∀ p : List Nat, ((pick cs p).map pairD).length = p.length := fun p => by rw [List.length_map, pick_len]
  have z1 : s1.h.length = b.h.length := by rw [eh1]
  have k1 : s1.h.length < 100 := by rw [z1]; exact hh
  refine (st_h h1.w (mkl0_ h1.w.h (lenm h1.z.h) ?_))
  refine (sorted_ (n := n + 1) (u := false) (.inr ⟨rfl, rfl⟩) h1 b1 dt ct hk (Nat.lt_trans k1 (by decide)) fun σ2 s2 h2 b2 e2 => ?_)
  have k2 : s2.h.length < 120 := lt20k e2 k1
  refine (sorted_ (n := n + 1) (u := true) (.inl ⟨rfl, rfl⟩) h2 b2 dt ct hk (Nat.lt_trans k2 (by decide)) fun σ3 s3 h3 b3 e3 => ?_)
  have k3 : s3.h.length < 140 := lt20k e3 k2
  refine isn_ nofun (isn_ nofun ?_)
  refine (srt_ (a := pick cs (srtI T false cs.length)) (by rw [pick_len]; exact nF) fun y1 p1 q1 => ?_)
  refine (srt_ (a := cs) hk.2 fun y2 p2 q2 => nel_ ?_)
  have pp1 : (pick cs (srtI T false cs.length)).Perm cs := by
    have := fk.perm.map fun i => cs.getD i (0, 0)
    rw [show (List.range cs.length).map (fun i => cs.getD i (0, 0)) = cs from pick_range cs] at this
    exact this
  rw [sort_uniq ((p1.trans pp1).trans p2.symm) q1 q2, decide_eq_true rfl]
  refine st_h h3.w (lenl_ (lenm h1.z.h) (slct_ h3.w.h (lenm h3.z.h) ?_))
  have et : (s3.h.map pairD).take (s1.h.map pairD).length = s1.h.map pairD := by
    rw [List.length_map, z1, ← List.map_take, take_of b3.x b3.l, eh1]
  rw [et]
  refine nel_ ?_
  rw [decide_eq_true rfl]
  refine (lenl_ (by rw [lm]; exact lt4n nF rfl) (rng2_ (small4 (a := 1) (by decide)) (by rw [lm]; exact small4 nF) ?_))
  rw [lm]
  refine ⟨by rw [rangeL_1, List.length_map, List.length_range]; exact Nat.lt_of_le_of_lt (Nat.sub_le _ _) (lt4n nF rfl), ?_⟩
  rw [rangeL_1, List.map_map, List.range_eq_range']
  refine nb9 (n := n + 1) fk.f2 (by rw [pick_len]; exact lt4n nF rfl) ((srtI T false cs.length).length - 1) 0 σ3 s3 _ (by rw [pick_len, Nat.zero_add]; exact Nat.sub_add_cancel lF1) h3 b3 fun σ4 s4 l74 h4 b4 eh4 => ?_
  have z4 : s4.h.length = s3.h.length := by rw [eh4]
  have lS1 : 0 < (srtI T true cs.length).length := List.length_pos_iff.mpr hS0
  refine (lenl_ (by rw [lm]; exact lt4n nS rfl) (rng2_ (small4 (a := 1) (by decide)) (by rw [lm]; exact small4 nS) ?_))
  rw [lm]
  refine ⟨by rw [rangeL_1, List.length_map, List.length_range]; exact Nat.lt_of_le_of_lt (Nat.sub_le _ _) (lt4n nS rfl), ?_⟩
  rw [rangeL_1, List.map_map, List.range_eq_range']
  refine nb10 (n := n + 1) fk.f3 (by rw [pick_len]; exact lt4n nS rfl) ((srtI T true cs.length).length - 1) 0 σ4 s4 _ (by rw [pick_len, Nat.zero_add]; exact Nat.sub_add_cancel lS1) h4 b4 fun σ5 s5 l75 h5 b5 eh5 => ?_
  have z5 : s5.h.length = s3.h.length := by rw [eh5, z4]
  refine ⟨lt4n hm4 rfl, ?_⟩
  rw [map_cA]
  refine cl_loop (n := n + 1) (pick_el ct lS) (by rw [pick_len]; exact lt4n nS rfl) cs σ5 s5 _ fk.f4 h5 b5 fun σ6 s6 lb6 h6 b6 eh6 => ?_
  have z6 : s6.h.length = s3.h.length := by rw [eh6, z5]
  have k6 : s6.h.length < 140 := by rw [z6]; exact k3
  refine ⟨by rw [lm]; exact lt4n nS rfl, ?_⟩
  rw [map_cA]
  refine nc_loop _ σ6 fk.f5 (nel_ (a := []) (c := []) ?_)
  have ctF := ct.pick lF (lt4n nF rfl)
  have ctS := ct.pick lS (lt4n nS rfl)
  have kF : 1 ≤ (pick cs (srtI T false cs.length)).length ∧ (pick cs (srtI T false cs.length)).length ≤ 4 := by rw [pick_len]; exact ⟨lF1, nF⟩
  have kS : 1 ≤ (pick cs (srtI T true cs.length)).length ∧ (pick cs (srtI T true cs.length)).length ≤ 4 := by rw [pick_len]; exact ⟨lS1, nS⟩
  have rF : ∀ u, pick (pick cs (srtI T false cs.length)) (srtI (via T (srtI T false cs.length)) u (pick cs (srtI T false cs.length)).length) = pick cs (thr (srtI T false cs.length) (srtI (via T (srtI T false cs.length)) u (srtI T false cs.length).length)) := fun u => by
    rw [pick_len]; exact pick_pick (srtI_lt' ⟨lF1, nF⟩).1
  have rS : ∀ u, pick (pick cs (srtI T true cs.length)) (srtI (via T (srtI T true cs.length)) u (pick cs (srtI T true cs.length)).length) = pick cs (thr (srtI T true cs.length) (srtI (via T (srtI T true cs.length)) u (srtI T true cs.length).length)) := fun u => by
    rw [pick_len]; exact pick_pick (srtI_lt' ⟨lS1, nS⟩).1
  refine (sorted_ (n := n + 1) (u := false) (.inr ⟨rfl, rfl⟩) h6 b6 dt ctF kF (Nat.lt_trans k6 (by decide)) fun σ7 s7 h7 b7 e7 => ?_)
  have k7 : s7.h.length < 160 := lt20k e7 k6
  rw [rF, fk.e1]
  refine nel_ ?_
  rw [decide_eq_true rfl]
  refine (sorted_ (n := n + 1) (u := true) (.inl ⟨rfl, rfl⟩) h7 b7 dt ctS kS (Nat.lt_trans k7 (by decide)) fun σ8 s8 h8 b8 e8 => ?_)
  have k8 : s8.h.length < 180 := lt20k e8 k7
  rw [rS, fk.e3]
  refine nel_ ?_
  rw [decide_eq_true rfl]
  refine (sorted_ (n := n + 1) (u := true) (.inl ⟨rfl, rfl⟩) h8 b8 dt ctF kF (Nat.lt_trans k8 (by decide)) fun σ9 s9 h9 b9 e9 => ?_)
  have k9 : s9.h.length < 200 := lt20k e9 k8
  rw [rF, fk.e2]
  refine nel_ ?_
  rw [decide_eq_true rfl]
  refine (sorted_ (n := n + 1) (u := false) (.inr ⟨rfl, rfl⟩) h9 b9 dt ctS kS (Nat.lt_trans k9 (by decide)) fun σa sa ha ba ea => ?_)
  have ka : sa.h.length < 220 := lt20k ea k9
  rw [rS, fk.e4]
  refine nel_ ?_
  rw [decide_eq_true rfl]
  have lR : ∀ a ∈ (List.range cs.length).reverse, a < cs.length := fun a m => List.mem_range.mp (List.mem_reverse.mp m)
  have ctR := ct.pick lR (by rw [List.length_reverse, List.length_range]; exact lt4n hk.2 rfl)
  have eR : (pick cs (List.range cs.length).reverse).length = cs.length := by rw [pick_len, List.length_reverse, List.length_range]
  have er : (cs.map pairD).reverse = (pick cs (List.range cs.length).reverse).map pairD := by
    conv => lhs; rw [← pick_range cs]
    unfold pick
    rw [← List.map_reverse, ← List.map_reverse]
  refine (slcr_ (lt4n hm4 rfl) ?_)
  rw [er]
  refine sorted_ (n := n + 1) (u := true) (.inl ⟨rfl, rfl⟩) ha ba dt ctR (by rw [eR]; exact hk) (Nat.lt_trans ka (by decide)) fun σb sb hb bb eb => ?_
  have kb : sb.h.length < 240 := lt20k eb ka
  rw [eR, pick_pick (fun a m => by rw [List.length_reverse, List.length_range]; exact (srtI_lt' hk).1 a m)]
  have i5 := fk.e5
  have fS0 : pick cs (srtI T true cs.length) ≠ [] := by unfold pick; intro e; exact hS0 (List.map_eq_nil_iff.mp e)
  have fD0 : pick cs (thr (List.range cs.length).reverse (srtI (via T (List.range cs.length).reverse) true cs.length)) ≠ [] := by
    intro e
    have := i5.len
    rw [e, pick_len] at this
    simp at this
    omega
  have iD := i5.len
  rw [pick_len (p := srtI T true cs.length)] at iD
  refine ⟨m_st hb.w rfl rfl, build_ hb fD0 (fun c m => by obtain ⟨k, e⟩ := i5.left c m; exact (e.mono bb.x).dr) (by rw [iD]; exact lt4n nS rfl) (Nat.lt_trans kb (by decide)) fun σc hc => ?_⟩
  have bc : Bs b { sb with h := sb.h ++ blk sb.h.length (pick cs (thr (List.range cs.length).reverse (srtI (via T (List.range cs.length).reverse) true cs.length))) } := ⟨⟨fun i c e => app_some (bb.x.h i c e), bb.x.t, bb.x.f⟩, by show _ ≤ (_ ++ _ : List Cl).length; rw [List.length_append]; exact Nat.le_add_right_of_le bb.l, bb.r⟩
  have iD4 : (pick cs (thr (List.range cs.length).reverse (srtI (via T (List.range cs.length).reverse) true cs.length))).length ≤ 4 := by rw [iD]; exact nS
  have lc : (sb.h ++ blk sb.h.length (pick cs (thr (List.range cs.length).reverse (srtI (via T (List.range cs.length).reverse) true cs.length)))).length ≤ sb.h.length + 8 := by rw [List.length_append, blk_len]; exact Nat.add_le_add_left (Nat.mul_le_mul_left 2 iD4) _
  refine ⟨m_st hc.w rfl rfl, build_ hc fS0 (fun c m => by obtain ⟨k, e⟩ := pick_el ct lS c m; exact (e.mono bc.x).dr) (by rw [pick_len]; exact lt4n nS rfl) (Nat.lt_of_le_of_lt lc (Nat.lt_of_lt_of_le (Nat.add_lt_add_right kb 8) (by decide))) fun σd hd => ?_⟩
  refine holdsL_ (n := n + 3) hd ⟨⟨fun i c e => app_some (bc.x.h i c e), bb.x.t, bb.x.f⟩, by show _ ≤ (_ ++ _ : List Cl).length; rw [List.length_append]; exact Nat.le_add_right_of_le bc.l, bb.r⟩ dt (Ls.mono (fun i c e => app_some e) (Ls_blk _ _ fD0)) (Ls_blk _ _ fS0) i5 (by first | (rw [iD]; exact lt4n nS rfl) | (rw [pick_len]; exact lt4n nS rfl)) fun _ => q0 _ _
end
end Mine
end
section
set_option maxRecDepth 100000
open PySem PySem.W PyProof.Rows
namespace Mine
open PySem
structure Sy (σ : H) (s : Wd) : Prop where
  sy : look σ 4 = some (.ns syN)
  te : look σ 5 = some (.dat (s.texts.map .str))
  an : look σ 6 = some (.dstr s.anum)
  fu : look σ 7 = some (.dat (s.fus.map pairD))
  fn : look σ 8 = some (.dtup s.fnum)
structure Si (N : Nat) (s : Wd) : Prop where
  a : ∀ t i, s.anum.lookup t = some i → ∃ n : Nat, i = n ∧ s.texts[n]? = some t
  f : ∀ l i, s.fnum.lookup l = some i → ∃ n a ar : Nat, i = n ∧ l = [(a : Int), (ar : Int)] ∧ s.fus[n]? = some ((a : Int), (ar : Int))
  lt : s.texts.length ≤ N
  la : s.anum.length ≤ N
  lf : s.fus.length ≤ N
  ln : s.fnum.length ≤ N
structure Rest (σ σ' : H) : Prop where
  r : ∀ k, k < 5 ∨ 8 < k → look σ' k = look σ k
  c : ClosedH σ → ClosedH σ'
  z : Z16 σ → Z16 σ'
structure Xs (s s' : Wd) : Prop where
  t : ∀ (i : Nat) (c : Str), s.texts[i]? = some c → s'.texts[i]? = some c
  f : ∀ (i : Nat) (c : Cl), s.fus[i]? = some c → s'.fus[i]? = some c
  h : s'.h = s.h
  x : s'.x = s.x
  n : s'.nums = s.nums
  p : s'.pos = s.pos
theorem Rest.refl (σ : H) : Rest σ σ := ⟨fun _ _ => rfl, id, id⟩
theorem Rest.trans {a b c : H} (x : Rest a b) (y : Rest b c) : Rest a c := ⟨fun k h => (y.r k h).trans (x.r k h), fun h => y.c (x.c h), fun h => y.z (x.z h)⟩
theorem Xs.refl (s : Wd) : Xs s s := ⟨fun _ _ e => e, fun _ _ e => e, rfl, rfl, rfl, rfl⟩
theorem Xs.trans {a b c : Wd} (x : Xs a b) (y : Xs b c) : Xs a c := ⟨fun i d e => y.t i d (x.t i d e), fun i d e => y.f i d (x.f i d e), y.h.trans x.h, y.x.trans x.x, y.n.trans x.n, y.p.trans x.p⟩
theorem Rest.put {σ : H} (k : Nat) (o : AO) (hk : 5 ≤ k ∧ k ≤ 8) (ho : o.refs = []) : Rest σ (Mine.put σ k o) := ⟨fun j h => put_ne (by omega), fun c => c.put k o (by rw [ho]; exact nofun), fun c => c.put k o (by rw [ho]; exact nofun)⟩
theorem lookup_insS {l : List (Str × Int)} {k t : Str} {v : Int} : (insS l k v).lookup t = if t = k then some v else l.lookup t := by
  induction l with
  | nil =>
    show (match t == k with | true => some v | false => none) = _
    by_cases h : t = k
    · subst h; simp
    · rw [if_neg h, show (t == k) = false from beq_eq_false_iff_ne.mpr h]; rfl
  | cons p r ih =>
    unfold insS
    by_cases h : p.1 = k
    · rw [if_pos h]
      obtain ⟨p1, p2⟩ := p
      subst h
      rw [List.lookup_cons, List.lookup_cons]
      by_cases g : t = p1
      · subst g; simp
      · rw [show (t == p1) = false from beq_eq_false_iff_ne.mpr g, if_neg g]
    · rw [if_neg h]
      obtain ⟨p1, p2⟩ := p
      rw [List.lookup_cons, List.lookup_cons, ih]
      by_cases g : t = p1
      · subst g; simp [h]
      · rw [show (t == p1) = false from beq_eq_false_iff_ne.mpr g]
theorem lookup_insI {l : List (List Int × Int)} {k t : List Int} {v : Int} : (insI l k v).lookup t = if t = k then some v else l.lookup t := by
  induction l with
  | nil =>
    show (match t == k with | true => some v | false => none) = _
    by_cases h : t = k
    · subst h; simp
    · rw [if_neg h, show (t == k) = false from beq_eq_false_iff_ne.mpr h]; rfl
  | cons p r ih =>
    unfold insI
    by_cases h : p.1 = k
    · rw [if_pos h]
      obtain ⟨p1, p2⟩ := p
      subst h
      rw [List.lookup_cons, List.lookup_cons]
      by_cases g : t = p1
      · subst g; simp
      · rw [show (t == p1) = false from beq_eq_false_iff_ne.mpr g, if_neg g]
    · rw [if_neg h]
      obtain ⟨p1, p2⟩ := p
      rw [List.lookup_cons, List.lookup_cons, ih]
      by_cases g : t = p1
      · subst g; simp [h]
      · rw [show (t == p1) = false from beq_eq_false_iff_ne.mpr g]
theorem insS_len {k : Str} {v : Int} : ∀ l : List (Str × Int), (insS l k v).length ≤ l.length + 1
  | [] => Nat.le_refl _
  | p :: r => by
    unfold insS
    split
    · rw [List.length_cons, List.length_cons]; omega
    · have := insS_len (k := k) (v := v) r
      rw [List.length_cons, List.length_cons]; omega
theorem insI_len {k : List Int} {v : Int} : ∀ l : List (List Int × Int), (insI l k v).length ≤ l.length + 1
  | [] => Nat.le_refl _
  | p :: r => by
    unfold insI
    split
    · rw [List.length_cons, List.length_cons]; omega
    · have := insI_len (k := k) (v := v) r
      rw [List.length_cons, List.length_cons]; omega
section
variable {σ : H} {s : Wd} {n N : Nat} {Q : AV → H → Prop} {R : AV → H → Prop} {t : Str}
theorem gets_ {k : Nat} {l : List (Str × Int)} {x : Str} {z : Int} (h : look σ k = some (.dstr l)) (q : R (iA ((l.lookup x).getD z)) σ) : bmA (.obj k) .get [.d (.str x), iA z] σ R := .gets h q
theorem gett_ {k : Nat} {l : List (List Int × Int)} {a b : Int} {z : Int} (h : look σ k = some (.dtup l)) (q : R (iA ((l.lookup [a, b]).getD z)) σ) : bmA (.obj k) .get [cA (a, b), iA z] σ R := .gett (ns := [a, b]) h rfl q
theorem asgd_ {k : Nat} {l : List (Str × Int)} {x : Str} {z : Int} {P : H → Prop} (h : look σ k = some (.dstr l)) (hl : l.length < 1000) (q : P (put σ k (.dstr (insS l x z)))) : asgsA (.obj k) (.d (.str x)) (iA z) σ P := .dstr h hl q
theorem asgt_ {k : Nat} {l : List (List Int × Int)} {a b : Int} {z : Int} {P : H → Prop} (h : look σ k = some (.dtup l)) (hl : l.length < 1000) (q : P (put σ k (.dtup (insI l [a, b] z)))) : asgsA (.obj k) (cA (a, b)) (iA z) σ P := .dtup (ns := [a, b]) h rfl hl q
theorem sy_a {a : Nat} {v : AV} {Q : AV → Prop} (h : look σ 4 = some (.ns syN)) (e : syN.lookup a = some v) (tt : tb.att 0 a = true) (u : v ≠ .un) (q : Q v) : attrA tb syA a σ Q := attr_ h e tt u q
theorem atom_ (S : Sy σ s) (I : Si N s) (hN : N < 900)
    (q : ∀ σ' s' (i : Nat), Sy σ' s' → Si (N + 1) s' → s'.texts[i]? = some t → Xs s s' → Rest σ σ' → s'.fus = s.fus → Q (iA i) σ') : CF (n + 1) 34 [syA, .d (.str t)] σ Q := by
  refine ⟨Nat.le_refl _, Nat.le_refl _, nofun, ?_⟩
  have i1 : Si (N + 1) s := ⟨I.a, I.f, by have := I.lt; omega, by have := I.la; omega, by have := I.lf; omega, by have := I.ln; omega⟩
  refine sy_a S.sy rfl rfl nofun ⟨gts_T S.an, gets_ S.an ?_⟩
  cases e : s.anum.lookup t with
  | some i =>
    obtain ⟨n, rfl, g⟩ := I.a t i e
    exact ge_t (by show (0 : Int) ≤ (n : Int); omega) (q σ s n S i1 g (Xs.refl s) (Rest.refl σ) rfl)
  | none =>
    have hl := I.lt
    have ha := I.la
    refine ge_f (by show ¬ (0 : Int) ≤ -1; decide) (sy_a S.sy rfl rfl nofun (len_ S.te (by rw [List.length_map]; omega) ?_))
    rw [List.length_map]
    refine sy_a S.sy rfl rfl nofun ⟨app_T S.te, app_ S.te (by rw [List.length_map]; omega) ?_⟩
    have e1 : s.texts.map PyData.str ++ [.str t] = (s.texts ++ [t]).map .str := by rw [List.map_append]; rfl
    rw [e1]
    refine sy_a ((put_ne (by decide)).trans S.sy) rfl rfl nofun (asgd_ ((put_ne (by decide)).trans S.an) (by omega) ?_)
    refine q _ { s with texts := s.texts ++ [t], anum := insS s.anum t s.texts.length } s.texts.length ⟨?_, ?_, ?_, ?_, ?_⟩ ⟨?_, I.f, ?_, ?_, by have := I.lf; show s.fus.length ≤ _; omega, by have := I.ln; show s.fnum.length ≤ _; omega⟩ ?_ ⟨fun i c e => ?_, fun _ _ e => e, rfl, rfl, rfl, rfl⟩ ((Rest.put 5 _ (by decide) rfl).trans (Rest.put 6 _ (by decide) rfl)) rfl
    · exact (put_ne (by decide)).trans ((put_ne (by decide)).trans S.sy)
    · exact (put_ne (by decide)).trans (put_at S.te)
    · exact put_at ((put_ne (by decide)).trans S.an)
    · exact (put_ne (by decide)).trans ((put_ne (by decide)).trans S.fu)
    · exact (put_ne (by decide)).trans ((put_ne (by decide)).trans S.fn)
    · intro u i g
      have g2 : (if u = t then some (s.texts.length : Int) else s.anum.lookup u) = some i := by rw [← lookup_insS]; exact g
      by_cases hu : u = t
      · rw [if_pos hu] at g2
        cases g2
        exact ⟨_, rfl, by rw [hu]; show (s.texts ++ [t])[_]? = _; rw [List.getElem?_append_right (Nat.le_refl _), Nat.sub_self]; rfl⟩
      · rw [if_neg hu] at g2
        obtain ⟨n, h1, h2⟩ := I.a u i g2
        exact ⟨n, h1, by show (s.texts ++ [t])[n]? = _; rw [List.getElem?_append_left (List.getElem?_eq_some_iff.mp h2).1]; exact h2⟩
    · show (s.texts ++ [t]).length ≤ _; rw [List.length_append]; show s.texts.length + 1 ≤ _; omega
    · show (insS s.anum t s.texts.length).length ≤ _; have := insS_len (k := t) (v := s.texts.length) s.anum; omega
    · show (s.texts ++ [t])[_]? = _; rw [List.getElem?_append_right (Nat.le_refl _), Nat.sub_self]; rfl
    · show (s.texts ++ [t])[i]? = _; rw [List.getElem?_append_left (List.getElem?_eq_some_iff.mp e).1]; exact e
theorem functor_ {a ar : Nat} (S : Sy σ s) (I : Si N s) (hN : N < 900)
    (q : ∀ σ' s' (i : Nat), Sy σ' s' → Si (N + 1) s' → s'.fus[i]? = some ((a : Int), (ar : Int)) → Xs s s' → Rest σ σ' → (s.fus = [] → i = 0) → Q (iA i) σ') : CF (n + 1) 36 [syA, iA a, iA ar] σ Q := by
  refine ⟨Nat.le_refl _, Nat.le_refl _, nofun, ?_⟩
  have i1 : Si (N + 1) s := ⟨I.a, I.f, by have := I.lt; omega, by have := I.la; omega, by have := I.lf; omega, by have := I.ln; omega⟩
  refine sy_a S.sy rfl rfl nofun ⟨gtt_T S.fn, gett_ (a := (a : Int)) (b := (ar : Int)) S.fn ?_⟩
  cases e : s.fnum.lookup [(a : Int), (ar : Int)] with
  | some i =>
    obtain ⟨n, a', ar', rfl, g0, g⟩ := I.f _ i e
    simp only [List.cons.injEq, and_true] at g0
    refine ge_t (by show (0 : Int) ≤ (n : Int); omega) (q σ s n S i1 (by rw [g, g0.1, g0.2]) (Xs.refl s) (Rest.refl σ) fun h0 => ?_)
    rw [h0] at g; simp at g
  | none =>
    have hl := I.lf
    have ha := I.ln
    refine ge_f (by show ¬ (0 : Int) ≤ -1; decide) (sy_a S.sy rfl rfl nofun (len_ S.fu (by rw [List.length_map]; omega) ?_))
    rw [List.length_map]
    refine sy_a S.sy rfl rfl nofun ⟨app_T S.fu, app_ (x := pairD ((a : Int), (ar : Int))) S.fu (by rw [List.length_map]; omega) ?_⟩
    have e1 : s.fus.map pairD ++ [pairD ((a : Int), (ar : Int))] = (s.fus ++ [((a : Int), (ar : Int))]).map pairD := by rw [List.map_append]; rfl
    rw [e1]
    refine sy_a ((put_ne (by decide)).trans S.sy) rfl rfl nofun (asgt_ (a := (a : Int)) (b := (ar : Int)) ((put_ne (by decide)).trans S.fn) (by omega) ?_)
    refine q _ { s with fus := s.fus ++ [((a : Int), (ar : Int))], fnum := insI s.fnum [(a : Int), (ar : Int)] s.fus.length } s.fus.length ⟨?_, ?_, ?_, ?_, ?_⟩ ⟨I.a, ?_, by have := I.lt; show s.texts.length ≤ _; omega, by have := I.la; show s.anum.length ≤ _; omega, ?_, ?_⟩ ?_ ⟨fun _ _ e => e, fun i c e => ?_, rfl, rfl, rfl, rfl⟩ ((Rest.put 7 _ (by decide) rfl).trans (Rest.put 8 _ (by decide) rfl)) (fun h0 => by rw [h0]; rfl)
    · exact (put_ne (by decide)).trans ((put_ne (by decide)).trans S.sy)
    · exact (put_ne (by decide)).trans ((put_ne (by decide)).trans S.te)
    · exact (put_ne (by decide)).trans ((put_ne (by decide)).trans S.an)
    · exact (put_ne (by decide)).trans (put_at S.fu)
    · exact put_at ((put_ne (by decide)).trans S.fn)
    · intro u i g
      have g2 : (if u = [(a : Int), (ar : Int)] then some (s.fus.length : Int) else s.fnum.lookup u) = some i := by rw [← lookup_insI]; exact g
      by_cases hu : u = [(a : Int), (ar : Int)]
      · rw [if_pos hu] at g2
        cases g2
        exact ⟨_, a, ar, rfl, hu, by show (s.fus ++ [_])[_]? = _; rw [List.getElem?_append_right (Nat.le_refl _), Nat.sub_self]; rfl⟩
      · rw [if_neg hu] at g2
        obtain ⟨n, a', ar', h1, h2, h3⟩ := I.f u i g2
        exact ⟨n, a', ar', h1, h2, by show (s.fus ++ [_])[n]? = _; rw [List.getElem?_append_left (List.getElem?_eq_some_iff.mp h3).1]; exact h3⟩
    · show (s.fus ++ [_]).length ≤ _; rw [List.length_append]; show s.fus.length + 1 ≤ _; omega
    · show (insI s.fnum [(a : Int), (ar : Int)] s.fus.length).length ≤ _; have := insI_len (k := [(a : Int), (ar : Int)]) (v := s.fus.length) s.fnum; omega
    · show (s.fus ++ [_])[_]? = _; rw [List.getElem?_append_right (Nat.le_refl _), Nat.sub_self]; rfl
    · show (s.fus ++ [_])[i]? = _; rw [List.getElem?_append_left (List.getElem?_eq_some_iff.mp e).1]; exact e
theorem func_ {ar : Nat} (S : Sy σ s) (I : Si N s) (hN : N < 800)
    (q : ∀ σ' s' (i a : Nat), Sy σ' s' → Si (N + 2) s' → s'.fus[i]? = some ((a : Int), (ar : Int)) → s'.texts[a]? = some t → Xs s s' → Rest σ σ' → (s.fus = [] → i = 0) → Q (iA i) σ') : CF (n + 2) 37 [syA, .d (.str t), iA ar] σ Q := by
  refine ⟨Nat.le_refl _, Nat.le_refl _, nofun, ⟨meth_ S.sy rfl rfl, ⟨meth_ S.sy rfl rfl, atom_ S I (by omega) fun σ1 s1 a S1 I1 e1 x1 r1 f1 => ?_⟩⟩⟩
  refine functor_ S1 I1 (by omega) fun σ2 s2 i S2 I2 e2 x2 r2 h0 => ?_
  exact q σ2 s2 i a S2 I2 e2 (x2.t _ _ e1) (x1.trans x2) (r1.trans r2) fun h => h0 (f1.trans h)
end
end Mine
end
section
set_option maxRecDepth 100000
open PySem PySem.W PyProof.Rows
namespace Mine
open PySem
noncomputable def isStrD : PyData → Bool
  | .str _ => true
  | _ => false
noncomputable def isNatD : PyData → Bool
  | .int i => decide (0 ≤ i)
  | _ => false
noncomputable def isRowL : List PyData → Bool
  | [] => false
  | a :: r => isStrD a && (match r with
    | [] => false
    | b :: r => isNatD b && r.isEmpty)
noncomputable def isRowD : PyData → Bool
  | .tuple l => isRowL l
  | _ => false
theorem isStrD_ {d : PyData} (h : isStrD d = true) : ∃ t, d = .str t := by
  cases d <;> first | exact ft h | exact ⟨_, rfl⟩
theorem isNatD_ {d : PyData} (h : isNatD d = true) : ∃ n : Nat, d = .int (n : Int) := by
  cases d <;> first | exact ft h | exact ⟨_, by rw [Int.toNat_of_nonneg (dq h)]⟩
theorem isRowD_ {d : PyData} (h : isRowD d = true) : ∃ t, ∃ n : Nat, d = .tuple [.str t, .int (n : Int)] := by
  cases d with
  | tuple l =>
    cases l with
    | nil => exact ft h
    | cons a r =>
      cases r with
      | nil => exact ft (ar h)
      | cons b r =>
        have h : (isStrD a && (isNatD b && r.isEmpty)) = true := h
        obtain ⟨t, rfl⟩ := isStrD_ (al h)
        obtain ⟨n, rfl⟩ := isNatD_ (al (ar h))
        cases r with
        | nil => exact ⟨t, n, rfl⟩
        | cons => exact ft (ar (ar h))
  | _ => exact ft h
section
variable {σ : H} {s : Wd} {n N : Nat} {Q : AV → H → Prop} {K : Fl → List AV → H → Prop} {t : Str}
theorem Si.mono {M : Nat} (I : Si N s) (h : N ≤ M) : Si M s := ⟨I.a, I.f, Nat.le_trans I.lt h, Nat.le_trans I.la h, Nat.le_trans I.lf h, Nat.le_trans I.ln h⟩
theorem at_loop {l2 : AV} : ∀ (ds : List PyData) (N : Nat) (σ : H) (s : Wd) (l1 : AV), ds.all isStrD = true → Sy σ s → Si N s → N + ds.length < 800 → (∀ σ' s' l1, Sy σ' s' → Si (N + ds.length) s' → Xs s s' → Rest σ σ' → s'.fus = s.fus → K .next [syA, l1, l2] σ') →
    forA (fun x l σ k => ex tb (CF (n + 1)) [] (.exp (.meth (.loc 0) 18 (.cons (.loc 1) .nil)) .done) (l.set 1 x) σ k) (ds.map AV.d) [syA, l1, l2] σ K
  | [], N, σ, s, l1, hd, S, I, hN, q => q σ s l1 S I (Xs.refl s) (Rest.refl σ) rfl
  | d :: ds, N, σ, s, l1, hd, S, I, hN, q => by
    rw [List.all_cons, Bool.and_eq_true] at hd
    rw [List.length_cons] at hN q
    obtain ⟨t, rfl⟩ := isStrD_ hd.1
    refine ⟨meth_ S.sy rfl rfl, atom_ S I (by omega) fun σ1 s1 i S1 I1 e1 x1 r1 f1 => ?_⟩
    exact at_loop ds (N + 1) σ1 s1 _ hd.2 S1 I1 (by omega) fun σ2 s2 l1 S2 I2 x2 r2 f2 => q σ2 s2 l1 S2 (by rw [show N + (ds.length + 1) = N + 1 + ds.length by omega]; exact I2) (x1.trans x2) (r1.trans r2) (f2.trans f1)
noncomputable def fuB : S := .exp (.meth (.loc 0) 19 (.cons (.sub (.loc 2) (.con (.int 0))) (.cons (.sub (.loc 2) (.con (.int 1))) .nil))) .done
theorem row_0 {t : Str} {m : Int} {Q : AV → Prop} (q : Q (.d (.str t))) : subA (.d (.tuple [.str t, .int m])) (iA 0) σ Q := .tup (by show 2 < 2 ^ 20; decide) rfl q
theorem row_1 {t : Str} {m : Int} {Q : AV → Prop} (q : Q (iA m)) : subA (.d (.tuple [.str t, .int m])) (iA 1) σ Q := .tup (by show 2 < 2 ^ 20; decide) rfl q
theorem fu_loop {l1 : AV} : ∀ (ds : List PyData) (N : Nat) (σ : H) (s : Wd) (l2 : AV), ds.all isRowD = true → Sy σ s → Si N s → N + 2 * ds.length < 780 → (∀ σ' s' l2, Sy σ' s' → Si (N + 2 * ds.length) s' → Xs s s' → Rest σ σ' → K .next [syA, l1, l2] σ') →
    forA (fun x l σ k => ex tb (CF (n + 2)) [] fuB (l.set 2 x) σ k) (ds.map AV.d) [syA, l1, l2] σ K
  | [], N, σ, s, l2, hd, S, I, hN, q => q σ s l2 S I (Xs.refl s) (Rest.refl σ)
  | d :: ds, N, σ, s, l2, hd, S, I, hN, q => by
    rw [List.all_cons, Bool.and_eq_true] at hd
    rw [List.length_cons] at hN q
    obtain ⟨t, m, rfl⟩ := isRowD_ hd.1
    refine ⟨meth_ S.sy rfl rfl, row_0 (row_1 (func_ S I (by omega) fun σ1 s1 i a S1 I1 e1 e2 x1 r1 f1 => ?_))⟩
    exact fu_loop ds (N + 2) σ1 s1 _ hd.2 S1 I1 (by omega) fun σ2 s2 l1 S2 I2 x2 r2 => q σ2 s2 l1 S2 (by rw [show N + 2 * (ds.length + 1) = N + 2 + 2 * ds.length by omega]; exact I2) (x1.trans x2) (r1.trans r2)
theorem Dot.texts {b : Wd} (d : Dot b) : ∃ tx, b.texts[0]? = some tx := by
  obtain ⟨a, tx, _, h⟩ := d.d
  have := (List.getElem?_eq_some_iff.mp h).1
  exact ⟨_, List.getElem?_eq_getElem (by omega)⟩
end
end Mine
end
section
set_option maxRecDepth 100000
open PySem PySem.W PyProof.Rows
namespace Mine
open PySem
inductive Lit : E → List PyData → Prop
  | nil : Lit .nil []
  | str {t r xs} : Lit r xs → Lit (.cons (.con (.str t)) r) (.str t :: xs)
  | row {t i r xs} : Lit r xs → Lit (.cons (.tup (.cons (.con (.str t)) (.cons (.con (.int i)) .nil))) r) (.tuple [.str t, .int i] :: xs)
noncomputable def retE : S → E
  | .ret (.tup xs) _ => xs
  | _ => .nil
theorem unDs_map : ∀ xs : List PyData, unDs (xs.map AV.d) = some xs
  | [] => rfl
  | x :: xs => by show (match unDs (xs.map AV.d) with | some ys => some (x :: ys) | none => none) = _; rw [unDs_map xs]
theorem atE : ∃ xs, Lit (retE bd0) xs ∧ xs.all isStrD = true ∧ xs.length = 29 := ⟨_, by repeat' constructor, rfl, rfl⟩
theorem fuE : ∃ t xs, Lit (retE bd1) (.tuple [.str t, .int 2] :: xs) ∧ xs.all isRowD = true ∧ xs.length = 31 := ⟨_, _, by repeat' constructor, rfl, rfl⟩
section
variable {σ : H} {s : Wd} {n N : Nat} {Q : AV → H → Prop} {C : CallT} {l : List AV}
theorem tup_ {xs : List PyData} {R : AV → Prop} (q : R (.d (.tuple xs))) : tupA (xs.map AV.d) R := by unfold tupA; rw [unDs_map]; exact q
theorem Lit.ev {e : E} {xs : List PyData} (h : Lit e xs) : ∀ R : List AV → H → Prop, R (xs.map AV.d) σ → evs tb C e l σ R := by
  induction h with
  | nil => exact fun R q => q
  | str h ih => exact fun R q => ih _ q
  | @row t i r xs h ih => exact fun R q => ih (fun vs σ => R (.d (.tuple [.str t, .int i]) :: vs) σ) q
theorem fat_ {xs : List PyData} (h : Lit (retE bd0) xs) (q : Q (.d (.tuple xs)) σ) : CF (n + 1) 0 [] σ Q :=
  ⟨Nat.le_refl _, Nat.le_refl _, nofun, h.ev (C := CF n) (l := []) (fun vs σ => tupA vs fun r => Q r σ) (tup_ q)⟩
theorem ffu_ {xs : List PyData} (h : Lit (retE bd1) xs) (q : Q (.d (.tuple xs)) σ) : CF (n + 1) 1 [] σ Q :=
  ⟨Nat.le_refl _, Nat.le_refl _, nofun, h.ev (C := CF n) (l := []) (fun vs σ => tupA vs fun r => Q r σ) (tup_ q)⟩
end
end Mine
end
section
set_option maxRecDepth 100000
open PySem PySem.W PyProof.Rows
namespace Mine
open PySem
noncomputable def CI (τ σ : H) : Prop := ∀ j o, look σ j = some o → ∀ r ∈ o.refs, (look τ r).isSome = true
theorem CI.cons {τ σ : H} {k : Nat} {o : AO} (c : CI τ σ) (h : ∀ r ∈ o.refs, (look τ r).isSome = true) : CI τ ((k, o) :: σ) := by
  intro j x e
  unfold look at e
  by_cases q : k = j
  · rw [if_pos q] at e; cases e; exact h
  · rw [if_neg q] at e; exact c j x e
theorem isS_cons {σ : H} {k r : Nat} {o : AO} (h : (look σ r).isSome = true) : (look ((k, o) :: σ) r).isSome = true := by
  unfold look
  split
  · rfl
  · exact h
theorem CI.mono {τ σ : H} {k : Nat} {o : AO} (c : CI τ σ) : CI ((k, o) :: τ) σ := fun j x e r m => isS_cons (c j x e r m)
section
variable {σ : H} {s : Wd} {n N : Nat} {Q : AV → H → Prop} {C : CallT} {l : List AV}
theorem syini_ {nums : List Int} {pos : Int} (f5 : look σ 5 = none) (f6 : look σ 6 = none) (f7 : look σ 7 = none) (f8 : look σ 8 = none)
    (q : ∀ σ' s', Sy σ' s' → Si 200 s' → Dot s' → s'.nums = nums → s'.pos = pos → s'.h = [] → s'.x = [] → (∀ k, k < 4 ∨ 8 < k → look σ' k = look σ k) → (ClosedH σ → ClosedH σ') → Q (.d .none) σ') : CF (n + 4) 33 [.ins 0 4] ((4, .ns []) :: σ) Q := by
  refine ⟨Nat.le_refl _, Nat.le_refl _, nofun, ⟨f5, asga_ rfl (by decide) rfl ?_⟩⟩
  refine ⟨f6, asga_ rfl (by show 1 < 100; decide) rfl ?_⟩
  refine ⟨f7, asga_ rfl (by show 2 < 100; decide) rfl ?_⟩
  refine ⟨f8, asga_ rfl (by show 3 < 100; decide) rfl ?_⟩
  obtain ⟨xs, e1, e2, e3⟩ := atE
  obtain ⟨t, ys, g1, g2, g3⟩ := fuE
  refine (fat_ e1 ?_)
  have S0 : Sy ((8, .dtup []) :: (7, .dat []) :: (6, .dstr []) :: (5, .dat []) :: (4, .ns syN) :: σ) ⟨nums, pos, [], [], [], [], [], []⟩ := ⟨rfl, rfl, rfl, rfl, rfl⟩
  have I0 : Si 0 ⟨nums, pos, [], [], [], [], [], []⟩ := ⟨nofun, nofun, Nat.le_refl _, Nat.le_refl _, Nat.le_refl _, Nat.le_refl _⟩
  refine ⟨by omega, ?_⟩
  refine at_loop (n := n + 2) xs 0 _ _ _ e2 S0 I0 (by omega) fun σ1 s1 l1 S1 I1 x1 r1 h1 => ?_
  refine (ffu_ g1 ?_)
  refine ⟨by show (_ :: ys).length < _; rw [List.length_cons]; omega, ?_⟩
  refine ⟨meth_ S1.sy rfl rfl, row_0 (row_1 (func_ (ar := 2) (n := n + 1) S1 I1 (by omega) fun σ2 s2 i a S2 I2 k1 k2 x2 r2 f2 => ?_))⟩
  have hi : i = 0 := f2 h1
  subst hi
  refine fu_loop (n := n + 1) ys _ σ2 s2 _ g2 S2 I2 (by omega) fun σ3 s3 l2 S3 I3 x3 r3 => ?_
  have rr := (r1.trans r2).trans r3
  have xx := (x1.trans x2).trans x3
  refine q σ3 s3 S3 (I3.mono (by omega)) ⟨_, _, x3.f _ _ k1, x3.t _ _ k2⟩ xx.n xx.p xx.h xx.x (fun k hk => ?_) fun hc => rr.c ?_
  · rw [rr.r k (by omega)]
    show (if 8 = k then _ else if 7 = k then _ else if 6 = k then _ else if 5 = k then _ else if 4 = k then _ else look σ k) = _
    rw [if_neg (by omega), if_neg (by omega), if_neg (by omega), if_neg (by omega), if_neg (by omega)]
  · refine CI.cons (CI.cons (CI.cons (CI.cons (CI.cons (CI.mono (CI.mono (CI.mono (CI.mono (CI.mono hc))))) ?_) nofun) nofun) nofun) nofun
    intro r m
    rcases List.mem_cons.mp m with rfl | m
    · rfl
    rcases List.mem_cons.mp m with rfl | m
    · rfl
    rcases List.mem_cons.mp m with rfl | m
    · rfl
    rcases List.mem_cons.mp m with rfl | m
    · rfl
    cases m
end
end Mine
end
section
set_option maxRecDepth 100000
open PySem PySem.W PyProof.Rows
namespace Mine
open PySem
section
variable {σ : H} {s : Wd} {n N : Nat} {Q : AV → H → Prop} {C : CallT} {l : List AV}
theorem look_pre {pre : H} {k : Nat} {o : AO} (h : look pre k = none) : look (pre ++ (k, o) :: σ) k = some o := by
  induction pre with
  | nil => exact if_pos rfl
  | cons p r ih =>
    obtain ⟨j, x⟩ := p
    unfold look at h
    show (if j = k then _ else look (r ++ (k, o) :: σ) k) = _
    by_cases q : j = k
    · rw [if_pos q] at h; cases h
    · rw [if_neg q] at h ⊢; exact ih h
theorem put_pre {pre : H} {k : Nat} {o x : AO} (h : look pre k = none) : put (pre ++ (k, o) :: σ) k x = pre ++ (k, x) :: σ := by
  induction pre with
  | nil => exact if_pos rfl
  | cons p r ih =>
    obtain ⟨j, y⟩ := p
    unfold look at h
    show (if j = k then _ else (j, y) :: put (r ++ (k, o) :: σ) k x) = _
    by_cases q : j = k
    · rw [if_pos q] at h; cases h
    · rw [if_neg q] at h ⊢; rw [ih h]; rfl
theorem asp_ {P : H → Prop} (pre : H) {c k a : Nat} {v : AV} {l : List (Nat × AV)} (m : Nat) (h : look pre k = none) (hl : l.length < 100) (t : tb.att c a = true) (e : setNs (l.take m) a v = l.take (m + 1))
    (q : P (pre ++ (k, .ns (l.take (m + 1))) :: σ)) : asgaA tb (.ins c k) a v (pre ++ (k, .ns (l.take m)) :: σ) P := by
  refine asga_ (look_pre h) (by have := List.length_take_le' m l; omega) t ?_
  rw [put_pre h, e]
  exact q
noncomputable def newA (σ : H) : H := (14, .dstr []) :: (13, .dat [pairD (5, 0)]) :: (12, .dat []) :: (11, .dat []) :: (10, .dat []) :: (9, .ns stN) :: (3, .ns arN) :: σ
set_option maxHeartbeats 4000000 in
theorem areas_ (f9 : look σ 9 = none) (f10 : look σ 10 = none) (f11 : look σ 11 = none) (f12 : look σ 12 = none) (f13 : look σ 13 = none) (f14 : look σ 14 = none)
    (q : Q (.d .none) (newA σ)) : CF (n + 3) 57 [arA, syA, .d (.list []), iA 3000, .d (.bool true)] ((3, .ns []) :: σ) Q := by
  refine ⟨by show 5 ≤ 6; decide, by show 6 ≤ 5 + 3; decide, nofun, asp_ (l := arN) [] 0 rfl (by decide) rfl rfl ?_⟩
  refine asp_ (l := arN) [] 1 rfl (by decide) rfl rfl ?_
  refine asp_ (l := arN) [] 2 rfl (by decide) rfl rfl ?_
  refine asp_ (l := arN) [] 3 rfl (by decide) rfl rfl ?_
  refine asp_ (l := arN) [] 4 rfl (by decide) rfl rfl ?_
  refine ⟨meth_ (l := arN.take 5) rfl rfl rfl, ?_⟩
  refine ⟨Nat.le_refl _, Nat.le_refl _, nofun, ?_⟩
  refine attr_ (l := arN.take 5) rfl rfl rfl nofun (attr_ (l := arN.take 5) rfl rfl rfl nofun ⟨f9, ?_⟩)
  refine ⟨by show 3 ≤ 3; decide, by show 3 ≤ 3 + 1; decide, nofun, asp_ (l := stN) [] 0 rfl (by decide) rfl rfl ?_⟩
  refine asp_ (l := stN) [] 1 rfl (by decide) rfl rfl ?_
  refine ⟨f10, asp_ (l := stN) [(10, .dat [])] 2 rfl (by decide) rfl rfl ?_⟩
  refine ⟨f11, asp_ (l := stN) [(11, .dat []), (10, .dat [])] 3 rfl (by decide) rfl rfl ?_⟩
  refine ⟨f12, asp_ (l := stN) [(12, .dat []), (11, .dat []), (10, .dat [])] 4 rfl (by decide) rfl rfl ?_⟩
  refine asp_ (l := stN) [(12, .dat []), (11, .dat []), (10, .dat [])] 5 rfl (by decide) rfl rfl ?_
  refine asp_ (l := stN) [(12, .dat []), (11, .dat []), (10, .dat [])] 6 rfl (by decide) rfl rfl ⟨rfl, ?_⟩
  refine asp_ (l := arN) [(12, .dat []), (11, .dat []), (10, .dat []), (9, .ns stN)] 5 rfl (by decide) rfl rfl ⟨f13, ?_⟩
  refine asp_ (l := arN) [(13, .dat [pairD (5, 0)]), (12, .dat []), (11, .dat []), (10, .dat []), (9, .ns stN)] 6 rfl (by decide) rfl rfl ?_
  refine asp_ (l := arN) [(13, .dat [pairD (5, 0)]), (12, .dat []), (11, .dat []), (10, .dat []), (9, .ns stN)] 7 rfl (by decide) rfl rfl ?_
  refine asp_ (l := arN) [(13, .dat [pairD (5, 0)]), (12, .dat []), (11, .dat []), (10, .dat []), (9, .ns stN)] 8 rfl (by decide) rfl rfl ?_
  refine asp_ (l := arN) [(13, .dat [pairD (5, 0)]), (12, .dat []), (11, .dat []), (10, .dat []), (9, .ns stN)] 9 rfl (by decide) rfl rfl ?_
  refine asp_ (l := arN) [(13, .dat [pairD (5, 0)]), (12, .dat []), (11, .dat []), (10, .dat []), (9, .ns stN)] 10 rfl (by decide) rfl rfl ?_
  refine asp_ (l := arN) [(13, .dat [pairD (5, 0)]), (12, .dat []), (11, .dat []), (10, .dat []), (9, .ns stN)] 11 rfl (by decide) rfl rfl ?_
  refine asp_ (l := arN) [(13, .dat [pairD (5, 0)]), (12, .dat []), (11, .dat []), (10, .dat []), (9, .ns stN)] 12 rfl (by decide) rfl rfl ?_
  refine asp_ (l := arN) [(13, .dat [pairD (5, 0)]), (12, .dat []), (11, .dat []), (10, .dat []), (9, .ns stN)] 13 rfl (by decide) rfl rfl ?_
  refine asp_ (l := arN) [(13, .dat [pairD (5, 0)]), (12, .dat []), (11, .dat []), (10, .dat []), (9, .ns stN)] 14 rfl (by decide) rfl rfl ?_
  refine asp_ (l := arN) [(13, .dat [pairD (5, 0)]), (12, .dat []), (11, .dat []), (10, .dat []), (9, .ns stN)] 15 rfl (by decide) rfl rfl ⟨f14, ?_⟩
  refine asp_ (l := arN) [(14, .dstr []), (13, .dat [pairD (5, 0)]), (12, .dat []), (11, .dat []), (10, .dat []), (9, .ns stN)] 16 rfl (by decide) rfl rfl ?_
  refine asp_ (l := arN) [(14, .dstr []), (13, .dat [pairD (5, 0)]), (12, .dat []), (11, .dat []), (10, .dat []), (9, .ns stN)] 17 rfl (by decide) rfl rfl ?_
  exact q
end
end Mine
end
section
set_option maxRecDepth 100000
open PySem PySem.W PyProof.Rows
namespace Mine
open PySem
section
variable {σ : H} {s : Wd} {n N : Nat} {Q : AV → H → Prop} {C : CallT} {l : List AV} {o : Option AO}
noncomputable abbrev potA : AV := .obj 2
theorem asgm_ {k : Nat} {xs : List AV} {j : Nat} {x : AV} {P : H → Prop} (h : look σ k = some (.mix xs)) (hj : j < xs.length) (hl : xs.length < 2 ^ 20) (u : x ≠ .un) (q : P (put σ k (.mix (xs.set j x)))) : asgsA (.obj k) (iA j) x σ P := .mix h hj hl u q
theorem fmod_nat (a : Int) {m : Nat} (h : 0 < m) : ∃ i : Nat, a.fmod m = i ∧ i < m := by
  have h1 : 0 ≤ a.fmod m := Int.fmod_nonneg_of_pos a (by omega)
  have h2 : a.fmod m < m := Int.fmod_lt_of_pos a (by omega)
  exact ⟨(a.fmod m).toNat, by omega, by omega⟩
theorem Wk.nums (h : Wk o σ s) (x : List Int) : Wk o (Mine.put σ 1 (.dat (x.map .int))) { s with nums := x } :=
  h.put 1 _ (by decide) ⟨(put_ne (by decide)).trans h.w.ar, (put_ne (by decide)).trans h.w.st, (put_ne (by decide)).trans h.w.sy, (put_ne (by decide)).trans h.w.po, put_at h.w.nu, (put_ne (by decide)).trans h.w.h, (put_ne (by decide)).trans h.w.x, (put_ne (by decide)).trans h.w.te, (put_ne (by decide)).trans h.w.an, (put_ne (by decide)).trans h.w.fu, (put_ne (by decide)).trans h.w.fn, (put_ne (by decide)).trans h.w.tr⟩ ⟨h.z.h, h.z.t, h.z.f⟩ rfl
theorem Wk.pos (h : Wk o σ s) (x : Int) : Wk o (Mine.put σ 2 (.mix [iA x, .obj 1])) { s with pos := x } :=
  ⟨⟨(put_ne (by decide)).trans h.w.ar, (put_ne (by decide)).trans h.w.st, (put_ne (by decide)).trans h.w.sy, put_at h.w.po, (put_ne (by decide)).trans h.w.nu, (put_ne (by decide)).trans h.w.h, (put_ne (by decide)).trans h.w.x, (put_ne (by decide)).trans h.w.te, (put_ne (by decide)).trans h.w.an, (put_ne (by decide)).trans h.w.fu, (put_ne (by decide)).trans h.w.fn, (put_ne (by decide)).trans h.w.tr⟩, ⟨h.z.h, h.z.t, h.z.f⟩,
    h.hc.put 2 _ (fun r m => by
      rcases List.mem_cons.mp m with rfl | m
      · rw [h.w.nu]; rfl
      · cases m), fun j hj => by rw [put_ne (by omega)]; exact h.fr j hj, by rw [put_ne (by decide)]; exact h.t, h.z6.put 2 _ (by show 16 ∉ [1]; decide)⟩
theorem dig_ {m : Nat} (hm : 0 < m ∧ m < 100) (h : Wk o σ s) (hn : 0 < s.nums.length ∧ s.nums.length < 1000) (q : ∀ σ' nums pos (d : Nat), nums.length = s.nums.length → d < m → Wk o σ' { s with nums := nums, pos := pos } → Q (iA d) σ') :
    CF (n + 1) 26 [potA, iA m] σ Q := by
  refine ⟨Nat.le_refl _, Nat.le_refl _, nofun, subm_ (j := 1) h.w.po (by show 2 < _; decide) rfl ?_⟩
  obtain ⟨i, e, hi⟩ := fmod_nat s.pos hn.1
  refine subm_ (j := 0) h.w.po (by show 2 < _; decide) rfl (len_ h.w.nu (by rw [List.length_map]; omega) (mod_ (by rw [List.length_map]; omega) ?_))
  rw [List.length_map, e]
  refine subm_ (j := 0) h.w.po (by show 2 < _; decide) rfl (add_ (asgm_ (j := 0) h.w.po (by show 0 < 2; decide) (by show 2 < _; decide) nofun ?_))
  have h1 := h.pos (s.pos + 1)
  obtain ⟨v, g⟩ : ∃ v, s.nums[i]? = some v := ⟨_, List.getElem?_eq_getElem hi⟩
  obtain ⟨d, e2, hd⟩ := fmod_nat v hm.1
  refine sub_ (j := i) h1.w.nu (by rw [List.length_map]; show s.nums.length < _; omega) (getI_map g) (mod_ (by omega) ?_)
  rw [e2]
  refine sub_ (j := i) h1.w.nu (by rw [List.length_map]; show s.nums.length < _; omega) (getI_map g) (fdv_ (by omega) (by omega) ?_)
  refine subm_ (j := 0) h1.w.po (by show 2 < _; decide) rfl (add_ ?_)
  refine asgs_ h1.w.nu (by rw [List.length_map]; exact hi) (by rw [List.length_map]; show s.nums.length < _; omega) ?_
  rw [← List.map_set]
  exact q _ _ _ d (List.length_set ..) hd (h1.nums _)
end
end Mine
end
section
set_option maxRecDepth 100000
open PySem PySem.W PyProof.Rows
namespace Mine
open PySem
structure Dw (o : Option AO) (N : Nat) (σ : H) (s : Wd) : Prop where
  k : Wk o σ s
  i : Si N s
  n : 0 < s.nums.length ∧ s.nums.length < 1000
  d : Dot s
  x : s.x = [(5, 0)]
  v : ∀ i : Nat, i < 3 → s.h[i]? = some (0, (i : Int))
structure Eh (s s' : Wd) : Prop where
  e : Ex s s'
  h : s'.h = s.h
section
variable {σ σ' : H} {s s' : Wd} {n N M : Nat} {Q : AV → H → Prop} {C : CallT} {l : List AV} {o : Option AO} {t : Str}
theorem Eh.refl (s : Wd) : Eh s s := ⟨Ex.refl s, rfl⟩
theorem Eh.trans {a b c : Wd} (x : Eh a b) (y : Eh b c) : Eh a c := ⟨x.e.trans y.e, y.h.trans x.h⟩
theorem Xs.eh (x : Xs s s') : Eh s s' := ⟨⟨fun i c e => by rw [x.h]; exact e, x.t, x.f⟩, x.h⟩
theorem Dot.mono (d : Dot s) (x : Ex s s') : Dot s' := by
  obtain ⟨a, tx, g, h⟩ := d.d
  exact ⟨a, tx, x.f _ _ g, x.t _ _ h⟩
theorem Wk.sy (h : Wk o σ s) : Sy σ s := ⟨h.w.sy, h.w.te, h.w.an, h.w.fu, h.w.fn⟩
theorem Dw.sy (D : Dw o N σ s) (S : Sy σ' s') (I : Si M s') (hM : M < 3000) (x : Xs s s') (r : Rest σ σ') : Dw o M σ' s' := by
  obtain ⟨⟨w, z, hc, fr, ht, z6⟩, i, hn, d, hx, v⟩ := D
  refine ⟨⟨⟨?_, ?_, S.sy, ?_, ?_, ?_, ?_, S.te, S.an, S.fu, S.fn, ?_⟩, ⟨?_, ?_, ?_⟩, r.c hc, fun k hk => ?_, ?_, r.z z6⟩, I, ?_, d.mono x.eh.e, ?_, ?_⟩
  · rw [r.r _ (by decide)]; exact w.ar
  · rw [r.r _ (by decide)]; exact w.st
  · rw [r.r _ (by decide), x.p]; exact w.po
  · rw [r.r _ (by decide), x.n]; exact w.nu
  · rw [r.r _ (by decide), x.h]; exact w.h
  · rw [r.r _ (by decide), x.x]; exact w.x
  · rw [r.r _ (by decide)]; exact w.tr
  · rw [x.h]; exact z.h
  · have := I.lt; omega
  · have := I.lf; omega
  · rw [r.r _ (by omega)]; exact fr k hk
  · rw [r.r _ (by decide)]; exact ht
  · rw [x.n]; exact hn
  · rw [x.x]; exact hx
  · rw [x.h]; exact v
theorem dgd_ {m : Nat} (D : Dw o N σ s) (hm : 0 < m ∧ m < 100) (q : ∀ σ' s' (d : Nat), d < m → Dw o N σ' s' → Eh s s' → Q (iA d) σ') : CF (n + 1) 26 [potA, iA m] σ Q :=
  dig_ hm D.k D.n fun σ' nums pos d e hd h => q σ' _ d hd ⟨h, ⟨D.i.a, D.i.f, D.i.lt, D.i.la, D.i.lf, D.i.ln⟩, by show 0 < nums.length ∧ nums.length < 1000; rw [e]; exact D.n, D.d.mono ⟨fun _ _ e => e, fun _ _ e => e, fun _ _ e => e⟩, D.x, D.v⟩ ⟨⟨fun _ _ e => e, fun _ _ e => e, fun _ _ e => e⟩, rfl⟩
theorem datom_ (D : Dw o N σ s) (hN : N < 900) (q : ∀ σ' s' (i : Nat), Dw o (N + 1) σ' s' → Eh s s' → s'.texts[i]? = some t → Q (iA i) σ') : CF (n + 1) 34 [syA, .d (.str t)] σ Q :=
  atom_ D.k.sy D.i hN fun σ' s' i S I e x r f => q σ' s' i (D.sy S I (by omega) x r) x.eh e
theorem dfunc_ {ar : Nat} (D : Dw o N σ s) (hN : N < 800) (q : ∀ σ' s' (i a : Nat), Dw o (N + 2) σ' s' → Eh s s' → s'.fus[i]? = some ((a : Int), (ar : Int)) → s'.texts[a]? = some t → Q (iA i) σ') : CF (n + 2) 37 [syA, .d (.str t), iA ar] σ Q :=
  func_ D.k.sy D.i hN fun σ' s' i a S I e e2 x r f => q σ' s' i a (D.sy S I (by omega) x r) x.eh e e2
noncomputable abbrev looseD : AV := .d (.list [pairD (0, 0), pairD (0, 1), pairD (0, 2)])
theorem lt3 {d : Nat} (h : d < 3) : d = 0 ∨ d = 1 ∨ d = 2 := by omega
theorem lt4 {d : Nat} (h : d < 4) : d = 0 ∨ d = 1 ∨ d = 2 ∨ d = 3 := by omega
theorem pow_ {R : AV → Prop} (q : R (iA 100000000000000000000)) : binA .Pow (iA 10) (iA 20) R := .pow q
theorem sim_ (D : Dw o N σ s) (hN : N < 700) (q : ∀ σ' s' c k, Dw o (N + 2) σ' s' → Eh s s' → Fa s' c k → Q (cA c) σ') : CF (n + 2) 27 [potA, arA, looseD] σ Q := by
  have up : ∀ {σ s}, Dw o N σ s → Dw o (N + 2) σ s := fun D => ⟨D.k, D.i.mono (by omega), D.n, D.d, D.x, D.v⟩
  refine ⟨Nat.le_refl _, Nat.le_refl _, nofun, (dgd_ (m := 3) D (by decide) fun σ1 s1 d1 h1 D1 e1 => ?_)⟩
  rcases lt3 h1 with rfl | rfl | rfl
  · refine eq_t rfl (dgd_ (m := 3) D1 (by decide) fun σ2 s2 d2 h2 D2 e2 => ?_)
    refine subl_ (x := pairD (0, (d2 : Int))) (by show 3 < _; decide) ?_ (q σ2 s2 (0, (d2 : Int)) _ (up D2) (e1.trans e2) (.var (D2.v d2 h2)))
    rcases lt3 h2 with rfl | rfl | rfl <;> rfl
  · refine eq_f (by decide) (eq_t rfl (pow_ (dgd_ (m := 4) D1 (by decide) fun σ2 s2 d2 h2 D2 e2 => ?_)))
    obtain ⟨v, g⟩ : ∃ v, getI [PyData.int (-1), .int 0, .int 1, .int 100000000000000000000] (d2 : Int) = some (.int v) := by
      rcases lt4 h2 with rfl | rfl | rfl | rfl <;> exact ⟨_, rfl⟩
    exact subl_ (by show 4 < _; decide) g (q σ2 s2 (5, v) _ (up D2) (e1.trans e2) .int)
  · refine eq_f (by decide) (eq_f (by decide) (ar_sy D1.k.w ⟨m_sy D1.k.w rfl rfl, datom_ D1 (by omega) fun σ2 s2 i2 D2 e2 g2 => ?_⟩))
    refine ar_sy D2.k.w ⟨m_sy D2.k.w rfl rfl, datom_ D2 (by omega) fun σ3 s3 i3 D3 e3 g3 => (dgd_ (m := 3) D3 (by decide) fun σ4 s4 d4 h4 D4 e4 => ?_)⟩
    obtain ⟨t0, g0⟩ := D4.d.texts
    obtain ⟨i, tx, g, gt⟩ : ∃ (i : Nat) (tx : Str), getI [PyData.int 0, .int i2, .int i3] (d4 : Int) = some (.int i) ∧ s4.texts[i]? = some tx := by
      rcases lt3 h4 with rfl | rfl | rfl
      · exact ⟨0, _, rfl, g0⟩
      · exact ⟨i2, _, rfl, e4.e.t _ _ (e3.e.t _ _ g2)⟩
      · exact ⟨i3, _, rfl, e4.e.t _ _ g3⟩
    exact subl_ (by show 3 < _; decide) g (q σ4 s4 (4, (i : Int)) _ D4 (e1.trans (e2.trans (e3.trans e4))) (.atom gt))
end
end Mine
end
section
set_option maxRecDepth 100000
open PySem PySem.W PyProof.Rows
namespace Mine
open PySem
section
variable {σ σ' : H} {s s' : Wd} {n N M : Nat} {Q : AV → H → Prop} {C : CallT} {l : List AV} {o : Option AO} {t : Str}
theorem rsv_len {b m : Nat} : (rsv b m).length = m := by unfold rsv; rw [List.length_map, List.length_range]
theorem nblk_ {f a ar : Nat} {tx : Str} (h : Wk o σ s) (hh : s.h.length < 500) (d : Dot s) (g : s.fus[f]? = some ((a : Int), (ar : Int))) (t : s.texts[a]? = some tx) (har : ar ≤ 2)
    (q : ∀ σ' c pre rs, rs.length = ar → pre.length ≤ 1 → Wk o σ' { s with h := s.h ++ (pre ++ rs) } → (∀ rs', Sh { s with h := s.h ++ (pre ++ rs') } c f (s.h.length + pre.length) ar tx) → Q (cA c) σ') : CF (n + 2) 51 [stA, iA f] σ Q := by
  refine ⟨Nat.le_refl _, Nat.le_refl _, nofun, ?_⟩
  by_cases hf : f = 0
  · subst hf
    obtain ⟨a', tx', g', t'⟩ := d.d
    rw [g] at g'
    have e2 : ar = 2 := by
      have := congrArg Prod.snd (Option.some.inj g')
      have : (ar : Int) = 2 := this
      omega
    subst e2
    refine eq_t rfl ⟨m_st h.w rfl rfl, reserve_ (m := 2) h (by omega) fun σ1 h1 => ?_⟩
    exact q σ1 (3, (s.h.length : Int)) [] _ rsv_len (Nat.zero_le _) h1 fun rs' => .lis g t
  · refine eq_f (by omega) ⟨m_st h.w rfl rfl, st_sy h.w ⟨m_sy h.w rfl rfl, arity_ h.w h.z g (add_ ?_)⟩⟩
    refine reserve_ (m := 1 + ar) h (by omega) (fun σ1 h1 => ?_) (by show (1 : Int) + (ar : Int) = ((1 + ar : Nat) : Int); omega)
    refine st_h h1.w (asgh_ (v := (6, (f : Int))) (j := s.h.length) h1 (by show _ < (s.h ++ rsv _ _).length; rw [List.length_append, rsv_len]; omega) fun σ2 h2 => ?_)
    have e : rsv s.h.length (1 + ar) = (0, (s.h.length : Int) + (0 : Nat)) :: (rsv s.h.length (1 + ar)).tail := by
      unfold rsv
      rw [Nat.add_comm, List.range_succ_eq_map]
      rfl
    have e2 : (s.h ++ rsv s.h.length (1 + ar)).set s.h.length (6, (f : Int)) = s.h ++ ([(6, (f : Int))] ++ (rsv s.h.length (1 + ar)).tail) := by
      rw [e, List.set_append_right _ _ (Nat.le_refl _), Nat.sub_self]; rfl
    refine q σ2 (2, (s.h.length : Int)) [(6, (f : Int))] (rsv s.h.length (1 + ar)).tail (by rw [List.length_tail, rsv_len]; omega) (Nat.le_refl _) (by rw [← e2]; exact h2) fun rs' => .str ?_ g t
    show (s.h ++ _)[_]? = _
    rw [List.getElem?_append_right (Nat.le_refl _), Nat.sub_self]; rfl
theorem ns_loop {K : Fl → List AV → H → Prop} {l1 l2 l5 l6 l7 : AV} (w : Wo σ s) (z : Sz s) : ∀ (cs : List Cl) (vs : List PyData) (l4 : AV), l4.refs = [] → (∀ c ∈ cs, Dr s c c) → vs.length + cs.length < 1000 → (∀ l4, l4.refs = [] → K .next [stA, l1, l2, .obj 20, l4, l5, l6, l7] ((20, .dat (vs ++ cs.map pairD)) :: σ)) →
    forA (fun x l σ k => ex tb (CF (n + 2)) [20] (.exp (.bm (.loc 3) .append (.cons (.meth (.loc 0) 35 (.cons (.loc 4) .nil)) .nil)) .done) (l.set 4 x) σ k) (cs.map cA) [stA, l1, l2, .obj 20, l4, l5, l6, l7] ((20, .dat vs) :: σ) K
  | [], vs, l5, h5, hd, hl, q => by
    have := q l5 h5
    rw [List.map_nil, List.append_nil] at this
    exact this
  | c :: cs, vs, l5, h5, hd, hl, q => by
    have w1 : Wo ((20, .dat vs) :: σ) s := w.cons 20 _ rfl
    rw [List.length_cons] at hl
    refine ⟨app_T rfl, ⟨m_st w1 rfl rfl, glob_ w1 z.h (hd c (List.mem_cons_self ..)) ?_⟩⟩
    refine app_ rfl (by omega) ?_
    refine ns_loop w z cs (vs ++ [pairD c]) _ rfl (fun d hd' => hd d (List.mem_cons_of_mem _ hd')) (by rw [List.length_append]; show vs.length + 1 + _ < _; omega) fun l5 h5 => ?_
    rw [List.append_assoc]
    exact q l5 h5
theorem ns_loop2 {K : Fl → List AV → H → Prop} {l1 l2A l3 l4 l5 : AV} : ∀ (cs : List Cl) (hh rs : List Cl) (σ : H) (l7 : AV), rs.length = cs.length → Wk o σ { s with h := hh ++ rs } → hh.length + rs.length < 3500 →
    (∀ σ' l6 l7, Wk o σ' { s with h := hh ++ cs } → K .next [stA, l1, l2A, l3, l4, l5, l6, l7] σ') →
    forA (fun x l σ k => ex tb (CF n) [20] (.asgs (.attr (.loc 0) 2) (.loc 6) (.loc 7) (.aug 6 .Add (.con (.int 1)) .done)) (l.set 7 x) σ k) (cs.map cA) [stA, l1, l2A, l3, l4, l5, iA (hh.length : Int), l7] σ K
  | [], hh, rs, σ, l7, hr, h, hl, q => by
    have : rs = [] := List.length_eq_zero_iff.mp hr
    subst this
    exact q σ _ l7 h
  | c :: cs, hh, rs, σ, l7, hr, h, hl, q => by
    rw [List.length_cons] at hr
    match rs, hr with
    | r0 :: rs, hr =>
      rw [List.length_cons] at hr hl
      refine st_h h.w (asgh_ (j := hh.length) h (by show _ < (hh ++ r0 :: rs).length; rw [List.length_append, List.length_cons]; omega) fun σ1 h1 => ?_)
      have e1 : (hh ++ r0 :: rs).set hh.length c = (hh ++ [c]) ++ rs := by rw [List.set_append_right _ _ (Nat.le_refl _), Nat.sub_self, List.append_assoc]; rfl
      have l1 : (hh ++ [c]).length = hh.length + 1 := by rw [List.length_append]; rfl
      refine add_ ?_
      have e3 : ((hh.length : Int) + 1) = (((hh ++ [c]).length : Nat) : Int) := by rw [l1]; omega
      rw [congrArg iA e3]
      refine ns_loop2 cs (hh ++ [c]) rs σ1 (cA c) (by omega) (by rw [← e1]; exact h1) (by rw [l1]; omega) fun σ' l6 l7 h' => ?_
      rw [List.append_assoc] at h'
      exact q σ' l6 l7 h'
theorem nst_ {f a : Nat} {tx : Str} {cs : List Cl} (h : Wk o σ s) (hh : s.h.length < 500) (d : Dot s) (g : s.fus[f]? = some ((a : Int), (cs.length : Int))) (t : s.texts[a]? = some tx) (hk : 1 ≤ cs.length ∧ cs.length ≤ 2) (hd : ∀ c ∈ cs, Dr s c c)
    (q : ∀ σ' c pre, pre.length ≤ 1 → Wk o σ' { s with h := s.h ++ (pre ++ cs) } → Sh { s with h := s.h ++ (pre ++ cs) } c f (s.h.length + pre.length) cs.length tx → Q (cA c) σ') :
    CF (n + 3) 52 [stA, iA f, .d (.list (cs.map pairD))] σ Q := by
  refine ⟨Nat.le_refl _, Nat.le_refl _, ?_, ?_⟩
  · intro k hk
    rcases List.mem_cons.mp hk with rfl | hk
    · exact h.fr _ (by decide)
    · cases hk
  refine (lenl_ (by rw [List.length_map]; omega) (eq_f (by rw [List.length_map]; omega) ?_))
  refine ⟨h.fr _ (by decide), ⟨by rw [List.length_map]; omega, ?_⟩⟩
  rw [map_cA]
  refine ns_loop (n := n) h.w h.z cs [] _ rfl hd (by show 0 + _ < _; omega) fun l4 h4 => ?_
  refine frz_ rfl rfl (List.mem_cons_self ..) ?_ h.hc ?_
  · exact nr_cons (by decide) (nr_cons nofun (nr_cons nofun (nr_cons nofun (nr_cons (nr0 h4) (nr_cons nofun (nr_cons nofun (nr_cons nofun nr_nil)))))))
  refine ⟨m_st h.w rfl rfl, nblk_ h hh d g t hk.2 fun σ1 c pre rs hr hp h1 sh => ?_⟩
  refine ⟨m_st h1.w rfl rfl, base_ h1.w h1.z (sh rs) ?_⟩
  refine ⟨by rw [List.nil_append, List.length_map]; omega, ?_⟩
  rw [List.nil_append, map_cA]
  have e : s.h.length + pre.length = (s.h ++ pre).length := by rw [List.length_append]
  rw [e]
  refine ns_loop2 (n := n + 2) (s := s) cs (s.h ++ pre) rs σ1 _ hr (by rw [List.append_assoc]; exact h1) (by rw [List.length_append]; omega) fun σ2 l6 l7 h2 => ?_
  rw [List.append_assoc] at h2
  exact q σ2 c pre hp h2 (sh cs)
end
end Mine
end
section
set_option maxRecDepth 100000
open PySem PySem.W PyProof.Rows
namespace Mine
open PySem
section
variable {σ σ' : H} {s s' : Wd} {n N M : Nat} {Q : AV → H → Prop} {C : CallT} {l : List AV} {o : Option AO} {t : Str}
theorem ex_app {l : List Cl} : Ex s { s with h := s.h ++ l } := ⟨fun i c e => by show (s.h ++ l)[i]? = _; rw [List.getElem?_append_left (List.getElem?_eq_some_iff.mp e).1]; exact e, fun _ _ e => e, fun _ _ e => e⟩
theorem Dw.hp {l : List Cl} (D : Dw o N σ s) (h : Wk o σ' { s with h := s.h ++ l }) : Dw o N σ' { s with h := s.h ++ l } :=
  ⟨h, ⟨D.i.a, D.i.f, D.i.lt, D.i.la, D.i.lf, D.i.ln⟩, D.n, D.d.mono ex_app, D.x, fun i hi => ex_app.h _ _ (D.v i hi)⟩
theorem Dw.up (D : Dw o N σ s) (h : N ≤ M) : Dw o M σ s := ⟨D.k, D.i.mono h, D.n, D.d, D.x, D.v⟩
theorem Eh.len (e : Eh s s') : s'.h.length = s.h.length := by rw [e.h]
theorem cs12 : ∀ {cs : List Cl}, 1 ≤ cs.length ∧ cs.length ≤ 2 → (∃ x, cs = [x]) ∨ ∃ x y, cs = [x, y]
  | [], h => absurd h.1 (by decide)
  | [x], _ => .inl ⟨x, rfl⟩
  | [x, y], _ => .inr ⟨x, y, rfl⟩
  | _ :: _ :: _ :: _, h => absurd h.2 (fun h => absurd (Nat.le_of_succ_le_succ (Nat.le_of_succ_le_succ h)) (Nat.not_succ_le_zero _))
theorem est_ {f a : Nat} {tx : Str} {cs : List Cl} (D : Dw o N σ s) (hh : s.h.length < 400) (g : s.fus[f]? = some ((a : Int), (cs.length : Int))) (t : s.texts[a]? = some tx) (hk : 1 ≤ cs.length ∧ cs.length ≤ 2) (hd : ∀ c ∈ cs, ∃ k, Fa s c k)
    (q : ∀ σ' s' c k, Dw o N σ' s' → Ex s s' → s'.h.length ≤ s.h.length + 3 → El s' c k → Q (cA c) σ') : CF (n + 3) 52 [stA, iA f, .d (.list (cs.map pairD))] σ Q := by
  refine nst_ D.k (by omega) D.d g t hk (fun c hc => by obtain ⟨k, e⟩ := hd c hc; exact e.dr) fun σ1 c pre hp h1 sh => ?_
  have at_ : ∀ (j : Nat) (x : Cl), cs[j]? = some x → (s.h ++ (pre ++ cs))[s.h.length + pre.length + j]? = some x := fun j x e => by
    rw [← List.append_assoc, List.getElem?_append_right (by rw [List.length_append]; omega), List.length_append, show s.h.length + pre.length + j - (s.h.length + pre.length) = j by omega]; exact e
  have hl : (s.h ++ (pre ++ cs)).length ≤ s.h.length + 3 := by rw [List.length_append, List.length_append]; omega
  rcases cs12 hk with ⟨x, rfl⟩ | ⟨x, y, rfl⟩
  · obtain ⟨k, e⟩ := hd x (List.mem_cons_self ..)
    exact q σ1 _ c _ (D.hp h1) ex_app hl (.one sh (at_ 0 _ rfl) (e.mono ex_app))
  · obtain ⟨k, e⟩ := hd x (List.mem_cons_self ..)
    obtain ⟨k', e'⟩ := hd y (List.mem_cons_of_mem _ (List.mem_cons_self ..))
    exact q σ1 _ c _ (D.hp h1) ex_app hl (.two sh (at_ 0 _ rfl) (e.mono ex_app) (at_ 1 _ rfl) (e'.mono ex_app))
theorem lt2 {d : Nat} (h : d < 2) : d = 0 ∨ d = 1 := by omega
theorem elem_ (D : Dw o N σ s) (hN : N < 600) (hh : s.h.length < 300) (q : ∀ σ' s' c k, Dw o (N + 6) σ' s' → Ex s s' → s'.h.length ≤ s.h.length + 3 → El s' c k → Q (cA c) σ') : CF (n + 4) 28 [potA, arA, looseD] σ Q := by
  refine ⟨Nat.le_refl _, Nat.le_refl _, nofun, (dgd_ (m := 4) D (by decide) fun σ1 s1 d1 h1 D1 e1 => ?_)⟩
  by_cases hd : d1 < 2
  · refine lt_t (by omega) (sim_ D1 (by omega) fun σ2 s2 c k D2 e2 fa => ?_)
    exact q σ2 s2 c k (D2.up (by omega)) (e1.trans e2).e (by rw [(e1.trans e2).len]; omega) (.flat fa)
  refine lt_f (by omega) (dgd_ (m := 2) D1 (by decide) fun σ2 s2 d2 h2 D2 e2 => add_ (rng1_ (by unfold small; omega) ?_))
  have e02 := e1.trans e2
  have fin : ∀ {σ s3} (cs : List Cl), 1 ≤ cs.length ∧ cs.length ≤ 2 → Dw o (N + 4) σ s3 → Eh s s3 → (∀ c ∈ cs, ∃ k, Fa s3 c k) → ∀ (l4 l6 : AV), ex tb (CF (n + 3)) [] (.asg 6 (.meth (.attr (.loc 1) 8) 19 (.cons (.con (.str "b")) (.cons (.call (.glo 4) 0 (.cons (.loc 4) .nil)) .nil)))
      (.ite (.bop true (.cons (.cmp .Eq (.loc 3) (.con (.int 3))) (.cons (.cmp .Eq (.call (.glo 4) 0 (.cons (.loc 4) .nil)) (.con (.int 2))) .nil)))
      (.asg 6 (.glo 30) .done) .done (.ret (.meth (.attr (.loc 1) 14) 20 (.cons (.loc 6) (.cons (.loc 4) .nil))) []))) [potA, arA, looseD, iA d1, .d (.list (cs.map pairD)), l4, l6] σ fun f _ σ' => match f with
        | .ret v => Q v σ'
        | .next => Q (.d .none) σ'
        | .cont => False := by
    intro σ3 s3 cs hk D3 e3 fa l4 l6
    have hm : (cs.map pairD).length = cs.length := List.length_map ..
    refine ar_sy D3.k.w ⟨m_sy D3.k.w rfl rfl, (lenl_ (by omega) ?_)⟩
    rw [hm]
    refine dfunc_ (n := n + 1) (ar := cs.length) D3 (by omega) fun σ4 s4 i a D4 e4 g4 t4 => ?_
    have e5 := e3.trans e4
    have fa4 : ∀ c ∈ cs, ∃ k, Fa s4 c k := fun c hc => by obtain ⟨k, e⟩ := fa c hc; exact ⟨k, e.mono e4.e⟩
    have go : ∀ {f a : Nat} {tx : Str}, s4.fus[f]? = some ((a : Int), (cs.length : Int)) → s4.texts[a]? = some tx → CF (n + 3) 52 [stA, iA f, .d (.list (cs.map pairD))] σ4 Q := fun g t =>
      est_ D4 (by rw [e5.len]; omega) g t hk fa4 fun σ5 s5 c k D5 e6 hl el => q σ5 s5 c k D5 (e5.e.trans e6) (by rw [e5.len] at hl; exact hl) el
    have out : ∀ {f a : Nat} {tx : Str}, s4.fus[f]? = some ((a : Int), (cs.length : Int)) → s4.texts[a]? = some tx → ex tb (CF (n + 3)) [] (.ret (.meth (.attr (.loc 1) 14) 20 (.cons (.loc 6) (.cons (.loc 4) .nil))) []) [potA, arA, looseD, iA d1, .d (.list (cs.map pairD)), l4, iA f] σ4 fun f _ σ' => match f with
        | .ret v => Q v σ'
        | .next => Q (.d .none) σ'
        | .cont => False := fun {f a tx} g t => ar_st (Q := fun r => _ ∧ _) D4.k.w ⟨m_st D4.k.w rfl rfl, go g t⟩
    by_cases h3 : d1 = 3
    · refine eq_t (by omega) (lenl_ (by omega) ?_)
      by_cases hc : cs.length = 2
      · obtain ⟨a', tx', g', t'⟩ := D4.d.d
        exact eq_t (by rw [hm, hc]; rfl) (out (f := 0) (by rw [hc]; exact g') t')
      · exact eq_f (by rw [hm]; omega) (out g4 t4)
    · exact eq_f (by omega) (out g4 t4)
  rcases lt2 h2 with rfl | rfl
  · refine ⟨by show 1 < _; decide, ?_⟩
    refine (sim_ (n := n + 1) D2 (by omega) fun σ3 s3 c k D3 e3 fa => ?_)
    exact fin [c] ⟨Nat.le_refl _, by show 1 ≤ 2; decide⟩ (D3.up (by omega)) (e02.trans e3) (List.forall_mem_cons.mpr ⟨⟨k, fa⟩, nofun⟩) _ _
  · refine ⟨by show 2 < _; decide, ?_⟩
    refine (sim_ (n := n + 1) D2 (by omega) fun σ3 s3 c k D3 e3 fa => ?_)
    refine (sim_ (n := n + 1) D3 (by omega) fun σ4 s4 c' k' D4 e4 fa' => ?_)
    exact fin [c, c'] ⟨by show 1 ≤ 2; decide, Nat.le_refl _⟩ D4 ((e02.trans e3).trans e4) (List.forall_mem_cons.mpr ⟨⟨k, fa.mono e4.e⟩, List.forall_mem_cons.mpr ⟨⟨k', fa'⟩, nofun⟩⟩) _ _
end
end Mine
end
section
set_option maxRecDepth 100000
open PySem PySem.W PyProof.Rows
namespace Mine
open PySem
section
variable {σ σ' : H} {s s' : Wd} {n N M : Nat} {Q : AV → H → Prop} {B : Bool → Prop} {R : AV → Prop} {C : CallT} {o o' : Option AO} {t : Str}
theorem slck_ {h : Nat} {xs : List PyData} (hl : xs.length < 2 ^ 20) (q : R (.d (.list (xs.take h)))) : slcA (.d (.list xs)) .un (iA h) .un σ R := .to rfl hl q
theorem mkl1_ {k : Nat} {xs : List PyData} (hl : xs.length < 2 ^ 20) (f : look σ (k + 1) = none) (q : Q (.obj (k + 1)) ((k + 1, .dat xs) :: σ)) : mklA (k + 1) [.d (.list xs)] σ Q := .succ rfl hl f q
theorem nem_ {k : Nat} {a : List Cl} (h : look σ k = some (.dat (a.map pairD))) (q : B (!decide (a = []))) : cmpA .NotEq (.obj k) (.d (.list [])) σ B := by
  refine .ne (dat_in h) rfl (ok_l _) (ok_l []) ?_
  show B (!PyData.eqvAll (a.map pairD) (([] : List Cl).map pairD))
  rw [eqv_l]; exact q
theorem del_ne {k j : Nat} (e : j ≠ k) : ∀ {σ : H}, look (del σ k) j = look σ j
  | [] => rfl
  | (i, x) :: t => by
    unfold del
    by_cases h : i = k
    · rw [if_pos h]; unfold look; rw [if_neg (by omega)]
      cases t <;> rfl
    · rw [if_neg h]; unfold look
      by_cases g : i = j
      · rw [if_pos g, if_pos g]
      · rw [if_neg g, if_neg g]; exact del_ne e
theorem del_none {k : Nat} : ∀ {σ : H}, look σ k = none → del σ k = σ
  | [], _ => rfl
  | (i, x) :: t, h => by
    unfold look at h
    by_cases g : i = k
    · rw [if_pos g] at h; cases h
    · rw [if_neg g] at h; unfold del; rw [if_neg g, del_none h]
theorem Wk.open16 (h : Wk none σ s) (x : List PyData) : Wk (some (.dat x)) ((16, .dat x) :: σ) s :=
  ⟨h.w.cons 16 _ rfl, h.z, h.hc.dat 16 _ rfl, fun k hk => by show (if 16 = k then _ else look σ k) = _; rw [if_neg (by omega)]; exact h.fr k hk, rfl, fun j y e => by
    unfold look at e
    by_cases g : 16 = j
    · rw [if_pos g] at e; cases e; exact nofun
    · rw [if_neg g] at e; exact h.z6.1 j y e, h.t⟩
theorem Wk.put16 {x y : List PyData} (h : Wk (some (.dat x)) σ s) : Wk (some (.dat y)) (Mine.put σ 16 (.dat y)) s :=
  ⟨h.w.put 16 _ rfl, h.z, h.hc.put 16 _ nofun, fun k hk => by rw [put_ne (by omega)]; exact h.fr k hk, put_at h.t, h.z6.put 16 _ nofun⟩
theorem Wk.close16 (h : Wk o σ s) : Wk none (del σ 16) s := by
  have w := h.w
  refine ⟨⟨?_, ?_, ?_, ?_, ?_, ?_, ?_, ?_, ?_, ?_, ?_, ?_⟩, h.z, ?_, fun k hk => ?_, h.z6.2, fun j x e => ?_, ?_⟩
  · rw [del_ne (by decide)]; exact w.ar
  · rw [del_ne (by decide)]; exact w.st
  · rw [del_ne (by decide)]; exact w.sy
  · rw [del_ne (by decide)]; exact w.po
  · rw [del_ne (by decide)]; exact w.nu
  · rw [del_ne (by decide)]; exact w.h
  · rw [del_ne (by decide)]; exact w.x
  · rw [del_ne (by decide)]; exact w.te
  · rw [del_ne (by decide)]; exact w.an
  · rw [del_ne (by decide)]; exact w.fu
  · rw [del_ne (by decide)]; exact w.fn
  · rw [del_ne (by decide)]; exact w.tr
  · intro j x e r m
    by_cases g : j = 16
    · rw [g, h.z6.2] at e; cases e
    · rw [del_ne g] at e
      rw [del_ne (fun q => h.z6.1 j x e (by rw [← q]; exact m))]
      exact h.hc j x e r m
  · rw [del_ne (by omega)]; exact h.fr k hk
  · by_cases g : j = 16
    · rw [g, h.z6.2] at e; cases e
    · rw [del_ne g] at e; exact h.z6.1 j x e
  · rw [del_none h.z6.2]; exact h.z6.2
theorem Dw.put16 {x y : List PyData} (D : Dw (some (.dat x)) N σ s) : Dw (some (.dat y)) N (put σ 16 (.dat y)) s := ⟨D.k.put16, D.i, D.n, D.d, D.x, D.v⟩
noncomputable def drB : S := .ite (.bop true (.cons (.cmp .NotEq (.loc 5) (.lst 0 .nil)) (.cons (.cmp .Eq (.call (.glo 27) 0 (.cons (.loc 1) (.cons (.con (.int 4)) .nil))) (.con (.int 1))) .nil)))
 (.exp (.bm (.loc 5) .append (.cons (.sub (.loc 5) (.con (.int 0))) .nil)) .done)
 (.exp (.bm (.loc 5) .append (.cons (.call (.glo 41) 0 (.cons (.loc 1) (.cons (.loc 2) (.cons (.loc 4) .nil)))) .nil)) .done) .done
theorem dr_loop {K : Fl → List AV → H → Prop} {l0 : AV} : ∀ (r j N : Nat) (cs : List Cl) (σ : H) (s : Wd) (l6 : AV), l6.refs = [] → cs.length + r < 10 → N + 6 * r < 600 → s.h.length + 3 * r < 300 → Dw (some (.dat (cs.map pairD))) N σ s → (∀ c ∈ cs, ∃ k, El s c k) →
    (∀ (σ' : H) (s' : Wd) (cs' : List Cl) (l6 : AV) (N' : Nat), Dw (some (.dat (cs'.map pairD))) N' σ' s' → cs'.length = cs.length + r → (∀ c ∈ cs', ∃ k, El s' c k) → s'.h.length ≤ s.h.length + 3 * r → l6.refs = [] → K .next [l0, potA, arA, stA, looseD, .obj 16, l6, .un, .un, .un, .un, .un, .un, .un] σ') →
    forA (fun x l σ k => ex tb (CF (n + 5)) [16] drB (l.set 6 x) σ k) ((List.range' j r).map fun (i : Nat) => iA ((0 : Int) + (i : Int))) [l0, potA, arA, stA, looseD, .obj 16, l6, .un, .un, .un, .un, .un, .un, .un] σ K
  | 0, j, N, cs, σ, s, l6, h6, hc, hN, hh, D, he, q => q σ s cs l6 N D rfl he (Nat.le_refl _) h6
  | r + 1, j, N, cs, σ, s, l6, h6, hc, hN, hh, D, he, q => by
    have hm : (cs.map pairD).length = cs.length := List.length_map ..
    have go : ∀ (σ1 : H) s1 c k N1, N1 ≤ N + 6 → Dw (some (.dat (cs.map pairD))) N1 σ1 s1 → Ex s s1 → s1.h.length ≤ s.h.length + 3 → El s1 c k → forA (fun x l σ k => ex tb (CF (n + 5)) [16] drB (l.set 6 x) σ k) ((List.range' (j + 1) r).map fun (i : Nat) => iA ((0 : Int) + (i : Int))) [l0, potA, arA, stA, looseD, .obj 16, iA ((0 : Int) + (j : Int)), .un, .un, .un, .un, .un, .un, .un] (put σ1 16 (.dat (cs.map pairD ++ [pairD c]))) K := by
      intro σ1 s1 c k N1 h1 D1 x1 hl1 el
      have e1 : cs.map pairD ++ [pairD c] = (cs ++ [c]).map pairD := by rw [List.map_append]; rfl
      have hl : (cs ++ [c]).length = cs.length + 1 := by rw [List.length_append]; rfl
      rw [e1]
      refine dr_loop r (j + 1) N1 (cs ++ [c]) _ s1 _ rfl (by omega) (by omega) (by omega) D1.put16 ?_ fun σ' s' cs' l6 N' D' hl' he' hh' h6' => q σ' s' cs' l6 N' D' (by omega) he' (by omega) h6'
      intro y hy
      rcases List.mem_append.mp hy with hy | hy
      · obtain ⟨k', e⟩ := he y hy; exact ⟨k', e.mono x1⟩
      · rw [List.mem_singleton.mp hy]; exact ⟨k, el⟩
    have el_ : ∀ (σ1 : H) s1, Dw (some (.dat (cs.map pairD))) N σ1 s1 → Eh s s1 → ex tb (CF (n + 5)) [16] (.exp (.bm (.loc 5) .append (.cons (.call (.glo 41) 0 (.cons (.loc 1) (.cons (.loc 2) (.cons (.loc 4) .nil)))) .nil)) .done) [l0, potA, arA, stA, looseD, .obj 16, iA ((0 : Int) + (j : Int)), .un, .un, .un, .un, .un, .un, .un] σ1 fun f l' σ' => match f with
        | .next => forA (fun x l σ k => ex tb (CF (n + 5)) [16] drB (l.set 6 x) σ k) ((List.range' (j + 1) r).map fun (i : Nat) => iA ((0 : Int) + (i : Int))) l' σ' K
        | .cont => forA (fun x l σ k => ex tb (CF (n + 5)) [16] drB (l.set 6 x) σ k) ((List.range' (j + 1) r).map fun (i : Nat) => iA ((0 : Int) + (i : Int))) l' σ' K
        | .ret v => K (.ret v) l' σ' := by
      intro σ1 s1 D1 e1
      refine ⟨app_T D1.k.t, (elem_ (n := n + 1) D1 (by omega) (by rw [e1.len]; omega) fun σ2 s2 c k D2 x2 hl2 el => ?_)⟩
      refine app_ D2.k.t (by omega) ?_
      exact go σ2 s2 c k _ (Nat.le_refl _) D2 (e1.e.trans x2) (by rw [e1.len] at hl2; exact hl2) el
    refine nem_ D.k.t ?_
    match cs, D, he, hm, hc, q, go, el_ with
    | [], D, he, hm, hc, q, go, el_ => exact el_ σ s D (Eh.refl s)
    | c :: cs, D, he, hm, hc, q, go, el_ =>
      refine (dgd_ (m := 4) D (by decide) fun σ1 s1 d h1 D1 e1 => ?_)
      refine eq_ ?_
      by_cases hd : (d : Int) = 1
      · rw [decide_eq_true hd]
        refine ⟨app_T D1.k.t, sub_ (x := pairD c) D1.k.t (by omega) rfl (app_ D1.k.t (by omega) ?_)⟩
        obtain ⟨k, e⟩ := he c (List.mem_cons_self ..)
        exact go σ1 s1 c k N (by omega) D1 e1.e (by rw [e1.len]; omega) (e.mono e1.e)
      · rw [decide_eq_false hd]
        exact el_ σ1 s1 D1 e1
end
end Mine
end
section
set_option maxRecDepth 100000
open PySem PySem.W PyProof.Rows
namespace Mine
open PySem
noncomputable def lwA : S := match bd32 with
  | .asg _ _ r => r
  | r => r
noncomputable def NI (σ : H) : Prop := ∀ j x, look σ j = some x → 16 ∉ x.refs
theorem NI.cons {σ : H} {k : Nat} {o : AO} (c : NI σ) (h : 16 ∉ o.refs) : NI ((k, o) :: σ) := by
  intro j x e
  unfold look at e
  by_cases q : k = j
  · rw [if_pos q] at e; cases e; exact h
  · rw [if_neg q] at e; exact c j x e
theorem NI.nil : NI [] := nofun
theorem CI.nil {τ : H} : CI τ [] := nofun
section
variable {n : Nat} {K : Fl → List AV → H → Prop}
theorem newA_ {σ0 σ : H} {s : Wd} (S : Sy σ s) (I : Si 200 s) (d : Dot s) (e0 : look σ0 2 = some (.mix [iA s.pos, .obj 1])) (e1 : look σ0 1 = some (.dat (s.nums.map .int))) (ee : ∀ k, k ≠ 1 → k ≠ 2 → look σ0 k = none) (eh : s.h = []) (rr : ∀ k, k < 4 ∨ 8 < k → look σ k = look σ0 k) (cc : ClosedH σ) :
    Wk none (newA σ) { s with x := [(5, 0)] } := by
  have l1 := rr 1 (by decide)
  have l2 := rr 2 (by decide)
  have nn : ∀ k, k < 4 ∨ 8 < k → k ≠ 1 → k ≠ 2 → look σ k = none := fun k hk h1 h2 => (rr k hk).trans (ee k h1 h2)
  have big : ∀ k, 15 ≤ k → look (newA σ) k = none := fun k hk => by
    show (if 14 = k then _ else if 13 = k then _ else if 12 = k then _ else if 11 = k then _ else if 10 = k then _ else if 9 = k then _ else if 3 = k then _ else look σ k) = _
    rw [if_neg (by omega), if_neg (by omega), if_neg (by omega), if_neg (by omega), if_neg (by omega), if_neg (by omega), if_neg (by omega)]
    exact nn k (by omega) (by omega) (by omega)
  have sz := I.lt
  have sf := I.lf
  refine ⟨⟨rfl, rfl, S.sy, l2.trans e0, l1.trans e1, ?_, rfl, S.te, S.an, S.fu, S.fn, rfl⟩, ⟨?_, ?_, ?_⟩, ?_, fun k hk => big k (by omega), big 16 (by decide), ?_, ?_⟩
  · show _ = some (AO.dat (s.h.map pairD)); rw [eh]; rfl
  · show s.h.length < _; rw [eh]; decide
  · show s.texts.length < _; omega
  · show s.fus.length < _; omega
  · have c9 : ∀ r ∈ (AO.ns stN).refs, (look (newA σ) r).isSome = true := by
      intro r m
      rcases List.mem_cons.mp m with rfl | m
      · show (look σ 4).isSome = true; rw [S.sy]; rfl
      rcases List.mem_cons.mp m with rfl | m
      · rfl
      rcases List.mem_cons.mp m with rfl | m
      · rfl
      rcases List.mem_cons.mp m with rfl | m
      · rfl
      cases m
    have c3 : ∀ r ∈ (AO.ns arN).refs, (look (newA σ) r).isSome = true := by
      intro r m
      rcases List.mem_cons.mp m with rfl | m
      · show (look σ 4).isSome = true; rw [S.sy]; rfl
      rcases List.mem_cons.mp m with rfl | m
      · rfl
      rcases List.mem_cons.mp m with rfl | m
      · rfl
      rcases List.mem_cons.mp m with rfl | m
      · rfl
      cases m
    have cS : CI (newA σ) σ := CI.mono (CI.mono (CI.mono (CI.mono (CI.mono (CI.mono (CI.mono cc))))))
    exact CI.cons (CI.cons (CI.cons (CI.cons (CI.cons (CI.cons (CI.cons cS c3) c9) nofun) nofun) nofun) nofun) nofun
  · have nS : NI σ := by
      intro j x e
      by_cases h1 : j = 1
      · rw [h1, l1, e1] at e; cases e; exact nofun
      by_cases h2 : j = 2
      · rw [h2, l2, e0] at e; cases e; show 16 ∉ [1]; decide
      by_cases h4 : j = 4
      · rw [h4, S.sy] at e; cases e; show 16 ∉ [5, 6, 7, 8]; decide
      by_cases h5 : j = 5
      · rw [h5, S.te] at e; cases e; exact nofun
      by_cases h6 : j = 6
      · rw [h6, S.an] at e; cases e; exact nofun
      by_cases h7 : j = 7
      · rw [h7, S.fu] at e; cases e; exact nofun
      by_cases h8 : j = 8
      · rw [h8, S.fn] at e; cases e; exact nofun
      rw [nn j (by omega) h1 h2] at e; cases e
    exact NI.cons (NI.cons (NI.cons (NI.cons (NI.cons (NI.cons (NI.cons nS (by show 16 ∉ [4, 9, 13, 14]; decide)) (by show 16 ∉ [4, 10, 11, 12]; decide)) nofun) nofun) nofun) nofun) nofun
  · rw [del_none (big 16 (by decide))]; exact big 16 (by decide)
theorem nr_of {k : Nat} {l : List AV} (h : ∀ v ∈ l, v.refs = []) : ∀ v ∈ l, k ∉ v.refs := fun v m => by rw [h v m]; exact nofun
set_option maxHeartbeats 4000000 in
theorem lawB {l0 : AV} {nums : List Int} (hn : 0 < nums.length ∧ nums.length < 1000) (h0 : l0.refs = []) (q0 : ∀ l σ, K (.ret (.d (.bool true))) l σ) :
    ex tb (CF (n + 10)) [16] lwA [l0, potA, .un, .un, .un, .un, .un, .un, .un, .un, .un, .un, .un, .un] [(2, .mix [iA 0, .obj 1]), (1, .dat (nums.map .int))] K := by
  refine ⟨rfl, syini_ (n := n + 6) (nums := nums) (pos := 0) rfl rfl rfl rfl fun σ1 s1 S1 I1 D1 en ep eh exx rr cc => ⟨rfl, ?_⟩⟩
  have ee : ∀ k, k ≠ 1 → k ≠ 2 → look [(2, .mix [iA 0, .obj 1]), (1, .dat (nums.map .int))] k = none := fun k h1 h2 => by
    show (if 2 = k then _ else if 1 = k then _ else none) = _
    rw [if_neg (Ne.symm h2), if_neg (Ne.symm h1)]
  have r' : ∀ k, k < 4 ∨ 8 < k → k ≠ 1 → k ≠ 2 → look σ1 k = none := fun k hk h1 h2 => (rr k hk).trans (ee k h1 h2)
  refine ⟨r' 3 (by decide) (by decide) (by decide), areas_ (n := n + 7) (r' 9 (by decide) (by decide) (by decide)) (r' 10 (by decide) (by decide) (by decide)) (r' 11 (by decide) (by decide) (by decide)) (r' 12 (by decide) (by decide) (by decide)) (r' 13 (by decide) (by decide) (by decide)) (r' 14 (by decide) (by decide) (by decide)) ⟨rfl, ?_⟩⟩
  have W := newA_ S1 I1 D1 (by rw [ep]; rfl) (by rw [en]; rfl) ee eh rr (cc (CI.cons (CI.cons CI.nil nofun) (by
    intro r m
    rcases List.mem_cons.mp m with rfl | m
    · rfl
    cases m)))
  generalize newA σ1 = σ2 at W
  obtain ⟨n1, p1, h1, x1, te, an, fu, fn⟩ := s1
  have en : n1 = nums := en
  have ep : p1 = 0 := ep
  have eh : h1 = [] := eh
  subst en ep eh
  have W : Wk none σ2 ⟨n1, 0, [], [(5, 0)], te, an, fu, fn⟩ := W
  refine ar_st W.w ⟨m_st W.w rfl rfl, newvar_ (n := n + 8) W (by show 0 < 2900; decide) fun σ3 W3 => ?_⟩
  have W3 : Wk none σ3 ⟨n1, 0, [(0, 0)], [(5, 0)], te, an, fu, fn⟩ := W3
  refine ⟨m_st W3.w rfl rfl, newvar_ (n := n + 8) W3 (by show 1 < 2900; decide) fun σ4 W4 => ?_⟩
  have W4 : Wk none σ4 ⟨n1, 0, [(0, 0), (0, 1)], [(5, 0)], te, an, fu, fn⟩ := W4
  refine ⟨m_st W4.w rfl rfl, newvar_ (n := n + 8) W4 (by show 2 < 2900; decide) fun σ5 W5 => ?_⟩
  have W5 : Wk none σ5 ⟨n1, 0, [(0, 0), (0, 1), (0, 2)], [(5, 0)], te, an, fu, fn⟩ := W5
  refine ⟨W5.t, ?_⟩
  have DD : Dw (some (.dat [])) 200 ((16, .dat []) :: σ5) ⟨n1, 0, [(0, 0), (0, 1), (0, 2)], [(5, 0)], te, an, fu, fn⟩ :=
    ⟨W5.open16 [], ⟨I1.a, I1.f, I1.lt, I1.la, I1.lf, I1.ln⟩, hn, D1.mono ⟨fun i c e => by simp at e, fun _ _ e => e, fun _ _ e => e⟩, rfl, fun i hi => by
      rcases lt3 hi with rfl | rfl | rfl <;> rfl⟩
  refine (dgd_ (n := n + 9) (m := 4) DD (by decide) fun σ6 s6 d h6 D6 e6 => add_ (rng1_ (by unfold small; omega) ?_))
  have l6 : s6.h.length = 3 := e6.len
  rw [show (1 : Int) + (d : Int) = ((1 + d : Nat) : Int) by omega]
  refine ⟨by rw [rangeL_0, List.length_map, List.length_range]; omega, ?_⟩
  rw [rangeL_0, List.map_map, List.range_eq_range']
  refine dr_loop (n := n + 5) (1 + d) 0 200 [] σ6 s6 .un rfl (by show 0 + _ < _; omega) (by omega) (by omega) D6 nofun fun σ7 s7 cs l7 N7 D7 hc he hh h7 => ?_
  have hc : cs.length = 0 + (1 + d) := hc
  have W7 := D7.k.close16
  refine frz_ rfl D7.k.t (List.mem_cons_self ..) ?_ W7.hc ?_
  · exact nr_cons (nr0 h0) (nr_cons (by decide) (nr_cons (by decide) (nr_cons (by decide) (nr_cons nofun (nr_cons nofun (nr_cons (nr0 h7) (nr_cons nofun (nr_cons nofun (nr_cons nofun (nr_cons nofun (nr_cons nofun (nr_cons nofun (nr_cons nofun nr_nil)))))))))))))
  exact lawC (n := n) q0 W7 (.inl ⟨_, D7.x⟩) D7.d he (by omega) (by omega)
theorem len20 {ns : List Int} : (ns.take 20).length ≤ 20 := List.length_take_le ..
noncomputable def fuel : Nat := 20
theorem law_true (ns : List Int) (h : ns.length ≤ 63) : callF tb fdT fuel 32 [.d (.list (ns.map .int))] [] fun r _ => r = .d (.bool true) := by
  refine ⟨Nat.le_refl _, Nat.le_refl _, fun k hk => rfl, (lenl_ (by rw [List.length_map]; omega) ?_)⟩
  have e : (ns.map PyData.int).length = ns.length := List.length_map ..
  by_cases h0 : ns = []
  · subst h0
    refine gt_f (by decide) ⟨rfl, rfl, ?_⟩
    exact lawB (n := 9) (l0 := .d (.list [])) (nums := [0]) (by decide) rfl fun _ _ => rfl
  · have hp : 0 < ns.length := List.length_pos_iff.mpr h0
    refine gt_t (by rw [e]; omega) (slck_ (h := 20) (by rw [e]; omega) (mkl1_ (by rw [List.length_take, e]; omega) rfl ⟨rfl, ?_⟩))
    rw [← List.map_take]
    exact lawB (n := 9) (l0 := .d (.list (ns.map .int))) (nums := ns.take 20) (by rw [List.length_take]; omega) rfl fun _ _ => rfl
end
end Mine
end
section
set_option maxRecDepth 100000
open PySem PySem.W PySem.W.X PyProof.Rows
namespace Mine
open Hd
open PySem
noncomputable def KF (P : Params) : Frag := (List.range 807).filterMap fun a => ((tr6 P).get a).bind fun o => (alive o).map fun o => (a, o)
theorem lookup_fm {f : Nat → Option Obj} : ∀ {l : List Nat} {a : Nat} {o : Obj}, (l.filterMap fun a => (f a).map fun o => (a, o)).lookup a = some o → a ∈ l ∧ f a = some o
  | [], _, _, h => by cases h
  | b :: l, a, o, h => by
    rw [List.filterMap_cons] at h
    cases e : f b with
    | none => rw [e] at h; have := lookup_fm (l := l) h; exact ⟨List.mem_cons_of_mem _ this.1, this.2⟩
    | some x =>
      rw [e] at h
      simp only [Option.map_some, List.lookup_cons] at h
      split at h
      · rename_i q
        cases h
        have := eq_of_beq q
        subst this
        exact ⟨List.mem_cons_self .., e⟩
      · have := lookup_fm (l := l) h; exact ⟨List.mem_cons_of_mem _ this.1, this.2⟩
theorem KF_in (P : Params) : (KF P).In (H1 P) := by
  intro a o h
  have e : KF P = (List.range 807).filterMap fun a => (((tr6 P).get a).bind alive).map fun o => (a, o) := by
    unfold KF
    congr 1
    funext a
    cases (tr6 P).get a <;> rfl
  rw [e] at h
  obtain ⟨m, g⟩ := lookup_fm h
  obtain ⟨x, g1, g2⟩ := Option.bind_eq_some_iff.mp g
  rw [abs_get (List.mem_range.mp m) g1, g2]
theorem opn0 : opening pg = plainProg pg.main.scope.names := by kernel_rfl
theorem fnc0 (s : Shared) : fenceModules? pg s = some s := by kernel_rfl
theorem left0 : LeftO pg q0 ls0 Xt0 (fun s => s.heap) (fun w => H1 w.params) 20000 := by
  refine LeftO.of_pieces (boot_open opn0 (by kernel_rfl) fnc0) size0 run0 (by kernel_rfl) fun w => ?_
  have a := look1 w
  have b := look2 w
  rw [← Fast.te5923862056798008813] at a b
  rw [← Fast.te4187177175401517315] at b
  funext os
  exact Prod.ext (congrFun a os) (Prod.ext (congrFun b os) rfl)
theorem ws1 : OpenLaw.wellSaid PySem.Challenge.rw_rr0035_01 = true := by rw [Fast.te9446332074065402090]; exact ws0
@[reducible] def rw0 := PySem.Challenge.rw_rr0035_01.row
theorem dfS : (defOf q0 rw0.name).isSome = true := by kernel_rfl
noncomputable def dk0 : DefRec × List (Str × Expr) := (defOf q0 rw0.name).get dfS
theorem hdef0 : defOf q0 rw0.name = some (dk0.1, dk0.2) := (Option.some_get dfS).symm
theorem hp0 : rw0.prog.theDef rw0.name = some (dk0.1.params, dk0.1.body, dk0.1.scope) := by kernel_rfl
theorem hk0 : kwWritten? dk0.1.params.kwonlyargs dk0.1.params.kw_defaults = some dk0.2 := by kernel_rfl
theorem ok0 : (chainsOk q0 && opensWell rw0.prog && (frees rw0.toRowW && rw0.within.isEmpty)) = true := by kernel_rfl
theorem bare0 : rw0.prog.bare := ⟨rfl, rfl, rfl, rfl, rfl, by decide +kernel⟩
theorem prom0 : rw0.toRowW.promised := by w_witness2
noncomputable def YP0 (w : World) (h : Heap) : Prop := (KF w.params).In h
theorem head0 (hc : WalkO q0 ls0 (XL q0 []) YP0 rw0.toRowW dk0.1 dk0.2 fun f vs => PySem.call f vs) : PySem.Challenge.rw_rr0035_01.Holds :=
  holds_law ws1 fun said => holds_open (q := q0) (loose := ls0) (Xt := Xt0) (XP := XL q0 []) (Yf := fun s => s.heap) (Ya := fun w => H1 w.params) (YP := YP0) left0
    (fun w s e => by show (KF w.params).In s.heap; rw [e]; exact KF_in _) (fun w h h' x k => Frag.In.keeps x k) (fun s e => xl_of s (Bool.and_eq_true_iff.mp e).1) XL.keeps hdef0 hp0 hk0
    (fun s e => recFacts_of (Bool.and_eq_true_iff.mp e).2) rfl said ok0 bare0 prom0 hc
end Mine
end
section
set_option maxRecDepth 100000
open PySem PySem.W PySem.W.X PyProof.Rows
namespace Mine
open Hd
open PySem
theorem chkG (P : Params) : (List.range 54).all (gloOK (KF P)) = true := by kernel_rfl
theorem chkC (P : Params) : (List.range 4).all (clsOK (KF P)) = true := by kernel_rfl
theorem chkF (P : Params) : (List.range 63).all (fnOK' (KF P)) = true := by kernel_rfl
theorem chkL (P : Params) : gIn (KF P) "law" = some (some (.ref (fnA 32))) := by kernel_rfl
end Mine
end
section
set_option maxRecDepth 100000
open PySem PySem.W PySem.W.X PyProof.Rows
open Mine Hd
set_option maxRecDepth 100000 in
set_option maxHeartbeats 0 in
theorem PySem.Challenge.cw_rr0035_01_holds : PySem.Challenge.rw_rr0035_01.Holds :=
head0 (by
  intro w s₀ s₁ mg mb G Y fa o pm cd doc dV kV ho hd' hcd hD hmg hg args vals as hpre hlay hrd hwl hlo
  have KX := Y
  have V := (Ground.X G).2
  refine Ground.open G ?_
  intro T B D TE TW
  clear D hcd hD ho hd'
  wrow_args hpre hlay hrd hwl hlo
  all_goals (first | refine callC_kw (enter_call ?_) | refine enter_call ?_)
  rename_i hs1 hlay1 hL1 hr1 hl1 as1 as2 a1 vs1 as3 hL2 ra1 w1 r0 hI1 hr2 hc1 hc2
  have SWX := sw_of KX (Top.nolimit T) (Top.g T) (Top.b T) (Top.builtins T) (chkG _) (chkC _)
  have CA := call_all (prog := PySem.Challenge.rw_rr0035_01.row.prog) (w := w) SWX nms (fns_of (chkF _)) fuel
  have hfa : fa = fnA 32 := by
    have e1 := gIn_spec KX (Top.g T) (chkL _)
    have e2 := hmg
    have e3 : mg (Str.ofString "law") = some (.ref fa) := e2
    have e4 : mg (Str.ofString "law") = some (.ref (fnA 32)) := e1
    rw [e3] at e4
    cases e4; rfl
  subst hfa
  refine CA 32 [.d (.list (List.map PyData.int _))] ⟨s₁.heap, fun _ => 0, [], s₁.heap⟩ callerA [.ref a1] s₁ (fun r _ => r = .d (.bool true)) _ ⟨rfl, by decide, by decide⟩ ?_ rfl (.cons (.d r0) .nil) (law_true _ (by omega)) fun av v y tk P S r q => ?_
  · refine ⟨fun _ _ e => e, fun _ _ e => e, fun k o e => (by cases e), fun k k1 e => (by cases e), List.nodup_nil, ?_⟩
    obtain ⟨o, es, ep, e, _⟩ := Top.g T
    exact ⟨mainGlobals, o, by decide, e⟩
  · subst q
    have hv := VR.bool r
    subst hv
    refine GoodW.toG ⟨.inl ⟨_, .bool true, [], rfl, fun cls => ?_, .bool true, ?_, fun _ => ⟨List.nodup_nil, fun a h => by simp at h⟩⟩, fun b o e => P.sub _ _ (P.base _ _ e), rfl, hg⟩
    · rfl
    · first | kernel_rfl | with_unfolding_all rfl | decide | simp [ClaimW.post])
end
