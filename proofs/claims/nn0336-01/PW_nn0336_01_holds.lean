import PyProof.Rows.All
import Wide.All
import OpenK.AllK
import Wide.FinOn
import Lean
import PySem.Challenge.RW_nn0336_01
open PySem PySem.W PySem.Calls PyProof.Rows
set_option Elab.async false
set_option maxRecDepth 100000
set_option linter.unusedVariables false

namespace Mine
set_option maxHeartbeats 8000000
noncomputable abbrev pg : Program := PySem.Challenge.pw_nn0336_01
noncomputable def bd : List Stmt := behindTheImports pg
noncomputable def nthS : List Stmt → Nat → Stmt
  | s :: _, 0 => s
  | _ :: r, i + 1 => nthS r i
  | [], _ => .Pass ⟨0, 0, 0, 0⟩
noncomputable def cbS : Stmt → List Stmt
  | .ClassDef _ _ _ b _ _ _ _ _ _ _ => b
  | _ => []
noncomputable def f1 (i : Nat) : Stmt := nthS bd i
noncomputable def f2 (i j : Nat) : Stmt := nthS (cbS (f1 i)) j
noncomputable def nmS : Stmt → Str
  | .FunctionDef n _ _ _ _ _ _ _ _ _ => n
  | _ => ""
noncomputable def pmS : Stmt → Arguments
  | .FunctionDef _ a _ _ _ _ _ _ _ _ => a
  | _ => ⟨[], [], none, [], [], none, []⟩
noncomputable def bdS : Stmt → List Stmt
  | .FunctionDef _ _ b _ _ _ _ _ _ _ => b
  | _ => []
noncomputable def scS : Stmt → Scope
  | .FunctionDef _ _ _ _ _ _ s _ _ _ => s
  | _ => pg.main.scope
noncomputable def fd (s : Stmt) (qual : Str) (g : Addr) (cl : List (Str × Addr)) (d kd doc pm : Value) (an : Option Addr) (cd ct : Value) (b : Addr) : FuncData := ⟨nmS s, qual, pmS s, .stmts (bdS s), scS s, g, cl, d, kd, doc, pm, an, cd, ct, b⟩
noncomputable def e (P : Params) (k : Str) (t : Nat) (v : Value) : DictEntry := ⟨PyData.keyHash P k, .str k t, v⟩
noncomputable def cO (a b : Str) (t : Nat) (i1 i2 i5 : Int) (r1 : Addr) (bb : Bool) (r2 : Addr) (x1 x2 x3 x4 : Value) (i7 : Nat) : Obj :=
  ⟨.type "code", none, .fields #[.str a t, .str b (t + 1), .str "/claim/cut.py" (t + 2), .int i1 0, .int i2 0, .int 0 0, .int 0 0, .int i5 0, .ref r1, .bool bb, .int 181 0, .ref r2, x1, x2, x3, x4, .int i7 0, .int i1 0, .str b (i7 + 1)], #[]⟩
noncomputable def tO (xs : Array Value) : Obj := ⟨.type "tuple", none, .seq xs 0, #[]⟩
noncomputable def o0 : Obj := tO #[]
noncomputable def o1 : Obj := ⟨.none, none, (.fields #[]), #[]⟩
noncomputable def o2 : Obj := ⟨.type "code", none, (.fields #[.str "<module>" 182, .str "<module>" 183, .str "/claim/cut.py" 184, .int 1 0, .int 0 0, .int 0 0, .int 0 0, .int 0 0, .ref 11, .bool false, .int 181 0, .ref 12, .none, .none, .none, .none, .int 185 0, .int 1 0, .str "/claim/cut.py" 186]), #[]⟩
noncomputable def o3 : Obj := ⟨.type "frame", none, .plain, #[some (.ref 13), some (.ref 3), some (.ref 3), none, some (.str "__main__" 164), none, some (.ref 0)]⟩
noncomputable def o4 (P : Params) : Obj := ⟨.none, none, (.dict #[e P "type.__subclasses__.Exception.0" 356 (.int 116 0), e P "type.__subclasses__.Exception.n" 357 (.int 1 0)] 2), #[]⟩
noncomputable def o5 (P : Params) : Obj := ⟨.type "dict", none, (.dict #[e P "__name__" 165 (.str "gateloom.errors" 322), e P "__doc__" 166 .none, e P "__package__" 167 .none, e P "__loader__" 168 (.builtin "__main__.__loader__#opaque"), e P "__spec__" 169 .none, e P "__annotations__" 170 (.ref 6), e P "__builtins__" 171 (.ref 4), e P "__file__" 173 (.str "/claim/cut.py" 172), e P "__cached__" 174 .none, e P "_wall" 193 (.ref 21), e P "Primitive" 236 (.ref 38), e P "parse_primitive" 249 (.ref 49), e P "ansi_ports" 259 (.ref 56), e P "port_declarations" 271 (.ref 63), e P "initial_code" 282 (.ref 70), e P "table_rows" 294 (.ref 77), e P "field_text" 303 (.ref 84), e P "symbols_of" 314 (.ref 91), e P "level_codes" 321 (.ref 98), e P "GateloomError" 359 (.ref 116)] 20), #[]⟩
noncomputable def o6 : Obj := ⟨.none, none, (.fields #[.int 1 0, .int 0 0, .ref 20, .int 5 0, .int 0 0, .ref 27, .int 15 0, .int 0 0, .ref 48, .int 39 0, .int 0 0, .ref 55, .int 53 0, .int 0 0, .ref 62, .int 80 0, .int 0 0, .ref 69, .int 88 0, .int 0 0, .ref 76, .int 107 0, .int 0 0, .ref 83, .int 121 0, .int 0 0, .ref 90, .int 139 0, .int 0 0, .ref 97, .int 152 0, .int 0 0, .ref 104]), #[]⟩
noncomputable def o7 : Obj := tO #[.str "k" 190]
noncomputable def o8 : Obj := ⟨.none, none, (.func (fd (f1 0) "_wall" 0 [] .none .none .none .none none .none .none 0)), #[]⟩
noncomputable def o9 : Obj := ⟨.type "code", none, (.fields #[.str "_wall" 187, .str "_wall" 188, .str "/claim/cut.py" 189, .int 1 0, .int 1 0, .int 0 0, .int 0 0, .int 3 0, .ref 15, .bool true, .int 181 0, .ref 16, .none, .ref 17, .ref 18, .ref 19, .int 191 0, .int 1 0, .str "/claim/cut.py" 192]), #[]⟩
noncomputable def o10 : Obj := ⟨.type "function", none, (.func (fd (f1 0) "_wall" 3 [] .none .none .none (.str "__main__" 164) none (.ref 20) .none 0)), #[]⟩
noncomputable def o11 : Obj := ⟨.type "builtin_function_or_method", none, (.fields #[.builtin "type.__prepare__", .type "type"]), #[]⟩
noncomputable def o12 (P : Params) : Obj := ⟨.type "dict", none, (.dict #[e P "__module__" 203 (.str "gateloom.udps" 194), e P "__qualname__" 205 (.str "Primitive" 204), e P "__firstlineno__" 207 (.int 5 206), e P "__init__" 221 (.ref 35), e P "__static_attributes__" 229 (.ref 36)] 5), #[]⟩
noncomputable def o13 : Obj := ⟨.none, none, (.fields #[.int 7 0, .int 4 0, .ref 34]), #[]⟩
noncomputable def o14 : Obj := ⟨.type "code", none, (.fields #[.str "Primitive" 198, .str "Primitive" 199, .str "/claim/cut.py" 200, .int 5 0, .int 0 0, .int 0 0, .int 0 0, .int 0 0, .ref 25, .bool false, .int 181 0, .ref 26, .none, .none, .none, .none, .int 201 0, .int 5 0, .str "/claim/cut.py" 202]), #[]⟩
noncomputable def o15 : Obj := ⟨.type "frame", none, .plain, #[some (.ref 27), some (.ref 3), some (.ref 24), none, some (.str "gateloom.udps" 194), none, some (.ref 0)]⟩
noncomputable def o16 : Obj := tO #[.str "self" 211, .str "name" 212, .str "at" 213, .str "output" 214, .str "inputs" 215, .str "sequential" 216, .str "init" 217, .str "rows" 218]
noncomputable def o17 : Obj := ⟨.none, none, (.func (fd (f2 2 0) "Primitive.__init__" 0 [] .none .none .none .none none .none .none 0)), #[]⟩
noncomputable def o18 : Obj := ⟨.type "code", none, (.fields #[.str "__init__" 208, .str "Primitive.__init__" 209, .str "/claim/cut.py" 210, .int 7 0, .int 8 0, .int 0 0, .int 0 0, .int 3 0, .ref 29, .bool true, .int 181 0, .ref 30, .none, .ref 31, .ref 32, .ref 33, .int 219 0, .int 7 0, .str "/claim/cut.py" 220]), #[]⟩
noncomputable def o19 : Obj := ⟨.type "function", none, (.func (fd (f2 2 0) "Primitive.__init__" 3 [] .none .none .none (.str "gateloom.udps" 194) none (.ref 34) .none 0)), #[]⟩
noncomputable def o20 : Obj := tO #[.str "at" 222, .str "init" 223, .str "inputs" 224, .str "name" 225, .str "output" 226, .str "rows" 227, .str "sequential" 228]
noncomputable def o21 (P : Params) : Obj := ⟨.type "dict", none, (.dict #[e P "__module__" 203 (.str "gateloom.udps" 194), e P "__firstlineno__" 207 (.int 5 206), e P "__init__" 221 (.ref 35), e P "__static_attributes__" 229 (.ref 36), e P "__dict__" 231 (.ref 39), e P "__weakref__" 233 (.ref 40), e P "__doc__" 234 .none] 4), #[]⟩
noncomputable def o22 : Obj := ⟨.type "type", none, (.cls ⟨"Primitive", [.type "object"], [.ref 38, .type "object"], 37, "Primitive", true, [], [], false, none, false⟩), #[none, none, some (.str "Primitive" 196), some (.str "Primitive" 204), some (.builtin "object.__new__"), some (.bool true)]⟩
noncomputable def o23 : Obj := ⟨.type "getset_descriptor", none, (.fields #[.str "__dict__" 230, .ref 38, .builtin "function.__dict__", .builtin "function.__dict__#set"]), #[]⟩
noncomputable def o24 : Obj := ⟨.type "getset_descriptor", none, (.fields #[.str "__weakref__" 232, .ref 38, .builtin "ExceptionGroup.__weakref__", .none]), #[]⟩
noncomputable def o25 : Obj := ⟨.type "super", none, (.fields #[.ref 38, .ref 38, .ref 38]), #[]⟩
noncomputable def o26 : Obj := ⟨.type "builtin_function_or_method", none, (.fields #[.builtin "object.__init_subclass__", .ref 38]), #[]⟩
noncomputable def o27 : Obj := tO #[.str "parser" 240, .str "at" 241, .str "name" 242, .str "ports" 243, .str "sequential" 244, .str "init" 245, .str "rows" 246]
noncomputable def o28 : Obj := ⟨.none, none, (.func (fd (f1 3) "parse_primitive" 0 [] .none .none .none .none none .none .none 0)), #[]⟩
noncomputable def o29 : Obj := ⟨.type "code", none, (.fields #[.str "parse_primitive" 237, .str "parse_primitive" 238, .str "/claim/cut.py" 239, .int 15 0, .int 1 0, .int 0 0, .int 0 0, .int 3 0, .ref 43, .bool true, .int 181 0, .ref 44, .none, .ref 45, .ref 46, .ref 47, .int 247 0, .int 15 0, .str "/claim/cut.py" 248]), #[]⟩
noncomputable def o30 : Obj := ⟨.type "function", none, (.func (fd (f1 3) "parse_primitive" 3 [] .none .none .none (.str "gateloom.udps" 194) none (.ref 48) .none 0)), #[]⟩
noncomputable def o31 : Obj := tO #[.str "parser" 253, .str "sequential" 254, .str "ports" 255, .str "init" 256]
noncomputable def o32 : Obj := ⟨.none, none, (.func (fd (f1 4) "ansi_ports" 0 [] .none .none .none .none none .none .none 0)), #[]⟩
noncomputable def o33 : Obj := ⟨.type "code", none, (.fields #[.str "ansi_ports" 250, .str "ansi_ports" 251, .str "/claim/cut.py" 252, .int 39 0, .int 1 0, .int 0 0, .int 0 0, .int 3 0, .ref 50, .bool true, .int 181 0, .ref 51, .none, .ref 52, .ref 53, .ref 54, .int 257 0, .int 39 0, .str "/claim/cut.py" 258]), #[]⟩
noncomputable def o34 : Obj := ⟨.type "function", none, (.func (fd (f1 4) "ansi_ports" 3 [] .none .none .none (.str "gateloom.udps" 194) none (.ref 55) .none 0)), #[]⟩
noncomputable def o35 : Obj := tO #[.str "parser" 263, .str "ports" 264, .str "sequential" 265, .str "init" 266, .str "declared" 267, .str "name" 268]
noncomputable def o36 : Obj := ⟨.none, none, (.func (fd (f1 5) "port_declarations" 0 [] .none .none .none .none none .none .none 0)), #[]⟩
noncomputable def o37 : Obj := ⟨.type "code", none, (.fields #[.str "port_declarations" 260, .str "port_declarations" 261, .str "/claim/cut.py" 262, .int 53 0, .int 2 0, .int 0 0, .int 0 0, .int 3 0, .ref 57, .bool true, .int 181 0, .ref 58, .none, .ref 59, .ref 60, .ref 61, .int 269 0, .int 53 0, .str "/claim/cut.py" 270]), #[]⟩
noncomputable def o38 : Obj := ⟨.type "function", none, (.func (fd (f1 5) "port_declarations" 3 [] .none .none .none (.str "gateloom.udps" 194) none (.ref 62) .none 0)), #[]⟩
noncomputable def o39 : Obj := tO #[.str "parser" 275, .str "size" 276, .str "base" 277, .str "signed" 278, .str "digits" 279]
noncomputable def o40 : Obj := ⟨.none, none, (.func (fd (f1 6) "initial_code" 0 [] .none .none .none .none none .none .none 0)), #[]⟩
noncomputable def o41 : Obj := ⟨.type "code", none, (.fields #[.str "initial_code" 272, .str "initial_code" 273, .str "/claim/cut.py" 274, .int 80 0, .int 1 0, .int 0 0, .int 0 0, .int 3 0, .ref 64, .bool true, .int 181 0, .ref 65, .none, .ref 66, .ref 67, .ref 68, .int 280 0, .int 80 0, .str "/claim/cut.py" 281]), #[]⟩
noncomputable def o42 : Obj := ⟨.type "function", none, (.func (fd (f1 6) "initial_code" 3 [] .none .none .none (.str "gateloom.udps" 194) none (.ref 69) .none 0)), #[]⟩
noncomputable def o43 : Obj := tO #[.str "parser" 286, .str "sequential" 287, .str "rows" 288, .str "ins" 289, .str "state" 290, .str "out" 291]
noncomputable def o44 : Obj := ⟨.none, none, (.func (fd (f1 7) "table_rows" 0 [] .none .none .none .none none .none .none 0)), #[]⟩
noncomputable def o45 : Obj := ⟨.type "code", none, (.fields #[.str "table_rows" 283, .str "table_rows" 284, .str "/claim/cut.py" 285, .int 88 0, .int 2 0, .int 0 0, .int 0 0, .int 3 0, .ref 71, .bool true, .int 181 0, .ref 72, .none, .ref 73, .ref 74, .ref 75, .int 292 0, .int 88 0, .str "/claim/cut.py" 293]), #[]⟩
noncomputable def o46 : Obj := ⟨.type "function", none, (.func (fd (f1 7) "table_rows" 3 [] .none .none .none (.str "gateloom.udps" 194) none (.ref 76) .none 0)), #[]⟩
noncomputable def o47 : Obj := tO #[.str "parser" 298, .str "text" 299, .str "token" 300]
noncomputable def o48 : Obj := ⟨.none, none, (.func (fd (f1 8) "field_text" 0 [] .none .none .none .none none .none .none 0)), #[]⟩
noncomputable def o49 : Obj := ⟨.type "code", none, (.fields #[.str "field_text" 295, .str "field_text" 296, .str "/claim/cut.py" 297, .int 107 0, .int 1 0, .int 0 0, .int 0 0, .int 3 0, .ref 78, .bool true, .int 181 0, .ref 79, .none, .ref 80, .ref 81, .ref 82, .int 301 0, .int 107 0, .str "/claim/cut.py" 302]), #[]⟩
noncomputable def o50 : Obj := ⟨.type "function", none, (.func (fd (f1 8) "field_text" 3 [] .none .none .none (.str "gateloom.udps" 194) none (.ref 83) .none 0)), #[]⟩
noncomputable def o51 : Obj := tO #[.str "parser" 307, .str "text" 308, .str "symbols" 309, .str "i" 310, .str "level" 311]
noncomputable def o52 : Obj := ⟨.none, none, (.func (fd (f1 9) "symbols_of" 0 [] .none .none .none .none none .none .none 0)), #[]⟩
noncomputable def o53 : Obj := ⟨.type "code", none, (.fields #[.str "symbols_of" 304, .str "symbols_of" 305, .str "/claim/cut.py" 306, .int 121 0, .int 2 0, .int 0 0, .int 0 0, .int 3 0, .ref 85, .bool true, .int 181 0, .ref 86, .none, .ref 87, .ref 88, .ref 89, .int 312 0, .int 121 0, .str "/claim/cut.py" 313]), #[]⟩
noncomputable def o54 : Obj := ⟨.type "function", none, (.func (fd (f1 9) "symbols_of" 3 [] .none .none .none (.str "gateloom.udps" 194) none (.ref 90) .none 0)), #[]⟩
noncomputable def o55 : Obj := tO #[.str "symbol" 318]
noncomputable def o56 : Obj := ⟨.none, none, (.func (fd (f1 10) "level_codes" 0 [] .none .none .none .none none .none .none 0)), #[]⟩
noncomputable def o57 : Obj := ⟨.type "code", none, (.fields #[.str "level_codes" 315, .str "level_codes" 316, .str "/claim/cut.py" 317, .int 139 0, .int 1 0, .int 0 0, .int 0 0, .int 3 0, .ref 92, .bool true, .int 181 0, .ref 93, .none, .ref 94, .ref 95, .ref 96, .int 319 0, .int 139 0, .str "/claim/cut.py" 320]), #[]⟩
noncomputable def o58 : Obj := ⟨.type "function", none, (.func (fd (f1 10) "level_codes" 3 [] .none .none .none (.str "gateloom.udps" 194) none (.ref 97) .none 0)), #[]⟩
noncomputable def o59 : Obj := tO #[.type "Exception"]
noncomputable def o60 (P : Params) : Obj := ⟨.type "dict", none, (.dict #[e P "__module__" 331 (.str "gateloom.errors" 322), e P "__qualname__" 333 (.str "GateloomError" 332), e P "__firstlineno__" 335 (.int 152 334), e P "__init__" 348 (.ref 113), e P "__static_attributes__" 352 (.ref 114)] 5), #[]⟩
noncomputable def o61 : Obj := ⟨.none, none, (.fields #[.int 154 0, .int 4 0, .ref 112]), #[]⟩
noncomputable def o62 : Obj := ⟨.type "code", none, (.fields #[.str "GateloomError" 326, .str "GateloomError" 327, .str "/claim/cut.py" 328, .int 152 0, .int 0 0, .int 0 0, .int 0 0, .int 0 0, .ref 102, .bool false, .int 181 0, .ref 103, .none, .none, .none, .none, .int 329 0, .int 152 0, .str "/claim/cut.py" 330]), #[]⟩
noncomputable def o63 : Obj := ⟨.type "frame", none, .plain, #[some (.ref 104), some (.ref 3), some (.ref 101), none, some (.str "gateloom.errors" 322), none, some (.ref 0)]⟩
noncomputable def o64 : Obj := tO #[.int (-1) 337, .str "" 338]
noncomputable def o65 : Obj := tO #[.str "self" 342, .str "kind" 343, .str "at" 344, .str "detail" 345]
noncomputable def o66 : Obj := ⟨.none, none, (.func (fd (f2 12 0) "GateloomError.__init__" 0 [] .none .none .none .none none .none .none 0)), #[]⟩
noncomputable def o67 : Obj := ⟨.type "code", none, (.fields #[.str "__init__" 339, .str "GateloomError.__init__" 340, .str "/claim/cut.py" 341, .int 154 0, .int 4 0, .int 0 0, .int 0 0, .int 3 0, .ref 107, .bool true, .int 181 0, .ref 108, .none, .ref 109, .ref 110, .ref 111, .int 346 0, .int 154 0, .str "/claim/cut.py" 347]), #[]⟩
noncomputable def o68 : Obj := ⟨.type "function", none, (.func (fd (f2 12 0) "GateloomError.__init__" 3 [] (.ref 106) .none .none (.str "gateloom.errors" 322) none (.ref 112) .none 0)), #[]⟩
noncomputable def o69 : Obj := tO #[.str "at" 349, .str "detail" 350, .str "kind" 351]
noncomputable def o70 (P : Params) : Obj := ⟨.type "dict", none, (.dict #[e P "__module__" 331 (.str "gateloom.errors" 322), e P "__firstlineno__" 335 (.int 152 334), e P "__init__" 348 (.ref 113), e P "__static_attributes__" 352 (.ref 114), e P "__weakref__" 354 (.ref 117), e P "__doc__" 355 .none] 3), #[]⟩
noncomputable def o71 : Obj := ⟨.type "type", none, (.cls ⟨"GateloomError", [.type "Exception"], [.ref 116, .type "Exception", .type "BaseException", .type "object"], 115, "GateloomError", true, [], [], false, none, false⟩), #[some (.ref 99), none, some (.str "GateloomError" 324), some (.str "GateloomError" 332), some (.builtin "Exception.__new__"), some (.bool true)]⟩
noncomputable def o72 : Obj := ⟨.type "getset_descriptor", none, (.fields #[.str "__weakref__" 353, .ref 116, .builtin "ExceptionGroup.__weakref__", .none]), #[]⟩
noncomputable def o73 : Obj := ⟨.type "super", none, (.fields #[.ref 116, .ref 116, .ref 116]), #[]⟩
noncomputable def o74 : Obj := ⟨.type "builtin_function_or_method", none, (.fields #[.builtin "object.__init_subclass__", .ref 116]), #[]⟩
noncomputable def o75 (P : Params) : Obj := ⟨.type "dict", none, (.dict #[e P "__name__" 165 (.str "gateloom.tokens" 376), e P "__doc__" 166 .none, e P "__package__" 167 .none, e P "__loader__" 168 (.builtin "__main__.__loader__#opaque"), e P "__spec__" 169 .none, e P "__annotations__" 170 (.ref 6), e P "__builtins__" 171 (.ref 4), e P "__file__" 173 (.str "/claim/cut.py" 172), e P "__cached__" 174 .none, e P "_wall" 193 (.ref 21), e P "Primitive" 236 (.ref 38), e P "parse_primitive" 249 (.ref 49), e P "ansi_ports" 259 (.ref 56), e P "port_declarations" 271 (.ref 63), e P "initial_code" 282 (.ref 70), e P "table_rows" 294 (.ref 77), e P "field_text" 303 (.ref 84), e P "symbols_of" 314 (.ref 91), e P "level_codes" 321 (.ref 98), e P "GateloomError" 359 (.ref 116), e P "SourceError" 375 (.ref 129), e P "Token" 410 (.ref 148), e P "keywords" 419 (.ref 159), e P "is_letter" 426 (.ref 166), e P "is_digit" 433 (.ref 173), e P "is_word_char" 440 (.ref 180), e P "is_layout" 447 (.ref 187), e P "fits_base" 457 (.ref 194)] 28), #[]⟩
noncomputable def o76 : Obj := ⟨.none, none, (.fields #[.int 1 0, .int 0 0, .ref 20, .int 5 0, .int 0 0, .ref 27, .int 15 0, .int 0 0, .ref 48, .int 39 0, .int 0 0, .ref 55, .int 53 0, .int 0 0, .ref 62, .int 80 0, .int 0 0, .ref 69, .int 88 0, .int 0 0, .ref 76, .int 107 0, .int 0 0, .ref 83, .int 121 0, .int 0 0, .ref 90, .int 139 0, .int 0 0, .ref 97, .int 152 0, .int 0 0, .ref 104, .int 158 0, .int 0 0, .ref 125, .int 161 0, .int 0 0, .ref 137, .int 167 0, .int 0 0, .ref 158, .int 173 0, .int 0 0, .ref 165, .int 175 0, .int 0 0, .ref 172, .int 177 0, .int 0 0, .ref 179, .int 179 0, .int 0 0, .ref 186, .int 181 0, .int 0 0, .ref 193]), #[]⟩
noncomputable def o77 : Obj := ⟨.type "type", none, (.cls ⟨"GateloomError", [.type "Exception"], [.ref 116, .type "Exception", .type "BaseException", .type "object"], 115, "GateloomError", true, [], [.ref 129], false, none, false⟩), #[some (.ref 99), none, some (.str "GateloomError" 324), some (.str "GateloomError" 332), some (.builtin "Exception.__new__"), some (.bool true)]⟩
noncomputable def o78 : Obj := tO #[.ref 116]
noncomputable def o79 (P : Params) : Obj := ⟨.type "dict", none, (.dict #[e P "__module__" 367 (.str "gateloom.errors" 322), e P "__qualname__" 369 (.str "SourceError" 368), e P "__firstlineno__" 371 (.int 158 370), e P "__static_attributes__" 372 (.ref 127)] 4), #[]⟩
noncomputable def o80 : Obj := ⟨.type "code", none, (.fields #[.str "SourceError" 362, .str "SourceError" 363, .str "/claim/cut.py" 364, .int 158 0, .int 0 0, .int 0 0, .int 0 0, .int 0 0, .ref 123, .bool false, .int 181 0, .ref 124, .none, .none, .none, .none, .int 365 0, .int 158 0, .str "/claim/cut.py" 366]), #[]⟩
noncomputable def o81 : Obj := ⟨.type "frame", none, .plain, #[some (.ref 125), some (.ref 3), some (.ref 122), none, some (.str "gateloom.errors" 322), none, some (.ref 0)]⟩
noncomputable def o82 (P : Params) : Obj := ⟨.type "dict", none, (.dict #[e P "__module__" 367 (.str "gateloom.errors" 322), e P "__firstlineno__" 371 (.int 158 370), e P "__static_attributes__" 372 (.ref 127), e P "__doc__" 373 .none] 2), #[]⟩
noncomputable def o83 : Obj := ⟨.type "type", none, (.cls ⟨"SourceError", [.ref 116], [.ref 129, .ref 116, .type "Exception", .type "BaseException", .type "object"], 128, "SourceError", true, [], [], false, none, false⟩), #[some (.ref 120), none, some (.str "SourceError" 360), some (.str "SourceError" 368), some (.builtin "Exception.__new__"), some (.bool true)]⟩
noncomputable def o84 : Obj := ⟨.type "super", none, (.fields #[.ref 129, .ref 129, .ref 129]), #[]⟩
noncomputable def o85 : Obj := ⟨.type "builtin_function_or_method", none, (.fields #[.builtin "object.__init_subclass__", .ref 129]), #[]⟩
noncomputable def o86 (P : Params) : Obj := ⟨.type "dict", none, (.dict #[e P "__module__" 385 (.str "gateloom.tokens" 376), e P "__qualname__" 387 (.str "Token" 386), e P "__firstlineno__" 389 (.int 161 388), e P "__init__" 399 (.ref 145), e P "__static_attributes__" 403 (.ref 146)] 5), #[]⟩
noncomputable def o87 : Obj := ⟨.none, none, (.fields #[.int 163 0, .int 4 0, .ref 144]), #[]⟩
noncomputable def o88 : Obj := ⟨.type "code", none, (.fields #[.str "Token" 380, .str "Token" 381, .str "/claim/cut.py" 382, .int 161 0, .int 0 0, .int 0 0, .int 0 0, .int 0 0, .ref 135, .bool false, .int 181 0, .ref 136, .none, .none, .none, .none, .int 383 0, .int 161 0, .str "/claim/cut.py" 384]), #[]⟩
noncomputable def o89 : Obj := ⟨.type "frame", none, .plain, #[some (.ref 137), some (.ref 3), some (.ref 134), none, some (.str "gateloom.tokens" 376), none, some (.ref 0)]⟩
noncomputable def o90 : Obj := tO #[.str "self" 393, .str "kind" 394, .str "value" 395, .str "at" 396]
noncomputable def o91 : Obj := ⟨.none, none, (.func (fd (f2 15 0) "Token.__init__" 0 [] .none .none .none .none none .none .none 0)), #[]⟩
noncomputable def o92 : Obj := ⟨.type "code", none, (.fields #[.str "__init__" 390, .str "Token.__init__" 391, .str "/claim/cut.py" 392, .int 163 0, .int 4 0, .int 0 0, .int 0 0, .int 3 0, .ref 139, .bool true, .int 181 0, .ref 140, .none, .ref 141, .ref 142, .ref 143, .int 397 0, .int 163 0, .str "/claim/cut.py" 398]), #[]⟩
noncomputable def o93 : Obj := ⟨.type "function", none, (.func (fd (f2 15 0) "Token.__init__" 3 [] .none .none .none (.str "gateloom.tokens" 376) none (.ref 144) .none 0)), #[]⟩
noncomputable def o94 : Obj := tO #[.str "at" 400, .str "kind" 401, .str "value" 402]
noncomputable def o95 (P : Params) : Obj := ⟨.type "dict", none, (.dict #[e P "__module__" 385 (.str "gateloom.tokens" 376), e P "__firstlineno__" 389 (.int 161 388), e P "__init__" 399 (.ref 145), e P "__static_attributes__" 403 (.ref 146), e P "__dict__" 405 (.ref 149), e P "__weakref__" 407 (.ref 150), e P "__doc__" 408 .none] 4), #[]⟩
noncomputable def o96 : Obj := ⟨.type "type", none, (.cls ⟨"Token", [.type "object"], [.ref 148, .type "object"], 147, "Token", true, [], [], false, none, false⟩), #[none, none, some (.str "Token" 378), some (.str "Token" 386), some (.builtin "object.__new__"), some (.bool true)]⟩
noncomputable def o97 : Obj := ⟨.type "getset_descriptor", none, (.fields #[.str "__dict__" 404, .ref 148, .builtin "function.__dict__", .builtin "function.__dict__#set"]), #[]⟩
noncomputable def o98 : Obj := ⟨.type "getset_descriptor", none, (.fields #[.str "__weakref__" 406, .ref 148, .builtin "ExceptionGroup.__weakref__", .none]), #[]⟩
noncomputable def o99 : Obj := ⟨.type "super", none, (.fields #[.ref 148, .ref 148, .ref 148]), #[]⟩
noncomputable def o100 : Obj := ⟨.type "builtin_function_or_method", none, (.fields #[.builtin "object.__init_subclass__", .ref 148]), #[]⟩
noncomputable def o101 : Obj := tO #[.str "words" 414, .str "found" 415, .str "word" 416]
noncomputable def o102 : Obj := ⟨.none, none, (.func (fd (f1 16) "keywords" 0 [] .none .none .none .none none .none .none 0)), #[]⟩
noncomputable def o103 : Obj := ⟨.type "code", none, (.fields #[.str "keywords" 411, .str "keywords" 412, .str "/claim/cut.py" 413, .int 167 0, .int 0 0, .int 0 0, .int 0 0, .int 3 0, .ref 153, .bool true, .int 181 0, .ref 154, .none, .ref 155, .ref 156, .ref 157, .int 417 0, .int 167 0, .str "/claim/cut.py" 418]), #[]⟩
noncomputable def o104 : Obj := ⟨.type "function", none, (.func (fd (f1 16) "keywords" 3 [] .none .none .none (.str "gateloom.tokens" 376) none (.ref 158) .none 0)), #[]⟩
noncomputable def o105 : Obj := tO #[.str "char" 423]
noncomputable def o106 : Obj := ⟨.none, none, (.func (fd (f1 17) "is_letter" 0 [] .none .none .none .none none .none .none 0)), #[]⟩
noncomputable def o107 : Obj := ⟨.type "code", none, (.fields #[.str "is_letter" 420, .str "is_letter" 421, .str "/claim/cut.py" 422, .int 173 0, .int 1 0, .int 0 0, .int 0 0, .int 3 0, .ref 160, .bool true, .int 181 0, .ref 161, .none, .ref 162, .ref 163, .ref 164, .int 424 0, .int 173 0, .str "/claim/cut.py" 425]), #[]⟩
noncomputable def o108 : Obj := ⟨.type "function", none, (.func (fd (f1 17) "is_letter" 3 [] .none .none .none (.str "gateloom.tokens" 376) none (.ref 165) .none 0)), #[]⟩
noncomputable def o109 : Obj := tO #[.str "char" 430]
noncomputable def o110 : Obj := ⟨.none, none, (.func (fd (f1 18) "is_digit" 0 [] .none .none .none .none none .none .none 0)), #[]⟩
noncomputable def o111 : Obj := ⟨.type "code", none, (.fields #[.str "is_digit" 427, .str "is_digit" 428, .str "/claim/cut.py" 429, .int 175 0, .int 1 0, .int 0 0, .int 0 0, .int 3 0, .ref 167, .bool true, .int 181 0, .ref 168, .none, .ref 169, .ref 170, .ref 171, .int 431 0, .int 175 0, .str "/claim/cut.py" 432]), #[]⟩
noncomputable def o112 : Obj := ⟨.type "function", none, (.func (fd (f1 18) "is_digit" 3 [] .none .none .none (.str "gateloom.tokens" 376) none (.ref 172) .none 0)), #[]⟩
noncomputable def o113 : Obj := tO #[.str "char" 437]
noncomputable def o114 : Obj := ⟨.none, none, (.func (fd (f1 19) "is_word_char" 0 [] .none .none .none .none none .none .none 0)), #[]⟩
noncomputable def o115 : Obj := ⟨.type "code", none, (.fields #[.str "is_word_char" 434, .str "is_word_char" 435, .str "/claim/cut.py" 436, .int 177 0, .int 1 0, .int 0 0, .int 0 0, .int 3 0, .ref 174, .bool true, .int 181 0, .ref 175, .none, .ref 176, .ref 177, .ref 178, .int 438 0, .int 177 0, .str "/claim/cut.py" 439]), #[]⟩
noncomputable def o116 : Obj := ⟨.type "function", none, (.func (fd (f1 19) "is_word_char" 3 [] .none .none .none (.str "gateloom.tokens" 376) none (.ref 179) .none 0)), #[]⟩
noncomputable def o117 : Obj := tO #[.str "char" 444]
noncomputable def o118 : Obj := ⟨.none, none, (.func (fd (f1 20) "is_layout" 0 [] .none .none .none .none none .none .none 0)), #[]⟩
noncomputable def o119 : Obj := ⟨.type "code", none, (.fields #[.str "is_layout" 441, .str "is_layout" 442, .str "/claim/cut.py" 443, .int 179 0, .int 1 0, .int 0 0, .int 0 0, .int 3 0, .ref 181, .bool true, .int 181 0, .ref 182, .none, .ref 183, .ref 184, .ref 185, .int 445 0, .int 179 0, .str "/claim/cut.py" 446]), #[]⟩
noncomputable def o120 : Obj := ⟨.type "function", none, (.func (fd (f1 20) "is_layout" 3 [] .none .none .none (.str "gateloom.tokens" 376) none (.ref 186) .none 0)), #[]⟩
noncomputable def o121 : Obj := tO #[.str "base" 451, .str "digits" 452, .str "allowed" 453, .str "digit" 454]
noncomputable def o122 : Obj := ⟨.none, none, (.func (fd (f1 21) "fits_base" 0 [] .none .none .none .none none .none .none 0)), #[]⟩
noncomputable def o123 : Obj := ⟨.type "code", none, (.fields #[.str "fits_base" 448, .str "fits_base" 449, .str "/claim/cut.py" 450, .int 181 0, .int 2 0, .int 0 0, .int 0 0, .int 3 0, .ref 188, .bool true, .int 181 0, .ref 189, .none, .ref 190, .ref 191, .ref 192, .int 455 0, .int 181 0, .str "/claim/cut.py" 456]), #[]⟩
noncomputable def o124 : Obj := ⟨.type "function", none, (.func (fd (f1 21) "fits_base" 3 [] .none .none .none (.str "gateloom.tokens" 376) none (.ref 193) .none 0)), #[]⟩
noncomputable def o125 (P : Params) : Obj := ⟨.type "dict", none, (.dict #[e P "__name__" 165 (.str "gateloom.tokens" 376), e P "__doc__" 166 .none, e P "__package__" 167 .none, e P "__loader__" 168 (.builtin "__main__.__loader__#opaque"), e P "__spec__" 169 .none, e P "__annotations__" 170 (.ref 6), e P "__builtins__" 171 (.ref 4), e P "__file__" 173 (.str "/claim/cut.py" 172), e P "__cached__" 174 .none, e P "_wall" 193 (.ref 21), e P "Primitive" 236 (.ref 38), e P "parse_primitive" 249 (.ref 49), e P "ansi_ports" 259 (.ref 56), e P "port_declarations" 271 (.ref 63), e P "initial_code" 282 (.ref 70), e P "table_rows" 294 (.ref 77), e P "field_text" 303 (.ref 84), e P "symbols_of" 314 (.ref 91), e P "level_codes" 321 (.ref 98), e P "GateloomError" 359 (.ref 116), e P "SourceError" 375 (.ref 129), e P "Token" 410 (.ref 148), e P "keywords" 419 (.ref 159), e P "is_letter" 426 (.ref 166), e P "is_digit" 433 (.ref 173), e P "is_word_char" 440 (.ref 180), e P "is_layout" 447 (.ref 187), e P "fits_base" 457 (.ref 194), e P "Lexer" 661 (.ref 338)] 29), #[]⟩
noncomputable def o126 : Obj := ⟨.none, none, (.fields #[.int 1 0, .int 0 0, .ref 20, .int 5 0, .int 0 0, .ref 27, .int 15 0, .int 0 0, .ref 48, .int 39 0, .int 0 0, .ref 55, .int 53 0, .int 0 0, .ref 62, .int 80 0, .int 0 0, .ref 69, .int 88 0, .int 0 0, .ref 76, .int 107 0, .int 0 0, .ref 83, .int 121 0, .int 0 0, .ref 90, .int 139 0, .int 0 0, .ref 97, .int 152 0, .int 0 0, .ref 104, .int 158 0, .int 0 0, .ref 125, .int 161 0, .int 0 0, .ref 137, .int 167 0, .int 0 0, .ref 158, .int 173 0, .int 0 0, .ref 165, .int 175 0, .int 0 0, .ref 172, .int 177 0, .int 0 0, .ref 179, .int 179 0, .int 0 0, .ref 186, .int 181 0, .int 0 0, .ref 193, .int 197 0, .int 0 0, .ref 200]), #[]⟩
noncomputable def o127 (P : Params) : Obj := ⟨.type "dict", none, (.dict #[e P "__module__" 465 (.str "gateloom.tokens" 376), e P "__qualname__" 467 (.str "Lexer" 466), e P "__firstlineno__" 469 (.int 197 468), e P "__init__" 479 (.ref 209), e P "char" 487 (.ref 216), e P "pair" 495 (.ref 223), e P "past_layout" 503 (.ref 230), e P "next_token" 512 (.ref 237), e P "skip" 521 (.ref 244), e P "skip_row" 528 (.ref 251), e P "skip_remark" 536 (.ref 258), e P "skip_attribute" 546 (.ref 265), e P "word" 556 (.ref 272), e P "escaped" 565 (.ref 279), e P "system" 574 (.ref 286), e P "number" 585 (.ref 293), e P "is_real" 593 (.ref 300), e P "based" 609 (.ref 307), e P "string" 620 (.ref 314), e P "escape" 632 (.ref 321), e P "escape_end" 641 (.ref 328), e P "operator" 650 (.ref 335), e P "__static_attributes__" 654 (.ref 336)] 23), #[]⟩
noncomputable def o128 : Obj := ⟨.none, none, (.fields #[.int 199 0, .int 4 0, .ref 208, .int 204 0, .int 4 0, .ref 215, .int 207 0, .int 4 0, .ref 222, .int 210 0, .int 4 0, .ref 229, .int 215 0, .int 4 0, .ref 236, .int 235 0, .int 4 0, .ref 243, .int 250 0, .int 4 0, .ref 250, .int 254 0, .int 4 0, .ref 257, .int 263 0, .int 4 0, .ref 264, .int 278 0, .int 4 0, .ref 271, .int 288 0, .int 4 0, .ref 278, .int 297 0, .int 4 0, .ref 285, .int 306 0, .int 4 0, .ref 292, .int 319 0, .int 4 0, .ref 299, .int 328 0, .int 4 0, .ref 306, .int 348 0, .int 4 0, .ref 313, .int 366 0, .int 4 0, .ref 320, .int 383 0, .int 4 0, .ref 327, .int 391 0, .int 4 0, .ref 334]), #[]⟩
noncomputable def o129 : Obj := ⟨.type "code", none, (.fields #[.str "Lexer" 460, .str "Lexer" 461, .str "/claim/cut.py" 462, .int 197 0, .int 0 0, .int 0 0, .int 0 0, .int 0 0, .ref 198, .bool false, .int 181 0, .ref 199, .none, .none, .none, .none, .int 463 0, .int 197 0, .str "/claim/cut.py" 464]), #[]⟩
noncomputable def o130 : Obj := ⟨.type "frame", none, .plain, #[some (.ref 200), some (.ref 3), some (.ref 197), none, some (.str "gateloom.tokens" 376), none, some (.ref 0)]⟩
noncomputable def o131 : Obj := tO #[.int 0 470]
noncomputable def o132 : Obj := tO #[.str "self" 474, .str "text" 475, .str "at" 476]
noncomputable def o133 : Obj := ⟨.none, none, (.func (fd (f2 22 0) "Lexer.__init__" 0 [] .none .none .none .none none .none .none 0)), #[]⟩
noncomputable def o134 : Obj := ⟨.type "code", none, (.fields #[.str "__init__" 471, .str "Lexer.__init__" 472, .str "/claim/cut.py" 473, .int 199 0, .int 3 0, .int 0 0, .int 0 0, .int 3 0, .ref 203, .bool true, .int 181 0, .ref 204, .none, .ref 205, .ref 206, .ref 207, .int 477 0, .int 199 0, .str "/claim/cut.py" 478]), #[]⟩
noncomputable def o135 : Obj := ⟨.type "function", none, (.func (fd (f2 22 0) "Lexer.__init__" 3 [] (.ref 202) .none .none (.str "gateloom.tokens" 376) none (.ref 208) .none 0)), #[]⟩
noncomputable def o136 : Obj := tO #[.str "self" 483, .str "index" 484]
noncomputable def o137 : Obj := ⟨.none, none, (.func (fd (f2 22 1) "Lexer.char" 0 [] .none .none .none .none none .none .none 0)), #[]⟩
noncomputable def o138 : Obj := ⟨.type "code", none, (.fields #[.str "char" 480, .str "Lexer.char" 481, .str "/claim/cut.py" 482, .int 204 0, .int 2 0, .int 0 0, .int 0 0, .int 3 0, .ref 210, .bool true, .int 181 0, .ref 211, .none, .ref 212, .ref 213, .ref 214, .int 485 0, .int 204 0, .str "/claim/cut.py" 486]), #[]⟩
noncomputable def o139 : Obj := ⟨.type "function", none, (.func (fd (f2 22 1) "Lexer.char" 3 [] .none .none .none (.str "gateloom.tokens" 376) none (.ref 215) .none 0)), #[]⟩
noncomputable def o140 : Obj := tO #[.str "self" 491, .str "index" 492]
noncomputable def o141 : Obj := ⟨.none, none, (.func (fd (f2 22 2) "Lexer.pair" 0 [] .none .none .none .none none .none .none 0)), #[]⟩
noncomputable def o142 : Obj := ⟨.type "code", none, (.fields #[.str "pair" 488, .str "Lexer.pair" 489, .str "/claim/cut.py" 490, .int 207 0, .int 2 0, .int 0 0, .int 0 0, .int 3 0, .ref 217, .bool true, .int 181 0, .ref 218, .none, .ref 219, .ref 220, .ref 221, .int 493 0, .int 207 0, .str "/claim/cut.py" 494]), #[]⟩
noncomputable def o143 : Obj := ⟨.type "function", none, (.func (fd (f2 22 2) "Lexer.pair" 3 [] .none .none .none (.str "gateloom.tokens" 376) none (.ref 222) .none 0)), #[]⟩
noncomputable def o144 : Obj := tO #[.str "self" 499, .str "index" 500]
noncomputable def o145 : Obj := ⟨.none, none, (.func (fd (f2 22 3) "Lexer.past_layout" 0 [] .none .none .none .none none .none .none 0)), #[]⟩
noncomputable def o146 : Obj := ⟨.type "code", none, (.fields #[.str "past_layout" 496, .str "Lexer.past_layout" 497, .str "/claim/cut.py" 498, .int 210 0, .int 2 0, .int 0 0, .int 0 0, .int 3 0, .ref 224, .bool true, .int 181 0, .ref 225, .none, .ref 226, .ref 227, .ref 228, .int 501 0, .int 210 0, .str "/claim/cut.py" 502]), #[]⟩
noncomputable def o147 : Obj := ⟨.type "function", none, (.func (fd (f2 22 3) "Lexer.past_layout" 3 [] .none .none .none (.str "gateloom.tokens" 376) none (.ref 229) .none 0)), #[]⟩
noncomputable def o148 : Obj := tO #[.str "self" 507, .str "at" 508, .str "char" 509]
noncomputable def o149 : Obj := ⟨.none, none, (.func (fd (f2 22 4) "Lexer.next_token" 0 [] .none .none .none .none none .none .none 0)), #[]⟩
noncomputable def o150 : Obj := ⟨.type "code", none, (.fields #[.str "next_token" 504, .str "Lexer.next_token" 505, .str "/claim/cut.py" 506, .int 215 0, .int 1 0, .int 0 0, .int 0 0, .int 3 0, .ref 231, .bool true, .int 181 0, .ref 232, .none, .ref 233, .ref 234, .ref 235, .int 510 0, .int 215 0, .str "/claim/cut.py" 511]), #[]⟩
noncomputable def o151 : Obj := ⟨.type "function", none, (.func (fd (f2 22 4) "Lexer.next_token" 3 [] .none .none .none (.str "gateloom.tokens" 376) none (.ref 236) .none 0)), #[]⟩
noncomputable def o152 : Obj := tO #[.str "self" 516, .str "char" 517, .str "pair" 518]
noncomputable def o153 : Obj := ⟨.none, none, (.func (fd (f2 22 5) "Lexer.skip" 0 [] .none .none .none .none none .none .none 0)), #[]⟩
noncomputable def o154 : Obj := ⟨.type "code", none, (.fields #[.str "skip" 513, .str "Lexer.skip" 514, .str "/claim/cut.py" 515, .int 235 0, .int 1 0, .int 0 0, .int 0 0, .int 3 0, .ref 238, .bool true, .int 181 0, .ref 239, .none, .ref 240, .ref 241, .ref 242, .int 519 0, .int 235 0, .str "/claim/cut.py" 520]), #[]⟩
noncomputable def o155 : Obj := ⟨.type "function", none, (.func (fd (f2 22 5) "Lexer.skip" 3 [] .none .none .none (.str "gateloom.tokens" 376) none (.ref 243) .none 0)), #[]⟩
noncomputable def o156 : Obj := tO #[.str "self" 525]
noncomputable def o157 : Obj := ⟨.none, none, (.func (fd (f2 22 6) "Lexer.skip_row" 0 [] .none .none .none .none none .none .none 0)), #[]⟩
noncomputable def o158 : Obj := ⟨.type "code", none, (.fields #[.str "skip_row" 522, .str "Lexer.skip_row" 523, .str "/claim/cut.py" 524, .int 250 0, .int 1 0, .int 0 0, .int 0 0, .int 3 0, .ref 245, .bool true, .int 181 0, .ref 246, .none, .ref 247, .ref 248, .ref 249, .int 526 0, .int 250 0, .str "/claim/cut.py" 527]), #[]⟩
noncomputable def o159 : Obj := ⟨.type "function", none, (.func (fd (f2 22 6) "Lexer.skip_row" 3 [] .none .none .none (.str "gateloom.tokens" 376) none (.ref 250) .none 0)), #[]⟩
noncomputable def o160 : Obj := tO #[.str "self" 532, .str "begun" 533]
noncomputable def o161 : Obj := ⟨.none, none, (.func (fd (f2 22 7) "Lexer.skip_remark" 0 [] .none .none .none .none none .none .none 0)), #[]⟩
noncomputable def o162 : Obj := ⟨.type "code", none, (.fields #[.str "skip_remark" 529, .str "Lexer.skip_remark" 530, .str "/claim/cut.py" 531, .int 254 0, .int 1 0, .int 0 0, .int 0 0, .int 3 0, .ref 252, .bool true, .int 181 0, .ref 253, .none, .ref 254, .ref 255, .ref 256, .int 534 0, .int 254 0, .str "/claim/cut.py" 535]), #[]⟩
noncomputable def o163 : Obj := ⟨.type "function", none, (.func (fd (f2 22 7) "Lexer.skip_remark" 3 [] .none .none .none (.str "gateloom.tokens" 376) none (.ref 257) .none 0)), #[]⟩
noncomputable def o164 : Obj := tO #[.str "self" 540, .str "begun" 541, .str "quoted" 542, .str "char" 543]
noncomputable def o165 : Obj := ⟨.none, none, (.func (fd (f2 22 8) "Lexer.skip_attribute" 0 [] .none .none .none .none none .none .none 0)), #[]⟩
noncomputable def o166 : Obj := ⟨.type "code", none, (.fields #[.str "skip_attribute" 537, .str "Lexer.skip_attribute" 538, .str "/claim/cut.py" 539, .int 263 0, .int 1 0, .int 0 0, .int 0 0, .int 3 0, .ref 259, .bool true, .int 181 0, .ref 260, .none, .ref 261, .ref 262, .ref 263, .int 544 0, .int 263 0, .str "/claim/cut.py" 545]), #[]⟩
noncomputable def o167 : Obj := ⟨.type "function", none, (.func (fd (f2 22 8) "Lexer.skip_attribute" 3 [] .none .none .none (.str "gateloom.tokens" 376) none (.ref 264) .none 0)), #[]⟩
noncomputable def o168 : Obj := tO #[.str "self" 550, .str "at" 551, .str "end" 552, .str "text" 553]
noncomputable def o169 : Obj := ⟨.none, none, (.func (fd (f2 22 9) "Lexer.word" 0 [] .none .none .none .none none .none .none 0)), #[]⟩
noncomputable def o170 : Obj := ⟨.type "code", none, (.fields #[.str "word" 547, .str "Lexer.word" 548, .str "/claim/cut.py" 549, .int 278 0, .int 2 0, .int 0 0, .int 0 0, .int 3 0, .ref 266, .bool true, .int 181 0, .ref 267, .none, .ref 268, .ref 269, .ref 270, .int 554 0, .int 278 0, .str "/claim/cut.py" 555]), #[]⟩
noncomputable def o171 : Obj := ⟨.type "function", none, (.func (fd (f2 22 9) "Lexer.word" 3 [] .none .none .none (.str "gateloom.tokens" 376) none (.ref 271) .none 0)), #[]⟩
noncomputable def o172 : Obj := tO #[.str "self" 560, .str "at" 561, .str "end" 562]
noncomputable def o173 : Obj := ⟨.none, none, (.func (fd (f2 22 10) "Lexer.escaped" 0 [] .none .none .none .none none .none .none 0)), #[]⟩
noncomputable def o174 : Obj := ⟨.type "code", none, (.fields #[.str "escaped" 557, .str "Lexer.escaped" 558, .str "/claim/cut.py" 559, .int 288 0, .int 2 0, .int 0 0, .int 0 0, .int 3 0, .ref 273, .bool true, .int 181 0, .ref 274, .none, .ref 275, .ref 276, .ref 277, .int 563 0, .int 288 0, .str "/claim/cut.py" 564]), #[]⟩
noncomputable def o175 : Obj := ⟨.type "function", none, (.func (fd (f2 22 10) "Lexer.escaped" 3 [] .none .none .none (.str "gateloom.tokens" 376) none (.ref 278) .none 0)), #[]⟩
noncomputable def o176 : Obj := tO #[.str "self" 569, .str "at" 570, .str "end" 571]
noncomputable def o177 : Obj := ⟨.none, none, (.func (fd (f2 22 11) "Lexer.system" 0 [] .none .none .none .none none .none .none 0)), #[]⟩
noncomputable def o178 : Obj := ⟨.type "code", none, (.fields #[.str "system" 566, .str "Lexer.system" 567, .str "/claim/cut.py" 568, .int 297 0, .int 2 0, .int 0 0, .int 0 0, .int 3 0, .ref 280, .bool true, .int 181 0, .ref 281, .none, .ref 282, .ref 283, .ref 284, .int 572 0, .int 297 0, .str "/claim/cut.py" 573]), #[]⟩
noncomputable def o179 : Obj := ⟨.type "function", none, (.func (fd (f2 22 11) "Lexer.system" 3 [] .none .none .none (.str "gateloom.tokens" 376) none (.ref 285) .none 0)), #[]⟩
noncomputable def o180 : Obj := tO #[.str "self" 578, .str "at" 579, .str "end" 580, .str "digits" 581, .str "quote" 582]
noncomputable def o181 : Obj := ⟨.none, none, (.func (fd (f2 22 12) "Lexer.number" 0 [] .none .none .none .none none .none .none 0)), #[]⟩
noncomputable def o182 : Obj := ⟨.type "code", none, (.fields #[.str "number" 575, .str "Lexer.number" 576, .str "/claim/cut.py" 577, .int 306 0, .int 2 0, .int 0 0, .int 0 0, .int 3 0, .ref 287, .bool true, .int 181 0, .ref 288, .none, .ref 289, .ref 290, .ref 291, .int 583 0, .int 306 0, .str "/claim/cut.py" 584]), #[]⟩
noncomputable def o183 : Obj := ⟨.type "function", none, (.func (fd (f2 22 12) "Lexer.number" 3 [] .none .none .none (.str "gateloom.tokens" 376) none (.ref 292) .none 0)), #[]⟩
noncomputable def o184 : Obj := tO #[.str "self" 589, .str "end" 590]
noncomputable def o185 : Obj := ⟨.none, none, (.func (fd (f2 22 13) "Lexer.is_real" 0 [] .none .none .none .none none .none .none 0)), #[]⟩
noncomputable def o186 : Obj := ⟨.type "code", none, (.fields #[.str "is_real" 586, .str "Lexer.is_real" 587, .str "/claim/cut.py" 588, .int 319 0, .int 2 0, .int 0 0, .int 0 0, .int 3 0, .ref 294, .bool true, .int 181 0, .ref 295, .none, .ref 296, .ref 297, .ref 298, .int 591 0, .int 319 0, .str "/claim/cut.py" 592]), #[]⟩
noncomputable def o187 : Obj := ⟨.type "function", none, (.func (fd (f2 22 13) "Lexer.is_real" 3 [] .none .none .none (.str "gateloom.tokens" 376) none (.ref 299) .none 0)), #[]⟩
noncomputable def o188 : Obj := tO #[.str "self" 597, .str "at" 598, .str "quote" 599, .str "size" 600, .str "index" 601, .str "signed" 602, .str "base" 603, .str "begin" 604, .str "end" 605, .str "digits" 606]
noncomputable def o189 : Obj := ⟨.none, none, (.func (fd (f2 22 14) "Lexer.based" 0 [] .none .none .none .none none .none .none 0)), #[]⟩
noncomputable def o190 : Obj := ⟨.type "code", none, (.fields #[.str "based" 594, .str "Lexer.based" 595, .str "/claim/cut.py" 596, .int 328 0, .int 4 0, .int 0 0, .int 0 0, .int 3 0, .ref 301, .bool true, .int 181 0, .ref 302, .none, .ref 303, .ref 304, .ref 305, .int 607 0, .int 328 0, .str "/claim/cut.py" 608]), #[]⟩
noncomputable def o191 : Obj := ⟨.type "function", none, (.func (fd (f2 22 14) "Lexer.based" 3 [] .none .none .none (.str "gateloom.tokens" 376) none (.ref 306) .none 0)), #[]⟩
noncomputable def o192 : Obj := tO #[.str "self" 613, .str "at" 614, .str "chars" 615, .str "index" 616, .str "char" 617]
noncomputable def o193 : Obj := ⟨.none, none, (.func (fd (f2 22 15) "Lexer.string" 0 [] .none .none .none .none none .none .none 0)), #[]⟩
noncomputable def o194 : Obj := ⟨.type "code", none, (.fields #[.str "string" 610, .str "Lexer.string" 611, .str "/claim/cut.py" 612, .int 348 0, .int 2 0, .int 0 0, .int 0 0, .int 3 0, .ref 308, .bool true, .int 181 0, .ref 309, .none, .ref 310, .ref 311, .ref 312, .int 618 0, .int 348 0, .str "/claim/cut.py" 619]), #[]⟩
noncomputable def o195 : Obj := ⟨.type "function", none, (.func (fd (f2 22 15) "Lexer.string" 3 [] .none .none .none (.str "gateloom.tokens" 376) none (.ref 313) .none 0)), #[]⟩
noncomputable def o196 : Obj := tO #[.str "self" 624, .str "index" 625, .str "begun" 626, .str "char" 627, .str "value" 628, .str "digit" 629]
noncomputable def o197 : Obj := ⟨.none, none, (.func (fd (f2 22 16) "Lexer.escape" 0 [] .none .none .none .none none .none .none 0)), #[]⟩
noncomputable def o198 : Obj := ⟨.type "code", none, (.fields #[.str "escape" 621, .str "Lexer.escape" 622, .str "/claim/cut.py" 623, .int 366 0, .int 3 0, .int 0 0, .int 0 0, .int 3 0, .ref 315, .bool true, .int 181 0, .ref 316, .none, .ref 317, .ref 318, .ref 319, .int 630 0, .int 366 0, .str "/claim/cut.py" 631]), #[]⟩
noncomputable def o199 : Obj := ⟨.type "function", none, (.func (fd (f2 22 16) "Lexer.escape" 3 [] .none .none .none (.str "gateloom.tokens" 376) none (.ref 320) .none 0)), #[]⟩
noncomputable def o200 : Obj := tO #[.str "self" 636, .str "index" 637, .str "end" 638]
noncomputable def o201 : Obj := ⟨.none, none, (.func (fd (f2 22 17) "Lexer.escape_end" 0 [] .none .none .none .none none .none .none 0)), #[]⟩
noncomputable def o202 : Obj := ⟨.type "code", none, (.fields #[.str "escape_end" 633, .str "Lexer.escape_end" 634, .str "/claim/cut.py" 635, .int 383 0, .int 2 0, .int 0 0, .int 0 0, .int 3 0, .ref 322, .bool true, .int 181 0, .ref 323, .none, .ref 324, .ref 325, .ref 326, .int 639 0, .int 383 0, .str "/claim/cut.py" 640]), #[]⟩
noncomputable def o203 : Obj := ⟨.type "function", none, (.func (fd (f2 22 17) "Lexer.escape_end" 3 [] .none .none .none (.str "gateloom.tokens" 376) none (.ref 327) .none 0)), #[]⟩
noncomputable def o204 : Obj := tO #[.str "self" 645, .str "at" 646, .str "text" 647]
noncomputable def o205 : Obj := ⟨.none, none, (.func (fd (f2 22 18) "Lexer.operator" 0 [] .none .none .none .none none .none .none 0)), #[]⟩
noncomputable def o206 : Obj := ⟨.type "code", none, (.fields #[.str "operator" 642, .str "Lexer.operator" 643, .str "/claim/cut.py" 644, .int 391 0, .int 2 0, .int 0 0, .int 0 0, .int 3 0, .ref 329, .bool true, .int 181 0, .ref 330, .none, .ref 331, .ref 332, .ref 333, .int 648 0, .int 391 0, .str "/claim/cut.py" 649]), #[]⟩
noncomputable def o207 : Obj := ⟨.type "function", none, (.func (fd (f2 22 18) "Lexer.operator" 3 [] .none .none .none (.str "gateloom.tokens" 376) none (.ref 334) .none 0)), #[]⟩
noncomputable def o208 : Obj := tO #[.str "at" 651, .str "keys" 652, .str "text" 653]
noncomputable def o209 (P : Params) : Obj := ⟨.type "dict", none, (.dict #[e P "__module__" 465 (.str "gateloom.tokens" 376), e P "__firstlineno__" 469 (.int 197 468), e P "__init__" 479 (.ref 209), e P "char" 487 (.ref 216), e P "pair" 495 (.ref 223), e P "past_layout" 503 (.ref 230), e P "next_token" 512 (.ref 237), e P "skip" 521 (.ref 244), e P "skip_row" 528 (.ref 251), e P "skip_remark" 536 (.ref 258), e P "skip_attribute" 546 (.ref 265), e P "word" 556 (.ref 272), e P "escaped" 565 (.ref 279), e P "system" 574 (.ref 286), e P "number" 585 (.ref 293), e P "is_real" 593 (.ref 300), e P "based" 609 (.ref 307), e P "string" 620 (.ref 314), e P "escape" 632 (.ref 321), e P "escape_end" 641 (.ref 328), e P "operator" 650 (.ref 335), e P "__static_attributes__" 654 (.ref 336), e P "__dict__" 656 (.ref 339), e P "__weakref__" 658 (.ref 340), e P "__doc__" 659 .none] 4), #[]⟩
noncomputable def o210 : Obj := ⟨.type "type", none, (.cls ⟨"Lexer", [.type "object"], [.ref 338, .type "object"], 337, "Lexer", true, [], [], false, none, false⟩), #[none, none, some (.str "Lexer" 458), some (.str "Lexer" 466), some (.builtin "object.__new__"), some (.bool true)]⟩
noncomputable def o211 : Obj := ⟨.type "getset_descriptor", none, (.fields #[.str "__dict__" 655, .ref 338, .builtin "function.__dict__", .builtin "function.__dict__#set"]), #[]⟩
noncomputable def o212 : Obj := ⟨.type "getset_descriptor", none, (.fields #[.str "__weakref__" 657, .ref 338, .builtin "ExceptionGroup.__weakref__", .none]), #[]⟩
noncomputable def o213 : Obj := ⟨.type "super", none, (.fields #[.ref 338, .ref 338, .ref 338]), #[]⟩
noncomputable def o214 : Obj := ⟨.type "builtin_function_or_method", none, (.fields #[.builtin "object.__init_subclass__", .ref 338]), #[]⟩
noncomputable def o215 (P : Params) : Obj := ⟨.type "dict", none, (.dict #[e P "__name__" 165 (.str "gateloom.vec" 776), e P "__doc__" 166 .none, e P "__package__" 167 .none, e P "__loader__" 168 (.builtin "__main__.__loader__#opaque"), e P "__spec__" 169 .none, e P "__annotations__" 170 (.ref 6), e P "__builtins__" 171 (.ref 4), e P "__file__" 173 (.str "/claim/cut.py" 172), e P "__cached__" 174 .none, e P "_wall" 193 (.ref 21), e P "Primitive" 236 (.ref 38), e P "parse_primitive" 249 (.ref 49), e P "ansi_ports" 259 (.ref 56), e P "port_declarations" 271 (.ref 63), e P "initial_code" 282 (.ref 70), e P "table_rows" 294 (.ref 77), e P "field_text" 303 (.ref 84), e P "symbols_of" 314 (.ref 91), e P "level_codes" 321 (.ref 98), e P "GateloomError" 359 (.ref 116), e P "SourceError" 375 (.ref 129), e P "Token" 410 (.ref 148), e P "keywords" 419 (.ref 159), e P "is_letter" 426 (.ref 166), e P "is_digit" 433 (.ref 173), e P "is_word_char" 440 (.ref 180), e P "is_layout" 447 (.ref 187), e P "fits_base" 457 (.ref 194), e P "Lexer" 661 (.ref 338), e P "Cursor" 775 (.ref 431)] 30), #[]⟩
noncomputable def o216 : Obj := ⟨.none, none, (.fields #[.int 1 0, .int 0 0, .ref 20, .int 5 0, .int 0 0, .ref 27, .int 15 0, .int 0 0, .ref 48, .int 39 0, .int 0 0, .ref 55, .int 53 0, .int 0 0, .ref 62, .int 80 0, .int 0 0, .ref 69, .int 88 0, .int 0 0, .ref 76, .int 107 0, .int 0 0, .ref 83, .int 121 0, .int 0 0, .ref 90, .int 139 0, .int 0 0, .ref 97, .int 152 0, .int 0 0, .ref 104, .int 158 0, .int 0 0, .ref 125, .int 161 0, .int 0 0, .ref 137, .int 167 0, .int 0 0, .ref 158, .int 173 0, .int 0 0, .ref 165, .int 175 0, .int 0 0, .ref 172, .int 177 0, .int 0 0, .ref 179, .int 179 0, .int 0 0, .ref 186, .int 181 0, .int 0 0, .ref 193, .int 197 0, .int 0 0, .ref 200, .int 401 0, .int 0 0, .ref 348]), #[]⟩
noncomputable def o217 (P : Params) : Obj := ⟨.type "dict", none, (.dict #[e P "__module__" 669 (.str "gateloom.tokens" 376), e P "__qualname__" 671 (.str "Cursor" 670), e P "__firstlineno__" 673 (.int 401 672), e P "__init__" 681 (.ref 356), e P "peek" 690 (.ref 364), e P "take" 698 (.ref 371), e P "is_op" 706 (.ref 378), e P "is_key" 714 (.ref 385), e P "accept_op" 722 (.ref 392), e P "accept_key" 730 (.ref 399), e P "expect_op" 738 (.ref 406), e P "expect_key" 746 (.ref 413), e P "expect_id" 753 (.ref 420), e P "fail" 763 (.ref 428), e P "__static_attributes__" 768 (.ref 429)] 15), #[]⟩
noncomputable def o218 : Obj := ⟨.none, none, (.fields #[.int 403 0, .int 4 0, .ref 355, .int 409 0, .int 4 0, .ref 363, .int 412 0, .int 4 0, .ref 370, .int 421 0, .int 4 0, .ref 377, .int 424 0, .int 4 0, .ref 384, .int 427 0, .int 4 0, .ref 391, .int 433 0, .int 4 0, .ref 398, .int 439 0, .int 4 0, .ref 405, .int 443 0, .int 4 0, .ref 412, .int 447 0, .int 4 0, .ref 419, .int 452 0, .int 4 0, .ref 427]), #[]⟩
noncomputable def o219 : Obj := ⟨.type "code", none, (.fields #[.str "Cursor" 664, .str "Cursor" 665, .str "/claim/cut.py" 666, .int 401 0, .int 0 0, .int 0 0, .int 0 0, .int 0 0, .ref 346, .bool false, .int 181 0, .ref 347, .none, .none, .none, .none, .int 667 0, .int 401 0, .str "/claim/cut.py" 668]), #[]⟩
noncomputable def o220 : Obj := ⟨.type "frame", none, .plain, #[some (.ref 348), some (.ref 3), some (.ref 345), none, some (.str "gateloom.tokens" 376), none, some (.ref 0)]⟩
noncomputable def o221 : Obj := tO #[.str "self" 677, .str "source" 678]
noncomputable def o222 : Obj := ⟨.none, none, (.func (fd (f2 23 0) "Cursor.__init__" 0 [] .none .none .none .none none .none .none 0)), #[]⟩
noncomputable def o223 : Obj := ⟨.type "code", none, (.fields #[.str "__init__" 674, .str "Cursor.__init__" 675, .str "/claim/cut.py" 676, .int 403 0, .int 2 0, .int 0 0, .int 0 0, .int 3 0, .ref 350, .bool true, .int 181 0, .ref 351, .none, .ref 352, .ref 353, .ref 354, .int 679 0, .int 403 0, .str "/claim/cut.py" 680]), #[]⟩
noncomputable def o224 : Obj := ⟨.type "function", none, (.func (fd (f2 23 0) "Cursor.__init__" 3 [] .none .none .none (.str "gateloom.tokens" 376) none (.ref 355) .none 0)), #[]⟩
noncomputable def o225 : Obj := tO #[.int 0 682]
noncomputable def o226 : Obj := tO #[.str "self" 686, .str "n" 687]
noncomputable def o227 : Obj := ⟨.none, none, (.func (fd (f2 23 1) "Cursor.peek" 0 [] .none .none .none .none none .none .none 0)), #[]⟩
noncomputable def o228 : Obj := ⟨.type "code", none, (.fields #[.str "peek" 683, .str "Cursor.peek" 684, .str "/claim/cut.py" 685, .int 409 0, .int 2 0, .int 0 0, .int 0 0, .int 3 0, .ref 358, .bool true, .int 181 0, .ref 359, .none, .ref 360, .ref 361, .ref 362, .int 688 0, .int 409 0, .str "/claim/cut.py" 689]), #[]⟩
noncomputable def o229 : Obj := ⟨.type "function", none, (.func (fd (f2 23 1) "Cursor.peek" 3 [] (.ref 357) .none .none (.str "gateloom.tokens" 376) none (.ref 363) .none 0)), #[]⟩
noncomputable def o230 : Obj := tO #[.str "self" 694, .str "token" 695]
noncomputable def o231 : Obj := ⟨.none, none, (.func (fd (f2 23 2) "Cursor.take" 0 [] .none .none .none .none none .none .none 0)), #[]⟩
noncomputable def o232 : Obj := ⟨.type "code", none, (.fields #[.str "take" 691, .str "Cursor.take" 692, .str "/claim/cut.py" 693, .int 412 0, .int 1 0, .int 0 0, .int 0 0, .int 3 0, .ref 365, .bool true, .int 181 0, .ref 366, .none, .ref 367, .ref 368, .ref 369, .int 696 0, .int 412 0, .str "/claim/cut.py" 697]), #[]⟩
noncomputable def o233 : Obj := ⟨.type "function", none, (.func (fd (f2 23 2) "Cursor.take" 3 [] .none .none .none (.str "gateloom.tokens" 376) none (.ref 370) .none 0)), #[]⟩
noncomputable def o234 : Obj := tO #[.str "self" 702, .str "text" 703]
noncomputable def o235 : Obj := ⟨.none, none, (.func (fd (f2 23 3) "Cursor.is_op" 0 [] .none .none .none .none none .none .none 0)), #[]⟩
noncomputable def o236 : Obj := ⟨.type "code", none, (.fields #[.str "is_op" 699, .str "Cursor.is_op" 700, .str "/claim/cut.py" 701, .int 421 0, .int 2 0, .int 0 0, .int 0 0, .int 3 0, .ref 372, .bool true, .int 181 0, .ref 373, .none, .ref 374, .ref 375, .ref 376, .int 704 0, .int 421 0, .str "/claim/cut.py" 705]), #[]⟩
noncomputable def o237 : Obj := ⟨.type "function", none, (.func (fd (f2 23 3) "Cursor.is_op" 3 [] .none .none .none (.str "gateloom.tokens" 376) none (.ref 377) .none 0)), #[]⟩
noncomputable def o238 : Obj := tO #[.str "self" 710, .str "text" 711]
noncomputable def o239 : Obj := ⟨.none, none, (.func (fd (f2 23 4) "Cursor.is_key" 0 [] .none .none .none .none none .none .none 0)), #[]⟩
noncomputable def o240 : Obj := ⟨.type "code", none, (.fields #[.str "is_key" 707, .str "Cursor.is_key" 708, .str "/claim/cut.py" 709, .int 424 0, .int 2 0, .int 0 0, .int 0 0, .int 3 0, .ref 379, .bool true, .int 181 0, .ref 380, .none, .ref 381, .ref 382, .ref 383, .int 712 0, .int 424 0, .str "/claim/cut.py" 713]), #[]⟩
noncomputable def o241 : Obj := ⟨.type "function", none, (.func (fd (f2 23 4) "Cursor.is_key" 3 [] .none .none .none (.str "gateloom.tokens" 376) none (.ref 384) .none 0)), #[]⟩
noncomputable def o242 : Obj := tO #[.str "self" 718, .str "text" 719]
noncomputable def o243 : Obj := ⟨.none, none, (.func (fd (f2 23 5) "Cursor.accept_op" 0 [] .none .none .none .none none .none .none 0)), #[]⟩
noncomputable def o244 : Obj := ⟨.type "code", none, (.fields #[.str "accept_op" 715, .str "Cursor.accept_op" 716, .str "/claim/cut.py" 717, .int 427 0, .int 2 0, .int 0 0, .int 0 0, .int 3 0, .ref 386, .bool true, .int 181 0, .ref 387, .none, .ref 388, .ref 389, .ref 390, .int 720 0, .int 427 0, .str "/claim/cut.py" 721]), #[]⟩
noncomputable def o245 : Obj := ⟨.type "function", none, (.func (fd (f2 23 5) "Cursor.accept_op" 3 [] .none .none .none (.str "gateloom.tokens" 376) none (.ref 391) .none 0)), #[]⟩
noncomputable def o246 : Obj := tO #[.str "self" 726, .str "text" 727]
noncomputable def o247 : Obj := ⟨.none, none, (.func (fd (f2 23 6) "Cursor.accept_key" 0 [] .none .none .none .none none .none .none 0)), #[]⟩
noncomputable def o248 : Obj := ⟨.type "code", none, (.fields #[.str "accept_key" 723, .str "Cursor.accept_key" 724, .str "/claim/cut.py" 725, .int 433 0, .int 2 0, .int 0 0, .int 0 0, .int 3 0, .ref 393, .bool true, .int 181 0, .ref 394, .none, .ref 395, .ref 396, .ref 397, .int 728 0, .int 433 0, .str "/claim/cut.py" 729]), #[]⟩
noncomputable def o249 : Obj := ⟨.type "function", none, (.func (fd (f2 23 6) "Cursor.accept_key" 3 [] .none .none .none (.str "gateloom.tokens" 376) none (.ref 398) .none 0)), #[]⟩
noncomputable def o250 : Obj := tO #[.str "self" 734, .str "text" 735]
noncomputable def o251 : Obj := ⟨.none, none, (.func (fd (f2 23 7) "Cursor.expect_op" 0 [] .none .none .none .none none .none .none 0)), #[]⟩
noncomputable def o252 : Obj := ⟨.type "code", none, (.fields #[.str "expect_op" 731, .str "Cursor.expect_op" 732, .str "/claim/cut.py" 733, .int 439 0, .int 2 0, .int 0 0, .int 0 0, .int 3 0, .ref 400, .bool true, .int 181 0, .ref 401, .none, .ref 402, .ref 403, .ref 404, .int 736 0, .int 439 0, .str "/claim/cut.py" 737]), #[]⟩
noncomputable def o253 : Obj := ⟨.type "function", none, (.func (fd (f2 23 7) "Cursor.expect_op" 3 [] .none .none .none (.str "gateloom.tokens" 376) none (.ref 405) .none 0)), #[]⟩
noncomputable def o254 : Obj := tO #[.str "self" 742, .str "text" 743]
noncomputable def o255 : Obj := ⟨.none, none, (.func (fd (f2 23 8) "Cursor.expect_key" 0 [] .none .none .none .none none .none .none 0)), #[]⟩
noncomputable def o256 : Obj := ⟨.type "code", none, (.fields #[.str "expect_key" 739, .str "Cursor.expect_key" 740, .str "/claim/cut.py" 741, .int 443 0, .int 2 0, .int 0 0, .int 0 0, .int 3 0, .ref 407, .bool true, .int 181 0, .ref 408, .none, .ref 409, .ref 410, .ref 411, .int 744 0, .int 443 0, .str "/claim/cut.py" 745]), #[]⟩
noncomputable def o257 : Obj := ⟨.type "function", none, (.func (fd (f2 23 8) "Cursor.expect_key" 3 [] .none .none .none (.str "gateloom.tokens" 376) none (.ref 412) .none 0)), #[]⟩
noncomputable def o258 : Obj := tO #[.str "self" 750]
noncomputable def o259 : Obj := ⟨.none, none, (.func (fd (f2 23 9) "Cursor.expect_id" 0 [] .none .none .none .none none .none .none 0)), #[]⟩
noncomputable def o260 : Obj := ⟨.type "code", none, (.fields #[.str "expect_id" 747, .str "Cursor.expect_id" 748, .str "/claim/cut.py" 749, .int 447 0, .int 1 0, .int 0 0, .int 0 0, .int 3 0, .ref 414, .bool true, .int 181 0, .ref 415, .none, .ref 416, .ref 417, .ref 418, .int 751 0, .int 447 0, .str "/claim/cut.py" 752]), #[]⟩
noncomputable def o261 : Obj := ⟨.type "function", none, (.func (fd (f2 23 9) "Cursor.expect_id" 3 [] .none .none .none (.str "gateloom.tokens" 376) none (.ref 419) .none 0)), #[]⟩
noncomputable def o262 : Obj := tO #[.str "" 754]
noncomputable def o263 : Obj := tO #[.str "self" 758, .str "kind" 759, .str "detail" 760]
noncomputable def o264 : Obj := ⟨.none, none, (.func (fd (f2 23 10) "Cursor.fail" 0 [] .none .none .none .none none .none .none 0)), #[]⟩
noncomputable def o265 : Obj := ⟨.type "code", none, (.fields #[.str "fail" 755, .str "Cursor.fail" 756, .str "/claim/cut.py" 757, .int 452 0, .int 3 0, .int 0 0, .int 0 0, .int 3 0, .ref 422, .bool true, .int 181 0, .ref 423, .none, .ref 424, .ref 425, .ref 426, .int 761 0, .int 452 0, .str "/claim/cut.py" 762]), #[]⟩
noncomputable def o266 : Obj := ⟨.type "function", none, (.func (fd (f2 23 10) "Cursor.fail" 3 [] (.ref 421) .none .none (.str "gateloom.tokens" 376) none (.ref 427) .none 0)), #[]⟩
noncomputable def o267 : Obj := tO #[.str "ahead" 764, .str "at" 765, .str "source" 766, .str "token" 767]
noncomputable def o268 (P : Params) : Obj := ⟨.type "dict", none, (.dict #[e P "__module__" 669 (.str "gateloom.tokens" 376), e P "__firstlineno__" 673 (.int 401 672), e P "__init__" 681 (.ref 356), e P "peek" 690 (.ref 364), e P "take" 698 (.ref 371), e P "is_op" 706 (.ref 378), e P "is_key" 714 (.ref 385), e P "accept_op" 722 (.ref 392), e P "accept_key" 730 (.ref 399), e P "expect_op" 738 (.ref 406), e P "expect_key" 746 (.ref 413), e P "expect_id" 753 (.ref 420), e P "fail" 763 (.ref 428), e P "__static_attributes__" 768 (.ref 429), e P "__dict__" 770 (.ref 432), e P "__weakref__" 772 (.ref 433), e P "__doc__" 773 .none] 4), #[]⟩
noncomputable def o269 : Obj := ⟨.type "type", none, (.cls ⟨"Cursor", [.type "object"], [.ref 431, .type "object"], 430, "Cursor", true, [], [], false, none, false⟩), #[none, none, some (.str "Cursor" 662), some (.str "Cursor" 670), some (.builtin "object.__new__"), some (.bool true)]⟩
noncomputable def o270 : Obj := ⟨.type "getset_descriptor", none, (.fields #[.str "__dict__" 769, .ref 431, .builtin "function.__dict__", .builtin "function.__dict__#set"]), #[]⟩
noncomputable def o271 : Obj := ⟨.type "getset_descriptor", none, (.fields #[.str "__weakref__" 771, .ref 431, .builtin "ExceptionGroup.__weakref__", .none]), #[]⟩
noncomputable def o272 : Obj := ⟨.type "super", none, (.fields #[.ref 431, .ref 431, .ref 431]), #[]⟩
noncomputable def o273 : Obj := ⟨.type "builtin_function_or_method", none, (.fields #[.builtin "object.__init_subclass__", .ref 431]), #[]⟩
noncomputable def o274 (P : Params) : Obj := ⟨.type "dict", none, (.dict #[e P "__name__" 165 (.str "gateloom.exprparse" 880), e P "__doc__" 166 .none, e P "__package__" 167 .none, e P "__loader__" 168 (.builtin "__main__.__loader__#opaque"), e P "__spec__" 169 .none, e P "__annotations__" 170 (.ref 6), e P "__builtins__" 171 (.ref 4), e P "__file__" 173 (.str "/claim/cut.py" 172), e P "__cached__" 174 .none, e P "_wall" 193 (.ref 21), e P "Primitive" 236 (.ref 38), e P "parse_primitive" 249 (.ref 49), e P "ansi_ports" 259 (.ref 56), e P "port_declarations" 271 (.ref 63), e P "initial_code" 282 (.ref 70), e P "table_rows" 294 (.ref 77), e P "field_text" 303 (.ref 84), e P "symbols_of" 314 (.ref 91), e P "level_codes" 321 (.ref 98), e P "GateloomError" 359 (.ref 116), e P "SourceError" 375 (.ref 129), e P "Token" 410 (.ref 148), e P "keywords" 419 (.ref 159), e P "is_letter" 426 (.ref 166), e P "is_digit" 433 (.ref 173), e P "is_word_char" 440 (.ref 180), e P "is_layout" 447 (.ref 187), e P "fits_base" 457 (.ref 194), e P "Lexer" 661 (.ref 338), e P "Cursor" 775 (.ref 431), e P "mask" 784 (.ref 442), e P "vec" 795 (.ref 450), e P "MOST_BITS" 799 (.int 65536 798), e P "PLAIN_BITS" 801 (.int 32 800), e P "digit_bits" 808 (.ref 457), e P "decimal_value" 817 (.ref 464), e P "size_value" 826 (.ref 471), e P "digit_pair" 834 (.ref 478), e P "grouped" 849 (.ref 485), e P "padded_vec" 861 (.ref 492), e P "numeral" 879 (.ref 499), e P "precedence" 888 (.ref 506), e P "is_unary" 895 (.ref 513), e P "plain_operator" 902 (.ref 520)] 44), #[]⟩
noncomputable def o275 : Obj := ⟨.none, none, (.fields #[.int 1 0, .int 0 0, .ref 20, .int 5 0, .int 0 0, .ref 27, .int 15 0, .int 0 0, .ref 48, .int 39 0, .int 0 0, .ref 55, .int 53 0, .int 0 0, .ref 62, .int 80 0, .int 0 0, .ref 69, .int 88 0, .int 0 0, .ref 76, .int 107 0, .int 0 0, .ref 83, .int 121 0, .int 0 0, .ref 90, .int 139 0, .int 0 0, .ref 97, .int 152 0, .int 0 0, .ref 104, .int 158 0, .int 0 0, .ref 125, .int 161 0, .int 0 0, .ref 137, .int 167 0, .int 0 0, .ref 158, .int 173 0, .int 0 0, .ref 165, .int 175 0, .int 0 0, .ref 172, .int 177 0, .int 0 0, .ref 179, .int 179 0, .int 0 0, .ref 186, .int 181 0, .int 0 0, .ref 193, .int 197 0, .int 0 0, .ref 200, .int 401 0, .int 0 0, .ref 348, .int 455 0, .int 0 0, .ref 441, .int 457 0, .int 0 0, .ref 449, .int 463 0, .int 0 0, .ref 456, .int 469 0, .int 0 0, .ref 463, .int 474 0, .int 0 0, .ref 470, .int 479 0, .int 0 0, .ref 477, .int 485 0, .int 0 0, .ref 484, .int 495 0, .int 0 0, .ref 491, .int 503 0, .int 0 0, .ref 498, .int 527 0, .int 0 0, .ref 505, .int 551 0, .int 0 0, .ref 512, .int 553 0, .int 0 0, .ref 519]), #[]⟩
noncomputable def o276 : Obj := tO #[.str "w" 781]
noncomputable def o277 : Obj := ⟨.none, none, (.func (fd (f1 25) "mask" 0 [] .none .none .none .none none .none .none 0)), #[]⟩
noncomputable def o278 : Obj := ⟨.type "code", none, (.fields #[.str "mask" 778, .str "mask" 779, .str "/claim/cut.py" 780, .int 455 0, .int 1 0, .int 0 0, .int 0 0, .int 3 0, .ref 436, .bool true, .int 181 0, .ref 437, .none, .ref 438, .ref 439, .ref 440, .int 782 0, .int 455 0, .str "/claim/cut.py" 783]), #[]⟩
noncomputable def o279 : Obj := ⟨.type "function", none, (.func (fd (f1 25) "mask" 3 [] .none .none .none (.str "gateloom.vec" 776) none (.ref 441) .none 0)), #[]⟩
noncomputable def o280 : Obj := tO #[.int 0 785]
noncomputable def o281 : Obj := tO #[.str "w" 789, .str "a" 790, .str "b" 791, .str "full" 792]
noncomputable def o282 : Obj := ⟨.none, none, (.func (fd (f1 26) "vec" 0 [] .none .none .none .none none .none .none 0)), #[]⟩
noncomputable def o283 : Obj := ⟨.type "code", none, (.fields #[.str "vec" 786, .str "vec" 787, .str "/claim/cut.py" 788, .int 457 0, .int 3 0, .int 0 0, .int 0 0, .int 3 0, .ref 444, .bool true, .int 181 0, .ref 445, .none, .ref 446, .ref 447, .ref 448, .int 793 0, .int 457 0, .str "/claim/cut.py" 794]), #[]⟩
noncomputable def o284 : Obj := ⟨.type "function", none, (.func (fd (f1 26) "vec" 3 [] (.ref 443) .none .none (.str "gateloom.vec" 776) none (.ref 449) .none 0)), #[]⟩
noncomputable def o285 : Obj := tO #[.str "base" 805]
noncomputable def o286 : Obj := ⟨.none, none, (.func (fd (f1 30) "digit_bits" 0 [] .none .none .none .none none .none .none 0)), #[]⟩
noncomputable def o287 : Obj := ⟨.type "code", none, (.fields #[.str "digit_bits" 802, .str "digit_bits" 803, .str "/claim/cut.py" 804, .int 463 0, .int 1 0, .int 0 0, .int 0 0, .int 3 0, .ref 451, .bool true, .int 181 0, .ref 452, .none, .ref 453, .ref 454, .ref 455, .int 806 0, .int 463 0, .str "/claim/cut.py" 807]), #[]⟩
noncomputable def o288 : Obj := ⟨.type "function", none, (.func (fd (f1 30) "digit_bits" 3 [] .none .none .none (.str "gateloom.numerals" 796) none (.ref 456) .none 0)), #[]⟩
noncomputable def o289 : Obj := tO #[.str "digits" 812, .str "value" 813, .str "digit" 814]
noncomputable def o290 : Obj := ⟨.none, none, (.func (fd (f1 31) "decimal_value" 0 [] .none .none .none .none none .none .none 0)), #[]⟩
noncomputable def o291 : Obj := ⟨.type "code", none, (.fields #[.str "decimal_value" 809, .str "decimal_value" 810, .str "/claim/cut.py" 811, .int 469 0, .int 1 0, .int 0 0, .int 0 0, .int 3 0, .ref 458, .bool true, .int 181 0, .ref 459, .none, .ref 460, .ref 461, .ref 462, .int 815 0, .int 469 0, .str "/claim/cut.py" 816]), #[]⟩
noncomputable def o292 : Obj := ⟨.type "function", none, (.func (fd (f1 31) "decimal_value" 3 [] .none .none .none (.str "gateloom.numerals" 796) none (.ref 463) .none 0)), #[]⟩
noncomputable def o293 : Obj := tO #[.str "size" 821, .str "at" 822, .str "digits" 823]
noncomputable def o294 : Obj := ⟨.none, none, (.func (fd (f1 32) "size_value" 0 [] .none .none .none .none none .none .none 0)), #[]⟩
noncomputable def o295 : Obj := ⟨.type "code", none, (.fields #[.str "size_value" 818, .str "size_value" 819, .str "/claim/cut.py" 820, .int 474 0, .int 2 0, .int 0 0, .int 0 0, .int 3 0, .ref 465, .bool true, .int 181 0, .ref 466, .none, .ref 467, .ref 468, .ref 469, .int 824 0, .int 474 0, .str "/claim/cut.py" 825]), #[]⟩
noncomputable def o296 : Obj := ⟨.type "function", none, (.func (fd (f1 32) "size_value" 3 [] .none .none .none (.str "gateloom.numerals" 796) none (.ref 470) .none 0)), #[]⟩
noncomputable def o297 : Obj := tO #[.str "digit" 830, .str "full" 831]
noncomputable def o298 : Obj := ⟨.none, none, (.func (fd (f1 33) "digit_pair" 0 [] .none .none .none .none none .none .none 0)), #[]⟩
noncomputable def o299 : Obj := ⟨.type "code", none, (.fields #[.str "digit_pair" 827, .str "digit_pair" 828, .str "/claim/cut.py" 829, .int 479 0, .int 2 0, .int 0 0, .int 0 0, .int 3 0, .ref 472, .bool true, .int 181 0, .ref 473, .none, .ref 474, .ref 475, .ref 476, .int 832 0, .int 479 0, .str "/claim/cut.py" 833]), #[]⟩
noncomputable def o300 : Obj := ⟨.type "function", none, (.func (fd (f1 33) "digit_pair" 3 [] .none .none .none (.str "gateloom.numerals" 796) none (.ref 477) .none 0)), #[]⟩
noncomputable def o301 : Obj := tO #[.str "base" 838, .str "digits" 839, .str "count" 840, .str "full" 841, .str "a" 842, .str "b" 843, .str "digit" 844, .str "low" 845, .str "high" 846]
noncomputable def o302 : Obj := ⟨.none, none, (.func (fd (f1 34) "grouped" 0 [] .none .none .none .none none .none .none 0)), #[]⟩
noncomputable def o303 : Obj := ⟨.type "code", none, (.fields #[.str "grouped" 835, .str "grouped" 836, .str "/claim/cut.py" 837, .int 485 0, .int 2 0, .int 0 0, .int 0 0, .int 3 0, .ref 479, .bool true, .int 181 0, .ref 480, .none, .ref 481, .ref 482, .ref 483, .int 847 0, .int 485 0, .str "/claim/cut.py" 848]), #[]⟩
noncomputable def o304 : Obj := ⟨.type "function", none, (.func (fd (f1 34) "grouped" 3 [] .none .none .none (.str "gateloom.numerals" 796) none (.ref 484) .none 0)), #[]⟩
noncomputable def o305 : Obj := tO #[.str "w" 853, .str "width" 854, .str "a" 855, .str "b" 856, .str "first" 857, .str "fill" 858]
noncomputable def o306 : Obj := ⟨.none, none, (.func (fd (f1 35) "padded_vec" 0 [] .none .none .none .none none .none .none 0)), #[]⟩
noncomputable def o307 : Obj := ⟨.type "code", none, (.fields #[.str "padded_vec" 850, .str "padded_vec" 851, .str "/claim/cut.py" 852, .int 495 0, .int 5 0, .int 0 0, .int 0 0, .int 3 0, .ref 486, .bool true, .int 181 0, .ref 487, .none, .ref 488, .ref 489, .ref 490, .int 859 0, .int 495 0, .str "/claim/cut.py" 860]), #[]⟩
noncomputable def o308 : Obj := ⟨.type "function", none, (.func (fd (f1 35) "padded_vec" 3 [] .none .none .none (.str "gateloom.numerals" 796) none (.ref 491) .none 0)), #[]⟩
noncomputable def o309 : Obj := tO #[.str "value" 865, .str "at" 866, .str "size" 867, .str "base" 868, .str "signed" 869, .str "digits" 870, .str "first" 871, .str "plain" 872, .str "width" 873, .str "a" 874, .str "b" 875, .str "w" 876]
noncomputable def o310 : Obj := ⟨.none, none, (.func (fd (f1 36) "numeral" 0 [] .none .none .none .none none .none .none 0)), #[]⟩
noncomputable def o311 : Obj := ⟨.type "code", none, (.fields #[.str "numeral" 862, .str "numeral" 863, .str "/claim/cut.py" 864, .int 503 0, .int 2 0, .int 0 0, .int 0 0, .int 3 0, .ref 493, .bool true, .int 181 0, .ref 494, .none, .ref 495, .ref 496, .ref 497, .int 877 0, .int 503 0, .str "/claim/cut.py" 878]), #[]⟩
noncomputable def o312 : Obj := ⟨.type "function", none, (.func (fd (f1 36) "numeral" 3 [] .none .none .none (.str "gateloom.numerals" 796) none (.ref 498) .none 0)), #[]⟩
noncomputable def o313 : Obj := tO #[.str "op" 885]
noncomputable def o314 : Obj := ⟨.none, none, (.func (fd (f1 38) "precedence" 0 [] .none .none .none .none none .none .none 0)), #[]⟩
noncomputable def o315 : Obj := ⟨.type "code", none, (.fields #[.str "precedence" 882, .str "precedence" 883, .str "/claim/cut.py" 884, .int 527 0, .int 1 0, .int 0 0, .int 0 0, .int 3 0, .ref 500, .bool true, .int 181 0, .ref 501, .none, .ref 502, .ref 503, .ref 504, .int 886 0, .int 527 0, .str "/claim/cut.py" 887]), #[]⟩
noncomputable def o316 : Obj := ⟨.type "function", none, (.func (fd (f1 38) "precedence" 3 [] .none .none .none (.str "gateloom.exprparse" 880) none (.ref 505) .none 0)), #[]⟩
noncomputable def o317 : Obj := tO #[.str "op" 892]
noncomputable def o318 : Obj := ⟨.none, none, (.func (fd (f1 39) "is_unary" 0 [] .none .none .none .none none .none .none 0)), #[]⟩
noncomputable def o319 : Obj := ⟨.type "code", none, (.fields #[.str "is_unary" 889, .str "is_unary" 890, .str "/claim/cut.py" 891, .int 551 0, .int 1 0, .int 0 0, .int 0 0, .int 3 0, .ref 507, .bool true, .int 181 0, .ref 508, .none, .ref 509, .ref 510, .ref 511, .int 893 0, .int 551 0, .str "/claim/cut.py" 894]), #[]⟩
noncomputable def o320 : Obj := ⟨.type "function", none, (.func (fd (f1 39) "is_unary" 3 [] .none .none .none (.str "gateloom.exprparse" 880) none (.ref 512) .none 0)), #[]⟩
noncomputable def o321 : Obj := tO #[.str "op" 899]
noncomputable def o322 : Obj := ⟨.none, none, (.func (fd (f1 40) "plain_operator" 0 [] .none .none .none .none none .none .none 0)), #[]⟩
noncomputable def o323 : Obj := ⟨.type "code", none, (.fields #[.str "plain_operator" 896, .str "plain_operator" 897, .str "/claim/cut.py" 898, .int 553 0, .int 1 0, .int 0 0, .int 0 0, .int 3 0, .ref 514, .bool true, .int 181 0, .ref 515, .none, .ref 516, .ref 517, .ref 518, .int 900 0, .int 553 0, .str "/claim/cut.py" 901]), #[]⟩
noncomputable def o324 : Obj := ⟨.type "function", none, (.func (fd (f1 40) "plain_operator" 3 [] .none .none .none (.str "gateloom.exprparse" 880) none (.ref 519) .none 0)), #[]⟩
noncomputable def o325 (P : Params) : Obj := ⟨.type "dict", none, (.dict #[e P "__name__" 165 (.str "gateloom.exprparse" 880), e P "__doc__" 166 .none, e P "__package__" 167 .none, e P "__loader__" 168 (.builtin "__main__.__loader__#opaque"), e P "__spec__" 169 .none, e P "__annotations__" 170 (.ref 6), e P "__builtins__" 171 (.ref 4), e P "__file__" 173 (.str "/claim/cut.py" 172), e P "__cached__" 174 .none, e P "_wall" 193 (.ref 21), e P "Primitive" 236 (.ref 38), e P "parse_primitive" 249 (.ref 49), e P "ansi_ports" 259 (.ref 56), e P "port_declarations" 271 (.ref 63), e P "initial_code" 282 (.ref 70), e P "table_rows" 294 (.ref 77), e P "field_text" 303 (.ref 84), e P "symbols_of" 314 (.ref 91), e P "level_codes" 321 (.ref 98), e P "GateloomError" 359 (.ref 116), e P "SourceError" 375 (.ref 129), e P "Token" 410 (.ref 148), e P "keywords" 419 (.ref 159), e P "is_letter" 426 (.ref 166), e P "is_digit" 433 (.ref 173), e P "is_word_char" 440 (.ref 180), e P "is_layout" 447 (.ref 187), e P "fits_base" 457 (.ref 194), e P "Lexer" 661 (.ref 338), e P "Cursor" 775 (.ref 431), e P "mask" 784 (.ref 442), e P "vec" 795 (.ref 450), e P "MOST_BITS" 799 (.int 65536 798), e P "PLAIN_BITS" 801 (.int 32 800), e P "digit_bits" 808 (.ref 457), e P "decimal_value" 817 (.ref 464), e P "size_value" 826 (.ref 471), e P "digit_pair" 834 (.ref 478), e P "grouped" 849 (.ref 485), e P "padded_vec" 861 (.ref 492), e P "numeral" 879 (.ref 499), e P "precedence" 888 (.ref 506), e P "is_unary" 895 (.ref 513), e P "plain_operator" 902 (.ref 520), e P "ExprParser" 1101 (.ref 670)] 45), #[]⟩
noncomputable def o326 : Obj := ⟨.none, none, (.fields #[.int 1 0, .int 0 0, .ref 20, .int 5 0, .int 0 0, .ref 27, .int 15 0, .int 0 0, .ref 48, .int 39 0, .int 0 0, .ref 55, .int 53 0, .int 0 0, .ref 62, .int 80 0, .int 0 0, .ref 69, .int 88 0, .int 0 0, .ref 76, .int 107 0, .int 0 0, .ref 83, .int 121 0, .int 0 0, .ref 90, .int 139 0, .int 0 0, .ref 97, .int 152 0, .int 0 0, .ref 104, .int 158 0, .int 0 0, .ref 125, .int 161 0, .int 0 0, .ref 137, .int 167 0, .int 0 0, .ref 158, .int 173 0, .int 0 0, .ref 165, .int 175 0, .int 0 0, .ref 172, .int 177 0, .int 0 0, .ref 179, .int 179 0, .int 0 0, .ref 186, .int 181 0, .int 0 0, .ref 193, .int 197 0, .int 0 0, .ref 200, .int 401 0, .int 0 0, .ref 348, .int 455 0, .int 0 0, .ref 441, .int 457 0, .int 0 0, .ref 449, .int 463 0, .int 0 0, .ref 456, .int 469 0, .int 0 0, .ref 463, .int 474 0, .int 0 0, .ref 470, .int 479 0, .int 0 0, .ref 477, .int 485 0, .int 0 0, .ref 484, .int 495 0, .int 0 0, .ref 491, .int 503 0, .int 0 0, .ref 498, .int 527 0, .int 0 0, .ref 505, .int 551 0, .int 0 0, .ref 512, .int 553 0, .int 0 0, .ref 519, .int 557 0, .int 0 0, .ref 526]), #[]⟩
noncomputable def o327 : Obj := ⟨.type "type", none, (.cls ⟨"Cursor", [.type "object"], [.ref 431, .type "object"], 430, "Cursor", true, [], [.ref 670], false, none, false⟩), #[none, none, some (.str "Cursor" 662), some (.str "Cursor" 670), some (.builtin "object.__new__"), some (.bool true)]⟩
noncomputable def o328 : Obj := tO #[.ref 431]
noncomputable def o329 (P : Params) : Obj := ⟨.type "dict", none, (.dict #[e P "__module__" 910 (.str "gateloom.exprparse" 880), e P "__qualname__" 912 (.str "ExprParser" 911), e P "__firstlineno__" 914 (.int 557 913), e P "expression" 926 (.ref 534), e P "binary" 939 (.ref 541), e P "unary" 950 (.ref 548), e P "primary" 965 (.ref 555), e P "named_primary" 973 (.ref 562), e P "braces" 983 (.ref 569), e P "expression_list" 991 (.ref 576), e P "arguments" 999 (.ref 583), e P "mintypmax" 1008 (.ref 590), e P "reference" 1019 (.ref 597), e P "path_term" 1028 (.ref 604), e P "selects" 1036 (.ref 611), e P "bracket" 1046 (.ref 618), e P "with_select" 1055 (.ref 625), e P "lvalue" 1062 (.ref 632), e P "name_path" 1069 (.ref 639), e P "range_or_none" 1076 (.ref 646), e P "delay_value" 1083 (.ref 653), e P "delay" 1090 (.ref 660), e P "delays" 1097 (.ref 667), e P "__static_attributes__" 1098 (.ref 668)] 24), #[]⟩
noncomputable def o330 : Obj := ⟨.none, none, (.fields #[.int 559 0, .int 4 0, .ref 533, .int 573 0, .int 4 0, .ref 540, .int 586 0, .int 4 0, .ref 547, .int 596 0, .int 4 0, .ref 554, .int 623 0, .int 4 0, .ref 561, .int 629 0, .int 4 0, .ref 568, .int 644 0, .int 4 0, .ref 575, .int 650 0, .int 4 0, .ref 582, .int 658 0, .int 4 0, .ref 589, .int 667 0, .int 4 0, .ref 596, .int 682 0, .int 4 0, .ref 603, .int 687 0, .int 4 0, .ref 610, .int 694 0, .int 4 0, .ref 617, .int 710 0, .int 4 0, .ref 624, .int 715 0, .int 4 0, .ref 631, .int 718 0, .int 4 0, .ref 638, .int 721 0, .int 4 0, .ref 645, .int 724 0, .int 4 0, .ref 652, .int 727 0, .int 4 0, .ref 659, .int 730 0, .int 4 0, .ref 666]), #[]⟩
noncomputable def o331 : Obj := ⟨.type "code", none, (.fields #[.str "ExprParser" 905, .str "ExprParser" 906, .str "/claim/cut.py" 907, .int 557 0, .int 0 0, .int 0 0, .int 0 0, .int 0 0, .ref 524, .bool false, .int 181 0, .ref 525, .none, .none, .none, .none, .int 908 0, .int 557 0, .str "/claim/cut.py" 909]), #[]⟩
noncomputable def o332 : Obj := ⟨.type "frame", none, .plain, #[some (.ref 526), some (.ref 3), some (.ref 523), none, some (.str "gateloom.exprparse" 880), none, some (.ref 0)]⟩
noncomputable def o333 : Obj := tO #[.str "self" 918, .str "tests" 919, .str "last" 920, .str "at" 921, .str "chosen" 922, .str "test" 923]
noncomputable def o334 : Obj := ⟨.none, none, (.func (fd (f2 41 0) "ExprParser.expression" 0 [] .none .none .none .none none .none .none 0)), #[]⟩
noncomputable def o335 : Obj := ⟨.type "code", none, (.fields #[.str "expression" 915, .str "ExprParser.expression" 916, .str "/claim/cut.py" 917, .int 559 0, .int 1 0, .int 0 0, .int 0 0, .int 3 0, .ref 528, .bool true, .int 181 0, .ref 529, .none, .ref 530, .ref 531, .ref 532, .int 924 0, .int 559 0, .str "/claim/cut.py" 925]), #[]⟩
noncomputable def o336 : Obj := ⟨.type "function", none, (.func (fd (f2 41 0) "ExprParser.expression" 3 [] .none .none .none (.str "gateloom.exprparse" 880) none (.ref 533) .none 0)), #[]⟩
noncomputable def o337 : Obj := tO #[.str "self" 930, .str "least" 931, .str "left" 932, .str "op" 933, .str "strength" 934, .str "at" 935, .str "right" 936]
noncomputable def o338 : Obj := ⟨.none, none, (.func (fd (f2 41 1) "ExprParser.binary" 0 [] .none .none .none .none none .none .none 0)), #[]⟩
noncomputable def o339 : Obj := ⟨.type "code", none, (.fields #[.str "binary" 927, .str "ExprParser.binary" 928, .str "/claim/cut.py" 929, .int 573 0, .int 2 0, .int 0 0, .int 0 0, .int 3 0, .ref 535, .bool true, .int 181 0, .ref 536, .none, .ref 537, .ref 538, .ref 539, .int 937 0, .int 573 0, .str "/claim/cut.py" 938]), #[]⟩
noncomputable def o340 : Obj := ⟨.type "function", none, (.func (fd (f2 41 1) "ExprParser.binary" 3 [] .none .none .none (.str "gateloom.exprparse" 880) none (.ref 540) .none 0)), #[]⟩
noncomputable def o341 : Obj := tO #[.str "self" 943, .str "signs" 944, .str "operand" 945, .str "at" 946, .str "op" 947]
noncomputable def o342 : Obj := ⟨.none, none, (.func (fd (f2 41 2) "ExprParser.unary" 0 [] .none .none .none .none none .none .none 0)), #[]⟩
noncomputable def o343 : Obj := ⟨.type "code", none, (.fields #[.str "unary" 940, .str "ExprParser.unary" 941, .str "/claim/cut.py" 942, .int 586 0, .int 1 0, .int 0 0, .int 0 0, .int 3 0, .ref 542, .bool true, .int 181 0, .ref 543, .none, .ref 544, .ref 545, .ref 546, .int 948 0, .int 586 0, .str "/claim/cut.py" 949]), #[]⟩
noncomputable def o344 : Obj := ⟨.type "function", none, (.func (fd (f2 41 2) "ExprParser.unary" 3 [] .none .none .none (.str "gateloom.exprparse" 880) none (.ref 547) .none 0)), #[]⟩
noncomputable def o345 : Obj := tO #[.str "self" 954, .str "kind" 955, .str "at" 956, .str "vec" 957, .str "signed" 958, .str "sized" 959, .str "text" 960, .str "name" 961, .str "inner" 962]
noncomputable def o346 : Obj := ⟨.none, none, (.func (fd (f2 41 3) "ExprParser.primary" 0 [] .none .none .none .none none .none .none 0)), #[]⟩
noncomputable def o347 : Obj := ⟨.type "code", none, (.fields #[.str "primary" 951, .str "ExprParser.primary" 952, .str "/claim/cut.py" 953, .int 596 0, .int 1 0, .int 0 0, .int 0 0, .int 3 0, .ref 549, .bool true, .int 181 0, .ref 550, .none, .ref 551, .ref 552, .ref 553, .int 963 0, .int 596 0, .str "/claim/cut.py" 964]), #[]⟩
noncomputable def o348 : Obj := ⟨.type "function", none, (.func (fd (f2 41 3) "ExprParser.primary" 3 [] .none .none .none (.str "gateloom.exprparse" 880) none (.ref 554) .none 0)), #[]⟩
noncomputable def o349 : Obj := tO #[.str "self" 969, .str "base" 970]
noncomputable def o350 : Obj := ⟨.none, none, (.func (fd (f2 41 4) "ExprParser.named_primary" 0 [] .none .none .none .none none .none .none 0)), #[]⟩
noncomputable def o351 : Obj := ⟨.type "code", none, (.fields #[.str "named_primary" 966, .str "ExprParser.named_primary" 967, .str "/claim/cut.py" 968, .int 623 0, .int 1 0, .int 0 0, .int 0 0, .int 3 0, .ref 556, .bool true, .int 181 0, .ref 557, .none, .ref 558, .ref 559, .ref 560, .int 971 0, .int 623 0, .str "/claim/cut.py" 972]), #[]⟩
noncomputable def o352 : Obj := ⟨.type "function", none, (.func (fd (f2 41 4) "ExprParser.named_primary" 3 [] .none .none .none (.str "gateloom.exprparse" 880) none (.ref 561) .none 0)), #[]⟩
noncomputable def o353 : Obj := tO #[.str "self" 977, .str "at" 978, .str "first" 979, .str "items" 980]
noncomputable def o354 : Obj := ⟨.none, none, (.func (fd (f2 41 5) "ExprParser.braces" 0 [] .none .none .none .none none .none .none 0)), #[]⟩
noncomputable def o355 : Obj := ⟨.type "code", none, (.fields #[.str "braces" 974, .str "ExprParser.braces" 975, .str "/claim/cut.py" 976, .int 629 0, .int 1 0, .int 0 0, .int 0 0, .int 3 0, .ref 563, .bool true, .int 181 0, .ref 564, .none, .ref 565, .ref 566, .ref 567, .int 981 0, .int 629 0, .str "/claim/cut.py" 982]), #[]⟩
noncomputable def o356 : Obj := ⟨.type "function", none, (.func (fd (f2 41 5) "ExprParser.braces" 3 [] .none .none .none (.str "gateloom.exprparse" 880) none (.ref 568) .none 0)), #[]⟩
noncomputable def o357 : Obj := tO #[.str "self" 987, .str "items" 988]
noncomputable def o358 : Obj := ⟨.none, none, (.func (fd (f2 41 6) "ExprParser.expression_list" 0 [] .none .none .none .none none .none .none 0)), #[]⟩
noncomputable def o359 : Obj := ⟨.type "code", none, (.fields #[.str "expression_list" 984, .str "ExprParser.expression_list" 985, .str "/claim/cut.py" 986, .int 644 0, .int 1 0, .int 0 0, .int 0 0, .int 3 0, .ref 570, .bool true, .int 181 0, .ref 571, .none, .ref 572, .ref 573, .ref 574, .int 989 0, .int 644 0, .str "/claim/cut.py" 990]), #[]⟩
noncomputable def o360 : Obj := ⟨.type "function", none, (.func (fd (f2 41 6) "ExprParser.expression_list" 3 [] .none .none .none (.str "gateloom.exprparse" 880) none (.ref 575) .none 0)), #[]⟩
noncomputable def o361 : Obj := tO #[.str "self" 995, .str "items" 996]
noncomputable def o362 : Obj := ⟨.none, none, (.func (fd (f2 41 7) "ExprParser.arguments" 0 [] .none .none .none .none none .none .none 0)), #[]⟩
noncomputable def o363 : Obj := ⟨.type "code", none, (.fields #[.str "arguments" 992, .str "ExprParser.arguments" 993, .str "/claim/cut.py" 994, .int 650 0, .int 1 0, .int 0 0, .int 0 0, .int 3 0, .ref 577, .bool true, .int 181 0, .ref 578, .none, .ref 579, .ref 580, .ref 581, .int 997 0, .int 650 0, .str "/claim/cut.py" 998]), #[]⟩
noncomputable def o364 : Obj := ⟨.type "function", none, (.func (fd (f2 41 7) "ExprParser.arguments" 3 [] .none .none .none (.str "gateloom.exprparse" 880) none (.ref 582) .none 0)), #[]⟩
noncomputable def o365 : Obj := tO #[.str "self" 1003, .str "first" 1004, .str "typical" 1005]
noncomputable def o366 : Obj := ⟨.none, none, (.func (fd (f2 41 8) "ExprParser.mintypmax" 0 [] .none .none .none .none none .none .none 0)), #[]⟩
noncomputable def o367 : Obj := ⟨.type "code", none, (.fields #[.str "mintypmax" 1000, .str "ExprParser.mintypmax" 1001, .str "/claim/cut.py" 1002, .int 658 0, .int 1 0, .int 0 0, .int 0 0, .int 3 0, .ref 584, .bool true, .int 181 0, .ref 585, .none, .ref 586, .ref 587, .ref 588, .int 1006 0, .int 658 0, .str "/claim/cut.py" 1007]), #[]⟩
noncomputable def o368 : Obj := ⟨.type "function", none, (.func (fd (f2 41 8) "ExprParser.mintypmax" 3 [] .none .none .none (.str "gateloom.exprparse" 880) none (.ref 589) .none 0)), #[]⟩
noncomputable def o369 : Obj := tO #[.str "self" 1012, .str "at" 1013, .str "parts" 1014, .str "select" 1015, .str "name" 1016]
noncomputable def o370 : Obj := ⟨.none, none, (.func (fd (f2 41 9) "ExprParser.reference" 0 [] .none .none .none .none none .none .none 0)), #[]⟩
noncomputable def o371 : Obj := ⟨.type "code", none, (.fields #[.str "reference" 1009, .str "ExprParser.reference" 1010, .str "/claim/cut.py" 1011, .int 667 0, .int 1 0, .int 0 0, .int 0 0, .int 3 0, .ref 591, .bool true, .int 181 0, .ref 592, .none, .ref 593, .ref 594, .ref 595, .int 1017 0, .int 667 0, .str "/claim/cut.py" 1018]), #[]⟩
noncomputable def o372 : Obj := ⟨.type "function", none, (.func (fd (f2 41 9) "ExprParser.reference" 3 [] .none .none .none (.str "gateloom.exprparse" 880) none (.ref 596) .none 0)), #[]⟩
noncomputable def o373 : Obj := tO #[.str "self" 1023, .str "at" 1024, .str "parts" 1025]
noncomputable def o374 : Obj := ⟨.none, none, (.func (fd (f2 41 10) "ExprParser.path_term" 0 [] .none .none .none .none none .none .none 0)), #[]⟩
noncomputable def o375 : Obj := ⟨.type "code", none, (.fields #[.str "path_term" 1020, .str "ExprParser.path_term" 1021, .str "/claim/cut.py" 1022, .int 682 0, .int 3 0, .int 0 0, .int 0 0, .int 3 0, .ref 598, .bool true, .int 181 0, .ref 599, .none, .ref 600, .ref 601, .ref 602, .int 1026 0, .int 682 0, .str "/claim/cut.py" 1027]), #[]⟩
noncomputable def o376 : Obj := ⟨.type "function", none, (.func (fd (f2 41 10) "ExprParser.path_term" 3 [] .none .none .none (.str "gateloom.exprparse" 880) none (.ref 603) .none 0)), #[]⟩
noncomputable def o377 : Obj := tO #[.str "self" 1032, .str "base" 1033]
noncomputable def o378 : Obj := ⟨.none, none, (.func (fd (f2 41 11) "ExprParser.selects" 0 [] .none .none .none .none none .none .none 0)), #[]⟩
noncomputable def o379 : Obj := ⟨.type "code", none, (.fields #[.str "selects" 1029, .str "ExprParser.selects" 1030, .str "/claim/cut.py" 1031, .int 687 0, .int 2 0, .int 0 0, .int 0 0, .int 3 0, .ref 605, .bool true, .int 181 0, .ref 606, .none, .ref 607, .ref 608, .ref 609, .int 1034 0, .int 687 0, .str "/claim/cut.py" 1035]), #[]⟩
noncomputable def o380 : Obj := ⟨.type "function", none, (.func (fd (f2 41 11) "ExprParser.selects" 3 [] .none .none .none (.str "gateloom.exprparse" 880) none (.ref 610) .none 0)), #[]⟩
noncomputable def o381 : Obj := tO #[.str "self" 1040, .str "first" 1041, .str "second" 1042, .str "kind" 1043]
noncomputable def o382 : Obj := ⟨.none, none, (.func (fd (f2 41 12) "ExprParser.bracket" 0 [] .none .none .none .none none .none .none 0)), #[]⟩
noncomputable def o383 : Obj := ⟨.type "code", none, (.fields #[.str "bracket" 1037, .str "ExprParser.bracket" 1038, .str "/claim/cut.py" 1039, .int 694 0, .int 1 0, .int 0 0, .int 0 0, .int 3 0, .ref 612, .bool true, .int 181 0, .ref 613, .none, .ref 614, .ref 615, .ref 616, .int 1044 0, .int 694 0, .str "/claim/cut.py" 1045]), #[]⟩
noncomputable def o384 : Obj := ⟨.type "function", none, (.func (fd (f2 41 12) "ExprParser.bracket" 3 [] .none .none .none (.str "gateloom.exprparse" 880) none (.ref 617) .none 0)), #[]⟩
noncomputable def o385 : Obj := tO #[.str "self" 1050, .str "base" 1051, .str "select" 1052]
noncomputable def o386 : Obj := ⟨.none, none, (.func (fd (f2 41 13) "ExprParser.with_select" 0 [] .none .none .none .none none .none .none 0)), #[]⟩
noncomputable def o387 : Obj := ⟨.type "code", none, (.fields #[.str "with_select" 1047, .str "ExprParser.with_select" 1048, .str "/claim/cut.py" 1049, .int 710 0, .int 3 0, .int 0 0, .int 0 0, .int 3 0, .ref 619, .bool true, .int 181 0, .ref 620, .none, .ref 621, .ref 622, .ref 623, .int 1053 0, .int 710 0, .str "/claim/cut.py" 1054]), #[]⟩
noncomputable def o388 : Obj := ⟨.type "function", none, (.func (fd (f2 41 13) "ExprParser.with_select" 3 [] .none .none .none (.str "gateloom.exprparse" 880) none (.ref 624) .none 0)), #[]⟩
noncomputable def o389 : Obj := tO #[.str "self" 1059]
noncomputable def o390 : Obj := ⟨.none, none, (.func (fd (f2 41 14) "ExprParser.lvalue" 0 [] .none .none .none .none none .none .none 0)), #[]⟩
noncomputable def o391 : Obj := ⟨.type "code", none, (.fields #[.str "lvalue" 1056, .str "ExprParser.lvalue" 1057, .str "/claim/cut.py" 1058, .int 715 0, .int 1 0, .int 0 0, .int 0 0, .int 3 0, .ref 626, .bool true, .int 181 0, .ref 627, .none, .ref 628, .ref 629, .ref 630, .int 1060 0, .int 715 0, .str "/claim/cut.py" 1061]), #[]⟩
noncomputable def o392 : Obj := ⟨.type "function", none, (.func (fd (f2 41 14) "ExprParser.lvalue" 3 [] .none .none .none (.str "gateloom.exprparse" 880) none (.ref 631) .none 0)), #[]⟩
noncomputable def o393 : Obj := tO #[.str "self" 1066]
noncomputable def o394 : Obj := ⟨.none, none, (.func (fd (f2 41 15) "ExprParser.name_path" 0 [] .none .none .none .none none .none .none 0)), #[]⟩
noncomputable def o395 : Obj := ⟨.type "code", none, (.fields #[.str "name_path" 1063, .str "ExprParser.name_path" 1064, .str "/claim/cut.py" 1065, .int 718 0, .int 1 0, .int 0 0, .int 0 0, .int 3 0, .ref 633, .bool true, .int 181 0, .ref 634, .none, .ref 635, .ref 636, .ref 637, .int 1067 0, .int 718 0, .str "/claim/cut.py" 1068]), #[]⟩
noncomputable def o396 : Obj := ⟨.type "function", none, (.func (fd (f2 41 15) "ExprParser.name_path" 3 [] .none .none .none (.str "gateloom.exprparse" 880) none (.ref 638) .none 0)), #[]⟩
noncomputable def o397 : Obj := tO #[.str "self" 1073]
noncomputable def o398 : Obj := ⟨.none, none, (.func (fd (f2 41 16) "ExprParser.range_or_none" 0 [] .none .none .none .none none .none .none 0)), #[]⟩
noncomputable def o399 : Obj := ⟨.type "code", none, (.fields #[.str "range_or_none" 1070, .str "ExprParser.range_or_none" 1071, .str "/claim/cut.py" 1072, .int 721 0, .int 1 0, .int 0 0, .int 0 0, .int 3 0, .ref 640, .bool true, .int 181 0, .ref 641, .none, .ref 642, .ref 643, .ref 644, .int 1074 0, .int 721 0, .str "/claim/cut.py" 1075]), #[]⟩
noncomputable def o400 : Obj := ⟨.type "function", none, (.func (fd (f2 41 16) "ExprParser.range_or_none" 3 [] .none .none .none (.str "gateloom.exprparse" 880) none (.ref 645) .none 0)), #[]⟩
noncomputable def o401 : Obj := tO #[.str "self" 1080]
noncomputable def o402 : Obj := ⟨.none, none, (.func (fd (f2 41 17) "ExprParser.delay_value" 0 [] .none .none .none .none none .none .none 0)), #[]⟩
noncomputable def o403 : Obj := ⟨.type "code", none, (.fields #[.str "delay_value" 1077, .str "ExprParser.delay_value" 1078, .str "/claim/cut.py" 1079, .int 724 0, .int 1 0, .int 0 0, .int 0 0, .int 3 0, .ref 647, .bool true, .int 181 0, .ref 648, .none, .ref 649, .ref 650, .ref 651, .int 1081 0, .int 724 0, .str "/claim/cut.py" 1082]), #[]⟩
noncomputable def o404 : Obj := ⟨.type "function", none, (.func (fd (f2 41 17) "ExprParser.delay_value" 3 [] .none .none .none (.str "gateloom.exprparse" 880) none (.ref 652) .none 0)), #[]⟩
noncomputable def o405 : Obj := tO #[.str "self" 1087]
noncomputable def o406 : Obj := ⟨.none, none, (.func (fd (f2 41 18) "ExprParser.delay" 0 [] .none .none .none .none none .none .none 0)), #[]⟩
noncomputable def o407 : Obj := ⟨.type "code", none, (.fields #[.str "delay" 1084, .str "ExprParser.delay" 1085, .str "/claim/cut.py" 1086, .int 727 0, .int 1 0, .int 0 0, .int 0 0, .int 3 0, .ref 654, .bool true, .int 181 0, .ref 655, .none, .ref 656, .ref 657, .ref 658, .int 1088 0, .int 727 0, .str "/claim/cut.py" 1089]), #[]⟩
noncomputable def o408 : Obj := ⟨.type "function", none, (.func (fd (f2 41 18) "ExprParser.delay" 3 [] .none .none .none (.str "gateloom.exprparse" 880) none (.ref 659) .none 0)), #[]⟩
noncomputable def o409 : Obj := tO #[.str "self" 1094]
noncomputable def o410 : Obj := ⟨.none, none, (.func (fd (f2 41 19) "ExprParser.delays" 0 [] .none .none .none .none none .none .none 0)), #[]⟩
noncomputable def o411 : Obj := ⟨.type "code", none, (.fields #[.str "delays" 1091, .str "ExprParser.delays" 1092, .str "/claim/cut.py" 1093, .int 730 0, .int 1 0, .int 0 0, .int 0 0, .int 3 0, .ref 661, .bool true, .int 181 0, .ref 662, .none, .ref 663, .ref 664, .ref 665, .int 1095 0, .int 730 0, .str "/claim/cut.py" 1096]), #[]⟩
noncomputable def o412 : Obj := ⟨.type "function", none, (.func (fd (f2 41 19) "ExprParser.delays" 3 [] .none .none .none (.str "gateloom.exprparse" 880) none (.ref 666) .none 0)), #[]⟩
noncomputable def o413 (P : Params) : Obj := ⟨.type "dict", none, (.dict #[e P "__module__" 910 (.str "gateloom.exprparse" 880), e P "__firstlineno__" 914 (.int 557 913), e P "expression" 926 (.ref 534), e P "binary" 939 (.ref 541), e P "unary" 950 (.ref 548), e P "primary" 965 (.ref 555), e P "named_primary" 973 (.ref 562), e P "braces" 983 (.ref 569), e P "expression_list" 991 (.ref 576), e P "arguments" 999 (.ref 583), e P "mintypmax" 1008 (.ref 590), e P "reference" 1019 (.ref 597), e P "path_term" 1028 (.ref 604), e P "selects" 1036 (.ref 611), e P "bracket" 1046 (.ref 618), e P "with_select" 1055 (.ref 625), e P "lvalue" 1062 (.ref 632), e P "name_path" 1069 (.ref 639), e P "range_or_none" 1076 (.ref 646), e P "delay_value" 1083 (.ref 653), e P "delay" 1090 (.ref 660), e P "delays" 1097 (.ref 667), e P "__static_attributes__" 1098 (.ref 668), e P "__doc__" 1099 .none] 2), #[]⟩
noncomputable def o414 : Obj := ⟨.type "type", none, (.cls ⟨"ExprParser", [.ref 431], [.ref 670, .ref 431, .type "object"], 669, "ExprParser", true, [], [], false, none, false⟩), #[some (.ref 521), none, some (.str "ExprParser" 903), some (.str "ExprParser" 911), some (.builtin "object.__new__"), some (.bool true)]⟩
noncomputable def o415 : Obj := ⟨.type "super", none, (.fields #[.ref 670, .ref 670, .ref 670]), #[]⟩
noncomputable def o416 : Obj := ⟨.type "builtin_function_or_method", none, (.fields #[.builtin "object.__init_subclass__", .ref 670]), #[]⟩
noncomputable def o417 (P : Params) : Obj := ⟨.type "dict", none, (.dict #[e P "__name__" 165 (.str "law_nn0336_01" 1102), e P "__doc__" 166 .none, e P "__package__" 167 .none, e P "__loader__" 168 (.builtin "__main__.__loader__#opaque"), e P "__spec__" 169 .none, e P "__annotations__" 170 (.ref 6), e P "__builtins__" 171 (.ref 4), e P "__file__" 173 (.str "/claim/cut.py" 172), e P "__cached__" 174 .none, e P "_wall" 193 (.ref 21), e P "Primitive" 236 (.ref 38), e P "parse_primitive" 249 (.ref 49), e P "ansi_ports" 259 (.ref 56), e P "port_declarations" 271 (.ref 63), e P "initial_code" 282 (.ref 70), e P "table_rows" 294 (.ref 77), e P "field_text" 303 (.ref 84), e P "symbols_of" 314 (.ref 91), e P "level_codes" 321 (.ref 98), e P "GateloomError" 359 (.ref 116), e P "SourceError" 375 (.ref 129), e P "Token" 410 (.ref 148), e P "keywords" 419 (.ref 159), e P "is_letter" 426 (.ref 166), e P "is_digit" 433 (.ref 173), e P "is_word_char" 440 (.ref 180), e P "is_layout" 447 (.ref 187), e P "fits_base" 457 (.ref 194), e P "Lexer" 661 (.ref 338), e P "Cursor" 775 (.ref 431), e P "mask" 784 (.ref 442), e P "vec" 795 (.ref 450), e P "MOST_BITS" 799 (.int 65536 798), e P "PLAIN_BITS" 801 (.int 32 800), e P "digit_bits" 808 (.ref 457), e P "decimal_value" 817 (.ref 464), e P "size_value" 826 (.ref 471), e P "digit_pair" 834 (.ref 478), e P "grouped" 849 (.ref 485), e P "padded_vec" 861 (.ref 492), e P "numeral" 879 (.ref 499), e P "precedence" 888 (.ref 506), e P "is_unary" 895 (.ref 513), e P "plain_operator" 902 (.ref 520), e P "ExprParser" 1101 (.ref 670), e P "_law_pool" 1116 (.ref 679), e P "_law_pick" 1125 (.ref 686), e P "_law_symbol" 1134 (.ref 693), e P "_law_spelled" 1140 (.ref 698), e P "_law_heading" 1155 (.ref 705), e P "_law_wrong" 1162 (.ref 712), e P "law" 1168 (.ref 717)] 52), #[]⟩
noncomputable def o418 : Obj := ⟨.none, none, (.fields #[.int 1 0, .int 0 0, .ref 20, .int 5 0, .int 0 0, .ref 27, .int 15 0, .int 0 0, .ref 48, .int 39 0, .int 0 0, .ref 55, .int 53 0, .int 0 0, .ref 62, .int 80 0, .int 0 0, .ref 69, .int 88 0, .int 0 0, .ref 76, .int 107 0, .int 0 0, .ref 83, .int 121 0, .int 0 0, .ref 90, .int 139 0, .int 0 0, .ref 97, .int 152 0, .int 0 0, .ref 104, .int 158 0, .int 0 0, .ref 125, .int 161 0, .int 0 0, .ref 137, .int 167 0, .int 0 0, .ref 158, .int 173 0, .int 0 0, .ref 165, .int 175 0, .int 0 0, .ref 172, .int 177 0, .int 0 0, .ref 179, .int 179 0, .int 0 0, .ref 186, .int 181 0, .int 0 0, .ref 193, .int 197 0, .int 0 0, .ref 200, .int 401 0, .int 0 0, .ref 348, .int 455 0, .int 0 0, .ref 441, .int 457 0, .int 0 0, .ref 449, .int 463 0, .int 0 0, .ref 456, .int 469 0, .int 0 0, .ref 463, .int 474 0, .int 0 0, .ref 470, .int 479 0, .int 0 0, .ref 477, .int 485 0, .int 0 0, .ref 484, .int 495 0, .int 0 0, .ref 491, .int 503 0, .int 0 0, .ref 498, .int 527 0, .int 0 0, .ref 505, .int 551 0, .int 0 0, .ref 512, .int 553 0, .int 0 0, .ref 519, .int 557 0, .int 0 0, .ref 526, .int 733 0, .int 0 0, .ref 678, .int 748 0, .int 0 0, .ref 685, .int 758 0, .int 0 0, .ref 692, .int 765 0, .int 0 0, .ref 697, .int 770 0, .int 0 0, .ref 704, .int 783 0, .int 0 0, .ref 711, .int 786 0, .int 0 0, .ref 716]), #[]⟩
noncomputable def o419 : Obj := tO #[.str "script" 1107, .str "figures" 1108, .str "mix" 1109, .str "cell" 1110, .str "big" 1111, .str "rest" 1112, .str "step" 1113]
noncomputable def o420 : Obj := ⟨.none, none, (.func (fd (f1 43) "_law_pool" 0 [] .none .none .none .none none .none .none 0)), #[]⟩
noncomputable def o421 : Obj := ⟨.type "code", none, (.fields #[.str "_law_pool" 1104, .str "_law_pool" 1105, .str "/claim/cut.py" 1106, .int 733 0, .int 1 0, .int 0 0, .int 0 0, .int 3 0, .ref 673, .bool true, .int 181 0, .ref 674, .none, .ref 675, .ref 676, .ref 677, .int 1114 0, .int 733 0, .str "/claim/cut.py" 1115]), #[]⟩
noncomputable def o422 : Obj := ⟨.type "function", none, (.func (fd (f1 43) "_law_pool" 3 [] .none .none .none (.str "law_nn0336_01" 1102) none (.ref 678) .none 0)), #[]⟩
noncomputable def o423 : Obj := tO #[.str "pool" 1120, .str "bound" 1121, .str "figure" 1122]
noncomputable def o424 : Obj := ⟨.none, none, (.func (fd (f1 44) "_law_pick" 0 [] .none .none .none .none none .none .none 0)), #[]⟩
noncomputable def o425 : Obj := ⟨.type "code", none, (.fields #[.str "_law_pick" 1117, .str "_law_pick" 1118, .str "/claim/cut.py" 1119, .int 748 0, .int 2 0, .int 0 0, .int 0 0, .int 3 0, .ref 680, .bool true, .int 181 0, .ref 681, .none, .ref 682, .ref 683, .ref 684, .int 1123 0, .int 748 0, .str "/claim/cut.py" 1124]), #[]⟩
noncomputable def o426 : Obj := ⟨.type "function", none, (.func (fd (f1 44) "_law_pick" 3 [] .none .none .none (.str "law_nn0336_01" 1102) none (.ref 685) .none 0)), #[]⟩
noncomputable def o427 : Obj := tO #[.str "pool" 1129, .str "edges" 1130, .str "way" 1131]
noncomputable def o428 : Obj := ⟨.none, none, (.func (fd (f1 45) "_law_symbol" 0 [] .none .none .none .none none .none .none 0)), #[]⟩
noncomputable def o429 : Obj := ⟨.type "code", none, (.fields #[.str "_law_symbol" 1126, .str "_law_symbol" 1127, .str "/claim/cut.py" 1128, .int 758 0, .int 2 0, .int 0 0, .int 0 0, .int 3 0, .ref 687, .bool true, .int 181 0, .ref 688, .none, .ref 689, .ref 690, .ref 691, .int 1132 0, .int 758 0, .str "/claim/cut.py" 1133]), #[]⟩
noncomputable def o430 : Obj := ⟨.type "function", none, (.func (fd (f1 45) "_law_symbol" 3 [] .none .none .none (.str "law_nn0336_01" 1102) none (.ref 692) .none 0)), #[]⟩
noncomputable def o431 : Obj := ⟨.none, none, (.func (fd (f1 46) "_law_spelled" 0 [] .none .none .none .none none .none .none 0)), #[]⟩
noncomputable def o432 : Obj := ⟨.type "code", none, (.fields #[.str "_law_spelled" 1135, .str "_law_spelled" 1136, .str "/claim/cut.py" 1137, .int 765 0, .int 2 0, .int 0 0, .int 0 0, .int 3 0, .ref 694, .bool true, .int 181 0, .ref 695, .none, .none, .none, .ref 696, .int 1138 0, .int 765 0, .str "/claim/cut.py" 1139]), #[]⟩
noncomputable def o433 : Obj := ⟨.type "function", none, (.func (fd (f1 46) "_law_spelled" 3 [] .none .none .none (.str "law_nn0336_01" 1102) none (.ref 697) .none 0)), #[]⟩
noncomputable def o434 : Obj := tO #[.str "pool" 1144, .str "name" 1145, .str "ports" 1146, .str "sequential" 1147, .str "first" 1148, .str "way" 1149, .str "start" 1150, .str "word" 1151, .str "text" 1152]
noncomputable def o435 : Obj := ⟨.none, none, (.func (fd (f1 47) "_law_heading" 0 [] .none .none .none .none none .none .none 0)), #[]⟩
noncomputable def o436 : Obj := ⟨.type "code", none, (.fields #[.str "_law_heading" 1141, .str "_law_heading" 1142, .str "/claim/cut.py" 1143, .int 770 0, .int 5 0, .int 0 0, .int 0 0, .int 3 0, .ref 699, .bool true, .int 181 0, .ref 700, .none, .ref 701, .ref 702, .ref 703, .int 1153 0, .int 770 0, .str "/claim/cut.py" 1154]), #[]⟩
noncomputable def o437 : Obj := ⟨.type "function", none, (.func (fd (f1 47) "_law_heading" 3 [] .none .none .none (.str "law_nn0336_01" 1102) none (.ref 704) .none 0)), #[]⟩
noncomputable def o438 : Obj := tO #[.str "table" 1159]
noncomputable def o439 : Obj := ⟨.none, none, (.func (fd (f1 48) "_law_wrong" 0 [] .none .none .none .none none .none .none 0)), #[]⟩
noncomputable def o440 : Obj := ⟨.type "code", none, (.fields #[.str "_law_wrong" 1156, .str "_law_wrong" 1157, .str "/claim/cut.py" 1158, .int 783 0, .int 0 0, .int 0 0, .int 0 0, .int 3 0, .ref 706, .bool true, .int 181 0, .ref 707, .none, .ref 708, .ref 709, .ref 710, .int 1160 0, .int 783 0, .str "/claim/cut.py" 1161]), #[]⟩
noncomputable def o441 : Obj := ⟨.type "function", none, (.func (fd (f1 48) "_law_wrong" 3 [] .none .none .none (.str "law_nn0336_01" 1102) none (.ref 711) .none 0)), #[]⟩
noncomputable def o442 : Obj := ⟨.none, none, (.func (fd (f1 49) "law" 0 [] .none .none .none .none none .none .none 0)), #[]⟩
noncomputable def o443 : Obj := ⟨.type "code", none, (.fields #[.str "law" 1163, .str "law" 1164, .str "/claim/cut.py" 1165, .int 786 0, .int 1 0, .int 0 0, .int 0 0, .int 3 0, .ref 713, .bool true, .int 181 0, .ref 714, .none, .none, .none, .ref 715, .int 1166 0, .int 786 0, .str "/claim/cut.py" 1167]), #[]⟩
noncomputable def o444 : Obj := ⟨.type "function", none, (.func (fd (f1 49) "law" 3 [] .none .none .none (.str "law_nn0336_01" 1102) none (.ref 716) .none 0)), #[]⟩
noncomputable def h0 (P : Params) : Heap := ⟨#[boot_o_0 P, boot_o_1 P, boot_o_2 P, boot_o_3 P, boot_o_4 P, boot_o_5 P, boot_o_6 P, boot_o_7 P, boot_o_8 P, boot_o_9 P, boot_o_10 P, o0, o1, o2, o3], {}⟩
noncomputable def h7 (P : Params) : Heap := ⟨#[boot_o_0 P, boot_o_1 P, o4 P, o417 P, boot_o_4 P, boot_o_5 P, boot_o_6 P, boot_o_7 P, boot_o_8 P, boot_o_9 P, boot_o_10 P, o0, o418, o2, o3, o0, o1, o7, o0, o8, o9, o10, o0, o11, o12 P, o0, o13, o14, o15, o0, o1, o16, o0, o17, o18, o19, o20, o21 P, o22, o23, o24, o25, o26, o0, o1, o27, o0, o28, o29, o30, o0, o1, o31, o0, o32, o33, o34, o0, o1, o35, o0, o36, o37, o38, o0, o1, o39, o0, o40, o41, o42, o0, o1, o43, o0, o44, o45, o46, o0, o1, o47, o0, o48, o49, o50, o0, o1, o51, o0, o52, o53, o54, o0, o1, o55, o0, o56, o57, o58, o59, o11, o60 P, o0, o61, o62, o63, o64, o0, o1, o65, o0, o66, o67, o68, o69, o70 P, o77, o72, o73, o74, o78, o11, o79 P, o0, o1, o80, o81, o0, o82 P, o83, o84, o85, o0, o11, o86 P, o0, o87, o88, o89, o0, o1, o90, o0, o91, o92, o93, o94, o95 P, o96, o97, o98, o99, o100, o0, o1, o101, o0, o102, o103, o104, o0, o1, o105, o0, o106, o107, o108, o0, o1, o109, o0, o110, o111, o112, o0, o1, o113, o0, o114, o115, o116, o0, o1, o117, o0, o118, o119, o120, o0, o1, o121, o0, o122, o123, o124, o0, o11, o127 P, o0, o128, o129, o130, o131, o0, o1, o132, o0, o133, o134, o135, o0, o1, o136, o0, o137, o138, o139, o0, o1, o140, o0, o141, o142, o143, o0, o1, o144, o0, o145, o146, o147, o0, o1, o148, o0, o149, o150, o151, o0, o1, o152, o0, o153, o154, o155, o0, o1, o156, o0, o157, o158, o159, o0, o1, o160, o0, o161, o162, o163, o0, o1, o164, o0, o165, o166, o167, o0, o1, o168, o0, o169, o170, o171, o0, o1, o172, o0, o173, o174, o175, o0, o1, o176, o0, o177, o178, o179, o0, o1, o180, o0, o181, o182, o183, o0, o1, o184, o0, o185, o186, o187, o0, o1, o188, o0, o189, o190, o191, o0, o1, o192, o0, o193, o194, o195, o0, o1, o196, o0, o197, o198, o199, o0, o1, o200, o0, o201, o202, o203, o0, o1, o204, o0, o205, o206, o207, o208, o209 P, o210, o211, o212, o213, o214, o0, o11, o217 P, o0, o218, o219, o220, o0, o1, o221, o0, o222, o223, o224, o225, o0, o1, o226, o0, o227, o228, o229, o0, o1, o230, o0, o231, o232, o233, o0, o1, o234, o0, o235, o236, o237, o0, o1, o238, o0, o239, o240, o241, o0, o1, o242, o0, o243, o244, o245, o0, o1, o246, o0, o247, o248, o249, o0, o1, o250, o0, o251, o252, o253, o0, o1, o254, o0, o255, o256, o257, o0, o1, o258, o0, o259, o260, o261, o262, o0, o1, o263, o0, o264, o265, o266, o267, o268 P, o327, o270, o271, o272, o273, o0, o1, o276, o0, o277, o278, o279, o280, o0, o1, o281, o0, o282, o283, o284, o0, o1, o285, o0, o286, o287, o288, o0, o1, o289, o0, o290, o291, o292, o0, o1, o293, o0, o294, o295, o296, o0, o1, o297, o0, o298, o299, o300, o0, o1, o301, o0, o302, o303, o304, o0, o1, o305, o0, o306, o307, o308, o0, o1, o309, o0, o310, o311, o312, o0, o1, o313, o0, o314, o315, o316, o0, o1, o317, o0, o318, o319, o320, o0, o1, o321, o0, o322, o323, o324, o328, o11, o329 P, o0, o330, o331, o332, o0, o1, o333, o0, o334, o335, o336, o0, o1, o337, o0, o338, o339, o340, o0, o1, o341, o0, o342, o343, o344, o0, o1, o345, o0, o346, o347, o348, o0, o1, o349, o0, o350, o351, o352, o0, o1, o353, o0, o354, o355, o356, o0, o1, o357, o0, o358, o359, o360, o0, o1, o361, o0, o362, o363, o364, o0, o1, o365, o0, o366, o367, o368, o0, o1, o369, o0, o370, o371, o372, o0, o1, o373, o0, o374, o375, o376, o0, o1, o377, o0, o378, o379, o380, o0, o1, o381, o0, o382, o383, o384, o0, o1, o385, o0, o386, o387, o388, o0, o1, o389, o0, o390, o391, o392, o0, o1, o393, o0, o394, o395, o396, o0, o1, o397, o0, o398, o399, o400, o0, o1, o401, o0, o402, o403, o404, o0, o1, o405, o0, o406, o407, o408, o0, o1, o409, o0, o410, o411, o412, o0, o413 P, o414, o415, o416, o0, o1, o419, o0, o420, o421, o422, o0, o1, o423, o0, o424, o425, o426, o0, o1, o427, o0, o428, o429, o430, o0, o1, o431, o432, o433, o0, o1, o434, o0, o435, o436, o437, o0, o1, o438, o0, o439, o440, o441, o0, o1, o442, o443, o444], {}⟩
noncomputable abbrev bN : BT := .nil
noncomputable abbrev bL (o : Obj) : BT := .node o .nil .nil
noncomputable abbrev bB (o : Obj) (l r : BT) : BT := .node o l r
noncomputable def t0 (P : Params) : BT := (bB (boot_o_0 P) (bB (boot_o_1 P) (bB (boot_o_3 P) (bL (boot_o_7 P)) (bL o0)) (bB (boot_o_5 P) (bL (boot_o_9 P)) (bL o2))) (bB (boot_o_2 P) (bB (boot_o_4 P) (bL (boot_o_8 P)) (bL o1)) (bB (boot_o_6 P) (bL (boot_o_10 P)) (bL o3))))
noncomputable def t1 (P : Params) : BT := (bB (boot_o_0 P) (bB (boot_o_1 P) (bB (o5 P) (bB (boot_o_7 P) (bB o0 (bB o16 (bL o38) (bL o0)) (bB o28 (bL o1) (bL o66))) (bB o11 (bB o23 (bL o0) (bL o61)) (bB o33 (bL o51) (bL o74)))) (bB o0 (bB o8 (bB o19 (bL o0) (bL o59)) (bB o1 (bL o49) (bL (o70 P)))) (bB o14 (bB o0 (bL o44) (bL o0)) (bB o35 (bL o54) bN)))) (bB (boot_o_5 P) (bB (boot_o_9 P) (bB o7 (bB o17 (bL o1) (bL o57)) (bB o30 (bL o0) (bL o68))) (bB o0 (bB o25 (bL o43) (bL o63)) (bB o0 (bL o52) bN))) (bB o2 (bB o10 (bB (o21 P) (bL o41) (bL (o60 P))) (bB o0 (bL o0) (bL o72))) (bB o0 (bB o27 (bL o46) (bL o65)) (bB o36 (bL o1) bN))))) (bB (o4 P) (bB (boot_o_4 P) (bB (boot_o_8 P) (bB o1 (bB o0 (bL o0) (bL o56)) (bB o29 (bL o47) (bL o67))) (bB (o12 P) (bB o24 (bL o1) (bL o62)) (bB o34 (bL o0) bN))) (bB o6 (bB o9 (bB o20 (bL o40) (bL o11)) (bB o31 (bL o50) (bL o71))) (bB o15 (bB o1 (bL o45) (bL o1)) (bB o0 (bL o0) bN)))) (bB (boot_o_6 P) (bB (boot_o_10 P) (bB o0 (bB o18 (bL o39) (bL o58)) (bB o0 (bL o48) (bL o69))) (bB o13 (bB o26 (bL o0) (bL o64)) (bB o1 (bL o53) bN))) (bB o3 (bB o0 (bB o22 (bL o42) (bL o0)) (bB o32 (bL o1) (bL o73))) (bB o1 (bB o0 (bL o0) (bL o0)) (bB o37 (bL o55) bN))))))
noncomputable def t2 (P : Params) : BT := (bB (boot_o_0 P) (bB (boot_o_1 P) (bB (o75 P) (bB (boot_o_7 P) (bB o0 (bB o16 (bB o38 (bL o0) (bL o0)) (bB o0 (bL o104) bN)) (bB o28 (bB o1 (bL o91) bN) (bB o66 (bL o1) bN))) (bB o11 (bB o23 (bB o0 (bL o0) bN) (bB o61 (bL o0) bN)) (bB o33 (bB o51 (bL o99) bN) (bB o74 (bL o117) bN)))) (bB o0 (bB o8 (bB o19 (bB o0 (bL o85) bN) (bB o59 (bL o0) bN)) (bB o1 (bB o49 (bL (o95 P)) bN) (bB (o70 P) (bL o115) bN))) (bB o14 (bB o0 (bB o44 (bL o0) bN) (bB o0 (bL o110) bN)) (bB o35 (bB o54 (bL o101) bN) (bB o0 (bL o120) bN))))) (bB (boot_o_5 P) (bB (boot_o_9 P) (bB o7 (bB o17 (bB o1 (bL o83) (bL o123)) (bB o57 (bL o1) bN)) (bB o30 (bB o0 (bL o93) bN) (bB o68 (bL o0) bN))) (bB o0 (bB o25 (bB o43 (bL o88) bN) (bB o63 (bL o109) bN)) (bB o0 (bB o52 (bL o0) bN) (bB o11 (bL o118) bN)))) (bB o2 (bB o10 (bB (o21 P) (bB o41 (bL o11) bN) (bB (o60 P) (bL o107) bN)) (bB o0 (bB o0 (bL o97) bN) (bB o72 (bL o0) bN))) (bB o0 (bB o27 (bB o46 (bL o90) bN) (bB o65 (bL o112) bN)) (bB o36 (bB o1 (bL o102) bN) (bB o80 (bL o1) bN)))))) (bB (o4 P) (bB (boot_o_4 P) (bB (boot_o_8 P) (bB o1 (bB o0 (bB o0 (bL (o82 P)) (bL o122)) (bB o56 (bL o0) bN)) (bB o29 (bB o47 (bL o92) bN) (bB o67 (bL o113) bN))) (bB (o12 P) (bB o24 (bB o1 (bL o87) bN) (bB o62 (bL o1) bN)) (bB o34 (bB o0 (bL o100) bN) (bB o78 (bL o0) bN)))) (bB o76 (bB o9 (bB o20 (bB o40 (bL o0) bN) (bB o11 (bL o106) bN)) (bB o31 (bB o50 (bL o96) bN) (bB o77 (bL o116) bN))) (bB o15 (bB o1 (bB o45 (bL o1) bN) (bB o1 (bL o111) bN)) (bB o0 (bB o0 (bL o0) bN) (bB o1 (bL o0) bN))))) (bB (boot_o_6 P) (bB (boot_o_10 P) (bB o0 (bB o18 (bB o39 (bL o84) (bL o124)) (bB o58 (bL o105) bN)) (bB o0 (bB o48 (bL o94) bN) (bB o69 (bL o114) bN))) (bB o13 (bB o26 (bB o0 (bL o89) bN) (bB o64 (bL o0) bN)) (bB o1 (bB o53 (bL o1) bN) (bB (o79 P) (bL o119) bN)))) (bB o3 (bB o0 (bB o22 (bB o42 (bL (o86 P)) bN) (bB o0 (bL o108) bN)) (bB o32 (bB o1 (bL o98) bN) (bB o73 (bL o1) bN))) (bB o1 (bB o0 (bB o0 (bL o0) bN) (bB o0 (bL o0) bN)) (bB o37 (bB o55 (bL o103) bN) (bB o81 (bL o121) bN)))))))
noncomputable def t3 (P : Params) : BT := (bB (boot_o_0 P) (bB (boot_o_1 P) (bB (o125 P) (bB (boot_o_7 P) (bB o0 (bB o16 (bB o38 (bB o0 (bL o0) bN) (bB o0 (bL o197) bN)) (bB o0 (bB o104 (bL o0) bN) (bL o143))) (bB o28 (bB o1 (bB o91 (bL o170) bN) (bB o133 (bL o207) bN)) (bB o66 (bB o1 (bL o188) bN) (bL o1)))) (bB o11 (bB o23 (bB o0 (bB o0 (bL o165) bN) (bB o128 (bL o202) bN)) (bB o61 (bB o0 (bL o1) bN) (bL o0))) (bB o33 (bB o51 (bB o99 (bL o175) bN) (bL o138)) (bB o74 (bB o117 (bL o0) bN) (bL o156))))) (bB o0 (bB o8 (bB o19 (bB o0 (bB o85 (bL o0) bN) (bB o0 (bL o1) bN)) (bB o59 (bB o0 (bL o181) bN) (bL o0))) (bB o1 (bB o49 (bB (o95 P) (bL o172) bN) (bB o1 (bL o211) bN)) (bB (o70 P) (bB o115 (bL o191) bN) (bL o154)))) (bB o14 (bB o0 (bB o44 (bB o0 (bL o1) bN) (bB o0 (bL o204) bN)) (bB o0 (bB o110 (bL o186) bN) (bL o149))) (bB o35 (bB o54 (bB o101 (bL o0) bN) (bL o140)) (bB o0 (bB o120 (bL o0) bN) (bL o159)))))) (bB (boot_o_5 P) (bB (boot_o_9 P) (bB o7 (bB o17 (bB o1 (bB o83 (bL o162) bN) (bB o123 (bL o199) bN)) (bB o57 (bB o1 (bL o180) bN) (bL o1))) (bB o30 (bB o0 (bB o93 (bL o0) bN) (bB o135 (bL (o209 P)) bN)) (bB o68 (bB o0 (bL o189) bN) (bL o0)))) (bB o0 (bB o25 (bB o43 (bB o88 (bL o167) bN) (bB o130 (bL o0) bN)) (bB o63 (bB o109 (bL o0) bN) (bL o148))) (bB o0 (bB o52 (bB o0 (bL o1) bN) (bL o0)) (bB o11 (bB o118 (bL o194) bN) (bL o157))))) (bB o2 (bB o10 (bB (o21 P) (bB o41 (bB o11 (bL o164) bN) (bB (o127 P) (bL o0) bN)) (bB (o60 P) (bB o107 (bL o183) bN) (bL o146))) (bB o0 (bB o0 (bB o97 (bL o173) bN) (bB o0 (bL o213) bN)) (bB o72 (bB o0 (bL o1) bN) (bL o0)))) (bB o0 (bB o27 (bB o46 (bB o90 (bL o0) bN) (bB o132 (bL o205) bN)) (bB o65 (bB o112 (bL o0) bN) (bL o151))) (bB o36 (bB o1 (bB o102 (bL o178) bN) (bL o141)) (bB o80 (bB o1 (bL o196) bN) (bL o1))))))) (bB (o4 P) (bB (boot_o_4 P) (bB (boot_o_8 P) (bB o1 (bB o0 (bB o0 (bB (o82 P) (bL o161) bN) (bB o122 (bL o198) bN)) (bB o56 (bB o0 (bL o1) bN) (bL o0))) (bB o29 (bB o47 (bB o92 (bL o171) bN) (bB o134 (bL o208) bN)) (bB o67 (bB o113 (bL o0) bN) (bL o152)))) (bB (o12 P) (bB o24 (bB o1 (bB o87 (bL o166) bN) (bB o129 (bL o203) bN)) (bB o62 (bB o1 (bL o184) bN) (bL o1))) (bB o34 (bB o0 (bB o100 (bL o0) bN) (bL o139)) (bB o78 (bB o0 (bL o193) bN) (bL o0))))) (bB o126 (bB o9 (bB o20 (bB o40 (bB o0 (bL o1) bN) (bB o11 (bL o200) bN)) (bB o11 (bB o106 (bL o182) bN) (bL o145))) (bB o31 (bB o50 (bB o96 (bL o0) bN) (bB o136 (bL o212) bN)) (bB o77 (bB o116 (bL o0) bN) (bL o155)))) (bB o15 (bB o1 (bB o45 (bB o1 (bL o168) bN) (bB o1 (bL o0) bN)) (bB o1 (bB o111 (bL o187) bN) (bL o150))) (bB o0 (bB o0 (bB o0 (bL o177) bN) (bL o0)) (bB o1 (bB o0 (bL o1) bN) (bL o0)))))) (bB (boot_o_6 P) (bB (boot_o_10 P) (bB o0 (bB o18 (bB o39 (bB o84 (bL o163) bN) (bB o124 (bL o0) bN)) (bB o58 (bB o105 (bL o0) bN) (bL o144))) (bB o0 (bB o48 (bB o94 (bL o1) bN) (bB o0 (bL o210) bN)) (bB o69 (bB o114 (bL o190) bN) (bL o153)))) (bB o13 (bB o26 (bB o0 (bB o89 (bL o0) bN) (bB o131 (bL o1) bN)) (bB o64 (bB o0 (bL o185) bN) (bL o0))) (bB o1 (bB o53 (bB o1 (bL o176) bN) (bL o1)) (bB (o79 P) (bB o119 (bL o195) bN) (bL o158))))) (bB o3 (bB o0 (bB o22 (bB o42 (bB (o86 P) (bL o0) bN) (bB o0 (bL o201) bN)) (bB o0 (bB o108 (bL o0) bN) (bL o147))) (bB o32 (bB o1 (bB o98 (bL o174) bN) (bB o137 (bL o214) bN)) (bB o73 (bB o1 (bL o192) bN) (bL o1)))) (bB o1 (bB o0 (bB o0 (bB o0 (bL o169) bN) (bB o0 (bL o206) bN)) (bB o0 (bB o0 (bL o1) bN) (bL o0))) (bB o37 (bB o55 (bB o103 (bL o179) bN) (bL o142)) (bB o81 (bB o121 (bL o0) bN) (bL o160))))))))
noncomputable def t4 (P : Params) : BT := (bB (boot_o_0 P) (bB (boot_o_1 P) (bB (o215 P) (bB (boot_o_7 P) (bB o0 (bB o16 (bB o38 (bB o0 (bL o0) (bL o239)) (bB o0 (bL o197) bN)) (bB o0 (bB o104 (bL o0) (bL o1)) (bB o143 (bL o1) bN))) (bB o28 (bB o1 (bB o91 (bL o170) (bL o249)) (bB o133 (bL o207) bN)) (bB o66 (bB o1 (bL o188) (bL o269)) (bB o1 (bL o230) bN)))) (bB o11 (bB o23 (bB o0 (bB o0 (bL o165) (bL o244)) (bB o128 (bL o202) bN)) (bB o61 (bB o0 (bL o1) (bL o1)) (bB o0 (bL o1) bN))) (bB o33 (bB o51 (bB o99 (bL o175) (bL o0)) (bB o138 (bL o0) bN)) (bB o74 (bB o117 (bL o0) bN) (bB o156 (bL o0) bN))))) (bB o0 (bB o8 (bB o19 (bB o0 (bB o85 (bL o0) (bL o1)) (bB o0 (bL o1) bN)) (bB o59 (bB o0 (bL o181) (bL o260)) (bB o0 (bL o223) bN))) (bB o1 (bB o49 (bB (o95 P) (bL o172) (bL o0)) (bB o1 (bL o211) bN)) (bB (o70 P) (bB o115 (bL o191) (bL o273)) (bB o154 (bL o233) bN)))) (bB o14 (bB o0 (bB o44 (bB o0 (bL o1) (bL o246)) (bB o0 (bL o204) bN)) (bB o0 (bB o110 (bL o186) (bL o265)) (bB o149 (bL o228) bN))) (bB o35 (bB o54 (bB o101 (bL o0) (bL o255)) (bB o140 (bL o218) bN)) (bB o0 (bB o120 (bL o0) bN) (bB o159 (bL o0) bN)))))) (bB (boot_o_5 P) (bB (boot_o_9 P) (bB o7 (bB o17 (bB o1 (bB o83 (bL o162) (bL o241)) (bB o123 (bL o199) bN)) (bB o57 (bB o1 (bL o180) (bL o0)) (bB o1 (bL o0) bN))) (bB o30 (bB o0 (bB o93 (bL o0) (bL o1)) (bB o135 (bL (o209 P)) bN)) (bB o68 (bB o0 (bL o189) (bL o271)) (bB o0 (bL o231) bN)))) (bB o0 (bB o25 (bB o43 (bB o88 (bL o167) (bL o0)) (bB o130 (bL o0) bN)) (bB o63 (bB o109 (bL o0) (bL o0)) (bB o148 (bL o0) bN))) (bB o0 (bB o52 (bB o0 (bL o1) (bL o254)) (bB o0 (bL (o217 P)) bN)) (bB o11 (bB o118 (bL o194) bN) (bB o157 (bL o236) bN))))) (bB o2 (bB o10 (bB (o21 P) (bB o41 (bB o11 (bL o164) (bL o0)) (bB (o127 P) (bL o0) bN)) (bB (o60 P) (bB o107 (bL o183) (bL o262)) (bB o146 (bL o225) bN))) (bB o0 (bB o0 (bB o97 (bL o173) (bL o252)) (bB o0 (bL o213) bN)) (bB o72 (bB o0 (bL o1) bN) (bB o0 (bL o1) bN)))) (bB o0 (bB o27 (bB o46 (bB o90 (bL o0) (bL o247)) (bB o132 (bL o205) bN)) (bB o65 (bB o112 (bL o0) (bL o267)) (bB o151 (bL o0) bN))) (bB o36 (bB o1 (bB o102 (bL o178) (bL o257)) (bB o141 (bL o220) bN)) (bB o80 (bB o1 (bL o196) bN) (bB o1 (bL o238) bN))))))) (bB (o4 P) (bB (boot_o_4 P) (bB (boot_o_8 P) (bB o1 (bB o0 (bB o0 (bB (o82 P) (bL o161) (bL o240)) (bB o122 (bL o198) bN)) (bB o56 (bB o0 (bL o1) (bL o258)) (bB o0 (bL o221) bN))) (bB o29 (bB o47 (bB o92 (bL o171) (bL o0)) (bB o134 (bL o208) bN)) (bB o67 (bB o113 (bL o0) (bL o270)) (bB o152 (bL o0) bN)))) (bB (o12 P) (bB o24 (bB o1 (bB o87 (bL o166) (bL o245)) (bB o129 (bL o203) bN)) (bB o62 (bB o1 (bL o184) (bL o263)) (bB o1 (bL o226) bN))) (bB o34 (bB o0 (bB o100 (bL o0) (bL o1)) (bB o139 (bL o11) bN)) (bB o78 (bB o0 (bL o193) bN) (bB o0 (bL o235) bN))))) (bB o216 (bB o9 (bB o20 (bB o40 (bB o0 (bL o1) (bL o242)) (bB o11 (bL o200) bN)) (bB o11 (bB o106 (bL o182) (bL o261)) (bB o145 (bL o224) bN))) (bB o31 (bB o50 (bB o96 (bL o0) (bL o251)) (bB o136 (bL o212) bN)) (bB o77 (bB o116 (bL o0) bN) (bB o155 (bL o0) bN)))) (bB o15 (bB o1 (bB o45 (bB o1 (bL o168) (bL o0)) (bB o1 (bL o0) bN)) (bB o1 (bB o111 (bL o187) (bL o266)) (bB o150 (bL o229) bN))) (bB o0 (bB o0 (bB o0 (bL o177) (bL o256)) (bB o0 (bL o219) bN)) (bB o1 (bB o0 (bL o1) bN) (bB o0 (bL o1) bN)))))) (bB (boot_o_6 P) (bB (boot_o_10 P) (bB o0 (bB o18 (bB o39 (bB o84 (bL o163) (bL o0)) (bB o124 (bL o0) bN)) (bB o58 (bB o105 (bL o0) (bL o259)) (bB o144 (bL o222) bN))) (bB o0 (bB o48 (bB o94 (bL o1) (bL o250)) (bB o0 (bL o210) bN)) (bB o69 (bB o114 (bL o190) (bL o272)) (bB o153 (bL o232) bN)))) (bB o13 (bB o26 (bB o0 (bB o89 (bL o0) (bL o1)) (bB o131 (bL o1) bN)) (bB o64 (bB o0 (bL o185) (bL o264)) (bB o0 (bL o227) bN))) (bB o1 (bB o53 (bB o1 (bL o176) (bL o0)) (bB o1 (bL o0) bN)) (bB (o79 P) (bB o119 (bL o195) bN) (bB o158 (bL o237) bN))))) (bB o3 (bB o0 (bB o22 (bB o42 (bB (o86 P) (bL o0) (bL o243)) (bB o0 (bL o201) bN)) (bB o0 (bB o108 (bL o0) (bL o0)) (bB o147 (bL o0) bN))) (bB o32 (bB o1 (bB o98 (bL o174) (bL o253)) (bB o137 (bL o214) bN)) (bB o73 (bB o1 (bL o192) bN) (bB o1 (bL o234) bN)))) (bB o1 (bB o0 (bB o0 (bB o0 (bL o169) (bL o248)) (bB o0 (bL o206) bN)) (bB o0 (bB o0 (bL o1) (bL (o268 P))) (bB o0 (bL o1) bN))) (bB o37 (bB o55 (bB o103 (bL o179) (bL o0)) (bB o142 (bL o0) bN)) (bB o81 (bB o121 (bL o0) bN) (bB o160 (bL o0) bN))))))))
noncomputable def t5 (P : Params) : BT := (bB (boot_o_0 P) (bB (boot_o_1 P) (bB (o274 P) (bB (boot_o_7 P) (bB o0 (bB o16 (bB o38 (bB o0 (bB o0 (bL o318) bN) (bL o239)) (bB o0 (bL o197) (bL o0))) (bB o0 (bB o104 (bL o0) (bL o1)) (bB o143 (bL o1) (bL o0)))) (bB o28 (bB o1 (bB o91 (bL o170) (bL o249)) (bB o133 (bL o207) (bL o291))) (bB o66 (bB o1 (bL o188) (bL o269)) (bB o1 (bL o230) (bL o309))))) (bB o11 (bB o23 (bB o0 (bB o0 (bB o165 (bL o323) bN) (bL o244)) (bB o128 (bL o202) (bL o286))) (bB o61 (bB o0 (bL o1) (bL o1)) (bB o0 (bL o1) (bL o1)))) (bB o33 (bB o51 (bB o99 (bL o175) (bL o0)) (bB o138 (bL o0) (bL o296))) (bB o74 (bB o117 (bL o0) (bL o0)) (bB o156 (bL o0) (bL o0)))))) (bB o0 (bB o8 (bB o19 (bB o0 (bB o85 (bB o0 (bL o1) bN) (bL o1)) (bB o0 (bL o1) (bL o0))) (bB o59 (bB o0 (bL o181) (bL o260)) (bB o0 (bL o223) (bL o302)))) (bB o1 (bB o49 (bB (o95 P) (bL o172) (bL o0)) (bB o1 (bL o211) (bL o293))) (bB (o70 P) (bB o115 (bL o191) (bL o273)) (bB o154 (bL o233) (bL o312))))) (bB o14 (bB o0 (bB o44 (bB o0 (bL o1) (bL o246)) (bB o0 (bL o204) (bL o1))) (bB o0 (bB o110 (bL o186) (bL o265)) (bB o149 (bL o228) (bL o307)))) (bB o35 (bB o54 (bB o101 (bL o0) (bL o255)) (bB o140 (bL o218) (bL o0))) (bB o0 (bB o120 (bL o0) (bL o280)) (bB o159 (bL o0) (bL o0))))))) (bB (boot_o_5 P) (bB (boot_o_9 P) (bB o7 (bB o17 (bB o1 (bB o83 (bB o162 (bL o320) bN) (bL o241)) (bB o123 (bL o199) (bL o283))) (bB o57 (bB o1 (bL o180) (bL o0)) (bB o1 (bL o0) (bL o301)))) (bB o30 (bB o0 (bB o93 (bL o0) (bL o1)) (bB o135 (bL (o209 P)) (bL o0))) (bB o68 (bB o0 (bL o189) (bL o271)) (bB o0 (bL o231) (bL o310))))) (bB o0 (bB o25 (bB o43 (bB o88 (bL o167) (bL o0)) (bB o130 (bL o0) (bL o288))) (bB o63 (bB o109 (bL o0) (bL o0)) (bB o148 (bL o0) (bL o0)))) (bB o0 (bB o52 (bB o0 (bL o1) (bL o254)) (bB o0 (bL (o217 P)) (bL o1))) (bB o11 (bB o118 (bL o194) (bL o278)) (bB o157 (bL o236) (bL o315)))))) (bB o2 (bB o10 (bB (o21 P) (bB o41 (bB o11 (bB o164 (bL o0) bN) (bL o0)) (bB (o127 P) (bL o0) (bL o285))) (bB (o60 P) (bB o107 (bL o183) (bL o262)) (bB o146 (bL o225) (bL o304)))) (bB o0 (bB o0 (bB o97 (bL o173) (bL o252)) (bB o0 (bL o213) (bL o294))) (bB o72 (bB o0 (bL o1) (bL o1)) (bB o0 (bL o1) (bL o1))))) (bB o0 (bB o27 (bB o46 (bB o90 (bL o0) (bL o247)) (bB o132 (bL o205) (bL o0))) (bB o65 (bB o112 (bL o0) (bL o267)) (bB o151 (bL o0) (bL o0)))) (bB o36 (bB o1 (bB o102 (bL o178) (bL o257)) (bB o141 (bL o220) (bL o299))) (bB o80 (bB o1 (bL o196) (bL o1)) (bB o1 (bL o238) (bL o317)))))))) (bB (o4 P) (bB (boot_o_4 P) (bB (boot_o_8 P) (bB o1 (bB o0 (bB o0 (bB (o82 P) (bB o161 (bL o319) bN) (bL o240)) (bB o122 (bL o198) (bL o282))) (bB o56 (bB o0 (bL o1) (bL o258)) (bB o0 (bL o221) (bL o1)))) (bB o29 (bB o47 (bB o92 (bL o171) (bL o0)) (bB o134 (bL o208) (bL o292))) (bB o67 (bB o113 (bL o0) (bL o270)) (bB o152 (bL o0) (bL o0))))) (bB (o12 P) (bB o24 (bB o1 (bB o87 (bB o166 (bL o324) bN) (bL o245)) (bB o129 (bL o203) (bL o287))) (bB o62 (bB o1 (bL o184) (bL o263)) (bB o1 (bL o226) (bL o305)))) (bB o34 (bB o0 (bB o100 (bL o0) (bL o1)) (bB o139 (bL o11) (bL o0))) (bB o78 (bB o0 (bL o193) (bL o277)) (bB o0 (bL o235) (bL o314)))))) (bB o275 (bB o9 (bB o20 (bB o40 (bB o0 (bB o1 (bL o321) bN) (bL o242)) (bB o11 (bL o200) (bL o1))) (bB o11 (bB o106 (bL o182) (bL o261)) (bB o145 (bL o224) (bL o303)))) (bB o31 (bB o50 (bB o96 (bL o0) (bL o251)) (bB o136 (bL o212) (bL o0))) (bB o77 (bB o116 (bL o0) (bL o0)) (bB o155 (bL o0) (bL o0))))) (bB o15 (bB o1 (bB o45 (bB o1 (bL o168) (bL o0)) (bB o1 (bL o0) (bL o289))) (bB o1 (bB o111 (bL o187) (bL o266)) (bB o150 (bL o229) (bL o308)))) (bB o0 (bB o0 (bB o0 (bL o177) (bL o256)) (bB o0 (bL o219) (bL o298))) (bB o1 (bB o0 (bL o1) (bL o0)) (bB o0 (bL o1) (bL o1))))))) (bB (boot_o_6 P) (bB (boot_o_10 P) (bB o0 (bB o18 (bB o39 (bB o84 (bB o163 (bL o0) bN) (bL o0)) (bB o124 (bL o0) (bL o284))) (bB o58 (bB o105 (bL o0) (bL o259)) (bB o144 (bL o222) (bL o0)))) (bB o0 (bB o48 (bB o94 (bL o1) (bL o250)) (bB o0 (bL o210) (bL o1))) (bB o69 (bB o114 (bL o190) (bL o272)) (bB o153 (bL o232) (bL o311))))) (bB o13 (bB o26 (bB o0 (bB o89 (bL o0) (bL o1)) (bB o131 (bL o1) (bL o0))) (bB o64 (bB o0 (bL o185) (bL o264)) (bB o0 (bL o227) (bL o306)))) (bB o1 (bB o53 (bB o1 (bL o176) (bL o0)) (bB o1 (bL o0) (bL o297))) (bB (o79 P) (bB o119 (bL o195) (bL o279)) (bB o158 (bL o237) (bL o316)))))) (bB o3 (bB o0 (bB o22 (bB o42 (bB (o86 P) (bB o0 (bL o322) bN) (bL o243)) (bB o0 (bL o201) (bL o0))) (bB o0 (bB o108 (bL o0) (bL o0)) (bB o147 (bL o0) (bL o0)))) (bB o32 (bB o1 (bB o98 (bL o174) (bL o253)) (bB o137 (bL o214) (bL o295))) (bB o73 (bB o1 (bL o192) (bL o276)) (bB o1 (bL o234) (bL o313))))) (bB o1 (bB o0 (bB o0 (bB o0 (bL o169) (bL o248)) (bB o0 (bL o206) (bL o290))) (bB o0 (bB o0 (bL o1) (bL (o268 P))) (bB o0 (bL o1) (bL o1)))) (bB o37 (bB o55 (bB o103 (bL o179) (bL o0)) (bB o142 (bL o0) (bL o300))) (bB o81 (bB o121 (bL o0) (bL o281)) (bB o160 (bL o0) (bL o0)))))))))
noncomputable def t6 (P : Params) : BT := (bB (boot_o_0 P) (bB (boot_o_1 P) (bB (o325 P) (bB (boot_o_7 P) (bB o0 (bB o16 (bB o38 (bB o0 (bB o0 (bL o318) bN) (bB o239 (bL o396) bN)) (bB o0 (bB o197 (bL o359) bN) (bL o0))) (bB o0 (bB o104 (bB o0 (bL o1) bN) (bB o1 (bL o415) bN)) (bB o143 (bB o1 (bL o377) bN) (bL o0)))) (bB o28 (bB o1 (bB o91 (bB o170 (bL o332) bN) (bB o249 (bL o1) bN)) (bB o133 (bB o207 (bL o0) bN) (bL o291))) (bB o66 (bB o1 (bB o188 (bL o0) bN) (bL o327)) (bB o1 (bB o230 (bL o386) bN) (bL o309))))) (bB o11 (bB o23 (bB o0 (bB o0 (bB o165 (bL o323) bN) (bB o244 (bL o0) bN)) (bB o128 (bB o202 (bL o364) bN) (bL o286))) (bB o61 (bB o0 (bB o1 (bL o345) bN) (bL o1)) (bB o0 (bB o1 (bL o0) bN) (bL o1)))) (bB o33 (bB o51 (bB o99 (bB o175 (bL o0) bN) (bB o0 (bL o409) bN)) (bB o138 (bB o0 (bL o1) bN) (bL o296))) (bB o74 (bB o117 (bB o0 (bL o354) bN) (bL o0)) (bB o156 (bB o0 (bL o391) bN) (bL o0)))))) (bB o0 (bB o8 (bB o19 (bB o0 (bB o85 (bB o0 (bL o1) bN) (bB o1 (bL o0) bN)) (bB o0 (bB o1 (bL o361) bN) (bL o0))) (bB o59 (bB o0 (bB o181 (bL o343) bN) (bL o260)) (bB o0 (bB o223 (bL o380) bN) (bL o302)))) (bB o1 (bB o49 (bB (o95 P) (bB o172 (bL o0) bN) (bB o0 (bL o407) bN)) (bB o1 (bB o211 (bL o370) bN) (bL o293))) (bB (o70 P) (bB o115 (bB o191 (bL o0) bN) (bL o273)) (bB o154 (bB o233 (bL o1) bN) (bL o312))))) (bB o14 (bB o0 (bB o44 (bB o0 (bB o1 (bL (o329 P)) bN) (bB o246 (bL o402) bN)) (bB o0 (bB o204 (bL o0) bN) (bL o1))) (bB o0 (bB o110 (bB o186 (bL o348) bN) (bL o265)) (bB o149 (bB o228 (bL o0) bN) (bL o307)))) (bB o35 (bB o54 (bB o101 (bB o0 (bL o338) bN) (bB o255 (bL o412) bN)) (bB o140 (bB o218 (bL o375) bN) (bL o0))) (bB o0 (bB o120 (bB o0 (bL o1) bN) (bL o280)) (bB o159 (bB o0 (bL o393) bN) (bL o0))))))) (bB (boot_o_5 P) (bB (boot_o_9 P) (bB o7 (bB o17 (bB o1 (bB o83 (bB o162 (bL o320) bN) (bB o241 (bL o1) bN)) (bB o123 (bB o199 (bL o0) bN) (bL o283))) (bB o57 (bB o1 (bB o180 (bL o0) bN) (bL o0)) (bB o1 (bB o0 (bL o378) bN) (bL o301)))) (bB o30 (bB o0 (bB o93 (bB o0 (bL o1) bN) (bB o1 (bL o0) bN)) (bB o135 (bB (o209 P) (bL o369) bN) (bL o0))) (bB o68 (bB o0 (bB o189 (bL o351) bN) (bL o271)) (bB o0 (bB o231 (bL o388) bN) (bL o310))))) (bB o0 (bB o25 (bB o43 (bB o88 (bB o167 (bL o328) bN) (bB o0 (bL o401) bN)) (bB o130 (bB o0 (bL o1) bN) (bL o288))) (bB o63 (bB o109 (bB o0 (bL o346) bN) (bL o0)) (bB o148 (bB o0 (bL o383) bN) (bL o0)))) (bB o0 (bB o52 (bB o0 (bB o1 (bL o337) bN) (bB o254 (bL o410) bN)) (bB o0 (bB (o217 P) (bL o0) bN) (bL o1))) (bB o11 (bB o118 (bB o194 (bL o356) bN) (bL o278)) (bB o157 (bB o236 (bL o0) bN) (bL o315)))))) (bB o2 (bB o10 (bB (o21 P) (bB o41 (bB o11 (bB o164 (bL o0) bN) (bB o0 (bL o399) bN)) (bB (o127 P) (bB o0 (bL o362) bN) (bL o285))) (bB (o60 P) (bB o107 (bB o183 (bL o0) bN) (bL o262)) (bB o146 (bB o225 (bL o1) bN) (bL o304)))) (bB o0 (bB o0 (bB o97 (bB o173 (bL o335) bN) (bB o252 (bL o0) bN)) (bB o0 (bB o213 (bL o372) bN) (bL o294))) (bB o72 (bB o0 (bB o1 (bL o353) bN) (bL o1)) (bB o0 (bB o1 (bL o0) bN) (bL o1))))) (bB o0 (bB o27 (bB o46 (bB o90 (bB o0 (bL o330) bN) (bB o247 (bL o404) bN)) (bB o132 (bB o205 (bL o367) bN) (bL o0))) (bB o65 (bB o112 (bB o0 (bL o1) bN) (bL o267)) (bB o151 (bB o0 (bL o385) bN) (bL o0)))) (bB o36 (bB o1 (bB o102 (bB o178 (bL o340) bN) (bB o257 (bL (o413 P)) bN)) (bB o141 (bB o220 (bL o0) bN) (bL o299))) (bB o80 (bB o1 (bB o196 (bL o0) bN) (bL o1)) (bB o1 (bB o238 (bL o394) bN) (bL o317)))))))) (bB (o4 P) (bB (boot_o_4 P) (bB (boot_o_8 P) (bB o1 (bB o0 (bB o0 (bB (o82 P) (bB o161 (bL o319) bN) (bB o240 (bL o0) bN)) (bB o122 (bB o198 (bL o360) bN) (bL o282))) (bB o56 (bB o0 (bB o1 (bL o341) bN) (bB o258 (bL o416) bN)) (bB o0 (bB o221 (bL o0) bN) (bL o1)))) (bB o29 (bB o47 (bB o92 (bB o171 (bL o0) bN) (bB o0 (bL o405) bN)) (bB o134 (bB o208 (bL o1) bN) (bL o292))) (bB o67 (bB o113 (bB o0 (bL o350) bN) (bL o270)) (bB o152 (bB o0 (bL o387) bN) (bL o0))))) (bB (o12 P) (bB o24 (bB o1 (bB o87 (bB o166 (bL o324) bN) (bB o245 (bL o1) bN)) (bB o129 (bB o203 (bL o0) bN) (bL o287))) (bB o62 (bB o1 (bB o184 (bL o0) bN) (bL o263)) (bB o1 (bB o226 (bL o382) bN) (bL o305)))) (bB o34 (bB o0 (bB o100 (bB o0 (bL o1) bN) (bB o1 (bL o0) bN)) (bB o139 (bB o11 (bL o373) bN) (bL o0))) (bB o78 (bB o0 (bB o193 (bL o355) bN) (bL o277)) (bB o0 (bB o235 (bL o392) bN) (bL o314)))))) (bB o326 (bB o9 (bB o20 (bB o40 (bB o0 (bB o1 (bL o321) bN) (bB o242 (bL o398) bN)) (bB o11 (bB o200 (bL o0) bN) (bL o1))) (bB o11 (bB o106 (bB o182 (bL o344) bN) (bL o261)) (bB o145 (bB o224 (bL o0) bN) (bL o303)))) (bB o31 (bB o50 (bB o96 (bB o0 (bL o334) bN) (bB o251 (bL o408) bN)) (bB o136 (bB o212 (bL o371) bN) (bL o0))) (bB o77 (bB o116 (bB o0 (bL o1) bN) (bL o0)) (bB o155 (bB o0 (bL o389) bN) (bL o0))))) (bB o15 (bB o1 (bB o45 (bB o1 (bB o168 (bL o0) bN) (bB o0 (bL o403) bN)) (bB o1 (bB o0 (bL o366) bN) (bL o289))) (bB o1 (bB o111 (bB o187 (bL o0) bN) (bL o266)) (bB o150 (bB o229 (bL o1) bN) (bL o308)))) (bB o0 (bB o0 (bB o0 (bB o177 (bL o339) bN) (bB o256 (bL o0) bN)) (bB o0 (bB o219 (bL o376) bN) (bL o298))) (bB o1 (bB o0 (bB o1 (bL o357) bN) (bL o0)) (bB o0 (bB o1 (bL o0) bN) (bL o1))))))) (bB (boot_o_6 P) (bB (boot_o_10 P) (bB o0 (bB o18 (bB o39 (bB o84 (bB o163 (bL o0) bN) (bB o0 (bL o397) bN)) (bB o124 (bB o0 (bL o1) bN) (bL o284))) (bB o58 (bB o105 (bB o0 (bL o342) bN) (bL o259)) (bB o144 (bB o222 (bL o379) bN) (bL o0)))) (bB o0 (bB o48 (bB o94 (bB o1 (bL o333) bN) (bB o250 (bL o406) bN)) (bB o0 (bB o210 (bL o0) bN) (bL o1))) (bB o69 (bB o114 (bB o190 (bL o352) bN) (bL o272)) (bB o153 (bB o232 (bL o0) bN) (bL o311))))) (bB o13 (bB o26 (bB o0 (bB o89 (bB o0 (bL o11) bN) (bB o1 (bL o0) bN)) (bB o131 (bB o1 (bL o365) bN) (bL o0))) (bB o64 (bB o0 (bB o185 (bL o347) bN) (bL o264)) (bB o0 (bB o227 (bL o384) bN) (bL o306)))) (bB o1 (bB o53 (bB o1 (bB o176 (bL o0) bN) (bB o0 (bL o411) bN)) (bB o1 (bB o0 (bL o374) bN) (bL o297))) (bB (o79 P) (bB o119 (bB o195 (bL o0) bN) (bL o279)) (bB o158 (bB o237 (bL o1) bN) (bL o316)))))) (bB o3 (bB o0 (bB o22 (bB o42 (bB (o86 P) (bB o0 (bL o322) bN) (bB o243 (bL o400) bN)) (bB o0 (bB o201 (bL o363) bN) (bL o0))) (bB o0 (bB o108 (bB o0 (bL o1) bN) (bL o0)) (bB o147 (bB o0 (bL o381) bN) (bL o0)))) (bB o32 (bB o1 (bB o98 (bB o174 (bL o336) bN) (bB o253 (bL o1) bN)) (bB o137 (bB o214 (bL o0) bN) (bL o295))) (bB o73 (bB o1 (bB o192 (bL o0) bN) (bL o276)) (bB o1 (bB o234 (bL o390) bN) (bL o313))))) (bB o1 (bB o0 (bB o0 (bB o0 (bB o169 (bL o331) bN) (bB o248 (bL o0) bN)) (bB o0 (bB o206 (bL o368) bN) (bL o290))) (bB o0 (bB o0 (bB o1 (bL o349) bN) (bL (o268 P))) (bB o0 (bB o1 (bL o0) bN) (bL o1)))) (bB o37 (bB o55 (bB o103 (bB o179 (bL o0) bN) (bB o0 (bL o414) bN)) (bB o142 (bB o0 (bL o1) bN) (bL o300))) (bB o81 (bB o121 (bB o0 (bL o358) bN) (bL o281)) (bB o160 (bB o0 (bL o395) bN) (bL o0)))))))))
noncomputable def t7 (P : Params) : BT := (bB (boot_o_0 P) (bB (boot_o_1 P) (bB (o417 P) (bB (boot_o_7 P) (bB o0 (bB o16 (bB o38 (bB o0 (bB o0 (bL o318) bN) (bB o239 (bL o396) bN)) (bB o0 (bB o197 (bL o359) bN) (bB o0 (bL o435) bN))) (bB o0 (bB o104 (bB o0 (bL o1) bN) (bB o1 (bL o415) bN)) (bB o143 (bB o1 (bL o377) bN) (bL o0)))) (bB o28 (bB o1 (bB o91 (bB o170 (bL o332) bN) (bB o249 (bL o1) bN)) (bB o133 (bB o207 (bL o0) bN) (bL o291))) (bB o66 (bB o1 (bB o188 (bL o0) bN) (bB o327 (bL o0) bN)) (bB o1 (bB o230 (bL o386) bN) (bL o309))))) (bB o11 (bB o23 (bB o0 (bB o0 (bB o165 (bL o323) bN) (bB o244 (bL o0) bN)) (bB o128 (bB o202 (bL o364) bN) (bB o286 (bL o440) bN))) (bB o61 (bB o0 (bB o1 (bL o345) bN) (bB o1 (bL o422) bN)) (bB o0 (bB o1 (bL o0) bN) (bL o1)))) (bB o33 (bB o51 (bB o99 (bB o175 (bL o0) bN) (bB o0 (bL o409) bN)) (bB o138 (bB o0 (bL o1) bN) (bL o296))) (bB o74 (bB o117 (bB o0 (bL o354) bN) (bB o0 (bL o1) bN)) (bB o156 (bB o0 (bL o391) bN) (bL o0)))))) (bB o0 (bB o8 (bB o19 (bB o0 (bB o85 (bB o0 (bL o1) bN) (bB o1 (bL o0) bN)) (bB o0 (bB o1 (bL o361) bN) (bB o0 (bL o1) bN))) (bB o59 (bB o0 (bB o181 (bL o343) bN) (bB o260 (bL o419) bN)) (bB o0 (bB o223 (bL o380) bN) (bL o302)))) (bB o1 (bB o49 (bB (o95 P) (bB o172 (bL o0) bN) (bB o0 (bL o407) bN)) (bB o1 (bB o211 (bL o370) bN) (bL o293))) (bB (o70 P) (bB o115 (bB o191 (bL o0) bN) (bB o273 (bL o428) bN)) (bB o154 (bB o233 (bL o1) bN) (bL o312))))) (bB o14 (bB o0 (bB o44 (bB o0 (bB o1 (bL (o329 P)) bN) (bB o246 (bL o402) bN)) (bB o0 (bB o204 (bL o0) bN) (bB o1 (bL o442) bN))) (bB o0 (bB o110 (bB o186 (bL o348) bN) (bB o265 (bL o0) bN)) (bB o149 (bB o228 (bL o0) bN) (bL o307)))) (bB o35 (bB o54 (bB o101 (bB o0 (bL o338) bN) (bB o255 (bL o412) bN)) (bB o140 (bB o218 (bL o375) bN) (bL o0))) (bB o0 (bB o120 (bB o0 (bL o1) bN) (bB o280 (bL o0) bN)) (bB o159 (bB o0 (bL o393) bN) (bL o0))))))) (bB (boot_o_5 P) (bB (boot_o_9 P) (bB o7 (bB o17 (bB o1 (bB o83 (bB o162 (bL o320) bN) (bB o241 (bL o1) bN)) (bB o123 (bB o199 (bL o0) bN) (bB o283 (bL o437) bN))) (bB o57 (bB o1 (bB o180 (bL o0) bN) (bB o0 (bL o0) bN)) (bB o1 (bB o0 (bL o378) bN) (bL o301)))) (bB o30 (bB o0 (bB o93 (bB o0 (bL o1) bN) (bB o1 (bL o0) bN)) (bB o135 (bB (o209 P) (bL o369) bN) (bL o0))) (bB o68 (bB o0 (bB o189 (bL o351) bN) (bB o271 (bL o427) bN)) (bB o0 (bB o231 (bL o388) bN) (bL o310))))) (bB o0 (bB o25 (bB o43 (bB o88 (bB o167 (bL o328) bN) (bB o0 (bL o401) bN)) (bB o130 (bB o0 (bL o1) bN) (bB o288 (bL o0) bN))) (bB o63 (bB o109 (bB o0 (bL o346) bN) (bB o0 (bL o1) bN)) (bB o148 (bB o0 (bL o383) bN) (bL o0)))) (bB o0 (bB o52 (bB o0 (bB o1 (bL o337) bN) (bB o254 (bL o410) bN)) (bB o0 (bB (o217 P) (bL o0) bN) (bL o1))) (bB o11 (bB o118 (bB o194 (bL o356) bN) (bB o278 (bL o432) bN)) (bB o157 (bB o236 (bL o0) bN) (bL o315)))))) (bB o2 (bB o10 (bB (o21 P) (bB o41 (bB o11 (bB o164 (bL o0) bN) (bB o0 (bL o399) bN)) (bB (o127 P) (bB o0 (bL o362) bN) (bB o285 (bL o0) bN))) (bB (o60 P) (bB o107 (bB o183 (bL o0) bN) (bB o262 (bL o420) bN)) (bB o146 (bB o225 (bL o1) bN) (bL o304)))) (bB o0 (bB o0 (bB o97 (bB o173 (bL o335) bN) (bB o252 (bL o0) bN)) (bB o0 (bB o213 (bL o372) bN) (bL o294))) (bB o72 (bB o0 (bB o1 (bL o353) bN) (bB o1 (bL o430) bN)) (bB o0 (bB o1 (bL o0) bN) (bL o1))))) (bB o0 (bB o27 (bB o46 (bB o90 (bB o0 (bL o330) bN) (bB o247 (bL o404) bN)) (bB o132 (bB o205 (bL o367) bN) (bB o0 (bL o444) bN))) (bB o65 (bB o112 (bB o0 (bL o1) bN) (bB o267 (bL o425) bN)) (bB o151 (bB o0 (bL o385) bN) (bL o0)))) (bB o36 (bB o1 (bB o102 (bB o178 (bL o340) bN) (bB o257 (bL (o413 P)) bN)) (bB o141 (bB o220 (bL o0) bN) (bL o299))) (bB o80 (bB o1 (bB o196 (bL o0) bN) (bB o1 (bL o434) bN)) (bB o1 (bB o238 (bL o394) bN) (bL o317)))))))) (bB (o4 P) (bB (boot_o_4 P) (bB (boot_o_8 P) (bB o1 (bB o0 (bB o0 (bB (o82 P) (bB o161 (bL o319) bN) (bB o240 (bL o0) bN)) (bB o122 (bB o198 (bL o360) bN) (bB o282 (bL o436) bN))) (bB o56 (bB o0 (bB o1 (bL o341) bN) (bB o258 (bL o416) bN)) (bB o0 (bB o221 (bL o0) bN) (bL o1)))) (bB o29 (bB o47 (bB o92 (bB o171 (bL o0) bN) (bB o0 (bL o405) bN)) (bB o134 (bB o208 (bL o1) bN) (bL o292))) (bB o67 (bB o113 (bB o0 (bL o350) bN) (bB o270 (bL o1) bN)) (bB o152 (bB o0 (bL o387) bN) (bL o0))))) (bB (o12 P) (bB o24 (bB o1 (bB o87 (bB o166 (bL o324) bN) (bB o245 (bL o1) bN)) (bB o129 (bB o203 (bL o0) bN) (bB o287 (bL o441) bN))) (bB o62 (bB o1 (bB o184 (bL o0) bN) (bB o263 (bL o0) bN)) (bB o1 (bB o226 (bL o382) bN) (bL o305)))) (bB o34 (bB o0 (bB o100 (bB o0 (bL o1) bN) (bB o1 (bL o0) bN)) (bB o139 (bB o11 (bL o373) bN) (bL o0))) (bB o78 (bB o0 (bB o193 (bL o355) bN) (bB o277 (bL o431) bN)) (bB o0 (bB o235 (bL o392) bN) (bL o314)))))) (bB o418 (bB o9 (bB o20 (bB o40 (bB o0 (bB o1 (bL o321) bN) (bB o242 (bL o398) bN)) (bB o11 (bB o200 (bL o0) bN) (bB o1 (bL o438) bN))) (bB o11 (bB o106 (bB o182 (bL o344) bN) (bB o261 (bL o0) bN)) (bB o145 (bB o224 (bL o0) bN) (bL o303)))) (bB o31 (bB o50 (bB o96 (bB o0 (bL o334) bN) (bB o251 (bL o408) bN)) (bB o136 (bB o212 (bL o371) bN) (bL o0))) (bB o77 (bB o116 (bB o0 (bL o1) bN) (bB o0 (bL o429) bN)) (bB o155 (bB o0 (bL o389) bN) (bL o0))))) (bB o15 (bB o1 (bB o45 (bB o1 (bB o168 (bL o0) bN) (bB o0 (bL o403) bN)) (bB o1 (bB o0 (bL o366) bN) (bB o289 (bL o443) bN))) (bB o1 (bB o111 (bB o187 (bL o0) bN) (bB o266 (bL o424) bN)) (bB o150 (bB o229 (bL o1) bN) (bL o308)))) (bB o0 (bB o0 (bB o0 (bB o177 (bL o339) bN) (bB o256 (bL o0) bN)) (bB o0 (bB o219 (bL o376) bN) (bL o298))) (bB o1 (bB o0 (bB o1 (bL o357) bN) (bB o0 (bL o1) bN)) (bB o0 (bB o1 (bL o0) bN) (bL o1))))))) (bB (boot_o_6 P) (bB (boot_o_10 P) (bB o0 (bB o18 (bB o39 (bB o84 (bB o163 (bL o0) bN) (bB o0 (bL o397) bN)) (bB o124 (bB o0 (bL o1) bN) (bB o284 (bL o0) bN))) (bB o58 (bB o105 (bB o0 (bL o342) bN) (bB o259 (bL o1) bN)) (bB o144 (bB o222 (bL o379) bN) (bL o0)))) (bB o0 (bB o48 (bB o94 (bB o1 (bL o333) bN) (bB o250 (bL o406) bN)) (bB o0 (bB o210 (bL o0) bN) (bL o1))) (bB o69 (bB o114 (bB o190 (bL o352) bN) (bB o272 (bL o0) bN)) (bB o153 (bB o232 (bL o0) bN) (bL o311))))) (bB o13 (bB o26 (bB o0 (bB o89 (bB o0 (bL o11) bN) (bB o1 (bL o0) bN)) (bB o131 (bB o1 (bL o365) bN) (bB o0 (bL o1) bN))) (bB o64 (bB o0 (bB o185 (bL o347) bN) (bB o264 (bL o423) bN)) (bB o0 (bB o227 (bL o384) bN) (bL o306)))) (bB o1 (bB o53 (bB o1 (bB o176 (bL o0) bN) (bB o0 (bL o411) bN)) (bB o1 (bB o0 (bL o374) bN) (bL o297))) (bB (o79 P) (bB o119 (bB o195 (bL o0) bN) (bB o279 (bL o433) bN)) (bB o158 (bB o237 (bL o1) bN) (bL o316)))))) (bB o3 (bB o0 (bB o22 (bB o42 (bB (o86 P) (bB o0 (bL o322) bN) (bB o243 (bL o400) bN)) (bB o0 (bB o201 (bL o363) bN) (bB o0 (bL o439) bN))) (bB o0 (bB o108 (bB o0 (bL o1) bN) (bB o0 (bL o421) bN)) (bB o147 (bB o0 (bL o381) bN) (bL o0)))) (bB o32 (bB o1 (bB o98 (bB o174 (bL o336) bN) (bB o253 (bL o1) bN)) (bB o137 (bB o214 (bL o0) bN) (bL o295))) (bB o73 (bB o1 (bB o192 (bL o0) bN) (bB o276 (bL o0) bN)) (bB o1 (bB o234 (bL o390) bN) (bL o313))))) (bB o1 (bB o0 (bB o0 (bB o0 (bB o169 (bL o331) bN) (bB o248 (bL o0) bN)) (bB o0 (bB o206 (bL o368) bN) (bL o290))) (bB o0 (bB o0 (bB o1 (bL o349) bN) (bB (o268 P) (bL o426) bN)) (bB o0 (bB o1 (bL o0) bN) (bL o1)))) (bB o37 (bB o55 (bB o103 (bB o179 (bL o0) bN) (bB o0 (bL o414) bN)) (bB o142 (bB o0 (bL o1) bN) (bL o300))) (bB o81 (bB o121 (bB o0 (bL o358) bN) (bB o281 (bL o0) bN)) (bB o160 (bB o0 (bL o395) bN) (bL o0)))))))))
noncomputable def KK (P : Params) : Frag :=
  (nat_lit 2, o4 P) ::
  (nat_lit 3, o417 P) ::
  (nat_lit 15, o0) ::
  (nat_lit 17, o7) ::
  (nat_lit 18, o0) ::
  (nat_lit 20, o9) ::
  (nat_lit 21, o10) ::
  (nat_lit 29, o0) ::
  (nat_lit 31, o16) ::
  (nat_lit 32, o0) ::
  (nat_lit 34, o18) ::
  (nat_lit 35, o19) ::
  (nat_lit 36, o20) ::
  (nat_lit 37, o21 P) ::
  (nat_lit 38, o22) ::
  (nat_lit 39, o23) ::
  (nat_lit 40, o24) ::
  (nat_lit 43, o0) ::
  (nat_lit 45, o27) ::
  (nat_lit 46, o0) ::
  (nat_lit 48, o29) ::
  (nat_lit 49, o30) ::
  (nat_lit 50, o0) ::
  (nat_lit 52, o31) ::
  (nat_lit 53, o0) ::
  (nat_lit 55, o33) ::
  (nat_lit 56, o34) ::
  (nat_lit 57, o0) ::
  (nat_lit 59, o35) ::
  (nat_lit 60, o0) ::
  (nat_lit 62, o37) ::
  (nat_lit 63, o38) ::
  (nat_lit 64, o0) ::
  (nat_lit 66, o39) ::
  (nat_lit 67, o0) ::
  (nat_lit 69, o41) ::
  (nat_lit 70, o42) ::
  (nat_lit 71, o0) ::
  (nat_lit 73, o43) ::
  (nat_lit 74, o0) ::
  (nat_lit 76, o45) ::
  (nat_lit 77, o46) ::
  (nat_lit 78, o0) ::
  (nat_lit 80, o47) ::
  (nat_lit 81, o0) ::
  (nat_lit 83, o49) ::
  (nat_lit 84, o50) ::
  (nat_lit 85, o0) ::
  (nat_lit 87, o51) ::
  (nat_lit 88, o0) ::
  (nat_lit 90, o53) ::
  (nat_lit 91, o54) ::
  (nat_lit 92, o0) ::
  (nat_lit 94, o55) ::
  (nat_lit 95, o0) ::
  (nat_lit 97, o57) ::
  (nat_lit 98, o58) ::
  (nat_lit 99, o59) ::
  (nat_lit 106, o64) ::
  (nat_lit 107, o0) ::
  (nat_lit 109, o65) ::
  (nat_lit 110, o0) ::
  (nat_lit 112, o67) ::
  (nat_lit 113, o68) ::
  (nat_lit 114, o69) ::
  (nat_lit 115, o70 P) ::
  (nat_lit 116, o77) ::
  (nat_lit 117, o72) ::
  (nat_lit 120, o78) ::
  (nat_lit 127, o0) ::
  (nat_lit 128, o82 P) ::
  (nat_lit 129, o83) ::
  (nat_lit 139, o0) ::
  (nat_lit 141, o90) ::
  (nat_lit 142, o0) ::
  (nat_lit 144, o92) ::
  (nat_lit 145, o93) ::
  (nat_lit 146, o94) ::
  (nat_lit 147, o95 P) ::
  (nat_lit 148, o96) ::
  (nat_lit 149, o97) ::
  (nat_lit 150, o98) ::
  (nat_lit 153, o0) ::
  (nat_lit 155, o101) ::
  (nat_lit 156, o0) ::
  (nat_lit 158, o103) ::
  (nat_lit 159, o104) ::
  (nat_lit 160, o0) ::
  (nat_lit 162, o105) ::
  (nat_lit 163, o0) ::
  (nat_lit 165, o107) ::
  (nat_lit 166, o108) ::
  (nat_lit 167, o0) ::
  (nat_lit 169, o109) ::
  (nat_lit 170, o0) ::
  (nat_lit 172, o111) ::
  (nat_lit 173, o112) ::
  (nat_lit 174, o0) ::
  (nat_lit 176, o113) ::
  (nat_lit 177, o0) ::
  (nat_lit 179, o115) ::
  (nat_lit 180, o116) ::
  (nat_lit 181, o0) ::
  (nat_lit 183, o117) ::
  (nat_lit 184, o0) ::
  (nat_lit 186, o119) ::
  (nat_lit 187, o120) ::
  (nat_lit 188, o0) ::
  (nat_lit 190, o121) ::
  (nat_lit 191, o0) ::
  (nat_lit 193, o123) ::
  (nat_lit 194, o124) ::
  (nat_lit 202, o131) ::
  (nat_lit 203, o0) ::
  (nat_lit 205, o132) ::
  (nat_lit 206, o0) ::
  (nat_lit 208, o134) ::
  (nat_lit 209, o135) ::
  (nat_lit 210, o0) ::
  (nat_lit 212, o136) ::
  (nat_lit 213, o0) ::
  (nat_lit 215, o138) ::
  (nat_lit 216, o139) ::
  (nat_lit 217, o0) ::
  (nat_lit 219, o140) ::
  (nat_lit 220, o0) ::
  (nat_lit 222, o142) ::
  (nat_lit 223, o143) ::
  (nat_lit 224, o0) ::
  (nat_lit 226, o144) ::
  (nat_lit 227, o0) ::
  (nat_lit 229, o146) ::
  (nat_lit 230, o147) ::
  (nat_lit 231, o0) ::
  (nat_lit 233, o148) ::
  (nat_lit 234, o0) ::
  (nat_lit 236, o150) ::
  (nat_lit 237, o151) ::
  (nat_lit 238, o0) ::
  (nat_lit 240, o152) ::
  (nat_lit 241, o0) ::
  (nat_lit 243, o154) ::
  (nat_lit 244, o155) ::
  (nat_lit 245, o0) ::
  (nat_lit 247, o156) ::
  (nat_lit 248, o0) ::
  (nat_lit 250, o158) ::
  (nat_lit 251, o159) ::
  (nat_lit 252, o0) ::
  (nat_lit 254, o160) ::
  (nat_lit 255, o0) ::
  (nat_lit 257, o162) ::
  (nat_lit 258, o163) ::
  (nat_lit 259, o0) ::
  (nat_lit 261, o164) ::
  (nat_lit 262, o0) ::
  (nat_lit 264, o166) ::
  (nat_lit 265, o167) ::
  (nat_lit 266, o0) ::
  (nat_lit 268, o168) ::
  (nat_lit 269, o0) ::
  (nat_lit 271, o170) ::
  (nat_lit 272, o171) ::
  (nat_lit 273, o0) ::
  (nat_lit 275, o172) ::
  (nat_lit 276, o0) ::
  (nat_lit 278, o174) ::
  (nat_lit 279, o175) ::
  (nat_lit 280, o0) ::
  (nat_lit 282, o176) ::
  (nat_lit 283, o0) ::
  (nat_lit 285, o178) ::
  (nat_lit 286, o179) ::
  (nat_lit 287, o0) ::
  (nat_lit 289, o180) ::
  (nat_lit 290, o0) ::
  (nat_lit 292, o182) ::
  (nat_lit 293, o183) ::
  (nat_lit 294, o0) ::
  (nat_lit 296, o184) ::
  (nat_lit 297, o0) ::
  (nat_lit 299, o186) ::
  (nat_lit 300, o187) ::
  (nat_lit 301, o0) ::
  (nat_lit 303, o188) ::
  (nat_lit 304, o0) ::
  (nat_lit 306, o190) ::
  (nat_lit 307, o191) ::
  (nat_lit 308, o0) ::
  (nat_lit 310, o192) ::
  (nat_lit 311, o0) ::
  (nat_lit 313, o194) ::
  (nat_lit 314, o195) ::
  (nat_lit 315, o0) ::
  (nat_lit 317, o196) ::
  (nat_lit 318, o0) ::
  (nat_lit 320, o198) ::
  (nat_lit 321, o199) ::
  (nat_lit 322, o0) ::
  (nat_lit 324, o200) ::
  (nat_lit 325, o0) ::
  (nat_lit 327, o202) ::
  (nat_lit 328, o203) ::
  (nat_lit 329, o0) ::
  (nat_lit 331, o204) ::
  (nat_lit 332, o0) ::
  (nat_lit 334, o206) ::
  (nat_lit 335, o207) ::
  (nat_lit 336, o208) ::
  (nat_lit 337, o209 P) ::
  (nat_lit 338, o210) ::
  (nat_lit 339, o211) ::
  (nat_lit 340, o212) ::
  (nat_lit 350, o0) ::
  (nat_lit 352, o221) ::
  (nat_lit 353, o0) ::
  (nat_lit 355, o223) ::
  (nat_lit 356, o224) ::
  (nat_lit 357, o225) ::
  (nat_lit 358, o0) ::
  (nat_lit 360, o226) ::
  (nat_lit 361, o0) ::
  (nat_lit 363, o228) ::
  (nat_lit 364, o229) ::
  (nat_lit 365, o0) ::
  (nat_lit 367, o230) ::
  (nat_lit 368, o0) ::
  (nat_lit 370, o232) ::
  (nat_lit 371, o233) ::
  (nat_lit 372, o0) ::
  (nat_lit 374, o234) ::
  (nat_lit 375, o0) ::
  (nat_lit 377, o236) ::
  (nat_lit 378, o237) ::
  (nat_lit 379, o0) ::
  (nat_lit 381, o238) ::
  (nat_lit 382, o0) ::
  (nat_lit 384, o240) ::
  (nat_lit 385, o241) ::
  (nat_lit 386, o0) ::
  (nat_lit 388, o242) ::
  (nat_lit 389, o0) ::
  (nat_lit 391, o244) ::
  (nat_lit 392, o245) ::
  (nat_lit 393, o0) ::
  (nat_lit 395, o246) ::
  (nat_lit 396, o0) ::
  (nat_lit 398, o248) ::
  (nat_lit 399, o249) ::
  (nat_lit 400, o0) ::
  (nat_lit 402, o250) ::
  (nat_lit 403, o0) ::
  (nat_lit 405, o252) ::
  (nat_lit 406, o253) ::
  (nat_lit 407, o0) ::
  (nat_lit 409, o254) ::
  (nat_lit 410, o0) ::
  (nat_lit 412, o256) ::
  (nat_lit 413, o257) ::
  (nat_lit 414, o0) ::
  (nat_lit 416, o258) ::
  (nat_lit 417, o0) ::
  (nat_lit 419, o260) ::
  (nat_lit 420, o261) ::
  (nat_lit 421, o262) ::
  (nat_lit 422, o0) ::
  (nat_lit 424, o263) ::
  (nat_lit 425, o0) ::
  (nat_lit 427, o265) ::
  (nat_lit 428, o266) ::
  (nat_lit 429, o267) ::
  (nat_lit 430, o268 P) ::
  (nat_lit 431, o327) ::
  (nat_lit 432, o270) ::
  (nat_lit 433, o271) ::
  (nat_lit 436, o0) ::
  (nat_lit 438, o276) ::
  (nat_lit 439, o0) ::
  (nat_lit 441, o278) ::
  (nat_lit 442, o279) ::
  (nat_lit 443, o280) ::
  (nat_lit 444, o0) ::
  (nat_lit 446, o281) ::
  (nat_lit 447, o0) ::
  (nat_lit 449, o283) ::
  (nat_lit 450, o284) ::
  (nat_lit 451, o0) ::
  (nat_lit 453, o285) ::
  (nat_lit 454, o0) ::
  (nat_lit 456, o287) ::
  (nat_lit 457, o288) ::
  (nat_lit 458, o0) ::
  (nat_lit 460, o289) ::
  (nat_lit 461, o0) ::
  (nat_lit 463, o291) ::
  (nat_lit 464, o292) ::
  (nat_lit 465, o0) ::
  (nat_lit 467, o293) ::
  (nat_lit 468, o0) ::
  (nat_lit 470, o295) ::
  (nat_lit 471, o296) ::
  (nat_lit 472, o0) ::
  (nat_lit 474, o297) ::
  (nat_lit 475, o0) ::
  (nat_lit 477, o299) ::
  (nat_lit 478, o300) ::
  (nat_lit 479, o0) ::
  (nat_lit 481, o301) ::
  (nat_lit 482, o0) ::
  (nat_lit 484, o303) ::
  (nat_lit 485, o304) ::
  (nat_lit 486, o0) ::
  (nat_lit 488, o305) ::
  (nat_lit 489, o0) ::
  (nat_lit 491, o307) ::
  (nat_lit 492, o308) ::
  (nat_lit 493, o0) ::
  (nat_lit 495, o309) ::
  (nat_lit 496, o0) ::
  (nat_lit 498, o311) ::
  (nat_lit 499, o312) ::
  (nat_lit 500, o0) ::
  (nat_lit 502, o313) ::
  (nat_lit 503, o0) ::
  (nat_lit 505, o315) ::
  (nat_lit 506, o316) ::
  (nat_lit 507, o0) ::
  (nat_lit 509, o317) ::
  (nat_lit 510, o0) ::
  (nat_lit 512, o319) ::
  (nat_lit 513, o320) ::
  (nat_lit 514, o0) ::
  (nat_lit 516, o321) ::
  (nat_lit 517, o0) ::
  (nat_lit 519, o323) ::
  (nat_lit 520, o324) ::
  (nat_lit 521, o328) ::
  (nat_lit 528, o0) ::
  (nat_lit 530, o333) ::
  (nat_lit 531, o0) ::
  (nat_lit 533, o335) ::
  (nat_lit 534, o336) ::
  (nat_lit 535, o0) ::
  (nat_lit 537, o337) ::
  (nat_lit 538, o0) ::
  (nat_lit 540, o339) ::
  (nat_lit 541, o340) ::
  (nat_lit 542, o0) ::
  (nat_lit 544, o341) ::
  (nat_lit 545, o0) ::
  (nat_lit 547, o343) ::
  (nat_lit 548, o344) ::
  (nat_lit 549, o0) ::
  (nat_lit 551, o345) ::
  (nat_lit 552, o0) ::
  (nat_lit 554, o347) ::
  (nat_lit 555, o348) ::
  (nat_lit 556, o0) ::
  (nat_lit 558, o349) ::
  (nat_lit 559, o0) ::
  (nat_lit 561, o351) ::
  (nat_lit 562, o352) ::
  (nat_lit 563, o0) ::
  (nat_lit 565, o353) ::
  (nat_lit 566, o0) ::
  (nat_lit 568, o355) ::
  (nat_lit 569, o356) ::
  (nat_lit 570, o0) ::
  (nat_lit 572, o357) ::
  (nat_lit 573, o0) ::
  (nat_lit 575, o359) ::
  (nat_lit 576, o360) ::
  (nat_lit 577, o0) ::
  (nat_lit 579, o361) ::
  (nat_lit 580, o0) ::
  (nat_lit 582, o363) ::
  (nat_lit 583, o364) ::
  (nat_lit 584, o0) ::
  (nat_lit 586, o365) ::
  (nat_lit 587, o0) ::
  (nat_lit 589, o367) ::
  (nat_lit 590, o368) ::
  (nat_lit 591, o0) ::
  (nat_lit 593, o369) ::
  (nat_lit 594, o0) ::
  (nat_lit 596, o371) ::
  (nat_lit 597, o372) ::
  (nat_lit 598, o0) ::
  (nat_lit 600, o373) ::
  (nat_lit 601, o0) ::
  (nat_lit 603, o375) ::
  (nat_lit 604, o376) ::
  (nat_lit 605, o0) ::
  (nat_lit 607, o377) ::
  (nat_lit 608, o0) ::
  (nat_lit 610, o379) ::
  (nat_lit 611, o380) ::
  (nat_lit 612, o0) ::
  (nat_lit 614, o381) ::
  (nat_lit 615, o0) ::
  (nat_lit 617, o383) ::
  (nat_lit 618, o384) ::
  (nat_lit 619, o0) ::
  (nat_lit 621, o385) ::
  (nat_lit 622, o0) ::
  (nat_lit 624, o387) ::
  (nat_lit 625, o388) ::
  (nat_lit 626, o0) ::
  (nat_lit 628, o389) ::
  (nat_lit 629, o0) ::
  (nat_lit 631, o391) ::
  (nat_lit 632, o392) ::
  (nat_lit 633, o0) ::
  (nat_lit 635, o393) ::
  (nat_lit 636, o0) ::
  (nat_lit 638, o395) ::
  (nat_lit 639, o396) ::
  (nat_lit 640, o0) ::
  (nat_lit 642, o397) ::
  (nat_lit 643, o0) ::
  (nat_lit 645, o399) ::
  (nat_lit 646, o400) ::
  (nat_lit 647, o0) ::
  (nat_lit 649, o401) ::
  (nat_lit 650, o0) ::
  (nat_lit 652, o403) ::
  (nat_lit 653, o404) ::
  (nat_lit 654, o0) ::
  (nat_lit 656, o405) ::
  (nat_lit 657, o0) ::
  (nat_lit 659, o407) ::
  (nat_lit 660, o408) ::
  (nat_lit 661, o0) ::
  (nat_lit 663, o409) ::
  (nat_lit 664, o0) ::
  (nat_lit 666, o411) ::
  (nat_lit 667, o412) ::
  (nat_lit 668, o0) ::
  (nat_lit 669, o413 P) ::
  (nat_lit 670, o414) ::
  (nat_lit 673, o0) ::
  (nat_lit 675, o419) ::
  (nat_lit 676, o0) ::
  (nat_lit 678, o421) ::
  (nat_lit 679, o422) ::
  (nat_lit 680, o0) ::
  (nat_lit 682, o423) ::
  (nat_lit 683, o0) ::
  (nat_lit 685, o425) ::
  (nat_lit 686, o426) ::
  (nat_lit 687, o0) ::
  (nat_lit 689, o427) ::
  (nat_lit 690, o0) ::
  (nat_lit 692, o429) ::
  (nat_lit 693, o430) ::
  (nat_lit 694, o0) ::
  (nat_lit 697, o432) ::
  (nat_lit 698, o433) ::
  (nat_lit 699, o0) ::
  (nat_lit 701, o434) ::
  (nat_lit 702, o0) ::
  (nat_lit 704, o436) ::
  (nat_lit 705, o437) ::
  (nat_lit 706, o0) ::
  (nat_lit 708, o438) ::
  (nat_lit 709, o0) ::
  (nat_lit 711, o440) ::
  (nat_lit 712, o441) ::
  (nat_lit 713, o0) ::
  (nat_lit 716, o443) ::
  (nat_lit 717, o444) :: []
noncomputable def KA : List Addr := [2, 3, 15, 17, 18, 20, 21, 29, 31, 32, 34, 35, 36, 37, 38, 39, 40, 43, 45, 46, 48, 49, 50, 52, 53, 55, 56, 57, 59, 60, 62, 63, 64, 66, 67, 69, 70, 71, 73, 74, 76, 77, 78, 80, 81, 83, 84, 85, 87, 88, 90, 91, 92, 94, 95, 97, 98, 99, 106, 107, 109, 110, 112, 113, 114, 115, 116, 117, 120, 127, 128, 129, 139, 141, 142, 144, 145, 146, 147, 148, 149, 150, 153, 155, 156, 158, 159, 160, 162, 163, 165, 166, 167, 169, 170, 172, 173, 174, 176, 177, 179, 180, 181, 183, 184, 186, 187, 188, 190, 191, 193, 194, 202, 203, 205, 206, 208, 209, 210, 212, 213, 215, 216, 217, 219, 220, 222, 223, 224, 226, 227, 229, 230, 231, 233, 234, 236, 237, 238, 240, 241, 243, 244, 245, 247, 248, 250, 251, 252, 254, 255, 257, 258, 259, 261, 262, 264, 265, 266, 268, 269, 271, 272, 273, 275, 276, 278, 279, 280, 282, 283, 285, 286, 287, 289, 290, 292, 293, 294, 296, 297, 299, 300, 301, 303, 304, 306, 307, 308, 310, 311, 313, 314, 315, 317, 318, 320, 321, 322, 324, 325, 327, 328, 329, 331, 332, 334, 335, 336, 337, 338, 339, 340, 350, 352, 353, 355, 356, 357, 358, 360, 361, 363, 364, 365, 367, 368, 370, 371, 372, 374, 375, 377, 378, 379, 381, 382, 384, 385, 386, 388, 389, 391, 392, 393, 395, 396, 398, 399, 400, 402, 403, 405, 406, 407, 409, 410, 412, 413, 414, 416, 417, 419, 420, 421, 422, 424, 425, 427, 428, 429, 430, 431, 432, 433, 436, 438, 439, 441, 442, 443, 444, 446, 447, 449, 450, 451, 453, 454, 456, 457, 458, 460, 461, 463, 464, 465, 467, 468, 470, 471, 472, 474, 475, 477, 478, 479, 481, 482, 484, 485, 486, 488, 489, 491, 492, 493, 495, 496, 498, 499, 500, 502, 503, 505, 506, 507, 509, 510, 512, 513, 514, 516, 517, 519, 520, 521, 528, 530, 531, 533, 534, 535, 537, 538, 540, 541, 542, 544, 545, 547, 548, 549, 551, 552, 554, 555, 556, 558, 559, 561, 562, 563, 565, 566, 568, 569, 570, 572, 573, 575, 576, 577, 579, 580, 582, 583, 584, 586, 587, 589, 590, 591, 593, 594, 596, 597, 598, 600, 601, 603, 604, 605, 607, 608, 610, 611, 612, 614, 615, 617, 618, 619, 621, 622, 624, 625, 626, 628, 629, 631, 632, 633, 635, 636, 638, 639, 640, 642, 643, 645, 646, 647, 649, 650, 652, 653, 654, 656, 657, 659, 660, 661, 663, 664, 666, 667, 668, 669, 670, 673, 675, 676, 678, 679, 680, 682, 683, 685, 686, 687, 689, 690, 692, 693, 694, 697, 698, 699, 701, 702, 704, 705, 706, 708, 709, 711, 712, 713, 716, 717]
noncomputable def en : Env := { scope := pg.main.scope, locals := mainNs, globals := mainNs, cells := [], code := .ref 13, frame := some 14 }
noncomputable def cE : Code := .body bd en
noncomputable abbrev ps0 : Pos := ⟨0, 0, 0, 0⟩
noncomputable abbrev fr0 : List Frame := [topFrame ps0]
noncomputable abbrev sta (h : Params → Heap) (k : Nat) (w : World) (os : OsState) : Shared := ⟨h w.params, #[], {}, k, os⟩
noncomputable abbrev stHT (t : Params → BT) (n : Nat) (k : Nat) (w : World) (os : OsState) : SharedT := ⟨t w.params, n, {}, #[], {}, k, os⟩
noncomputable def sg (a n : Nat) : List Stmt := (bd.drop a).take n
theorem KAeq (P : Params) : KA = (KK P).map (·.1) := by kernel_rfl
end Mine

namespace Mine
set_option maxHeartbeats 8000000
theorem hpre (w : World) (os : OsState) : topGo treeTable pg w 11 (some (.ref 6)) 12 ⟨boot_heap w.params, Array.mk [], boot_drawn, boot_toks, os⟩ (topStub pg) = some (sta h0 187 w os, ⟨denote treeTable cE, cE, ps0, fr0⟩) := by kernel_rfl
theorem hblk (w : World) (os : OsState) : segRun treeTable pg w 11 (some (.ref 6)) 1 1 (sta h0 187 w os) (blockOf bd en cE ps0 fr0) = some (.next, (stHT t0 15 187 w os).abs, cE, ps0) := by kernel_rfl
theorem hp0 (w : World) (os : OsState) : segRunT treeTable pg w 11 (some (.ref 6)) 1 783 (stHT t0 15 187 w os) (piecesOf (sg 0 13) en cE ps0 fr0) = some (.next, stHT t1 120 360 w os, cE, ⟨152, 0, 157, 28⟩) := by kernel_rfl
theorem hp1 (w : World) (os : OsState) : segRunT treeTable pg w 11 (some (.ref 6)) 1 628 (stHT t1 120 360 w os) (piecesOf (sg 13 9) en cE ⟨152, 0, 157, 28⟩ fr0) = some (.next, stHT t2 195 458 w os, cE, ⟨181, 0, 196, 15⟩) := by kernel_rfl
theorem hp2 (w : World) (os : OsState) : segRunT treeTable pg w 11 (some (.ref 6)) 1 831 (stHT t2 195 458 w os) (piecesOf (sg 22 1) en cE ⟨181, 0, 196, 15⟩ fr0) = some (.next, stHT t3 343 662 w os, cE, ⟨197, 0, 400, 36⟩) := by kernel_rfl
theorem hp3 (w : World) (os : OsState) : segRunT treeTable pg w 11 (some (.ref 6)) 1 559 (stHT t3 343 662 w os) (piecesOf (sg 23 2) en cE ⟨197, 0, 400, 36⟩ fr0) = some (.next, stHT t4 436 778 w os, cE, ⟨454, 0, 454, 8⟩) := by kernel_rfl
theorem hp4 (w : World) (os : OsState) : segRunT treeTable pg w 11 (some (.ref 6)) 1 419 (stHT t4 436 778 w os) (piecesOf (sg 25 16) en cE ⟨454, 0, 454, 8⟩ fr0) = some (.next, stHT t5 521 903 w os, cE, ⟨553, 0, 556, 13⟩) := by kernel_rfl
theorem hp5 (w : World) (os : OsState) : segRunT treeTable pg w 11 (some (.ref 6)) 1 876 (stHT t5 521 903 w os) (piecesOf (sg 41 1) en cE ⟨553, 0, 556, 13⟩ fr0) = some (.next, stHT t6 673 1102 w os, cE, ⟨557, 0, 731, 16⟩) := by kernel_rfl
theorem hp6 (w : World) (os : OsState) : segRunT treeTable pg w 11 (some (.ref 6)) 1 225 (stHT t6 673 1102 w os) (piecesOf (sg 42 8) en cE ⟨557, 0, 731, 16⟩ fr0) = some (.next, stHT t7 718 1169 w os, cE, ⟨786, 0, 819, 16⟩) := by kernel_rfl
theorem hfin (w : World) (os : OsState) : topRun treeTable pg w 11 (some (.ref 6)) 2 (stHT t7 718 1169 w os).abs ⟨doneF .next, cE, ⟨786, 0, 819, 16⟩, fr0⟩ = some (sta h7 1169 w os) := by kernel_rfl
theorem bdEq : bd = (sg 0 13 ++ (sg 13 9 ++ (sg 22 1 ++ (sg 23 2 ++ (sg 25 16 ++ (sg 41 1 ++ (sg 42 8 ++ []))))))) := by kernel_rfl
theorem hrun (w : World) (os : OsState) : topRun treeTable pg w 11 (some (.ref 6)) (12 + (1 + (783 + (628 + (831 + (559 + (419 + (876 + (225 + 2))))))))) ⟨boot_heap w.params, Array.mk [], boot_drawn, boot_toks, os⟩ (topStub pg) = some (sta h7 1169 w os) :=
  go_top (hpre w os) (piece_block (hblk w os) ((congrArg (fun l => topRun treeTable pg w 11 (some (.ref 6)) (783 + (628 + (831 + (559 + (419 + (876 + (225 + 2))))))) (stHT t0 15 187 w os).abs (restOf l en cE ps0 fr0)) bdEq).trans (piece_app (segRun_of (hp0 w os)) (piece_app (segRun_of (hp1 w os)) (piece_app (segRun_of (hp2 w os)) (piece_app (segRun_of (hp3 w os)) (piece_app (segRun_of (hp4 w os)) (piece_app (segRun_of (hp5 w os)) (piece_app (segRun_of (hp6 w os)) (piece_nil (hfin w os)))))))))))
theorem hopen : opening pg = plainProg pg.main.scope.names := by kernel_rfl
theorem hfence (s : Shared) : fenceModules? pg s = some s := by kernel_rfl
theorem hsize (w : World) : ((boot_heap w.params).isNs mainGlobals && (Array.mk [] : Array GenState).size == 0, (boot_heap w.params).objs.size, (boot_heap w.params).nsMap mainGlobals "__annotations__") = (true, 11, some (.ref 6)) := by kernel_rfl
noncomputable def vw : Program := view pg [0, 2, 3, 4, 5, 6, 7, 8, 9, 10, 12, 13, 15, 16, 17, 18, 19, 20, 21, 22, 23, 25, 28, 29, 30, 31, 32, 33, 34, 35, 36, 38, 39, 40, 41, 43, 44, 45, 46, 47, 48, 49]
noncomputable def lse : List Str := ["GateloomError", "vec"]
noncomputable abbrev xt : Shared → Bool := fun s => xlAt vw [] s && recOk (RowW.records PySem.Challenge.rw_nn0336_01.row.toRowW) s
theorem hl1 (w : World) (os : OsState) : (staticsOk (importedModules pg.main.body) (boot_heap w.params) (h7 w.params) && namesBound pg (h7 w.params) && gensDone (sta h7 1169 w os) && laidKept (boot_heap w.params) (h7 w.params)) = true := by kernel_rfl
end Mine

namespace Mine

noncomputable abbrev Im := List (Addr × Obj)
inductive AV where
  | none
  | bool (b : Bool)
  | int (i : Int)
  | str (s : Str)
  | ref (a : Addr)
  | bi (id : String)
  | ty (n : String)
  | tup (vs : List AV)
  | frz (C : Addr) (fs : List (Str × AV))
  | fdict (es : List (Str × AV))
  | rng (a b c : Int)

mutual
inductive VR (w : World) (I : Im) : AV → Value → Prop
  | none : VR w I .none .none
  | bool (b : Bool) : VR w I (.bool b) (.bool b)
  | int (i : Int) (t : Tok) : VR w I (.int i) (.int i t)
  | str (s : Str) (t : Tok) : VR w I (.str s) (.str s t)
  | ref (a : Addr) : VR w I (.ref a) (.ref a)
  | bi (id : String) : VR w I (.bi id) (.builtin id)
  | ty (n : String) : VR w I (.ty n) (.type n)
  | tup {vs ws a n} : (a, ({ cls := .type "tuple", data := .seq ws.toArray n } : Obj)) ∈ I → VRs w I vs ws → VR w I (.tup vs) (.ref a)
  | frz {C fs x d es n} : (x, instObj C d) ∈ I → (d, dictOf es n) ∈ I → ERs w I fs es → VR w I (.frz C fs) (.ref x)
  | fdict {fs es d n} : (d, dictOf es n) ∈ I → ERs w I fs es → VR w I (.fdict fs) (.ref d)
  | rng {a b c r t u v} : (r, ({ cls := .type "range", data := .fields #[.int a t, .int b u, .int c v] } : Obj)) ∈ I → VR w I (.rng a b c) (.ref r)
inductive VRs (w : World) (I : Im) : List AV → List Value → Prop
  | nil : VRs w I [] []
  | cons {v v' vs vs'} : VR w I v v' → VRs w I vs vs' → VRs w I (v :: vs) (v' :: vs')
inductive ERs (w : World) (I : Im) : List (Str × AV) → List DictEntry → Prop
  | nil : ERs w I [] []
  | cons {k t v v' es es'} : VR w I v v' → ERs w I es es' → ERs w I ((k, v) :: es) (⟨PyData.keyHash w.params k, .str k t, v'⟩ :: es')
end

section
variable {w : World} {I I' : Im}
theorem mono3 (k : I ⊆ I') : (∀ {a v}, VR w I a v → VR w I' a v) ∧ (∀ {a v}, VRs w I a v → VRs w I' a v) ∧ (∀ {a v}, ERs w I a v → ERs w I' a v) := by
  refine ⟨fun h => VR.rec (motive_1 := fun a v _ => VR w I' a v) (motive_2 := fun a v _ => VRs w I' a v) (motive_3 := fun a v _ => ERs w I' a v) .none .bool .int .str .ref .bi .ty (fun h _ => .tup (k h)) (fun h1 h2 _ => .frz (k h1) (k h2)) (fun h _ => .fdict (k h)) (fun h => .rng (k h)) .nil (fun _ _ => .cons) .nil (fun _ _ => .cons) h,
    fun h => VRs.rec (motive_1 := fun a v _ => VR w I' a v) (motive_2 := fun a v _ => VRs w I' a v) (motive_3 := fun a v _ => ERs w I' a v) .none .bool .int .str .ref .bi .ty (fun h _ => .tup (k h)) (fun h1 h2 _ => .frz (k h1) (k h2)) (fun h _ => .fdict (k h)) (fun h => .rng (k h)) .nil (fun _ _ => .cons) .nil (fun _ _ => .cons) h,
    fun h => ERs.rec (motive_1 := fun a v _ => VR w I' a v) (motive_2 := fun a v _ => VRs w I' a v) (motive_3 := fun a v _ => ERs w I' a v) .none .bool .int .str .ref .bi .ty (fun h _ => .tup (k h)) (fun h1 h2 _ => .frz (k h1) (k h2)) (fun h _ => .fdict (k h)) (fun h => .rng (k h)) .nil (fun _ _ => .cons) .nil (fun _ _ => .cons) h⟩
theorem VR.mono (k : I ⊆ I') {a v} (h : VR w I a v) : VR w I' a v := (mono3 k).1 h
theorem VRs.mono (k : I ⊆ I') {a v} (h : VRs w I a v) : VRs w I' a v := (mono3 k).2.1 h
theorem ERs.mono (k : I ⊆ I') {a v} (h : ERs w I a v) : ERs w I' a v := (mono3 k).2.2 h

-- what a value that stands for this is
variable {u : Value}
theorem VR.strI {x : Str} (h : VR w I (.str x) u) : ∃ t, u = .str x t := by cases h; exact ⟨_, rfl⟩
theorem VR.intI {i : Int} (h : VR w I (.int i) u) : ∃ t, u = .int i t := by cases h; exact ⟨_, rfl⟩
theorem VR.boolI {b : Bool} (h : VR w I (.bool b) u) : u = .bool b := by cases h; rfl
theorem VR.noneI (h : VR w I .none u) : u = .none := by cases h; rfl
theorem VR.refI {a : Addr} (h : VR w I (.ref a) u) : u = .ref a := by cases h; rfl
theorem VR.biI {a : String} (h : VR w I (.bi a) u) : u = .builtin a := by cases h; rfl
theorem VR.tyI {a : String} (h : VR w I (.ty a) u) : u = .type a := by cases h; rfl
inductive TupI (w : World) (I : Im) (vs : List AV) (u : Value) : Prop
  | mk (ws : List Value) (a : Addr) (n : Nat) (h1 : u = .ref a) (h2 : (a, ({ cls := .type "tuple", data := .seq ws.toArray n } : Obj)) ∈ I) (h3 : VRs w I vs ws)
theorem VR.tupI {vs : List AV} (h : VR w I (.tup vs) u) : TupI w I vs u := by cases h; exact ⟨_, _, _, rfl, ‹_›, ‹_›⟩
inductive FrzI (w : World) (I : Im) (C : Addr) (fs : List (Str × AV)) (u : Value) : Prop
  | mk (x d : Addr) (es : List DictEntry) (n : Nat) (h1 : u = .ref x) (h2 : (x, instObj C d) ∈ I) (h3 : (d, dictOf es n) ∈ I) (h4 : ERs w I fs es)
theorem VR.frzI {C : Addr} {fs : List (Str × AV)} (h : VR w I (.frz C fs) u) : FrzI w I C fs u := by cases h; exact ⟨_, _, _, _, rfl, ‹_›, ‹_›, ‹_›⟩
inductive RngI (I : Im) (a b c : Int) (u : Value) : Prop
  | mk (r : Addr) (t1 t2 t3 : Tok) (h1 : u = .ref r) (h2 : (r, ({ cls := .type "range", data := .fields #[.int a t1, .int b t2, .int c t3] } : Obj)) ∈ I)
theorem VR.rngI {a b c : Int} (h : VR w I (.rng a b c) u) : RngI I a b c u := by cases h; exact ⟨_, _, _, _, rfl, ‹_›⟩
theorem VRs.nilI {ws : List Value} (h : VRs w I [] ws) : ws = [] := by cases h; rfl
inductive ConsI (w : World) (I : Im) (v : AV) (vs : List AV) (ws : List Value) : Prop
  | mk (x : Value) (xs : List Value) (h1 : ws = x :: xs) (h2 : VR w I v x) (h3 : VRs w I vs xs)
theorem VRs.consI {v : AV} {vs : List AV} {ws : List Value} (h : VRs w I (v :: vs) ws) : ConsI w I v vs ws := by cases h; exact ⟨_, _, rfl, ‹_›, ‹_›⟩
inductive OneI (w : World) (I : Im) (a : AV) (ws : List Value) : Prop
  | mk (x : Value) (h1 : ws = [x]) (h2 : VR w I a x)
theorem VRs.one {a : AV} {ws : List Value} (h : VRs w I [a] ws) : OneI w I a ws := by obtain ⟨x, xs, rfl, h1, h2⟩ := h.consI; exact ⟨x, by rw [h2.nilI], h1⟩
inductive TwoI (w : World) (I : Im) (a b : AV) (ws : List Value) : Prop
  | mk (x y : Value) (h1 : ws = [x, y]) (h2 : VR w I a x) (h3 : VR w I b y)
theorem VRs.two {a b : AV} {ws : List Value} (h : VRs w I [a, b] ws) : TwoI w I a b ws := by obtain ⟨x, xs, rfl, h1, h2⟩ := h.consI; obtain ⟨y, rfl, h3⟩ := h2.one; exact ⟨x, y, rfl, h1, h3⟩
inductive KvI (w : World) (I : Im) (k : Str) (v : AV) (fs : List (Str × AV)) (es : List DictEntry) : Prop
  | mk (t : Tok) (x : Value) (es' : List DictEntry) (h1 : es = ⟨PyData.keyHash w.params k, .str k t, x⟩ :: es') (h2 : VR w I v x) (h3 : ERs w I fs es')
theorem ERs.consI {k : Str} {v : AV} {fs : List (Str × AV)} {es : List DictEntry} (h : ERs w I ((k, v) :: fs) es) : KvI w I k v fs es := by cases h; exact ⟨_, _, _, rfl, ‹_›, ‹_›⟩
theorem ERs.nilI {es : List DictEntry} (h : ERs w I [] es) : es = [] := by cases h; rfl
end

noncomputable abbrev excObj (C t : Addr) (d : Option Addr) : Obj := { cls := .ref C, dict := d, data := .fields #[.ref t, .none, .none, .none, .bool false, .none] }
noncomputable abbrev tupObj (ws : List Value) : Obj := { cls := .type "tuple", data := .seq ws.toArray }
inductive AO where
  | inst (C d : Addr)
  | exc (C : Addr) (d : Option Addr)
  | dict (es : List (Str × AV))
  | list (vs : List AV)
  | sdict (D : List (Str × PyData))
  | cell (v : Option AV)
  | ns (loc : List (Str × AV))
  | it (rest : List AV)

inductive OR (w : World) (I : Im) : AO → Obj → Prop
  | inst (C d : Addr) : OR w I (.inst C d) (instObj C d)
  | exc (C t : Addr) (d : Option Addr) : OR w I (.exc C d) (excObj C t d)
  | dict {fs : List (Str × AV)} {es : List DictEntry} {n : Nat} : ERs w I fs es → OR w I (.dict fs) (dictOf es n)
  | list {vs : List AV} {ws : List Value} {n : Nat} : VRs w I vs ws → OR w I (.list vs) (listOf ws.toArray n)
  | sdict {prog : Program} {kvs : List (Str × Value)} {D : List (Str × PyData)} {o : Obj} : o.IsDictOf (PySem.strKind prog w) kvs → PyProof.V.FlatPairs PyData.str kvs (D.map fun p => (PyData.str p.1, p.2)) → OR w I (.sdict D) o
  | cell {v : AV} {v' : Value} {o : Obj} : VR w I v v' → o.data = .cell (some v') → OR w I (.cell (some v)) o
  | cell0 {o : Obj} : o.data = .cell none → OR w I (.cell none) o
  | ns {es : Array DictEntry} {ep : Nat} {m' : Str → Option Value} {loc : List (Str × AV)} {o : Obj} : o.data = .dict es ep → StrKeys es → (∀ name, nsFind es name = m' name) → (∀ x v, loc.lookup x = some v → ∃ v', m' x = some v' ∧ VR w I v v') → OR w I (.ns loc) o
  | itL {l : Addr} {ws : List Value} {n i : Nat} {rest : List AV} {o : Obj} : (l, listOf ws.toArray n) ∈ I → VRs w I rest (ws.drop i) → o.cls = .type "list_iterator" → o.data = .fields #[.ref l, .int i 0] → OR w I (.it rest) o
  | itT {t : Addr} {ws : List Value} {n i : Nat} {rest : List AV} {o : Obj} : (t, ({ cls := .type "tuple", data := .seq ws.toArray n } : Obj)) ∈ I → VRs w I rest (ws.drop i) → o.cls = .type "tuple_iterator" → o.data = .fields #[.ref t, .int i 0] → OR w I (.it rest) o
  | itS {x : Str} {t : Tok} {i : Nat} {rest : List AV} {o : Obj} : rest = ((x.cps.toList.drop i).map fun c => .str ⟨#[c]⟩) → o.cls = .type "str_ascii_iterator" → o.data = .fields #[.str x t, .int i 0] → OR w I (.it rest) o
  | itR {a c : Int} {n : Nat} {rest : List AV} : rest = ((List.range n).map fun k => .int (a + k * c)) → OR w I (.it rest) { cls := .type "range_iterator", data := .fields #[rawInt a, rawInt n, rawInt c] }
section
variable {w : World} {I : Im} {o : Obj}
theorem OR.instI {C d : Addr} (h : OR w I (.inst C d) o) : o = instObj C d := by cases h; rfl
theorem OR.excI {C : Addr} {d : Option Addr} (h : OR w I (.exc C d) o) : ∃ t, o = excObj C t d := by cases h; exact ⟨_, rfl⟩
inductive DicI (w : World) (I : Im) (fs : List (Str × AV)) (o : Obj) : Prop
  | mk (es : List DictEntry) (n : Nat) (h1 : o = dictOf es n) (h2 : ERs w I fs es)
theorem OR.dictI {fs : List (Str × AV)} (h : OR w I (.dict fs) o) : DicI w I fs o := by cases h; exact ⟨_, _, rfl, ‹_›⟩
inductive LisI (w : World) (I : Im) (vs : List AV) (o : Obj) : Prop
  | mk (ws : List Value) (n : Nat) (h1 : o = listOf ws.toArray n) (h2 : VRs w I vs ws)
theorem OR.listI {vs : List AV} (h : OR w I (.list vs) o) : LisI w I vs o := by cases h; exact ⟨_, _, rfl, ‹_›⟩
inductive SdiI (w : World) (D : List (Str × PyData)) (o : Obj) : Prop
  | mk (prog : Program) (kvs : List (Str × Value)) (h1 : o.IsDictOf (PySem.strKind prog w) kvs) (h2 : PyProof.V.FlatPairs PyData.str kvs (D.map fun p => (PyData.str p.1, p.2)))
theorem OR.sdictI {D : List (Str × PyData)} (h : OR w I (.sdict D) o) : SdiI w D o := by cases h; exact ⟨_, _, ‹_›, ‹_›⟩
inductive CelI (w : World) (I : Im) (v : AV) (o : Obj) : Prop
  | mk (v' : Value) (h1 : VR w I v v') (h2 : o.data = .cell (some v'))
theorem OR.cellI {v : AV} (h : OR w I (.cell (some v)) o) : CelI w I v o := by cases h; exact ⟨_, ‹_›, ‹_›⟩
inductive NsI (w : World) (I : Im) (loc : List (Str × AV)) (o : Obj) : Prop
  | mk (es : Array DictEntry) (ep : Nat) (m' : Str → Option Value) (h1 : o.data = .dict es ep) (h2 : StrKeys es) (h3 : ∀ name, nsFind es name = m' name) (h4 : ∀ x v, loc.lookup x = some v → ∃ v', m' x = some v' ∧ VR w I v v')
theorem OR.nsI {loc : List (Str × AV)} (h : OR w I (.ns loc) o) : NsI w I loc o := by cases h; exact ⟨_, _, _, ‹_›, ‹_›, ‹_›, ‹_›⟩
end
theorem OR.mono {w : World} {I I' : Im} (k : I ⊆ I') {a o} (h : OR w I a o) : OR w I' a o := by
  cases h with
  | inst => exact .inst _ _
  | exc => exact .exc _ _ _
  | dict h => exact .dict (h.mono k)
  | list h => exact .list (h.mono k)
  | sdict h1 h2 => exact .sdict h1 h2
  | cell h e => exact .cell (h.mono k) e
  | cell0 e => exact .cell0 e
  | ns h1 h2 h3 h4 => exact .ns h1 h2 h3 fun x v e => let ⟨v', a, b⟩ := h4 x v e; ⟨v', a, b.mono k⟩
  | itL h1 h2 h3 h4 => exact .itL (k h1) (h2.mono k) h3 h4
  | itT h1 h2 h3 h4 => exact .itT (k h1) (h2.mono k) h3 h4
  | itS h1 h3 h4 => exact .itS h1 h3 h4
  | itR h => exact .itR h
theorem OR.notFreed {w : World} {I : Im} {a o} (h : OR w I a o) : o.isFreed = false := by
  have key : ∀ {o : Obj}, (∀ x, o.data = x → x ≠ .freed) → o.isFreed = false := by
    intro o h
    obtain ⟨c, d, dt, sl⟩ := o
    cases dt <;> first | rfl | exact absurd rfl (h _ rfl)
  cases h with
  | sdict h1 _ => obtain ⟨es, ep, _, e, _⟩ := h1; exact key fun x q => by rw [← q, e]; intro z; cases z
  | cell _ e => exact key fun x q => by rw [← q, e]; intro z; cases z
  | cell0 e => exact key fun x q => by rw [← q, e]; intro z; cases z
  | ns e => exact key fun x q => by rw [← q, e]; intro z; cases z
  | itL _ _ _ e => exact key fun x q => by rw [← q, e]; intro z; cases z
  | itT _ _ _ e => exact key fun x q => by rw [← q, e]; intro z; cases z
  | itS _ _ e => exact key fun x q => by rw [← q, e]; intro z; cases z
  | _ => rfl

noncomputable abbrev Hp := Addr → Option AO
structure St where
  loc : List (Str × AV)
  H : Hp
noncomputable def Hp.set (H : Hp) (a : Addr) (o : AO) : Hp := fun b => if b = a then some o else H b
noncomputable def Hp.drop (H : Hp) (a : Addr) : Hp := fun b => if b = a then none else H b

structure Cfg where
  prog : Program
  w : World
  K : Frag
  p : Program
  loose : List Str
  mean : ExcName → Option Value
  mg : Str → Option Value
  mb : Str → Option Value
  script : Addr
  its : List Value

structure GF (G : Cfg) (h : Heap) : Prop where
  X : G.K.In h
  T : Top G.p G.loose G.mean G.mg G.mb h
  S : h.IsList G.script G.its.toArray

theorem GF.keeps {G : Cfg} {h h' : Heap} (g : GF G h) (k : h.StaysIn h') : GF G h' := ⟨g.X.keeps k, g.T.keeps k, stays_list k g.S⟩

structure AOk (k : Nat) (A : Around) : Prop where
  d : A.depth + k ≤ 900
  u : A.units + 8 * k ≤ 9000

structure RelW (G : Cfg) (B : Heap) (L : Addr) (I : Im) (σ : St) (h : Heap) (own : List (Addr × Obj)) (m : Str → Option Value) : Prop where
  F : Fr B L h m
  N : News B L h (own ++ I)
  apart : ∀ p ∈ own, ∀ q ∈ I, p.1 ≠ q.1
  objs : ∀ a ao, σ.H a = some ao → ∃ o, (a, o) ∈ own ∧ OR G.w I ao o
  locs : ∀ x v, σ.loc.lookup x = some v → ∃ v', m x = some v' ∧ VR G.w I v v'
noncomputable def Rel (G : Cfg) (B : Heap) (L : Addr) (I : Im) (σ : St) (h : Heap) : Prop := ∃ own m, RelW G B L I σ h own m

structure Same (s s' : Shared) : Prop where
  gens : s'.gens = s.gens
  drawn : s'.drawn = s.drawn
  os : s'.os = s.os
theorem Same.refl (s : Shared) : Same s s := ⟨rfl, rfl, rfl⟩
theorem Same.trans {s₁ s₂ s₃ : Shared} (a : Same s₁ s₂) (b : Same s₂ s₃) : Same s₁ s₃ := ⟨b.gens.trans a.gens, b.drawn.trans a.drawn, b.os.trans a.os⟩

end Mine

namespace Mine

theorem stT {a b c : Heap} (x : a.StaysIn b) (y : b.StaysIn c) : a.StaysIn c := fun i o e => y i o (x i o e)
theorem stR (a : Heap) : a.StaysIn a := fun _ _ e => e

inductive MarkAt (h base : Heap) (e : Addr) (vs : Array Value) (f : Value) : Prop
  | mk (T : Addr) (oT : Obj) (ts : Array Value) (h1 : vs[1]? = some (.ref T)) (h2 : base.get? T = none) (h3 : T ≠ e) (h4 : h.get? T = some oT) (h5 : oT.data = .fields ts) (h6 : ts[3]? = some f)
inductive ExcAt (h base : Heap) (e : Addr) (cls : Value) (ed : Addr) (fl : Option Value) : Prop
  | mk (oe : Obj) (vs : Array Value) (h1 : h.get? e = some oe) (h2 : oe.cls = cls) (h3 : oe.dict = some ed) (h4 : oe.data = .fields vs) (h5 : 1 < vs.size)
    (h6 : match fl with | none => vs[1]? = some .none | some f => MarkAt h base e vs f)

inductive XO (C : Addr) (base : Heap) (l : List Env) (L : Addr) (x : Str) (e : Value) (h : Heap) : Prop
  | mk (ea ed : Addr) (fl : Option Value) (es : List DictEntry) (n : Nat) (sl : Array (Option Value)) (h1 : e = .ref ea) (h2 : base.StaysIn h) (h3 : base.get? ea = none) (h4 : h.FunFrames base l) (h5 : ExcAt h base ea (.ref C) ed fl)
    (h6 : fl = none ∨ fl = some .none ∨ fl = some (rawInt L)) (h7 : h.get? ed = some { dictOf es n with slots := sl }) (h8 : ∃ t, getL "kind" es = some (some (.str x t)))
structure XR (G : Cfg) (C : Addr) (base : Heap) (l : List Env) (B : Heap) (L : Addr) (x : Str) (e : Value) (h : Heap) : Prop where
  ex : XO C base l L x e h
  kept : B.UpToSlots h

structure Cx (G : Cfg) (k : Nat) (env fenv : Env) (A A₀ : Around) (base B : Heap) (outer : List Env) (L : Addr) : Prop where
  ok : AOk k A
  fr : A.frames = some (fenv :: outer)
  hf : fenv.frame = some L
  hl : env.frame = some env.locals → fenv = env ∧ env.locals = L
  hk : env.scope.kind = .function
  hkf : fenv.scope.kind = .function
  hh : A.handled = none
  hg : env.globals = mainGlobals
  hb : env.builtins = builtinsNs
  below : Below A₀ base outer B
  gf : GF G B

inductive PQ {α β : Type} (G : Cfg) (B : Heap) (L : Addr) (I : Im) (s : Shared) (R : Im → β → α → Prop) (Q : β → St → Prop) (v : α) (s' : Shared) : Prop
  | mk (b : β) (σ' : St) (I' : Im) (h1 : I ⊆ I') (h2 : R I' b v) (h3 : Rel G B L I' σ' s'.heap) (h4 : Same s s') (h5 : Q b σ')
inductive PE (G : Cfg) (C : Addr) (base : Heap) (l : List Env) (B : Heap) (L : Addr) (s : Shared) (E : Str → Prop) (e : Value) (s' : Shared) : Prop
  | mk (x : Str) (h1 : XR G C base l B L x e s'.heap) (h2 : Same s s') (h3 : E x)

noncomputable def J {α β : Type} (G : Cfg) (C : Addr) (k : Nat) (env : Env) (R : Im → β → α → Prop) (t : Sem α) (σ : St) (Q : β → St → Prop) (E : Str → Prop) : Prop :=
  ∀ (fenv : Env) (A A₀ : Around) (base B : Heap) (outer : List Env) (L : Addr) (I : Im) (s : Shared), Cx G k env fenv A A₀ base B outer L → Rel G B L I σ s.heap →
    wpAny (model G.prog G.w) A t (PQ G B L I s R Q) (PE G C base (fenv :: outer) B L s E) s

section
variable {α β γ δ : Type} {G : Cfg} {C : Addr} {k : Nat} {env fenv : Env} {R : Im → β → α → Prop} {R' : Im → δ → γ → Prop} {t : Sem α} {σ : St} {Q Q' : β → St → Prop} {E E' : Str → Prop}
  {A A₀ : Around} {base B : Heap} {I I₁ : Im} {outer : List Env} {L : Addr} {s s₁ : Shared} {K : Nat}

theorem PQ.lift {R : Im → β → α → Prop} {v : α} {s' : Shared} (k : I ⊆ I₁) (m : Same s s₁) (h : PQ G B L I₁ s₁ R Q v s') : PQ G B L I s R Q v s' :=
  let ⟨b, σ', I', a1, a2, a3, a4, a5⟩ := h; ⟨b, σ', I', List.Subset.trans k a1, a2, a3, m.trans a4, a5⟩
theorem PE.lift {e : Value} {s' : Shared} {l : List Env} (m : Same s s₁) (h : PE G C base l B L s₁ E e s') : PE G C base l B L s E e s' :=
  let ⟨x, a1, a2, a3⟩ := h; ⟨x, a1, m.trans a2, a3⟩

theorem J.go (h : J G C k env R t σ Q E) (c : Cx G k env fenv A A₀ base B outer L) (r : Rel G B L I₁ σ s₁.heap) (k₁ : I ⊆ I₁) (m : Same s s₁) :
    wpAny (model G.prog G.w) A t (PQ G B L I s R Q) (PE G C base (fenv :: outer) B L s E) s₁ :=
  wpAny_mono (h fenv A A₀ base B outer L I₁ s₁ c r) (fun _ _ x => x.lift k₁ m) (fun _ _ x => x.lift m)

theorem J.then {P : α → Shared → Prop} (h : J G C k env R t σ Q E) (c : Cx G k env fenv A A₀ base B outer L) (r : Rel G B L I₁ σ s₁.heap) (m : Same s s₁)
    (next : ∀ v s₂ b σ₂ I₂, I₁ ⊆ I₂ → R I₂ b v → Rel G B L I₂ σ₂ s₂.heap → Same s s₂ → Q b σ₂ → P v s₂) :
    wpAny (model G.prog G.w) A t P (PE G C base (fenv :: outer) B L s E) s₁ :=
  wpAny_mono (h fenv A A₀ base B outer L I₁ s₁ c r) (fun v s₂ ⟨b, σ₂, I₂, a1, a2, a3, a4, a5⟩ => next v s₂ b σ₂ I₂ a1 a2 a3 (m.trans a4) a5) (fun _ _ x => x.lift m)

theorem J.mono (h : J G C k env R t σ Q E) (hq : ∀ b σ', Q b σ' → Q' b σ') (he : ∀ x, E x → E' x) : J G C k env R t σ Q' E' :=
  fun fenv A A₀ base B outer L I s c r => wpAny_mono (h fenv A A₀ base B outer L I s c r) (fun _ _ ⟨b, σ', I', a1, a2, a3, a4, a5⟩ => ⟨b, σ', I', a1, a2, a3, a4, hq _ _ a5⟩) (fun _ _ ⟨x, a1, a2, a3⟩ => ⟨x, a1, a2, he _ a3⟩)
theorem J.monoQ (h : J G C k env R t σ Q E) (hq : ∀ b σ', Q b σ' → Q' b σ') : J G C k env R t σ Q' E := h.mono hq fun _ x => x

theorem PQ.now {R : Im → β → α → Prop} {b : β} {v : α} (k₁ : I ⊆ I₁) (m : Same s s₁) (hr : R I₁ b v) (r : Rel G B L I₁ σ s₁.heap) (q : Q b σ) : PQ G B L I s R Q v s₁ :=
  ⟨b, σ, I₁, k₁, hr, r, m, q⟩
end

inductive AF where
  | next | brk | cont
  | ret (v : AV)
inductive FR (w : World) (I : Im) : AF → Flow → Prop
  | next : FR w I .next .next
  | brk : FR w I .brk .brk
  | cont : FR w I .cont .cont
  | ret {v v'} : VR w I v v' → FR w I (.ret v) (.ret v')
theorem FR.mono {w : World} {I I' : Im} (k : I ⊆ I') {f f'} (h : FR w I f f') : FR w I' f f' := by
  cases h with
  | ret h => exact .ret (h.mono k)
  | _ => constructor

noncomputable def BRl (_ : Im) (b : Bool) (b' : Bool) : Prop := b' = b
noncomputable def URl (_ : Im) (_ : Unit) (_ : Unit) : Prop := True

noncomputable abbrev JE (G : Cfg) (C : Addr) (k : Nat) (env : Env) (e : Expr) (σ : St) (Q : AV → St → Prop) (E : Str → Prop) : Prop := J G C k env (VR G.w) (eval e env) σ Q E
noncomputable abbrev JS (G : Cfg) (C : Addr) (k : Nat) (env : Env) (b : List Stmt) (σ : St) (Q : AF → St → Prop) (E : Str → Prop) : Prop := J G C k env (FR G.w) (execs b env) σ Q E
noncomputable abbrev J1 (G : Cfg) (C : Addr) (k : Nat) (env : Env) (b : Stmt) (σ : St) (Q : AF → St → Prop) (E : Str → Prop) : Prop := J G C k env (FR G.w) (exec b env) σ Q E
noncomputable abbrev JT (G : Cfg) (C : Addr) (k : Nat) (env : Env) (e : Expr) (σ : St) (Q : Bool → St → Prop) (E : Str → Prop) : Prop := J G C k env BRl (isTrue e env (eval e env)) σ Q E
noncomputable def onFlow (G : Cfg) (C : Addr) (k : Nat) (env : Env) (rest : List Stmt) (Q : AF → St → Prop) (E : Str → Prop) : AF → St → Prop
  | .next, σ => JS G C k env rest σ Q E
  | f, σ => Q f σ

section
variable {G : Cfg} {C : Addr} {k : Nat} {env : Env} {σ : St} {E : Str → Prop}

theorem J.nil {Q : AF → St → Prop} (h : Q .next σ) : JS G C k env [] σ Q E :=
  fun _ _ _ _ _ _ _ I s _ r => wpAny_execs_nil ⟨.next, σ, I, List.Subset.refl I, .next, r, .refl s, h⟩
theorem J.cons {Q : AF → St → Prop} {st : Stmt} {rest : List Stmt} (h : J1 G C k env st σ (onFlow G C k env rest Q E) E) : JS G C k env (st :: rest) σ Q E := by
  intro fenv A A₀ base B outer L I s c r
  refine wpAny_execs_cons (h.then c r (.refl s) fun f s₂ b σ₂ I₂ k₂ hr r₂ m₂ q => ?_)
  cases hr with
  | next => exact J.go q c r₂ k₂ m₂
  | brk => exact ⟨.brk, σ₂, I₂, k₂, .brk, r₂, m₂, q⟩
  | cont => exact ⟨.cont, σ₂, I₂, k₂, .cont, r₂, m₂, q⟩
  | ret hv => exact ⟨.ret _, σ₂, I₂, k₂, .ret hv, r₂, m₂, q⟩
theorem J.Pass {Q : AF → St → Prop} {pos : Pos} (h : Q .next σ) : J1 G C k env (.Pass pos) σ Q E :=
  fun _ _ _ _ _ _ _ I s _ r => wpAny_Pass ⟨.next, σ, I, List.Subset.refl I, .next, r, .refl s, h⟩
theorem J.Break {Q : AF → St → Prop} {pos : Pos} (h : Q .brk σ) : J1 G C k env (.Break pos) σ Q E :=
  fun _ _ _ _ _ _ _ I s _ r => wpAny_Break ⟨.brk, σ, I, List.Subset.refl I, .brk, r, .refl s, h⟩
theorem J.Return {Q : AF → St → Prop} {e : Expr} {pos : Pos} (h : JE G C k env e σ (fun v σ' => Q (.ret v) σ') E) : J1 G C k env (.Return (some e) pos) σ Q E :=
  fun _ _ _ _ _ _ _ _ s c r => wpAny_Return_some (h.then c r (.refl s) fun _ _ _ σ₂ I₂ k₂ hr r₂ m₂ q => ⟨.ret _, σ₂, I₂, k₂, .ret hr, r₂, m₂, q⟩)
theorem J.ReturnNone {Q : AF → St → Prop} {pos : Pos} (h : Q (.ret .none) σ) : J1 G C k env (.Return none pos) σ Q E :=
  fun _ _ _ _ _ _ _ I s _ r => wpAny_Return_none ⟨.ret .none, σ, I, List.Subset.refl I, .ret .none, r, .refl s, h⟩
theorem J.If {Q : AF → St → Prop} {test : Expr} {body orelse : List Stmt} {pos : Pos} (h : JT G C k env test σ (fun b σ' => if b then JS G C k env body σ' Q E else JS G C k env orelse σ' Q E) E) :
    J1 G C k env (.If test body orelse pos) σ Q E := by
  intro fenv A A₀ base B outer L I s c r
  refine wpAny_If (h.then c r (.refl s) fun b s₂ b' σ₂ I₂ k₂ hr r₂ m₂ q => ?_)
  cases hr
  cases b
  · exact J.go (by simpa using q) c r₂ k₂ m₂
  · exact J.go (by simpa using q) c r₂ k₂ m₂
theorem J.ExprS {Q : AF → St → Prop} {e : Expr} {pos : Pos} (h : JE G C k env e σ (fun _ σ' => Q .next σ') E) (hi : interactive env = false := by rfl)
    (hs : swapsWith e none pos.line env = pure false := by rfl) : J1 G C k env (.Expr e pos) σ Q E :=
  fun _ _ _ _ _ _ _ _ s c r => wpAny_Expr_any (h.then c r (.refl s) fun _ _ _ σ₂ I₂ k₂ _ r₂ m₂ q => ⟨.next, σ₂, I₂, k₂, .next, r₂, m₂, q⟩) hi hs

-- constants
theorem J.Cint {Q : AV → St → Prop} {i : Int} {n : Nat} {pos : Pos} (h : Q (.int i) σ) : JE G C k env (.Constant (.int i) n pos) σ Q E :=
  fun _ _ _ _ _ _ _ I s _ r => wpAny_Constant_int ⟨_, σ, I, List.Subset.refl I, .int i _, r, ⟨rfl, rfl, rfl⟩, h⟩
theorem J.Cstr {Q : AV → St → Prop} {x : Str} {n : Nat} {pos : Pos} (h : Q (.str x) σ) : JE G C k env (.Constant (.str x) n pos) σ Q E :=
  fun _ _ _ _ _ _ _ I s _ r => wpAny_Constant_str ⟨_, σ, I, List.Subset.refl I, .str x _, r, ⟨rfl, rfl, rfl⟩, h⟩
theorem J.Cbool {Q : AV → St → Prop} {x : Bool} {n : Nat} {pos : Pos} (h : Q (.bool x) σ) : JE G C k env (.Constant (.bool x) n pos) σ Q E :=
  fun _ _ _ _ _ _ _ I s _ r => wpAny_Constant_bool ⟨_, σ, I, List.Subset.refl I, .bool x, r, ⟨rfl, rfl, rfl⟩, h⟩
theorem J.Cnone {Q : AV → St → Prop} {n : Nat} {pos : Pos} (h : Q .none σ) : JE G C k env (.Constant .none n pos) σ Q E :=
  fun _ _ _ _ _ _ _ I s _ r => wpAny_Constant_none ⟨_, σ, I, List.Subset.refl I, .none, r, ⟨rfl, rfl, rfl⟩, h⟩

-- tests
theorem J.TNot {Q : Bool → St → Prop} {x : Expr} {pos : Pos} (h : JT G C k env x σ (fun b σ' => Q (!b) σ') E) : JT G C k env (.UnaryOp .Not x pos) σ Q E :=
  fun _ _ _ _ _ _ _ _ s c r => isTrue_not (h.then c r (.refl s) fun _ _ _ σ₂ I₂ k₂ hr r₂ m₂ q => ⟨_, σ₂, I₂, k₂, by cases hr; rfl, r₂, m₂, q⟩)
theorem J.TAndNil {Q : Bool → St → Prop} {pos : Pos} {whole : Sem Value} (h : Q true σ) : J G C k env BRl (isTrue (.BoolOp .And [] pos) env whole) σ Q E :=
  fun _ _ _ _ _ _ _ I s _ r => isTrue_and_nil ⟨_, σ, I, List.Subset.refl I, rfl, r, .refl s, h⟩
theorem J.TOrNil {Q : Bool → St → Prop} {pos : Pos} {whole : Sem Value} (h : Q false σ) : J G C k env BRl (isTrue (.BoolOp .Or [] pos) env whole) σ Q E :=
  fun _ _ _ _ _ _ _ I s _ r => isTrue_or_nil ⟨_, σ, I, List.Subset.refl I, rfl, r, .refl s, h⟩
theorem J.TAnd {Q : Bool → St → Prop} {x : Expr} {rest : List Expr} {pos : Pos} {whole : Sem Value}
    (h : JT G C k env x σ (fun b σ' => if b then J G C k env BRl (isTrue (.BoolOp .And rest pos) env whole) σ' Q E else Q false σ') E) :
    J G C k env BRl (isTrue (.BoolOp .And (x :: rest) pos) env whole) σ Q E := by
  intro fenv A A₀ base B outer L I s c r
  refine isTrue_and (h.then c r (.refl s) fun b s₂ b' σ₂ I₂ k₂ hr r₂ m₂ q => ?_)
  cases hr
  cases b
  · exact ⟨_, σ₂, I₂, k₂, rfl, r₂, m₂, by simpa using q⟩
  · exact J.go (by simpa using q) c r₂ k₂ m₂
theorem J.TOr {Q : Bool → St → Prop} {x : Expr} {rest : List Expr} {pos : Pos} {whole : Sem Value}
    (h : JT G C k env x σ (fun b σ' => if b then Q true σ' else J G C k env BRl (isTrue (.BoolOp .Or rest pos) env whole) σ' Q E) E) :
    J G C k env BRl (isTrue (.BoolOp .Or (x :: rest) pos) env whole) σ Q E := by
  intro fenv A A₀ base B outer L I s c r
  refine isTrue_or (h.then c r (.refl s) fun b s₂ b' σ₂ I₂ k₂ hr r₂ m₂ q => ?_)
  cases hr
  cases b
  · exact J.go (by simpa using q) c r₂ k₂ m₂
  · exact ⟨_, σ₂, I₂, k₂, rfl, r₂, m₂, by simpa using q⟩
end

end Mine

namespace Mine

noncomputable def setL (x : Str) (v : AV) : List (Str × AV) → List (Str × AV)
  | [] => [(x, v)]
  | (y, u) :: r => if x = y then (y, v) :: r else (y, u) :: setL x v r
theorem lookup_setL (x z : Str) (v : AV) : ∀ l, (setL x v l).lookup z = if z = x then some v else l.lookup z
  | [] => by
    unfold setL
    by_cases h : z = x
    · subst h; simp [List.lookup]
    · have : (z == x) = false := beq_false_of_ne h
      simp [List.lookup, this, h]
  | (y, u) :: r => by
    unfold setL
    by_cases h : x = y
    · subst h
      rw [if_pos rfl]
      by_cases q : z = x
      · subst q; simp [List.lookup]
      · have : (z == x) = false := beq_false_of_ne q
        simp [List.lookup, this, q]
    · rw [if_neg h]
      by_cases q : z = y
      · subst q
        have : z ≠ x := fun e => h e.symm
        simp [List.lookup, this]
      · have : (z == y) = false := beq_false_of_ne q
        simp only [List.lookup, this]
        exact lookup_setL x z v r

section
variable {G : Cfg} {B : Heap} {L : Addr} {I I' : Im} {σ : St} {h h' : Heap} {own : List (Addr × Obj)} {m : Str → Option Value} {a : Addr} {o o' : Obj} {ao : AO}

theorem RelW.fresh (r : RelW G B L I σ h own m) : σ.H h.objs.size = none := by
  cases e : σ.H h.objs.size with
  | none => rfl
  | some ao =>
    obtain ⟨o, ho, _⟩ := r.objs _ _ e
    exact absurd (Heap.lt_size (r.N _ (List.mem_append_left _ ho)).1) (Nat.lt_irrefl _)
theorem RelW.push (r : RelW G B L I σ h own m) (o : Obj) : RelW G B L I σ (h.push o) own m :=
  ⟨r.F.push o, fun p hp => ⟨Heap.get?_push_of_some _ (r.N p hp).1, (r.N p hp).2⟩, r.apart, r.objs, r.locs⟩
theorem RelW.newOwn (r : RelW G B L I σ h own m) (hf : o.isFreed = false) (ho : OR G.w I ao o) : RelW G B L I ⟨σ.loc, σ.H.set h.objs.size ao⟩ (h.push o) ((h.objs.size, o) :: own) m := by
  refine ⟨r.F.push o, r.N.push r.F o hf, fun p hp q hq => ?_, fun a x e => ?_, r.locs⟩
  · rcases List.mem_cons.mp hp with rfl | hp
    · exact Nat.ne_of_gt (Heap.lt_size (r.N q (List.mem_append_right _ hq)).1)
    · exact r.apart p hp q hq
  · simp only [Hp.set] at e
    split at e
    · rename_i h; subst h; cases e; exact ⟨o, .head _, ho⟩
    · obtain ⟨o', h1, h2⟩ := r.objs a x e; exact ⟨o', .tail _ h1, h2⟩
theorem RelW.newImm (r : RelW G B L I σ h own m) (hf : o.isFreed = false) : RelW G B L ((h.objs.size, o) :: I) σ (h.push o) own m := by
  have sub : I ⊆ (h.objs.size, o) :: I := fun _ hp => .tail _ hp
  refine ⟨r.F.push o, fun p hp => ?_, fun p hp q hq => ?_, fun a x e => ?_, fun x v e => ?_⟩
  · refine (r.N.push r.F o hf) p ?_
    rcases List.mem_append.mp hp with hp | hp
    · exact .tail _ (List.mem_append_left _ hp)
    · rcases List.mem_cons.mp hp with rfl | hp
      · exact .head _
      · exact .tail _ (List.mem_append_right _ hp)
  · rcases List.mem_cons.mp hq with rfl | hq
    · exact Nat.ne_of_lt (Heap.lt_size (r.N p (List.mem_append_left _ hp)).1)
    · exact r.apart p hp q hq
  · obtain ⟨o', h1, h2⟩ := r.objs a x e; exact ⟨o', h1, h2.mono sub⟩
  · obtain ⟨v', h1, h2⟩ := r.locs x v e; exact ⟨v', h1, h2.mono sub⟩
theorem RelW.upd (r : RelW G B L I σ h own m) (hm : (a, o) ∈ own) (hs : Heap.SameBut a h h') (ho' : h'.get? a = some o') (hr : OR G.w I ao o') :
    ∃ own', RelW G B L I ⟨σ.loc, σ.H.set a ao⟩ h' own' m := by
  have D := r.N (a, o) (List.mem_append_left _ hm)
  refine ⟨own.map fun p => if p.1 = a then (a, o') else p, ?_, fun p hp => ?_, fun p hp q hq => ?_, fun b x e => ?_, r.locs⟩
  · refine ⟨r.F.ns.sameBut hs (Ne.symm D.2.1), fun b ob e => (hs.2 b fun q => ?_).trans (r.F.keep b ob e), r.F.above⟩
    rw [q, D.2.2] at e; cases e
  · rcases List.mem_append.mp hp with hp | hp
    · obtain ⟨q, hq, rfl⟩ := List.mem_map.mp hp
      by_cases e : q.1 = a
      · rw [if_pos e]; exact ⟨ho', D.2⟩
      · rw [if_neg e]
        have z := r.N q (List.mem_append_left _ hq)
        exact ⟨(hs.2 _ e).trans z.1, z.2⟩
    · have z := r.N p (List.mem_append_right _ hp)
      exact ⟨(hs.2 _ (Ne.symm (r.apart _ hm p hp))).trans z.1, z.2⟩
  · obtain ⟨p', hp', rfl⟩ := List.mem_map.mp hp
    by_cases e : p'.1 = a
    · rw [if_pos e]; exact r.apart _ hm q hq
    · rw [if_neg e]; exact r.apart _ hp' q hq
  · simp only [Hp.set] at e
    split at e
    · rename_i hb; subst hb; cases e
      exact ⟨o', List.mem_map.mpr ⟨_, hm, by simp⟩, hr⟩
    · rename_i hb
      obtain ⟨o₂, h1, h2⟩ := r.objs b x e
      exact ⟨o₂, List.mem_map.mpr ⟨_, h1, by simp [hb]⟩, h2⟩
theorem RelW.setLoc {x : Str} {v : AV} {v' : Value} (r : RelW G B L I σ h own m) (hn : h'.Ns L (fun y => if y = x then some v' else m y)) (hs : Heap.SameBut L h h') (hv : VR G.w I v v') :
    RelW G B L I ⟨setL x v σ.loc, σ.H⟩ h' own (fun y => if y = x then some v' else m y) := by
  refine ⟨r.F.set hn hs, r.N.set hs, r.apart, r.objs, fun y u e => ?_⟩
  rw [lookup_setL] at e
  by_cases q : y = x
  · rw [if_pos q] at e ⊢; cases e; exact ⟨v', rfl, hv⟩
  · rw [if_neg q] at e ⊢; exact r.locs y u e
theorem RelW.gf (r : RelW G B L I σ h own m) (g : GF G B) : GF G h := g.keeps r.F.keep
theorem Rel.gf (r : Rel G B L I σ h) (g : GF G B) : GF G h := let ⟨_, _, r⟩ := r; r.gf g
theorem RelW.imm (r : RelW G B L I σ h own m) (hm : (a, o) ∈ I) : h.get? a = some o := (r.N (a, o) (List.mem_append_right _ hm)).1
theorem Rel.imm (r : Rel G B L I σ h) (hm : (a, o) ∈ I) : h.get? a = some o := let ⟨_, _, r⟩ := r; r.imm hm
theorem RelW.weak {σ' : St} (r : RelW G B L I σ h own m) (h1 : ∀ a ao, σ'.H a = some ao → σ.H a = some ao) (h2 : ∀ x v, σ'.loc.lookup x = some v → σ.loc.lookup x = some v) : RelW G B L I σ' h own m :=
  ⟨r.F, r.N, r.apart, fun a ao e => r.objs a ao (h1 a ao e), fun x v e => r.locs x v (h2 x v e)⟩
theorem RelW.freeze {x d : Addr} {ox od : Obj} (r : RelW G B L I σ h own m) (hx : (x, ox) ∈ own) (hd : (d, od) ∈ own) :
    RelW G B L ((x, ox) :: (d, od) :: I) ⟨σ.loc, (σ.H.drop x).drop d⟩ h (own.filter fun p => decide (p.1 ≠ x ∧ p.1 ≠ d)) m := by
  have sub : I ⊆ (x, ox) :: (d, od) :: I := fun _ hp => .tail _ (.tail _ hp)
  refine ⟨r.F, fun p hp => ?_, fun p hp q hq => ?_, fun a ao e => ?_, fun y v e => ?_⟩
  · rcases List.mem_append.mp hp with hp | hp
    · exact r.N p (List.mem_append_left _ ((List.mem_filter.mp hp).1))
    · rcases List.mem_cons.mp hp with rfl | hp
      · exact r.N _ (List.mem_append_left _ hx)
      · rcases List.mem_cons.mp hp with rfl | hp
        · exact r.N _ (List.mem_append_left _ hd)
        · exact r.N p (List.mem_append_right _ hp)
  · obtain ⟨hp, hn⟩ := List.mem_filter.mp hp
    simp only [ne_eq, decide_eq_true_eq] at hn
    rcases List.mem_cons.mp hq with rfl | hq
    · exact hn.1
    · rcases List.mem_cons.mp hq with rfl | hq
      · exact hn.2
      · exact r.apart p hp q hq
  · simp only [Hp.drop] at e
    split at e
    · cases e
    · rename_i h1
      split at e
      · cases e
      · rename_i h2
        obtain ⟨o, ho, hr⟩ := r.objs a ao e
        exact ⟨o, List.mem_filter.mpr ⟨ho, by simp [h1, h2]⟩, hr.mono sub⟩
  · obtain ⟨v', h1, h2⟩ := r.locs y v e; exact ⟨v', h1, h2.mono sub⟩
end

section
variable {G : Cfg} {C : Addr} {k : Nat} {env : Env} {σ : St} {E : Str → Prop} {Q : AV → St → Prop} {QF : AF → St → Prop} {x : Str} {pos : Pos} {v : AV}

-- names
theorem J.Nloc (hv : σ.loc.lookup x = some v) (h : Q v σ) (hx : env.kindOf x = some .local := by rfl) (hd : (x == ("__debug__" : Str)) = false := by decide) (hfl : env.frame = some env.locals := by rfl) : JE G C k env (.Name x pos) σ Q E := by
  intro fenv A A₀ base B outer L I s c ⟨own, m, r⟩
  obtain ⟨v', h1, h2⟩ := r.locs x v hv
  exact wpAny_Name (wpAny_loadName_local c.hk hx ((c.hl hfl).2 ▸ r.F.ns) h1 ⟨v, σ, I, List.Subset.refl I, h2, ⟨own, m, r⟩, .refl s, h⟩) hd
theorem J.Nglob {v' : Value} (e : nsIn G.K mainGlobals x = some (some v')) (hv : VR G.w [] v v') (h : Q v σ) (hx : env.kindOf x = some .globalImplicit := by rfl) (hd : (x == ("__debug__" : Str)) = false := by decide) :
    JE G C k env (.Name x pos) σ Q E := by
  intro fenv A A₀ base B outer L I s c r
  have g := r.gf c.gf
  exact Name_function_global c.hk hx (loadGlobal_global (env := env) (c.hg ▸ g.T.g) (mg_of g.X g.T.g e) ⟨v, σ, I, List.Subset.refl I, hv.mono (List.nil_subset _), r, .refl s, h⟩) hd
theorem J.Nbi {v' : Value} (e : nsIn G.K mainGlobals x = some none) (hb : bootBuiltins x = some v') (hn : x ≠ "__name__") (hv : VR G.w [] v v') (h : Q v σ) (hx : env.kindOf x = some .globalImplicit := by rfl) (hd : (x == ("__debug__" : Str)) = false := by decide) :
    JE G C k env (.Name x pos) σ Q E := by
  intro fenv A A₀ base B outer L I s c r
  have g := r.gf c.gf
  exact Name_function_global c.hk hx (loadGlobal_builtin (env := env) (c.hg ▸ g.T.g) (mg_none_of g.X g.T.g e) (c.hb ▸ g.T.b) ((g.T.builtins x hn).trans hb) ⟨v, σ, I, List.Subset.refl I, hv.mono (List.nil_subset _), r, .refl s, h⟩) hd
theorem J.Ncell {a : Addr} (ha : env.cells.lookup x = some a) (hv : σ.H a = some (.cell (some v))) (h : Q v σ) (hx : env.kindOf x = some .cell := by rfl) (hd : (x == ("__debug__" : Str)) = false := by decide) : JE G C k env (.Name x pos) σ Q E := by
  intro fenv A A₀ base B outer L I s c ⟨own, m, r⟩
  obtain ⟨o, h1, h2⟩ := r.objs a _ hv
  obtain ⟨_, h2, h3⟩ := h2.cellI
  exact wpAny_Name (wpAny_loadName_cell c.hk hx ha ⟨o, (r.N _ (List.mem_append_left _ h1)).1, h3⟩ ⟨v, σ, I, List.Subset.refl I, h2, ⟨own, m, r⟩, .refl s, h⟩) hd
theorem J.Nfree {a : Addr} (ha : env.cells.lookup x = some a) (hv : σ.H a = some (.cell (some v))) (h : Q v σ) (hx : env.kindOf x = some .free := by rfl) (hd : (x == ("__debug__" : Str)) = false := by decide) (hc : (x == ("__classdict__" : Str)) = false := by decide) : JE G C k env (.Name x pos) σ Q E := by
  intro fenv A A₀ base B outer L I s c ⟨own, m, r⟩
  obtain ⟨o, h1, h2⟩ := r.objs a _ hv
  obtain ⟨_, h2, h3⟩ := h2.cellI
  exact wpAny_Name (wpAny_loadName_free c.hk hx ha ⟨o, (r.N _ (List.mem_append_left _ h1)).1, h3⟩ ⟨v, σ, I, List.Subset.refl I, h2, ⟨own, m, r⟩, .refl s, h⟩ hc) hd

-- a name stored
theorem store_loc {α β : Type} {fenv : Env} {A A₀ : Around} {base B : Heap} {outer : List Env} {L : Addr} {I I₁ : Im} {s s₁ : Shared} {P : Unit → Shared → Prop} {Ex : Value → Shared → Prop} {v' : Value}
    (c : Cx G k env fenv A A₀ base B outer L) (r : Rel G B L I₁ σ s₁.heap) (hv : VR G.w I₁ v v') (hx : env.kindOf x = some .local) (hfl : env.frame = some env.locals)
    (h : ∀ s₂, Same s₁ s₂ → Rel G B L I₁ ⟨setL x v σ.loc, σ.H⟩ s₂.heap → P () s₂) : wpAny (model G.prog G.w) A (storeName env x v') P Ex s₁ := by
  obtain ⟨own, m, r⟩ := r
  refine wpAny_storeName_local hx ((c.hl hfl).2 ▸ r.F.ns) (fun h' hn hs => h _ ⟨rfl, rfl, rfl⟩ ⟨own, _, r.setLoc ((c.hl hfl).2 ▸ hn) ((c.hl hfl).2 ▸ hs) hv⟩) (by rw [c.hk]; rfl)
theorem J.AssignN {e : Expr} {pos' : Pos} (h : JE G C k env e σ (fun v σ' => QF .next ⟨setL x v σ'.loc, σ'.H⟩) E) (hx : env.kindOf x = some .local := by rfl)
    (hs : swapsWith e (some (.Name x pos')) pos.line env = pure false := by rfl) (hfl : env.frame = some env.locals := by rfl) : J1 G C k env (.Assign [.Name x pos'] e pos) σ QF E := by
  intro fenv A A₀ base B outer L I s c r
  refine wpAny_Assign_Name (h.then c r (.refl s) fun v' s₂ v σ₂ I₂ k₂ hr r₂ m₂ q => ?_) hs
  exact store_loc (α := Unit) (β := Unit) (I := I) (s := s) c r₂ hr hx hfl fun s₃ m₃ r₃ => ⟨.next, _, I₂, k₂, .next, r₃, m₂.trans m₃, q⟩
end
end Mine

namespace Mine

theorem Obj.dict_mapFields (o : Obj) (f) : (o.mapFields f).dict = o.dict := by
  obtain ⟨c, d, dt, sl⟩ := o; cases dt <;> rfl

noncomputable def ButSlots (e : Addr) (h h' : Heap) : Prop := ∀ b o, b ≠ e → h.get? b = some o → ∃ sl, h'.get? b = some { o with slots := sl }
theorem ButSlots.up {e : Addr} {h h' : Heap} {oe : Obj} {vs : Array Value} (x : ButSlots e h h') (he : h.get? e = some oe) (hd : oe.data = .fields vs) : h.UpToSlots h' :=
  fun b o hb hn => x b o (fun q => by rw [q, he] at hb; cases hb; exact hn vs hd) hb

section
variable {M : Model} {A : Around} {E : Value → Shared → Prop} {s : Shared} {base : Heap} {env : Env} {outer : List Env} {L e ed : Addr} {cls : Value}

theorem note_entry {oe : Obj} {vs : Array Value} {head : Value} {hadNext : Bool} {Q : Unit → Shared → Prop}
    (hfr : A.frames = some (env :: outer)) (hl : s.heap.FunFrames base (env :: outer)) (hf : env.frame = some L)
    (he : s.heap.get? e = some oe) (hc : oe.cls = cls) (hdi : oe.dict = some ed) (hkb : base.StaysIn s.heap) (hen : base.get? e = none) (hd : oe.data = .fields vs) (hsz : 1 < vs.size)
    (h : ∀ h', base.StaysIn h' → h'.FunFrames base (env :: outer) → ExcAt h' base e cls ed (some (rawInt L)) → ButSlots e s.heap h' → Q () { s with heap := h' }) :
    wpAny M A (do let a ← frameOf env; let pl ← entryPlaceOf L hadNext; let b ← EntryCells.newEntry head a .none (rawInt L) .none pl; setField (.ref e) 1 b) Q E s := by
  have hene : e ∉ (env :: outer).filterMap (·.frame) := fun hm => by
    obtain ⟨_, o, ho, hnf⟩ := hl.mem hm
    rw [he] at ho; cases ho; exact hnf vs hd
  refine wpAny_bind (wpAny_frameOf_fun hfr hl hf fun h₁ hs₁ => wpAny_bind (wpAny_entryPlaceOf fun pl hpl => ?_))
  unfold EntryCells.newEntry newFields
  refine wpAny_bind (wpAny_newObj_type ?_ (hpl.sizeOk5 _ _ _ _ _))
  generalize hT0 : ({ cls := .type "traceback", dict := none, data := .fields ([head, .ref L, .none, rawInt L, .none] ++ (if pl.isEmpty then List.replicate 6 Value.none else pl)).toArray } : Obj) = oT
  have hTd : ∃ ts, oT.data = .fields ts ∧ ts[3]? = some (rawInt L) ∧ oT.isFreed = false := by
    subst hT0
    exact ⟨_, rfl, by first | (simp; done) | (rcases hpl with rfl | ⟨_, _, _, _, _, _, _, rfl⟩ <;> simp), rfl⟩
  obtain ⟨ts, hTd, hT3, hTf⟩ := hTd
  have he₁ : h₁.get? e = some oe := (hs₁.2.1 e hene).trans he
  have kb₁ : base.StaysIn h₁ := fun b o hbo => (hs₁.2.1 b fun hm => by rw [(hl.mem hm).1] at hbo; cases hbo).trans (hkb b o hbo)
  have he₂ := Heap.get?_push_of_some oT he₁
  have hTe : h₁.objs.size ≠ e := Nat.ne_of_gt (Heap.lt_size he₁)
  refine wpAny_setField he₂ hd hsz ?_
  have hd₃ := Obj.data_mapFields hd (·.setIfInBounds 1 (Value.ref h₁.objs.size))
  have he₃ := Heap.get?_update_self (Obj.mapFields (·.setIfInBounds 1 (Value.ref h₁.objs.size))) he₂ (Obj.isFreed_of_fields hd₃)
  have hT₃ := (Heap.get?_update_other (h₁.push oT) (Obj.mapFields (·.setIfInBounds 1 (Value.ref h₁.objs.size))) (Ne.symm hTe)).trans (Heap.get?_push_size h₁ hTf)
  have keep : ∀ b o, b ≠ e → h₁.get? b = some o → ((h₁.push oT).update e (Obj.mapFields (·.setIfInBounds 1 (Value.ref h₁.objs.size)))).get? b = some o := fun b o hbe hb => by
    rw [Heap.get?_update_other _ _ (Ne.symm hbe)]; exact Heap.get?_push_of_some _ hb
  refine h _ (fun b o hbo => keep b o (fun q => by rw [q, hen] at hbo; cases hbo) (kb₁ b o hbo)) (hl.of_keeps fun b o hb hnf => ?_)
    ⟨_, _, he₃, (Obj.cls_mapFields _ _).trans hc, (Obj.dict_mapFields _ _).trans hdi, hd₃, by simpa using hsz, h₁.objs.size, oT, ts, by simp [hsz], kb₁.fresh, hTe, hT₃, hTd, hT3⟩ fun b o hbe hb => ?_
  · obtain ⟨sl, hs⟩ := hs₁.2.2 b o hb
    exact ⟨_, keep b _ (fun q => by rw [q, he] at hb; cases hb; exact hnf vs hd) hs, rfl⟩
  · obtain ⟨sl, hs⟩ := hs₁.2.2 b o hb
    exact ⟨sl, keep b _ hbe hs⟩

theorem note_any {fl : Option Value} {Q : Unit → Shared → Prop}
    (hfr : A.frames = some (env :: outer)) (hl : s.heap.FunFrames base (env :: outer)) (hf : env.frame = some L) (hx : ExcAt s.heap base e cls ed fl) (hkb : base.StaysIn s.heap) (hen : base.get? e = none)
    (h : ∀ h', base.StaysIn h' → h'.FunFrames base (env :: outer) → ExcAt h' base e cls ed (some (rawInt L)) → s.heap.UpToSlots h' → Q () { s with heap := h' }) :
    wpAny M A (noteFrame (.ref e) env) Q E s := by
  obtain ⟨oe, vs, he, hc, hdi, hd, hsz, hfl⟩ := hx
  unfold noteFrame
  simp only [hf]
  cases fl with
  | none =>
    dsimp only at hfl
    refine wpAny_bind (wpAny_field he hd hfl ?_)
    rw [if_neg (by decide)]
    exact note_entry hfr hl hf he hc hdi hkb hen hd hsz fun h' a1 a2 a3 a4 => h h' a1 a2 a3 (a4.up he hd)
  | some f =>
    obtain ⟨T, oT, ts, h1, hnT, hTe, hT, hTd, hT3⟩ := hfl
    refine wpAny_bind (wpAny_field he hd h1 ?_)
    rw [if_pos (show (Value.ref T != Value.none) = true from by simp)]
    refine wpAny_bind (wpAny_field hT hTd hT3 ?_)
    by_cases q : (f == rawInt L) = true
    · rw [if_pos q]
      have : f = rawInt L := eq_of_beq q
      subst this
      exact wpAny_pure (h _ hkb hl ⟨oe, vs, he, hc, hdi, hd, hsz, T, oT, ts, h1, hnT, hTe, hT, hTd, hT3⟩ (.refl _))
    · rw [if_neg q]
      refine wpAny_bind (wpAny_setField hT hTd (Array.getElem?_eq_some_iff.mp hT3).1 ?_)
      have other : ∀ b, b ≠ T → (s.heap.update T (Obj.mapFields (·.setIfInBounds 3 Value.none))).get? b = s.heap.get? b := fun b hb => Heap.get?_update_other _ _ (Ne.symm hb)
      have noRecord : ∀ b o, s.heap.get? b = some o → (∀ vs, o.data ≠ .fields vs) → b ≠ T := fun b o hb hnf q => by
        rw [q, hT] at hb; cases hb; exact hnf ts hTd
      refine note_entry hfr (hl.of_keeps fun b o hb hnf => ⟨o, (other b (noRecord b o hb hnf)).trans hb, rfl⟩) hf ((other e (Ne.symm hTe)).trans he) hc hdi
        (fun b o hbo => (other b fun q => by rw [q, hnT] at hbo; cases hbo).trans (hkb b o hbo)) hen hd hsz fun h' a1 a2 a3 a4 => h h' a1 a2 a3 fun b o hb hnf => ?_
      by_cases qe : b = e
      · subst qe; rw [he] at hb; cases hb; exact absurd hd (hnf vs)
      · exact a4 b o qe ((other b (noRecord b o hb hnf)).trans hb)

theorem flight_set {fl : Value} {l : List Env} {fr : Option Addr} {Q : Unit → Shared → Prop} (hl : s.heap.FunFrames base l) (hx : ExcAt s.heap base e cls ed (some fl)) (hkb : base.StaysIn s.heap)
    (h : ∀ h', base.StaysIn h' → h'.FunFrames base l → ExcAt h' base e cls ed (some (fr.elim .none fun f => rawInt f)) → s.heap.UpToSlots h' → Q () { s with heap := h' }) :
    wpAny M A (setFlight (.ref e) fr) Q E s := by
  obtain ⟨oe, vs, he, hc, hdi, hd, hsz, T, oT, ts, h1, hnT, hTe, hT, hTd, hT3⟩ := hx
  have hsz3 : 3 < ts.size := (Array.getElem?_eq_some_iff.mp hT3).1
  have other : ∀ b, b ≠ T → (s.heap.update T (Obj.mapFields (·.setIfInBounds 3 (fr.elim Value.none fun f => rawInt f)))).get? b = s.heap.get? b := fun b hb => Heap.get?_update_other _ _ (Ne.symm hb)
  have noRecord : ∀ b o, s.heap.get? b = some o → (∀ vs, o.data ≠ .fields vs) → b ≠ T := fun b o hb hnf q => by
    rw [q, hT] at hb; cases hb; exact hnf ts hTd
  unfold setFlight
  refine wpAny_bind (wpAny_field he hd h1 ?_)
  rw [if_pos (show (Value.ref T != Value.none) = true from by simp)]
  refine wpAny_setField hT hTd hsz3 (h _ (fun b o hbo => (other b fun q => by rw [q, hnT] at hbo; cases hbo).trans (hkb b o hbo))
    (hl.of_keeps fun b o hb hnf => ⟨o, (other b (noRecord b o hb hnf)).trans hb, rfl⟩)
    ⟨oe, vs, (other e (Ne.symm hTe)).trans he, hc, hdi, hd, hsz, T, _, _, h1, hnT, hTe, Heap.get?_update_self _ hT (Obj.isFreed_of_fields (Obj.data_mapFields hTd _)), Obj.data_mapFields hTd _, by simp [hsz3]⟩
    fun b o hb hnf => ⟨o.slots, (other b (noRecord b o hb hnf)).trans hb⟩)
end

section
variable {G : Cfg} {C : Addr} {base B : Heap} {l outer : List Env} {env : Env} {L : Addr} {x : Str} {e : Value} {h h' : Heap} {M : Model} {A : Around} {s : Shared} {E : Value → Shared → Prop}

theorem kindAt {h h' : Heap} {ed : Addr} {es : List DictEntry} {n : Nat} {sl : Array (Option Value)} (k : h.UpToSlots h') (hd : h.get? ed = some { dictOf es n with slots := sl }) :
    ∃ sl', h'.get? ed = some { dictOf es n with slots := sl' } := by
  obtain ⟨sl', h1⟩ := k ed _ hd fun vs q => by cases q
  exact ⟨sl', h1⟩

theorem XR.noted {Q : Unit → Shared → Prop} (hx : XR G C base (env :: outer) B L x e s.heap) (hfr : A.frames = some (env :: outer)) (hf : env.frame = some L)
    (q : ∀ h', (∃ ea ed es n sl, e = .ref ea ∧ base.StaysIn h' ∧ base.get? ea = none ∧ h'.FunFrames base (env :: outer) ∧ ExcAt h' base ea (.ref C) ed (some (rawInt L)) ∧ h'.get? ed = some { dictOf es n with slots := sl } ∧ (∃ t, getL "kind" es = some (some (.str x t)))) →
      B.UpToSlots h' → Q () { s with heap := h' }) : wpAny M A (noteFrame e env) Q E s := by
  obtain ⟨⟨ea, ed, fl, es, n, sl, rfl, a1, a2, a3, a4, _, a6, a7⟩, k⟩ := hx
  refine note_any hfr a3 hf a4 a1 a2 fun h' b1 b2 b3 b4 => ?_
  obtain ⟨sl', hs⟩ := kindAt b4 a6
  exact q h' ⟨ea, ed, es, n, sl', rfl, b1, a2, b2, b3, hs, a7⟩ (k.trans b4)

theorem XR.notedBy {Ep : Str → Prop} {s₀ : Shared} (hx : PE G C base (env :: outer) B L s₀ Ep e s) (hfr : A.frames = some (env :: outer)) (hf : env.frame = some L)
    (q : ∀ e s', PE G C base (env :: outer) B L s₀ Ep e s' → (∃ ea, e = .ref ea) → E e s') : PySem.notedBy M A env E e s := by
  obtain ⟨x, hx, m, he⟩ := hx
  refine hx.noted hfr hf fun h' ⟨ea, ed, es, n, sl, c1, c2, c3, c4, c5, c6, c7⟩ k => ?_
  subst c1
  exact q _ _ ⟨x, ⟨⟨ea, ed, some (rawInt L), es, n, sl, rfl, c2, c3, c4, c5, .inr (.inr rfl), c6, c7⟩, k⟩, ⟨m.gens, m.drawn, m.os⟩, he⟩ ⟨ea, rfl⟩

theorem XR.back {Ep : Str → Prop} {s₀ : Shared} (hx : PE G C base (env :: outer) B L s₀ Ep e s) (hfr : A.frames = some (env :: outer)) (hf : env.frame = some L) :
    PySem.notedBy M A env (cameBackBy M A env (PE G C base (env :: outer) B L s₀ Ep)) e s := by
  obtain ⟨x, hx, m, he⟩ := hx
  refine hx.noted hfr hf fun h' ⟨ea, ed, es, n, sl, c1, c2, c3, c4, c5, c6, c7⟩ k => ?_
  subst c1
  have c5' := c5
  obtain ⟨oe, vs, d1, d2, d3, d4, d5, T, oT, ts, d6, d7, d8, d9, d10, d11⟩ := c5
  refine wpAny_bind (wpAny_field (s := { s with heap := h' }) d1 d4 d6 ?_)
  rw [if_neg (by simp)]
  refine flight_set (s := { s with heap := h' }) c4 c5' c2 fun h'' b1 b2 b3 b4 => ?_
  obtain ⟨sl', hs⟩ := kindAt b4 c6
  rw [hf] at b3
  exact ⟨x, ⟨⟨ea, ed, _, es, n, sl', rfl, b1, c3, b2, b3, .inr (.inr rfl), hs, c7⟩, k.trans b4⟩, ⟨m.gens, m.drawn, m.os⟩, he⟩

theorem XR.leave {env' : Env} {g : Heap} {L' : Addr} {Ep : Str → Prop} {s₀ : Shared} {A' : Around} {E' : Value → Shared → Prop} (hx : PE G C base (env' :: l) g L' s₀ Ep e s) (hfr : A'.frames = some (env' :: l)) (hf : env'.frame = some L')
    (hg : B.StaysIn g) : wpAny M A' (leaving env' e) (fun _ s'' => PE G C base l B L s₀ Ep e s'') E' s := by
  obtain ⟨x, hx, m, he⟩ := hx
  unfold leaving
  refine wpAny_bind (hx.noted hfr hf fun h' ⟨ea, ed, es, n, sl, c1, c2, c3, c4, c5, c6, c7⟩ k => ?_)
  subst c1
  refine flight_set (s := { s with heap := h' }) c4 c5 c2 fun h'' b1 b2 b3 b4 => ?_
  obtain ⟨sl', hs⟩ := kindAt b4 c6
  exact ⟨x, ⟨⟨ea, ed, _, es, n, sl', rfl, b1, c3, b2.2.2, b3, .inr (.inl rfl), hs, c7⟩, fun b o hb hn => (k.trans b4) b o (hg b o hb) hn⟩, ⟨m.gens, m.drawn, m.os⟩, he⟩
end
end Mine

namespace Mine

noncomputable def Fn (G : Cfg) (C : Addr) (k : Nat) (f : Value) (args : List AV) (H : Hp) (Q : AV → Hp → Prop) (E : Str → Prop) : Prop :=
  ∀ (env fenv : Env) (loc : List (Str × AV)) (A A₀ : Around) (base B : Heap) (outer : List Env) (L : Addr) (I I₁ : Im) (s s₁ : Shared) (ws : List Value) (R : Result → Shared → Prop),
    Cx G k env fenv A A₀ base B outer L → Rel G B L I₁ ⟨loc, H⟩ s₁.heap → VRs G.w I₁ args ws → I ⊆ I₁ → Same s s₁ →
    (∀ v s', PQ G B L I s (VR G.w) (fun b σ' => σ'.loc = loc ∧ Q b σ'.H) v s' → R (.ok (.ret v)) s') → (∀ e s', PE G C base (fenv :: outer) B L s E e s' → R (.error e) s') →
    codeAny (model G.prog G.w) A (.call f ⟨ws, []⟩) R s₁

noncomputable def FnX (G : Cfg) (C : Addr) (k : Nat) (f : Value) (args : List AV) (H : Hp) (Q : AV → Hp → Prop) (E : Str → Prop) : Prop :=
  ∀ (env fenv : Env) (loc : List (Str × AV)) (A A₀ : Around) (base B : Heap) (outer : List Env) (L : Addr) (I I₁ : Im) (s s₁ : Shared) (own : List (Addr × Obj)) (m : Str → Option Value) (ws : List Value) (R : Result → Shared → Prop),
    Cx G k env fenv A A₀ base B outer L → RelW G B L I₁ ⟨loc, H⟩ s₁.heap own m → VRs G.w I₁ args ws → I ⊆ I₁ → Same s s₁ →
    (∀ v s', PQ G B L I s (VR G.w) (fun b σ' => σ'.loc = loc ∧ Q b σ'.H) v s' → R (.ok (.ret v)) s') → (∀ e s' g, Fr B L g m → B.StaysIn g → PE G C base (fenv :: outer) g L s E e s' → R (.error e) s') →
    codeAny (model G.prog G.w) A (.call f ⟨ws, []⟩) R s₁
theorem PE.under {G : Cfg} {C : Addr} {base B g : Heap} {l : List Env} {L : Addr} {s : Shared} {E : Str → Prop} {e : Value} {s' : Shared} (h : PE G C base l g L s E e s') (st : B.StaysIn g) : PE G C base l B L s E e s' :=
  let ⟨x, ⟨a1, a2⟩, a3, a4⟩ := h; ⟨x, ⟨a1, fun b o hb hn => a2 b o (st b o hb) hn⟩, a3, a4⟩
theorem FnX.fn {G : Cfg} {C : Addr} {k : Nat} {f : Value} {args : List AV} {H : Hp} {Q : AV → Hp → Prop} {E : Str → Prop} (h : FnX G C k f args H Q E) : Fn G C k f args H Q E :=
  fun env fenv loc A A₀ base B outer L I I₁ s s₁ ws R c ⟨own, m, r⟩ hv hI hs h1 h2 => h env fenv loc A A₀ base B outer L I I₁ s s₁ own m ws R c r hv hI hs h1 fun e s' g F st z => h2 e s' (z.under st)

inductive BR (w : World) (I : Im) : List (Str × AV) → List (Str × Value) → Prop
  | nil : BR w I [] []
  | cons {x v v' b b'} : VR w I v v' → BR w I b b' → BR w I ((x, v) :: b) ((x, v') :: b')
theorem BR.append {w : World} {I : Im} {a a' b b'} (h : BR w I a a') (h' : BR w I b b') : BR w I (a ++ b) (a' ++ b') := by
  induction h with
  | nil => exact h'
  | cons h _ ih => exact .cons h ih
theorem BR.reverse {w : World} {I : Im} {b b'} (h : BR w I b b') : BR w I b.reverse b'.reverse := by
  induction h with
  | nil => exact .nil
  | cons h _ ih => rw [List.reverse_cons, List.reverse_cons]; exact ih.append (.cons h .nil)
theorem BR.lookup {w : World} {I : Im} {b b'} (h : BR w I b b') : ∀ x v, b.lookup x = some v → ∃ v', b'.lookup x = some v' ∧ VR w I v v' := by
  induction h with
  | nil => intro x v e; cases e
  | @cons y u u' b b' h _ ih =>
    intro x v e
    simp only [List.lookup] at e ⊢
    cases q : x == y with
    | true => rw [q] at e; cases e; exact ⟨u', rfl, h⟩
    | false => rw [q] at e; exact ih x v e
theorem BR.mem {w : World} {I : Im} {b b'} (h : BR w I b b') : ∀ y ∈ b', ∃ v, (y.1, v) ∈ b := by
  induction h with
  | nil => intro y hy; cases hy
  | @cons x v v' b b' _ _ ih =>
    intro y hy
    rcases List.mem_cons.mp hy with rfl | hy
    · exact ⟨v, .head _⟩
    · obtain ⟨u, hu⟩ := ih y hy; exact ⟨u, .tail _ hu⟩

noncomputable def AF.val : AF → AV
  | .ret v => v
  | _ => .none

section
variable {G : Cfg} {C : Addr} {k : Nat} {f : Addr} {args : List AV} {H : Hp} {Q Q' : AV → Hp → Prop} {E E' : Str → Prop}

theorem Fn.mono {v : Value} (h : Fn G C k v args H Q E) (hq : ∀ b H', Q b H' → Q' b H') (he : ∀ x, E x → E' x) : Fn G C k v args H Q' E' :=
  fun env fenv loc A A₀ base B outer L I I₁ s s₁ ws R c r hv hI hs h1 h2 => h env fenv loc A A₀ base B outer L I I₁ s s₁ ws R c r hv hI hs
    (fun v s' ⟨b, σ', I', a1, a2, a3, a4, a5, a6⟩ => h1 v s' ⟨b, σ', I', a1, a2, a3, a4, a5, hq _ _ a6⟩) (fun e s' ⟨x, a1, a2, a3⟩ => h2 e s' ⟨x, a1, a2, he _ a3⟩)

theorem AOk.mono {k k' : Nat} {A : Around} (h : AOk k A) (hk : k' ≤ k) : AOk k' A := ⟨by have := h.d; omega, by have := h.u; omega⟩
theorem Cx.mono {k k' : Nat} {env fenv : Env} {A A₀ : Around} {base B : Heap} {outer : List Env} {L : Addr} (c : Cx G k env fenv A A₀ base B outer L) (hk : k' ≤ k) : Cx G k' env fenv A A₀ base B outer L :=
  ⟨c.ok.mono hk, c.fr, c.hf, c.hl, c.hk, c.hkf, c.hh, c.hg, c.hb, c.below, c.gf⟩
theorem Fn.up {k' : Nat} {v : Value} (h : Fn G C k v args H Q E) (hk : k ≤ k') : Fn G C k' v args H Q E :=
  fun env fenv loc A A₀ base B outer L I I₁ s s₁ ws R c r hv hI hs h1 h2 => h env fenv loc A A₀ base B outer L I I₁ s s₁ ws R (c.mono hk) r hv hI hs h1 h2

theorem FnX.body {name qual : Str} {params : Arguments} {body : List Stmt} {scope : Scope} {dV kV doc pm cdv ct oc : Value} {an od : Option Addr} {osl : Array (Option Value)} {ab : List (Str × AV)}
    (ho : G.K.lookup f = some ⟨oc, od, .func (fnOf name qual params body scope dV kV doc pm an cdv ct), osl⟩) (hcd : codeIn G.K cdv qual = true)
    (hbind : ∀ (s : Shared) (I : Im) (ws : List Value), G.K.In s.heap → VRs G.w I args ws → ∃ binds, BindsTo s (fnOf name qual params body scope dV kV doc pm an cdv ct) ⟨ws, []⟩ binds ∧ BR G.w I ab binds)
    (hloc : ab.all (fun y => scope.names.lookup y.1 == some .local) = true)
    (h : ∀ L', JS G C k (envX qual scope L' f cdv []) body ⟨ab.reverse, H⟩ (fun fl σ' => Q fl.val σ'.H) E)
    (hcell : ∀ x ∈ scope.names, x.2 ≠ .cell := by decide) (hco : scope.isCoroutine = false := by rfl) (hgen : scope.isGenerator = false := by rfl) (hk : scope.kind = .function := by rfl) :
    FnX G C (k + 1) (.ref f) args H Q E := by
  intro env fenv loc A A₀ base B outer L I I₁ s s₁ own m ws R c r hv hI hs h1 h2
  have gs := r.gf c.gf
  obtain ⟨binds, hb, br⟩ := hbind s₁ I₁ ws gs.X hv
  have hrm : A.depth < recursionLimit := by have := c.ok.d; show _ < 1000; omega
  refine callX_plain (cl := []) c.below r.F r.N c.gf.T.nolimit c.fr c.hf c.hkf (gs.X _ _ ho) rfl (codeRec_of gs.X hcd) hrm hb (fun y hy => ?_) (fun g L' h₁ FG F' N' B' st _ => ?_) hcell hco hgen hk
  · obtain ⟨v, hm⟩ := br.mem y hy
    exact eq_of_beq (List.all_eq_true.mp hloc _ hm)
  have c' : Cx G k (envX qual scope L' f cdv []) (envX qual scope L' f cdv []) (A.deeper (envX qual scope L' f cdv [])) A base g (fenv :: outer) L' :=
    ⟨⟨by have := c.ok.d; show A.depth + 1 + k ≤ 900; omega, by have := c.ok.u; show A.units + 3 + 8 * k ≤ 9000; omega⟩, Around.frames_deeper c.fr, rfl, fun _ => ⟨rfl, rfl⟩, hk, hk, c.hh, rfl, rfl, B', c.gf.keeps st⟩
  have r' : Rel G g L' I₁ ⟨ab.reverse, H⟩ h₁ := ⟨own, _, F', N', r.apart, r.objs, fun x v e => br.reverse.lookup x v e⟩
  refine wpAny_mono (h L' _ _ _ _ _ _ _ I₁ { s₁ with heap := h₁, toks := s₁.toks + binds.length } c' r') (fun fl s' z => ?_) (fun e s' z => ?_)
  · obtain ⟨b, σ', I', k', hr, ⟨own', m', r''⟩, sm, q⟩ := z
    refine ⟨L', m', own' ++ I', r''.F, r''.N, fun F₂ N₂ => h1 _ _ ⟨b.val, ⟨loc, σ'.H⟩, I', List.Subset.trans hI k', ?_, ⟨own', m, F₂, N₂, r''.apart, r''.objs, fun x v e => ?_⟩, hs.trans ⟨sm.gens, sm.drawn, sm.os⟩, rfl, q⟩⟩
    · cases hr <;> first | exact VR.none | assumption
    · obtain ⟨v', e1, e2⟩ := r.locs x v e
      exact ⟨v', e1, e2.mono k'⟩
  · have z' : PE G C base (envX qual scope L' f cdv [] :: fenv :: outer) g L' s E e s' := PE.lift (s₁ := { s₁ with heap := h₁, toks := s₁.toks + binds.length }) ⟨hs.gens, hs.drawn, hs.os⟩ z
    exact wpAny_mono (XR.leave (M := model G.prog G.w) (B := g) (L := L) z' c'.fr rfl (stR g)) (fun _ s'' y => h2 _ _ g FG st y) (fun _ _ y => y)
theorem Fn.body {name qual : Str} {params : Arguments} {body : List Stmt} {scope : Scope} {dV kV doc pm cdv ct oc : Value} {an od : Option Addr} {osl : Array (Option Value)} {ab : List (Str × AV)}
    (ho : G.K.lookup f = some ⟨oc, od, .func (fnOf name qual params body scope dV kV doc pm an cdv ct), osl⟩) (hcd : codeIn G.K cdv qual = true)
    (hbind : ∀ (s : Shared) (I : Im) (ws : List Value), G.K.In s.heap → VRs G.w I args ws → ∃ binds, BindsTo s (fnOf name qual params body scope dV kV doc pm an cdv ct) ⟨ws, []⟩ binds ∧ BR G.w I ab binds)
    (hloc : ab.all (fun y => scope.names.lookup y.1 == some .local) = true)
    (h : ∀ L', JS G C k (envX qual scope L' f cdv []) body ⟨ab.reverse, H⟩ (fun fl σ' => Q fl.val σ'.H) E)
    (hcell : ∀ x ∈ scope.names, x.2 ≠ .cell := by decide) (hco : scope.isCoroutine = false := by rfl) (hgen : scope.isGenerator = false := by rfl) (hk : scope.kind = .function := by rfl) :
    Fn G C (k + 1) (.ref f) args H Q E := (FnX.body ho hcd hbind hloc h hcell hco hgen hk).fn

theorem bindL_or {kindOf : Str → Option NameKind} : ∀ (binds : List (Str × Value)) (m : Str → Option Value), (∀ y ∈ binds, kindOf y.1 = some .local) → ∀ x v, binds.reverse.lookup x = some v → bindL kindOf binds m x = some v
  | [], _, _, x, v, e => by cases e
  | (n, u) :: r, m, hl, x, v, e => by
    have hn : kindOf n = some .local := hl _ (.head _)
    show bindL kindOf r (if kindOf n = some .local then fun y => if y = n then some u else m y else m) x = some v
    rw [if_pos hn]
    rw [List.reverse_cons, List.lookup_append] at e
    cases q : r.reverse.lookup x with
    | some w => rw [q] at e; cases e; exact bindL_or r _ (fun y hy => hl y (.tail _ hy)) x _ q
    | none =>
      rw [q] at e
      have keep : ∀ (l : List (Str × Value)) (m' : Str → Option Value), l.reverse.lookup x = none → m' x = some v → (∀ y ∈ l, kindOf y.1 = some .local) → bindL kindOf l m' x = some v := by
        intro l
        induction l with
        | nil => intro m' _ h _; exact h
        | cons p l ih =>
          obtain ⟨a, b⟩ := p
          intro m' hq hm hh
          show bindL kindOf l (if kindOf a = some .local then fun y => if y = a then some b else m' y else m') x = some v
          rw [if_pos (hh _ (.head _))]
          rw [List.reverse_cons, List.lookup_append, Option.or_eq_none_iff] at hq
          have hxa : x ≠ a := by intro z; subst z; simp [List.lookup] at hq
          exact ih _ hq.1 (by rw [if_neg hxa]; exact hm) fun y hy => hh y (.tail _ hy)
      refine keep r _ q ?_ fun y hy => hl y (.tail _ hy)
      have hxn : x = n := by
        rw [Option.none_or] at e
        simp only [List.lookup] at e
        split at e
        · exact eq_of_beq ‹_›
        · cases e
      subst hxn
      simpa [List.lookup] using e
theorem Fn.bodyC {name qual : Str} {params : Arguments} {body : List Stmt} {scope : Scope} {dV kV doc pm cdv ct oc : Value} {an od : Option Addr} {osl : Array (Option Value)} {ab : List (Str × AV)} (x : Str)
    (ho : G.K.lookup f = some ⟨oc, od, .func (fnOf name qual params body scope dV kV doc pm an cdv ct), osl⟩) (hcd : codeIn G.K cdv qual = true)
    (hbind : ∀ (s : Shared) (I : Im) (ws : List Value), G.K.In s.heap → VRs G.w I args ws → ∃ binds, BindsTo s (fnOf name qual params body scope dV kV doc pm an cdv ct) ⟨ws, []⟩ binds ∧ BR G.w I ab binds)
    (hloc : ab.all (fun y => scope.names.lookup y.1 == some .local) = true)
    (hcs : ∀ n, cellsFrom n scope.names [] = [(x, n)])
    (h : ∀ L', H (L' + 1) = none → JS G C k (envOfC qual scope L' f cdv) body ⟨ab.reverse, H.set (L' + 1) (.cell none)⟩ (fun fl σ' => Q fl.val (σ'.H.drop (L' + 1))) E)
    (hco : scope.isCoroutine = false := by rfl) (hgen : scope.isGenerator = false := by rfl) (hk : scope.kind = .function := by rfl) :
    Fn G C (k + 1) (.ref f) args H Q E := by
  intro env fenv loc A A₀ base B outer L I I₁ s s₁ ws R c ⟨own, m, r⟩ hv hI hs h1 h2
  have gs := r.gf c.gf
  obtain ⟨binds, hb, br⟩ := hbind s₁ I₁ ws gs.X hv
  have hrm : A.depth < recursionLimit := by have := c.ok.d; show _ < 1000; omega
  have hll : ∀ y ∈ binds, scope.names.lookup y.1 = some .local := fun y hy => by
    obtain ⟨v, hm⟩ := br.mem y hy
    exact eq_of_beq (List.all_eq_true.mp hloc _ hm)
  refine callX_cells c.below r.F r.N c.gf.T.nolimit c.fr c.hf c.hkf (gs.X _ _ ho) rfl (codeRec_of gs.X hcd) hrm hb (fun _ y hy => .inl (hll y hy)) (by rw [hcs]; simp) (fun g L' h₁ tk cells FG F' N' CA B' st lt => ?_) hco hgen hk
  rw [hcs] at CA
  obtain ⟨oc', rfl, hoc⟩ := CA.one
  have noC : ∀ (l : List (Str × Value)) (m' : Str → Option Value), (∀ y ∈ l, scope.names.lookup y.1 = some .local) → bindC (envOfC qual scope L' f cdv).kindOf l m' = m' := by
    intro l
    induction l with
    | nil => intro m' _; rfl
    | cons p l ih =>
      obtain ⟨a, b⟩ := p
      intro m' hh
      show bindC _ l (if (envOfC qual scope L' f cdv).kindOf a = some .local then m' else _) = m'
      rw [if_pos (show (envOfC qual scope L' f cdv).kindOf a = some .local from hh _ (.head _))]
      exact ih m' fun y hy => hh y (.tail _ hy)
  rw [noC binds _ hll] at hoc
  have c' : Cx G k (envOfC qual scope L' f cdv) (envOfC qual scope L' f cdv) (A.deeper (envOfC qual scope L' f cdv)) A base g (fenv :: outer) L' :=
    ⟨⟨by have := c.ok.d; show A.depth + 1 + k ≤ 900; omega, by have := c.ok.u; show A.units + 3 + 8 * k ≤ 9000; omega⟩, Around.frames_deeper c.fr, rfl, fun _ => ⟨rfl, rfl⟩, hk, hk, c.hh, rfl, rfl, B', c.gf.keeps st⟩
  have hnew : H (L' + 1) = none := by
    cases e : H (L' + 1) with
    | none => rfl
    | some ao => obtain ⟨o, h1, _⟩ := r.objs _ _ e; exact absurd (lt _ (List.mem_append_left _ h1)) (Nat.not_lt.mpr (Nat.le_succ _))
  have r' : Rel G g L' I₁ ⟨ab.reverse, H.set (L' + 1) (.cell none)⟩ h₁ := by
    refine ⟨(L' + 1, oc') :: own, _, F', N', fun p hp q hq => ?_, fun a ao e => ?_, fun y v e => ?_⟩
    · rcases List.mem_cons.mp hp with rfl | hp
      · exact Nat.ne_of_gt (Nat.lt_succ_of_lt (lt q (List.mem_append_right _ hq)))
      · exact r.apart p hp q hq
    · simp only [Hp.set] at e
      split at e
      · rename_i q; subst q; cases e; exact ⟨oc', .head _, .cell0 hoc⟩
      · obtain ⟨o', e1, e2⟩ := r.objs a ao e; exact ⟨o', .tail _ e1, e2⟩
    · obtain ⟨v', e1, e2⟩ := br.reverse.lookup y v e
      exact ⟨v', bindL_or binds _ hll y v' e1, e2⟩
  refine wpAny_mono (h L' hnew _ _ _ _ _ _ _ I₁ { s₁ with heap := h₁, toks := tk } c' r') (fun fl s' z => ?_) (fun e s' z => ?_)
  · obtain ⟨b, σ', I', k', hr, ⟨own', m', r''⟩, sm, q⟩ := z
    refine ⟨L', m', own' ++ I', r''.F, r''.N, fun F₂ N₂ => h1 _ _ ⟨b.val, ⟨loc, σ'.H.drop (L' + 1)⟩, I', List.Subset.trans hI k', ?_, ⟨own', m, F₂, N₂, r''.apart, fun a ao e => ?_, fun x v e => ?_⟩, hs.trans ⟨sm.gens, sm.drawn, sm.os⟩, rfl, q⟩⟩
    · cases hr <;> first | exact VR.none | assumption
    · simp only [Hp.drop] at e
      split at e
      · cases e
      · exact r''.objs a ao e
    · obtain ⟨v', e1, e2⟩ := r.locs x v e
      exact ⟨v', e1, e2.mono k'⟩
  · have z' : PE G C base (envOfC qual scope L' f cdv :: fenv :: outer) g L' s E e s' := PE.lift (s₁ := { s₁ with heap := h₁, toks := tk }) ⟨hs.gens, hs.drawn, hs.os⟩ z
    exact wpAny_mono (XR.leave (M := model G.prog G.w) (B := B) (L := L) z' c'.fr rfl st) (fun _ s'' y => h2 _ _ y) (fun _ _ y => y)
end
end Mine

namespace Mine

theorem VRs.strs {w : World} {I : Im} {xs : List Str} : ∀ {ws : List Value}, VRs w I (xs.map .str) ws → StrsAre ws xs := by
  induction xs with
  | nil => intro ws h; rw [h.nilI]; exact .nil
  | cons x r ih => intro ws h; obtain ⟨v, vs, rfl, h1, h2⟩ := h.consI; obtain ⟨t, rfl⟩ := h1.strI; exact .cons x t (ih h2)

inductive Bin : Operator → AV → AV → AV → Prop
  | addI (a b : Int) : Bin .Add (.int a) (.int b) (.int (a + b))
  | subI (a b : Int) : Bin .Sub (.int a) (.int b) (.int (a - b))
  | mulI (a b : Int) (h : IntMulOk a b) : Bin .Mult (.int a) (.int b) (.int (a * b))
  | modI (a b : Int) (h : b ≠ 0) : Bin .Mod (.int a) (.int b) (.int (a.fmod b))
  | divI (a b : Int) (h : b ≠ 0) (h' : b.natAbs < 1073741824) : Bin .FloorDiv (.int a) (.int b) (.int (a.fdiv b))
  | addS (x y : Str) (h : x.length + y.length ≤ sizeLine) : Bin .Add (.str x) (.str y) (.str (x ++ y))

section
variable {prog : Program} {w : World} {A : Around} {E : Value → Shared → Prop} {s : Shared} {I : Im} {op : Operator} {a b c : AV} {v u : Value} {P : Value → Shared → Prop}
theorem Bin.sound (h : Bin op a b c) (ha : VR w I a v) (hb : VR w I b u) (hq : ∀ c' tk, VR w I c c' → P c' { s with toks := tk }) : wpAny (model prog w) A (binaryOp op v u) P E s := by
  cases h with
  | addI => obtain ⟨_, rfl⟩ := ha.intI; obtain ⟨_, rfl⟩ := hb.intI; exact PyProof.Rows.add_int (hq _ _ (.int _ _))
  | subI => obtain ⟨_, rfl⟩ := ha.intI; obtain ⟨_, rfl⟩ := hb.intI; exact PyProof.Rows.sub_int (hq _ _ (.int _ _))
  | mulI _ _ hm => obtain ⟨_, rfl⟩ := ha.intI; obtain ⟨_, rfl⟩ := hb.intI; exact PyProof.Rows.mul_int (hq _ _ (.int _ _)) hm
  | modI _ _ h0 => obtain ⟨_, rfl⟩ := ha.intI; obtain ⟨_, rfl⟩ := hb.intI; exact PyProof.Rows.mod_int h0 (hq _ _ (.int _ _))
  | divI _ _ h0 h1 => obtain ⟨_, rfl⟩ := ha.intI; obtain ⟨_, rfl⟩ := hb.intI; exact PyProof.Rows.floordiv_int h0 (hq _ _ (.int _ _)) (.inl (PyProof.noPylong_small h1))
  | addS _ _ hs => obtain ⟨_, rfl⟩ := ha.strI; obtain ⟨_, rfl⟩ := hb.strI; exact PyProof.Rows.add_str (fun t tk => hq _ _ (.str _ _)) hs
theorem Bin.isound (h : Bin op a b c) (ha : VR w I a v) (hb : VR w I b u) (hq : ∀ c' tk, VR w I c c' → P c' { s with toks := tk }) : wpAny (model prog w) A (inplaceOp op v u) P E s := by
  cases h with
  | addI => obtain ⟨_, rfl⟩ := ha.intI; obtain ⟨_, rfl⟩ := hb.intI; exact PyProof.Rows.iadd_int (hq _ _ (.int _ _))
  | subI => obtain ⟨_, rfl⟩ := ha.intI; obtain ⟨_, rfl⟩ := hb.intI; exact PyProof.Rows.isub_int (hq _ _ (.int _ _))
  | mulI _ _ hm => obtain ⟨_, rfl⟩ := ha.intI; obtain ⟨_, rfl⟩ := hb.intI; exact PyProof.Rows.imul_int (hq _ _ (.int _ _)) hm
  | modI _ _ h0 => obtain ⟨_, rfl⟩ := ha.intI; obtain ⟨_, rfl⟩ := hb.intI; exact PyProof.Rows.imod_int h0 (hq _ _ (.int _ _))
  | divI _ _ h0 h1 => obtain ⟨_, rfl⟩ := ha.intI; obtain ⟨_, rfl⟩ := hb.intI; exact PyProof.Rows.ifloordiv_int h0 (hq _ _ (.int _ _)) (.inl (PyProof.noPylong_small h1))
  | addS _ _ hs => obtain ⟨_, rfl⟩ := ha.strI; obtain ⟨_, rfl⟩ := hb.strI; exact PyProof.Rows.iadd_str (fun t tk => hq _ _ (.str _ _)) hs
end

mutual
inductive AD (H : Hp) : AV → PyData → Prop
  | none : AD H .none .none
  | bool (b : Bool) : AD H (.bool b) (.bool b)
  | int (i : Int) : AD H (.int i) (.int i)
  | str (x : Str) : AD H (.str x) (.str x)
  | tup {vs ds} : ADs H vs ds → AD H (.tup vs) (.tuple ds)
  | list {l vs ds} : H l = some (.list vs) → ADs H vs ds → AD H (.ref l) (.list ds)
inductive ADs (H : Hp) : List AV → List PyData → Prop
  | nil : ADs H [] []
  | cons {v d vs ds} : AD H v d → ADs H vs ds → ADs H (v :: vs) (d :: ds)
end

section
variable {G : Cfg} {B : Heap} {L : Addr} {I : Im} {σ : St} {h : Heap} {own : List (Addr × Obj)} {m : Str → Option Value}
theorem reads2 (r : RelW G B L I σ h own m) : (∀ {a d}, AD σ.H a d → ∀ {v}, VR G.w I a v → ∃ as, Reads h v d as) ∧ (∀ {a d}, ADs σ.H a d → ∀ {v}, VRs G.w I a v → ∃ as, ReadsAll h v d as) := by
  have c1 : ∀ {v}, VR G.w I .none v → ∃ as, Reads h v .none as := fun q => by rw [q.noneI]; exact ⟨_, .none⟩
  have c2 : ∀ b {v}, VR G.w I (.bool b) v → ∃ as, Reads h v (.bool b) as := fun b _ q => by rw [q.boolI]; exact ⟨_, .bool b⟩
  have c3 : ∀ i {v}, VR G.w I (.int i) v → ∃ as, Reads h v (.int i) as := fun b _ q => by obtain ⟨t, rfl⟩ := q.intI; exact ⟨_, .int _ _⟩
  have c4 : ∀ x {v}, VR G.w I (.str x) v → ∃ as, Reads h v (.str x) as := fun b _ q => by obtain ⟨t, rfl⟩ := q.strI; exact ⟨_, .str _ _⟩
  have c5 : ∀ {vs ds}, ADs σ.H vs ds → (∀ {v}, VRs G.w I vs v → ∃ as, ReadsAll h v ds as) → ∀ {v}, VR G.w I (.tup vs) v → ∃ as, Reads h v (.tuple ds) as := fun _ ih _ q => by
    obtain ⟨ws, a, n, rfl, hm, hs⟩ := q.tupI
    obtain ⟨as, hr⟩ := ih hs
    exact ⟨as, .tuple (r.imm hm) rfl rfl hr⟩
  have c6 : ∀ {l vs ds}, σ.H l = some (.list vs) → ADs σ.H vs ds → (∀ {v}, VRs G.w I vs v → ∃ as, ReadsAll h v ds as) → ∀ {v}, VR G.w I (.ref l) v → ∃ as, Reads h v (.list ds) as := fun hl _ ih _ q => by
    obtain ⟨o, h1, h2⟩ := r.objs _ _ hl
    rw [q.refI]
    obtain ⟨_, _, rfl, hs⟩ := h2.listI
    obtain ⟨as, hr⟩ := ih hs
    exact ⟨_, .list (r.N _ (List.mem_append_left _ h1)).1 rfl rfl hr⟩
  have c7 : ∀ {v}, VRs G.w I [] v → ∃ as, ReadsAll h v [] as := fun q => by rw [q.nilI]; exact ⟨_, .nil⟩
  have c8 : ∀ {v d vs ds}, AD σ.H v d → ADs σ.H vs ds → (∀ {x}, VR G.w I v x → ∃ as, Reads h x d as) → (∀ {x}, VRs G.w I vs x → ∃ as, ReadsAll h x ds as) → ∀ {x}, VRs G.w I (v :: vs) x → ∃ as, ReadsAll h x (d :: ds) as := fun _ _ i1 i2 _ q => by
    obtain ⟨x, xs, rfl, g1, g2⟩ := q.consI
    obtain ⟨_, r1⟩ := i1 g1
    obtain ⟨_, r2⟩ := i2 g2
    exact ⟨_, .cons r1 r2⟩
  exact ⟨fun q => AD.rec (motive_1 := fun a d _ => ∀ {v}, VR G.w I a v → ∃ as, Reads h v d as) (motive_2 := fun a d _ => ∀ {v}, VRs G.w I a v → ∃ as, ReadsAll h v d as) c1 c2 c3 c4 c5 c6 c7 c8 q,
    fun q => ADs.rec (motive_1 := fun a d _ => ∀ {v}, VR G.w I a v → ∃ as, Reads h v d as) (motive_2 := fun a d _ => ∀ {v}, VRs G.w I a v → ∃ as, ReadsAll h v d as) c1 c2 c3 c4 c5 c6 c7 c8 q⟩
theorem AD.reads (r : RelW G B L I σ h own m) {a v d} (q : AD σ.H a d) (hv : VR G.w I a v) : ∃ as, Reads h v d as := (reads2 r).1 q hv
end
theorem RelW.low {G : Cfg} {B : Heap} {L : Addr} {I : Im} {σ : St} {h : Heap} {own : List (Addr × Obj)} {m : Str → Option Value} (r : RelW G B L I σ h own m) : ∀ p ∈ own ++ I, p.1 < h.objs.size := fun p hp => Heap.lt_size (r.N p hp).1

theorem pairs_any {prog prog' : Program} {w : World} {es : List DictEntry} {kvs : List (Str × Value)} (h : Pairs (PySem.strKind prog w) es kvs) : Pairs (PySem.strKind prog' w) es kvs := by
  induction h with
  | nil => exact .nil
  | cons h1 h2 _ ih => exact .cons h1 h2 ih
theorem dictOf_any {prog prog' : Program} {w : World} {o : Obj} {kvs : List (Str × Value)} (h : o.IsDictOf (PySem.strKind prog w) kvs) : o.IsDictOf (PySem.strKind prog' w) kvs :=
  let ⟨es, ep, e1, e2, e3, e4, e5⟩ := h; ⟨es, ep, e1, e2, e3, pairs_any e4, e5⟩

inductive Cmp (H : Hp) : CmpOp → AV → AV → Bool → Prop
  | eqS (x y : Str) : Cmp H .Eq (.str x) (.str y) (x == y)
  | neS (x y : Str) : Cmp H .NotEq (.str x) (.str y) (x != y)
  | leS (x y : Str) : Cmp H .LtE (.str x) (.str y) (!decide (y.cps.toList < x.cps.toList))
  | eqI (x y : Int) : Cmp H .Eq (.int x) (.int y) (x == y)
  | neI (x y : Int) : Cmp H .NotEq (.int x) (.int y) (x != y)
  | ltI (x y : Int) : Cmp H .Lt (.int x) (.int y) (decide (x < y))
  | leI (x y : Int) : Cmp H .LtE (.int x) (.int y) (decide (x ≤ y))
  | gtI (x y : Int) : Cmp H .Gt (.int x) (.int y) (decide (x > y))
  | geI (x y : Int) : Cmp H .GtE (.int x) (.int y) (decide (x ≥ y))
  | inSS (x y : Str) : Cmp H .In (.str y) (.str x) (!(Builtin.Str.occurrences x y 0 x.length 1).isEmpty)
  | ninSS (x y : Str) : Cmp H .NotIn (.str y) (.str x) (!(!(Builtin.Str.occurrences x y 0 x.length 1).isEmpty))
  | inTS (x : Str) (ys : List Str) : Cmp H .In (.str x) (.tup (ys.map .str)) (ys.any (· == x))
  | ninTS (x : Str) (ys : List Str) : Cmp H .NotIn (.str x) (.tup (ys.map .str)) (!(ys.any (· == x)))
  | inLS (x : Str) (l : Addr) (ys : List Str) (h : H l = some (.list (ys.map .str))) : Cmp H .In (.str x) (.ref l) (ys.any (· == x))
  | ninLS (x : Str) (l : Addr) (ys : List Str) (h : H l = some (.list (ys.map .str))) : Cmp H .NotIn (.str x) (.ref l) (!(ys.any (· == x)))
  | inD (x : Str) (d : Addr) (D : List (Str × PyData)) (hd : (d == sysModules) = false) (h : H d = some (.sdict D)) : Cmp H .In (.str x) (.ref d) (D.any (·.1 == x))
  | eqD (a b : AV) (da db : PyData) (ha : AD H a da) (hb : AD H b db) (h1 : SeqAt.shaped da = true) (h2 : SeqAt.shaped db = true) : Cmp H .Eq a b (PyData.eqv da db)
  | neD (a b : AV) (da db : PyData) (ha : AD H a da) (hb : AD H b db) (h1 : SeqAt.shaped da = true) (h2 : SeqAt.shaped db = true) : Cmp H .NotEq a b (!PyData.eqv da db)
  | isNone (v : AV) (h : v ≠ .none) : Cmp H .Is v .none false
  | isNone' : Cmp H .Is .none .none true
  | isNot (v : AV) (h : v ≠ .none) : Cmp H .IsNot v .none true
  | isNot' : Cmp H .IsNot .none .none false

theorem VR.notNone {w : World} {I : Im} {v : AV} {v' : Value} (h : VR w I v v') (hn : v ≠ .none) : (v' == Value.none) = false := by
  cases h <;> first | exact absurd rfl hn | rfl | (apply beq_false_of_ne; intro q; cases q)

section
variable {G : Cfg} {B : Heap} {L : Addr} {I : Im} {σ : St} {A : Around} {E : Value → Shared → Prop} {s : Shared} {op : CmpOp} {a b : AV} {c : Bool} {v u : Value} {P : Value → Shared → Prop}
theorem Cmp.sound (h : Cmp σ.H op a b c) (hu : A.units ≤ 9000) (r : Rel G B L I σ s.heap) (ha : VR G.w I a v) (hb : VR G.w I b u) (hq : ∀ tk, P (.bool c) { s with toks := tk }) : wpAny (model G.prog G.w) A (compareOp op v u) P E s := by
  have hq0 : P (.bool c) s := hq s.toks
  cases h with
  | eqS => obtain ⟨_, rfl⟩ := ha.strI; obtain ⟨_, rfl⟩ := hb.strI; exact PyProof.Rows.eq_str hq0
  | neS => obtain ⟨_, rfl⟩ := ha.strI; obtain ⟨_, rfl⟩ := hb.strI; exact PyProof.Rows.ne_str hq0
  | leS => obtain ⟨_, rfl⟩ := ha.strI; obtain ⟨_, rfl⟩ := hb.strI; exact PySem.P.le_str hq0
  | eqI => obtain ⟨_, rfl⟩ := ha.intI; obtain ⟨_, rfl⟩ := hb.intI; exact PyProof.Rows.eq_int hq0
  | neI => obtain ⟨_, rfl⟩ := ha.intI; obtain ⟨_, rfl⟩ := hb.intI; exact PyProof.Rows.ne_int hq0
  | ltI => obtain ⟨_, rfl⟩ := ha.intI; obtain ⟨_, rfl⟩ := hb.intI; exact PyProof.Rows.lt_int hq0
  | leI => obtain ⟨_, rfl⟩ := ha.intI; obtain ⟨_, rfl⟩ := hb.intI; exact PyProof.Rows.le_int hq0
  | gtI => obtain ⟨_, rfl⟩ := ha.intI; obtain ⟨_, rfl⟩ := hb.intI; exact PySem.P.gt_int hq0
  | geI => obtain ⟨_, rfl⟩ := ha.intI; obtain ⟨_, rfl⟩ := hb.intI; exact PySem.P.ge_int hq0
  | inSS => obtain ⟨_, rfl⟩ := ha.strI; obtain ⟨_, rfl⟩ := hb.strI; exact PyProof.Rows.in_str hq0
  | ninSS => obtain ⟨_, rfl⟩ := ha.strI; obtain ⟨_, rfl⟩ := hb.strI; exact PyProof.Rows.notIn_str hq0
  | inTS =>
    obtain ⟨_, rfl⟩ := ha.strI
    obtain ⟨_, _, _, rfl, hm, hs⟩ := hb.tupI
    exact in_tuple_strs ⟨_, r.imm hm, rfl, _, rfl⟩ hs.strs hq0
  | ninTS =>
    obtain ⟨_, rfl⟩ := ha.strI
    obtain ⟨_, _, _, rfl, hm, hs⟩ := hb.tupI
    exact notin_tuple_strs ⟨_, r.imm hm, rfl, _, rfl⟩ hs.strs hq0
  | inLS x l ys hl =>
    obtain ⟨_, rfl⟩ := ha.strI; rw [hb.refI]
    obtain ⟨own, m, r⟩ := r
    obtain ⟨o, h1, h2⟩ := r.objs _ _ hl
    obtain ⟨_, _, rfl, hs⟩ := h2.listI
    exact in_list_strs ⟨_, (r.N _ (List.mem_append_left _ h1)).1, rfl, _, rfl⟩ hs.strs hq0
  | ninLS x l ys hl =>
    obtain ⟨_, rfl⟩ := ha.strI; rw [hb.refI]
    obtain ⟨own, m, r⟩ := r
    obtain ⟨o, h1, h2⟩ := r.objs _ _ hl
    obtain ⟨_, _, rfl, hs⟩ := h2.listI
    exact notin_list_strs ⟨_, (r.N _ (List.mem_append_left _ h1)).1, rfl, _, rfl⟩ hs.strs hq0
  | inD x d D hlo hd =>
    obtain ⟨_, rfl⟩ := ha.strI; rw [hb.refI]
    obtain ⟨own, m, r⟩ := r
    obtain ⟨o, h1, h2⟩ := r.objs _ _ hd
    obtain ⟨_, _, g1, g2⟩ := h2.sdictI
    · refine in_strTab (prog := G.prog) (w := G.w) (TabAt.ofObj (knd := PySem.strKind G.prog G.w) hlo (r.N _ (List.mem_append_left _ h1)).1 (dictOf_any g1) g2) ?_
      have e : ∀ D : List (Str × PyData), (PySem.Spec.lookup (.str x) (D.map fun p => (PyData.str p.1, p.2))).isSome = D.any (·.1 == x) := by
        intro D
        induction D with
        | nil => rfl
        | cons p D ih =>
          show (if PySem.Spec.same (PyData.str p.1) (PyData.str x) = true then some p.2 else PySem.Spec.lookup (.str x) (D.map fun p => (PyData.str p.1, p.2))).isSome = (p.1 == x || D.any (·.1 == x))
          rw [PyProof.V.same_str, ← ih]
          by_cases q : p.1 = x
          · simp [q]
          · simp [q]
      rw [e]
      exact hq _
  | eqD a b da db ha' hb' h1 h2 =>
    obtain ⟨own, m, r⟩ := r
    obtain ⟨as, ra⟩ := ha'.reads r ha
    obtain ⟨bs, rb⟩ := hb'.reads r hb
    exact SeqAt.compareEq_shaped ra rb h1 h2 (by show _ < 9900; omega) hq0
  | neD a b da db ha' hb' h1 h2 =>
    obtain ⟨own, m, r⟩ := r
    obtain ⟨as, ra⟩ := ha'.reads r ha
    obtain ⟨bs, rb⟩ := hb'.reads r hb
    exact SeqAt.compareNe_shaped ra rb h1 h2 (by show _ < 9900; omega) hq0
  | isNone _ hn => rw [hb.noneI]; exact is_none (by rw [ha.notNone hn]; exact hq0)
  | isNone' => rw [ha.noneI, hb.noneI]; exact is_none hq0
  | isNot _ hn => rw [hb.noneI]; exact isNot_none (by rw [ha.notNone hn]; exact hq0)
  | isNot' => rw [ha.noneI, hb.noneI]; exact isNot_none hq0
end

section
variable {G : Cfg} {C : Addr} {k : Nat} {env : Env} {σ : St} {E : Str → Prop} {Q : AV → St → Prop} {QB : Bool → St → Prop} {QF : AF → St → Prop} {x : Str} {pos : Pos}

inductive BinQ (op : Operator) (a b : AV) (Q : AV → St → Prop) (σ : St) : Prop
  | mk (c : AV) (h1 : Bin op a b c) (h2 : Q c σ)
inductive AugQ (op : Operator) (a b : AV) (x : Str) (Q : AF → St → Prop) (σ : St) : Prop
  | mk (c : AV) (h1 : Bin op a b c) (h2 : Q .next ⟨setL x c σ.loc, σ.H⟩)
inductive CmpQ (op : CmpOp) (a b : AV) (Q : AV → St → Prop) (σ : St) : Prop
  | mk (c : Bool) (h1 : Cmp σ.H op a b c) (h2 : Q (.bool c) σ)
inductive TCmpQ (op : CmpOp) (a b : AV) (Q : Bool → St → Prop) (σ : St) : Prop
  | mk (c : Bool) (h1 : Cmp σ.H op a b c) (h2 : Q c σ)
inductive BoolQ (Q : Bool → St → Prop) (v : AV) (σ : St) : Prop
  | mk (b : Bool) (h1 : v = .bool b) (h2 : Q b σ)
inductive IntQ (Q : AV → St → Prop) (v : AV) (σ : St) : Prop
  | mk (i : Int) (h1 : v = .int i) (h2 : Q (.int (-i)) σ)
inductive TupQ (Q : AV → St → Prop) (vs : List AV) (σ : St) : Prop
  | mk (h1 : vs.length ≤ 1000) (h2 : Q (.tup vs) σ)
inductive LstQ (Q : AV → St → Prop) (vs : List AV) (σ : St) : Prop
  | mk (h1 : vs.length ≤ 1000) (h2 : ∀ a, σ.H a = none → Q (.ref a) ⟨σ.loc, σ.H.set a (.list vs)⟩)
theorem J.BinOp {l e : Expr} {op : Operator} (h : JE G C k env l σ (fun a σ₁ => JE G C k env e σ₁ (fun b σ₂ => BinQ op a b Q σ₂) E) E) : JE G C k env (.BinOp l op e pos) σ Q E := by
  intro fenv A A₀ base B outer L I s c r
  refine wpAny_BinOp (h.then c r (.refl s) fun v s₁ a σ₁ I₁ k₁ h₁ r₁ m₁ q₁ => q₁.then c r₁ m₁ fun u s₂ b σ₂ I₂ k₂ h₂ r₂ m₂ ⟨cc, hc, q⟩ => ?_)
  exact hc.sound (h₁.mono k₂) h₂ fun c' tk hv => ⟨cc, σ₂, I₂, List.Subset.trans k₁ k₂, hv, r₂, ⟨m₂.gens, m₂.drawn, m₂.os⟩, q⟩
theorem J.AugN {v : AV} {e : Expr} {op : Operator} {npos : Pos} (hv : σ.loc.lookup x = some v) (h : JE G C k env e σ (fun b σ₂ => AugQ op v b x QF σ₂) E) (hx : env.kindOf x = some .local := by rfl) (hfl : env.frame = some env.locals := by rfl) :
    J1 G C k env (.AugAssign (.Name x npos) op e pos) σ QF E := by
  intro fenv A A₀ base B outer L I s c ⟨own, m, r⟩
  obtain ⟨v', e1, e2⟩ := r.locs x v hv
  refine wpAny_AugAssign_Name (wpAny_loadName_local c.hk hx ((c.hl hfl).2 ▸ r.F.ns) e1 (h.then c ⟨own, m, r⟩ (.refl s) fun u s₂ b σ₂ I₂ k₂ h₂ r₂ m₂ ⟨cc, hc, q⟩ => ?_))
  exact hc.isound (e2.mono k₂) h₂ fun c' tk hv => store_loc (α := Unit) (β := Unit) (I := I) (s := s) (s₁ := { s₂ with toks := tk }) c r₂ hv hx hfl fun s₃ m₃ r₃ => ⟨.next, _, I₂, k₂, .next, r₃, ⟨m₃.gens.trans m₂.gens, m₃.drawn.trans m₂.drawn, m₃.os.trans m₂.os⟩, q⟩
theorem J.CmpE {l e : Expr} {op : CmpOp} (h : JE G C k env l σ (fun a σ₁ => JE G C k env e σ₁ (fun b σ₂ => CmpQ op a b Q σ₂) E) E) (hm : behindInMarks op e = false := by rfl) : JE G C k env (.Compare l [op] [e] pos) σ Q E := by
  intro fenv A A₀ base B outer L I s c r
  refine wpAny_Compare1 (h.then c r (.refl s) fun v s₁ a σ₁ I₁ k₁ h₁ r₁ m₁ q₁ => q₁.then c r₁ m₁ fun u s₂ b σ₂ I₂ k₂ h₂ r₂ m₂ ⟨cc, hc, q⟩ => ?_) hm
  exact hc.sound (by have := c.ok.u; omega) r₂ (h₁.mono k₂) h₂ fun tk => ⟨.bool cc, σ₂, I₂, List.Subset.trans k₁ k₂, .bool cc, r₂, ⟨m₂.gens, m₂.drawn, m₂.os⟩, q⟩
theorem J.TCmp {l e : Expr} {op : CmpOp} {whole : Sem Value} (h : JE G C k env l σ (fun a σ₁ => JE G C k env e σ₁ (fun b σ₂ => TCmpQ op a b QB σ₂) E) E) (hm : behindInMarks op e = false := by rfl) : J G C k env BRl (isTrue (.Compare l [op] [e] pos) env whole) σ QB E := by
  intro fenv A A₀ base B outer L I s c r
  refine wpAny_isTrue_Compare1 (h.then c r (.refl s) fun v s₁ a σ₁ I₁ k₁ h₁ r₁ m₁ q₁ => q₁.then c r₁ m₁ fun u s₂ b σ₂ I₂ k₂ h₂ r₂ m₂ ⟨cc, hc, q⟩ => ?_) hm
  exact hc.sound (by have := c.ok.u; omega) r₂ (h₁.mono k₂) h₂ fun tk => wpAny_truthy_bool ⟨cc, σ₂, I₂, List.Subset.trans k₁ k₂, rfl, r₂, ⟨m₂.gens, m₂.drawn, m₂.os⟩, q⟩
theorem J.Tval {e : Expr} {whole : Sem Value} (h : J G C k env (VR G.w) whole σ (BoolQ QB) E)
    (he : isTrue e env whole = (do let v ← whole; standAt e.pos; holding [v] (truthy v)) := by rfl) : J G C k env BRl (isTrue e env whole) σ QB E := by
  intro fenv A A₀ base B outer L I s c r
  refine isTrue_plain (h.then c r (.refl s) fun v s₁ a σ₁ I₁ k₁ h₁ r₁ m₁ ⟨b, q1, q2⟩ => ?_) he
  subst q1
  rw [h₁.boolI]
  exact wpAny_truthy_bool ⟨b, σ₁, I₁, k₁, rfl, r₁, m₁, q2⟩
theorem J.IfE {test body orelse : Expr} (h : JT G C k env test σ (fun b σ' => if b then JE G C k env body σ' Q E else JE G C k env orelse σ' Q E) E) : JE G C k env (.IfExp test body orelse pos) σ Q E := by
  intro fenv A A₀ base B outer L I s c r
  refine IfExp_ (h.then c r (.refl s) fun b s₂ b' σ₂ I₂ k₂ hr r₂ m₂ q => ?_)
  cases hr
  cases b
  · exact J.go (by simpa using q) c r₂ k₂ m₂
  · exact J.go (by simpa using q) c r₂ k₂ m₂
theorem J.And1 {e : Expr} {op : BoolOp} (h : JE G C k env e σ Q E) : JE G C k env (.BoolOp op [e] pos) σ Q E :=
  fun fenv A A₀ base B outer L I s c r => BoolOp_one (h fenv A A₀ base B outer L I s c r)
theorem J.AndE {e₁ e₂ : Expr} {rest : List Expr} (h : JE G C k env e₁ σ (BoolQ fun b σ' => if b then JE G C k env (.BoolOp .And (e₂ :: rest) pos) σ' Q E else Q (.bool false) σ') E) :
    JE G C k env (.BoolOp .And (e₁ :: e₂ :: rest) pos) σ Q E := by
  intro fenv A A₀ base B outer L I s c r
  refine BoolOp_and (h.then c r (.refl s) fun v s₁ a σ₁ I₁ k₁ h₁ r₁ m₁ ⟨b, q1, q2⟩ => ?_)
  subst q1
  rw [h₁.boolI]
  refine wpAny_truthy_bool ?_
  cases b
  · exact ⟨_, σ₁, I₁, k₁, .bool _, r₁, m₁, by simpa using q2⟩
  · exact J.go (by simpa using q2) c r₁ k₁ m₁
theorem J.OrE {e₁ e₂ : Expr} {rest : List Expr} (h : JE G C k env e₁ σ (BoolQ fun b σ' => if b then Q (.bool true) σ' else JE G C k env (.BoolOp .Or (e₂ :: rest) pos) σ' Q E) E) :
    JE G C k env (.BoolOp .Or (e₁ :: e₂ :: rest) pos) σ Q E := by
  intro fenv A A₀ base B outer L I s c r
  refine BoolOp_or (h.then c r (.refl s) fun v s₁ a σ₁ I₁ k₁ h₁ r₁ m₁ ⟨b, q1, q2⟩ => ?_)
  subst q1
  rw [h₁.boolI]
  refine wpAny_truthy_bool ?_
  cases b
  · exact J.go (by simpa using q2) c r₁ k₁ m₁
  · exact ⟨_, σ₁, I₁, k₁, .bool _, r₁, m₁, by simpa using q2⟩
theorem J.NotE {e : Expr} (h : JE G C k env e σ (BoolQ fun b σ' => Q (.bool (!b)) σ') E) : JE G C k env (.UnaryOp .Not e pos) σ Q E := by
  intro fenv A A₀ base B outer L I s c r
  refine UnaryOp_ (h.then c r (.refl s) fun v s₁ a σ₁ I₁ k₁ h₁ r₁ m₁ ⟨b, q1, q2⟩ => ?_)
  subst q1
  rw [h₁.boolI]
  exact not_of (wpAny_truthy_bool ⟨_, σ₁, I₁, k₁, .bool _, r₁, m₁, q2⟩)
theorem J.Neg {e : Expr} (h : JE G C k env e σ (IntQ Q) E) : JE G C k env (.UnaryOp .USub e pos) σ Q E := by
  intro fenv A A₀ base B outer L I s c r
  refine UnaryOp_ (h.then c r (.refl s) fun v s₁ a σ₁ I₁ k₁ h₁ r₁ m₁ ⟨b, q1, q2⟩ => ?_)
  subst q1
  obtain ⟨_, rfl⟩ := h₁.intI
  exact PySem.P.neg_int ⟨_, σ₁, I₁, k₁, .int _ _, r₁, ⟨m₁.gens, m₁.drawn, m₁.os⟩, q2⟩

-- arguments, displays
noncomputable abbrev JL (G : Cfg) (C : Addr) (k : Nat) (env : Env) (es : List Expr) (pos : Pos) (σ : St) (Q : List AV → St → Prop) (E : Str → Prop) : Prop := J G C k env (VRs G.w) (spliced (backTo pos (starEach es env))) σ Q E
theorem J.Lnil {QL : List AV → St → Prop} (h : QL [] σ) : JL G C k env [] pos σ QL E :=
  fun _ _ _ _ _ _ _ I s _ r => spliced_none ⟨[], σ, I, List.Subset.refl I, .nil, r, .refl s, h⟩
theorem J.Lcons {QL : List AV → St → Prop} {e : Expr} {rest : List Expr} (h : JE G C k env e σ (fun v σ₁ => JL G C k env rest pos σ₁ (fun vs σ₂ => QL (v :: vs) σ₂) E) E)
    (he : starEach (e :: rest) env = (false, eval e env) :: starEach rest env := by rfl) : JL G C k env (e :: rest) pos σ QL E := by
  intro fenv A A₀ base B outer L I s c r
  refine spliced_more (h.then c r (.refl s) fun v s₁ a σ₁ I₁ k₁ h₁ r₁ m₁ q₁ => q₁.then c r₁ m₁ fun vs s₂ bs σ₂ I₂ k₂ h₂ r₂ m₂ q => ?_) he
  exact ⟨_, σ₂, I₂, List.Subset.trans k₁ k₂, .cons (h₁.mono k₂) h₂, r₂, m₂, q⟩
theorem VRs.len {w : World} {I : Im} {vs : List AV} : ∀ {ws : List Value}, VRs w I vs ws → ws.length = vs.length := by
  induction vs with
  | nil => intro ws h; rw [h.nilI]; rfl
  | cons v vs ih => intro ws h; obtain ⟨x, xs, rfl, _, h'⟩ := h.consI; exact congrArg (· + 1) (ih h')
theorem J.TupleD {es : List Expr} {n : Nat} (h : JL G C k env es pos σ (TupQ Q) E) : JE G C k env (.Tuple es n pos) σ Q E := by
  intro fenv A A₀ base B outer L I s c r
  refine Tuple_ (h.then c r (.refl s) fun ws s₁ vs σ₁ I₁ k₁ h₁ ⟨own, m, r₁⟩ m₁ ⟨hl, q⟩ => ?_)
  refine wpAny_newObj_type ⟨.tup vs, σ₁, (s₁.heap.objs.size, _) :: I₁, fun p hp => .tail _ (k₁ hp), .tup (.head _) (h₁.mono fun p hp => .tail _ hp), ⟨own, m, r₁.newImm rfl⟩, ⟨m₁.gens, m₁.drawn, m₁.os⟩, q⟩ ?_
  show ws.toArray.size ≤ sizeLine
  rw [List.size_toArray, h₁.len, sizeLine_eq]; omega
theorem J.ListD {es : List Expr} (h : JL G C k env es pos σ (LstQ Q) E) : JE G C k env (.List es pos) σ Q E := by
  intro fenv A A₀ base B outer L I s c r
  refine List_ (h.then c r (.refl s) fun ws s₁ vs σ₁ I₁ k₁ h₁ ⟨own, m, r₁⟩ m₁ ⟨hl, q⟩ => ?_)
  refine wpAny_newObj_type ⟨.ref _, _, I₁, k₁, .ref _, ⟨_, m, r₁.newOwn rfl (.list h₁)⟩, ⟨m₁.gens, m₁.drawn, m₁.os⟩, q _ r₁.fresh⟩ ?_
  show ws.toArray.size ≤ sizeLine
  rw [List.size_toArray, h₁.len, sizeLine_eq]; omega
end
end Mine

namespace Mine

noncomputable def AV.code (v : AV) : Option Value := match v with
  | .ref a => some (.ref a)
  | .bi id => some (.builtin id)
  | .ty n => some (.type n)
  | _ => Option.none
theorem AV.code_of {w : World} {I : Im} {v : AV} {v' u : Value} (h : VR w I v v') (e : v.code = some u) : v' = u := by
  cases v with
  | ref a => rw [h.refI]; exact Option.some.inj e
  | bi a => rw [h.biI]; exact Option.some.inj e
  | ty a => rw [h.tyI]; exact Option.some.inj e
  | _ => cases e
noncomputable def keepsOk (K : Frag) : Value → Bool
  | .ref a => keepIn K (.ref a)
  | _ => true
theorem keeps_ok {K : Frag} {M : Model} {f : Value} (hk : keepsOk K f = true) (h : Heap) (X : K.In h) : ∃ k, (k = Keeper.frame ∨ k = Keeper.machine ∨ k = Keeper.boundFrame) ∧ Looks M h (keeperOf f) k := by
  cases f with
  | ref a => exact keeps_K (f := .ref a) hk h X
  | _ => exact ⟨.machine, .inr (.inl rfl), Looks.of_pure rfl⟩

theorem isStr_eq {k name : Str} {t : Tok} : Value.isStr (.str k t) name = (k == name) := rfl
inductive GetI (w : World) (I : Im) (name : Str) (v : AV) (es : List DictEntry) : Prop
  | mk (e : DictEntry) (v' : Value) (h1 : es.find? (·.key.isStr name) = some e) (h2 : e.val = v') (h3 : VR w I v v')
theorem ERs.get {w : World} {I : Im} {name : Str} {fs : List (Str × AV)} : ∀ {es : List DictEntry}, ERs w I fs es → ∀ v, fs.lookup name = some v → GetI w I name v es := by
  induction fs with
  | nil => intro es _ v e; cases e
  | cons p fs ih =>
    obtain ⟨k, u⟩ := p
    intro es h v e
    obtain ⟨t, x, es', rfl, h1, h2⟩ := h.consI
    simp only [List.lookup] at e
    by_cases q : name = k
    · subst q
      simp only [beq_self_eq_true] at e
      cases e
      exact ⟨⟨PyData.keyHash w.params name, .str name t, x⟩, x, by rw [List.find?_cons]; simp [isStr_eq], rfl, h1⟩
    · have q1 : (name == k) = false := beq_false_of_ne q
      have q2 : Value.isStr (.str k t) name = false := beq_false_of_ne fun e => q e.symm
      rw [q1] at e
      obtain ⟨en, v', h0, h3, h4⟩ := ih h2 v e
      exact ⟨en, v', by rw [List.find?_cons]; simp [q2, h0], h3, h4⟩
theorem ERs.getL {w : World} {I : Im} {name : Str} {fs : List (Str × AV)} {es : List DictEntry} {v : AV} (h : ERs w I fs es) (e : fs.lookup name = some v) : ∃ v', PySem.W.getL name es = some (some v') ∧ VR w I v v' := by
  obtain ⟨en, v', h0, h1, h2⟩ := h.get v e
  exact ⟨v', by unfold PySem.W.getL; rw [h0]; simp [h1], h2⟩
theorem ERs.noRef {w : World} {I : Im} {fs : List (Str × AV)} : ∀ {es : List DictEntry}, ERs w I fs es → es.any (·.refKey) = false := by
  induction fs with
  | nil => intro es h; rw [h.nilI]; rfl
  | cons p fs ih => intro es h; obtain ⟨t, x, es', rfl, h1, h2⟩ := h.consI; rw [List.any_cons, ih h2]; rfl
theorem ERs.missF {w : World} {I : Im} {name : Str} {fs : List (Str × AV)} : ∀ {es : List DictEntry}, ERs w I fs es → fs.lookup name = none → es.find? (·.key.isStr name) = none := by
  induction fs with
  | nil => intro es h _; rw [h.nilI]; rfl
  | cons p fs ih =>
    obtain ⟨k, u⟩ := p
    intro es h e
    obtain ⟨t, x, es', rfl, h1, h2⟩ := h.consI
    simp only [List.lookup] at e
    by_cases q : name = k
    · subst q; simp at e
    · have q1 : (name == k) = false := beq_false_of_ne q
      have q2 : Value.isStr (.str k t) name = false := beq_false_of_ne fun e => q e.symm
      rw [q1] at e
      rw [List.find?_cons]
      simp only [q2]
      exact ih h2 e
theorem ERs.miss {w : World} {I : Im} {name : Str} {fs : List (Str × AV)} {es : List DictEntry} (h : ERs w I fs es) (e : fs.lookup name = none) : PySem.W.getL name es = some none := by
  unfold PySem.W.getL
  rw [h.missF e, h.noRef]
  rfl
theorem ERs.put {w : World} {I : Im} {name : Str} {v : AV} {v' : Value} {t : Tok} (hv : VR w I v v') {fs : List (Str × AV)} : ∀ {es : List DictEntry}, ERs w I fs es →
    ERs w I (setL name v fs) (putL name (PyData.keyHash w.params name) (.str name t) v' es) := by
  induction fs with
  | nil => intro es h; rw [h.nilI]; exact .cons hv .nil
  | cons p fs ih =>
    obtain ⟨k, u⟩ := p
    intro es h
    obtain ⟨t', x, es', rfl, h1, h2⟩ := h.consI
    unfold setL putL
    by_cases q : name = k
    · subst q
      rw [if_pos rfl]
      have : Value.isStr (.str name t') name = true := beq_self_eq_true name
      rw [if_pos this]
      exact .cons hv h2
    · rw [if_neg q]
      have : Value.isStr (.str k t') name = false := beq_false_of_ne fun e => q e.symm
      rw [if_neg (by rw [this]; decide)]
      exact .cons h1 (ih h2)
theorem ERs.len {w : World} {I : Im} {fs : List (Str × AV)} : ∀ {es : List DictEntry}, ERs w I fs es → es.length = fs.length := by
  induction fs with
  | nil => intro es h; rw [h.nilI]; rfl
  | cons p fs ih => intro es h; obtain ⟨t, x, es', rfl, h1, h2⟩ := h.consI; exact congrArg (· + 1) (ih h2)

structure ClsF (K : Frag) (C : Addr) : Prop where
  ga : plainGet K C "" = true
  dict : hasDictIn K C = true
  sa : findIn K (.ref C) "__setattr__" = some (some (.builtin "object.__setattr__"))
  over : plainOver K C = true
noncomputable def freeAt (K : Frag) (C : Addr) (name : Str) : Prop := findIn K (.ref C) name = some none
structure MethF (K : Frag) (C : Addr) (name : Str) (f : Addr) : Prop where
  find : findIn K (.ref C) name = some (some (.ref f))
  fn : isFn K (.ref f) = true
  keep : keepIn K (.ref f) = true

noncomputable def AV.notBi : AV → Bool
  | .bi _ => false
  | _ => true
theorem VR.handed {w : World} {I : Im} {v : AV} {v' : Value} (h : VR w I v v') (hn : v.notBi = true) : handedIn v' = true := by
  cases h <;> first | rfl | cases hn

section
variable {G : Cfg} {C : Addr} {k : Nat} {env : Env} {σ : St} {E : Str → Prop} {Q : AV → St → Prop} {QB : Bool → St → Prop} {QF : AF → St → Prop} {x : Str} {pos : Pos}

noncomputable def Cl (G : Cfg) (C : Addr) (k : Nat) (f : Value) (args : List AV) (H : Hp) (Q : AV → Hp → Prop) (E : Str → Prop) : Prop :=
  ∀ (env fenv : Env) (loc : List (Str × AV)) (A A₀ : Around) (base B : Heap) (outer : List Env) (L : Addr) (I : Im) (s : Shared) (ws : List Value),
    Cx G k env fenv A A₀ base B outer L → Rel G B L I ⟨loc, H⟩ s.heap → VRs G.w I args ws →
    wpAny (model G.prog G.w) A (call f ws) (PQ G B L I s (VR G.w) (fun b σ' => σ'.loc = loc ∧ Q b σ'.H)) (PE G C base (fenv :: outer) B L s E) s
theorem Fn.cl {f : Value} {args : List AV} {H : Hp} {Q : AV → Hp → Prop} (h : Fn G C k f args H Q E) : Cl G C k f args H Q E :=
  fun env fenv loc A A₀ base B outer L I s ws c r hv => wpAny_call (h env fenv loc A A₀ base B outer L I I s s ws _ c r hv (List.Subset.refl I) (.refl s) (fun _ _ z => z) fun _ _ z => z)
theorem Fn.clUp {f : Value} {args : List AV} {H : Hp} {Q : AV → Hp → Prop} {n : Nat} (h : Fn G C n f args H Q E) (hn : n ≤ k := by decide) : Cl G C k f args H Q E := (h.up hn).cl
theorem Cl.use {f : Value} {args : List AV} {fenv : Env} {A A₀ : Around} {base B : Heap} {outer : List Env} {L : Addr} {I I₁ : Im} {s s₁ : Shared} {ws : List Value}
    (h : Cl G C k f args σ.H (fun b H' => Q b ⟨σ.loc, H'⟩) E) (c : Cx G k env fenv A A₀ base B outer L) (r : Rel G B L I₁ σ s₁.heap) (hv : VRs G.w I₁ args ws) (hI : I ⊆ I₁) (hs : Same s s₁) :
    wpAny (model G.prog G.w) A (call f ws) (PQ G B L I s (VR G.w) Q) (PE G C base (fenv :: outer) B L s E) s₁ :=
  wpAny_mono (h env fenv σ.loc A A₀ base B outer L I₁ s₁ ws c r hv) (fun v s' ⟨b, ⟨loc', H'⟩, I', a1, a2, a3, a4, a5, a6⟩ => by subst a5; exact ⟨b, _, I', List.Subset.trans hI a1, a2, a3, hs.trans a4, a6⟩) (fun e s' z => z.lift hs)

theorem args_any {f : Value} {tr : List (Bool × Sem Value)} {A : Around} {s : Shared} {P : Args → Shared → Prop} {Ex : Value → Shared → Prop} {M : Model} (hp : tr.any (·.1) = false)
    (h : wpAny M A (spliced tr) (fun vs s₂ => P ⟨vs, []⟩ s₂) Ex s) : wpAny M A (evalArgs f true tr []) P Ex s := by
  cases tr with
  | nil =>
    unfold evalArgs
    show wpAny M A (spliced [] >>= _) P Ex s
    refine wpAny_bind (wpAny_mono h (fun vs s' h' => ?_) fun _ _ x => x)
    refine wpAny_bind (wpAny_pure (wpAny_holding ?_))
    exact wpAny_bind (wpAny_pure (wpAny_bind (wpAny_pure (wpAny_pure h'))))
  | cons t ts =>
    obtain ⟨b, t⟩ := t
    have : b = false := by simp only [List.any_cons, Bool.or_eq_false_iff] at hp; exact hp.1
    subst this
    exact evalArgs_plain h
inductive CallQ (G : Cfg) (C : Addr) (k : Nat) (env : Env) (args : List Expr) (pos : Pos) (Q : AV → St → Prop) (E : Str → Prop) (f : AV) (σ : St) : Prop
  | mk (fv : Value) (h1 : f.code = some fv) (h2 : keepsOk G.K fv = true) (h3 : JL G C k env args pos σ (fun vs σ₂ => Cl G C k fv vs σ₂.H (fun b H' => Q b ⟨σ₂.loc, H'⟩) E) E)
theorem J.Call {id : Str} {np : Pos} {args : List Expr} (h : JE G C k env (.Name id np) σ (CallQ G C k env args pos Q E) E)
    (hp : (backTo pos (starEach args env)).any (·.1) = false := by rfl) : JE G C k env (.Call (.Name id np) args [] pos) σ Q E := by
  intro fenv A A₀ base B outer L I s c r
  rw [arm_eval_Call_Name']
  refine wpAny_bind (h.then c r (.refl s) fun v s₁ a σ₁ I₁ k₁ h₁ r₁ m₁ ⟨fv, q1, q2, q3⟩ => ?_)
  have e := AV.code_of h₁ q1
  subst e
  refine callWith_of (P := G.K.In) (by rw [hp]; rfl) (keeps_ok q2) (args_any hp ?_)
  exact q3.then c r₁ m₁ fun vs s₂ bs σ₂ I₂ k₂ h₂ r₂ m₂ q => ⟨(r₂.gf c.gf).X, q.use c r₂ h₂ (List.Subset.trans k₁ k₂) m₂⟩

theorem RelW.updK {B : Heap} {L : Addr} {I : Im} {h h' : Heap} {own : List (Addr × Obj)} {m : Str → Option Value} {d : Addr} {o' : Obj} {ao : AO} (r : RelW G B L I σ h own m) (hd : ∃ o, (d, o) ∈ own)
    (F : Fr B L h' m) (N : News B L h' ((d, o') :: (own.filter (fun p => decide (p.1 ≠ d)) ++ I))) (hr : OR G.w I ao o') : RelW G B L I ⟨σ.loc, σ.H.set d ao⟩ h' ((d, o') :: own.filter fun p => decide (p.1 ≠ d)) m := by
  refine ⟨F, N, fun p hp q hq => ?_, fun a x e => ?_, r.locs⟩
  · rcases List.mem_cons.mp hp with rfl | hp
    · obtain ⟨o, ho⟩ := hd; exact r.apart (d, o) ho q hq
    · exact r.apart p (List.mem_filter.mp hp).1 q hq
  · simp only [Hp.set] at e
    split at e
    · rename_i q; subst q; cases e; exact ⟨o', .head _, hr⟩
    · rename_i q
      obtain ⟨o, h1, h2⟩ := r.objs a x e
      exact ⟨o, .tail _ (List.mem_filter.mpr ⟨h1, by simp [q]⟩), h2⟩
theorem RelW.pick {B : Heap} {L : Addr} {I : Im} {h : Heap} {own : List (Addr × Obj)} {m : Str → Option Value} {d : Addr} {o : Obj} (r : RelW G B L I σ h own m) (hd : (d, o) ∈ own) :
    News B L h ((d, o) :: (own.filter (fun p => decide (p.1 ≠ d)) ++ I)) ∧ ∀ p ∈ own.filter (fun p => decide (p.1 ≠ d)) ++ I, p.1 ≠ d := by
  refine ⟨fun p hp => ?_, fun p hp => ?_⟩
  · rcases List.mem_cons.mp hp with rfl | hp
    · exact r.N _ (List.mem_append_left _ hd)
    · rcases List.mem_append.mp hp with hp | hp
      · exact r.N _ (List.mem_append_left _ (List.mem_filter.mp hp).1)
      · exact r.N _ (List.mem_append_right _ hp)
  · rcases List.mem_append.mp hp with hp | hp
    · simpa using (List.mem_filter.mp hp).2
    · exact Ne.symm (r.apart _ hd p hp)

structure IsI (H : Hp) (x C d : Addr) (fs : List (Str × AV)) : Prop where
  i : H x = some (.inst C d)
  f : H d = some (.dict fs)
theorem IsI.at {B : Heap} {L : Addr} {I : Im} {h : Heap} {own : List (Addr × Obj)} {m : Str → Option Value} {x D d : Addr} {fs : List (Str × AV)} (i : IsI σ.H x D d fs) (r : RelW G B L I σ h own m) :
    ∃ es n, InstAt h x (instObj D d) D (some (dictOf es n)) ∧ (d, dictOf es n) ∈ own ∧ ERs G.w I fs es := by
  obtain ⟨o1, a1, a2⟩ := r.objs _ _ i.i
  obtain ⟨o2, b1, b2⟩ := r.objs _ _ i.f
  obtain rfl := a2.instI
  obtain ⟨_, _, rfl, b3⟩ := b2.dictI
  exact ⟨_, _, InstAt.of_news r.N (List.mem_append_left _ a1) (List.mem_append_left _ b1), b1, b3⟩

inductive AttQ (K : Frag) (attr : Str) (Q : AV → St → Prop) (ov : AV) (σ : St) : Prop
  | mk (x D d : Addr) (fs : List (Str × AV)) (v : AV) (h1 : ov = .ref x) (h2 : IsI σ.H x D d fs) (h3 : fs.lookup attr = some v) (h4 : ClsF K D) (h5 : freeAt K D attr) (h6 : v.notBi = true) (h7 : Q v σ)
inductive AttZ (K : Frag) (attr : Str) (Q : AV → St → Prop) (ov : AV) (σ : St) : Prop
  | mk (D : Addr) (fs : List (Str × AV)) (v : AV) (h1 : ov = .frz D fs) (h3 : fs.lookup attr = some v) (h4 : ClsF K D) (h5 : freeAt K D attr) (h6 : v.notBi = true) (h7 : Q v σ)
inductive SetQ (K : Frag) (attr : Str) (v : AV) (Q : AF → St → Prop) (ov : AV) (σ : St) : Prop
  | mk (x D d : Addr) (fs : List (Str × AV)) (h1 : ov = .ref x) (h2 : IsI σ.H x D d fs) (h3 : ClsF K D) (h4 : freeAt K D attr) (h5 : fs.length ≤ 100) (h6 : Q .next ⟨σ.loc, σ.H.set d (.dict (setL attr v fs))⟩)
inductive MetQ (G : Cfg) (C : Addr) (k : Nat) (env : Env) (name : Str) (args : List Expr) (pos : Pos) (Q : AV → St → Prop) (E : Str → Prop) (ov : AV) (σ : St) : Prop
  | mk (x D d : Addr) (fs : List (Str × AV)) (f : Addr) (h1 : ov = .ref x) (h2 : IsI σ.H x D d fs) (h3 : fs.lookup name = none) (h4 : ClsF G.K D) (h5 : MethF G.K D name f)
      (h6 : JL G C k env args pos σ (fun vs σ₂ => Cl G C k (.ref f) (.ref x :: vs) σ₂.H (fun b H' => Q b ⟨σ₂.loc, H'⟩) E) E)
theorem J.AttrI {value : Expr} {attr : Str} (h : JE G C k env value σ (AttQ G.K attr Q) E)
    (he : eval (.Attribute value attr pos) env = (do
      let o ← eval value env
      standAt pos.atName
      let r ← holding [o] (getAttr o attr true)
      letTemporaryGo value o r
      pure r) := by with_unfolding_all rfl) : JE G C k env (.Attribute value attr pos) σ Q E := by
  intro fenv A A₀ base B outer L I s c r
  refine Attribute_any_ (h.then c r (.refl s) fun v s₁ a σ₁ I₁ k₁ h₁ ⟨own, m, r₁⟩ m₁ ⟨x, D, d, fs, u, q1, q2, q3, q4, q5, q6, q7⟩ => ?_) he
  subst q1
  obtain rfl := h₁.refI
  obtain ⟨es, n, i1, i2, i3⟩ := q2.at r₁
  obtain ⟨u', e1, e2⟩ := i3.getL q3
  exact get_own r₁.F c.gf.X i1 q4.ga q4.dict q5 rfl e1 (e2.handed q6) ⟨u, σ₁, I₁, k₁, e2, ⟨own, m, r₁⟩, ⟨m₁.gens, m₁.drawn, m₁.os⟩, q7⟩
theorem J.AttrZ {value : Expr} {attr : Str} (h : JE G C k env value σ (AttZ G.K attr Q) E)
    (he : eval (.Attribute value attr pos) env = (do
      let o ← eval value env
      standAt pos.atName
      let r ← holding [o] (getAttr o attr true)
      letTemporaryGo value o r
      pure r) := by with_unfolding_all rfl) : JE G C k env (.Attribute value attr pos) σ Q E := by
  intro fenv A A₀ base B outer L I s c r
  refine Attribute_any_ (h.then c r (.refl s) fun v s₁ a σ₁ I₁ k₁ h₁ ⟨own, m, r₁⟩ m₁ ⟨D, fs, u, q1, q3, q4, q5, q6, q7⟩ => ?_) he
  subst q1
  obtain ⟨_, _, _, _, rfl, hx, hd, hf⟩ := h₁.frzI
  · obtain ⟨u', e1, e2⟩ := hf.getL q3
    exact get_own r₁.F c.gf.X (InstAt.of_news r₁.N (List.mem_append_right _ hx) (List.mem_append_right _ hd)) q4.ga q4.dict q5 rfl e1 (e2.handed q6) ⟨u, σ₁, I₁, k₁, e2, ⟨own, m, r₁⟩, ⟨m₁.gens, m₁.drawn, m₁.os⟩, q7⟩
theorem J.AssignA {e o : Expr} {attr : Str} {pos' : Pos} (h : JE G C k env e σ (fun v σ₁ => JE G C k env o σ₁ (SetQ G.K attr v QF) E) E)
    (hs : swapsWith e (some (.Attribute o attr pos')) pos.line env = pure false := by rfl) : J1 G C k env (.Assign [.Attribute o attr pos'] e pos) σ QF E := by
  intro fenv A A₀ base B outer L I s c r
  refine plainObj_wpAny_Assign_Attribute (h.then c r (.refl s) fun v' s₁ v σ₁ I₁ k₁ h₁ r₁ m₁ q₁ => q₁.then c r₁ m₁ fun ov s₂ b σ₂ I₂ k₂ h₂ ⟨own, m, r₂⟩ m₂ ⟨x, D, d, fs, q1, q2, q4, q5, q6, q7⟩ => ?_) hs
  subst q1
  obtain rfl := h₂.refI
  obtain ⟨es, n, i1, i2, i3⟩ := q2.at r₂
  obtain ⟨p1, p2⟩ := r₂.pick i2
  have hl : (PySem.W.getL attr es).isSome = true := by
    cases z : fs.lookup attr with
    | none => rw [i3.miss z]; rfl
    | some u => obtain ⟨u', e1, _⟩ := i3.getL z; rw [e1]; rfl
  have ht : takerIn G.K D attr = some none := by unfold takerIn; rw [show findIn G.K (.ref D) attr = some none from q5]; rfl
  have hp := i3.put (name := attr) (t := s₂.toks + 1) (h₁.mono k₂)
  refine set_dict r₂.F c.gf.X p1 i1 rfl q4.sa q4.over ht q4.dict hl rfl (.head p2) ?_ fun h' F' N' => ?_
  · rw [hp.len]
    have : ∀ (l : List (Str × AV)), (setL attr v l).length ≤ l.length + 1 := by
      intro l
      induction l with
      | nil => simp [setL]
      | cons p l ih => obtain ⟨y, u⟩ := p; unfold setL; split <;> simp_all
    have := this fs
    omega
  · exact ⟨.next, _, I₂, List.Subset.trans k₁ k₂, .next, ⟨_, m, r₂.updK ⟨_, i2⟩ F' N' (.dict hp)⟩, ⟨m₂.gens, m₂.drawn, m₂.os⟩, q7⟩

theorem J.MethI {o : Expr} {name : Str} {apos : Pos} {args : List Expr} {pl : Sem Bool}
    (h : JE G C k env o σ (MetQ G C k env name args pos Q E) E)
    (hp : (backTo pos (starEach args env)).any (·.1) = false := by rfl)
    (he : eval (.Call (.Attribute o name apos) args [] pos) env = (do
      let ov ← eval o env
      standAt apos.atName
      let (f, first) ← holding [ov] (getMethod ov name pl)
      callWith pos f first (backTo pos (starEach args env)) []) := by rfl) : JE G C k env (.Call (.Attribute o name apos) args [] pos) σ Q E := by
  intro fenv A A₀ base B outer L I s c r
  refine MethodCall_ (pl := pl) (h.then c r (.refl s) fun v s₁ a σ₁ I₁ k₁ h₁ ⟨own, m, r₁⟩ m₁ ⟨x, D, d, fs, f, q1, q2, q3, q4, q5, q6⟩ => ?_) he
  subst q1
  obtain rfl := h₁.refI
  obtain ⟨es, n, i1, i2, i3⟩ := q2.at r₁
  refine method_inst r₁.F c.gf.X i1 q4.ga q5.find q5.fn (i3.miss q3) ?_
  refine callWith_of (P := G.K.In) (by rw [hp]; rfl) (keeps_K q5.keep) (args_any hp ?_)
  exact q6.then c ⟨own, m, r₁⟩ m₁ fun vs s₂ bs σ₂ I₂ k₂ h₂ r₂ m₂ q => ⟨(r₂.gf c.gf).X, q.use c r₂ (.cons (.ref x) h₂) (List.Subset.trans k₁ k₂) m₂⟩

structure MakeF (K : Frag) (D fI : Addr) : Prop where
  makes : makesIn K D = true
  init : findIn K (.ref D) "__init__" = some (some (.ref fI))
  fn : typeIn K (.ref fI) = some (.type "function")
theorem Fn.make {D fI : Addr} {args : List AV} {H : Hp} {Q : AV → Hp → Prop} (hm : MakeF G.K D fI)
    (h : ∀ x d, H x = none → H d = none → x ≠ d → Fn G C k (.ref fI) (.ref x :: args) ((H.set d (.dict [])).set x (.inst D d)) (fun v H' => v = .none ∧ Q (.ref x) H') E) : Fn G C (k + 1) (.ref D) args H Q E := by
  intro env fenv loc A A₀ base B outer L I I₁ s s₁ ws R c r hv hI hs h1 h2
  obtain ⟨own, m, r⟩ := r
  refine make_K r.F r.N (r.gf c.gf).X hm.makes hm.init hm.fn fun x d h' F' N' l1 l2 => ?_
  have hx : H x = none := by
    cases e : H x with
    | none => rfl
    | some ao => obtain ⟨o, h1, _⟩ := r.objs _ _ e; exact absurd (Nat.lt_trans (l1 _ (List.mem_append_left _ h1)) l2) (Nat.lt_irrefl _)
  have hd : H d = none := by
    cases e : H d with
    | none => rfl
    | some ao => obtain ⟨o, h1, _⟩ := r.objs _ _ e; exact absurd (l1 _ (List.mem_append_left _ h1)) (Nat.lt_irrefl _)
  have hxd : x ≠ d := Nat.ne_of_gt l2
  have r' : Rel G B L I₁ ⟨loc, (H.set d (.dict [])).set x (.inst D d)⟩ h' := by
    refine ⟨(x, instObj D d) :: (d, emptyDict) :: own, m, F', N', fun p hp q hq => ?_, fun a ao e => ?_, r.locs⟩
    · have lq := l1 q (List.mem_append_right _ hq)
      rcases List.mem_cons.mp hp with rfl | hp
      · exact Nat.ne_of_gt (Nat.lt_trans lq l2)
      · rcases List.mem_cons.mp hp with rfl | hp
        · exact Nat.ne_of_gt lq
        · exact r.apart p hp q hq
    · simp only [Hp.set] at e
      split at e
      · rename_i q; subst q; cases e; exact ⟨_, .head _, .inst _ _⟩
      · split at e
        · rename_i q; subst q; cases e; exact ⟨_, .tail _ (.head _), .dict (es := []) (n := 0) .nil⟩
        · obtain ⟨o, h1, h2⟩ := r.objs a ao e; exact ⟨o, .tail _ (.tail _ h1), h2⟩
  have c' : Cx G k env fenv (A.under (.builtin "type.__call__" ⟨.ref D :: ws, []⟩)) A₀ base B outer L :=
    ⟨⟨by have := c.ok.d; show A.depth + 1 + k ≤ 900; omega, by have := c.ok.u; show A.units + 1 + 8 * k ≤ 9000; omega⟩, c.fr, c.hf, c.hl, c.hk, c.hkf, c.hh, c.hg, c.hb, c.below, c.gf⟩
  refine h x d hx hd hxd env fenv loc _ A₀ base B outer L I I₁ s { s₁ with heap := h' } _ _ c' r' (.cons (.ref x) hv) hI ⟨hs.gens, hs.drawn, hs.os⟩ (fun v s' ⟨b, σ', I', a1, a2, a3, a4, a5, a6, a7⟩ => ?_) (fun e s' z => h2 e s' z)
  subst a6
  obtain rfl := a2.noneI
  exact ⟨rfl, h1 _ _ ⟨.ref x, σ', I', a1, .ref x, a3, a4, a5, a7⟩⟩
inductive MadeQ (D x d : Addr) (H : Hp) (Q : AV → Hp → Prop) (H' : Hp) : Prop
  | mk (fs : List (Str × AV)) (h1 : H' x = some (.inst D d)) (h2 : H' d = some (.dict fs)) (h3 : ∀ a, a ≠ x → a ≠ d → H' a = H a) (h4 : Q (.frz D fs) H)
inductive MadeR (D : Addr) (H : Hp) (Q : AV → Hp → Prop) (v : AV) (H' : Hp) : Prop
  | mk (x d : Addr) (fs : List (Str × AV)) (h1 : v = .ref x) (h2 : H x = none) (h3 : H d = none) (h4 : x ≠ d) (h5 : H' x = some (.inst D d)) (h6 : H' d = some (.dict fs)) (h7 : ∀ a, a ≠ x → a ≠ d → H' a = H a) (h8 : Q (.frz D fs) H)
theorem Fn.makeZ {D fI : Addr} {args : List AV} {H : Hp} {Q : AV → Hp → Prop} (hm : MakeF G.K D fI)
    (h : ∀ x d, H x = none → H d = none → x ≠ d → Fn G C k (.ref fI) (.ref x :: args) ((H.set d (.dict [])).set x (.inst D d))
      (fun v H' => v = .none ∧ MadeQ D x d H Q H') E) : Fn G C (k + 1) (.ref D) args H Q E := by
  have key := Fn.make (G := G) (C := C) (k := k) (E := E) (args := args) (H := H) hm (Q := MadeR D H Q)
    (fun x d hx hd hxd => (h x d hx hd hxd).mono (fun v H' ⟨q1, fs, q2, q3, q4, q5⟩ => ⟨q1, x, d, fs, rfl, hx, hd, hxd, q2, q3, q4, q5⟩) fun _ z => z)
  intro env fenv loc A A₀ base B outer L I I₁ s s₁ ws R c r hv hI hs h1 h2
  refine key env fenv loc A A₀ base B outer L I I₁ s s₁ ws R c r hv hI hs (fun v s' ⟨b, σ', I', a1, a2, ⟨own, m, r'⟩, a4, a5, x, d, fs, q1, q2, q3, q4, q5, q6, q7, q8⟩ => ?_) h2
  subst q1
  obtain rfl := a2.refI
  obtain ⟨o1, b1, b2⟩ := r'.objs _ _ q5
  obtain ⟨o2, b3, b4⟩ := r'.objs _ _ q6
  obtain rfl := b2.instI
  obtain ⟨_, _, rfl, b5⟩ := b4.dictI
  · have f := r'.freeze b1 b3
    have f' := f.weak (σ' := ⟨loc, H⟩) (fun a ao e => by
      have e : H a = some ao := e
      have n1 : a ≠ x := fun q => by rw [q, q2] at e; cases e
      have n2 : a ≠ d := fun q => by rw [q, q3] at e; cases e
      show ((σ'.H.drop x).drop d) a = some ao
      simp only [Hp.drop, n1, n2, if_false]
      rw [q7 a n1 n2]; exact e) (fun y u e => by rw [← a5] at e; exact e)
    exact h1 _ _ ⟨.frz D fs, _, _, fun p hp => .tail _ (.tail _ (a1 hp)), .frz (.head _) (.tail _ (.head _)) (b5.mono fun p hp => .tail _ (.tail _ hp)), ⟨_, m, f'⟩, a4, rfl, q8⟩
end
end Mine

namespace Mine

theorem VRs.at {w : World} {I : Im} {vs : List AV} : ∀ {ws : List Value}, VRs w I vs ws → ∀ {j : Nat} {v : AV}, vs[j]? = some v → ∃ v', ws[j]? = some v' ∧ VR w I v v' := by
  induction vs with
  | nil => intro ws _ j v e; rw [List.getElem?_nil] at e; cases e
  | cons u vs ih =>
    intro ws h j v e
    obtain ⟨x, xs, rfl, h1, h2⟩ := h.consI
    cases j with
    | zero => cases e; exact ⟨_, rfl, h1⟩
    | succ j => exact ih h2 (j := j) e
theorem VRs.append {w : World} {I : Im} {vs us : List AV} {xs : List Value} (h' : VRs w I us xs) : ∀ {ws : List Value}, VRs w I vs ws → VRs w I (vs ++ us) (ws ++ xs) := by
  induction vs with
  | nil => intro ws h; rw [h.nilI]; exact h'
  | cons u vs ih => intro ws h; obtain ⟨x, xs, rfl, h1, h2⟩ := h.consI; exact .cons h1 (ih h2)
theorem VRs.set {w : World} {I : Im} {v : AV} {v' : Value} (hv : VR w I v v') {vs : List AV} : ∀ {ws : List Value}, VRs w I vs ws → ∀ j, VRs w I (vs.set j v) (ws.set j v') := by
  induction vs with
  | nil => intro ws h j; rw [h.nilI]; exact .nil
  | cons u vs ih =>
    intro ws h j
    obtain ⟨x, xs, rfl, h1, h2⟩ := h.consI
    cases j with
    | zero => exact .cons hv h2
    | succ j => exact .cons h1 (ih h2 j)

section
variable {G : Cfg} {C : Addr} {k : Nat} {env : Env} {σ : St} {E : Str → Prop} {Q : AV → St → Prop} {QB : Bool → St → Prop} {QF : AF → St → Prop} {x : Str} {pos : Pos} {H : Hp} {QC : AV → Hp → Prop}

theorem RelW.listAt {B : Heap} {L : Addr} {I : Im} {h : Heap} {own : List (Addr × Obj)} {m : Str → Option Value} {l : Addr} {vs : List AV} (r : RelW G B L I σ h own m) (hl : σ.H l = some (.list vs)) :
    ∃ ws n, (l, listOf ws.toArray n) ∈ own ∧ VRs G.w I vs ws ∧ h.get? l = some (listOf ws.toArray n) := by
  obtain ⟨o, a1, a2⟩ := r.objs _ _ hl
  obtain ⟨_, _, rfl, a3⟩ := a2.listI
  exact ⟨_, _, a1, a3, (r.N _ (List.mem_append_left _ a1)).1⟩

theorem Cl.lenS {x : Str} (hx : x.length ≤ sizeLine) (h : QC (.int x.length) H) : Cl G C k (.builtin "len") [.str x] H QC E := by
  intro env fenv loc A A₀ base B outer L I s ws c r hv
  obtain ⟨_, rfl, h1⟩ := hv.one; obtain ⟨_, rfl⟩ := h1.strI; exact PyProof.Rows.len_str (by rw [sizeLine_eq] at hx; omega) ⟨_, _, I, List.Subset.refl I, .int _ _, r, ⟨rfl, rfl, rfl⟩, rfl, h⟩
theorem Cl.lenL {l : Addr} {vs : List AV} (hl : H l = some (.list vs)) (hs : vs.length ≤ sizeLine) (h : QC (.int vs.length) H) : Cl G C k (.builtin "len") [.ref l] H QC E := by
  intro env fenv loc A A₀ base B outer L I s ws c ⟨own, m, r⟩ hv
  obtain ⟨_, rfl, h1⟩ := hv.one
  obtain rfl := h1.refI
  · obtain ⟨us, n, a1, a2, a3⟩ := r.listAt hl
    refine PyProof.Rows.len_list ⟨_, a3, rfl, _, rfl⟩ (by rw [List.size_toArray, a2.len]; rw [sizeLine_eq] at hs; omega) ?_
    rw [List.size_toArray, a2.len]
    exact ⟨_, _, I, List.Subset.refl I, .int _ _, ⟨own, m, r⟩, ⟨rfl, rfl, rfl⟩, rfl, h⟩
theorem Cl.lenT {vs : List AV} (hs : vs.length ≤ sizeLine) (h : QC (.int vs.length) H) : Cl G C k (.builtin "len") [.tup vs] H QC E := by
  intro env fenv loc A A₀ base B outer L I s ws c ⟨own, m, r⟩ hv
  obtain ⟨_, rfl, h1⟩ := hv.one
  obtain ⟨_, _, _, rfl, hm, ht⟩ := h1.tupI
  · · refine PyProof.Rows.len_tuple ⟨_, r.imm hm, rfl, _, rfl⟩ (by rw [List.size_toArray, ht.len]; rw [sizeLine_eq] at hs; omega) ?_
      rw [List.size_toArray, ht.len]
      exact ⟨_, _, I, List.Subset.refl I, .int _ _, ⟨own, m, r⟩, ⟨rfl, rfl, rfl⟩, rfl, h⟩
theorem Cl.abs {a : Int} (h : QC (.int (if a < 0 then -a else a)) H) : Cl G C k (.builtin "abs") [.int a] H QC E := by
  intro env fenv loc A A₀ base B outer L I s ws c r hv
  obtain ⟨_, rfl, h1⟩ := hv.one; obtain ⟨_, rfl⟩ := h1.intI; exact PyProof.Rows.call_abs_int fun u tk => ⟨_, _, I, List.Subset.refl I, .int _ _, r, ⟨rfl, rfl, rfl⟩, rfl, h⟩
theorem Cl.int {a : Int} (h : QC (.int a) H) : Cl G C k (.type "int") [.int a] H QC E := by
  intro env fenv loc A A₀ base B outer L I s ws c r hv
  obtain ⟨_, rfl, h1⟩ := hv.one; obtain ⟨_, rfl⟩ := h1.intI; exact PySem.call_int_int ⟨_, _, I, List.Subset.refl I, .int _ _, r, ⟨rfl, rfl, rfl⟩, rfl, h⟩
theorem Cl.append {l : Addr} {vs : List AV} {v : AV} (hl : H l = some (.list vs)) (hs : vs.length ≤ sizeLine) (h : QC .none (H.set l (.list (vs ++ [v])))) : Cl G C k (.builtin "list.append") [.ref l, v] H QC E := by
  intro env fenv loc A A₀ base B outer L I s ws c ⟨own, m, r⟩ hv
  obtain ⟨_, _, rfl, h1, h2⟩ := hv.two
  obtain rfl := h1.refI
  · · obtain ⟨us, n, a1, a2, a3⟩ := r.listAt hl
      obtain ⟨p1, p2⟩ := r.pick a1
      refine append_K r.F p1 (.head p2) (fun h' F' N' => ?_) (by rw [List.size_toArray, a2.len]; exact hs)
      have e : ∀ y : Value, us.toArray.push y = (us ++ [y]).toArray := fun y => by simp
      rw [e] at N'
      exact ⟨.none, _, I, List.Subset.refl I, .none, ⟨_, m, r.updK ⟨_, a1⟩ F' N' (.list (VRs.append (.cons h2 .nil) a2))⟩, ⟨rfl, rfl, rfl⟩, rfl, h⟩

-- subscripts
inductive ItT (o iv : AV) (Q : AV → St → Prop) (σ : St) : Prop
  | mk (vs : List AV) (n : Int) (j : Nat) (v : AV) (h1 : o = .tup vs) (h2 : iv = .int n) (h3 : -(2 ^ 63) ≤ n) (h4 : n < 2 ^ 63) (h5 : seqIndex? n vs.length = some j) (h6 : vs[j]? = some v) (h7 : Q v σ)
inductive ItL (o iv : AV) (Q : AV → St → Prop) (σ : St) : Prop
  | mk (l : Addr) (vs : List AV) (n : Int) (v : AV) (h1 : o = .ref l) (h2 : iv = .int n) (h3 : σ.H l = some (.list vs)) (h4 : 0 ≤ n) (h5 : n < 2 ^ 63) (h6 : vs[n.toNat]? = some v) (h7 : Q v σ)
inductive ItS (o iv : AV) (Q : AV → St → Prop) (σ : St) : Prop
  | mk (x : Str) (n : Int) (c : Nat) (h1 : o = .str x) (h2 : iv = .int n) (h3 : -(2 ^ 63) ≤ n) (h4 : n < 2 ^ 63) (h5 : (seqIndex? n x.length).bind (x.cps[·]?) = some c) (h6 : Q (.str ⟨#[c]⟩) σ)
inductive SlS (o a b : AV) (Q : AV → St → Prop) (σ : St) : Prop
  | mk (x : Str) (i j : Int) (h1 : o = .str x) (h2 : a = .int i) (h3 : b = .int j) (h4 : x.length ≤ sizeLine) (h5 : Q (.str (Txt.slice x (some i) (some j))) σ)
theorem J.ItemT {value i : Expr} (h : JE G C k env value σ (fun o σ₁ => JE G C k env i σ₁ (fun iv σ₂ => ItT o iv Q σ₂) E) E)
    (hs : ∀ a b, subscripted i false a b = operate [a, b] (getItem a b) := by intro _ _; rfl) : JE G C k env (.Subscript value i pos) σ Q E := by
  intro fenv A A₀ base B outer L I s c r
  refine Subscript_ (h.then c r (.refl s) fun o s₁ a σ₁ I₁ k₁ h₁ r₁ m₁ q₁ => q₁.then c r₁ m₁ fun iv s₂ b σ₂ I₂ k₂ h₂ r₂ m₂ ⟨vs, n, j, v, e1, e2, e3, e4, e5, e6, q⟩ => ?_)
  subst e1; subst e2
  obtain ⟨_, rfl⟩ := h₂.intI
  have h₁' := h₁.mono k₂
  obtain ⟨_, _, _, rfl, hm, ht⟩ := h₁'.tupI
  · obtain ⟨v', f1, f2⟩ := ht.at e6
    exact item_tupleT ⟨_, r₂.imm hm, rfl, _, rfl⟩ e3 e4 (by rw [ht.len]; exact e5) f1 ⟨v, σ₂, I₂, List.Subset.trans k₁ k₂, f2, r₂, m₂, q⟩ (hs _ _)
theorem J.ItemL {value i : Expr} (h : JE G C k env value σ (fun o σ₁ => JE G C k env i σ₁ (fun iv σ₂ => ItL o iv Q σ₂) E) E)
    (hs : ∀ a b, subscripted i false a b = operate [a, b] (getItem a b) := by intro _ _; rfl) : JE G C k env (.Subscript value i pos) σ Q E := by
  intro fenv A A₀ base B outer L I s c r
  refine Subscript_ (h.then c r (.refl s) fun o s₁ a σ₁ I₁ k₁ h₁ r₁ m₁ q₁ => q₁.then c r₁ m₁ fun iv s₂ b σ₂ I₂ k₂ h₂ ⟨own, m, r₂⟩ m₂ ⟨l, vs, n, v, e1, e2, e3, e4, e5, e6, q⟩ => ?_)
  subst e1; subst e2
  obtain ⟨_, rfl⟩ := h₂.intI; obtain rfl := h₁.refI
  obtain ⟨us, n, a1, a2, a3⟩ := r₂.listAt e3
  obtain ⟨v', f1, f2⟩ := a2.at e6
  have hl : s₂.heap.IsList l us.toArray := ⟨_, a3, rfl, _, rfl⟩
  exact tail_any hl.typeIs slot_list_getitem.lookup (wpAny_getItem_list hl e4 e5 (by simpa using f1) ⟨v, σ₂, I₂, List.Subset.trans k₁ k₂, f2, ⟨own, m, r₂⟩, m₂, q⟩) (hs _ _)
theorem J.ItemS {value i : Expr} (h : JE G C k env value σ (fun o σ₁ => JE G C k env i σ₁ (fun iv σ₂ => ItS o iv Q σ₂) E) E)
    (hs : ∀ a b, subscripted i false a b = operate [a, b] (getItem a b) := by intro _ _; rfl) : JE G C k env (.Subscript value i pos) σ Q E := by
  intro fenv A A₀ base B outer L I s c r
  refine Subscript_ (h.then c r (.refl s) fun o s₁ a σ₁ I₁ k₁ h₁ r₁ m₁ q₁ => q₁.then c r₁ m₁ fun iv s₂ b σ₂ I₂ k₂ h₂ r₂ m₂ ⟨x, n, cc, e1, e2, e3, e4, e5, q⟩ => ?_)
  subst e1; subst e2
  obtain ⟨_, rfl⟩ := h₂.intI; obtain ⟨_, rfl⟩ := h₁.strI
  exact tail_any (typeIs_str _ _ _) slot_str_getitem.lookup (PyProof.Rows.getItem_str (by simp only [Bool.or_eq_false_iff, decide_eq_false_iff_not]; omega) e5 ⟨_, σ₂, I₂, List.Subset.trans k₁ k₂, .str _ _, r₂, ⟨m₂.gens, m₂.drawn, m₂.os⟩, q⟩) (hs _ _)
theorem J.SliceS {value lo hi : Expr} {p : Pos} (h : JE G C k env value σ (fun o σ₁ => JE G C k env lo σ₁ (fun a σ₂ => JE G C k env hi σ₂ (fun b σ₃ => SlS o a b Q σ₃) E) E) E)
    (ht : ∀ y tk r, letTemporaryGo value (.str y tk) r = pure () := by intro _ _ _; with_unfolding_all rfl) : JE G C k env (.Subscript value (.Slice (some lo) (some hi) none p) pos) σ Q E := by
  intro fenv A A₀ base B outer L I s c r
  refine Subscript_ (h.then c r (.refl s) fun o s₁ a σ₁ I₁ k₁ h₁ r₁ m₁ q₁ => wpAny_Slice (evalPart_some_step (q₁.then c r₁ m₁ fun iv s₂ b σ₂ I₂ k₂ h₂ r₂ m₂ q₂ => evalPart_some_step (q₂.then c r₂ m₂ fun jv s₃ d σ₃ I₃ k₃ h₃ ⟨own, m, r₃⟩ m₃ ⟨x, i, j, e1, e2, e3, e4, q⟩ => evalPart_none_step ?_))))
  subst e1; subst e2; subst e3
  obtain ⟨_, rfl⟩ := h₁.strI; obtain ⟨_, rfl⟩ := h₂.intI; obtain ⟨_, rfl⟩ := h₃.intI
  exact slice_strN_ss r₃.F r₃.N (fun h' t' tk F' N' => ⟨_, σ₃, I₃, List.Subset.trans k₁ (List.Subset.trans k₂ k₃), .str _ _, ⟨own, m, F', N', r₃.apart, r₃.objs, r₃.locs⟩, ⟨m₃.gens, m₃.drawn, m₃.os⟩, q⟩) rfl (ht _ _) e4
end
end Mine

namespace Mine

section
variable {G : Cfg} {B : Heap} {L : Addr} {I : Im} {σ : St} {h h' : Heap} {own : List (Addr × Obj)} {m : Str → Option Value} {a : Addr} {o : Obj}
theorem RelW.lose (r : RelW G B L I σ h own m) (hm : (a, o) ∈ own) (he : Heap.ExtBut a h h') : RelW G B L I ⟨σ.loc, σ.H.drop a⟩ h' (own.filter fun p => decide (p.1 ≠ a)) m := by
  have D := r.N (a, o) (List.mem_append_left _ hm)
  refine ⟨⟨r.F.ns.extBut he (Ne.symm D.2.1), fun b ob e => he b ob (fun q => by rw [q, D.2.2] at e; cases e) (r.F.keep b ob e), r.F.above⟩, fun p hp => ?_, fun p hp q hq => r.apart p (List.mem_filter.mp hp).1 q hq, fun b x e => ?_, r.locs⟩
  · rcases List.mem_append.mp hp with hp | hp
    · obtain ⟨h1, h2⟩ := List.mem_filter.mp hp
      have z := r.N p (List.mem_append_left _ h1)
      exact ⟨he _ _ (by simpa using h2) z.1, z.2⟩
    · have z := r.N p (List.mem_append_right _ hp)
      exact ⟨he _ _ (Ne.symm (r.apart _ hm p hp)) z.1, z.2⟩
  · simp only [Hp.drop] at e
    split at e
    · cases e
    · rename_i q
      obtain ⟨o, h1, h2⟩ := r.objs b x e
      exact ⟨o, List.mem_filter.mpr ⟨h1, by simp [q]⟩, h2⟩
theorem RelW.freeze1 (r : RelW G B L I σ h own m) (hm : (a, o) ∈ own) : RelW G B L ((a, o) :: I) ⟨σ.loc, σ.H.drop a⟩ h (own.filter fun p => decide (p.1 ≠ a)) m := by
  have sub : I ⊆ (a, o) :: I := fun _ hp => .tail _ hp
  refine ⟨r.F, fun p hp => ?_, fun p hp q hq => ?_, fun b ao e => ?_, fun y v e => ?_⟩
  · rcases List.mem_append.mp hp with hp | hp
    · exact r.N p (List.mem_append_left _ (List.mem_filter.mp hp).1)
    · rcases List.mem_cons.mp hp with rfl | hp
      · exact r.N _ (List.mem_append_left _ hm)
      · exact r.N p (List.mem_append_right _ hp)
  · obtain ⟨hp, hn⟩ := List.mem_filter.mp hp
    rcases List.mem_cons.mp hq with rfl | hq
    · simpa using hn
    · exact r.apart p hp q hq
  · simp only [Hp.drop] at e
    split at e
    · cases e
    · rename_i h1
      obtain ⟨o, ho, hr⟩ := r.objs b ao e
      exact ⟨o, List.mem_filter.mpr ⟨ho, by simp [h1]⟩, hr.mono sub⟩
  · obtain ⟨v', h1, h2⟩ := r.locs y v e; exact ⟨v', h1, h2.mono sub⟩
end

theorem drop_cons {α : Type} : ∀ {l : List α} {i : Nat} {x : α} {r : List α}, l.drop i = x :: r → l[i]? = some x ∧ l.drop (i + 1) = r
  | [], i, _, _, e => by simp at e
  | y :: l, 0, _, _, e => by simp at e; exact ⟨by simp [e.1], e.2⟩
  | y :: l, i + 1, _, _, e => by simpa using drop_cons (l := l) (i := i) (by simpa using e)
theorem drop_nil {α : Type} {l : List α} {i : Nat} (e : l.drop i = []) : l[i]? = none := by
  rw [List.getElem?_eq_none_iff]
  exact List.drop_eq_nil_iff.mp e
theorem range_cons {a c : Int} {n : Nat} {v : AV} {rest : List AV} (e : v :: rest = (List.range n).map fun (k : Nat) => AV.int (a + k * c)) :
    ∃ j, n = j + 1 ∧ v = .int a ∧ rest = (List.range j).map fun (k : Nat) => AV.int (a + c + k * c) := by
  cases n with
  | zero => simp at e
  | succ j =>
    rw [List.range_succ_eq_map] at e
    simp only [List.map_cons, List.map_map, List.cons.injEq] at e
    refine ⟨j, rfl, by simpa using e.1, ?_⟩
    rw [e.2]
    apply List.map_congr_left
    intro k _
    simp only [Function.comp]
    congr 1
    push_cast
    rw [Int.add_mul]
    omega

section
variable {G : Cfg} {C : Addr} {k : Nat} {env : Env} {σ : St} {E : Str → Prop} {Q : AV → St → Prop} {QB : Bool → St → Prop} {QF : AF → St → Prop} {x : Str} {pos : Pos}

theorem next_some {B : Heap} {L : Addr} {I : Im} {A : Around} {s : Shared} {Ex : Value → Shared → Prop} {P : Option Value → Shared → Prop} {it : Addr} {v : AV} {rest : List AV} (r : Rel G B L I σ s.heap) (hi : σ.H it = some (.it (v :: rest)))
    (h : ∀ v' s', VR G.w I v v' → Rel G B L I ⟨σ.loc, σ.H.set it (.it rest)⟩ s'.heap → Same s s' → P (some v') s') : wpAny (model G.prog G.w) A (pyNext (.ref it)) P Ex s := by
  obtain ⟨own, m, r⟩ := r
  obtain ⟨o, h1, h2⟩ := r.objs _ _ hi
  have g := (r.N _ (List.mem_append_left _ h1)).1
  generalize hv : v :: rest = vs at h2
  cases h2 with
  | itL a1 a2 a3 a4 =>
    rename_i l ws n i
    subst hv
    generalize hw : ws.drop i = dw at a2
    cases a2 with
    | cons b1 b2 =>
      obtain ⟨c1, c2⟩ := drop_cons hw
      refine wpAny_pyNext_list_item ⟨o, g, a3, a4⟩ ⟨_, r.imm a1, rfl, _, rfl⟩ (by simpa using c1) fun h' hit hs => ?_
      obtain ⟨o', d1, d2, d3⟩ := hit
      obtain ⟨own', r'⟩ := r.upd h1 hs d1 (.itL (rest := rest) a1 (by rw [c2]; exact b2) d2 d3)
      exact h _ _ b1 ⟨own', m, r'⟩ ⟨rfl, rfl, rfl⟩
  | itT a1 a2 a3 a4 =>
    rename_i l ws n i
    subst hv
    generalize hw : ws.drop i = dw at a2
    cases a2 with
    | cons b1 b2 =>
      obtain ⟨c1, c2⟩ := drop_cons hw
      refine next_tuple_item ⟨o, g, a3, a4⟩ ⟨_, r.imm a1, rfl, _, rfl⟩ (by simpa using c1) fun h' hit hs => ?_
      obtain ⟨o', d1, d2, d3⟩ := hit
      obtain ⟨own', r'⟩ := r.upd h1 hs d1 (.itT (rest := rest) a1 (by rw [c2]; exact b2) d2 d3)
      exact h _ _ b1 ⟨own', m, r'⟩ ⟨rfl, rfl, rfl⟩
  | itS a1 a3 a4 =>
    rename_i y t i
    rw [a1] at hv
    generalize hw : y.cps.toList.drop i = dw at hv
    cases dw with
    | nil => simp at hv
    | cons c cs =>
      simp only [List.map_cons, List.cons.injEq] at hv
      obtain ⟨c1, c2⟩ := drop_cons hw
      obtain ⟨hv1, hv2⟩ := hv
      subst hv1
      refine wpAny_pyNext_ascii_item (c := c) ⟨o, g, a3, a4⟩ (by rw [← Array.getElem?_toList]; exact c1) fun h' hit hs => ?_
      obtain ⟨o', d1, d2, d3⟩ := hit
      obtain ⟨own', r'⟩ := r.upd h1 hs d1 (.itS (rest := rest) (by rw [c2]; exact hv2) d2 d3)
      exact h _ _ (.str _ _) ⟨own', m, r'⟩ ⟨rfl, rfl, rfl⟩
  | itR a1 =>
    rename_i a c n
    rw [a1] at hv
    obtain ⟨j, rfl, e2, e3⟩ := range_cons hv
    subst e2
    refine wpAny_pyNext_range_item g (by omega) fun h' hit hs => ?_
    have : ((j + 1 : Nat) : Int) - 1 = (j : Nat) := by omega
    rw [this] at hit
    obtain ⟨own', r'⟩ := r.upd h1 hs hit (.itR e3)
    exact h _ _ (.int _ _) ⟨own', m, r'⟩ ⟨rfl, rfl, rfl⟩

theorem next_none {B : Heap} {L : Addr} {I : Im} {A : Around} {s : Shared} {Ex : Value → Shared → Prop} {P : Option Value → Shared → Prop} {it : Addr} (hh : A.handled = none) (r : Rel G B L I σ s.heap) (hi : σ.H it = some (.it []))
    (h : ∀ s', Rel G B L I ⟨σ.loc, σ.H.drop it⟩ s'.heap → Same s s' → P none s') : wpAny (model G.prog G.w) A (pyNext (.ref it)) P Ex s := by
  obtain ⟨own, m, r⟩ := r
  obtain ⟨o, h1, h2⟩ := r.objs _ _ hi
  have g := (r.N _ (List.mem_append_left _ h1)).1
  generalize hv : ([] : List AV) = vs at h2
  cases h2 with
  | itL a1 a2 a3 a4 =>
    rename_i l ws n i
    subst hv
    generalize hw : ws.drop i = dw at a2
    cases a2
    exact wpAny_pyNext_list_end hh ⟨o, g, a3, a4⟩ ⟨_, r.imm a1, rfl, _, rfl⟩ (by simpa using drop_nil hw) fun h' he => h _ ⟨_, m, r.lose h1 he⟩ ⟨rfl, rfl, rfl⟩
  | itT a1 a2 a3 a4 =>
    rename_i l ws n i
    subst hv
    generalize hw : ws.drop i = dw at a2
    cases a2
    exact next_tuple_end hh ⟨o, g, a3, a4⟩ ⟨_, r.imm a1, rfl, _, rfl⟩ (by simpa using drop_nil hw) fun h' he => h _ ⟨_, m, r.lose h1 he⟩ ⟨rfl, rfl, rfl⟩
  | itS a1 a3 a4 =>
    rename_i y t i
    rw [a1] at hv
    have hw : y.cps.toList.drop i = [] := by simpa using hv.symm
    exact wpAny_pyNext_ascii_end hh ⟨o, g, a3, a4⟩ (by rw [← Array.getElem?_toList]; exact drop_nil hw) fun h' he => h _ ⟨_, m, r.lose h1 he⟩ ⟨rfl, rfl, rfl⟩
  | itR a1 =>
    rename_i a c n
    rw [a1] at hv
    have : n = 0 := by
      have := congrArg List.length hv
      simpa using this.symm
    subst this
    exact wpAny_pyNext_range_end hh g (by simp) fun h' he => h _ ⟨_, m, r.lose h1 he⟩ ⟨rfl, rfl, rfl⟩

inductive Iter (H : Hp) : AV → List AV → Hp → Prop
  | list (l : Addr) (vs : List AV) (h : H l = some (.list vs)) : Iter H (.ref l) vs (H.drop l)
  | tup (vs : List AV) : Iter H (.tup vs) vs H
  | str (x : Str) (h : x.cps.all (· < 128) = true) : Iter H (.str x) (x.cps.toList.map fun c => .str ⟨#[c]⟩) H
  | rng (n : Nat) (h : n < 2 ^ 60) : Iter H (.rng 0 n 1) ((List.range n).map fun (k : Nat) => .int k) H

theorem Iter.sound {B : Heap} {L : Addr} {I : Im} {A : Around} {s : Shared} {Ex : Value → Shared → Prop} {P : Value → Shared → Prop} {v : AV} {v' : Value} {vs : List AV} {H₁ : Hp} (hi : Iter σ.H v vs H₁) (r : Rel G B L I σ s.heap) (hv : VR G.w I v v')
    (h : ∀ it s' I', I ⊆ I' → H₁ it = none → Rel G B L I' ⟨σ.loc, H₁.set it (.it vs)⟩ s'.heap → Same s s' → P (.ref it) s') : wpAny (model G.prog G.w) A (pyIter v') P Ex s := by
  obtain ⟨own, m, r⟩ := r
  cases hi with
  | list l vs hl =>
    obtain rfl := hv.refI
    obtain ⟨us, n, a1, a2, a3⟩ := r.listAt hl
    have f := r.freeze1 a1
    have sub : I ⊆ (l, listOf us.toArray n) :: I := fun _ hp => .tail _ hp
    refine wpAny_pyIter_list ⟨_, a3, rfl, _, rfl⟩ (h _ _ _ sub ?_ ⟨_, m, f.newOwn rfl (.itL (rest := vs) (i := 0) (.head _) ((a2.mono sub)) rfl rfl)⟩ ⟨rfl, rfl, rfl⟩)
    exact f.fresh
  | tup vs =>
    obtain ⟨_, _, _, rfl, hm, ht⟩ := hv.tupI
    exact wpAny_pyIter_tuple ⟨_, r.imm hm, rfl, _, rfl⟩ (h _ _ _ (List.Subset.refl I) r.fresh ⟨_, m, r.newOwn rfl (.itT (rest := vs) (i := 0) hm ht rfl rfl)⟩ ⟨rfl, rfl, rfl⟩)
  | str x hx =>
    obtain ⟨_, rfl⟩ := hv.strI
    exact wpAny_pyIter_ascii hx (h _ _ _ (List.Subset.refl I) r.fresh ⟨_, m, r.newOwn rfl (.itS (i := 0) (by simp) rfl rfl)⟩ ⟨rfl, rfl, rfl⟩)
  | rng n hn =>
    obtain ⟨_, _, _, _, rfl, hm⟩ := hv.rngI
    · refine wpAny_pyIter_range (r.imm hm) (small_one (by omega) (by omega) (by omega) (by omega)) ?_
      have e : Builtin.Range.rangeSize 0 (n : Int) 1 = (n : Int) := by rw [rangeSize_one]; split <;> omega
      rw [e]
      exact h _ _ _ (List.Subset.refl I) r.fresh ⟨_, m, r.newOwn rfl (.itR (a := 0) (c := 1) (by simp))⟩ ⟨rfl, rfl, rfl⟩
theorem Cl.range {n : Int} {H : Hp} {QC : AV → Hp → Prop} (h : QC (.rng 0 n 1) H) : Cl G C k (.type "range") [.int n] H QC E := by
  intro env fenv loc A A₀ base B outer L I s ws c ⟨own, m, r⟩ hv
  obtain ⟨_, rfl, h1⟩ := hv.one
  obtain ⟨_, rfl⟩ := h1.intI
  exact call_range_1 ⟨.rng 0 n 1, _, _, fun p hp => .tail _ hp, .rng (.head _), ⟨own, m, r.newImm rfl⟩, ⟨rfl, rfl, rfl⟩, rfl, h⟩

theorem J.While {test : Expr} {body orelse : List Stmt} (Inv : Nat → St → Prop) (n : Nat) (h0 : Inv n σ)
    (turn : ∀ n σ, Inv n σ → JT G C k env test σ (fun b σ₁ => if b then JS G C k env body σ₁ (fun f σ₂ => match f with | .next | .cont => ∃ m, m < n ∧ Inv m σ₂ | .brk => QF .next σ₂ | .ret v => QF (.ret v) σ₂) E else JS G C k env orelse σ₁ QF E) E)
    (hfl : env.frame = some env.locals := by rfl) : J1 G C k env (.While test body orelse pos) σ QF E := by
  intro fenv A A₀ base B outer L I s c r
  have hfe := (c.hl hfl).1.symm
  subst hfe
  refine wpAny_While (codeAny_whileLoop (fun n s' => ∃ σ' I', I ⊆ I' ∧ Rel G B L I' σ' s'.heap ∧ Same s s' ∧ Inv n σ') (fun n s₁ ⟨σ₁, I₁, k₁, r₁, m₁, hi⟩ => ?_) n ⟨σ, I, List.Subset.refl I, r, .refl s, h0⟩)
  refine wpAny_mono ((turn n σ₁ hi).then c r₁ m₁ fun b s₂ b' σ₂ I₂ k₂ hr r₂ m₂ q => ?_) (fun _ _ z => z) (fun e s' z => XR.back z c.fr c.hf)
  cases hr
  cases b
  · rw [if_neg (by decide)] at q ⊢
    exact wpAny_mono (q.go (I := I) (s := s) c r₂ (List.Subset.trans k₁ k₂) m₂) (fun _ _ z => z) (fun e s' z => XR.back z c.fr c.hf)
  · rw [if_pos rfl] at q ⊢
    refine wpAny_mono (q.then c r₂ m₂ fun f s₃ f' σ₃ I₃ k₃ hf r₃ m₃ q => ?_) (fun _ _ z => z) (fun e s' z => XR.back z c.fr c.hf)
    have kk : I ⊆ I₃ := List.Subset.trans k₁ (List.Subset.trans k₂ k₃)
    cases hf with
    | next => obtain ⟨m, hm, hi⟩ := q; exact ⟨m, hm, σ₃, I₃, kk, r₃, m₃, hi⟩
    | cont => obtain ⟨m, hm, hi⟩ := q; exact ⟨m, hm, σ₃, I₃, kk, r₃, m₃, hi⟩
    | brk => exact ⟨.next, σ₃, I₃, kk, .next, r₃, m₃, q⟩
    | ret hv => exact ⟨.ret _, σ₃, I₃, kk, .ret hv, r₃, m₃, q⟩

noncomputable def ForJ (G : Cfg) (C : Addr) (k : Nat) (env : Env) (x : Str) (body : List Stmt) (QF : AF → St → Prop) (E : Str → Prop) (it : Addr) : List AV → St → Prop
  | [], σ => QF .next ⟨σ.loc, σ.H.drop it⟩
  | v :: vs, σ => JS G C k env body ⟨setL x v σ.loc, σ.H.set it (.it vs)⟩ (fun f σ' => match f with
      | .next | .cont => σ'.H it = some (.it vs) ∧ ForJ G C k env x body QF E it vs σ'
      | .brk => QF .next ⟨σ'.loc, σ'.H.drop it⟩
      | .ret u => QF (.ret u) ⟨σ'.loc, σ'.H.drop it⟩) E

theorem Rel.dropH {B : Heap} {L : Addr} {I : Im} {h : Heap} {it : Addr} (r : Rel G B L I σ h) : Rel G B L I ⟨σ.loc, σ.H.drop it⟩ h := by
  obtain ⟨own, m, r⟩ := r
  refine ⟨own, m, r.weak (fun a ao e => ?_) fun _ _ e => e⟩
  simp only [Hp.drop] at e
  split at e
  · cases e
  · exact e

inductive ForQ (G : Cfg) (C : Addr) (k : Nat) (env : Env) (x : Str) (body : List Stmt) (QF : AF → St → Prop) (E : Str → Prop) (v : AV) (σ : St) : Prop
  | mk (vs : List AV) (H₁ : Hp) (h1 : Iter σ.H v vs H₁) (h2 : ∀ it, H₁ it = none → ForJ G C k env x body QF E it vs ⟨σ.loc, H₁.set it (.it vs)⟩)
theorem J.For {iter : Expr} {body : List Stmt} {px : Pos} (h : JE G C k env iter σ (ForQ G C k env x body QF E) E)
    (hx : env.kindOf x = some .local := by rfl) (hs : ∀ v, foldedSetIterable iter env v = pure v := by intro _; rfl) (hfl : env.frame = some env.locals := by rfl) :
    J1 G C k env (.For (.Name x px) iter body [] pos) σ QF E := by
  intro fenv A A₀ base B outer L I s c r
  have hfe := (c.hl hfl).1.symm
  subst hfe
  refine wpAny_For (h.then c r (.refl s) fun v s₁ a σ₁ I₁ k₁ h₁ r₁ m₁ ⟨vs, H₁, q1, q2⟩ => q1.sound r₁ h₁ fun it s₂ I₂ k₂ hit r₂ m₂ => ?_) hs
  refine codeAny_forLoop (fun n s' => ∃ σ' I' us, I ⊆ I' ∧ Rel G B L I' σ' s'.heap ∧ Same s s' ∧ us.length = n ∧ σ'.H it = some (.it us) ∧ ForJ G C k env x body QF E it us σ') (fun n s₃ ⟨σ₃, I₃, us, k₃, r₃, m₃, hn, hu, hi⟩ => ?_) vs.length
    ⟨_, I₂, vs, List.Subset.trans k₁ k₂, r₂, m₁.trans m₂, rfl, by simp [Hp.set], q2 it hit⟩
  cases us with
  | nil =>
    refine next_none c.hh r₃ hu fun s₄ r₄ m₄ => wpAny_execs_nil ?_
    exact ⟨.next, _, I₃, k₃, .next, r₄, m₃.trans m₄, hi⟩
  | cons u us =>
    refine next_some r₃ hu fun u' s₄ hu' r₄ m₄ => ?_
    refine wpAny_assign_Name (store_loc (α := Unit) (β := Unit) (I := I) (s := s) c r₄ hu' hx hfl fun s₅ m₅ r₅ => ?_)
    refine wpAny_mono (J.then hi c r₅ ((m₃.trans m₄).trans m₅) fun f s₆ f' σ₆ I₆ k₆ hf r₆ m₆ q => ?_) (fun _ _ z => z) (fun e s' z => XR.back z c.fr c.hf)
    have kk : I ⊆ I₆ := List.Subset.trans k₃ k₆
    cases hf with
    | next => exact ⟨us.length, by simp at hn; omega, σ₆, I₆, us, kk, r₆, m₆, rfl, q.1, q.2⟩
    | cont => exact ⟨us.length, by simp at hn; omega, σ₆, I₆, us, kk, r₆, m₆, rfl, q.1, q.2⟩
    | brk => exact ⟨.next, _, I₆, kk, .next, r₆.dropH, m₆, q⟩
    | ret hv => exact ⟨.ret _, _, I₆, kk, .ret hv, r₆.dropH, m₆, q⟩
end
end Mine

namespace Mine

section
variable {G : Cfg} {B : Heap} {L : Addr} {I : Im} {σ : St} {h h' : Heap} {own : List (Addr × Obj)} {m : Str → Option Value} {a D : Addr} {o : Obj} {ao : AO}
theorem RelW.added (r : RelW G B L I σ h own m) (lt : ∀ p ∈ own ++ I, p.1 < D) (F : Fr B L h' m) (N : News B L h' ((D, o) :: (own ++ I))) (ho : OR G.w I ao o) :
    RelW G B L I ⟨σ.loc, σ.H.set D ao⟩ h' ((D, o) :: own) m ∧ σ.H D = none := by
  refine ⟨⟨F, N, fun p hp q hq => ?_, fun a x e => ?_, r.locs⟩, ?_⟩
  · rcases List.mem_cons.mp hp with rfl | hp
    · exact Nat.ne_of_gt (lt q (List.mem_append_right _ hq))
    · exact r.apart p hp q hq
  · simp only [Hp.set] at e
    split at e
    · rename_i q; subst q; cases e; exact ⟨o, .head _, ho⟩
    · obtain ⟨o', h1, h2⟩ := r.objs a x e; exact ⟨o', .tail _ h1, h2⟩
  · cases e : σ.H D with
    | none => rfl
    | some ao => obtain ⟨o', h1, _⟩ := r.objs _ _ e; exact absurd (lt _ (List.mem_append_left _ h1)) (Nat.lt_irrefl _)
theorem RelW.addedImm (r : RelW G B L I σ h own m) (lt : ∀ p ∈ own ++ I, p.1 < D) (F : Fr B L h' m) (N : News B L h' ((D, o) :: (own ++ I))) : RelW G B L ((D, o) :: I) σ h' own m := by
  have sub : I ⊆ (D, o) :: I := fun _ hp => .tail _ hp
  refine ⟨F, fun p hp => ?_, fun p hp q hq => ?_, fun a x e => ?_, fun x v e => ?_⟩
  · rcases List.mem_append.mp hp with hp | hp
    · exact N p (.tail _ (List.mem_append_left _ hp))
    · rcases List.mem_cons.mp hp with rfl | hp
      · exact N _ (.head _)
      · exact N p (.tail _ (List.mem_append_right _ hp))
  · rcases List.mem_cons.mp hq with rfl | hq
    · exact Nat.ne_of_lt (lt p (List.mem_append_left _ hp))
    · exact r.apart p hp q hq
  · obtain ⟨o', h1, h2⟩ := r.objs a x e; exact ⟨o', h1, h2.mono sub⟩
  · obtain ⟨v', h1, h2⟩ := r.locs x v e; exact ⟨v', h1, h2.mono sub⟩
theorem RelW.ext (r : RelW G B L I σ h own m) (he : Heap.ExtBut h.objs.size h h') : RelW G B L I σ h' own m :=
  ⟨r.F.extBut he (Nat.le_refl _), fun p hp => ⟨he _ _ (Nat.ne_of_lt (r.low p hp)) (r.N p hp).1, (r.N p hp).2⟩, r.apart, r.objs, r.locs⟩
theorem RelW.lowS (r : RelW G B L I σ h own m) : ∀ p ∈ own ++ I, p.1 < h.objs.size + 1 := fun p hp => Nat.lt_succ_of_lt (r.low p hp)
theorem strs_vrs {w : World} {I : Im} : ∀ {vs : List Value} {ss : List Str}, StrsAre vs ss → VRs w I (ss.map .str) vs
  | _, _, .nil => .nil
  | _, _, .cons x t h => .cons (.str x t) (strs_vrs h)
theorem VRs.drop {w : World} {I : Im} {vs : List AV} : ∀ {ws : List Value} (n : Nat), VRs w I vs ws → VRs w I (vs.drop n) (ws.drop n) := by
  induction vs with
  | nil => intro ws n h; rw [h.nilI, List.drop_nil, List.drop_nil]; exact .nil
  | cons u vs ih =>
    intro ws n h
    cases n with
    | zero => exact h
    | succ n => obtain ⟨x, xs, rfl, h1, h2⟩ := h.consI; exact ih n h2
theorem VRs.take {w : World} {I : Im} {vs : List AV} : ∀ {ws : List Value} (n : Nat), VRs w I vs ws → VRs w I (vs.take n) (ws.take n) := by
  induction vs with
  | nil => intro ws n h; rw [h.nilI, List.take_nil, List.take_nil]; exact .nil
  | cons u vs ih =>
    intro ws n h
    cases n with
    | zero => exact .nil
    | succ n => obtain ⟨x, xs, rfl, h1, h2⟩ := h.consI; exact .cons h1 (ih n h2)
theorem strValues_vrs {w : World} {I : Im} : ∀ l : List (Str × Tok), VRs w I ((l.map (·.1)).map .str) (strValues l)
  | [] => .nil
  | (x, t) :: r => .cons (.str x t) (strValues_vrs r)
end

section
variable {G : Cfg} {C : Addr} {k : Nat} {env : Env} {σ : St} {E : Str → Prop} {Q : AV → St → Prop} {QB : Bool → St → Prop} {QF : AF → St → Prop} {x : Str} {pos : Pos} {H : Hp} {QC : AV → Hp → Prop}

theorem Cl.tupleL {l : Addr} {vs : List AV} (hl : H l = some (.list vs)) (hs : vs.length ≤ 16384) (h : QC (.tup vs) H) : Cl G C k (.type "tuple") [.ref l] H QC E := by
  intro env fenv loc A A₀ base B outer L I s ws c ⟨own, m, r⟩ hv
  obtain ⟨_, rfl, h1⟩ := hv.one
  obtain rfl := h1.refI
  · obtain ⟨us, n, a1, a2, a3⟩ := r.listAt hl
    refine kde_tupleOf r.F r.N ⟨_, a3, rfl, _, rfl⟩ (by rw [List.size_toArray, a2.len]; exact hs) rfl fun D h' F' N' lt => ?_
    have r' := r.addedImm lt F' N'
    exact ⟨.tup vs, _, _, fun p hp => .tail _ hp, .tup (.head _) (a2.mono fun p hp => .tail _ hp), ⟨_, m, r'⟩, ⟨rfl, rfl, rfl⟩, rfl, h⟩
theorem Cl.tupleT {vs : List AV} (h : QC (.tup vs) H) : Cl G C k (.type "tuple") [.tup vs] H QC E := by
  intro env fenv loc A A₀ base B outer L I s ws c ⟨own, m, r⟩ hv
  obtain ⟨_, rfl, h1⟩ := hv.one
  obtain ⟨_, _, _, rfl, hm, ht⟩ := h1.tupI
  exact call_tuple_tup ⟨_, r.imm hm, rfl, _, rfl⟩ ⟨.tup vs, _, _, List.Subset.refl _, .tup hm ht, ⟨_, m, r⟩, ⟨rfl, rfl, rfl⟩, rfl, h⟩
theorem Cl.sortedL {l : Addr} {ss : List Str} (hl : H l = some (.list (ss.map .str))) (hs : ss.length < 64)
    (h : ∀ a ss', H a = none → ss'.Perm ss → sortedS ss' = true → QC (.ref a) (H.set a (.list (ss'.map .str)))) : Cl G C k (.builtin "sorted") [.ref l] H QC E := by
  intro env fenv loc A A₀ base B outer L I s ws c ⟨own, m, r⟩ hv
  obtain ⟨_, rfl, h1⟩ := hv.one
  obtain rfl := h1.refI
  · obtain ⟨us, n, a1, a2, a3⟩ := r.listAt hl
    refine sorted_N_str r.F r.N ⟨_, a3, rfl, _, rfl⟩ a2.strs (by rw [a2.len, List.length_map]; exact hs) fun h' vs' ss' e F' N' hS hp ho => ?_
    obtain ⟨r', hn⟩ := r.added (ao := .list (ss'.map .str)) (o := listOf vs'.toArray e) r.lowS F' N' (.list (strs_vrs hS))
    exact ⟨.ref _, _, _, List.Subset.refl _, .ref _, ⟨_, m, r'⟩, ⟨rfl, rfl, rfl⟩, rfl, h _ _ hn hp ho⟩
theorem Cl.split {x y : Str} (hy : (y.length == 0) = false) (hs : x.length ≤ 10000) (h : ∀ a, H a = none → QC (.ref a) (H.set a (.list ((Txt.split x y).map .str)))) : Cl G C k (.builtin "str.split") [.str x, .str y] H QC E := by
  intro env fenv loc A A₀ base B outer L I s ws c ⟨own, m, r⟩ hv
  obtain ⟨_, _, rfl, h1, h2⟩ := hv.two
  obtain ⟨_, rfl⟩ := h1.strI; obtain ⟨_, rfl⟩ := h2.strI
  · · refine splitN1 r.F r.N hy (fun l h' tk e F' N' => ?_) (by rw [sizeLine_eq]; omega)
      obtain ⟨r', hn⟩ := r.added (ao := .list ((l.map (·.1)).map .str)) (o := listOf (strValues l).toArray 0) r.low F' N' (.list (strValues_vrs l))
      rw [e] at r'
      exact ⟨.ref _, _, _, List.Subset.refl _, .ref _, ⟨_, m, r'⟩, ⟨rfl, rfl, rfl⟩, rfl, h _ hn⟩
theorem Cl.join {x : Str} {l : Addr} {ys : List Str} (hl : H l = some (.list (ys.map .str))) (hok : (ys.map (·.length)).sum + ys.length * x.length ≤ 16777216) (h : QC (.str (Txt.join x ys)) H) : Cl G C k (.builtin "str.join") [.str x, .ref l] H QC E := by
  intro env fenv loc A A₀ base B outer L I s ws c ⟨own, m, r⟩ hv
  obtain ⟨_, _, rfl, h1, h2⟩ := hv.two
  obtain ⟨_, rfl⟩ := h1.strI; obtain rfl := h2.refI
  · · obtain ⟨us, n, a1, a2, a3⟩ := r.listAt hl
      exact join_list ⟨_, a3, rfl, _, rfl⟩ (by simpa using a2.strs) hok fun t' tk => ⟨.str _, _, _, List.Subset.refl _, .str _ _, ⟨_, m, r⟩, ⟨rfl, rfl, rfl⟩, rfl, h⟩
theorem Cl.lower {x : Str} (hx : x.length ≤ 5592405) (h : QC (.str (Txt.lower x)) H) : Cl G C k (.builtin "str.lower") [.str x] H QC E := by
  intro env fenv loc A A₀ base B outer L I s ws c ⟨own, m, r⟩ hv
  obtain ⟨_, rfl, h1⟩ := hv.one; obtain ⟨_, rfl⟩ := h1.strI; exact SCL.lower hx fun _ => ⟨.str _, _, _, List.Subset.refl _, .str _ _, ⟨_, m, r⟩, ⟨rfl, rfl, rfl⟩, rfl, h⟩
theorem Cl.upper {x : Str} (hx : x.length ≤ 5592405) (h : QC (.str (Txt.upper x)) H) : Cl G C k (.builtin "str.upper") [.str x] H QC E := by
  intro env fenv loc A A₀ base B outer L I s ws c ⟨own, m, r⟩ hv
  obtain ⟨_, rfl, h1⟩ := hv.one; obtain ⟨_, rfl⟩ := h1.strI; exact SCL.upper hx fun _ => ⟨.str _, _, _, List.Subset.refl _, .str _ _, ⟨_, m, r⟩, ⟨rfl, rfl, rfl⟩, rfl, h⟩
theorem Cl.replace0 {x y z : Str} (hx : (Builtin.Str.occurrences x y 0 x.length (x.length + 1)).isEmpty = true) (h : QC (.str x) H) : Cl G C k (.builtin "str.replace") [.str x, .str y, .str z] H QC E := by
  intro env fenv loc A A₀ base B outer L I s ws c ⟨own, m, r⟩ hv
  obtain ⟨_, _, rfl, h1, hv'⟩ := hv.consI
  obtain ⟨_, _, rfl, h2, h3⟩ := hv'.two
  obtain ⟨_, rfl⟩ := h1.strI; obtain ⟨_, rfl⟩ := h2.strI; obtain ⟨_, rfl⟩ := h3.strI
  · · · refine call_gives PySem.F.slot_str_replace (typeIs_str _ _ _) PySem.F.entry_str_replace (PySem.F.args_str_replace_3 _ _ _) (gives_str_replace x y z _ _ _ fun q => by rw [hx] at q; cases q) ?_
        rw [hx, Bool.true_or, if_pos rfl]
        exact ⟨.str _, _, _, List.Subset.refl _, .str _ _, ⟨_, m, r⟩, ⟨rfl, rfl, rfl⟩, rfl, h⟩

-- methods of builtins
inductive MsQ (G : Cfg) (C : Addr) (k : Nat) (env : Env) (id : String) (args : List Expr) (pos : Pos) (Q : AV → St → Prop) (E : Str → Prop) (ov : AV) (σ : St) : Prop
  | mk (x : Str) (h1 : ov = .str x) (h2 : JL G C k env args pos σ (fun vs σ₂ => Cl G C k (.builtin id) (.str x :: vs) σ₂.H (fun b H' => Q b ⟨σ₂.loc, H'⟩) E) E)
inductive MlQ (G : Cfg) (C : Addr) (k : Nat) (env : Env) (id : String) (args : List Expr) (pos : Pos) (Q : AV → St → Prop) (E : Str → Prop) (ov : AV) (σ : St) : Prop
  | mk (l : Addr) (vs : List AV) (h1 : ov = .ref l) (h2 : σ.H l = some (.list vs)) (h3 : JL G C k env args pos σ (fun vs σ₂ => Cl G C k (.builtin id) (.ref l :: vs) σ₂.H (fun b H' => Q b ⟨σ₂.loc, H'⟩) E) E)
inductive SlL (o a : AV) (Q : AV → St → Prop) (σ : St) : Prop
  | mk (l : Addr) (vs : List AV) (i : Int) (h1 : o = .ref l) (h2 : a = .int i) (h3 : σ.H l = some (.list vs)) (h4 : 0 ≤ i) (h5 : vs.length ≤ 10000) (h6 : ∀ a, σ.H a = none → Q (.ref a) ⟨σ.loc, σ.H.set a (.list (vs.drop i.toNat))⟩)
inductive SlG (G : Cfg) (o a : AV) (Q : AV → St → Prop) (σ : St) : Prop
  | mk (i : Int) (ns : List Int) (h1 : o = .ref G.script) (h2 : a = .int i) (h3 : IntsAre G.its ns) (h4 : 0 ≤ i) (h5 : ns.length ≤ 10000) (h6 : ∀ a, σ.H a = none → Q (.ref a) ⟨σ.loc, σ.H.set a (.list ((ns.take i.toNat).map .int))⟩)
theorem J.MethS {o : Expr} {name : Str} {id : String} {apos : Pos} {args : List Expr} {pl : Sem Bool} (slot : Slot "str" name id) (hty : typeOf (.builtin id) = pure (.type "method_descriptor"))
    (h : JE G C k env o σ (MsQ G C k env id args pos Q E) E)
    (hp : (backTo pos (starEach args env)).any (·.1) = false := by rfl)
    (he : eval (.Call (.Attribute o name apos) args [] pos) env = (do
      let ov ← eval o env
      standAt apos.atName
      let (f, first) ← holding [ov] (getMethod ov name pl)
      callWith pos f first (backTo pos (starEach args env)) []) := by rfl) : JE G C k env (.Call (.Attribute o name apos) args [] pos) σ Q E := by
  intro fenv A A₀ base B outer L I s c r
  refine MethodCall_ (pl := pl) (h.then c r (.refl s) fun v s₁ a σ₁ I₁ k₁ h₁ r₁ m₁ ⟨x, q1, q6⟩ => ?_) he
  subst q1
  obtain ⟨_, rfl⟩ := h₁.strI
  refine getMethod_builtin (typeIs_str _ _ _) PySem.F.plainAttrs_str slot hty (fun _ e => by cases e) ?_
  refine callWith_of (P := G.K.In) (by rw [hp]; rfl) (fun h X => ⟨.machine, .inr (.inl rfl), Looks.of_pure rfl⟩) (args_any hp ?_)
  exact q6.then c r₁ m₁ fun vs s₂ bs σ₂ I₂ k₂ h₂ r₂ m₂ q => ⟨(r₂.gf c.gf).X, q.use c r₂ (.cons (.str _ _) h₂) (List.Subset.trans k₁ k₂) m₂⟩
theorem J.MethL {o : Expr} {name : Str} {id : String} {apos : Pos} {args : List Expr} {pl : Sem Bool} (slot : Slot "list" name id) (hty : typeOf (.builtin id) = pure (.type "method_descriptor"))
    (h : JE G C k env o σ (MlQ G C k env id args pos Q E) E)
    (hp : (backTo pos (starEach args env)).any (·.1) = false := by rfl)
    (he : eval (.Call (.Attribute o name apos) args [] pos) env = (do
      let ov ← eval o env
      standAt apos.atName
      let (f, first) ← holding [ov] (getMethod ov name pl)
      callWith pos f first (backTo pos (starEach args env)) []) := by rfl) : JE G C k env (.Call (.Attribute o name apos) args [] pos) σ Q E := by
  intro fenv A A₀ base B outer L I s c r
  refine MethodCall_ (pl := pl) (h.then c r (.refl s) fun v s₁ a σ₁ I₁ k₁ h₁ ⟨own, m, r₁⟩ m₁ ⟨l, vs, q1, q2, q6⟩ => ?_) he
  subst q1
  obtain rfl := h₁.refI
  obtain ⟨us, n, a1, a2, a3⟩ := r₁.listAt q2
  refine listMethod_K r₁.N (List.mem_append_left _ a1) slot hty ?_
  refine callWith_of (P := G.K.In) (by rw [hp]; rfl) (fun h X => ⟨.machine, .inr (.inl rfl), Looks.of_pure rfl⟩) (args_any hp ?_)
  exact q6.then c ⟨own, m, r₁⟩ m₁ fun vs s₂ bs σ₂ I₂ k₂ h₂ r₂ m₂ q => ⟨(r₂.gf c.gf).X, q.use c r₂ (.cons (.ref _) h₂) (List.Subset.trans k₁ k₂) m₂⟩

-- list slices
theorem J.SliceL1 {value lo : Expr} {p : Pos} (h : JE G C k env value σ (fun o σ₁ => JE G C k env lo σ₁ (fun a σ₂ => SlL o a Q σ₂) E) E)
    (ht : ∀ l r, letTemporaryGo value (.ref l) r = pure () := by intro _ _; rfl) : JE G C k env (.Subscript value (.Slice (some lo) none none p) pos) σ Q E := by
  intro fenv A A₀ base B outer L I s c r
  refine Subscript_ (h.then c r (.refl s) fun o s₁ a σ₁ I₁ k₁ h₁ r₁ m₁ q₁ => wpAny_Slice (evalPart_some_step (q₁.then c r₁ m₁ fun iv s₂ b σ₂ I₂ k₂ h₂ ⟨own, m, r₂⟩ m₂ ⟨l, vs, i, e1, e2, e3, e4, e5, q⟩ => evalPart_none_step (evalPart_none_step ?_))))
  subst e1; subst e2
  obtain rfl := h₁.refI; obtain ⟨_, rfl⟩ := h₂.intI
  obtain ⟨us, n, a1, a2, a3⟩ := r₂.listAt e3
  refine slice_list r₂.F r₂.N ⟨_, a3, rfl, _, rfl⟩ (.int i _) .none (fun h' F' N' => ?_) (by with_unfolding_all rfl) (ht _) (by rw [List.size_toArray, a2.len, sizeLine_eq]; omega)
  rw [kms_pick_eq] at N'
  have e : kms_pick us (some i) none = us.drop i.toNat := by
    unfold kms_pick kms_lo kms_hi
    simp only [if_neg (Int.not_lt.mpr e4)]
    rw [List.take_of_length_le (by simp)]
    rcases Nat.le_total i.toNat us.length with q | q
    · rw [Nat.min_eq_left q]
    · rw [Nat.min_eq_right q, List.drop_length, List.drop_eq_nil_of_le q]
  rw [e] at N'
  obtain ⟨r', hn⟩ := r₂.added (ao := .list (vs.drop i.toNat)) (o := listOf (us.drop i.toNat).toArray 0) r₂.lowS F' N' (.list (a2.drop _))
  exact ⟨.ref _, _, I₂, List.Subset.trans k₁ k₂, .ref _, ⟨_, m, r'⟩, ⟨m₂.gens, m₂.drawn, m₂.os⟩, q _ hn⟩
theorem ints_vrs {w : World} {I : Im} : ∀ {vs : List Value} {ss : List Int}, IntsAre vs ss → VRs w I (ss.map .int) vs
  | _, _, .nil => .nil
  | _, _, .cons x t h => .cons (.int x t) (ints_vrs h)
theorem J.SliceScript {value hi : Expr} {p : Pos} (h : JE G C k env value σ (fun o σ₁ => JE G C k env hi σ₁ (fun a σ₂ => SlG G o a Q σ₂) E) E)
    (ht : ∀ l r, letTemporaryGo value (.ref l) r = pure () := by intro _ _; rfl) : JE G C k env (.Subscript value (.Slice none (some hi) none p) pos) σ Q E := by
  intro fenv A A₀ base B outer L I s c r
  refine Subscript_ (h.then c r (.refl s) fun o s₁ a σ₁ I₁ k₁ h₁ r₁ m₁ q₁ => wpAny_Slice (evalPart_none_step (evalPart_some_step (q₁.then c r₁ m₁ fun iv s₂ b σ₂ I₂ k₂ h₂ ⟨own, m, r₂⟩ m₂ ⟨i, ns, e1, e2, e3, e4, e5, q⟩ => evalPart_none_step ?_))))
  subst e1; subst e2
  obtain rfl := h₁.refI; obtain ⟨_, rfl⟩ := h₂.intI
  have hl := (r₂.gf c.gf).S
  have len : G.its.length = ns.length := by have := (ints_vrs (w := G.w) (I := []) e3).len; simpa using this
  refine slice_list r₂.F r₂.N hl .none (.int i _) (fun h' F' N' => ?_) (by with_unfolding_all rfl) (ht _) (by rw [List.size_toArray, len, sizeLine_eq]; omega)
  rw [kms_pick_eq] at N'
  have e : kms_pick G.its none (some i) = G.its.take i.toNat := by
    unfold kms_pick kms_lo kms_hi
    simp only [if_neg (Int.not_lt.mpr e4), List.drop_zero, Nat.sub_zero]
    rcases Nat.le_total i.toNat G.its.length with q | q
    · rw [Nat.min_eq_left q]
    · rw [Nat.min_eq_right q, List.take_length, List.take_of_length_le q]
  rw [e] at N'
  obtain ⟨r', hn⟩ := r₂.added (ao := .list ((ns.take i.toNat).map .int)) (o := listOf (G.its.take i.toNat).toArray 0) r₂.lowS F' N' (.list (by rw [List.map_take]; exact (ints_vrs e3).take _))
  exact ⟨.ref _, _, I₂, List.Subset.trans k₁ k₂, .ref _, ⟨_, m, r'⟩, ⟨m₂.gens, m₂.drawn, m₂.os⟩, q _ hn⟩

-- a list's item set
theorem set_item {B : Heap} {L : Addr} {I : Im} {A : Around} {s : Shared} {Ex : Value → Shared → Prop} {P : Unit → Shared → Prop} {l : Addr} {vs : List AV} {n : Int} {t : Tok} {v : AV} {v' : Value} (r : Rel G B L I σ s.heap) (hl : σ.H l = some (.list vs)) (h0 : 0 ≤ n) (h1 : n < 2 ^ 63) (h2 : n.toNat < vs.length) (hv : VR G.w I v v')
    (h : ∀ s', Rel G B L I ⟨σ.loc, σ.H.set l (.list (vs.set n.toNat v))⟩ s'.heap → Same s s' → P () s') : wpAny (model G.prog G.w) A (setItem (.ref l) (.int n t) v') P Ex s := by
  obtain ⟨own, m, r⟩ := r
  obtain ⟨us, nn, a1, a2, a3⟩ := r.listAt hl
  refine ki_setAt a3 h0 h1 (by rw [List.size_toArray, a2.len]; omega) ?_
  have e : (s.heap.update l (Obj.mapSeq (·.setIfInBounds n.toNat v'))).get? l = some (listOf (us.set n.toNat v').toArray nn) := by
    rw [Heap.get?_update_self _ a3 rfl]
    unfold Obj.mapSeq
    simp
  obtain ⟨own', r'⟩ := r.upd a1 (Heap.SameBut.update ..) e (.list (a2.set hv n.toNat))
  exact h _ ⟨own', m, r'⟩ ⟨rfl, rfl, rfl⟩
end
end Mine

namespace Mine

noncomputable def setLs : List Str → List AV → List (Str × AV) → List (Str × AV)
  | x :: xs, v :: vs, l => setLs xs vs (setL x v l)
  | _, _, l => l
noncomputable def putS (x : Str) (d : PyData) (D : List (Str × PyData)) : List (Str × PyData) :=
  if D.any (fun p => decide (p.1 = x)) then D.map (fun p => if p.1 = x then (p.1, d) else p) else D ++ [(x, d)]
theorem putS_enc (x : Str) (d : PyData) (D : List (Str × PyData)) : PyProof.V.putD (PyData.str x) d (D.map fun p => (PyData.str p.1, p.2)) = (putS x d D).map fun p => (PyData.str p.1, p.2) := by
  have e : ∀ D : List (Str × PyData), ((D.map fun p => (PyData.str p.1, p.2)).any fun p => PySem.Spec.same p.1 (PyData.str x)) = D.any fun p => decide (p.1 = x) := by
    intro D
    induction D with
    | nil => rfl
    | cons p D ih =>
      show (PySem.Spec.same (PyData.str p.1) (PyData.str x) || _) = _
      rw [List.any_cons, ih, PyProof.V.same_str]
  unfold PyProof.V.putD putS
  rw [e]
  split
  · rw [List.map_map, List.map_map]
    refine List.map_congr_left fun p _ => ?_
    show (if PySem.Spec.same (PyData.str p.1) (PyData.str x) = true then (PyData.str p.1, d) else (PyData.str p.1, p.2)) = _
    rw [PyProof.V.same_str]
    by_cases h : p.1 = x
    · simp [h]
    · simp [h]
  · rw [List.map_append]; rfl
theorem putS_len (x : Str) (d : PyData) (D : List (Str × PyData)) : (putS x d D).length ≤ D.length + 1 := by
  unfold putS; split <;> simp
theorem putS_any (x y : Str) (d : PyData) (D : List (Str × PyData)) : (putS x d D).any (·.1 == y) = (D.any (·.1 == y) || x == y) := by
  unfold putS
  split
  · rename_i h
    have e : (D.map fun p => if p.1 = x then (p.1, d) else p).any (·.1 == y) = D.any (·.1 == y) := by
      clear h
      induction D with
      | nil => rfl
      | cons p D ih =>
        rw [List.map_cons, List.any_cons, List.any_cons, ih]
        congr 1
        split <;> rfl
    rw [e]
    by_cases q : x = y
    · subst q
      have : D.any (·.1 == x) = true := by simpa using h
      simp [this]
    · simp [q]
  · rw [List.any_append]; simp

section
variable {G : Cfg} {C : Addr} {k : Nat} {env : Env} {σ : St} {E : Str → Prop} {Q : AV → St → Prop} {QB : Bool → St → Prop} {QF : AF → St → Prop} {x : Str} {pos : Pos} {H : Hp} {QC : AV → Hp → Prop}

inductive SetI (v ov iv : AV) (Q : AF → St → Prop) (σ : St) : Prop
  | mk (l : Addr) (vs : List AV) (n : Int) (h1 : ov = .ref l) (h2 : iv = .int n) (h3 : σ.H l = some (.list vs)) (h4 : 0 ≤ n) (h5 : n < 2 ^ 63) (h6 : n.toNat < vs.length) (h7 : Q .next ⟨σ.loc, σ.H.set l (.list (vs.set n.toNat v))⟩)
inductive AugB (op : Operator) (u v : AV) (l : Addr) (n : Nat) (Q : AF → St → Prop) (σ : St) : Prop
  | mk (cc : AV) (vs' : List AV) (h1 : Bin op u v cc) (h2 : σ.H l = some (.list vs')) (h3 : n < vs'.length) (h4 : Q .next ⟨σ.loc, σ.H.set l (.list (vs'.set n cc))⟩)
inductive AugA (G : Cfg) (C : Addr) (k : Nat) (env : Env) (op : Operator) (value : Expr) (Q : AF → St → Prop) (E : Str → Prop) (ov iv : AV) (σ : St) : Prop
  | mk (l : Addr) (vs : List AV) (n : Int) (u : AV) (h1 : ov = .ref l) (h2 : iv = .int n) (h3 : σ.H l = some (.list vs)) (h4 : 0 ≤ n) (h5 : n < 2 ^ 63) (h6 : vs[n.toNat]? = some u)
      (h7 : JE G C k env value σ (fun v σ₃ => AugB op u v l n.toNat Q σ₃) E)
inductive SetT (xs : List Str) (Q : AF → St → Prop) (v : AV) (σ : St) : Prop
  | mk (vs : List AV) (h1 : v = .tup vs) (h2 : vs.length = xs.length) (h3 : Q .next ⟨setLs xs vs σ.loc, σ.H⟩)
inductive SetD (v ov iv : AV) (Q : AF → St → Prop) (σ : St) : Prop
  | mk (d : Addr) (D : List (Str × PyData)) (x : Str) (b : Bool) (h1 : ov = .ref d) (h2 : iv = .str x) (h3 : v = .bool b) (h4 : σ.H d = some (.sdict D)) (h5 : D.length ≤ 10000) (h6 : Q .next ⟨σ.loc, σ.H.set d (.sdict (putS x (.bool b) D))⟩)
inductive ItD (o iv : AV) (Q : AV → St → Prop) (σ : St) : Prop
  | mk (d : Addr) (D : List (Str × PyData)) (x : Str) (n : Int) (h1 : o = .ref d) (h2 : iv = .str x) (h3 : (d == sysModules) = false) (h4 : σ.H d = some (.sdict D)) (h5 : PySem.Spec.lookup (.str x) (D.map fun p => (PyData.str p.1, p.2)) = some (.int n)) (h6 : Q (.int n) σ)
theorem J.AssignI {e o i : Expr} {pos' : Pos} (h : JE G C k env e σ (fun v σ₁ => JE G C k env o σ₁ (fun ov σ₂ => JE G C k env i σ₂ (fun iv σ₃ => SetI v ov iv QF σ₃) E) E) E) (hs : swapsWith e (some (.Subscript o i pos')) pos.line env = pure false := by rfl) : J1 G C k env (.Assign [.Subscript o i pos'] e pos) σ QF E := by
  intro fenv A A₀ base B outer L I s c r
  refine wpAny_Assign_Subscript (h.then c r (.refl s) fun v' s₁ v σ₁ I₁ k₁ h₁ r₁ m₁ q₁ => q₁.then c r₁ m₁ fun ov s₂ b σ₂ I₂ k₂ h₂ r₂ m₂ q₂ => q₂.then c r₂ m₂ fun iv s₃ d σ₃ I₃ k₃ h₃ r₃ m₃ ⟨l, vs, n, q1, q2, q4, q5, q6, q7, q8⟩ => ?_) hs
  subst q1; subst q2
  obtain rfl := h₂.refI; obtain ⟨_, rfl⟩ := h₃.intI
  exact set_item r₃ q4 q5 q6 q7 ((h₁.mono k₂).mono k₃) fun s' r' m' => ⟨.next, _, I₃, List.Subset.trans k₁ (List.Subset.trans k₂ k₃), .next, r', m₃.trans m', q8⟩
theorem J.AugI {value o i : Expr} {tpos : Pos} {op : Operator} (h : JE G C k env o σ (fun ov σ₁ => JE G C k env i σ₁ (fun iv σ₂ => AugA G C k env op value QF E ov iv σ₂) E) E)
    (hi : ∀ ov iv new, augStore i ov iv new = (do holding [new, ov, iv] (setItem ov iv new); release [new, ov, iv] []; pure .next) := by intros; rfl) : J1 G C k env (.AugAssign (.Subscript o i tpos) op value pos) σ QF E := by
  intro fenv A A₀ base B outer L I s c r
  refine wpAny_AugAssign_SubscriptAny (h.then c r (.refl s) fun ov s₁ a σ₁ I₁ k₁ h₁ r₁ m₁ q₁ => q₁.then c r₁ m₁ fun iv s₂ b σ₂ I₂ k₂ h₂ ⟨own, m, r₂⟩ m₂ ⟨l, vs, n, u, q1, q2, q3, q4, q5, q6, q7⟩ => ?_) hi
  subst q1; subst q2
  obtain rfl := h₁.refI; obtain ⟨_, rfl⟩ := h₂.intI
  obtain ⟨us, nn, a1, a2, a3⟩ := r₂.listAt q3
  obtain ⟨u', f1, f2⟩ := a2.at q6
  refine wpAny_getItem_list ⟨_, a3, rfl, _, rfl⟩ q4 q5 (by simpa using f1) ?_
  refine q7.then c ⟨own, m, r₂⟩ m₂ fun v s₃ d σ₃ I₃ k₃ h₃ r₃ m₃ ⟨cc, vs', e1, e2, e3, e4⟩ => ?_
  exact e1.isound (f2.mono k₃) h₃ fun c' tk hv => set_item (s := { s₃ with toks := tk }) r₃ e2 q4 q5 e3 hv fun s' r' m' => ⟨.next, _, I₃, List.Subset.trans k₁ (List.Subset.trans k₂ k₃), .next, r', ⟨m'.gens.trans m₃.gens, m'.drawn.trans m₃.drawn, m'.os.trans m₃.os⟩, e4⟩

-- names unpacked
theorem assign_names {fenv : Env} {A A₀ : Around} {base B : Heap} {outer : List Env} {L : Addr} {I : Im} {P : Unit → Shared → Prop} {Ex : Value → Shared → Prop} (c : Cx G k env fenv A A₀ base B outer L) (hfl : env.frame = some env.locals) (xs : List (Str × Pos)) :
    ∀ {vs : List AV} {ws : List Value} {σ : St} {s : Shared}, Rel G B L I σ s.heap → VRs G.w I vs ws → xs.length = vs.length → xs.all (fun p => env.kindOf p.1 == some .local) = true →
    (∀ s₂, Same s s₂ → Rel G B L I ⟨setLs (xs.map (·.1)) vs σ.loc, σ.H⟩ s₂.heap → P () s₂) → wpAny (model G.prog G.w) A (assignInOrder ((assignEach (xs.map fun p => .Name p.1 p.2) env).map (·.2)) ws) P Ex s := by
  induction xs with
  | nil =>
    intro vs ws σ s r hv hl _ h
    cases vs with
    | nil => rw [hv.nilI]; exact wpAny_pure (h s (.refl s) r)
    | cons _ _ => simp at hl
  | cons xp xs ih =>
    obtain ⟨x, p⟩ := xp
    intro vs ws σ s r hv hl hx h
    cases vs with
    | nil => simp at hl
    | cons v vs =>
      obtain ⟨_, _, rfl, h1, h2⟩ := hv.consI
      rw [List.all_cons, Bool.and_eq_true] at hx
      rw [List.map_cons]
      show wpAny _ A (do holding _ (assign (.Name x p) env _); assignInOrder _ _) P Ex s
      refine wpAny_bind (wpAny_holding (PyProof.Rows.assign_Name (store_loc (α := Unit) (β := Unit) (I := I) (s := s) c r h1 (eq_of_beq hx.1) hfl fun s₂ m₂ r₂ => ?_)))
      exact ih r₂ h2 (by simpa using hl) hx.2 fun s₃ m₃ r₃ => h s₃ (m₂.trans m₃) r₃
theorem each_names : ∀ xs : List (Str × Pos), (assignEach (xs.map fun p => .Name p.1 p.2) env).findIdx? (·.1) = none ∧ (assignEach (xs.map fun p => Expr.Name p.1 p.2) env).length = xs.length
  | [] => ⟨rfl, rfl⟩
  | (x, p) :: xs => by
    obtain ⟨h1, h2⟩ := each_names xs
    refine ⟨?_, ?_⟩
    · show List.findIdx? _ ((false, assign (.Name x p) env) :: assignEach (xs.map fun p => .Name p.1 p.2) env) = none
      rw [List.findIdx?_cons, h1]; rfl
    · show (assignEach (xs.map fun p => Expr.Name p.1 p.2) env).length + 1 = _
      rw [h2]; rfl
theorem J.AssignT {value : Expr} {kk : Nat} {tpos : Pos} (xs : List (Str × Pos)) (h : JE G C k env value σ (SetT (xs.map (·.1)) QF) E)
    (hx : xs.all (fun p => env.kindOf p.1 == some .local) = true := by rfl) (hs : swapsWithSole [.Tuple (xs.map fun p => .Name p.1 p.2) kk tpos] value pos.line env = pure false := by rfl)
    (hw : swappedStores [.Tuple (xs.map fun p => .Name p.1 p.2) kk tpos] value env = pure none := by rfl) (hfl : env.frame = some env.locals := by rfl) : J1 G C k env (.Assign [.Tuple (xs.map fun p => .Name p.1 p.2) kk tpos] value pos) σ QF E := by
  intro fenv A A₀ base B outer L I s c r
  refine Assign_Tuple (h.then c r (.refl s) fun v' s₁ v σ₁ I₁ k₁ h₁ ⟨own, m, r₁⟩ m₁ ⟨vs, q1, q2, q3⟩ => ?_) hs hw
  subst q1
  rw [List.length_map] at q2
  obtain ⟨_, _, _, rfl, hm, ht⟩ := h₁.tupI
  · obtain ⟨e1, e2⟩ := each_names (env := env) xs
    refine unpackN_ r₁.F r₁.N ⟨_, r₁.imm hm, rfl, _, rfl⟩ c.hh (by rw [e2, List.size_toArray, ht.len, q2]) e1 fun h' F' N' => ?_
    have r' : Rel G B L I₁ σ₁ h' := ⟨own, m, F', N', r₁.apart, r₁.objs, r₁.locs⟩
    exact assign_names c hfl xs (s := { s₁ with heap := h' }) r' ht q2.symm hx fun s₂ m₂ r₂ => ⟨.next, _, I₁, k₁, .next, r₂, m₁.trans ⟨m₂.gens, m₂.drawn, m₂.os⟩, q3⟩

-- dicts that hold flat values
theorem J.DictN (h : ∀ d, σ.H d = none → (d == sysModules) = false → Q (.ref d) ⟨σ.loc, σ.H.set d (.sdict [])⟩) : JE G C k env (.Dict [] [] pos) σ Q E := by
  intro fenv A A₀ base B outer L I s c ⟨own, m, r⟩
  refine newDict_K r.F r.N c.gf.T.nolimit fun d h' o F' N' lt lo a b _ _ => ?_
  obtain ⟨r', hn⟩ := r.added (ao := .sdict []) lt F' N' (.sdict a b)
  exact ⟨.ref d, _, I, List.Subset.refl I, .ref d, ⟨_, m, r'⟩, ⟨rfl, rfl, rfl⟩, h d hn lo⟩
theorem UpdF.at {d : Addr} {o : Obj} {R : List (Addr × Obj)} (h : ∀ p ∈ R, p.1 ≠ d) : UpdF d o ((d, o) :: R) (fun o' => (d, o') :: R) := .head h
theorem J.AssignD {e o i : Expr} {pos' : Pos} (h : JE G C k env e σ (fun v σ₁ => JE G C k env o σ₁ (fun ov σ₂ => JE G C k env i σ₂ (fun iv σ₃ => SetD v ov iv QF σ₃) E) E) E) (hs : swapsWith e (some (.Subscript o i pos')) pos.line env = pure false := by rfl) : J1 G C k env (.Assign [.Subscript o i pos'] e pos) σ QF E := by
  intro fenv A A₀ base B outer L I s c r
  refine wpAny_Assign_Subscript (h.then c r (.refl s) fun v' s₁ v σ₁ I₁ k₁ h₁ r₁ m₁ q₁ => q₁.then c r₁ m₁ fun ov s₂ b σ₂ I₂ k₂ h₂ r₂ m₂ q₂ => q₂.then c r₂ m₂ fun iv s₃ d σ₃ I₃ k₃ h₃ ⟨own, m, r₃⟩ m₃ ⟨d, D, x, b, q1, q2, q3, q4, q5, q6⟩ => ?_) hs
  subst q1; subst q2; subst q3
  obtain rfl := h₁.boolI; obtain rfl := h₂.refI; obtain ⟨_, rfl⟩ := h₃.strI
  obtain ⟨od, o1, o2⟩ := r₃.objs _ _ q4
  obtain ⟨p1, p2⟩ := r₃.pick o1
  obtain ⟨_, _, g1, g2⟩ := o2.sdictI
  · refine setItem_K PyProof.V.same_str (strKind_is _ _ _ _) (PyProof.V.Flat.bool b) r₃.F p1 (.head p2) (dictOf_any (prog' := G.prog) g1) g2 (fun h' o' F' N' a1 a2 => ?_) (by rw [List.length_map, sizeLine_eq]; omega)
    rw [putS_enc] at a2
    exact ⟨.next, _, I₃, List.Subset.trans k₁ (List.Subset.trans k₂ k₃), .next, ⟨_, m, r₃.updK ⟨_, o1⟩ F' N' (.sdict a1 a2)⟩, ⟨m₃.gens, m₃.drawn, m₃.os⟩, q6⟩
theorem J.DictLits {keys : List (Option Expr)} {values : List Expr} (D : List (Str × PyData)) (hD : litPairs keys values = some (D.map fun p => (PyData.str p.1, p.2))) (hs : strKeyed (D.map fun p => (PyData.str p.1, p.2)) = true) (hn : (strKeysOf (D.map fun p => (PyData.str p.1, p.2))).Nodup)
    (hall : keys.all (·.isSome) = true) (hl : keys.length = values.length) (h0 : keys ≠ []) (hlen : keys.length ≤ 15)
    (h : ∀ d, σ.H d = none → (d == sysModules) = false → Q (.ref d) ⟨σ.loc, σ.H.set d (.sdict D)⟩) : JE G C k env (.Dict keys values pos) σ Q E := by
  intro fenv A A₀ base B outer L I s c ⟨own, m, r⟩
  refine Dict_lits_str hD hs hn hall hl h0 hlen fun a o h₁ tk ha ho ⟨kvs, hd, hf⟩ hk => ?_
  have he : Heap.ExtBut s.heap.objs.size s.heap h₁ := fun b o _ e => hk b o e
  have r' := r.ext he
  have hlow : ∀ p ∈ own ++ I, p.1 < a := fun p hp => Nat.lt_of_lt_of_le (r.low p hp) ha
  have hmod : sysModules < a := by
    have h1 := PyProof.Rows.modules_low c.gf.T.nolimit
    have h2 := r.F.above
    have h3 := r.F.ns.lt
    exact Nat.lt_of_lt_of_le (Nat.lt_trans (Nat.lt_of_lt_of_le h1 h2) h3) ha
  have hB : B.get? a = none := by
    cases q : B.get? a with
    | none => rfl
    | some o' => exact absurd (Heap.lt_size (r.F.keep _ _ q)) (Nat.not_lt.mpr ha)
  have hL : a ≠ L := Nat.ne_of_gt (Nat.lt_of_lt_of_le r.F.ns.lt ha)
  obtain ⟨r'', hn'⟩ := r'.added (ao := .sdict D) hlow r'.F (fun p hp => by
    rcases List.mem_cons.mp hp with rfl | hp
    · exact ⟨ho, hL, hB⟩
    · exact r'.N p hp) (.sdict hd hf)
  exact ⟨.ref a, _, I, List.Subset.refl I, .ref a, ⟨_, m, r''⟩, ⟨rfl, rfl, rfl⟩, h a hn' (beq_false_of_ne (Nat.ne_of_gt hmod))⟩
theorem J.ItemD {value i : Expr} (h : JE G C k env value σ (fun o σ₁ => JE G C k env i σ₁ (fun iv σ₂ => ItD o iv Q σ₂) E) E)
    (hs : ∀ a b, subscripted i false a b = operate [a, b] (getItem a b) := by intro _ _; rfl) : JE G C k env (.Subscript value i pos) σ Q E := by
  intro fenv A A₀ base B outer L I s c r
  refine Subscript_ (h.then c r (.refl s) fun o s₁ a σ₁ I₁ k₁ h₁ r₁ m₁ q₁ => q₁.then c r₁ m₁ fun iv s₂ b σ₂ I₂ k₂ h₂ ⟨own, m, r₂⟩ m₂ ⟨d, D, x, n, e1, e2, e3, e4, e5, q⟩ => ?_)
  subst e1; subst e2
  obtain ⟨_, rfl⟩ := h₂.strI; obtain rfl := h₁.refI
  obtain ⟨od, o1, o2⟩ := r₂.objs _ _ e4
  obtain ⟨_, _, g1, g2⟩ := o2.sdictI
  · have T := TabAt.ofObj (knd := PySem.strKind G.prog G.w) e3 (r₂.N _ (List.mem_append_left _ o1)).1 (dictOf_any g1) g2
    refine tab_tail T (PyProof.Rows.getItem_tab PyProof.V.same_str (strKind_is _ _ _ _) T e5 fun v hv => ?_) (hs _ _)
    obtain ⟨t, rfl⟩ := PyProof.V.Flat.int_inv hv
    exact ⟨.int n, σ₂, I₂, List.Subset.trans k₁ k₂, .int n t, ⟨own, m, r₂⟩, ⟨m₂.gens, m₂.drawn, m₂.os⟩, q⟩
end
end Mine

namespace Mine
set_option maxHeartbeats 1000000

structure XCls (K : Frag) (C : Addr) : Prop where
  obj : ∃ oc od cd sl, K.lookup C = some ⟨oc, od, .cls cd, sl⟩ ∧ cd.abstract = false ∧ cd.hasDel = false ∧ cd.hasDict = true ∧ cd.mro.isEmpty = false
  made : ∀ M h, K.In h → Looks M h (Bind.madeBy (.ref C)) (some "Exception.__new__")
  base : ∀ M h, K.In h → Looks M h (Bind.staticBase (.ref C)) (.ref C)
  self : mroIn K C (.ref C) = some true
  exc : mroIn K C (.type "Exception") = some true
  bexc : mroIn K C (.type "BaseException") = some true
  noA : mroIn K C (.type "AttributeError") = some false
  noN : mroIn K C (.type "NameError") = some false
  obj_ : mroIn K C (.type "object") = some true
  call : specialIn K (.ref C) "__call__" = some (some (.builtin "type.__call__"))
  typ : instIn K (.ref C) (.type "type") = some true
section
variable {prog : Program} {w : World} {A : Around} {K : Frag} {C : Addr} {R : Result → Shared → Prop} {h : Heap} {g : Array GenState} {d : Drawn} {t : Nat} {os : OsState}
theorem new_X {rest : List Value} (X : K.In h) (Y : XCls K C) (hr : rest.length ≤ 1000)
    (hq : R (.ok (.ret (.ref (h.objs.size + 1)))) ⟨(h.push (tupObj rest)).push (excObj C h.objs.size none), g, d, t, os⟩) :
    codeAny (model prog w) A (.call (.builtin "Exception.__new__") ⟨.ref C :: rest, []⟩) R ⟨h, g, d, t, os⟩ := by
  have F := PySem.F.excBase_Exception
  have made := Y.made (model prog w) h X
  have base := Y.base (model prog w) h X
  have sE := looks_mroIn (M := model prog w) X Y.exc
  have sB := looks_mroIn (M := model prog w) X Y.bexc
  have sA := looks_mroIn (M := model prog w) X Y.noA
  have sN := looks_mroIn (M := model prog w) X Y.noN
  obtain ⟨oc, od, cd, sl, ho, e1, e2, e3, e4⟩ := Y.obj
  have hC := X _ _ ho
  refine codeAny_call_builtin_code (Code.quiet_builtin _ F.quiet) ?_
  have hstar := F.noStar
  simp only [checkBuiltinCall, F.newKind, F.newSplit, F.newRow]
  have args : Bind.checkArgs "Exception.__new__" ⟨.any, "Exception", "Exception", .cls, [⟨"args", .varPos, false⟩, ⟨"kwargs", .varKw, false⟩]⟩ ⟨.ref C :: rest, []⟩ = pure () := by kernel_rfl
  rw [args]
  repeat (first | simp only [bne_self_eq_false, Bool.false_eq_true, if_false, Bool.not_true] | with_reducible refine wpAny_loadPart_at hC ?_ | lk)
  have hends := F.ends
  refine codeAny_builtinAt F.entry ?_
  unfold Builtin.«BaseException.__new__»
  refine PySem.wpAt_bind ?_
  show PySem.wpAt _ _ _ (stack >>= _) _ _ _
  refine PySem.wpAt_bind (PySem.wpAt_stack fun p below => PySem.wpAt_of_wpAny ?_)
  wp_walk
  refine PySem.wpAt_of_wpAny ?_
  rw [F.owner]
  repeat (first | simp only [bne_self_eq_false, Bool.false_eq_true, if_false, Bool.not_true] | with_reducible refine wpAny_loadPart_at hC ?_ | lk | wp_step)
  rw [if_neg (by rw [List.size_toArray, sizeLine_eq]; omega)]
  refine wpAny_newObjAsIs_type ?_
  show wpAny _ _ (newObj _ _ _ >>= _) _ _ _
  refine wpAny_bind ?_
  show wpAny _ _ (newObjAsIs _ _ _) _ _ _
  unfold newObjAsIs classHasDel
  refine wpAny_bind (wpAny_alloc (wpAny_bind (wpAny_bind (wpAny_load (Heap.get?_push_of_some _ (Heap.get?_push_of_some _ hC)) (wpAny_pure ?_)))))
  dsimp only
  rw [e2]
  refine wpAny_pure (wpAny_pure ?_)
  show R _ _
  rw [Heap.size_push]
  exact hq

theorem make_X {rest : List Value} {fI : Addr} (X : K.In h) (Y : XCls K C) (hi : findIn K (.ref C) "__init__" = some (some (.ref fI))) (hf : typeIn K (.ref fI) = some (.type "function")) (hr : rest.length ≤ 1000)
    (hq : codeAny (model prog w) (A.under (.builtin "type.__call__" ⟨.ref C :: rest, []⟩)) (.call (.ref fI) ⟨.ref (h.objs.size + 1) :: rest, []⟩) (InitBack (h.objs.size + 1) R) ⟨(h.push (tupObj rest)).push (excObj C h.objs.size none), g, d, t, os⟩) :
    codeAny (model prog w) A (.call (.ref C) ⟨rest, []⟩) R ⟨h, g, d, t, os⟩ := by
  obtain ⟨oc, od, cd, sl, ho, e1, e2, e3, e4⟩ := Y.obj
  have hC := X _ _ ho
  have call := looks_specialIn (M := model prog w) X Y.call
  have typ := looks_instIn (M := model prog w) X Y.typ
  have made := Y.made (model prog w) h X
  refine codeAny_of_tree ?_
  show wpAny _ _ (callAny (.ref C) _) _ _ _
  refine nd_load hC ?_
  show wpAny _ _ (callAny.viaDunder (.ref C) _) _ _ _
  unfold callAny.viaDunder
  refine wpAny_bind (call.at ?_)
  dsimp only
  rw [tc_bind]
  refine wpAny_bind (wpAny_pure (wpAny_bind (wpAny_pure ?_)))
  refine wpAny_pure (a := Fin.again (.call (.builtin "type.__call__") ⟨.ref C :: rest, []⟩)) (And.intro rfl ?_)
  refine codeAny_call_builtin_at (Code.quiet_builtin _ (by decide +kernel)) entry_typeCall (check_slot tc_kind tc_split typ (tc_args _ _ _) ?_)
  unfold Builtin.«type.__call__»
  have hm : Looks (model prog w) h (mroOf (.ref C)) cd.mro := ((Looks.ld (part := none) hC).andThen .now).andThen .now
  repeat (first | simp only [e4, Bool.false_eq_true, if_false] | with_reducible refine wpAny_call ?_ | lk)
  refine new_X X Y hr ?_
  have k : ∀ b o, h.get? b = some o → ((h.push (tupObj rest)).push (excObj C h.objs.size none)).get? b = some o := fun b o e => Heap.get?_push_of_some _ (Heap.get?_push_of_some _ e)
  have hx : ((h.push (tupObj rest)).push (excObj C h.objs.size none)).get? (h.objs.size + 1) = some (excObj C h.objs.size none) := by heap_get
  have t1 : Looks (model prog w) ((h.push (tupObj rest)).push (excObj C h.objs.size none)) (typeOf (.ref (h.objs.size + 1))) (.ref C) := (Looks.ld hx).andThen .now
  have s1 := (looks_mroIn (M := model prog w) X Y.self).keeps k
  have i1 := (looks_findIn (M := model prog w) X hi).keeps k
  have b1 := (bind_fn (M := model prog w) X (.ref (h.objs.size + 1)) hf).keeps k
  unfold isInstance callSpecial? specialOf
  repeat (first | simp only [Bool.not_true, Bool.false_eq_true, if_false] | with_reducible refine wpAny_call ?_ | lk)
  refine codeAny_mono hq fun r s' z => ?_
  rcases r with e | (v | _ | _ | _) <;> first | exact z | exact z.elim | skip
  obtain ⟨rfl, z⟩ := z
  exact wpAny_pure (wpAny_pure z)
end
end Mine

namespace Mine
set_option maxHeartbeats 1000000

structure XSet (K : Frag) (C : Addr) : Prop where
  cls : ∃ cd, clsIn K C = some cd ∧ cd.hasDict = true ∧ ∀ self, refuseLoop self "__setattr__" cd.mro = pure ()
  sa : findIn K (.ref C) "__setattr__" = some (some (.builtin "object.__setattr__"))
theorem refuse_exc (self : Value) : refuseLoop self "__setattr__" [.type "Exception", .type "BaseException", .type "object"] = pure () := by kernel_rfl
theorem refuse_exc2 (self : Value) (a b : Addr) : refuseLoop self "__setattr__" [.ref a, .ref b, .type "Exception", .type "BaseException", .type "object"] = pure () := by
  rw [refuseLoop_ref, refuseLoop_ref]; exact refuse_exc self

section
variable {prog : Program} {w : World} {A : Around} {E : Value → Shared → Prop} {K : Frag} {C x dx L : Addr} {s : Shared} {B : Heap} {m : Str → Option Value} {R : Result → Shared → Prop} {r : List (Addr × Obj)}

theorem osa_openX {ox : Obj} {od : Option Obj} {name : Str} {tk : Tok} {v : Value} (Y : XCls K C) (Z : XSet K C) (X : K.In s.heap) (I : InstAt s.heap x ox C od) (ha : findIn K (.ref C) name = some none)
    (h : ∀ b, wpAny (model prog w) A.in1 (PySem.Builtin.ObjectAttr.storeInOwnDict (.ref x) (.ref C) (.str name tk) name v b)
      (fun fin s' => match fin with | PySem.Fin.done f => R (.ok f) s' | PySem.Fin.again c' => c'.quiet = true ∧ codeAny (model prog w) A c' R s') (fun e s' => R (.error e) s') s) :
    codeAny (model prog w) A (.call (.builtin "object.__setattr__") ⟨[.ref x, .str name tk, v], []⟩) R s := by
  have SF := PySem.F.store_object
  obtain ⟨cd, hc, hd, hr⟩ := Z.cls
  have sub : Looks (model prog w) s.heap (isInstance (.ref x) (.type "object")) true := I.type.andThen (looks_mroIn X Y.obj_)
  refine codeAny_call_builtin SF.slot.plain SF.entry (@check_slot (model prog w) _ _ s "object.__setattr__" "object" "__setattr__" (.ref x) [.str name tk, v] [] _ SF.kind SF.split sub (SF.args (.ref x) (.str name tk) v) ?_)
  have hm : Looks (model prog w) s.heap (mroOf (.ref C)) cd.mro := (looks_clsIn X hc).andThen .now
  rw [osa_eq, refuse_eq]
  refine wpAny_bind (wpAny_bind (I.type.here (wpAny_bind (hm.here ?_))))
  rw [hr]
  refine wpAny_pure (wpAny_bind (I.type.here (wpAny_bind ((looks_findIn X ha).here (wpAny_bind (wpAny_pure ?_))))))
  exact h _

theorem store_in {es : List DictEntry} {n : Nat} {name : Str} {tk : Tok} {v : Value} {Q : PySem.Fin → Shared → Prop} (F : Fr B L s.heap m) (N : News B L s.heap ((dx, dictOf es n) :: r)) (hr : ∀ p ∈ r, p.1 ≠ dx) (hl : (getL name es).isSome = true)
    (hz : (putL name (PyData.keyHash w.params name) (.str name s.toks) v es).length ≤ 1000)
    (h : ∀ h', Fr B L h' m → News B L h' ((dx, dictOf (putL name (PyData.keyHash w.params name) (.str name s.toks) v es) (putN name es n)) :: r) → Q (.done (.ret .none)) { s with heap := h', toks := s.toks + 1 }) :
    wpAny (model prog w) A (PySem.Builtin.ObjectAttr.storeInDict dx (.str name tk) name v) Q E s := by
  obtain ⟨U1, U2⟩ := news_upd (pre := []) (f := Obj.putName name (PyData.keyHash w.params name) (.str name s.toks) v) F N (by simp) hr (putName_dict name _ _ _ es n) rfl
  have D := (N _ (.head _)).1
  have D' := (U2 _ (.head _)).1
  unfold PySem.Builtin.ObjectAttr.storeInDict
  refine wpAny_bind (wpAny_pure (wpAny_bind ?_))
  unfold nsSet
  refine wpAny_bind (wpAny_bind (wpAny_askSetting (wpAny_pure (wpAny_bind (wpAny_mkText (wpAny_bind (wpAny_loadPart D ?_)))))))
  dsimp only
  have c : (!es.toArray.any (·.key.isStr name) && es.toArray.any (·.refKey)) = false := by
    simp only [List.any_toArray]
    unfold getL at hl
    split at hl
    · rename_i en he
      rw [List.any_eq_true.mpr ⟨en, List.mem_of_find?_eq_some he, List.find?_some he⟩]; rfl
    · split at hl
      · cases hl
      · rename_i z; rw [Bool.not_eq_true] at z; rw [z, Bool.and_false]
  rw [aRefKeyMayBeTheName_at, c]
  refine wpAny_updatePart D ?_
  refine wpAny_bind (wpAny_lookBehind D' (pastItsLine_dict (by rw [List.size_toArray, sizeLine_eq]; omega)) ?_)
  exact wpAny_pure (h _ U1 U2)

theorem set_X1 {ox : Obj} {es : List DictEntry} {n : Nat} {name : Str} {v : Value} {Q : Unit → Shared → Prop} (Y : XCls K C) (Z : XSet K C) (X : K.In s.heap) (ha : findIn K (.ref C) name = some none) (F : Fr B L s.heap m) (N : News B L s.heap ((dx, dictOf es n) :: r)) (hr : ∀ p ∈ r, p.1 ≠ dx)
    (I : InstAt s.heap x ox C (some (dictOf es n))) (hd : ox.dict = some dx) (hl : (getL name es).isSome = true) (hz : (putL name (PyData.keyHash w.params name) (.str name (s.toks + 1)) v es).length ≤ 1000)
    (h : ∀ h', Fr B L h' m → News B L h' ((dx, dictOf (putL name (PyData.keyHash w.params name) (.str name (s.toks + 1)) v es) (putN name es n)) :: r) → Q () { s with heap := h', toks := s.toks + 1 + 1 }) :
    wpAny (model prog w) A (setAttr (.ref x) name v) Q E s := by
  refine set_plain X I Z.sa (osa_openX (s := { s with toks := s.toks + 1 }) Y Z X I ha fun b => ?_)
  obtain ⟨cd, hc, hd', _⟩ := Z.cls
  obtain ⟨hx, hcl, hn, -⟩ := I
  obtain ⟨oc, odi, oda, osl⟩ := ox
  dsimp only at hcl hd
  subst hcl hd
  refine wpAny_bind (wpAny_pure (wpAny_bind (wpAny_bind (wpAny_loadPart hx (wpAny_bind (looks_clsIn (M := model prog w) (h := s.heap) X hc _ _ _ _ (fun _ _ e => e) ?_))))))
  rw [hd']
  refine wpAny_pure (a := some dx) ?_
  exact store_in (s := { s with toks := s.toks + 1 }) F N hr hl hz fun h' F' N' => h h' F' N'
theorem set_X0 {t : Addr} {name : Str} {v : Value} {Q : Unit → Shared → Prop} (Y : XCls K C) (Z : XSet K C) (X : K.In s.heap) (ha : findIn K (.ref C) name = some none) (F : Fr B L s.heap m) (N : News B L s.heap ((x, excObj C t none) :: r)) (hr : ∀ p ∈ r, p.1 ≠ x)
    (h : ∀ d h' tk n, Fr B L h' m → News B L h' ((d, dictOf [⟨PyData.keyHash w.params name, .str name tk, v⟩] n) :: (x, excObj C t (some d)) :: r) → (∀ p ∈ (x, excObj C t none) :: r, p.1 < d) → Q () { s with heap := h', toks := s.toks + 1 + 1 }) :
    wpAny (model prog w) A (setAttr (.ref x) name v) Q E s := by
  have I : InstAt s.heap x (excObj C t none) C none := ⟨(N _ (.head _)).1, rfl, rfl, trivial⟩
  refine set_plain X I Z.sa (osa_openX (s := { s with toks := s.toks + 1 }) Y Z X I ha fun b => ?_)
  obtain ⟨cd, hc, hd', _⟩ := Z.cls
  refine wpAny_bind (wpAny_pure (wpAny_bind (wpAny_bind (wpAny_loadPart I.at_ (wpAny_bind (looks_clsIn (M := model prog w) (h := s.heap) X hc _ _ _ _ (fun _ _ e => e) ?_))))))
  rw [hd']
  have N1 := N.push F emptyDict
  have F1 := F.push emptyDict
  have hx1 := (N1 (x, excObj C t none) (.tail _ (.head _))).1
  have lt : ∀ p ∈ (x, excObj C t none) :: r, p.1 < s.heap.objs.size := fun p hp => Heap.lt_size (N p hp).1
  show wpAny _ _ (alloc emptyDict >>= _) _ _ _
  refine wpAny_bind (wpAny_alloc (wpAny_bind (wpAny_update hx1 ?_)))
  obtain ⟨U1, U2⟩ := news_upd (pre := [(s.heap.objs.size, emptyDict)]) (f := fun o => { o with dict := some s.heap.objs.size }) (o' := excObj C t (some s.heap.objs.size)) F1 N1 (by
    intro p hp; rw [List.mem_singleton] at hp; subst hp; exact Nat.ne_of_gt (lt _ (.head _))) hr rfl rfl
  refine wpAny_pure ?_
  exact store_in (s := ⟨_, s.gens, s.drawn, s.toks + 1, s.os⟩) (es := []) (n := 0) U1 U2 (fun p hp => by
    rcases List.mem_cons.mp hp with rfl | hp
    · exact Nat.ne_of_lt (lt (x, excObj C t none) (.head _))
    · exact Nat.ne_of_lt (lt _ (.tail _ hp))) rfl (by show (1 : Nat) ≤ 1000; decide) fun h' F' N' => h _ h' _ _ F' N' lt
end
end Mine

namespace Mine
set_option maxHeartbeats 1000000

section
variable {G : Cfg} {C : Addr} {k : Nat} {env : Env} {σ : St} {E : Str → Prop} {Q : AV → St → Prop} {QB : Bool → St → Prop} {QF : AF → St → Prop} {x : Str} {pos : Pos} {H : Hp} {QC : AV → Hp → Prop}

theorem RelW.excAt {B : Heap} {L : Addr} {I : Im} {h : Heap} {own : List (Addr × Obj)} {m : Str → Option Value} {x D : Addr} {od : Option Addr} (r : RelW G B L I σ h own m) (hx : σ.H x = some (.exc D od)) : ∃ t, (x, excObj D t od) ∈ own := by
  obtain ⟨o, a1, a2⟩ := r.objs _ _ hx
  obtain ⟨t, rfl⟩ := a2.excI; exact ⟨t, a1⟩

theorem J.AssignX {e o : Expr} {attr : Str} {pos' : Pos} (h : JE G C k env e σ (fun v σ₁ => JE G C k env o σ₁ (fun ov σ₂ => ∃ x D, ov = .ref x ∧ XCls G.K D ∧ XSet G.K D ∧ findIn G.K (.ref D) attr = some none ∧
      ((σ₂.H x = some (.exc D none) ∧ ∀ d, σ₂.H d = none → d ≠ x → QF .next ⟨σ₂.loc, (σ₂.H.set x (.exc D (some d))).set d (.dict [(attr, v)])⟩) ∨
       (∃ d fs, σ₂.H x = some (.exc D (some d)) ∧ σ₂.H d = some (.dict fs) ∧ fs.length ≤ 100 ∧ QF .next ⟨σ₂.loc, σ₂.H.set d (.dict (setL attr v fs))⟩))) E) E)
    (hs : swapsWith e (some (.Attribute o attr pos')) pos.line env = pure false := by rfl) : J1 G C k env (.Assign [.Attribute o attr pos'] e pos) σ QF E := by
  intro fenv A A₀ base B outer L I s c r
  refine plainObj_wpAny_Assign_Attribute (h.then c r (.refl s) fun v' s₁ v σ₁ I₁ k₁ h₁ r₁ m₁ q₁ => q₁.then c r₁ m₁ fun ov s₂ b σ₂ I₂ k₂ h₂ ⟨own, m, r₂⟩ m₂ ⟨x, D, q1, Y, Z, ha, q⟩ => ?_) hs
  subst q1
  cases h₂
  have gX := (r₂.gf c.gf).X
  have kk : I ⊆ I₂ := List.Subset.trans k₁ k₂
  rcases q with ⟨hx, q⟩ | ⟨d, fs, hx, hd, hl, q⟩
  · obtain ⟨t, a1⟩ := r₂.excAt hx
    obtain ⟨p1, p2⟩ := r₂.pick a1
    refine set_X0 Y Z gX ha r₂.F p1 p2 fun d h' tk n F' N' lt => ?_
    have hdx : d ≠ x := Nat.ne_of_gt (lt (x, excObj D t none) (.head _))
    have ltI : ∀ p ∈ I₂, p.1 < d := fun p hp => lt p (.tail _ (List.mem_append_right _ hp))
    have ltO : ∀ p ∈ own, p.1 < d := fun p hp => by
      by_cases q : p.1 = x
      · rw [q]; exact lt (x, excObj D t none) (.head _)
      · exact lt p (.tail _ (List.mem_append_left _ (List.mem_filter.mpr ⟨hp, by simpa using q⟩)))
    have hn : σ₂.H d = none := by
      cases e : σ₂.H d with
      | none => rfl
      | some ao => obtain ⟨o', h1, _⟩ := r₂.objs _ _ e; exact absurd (ltO _ h1) (Nat.lt_irrefl _)
    refine ⟨.next, ⟨σ₂.loc, (σ₂.H.set x (.exc D (some d))).set d (.dict [(attr, v)])⟩, I₂, kk, .next, ⟨(d, dictOf [⟨PyData.keyHash G.w.params attr, .str attr tk, v'⟩] n) :: (x, excObj D t (some d)) :: own.filter fun p => decide (p.1 ≠ x), m, F', N', fun p hp q hq => ?_, fun a ao e => ?_, r₂.locs⟩, ⟨m₂.gens, m₂.drawn, m₂.os⟩, q d hn hdx⟩
    · rcases List.mem_cons.mp hp with rfl | hp
      · exact Nat.ne_of_gt (ltI q hq)
      · rcases List.mem_cons.mp hp with rfl | hp
        · exact r₂.apart _ a1 q hq
        · exact r₂.apart p (List.mem_filter.mp hp).1 q hq
    · simp only [Hp.set] at e
      split at e
      · rename_i q; subst q; cases e; exact ⟨_, .head _, .dict (.cons (h₁.mono k₂) .nil)⟩
      · split at e
        · rename_i q; subst q; cases e; exact ⟨_, .tail _ (.head _), .exc _ _ _⟩
        · rename_i q
          obtain ⟨o', h1, h2⟩ := r₂.objs a ao e
          exact ⟨o', .tail _ (.tail _ (List.mem_filter.mpr ⟨h1, by simpa using q⟩)), h2⟩
  · obtain ⟨t, a1⟩ := r₂.excAt hx
    obtain ⟨o2, b1, b2⟩ := r₂.objs _ _ hd
    cases b2 with
    | @dict fs es n b2 =>
      obtain ⟨p1, p2⟩ := r₂.pick b1
      have I0 : InstAt s₂.heap x (excObj D t (some d)) D (some (dictOf es n)) := ⟨(r₂.N _ (List.mem_append_left _ a1)).1, rfl, rfl, (r₂.N _ (List.mem_append_left _ b1)).1⟩
      have hl' : (PySem.W.getL attr es).isSome = true := by
        cases z : fs.lookup attr with
        | none => rw [b2.miss z]; rfl
        | some u => obtain ⟨u', e1, _⟩ := b2.getL z; rw [e1]; rfl
      have hp := b2.put (name := attr) (t := s₂.toks + 1) (h₁.mono k₂)
      refine set_X1 Y Z gX ha r₂.F p1 p2 I0 rfl hl' ?_ fun h' F' N' => ⟨.next, _, I₂, kk, .next, ⟨_, m, r₂.updK ⟨_, b1⟩ F' N' (.dict hp)⟩, ⟨m₂.gens, m₂.drawn, m₂.os⟩, q⟩
      rw [hp.len]
      have : ∀ (l : List (Str × AV)), (setL attr v l).length ≤ l.length + 1 := by
        intro l
        induction l with
        | nil => simp [setL]
        | cons p l ih => obtain ⟨y, u⟩ := p; unfold setL; split <;> simp_all
      have := this fs
      omega

theorem Fn.makeX {D fI : Addr} {args : List AV} {Q : AV → Hp → Prop} (Y : XCls G.K D) (hi : findIn G.K (.ref D) "__init__" = some (some (.ref fI))) (hf : typeIn G.K (.ref fI) = some (.type "function")) (hr : args.length ≤ 1000)
    (h : ∀ x, H x = none → Fn G C k (.ref fI) (.ref x :: args) (H.set x (.exc D none)) (fun v H' => v = .none ∧ Q (.ref x) H') E) : Fn G C (k + 1) (.ref D) args H Q E := by
  intro env fenv loc A A₀ base B outer L I I₁ s s₁ ws R c r hv hI hs h1 h2
  obtain ⟨own, m, r⟩ := r
  refine make_X (g := s₁.gens) (d := s₁.drawn) (t := s₁.toks) (os := s₁.os) (r.gf c.gf).X Y hi hf (by rw [hv.len]; exact hr) ?_
  have r1 := r.newImm (o := tupObj ws) rfl
  have r2 := r1.newOwn (ao := .exc D none) (o := excObj D s₁.heap.objs.size none) rfl (.exc _ _ _)
  have hx := r1.fresh
  rw [Heap.size_push] at r2 hx
  have c' : Cx G k env fenv (A.under (.builtin "type.__call__" ⟨.ref D :: ws, []⟩)) A₀ base B outer L :=
    ⟨⟨by have := c.ok.d; show A.depth + 1 + k ≤ 900; omega, by have := c.ok.u; show A.units + 1 + 8 * k ≤ 9000; omega⟩, c.fr, c.hf, c.hl, c.hk, c.hkf, c.hh, c.hg, c.hb, c.below, c.gf⟩
  have kk : I₁ ⊆ (s₁.heap.objs.size, tupObj ws) :: I₁ := fun _ hp => .tail _ hp
  refine h _ hx env fenv loc _ A₀ base B outer L I _ s ⟨_, s₁.gens, s₁.drawn, s₁.toks, s₁.os⟩ _ _ c' ⟨_, m, r2⟩ (.cons (.ref _) (hv.mono kk)) (List.Subset.trans hI kk) ⟨hs.gens, hs.drawn, hs.os⟩ (fun v s' ⟨b, σ', I', a1, a2, a3, a4, a5, a6, a7⟩ => ?_) (fun e s' z => h2 e s' z)
  subst a6
  cases a2
  exact ⟨rfl, h1 _ _ ⟨.ref _, σ', I', a1, .ref _, a3, a4, a5, a7⟩⟩

theorem J.Raise {e : Expr} (Y : XCls G.K C) (h : JE G C k env e σ (fun v σ₁ => ∃ x d fs y, v = .ref x ∧ σ₁.H x = some (.exc C (some d)) ∧ σ₁.H d = some (.dict fs) ∧ fs.lookup ("kind" : Str) = some (AV.str y) ∧ E y) E) (ht : typeIn G.K (.ref C) = some (.type "type")) :
    J1 G C k env (.Raise (some e) none pos) σ QF E := by
  intro fenv A A₀ base B outer L I s c r
  show wpAny _ A (do standAt pos; raiseStmt env (some (do let v ← eval e env; standAt pos; pure v)) none) _ _ s
  refine wpAny_bind (wpAny_standAt ?_)
  unfold raiseStmt
  dsimp only
  refine wpAny_bind (wpAny_bind (h.then c r (.refl s) fun v s₁ a σ₁ I₁ k₁ h₁ ⟨own, m, r₁⟩ m₁ ⟨x, d, fs, y, q1, q2, q3, q4, q5⟩ => wpAny_bind (wpAny_standAt (wpAny_pure ?_))))
  subst q1
  cases h₁
  obtain ⟨t, a1⟩ := r₁.excAt q2
  obtain ⟨o2, b1, b2⟩ := r₁.objs _ _ q3
  have gX := (r₁.gf c.gf).X
  have hx := (r₁.N _ (List.mem_append_left _ a1)).1
  have hd := (r₁.N _ (List.mem_append_left _ b1)).1
  have hb := (r₁.N _ (List.mem_append_left _ a1)).2.2
  have sB := looks_mroIn (M := model G.prog G.w) gX Y.bexc
  have t1 : Looks (model G.prog G.w) s₁.heap (typeOf (.ref x)) (.ref C) := (Looks.ld hx).andThen .now
  have t2 := looks_typeIn (M := model G.prog G.w) gX ht
  have i1 : Looks (model G.prog G.w) s₁.heap (isInstance (.ref x) (.type "BaseException")) true := t1.andThen sB
  have nt : ∀ {Q' : Bool → Shared → Prop} {E' : Value → Shared → Prop}, Q' false s₁ → wpAny (model G.prog G.w) A (isType (.ref x)) Q' E' s₁ := by
    intro Q' E' hq
    simp only [isType, loadHead]
    refine wpAny_bind (wpAny_loadPart hx ?_)
    exact wpAny_pure hq
  refine wpAny_bind (wpAny_pure ?_)
  dsimp only
  refine wpAny_bind (wpAny_holding ?_)
  unfold excFromValue isExcClass
  refine wpAny_bind (wpAny_bind (nt ?_))
  simp only [Bool.false_eq_true, if_false]
  refine wpAny_pure ?_
  simp only [Bool.false_eq_true, if_false]
  refine wpAny_bind (i1.here ?_)
  simp only [if_true]
  refine wpAny_pure ?_
  refine wpAny_bind (nt ?_)
  simp only [Bool.false_eq_true, if_false]
  unfold raisedInstance
  refine wpAny_bind (wpAny_bind (t1.here (wpAny_bind (t2.here ?_))))
  rw [if_pos (by decide)]
  refine wpAny_pure (wpAny_bind ?_)
  unfold setFlight
  refine wpAny_bind (wpAny_field hx rfl (x := Value.none) rfl ?_)
  rw [if_neg (by decide)]
  refine wpAny_pure ?_
  refine wpAny_raiseNew_none c.hh ?_
  cases b2 with
  | @dict fs es n b2 =>
    obtain ⟨u, g1, g2⟩ := b2.getL q4
    have hbase : base.get? x = none := by
      cases q : base.get? x with
      | none => rfl
      | some o => rw [c.below.stays _ _ q] at hb; cases hb
    have hL : base.get? L = none := by
      cases q : base.get? L with
      | none => rfl
      | some o => exact absurd (Nat.lt_of_lt_of_le (Heap.lt_size (c.below.stays _ _ q)) r₁.F.above) (Nat.lt_irrefl _)
    cases g2
    refine ⟨y, ⟨⟨x, d, none, es, n, _, rfl, fun b o q => r₁.F.keep _ _ (c.below.stays _ _ q), hbase, ?_, ⟨_, _, hx, rfl, rfl, rfl, by show (1:Nat) < 6; omega, rfl⟩, .inl rfl, hd, ⟨_, g1⟩⟩, ?_⟩, ⟨m₁.gens, m₁.drawn, m₁.os⟩, q5⟩
    · refine Heap.FunFrames.cons (by rw [c.hkf]; decide) c.hf r₁.F.ns hL (c.below.frames.of_keeps fun b o q _ => ⟨o, r₁.F.keep _ _ q, rfl⟩)
    · exact fun b o q _ => ⟨_, r₁.F.keep _ _ q⟩
end
end Mine

namespace Mine

section
variable {G : Cfg} {C : Addr} {k : Nat} {env : Env} {σ : St} {E : Str → Prop} {Q : AV → St → Prop} {QB : Bool → St → Prop} {QF : AF → St → Prop} {x : Str} {pos : Pos} {H : Hp} {QC : AV → Hp → Prop}

inductive SetC (a : Addr) (Q : AF → St → Prop) (v : AV) (σ : St) : Prop
  | mk (h1 : ∃ u, σ.H a = some (.cell u)) (h2 : Q .next ⟨σ.loc, σ.H.set a (.cell (some v))⟩)
theorem J.AssignC {e : Expr} {pos' : Pos} {a : Addr} (h : JE G C k env e σ (SetC a QF) E) (ha : env.cells.lookup x = some a) (hx : env.kindOf x = some .cell := by rfl)
    (hs : swapsWith e (some (.Name x pos')) pos.line env = pure false := by rfl) : J1 G C k env (.Assign [.Name x pos'] e pos) σ QF E := by
  intro fenv A A₀ base B outer L I s c r
  refine wpAny_Assign_Name (h.then c r (.refl s) fun v' s₂ v σ₂ I₂ k₂ hr ⟨own, m, r₂⟩ m₂ ⟨⟨u, q1⟩, q2⟩ => ?_) hs
  obtain ⟨o, h1, h2⟩ := r₂.objs a _ q1
  have hg := (r₂.N _ (List.mem_append_left _ h1)).1
  have fin : ∀ v₀, o.data = .cell v₀ → wpAny (model G.prog G.w) A (storeName env x v') (fun _ => PQ G B L I s (FR G.w) QF .next) (PE G C base (fenv :: outer) B L s E) s₂ := by
    intro v₀ hd
    refine wpAny_storeName_cell c.hk hx ha ⟨o, hg, hd⟩ fun h' hc hs' => ?_
    obtain ⟨o', e1, e2⟩ := hc
    obtain ⟨own', r'⟩ := r₂.upd h1 hs' e1 (.cell hr e2)
    exact ⟨.next, _, I₂, k₂, .next, ⟨own', m, r'⟩, ⟨m₂.gens, m₂.drawn, m₂.os⟩, q2⟩
  cases h2 with
  | cell _ hd => exact fin _ hd
  | cell0 hd => exact fin _ hd

theorem J.Nns {v : AV} {loc : List (Str × AV)} (hn : σ.H env.locals = some (.ns loc)) (hv : loc.lookup x = some v) (h : Q v σ) (hx : env.kindOf x = some .local := by rfl) (hd : (x == ("__debug__" : Str)) = false := by decide) : JE G C k env (.Name x pos) σ Q E := by
  intro fenv A A₀ base B outer L I s c ⟨own, m, r⟩
  obtain ⟨o, h1, h2⟩ := r.objs _ _ hn
  obtain ⟨_, _, _, a1, a2, a3, a4⟩ := h2.nsI
  · obtain ⟨v', e1, e2⟩ := a4 x v hv
    exact wpAny_Name (wpAny_loadName_local c.hk hx ⟨o, _, _, (r.N _ (List.mem_append_left _ h1)).1, a1, a2, a3⟩ e1 ⟨v, σ, I, List.Subset.refl I, e2, ⟨own, m, r⟩, .refl s, h⟩) hd

theorem entry_ascii_iter : entryFor table "str_ascii_iterator.__iter__" = some Builtin.«dict_keyiterator.__iter__» :=
  entryFor_alias (id' := "dict_keyiterator.__iter__") (by kernel_rfl) (by first | rfl | decide +kernel) (by decide +kernel) (by kernel_rfl)
theorem iter_self {B : Heap} {L : Addr} {I : Im} {A : Around} {s : Shared} {Ex : Value → Shared → Prop} {P : Value → Shared → Prop} {it : Addr} {vs : List AV} (r : Rel G B L I σ s.heap) (hi : σ.H it = some (.it vs)) (h : P (.ref it) s) : wpAny (model G.prog G.w) A (pyIter (.ref it)) P Ex s := by
  obtain ⟨own, m, r⟩ := r
  obtain ⟨o, h1, h2⟩ := r.objs _ _ hi
  have g := (r.N _ (List.mem_append_left _ h1)).1
  cases h2 with
  | itL a1 a2 a3 a4 => exact wpAny_pyIter_listiter ⟨o, g, a3, a4⟩ h
  | itT a1 a2 a3 a4 => exact wpAny_pyIter_tupleiter ⟨o, g, a3, a4⟩ h
  | itS a1 a3 a4 =>
    have hT : s.TypeIs (.ref it) "str_ascii_iterator" := ⟨o, g, a3⟩
    refine wpAny_pyIter_slot hT PySem.F.slot_str_ascii_iterator_iter (wpAny_call_entry PySem.F.slot_str_ascii_iterator_iter hT entry_ascii_iter ?_ (PySem.F.args_str_ascii_iterator_iter_1 _))
    show wpAny _ _ (ret (.ref it)) _ _ s
    exact wpAny_pure ⟨_, rfl, "str_ascii_iterator", _, hT, PySem.F.slot_str_ascii_iterator_next.lookup, h⟩
  | itR a1 => exact wpAny_pyIter_rangeiter g h

inductive CompQ (R : AV → St → Prop) (it D Cc : Addr) (vs acc : List AV) (u : AV) (σ : St) : Prop
  | mk (h1 : σ.H it = some (.it vs)) (h2 : σ.H D = some (.list acc)) (h3 : ∃ l, σ.H Cc = some (.ns l)) (h4 : acc.length ≤ 10000) (h5 : R u ⟨σ.loc, σ.H.set D (.list (acc ++ [u]))⟩)
noncomputable def CompJ (G : Cfg) (C : Addr) (k : Nat) (cenv : Env) (x : Str) (elt : Expr) (Q : AV → St → Prop) (it D Cc : Addr) : List AV → List AV → St → Prop
  | [], acc, σ => Q (.ref D) ⟨σ.loc, (σ.H.drop it).drop Cc⟩
  | v :: vs, acc, σ => JE G C k cenv elt ⟨σ.loc, (σ.H.set it (.it vs)).set Cc (.ns [(x, v)])⟩ (CompQ (fun u σ' => CompJ G C k cenv x elt Q it D Cc vs (acc ++ [u]) σ') it D Cc vs acc) (fun _ => False)

theorem Hp.set_same {H : Hp} {a : Addr} {o : AO} : (H.set a o) a = some o := by simp [Hp.set]
theorem Hp.set_ne {H : Hp} {a b : Addr} {o : AO} (h : b ≠ a) : (H.set a o) b = H b := by simp [Hp.set, h]
theorem Hp.drop_ne {H : Hp} {a b : Addr} (h : b ≠ a) : (H.drop a) b = H b := by simp [Hp.drop, h]
theorem Hp.drop_same {H : Hp} {a : Addr} : (H.drop a) a = none := by simp [Hp.drop]
theorem False_PE {B : Heap} {base : Heap} {l : List Env} {L : Addr} {s s' : Shared} {e : Value} {P : Prop} (h : PE G C base l B L s (fun _ => False) e s') : P := by obtain ⟨_, _, _, f⟩ := h; exact f.elim

inductive CompI (G : Cfg) (C : Addr) (k : Nat) (cenv : Addr → Env) (x : Str) (elt : Expr) (Q : AV → St → Prop) (v : AV) (σ : St) : Prop
  | mk (vs : List AV) (H₁ : Hp) (h1 : Iter σ.H v vs H₁) (h2 : ∀ it D Cc, H₁ it = none → H₁ D = none → H₁ Cc = none → it ≠ D → it ≠ Cc → D ≠ Cc →
      CompJ G C k (cenv Cc) x elt Q it D Cc vs [] ⟨σ.loc, ((H₁.set it (.it vs)).set D (.list [])).set Cc (.ns [])⟩)
inductive CompV (G : Cfg) (C : Addr) (k : Nat) (B : Heap) (L : Addr) (I : Im) (s : Shared) (cenv : Env) (x : Str) (elt : Expr) (Q : AV → St → Prop) (it D Cc : Addr) (n : Nat) (s' : Shared) : Prop
  | mk (σ' : St) (I' : Im) (us acc : List AV) (h1 : I ⊆ I') (h2 : Rel G B L I' σ' s'.heap) (h3 : Same s s') (h4 : us.length = n) (h5 : σ'.H it = some (.it us)) (h6 : σ'.H D = some (.list acc)) (h7 : ∃ l, σ'.H Cc = some (.ns l)) (h8 : CompJ G C k cenv x elt Q it D Cc us acc σ')
theorem comp_gen {elt iter : Expr} {px p' : Pos} {scope : Scope} {cl : List (Str × Addr)} {fenv : Env} {A A₀ : Around} {base B : Heap} {outer : List Env} {L : Addr} {I : Im} {s : Shared} {use : Option (Value → Sem Unit)} {P : Value → Shared → Prop}
    (h : JE G C k env iter σ (CompI G C k (fun Cc => compEnvC scope cl Cc env) x elt Q) E)
    (hclos : closureFor scope env = pure cl) (hcell : ∀ y ∈ scope.names, y.2 ≠ .cell) (hkind : scope.kind = .function) (hnames : ∀ y ∈ scope.names, y.2 = .local → scope.names.lookup y.1 = some .local) (hx : scope.names.lookup x = some .local)
    (hfl : env.frame = some env.locals) (hs : ∀ x, foldedSetIterable iter env x = pure x) (c : Cx G k env fenv A A₀ base B outer L) (r : Rel G B L I σ s.heap)
    (hend : ∀ (D Cc : Addr) (σ' : St) (I' : Im) (s' : Shared) (l : List (Str × AV)), I ⊆ I' → Rel G B L I' σ' s'.heap → Same s s' → σ'.H Cc = some (.ns l) → Q (.ref D) ⟨σ'.loc, σ'.H.drop Cc⟩ →
      compPost (model G.prog G.w) A (PE G C base (fenv :: outer) B L s E) use P (.ref D) Cc (.ok .next) s') :
    wpAny (model G.prog G.w) A (comprehension (.ListComp elt [⟨.Name x px, iter, [], 0⟩] scope pos) scope env p' (newList []) false (eval iter env) use) P (PE G C base (fenv :: outer) B L s E) s := by
  refine wpAny_comprehension_free rfl hs hclos hkind hnames (h.then c r (.refl s) fun v s₁ a σ₁ I₁ k₁ h₁ r₁ m₁ ⟨vs, H₁, q1, q2⟩ => q1.sound r₁ h₁ fun it s₂ I₂ k₂ hit ⟨own, m, r₂⟩ m₂ => ?_)
  refine wpAny_newObj_type (wpAny_newFunctionEnv hcell (by intro y hy; simp at hy) (fun h₃ hns hsb => ?_) hkind)
  dsimp only at hns hsb ⊢
  have r3 := r₂.newOwn (ao := .list []) (o := listOf ([] : List Value).toArray 0) rfl (.list .nil)
  have hD := r₂.fresh
  have r4 : ∃ own', RelW G B L I₂ ⟨σ₁.loc, ((H₁.set it (.it vs)).set s₂.heap.objs.size (.list [])).set (s₂.heap.push (listOf ([] : List Value).toArray 0)).objs.size (.ns [])⟩ h₃ own' m := by
    obtain ⟨oc, es, ep, g1, g2, g3, g4⟩ := hns
    have r4 := r3.newOwn (ao := .ns []) (o := { cls := .type (if (some env).isSome then "dict" else "frame"), data := .dict #[] }) rfl (.ns (m' := fun _ => none) rfl (fun e he => by simp at he) (fun _ => rfl) (fun x v e => by cases e))
    obtain ⟨own', r5⟩ := r4.upd (.head _) hsb g1 (.ns (loc := []) g2 g3 g4 fun x v e => by cases e)
    refine ⟨own', r5.F, r5.N, r5.apart, fun a ao e => r5.objs a ao ?_, r5.locs⟩
    simp only [Hp.set] at e ⊢
    split at e
    · rename_i q; rw [if_pos q]; exact e
    · rename_i q; rw [if_neg q, if_neg q]; exact e
  have hC := r3.fresh
  generalize hCc : (s₂.heap.push (listOf ([] : List Value).toArray 0)).objs.size = Cc at r4 hC hns hsb
  generalize hDd : s₂.heap.objs.size = D at r4 hD hC
  have hDC : D ≠ Cc := by rw [← hDd, ← hCc, Heap.size_push]; exact Nat.ne_of_lt (Nat.lt_succ_self _)
  have hitD : it ≠ D := fun q => by rw [q] at hD; rw [← q] at hD; simp [Hp.set] at hD
  have hitC : it ≠ Cc := fun q => by rw [← q] at hC; simp [Hp.set, hitD] at hC
  have hD1 : H₁ D = none := by simpa [Hp.set, Ne.symm hitD] using hD
  have hC1 : H₁ Cc = none := by simpa [Hp.set, Ne.symm hitC, Ne.symm hDC] using hC
  have hLC : L ≠ Cc := by
    have := r₂.F.ns.lt
    rw [← hCc, Heap.size_push]; exact Nat.ne_of_lt (Nat.lt_succ_of_lt this)
  have c' : Cx G k (compEnvC scope cl Cc env) fenv A A₀ base B outer L :=
    ⟨c.ok, c.fr, c.hf, fun q => by
      have : env.frame = some Cc := q
      rw [hfl, (c.hl hfl).2] at this
      exact absurd (Option.some.inj this) hLC, hkind, c.hkf, c.hh, c.hg, c.hb, c.below, c.gf⟩
  have hst := q2 it D Cc hit hD1 hC1 hitD hitC hDC
  have loop : ∀ s₄ : Shared, s₄ = { s₂ with heap := h₃, toks := s₂.toks + ([] : List (Str × Value)).length } →
      codeAny (model G.prog G.w) A (.compLoop (.ListComp elt [⟨.Name x px, iter, [], 0⟩] scope pos) 0 (.ref it) (.ref D) (compEnvC scope cl Cc env)) (compPost (model G.prog G.w) A (PE G C base (fenv :: outer) B L s E) use P (.ref D) Cc) s₄ := by
    rintro s₄ rfl
    refine codeAny_compLoop_list (CompV G C k B L I s (compEnvC scope cl Cc env) x elt Q it D Cc)
      (fun n s₅ ⟨σ₅, I₅, us, acc, k₅, r₅, m₅, hn, hu, hd, ⟨l, hc⟩, hi⟩ => ?_) vs.length ⟨_, I₂, vs, [], List.Subset.trans k₁ k₂, r4.imp fun own' z => ⟨m, z⟩, (m₁.trans m₂).trans ⟨rfl, rfl, rfl⟩, rfl, by simp [Hp.set, hitD, hitC], by simp [Hp.set, hDC], ⟨[], by simp [Hp.set]⟩, hst⟩
    cases us with
    | nil =>
      exact next_none c.hh r₅ hu fun s₆ r₆ m₆ => hend D Cc _ I₅ s₆ l k₅ r₆ (m₅.trans m₆) ((Hp.drop_ne (H := σ₅.H) (Ne.symm hitC)).trans hc) hi
    | cons u us =>
      refine next_some r₅ hu fun u' s₆ hu' ⟨own₆, m', r₆⟩ m₆ => ?_
      have hc6 : (σ₅.H.set it (.it us)) Cc = some (.ns l) := by rw [Hp.set_ne (Ne.symm hitC)]; exact hc
      obtain ⟨oc, b1, b2⟩ := r₆.objs _ _ hc6
      obtain ⟨_, _, _, g1, g2, g3, g4⟩ := b2.nsI
      · have hkx : (compEnvC scope cl Cc env).kindOf x = some .local := lookup_relabel_local hx
        refine PyProof.Rows.assign_Name (wpAny_storeName_local hkx (m := _) ⟨oc, _, _, (r₆.N _ (List.mem_append_left _ b1)).1, g1, g2, g3⟩ (fun h' hn' hs' => ?_) (by simp [compEnvC, relabel, hkind]))
        obtain ⟨oc', es', ep', e1, e2, e3, e4⟩ := hn'
        obtain ⟨own₇, r₇⟩ := r₆.upd (ao := .ns [(x, u)]) b1 hs' e1 (.ns e2 e3 e4 fun y v e => by
          simp only [List.lookup] at e
          split at e
          · rename_i q; cases e; have := eq_of_beq q; subst this; exact ⟨u', by simp, hu'⟩
          · cases e)
        refine wpAny_mono (J.then hi c' ⟨own₇, m', r₇⟩ (.refl _) fun w' s₈ uu σ₈ I₈ k₈ hw ⟨own₈, m₈', r₈⟩ m₈ ⟨z1, z2, ⟨l', z3⟩, z4, z5⟩ => ?_) (fun _ _ z => z) (fun e s' z => False_PE z)
        have rr : Rel G B L I₈ σ₈ s₈.heap := ⟨own₈, m₈', r₈⟩
        have hQC : (fun (b : AV) (H' : Hp) => b = .none ∧ H' = σ₈.H.set D (.list (acc ++ [uu]))) .none (σ₈.H.set D (.list (acc ++ [uu]))) := ⟨rfl, rfl⟩
        have ap := Cl.append (G := G) (C := C) (k := k) (E := fun _ => False) (v := uu) (QC := fun b H' => b = .none ∧ H' = σ₈.H.set D (.list (acc ++ [uu]))) z2 (by rw [sizeLine_eq]; omega) hQC
        refine wpAny_mono (ap (compEnvC scope cl Cc env) fenv σ₈.loc A A₀ base B outer L I₈ s₈ _ c' rr (.cons (.ref D) (.cons hw .nil))) (fun v'' s₉ ⟨b, ⟨lo, H₉⟩, I₉, k₉, _, r₉, m₉, e5, _, e7⟩ => ?_) (fun e s' z => False_PE z)
        subst e7
        dsimp only at e5
        subst e5
        refine ⟨us.length, by simp at hn; omega, ⟨σ₈.loc, _⟩, I₉, us, acc ++ [uu], List.Subset.trans k₅ (List.Subset.trans k₈ k₉), r₉, ((m₅.trans m₆).trans ⟨m₈.gens, m₈.drawn, m₈.os⟩).trans m₉, rfl, ?_, ?_, ⟨l', ?_⟩, z5⟩
        · show (σ₈.H.set D _) it = _; rw [Hp.set_ne hitD]; exact z1
        · exact Hp.set_same
        · show (σ₈.H.set D _) Cc = _; rw [Hp.set_ne (Ne.symm hDC)]; exact z3
  refine codeAny_compStart_list (loop _ rfl) ?_
  obtain ⟨own', r4⟩ := r4
  have r4' : Rel G B L I₂ ⟨σ₁.loc, ((H₁.set it (.it vs)).set D (.list [])).set Cc (.ns [])⟩ h₃ := ⟨own', m, r4⟩
  exact iter_self (s := { s₂ with heap := h₃, toks := s₂.toks + ([] : List (Str × Value)).length }) r4' (vs := vs) (by simp [Hp.set, hitD, hitC]) (loop _ rfl)
theorem J.Comp {elt iter : Expr} {px : Pos} {scope : Scope} {cl : List (Str × Addr)}
    (h : JE G C k env iter σ (CompI G C k (fun Cc => compEnvC scope cl Cc env) x elt Q) E)
    (hclos : closureFor scope env = pure cl) (hcell : ∀ y ∈ scope.names, y.2 ≠ .cell) (hkind : scope.kind = .function) (hnames : ∀ y ∈ scope.names, y.2 = .local → scope.names.lookup y.1 = some .local) (hx : scope.names.lookup x = some .local)
    (hfl : env.frame = some env.locals) (hs : ∀ x, foldedSetIterable iter env x = pure x := by intro _; rfl) : JE G C k env (.ListComp elt [⟨.Name x px, iter, [], 0⟩] scope pos) σ Q E := by
  intro fenv A A₀ base B outer L I s c r
  rw [eval_ListComp]
  refine comp_gen h hclos hcell hkind hnames hx hfl hs c r fun D Cc σ' I' s' l k' ⟨own, m, r'⟩ m' hc q => ?_
  obtain ⟨oc, b1, b2⟩ := r'.objs _ _ hc
  obtain ⟨_, _, _, g1, g2, g3, g4⟩ := b2.nsI
  exact ⟨_, ⟨oc, _, _, (r'.N _ (List.mem_append_left _ b1)).1, g1, g2, g3⟩, fun h' hs' => ⟨.ref D, _, I', k', .ref D, ⟨_, m, r'.lose b1 hs'.extBut⟩, ⟨m'.gens, m'.drawn, m'.os⟩, q⟩⟩
end
end Mine

namespace Mine
open PySem.Builtin PySem.Builtin.Str

noncomputable def S (l : List Nat) : Str := ⟨l.toArray⟩
theorem S_inj {a b : List Nat} : S a = S b ↔ a = b := by
  constructor
  · intro h; have := congrArg (fun x : Str => x.cps.toList) h; simpa [S] using this
  · intro h; rw [h]
theorem S_beq (a b : List Nat) : (S a == S b) = decide (a = b) := by
  rw [Bool.eq_iff_iff, beq_iff_eq, S_inj, decide_eq_true_eq]
theorem S_bne (a b : List Nat) : (S a != S b) = !decide (a = b) := by
  show (!(S a == S b)) = _; rw [S_beq]
theorem S_len (l : List Nat) : (S l).length = l.length := by simp [S, Str.length]
theorem S_app (a b : List Nat) : S a ++ S b = S (a ++ b) := by
  show (⟨(S a).cps ++ (S b).cps⟩ : Str) = _; simp [S]
theorem S_lit (x : Str) : x = S x.cps.toList := by obtain ⟨a⟩ := x; simp [S]

theorem idx_clip (a b len : Nat) : strSliceIndices (some (a : Int)) (some (b : Int)) 1 len = strSliceIndices (some ((min a len : Nat) : Int)) (some ((min b len : Nat) : Int)) 1 len := by
  unfold strSliceIndices
  have h1 : ¬ ((a : Int) < 0) := by omega
  have h2 : ¬ ((b : Int) < 0) := by omega
  have h3 : ¬ (((min a len : Nat) : Int) < 0) := by omega
  have h4 : ¬ (((min b len : Nat) : Int) < 0) := by omega
  simp only [h1, h2, h3, h4, if_false, show (1 : Int) > 0 by decide, if_true]
  have k : ∀ a : Nat, min ((min a len : Nat) : Int) (len : Int) = min (a : Int) (len : Int) := fun a => by
    rcases Nat.le_total a len with h | h
    · rw [Nat.min_eq_left h]
    · rw [Nat.min_eq_right h, Int.min_eq_right (Int.ofNat_le.mpr h)]; exact Int.min_eq_right (Int.le_refl _)
  rw [k, k]
theorem sl (l : List Nat) (a b : Nat) (h : a ≤ b) : Txt.slice (S l) (some (a : Int)) (some (b : Int)) = S ((l.drop a).take (b - a)) := by
  have e : ∀ a b : Nat, Txt.slice (S l) (some (a : Int)) (some (b : Int)) = StrLaws.sliceText (S l) (some ((min a l.length : Nat) : Int)) (some ((min b l.length : Nat) : Int)) := by
    intro a b
    show StrLaws.sliceText (S l) _ _ = _
    unfold StrLaws.sliceText
    rw [idx_clip a b (S l).length, S_len]
  rw [e, StrLaws.sliceText_nat (S l) (by omega) (by rw [S_len]; omega)]
  show S _ = S _
  congr 1
  simp only [S, List.toList_toArray]
  rcases Nat.le_total a l.length with q | q
  · rw [Nat.min_eq_left q]
    rcases Nat.le_total b l.length with q' | q'
    · rw [Nat.min_eq_left q']
    · rw [Nat.min_eq_right q', List.take_of_length_le (by simp), List.take_of_length_le (by simp; omega)]
  · rw [Nat.min_eq_right q, List.drop_length, List.drop_eq_nil_of_le q]; simp

noncomputable def lowC (c : Nat) : Nat := if 65 ≤ c ∧ c ≤ 90 then c + 32 else c
noncomputable def upC (c : Nat) : Nat := if 97 ≤ c ∧ c ≤ 122 then c - 32 else c
theorem low_ascii : ∀ c < 128, Unicode.lowerOf c = [lowC c] := by decide +kernel
theorem up_ascii : ∀ c < 128, Unicode.upperOf c = [upC c] := by decide +kernel
theorem flat_one (g : Nat → Nat) : ∀ l : List Nat, (l.map fun c => #[g c]).toArray.flatten = (l.map g).toArray
  | [] => rfl
  | c :: l => by
    have := flat_one g l
    simp at this ⊢
    exact this
theorem lower_S (l : List Nat) (h : ∀ c ∈ l, c < 128) : Txt.lower (S l) = S (l.map lowC) := by
  unfold Txt.lower S placed
  congr 1
  have e : (l.toArray.mapIdx fun i c => (Unicode.lowerAt l.toArray i).toArray) = (l.map fun c => #[lowC c]).toArray := by
    apply Array.ext
    · simp
    · intro i h1 h2
      simp only [List.size_toArray, List.length_map, Array.size_mapIdx] at h1 h2
      have hc : l[i] < 128 := h _ (List.getElem_mem h1)
      simp only [Array.getElem_mapIdx, List.getElem_toArray, List.getElem_map]
      unfold Unicode.lowerAt
      have hg : l.toArray[i]? = some l[i] := by simp [h1]
      rw [hg]
      have h3 : (l[i] == 0x3A3) = false := by simp; omega
      simp only [h3, Bool.false_and, Bool.false_eq_true, if_false]
      rw [low_ascii _ hc]
  rw [e, flat_one]
theorem upper_S (l : List Nat) (h : ∀ c ∈ l, c < 128) : Txt.upper (S l) = S (l.map upC) := by
  unfold Txt.upper S placed
  congr 1
  have e : (l.toArray.mapIdx fun i c => (Unicode.upperOf c).toArray) = (l.map fun c => #[upC c]).toArray := by
    apply Array.ext
    · simp
    · intro i h1 h2
      simp only [List.size_toArray, List.length_map, Array.size_mapIdx] at h1 h2
      have hc : l[i] < 128 := h _ (List.getElem_mem h1)
      simp only [Array.getElem_mapIdx, List.getElem_toArray, List.getElem_map]
      rw [up_ascii _ hc]
  rw [e, flat_one]

theorem in_one (x : Str) (c : Nat) : (!(occurrences x (S [c]) 0 x.length 1).isEmpty) = decide (c ∈ x.cps.toList) := StrLaws.found_one x c
theorem occ_no (s sub : Str) (hi limit : Nat) : ∀ (l : List Nat) (free : Nat), (∀ i ∈ l, ¬ (i + sub.length ≤ hi ∧ subAt s sub i = true)) →
    (forIn l ((#[] : Array Nat), free) (StrLaws.occBody s sub hi limit)).run.fst = #[]
  | [], _, _ => rfl
  | a :: l, free, h => by
    rw [List.forIn_cons]
    unfold StrLaws.occBody
    rw [if_neg fun q => h a (.head _) ⟨q.1.2, q.2⟩]
    exact occ_no s sub hi limit l free fun i hi' => h i (.tail _ hi')
theorem no_occ (l : List Nat) (c limit : Nat) (h : c ∉ l) : (occurrences (S l) (S [c]) 0 (S l).length limit).isEmpty = true := by
  rw [StrLaws.occ_eq, occ_no]
  · rfl
  · intro i _ q
    have := (StrLaws.subAt_one (S l) c i).mp q
    exact h (List.mem_of_getElem? (by simpa [S] using this))

noncomputable def joinL (sep : List Nat) : List (List Nat) → List Nat
  | [] => []
  | [x] => x
  | x :: r => x ++ sep ++ joinL sep r
theorem join_S (sep : List Nat) : ∀ xs : List (List Nat), Txt.join (S sep) (xs.map S) = S (joinL sep xs) := by
  intro xs
  show glued _ _ = _
  rw [StrLaws.glued_eq_join]
  induction xs with
  | nil => rfl
  | cons x r ih =>
    cases r with
    | nil => rfl
    | cons y r =>
      show S x ++ S sep ++ Str.join (S sep) ((y :: r).map S) = _
      rw [ih, S_app, S_app]; rfl
theorem ofS (s : String) (l : List Nat) (h1 : s = String.ofList (l.map Char.ofNat)) (h2 : (l.map Char.ofNat).map Char.toNat = l) : Str.ofString s = S l := by
  rw [Str.ofString_eq_toList, h1, String.toList_ofList, h2]; rfl
end Mine

namespace Mine

-- the reader of tokens, over the text that is left
noncomputable def isLet (c : Nat) : Bool := (decide (97 ≤ c) && decide (c ≤ 122)) || (decide (65 ≤ c) && decide (c ≤ 90))
noncomputable def isDig (c : Nat) : Bool := decide (48 ≤ c) && decide (c ≤ 57)
noncomputable def isWrd (c : Nat) : Bool := isLet c || isDig c || c == 95
noncomputable def isLay (c : Nat) : Bool := c == 32 || c == 9 || c == 10 || c == 13 || c == 12 || c == 11
noncomputable def hdB (f : Nat → Bool) : List Nat → Bool
  | [] => false
  | c :: _ => f c

inductive Tk where
  | key (w : List Nat)
  | id (w : List Nat)
  | op (w : List Nat)
  | num (size base digits : List Nat)
  | eof

noncomputable def lst (s : String) : List Nat := s.toList.map Char.toNat
noncomputable def words : Str := "always and assign automatic begin buf bufif0 bufif1 case casex casez cell cmos config deassign default defparam design disable edge else end endcase endconfig endfunction endgenerate endmodule endprimitive endspecify endtable endtask event for force forever fork function generate genvar highz0 highz1 if ifnone incdir include initial inout input instance integer join large liblist library localparam macromodule medium module nand negedge nmos nor noshowcancelled not notif0 notif1 or output parameter pmos posedge primitive pull0 pull1 pulldown pullup pulsestyle_onevent pulsestyle_ondetect rcmos real realtime reg release repeat rnmos rpmos rtran rtranif0 rtranif1 scalared showcancelled signed small specify specparam strong0 strong1 supply0 supply1 table task time tran tranif0 tranif1 tri tri0 tri1 triand trior trireg unsigned use uwire vectored wait wand weak0 weak1 while wire wor xnor xor"
noncomputable def wordL : List Nat := [97, 108, 119, 97, 121, 115, 32, 97, 110, 100, 32, 97, 115, 115, 105, 103, 110, 32, 97, 117, 116, 111, 109, 97, 116, 105, 99, 32, 98, 101, 103, 105, 110, 32, 98, 117, 102, 32, 98, 117, 102, 105, 102, 48, 32, 98, 117, 102, 105, 102, 49, 32, 99, 97, 115, 101, 32, 99, 97, 115, 101, 120, 32, 99, 97, 115, 101, 122, 32, 99, 101, 108, 108, 32, 99, 109, 111, 115, 32, 99, 111, 110, 102, 105, 103, 32, 100, 101, 97, 115, 115, 105, 103, 110, 32, 100, 101, 102, 97, 117, 108, 116, 32, 100, 101, 102, 112, 97, 114, 97, 109, 32, 100, 101, 115, 105, 103, 110, 32, 100, 105, 115, 97, 98, 108, 101, 32, 101, 100, 103, 101, 32, 101, 108, 115, 101, 32, 101, 110, 100, 32, 101, 110, 100, 99, 97, 115, 101, 32, 101, 110, 100, 99, 111, 110, 102, 105, 103, 32, 101, 110, 100, 102, 117, 110, 99, 116, 105, 111, 110, 32, 101, 110, 100, 103, 101, 110, 101, 114, 97, 116, 101, 32, 101, 110, 100, 109, 111, 100, 117, 108, 101, 32, 101, 110, 100, 112, 114, 105, 109, 105, 116, 105, 118, 101, 32, 101, 110, 100, 115, 112, 101, 99, 105, 102, 121, 32, 101, 110, 100, 116, 97, 98, 108, 101, 32, 101, 110, 100, 116, 97, 115, 107, 32, 101, 118, 101, 110, 116, 32, 102, 111, 114, 32, 102, 111, 114, 99, 101, 32, 102, 111, 114, 101, 118, 101, 114, 32, 102, 111, 114, 107, 32, 102, 117, 110, 99, 116, 105, 111, 110, 32, 103, 101, 110, 101, 114, 97, 116, 101, 32, 103, 101, 110, 118, 97, 114, 32, 104, 105, 103, 104, 122, 48, 32, 104, 105, 103, 104, 122, 49, 32, 105, 102, 32, 105, 102, 110, 111, 110, 101, 32, 105, 110, 99, 100, 105, 114, 32, 105, 110, 99, 108, 117, 100, 101, 32, 105, 110, 105, 116, 105, 97, 108, 32, 105, 110, 111, 117, 116, 32, 105, 110, 112, 117, 116, 32, 105, 110, 115, 116, 97, 110, 99, 101, 32, 105, 110, 116, 101, 103, 101, 114, 32, 106, 111, 105, 110, 32, 108, 97, 114, 103, 101, 32, 108, 105, 98, 108, 105, 115, 116, 32, 108, 105, 98, 114, 97, 114, 121, 32, 108, 111, 99, 97, 108, 112, 97, 114, 97, 109, 32, 109, 97, 99, 114, 111, 109, 111, 100, 117, 108, 101, 32, 109, 101, 100, 105, 117, 109, 32, 109, 111, 100, 117, 108, 101, 32, 110, 97, 110, 100, 32, 110, 101, 103, 101, 100, 103, 101, 32, 110, 109, 111, 115, 32, 110, 111, 114, 32, 110, 111, 115, 104, 111, 119, 99, 97, 110, 99, 101, 108, 108, 101, 100, 32, 110, 111, 116, 32, 110, 111, 116, 105, 102, 48, 32, 110, 111, 116, 105, 102, 49, 32, 111, 114, 32, 111, 117, 116, 112, 117, 116, 32, 112, 97, 114, 97, 109, 101, 116, 101, 114, 32, 112, 109, 111, 115, 32, 112, 111, 115, 101, 100, 103, 101, 32, 112, 114, 105, 109, 105, 116, 105, 118, 101, 32, 112, 117, 108, 108, 48, 32, 112, 117, 108, 108, 49, 32, 112, 117, 108, 108, 100, 111, 119, 110, 32, 112, 117, 108, 108, 117, 112, 32, 112, 117, 108, 115, 101, 115, 116, 121, 108, 101, 95, 111, 110, 101, 118, 101, 110, 116, 32, 112, 117, 108, 115, 101, 115, 116, 121, 108, 101, 95, 111, 110, 100, 101, 116, 101, 99, 116, 32, 114, 99, 109, 111, 115, 32, 114, 101, 97, 108, 32, 114, 101, 97, 108, 116, 105, 109, 101, 32, 114, 101, 103, 32, 114, 101, 108, 101, 97, 115, 101, 32, 114, 101, 112, 101, 97, 116, 32, 114, 110, 109, 111, 115, 32, 114, 112, 109, 111, 115, 32, 114, 116, 114, 97, 110, 32, 114, 116, 114, 97, 110, 105, 102, 48, 32, 114, 116, 114, 97, 110, 105, 102, 49, 32, 115, 99, 97, 108, 97, 114, 101, 100, 32, 115, 104, 111, 119, 99, 97, 110, 99, 101, 108, 108, 101, 100, 32, 115, 105, 103, 110, 101, 100, 32, 115, 109, 97, 108, 108, 32, 115, 112, 101, 99, 105, 102, 121, 32, 115, 112, 101, 99, 112, 97, 114, 97, 109, 32, 115, 116, 114, 111, 110, 103, 48, 32, 115, 116, 114, 111, 110, 103, 49, 32, 115, 117, 112, 112, 108, 121, 48, 32, 115, 117, 112, 112, 108, 121, 49, 32, 116, 97, 98, 108, 101, 32, 116, 97, 115, 107, 32, 116, 105, 109, 101, 32, 116, 114, 97, 110, 32, 116, 114, 97, 110, 105, 102, 48, 32, 116, 114, 97, 110, 105, 102, 49, 32, 116, 114, 105, 32, 116, 114, 105, 48, 32, 116, 114, 105, 49, 32, 116, 114, 105, 97, 110, 100, 32, 116, 114, 105, 111, 114, 32, 116, 114, 105, 114, 101, 103, 32, 117, 110, 115, 105, 103, 110, 101, 100, 32, 117, 115, 101, 32, 117, 119, 105, 114, 101, 32, 118, 101, 99, 116, 111, 114, 101, 100, 32, 119, 97, 105, 116, 32, 119, 97, 110, 100, 32, 119, 101, 97, 107, 48, 32, 119, 101, 97, 107, 49, 32, 119, 104, 105, 108, 101, 32, 119, 105, 114, 101, 32, 119, 111, 114, 32, 120, 110, 111, 114, 32, 120, 111, 114]
theorem words_S : words = S wordL := ofS _ _ (by rfl) (by decide +kernel)
noncomputable def cutB : List Nat → List Nat → List (List Nat)
  | [], acc => [acc.reverse]
  | c :: r, acc => if c = 32 then acc.reverse :: cutB r [] else cutB r (c :: acc)
noncomputable def kwL : List (List Nat) := [[97, 108, 119, 97, 121, 115], [97, 110, 100], [97, 115, 115, 105, 103, 110], [97, 117, 116, 111, 109, 97, 116, 105, 99], [98, 101, 103, 105, 110], [98, 117, 102], [98, 117, 102, 105, 102, 48], [98, 117, 102, 105, 102, 49], [99, 97, 115, 101], [99, 97, 115, 101, 120], [99, 97, 115, 101, 122], [99, 101, 108, 108], [99, 109, 111, 115], [99, 111, 110, 102, 105, 103], [100, 101, 97, 115, 115, 105, 103, 110], [100, 101, 102, 97, 117, 108, 116], [100, 101, 102, 112, 97, 114, 97, 109], [100, 101, 115, 105, 103, 110], [100, 105, 115, 97, 98, 108, 101], [101, 100, 103, 101], [101, 108, 115, 101], [101, 110, 100], [101, 110, 100, 99, 97, 115, 101], [101, 110, 100, 99, 111, 110, 102, 105, 103], [101, 110, 100, 102, 117, 110, 99, 116, 105, 111, 110], [101, 110, 100, 103, 101, 110, 101, 114, 97, 116, 101], [101, 110, 100, 109, 111, 100, 117, 108, 101], [101, 110, 100, 112, 114, 105, 109, 105, 116, 105, 118, 101], [101, 110, 100, 115, 112, 101, 99, 105, 102, 121], [101, 110, 100, 116, 97, 98, 108, 101], [101, 110, 100, 116, 97, 115, 107], [101, 118, 101, 110, 116], [102, 111, 114], [102, 111, 114, 99, 101], [102, 111, 114, 101, 118, 101, 114], [102, 111, 114, 107], [102, 117, 110, 99, 116, 105, 111, 110], [103, 101, 110, 101, 114, 97, 116, 101], [103, 101, 110, 118, 97, 114], [104, 105, 103, 104, 122, 48], [104, 105, 103, 104, 122, 49], [105, 102], [105, 102, 110, 111, 110, 101], [105, 110, 99, 100, 105, 114], [105, 110, 99, 108, 117, 100, 101], [105, 110, 105, 116, 105, 97, 108], [105, 110, 111, 117, 116], [105, 110, 112, 117, 116], [105, 110, 115, 116, 97, 110, 99, 101], [105, 110, 116, 101, 103, 101, 114], [106, 111, 105, 110], [108, 97, 114, 103, 101], [108, 105, 98, 108, 105, 115, 116], [108, 105, 98, 114, 97, 114, 121], [108, 111, 99, 97, 108, 112, 97, 114, 97, 109], [109, 97, 99, 114, 111, 109, 111, 100, 117, 108, 101], [109, 101, 100, 105, 117, 109], [109, 111, 100, 117, 108, 101], [110, 97, 110, 100], [110, 101, 103, 101, 100, 103, 101], [110, 109, 111, 115], [110, 111, 114], [110, 111, 115, 104, 111, 119, 99, 97, 110, 99, 101, 108, 108, 101, 100], [110, 111, 116], [110, 111, 116, 105, 102, 48], [110, 111, 116, 105, 102, 49], [111, 114], [111, 117, 116, 112, 117, 116], [112, 97, 114, 97, 109, 101, 116, 101, 114], [112, 109, 111, 115], [112, 111, 115, 101, 100, 103, 101], [112, 114, 105, 109, 105, 116, 105, 118, 101], [112, 117, 108, 108, 48], [112, 117, 108, 108, 49], [112, 117, 108, 108, 100, 111, 119, 110], [112, 117, 108, 108, 117, 112], [112, 117, 108, 115, 101, 115, 116, 121, 108, 101, 95, 111, 110, 101, 118, 101, 110, 116], [112, 117, 108, 115, 101, 115, 116, 121, 108, 101, 95, 111, 110, 100, 101, 116, 101, 99, 116], [114, 99, 109, 111, 115], [114, 101, 97, 108], [114, 101, 97, 108, 116, 105, 109, 101], [114, 101, 103], [114, 101, 108, 101, 97, 115, 101], [114, 101, 112, 101, 97, 116], [114, 110, 109, 111, 115], [114, 112, 109, 111, 115], [114, 116, 114, 97, 110], [114, 116, 114, 97, 110, 105, 102, 48], [114, 116, 114, 97, 110, 105, 102, 49], [115, 99, 97, 108, 97, 114, 101, 100], [115, 104, 111, 119, 99, 97, 110, 99, 101, 108, 108, 101, 100], [115, 105, 103, 110, 101, 100], [115, 109, 97, 108, 108], [115, 112, 101, 99, 105, 102, 121], [115, 112, 101, 99, 112, 97, 114, 97, 109], [115, 116, 114, 111, 110, 103, 48], [115, 116, 114, 111, 110, 103, 49], [115, 117, 112, 112, 108, 121, 48], [115, 117, 112, 112, 108, 121, 49], [116, 97, 98, 108, 101], [116, 97, 115, 107], [116, 105, 109, 101], [116, 114, 97, 110], [116, 114, 97, 110, 105, 102, 48], [116, 114, 97, 110, 105, 102, 49], [116, 114, 105], [116, 114, 105, 48], [116, 114, 105, 49], [116, 114, 105, 97, 110, 100], [116, 114, 105, 111, 114], [116, 114, 105, 114, 101, 103], [117, 110, 115, 105, 103, 110, 101, 100], [117, 115, 101], [117, 119, 105, 114, 101], [118, 101, 99, 116, 111, 114, 101, 100], [119, 97, 105, 116], [119, 97, 110, 100], [119, 101, 97, 107, 48], [119, 101, 97, 107, 49], [119, 104, 105, 108, 101], [119, 105, 114, 101], [119, 111, 114], [120, 110, 111, 114], [120, 111, 114]]
theorem kwL_eq : cutB wordL [] = kwL := by decide +kernel
noncomputable def pairText : Str := "** << >> <= >= == != && || ~& ~| ~^ ^~ -> +: -: =>"
noncomputable def pairL : List (List Nat) := [[42, 42], [60, 60], [62, 62], [60, 61], [62, 61], [61, 61], [33, 61], [38, 38], [124, 124], [126, 38], [126, 124], [126, 94], [94, 126], [45, 62], [43, 58], [45, 58], [61, 62]]
noncomputable def tripL : List (List Nat) := [[60, 60, 60], [62, 62, 62], [61, 61, 61], [33, 61, 61]]
noncomputable def opL : List Nat := [43, 45, 33, 126, 38, 124, 94, 42, 47, 37, 60, 62, 61, 63, 58, 40, 41, 91, 93, 123, 125, 44, 59, 46, 64, 35]

noncomputable def takeW (f : Nat → Bool) : List Nat → List Nat
  | [] => []
  | c :: r => if f c then c :: takeW f r else []
noncomputable def dropW (f : Nat → Bool) : List Nat → List Nat
  | [] => []
  | c :: r => if f c then dropW f r else c :: r
noncomputable def isReal (r : List Nat) : Bool :=
  if hdB (· == 46) r then hdB isDig (r.drop 1)
  else if !(hdB (fun c => c == 101 || c == 69) r) then false
  else if hdB (fun c => c == 43 || c == 45) (r.drop 1) then hdB isDig (r.drop 2)
  else hdB isDig (r.drop 1)
noncomputable def lexBased (size : List Nat) (r : List Nat) : Option (Tk × List Nat) :=
  match r with
  | b :: c :: r' => if (b = 98 ∨ b = 66) ∧ (c = 48 ∨ c = 49 ∨ c = 120) ∧ hdB (fun c => isWrd c || c == 63) r' = false then some (.num size [98] [c], r') else none
  | _ => none
noncomputable def lexAt (r : List Nat) : Option (Tk × List Nat) :=
  match r with
  | [] => some (.eof, [])
  | c :: _ =>
    if isLet c || c == 95 then
      let w := takeW (fun c => isWrd c || c == 36) r
      let r' := dropW (fun c => isWrd c || c == 36) r
      some (if kwL.contains w then .key w else .id w, r')
    else if isDig c then
      let d := takeW (fun c => isDig c || c == 95) r
      let r' := dropW (fun c => isDig c || c == 95) r
      if isReal r' || d.contains 95 then none
      else match dropW isLay r' with
        | 39 :: q => lexBased d q
        | _ => some (.num [] [] d, r')
    else if c == 39 || c == 92 || c == 36 || c == 34 then none
    else if tripL.contains (r.take 3) then none
    else if pairL.contains (r.take 2) then some (.op (r.take 2), r.drop 2)
    else if opL.contains c then some (.op [c], r.drop 1)
    else none
noncomputable def lexTok (r : List Nat) : Option (Tk × List Nat) :=
  let r := dropW isLay r
  if r.take 2 = [47, 47] ∨ r.take 2 = [47, 42] ∨ r.take 2 = [40, 42] then none else lexAt r

-- the reader of primitives, over the token at hand and the text behind it
noncomputable abbrev PS0 := Tk × List Nat
noncomputable def PM (α : Type) := PS0 → Option (Except Str (α × PS0))
noncomputable def PM.ret {α : Type} (a : α) : PM α := fun s => some (.ok (a, s))
noncomputable def PM.bind {α β : Type} (m : PM α) (f : α → PM β) : PM β := fun s => match m s with
  | none => none
  | some (.error k) => some (.error k)
  | some (.ok (a, s')) => f a s'
noncomputable def PM.fail {α : Type} (k : Str) : PM α := fun _ => some (.error k)
noncomputable def PM.out {α : Type} : PM α := fun _ => none
noncomputable def pTake : PM Tk := fun s => match lexTok s.2 with
  | none => none
  | some s' => some (.ok (s.1, s'))
noncomputable def pTok : PM Tk := fun s => some (.ok (s.1, s))
noncomputable def isOp (w : List Nat) : Tk → Bool
  | .op v => v == w
  | _ => false
noncomputable def isKey (w : List Nat) : Tk → Bool
  | .key v => v == w
  | _ => false
noncomputable def pIsOp (w : List Nat) : PM Bool := fun s => some (.ok (isOp w s.1, s))
noncomputable def pIsKey (w : List Nat) : PM Bool := fun s => some (.ok (isKey w s.1, s))
noncomputable def pAcceptOp (w : List Nat) : PM Bool := (pIsOp w).bind fun b => if b then pTake.bind fun _ => .ret true else .ret false
noncomputable def pAcceptKey (w : List Nat) : PM Bool := (pIsKey w).bind fun b => if b then pTake.bind fun _ => .ret true else .ret false
noncomputable def pExpectOp (w : List Nat) : PM Unit := (pAcceptOp w).bind fun b => if b then .ret () else .fail "unexpected_token"
noncomputable def pExpectKey (w : List Nat) : PM Unit := (pAcceptKey w).bind fun b => if b then .ret () else .fail "unexpected_token"
noncomputable def pExpectId : PM (List Nat) := pTok.bind fun t => match t with
  | .id w => pTake.bind fun _ => .ret w
  | _ => .fail "unexpected_token"

noncomputable def levelCode (d : List Nat) : Int := if d = [48] then 0 else if d = [49] then 1 else 3
noncomputable def pInitial : PM Int := pTok.bind fun t => match t with
  | .num size base digits => if (size ≠ [] ∧ size ≠ [49]) ∨ (base ≠ [] ∧ base ≠ [98]) ∨ (digits ≠ [48] ∧ digits ≠ [49] ∧ digits ≠ [120]) then .fail "primitive_initial"
    else pTake.bind fun _ => .ret (levelCode digits)
  | _ => .fail "primitive_initial"
noncomputable def kOutput : List Nat := [111, 117, 116, 112, 117, 116]
noncomputable def kInput : List Nat := [105, 110, 112, 117, 116]
noncomputable def kReg : List Nat := [114, 101, 103]
noncomputable def kInitial : List Nat := [105, 110, 105, 116, 105, 97, 108]
noncomputable def kTable : List Nat := [116, 97, 98, 108, 101]
noncomputable def kEndtable : List Nat := [101, 110, 100, 116, 97, 98, 108, 101]
noncomputable def kEndprim : List Nat := [101, 110, 100, 112, 114, 105, 109, 105, 116, 105, 118, 101]
noncomputable def kPrim : List Nat := [112, 114, 105, 109, 105, 116, 105, 118, 101]

noncomputable def pAnsiMore : Nat → List (List Nat) → PM (List (List Nat))
  | 0, _ => .out
  | n + 1, ports => (pAcceptOp [44]).bind fun b => if b then (pAcceptKey kInput).bind fun i => if !i && ports.length == 1 then .fail "primitive_ports" else pExpectId.bind fun w => pAnsiMore n (ports ++ [w]) else .ret ports
noncomputable def pAnsi : PM (List (List Nat) × Bool × Int) :=
  (pExpectKey kOutput).bind fun _ => (pAcceptKey kReg).bind fun seq => pExpectId.bind fun w =>
    (if seq then (pAcceptOp [61]).bind fun b => if b then pInitial else .ret 3 else .ret 3).bind fun init =>
    (pAnsiMore 10 [w]).bind fun ports => (pExpectOp [41]).bind fun _ => (pExpectOp [59]).bind fun _ => .ret (ports, seq, init)
noncomputable def pMore : Nat → List (List Nat) → PM (List (List Nat))
  | 0, _ => .out
  | n + 1, ports => (pAcceptOp [44]).bind fun b => if b then pExpectId.bind fun w => pMore n (ports ++ [w]) else .ret ports
noncomputable def pDecls (p0 : List Nat) : Nat → Bool → Int → List (List Nat) → PM (Bool × Int × List (List Nat))
  | 0, _, _, _ => .out
  | n + 1, seq, init, decl => pTok.bind fun t => if !(isKey kOutput t || isKey kInput t || isKey kReg t) then .ret (seq, init, decl) else
    (pAcceptKey kInput).bind fun a => (if a then pExpectId.bind fun w => (pMore 10 (decl ++ [w])).bind fun d => .ret (seq, init, d) else
      (pAcceptKey kReg).bind fun b => if b then pExpectId.bind fun w => if w ≠ p0 then .fail "primitive_ports" else .ret (true, init, decl) else
        (pExpectKey kOutput).bind fun _ => (pAcceptKey kReg).bind fun c => pExpectId.bind fun w => if w ≠ p0 then .fail "primitive_ports" else
          (if (seq || c) then (pAcceptOp [61]).bind fun e => if e then pInitial else .ret init else .ret init).bind fun init' => .ret (seq || c, init', decl ++ [w])).bind fun r =>
      (pExpectOp [59]).bind fun _ => pDecls p0 n r.1 r.2.1 r.2.2
noncomputable def ascW (l : List (List Nat)) : Bool := decide (l.length < 64) && l.all fun w => w.all fun c => decide (c < 128)
noncomputable def pPortDecls (ports : List (List Nat)) : PM (Bool × Int) := match ports with
  | [] => .out
  | p0 :: _ => (pDecls p0 10 false 3 []).bind fun r => if !(ascW r.2.2 && ascW ports) then .out else if p0 ∉ r.2.2 ∨ ¬ (r.2.2.isPerm ports) then .fail "primitive_ports" else .ret (r.1, r.2.1)

noncomputable def okW (acc w : List Nat) : Bool := decide (acc.length + w.length ≤ 10000) && w.all fun c => decide (c < 128)
noncomputable def pField : Nat → List Nat → PM (List Nat)
  | 0, _ => .out
  | n + 1, acc => pTok.bind fun t => if isOp [58] t || isOp [59] t then .ret acc else match t with
    | .num [] [] d => if okW acc d then pTake.bind fun _ => pField n (acc ++ d) else .out
    | .id w => if okW acc w then pTake.bind fun _ => pField n (acc ++ w.map lowC) else .out
    | .op w => if okW acc w then pTake.bind fun _ => pField n (acc ++ w) else .out
    | _ => .fail "bad_table"
inductive Sym where
  | one (c : Nat)
  | edge (a b : Nat)
noncomputable def isLevel (c : Nat) : Bool := c == 48 || c == 49 || c == 120 || c == 63 || c == 98
noncomputable def symL : List Nat := [48, 49, 120, 63, 98, 114, 102, 112, 110, 42]
noncomputable def syms : List Nat → Option (List Sym)
  | [] => some []
  | 40 :: a :: b :: 41 :: r => if isLevel a && isLevel b then (syms r).map (.edge a b :: ·) else none
  | c :: r => if c ≠ 40 ∧ symL.contains c then (syms r).map (.one c :: ·) else none
noncomputable def pSyms (t : List Nat) : PM (List Sym) := if 10000 < t.length then .out else fun s => match syms t with
  | some x => some (.ok (x, s))
  | none => some (.error "bad_table")
noncomputable def isOut (l : List Nat) : Bool := l == [48] || l == [49] || l == [120] || l == [45]
noncomputable def isState (l : List Nat) : Bool := l == [48] || l == [49] || l == [120] || l == [63] || l == [98]
structure Row where
  ins : List Sym
  state : Option (List Nat)
  out : List Nat
noncomputable def pState (seq : Bool) : PM (Option (List Nat)) := if seq then (pField 1000 []).bind fun t => if !isState t then .fail "bad_table" else (pExpectOp [58]).bind fun _ => .ret (some t) else .ret none
noncomputable def pRow (seq : Bool) : PM Row := (pField 1000 []).bind fun t => (pSyms t).bind fun ins => (pExpectOp [58]).bind fun _ => (pState seq).bind fun st =>
  (pField 1000 []).bind fun out => if !isOut out then .fail "bad_table" else (pExpectOp [59]).bind fun _ => .ret ⟨ins, st, out⟩
noncomputable def pRows (seq : Bool) : Nat → List Row → PM (List Row)
  | 0, _ => .out
  | n + 1, acc => (pAcceptKey kEndtable).bind fun b => if b then .ret acc else (pRow seq).bind fun r => pRows seq n (acc ++ [r])
noncomputable def pTable (seq : Bool) : PM (List Row) := (pExpectKey kTable).bind fun _ => (pRows seq 20 []).bind fun r => (pExpectKey kEndprim).bind fun _ => .ret r

structure Prim where
  name : List Nat
  ports : List (List Nat)
  seq : Bool
  init : Int
  rows : List Row
noncomputable def pHead : PM (List Nat × List (List Nat) × Bool × Int) :=
  (pExpectKey kPrim).bind fun _ => pExpectId.bind fun name => (pExpectOp [40]).bind fun _ => (pIsKey kOutput).bind fun o =>
    (if o then pAnsi else pExpectId.bind fun w => (pMore 10 [w]).bind fun ports => (pExpectOp [41]).bind fun _ => (pExpectOp [59]).bind fun _ => (pPortDecls ports).bind fun r => .ret (ports, r.1, r.2)).bind fun r =>
    (if r.1.length < 2 then PM.fail "primitive_ports" else PM.ret ()).bind fun _ => (pAcceptKey kInitial).bind fun i =>
    (if i then (if !r.2.1 then PM.fail "primitive_initial" else pExpectId.bind fun w => if some w ≠ r.1[0]? then .fail "primitive_initial" else .ret ()).bind fun _ =>
      (pExpectOp [61]).bind fun _ => pInitial.bind fun c => (pExpectOp [59]).bind fun _ => .ret c else .ret r.2.2).bind fun init => .ret (name, r.1, r.2.1, init)
noncomputable def pPrim : PM Prim := pHead.bind fun h => (pTable h.2.2.1).bind fun rows => .ret ⟨h.1, h.2.1, h.2.2.1, h.2.2.2, rows⟩
noncomputable def readP (t : List Nat) : Option (Except Str (Prim × PS0)) := match lexTok t with
  | none => none
  | some s => pPrim s
end Mine

namespace Mine
open PySem.Builtin PySem.Builtin.Str

noncomputable def posOf (c : Nat) : List Nat → Nat → List Nat
  | [], _ => []
  | a :: r, i => if a = c then i :: posOf c r (i + 1) else posOf c r (i + 1)
noncomputable def cutAt (l : List Nat) : Nat → List Nat → List (List Nat)
  | i, [] => [l.drop i]
  | i, j :: r => (l.drop i).take (j - i) :: cutAt l (j + 1) r
theorem occ_fold (l : List Nat) (c : Nat) : ∀ (k i : Nat) (found : Array Nat) (free : Nat), i + k = l.length + 1 → found.size ≤ i → free ≤ i →
    (forIn (List.range' i k) (found, free) (StrLaws.occBody (S l) (S [c]) (S l).length ((S l).length + 1))).run.fst.toList = found.toList ++ posOf c (l.drop i) i
  | 0, i, found, free, h, _, _ => by
    rw [List.drop_eq_nil_of_le (by omega)]
    simp [posOf]
  | k + 1, i, found, free, h, h1, h2 => by
    rw [List.range'_succ, List.forIn_cons]
    unfold StrLaws.occBody
    have key := StrLaws.subAt_one (S l) c i
    have hl : (S l).cps.toList = l := by simp [S]
    rw [hl] at key
    by_cases hc : l[i]? = some c
    · obtain ⟨k1, k2⟩ := key.mpr hc
      have hlt : i < l.length := (List.getElem?_eq_some_iff.mp hc).1
      rw [if_pos ⟨⟨⟨by show found.size < (S l).length + 1; rw [S_len]; omega, h2⟩, k1⟩, k2⟩]
      refine (occ_fold l c k (i + 1) (found.push i) (i + 1) (by omega) (by simp; omega) (Nat.le_refl _)).trans ?_
      have hd : l.drop i = c :: l.drop (i + 1) := by
        rw [List.drop_eq_getElem_cons hlt]
        congr 1
        have := (List.getElem?_eq_some_iff.mp hc).2
        exact this
      rw [hd]
      simp [posOf]
    · have hn : ¬ (i + (S [c]).length ≤ (S l).length ∧ subAt (S l) (S [c]) i = true) := fun q => hc (key.mp q)
      rw [if_neg fun q => hn ⟨q.1.2, q.2⟩]
      refine (occ_fold l c k (i + 1) found free (by omega) (by omega) (by omega)).trans ?_
      rcases Nat.lt_or_ge i l.length with hlt | hge
      · rw [List.drop_eq_getElem_cons hlt]
        have : l[i] ≠ c := fun q => hc (by rw [List.getElem?_eq_getElem hlt, q])
        simp [posOf, this]
      · rw [List.drop_eq_nil_of_le hge, List.drop_eq_nil_of_le (by omega)]
        simp [posOf]
theorem occ_pos (l : List Nat) (c : Nat) : occurrences (S l) (S [c]) 0 (S l).length ((S l).length + 1) = posOf c l 0 := by
  rw [StrLaws.occ_eq]
  exact occ_fold l c _ 0 #[] 0 (by rw [S_len]; omega) (Nat.zero_le _) (Nat.le_refl _)
theorem parts_cut (l : List Nat) : ∀ (cuts : List Nat) (i : Nat), (((i :: cuts.map (· + 1)).zip (cuts ++ [(S l).length])).map fun (a, b) => strSub (S l) a b) = (cutAt l i cuts).map S
  | [], i => by
    simp [cutAt, strSub, S, Str.length]
    exact List.take_of_length_le (by simp)
  | j :: r, i => by
    have ih := parts_cut l r (j + 1)
    simp only [List.map_cons, List.cons_append, List.zip_cons_cons, cutAt]
    rw [ih]
    congr 1
    simp [strSub, S]
theorem cut_B (l : List Nat) : ∀ (r pre acc : List Nat), l = pre ++ acc.reverse ++ r → cutAt l pre.length (posOf 32 r (pre.length + acc.length)) = cutB r acc
  | [], pre, acc, h => by
    simp only [posOf, cutAt, cutB]
    rw [h]; simp
  | c :: r, pre, acc, h => by
    by_cases hc : c = 32
    · subst hc
      simp only [posOf, cutB, if_true, cutAt]
      have ih := cut_B l r (pre ++ acc.reverse ++ [32]) [] (by rw [h]; simp)
      simp only [List.length_append, List.length_reverse, List.length_cons, List.length_nil, Nat.add_zero, Nat.zero_add] at ih
      rw [ih]
      congr 1
      rw [h, List.append_assoc, List.drop_left]
      simp
    · simp only [posOf, cutB, if_neg hc]
      have ih := cut_B l r pre (c :: acc) (by rw [h]; simp)
      simp only [List.length_cons] at ih
      exact ih
theorem split_S (l : List Nat) (hl : l ≠ []) : Txt.split (S l) (S [32]) = (cutB l []).map S := by
  have hcut := cut_B l l [] [] (by simp)
  simp only [List.length_nil, Nat.add_zero, List.nil_append] at hcut
  unfold Txt.split
  rw [occ_pos]
  have hk : (decide ((S l).length < (S [32]).length) || decide (Str.strKind (S l) < Str.strKind (S [32]))) = false := by
    have h1 : ¬ ((S l).length < (S [32]).length) := by rw [S_len, S_len]; cases l with | nil => exact absurd rfl hl | cons _ _ => simp
    have h2 : Str.strKind (S [32]) = 1 := by decide +kernel
    have h3 : ¬ (Str.strKind (S l) < Str.strKind (S [32])) := by rw [h2]; unfold Str.strKind; split <;> (try split) <;> omega
    simp [h1, h3]
  rw [hk, if_neg (by decide)]
  rw [← hcut]
  cases hp : posOf 32 l 0 with
  | nil => rw [if_pos (by rfl)]; simp [cutAt]
  | cons j r =>
    rw [if_neg (by simp)]
    have h1 : (S [32]).length = 1 := rfl
    rw [h1]
    exact parts_cut l (j :: r) 0
theorem split_words : Txt.split words (Str.ofString " ") = kwL.map S := by
  rw [words_S, ofS " " [32] (by rfl) (by rfl), split_S _ (by decide), kwL_eq]
theorem words_len : words.length ≤ 10000 := by rw [words_S, S_len]; decide
end Mine

namespace Mine
set_option maxHeartbeats 8000000
noncomputable abbrev lk0 : Look := { strict := false, foot := none, bare := [] }
noncomputable def cut0 (a n : Nat) : List Stmt := (PySem.Challenge.pw_nn0336_01.main.body.drop a).take n
theorem road1a : noRoadLSs lk0 (cut0 0 16) = true := by kernel_rfl
theorem road1c : noRoadLSs lk0 (cut0 17 33) = true := by kernel_rfl
noncomputable def asS : Stmt → List Expr × Nat × Pos × Pos
  | .Assign ts (.Constant _ k p) q => (ts, k, p, q)
  | _ => ([], 0, ⟨0, 0, 0, 0⟩, ⟨0, 0, 0, 0⟩)
noncomputable def psS : Stmt → Pos
  | .FunctionDef _ _ _ _ _ _ _ _ _ p => p
  | _ => ⟨0, 0, 0, 0⟩
noncomputable def as0 : List Expr × Nat × Pos × Pos := asS (nthS (bdS (f1 16)) 0)
noncomputable def mkW (x : Str) : Stmt := .FunctionDef (nmS (f1 16)) (pmS (f1 16)) (.Assign as0.1 (.Constant (.str x) as0.2.1 as0.2.2.1) as0.2.2.2 :: (bdS (f1 16)).drop 1) [] none [] (scS (f1 16)) none (nmS (f1 16)) (psS (f1 16))
theorem mkW_eq : cut0 16 1 = [mkW words] := by kernel_rfl
theorem anyA (l : List Nat) (f : Nat → Bool) : (S l).cps.any f = l.any f := by unfold S; simp
theorem road_str : (lk0.inDef).str (S wordL) = true := by
  unfold Look.str roadStr
  rw [anyA, anyA, anyA, show wordL.any (fun c => c == 123 || c == 125) = false by kernel_rfl, show wordL.any (· == 46) = false by kernel_rfl, Bool.false_and, Bool.or_false, Bool.not_false, Bool.true_or, Bool.and_true]
  rw [show underscores (S wordL) = false by kernel_rfl, Bool.false_or]
  kernel_rfl
theorem road1b : noRoadLSs lk0 (cut0 16 1) = true := by
  rw [mkW_eq, words_S]
  have e : noRoadLSs lk0 [mkW (S wordL)] = ((noRoadLArgs lk0 (pmS (f1 16)) && ((lk0.inDef.stores as0.1 && noRoadLs lk0.inDef as0.1 && lk0.inDef.str (S wordL)) && noRoadLSs lk0.inDef ((bdS (f1 16)).drop 1)) && noRoadLs lk0 [] && noRoadLOpt lk0 none && noRoadLTps lk0 []) && noRoadLSs lk0 []) := by kernel_rfl
  rw [e, road_str]
  kernel_rfl
end Mine

namespace Mine
set_option maxHeartbeats 8000000
theorem roads_app (lk : Look) : ∀ l r : List Stmt, noRoadLSs lk l = true → noRoadLSs lk r = true → noRoadLSs lk (l ++ r) = true := by
  intro l
  induction l with
  | nil => intro r _ h; exact h
  | cons s l ih =>
    intro r h1 h2
    rw [List.cons_append]
    unfold noRoadLSs at h1 ⊢
    rw [Bool.and_eq_true] at h1 ⊢
    exact ⟨h1.1, ih r h1.2 h2⟩
theorem bodyEq : PySem.Challenge.pw_nn0336_01.main.body = cut0 0 16 ++ (cut0 16 1 ++ cut0 17 33) := by kernel_rfl
theorem rdB1 : readsOut PySem.Challenge.pw_nn0336_01 PySem.Challenge.pw_nn0336_01.main.body "vars" = false := by kernel_rfl
theorem rdB2 : readsOut PySem.Challenge.pw_nn0336_01 PySem.Challenge.pw_nn0336_01.main.body "dir" = false := by kernel_rfl
theorem rdB3 : readsOut PySem.Challenge.pw_nn0336_01 PySem.Challenge.pw_nn0336_01.main.body "locals" = false := by kernel_rfl
theorem filt3 {α : Type} {f : α → Bool} {a b c : α} (h1 : f a = false) (h2 : f b = false) (h3 : f c = false) : [a, b, c].filter f = [] := by simp [h1, h2, h3]
theorem roadB : ((["vars", "dir", "locals"] : List Str).filter (readsOut PySem.Challenge.pw_nn0336_01 PySem.Challenge.pw_nn0336_01.main.body)) = [] := filt3 rdB1 rdB2 rdB3
theorem roadM : (importedModules PySem.Challenge.pw_nn0336_01.main.body).all cThrough.contains = true := by kernel_rfl
theorem roads : noRoadLSs { strict := !(importedModules PySem.Challenge.pw_nn0336_01.main.body).all cThrough.contains, foot := none, bare := (["vars", "dir", "locals"] : List Str).filter (readsOut PySem.Challenge.pw_nn0336_01 PySem.Challenge.pw_nn0336_01.main.body) } PySem.Challenge.pw_nn0336_01.main.body = true := by
  rw [roadM, roadB, bodyEq]
  exact roads_app _ _ _ road1a (roads_app _ _ _ road1b road1c)
theorem roads2 : noRoadLSs { strict := !(importedModules PySem.Challenge.rw_nn0336_01.row.prog.main.body).all cThrough.contains, foot := none, bare := (["vars", "dir", "locals"] : List Str).filter (readsOut PySem.Challenge.rw_nn0336_01.row.prog PySem.Challenge.rw_nn0336_01.row.prog.main.body) } PySem.Challenge.rw_nn0336_01.row.prog.main.body = true := roads
theorem wsd1 : namesResolve PySem.Challenge.rw_nn0336_01.row.prog = true := by kernel_rfl
theorem wsd2 : (namesMeet PySem.Challenge.rw_nn0336_01.row.prog PySem.Challenge.rw_nn0336_01.row.prog.main.body fun _ n => attrL n) = true := by kernel_rfl
theorem wsd3 : noRoadLSs { strict := true, foot := some PySem.Challenge.rw_nn0336_01.bound', writes := PySem.Challenge.rw_nn0336_01.writes, may := PySem.Challenge.rw_nn0336_01.may } PySem.Challenge.rw_nn0336_01.footing = true := by kernel_rfl
theorem wsd4 : (PySem.Challenge.rw_nn0336_01.bound'.all fun n => !builtinNamed n || PySem.Challenge.rw_nn0336_01.about == [n] || !PySem.Challenge.rw_nn0336_01.reads n) = true := by kernel_rfl
theorem wsd5 : (namesMeet PySem.Challenge.rw_nn0336_01.prog PySem.Challenge.rw_nn0336_01.above fun _ n => !PySem.Challenge.rw_nn0336_01.own.contains n) = true := by kernel_rfl
theorem wsaid : PySem.Challenge.rw_nn0336_01.wellSaid = true := by
  unfold OpenLaw.wellSaid OpenRow.wellSaid OpenRow.partSaid looksOpen
  repeat' with_reducible refine look_both ?_ ?_
  all_goals (first | with_reducible exact roads2 | with_reducible exact wsd1 | with_reducible exact wsd2 | with_reducible exact wsd3 | with_reducible exact wsd4 | with_reducible exact wsd5 | kernel_rfl)
end Mine

namespace Mine
set_option maxHeartbeats 8000000
noncomputable def pkL : List Obj → Nat → List Addr → List (Option Obj)
  | [], _, as => as.map fun _ => none
  | _ :: _, _, [] => []
  | o :: l, i, a :: as => match Nat.beq i a with
    | true => alive o :: pkL l (i + 1) as
    | false => pkL l (i + 1) (a :: as)
noncomputable def ascL : Nat → List Addr → Bool
  | _, [] => true
  | i, a :: as => Nat.ble i a && ascL (a + 1) as
theorem asc_le : ∀ (as : List Addr) (i : Nat), ascL i as = true → ∀ a ∈ as, i ≤ a := by
  intro as
  induction as with
  | nil => intro i _ a ha; cases ha
  | cons b as ih =>
    intro i h a ha
    unfold ascL at h
    rw [Bool.and_eq_true] at h
    have hb : i ≤ b := Nat.le_of_ble_eq_true h.1
    cases ha with
    | head => exact hb
    | tail _ ha => exact Nat.le_trans hb (Nat.le_trans (Nat.le_succ b) (ih (b + 1) h.2 a ha))
theorem pk_eq (f : Life) : ∀ (l pre : List Obj) (as : List Addr), ascL pre.length as = true → pkL l pre.length as = as.map (Heap.get? ⟨(pre ++ l).toArray, f⟩) := by
  intro l
  induction l with
  | nil =>
    intro pre as h
    unfold pkL
    refine List.map_congr_left fun a ha => ?_
    have := asc_le as _ h a ha
    unfold Heap.get?
    rw [List.append_nil, show (pre.toArray[a]? : Option Obj) = none by simp; exact this]
  | cons o l ih =>
    intro pre as h
    cases as with
    | nil => rfl
    | cons a as =>
      unfold ascL at h
      rw [Bool.and_eq_true] at h
      have hb : pre.length ≤ a := Nat.le_of_ble_eq_true h.1
      have e : pre ++ o :: l = (pre ++ [o]) ++ l := by rw [List.append_assoc]; rfl
      have en : (pre ++ [o]).length = pre.length + 1 := by rw [List.length_append]; rfl
      unfold pkL
      cases q : Nat.beq pre.length a with
      | true =>
        have q' : pre.length = a := Nat.eq_of_beq_eq_true q
        have r := ih (pre ++ [o]) as (by rw [en, q']; exact h.2)
        rw [en] at r
        rw [List.map_cons, e, ← r]
        refine congrArg (· :: _) ?_
        unfold Heap.get?
        rw [show ((pre ++ [o] ++ l).toArray[a]? : Option Obj) = some o by subst q'; simp]
        obtain ⟨c, d, dt, sl⟩ := o
        cases dt <;> rfl
      | false =>
        have q' : pre.length ≠ a := Nat.ne_of_beq_eq_false q
        have r := ih (pre ++ [o]) (a :: as) (by
          rw [en]
          unfold ascL
          rw [Bool.and_eq_true]
          exact ⟨Nat.ble_eq_true_of_le (Nat.lt_of_le_of_ne hb q'), h.2⟩)
        rw [en] at r
        rw [e]
        exact r
theorem h7L (P : Params) : h7 P = ⟨([] ++ (h7 P).objs.toList).toArray, {}⟩ := by kernel_rfl
theorem KAasc : ascL 0 KA = true := by kernel_rfl
theorem hl3a (w : World) : pkL (h7 w.params).objs.toList 0 KA = (KK w.params).map fun p => some p.2 := by kernel_rfl
theorem hl3 (w : World) (os : OsState) : (kHook KK KA KAeq).obs (sta h7 1169 w os) = (kHook KK KA KAeq).val w :=
  (congrArg (fun h : Heap => KA.map h.get?) (h7L w.params)).trans ((pk_eq {} (h7 w.params).objs.toList [] KA KAasc).symm.trans (hl3a w))
theorem hl2a (w : World) (os : OsState) : seen ((recsOf vw).map (·.name)) (ownsOf vw) [] ⟨(sta h7 1169 w os).heap, #[], {}, (sta h7 1169 w os).toks, (sta h7 1169 w os).os⟩ = expectedOf vw := by kernel_rfl
theorem hl2b (w : World) (os : OsState) : plainSeenE vw (looseW vw lse) (sta h7 1169 w os) = plainGoodE vw (looseW vw lse) ∧ plainSeenD vw lse (sta h7 1169 w os) = plainGoodD vw lse := ⟨by kernel_rfl, by kernel_rfl⟩
theorem hl2 (w : World) (os : OsState) : openSeen vw lse (importedModules pg.main.body) xt true (sta h7 1169 w os) = openGood vw lse := by
  unfold openSeen openGood
  iterate 8 refine looks_pair (by first | with_reducible exact hl2a w os | with_reducible exact (hl2b w os).1 | with_reducible exact (hl2b w os).2 | kernel_rfl) ?_
  kernel_rfl
theorem hleft : LeftO pg vw lse xt (kHook KK KA KAeq).obs (kHook KK KA KAeq).val 8754 :=
  LeftO.of_pieces (H₀ := boot_heap) (H₁ := h7) (gs₀ := Array.mk []) (gs₁ := #[]) (d₀ := boot_drawn) (d₁ := {}) (k₀ := boot_toks) (k₁ := 1169) (m₀ := 11) (ann := some (.ref 6)) (boot_open hopen (by decide) hfence) hsize hrun (by decide)
    (fun w => funext fun os => looks_pair (hl1 w os) (looks_pair (hl2 w os) (hl3 w os)))
end Mine

namespace Mine
variable {G : Cfg} {C : Addr} {H : Hp} {Q : AV → Hp → Prop} {E : Str → Prop}
set_option maxHeartbeats 8000000 in
example : PySem.Challenge.rw_nn0336_01 = PySem.Challenge.rw_nn0336_01 ∧ KK = KK := by k_fill; exact ⟨rfl, rfl⟩

theorem bind1 {w : World} {I : Im} {x : Str} {a : AV} {ws : List Value} {s : Shared} {name qual : Str} {params : Arguments} {body : List Stmt} {scope : Scope} {dV kV doc pm cdv ct : Value} {an : Option Addr}
    (hv : VRs w I [a] ws) (h : ∀ v, BindsTo s (fnOf name qual params body scope dV kV doc pm an cdv ct) ⟨[v], []⟩ [(x, v)]) : ∃ binds, BindsTo s (fnOf name qual params body scope dV kV doc pm an cdv ct) ⟨ws, []⟩ binds ∧ BR w I [(x, a)] binds := by
  obtain ⟨_, rfl, h1⟩ := hv.one; exact ⟨_, h _, .cons h1 .nil⟩
theorem bind2 {w : World} {I : Im} {x y : Str} {a b : AV} {ws : List Value} {s : Shared} {name qual : Str} {params : Arguments} {body : List Stmt} {scope : Scope} {dV kV doc pm cdv ct : Value} {an : Option Addr}
    (hv : VRs w I [a, b] ws) (h : ∀ v u, BindsTo s (fnOf name qual params body scope dV kV doc pm an cdv ct) ⟨[v, u], []⟩ [(x, v), (y, u)]) : ∃ binds, BindsTo s (fnOf name qual params body scope dV kV doc pm an cdv ct) ⟨ws, []⟩ binds ∧ BR w I [(x, a), (y, b)] binds := by
  obtain ⟨_, _, rfl, h1, h2⟩ := hv.two; exact ⟨_, h _ _, .cons h1 (.cons h2 .nil)⟩
theorem bind3 {w : World} {I : Im} {x y z : Str} {a b c : AV} {ws : List Value} {s : Shared} {name qual : Str} {params : Arguments} {body : List Stmt} {scope : Scope} {dV kV doc pm cdv ct : Value} {an : Option Addr}
    (hv : VRs w I [a, b, c] ws) (h : ∀ v u t, BindsTo s (fnOf name qual params body scope dV kV doc pm an cdv ct) ⟨[v, u, t], []⟩ [(x, v), (y, u), (z, t)]) : ∃ binds, BindsTo s (fnOf name qual params body scope dV kV doc pm an cdv ct) ⟨ws, []⟩ binds ∧ BR w I [(x, a), (y, b), (z, c)] binds := by
  obtain ⟨_, _, rfl, h1, t⟩ := hv.consI; obtain ⟨_, _, rfl, h2, h3⟩ := t.two; exact ⟨_, h _ _ _, .cons h1 (.cons h2 (.cons h3 .nil))⟩
theorem bind4 {w : World} {I : Im} {x y z z' : Str} {a b c d : AV} {ws : List Value} {s : Shared} {name qual : Str} {params : Arguments} {body : List Stmt} {scope : Scope} {dV kV doc pm cdv ct : Value} {an : Option Addr}
    (hv : VRs w I [a, b, c, d] ws) (h : ∀ v u t r, BindsTo s (fnOf name qual params body scope dV kV doc pm an cdv ct) ⟨[v, u, t, r], []⟩ [(x, v), (y, u), (z, t), (z', r)]) : ∃ binds, BindsTo s (fnOf name qual params body scope dV kV doc pm an cdv ct) ⟨ws, []⟩ binds ∧ BR w I [(x, a), (y, b), (z, c), (z', d)] binds := by
  obtain ⟨_, _, rfl, h1, t⟩ := hv.consI; obtain ⟨_, _, rfl, h2, u⟩ := t.consI; obtain ⟨_, _, rfl, h3, h4⟩ := u.two; exact ⟨_, h _ _ _ _, .cons h1 (.cons h2 (.cons h3 (.cons h4 .nil)))⟩

inductive Le1 : List Nat → Prop
  | nil : Le1 []
  | one (c : Nat) : Le1 [c]
theorem take1 : ∀ r : List Nat, Le1 (r.take 1)
  | [] => .nil
  | c :: _ => .one c
theorem hdB_take1 (f : Nat → Bool) : ∀ r : List Nat, hdB f (r.take 1) = hdB f r
  | [] => rfl
  | _ :: _ => rfl
theorem lt1 (a b : Nat) : ([a] < [b]) ↔ a < b := by
  constructor
  · intro h
    cases h with
    | rel h => exact h
    | cons h => cases h
  · intro h; exact .rel h
theorem toL (l : List Nat) : (S l).cps.toList = l := by simp [S]
theorem cle {H : Hp} (c : Nat) {x : Str} {l : List Nat} (hx : x = S [c]) (h : Le1 l) : Cmp H .LtE (.str x) (.str (S l)) (hdB (fun d => decide (c ≤ d)) l) := by
  subst hx
  have e : (!decide ((S l).cps.toList < (S [c]).cps.toList)) = hdB (fun d => decide (c ≤ d)) l := by
    rw [toL, toL]
    cases h with
    | nil => rfl
    | one x => show (!decide ([x] < [c])) = decide (c ≤ x); rw [Bool.eq_iff_iff]; simp [lt1]
  rw [← e]; exact .leS _ _
theorem cge {H : Hp} (c : Nat) {x : Str} {l : List Nat} (hx : x = S [c]) (h : Le1 l) : Cmp H .LtE (.str (S l)) (.str x) (!hdB (fun d => decide (c < d)) l) := by
  subst hx
  have e : (!decide ((S [c]).cps.toList < (S l).cps.toList)) = !hdB (fun d => decide (c < d)) l := by
    rw [toL, toL]
    cases h with
    | nil => rfl
    | one x => show (!decide ([c] < [x])) = !decide (c < x); rw [Bool.eq_iff_iff]; simp [lt1]
  rw [← e]; exact .leS _ _
theorem ceq {H : Hp} (m : List Nat) {x : Str} {l : List Nat} (hx : x = S m) : Cmp H .Eq (.str (S l)) (.str x) (decide (l = m)) := by
  subst hx; rw [← S_beq]; exact .eqS _ _
theorem cne {H : Hp} (m : List Nat) {x : Str} {l : List Nat} (hx : x = S m) : Cmp H .NotEq (.str (S l)) (.str x) (!decide (l = m)) := by
  subst hx; rw [← S_bne]; exact .neS _ _
noncomputable def inB (x : Str) : List Nat → Bool
  | [] => true
  | c :: _ => decide (c ∈ x.cps.toList)
theorem cin {H : Hp} {x : Str} {l : List Nat} (h : Le1 l) : Cmp H .In (.str (S l)) (.str x) (inB x l) := by
  cases h with
  | nil =>
    have e : (!(Builtin.Str.occurrences x (S []) 0 x.length 1).isEmpty) = true := by
      rw [StrLaws.found_iff]; exact ⟨0, Nat.zero_le _, by rw [StrLaws.subAt_eq]; rfl⟩
    show Cmp H _ _ _ true; rw [← e]; exact .inSS _ _
  | one c => show Cmp H _ _ _ (decide _); rw [← in_one]; exact .inSS _ _
theorem cnin {H : Hp} {x : Str} {l : List Nat} (h : Le1 l) : Cmp H .NotIn (.str (S l)) (.str x) (!(inB x l)) := by
  cases h with
  | nil =>
    have e : (!(Builtin.Str.occurrences x (S []) 0 x.length 1).isEmpty) = true := by
      rw [StrLaws.found_iff]; exact ⟨0, Nat.zero_le _, by rw [StrLaws.subAt_eq]; rfl⟩
    show Cmp H _ _ _ (!true); rw [← e]; exact .ninSS _ _
  | one c => show Cmp H _ _ _ (!decide _); rw [← in_one]; exact .ninSS _ _
theorem any_S (l : List Nat) (ys : List (List Nat)) : (ys.map S).any (· == S l) = ys.contains l := by
  induction ys with
  | nil => rfl
  | cons y ys ih =>
    rw [List.map_cons, List.any_cons, ih, List.contains_cons, S_beq]
    congr 1
    rw [Bool.eq_iff_iff, decide_eq_true_eq, beq_iff_eq]; exact eq_comm
theorem cinT {H : Hp} {l : List Nat} (ys : List (List Nat)) {vs : List AV} (hv : vs = ys.map fun y => .str (S y)) : Cmp H .In (.str (S l)) (.tup vs) (ys.contains l) := by
  have e : vs = (ys.map S).map .str := by rw [hv, List.map_map]; rfl
  rw [e, ← any_S]; exact .inTS _ _
theorem cninT {H : Hp} {l : List Nat} (ys : List (List Nat)) {vs : List AV} (hv : vs = ys.map fun y => .str (S y)) : Cmp H .NotIn (.str (S l)) (.tup vs) (!ys.contains l) := by
  have e : vs = (ys.map S).map .str := by rw [hv, List.map_map]; rfl
  rw [e, ← any_S]; exact .ninTS _ _
theorem ite_both {b : Bool} {A B : Prop} (h1 : b = true → A) (h2 : b = false → B) : if b = true then A else B := by
  cases b
  · rw [if_neg (by decide)]; exact h2 rfl
  · rw [if_pos rfl]; exact h1 rfl
theorem kok {K : Frag} {a : Addr} (h : keepIn K (.ref a) = true) : keepsOk K (.ref a) = true := h
theorem Qb {H : Hp} {Q : AV → Hp → Prop} {b b' : Bool} (h : Q (.bool b) H) (e : b' = b) : Q (.bool b') H := e ▸ h

theorem c_letter (hK : G.K = KK G.w.params) {l : List Nat} (hl : Le1 l) (h : Q (.bool (hdB isLet l)) H) : Fn G C 1 (.ref 166) [.str (S l)] H Q E := by
  refine Fn.body (ab := [("char", .str (S l))]) (by rw [hK]; k_is) (by rw [hK]; k_is) (fun s I ws X hv => bind1 hv fun _ => BindsTo.of_eq rfl) rfl (fun L' => ?_)
  refine J.cons (J.Return (J.OrE (J.AndE (J.CmpE (J.Cstr (J.Nloc rfl ⟨_, cle 97 rfl hl, _, rfl, ite_both (fun h1 => J.And1 (J.CmpE (J.Nloc rfl (J.Cstr ⟨_, cge 122 rfl hl, ⟨_, rfl, ite_both (fun h2 => ?_) (fun h2 => ?_)⟩⟩)))) (fun h1 => ⟨_, rfl, ?_⟩)⟩))))))
  · exact Qb h (by clear h; rw [Bool.eq_iff_iff]; cases hl <;> simp_all [hdB, isLet] <;> omega)
  · refine J.And1 (J.AndE (J.CmpE (J.Cstr (J.Nloc rfl ⟨_, cle 65 rfl hl, _, rfl, ite_both (fun h1 => J.And1 (J.CmpE (J.Nloc rfl (J.Cstr ⟨_, cge 90 rfl hl, ?_⟩)))) (fun h1 => ?_)⟩))))
    · exact Qb h (by clear h; rw [Bool.eq_iff_iff]; cases hl <;> simp_all [hdB, isLet] <;> omega)
    · exact Qb h (by clear h; rw [Bool.eq_iff_iff]; cases hl <;> simp_all [hdB, isLet] <;> omega)
  · refine J.And1 (J.AndE (J.CmpE (J.Cstr (J.Nloc rfl ⟨_, cle 65 rfl hl, _, rfl, ite_both (fun h1 => J.And1 (J.CmpE (J.Nloc rfl (J.Cstr ⟨_, cge 90 rfl hl, ?_⟩)))) (fun h1 => ?_)⟩))))
    · exact Qb h (by clear h; rw [Bool.eq_iff_iff]; cases hl <;> simp_all [hdB, isLet] <;> omega)
    · exact Qb h (by clear h; rw [Bool.eq_iff_iff]; cases hl <;> simp_all [hdB, isLet] <;> omega)
theorem c_digit (hK : G.K = KK G.w.params) {l : List Nat} (hl : Le1 l) (h : Q (.bool (hdB isDig l)) H) : Fn G C 1 (.ref 173) [.str (S l)] H Q E := by
  refine Fn.body (ab := [("char", .str (S l))]) (by rw [hK]; k_is) (by rw [hK]; k_is) (fun s I ws X hv => bind1 hv fun _ => BindsTo.of_eq rfl) rfl (fun L' => ?_)
  refine J.cons (J.Return (J.AndE (J.CmpE (J.Cstr (J.Nloc rfl ⟨_, cle 48 rfl hl, _, rfl, ite_both (fun h1 => J.And1 (J.CmpE (J.Nloc rfl (J.Cstr ⟨_, cge 57 rfl hl, ?_⟩)))) (fun h1 => ?_)⟩)))))
  · exact Qb h (by clear h; rw [Bool.eq_iff_iff]; cases hl <;> simp_all [hdB, isDig] <;> omega)
  · exact Qb h (by clear h; rw [Bool.eq_iff_iff]; cases hl <;> simp_all [hdB, isDig] <;> omega)
theorem c_word (hK : G.K = KK G.w.params) {l : List Nat} (hl : Le1 l) (h : Q (.bool (hdB isWrd l)) H) : Fn G C 2 (.ref 180) [.str (S l)] H Q E := by
  refine Fn.body (ab := [("char", .str (S l))]) (by rw [hK]; k_is) (by rw [hK]; k_is) (fun s I ws X hv => bind1 hv fun _ => BindsTo.of_eq rfl) rfl (fun L' => ?_)
  refine J.cons (J.Return (J.OrE (J.Call (J.Nglob (by rw [hK]; k_is) (.ref 166) ⟨_, rfl, kok (by rw [hK]; k_is), J.Lcons (J.Nloc rfl (J.Lnil (c_letter hK hl ⟨_, rfl, ite_both (fun h1 => ?_) (fun h1 => ?_)⟩).clUp))⟩))))
  · exact Qb h (by clear h; rw [Bool.eq_iff_iff]; cases hl <;> simp_all [hdB, isWrd] <;> omega)
  · refine J.OrE (J.Call (J.Nglob (by rw [hK]; k_is) (.ref 173) ⟨_, rfl, kok (by rw [hK]; k_is), J.Lcons (J.Nloc rfl (J.Lnil (c_digit hK hl ⟨_, rfl, ite_both (fun h2 => ?_) (fun h2 => ?_)⟩).clUp))⟩))
    · exact Qb h (by clear h; rw [Bool.eq_iff_iff]; cases hl <;> simp_all [hdB, isWrd] <;> omega)
    · exact J.And1 (J.CmpE (J.Nloc rfl (J.Cstr ⟨_, ceq [95] rfl, Qb h (by clear h; rw [Bool.eq_iff_iff]; cases hl <;> simp_all [hdB, isWrd] <;> omega)⟩)))
theorem c_layout (hK : G.K = KK G.w.params) {l : List Nat} (hl : Le1 l) (h : Q (.bool (hdB isLay l)) H) : Fn G C 1 (.ref 187) [.str (S l)] H Q E := by
  refine Fn.body (ab := [("char", .str (S l))]) (by rw [hK]; k_is) (by rw [hK]; k_is) (fun s I ws X hv => bind1 hv fun _ => BindsTo.of_eq rfl) rfl (fun L' => ?_)
  refine J.cons (J.Return (J.AndE (J.CmpE (J.Nloc rfl (J.Cstr ⟨_, cne [] rfl, _, rfl, ite_both (fun h1 => J.And1 (J.CmpE (J.Nloc rfl (J.Cstr ⟨_, cin hl, ?_⟩)))) (fun h1 => ?_)⟩)))))
  · refine Qb h ?_
    cases hl with
    | nil => simp at h1
    | one c =>
      show decide (c ∈ (Str.ofString " \t\n\r\x0c\x0b").cps.toList) = isLay c
      rw [show (Str.ofString " \t\n\r\x0c\x0b").cps.toList = [32, 9, 10, 13, 12, 11] by decide +kernel]
      rw [Bool.eq_iff_iff]; simp [isLay, or_assoc]
  · exact Qb h (by cases hl <;> simp_all [hdB])
end Mine

namespace Mine
variable {G : Cfg} {C : Addr} {H : Hp} {Q : AV → Hp → Prop} {E : Str → Prop}

theorem clsLex (hK : G.K = KK G.w.params) : ClsF G.K 338 := ⟨by rw [hK]; k_is, by rw [hK]; k_is, by rw [hK]; k_is, by rw [hK]; k_is⟩
theorem lexText (hK : G.K = KK G.w.params) : freeAt G.K 338 "text" := by unfold freeAt; rw [hK]; k_is
theorem lexAt_ (hK : G.K = KK G.w.params) : freeAt G.K 338 "at" := by unfold freeAt; rw [hK]; k_is
theorem lexKeys (hK : G.K = KK G.w.params) : freeAt G.K 338 "keys" := by unfold freeAt; rw [hK]; k_is
theorem mChar (hK : G.K = KK G.w.params) : MethF G.K 338 "char" 216 := ⟨by rw [hK]; k_is, by rw [hK]; k_is, by rw [hK]; k_is⟩
theorem mPair (hK : G.K = KK G.w.params) : MethF G.K 338 "pair" 223 := ⟨by rw [hK]; k_is, by rw [hK]; k_is, by rw [hK]; k_is⟩
theorem mPast (hK : G.K = KK G.w.params) : MethF G.K 338 "past_layout" 230 := ⟨by rw [hK]; k_is, by rw [hK]; k_is, by rw [hK]; k_is⟩

noncomputable abbrev lexF (t : List Nat) (p : Nat) (kd : Addr) : List (Str × AV) := [("text", .str (S t)), ("at", .int p), ("keys", .ref kd)]
structure LX (H : Hp) (x d kd : Addr) (t : List Nat) (p : Nat) : Prop where
  i : IsI H x 338 d (lexF t p kd)
  k : ∃ D, H kd = some (.sdict D) ∧ ∀ l, D.any (·.1 == S l) = kwL.contains l
  m : (kd == sysModules) = false
  n : t.length ≤ 10000
  a : ∀ c ∈ t, c < 128
variable {x d kd : Addr} {t : List Nat} {p : Nat}

theorem S_fits {l : List Nat} (h : l.length ≤ 10000) : (S l).length ≤ sizeLine := by rw [S_len, sizeLine_eq]; omega

theorem c_char (hK : G.K = KK G.w.params) (lx : LX H x d kd t p) (i : Nat) (h : Q (.str (S ((t.drop i).take 1))) H) : Fn G C 1 (.ref 216) [.ref x, .int i] H Q E := by
  refine Fn.body (ab := [("self", .ref x), ("index", .int i)]) (by rw [hK]; k_is) (by rw [hK]; k_is) (fun s I ws X hv => bind2 hv fun _ _ => BindsTo.of_eq rfl) rfl (fun L' => ?_)
  refine J.cons (J.Return (J.SliceS (J.AttrI (J.Nloc rfl ⟨x, 338, d, lexF t p kd, _, rfl, lx.i, rfl, clsLex hK, lexText hK, rfl, J.Nloc rfl (J.BinOp (J.Nloc rfl (J.Cint ⟨_, .addI _ _, S t, (i : Nat), ((i + 1 : Nat) : Int), rfl, rfl, rfl, S_fits lx.n, ?_⟩)))⟩))))
  rw [sl _ _ _ (by omega), show i + 1 - i = 1 by omega]
  exact h
theorem c_pair (hK : G.K = KK G.w.params) (lx : LX H x d kd t p) (i : Nat) (h : Q (.str (S ((t.drop i).take 2))) H) : Fn G C 1 (.ref 223) [.ref x, .int i] H Q E := by
  refine Fn.body (ab := [("self", .ref x), ("index", .int i)]) (by rw [hK]; k_is) (by rw [hK]; k_is) (fun s I ws X hv => bind2 hv fun _ _ => BindsTo.of_eq rfl) rfl (fun L' => ?_)
  refine J.cons (J.Return (J.SliceS (J.AttrI (J.Nloc rfl ⟨x, 338, d, lexF t p kd, _, rfl, lx.i, rfl, clsLex hK, lexText hK, rfl, J.Nloc rfl (J.BinOp (J.Nloc rfl (J.Cint ⟨_, .addI _ _, S t, (i : Nat), ((i + 2 : Nat) : Int), rfl, rfl, rfl, S_fits lx.n, ?_⟩)))⟩))))
  rw [sl _ _ _ (by omega), show i + 2 - i = 2 by omega]
  exact h
noncomputable def lenW (f : Nat → Bool) : List Nat → Nat
  | [] => 0
  | c :: r => if f c then lenW f r + 1 else 0
theorem takeW_eq (f : Nat → Bool) : ∀ r : List Nat, takeW f r = r.take (lenW f r)
  | [] => rfl
  | c :: r => by unfold takeW lenW; split <;> simp [takeW_eq f r]
theorem dropW_eq (f : Nat → Bool) : ∀ r : List Nat, dropW f r = r.drop (lenW f r)
  | [] => rfl
  | c :: r => by unfold dropW lenW; split <;> simp [dropW_eq f r]
theorem lenW_le (f : Nat → Bool) : ∀ r : List Nat, lenW f r ≤ r.length
  | [] => Nat.le_refl _
  | c :: r => by unfold lenW; split <;> simp [lenW_le f r]
theorem lenW_yes {f : Nat → Bool} {r : List Nat} (h : hdB f r = true) : lenW f r = lenW f (r.drop 1) + 1 ∧ 0 < r.length := by
  cases r with
  | nil => cases h
  | cons c r =>
    have h' : f c = true := h
    exact ⟨by show (if f c = true then _ else _) = _; rw [if_pos h']; rfl, Nat.succ_pos _⟩
theorem lenW_no {f : Nat → Bool} {r : List Nat} (h : hdB f r = false) : lenW f r = 0 := by
  cases r with
  | nil => rfl
  | cons c r => unfold lenW; rw [if_neg (by rw [show f c = false from h]; decide)]

set_option autoImplicit false in
inductive IvC2_1 (x : Addr) (H : Hp) (t : List Nat) (i : Nat) (n : Nat) (σ : St) : Prop
  | mk (j : Nat) (h1 : σ = ⟨[("index", .int j), ("self", .ref x)], H⟩) (h2 : j + lenW isLay (t.drop j) = i + lenW isLay (t.drop i)) (h3 : n = (t.drop j).length)
theorem c_past (hK : G.K = KK G.w.params) (lx : LX H x d kd t p) (i : Nat) (h : Q (.int ((i + lenW isLay (t.drop i) : Nat) : Int)) H) : Fn G C 2 (.ref 230) [.ref x, .int i] H Q E := by
  refine Fn.body (ab := [("self", .ref x), ("index", .int i)]) (by rw [hK]; k_is) (by rw [hK]; k_is) (fun s I ws X hv => bind2 hv fun _ _ => BindsTo.of_eq rfl) rfl (fun L' => ?_)
  refine J.cons (J.While (IvC2_1 x H t i) (t.drop i).length ⟨i, rfl, rfl, rfl⟩ (fun n σ hI => ?_))
  obtain ⟨j, rfl, hj, rfl⟩ := hI
  refine J.Tval (J.Call (J.Nglob (by rw [hK]; k_is) (.ref 187) ⟨_, rfl, kok (by rw [hK]; k_is), J.Lcons (J.MethI (J.Nloc rfl ⟨x, 338, d, lexF t p kd, 216, rfl, lx.i, rfl, clsLex hK, mChar hK, J.Lcons (J.Nloc rfl (J.Lnil (c_char hK lx j (J.Lnil (c_layout hK (take1 _) ⟨_, rfl, ?_⟩).clUp)).clUp))⟩)) ⟩))
  rw [hdB_take1]
  refine ite_both (fun hb => J.cons (J.AssignN (J.BinOp (J.Nloc rfl (J.Cint ⟨_, .addI _ _, J.nil ?_⟩))))) (fun hb => J.nil (J.cons (J.Return (J.Nloc rfl ?_))))
  · obtain ⟨e1, e2⟩ := lenW_yes hb
    rw [List.drop_drop] at e1
    exact ⟨(t.drop (j + 1)).length, by simp at e2 ⊢; omega, j + 1, rfl, by omega, rfl⟩
  · have e := lenW_no hb
    rw [e] at hj
    rw [← hj] at h
    exact h
end Mine

namespace Mine
variable {G : Cfg} {C : Addr} {H : Hp} {Q : AV → Hp → Prop} {E : Str → Prop}
variable {x d kd : Addr} {t : List Nat} {p : Nat}

theorem lk_eq {x : Str} {v : AV} {l : List (Str × AV)} : (setL x v l).lookup x = some v := by rw [lookup_setL, if_pos rfl]
theorem lk_ne {x y : Str} {v : AV} {u : AV} {l : List (Str × AV)} (h : l.lookup y = some u) (hn : decide (y = x) = false := by decide) : (setL x v l).lookup y = some u := by
  rw [lookup_setL, if_neg (of_decide_eq_false hn)]; exact h

theorem clsTok (hK : G.K = KK G.w.params) : ClsF G.K 148 := ⟨by rw [hK]; k_is, by rw [hK]; k_is, by rw [hK]; k_is, by rw [hK]; k_is⟩
theorem tokKind (hK : G.K = KK G.w.params) : freeAt G.K 148 "kind" := by unfold freeAt; rw [hK]; k_is
theorem tokValue (hK : G.K = KK G.w.params) : freeAt G.K 148 "value" := by unfold freeAt; rw [hK]; k_is
theorem tokAt (hK : G.K = KK G.w.params) : freeAt G.K 148 "at" := by unfold freeAt; rw [hK]; k_is
noncomputable abbrev tokV (k : Str) (v : AV) (a : Int) : AV := .frz 148 [("kind", .str k), ("value", v), ("at", .int a)]

theorem c_Token (hK : G.K = KK G.w.params) {k : Str} {v : AV} {a : Int} (h : Q (tokV k v a) H) : Fn G C 3 (.ref 148) [.str k, v, .int a] H Q E := by
  refine Fn.makeZ (fI := 145) ⟨by rw [hK]; k_is, by rw [hK]; k_is, by rw [hK]; k_is⟩ fun x d hx hd hxd => ?_
  refine Fn.body (ab := [("self", .ref x), ("kind", .str k), ("value", v), ("at", .int a)]) (by rw [hK]; k_is) (by rw [hK]; k_is) (fun s I ws X hv => bind4 hv fun _ _ _ _ => BindsTo.of_eq rfl) rfl (fun L' => ?_)
  refine J.cons (J.AssignA (J.Nloc rfl (J.Nloc rfl ⟨x, 148, d, [], rfl, ⟨by simp [Hp.set], by simp [Hp.set, Ne.symm hxd]⟩, clsTok hK, tokKind hK, by decide, ?_⟩)))
  refine J.cons (J.AssignA (J.Nloc rfl (J.Nloc rfl ⟨x, 148, d, [("kind", .str k)], rfl, ⟨by simp [Hp.set, hxd], by simp [Hp.set]; rfl⟩, clsTok hK, tokValue hK, by simp, ?_⟩)))
  refine J.cons (J.AssignA (J.Nloc rfl (J.Nloc rfl ⟨x, 148, d, [("kind", .str k), ("value", v)], rfl, ⟨by simp [Hp.set, hxd], by simp [Hp.set]; rfl⟩, clsTok hK, tokAt hK, by simp, J.nil ?_⟩)))
  exact ⟨rfl, _, by simp [Hp.set, hxd], by simp [Hp.set]; rfl, fun b h1 h2 => by simp [Hp.set, h1, h2], h⟩

noncomputable def Keep1 (d : Addr) (H H' : Hp) : Prop := ∀ a, a ≠ d → H' a = H a
theorem Keep1.refl {d : Addr} {H : Hp} : Keep1 d H H := fun _ _ => rfl
theorem Keep1.trans {d : Addr} {H H' H'' : Hp} (a : Keep1 d H H') (b : Keep1 d H' H'') : Keep1 d H H'' := fun x hx => (b x hx).trans (a x hx)
theorem Keep1.set {d : Addr} {H : Hp} {o : AO} : Keep1 d H (H.set d o) := fun a h => by simp [Hp.set, h]
theorem LX.step (lx : LX H x d kd t p) (q : Nat) : LX (H.set d (.dict (lexF t q kd))) x d kd t q := by
  have h1 : x ≠ d := fun e => by have := lx.i.i; rw [e, lx.i.f] at this; cases this
  have h2 : kd ≠ d := fun e => by obtain ⟨D, hk, _⟩ := lx.k; rw [e, lx.i.f] at hk; cases hk
  refine ⟨⟨?_, by simp [Hp.set]⟩, ?_, lx.m, lx.n, lx.a⟩
  · rw [Hp.set_ne h1]; exact lx.i.i
  · obtain ⟨D, hk, hD⟩ := lx.k; exact ⟨D, by rw [Hp.set_ne h2]; exact hk, hD⟩

noncomputable def noCom (r : List Nat) : Prop := r.take 2 ≠ [47, 47] ∧ r.take 2 ≠ [47, 42] ∧ r.take 2 ≠ [40, 42]

set_option autoImplicit false in
inductive IvC3_1 (x : Addr) (d : Addr) (kd : Addr) (t : List Nat) (H : Hp) (p : Nat) (n : Nat) (σ : St) : Prop
  | mk (q : Nat) (h1 : σ.loc.lookup ("self" : Str) = some (AV.ref x)) (h2 : LX σ.H x d kd t q) (h3 : Keep1 d H σ.H) (h4 : q + lenW isLay (t.drop q) = p + lenW isLay (t.drop p)) (h5 : n = (t.drop q).length)
theorem c_skip (hK : G.K = KK G.w.params) (lx : LX H x d kd t p) (hn : noCom (t.drop (p + lenW isLay (t.drop p))))
    (h : ∀ H', LX H' x d kd t (p + lenW isLay (t.drop p)) → Keep1 d H H' → Q .none H') : Fn G C 4 (.ref 244) [.ref x] H Q E := by
  refine Fn.body (ab := [("self", .ref x)]) (by rw [hK]; k_is) (by rw [hK]; k_is) (fun s I ws X hv => bind1 hv fun _ => BindsTo.of_eq rfl) rfl (fun L' => ?_)
  refine J.cons (J.While (IvC3_1 x d kd t H p) (t.drop p).length ⟨p, rfl, lx, .refl, rfl, rfl⟩ (fun n σ hI => ?_))
  obtain ⟨q, hl, lx', kp, hq, rfl⟩ := hI
  refine J.Tval (J.Cbool ⟨_, rfl, ?_⟩)
  refine J.cons (J.AssignN (J.MethI (J.Nloc hl ⟨x, 338, d, lexF t q kd, 216, rfl, lx'.i, rfl, clsLex hK, mChar hK, J.Lcons (J.AttrI (J.Nloc hl ⟨x, 338, d, lexF t q kd, _, rfl, lx'.i, rfl, clsLex hK, lexAt_ hK, rfl, J.Lnil (c_char hK lx' q ?_).clUp⟩))⟩)))
  refine J.cons (J.AssignN (J.MethI (J.Nloc (lk_ne hl) ⟨x, 338, d, lexF t q kd, 223, rfl, lx'.i, rfl, clsLex hK, mPair hK, J.Lcons (J.AttrI (J.Nloc (lk_ne hl) ⟨x, 338, d, lexF t q kd, _, rfl, lx'.i, rfl, clsLex hK, lexAt_ hK, rfl, J.Lnil (c_pair hK lx' q ?_).clUp⟩))⟩)))
  refine J.cons (J.If (J.Tval (J.Call (J.Nglob (by rw [hK]; k_is) (.ref 187) ⟨_, rfl, kok (by rw [hK]; k_is), J.Lcons (J.Nloc (lk_ne lk_eq) (J.Lnil (c_layout hK (take1 _) ⟨_, rfl, ?_⟩).clUp))⟩))))
  rw [hdB_take1]
  refine ite_both (fun hb => ?_) (fun hb => ?_)
  · refine J.cons (J.AssignA (J.BinOp (J.AttrI (J.Nloc (lk_ne (lk_ne hl)) ⟨x, 338, d, lexF t q kd, _, rfl, lx'.i, rfl, clsLex hK, lexAt_ hK, rfl, J.Cint ⟨_, .addI _ _, J.Nloc (lk_ne (lk_ne hl)) ⟨x, 338, d, lexF t q kd, rfl, lx'.i, clsLex hK, lexAt_ hK, by simp, J.nil (J.nil ?_)⟩⟩⟩))))
    obtain ⟨e1, e2⟩ := lenW_yes hb
    rw [List.drop_drop] at e1
    exact ⟨(t.drop (q + 1)).length, by simp at e2 ⊢; omega, q + 1, lk_ne (lk_ne hl), lx'.step (q + 1), kp.trans .set, by omega, rfl⟩
  · have e := lenW_no hb
    rw [e] at hq
    rw [← hq] at hn h
    have hcn : ∀ (m : List Nat), (t.drop q).take 2 ≠ m → decide ((t.drop q).take 2 = m) = false := fun m hm => decide_eq_false hm
    refine J.cons (J.If (J.TCmp (J.Nloc lk_eq (J.Cstr ⟨_, ceq [47, 47] rfl, ?_⟩))))
    rw [hcn _ hn.1, if_neg (by decide)]
    refine J.cons (J.If (J.TCmp (J.Nloc lk_eq (J.Cstr ⟨_, ceq [47, 42] rfl, ?_⟩))))
    rw [hcn _ hn.2.1, if_neg (by decide)]
    refine J.cons (J.If (J.TAnd (J.TCmp (J.Nloc lk_eq (J.Cstr ⟨_, ceq [40, 42] rfl, ?_⟩)))))
    rw [hcn _ hn.2.2, if_neg (by decide), if_neg (by decide)]
    exact J.cons (J.ReturnNone (h _ lx' kp))
end Mine

namespace Mine
variable {G : Cfg} {C : Addr} {H : Hp} {Q : AV → Hp → Prop} {E : Str → Prop}
variable {x d kd : Addr} {t : List Nat} {p : Nat}

noncomputable def tkKind : Tk → Str
  | .key _ => "key"
  | .id _ => "id"
  | .op _ => "op"
  | .num _ _ _ => "num"
  | .eof => "eof"
noncomputable def tkVal : Tk → AV
  | .key w => .str (S w)
  | .id w => .str (S w)
  | .op w => .str (S w)
  | .num s b d => .tup [.str (S s), .str (S b), .bool b.isEmpty, .str (S d)]
  | .eof => .str (S [])
noncomputable abbrev tokAV (k : Tk) (a : Int) : AV := tokV (tkKind k) (tkVal k) a
noncomputable def isWD (c : Nat) : Bool := isWrd c || c == 36
noncomputable def isDU (c : Nat) : Bool := isDig c || c == 95

theorem hdB_or (f g : Nat → Bool) (r : List Nat) : (hdB f r || hdB g r) = hdB (fun c => f c || g c) r := by cases r <;> rfl
theorem hdB_eq (c : Nat) (r : List Nat) : decide (r.take 1 = [c]) = hdB (· == c) r := by
  cases r with
  | nil => rfl
  | cons a r => show decide ([a] = [c]) = (a == c); rw [Bool.eq_iff_iff]; simp

section
variable {k : Nat} {env : Env} {σ : St} {pos : Pos} {whole : Sem Value} {a : Expr} {rest : List Expr}
theorem J.TOrB {x y : Bool} (ha : JT G C k env a σ (fun v σ' => σ' = σ ∧ v = x) E) (hb : J G C k env BRl (isTrue (.BoolOp .Or rest pos) env whole) σ (fun v σ' => σ' = σ ∧ v = y) E) :
    J G C k env BRl (isTrue (.BoolOp .Or (a :: rest) pos) env whole) σ (fun v σ' => σ' = σ ∧ v = (x || y)) E := by
  refine J.TOr (ha.monoQ fun v σ' ⟨e1, e2⟩ => ?_)
  subst e1; subst e2
  cases v
  · exact hb
  · exact ⟨rfl, rfl⟩
theorem J.TOrZ : J G C k env BRl (isTrue (.BoolOp .Or [] pos) env whole) σ (fun v σ' => σ' = σ ∧ v = false) E := J.TOrNil ⟨rfl, rfl⟩
theorem J.TAndB {x y : Bool} (ha : JT G C k env a σ (fun v σ' => σ' = σ ∧ v = x) E) (hb : J G C k env BRl (isTrue (.BoolOp .And rest pos) env whole) σ (fun v σ' => σ' = σ ∧ v = y) E) :
    J G C k env BRl (isTrue (.BoolOp .And (a :: rest) pos) env whole) σ (fun v σ' => σ' = σ ∧ v = (x && y)) E := by
  refine J.TAnd (ha.monoQ fun v σ' ⟨e1, e2⟩ => ?_)
  subst e1; subst e2
  cases v
  · exact ⟨rfl, rfl⟩
  · exact hb
theorem J.TAndZ : J G C k env BRl (isTrue (.BoolOp .And [] pos) env whole) σ (fun v σ' => σ' = σ ∧ v = true) E := J.TAndNil ⟨rfl, rfl⟩
theorem J.thenB {t : Sem Bool} {x : Bool} {Q : Bool → St → Prop} (h : J G C k env BRl t σ (fun v σ' => σ' = σ ∧ v = x) E) (q : Q x σ) : J G C k env BRl t σ Q E := h.monoQ fun v σ' ⟨e1, e2⟩ => by subst e1; subst e2; exact q
end

noncomputable def strsOf : List Expr → Option (List Str)
  | [] => some []
  | .Constant (.str x) _ _ :: r => (strsOf r).map (x :: ·)
  | _ => none
theorem strsOf_cons {e : Expr} {r : List Expr} {ys : List Str} (h : strsOf (e :: r) = some ys) : ∃ x n p zs, e = .Constant (.str x) n p ∧ strsOf r = some zs ∧ ys = x :: zs := by
  unfold strsOf at h
  split at h
  · rename_i q; cases q
  · rename_i x n p r' q
    cases q
    obtain ⟨zs, e1, rfl⟩ := Option.map_eq_some_iff.mp h
    exact ⟨x, n, p, zs, rfl, e1, rfl⟩
  · cases h
theorem J.Lstrs {k : Nat} {env : Env} {σ : St} {pos : Pos} : ∀ {es : List Expr} {ys : List Str} {QL : List AV → St → Prop}, strsOf es = some ys → QL (ys.map .str) σ → JL G C k env es pos σ QL E
  | [], ys, QL, e, h => by cases e; exact J.Lnil h
  | x :: r, ys, QL, e, h => by
    obtain ⟨y, n, p, zs, rfl, e1, rfl⟩ := strsOf_cons e
    exact J.Lcons (J.Cstr (J.Lstrs (QL := fun vs σ₂ => QL (.str y :: vs) σ₂) e1 h))
theorem J.TupStr {k : Nat} {env : Env} {σ : St} {pos : Pos} {es : List Expr} {ys : List Str} {n : Nat} {Q : AV → St → Prop} (e : strsOf es = some ys) (hl : ys.length ≤ 1000) (h : Q (.tup (ys.map .str)) σ) : JE G C k env (.Tuple es n pos) σ Q E :=
  J.TupleD (J.Lstrs e ⟨by rw [List.length_map]; exact hl, h⟩)
set_option autoImplicit false in
inductive IvC4_1 (p : Nat) (x : Addr) (H : Hp) (t : List Nat) (n : Nat) (σ : St) : Prop
  | mk (q : Nat) (h1 : σ = ⟨[("at", .int p), ("self", .ref x), ("end", .int q)], H⟩) (h2 : p ≤ q) (h3 : q + lenW isWD (t.drop q) = p + lenW isWD (t.drop p)) (h4 : n = (t.drop q).length)
theorem c_wordM (hK : G.K = KK G.w.params) (lx : LX H x d kd t p)
    (h : ∀ H', LX H' x d kd t (p + lenW isWD (t.drop p)) → Keep1 d H H' → Q (tokAV (if kwL.contains ((t.drop p).take (lenW isWD (t.drop p))) then .key ((t.drop p).take (lenW isWD (t.drop p))) else .id ((t.drop p).take (lenW isWD (t.drop p)))) p) H') :
    Fn G C 4 (.ref 272) [.ref x, .int p] H Q E := by
  refine Fn.body (ab := [("self", .ref x), ("at", .int p)]) (by rw [hK]; k_is) (by rw [hK]; k_is) (fun s I ws X hv => bind2 hv fun _ _ => BindsTo.of_eq rfl) rfl (fun L' => ?_)
  refine J.cons (J.AssignN (J.Nloc rfl ?_))
  refine J.cons (J.While (IvC4_1 p x H t) (t.drop p).length ⟨p, rfl, Nat.le_refl _, rfl, rfl⟩ (fun n σ hI => ?_))
  obtain ⟨q, rfl, hpq, hq, rfl⟩ := hI
  refine J.thenB (J.TOrB (x := hdB isWrd (t.drop q)) (J.Tval (J.Call (J.Nglob (by rw [hK]; k_is) (.ref 180) ⟨_, rfl, kok (by rw [hK]; k_is), J.Lcons (J.MethI (J.Nloc rfl ⟨x, 338, d, lexF t p kd, 216, rfl, lx.i, rfl, clsLex hK, mChar hK, J.Lcons (J.Nloc rfl (J.Lnil (c_char hK lx q (J.Lnil (c_word hK (take1 _) ⟨_, rfl, rfl, hdB_take1 _ _⟩).clUp)).clUp))⟩)) ⟩)))
    (J.TOrB (x := hdB (· == 36) (t.drop q)) (J.TCmp (J.MethI (J.Nloc rfl ⟨x, 338, d, lexF t p kd, 216, rfl, lx.i, rfl, clsLex hK, mChar hK, J.Lcons (J.Nloc rfl (J.Lnil (c_char hK lx q (J.Cstr ⟨_, ceq [36] rfl, rfl, hdB_eq _ _⟩)).clUp))⟩))) J.TOrZ)) ?_
  rw [Bool.or_false, hdB_or]
  refine ite_both (fun hb => J.cons (J.AssignN (J.BinOp (J.Nloc rfl (J.Cint ⟨_, .addI _ _, J.nil ?_⟩))))) (fun hb => J.nil ?_)
  · obtain ⟨e1, e2⟩ := lenW_yes (f := isWD) hb
    rw [List.drop_drop] at e1
    exact ⟨(t.drop (q + 1)).length, by simp at e2 ⊢; omega, q + 1, rfl, by omega, by omega, rfl⟩
  · have e := lenW_no (f := isWD) hb
    rw [e] at hq
    have hq' : q = p + lenW isWD (t.drop p) := by omega
    refine J.cons (J.AssignA (J.Nloc rfl (J.Nloc rfl ⟨x, 338, d, lexF t p kd, rfl, lx.i, clsLex hK, lexAt_ hK, by simp, ?_⟩)))
    have lx' := lx.step q
    refine J.cons (J.AssignN (J.SliceS (J.AttrI (J.Nloc rfl ⟨x, 338, d, lexF t q kd, _, rfl, lx'.i, rfl, clsLex hK, lexText hK, rfl, J.Nloc rfl (J.Nloc rfl ⟨S t, (p : Nat), (q : Nat), rfl, rfl, rfl, S_fits lx.n, ?_⟩)⟩))))
    rw [sl _ _ _ hpq, show q - p = lenW isWD (t.drop p) by omega]
    obtain ⟨D, hk, hD⟩ := lx'.k
    refine J.cons (J.If (J.TCmp (J.Nloc rfl (J.AttrI (J.Nloc rfl ⟨x, 338, d, lexF t q kd, _, rfl, lx'.i, rfl, clsLex hK, lexKeys hK, rfl, ⟨_, .inD _ kd D lx.m hk, ?_⟩⟩)))))
    rw [hD]
    rw [← hq'] at h
    have h' := h _ lx' .set
    refine ite_both (fun hb => ?_) (fun hb => J.nil ?_)
    · rw [hb, if_pos rfl] at h'
      refine J.cons (J.Return (J.Call (J.Nglob (by rw [hK]; k_is) (.ref 148) ⟨_, rfl, kok (by rw [hK]; k_is), J.Lcons (J.Cstr (J.Lcons (J.Nloc rfl (J.Lcons (J.Nloc rfl (J.Lnil ?_))))))⟩)))
      refine (c_Token hK ?_).clUp
      exact h'
    · rw [hb, if_neg (by decide)] at h'
      refine J.cons (J.Return (J.Call (J.Nglob (by rw [hK]; k_is) (.ref 148) ⟨_, rfl, kok (by rw [hK]; k_is), J.Lcons (J.Cstr (J.Lcons (J.Nloc rfl (J.Lcons (J.Nloc rfl (J.Lnil ?_))))))⟩)))
      refine (c_Token hK ?_).clUp
      exact h'
end Mine

namespace Mine
variable {G : Cfg} {C : Addr} {H : Hp} {Q : AV → Hp → Prop} {E : Str → Prop}
variable {x d kd : Addr} {t : List Nat} {p : Nat}

theorem Hp.clean {H : Hp} {it : Addr} {a b : AO} (h : H it = none) : ((H.set it a).set it b).drop it = H := by
  funext z
  by_cases q : z = it
  · subst q; simp [Hp.drop, h]
  · simp [Hp.drop, Hp.set, q]
theorem con1 (c e : Nat) (r : List Nat) : [[c], [e]].contains (r.take 1) = hdB (fun z => z == c || z == e) r := by
  cases r with
  | nil => rfl
  | cons a r =>
    rw [Bool.eq_iff_iff]; simp [hdB]

theorem c_real (hK : G.K = KK G.w.params) (lx : LX H x d kd t p) (e : Nat) (h : Q (.bool (isReal (t.drop e))) H) : Fn G C 3 (.ref 300) [.ref x, .int e] H Q E := by
  refine Fn.body (ab := [("self", .ref x), ("end", .int e)]) (by rw [hK]; k_is) (by rw [hK]; k_is) (fun s I ws X hv => bind2 hv fun _ _ => BindsTo.of_eq rfl) rfl (fun L' => ?_)
  have e1 : (t.drop e).drop 1 = t.drop (e + 1) := by rw [List.drop_drop]
  have e2 : (t.drop e).drop 2 = t.drop (e + 2) := by rw [List.drop_drop]
  unfold isReal at h
  rw [e1, e2] at h
  refine J.cons (J.If (J.TCmp (J.MethI (J.Nloc rfl ⟨x, 338, d, lexF t p kd, 216, rfl, lx.i, rfl, clsLex hK, mChar hK, J.Lcons (J.Nloc rfl (J.Lnil (c_char hK lx e (J.Cstr ⟨_, ceq [46] rfl, ?_⟩)).clUp))⟩))))
  rw [hdB_eq]
  refine ite_both (fun hb => ?_) (fun hb => J.nil ?_)
  · rw [hb, if_pos rfl] at h
    refine J.cons (J.Return (J.Call (J.Nglob (by rw [hK]; k_is) (.ref 173) ⟨_, rfl, kok (by rw [hK]; k_is), J.Lcons (J.MethI (J.Nloc rfl ⟨x, 338, d, lexF t p kd, 216, rfl, lx.i, rfl, clsLex hK, mChar hK, J.Lcons (J.BinOp (J.Nloc rfl (J.Cint ⟨_, .addI _ _, J.Lnil (c_char hK lx (e + 1) (J.Lnil (c_digit hK (take1 _) ?_).clUp)).clUp⟩)))⟩)) ⟩)))
    rw [hdB_take1]; exact h
  · rw [hb, if_neg (by decide)] at h
    refine J.cons (J.If (J.TCmp (J.MethI (J.Nloc rfl ⟨x, 338, d, lexF t p kd, 216, rfl, lx.i, rfl, clsLex hK, mChar hK, J.Lcons (J.Nloc rfl (J.Lnil (c_char hK lx e (J.TupStr rfl (by simp) ⟨_, cninT [[101], [69]] rfl, ?_⟩)).clUp))⟩))))
    rw [con1]
    refine ite_both (fun hb => ?_) (fun hb => J.nil ?_)
    · rw [hb, if_pos rfl] at h
      exact J.cons (J.Return (J.Cbool h))
    · rw [hb, if_neg (by decide)] at h
      refine J.cons (J.If (J.TCmp (J.MethI (J.Nloc rfl ⟨x, 338, d, lexF t p kd, 216, rfl, lx.i, rfl, clsLex hK, mChar hK, J.Lcons (J.BinOp (J.Nloc rfl (J.Cint ⟨_, .addI _ _, J.Lnil (c_char hK lx (e + 1) (J.TupStr rfl (by simp) ⟨_, cinT [[43], [45]] rfl, ?_⟩)).clUp⟩)))⟩))))
      rw [con1]
      refine ite_both (fun hb => ?_) (fun hb => J.nil ?_)
      · rw [hb, if_pos rfl] at h
        refine J.cons (J.Return (J.Call (J.Nglob (by rw [hK]; k_is) (.ref 173) ⟨_, rfl, kok (by rw [hK]; k_is), J.Lcons (J.MethI (J.Nloc rfl ⟨x, 338, d, lexF t p kd, 216, rfl, lx.i, rfl, clsLex hK, mChar hK, J.Lcons (J.BinOp (J.Nloc rfl (J.Cint ⟨_, .addI _ _, J.Lnil (c_char hK lx (e + 2) (J.Lnil (c_digit hK (take1 _) ?_).clUp)).clUp⟩)))⟩)) ⟩)))
        rw [hdB_take1]; exact h
      · rw [hb, if_neg (by decide)] at h
        refine J.cons (J.Return (J.Call (J.Nglob (by rw [hK]; k_is) (.ref 173) ⟨_, rfl, kok (by rw [hK]; k_is), J.Lcons (J.MethI (J.Nloc rfl ⟨x, 338, d, lexF t p kd, 216, rfl, lx.i, rfl, clsLex hK, mChar hK, J.Lcons (J.BinOp (J.Nloc rfl (J.Cint ⟨_, .addI _ _, J.Lnil (c_char hK lx (e + 1) (J.Lnil (c_digit hK (take1 _) ?_).clUp)).clUp⟩)))⟩)) ⟩)))
        rw [hdB_take1]; exact h

theorem fit_b : ∀ c, c = 48 ∨ c = 49 ∨ c = 120 → c ∈ (Str.ofString "01xz?").cps.toList := by
  rw [show (Str.ofString "01xz?").cps.toList = [48, 49, 120, 122, 63] by decide +kernel]
  intro c h; rcases h with rfl | rfl | rfl <;> simp
theorem c_fits (hK : G.K = KK G.w.params) {c : Nat} (hc : c = 48 ∨ c = 49 ∨ c = 120) (h : Q (.bool true) H) : Fn G C 2 (.ref 194) [.str (S [98]), .str (S [c])] H Q E := by
  refine Fn.body (ab := [("base", .str (S [98])), ("digits", .str (S [c]))]) (by rw [hK]; k_is) (by rw [hK]; k_is) (fun s I ws X hv => bind2 hv fun _ _ => BindsTo.of_eq rfl) rfl (fun L' => ?_)
  refine J.cons (J.If (J.TCmp (J.Nloc rfl (J.Cstr ⟨_, ceq [] rfl, ?_⟩))))
  rw [decide_eq_false (by simp), if_neg (by decide)]
  refine J.nil (J.cons (J.If (J.TAnd (J.TCmp (J.Nloc rfl (J.Cstr ⟨_, ceq [100] rfl, ?_⟩))))))
  rw [decide_eq_false (by simp), if_neg (by decide), if_neg (by decide)]
  refine J.nil (J.cons (J.AssignN (J.Cstr (J.cons (J.If (J.TCmp (J.Nloc rfl (J.Cstr ⟨_, ceq [98] rfl, ?_⟩))))))))
  rw [decide_eq_true rfl, if_pos rfl]
  refine J.cons (J.AssignN (J.Cstr (J.nil (J.cons (J.For (J.Nloc rfl ⟨_, _, .str (S [c]) (by rcases hc with rfl | rfl | rfl <;> simp [S]), fun it hit => ?_⟩))))))
  show ForJ G C 1 _ _ _ _ E it [.str (S [c])] _
  refine J.cons (J.If (J.TCmp (J.Nloc rfl (J.Nloc rfl ⟨_, cnin (.one c), ?_⟩))))
  rw [show inB (Str.ofString "01xz?") [c] = true from decide_eq_true (fit_b c hc)]
  rw [Bool.not_true, if_neg (by decide)]
  refine J.nil (J.nil ⟨by simp [Hp.set], ?_⟩)
  exact J.cons (J.Return (J.Cbool (Eq.mpr (congrArg (Q (.bool true)) (Hp.clean hit)) h)))

theorem LX.lt (lx : LX H x d kd t p) {c : Nat} {i : Nat} {r : List Nat} (h : t.drop i = c :: r) : c < 128 := lx.a c (List.mem_of_mem_drop (h ▸ List.mem_cons_self ..))
theorem dr1 {t : List Nat} {i : Nat} {c : Nat} {r : List Nat} (h : t.drop i = c :: r) : t.drop (i + 1) = r := by rw [← List.drop_drop, h]; rfl

theorem mReal (hK : G.K = KK G.w.params) : MethF G.K 338 "is_real" 300 := ⟨by rw [hK]; k_is, by rw [hK]; k_is, by rw [hK]; k_is⟩
theorem mBased (hK : G.K = KK G.w.params) : MethF G.K 338 "based" 307 := ⟨by rw [hK]; k_is, by rw [hK]; k_is, by rw [hK]; k_is⟩

set_option autoImplicit false in
inductive IvC5_1 (size : List Nat) (qt : Nat) (a : Nat) (x : Addr) (H : Hp) (t : List Nat) (n : Nat) (σ : St) : Prop
  | mk (e : Nat) (h1 : σ = ⟨[("size", .str (S size)), ("quote", .int qt), ("at", .int a), ("self", .ref x), ("index", .int ((qt + 1 : Nat) : Int)), ("signed", .bool false), ("base", .str (S [98])), ("begin", .int ((qt + 2 : Nat) : Int)), ("end", .int e)], H⟩) (h2 : (e = qt + 2 ∨ e = qt + 3)) (h3 : n = (t.drop e).length)
theorem c_based (hK : G.K = KK G.w.params) (lx : LX H x d kd t p) (a qt : Nat) (size : List Nat) {b c : Nat} {r : List Nat} (ht : t.drop (qt + 1) = b :: c :: r) (hb : b = 98 ∨ b = 66) (hc : c = 48 ∨ c = 49 ∨ c = 120) (hr : hdB (fun c => isWrd c || c == 63) r = false)
    (h : ∀ H', LX H' x d kd t (qt + 3) → Keep1 d H H' → Q (tokAV (.num size [98] [c]) a) H') : Fn G C 5 (.ref 307) [.ref x, .int a, .int qt, .str (S size)] H Q E := by
  have t1 : t.drop (qt + 2) = c :: r := dr1 ht
  have t2 : t.drop (qt + 3) = r := dr1 t1
  have hcl : isLay c = false := by rcases hc with rfl | rfl | rfl <;> rfl
  refine Fn.body (ab := [("self", .ref x), ("at", .int a), ("quote", .int qt), ("size", .str (S size))]) (by rw [hK]; k_is) (by rw [hK]; k_is) (fun s I ws X hv => bind4 hv fun _ _ _ _ => BindsTo.of_eq rfl) rfl (fun L' => ?_)
  refine J.cons (J.AssignN (J.BinOp (J.Nloc rfl (J.Cint ⟨_, .addI _ _, ?_⟩))))
  refine J.cons (J.AssignN (J.CmpE (J.MethI (J.Nloc rfl ⟨x, 338, d, lexF t p kd, 216, rfl, lx.i, rfl, clsLex hK, mChar hK, J.Lcons (J.Nloc rfl (J.Lnil (c_char hK lx (qt + 1) (J.TupStr rfl (by simp) ⟨_, cinT [[115], [83]] rfl, ?_⟩)).clUp))⟩))))
  rw [ht, show ([[115], [83]] : List (List Nat)).contains ((b :: c :: r).take 1) = false by rcases hb with rfl | rfl <;> rfl]
  refine J.cons (J.If (J.Tval (J.Nloc rfl ⟨_, rfl, ?_⟩)))
  rw [if_neg (by decide)]
  refine J.nil (J.cons (J.AssignN (J.MethS PySem.F.slot_str_lower PySem.F.type_str_lower (J.MethI (J.Nloc rfl ⟨x, 338, d, lexF t p kd, 216, rfl, lx.i, rfl, clsLex hK, mChar hK, J.Lcons (J.Nloc rfl (J.Lnil (c_char hK lx (qt + 1) ⟨_, rfl, J.Lnil (Cl.lower (by simp [S, Str.length]; omega) ?_)⟩).clUp))⟩)))))
  rw [ht, show Txt.lower (S ((b :: c :: r).take 1)) = S [98] by
    show Txt.lower (S [b]) = _
    rw [lower_S _ (by intro z hz; rw [List.mem_singleton] at hz; subst hz; rcases hb with rfl | rfl <;> decide)]
    rcases hb with rfl | rfl <;> rfl]
  refine J.cons (J.If (J.TCmp (J.Nloc rfl (J.TupStr rfl (by simp) ⟨_, cninT [[98], [111], [100], [104]] rfl, ?_⟩))))
  rw [show (!([[98], [111], [100], [104]] : List (List Nat)).contains [98]) = false from rfl, if_neg (by decide)]
  refine J.nil (J.cons (J.AssignN (J.MethI (J.Nloc rfl ⟨x, 338, d, lexF t p kd, 230, rfl, lx.i, rfl, clsLex hK, mPast hK, J.Lcons (J.BinOp (J.Nloc rfl (J.Cint ⟨_, .addI _ _, J.Lnil (c_past hK lx (qt + 2) ?_).clUp⟩)))⟩))))
  rw [t1, show lenW isLay (c :: r) = 0 from lenW_no hcl]
  refine J.cons (J.AssignN (J.Nloc rfl (J.cons (J.If (J.TCmp (J.MethI (J.Nloc rfl ⟨x, 338, d, lexF t p kd, 216, rfl, lx.i, rfl, clsLex hK, mChar hK, J.Lcons (J.Nloc rfl (J.Lnil (c_char hK lx (qt + 2) (J.Cstr ⟨_, ceq [63] rfl, ?_⟩)).clUp))⟩)))))))
  rw [t1, show decide ((c :: r).take 1 = [63]) = false by rcases hc with rfl | rfl | rfl <;> rfl, if_neg (by decide)]
  have inv : ∀ e : Nat, (e = qt + 2 ∨ e = qt + 3) → e + lenW (fun c => isWrd c || c == 63) (t.drop e) = qt + 3 := by
    have l0 : lenW (fun c => isWrd c || c == 63) r = 0 := lenW_no hr
    intro e he
    rcases he with rfl | rfl
    · rw [t1]
      have : (isWrd c || c == 63) = true := by rcases hc with rfl | rfl | rfl <;> rfl
      simp only [lenW, this, if_true, l0]
    · rw [t2, l0]
  refine J.nil (J.cons (J.While (IvC5_1 size qt a x H t) _ ⟨qt + 2, rfl, .inl rfl, rfl⟩ (fun n σ hI => ?_)))
  obtain ⟨e, rfl, he, rfl⟩ := hI
  refine J.thenB (J.TOrB (x := hdB isWrd (t.drop e)) (J.Tval (J.Call (J.Nglob (by rw [hK]; k_is) (.ref 180) ⟨_, rfl, kok (by rw [hK]; k_is), J.Lcons (J.MethI (J.Nloc rfl ⟨x, 338, d, lexF t p kd, 216, rfl, lx.i, rfl, clsLex hK, mChar hK, J.Lcons (J.Nloc rfl (J.Lnil (c_char hK lx e (J.Lnil (c_word hK (take1 _) ⟨_, rfl, rfl, hdB_take1 _ _⟩).clUp)).clUp))⟩)) ⟩)))
    (J.TOrB (x := hdB (· == 63) (t.drop e) && (true && true)) (J.TAndB (J.TCmp (J.MethI (J.Nloc rfl ⟨x, 338, d, lexF t p kd, 216, rfl, lx.i, rfl, clsLex hK, mChar hK, J.Lcons (J.Nloc rfl (J.Lnil (c_char hK lx e (J.Cstr ⟨_, ceq [63] rfl, rfl, hdB_eq _ _⟩)).clUp))⟩)))
      (J.TAndB (J.TCmp (J.Nloc rfl (J.Cstr ⟨_, cne [100] rfl, rfl, rfl⟩))) J.TAndZ)) J.TOrZ)) ?_
  rw [Bool.or_false, Bool.and_true, Bool.and_true, hdB_or]
  have hinv := inv e he
  refine ite_both (fun hb => J.cons (J.AssignN (J.BinOp (J.Nloc rfl (J.Cint ⟨_, .addI _ _, J.nil ?_⟩))))) (fun hb => J.nil ?_)
  · obtain ⟨e1, e2⟩ := lenW_yes (f := fun c => isWrd c || c == 63) hb
    refine ⟨(t.drop (e + 1)).length, by simp at e2 ⊢; omega, e + 1, rfl, ?_, rfl⟩
    rcases he with rfl | rfl
    · exact .inr rfl
    · rw [t2, hr] at hb; cases hb
  · have hz := lenW_no (f := fun c => isWrd c || c == 63) hb
    rw [hz] at hinv
    obtain rfl : e = qt + 3 := by omega
    have hdg : (t.drop (qt + 2)).take (qt + 3 - (qt + 2)) = [c] := by rw [t1, show qt + 3 - (qt + 2) = 1 by omega]; rfl
    refine J.cons (J.AssignN (J.MethS PySem.F.slot_str_replace PySem.F.type_str_replace (J.MethS PySem.F.slot_str_lower PySem.F.type_str_lower (J.SliceS (J.AttrI (J.Nloc rfl ⟨x, 338, d, lexF t p kd, _, rfl, lx.i, rfl, clsLex hK, lexText hK, rfl, J.Nloc rfl (J.Nloc rfl ⟨S t, ((qt + 2 : Nat) : Int), ((qt + 3 : Nat) : Int), rfl, rfl, rfl, S_fits lx.n, ?_⟩)⟩))))))
    rw [sl _ _ _ (by omega), hdg]
    refine ⟨_, rfl, J.Lnil (Cl.lower (by simp [S, Str.length]) ?_)⟩
    have hcc : c < 128 ∧ lowC c = c := by rcases hc with rfl | rfl | rfl <;> exact ⟨by decide, rfl⟩
    rw [lower_S [c] (by intro z hz; rw [List.mem_singleton] at hz; subst hz; exact hcc.1), show [c].map lowC = [c] by simp [hcc.2]]
    refine ⟨_, rfl, J.Lcons (J.Cstr (J.Lcons (J.Cstr (J.Lnil (Cl.replace0 (y := S [95]) (no_occ [c] 95 _ (by intro q; rw [List.mem_singleton] at q; subst q; rcases hc with h | h | h <;> cases h)) ?_)))))⟩
    have hus : decide ((t.drop (qt + 2)).take 1 = [95]) = false := by rw [t1]; rcases hc with rfl | rfl | rfl <;> rfl
    refine J.cons (J.If (J.thenB (J.TOrB (x := false) (J.TCmp (J.MethI (J.Nloc rfl ⟨x, 338, d, lexF t p kd, 216, rfl, lx.i, rfl, clsLex hK, mChar hK, J.Lcons (J.Nloc rfl (J.Lnil (c_char hK lx (qt + 2) (J.Cstr ⟨_, ceq [95] rfl, rfl, hus⟩)).clUp))⟩)))
      (J.TOrB (x := false) (J.TNot (J.Tval (J.Call (J.Nglob (by rw [hK]; k_is) (.ref 194) ⟨_, rfl, kok (by rw [hK]; k_is), J.Lcons (J.Nloc rfl (J.Lcons (J.Nloc rfl (J.Lnil (c_fits hK hc ⟨_, rfl, rfl, rfl⟩).clUp))))⟩)))) J.TOrZ)) ?_))
    rw [if_neg (by decide)]
    refine J.nil (J.cons (J.AssignA (J.Nloc rfl (J.Nloc rfl ⟨x, 338, d, lexF t p kd, rfl, lx.i, clsLex hK, lexAt_ hK, by simp, ?_⟩))))
    refine J.cons (J.Return (J.Call (J.Nglob (by rw [hK]; k_is) (.ref 148) ⟨_, rfl, kok (by rw [hK]; k_is), J.Lcons (J.Cstr (J.Lcons (J.TupleD ?_)))⟩)))
    refine J.Lcons (J.Nloc rfl (J.Lcons (J.Nloc rfl (J.Lcons (J.Nloc rfl (J.Lcons (J.Nloc rfl (J.Lnil ⟨by simp, ?_⟩))))))))
    refine J.Lcons (J.Nloc rfl (J.Lnil ?_))
    refine (c_Token hK ?_).clUp
    exact h _ (lx.step (qt + 3)) .set
end Mine

namespace Mine
variable {G : Cfg} {C : Addr} {H : Hp} {Q : AV → Hp → Prop} {E : Str → Prop}
variable {x d kd : Addr} {t : List Nat} {p : Nat}

noncomputable def lexNum (r : List Nat) : Option (Tk × List Nat) :=
  if isReal (dropW isDU r) || (takeW isDU r).contains 95 then none
  else match dropW isLay (dropW isDU r) with
    | 39 :: q => lexBased (takeW isDU r) q
    | _ => some (.num [] [] (takeW isDU r), dropW isDU r)
noncomputable def lexOp (r : List Nat) (c : Nat) : Option (Tk × List Nat) :=
  if tripL.contains (r.take 3) then none
  else if pairL.contains (r.take 2) then some (.op (r.take 2), r.drop 2)
  else if opL.contains c then some (.op [c], r.drop 1)
  else none
theorem lexAt_cons (c : Nat) (r : List Nat) : lexAt (c :: r) = if isLet c || c == 95 then some (if kwL.contains (takeW isWD (c :: r)) then .key (takeW isWD (c :: r)) else .id (takeW isWD (c :: r)), dropW isWD (c :: r))
    else if isDig c then lexNum (c :: r) else if c == 39 || c == 92 || c == 36 || c == 34 then none else lexOp (c :: r) c := rfl

theorem lexBased_inv {size q : List Nat} {tk : Tk} {rest : List Nat} (h : lexBased size q = some (tk, rest)) : ∃ b c, q = b :: c :: rest ∧ (b = 98 ∨ b = 66) ∧ (c = 48 ∨ c = 49 ∨ c = 120) ∧ hdB (fun c => isWrd c || c == 63) rest = false ∧ tk = .num size [98] [c] := by
  unfold lexBased at h
  split at h
  · split at h
    · rename_i q; cases h; exact ⟨_, _, rfl, q.1, q.2.1, q.2.2, rfl⟩
    · cases h
  · cases h

set_option autoImplicit false in
inductive IvC6_1 (p : Nat) (x : Addr) (H : Hp) (t : List Nat) (n : Nat) (σ : St) : Prop
  | mk (q : Nat) (h1 : σ = ⟨[("at", .int p), ("self", .ref x), ("end", .int q)], H⟩) (h2 : p ≤ q) (h3 : q + lenW isDU (t.drop q) = p + lenW isDU (t.drop p)) (h4 : n = (t.drop q).length)
theorem c_number (hK : G.K = KK G.w.params) (lx : LX H x d kd t p) {tk : Tk} {rest : List Nat} (hx : lexNum (t.drop p) = some (tk, rest))
    (h : ∀ H' q, LX H' x d kd t q → t.drop q = rest → Keep1 d H H' → Q (tokAV tk p) H') : Fn G C 6 (.ref 293) [.ref x, .int p] H Q E := by
  unfold lexNum at hx
  split at hx
  · cases hx
  rename_i hno
  rw [Bool.or_eq_true, not_or, Bool.not_eq_true, Bool.not_eq_true] at hno
  obtain ⟨hreal, h95⟩ := hno
  rw [dropW_eq, List.drop_drop] at hreal
  rw [takeW_eq] at h95
  refine Fn.body (ab := [("self", .ref x), ("at", .int p)]) (by rw [hK]; k_is) (by rw [hK]; k_is) (fun s I ws X hv => bind2 hv fun _ _ => BindsTo.of_eq rfl) rfl (fun L' => ?_)
  refine J.cons (J.AssignN (J.Nloc rfl ?_))
  refine J.cons (J.While (IvC6_1 p x H t) (t.drop p).length ⟨p, rfl, Nat.le_refl _, rfl, rfl⟩ (fun n σ hI => ?_))
  obtain ⟨q, rfl, hpq, hq, rfl⟩ := hI
  refine J.thenB (J.TOrB (x := hdB isDig (t.drop q)) (J.Tval (J.Call (J.Nglob (by rw [hK]; k_is) (.ref 173) ⟨_, rfl, kok (by rw [hK]; k_is), J.Lcons (J.MethI (J.Nloc rfl ⟨x, 338, d, lexF t p kd, 216, rfl, lx.i, rfl, clsLex hK, mChar hK, J.Lcons (J.Nloc rfl (J.Lnil (c_char hK lx q (J.Lnil (c_digit hK (take1 _) ⟨_, rfl, rfl, hdB_take1 _ _⟩).clUp)).clUp))⟩)) ⟩)))
    (J.TOrB (x := hdB (· == 95) (t.drop q)) (J.TCmp (J.MethI (J.Nloc rfl ⟨x, 338, d, lexF t p kd, 216, rfl, lx.i, rfl, clsLex hK, mChar hK, J.Lcons (J.Nloc rfl (J.Lnil (c_char hK lx q (J.Cstr ⟨_, ceq [95] rfl, rfl, hdB_eq _ _⟩)).clUp))⟩))) J.TOrZ)) ?_
  rw [Bool.or_false, hdB_or]
  refine ite_both (fun hb => J.cons (J.AssignN (J.BinOp (J.Nloc rfl (J.Cint ⟨_, .addI _ _, J.nil ?_⟩))))) (fun hb => J.nil ?_)
  · obtain ⟨e1, e2⟩ := lenW_yes (f := isDU) hb
    rw [List.drop_drop] at e1
    exact ⟨(t.drop (q + 1)).length, by simp at e2 ⊢; omega, q + 1, rfl, by omega, by omega, rfl⟩
  have e := lenW_no (f := isDU) hb
  rw [e] at hq
  have hq' : p + lenW isDU (t.drop p) = q := by omega
  rw [hq'] at hreal
  refine J.cons (J.If (J.Tval (J.MethI (J.Nloc rfl ⟨x, 338, d, lexF t p kd, 300, rfl, lx.i, rfl, clsLex hK, mReal hK, J.Lcons (J.Nloc rfl (J.Lnil (c_real hK lx q ⟨_, rfl, ?_⟩).clUp))⟩))))
  rw [hreal, if_neg (by decide)]
  refine J.nil (J.cons (J.AssignN (J.MethS PySem.F.slot_str_replace PySem.F.type_str_replace (J.SliceS (J.AttrI (J.Nloc rfl ⟨x, 338, d, lexF t p kd, _, rfl, lx.i, rfl, clsLex hK, lexText hK, rfl, J.Nloc rfl (J.Nloc rfl ⟨S t, ((p : Nat) : Int), ((q : Nat) : Int), rfl, rfl, rfl, S_fits lx.n, ?_⟩)⟩))))))
  rw [sl _ _ _ hpq, show q - p = lenW isDU (t.drop p) by omega]
  have hn95 : 95 ∉ (t.drop p).take (lenW isDU (t.drop p)) := fun z => by rw [List.contains_iff_mem.mpr z] at h95; cases h95
  refine ⟨_, rfl, J.Lcons (J.Cstr (J.Lcons (J.Cstr (J.Lnil (Cl.replace0 (y := S [95]) (no_occ _ 95 _ hn95) ?_)))))⟩
  refine J.cons (J.AssignN (J.MethI (J.Nloc rfl ⟨x, 338, d, lexF t p kd, 230, rfl, lx.i, rfl, clsLex hK, mPast hK, J.Lcons (J.Nloc rfl (J.Lnil (c_past hK lx q ?_).clUp))⟩)))
  generalize hQ : q + lenW isLay (t.drop q) = qt
  refine J.cons (J.If (J.TCmp (J.MethI (J.Nloc rfl ⟨x, 338, d, lexF t p kd, 216, rfl, lx.i, rfl, clsLex hK, mChar hK, J.Lcons (J.Nloc rfl (J.Lnil (c_char hK lx qt (J.Cstr ⟨_, ceq [39] rfl, ?_⟩)).clUp))⟩))))
  rw [hdB_eq]
  have hd2 : dropW isLay (dropW isDU (t.drop p)) = t.drop qt := by rw [dropW_eq isDU, List.drop_drop, hq', dropW_eq, List.drop_drop, hQ]
  rw [hd2, dropW_eq, takeW_eq, List.drop_drop, hq'] at hx
  refine ite_both (fun hb => ?_) (fun hb => J.nil ?_)
  · cases hr : t.drop qt with
    | nil => rw [hr] at hb; cases hb
    | cons c0 r0 =>
      rw [hr] at hb
      obtain rfl : c0 = 39 := eq_of_beq hb
      rw [hr] at hx
      obtain ⟨b, c, rfl, hbb, hcc, hrr, rfl⟩ := lexBased_inv hx
      refine J.cons (J.Return (J.MethI (J.Nloc rfl ⟨x, 338, d, lexF t p kd, 307, rfl, lx.i, rfl, clsLex hK, mBased hK, J.Lcons (J.Nloc rfl (J.Lcons (J.Nloc rfl (J.Lcons (J.Nloc rfl (J.Lnil ?_))))))⟩)))
      refine (c_based hK lx p qt _ (dr1 hr) hbb hcc hrr fun H' lx' kp => ?_).clUp
      exact h H' _ lx' (dr1 (dr1 (dr1 hr))) kp
  · have hx' : some (Tk.num [] [] ((t.drop p).take (lenW isDU (t.drop p))), t.drop q) = some (tk, rest) := by
      rw [← hx]
      split
      · rename_i r0 hr; rw [hr] at hb; cases hb
      · rfl
    obtain ⟨rfl, rfl⟩ := Prod.mk.inj (Option.some.inj hx')
    refine J.cons (J.AssignA (J.Nloc rfl (J.Nloc rfl ⟨x, 338, d, lexF t p kd, rfl, lx.i, clsLex hK, lexAt_ hK, by simp, ?_⟩)))
    refine J.cons (J.Return (J.Call (J.Nglob (by rw [hK]; k_is) (.ref 148) ⟨_, rfl, kok (by rw [hK]; k_is), J.Lcons (J.Cstr (J.Lcons (J.TupleD ?_)))⟩)))
    refine J.Lcons (J.Cstr (J.Lcons (J.Cstr (J.Lcons (J.Cbool (J.Lcons (J.Nloc rfl (J.Lnil ⟨by simp, ?_⟩))))))))
    refine J.Lcons (J.Nloc rfl (J.Lnil ?_))
    refine (c_Token hK ?_).clUp
    exact h _ q (lx.step q) rfl .set
end Mine

namespace Mine
variable {G : Cfg} {C : Addr} {H : Hp} {Q : AV → Hp → Prop} {E : Str → Prop}
variable {x d kd : Addr} {t : List Nat} {p : Nat}

theorem J.weak {α β : Type} {k : Nat} {env : Env} {R : Im → β → α → Prop} {tm : Sem α} {σ σ' : St} {Q : β → St → Prop} (h : J G C k env R tm σ' Q E) (h1 : ∀ a ao, σ'.H a = some ao → σ.H a = some ao) (h2 : ∀ x v, σ'.loc.lookup x = some v → σ.loc.lookup x = some v) : J G C k env R tm σ Q E :=
  fun fenv A A₀ base B outer L I s c ⟨own, m, r⟩ => h fenv A A₀ base B outer L I s c ⟨own, m, r.weak h1 h2⟩
theorem Hp.sub {H : Hp} {a : Addr} {o : AO} (h : H a = none) : ∀ b ao, H b = some ao → (H.set a o) b = some ao := fun b ao e => by
  have : b ≠ a := fun q => by rw [q, h] at e; cases e
  rw [Hp.set_ne this]; exact e

theorem split_pairs : Txt.split pairText " " = pairL.map S := by decide +kernel
theorem triple_S : ["<<<", ">>>", "===", "!=="].map Str.ofString = tripL.map S := by decide +kernel
theorem op_S : (Str.ofString "+-!~&|^*/%<>=?:()[]{},;.@#").cps.toList = opL := by decide +kernel

set_option maxHeartbeats 4000000 in
theorem c_operator (hK : G.K = KK G.w.params) (lx : LX H x d kd t p) {tk : Tk} {c : Nat} {r rest : List Nat} (hr : t.drop p = c :: r) (hx : lexOp (c :: r) c = some (tk, rest))
    (h : ∀ H' q, LX H' x d kd t q → t.drop q = rest → Keep1 d H H' → Q (tokAV tk p) H') : Fn G C 4 (.ref 335) [.ref x, .int p] H Q E := by
  unfold lexOp at hx
  split at hx
  · cases hx
  rename_i h3
  rw [Bool.not_eq_true] at h3
  refine Fn.body (ab := [("self", .ref x), ("at", .int p)]) (by rw [hK]; k_is) (by rw [hK]; k_is) (fun s I ws X hv => bind2 hv fun _ _ => BindsTo.of_eq rfl) rfl (fun L' => ?_)
  refine J.cons (J.AssignN (J.SliceS (J.AttrI (J.Nloc rfl ⟨x, 338, d, lexF t p kd, _, rfl, lx.i, rfl, clsLex hK, lexText hK, rfl, J.Nloc rfl (J.BinOp (J.Nloc rfl (J.Cint ⟨_, .addI _ _, S t, (p : Nat), ((p + 3 : Nat) : Int), rfl, rfl, rfl, S_fits lx.n, ?_⟩)))⟩))))
  rw [sl _ _ _ (by omega), show p + 3 - p = 3 by omega, hr]
  refine J.cons (J.If (J.TCmp (J.Nloc rfl (J.TupStr rfl (by simp) ⟨_, cninT tripL rfl, ?_⟩))))
  rw [h3, Bool.not_false, if_pos rfl]
  refine J.cons (J.AssignN (J.MethI (J.Nloc rfl ⟨x, 338, d, lexF t p kd, 223, rfl, lx.i, rfl, clsLex hK, mPair hK, J.Lcons (J.Nloc rfl (J.Lnil (c_pair hK lx p ?_).clUp))⟩)))
  rw [hr]
  refine J.cons (J.If (J.TCmp (J.Nloc rfl (J.MethS PySem.F.slot_str_split PySem.F.type_str_split (J.Cstr ⟨_, rfl, J.Lcons (J.Cstr (J.Lnil (Cl.split (by decide) (by decide +kernel) fun a ha => ⟨_, .ninLS _ a (pairL.map S) (by exact Hp.set_same.trans (congrArg (fun z => some (AO.list (z.map AV.str))) split_pairs)), ?_⟩)))⟩)))))
  rw [any_S]
  refine ite_both (fun hb => J.weak (σ' := ⟨[("at", .int p), ("self", .ref x), ("text", .str (S ((c :: r).take 2)))], H⟩) ?_ (Hp.sub ha) (fun _ _ e => e)) (fun hb => J.weak (σ' := ⟨[("at", .int p), ("self", .ref x), ("text", .str (S ((c :: r).take 2)))], H⟩) (J.nil (J.nil ?_)) (Hp.sub ha) (fun _ _ e => e))
  · rw [Bool.not_eq_true'] at hb
    rw [hb, if_neg (by decide)] at hx
    split at hx
    · rename_i hop
      obtain ⟨rfl, rfl⟩ := Prod.mk.inj (Option.some.inj hx)
      refine J.cons (J.AssignN (J.MethI (J.Nloc rfl ⟨x, 338, d, lexF t p kd, 216, rfl, lx.i, rfl, clsLex hK, mChar hK, J.Lcons (J.Nloc rfl (J.Lnil (c_char hK lx p ?_).clUp))⟩)))
      rw [hr, show (c :: r).take 1 = [c] from rfl]
      refine J.cons (J.If (J.TCmp (J.Nloc rfl (J.Cstr ⟨_, cnin (.one c), ?_⟩))))
      rw [show inB (Str.ofString "+-!~&|^*/%<>=?:()[]{},;.@#") [c] = true by show decide _ = true; rw [op_S]; exact decide_eq_true (List.contains_iff_mem.mp hop)]
      rw [Bool.not_true, if_neg (by decide)]
      refine J.nil (J.nil (J.nil ?_))
      refine J.cons (J.AssignA (J.BinOp (J.Nloc rfl (J.Call (J.Nbi (by rw [hK]; k_is) rfl (by decide) (.bi _) ⟨_, rfl, rfl, J.Lcons (J.Nloc rfl (J.Lnil (Cl.lenS (by rw [S_len, sizeLine_eq]; show 1 ≤ _; decide) ⟨_, .addI _ _, J.Nloc rfl ⟨x, 338, d, lexF t p kd, rfl, lx.i, clsLex hK, lexAt_ hK, by simp, ?_⟩⟩)))⟩)))))
      refine J.cons (J.Return (J.Call (J.Nglob (by rw [hK]; k_is) (.ref 148) ⟨_, rfl, kok (by rw [hK]; k_is), J.Lcons (J.Cstr (J.Lcons (J.Nloc rfl (J.Lcons (J.Nloc rfl (J.Lnil ?_))))))⟩)))
      refine (c_Token hK ?_).clUp
      exact h _ (p + 1) (lx.step (p + 1)) (dr1 hr) .set
    · cases hx
  · rw [Bool.not_eq_false'] at hb
    rw [hb, if_pos rfl] at hx
    obtain ⟨rfl, rfl⟩ := Prod.mk.inj (Option.some.inj hx)
    have h2 : ((c :: r).take 2).length = 2 := by
      cases r with
      | nil =>
        exfalso
        have : ∀ y ∈ pairL, y.length = 2 := by decide
        have := this _ (List.contains_iff_mem.mp hb)
        simp at this
      | cons _ _ => rfl
    refine J.cons (J.AssignA (J.BinOp (J.Nloc rfl (J.Call (J.Nbi (by rw [hK]; k_is) rfl (by decide) (.bi _) ⟨_, rfl, rfl, J.Lcons (J.Nloc rfl (J.Lnil (Cl.lenS (by rw [S_len, h2, sizeLine_eq]; decide) ⟨_, .addI _ _, J.Nloc rfl ⟨x, 338, d, lexF t p kd, rfl, lx.i, clsLex hK, lexAt_ hK, by simp, ?_⟩⟩)))⟩)))))
    rw [S_len, h2]
    refine J.cons (J.Return (J.Call (J.Nglob (by rw [hK]; k_is) (.ref 148) ⟨_, rfl, kok (by rw [hK]; k_is), J.Lcons (J.Cstr (J.Lcons (J.Nloc rfl (J.Lcons (J.Nloc rfl (J.Lnil ?_))))))⟩)))
    refine (c_Token hK ?_).clUp
    exact h _ (p + 2) (lx.step (p + 2)) (by rw [← List.drop_drop, hr]) .set
end Mine

namespace Mine
variable {G : Cfg} {C : Addr} {H : Hp} {Q : AV → Hp → Prop} {E : Str → Prop}
variable {x d kd : Addr} {t : List Nat} {p : Nat}
theorem mSkip (hK : G.K = KK G.w.params) : MethF G.K 338 "skip" 244 := ⟨by rw [hK]; k_is, by rw [hK]; k_is, by rw [hK]; k_is⟩
theorem mWord (hK : G.K = KK G.w.params) : MethF G.K 338 "word" 272 := ⟨by rw [hK]; k_is, by rw [hK]; k_is, by rw [hK]; k_is⟩
theorem mNumber (hK : G.K = KK G.w.params) : MethF G.K 338 "number" 293 := ⟨by rw [hK]; k_is, by rw [hK]; k_is, by rw [hK]; k_is⟩
theorem mOper (hK : G.K = KK G.w.params) : MethF G.K 338 "operator" 335 := ⟨by rw [hK]; k_is, by rw [hK]; k_is, by rw [hK]; k_is⟩
theorem mNext (hK : G.K = KK G.w.params) : MethF G.K 338 "next_token" 237 := ⟨by rw [hK]; k_is, by rw [hK]; k_is, by rw [hK]; k_is⟩
theorem tk1 (c : Nat) (r : List Nat) : (c :: r).take 1 = [c] := rfl
theorem dec1 (a b : Nat) : decide ([a] = [b]) = (a == b) := by rw [Bool.eq_iff_iff]; simp

set_option maxHeartbeats 4000000 in
theorem c_next (hK : G.K = KK G.w.params) (lx : LX H x d kd t p) {tk : Tk} {rest : List Nat} (hx : lexTok (t.drop p) = some (tk, rest))
    (h : ∀ H' q (a : Nat), LX H' x d kd t q → t.drop q = rest → Keep1 d H H' → Q (tokAV tk a) H') : Fn G C 7 (.ref 237) [.ref x] H Q E := by
  unfold lexTok at hx
  dsimp only at hx
  rw [dropW_eq, List.drop_drop] at hx
  generalize hq : p + lenW isLay (t.drop p) = q at hx
  split at hx
  · cases hx
  rename_i hnc
  rw [not_or, not_or] at hnc
  refine Fn.body (ab := [("self", .ref x)]) (by rw [hK]; k_is) (by rw [hK]; k_is) (fun s I ws X hv => bind1 hv fun _ => BindsTo.of_eq rfl) rfl (fun L' => ?_)
  refine J.cons (J.ExprS (J.MethI (J.Nloc rfl ⟨x, 338, d, lexF t p kd, 244, rfl, lx.i, rfl, clsLex hK, mSkip hK, J.Lnil ?_⟩)))
  refine (c_skip hK lx (by rw [hq]; exact hnc) fun H₁ lx₁ k₁ => ?_).clUp
  rw [hq] at lx₁
  refine J.cons (J.AssignN (J.AttrI (J.Nloc rfl ⟨x, 338, d, lexF t q kd, _, rfl, lx₁.i, rfl, clsLex hK, lexAt_ hK, rfl, ?_⟩)))
  refine J.cons (J.AssignN (J.MethI (J.Nloc rfl ⟨x, 338, d, lexF t q kd, 216, rfl, lx₁.i, rfl, clsLex hK, mChar hK, J.Lcons (J.Nloc rfl (J.Lnil (c_char hK lx₁ q ?_).clUp))⟩)))
  refine J.cons (J.If (J.TCmp (J.Nloc rfl (J.Cstr ⟨_, ceq [] rfl, ?_⟩))))
  cases hr : t.drop q with
  | nil =>
    rw [hr] at hx
    obtain ⟨rfl, rfl⟩ := Prod.mk.inj (Option.some.inj (show some (Tk.eof, []) = some (tk, rest) from hx))
    rw [show decide (([] : List Nat).take 1 = []) = true from rfl, if_pos rfl]
    refine J.cons (J.Return (J.Call (J.Nglob (by rw [hK]; k_is) (.ref 148) ⟨_, rfl, kok (by rw [hK]; k_is), J.Lcons (J.Cstr (J.Lcons (J.Cstr (J.Lcons (J.Nloc rfl (J.Lnil ?_))))))⟩)))
    refine (c_Token hK ?_).clUp
    exact h _ q q lx₁ hr k₁
  | cons c r =>
    rw [hr, lexAt_cons] at hx
    have h128 : c < 128 := lx.lt hr
    rw [tk1, show decide ([c] = []) = false from rfl, if_neg (by decide)]
    refine J.nil (J.cons (J.If (J.thenB (J.TOrB (x := isLet c) (J.Tval (J.Call (J.Nglob (by rw [hK]; k_is) (.ref 166) ⟨_, rfl, kok (by rw [hK]; k_is), J.Lcons (J.Nloc rfl (J.Lnil (c_letter hK (.one c) ⟨_, rfl, rfl, rfl⟩).clUp))⟩)))
      (J.TOrB (x := c == 95) (J.TCmp (J.Nloc rfl (J.Cstr ⟨_, ceq [95] rfl, rfl, dec1 c 95⟩))) J.TOrZ)) ?_)))
    rw [Bool.or_false]
    refine ite_both (fun hb => ?_) (fun hb => J.nil ?_)
    · rw [hb, if_pos rfl, takeW_eq, dropW_eq] at hx
      refine J.cons (J.Return (J.MethI (J.Nloc rfl ⟨x, 338, d, lexF t q kd, 272, rfl, lx₁.i, rfl, clsLex hK, mWord hK, J.Lcons (J.Nloc rfl (J.Lnil ?_))⟩)))
      refine (c_wordM hK lx₁ fun H₂ lx₂ k₂ => ?_).clUp
      rw [hr] at lx₂ ⊢
      obtain ⟨rfl, rfl⟩ := Prod.mk.inj (Option.some.inj hx)
      exact h H₂ _ q lx₂ (by rw [← List.drop_drop, hr]) (k₁.trans k₂)
    rw [hb, if_neg (by decide)] at hx
    refine J.cons (J.If (J.Tval (J.Call (J.Nglob (by rw [hK]; k_is) (.ref 173) ⟨_, rfl, kok (by rw [hK]; k_is), J.Lcons (J.Nloc rfl (J.Lnil (c_digit hK (.one c) ⟨_, rfl, ?_⟩).clUp))⟩))))
    show if isDig c = true then _ else _
    refine ite_both (fun hb => ?_) (fun hb => J.nil ?_)
    · rw [hb, if_pos rfl] at hx
      refine J.cons (J.Return (J.MethI (J.Nloc rfl ⟨x, 338, d, lexF t q kd, 293, rfl, lx₁.i, rfl, clsLex hK, mNumber hK, J.Lcons (J.Nloc rfl (J.Lnil ?_))⟩)))
      refine (c_number hK lx₁ (by rw [hr]; exact hx) fun H₂ q₂ lx₂ e₂ k₂ => ?_).clUp
      exact h H₂ _ q lx₂ e₂ (k₁.trans k₂)
    rw [hb, if_neg (by decide)] at hx
    split at hx
    · cases hx
    rename_i hqt
    simp only [Bool.or_eq_true, not_or, Bool.not_eq_true] at hqt
    obtain ⟨⟨⟨n1, n2⟩, n3⟩, n4⟩ := hqt
    refine J.cons (J.If (J.TCmp (J.Nloc rfl (J.Cstr ⟨_, ceq [39] rfl, ?_⟩))))
    rw [dec1, n1, if_neg (by decide)]
    refine J.nil (J.cons (J.If (J.TCmp (J.Nloc rfl (J.Cstr ⟨_, ceq [92] rfl, ?_⟩)))))
    rw [dec1, n2, if_neg (by decide)]
    refine J.nil (J.cons (J.If (J.TCmp (J.Nloc rfl (J.Cstr ⟨_, ceq [36] rfl, ?_⟩)))))
    rw [dec1, n3, if_neg (by decide)]
    refine J.nil (J.cons (J.If (J.TCmp (J.Nloc rfl (J.Cstr ⟨_, ceq [34] rfl, ?_⟩)))))
    rw [dec1, n4, if_neg (by decide)]
    refine J.nil (J.cons (J.Return (J.MethI (J.Nloc rfl ⟨x, 338, d, lexF t q kd, 335, rfl, lx₁.i, rfl, clsLex hK, mOper hK, J.Lcons (J.Nloc rfl (J.Lnil ?_))⟩))))
    refine (c_operator hK lx₁ hr hx fun H₂ q₂ lx₂ e₂ k₂ => ?_).clUp
    exact h H₂ _ q lx₂ e₂ (k₁.trans k₂)
end Mine

namespace Mine
variable {G : Cfg} {C : Addr} {H : Hp} {Q : AV → Hp → Prop} {E : Str → Prop}
variable {x d kd : Addr} {t : List Nat} {p : Nat}

theorem Cl.splitKW {k : Nat} (h : ∀ a, H a = none → Q (.ref a) (H.set a (.list ((kwL.map S).map .str)))) : Cl G C k (.builtin "str.split") [.str words, .str (Str.ofString " ")] H Q E :=
  Cl.split rfl words_len fun a ha => by rw [split_words]; exact h a ha
theorem ForJ.ind {k : Nat} {env : Env} {x : Str} {body : List Stmt} {QF : AF → St → Prop} {it : Addr} (P : List AV → St → Prop) (hnil : ∀ σ, P [] σ → QF .next ⟨σ.loc, σ.H.drop it⟩)
    (hcons : ∀ v vs σ, P (v :: vs) σ → JS G C k env body ⟨setL x v σ.loc, σ.H.set it (.it vs)⟩ (fun f σ' => match f with
      | .next | .cont => σ'.H it = some (.it vs) ∧ P vs σ'
      | .brk => QF .next ⟨σ'.loc, σ'.H.drop it⟩
      | .ret u => QF (.ret u) ⟨σ'.loc, σ'.H.drop it⟩) E) : ∀ vs σ, P vs σ → ForJ G C k env x body QF E it vs σ
  | [], σ, h => hnil σ h
  | v :: vs, σ, h => (hcons v vs σ h).monoQ fun f σ' q => by
    cases f with
    | next => exact ⟨q.1, ForJ.ind P hnil hcons vs σ' q.2⟩
    | cont => exact ⟨q.1, ForJ.ind P hnil hcons vs σ' q.2⟩
    | brk => exact q
    | ret u => exact q
theorem CompJ.ind {k : Nat} {cenv : Env} {x : Str} {elt : Expr} {QE : AV → St → Prop} {it D Cc : Addr} (P : List AV → List AV → St → Prop) (hnil : ∀ acc σ, P [] acc σ → QE (.ref D) ⟨σ.loc, (σ.H.drop it).drop Cc⟩)
    (hcons : ∀ v vs acc σ, P (v :: vs) acc σ → JE G C k cenv elt ⟨σ.loc, (σ.H.set it (.it vs)).set Cc (.ns [(x, v)])⟩ (CompQ (fun u σ' => P vs (acc ++ [u]) σ') it D Cc vs acc) (fun _ => False)) : ∀ vs acc σ, P vs acc σ → CompJ G C k cenv x elt QE it D Cc vs acc σ
  | [], acc, σ, h => hnil acc σ h
  | v :: vs, acc, σ, h => (hcons v vs acc σ h).monoQ fun u σ' ⟨q1, q2, q3, q4, q5⟩ => ⟨q1, q2, q3, q4, CompJ.ind P hnil hcons vs _ _ q5⟩


set_option autoImplicit false in
inductive IvC9_1 (kd : Addr) (H : Hp) (it : Addr) (vs : List AV) (σ : St) : Prop
  | mk (ws : List (List Nat)) (done : List (List Nat)) (D : List (Str × PyData)) (h1 : vs = (ws.map S).map .str) (h2 : done ++ ws = kwL) (h3 : D.length ≤ done.length) (h4 : (∀ l, D.any (·.1 == S l) = done.contains l)) (h5 : σ.loc.lookup ("found" : Str) = some (AV.ref kd)) (h6 : σ.H kd = some (.sdict D)) (h7 : ∀ b ao, H b = some ao → b ≠ kd ∧ b ≠ it ∧ σ.H b = some ao)
set_option maxHeartbeats 4000000 in
theorem c_keywords (hK : G.K = KK G.w.params) (h : ∀ kd D, H kd = none → (kd == sysModules) = false → (∀ l, D.any (·.1 == S l) = kwL.contains l) → Q (.ref kd) (H.set kd (.sdict D))) : Fn G C 2 (.ref 159) [] H Q E := by
  refine Fn.body (ab := []) (by rw [hK]; k_is) (by rw [hK]; k_is) (fun s I ws X hv => by cases hv; exact ⟨_, BindsTo.of_eq rfl, .nil⟩) rfl (fun L' => ?_)
  refine J.cons (J.AssignN (J.Cstr (J.cons (J.AssignN (J.DictN fun kd hkd hm => ?_)))))
  refine J.cons (J.For (J.MethS PySem.F.slot_str_split PySem.F.type_str_split (J.Nloc rfl ⟨_, rfl, J.Lcons (J.Cstr (J.Lnil (Cl.splitKW fun a ha => ⟨_, _, .list a _ Hp.set_same, fun it hit => ?_⟩)))⟩)))
  have hkd : H kd = none := hkd
  have ha' : (H.set kd (.sdict [])) a = none := ha
  have hak : a ≠ kd := fun q => by rw [q, Hp.set_same] at ha'; cases ha'
  have hit' : (((H.set kd (.sdict [])).set a (.list ((kwL.map S).map .str))).drop a) it = none := hit
  have hitk : it ≠ kd := fun q => by rw [q, Hp.drop_ne (Ne.symm hak), Hp.set_ne (Ne.symm hak), Hp.set_same] at hit'; cases hit'
  have hHa : H a = none := by rw [Hp.set_ne hak] at ha'; exact ha'
  refine ForJ.ind (IvC9_1 kd H it) (fun σ hP => ?_) (fun v vs σ hP => ?_) _ _
    ⟨kwL, [], [], rfl, rfl, Nat.le_refl _, fun l => rfl, rfl, ?_, fun b ao hb => ?_⟩
  · obtain ⟨ws, done, D, e1, e2, e3, e4, e5, e6, e7⟩ := hP
    have : ws = [] := by cases ws with | nil => rfl | cons _ _ => cases e1
    subst this
    rw [List.append_nil] at e2
    subst e2
    refine J.weak (σ' := ⟨[("found", .ref kd)], H.set kd (.sdict D)⟩) (J.cons (J.Return (J.Nloc rfl (h kd D hkd hm e4)))) (fun b ao hb => ?_) (fun y v hy => ?_)
    · have hb : (H.set kd (.sdict D)) b = some ao := hb
      show (σ.H.drop it) b = some ao
      by_cases q : b = kd
      · subst q; rw [Hp.drop_ne (Ne.symm hitk)]; rw [Hp.set_same] at hb; rw [← hb]; exact e6
      · rw [Hp.set_ne q] at hb
        rw [Hp.drop_ne (e7 b ao hb).2.1]; exact (e7 b ao hb).2.2
    · show σ.loc.lookup y = some v
      simp only [List.lookup] at hy
      split at hy
      · rename_i q; cases hy; rw [eq_of_beq q]; exact e5
      · cases hy
  · obtain ⟨ws, done, D, e1, e2, e3, e4, e5, e6, e7⟩ := hP
    cases ws with
    | nil => cases e1
    | cons w ws =>
      obtain ⟨rfl, rfl⟩ := List.cons.inj e1
      refine J.cons (J.AssignD (J.Cbool (J.Nloc (lk_ne e5) (J.Nloc lk_eq ⟨kd, D, _, true, rfl, rfl, rfl, (Hp.set_ne (Ne.symm hitk)).trans e6, ?_, J.nil ⟨?_, ws, done ++ [w], _, rfl, by rw [List.append_assoc]; exact e2, ?_, fun l => ?_, lk_ne e5, Hp.set_same, fun b ao hb => ⟨(e7 b ao hb).1, (e7 b ao hb).2.1, ?_⟩⟩⟩))))
      · have := congrArg List.length e2
        rw [List.length_append, show kwL.length = 124 from rfl] at this
        omega
      · exact (Hp.set_ne hitk).trans Hp.set_same
      · have := putS_len (S w) (PyData.bool true) D
        rw [List.length_append]; show _ ≤ done.length + 1; omega
      · rw [putS_any, e4, S_beq, Bool.eq_iff_iff]
        simp only [Bool.or_eq_true, decide_eq_true_eq, List.contains_iff_mem, List.mem_append, List.mem_singleton]
        exact or_congr Iff.rfl eq_comm
      · show ((σ.H.set it _).set kd _) b = some ao
        rw [Hp.set_ne (e7 b ao hb).1, Hp.set_ne (e7 b ao hb).2.1]; exact (e7 b ao hb).2.2
  · show ((((H.set kd (.sdict [])).set a _).drop a).set it _) kd = _
    rw [Hp.set_ne (Ne.symm hitk), Hp.drop_ne (Ne.symm hak), Hp.set_ne (Ne.symm hak), Hp.set_same]
  · have h1 : b ≠ kd := fun q => by rw [q, hkd] at hb; cases hb
    have h2 : b ≠ a := fun q => by rw [q, hHa] at hb; cases hb
    have h3 : b ≠ it := fun q => by
      rw [← q, Hp.drop_ne h2, Hp.set_ne h2, Hp.set_ne h1, hb] at hit'; cases hit'
    refine ⟨h1, h3, ?_⟩
    show ((((H.set kd (.sdict [])).set a _).drop a).set it _) b = _
    rw [Hp.set_ne h3, Hp.drop_ne h2, Hp.set_ne h2, Hp.set_ne h1]; exact hb
end Mine

namespace Mine
variable {G : Cfg} {C : Addr} {H H₁ : Hp} {Q : AV → Hp → Prop} {E : Str → Prop}

structure PA where
  x : Addr
  d : Addr
  l : Addr
  lx : Addr
  ld : Addr
  kd : Addr
  t : List Nat
noncomputable abbrev PC : Addr := 670
noncomputable abbrev parF (P : PA) (tk : Tk) (a : Nat) : List (Str × AV) := [("source", .ref P.lx), ("ahead", .ref P.l), ("token", tokAV tk a), ("at", .int a)]
structure PX (H : Hp) (P : PA) (s : PS0) : Prop where
  i : H P.x = some (.inst PC P.d)
  a : ∃ a : Nat, H P.d = some (.dict (parF P s.1 a))
  l : H P.l = some (.list [])
  q : ∃ q, LX H P.lx P.ld P.kd P.t q ∧ P.t.drop q = s.2
noncomputable def Off (P : PA) (l : Addr) : Prop := l ≠ P.x ∧ l ≠ P.d ∧ l ≠ P.l ∧ l ≠ P.lx ∧ l ≠ P.ld ∧ l ≠ P.kd
noncomputable def KeepS (P : PA) (H H' : Hp) : Prop := ∀ a ao, a ≠ P.d → a ≠ P.ld → H a = some ao → H' a = some ao
variable {P : PA} {s s₁ : PS0} {l : Addr} {ao : AO}
theorem KeepS.refl : KeepS P H H := fun _ _ _ _ e => e
theorem KeepS.trans {A B D : Hp} (a : KeepS P A B) (b : KeepS P B D) : KeepS P A D := fun x o h1 h2 e => b x o h1 h2 (a x o h1 h2 e)
theorem PX.off (px : PX H P s) (h : H l = none) : Off P l := by
  obtain ⟨a, ha⟩ := px.a
  obtain ⟨q, lx, _⟩ := px.q
  obtain ⟨D, hk, _⟩ := lx.k
  refine ⟨fun e => ?_, fun e => ?_, fun e => ?_, fun e => ?_, fun e => ?_, fun e => ?_⟩ <;> subst e
  · rw [px.i] at h; cases h
  · rw [ha] at h; cases h
  · rw [px.l] at h; cases h
  · rw [lx.i.i] at h; cases h
  · rw [lx.i.f] at h; cases h
  · rw [hk] at h; cases h
theorem PX.set (px : PX H P s) (o : Off P l) : PX (H.set l ao) P s := by
  obtain ⟨o1, o2, o3, o4, o5, o6⟩ := o
  obtain ⟨a, ha⟩ := px.a
  obtain ⟨q, lx, hq⟩ := px.q
  obtain ⟨D, hk, hD⟩ := lx.k
  exact ⟨by rw [Hp.set_ne o1.symm]; exact px.i, ⟨a, by rw [Hp.set_ne o2.symm]; exact ha⟩, by rw [Hp.set_ne o3.symm]; exact px.l,
    ⟨q, ⟨⟨by rw [Hp.set_ne o4.symm]; exact lx.i.i, by rw [Hp.set_ne o5.symm]; exact lx.i.f⟩, ⟨D, by rw [Hp.set_ne o6.symm]; exact hk, hD⟩, lx.m, lx.n, lx.a⟩, hq⟩⟩
theorem KeepS.set (k : KeepS P H H₁) (h : H l = none) : KeepS P H (H₁.set l ao) := fun a o h1 h2 e => by
  have : a ≠ l := fun q => by rw [q, h] at e; cases e
  rw [Hp.set_ne this]; exact k a o h1 h2 e
theorem KeepS.none (k : KeepS P H H₁) (o : Off P l) (h : H₁ l = Option.none) : H l = Option.none := by
  cases e : H l with
  | none => rfl
  | some ao => rw [k l ao o.2.1 o.2.2.2.2.1 e] at h; cases h
theorem KeepS.some (k : KeepS P H H₁) (o : Off P l) (h : H l = Option.some ao) : H₁ l = Option.some ao := k l ao o.2.1 o.2.2.2.2.1 h

noncomputable def PR {α : Type} (P : PA) (H : Hp) (r : Option (Except Str (α × PS0))) (Q : α → PS0 → Hp → Prop) (E : Str → Prop) : Prop := match r with
  | none => False
  | some (.error k) => E k
  | some (.ok (a, s')) => ∀ H', PX H' P s' → KeepS P H H' → Q a s' H'
section
variable {α β : Type} {m : PM α} {f : α → PM β} {R : β → PS0 → Hp → Prop} {R₁ : α → PS0 → Hp → Prop}
theorem PR.call (h : PR P H (m.bind f s) R E) (n : ∀ a s' H', PX H' P s' → KeepS P H₁ H' → PR P H (f a s') R E → R₁ a s' H') : PR P H₁ (m s) R₁ E := by
  unfold PM.bind at h
  cases e : m s with
  | none => rw [e] at h; exact h
  | some r =>
    rw [e] at h
    cases r with
    | error k => exact h
    | ok p => obtain ⟨a, s'⟩ := p; exact fun H' px k => n a s' H' px k h
theorem PR.tail (h : PR P H (m s) R₁ E) {R₂ : α → PS0 → Hp → Prop} (k : KeepS P H H₁) (n : ∀ a s' H', PX H' P s' → R₁ a s' H' → R₂ a s' H') : PR P H₁ (m s) R₂ E := by
  cases e : m s with
  | none => rw [e] at h; exact h
  | some r =>
    rw [e] at h
    cases r with
    | error k => exact h
    | ok p => obtain ⟨a, s'⟩ := p; exact fun H' px k' => n a s' H' px (h H' px (k.trans k'))
theorem PR.fin {a : α} (h : PR P H (PM.ret a s) R₁ E) (px : PX H₁ P s) (k : KeepS P H H₁) : R₁ a s H₁ := h H₁ px k
theorem PR.bad {w : Str} (h : PR P H ((PM.fail w : PM α) s) R₁ E) : E w := h
theorem bind_bind {γ : Type} (m : PM α) (f : α → PM β) (g : β → PM γ) : (m.bind f).bind g = m.bind fun a => (f a).bind g := by
  funext s; unfold PM.bind; cases m s with
  | none => rfl
  | some r => cases r with
    | error k => rfl
    | ok p => rfl
theorem bind_ret (a : α) (f : α → PM β) : (PM.ret a).bind f = f a := rfl
theorem bind_fail (k : Str) (f : α → PM β) : (PM.fail k : PM α).bind f = PM.fail k := rfl
theorem bind_ite {c : Prop} [Decidable c] (a b : PM α) (f : α → PM β) : (if c then a else b).bind f = if c then a.bind f else b.bind f := by split <;> rfl
end

theorem clsPar (hK : G.K = KK G.w.params) : ClsF G.K 670 := ⟨by rw [hK]; k_is, by rw [hK]; k_is, by rw [hK]; k_is, by rw [hK]; k_is⟩
theorem parTok (hK : G.K = KK G.w.params) : freeAt G.K 670 "token" := by unfold freeAt; rw [hK]; k_is
theorem parAt (hK : G.K = KK G.w.params) : freeAt G.K 670 "at" := by unfold freeAt; rw [hK]; k_is
theorem parAhead (hK : G.K = KK G.w.params) : freeAt G.K 670 "ahead" := by unfold freeAt; rw [hK]; k_is
theorem parSource (hK : G.K = KK G.w.params) : freeAt G.K 670 "source" := by unfold freeAt; rw [hK]; k_is
theorem mTake (hK : G.K = KK G.w.params) : MethF G.K 670 "take" 371 := ⟨by rw [hK]; k_is, by rw [hK]; k_is, by rw [hK]; k_is⟩
theorem mIsOp (hK : G.K = KK G.w.params) : MethF G.K 670 "is_op" 378 := ⟨by rw [hK]; k_is, by rw [hK]; k_is, by rw [hK]; k_is⟩
theorem mIsKey (hK : G.K = KK G.w.params) : MethF G.K 670 "is_key" 385 := ⟨by rw [hK]; k_is, by rw [hK]; k_is, by rw [hK]; k_is⟩
theorem mAccOp (hK : G.K = KK G.w.params) : MethF G.K 670 "accept_op" 392 := ⟨by rw [hK]; k_is, by rw [hK]; k_is, by rw [hK]; k_is⟩
theorem mAccKey (hK : G.K = KK G.w.params) : MethF G.K 670 "accept_key" 399 := ⟨by rw [hK]; k_is, by rw [hK]; k_is, by rw [hK]; k_is⟩
theorem mExpOp (hK : G.K = KK G.w.params) : MethF G.K 670 "expect_op" 406 := ⟨by rw [hK]; k_is, by rw [hK]; k_is, by rw [hK]; k_is⟩
theorem mExpKey (hK : G.K = KK G.w.params) : MethF G.K 670 "expect_key" 413 := ⟨by rw [hK]; k_is, by rw [hK]; k_is, by rw [hK]; k_is⟩
theorem mExpId (hK : G.K = KK G.w.params) : MethF G.K 670 "expect_id" 420 := ⟨by rw [hK]; k_is, by rw [hK]; k_is, by rw [hK]; k_is⟩
theorem mFail (hK : G.K = KK G.w.params) : MethF G.K 670 "fail" 428 := ⟨by rw [hK]; k_is, by rw [hK]; k_is, by rw [hK]; k_is⟩

section
variable {k : Nat} {env : Env} {σ : St} {pos np apos : Pos} {v name : Str} {f : Addr} {QS : AV → St → Prop} {pl : Sem Bool}
theorem J.P0 (hK : G.K = KK G.w.params) (hl : σ.loc.lookup v = some (.ref P.x)) (px : PX σ.H P s) (hm : MethF G.K 670 name f) (h : Cl G C k (.ref f) [.ref P.x] σ.H (fun b H' => QS b ⟨σ.loc, H'⟩) E)
    (hn : ∀ tk a, (parF P tk a).lookup name = none := by intros; rfl) (hx : env.kindOf v = some .local := by rfl) (hd' : (v == ("__debug__" : Str)) = false := by decide) (hfl : env.frame = some env.locals := by rfl)
    (hp : (backTo pos (starEach [] env)).any (·.1) = false := by rfl)
    (he : eval (.Call (.Attribute (.Name v np) name apos) [] [] pos) env = (do
      let ov ← eval (.Name v np) env
      standAt apos.atName
      let (f, first) ← holding [ov] (getMethod ov name pl)
      callWith pos f first (backTo pos (starEach [] env)) []) := by rfl) : JE G C k env (.Call (.Attribute (.Name v np) name apos) [] [] pos) σ QS E := by
  obtain ⟨a, ha⟩ := px.a
  exact J.MethI (J.Nloc hl ⟨P.x, 670, P.d, parF P s.1 a, f, rfl, ⟨px.i, ha⟩, hn _ _, clsPar hK, hm, J.Lnil h⟩ hx hd' hfl) hp he
theorem J.P1 {w : Str} {cn : Nat} {cp : Pos} (hK : G.K = KK G.w.params) (hl : σ.loc.lookup v = some (.ref P.x)) (px : PX σ.H P s) (hm : MethF G.K 670 name f) (h : Cl G C k (.ref f) [.ref P.x, .str w] σ.H (fun b H' => QS b ⟨σ.loc, H'⟩) E)
    (hn : ∀ tk a, (parF P tk a).lookup name = none := by intros; rfl) (hx : env.kindOf v = some .local := by rfl) (hd' : (v == ("__debug__" : Str)) = false := by decide) (hfl : env.frame = some env.locals := by rfl)
    (hs : starEach [.Constant (.str w) cn cp] env = (false, eval (.Constant (.str w) cn cp) env) :: starEach [] env := by rfl)
    (hp : (backTo pos (starEach [.Constant (.str w) cn cp] env)).any (·.1) = false := by rfl)
    (he : eval (.Call (.Attribute (.Name v np) name apos) [.Constant (.str w) cn cp] [] pos) env = (do
      let ov ← eval (.Name v np) env
      standAt apos.atName
      let (f, first) ← holding [ov] (getMethod ov name pl)
      callWith pos f first (backTo pos (starEach [.Constant (.str w) cn cp] env)) []) := by rfl) : JE G C k env (.Call (.Attribute (.Name v np) name apos) [.Constant (.str w) cn cp] [] pos) σ QS E := by
  obtain ⟨a, ha⟩ := px.a
  exact J.MethI (J.Nloc hl ⟨P.x, 670, P.d, parF P s.1 a, f, rfl, ⟨px.i, ha⟩, hn _ _, clsPar hK, hm, J.Lcons (J.Cstr (J.Lnil h)) hs⟩ hx hd' hfl) hp he
theorem tkVal_notBi : ∀ tk : Tk, (tkVal tk).notBi = true
  | .key _ => rfl
  | .id _ => rfl
  | .op _ => rfl
  | .num _ _ _ => rfl
  | .eof => rfl
theorem J.Ptok (hK : G.K = KK G.w.params) (hl : σ.loc.lookup v = some (.ref P.x)) (px : PX σ.H P s) (h : ∀ a : Nat, QS (tokAV s.1 a) σ) (hx : env.kindOf v = some .local := by rfl) (hd' : (v == ("__debug__" : Str)) = false := by decide) (hfl : env.frame = some env.locals := by rfl)
    (he : eval (.Attribute (.Name v np) "token" apos) env = (do
      let o ← eval (.Name v np) env
      standAt apos.atName
      let r ← holding [o] (getAttr o "token" true)
      letTemporaryGo (.Name v np) o r
      pure r) := by with_unfolding_all rfl) : JE G C k env (.Attribute (.Name v np) "token" apos) σ QS E := by
  obtain ⟨a, ha⟩ := px.a
  exact J.AttrI (J.Nloc hl ⟨P.x, 670, P.d, parF P s.1 a, _, rfl, ⟨px.i, ha⟩, rfl, clsPar hK, parTok hK, rfl, h a⟩ hx hd' hfl) he
theorem J.Pat (hK : G.K = KK G.w.params) (hl : σ.loc.lookup v = some (.ref P.x)) (px : PX σ.H P s) (h : ∀ a : Nat, QS (.int a) σ) (hx : env.kindOf v = some .local := by rfl) (hd' : (v == ("__debug__" : Str)) = false := by decide) (hfl : env.frame = some env.locals := by rfl)
    (he : eval (.Attribute (.Name v np) "at" apos) env = (do
      let o ← eval (.Name v np) env
      standAt apos.atName
      let r ← holding [o] (getAttr o "at" true)
      letTemporaryGo (.Name v np) o r
      pure r) := by with_unfolding_all rfl) : JE G C k env (.Attribute (.Name v np) "at" apos) σ QS E := by
  obtain ⟨a, ha⟩ := px.a
  exact J.AttrI (J.Nloc hl ⟨P.x, 670, P.d, parF P s.1 a, _, rfl, ⟨px.i, ha⟩, rfl, clsPar hK, parAt hK, rfl, h a⟩ hx hd' hfl) he
inductive TkQ (f : Tk → AV) (QS : AV → St → Prop) (v : AV) (σ : St) : Prop
  | mk (tk : Tk) (a : Nat) (h1 : v = tokAV tk a) (h2 : QS (f tk) σ)
theorem J.Tkind {e : Expr} (hK : G.K = KK G.w.params) (h : JE G C k env e σ (TkQ (fun tk => .str (tkKind tk)) QS) E)
    (he : eval (.Attribute e "kind" apos) env = (do
      let o ← eval e env
      standAt apos.atName
      let r ← holding [o] (getAttr o "kind" true)
      letTemporaryGo e o r
      pure r) := by with_unfolding_all rfl) : JE G C k env (.Attribute e "kind" apos) σ QS E :=
  J.AttrZ (h.monoQ fun v σ' ⟨tk, a, e1, q⟩ => ⟨148, _, _, e1, rfl, clsTok hK, tokKind hK, rfl, q⟩) he
theorem J.Tvalue {e : Expr} (hK : G.K = KK G.w.params) (h : JE G C k env e σ (TkQ tkVal QS) E)
    (he : eval (.Attribute e "value" apos) env = (do
      let o ← eval e env
      standAt apos.atName
      let r ← holding [o] (getAttr o "value" true)
      letTemporaryGo e o r
      pure r) := by with_unfolding_all rfl) : JE G C k env (.Attribute e "value" apos) σ QS E :=
  J.AttrZ (h.monoQ fun v σ' ⟨tk, a, e1, q⟩ => ⟨148, _, _, e1, rfl, clsTok hK, tokValue hK, tkVal_notBi _, q⟩) he
end
end Mine

namespace Mine
variable {G : Cfg} {C : Addr} {H H₁ : Hp} {Q : AV → Hp → Prop} {E : Str → Prop} {P : PA} {s s₁ : PS0} {l : Addr} {ao : AO}

structure PNe (P : PA) : Prop where
  xld : P.x ≠ P.ld
  dld : P.d ≠ P.ld
  lld : P.l ≠ P.ld
  xd : P.x ≠ P.d
  ld : P.l ≠ P.d
  lxd : P.lx ≠ P.d
  kdd : P.kd ≠ P.d
theorem PX.ne (px : PX H P s) : PNe P := by
  obtain ⟨a, ha⟩ := px.a
  obtain ⟨q, lx, _⟩ := px.q
  obtain ⟨D, hk, _⟩ := lx.k
  have key : ∀ {a b : Addr} {u v : AO}, H a = some u → H b = some v → u ≠ v → a ≠ b := fun h1 h2 n e => by subst e; rw [h1] at h2; exact n (Option.some.inj h2)
  exact ⟨key px.i lx.i.f (by simp), key ha lx.i.f (by simp), key px.l lx.i.f (by simp), key px.i ha (by simp), key px.l ha (by simp), key lx.i.i ha (by simp), key hk ha (by simp)⟩
theorem PX.step (px : PX H P s) {tk : Tk} {rest : List Nat} {q : Nat} {a a' : Nat} {H' : Hp} (lx : LX H' P.lx P.ld P.kd P.t q) (hq : P.t.drop q = rest) (k : Keep1 P.ld H H') :
    PX ((H'.set P.d (.dict [("source", .ref P.lx), ("ahead", .ref P.l), ("token", tokAV tk a'), ("at", .int a)])).set P.d (.dict (parF P tk a'))) P (tk, rest) ∧ KeepS P H ((H'.set P.d (.dict [("source", .ref P.lx), ("ahead", .ref P.l), ("token", tokAV tk a'), ("at", .int a)])).set P.d (.dict (parF P tk a'))) := by
  have n := px.ne
  obtain ⟨D, hk, hD⟩ := lx.k
  have e : ∀ z, z ≠ P.d → ((H'.set P.d (.dict [("source", .ref P.lx), ("ahead", .ref P.l), ("token", tokAV tk a'), ("at", .int a)])).set P.d (.dict (parF P tk a'))) z = H' z := fun z hz => by rw [Hp.set_ne hz, Hp.set_ne hz]
  refine ⟨⟨?_, ⟨a', Hp.set_same⟩, ?_, ⟨q, ⟨⟨?_, ?_⟩, ⟨D, ?_, hD⟩, lx.m, lx.n, lx.a⟩, hq⟩⟩, fun b ao h1 h2 hb => ?_⟩
  · rw [e _ n.xd, k _ n.xld]; exact px.i
  · rw [e _ n.ld, k _ n.lld]; exact px.l
  · rw [e _ n.lxd]; exact lx.i.i
  · rw [e _ n.dld.symm]; exact lx.i.f
  · rw [e _ n.kdd]; exact hk
  · rw [e _ h1, k _ h2]; exact hb

theorem c_take (hK : G.K = KK G.w.params) (px : PX H P s) (h : PR P H (pTake s) (fun tk s' H' => ∀ a : Nat, Q (tokAV tk a) H') E) : Fn G C 8 (.ref 371) [.ref P.x] H Q E := by
  unfold pTake at h
  cases hx : lexTok s.2 with
  | none => rw [hx] at h; exact h.elim
  | some s' =>
    rw [hx] at h
    obtain ⟨tk', rest⟩ := s'
    have n := px.ne
    obtain ⟨a, ha⟩ := px.a
    obtain ⟨q, lx, hq⟩ := px.q
    refine Fn.body (ab := [("self", .ref P.x)]) (by rw [hK]; k_is) (by rw [hK]; k_is) (fun s I ws X hv => bind1 hv fun _ => BindsTo.of_eq rfl) rfl (fun L' => ?_)
    refine J.cons (J.AssignN (J.AttrI (J.Nloc rfl ⟨P.x, 670, P.d, parF P s.1 a, _, rfl, ⟨px.i, ha⟩, rfl, clsPar hK, parTok hK, rfl, ?_⟩)))
    refine J.cons (J.If (J.TCmp (J.Call (J.Nbi (by rw [hK]; k_is) rfl (by decide) (.bi _) ⟨_, rfl, rfl, J.Lcons (J.AttrI (J.Nloc rfl ⟨P.x, 670, P.d, parF P s.1 a, _, rfl, ⟨px.i, ha⟩, rfl, clsPar hK, parAhead hK, rfl, J.Lnil (Cl.lenL px.l (by simp) (J.Cint ⟨_, .gtI _ _, ?_⟩))⟩))⟩))))
    refine J.cons (J.AssignA (J.MethI (J.AttrI (J.Nloc rfl ⟨P.x, 670, P.d, parF P s.1 a, _, rfl, ⟨px.i, ha⟩, rfl, clsPar hK, parSource hK, rfl, P.lx, 338, P.ld, lexF P.t q P.kd, 237, rfl, lx.i, rfl, clsLex hK, mNext hK, J.Lnil (c_next hK lx (by rw [hq]; exact hx) fun H₁ q₁ a₁ lx₁ e₁ k₁ => ?_).clUp⟩))))
    refine J.Nloc rfl ⟨P.x, 670, P.d, parF P s.1 a, rfl, ⟨(k₁ _ n.xld).trans px.i, (k₁ _ n.dld).trans ha⟩, clsPar hK, parTok hK, by simp, J.nil ?_⟩
    have i₂ : IsI (H₁.set P.d (.dict (setL "token" (tokAV tk' a₁) (parF P s.1 a)))) P.x 670 P.d [("source", .ref P.lx), ("ahead", .ref P.l), ("token", tokAV tk' a₁), ("at", .int a)] := ⟨by rw [Hp.set_ne n.xd]; exact (k₁ _ n.xld).trans px.i, Hp.set_same⟩
    refine J.cons (J.AssignA (J.AttrZ (J.AttrI (J.Nloc rfl ⟨P.x, 670, P.d, _, _, rfl, i₂, rfl, clsPar hK, parTok hK, rfl, 148, _, _, rfl, rfl, clsTok hK, tokAt hK, rfl, J.Nloc rfl ⟨P.x, 670, P.d, _, rfl, i₂, clsPar hK, parAt hK, by simp, ?_⟩⟩))))
    have st := px.step (tk := tk') (a := a) (a' := a₁) lx₁ e₁ k₁
    exact J.cons (J.Return (J.Nloc rfl (h _ st.1 st.2 a)))

theorem kind_op (tk : Tk) : (tkKind tk == ("op" : Str)) = (match tk with | .op _ => true | _ => false) := by cases tk <;> first | (show ((Str.ofString _) == (Str.ofString _)) = true; decide +kernel) | (show ((Str.ofString _) == (Str.ofString _)) = false; decide +kernel)
theorem kind_key (tk : Tk) : (tkKind tk == ("key" : Str)) = (match tk with | .key _ => true | _ => false) := by cases tk <;> first | (show ((Str.ofString _) == (Str.ofString _)) = true; decide +kernel) | (show ((Str.ofString _) == (Str.ofString _)) = false; decide +kernel)
theorem kind_id (tk : Tk) : (tkKind tk == ("id" : Str)) = (match tk with | .id _ => true | _ => false) := by cases tk <;> first | (show ((Str.ofString _) == (Str.ofString _)) = true; decide +kernel) | (show ((Str.ofString _) == (Str.ofString _)) = false; decide +kernel)
theorem kind_num (tk : Tk) : (tkKind tk == ("num" : Str)) = (match tk with | .num _ _ _ => true | _ => false) := by cases tk <;> first | (show ((Str.ofString _) == (Str.ofString _)) = true; decide +kernel) | (show ((Str.ofString _) == (Str.ofString _)) = false; decide +kernel)
theorem kind_eof (tk : Tk) : (tkKind tk == ("eof" : Str)) = (match tk with | .eof => true | _ => false) := by cases tk <;> first | (show ((Str.ofString _) == (Str.ofString _)) = true; decide +kernel) | (show ((Str.ofString _) == (Str.ofString _)) = false; decide +kernel)

theorem tkOp (tk : Tk) (w : List Nat) : isOp w tk = ((tkKind tk == ("op" : Str)) && (match tk with | .op v => v == w | _ => false)) := by rw [kind_op]; cases tk <;> rfl
section
variable {k : Nat} {env : Env} {σ : St} {pos np apos : Pos} {v name : Str} {f : Addr} {QS : AV → St → Prop}
theorem c_isOp (hK : G.K = KK G.w.params) (px : PX H P s) {w : List Nat} (h : Q (.bool (isOp w s.1)) H) : Fn G C 1 (.ref 378) [.ref P.x, .str (S w)] H Q E := by
  refine Fn.body (ab := [("self", .ref P.x), ("text", .str (S w))]) (by rw [hK]; k_is) (by rw [hK]; k_is) (fun s I ws X hv => bind2 hv fun _ _ => BindsTo.of_eq rfl) rfl (fun L' => ?_)
  obtain ⟨tk, rest⟩ := s
  refine J.cons (J.Return (J.AndE (J.CmpE (J.Tkind hK (J.Ptok hK rfl px fun a => ⟨tk, a, rfl, J.Cstr ⟨_, .eqS _ _, _, rfl, ?_⟩⟩)))))
  rw [kind_op]
  cases tk with
  | op u => exact J.And1 (J.CmpE (J.Tvalue hK (J.Ptok hK rfl px fun a => ⟨_, a, rfl, J.Nloc rfl ⟨_, ceq w rfl, Qb h (by show decide (u = w) = (u == w); rw [Bool.eq_iff_iff]; simp)⟩⟩)))
  | _ => exact h
theorem c_isKey (hK : G.K = KK G.w.params) (px : PX H P s) {w : List Nat} (h : Q (.bool (isKey w s.1)) H) : Fn G C 1 (.ref 385) [.ref P.x, .str (S w)] H Q E := by
  refine Fn.body (ab := [("self", .ref P.x), ("text", .str (S w))]) (by rw [hK]; k_is) (by rw [hK]; k_is) (fun s I ws X hv => bind2 hv fun _ _ => BindsTo.of_eq rfl) rfl (fun L' => ?_)
  obtain ⟨tk, rest⟩ := s
  refine J.cons (J.Return (J.AndE (J.CmpE (J.Tkind hK (J.Ptok hK rfl px fun a => ⟨tk, a, rfl, J.Cstr ⟨_, .eqS _ _, _, rfl, ?_⟩⟩)))))
  rw [kind_key]
  cases tk with
  | key u => exact J.And1 (J.CmpE (J.Tvalue hK (J.Ptok hK rfl px fun a => ⟨_, a, rfl, J.Nloc rfl ⟨_, ceq w rfl, Qb h (by show decide (u = w) = (u == w); rw [Bool.eq_iff_iff]; simp)⟩⟩)))
  | _ => exact h
theorem J.PV {n : Str} {u : AV} {cp : Pos} {pl : Sem Bool} (hK : G.K = KK G.w.params) (hl : σ.loc.lookup v = some (.ref P.x)) (px : PX σ.H P s) (hm : MethF G.K 670 name f) (hu : σ.loc.lookup n = some u) (h : Cl G C k (.ref f) [.ref P.x, u] σ.H (fun b H' => QS b ⟨σ.loc, H'⟩) E)
    (hn : ∀ tk a, (parF P tk a).lookup name = none := by intros; rfl) (hx : env.kindOf v = some .local := by rfl) (hd' : (v == ("__debug__" : Str)) = false := by decide) (hfl : env.frame = some env.locals := by rfl)
    (hx' : env.kindOf n = some .local := by rfl) (hd'' : (n == ("__debug__" : Str)) = false := by decide)
    (hs : starEach [.Name n cp] env = (false, eval (.Name n cp) env) :: starEach [] env := by rfl)
    (hp : (backTo pos (starEach [.Name n cp] env)).any (·.1) = false := by rfl)
    (he : eval (.Call (.Attribute (.Name v np) name apos) [.Name n cp] [] pos) env = (do
      let ov ← eval (.Name v np) env
      standAt apos.atName
      let (f, first) ← holding [ov] (getMethod ov name pl)
      callWith pos f first (backTo pos (starEach [.Name n cp] env)) []) := by rfl) : JE G C k env (.Call (.Attribute (.Name v np) name apos) [.Name n cp] [] pos) σ QS E := by
  obtain ⟨a, ha⟩ := px.a
  exact J.MethI (J.Nloc hl ⟨P.x, 670, P.d, parF P s.1 a, f, rfl, ⟨px.i, ha⟩, hn _ _, clsPar hK, hm, J.Lcons (J.Nloc hu (J.Lnil h) hx' hd'' hfl) hs⟩ hx hd' hfl) hp he
theorem c_accOp (hK : G.K = KK G.w.params) (px : PX H P s) {w : List Nat} (h : PR P H (pAcceptOp w s) (fun b s' H' => Q (.bool b) H') E) : Fn G C 9 (.ref 392) [.ref P.x, .str (S w)] H Q E := by
  refine Fn.body (ab := [("self", .ref P.x), ("text", .str (S w))]) (by rw [hK]; k_is) (by rw [hK]; k_is) (fun s I ws X hv => bind2 hv fun _ _ => BindsTo.of_eq rfl) rfl (fun L' => ?_)
  refine J.cons (J.If (J.Tval (J.PV hK rfl px (mIsOp hK) rfl (c_isOp hK px ⟨_, rfl, ?_⟩).clUp)))
  have h' : PR P H (if isOp w s.1 = true then (pTake.bind fun _ => .ret true) s else (PM.ret false) s) (fun b s' H' => Q (.bool b) H') E := by
    unfold pAcceptOp pIsOp PM.bind at h
    dsimp only at h
    cases e : isOp w s.1 <;> rw [e] at h <;> exact h
  refine ite_both (fun hb => ?_) (fun hb => J.nil ?_)
  · rw [if_pos hb] at h'
    refine J.cons (J.ExprS (J.P0 hK rfl px (mTake hK) (c_take hK px (h'.call fun tk s' H' px' k' h'' a => ?_)).clUp))
    exact J.cons (J.Return (J.Cbool (h''.fin px' k')))
  · rw [if_neg (by rw [hb]; decide)] at h'
    exact J.cons (J.Return (J.Cbool (h'.fin px .refl)))
theorem c_accKey (hK : G.K = KK G.w.params) (px : PX H P s) {w : List Nat} (h : PR P H (pAcceptKey w s) (fun b s' H' => Q (.bool b) H') E) : Fn G C 9 (.ref 399) [.ref P.x, .str (S w)] H Q E := by
  refine Fn.body (ab := [("self", .ref P.x), ("text", .str (S w))]) (by rw [hK]; k_is) (by rw [hK]; k_is) (fun s I ws X hv => bind2 hv fun _ _ => BindsTo.of_eq rfl) rfl (fun L' => ?_)
  refine J.cons (J.If (J.Tval (J.PV hK rfl px (mIsKey hK) rfl (c_isKey hK px ⟨_, rfl, ?_⟩).clUp)))
  have h' : PR P H (if isKey w s.1 = true then (pTake.bind fun _ => .ret true) s else (PM.ret false) s) (fun b s' H' => Q (.bool b) H') E := by
    unfold pAcceptKey pIsKey PM.bind at h
    dsimp only at h
    cases e : isKey w s.1 <;> rw [e] at h <;> exact h
  refine ite_both (fun hb => ?_) (fun hb => J.nil ?_)
  · rw [if_pos hb] at h'
    refine J.cons (J.ExprS (J.P0 hK rfl px (mTake hK) (c_take hK px (h'.call fun tk s' H' px' k' h'' a => ?_)).clUp))
    exact J.cons (J.Return (J.Cbool (h''.fin px' k')))
  · rw [if_neg (by rw [hb]; decide)] at h'
    exact J.cons (J.Return (J.Cbool (h'.fin px .refl)))
end
end Mine

namespace Mine
variable {G : Cfg} {C : Addr} {H H₁ : Hp} {Q : AV → Hp → Prop} {E : Str → Prop} {P : PA} {s s₁ : PS0} {l : Addr} {ao : AO}

noncomputable def xIn (K : Frag) (C : Addr) : Bool := match K.lookup C with
  | some ⟨_, _, .cls cd, sl⟩ => !cd.abstract && !cd.hasDel && cd.hasDict && !cd.mro.isEmpty && (sl.toList[4]?).join == some (.builtin "Exception.__new__")
  | _ => false
theorem XCls.of {K : Frag} {C : Addr} (e : xIn K C = true) (self : mroIn K C (.ref C) = some true) (exc : mroIn K C (.type "Exception") = some true) (bexc : mroIn K C (.type "BaseException") = some true)
    (noA : mroIn K C (.type "AttributeError") = some false) (noN : mroIn K C (.type "NameError") = some false) (obj_ : mroIn K C (.type "object") = some true)
    (call : specialIn K (.ref C) "__call__" = some (some (.builtin "type.__call__"))) (typ : instIn K (.ref C) (.type "type") = some true) : XCls K C := by
  unfold xIn at e
  split at e
  · rename_i oc od cd sl ho
    simp only [Bool.and_eq_true, Bool.not_eq_true', beq_iff_eq] at e
    obtain ⟨⟨⟨⟨e1, e2⟩, e3⟩, e4⟩, e5⟩ := e
    have hc : clsIn K C = some cd := by unfold clsIn; rw [ho]
    obtain ⟨c, l, hl⟩ : ∃ c l, cd.mro = c :: l := by cases q : cd.mro with | nil => rw [q] at e4; cases e4 | cons c l => exact ⟨c, l, rfl⟩
    have made : ∀ M h, K.In h → Looks M h (Bind.madeBy (.ref C)) (some "Exception.__new__") := by
      intro M h X A Q E s k q
      have hm : Looks M h (mroOf (.ref C)) cd.mro := (looks_clsIn X hc).andThen .now
      unfold Bind.madeBy
      refine wpAny_bind (hm A _ E s k ?_)
      rw [hl, List.forIn_cons]
      refine wpAny_bind (wpAny_bind (wpAny_bind (wpAny_bind (wpAny_loadPart (k _ _ (X _ _ ho)) (wpAny_pure ?_)))))
      dsimp only
      rw [← Array.getElem?_toList, e5]
      exact wpAny_pure (wpAny_pure (wpAny_pure q))
    refine ⟨⟨oc, od, cd, sl, ho, e1, e2, e3, e4⟩, made, fun M h X => ?_, self, exc, bexc, noA, noN, obj_, call, typ⟩
    have hm : Looks M h (mroOf (.ref C)) cd.mro := (looks_clsIn X hc).andThen .now
    intro A Q E s k q
    unfold Bind.staticBase
    refine wpAny_bind (hm A _ E s k ?_)
    rw [hl, List.forIn_cons]
    exact wpAny_bind (wpAny_bind (wpAny_bind (made M h X A _ E s k (wpAny_pure (wpAny_pure (wpAny_pure q))))))
  · cases e
abbrev SE : Addr := 129
theorem clsIn_of {K : Frag} {C : Addr} {oc : Value} {od : Option Addr} {cd : ClassData} {sl : Array (Option Value)} (h : K.lookup C = some ⟨oc, od, .cls cd, sl⟩) : clsIn K C = some cd := by unfold clsIn; rw [h]
theorem xIn_of {K : Frag} {C : Addr} {oc : Value} {od : Option Addr} {cd : ClassData} {sl : Array (Option Value)} (h : K.lookup C = some ⟨oc, od, .cls cd, sl⟩)
    (e : (!cd.abstract && !cd.hasDel && cd.hasDict && !cd.mro.isEmpty && (sl.toList[4]?).join == some (.builtin "Exception.__new__")) = true) : xIn K C = true := by unfold xIn; rw [h]; exact e
theorem XSet.of {K : Frag} {C : Addr} {oc : Value} {od : Option Addr} {cd : ClassData} {sl : Array (Option Value)} (h : K.lookup C = some ⟨oc, od, .cls cd, sl⟩) (hd : cd.hasDict = true) (hm : ∀ self, refuseLoop self "__setattr__" cd.mro = pure ())
    (sa : findIn K (.ref C) "__setattr__" = some (some (.builtin "object.__setattr__"))) : XSet K C := ⟨⟨cd, clsIn_of h, hd, hm⟩, sa⟩
theorem xSE (hK : G.K = KK G.w.params) : XCls G.K SE := by
  refine XCls.of ?_ ?_ ?_ ?_ ?_ ?_ ?_ ?_ ?_
  · exact xIn_of (by rw [hK]; k_is) rfl
  all_goals (rw [hK]; k_is)
theorem sSE (hK : G.K = KK G.w.params) : XSet G.K SE :=
  XSet.of (by rw [hK]; k_is) rfl (fun self => refuse_exc2 self _ _) (by rw [hK]; k_is)
theorem seKind (hK : G.K = KK G.w.params) : findIn G.K (.ref SE) "kind" = some none := by rw [hK]; k_is
theorem seAt (hK : G.K = KK G.w.params) : findIn G.K (.ref SE) "at" = some none := by rw [hK]; k_is
theorem seDetail (hK : G.K = KK G.w.params) : findIn G.K (.ref SE) "detail" = some none := by rw [hK]; k_is

theorem c_SE (hK : G.K = KK G.w.params) {w : Str} {v u : AV} (h : ∀ x d fs H', H' x = some (.exc SE (some d)) → H' d = some (.dict fs) → fs.lookup ("kind" : Str) = some (.str w) → Q (.ref x) H') : Fn G C 2 (.ref SE) [.str w, v, u] H Q E := by
  refine Fn.makeX (fI := 113) (xSE hK) (by rw [hK]; k_is) (by rw [hK]; k_is) (by simp) fun x hx => ?_
  refine Fn.body (ab := [("self", .ref x), ("kind", .str w), ("at", v), ("detail", u)]) (by rw [hK]; k_is) (by rw [hK]; k_is) (fun s I ws X hv => bind4 hv fun _ _ _ _ => binds_K X rfl (by rw [hK]; k_is) rfl rfl rfl) rfl (fun L' => ?_)
  refine J.cons (J.AssignX (J.Nloc rfl (J.Nloc rfl ⟨x, SE, rfl, xSE hK, sSE hK, seKind hK, .inl ⟨Hp.set_same, fun d hd hdx => ?_⟩⟩)))
  have hx2 : (((H.set x (.exc SE none)).set x (.exc SE (some d))).set d (.dict [("kind", .str w)])) x = some (.exc SE (some d)) := by rw [Hp.set_ne (Ne.symm hdx), Hp.set_same]
  refine J.cons (J.AssignX (J.Nloc rfl (J.Nloc rfl ⟨x, SE, rfl, xSE hK, sSE hK, seAt hK, .inr ⟨d, _, hx2, Hp.set_same, by simp, ?_⟩⟩)))
  refine J.cons (J.AssignX (J.Nloc rfl (J.Nloc rfl ⟨x, SE, rfl, xSE hK, sSE hK, seDetail hK, .inr ⟨d, _, (Hp.set_ne (Ne.symm hdx)).trans hx2, Hp.set_same, by show 2 ≤ 100; decide, J.nil ?_⟩⟩)))
  exact ⟨rfl, h x d _ _ ((Hp.set_ne (Ne.symm hdx)).trans ((Hp.set_ne (Ne.symm hdx)).trans hx2)) Hp.set_same rfl⟩

theorem bind2d {w : World} {I : Im} {x y z : Str} {a b c : AV} {dv : Value} {ws : List Value} {s : Shared} {name qual : Str} {params : Arguments} {body : List Stmt} {scope : Scope} {dV kV doc pm cdv ct : Value} {an : Option Addr}
    (hv : VRs w I [a, b] ws) (h : ∀ v u, BindsTo s (fnOf name qual params body scope dV kV doc pm an cdv ct) ⟨[v, u], []⟩ [(x, v), (y, u), (z, dv)]) (hd : VR w I c dv) : ∃ binds, BindsTo s (fnOf name qual params body scope dV kV doc pm an cdv ct) ⟨ws, []⟩ binds ∧ BR w I [(x, a), (y, b), (z, c)] binds := by
  obtain ⟨_, _, rfl, h1, h2⟩ := hv.two; exact ⟨_, h _ _, .cons h1 (.cons h2 (.cons hd .nil))⟩

theorem J.failing (hK : G.K = KK G.w.params) (px : PX H P s) {w : Str} {u : AV} {k : Nat} {env : Env} {pos p1 p2 p3 p4 p5 p6 : Pos} {QF : AF → St → Prop} (hk : 2 ≤ k) (h : E w)
    (h1 : env.kindOf "kind" = some .local := by rfl) (h2 : env.kindOf "self" = some .local := by rfl) (h3 : env.kindOf "detail" = some .local := by rfl) (h4 : env.frame = some env.locals := by rfl) (h5 : env.kindOf "SourceError" = some .globalImplicit := by rfl)
    (hp : (backTo p1 (starEach [.Name "kind" p3, .Attribute (.Name "self" p4) "at" p5, .Name "detail" p6] env)).any (·.1) = false := by rfl)
    (e1 : starEach [.Name "kind" p3, .Attribute (.Name "self" p4) "at" p5, .Name "detail" p6] env = (false, eval (.Name "kind" p3) env) :: starEach [.Attribute (.Name "self" p4) "at" p5, .Name "detail" p6] env := by rfl)
    (e2 : starEach [.Attribute (.Name "self" p4) "at" p5, .Name "detail" p6] env = (false, eval (.Attribute (.Name "self" p4) "at" p5) env) :: starEach [.Name "detail" p6] env := by rfl)
    (e3 : starEach [.Name "detail" p6] env = (false, eval (.Name "detail" p6) env) :: starEach [] env := by rfl)
    (e4 : eval (.Attribute (.Name "self" p4) "at" p5) env = (do
      let o ← eval (.Name "self" p4) env
      standAt p5.atName
      let r ← holding [o] (getAttr o "at" true)
      letTemporaryGo (.Name "self" p4) o r
      pure r) := by with_unfolding_all rfl) :
    J1 G SE k env (.Raise (some (.Call (.Name "SourceError" p2) [.Name "kind" p3, .Attribute (.Name "self" p4) "at" p5, .Name "detail" p6] [] p1)) none pos) ⟨[("detail", u), ("kind", .str w), ("self", .ref P.x)], H⟩ QF E := by
  refine J.Raise (xSE hK) ?_ (by rw [hK]; k_is)
  refine J.Call (J.Nglob (by rw [hK]; k_is) (.ref SE) ⟨_, rfl, kok (by rw [hK]; k_is), J.Lcons (J.Nloc rfl (J.Lcons (J.Pat hK rfl px (fun a => J.Lcons (J.Nloc rfl (J.Lnil ?_) h3 (by decide) h4) e3) h2 (by decide) h4 e4) e2) h1 (by decide) h4) e1⟩ h5) hp
  exact (c_SE hK fun x d fs H' q1 q2 q3 => ⟨x, d, fs, w, rfl, q1, q2, q3, h⟩).clUp hk
theorem c_fail3 (hK : G.K = KK G.w.params) (px : PX H P s) {w : Str} {u : AV} (h : E w) : Fn G SE 3 (.ref 428) [.ref P.x, .str w, u] H Q E := by
  refine Fn.body (ab := [("self", .ref P.x), ("kind", .str w), ("detail", u)]) (by rw [hK]; k_is) (by rw [hK]; k_is) (fun s I ws X hv => bind3 hv fun _ _ _ => binds_K X rfl (by rw [hK]; k_is) rfl rfl rfl) rfl (fun L' => ?_)
  exact J.cons (J.failing hK px (Nat.le_refl _) h)
theorem c_fail (hK : G.K = KK G.w.params) (px : PX H P s) {w : Str} (h : E w) : Fn G SE 3 (.ref 428) [.ref P.x, .str w] H Q E := by
  refine Fn.body (ab := [("self", .ref P.x), ("kind", .str w), ("detail", .str (S []))]) (by rw [hK]; k_is) (by rw [hK]; k_is) (fun s I ws X hv => bind2d hv (fun _ _ => binds_K X rfl (by rw [hK]; k_is) rfl rfl rfl) (.str _ _)) rfl (fun L' => ?_)
  exact J.cons (J.failing hK px (Nat.le_refl _) h)

theorem c_expOp (hK : G.K = KK G.w.params) (px : PX H P s) {w : List Nat} (h : PR P H (pExpectOp w s) (fun _ s' H' => Q .none H') E) : Fn G SE 10 (.ref 406) [.ref P.x, .str (S w)] H Q E := by
  refine Fn.body (ab := [("self", .ref P.x), ("text", .str (S w))]) (by rw [hK]; k_is) (by rw [hK]; k_is) (fun s I ws X hv => bind2 hv fun _ _ => BindsTo.of_eq rfl) rfl (fun L' => ?_)
  refine J.cons (J.If (J.TNot (J.Tval (J.PV hK rfl px (mAccOp hK) rfl (c_accOp hK px (h.call fun b s' H' px' k' h' => ⟨_, rfl, ?_⟩)).clUp))))
  cases b with
  | true => rw [Bool.not_true, if_neg (by decide)]; exact J.nil (J.nil (h'.fin px' k'))
  | false =>
    rw [Bool.not_false, if_pos rfl]
    have e : E "unexpected_token" := h'
    obtain ⟨a, ha⟩ := px'.a
    refine J.cons (J.ExprS (J.MethI (J.Nloc rfl ⟨P.x, 670, P.d, parF P s'.1 a, 428, rfl, ⟨px'.i, ha⟩, rfl, clsPar hK, mFail hK, J.Lcons (J.Cstr (J.Lcons (J.Nloc rfl (J.Lnil ?_))))⟩)))
    exact (c_fail3 hK px' e).clUp
theorem c_expKey (hK : G.K = KK G.w.params) (px : PX H P s) {w : List Nat} (h : PR P H (pExpectKey w s) (fun _ s' H' => Q .none H') E) : Fn G SE 10 (.ref 413) [.ref P.x, .str (S w)] H Q E := by
  refine Fn.body (ab := [("self", .ref P.x), ("text", .str (S w))]) (by rw [hK]; k_is) (by rw [hK]; k_is) (fun s I ws X hv => bind2 hv fun _ _ => BindsTo.of_eq rfl) rfl (fun L' => ?_)
  refine J.cons (J.If (J.TNot (J.Tval (J.PV hK rfl px (mAccKey hK) rfl (c_accKey hK px (h.call fun b s' H' px' k' h' => ⟨_, rfl, ?_⟩)).clUp))))
  cases b with
  | true => rw [Bool.not_true, if_neg (by decide)]; exact J.nil (J.nil (h'.fin px' k'))
  | false =>
    rw [Bool.not_false, if_pos rfl]
    have e : E "unexpected_token" := h'
    obtain ⟨a, ha⟩ := px'.a
    refine J.cons (J.ExprS (J.MethI (J.Nloc rfl ⟨P.x, 670, P.d, parF P s'.1 a, 428, rfl, ⟨px'.i, ha⟩, rfl, clsPar hK, mFail hK, J.Lcons (J.Cstr (J.Lcons (J.Nloc rfl (J.Lnil ?_))))⟩)))
    exact (c_fail3 hK px' e).clUp

theorem kne_id (tk : Tk) : (tkKind tk != ("id" : Str)) = (match tk with | .id _ => false | _ => true) := by
  show (!(tkKind tk == ("id" : Str))) = _; rw [kind_id]; cases tk <;> rfl
theorem expId_cases (tk : Tk) (rest : List Nat) : (∃ w, tk = .id w) ∨ ((tkKind tk != ("id" : Str)) = true ∧ pExpectId (tk, rest) = (PM.fail "unexpected_token" : PM (List Nat)) (tk, rest)) := by
  rw [kne_id]; cases tk <;> first | exact .inl ⟨_, rfl⟩ | exact .inr ⟨rfl, rfl⟩
theorem c_expId (hK : G.K = KK G.w.params) (px : PX H P s) (h : PR P H (pExpectId s) (fun w s' H' => Q (.str (S w)) H') E) : Fn G SE 9 (.ref 420) [.ref P.x] H Q E := by
  refine Fn.body (ab := [("self", .ref P.x)]) (by rw [hK]; k_is) (by rw [hK]; k_is) (fun s I ws X hv => bind1 hv fun _ => BindsTo.of_eq rfl) rfl (fun L' => ?_)
  obtain ⟨tk, rest⟩ := s
  refine J.cons (J.If (J.TCmp (J.Tkind hK (J.Ptok hK rfl px fun a => ⟨tk, a, rfl, J.Cstr ⟨_, .neS _ _, ?_⟩⟩))))
  rcases expId_cases tk rest with ⟨w, rfl⟩ | ⟨e1, e2⟩
  · rw [kne_id]
    have h' : PR P H ((pTake.bind fun _ => PM.ret w) (.id w, rest)) (fun w s' H' => Q (.str (S w)) H') E := h
    refine J.nil (J.cons (J.Return (J.Tvalue hK (J.P0 hK rfl px (mTake hK) (c_take hK px ?_).clUp))))
    cases hx : pTake (Tk.id w, rest) with
    | none => unfold PM.bind at h'; rw [hx] at h'; exact h'.elim
    | some r =>
      unfold PM.bind at h'
      rw [hx] at h'
      cases r with
      | error e => exact h'
      | ok p =>
        obtain ⟨tk', s'⟩ := p
        have : tk' = .id w := by
          unfold pTake at hx
          split at hx
          · cases hx
          · cases hx; rfl
        subst this
        exact fun H' px' k' a => ⟨.id w, a, rfl, h' H' px' k'⟩
  · rw [e1, if_pos rfl]
    rw [e2] at h
    obtain ⟨a', ha⟩ := px.a
    refine J.cons (J.ExprS (J.MethI (J.Nloc rfl ⟨P.x, 670, P.d, parF P tk a', 428, rfl, ⟨px.i, ha⟩, rfl, clsPar hK, mFail hK, J.Lcons (J.Cstr (J.Lcons (J.Cstr (J.Lnil ?_))))⟩)))
    exact (c_fail3 hK px h.bad).clUp
end Mine

namespace Mine
variable {G : Cfg} {C : Addr} {H H₁ : Hp} {Q : AV → Hp → Prop} {E : Str → Prop} {P : PA} {s s₁ : PS0} {l : Addr} {ao : AO}

theorem Hp.sets {H : Hp} {d : Addr} {a b : AO} : (H.set d a).set d b = H.set d b := by
  funext z; by_cases q : z = d
  · subst q; rw [Hp.set_same, Hp.set_same]
  · rw [Hp.set_ne q, Hp.set_ne q, Hp.set_ne q]
theorem Hp.swap {H : Hp} {d x : Addr} {a b : AO} (h : d ≠ x) : (H.set d a).set x b = (H.set x b).set d a := by
  funext z; by_cases q : z = d
  · subst q; rw [Hp.set_ne h, Hp.set_same, Hp.set_same]
  · by_cases q' : z = x
    · subst q'; rw [Hp.set_same, Hp.set_ne (Ne.symm h), Hp.set_same]
    · rw [Hp.set_ne q', Hp.set_ne q, Hp.set_ne q, Hp.set_ne q']
theorem bind2d' {w : World} {I : Im} {x y z : Str} {a b c : AV} {dv : Value} {ws : List Value} {s : Shared} {name qual : Str} {params : Arguments} {body : List Stmt} {scope : Scope} {dV kV doc pm cdv ct : Value} {an : Option Addr}
    (hv : VRs w I [a, b] ws) (h : ∀ v u, BindsTo s (fnOf name qual params body scope dV kV doc pm an cdv ct) ⟨[v, u], []⟩ [(x, v), (y, u), (z, dv)]) (hd : VR w I c dv) : ∃ binds, BindsTo s (fnOf name qual params body scope dV kV doc pm an cdv ct) ⟨ws, []⟩ binds ∧ BR w I [(x, a), (y, b), (z, c)] binds := bind2d hv h hd

theorem c_Lexer (hK : G.K = KK G.w.params) {t : List Nat} (hn : t.length ≤ 10000) (ha : ∀ c ∈ t, c < 128)
    (h : ∀ x d kd H', LX H' x d kd t 0 → (∀ a ao, H a = some ao → H' a = some ao) → Q (.ref x) H') : Fn G C 4 (.ref 338) [.str (S t)] H Q E := by
  refine Fn.make (fI := 209) ⟨by rw [hK]; k_is, by rw [hK]; k_is, by rw [hK]; k_is⟩ fun x d hx hd hxd => ?_
  refine Fn.body (ab := [("self", .ref x), ("text", .str (S t)), ("at", .int 0)]) (by rw [hK]; k_is) (by rw [hK]; k_is) (fun s I ws X hv => bind2d hv (fun _ _ => binds_K X rfl (by rw [hK]; k_is) rfl rfl rfl) (.int 0 _)) rfl (fun L' => ?_)
  refine J.cons (J.AssignA (J.Nloc rfl (J.Nloc rfl ⟨x, 338, d, [], rfl, ⟨Hp.set_same, (Hp.set_ne (Ne.symm hxd)).trans Hp.set_same⟩, clsLex hK, lexText hK, by simp, ?_⟩)))
  rw [show (((H.set d (.dict [])).set x (.inst 338 d)).set d (.dict (setL "text" (.str (S t)) []))) = (H.set x (.inst 338 d)).set d (.dict [("text", .str (S t))]) by rw [Hp.swap (Ne.symm hxd), Hp.sets]; rfl]
  refine J.cons (J.AssignA (J.Nloc rfl (J.Nloc rfl ⟨x, 338, d, _, rfl, ⟨(Hp.set_ne hxd).trans Hp.set_same, Hp.set_same⟩, clsLex hK, lexAt_ hK, by simp, ?_⟩)))
  rw [Hp.sets]
  refine J.cons (J.AssignA (J.Call (J.Nglob (by rw [hK]; k_is) (.ref 159) ⟨_, rfl, kok (by rw [hK]; k_is), J.Lnil (c_keywords hK fun kd D hkd hm hD => ?_).clUp⟩)))
  dsimp only at hkd
  have hkx : kd ≠ x := fun q => by rw [q, Hp.set_ne hxd, Hp.set_same] at hkd; cases hkd
  have hkk : kd ≠ d := fun q => by rw [q, Hp.set_same] at hkd; cases hkd
  refine J.Nloc rfl ⟨x, 338, d, [("text", .str (S t)), ("at", .int 0)], rfl, ⟨(Hp.set_ne (Ne.symm hkx)).trans ((Hp.set_ne hxd).trans Hp.set_same), (Hp.set_ne (Ne.symm hkk)).trans Hp.set_same⟩, clsLex hK, lexKeys hK, by simp, J.nil ⟨rfl, ?_⟩⟩
  refine h x d kd _ ⟨⟨(Hp.set_ne hxd).trans ((Hp.set_ne (Ne.symm hkx)).trans ((Hp.set_ne hxd).trans Hp.set_same)), Hp.set_same⟩, ⟨D, (Hp.set_ne hkk).trans Hp.set_same, hD⟩, hm, hn, ha⟩ fun a ao e => ?_
  dsimp only
  have h1 : a ≠ x := fun q => by rw [q, hx] at e; cases e
  have h2 : a ≠ d := fun q => by rw [q, hd] at e; cases e
  have h3 : a ≠ kd := fun q => by rw [Hp.set_ne hkk, Hp.set_ne hkx, ← q, e] at hkd; cases hkd
  rw [Hp.set_ne h2, Hp.set_ne h3, Hp.set_ne h2, Hp.set_ne h1]; exact e

theorem c_Parser (hK : G.K = KK G.w.params) {t : List Nat} {lx ld kd : Addr} (L : LX H lx ld kd t 0) {s : PS0} (hx : lexTok t = some s)
    (h : ∀ x d l H', PX H' ⟨x, d, l, lx, ld, kd, t⟩ s → (∀ a ao, a ≠ ld → H a = some ao → H' a = some ao) → Q (.ref x) H') : Fn G C 9 (.ref 670) [.ref lx] H Q E := by
  obtain ⟨tk, rest⟩ := s
  refine Fn.make (fI := 356) ⟨by rw [hK]; k_is, by rw [hK]; k_is, by rw [hK]; k_is⟩ fun x d hx' hd hxd => ?_
  have nx : ∀ a ao, H a = some ao → a ≠ x := fun a ao e q => by rw [q, hx'] at e; cases e
  have nd : ∀ a ao, H a = some ao → a ≠ d := fun a ao e q => by rw [q, hd] at e; cases e
  obtain ⟨D, hk, hD⟩ := L.k
  refine Fn.body (ab := [("self", .ref x), ("source", .ref lx)]) (by rw [hK]; k_is) (by rw [hK]; k_is) (fun s I ws X hv => bind2 hv (fun _ _ => BindsTo.of_eq rfl)) rfl (fun L' => ?_)
  refine J.cons (J.AssignA (J.Nloc rfl (J.Nloc rfl ⟨x, 670, d, [], rfl, ⟨Hp.set_same, (Hp.set_ne (Ne.symm hxd)).trans Hp.set_same⟩, clsPar hK, parSource hK, by simp, ?_⟩)))
  rw [show (((H.set d (.dict [])).set x (.inst 670 d)).set d (.dict (setL "source" (.ref lx) []))) = (H.set x (.inst 670 d)).set d (.dict [("source", .ref lx)]) by rw [Hp.swap (Ne.symm hxd), Hp.sets]; rfl]
  refine J.cons (J.AssignA (J.ListD (J.Lnil ⟨by simp, fun l hl => J.Nloc rfl ?_⟩)))
  have hl : ((H.set x (.inst 670 d)).set d (.dict [("source", .ref lx)])) l = none := hl
  have hlx : l ≠ x := fun q => by rw [q, Hp.set_ne hxd, Hp.set_same] at hl; cases hl
  have hld : l ≠ d := fun q => by rw [q, Hp.set_same] at hl; cases hl
  have hlH : H l = none := by rw [Hp.set_ne hld, Hp.set_ne hlx] at hl; exact hl
  have nl : ∀ a ao, H a = some ao → a ≠ l := fun a ao e q => by rw [q, hlH] at e; cases e
  refine ⟨x, 670, d, [("source", .ref lx)], rfl, ⟨(Hp.set_ne (Ne.symm hlx)).trans ((Hp.set_ne hxd).trans Hp.set_same), (Hp.set_ne (Ne.symm hld)).trans Hp.set_same⟩, clsPar hK, parAhead hK, by simp, ?_⟩
  rw [show (((H.set x (.inst 670 d)).set d (.dict [("source", .ref lx)])).set l (.list [])).set d (.dict (setL "ahead" (.ref l) [("source", .ref lx)])) = ((H.set x (.inst 670 d)).set l (.list [])).set d (.dict [("source", .ref lx), ("ahead", .ref l)]) by rw [Hp.swap (Ne.symm hld), Hp.sets]; rfl]
  generalize hH0 : ((H.set x (.inst 670 d)).set l (.list [])).set d (.dict [("source", .ref lx), ("ahead", .ref l)]) = H0
  have k0 : ∀ a ao, H a = some ao → H0 a = some ao := fun a ao e => by rw [← hH0, Hp.set_ne (nd a ao e), Hp.set_ne (nl a ao e), Hp.set_ne (nx a ao e)]; exact e
  have L0 : LX H0 lx ld kd t 0 := ⟨⟨k0 _ _ L.i.i, k0 _ _ L.i.f⟩, ⟨D, k0 _ _ hk, hD⟩, L.m, L.n, L.a⟩
  have x0 : H0 x = some (.inst 670 d) := by rw [← hH0, Hp.set_ne hxd, Hp.set_ne (Ne.symm hlx), Hp.set_same]
  have d0 : H0 d = some (.dict [("source", .ref lx), ("ahead", .ref l)]) := by rw [← hH0, Hp.set_same]
  have l0 : H0 l = some (.list []) := by rw [← hH0, Hp.set_ne hld, Hp.set_same]
  have xld : x ≠ ld := Ne.symm (nx _ _ L.i.f)
  have dld : d ≠ ld := Ne.symm (nd _ _ L.i.f)
  have lld : l ≠ ld := Ne.symm (nl _ _ L.i.f)
  refine J.cons (J.AssignA (J.MethI (J.Nloc rfl ⟨lx, 338, ld, lexF t 0 kd, 237, rfl, L0.i, rfl, clsLex hK, mNext hK, J.Lnil (c_next hK L0 (by rw [List.drop_zero]; exact hx) fun H₁ q₁ a₁ lx₁ e₁ k₁ => ?_).clUp⟩)))
  refine J.Nloc rfl ⟨x, 670, d, [("source", .ref lx), ("ahead", .ref l)], rfl, ⟨(k₁ _ xld).trans x0, (k₁ _ dld).trans d0⟩, clsPar hK, parTok hK, by simp, ?_⟩
  have i₂ : IsI (H₁.set d (.dict (setL "token" (tokAV tk a₁) [("source", .ref lx), ("ahead", .ref l)]))) x 670 d [("source", .ref lx), ("ahead", .ref l), ("token", tokAV tk a₁)] := ⟨by rw [Hp.set_ne hxd]; exact (k₁ _ xld).trans x0, Hp.set_same⟩
  refine J.cons (J.AssignA (J.AttrZ (J.AttrI (J.Nloc rfl ⟨x, 670, d, _, _, rfl, i₂, rfl, clsPar hK, parTok hK, rfl, 148, _, _, rfl, rfl, clsTok hK, tokAt hK, rfl, J.Nloc rfl ⟨x, 670, d, _, rfl, i₂, clsPar hK, parAt hK, by simp, J.nil ⟨rfl, ?_⟩⟩⟩))))
  rw [Hp.sets]
  have ed : ∀ z, z ≠ d → (H₁.set d (.dict (setL "at" (.int a₁) [("source", .ref lx), ("ahead", .ref l), ("token", tokAV tk a₁)]))) z = H₁ z := fun z hz => Hp.set_ne hz
  obtain ⟨D₁, hk₁, hD₁⟩ := lx₁.k
  refine h x d l _ ⟨?_, ⟨a₁, Hp.set_same⟩, ?_, ⟨q₁, ⟨⟨?_, ?_⟩, ⟨D₁, ?_, hD₁⟩, lx₁.m, lx₁.n, lx₁.a⟩, e₁⟩⟩ fun a ao ha e => ?_
  · exact (ed _ hxd).trans ((k₁ _ xld).trans x0)
  · exact (ed _ hld).trans ((k₁ _ lld).trans l0)
  · exact (ed _ (nd _ _ L.i.i)).trans lx₁.i.i
  · exact (ed _ (Ne.symm dld)).trans lx₁.i.f
  · exact (ed _ (nd _ _ hk)).trans hk₁
  · exact (ed _ (nd _ _ e)).trans ((k₁ _ ha).trans (k0 a ao e))
end Mine

namespace Mine
variable {G : Cfg} {C : Addr} {H H₁ : Hp} {Q : AV → Hp → Prop} {E : Str → Prop} {P : PA} {s s₁ : PS0} {l : Addr} {ao : AO}

section
variable {k : Nat} {env : Env} {σ : St} {pos np apos : Pos} {v name : Str} {f : Addr} {QS : AV → St → Prop} {QF : AF → St → Prop} {pl : Sem Bool}
theorem J.consN {P' : St → Prop} {st : Stmt} {rest : List Stmt} (h : J1 G C k env st σ (fun f σ' => f = .next ∧ P' σ') E) (h' : ∀ σ', P' σ' → JS G C k env rest σ' QF E) : JS G C k env (st :: rest) σ QF E :=
  J.cons (h.monoQ fun f σ' ⟨e, q⟩ => by subst e; exact h' σ' q)
theorem J.PS {w : Str} {cn : Nat} {cp : Pos} (wl : List Nat) (hw : w = S wl) (hK : G.K = KK G.w.params) (hl : σ.loc.lookup v = some (.ref P.x)) (px : PX σ.H P s) (hm : MethF G.K 670 name f) (h : Cl G C k (.ref f) [.ref P.x, .str (S wl)] σ.H (fun b H' => QS b ⟨σ.loc, H'⟩) E)
    (hn : ∀ tk a, (parF P tk a).lookup name = none := by intros; rfl) (hx : env.kindOf v = some .local := by rfl) (hd' : (v == ("__debug__" : Str)) = false := by decide) (hfl : env.frame = some env.locals := by rfl)
    (hs : starEach [.Constant (.str w) cn cp] env = (false, eval (.Constant (.str w) cn cp) env) :: starEach [] env := by rfl)
    (hp : (backTo pos (starEach [.Constant (.str w) cn cp] env)).any (·.1) = false := by rfl)
    (he : eval (.Call (.Attribute (.Name v np) name apos) [.Constant (.str w) cn cp] [] pos) env = (do
      let ov ← eval (.Name v np) env
      standAt apos.atName
      let (f, first) ← holding [ov] (getMethod ov name pl)
      callWith pos f first (backTo pos (starEach [.Constant (.str w) cn cp] env)) []) := by rfl) : JE G C k env (.Call (.Attribute (.Name v np) name apos) [.Constant (.str w) cn cp] [] pos) σ QS E :=
  J.P1 hK hl px hm (by rw [hw]; exact h) hn hx hd' hfl hs hp he
theorem J.PF {w : Str} {cn : Nat} {cp : Pos} (hK : G.K = KK G.w.params) (hl : σ.loc.lookup v = some (.ref P.x)) (px : PX σ.H P s) (h : E w) (hk : 3 ≤ k := by decide)
    (hx : env.kindOf v = some .local := by rfl) (hd' : (v == ("__debug__" : Str)) = false := by decide) (hfl : env.frame = some env.locals := by rfl)
    (hs : starEach [.Constant (.str w) cn cp] env = (false, eval (.Constant (.str w) cn cp) env) :: starEach [] env := by rfl)
    (hp : (backTo pos (starEach [.Constant (.str w) cn cp] env)).any (·.1) = false := by rfl)
    (he : eval (.Call (.Attribute (.Name v np) "fail" apos) [.Constant (.str w) cn cp] [] pos) env = (do
      let ov ← eval (.Name v np) env
      standAt apos.atName
      let (f, first) ← holding [ov] (getMethod ov "fail" pl)
      callWith pos f first (backTo pos (starEach [.Constant (.str w) cn cp] env)) []) := by rfl) : JE G SE k env (.Call (.Attribute (.Name v np) "fail" apos) [.Constant (.str w) cn cp] [] pos) σ QS E :=
  J.P1 hK hl px (mFail hK) ((c_fail hK px h).clUp hk) (fun _ _ => rfl) hx hd' hfl hs hp he
end

theorem w_output : (Str.ofString "output") = S kOutput := by decide +kernel
theorem w_input : (Str.ofString "input") = S kInput := by decide +kernel
theorem w_reg : (Str.ofString "reg") = S kReg := by decide +kernel
theorem w_initial : (Str.ofString "initial") = S kInitial := by decide +kernel
theorem w_table : (Str.ofString "table") = S kTable := by decide +kernel
theorem w_endtable : (Str.ofString "endtable") = S kEndtable := by decide +kernel
theorem w_endprim : (Str.ofString "endprimitive") = S kEndprim := by decide +kernel
theorem w_prim : (Str.ofString "primitive") = S kPrim := by decide +kernel

noncomputable def isLvl3 (d : List Nat) : Prop := d = [48] ∨ d = [49] ∨ d = [120]
theorem c_level (hK : G.K = KK G.w.params) {d : List Nat} (hd' : isLvl3 d) (h : Q (.tup [.int (levelCode d)]) H) : Fn G C 1 (.ref 98) [.str (S d)] H Q E := by
  refine Fn.body (ab := [("symbol", .str (S d))]) (by rw [hK]; k_is) (by rw [hK]; k_is) (fun s I ws X hv => bind1 hv fun _ => BindsTo.of_eq rfl) rfl (fun L' => ?_)
  refine J.cons (J.If (J.TCmp (J.Nloc rfl (J.Cstr ⟨_, ceq [48] rfl, ?_⟩))))
  rcases hd' with rfl | rfl | rfl
  · rw [decide_eq_true rfl, if_pos rfl]
    exact J.cons (J.Return (J.TupleD (J.Lcons (J.Cint (J.Lnil ⟨by simp, h⟩)))))
  · rw [decide_eq_false (by decide), if_neg (by decide)]
    refine J.nil (J.cons (J.If (J.TCmp (J.Nloc rfl (J.Cstr ⟨_, ceq [49] rfl, ?_⟩)))))
    rw [decide_eq_true rfl, if_pos rfl]
    exact J.cons (J.Return (J.TupleD (J.Lcons (J.Cint (J.Lnil ⟨by simp, h⟩)))))
  · rw [decide_eq_false (by decide), if_neg (by decide)]
    refine J.nil (J.cons (J.If (J.TCmp (J.Nloc rfl (J.Cstr ⟨_, ceq [49] rfl, ?_⟩)))))
    rw [decide_eq_false (by decide), if_neg (by decide)]
    refine J.nil (J.cons (J.If (J.TCmp (J.Nloc rfl (J.Cstr ⟨_, ceq [120] rfl, ?_⟩)))))
    rw [decide_eq_true rfl, if_pos rfl]
    exact J.cons (J.Return (J.TupleD (J.Lcons (J.Cint (J.Lnil ⟨by simp, h⟩)))))

theorem kne_num (tk : Tk) : (tkKind tk != ("num" : Str)) = (match tk with | .num _ _ _ => false | _ => true) := by
  show (!(tkKind tk == ("num" : Str))) = _; rw [kind_num]; cases tk <;> rfl
theorem num_cases (tk : Tk) (rest : List Nat) : (∃ a b c, tk = .num a b c) ∨ ((tkKind tk != ("num" : Str)) = true ∧ pInitial (tk, rest) = (PM.fail "primitive_initial" : PM Int) (tk, rest)) := by
  rw [kne_num]; cases tk <;> first | exact .inl ⟨_, _, _, rfl⟩ | exact .inr ⟨rfl, rfl⟩

theorem c_initial (hK : G.K = KK G.w.params) (px : PX H P s) (h : PR P H (pInitial s) (fun c s' H' => Q (.int c) H') E) : Fn G SE 9 (.ref 70) [.ref P.x] H Q E := by
  refine Fn.body (ab := [("parser", .ref P.x)]) (by rw [hK]; k_is) (by rw [hK]; k_is) (fun s I ws X hv => bind1 hv fun _ => BindsTo.of_eq rfl) rfl (fun L' => ?_)
  obtain ⟨tk, rest⟩ := s
  refine J.cons (J.If (J.TCmp (J.Tkind hK (J.Ptok hK rfl px fun a => ⟨tk, a, rfl, J.Cstr ⟨_, .neS _ _, ?_⟩⟩))))
  rcases num_cases tk rest with ⟨z, b, d, rfl⟩ | ⟨e1, e2⟩
  · rw [kne_num]
    refine J.nil (J.cons (J.AssignT [("size", _), ("base", _), ("signed", _), ("digits", _)] (J.Tvalue hK (J.Ptok hK rfl px fun a => ⟨_, a, rfl, _, rfl, rfl, ?_⟩))))
    have h' : PR P H ((if (z ≠ [] ∧ z ≠ [49]) ∨ (b ≠ [] ∧ b ≠ [98]) ∨ (d ≠ [48] ∧ d ≠ [49] ∧ d ≠ [120]) then PM.fail "primitive_initial" else pTake.bind fun _ => PM.ret (levelCode d)) (.num z b d, rest)) (fun c s' H' => Q (.int c) H') E := h
    refine J.cons (J.If (J.thenB (J.TOrB (x := !([[], [49]] : List (List Nat)).contains z) (J.TCmp (J.Nloc rfl (J.TupStr rfl (by simp) ⟨_, cninT [[], [49]] rfl, rfl, rfl⟩))) (J.TOrB (x := !([[], [98]] : List (List Nat)).contains b) (J.TCmp (J.Nloc rfl (J.TupStr rfl (by simp) ⟨_, cninT [[], [98]] rfl, rfl, rfl⟩)))
      (J.TOrB (x := !([[48], [49], [120]] : List (List Nat)).contains d) (J.TCmp (J.Nloc rfl (J.TupStr rfl (by simp) ⟨_, cninT [[48], [49], [120]] rfl, rfl, rfl⟩))) J.TOrZ))) ?_))
    refine ite_both (fun hb => ?_) (fun hb => J.nil ?_)
    · rw [if_pos (by simpa using hb)] at h'
      exact J.cons (J.ExprS (J.PF hK rfl px h'.bad))
    · have hb' : ¬ ((z ≠ [] ∧ z ≠ [49]) ∨ (b ≠ [] ∧ b ≠ [98]) ∨ (d ≠ [48] ∧ d ≠ [49] ∧ d ≠ [120])) := fun q => by
        rw [Bool.eq_false_iff] at hb; exact hb (by simpa using q)
      rw [if_neg hb'] at h'
      have hd3 : isLvl3 d := by unfold isLvl3; false_or_by_contra; rename_i q; exact hb' (.inr (.inr (by simpa using q)))
      refine J.cons (J.ExprS (J.P0 hK rfl px (mTake hK) (c_take hK px (h'.call fun tk s' H' px' k' h'' a => ?_)).clUp))
      refine J.cons (J.Return (J.ItemT (J.Call (J.Nglob (by rw [hK]; k_is) (.ref 98) ⟨_, rfl, kok (by rw [hK]; k_is), J.Lcons (J.Nloc rfl (J.Lnil ?_))⟩))))
      refine (c_level hK hd3 (J.Cint ⟨_, 0, 0, _, rfl, rfl, by decide, by decide, rfl, rfl, ?_⟩)).clUp
      exact h''.fin px' k'
  · rw [e1, if_pos rfl]
    rw [e2] at h
    exact J.cons (J.ExprS (J.PF hK rfl px h.bad))
end Mine

namespace Mine
variable {G : Cfg} {C : Addr} {H H₁ : Hp} {Q : AV → Hp → Prop} {E : Str → Prop} {P : PA} {s s₁ : PS0} {l : Addr} {ao : AO}

noncomputable abbrev strL (ws : List (List Nat)) : List AV := ws.map fun w => AV.str (S w)
theorem strL_add (ws : List (List Nat)) (w : List Nat) : strL ws ++ [.str (S w)] = strL (ws ++ [w]) := by simp [strL]
theorem len_beq (n : Nat) : ((n : Int) == 1) = (n == 1) := by rw [Bool.eq_iff_iff]; simp; omega

set_option autoImplicit false in
inductive IvQ6_1 (P : PA) (seq : Bool) (l : Addr) (H : Hp) (w : List Nat) (R : List (List Nat) × Bool × Int → PS0 → Hp → Prop) (E : Str → Prop) (σ' : St) : Prop
  | mk (init : Int) (s' : PS0) (H' : Hp) (h1 : σ' = ⟨[("parser", .ref P.x), ("sequential", .bool seq), ("ports", .ref l), ("init", .int init)], H'⟩) (h2 : PX H' P s') (h3 : KeepS P H H') (h4 : H' l = some (.list (strL [w]))) (h5 : PR P H ((pAnsiMore 10 [w]).bind (fun ports => (pExpectOp [41]).bind fun _ => (pExpectOp [59]).bind fun _ => .ret (ports, seq, init)) s') R E)
set_option autoImplicit false in
inductive IvQ6_2 (P : PA) (seq : Bool) (l : Addr) (init : Int) (H : Hp) (R : List (List Nat) × Bool × Int → PS0 → Hp → Prop) (E : Str → Prop) (σ' : St) : Prop
  | mk (ports : List (List Nat)) (s' : PS0) (H' : Hp) (h1 : σ' = ⟨[("parser", .ref P.x), ("sequential", .bool seq), ("ports", .ref l), ("init", .int init)], H'⟩) (h2 : PX H' P s') (h3 : KeepS P H H') (h4 : H' l = some (.list (strL ports))) (h5 : ports.length ≤ 11) (h6 : PR P H (((pExpectOp [41]).bind fun _ => (pExpectOp [59]).bind fun _ => .ret (ports, seq, init)) s') R E)
set_option autoImplicit false in
inductive IvQ6_3 (P : PA) (seq : Bool) (l : Addr) (init : Int) (H : Hp) (R : List (List Nat) × Bool × Int → PS0 → Hp → Prop) (E : Str → Prop) (n : Nat) (σ' : St) : Prop
  | mk (ports : List (List Nat)) (s' : PS0) (H' : Hp) (h1 : σ' = ⟨[("parser", .ref P.x), ("sequential", .bool seq), ("ports", .ref l), ("init", .int init)], H'⟩) (h2 : PX H' P s') (h3 : KeepS P H H') (h4 : H' l = some (.list (strL ports))) (h5 : ports.length + n ≤ 11) (h6 : PR P H ((pAnsiMore n ports).bind (fun ports => (pExpectOp [41]).bind fun _ => (pExpectOp [59]).bind fun _ => .ret (ports, seq, init)) s') R E)
set_option autoImplicit false in
inductive IvQ6_4 (P : PA) (seq : Bool) (l : Addr) (init : Int) (H : Hp) (ports : List (List Nat)) (n : Nat) (R : List (List Nat) × Bool × Int → PS0 → Hp → Prop) (E : Str → Prop) (σ' : St) : Prop
  | mk (s' : PS0) (H' : Hp) (h1 : σ' = ⟨[("parser", .ref P.x), ("sequential", .bool seq), ("ports", .ref l), ("init", .int init)], H'⟩) (h2 : PX H' P s') (h3 : KeepS P H H') (h4 : H' l = some (.list (strL ports))) (h5 : PR P H ((pExpectId.bind fun w => (pAnsiMore n (ports ++ [w])).bind (fun ports => (pExpectOp [41]).bind fun _ => (pExpectOp [59]).bind fun _ => .ret (ports, seq, init))) s') R E)
theorem c_ansi (hK : G.K = KK G.w.params) (px : PX H P s) (h : PR P H (pAnsi s) (fun r s' H' => ∀ l, r.1.length ≤ 11 → H' l = some (.list (strL r.1)) → H l = none → Q (.tup [.ref l, .bool r.2.1, .int r.2.2]) H') E) : Fn G SE 11 (.ref 56) [.ref P.x] H Q E := by
  refine Fn.body (ab := [("parser", .ref P.x)]) (by rw [hK]; k_is) (by rw [hK]; k_is) (fun s I ws X hv => bind1 hv fun _ => BindsTo.of_eq rfl) rfl (fun L' => ?_)
  generalize hR : (fun (r : List (List Nat) × Bool × Int) (s' : PS0) (H' : Hp) => ∀ l, r.1.length ≤ 11 → H' l = some (.list (strL r.1)) → H l = none → Q (.tup [.ref l, .bool r.2.1, .int r.2.2]) H') = R at h
  unfold pAnsi at h
  refine J.cons (J.ExprS (J.PS kOutput w_output hK rfl px (mExpKey hK) (c_expKey hK px (h.call fun _ s1 H1 px1 k1 h1 => ?_)).clUp))
  refine J.cons (J.AssignN (J.PS kReg w_reg hK rfl px1 (mAccKey hK) (c_accKey hK px1 (h1.call fun seq s2 H2 px2 k2 h2 => ?_)).clUp))
  refine J.cons (J.AssignN (J.ListD (J.Lcons (J.P0 hK rfl px2 (mExpId hK) (c_expId hK px2 (h2.call fun w s3 H3 px3 k3 h3 => J.Lnil ⟨by simp, fun l hl => ?_⟩)).clUp))))
  have o := px3.off hl
  have K3 := (k1.trans k2).trans k3
  have hlH : H l = none := K3.none o hl
  have px3' : PX (H3.set l (.list (strL [w]))) P s3 := px3.set o
  have K3' : KeepS P H (H3.set l (.list (strL [w]))) := K3.set hlH
  have l3 : (H3.set l (.list (strL [w]))) l = some (.list (strL [w])) := Hp.set_same
  refine J.cons (J.AssignN (J.Cint ?_))
  show JS G SE _ _ _ ⟨_, H3.set l (.list (strL [w]))⟩ _ E
  generalize H3.set l (.list (strL [w])) = H4 at px3' K3' l3
  refine J.consN (P' := IvQ6_1 P seq l H w R E) ?_ ?_
  · cases seq with
    | false =>
      refine J.If (J.TAnd (J.Tval (J.Nloc rfl ⟨_, rfl, ?_⟩)))
      rw [if_neg (by decide), if_neg (by decide)]
      exact J.nil ⟨rfl, 3, s3, H4, rfl, px3', K3', l3, h3⟩
    | true =>
      refine J.If (J.TAnd (J.Tval (J.Nloc rfl ⟨_, rfl, ?_⟩)))
      rw [if_pos rfl]
      rw [if_pos rfl, bind_bind] at h3
      refine J.TAnd (J.Tval (J.PS [61] rfl hK rfl px3' (mAccOp hK) (c_accOp hK px3' (h3.call fun b s4 H5 px4 k4 h4 => ⟨_, rfl, ?_⟩)).clUp))
      cases b with
      | false =>
        rw [if_neg (by decide), if_neg (by decide)]
        exact J.nil ⟨rfl, 3, s4, H5, rfl, px4, K3'.trans k4, k4.some o l3, h4⟩
      | true =>
        rw [if_pos rfl]
        refine J.TAndNil ?_
        rw [if_pos rfl]
        refine J.cons (J.AssignN (J.Call (J.Nglob (by rw [hK]; k_is) (.ref 70) ⟨_, rfl, kok (by rw [hK]; k_is), J.Lcons (J.Nloc rfl (J.Lnil (c_initial hK px4 (h4.call fun init s5 H6 px5 k5 h5 => ?_)).clUp))⟩)))
        exact J.nil ⟨rfl, init, s5, H6, rfl, px5, (K3'.trans k4).trans k5, k5.some o (k4.some o l3), h5⟩
  · rintro _ ⟨init, s4, H5, rfl, px4, K4, l4, h4⟩
    refine J.consN (P' := IvQ6_2 P seq l init H R E) ?_ ?_
    · refine J.While (IvQ6_3 P seq l init H R E) 10 ⟨[w], s4, H5, rfl, px4, K4, l4, by simp, h4⟩ (fun n σ' hI => ?_)
      obtain ⟨ports, s5, H6, rfl, px5, K5, l5, hn, h5⟩ := hI
      cases n with
      | zero => exact h5.elim
      | succ n =>
        unfold pAnsiMore at h5
        rw [bind_bind] at h5
        refine J.Tval (J.PS [44] rfl hK rfl px5 (mAccOp hK) (c_accOp hK px5 (h5.call fun b s6 H7 px6 k6 h6 => ⟨_, rfl, ?_⟩)).clUp)
        cases b with
        | false => rw [if_neg (by decide)]; exact J.nil ⟨rfl, ports, s6, H7, rfl, px6, K5.trans k6, k6.some o l5, by omega, h6⟩
        | true =>
          rw [if_pos rfl]
          rw [if_pos rfl, bind_bind] at h6
          refine J.consN (P' := IvQ6_4 P seq l init H ports n R E) ?_ ?_
          · refine J.If (J.TAnd (J.TNot (J.Tval (J.PS kInput w_input hK rfl px6 (mAccKey hK) (c_accKey hK px6 (h6.call fun i s7 H8 px7 k7 h7 => ⟨_, rfl, ?_⟩)).clUp))))
            cases i with
            | true =>
              rw [if_neg (by decide), if_neg (by decide)]
              rw [Bool.not_true, Bool.false_and, if_neg (by decide), bind_bind] at h7
              exact J.nil ⟨rfl, s7, H8, rfl, px7, (K5.trans k6).trans k7, k7.some o (k6.some o l5), h7⟩
            | false =>
              rw [Bool.not_false, if_pos rfl]
              rw [Bool.not_false, Bool.true_and] at h7
              refine J.TAnd (J.TCmp (J.Call (J.Nbi (by rw [hK]; k_is) rfl (by decide) (.bi _) ⟨_, rfl, rfl, J.Lcons (J.Nloc rfl (J.Lnil (Cl.lenL (k7.some o (k6.some o l5)) (by simp [sizeLine_eq]; omega) (J.Cint ⟨_, .eqI _ _, ?_⟩))))⟩)))
              rw [List.length_map, len_beq]
              refine ite_both (fun hb => J.TAndNil ?_) (fun hb => ?_)
              · rw [if_pos rfl]
                rw [hb, if_pos rfl] at h7
                exact J.cons (J.ExprS (J.PF hK rfl px7 (show E "primitive_ports" from h7)))
              · rw [if_neg (by decide)]
                rw [hb, if_neg (by decide), bind_bind] at h7
                exact J.nil ⟨rfl, s7, H8, rfl, px7, (K5.trans k6).trans k7, k7.some o (k6.some o l5), h7⟩
          · rintro _ ⟨s7, H8, rfl, px7, K7, l7, h7⟩
            refine J.cons (J.ExprS (J.MethL PySem.F.slot_list_append PySem.F.type_list_append (J.Nloc rfl ⟨l, _, rfl, l7, J.Lcons (J.P0 hK rfl px7 (mExpId hK) (c_expId hK px7 (h7.call fun w' s8 H9 px8 k8 h8 => J.Lnil (Cl.append (k8.some o l7) (by simp [sizeLine_eq]; omega) ?_))).clUp)⟩)))
            rw [strL_add]
            exact J.nil ⟨n, Nat.lt_succ_self n, ports ++ [w'], s8, _, rfl, px8.set o, (K7.trans k8).set hlH, Hp.set_same, by simp; omega, h8⟩
    · rintro _ ⟨ports, s5, H6, rfl, px5, K5, l5, hn5, h5⟩
      refine J.cons (J.ExprS (J.PS [41] rfl hK rfl px5 (mExpOp hK) (c_expOp hK px5 (h5.call fun _ s6 H7 px6 k6 h6 => ?_)).clUp))
      refine J.cons (J.ExprS (J.PS [59] rfl hK rfl px6 (mExpOp hK) (c_expOp hK px6 (h6.call fun _ s7 H8 px7 k7 h7 => ?_)).clUp))
      refine J.cons (J.Return (J.TupleD (J.Lcons (J.Nloc rfl (J.Lcons (J.Nloc rfl (J.Lcons (J.Nloc rfl (J.Lnil ⟨by simp, ?_⟩)))))))))
      have q := h7.fin px7 ((K5.trans k6).trans k7)
      rw [← hR] at q
      exact q l hn5 (k7.some o (k6.some o l5)) hlH
end Mine

namespace Mine
-- lists of texts, compared
noncomputable def strD (xs : List Str) : PyData := .list (xs.map .str)
theorem eqvAll_str : ∀ a b : List Str, PyData.eqvAll (a.map .str) (b.map .str) = decide (a = b)
  | [], [] => by simp [PyData.eqvAll]
  | [], _ :: _ => by simp [PyData.eqvAll]
  | _ :: _, [] => by simp [PyData.eqvAll]
  | x :: a, y :: b => by
    simp only [List.map_cons, PyData.eqvAll, PyData.eqv]
    rw [eqvAll_str a b, Bool.eq_iff_iff]; simp
theorem eqv_strD (a b : List Str) : PyData.eqv (strD a) (strD b) = decide (a = b) := by
  unfold strD; simp only [PyData.eqv]; exact eqvAll_str a b
theorem strOk_S {w : List Nat} (h : ∀ c ∈ w, c < 128) : PyData.strOk (S w) = true := by
  simp only [PyData.strOk, S, List.all_toArray, List.all_eq_true, decide_eq_true_eq]
  intro c hc; have := h c hc; omega
theorem canLayAll_S : ∀ {xs : List (List Nat)}, (∀ w ∈ xs, ∀ c ∈ w, c < 128) → PyData.canLayAll0 ((xs.map S).map .str) = true
  | [], _ => by simp [PyData.canLayAll0]
  | w :: xs, h => by
    simp only [List.map_cons, PyData.canLayAll0, PyData.canLay0, Bool.and_eq_true]
    exact ⟨strOk_S (h w (.head _)), canLayAll_S fun w hw => h w (.tail _ hw)⟩
theorem depthAll_str : ∀ xs : List Str, PyData.depthAll (xs.map .str) = 0
  | [] => by simp [PyData.depthAll]
  | x :: xs => by simp [PyData.depthAll, PyData.depth, depthAll_str xs]
theorem shaped_strD {xs : List (List Nat)} (h : ∀ w ∈ xs, ∀ c ∈ w, c < 128) : SeqAt.shaped (strD (xs.map S)) = true := by
  unfold SeqAt.shaped strD
  simp only [PyData.canLay0, PyData.depth, depthAll_str, canLayAll_S h]; rfl
theorem shaped_perm {xs : List (List Nat)} {ss : List Str} (hp : ss.Perm (xs.map S)) (h : ∀ w ∈ xs, ∀ c ∈ w, c < 128) : SeqAt.shaped (strD ss) = true := by
  have ok : ∀ x ∈ ss, PyData.strOk x = true := fun x hx => by
    obtain ⟨w, hw, rfl⟩ := List.mem_map.mp (hp.subset hx)
    exact strOk_S (h w hw)
  have key : ∀ ss : List Str, (∀ x ∈ ss, PyData.strOk x = true) → PyData.canLayAll0 (ss.map .str) = true := by
    intro ss
    induction ss with
    | nil => intro _; simp [PyData.canLayAll0]
    | cons x ss ih => intro h; simp only [List.map_cons, PyData.canLayAll0, PyData.canLay0, Bool.and_eq_true]; exact ⟨h x (.head _), ih fun y hy => h y (.tail _ hy)⟩
  unfold SeqAt.shaped strD
  simp only [PyData.canLay0, PyData.depth, depthAll_str, key ss ok]; rfl
theorem ascW_ok {l : List (List Nat)} (h : ascW l = true) : l.length < 64 ∧ ∀ w ∈ l, ∀ c ∈ w, c < 128 := by
  unfold ascW at h
  rw [Bool.and_eq_true, decide_eq_true_eq, List.all_eq_true] at h
  exact ⟨h.1, fun w hw c hc => by have := h.2 w hw; rw [List.all_eq_true] at this; exact of_decide_eq_true (this c hc)⟩
theorem rising_pw : ∀ (r : List Str) (p : Str), risingS p r = true → (p :: r).Pairwise fun a b => a.cps.toList ≤ b.cps.toList
  | [], p, _ => by simp
  | x :: r, p, h => by
    simp only [risingS, Bool.and_eq_true, Bool.not_eq_true'] at h
    have h1 : p.cps.toList ≤ x.cps.toList := by
      have := h.1; rw [ltCps_eq] at this; exact List.not_lt.mp (of_decide_eq_false this)
    have ih := rising_pw r x h.2
    refine List.Pairwise.cons (fun y hy => ?_) ih
    rcases List.mem_cons.mp hy with rfl | hy
    · exact h1
    · exact List.le_trans h1 (List.rel_of_pairwise_cons ih hy)
theorem sorted_pw : ∀ xs : List Str, sortedS xs = true → xs.Pairwise fun a b => a.cps.toList ≤ b.cps.toList
  | [], _ => .nil
  | x :: r, h => rising_pw r x h
theorem sorted_eq {a b : List Str} (ha : sortedS a = true) (hb : sortedS b = true) (h : a.Perm b) : a = b :=
  List.Perm.eq_of_pairwise (fun x y _ _ h1 h2 => by
    have := List.le_antisymm h1 h2
    obtain ⟨x⟩ := x; obtain ⟨y⟩ := y
    simpa using this) (sorted_pw a ha) (sorted_pw b hb) h
theorem perm_S {a b : List (List Nat)} : (a.map S).Perm (b.map S) ↔ a.Perm b := by
  constructor
  · intro h
    have key : ∀ l : List (List Nat), (l.map S).map (fun x : Str => x.cps.toList) = l := fun l => by rw [List.map_map]; simp [S, Function.comp_def]
    have := h.map (fun x : Str => x.cps.toList)
    rw [key, key] at this; exact this
  · exact fun h => h.map S
theorem sorted_same {a b : List (List Nat)} {a' b' : List Str} (ha : a'.Perm (a.map S)) (hb : b'.Perm (b.map S)) (sa : sortedS a' = true) (sb : sortedS b' = true) : decide (a' = b') = a.isPerm b := by
  rw [Bool.eq_iff_iff, decide_eq_true_eq, List.isPerm_iff]
  constructor
  · rintro rfl; exact perm_S.mp (ha.symm.trans hb)
  · intro h; exact sorted_eq sa sb (ha.trans ((perm_S.mpr h).trans hb.symm))
end Mine

namespace Mine
variable {G : Cfg} {C : Addr} {H H₁ : Hp} {Q : AV → Hp → Prop} {E : Str → Prop} {P : PA} {s s₁ : PS0} {l : Addr} {ao : AO}

theorem tok_bind {α : Type} (f : Tk → PM α) (s : PS0) : (pTok.bind f) s = f s.1 s := rfl
theorem strL_S (ws : List (List Nat)) : strL ws = (ws.map S).map .str := by rw [List.map_map]; rfl
theorem lookup_app {x : Str} {v : AV} {r : List (Str × AV)} : ∀ {l : List (Str × AV)}, l.lookup x = some v → (l ++ r).lookup x = some v := by
  intro l h; rw [List.lookup_append, h]; rfl
noncomputable abbrev dLoc (lp l : Addr) (x : Addr) (seq : Bool) (init : Int) : List (Str × AV) := [("ports", .ref lp), ("parser", .ref x), ("sequential", .bool seq), ("init", .int init), ("declared", .ref l)]
theorem ADs.strs {H : Hp} : ∀ xs : List Str, ADs H (xs.map .str) (xs.map .str)
  | [] => .nil
  | x :: xs => .cons (.str x) (ADs.strs xs)
set_option autoImplicit false in
inductive IvQ7_1 (lp : Addr) (l : Addr) (P : PA) (H : Hp) (fin : Bool × Int × List (List Nat) → PM (Bool × Int)) (R : Bool × Int → PS0 → Hp → Prop) (E : Str → Prop) (σ' : St) : Prop
  | mk (seq : Bool) (init : Int) (decl : List (List Nat)) (s' : PS0) (H' : Hp) (h1 : σ' = ⟨dLoc lp l P.x seq init, H'⟩) (h2 : PX H' P s') (h3 : KeepS P H H') (h4 : H' l = some (.list (strL decl))) (h5 : decl.length ≤ 200) (h6 : PR P H (fin (seq, init, decl) s') R E)
set_option autoImplicit false in
inductive IvQ7_2 (lp : Addr) (l : Addr) (P : PA) (H : Hp) (p0 : List Nat) (fin : Bool × Int × List (List Nat) → PM (Bool × Int)) (R : Bool × Int → PS0 → Hp → Prop) (E : Str → Prop) (n : Nat) (σ' : St) : Prop
  | mk (seq : Bool) (init : Int) (decl : List (List Nat)) (s' : PS0) (H' : Hp) (h1 : σ' = ⟨dLoc lp l P.x seq init, H'⟩) (h2 : PX H' P s') (h3 : KeepS P H H') (h4 : H' l = some (.list (strL decl))) (h5 : decl.length + 12 * n ≤ 200) (h6 : PR P H ((pDecls p0 n seq init decl).bind fin s') R E)
set_option autoImplicit false in
inductive IvQ7_3 (lp : Addr) (l : Addr) (P : PA) (H : Hp) (n : Nat) (p0 : List Nat) (fin : Bool × Int × List (List Nat) → PM (Bool × Int)) (R : Bool × Int → PS0 → Hp → Prop) (E : Str → Prop) (σ' : St) : Prop
  | mk (r : Bool × Int × List (List Nat)) (s' : PS0) (H' : Hp) (h1 : σ' = ⟨dLoc lp l P.x r.1 r.2.1, H'⟩) (h2 : PX H' P s') (h3 : KeepS P H H') (h4 : H' l = some (.list (strL r.2.2))) (h5 : r.2.2.length + 12 * n ≤ 200) (h6 : PR P H ((((pExpectOp [59]).bind fun _ => pDecls p0 n r.1 r.2.1 r.2.2).bind fin) s') R E)
set_option autoImplicit false in
inductive IvQ7_5 (lp : Addr) (l : Addr) (P : PA) (seq : Bool) (init : Int) (H : Hp) (n : Nat) (p0 : List Nat) (fin : Bool × Int × List (List Nat) → PM (Bool × Int)) (R : Bool × Int → PS0 → Hp → Prop) (E : Str → Prop) (m : Nat) (σ' : St) : Prop
  | mk (d : List (List Nat)) (s' : PS0) (H' : Hp) (h1 : σ' = ⟨dLoc lp l P.x seq init, H'⟩) (h2 : PX H' P s') (h3 : KeepS P H H') (h4 : H' l = some (.list (strL d))) (h5 : d.length + m + 12 * n ≤ 200) (h6 : PR P H ((pMore m d).bind (fun d => (PM.ret (seq, init, d)).bind fun r => ((pExpectOp [59]).bind fun _ => pDecls p0 n r.1 r.2.1 r.2.2).bind fin) s') R E)
set_option autoImplicit false in
inductive IvQ7_6 (lp : Addr) (l : Addr) (P : PA) (seq : Bool) (init : Int) (H : Hp) (decl : List (List Nat)) (p0 : List Nat) (n : Nat) (fin : Bool × Int × List (List Nat) → PM (Bool × Int)) (R : Bool × Int → PS0 → Hp → Prop) (E : Str → Prop) (σ' : St) : Prop
  | mk (c : Bool) (s' : PS0) (H' : Hp) (h1 : σ' = ⟨dLoc lp l P.x (seq || c) init, H'⟩) (h2 : PX H' P s') (h3 : KeepS P H H') (h4 : H' l = some (.list (strL decl))) (h5 : PR P H ((pExpectId.bind fun w => if w ≠ p0 then PM.fail "primitive_ports" else
                  (if (seq || c) = true then (pAcceptOp [61]).bind fun e => if e = true then pInitial else PM.ret init else PM.ret init).bind fun init' => PM.ret (seq || c, init', decl ++ [w])).bind (fun r => ((pExpectOp [59]).bind fun _ => pDecls p0 n r.1 r.2.1 r.2.2).bind fin) s') R E)
set_option maxHeartbeats 4000000 in
theorem c_decls (hK : G.K = KK G.w.params) (px : PX H P s) {lp : Addr} {p0 : List Nat} {more : List (List Nat)} (hp : H lp = some (.list (strL (p0 :: more)))) (op : Off P lp)
    (h : PR P H (pPortDecls (p0 :: more) s) (fun r s' H' => Q (.tup [.bool r.1, .int r.2]) H') E) : Fn G SE 11 (.ref 63) [.ref P.x, .ref lp] H Q E := by
  refine Fn.body (ab := [("parser", .ref P.x), ("ports", .ref lp)]) (by rw [hK]; k_is) (by rw [hK]; k_is) (fun s I ws X hv => bind2 hv fun _ _ => BindsTo.of_eq rfl) rfl (fun L' => ?_)
  generalize hR : (fun (r : Bool × Int) (s' : PS0) (H' : Hp) => Q (.tup [.bool r.1, .int r.2]) H') = R at h
  unfold pPortDecls at h
  dsimp only at h
  generalize hfin : (fun r : Bool × Int × List (List Nat) => if (!(ascW r.2.2 && ascW (p0 :: more))) = true then PM.out else if p0 ∉ r.2.2 ∨ ¬ (r.2.2.isPerm (p0 :: more)) = true then PM.fail "primitive_ports" else PM.ret (r.1, r.2.1)) = fin at h
  refine J.cons (J.AssignN (J.Cbool (J.cons (J.AssignN (J.Cint (J.cons (J.AssignN (J.ListD (J.Lnil ⟨by simp, fun l hl => ?_⟩)))))))))
  have hl : H l = none := hl
  have o := px.off hl
  have hlp : lp ≠ l := fun q => by rw [← q, hp] at hl; cases hl
  refine J.consN (P' := IvQ7_1 lp l P H fin R E) ?_ ?_
  · refine J.While (IvQ7_2 lp l P H p0 fin R E) 10 ⟨false, 3, [], s, _, rfl, px.set o, KeepS.refl.set hl, Hp.set_same, by simp, h⟩ (fun n σ' hI => ?_)
    obtain ⟨seq, init, decl, s1, H1, rfl, px1, K1, l1, hn, h1⟩ := hI
    cases n with
    | zero => exact h1.elim
    | succ n =>
      unfold pDecls at h1
      rw [bind_bind, tok_bind] at h1
      refine J.thenB (J.TOrB (x := isKey kOutput s1.1) (J.Tval (J.PS kOutput w_output hK rfl px1 (mIsKey hK) (c_isKey hK px1 ⟨_, rfl, rfl, rfl⟩).clUp)) (J.TOrB (x := isKey kInput s1.1) (J.Tval (J.PS kInput w_input hK rfl px1 (mIsKey hK) (c_isKey hK px1 ⟨_, rfl, rfl, rfl⟩).clUp))
        (J.TOrB (x := isKey kReg s1.1) (J.Tval (J.PS kReg w_reg hK rfl px1 (mIsKey hK) (c_isKey hK px1 ⟨_, rfl, rfl, rfl⟩).clUp)) J.TOrZ))) ?_
      rw [Bool.or_false, ← Bool.or_assoc]
      refine ite_both (fun hb => ?_) (fun hb => ?_)
      · rw [hb, Bool.not_true, if_neg (by decide), bind_bind] at h1
        refine J.consN (P' := IvQ7_3 lp l P H n p0 fin R E) ?_ ?_
        · refine J.If (J.Tval (J.PS kInput w_input hK rfl px1 (mAccKey hK) (c_accKey hK px1 (h1.call fun a s2 H2 px2 k2 h2 => ⟨_, rfl, ?_⟩)).clUp))
          rw [bind_bind] at h2
          cases a with
          | true =>
            rw [if_pos rfl]
            rw [if_pos rfl, bind_bind] at h2
            have K2 := K1.trans k2
            have l2 := k2.some o l1
            refine J.cons (J.ExprS (J.MethL PySem.F.slot_list_append PySem.F.type_list_append (J.Nloc rfl ⟨l, _, rfl, l2, J.Lcons (J.P0 hK rfl px2 (mExpId hK) (c_expId hK px2 (h2.call fun w s3 H3 px3 k3 h3 => J.Lnil (Cl.append (k3.some o l2) (by simp [sizeLine_eq]; omega) ?_))).clUp)⟩)))
            rw [strL_add]
            rw [bind_bind] at h3
            refine J.consN (P' := IvQ7_3 lp l P H n p0 fin R E) ?_ (fun σ' q => J.nil ⟨rfl, q⟩)
            refine J.While (IvQ7_5 lp l P seq init H n p0 fin R E) 10 ⟨decl ++ [w], s3, _, rfl, px3.set o, (K2.trans k3).set hl, Hp.set_same, by simp; omega, h3⟩ (fun m σ' hI => ?_)
            obtain ⟨d, s4, H4, rfl, px4, K4, l4, hm, h4⟩ := hI
            cases m with
            | zero => exact h4.elim
            | succ m =>
              unfold pMore at h4
              rw [bind_bind] at h4
              refine J.Tval (J.PS [44] rfl hK rfl px4 (mAccOp hK) (c_accOp hK px4 (h4.call fun b s5 H5 px5 k5 h5 => ⟨_, rfl, ?_⟩)).clUp)
              cases b with
              | false => rw [if_neg (by decide)]; exact J.nil ⟨rfl, (seq, init, d), s5, H5, rfl, px5, K4.trans k5, k5.some o l4, by show d.length + 12 * n ≤ 200; omega, h5⟩
              | true =>
                rw [if_pos rfl]
                rw [if_pos rfl, bind_bind] at h5
                have l5 := k5.some o l4
                refine J.cons (J.ExprS (J.MethL PySem.F.slot_list_append PySem.F.type_list_append (J.Nloc rfl ⟨l, _, rfl, l5, J.Lcons (J.P0 hK rfl px5 (mExpId hK) (c_expId hK px5 (h5.call fun w' s6 H6 px6 k6 h6 => J.Lnil (Cl.append (k6.some o l5) (by simp [sizeLine_eq]; omega) ?_))).clUp)⟩)))
                rw [strL_add]
                exact J.nil ⟨m, Nat.lt_succ_self m, d ++ [w'], s6, _, rfl, px6.set o, ((K4.trans k5).trans k6).set hl, Hp.set_same, by simp; omega, h6⟩
          | false =>
            rw [if_neg (by decide)]
            rw [if_neg (by decide), bind_bind] at h2
            refine J.cons (J.If (J.Tval (J.PS kReg w_reg hK rfl px2 (mAccKey hK) (c_accKey hK px2 (h2.call fun b s3 H3 px3 k3 h3 => ⟨_, rfl, ?_⟩)).clUp)))
            have K3 := (K1.trans k2).trans k3
            have l3 := k3.some o (k2.some o l1)
            cases b with
            | true =>
              rw [if_pos rfl]
              rw [if_pos rfl, bind_bind] at h3
              refine J.cons (J.AssignN (J.Cbool ?_))
              refine J.cons (J.If (J.TCmp (J.P0 hK rfl px3 (mExpId hK) (c_expId hK px3 (h3.call fun w s4 H4 px4 k4 h4 => J.ItemL (J.Nloc rfl (J.Cint ⟨lp, _, 0, _, rfl, rfl, (K3.trans k4).some op hp, by decide, by decide, rfl, _, cne p0 rfl, ?_⟩)))).clUp)))
              refine ite_both (fun hw => ?_) (fun hw => ?_)
              · have hw' : w ≠ p0 := by simpa using hw
                rw [if_pos hw'] at h4
                exact J.cons (J.ExprS (J.PF hK rfl px4 (show E "primitive_ports" from h4)))
              · have hw' : ¬ (w ≠ p0) := by simpa using hw
                rw [if_neg hw'] at h4
                exact J.nil (J.nil (J.nil ⟨rfl, (true, init, decl), s4, H4, rfl, px4, K3.trans k4, k4.some o l3, by show decl.length + 12 * n ≤ 200; omega, h4⟩))
            | false =>
              rw [if_neg (by decide)]
              rw [if_neg (by decide), bind_bind] at h3
              refine J.cons (J.ExprS (J.PS kOutput w_output hK rfl px3 (mExpKey hK) (c_expKey hK px3 (h3.call fun _ s4 H4 px4 k4 h4 => ?_)).clUp))
              rw [bind_bind] at h4
              refine J.consN (P' := IvQ7_6 lp l P seq init H decl p0 n fin R E) ?_ ?_
              · refine J.If (J.Tval (J.PS kReg w_reg hK rfl px4 (mAccKey hK) (c_accKey hK px4 (h4.call fun c s5 H5 px5 k5 h5 => ⟨_, rfl, ?_⟩)).clUp))
                cases c with
                | true =>
                  rw [if_pos rfl]
                  exact J.cons (J.AssignN (J.Cbool (J.nil ⟨rfl, true, s5, H5, by rw [Bool.or_true]; rfl, px5, (K3.trans k4).trans k5, k5.some o (k4.some o l3), h5⟩)))
                | false =>
                  rw [if_neg (by decide)]
                  exact J.nil ⟨rfl, false, s5, H5, by rw [Bool.or_false], px5, (K3.trans k4).trans k5, k5.some o (k4.some o l3), h5⟩
              · rintro _ ⟨c, s5, H5, rfl, px5, K5, l5, h5⟩
                generalize hsq : (seq || c) = sq at h5 ⊢
                rw [bind_bind] at h5
                refine J.cons (J.AssignN (J.P0 hK rfl px5 (mExpId hK) (c_expId hK px5 (h5.call fun w s6 H6 px6 k6 h6 => ?_)).clUp))
                refine J.cons (J.If (J.TCmp (J.Nloc rfl (J.ItemL (J.Nloc rfl (J.Cint ⟨lp, _, 0, _, rfl, rfl, (K5.trans k6).some op hp, by decide, by decide, rfl, _, cne p0 rfl, ?_⟩))))))
                refine ite_both (fun hw => ?_) (fun hw => J.nil ?_)
                · have hw' : w ≠ p0 := by simpa using hw
                  rw [if_pos hw'] at h6
                  exact J.cons (J.ExprS (J.PF hK rfl px6 (show E "primitive_ports" from h6)))
                · have hw' : ¬ (w ≠ p0) := by simpa using hw
                  rw [if_neg hw', bind_bind] at h6
                  have l6 := k6.some o l5
                  have K6 := K5.trans k6
                  refine J.cons (J.ExprS (J.MethL PySem.F.slot_list_append PySem.F.type_list_append (J.Nloc rfl ⟨l, _, rfl, l6, J.Lcons (J.Nloc rfl (J.Lnil (Cl.append l6 (by simp [sizeLine_eq]; omega) ?_)))⟩)))
                  rw [strL_add]
                  have px6' : PX (H6.set l (.list (strL (decl ++ [w])))) P s6 := px6.set o
                  have K6' : KeepS P H (H6.set l (.list (strL (decl ++ [w])))) := K6.set hl
                  have l6' : (H6.set l (.list (strL (decl ++ [w])))) l = some (.list (strL (decl ++ [w]))) := Hp.set_same
                  generalize H6.set l (.list (strL (decl ++ [w]))) = H7 at px6' K6' l6' ⊢
                  have len : (decl ++ [w]).length + 12 * n ≤ 200 := by simp; omega
                  cases sq with
                  | false =>
                    refine J.cons (J.If (J.TAnd (J.Tval (J.Nloc rfl ⟨_, rfl, ?_⟩))))
                    rw [if_neg (by decide), if_neg (by decide)]
                    rw [if_neg (by decide), bind_ret] at h6
                    exact J.weak (σ' := ⟨dLoc lp l P.x false init, H7⟩) (J.nil (J.nil (J.nil ⟨rfl, (false, init, decl ++ [w]), s6, H7, rfl, px6', K6', l6', len, h6⟩))) (fun _ _ e => e) fun x v e => lookup_app e
                  | true =>
                    refine J.cons (J.If (J.TAnd (J.Tval (J.Nloc rfl ⟨_, rfl, ?_⟩))))
                    rw [if_pos rfl]
                    rw [if_pos rfl, bind_bind] at h6
                    refine J.TAnd (J.Tval (J.PS [61] rfl hK rfl px6' (mAccOp hK) (c_accOp hK px6' (h6.call fun e s7 H8 px7 k7 h7 => ⟨_, rfl, ?_⟩)).clUp))
                    cases e with
                    | false =>
                      rw [if_neg (by decide), if_neg (by decide)]
                      rw [if_neg (by decide), bind_ret] at h7
                      exact J.weak (σ' := ⟨dLoc lp l P.x true init, H8⟩) (J.nil (J.nil (J.nil ⟨rfl, (true, init, decl ++ [w]), s7, H8, rfl, px7, K6'.trans k7, k7.some o l6', len, h7⟩))) (fun _ _ e => e) fun x v e => lookup_app e
                    | true =>
                      rw [if_pos rfl]
                      rw [if_pos rfl] at h7
                      refine J.TAndNil ?_
                      rw [if_pos rfl]
                      refine J.cons (J.AssignN (J.Call (J.Nglob (by rw [hK]; k_is) (.ref 70) ⟨_, rfl, kok (by rw [hK]; k_is), J.Lcons (J.Nloc rfl (J.Lnil (c_initial hK px7 (h7.call fun init' s8 H9 px8 k8 h8 => ?_)).clUp))⟩)))
                      exact J.weak (σ' := ⟨dLoc lp l P.x true init', H9⟩) (J.nil (J.nil (J.nil ⟨rfl, (true, init', decl ++ [w]), s8, H9, rfl, px8, (K6'.trans k7).trans k8, k8.some o (k7.some o l6'), len, h8⟩))) (fun _ _ e => e) fun x v e => lookup_app e
        · rintro _ ⟨r, s2, H2, rfl, px2, K2, l2, hr, h2⟩
          rw [bind_bind] at h2
          refine J.cons (J.ExprS (J.PS [59] rfl hK rfl px2 (mExpOp hK) (c_expOp hK px2 (h2.call fun _ s3 H3 px3 k3 h3 => ?_)).clUp))
          exact J.nil ⟨n, Nat.lt_succ_self n, r.1, r.2.1, r.2.2, s3, H3, rfl, px3, K2.trans k3, k3.some o l2, hr, h3⟩
      · rw [hb, Bool.not_false, if_pos rfl] at h1
        exact J.nil ⟨rfl, seq, init, decl, s1, H1, rfl, px1, K1, l1, by omega, h1⟩
  · rintro _ ⟨seq, init, decl, s1, H1, rfl, px1, K1, l1, hn, h1⟩
    rw [← hfin] at h1
    dsimp only at h1
    split at h1
    · exact h1.elim
    rename_i hasc
    have hasc' : ascW decl = true ∧ ascW (p0 :: more) = true := by simpa using hasc
    obtain ⟨a1, a2⟩ := hasc'
    obtain ⟨n1, c1⟩ := ascW_ok a1
    obtain ⟨n2, c2⟩ := ascW_ok a2
    have lp1 := K1.some op hp
    refine J.cons (J.If (J.TOr (J.TCmp (J.ItemL (J.Nloc rfl (J.Cint ⟨lp, _, 0, _, rfl, rfl, lp1, by decide, by decide, rfl, J.Nloc rfl ⟨_, .ninLS _ l (decl.map S) (by rw [← strL_S]; exact l1), ?_⟩⟩))))))
    rw [any_S]
    refine ite_both (fun hc => ?_) (fun hc => ?_)
    · rw [if_pos rfl]
      have hc' : p0 ∉ decl := by simpa using hc
      rw [if_pos (.inl hc')] at h1
      exact J.cons (J.ExprS (J.PF hK rfl px1 (show E "primitive_ports" from h1)))
    · have hc' : p0 ∈ decl := by simpa using hc
      refine J.TOr (J.TCmp (J.Call (J.Nbi (by rw [hK]; k_is) rfl (by decide) (.bi _) ⟨_, rfl, rfl, J.Lcons (J.Nloc rfl (J.Lnil (Cl.sortedL (ss := decl.map S) (by rw [← strL_S]; exact l1) (by simpa using n1) fun b1 ss1 hb1 hp1 hs1 => ?_)))⟩)))
      have hb1 : H1 b1 = none := hb1
      have ob1 := px1.off hb1
      have hlb : lp ≠ b1 := fun q => by rw [← q, lp1] at hb1; cases hb1
      refine J.Call (J.Nbi (by rw [hK]; k_is) rfl (by decide) (.bi _) ⟨_, rfl, rfl, J.Lcons (J.Nloc rfl (J.Lnil (Cl.sortedL (ss := (p0 :: more).map S) ((Hp.set_ne hlb).trans (by rw [← strL_S]; exact lp1)) (by simpa using n2) fun b2 ss2 hb2 hp2 hs2 => ?_)))⟩)
      have px2 := px1.set (ao := .list (ss1.map .str)) ob1
      have hb2 : (H1.set b1 (.list (ss1.map .str))) b2 = none := hb2
      have ob2 := px2.off hb2
      have hbb : b1 ≠ b2 := fun q => by rw [← q, Hp.set_same] at hb2; cases hb2
      have hb2' : H1 b2 = none := by rw [Hp.set_ne (Ne.symm hbb)] at hb2; exact hb2
      have px3 := px2.set (ao := .list (ss2.map .str)) ob2
      have K3 := (K1.set (l := b1) (ao := .list (ss1.map .str)) (K1.none ob1 hb1)).set (l := b2) (ao := .list (ss2.map .str)) (K1.none ob2 hb2')
      refine ⟨_, .neD (.ref b1) (.ref b2) (strD ss1) (strD ss2) (.list ((Hp.set_ne hbb).trans Hp.set_same) (ADs.strs ss1)) (.list Hp.set_same (ADs.strs ss2)) (shaped_perm hp1 c1) (shaped_perm hp2 c2), ?_⟩
      rw [eqv_strD, sorted_same hp1 hp2 hs1 hs2]
      refine ite_both (fun hq => ?_) (fun hq => J.TOrNil ?_)
      · rw [if_pos rfl]
        have hq' : ¬ (decl.isPerm (p0 :: more)) = true := by simpa using hq
        rw [if_pos (.inr hq')] at h1
        exact J.cons (J.ExprS (J.PF hK rfl px3 (show E "primitive_ports" from h1)))
      · rw [if_neg (by decide)]
        have hq' : (decl.isPerm (p0 :: more)) = true := by simpa using hq
        rw [if_neg (by rw [not_or]; exact ⟨fun q => q hc', fun q => q hq'⟩)] at h1
        refine J.nil (J.cons (J.Return (J.TupleD (J.Lcons (J.Nloc rfl (J.Lcons (J.Nloc rfl (J.Lnil ⟨by simp, ?_⟩))))))))
        have q := h1.fin px3 K3
        rw [← hR] at q
        exact q
end Mine

namespace Mine
variable {G : Cfg} {C : Addr} {H H₁ : Hp} {Q : AV → Hp → Prop} {E : Str → Prop} {P : PA} {s s₁ : PS0} {l : Addr} {ao : AO}

theorem okW_ok {a w : List Nat} (h : okW a w = true) : a.length + w.length ≤ 10000 ∧ ∀ c ∈ w, c < 128 := by
  unfold okW at h
  rw [Bool.and_eq_true, decide_eq_true_eq, List.all_eq_true] at h
  exact ⟨h.1, fun c hc => of_decide_eq_true (h.2 c hc)⟩
theorem fits2 {a w : List Nat} (h : a.length + w.length ≤ 10000) : (S a).length + (S w).length ≤ sizeLine := by rw [S_len, S_len, sizeLine_eq]; omega

noncomputable abbrev fLoc (x : Addr) (acc : List Nat) : List (Str × AV) := [("parser", .ref x), ("text", .str (S acc))]
set_option autoImplicit false in
inductive IvQ8_1 (P : PA) (H : Hp) (R : List Nat → PS0 → Hp → Prop) (E : Str → Prop) (n : Nat) (σ' : St) : Prop
  | mk (acc : List Nat) (s' : PS0) (H' : Hp) (h1 : σ' = ⟨fLoc P.x acc, H'⟩) (h2 : PX H' P s') (h3 : KeepS P H H') (h4 : PR P H (pField n acc s') R E)
set_option autoImplicit false in
inductive IvQ8_2 (P : PA) (tk : Tk) (a : Nat) (H1 : Hp) (H : Hp) (n : Nat) (rest : List Nat) (R : List Nat → PS0 → Hp → Prop) (E : Str → Prop) (σ' : St) : Prop
  | mk (acc' : List Nat) (h1 : σ' = ⟨[("parser", .ref P.x), ("text", .str (S acc')), ("token", tokAV tk a)], H1⟩) (h2 : PR P H ((pTake.bind fun _ => pField n acc') (tk, rest)) R E)
set_option maxHeartbeats 4000000 in
theorem c_field (hK : G.K = KK G.w.params) (px : PX H P s) {n : Nat} (h : PR P H (pField n [] s) (fun t s' H' => Q (.str (S t)) H') E) : Fn G SE 9 (.ref 84) [.ref P.x] H Q E := by
  refine Fn.body (ab := [("parser", .ref P.x)]) (by rw [hK]; k_is) (by rw [hK]; k_is) (fun s I ws X hv => bind1 hv fun _ => BindsTo.of_eq rfl) rfl (fun L' => ?_)
  generalize hR : (fun (t : List Nat) (s' : PS0) (H' : Hp) => Q (.str (S t)) H') = R at h
  refine J.cons (J.AssignN (J.Cstr ?_))
  refine J.cons (J.While (IvQ8_1 P H R E) n ⟨[], s, H, rfl, px, .refl, h⟩ (fun n σ' hI => ?_))
  obtain ⟨acc, s1, H1, rfl, px1, K1, h1⟩ := hI
  cases n with
  | zero => exact h1.elim
  | succ n =>
    unfold pField at h1
    rw [tok_bind] at h1
    refine J.thenB (J.TAndB (x := !isOp [58] s1.1) (J.TNot (J.Tval (J.PS [58] rfl hK rfl px1 (mIsOp hK) (c_isOp hK px1 ⟨_, rfl, rfl, rfl⟩).clUp))) (J.TAndB (x := !isOp [59] s1.1) (J.TNot (J.Tval (J.PS [59] rfl hK rfl px1 (mIsOp hK) (c_isOp hK px1 ⟨_, rfl, rfl, rfl⟩).clUp))) J.TAndZ)) ?_
    rw [Bool.and_true, ← Bool.not_or]
    refine ite_both (fun hb => ?_) (fun hb => ?_)
    · have hb' : (isOp [58] s1.1 || isOp [59] s1.1) = false := by simpa using hb
      rw [hb', if_neg (by decide)] at h1
      refine J.cons (J.AssignN (J.Ptok hK rfl px1 fun a => ?_))
      obtain ⟨tk, rest⟩ := s1
      refine J.consN (P' := IvQ8_2 P tk a H1 H n rest R E) ?_ ?_
      · cases tk with
        | key w =>
          refine J.If (J.TAnd (J.TCmp (J.Tkind hK (J.Nloc rfl ⟨_, a, rfl, J.Cstr ⟨_, .eqS _ _, ?_⟩⟩))))
          rw [kind_num]
          refine J.cons (J.If (J.TCmp (J.Tkind hK (J.Nloc rfl ⟨_, a, rfl, J.Cstr ⟨_, .eqS _ _, ?_⟩⟩))))
          rw [kind_id]
          refine J.cons (J.If (J.TCmp (J.Tkind hK (J.Nloc rfl ⟨_, a, rfl, J.Cstr ⟨_, .eqS _ _, ?_⟩⟩))))
          rw [kind_op]
          exact J.cons (J.ExprS (J.PF hK rfl px1 (show E "bad_table" from h1)))
        | eof =>
          refine J.If (J.TAnd (J.TCmp (J.Tkind hK (J.Nloc rfl ⟨_, a, rfl, J.Cstr ⟨_, .eqS _ _, ?_⟩⟩))))
          rw [kind_num]
          refine J.cons (J.If (J.TCmp (J.Tkind hK (J.Nloc rfl ⟨_, a, rfl, J.Cstr ⟨_, .eqS _ _, ?_⟩⟩))))
          rw [kind_id]
          refine J.cons (J.If (J.TCmp (J.Tkind hK (J.Nloc rfl ⟨_, a, rfl, J.Cstr ⟨_, .eqS _ _, ?_⟩⟩))))
          rw [kind_op]
          exact J.cons (J.ExprS (J.PF hK rfl px1 (show E "bad_table" from h1)))
        | id w =>
          refine J.If (J.TAnd (J.TCmp (J.Tkind hK (J.Nloc rfl ⟨_, a, rfl, J.Cstr ⟨_, .eqS _ _, ?_⟩⟩))))
          rw [kind_num]
          refine J.cons (J.If (J.TCmp (J.Tkind hK (J.Nloc rfl ⟨_, a, rfl, J.Cstr ⟨_, .eqS _ _, ?_⟩⟩))))
          rw [kind_id]
          have h2 : PR P H ((if okW acc w = true then pTake.bind fun _ => pField n (acc ++ w.map lowC) else PM.out) (.id w, rest)) R E := h1
          by_cases ho : okW acc w = true
          · obtain ⟨o1, o2⟩ := okW_ok ho
            rw [if_pos ho] at h2
            refine J.cons (J.AssignN (J.BinOp (J.Nloc rfl (J.MethS PySem.F.slot_str_lower PySem.F.type_str_lower (J.Tvalue hK (J.Nloc rfl ⟨_, a, rfl, ⟨S w, rfl, J.Lnil (Cl.lower (by rw [S_len]; omega) ⟨_, .addS _ _ ?_, ?_⟩)⟩⟩))))))
            · rw [lower_S w o2]; exact fits2 (by rw [List.length_map]; exact o1)
            · rw [lower_S w o2, S_app]
              exact J.nil (J.nil ⟨rfl, _, rfl, h2⟩)
          · rw [if_neg ho] at h2; exact h2.elim
        | op w =>
          refine J.If (J.TAnd (J.TCmp (J.Tkind hK (J.Nloc rfl ⟨_, a, rfl, J.Cstr ⟨_, .eqS _ _, ?_⟩⟩))))
          rw [kind_num]
          refine J.cons (J.If (J.TCmp (J.Tkind hK (J.Nloc rfl ⟨_, a, rfl, J.Cstr ⟨_, .eqS _ _, ?_⟩⟩))))
          rw [kind_id]
          refine J.cons (J.If (J.TCmp (J.Tkind hK (J.Nloc rfl ⟨_, a, rfl, J.Cstr ⟨_, .eqS _ _, ?_⟩⟩))))
          rw [kind_op]
          have h2 : PR P H ((if okW acc w = true then pTake.bind fun _ => pField n (acc ++ w) else PM.out) (.op w, rest)) R E := h1
          by_cases ho : okW acc w = true
          · obtain ⟨o1, o2⟩ := okW_ok ho
            rw [if_pos ho] at h2
            refine J.cons (J.AssignN (J.BinOp (J.Nloc rfl (J.Tvalue hK (J.Nloc rfl ⟨_, a, rfl, ⟨_, .addS _ _ (fits2 o1), ?_⟩⟩)))))
            rw [S_app]
            exact J.nil (J.nil (J.nil ⟨rfl, _, rfl, h2⟩))
          · rw [if_neg ho] at h2; exact h2.elim
        | num z b d =>
          refine J.If (J.TAnd (J.TCmp (J.Tkind hK (J.Nloc rfl ⟨_, a, rfl, J.Cstr ⟨_, .eqS _ _, ?_⟩⟩))))
          rw [kind_num]
          refine J.TAnd (J.TCmp (J.ItemT (J.Tvalue hK (J.Nloc rfl ⟨_, a, rfl, J.Cint ⟨_, 0, 0, .str (S z), rfl, rfl, by decide, by decide, rfl, rfl, J.Cstr ⟨_, ceq [] rfl, ?_⟩⟩⟩))))
          cases z with
          | cons z0 z =>
            refine J.cons (J.If (J.TCmp (J.Tkind hK (J.Nloc rfl ⟨_, a, rfl, J.Cstr ⟨_, .eqS _ _, ?_⟩⟩))))
            rw [kind_id]
            refine J.cons (J.If (J.TCmp (J.Tkind hK (J.Nloc rfl ⟨_, a, rfl, J.Cstr ⟨_, .eqS _ _, ?_⟩⟩))))
            rw [kind_op]
            exact J.cons (J.ExprS (J.PF hK rfl px1 (show E "bad_table" from h1)))
          | nil =>
            refine J.TAnd (J.TCmp (J.ItemT (J.Tvalue hK (J.Nloc rfl ⟨_, a, rfl, J.Cint ⟨_, 1, 1, .str (S b), rfl, rfl, by decide, by decide, rfl, rfl, J.Cstr ⟨_, ceq [] rfl, ?_⟩⟩⟩))))
            cases b with
            | cons b0 b =>
              refine J.cons (J.If (J.TCmp (J.Tkind hK (J.Nloc rfl ⟨_, a, rfl, J.Cstr ⟨_, .eqS _ _, ?_⟩⟩))))
              rw [kind_id]
              refine J.cons (J.If (J.TCmp (J.Tkind hK (J.Nloc rfl ⟨_, a, rfl, J.Cstr ⟨_, .eqS _ _, ?_⟩⟩))))
              rw [kind_op]
              exact J.cons (J.ExprS (J.PF hK rfl px1 (show E "bad_table" from h1)))
            | nil =>
              refine J.TAndNil ?_
              rw [if_pos rfl]
              have h2 : PR P H ((if okW acc d = true then pTake.bind fun _ => pField n (acc ++ d) else PM.out) (.num [] [] d, rest)) R E := h1
              by_cases ho : okW acc d = true
              · obtain ⟨o1, o2⟩ := okW_ok ho
                rw [if_pos ho] at h2
                refine J.cons (J.AssignN (J.BinOp (J.Nloc rfl (J.ItemT (J.Tvalue hK (J.Nloc rfl ⟨_, a, rfl, J.Cint ⟨_, 3, 3, .str (S d), rfl, rfl, by decide, by decide, rfl, rfl, ⟨_, .addS _ _ (fits2 o1), ?_⟩⟩⟩))))))
                rw [S_app]
                exact J.nil ⟨rfl, _, rfl, h2⟩
              · rw [if_neg ho] at h2; exact h2.elim
      · rintro _ ⟨acc', rfl, h2⟩
        refine J.cons (J.ExprS (J.P0 hK rfl px1 (mTake hK) (c_take hK px1 (h2.call fun _ s2 H2 px2 k2 h3 _ => ?_)).clUp))
        exact J.weak (σ' := ⟨fLoc P.x acc', H2⟩) (J.nil ⟨n, Nat.lt_succ_self n, acc', s2, H2, rfl, px2, K1.trans k2, h3⟩) (fun _ _ e => e) fun x v e => lookup_app e
    · have hb' : (isOp [58] s1.1 || isOp [59] s1.1) = true := by simpa only [Bool.not_eq_false'] using hb
      rw [hb', if_pos rfl] at h1
      have q := h1.fin px1 K1
      rw [← hR] at q
      exact J.nil (J.cons (J.Return (J.Nloc rfl q)))

noncomputable def symAV : Sym → AV
  | .one c => .str (S [c])
  | .edge a b => .tup [.str "edge", .str (S [a]), .str (S [b])]
inductive ItC (o iv : AV) (QS : AV → St → Prop) (σ : St) : Prop
  | mk (t : List Nat) (n c : Nat) (h1 : o = .str (S t)) (h2 : iv = .int ((n : Nat) : Int)) (h3 : n ≤ 20000) (h4 : t[n]? = some c) (h5 : QS (.str (S [c])) σ)
theorem J.ItemC {k : Nat} {env : Env} {σ : St} {pos : Pos} {QS : AV → St → Prop} {value i : Expr} (h : JE G C k env value σ (fun o σ₁ => JE G C k env i σ₁ (fun iv σ₂ => ItC o iv QS σ₂) E) E)
    (hs : ∀ a b, subscripted i false a b = operate [a, b] (getItem a b) := by intro _ _; rfl) : JE G C k env (.Subscript value i pos) σ QS E := by
  refine J.ItemS (h.monoQ fun o σ₁ h₁ => h₁.monoQ fun iv σ₂ ⟨t, n, c, e1, e2, e3, e4, q⟩ => ⟨S t, n, c, e1, e2, by omega, by omega, ?_, q⟩) hs
  have hl : n < t.length := (List.getElem?_eq_some_iff.mp e4).1
  have : seqIndex? (n : Int) (S t).length = some n := by
    rw [S_len]; unfold seqIndex?
    have h1 : ¬ ((n : Int) < 0) := by omega
    simp [h1, hl]
  rw [this]
  simpa [S] using e4
theorem lvl_con (a : Nat) : ([[48], [49], [120], [63], [98]] : List (List Nat)).contains [a] = isLevel a := by
  unfold isLevel; rw [Bool.eq_iff_iff]; simp [or_assoc]
theorem sym_in : (Str.ofString "01x?brfpn*").cps.toList = symL := by decide +kernel
theorem syms_edge {a b : Nat} {r : List Nat} : syms (40 :: a :: b :: 41 :: r) = if isLevel a && isLevel b then (syms r).map (.edge a b :: ·) else none := rfl
theorem syms_open0 : syms [40] = none := rfl
theorem syms_open1 {a : Nat} : syms [40, a] = none := rfl
theorem syms_open2 {a b : Nat} : syms [40, a, b] = none := rfl
theorem syms_open3 {a b z : Nat} {r : List Nat} (h : z ≠ 41) : syms (40 :: a :: b :: z :: r) = none := by
  unfold syms; split
  · rename_i q; cases q
  · rename_i q; simp only [List.cons.injEq] at q; exact absurd q.2.2.2.1 h
  · rename_i c r' hx q
    simp only [List.cons.injEq] at q
    obtain ⟨rfl, _⟩ := q
    simp
theorem syms_one {c : Nat} {r : List Nat} (h : c ≠ 40) : syms (c :: r) = if symL.contains c then (syms r).map (.one c :: ·) else none := by
  rw [syms.eq_3]
  · simp [h]
  · intros; simp_all
end Mine

namespace Mine
variable {G : Cfg} {C : Addr} {H H₁ : Hp} {Q : AV → Hp → Prop} {E : Str → Prop} {P : PA} {s s₁ : PS0} {l : Addr} {ao : AO}

theorem drop_get {t : List Nat} {i j : Nat} {r : List Nat} (h : t.drop i = r) : t[i + j]? = r[j]? := by rw [← h, List.getElem?_drop]
theorem ge3 {t : List Nat} {i : Nat} {r : List Nat} (h : t.drop i = r) (hi : i ≤ t.length) : decide ((i : Int) + 3 ≥ ((S t).length : Nat)) = decide (r.length ≤ 3) := by
  rw [S_len, Bool.eq_iff_iff, decide_eq_true_eq, decide_eq_true_eq, ← h, List.length_drop]; omega
noncomputable abbrev yLoc (x l : Addr) (t : List Nat) (i : Nat) : List (Str × AV) := [("text", .str (S t)), ("parser", .ref x), ("symbols", .ref l), ("i", .int i)]
theorem sub_it {H : Hp} {it : Addr} {a b c : AO} (h : H it = none) : ∀ x ao, H x = some ao → ((((H.set it a).set it b).set it c).drop it) x = some ao := fun x ao e => by
  have n : x ≠ it := fun q => by rw [q, h] at e; cases e
  rw [Hp.drop_ne n, Hp.set_ne n, Hp.set_ne n, Hp.set_ne n]; exact e
noncomputable def sAdd (d : List Sym) (o : Option (List Sym)) : Option (List Sym) := o.map (d ++ ·)
theorem sAdd_cons (d : List Sym) (x : Sym) (o : Option (List Sym)) : sAdd d (o.map (x :: ·)) = sAdd (d ++ [x]) o := by cases o <;> simp [sAdd]

theorem pSyms_eq (t : List Nat) (s : PS0) : pSyms t s = if 10000 < t.length then none else match syms t with | some x => some (.ok (x, s)) | none => some (.error "bad_table") := by
  by_cases ht : 10000 < t.length
  · rw [if_pos ht]; exact congrFun (if_pos ht) s
  · rw [if_neg ht]; exact congrFun (if_neg ht) s
set_option autoImplicit false in
inductive IvQ9_1 (P : PA) (l : Addr) (t : List Nat) (s : PS0) (H : Hp) (n : Nat) (σ' : St) : Prop
  | mk (i : Nat) (d : List Sym) (H' : Hp) (h1 : σ' = ⟨yLoc P.x l t i, H'⟩) (h2 : PX H' P s) (h3 : KeepS P H H') (h4 : H' l = some (.list (d.map symAV))) (h5 : i ≤ t.length) (h6 : d.length ≤ i) (h7 : n = t.length - i) (h8 : sAdd d (syms (t.drop i)) = syms t)
set_option maxHeartbeats 4000000 in
theorem c_syms (hK : G.K = KK G.w.params) (px : PX H P s) {t : List Nat} (h : PR P H (pSyms t s) (fun r s' H' => Q (.tup (r.map symAV)) H') E) : Fn G SE 4 (.ref 91) [.ref P.x, .str (S t)] H Q E := by
  rw [pSyms_eq] at h
  by_cases ht : 10000 < t.length
  · rw [if_pos ht] at h; exact h.elim
  rw [if_neg ht] at h
  have htl : ((S t).length : Nat) ≤ sizeLine := by rw [S_len, sizeLine_eq]; omega
  have bad : syms t = none → E "bad_table" := fun e => by rw [e] at h; exact h
  have good : ∀ r, syms t = some r → ∀ H', PX H' P s → KeepS P H H' → Q (.tup (r.map symAV)) H' := fun r e => by rw [e] at h; exact h
  clear h
  refine Fn.body (ab := [("parser", .ref P.x), ("text", .str (S t))]) (by rw [hK]; k_is) (by rw [hK]; k_is) (fun s I ws X hv => bind2 hv fun _ _ => BindsTo.of_eq rfl) rfl (fun L' => ?_)
  refine J.cons (J.AssignN (J.ListD (J.Lnil ⟨by simp, fun l hl => ?_⟩)))
  have hl : H l = none := hl
  have o := px.off hl
  refine J.cons (J.AssignN (J.Cint ?_))
  refine J.cons (J.While (IvQ9_1 P l t s H) (t.length)
    ⟨0, [], _, rfl, px.set o, KeepS.refl.set hl, Hp.set_same, Nat.zero_le _, Nat.le_refl _, rfl, by rw [List.drop_zero]; cases syms t <;> simp [sAdd]⟩ (fun n σ' hI => ?_))
  obtain ⟨i, d, H1, rfl, px1, K1, l1, hi, hd, rfl, hs⟩ := hI
  refine J.TCmp (J.Nloc rfl (J.Call (J.Nbi (by rw [hK]; k_is) rfl (by decide) (.bi _) ⟨_, rfl, rfl, J.Lcons (J.Nloc rfl (J.Lnil (Cl.lenS htl ⟨_, .ltI _ _, ?_⟩)))⟩)))
  rw [S_len]
  by_cases hlt : i < t.length
  · rw [decide_eq_true (by omega), if_pos rfl]
    cases hr : t.drop i with
    | nil => have := List.drop_eq_nil_iff.mp hr; omega
    | cons c r =>
      have g0 : t[i]? = some c := by have := drop_get (j := 0) hr; simpa using this
      rw [hr] at hs
      refine J.cons (J.If (J.TCmp (J.ItemC (J.Nloc rfl (J.Nloc rfl ⟨t, i, c, rfl, rfl, by omega, g0, J.Cstr ⟨_, ceq [40] rfl, ?_⟩⟩)))))
      rw [dec1]
      by_cases hc : c = 40
      · subst hc
        rw [show ((40 : Nat) == 40) = true from rfl, if_pos rfl]
        refine J.consN (P' := fun σ' => σ' = ⟨yLoc P.x l t i, H1⟩ ∧ ∃ a b r', r = a :: b :: 41 :: r') ?_ ?_
        · refine J.If (J.TOr (J.TCmp (J.BinOp (J.Nloc rfl (J.Cint ⟨_, .addI _ _, J.Call (J.Nbi (by rw [hK]; k_is) rfl (by decide) (.bi _) ⟨_, rfl, rfl, J.Lcons (J.Nloc rfl (J.Lnil (Cl.lenS htl ⟨_, .geI _ _, ?_⟩)))⟩)⟩)))))
          rw [ge3 hr hi]
          have short : syms (40 :: r) = none → E "bad_table" := fun e => bad (by rw [← hs, e]; rfl)
          match r, short, hr with
          | [], short, hr => exact J.cons (J.ExprS (J.PF hK rfl px1 (short rfl)))
          | [a], short, hr => exact J.cons (J.ExprS (J.PF hK rfl px1 (short rfl)))
          | [a, b], short, hr => exact J.cons (J.ExprS (J.PF hK rfl px1 (short rfl)))
          | a :: b :: z :: r', short, hr =>
            rw [decide_eq_false (by simp), if_neg (by decide)]
            refine J.TOr (J.TCmp (J.ItemC (J.Nloc rfl (J.BinOp (J.Nloc rfl (J.Cint ⟨_, .addI _ _, ⟨t, i + 3, z, rfl, rfl, by omega, by have := drop_get (j := 3) hr; simpa using this, J.Cstr ⟨_, cne [41] rfl, ?_⟩⟩⟩))))))
            rw [dec1]
            by_cases hz : z = 41
            · subst hz
              rw [show (!((41 : Nat) == 41)) = false from rfl, if_neg (by decide)]
              refine J.TOrNil ?_
              rw [if_neg (by decide)]
              exact J.nil ⟨rfl, rfl, a, b, r', rfl⟩
            · rw [show (!(z == 41)) = true by simp [hz], if_pos rfl, if_pos rfl]
              exact J.cons (J.ExprS (J.PF hK rfl px1 (short (syms_open3 hz))))
        · rintro _ ⟨rfl, a, b, r', rfl⟩
          have g1 : t[i + 1]? = some a := by have := drop_get (j := 1) hr; simpa using this
          have g2 : t[i + 2]? = some b := by have := drop_get (j := 2) hr; simpa using this
          rw [syms_edge] at hs
          have levels : isLevel a = false ∨ isLevel b = false → E "bad_table" := fun e => bad (by rw [← hs, if_neg (by rw [Bool.and_eq_true]; rcases e with e | e <;> simp [e])]; rfl)
          refine J.consN (P' := fun σ' => (∀ x v, (yLoc P.x l t i).lookup x = some v → σ'.loc.lookup x = some v) ∧ (∀ a ao, H1 a = some ao → σ'.H a = some ao) ∧ isLevel a = true ∧ isLevel b = true) ?_ ?_
          · refine J.For (J.TupleD (J.Lcons (J.ItemC (J.Nloc rfl (J.BinOp (J.Nloc rfl (J.Cint ⟨_, .addI _ _, ⟨t, i + 1, a, rfl, rfl, by omega, g1, ?_⟩⟩))))) ))
            refine J.Lcons (J.ItemC (J.Nloc rfl (J.BinOp (J.Nloc rfl (J.Cint ⟨_, .addI _ _, ⟨t, i + 2, b, rfl, rfl, by omega, g2, J.Lnil ⟨by simp, _, _, .tup _, fun it hit => ?_⟩⟩⟩)))))
            have hit : H1 it = none := hit
            have oi := px1.off hit
            refine J.cons (J.If (J.TCmp (J.Nloc rfl (J.TupStr rfl (by simp) ⟨_, cninT [[48], [49], [120], [63], [98]] rfl, ?_⟩))))
            rw [lvl_con]
            cases ha : isLevel a with
            | false => exact J.cons (J.ExprS (J.PF hK rfl ((px1.set oi).set oi) (levels (.inl ha))))
            | true =>
              refine J.nil (J.nil ⟨Hp.set_same, ?_⟩)
              refine J.cons (J.If (J.TCmp (J.Nloc rfl (J.TupStr rfl (by simp) ⟨_, cninT [[48], [49], [120], [63], [98]] rfl, ?_⟩))))
              rw [lvl_con]
              cases hb : isLevel b with
              | false => exact J.cons (J.ExprS (J.PF hK rfl (((px1.set oi).set oi).set oi) (levels (.inr hb))))
              | true =>
                refine J.nil (J.nil ⟨Hp.set_same, ?_⟩)
                exact ⟨rfl, fun x v e => lookup_app e, sub_it hit, rfl, rfl⟩
          · rintro σ₂ ⟨hloc, hH, ha, hb⟩
            refine J.weak (σ' := ⟨yLoc P.x l t i, H1⟩) ?_ hH hloc
            rw [ha, hb, Bool.and_true, if_pos rfl, sAdd_cons] at hs
            refine J.cons (J.ExprS (J.MethL PySem.F.slot_list_append PySem.F.type_list_append (J.Nloc rfl ⟨l, _, rfl, l1, J.Lcons (J.TupleD (J.Lcons (J.Cstr (J.Lcons (J.ItemC (J.Nloc rfl (J.BinOp (J.Nloc rfl (J.Cint ⟨_, .addI _ _, ⟨t, i + 1, a, rfl, rfl, by omega, g1, ?_⟩⟩))))) ))))⟩)))
            refine J.Lcons (J.ItemC (J.Nloc rfl (J.BinOp (J.Nloc rfl (J.Cint ⟨_, .addI _ _, ⟨t, i + 2, b, rfl, rfl, by omega, g2, J.Lnil ⟨by simp, J.Lnil (Cl.append l1 (by simp [sizeLine_eq]; omega) ?_)⟩⟩⟩)))))
            refine J.cons (J.AugN rfl (J.Cint ⟨_, .addI _ _, J.nil (J.nil ?_)⟩))
            have dl : (t.drop i).length = (40 :: a :: b :: 41 :: r').length := by rw [hr]
            rw [List.length_drop] at dl
            simp only [List.length_cons] at dl
            exact ⟨t.length - (i + 4), by omega, i + 4, d ++ [.edge a b], _, rfl, px1.set o, K1.set hl, by rw [List.map_append]; exact Hp.set_same, by omega, by rw [List.length_append]; show d.length + 1 ≤ i + 4; omega, rfl, by rw [← List.drop_drop, hr]; exact hs⟩
      · rw [show (c == 40) = false by simp [hc], if_neg (by decide)]
        rw [syms_one hc] at hs
        refine J.cons (J.If (J.TCmp (J.ItemC (J.Nloc rfl (J.Nloc rfl ⟨t, i, c, rfl, rfl, by omega, g0, J.Cstr ⟨_, cin (.one c), ?_⟩⟩)))))
        rw [show inB (Str.ofString "01x?brfpn*") [c] = symL.contains c by show decide _ = _; rw [sym_in, Bool.eq_iff_iff]; simp]
        cases hy : symL.contains c with
        | true =>
          rw [hy, if_pos rfl, sAdd_cons] at hs
          rw [if_pos rfl]
          refine J.cons (J.ExprS (J.MethL PySem.F.slot_list_append PySem.F.type_list_append (J.Nloc rfl ⟨l, _, rfl, l1, J.Lcons (J.ItemC (J.Nloc rfl (J.Nloc rfl ⟨t, i, c, rfl, rfl, by omega, g0, J.Lnil (Cl.append l1 (by simp [sizeLine_eq]; omega) ?_)⟩)))⟩)))
          refine J.cons (J.AugN rfl (J.Cint ⟨_, .addI _ _, J.nil (J.nil (J.nil ?_))⟩))
          exact ⟨t.length - (i + 1), by omega, i + 1, d ++ [.one c], _, rfl, px1.set o, K1.set hl, by rw [List.map_append]; exact Hp.set_same, by omega, by rw [List.length_append]; show d.length + 1 ≤ i + 1; omega, rfl, by rw [← List.drop_drop, hr]; exact hs⟩
        | false =>
          rw [if_neg (by decide)]
          rw [hy, if_neg (by decide)] at hs
          exact J.cons (J.ExprS (J.PF hK rfl px1 (bad (by rw [← hs]; rfl))))
  · rw [decide_eq_false (by omega), if_neg (by decide)]
    have : t.drop i = [] := List.drop_eq_nil_of_le (by omega)
    rw [this] at hs
    have hs' : syms t = some d := by rw [← hs]; simp [sAdd, syms]
    refine J.nil (J.cons (J.Return (J.Call (J.Nbi (by rw [hK]; k_is) rfl (by decide) (.ty _) ⟨_, rfl, rfl, J.Lcons (J.Nloc rfl (J.Lnil (Cl.tupleL l1 (by rw [List.length_map]; omega) ?_)))⟩))))
    exact good d hs' H1 px1 K1
end Mine

namespace Mine
variable {G : Cfg} {C : Addr} {H H₁ : Hp} {Q : AV → Hp → Prop} {E : Str → Prop} {P : PA} {s s₁ : PS0} {l : Addr} {ao : AO}

noncomputable def stAV : Option (List Nat) → AV
  | none => .none
  | some w => .str (S w)
noncomputable def rowAV (r : Row) : AV := .tup [.tup (r.ins.map symAV), stAV r.state, .str (S r.out)]
theorem state_con (l : List Nat) : ([[48], [49], [120], [63], [98]] : List (List Nat)).contains l = isState l := by
  unfold isState; rw [Bool.eq_iff_iff]; simp [or_assoc]
theorem out_con (l : List Nat) : ([[48], [49], [120], [45]] : List (List Nat)).contains l = isOut l := by
  unfold isOut; rw [Bool.eq_iff_iff]; simp [or_assoc]
noncomputable abbrev tLoc (x l : Addr) (seq : Bool) : List (Str × AV) := [("sequential", .bool seq), ("parser", .ref x), ("rows", .ref l)]

set_option autoImplicit false in
inductive IvQ10_1 (P : PA) (l : Addr) (seq : Bool) (H : Hp) (R : List Row → PS0 → Hp → Prop) (E : Str → Prop) (σ' : St) : Prop
  | mk (r : List Row) (s' : PS0) (H' : Hp) (h1 : σ' = ⟨tLoc P.x l seq, H'⟩) (h2 : PX H' P s') (h3 : KeepS P H H') (h4 : H' l = some (.list (r.map rowAV))) (h5 : r.length ≤ 20) (h6 : PR P H (((pExpectKey kEndprim).bind fun _ => PM.ret r) s') R E)
set_option autoImplicit false in
inductive IvQ10_2 (P : PA) (l : Addr) (seq : Bool) (H : Hp) (R : List Row → PS0 → Hp → Prop) (E : Str → Prop) (n : Nat) (σ' : St) : Prop
  | mk (acc : List Row) (s' : PS0) (H' : Hp) (h1 : σ' = ⟨tLoc P.x l seq, H'⟩) (h2 : PX H' P s') (h3 : KeepS P H H') (h4 : H' l = some (.list (acc.map rowAV))) (h5 : acc.length + n ≤ 20) (h6 : PR P H ((pRows seq n acc).bind (fun r => (pExpectKey kEndprim).bind fun _ => PM.ret r) s') R E)
set_option autoImplicit false in
inductive IvQ10_3 (seq : Bool) (P : PA) (l : Addr) (ins : List Sym) (H : Hp) (acc : List Row) (n : Nat) (R : List Row → PS0 → Hp → Prop) (E : Str → Prop) (σ' : St) : Prop
  | mk (st : Option (List Nat)) (s' : PS0) (H' : Hp) (h1 : σ' = ⟨[("sequential", .bool seq), ("parser", .ref P.x), ("rows", .ref l), ("ins", .tup (ins.map symAV)), ("state", stAV st)], H'⟩) (h2 : PX H' P s') (h3 : KeepS P H H') (h4 : H' l = some (.list (acc.map rowAV))) (h5 : PR P H ((((pField 1000 []).bind fun out => if (!isOut out) = true then PM.fail "bad_table" else (pExpectOp [59]).bind fun _ => PM.ret (⟨ins, st, out⟩ : Row)).bind fun r => (pRows seq n (acc ++ [r])).bind fun r => (pExpectKey kEndprim).bind fun _ => PM.ret r) s') R E)
set_option maxHeartbeats 4000000 in
theorem c_table (hK : G.K = KK G.w.params) (px : PX H P s) {seq : Bool} (h : PR P H (pTable seq s) (fun r s' H' => Q (.tup (r.map rowAV)) H') E) : Fn G SE 11 (.ref 77) [.ref P.x, .bool seq] H Q E := by
  refine Fn.body (ab := [("parser", .ref P.x), ("sequential", .bool seq)]) (by rw [hK]; k_is) (by rw [hK]; k_is) (fun s I ws X hv => bind2 hv fun _ _ => BindsTo.of_eq rfl) rfl (fun L' => ?_)
  generalize hR : (fun (r : List Row) (s' : PS0) (H' : Hp) => Q (.tup (r.map rowAV)) H') = R at h
  unfold pTable at h
  refine J.cons (J.AssignN (J.ListD (J.Lnil ⟨by simp, fun l hl => ?_⟩)))
  have hl : H l = none := hl
  have o := px.off hl
  refine J.cons (J.ExprS (J.PS kTable w_table hK rfl (px.set o) (mExpKey hK) (c_expKey hK (px.set o) (h.call fun _ s1 H1 px1 k1 h1 => ?_)).clUp))
  have K1 : KeepS P H H1 := (KeepS.refl.set hl).trans k1
  have l1 : H1 l = some (.list []) := k1.some o Hp.set_same
  refine J.consN (P' := IvQ10_1 P l seq H R E) ?_ ?_
  · refine J.While (IvQ10_2 P l seq H R E) 20 ⟨[], s1, H1, rfl, px1, K1, l1, by simp, h1⟩ (fun n σ' hI => ?_)
    obtain ⟨acc, s2, H2, rfl, px2, K2, l2, hn, h2⟩ := hI
    cases n with
    | zero => exact h2.elim
    | succ n =>
      unfold pRows at h2
      rw [bind_bind] at h2
      refine J.TNot (J.Tval (J.PS kEndtable w_endtable hK rfl px2 (mAccKey hK) (c_accKey hK px2 (h2.call fun b s3 H3 px3 k3 h3 => ⟨_, rfl, ?_⟩)).clUp))
      have K3 := K2.trans k3
      have l3 := k3.some o l2
      cases b with
      | true =>
        rw [Bool.not_true, if_neg (by decide)]
        exact J.nil ⟨rfl, acc, s3, H3, rfl, px3, K3, l3, by omega, h3⟩
      | false =>
        rw [Bool.not_false, if_pos rfl]
        rw [if_neg (by decide), bind_bind] at h3
        unfold pRow at h3
        rw [bind_bind] at h3
        refine J.cons (J.AssignN (J.Call (J.Nglob (by rw [hK]; k_is) (.ref 91) ⟨_, rfl, kok (by rw [hK]; k_is), J.Lcons (J.Nloc rfl (J.Lcons (J.Call (J.Nglob (by rw [hK]; k_is) (.ref 84) ⟨_, rfl, kok (by rw [hK]; k_is), J.Lcons (J.Nloc rfl (J.Lnil (c_field hK px3 (h3.call fun t s4 H4 px4 k4 h4 => J.Lnil ?_)).clUp))⟩))))⟩)))
        rw [bind_bind] at h4
        refine (c_syms hK px4 (h4.call fun ins s5 H5 px5 k5 h5 => ?_)).clUp
        rw [bind_bind] at h5
        refine J.cons (J.ExprS (J.PS [58] rfl hK rfl px5 (mExpOp hK) (c_expOp hK px5 (h5.call fun _ s6 H6 px6 k6 h6 => ?_)).clUp))
        rw [bind_bind] at h6
        have K6 := ((K3.trans k4).trans k5).trans k6
        have l6 := k6.some o (k5.some o (k4.some o l3))
        refine J.cons (J.AssignN (J.Cnone ?_))
        refine J.consN (P' := IvQ10_3 seq P l ins H acc n R E) ?_ ?_
        · cases seq with
          | false =>
            refine J.If (J.Tval (J.Nloc rfl ⟨_, rfl, ?_⟩))
            rw [if_neg (by decide)]
            exact J.nil ⟨rfl, none, s6, H6, rfl, px6, K6, l6, h6⟩
          | true =>
            refine J.If (J.Tval (J.Nloc rfl ⟨_, rfl, ?_⟩))
            rw [if_pos rfl]
            unfold pState at h6
            rw [if_pos rfl, bind_bind] at h6
            refine J.cons (J.AssignN (J.Call (J.Nglob (by rw [hK]; k_is) (.ref 84) ⟨_, rfl, kok (by rw [hK]; k_is), J.Lcons (J.Nloc rfl (J.Lnil (c_field hK px6 (h6.call fun w s7 H7 px7 k7 h7 => ?_)).clUp))⟩)))
            refine J.cons (J.If (J.TCmp (J.Nloc rfl (J.TupStr rfl (by simp) ⟨_, cninT [[48], [49], [120], [63], [98]] rfl, ?_⟩))))
            rw [state_con]
            cases hst : isState w with
            | false =>
              rw [hst, Bool.not_false, if_pos rfl] at h7
              exact J.cons (J.ExprS (J.PF hK rfl px7 (show E "bad_table" from h7)))
            | true =>
              rw [hst, Bool.not_true, if_neg (by decide), bind_bind] at h7
              refine J.nil (J.cons (J.ExprS (J.PS [58] rfl hK rfl px7 (mExpOp hK) (c_expOp hK px7 (h7.call fun _ s8 H8 px8 k8 h8 => ?_)).clUp)))
              exact J.nil ⟨rfl, some w, s8, H8, rfl, px8, (K6.trans k7).trans k8, k8.some o (k7.some o l6), h8⟩
        · rintro _ ⟨st, s7, H7, rfl, px7, K7, l7, h7⟩
          rw [bind_bind] at h7
          refine J.cons (J.AssignN (J.Call (J.Nglob (by rw [hK]; k_is) (.ref 84) ⟨_, rfl, kok (by rw [hK]; k_is), J.Lcons (J.Nloc rfl (J.Lnil (c_field hK px7 (h7.call fun w s8 H8 px8 k8 h8 => ?_)).clUp))⟩)))
          refine J.cons (J.If (J.TCmp (J.Nloc rfl (J.TupStr rfl (by simp) ⟨_, cninT [[48], [49], [120], [45]] rfl, ?_⟩))))
          rw [out_con]
          cases hst : isOut w with
          | false =>
            rw [hst, Bool.not_false, if_pos rfl] at h8
            exact J.cons (J.ExprS (J.PF hK rfl px8 (show E "bad_table" from h8)))
          | true =>
            rw [hst, Bool.not_true, if_neg (by decide), bind_bind] at h8
            refine J.nil (J.cons (J.ExprS (J.PS [59] rfl hK rfl px8 (mExpOp hK) (c_expOp hK px8 (h8.call fun _ s9 H9 px9 k9 h9 => ?_)).clUp)))
            have l9 := k9.some o (k8.some o l7)
            refine J.cons (J.ExprS (J.MethL PySem.F.slot_list_append PySem.F.type_list_append (J.Nloc rfl ⟨l, _, rfl, l9, J.Lcons (J.TupleD (J.Lcons (J.Nloc rfl (J.Lcons (J.Nloc rfl (J.Lcons (J.Nloc rfl (J.Lnil ⟨by simp, J.Lnil (Cl.append l9 (by simp [sizeLine_eq]; omega) ?_)⟩))))))))⟩)))
            refine J.weak (σ' := ⟨tLoc P.x l seq, H9.set l (.list ((acc ++ [(⟨ins, st, w⟩ : Row)]).map rowAV))⟩) (J.nil ?_) (fun b ao e => ?_) fun x v e => lookup_app e
            · exact ⟨n, Nat.lt_succ_self n, acc ++ [(⟨ins, st, w⟩ : Row)], s9, _, rfl, px9.set o, ((K7.trans k8).trans k9).set hl, Hp.set_same, by simp; omega, h9⟩
            · rw [List.map_append] at e; exact e
  · rintro _ ⟨r, s2, H2, rfl, px2, K2, l2, hr, h2⟩
    refine J.cons (J.ExprS (J.PS kEndprim w_endprim hK rfl px2 (mExpKey hK) (c_expKey hK px2 (h2.call fun _ s3 H3 px3 k3 h3 => ?_)).clUp))
    refine J.cons (J.Return (J.Call (J.Nbi (by rw [hK]; k_is) rfl (by decide) (.ty _) ⟨_, rfl, rfl, J.Lcons (J.Nloc rfl (J.Lnil (Cl.tupleL (k3.some o l2) (by rw [List.length_map]; omega) ?_)))⟩)))
    have q := h3.fin px3 (K2.trans k3)
    rw [← hR] at q
    exact q
end Mine

namespace Mine
variable {G : Cfg} {C : Addr} {H H₁ : Hp} {Q : AV → Hp → Prop} {E : Str → Prop} {P : PA} {s s₁ : PS0} {l : Addr} {ao : AO}

theorem bind8 {w : World} {I : Im} {x1 x2 x3 x4 x5 x6 x7 x8 : Str} {a1 a2 a3 a4 a5 a6 a7 a8 : AV} {ws : List Value} {s : Shared} {name qual : Str} {params : Arguments} {body : List Stmt} {scope : Scope} {dV kV doc pm cdv ct : Value} {an : Option Addr}
    (hv : VRs w I [a1, a2, a3, a4, a5, a6, a7, a8] ws) (h : ∀ v1 v2 v3 v4 v5 v6 v7 v8, BindsTo s (fnOf name qual params body scope dV kV doc pm an cdv ct) ⟨[v1, v2, v3, v4, v5, v6, v7, v8], []⟩ [(x1, v1), (x2, v2), (x3, v3), (x4, v4), (x5, v5), (x6, v6), (x7, v7), (x8, v8)]) :
    ∃ binds, BindsTo s (fnOf name qual params body scope dV kV doc pm an cdv ct) ⟨ws, []⟩ binds ∧ BR w I [(x1, a1), (x2, a2), (x3, a3), (x4, a4), (x5, a5), (x6, a6), (x7, a7), (x8, a8)] binds := by
  obtain ⟨_, _, rfl, h1, t1⟩ := hv.consI; obtain ⟨_, _, rfl, h2, t2⟩ := t1.consI; obtain ⟨_, _, rfl, h3, t3⟩ := t2.consI; obtain ⟨_, _, rfl, h4, t4⟩ := t3.consI; obtain ⟨_, _, rfl, h5, t5⟩ := t4.consI; obtain ⟨_, _, rfl, h6, t6⟩ := t5.consI; obtain ⟨_, _, rfl, h7, h8⟩ := t6.two
  exact ⟨_, h _ _ _ _ _ _ _ _, .cons h1 (.cons h2 (.cons h3 (.cons h4 (.cons h5 (.cons h6 (.cons h7 (.cons h8 .nil)))))))⟩
theorem clsPrim (hK : G.K = KK G.w.params) : ClsF G.K 38 := ⟨by rw [hK]; k_is, by rw [hK]; k_is, by rw [hK]; k_is, by rw [hK]; k_is⟩
theorem prName (hK : G.K = KK G.w.params) : freeAt G.K 38 "name" := by unfold freeAt; rw [hK]; k_is
theorem prAt (hK : G.K = KK G.w.params) : freeAt G.K 38 "at" := by unfold freeAt; rw [hK]; k_is
theorem prOutput (hK : G.K = KK G.w.params) : freeAt G.K 38 "output" := by unfold freeAt; rw [hK]; k_is
theorem prInputs (hK : G.K = KK G.w.params) : freeAt G.K 38 "inputs" := by unfold freeAt; rw [hK]; k_is
theorem prSeq (hK : G.K = KK G.w.params) : freeAt G.K 38 "sequential" := by unfold freeAt; rw [hK]; k_is
theorem prInit (hK : G.K = KK G.w.params) : freeAt G.K 38 "init" := by unfold freeAt; rw [hK]; k_is
theorem prRows (hK : G.K = KK G.w.params) : freeAt G.K 38 "rows" := by unfold freeAt; rw [hK]; k_is

noncomputable abbrev primF (a1 a2 a3 a4 a5 a6 a7 : AV) : List (Str × AV) := [("name", a1), ("at", a2), ("output", a3), ("inputs", a4), ("sequential", a5), ("init", a6), ("rows", a7)]
theorem c_Prim (hK : G.K = KK G.w.params) {a1 a2 a3 a4 a5 a6 a7 : AV} (h : Q (.frz 38 (primF a1 a2 a3 a4 a5 a6 a7)) H) : Fn G C 3 (.ref 38) [a1, a2, a3, a4, a5, a6, a7] H Q E := by
  refine Fn.makeZ (fI := 35) ⟨by rw [hK]; k_is, by rw [hK]; k_is, by rw [hK]; k_is⟩ fun x d hx hd hxd => ?_
  refine Fn.body (ab := [("self", .ref x), ("name", a1), ("at", a2), ("output", a3), ("inputs", a4), ("sequential", a5), ("init", a6), ("rows", a7)]) (by rw [hK]; k_is) (by rw [hK]; k_is) (fun s I ws X hv => bind8 hv fun _ _ _ _ _ _ _ _ => BindsTo.of_eq rfl) rfl (fun L' => ?_)
  refine J.cons (J.AssignA (J.Nloc rfl (J.Nloc rfl ⟨x, 38, d, [], rfl, ⟨Hp.set_same, (Hp.set_ne (Ne.symm hxd)).trans Hp.set_same⟩, clsPrim hK, prName hK, by decide, ?_⟩)))
  rw [show (((H.set d (.dict [])).set x (.inst 38 d)).set d (.dict (setL "name" a1 []))) = (H.set x (.inst 38 d)).set d (.dict [("name", a1)]) by rw [Hp.swap (Ne.symm hxd), Hp.sets]; rfl]
  have gx : ∀ o, ((H.set x (.inst 38 d)).set d o) x = some (.inst 38 d) := fun o => (Hp.set_ne hxd).trans Hp.set_same
  refine J.cons (J.AssignA (J.Nloc rfl (J.Nloc rfl ⟨x, 38, d, _, rfl, ⟨gx _, Hp.set_same⟩, clsPrim hK, prAt hK, by simp, ?_⟩)))
  rw [Hp.sets]
  refine J.cons (J.AssignA (J.Nloc rfl (J.Nloc rfl ⟨x, 38, d, [("name", a1), ("at", a2)], rfl, ⟨gx _, Hp.set_same⟩, clsPrim hK, prOutput hK, by simp, ?_⟩)))
  rw [Hp.sets]
  refine J.cons (J.AssignA (J.Nloc rfl (J.Nloc rfl ⟨x, 38, d, [("name", a1), ("at", a2), ("output", a3)], rfl, ⟨gx _, Hp.set_same⟩, clsPrim hK, prInputs hK, by simp, ?_⟩)))
  rw [Hp.sets]
  refine J.cons (J.AssignA (J.Nloc rfl (J.Nloc rfl ⟨x, 38, d, [("name", a1), ("at", a2), ("output", a3), ("inputs", a4)], rfl, ⟨gx _, Hp.set_same⟩, clsPrim hK, prSeq hK, by simp, ?_⟩)))
  rw [Hp.sets]
  refine J.cons (J.AssignA (J.Nloc rfl (J.Nloc rfl ⟨x, 38, d, [("name", a1), ("at", a2), ("output", a3), ("inputs", a4), ("sequential", a5)], rfl, ⟨gx _, Hp.set_same⟩, clsPrim hK, prInit hK, by simp, ?_⟩)))
  rw [Hp.sets]
  refine J.cons (J.AssignA (J.Nloc rfl (J.Nloc rfl ⟨x, 38, d, [("name", a1), ("at", a2), ("output", a3), ("inputs", a4), ("sequential", a5), ("init", a6)], rfl, ⟨gx _, Hp.set_same⟩, clsPrim hK, prRows hK, by simp, J.nil ?_⟩)))
  refine ⟨rfl, primF a1 a2 a3 a4 a5 a6 a7, ?_, Hp.set_same, fun b h1 h2 => ?_, h⟩
  · exact (Hp.set_ne hxd).trans (gx _)
  · exact (Hp.set_ne h2).trans ((Hp.set_ne h2).trans (Hp.set_ne h1))

noncomputable def primAV (p : Prim) (a : Nat) : AV := .frz 38 (primF (.str (S p.name)) (.int a) (.str (S ((p.ports[0]?).getD []))) (.tup (strL (p.ports.drop 1))) (.bool p.seq) (.int p.init) (.tup (p.rows.map rowAV)))
noncomputable abbrev qLoc (x : Addr) (a : Nat) (name : List Nat) (l : Addr) (seq : Bool) (init : Int) : List (Str × AV) := [("parser", .ref x), ("at", .int a), ("name", .str (S name)), ("ports", .ref l), ("sequential", .bool seq), ("init", .int init)]
theorem lt2 (n : Nat) : decide ((n : Int) < 2) = decide (n < 2) := by rw [Bool.eq_iff_iff, decide_eq_true_eq, decide_eq_true_eq]; omega

theorem isKey_bind {α : Type} (w : List Nat) (f : Bool → PM α) (s : PS0) : ((pIsKey w).bind f) s = f (isKey w s.1) s := rfl
set_option autoImplicit false in
inductive IvQ11_1 (P : PA) (a : Nat) (name : List Nat) (H : Hp) (cont : List (List Nat) × Bool × Int → PM Prim) (R : Prim → PS0 → Hp → Prop) (E : Str → Prop) (σ' : St) : Prop
  | mk (ports : List (List Nat)) (seq : Bool) (init : Int) (l : Addr) (s' : PS0) (H' : Hp) (h1 : σ' = ⟨qLoc P.x a name l seq init, H'⟩) (h2 : PX H' P s') (h3 : KeepS P H H') (h4 : H' l = some (.list (strL ports))) (h5 : H l = none) (h6 : ports.length ≤ 11) (h7 : PR P H (cont (ports, seq, init) s') R E)
set_option autoImplicit false in
inductive IvQ11_2 (P : PA) (a : Nat) (name : List Nat) (l : Addr) (H : Hp) (cont : List (List Nat) × Bool × Int → PM Prim) (R : Prim → PS0 → Hp → Prop) (E : Str → Prop) (σ' : St) : Prop
  | mk (p0 : List Nat) (more : List (List Nat)) (s' : PS0) (H' : Hp) (h1 : σ' = ⟨[("parser", .ref P.x), ("at", .int a), ("name", .str (S name)), ("ports", .ref l)], H'⟩) (h2 : PX H' P s') (h3 : KeepS P H H') (h4 : H' l = some (.list (strL (p0 :: more)))) (h5 : (p0 :: more).length ≤ 11) (h6 : PR P H ((((pExpectOp [41]).bind fun _ => (pExpectOp [59]).bind fun _ => (pPortDecls (p0 :: more)).bind fun r => PM.ret (p0 :: more, r.1, r.2)).bind cont) s') R E)
set_option autoImplicit false in
inductive IvQ11_3 (P : PA) (a : Nat) (name : List Nat) (l : Addr) (H : Hp) (cont : List (List Nat) × Bool × Int → PM Prim) (R : Prim → PS0 → Hp → Prop) (E : Str → Prop) (n : Nat) (σ' : St) : Prop
  | mk (p0 : List Nat) (more : List (List Nat)) (s' : PS0) (H' : Hp) (h1 : σ' = ⟨[("parser", .ref P.x), ("at", .int a), ("name", .str (S name)), ("ports", .ref l)], H'⟩) (h2 : PX H' P s') (h3 : KeepS P H H') (h4 : H' l = some (.list (strL (p0 :: more)))) (h5 : (p0 :: more).length + n ≤ 11) (h6 : PR P H ((pMore n (p0 :: more)).bind (fun ports => ((pExpectOp [41]).bind fun _ => (pExpectOp [59]).bind fun _ => (pPortDecls ports).bind fun r => PM.ret (ports, r.1, r.2)).bind cont) s') R E)
set_option autoImplicit false in
inductive IvQ11_4 (P : PA) (a : Nat) (name : List Nat) (l : Addr) (seq : Bool) (H : Hp) (p0 : List Nat) (more : List (List Nat)) (fin : List Nat × List (List Nat) × Bool × Int → PM Prim) (R : Prim → PS0 → Hp → Prop) (E : Str → Prop) (σ' : St) : Prop
  | mk (init : Int) (s' : PS0) (H' : Hp) (h1 : σ' = ⟨qLoc P.x a name l seq init, H'⟩) (h2 : PX H' P s') (h3 : KeepS P H H') (h4 : H' l = some (.list (strL (p0 :: more)))) (h5 : PR P H (((PM.ret (name, p0 :: more, seq, init)).bind fin) s') R E)
set_option maxHeartbeats 4000000 in
theorem c_parseX (hK : G.K = KK G.w.params) (px : PX H P s) (h : PR P H (pPrim s) (fun p s' H' => ∀ a : Nat, Q (primAV p a) H') E) : FnX G SE 12 (.ref 49) [.ref P.x] H Q E := by
  refine FnX.body (ab := [("parser", .ref P.x)]) (by rw [hK]; k_is) (by rw [hK]; k_is) (fun s I ws X hv => bind1 hv fun _ => BindsTo.of_eq rfl) rfl (fun L' => ?_)
  generalize hR : (fun (p : Prim) (s' : PS0) (H' : Hp) => ∀ a : Nat, Q (primAV p a) H') = R at h
  unfold pPrim at h
  generalize hfin : (fun h : List Nat × List (List Nat) × Bool × Int => (pTable h.2.2.1).bind fun rows => PM.ret (⟨h.1, h.2.1, h.2.2.1, h.2.2.2, rows⟩ : Prim)) = fin at h
  unfold pHead at h
  rw [bind_bind] at h
  obtain ⟨tk, rest⟩ := s
  refine J.cons (J.AssignN (J.AttrZ (J.Ptok hK rfl px fun a => ⟨148, _, _, rfl, rfl, clsTok hK, tokAt hK, rfl, ?_⟩)))
  refine J.cons (J.ExprS (J.PS kPrim w_prim hK rfl px (mExpKey hK) (c_expKey hK px (h.call fun _ s1 H1 px1 k1 h1 => ?_)).clUp))
  rw [bind_bind] at h1
  refine J.cons (J.AssignN (J.P0 hK rfl px1 (mExpId hK) (c_expId hK px1 (h1.call fun name s2 H2 px2 k2 h2 => ?_)).clUp))
  rw [bind_bind] at h2
  refine J.cons (J.ExprS (J.PS [40] rfl hK rfl px2 (mExpOp hK) (c_expOp hK px2 (h2.call fun _ s3 H3 px3 k3 h3 => ?_)).clUp))
  have K3 := (k1.trans k2).trans k3
  rw [bind_bind] at h3
  rw [isKey_bind, bind_bind] at h3
  generalize hC : (fun r : List (List Nat) × Bool × Int => ((if r.1.length < 2 then PM.fail "primitive_ports" else PM.ret ()).bind fun _ => (pAcceptKey kInitial).bind fun i =>
    (if i = true then (if (!r.2.1) = true then PM.fail "primitive_initial" else pExpectId.bind fun w => if some w ≠ r.1[0]? then PM.fail "primitive_initial" else PM.ret ()).bind fun _ =>
      (pExpectOp [61]).bind fun _ => pInitial.bind fun c => (pExpectOp [59]).bind fun _ => PM.ret c else PM.ret r.2.2).bind fun init => PM.ret (name, r.1, r.2.1, init)).bind fin) = cont at h3
  refine J.consN (P' := IvQ11_1 P a name H cont R E) ?_ ?_
  · refine J.If (J.Tval (J.PS kOutput w_output hK rfl px3 (mIsKey hK) (c_isKey hK px3 ⟨_, rfl, ?_⟩).clUp))
    refine ite_both (fun hb => ?_) (fun hb => ?_)
    · rw [hb, if_pos rfl] at h3
      refine J.cons (J.AssignT [("ports", _), ("sequential", _), ("init", _)] (J.Call (J.Nglob (by rw [hK]; k_is) (.ref 56) ⟨_, rfl, kok (by rw [hK]; k_is), J.Lcons (J.Nloc rfl (J.Lnil (c_ansi hK px3 (h3.call fun r s4 H4 px4 k4 h4 l hn hl hl0 => ⟨_, rfl, rfl, ?_⟩)).clUp))⟩)))
      exact J.nil ⟨rfl, r.1, r.2.1, r.2.2, l, s4, H4, rfl, px4, K3.trans k4, hl, K3.none (px3.off hl0) hl0, hn, h4⟩
    · rw [hb, if_neg (by decide), bind_bind] at h3
      refine J.cons (J.AssignN (J.ListD (J.Lcons (J.P0 hK rfl px3 (mExpId hK) (c_expId hK px3 (h3.call fun w s4 H4 px4 k4 h4 => J.Lnil ⟨by simp, fun l hl => ?_⟩)).clUp))))
      have hl : H4 l = none := hl
      have o := px4.off hl
      have K4 := K3.trans k4
      have hl0 : H l = none := K4.none o hl
      rw [bind_bind] at h4
      refine J.consN (P' := IvQ11_2 P a name l H cont R E) ?_ ?_
      · refine J.While (IvQ11_3 P a name l H cont R E) 10 ⟨w, [], s4, _, rfl, px4.set o, K4.set hl0, Hp.set_same, by simp, h4⟩ (fun n σ' hI => ?_)
        obtain ⟨p0, more, s5, H5, rfl, px5, K5, l5, hn, h5⟩ := hI
        cases n with
        | zero => exact h5.elim
        | succ n =>
          unfold pMore at h5
          rw [bind_bind] at h5
          refine J.Tval (J.PS [44] rfl hK rfl px5 (mAccOp hK) (c_accOp hK px5 (h5.call fun b s6 H6 px6 k6 h6 => ⟨_, rfl, ?_⟩)).clUp)
          have l6 := k6.some o l5
          cases b with
          | false => rw [if_neg (by decide)]; exact J.nil ⟨rfl, p0, more, s6, H6, rfl, px6, K5.trans k6, l6, by omega, h6⟩
          | true =>
            rw [if_pos rfl]
            rw [if_pos rfl, bind_bind] at h6
            refine J.cons (J.ExprS (J.MethL PySem.F.slot_list_append PySem.F.type_list_append (J.Nloc rfl ⟨l, _, rfl, l6, J.Lcons (J.P0 hK rfl px6 (mExpId hK) (c_expId hK px6 (h6.call fun w' s7 H7 px7 k7 h7 => J.Lnil (Cl.append (k7.some o l6) (by rw [sizeLine_eq, List.length_map]; omega) ?_))).clUp)⟩)))
            rw [strL_add]
            exact J.nil ⟨n, Nat.lt_succ_self n, p0, more ++ [w'], s7, _, rfl, px7.set o, ((K5.trans k6).trans k7).set hl0, Hp.set_same, by simp only [List.length_cons, List.length_append, List.length_nil] at hn ⊢; omega, h7⟩
      · rintro _ ⟨p0, more, s5, H5, rfl, px5, K5, l5, hn, h5⟩
        rw [bind_bind] at h5
        refine J.cons (J.ExprS (J.PS [41] rfl hK rfl px5 (mExpOp hK) (c_expOp hK px5 (h5.call fun _ s6 H6 px6 k6 h6 => ?_)).clUp))
        rw [bind_bind] at h6
        refine J.cons (J.ExprS (J.PS [59] rfl hK rfl px6 (mExpOp hK) (c_expOp hK px6 (h6.call fun _ s7 H7 px7 k7 h7 => ?_)).clUp))
        rw [bind_bind] at h7
        have l7 := k7.some o (k6.some o l5)
        have K7 := (K5.trans k6).trans k7
        refine J.cons (J.AssignT [("sequential", _), ("init", _)] (J.Call (J.Nglob (by rw [hK]; k_is) (.ref 63) ⟨_, rfl, kok (by rw [hK]; k_is), J.Lcons (J.Nloc rfl (J.Lcons (J.Nloc rfl (J.Lnil (c_decls hK px7 l7 o (h7.call fun r s8 H8 px8 k8 h8 => ⟨_, rfl, rfl, ?_⟩)).clUp))))⟩)))
        exact J.nil ⟨rfl, p0 :: more, r.1, r.2, l, s8, H8, rfl, px8, K7.trans k8, k8.some o l7, hl0, hn, h8⟩
  · rintro _ ⟨ports, seq, init, l, s4, H4, rfl, px4, K4, l4, hl0, hn, h4⟩
    have o := px.off hl0
    rw [← hC] at h4
    dsimp only at h4
    rw [bind_bind] at h4
    refine J.cons (J.If (J.TCmp (J.Call (J.Nbi (by rw [hK]; k_is) rfl (by decide) (.bi _) ⟨_, rfl, rfl, J.Lcons (J.Nloc rfl (J.Lnil (Cl.lenL l4 (by rw [sizeLine_eq, List.length_map]; omega) (J.Cint ⟨_, .ltI _ _, ?_⟩))))⟩))))
    rw [List.length_map, lt2]
    by_cases h2 : ports.length < 2
    · rw [if_pos h2] at h4
      rw [decide_eq_true h2, if_pos rfl]
      exact J.cons (J.ExprS (J.PF hK rfl px4 (show E "primitive_ports" from h4)))
    rw [if_neg h2, bind_ret, bind_bind] at h4
    rw [decide_eq_false h2, if_neg (by decide)]
    obtain ⟨p0, more, rfl⟩ : ∃ p0 more, ports = p0 :: more := by cases ports with | nil => simp at h2 | cons a b => exact ⟨a, b, rfl⟩
    refine J.nil ?_
    refine J.consN (P' := IvQ11_4 P a name l seq H p0 more fin R E) ?_ ?_
    · refine J.If (J.Tval (J.PS kInitial w_initial hK rfl px4 (mAccKey hK) (c_accKey hK px4 (h4.call fun i s5 H5 px5 k5 h5 => ⟨_, rfl, ?_⟩)).clUp))
      have l5 := k5.some o l4
      have K5 := K4.trans k5
      cases i with
      | false => rw [if_neg (by decide)]; exact J.nil ⟨rfl, init, s5, H5, rfl, px5, K5, l5, h5⟩
      | true =>
        rw [if_pos rfl]
        rw [if_pos rfl, bind_bind, bind_bind] at h5
        cases seq with
        | false =>
          refine J.cons (J.If (J.TOr (J.TNot (J.Tval (J.Nloc rfl ⟨_, rfl, ?_⟩)))))
          rw [Bool.not_false, if_pos rfl, if_pos rfl]
          exact J.cons (J.ExprS (J.PF hK rfl px5 (show E "primitive_initial" from h5)))
        | true =>
          refine J.cons (J.If (J.TOr (J.TNot (J.Tval (J.Nloc rfl ⟨_, rfl, ?_⟩)))))
          rw [Bool.not_true, if_neg (by decide)]
          rw [Bool.not_true, if_neg (by decide), bind_bind] at h5
          refine J.TOr (J.TCmp (J.P0 hK rfl px5 (mExpId hK) (c_expId hK px5 (h5.call fun w s6 H6 px6 k6 h6 => J.ItemL (J.Nloc rfl (J.Cint ⟨l, _, 0, _, rfl, rfl, k6.some o l5, by decide, by decide, rfl, _, cne p0 rfl, ?_⟩)))).clUp))
          have l6 := k6.some o l5
          have K6 := K5.trans k6
          by_cases hw : w = p0
          · subst hw
            rw [decide_eq_true rfl, Bool.not_true, if_neg (by decide)]
            rw [if_neg (by simp), bind_ret] at h6
            refine J.TOrNil ?_
            rw [if_neg (by decide)]
            rw [bind_bind] at h6
            refine J.nil (J.cons (J.ExprS (J.PS [61] rfl hK rfl px6 (mExpOp hK) (c_expOp hK px6 (h6.call fun _ s7 H7 px7 k7 h7 => ?_)).clUp)))
            rw [bind_bind] at h7
            refine J.cons (J.AssignN (J.Call (J.Nglob (by rw [hK]; k_is) (.ref 70) ⟨_, rfl, kok (by rw [hK]; k_is), J.Lcons (J.Nloc rfl (J.Lnil (c_initial hK px7 (h7.call fun init' s8 H8 px8 k8 h8 => ?_)).clUp))⟩)))
            rw [bind_bind] at h8
            refine J.cons (J.ExprS (J.PS [59] rfl hK rfl px8 (mExpOp hK) (c_expOp hK px8 (h8.call fun _ s9 H9 px9 k9 h9 => ?_)).clUp))
            exact J.nil ⟨rfl, init', s9, H9, rfl, px9, ((K6.trans k7).trans k8).trans k9, k9.some o (k8.some o (k7.some o l6)), h9⟩
          · rw [decide_eq_false hw, Bool.not_false, if_pos rfl, if_pos rfl]
            rw [if_pos (by simpa using hw)] at h6
            exact J.cons (J.ExprS (J.PF hK rfl px6 (show E "primitive_initial" from h6)))
    · rintro _ ⟨init', s5, H5, rfl, px5, K5, l5, h5⟩
      rw [bind_ret, ← hfin] at h5
      dsimp only at h5
      refine J.cons (J.AssignN (J.Call (J.Nglob (by rw [hK]; k_is) (.ref 77) ⟨_, rfl, kok (by rw [hK]; k_is), J.Lcons (J.Nloc rfl (J.Lcons (J.Nloc rfl (J.Lnil (c_table hK px5 (h5.call fun rows s6 H6 px6 k6 h6 => ?_)).clUp))))⟩)))
      have l6 := k6.some o l5
      refine J.cons (J.Return (J.Call (J.Nglob (by rw [hK]; k_is) (.ref 38) ⟨_, rfl, kok (by rw [hK]; k_is), J.Lcons (J.Nloc rfl (J.Lcons (J.Nloc rfl (J.Lcons (J.ItemL (J.Nloc rfl (J.Cint ⟨l, _, 0, _, rfl, rfl, l6, by decide, by decide, rfl, ?_⟩))) ))))⟩)))
      refine J.Lcons (J.Call (J.Nbi (by rw [hK]; k_is) rfl (by decide) (.ty _) ⟨_, rfl, rfl, J.Lcons (J.SliceL1 (J.Nloc rfl (J.Cint ⟨l, _, 1, rfl, rfl, l6, by decide, by rw [List.length_map]; omega, fun b hb => J.Lnil (Cl.tupleL Hp.set_same (by rw [List.length_drop, List.length_map]; omega) ?_)⟩)))⟩))
      have hb : H6 b = none := hb
      have ob := px6.off hb
      have K6 := K5.trans k6
      refine J.Lcons (J.Nloc rfl (J.Lcons (J.Nloc rfl (J.Lcons (J.Nloc rfl (J.Lnil ?_))))))
      refine (c_Prim hK ?_).clUp
      have q := h6.fin (px6.set (ao := .list ((strL (p0 :: more)).drop 1)) ob) (K6.set (K6.none ob hb))
      rw [← hR] at q
      exact q a
theorem c_parse (hK : G.K = KK G.w.params) (px : PX H P s) (h : PR P H (pPrim s) (fun p s' H' => ∀ a : Nat, Q (primAV p a) H') E) : Fn G SE 12 (.ref 49) [.ref P.x] H Q E := (c_parseX hK px h).fn
end Mine

namespace Mine
section
variable {G : Cfg} {C : Addr} {k : Nat} {env : Env} {σ : St} {E : Str → Prop} {QF : AF → St → Prop} {x y : Str} {pos : Pos}
theorem J.AssignComp {elt iter : Expr} {px py spos : Pos} {scope : Scope} {cl : List (Str × Addr)}
    (h : JE G C k env iter σ (CompI G C k (fun Cc => compEnvC scope cl Cc env) x elt (fun u σ' => QF .next ⟨setL y u σ'.loc, σ'.H⟩)) E)
    (hsw : swapsWith (.ListComp elt [⟨.Name x px, iter, [], 0⟩] scope pos) (some (.Name y py)) spos.line env = pure true)
    (hy : env.kindOf y = some .local)
    (hclos : closureFor scope env = pure cl) (hcell : ∀ y ∈ scope.names, y.2 ≠ .cell) (hkind : scope.kind = .function) (hnames : ∀ y ∈ scope.names, y.2 = .local → scope.names.lookup y.1 = some .local) (hx : scope.names.lookup x = some .local)
    (hfl : env.frame = some env.locals) (hs : ∀ x, foldedSetIterable iter env x = pure x := by intro _; rfl) : J1 G C k env (.Assign [.Name y py] (.ListComp elt [⟨.Name x px, iter, [], 0⟩] scope pos) spos) σ QF E := by
  intro fenv A A₀ base B outer L I s c r
  rw [exec_Assign_Name_used _ _ _ _ hsw]
  refine wpAny_bind (wpAny_standAt (wpAny_bind ?_))
  show wpAny _ A (do let _ ← comprehension (.ListComp elt [⟨.Name x px, iter, [], 0⟩] scope pos) scope env _ (newList []) false (eval iter env) (some (assign (.Name y py) env))) _ _ s
  refine wpAny_bind (wpAny_mono (comp_gen (P := fun _ s' => PQ G B L I s (FR G.w) QF .next s') h hclos hcell hkind hnames hx hfl hs c r fun D Cc σ' I' s₅ l k' r' m' hc q => ?_) (fun _ s' hq => wpAny_pure (wpAny_pure hq)) fun _ _ e => e)
  show wpAny _ A (assign (.Name y py) env (.ref D)) _ _ _
  refine PyProof.Rows.assign_Name (store_loc (α := Unit) (β := Unit) (I := I) (s := s) c r' (.ref D) hy hfl fun s₆ m₆ ⟨own, m, r₆⟩ => ?_)
  obtain ⟨oc, b1, b2⟩ := r₆.objs _ _ hc
  obtain ⟨_, _, _, g1, g2, g3, g4⟩ := b2.nsI
  exact ⟨_, ⟨oc, _, _, (r₆.N _ (List.mem_append_left _ b1)).1, g1, g2, g3⟩, fun h' hs' => ⟨.next, _, I', k', .next, ⟨_, m, r₆.lose b1 hs'.extBut⟩, ⟨(m'.trans m₆).gens, (m'.trans m₆).drawn, (m'.trans m₆).os⟩, q⟩⟩
end
end Mine

namespace Mine
variable {G : Cfg} {C : Addr} {H H₁ : Hp} {Q : AV → Hp → Prop} {E : Str → Prop} {l : Addr} {ao : AO}

noncomputable def Ext (H H' : Hp) : Prop := ∀ a ao, H a = some ao → H' a = some ao
theorem Ext.refl : Ext H H := fun _ _ e => e
theorem Ext.trans {A B D : Hp} (a : Ext A B) (b : Ext B D) : Ext A D := fun x o e => b x o (a x o e)
theorem Ext.set (k : Ext H H₁) (h : H l = none) : Ext H (H₁.set l ao) := fun a o e => by
  have : a ≠ l := fun q => by rw [q, h] at e; cases e
  rw [Hp.set_ne this]; exact k a o e
theorem Ext.drop (k : Ext H H₁) (h : H l = none) : Ext H (H₁.drop l) := fun a o e => by
  have : a ≠ l := fun q => by rw [q, h] at e; cases e
  rw [Hp.drop_ne this]; exact k a o e
theorem Ext.none (k : Ext H H₁) (h : H₁ l = Option.none) : H l = Option.none := by
  cases e : H l with
  | none => rfl
  | some ao => rw [k l ao e] at h; cases h

noncomputable abbrev intL (xs : List Int) : List AV := xs.map .int
structure PoolOK (H : Hp) (p f : Addr) : Prop where
  o : ∃ (figs : List Int) (i mix : Int), H p = some (.list [.ref f, .int i, .int mix]) ∧ H f = some (.list (intL figs)) ∧ (∀ x ∈ figs, 0 ≤ x) ∧ figs.length ≤ 1000 ∧ 0 ≤ i ∧ i ≤ figs.length ∧ 0 ≤ mix ∧ mix < 1009 ∧ f ≠ p
theorem Cmp.lt0 {H : Hp} (a b : Int) : Mine.Cmp H .Lt (.int a) (.int b) (decide (a < b)) := .ltI a b
set_option autoImplicit false in
inductive IvR1_1 (f : Addr) (H : Hp) (σ' : St) : Prop
  | mk (figs : List Int) (m : Int) (h1 : σ'.loc.lookup ("figures" : Str) = some (AV.ref f)) (h2 : σ'.loc.lookup ("mix" : Str) = some (AV.int m)) (h3 : σ'.H f = some (.list (intL figs))) (h4 : (∀ x ∈ figs, 0 ≤ x)) (h5 : figs.length ≤ 1000) (h6 : 0 ≤ m) (h7 : m < 1009) (h8 : Ext H σ'.H)
set_option autoImplicit false in
inductive IvR1_2 (f : Addr) (H : Hp) (vs : List AV) (σ : St) : Prop
  | mk (rest : List Int) (figs : List Int) (m : Int) (h1 : vs = rest.map .int) (h2 : σ.loc.lookup ("figures" : Str) = some (AV.ref f)) (h3 : σ.loc.lookup ("mix" : Str) = some (AV.int m)) (h4 : σ.H f = some (.list (intL figs))) (h5 : (∀ x ∈ figs, 0 ≤ x)) (h6 : figs.length ≤ 400) (h7 : 0 ≤ m) (h8 : m < 1009) (h9 : Ext H σ.H)
set_option autoImplicit false in
inductive IvR1_3 (f : Addr) (m' : Int) (H : Hp) (it : Addr) (rest : List Int) (σ' : St) : Prop
  | mk (figs : List Int) (h1 : σ'.loc.lookup ("figures" : Str) = some (AV.ref f)) (h2 : σ'.loc.lookup ("mix" : Str) = some (AV.int m')) (h3 : σ'.H f = some (.list (intL figs))) (h4 : (∀ x ∈ figs, 0 ≤ x)) (h5 : figs.length ≤ 460) (h6 : Ext H σ'.H) (h7 : σ'.H it = some (.it (rest.map .int)))
set_option autoImplicit false in
inductive IvR1_4 (f : Addr) (m' : Int) (H : Hp) (it : Addr) (rest : List Int) (vs : List AV) (σ' : St) : Prop
  | mk (figs : List Int) (r : Int) (h1 : σ'.loc.lookup ("figures" : Str) = some (AV.ref f)) (h2 : σ'.loc.lookup ("mix" : Str) = some (AV.int m')) (h3 : σ'.loc.lookup ("rest" : Str) = some (AV.int r)) (h4 : 0 ≤ r) (h5 : σ'.H f = some (.list (intL figs))) (h6 : (∀ x ∈ figs, 0 ≤ x)) (h7 : figs.length + vs.length ≤ 460) (h8 : Ext H σ'.H) (h9 : σ'.H it = some (.it (rest.map .int)))
set_option maxHeartbeats 4000000 in
theorem c_pool (hK : G.K = KK G.w.params) {ns : List Int} (hi : IntsAre G.its ns) (hn : ns.length ≤ 63) (h : ∀ p f H', H p = none → H f = none → PoolOK H' p f → Ext H H' → Q (.ref p) H') : Fn G C 1 (.ref 679) [.ref G.script] H Q E := by
  refine Fn.body (ab := [("script", .ref G.script)]) (by rw [hK]; k_is) (by rw [hK]; k_is) (fun s I ws X hv => bind1 hv fun _ => BindsTo.of_eq rfl) rfl (fun L' => ?_)
  refine J.cons (J.AssignN (J.ListD (J.Lnil ⟨by simp, fun f hf => ?_⟩)))
  have hf : H f = none := hf
  refine J.cons (J.AssignN (J.Cint ?_))
  refine J.consN (P' := IvR1_1 f H) ?_ ?_
  · refine J.For (J.SliceScript (J.Nloc rfl (J.Cint ⟨40, ns, rfl, rfl, hi, by decide, by omega, fun a ha => ⟨_, _, .list a _ Hp.set_same, fun it hit => ?_⟩⟩)))
    have ha : (H.set f (.list [])) a = none := ha
    have hit : (((H.set f (.list [])).set a (.list ((ns.take 40).map .int))).drop a) it = none := hit
    have haf : a ≠ f := fun q => by rw [q, Hp.set_same] at ha; cases ha
    have haH : H a = none := by rw [Hp.set_ne haf] at ha; exact ha
    have hitf : it ≠ f := fun q => by rw [q, Hp.drop_ne (Ne.symm haf), Hp.set_ne (Ne.symm haf), Hp.set_same] at hit; cases hit
    have hitH : H it = none := by
      cases e : H it with
      | none => rfl
      | some ao =>
        have n : it ≠ a := fun q => by rw [q, haH] at e; cases e
        rw [Hp.drop_ne n, Hp.set_ne n, Hp.set_ne hitf, e] at hit; cases hit
    refine ForJ.ind (IvR1_2 f H)
      (fun σ hP => ?_) (fun v vs σ hP => ?_) _ _ ⟨ns.take 40, [], 5, rfl, rfl, rfl, (Hp.set_ne (Ne.symm hitf)).trans ((Hp.drop_ne (Ne.symm haf)).trans ((Hp.set_ne (Ne.symm haf)).trans Hp.set_same)), by simp, by simp, by decide, by decide, (((Ext.refl.set hf).set haH).drop haH).set hitH⟩
    · obtain ⟨rest, figs, m, _, e2, e3, e4, e5, e6, e7, e8, e9⟩ := hP
      exact ⟨rfl, figs, m, e2, e3, (Hp.drop_ne (Ne.symm hitf)).trans e4, e5, by omega, e7, e8, e9.drop hitH⟩
    · obtain ⟨rest, figs, m, e1, e2, e3, e4, e5, e6, e7, e8, e9⟩ := hP
      cases rest with
      | nil => cases e1
      | cons x rest =>
        obtain ⟨rfl, rfl⟩ := List.cons.inj e1
        refine J.cons (J.AssignN (J.Call (J.Nbi (by rw [hK]; k_is) rfl (by decide) (.ty _) ⟨_, rfl, rfl, J.Lcons (J.Nloc lk_eq (J.Lnil (Cl.int ?_)))⟩)))
        refine J.cons (J.AssignN (J.BinOp (J.BinOp (J.BinOp (J.Nloc (lk_ne (lk_ne e3)) (J.Cint ⟨_, .mulI _ _ (IntMulOk.of_right (by decide)), J.Nloc lk_eq ⟨_, .addI _ _, J.Cint ⟨_, .modI _ _ (by decide), ?_⟩⟩⟩))))))
        have m0 : 0 ≤ (m * 31 + x).fmod 1009 := Int.fmod_nonneg_of_pos _ (by decide)
        have m1 : (m * 31 + x).fmod 1009 < 1009 := Int.fmod_lt_of_pos _ (by decide)
        generalize hm' : (m * 31 + x).fmod 1009 = m' at m0 m1
        refine J.cons (J.AssignN (J.Call (J.Nbi (by rw [hK]; k_is) rfl (by decide) (.bi _) ⟨_, rfl, rfl, J.Lcons (J.Nloc (lk_ne lk_eq) (J.Lnil (Cl.abs ?_)))⟩)))
        have r0 : 0 ≤ (if x < 0 then -x else x) := by split <;> omega
        generalize hr : (if x < 0 then -x else x) = r at r0
        dsimp only
        have H1 : Ext H (σ.H.set it (.it (rest.map .int))) := e9.set hitH
        have f1 : (σ.H.set it (.it (rest.map .int))) f = some (.list (intL figs)) := (Hp.set_ne (Ne.symm hitf)).trans e4
        have i1 : (σ.H.set it (.it (rest.map .int))) it = some (.it (rest.map .int)) := Hp.set_same
        refine J.consN (P' := IvR1_3 f m' H it rest) ?_ ?_
        · refine J.For (J.Call (J.Nbi (by rw [hK]; k_is) rfl (by decide) (.ty _) ⟨_, rfl, rfl, J.Lcons (J.Cint (J.Lnil (Cl.range ⟨_, _, .rng 60 (by decide), fun it2 hit2 => ?_⟩)))⟩))
          have hit2 : (σ.H.set it (.it (rest.map .int))) it2 = none := hit2
          have n2 : it2 ≠ it := fun q => by rw [q, i1] at hit2; cases hit2
          have n2f : it2 ≠ f := fun q => by rw [q, f1] at hit2; cases hit2
          have hit2H : H it2 = none := H1.none hit2
          refine ForJ.ind (IvR1_4 f m' H it rest)
            (fun σ' hP => ?_) (fun v vs σ' hP => ?_) _ _ ⟨figs, r, lk_ne (lk_ne (lk_ne (lk_ne e2))), lk_ne lk_eq, lk_eq, r0, (Hp.set_ne (Ne.symm n2f)).trans f1, e5, by rw [List.length_map, List.length_range]; omega, H1.set hit2H, (Hp.set_ne (Ne.symm n2)).trans i1⟩
          · obtain ⟨figs, r, g1, g2, g3, g4, g5, g6, g7, g8, g9⟩ := hP
            exact ⟨rfl, figs, g1, g2, (Hp.drop_ne (Ne.symm n2f)).trans g5, g6, by simpa using g7, g8.drop hit2H, (Hp.drop_ne (Ne.symm n2)).trans g9⟩
          · obtain ⟨figs, r, g1, g2, g3, g4, g5, g6, g7, g8, g9⟩ := hP
            have f2 : (σ'.H.set it2 (.it vs)) f = some (.list (intL figs)) := (Hp.set_ne (Ne.symm n2f)).trans g5
            refine J.cons (J.ExprS (J.MethL PySem.F.slot_list_append PySem.F.type_list_append (J.Nloc (lk_ne g1) ⟨f, _, rfl, f2, J.Lcons (J.BinOp (J.Nloc (lk_ne g3) (J.Cint ⟨_, .modI _ _ (by decide), J.Lnil (Cl.append f2 (by rw [sizeLine_eq, List.length_map]; omega) ?_)⟩)))⟩)))
            refine J.cons (J.AugN (lk_ne g3) (J.Cint ⟨_, .divI _ _ (by decide) (by decide), ?_⟩))
            have q0 : 0 ≤ r.fdiv 840 := Int.fdiv_nonneg g4 (by decide)
            have a0 : 0 ≤ r.fmod 840 := Int.fmod_nonneg_of_pos _ (by decide)
            have f3 : ((σ'.H.set it2 (.it vs)).set f (.list (intL figs ++ [.int (r.fmod 840)]))) f = some (.list (intL (figs ++ [r.fmod 840]))) := by rw [Hp.set_same]; simp [intL]
            have e3' : Ext H ((σ'.H.set it2 (.it vs)).set f (.list (intL figs ++ [.int (r.fmod 840)]))) := (g8.set hit2H).set hf
            have i3 : ((σ'.H.set it2 (.it vs)).set f (.list (intL figs ++ [.int (r.fmod 840)]))) it = some (.it (rest.map .int)) := (Hp.set_ne hitf).trans ((Hp.set_ne (Ne.symm n2)).trans g9)
            have j3 : ((σ'.H.set it2 (.it vs)).set f (.list (intL figs ++ [.int (r.fmod 840)]))) it2 = some (.it vs) := (Hp.set_ne n2f).trans Hp.set_same
            have nn : ∀ y ∈ figs ++ [r.fmod 840], 0 ≤ y := fun y hy => by
              rcases List.mem_append.mp hy with hy | hy
              · exact g6 y hy
              · rw [List.mem_singleton] at hy; rw [hy]; exact a0
            have ln : (figs ++ [r.fmod 840]).length + vs.length ≤ 460 := by simp at g7 ⊢; omega
            refine J.cons (J.If (J.TCmp (J.Nloc lk_eq (J.Cint ⟨_, .eqI _ _, ?_⟩))))
            refine ite_both (fun hb => J.cons (J.Break ?_)) (fun hb => J.nil (J.nil ?_))
            · exact ⟨rfl, figs ++ [r.fmod 840], lk_ne (lk_ne g1), lk_ne (lk_ne g2), (Hp.drop_ne (Ne.symm n2f)).trans f3, nn, by omega, e3'.drop hit2H, (Hp.drop_ne (Ne.symm n2)).trans i3⟩
            · exact ⟨j3, figs ++ [r.fmod 840], _, lk_ne (lk_ne g1), lk_ne (lk_ne g2), lk_eq, q0, f3, nn, ln, e3', i3⟩
        · rintro σ₂ ⟨figs, g1, g2, g5, g6, g7, g8, g9⟩
          refine J.cons (J.If (J.TCmp (J.Call (J.Nbi (by rw [hK]; k_is) rfl (by decide) (.bi _) ⟨_, rfl, rfl, J.Lcons (J.Nloc g1 (J.Lnil (Cl.lenL g5 (by rw [sizeLine_eq, List.length_map]; omega) (J.Cint ⟨_, .gtI _ _, ?_⟩))))⟩))))
          rw [List.length_map]
          refine ite_both (fun hb => J.cons (J.Break ?_)) (fun hb => J.nil (J.nil ⟨g9, rest, figs, m', rfl, g1, g2, g5, g6, ?_, m0, m1, g8⟩))
          · exact ⟨rfl, figs, m', g1, g2, (Hp.drop_ne (Ne.symm hitf)).trans g5, g6, by omega, m0, m1, g8.drop hitH⟩
          · have := of_decide_eq_false hb; omega
  · rintro σ' ⟨figs, m, e2, e3, e4, e5, e6, e7, e8, e9⟩
    refine J.cons (J.Return (J.ListD (J.Lcons (J.Nloc e2 (J.Lcons (J.Cint (J.Lcons (J.Nloc e3 (J.Lnil ⟨by simp, fun p hp => ?_⟩)))))))))
    have hp : σ'.H p = none := hp
    have hfp : f ≠ p := fun q => by rw [← q, e4] at hp; cases hp
    exact h p f _ (e9.none hp) hf ⟨figs, 0, m, Hp.set_same, (Hp.set_ne hfp).trans e4, e5, e6, by decide, by omega, e7, e8, hfp⟩ (e9.set (e9.none hp))

theorem PoolOK.off {p f : Addr} (po : PoolOK H p f) (h : H l = none) : l ≠ p := by
  obtain ⟨figs, i, mix, h1, _⟩ := po.o
  exact fun q => by rw [q, h1] at h; cases h
theorem PoolOK.set {p f : Addr} (po : PoolOK H p f) (h : H l = none) : PoolOK (H.set l ao) p f := by
  obtain ⟨figs, i, mix, h1, h2, h3⟩ := po.o
  have n1 : l ≠ p := po.off h
  have n2 : l ≠ f := fun q => by rw [q, h2] at h; cases h
  exact ⟨figs, i, mix, (Hp.set_ne n1.symm).trans h1, (Hp.set_ne n2.symm).trans h2, h3⟩
theorem PoolOK.ext {p f : Addr} (po : PoolOK H p f) (h : Ext H H₁) : PoolOK H₁ p f := by
  obtain ⟨figs, i, mix, h1, h2, h3⟩ := po.o
  exact ⟨figs, i, mix, h _ _ h1, h _ _ h2, h3⟩
set_option autoImplicit false in
inductive IvR1_5 (b : Int) (p : Addr) (f : Addr) (H : Hp) (σ' : St) : Prop
  | mk (fig : Int) (h1 : σ'.loc.lookup ("figure" : Str) = some (AV.int fig)) (h2 : σ'.loc.lookup ("bound" : Str) = some (AV.int b)) (h3 : 0 ≤ fig) (h4 : PoolOK σ'.H p f) (h5 : Keep1 p H σ'.H)
set_option maxHeartbeats 4000000 in
theorem c_pick (hK : G.K = KK G.w.params) {p f : Addr} (po : PoolOK H p f) {b : Int} (b0 : 0 < b) (b1 : b < 1000) (h : ∀ (r : Nat) H', (r : Int) < b → PoolOK H' p f → Keep1 p H H' → Q (.int r) H') : Fn G C 1 (.ref 686) [.ref p, .int b] H Q E := by
  obtain ⟨figs, i, mix, h1, h2, h3, h4, h5, h6, h7, h8, h9⟩ := po.o
  refine Fn.body (ab := [("pool", .ref p), ("bound", .int b)]) (by rw [hK]; k_is) (by rw [hK]; k_is) (fun s I ws X hv => bind2 hv fun _ _ => BindsTo.of_eq rfl) rfl (fun L' => ?_)
  have fin : ∀ (fig : Int) H', 0 ≤ fig → PoolOK H' p f → Keep1 p H H' → Q (.int (fig.fmod b)) H' := fun fig H' f0 po' k => by
    have a0 : 0 ≤ fig.fmod b := Int.fmod_nonneg_of_pos _ b0
    have a1 : fig.fmod b < b := Int.fmod_lt_of_pos _ b0
    have := h (fig.fmod b).toNat H' (by omega) po' k
    rwa [Int.toNat_of_nonneg a0] at this
  refine J.consN (P' := IvR1_5 b p f H) ?_ ?_
  · refine J.If (J.TCmp (J.ItemL (J.Nloc rfl (J.Cint ⟨p, _, 1, .int i, rfl, rfl, h1, by decide, by decide, rfl, J.Call (J.Nbi (by rw [hK]; k_is) rfl (by decide) (.bi _) ⟨_, rfl, rfl, J.Lcons (J.ItemL (J.Nloc rfl (J.Cint ⟨p, _, 0, .ref f, rfl, rfl, h1, by decide, by decide, rfl, J.Lnil (Cl.lenL h2 (by rw [sizeLine_eq, List.length_map]; omega) ⟨_, .ltI _ _, ?_⟩)⟩)))⟩)⟩))))
    rw [List.length_map]
    refine ite_both (fun hb => ?_) (fun hb => ?_)
    · have hlt : i < figs.length := of_decide_eq_true hb
      obtain ⟨x, hx⟩ : ∃ x, figs[i.toNat]? = some x := ⟨figs[i.toNat]'(by omega), List.getElem?_eq_getElem _⟩
      have x0 : 0 ≤ x := h3 x (List.mem_of_getElem? hx)
      refine J.cons (J.AssignN (J.ItemL (J.ItemL (J.Nloc rfl (J.Cint ⟨p, _, 0, .ref f, rfl, rfl, h1, by decide, by decide, rfl, J.ItemL (J.Nloc rfl (J.Cint ⟨p, _, 1, .int i, rfl, rfl, h1, by decide, by decide, rfl, ⟨f, _, i, .int x, rfl, rfl, h2, h5, by omega, by rw [List.getElem?_map, hx]; rfl, ?_⟩⟩))⟩)))))
      refine J.cons (J.AugI (J.Nloc rfl (J.Cint ⟨p, _, 1, .int i, rfl, rfl, h1, by decide, by decide, rfl, J.Cint ⟨_, _, .addI _ _, h1, by simp, J.nil ?_⟩⟩)))
      exact ⟨rfl, x, rfl, rfl, x0, ⟨figs, i + 1, mix, Hp.set_same, (Hp.set_ne h9).trans h2, h3, h4, by omega, by omega, h7, h8, h9⟩, .set⟩
    · refine J.cons (J.If (J.TCmp (J.Call (J.Nbi (by rw [hK]; k_is) rfl (by decide) (.bi _) ⟨_, rfl, rfl, J.Lcons (J.ItemL (J.Nloc rfl (J.Cint ⟨p, _, 0, .ref f, rfl, rfl, h1, by decide, by decide, rfl, J.Lnil (Cl.lenL h2 (by rw [sizeLine_eq, List.length_map]; omega) (J.Cint ⟨_, .ltI _ _, ?_⟩))⟩)))⟩))))
      refine ite_both (fun hb => ?_) (fun hb => ?_)
      · exact J.cons (J.AssignN (J.Cint (J.nil (J.nil ⟨rfl, 0, rfl, rfl, by decide, po, .refl⟩))))
      · refine J.cons (J.AssignI (J.BinOp (J.BinOp (J.BinOp (J.ItemL (J.Nloc rfl (J.Cint ⟨p, _, 2, .int mix, rfl, rfl, h1, by decide, by decide, rfl, J.Cint ⟨_, .mulI _ _ (IntMulOk.of_right (by decide)), J.Cint ⟨_, .addI _ _, J.Cint ⟨_, .modI _ _ (by decide), J.Nloc rfl (J.Cint ⟨p, _, 2, rfl, rfl, h1, by decide, by decide, by simp, ?_⟩)⟩⟩⟩⟩)))))))
        have m0 : 0 ≤ (mix * 37 + 11).fmod 1009 := Int.fmod_nonneg_of_pos _ (by decide)
        have m1 : (mix * 37 + 11).fmod 1009 < 1009 := Int.fmod_lt_of_pos _ (by decide)
        generalize (mix * 37 + 11).fmod 1009 = m' at m0 m1
        refine J.cons (J.AssignN (J.ItemL (J.Nloc rfl (J.Cint ⟨p, _, 2, .int m', rfl, rfl, Hp.set_same, by decide, by decide, rfl, J.nil (J.nil ?_)⟩))))
        exact ⟨rfl, m', rfl, rfl, m0, ⟨figs, i, m', Hp.set_same, (Hp.set_ne h9).trans h2, h3, h4, h5, h6, m0, m1, h9⟩, .set⟩
  · rintro σ' ⟨fig, e1, e2, e3, e4, e5⟩
    exact J.cons (J.Return (J.BinOp (J.Nloc e1 (J.Nloc e2 ⟨_, .modI _ _ (by omega), fin fig _ e3 e4 e5⟩))))
end Mine

namespace Mine

theorem ofL (s : String) : Str.ofString s = S (lst s) := by rw [Str.ofString_eq_toList]; rfl
-- what the law writes
noncomputable def SymOK : Sym → Prop
  | .one c => symL.contains c = true
  | .edge a b => isLevel a = true ∧ isLevel b = true
noncomputable def symT (blank : List Nat) : Sym → List Nat
  | .one c => [c]
  | .edge a b => [40, a] ++ blank ++ [b, 41]
noncomputable def spell (blank sep : List Nat) (up : Bool) (ss : List Sym) : List Nat :=
  let t := joinL sep (ss.map (symT blank))
  if up then t.map upC else t
noncomputable def startT : Option (List Nat) → List Nat
  | none => []
  | some f => lst " = " ++ f
noncomputable def headT (way : Nat) (name p0 : List Nat) (rest : List (List Nat)) (seq : Bool) (first : Option (List Nat)) : List Nat :=
  if way = 0 then name ++ lst " (" ++ (if seq then lst "output reg " else lst "output ") ++ p0 ++ startT first ++ lst ", input " ++ joinL (lst ", input ") rest ++ lst ");\n"
  else
    let text := name ++ lst " (" ++ joinL (lst ", ") (p0 :: rest) ++ lst ");\n input " ++ joinL (lst ", ") rest ++ lst ";\n"
    if way = 1 then text ++ (if seq then lst " output reg " else lst " output ") ++ p0 ++ startT first ++ lst ";\n"
    else
      let text := text ++ (lst " output " ++ p0 ++ lst ";\n")
      let text := if seq then text ++ (lst " reg " ++ p0 ++ lst ";\n") else text
      match first with
      | none => text
      | some _ => text ++ lst " initial " ++ p0 ++ startT first ++ lst ";\n"
structure Way where
  blank : List Nat
  sep : List Nat
  up : Bool
noncomputable def WayOK (w : Way) : Prop := (w.blank = [] ∨ w.blank = [32]) ∧ (w.sep = [] ∨ w.sep = [32])
noncomputable def rowT (r : Row) (w : Way) : List Nat :=
  lst "  " ++ spell w.blank w.sep w.up r.ins ++ lst " : " ++ (match r.state with | none => [] | some s => s ++ lst " : ") ++ r.out ++ lst " ;\n"
noncomputable def tabT : List (Row × Way) → List Nat
  | [] => []
  | (r, w) :: more => rowT r w ++ tabT more
noncomputable def wholeT (head : List Nat) (rows : List (Row × Way)) : List Nat := lst "primitive " ++ head ++ lst "table\n" ++ tabT rows ++ lst "endtable\nendprimitive\n"
noncomputable def tableW : List Nat := lst "table\n0 : 1 ;\nendtable\nendprimitive "
noncomputable def wrongL : List (List Nat × Str) := [(lst "u (output y);\n" ++ tableW, "primitive_ports"), (lst "u (y, a);\n output y;\n" ++ tableW, "primitive_ports"), (lst "u (y, a);\n output a; input y;\n" ++ tableW, "primitive_ports"), (lst "u (output y, a);\n" ++ tableW, "primitive_ports"),
  (lst "u (y, a);\n output y; input a; initial y = 1;\n" ++ tableW, "primitive_initial"), (lst "u (output reg y = 2, input a);\n" ++ tableW, "primitive_initial"), (lst "u (output reg y, input a);\n initial a = 1;\n" ++ tableW, "primitive_initial"),
  (lst "u (output y, input a);\n table 0 : 2 ; endtable endprimitive", "bad_table"), (lst "u (output y, input a);\n table q : 1 ; endtable endprimitive", "bad_table"), (lst "u (output y, input a);\n table (0 : 1 ; endtable endprimitive", "bad_table"), (lst "u (output y, input a);\n table (0r) : 1 ; endtable endprimitive", "bad_table"),
  (lst "u (output reg y, input a);\n table 0 : r : 1 ; endtable endprimitive", "bad_table"), (lst "u (output y, input a);\n table 0 : 1 ; endtable", "unexpected_token"), (lst "u output y, input a);", "unexpected_token")]
theorem sym_ascii : ∀ c, symL.contains c = true → c < 128 := by
  intro c h; rw [List.contains_iff_mem] at h
  have : ∀ c ∈ symL, c < 128 := by decide
  exact this c h
theorem lvl_ascii : ∀ c, isLevel c = true → c < 128 := by
  intro c h; simp [isLevel] at h; omega
theorem joinL_all {p : Nat → Prop} {sep : List Nat} (hs : ∀ c ∈ sep, p c) : ∀ {xs : List (List Nat)}, (∀ x ∈ xs, ∀ c ∈ x, p c) → ∀ c ∈ joinL sep xs, p c
  | [], _, c, h => by cases h
  | [x], hx, c, h => hx x (.head _) c h
  | x :: y :: r, hx, c, h => by
    have h : c ∈ x ++ sep ++ joinL sep (y :: r) := h
    rcases List.mem_append.mp h with h | h
    · rcases List.mem_append.mp h with h | h
      · exact hx x (.head _) c h
      · exact hs c h
    · exact joinL_all hs (fun z hz => hx z (.tail _ hz)) c h
theorem joinL_len {sep : List Nat} {m : Nat} (hs : sep.length ≤ 10) : ∀ {xs : List (List Nat)}, (∀ x ∈ xs, x.length ≤ m) → (joinL sep xs).length ≤ xs.length * (m + 10)
  | [], _ => Nat.zero_le _
  | [x], h => by have := h x (.head _); show x.length ≤ 1 * (m + 10); omega
  | x :: y :: r, h => by
    have ih := joinL_len (m := m) hs (xs := y :: r) fun z hz => h z (.tail _ hz)
    have hx := h x (.head _)
    show (x ++ sep ++ joinL sep (y :: r)).length ≤ (r.length + 1 + 1) * (m + 10)
    simp only [List.length_append, List.length_cons] at ih ⊢
    rw [Nat.add_mul (r.length + 1) 1]
    omega
theorem symT_ascii {blank : List Nat} (hb : ∀ c ∈ blank, c < 128) {s : Sym} (h : SymOK s) : ∀ c ∈ symT blank s, c < 128 := by
  cases s with
  | one c => intro d hd; rw [List.mem_singleton.mp hd]; exact sym_ascii c h
  | edge a b =>
    intro d hd
    simp only [symT, List.mem_append, List.mem_cons, List.not_mem_nil, or_false] at hd
    have h1 := lvl_ascii _ h.1
    have h2 := lvl_ascii _ h.2
    rcases hd with ((q | q) | q) | (q | q)
    · omega
    · omega
    · exact hb d q
    · omega
    · omega
theorem symT_len {blank : List Nat} (hb : blank.length ≤ 1) (s : Sym) : (symT blank s).length ≤ 5 := by
  cases s with
  | one c => show 1 ≤ 5; decide
  | edge a b => simp only [symT, List.length_append, List.length_cons, List.length_nil]; omega
theorem upC_ascii {c : Nat} (h : c < 128) : upC c < 128 := by unfold upC; split <;> omega
theorem body_ascii {blank sep : List Nat} (hb : ∀ c ∈ blank, c < 128) (hs : ∀ c ∈ sep, c < 128) {ss : List Sym} (h : ∀ s ∈ ss, SymOK s) : ∀ c ∈ joinL sep (ss.map (symT blank)), c < 128 :=
  joinL_all hs fun x hx => by obtain ⟨s, hs', rfl⟩ := List.mem_map.mp hx; exact symT_ascii hb (h s hs')
theorem body_len {blank sep : List Nat} (hb : blank.length ≤ 1) (hs : sep.length ≤ 1) (ss : List Sym) : (joinL sep (ss.map (symT blank))).length ≤ ss.length * 15 := by
  have := joinL_len (m := 5) (sep := sep) (by omega) (xs := ss.map (symT blank)) fun x hx => by obtain ⟨s, _, rfl⟩ := List.mem_map.mp hx; exact symT_len hb s
  simpa using this
end Mine

namespace Mine
noncomputable def namesL : List (List Nat) := [lst "u", lst "m_1", lst "q", lst "a", lst "b", lst "c", lst "d$"]
noncomputable def firstsL : List (Option (List Nat)) := [none, some (lst "0"), some (lst "1"), some (lst "1'b1"), some (lst "1'bx"), some (lst "1'B0")]
noncomputable def portOf (st k : Nat) : List Nat := (namesL[(st + 1 + k) % 7]?).getD []
theorem port_mem (st k : Nat) : portOf st k ∈ namesL := by
  have h : (st + 1 + k) % 7 < namesL.length := Nat.mod_lt _ (by decide)
  unfold portOf
  rw [List.getElem?_eq_getElem h]
  exact List.getElem_mem h
noncomputable def StateOK (seq : Bool) (st : Option (List Nat)) : Prop := (seq = false ∧ st = none) ∨ (seq = true ∧ ∃ c, isLevel c = true ∧ st = some [c])
noncomputable def OutOK (o : List Nat) : Prop := ∃ c, c ∈ [48, 49, 120, 45] ∧ o = [c]
structure RowOK (seq : Bool) (r : Row) : Prop where
  len : r.ins.length ≤ 4
  sym : ∀ s ∈ r.ins, SymOK s
  st : StateOK seq r.state
  out : OutOK r.out
-- sizes, signs
noncomputable abbrev Asc (l : List Nat) : Prop := ∀ c ∈ l, c < 128
theorem Asc.app {a b : List Nat} (h1 : Asc a) (h2 : Asc b) : Asc (a ++ b) := fun c h => (List.mem_append.mp h).elim (h1 c) (h2 c)
theorem lenA {a w : List Nat} {n m : Nat} (h1 : a.length ≤ n) (h2 : w.length ≤ m) : (a ++ w).length ≤ n + m := by rw [List.length_append]; exact Nat.add_le_add h1 h2
theorem names_asc : ∀ w ∈ namesL, Asc w := by decide +kernel
theorem names_len : ∀ w ∈ namesL, w.length ≤ 5 := by decide +kernel
theorem names_ne : ∀ w ∈ namesL, w ≠ [] := by decide +kernel
theorem firsts_asc : ∀ f ∈ firstsL, Asc (startT f) ∧ (startT f).length ≤ 10 := by decide +kernel
theorem asc_lits : Asc (lst " (") ∧ Asc (lst "output reg ") ∧ Asc (lst "output ") ∧ Asc (lst ", input ") ∧ Asc (lst ");\n") ∧ Asc (lst ", ") ∧ Asc (lst ");\n input ") ∧ Asc (lst ";\n") ∧ Asc (lst " output reg ") ∧ Asc (lst " output ") ∧ Asc (lst " reg ") ∧ Asc (lst " initial ") ∧ Asc (lst "primitive ") ∧ Asc (lst "table\n") ∧ Asc (lst "endtable\nendprimitive\n") ∧ Asc (lst "  ") ∧ Asc (lst " : ") ∧ Asc (lst " ;\n") := by decide +kernel
theorem len_lits : (lst " (").length ≤ 30 ∧ (lst "output reg ").length ≤ 30 ∧ (lst "output ").length ≤ 30 ∧ (lst ", input ").length ≤ 10 ∧ (lst ");\n").length ≤ 30 ∧ (lst ", ").length ≤ 10 ∧ (lst ");\n input ").length ≤ 30 ∧ (lst ";\n").length ≤ 30 ∧ (lst " output reg ").length ≤ 30 ∧ (lst " output ").length ≤ 30 ∧ (lst " reg ").length ≤ 30 ∧ (lst " initial ").length ≤ 30 ∧ (lst "primitive ").length ≤ 30 ∧ (lst "table\n").length ≤ 30 ∧ (lst "endtable\nendprimitive\n").length ≤ 30 ∧ (lst "  ").length ≤ 30 ∧ (lst " : ").length ≤ 30 ∧ (lst " ;\n").length ≤ 30 := by decide +kernel
theorem head_ok {way : Nat} {name p0 : List Nat} {rest : List (List Nat)} {seq : Bool} {first : Option (List Nat)} (hn : name ∈ namesL) (hp : ∀ x ∈ p0 :: rest, x ∈ namesL) (hl : (p0 :: rest).length ≤ 6) (hf : first ∈ firstsL) :
    Asc (headT way name p0 rest seq first) ∧ (headT way name p0 rest seq first).length ≤ 1000 := by
  obtain ⟨a1, a2, a3, a4, a5, a6, a7, a8, a9, a10, a11, a12, _⟩ := asc_lits
  obtain ⟨b1, b2, b3, b4, b5, b6, b7, b8, b9, b10, b11, b12, _⟩ := len_lits
  obtain ⟨s1, s2⟩ := firsts_asc first hf
  have n1 := names_asc name hn
  have n2 := names_len name hn
  have q1 := names_asc p0 (hp p0 (.head _))
  have q2 := names_len p0 (hp p0 (.head _))
  have hr : ∀ x ∈ rest, x.length ≤ 5 := fun x hx => names_len x (hp x (.tail _ hx))
  have hr' : ∀ x ∈ p0 :: rest, x.length ≤ 5 := fun x hx => names_len x (hp x hx)
  have r1 : Asc (joinL (lst ", input ") rest) := joinL_all a4 fun x hx => names_asc x (hp x (.tail _ hx))
  have r2 : Asc (joinL (lst ", ") rest) := joinL_all a6 fun x hx => names_asc x (hp x (.tail _ hx))
  have r3 : Asc (joinL (lst ", ") (p0 :: rest)) := joinL_all a6 fun x hx => names_asc x (hp x hx)
  have l1 := joinL_len (m := 5) b4 hr
  have l2 := joinL_len (m := 5) b6 hr
  have l3 := joinL_len (m := 5) b6 hr'
  simp only [List.length_cons] at hl l3
  replace l1 := Nat.le_trans l1 (show _ ≤ 90 by omega)
  replace l2 := Nat.le_trans l2 (show _ ≤ 90 by omega)
  replace l3 := Nat.le_trans l3 (show _ ≤ 90 by omega)
  unfold headT
  refine ⟨?_, ?_⟩
  · dsimp only
    repeat' split
    all_goals (repeat' (first | with_reducible assumption | with_reducible apply Asc.app))
  · dsimp only
    repeat' split
    all_goals exact Nat.le_trans (by repeat' (first | with_reducible assumption | with_reducible apply lenA)) (by decide)
theorem spell_ok {w : Way} (hw : WayOK w) {ss : List Sym} (h : ∀ s ∈ ss, SymOK s) (hl : ss.length ≤ 4) : Asc (spell w.blank w.sep w.up ss) ∧ (spell w.blank w.sep w.up ss).length ≤ 60 := by
  obtain ⟨hw1, hw2⟩ := hw
  have bA : Asc w.blank := by rcases hw1 with e | e <;> rw [e] <;> decide
  have bL : w.blank.length ≤ 1 := by rcases hw1 with e | e <;> rw [e] <;> decide
  have sA : Asc w.sep := by rcases hw2 with e | e <;> rw [e] <;> decide
  have sL : w.sep.length ≤ 1 := by rcases hw2 with e | e <;> rw [e] <;> decide
  have t1 := body_ascii bA sA h
  have t2 := body_len bL sL ss
  unfold spell
  dsimp only
  split
  · refine ⟨fun c hc => ?_, by rw [List.length_map]; omega⟩
    obtain ⟨d, hd, rfl⟩ := List.mem_map.mp hc
    exact upC_ascii (t1 d hd)
  · exact ⟨t1, by omega⟩
theorem row_ok {seq : Bool} {r : Row} (h : RowOK seq r) {w : Way} (hw : WayOK w) : Asc (rowT r w) ∧ (rowT r w).length ≤ 300 := by
  obtain ⟨_, _, _, _, _, _, _, _, _, _, _, _, _, _, _, a1, a2, a3⟩ := asc_lits
  obtain ⟨_, _, _, _, _, _, _, _, _, _, _, _, _, _, _, b1, b2, b3⟩ := len_lits
  obtain ⟨sp1, sp2⟩ := spell_ok hw h.sym h.len
  obtain ⟨co, hco, eo⟩ := h.out
  have oA : Asc r.out := by rw [eo]; intro c hc; rw [List.mem_singleton] at hc; subst hc; have : ∀ c ∈ [48, 49, 120, 45], c < 128 := by decide
                            exact this _ hco
  have oL : r.out.length ≤ 1 := by rw [eo]; exact Nat.le_refl _
  unfold rowT
  rcases h.st with ⟨_, e⟩ | ⟨_, c, hc, e⟩
  · rw [e]
    refine ⟨?_, ?_⟩
    · dsimp only
      repeat' (first | with_reducible assumption | with_reducible apply Asc.app | (intro c hc; cases hc; done))
    · simp only [List.length_append, List.length_nil]; omega
  · rw [e]
    have cA : Asc [c] := fun d hd => by rw [List.mem_singleton] at hd; subst hd; exact lvl_ascii _ hc
    refine ⟨?_, ?_⟩
    · dsimp only
      repeat' (first | with_reducible assumption | with_reducible apply Asc.app)
    · simp only [List.length_append, List.length_cons, List.length_nil]; omega
theorem tab_ok {seq : Bool} : ∀ {rows : List (Row × Way)}, (∀ x ∈ rows, RowOK seq x.1 ∧ WayOK x.2) → Asc (tabT rows) ∧ (tabT rows).length ≤ rows.length * 300
  | [], _ => ⟨fun c h => (by cases h), Nat.zero_le _⟩
  | (r, w) :: more, h => by
    obtain ⟨h1, h2⟩ : RowOK seq r ∧ WayOK w := h _ (.head _)
    obtain ⟨a, b⟩ := row_ok h1 h2
    obtain ⟨a', b'⟩ := tab_ok (rows := more) fun x hx => h x (.tail _ hx)
    refine ⟨a.app a', ?_⟩
    show (rowT r w ++ tabT more).length ≤ (more.length + 1) * 300
    rw [List.length_append, Nat.add_mul]; omega
theorem tab_app (a : List (Row × Way)) (r : Row) (w : Way) : tabT (a ++ [(r, w)]) = tabT a ++ rowT r w := by
  induction a with
  | nil => simp [tabT]
  | cons x a ih => obtain ⟨r', w'⟩ := x; simp only [List.cons_append, tabT, ih, List.append_assoc]
noncomputable def lastOf : Option (List Nat) → List Nat
  | none => [120]
  | some f => [(f.getLast?).getD 0]
noncomputable def initOf (first : Option (List Nat)) : Int := levelCode (lastOf first)
noncomputable def primOf (name p0 : List Nat) (rest : List (List Nat)) (seq : Bool) (first : Option (List Nat)) (rows : List (Row × Way)) : Prim := ⟨name, p0 :: rest, seq, initOf first, rows.map (·.1)⟩
end Mine

namespace Mine
variable {G : Cfg} {C : Addr} {H H₁ : Hp} {Q : AV → Hp → Prop} {E : Str → Prop} {l p f : Addr} {ao : AO}

noncomputable def ExtP (p : Addr) (H H' : Hp) : Prop := ∀ a ao, a ≠ p → H a = some ao → H' a = some ao
theorem ExtP.refl : ExtP p H H := fun _ _ _ e => e
theorem ExtP.trans {A B D : Hp} (a : ExtP p A B) (b : ExtP p B D) : ExtP p A D := fun x o n e => b x o n (a x o n e)
theorem ExtP.set (k : ExtP p H H₁) (h : H l = none) : ExtP p H (H₁.set l ao) := fun a o n e => by
  have : a ≠ l := fun q => by rw [q, h] at e; cases e
  rw [Hp.set_ne this]; exact k a o n e
theorem ExtP.drop (k : ExtP p H H₁) (h : H l = none) : ExtP p H (H₁.drop l) := fun a o n e => by
  have : a ≠ l := fun q => by rw [q, h] at e; cases e
  rw [Hp.drop_ne this]; exact k a o n e
theorem ExtP.none (k : ExtP p H H₁) (n : l ≠ p) (h : H₁ l = Option.none) : H l = Option.none := by
  cases e : H l with
  | none => rfl
  | some ao => rw [k l ao n e] at h; cases h
theorem Keep1.extP (k : Keep1 p H H₁) : ExtP p H H₁ := fun a o n e => (k a n).trans e

section
variable {k : Nat} {env : Env} {σ : St} {pos : Pos} {QS : AV → St → Prop}
theorem J.CL {s : String} {n : Nat} (h : QS (.str (S (lst s))) σ) : JE G C k env (.Constant (.str (Str.ofString s)) n pos) σ QS E := J.Cstr (by rw [ofL]; exact h)
end
theorem get_of {t : List Nat} {n : Nat} (h : n < t.length) : ∃ c, t[n]? = some c ∧ c ∈ t := ⟨t[n], List.getElem?_eq_getElem h, List.getElem_mem h⟩

theorem l_lv : lst "01?bx" = [48, 49, 63, 98, 120] := by decide +kernel
theorem l_lw : lst "01x?b" = [48, 49, 120, 63, 98] := by decide +kernel
theorem l_ed : lst "rfpn*" = [114, 102, 112, 110, 42] := by decide +kernel
theorem lv_sym : ∀ c ∈ [48, 49, 63, 98, 120], symL.contains c = true := by decide
theorem ed_sym : ∀ c ∈ [114, 102, 112, 110, 42], symL.contains c = true := by decide
theorem lw_lvl : ∀ c ∈ [48, 49, 120, 63, 98], isLevel c = true := by decide

set_option autoImplicit false in
inductive IvR2_1 (edges : Bool) (p : Addr) (f : Addr) (H : Hp) (σ' : St) : Prop
  | mk (r : Nat) (H' : Hp) (h1 : σ' = ⟨[("edges", .bool edges), ("pool", .ref p), ("way", .int r)], H'⟩) (h2 : r < 12) (h3 : PoolOK H' p f) (h4 : Keep1 p H H')
theorem c_symbol (hK : G.K = KK G.w.params) (po : PoolOK H p f) {edges : Bool} (h : ∀ sy H', SymOK sy → PoolOK H' p f → Keep1 p H H' → Q (symAV sy) H') : Fn G C 2 (.ref 693) [.ref p, .bool edges] H Q E := by
  refine Fn.body (ab := [("pool", .ref p), ("edges", .bool edges)]) (by rw [hK]; k_is) (by rw [hK]; k_is) (fun s I ws X hv => bind2 hv fun _ _ => BindsTo.of_eq rfl) rfl (fun L' => ?_)
  refine J.consN (P' := IvR2_1 edges p f H) ?_ ?_
  · refine J.AssignN (J.Call (J.Nglob (by rw [hK]; k_is) (.ref 686) ⟨_, rfl, kok (by rw [hK]; k_is), J.Lcons (J.Nloc rfl (J.Lcons (J.IfE (J.Tval (J.Nloc rfl ⟨edges, rfl, ?_⟩)))))⟩))
    cases edges with
    | true =>
      rw [if_pos rfl]
      exact J.Cint (J.Lnil ((c_pick hK po (by decide) (by decide) fun r H' hr po' k => ⟨rfl, r, H', rfl, by omega, po', k⟩).clUp))
    | false =>
      rw [if_neg (by decide)]
      exact J.Cint (J.Lnil ((c_pick hK po (by decide) (by decide) fun r H' hr po' k => ⟨rfl, r, H', rfl, by omega, po', k⟩).clUp))
  · rintro _ ⟨r, H1, rfl, hr, po1, k1⟩
    refine J.cons (J.If (J.TCmp (J.Nloc rfl (J.Cint ⟨_, .ltI _ _, ?_⟩))))
    refine ite_both (fun hb => ?_) (fun hb => J.nil ?_)
    · have hlt : r < 5 := by have := of_decide_eq_true hb; omega
      obtain ⟨c, hc, hm⟩ := get_of (t := lst "01?bx") (n := r) (by rw [l_lv]; exact hlt)
      rw [l_lv] at hm
      exact J.cons (J.Return (J.ItemC (J.CL (J.Nloc rfl ⟨_, r, c, rfl, rfl, by omega, hc, h (.one c) H1 (lv_sym c hm) po1 k1⟩))))
    · have hge : 5 ≤ r := by have := of_decide_eq_false hb; omega
      refine J.cons (J.If (J.TCmp (J.Nloc rfl (J.Cint ⟨_, .ltI _ _, ?_⟩))))
      refine ite_both (fun hb => ?_) (fun hb => J.nil ?_)
      · have hlt : r < 10 := by have := of_decide_eq_true hb; omega
        obtain ⟨c, hc, hm⟩ := get_of (t := lst "rfpn*") (n := r - 5) (by rw [l_ed]; show r - 5 < 5; omega)
        rw [l_ed] at hm
        exact J.cons (J.Return (J.ItemC (J.CL (J.BinOp (J.Nloc rfl (J.Cint ⟨_, .subI _ _, ⟨_, r - 5, c, rfl, by congr 1; omega, by omega, hc, h (.one c) H1 (ed_sym c hm) po1 k1⟩⟩))))))
      · refine J.cons (J.Return (J.TupleD (J.Lcons (J.Cstr (J.Lcons (J.ItemC (J.CL (J.Call (J.Nglob (by rw [hK]; k_is) (.ref 686) ⟨_, rfl, kok (by rw [hK]; k_is), J.Lcons (J.Nloc rfl (J.Lcons (J.Cint (J.Lnil (c_pick hK po1 (by decide) (by decide) fun r2 H2 hr2 po2 k2 => ?_).clUp))))⟩)))))))))
        obtain ⟨a, ha, hma⟩ := get_of (t := lst "01x?b") (n := r2) (by rw [l_lw]; show r2 < 5; omega)
        refine ⟨_, r2, a, rfl, rfl, by omega, ha, ?_⟩
        refine J.Lcons (J.ItemC (J.CL (J.Call (J.Nglob (by rw [hK]; k_is) (.ref 686) ⟨_, rfl, kok (by rw [hK]; k_is), J.Lcons (J.Nloc rfl (J.Lcons (J.Cint (J.Lnil (c_pick hK po2 (by decide) (by decide) fun r3 H3 hr3 po3 k3 => ?_).clUp))))⟩))))
        obtain ⟨b, hb2, hmb⟩ := get_of (t := lst "01x?b") (n := r3) (by rw [l_lw]; show r3 < 5; omega)
        rw [l_lw] at hma hmb
        exact ⟨_, r3, b, rfl, rfl, by omega, hb2, J.Lnil ⟨by simp, h (.edge a b) H3 ⟨lw_lvl a hma, lw_lvl b hmb⟩ po3 ((k1.trans k2).trans k3)⟩⟩

theorem PoolOK.dropx (po : PoolOK H p f) (h1 : l ≠ p) (h2 : l ≠ f) : PoolOK (H.drop l) p f := by
  obtain ⟨figs, i, mix, g1, g2, h3⟩ := po.o
  exact ⟨figs, i, mix, (Hp.drop_ne h1.symm).trans g1, (Hp.drop_ne h2.symm).trans g2, h3⟩
theorem PoolOK.setx {ao' : AO} (po : PoolOK H p f) (h1 : l ≠ p) (h2 : l ≠ f) : PoolOK (H.set l ao') p f := by
  obtain ⟨figs, i, mix, g1, g2, h3⟩ := po.o
  exact ⟨figs, i, mix, (Hp.set_ne h1.symm).trans g1, (Hp.set_ne h2.symm).trans g2, h3⟩
theorem PoolOK.offF (po : PoolOK H p f) (h : H l = none) : l ≠ f := by
  obtain ⟨figs, i, mix, h1, h2, _⟩ := po.o
  exact fun q => by rw [q, h2] at h; cases h
noncomputable abbrev zLoc (p : Addr) (ss : List Sym) : List (Str × AV) := [("symbols", .tup (ss.map symAV)), ("pool", .ref p)]
theorem len3 (n : Nat) : ((n : Int) == 3) = (n == 3) := by rw [Bool.eq_iff_iff]; simp; omega
theorem fits3 {a w : List Nat} (h1 : a.length ≤ 1000000) (h2 : w.length ≤ 1000000) : (S a).length + (S w).length ≤ sizeLine := by rw [S_len, S_len, sizeLine_eq]; omega
theorem fits4 {a w : List Nat} {n m : Nat} (h1 : a.length ≤ n) (h2 : w.length ≤ m) (h3 : n + m ≤ 1000000) : (S a).length + (S w).length ≤ sizeLine := by rw [S_len, S_len, sizeLine_eq]; omega
theorem binA {a w : List Nat} {n m : Nat} {Q : AV → St → Prop} {σ : St} (h1 : a.length ≤ n) (h2 : w.length ≤ m) (h3 : n + m ≤ 1000000) (q : Q (.str (S (a ++ w))) σ) : BinQ .Add (.str (S a)) (.str (S w)) Q σ :=
  ⟨_, .addS _ _ (fits4 h1 h2 h3), by rw [S_app]; exact q⟩
theorem augA {a w : List Nat} {n m : Nat} {x : Str} {Q : AF → St → Prop} {σ : St} (h1 : a.length ≤ n) (h2 : w.length ≤ m) (h3 : n + m ≤ 1000000) (q : Q .next ⟨setL x (.str (S (a ++ w))) σ.loc, σ.H⟩) : AugQ .Add (.str (S a)) (.str (S w)) x Q σ :=
  ⟨_, .addS _ _ (fits4 h1 h2 h3), by rw [S_app]; exact q⟩
theorem l_par : lst "(" = [40] := by decide +kernel
theorem l_rap : lst ")" = [41] := by decide +kernel
theorem l_nil : lst "" = [] := by decide +kernel
theorem l_sp : lst " " = [32] := by decide +kernel

theorem symAV_len (sy : Sym) : (∃ c, sy = .one c) ∨ ∃ a b, sy = .edge a b := by cases sy with | one c => exact .inl ⟨c, rfl⟩ | edge a b => exact .inr ⟨a, b, rfl⟩
theorem sum_le {m : Nat} : ∀ {xs : List (List Nat)}, (∀ x ∈ xs, x.length ≤ m) → ((xs.map S).map (·.length)).sum ≤ xs.length * m
  | [], _ => by simp
  | x :: xs, h => by
    have h1 := h x (.head _)
    have h2 := sum_le (xs := xs) fun y hy => h y (.tail _ hy)
    simp only [List.map_cons, List.sum_cons, S_len, List.length_cons]
    rw [Nat.add_mul]; omega
set_option autoImplicit false in
inductive IvR2_2 (p : Addr) (ss : List Sym) (f : Addr) (H : Hp) (L' : Addr) (σ' : St) : Prop
  | mk (bl : List Nat) (H' : Hp) (h1 : σ' = ⟨zLoc p ss, H'⟩) (h2 : (bl = [] ∨ bl = [32])) (h3 : PoolOK H' p f) (h4 : ExtP p H H') (h5 : H' (L' + 1) = some (.cell (some (.str (S bl)))))
set_option autoImplicit false in
inductive IvR2_3 (p : Addr) (ss : List Sym) (H1 : Hp) (bl : List Nat) (σ' : St) : Prop
  | mk (D : Addr) (H' : Hp) (h1 : σ' = ⟨zLoc p ss ++ [(Str.ofString "texts", AV.ref D)], H'⟩) (h2 : Ext H1 H') (h3 : H1 D = none) (h4 : H' D = some (.list ((ss.map (symT bl)).map fun t => .str (S t))))
set_option autoImplicit false in
inductive IvR2_4 (ss : List Sym) (bl : List Nat) (p : Addr) (H1 : Hp) (D : Addr) (Cc : Addr) (it : Addr) (vs : List AV) (acc : List AV) (σ : St) : Prop
  | mk (done : List Sym) (rest : List Sym) (h1 : ss = done ++ rest) (h2 : vs = rest.map symAV) (h3 : acc = (done.map (symT bl)).map (fun t => AV.str (S t))) (h4 : σ.loc = zLoc p ss) (h5 : Ext H1 σ.H) (h6 : σ.H D = some (.list acc)) (h7 : (∃ l, σ.H Cc = some (.ns l))) (h8 : σ.H it = some (.it vs))
set_option autoImplicit false in
inductive IvR2_5 (p : Addr) (ss : List Sym) (bl : List Nat) (f : Addr) (H : Hp) (σ' : St) : Prop
  | mk (sep : List Nat) (H' : Hp) (h1 : σ'.loc.lookup ("pool" : Str) = some (AV.ref p)) (h2 : σ'.loc.lookup ("text" : Str) = some (AV.str (S (joinL sep (ss.map (symT bl)))))) (h3 : σ'.H = H') (h4 : (sep = [] ∨ sep = [32])) (h5 : PoolOK H' p f) (h6 : ExtP p H H')
set_option maxHeartbeats 4000000 in
theorem c_spelled (hK : G.K = KK G.w.params) (po : PoolOK H p f) {ss : List Sym} (hs : ∀ s ∈ ss, SymOK s) (hn : ss.length ≤ 10)
    (h : ∀ w H', WayOK w → PoolOK H' p f → ExtP p H H' → Q (.str (S (spell w.blank w.sep w.up ss))) H') : Fn G C 2 (.ref 698) [.ref p, .tup (ss.map symAV)] H Q E := by
  refine Fn.bodyC (ab := [("pool", .ref p), ("symbols", .tup (ss.map symAV))]) "blank" (by rw [hK]; k_is) (by rw [hK]; k_is) (fun s I ws X hv => bind2 hv fun _ _ => BindsTo.of_eq rfl) rfl (fun _ => rfl) (fun L' hL => ?_)
  have poC : PoolOK (H.set (L' + 1) (.cell none)) p f := po.set hL
  have nC : L' + 1 ≠ p := po.off hL
  have nCf : L' + 1 ≠ f := po.offF hL
  refine J.consN (P' := IvR2_2 p ss f H L') ?_ ?_
  · refine J.AssignC (J.ItemL (J.ListD (J.Lcons (J.CL (J.Lcons (J.CL (J.Lnil ⟨by simp, fun b hb => J.Call (J.Nglob (by rw [hK]; k_is) (.ref 686) ⟨_, rfl, kok (by rw [hK]; k_is), J.Lcons (J.Nloc rfl (J.Lcons (J.Cint (J.Lnil ?_))))⟩)⟩))))))) rfl
    have hb : (H.set (L' + 1) (.cell none)) b = none := hb
    refine (c_pick hK (poC.set hb) (by decide) (by decide) fun r H1 hr po1 k1 => ?_).clUp
    have nb : b ≠ p := poC.off hb
    have hbC : b ≠ L' + 1 := fun q => by rw [q, Hp.set_same] at hb; cases hb
    have hbH : H b = none := by rw [Hp.set_ne hbC] at hb; exact hb
    have b1 : H1 b = some (.list [.str (S (lst "")), .str (S (lst " "))]) := (k1 b nb).trans Hp.set_same
    have c1 : H1 (L' + 1) = some (.cell none) := (k1 _ nC).trans ((Hp.set_ne (Ne.symm hbC)).trans Hp.set_same)
    have e1 : ExtP p H H1 := ((ExtP.refl.set hL).set hbH).trans k1.extP
    obtain ⟨v, hv, bl, rfl, hbl⟩ : ∃ v, ([.str (S (lst "")), .str (S (lst " "))] : List AV)[r]? = some v ∧ ∃ bl, v = .str (S bl) ∧ (bl = [] ∨ bl = [32]) := by
      have : r = 0 ∨ r = 1 := by omega
      rcases this with rfl | rfl
      · exact ⟨_, rfl, _, rfl, .inl l_nil⟩
      · exact ⟨_, rfl, _, rfl, .inr l_sp⟩
    exact ⟨b, _, r, _, rfl, rfl, b1, by omega, by omega, by simpa using hv, ⟨_, c1⟩, rfl, bl, _, rfl, hbl, po1.setx nC nCf, e1.set hL, Hp.set_same⟩
  · rintro _ ⟨bl, H1, rfl, hbl, po1, e1, c1⟩
    have bl1 : bl.length ≤ 1 := by rcases hbl with rfl | rfl <;> decide
    refine J.consN (P' := IvR2_3 p ss H1 bl) ?_ ?_
    · refine J.AssignComp (J.Nloc rfl ⟨_, _, .tup _, fun it D Cc hit hD hCc n1 n2 n3 => ?_⟩) rfl rfl rfl (by decide) rfl (by decide) rfl rfl
      have hit : H1 it = none := hit
      have hD : H1 D = none := hD
      have hCc : H1 Cc = none := hCc
      refine CompJ.ind (IvR2_4 ss bl p H1 D Cc it) (fun acc σ hP => ?_) (fun v vs acc σ hP => ?_) _ _ _
        ⟨[], ss, rfl, rfl, rfl, rfl, ((Ext.refl.set hit).set hD).set hCc, (Hp.set_ne n3).trans Hp.set_same, ⟨[], Hp.set_same⟩, (Hp.set_ne n2).trans ((Hp.set_ne n1).trans Hp.set_same)⟩
      · obtain ⟨done, rest, g1, g2, g3, g4, g6, g7, ⟨l, g8⟩, g10⟩ := hP
        have : rest = [] := by cases rest with | nil => rfl | cons _ _ => cases g2
        subst this
        rw [List.append_nil] at g1
        subst g1
        exact ⟨rfl, D, _, by rw [g4]; rfl, (g6.drop hit).drop hCc, hD, by rw [Hp.drop_ne n3, Hp.drop_ne n1.symm, g7, g3]⟩
      · obtain ⟨done, rest, g1, g2, g3, g4, g6, g7, ⟨l, g8⟩, g10⟩ := hP
        cases rest with
        | nil => cases g2
        | cons sy rest =>
          obtain ⟨rfl, rfl⟩ := List.cons.inj g2
          have e5 : Ext H1 ((σ.H.set it (.it (rest.map symAV))).set Cc (.ns [("symbol", symAV sy)])) := (g6.set hit).set hCc
          have d5 : ((σ.H.set it (.it (rest.map symAV))).set Cc (.ns [("symbol", symAV sy)])) D = some (.list acc) := (Hp.set_ne n3).trans ((Hp.set_ne n1.symm).trans g7)
          have i5 : ((σ.H.set it (.it (rest.map symAV))).set Cc (.ns [("symbol", symAV sy)])) it = some (.it (rest.map symAV)) := (Hp.set_ne n2).trans Hp.set_same
          have c5 : ((σ.H.set it (.it (rest.map symAV))).set Cc (.ns [("symbol", symAV sy)])) Cc = some (.ns [("symbol", symAV sy)]) := Hp.set_same
          have b5 := e5 _ _ c1
          have la : acc.length ≤ 10000 := by rw [g3, List.length_map, List.length_map]; rw [g1, List.length_append] at hn; omega
          generalize ((σ.H.set it (.it (rest.map symAV))).set Cc (.ns [("symbol", symAV sy)])) = H5 at e5 d5 b5 i5 c5 ⊢
          refine J.monoQ (Q := fun u σ' => u = AV.str (S (symT bl sy)) ∧ σ' = ⟨σ.loc, H5⟩) ?_ ?_
          · rcases symAV_len sy with ⟨c, rfl⟩ | ⟨a, b, rfl⟩
            · refine J.IfE (J.TCmp (J.Call (J.Nbi (by rw [hK]; k_is) rfl (by decide) (.bi _) ⟨_, rfl, rfl, J.Lcons (J.Nns c5 rfl (J.Lnil (Cl.lenS (by rw [S_len, sizeLine_eq]; show 1 ≤ _; omega) (J.Cint ⟨_, .eqI _ _, ?_⟩))))⟩)))
              rw [S_len]
              exact J.Nns c5 rfl ⟨rfl, rfl⟩
            · refine J.IfE (J.TCmp (J.Call (J.Nbi (by rw [hK]; k_is) rfl (by decide) (.bi _) ⟨_, rfl, rfl, J.Lcons (J.Nns c5 rfl (J.Lnil (Cl.lenT (by rw [sizeLine_eq]; show 3 ≤ _; omega) (J.Cint ⟨_, .eqI _ _, ?_⟩))))⟩)))
              refine J.BinOp (J.BinOp (J.BinOp (J.BinOp (J.CL (J.ItemT (J.Nns c5 rfl (J.Cint ⟨_, 1, 1, .str (S [a]), rfl, rfl, by decide, by decide, rfl, rfl, ⟨_, .addS _ _ (fits3 (by rw [l_par]; decide) (by simp)), ?_⟩⟩)))))))
              rw [S_app]
              refine J.Ncell rfl b5 ⟨_, .addS _ _ (fits3 (by rw [l_par]; simp) (by omega)), ?_⟩
              rw [S_app]
              refine J.ItemT (J.Nns c5 rfl (J.Cint ⟨_, 2, 2, .str (S [b]), rfl, rfl, by decide, by decide, rfl, rfl, ⟨_, .addS _ _ (fits3 (by rw [l_par]; simp; omega) (by simp)), ?_⟩⟩))
              rw [S_app]
              refine J.CL ⟨_, .addS _ _ (fits3 (by rw [l_par]; simp; omega) (by rw [l_rap]; decide)), ?_⟩
              rw [S_app]
              exact ⟨by rw [l_par, l_rap]; simp [symT], rfl⟩
          · rintro u _ ⟨rfl, rfl⟩
            exact ⟨i5, d5, ⟨_, c5⟩, la, done ++ [sy], rest, by rw [g1, List.append_assoc]; rfl, rfl, by rw [g3]; simp, g4, e5.set hD, Hp.set_same, ⟨_, (Hp.set_ne n3.symm).trans c5⟩, (Hp.set_ne n1).trans i5⟩
    · rintro _ ⟨D, H2, rfl, e2, hD, d2⟩
      have po2 := po1.ext e2
      have c2 := e2 _ _ c1
      have x2 : ExtP p H H2 := e1.trans fun a o _ e => e2 a o e
      have d2' : H2 D = some (.list (((ss.map (symT bl)).map S).map .str)) := by rw [d2, List.map_map (f := S)]; rfl
      have nD : D ≠ p := po1.off hD
      have lenB : ∀ x ∈ ss.map (symT bl), x.length ≤ 5 := fun x hx => by obtain ⟨s, _, rfl⟩ := List.mem_map.mp hx; exact symT_len bl1 s
      refine J.consN (P' := IvR2_5 p ss bl f H) ?_ ?_
      · refine J.AssignN (J.MethS PySem.F.slot_str_join PySem.F.type_str_join (J.ItemL (J.ListD (J.Lcons (J.CL (J.Lcons (J.CL (J.Lnil ⟨by simp, fun b hb => J.Call (J.Nglob (by rw [hK]; k_is) (.ref 686) ⟨_, rfl, kok (by rw [hK]; k_is), J.Lcons (J.Nloc rfl (J.Lcons (J.Cint (J.Lnil ?_))))⟩)⟩))))))))
        have hb : H2 b = none := hb
        refine (c_pick hK (po2.set hb) (by decide) (by decide) fun r H3 hr po3 k3 => ?_).clUp
        have nb : b ≠ p := po2.off hb
        have bD : b ≠ D := fun q => by rw [q, d2] at hb; cases hb
        have b3 : H3 b = some (.list [.str (S (lst " ")), .str (S (lst ""))]) := (k3 b nb).trans Hp.set_same
        have d3 : H3 D = some (.list (((ss.map (symT bl)).map S).map .str)) := (k3 D nD).trans ((Hp.set_ne bD.symm).trans d2')
        obtain ⟨v, hv, sep, rfl, hsep⟩ : ∃ v, ([.str (S (lst " ")), .str (S (lst ""))] : List AV)[r]? = some v ∧ ∃ sep, v = .str (S sep) ∧ (sep = [] ∨ sep = [32]) := by
          have : r = 0 ∨ r = 1 := by omega
          rcases this with rfl | rfl
          · exact ⟨_, rfl, _, rfl, .inr l_sp⟩
          · exact ⟨_, rfl, _, rfl, .inl l_nil⟩
        have lsep : sep.length ≤ 1 := by rcases hsep with rfl | rfl <;> decide
        refine ⟨b, _, r, _, rfl, rfl, b3, by omega, by omega, by simpa using hv, S sep, rfl, J.Lcons (J.Nloc rfl (J.Lnil (Cl.join d3 ?_ ?_)))⟩
        · have := sum_le lenB
          rw [List.length_map] at this
          rw [List.length_map, List.length_map, S_len]
          have : ss.length * sep.length ≤ ss.length * 1 := Nat.mul_le_mul_left _ lsep
          omega
        · rw [join_S]
          have hbn : H b = none := x2.none nb hb
          exact ⟨rfl, sep, H3, rfl, rfl, rfl, hsep, po3, (x2.set hbn).trans k3.extP⟩
      · rintro ⟨loc, H4⟩ ⟨sep, H3, g1, g2, rfl, hsep, po3, x3⟩
        have lsep : sep.length ≤ 1 := by rcases hsep with rfl | rfl <;> decide
        have hbA : ∀ c ∈ bl, c < 128 := by rcases hbl with rfl | rfl <;> decide
        have hsA : ∀ c ∈ sep, c < 128 := by rcases hsep with rfl | rfl <;> decide
        refine J.cons (J.Return (J.IfE (J.TCmp (J.Call (J.Nglob (by rw [hK]; k_is) (.ref 686) ⟨_, rfl, kok (by rw [hK]; k_is), J.Lcons (J.Nloc g1 (J.Lcons (J.Cint (J.Lnil (c_pick hK po3 (by decide) (by decide) fun r H5 hr po5 k5 => J.Cint ⟨_, .eqI _ _, ?_⟩).clUp))))⟩)))))
        have x5 : ExtP p H (H5.drop (L' + 1)) := (x3.trans k5.extP).drop hL
        have po5' := po5.dropx nC nCf
        refine ite_both (fun hb => ?_) (fun hb => ?_)
        · refine J.MethS PySem.F.slot_str_upper PySem.F.type_str_upper (J.Nloc g2 ⟨_, rfl, J.Lnil (Cl.upper (by rw [S_len]; have := body_len bl1 lsep ss; omega) ?_)⟩)
          rw [upper_S _ (body_ascii hbA hsA hs)]
          exact h ⟨bl, sep, true⟩ _ ⟨hbl, hsep⟩ po5' x5
        · exact J.Nloc g2 (h ⟨bl, sep, false⟩ _ ⟨hbl, hsep⟩ po5' x5)
end Mine

namespace Mine
variable {G : Cfg} {C : Addr} {H H₁ : Hp} {Q : AV → Hp → Prop} {E : Str → Prop} {l p f : Addr} {ao : AO}

theorem bind5 {w : World} {I : Im} {x1 x2 x3 x4 x5 : Str} {a1 a2 a3 a4 a5 : AV} {ws : List Value} {s : Shared} {name qual : Str} {params : Arguments} {body : List Stmt} {scope : Scope} {dV kV doc pm cdv ct : Value} {an : Option Addr}
    (hv : VRs w I [a1, a2, a3, a4, a5] ws) (h : ∀ v1 v2 v3 v4 v5, BindsTo s (fnOf name qual params body scope dV kV doc pm an cdv ct) ⟨[v1, v2, v3, v4, v5], []⟩ [(x1, v1), (x2, v2), (x3, v3), (x4, v4), (x5, v5)]) :
    ∃ binds, BindsTo s (fnOf name qual params body scope dV kV doc pm an cdv ct) ⟨ws, []⟩ binds ∧ BR w I [(x1, a1), (x2, a2), (x3, a3), (x4, a4), (x5, a5)] binds := by
  obtain ⟨_, _, rfl, h1, t1⟩ := hv.consI; obtain ⟨_, _, rfl, h2, t2⟩ := t1.consI; obtain ⟨_, _, rfl, h3, t3⟩ := t2.consI; obtain ⟨_, _, rfl, h4, h5⟩ := t3.two
  exact ⟨_, h _ _ _ _ _, .cons h1 (.cons h2 (.cons h3 (.cons h4 (.cons h5 .nil))))⟩
theorem PoolOK.neS (po : PoolOK H p f) {w : List Nat} {ws : List (List Nat)} (h : H l = some (.list (strL (w :: ws)))) : l ≠ p := by
  obtain ⟨figs, i, mix, g1, g2, h3⟩ := po.o
  intro q
  rw [q, g1] at h
  cases h

theorem J.IfStr {k : Nat} {env : Env} {σ : St} {pos : Pos} {QS : AV → St → Prop} {test : Expr} {b : Bool} {s1 s2 : String} {n1 n2 : Nat} {q1 q2 : Pos} (ht : JT G C k env test σ (fun v σ' => σ' = σ ∧ v = b) E) (h : QS (.str (S (if b = true then lst s1 else lst s2))) σ) :
    JE G C k env (.IfExp test (.Constant (.str (Str.ofString s1)) n1 q1) (.Constant (.str (Str.ofString s2)) n2 q2) pos) σ QS E := by
  refine J.IfE (J.thenB ht ?_)
  cases b
  · rw [if_neg (by decide)]; exact J.CL h
  · rw [if_pos rfl]; exact J.CL h
set_option maxHeartbeats 4000000 in
theorem c_heading (hK : G.K = KK G.w.params) (po : PoolOK H p f) {lp : Addr} {name p0 p1 : List Nat} {rest : List (List Nat)} {seq : Bool} {first : Option (List Nat)} (hl : H lp = some (.list (strL (p0 :: p1 :: rest))))
    (n0 : name.length ≤ 20) (n1 : ∀ x ∈ p0 :: p1 :: rest, x.length ≤ 20) (n2 : (p0 :: p1 :: rest).length ≤ 10) (n3 : (startT first).length ≤ 20)
    (h : ∀ way H', way < 3 → PoolOK H' p f → ExtP p H H' → Q (.str (S (headT way name p0 (p1 :: rest) seq first))) H') : Fn G C 2 (.ref 705) [.ref p, .str (S name), .ref lp, .bool seq, stAV first] H Q E := by
  refine Fn.body (ab := [("pool", .ref p), ("name", .str (S name)), ("ports", .ref lp), ("sequential", .bool seq), ("first", stAV first)]) (by rw [hK]; k_is) (by rw [hK]; k_is) (fun s I ws X hv => bind5 hv fun _ _ _ _ _ => BindsTo.of_eq rfl) rfl (fun L' => ?_)
  have nlp : lp ≠ p := po.neS hl
  have b1 : (lst " (").length ≤ 50 := by decide +kernel
  have b2 : (lst "output reg ").length ≤ 50 := by decide +kernel
  have b3 : (lst "output ").length ≤ 50 := by decide +kernel
  have b4 : (lst ", input ").length ≤ 10 := by decide +kernel
  have b5 : (lst ");\n").length ≤ 50 := by decide +kernel
  have b6 : (lst ", ").length ≤ 10 := by decide +kernel
  have b7 : (lst ");\n input ").length ≤ 50 := by decide +kernel
  have b8 : (lst ";\n").length ≤ 50 := by decide +kernel
  have b9 : (lst " output reg ").length ≤ 50 := by decide +kernel
  have b10 : (lst " output ").length ≤ 50 := by decide +kernel
  have b11 : (lst " reg ").length ≤ 50 := by decide +kernel
  have b12 : (lst " initial ").length ≤ 50 := by decide +kernel
  have b13 : (lst " = ").length ≤ 50 := by decide +kernel
  have hp0 : p0.length ≤ 20 := n1 p0 (.head _)
  have j1 : (joinL (lst ", input ") (p1 :: rest)).length ≤ 300 := by
    have := joinL_len (m := 20) b4 (xs := p1 :: rest) fun x hx => n1 x (.tail _ hx)
    simp only [List.length_cons] at this n2; omega
  have j2 : (joinL (lst ", ") (p1 :: rest)).length ≤ 300 := by
    have := joinL_len (m := 20) b6 (xs := p1 :: rest) fun x hx => n1 x (.tail _ hx)
    simp only [List.length_cons] at this n2; omega
  have j3 : (joinL (lst ", ") (p0 :: p1 :: rest)).length ≤ 300 := by
    have := joinL_len (m := 20) b6 (xs := p0 :: p1 :: rest) n1
    simp only [List.length_cons] at this n2; omega
  have hok : ∀ (sep : List Nat) (xs : List (List Nat)), sep.length ≤ 10 → (∀ x ∈ xs, x.length ≤ 20) → xs.length ≤ 10 → ((xs.map S).map (·.length)).sum + (xs.map S).length * (S sep).length ≤ 16777216 := fun sep xs h1 h2 h3 => by
    have := sum_le h2
    rw [List.length_map, S_len]
    have : xs.length * sep.length ≤ 10 * 10 := Nat.mul_le_mul h3 h1
    omega
  refine J.cons (J.AssignN (J.Call (J.Nglob (by rw [hK]; k_is) (.ref 686) ⟨_, rfl, kok (by rw [hK]; k_is), J.Lcons (J.Nloc rfl (J.Lcons (J.Cint (J.Lnil (c_pick hK po (by decide) (by decide) fun way H1 hw po1 k1 => ?_).clUp))))⟩)))
  have x1 : ExtP p H H1 := k1.extP
  have l1 : H1 lp = some (.list (strL (p0 :: p1 :: rest))) := (k1 lp nlp).trans hl
  refine J.consN (P' := fun σ' => σ' = ⟨[("first", stAV first), ("sequential", .bool seq), ("ports", .ref lp), ("name", .str (S name)), ("pool", .ref p), ("way", .int way), ("start", .str (S (startT first)))], H1⟩) ?_ ?_
  · cases first with
    | none =>
      refine J.AssignN (J.IfE (J.TCmp (J.Nloc rfl (J.Cnone ⟨_, .isNone', ?_⟩))))
      rw [if_pos rfl]
      refine J.CL ⟨rfl, ?_⟩
      rw [l_nil]; rfl
    | some w =>
      refine J.AssignN (J.IfE (J.TCmp (J.Nloc rfl (J.Cnone ⟨_, .isNone _ (by simp [stAV]), ?_⟩))))
      rw [if_neg (by decide)]
      have : w.length ≤ 20 := by have := n3; simp only [startT, List.length_append] at this; omega
      refine J.BinOp (J.CL (J.Nloc rfl (binA (by repeat' (first | with_reducible assumption | with_reducible apply lenA)) (by repeat' (first | with_reducible assumption | with_reducible apply lenA)) (by decide) ?_)))
      exact ⟨rfl, rfl⟩
  · rintro _ rfl
    have slice : ∀ {sep : List Nat} {a : Addr}, Txt.join (S sep) ((p1 :: rest).map S) = S (joinL sep (p1 :: rest)) := fun {sep a} => join_S _ _
    refine J.cons (J.If (J.TCmp (J.Nloc rfl (J.Cint ⟨_, .eqI _ _, ?_⟩))))
    refine ite_both (fun hb => ?_) (fun hb => J.nil ?_)
    · have hw0 : way = 0 := by have := eq_of_beq hb; omega
      subst hw0
      refine J.cons (J.AssignN (J.IfStr (b := seq) (J.Tval (J.Nloc rfl ⟨_, rfl, rfl, rfl⟩)) ?_))
      have w1 : (if seq = true then lst "output reg " else lst "output ").length ≤ 50 := by split <;> assumption
      refine J.cons (J.Return ?_)
      iterate 7 refine J.BinOp ?_
      refine J.Nloc rfl (J.CL (binA (by repeat' (first | with_reducible assumption | with_reducible apply lenA)) (by repeat' (first | with_reducible assumption | with_reducible apply lenA)) (by decide) ?_))
      refine J.Nloc rfl (binA (by repeat' (first | with_reducible assumption | with_reducible apply lenA)) (by repeat' (first | with_reducible assumption | with_reducible apply lenA)) (by decide) ?_)
      refine J.ItemL (J.Nloc rfl (J.Cint ⟨lp, _, 0, .str (S p0), rfl, rfl, l1, by decide, by decide, rfl, binA (by repeat' (first | with_reducible assumption | with_reducible apply lenA)) (by repeat' (first | with_reducible assumption | with_reducible apply lenA)) (by decide) ?_⟩))
      refine J.Nloc rfl (binA (by repeat' (first | with_reducible assumption | with_reducible apply lenA)) (by repeat' (first | with_reducible assumption | with_reducible apply lenA)) (by decide) ?_)
      refine J.CL (binA (by repeat' (first | with_reducible assumption | with_reducible apply lenA)) (by repeat' (first | with_reducible assumption | with_reducible apply lenA)) (by decide) ?_)
      refine J.MethS PySem.F.slot_str_join PySem.F.type_str_join ?_
      refine J.CL ⟨_, rfl, ?_⟩
      refine J.Lcons (J.SliceL1 ?_)
      refine J.Nloc rfl ?_
      refine J.Cint ⟨lp, _, 1, rfl, rfl, l1, by decide, by rw [List.length_map]; omega, fun b hb => ?_⟩
      refine J.Lnil (Cl.join (ys := (p1 :: rest).map S) (Hp.set_same.trans (by rw [List.map_map]; rfl)) (hok _ _ b4 (fun x hx => n1 x (.tail _ hx)) (by simp only [List.length_cons] at n2 ⊢; omega)) ?_)
      have hb : H1 b = none := hb
      rw [join_S]
      refine (binA (by repeat' (first | with_reducible assumption | with_reducible apply lenA)) (by repeat' (first | with_reducible assumption | with_reducible apply lenA)) (by decide) ?_)
      refine J.CL (binA (by repeat' (first | with_reducible assumption | with_reducible apply lenA)) (by repeat' (first | with_reducible assumption | with_reducible apply lenA)) (by decide) ?_)
      have q := h 0 _ (by decide) (po1.set (ao := .list ((strL (p0 :: p1 :: rest)).drop 1)) hb) (x1.set (x1.none (po1.off hb) hb))
      exact q
    · have hw0 : ¬ (way = 0) := by intro e; subst e; simp at hb
      refine J.cons (J.AssignN ?_)
      iterate 5 refine J.BinOp ?_
      refine J.Nloc rfl (J.CL (binA (by repeat' (first | with_reducible assumption | with_reducible apply lenA)) (by repeat' (first | with_reducible assumption | with_reducible apply lenA)) (by decide) ?_))
      refine J.MethS PySem.F.slot_str_join PySem.F.type_str_join (J.CL ⟨_, rfl, J.Lcons (J.Nloc rfl (J.Lnil (Cl.join (ys := (p0 :: p1 :: rest).map S) (by rw [← strL_S]; exact l1) (hok _ _ b6 n1 n2) ?_)))⟩)
      rw [join_S]
      refine (binA (by repeat' (first | with_reducible assumption | with_reducible apply lenA)) (by repeat' (first | with_reducible assumption | with_reducible apply lenA)) (by decide) ?_)
      refine J.CL (binA (by repeat' (first | with_reducible assumption | with_reducible apply lenA)) (by repeat' (first | with_reducible assumption | with_reducible apply lenA)) (by decide) ?_)
      refine J.MethS PySem.F.slot_str_join PySem.F.type_str_join ?_
      refine J.CL ⟨_, rfl, ?_⟩
      refine J.Lcons (J.SliceL1 ?_)
      refine J.Nloc rfl ?_
      refine J.Cint ⟨lp, _, 1, rfl, rfl, l1, by decide, by rw [List.length_map]; omega, fun b hb => ?_⟩
      refine J.Lnil (Cl.join (ys := (p1 :: rest).map S) (Hp.set_same.trans (by rw [List.map_map]; rfl)) (hok _ _ b6 (fun x hx => n1 x (.tail _ hx)) (by simp only [List.length_cons] at n2 ⊢; omega)) ?_)
      have hb' : H1 b = none := hb
      rw [join_S]
      refine (binA (by repeat' (first | with_reducible assumption | with_reducible apply lenA)) (by repeat' (first | with_reducible assumption | with_reducible apply lenA)) (by decide) ?_)
      refine J.CL (binA (by repeat' (first | with_reducible assumption | with_reducible apply lenA)) (by repeat' (first | with_reducible assumption | with_reducible apply lenA)) (by decide) ?_)
      have po2 := po1.set (ao := .list ((strL (p0 :: p1 :: rest)).drop 1)) hb'
      have x2 := x1.set (ao := .list ((strL (p0 :: p1 :: rest)).drop 1)) (x1.none (po1.off hb') hb')
      have l2 : (H1.set b (.list ((strL (p0 :: p1 :: rest)).drop 1))) lp = some (.list (strL (p0 :: p1 :: rest))) := (Hp.set_ne (fun q => by rw [← q, l1] at hb'; cases hb')).trans l1
      show JS G C 1 _ _ ⟨_, H1.set b (.list ((strL (p0 :: p1 :: rest)).drop 1))⟩ _ E
      generalize H1.set b (.list ((strL (p0 :: p1 :: rest)).drop 1)) = H2 at po2 x2 l2 ⊢
      generalize ht : name ++ lst " (" ++ joinL (lst ", ") (p0 :: p1 :: rest) ++ lst ");\n input " ++ joinL (lst ", ") (p1 :: rest) ++ lst ";\n" = text
      have lt : text.length ≤ 1000 := by rw [← ht]; simp only [List.length_append]; omega
      refine J.cons (J.If (J.TCmp (J.Nloc rfl (J.Cint ⟨_, .eqI _ _, ?_⟩))))
      refine ite_both (fun hb => ?_) (fun hb => J.nil ?_)
      · have hw1 : way = 1 := by have := eq_of_beq hb; omega
        subst hw1
        refine J.cons (J.Return ?_)
        iterate 4 refine J.BinOp ?_
        refine J.Nloc rfl (J.IfStr (b := seq) (J.Tval (J.Nloc rfl ⟨_, rfl, rfl, rfl⟩)) ?_)
        have w1 : (if seq = true then lst " output reg " else lst " output ").length ≤ 50 := by split <;> assumption
        refine (binA (by repeat' (first | with_reducible assumption | with_reducible apply lenA)) (by repeat' (first | with_reducible assumption | with_reducible apply lenA)) (by decide) ?_)
        refine J.ItemL (J.Nloc rfl (J.Cint ⟨lp, _, 0, .str (S p0), rfl, rfl, l2, by decide, by decide, rfl, binA (by repeat' (first | with_reducible assumption | with_reducible apply lenA)) (by repeat' (first | with_reducible assumption | with_reducible apply lenA)) (by decide) ?_⟩))
        refine J.Nloc rfl (binA (by repeat' (first | with_reducible assumption | with_reducible apply lenA)) (by repeat' (first | with_reducible assumption | with_reducible apply lenA)) (by decide) ?_)
        refine J.CL (binA (by repeat' (first | with_reducible assumption | with_reducible apply lenA)) (by repeat' (first | with_reducible assumption | with_reducible apply lenA)) (by decide) ?_)
        have q := h 1 _ (by decide) po2 x2
        unfold headT at q
        rw [if_neg (by decide), if_pos rfl, ht] at q
        exact q
      · have hw1 : ¬ (way = 1) := by intro e; subst e; simp at hb
        have q := h way _ (by omega) po2 x2
        unfold headT at q
        rw [if_neg hw0, if_neg hw1, ht] at q
        refine J.cons (J.AugN rfl (J.BinOp (J.BinOp (J.CL (J.ItemL (J.Nloc rfl (J.Cint ⟨lp, _, 0, .str (S p0), rfl, rfl, l2, by decide, by decide, rfl, binA (by repeat' (first | with_reducible assumption | with_reducible apply lenA)) (by repeat' (first | with_reducible assumption | with_reducible apply lenA)) (by decide) ?_⟩)))))))
        refine J.CL (binA (by repeat' (first | with_reducible assumption | with_reducible apply lenA)) (by repeat' (first | with_reducible assumption | with_reducible apply lenA)) (by decide) (augA (by repeat' (first | with_reducible assumption | with_reducible apply lenA)) (by repeat' (first | with_reducible assumption | with_reducible apply lenA)) (by decide) ?_))
        refine J.consN (P' := fun σ' => σ' = ⟨[("first", stAV first), ("sequential", .bool seq), ("ports", .ref lp), ("name", .str (S name)), ("pool", .ref p), ("way", .int way), ("start", .str (S (startT first))),
          ("text", .str (S (if seq = true then text ++ (lst " output " ++ p0 ++ lst ";\n") ++ (lst " reg " ++ p0 ++ lst ";\n") else text ++ (lst " output " ++ p0 ++ lst ";\n"))))], H2⟩) ?_ ?_
        · cases seq with
          | false =>
            refine J.If (J.Tval (J.Nloc rfl ⟨_, rfl, ?_⟩))
            rw [if_neg (by decide)]
            exact J.nil ⟨rfl, rfl⟩
          | true =>
            refine J.If (J.Tval (J.Nloc rfl ⟨_, rfl, ?_⟩))
            rw [if_pos rfl]
            refine J.cons (J.AugN rfl (J.BinOp (J.BinOp (J.CL (J.ItemL (J.Nloc rfl (J.Cint ⟨lp, _, 0, .str (S p0), rfl, rfl, l2, by decide, by decide, rfl, binA (by repeat' (first | with_reducible assumption | with_reducible apply lenA)) (by repeat' (first | with_reducible assumption | with_reducible apply lenA)) (by decide) ?_⟩)))))))
            refine J.CL (binA (by repeat' (first | with_reducible assumption | with_reducible apply lenA)) (by repeat' (first | with_reducible assumption | with_reducible apply lenA)) (by decide) (augA (by repeat' (first | with_reducible assumption | with_reducible apply lenA)) (by repeat' (first | with_reducible assumption | with_reducible apply lenA)) (by decide) ?_))
            exact J.nil ⟨rfl, rfl⟩
        · rintro _ rfl
          generalize ht2 : (if seq = true then text ++ (lst " output " ++ p0 ++ lst ";\n") ++ (lst " reg " ++ p0 ++ lst ";\n") else text ++ (lst " output " ++ p0 ++ lst ";\n")) = text2
          have lt2 : text2.length ≤ 2000 := by rw [← ht2]; split <;> simp only [List.length_append] <;> omega
          cases first with
          | none =>
            refine J.cons (J.Return (J.IfE (J.TCmp (J.Nloc rfl (J.Cnone ⟨_, .isNone', ?_⟩)))))
            rw [if_pos rfl]
            refine J.Nloc rfl ?_
            rw [← ht2]
            exact q
          | some w =>
            refine J.cons (J.Return (J.IfE (J.TCmp (J.Nloc rfl (J.Cnone ⟨_, .isNone _ (by simp [stAV]), ?_⟩)))))
            rw [if_neg (by decide)]
            iterate 4 refine J.BinOp ?_
            refine J.Nloc rfl (J.CL (binA (by repeat' (first | with_reducible assumption | with_reducible apply lenA)) (by repeat' (first | with_reducible assumption | with_reducible apply lenA)) (by decide) ?_))
            refine J.ItemL (J.Nloc rfl (J.Cint ⟨lp, _, 0, .str (S p0), rfl, rfl, l2, by decide, by decide, rfl, binA (by repeat' (first | with_reducible assumption | with_reducible apply lenA)) (by repeat' (first | with_reducible assumption | with_reducible apply lenA)) (by decide) ?_⟩))
            refine J.Nloc rfl (binA (by repeat' (first | with_reducible assumption | with_reducible apply lenA)) (by repeat' (first | with_reducible assumption | with_reducible apply lenA)) (by decide) ?_)
            refine J.CL (binA (by repeat' (first | with_reducible assumption | with_reducible apply lenA)) (by repeat' (first | with_reducible assumption | with_reducible apply lenA)) (by decide) ?_)
            rw [← ht2]
            exact q
end Mine

namespace Mine
variable {G : Cfg} {C : Addr} {H H₁ : Hp} {Q : AV → Hp → Prop} {E : Str → Prop} {l p f : Addr} {ao : AO}

noncomputable def wAV (p : List Nat × Str) : AV := .tup [.str (S p.1), .str p.2]
set_option maxHeartbeats 400000 in
theorem c_wrong (hK : G.K = KK G.w.params) (h : ∀ l, H l = none → Q (.ref l) (H.set l (.list (wrongL.map wAV)))) : Fn G C 1 (.ref 712) [] H Q E := by
  refine Fn.body (ab := []) (by rw [hK]; k_is) (by rw [hK]; k_is) (fun s I ws X hv => by cases hv; exact ⟨_, BindsTo.of_eq rfl, .nil⟩) rfl (fun L' => ?_)
  refine J.cons (J.AssignN (J.CL ?_))
  refine J.cons (J.Return (J.ListD ?_))
  iterate 7
    refine J.Lcons (J.TupleD (J.Lcons (J.BinOp (J.CL (J.Nloc rfl ⟨_, .addS _ _ (fits3 (by decide +kernel) (by decide +kernel)), ?_⟩))) ))
    rw [S_app]
    refine J.Lcons (J.Cstr (J.Lnil ⟨by simp, ?_⟩))
  iterate 7
    refine J.Lcons ?_
    refine J.TupleD ?_
    refine J.Lcons ?_
    refine J.CL ?_
    refine J.Lcons ?_
    refine J.Cstr ?_
    refine J.Lnil ?_
    refine TupQ.mk (Nat.le_of_ble_eq_true rfl) ?_
  refine J.Lnil ?_
  refine LstQ.mk (Nat.le_of_ble_eq_true rfl) ?_
  intro l hl
  have q := h l hl
  simp only [wrongL, List.map_cons, List.map_nil, wAV, tableW] at q
  exact q
end Mine

namespace Mine
set_option maxHeartbeats 1000000
section
variable {prog : Program} {w : World} {A : Around} {E : Value → Shared → Prop} {s : Shared} {K : Frag} {x C : Addr} {ox : Obj} {od : Option Obj} {name : Str} {expr : Bool} {Q : Value → Shared → Prop}
theorem oga_value {M : Model} {v : Value} {t : Tok} (L0 : Looks M s.heap (typeOf (.ref x)) (.ref C)) (L3 : Looks M s.heap (Builtin.ObjectAttr.find (.ref x) (.ref C) name) (.value v)) :
    wpAny M A (Builtin.«object.__getattribute__» ⟨[.ref x, .str name t], []⟩) (fun fin s' => fin = .done (.ret v) ∧ s' = s) (fun _ _ => False) s := by
  obtain ⟨hp, g, d, tk, os⟩ := s
  unfold Builtin.«object.__getattribute__»
  repeat (first | exact ⟨rfl, rfl⟩ | lk | wp_step)
theorem exc_get {v : Value} (X : K.In s.heap) (Y : XCls K C) (I : InstAt s.heap x ox C od) (hga : findIn K (.ref C) "__getattribute__" = some (some (.builtin "BaseException.__getattribute__"))) (hgt : findIn K (.ref C) "__getattr__" = some none)
    (FB : ExcAttrFacts "Exception") (hf : findObj K C od name = some (.value v)) (hh : handedIn v = true) (h : Q v { s with toks := s.toks + 1 }) : wpAny (model prog w) A (getAttr (.ref x) name expr) Q E s := by
  obtain ⟨hp, g, d, t, os⟩ := s
  have L0 := I.type (M := model prog w)
  have L1 := looks_findIn (M := model prog w) X hga
  have L2 := looks_findIn (M := model prog w) X hgt
  have L3 := looks_find (M := model prog w) X I hf
  have sB := looks_mroIn (M := model prog w) X Y.bexc
  have i1 : Looks (model prog w) hp (isInstance (.ref x) (.type "BaseException")) true := L0.andThen sB
  have hk : builtinKind "BaseException.__getattribute__" = some .slot := by decide +kernel
  have hsplit : splitId "BaseException.__getattribute__" = some ("BaseException", "__getattribute__") := by decide +kernel
  unfold getAttr getAttrBy
  refine wpAny_bind (wpAny_mkText (wpAny_holding (wpAny_bind (L0.at (wpAny_bind (L1.at ?_))))))
  have hx0 : (expr && onTheHeap (Value.builtin "BaseException.__getattribute__")) = false := by cases expr <;> rfl
  have hx2 : (Value.builtin "BaseException.__getattribute__" == Value.builtin "object.__getattribute__") = false := by decide +kernel
  have hx1 : (onTheHeap (Value.ref C) && Value.builtin "BaseException.__getattribute__" == Value.builtin "object.__getattribute__") = false := by rw [hx2, Bool.and_false]
  have f3 := FB.ga.bind (.ref x)
  have ha := F.args_bexc_ga (.ref x) (.str name t)
  dsimp only
  rw [hx1, if_neg (by decide)]
  unfold getAttrByItsOwn hookBefore
  rw [if_pos (show onTheHeap (Value.ref C) = true from rfl)]
  refine wpAny_bind (L2.at ?_)
  unfold callGetattribute boundAndCalled
  rw [hx0, if_neg (by decide), f3]
  refine wpAny_bind (wpAny_attempt (wpAny_holding (wpAny_bind (wpAny_pure (wpAny_call ?_)))))
  refine codeAny_call_builtin FB.ga.plain F.entry_bexc_ga (@check_slot (model prog w) _ _ ⟨hp, g, d, t + 1, os⟩ "BaseException.__getattribute__" "BaseException" "__getattribute__" (.ref x) [.str name t] [] _ hk hsplit i1 ha ?_)
  refine wpAny_mono (oga_value (t := t) (s := ⟨hp, g, d, t + 1, os⟩) L0 L3) (fun fin s' z => ?_) (fun _ _ z => z.elim)
  obtain ⟨rfl, rfl⟩ := z
  show wpAny _ _ (handedOut v) _ _ _
  rw [handedOut_of hh]; exact wpAny_pure h
end
end Mine

namespace Mine
set_option maxHeartbeats 1000000
section
variable {prog : Program} {w : World} {A : Around} {E : Value → Shared → Prop} {s : Shared} {K : Frag} {e C : Addr} {oe : Obj} {Q : Bool → Shared → Prop}
theorem exc_match (X : K.In s.heap) (Y : XCls K C) (nt : instIn K (.ref C) (.type "tuple") = some false) (he : s.heap.get? e = some oe) (hcls : oe.cls = .ref C) (h : Q true s) : wpAny (model prog w) A (excMatches (.ref e) (.ref C)) Q E s := by
  obtain ⟨hp, g, d, t, os⟩ := s
  have c1 := looks_instIn (M := model prog w) X nt
  have c2 := looks_instIn (M := model prog w) X Y.typ
  have c3 := looks_mroIn (M := model prog w) X Y.bexc
  have c4 := looks_mroIn (M := model prog w) X Y.self
  have t1 : Looks (model prog w) hp (typeOf (.ref e)) (.ref C) := hcls ▸ (Looks.ld he).andThen .now
  obtain ⟨oc, od, cd, sl, ho, e1, e2, e3, e4⟩ := Y.obj
  have hC := X _ _ ho
  unfold excMatches
  repeat (first | exact h | lk | with_reducible refine wpAny_loadPart_at hC ?_ | wp_step)
end
theorem lookIn_ns {o : Obj} {es : Array DictEntry} {ep : Nat} {name : Str} {v : Value} (hd : o.data = .dict es ep) (h : nsFind es name = some v) : lookIn name o = some (some v) := by
  obtain ⟨l⟩ := es
  unfold nsFind findBy at h
  rw [List.find?_toArray] at h
  unfold lookIn
  rw [hd]
  dsimp only
  cases q : l.find? fun x => x.key.isStr name with
  | none => rw [q] at h; cases h
  | some e => rw [q] at h; simp only [Option.map_some, Option.some.injEq] at h; dsimp only; rw [h]

theorem ns_getL {es : List DictEntry} {name : Str} {v : Value} (h : getL name es = some (some v)) : nsFind es.toArray name = some v := by
  unfold getL at h
  unfold nsFind findBy
  rw [List.find?_toArray]
  split at h
  · rename_i e q; rw [q]; simpa using h
  · split at h <;> cases h
noncomputable def JF (G : Cfg) (k : Nat) (env : Env) (b : List Stmt) (σ : St) : Prop :=
  ∀ (fenv : Env) (A A₀ : Around) (B : Heap) (outer : List Env) (L : Addr) (I : Im) (s : Shared), Cx G k env fenv A A₀ B B outer L → Rel G B L I σ s.heap →
    wpAny (model G.prog G.w) A (execs b env) (fun fl s' => fl = .ret (.bool true) ∧ B.StaysIn s'.heap ∧ Same s s') (fun _ _ => False) s
noncomputable def onFlowF (G : Cfg) (k : Nat) (env : Env) (rest : List Stmt) : AF → St → Prop
  | .next, σ => JF G k env rest σ
  | .ret v, _ => v = .bool true
  | _, _ => False
section
variable {G : Cfg} {k : Nat} {env : Env} {σ : St} {st : Stmt} {rest : List Stmt}
theorem JF.cons (h : J1 G SE k env st σ (onFlowF G k env rest) (fun _ => False)) : JF G k env (st :: rest) σ := by
  intro fenv A A₀ B outer L I s c r
  refine wpAny_execs_cons (wpAny_mono (h fenv A A₀ B B outer L I s c r) (fun f s₂ ⟨b, σ₂, I₂, k₂, hr, r₂, m₂, q⟩ => ?_) (fun e s' z => False_PE z))
  cases hr with
  | next => exact wpAny_mono (q fenv A A₀ B outer L I₂ s₂ c r₂) (fun fl s' ⟨q1, q2, q3⟩ => ⟨q1, q2, m₂.trans q3⟩) (fun _ _ z => z)
  | brk => exact q.elim
  | cont => exact q.elim
  | ret hv =>
    have q : _ = AV.bool true := q
    subst q
    cases hv
    obtain ⟨own, m, r₂⟩ := r₂
    exact ⟨rfl, r₂.F.keep, m₂⟩
theorem JF.consN {P' : St → Prop} (h : J1 G SE k env st σ (fun f σ' => f = .next ∧ P' σ') (fun _ => False)) (h' : ∀ σ', P' σ' → JF G k env rest σ') : JF G k env (st :: rest) σ :=
  JF.cons (h.monoQ fun f σ' ⟨e, q⟩ => by subst e; exact h' σ' q)
end
theorem fields_notCls {o : Obj} {vs : Array Value} (h : o.data = .fields vs) : notCls o = true := by
  obtain ⟨a, b, d, e⟩ := o
  dsimp only at h
  subst h
  rfl
set_option maxHeartbeats 4000000 in
theorem JF.tryLaw {G : Cfg} {k : Nat} {env : Env} {σ : St} {rest : List Stmt} (hK : G.K = KK G.w.params) {kd : Str} {arg : Expr} {np cp ep xp a1 a2 a3 a4 rp hp tp : Pos}
    (h : JE G SE k env arg σ (fun v σ₁ => ∃ (P : PA) (s : PS0), v = .ref P.x ∧ PX σ₁.H P s ∧ σ₁.loc.lookup ("kind" : Str) = some (AV.str kd) ∧ pPrim s = some (.error kd)) (fun _ => False)) (hk12 : 12 ≤ k)
    (e1 : findIn G.K (.ref SE) "__getattribute__" = some (some (.builtin "BaseException.__getattribute__"))) (e2 : findIn G.K (.ref SE) "__getattr__" = some none) (e3 : instIn G.K (.ref SE) (.type "tuple") = some false) (e4 : hasDictIn G.K SE = true)
    (f1 : env.kindOf "parse_primitive" = some .globalImplicit := by rfl) (f2 : env.kindOf "SourceError" = some .globalImplicit := by rfl) (f3 : env.kindOf "error" = some .local := by rfl) (f4 : env.kindOf "kind" = some .local := by rfl) (hfl : env.frame = some env.locals := by rfl)
    (he : starEach [arg] env = (false, eval arg env) :: starEach [] env := by rfl)
    (hp' : (backTo cp (starEach [arg] env)).any (·.1) = false := by rfl)
    (hi : interactive env = false := by rfl) (hs : swapsWith (.Call (.Name "parse_primitive" np) [arg] [] cp) none ep.line env = pure false := by rfl)
    (ha : eval (.Attribute (.Name "error" a1) "kind" a2) env = (do
      let o ← eval (.Name "error" a1) env
      standAt a2.atName
      let r ← holding [o] (getAttr o "kind" true)
      letTemporaryGo (.Name "error" a1) o r
      pure r) := by with_unfolding_all rfl) :
    JF G k env (.Try [.Expr (.Call (.Name "parse_primitive" np) [arg] [] cp) ep] [.ExceptHandler (some (.Name "SourceError" xp)) (some "error") [.Return (some (.Compare (.Attribute (.Name "error" a1) "kind" a2) [.Eq] [.Name "kind" a3] a4)) rp] hp] [] [] tp :: rest) σ := by
  intro fenv A A₀ B outer L I s c r
  have hfe := (c.hl hfl).1
  have hLe := (c.hl hfl).2
  subst hfe
  refine wpAny_execs_cons (wpAny_Try_except ?_)
  refine wpAny_execs_cons (wpAny_Expr_any ?_ hi hs)
  rw [arm_eval_Call_Name']
  have g := r.gf c.gf
  refine wpAny_bind (Name_function_global c.hk f1 (loadGlobal_global (env := fenv) (c.hg ▸ g.T.g) (mg_of g.X g.T.g (v := .ref 49) (by rw [hK]; k_is)) ?_))
  refine callWith_of (P := G.K.In) (by rw [hp']; rfl) (keeps_ok (kok (by rw [hK]; k_is))) (args_any hp' ?_)
  have hl : JL G SE k fenv [arg] cp σ (fun vs σ₁ => ∃ (P : PA) (s : PS0), vs = [.ref P.x] ∧ PX σ₁.H P s ∧ σ₁.loc.lookup ("kind" : Str) = some (AV.str kd) ∧ pPrim s = some (.error kd)) (fun _ => False) :=
    J.Lcons (h.monoQ fun v σ₁ ⟨P, s, q1, q2⟩ => J.Lnil ⟨P, s, by rw [q1], q2⟩) he
  refine wpAny_mono (hl fenv A A₀ B B outer L I s c r) (fun vs s₂ ⟨bs, σ₂, I₂, k₂, h₂, r₂, m₂, P, ps, q1, px, q2, q3⟩ => ?_) (fun e s' z => False_PE z)
  subst q1
  refine ⟨(r₂.gf c.gf).X, wpAny_call ?_⟩
  obtain ⟨own, m, r₂⟩ := r₂
  refine c_parseX (G := G) (H := σ₂.H) (Q := fun _ _ => False) (E := fun x => x = kd) hK px (by rw [q3]; exact rfl) fenv fenv σ₂.loc A A₀ B B outer L I I₂ s s₂ own m vs _ (c.mono hk12) r₂ h₂ k₂ m₂ (fun v s' ⟨b, σ', I', b1, b2, b3, b4, b5, b6⟩ => b6.elim) (fun e s' g FG stg z => ?_)
  obtain ⟨x, hx, m₃, rfl⟩ := z
  show wpAny _ A (noteFrame e fenv) _ _ s'
  refine hx.noted c.fr c.hf fun h' ⟨ea, ed, es, n, sl, b1, b2, b3, b4, b5, b6, b7⟩ kk => ?_
  subst b1
  refine flight_set (s := { s' with heap := h' }) (fr := none) b4 b5 b2 fun h'' d1 d2 d3 d4 => ?_
  obtain ⟨sl', hsl⟩ := kindAt d4 b6
  have F₂ : Fr B L h'' m := FG.of_stays d1 (kk.trans d4)
  have g₂ := c.gf.keeps d1
  obtain ⟨oe, vs', x1, x2, x3, x4, x5, x6⟩ := d3
  refine wpAny_handleBy_cons (codeAny_handlers_test ?_) (by intro q; cases q)
  refine Name_function_global c.hk f2 (loadGlobal_global (env := fenv) (c.hg ▸ g₂.T.g) (mg_of g₂.X g₂.T.g (v := .ref SE) (by rw [hK]; k_is)) ?_)
  refine exc_match (s := { s' with heap := h'' }) g₂.X (xSE hK) e3 x1 x2 ?_
  refine codeAny_handlers_suite_as ?_
  refine flight_set (s := { s' with heap := h'' }) (fr := none) d2 ⟨oe, vs', x1, x2, x3, x4, x5, x6⟩ d1 fun h₃ y1 y2 y3 y4 => ?_
  obtain ⟨sl₃, hsl₃⟩ := kindAt y4 hsl
  have F₃ : Fr B L h₃ m := F₂.of_stays y1 y4
  obtain ⟨oe₃, vs₃, w1, w2, w3, w4, w5, w6⟩ := y3
  have hp2 : (fenv.scope.kind == .class || (fenv.scope.kind == .module && fenv.locals != fenv.globals)) = false := by rw [c.hk]; rfl
  have hBL : B.get? fenv.locals = none := by
    rw [hLe]
    cases q : B.get? L with
    | none => rfl
    | some o => exact absurd (Heap.lt_size q) (Nat.not_lt.mpr F₂.above)
  have N₃ : h₃.Ns fenv.locals m := hLe ▸ F₃.ns
  have eaL : ea ≠ fenv.locals := fun q => by
    obtain ⟨o, es', ep', n1, n2, _⟩ := N₃
    rw [← q, w1] at n1
    cases n1
    rw [w4] at n2
    cases n2
  refine wpAny_storeName_local (s := { s' with heap := h₃ }) f3 N₃ (fun h₄ N₄ B₄ => ?_) hp2
  have st₄ : B.StaysIn h₄ := fun b o q => (B₄.2 b (fun z => by rw [z, hBL] at q; cases q)).trans (F₃.keep b o q)
  have g₄ := c.gf.keeps st₄
  have ea₄ : h₄.get? ea = some oe₃ := (B₄.2 ea eaL).trans w1
  obtain ⟨t, hkx⟩ := b7
  obtain ⟨o₄, ho₄, hk₄⟩ : ∃ o₄, h₄.get? ed = some o₄ ∧ lookIn ("kind" : Str) o₄ = some (some (.str x t)) := by
    by_cases q : ed = fenv.locals
    · obtain ⟨o, es', ep', n1, n2, n3, n4⟩ := N₄
      rw [← q] at n1
      refine ⟨o, n1, lookIn_ns n2 ?_⟩
      rw [n4]
      obtain ⟨o5, es5, ep5, u1, u2, u3, u4⟩ := N₃
      rw [← q, hsl₃] at u1
      cases u1
      dsimp only at u2
      cases u2
      show (if ("kind" : Str) = "error" then some (Value.ref ea) else m "kind") = _
      rw [if_neg (by decide), ← u4]
      exact ns_getL hkx
    · refine ⟨_, (B₄.2 ed q).trans hsl₃, ?_⟩
      show lookIn ("kind" : Str) (dictOf es n) = _
      rw [lookIn_dict]; exact hkx
  have I₄ : InstAt h₄ ea oe₃ SE (some o₄) := ⟨ea₄, w2, fields_notCls w4, by rw [w3]; exact ho₄⟩
  obtain ⟨kv, hkv, hkr⟩ := r₂.locs _ _ q2
  cases hkr
  refine wpAny_execs_cons (wpAny_Return_some (wpAny_Compare1 (Attribute_any_ (wpAny_Name (wpAny_loadName_local c.hk f3 N₄ (if_pos rfl) ?_)) ha)))
  refine exc_get g₄.X (xSE hK) I₄ e1 e2 F.attr_Exception (findObj_own e4 (seKind hK) rfl hk₄) rfl ?_
  refine wpAny_Name (wpAny_loadName_local c.hk f4 N₄ (show (if ("kind" : Str) = "error" then some (Value.ref ea) else m "kind") = _ from (if_neg (by decide)).trans hkv) ?_)
  refine PyProof.Rows.eq_str ?_
  rw [show (x == x) = true from beq_self_eq_true x]
  show wpAny _ _ (do bindName fenv "error" .none; unbindBehindTheSuite fenv "error" hp) _ _ _
  unfold bindName unbindBehindTheSuite
  refine wpAny_bind (wpAny_bind (wpAny_holding (wpAny_point (wpAny_bind (wpAny_storeName_local f3 N₄ (fun h₅ N₅ B₅ => wpAny_point ?_) hp2)))))
  refine wpAny_onRaise (wpAny_unbindName_local f3 N₅ (if_pos rfl) hp2 (fun h₆ u N₆ B₆ => ?_))
  refine ⟨rfl, fun b o q => ?_, ⟨m₃.gens, m₃.drawn, m₃.os⟩⟩
  have nb : b ≠ fenv.locals := fun z => by rw [z, hBL] at q; cases q
  exact (B₆.2 b nb).trans ((B₅.2 b nb).trans (st₄ b o q))
end Mine

namespace Mine
mutual
theorem eqv_self : ∀ d : PyData, d.canLay0 = true → PyData.eqv d d = true
  | .none, _ => by simp [PyData.eqv]
  | .bool b, _ => by simp [PyData.eqv]
  | .int i, _ => by simp [PyData.eqv]
  | .str x, _ => by simp [PyData.eqv]
  | .list xs, h => by simp only [PyData.eqv]; exact eqvAll_self xs (by simpa [PyData.canLay0] using h)
  | .tuple xs, h => by simp only [PyData.eqv]; exact eqvAll_self xs (by simpa [PyData.canLay0] using h)
  | .dict _, h => by simp [PyData.canLay0] at h
theorem eqvAll_self : ∀ ds : List PyData, PyData.canLayAll0 ds = true → PyData.eqvAll ds ds = true
  | [], _ => by simp [PyData.eqvAll]
  | x :: xs, h => by
    have h' : x.canLay0 = true ∧ PyData.canLayAll0 xs = true := by simpa [PyData.canLayAll0] using h
    simp only [PyData.eqvAll, eqv_self x h'.1, eqvAll_self xs h'.2, Bool.and_true]
end
theorem eqv_shaped {d : PyData} (h : SeqAt.shaped d = true) : PyData.eqv d d = true := eqv_self d (SeqAt.canLay_of_shaped h)

noncomputable def symD : Sym → PyData
  | .one c => .str (S [c])
  | .edge a b => .tuple [.str "edge", .str (S [a]), .str (S [b])]
noncomputable def stD : Option (List Nat) → PyData
  | none => .none
  | some w => .str (S w)
noncomputable def rowD (r : Row) : PyData := .tuple [.tuple (r.ins.map symD), stD r.state, .str (S r.out)]
variable {H : Hp}
theorem sym_ad (s : Sym) : AD H (symAV s) (symD s) := by
  cases s with
  | one c => exact .str _
  | edge a b => exact .tup (.cons (.str _) (.cons (.str _) (.cons (.str _) .nil)))
theorem syms_ad : ∀ ss : List Sym, ADs H (ss.map symAV) (ss.map symD)
  | [] => .nil
  | s :: ss => .cons (sym_ad s) (syms_ad ss)
theorem st_ad (o : Option (List Nat)) : AD H (stAV o) (stD o) := by
  cases o with
  | none => exact .none
  | some w => exact .str _
theorem row_ad (r : Row) : AD H (rowAV r) (rowD r) := .tup (.cons (.tup (syms_ad _)) (.cons (st_ad _) (.cons (.str _) .nil)))
theorem rows_ad : ∀ rs : List Row, ADs H (rs.map rowAV) (rs.map rowD)
  | [] => .nil
  | r :: rs => .cons (row_ad r) (rows_ad rs)
theorem strs_ad : ∀ ws : List (List Nat), ADs H (strL ws) (ws.map fun w => .str (S w))
  | [] => .nil
  | w :: ws => .cons (.str _) (strs_ad ws)

theorem edge_ok : PyData.strOk (Str.ofString "edge") = true := by decide +kernel
theorem sym_lay {s : Sym} (h : SymOK s) : (symD s).canLay0 = true ∧ (symD s).depth ≤ 1 := by
  cases s with
  | one c =>
    have := sym_ascii c h
    exact ⟨by simp only [symD, PyData.canLay0]; exact strOk_S (by intro d hd; rw [List.mem_singleton.mp hd]; exact this), by simp [symD, PyData.depth]⟩
  | edge a b =>
    have ha := lvl_ascii a h.1
    have hb := lvl_ascii b h.2
    refine ⟨?_, by simp [symD, PyData.depth, PyData.depthAll]⟩
    simp only [symD, PyData.canLay0, PyData.canLayAll0, Bool.and_eq_true, Bool.and_true]
    exact ⟨edge_ok, strOk_S (by intro d hd; rw [List.mem_singleton.mp hd]; exact ha), strOk_S (by intro d hd; rw [List.mem_singleton.mp hd]; exact hb)⟩
theorem all_lay {α : Type} (f : α → PyData) {m : Nat} : ∀ {xs : List α}, (∀ x ∈ xs, (f x).canLay0 = true ∧ (f x).depth ≤ m) → PyData.canLayAll0 (xs.map f) = true ∧ PyData.depthAll (xs.map f) ≤ m
  | [], _ => by simp [PyData.canLayAll0, PyData.depthAll]
  | x :: xs, h => by
    obtain ⟨h1, h2⟩ := h x (.head _)
    obtain ⟨h3, h4⟩ := all_lay f (xs := xs) fun y hy => h y (.tail _ hy)
    simp only [List.map_cons, PyData.canLayAll0, PyData.depthAll, h1, h3, Bool.and_true]
    exact ⟨trivial, by omega⟩
theorem row_lay {seq : Bool} {r : Row} (h : RowOK seq r) : (rowD r).canLay0 = true ∧ (rowD r).depth ≤ 3 := by
  obtain ⟨h1, h2⟩ := all_lay symD (m := 1) fun s hs => sym_lay (h.sym s hs)
  obtain ⟨c, hc, ho⟩ := h.out
  have ho' : PyData.strOk (S r.out) = true := by
    rw [ho]; refine strOk_S ?_
    intro d hd; rw [List.mem_singleton.mp hd]
    have : ∀ c ∈ [48, 49, 120, 45], c < 128 := by decide
    exact this _ hc
  have hst : (stD r.state).canLay0 = true ∧ (stD r.state).depth = 0 := by
    rcases h.st with ⟨_, e⟩ | ⟨_, c, hc, e⟩ <;> rw [e]
    · exact ⟨by simp [stD, PyData.canLay0], by simp [stD, PyData.depth]⟩
    · exact ⟨by simp only [stD, PyData.canLay0]; exact strOk_S (by intro d hd; rw [List.mem_singleton.mp hd]; exact lvl_ascii c hc), by simp [stD, PyData.depth]⟩
  constructor
  · simp only [rowD, PyData.canLay0, PyData.canLayAll0, h1, hst.1, ho', Bool.and_true]
  · simp only [rowD, PyData.depth, PyData.depthAll, hst.2]; omega
theorem rows_shaped {seq : Bool} {rs : List Row} (h : ∀ r ∈ rs, RowOK seq r) : SeqAt.shaped (.tuple (rs.map rowD)) = true := by
  obtain ⟨h1, h2⟩ := all_lay rowD (m := 3) fun r hr => row_lay (h r hr)
  unfold SeqAt.shaped
  refine Bool.and_eq_true_iff.mpr ⟨by simp only [PyData.canLay0, h1], decide_eq_true ?_⟩
  simp only [PyData.depth]; omega
noncomputable def headD (name p0 : List Nat) (rest : List (List Nat)) (seq : Bool) : PyData := .tuple [.str (S name), .str (S p0), .tuple (rest.map fun w => .str (S w)), .bool seq]
theorem head_shaped {name p0 : List Nat} {rest : List (List Nat)} {seq : Bool} (hn : Asc name) (h0 : Asc p0) (hr : ∀ x ∈ rest, Asc x) : SeqAt.shaped (headD name p0 rest seq) = true := by
  obtain ⟨h1, h2⟩ := all_lay (fun w => PyData.str (S w)) (m := 0) (xs := rest) fun w hw => ⟨by simp only [PyData.canLay0]; exact strOk_S (hr w hw), by simp [PyData.depth]⟩
  unfold SeqAt.shaped headD
  refine Bool.and_eq_true_iff.mpr ⟨by simp only [PyData.canLay0, PyData.canLayAll0, h1, strOk_S hn, strOk_S h0, Bool.and_true], decide_eq_true ?_⟩
  simp only [PyData.depth, PyData.depthAll]; omega
end Mine

namespace Mine
noncomputable def alph : List Nat := [48, 49, 120, 98, 114, 102, 112, 110, 63, 42, 40, 41, 32, 88, 66, 82, 70, 80, 78, 45]
noncomputable def noC : List Nat → Bool
  | [] => true
  | c :: r => !(c == 40 && hdB (· == 42) r) && noC r
noncomputable def norm (t : List Nat) : List Nat := (t.filter (fun c => !(c == 32))).map lowC
theorem takeW_app {f : Nat → Bool} (hf : f 32 = false) (q : List Nat) : ∀ t, takeW f (t ++ 32 :: q) = takeW f t
  | [] => by show (if f 32 then _ else _) = _; rw [hf]; rfl
  | c :: t => by
    show (if f c then c :: takeW f (t ++ 32 :: q) else []) = (if f c then c :: takeW f t else [])
    rw [takeW_app hf q t]
theorem dropW_app {f : Nat → Bool} (hf : f 32 = false) (q : List Nat) : ∀ t, dropW f (t ++ 32 :: q) = dropW f t ++ 32 :: q
  | [] => by show (if f 32 then _ else _) = _; rw [hf]; rfl
  | c :: t => by
    show (if f c then dropW f (t ++ 32 :: q) else c :: (t ++ 32 :: q)) = (if f c then dropW f t else c :: t) ++ 32 :: q
    split
    · exact dropW_app hf q t
    · rfl
theorem take_drop (f : Nat → Bool) : ∀ t, takeW f t ++ dropW f t = t
  | [] => rfl
  | c :: t => by
    show (if f c then c :: takeW f t else []) ++ (if f c then dropW f t else c :: t) = c :: t
    split
    · rw [List.cons_append, take_drop f t]
    · rfl
theorem mem_take {f : Nat → Bool} {d : Nat} : ∀ {t}, d ∈ takeW f t → f d = true
  | [], h => by cases h
  | c :: t, h => by
    have h : d ∈ (if f c then c :: takeW f t else []) := h
    split at h
    · rename_i q
      rcases List.mem_cons.mp h with rfl | h
      · exact q
      · exact mem_take h
    · cases h
theorem noC_tail {c : Nat} {r : List Nat} (h : noC (c :: r) = true) : noC r = true := by
  simp only [noC, Bool.and_eq_true] at h; exact h.2
theorem noC_drop (f : Nat → Bool) : ∀ {t}, noC t = true → noC (dropW f t) = true
  | [], _ => rfl
  | c :: t, h => by
    show noC (if f c then dropW f t else c :: t) = true
    split
    · exact noC_drop f (noC_tail h)
    · exact h
theorem norm_app (a b : List Nat) : norm (a ++ b) = norm a ++ norm b := by simp [norm]
theorem lexTok_at {c : Nat} {r : List Nat} (h : isLay c = false) (h1 : c ≠ 47) (h2 : c = 40 → hdB (· == 42) r = false) : lexTok (c :: r) = lexAt (c :: r) := by
  unfold lexTok
  have e : dropW isLay (c :: r) = c :: r := by show (if isLay c then _ else _) = _; rw [h]; rfl
  rw [e]
  dsimp only
  rw [if_neg]
  rintro (q | q | q)
  · cases r <;> simp_all
  · cases r <;> simp_all
  · cases r with
    | nil => simp at q
    | cons d r => simp at q; have := h2 q.1; simp [hdB, q.2] at this
theorem trip_no {c : Nat} {r : List Nat} (h : c ≠ 60 ∧ c ≠ 62 ∧ c ≠ 61 ∧ c ≠ 33) : tripL.contains ((c :: r).take 3) = false := by
  obtain ⟨h1, h2, h3, h4⟩ := h
  rw [Bool.eq_false_iff]
  intro q
  rw [List.contains_iff_mem] at q
  simp [tripL] at q
  rcases q with q | q | q | q
  · exact h1 q.1
  · exact h2 q.1
  · exact h3 q.1
  · exact h4 q.1
theorem kw_out : ∀ w ∈ kwL, w.any (fun c => !alph.contains c) = true := by decide +kernel
theorem not_kw {w : List Nat} (h : ∀ c ∈ w, c ∈ alph) : kwL.contains w = false := by
  rw [Bool.eq_false_iff]
  intro q
  rw [List.contains_iff_mem] at q
  obtain ⟨c, hc, k⟩ := List.any_eq_true.mp (kw_out w q)
  rw [List.contains_iff_mem.mpr (h c hc)] at k
  cases k
theorem alph_asc : ∀ c ∈ alph, c < 128 := by decide +kernel
theorem alph_class : ∀ c ∈ alph, c ≠ 32 → ((isLet c || c == 95) = true) ∨ ((isLet c || c == 95) = false ∧ isDig c = true) ∨ (c = 63 ∨ c = 42 ∨ c = 40 ∨ c = 41 ∨ c = 45) := by decide +kernel
theorem alph_nolay : ∀ c ∈ alph, c ≠ 32 → isLay c = false ∧ c ≠ 47 := by decide +kernel
theorem okWf {acc w : List Nat} (h : acc.length + w.length ≤ 10000) (ha : ∀ c ∈ w, c < 128) : okW acc w = true := by
  simp only [okW, Bool.and_eq_true, decide_eq_true_eq, List.all_eq_true]
  exact ⟨h, ha⟩
theorem low_dig : ∀ c ∈ alph, (isDig c || c == 95) = true → lowC c = c ∧ c ≠ 32 := by decide +kernel
theorem wd_ne : ∀ c ∈ alph, (isWrd c || c == 36) = true → c ≠ 32 := by decide +kernel
theorem norm_dig : ∀ {w : List Nat}, (∀ c ∈ w, c ∈ alph) → (∀ c ∈ w, (isDig c || c == 95) = true) → norm w = w
  | [], _, _ => rfl
  | c :: w, h, k => by
    obtain ⟨e, n⟩ := low_dig c (h c (.head _)) (k c (.head _))
    have ih := norm_dig (w := w) (fun d hd => h d (.tail _ hd)) (fun d hd => k d (.tail _ hd))
    simp only [norm] at ih ⊢
    rw [List.filter_cons, if_pos (by simp [n]), List.map_cons, e, ih]
theorem norm_wd : ∀ {w : List Nat}, (∀ c ∈ w, c ∈ alph) → (∀ c ∈ w, (isWrd c || c == 36) = true) → norm w = w.map lowC
  | [], _, _ => rfl
  | c :: w, h, k => by
    have n := wd_ne c (h c (.head _)) (k c (.head _))
    have ih := norm_wd (w := w) (fun d hd => h d (.tail _ hd)) (fun d hd => k d (.tail _ hd))
    simp only [norm] at ih ⊢
    rw [List.filter_cons, if_pos (by simp [n]), List.map_cons, ih, List.map_cons]
theorem real_no : ∀ c ∈ 32 :: alph, (c == 46) = false ∧ (c == 101 || c == 69) = false ∧ c ≠ 39 ∧ c ≠ 95 := by decide +kernel
theorem quote_no : ∀ {r : List Nat} {e : Nat} {q : List Nat}, (∀ c ∈ r, c ∈ alph) → (e = 58 ∨ e = 59) → ∃ c x, dropW isLay (r ++ 32 :: e :: q) = c :: x ∧ c ≠ 39
  | [], e, q, _, he => by rcases he with rfl | rfl <;> exact ⟨_, _, rfl, by decide⟩
  | c :: r, e, q, h, he => by
    show ∃ d x, (if isLay c then dropW isLay (r ++ 32 :: e :: q) else c :: (r ++ 32 :: e :: q)) = d :: x ∧ d ≠ 39
    split
    · exact quote_no (fun d hd => h d (.tail _ hd)) he
    · exact ⟨_, _, rfl, (real_no c (.tail _ (h c (.head _)))).2.2.1⟩
theorem real_free {r : List Nat} {q : List Nat} (h : ∀ c ∈ r, c ∈ alph) : isReal (r ++ 32 :: q) = false := by
  have : ∃ c x, r ++ 32 :: q = c :: x ∧ c ∈ 32 :: alph := by
    cases r with
    | nil => exact ⟨_, _, rfl, .head _⟩
    | cons c r => exact ⟨_, _, rfl, .tail _ (h c (.head _))⟩
  obtain ⟨c, x, e, hc⟩ := this
  obtain ⟨h1, h2, _⟩ := real_no c hc
  rw [e]
  simp only [isReal, hdB, h1, h2]
  rfl
theorem pair_no : ∀ c ∈ [63, 42, 40, 41, 45], ∀ d ∈ 32 :: alph, pairL.contains [c, d] = (c == 42 && d == 42) := by decide +kernel
theorem ops_no : ∀ c ∈ [63, 42, 40, 41, 45], (isLet c || c == 95) = false ∧ isDig c = false ∧ (c == 39 || c == 92 || c == 36 || c == 34) = false ∧ opL.contains c = true ∧ lowC c = c ∧ c ≠ 32 ∧ (c ≠ 60 ∧ c ≠ 62 ∧ c ≠ 61 ∧ c ≠ 33) := by decide +kernel
end Mine

namespace Mine
theorem lex_let {c : Nat} {T : List Nat} (h : (isLet c || c == 95) = true) : lexAt (c :: T) = some (if kwL.contains (takeW (fun c => isWrd c || c == 36) (c :: T)) then .key (takeW (fun c => isWrd c || c == 36) (c :: T)) else .id (takeW (fun c => isWrd c || c == 36) (c :: T)), dropW (fun c => isWrd c || c == 36) (c :: T)) := by
  simp only [lexAt]
  rw [if_pos h]
theorem lex_dig {c : Nat} {T : List Nat} (h : (isLet c || c == 95) = false) (h2 : isDig c = true) (hr : isReal (dropW (fun c => isDig c || c == 95) (c :: T)) = false) (hu : (takeW (fun c => isDig c || c == 95) (c :: T)).contains 95 = false)
    (hq : ∃ d x, dropW isLay (dropW (fun c => isDig c || c == 95) (c :: T)) = d :: x ∧ d ≠ 39) :
    lexAt (c :: T) = some (.num [] [] (takeW (fun c => isDig c || c == 95) (c :: T)), dropW (fun c => isDig c || c == 95) (c :: T)) := by
  obtain ⟨d, x, e, n⟩ := hq
  simp only [lexAt]
  rw [if_neg (by rw [h]; simp), if_pos h2, hr, hu, e]
  simp only [Bool.or_false, Bool.false_eq_true, if_false]
  split
  · rename_i q; cases q; exact absurd rfl n
  · rfl
theorem pf_next {n : Nat} {acc : List Nat} {tk tk' : Tk} {r r' w : List Nat} (hl : lexTok r = some (tk', r'))
    (h : (tk = .num [] [] w ∧ okW acc w = true) ∨ (∃ v, tk = .id v ∧ okW acc v = true ∧ w = v.map lowC) ∨ (tk = .op w ∧ w ≠ [58] ∧ w ≠ [59] ∧ okW acc w = true)) :
    pField (n + 1) acc (tk, r) = pField n (acc ++ w) (tk', r') := by
  rcases h with ⟨rfl, h⟩ | ⟨v, rfl, h, rfl⟩ | ⟨rfl, h1, h2, h⟩
  · simp [pField, PM.bind, pTok, isOp, h, pTake, hl]
  · simp [pField, PM.bind, pTok, isOp, h, pTake, hl]
  · simp [pField, PM.bind, pTok, isOp, h, pTake, hl, h1, h2]
theorem field_ok {e : Nat} (he : e = 58 ∨ e = 59) (q : List Nat) : ∀ (m : Nat) (t : List Nat) (n : Nat) (acc : List Nat), t.length ≤ m → t.length < n → (∀ c ∈ t, c ∈ alph) → noC t = true → acc.length + t.length ≤ 1000 →
    ∃ tk r, lexTok (t ++ 32 :: e :: q) = some (tk, r) ∧ isKey kEndtable tk = false ∧ pField n acc (tk, r) = some (.ok (acc ++ norm t, (.op [e], q))) := by
  intro m
  induction m with
  | zero =>
    intro t n acc h1 h2 _ _ _
    have : t = [] := List.length_eq_zero_iff.mp (by omega)
    subst this
    obtain ⟨n', rfl⟩ : ∃ n', n = n' + 1 := ⟨n - 1, by omega⟩
    refine ⟨.op [e], q, ?_, rfl, ?_⟩
    · rcases he with rfl | rfl <;> rfl
    · rcases he with rfl | rfl <;> simp [pField, PM.bind, pTok, isOp, PM.ret, norm]
  | succ m ih =>
    intro t n acc h1 h2 ha hc hl
    cases t with
    | nil => exact ih [] n acc (Nat.zero_le _) h2 ha hc hl
    | cons c t =>
    have h1 : t.length + 1 ≤ m + 1 := h1
    have h2 : t.length + 1 < n := h2
    have hl : acc.length + (t.length + 1) ≤ 1000 := hl
    by_cases hb : c = 32
    · subst hb
      obtain ⟨tk, r, q1, q2, q3⟩ := ih t n acc (by omega) (by omega) (fun d hd => ha d (.tail _ hd)) (noC_tail hc) (by omega)
      exact ⟨tk, r, q1, q2, q3⟩
    have hca := ha c (.head _)
    obtain ⟨n', rfl⟩ : ∃ n', n = n' + 1 := ⟨n - 1, by omega⟩
    obtain ⟨l1, l2⟩ := alph_nolay c hca hb
    have hat : lexTok (c :: (t ++ 32 :: e :: q)) = lexAt (c :: (t ++ 32 :: e :: q)) := by
      refine lexTok_at l1 l2 fun q => ?_
      subst q
      have hc : (!(true && hdB (· == 42) t) && noC t) = true := hc
      cases t with
      | nil => rfl
      | cons d t => simp only [hdB, Bool.true_and, Bool.and_eq_true, Bool.not_eq_true'] at hc; exact hc.1
    have word : ∀ (f : Nat → Bool), f 32 = false → f c = true → ∃ w r', takeW f (c :: (t ++ 32 :: e :: q)) = w ∧ dropW f (c :: (t ++ 32 :: e :: q)) = r' ++ 32 :: e :: q ∧ c :: t = w ++ r' ∧ (∀ d ∈ w, f d = true) ∧ w ≠ [] ∧ noC r' = true := by
      intro f f1 f2
      refine ⟨takeW f (c :: t), dropW f (c :: t), takeW_app f1 _ (c :: t), dropW_app f1 _ (c :: t), (take_drop f _).symm, fun d => mem_take, ?_, noC_drop f hc⟩
      show (if f c then c :: takeW f t else []) ≠ []
      rw [f2]; simp
    rcases alph_class c hca hb with k | ⟨k, kd⟩ | k
    · obtain ⟨w, r', e1, e2, e3, e4, e5, e6⟩ := word (fun c => isWrd c || c == 36) rfl (by simp only [isWrd]; rw [Bool.or_eq_true] at k; rcases k with k | k <;> simp [k])
      have hw : ∀ d ∈ w, d ∈ alph := fun d hd => ha d (by rw [e3]; exact List.mem_append_left _ hd)
      have hr' : ∀ d ∈ r', d ∈ alph := fun d hd => ha d (by rw [e3]; exact List.mem_append_right _ hd)
      have e7 := congrArg List.length e3
      rw [List.length_append, List.length_cons] at e7
      have := List.length_pos_iff.mpr e5
      obtain ⟨tk, r, q1, q2, q3⟩ := ih r' n' (acc ++ w.map lowC) (by omega) (by omega) hr' e6 (by rw [List.length_append, List.length_map]; omega)
      refine ⟨.id w, r' ++ 32 :: e :: q, ?_, rfl, ?_⟩
      · rw [List.cons_append, hat, lex_let k, e1, e2, not_kw hw]; rfl
      · rw [pf_next q1 (.inr (.inl ⟨w, rfl, okWf (by omega) fun d hd => alph_asc d (hw d hd), rfl⟩)), q3, e3, norm_app, norm_wd hw e4, List.append_assoc]
    · obtain ⟨w, r', e1, e2, e3, e4, e5, e6⟩ := word (fun c => isDig c || c == 95) rfl (by simp only [kd, Bool.true_or])
      have hw : ∀ d ∈ w, d ∈ alph := fun d hd => ha d (by rw [e3]; exact List.mem_append_left _ hd)
      have hr' : ∀ d ∈ r', d ∈ alph := fun d hd => ha d (by rw [e3]; exact List.mem_append_right _ hd)
      have e7 := congrArg List.length e3
      rw [List.length_append, List.length_cons] at e7
      have := List.length_pos_iff.mpr e5
      obtain ⟨tk, r, q1, q2, q3⟩ := ih r' n' (acc ++ w) (by omega) (by omega) hr' e6 (by rw [List.length_append]; omega)
      refine ⟨.num [] [] w, r' ++ 32 :: e :: q, ?_, rfl, ?_⟩
      · rw [List.cons_append, hat, lex_dig k kd (by rw [e2]; exact real_free hr') ?_ (by rw [e2]; exact quote_no hr' he), e1, e2]
        rw [e1, Bool.eq_false_iff]
        intro z
        rw [List.contains_iff_mem] at z
        exact (real_no 95 (.tail _ (hw 95 z))).2.2.2 rfl
      · rw [pf_next q1 (.inl ⟨rfl, okWf (by omega) fun d hd => alph_asc d (hw d hd)⟩), q3, e3, norm_app, norm_dig hw e4, List.append_assoc]
    · have ko : c ∈ [63, 42, 40, 41, 45] := by simp only [List.mem_cons, List.not_mem_nil, or_false]; exact k
      obtain ⟨o1, o2, o3, o4, o5, o6, o7⟩ := ops_no c ko
      have nc : norm [c] = [c] := by simp [norm, o6, o5]
      have hd : ∃ d x, t ++ 32 :: e :: q = d :: x ∧ d ∈ 32 :: alph := by
        cases t with
        | nil => exact ⟨_, _, rfl, .head _⟩
        | cons d t => exact ⟨_, _, rfl, .tail _ (ha d (.tail _ (.head _)))⟩
      obtain ⟨d, x, ed, hd⟩ := hd
      have pn := pair_no c ko d hd
      by_cases h42 : c = 42 ∧ d = 42
      · obtain ⟨rfl, rfl⟩ := h42
        cases t with
        | nil => cases ed
        | cons d' t =>
        have ed' : d' :: (t ++ 32 :: e :: q) = 42 :: x := ed
        cases ed'
        have h1 : t.length + 1 + 1 ≤ m + 1 := h1
        have h2 : t.length + 1 + 1 < n' + 1 := h2
        have hl : acc.length + (t.length + 1 + 1) ≤ 1000 := hl
        obtain ⟨tk, r, q1, q2, q3⟩ := ih t n' (acc ++ [42, 42]) (by omega) (by omega) (fun d hd => ha d (.tail _ (.tail _ hd))) (noC_tail (noC_tail hc)) (by rw [List.length_append]; show _ + 2 + _ ≤ _; omega)
        refine ⟨.op [42, 42], t ++ 32 :: e :: q, ?_, rfl, ?_⟩
        · refine Eq.trans hat ?_
          rfl
        · rw [pf_next q1 (.inr (.inr ⟨rfl, by decide, by decide, okWf (by show _ + 2 ≤ _; omega) (by decide)⟩)), q3, show (42 : Nat) :: 42 :: t = [42] ++ ([42] ++ t) from rfl, norm_app, norm_app, nc, List.append_assoc]; rfl
      · obtain ⟨tk, r, q1, q2, q3⟩ := ih t n' (acc ++ [c]) (by omega) (by omega) (fun d hd => ha d (.tail _ hd)) (noC_tail hc) (by rw [List.length_append]; show _ + 1 + _ ≤ _; omega)
        refine ⟨.op [c], t ++ 32 :: e :: q, ?_, rfl, ?_⟩
        · rw [List.cons_append, hat]
          have pf : pairL.contains ((c :: (t ++ 32 :: e :: q)).take 2) = false := by
            rw [ed]
            show pairL.contains [c, d] = false
            rw [pn]
            simp only [Bool.and_eq_false_iff, beq_eq_false_iff_ne]
            by_cases z : c = 42
            · exact .inr fun y => h42 ⟨z, y⟩
            · exact .inl z
          simp only [lexAt]
          rw [if_neg (by rw [o1]; simp), if_neg (by rw [o2]; simp), if_neg (by rw [o3]; simp), if_neg (by rw [trip_no o7]; simp), if_neg (by rw [pf]; simp), if_pos o4]
          rfl
        · rw [pf_next q1 (.inr (.inr ⟨rfl, ?_, ?_, okWf (by show _ + 1 ≤ _; omega) (by simpa using alph_asc c hca)⟩)), q3, show c :: t = [c] ++ t from rfl, norm_app, nc, List.append_assoc]
          · rintro z; cases z; revert ko; decide
          · rintro z; cases z; revert ko; decide
end Mine

namespace Mine
theorem up_low (c : Nat) : lowC (upC c) = lowC c := by unfold lowC upC; repeat' split
                                                       all_goals omega
theorem up_is {k : Nat} (hk : k = 32 ∨ k = 40 ∨ k = 42) (c : Nat) : (upC c == k) = (c == k) := by
  rw [Bool.eq_iff_iff, beq_iff_eq, beq_iff_eq]; unfold upC; split
  · rename_i h; have hk : k ≤ 42 := (by omega); constructor <;> (intro e; omega)
  · exact Iff.rfl
theorem norm_up (t : List Nat) : norm (t.map upC) = norm t := by
  induction t with
  | nil => rfl
  | cons c t ih =>
    simp only [norm] at ih ⊢
    rw [List.map_cons, List.filter_cons, List.filter_cons, up_is (.inl rfl)]
    split
    · rw [List.map_cons, List.map_cons, up_low, ih]
    · exact ih
theorem noC_up (t : List Nat) : noC (t.map upC) = noC t := by
  induction t with
  | nil => rfl
  | cons c t ih =>
    simp only [noC, List.map_cons, ih, up_is (.inr (.inl rfl))]
    cases t with
    | nil => rfl
    | cons d t => simp only [hdB, List.map_cons, up_is (.inr (.inr rfl))]
theorem alph_up : ∀ c ∈ alph, upC c ∈ alph := by decide +kernel
theorem sym_facts : ∀ c ∈ symL, c ∈ alph ∧ c ≠ 40 ∧ c ≠ 32 ∧ lowC c = c := by decide +kernel
theorem lvl_in {c : Nat} (h : isLevel c = true) : c ∈ [48, 49, 120, 63, 98] := by
  simp only [isLevel, Bool.or_eq_true, beq_iff_eq] at h
  rcases h with (((rfl | rfl) | rfl) | rfl) | rfl <;> decide
theorem lvl_facts : ∀ c ∈ [48, 49, 120, 63, 98], c ∈ alph ∧ c ≠ 40 ∧ c ≠ 42 ∧ c ≠ 32 ∧ lowC c = c ∧ isState [c] = true := by decide +kernel
theorem noC_ne {c : Nat} (h : c ≠ 40) (r : List Nat) : noC (c :: r) = noC r := by
  have : (c == 40) = false := by simp [h]
  simp [noC, this]
theorem noC_40 {c : Nat} (h : c ≠ 42) (r : List Nat) : noC (40 :: c :: r) = noC (c :: r) := by
  have : (c == 42) = false := by simp [h]
  rw [noC]; simp [hdB, this]
theorem sym_noC {blank : List Nat} (hb : blank = [] ∨ blank = [32]) {s : Sym} (h : SymOK s) (r : List Nat) : noC (symT blank s ++ r) = noC r := by
  cases s with
  | one c => exact noC_ne (sym_facts c (List.contains_iff_mem.mp h)).2.1 r
  | edge a b =>
    obtain ⟨a1, a2, a3, a4, a5⟩ := lvl_facts a (lvl_in h.1)
    obtain ⟨b1, b2, b3, b4, b5⟩ := lvl_facts b (lvl_in h.2)
    rcases hb with rfl | rfl
    · show noC (40 :: a :: b :: 41 :: r) = _
      rw [noC_40 a3, noC_ne a2, noC_ne b2, noC_ne (by decide)]
    · show noC (40 :: a :: 32 :: b :: 41 :: r) = _
      rw [noC_40 a3, noC_ne a2, noC_ne (by decide), noC_ne b2, noC_ne (by decide)]
theorem sym_alph {blank : List Nat} (hb : blank = [] ∨ blank = [32]) {s : Sym} (h : SymOK s) : ∀ c ∈ symT blank s, c ∈ alph := by
  cases s with
  | one c => intro d hd; rw [List.mem_singleton.mp hd]; exact (sym_facts c (List.contains_iff_mem.mp h)).1
  | edge a b =>
    have a1 := (lvl_facts a (lvl_in h.1)).1
    have b1 := (lvl_facts b (lvl_in h.2)).1
    have z1 : 40 ∈ alph := by decide
    have z2 : 41 ∈ alph := by decide
    have z3 : 32 ∈ alph := by decide
    intro d hd
    rcases hb with rfl | rfl
    · have hd : d ∈ [40, a, b, 41] := hd
      simp only [List.mem_cons, List.not_mem_nil, or_false] at hd
      rcases hd with rfl | rfl | rfl | rfl <;> assumption
    · have hd : d ∈ [40, a, 32, b, 41] := hd
      simp only [List.mem_cons, List.not_mem_nil, or_false] at hd
      rcases hd with rfl | rfl | rfl | rfl | rfl <;> assumption
theorem sym_norm {blank : List Nat} (hb : blank = [] ∨ blank = [32]) {s : Sym} (h : SymOK s) : norm (symT blank s) = symT [] s := by
  cases s with
  | one c => obtain ⟨_, _, c3, c4⟩ := sym_facts c (List.contains_iff_mem.mp h); simp [norm, symT, c3, c4]
  | edge a b =>
    obtain ⟨a1, a2, a3, a4, a5, _⟩ := lvl_facts a (lvl_in h.1)
    obtain ⟨b1, b2, b3, b4, b5, _⟩ := lvl_facts b (lvl_in h.2)
    have l1 : lowC 40 = 40 := rfl
    have l2 : lowC 41 = 41 := rfl
    rcases hb with rfl | rfl <;> simp [norm, symT, a4, a5, b4, b5, l1, l2]
noncomputable def flatS : List Sym → List Nat
  | [] => []
  | s :: ss => symT [] s ++ flatS ss
theorem join_facts {blank sep : List Nat} (hb : blank = [] ∨ blank = [32]) (hs : sep = [] ∨ sep = [32]) : ∀ {ss : List Sym}, (∀ s ∈ ss, SymOK s) →
    (∀ c ∈ joinL sep (ss.map (symT blank)), c ∈ alph) ∧ noC (joinL sep (ss.map (symT blank))) = true ∧ norm (joinL sep (ss.map (symT blank))) = flatS ss
  | [], _ => ⟨fun c h => (by cases h), rfl, rfl⟩
  | [s], h => by
    have k := h s (.head _)
    refine ⟨sym_alph hb k, ?_, ?_⟩
    · have := sym_noC hb k []
      rw [List.append_nil] at this
      exact this
    · show norm (symT blank s) = symT [] s ++ []
      rw [List.append_nil]; exact sym_norm hb k
  | s :: s' :: ss, h => by
    have k := h s (.head _)
    obtain ⟨i1, i2, i3⟩ := join_facts hb hs (ss := s' :: ss) fun x hx => h x (.tail _ hx)
    have e : joinL sep ((s :: s' :: ss).map (symT blank)) = symT blank s ++ sep ++ joinL sep ((s' :: ss).map (symT blank)) := rfl
    rw [e]
    generalize joinL sep ((s' :: ss).map (symT blank)) = J at i1 i2 i3
    refine ⟨fun c hc => ?_, ?_, ?_⟩
    · rcases List.mem_append.mp hc with hc | hc
      · rcases List.mem_append.mp hc with hc | hc
        · exact sym_alph hb k c hc
        · rcases hs with rfl | rfl
          · cases hc
          · rw [List.mem_singleton.mp hc]; decide
      · exact i1 c hc
    · rw [List.append_assoc, sym_noC hb k]
      rcases hs with rfl | rfl
      · exact i2
      · exact (noC_ne (by decide) J).trans i2
    · rw [norm_app, norm_app, sym_norm hb k, i3]
      rcases hs with rfl | rfl
      · rw [show norm [] = [] from rfl, List.append_nil]; rfl
      · rw [show norm [32] = [] from rfl, List.append_nil]; rfl
theorem spell_facts {w : Way} (hw : WayOK w) {ss : List Sym} (h : ∀ s ∈ ss, SymOK s) : (∀ c ∈ spell w.blank w.sep w.up ss, c ∈ alph) ∧ noC (spell w.blank w.sep w.up ss) = true ∧ norm (spell w.blank w.sep w.up ss) = flatS ss := by
  obtain ⟨i1, i2, i3⟩ := join_facts hw.1 hw.2 h
  unfold spell
  dsimp only
  split
  · refine ⟨fun c hc => ?_, (noC_up _).trans i2, (norm_up _).trans i3⟩
    obtain ⟨d, hd, rfl⟩ := List.mem_map.mp hc
    exact alph_up d (i1 d hd)
  · exact ⟨i1, i2, i3⟩
theorem symsOne {c : Nat} (h : c ≠ 40) (r : List Nat) : syms (c :: r) = if c ≠ 40 ∧ symL.contains c then (syms r).map (.one c :: ·) else none := by
  rw [syms]
  intro a b r' q
  exact absurd q h
theorem syms_ok : ∀ {ss : List Sym}, (∀ s ∈ ss, SymOK s) → syms (flatS ss) = some ss
  | [], _ => rfl
  | .one c :: ss, h => by
    have k : symL.contains c = true := h _ (.head _)
    have ih := syms_ok (ss := ss) fun x hx => h x (.tail _ hx)
    obtain ⟨_, n, _⟩ := sym_facts c (List.contains_iff_mem.mp k)
    show syms (c :: flatS ss) = _
    rw [symsOne n, if_pos ⟨n, k⟩, ih]; rfl
  | .edge a b :: ss, h => by
    obtain ⟨k1, k2⟩ : SymOK (.edge a b) := h _ (.head _)
    have ih := syms_ok (ss := ss) fun x hx => h x (.tail _ hx)
    show syms (40 :: a :: b :: 41 :: flatS ss) = _
    rw [syms, k1, k2, ih]; rfl
-- steps
theorem bind_ok {α β : Type} {m : PM α} {f : α → PM β} {s s' : PS0} {a : α} (h : m s = some (.ok (a, s'))) : PM.bind m f s = f a s' := by simp [PM.bind, h]
theorem xOp {w r : List Nat} {s : PS0} (h : lexTok r = some s) : pExpectOp w (.op w, r) = some (.ok ((), s)) := by
  simp [pExpectOp, pAcceptOp, PM.bind, pIsOp, isOp, pTake, h, PM.ret]
theorem xKey {w r : List Nat} {s : PS0} (h : lexTok r = some s) : pExpectKey w (.key w, r) = some (.ok ((), s)) := by
  simp [pExpectKey, pAcceptKey, PM.bind, pIsKey, isKey, pTake, h, PM.ret]
theorem xId {w r : List Nat} {s : PS0} (h : lexTok r = some s) : pExpectId (.id w, r) = some (.ok (w, s)) := by
  simp [pExpectId, PM.bind, pTok, pTake, h, PM.ret]
theorem aOp {w r : List Nat} {s : PS0} (h : lexTok r = some s) : pAcceptOp w (.op w, r) = some (.ok (true, s)) := by
  simp [pAcceptOp, PM.bind, pIsOp, isOp, pTake, h, PM.ret]
theorem aKey {w r : List Nat} {s : PS0} (h : lexTok r = some s) : pAcceptKey w (.key w, r) = some (.ok (true, s)) := by
  simp [pAcceptKey, PM.bind, pIsKey, isKey, pTake, h, PM.ret]
theorem nOp {w : List Nat} {s : PS0} (h : isOp w s.1 = false) : pAcceptOp w s = some (.ok (false, s)) := by
  simp [pAcceptOp, PM.bind, pIsOp, h, PM.ret]
theorem nKey {w : List Nat} {s : PS0} (h : isKey w s.1 = false) : pAcceptKey w s = some (.ok (false, s)) := by
  simp [pAcceptKey, PM.bind, pIsKey, h, PM.ret]
theorem out_facts : ∀ c ∈ [48, 49, 120, 45], c ∈ alph ∧ noC [c] = true ∧ norm [c] = [c] ∧ isOut [c] = true := by decide +kernel
theorem lvl_one : ∀ c ∈ [48, 49, 120, 63, 98], noC [c] = true ∧ norm [c] = [c] ∧ isState [c] = true := by decide +kernel
theorem row_read {seq : Bool} {r : Row} {w : Way} (h : RowOK seq r) (hw : WayOK w) {q : List Nat} {s' : PS0} (hq : lexTok q = some s') :
    ∃ s, lexTok (rowT r w ++ q) = some s ∧ isKey kEndtable s.1 = false ∧ pRow seq s = some (.ok (r, s')) := by
  obtain ⟨sp1, sp2, sp3⟩ := spell_facts hw h.sym
  obtain ⟨_, spl⟩ := spell_ok hw h.sym h.len
  obtain ⟨co, hco, eo⟩ := h.out
  obtain ⟨o1, o2, o3, o4⟩ := out_facts co hco
  obtain ⟨ins, st, out⟩ := r
  have eo : out = [co] := eo
  subst eo
  -- the last field
  obtain ⟨tk, r0, l1, l2, l3⟩ := field_ok (e := 59) (.inr rfl) (10 :: q) 1 [co] 1000 [] (Nat.le_refl _) (Nat.le_of_ble_eq_true rfl) (fun d hd => by rw [List.mem_singleton.mp hd]; exact o1) o2 (Nat.le_of_ble_eq_true rfl)
  rw [o3, List.nil_append] at l3
  have hlast : ∀ st : Option (List Nat), (PM.bind (pField 1000 []) fun out => if !isOut out then .fail "bad_table" else (pExpectOp [59]).bind fun _ => .ret (⟨ins, st, out⟩ : Row)) (tk, r0) = some (.ok (⟨ins, st, [co]⟩, s')) := by
    intro st
    rw [bind_ok l3, o4]
    show (pExpectOp [59]).bind _ _ = _
    rw [bind_ok (xOp (show lexTok (10 :: q) = some s' from hq))]; rfl
  have key : ∀ (M : List Nat) (s2 : PS0), lexTok (32 :: M) = some s2 → (PM.bind (pState seq) fun st => (pField 1000 []).bind fun out => if !isOut out then .fail "bad_table" else (pExpectOp [59]).bind fun _ => .ret (⟨ins, st, out⟩ : Row)) s2 = some (.ok (⟨ins, st, [co]⟩, s')) →
      ∃ s, lexTok (spell w.blank w.sep w.up ins ++ 32 :: 58 :: 32 :: M) = some s ∧ isKey kEndtable s.1 = false ∧ pRow seq s = some (.ok (⟨ins, st, [co]⟩, s')) := by
    intro M s2 hM hk
    have spl : (spell w.blank w.sep w.up ins).length ≤ 60 := spl
    have b1 : (spell w.blank w.sep w.up ins).length < 1000 := by omega
    have b2 : ([] : List Nat).length + (spell w.blank w.sep w.up ins).length ≤ 1000 := by rw [List.length_nil]; omega
    obtain ⟨tk1, r1, m1, m2, m3⟩ := field_ok (e := 58) (.inl rfl) (32 :: M) (spell w.blank w.sep w.up ins).length (spell w.blank w.sep w.up ins) 1000 [] (Nat.le_refl _) b1 sp1 sp2 b2
    have sp3 : norm (spell w.blank w.sep w.up ins) = flatS ins := sp3
    rw [sp3, List.nil_append] at m3
    refine ⟨_, m1, m2, ?_⟩
    have fl : (flatS ins).length ≤ 10000 := by
      rw [← sp3]
      have : (spell w.blank w.sep w.up ins).length ≤ 60 := spl
      have := List.length_filter_le (fun c => !(c == 32)) (spell w.blank w.sep w.up ins)
      simp only [norm, List.length_map]
      omega
    unfold pRow
    rw [bind_ok m3]
    have ps : pSyms (flatS ins) (.op [58], 32 :: M) = some (.ok (ins, (.op [58], 32 :: M))) := by
      have nf : ¬ 10000 < (flatS ins).length := by omega
      have sk := syms_ok (ss := ins) h.sym
      simp [pSyms, nf, sk]
    rw [bind_ok ps, bind_ok (xOp hM)]
    exact hk
  have e0 : rowT ⟨ins, st, [co]⟩ w ++ q = 32 :: 32 :: (spell w.blank w.sep w.up ins ++ 32 :: 58 :: 32 :: ((match st with | none => [] | some s => s ++ lst " : ") ++ ([co] ++ 32 :: 59 :: 10 :: q))) := by
    cases st <;> simp only [rowT, show lst "  " = [32, 32] from rfl, show lst " : " = [32, 58, 32] from rfl, show lst " ;\n" = [32, 59, 10] from rfl, List.append_assoc, List.cons_append, List.nil_append]
  rw [e0]
  have strip : ∀ X, lexTok (32 :: X) = lexTok X := fun X => rfl
  rw [strip, strip]
  rcases h.st with ⟨rfl, e⟩ | ⟨rfl, d, hd, e⟩
  · have e : st = none := e
    subst e
    refine key _ (tk, r0) ((strip _).trans l1) ?_
    rw [bind_ok (show pState false (tk, r0) = some (.ok (none, (tk, r0))) from rfl)]
    exact hlast none
  · have e : st = some [d] := e
    subst e
    obtain ⟨s1, _⟩ := lvl_facts d (lvl_in hd)
    obtain ⟨s2, s3, s4⟩ := lvl_one d (lvl_in hd)
    obtain ⟨tk2, r2, n1, n2, n3⟩ := field_ok (e := 58) (.inl rfl) (32 :: ([co] ++ 32 :: 59 :: 10 :: q)) 1 [d] 1000 [] (Nat.le_refl _) (Nat.le_of_ble_eq_true rfl) (fun d' hd => by rw [List.mem_singleton.mp hd]; exact s1) s2 (Nat.le_of_ble_eq_true rfl)
    rw [s3, List.nil_append] at n3
    refine key _ (tk2, r2) ((strip _).trans n1) ?_
    have pst : pState true (tk2, r2) = some (.ok (some [d], (tk, r0))) := by
      show (PM.bind (pField 1000 []) _) (tk2, r2) = _
      rw [bind_ok n3, s4]
      show (PM.bind (pExpectOp [58]) _) _ = _
      rw [bind_ok (xOp ((strip _).trans l1))]; rfl
    rw [bind_ok pst]
    exact hlast _
theorem rows_read {seq : Bool} {e2 : List Nat} {END : List Nat} {s2 : PS0} (h1 : lexTok END = some (.key kEndtable, e2)) (h2 : lexTok e2 = some s2) : ∀ (rows : List (Row × Way)) (n : Nat) (acc : List Row), (∀ x ∈ rows, RowOK seq x.1 ∧ WayOK x.2) → rows.length < n →
    ∃ s, lexTok (tabT rows ++ END) = some s ∧ pRows seq n acc s = some (.ok (acc ++ rows.map (·.1), s2))
  | [], n, acc, _, hn => by
    obtain ⟨n', rfl⟩ : ∃ n', n = n' + 1 := ⟨n - 1, by simp only [List.length_nil] at hn; omega⟩
    refine ⟨_, h1, ?_⟩
    show (PM.bind (pAcceptKey kEndtable) _) _ = _
    rw [bind_ok (aKey h2), List.map_nil, List.append_nil]; rfl
  | (r, w) :: rows, n, acc, h, hn => by
    obtain ⟨n', rfl⟩ : ∃ n', n = n' + 1 := ⟨n - 1, by simp only [List.length_cons] at hn; omega⟩
    have hn : rows.length + 1 < n' + 1 := hn
    obtain ⟨hr, hw⟩ : RowOK seq r ∧ WayOK w := h _ (.head _)
    obtain ⟨s, i1, i2⟩ := rows_read h1 h2 rows n' (acc ++ [r]) (fun x hx => h x (.tail _ hx)) (by omega)
    obtain ⟨s0, j1, j2, j3⟩ := row_read hr hw i1
    refine ⟨s0, ?_, ?_⟩
    · show lexTok (rowT r w ++ tabT rows ++ END) = _
      rw [List.append_assoc]; exact j1
    · show (PM.bind (pAcceptKey kEndtable) _) _ = _
      rw [bind_ok (nKey j2)]
      show (PM.bind (pRow seq) _) _ = _
      rw [bind_ok j3, i2, List.map_cons, List.append_assoc]; rfl
theorem table_read {seq : Bool} {rows : List (Row × Way)} (h : ∀ x ∈ rows, RowOK seq x.1 ∧ WayOK x.2) (hl : rows.length ≤ 6) :
    ∃ s, lexTok (lst "table\n" ++ tabT rows ++ lst "endtable\nendprimitive\n") = some s ∧ s.1 = .key kTable ∧ pTable seq s = some (.ok (rows.map (·.1), (.eof, []))) := by
  have h1 : lexTok (lst "endtable\nendprimitive\n") = some (.key kEndtable, lst "\nendprimitive\n") := by kernel_rfl
  have h2 : lexTok (lst "\nendprimitive\n") = some (.key kEndprim, [10]) := by kernel_rfl
  obtain ⟨s, i1, i2⟩ := rows_read (seq := seq) h1 h2 rows 20 [] h (by omega)
  have hT : lexTok (lst "table\n" ++ (tabT rows ++ lst "endtable\nendprimitive\n")) = some (.key kTable, 10 :: (tabT rows ++ lst "endtable\nendprimitive\n")) := by
    generalize tabT rows ++ lst "endtable\nendprimitive\n" = X
    kernel_rfl
  refine ⟨_, by rw [List.append_assoc]; exact hT, rfl, ?_⟩
  unfold pTable
  rw [bind_ok (xKey (show lexTok (10 :: (tabT rows ++ lst "endtable\nendprimitive\n")) = some s from i1)), bind_ok i2, bind_ok (xKey (show lexTok [10] = some (.eof, []) from rfl))]
  rfl
end Mine

namespace Mine
theorem nm {w : List Nat} (h : w ∈ namesL) {c : Nat} (hc : c ∈ [32, 44, 41, 59]) (r : List Nat) : lexTok (w ++ c :: r) = some (.id w, c :: r) := by
  simp only [namesL, List.mem_cons, List.not_mem_nil, or_false] at h
  simp only [List.mem_cons, List.not_mem_nil, or_false] at hc
  rcases h with rfl | rfl | rfl | rfl | rfl | rfl | rfl <;> rcases hc with rfl | rfl | rfl | rfl <;> kernel_rfl
theorem nm40 {w : List Nat} (h : w ∈ namesL) (r : List Nat) : lexTok (32 :: 40 :: (w ++ r)) = some (.op [40], w ++ r) := by
  simp only [namesL, List.mem_cons, List.not_mem_nil, or_false] at h
  rcases h with rfl | rfl | rfl | rfl | rfl | rfl | rfl <;> kernel_rfl
theorem bl (r : List Nat) : lexTok (32 :: r) = lexTok r := rfl
theorem nlx (r : List Nat) : lexTok (10 :: r) = lexTok r := rfl
theorem t44 (r : List Nat) : lexTok (44 :: r) = some (.op [44], r) := by kernel_rfl
theorem t59 (r : List Nat) : lexTok (59 :: r) = some (.op [59], r) := by kernel_rfl
theorem t41 (r : List Nat) : lexTok (41 :: r) = some (.op [41], r) := by kernel_rfl
theorem t61 (r : List Nat) : lexTok (32 :: 61 :: 32 :: r) = some (.op [61], 32 :: r) := by kernel_rfl
theorem tOut (r : List Nat) : lexTok ([111, 117, 116, 112, 117, 116] ++ 32 :: r) = some (.key kOutput, 32 :: r) := by kernel_rfl
theorem tReg (r : List Nat) : lexTok ([114, 101, 103] ++ 32 :: r) = some (.key kReg, 32 :: r) := by kernel_rfl
theorem tIn (r : List Nat) : lexTok ([105, 110, 112, 117, 116] ++ 32 :: r) = some (.key kInput, 32 :: r) := by kernel_rfl
theorem tInit (r : List Nat) : lexTok ([105, 110, 105, 116, 105, 97, 108] ++ 32 :: r) = some (.key kInitial, 32 :: r) := by kernel_rfl
theorem tPrim (r : List Nat) : lexTok ([112, 114, 105, 109, 105, 116, 105, 118, 101] ++ 32 :: r) = some (.key kPrim, 32 :: r) := by kernel_rfl
noncomputable def moreT (sep : List Nat) : List (List Nat) → List Nat → List Nat
  | [], tail => tail
  | x :: xs, tail => sep ++ (x ++ moreT sep xs tail)
theorem join_more (sep : List Nat) : ∀ (x : List Nat) (xs : List (List Nat)) (tail : List Nat), joinL sep (x :: xs) ++ tail = x ++ moreT sep xs tail
  | x, [], tail => rfl
  | x, y :: ys, tail => by
    show x ++ sep ++ joinL sep (y :: ys) ++ tail = x ++ (sep ++ (y ++ moreT sep ys tail))
    rw [List.append_assoc, join_more sep y ys tail, List.append_assoc]
noncomputable def sepI : List Nat := [44, 32, 105, 110, 112, 117, 116, 32]
noncomputable def sepC : List Nat := [44, 32]
theorem more_head {sep : List Nat} (hs : ∃ x, sep = 44 :: x) {c : Nat} {tl : List Nat} (hc : c ∈ [41, 59]) : ∀ xs, ∃ d r, moreT sep xs (c :: tl) = d :: r ∧ d ∈ [32, 44, 41, 59]
  | [] => ⟨c, tl, rfl, by simp only [List.mem_cons, List.not_mem_nil, or_false] at hc ⊢; omega⟩
  | x :: xs => by obtain ⟨y, rfl⟩ := hs; exact ⟨44, _, rfl, by decide⟩
theorem nm_more {w : List Nat} (h : w ∈ namesL) {sep : List Nat} (hs : ∃ x, sep = 44 :: x) {c : Nat} {tl : List Nat} (hc : c ∈ [41, 59]) (xs : List (List Nat)) : lexTok (w ++ moreT sep xs (c :: tl)) = some (.id w, moreT sep xs (c :: tl)) := by
  obtain ⟨d, r, e, hd⟩ := more_head hs hc (tl := tl) xs
  rw [e]; exact nm h hd r
theorem lx_tail {c : Nat} (hc : c ∈ [41, 59]) (tl : List Nat) : lexTok (c :: tl) = some (.op [c], tl) := by
  simp only [List.mem_cons, List.not_mem_nil, or_false] at hc
  rcases hc with rfl | rfl
  · exact t41 tl
  · exact t59 tl
theorem ansi_more {c : Nat} {tl : List Nat} (hc : c ∈ [41, 59]) : ∀ (xs : List (List Nat)) (n : Nat) (acc : List (List Nat)), (∀ x ∈ xs, x ∈ namesL) → xs.length < n →
    ∃ s, lexTok (moreT sepI xs (c :: tl)) = some s ∧ pAnsiMore n acc s = some (.ok (acc ++ xs, (.op [c], tl)))
  | [], n, acc, _, hn => by
    obtain ⟨n', rfl⟩ : ∃ n', n = n' + 1 := ⟨n - 1, by simp only [List.length_nil] at hn; omega⟩
    refine ⟨_, lx_tail hc tl, ?_⟩
    show PM.bind (pAcceptOp [44]) _ _ = _
    have : isOp [44] (.op [c]) = false := by
      simp only [List.mem_cons, List.not_mem_nil, or_false] at hc
      rcases hc with rfl | rfl <;> rfl
    rw [bind_ok (nOp this), List.append_nil]; rfl
  | x :: xs, n, acc, h, hn => by
    obtain ⟨n', rfl⟩ : ∃ n', n = n' + 1 := ⟨n - 1, by simp only [List.length_cons] at hn; omega⟩
    have hn : xs.length + 1 < n' + 1 := hn
    obtain ⟨s, i1, i2⟩ := ansi_more (tl := tl) hc xs n' (acc ++ [x]) (fun y hy => h y (.tail _ hy)) (by omega)
    have hx := nm_more (h x (.head _)) (sep := sepI) ⟨_, rfl⟩ hc (tl := tl) xs
    refine ⟨_, t44 _, ?_⟩
    show PM.bind (pAcceptOp [44]) _ _ = _
    refine Eq.trans (bind_ok (aOp (show lexTok (32 :: ([105, 110, 112, 117, 116] ++ 32 :: (x ++ moreT sepI xs (c :: tl)))) = some (.key kInput, 32 :: (x ++ moreT sepI xs (c :: tl))) from tIn _))) ?_
    show PM.bind (pAcceptKey kInput) _ _ = _
    refine Eq.trans (bind_ok (aKey (show lexTok (32 :: (x ++ moreT sepI xs (c :: tl))) = _ from hx))) ?_
    show PM.bind pExpectId _ _ = _
    rw [bind_ok (xId i1), i2, List.append_assoc]; rfl
theorem more_more {c : Nat} {tl : List Nat} (hc : c ∈ [41, 59]) : ∀ (xs : List (List Nat)) (n : Nat) (acc : List (List Nat)), (∀ x ∈ xs, x ∈ namesL) → xs.length < n →
    ∃ s, lexTok (moreT sepC xs (c :: tl)) = some s ∧ pMore n acc s = some (.ok (acc ++ xs, (.op [c], tl)))
  | [], n, acc, _, hn => by
    obtain ⟨n', rfl⟩ : ∃ n', n = n' + 1 := ⟨n - 1, by simp only [List.length_nil] at hn; omega⟩
    refine ⟨_, lx_tail hc tl, ?_⟩
    show PM.bind (pAcceptOp [44]) _ _ = _
    have : isOp [44] (.op [c]) = false := by
      simp only [List.mem_cons, List.not_mem_nil, or_false] at hc
      rcases hc with rfl | rfl <;> rfl
    rw [bind_ok (nOp this), List.append_nil]; rfl
  | x :: xs, n, acc, h, hn => by
    obtain ⟨n', rfl⟩ : ∃ n', n = n' + 1 := ⟨n - 1, by simp only [List.length_cons] at hn; omega⟩
    have hn : xs.length + 1 < n' + 1 := hn
    obtain ⟨s, i1, i2⟩ := more_more (tl := tl) hc xs n' (acc ++ [x]) (fun y hy => h y (.tail _ hy)) (by omega)
    have hx := nm_more (h x (.head _)) (sep := sepC) ⟨_, rfl⟩ hc (tl := tl) xs
    refine ⟨_, t44 _, ?_⟩
    show PM.bind (pAcceptOp [44]) _ _ = _
    refine Eq.trans (bind_ok (aOp (show lexTok (32 :: (x ++ moreT sepC xs (c :: tl))) = _ from hx))) ?_
    show PM.bind pExpectId _ _ = _
    rw [bind_ok (xId i1), i2, List.append_assoc]; rfl
-- the first value
theorem num_read {f : List Nat} (hf : some f ∈ firstsL) {c : Nat} (hc : c ∈ [44, 59]) {r : List Nat} {s : PS0} (hs : lexTok (c :: r) = some s) : ∃ s1, lexTok (32 :: (f ++ c :: r)) = some s1 ∧ pInitial s1 = some (.ok (initOf (some f), s)) := by
  have go : ∀ {sz bs d : List Nat}, lexTok (32 :: (f ++ c :: r)) = some (.num sz bs d, c :: r) → ((sz ≠ [] ∧ sz ≠ [49]) ∨ (bs ≠ [] ∧ bs ≠ [98]) ∨ (d ≠ [48] ∧ d ≠ [49] ∧ d ≠ [120])) = False → lastOf (some f) = d → ∃ s1, lexTok (32 :: (f ++ c :: r)) = some s1 ∧ pInitial s1 = some (.ok (initOf (some f), s)) := by
    intro sz bs d h1 h2 h3
    refine ⟨_, h1, ?_⟩
    have h4 : initOf (some f) = levelCode d := by unfold initOf; rw [h3]
    rw [h4]
    show PM.bind pTok _ _ = _
    rw [bind_ok (show pTok _ = some (.ok (_, _)) from rfl)]
    dsimp only
    rw [if_neg (by rw [h2]; exact id)]
    show PM.bind pTake _ _ = _
    rw [bind_ok (show pTake (.num sz bs d, c :: r) = some (.ok (.num sz bs d, s)) by simp [pTake, hs])]; rfl
  clear hs
  simp only [firstsL, List.mem_cons, List.not_mem_nil, or_false, Option.some.injEq, reduceCtorEq, false_or] at hf
  simp only [List.mem_cons, List.not_mem_nil, or_false] at hc
  rcases hf with rfl | rfl | rfl | rfl | rfl
  · refine go (sz := []) (bs := []) (d := [48]) ?_ (by simp) rfl
    rcases hc with rfl | rfl <;> kernel_rfl
  · refine go (sz := []) (bs := []) (d := [49]) ?_ (by simp) rfl
    rcases hc with rfl | rfl <;> kernel_rfl
  · refine go (sz := [49]) (bs := [98]) (d := [49]) ?_ (by simp) rfl
    rcases hc with rfl | rfl <;> kernel_rfl
  · refine go (sz := [49]) (bs := [98]) (d := [120]) ?_ (by simp) rfl
    rcases hc with rfl | rfl <;> kernel_rfl
  · refine go (sz := [49]) (bs := [98]) (d := [48]) ?_ (by simp) rfl
    rcases hc with rfl | rfl <;> kernel_rfl
theorem start_read {first : Option (List Nat)} (hf : first ∈ firstsL) {c : Nat} (hc : c ∈ [44, 59]) {r : List Nat} {s : PS0} (hs : lexTok (c :: r) = some s) (h61 : isOp [61] s.1 = false) :
    ∃ s1, lexTok (startT first ++ c :: r) = some s1 ∧ ((pAcceptOp [61]).bind fun b => if b then pInitial else .ret 3) s1 = some (.ok (initOf first, s)) := by
  cases first with
  | none => exact ⟨s, hs, by rw [bind_ok (nOp h61)]; rfl⟩
  | some f =>
    obtain ⟨s1, i1, i2⟩ := num_read hf hc hs
    refine ⟨_, t61 _, ?_⟩
    exact (bind_ok (aOp i1)).trans i2
theorem start_nm {first : Option (List Nat)} {w : List Nat} (h : w ∈ namesL) {c : Nat} (hc : c ∈ [44, 59]) (r : List Nat) : lexTok (w ++ (startT first ++ c :: r)) = some (.id w, startT first ++ c :: r) := by
  cases first with
  | none => exact nm h (by simp only [List.mem_cons, List.not_mem_nil, or_false] at hc ⊢; omega) r
  | some f => exact nm h (c := 32) (by decide) _
end Mine

namespace Mine
theorem d_in {p0 : List Nat} {n : Nat} {seq : Bool} {init : Int} {decl d : List (List Nat)} {r1 w r2 r3 : List Nat} {sm sY : PS0} (h1 : lexTok r1 = some (.id w, r2)) (h2 : lexTok r2 = some sm) (h3 : pMore 10 (decl ++ [w]) sm = some (.ok (d, (.op [59], r3)))) (h4 : lexTok r3 = some sY) :
    pDecls p0 (n + 1) seq init decl (.key kInput, r1) = pDecls p0 n seq init d sY := by
  show PM.bind pTok _ _ = _
  refine Eq.trans (bind_ok (show pTok (.key kInput, r1) = some (.ok (.key kInput, (.key kInput, r1))) from rfl)) ?_
  try dsimp only
  rw [if_neg (by decide)]
  refine Eq.trans (bind_ok (aKey h1)) ?_
  try dsimp only
  rw [if_pos rfl]
  have inner : (PM.bind pExpectId fun w => (pMore 10 (decl ++ [w])).bind fun d => PM.ret (seq, init, d)) (.id w, r2) = some (.ok ((seq, init, d), (.op [59], r3))) := by
    rw [bind_ok (xId h2), bind_ok h3]; rfl
  refine Eq.trans (bind_ok inner) ?_
  exact bind_ok (xOp h4)
theorem d_reg {p0 : List Nat} {n : Nat} {seq : Bool} {init : Int} {decl : List (List Nat)} {r1 r2 r3 : List Nat} {sY : PS0} (h1 : lexTok r1 = some (.id p0, r2)) (h2 : lexTok r2 = some (.op [59], r3)) (h4 : lexTok r3 = some sY) :
    pDecls p0 (n + 1) seq init decl (.key kReg, r1) = pDecls p0 n true init decl sY := by
  show PM.bind pTok _ _ = _
  refine Eq.trans (bind_ok (show pTok (.key kReg, r1) = some (.ok (.key kReg, (.key kReg, r1))) from rfl)) ?_
  try dsimp only
  rw [if_neg (by decide)]
  refine Eq.trans (bind_ok (nKey (by rfl))) ?_
  try dsimp only
  rw [if_neg (by decide)]
  have inner : (PM.bind pExpectId fun w => if w ≠ p0 then PM.fail "primitive_ports" else PM.ret (true, init, decl)) (.id p0, r2) = some (.ok ((true, init, decl), (.op [59], r3))) := by
    rw [bind_ok (xId h2), if_neg (fun q => q rfl)]; rfl
  refine Eq.trans (bind_ok (s' := (.op [59], r3)) (a := (true, init, decl)) ?_) ?_
  · refine Eq.trans (bind_ok (aKey h1)) ?_
    exact inner
  · exact bind_ok (xOp h4)
theorem d_out {p0 : List Nat} {n : Nat} {seq c : Bool} {init init' : Int} {decl : List (List Nat)} {r1 r2 r3 : List Nat} {s1 s3 sY : PS0} (h1 : lexTok r1 = some s1) (hc : pAcceptKey kReg s1 = some (.ok (c, (.id p0, r2)))) (h2 : lexTok r2 = some s3)
    (hi : (if (seq || c) then (pAcceptOp [61]).bind fun e => if e then pInitial else .ret init else .ret init) s3 = some (.ok (init', (.op [59], r3)))) (h4 : lexTok r3 = some sY) :
    pDecls p0 (n + 1) seq init decl (.key kOutput, r1) = pDecls p0 n (seq || c) init' (decl ++ [p0]) sY := by
  show PM.bind pTok _ _ = _
  refine Eq.trans (bind_ok (show pTok (.key kOutput, r1) = some (.ok (.key kOutput, (.key kOutput, r1))) from rfl)) ?_
  try dsimp only
  rw [if_neg (by decide)]
  refine Eq.trans (bind_ok (nKey (by rfl))) ?_
  try dsimp only
  rw [if_neg (by decide)]
  refine Eq.trans (bind_ok (s' := (.op [59], r3)) (a := (seq || c, init', decl ++ [p0])) ?_) ?_
  · refine Eq.trans (bind_ok (nKey (by rfl))) ?_
    try dsimp only
    rw [if_neg (by decide)]
    refine Eq.trans (bind_ok (xKey h1)) ?_
    refine Eq.trans (bind_ok hc) ?_
    refine Eq.trans (bind_ok (xId h2)) ?_
    try dsimp only
    rw [if_neg (fun q => q rfl)]
    refine Eq.trans (bind_ok hi) ?_
    rfl
  · exact bind_ok (xOp h4)
theorem d_end {p0 : List Nat} {n : Nat} {seq : Bool} {init : Int} {decl : List (List Nat)} {s : PS0} (h : (isKey kOutput s.1 || isKey kInput s.1 || isKey kReg s.1) = false) : pDecls p0 (n + 1) seq init decl s = some (.ok ((seq, init, decl), s)) := by
  show PM.bind pTok _ _ = _
  refine Eq.trans (bind_ok (show pTok s = some (.ok (s.1, s)) from rfl)) ?_
  try dsimp only
  rw [h, if_pos (by decide)]; rfl
theorem ascWf {l : List (List Nat)} (h : ∀ x ∈ l, x ∈ namesL) (hl : l.length < 64) : ascW l = true := by
  simp only [ascW, Bool.and_eq_true, decide_eq_true_eq, List.all_eq_true]
  exact ⟨hl, fun x hx c hc => names_asc x (h x hx) c hc⟩
theorem ports_ok {p0 : List Nat} {xs : List (List Nat)} {seq : Bool} {init : Int} {s s' : PS0} (hn : ∀ x ∈ p0 :: xs, x ∈ namesL) (hl : (p0 :: xs).length ≤ 5) (h : pDecls p0 10 false 3 [] s = some (.ok ((seq, init, xs ++ [p0]), s'))) : pPortDecls (p0 :: xs) s = some (.ok ((seq, init), s')) := by
  have p : (xs ++ [p0]).Perm (p0 :: xs) := List.perm_append_comm
  show PM.bind (pDecls p0 10 false 3 []) _ s = _
  refine Eq.trans (bind_ok h) ?_
  try dsimp only
  have a1 : ascW (xs ++ [p0]) = true := ascWf (fun x hx => hn x (p.mem_iff.mp hx)) (by rw [p.length_eq]; omega)
  have a2 : ascW (p0 :: xs) = true := ascWf hn (by omega)
  have a3 : p0 ∈ xs ++ [p0] := by simp
  have a4 : (xs ++ [p0]).isPerm (p0 :: xs) = true := List.isPerm_iff.mpr p
  rw [a1, a2, if_neg (by decide), if_neg (fun q => q.elim (fun q => q a3) (fun q => q a4))]
  rfl
noncomputable def midP : PM (List (List Nat) × Bool × Int) := pExpectId.bind fun w => (pMore 10 [w]).bind fun ports => (pExpectOp [41]).bind fun _ => (pExpectOp [59]).bind fun _ => (pPortDecls ports).bind fun r => .ret (ports, r.1, r.2)
noncomputable def tailP (i : Bool) (ports : List (List Nat)) (seq : Bool) (init0 : Int) : PM Int := if i then (if !seq then PM.fail "primitive_initial" else pExpectId.bind fun w => if some w ≠ ports[0]? then .fail "primitive_initial" else .ret ()).bind fun _ =>
  (pExpectOp [61]).bind fun _ => pInitial.bind fun c => (pExpectOp [59]).bind fun _ => .ret c else .ret init0
theorem head_go {name X : List Nat} (hn : name ∈ namesL) {sX s1 s1' s2 : PS0} {ports : List (List Nat)} {seq i : Bool} {init0 init : Int} (h40 : lexTok (32 :: 40 :: X) = some (.op [40], X)) (hX : lexTok X = some sX)
    (hm : (if isKey kOutput sX.1 then pAnsi else midP) sX = some (.ok ((ports, seq, init0), s1))) (h2 : ¬ ports.length < 2) (hi : pAcceptKey kInitial s1 = some (.ok (i, s1'))) (ht : tailP i ports seq init0 s1' = some (.ok (init, s2))) :
    pHead (.key kPrim, 32 :: (name ++ 32 :: 40 :: X)) = some (.ok ((name, ports, seq, init), s2)) := by
  unfold pHead
  refine Eq.trans (bind_ok (xKey ((bl _).trans (nm hn (c := 32) (by decide) _)))) ?_
  refine Eq.trans (bind_ok (xId h40)) ?_
  refine Eq.trans (bind_ok (xOp hX)) ?_
  refine Eq.trans (bind_ok (show pIsKey kOutput sX = some (.ok (isKey kOutput sX.1, sX)) from rfl)) ?_
  refine Eq.trans (bind_ok hm) ?_
  refine Eq.trans (bind_ok (a := ()) (s' := s1) ?_) ?_
  · dsimp only; rw [if_neg h2]; rfl
  refine Eq.trans (bind_ok hi) ?_
  refine Eq.trans (bind_ok ht) ?_
  rfl
theorem ansi_ok {p0 Y T Q : List Nat} {seq : Bool} {init : Int} {ports : List (List Nat)} {s1 sT sm s : PS0} (hy : lexTok Y = some s1) (hr : pAcceptKey kReg s1 = some (.ok (seq, (.id p0, T)))) (hT : lexTok T = some sT)
    (hi : (if seq then (pAcceptOp [61]).bind fun b => if b then pInitial else .ret 3 else .ret 3) sT = some (.ok (init, sm))) (hm : pAnsiMore 10 [p0] sm = some (.ok (ports, (.op [41], 59 :: 10 :: Q)))) (hQ : lexTok Q = some s) :
    pAnsi (.key kOutput, Y) = some (.ok ((ports, seq, init), s)) := by
  unfold pAnsi
  refine Eq.trans (bind_ok (xKey hy)) ?_
  refine Eq.trans (bind_ok hr) ?_
  refine Eq.trans (bind_ok (xId hT)) ?_
  refine Eq.trans (bind_ok hi) ?_
  refine Eq.trans (bind_ok hm) ?_
  refine Eq.trans (bind_ok (xOp (t59 _))) ?_
  refine Eq.trans (bind_ok (xOp ((nlx Q).trans hQ))) ?_
  rfl
theorem mid_ok {p0 p1 : List Nat} {rest : List (List Nat)} {seq : Bool} {init : Int} {sY s : PS0} {Y : List Nat} (hp : ∀ x ∈ p0 :: p1 :: rest, x ∈ namesL) (hl : (p0 :: p1 :: rest).length ≤ 5)
    (hY : lexTok Y = some sY) (hd : pDecls p0 9 false 3 (p1 :: rest) sY = some (.ok ((seq, init, (p1 :: rest) ++ [p0]), s))) :
    ∃ sX, lexTok (p0 ++ moreT sepC (p1 :: rest) (41 :: 59 :: 10 :: 32 :: ([105, 110, 112, 117, 116] ++ 32 :: (p1 ++ moreT sepC rest (59 :: 10 :: Y))))) = some sX ∧ isKey kOutput sX.1 = false ∧ midP sX = some (.ok ((p0 :: p1 :: rest, seq, init), s)) := by
  have hl' : rest.length + 1 + 1 ≤ 5 := hl
  have h0 := hp p0 (.head _)
  have h1 := hp p1 (.tail _ (.head _))
  have hr : ∀ x ∈ p1 :: rest, x ∈ namesL := fun x hx => hp x (.tail _ hx)
  have hr' : ∀ x ∈ rest, x ∈ namesL := fun x hx => hr x (.tail _ hx)
  obtain ⟨sm, i1, i2⟩ := more_more (c := 41) (by decide) (tl := 59 :: 10 :: 32 :: ([105, 110, 112, 117, 116] ++ 32 :: (p1 ++ moreT sepC rest (59 :: 10 :: Y)))) (p1 :: rest) 10 [p0] hr (by show rest.length + 1 < 10; omega)
  obtain ⟨sn, j1, j2⟩ := more_more (c := 59) (by decide) (tl := 10 :: Y) rest 10 ([] ++ [p1]) hr' (by omega)
  refine ⟨_, nm_more h0 ⟨_, rfl⟩ (by decide) _, rfl, ?_⟩
  unfold midP
  refine Eq.trans (bind_ok (xId i1)) ?_
  refine Eq.trans (bind_ok i2) ?_
  refine Eq.trans (bind_ok (xOp (t59 _))) ?_
  refine Eq.trans (bind_ok (xOp (show lexTok (10 :: 32 :: ([105, 110, 112, 117, 116] ++ 32 :: (p1 ++ moreT sepC rest (59 :: 10 :: Y)))) = _ from tIn _))) ?_
  refine Eq.trans (bind_ok (ports_ok hp hl (seq := seq) (init := init) (s' := s) ?_)) ?_
  · refine Eq.trans (d_in ((bl _).trans (nm_more h1 ⟨_, rfl⟩ (by decide) _)) j1 j2 ((nlx _).trans hY)) ?_
    exact hd
  · rfl
end Mine

namespace Mine
theorem lits : lst " (" = [32, 40] ∧ lst "output reg " = [111, 117, 116, 112, 117, 116, 32, 114, 101, 103, 32] ∧ lst "output " = [111, 117, 116, 112, 117, 116, 32] ∧ lst ", input " = sepI ∧ lst ");\n" = [41, 59, 10] ∧ lst ", " = sepC ∧ lst ");\n input " = [41, 59, 10, 32, 105, 110, 112, 117, 116, 32] ∧ lst ";\n" = [59, 10] ∧
    lst " output reg " = [32, 111, 117, 116, 112, 117, 116, 32, 114, 101, 103, 32] ∧ lst " output " = [32, 111, 117, 116, 112, 117, 116, 32] ∧ lst " reg " = [32, 114, 101, 103, 32] ∧ lst " initial " = [32, 105, 110, 105, 116, 105, 97, 108, 32] ∧ lst "primitive " = [112, 114, 105, 109, 105, 116, 105, 118, 101, 32] := by decide +kernel
theorem more_app (sep : List Nat) (r : List Nat) : ∀ (xs : List (List Nat)) (tail : List Nat), moreT sep xs tail ++ r = moreT sep xs (tail ++ r)
  | [], _ => rfl
  | x :: xs, tail => by
    show sep ++ (x ++ moreT sep xs tail) ++ r = sep ++ (x ++ moreT sep xs (tail ++ r))
    rw [List.append_assoc, List.append_assoc, more_app sep r xs tail]
section
variable {name p0 p1 Q r2 : List Nat} {rest : List (List Nat)} {seq : Bool} {first : Option (List Nat)} {s : PS0}
theorem tail_no (hk : s.1 = .key kTable) {ports : List (List Nat)} : pAcceptKey kInitial s = some (.ok (false, s)) := nKey (by rw [hk]; rfl)
theorem init_no {sT : PS0} : (if false then (pAcceptOp [61]).bind fun b => if b then pInitial else .ret 3 else .ret (3 : Int)) sT = some (.ok (initOf none, sT)) := rfl
theorem len2 : ¬ (p0 :: p1 :: rest).length < 2 := by simp only [List.length_cons]; omega
theorem head0 (hn : name ∈ namesL) (hp : ∀ x ∈ p0 :: p1 :: rest, x ∈ namesL) (hl : (p0 :: p1 :: rest).length ≤ 5) (hf : first ∈ firstsL) (hs : seq = false → first = none) (hQ : lexTok Q = some s) (hk : s.1 = .key kTable) :
    ∃ X, headT 0 name p0 (p1 :: rest) seq first ++ Q = name ++ 32 :: 40 :: X ∧ pHead (.key kPrim, 32 :: (name ++ 32 :: 40 :: X)) = some (.ok ((name, p0 :: p1 :: rest, seq, initOf first), s)) := by
  obtain ⟨e1, e2, e3, e4, e5, _⟩ := lits
  have hl' : rest.length + 1 + 1 ≤ 5 := hl
  have h0 := hp p0 (.head _)
  obtain ⟨sm, i1, i2⟩ := ansi_more (c := 41) (by decide) (tl := 59 :: 10 :: Q) (p1 :: rest) 10 [p0] (fun x hx => hp x (.tail _ hx)) (by show rest.length + 1 < 10; omega)
  have i3 : lexTok (moreT sepI (p1 :: rest) (41 :: 59 :: 10 :: Q)) = some (.op [44], [32, 105, 110, 112, 117, 116, 32] ++ (p1 ++ moreT sepI rest (41 :: 59 :: 10 :: Q))) := t44 _
  have i4 : isOp [61] sm.1 = false := by rw [i3] at i1; cases i1; rfl
  have ej : sepI ++ (joinL sepI (p1 :: rest) ++ (41 :: 59 :: 10 :: Q)) = moreT sepI (p1 :: rest) (41 :: 59 :: 10 :: Q) := by rw [join_more]; rfl
  cases seq with
  | true =>
    obtain ⟨sT, j1, j2⟩ := start_read hf (c := 44) (by decide) i1 i4
    refine ⟨[111, 117, 116, 112, 117, 116] ++ 32 :: ([114, 101, 103] ++ 32 :: (p0 ++ (startT first ++ moreT sepI (p1 :: rest) (41 :: 59 :: 10 :: Q)))), ?_, ?_⟩
    · simp only [headT, if_true, e1, e2, e4, e5, List.append_assoc, List.cons_append, List.nil_append, ej]
    · refine head_go hn (by kernel_rfl) (tOut _) (init0 := initOf first) (seq := true) (ports := p0 :: p1 :: rest) (s1 := s) ?_ len2 (tail_no hk (ports := [])) rfl
      rw [if_pos (by rfl)]
      refine ansi_ok ((bl _).trans (tReg _)) (aKey ((bl _).trans (start_nm h0 (c := 44) (by decide) _))) j1 ?_ i2 hQ
      exact j2
  | false =>
    cases hs rfl
    refine ⟨[111, 117, 116, 112, 117, 116] ++ 32 :: (p0 ++ moreT sepI (p1 :: rest) (41 :: 59 :: 10 :: Q)), ?_, ?_⟩
    · simp only [headT, if_true, Bool.false_eq_true, if_false, startT, e1, e3, e4, e5, List.append_assoc, List.cons_append, List.nil_append, ej]
    · refine head_go hn (by kernel_rfl) (tOut _) (init0 := initOf none) (seq := false) (ports := p0 :: p1 :: rest) (s1 := s) ?_ len2 (tail_no hk (ports := [])) rfl
      rw [if_pos (by rfl)]
      exact ansi_ok ((bl _).trans (nm_more h0 ⟨_, rfl⟩ (c := 41) (by decide) _)) (nKey rfl) i1 rfl i2 hQ
theorem headM (hn : name ∈ namesL) (hp : ∀ x ∈ p0 :: p1 :: rest, x ∈ namesL) (hl : (p0 :: p1 :: rest).length ≤ 5) {Y : List Nat} {sY s1 s1' s2 : PS0} {i : Bool} {init0 init : Int} (hY : lexTok Y = some sY)
    (hd : pDecls p0 9 false 3 (p1 :: rest) sY = some (.ok ((seq, init0, (p1 :: rest) ++ [p0]), s1))) (hi : pAcceptKey kInitial s1 = some (.ok (i, s1'))) (ht : tailP i (p0 :: p1 :: rest) seq init0 s1' = some (.ok (init, s2))) :
    pHead (.key kPrim, 32 :: (name ++ 32 :: 40 :: (p0 ++ moreT sepC (p1 :: rest) (41 :: 59 :: 10 :: 32 :: ([105, 110, 112, 117, 116] ++ 32 :: (p1 ++ moreT sepC rest (59 :: 10 :: Y))))))) = some (.ok ((name, p0 :: p1 :: rest, seq, init), s2)) := by
  obtain ⟨sX, x1, x2, x3⟩ := mid_ok hp hl hY hd
  refine head_go hn (nm40 (hp p0 (.head _)) _) x1 (s1 := s1) ?_ len2 hi ht
  rw [x2, if_neg (by decide)]
  exact x3
theorem textM : name ++ lst " (" ++ joinL (lst ", ") (p0 :: p1 :: rest) ++ lst ");\n input " ++ joinL (lst ", ") (p1 :: rest) ++ lst ";\n" ++ r2 = name ++ 32 :: 40 :: (p0 ++ moreT sepC (p1 :: rest) (41 :: 59 :: 10 :: 32 :: ([105, 110, 112, 117, 116] ++ 32 :: (p1 ++ moreT sepC rest (59 :: 10 :: r2))))) := by
  obtain ⟨e1, _, _, _, _, e6, e7, e8, _⟩ := lits
  simp only [e1, e6, e7, e8, List.append_assoc, List.cons_append, List.nil_append, join_more, more_app]
theorem init_or {sT : PS0} {v : Int} {s' : PS0} {b : Bool} (hb : b = true) (h : ((pAcceptOp [61]).bind fun b => if b then pInitial else .ret 3) sT = some (.ok (v, s'))) :
    (if b then (pAcceptOp [61]).bind fun e => if e then pInitial else .ret 3 else .ret (3 : Int)) sT = some (.ok (v, s')) := by subst hb; exact h
theorem head1 (hn : name ∈ namesL) (hp : ∀ x ∈ p0 :: p1 :: rest, x ∈ namesL) (hl : (p0 :: p1 :: rest).length ≤ 5) (hf : first ∈ firstsL) (hs : seq = false → first = none) (hQ : lexTok Q = some s) (hk : s.1 = .key kTable) :
    ∃ X, headT 1 name p0 (p1 :: rest) seq first ++ Q = name ++ 32 :: 40 :: X ∧ pHead (.key kPrim, 32 :: (name ++ 32 :: 40 :: X)) = some (.ok ((name, p0 :: p1 :: rest, seq, initOf first), s)) := by
  obtain ⟨_, _, _, _, _, _, _, e8, e9, e10, _⟩ := lits
  have h0 := hp p0 (.head _)
  have hend : (isKey kOutput s.1 || isKey kInput s.1 || isKey kReg s.1) = false := by rw [hk]; rfl
  have hQ' : lexTok (10 :: Q) = some s := hQ
  cases seq with
  | true =>
    obtain ⟨sT, j1, j2⟩ := start_read hf (c := 59) (by decide) (t59 (10 :: Q)) rfl
    refine ⟨_, Eq.trans ?_ (textM (r2 := 32 :: ([111, 117, 116, 112, 117, 116] ++ 32 :: ([114, 101, 103] ++ 32 :: (p0 ++ (startT first ++ 59 :: 10 :: Q)))))), headM hn hp hl (init0 := initOf first) ((bl _).trans (tOut _)) (s1 := s) ?_ (tail_no hk (ports := [])) rfl⟩
    · simp only [headT, Nat.one_ne_zero, if_false, if_true, e8, e9, List.append_assoc, List.cons_append, List.nil_append]
    · refine Eq.trans (d_out ((bl _).trans (tReg _)) (aKey ((bl _).trans (start_nm h0 (c := 59) (by decide) _))) j1 (init_or rfl j2) hQ') ?_
      exact d_end hend
  | false =>
    cases hs rfl
    refine ⟨_, Eq.trans ?_ (textM (r2 := 32 :: ([111, 117, 116, 112, 117, 116] ++ 32 :: (p0 ++ 59 :: 10 :: Q)))), headM hn hp hl (init0 := initOf none) ((bl _).trans (tOut _)) (s1 := s) ?_ (tail_no hk (ports := [])) rfl⟩
    · simp only [headT, Nat.one_ne_zero, if_false, if_true, Bool.false_eq_true, startT, e8, e10, List.append_assoc, List.cons_append, List.nil_append]
    · refine Eq.trans (d_out ((bl _).trans (nm h0 (c := 59) (by decide) _)) (nKey rfl) (t59 _) (init' := initOf none) rfl hQ') ?_
      exact d_end hend
-- the third way: what stands after the kinds of the ports
theorem after2 (hn : name ∈ namesL) (hp : ∀ x ∈ p0 :: p1 :: rest, x ∈ namesL) (hl : (p0 :: p1 :: rest).length ≤ 5) {Y : List Nat} {s1 s1' s2 : PS0} {i : Bool} {init : Int} (hY : lexTok Y = some s1) (hend : (isKey kOutput s1.1 || isKey kInput s1.1 || isKey kReg s1.1) = false)
    (hi : pAcceptKey kInitial s1 = some (.ok (i, s1'))) (ht : tailP i (p0 :: p1 :: rest) seq 3 s1' = some (.ok (init, s2))) :
    ∃ X, name ++ lst " (" ++ joinL (lst ", ") (p0 :: p1 :: rest) ++ lst ");\n input " ++ joinL (lst ", ") (p1 :: rest) ++ lst ";\n" ++ (lst " output " ++ (p0 ++ (lst ";\n" ++ ((if seq then lst " reg " ++ (p0 ++ lst ";\n") else []) ++ Y)))) = name ++ 32 :: 40 :: X ∧
      pHead (.key kPrim, 32 :: (name ++ 32 :: 40 :: X)) = some (.ok ((name, p0 :: p1 :: rest, seq, init), s2)) := by
  obtain ⟨_, _, _, _, _, _, _, e8, _, e10, e11, _⟩ := lits
  have h0 := hp p0 (.head _)
  have hY' : lexTok (10 :: Y) = some s1 := hY
  cases seq with
  | true =>
    refine ⟨_, Eq.trans ?_ (textM (r2 := 32 :: ([111, 117, 116, 112, 117, 116] ++ 32 :: (p0 ++ 59 :: 10 :: 32 :: ([114, 101, 103] ++ 32 :: (p0 ++ 59 :: 10 :: Y)))))), headM hn hp hl (init0 := 3) ((bl _).trans (tOut _)) (s1 := s1) ?_ hi ht⟩
    · simp only [if_true, e8, e10, e11, List.append_assoc, List.cons_append, List.nil_append]
    · refine Eq.trans (d_out ((bl _).trans (nm h0 (c := 59) (by decide) _)) (nKey rfl) (t59 _) (init' := 3) rfl (show lexTok (10 :: 32 :: ([114, 101, 103] ++ 32 :: (p0 ++ 59 :: 10 :: Y))) = _ from tReg _)) ?_
      refine Eq.trans (d_reg ((bl _).trans (nm h0 (c := 59) (by decide) _)) (t59 _) hY') ?_
      exact d_end hend
  | false =>
    refine ⟨_, Eq.trans ?_ (textM (r2 := 32 :: ([111, 117, 116, 112, 117, 116] ++ 32 :: (p0 ++ 59 :: 10 :: Y)))), headM hn hp hl (init0 := 3) ((bl _).trans (tOut _)) (s1 := s1) ?_ hi ht⟩
    · simp only [Bool.false_eq_true, if_false, e8, e10, List.append_assoc, List.cons_append, List.nil_append]
    · refine Eq.trans (d_out ((bl _).trans (nm h0 (c := 59) (by decide) _)) (nKey rfl) (t59 _) (init' := 3) rfl hY') ?_
      exact d_end hend
theorem head2 {way : Nat} (hw0 : way ≠ 0) (hw1 : way ≠ 1) (hn : name ∈ namesL) (hp : ∀ x ∈ p0 :: p1 :: rest, x ∈ namesL) (hl : (p0 :: p1 :: rest).length ≤ 5) (hf : first ∈ firstsL) (hs : seq = false → first = none) (hQ : lexTok Q = some s) (hk : s.1 = .key kTable) :
    ∃ X, headT way name p0 (p1 :: rest) seq first ++ Q = name ++ 32 :: 40 :: X ∧ pHead (.key kPrim, 32 :: (name ++ 32 :: 40 :: X)) = some (.ok ((name, p0 :: p1 :: rest, seq, initOf first), s)) := by
  obtain ⟨_, _, _, _, _, _, _, e8, _, e10, e11, e12, _⟩ := lits
  have h0 := hp p0 (.head _)
  have hend : (isKey kOutput s.1 || isKey kInput s.1 || isKey kReg s.1) = false := by rw [hk]; rfl
  cases first with
  | none =>
    obtain ⟨X, x1, x2⟩ := after2 (seq := seq) hn hp hl hQ hend (tail_no hk (ports := [])) (init := initOf none) rfl
    refine ⟨X, ?_, x2⟩
    rw [← x1]
    simp only [headT, hw0, hw1, if_false]
    cases seq
    · simp only [Bool.false_eq_true, if_false, List.append_assoc, List.nil_append]
    · simp only [if_true, List.append_assoc]
  | some f =>
    have hsq : seq = true := by cases seq with
      | true => rfl
      | false => cases hs rfl
    subst hsq
    obtain ⟨sn, j1, j2⟩ := num_read hf (c := 59) (by decide) (t59 (10 :: Q))
    have hx : lexTok (32 :: ([105, 110, 105, 116, 105, 97, 108] ++ 32 :: (p0 ++ (startT (some f) ++ 59 :: 10 :: Q)))) = some (.key kInitial, 32 :: (p0 ++ (startT (some f) ++ 59 :: 10 :: Q))) := (bl _).trans (tInit _)
    obtain ⟨X, x1, x2⟩ := after2 (seq := true) hn hp hl hx (by rfl) (aKey ((bl _).trans (start_nm h0 (c := 59) (by decide) _))) (init := initOf (some f)) (s2 := s) (by
      show PM.bind _ _ _ = _
      refine Eq.trans (bind_ok (a := ()) (s' := (.op [61], 32 :: (f ++ 59 :: 10 :: Q))) ?_) ?_
      · rw [if_neg (by decide)]
        refine Eq.trans (bind_ok (xId (t61 _))) ?_
        try dsimp only
        rw [if_neg (fun q => q rfl)]; rfl
      refine Eq.trans (bind_ok (xOp j1)) ?_
      refine Eq.trans (bind_ok j2) ?_
      refine Eq.trans (bind_ok (xOp ((nlx Q).trans hQ))) ?_
      rfl)
    refine ⟨X, ?_, x2⟩
    rw [← x1]
    simp only [headT, hw0, hw1, if_false, if_true, e8, e10, e11, e12, List.append_assoc, List.cons_append, List.nil_append]
theorem head_read {way : Nat} (hn : name ∈ namesL) (hp : ∀ x ∈ p0 :: p1 :: rest, x ∈ namesL) (hl : (p0 :: p1 :: rest).length ≤ 5) (hf : first ∈ firstsL) (hs : seq = false → first = none) (hQ : lexTok Q = some s) (hk : s.1 = .key kTable) :
    ∃ X, headT way name p0 (p1 :: rest) seq first ++ Q = name ++ 32 :: 40 :: X ∧ pHead (.key kPrim, 32 :: (name ++ 32 :: 40 :: X)) = some (.ok ((name, p0 :: p1 :: rest, seq, initOf first), s)) := by
  by_cases h0 : way = 0
  · subst h0; exact head0 hn hp hl hf hs hQ hk
  by_cases h1 : way = 1
  · subst h1; exact head1 hn hp hl hf hs hQ hk
  exact head2 h0 h1 hn hp hl hf hs hQ hk
end
theorem plain_ok0 {way : Nat} {name p0 p1 : List Nat} {rest : List (List Nat)} {seq : Bool} {first : Option (List Nat)} {rows : List (Row × Way)} (hn : name ∈ namesL) (hp : ∀ x ∈ p0 :: p1 :: rest, x ∈ namesL) (hl : (p0 :: p1 :: rest).length ≤ 5)
    (hf : first ∈ firstsL) (hs : seq = false → first = none) (hr : ∀ x ∈ rows, RowOK seq x.1 ∧ WayOK x.2) (hrl : rows.length ≤ 6) :
    readP (wholeT (headT way name p0 (p1 :: rest) seq first) rows) = some (.ok (primOf name p0 (p1 :: rest) seq first rows, (.eof, []))) := by
  obtain ⟨s, t1, t2, t3⟩ := table_read hr hrl
  obtain ⟨X, x1, x2⟩ := head_read (way := way) hn hp hl hf hs t1 t2
  obtain ⟨_, _, _, _, _, _, _, _, _, _, _, _, e13⟩ := lits
  have e : wholeT (headT way name p0 (p1 :: rest) seq first) rows = [112, 114, 105, 109, 105, 116, 105, 118, 101] ++ 32 :: (name ++ 32 :: 40 :: X) := by
    rw [← x1, wholeT, e13]
    simp only [List.append_assoc, List.cons_append, List.nil_append]
  rw [e]
  unfold readP
  rw [tPrim]
  show PM.bind pHead _ _ = _
  refine Eq.trans (bind_ok x2) ?_
  refine Eq.trans (bind_ok t3) ?_
  rfl
end Mine

namespace Mine
noncomputable def badAt (x : List Nat × Str) : Bool := match readP (lst "primitive " ++ x.1) with
  | some (.error k) => k == x.2
  | _ => false
theorem plain_bad_all : wrongL.all badAt = true := by decide +kernel
theorem plain_bad {x : List Nat × Str} (h : x ∈ wrongL) : readP (lst "primitive " ++ x.1) = some (.error x.2) := by
  have q := List.all_eq_true.mp plain_bad_all x h
  unfold badAt at q
  split at q
  · rename_i k e; rw [e, eq_of_beq q]
  · cases q
theorem wrong_lens : ∀ x ∈ wrongL, (lst "primitive " ++ x.1).length ≤ 1000 ∧ Asc (lst "primitive " ++ x.1) := by decide +kernel
theorem plain_ok {way : Nat} {name p0 p1 : List Nat} {rest : List (List Nat)} {seq : Bool} {first : Option (List Nat)} {rows : List (Row × Way)} (hn : name ∈ namesL) (hp : ∀ x ∈ p0 :: p1 :: rest, x ∈ namesL) (hl : (p0 :: p1 :: rest).length ≤ 5)
    (hf : first ∈ firstsL) (hs : seq = false → first = none) (hr : ∀ x ∈ rows, RowOK seq x.1 ∧ WayOK x.2) (hrl : rows.length ≤ 6) :
    readP (wholeT (headT way name p0 (p1 :: rest) seq first) rows) = some (.ok (primOf name p0 (p1 :: rest) seq first rows, (.eof, []))) := by
  exact plain_ok0 hn hp hl hf hs hr hrl
end Mine

namespace Mine
variable {G : Cfg} {C : Addr} {H H₁ : Hp} {Q : AV → Hp → Prop} {E : Str → Prop} {l p f ln : Addr} {ao : AO}

theorem law_use {K : Frag} {oc oc' : Value} {od od' : Option Addr} {name qual name' qual' : Str} {params params' : Arguments} {body body' : List Stmt} {scope scope' : Scope} {dV kV doc pm cdv ct dV' kV' doc' pm' cdv' ct' : Value} {an an' : Option Addr} {osl osl' : Array (Option Value)}
    (ho : K.lookup 717 = some ⟨oc, od, .func (fnOf name qual params body scope dV kV doc pm an cdv ct), osl⟩) (hc : K.lookup 717 = some ⟨oc', od', .func (fnOf name' qual' params' body' scope' dV' kV' doc' pm' an' cdv' ct'), osl'⟩)
    {P : Str → List Stmt → Scope → Prop} (h : P qual' body' scope') : P qual body scope := by
  rw [hc] at ho
  simp only [Option.some.injEq, Obj.mk.injEq, Data.func.injEq, FuncData.mk.injEq, FuncBody.stmts.injEq] at ho
  obtain ⟨_, _, ⟨_, e1, _, e2, e3, _⟩, _⟩ := ho
  subst e1 e2 e3
  exact h
structure LS (H : Hp) (L p f ln : Addr) (st : Nat) (seq : Bool) : Prop where
  c1 : H (L + 1) = some (.cell (some (.ref p)))
  c2 : H (L + 2) = some (.cell (some (.ref ln)))
  c3 : H (L + 3) = some (.cell (some (.int st)))
  c4 : H (L + 4) = some (.cell (some (.bool seq)))
  nl : H ln = some (.list (strL namesL))
  po : PoolOK H p f
theorem PoolOK.neC (po : PoolOK H p f) {v : Option AV} (h : H l = some (.cell v)) : l ≠ p := by
  obtain ⟨figs, i, mix, g1, g2, h3⟩ := po.o
  intro q; rw [q, g1] at h; cases h
theorem LS.step {L : Addr} {st : Nat} {seq : Bool} (s : LS H L p f ln st seq) (k : ExtP p H H₁) (po : PoolOK H₁ p f) : LS H₁ L p f ln st seq :=
  ⟨k _ _ (s.po.neC s.c1) s.c1, k _ _ (s.po.neC s.c2) s.c2, k _ _ (s.po.neC s.c3) s.c3, k _ _ (s.po.neC s.c4) s.c4, k _ _ (s.po.neS s.nl) s.nl, po⟩
theorem LS.ext {L : Addr} {st : Nat} {seq : Bool} (s : LS H L p f ln st seq) (k : Ext H H₁) : LS H₁ L p f ln st seq :=
  ⟨k _ _ s.c1, k _ _ s.c2, k _ _ s.c3, k _ _ s.c4, k _ _ s.nl, s.po.ext k⟩
structure LOff (L p f ln l : Addr) : Prop where
  n1 : l ≠ L + 1
  n2 : l ≠ L + 2
  n3 : l ≠ L + 3
  n4 : l ≠ L + 4
  nl : l ≠ ln
  np : l ≠ p
  nf : l ≠ f
theorem LS.off {L : Addr} {st : Nat} {seq : Bool} (s : LS H L p f ln st seq) (h : H l = none) : LOff L p f ln l := by
  have key : ∀ {a : Addr} {ao : AO}, H a = some ao → l ≠ a := fun e q => by rw [q, e] at h; cases h
  exact ⟨key s.c1, key s.c2, key s.c3, key s.c4, key s.nl, s.po.off h, s.po.offF h⟩
theorem LS.setx {L : Addr} {st : Nat} {seq : Bool} (s : LS H L p f ln st seq) (o : LOff L p f ln l) : LS (H.set l ao) L p f ln st seq :=
  ⟨(Hp.set_ne o.n1.symm).trans s.c1, (Hp.set_ne o.n2.symm).trans s.c2, (Hp.set_ne o.n3.symm).trans s.c3, (Hp.set_ne o.n4.symm).trans s.c4, (Hp.set_ne o.nl.symm).trans s.nl, s.po.setx o.np o.nf⟩
theorem LS.dropx {L : Addr} {st : Nat} {seq : Bool} (s : LS H L p f ln st seq) (o : LOff L p f ln l) : LS (H.drop l) L p f ln st seq :=
  ⟨(Hp.drop_ne o.n1.symm).trans s.c1, (Hp.drop_ne o.n2.symm).trans s.c2, (Hp.drop_ne o.n3.symm).trans s.c3, (Hp.drop_ne o.n4.symm).trans s.c4, (Hp.drop_ne o.nl.symm).trans s.nl, s.po.dropx o.np o.nf⟩
theorem l_out : lst "01x-" = [48, 49, 120, 45] := by decide +kernel
theorem Ext.extP (k : Ext H H₁) : ExtP p H H₁ := fun a ao _ e => k a ao e

theorem off_ne {L : Addr} {a b : Nat} (h : a ≠ b) : L + a ≠ L + b := fun q => h (Nat.add_left_cancel q)
theorem fmod7 (n : Nat) : ((n : Int)).fmod 7 = ((n % 7 : Nat) : Int) := by
  rw [Int.fmod_eq_emod_of_nonneg _ (by decide)]; omega
theorem port_get (st k : Nat) : (strL namesL)[(st + 1 + k) % 7]? = some (.str (S (portOf st k))) := by
  have h : (st + 1 + k) % 7 < namesL.length := Nat.mod_lt _ (by decide)
  unfold portOf strL
  rw [List.getElem?_map, List.getElem?_eq_getElem h]; rfl
end Mine

namespace Mine
variable {G : Cfg} {C : Addr} {H H₁ : Hp} {Q : AV → Hp → Prop} {E : Str → Prop} {l p f ln : Addr} {ao : AO}
theorem kne_eof (tk : Tk) : (tkKind tk != ("eof" : Str)) = (match tk with | .eof => false | _ => true) := by
  show (!(tkKind tk == ("eof" : Str))) = _; rw [kind_eof]; cases tk <;> rfl
noncomputable def NoDict (H H' : Hp) : Prop := ∀ a ao, (∀ fs, ao ≠ .dict fs) → H a = some ao → H' a = some ao
theorem LS.nodict {L : Addr} {st : Nat} {seq : Bool} (s : LS H L p f ln st seq) (k : NoDict H H₁) : LS H₁ L p f ln st seq := by
  obtain ⟨figs, i, mix, g1, g2, g3⟩ := s.po.o
  exact ⟨k _ _ (fun _ q => by cases q) s.c1, k _ _ (fun _ q => by cases q) s.c2, k _ _ (fun _ q => by cases q) s.c3, k _ _ (fun _ q => by cases q) s.c4, k _ _ (fun _ q => by cases q) s.nl, ⟨figs, i, mix, k _ _ (fun _ q => by cases q) g1, k _ _ (fun _ q => by cases q) g2, g3⟩⟩
noncomputable def initD : List (Str × PyData) := [("0", .int 0), ("1", .int 1), ("x", .int 3)]
theorem lk48 : PySem.Spec.lookup (.str (S [48])) (initD.map fun p => (PyData.str p.1, p.2)) = some (.int 0) := by rfl
theorem lk49 : PySem.Spec.lookup (.str (S [49])) (initD.map fun p => (PyData.str p.1, p.2)) = some (.int 1) := by rfl
theorem lk120 : PySem.Spec.lookup (.str (S [120])) (initD.map fun p => (PyData.str p.1, p.2)) = some (.int 3) := by rfl
theorem lkx : PySem.Spec.lookup (.str "x") (initD.map fun p => (PyData.str p.1, p.2)) = some (.int 3) := by rfl
theorem first_cases {first : Option (List Nat)} (h : first ∈ firstsL) : (first = none ∧ initOf first = 3) ∨ ∃ w c n, first = some w ∧ (seqIndex? (-1) (S w).length).bind ((S w).cps[·]?) = some c ∧ PySem.Spec.lookup (.str (S [c])) (initD.map fun p => (PyData.str p.1, p.2)) = some (.int n) ∧ initOf first = n := by
  simp only [firstsL, List.mem_cons, List.not_mem_nil, or_false] at h
  rcases h with rfl | rfl | rfl | rfl | rfl | rfl
  · exact .inl ⟨rfl, by decide +kernel⟩
  · exact .inr ⟨_, 48, 0, rfl, by decide +kernel, lk48, by decide +kernel⟩
  · exact .inr ⟨_, 49, 1, rfl, by decide +kernel, lk49, by decide +kernel⟩
  · exact .inr ⟨_, 49, 1, rfl, by decide +kernel, lk49, by decide +kernel⟩
  · exact .inr ⟨_, 120, 3, rfl, by decide +kernel, lk120, by decide +kernel⟩
  · exact .inr ⟨_, 48, 0, rfl, by decide +kernel, lk48, by decide +kernel⟩
set_option autoImplicit false in
inductive IvSB_1 (loc1 : List (Str × AV)) (L : Addr) (p : Addr) (f : Addr) (ln : Addr) (st : Nat) (seq : Bool) (D : Addr) (p0 : List Nat) (p1 : List Nat) (rest : List (List Nat)) (lr : Addr) (rows : List (Row × Way)) (px : Addr) (pd' : Addr) (pl : Addr) (lx : Addr) (ld : Addr) (kd : Addr) (whole : List Nat) (σ' : St) : Prop
  | mk (H' : Hp) (h1 : σ' = ⟨loc1, H'⟩) (h2 : LS H' L p f ln st seq) (h3 : H' D = some (.list (strL (p0 :: p1 :: rest)))) (h4 : H' lr = some (.list (rows.map fun x => rowAV x.1))) (h5 : PX H' ⟨px, pd', pl, lx, ld, kd, whole⟩ (.eof, []))
set_option autoImplicit false in
inductive IvSB_2 (loc1 : List (Str × AV)) (L : Addr) (p : Addr) (f : Addr) (ln : Addr) (st : Nat) (seq : Bool) (lr : Addr) (rows : List (Row × Way)) (px : Addr) (pd' : Addr) (pl : Addr) (lx : Addr) (ld : Addr) (kd : Addr) (whole : List Nat) (σ' : St) : Prop
  | mk (H' : Hp) (h1 : σ' = ⟨loc1, H'⟩) (h2 : LS H' L p f ln st seq) (h3 : H' lr = some (.list (rows.map fun x => rowAV x.1))) (h4 : PX H' ⟨px, pd', pl, lx, ld, kd, whole⟩ (.eof, []))
set_option autoImplicit false in
inductive IvSB_3 (loc1 : List (Str × AV)) (L : Addr) (p : Addr) (f : Addr) (ln : Addr) (st : Nat) (seq : Bool) (σ' : St) : Prop
  | mk (H' : Hp) (h1 : σ' = ⟨loc1, H'⟩) (h2 : LS H' L p f ln st seq)
set_option maxHeartbeats 4000000 in
theorem law_tail (hK : G.K = KK G.w.params) {oc : Value} {od : Option Addr} {fname qual : Str} {params : Arguments} {body : List Stmt} {scope : Scope} {dV kV doc pm cdv ct : Value} {an : Option Addr} {osl : Array (Option Value)}
    (ho : G.K.lookup 717 = some ⟨oc, od, .func (fnOf fname qual params body scope dV kV doc pm an cdv ct), osl⟩) (L fa : Addr) (cd : Value) {D lr : Addr} {st way : Nat} {seq : Bool} {name p0 p1 base : List Nat} {rest : List (List Nat)} {first : Option (List Nat)} {rows : List (Row × Way)} {loc : List (Str × AV)}
    (v1 : loc.lookup ("name" : Str) = some (AV.str (S name))) (v2 : loc.lookup ("ports" : Str) = some (AV.ref D)) (v3 : loc.lookup ("first" : Str) = some (stAV first)) (v4 : loc.lookup ("rows" : Str) = some (AV.ref lr)) (v5 : loc.lookup ("text" : Str) = some (AV.str (S (base ++ tabT rows))))
    (ls : LS H L p f ln st seq) (pd : H D = some (.list (strL (p0 :: p1 :: rest)))) (rl : H lr = some (.list (rows.map fun x => rowAV x.1))) (hrl : rows.length ≤ 6) (hrows : ∀ x ∈ rows, RowOK seq x.1 ∧ WayOK x.2)
    (hname : name ∈ namesL) (hmem : ∀ x ∈ p0 :: p1 :: rest, x ∈ namesL) (hlen : (p0 :: p1 :: rest).length ≤ 5) (hfm : first ∈ firstsL) (hfs : seq = false → first = none) (hbase : lst "primitive " ++ headT way name p0 (p1 :: rest) seq first ++ lst "table\n" = base) (baseL : base.length ≤ 1100) (nDp : D ≠ p) (nlr : lr ≠ p) :
    JF G 40 (envOfC qual scope L fa cd) (body.drop 12) ⟨loc, H⟩ := by
  refine law_use ho (by rw [hK]; k_is) (P := fun qual body scope => JF G 40 (envOfC qual scope L fa cd) (body.drop 12) ⟨loc, H⟩) ?_
  clear ho
  have be : (lst "endtable\nendprimitive\n").length ≤ 30 := by decide +kernel
  obtain ⟨tabA, tabL⟩ := tab_ok hrows
  refine JF.cons (J.AugN v5 (J.CL ⟨_, .addS _ _ (fits3 (by rw [List.length_append]; omega) (by omega)), ?_⟩))
  rw [S_app]
  generalize hwh : base ++ tabT rows ++ lst "endtable\nendprimitive\n" = whole
  have hwhole : wholeT (headT way name p0 (p1 :: rest) seq first) rows = whole := by rw [← hwh, ← hbase]; rfl
  have hread := plain_ok (way := way) hname hmem hlen hfm hfs hrows hrl
  rw [hwhole] at hread
  have wl : whole.length ≤ 10000 := by rw [← hwh, List.length_append, List.length_append]; omega
  have wa : Asc whole := by
    obtain ⟨_, _, _, _, _, _, _, _, _, _, _, _, a13, a14, a15, _⟩ := asc_lits
    rw [← hwh, ← hbase]
    exact ((((a13.app (head_ok hname hmem (by omega) hfm).1).app a14).app tabA).app a15)
  unfold readP at hread
  cases hx : lexTok whole with
  | none => rw [hx] at hread; cases hread
  | some s0 =>
  rw [hx] at hread
  dsimp only at hread
  refine JF.cons (J.AssignN (J.Call (J.Nglob (by rw [hK]; k_is) (.ref 670) ⟨_, rfl, kok (by rw [hK]; k_is), ?_⟩)))
  refine J.Lcons (J.Call (J.Nglob (by rw [hK]; k_is) (.ref 338) ⟨_, rfl, kok (by rw [hK]; k_is), J.Lcons (J.Nloc lk_eq (J.Lnil ?_))⟩))
  refine (c_Lexer hK wl wa fun lx ld kd H11 L11 x11 => J.Lnil ?_).clUp
  refine (c_Parser hK L11 hx fun px pd' pl H12 px12 x12 => ?_).clUp
  have k12 : NoDict H H12 := fun a ao n e => x12 a ao (fun q => by subst q; have := L11.i.f; rw [x11 _ _ e] at this; exact n _ (Option.some.inj this)) (x11 _ _ e)
  refine JF.cons (J.AssignN (J.Call (J.Nglob (by rw [hK]; k_is) (.ref 49) ⟨_, rfl, kok (by rw [hK]; k_is), J.Lcons (J.Nloc lk_eq (J.Lnil ?_))⟩)))
  refine (c_parse hK px12 ?_).clUp
  rw [hread]
  intro H13 px13 k13 a
  have k13' : NoDict H12 H13 := fun b ao n e => k13 b ao (fun q => by obtain ⟨z, hz⟩ := px12.a; rw [q, hz] at e; exact n _ (Option.some.inj e).symm) (fun q => by obtain ⟨z, hz, _⟩ := px12.q; rw [q, hz.i.f] at e; exact n _ (Option.some.inj e).symm) e
  have kk : NoDict H H13 := fun b ao n e => k13' b ao n (k12 b ao n e)
  have ls13 := ls.nodict kk
  have pd13 := kk _ _ (fun _ q => by cases q) pd
  have rl13 := kk _ _ (fun _ q => by cases q) rl
  clear ls pd rl k12 k13' kk k13 x11 x12 px12 L11
  have u1 : (setL ("told" : Str) (primAV (primOf name p0 (p1 :: rest) seq first rows) a) (setL ("parser" : Str) (.ref px) (setL ("text" : Str) (.str (S whole)) loc))).lookup ("name" : Str) = some (AV.str (S name)) := lk_ne (lk_ne (lk_ne v1))
  have u2 : (setL ("told" : Str) (primAV (primOf name p0 (p1 :: rest) seq first rows) a) (setL ("parser" : Str) (.ref px) (setL ("text" : Str) (.str (S whole)) loc))).lookup ("ports" : Str) = some (AV.ref D) := lk_ne (lk_ne (lk_ne v2))
  have u3 : (setL ("told" : Str) (primAV (primOf name p0 (p1 :: rest) seq first rows) a) (setL ("parser" : Str) (.ref px) (setL ("text" : Str) (.str (S whole)) loc))).lookup ("first" : Str) = some (stAV first) := lk_ne (lk_ne (lk_ne v3))
  have u4 : (setL ("told" : Str) (primAV (primOf name p0 (p1 :: rest) seq first rows) a) (setL ("parser" : Str) (.ref px) (setL ("text" : Str) (.str (S whole)) loc))).lookup ("rows" : Str) = some (AV.ref lr) := lk_ne (lk_ne (lk_ne v4))
  have u5 : (setL ("told" : Str) (primAV (primOf name p0 (p1 :: rest) seq first rows) a) (setL ("parser" : Str) (.ref px) (setL ("text" : Str) (.str (S whole)) loc))).lookup ("parser" : Str) = some (AV.ref px) := lk_ne lk_eq
  have u6 : (setL ("told" : Str) (primAV (primOf name p0 (p1 :: rest) seq first rows) a) (setL ("parser" : Str) (.ref px) (setL ("text" : Str) (.str (S whole)) loc))).lookup ("told" : Str) = some (primAV (primOf name p0 (p1 :: rest) seq first rows) a) := lk_eq
  dsimp only
  generalize (setL ("told" : Str) (primAV (primOf name p0 (p1 :: rest) seq first rows) a) (setL ("parser" : Str) (.ref px) (setL ("text" : Str) (.str (S whole)) loc))) = loc1 at u1 u2 u3 u4 u5 u6 ⊢
  clear v1 v2 v3 v4 v5
  have px13' : PX H13 ⟨px, pd', pl, lx, ld, kd, whole⟩ (.eof, []) := px13
  -- the heading
  refine JF.consN (P' := IvSB_1 loc1 L p f ln st seq D p0 p1 rest lr rows px pd' pl lx ld kd whole) ?_ ?_
  · refine J.If (J.TCmp (J.TupleD ?_))
    refine J.Lcons (J.AttrZ (J.Nloc u6 ⟨38, _, _, rfl, rfl, clsPrim hK, prName hK, rfl, ?_⟩))
    refine J.Lcons (J.AttrZ (J.Nloc u6 ⟨38, _, _, rfl, rfl, clsPrim hK, prOutput hK, rfl, ?_⟩))
    refine J.Lcons (J.Call (J.Nbi (by rw [hK]; k_is) rfl (by decide) (.ty _) ⟨_, rfl, rfl, J.Lcons (J.AttrZ (J.Nloc u6 ⟨38, _, _, rfl, rfl, clsPrim hK, prInputs hK, rfl, J.Lnil (Cl.tupleT ?_)⟩))⟩))
    refine J.Lcons (J.AttrZ (J.Nloc u6 ⟨38, _, _, rfl, rfl, clsPrim hK, prSeq hK, rfl, ?_⟩))
    refine J.Lnil ⟨by simp, ?_⟩
    refine J.TupleD ?_
    refine J.Lcons (J.Nloc u1 ?_)
    refine J.Lcons (J.ItemL (J.Nloc u2 (J.Cint ⟨D, _, 0, .str (S p0), rfl, rfl, pd13, by decide, by decide, rfl, ?_⟩)))
    refine J.Lcons (J.Call (J.Nbi (by rw [hK]; k_is) rfl (by decide) (.ty _) ⟨_, rfl, rfl, J.Lcons (J.SliceL1 (J.Nloc u2 (J.Cint ⟨D, _, 1, rfl, rfl, pd13, by decide, by rw [List.length_map]; omega, fun b hb => J.Lnil (Cl.tupleL Hp.set_same (by rw [List.length_drop, List.length_map]; omega) ?_)⟩)))⟩))
    have hb : H13 b = none := hb
    have lsb := ls13.ext (Ext.refl.set (ao := .list ((strL (p0 :: p1 :: rest)).drop 1)) hb)
    have ob := px13'.off hb
    refine J.Lcons (J.Ncell rfl lsb.c4 (J.Lnil ⟨by simp, ?_⟩))
    have sh := head_shaped (seq := seq) (names_asc _ hname) (names_asc p0 (hmem _ (.head _))) (fun x hx => names_asc x (hmem x (.tail _ hx)) : ∀ x ∈ p1 :: rest, Asc x)
    refine ⟨_, .neD _ _ (headD name p0 (p1 :: rest) seq) (headD name p0 (p1 :: rest) seq) (.tup (.cons (.str _) (.cons (.str _) (.cons (.tup (strs_ad _)) (.cons (.bool _) .nil))))) (.tup (.cons (.str _) (.cons (.str _) (.cons (.tup (strs_ad _)) (.cons (.bool _) .nil))))) sh sh, ?_⟩
    rw [eqv_shaped sh, Bool.not_true, if_neg (by decide)]
    exact J.nil ⟨rfl, _, rfl, lsb, (Hp.set_ne (fun q => by rw [← q, pd13] at hb; cases hb)).trans pd13, (Hp.set_ne (fun q => by rw [← q, rl13] at hb; cases hb)).trans rl13, px13'.set ob⟩
  rintro _ ⟨H14, rfl, ls14, pd14, rl14, px14⟩
  clear ls13 pd13 rl13 px13 px13'
  -- the initial value
  refine JF.consN (P' := IvSB_2 loc1 L p f ln st seq lr rows px pd' pl lx ld kd whole) ?_ ?_
  · refine J.If (J.TCmp (J.AttrZ (J.Nloc u6 ⟨38, _, _, rfl, rfl, clsPrim hK, prInit hK, rfl, ?_⟩)))
    refine J.ItemD (J.DictLits initD (by rfl) (by decide +kernel) (by decide +kernel) (by rfl) rfl (by simp) (by decide) fun d hd hm => ?_)
    have hd : H14 d = none := hd
    have lsd := ls14.ext (Ext.refl.set (ao := .sdict initD) hd)
    have od := px14.off hd
    have fin : (H14.set d (.sdict initD)) lr = some (.list (rows.map fun x => rowAV x.1)) := (Hp.set_ne (fun q => by rw [← q, rl14] at hd; cases hd)).trans rl14
    refine J.IfE (J.monoQ (Q := fun v σ' => σ' = ⟨loc1, H14.set d (.sdict initD)⟩ ∧ v = first.isSome) ?_ ?_)
    · cases first with
      | none => exact J.TCmp (J.Nloc u3 (J.Cnone ⟨_, .isNot', rfl, rfl⟩))
      | some w => exact J.TCmp (J.Nloc u3 (J.Cnone ⟨_, .isNot _ (by simp [stAV]), rfl, rfl⟩))
    · rintro b _ ⟨rfl, rfl⟩
      rcases first_cases hfm with ⟨e, hi⟩ | ⟨w, c, n, e, hc, hlk, hi⟩
      · rw [show first.isSome = false by rw [e]; rfl, if_neg (by decide)]
        refine J.Cstr ⟨d, initD, _, 3, rfl, rfl, hm, Hp.set_same, lkx, _, .neI _ _, ?_⟩
        rw [show ((primOf name p0 (p1 :: rest) seq first rows).init != (3 : Int)) = false by show (initOf first != (3 : Int)) = false; rw [hi]; rfl, if_neg (by decide)]
        exact J.nil ⟨rfl, _, rfl, lsd, fin, px14.set od⟩
      · have u3' : loc1.lookup ("first" : Str) = some (AV.str (S w)) := by rw [u3, e]; rfl
        rw [show first.isSome = true by rw [e]; rfl, if_pos rfl]
        refine J.ItemS (J.Nloc u3' (J.Neg (J.Cint ⟨_, rfl, S w, -1, c, rfl, rfl, by decide, by decide, hc, ?_⟩)))
        refine ⟨d, initD, S [c], n, rfl, rfl, hm, Hp.set_same, hlk, _, .neI _ _, ?_⟩
        rw [show ((primOf name p0 (p1 :: rest) seq first rows).init != n) = false by show (initOf first != n) = false; rw [hi]; simp, if_neg (by decide)]
        exact J.nil ⟨rfl, _, rfl, lsd, fin, px14.set od⟩
  rintro _ ⟨H15, rfl, ls15, rl15, px15⟩
  clear ls14 pd14 rl14 px14
  -- the rows, the end
  refine JF.consN (P' := IvSB_3 loc1 L p f ln st seq) ?_ ?_
  · have rs : SeqAt.shaped (.tuple ((rows.map (·.1)).map rowD)) = true := rows_shaped (seq := seq) fun r hr => by obtain ⟨x, hx, rfl⟩ := List.mem_map.mp hr; exact (hrows x hx).1
    have rl15' : H15 lr = some (.list ((rows.map (·.1)).map rowAV)) := by rw [rl15, List.map_map]; rfl
    refine J.If (J.TOr (J.TCmp (J.Call (J.Nbi (by rw [hK]; k_is) rfl (by decide) (.ty _) ⟨_, rfl, rfl, J.Lcons (J.AttrZ (J.Nloc u6 ⟨38, _, _, rfl, rfl, clsPrim hK, prRows hK, rfl, J.Lnil (Cl.tupleT ?_)⟩))⟩))))
    refine J.Call (J.Nbi (by rw [hK]; k_is) rfl (by decide) (.ty _) ⟨_, rfl, rfl, J.Lcons (J.Nloc u4 (J.Lnil (Cl.tupleL rl15' (by rw [List.length_map, List.length_map]; omega) ?_)))⟩)
    refine ⟨_, .neD _ _ (.tuple ((rows.map (·.1)).map rowD)) (.tuple ((rows.map (·.1)).map rowD)) (.tup (rows_ad _)) (.tup (rows_ad _)) rs rs, ?_⟩
    rw [eqv_shaped rs, Bool.not_true, if_neg (by decide)]
    refine J.TOr (J.TCmp (J.Tkind hK (J.Ptok hK u5 px15 fun z => ⟨_, z, rfl, J.Cstr ⟨_, .neS _ _, ?_⟩⟩)))
    rw [kne_eof]
    refine J.TOrNil ?_
    rw [if_neg (by decide)]
    exact J.nil ⟨rfl, H15, rfl, ls15⟩
  rintro _ ⟨H16, rfl, ls16⟩
  clear rl15 px15 ls15
  -- a wrong text
  refine JF.cons (J.AssignN (J.Call (J.Nglob (by rw [hK]; k_is) (.ref 712) ⟨_, rfl, kok (by rw [hK]; k_is), J.Lnil ?_⟩)))
  refine (c_wrong hK fun lw hlw => ?_).clUp
  have hlw : H16 lw = none := hlw
  have ls17 := ls16.ext (Ext.refl.set (ao := .list (wrongL.map wAV)) hlw)
  have w17 : (H16.set lw (.list (wrongL.map wAV))) lw = some (.list (wrongL.map wAV)) := Hp.set_same
  have nlw : lw ≠ p := ls16.po.off hlw
  dsimp only
  generalize H16.set lw (.list (wrongL.map wAV)) = H17 at ls17 w17 ⊢
  refine JF.cons (J.AssignT [("row", _), ("kind", _)] (J.ItemL (J.Nloc lk_eq (J.Call (J.Nglob (by rw [hK]; k_is) (.ref 686) ⟨_, rfl, kok (by rw [hK]; k_is), ?_⟩)))))
  refine J.Lcons (J.Ncell rfl ls17.c1 ?_)
  refine J.Lcons (J.Call (J.Nbi (by rw [hK]; k_is) rfl (by decide) (.bi _) ⟨_, rfl, rfl, J.Lcons (J.Nloc lk_eq (J.Lnil (Cl.lenL w17 (by rw [List.length_map, sizeLine_eq]; decide) ?_)))⟩))
  rw [List.length_map, show wrongL.length = 14 from rfl]
  refine J.Lnil ?_
  refine (c_pick hK ls17.po (by decide) (by decide) fun z H18 hz po18 k18 => ?_).clUp
  have w18 := (k18 _ nlw).trans w17
  obtain ⟨x, hxz, hxm⟩ : ∃ x, wrongL[z]? = some x ∧ x ∈ wrongL := ⟨wrongL[z]'(by rw [show wrongL.length = 14 from rfl]; omega), List.getElem?_eq_getElem _, List.getElem_mem _⟩
  refine ⟨lw, _, z, wAV x, rfl, rfl, w18, by omega, by omega, by rw [Int.toNat_natCast, List.getElem?_map, hxz]; rfl, _, rfl, rfl, ?_⟩
  obtain ⟨wl2, wa2⟩ := wrong_lens x hxm
  have bad := plain_bad hxm
  unfold readP at bad
  cases hx2 : lexTok (lst "primitive " ++ x.1) with
  | none => rw [hx2] at bad; cases bad
  | some s2 =>
  rw [hx2] at bad
  refine JF.tryLaw (kd := x.2) hK ?_ (by decide) (by rw [hK]; k_is) (by rw [hK]; k_is) (by rw [hK]; k_is) (by rw [hK]; k_is)
  refine J.Call (J.Nglob (by rw [hK]; k_is) (.ref 670) ⟨_, rfl, kok (by rw [hK]; k_is), ?_⟩)
  refine J.Lcons (J.Call (J.Nglob (by rw [hK]; k_is) (.ref 338) ⟨_, rfl, kok (by rw [hK]; k_is), J.Lcons (J.BinOp (J.CL (J.Nloc (lk_ne lk_eq) ⟨_, .addS _ _ ?_, J.Lnil ?_⟩)))⟩))
  · rw [S_len, S_len, sizeLine_eq]; rw [List.length_append] at wl2; omega
  rw [S_app]
  refine (c_Lexer hK (by omega) wa2 fun lx ld kd H19 L19 x19 => J.Lnil ?_).clUp
  refine (c_Parser hK L19 hx2 fun px pd' pl H20 px20 x20 => ?_).clUp
  exact ⟨⟨px, pd', pl, lx, ld, kd, lst "primitive " ++ x.1⟩, s2, rfl, px20, lk_eq, bad⟩
end Mine

namespace Mine
variable {G : Cfg} {C : Addr} {H H₁ : Hp} {Q : AV → Hp → Prop} {E : Str → Prop} {l p f ln : Addr} {ao : AO}

inductive IvS0_1 (G : Cfg) (L : Addr) (σ' : St) : Prop
  | mk (p : Addr) (f : Addr) (H' : Hp) (h1 : σ' = ⟨[("script", .ref G.script)], H'⟩) (h2 : PoolOK H' p f) (h3 : H' (L + 1) = some (.cell (some (.ref p)))) (h4 : H' (L + 2) = some (.cell none)) (h5 : H' (L + 3) = some (.cell none)) (h6 : H' (L + 4) = some (.cell none))
inductive IvS0_2 (G : Cfg) (p : Addr) (f : Addr) (L : Addr) (σ' : St) : Prop
  | mk (ln : Addr) (H' : Hp) (h1 : σ' = ⟨[("script", .ref G.script)], H'⟩) (h2 : PoolOK H' p f) (h3 : H' (L + 1) = some (.cell (some (.ref p)))) (h4 : H' (L + 2) = some (.cell (some (.ref ln)))) (h5 : H' (L + 3) = some (.cell none)) (h6 : H' (L + 4) = some (.cell none)) (h7 : H' ln = some (.list (strL namesL)))
inductive IvS0_3 (G : Cfg) (p : Addr) (f : Addr) (L : Addr) (ln : Addr) (σ' : St) : Prop
  | mk (st : Nat) (H' : Hp) (h1 : σ' = ⟨[("script", .ref G.script)], H'⟩) (h2 : PoolOK H' p f) (h3 : H' (L + 1) = some (.cell (some (.ref p)))) (h4 : H' (L + 2) = some (.cell (some (.ref ln)))) (h5 : H' (L + 3) = some (.cell (some (.int st)))) (h6 : H' (L + 4) = some (.cell none)) (h7 : H' ln = some (.list (strL namesL))) (h8 : st < 7)
inductive IvS0_4 (G : Cfg) (name : List Nat) (p : Addr) (f : Addr) (H3 : Hp) (σ' : St) : Prop
  | mk (r : Nat) (H' : Hp) (h1 : σ' = ⟨[("script", .ref G.script), ("name", .str (S name)), ("count", .int ((r + 1 : Nat) : Int))], H'⟩) (h2 : r < 4) (h3 : PoolOK H' p f) (h4 : Keep1 p H3 H')
inductive IvS0_5 (G : Cfg) (name : List Nat) (r : Nat) (H4 : Hp) (st : Nat) (σ' : St) : Prop
  | mk (D : Addr) (H' : Hp) (h1 : σ' = ⟨[("script", .ref G.script), ("name", .str (S name)), ("count", .int ((r + 1 : Nat) : Int)), ("ports", .ref D)], H'⟩) (h2 : H4 D = none) (h3 : Ext H4 H') (h4 : H' D = some (.list (strL ((List.range (r + 2)).map (portOf st)))))
inductive IvS0_6 (r : Nat) (st : Nat) (G : Cfg) (name : List Nat) (H4 : Hp) (D : Addr) (Cc : Addr) (it : Addr) (vs : List AV) (acc : List AV) (σ : St) : Prop
  | mk (done : List Nat) (rest : List Nat) (h1 : List.range (r + 2) = done ++ rest) (h2 : vs = rest.map (fun (k : Nat) => AV.int k)) (h3 : acc = strL (done.map (portOf st))) (h4 : σ.loc = [(Str.ofString "script", AV.ref G.script), (Str.ofString "name", AV.str (S name)), (Str.ofString "count", AV.int ((r + 1 : Nat) : Int))]) (h5 : Ext H4 σ.H) (h6 : σ.H D = some (.list acc)) (h7 : (∃ l, σ.H Cc = some (.ns l))) (h8 : σ.H it = some (.it vs))
inductive IvS0_7 (G : Cfg) (name : List Nat) (r : Nat) (D : Addr) (L : Addr) (p : Addr) (f : Addr) (ln : Addr) (st : Nat) (σ' : St) : Prop
  | mk (seq : Bool) (H' : Hp) (h1 : σ' = ⟨[("script", .ref G.script), ("name", .str (S name)), ("count", .int ((r + 1 : Nat) : Int)), ("ports", .ref D)], H'⟩) (h2 : LS H' L p f ln st seq) (h3 : H' D = some (.list (strL ((List.range (r + 2)).map (portOf st)))))
inductive IvS0_8 (G : Cfg) (name : List Nat) (r : Nat) (D : Addr) (L : Addr) (p : Addr) (f : Addr) (ln : Addr) (st : Nat) (seq : Bool) (σ' : St) : Prop
  | mk (first : Option (List Nat)) (H' : Hp) (h1 : σ' = ⟨[("script", .ref G.script), ("name", .str (S name)), ("count", .int ((r + 1 : Nat) : Int)), ("ports", .ref D), ("first", stAV first)], H'⟩) (h2 : LS H' L p f ln st seq) (h3 : H' D = some (.list (strL ((List.range (r + 2)).map (portOf st))))) (h4 : first ∈ firstsL) (h5 : (seq = false → first = none))
inductive IvS0_9 (G : Cfg) (name : List Nat) (r : Nat) (D : Addr) (first : Option (List Nat)) (L : Addr) (p : Addr) (f : Addr) (ln : Addr) (st : Nat) (seq : Bool) (p0 : List Nat) (p1 : List Nat) (rest : List (List Nat)) (σ' : St) : Prop
  | mk (head : List Nat) (H' : Hp) (h1 : σ' = ⟨[("script", .ref G.script), ("name", .str (S name)), ("count", .int ((r + 1 : Nat) : Int)), ("ports", .ref D), ("first", stAV first), ("heading", .str (S head))], H'⟩) (h2 : LS H' L p f ln st seq) (h3 : H' D = some (.list (strL (p0 :: p1 :: rest)))) (h4 : ∃ way, head = headT way name p0 (p1 :: rest) seq first)
inductive IvS0_10 (name : List Nat) (D : Addr) (first : Option (List Nat)) (lr : Addr) (base : List Nat) (L : Addr) (p : Addr) (f : Addr) (ln : Addr) (st : Nat) (seq : Bool) (p0 : List Nat) (p1 : List Nat) (rest : List (List Nat)) (σ' : St) : Prop
  | mk (rows : List (Row × Way)) (H' : Hp) (h1 : σ'.loc.lookup ("name" : Str) = some (AV.str (S name))) (h2 : σ'.loc.lookup ("ports" : Str) = some (AV.ref D)) (h3 : σ'.loc.lookup ("first" : Str) = some (stAV first)) (h4 : σ'.loc.lookup ("rows" : Str) = some (AV.ref lr)) (h5 : σ'.loc.lookup ("text" : Str) = some (AV.str (S (base ++ tabT rows)))) (h6 : σ'.H = H') (h7 : LS H' L p f ln st seq) (h8 : H' D = some (.list (strL (p0 :: p1 :: rest)))) (h9 : H' lr = some (.list (rows.map fun x => rowAV x.1))) (h10 : rows.length ≤ 6) (h11 : (∀ x ∈ rows, RowOK seq x.1 ∧ WayOK x.2))
inductive IvS0_11 (name : List Nat) (D : Addr) (first : Option (List Nat)) (lr : Addr) (base : List Nat) (r : Nat) (L : Addr) (p : Addr) (f : Addr) (ln : Addr) (st : Nat) (seq : Bool) (p0 : List Nat) (p1 : List Nat) (rest : List (List Nat)) (vs : List AV) (σ' : St) : Prop
  | mk (rows : List (Row × Way)) (h1 : σ'.loc.lookup ("name" : Str) = some (AV.str (S name))) (h2 : σ'.loc.lookup ("ports" : Str) = some (AV.ref D)) (h3 : σ'.loc.lookup ("first" : Str) = some (stAV first)) (h4 : σ'.loc.lookup ("rows" : Str) = some (AV.ref lr)) (h5 : σ'.loc.lookup ("text" : Str) = some (AV.str (S (base ++ tabT rows)))) (h6 : σ'.loc.lookup ("count" : Str) = some (AV.int ((r + 1 : Nat) : Int))) (h7 : LS σ'.H L p f ln st seq) (h8 : σ'.H D = some (.list (strL (p0 :: p1 :: rest)))) (h9 : σ'.H lr = some (.list (rows.map fun x => rowAV x.1))) (h10 : rows.length + vs.length ≤ 6) (h11 : (∀ x ∈ rows, RowOK seq x.1 ∧ WayOK x.2))
inductive IvS0_12 (loc1 : List (Str × AV)) (L : Addr) (p : Addr) (f : Addr) (ln : Addr) (st : Nat) (seq : Bool) (Hs : Hp) (σ' : St) : Prop
  | mk (ins : List Sym) (H' : Hp) (h1 : σ' = ⟨setL ("ins" : Str) (.tup (ins.map symAV)) loc1, H'⟩) (h2 : LS H' L p f ln st seq) (h3 : ExtP p Hs H') (h4 : ins.length ≤ 4) (h5 : ∀ s ∈ ins, SymOK s)
inductive IvS0_13 (r : Nat) (loc1 : List (Str × AV)) (L : Addr) (p : Addr) (f : Addr) (ln : Addr) (st : Nat) (seq : Bool) (Hs : Hp) (D2 : Addr) (Cc : Addr) (it2 : Addr) (vs : List AV) (acc : List AV) (σ : St) : Prop
  | mk (done : List Sym) (h1 : acc = done.map symAV) (h2 : (∀ s ∈ done, SymOK s)) (h3 : done.length + vs.length = r + 1) (h4 : σ.loc = loc1) (h5 : LS σ.H L p f ln st seq) (h6 : ExtP p Hs σ.H) (h7 : σ.H D2 = some (.list acc)) (h8 : (∃ l, σ.H Cc = some (.ns l))) (h9 : σ.H it2 = some (.it vs))
inductive IvS0_14 (ins : List Sym) (loc1 : List (Str × AV)) (L : Addr) (p : Addr) (f : Addr) (ln : Addr) (st : Nat) (seq : Bool) (Hs : Hp) (σ' : St) : Prop
  | mk (sta : Option (List Nat)) (H' : Hp) (h1 : σ' = ⟨setL ("state" : Str) (stAV sta) (setL ("ins" : Str) (.tup (ins.map symAV)) loc1), H'⟩) (h2 : LS H' L p f ln st seq) (h3 : ExtP p Hs H') (h4 : StateOK seq sta)
inductive IvS0_15 (sta : Option (List Nat)) (ins : List Sym) (loc1 : List (Str × AV)) (L : Addr) (p : Addr) (f : Addr) (ln : Addr) (st : Nat) (seq : Bool) (Hs : Hp) (σ' : St) : Prop
  | mk (out : List Nat) (H' : Hp) (h1 : σ' = ⟨setL ("out" : Str) (.str (S out)) (setL ("state" : Str) (stAV sta) (setL ("ins" : Str) (.tup (ins.map symAV)) loc1)), H'⟩) (h2 : LS H' L p f ln st seq) (h3 : ExtP p Hs H') (h4 : OutOK out)
set_option maxHeartbeats 4000000 in
theorem law_walk (hK : G.K = KK G.w.params) {oc : Value} {od : Option Addr} {name qual : Str} {params : Arguments} {body : List Stmt} {scope : Scope} {dV kV doc pm cdv ct : Value} {an : Option Addr} {osl : Array (Option Value)}
    (ho : G.K.lookup 717 = some ⟨oc, od, .func (fnOf name qual params body scope dV kV doc pm an cdv ct), osl⟩) {ns : List Int} (hi : IntsAre G.its ns) (hn : ns.length ≤ 63) (L fa : Addr) (cd : Value)
    (h1 : H (L + 1) = some (.cell none)) (h2 : H (L + 2) = some (.cell none)) (h3 : H (L + 3) = some (.cell none)) (h4 : H (L + 4) = some (.cell none)) :
    JF G 40 (envOfC qual scope L fa cd) body ⟨[("script", .ref G.script)], H⟩ := by
  refine law_use ho (by rw [hK]; k_is) (P := fun qual body scope => JF G 40 (envOfC qual scope L fa cd) body ⟨[("script", .ref G.script)], H⟩) ?_
  clear ho
  refine JF.consN (P' := IvS0_1 G L) ?_ ?_
  · refine J.AssignC (J.Call (J.Nglob (by rw [hK]; k_is) (.ref 679) ⟨_, rfl, kok (by rw [hK]; k_is), J.Lcons (J.Nloc rfl (J.Lnil (c_pool hK hi hn fun p f H1 hp hf po1 x1 => ?_).clUp))⟩)) rfl
    have hp : H p = none := hp
    have hf : H f = none := hf
    have n1 : L + 1 ≠ p := fun q => by rw [← q] at hp; rw [h1] at hp; cases hp
    have n2 : L + 1 ≠ f := fun q => by rw [← q] at hf; rw [h1] at hf; cases hf
    exact ⟨⟨_, x1 _ _ h1⟩, rfl, p, f, _, rfl, po1.setx n1 n2, Hp.set_same, (Hp.set_ne (off_ne (by decide))).trans (x1 _ _ h2), (Hp.set_ne (off_ne (by decide))).trans (x1 _ _ h3), (Hp.set_ne (off_ne (by decide))).trans (x1 _ _ h4)⟩
  rintro _ ⟨p, f, H1, rfl, po1, c1, c2, c3, c4⟩
  clear h1 h2 h3 h4
  have f2 : L + 2 ≠ f := fun q => by obtain ⟨figs, i, mix, g1, g2, _⟩ := po1.o; rw [← q, c2] at g2; cases g2
  have f3 : L + 3 ≠ f := fun q => by obtain ⟨figs, i, mix, g1, g2, _⟩ := po1.o; rw [← q, c3] at g2; cases g2
  have f4 : L + 4 ≠ f := fun q => by obtain ⟨figs, i, mix, g1, g2, _⟩ := po1.o; rw [← q, c4] at g2; cases g2
  have p2 := po1.neC c2
  have p3 := po1.neC c3
  have p4 := po1.neC c4
  refine JF.consN (P' := IvS0_2 G p f L) ?_ ?_
  · refine J.AssignC (J.ListD ?_) rfl
    iterate 7 refine J.Lcons (J.CL ?_)
    refine J.Lnil ⟨by simp, fun ln hln => ⟨⟨none, ?_⟩, ?_⟩⟩
    · have hln : H1 ln = none := hln
      exact (Hp.set_ne (fun q => by rw [← q, c2] at hln; cases hln)).trans c2
    · have hln : H1 ln = none := hln
      have m1 : L + 1 ≠ ln := fun q => by rw [← q, c1] at hln; cases hln
      have m2 : L + 2 ≠ ln := fun q => by rw [← q, c2] at hln; cases hln
      have m3 : L + 3 ≠ ln := fun q => by rw [← q, c3] at hln; cases hln
      have m4 : L + 4 ≠ ln := fun q => by rw [← q, c4] at hln; cases hln
      exact ⟨rfl, ln, _, rfl, (po1.set hln).setx p2 f2, (Hp.set_ne (off_ne (L := L) (a := 1) (b := 2) (by decide))).trans ((Hp.set_ne m1).trans c1), Hp.set_same, (Hp.set_ne (off_ne (L := L) (a := 3) (b := 2) (by decide))).trans ((Hp.set_ne m3).trans c3), (Hp.set_ne (off_ne (L := L) (a := 4) (b := 2) (by decide))).trans ((Hp.set_ne m4).trans c4), (Hp.set_ne m2.symm).trans Hp.set_same⟩
  rintro _ ⟨ln, H2, rfl, po2, d1, d2, d3, d4, nl2⟩
  clear c1 c2 c3 c4 po1
  have nln : ln ≠ p := po2.neS nl2
  refine JF.consN (P' := IvS0_3 G p f L ln) ?_ ?_
  · refine J.AssignC (J.Call (J.Nglob (by rw [hK]; k_is) (.ref 686) ⟨_, rfl, kok (by rw [hK]; k_is), J.Lcons (J.Ncell rfl d1 (J.Lcons (J.Cint (J.Lnil (c_pick hK po2 (by decide) (by decide) fun st H3 hst po3 k3 => ?_).clUp))))⟩)) rfl
    have e1 := (k3 _ (po2.neC d1)).trans d1
    have e2 := (k3 _ p2).trans d2
    have e3 := (k3 _ p3).trans d3
    have e4 := (k3 _ p4).trans d4
    have m3 : L + 3 ≠ ln := fun q => by rw [← q, d3] at nl2; cases nl2
    exact ⟨⟨_, e3⟩, rfl, st, _, rfl, po3.setx p3 f3, (Hp.set_ne (off_ne (L := L) (a := 1) (b := 3) (by decide))).trans e1, (Hp.set_ne (off_ne (L := L) (a := 2) (b := 3) (by decide))).trans e2, Hp.set_same, (Hp.set_ne (off_ne (L := L) (a := 4) (b := 3) (by decide))).trans e4, (Hp.set_ne m3.symm).trans ((k3 _ nln).trans nl2), by omega⟩
  rintro _ ⟨st, H3, rfl, po3, e1, e2, e3, e4, nl3, hst⟩
  clear d1 d2 d3 d4 po2 nl2
  obtain ⟨name, hname⟩ : ∃ name, namesL[st]? = some name := ⟨namesL[st]'(by simpa [namesL] using hst), List.getElem?_eq_getElem _⟩
  refine JF.cons (J.AssignN (J.ItemL (J.Ncell rfl e2 (J.Ncell rfl e3 ⟨ln, _, st, .str (S name), rfl, rfl, nl3, by omega, by omega, by rw [Int.toNat_natCast, List.getElem?_map, hname]; rfl, ?_⟩))))
  refine JF.consN (P' := IvS0_4 G name p f H3) ?_ ?_
  · refine J.AssignN (J.BinOp (J.Cint (J.Call (J.Nglob (by rw [hK]; k_is) (.ref 686) ⟨_, rfl, kok (by rw [hK]; k_is), J.Lcons (J.Ncell rfl e1 (J.Lcons (J.Cint (J.Lnil (c_pick hK po3 (by decide) (by decide) fun r H4 hr po4 k4 => ⟨_, .addI _ _, ?_⟩).clUp))))⟩))))
    refine ⟨rfl, r, H4, ?_, by omega, po4, k4⟩
    rw [show ((1 : Int) + (r : Int)) = ((r + 1 : Nat) : Int) by omega]; rfl
  rintro _ ⟨r, H4, rfl, hr, po4, k4⟩
  have g1 := (k4 _ (po3.neC e1)).trans e1
  have g2 := (k4 _ (po3.neC e2)).trans e2
  have g3 := (k4 _ (po3.neC e3)).trans e3
  have g4 := (k4 _ (po3.neC e4)).trans e4
  have nl4 := (k4 _ nln).trans nl3
  clear e1 e2 e3 e4 nl3 po3 k4
  refine JF.consN (P' := IvS0_5 G name r H4 st) ?_ ?_
  · refine J.AssignComp (J.Call (J.Nbi (by rw [hK]; k_is) rfl (by decide) (.ty _) ⟨_, rfl, rfl, J.Lcons (J.BinOp (J.Nloc rfl (J.Cint ⟨_, .addI _ _, J.Lnil (Cl.range ?_)⟩)))⟩)) rfl rfl rfl (by decide) rfl (by decide) rfl rfl
    rw [show (((r + 1 : Nat) : Int) + 1) = ((r + 2 : Nat) : Int) by omega]
    refine ⟨_, _, .rng (r + 2) (by omega), fun it D Cc hit hD hCc n1 n2 n3 => ?_⟩
    have hit : H4 it = none := hit
    have hD : H4 D = none := hD
    have hCc : H4 Cc = none := hCc
    refine CompJ.ind (IvS0_6 r st G name H4 D Cc it) (fun acc σ hP => ?_) (fun v vs acc σ hP => ?_) _ _ _
      ⟨[], List.range (r + 2), rfl, rfl, rfl, rfl, ((Ext.refl.set hit).set hD).set hCc, (Hp.set_ne n3).trans Hp.set_same, ⟨[], Hp.set_same⟩, (Hp.set_ne n2).trans ((Hp.set_ne n1).trans Hp.set_same)⟩
    · obtain ⟨done, rest, q1, q2, q3, q4, q6, q7, ⟨l, q8⟩, q10⟩ := hP
      have : rest = [] := by cases rest with | nil => rfl | cons _ _ => cases q2
      subst this
      rw [List.append_nil] at q1
      exact ⟨rfl, D, _, by rw [q4]; rfl, hD, (q6.drop hit).drop hCc, by rw [Hp.drop_ne n3, Hp.drop_ne n1.symm, q7, q3, q1]⟩
    · obtain ⟨done, rest, q1, q2, q3, q4, q6, q7, ⟨l, q8⟩, q10⟩ := hP
      cases rest with
      | nil => cases q2
      | cons k rest =>
        obtain ⟨rfl, rfl⟩ := List.cons.inj q2
        have la : done.length ≤ 10 := by have := congrArg List.length q1; rw [List.length_range, List.length_append] at this; omega
        have e5 : Ext H4 ((σ.H.set it (.it (rest.map (fun (k : Nat) => AV.int k)))).set Cc (.ns [("step", .int (k : Nat))])) := (q6.set hit).set hCc
        have d5 : ((σ.H.set it (.it (rest.map (fun (k : Nat) => AV.int k)))).set Cc (.ns [("step", .int (k : Nat))])) D = some (.list acc) := (Hp.set_ne n3).trans ((Hp.set_ne n1.symm).trans q7)
        have i5 : ((σ.H.set it (.it (rest.map (fun (k : Nat) => AV.int k)))).set Cc (.ns [("step", .int (k : Nat))])) it = some (.it (rest.map (fun (k : Nat) => AV.int k))) := (Hp.set_ne n2).trans Hp.set_same
        have c5 : ((σ.H.set it (.it (rest.map (fun (k : Nat) => AV.int k)))).set Cc (.ns [("step", .int (k : Nat))])) Cc = some (.ns [("step", .int (k : Nat))]) := Hp.set_same
        generalize ((σ.H.set it (.it (rest.map (fun (k : Nat) => AV.int k)))).set Cc (.ns [("step", .int (k : Nat))])) = H5 at e5 d5 i5 c5 ⊢
        refine J.ItemL (J.Ncell rfl (e5 _ _ g2) (J.BinOp (J.BinOp (J.BinOp (J.Ncell rfl (e5 _ _ g3) (J.Cint ⟨_, .addI _ _, J.Nns c5 rfl ⟨_, .addI _ _, J.Cint ⟨_, .modI _ _ (by decide), ?_⟩⟩⟩))))))
        rw [show ((st : Int) + 1 + (k : Int)) = ((st + 1 + k : Nat) : Int) by omega, fmod7]
        refine ⟨ln, _, _, .str (S (portOf st k)), rfl, rfl, e5 _ _ nl4, by omega, by omega, by rw [Int.toNat_natCast]; exact port_get st k, ?_⟩
        exact ⟨i5, d5, ⟨_, c5⟩, by rw [q3, List.length_map, List.length_map]; omega, done ++ [k], rest, by rw [q1, List.append_assoc]; rfl, rfl, by rw [q3]; simp [strL], q4, e5.set hD, Hp.set_same, ⟨_, (Hp.set_ne n3.symm).trans c5⟩, (Hp.set_ne n1).trans i5⟩
  rintro _ ⟨D, H5, rfl, hD, x5, pd5⟩
  have po5 := po4.ext x5
  have g1' := x5 _ _ g1
  have g2' := x5 _ _ g2
  have g3' := x5 _ _ g3
  have g4' := x5 _ _ g4
  have nl5 := x5 _ _ nl4
  have hp0 : ∃ p0 p1 rest, (List.range (r + 2)).map (portOf st) = p0 :: p1 :: rest := ⟨_, _, _, by rw [List.range_succ_eq_map, List.range_succ_eq_map]; rfl⟩
  clear g1 g2 g3 g4 nl4 po4
  have nDp : D ≠ p := fun q => by obtain ⟨p0, p1, rest, e⟩ := hp0; rw [e] at pd5; exact po5.neS pd5 q
  have D4 : L + 4 ≠ D := fun q => by rw [← q, g4'] at pd5; cases pd5
  have D4n : L + 4 ≠ ln := fun q => by rw [← q, g4'] at nl5; cases nl5
  refine JF.consN (P' := IvS0_7 G name r D L p f ln st) ?_ ?_
  · refine J.AssignC (J.CmpE (J.Call (J.Nglob (by rw [hK]; k_is) (.ref 686) ⟨_, rfl, kok (by rw [hK]; k_is), J.Lcons (J.Ncell rfl g1' (J.Lcons (J.Cint (J.Lnil (c_pick hK po5 (by decide) (by decide) fun s6 H6 hs6 po6 k6 => J.Cint ⟨_, .eqI _ _, ?_⟩).clUp))))⟩))) rfl
    exact ⟨⟨_, (k6 _ (po5.neC g4')).trans g4'⟩, rfl, _, _, rfl, ⟨(Hp.set_ne (off_ne (L := L) (a := 1) (b := 4) (by decide))).trans ((k6 _ (po5.neC g1')).trans g1'), (Hp.set_ne (off_ne (L := L) (a := 2) (b := 4) (by decide))).trans ((k6 _ (po5.neC g2')).trans g2'),
      (Hp.set_ne (off_ne (L := L) (a := 3) (b := 4) (by decide))).trans ((k6 _ (po5.neC g3')).trans g3'), Hp.set_same, (Hp.set_ne D4n.symm).trans ((k6 _ nln).trans nl5), po6.setx (po5.neC g4') f4⟩, (Hp.set_ne D4.symm).trans ((k6 _ nDp).trans pd5)⟩
  rintro _ ⟨seq, H6, rfl, ls6, pd6⟩
  clear g1' g2' g3' g4' nl5 po5 x5 pd5 hD
  refine JF.consN (P' := IvS0_8 G name r D L p f ln st seq) ?_ ?_
  · refine J.AssignN (J.IfE (J.Tval (J.Ncell rfl ls6.c4 ⟨_, rfl, ?_⟩)))
    cases seq with
    | false =>
      rw [if_neg (by decide)]
      exact J.Cnone ⟨rfl, none, H6, rfl, ls6, pd6, by simp [firstsL], fun _ => rfl⟩
    | true =>
      rw [if_pos rfl]
      refine J.ItemL (J.ListD ?_)
      refine J.Lcons (J.Cnone ?_)
      iterate 5 refine J.Lcons (J.CL ?_)
      refine J.Lnil ⟨by simp, fun b hb => ?_⟩
      have hb : H6 b = none := hb
      refine J.Call (J.Nglob (by rw [hK]; k_is) (.ref 686) ⟨_, rfl, kok (by rw [hK]; k_is), J.Lcons (J.Ncell rfl ((Hp.set_ne (fun q => by rw [← q, ls6.c1] at hb; cases hb)).trans ls6.c1) (J.Lcons (J.Cint (J.Lnil ?_))))⟩)
      refine (c_pick hK (ls6.po.set hb) (by decide) (by decide) fun s7 H7 hs7 po7 k7 => ?_).clUp
      have nb : b ≠ p := ls6.po.off hb
      have xx : ExtP p H6 H7 := (ExtP.refl.set hb).trans k7.extP
      obtain ⟨fst, hf⟩ : ∃ fst, firstsL[s7]? = some fst := ⟨firstsL[s7]'(by show s7 < 6; omega), List.getElem?_eq_getElem _⟩
      refine ⟨b, firstsL.map stAV, s7, stAV fst, rfl, rfl, (k7 b nb).trans Hp.set_same, by omega, by omega, by rw [Int.toNat_natCast, List.getElem?_map, hf]; rfl, rfl, fst, H7, rfl, ls6.step xx po7, xx _ _ nDp pd6, List.mem_of_getElem? hf, fun q => by cases q⟩
  rintro _ ⟨first, H7, rfl, ls7, pd7, hfm, hfs⟩
  clear ls6 pd6
  have hname' : name ∈ namesL := List.mem_of_getElem? hname
  obtain ⟨p0, p1, rest, hports⟩ := hp0
  have hmem : ∀ x ∈ p0 :: p1 :: rest, x ∈ namesL := fun x hx => by
    rw [← hports] at hx; obtain ⟨k, _, rfl⟩ := List.mem_map.mp hx; exact port_mem st k
  have hlen : (p0 :: p1 :: rest).length = r + 2 := by rw [← hports, List.length_map, List.length_range]
  have hlen5 : (p0 :: p1 :: rest).length ≤ 5 := by omega
  rw [hports] at pd7
  refine JF.consN (P' := IvS0_9 G name r D first L p f ln st seq p0 p1 rest) ?_ ?_
  · refine J.AssignN (J.Call (J.Nglob (by rw [hK]; k_is) (.ref 705) ⟨_, rfl, kok (by rw [hK]; k_is), ?_⟩))
    refine J.Lcons (J.Ncell rfl ls7.c1 ?_)
    refine J.Lcons (J.Nloc rfl ?_)
    refine J.Lcons (J.Nloc rfl ?_)
    refine J.Lcons (J.Ncell rfl ls7.c4 ?_)
    refine J.Lcons (J.Nloc rfl ?_)
    refine J.Lnil ?_
    refine (c_heading hK ls7.po pd7 (by have := names_len _ hname'; omega) (fun x hx => by have := names_len _ (hmem x hx); omega) (by omega) (by have := (firsts_asc _ hfm).2; omega) fun way H8 hw po8 x8 => ?_).clUp
    exact ⟨rfl, _, H8, rfl, ls7.step x8 po8, x8 _ _ nDp pd7, way, rfl⟩
  rintro _ ⟨head, H8, rfl, ls8, pd8, way, hhead⟩
  clear ls7 pd7
  obtain ⟨headA, headL⟩ : Asc head ∧ head.length ≤ 1000 := by rw [hhead]; exact head_ok hname' hmem (by omega) hfm
  refine JF.cons (J.AssignN (J.ListD (J.Lnil ⟨by simp, fun lr hlr => ?_⟩)))
  have hlr : H8 lr = none := hlr
  have ls9 := ls8.ext (Ext.refl.set (ao := .list []) hlr)
  have olr := ls8.off hlr
  have nlr : lr ≠ p := ls8.po.off hlr
  have nlf : lr ≠ f := ls8.po.offF hlr
  have pd9 : (H8.set lr (.list [])) D = some (.list (strL (p0 :: p1 :: rest))) := (Hp.set_ne (fun q => by rw [← q, pd8] at hlr; cases hlr)).trans pd8
  have nlD : lr ≠ D := fun q => by rw [q, pd8] at hlr; cases hlr
  have rl9 : (H8.set lr (.list [])) lr = some (.list []) := Hp.set_same
  show JF G 40 _ _ ⟨_, H8.set lr (.list [])⟩
  generalize H8.set lr (.list []) = H9 at ls9 pd9 rl9 ⊢
  clear hlr ls8 pd8
  have bp : (lst "primitive ").length ≤ 30 := by decide +kernel
  have bt : (lst "table\n").length ≤ 30 := by decide +kernel
  refine JF.cons (J.AssignN (J.BinOp (J.BinOp (J.CL (J.Nloc rfl (binA (by repeat' (first | with_reducible assumption | with_reducible apply lenA)) (by repeat' (first | with_reducible assumption | with_reducible apply lenA)) (by decide) ?_))))))
  refine J.CL (binA (by repeat' (first | with_reducible assumption | with_reducible apply lenA)) (by repeat' (first | with_reducible assumption | with_reducible apply lenA)) (by decide) ?_)
  generalize hbase : lst "primitive " ++ head ++ lst "table\n" = base
  have baseL : base.length ≤ 1100 := by rw [← hbase, List.length_append, List.length_append]; omega
  refine JF.consN (P' := IvS0_10 name D first lr base L p f ln st seq p0 p1 rest) ?_ ?_
  · refine J.For (J.Call (J.Nbi (by rw [hK]; k_is) rfl (by decide) (.ty _) ⟨_, rfl, rfl, ?_⟩))
    refine J.Lcons (J.Call (J.Nglob (by rw [hK]; k_is) (.ref 686) ⟨_, rfl, kok (by rw [hK]; k_is), J.Lcons (J.Ncell rfl ls9.c1 (J.Lcons (J.Cint (J.Lnil (c_pick hK ls9.po (by decide) (by decide) fun n H10 hn10 po10 k10 => ?_).clUp))))⟩))
    refine J.Lnil (Cl.range ⟨_, _, .rng n (by omega), fun it hit => ?_⟩)
    have hit : H10 it = none := hit
    have ls10 := ls9.step k10.extP po10
    have oit := ls10.off hit
    have pd10 := (k10 _ nDp).trans pd9
    have rl10 := (k10 _ nlr).trans rl9
    have nitD : it ≠ D := fun q => by rw [q, pd10] at hit; cases hit
    have nitl : it ≠ lr := fun q => by rw [q, rl10] at hit; cases hit
    refine ForJ.ind (IvS0_11 name D first lr base r L p f ln st seq p0 p1 rest)
      (fun σ' hP => ?_) (fun v vs σ' hP => ?_) _ _ ⟨[], rfl, rfl, rfl, rfl, by rw [show base ++ tabT [] = base from List.append_nil _]; rfl, rfl, ls10.setx oit, (Hp.set_ne nitD.symm).trans pd10, (Hp.set_ne nitl.symm).trans rl10, by rw [List.length_map, List.length_range]; show 0 + n ≤ 6; omega, fun x hx => by cases hx⟩
    · obtain ⟨rows, v1, v2, v3, v4, v5, v6, w1, w2, w3, w4, w5⟩ := hP
      exact ⟨rfl, rows, _, v1, v2, v3, v4, v5, rfl, w1.dropx oit, (Hp.drop_ne nitD.symm).trans w2, (Hp.drop_ne nitl.symm).trans w3, by simpa using w4, w5⟩
    · obtain ⟨rows, v1, v2, v3, v4, v5, v6, w1, w2, w3, w4, w5⟩ := hP
      obtain ⟨loc, Hv⟩ := σ'
      dsimp only at v1 v2 v3 v4 v5 v6 w1 w2 w3 ⊢
      have s1 : LS (Hv.set it (.it vs)) L p f ln st seq := w1.setx oit
      have s2 : (Hv.set it (.it vs)) D = some (.list (strL (p0 :: p1 :: rest))) := (Hp.set_ne nitD.symm).trans w2
      have s3 : (Hv.set it (.it vs)) lr = some (.list (rows.map fun x => rowAV x.1)) := (Hp.set_ne nitl.symm).trans w3
      have s4 : (Hv.set it (.it vs)) it = some (.it vs) := Hp.set_same
      generalize Hv.set it (.it vs) = Hs at s1 s2 s3 s4 ⊢
      clear w1 w2 w3
      have u1 : (setL ("step" : Str) v loc).lookup ("name" : Str) = some (AV.str (S name)) := lk_ne v1
      have u2 : (setL ("step" : Str) v loc).lookup ("ports" : Str) = some (AV.ref D) := lk_ne v2
      have u3 : (setL ("step" : Str) v loc).lookup ("first" : Str) = some (stAV first) := lk_ne v3
      have u4 : (setL ("step" : Str) v loc).lookup ("rows" : Str) = some (AV.ref lr) := lk_ne v4
      have u5 : (setL ("step" : Str) v loc).lookup ("text" : Str) = some (AV.str (S (base ++ tabT rows))) := lk_ne v5
      have u6 : (setL ("step" : Str) v loc).lookup ("count" : Str) = some (AV.int ((r + 1 : Nat) : Int)) := lk_ne v6
      generalize setL ("step" : Str) v loc = loc1 at u1 u2 u3 u4 u5 u6 ⊢
      clear v1 v2 v3 v4 v5 v6
      refine J.consN (P' := IvS0_12 loc1 L p f ln st seq Hs) ?_ ?_
      · refine J.AssignN (J.Call (J.Nbi (by rw [hK]; k_is) rfl (by decide) (.ty _) ⟨_, rfl, rfl, ?_⟩))
        refine J.Lcons (J.Comp (J.Call (J.Nbi (by rw [hK]; k_is) rfl (by decide) (.ty _) ⟨_, rfl, rfl, J.Lcons (J.Nloc u6 (J.Lnil (Cl.range ⟨_, _, .rng (r + 1) (by omega), fun it2 D2 Cc hit2 hD2 hCc n1 n2 n3 => ?_⟩)))⟩)) rfl (by decide) rfl (by decide) rfl rfl)
        have hit2 : Hs it2 = none := hit2
        have hD2 : Hs D2 = none := hD2
        have hCc : Hs Cc = none := hCc
        have o1 := s1.off hit2
        have o2 := s1.off hD2
        have o3 := s1.off hCc
        refine CompJ.ind (IvS0_13 r loc1 L p f ln st seq Hs D2 Cc it2) (fun acc σ hP => ?_) (fun v vs acc σ hP => ?_) _ _ _
          ⟨[], rfl, fun s hs => (by cases hs), by rw [List.length_map, List.length_range]; simp, rfl, ((s1.setx o1).setx o2).setx o3, ((ExtP.refl.set hit2).set hD2).set hCc, (Hp.set_ne n3).trans Hp.set_same, ⟨[], Hp.set_same⟩, (Hp.set_ne n2).trans ((Hp.set_ne n1).trans Hp.set_same)⟩
        · obtain ⟨done, q1, q2, q3, q4, q5, q6, q7, ⟨l, q8⟩, q9⟩ := hP
          have d2' : ((σ.H.drop it2).drop Cc) D2 = some (.list (done.map symAV)) := by rw [Hp.drop_ne n3, Hp.drop_ne n1.symm, q7, q1]
          refine J.Lnil (Cl.tupleL d2' (by rw [List.length_map]; simp at q3; omega) ?_)
          exact ⟨rfl, done, _, by rw [q4], (q5.dropx o1).dropx o3, (q6.drop hit2).drop hCc, by simp at q3; omega, q2⟩
        · obtain ⟨done, q1, q2, q3, q4, q5, q6, q7, ⟨l, q8⟩, q9⟩ := hP
          have t1 : LS ((σ.H.set it2 (.it vs)).set Cc (.ns [("turn", v)])) L p f ln st seq := (q5.setx o1).setx o3
          have t2 : ExtP p Hs ((σ.H.set it2 (.it vs)).set Cc (.ns [("turn", v)])) := (q6.set hit2).set hCc
          have t3 : ((σ.H.set it2 (.it vs)).set Cc (.ns [("turn", v)])) D2 = some (.list acc) := (Hp.set_ne n3).trans ((Hp.set_ne n1.symm).trans q7)
          have t4 : ((σ.H.set it2 (.it vs)).set Cc (.ns [("turn", v)])) it2 = some (.it vs) := (Hp.set_ne n2).trans Hp.set_same
          have t5 : ((σ.H.set it2 (.it vs)).set Cc (.ns [("turn", v)])) Cc = some (.ns [("turn", v)]) := Hp.set_same
          generalize ((σ.H.set it2 (.it vs)).set Cc (.ns [("turn", v)])) = Ht at t1 t2 t3 t4 t5 ⊢
          refine J.Call (J.Nglob (by rw [hK]; k_is) (.ref 693) ⟨_, rfl, kok (by rw [hK]; k_is), J.Lcons (J.Ncell rfl t1.c1 (J.Lcons (J.Ncell rfl t1.c4 (J.Lnil ?_))))⟩)
          refine (c_symbol hK t1.po fun sy H' hsy po' k' => ?_).clUp
          have xx : ExtP p Ht H' := k'.extP
          simp only [List.length_cons] at q3
          refine ⟨xx _ _ o1.np t4, xx _ _ o2.np t3, ⟨_, xx _ _ o3.np t5⟩, by rw [q1, List.length_map]; omega, done ++ [sy], by rw [q1]; simp, fun s hs => ?_, by rw [List.length_append, List.length_singleton]; omega, q4, (t1.step xx po').setx o2, (t2.trans xx).set hD2, Hp.set_same, ⟨_, (Hp.set_ne n3.symm).trans (xx _ _ o3.np t5)⟩, (Hp.set_ne n1).trans (xx _ _ o1.np t4)⟩
          rcases List.mem_append.mp hs with hs | hs
          · exact q2 s hs
          · rw [List.mem_singleton.mp hs]; exact hsy
      rintro _ ⟨ins, Ha, rfl, la, xa, li, hins⟩
      refine J.consN (P' := IvS0_14 ins loc1 L p f ln st seq Hs) ?_ ?_
      · refine J.AssignN (J.IfE (J.Tval (J.Ncell rfl la.c4 ⟨_, rfl, ?_⟩)))
        cases seq with
        | false =>
          rw [if_neg (by decide)]
          exact J.Cnone ⟨rfl, none, Ha, rfl, la, xa, .inl ⟨rfl, rfl⟩⟩
        | true =>
          rw [if_pos rfl]
          refine J.ItemC (J.CL (J.Call (J.Nglob (by rw [hK]; k_is) (.ref 686) ⟨_, rfl, kok (by rw [hK]; k_is), J.Lcons (J.Ncell rfl la.c1 (J.Lcons (J.Cint (J.Lnil (c_pick hK la.po (by decide) (by decide) fun k Hb hk pob kb => ?_).clUp))))⟩)))
          obtain ⟨c, hc, hmc⟩ := get_of (t := lst "01x?b") (n := k) (by rw [l_lw]; show k < 5; omega)
          rw [l_lw] at hmc
          exact ⟨_, k, c, rfl, rfl, by omega, hc, rfl, some [c], Hb, rfl, la.step kb.extP pob, xa.trans kb.extP, .inr ⟨rfl, c, lw_lvl c hmc, rfl⟩⟩
      rintro _ ⟨sta, Hb, rfl, lb, xb, hsta⟩
      refine J.consN (P' := IvS0_15 sta ins loc1 L p f ln st seq Hs) ?_ ?_
      · refine J.AssignN (J.ItemC (J.CL (J.Call (J.Nglob (by rw [hK]; k_is) (.ref 686) ⟨_, rfl, kok (by rw [hK]; k_is), J.Lcons (J.Ncell rfl lb.c1 (J.Lcons (J.Cint (J.Lnil (c_pick hK lb.po (by decide) (by decide) fun k Hc hk poc kc => ?_).clUp))))⟩))))
        obtain ⟨c, hc, hmc⟩ := get_of (t := lst "01x-") (n := k) (by rw [l_out]; show k < 4; omega)
        rw [l_out] at hmc
        exact ⟨_, k, c, rfl, rfl, by omega, hc, rfl, [c], Hc, rfl, lb.step kc.extP poc, xb.trans kc.extP, c, hmc, rfl⟩
      rintro _ ⟨out, Hc, rfl, lc, xc, hout⟩
      have row : RowOK seq ⟨ins, sta, out⟩ := ⟨li, hins, hsta, hout⟩
      have r3 := xc _ _ nlr s3
      refine J.cons (J.ExprS (J.MethL PySem.F.slot_list_append PySem.F.type_list_append (J.Nloc (lk_ne (lk_ne (lk_ne u4))) ⟨lr, _, rfl, r3, ?_⟩)))
      refine J.Lcons (J.TupleD (J.Lcons (J.Nloc (lk_ne (lk_ne lk_eq)) (J.Lcons (J.Nloc (lk_ne lk_eq) (J.Lcons (J.Nloc lk_eq (J.Lnil ⟨by simp, J.Lnil (Cl.append r3 (by rw [sizeLine_eq, List.length_map]; omega) ?_)⟩))))))))
      have ld : LS (Hc.set lr (.list ((rows.map fun x => rowAV x.1) ++ [.tup [.tup (ins.map symAV), stAV sta, .str (S out)]]))) L p f ln st seq := lc.setx olr
      have dd : (Hc.set lr (.list ((rows.map fun x => rowAV x.1) ++ [.tup [.tup (ins.map symAV), stAV sta, .str (S out)]]))) D = some (.list (strL (p0 :: p1 :: rest))) := (Hp.set_ne nlD.symm).trans (xc _ _ nDp s2)
      have ii : (Hc.set lr (.list ((rows.map fun x => rowAV x.1) ++ [.tup [.tup (ins.map symAV), stAV sta, .str (S out)]]))) it = some (.it vs) := (Hp.set_ne nitl).trans (xc _ _ oit.np s4)
      have rr : (Hc.set lr (.list ((rows.map fun x => rowAV x.1) ++ [.tup [.tup (ins.map symAV), stAV sta, .str (S out)]]))) lr = some (.list ((rows.map fun x => rowAV x.1) ++ [.tup [.tup (ins.map symAV), stAV sta, .str (S out)]])) := Hp.set_same
      dsimp only
      generalize Hc.set lr (.list ((rows.map fun x => rowAV x.1) ++ [.tup [.tup (ins.map symAV), stAV sta, .str (S out)]])) = Hd at ld dd ii rr ⊢
      refine J.cons (J.AugN (lk_ne (lk_ne (lk_ne u5))) ?_)
      iterate 5 refine J.BinOp ?_
      have b1 : (lst "  ").length ≤ 30 := by decide +kernel
      have b2 : (lst " : ").length ≤ 30 := by decide +kernel
      have b3 : (lst " ;\n").length ≤ 30 := by decide +kernel
      refine J.CL (J.Call (J.Nglob (by rw [hK]; k_is) (.ref 698) ⟨_, rfl, kok (by rw [hK]; k_is), J.Lcons (J.Ncell rfl ld.c1 (J.Lcons (J.Nloc (lk_ne (lk_ne lk_eq)) (J.Lnil ?_))))⟩))
      refine (c_spelled hK ld.po hins (by omega) fun w He hw poe xe => ?_).clUp
      have le := ld.step xe poe
      obtain ⟨spA, spL⟩ := spell_ok hw hins li
      have oL : out.length ≤ 1 := by obtain ⟨c, _, e⟩ := hout; rw [e]; exact Nat.le_refl _
      obtain ⟨_, tabL⟩ := tab_ok w5
      refine (binA (by repeat' (first | with_reducible assumption | with_reducible apply lenA)) (by repeat' (first | with_reducible assumption | with_reducible apply lenA)) (by decide) ?_)
      refine J.CL (binA (by repeat' (first | with_reducible assumption | with_reducible apply lenA)) (by repeat' (first | with_reducible assumption | with_reducible apply lenA)) (by decide) ?_)
      have hX : (match sta with | none => ([] : List Nat) | some s => s ++ lst " : ").length ≤ 31 := by
        rcases hsta with ⟨_, e⟩ | ⟨_, c, _, e⟩ <;> rw [e]
        · exact Nat.zero_le _
        · show ([c] ++ lst " : ").length ≤ 31; rw [List.length_append, List.length_singleton]; omega
      refine J.monoQ (Q := fun u σ' => u = AV.str (S (match sta with | none => [] | some s => s ++ lst " : ")) ∧ σ' = ⟨setL ("out" : Str) (.str (S out)) (setL ("state" : Str) (stAV sta) (setL ("ins" : Str) (.tup (ins.map symAV)) loc1)), He⟩) ?_ ?_
      · refine J.IfE (J.Tval (J.Ncell rfl le.c4 ⟨_, rfl, ?_⟩))
        rcases hsta with ⟨e1, e2⟩ | ⟨e1, c, hc, e2⟩
        · rw [e1, if_neg (by decide), e2]
          refine J.CL ⟨?_, rfl⟩
          rw [l_nil]
        · rw [e1, if_pos rfl, e2]
          refine J.BinOp (J.Nloc (lk_ne lk_eq) (J.CL ⟨_, .addS _ _ (fits3 (by simp) (by omega)), ?_, rfl⟩))
          rw [S_app]
      · rintro u _ ⟨rfl, rfl⟩
        refine (binA (by repeat' (first | with_reducible assumption | with_reducible apply lenA)) (by repeat' (first | with_reducible assumption | with_reducible apply lenA)) (by decide) ?_)
        refine J.Nloc lk_eq (binA (by repeat' (first | with_reducible assumption | with_reducible apply lenA)) (by repeat' (first | with_reducible assumption | with_reducible apply lenA)) (by decide) ?_)
        refine J.CL (binA (by repeat' (first | with_reducible assumption | with_reducible apply lenA)) (by repeat' (first | with_reducible assumption | with_reducible apply lenA)) (by decide) ?_)
        simp only [List.length_cons] at w4
        refine ⟨_, .addS _ _ (fits3 (by simp only [List.length_append]; omega) (by simp only [List.length_append]; omega)), ?_⟩
        rw [S_app]
        refine J.nil ⟨xe _ _ oit.np ii, rows ++ [((⟨ins, sta, out⟩ : Row), w)], lk_ne (lk_ne (lk_ne (lk_ne u1))), lk_ne (lk_ne (lk_ne (lk_ne u2))), lk_ne (lk_ne (lk_ne (lk_ne u3))), lk_ne (lk_ne (lk_ne (lk_ne u4))), ?_, lk_ne (lk_ne (lk_ne (lk_ne u6))), le, xe _ _ nDp dd, ?_, ?_, ?_⟩
        · rw [lk_eq, tab_app]
          congr 3
          rw [List.append_assoc]; rfl
        · refine (xe _ _ nlr rr).trans ?_; rw [List.map_append]; rfl
        · rw [List.length_append, List.length_singleton]; omega
        · intro x hx
          rcases List.mem_append.mp hx with hx | hx
          · exact w5 x hx
          · rw [List.mem_singleton.mp hx]; exact ⟨row, hw⟩
  rintro ⟨loc, H10⟩ ⟨rows, H11, v1, v2, v3, v4, v5, rfl, ls10, pd10, rl10, hrl, hrows⟩
  have t := law_tail hK (by rw [hK]; k_is) L fa cd v1 v2 v3 v4 v5 ls10 pd10 rl10 hrl hrows hname' hmem hlen5 hfm hfs (by rw [← hhead]; exact hbase) baseL nDp nlr
  exact t
end Mine

namespace Mine
theorem good_true {c : ClaimW} {cl : Str → Option Addr} {mean : ExcName → Option Value} {args : List WData} {s₁ s' : Shared} (hr : ∀ cls, c.raises args cls = false) (hp : c.post args (.bool true) args = true)
    (hk : ∀ b o, s₁.heap.get? b = some o → s'.heap.get? b = some o) (ho : s'.os = s₁.os) (hg : s'.gens = #[]) : GoodW c cl mean args s₁ (.ok (.ret (.bool true))) s' :=
  ⟨.inl ⟨_, .bool true, [], rfl, hr, .bool true, hp, fun _ => ⟨List.nodup_nil, fun a h => by cases h⟩⟩, hk, ho, hg⟩
theorem law_join {prog : Program} {w : World} {p : Program} {loose : List Str} {mean : ExcName → Option Value} {mg mb : Str → Option Value} {script : Addr} {its : List Value} {ns : List Int} {B h₁ : Heap} {m : Str → Option Value} {w1 w2 w3 w4 : Obj} {L : Addr}
    {s : Shared} (hs : s.heap = h₁) (KX : (KK w.params).In B) (T : Top p loose mean mg mb B) (hL : B.IsList script its.toArray) (hI : IntsAre its ns) (hn : ns.length ≤ 63) (K0 : Below callerA B [] B)
    (F : Fr B L h₁ m) (N : News B L h₁ [(L + 1 + 1 + 1 + 1, w4), (L + 1 + 1 + 1, w3), (L + 1 + 1, w2), (L + 1, w1)]) (d4 : w4.data = .cell none) (d3 : w3.data = .cell none) (d2 : w2.data = .cell none) (d1 : w1.data = .cell none)
    (hm : m "script" = some (.ref script)) {oc : Value} {od : Option Addr} {name qual : Str} {params : Arguments} {body : List Stmt} {scope : Scope} {dV kV doc pm cdv ct : Value} {an : Option Addr} {osl : Array (Option Value)}
    (ho : (KK w.params).lookup 717 = some ⟨oc, od, .func (fnOf name qual params body scope dV kV doc pm an cdv ct), osl⟩) (hk : scope.kind = .function) {fa : Addr} {cd : Value} {Q : Flow → Shared → Prop} {E : Value → Shared → Prop}
    (hq : ∀ s', (∀ b o, B.get? b = some o → s'.heap.get? b = some o) → s'.os = s.os → s'.gens = s.gens → Q (.ret (.bool true)) s') :
    wpAny (model prog w) (callerA.deeper (envOfC qual scope L fa cd)) (execs body (envOfC qual scope L fa cd)) Q E s := by
  subst hs
  let G : Cfg := { prog := prog, w := w, K := KK w.params, p := p, loose := loose, mean := mean, mg := mg, mb := mb, script := script, its := its }
  let H : Hp := fun a => if a = L + 1 ∨ a = L + 2 ∨ a = L + 3 ∨ a = L + 4 then some (.cell none) else none
  have hH : ∀ a, (a = L + 1 ∨ a = L + 2 ∨ a = L + 3 ∨ a = L + 4) → H a = some (.cell none) := fun a h => if_pos h
  have c : Cx G 40 (envOfC qual scope L fa cd) (envOfC qual scope L fa cd) (callerA.deeper (envOfC qual scope L fa cd)) callerA B B [] L :=
    ⟨⟨by show callerA.depth + 1 + 40 ≤ 900; decide, by show callerA.units + 3 + 8 * 40 ≤ 9000; decide⟩, rfl, rfl, fun _ => ⟨rfl, rfl⟩, hk, hk, rfl, rfl, rfl, K0, ⟨KX, T, hL⟩⟩
  have r : Rel G B L [] ⟨[("script", .ref script)], H⟩ s.heap := by
    refine ⟨[(L + 1 + 1 + 1 + 1, w4), (L + 1 + 1 + 1, w3), (L + 1 + 1, w2), (L + 1, w1)], m, F, by rw [List.append_nil]; exact N, fun p hp q hq => (by cases hq), fun a ao e => ?_, fun x v e => ?_⟩
    · have e : (if a = L + 1 ∨ a = L + 2 ∨ a = L + 3 ∨ a = L + 4 then some (AO.cell none) else none) = some ao := e
      split at e
      · rename_i h
        cases e
        rcases h with rfl | rfl | rfl | rfl
        · exact ⟨w1, .tail _ (.tail _ (.tail _ (.head _))), .cell0 d1⟩
        · exact ⟨w2, .tail _ (.tail _ (.head _)), .cell0 d2⟩
        · exact ⟨w3, .tail _ (.head _), .cell0 d3⟩
        · exact ⟨w4, .head _, .cell0 d4⟩
      · cases e
    · simp only [List.lookup] at e
      split at e
      · rename_i q; cases e; rw [eq_of_beq q]; exact ⟨_, hm, .ref _⟩
      · cases e
  refine wpAny_mono ((law_walk (G := G) (H := H) rfl ho hI hn L fa cd (hH _ (.inl rfl)) (hH _ (.inr (.inl rfl))) (hH _ (.inr (.inr (.inl rfl)))) (hH _ (.inr (.inr (.inr rfl))))) _ _ _ _ _ _ [] s c r) (fun fl s' z => ?_) (fun e s' z => False.elim z)
  obtain ⟨q, st, sm⟩ := z
  cases q
  exact hq s' st sm.os sm.gens
end Mine

open Mine in
set_option maxHeartbeats 8000000 in
theorem PySem.Challenge.cw_nn0336_01_holds : PySem.Challenge.rw_nn0336_01.Holds := by
  w_on
  refine holds_law wsaid fun said => ?_
  refine holds_open (q := vw) (loose := lse) (Xt := xt) (XP := XL vw []) (Yf := (kHook KK KA KAeq).obs) (Ya := (kHook KK KA KAeq).val) (YP := (kHook KK KA KAeq).says) (N := 8754) ?hl (Hook.of (kHook KK KA KAeq)) (Hook.keeps (kHook KK KA KAeq)) (fun s e => xl_of s (Bool.and_eq_true_iff.mp e).1) XL.keeps (by rfl) (by rfl) (by rfl) (fun s e => recFacts_of (Bool.and_eq_true_iff.mp e).2) (by rfl) (by assumption) (by decide +kernel) ⟨rfl, rfl, rfl, rfl, rfl, by decide +kernel⟩ ?hw ?hc
  case hl => exact hleft
  case hw => w_witness2
  k_fill
  intro w s₀ s₁ mg mb G Y fa o pm cd doc dV kV ho hd hcd hD hmg hg args vals as hpre hlay hrd hwl hlo
  have KX := kIn_of Y
  have X := (Ground.X G).1
  have V := (Ground.X G).2
  refine Ground.open G ?_
  intro T B D TE TW
  try (refine guard_noD D (by decide +kernel) ?_; clear D)
  obtain ⟨_, _, M⟩ := bmod_of_top T
  have TA := at_of_top T
  try (obtain ⟨_, _, he, B0⟩ := based_of_top T rfl hmg ho hd; have he' : cd = _ := he; subst he'; clear he)
  clear hmg
  wrow_args hpre hlay hrd hwl hlo
  all_goals (
    first | refine callC_kw (enter_call ?_) | refine enter_call ?_ | refine callC_kw (enter_callW ?_) | refine enter_callW ?_ | w_how
    w_top on
    try refine codeAny_mono ?_ (fun _ _ g => GoodW.toG g)
    have K0 := below_caller (Top.heap T)
    w_call any ho hd hcd hD T F
    clear hd TA
    k_drop
    skip)
  rename Fr _ _ _ _ => F
  rename News _ _ _ _ => N
  rename Below _ _ _ _ => K0
  rename Frag.In _ _ => KX
  rename Top _ _ _ _ _ _ => T
  rename Heap.IsList _ _ _ => hL
  rename IntsAre _ _ => hI
  rename (_ : Shared).gens = #[] => hg
  rename ¬ _ < _ => hc
  refine law_join rfl KX T hL hI (by omega) K0 F N ?d4 ?d3 ?d2 ?d1 rfl (by k_is) rfl (fun s' k o g => good_true (fun _ => rfl) ?_ k o (g.trans hg))
  case d4 => assumption
  case d3 => assumption
  case d2 => assumption
  case d1 => assumption
  all_goals wrow_post
