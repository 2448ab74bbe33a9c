import PyProof.Rows.All
import Wide.All
import OpenK.AllK
import Wide.FinOn
import Lean
import PySem.Challenge.RW_nn0326_01
open PySem PySem.W PyProof.Rows PySem.Spec PySem.Calls
set_option Elab.async false
set_option maxRecDepth 100000
set_option tactic.hygienic false
set_option linter.all false
set_option linter.deprecated false
set_option genSizeOf false
set_option linter.unusedVariables false
namespace Mine.Hd
noncomputable abbrev PW : Program := PySem.Challenge.pw_nn0326_01
noncomputable def fdT (i : Nat) : Stmt := match PW.main.body.drop i with | s :: _ => s | [] => .Pass ⟨0, 0, 0, 0⟩
noncomputable def fdM (i j : Nat) : Stmt := match fdT i with
  | .ClassDef _ _ _ b _ _ _ _ _ _ _ => (match b.drop j with | s :: _ => s | [] => .Pass ⟨0, 0, 0, 0⟩)
  | s => s
noncomputable def mkFn (s : Stmt) (qual : Str) (gl : Addr) (dV kV doc pm : Value) (an : Option Addr) (cd ct : Value) (bi : Addr) : FuncData := match s with
  | .FunctionDef n a b _ _ _ sc _ _ _ => ⟨n, qual, a, .stmts b, sc, gl, [], dV, kV, doc, pm, an, cd, ct, bi⟩
  | _ => default
noncomputable abbrev en (P : Params) (k : Str) (t : Nat) (v : Value) : DictEntry := ⟨PyData.keyHash P k, .str k t, v⟩
noncomputable abbrev a11 (P : Params) : Obj := ⟨(.type "tuple"), none, (.seq #[] 0), #[]⟩
noncomputable abbrev a12 (P : Params) : Obj := ⟨.none, none, (.fields #[]), #[]⟩
noncomputable abbrev a13 (P : Params) : Obj := ⟨(.type "code"), none, (.fields #[(.str "<module>" 182), (.str "<module>" 183), (.str "/claim/cut.py" 184), (.int 1 0), (.int 0 0), (.int 0 0), (.int 0 0), (.int 0 0), (.ref 11), (.bool false), (.int 181 0), (.ref 12), .none, .none, .none, .none, (.int 185 0), (.int 1 0), (.str "/claim/cut.py" 186)]), #[]⟩
noncomputable abbrev a14 (P : Params) : Obj := ⟨(.type "frame"), none, .plain, #[(some (.ref 13)), (some (.ref 3)), (some (.ref 3)), none, (some (.str "__main__" 164)), none, (some (.ref 0))]⟩
noncomputable abbrev m2 (P : Params) : Obj := ⟨.none, none, (.dict #[en P "type.__subclasses__.Exception.0" 228 (.int 39 0), en P "type.__subclasses__.Exception.n" 229 (.int 1 0)] 2), #[]⟩
noncomputable abbrev m3 (P : Params) : Obj := ⟨(.type "dict"), none, (.dict #[en P "__name__" 165 (.str "law_nn0326_01" 761), en P "__doc__" 166 .none, en P "__package__" 167 .none, en P "__loader__" 168 (.builtin "__main__.__loader__#opaque"), en P "__spec__" 169 .none, en P "__annotations__" 170 (.ref 6), en P "__builtins__" 171 (.ref 4), en P "__file__" 173 (.str "/claim/cut.py" 172), en P "__cached__" 174 .none, en P "_wall" 193 (.ref 21), en P "GateloomError" 231 (.ref 39), en P "SourceError" 247 (.ref 52), en P "Token" 282 (.ref 71), en P "TokenRow" 320 (.ref 99), en P "Cursor" 434 (.ref 192), en P "mask" 443 (.ref 203), en P "vec" 454 (.ref 211), en P "MOST_BITS" 458 (.int 65536 457), en P "PLAIN_BITS" 460 (.int 32 459), en P "digit_bits" 467 (.ref 218), en P "decimal_value" 476 (.ref 225), en P "size_value" 485 (.ref 232), en P "digit_pair" 493 (.ref 239), en P "grouped" 508 (.ref 246), en P "padded_vec" 520 (.ref 253), en P "numeral" 538 (.ref 260), en P "precedence" 547 (.ref 267), en P "is_unary" 554 (.ref 274), en P "plain_operator" 561 (.ref 281), en P "ExprParser" 760 (.ref 431), en P "_law_pool" 775 (.ref 440), en P "_law_pick" 784 (.ref 447), en P "_law_put" 794 (.ref 454), en P "_law_bindings" 800 (.ref 459), en P "_law_reading" 806 (.ref 464), en P "_law_expression" 815 (.ref 471), en P "_law_row" 830 (.ref 478), en P "_law_operand" 846 (.ref 485), en P "_law_list" 858 (.ref 492), en P "_law_selected" 877 (.ref 499), en P "_law_term" 893 (.ref 506), en P "law" 899 (.ref 511)] 42), #[]⟩
noncomputable abbrev m12 (P : Params) : Obj := ⟨.none, none, (.fields #[(.int 1 0), (.int 0 0), (.ref 20), (.int 5 0), (.int 0 0), (.ref 27), (.int 11 0), (.int 0 0), (.ref 48), (.int 14 0), (.int 0 0), (.ref 60), (.int 20 0), (.int 0 0), (.ref 81), (.int 32 0), (.int 0 0), (.ref 109), (.int 82 0), (.int 0 0), (.ref 202), (.int 84 0), (.int 0 0), (.ref 210), (.int 90 0), (.int 0 0), (.ref 217), (.int 96 0), (.int 0 0), (.ref 224), (.int 101 0), (.int 0 0), (.ref 231), (.int 106 0), (.int 0 0), (.ref 238), (.int 112 0), (.int 0 0), (.ref 245), (.int 122 0), (.int 0 0), (.ref 252), (.int 130 0), (.int 0 0), (.ref 259), (.int 154 0), (.int 0 0), (.ref 266), (.int 178 0), (.int 0 0), (.ref 273), (.int 180 0), (.int 0 0), (.ref 280), (.int 184 0), (.int 0 0), (.ref 287), (.int 360 0), (.int 0 0), (.ref 439), (.int 375 0), (.int 0 0), (.ref 446), (.int 385 0), (.int 0 0), (.ref 453), (.int 389 0), (.int 0 0), (.ref 458), (.int 392 0), (.int 0 0), (.ref 463), (.int 412 0), (.int 0 0), (.ref 470), (.int 414 0), (.int 0 0), (.ref 477), (.int 430 0), (.int 0 0), (.ref 484), (.int 444 0), (.int 0 0), (.ref 491), (.int 451 0), (.int 0 0), (.ref 498), (.int 479 0), (.int 0 0), (.ref 505), (.int 523 0), (.int 0 0), (.ref 510)]), #[]⟩
noncomputable abbrev m15 (P : Params) : Obj := ⟨(.type "tuple"), none, (.seq #[] 0), #[]⟩
noncomputable abbrev m16 (P : Params) : Obj := ⟨.none, none, (.fields #[]), #[]⟩
noncomputable abbrev m17 (P : Params) : Obj := ⟨(.type "tuple"), none, (.seq #[(.str "k" 190)] 0), #[]⟩
noncomputable abbrev m18 (P : Params) : Obj := ⟨(.type "tuple"), none, (.seq #[] 0), #[]⟩
noncomputable abbrev m19 (P : Params) : Obj := ⟨.none, none, (.func (mkFn (fdT 0) "_wall" 0 .none .none .none .none none .none .none 0)), #[]⟩
noncomputable abbrev m20 (P : Params) : Obj := ⟨(.type "code"), none, (.fields #[(.str "_wall" 187), (.str "_wall" 188), (.str "/claim/cut.py" 189), (.int 1 0), (.int 1 0), (.int 0 0), (.int 0 0), (.int 3 0), (.ref 15), (.bool true), (.int 181 0), (.ref 16), .none, (.ref 17), (.ref 18), (.ref 19), (.int 191 0), (.int 1 0), (.str "/claim/cut.py" 192)]), #[]⟩
noncomputable abbrev m21 (P : Params) : Obj := ⟨(.type "function"), none, (.func (mkFn (fdT 0) "_wall" 3 .none .none .none (.str "__main__" 164) none (.ref 20) .none 0)), #[]⟩
noncomputable abbrev m22 (P : Params) : Obj := ⟨(.type "tuple"), none, (.seq #[(.type "Exception")] 0), #[]⟩
noncomputable abbrev m23 (P : Params) : Obj := ⟨(.type "builtin_function_or_method"), none, (.fields #[(.builtin "type.__prepare__"), (.type "type")]), #[]⟩
noncomputable abbrev m24 (P : Params) : Obj := ⟨(.type "dict"), none, (.dict #[en P "__module__" 203 (.str "gateloom.errors" 194), en P "__qualname__" 205 (.str "GateloomError" 204), en P "__firstlineno__" 207 (.int 5 206), en P "__init__" 220 (.ref 36), en P "__static_attributes__" 224 (.ref 37)] 5), #[]⟩
noncomputable abbrev m25 (P : Params) : Obj := ⟨(.type "tuple"), none, (.seq #[] 0), #[]⟩
noncomputable abbrev m26 (P : Params) : Obj := ⟨.none, none, (.fields #[(.int 7 0), (.int 4 0), (.ref 35)]), #[]⟩
noncomputable abbrev m27 (P : Params) : Obj := ⟨(.type "code"), none, (.fields #[(.str "GateloomError" 198), (.str "GateloomError" 199), (.str "/claim/cut.py" 200), (.int 5 0), (.int 0 0), (.int 0 0), (.int 0 0), (.int 0 0), (.ref 25), (.bool false), (.int 181 0), (.ref 26), .none, .none, .none, .none, (.int 201 0), (.int 5 0), (.str "/claim/cut.py" 202)]), #[]⟩
noncomputable abbrev m28 (P : Params) : Obj := ⟨(.type "frame"), none, .plain, #[(some (.ref 27)), (some (.ref 3)), (some (.ref 24)), none, (some (.str "gateloom.errors" 194)), none, (some (.ref 0))]⟩
noncomputable abbrev m29 (P : Params) : Obj := ⟨(.type "tuple"), none, (.seq #[(.int (-1) 209), (.str "" 210)] 0), #[]⟩
noncomputable abbrev m30 (P : Params) : Obj := ⟨(.type "tuple"), none, (.seq #[] 0), #[]⟩
noncomputable abbrev m31 (P : Params) : Obj := ⟨.none, none, (.fields #[]), #[]⟩
noncomputable abbrev m32 (P : Params) : Obj := ⟨(.type "tuple"), none, (.seq #[(.str "self" 214), (.str "kind" 215), (.str "at" 216), (.str "detail" 217)] 0), #[]⟩
noncomputable abbrev m33 (P : Params) : Obj := ⟨(.type "tuple"), none, (.seq #[] 0), #[]⟩
noncomputable abbrev m34 (P : Params) : Obj := ⟨.none, none, (.func (mkFn (fdM 2 0) "GateloomError.__init__" 0 .none .none .none .none none .none .none 0)), #[]⟩
noncomputable abbrev m35 (P : Params) : Obj := ⟨(.type "code"), none, (.fields #[(.str "__init__" 211), (.str "GateloomError.__init__" 212), (.str "/claim/cut.py" 213), (.int 7 0), (.int 4 0), (.int 0 0), (.int 0 0), (.int 3 0), (.ref 30), (.bool true), (.int 181 0), (.ref 31), .none, (.ref 32), (.ref 33), (.ref 34), (.int 218 0), (.int 7 0), (.str "/claim/cut.py" 219)]), #[]⟩
noncomputable abbrev m36 (P : Params) : Obj := ⟨(.type "function"), none, (.func (mkFn (fdM 2 0) "GateloomError.__init__" 3 (.ref 29) .none .none (.str "gateloom.errors" 194) none (.ref 35) .none 0)), #[]⟩
noncomputable abbrev m37 (P : Params) : Obj := ⟨(.type "tuple"), none, (.seq #[(.str "at" 221), (.str "detail" 222), (.str "kind" 223)] 0), #[]⟩
noncomputable abbrev m38 (P : Params) : Obj := ⟨(.type "dict"), none, (.dict #[en P "__module__" 203 (.str "gateloom.errors" 194), en P "__firstlineno__" 207 (.int 5 206), en P "__init__" 220 (.ref 36), en P "__static_attributes__" 224 (.ref 37), en P "__weakref__" 226 (.ref 40), en P "__doc__" 227 .none] 3), #[]⟩
noncomputable abbrev m39 (P : Params) : Obj := ⟨(.type "type"), none, (.cls ⟨"GateloomError", [(.type "Exception")], [(.ref 39), (.type "Exception"), (.type "BaseException"), (.type "object")], 38, "GateloomError", true, [], [(.ref 52)], false, none, false⟩), #[(some (.ref 22)), none, (some (.str "GateloomError" 196)), (some (.str "GateloomError" 204)), (some (.builtin "Exception.__new__")), (some (.bool true))]⟩
noncomputable abbrev m40 (P : Params) : Obj := ⟨(.type "getset_descriptor"), none, (.fields #[(.str "__weakref__" 225), (.ref 39), (.builtin "ExceptionGroup.__weakref__"), .none]), #[]⟩
noncomputable abbrev m41 (P : Params) : Obj := ⟨(.type "super"), none, (.fields #[(.ref 39), (.ref 39), (.ref 39)]), #[]⟩
noncomputable abbrev m42 (P : Params) : Obj := ⟨(.type "builtin_function_or_method"), none, (.fields #[(.builtin "object.__init_subclass__"), (.ref 39)]), #[]⟩
noncomputable abbrev m43 (P : Params) : Obj := ⟨(.type "tuple"), none, (.seq #[(.ref 39)] 0), #[]⟩
noncomputable abbrev m44 (P : Params) : Obj := ⟨(.type "builtin_function_or_method"), none, (.fields #[(.builtin "type.__prepare__"), (.type "type")]), #[]⟩
noncomputable abbrev m45 (P : Params) : Obj := ⟨(.type "dict"), none, (.dict #[en P "__module__" 239 (.str "gateloom.errors" 194), en P "__qualname__" 241 (.str "SourceError" 240), en P "__firstlineno__" 243 (.int 11 242), en P "__static_attributes__" 244 (.ref 50)] 4), #[]⟩
noncomputable abbrev m46 (P : Params) : Obj := ⟨(.type "tuple"), none, (.seq #[] 0), #[]⟩
noncomputable abbrev m47 (P : Params) : Obj := ⟨.none, none, (.fields #[]), #[]⟩
noncomputable abbrev m48 (P : Params) : Obj := ⟨(.type "code"), none, (.fields #[(.str "SourceError" 234), (.str "SourceError" 235), (.str "/claim/cut.py" 236), (.int 11 0), (.int 0 0), (.int 0 0), (.int 0 0), (.int 0 0), (.ref 46), (.bool false), (.int 181 0), (.ref 47), .none, .none, .none, .none, (.int 237 0), (.int 11 0), (.str "/claim/cut.py" 238)]), #[]⟩
noncomputable abbrev m49 (P : Params) : Obj := ⟨(.type "frame"), none, .plain, #[(some (.ref 48)), (some (.ref 3)), (some (.ref 45)), none, (some (.str "gateloom.errors" 194)), none, (some (.ref 0))]⟩
noncomputable abbrev m50 (P : Params) : Obj := ⟨(.type "tuple"), none, (.seq #[] 0), #[]⟩
noncomputable abbrev m51 (P : Params) : Obj := ⟨(.type "dict"), none, (.dict #[en P "__module__" 239 (.str "gateloom.errors" 194), en P "__firstlineno__" 243 (.int 11 242), en P "__static_attributes__" 244 (.ref 50), en P "__doc__" 245 .none] 2), #[]⟩
noncomputable abbrev m52 (P : Params) : Obj := ⟨(.type "type"), none, (.cls ⟨"SourceError", [(.ref 39)], [(.ref 52), (.ref 39), (.type "Exception"), (.type "BaseException"), (.type "object")], 51, "SourceError", true, [], [], false, none, false⟩), #[(some (.ref 43)), none, (some (.str "SourceError" 232)), (some (.str "SourceError" 240)), (some (.builtin "Exception.__new__")), (some (.bool true))]⟩
noncomputable abbrev m53 (P : Params) : Obj := ⟨(.type "super"), none, (.fields #[(.ref 52), (.ref 52), (.ref 52)]), #[]⟩
noncomputable abbrev m54 (P : Params) : Obj := ⟨(.type "builtin_function_or_method"), none, (.fields #[(.builtin "object.__init_subclass__"), (.ref 52)]), #[]⟩
noncomputable abbrev m55 (P : Params) : Obj := ⟨(.type "tuple"), none, (.seq #[] 0), #[]⟩
noncomputable abbrev m56 (P : Params) : Obj := ⟨(.type "builtin_function_or_method"), none, (.fields #[(.builtin "type.__prepare__"), (.type "type")]), #[]⟩
noncomputable abbrev m57 (P : Params) : Obj := ⟨(.type "dict"), none, (.dict #[en P "__module__" 257 (.str "gateloom.tokens" 248), en P "__qualname__" 259 (.str "Token" 258), en P "__firstlineno__" 261 (.int 14 260), en P "__init__" 271 (.ref 68), en P "__static_attributes__" 275 (.ref 69)] 5), #[]⟩
noncomputable abbrev m58 (P : Params) : Obj := ⟨(.type "tuple"), none, (.seq #[] 0), #[]⟩
noncomputable abbrev m59 (P : Params) : Obj := ⟨.none, none, (.fields #[(.int 16 0), (.int 4 0), (.ref 67)]), #[]⟩
noncomputable abbrev m60 (P : Params) : Obj := ⟨(.type "code"), none, (.fields #[(.str "Token" 252), (.str "Token" 253), (.str "/claim/cut.py" 254), (.int 14 0), (.int 0 0), (.int 0 0), (.int 0 0), (.int 0 0), (.ref 58), (.bool false), (.int 181 0), (.ref 59), .none, .none, .none, .none, (.int 255 0), (.int 14 0), (.str "/claim/cut.py" 256)]), #[]⟩
noncomputable abbrev m61 (P : Params) : Obj := ⟨(.type "frame"), none, .plain, #[(some (.ref 60)), (some (.ref 3)), (some (.ref 57)), none, (some (.str "gateloom.tokens" 248)), none, (some (.ref 0))]⟩
noncomputable abbrev m62 (P : Params) : Obj := ⟨(.type "tuple"), none, (.seq #[] 0), #[]⟩
noncomputable abbrev m63 (P : Params) : Obj := ⟨.none, none, (.fields #[]), #[]⟩
noncomputable abbrev m64 (P : Params) : Obj := ⟨(.type "tuple"), none, (.seq #[(.str "self" 265), (.str "kind" 266), (.str "value" 267), (.str "at" 268)] 0), #[]⟩
noncomputable abbrev m65 (P : Params) : Obj := ⟨(.type "tuple"), none, (.seq #[] 0), #[]⟩
noncomputable abbrev m66 (P : Params) : Obj := ⟨.none, none, (.func (mkFn (fdM 5 0) "Token.__init__" 0 .none .none .none .none none .none .none 0)), #[]⟩
noncomputable abbrev m67 (P : Params) : Obj := ⟨(.type "code"), none, (.fields #[(.str "__init__" 262), (.str "Token.__init__" 263), (.str "/claim/cut.py" 264), (.int 16 0), (.int 4 0), (.int 0 0), (.int 0 0), (.int 3 0), (.ref 62), (.bool true), (.int 181 0), (.ref 63), .none, (.ref 64), (.ref 65), (.ref 66), (.int 269 0), (.int 16 0), (.str "/claim/cut.py" 270)]), #[]⟩
noncomputable abbrev m68 (P : Params) : Obj := ⟨(.type "function"), none, (.func (mkFn (fdM 5 0) "Token.__init__" 3 .none .none .none (.str "gateloom.tokens" 248) none (.ref 67) .none 0)), #[]⟩
noncomputable abbrev m69 (P : Params) : Obj := ⟨(.type "tuple"), none, (.seq #[(.str "at" 272), (.str "kind" 273), (.str "value" 274)] 0), #[]⟩
noncomputable abbrev m70 (P : Params) : Obj := ⟨(.type "dict"), none, (.dict #[en P "__module__" 257 (.str "gateloom.tokens" 248), en P "__firstlineno__" 261 (.int 14 260), en P "__init__" 271 (.ref 68), en P "__static_attributes__" 275 (.ref 69), en P "__dict__" 277 (.ref 72), en P "__weakref__" 279 (.ref 73), en P "__doc__" 280 .none] 4), #[]⟩
noncomputable abbrev m71 (P : Params) : Obj := ⟨(.type "type"), none, (.cls ⟨"Token", [(.type "object")], [(.ref 71), (.type "object")], 70, "Token", true, [], [], false, none, false⟩), #[none, none, (some (.str "Token" 250)), (some (.str "Token" 258)), (some (.builtin "object.__new__")), (some (.bool true))]⟩
noncomputable abbrev m72 (P : Params) : Obj := ⟨(.type "getset_descriptor"), none, (.fields #[(.str "__dict__" 276), (.ref 71), (.builtin "function.__dict__"), (.builtin "function.__dict__#set")]), #[]⟩
noncomputable abbrev m73 (P : Params) : Obj := ⟨(.type "getset_descriptor"), none, (.fields #[(.str "__weakref__" 278), (.ref 71), (.builtin "ExceptionGroup.__weakref__"), .none]), #[]⟩
noncomputable abbrev m74 (P : Params) : Obj := ⟨(.type "super"), none, (.fields #[(.ref 71), (.ref 71), (.ref 71)]), #[]⟩
noncomputable abbrev m75 (P : Params) : Obj := ⟨(.type "builtin_function_or_method"), none, (.fields #[(.builtin "object.__init_subclass__"), (.ref 71)]), #[]⟩
noncomputable abbrev m76 (P : Params) : Obj := ⟨(.type "tuple"), none, (.seq #[] 0), #[]⟩
noncomputable abbrev m77 (P : Params) : Obj := ⟨(.type "builtin_function_or_method"), none, (.fields #[(.builtin "type.__prepare__"), (.type "type")]), #[]⟩
noncomputable abbrev m78 (P : Params) : Obj := ⟨(.type "dict"), none, (.dict #[en P "__module__" 290 (.str "gateloom.tokens" 248), en P "__qualname__" 292 (.str "TokenRow" 291), en P "__firstlineno__" 294 (.int 20 293), en P "__init__" 302 (.ref 89), en P "next_token" 310 (.ref 96), en P "__static_attributes__" 313 (.ref 97)] 6), #[]⟩
noncomputable abbrev m79 (P : Params) : Obj := ⟨(.type "tuple"), none, (.seq #[] 0), #[]⟩
noncomputable abbrev m80 (P : Params) : Obj := ⟨.none, none, (.fields #[(.int 22 0), (.int 4 0), (.ref 88), (.int 26 0), (.int 4 0), (.ref 95)]), #[]⟩
noncomputable abbrev m81 (P : Params) : Obj := ⟨(.type "code"), none, (.fields #[(.str "TokenRow" 285), (.str "TokenRow" 286), (.str "/claim/cut.py" 287), (.int 20 0), (.int 0 0), (.int 0 0), (.int 0 0), (.int 0 0), (.ref 79), (.bool false), (.int 181 0), (.ref 80), .none, .none, .none, .none, (.int 288 0), (.int 20 0), (.str "/claim/cut.py" 289)]), #[]⟩
noncomputable abbrev m82 (P : Params) : Obj := ⟨(.type "frame"), none, .plain, #[(some (.ref 81)), (some (.ref 3)), (some (.ref 78)), none, (some (.str "gateloom.tokens" 248)), none, (some (.ref 0))]⟩
noncomputable abbrev m83 (P : Params) : Obj := ⟨(.type "tuple"), none, (.seq #[] 0), #[]⟩
noncomputable abbrev m84 (P : Params) : Obj := ⟨.none, none, (.fields #[]), #[]⟩
noncomputable abbrev m85 (P : Params) : Obj := ⟨(.type "tuple"), none, (.seq #[(.str "self" 298), (.str "tokens" 299)] 0), #[]⟩
noncomputable abbrev m86 (P : Params) : Obj := ⟨(.type "tuple"), none, (.seq #[] 0), #[]⟩
noncomputable abbrev m87 (P : Params) : Obj := ⟨.none, none, (.func (mkFn (fdM 6 0) "TokenRow.__init__" 0 .none .none .none .none none .none .none 0)), #[]⟩
noncomputable abbrev m88 (P : Params) : Obj := ⟨(.type "code"), none, (.fields #[(.str "__init__" 295), (.str "TokenRow.__init__" 296), (.str "/claim/cut.py" 297), (.int 22 0), (.int 2 0), (.int 0 0), (.int 0 0), (.int 3 0), (.ref 83), (.bool true), (.int 181 0), (.ref 84), .none, (.ref 85), (.ref 86), (.ref 87), (.int 300 0), (.int 22 0), (.str "/claim/cut.py" 301)]), #[]⟩
noncomputable abbrev m89 (P : Params) : Obj := ⟨(.type "function"), none, (.func (mkFn (fdM 6 0) "TokenRow.__init__" 3 .none .none .none (.str "gateloom.tokens" 248) none (.ref 88) .none 0)), #[]⟩
noncomputable abbrev m90 (P : Params) : Obj := ⟨(.type "tuple"), none, (.seq #[] 0), #[]⟩
noncomputable abbrev m91 (P : Params) : Obj := ⟨.none, none, (.fields #[]), #[]⟩
noncomputable abbrev m92 (P : Params) : Obj := ⟨(.type "tuple"), none, (.seq #[(.str "self" 306), (.str "token" 307)] 0), #[]⟩
noncomputable abbrev m93 (P : Params) : Obj := ⟨(.type "tuple"), none, (.seq #[] 0), #[]⟩
noncomputable abbrev m94 (P : Params) : Obj := ⟨.none, none, (.func (mkFn (fdM 6 1) "TokenRow.next_token" 0 .none .none .none .none none .none .none 0)), #[]⟩
noncomputable abbrev m95 (P : Params) : Obj := ⟨(.type "code"), none, (.fields #[(.str "next_token" 303), (.str "TokenRow.next_token" 304), (.str "/claim/cut.py" 305), (.int 26 0), (.int 1 0), (.int 0 0), (.int 0 0), (.int 3 0), (.ref 90), (.bool true), (.int 181 0), (.ref 91), .none, (.ref 92), (.ref 93), (.ref 94), (.int 308 0), (.int 26 0), (.str "/claim/cut.py" 309)]), #[]⟩
noncomputable abbrev m96 (P : Params) : Obj := ⟨(.type "function"), none, (.func (mkFn (fdM 6 1) "TokenRow.next_token" 3 .none .none .none (.str "gateloom.tokens" 248) none (.ref 95) .none 0)), #[]⟩
noncomputable abbrev m97 (P : Params) : Obj := ⟨(.type "tuple"), none, (.seq #[(.str "place" 311), (.str "tokens" 312)] 0), #[]⟩
noncomputable abbrev m98 (P : Params) : Obj := ⟨(.type "dict"), none, (.dict #[en P "__module__" 290 (.str "gateloom.tokens" 248), en P "__firstlineno__" 294 (.int 20 293), en P "__init__" 302 (.ref 89), en P "next_token" 310 (.ref 96), en P "__static_attributes__" 313 (.ref 97), en P "__dict__" 315 (.ref 100), en P "__weakref__" 317 (.ref 101), en P "__doc__" 318 .none] 4), #[]⟩
noncomputable abbrev m99 (P : Params) : Obj := ⟨(.type "type"), none, (.cls ⟨"TokenRow", [(.type "object")], [(.ref 99), (.type "object")], 98, "TokenRow", true, [], [], false, none, false⟩), #[none, none, (some (.str "TokenRow" 283)), (some (.str "TokenRow" 291)), (some (.builtin "object.__new__")), (some (.bool true))]⟩
noncomputable abbrev m100 (P : Params) : Obj := ⟨(.type "getset_descriptor"), none, (.fields #[(.str "__dict__" 314), (.ref 99), (.builtin "function.__dict__"), (.builtin "function.__dict__#set")]), #[]⟩
noncomputable abbrev m101 (P : Params) : Obj := ⟨(.type "getset_descriptor"), none, (.fields #[(.str "__weakref__" 316), (.ref 99), (.builtin "ExceptionGroup.__weakref__"), .none]), #[]⟩
noncomputable abbrev m102 (P : Params) : Obj := ⟨(.type "super"), none, (.fields #[(.ref 99), (.ref 99), (.ref 99)]), #[]⟩
noncomputable abbrev m103 (P : Params) : Obj := ⟨(.type "builtin_function_or_method"), none, (.fields #[(.builtin "object.__init_subclass__"), (.ref 99)]), #[]⟩
noncomputable abbrev m104 (P : Params) : Obj := ⟨(.type "tuple"), none, (.seq #[] 0), #[]⟩
noncomputable abbrev m105 (P : Params) : Obj := ⟨(.type "builtin_function_or_method"), none, (.fields #[(.builtin "type.__prepare__"), (.type "type")]), #[]⟩
noncomputable abbrev m106 (P : Params) : Obj := ⟨(.type "dict"), none, (.dict #[en P "__module__" 328 (.str "gateloom.tokens" 248), en P "__qualname__" 330 (.str "Cursor" 329), en P "__firstlineno__" 332 (.int 32 331), en P "__init__" 340 (.ref 117), en P "peek" 349 (.ref 125), en P "take" 357 (.ref 132), en P "is_op" 365 (.ref 139), en P "is_key" 373 (.ref 146), en P "accept_op" 381 (.ref 153), en P "accept_key" 389 (.ref 160), en P "expect_op" 397 (.ref 167), en P "expect_key" 405 (.ref 174), en P "expect_id" 412 (.ref 181), en P "fail" 422 (.ref 189), en P "__static_attributes__" 427 (.ref 190)] 15), #[]⟩
noncomputable abbrev m107 (P : Params) : Obj := ⟨(.type "tuple"), none, (.seq #[] 0), #[]⟩
noncomputable abbrev m108 (P : Params) : Obj := ⟨.none, none, (.fields #[(.int 34 0), (.int 4 0), (.ref 116), (.int 40 0), (.int 4 0), (.ref 124), (.int 43 0), (.int 4 0), (.ref 131), (.int 52 0), (.int 4 0), (.ref 138), (.int 55 0), (.int 4 0), (.ref 145), (.int 58 0), (.int 4 0), (.ref 152), (.int 64 0), (.int 4 0), (.ref 159), (.int 67 0), (.int 4 0), (.ref 166), (.int 71 0), (.int 4 0), (.ref 173), (.int 74 0), (.int 4 0), (.ref 180), (.int 79 0), (.int 4 0), (.ref 188)]), #[]⟩
noncomputable abbrev m109 (P : Params) : Obj := ⟨(.type "code"), none, (.fields #[(.str "Cursor" 323), (.str "Cursor" 324), (.str "/claim/cut.py" 325), (.int 32 0), (.int 0 0), (.int 0 0), (.int 0 0), (.int 0 0), (.ref 107), (.bool false), (.int 181 0), (.ref 108), .none, .none, .none, .none, (.int 326 0), (.int 32 0), (.str "/claim/cut.py" 327)]), #[]⟩
noncomputable abbrev m110 (P : Params) : Obj := ⟨(.type "frame"), none, .plain, #[(some (.ref 109)), (some (.ref 3)), (some (.ref 106)), none, (some (.str "gateloom.tokens" 248)), none, (some (.ref 0))]⟩
noncomputable abbrev m111 (P : Params) : Obj := ⟨(.type "tuple"), none, (.seq #[] 0), #[]⟩
noncomputable abbrev m112 (P : Params) : Obj := ⟨.none, none, (.fields #[]), #[]⟩
noncomputable abbrev m113 (P : Params) : Obj := ⟨(.type "tuple"), none, (.seq #[(.str "self" 336), (.str "source" 337)] 0), #[]⟩
noncomputable abbrev m114 (P : Params) : Obj := ⟨(.type "tuple"), none, (.seq #[] 0), #[]⟩
noncomputable abbrev m115 (P : Params) : Obj := ⟨.none, none, (.func (mkFn (fdM 7 0) "Cursor.__init__" 0 .none .none .none .none none .none .none 0)), #[]⟩
noncomputable abbrev m116 (P : Params) : Obj := ⟨(.type "code"), none, (.fields #[(.str "__init__" 333), (.str "Cursor.__init__" 334), (.str "/claim/cut.py" 335), (.int 34 0), (.int 2 0), (.int 0 0), (.int 0 0), (.int 3 0), (.ref 111), (.bool true), (.int 181 0), (.ref 112), .none, (.ref 113), (.ref 114), (.ref 115), (.int 338 0), (.int 34 0), (.str "/claim/cut.py" 339)]), #[]⟩
noncomputable abbrev m117 (P : Params) : Obj := ⟨(.type "function"), none, (.func (mkFn (fdM 7 0) "Cursor.__init__" 3 .none .none .none (.str "gateloom.tokens" 248) none (.ref 116) .none 0)), #[]⟩
noncomputable abbrev m118 (P : Params) : Obj := ⟨(.type "tuple"), none, (.seq #[(.int 0 341)] 0), #[]⟩
noncomputable abbrev m119 (P : Params) : Obj := ⟨(.type "tuple"), none, (.seq #[] 0), #[]⟩
noncomputable abbrev m120 (P : Params) : Obj := ⟨.none, none, (.fields #[]), #[]⟩
noncomputable abbrev m121 (P : Params) : Obj := ⟨(.type "tuple"), none, (.seq #[(.str "self" 345), (.str "n" 346)] 0), #[]⟩
noncomputable abbrev m122 (P : Params) : Obj := ⟨(.type "tuple"), none, (.seq #[] 0), #[]⟩
noncomputable abbrev m123 (P : Params) : Obj := ⟨.none, none, (.func (mkFn (fdM 7 1) "Cursor.peek" 0 .none .none .none .none none .none .none 0)), #[]⟩
noncomputable abbrev m124 (P : Params) : Obj := ⟨(.type "code"), none, (.fields #[(.str "peek" 342), (.str "Cursor.peek" 343), (.str "/claim/cut.py" 344), (.int 40 0), (.int 2 0), (.int 0 0), (.int 0 0), (.int 3 0), (.ref 119), (.bool true), (.int 181 0), (.ref 120), .none, (.ref 121), (.ref 122), (.ref 123), (.int 347 0), (.int 40 0), (.str "/claim/cut.py" 348)]), #[]⟩
noncomputable abbrev m125 (P : Params) : Obj := ⟨(.type "function"), none, (.func (mkFn (fdM 7 1) "Cursor.peek" 3 (.ref 118) .none .none (.str "gateloom.tokens" 248) none (.ref 124) .none 0)), #[]⟩
noncomputable abbrev m126 (P : Params) : Obj := ⟨(.type "tuple"), none, (.seq #[] 0), #[]⟩
noncomputable abbrev m127 (P : Params) : Obj := ⟨.none, none, (.fields #[]), #[]⟩
noncomputable abbrev m128 (P : Params) : Obj := ⟨(.type "tuple"), none, (.seq #[(.str "self" 353), (.str "token" 354)] 0), #[]⟩
noncomputable abbrev m129 (P : Params) : Obj := ⟨(.type "tuple"), none, (.seq #[] 0), #[]⟩
noncomputable abbrev m130 (P : Params) : Obj := ⟨.none, none, (.func (mkFn (fdM 7 2) "Cursor.take" 0 .none .none .none .none none .none .none 0)), #[]⟩
noncomputable abbrev m131 (P : Params) : Obj := ⟨(.type "code"), none, (.fields #[(.str "take" 350), (.str "Cursor.take" 351), (.str "/claim/cut.py" 352), (.int 43 0), (.int 1 0), (.int 0 0), (.int 0 0), (.int 3 0), (.ref 126), (.bool true), (.int 181 0), (.ref 127), .none, (.ref 128), (.ref 129), (.ref 130), (.int 355 0), (.int 43 0), (.str "/claim/cut.py" 356)]), #[]⟩
noncomputable abbrev m132 (P : Params) : Obj := ⟨(.type "function"), none, (.func (mkFn (fdM 7 2) "Cursor.take" 3 .none .none .none (.str "gateloom.tokens" 248) none (.ref 131) .none 0)), #[]⟩
noncomputable abbrev m133 (P : Params) : Obj := ⟨(.type "tuple"), none, (.seq #[] 0), #[]⟩
noncomputable abbrev m134 (P : Params) : Obj := ⟨.none, none, (.fields #[]), #[]⟩
noncomputable abbrev m135 (P : Params) : Obj := ⟨(.type "tuple"), none, (.seq #[(.str "self" 361), (.str "text" 362)] 0), #[]⟩
noncomputable abbrev m136 (P : Params) : Obj := ⟨(.type "tuple"), none, (.seq #[] 0), #[]⟩
noncomputable abbrev m137 (P : Params) : Obj := ⟨.none, none, (.func (mkFn (fdM 7 3) "Cursor.is_op" 0 .none .none .none .none none .none .none 0)), #[]⟩
noncomputable abbrev m138 (P : Params) : Obj := ⟨(.type "code"), none, (.fields #[(.str "is_op" 358), (.str "Cursor.is_op" 359), (.str "/claim/cut.py" 360), (.int 52 0), (.int 2 0), (.int 0 0), (.int 0 0), (.int 3 0), (.ref 133), (.bool true), (.int 181 0), (.ref 134), .none, (.ref 135), (.ref 136), (.ref 137), (.int 363 0), (.int 52 0), (.str "/claim/cut.py" 364)]), #[]⟩
noncomputable abbrev m139 (P : Params) : Obj := ⟨(.type "function"), none, (.func (mkFn (fdM 7 3) "Cursor.is_op" 3 .none .none .none (.str "gateloom.tokens" 248) none (.ref 138) .none 0)), #[]⟩
noncomputable abbrev m140 (P : Params) : Obj := ⟨(.type "tuple"), none, (.seq #[] 0), #[]⟩
noncomputable abbrev m141 (P : Params) : Obj := ⟨.none, none, (.fields #[]), #[]⟩
noncomputable abbrev m142 (P : Params) : Obj := ⟨(.type "tuple"), none, (.seq #[(.str "self" 369), (.str "text" 370)] 0), #[]⟩
noncomputable abbrev m143 (P : Params) : Obj := ⟨(.type "tuple"), none, (.seq #[] 0), #[]⟩
noncomputable abbrev m144 (P : Params) : Obj := ⟨.none, none, (.func (mkFn (fdM 7 4) "Cursor.is_key" 0 .none .none .none .none none .none .none 0)), #[]⟩
noncomputable abbrev m145 (P : Params) : Obj := ⟨(.type "code"), none, (.fields #[(.str "is_key" 366), (.str "Cursor.is_key" 367), (.str "/claim/cut.py" 368), (.int 55 0), (.int 2 0), (.int 0 0), (.int 0 0), (.int 3 0), (.ref 140), (.bool true), (.int 181 0), (.ref 141), .none, (.ref 142), (.ref 143), (.ref 144), (.int 371 0), (.int 55 0), (.str "/claim/cut.py" 372)]), #[]⟩
noncomputable abbrev m146 (P : Params) : Obj := ⟨(.type "function"), none, (.func (mkFn (fdM 7 4) "Cursor.is_key" 3 .none .none .none (.str "gateloom.tokens" 248) none (.ref 145) .none 0)), #[]⟩
noncomputable abbrev m147 (P : Params) : Obj := ⟨(.type "tuple"), none, (.seq #[] 0), #[]⟩
noncomputable abbrev m148 (P : Params) : Obj := ⟨.none, none, (.fields #[]), #[]⟩
noncomputable abbrev m149 (P : Params) : Obj := ⟨(.type "tuple"), none, (.seq #[(.str "self" 377), (.str "text" 378)] 0), #[]⟩
noncomputable abbrev m150 (P : Params) : Obj := ⟨(.type "tuple"), none, (.seq #[] 0), #[]⟩
noncomputable abbrev m151 (P : Params) : Obj := ⟨.none, none, (.func (mkFn (fdM 7 5) "Cursor.accept_op" 0 .none .none .none .none none .none .none 0)), #[]⟩
noncomputable abbrev m152 (P : Params) : Obj := ⟨(.type "code"), none, (.fields #[(.str "accept_op" 374), (.str "Cursor.accept_op" 375), (.str "/claim/cut.py" 376), (.int 58 0), (.int 2 0), (.int 0 0), (.int 0 0), (.int 3 0), (.ref 147), (.bool true), (.int 181 0), (.ref 148), .none, (.ref 149), (.ref 150), (.ref 151), (.int 379 0), (.int 58 0), (.str "/claim/cut.py" 380)]), #[]⟩
noncomputable abbrev m153 (P : Params) : Obj := ⟨(.type "function"), none, (.func (mkFn (fdM 7 5) "Cursor.accept_op" 3 .none .none .none (.str "gateloom.tokens" 248) none (.ref 152) .none 0)), #[]⟩
noncomputable abbrev m154 (P : Params) : Obj := ⟨(.type "tuple"), none, (.seq #[] 0), #[]⟩
noncomputable abbrev m155 (P : Params) : Obj := ⟨.none, none, (.fields #[]), #[]⟩
noncomputable abbrev m156 (P : Params) : Obj := ⟨(.type "tuple"), none, (.seq #[(.str "self" 385), (.str "text" 386)] 0), #[]⟩
noncomputable abbrev m157 (P : Params) : Obj := ⟨(.type "tuple"), none, (.seq #[] 0), #[]⟩
noncomputable abbrev m158 (P : Params) : Obj := ⟨.none, none, (.func (mkFn (fdM 7 6) "Cursor.accept_key" 0 .none .none .none .none none .none .none 0)), #[]⟩
noncomputable abbrev m159 (P : Params) : Obj := ⟨(.type "code"), none, (.fields #[(.str "accept_key" 382), (.str "Cursor.accept_key" 383), (.str "/claim/cut.py" 384), (.int 64 0), (.int 2 0), (.int 0 0), (.int 0 0), (.int 3 0), (.ref 154), (.bool true), (.int 181 0), (.ref 155), .none, (.ref 156), (.ref 157), (.ref 158), (.int 387 0), (.int 64 0), (.str "/claim/cut.py" 388)]), #[]⟩
noncomputable abbrev m160 (P : Params) : Obj := ⟨(.type "function"), none, (.func (mkFn (fdM 7 6) "Cursor.accept_key" 3 .none .none .none (.str "gateloom.tokens" 248) none (.ref 159) .none 0)), #[]⟩
noncomputable abbrev m161 (P : Params) : Obj := ⟨(.type "tuple"), none, (.seq #[] 0), #[]⟩
noncomputable abbrev m162 (P : Params) : Obj := ⟨.none, none, (.fields #[]), #[]⟩
noncomputable abbrev m163 (P : Params) : Obj := ⟨(.type "tuple"), none, (.seq #[(.str "self" 393), (.str "text" 394)] 0), #[]⟩
noncomputable abbrev m164 (P : Params) : Obj := ⟨(.type "tuple"), none, (.seq #[] 0), #[]⟩
noncomputable abbrev m165 (P : Params) : Obj := ⟨.none, none, (.func (mkFn (fdM 7 7) "Cursor.expect_op" 0 .none .none .none .none none .none .none 0)), #[]⟩
noncomputable abbrev m166 (P : Params) : Obj := ⟨(.type "code"), none, (.fields #[(.str "expect_op" 390), (.str "Cursor.expect_op" 391), (.str "/claim/cut.py" 392), (.int 67 0), (.int 2 0), (.int 0 0), (.int 0 0), (.int 3 0), (.ref 161), (.bool true), (.int 181 0), (.ref 162), .none, (.ref 163), (.ref 164), (.ref 165), (.int 395 0), (.int 67 0), (.str "/claim/cut.py" 396)]), #[]⟩
noncomputable abbrev m167 (P : Params) : Obj := ⟨(.type "function"), none, (.func (mkFn (fdM 7 7) "Cursor.expect_op" 3 .none .none .none (.str "gateloom.tokens" 248) none (.ref 166) .none 0)), #[]⟩
noncomputable abbrev m168 (P : Params) : Obj := ⟨(.type "tuple"), none, (.seq #[] 0), #[]⟩
noncomputable abbrev m169 (P : Params) : Obj := ⟨.none, none, (.fields #[]), #[]⟩
noncomputable abbrev m170 (P : Params) : Obj := ⟨(.type "tuple"), none, (.seq #[(.str "self" 401), (.str "text" 402)] 0), #[]⟩
noncomputable abbrev m171 (P : Params) : Obj := ⟨(.type "tuple"), none, (.seq #[] 0), #[]⟩
noncomputable abbrev m172 (P : Params) : Obj := ⟨.none, none, (.func (mkFn (fdM 7 8) "Cursor.expect_key" 0 .none .none .none .none none .none .none 0)), #[]⟩
noncomputable abbrev m173 (P : Params) : Obj := ⟨(.type "code"), none, (.fields #[(.str "expect_key" 398), (.str "Cursor.expect_key" 399), (.str "/claim/cut.py" 400), (.int 71 0), (.int 2 0), (.int 0 0), (.int 0 0), (.int 3 0), (.ref 168), (.bool true), (.int 181 0), (.ref 169), .none, (.ref 170), (.ref 171), (.ref 172), (.int 403 0), (.int 71 0), (.str "/claim/cut.py" 404)]), #[]⟩
noncomputable abbrev m174 (P : Params) : Obj := ⟨(.type "function"), none, (.func (mkFn (fdM 7 8) "Cursor.expect_key" 3 .none .none .none (.str "gateloom.tokens" 248) none (.ref 173) .none 0)), #[]⟩
noncomputable abbrev m175 (P : Params) : Obj := ⟨(.type "tuple"), none, (.seq #[] 0), #[]⟩
noncomputable abbrev m176 (P : Params) : Obj := ⟨.none, none, (.fields #[]), #[]⟩
noncomputable abbrev m177 (P : Params) : Obj := ⟨(.type "tuple"), none, (.seq #[(.str "self" 409)] 0), #[]⟩
noncomputable abbrev m178 (P : Params) : Obj := ⟨(.type "tuple"), none, (.seq #[] 0), #[]⟩
noncomputable abbrev m179 (P : Params) : Obj := ⟨.none, none, (.func (mkFn (fdM 7 9) "Cursor.expect_id" 0 .none .none .none .none none .none .none 0)), #[]⟩
noncomputable abbrev m180 (P : Params) : Obj := ⟨(.type "code"), none, (.fields #[(.str "expect_id" 406), (.str "Cursor.expect_id" 407), (.str "/claim/cut.py" 408), (.int 74 0), (.int 1 0), (.int 0 0), (.int 0 0), (.int 3 0), (.ref 175), (.bool true), (.int 181 0), (.ref 176), .none, (.ref 177), (.ref 178), (.ref 179), (.int 410 0), (.int 74 0), (.str "/claim/cut.py" 411)]), #[]⟩
noncomputable abbrev m181 (P : Params) : Obj := ⟨(.type "function"), none, (.func (mkFn (fdM 7 9) "Cursor.expect_id" 3 .none .none .none (.str "gateloom.tokens" 248) none (.ref 180) .none 0)), #[]⟩
noncomputable abbrev m182 (P : Params) : Obj := ⟨(.type "tuple"), none, (.seq #[(.str "" 413)] 0), #[]⟩
noncomputable abbrev m183 (P : Params) : Obj := ⟨(.type "tuple"), none, (.seq #[] 0), #[]⟩
noncomputable abbrev m184 (P : Params) : Obj := ⟨.none, none, (.fields #[]), #[]⟩
noncomputable abbrev m185 (P : Params) : Obj := ⟨(.type "tuple"), none, (.seq #[(.str "self" 417), (.str "kind" 418), (.str "detail" 419)] 0), #[]⟩
noncomputable abbrev m186 (P : Params) : Obj := ⟨(.type "tuple"), none, (.seq #[] 0), #[]⟩
noncomputable abbrev m187 (P : Params) : Obj := ⟨.none, none, (.func (mkFn (fdM 7 10) "Cursor.fail" 0 .none .none .none .none none .none .none 0)), #[]⟩
noncomputable abbrev m188 (P : Params) : Obj := ⟨(.type "code"), none, (.fields #[(.str "fail" 414), (.str "Cursor.fail" 415), (.str "/claim/cut.py" 416), (.int 79 0), (.int 3 0), (.int 0 0), (.int 0 0), (.int 3 0), (.ref 183), (.bool true), (.int 181 0), (.ref 184), .none, (.ref 185), (.ref 186), (.ref 187), (.int 420 0), (.int 79 0), (.str "/claim/cut.py" 421)]), #[]⟩
noncomputable abbrev m189 (P : Params) : Obj := ⟨(.type "function"), none, (.func (mkFn (fdM 7 10) "Cursor.fail" 3 (.ref 182) .none .none (.str "gateloom.tokens" 248) none (.ref 188) .none 0)), #[]⟩
noncomputable abbrev m190 (P : Params) : Obj := ⟨(.type "tuple"), none, (.seq #[(.str "ahead" 423), (.str "at" 424), (.str "source" 425), (.str "token" 426)] 0), #[]⟩
noncomputable abbrev m191 (P : Params) : Obj := ⟨(.type "dict"), none, (.dict #[en P "__module__" 328 (.str "gateloom.tokens" 248), en P "__firstlineno__" 332 (.int 32 331), en P "__init__" 340 (.ref 117), en P "peek" 349 (.ref 125), en P "take" 357 (.ref 132), en P "is_op" 365 (.ref 139), en P "is_key" 373 (.ref 146), en P "accept_op" 381 (.ref 153), en P "accept_key" 389 (.ref 160), en P "expect_op" 397 (.ref 167), en P "expect_key" 405 (.ref 174), en P "expect_id" 412 (.ref 181), en P "fail" 422 (.ref 189), en P "__static_attributes__" 427 (.ref 190), en P "__dict__" 429 (.ref 193), en P "__weakref__" 431 (.ref 194), en P "__doc__" 432 .none] 4), #[]⟩
noncomputable abbrev m192 (P : Params) : Obj := ⟨(.type "type"), none, (.cls ⟨"Cursor", [(.type "object")], [(.ref 192), (.type "object")], 191, "Cursor", true, [], [(.ref 431)], false, none, false⟩), #[none, none, (some (.str "Cursor" 321)), (some (.str "Cursor" 329)), (some (.builtin "object.__new__")), (some (.bool true))]⟩
noncomputable abbrev m193 (P : Params) : Obj := ⟨(.type "getset_descriptor"), none, (.fields #[(.str "__dict__" 428), (.ref 192), (.builtin "function.__dict__"), (.builtin "function.__dict__#set")]), #[]⟩
noncomputable abbrev m194 (P : Params) : Obj := ⟨(.type "getset_descriptor"), none, (.fields #[(.str "__weakref__" 430), (.ref 192), (.builtin "ExceptionGroup.__weakref__"), .none]), #[]⟩
noncomputable abbrev m195 (P : Params) : Obj := ⟨(.type "super"), none, (.fields #[(.ref 192), (.ref 192), (.ref 192)]), #[]⟩
noncomputable abbrev m196 (P : Params) : Obj := ⟨(.type "builtin_function_or_method"), none, (.fields #[(.builtin "object.__init_subclass__"), (.ref 192)]), #[]⟩
noncomputable abbrev m197 (P : Params) : Obj := ⟨(.type "tuple"), none, (.seq #[] 0), #[]⟩
noncomputable abbrev m198 (P : Params) : Obj := ⟨.none, none, (.fields #[]), #[]⟩
noncomputable abbrev m199 (P : Params) : Obj := ⟨(.type "tuple"), none, (.seq #[(.str "w" 440)] 0), #[]⟩
noncomputable abbrev m200 (P : Params) : Obj := ⟨(.type "tuple"), none, (.seq #[] 0), #[]⟩
noncomputable abbrev m201 (P : Params) : Obj := ⟨.none, none, (.func (mkFn (fdT 9) "mask" 0 .none .none .none .none none .none .none 0)), #[]⟩
noncomputable abbrev m202 (P : Params) : Obj := ⟨(.type "code"), none, (.fields #[(.str "mask" 437), (.str "mask" 438), (.str "/claim/cut.py" 439), (.int 82 0), (.int 1 0), (.int 0 0), (.int 0 0), (.int 3 0), (.ref 197), (.bool true), (.int 181 0), (.ref 198), .none, (.ref 199), (.ref 200), (.ref 201), (.int 441 0), (.int 82 0), (.str "/claim/cut.py" 442)]), #[]⟩
noncomputable abbrev m203 (P : Params) : Obj := ⟨(.type "function"), none, (.func (mkFn (fdT 9) "mask" 3 .none .none .none (.str "gateloom.vec" 435) none (.ref 202) .none 0)), #[]⟩
noncomputable abbrev m204 (P : Params) : Obj := ⟨(.type "tuple"), none, (.seq #[(.int 0 444)] 0), #[]⟩
noncomputable abbrev m205 (P : Params) : Obj := ⟨(.type "tuple"), none, (.seq #[] 0), #[]⟩
noncomputable abbrev m206 (P : Params) : Obj := ⟨.none, none, (.fields #[]), #[]⟩
noncomputable abbrev m207 (P : Params) : Obj := ⟨(.type "tuple"), none, (.seq #[(.str "w" 448), (.str "a" 449), (.str "b" 450), (.str "full" 451)] 0), #[]⟩
noncomputable abbrev m208 (P : Params) : Obj := ⟨(.type "tuple"), none, (.seq #[] 0), #[]⟩
noncomputable abbrev m209 (P : Params) : Obj := ⟨.none, none, (.func (mkFn (fdT 10) "vec" 0 .none .none .none .none none .none .none 0)), #[]⟩
noncomputable abbrev m210 (P : Params) : Obj := ⟨(.type "code"), none, (.fields #[(.str "vec" 445), (.str "vec" 446), (.str "/claim/cut.py" 447), (.int 84 0), (.int 3 0), (.int 0 0), (.int 0 0), (.int 3 0), (.ref 205), (.bool true), (.int 181 0), (.ref 206), .none, (.ref 207), (.ref 208), (.ref 209), (.int 452 0), (.int 84 0), (.str "/claim/cut.py" 453)]), #[]⟩
noncomputable abbrev m211 (P : Params) : Obj := ⟨(.type "function"), none, (.func (mkFn (fdT 10) "vec" 3 (.ref 204) .none .none (.str "gateloom.vec" 435) none (.ref 210) .none 0)), #[]⟩
noncomputable abbrev m212 (P : Params) : Obj := ⟨(.type "tuple"), none, (.seq #[] 0), #[]⟩
noncomputable abbrev m213 (P : Params) : Obj := ⟨.none, none, (.fields #[]), #[]⟩
noncomputable abbrev m214 (P : Params) : Obj := ⟨(.type "tuple"), none, (.seq #[(.str "base" 464)] 0), #[]⟩
noncomputable abbrev m215 (P : Params) : Obj := ⟨(.type "tuple"), none, (.seq #[] 0), #[]⟩
noncomputable abbrev m216 (P : Params) : Obj := ⟨.none, none, (.func (mkFn (fdT 14) "digit_bits" 0 .none .none .none .none none .none .none 0)), #[]⟩
noncomputable abbrev m217 (P : Params) : Obj := ⟨(.type "code"), none, (.fields #[(.str "digit_bits" 461), (.str "digit_bits" 462), (.str "/claim/cut.py" 463), (.int 90 0), (.int 1 0), (.int 0 0), (.int 0 0), (.int 3 0), (.ref 212), (.bool true), (.int 181 0), (.ref 213), .none, (.ref 214), (.ref 215), (.ref 216), (.int 465 0), (.int 90 0), (.str "/claim/cut.py" 466)]), #[]⟩
noncomputable abbrev m218 (P : Params) : Obj := ⟨(.type "function"), none, (.func (mkFn (fdT 14) "digit_bits" 3 .none .none .none (.str "gateloom.numerals" 455) none (.ref 217) .none 0)), #[]⟩
noncomputable abbrev m219 (P : Params) : Obj := ⟨(.type "tuple"), none, (.seq #[] 0), #[]⟩
noncomputable abbrev m220 (P : Params) : Obj := ⟨.none, none, (.fields #[]), #[]⟩
noncomputable abbrev m221 (P : Params) : Obj := ⟨(.type "tuple"), none, (.seq #[(.str "digits" 471), (.str "value" 472), (.str "digit" 473)] 0), #[]⟩
noncomputable abbrev m222 (P : Params) : Obj := ⟨(.type "tuple"), none, (.seq #[] 0), #[]⟩
noncomputable abbrev m223 (P : Params) : Obj := ⟨.none, none, (.func (mkFn (fdT 15) "decimal_value" 0 .none .none .none .none none .none .none 0)), #[]⟩
noncomputable abbrev m224 (P : Params) : Obj := ⟨(.type "code"), none, (.fields #[(.str "decimal_value" 468), (.str "decimal_value" 469), (.str "/claim/cut.py" 470), (.int 96 0), (.int 1 0), (.int 0 0), (.int 0 0), (.int 3 0), (.ref 219), (.bool true), (.int 181 0), (.ref 220), .none, (.ref 221), (.ref 222), (.ref 223), (.int 474 0), (.int 96 0), (.str "/claim/cut.py" 475)]), #[]⟩
noncomputable abbrev m225 (P : Params) : Obj := ⟨(.type "function"), none, (.func (mkFn (fdT 15) "decimal_value" 3 .none .none .none (.str "gateloom.numerals" 455) none (.ref 224) .none 0)), #[]⟩
noncomputable abbrev m226 (P : Params) : Obj := ⟨(.type "tuple"), none, (.seq #[] 0), #[]⟩
noncomputable abbrev m227 (P : Params) : Obj := ⟨.none, none, (.fields #[]), #[]⟩
noncomputable abbrev m228 (P : Params) : Obj := ⟨(.type "tuple"), none, (.seq #[(.str "size" 480), (.str "at" 481), (.str "digits" 482)] 0), #[]⟩
noncomputable abbrev m229 (P : Params) : Obj := ⟨(.type "tuple"), none, (.seq #[] 0), #[]⟩
noncomputable abbrev m230 (P : Params) : Obj := ⟨.none, none, (.func (mkFn (fdT 16) "size_value" 0 .none .none .none .none none .none .none 0)), #[]⟩
noncomputable abbrev m231 (P : Params) : Obj := ⟨(.type "code"), none, (.fields #[(.str "size_value" 477), (.str "size_value" 478), (.str "/claim/cut.py" 479), (.int 101 0), (.int 2 0), (.int 0 0), (.int 0 0), (.int 3 0), (.ref 226), (.bool true), (.int 181 0), (.ref 227), .none, (.ref 228), (.ref 229), (.ref 230), (.int 483 0), (.int 101 0), (.str "/claim/cut.py" 484)]), #[]⟩
noncomputable abbrev m232 (P : Params) : Obj := ⟨(.type "function"), none, (.func (mkFn (fdT 16) "size_value" 3 .none .none .none (.str "gateloom.numerals" 455) none (.ref 231) .none 0)), #[]⟩
noncomputable abbrev m233 (P : Params) : Obj := ⟨(.type "tuple"), none, (.seq #[] 0), #[]⟩
noncomputable abbrev m234 (P : Params) : Obj := ⟨.none, none, (.fields #[]), #[]⟩
noncomputable abbrev m235 (P : Params) : Obj := ⟨(.type "tuple"), none, (.seq #[(.str "digit" 489), (.str "full" 490)] 0), #[]⟩
noncomputable abbrev m236 (P : Params) : Obj := ⟨(.type "tuple"), none, (.seq #[] 0), #[]⟩
noncomputable abbrev m237 (P : Params) : Obj := ⟨.none, none, (.func (mkFn (fdT 17) "digit_pair" 0 .none .none .none .none none .none .none 0)), #[]⟩
noncomputable abbrev m238 (P : Params) : Obj := ⟨(.type "code"), none, (.fields #[(.str "digit_pair" 486), (.str "digit_pair" 487), (.str "/claim/cut.py" 488), (.int 106 0), (.int 2 0), (.int 0 0), (.int 0 0), (.int 3 0), (.ref 233), (.bool true), (.int 181 0), (.ref 234), .none, (.ref 235), (.ref 236), (.ref 237), (.int 491 0), (.int 106 0), (.str "/claim/cut.py" 492)]), #[]⟩
noncomputable abbrev m239 (P : Params) : Obj := ⟨(.type "function"), none, (.func (mkFn (fdT 17) "digit_pair" 3 .none .none .none (.str "gateloom.numerals" 455) none (.ref 238) .none 0)), #[]⟩
noncomputable abbrev m240 (P : Params) : Obj := ⟨(.type "tuple"), none, (.seq #[] 0), #[]⟩
noncomputable abbrev m241 (P : Params) : Obj := ⟨.none, none, (.fields #[]), #[]⟩
noncomputable abbrev m242 (P : Params) : Obj := ⟨(.type "tuple"), none, (.seq #[(.str "base" 497), (.str "digits" 498), (.str "count" 499), (.str "full" 500), (.str "a" 501), (.str "b" 502), (.str "digit" 503), (.str "low" 504), (.str "high" 505)] 0), #[]⟩
noncomputable abbrev m243 (P : Params) : Obj := ⟨(.type "tuple"), none, (.seq #[] 0), #[]⟩
noncomputable abbrev m244 (P : Params) : Obj := ⟨.none, none, (.func (mkFn (fdT 18) "grouped" 0 .none .none .none .none none .none .none 0)), #[]⟩
noncomputable abbrev m245 (P : Params) : Obj := ⟨(.type "code"), none, (.fields #[(.str "grouped" 494), (.str "grouped" 495), (.str "/claim/cut.py" 496), (.int 112 0), (.int 2 0), (.int 0 0), (.int 0 0), (.int 3 0), (.ref 240), (.bool true), (.int 181 0), (.ref 241), .none, (.ref 242), (.ref 243), (.ref 244), (.int 506 0), (.int 112 0), (.str "/claim/cut.py" 507)]), #[]⟩
noncomputable abbrev m246 (P : Params) : Obj := ⟨(.type "function"), none, (.func (mkFn (fdT 18) "grouped" 3 .none .none .none (.str "gateloom.numerals" 455) none (.ref 245) .none 0)), #[]⟩
noncomputable abbrev m247 (P : Params) : Obj := ⟨(.type "tuple"), none, (.seq #[] 0), #[]⟩
noncomputable abbrev m248 (P : Params) : Obj := ⟨.none, none, (.fields #[]), #[]⟩
noncomputable abbrev m249 (P : Params) : Obj := ⟨(.type "tuple"), none, (.seq #[(.str "w" 512), (.str "width" 513), (.str "a" 514), (.str "b" 515), (.str "first" 516), (.str "fill" 517)] 0), #[]⟩
noncomputable abbrev m250 (P : Params) : Obj := ⟨(.type "tuple"), none, (.seq #[] 0), #[]⟩
noncomputable abbrev m251 (P : Params) : Obj := ⟨.none, none, (.func (mkFn (fdT 19) "padded_vec" 0 .none .none .none .none none .none .none 0)), #[]⟩
noncomputable abbrev m252 (P : Params) : Obj := ⟨(.type "code"), none, (.fields #[(.str "padded_vec" 509), (.str "padded_vec" 510), (.str "/claim/cut.py" 511), (.int 122 0), (.int 5 0), (.int 0 0), (.int 0 0), (.int 3 0), (.ref 247), (.bool true), (.int 181 0), (.ref 248), .none, (.ref 249), (.ref 250), (.ref 251), (.int 518 0), (.int 122 0), (.str "/claim/cut.py" 519)]), #[]⟩
noncomputable abbrev m253 (P : Params) : Obj := ⟨(.type "function"), none, (.func (mkFn (fdT 19) "padded_vec" 3 .none .none .none (.str "gateloom.numerals" 455) none (.ref 252) .none 0)), #[]⟩
noncomputable abbrev m254 (P : Params) : Obj := ⟨(.type "tuple"), none, (.seq #[] 0), #[]⟩
noncomputable abbrev m255 (P : Params) : Obj := ⟨.none, none, (.fields #[]), #[]⟩
noncomputable abbrev m256 (P : Params) : Obj := ⟨(.type "tuple"), none, (.seq #[(.str "value" 524), (.str "at" 525), (.str "size" 526), (.str "base" 527), (.str "signed" 528), (.str "digits" 529), (.str "first" 530), (.str "plain" 531), (.str "width" 532), (.str "a" 533), (.str "b" 534), (.str "w" 535)] 0), #[]⟩
noncomputable abbrev m257 (P : Params) : Obj := ⟨(.type "tuple"), none, (.seq #[] 0), #[]⟩
noncomputable abbrev m258 (P : Params) : Obj := ⟨.none, none, (.func (mkFn (fdT 20) "numeral" 0 .none .none .none .none none .none .none 0)), #[]⟩
noncomputable abbrev m259 (P : Params) : Obj := ⟨(.type "code"), none, (.fields #[(.str "numeral" 521), (.str "numeral" 522), (.str "/claim/cut.py" 523), (.int 130 0), (.int 2 0), (.int 0 0), (.int 0 0), (.int 3 0), (.ref 254), (.bool true), (.int 181 0), (.ref 255), .none, (.ref 256), (.ref 257), (.ref 258), (.int 536 0), (.int 130 0), (.str "/claim/cut.py" 537)]), #[]⟩
noncomputable abbrev m260 (P : Params) : Obj := ⟨(.type "function"), none, (.func (mkFn (fdT 20) "numeral" 3 .none .none .none (.str "gateloom.numerals" 455) none (.ref 259) .none 0)), #[]⟩
noncomputable abbrev m261 (P : Params) : Obj := ⟨(.type "tuple"), none, (.seq #[] 0), #[]⟩
noncomputable abbrev m262 (P : Params) : Obj := ⟨.none, none, (.fields #[]), #[]⟩
noncomputable abbrev m263 (P : Params) : Obj := ⟨(.type "tuple"), none, (.seq #[(.str "op" 544)] 0), #[]⟩
noncomputable abbrev m264 (P : Params) : Obj := ⟨(.type "tuple"), none, (.seq #[] 0), #[]⟩
noncomputable abbrev m265 (P : Params) : Obj := ⟨.none, none, (.func (mkFn (fdT 22) "precedence" 0 .none .none .none .none none .none .none 0)), #[]⟩
noncomputable abbrev m266 (P : Params) : Obj := ⟨(.type "code"), none, (.fields #[(.str "precedence" 541), (.str "precedence" 542), (.str "/claim/cut.py" 543), (.int 154 0), (.int 1 0), (.int 0 0), (.int 0 0), (.int 3 0), (.ref 261), (.bool true), (.int 181 0), (.ref 262), .none, (.ref 263), (.ref 264), (.ref 265), (.int 545 0), (.int 154 0), (.str "/claim/cut.py" 546)]), #[]⟩
noncomputable abbrev m267 (P : Params) : Obj := ⟨(.type "function"), none, (.func (mkFn (fdT 22) "precedence" 3 .none .none .none (.str "gateloom.exprparse" 539) none (.ref 266) .none 0)), #[]⟩
noncomputable abbrev m268 (P : Params) : Obj := ⟨(.type "tuple"), none, (.seq #[] 0), #[]⟩
noncomputable abbrev m269 (P : Params) : Obj := ⟨.none, none, (.fields #[]), #[]⟩
noncomputable abbrev m270 (P : Params) : Obj := ⟨(.type "tuple"), none, (.seq #[(.str "op" 551)] 0), #[]⟩
noncomputable abbrev m271 (P : Params) : Obj := ⟨(.type "tuple"), none, (.seq #[] 0), #[]⟩
noncomputable abbrev m272 (P : Params) : Obj := ⟨.none, none, (.func (mkFn (fdT 23) "is_unary" 0 .none .none .none .none none .none .none 0)), #[]⟩
noncomputable abbrev m273 (P : Params) : Obj := ⟨(.type "code"), none, (.fields #[(.str "is_unary" 548), (.str "is_unary" 549), (.str "/claim/cut.py" 550), (.int 178 0), (.int 1 0), (.int 0 0), (.int 0 0), (.int 3 0), (.ref 268), (.bool true), (.int 181 0), (.ref 269), .none, (.ref 270), (.ref 271), (.ref 272), (.int 552 0), (.int 178 0), (.str "/claim/cut.py" 553)]), #[]⟩
noncomputable abbrev m274 (P : Params) : Obj := ⟨(.type "function"), none, (.func (mkFn (fdT 23) "is_unary" 3 .none .none .none (.str "gateloom.exprparse" 539) none (.ref 273) .none 0)), #[]⟩
noncomputable abbrev m275 (P : Params) : Obj := ⟨(.type "tuple"), none, (.seq #[] 0), #[]⟩
noncomputable abbrev m276 (P : Params) : Obj := ⟨.none, none, (.fields #[]), #[]⟩
noncomputable abbrev m277 (P : Params) : Obj := ⟨(.type "tuple"), none, (.seq #[(.str "op" 558)] 0), #[]⟩
noncomputable abbrev m278 (P : Params) : Obj := ⟨(.type "tuple"), none, (.seq #[] 0), #[]⟩
noncomputable abbrev m279 (P : Params) : Obj := ⟨.none, none, (.func (mkFn (fdT 24) "plain_operator" 0 .none .none .none .none none .none .none 0)), #[]⟩
noncomputable abbrev m280 (P : Params) : Obj := ⟨(.type "code"), none, (.fields #[(.str "plain_operator" 555), (.str "plain_operator" 556), (.str "/claim/cut.py" 557), (.int 180 0), (.int 1 0), (.int 0 0), (.int 0 0), (.int 3 0), (.ref 275), (.bool true), (.int 181 0), (.ref 276), .none, (.ref 277), (.ref 278), (.ref 279), (.int 559 0), (.int 180 0), (.str "/claim/cut.py" 560)]), #[]⟩
noncomputable abbrev m281 (P : Params) : Obj := ⟨(.type "function"), none, (.func (mkFn (fdT 24) "plain_operator" 3 .none .none .none (.str "gateloom.exprparse" 539) none (.ref 280) .none 0)), #[]⟩
noncomputable abbrev m282 (P : Params) : Obj := ⟨(.type "tuple"), none, (.seq #[(.ref 192)] 0), #[]⟩
noncomputable abbrev m283 (P : Params) : Obj := ⟨(.type "builtin_function_or_method"), none, (.fields #[(.builtin "type.__prepare__"), (.type "type")]), #[]⟩
noncomputable abbrev m284 (P : Params) : Obj := ⟨(.type "dict"), none, (.dict #[en P "__module__" 569 (.str "gateloom.exprparse" 539), en P "__qualname__" 571 (.str "ExprParser" 570), en P "__firstlineno__" 573 (.int 184 572), en P "expression" 585 (.ref 295), en P "binary" 598 (.ref 302), en P "unary" 609 (.ref 309), en P "primary" 624 (.ref 316), en P "named_primary" 632 (.ref 323), en P "braces" 642 (.ref 330), en P "expression_list" 650 (.ref 337), en P "arguments" 658 (.ref 344), en P "mintypmax" 667 (.ref 351), en P "reference" 678 (.ref 358), en P "path_term" 687 (.ref 365), en P "selects" 695 (.ref 372), en P "bracket" 705 (.ref 379), en P "with_select" 714 (.ref 386), en P "lvalue" 721 (.ref 393), en P "name_path" 728 (.ref 400), en P "range_or_none" 735 (.ref 407), en P "delay_value" 742 (.ref 414), en P "delay" 749 (.ref 421), en P "delays" 756 (.ref 428), en P "__static_attributes__" 757 (.ref 429)] 24), #[]⟩
noncomputable abbrev m285 (P : Params) : Obj := ⟨(.type "tuple"), none, (.seq #[] 0), #[]⟩
noncomputable abbrev m286 (P : Params) : Obj := ⟨.none, none, (.fields #[(.int 186 0), (.int 4 0), (.ref 294), (.int 200 0), (.int 4 0), (.ref 301), (.int 213 0), (.int 4 0), (.ref 308), (.int 223 0), (.int 4 0), (.ref 315), (.int 250 0), (.int 4 0), (.ref 322), (.int 256 0), (.int 4 0), (.ref 329), (.int 271 0), (.int 4 0), (.ref 336), (.int 277 0), (.int 4 0), (.ref 343), (.int 285 0), (.int 4 0), (.ref 350), (.int 294 0), (.int 4 0), (.ref 357), (.int 309 0), (.int 4 0), (.ref 364), (.int 314 0), (.int 4 0), (.ref 371), (.int 321 0), (.int 4 0), (.ref 378), (.int 337 0), (.int 4 0), (.ref 385), (.int 342 0), (.int 4 0), (.ref 392), (.int 345 0), (.int 4 0), (.ref 399), (.int 348 0), (.int 4 0), (.ref 406), (.int 351 0), (.int 4 0), (.ref 413), (.int 354 0), (.int 4 0), (.ref 420), (.int 357 0), (.int 4 0), (.ref 427)]), #[]⟩
noncomputable abbrev m287 (P : Params) : Obj := ⟨(.type "code"), none, (.fields #[(.str "ExprParser" 564), (.str "ExprParser" 565), (.str "/claim/cut.py" 566), (.int 184 0), (.int 0 0), (.int 0 0), (.int 0 0), (.int 0 0), (.ref 285), (.bool false), (.int 181 0), (.ref 286), .none, .none, .none, .none, (.int 567 0), (.int 184 0), (.str "/claim/cut.py" 568)]), #[]⟩
noncomputable abbrev m288 (P : Params) : Obj := ⟨(.type "frame"), none, .plain, #[(some (.ref 287)), (some (.ref 3)), (some (.ref 284)), none, (some (.str "gateloom.exprparse" 539)), none, (some (.ref 0))]⟩
noncomputable abbrev m289 (P : Params) : Obj := ⟨(.type "tuple"), none, (.seq #[] 0), #[]⟩
noncomputable abbrev m290 (P : Params) : Obj := ⟨.none, none, (.fields #[]), #[]⟩
noncomputable abbrev m291 (P : Params) : Obj := ⟨(.type "tuple"), none, (.seq #[(.str "self" 577), (.str "tests" 578), (.str "last" 579), (.str "at" 580), (.str "chosen" 581), (.str "test" 582)] 0), #[]⟩
noncomputable abbrev m292 (P : Params) : Obj := ⟨(.type "tuple"), none, (.seq #[] 0), #[]⟩
noncomputable abbrev m293 (P : Params) : Obj := ⟨.none, none, (.func (mkFn (fdM 25 0) "ExprParser.expression" 0 .none .none .none .none none .none .none 0)), #[]⟩
noncomputable abbrev m294 (P : Params) : Obj := ⟨(.type "code"), none, (.fields #[(.str "expression" 574), (.str "ExprParser.expression" 575), (.str "/claim/cut.py" 576), (.int 186 0), (.int 1 0), (.int 0 0), (.int 0 0), (.int 3 0), (.ref 289), (.bool true), (.int 181 0), (.ref 290), .none, (.ref 291), (.ref 292), (.ref 293), (.int 583 0), (.int 186 0), (.str "/claim/cut.py" 584)]), #[]⟩
noncomputable abbrev m295 (P : Params) : Obj := ⟨(.type "function"), none, (.func (mkFn (fdM 25 0) "ExprParser.expression" 3 .none .none .none (.str "gateloom.exprparse" 539) none (.ref 294) .none 0)), #[]⟩
noncomputable abbrev m296 (P : Params) : Obj := ⟨(.type "tuple"), none, (.seq #[] 0), #[]⟩
noncomputable abbrev m297 (P : Params) : Obj := ⟨.none, none, (.fields #[]), #[]⟩
noncomputable abbrev m298 (P : Params) : Obj := ⟨(.type "tuple"), none, (.seq #[(.str "self" 589), (.str "least" 590), (.str "left" 591), (.str "op" 592), (.str "strength" 593), (.str "at" 594), (.str "right" 595)] 0), #[]⟩
noncomputable abbrev m299 (P : Params) : Obj := ⟨(.type "tuple"), none, (.seq #[] 0), #[]⟩
noncomputable abbrev m300 (P : Params) : Obj := ⟨.none, none, (.func (mkFn (fdM 25 1) "ExprParser.binary" 0 .none .none .none .none none .none .none 0)), #[]⟩
noncomputable abbrev m301 (P : Params) : Obj := ⟨(.type "code"), none, (.fields #[(.str "binary" 586), (.str "ExprParser.binary" 587), (.str "/claim/cut.py" 588), (.int 200 0), (.int 2 0), (.int 0 0), (.int 0 0), (.int 3 0), (.ref 296), (.bool true), (.int 181 0), (.ref 297), .none, (.ref 298), (.ref 299), (.ref 300), (.int 596 0), (.int 200 0), (.str "/claim/cut.py" 597)]), #[]⟩
noncomputable abbrev m302 (P : Params) : Obj := ⟨(.type "function"), none, (.func (mkFn (fdM 25 1) "ExprParser.binary" 3 .none .none .none (.str "gateloom.exprparse" 539) none (.ref 301) .none 0)), #[]⟩
noncomputable abbrev m303 (P : Params) : Obj := ⟨(.type "tuple"), none, (.seq #[] 0), #[]⟩
noncomputable abbrev m304 (P : Params) : Obj := ⟨.none, none, (.fields #[]), #[]⟩
noncomputable abbrev m305 (P : Params) : Obj := ⟨(.type "tuple"), none, (.seq #[(.str "self" 602), (.str "signs" 603), (.str "operand" 604), (.str "at" 605), (.str "op" 606)] 0), #[]⟩
noncomputable abbrev m306 (P : Params) : Obj := ⟨(.type "tuple"), none, (.seq #[] 0), #[]⟩
noncomputable abbrev m307 (P : Params) : Obj := ⟨.none, none, (.func (mkFn (fdM 25 2) "ExprParser.unary" 0 .none .none .none .none none .none .none 0)), #[]⟩
noncomputable abbrev m308 (P : Params) : Obj := ⟨(.type "code"), none, (.fields #[(.str "unary" 599), (.str "ExprParser.unary" 600), (.str "/claim/cut.py" 601), (.int 213 0), (.int 1 0), (.int 0 0), (.int 0 0), (.int 3 0), (.ref 303), (.bool true), (.int 181 0), (.ref 304), .none, (.ref 305), (.ref 306), (.ref 307), (.int 607 0), (.int 213 0), (.str "/claim/cut.py" 608)]), #[]⟩
noncomputable abbrev m309 (P : Params) : Obj := ⟨(.type "function"), none, (.func (mkFn (fdM 25 2) "ExprParser.unary" 3 .none .none .none (.str "gateloom.exprparse" 539) none (.ref 308) .none 0)), #[]⟩
noncomputable abbrev m310 (P : Params) : Obj := ⟨(.type "tuple"), none, (.seq #[] 0), #[]⟩
noncomputable abbrev m311 (P : Params) : Obj := ⟨.none, none, (.fields #[]), #[]⟩
noncomputable abbrev m312 (P : Params) : Obj := ⟨(.type "tuple"), none, (.seq #[(.str "self" 613), (.str "kind" 614), (.str "at" 615), (.str "vec" 616), (.str "signed" 617), (.str "sized" 618), (.str "text" 619), (.str "name" 620), (.str "inner" 621)] 0), #[]⟩
noncomputable abbrev m313 (P : Params) : Obj := ⟨(.type "tuple"), none, (.seq #[] 0), #[]⟩
noncomputable abbrev m314 (P : Params) : Obj := ⟨.none, none, (.func (mkFn (fdM 25 3) "ExprParser.primary" 0 .none .none .none .none none .none .none 0)), #[]⟩
noncomputable abbrev m315 (P : Params) : Obj := ⟨(.type "code"), none, (.fields #[(.str "primary" 610), (.str "ExprParser.primary" 611), (.str "/claim/cut.py" 612), (.int 223 0), (.int 1 0), (.int 0 0), (.int 0 0), (.int 3 0), (.ref 310), (.bool true), (.int 181 0), (.ref 311), .none, (.ref 312), (.ref 313), (.ref 314), (.int 622 0), (.int 223 0), (.str "/claim/cut.py" 623)]), #[]⟩
noncomputable abbrev m316 (P : Params) : Obj := ⟨(.type "function"), none, (.func (mkFn (fdM 25 3) "ExprParser.primary" 3 .none .none .none (.str "gateloom.exprparse" 539) none (.ref 315) .none 0)), #[]⟩
noncomputable abbrev m317 (P : Params) : Obj := ⟨(.type "tuple"), none, (.seq #[] 0), #[]⟩
noncomputable abbrev m318 (P : Params) : Obj := ⟨.none, none, (.fields #[]), #[]⟩
noncomputable abbrev m319 (P : Params) : Obj := ⟨(.type "tuple"), none, (.seq #[(.str "self" 628), (.str "base" 629)] 0), #[]⟩
noncomputable abbrev m320 (P : Params) : Obj := ⟨(.type "tuple"), none, (.seq #[] 0), #[]⟩
noncomputable abbrev m321 (P : Params) : Obj := ⟨.none, none, (.func (mkFn (fdM 25 4) "ExprParser.named_primary" 0 .none .none .none .none none .none .none 0)), #[]⟩
noncomputable abbrev m322 (P : Params) : Obj := ⟨(.type "code"), none, (.fields #[(.str "named_primary" 625), (.str "ExprParser.named_primary" 626), (.str "/claim/cut.py" 627), (.int 250 0), (.int 1 0), (.int 0 0), (.int 0 0), (.int 3 0), (.ref 317), (.bool true), (.int 181 0), (.ref 318), .none, (.ref 319), (.ref 320), (.ref 321), (.int 630 0), (.int 250 0), (.str "/claim/cut.py" 631)]), #[]⟩
noncomputable abbrev m323 (P : Params) : Obj := ⟨(.type "function"), none, (.func (mkFn (fdM 25 4) "ExprParser.named_primary" 3 .none .none .none (.str "gateloom.exprparse" 539) none (.ref 322) .none 0)), #[]⟩
noncomputable abbrev m324 (P : Params) : Obj := ⟨(.type "tuple"), none, (.seq #[] 0), #[]⟩
noncomputable abbrev m325 (P : Params) : Obj := ⟨.none, none, (.fields #[]), #[]⟩
noncomputable abbrev m326 (P : Params) : Obj := ⟨(.type "tuple"), none, (.seq #[(.str "self" 636), (.str "at" 637), (.str "first" 638), (.str "items" 639)] 0), #[]⟩
noncomputable abbrev m327 (P : Params) : Obj := ⟨(.type "tuple"), none, (.seq #[] 0), #[]⟩
noncomputable abbrev m328 (P : Params) : Obj := ⟨.none, none, (.func (mkFn (fdM 25 5) "ExprParser.braces" 0 .none .none .none .none none .none .none 0)), #[]⟩
noncomputable abbrev m329 (P : Params) : Obj := ⟨(.type "code"), none, (.fields #[(.str "braces" 633), (.str "ExprParser.braces" 634), (.str "/claim/cut.py" 635), (.int 256 0), (.int 1 0), (.int 0 0), (.int 0 0), (.int 3 0), (.ref 324), (.bool true), (.int 181 0), (.ref 325), .none, (.ref 326), (.ref 327), (.ref 328), (.int 640 0), (.int 256 0), (.str "/claim/cut.py" 641)]), #[]⟩
noncomputable abbrev m330 (P : Params) : Obj := ⟨(.type "function"), none, (.func (mkFn (fdM 25 5) "ExprParser.braces" 3 .none .none .none (.str "gateloom.exprparse" 539) none (.ref 329) .none 0)), #[]⟩
noncomputable abbrev m331 (P : Params) : Obj := ⟨(.type "tuple"), none, (.seq #[] 0), #[]⟩
noncomputable abbrev m332 (P : Params) : Obj := ⟨.none, none, (.fields #[]), #[]⟩
noncomputable abbrev m333 (P : Params) : Obj := ⟨(.type "tuple"), none, (.seq #[(.str "self" 646), (.str "items" 647)] 0), #[]⟩
noncomputable abbrev m334 (P : Params) : Obj := ⟨(.type "tuple"), none, (.seq #[] 0), #[]⟩
noncomputable abbrev m335 (P : Params) : Obj := ⟨.none, none, (.func (mkFn (fdM 25 6) "ExprParser.expression_list" 0 .none .none .none .none none .none .none 0)), #[]⟩
noncomputable abbrev m336 (P : Params) : Obj := ⟨(.type "code"), none, (.fields #[(.str "expression_list" 643), (.str "ExprParser.expression_list" 644), (.str "/claim/cut.py" 645), (.int 271 0), (.int 1 0), (.int 0 0), (.int 0 0), (.int 3 0), (.ref 331), (.bool true), (.int 181 0), (.ref 332), .none, (.ref 333), (.ref 334), (.ref 335), (.int 648 0), (.int 271 0), (.str "/claim/cut.py" 649)]), #[]⟩
noncomputable abbrev m337 (P : Params) : Obj := ⟨(.type "function"), none, (.func (mkFn (fdM 25 6) "ExprParser.expression_list" 3 .none .none .none (.str "gateloom.exprparse" 539) none (.ref 336) .none 0)), #[]⟩
noncomputable abbrev m338 (P : Params) : Obj := ⟨(.type "tuple"), none, (.seq #[] 0), #[]⟩
noncomputable abbrev m339 (P : Params) : Obj := ⟨.none, none, (.fields #[]), #[]⟩
noncomputable abbrev m340 (P : Params) : Obj := ⟨(.type "tuple"), none, (.seq #[(.str "self" 654), (.str "items" 655)] 0), #[]⟩
noncomputable abbrev m341 (P : Params) : Obj := ⟨(.type "tuple"), none, (.seq #[] 0), #[]⟩
noncomputable abbrev m342 (P : Params) : Obj := ⟨.none, none, (.func (mkFn (fdM 25 7) "ExprParser.arguments" 0 .none .none .none .none none .none .none 0)), #[]⟩
noncomputable abbrev m343 (P : Params) : Obj := ⟨(.type "code"), none, (.fields #[(.str "arguments" 651), (.str "ExprParser.arguments" 652), (.str "/claim/cut.py" 653), (.int 277 0), (.int 1 0), (.int 0 0), (.int 0 0), (.int 3 0), (.ref 338), (.bool true), (.int 181 0), (.ref 339), .none, (.ref 340), (.ref 341), (.ref 342), (.int 656 0), (.int 277 0), (.str "/claim/cut.py" 657)]), #[]⟩
noncomputable abbrev m344 (P : Params) : Obj := ⟨(.type "function"), none, (.func (mkFn (fdM 25 7) "ExprParser.arguments" 3 .none .none .none (.str "gateloom.exprparse" 539) none (.ref 343) .none 0)), #[]⟩
noncomputable abbrev m345 (P : Params) : Obj := ⟨(.type "tuple"), none, (.seq #[] 0), #[]⟩
noncomputable abbrev m346 (P : Params) : Obj := ⟨.none, none, (.fields #[]), #[]⟩
noncomputable abbrev m347 (P : Params) : Obj := ⟨(.type "tuple"), none, (.seq #[(.str "self" 662), (.str "first" 663), (.str "typical" 664)] 0), #[]⟩
noncomputable abbrev m348 (P : Params) : Obj := ⟨(.type "tuple"), none, (.seq #[] 0), #[]⟩
noncomputable abbrev m349 (P : Params) : Obj := ⟨.none, none, (.func (mkFn (fdM 25 8) "ExprParser.mintypmax" 0 .none .none .none .none none .none .none 0)), #[]⟩
noncomputable abbrev m350 (P : Params) : Obj := ⟨(.type "code"), none, (.fields #[(.str "mintypmax" 659), (.str "ExprParser.mintypmax" 660), (.str "/claim/cut.py" 661), (.int 285 0), (.int 1 0), (.int 0 0), (.int 0 0), (.int 3 0), (.ref 345), (.bool true), (.int 181 0), (.ref 346), .none, (.ref 347), (.ref 348), (.ref 349), (.int 665 0), (.int 285 0), (.str "/claim/cut.py" 666)]), #[]⟩
noncomputable abbrev m351 (P : Params) : Obj := ⟨(.type "function"), none, (.func (mkFn (fdM 25 8) "ExprParser.mintypmax" 3 .none .none .none (.str "gateloom.exprparse" 539) none (.ref 350) .none 0)), #[]⟩
noncomputable abbrev m352 (P : Params) : Obj := ⟨(.type "tuple"), none, (.seq #[] 0), #[]⟩
noncomputable abbrev m353 (P : Params) : Obj := ⟨.none, none, (.fields #[]), #[]⟩
noncomputable abbrev m354 (P : Params) : Obj := ⟨(.type "tuple"), none, (.seq #[(.str "self" 671), (.str "at" 672), (.str "parts" 673), (.str "select" 674), (.str "name" 675)] 0), #[]⟩
noncomputable abbrev m355 (P : Params) : Obj := ⟨(.type "tuple"), none, (.seq #[] 0), #[]⟩
noncomputable abbrev m356 (P : Params) : Obj := ⟨.none, none, (.func (mkFn (fdM 25 9) "ExprParser.reference" 0 .none .none .none .none none .none .none 0)), #[]⟩
noncomputable abbrev m357 (P : Params) : Obj := ⟨(.type "code"), none, (.fields #[(.str "reference" 668), (.str "ExprParser.reference" 669), (.str "/claim/cut.py" 670), (.int 294 0), (.int 1 0), (.int 0 0), (.int 0 0), (.int 3 0), (.ref 352), (.bool true), (.int 181 0), (.ref 353), .none, (.ref 354), (.ref 355), (.ref 356), (.int 676 0), (.int 294 0), (.str "/claim/cut.py" 677)]), #[]⟩
noncomputable abbrev m358 (P : Params) : Obj := ⟨(.type "function"), none, (.func (mkFn (fdM 25 9) "ExprParser.reference" 3 .none .none .none (.str "gateloom.exprparse" 539) none (.ref 357) .none 0)), #[]⟩
noncomputable abbrev m359 (P : Params) : Obj := ⟨(.type "tuple"), none, (.seq #[] 0), #[]⟩
noncomputable abbrev m360 (P : Params) : Obj := ⟨.none, none, (.fields #[]), #[]⟩
noncomputable abbrev m361 (P : Params) : Obj := ⟨(.type "tuple"), none, (.seq #[(.str "self" 682), (.str "at" 683), (.str "parts" 684)] 0), #[]⟩
noncomputable abbrev m362 (P : Params) : Obj := ⟨(.type "tuple"), none, (.seq #[] 0), #[]⟩
noncomputable abbrev m363 (P : Params) : Obj := ⟨.none, none, (.func (mkFn (fdM 25 10) "ExprParser.path_term" 0 .none .none .none .none none .none .none 0)), #[]⟩
noncomputable abbrev m364 (P : Params) : Obj := ⟨(.type "code"), none, (.fields #[(.str "path_term" 679), (.str "ExprParser.path_term" 680), (.str "/claim/cut.py" 681), (.int 309 0), (.int 3 0), (.int 0 0), (.int 0 0), (.int 3 0), (.ref 359), (.bool true), (.int 181 0), (.ref 360), .none, (.ref 361), (.ref 362), (.ref 363), (.int 685 0), (.int 309 0), (.str "/claim/cut.py" 686)]), #[]⟩
noncomputable abbrev m365 (P : Params) : Obj := ⟨(.type "function"), none, (.func (mkFn (fdM 25 10) "ExprParser.path_term" 3 .none .none .none (.str "gateloom.exprparse" 539) none (.ref 364) .none 0)), #[]⟩
noncomputable abbrev m366 (P : Params) : Obj := ⟨(.type "tuple"), none, (.seq #[] 0), #[]⟩
noncomputable abbrev m367 (P : Params) : Obj := ⟨.none, none, (.fields #[]), #[]⟩
noncomputable abbrev m368 (P : Params) : Obj := ⟨(.type "tuple"), none, (.seq #[(.str "self" 691), (.str "base" 692)] 0), #[]⟩
noncomputable abbrev m369 (P : Params) : Obj := ⟨(.type "tuple"), none, (.seq #[] 0), #[]⟩
noncomputable abbrev m370 (P : Params) : Obj := ⟨.none, none, (.func (mkFn (fdM 25 11) "ExprParser.selects" 0 .none .none .none .none none .none .none 0)), #[]⟩
noncomputable abbrev m371 (P : Params) : Obj := ⟨(.type "code"), none, (.fields #[(.str "selects" 688), (.str "ExprParser.selects" 689), (.str "/claim/cut.py" 690), (.int 314 0), (.int 2 0), (.int 0 0), (.int 0 0), (.int 3 0), (.ref 366), (.bool true), (.int 181 0), (.ref 367), .none, (.ref 368), (.ref 369), (.ref 370), (.int 693 0), (.int 314 0), (.str "/claim/cut.py" 694)]), #[]⟩
noncomputable abbrev m372 (P : Params) : Obj := ⟨(.type "function"), none, (.func (mkFn (fdM 25 11) "ExprParser.selects" 3 .none .none .none (.str "gateloom.exprparse" 539) none (.ref 371) .none 0)), #[]⟩
noncomputable abbrev m373 (P : Params) : Obj := ⟨(.type "tuple"), none, (.seq #[] 0), #[]⟩
noncomputable abbrev m374 (P : Params) : Obj := ⟨.none, none, (.fields #[]), #[]⟩
noncomputable abbrev m375 (P : Params) : Obj := ⟨(.type "tuple"), none, (.seq #[(.str "self" 699), (.str "first" 700), (.str "second" 701), (.str "kind" 702)] 0), #[]⟩
noncomputable abbrev m376 (P : Params) : Obj := ⟨(.type "tuple"), none, (.seq #[] 0), #[]⟩
noncomputable abbrev m377 (P : Params) : Obj := ⟨.none, none, (.func (mkFn (fdM 25 12) "ExprParser.bracket" 0 .none .none .none .none none .none .none 0)), #[]⟩
noncomputable abbrev m378 (P : Params) : Obj := ⟨(.type "code"), none, (.fields #[(.str "bracket" 696), (.str "ExprParser.bracket" 697), (.str "/claim/cut.py" 698), (.int 321 0), (.int 1 0), (.int 0 0), (.int 0 0), (.int 3 0), (.ref 373), (.bool true), (.int 181 0), (.ref 374), .none, (.ref 375), (.ref 376), (.ref 377), (.int 703 0), (.int 321 0), (.str "/claim/cut.py" 704)]), #[]⟩
noncomputable abbrev m379 (P : Params) : Obj := ⟨(.type "function"), none, (.func (mkFn (fdM 25 12) "ExprParser.bracket" 3 .none .none .none (.str "gateloom.exprparse" 539) none (.ref 378) .none 0)), #[]⟩
noncomputable abbrev m380 (P : Params) : Obj := ⟨(.type "tuple"), none, (.seq #[] 0), #[]⟩
noncomputable abbrev m381 (P : Params) : Obj := ⟨.none, none, (.fields #[]), #[]⟩
noncomputable abbrev m382 (P : Params) : Obj := ⟨(.type "tuple"), none, (.seq #[(.str "self" 709), (.str "base" 710), (.str "select" 711)] 0), #[]⟩
noncomputable abbrev m383 (P : Params) : Obj := ⟨(.type "tuple"), none, (.seq #[] 0), #[]⟩
noncomputable abbrev m384 (P : Params) : Obj := ⟨.none, none, (.func (mkFn (fdM 25 13) "ExprParser.with_select" 0 .none .none .none .none none .none .none 0)), #[]⟩
noncomputable abbrev m385 (P : Params) : Obj := ⟨(.type "code"), none, (.fields #[(.str "with_select" 706), (.str "ExprParser.with_select" 707), (.str "/claim/cut.py" 708), (.int 337 0), (.int 3 0), (.int 0 0), (.int 0 0), (.int 3 0), (.ref 380), (.bool true), (.int 181 0), (.ref 381), .none, (.ref 382), (.ref 383), (.ref 384), (.int 712 0), (.int 337 0), (.str "/claim/cut.py" 713)]), #[]⟩
noncomputable abbrev m386 (P : Params) : Obj := ⟨(.type "function"), none, (.func (mkFn (fdM 25 13) "ExprParser.with_select" 3 .none .none .none (.str "gateloom.exprparse" 539) none (.ref 385) .none 0)), #[]⟩
noncomputable abbrev m387 (P : Params) : Obj := ⟨(.type "tuple"), none, (.seq #[] 0), #[]⟩
noncomputable abbrev m388 (P : Params) : Obj := ⟨.none, none, (.fields #[]), #[]⟩
noncomputable abbrev m389 (P : Params) : Obj := ⟨(.type "tuple"), none, (.seq #[(.str "self" 718)] 0), #[]⟩
noncomputable abbrev m390 (P : Params) : Obj := ⟨(.type "tuple"), none, (.seq #[] 0), #[]⟩
noncomputable abbrev m391 (P : Params) : Obj := ⟨.none, none, (.func (mkFn (fdM 25 14) "ExprParser.lvalue" 0 .none .none .none .none none .none .none 0)), #[]⟩
noncomputable abbrev m392 (P : Params) : Obj := ⟨(.type "code"), none, (.fields #[(.str "lvalue" 715), (.str "ExprParser.lvalue" 716), (.str "/claim/cut.py" 717), (.int 342 0), (.int 1 0), (.int 0 0), (.int 0 0), (.int 3 0), (.ref 387), (.bool true), (.int 181 0), (.ref 388), .none, (.ref 389), (.ref 390), (.ref 391), (.int 719 0), (.int 342 0), (.str "/claim/cut.py" 720)]), #[]⟩
noncomputable abbrev m393 (P : Params) : Obj := ⟨(.type "function"), none, (.func (mkFn (fdM 25 14) "ExprParser.lvalue" 3 .none .none .none (.str "gateloom.exprparse" 539) none (.ref 392) .none 0)), #[]⟩
noncomputable abbrev m394 (P : Params) : Obj := ⟨(.type "tuple"), none, (.seq #[] 0), #[]⟩
noncomputable abbrev m395 (P : Params) : Obj := ⟨.none, none, (.fields #[]), #[]⟩
noncomputable abbrev m396 (P : Params) : Obj := ⟨(.type "tuple"), none, (.seq #[(.str "self" 725)] 0), #[]⟩
noncomputable abbrev m397 (P : Params) : Obj := ⟨(.type "tuple"), none, (.seq #[] 0), #[]⟩
noncomputable abbrev m398 (P : Params) : Obj := ⟨.none, none, (.func (mkFn (fdM 25 15) "ExprParser.name_path" 0 .none .none .none .none none .none .none 0)), #[]⟩
noncomputable abbrev m399 (P : Params) : Obj := ⟨(.type "code"), none, (.fields #[(.str "name_path" 722), (.str "ExprParser.name_path" 723), (.str "/claim/cut.py" 724), (.int 345 0), (.int 1 0), (.int 0 0), (.int 0 0), (.int 3 0), (.ref 394), (.bool true), (.int 181 0), (.ref 395), .none, (.ref 396), (.ref 397), (.ref 398), (.int 726 0), (.int 345 0), (.str "/claim/cut.py" 727)]), #[]⟩
noncomputable abbrev m400 (P : Params) : Obj := ⟨(.type "function"), none, (.func (mkFn (fdM 25 15) "ExprParser.name_path" 3 .none .none .none (.str "gateloom.exprparse" 539) none (.ref 399) .none 0)), #[]⟩
noncomputable abbrev m401 (P : Params) : Obj := ⟨(.type "tuple"), none, (.seq #[] 0), #[]⟩
noncomputable abbrev m402 (P : Params) : Obj := ⟨.none, none, (.fields #[]), #[]⟩
noncomputable abbrev m403 (P : Params) : Obj := ⟨(.type "tuple"), none, (.seq #[(.str "self" 732)] 0), #[]⟩
noncomputable abbrev m404 (P : Params) : Obj := ⟨(.type "tuple"), none, (.seq #[] 0), #[]⟩
noncomputable abbrev m405 (P : Params) : Obj := ⟨.none, none, (.func (mkFn (fdM 25 16) "ExprParser.range_or_none" 0 .none .none .none .none none .none .none 0)), #[]⟩
noncomputable abbrev m406 (P : Params) : Obj := ⟨(.type "code"), none, (.fields #[(.str "range_or_none" 729), (.str "ExprParser.range_or_none" 730), (.str "/claim/cut.py" 731), (.int 348 0), (.int 1 0), (.int 0 0), (.int 0 0), (.int 3 0), (.ref 401), (.bool true), (.int 181 0), (.ref 402), .none, (.ref 403), (.ref 404), (.ref 405), (.int 733 0), (.int 348 0), (.str "/claim/cut.py" 734)]), #[]⟩
noncomputable abbrev m407 (P : Params) : Obj := ⟨(.type "function"), none, (.func (mkFn (fdM 25 16) "ExprParser.range_or_none" 3 .none .none .none (.str "gateloom.exprparse" 539) none (.ref 406) .none 0)), #[]⟩
noncomputable abbrev m408 (P : Params) : Obj := ⟨(.type "tuple"), none, (.seq #[] 0), #[]⟩
noncomputable abbrev m409 (P : Params) : Obj := ⟨.none, none, (.fields #[]), #[]⟩
noncomputable abbrev m410 (P : Params) : Obj := ⟨(.type "tuple"), none, (.seq #[(.str "self" 739)] 0), #[]⟩
noncomputable abbrev m411 (P : Params) : Obj := ⟨(.type "tuple"), none, (.seq #[] 0), #[]⟩
noncomputable abbrev m412 (P : Params) : Obj := ⟨.none, none, (.func (mkFn (fdM 25 17) "ExprParser.delay_value" 0 .none .none .none .none none .none .none 0)), #[]⟩
noncomputable abbrev m413 (P : Params) : Obj := ⟨(.type "code"), none, (.fields #[(.str "delay_value" 736), (.str "ExprParser.delay_value" 737), (.str "/claim/cut.py" 738), (.int 351 0), (.int 1 0), (.int 0 0), (.int 0 0), (.int 3 0), (.ref 408), (.bool true), (.int 181 0), (.ref 409), .none, (.ref 410), (.ref 411), (.ref 412), (.int 740 0), (.int 351 0), (.str "/claim/cut.py" 741)]), #[]⟩
noncomputable abbrev m414 (P : Params) : Obj := ⟨(.type "function"), none, (.func (mkFn (fdM 25 17) "ExprParser.delay_value" 3 .none .none .none (.str "gateloom.exprparse" 539) none (.ref 413) .none 0)), #[]⟩
noncomputable abbrev m415 (P : Params) : Obj := ⟨(.type "tuple"), none, (.seq #[] 0), #[]⟩
noncomputable abbrev m416 (P : Params) : Obj := ⟨.none, none, (.fields #[]), #[]⟩
noncomputable abbrev m417 (P : Params) : Obj := ⟨(.type "tuple"), none, (.seq #[(.str "self" 746)] 0), #[]⟩
noncomputable abbrev m418 (P : Params) : Obj := ⟨(.type "tuple"), none, (.seq #[] 0), #[]⟩
noncomputable abbrev m419 (P : Params) : Obj := ⟨.none, none, (.func (mkFn (fdM 25 18) "ExprParser.delay" 0 .none .none .none .none none .none .none 0)), #[]⟩
noncomputable abbrev m420 (P : Params) : Obj := ⟨(.type "code"), none, (.fields #[(.str "delay" 743), (.str "ExprParser.delay" 744), (.str "/claim/cut.py" 745), (.int 354 0), (.int 1 0), (.int 0 0), (.int 0 0), (.int 3 0), (.ref 415), (.bool true), (.int 181 0), (.ref 416), .none, (.ref 417), (.ref 418), (.ref 419), (.int 747 0), (.int 354 0), (.str "/claim/cut.py" 748)]), #[]⟩
noncomputable abbrev m421 (P : Params) : Obj := ⟨(.type "function"), none, (.func (mkFn (fdM 25 18) "ExprParser.delay" 3 .none .none .none (.str "gateloom.exprparse" 539) none (.ref 420) .none 0)), #[]⟩
noncomputable abbrev m422 (P : Params) : Obj := ⟨(.type "tuple"), none, (.seq #[] 0), #[]⟩
noncomputable abbrev m423 (P : Params) : Obj := ⟨.none, none, (.fields #[]), #[]⟩
noncomputable abbrev m424 (P : Params) : Obj := ⟨(.type "tuple"), none, (.seq #[(.str "self" 753)] 0), #[]⟩
noncomputable abbrev m425 (P : Params) : Obj := ⟨(.type "tuple"), none, (.seq #[] 0), #[]⟩
noncomputable abbrev m426 (P : Params) : Obj := ⟨.none, none, (.func (mkFn (fdM 25 19) "ExprParser.delays" 0 .none .none .none .none none .none .none 0)), #[]⟩
noncomputable abbrev m427 (P : Params) : Obj := ⟨(.type "code"), none, (.fields #[(.str "delays" 750), (.str "ExprParser.delays" 751), (.str "/claim/cut.py" 752), (.int 357 0), (.int 1 0), (.int 0 0), (.int 0 0), (.int 3 0), (.ref 422), (.bool true), (.int 181 0), (.ref 423), .none, (.ref 424), (.ref 425), (.ref 426), (.int 754 0), (.int 357 0), (.str "/claim/cut.py" 755)]), #[]⟩
noncomputable abbrev m428 (P : Params) : Obj := ⟨(.type "function"), none, (.func (mkFn (fdM 25 19) "ExprParser.delays" 3 .none .none .none (.str "gateloom.exprparse" 539) none (.ref 427) .none 0)), #[]⟩
noncomputable abbrev m429 (P : Params) : Obj := ⟨(.type "tuple"), none, (.seq #[] 0), #[]⟩
noncomputable abbrev m430 (P : Params) : Obj := ⟨(.type "dict"), none, (.dict #[en P "__module__" 569 (.str "gateloom.exprparse" 539), en P "__firstlineno__" 573 (.int 184 572), en P "expression" 585 (.ref 295), en P "binary" 598 (.ref 302), en P "unary" 609 (.ref 309), en P "primary" 624 (.ref 316), en P "named_primary" 632 (.ref 323), en P "braces" 642 (.ref 330), en P "expression_list" 650 (.ref 337), en P "arguments" 658 (.ref 344), en P "mintypmax" 667 (.ref 351), en P "reference" 678 (.ref 358), en P "path_term" 687 (.ref 365), en P "selects" 695 (.ref 372), en P "bracket" 705 (.ref 379), en P "with_select" 714 (.ref 386), en P "lvalue" 721 (.ref 393), en P "name_path" 728 (.ref 400), en P "range_or_none" 735 (.ref 407), en P "delay_value" 742 (.ref 414), en P "delay" 749 (.ref 421), en P "delays" 756 (.ref 428), en P "__static_attributes__" 757 (.ref 429), en P "__doc__" 758 .none] 2), #[]⟩
noncomputable abbrev m431 (P : Params) : Obj := ⟨(.type "type"), none, (.cls ⟨"ExprParser", [(.ref 192)], [(.ref 431), (.ref 192), (.type "object")], 430, "ExprParser", true, [], [], false, none, false⟩), #[(some (.ref 282)), none, (some (.str "ExprParser" 562)), (some (.str "ExprParser" 570)), (some (.builtin "object.__new__")), (some (.bool true))]⟩
noncomputable abbrev m432 (P : Params) : Obj := ⟨(.type "super"), none, (.fields #[(.ref 431), (.ref 431), (.ref 431)]), #[]⟩
noncomputable abbrev m433 (P : Params) : Obj := ⟨(.type "builtin_function_or_method"), none, (.fields #[(.builtin "object.__init_subclass__"), (.ref 431)]), #[]⟩
noncomputable abbrev m434 (P : Params) : Obj := ⟨(.type "tuple"), none, (.seq #[] 0), #[]⟩
noncomputable abbrev m435 (P : Params) : Obj := ⟨.none, none, (.fields #[]), #[]⟩
noncomputable abbrev m436 (P : Params) : Obj := ⟨(.type "tuple"), none, (.seq #[(.str "script" 766), (.str "figures" 767), (.str "mix" 768), (.str "cell" 769), (.str "big" 770), (.str "rest" 771), (.str "step" 772)] 0), #[]⟩
noncomputable abbrev m437 (P : Params) : Obj := ⟨(.type "tuple"), none, (.seq #[] 0), #[]⟩
noncomputable abbrev m438 (P : Params) : Obj := ⟨.none, none, (.func (mkFn (fdT 27) "_law_pool" 0 .none .none .none .none none .none .none 0)), #[]⟩
noncomputable abbrev m439 (P : Params) : Obj := ⟨(.type "code"), none, (.fields #[(.str "_law_pool" 763), (.str "_law_pool" 764), (.str "/claim/cut.py" 765), (.int 360 0), (.int 1 0), (.int 0 0), (.int 0 0), (.int 3 0), (.ref 434), (.bool true), (.int 181 0), (.ref 435), .none, (.ref 436), (.ref 437), (.ref 438), (.int 773 0), (.int 360 0), (.str "/claim/cut.py" 774)]), #[]⟩
noncomputable abbrev m440 (P : Params) : Obj := ⟨(.type "function"), none, (.func (mkFn (fdT 27) "_law_pool" 3 .none .none .none (.str "law_nn0326_01" 761) none (.ref 439) .none 0)), #[]⟩
noncomputable abbrev m441 (P : Params) : Obj := ⟨(.type "tuple"), none, (.seq #[] 0), #[]⟩
noncomputable abbrev m442 (P : Params) : Obj := ⟨.none, none, (.fields #[]), #[]⟩
noncomputable abbrev m443 (P : Params) : Obj := ⟨(.type "tuple"), none, (.seq #[(.str "pool" 779), (.str "bound" 780), (.str "figure" 781)] 0), #[]⟩
noncomputable abbrev m444 (P : Params) : Obj := ⟨(.type "tuple"), none, (.seq #[] 0), #[]⟩
noncomputable abbrev m445 (P : Params) : Obj := ⟨.none, none, (.func (mkFn (fdT 28) "_law_pick" 0 .none .none .none .none none .none .none 0)), #[]⟩
noncomputable abbrev m446 (P : Params) : Obj := ⟨(.type "code"), none, (.fields #[(.str "_law_pick" 776), (.str "_law_pick" 777), (.str "/claim/cut.py" 778), (.int 375 0), (.int 2 0), (.int 0 0), (.int 0 0), (.int 3 0), (.ref 441), (.bool true), (.int 181 0), (.ref 442), .none, (.ref 443), (.ref 444), (.ref 445), (.int 782 0), (.int 375 0), (.str "/claim/cut.py" 783)]), #[]⟩
noncomputable abbrev m447 (P : Params) : Obj := ⟨(.type "function"), none, (.func (mkFn (fdT 28) "_law_pick" 3 .none .none .none (.str "law_nn0326_01" 761) none (.ref 446) .none 0)), #[]⟩
noncomputable abbrev m448 (P : Params) : Obj := ⟨(.type "tuple"), none, (.seq #[] 0), #[]⟩
noncomputable abbrev m449 (P : Params) : Obj := ⟨.none, none, (.fields #[]), #[]⟩
noncomputable abbrev m450 (P : Params) : Obj := ⟨(.type "tuple"), none, (.seq #[(.str "world" 788), (.str "kind" 789), (.str "value" 790), (.str "at" 791)] 0), #[]⟩
noncomputable abbrev m451 (P : Params) : Obj := ⟨(.type "tuple"), none, (.seq #[] 0), #[]⟩
noncomputable abbrev m452 (P : Params) : Obj := ⟨.none, none, (.func (mkFn (fdT 29) "_law_put" 0 .none .none .none .none none .none .none 0)), #[]⟩
noncomputable abbrev m453 (P : Params) : Obj := ⟨(.type "code"), none, (.fields #[(.str "_law_put" 785), (.str "_law_put" 786), (.str "/claim/cut.py" 787), (.int 385 0), (.int 3 0), (.int 0 0), (.int 0 0), (.int 3 0), (.ref 448), (.bool true), (.int 181 0), (.ref 449), .none, (.ref 450), (.ref 451), (.ref 452), (.int 792 0), (.int 385 0), (.str "/claim/cut.py" 793)]), #[]⟩
noncomputable abbrev m454 (P : Params) : Obj := ⟨(.type "function"), none, (.func (mkFn (fdT 29) "_law_put" 3 .none .none .none (.str "law_nn0326_01" 761) none (.ref 453) .none 0)), #[]⟩
noncomputable abbrev m455 (P : Params) : Obj := ⟨(.type "tuple"), none, (.seq #[] 0), #[]⟩
noncomputable abbrev m456 (P : Params) : Obj := ⟨.none, none, (.fields #[]), #[]⟩
noncomputable abbrev m457 (P : Params) : Obj := ⟨.none, none, (.func (mkFn (fdT 30) "_law_bindings" 0 .none .none .none .none none .none .none 0)), #[]⟩
noncomputable abbrev m458 (P : Params) : Obj := ⟨(.type "code"), none, (.fields #[(.str "_law_bindings" 795), (.str "_law_bindings" 796), (.str "/claim/cut.py" 797), (.int 389 0), (.int 0 0), (.int 0 0), (.int 0 0), (.int 3 0), (.ref 455), (.bool true), (.int 181 0), (.ref 456), .none, .none, .none, (.ref 457), (.int 798 0), (.int 389 0), (.str "/claim/cut.py" 799)]), #[]⟩
noncomputable abbrev m459 (P : Params) : Obj := ⟨(.type "function"), none, (.func (mkFn (fdT 30) "_law_bindings" 3 .none .none .none (.str "law_nn0326_01" 761) none (.ref 458) .none 0)), #[]⟩
noncomputable abbrev m460 (P : Params) : Obj := ⟨(.type "tuple"), none, (.seq #[] 0), #[]⟩
noncomputable abbrev m461 (P : Params) : Obj := ⟨.none, none, (.fields #[]), #[]⟩
noncomputable abbrev m462 (P : Params) : Obj := ⟨.none, none, (.func (mkFn (fdT 31) "_law_reading" 0 .none .none .none .none none .none .none 0)), #[]⟩
noncomputable abbrev m463 (P : Params) : Obj := ⟨(.type "code"), none, (.fields #[(.str "_law_reading" 801), (.str "_law_reading" 802), (.str "/claim/cut.py" 803), (.int 392 0), (.int 1 0), (.int 0 0), (.int 0 0), (.int 3 0), (.ref 460), (.bool true), (.int 181 0), (.ref 461), .none, .none, .none, (.ref 462), (.int 804 0), (.int 392 0), (.str "/claim/cut.py" 805)]), #[]⟩
noncomputable abbrev m464 (P : Params) : Obj := ⟨(.type "function"), none, (.func (mkFn (fdT 31) "_law_reading" 3 .none .none .none (.str "law_nn0326_01" 761) none (.ref 463) .none 0)), #[]⟩
noncomputable abbrev m465 (P : Params) : Obj := ⟨(.type "tuple"), none, (.seq #[] 0), #[]⟩
noncomputable abbrev m466 (P : Params) : Obj := ⟨.none, none, (.fields #[]), #[]⟩
noncomputable abbrev m467 (P : Params) : Obj := ⟨(.type "tuple"), none, (.seq #[(.str "pool" 810), (.str "world" 811), (.str "depth" 812)] 0), #[]⟩
noncomputable abbrev m468 (P : Params) : Obj := ⟨(.type "tuple"), none, (.seq #[] 0), #[]⟩
noncomputable abbrev m469 (P : Params) : Obj := ⟨.none, none, (.func (mkFn (fdT 32) "_law_expression" 0 .none .none .none .none none .none .none 0)), #[]⟩
noncomputable abbrev m470 (P : Params) : Obj := ⟨(.type "code"), none, (.fields #[(.str "_law_expression" 807), (.str "_law_expression" 808), (.str "/claim/cut.py" 809), (.int 412 0), (.int 3 0), (.int 0 0), (.int 0 0), (.int 3 0), (.ref 465), (.bool true), (.int 181 0), (.ref 466), .none, (.ref 467), (.ref 468), (.ref 469), (.int 813 0), (.int 412 0), (.str "/claim/cut.py" 814)]), #[]⟩
noncomputable abbrev m471 (P : Params) : Obj := ⟨(.type "function"), none, (.func (mkFn (fdT 32) "_law_expression" 3 .none .none .none (.str "law_nn0326_01" 761) none (.ref 470) .none 0)), #[]⟩
noncomputable abbrev m472 (P : Params) : Obj := ⟨(.type "tuple"), none, (.seq #[] 0), #[]⟩
noncomputable abbrev m473 (P : Params) : Obj := ⟨.none, none, (.fields #[]), #[]⟩
noncomputable abbrev m474 (P : Params) : Obj := ⟨(.type "tuple"), none, (.seq #[(.str "pool" 819), (.str "world" 820), (.str "depth" 821), (.str "count" 822), (.str "parts" 823), (.str "joins" 824), (.str "row" 825), (.str "step" 826), (.str "op" 827)] 0), #[]⟩
noncomputable abbrev m475 (P : Params) : Obj := ⟨(.type "tuple"), none, (.seq #[] 0), #[]⟩
noncomputable abbrev m476 (P : Params) : Obj := ⟨.none, none, (.func (mkFn (fdT 33) "_law_row" 0 .none .none .none .none none .none .none 0)), #[]⟩
noncomputable abbrev m477 (P : Params) : Obj := ⟨(.type "code"), none, (.fields #[(.str "_law_row" 816), (.str "_law_row" 817), (.str "/claim/cut.py" 818), (.int 414 0), (.int 3 0), (.int 0 0), (.int 0 0), (.int 3 0), (.ref 472), (.bool true), (.int 181 0), (.ref 473), .none, (.ref 474), (.ref 475), (.ref 476), (.int 828 0), (.int 414 0), (.str "/claim/cut.py" 829)]), #[]⟩
noncomputable abbrev m478 (P : Params) : Obj := ⟨(.type "function"), none, (.func (mkFn (fdT 33) "_law_row" 3 .none .none .none (.str "law_nn0326_01" 761) none (.ref 477) .none 0)), #[]⟩
noncomputable abbrev m479 (P : Params) : Obj := ⟨(.type "tuple"), none, (.seq #[] 0), #[]⟩
noncomputable abbrev m480 (P : Params) : Obj := ⟨.none, none, (.fields #[]), #[]⟩
noncomputable abbrev m481 (P : Params) : Obj := ⟨(.type "tuple"), none, (.seq #[(.str "pool" 834), (.str "world" 835), (.str "depth" 836), (.str "parts" 837), (.str "signs" 838), (.str "step" 839), (.str "op" 840), (.str "kind" 841), (.str "value" 842), (.str "at" 843)] 0), #[]⟩
noncomputable abbrev m482 (P : Params) : Obj := ⟨(.type "tuple"), none, (.seq #[] 0), #[]⟩
noncomputable abbrev m483 (P : Params) : Obj := ⟨.none, none, (.func (mkFn (fdT 34) "_law_operand" 0 .none .none .none .none none .none .none 0)), #[]⟩
noncomputable abbrev m484 (P : Params) : Obj := ⟨(.type "code"), none, (.fields #[(.str "_law_operand" 831), (.str "_law_operand" 832), (.str "/claim/cut.py" 833), (.int 430 0), (.int 3 0), (.int 0 0), (.int 0 0), (.int 3 0), (.ref 479), (.bool true), (.int 181 0), (.ref 480), .none, (.ref 481), (.ref 482), (.ref 483), (.int 844 0), (.int 430 0), (.str "/claim/cut.py" 845)]), #[]⟩
noncomputable abbrev m485 (P : Params) : Obj := ⟨(.type "function"), none, (.func (mkFn (fdT 34) "_law_operand" 3 .none .none .none (.str "law_nn0326_01" 761) none (.ref 484) .none 0)), #[]⟩
noncomputable abbrev m486 (P : Params) : Obj := ⟨(.type "tuple"), none, (.seq #[] 0), #[]⟩
noncomputable abbrev m487 (P : Params) : Obj := ⟨.none, none, (.fields #[]), #[]⟩
noncomputable abbrev m488 (P : Params) : Obj := ⟨(.type "tuple"), none, (.seq #[(.str "pool" 850), (.str "world" 851), (.str "depth" 852), (.str "count" 853), (.str "items" 854), (.str "step" 855)] 0), #[]⟩
noncomputable abbrev m489 (P : Params) : Obj := ⟨(.type "tuple"), none, (.seq #[] 0), #[]⟩
noncomputable abbrev m490 (P : Params) : Obj := ⟨.none, none, (.func (mkFn (fdT 35) "_law_list" 0 .none .none .none .none none .none .none 0)), #[]⟩
noncomputable abbrev m491 (P : Params) : Obj := ⟨(.type "code"), none, (.fields #[(.str "_law_list" 847), (.str "_law_list" 848), (.str "/claim/cut.py" 849), (.int 444 0), (.int 4 0), (.int 0 0), (.int 0 0), (.int 3 0), (.ref 486), (.bool true), (.int 181 0), (.ref 487), .none, (.ref 488), (.ref 489), (.ref 490), (.int 856 0), (.int 444 0), (.str "/claim/cut.py" 857)]), #[]⟩
noncomputable abbrev m492 (P : Params) : Obj := ⟨(.type "function"), none, (.func (mkFn (fdT 35) "_law_list" 3 .none .none .none (.str "law_nn0326_01" 761) none (.ref 491) .none 0)), #[]⟩
noncomputable abbrev m493 (P : Params) : Obj := ⟨(.type "tuple"), none, (.seq #[] 0), #[]⟩
noncomputable abbrev m494 (P : Params) : Obj := ⟨.none, none, (.fields #[]), #[]⟩
noncomputable abbrev m495 (P : Params) : Obj := ⟨(.type "tuple"), none, (.seq #[(.str "pool" 862), (.str "world" 863), (.str "depth" 864), (.str "at" 865), (.str "name" 866), (.str "path" 867), (.str "turns" 868), (.str "step" 869), (.str "inner" 870), (.str "tree" 871), (.str "first" 872), (.str "kind" 873), (.str "second" 874)] 0), #[]⟩
noncomputable abbrev m496 (P : Params) : Obj := ⟨(.type "tuple"), none, (.seq #[] 0), #[]⟩
noncomputable abbrev m497 (P : Params) : Obj := ⟨.none, none, (.func (mkFn (fdT 36) "_law_selected" 0 .none .none .none .none none .none .none 0)), #[]⟩
noncomputable abbrev m498 (P : Params) : Obj := ⟨(.type "code"), none, (.fields #[(.str "_law_selected" 859), (.str "_law_selected" 860), (.str "/claim/cut.py" 861), (.int 451 0), (.int 3 0), (.int 0 0), (.int 0 0), (.int 3 0), (.ref 493), (.bool true), (.int 181 0), (.ref 494), .none, (.ref 495), (.ref 496), (.ref 497), (.int 875 0), (.int 451 0), (.str "/claim/cut.py" 876)]), #[]⟩
noncomputable abbrev m499 (P : Params) : Obj := ⟨(.type "function"), none, (.func (mkFn (fdT 36) "_law_selected" 3 .none .none .none (.str "law_nn0326_01" 761) none (.ref 498) .none 0)), #[]⟩
noncomputable abbrev m500 (P : Params) : Obj := ⟨(.type "tuple"), none, (.seq #[] 0), #[]⟩
noncomputable abbrev m501 (P : Params) : Obj := ⟨.none, none, (.fields #[]), #[]⟩
noncomputable abbrev m502 (P : Params) : Obj := ⟨(.type "tuple"), none, (.seq #[(.str "pool" 881), (.str "world" 882), (.str "depth" 883), (.str "kind" 884), (.str "name" 885), (.str "big" 886), (.str "tree" 887), (.str "at" 888), (.str "items" 889), (.str "times" 890)] 0), #[]⟩
noncomputable abbrev m503 (P : Params) : Obj := ⟨(.type "tuple"), none, (.seq #[] 0), #[]⟩
noncomputable abbrev m504 (P : Params) : Obj := ⟨.none, none, (.func (mkFn (fdT 37) "_law_term" 0 .none .none .none .none none .none .none 0)), #[]⟩
noncomputable abbrev m505 (P : Params) : Obj := ⟨(.type "code"), none, (.fields #[(.str "_law_term" 878), (.str "_law_term" 879), (.str "/claim/cut.py" 880), (.int 479 0), (.int 3 0), (.int 0 0), (.int 0 0), (.int 3 0), (.ref 500), (.bool true), (.int 181 0), (.ref 501), .none, (.ref 502), (.ref 503), (.ref 504), (.int 891 0), (.int 479 0), (.str "/claim/cut.py" 892)]), #[]⟩
noncomputable abbrev m506 (P : Params) : Obj := ⟨(.type "function"), none, (.func (mkFn (fdT 37) "_law_term" 3 .none .none .none (.str "law_nn0326_01" 761) none (.ref 505) .none 0)), #[]⟩
noncomputable abbrev m507 (P : Params) : Obj := ⟨(.type "tuple"), none, (.seq #[] 0), #[]⟩
noncomputable abbrev m508 (P : Params) : Obj := ⟨.none, none, (.fields #[]), #[]⟩
noncomputable abbrev m509 (P : Params) : Obj := ⟨.none, none, (.func (mkFn (fdT 38) "law" 0 .none .none .none .none none .none .none 0)), #[]⟩
noncomputable abbrev m510 (P : Params) : Obj := ⟨(.type "code"), none, (.fields #[(.str "law" 894), (.str "law" 895), (.str "/claim/cut.py" 896), (.int 523 0), (.int 1 0), (.int 0 0), (.int 0 0), (.int 3 0), (.ref 507), (.bool true), (.int 181 0), (.ref 508), .none, .none, .none, (.ref 509), (.int 897 0), (.int 523 0), (.str "/claim/cut.py" 898)]), #[]⟩
noncomputable abbrev m511 (P : Params) : Obj := ⟨(.type "function"), none, (.func (mkFn (fdT 38) "law" 3 .none .none .none (.str "law_nn0326_01" 761) none (.ref 510) .none 0)), #[]⟩
noncomputable def KF : Params → Frag := fun P => (nat_lit 2, m2 P) :: (nat_lit 3, m3 P) :: (nat_lit 15, m15 P) :: (nat_lit 17, m17 P) :: (nat_lit 18, m18 P) :: (nat_lit 20, m20 P) :: (nat_lit 21, m21 P) :: (nat_lit 22, m22 P) :: (nat_lit 29, m29 P) :: (nat_lit 30, m30 P) :: (nat_lit 32, m32 P) :: (nat_lit 33, m33 P) :: (nat_lit 35, m35 P) :: (nat_lit 36, m36 P) :: (nat_lit 37, m37 P) :: (nat_lit 38, m38 P) :: (nat_lit 39, m39 P) :: (nat_lit 40, m40 P) :: (nat_lit 43, m43 P) :: (nat_lit 50, m50 P) :: (nat_lit 51, m51 P) :: (nat_lit 52, m52 P) :: (nat_lit 62, m62 P) :: (nat_lit 64, m64 P) :: (nat_lit 65, m65 P) :: (nat_lit 67, m67 P) :: (nat_lit 68, m68 P) :: (nat_lit 69, m69 P) :: (nat_lit 70, m70 P) :: (nat_lit 71, m71 P) :: (nat_lit 72, m72 P) :: (nat_lit 73, m73 P) :: (nat_lit 83, m83 P) :: (nat_lit 85, m85 P) :: (nat_lit 86, m86 P) :: (nat_lit 88, m88 P) :: (nat_lit 89, m89 P) :: (nat_lit 90, m90 P) :: (nat_lit 92, m92 P) :: (nat_lit 93, m93 P) :: (nat_lit 95, m95 P) :: (nat_lit 96, m96 P) :: (nat_lit 97, m97 P) :: (nat_lit 98, m98 P) :: (nat_lit 99, m99 P) :: (nat_lit 100, m100 P) :: (nat_lit 101, m101 P) :: (nat_lit 111, m111 P) :: (nat_lit 113, m113 P) :: (nat_lit 114, m114 P) :: (nat_lit 116, m116 P) :: (nat_lit 117, m117 P) :: (nat_lit 118, m118 P) :: (nat_lit 119, m119 P) :: (nat_lit 121, m121 P) :: (nat_lit 122, m122 P) :: (nat_lit 124, m124 P) :: (nat_lit 125, m125 P) :: (nat_lit 126, m126 P) :: (nat_lit 128, m128 P) :: (nat_lit 129, m129 P) :: (nat_lit 131, m131 P) :: (nat_lit 132, m132 P) :: (nat_lit 133, m133 P) :: (nat_lit 135, m135 P) :: (nat_lit 136, m136 P) :: (nat_lit 138, m138 P) :: (nat_lit 139, m139 P) :: (nat_lit 140, m140 P) :: (nat_lit 142, m142 P) :: (nat_lit 143, m143 P) :: (nat_lit 145, m145 P) :: (nat_lit 146, m146 P) :: (nat_lit 147, m147 P) :: (nat_lit 149, m149 P) :: (nat_lit 150, m150 P) :: (nat_lit 152, m152 P) :: (nat_lit 153, m153 P) :: (nat_lit 154, m154 P) :: (nat_lit 156, m156 P) :: (nat_lit 157, m157 P) :: (nat_lit 159, m159 P) :: (nat_lit 160, m160 P) :: (nat_lit 161, m161 P) :: (nat_lit 163, m163 P) :: (nat_lit 164, m164 P) :: (nat_lit 166, m166 P) :: (nat_lit 167, m167 P) :: (nat_lit 168, m168 P) :: (nat_lit 170, m170 P) :: (nat_lit 171, m171 P) :: (nat_lit 173, m173 P) :: (nat_lit 174, m174 P) :: (nat_lit 175, m175 P) :: (nat_lit 177, m177 P) :: (nat_lit 178, m178 P) :: (nat_lit 180, m180 P) :: (nat_lit 181, m181 P) :: (nat_lit 182, m182 P) :: (nat_lit 183, m183 P) :: (nat_lit 185, m185 P) :: (nat_lit 186, m186 P) :: (nat_lit 188, m188 P) :: (nat_lit 189, m189 P) :: (nat_lit 190, m190 P) :: (nat_lit 191, m191 P) :: (nat_lit 192, m192 P) :: (nat_lit 193, m193 P) :: (nat_lit 194, m194 P) :: (nat_lit 197, m197 P) :: (nat_lit 199, m199 P) :: (nat_lit 200, m200 P) :: (nat_lit 202, m202 P) :: (nat_lit 203, m203 P) :: (nat_lit 204, m204 P) :: (nat_lit 205, m205 P) :: (nat_lit 207, m207 P) :: (nat_lit 208, m208 P) :: (nat_lit 210, m210 P) :: (nat_lit 211, m211 P) :: (nat_lit 212, m212 P) :: (nat_lit 214, m214 P) :: (nat_lit 215, m215 P) :: (nat_lit 217, m217 P) :: (nat_lit 218, m218 P) :: (nat_lit 219, m219 P) :: (nat_lit 221, m221 P) :: (nat_lit 222, m222 P) :: (nat_lit 224, m224 P) :: (nat_lit 225, m225 P) :: (nat_lit 226, m226 P) :: (nat_lit 228, m228 P) :: (nat_lit 229, m229 P) :: (nat_lit 231, m231 P) :: (nat_lit 232, m232 P) :: (nat_lit 233, m233 P) :: (nat_lit 235, m235 P) :: (nat_lit 236, m236 P) :: (nat_lit 238, m238 P) :: (nat_lit 239, m239 P) :: (nat_lit 240, m240 P) :: (nat_lit 242, m242 P) :: (nat_lit 243, m243 P) :: (nat_lit 245, m245 P) :: (nat_lit 246, m246 P) :: (nat_lit 247, m247 P) :: (nat_lit 249, m249 P) :: (nat_lit 250, m250 P) :: (nat_lit 252, m252 P) :: (nat_lit 253, m253 P) :: (nat_lit 254, m254 P) :: (nat_lit 256, m256 P) :: (nat_lit 257, m257 P) :: (nat_lit 259, m259 P) :: (nat_lit 260, m260 P) :: (nat_lit 261, m261 P) :: (nat_lit 263, m263 P) :: (nat_lit 264, m264 P) :: (nat_lit 266, m266 P) :: (nat_lit 267, m267 P) :: (nat_lit 268, m268 P) :: (nat_lit 270, m270 P) :: (nat_lit 271, m271 P) :: (nat_lit 273, m273 P) :: (nat_lit 274, m274 P) :: (nat_lit 275, m275 P) :: (nat_lit 277, m277 P) :: (nat_lit 278, m278 P) :: (nat_lit 280, m280 P) :: (nat_lit 281, m281 P) :: (nat_lit 282, m282 P) :: (nat_lit 289, m289 P) :: (nat_lit 291, m291 P) :: (nat_lit 292, m292 P) :: (nat_lit 294, m294 P) :: (nat_lit 295, m295 P) :: (nat_lit 296, m296 P) :: (nat_lit 298, m298 P) :: (nat_lit 299, m299 P) :: (nat_lit 301, m301 P) :: (nat_lit 302, m302 P) :: (nat_lit 303, m303 P) :: (nat_lit 305, m305 P) :: (nat_lit 306, m306 P) :: (nat_lit 308, m308 P) :: (nat_lit 309, m309 P) :: (nat_lit 310, m310 P) :: (nat_lit 312, m312 P) :: (nat_lit 313, m313 P) :: (nat_lit 315, m315 P) :: (nat_lit 316, m316 P) :: (nat_lit 317, m317 P) :: (nat_lit 319, m319 P) :: (nat_lit 320, m320 P) :: (nat_lit 322, m322 P) :: (nat_lit 323, m323 P) :: (nat_lit 324, m324 P) :: (nat_lit 326, m326 P) :: (nat_lit 327, m327 P) :: (nat_lit 329, m329 P) :: (nat_lit 330, m330 P) :: (nat_lit 331, m331 P) :: (nat_lit 333, m333 P) :: (nat_lit 334, m334 P) :: (nat_lit 336, m336 P) :: (nat_lit 337, m337 P) :: (nat_lit 338, m338 P) :: (nat_lit 340, m340 P) :: (nat_lit 341, m341 P) :: (nat_lit 343, m343 P) :: (nat_lit 344, m344 P) :: (nat_lit 345, m345 P) :: (nat_lit 347, m347 P) :: (nat_lit 348, m348 P) :: (nat_lit 350, m350 P) :: (nat_lit 351, m351 P) :: (nat_lit 352, m352 P) :: (nat_lit 354, m354 P) :: (nat_lit 355, m355 P) :: (nat_lit 357, m357 P) :: (nat_lit 358, m358 P) :: (nat_lit 359, m359 P) :: (nat_lit 361, m361 P) :: (nat_lit 362, m362 P) :: (nat_lit 364, m364 P) :: (nat_lit 365, m365 P) :: (nat_lit 366, m366 P) :: (nat_lit 368, m368 P) :: (nat_lit 369, m369 P) :: (nat_lit 371, m371 P) :: (nat_lit 372, m372 P) :: (nat_lit 373, m373 P) :: (nat_lit 375, m375 P) :: (nat_lit 376, m376 P) :: (nat_lit 378, m378 P) :: (nat_lit 379, m379 P) :: (nat_lit 380, m380 P) :: (nat_lit 382, m382 P) :: (nat_lit 383, m383 P) :: (nat_lit 385, m385 P) :: (nat_lit 386, m386 P) :: (nat_lit 387, m387 P) :: (nat_lit 389, m389 P) :: (nat_lit 390, m390 P) :: (nat_lit 392, m392 P) :: (nat_lit 393, m393 P) :: (nat_lit 394, m394 P) :: (nat_lit 396, m396 P) :: (nat_lit 397, m397 P) :: (nat_lit 399, m399 P) :: (nat_lit 400, m400 P) :: (nat_lit 401, m401 P) :: (nat_lit 403, m403 P) :: (nat_lit 404, m404 P) :: (nat_lit 406, m406 P) :: (nat_lit 407, m407 P) :: (nat_lit 408, m408 P) :: (nat_lit 410, m410 P) :: (nat_lit 411, m411 P) :: (nat_lit 413, m413 P) :: (nat_lit 414, m414 P) :: (nat_lit 415, m415 P) :: (nat_lit 417, m417 P) :: (nat_lit 418, m418 P) :: (nat_lit 420, m420 P) :: (nat_lit 421, m421 P) :: (nat_lit 422, m422 P) :: (nat_lit 424, m424 P) :: (nat_lit 425, m425 P) :: (nat_lit 427, m427 P) :: (nat_lit 428, m428 P) :: (nat_lit 429, m429 P) :: (nat_lit 430, m430 P) :: (nat_lit 431, m431 P) :: (nat_lit 434, m434 P) :: (nat_lit 436, m436 P) :: (nat_lit 437, m437 P) :: (nat_lit 439, m439 P) :: (nat_lit 440, m440 P) :: (nat_lit 441, m441 P) :: (nat_lit 443, m443 P) :: (nat_lit 444, m444 P) :: (nat_lit 446, m446 P) :: (nat_lit 447, m447 P) :: (nat_lit 448, m448 P) :: (nat_lit 450, m450 P) :: (nat_lit 451, m451 P) :: (nat_lit 453, m453 P) :: (nat_lit 454, m454 P) :: (nat_lit 455, m455 P) :: (nat_lit 458, m458 P) :: (nat_lit 459, m459 P) :: (nat_lit 460, m460 P) :: (nat_lit 463, m463 P) :: (nat_lit 464, m464 P) :: (nat_lit 465, m465 P) :: (nat_lit 467, m467 P) :: (nat_lit 468, m468 P) :: (nat_lit 470, m470 P) :: (nat_lit 471, m471 P) :: (nat_lit 472, m472 P) :: (nat_lit 474, m474 P) :: (nat_lit 475, m475 P) :: (nat_lit 477, m477 P) :: (nat_lit 478, m478 P) :: (nat_lit 479, m479 P) :: (nat_lit 481, m481 P) :: (nat_lit 482, m482 P) :: (nat_lit 484, m484 P) :: (nat_lit 485, m485 P) :: (nat_lit 486, m486 P) :: (nat_lit 488, m488 P) :: (nat_lit 489, m489 P) :: (nat_lit 491, m491 P) :: (nat_lit 492, m492 P) :: (nat_lit 493, m493 P) :: (nat_lit 495, m495 P) :: (nat_lit 496, m496 P) :: (nat_lit 498, m498 P) :: (nat_lit 499, m499 P) :: (nat_lit 500, m500 P) :: (nat_lit 502, m502 P) :: (nat_lit 503, m503 P) :: (nat_lit 505, m505 P) :: (nat_lit 506, m506 P) :: (nat_lit 507, m507 P) :: (nat_lit 510, m510 P) :: (nat_lit 511, m511 P) :: []
noncomputable def KAS : List Addr := 2 :: 3 :: 15 :: 17 :: 18 :: 20 :: 21 :: 22 :: 29 :: 30 :: 32 :: 33 :: 35 :: 36 :: 37 :: 38 :: 39 :: 40 :: 43 :: 50 :: 51 :: 52 :: 62 :: 64 :: 65 :: 67 :: 68 :: 69 :: 70 :: 71 :: 72 :: 73 :: 83 :: 85 :: 86 :: 88 :: 89 :: 90 :: 92 :: 93 :: 95 :: 96 :: 97 :: 98 :: 99 :: 100 :: 101 :: 111 :: 113 :: 114 :: 116 :: 117 :: 118 :: 119 :: 121 :: 122 :: 124 :: 125 :: 126 :: 128 :: 129 :: 131 :: 132 :: 133 :: 135 :: 136 :: 138 :: 139 :: 140 :: 142 :: 143 :: 145 :: 146 :: 147 :: 149 :: 150 :: 152 :: 153 :: 154 :: 156 :: 157 :: 159 :: 160 :: 161 :: 163 :: 164 :: 166 :: 167 :: 168 :: 170 :: 171 :: 173 :: 174 :: 175 :: 177 :: 178 :: 180 :: 181 :: 182 :: 183 :: 185 :: 186 :: 188 :: 189 :: 190 :: 191 :: 192 :: 193 :: 194 :: 197 :: 199 :: 200 :: 202 :: 203 :: 204 :: 205 :: 207 :: 208 :: 210 :: 211 :: 212 :: 214 :: 215 :: 217 :: 218 :: 219 :: 221 :: 222 :: 224 :: 225 :: 226 :: 228 :: 229 :: 231 :: 232 :: 233 :: 235 :: 236 :: 238 :: 239 :: 240 :: 242 :: 243 :: 245 :: 246 :: 247 :: 249 :: 250 :: 252 :: 253 :: 254 :: 256 :: 257 :: 259 :: 260 :: 261 :: 263 :: 264 :: 266 :: 267 :: 268 :: 270 :: 271 :: 273 :: 274 :: 275 :: 277 :: 278 :: 280 :: 281 :: 282 :: 289 :: 291 :: 292 :: 294 :: 295 :: 296 :: 298 :: 299 :: 301 :: 302 :: 303 :: 305 :: 306 :: 308 :: 309 :: 310 :: 312 :: 313 :: 315 :: 316 :: 317 :: 319 :: 320 :: 322 :: 323 :: 324 :: 326 :: 327 :: 329 :: 330 :: 331 :: 333 :: 334 :: 336 :: 337 :: 338 :: 340 :: 341 :: 343 :: 344 :: 345 :: 347 :: 348 :: 350 :: 351 :: 352 :: 354 :: 355 :: 357 :: 358 :: 359 :: 361 :: 362 :: 364 :: 365 :: 366 :: 368 :: 369 :: 371 :: 372 :: 373 :: 375 :: 376 :: 378 :: 379 :: 380 :: 382 :: 383 :: 385 :: 386 :: 387 :: 389 :: 390 :: 392 :: 393 :: 394 :: 396 :: 397 :: 399 :: 400 :: 401 :: 403 :: 404 :: 406 :: 407 :: 408 :: 410 :: 411 :: 413 :: 414 :: 415 :: 417 :: 418 :: 420 :: 421 :: 422 :: 424 :: 425 :: 427 :: 428 :: 429 :: 430 :: 431 :: 434 :: 436 :: 437 :: 439 :: 440 :: 441 :: 443 :: 444 :: 446 :: 447 :: 448 :: 450 :: 451 :: 453 :: 454 :: 455 :: 458 :: 459 :: 460 :: 463 :: 464 :: 465 :: 467 :: 468 :: 470 :: 471 :: 472 :: 474 :: 475 :: 477 :: 478 :: 479 :: 481 :: 482 :: 484 :: 485 :: 486 :: 488 :: 489 :: 491 :: 492 :: 493 :: 495 :: 496 :: 498 :: 499 :: 500 :: 502 :: 503 :: 505 :: 506 :: 507 :: 510 :: 511 :: []
theorem kas : ∀ P, KAS = (KF P).map (·.1) := fun P => by kernel_rfl
noncomputable def VW : Program := { PW with main := { PW.main with body := [fdT 0, fdT 2, fdT 3, fdT 5, fdT 6, fdT 7, fdT 9, fdT 12, fdT 13, fdT 14, fdT 15, fdT 16, fdT 17, fdT 18, fdT 19, fdT 20, fdT 22, fdT 23, fdT 24, fdT 25, fdT 27, fdT 28, fdT 29, fdT 30, fdT 31, fdT 32, fdT 33, fdT 34, fdT 35, fdT 36, fdT 37, fdT 38] } }
noncomputable abbrev EVV : Env := { scope := PW.main.scope, locals := mainNs, globals := mainNs, cells := [], code := .ref 13, frame := some 14 }
noncomputable abbrev BDY : List Stmt := behindTheImports PW
noncomputable abbrev CE : Code := .body BDY EVV
noncomputable abbrev p0 : Pos := ⟨0, 0, 0, 0⟩
noncomputable abbrev p1 : Pos := ⟨523, 0, 534, 111⟩
noncomputable abbrev BF : List Frame := [topFrame p0]
noncomputable def hA : Params → Heap := fun P => ⟨⟨boot_o_0 P :: boot_o_1 P :: boot_o_2 P :: boot_o_3 P :: boot_o_4 P :: boot_o_5 P :: boot_o_6 P :: boot_o_7 P :: boot_o_8 P :: boot_o_9 P :: boot_o_10 P :: a11 P :: a12 P :: a13 P :: a14 P :: []⟩, {}⟩
noncomputable def tB : Params → BT := fun P => (.node (boot_o_0 P) (.node (boot_o_1 P) (.node (boot_o_3 P) (.node (boot_o_7 P) .nil .nil) (.node (a11 P) .nil .nil)) (.node (boot_o_5 P) (.node (boot_o_9 P) .nil .nil) (.node (a13 P) .nil .nil))) (.node (boot_o_2 P) (.node (boot_o_4 P) (.node (boot_o_8 P) .nil .nil) (.node (a12 P) .nil .nil)) (.node (boot_o_6 P) (.node (boot_o_10 P) .nil .nil) (.node (a14 P) .nil .nil))))
noncomputable def tM : Params → BT := fun P => (.node (boot_o_0 P) (.node (boot_o_1 P) (.node (m3 P) (.node (boot_o_7 P) (.node (m15 P) (.node (m31 P) (.node (m63 P) (.node (m127 P) (.node (m255 P) (.node (m511 P) .nil .nil) .nil) (.node (m383 P) .nil .nil)) (.node (m191 P) (.node (m319 P) .nil .nil) (.node (m447 P) .nil .nil))) (.node (m95 P) (.node (m159 P) (.node (m287 P) .nil .nil) (.node (m415 P) .nil .nil)) (.node (m223 P) (.node (m351 P) .nil .nil) (.node (m479 P) .nil .nil)))) (.node (m47 P) (.node (m79 P) (.node (m143 P) (.node (m271 P) .nil .nil) (.node (m399 P) .nil .nil)) (.node (m207 P) (.node (m335 P) .nil .nil) (.node (m463 P) .nil .nil))) (.node (m111 P) (.node (m175 P) (.node (m303 P) .nil .nil) (.node (m431 P) .nil .nil)) (.node (m239 P) (.node (m367 P) .nil .nil) (.node (m495 P) .nil .nil))))) (.node (m23 P) (.node (m39 P) (.node (m71 P) (.node (m135 P) (.node (m263 P) .nil .nil) (.node (m391 P) .nil .nil)) (.node (m199 P) (.node (m327 P) .nil .nil) (.node (m455 P) .nil .nil))) (.node (m103 P) (.node (m167 P) (.node (m295 P) .nil .nil) (.node (m423 P) .nil .nil)) (.node (m231 P) (.node (m359 P) .nil .nil) (.node (m487 P) .nil .nil)))) (.node (m55 P) (.node (m87 P) (.node (m151 P) (.node (m279 P) .nil .nil) (.node (m407 P) .nil .nil)) (.node (m215 P) (.node (m343 P) .nil .nil) (.node (m471 P) .nil .nil))) (.node (m119 P) (.node (m183 P) (.node (m311 P) .nil .nil) (.node (m439 P) .nil .nil)) (.node (m247 P) (.node (m375 P) .nil .nil) (.node (m503 P) .nil .nil)))))) (.node (a11 P) (.node (m19 P) (.node (m35 P) (.node (m67 P) (.node (m131 P) (.node (m259 P) .nil .nil) (.node (m387 P) .nil .nil)) (.node (m195 P) (.node (m323 P) .nil .nil) (.node (m451 P) .nil .nil))) (.node (m99 P) (.node (m163 P) (.node (m291 P) .nil .nil) (.node (m419 P) .nil .nil)) (.node (m227 P) (.node (m355 P) .nil .nil) (.node (m483 P) .nil .nil)))) (.node (m51 P) (.node (m83 P) (.node (m147 P) (.node (m275 P) .nil .nil) (.node (m403 P) .nil .nil)) (.node (m211 P) (.node (m339 P) .nil .nil) (.node (m467 P) .nil .nil))) (.node (m115 P) (.node (m179 P) (.node (m307 P) .nil .nil) (.node (m435 P) .nil .nil)) (.node (m243 P) (.node (m371 P) .nil .nil) (.node (m499 P) .nil .nil))))) (.node (m27 P) (.node (m43 P) (.node (m75 P) (.node (m139 P) (.node (m267 P) .nil .nil) (.node (m395 P) .nil .nil)) (.node (m203 P) (.node (m331 P) .nil .nil) (.node (m459 P) .nil .nil))) (.node (m107 P) (.node (m171 P) (.node (m299 P) .nil .nil) (.node (m427 P) .nil .nil)) (.node (m235 P) (.node (m363 P) .nil .nil) (.node (m491 P) .nil .nil)))) (.node (m59 P) (.node (m91 P) (.node (m155 P) (.node (m283 P) .nil .nil) (.node (m411 P) .nil .nil)) (.node (m219 P) (.node (m347 P) .nil .nil) (.node (m475 P) .nil .nil))) (.node (m123 P) (.node (m187 P) (.node (m315 P) .nil .nil) (.node (m443 P) .nil .nil)) (.node (m251 P) (.node (m379 P) .nil .nil) (.node (m507 P) .nil .nil))))))) (.node (boot_o_5 P) (.node (boot_o_9 P) (.node (m17 P) (.node (m33 P) (.node (m65 P) (.node (m129 P) (.node (m257 P) .nil .nil) (.node (m385 P) .nil .nil)) (.node (m193 P) (.node (m321 P) .nil .nil) (.node (m449 P) .nil .nil))) (.node (m97 P) (.node (m161 P) (.node (m289 P) .nil .nil) (.node (m417 P) .nil .nil)) (.node (m225 P) (.node (m353 P) .nil .nil) (.node (m481 P) .nil .nil)))) (.node (m49 P) (.node (m81 P) (.node (m145 P) (.node (m273 P) .nil .nil) (.node (m401 P) .nil .nil)) (.node (m209 P) (.node (m337 P) .nil .nil) (.node (m465 P) .nil .nil))) (.node (m113 P) (.node (m177 P) (.node (m305 P) .nil .nil) (.node (m433 P) .nil .nil)) (.node (m241 P) (.node (m369 P) .nil .nil) (.node (m497 P) .nil .nil))))) (.node (m25 P) (.node (m41 P) (.node (m73 P) (.node (m137 P) (.node (m265 P) .nil .nil) (.node (m393 P) .nil .nil)) (.node (m201 P) (.node (m329 P) .nil .nil) (.node (m457 P) .nil .nil))) (.node (m105 P) (.node (m169 P) (.node (m297 P) .nil .nil) (.node (m425 P) .nil .nil)) (.node (m233 P) (.node (m361 P) .nil .nil) (.node (m489 P) .nil .nil)))) (.node (m57 P) (.node (m89 P) (.node (m153 P) (.node (m281 P) .nil .nil) (.node (m409 P) .nil .nil)) (.node (m217 P) (.node (m345 P) .nil .nil) (.node (m473 P) .nil .nil))) (.node (m121 P) (.node (m185 P) (.node (m313 P) .nil .nil) (.node (m441 P) .nil .nil)) (.node (m249 P) (.node (m377 P) .nil .nil) (.node (m505 P) .nil .nil)))))) (.node (a13 P) (.node (m21 P) (.node (m37 P) (.node (m69 P) (.node (m133 P) (.node (m261 P) .nil .nil) (.node (m389 P) .nil .nil)) (.node (m197 P) (.node (m325 P) .nil .nil) (.node (m453 P) .nil .nil))) (.node (m101 P) (.node (m165 P) (.node (m293 P) .nil .nil) (.node (m421 P) .nil .nil)) (.node (m229 P) (.node (m357 P) .nil .nil) (.node (m485 P) .nil .nil)))) (.node (m53 P) (.node (m85 P) (.node (m149 P) (.node (m277 P) .nil .nil) (.node (m405 P) .nil .nil)) (.node (m213 P) (.node (m341 P) .nil .nil) (.node (m469 P) .nil .nil))) (.node (m117 P) (.node (m181 P) (.node (m309 P) .nil .nil) (.node (m437 P) .nil .nil)) (.node (m245 P) (.node (m373 P) .nil .nil) (.node (m501 P) .nil .nil))))) (.node (m29 P) (.node (m45 P) (.node (m77 P) (.node (m141 P) (.node (m269 P) .nil .nil) (.node (m397 P) .nil .nil)) (.node (m205 P) (.node (m333 P) .nil .nil) (.node (m461 P) .nil .nil))) (.node (m109 P) (.node (m173 P) (.node (m301 P) .nil .nil) (.node (m429 P) .nil .nil)) (.node (m237 P) (.node (m365 P) .nil .nil) (.node (m493 P) .nil .nil)))) (.node (m61 P) (.node (m93 P) (.node (m157 P) (.node (m285 P) .nil .nil) (.node (m413 P) .nil .nil)) (.node (m221 P) (.node (m349 P) .nil .nil) (.node (m477 P) .nil .nil))) (.node (m125 P) (.node (m189 P) (.node (m317 P) .nil .nil) (.node (m445 P) .nil .nil)) (.node (m253 P) (.node (m381 P) .nil .nil) (.node (m509 P) .nil .nil)))))))) (.node (m2 P) (.node (boot_o_4 P) (.node (boot_o_8 P) (.node (m16 P) (.node (m32 P) (.node (m64 P) (.node (m128 P) (.node (m256 P) .nil .nil) (.node (m384 P) .nil .nil)) (.node (m192 P) (.node (m320 P) .nil .nil) (.node (m448 P) .nil .nil))) (.node (m96 P) (.node (m160 P) (.node (m288 P) .nil .nil) (.node (m416 P) .nil .nil)) (.node (m224 P) (.node (m352 P) .nil .nil) (.node (m480 P) .nil .nil)))) (.node (m48 P) (.node (m80 P) (.node (m144 P) (.node (m272 P) .nil .nil) (.node (m400 P) .nil .nil)) (.node (m208 P) (.node (m336 P) .nil .nil) (.node (m464 P) .nil .nil))) (.node (m112 P) (.node (m176 P) (.node (m304 P) .nil .nil) (.node (m432 P) .nil .nil)) (.node (m240 P) (.node (m368 P) .nil .nil) (.node (m496 P) .nil .nil))))) (.node (m24 P) (.node (m40 P) (.node (m72 P) (.node (m136 P) (.node (m264 P) .nil .nil) (.node (m392 P) .nil .nil)) (.node (m200 P) (.node (m328 P) .nil .nil) (.node (m456 P) .nil .nil))) (.node (m104 P) (.node (m168 P) (.node (m296 P) .nil .nil) (.node (m424 P) .nil .nil)) (.node (m232 P) (.node (m360 P) .nil .nil) (.node (m488 P) .nil .nil)))) (.node (m56 P) (.node (m88 P) (.node (m152 P) (.node (m280 P) .nil .nil) (.node (m408 P) .nil .nil)) (.node (m216 P) (.node (m344 P) .nil .nil) (.node (m472 P) .nil .nil))) (.node (m120 P) (.node (m184 P) (.node (m312 P) .nil .nil) (.node (m440 P) .nil .nil)) (.node (m248 P) (.node (m376 P) .nil .nil) (.node (m504 P) .nil .nil)))))) (.node (m12 P) (.node (m20 P) (.node (m36 P) (.node (m68 P) (.node (m132 P) (.node (m260 P) .nil .nil) (.node (m388 P) .nil .nil)) (.node (m196 P) (.node (m324 P) .nil .nil) (.node (m452 P) .nil .nil))) (.node (m100 P) (.node (m164 P) (.node (m292 P) .nil .nil) (.node (m420 P) .nil .nil)) (.node (m228 P) (.node (m356 P) .nil .nil) (.node (m484 P) .nil .nil)))) (.node (m52 P) (.node (m84 P) (.node (m148 P) (.node (m276 P) .nil .nil) (.node (m404 P) .nil .nil)) (.node (m212 P) (.node (m340 P) .nil .nil) (.node (m468 P) .nil .nil))) (.node (m116 P) (.node (m180 P) (.node (m308 P) .nil .nil) (.node (m436 P) .nil .nil)) (.node (m244 P) (.node (m372 P) .nil .nil) (.node (m500 P) .nil .nil))))) (.node (m28 P) (.node (m44 P) (.node (m76 P) (.node (m140 P) (.node (m268 P) .nil .nil) (.node (m396 P) .nil .nil)) (.node (m204 P) (.node (m332 P) .nil .nil) (.node (m460 P) .nil .nil))) (.node (m108 P) (.node (m172 P) (.node (m300 P) .nil .nil) (.node (m428 P) .nil .nil)) (.node (m236 P) (.node (m364 P) .nil .nil) (.node (m492 P) .nil .nil)))) (.node (m60 P) (.node (m92 P) (.node (m156 P) (.node (m284 P) .nil .nil) (.node (m412 P) .nil .nil)) (.node (m220 P) (.node (m348 P) .nil .nil) (.node (m476 P) .nil .nil))) (.node (m124 P) (.node (m188 P) (.node (m316 P) .nil .nil) (.node (m444 P) .nil .nil)) (.node (m252 P) (.node (m380 P) .nil .nil) (.node (m508 P) .nil .nil))))))) (.node (boot_o_6 P) (.node (boot_o_10 P) (.node (m18 P) (.node (m34 P) (.node (m66 P) (.node (m130 P) (.node (m258 P) .nil .nil) (.node (m386 P) .nil .nil)) (.node (m194 P) (.node (m322 P) .nil .nil) (.node (m450 P) .nil .nil))) (.node (m98 P) (.node (m162 P) (.node (m290 P) .nil .nil) (.node (m418 P) .nil .nil)) (.node (m226 P) (.node (m354 P) .nil .nil) (.node (m482 P) .nil .nil)))) (.node (m50 P) (.node (m82 P) (.node (m146 P) (.node (m274 P) .nil .nil) (.node (m402 P) .nil .nil)) (.node (m210 P) (.node (m338 P) .nil .nil) (.node (m466 P) .nil .nil))) (.node (m114 P) (.node (m178 P) (.node (m306 P) .nil .nil) (.node (m434 P) .nil .nil)) (.node (m242 P) (.node (m370 P) .nil .nil) (.node (m498 P) .nil .nil))))) (.node (m26 P) (.node (m42 P) (.node (m74 P) (.node (m138 P) (.node (m266 P) .nil .nil) (.node (m394 P) .nil .nil)) (.node (m202 P) (.node (m330 P) .nil .nil) (.node (m458 P) .nil .nil))) (.node (m106 P) (.node (m170 P) (.node (m298 P) .nil .nil) (.node (m426 P) .nil .nil)) (.node (m234 P) (.node (m362 P) .nil .nil) (.node (m490 P) .nil .nil)))) (.node (m58 P) (.node (m90 P) (.node (m154 P) (.node (m282 P) .nil .nil) (.node (m410 P) .nil .nil)) (.node (m218 P) (.node (m346 P) .nil .nil) (.node (m474 P) .nil .nil))) (.node (m122 P) (.node (m186 P) (.node (m314 P) .nil .nil) (.node (m442 P) .nil .nil)) (.node (m250 P) (.node (m378 P) .nil .nil) (.node (m506 P) .nil .nil)))))) (.node (a14 P) (.node (m22 P) (.node (m38 P) (.node (m70 P) (.node (m134 P) (.node (m262 P) .nil .nil) (.node (m390 P) .nil .nil)) (.node (m198 P) (.node (m326 P) .nil .nil) (.node (m454 P) .nil .nil))) (.node (m102 P) (.node (m166 P) (.node (m294 P) .nil .nil) (.node (m422 P) .nil .nil)) (.node (m230 P) (.node (m358 P) .nil .nil) (.node (m486 P) .nil .nil)))) (.node (m54 P) (.node (m86 P) (.node (m150 P) (.node (m278 P) .nil .nil) (.node (m406 P) .nil .nil)) (.node (m214 P) (.node (m342 P) .nil .nil) (.node (m470 P) .nil .nil))) (.node (m118 P) (.node (m182 P) (.node (m310 P) .nil .nil) (.node (m438 P) .nil .nil)) (.node (m246 P) (.node (m374 P) .nil .nil) (.node (m502 P) .nil .nil))))) (.node (m30 P) (.node (m46 P) (.node (m78 P) (.node (m142 P) (.node (m270 P) .nil .nil) (.node (m398 P) .nil .nil)) (.node (m206 P) (.node (m334 P) .nil .nil) (.node (m462 P) .nil .nil))) (.node (m110 P) (.node (m174 P) (.node (m302 P) .nil .nil) (.node (m430 P) .nil .nil)) (.node (m238 P) (.node (m366 P) .nil .nil) (.node (m494 P) .nil .nil)))) (.node (m62 P) (.node (m94 P) (.node (m158 P) (.node (m286 P) .nil .nil) (.node (m414 P) .nil .nil)) (.node (m222 P) (.node (m350 P) .nil .nil) (.node (m478 P) .nil .nil))) (.node (m126 P) (.node (m190 P) (.node (m318 P) .nil .nil) (.node (m446 P) .nil .nil)) (.node (m254 P) (.node (m382 P) .nil .nil) (.node (m510 P) .nil .nil)))))))))
noncomputable def hF : Params → Heap := fun P => ⟨⟨boot_o_0 P :: boot_o_1 P :: m2 P :: m3 P :: boot_o_4 P :: boot_o_5 P :: boot_o_6 P :: boot_o_7 P :: boot_o_8 P :: boot_o_9 P :: boot_o_10 P :: a11 P :: m12 P :: a13 P :: a14 P :: m15 P :: m16 P :: m17 P :: m18 P :: m19 P :: m20 P :: m21 P :: m22 P :: m23 P :: m24 P :: m25 P :: m26 P :: m27 P :: m28 P :: m29 P :: m30 P :: m31 P :: m32 P :: m33 P :: m34 P :: m35 P :: m36 P :: m37 P :: m38 P :: m39 P :: m40 P :: m41 P :: m42 P :: m43 P :: m44 P :: m45 P :: m46 P :: m47 P :: m48 P :: m49 P :: m50 P :: m51 P :: m52 P :: m53 P :: m54 P :: m55 P :: m56 P :: m57 P :: m58 P :: m59 P :: m60 P :: m61 P :: m62 P :: m63 P :: m64 P :: m65 P :: m66 P :: m67 P :: m68 P :: m69 P :: m70 P :: m71 P :: m72 P :: m73 P :: m74 P :: m75 P :: m76 P :: m77 P :: m78 P :: m79 P :: m80 P :: m81 P :: m82 P :: m83 P :: m84 P :: m85 P :: m86 P :: m87 P :: m88 P :: m89 P :: m90 P :: m91 P :: m92 P :: m93 P :: m94 P :: m95 P :: m96 P :: m97 P :: m98 P :: m99 P :: m100 P :: m101 P :: m102 P :: m103 P :: m104 P :: m105 P :: m106 P :: m107 P :: m108 P :: m109 P :: m110 P :: m111 P :: m112 P :: m113 P :: m114 P :: m115 P :: m116 P :: m117 P :: m118 P :: m119 P :: m120 P :: m121 P :: m122 P :: m123 P :: m124 P :: m125 P :: m126 P :: m127 P :: m128 P :: m129 P :: m130 P :: m131 P :: m132 P :: m133 P :: m134 P :: m135 P :: m136 P :: m137 P :: m138 P :: m139 P :: m140 P :: m141 P :: m142 P :: m143 P :: m144 P :: m145 P :: m146 P :: m147 P :: m148 P :: m149 P :: m150 P :: m151 P :: m152 P :: m153 P :: m154 P :: m155 P :: m156 P :: m157 P :: m158 P :: m159 P :: m160 P :: m161 P :: m162 P :: m163 P :: m164 P :: m165 P :: m166 P :: m167 P :: m168 P :: m169 P :: m170 P :: m171 P :: m172 P :: m173 P :: m174 P :: m175 P :: m176 P :: m177 P :: m178 P :: m179 P :: m180 P :: m181 P :: m182 P :: m183 P :: m184 P :: m185 P :: m186 P :: m187 P :: m188 P :: m189 P :: m190 P :: m191 P :: m192 P :: m193 P :: m194 P :: m195 P :: m196 P :: m197 P :: m198 P :: m199 P :: m200 P :: m201 P :: m202 P :: m203 P :: m204 P :: m205 P :: m206 P :: m207 P :: m208 P :: m209 P :: m210 P :: m211 P :: m212 P :: m213 P :: m214 P :: m215 P :: m216 P :: m217 P :: m218 P :: m219 P :: m220 P :: m221 P :: m222 P :: m223 P :: m224 P :: m225 P :: m226 P :: m227 P :: m228 P :: m229 P :: m230 P :: m231 P :: m232 P :: m233 P :: m234 P :: m235 P :: m236 P :: m237 P :: m238 P :: m239 P :: m240 P :: m241 P :: m242 P :: m243 P :: m244 P :: m245 P :: m246 P :: m247 P :: m248 P :: m249 P :: m250 P :: m251 P :: m252 P :: m253 P :: m254 P :: m255 P :: m256 P :: m257 P :: m258 P :: m259 P :: m260 P :: m261 P :: m262 P :: m263 P :: m264 P :: m265 P :: m266 P :: m267 P :: m268 P :: m269 P :: m270 P :: m271 P :: m272 P :: m273 P :: m274 P :: m275 P :: m276 P :: m277 P :: m278 P :: m279 P :: m280 P :: m281 P :: m282 P :: m283 P :: m284 P :: m285 P :: m286 P :: m287 P :: m288 P :: m289 P :: m290 P :: m291 P :: m292 P :: m293 P :: m294 P :: m295 P :: m296 P :: m297 P :: m298 P :: m299 P :: m300 P :: m301 P :: m302 P :: m303 P :: m304 P :: m305 P :: m306 P :: m307 P :: m308 P :: m309 P :: m310 P :: m311 P :: m312 P :: m313 P :: m314 P :: m315 P :: m316 P :: m317 P :: m318 P :: m319 P :: m320 P :: m321 P :: m322 P :: m323 P :: m324 P :: m325 P :: m326 P :: m327 P :: m328 P :: m329 P :: m330 P :: m331 P :: m332 P :: m333 P :: m334 P :: m335 P :: m336 P :: m337 P :: m338 P :: m339 P :: m340 P :: m341 P :: m342 P :: m343 P :: m344 P :: m345 P :: m346 P :: m347 P :: m348 P :: m349 P :: m350 P :: m351 P :: m352 P :: m353 P :: m354 P :: m355 P :: m356 P :: m357 P :: m358 P :: m359 P :: m360 P :: m361 P :: m362 P :: m363 P :: m364 P :: m365 P :: m366 P :: m367 P :: m368 P :: m369 P :: m370 P :: m371 P :: m372 P :: m373 P :: m374 P :: m375 P :: m376 P :: m377 P :: m378 P :: m379 P :: m380 P :: m381 P :: m382 P :: m383 P :: m384 P :: m385 P :: m386 P :: m387 P :: m388 P :: m389 P :: m390 P :: m391 P :: m392 P :: m393 P :: m394 P :: m395 P :: m396 P :: m397 P :: m398 P :: m399 P :: m400 P :: m401 P :: m402 P :: m403 P :: m404 P :: m405 P :: m406 P :: m407 P :: m408 P :: m409 P :: m410 P :: m411 P :: m412 P :: m413 P :: m414 P :: m415 P :: m416 P :: m417 P :: m418 P :: m419 P :: m420 P :: m421 P :: m422 P :: m423 P :: m424 P :: m425 P :: m426 P :: m427 P :: m428 P :: m429 P :: m430 P :: m431 P :: m432 P :: m433 P :: m434 P :: m435 P :: m436 P :: m437 P :: m438 P :: m439 P :: m440 P :: m441 P :: m442 P :: m443 P :: m444 P :: m445 P :: m446 P :: m447 P :: m448 P :: m449 P :: m450 P :: m451 P :: m452 P :: m453 P :: m454 P :: m455 P :: m456 P :: m457 P :: m458 P :: m459 P :: m460 P :: m461 P :: m462 P :: m463 P :: m464 P :: m465 P :: m466 P :: m467 P :: m468 P :: m469 P :: m470 P :: m471 P :: m472 P :: m473 P :: m474 P :: m475 P :: m476 P :: m477 P :: m478 P :: m479 P :: m480 P :: m481 P :: m482 P :: m483 P :: m484 P :: m485 P :: m486 P :: m487 P :: m488 P :: m489 P :: m490 P :: m491 P :: m492 P :: m493 P :: m494 P :: m495 P :: m496 P :: m497 P :: m498 P :: m499 P :: m500 P :: m501 P :: m502 P :: m503 P :: m504 P :: m505 P :: m506 P :: m507 P :: m508 P :: m509 P :: m510 P :: m511 P :: []⟩, {}⟩
noncomputable abbrev sA (w : World) (os : OsState) : Shared := ⟨hA w.params, ⟨[]⟩, {}, 187, os⟩
noncomputable abbrev sB (w : World) (os : OsState) : SharedT := ⟨tB w.params, 15, {}, ⟨[]⟩, {}, 187, os⟩
noncomputable abbrev sM (w : World) (os : OsState) : SharedT := ⟨tM w.params, 512, {}, ⟨[]⟩, {}, 900, os⟩
noncomputable abbrev sF (w : World) (os : OsState) : Shared := ⟨hF w.params, ⟨[]⟩, {}, 900, os⟩
noncomputable abbrev s0 (w : World) (os : OsState) : Shared := ⟨boot_heap w.params, ⟨[]⟩, boot_drawn, boot_toks, os⟩
theorem r_pre (w : World) : (fun os => topGo treeTable PW w 11 (some (.ref 6)) 12 (s0 w os) (topStub PW)) = fun os => some (sA w os, ⟨denote treeTable CE, CE, p0, BF⟩) := by
  rewrite [Fast.te15667345088766844465, Fast.te14364793385576792824, Fast.te11892475500146522536]
  kernel_rfl
theorem r_block (w : World) : (fun os => segRun treeTable PW w 11 (some (.ref 6)) 1 1 (sA w os) (blockOf BDY EVV CE p0 BF)) = fun os => some (.next, (sB w os).abs, CE, p0) := by
  rewrite [Fast.te14374325043358763698, Fast.te14364793385576792824]
  kernel_rfl
theorem r_run (w : World) : (fun os => segRunT treeTable PW w 11 (some (.ref 6)) 1 3237 (sB w os) (piecesOf BDY EVV CE p0 BF)) = fun os => some (.next, sM w os, CE, p1) := by
  rewrite [Fast.te10110043849684766642, Fast.te14364793385576792824]
  kernel_rfl
theorem r_fin (w : World) : (fun os => topRun treeTable PW w 11 (some (.ref 6)) 2 (sM w os).abs ⟨doneF .next, CE, p1, BF⟩) = fun os => some (sF w os) := by
  rewrite [Fast.te14082659384304107361, Fast.te14364793385576792824]
  kernel_rfl
theorem r_all (w : World) (os : OsState) : topRun treeTable PW w 11 (some (.ref 6)) (12 + (1 + (3237 + 2))) (s0 w os) (topStub PW) = some (sF w os) := by
  refine go_top (congrFun (r_pre w) os) (piece_block (congrFun (r_block w) os) ?_)
  have h := piece_app (rest := []) (segRun_of (congrFun (r_run w) os)) (piece_nil (congrFun (r_fin w) os))
  rw [List.append_nil] at h
  exact h
theorem r_open : opening PW = plainProg PW.main.scope.names := by kernel_rfl
theorem r_fence : ∀ s, fenceModules? PW s = some s := fun s => by kernel_rfl
theorem r_size (w : World) : ((boot_heap w.params).isNs mainGlobals && (⟨[]⟩ : Array GenState).size == 0, (boot_heap w.params).objs.size, (boot_heap w.params).nsMap mainGlobals "__annotations__") = (true, 11, some (.ref 6)) := by
  rewrite [Fast.te8920871248978507458]
  kernel_rfl
noncomputable abbrev LS : List Str := [Str.ofString "GateloomError", Str.ofString "vec"]
noncomputable abbrev RX : RowW := PySem.Challenge.rw_nn0326_01.row.toRowW
noncomputable abbrev KH : Hook := kHook KF KAS kas
noncomputable abbrev XT : Shared → Bool := fun s => xlAt VW [] s && recOk (RowW.records RX) s
theorem r_stat (w : World) (os : OsState) : (staticsOk (importedModules PW.main.body) (boot_heap w.params) (hF w.params) && namesBound PW (hF w.params) && gensDone (sF w os) && laidKept (boot_heap w.params) (hF w.params)) = true := by kernel_rfl
theorem r_seen (w : World) : (fun os => openSeen VW LS (importedModules PW.main.body) XT true (sF w os)) = fun _ => openGood VW LS := by
  rewrite [Fast.te4187177175401517315]
  kernel_rfl
theorem r_obs (w : World) (os : OsState) : KH.obs (sF w os) = KH.val w := by kernel_rfl
theorem r_left : LeftO PW VW LS XT KH.obs KH.val 6598 true := by
  refine LeftO.of_pieces (H₀ := boot_heap) (H₁ := hF) (boot_open r_open rfl r_fence) r_size r_all rfl fun w => ?_
  funext os
  exact looks_pair (r_stat w os) (looks_pair (congrFun (r_seen w) os) (r_obs w os))
theorem r_looks : Fast.tw12908688711261696721 PW = true := by
  delta Fast.tw12908688711261696721
  exact look_both (look_both (look_both (look_both (by decide +kernel) (by decide +kernel)) (by decide +kernel)) (by decide +kernel)) (by decide +kernel)
theorem r_row : Fast.tw17960256430627541270 (Fast.tw2368527892694137696 PySem.Challenge.rw_nn0326_01) = true := by
  delta Fast.tw17960256430627541270 Fast.tw2436336058641802641
  change (((((((((((((((Fast.tw12908688711261696721 PW && _) && _) && _) && _) && _) && _) && _) && _) && _) && _) && _) && _) && _) && _) && _) = true
  rw [r_looks]
  kernel_rfl
theorem r_said : PySem.Challenge.rw_nn0326_01.wellSaid = true := by
  rewrite [Fast.te9446332074065402090]
  delta Fast.tw9446332074065402090
  dsimp only
  rw [r_row]
  kernel_rfl
theorem r_hw : PySem.Challenge.rw_nn0326_01.row.toRowW.promised := by w_witness2
theorem hdX {d : DefRec} {kwd : List (Str × Expr)} (e1 : defOf VW PySem.Challenge.rw_nn0326_01.row.name = some (d, kwd))
    (e2 : PySem.Challenge.rw_nn0326_01.row.prog.theDef PySem.Challenge.rw_nn0326_01.row.name = some (d.params, d.body, d.scope)) (e3 : kwWritten? d.params.kwonlyargs d.params.kw_defaults = some kwd)
    (hc : WalkO VW LS (XL VW []) KH.says RX d kwd fun f vs => PySem.call f vs) : PySem.Challenge.rw_nn0326_01.Holds :=
  holds_law r_said fun said => holds_open (q := VW) (loose := LS) (Xt := XT) (XP := XL VW []) (Yf := KH.obs) (Ya := KH.val) (YP := KH.says) (N := 6598) r_left KH.of KH.keeps (fun s e => xl_of s (Bool.and_eq_true_iff.mp e).1) XL.keeps e1 e2 e3
    (fun s e => recFacts_of (Bool.and_eq_true_iff.mp e).2) (by rfl) said (by decide +kernel) ⟨rfl, rfl, rfl, rfl, rfl, by decide +kernel⟩ r_hw hc
end Mine.Hd
theorem Mine.filled : (Mine.Hd.KF = Mine.Hd.KF ∧ PySem.Challenge.rw_nn0326_01 = PySem.Challenge.rw_nn0326_01) := by
  k_fill
  exact ⟨rfl, rfl⟩
namespace Mine
/-! many witnesses and many facts in one step -/
inductive Ex2 {T1 T2 : Type} (P : T1 → T2 → Prop) : Prop
  | mk (x1 : T1) (x2 : T2) (h : P x1 x2) : Ex2 P
inductive Ex3 {T1 T2 T3 : Type} (P : T1 → T2 → T3 → Prop) : Prop
  | mk (x1 : T1) (x2 : T2) (x3 : T3) (h : P x1 x2 x3) : Ex3 P
inductive Ex4 {T1 T2 T3 T4 : Type} (P : T1 → T2 → T3 → T4 → Prop) : Prop
  | mk (x1 : T1) (x2 : T2) (x3 : T3) (x4 : T4) (h : P x1 x2 x3 x4) : Ex4 P
inductive Ex5 {T1 T2 T3 T4 T5 : Type} (P : T1 → T2 → T3 → T4 → T5 → Prop) : Prop
  | mk (x1 : T1) (x2 : T2) (x3 : T3) (x4 : T4) (x5 : T5) (h : P x1 x2 x3 x4 x5) : Ex5 P
inductive Ex6 {T1 T2 T3 T4 T5 T6 : Type} (P : T1 → T2 → T3 → T4 → T5 → T6 → Prop) : Prop
  | mk (x1 : T1) (x2 : T2) (x3 : T3) (x4 : T4) (x5 : T5) (x6 : T6) (h : P x1 x2 x3 x4 x5 x6) : Ex6 P
inductive Ex7 {T1 T2 T3 T4 T5 T6 T7 : Type} (P : T1 → T2 → T3 → T4 → T5 → T6 → T7 → Prop) : Prop
  | mk (x1 : T1) (x2 : T2) (x3 : T3) (x4 : T4) (x5 : T5) (x6 : T6) (x7 : T7) (h : P x1 x2 x3 x4 x5 x6 x7) : Ex7 P
inductive Ex8 {T1 T2 T3 T4 T5 T6 T7 T8 : Type} (P : T1 → T2 → T3 → T4 → T5 → T6 → T7 → T8 → Prop) : Prop
  | mk (x1 : T1) (x2 : T2) (x3 : T3) (x4 : T4) (x5 : T5) (x6 : T6) (x7 : T7) (x8 : T8) (h : P x1 x2 x3 x4 x5 x6 x7 x8) : Ex8 P
inductive Ex9 {T1 T2 T3 T4 T5 T6 T7 T8 T9 : Type} (P : T1 → T2 → T3 → T4 → T5 → T6 → T7 → T8 → T9 → Prop) : Prop
  | mk (x1 : T1) (x2 : T2) (x3 : T3) (x4 : T4) (x5 : T5) (x6 : T6) (x7 : T7) (x8 : T8) (x9 : T9) (h : P x1 x2 x3 x4 x5 x6 x7 x8 x9) : Ex9 P
inductive Ex10 {T1 T2 T3 T4 T5 T6 T7 T8 T9 T10 : Type} (P : T1 → T2 → T3 → T4 → T5 → T6 → T7 → T8 → T9 → T10 → Prop) : Prop
  | mk (x1 : T1) (x2 : T2) (x3 : T3) (x4 : T4) (x5 : T5) (x6 : T6) (x7 : T7) (x8 : T8) (x9 : T9) (x10 : T10) (h : P x1 x2 x3 x4 x5 x6 x7 x8 x9 x10) : Ex10 P
inductive Ex11 {T1 T2 T3 T4 T5 T6 T7 T8 T9 T10 T11 : Type} (P : T1 → T2 → T3 → T4 → T5 → T6 → T7 → T8 → T9 → T10 → T11 → Prop) : Prop
  | mk (x1 : T1) (x2 : T2) (x3 : T3) (x4 : T4) (x5 : T5) (x6 : T6) (x7 : T7) (x8 : T8) (x9 : T9) (x10 : T10) (x11 : T11) (h : P x1 x2 x3 x4 x5 x6 x7 x8 x9 x10 x11) : Ex11 P
inductive Ex12 {T1 T2 T3 T4 T5 T6 T7 T8 T9 T10 T11 T12 : Type} (P : T1 → T2 → T3 → T4 → T5 → T6 → T7 → T8 → T9 → T10 → T11 → T12 → Prop) : Prop
  | mk (x1 : T1) (x2 : T2) (x3 : T3) (x4 : T4) (x5 : T5) (x6 : T6) (x7 : T7) (x8 : T8) (x9 : T9) (x10 : T10) (x11 : T11) (x12 : T12) (h : P x1 x2 x3 x4 x5 x6 x7 x8 x9 x10 x11 x12) : Ex12 P
inductive Ex13 {T1 T2 T3 T4 T5 T6 T7 T8 T9 T10 T11 T12 T13 : Type} (P : T1 → T2 → T3 → T4 → T5 → T6 → T7 → T8 → T9 → T10 → T11 → T12 → T13 → Prop) : Prop
  | mk (x1 : T1) (x2 : T2) (x3 : T3) (x4 : T4) (x5 : T5) (x6 : T6) (x7 : T7) (x8 : T8) (x9 : T9) (x10 : T10) (x11 : T11) (x12 : T12) (x13 : T13) (h : P x1 x2 x3 x4 x5 x6 x7 x8 x9 x10 x11 x12 x13) : Ex13 P
inductive Ex16 {T1 T2 T3 T4 T5 T6 T7 T8 T9 T10 T11 T12 T13 T14 T15 T16 : Type} (P : T1 → T2 → T3 → T4 → T5 → T6 → T7 → T8 → T9 → T10 → T11 → T12 → T13 → T14 → T15 → T16 → Prop) : Prop
  | mk (x1 : T1) (x2 : T2) (x3 : T3) (x4 : T4) (x5 : T5) (x6 : T6) (x7 : T7) (x8 : T8) (x9 : T9) (x10 : T10) (x11 : T11) (x12 : T12) (x13 : T13) (x14 : T14) (x15 : T15) (x16 : T16) (h : P x1 x2 x3 x4 x5 x6 x7 x8 x9 x10 x11 x12 x13 x14 x15 x16) : Ex16 P
inductive An3 (a1 a2 a3 : Prop) : Prop
  | mk (h1 : a1) (h2 : a2) (h3 : a3) : An3 a1 a2 a3
inductive An4 (a1 a2 a3 a4 : Prop) : Prop
  | mk (h1 : a1) (h2 : a2) (h3 : a3) (h4 : a4) : An4 a1 a2 a3 a4
inductive An5 (a1 a2 a3 a4 a5 : Prop) : Prop
  | mk (h1 : a1) (h2 : a2) (h3 : a3) (h4 : a4) (h5 : a5) : An5 a1 a2 a3 a4 a5
inductive An6 (a1 a2 a3 a4 a5 a6 : Prop) : Prop
  | mk (h1 : a1) (h2 : a2) (h3 : a3) (h4 : a4) (h5 : a5) (h6 : a6) : An6 a1 a2 a3 a4 a5 a6
inductive An7 (a1 a2 a3 a4 a5 a6 a7 : Prop) : Prop
  | mk (h1 : a1) (h2 : a2) (h3 : a3) (h4 : a4) (h5 : a5) (h6 : a6) (h7 : a7) : An7 a1 a2 a3 a4 a5 a6 a7
inductive An8 (a1 a2 a3 a4 a5 a6 a7 a8 : Prop) : Prop
  | mk (h1 : a1) (h2 : a2) (h3 : a3) (h4 : a4) (h5 : a5) (h6 : a6) (h7 : a7) (h8 : a8) : An8 a1 a2 a3 a4 a5 a6 a7 a8
inductive An9 (a1 a2 a3 a4 a5 a6 a7 a8 a9 : Prop) : Prop
  | mk (h1 : a1) (h2 : a2) (h3 : a3) (h4 : a4) (h5 : a5) (h6 : a6) (h7 : a7) (h8 : a8) (h9 : a9) : An9 a1 a2 a3 a4 a5 a6 a7 a8 a9
inductive An10 (a1 a2 a3 a4 a5 a6 a7 a8 a9 a10 : Prop) : Prop
  | mk (h1 : a1) (h2 : a2) (h3 : a3) (h4 : a4) (h5 : a5) (h6 : a6) (h7 : a7) (h8 : a8) (h9 : a9) (h10 : a10) : An10 a1 a2 a3 a4 a5 a6 a7 a8 a9 a10
inductive An11 (a1 a2 a3 a4 a5 a6 a7 a8 a9 a10 a11 : Prop) : Prop
  | mk (h1 : a1) (h2 : a2) (h3 : a3) (h4 : a4) (h5 : a5) (h6 : a6) (h7 : a7) (h8 : a8) (h9 : a9) (h10 : a10) (h11 : a11) : An11 a1 a2 a3 a4 a5 a6 a7 a8 a9 a10 a11
inductive An12 (a1 a2 a3 a4 a5 a6 a7 a8 a9 a10 a11 a12 : Prop) : Prop
  | mk (h1 : a1) (h2 : a2) (h3 : a3) (h4 : a4) (h5 : a5) (h6 : a6) (h7 : a7) (h8 : a8) (h9 : a9) (h10 : a10) (h11 : a11) (h12 : a12) : An12 a1 a2 a3 a4 a5 a6 a7 a8 a9 a10 a11 a12
inductive An13 (a1 a2 a3 a4 a5 a6 a7 a8 a9 a10 a11 a12 a13 : Prop) : Prop
  | mk (h1 : a1) (h2 : a2) (h3 : a3) (h4 : a4) (h5 : a5) (h6 : a6) (h7 : a7) (h8 : a8) (h9 : a9) (h10 : a10) (h11 : a11) (h12 : a12) (h13 : a13) : An13 a1 a2 a3 a4 a5 a6 a7 a8 a9 a10 a11 a12 a13
noncomputable abbrev PR : Program := PySem.Challenge.rw_nn0326_01.row.prog
noncomputable abbrev LOOSE : List Str := looseW Hd.VW [Str.ofString "GateloomError", Str.ofString "vec"]
noncomputable abbrev Led := List (Addr × Obj)

structure Gx (w : World) (h : Heap) : Prop where
  X : (Hd.KF w.params).In h
  T : ∃ mean mg mb, Top Hd.VW LOOSE mean mg mb h

theorem Gx.keeps {w : World} {g h : Heap} (G : Gx w g) (k : ∀ b o, g.get? b = some o → h.get? b = some o) : Gx w h :=
  ⟨G.X.keeps k, let ⟨a, b, c, T⟩ := G.T; ⟨a, b, c, T.keeps k⟩⟩
theorem Gx.nolimit {w : World} {g : Heap} (G : Gx w g) : g.NoLimit := let ⟨_, _, _, T⟩ := G.T; T.nolimit

/-- the frozen base, the mutable resource, the frozen ledger -/
structure Bk (g : Heap) (R Z : Led) (h : Heap) : Prop where
  keep : ∀ b o, g.get? b = some o → h.get? b = some o
  res : ∀ p ∈ R ++ Z, h.get? p.1 = some p.2 ∧ g.get? p.1 = none
  nd : ((R ++ Z).map (·.1)).Nodup
  sz : g.objs.size ≤ h.objs.size

noncomputable def look : List Str → List (Option Value) → Str → Option Value
  | n :: ns, v :: vs, x => if x = n then v else look ns vs x
  | _, _, _ => none

inductive Has : List Str → List (Option Value) → Str → Value → Prop
  | head {x ns v vs} : Has (x :: ns) (some v :: vs) x v
  | tail {x y ns o v vs} : Has ns vs x v → Has (y :: ns) (o :: vs) x v
inductive Put : List Str → List (Option Value) → Str → Value → List (Option Value) → Prop
  | head {x ns o v vs} : Put (x :: ns) (o :: vs) x v (some v :: vs)
  | tail {x y ns o v vs vs'} : Put ns vs x v vs' → Put (y :: ns) (o :: vs) x v (o :: vs')

theorem Has.mem {ns vs x v} (h : Has ns vs x v) : x ∈ ns := by
  induction h with
  | head => exact .head _
  | tail _ ih => exact .tail _ ih
theorem Has.look {ns vs x v} (h : Has ns vs x v) (nn : ns.Nodup) : look ns vs x = some v := by
  induction h with
  | head => exact if_pos rfl
  | tail h ih =>
    obtain ⟨a, b⟩ := List.nodup_cons.mp nn
    refine (if_neg ?_).trans (ih b)
    intro e; subst e; exact a h.mem
theorem Put.mem {ns vs x v vs'} (h : Put ns vs x v vs') : x ∈ ns := by
  induction h with
  | head => exact .head _
  | tail _ ih => exact .tail _ ih
theorem Put.look {ns vs x v vs'} (h : Put ns vs x v vs') (nn : ns.Nodup) : (fun y => if y = x then some v else look ns vs y) = look ns vs' := by
  induction h with
  | head => funext y; simp only [Mine.look]; split <;> rfl
  | @tail x z ns o v vs vs' h ih =>
    obtain ⟨a, b⟩ := List.nodup_cons.mp nn
    have hx : x ≠ z := fun e => a (e ▸ h.mem)
    funext y
    have := congrFun (ih b) y
    simp only [Mine.look] at this ⊢
    by_cases e : y = x
    · subst e; rw [if_pos rfl, if_neg hx]; rw [if_pos rfl] at this; exact this
    · rw [if_neg e] at this ⊢; rw [this]

structure St (w : World) (g : Heap) (L : Addr) (ns : List Str) (vs : List (Option Value)) (own R Z : Led) (h : Heap) : Prop where
  gx : Gx w g
  F : Fr g L h (look ns vs)
  N : News g L h (own ++ (R ++ Z))
  nd : ((own ++ (R ++ Z)).map (·.1)).Nodup
  nn : ns.Nodup

/-- the scope's facts, once a def -/
structure Ev (scope : Scope) (ns gs : List Str) : Prop where
  k : scope.kind = .function
  loc : ∀ x ∈ ns, scope.names.lookup x = some .local
  glb : ∀ x ∈ gs, scope.names.lookup x = some .globalImplicit
  dl : ∀ x ∈ ns, (x == ("__debug__" : Str)) = false
  dg : ∀ x ∈ gs, (x == ("__debug__" : Str)) = false
noncomputable def evOk (scope : Scope) (ns gs : List Str) : Bool :=
  (scope.kind == .function) && ns.all (fun x => (scope.names.lookup x == some .local) && !(x == ("__debug__" : Str))) && gs.all (fun x => (scope.names.lookup x == some .globalImplicit) && !(x == ("__debug__" : Str)))
theorem Ev.of {scope : Scope} {ns gs : List Str} (h : evOk scope ns gs = true) : Ev scope ns gs := by
  unfold evOk at h
  simp only [Bool.and_eq_true, List.all_eq_true, beq_iff_eq, Bool.not_eq_true'] at h
  obtain ⟨⟨a, b⟩, c⟩ := h
  refine ⟨a, fun x hx => (b x hx).1, fun x hx => (c x hx).1, fun x hx => (b x hx).2, fun x hx => (c x hx).2⟩

/-- the same of a frame's environment -/
structure EvE (env : Env) (L : Addr) (ns gs : List Str) : Prop where
  k : env.scope.kind = .function
  lc : env.locals = L
  loc : ∀ x ∈ ns, env.kindOf x = some .local
  glb : ∀ x ∈ gs, env.kindOf x = some .globalImplicit
  gl : env.globals = mainGlobals
  bi : env.builtins = builtinsNs
  dl : ∀ x ∈ ns, (x == ("__debug__" : Str)) = false
  dg : ∀ x ∈ gs, (x == ("__debug__" : Str)) = false
theorem Ev.env {name : Str} {scope : Scope} {L a : Addr} {cd : Value} {ns gs : List Str} (V : Ev scope ns gs) : EvE (envOf name scope L a cd) L ns gs := ⟨V.k, rfl, V.loc, V.glb, rfl, rfl, V.dl, V.dg⟩
theorem Ev.comp {env : Env} {scope : Scope} {C L : Addr} {ns gs ns' gs' : List Str} (V : Ev scope ns gs) (W : EvE env L ns' gs') : EvE (compEnv scope C env) C ns gs := ⟨V.k, rfl, V.loc, V.glb, W.gl, W.bi, V.dl, V.dg⟩

section
variable {w : World} {A : Around} {E : Value → Shared → Prop} {s : Shared} {env : Env} {L : Addr} {g : Heap} {ns gs : List Str} {vs vs' : List (Option Value)} {own R Z : Led}

theorem ldS {x : Str} {pos : Pos} {v : Value} {Q : Value → Shared → Prop} (V : EvE env L ns gs) (S : St w g L ns vs own R Z s.heap) (hx : Has ns vs x v) (h : Q v s) :
    wpAny (model PR w) A (eval (.Name x pos) env) Q E s :=
  wpAny_Name (wpAny_loadName_local V.k (V.loc x hx.mem) (V.lc ▸ S.F.ns) (hx.look S.nn) h) (V.dl x hx.mem)
theorem lnS {x : Str} {v : Value} {Q : Value → Shared → Prop} (V : EvE env L ns gs) (S : St w g L ns vs own R Z s.heap) (hx : Has ns vs x v) (h : Q v s) :
    wpAny (model PR w) A (loadName env x) Q E s :=
  wpAny_loadName_local V.k (V.loc x hx.mem) (V.lc ▸ S.F.ns) (hx.look S.nn) h
theorem stS {x : Str} {v : Value} {Q : Unit → Shared → Prop} (V : EvE env L ns gs) (S : St w g L ns vs own R Z s.heap) (hx : Put ns vs x v vs')
    (h : ∀ h', St w g L ns vs' own R Z h' → Q () { s with heap := h', toks := s.toks + 1 }) :
    wpAny (model PR w) A (storeName env x v) Q E s := by
  obtain ⟨Vk, Vl, Vloc, _, _, _, _, _⟩ := V
  subst Vl
  exact wpAny_storeName_local (Vloc x hx.mem) S.F.ns (fun h' hn hs => h h' ⟨S.gx, by rw [← hx.look S.nn]; exact S.F.set hn hs, S.N.set hs, S.nd, S.nn⟩)
    (by rw [Vk]; rfl)
end



theorem look_nones (x : Str) : ∀ rest : List Str, look rest (rest.map fun u_ => none) x = none
  | [] => rfl
  | y :: r => by simp only [List.map_cons, look]; split <;> first | rfl | exact look_nones x r
theorem look_out {x : Str} : ∀ (ns : List Str) (vs : List (Option Value)), x ∉ ns → look ns vs x = none
  | [], _, _ => rfl
  | y :: r, [], _ => rfl
  | y :: r, o :: vs, hx => by
    simp only [look]
    rw [if_neg (fun e : x = y => hx (by rw [e]; exact .head _))]
    exact look_out r vs fun h => hx (.tail _ h)
theorem look_binds : ∀ (binds : List (Str × Value)) (rest ns : List Str), binds.map (·.1) ++ rest = ns → ns.Nodup →
    (fun x => binds.reverse.lookup x) = look ns (binds.map (fun p => some p.2) ++ rest.map fun u_ => none)
  | [], rest, _, rfl, _ => by
    funext x
    exact (look_nones x rest).symm
  | (n, v) :: b, rest, _, rfl, nn => by
    funext x
    have nn' : (b.map (·.1) ++ rest).Nodup := (List.nodup_cons.mp nn).2
    have hn : n ∉ b.map (·.1) ++ rest := (List.nodup_cons.mp nn).1
    have ih := congrFun (look_binds b rest _ rfl nn') x
    simp only [List.reverse_cons, List.lookup_append, List.map_cons, List.cons_append, look]
    rw [ih]
    by_cases e : x = n
    · subst e
      rw [if_pos rfl, look_out _ _ hn]; simp
    · rw [if_neg e]
      have : List.lookup x [(n, v)] = none := by simp [e]
      rw [this]; simp

theorem St.bk {w : World} {g : Heap} {L : Addr} {ns vs own R Z h} (S : St w g L ns vs own R Z h) : Bk g R Z h where
  keep := S.F.keep
  res := fun p hp => let q := S.N p (List.mem_append_right _ hp); ⟨q.1, q.2.2⟩
  nd := by
    have := S.nd
    rw [List.map_append] at this
    exact (List.nodup_append.mp this).2.1
  sz := Nat.le_trans S.F.above (Nat.le_of_lt S.F.ns.lt)

/-- a call's contract: no exception -/
noncomputable def Call (w : World) (f : Addr) (args : List Value) (d u : Nat) (R Z : Led) (Post : Value → Led → Led → Prop) : Prop :=
  ∀ (g : Heap) (A : Around) (s : Shared) (Q E : Value → Shared → Prop), Gx w g → A.handled = none → A.depth + d < recursionLimit → A.units + u < cLine → Bk g R Z s.heap →
    (∀ v R' Z' h' tk', Bk g R' Z' h' → Post v R' Z' → Q v { s with heap := h', toks := tk' }) →
    wpAny (model PR w) A (call (.ref f) args) Q E s

noncomputable def retQ (R0 : Result → Shared → Prop) (fl : Flow) (s' : Shared) : Prop := R0 (.ok (.ret (match fl with | .ret v => v | _ => .none))) s'
theorem enter0 {w : World} {g : Heap} {R Z : Led} {A : Around} {s : Shared} {R0 : Result → Shared → Prop} {name qual : Str} {params : Arguments} {body : List Stmt} {scope : Scope} {dV kV doc pm cdv ct oc : Value} {an od : Option Addr} {osl : Array (Option Value)} {f : Addr} {args : Args}
    {binds : List (Str × Value)} {rest ns gs : List Str} {vs : List (Option Value)}
    (G : Gx w g) (B : Bk g R Z s.heap)
    (ho : (Hd.KF w.params).lookup f = some ⟨oc, od, .func (fnOf name qual params body scope dV kV doc pm an cdv ct), osl⟩) (hcd : codeIn (Hd.KF w.params) cdv qual = true) (hroom : A.depth < recursionLimit)
    (hbind : BindsTo s (fnOf name qual params body scope dV kV doc pm an cdv ct) args binds) (V : Ev scope ns gs) (nn : ns.Nodup) (hns : binds.map (·.1) ++ rest = ns)
    (hvs : (binds.map fun p => some p.2) ++ (rest.map fun u_ => none) = vs)
    (h : ∀ L' h₁, EvE (envOf qual scope L' f cdv) L' ns gs → St w g L' ns vs [] R Z h₁ → s.heap.get? L' = none → (∀ b o, s.heap.get? b = some o → h₁.get? b = some o) →
      wpAny (model PR w) (A.deeper (envOf qual scope L' f cdv)) (execs body (envOf qual scope L' f cdv)) (fun fl s' => R0 (.ok (.ret (match fl with | .ret v => v | _ => .none))) s')
        (fun e s' => wpAny (model PR w) (A.deeper (envOf qual scope L' f cdv)) (leaving (envOf qual scope L' f cdv) e) (fun u_ s'' => R0 (.error e) s'') (fun e' s'' => R0 (.error e') s'') s')
        { s with heap := h₁, toks := s.toks + binds.length })
    (hco : scope.isCoroutine = false := by rfl) (hgen : scope.isGenerator = false := by rfl) (hcell : ∀ x ∈ scope.names, x.2 ≠ .cell := by decide) :
    codeAny (model PR w) A (.call (.ref f) args) R0 s := by
  have X := G.X.keeps B.keep
  refine codeAny_call_def (fd := fnOf name qual params body scope dV kV doc pm an cdv ct) (body := body) (binds := binds) hroom (X _ _ ho) rfl (G.nolimit.keeps B.keep) (codeRec_of X hcd) rfl hbind hcell
    (fun x hx => V.loc _ (by rw [← hns]; exact List.mem_append_left _ (List.mem_map_of_mem hx))) (fun h₁ hns₁ hk₁ => ?_) hco hgen V.k
  have hnew : s.heap.get? s.heap.objs.size = none := by
    cases q : s.heap.get? s.heap.objs.size with
    | none => rfl
    | some o => exact absurd (Heap.lt_size q) (Nat.lt_irrefl _)
  refine h s.heap.objs.size h₁ V.env ⟨G, ⟨?_, fun b o e => hk₁ b o (B.keep b o e), B.sz⟩, fun p hp => ?_, B.nd, nn⟩ hnew hk₁
  · rw [← hvs, ← look_binds binds rest ns hns nn]; exact hns₁
  · have q := B.res p hp
    exact ⟨hk₁ _ _ q.1, fun e => by rw [e, hnew] at q; exact absurd q.1 (by simp), q.2⟩

theorem enter {w : World} {g : Heap} {R Z : Led} {A : Around} {s : Shared} {R0 : Result → Shared → Prop} {name qual : Str} {params : Arguments} {body : List Stmt} {scope : Scope} {dV kV doc pm cdv ct oc : Value} {an od : Option Addr} {osl : Array (Option Value)} {f : Addr} {args : Args}
    {binds : List (Str × Value)} {rest ns gs : List Str} {vs : List (Option Value)}
    (G : Gx w g) (B : Bk g R Z s.heap)
    (ho : (Hd.KF w.params).lookup f = some ⟨oc, od, .func (fnOf name qual params body scope dV kV doc pm an cdv ct), osl⟩) (hcd : codeIn (Hd.KF w.params) cdv qual = true) (hroom : A.depth < recursionLimit)
    (hbind : BindsTo s (fnOf name qual params body scope dV kV doc pm an cdv ct) args binds) (V : Ev scope ns gs) (nn : ns.Nodup) (hns : binds.map (·.1) ++ rest = ns)
    (hvs : (binds.map fun p => some p.2) ++ (rest.map fun u_ => none) = vs)
    (h : ∀ L' h₁ E, EvE (envOf qual scope L' f cdv) L' ns gs → St w g L' ns vs [] R Z h₁ → s.heap.get? L' = none → (∀ b o, s.heap.get? b = some o → h₁.get? b = some o) →
      PassesOwn (model PR w) (A.deeper (envOf qual scope L' f cdv)) (envOf qual scope L' f cdv) E →
      wpAny (model PR w) (A.deeper (envOf qual scope L' f cdv)) (execs body (envOf qual scope L' f cdv)) (retQ R0) E
        { s with heap := h₁, toks := s.toks + binds.length })
    (hco : scope.isCoroutine = false := by rfl) (hgen : scope.isGenerator = false := by rfl) (hcell : ∀ x ∈ scope.names, x.2 ≠ .cell := by decide) :
    codeAny (model PR w) A (.call (.ref f) args) R0 s :=
  enter0 G B ho hcd hroom hbind V nn hns hvs (fun L' h₁ V S hn hk => h L' h₁ _ V S hn hk (by passes_own)) hco hgen hcell

theorem St.cut {w : World} {g : Heap} {L : Addr} {ns vs own R Z h} (S : St w g L ns vs own R Z h) :
    Gx w (hideAll h ((R ++ Z).map (·.1))) ∧ Bk (hideAll h ((R ++ Z).map (·.1))) R Z h := by
  have B := S.bk
  refine ⟨S.gx.keeps fun b o e => hideAll_get _ (S.F.keep b o e) fun hm => ?_, fun b o e => of_hideAll _ e, fun p hp => ⟨(B.res p hp).1, hideAll_none _ (List.mem_map_of_mem hp)⟩, B.nd, Nat.le_of_eq (hideAll_size _ _)⟩
  obtain ⟨p, hp, rfl⟩ := List.mem_map.mp hm
  rw [(B.res p hp).2] at e; cases e

theorem St.back {w : World} {g : Heap} {L : Addr} {ns vs own R Z R' Z' h h'} (S : St w g L ns vs own R Z h) (B : Bk (hideAll h ((R ++ Z).map (·.1))) R' Z' h') : St w g L ns vs own R' Z' h' := by
  have B0 := S.bk
  have up : ∀ b o, h.get? b = some o → b ∉ (R ++ Z).map (·.1) → (hideAll h ((R ++ Z).map (·.1))).get? b = some o := fun b o e n => hideAll_get _ e n
  obtain ⟨oL, es, ep, hL, hr⟩ := S.F.ns
  have nL : L ∉ (R ++ Z).map (·.1) := fun hm => by
    obtain ⟨p, hp, e⟩ := List.mem_map.mp hm
    exact (S.N p (List.mem_append_right _ hp)).2.1 e
  have gL := up L oL hL nL
  have gg : ∀ b o, g.get? b = some o → (hideAll h ((R ++ Z).map (·.1))).get? b = some o := fun b o e => up b o (S.F.keep b o e) fun hm => by
    obtain ⟨p, hp, rfl⟩ := List.mem_map.mp hm
    rw [(B0.res p hp).2] at e; cases e
  have nd := S.nd
  rw [List.map_append] at nd
  obtain ⟨n1, _, n3⟩ := List.nodup_append.mp nd
  have own' : ∀ p ∈ own, (hideAll h ((R ++ Z).map (·.1))).get? p.1 = some p.2 := fun p hp =>
    up _ _ (S.N p (List.mem_append_left _ hp)).1 fun hm => n3 _ (List.mem_map_of_mem hp) _ hm rfl
  refine ⟨S.gx, ⟨⟨oL, es, ep, B.keep _ _ gL, hr⟩, fun b o e => B.keep b o (gg b o e), S.F.above⟩, fun p hp => ?_, ?_, S.nn⟩
  · rcases List.mem_append.mp hp with hp | hp
    · have := S.N p (List.mem_append_left _ hp)
      exact ⟨B.keep _ _ (own' p hp), this.2.1, this.2.2⟩
    · have q := B.res p hp
      refine ⟨q.1, fun e => ?_, ?_⟩
      · rw [e, gL] at q; exact absurd q.2 (by simp)
      · cases c : g.get? p.1 with
        | none => rfl
        | some o => rw [gg _ _ c] at q; exact absurd q.2 (by simp)
  · rw [List.map_append]
    refine List.nodup_append.mpr ⟨n1, B.nd, fun a ha b hb e => ?_⟩
    obtain ⟨p, hp, rfl⟩ := List.mem_map.mp ha
    obtain ⟨q, hq, rfl⟩ := List.mem_map.mp hb
    have h1 := own' p hp
    rw [e, (B.res q hq).2] at h1; cases h1

theorem St.use {w : World} {g : Heap} {L : Addr} {ns vs own R Z} {s : Shared} {f : Addr} {args : List Value} {d u : Nat} {Post : Value → Led → Led → Prop} {A : Around} {Q E : Value → Shared → Prop}
    (S : St w g L ns vs own R Z s.heap) (C : Call w f args d u R Z Post) (hh : A.handled = none) (hd : A.depth + d < recursionLimit) (hu : A.units + u < cLine)
    (k : ∀ v R' Z' h' tk', St w g L ns vs own R' Z' h' → Post v R' Z' → Q v { s with heap := h', toks := tk' }) : wpAny (model PR w) A (call (.ref f) args) Q E s := by
  obtain ⟨G, B⟩ := S.cut
  exact C _ A s Q E G hh hd hu B fun v R' Z' h' tk' B' P => k v R' Z' h' tk' (S.back B') P

/-- the text's own names and the built-ins that it spells -/
inductive GV : Str → Value → Prop
  | n0 : GV "SourceError" (.ref 52)
  | n1 : GV "Token" (.ref 71)
  | n2 : GV "TokenRow" (.ref 99)
  | n3 : GV "ExprParser" (.ref 431)
  | n4 : GV "mask" (.ref 203)
  | n5 : GV "vec" (.ref 211)
  | n6 : GV "digit_bits" (.ref 218)
  | n7 : GV "decimal_value" (.ref 225)
  | n8 : GV "size_value" (.ref 232)
  | n9 : GV "digit_pair" (.ref 239)
  | n10 : GV "grouped" (.ref 246)
  | n11 : GV "padded_vec" (.ref 253)
  | n12 : GV "numeral" (.ref 260)
  | n13 : GV "precedence" (.ref 267)
  | n14 : GV "is_unary" (.ref 274)
  | n15 : GV "plain_operator" (.ref 281)
  | n16 : GV "_law_pool" (.ref 440)
  | n17 : GV "_law_pick" (.ref 447)
  | n18 : GV "_law_put" (.ref 454)
  | n19 : GV "_law_bindings" (.ref 459)
  | n20 : GV "_law_reading" (.ref 464)
  | n21 : GV "_law_expression" (.ref 471)
  | n22 : GV "_law_row" (.ref 478)
  | n23 : GV "_law_operand" (.ref 485)
  | n24 : GV "_law_list" (.ref 492)
  | n25 : GV "_law_selected" (.ref 499)
  | n26 : GV "_law_term" (.ref 506)
inductive GB : Str → Value → Prop
  | b0 : GB "len" (.builtin "len")
  | b1 : GB "range" (.type "range")
  | b2 : GB "max" (.builtin "max")
  | b3 : GB "abs" (.builtin "abs")
  | b4 : GB "int" (.type "int")
  | b5 : GB "ord" (.builtin "ord")
  | b6 : GB "str" (.type "str")
  | b7 : GB "tuple" (.type "tuple")
  | b8 : GB "reversed" (.type "reversed")
theorem GV.is {w : World} {x : Str} {v : Value} (h : GV x v) : nsIn (Hd.KF w.params) mainGlobals x = some (some v) := by
  cases h <;> k_is
theorem GB.is {w : World} {x : Str} {v : Value} (h : GB x v) : nsIn (Hd.KF w.params) mainGlobals x = some none ∧ bootBuiltins x = some v ∧ x ≠ "__name__" := by
  cases h <;> refine ⟨by k_is, ?_, by decide⟩ <;> boot_by_name

section
variable {w : World} {A : Around} {E : Value → Shared → Prop} {s : Shared} {env : Env} {L : Addr} {g : Heap} {ns gs : List Str} {vs vs' : List (Option Value)} {own R Z : Led}
theorem ldG {x : Str} {pos : Pos} {v : Value} {Q : Value → Shared → Prop} (V : EvE env L ns gs) (S : St w g L ns vs own R Z s.heap) (hv : GV x v) (hx : x ∈ gs) (h : Q v s) :
    wpAny (model PR w) A (eval (.Name x pos) env) Q E s := by
  obtain ⟨_, _, _, T⟩ := S.gx.T
  exact Calls.Name_function_global V.k (V.glb x hx) (Calls.loadGlobal_global (by rw [V.gl]; exact T.g.keeps S.F.keep) (mg_of S.gx.X T.g hv.is) h) (V.dg x hx)
theorem ldB {x : Str} {pos : Pos} {v : Value} {Q : Value → Shared → Prop} (V : EvE env L ns gs) (S : St w g L ns vs own R Z s.heap) (hv : GB x v) (hx : x ∈ gs) (h : Q v s) :
    wpAny (model PR w) A (eval (.Name x pos) env) Q E s := by
  obtain ⟨_, _, _, T⟩ := S.gx.T
  have q := hv.is (w := w)
  exact Calls.Name_function_global V.k (V.glb x hx) (Calls.loadGlobal_builtin (by rw [V.gl]; exact T.g.keeps S.F.keep) (mg_none_of S.gx.X T.g q.1) (by rw [V.bi]; exact T.b.keeps S.F.keep) ((T.builtins x q.2.2).trans q.2.1) h) (V.dg x hx)
end


structure IsL (o : Obj) (l : List Value) : Prop where
  c : o.cls = .type "list"
  d : ∃ n, o.data = .seq l.toArray n
theorem IsL.of {l : List Value} {n : Nat} : IsL (listOf l.toArray n) l := ⟨rfl, n, rfl⟩
structure IsT (o : Obj) (l : List Value) : Prop where
  c : o.cls = .type "tuple"
  d : ∃ n, o.data = .seq l.toArray n
noncomputable abbrev tupOf (vs : List Value) : Obj := { cls := .type "tuple", data := .seq vs.toArray }
theorem IsT.of {vs : List Value} : IsT (tupOf vs) vs := ⟨rfl, _, rfl⟩

inductive Upd1 (d : Addr) (o : Obj) : Led → (Obj → Led) → Prop
  | head {r} : Upd1 d o ((d, o) :: r) (fun o' => (d, o') :: r)
  | tail {p r f} : Upd1 d o r f → Upd1 d o (p :: r) (fun o' => p :: f o')
theorem Upd1.mem {d o l f} (u : Upd1 d o l f) : (d, o) ∈ l := by
  induction u with
  | head => exact .head _
  | tail _ ih => exact .tail _ ih
theorem Upd1.keys {d o l f} (u : Upd1 d o l f) (o' : Obj) : (f o').map (·.1) = l.map (·.1) := by
  induction u with
  | head => rfl
  | tail _ ih => simp only [List.map_cons, ih]
theorem Upd1.only {d o l f} (u : Upd1 d o l f) (nd : (l.map (·.1)).Nodup) (o' : Obj) : ∀ p ∈ f o', p = (d, o') ∨ (p ∈ l ∧ p.1 ≠ d) := by
  induction u with
  | @head r =>
    intro p hp
    rcases List.mem_cons.mp hp with rfl | hp
    · exact .inl rfl
    · refine .inr ⟨.tail _ hp, fun e => ?_⟩
      have := (List.nodup_cons.mp nd).1
      exact this (List.mem_map.mpr ⟨p, hp, e⟩)
  | @tail q r f u ih =>
    intro p hp
    have nd' := List.nodup_cons.mp nd
    rcases List.mem_cons.mp hp with rfl | hp
    · exact .inr ⟨.head _, fun e => nd'.1 (List.mem_map.mpr ⟨_, u.mem, e.symm⟩)⟩
    · rcases ih nd'.2 p hp with h | ⟨h1, h2⟩
      · exact .inl h
      · exact .inr ⟨.tail _ h1, h2⟩

section
variable {w : World} {g : Heap} {L : Addr} {ns : List Str} {vs : List (Option Value)} {own R Z : Led} {h h' : Heap}
theorem St.mut {own' R' Z' : Led} (S : St w g L ns vs own R Z h) {d : Addr} {o o' : Obj} {f : Obj → Led} (u : Upd1 d o (own ++ (R ++ Z)) f) (e : f o' = own' ++ (R' ++ Z')) (hs : Heap.SameBut d h h') (ho : h'.get? d = some o') :
    St w g L ns vs own' R' Z' h' := by
  have D := S.N _ u.mem
  refine ⟨S.gx, S.F.change hs D.2.1 D.2.2, fun p hp => ?_, ?_, S.nn⟩
  · rw [← e] at hp
    rcases u.only S.nd o' p hp with rfl | ⟨hm, hne⟩
    · exact ⟨ho, D.2⟩
    · have := S.N p hm
      exact ⟨(hs.2 _ hne).trans this.1, this.2⟩
  · rw [← e, u.keys]; exact S.nd
theorem Upd1.app {d o l f} (u : Upd1 d o l f) (r : Led) : Upd1 d o (l ++ r) (fun o' => f o' ++ r) := by
  induction u with
  | head => exact .head
  | tail _ ih => exact .tail ih
theorem Upd1.pre {d o l f} (u : Upd1 d o l f) : ∀ r : Led, Upd1 d o (r ++ l) (fun o' => r ++ f o')
  | [] => u
  | _ :: r => .tail (u.pre r)
theorem St.mutO (S : St w g L ns vs own R Z h) {d : Addr} {o o' : Obj} {f : Obj → Led} (u : Upd1 d o own f) (hs : Heap.SameBut d h h') (ho : h'.get? d = some o') : St w g L ns vs (f o') R Z h' :=
  S.mut (u.app _) rfl hs ho
theorem St.mutR (S : St w g L ns vs own R Z h) {d : Addr} {o o' : Obj} {f : Obj → Led} (u : Upd1 d o R f) (hs : Heap.SameBut d h h') (ho : h'.get? d = some o') : St w g L ns vs own (f o') Z h' :=
  S.mut ((u.app Z).pre own) rfl hs ho
theorem St.push (S : St w g L ns vs own R Z h) (o : Obj) (hf : o.isFreed = false) : St w g L ns vs ((h.objs.size, o) :: own) R Z (h.push o) := by
  refine ⟨S.gx, S.F.push o, S.N.push S.F o hf, ?_, S.nn⟩
  show ((h.objs.size, o).1 :: (own ++ (R ++ Z)).map (·.1)).Nodup
  refine List.nodup_cons.mpr ⟨fun hm => ?_, S.nd⟩
  obtain ⟨p, hp, e⟩ := List.mem_map.mp hm
  have := Heap.lt_size (S.N p hp).1
  rw [e] at this
  exact Nat.lt_irrefl _ this
theorem St.perm {own' R' Z' : Led} (S : St w g L ns vs own R Z h) (p : (own' ++ (R' ++ Z')).Perm (own ++ (R ++ Z))) : St w g L ns vs own' R' Z' h :=
  ⟨S.gx, S.F, fun q hq => S.N q (p.mem_iff.mp hq), (p.map _).nodup_iff.mpr S.nd, S.nn⟩
theorem St.pushZ (S : St w g L ns vs own R Z h) (o : Obj) (hf : o.isFreed = false) : St w g L ns vs own R ((h.objs.size, o) :: Z) (h.push o) :=
  (S.push o hf).perm (by
    rw [← List.append_assoc, ← List.append_assoc]
    exact List.perm_middle)
/-- the new list at the resource's head becomes the frame's own -/
theorem St.take {p : Addr × Obj} (S : St w g L ns vs own (p :: R) Z h) : St w g L ns vs (p :: own) R Z h :=
  S.perm (by
    show (p :: (own ++ (R ++ Z))).Perm (own ++ (p :: (R ++ Z)))
    exact List.perm_middle.symm)
theorem St.give {p : Addr × Obj} (S : St w g L ns vs (p :: own) R Z h) : St w g L ns vs own (p :: R) Z h :=
  S.perm (by
    show (own ++ (p :: (R ++ Z))).Perm (p :: (own ++ (R ++ Z)))
    exact List.perm_middle)
/-- an own object freezes -/
theorem St.frz {p : Addr × Obj} (S : St w g L ns vs (p :: own) R Z h) : St w g L ns vs own R (p :: Z) h :=
  S.perm (by
    show (own ++ (R ++ p :: Z)).Perm (p :: (own ++ (R ++ Z)))
    rw [← List.append_assoc, ← List.append_assoc]
    exact List.perm_middle)
theorem St.drop {own' : Led} (S : St w g L ns vs own R Z h) (hs : own'.Sublist own) : St w g L ns vs own' R Z h := by
  have : (own' ++ (R ++ Z)).Sublist (own ++ (R ++ Z)) := List.Sublist.append hs (List.Sublist.refl _)
  exact ⟨S.gx, S.F, fun q hq => S.N q (this.subset hq), S.nd.sublist (this.map _), S.nn⟩
theorem St.get {p : Addr × Obj} (S : St w g L ns vs own R Z h) (hp : p ∈ own ++ (R ++ Z)) : h.get? p.1 = some p.2 := (S.N p hp).1
theorem St.isList {l : Addr} {o : Obj} {its : List Value} (S : St w g L ns vs own R Z h) (hp : (l, o) ∈ own ++ (R ++ Z)) (i : IsL o its) : h.IsList l its.toArray := ⟨o, (S.N _ hp).1, i.c, i.d⟩
end
theorem mem_hd {α : Type} {a : α} {l : List α} : a ∈ a :: l := .head _
theorem mem_tl {α : Type} {a b : α} {l : List α} (h : a ∈ l) : a ∈ b :: l := .tail _ h
theorem memO {p : Addr × Obj} {own R Z : Led} (h : p ∈ own) : p ∈ own ++ (R ++ Z) := List.mem_append_left _ h
theorem memR {p : Addr × Obj} {own R Z : Led} (h : p ∈ R) : p ∈ own ++ (R ++ Z) := List.mem_append_right _ (List.mem_append_left _ h)
theorem memZ {p : Addr × Obj} {own R Z : Led} (h : p ∈ Z) : p ∈ own ++ (R ++ Z) := List.mem_append_right _ (List.mem_append_right _ h)

section
variable {M : Model} {w : World} {A : Around} {E : Value → Shared → Prop} {env : Env} {name : Str} {scope : Scope} {L a : Addr} {cd : Value} {g : Heap} {ns gs : List Str} {vs vs' : List (Option Value)} {own R Z : Led}
  {h : Heap} {ge : Array GenState} {dr : Drawn} {tk : Nat} {os : OsState}

theorem c_int {i : Int} {k pos} {Q : Value → Shared → Prop} (k1 : Q (.int i tk) ⟨h, ge, dr, tk + 1, os⟩) : wpAny M A (eval (.Constant (.int i) k pos) env) Q E ⟨h, ge, dr, tk, os⟩ := wpAny_Constant_int k1
theorem c_str {i : Str} {k pos} {Q : Value → Shared → Prop} (k1 : Q (.str i tk) ⟨h, ge, dr, tk + 1, os⟩) : wpAny M A (eval (.Constant (.str i) k pos) env) Q E ⟨h, ge, dr, tk, os⟩ := Calls.Constant_str k1
theorem o_add {x y : Int} {t u : Tok} {Q : Value → Shared → Prop} (k1 : Q (.int (x + y) tk) ⟨h, ge, dr, tk + 1, os⟩) : wpAny (model PR w) A (binaryOp .Add (.int x t) (.int y u)) Q E ⟨h, ge, dr, tk, os⟩ := add_int k1
theorem o_sub {x y : Int} {t u : Tok} {Q : Value → Shared → Prop} (k1 : Q (.int (x - y) tk) ⟨h, ge, dr, tk + 1, os⟩) : wpAny (model PR w) A (binaryOp .Sub (.int x t) (.int y u)) Q E ⟨h, ge, dr, tk, os⟩ := sub_int k1
theorem o_mul {x y : Int} {t u : Tok} {Q : Value → Shared → Prop} (hm : IntMulOk x y) (k1 : Q (.int (x * y) tk) ⟨h, ge, dr, tk + 1, os⟩) : wpAny (model PR w) A (binaryOp .Mult (.int x t) (.int y u)) Q E ⟨h, ge, dr, tk, os⟩ := mul_int k1 hm
theorem o_mod {x y : Int} {t u : Tok} {Q : Value → Shared → Prop} (hy : y ≠ 0) (k1 : Q (.int (x.fmod y) tk) ⟨h, ge, dr, tk + 1, os⟩) : wpAny (model PR w) A (binaryOp .Mod (.int x t) (.int y u)) Q E ⟨h, ge, dr, tk, os⟩ := mod_int' hy k1
theorem i_add {x y : Int} {t u : Tok} {Q : Value → Shared → Prop} (k1 : Q (.int (x + y) tk) ⟨h, ge, dr, tk + 1, os⟩) : wpAny (model PR w) A (inplaceOp .Add (.int x t) (.int y u)) Q E ⟨h, ge, dr, tk, os⟩ := iadd_int k1
theorem i_sub {x y : Int} {t u : Tok} {Q : Value → Shared → Prop} (k1 : Q (.int (x - y) tk) ⟨h, ge, dr, tk + 1, os⟩) : wpAny (model PR w) A (inplaceOp .Sub (.int x t) (.int y u)) Q E ⟨h, ge, dr, tk, os⟩ := isub_int k1
theorem o_neg {x : Int} {t : Tok} {Q : Value → Shared → Prop} (k1 : Q (.int (-x) tk) ⟨h, ge, dr, tk + 1, os⟩) : wpAny (model PR w) A (unaryOp .USub (.int x t)) Q E ⟨h, ge, dr, tk, os⟩ := neg_int k1

theorem sto {x : Str} {v : Value} {Q : Unit → Shared → Prop} (V : EvE env L ns gs) (S : St w g L ns vs own R Z h) (hx : Put ns vs x v vs')
    (k1 : ∀ h' tk', St w g L ns vs' own R Z h' → Q () ⟨h', ge, dr, tk', os⟩) :
    wpAny (model PR w) A (storeName env x v) Q E ⟨h, ge, dr, tk, os⟩ := stS (s := ⟨h, ge, dr, tk, os⟩) V S hx fun h' S' => k1 h' _ S'

theorem ix_list {value slice : Expr} {l : Addr} {o : Obj} {its : List Value} {k : Int} {u : Tok} {x : Value} {Q : Value → Shared → Prop} (S : St w g L ns vs own R Z h) (hp : (l, o) ∈ own ++ (R ++ Z)) (i : IsL o its)
    (h0 : 0 ≤ k) (hfit : k < 2 ^ 63) (hx : its[k.toNat]? = some x) (k1 : Q x ⟨h, ge, dr, tk, os⟩)
    (hs : subscripted slice false (.ref l) (.int k u) = operate [.ref l, .int k u] (getItem (.ref l) (.int k u)) := by with_unfolding_all rfl) :
    wpAny (model PR w) A (subscriptTail value slice (.ref l) (.int k u)) Q E ⟨h, ge, dr, tk, os⟩ :=
  have hl := S.isList hp i
  tail_any hl.typeIs slot_list_getitem.lookup (wpAny_getItem_list hl h0 hfit (by simpa using hx) k1) hs
theorem gi_list {l : Addr} {o : Obj} {its : List Value} {k : Int} {u : Tok} {x : Value} {Q : Value → Shared → Prop} (S : St w g L ns vs own R Z h) (hp : (l, o) ∈ own ++ (R ++ Z)) (i : IsL o its)
    (h0 : 0 ≤ k) (hfit : k < 2 ^ 63) (hx : its[k.toNat]? = some x) (k1 : Q x ⟨h, ge, dr, tk, os⟩) :
    wpAny (model PR w) A (getItem (.ref l) (.int k u)) Q E ⟨h, ge, dr, tk, os⟩ := wpAny_getItem_list (S.isList hp i) h0 hfit (by simpa using hx) k1
theorem len_l {l : Addr} {o : Obj} {its : List Value} {Q : Value → Shared → Prop} (S : St w g L ns vs own R Z h) (hp : (l, o) ∈ own ++ (R ++ Z)) (i : IsL o its) (hfit : (its.length : Int) < 2 ^ 63)
    (k1 : ∀ t tk', Q (.int its.length t) ⟨h, ge, dr, tk', os⟩) : wpAny (model PR w) A (call (.builtin "len") [.ref l]) Q E ⟨h, ge, dr, tk, os⟩ := call_len_list (S.isList hp i) (by simpa using hfit) (by simpa using k1 _ _)
theorem si_listR {l : Addr} {o : Obj} {its : List Value} {k : Int} {t : Tok} {v : Value} {f : Obj → Led} {Q : Unit → Shared → Prop} (S : St w g L ns vs own R Z h) (u : Upd1 l o R f) (i : IsL o its)
    (h0 : 0 ≤ k) (hfit : k < 2 ^ 63) (hn : k < its.length) (k1 : ∀ h' o', IsL o' (its.set k.toNat v) → St w g L ns vs own (f o') Z h' → Q () ⟨h', ge, dr, tk, os⟩) :
    wpAny (model PR w) A (setItem (.ref l) (.int k t) v) Q E ⟨h, ge, dr, tk, os⟩ :=
  wpAny_setItem_list (s := ⟨h, ge, dr, tk, os⟩) (S.isList (memR u.mem) i) h0 hfit (by simpa using hn) fun h' hl hs => let ⟨o', ho, c, d⟩ := hl; k1 h' o' ⟨c, by simpa using d⟩ (S.mutR u hs ho)
theorem ite_dec {p : Prop} [Decidable p] {X Y : Prop} (h1 : p → X) (h2 : ¬ p → Y) : if decide p = true then X else Y := by
  by_cases hp : p
  · rw [if_pos (decide_eq_true hp)]; exact h1 hp
  · rw [if_neg (by simpa using hp)]; exact h2 hp
theorem ite_bool {b : Bool} {X Y : Prop} (h1 : b = true → X) (h2 : b = false → Y) : if b = true then X else Y := by
  cases b with
  | true => rw [if_pos rfl]; exact h1 rfl
  | false => rw [if_neg Bool.false_ne_true]; exact h2 rfl
theorem ite_t {b : Bool} {X Y : Prop} (hb : b = true) (h1 : X) : if b = true then X else Y := by rw [if_pos hb]; exact h1
theorem ite_f {b : Bool} {X Y : Prop} (hb : b = false) (h1 : Y) : if b = true then X else Y := by rw [if_neg (by rw [hb]; exact Bool.false_ne_true)]; exact h1
theorem cw_b {pos : Pos} {id : String} {e : Expr} {rest : List Expr} {Q : Value → Shared → Prop} {s : Shared}
    (h : wpAny M A (spliced (backTo pos (starEach (e :: rest) env))) (fun vs s₁ => wpAny M A (call (.builtin id) vs) Q E s₁) E s)
    (he : starEach (e :: rest) env = (false, eval e env) :: starEach rest env := by rfl) (hp : ((backTo pos (starEach rest env)).any fun x => x.fst) = false := by rfl) :
    wpAny M A (callWith pos (.builtin id) [] (backTo pos (starEach (e :: rest) env)) []) Q E s := PyProof.Rows.callWith_builtin1 h he hp
theorem cw_t {pos : Pos} {id : String} {e : Expr} {rest : List Expr} {Q : Value → Shared → Prop} {s : Shared}
    (h : wpAny M A (spliced (backTo pos (starEach (e :: rest) env))) (fun vs s₁ => wpAny M A (call (.type id) vs) Q E s₁) E s)
    (he : starEach (e :: rest) env = (false, eval e env) :: starEach rest env := by rfl) (hp : ((backTo pos (starEach rest env)).any fun x => x.fst) = false := by rfl) :
    wpAny M A (callWith pos (.type id) [] (backTo pos (starEach (e :: rest) env)) []) Q E s := PyProof.Rows.callWith_type1 h he hp
end

noncomputable def nx (P : Shared → Prop) (Q : Flow → Shared → Prop) (f : Flow) (s : Shared) : Prop := match f with | .next => P s | f => Q f s
structure Imp (X Y : Flow → Shared → Prop) : Prop where
  of : ∀ f s, X f s → Y f s
section
variable {M : Model} {A : Around} {E : Value → Shared → Prop} {s : Shared} {env : Env} {Q Q1 X : Flow → Shared → Prop} {P : Shared → Prop} {v : Value}
theorem execs_consH {st : Stmt} {rest : List Stmt} (h : ∀ Q1, Imp (nx (wpAny M A (execs rest env) Q E) Q) Q1 → wpAny M A (exec st env) Q1 E s) : wpAny M A (execs (st :: rest) env) Q E s :=
  wpAny_execs_cons (h _ ⟨fun f s x => by cases f <;> exact x⟩)
theorem unh1 (h : Imp (nx P Q) Q1) (p : P s) : Q1 .next s := h.of .next s p
theorem unhR (h : Imp (nx P Q) Q1) (p : Q (.ret v) s) : Q1 (.ret v) s := h.of _ s p
theorem unhG {f : Flow} (h : Imp X Q1) (p : X f s) : Q1 f s := h.of f s p
theorem unhK {R0 : Result → Shared → Prop} (p : R0 (.ok (.ret v)) s) : retQ R0 (.ret v) s := p
theorem unhN {R0 : Result → Shared → Prop} (p : R0 (.ok (.ret .none)) s) : retQ R0 .next s := p
theorem hidQ {m : Sem Flow} (h : ∀ Q1, Imp Q Q1 → wpAny M A m Q1 E s) : wpAny M A m Q E s := h _ ⟨fun u_ u_ x => x⟩
/-- the end of a while's turn -/
noncomputable def whQ (I : Nat → Shared → Prop) (n : Nat) (Q : Flow → Shared → Prop) (f : Flow) (s₃ : Shared) : Prop := match f with
  | .next | .cont => ∃ m, m < n ∧ I m s₃
  | .brk => Q .next s₃
  | .ret v => Q (.ret v) s₃
variable {I : Nat → Shared → Prop} {n : Nat}
theorem hidW {m : Sem Flow} (h : ∀ Q1, Imp (whQ I n Q) Q1 → wpAny M A m Q1 E s) : wpAny M A m (whQ I n Q) E s := hidQ h
theorem unhWR (h : Imp (whQ I n Q) Q1) (p : Q (.ret v) s) : Q1 (.ret v) s := h.of _ s p
end

theorem dlt {a n m l : Nat} (h : a + m < l) (e : n ≤ m) : a + n < l := Nat.lt_of_le_of_lt (Nat.add_le_add_left e a) h
theorem dlti {a i n m l : Nat} (h : a + m < l) (e : i + n ≤ m) : a + i + n < l := by rw [Nat.add_assoc]; exact dlt h e
theorem dlt0 {a m l : Nat} (h : a + m < l) : a < l := Nat.lt_of_le_of_lt (Nat.le_add_right a m) h
theorem le_c {n m : Nat} (h : Nat.ble n m = true) : n ≤ m := Nat.le_of_ble_eq_true h
theorem le_d {i n m D : Nat} (h : Nat.ble (i + n) m = true) : i + (D + n) ≤ D + m := by have := Nat.le_of_ble_eq_true h; (first | lia | omega)
theorem le_d0 {i m D : Nat} (h : Nat.ble i m = true) : i + D ≤ D + m := by have := Nat.le_of_ble_eq_true h; (first | lia | omega)
theorem le_e {n m D : Nat} (h : Nat.ble n m = true) : n ≤ D + m := by have := Nat.le_of_ble_eq_true h; (first | lia | omega)
theorem le_f {k n m D : Nat} (hD : k ≤ D) (h : Nat.ble n (k + m) = true) : n ≤ D + m := by have := Nat.le_of_ble_eq_true h; (first | lia | omega)
theorem le_m {i n m j a : Nat} (h : Nat.ble (i + n) (m + a) = true) : i + (n + a * j) ≤ m + a * (j + 1) := by have := Nat.le_of_ble_eq_true h; rw [Nat.mul_succ]; (first | lia | omega)
theorem le_m0 {i n m k a : Nat} (h : Nat.ble (i + n) m = true) : i + (n + a * k) ≤ m + a * k := by have := Nat.le_of_ble_eq_true h; (first | lia | omega)
theorem le_pm {i n c m j a : Nat} (h : Nat.ble (i + n + c) (m + a) = true) : i + (n + a * j + c) ≤ m + a * (j + 1) := by have := Nat.le_of_ble_eq_true h; rw [Nat.mul_succ]; (first | lia | omega)
theorem le_s {i n c m k a : Nat} (h : Nat.ble (i + n) (m + c) = true) (h2 : Nat.ble c n = true) : i + (n + a * k - c) ≤ m + a * k := by have := Nat.le_of_ble_eq_true h; have := Nat.le_of_ble_eq_true h2; (first | lia | omega)
theorem le_sm {i n c m j a : Nat} (h : Nat.ble (i + n) (m + c + a) = true) (h2 : Nat.ble c n = true) : i + (n + a * j - c) ≤ m + a * (j + 1) := by have := Nat.le_of_ble_eq_true h; have := Nat.le_of_ble_eq_true h2; rw [Nat.mul_succ]; (first | lia | omega)



/-! dicts by written keys -/
inductive KvHas : List (Str × Value) → Str → Value → Prop
  | head {x v l} : KvHas ((x, v) :: l) x v
  | tail {x v p l} : KvHas l x v → KvHas (p :: l) x v
inductive KvPut : List (Str × Value) → Str → Value → List (Str × Value) → Prop
  | head {x u v l} : KvPut ((x, u) :: l) x v ((x, v) :: l)
  | tail {x v p l l'} : KvPut l x v l' → KvPut (p :: l) x v (p :: l')
theorem KvHas.mem {l x v} (h : KvHas l x v) : x ∈ l.map (·.1) := by
  induction h with
  | head => exact .head _
  | tail _ ih => exact .tail _ ih
theorem KvHas.at {l x v} (h : KvHas l x v) (nd : (l.map (·.1)).Nodup) : valueAt l x = some v := by
  induction h with
  | head => simp [valueAt]
  | @tail x v p l h ih =>
    obtain ⟨a, b⟩ := List.nodup_cons.mp nd
    have : p.1 ≠ x := fun e => a (by show p.1 ∈ _; rw [e]; exact h.mem)
    have := ih b
    simp only [valueAt, List.find?_cons] at this ⊢
    rw [decide_eq_false ‹p.1 ≠ x›]; exact this
theorem KvPut.mem {l x v l'} (h : KvPut l x v l') : x ∈ l.map (·.1) := by
  induction h with
  | head => exact .head _
  | tail _ ih => exact .tail _ ih
theorem KvPut.is {l x v l'} (h : KvPut l x v l') (nd : (l.map (·.1)).Nodup) : stored l x v = l' := by
  have key : ∀ {l x v l'}, KvPut l x v l' → (l.map (·.1)).Nodup → (l.map fun kv => if kv.1 = x then (kv.1, v) else kv) = l' := by
    intro l x v l' h
    induction h with
    | @head x u v l =>
      intro nd
      obtain ⟨a, _⟩ := List.nodup_cons.mp nd
      simp only [List.map_cons, if_true]
      rw [map_store_of_not_mem l x v a]
    | @tail x v p l l' h ih =>
      intro nd
      obtain ⟨a, b⟩ := List.nodup_cons.mp nd
      have : p.1 ≠ x := fun e => a (by show p.1 ∈ _; rw [e]; exact h.mem)
      simp only [List.map_cons]
      rw [if_neg this, ih b]
  unfold stored
  rw [if_pos]
  · exact key h nd
  · obtain ⟨p, hp, e⟩ := List.mem_map.mp h.mem
    exact List.any_eq_true.mpr ⟨p, hp, by simp [e]⟩
noncomputable abbrev IsD (w : World) (o : Obj) (kvs : List (Str × Value)) : Prop := o.IsDictOf (PySem.strKind PR w) kvs
theorem IsD.nd {w o kvs} (h : IsD w o kvs) : (kvs.map (·.1)).Nodup := let ⟨_, _, _, _, _, _, n⟩ := h; n

theorem Upd1.toUpd {d o l f} (u : Upd1 d o l f) (nd : (l.map (·.1)).Nodup) (o' : Obj) : Upd d o o' l (f o') := by
  induction u with
  | @head r =>
    refine Upd.head fun p hp e => ?_
    exact (List.nodup_cons.mp nd).1 (List.mem_map.mpr ⟨p, hp, e⟩)
  | @tail p r f u ih =>
    obtain ⟨a, b⟩ := List.nodup_cons.mp nd
    exact Upd.tail (fun e => a (List.mem_map.mpr ⟨_, u.mem, e.symm⟩)) (ih b)

/-! data -/
mutual
inductive Tr (Z : Led) : Value → PyData → Prop
  | none : Tr Z .none .none
  | bool (b : Bool) : Tr Z (.bool b) (.bool b)
  | int (i : Int) (t : Tok) : Tr Z (.int i t) (.int i)
  | str (x : Str) (t : Tok) : Tr Z (.str x t) (.str x)
  | tup {a : Addr} {o : Obj} {vs : List Value} {ds : List PyData} : (a, o) ∈ Z → IsT o vs → TrL Z vs ds → Tr Z (.ref a) (.tuple ds)
inductive TrL (Z : Led) : List Value → List PyData → Prop
  | nil : TrL Z [] []
  | cons {v d vs ds} : Tr Z v d → TrL Z vs ds → TrL Z (v :: vs) (d :: ds)
end
structure Sub (Z Z' : Led) : Prop where
  up : ∀ p ∈ Z, p ∈ Z'
theorem Sub.rfl {Z : Led} : Sub Z Z := ⟨fun u_ h => h⟩
theorem Sub.trans {Z Z' Z'' : Led} (a : Sub Z Z') (b : Sub Z' Z'') : Sub Z Z'' := ⟨fun p h => b.up p (a.up p h)⟩
theorem Sub.tl {Z Z' : Led} {p} (a : Sub Z Z') : Sub Z (p :: Z') := ⟨fun q h => .tail _ (a.up q h)⟩
mutual
theorem Tr.up {Z Z' : Led} (s : Sub Z Z') : ∀ {v d}, Tr Z v d → Tr Z' v d
  | _, _, .none => .none
  | _, _, .bool b => .bool b
  | _, _, .int i t => .int i t
  | _, _, .str i t => .str i t
  | _, _, .tup m i l => .tup (s.up _ m) i (TrL.up s l)
theorem TrL.up {Z Z' : Led} (s : Sub Z Z') : ∀ {v d}, TrL Z v d → TrL Z' v d
  | _, _, .nil => .nil
  | _, _, .cons a b => .cons (Tr.up s a) (TrL.up s b)
end
theorem Tr.tl {Z : Led} {p v d} (h : Tr Z v d) : Tr (p :: Z) v d := h.up (Sub.tl .rfl)
theorem TrL.tl {Z : Led} {p v d} (h : TrL Z v d) : TrL (p :: Z) v d := h.up (Sub.tl .rfl)
mutual
theorem Tr.reads {Z : Led} {h : Heap} (k : ∀ p ∈ Z, h.get? p.1 = some p.2) : ∀ {v d}, Tr Z v d → Reads h v d []
  | _, _, .none => .none
  | _, _, .bool b => .bool b
  | _, _, .int i t => .int i t
  | _, _, .str i t => .str i t
  | _, _, .tup m i l => let ⟨n, hn⟩ := i.d; .tuple (k _ m) i.c hn (by simpa using TrL.reads k l)
theorem TrL.reads {Z : Led} {h : Heap} (k : ∀ p ∈ Z, h.get? p.1 = some p.2) : ∀ {v d}, TrL Z v d → ReadsAll h v d []
  | _, _, .nil => .nil
  | _, _, .cons a b => ReadsAll.cons (as := []) (bs := []) (Tr.reads k a) (TrL.reads k b)
end
theorem TrL.append {Z : Led} {vs ws ds es} (a : TrL Z vs ds) (b : TrL Z ws es) : TrL Z (vs ++ ws) (ds ++ es) := by
  induction vs generalizing ds with
  | nil => cases a; exact b
  | cons v vs ih => cases a with | cons h t => exact .cons h (ih t)
theorem TrL.length {Z : Led} {vs ds} (a : TrL Z vs ds) : vs.length = ds.length := by
  induction vs generalizing ds with
  | nil => cases a; rfl
  | cons v vs ih => cases a with | cons h t => simp [ih t]
theorem TrL.get {Z : Led} {vs ds} (a : TrL Z vs ds) {i : Nat} {d : PyData} (hd : ds[i]? = some d) : ∃ v, vs[i]? = some v ∧ Tr Z v d := by
  induction vs generalizing ds i with
  | nil => cases a; simp at hd
  | cons v vs ih =>
    cases a with
    | cons h t =>
      cases i with
      | zero => simp at hd; subst hd; exact ⟨v, rfl, h⟩
      | succ i => exact ih t (by simpa using hd)

section
variable {w : World} {g : Heap} {L : Addr} {ns gs : List Str} {vs vs' : List (Option Value)} {own R Z : Led} {A : Around} {E : Value → Shared → Prop} {env : Env} {h : Heap} {ge : Array GenState} {dr : Drawn} {tk : Nat} {os : OsState}
theorem St.of (S : St w g L ns vs own R Z h) {own' R' Z' : Led} {h' : Heap} (F : Fr g L h' (look ns vs')) (N : News g L h' (own' ++ (R' ++ Z'))) (k : (own' ++ (R' ++ Z')).map (·.1) = (own ++ (R ++ Z)).map (·.1)) : St w g L ns vs' own' R' Z' h' :=
  ⟨S.gx, F, N, by rw [k]; exact S.nd, S.nn⟩
theorem getS {a : Addr} {o : Obj} (S : St w g L ns vs own R Z h) (hp : (a, o) ∈ own ++ (R ++ Z)) : h.get? a = some o := (S.N _ hp).1
theorem dictS {d : Addr} {o : Obj} {kvs} (S : St w g L ns vs own R Z h) (hp : (d, o) ∈ own ++ (R ++ Z)) (hd : IsD w o kvs) : h.DictOf (PySem.strKind PR w) d kvs := Heap.dictOf_iff.mpr ⟨o, S.get hp, hd⟩
theorem ix_dict {value slice : Expr} {d : Addr} {o : Obj} {kvs} {x : Str} {u : Tok} {v : Value} {Q : Value → Shared → Prop} (S : St w g L ns vs own R Z h) (hp : (d, o) ∈ own ++ (R ++ Z)) (hd : IsD w o kvs) (hv : KvHas kvs x v)
    (k1 : Q v ⟨h, ge, dr, tk + 1, os⟩)
    (hs : subscripted slice false (.ref d) (.str x u) = operate [.ref d, .str x u] (getItem (.ref d) (.str x u))) :
    wpAny (model PR w) A (subscriptTail value slice (.ref d) (.str x u)) Q E ⟨h, ge, dr, tk, os⟩ :=
  have hm := (dictS S hp hd).mapOf
  tail_any hm.typeIs slot_dict_getitem.lookup (wpAny_getItem_of (strKind_is PR w x u) hm (hv.at hd.nd) k1) hs
theorem gi_dict {d : Addr} {o : Obj} {kvs} {x : Str} {u : Tok} {v : Value} {Q : Value → Shared → Prop} (S : St w g L ns vs own R Z h) (hp : (d, o) ∈ own ++ (R ++ Z)) (hd : IsD w o kvs) (hv : KvHas kvs x v)
    (k1 : Q v ⟨h, ge, dr, tk + 1, os⟩) : wpAny (model PR w) A (getItem (.ref d) (.str x u)) Q E ⟨h, ge, dr, tk, os⟩ :=
  wpAny_getItem_of (strKind_is PR w x u) (dictS S hp hd).mapOf (hv.at hd.nd) k1
theorem si_dictR {d : Addr} {o : Obj} {kvs kvs'} {x : Str} {u : Tok} {v : Value} {f : Obj → Led} {Q : Unit → Shared → Prop} (S : St w g L ns vs own R Z h) (up : Upd1 d o R f) (hd : IsD w o kvs) (hv : KvPut kvs x v kvs') (hz : kvs.length ≤ 100)
    (k1 : ∀ h' o' tk', IsD w o' kvs' → St w g L ns vs own (f o') Z h' → Q () ⟨h', ge, dr, tk', os⟩) : wpAny (model PR w) A (setItem (.ref d) (.str x u) v) Q E ⟨h, ge, dr, tk, os⟩ :=
  wpAny_setItem_pairs (s := ⟨h, ge, dr, tk, os⟩) (hsz := by rw [sizeLine_eq]; (first | lia | omega)) (strKind_is PR w x u) (dictS S (memR up.mem) hd) fun h' hd' hs => by
    rw [hv.is hd.nd] at hd'
    obtain ⟨o', ho, hD⟩ := Heap.dictOf_iff.mp hd'
    exact k1 h' o' _ hD (S.mutR up hs ho)

/-! lists of the frame -/
theorem none_end (h : Heap) : h.get? h.objs.size = none := by
  cases q : h.get? h.objs.size with
  | none => rfl
  | some o => exact absurd (Heap.lt_size q) (Nat.lt_irrefl _)
theorem nw_list {us : List Value} {Q : Value → Shared → Prop} (S : St w g L ns vs own R Z h) (hz : us.length ≤ 1000000)
    (k1 : ∀ l h', h.get? l = none → St w g L ns vs ((l, listOf us.toArray 0) :: own) R Z h' → Q (.ref l) ⟨h', ge, dr, tk, os⟩) : wpAny (model PR w) A (newList us) Q E ⟨h, ge, dr, tk, os⟩ :=
  wpAny_newObj_type (s := ⟨h, ge, dr, tk, os⟩) (k1 _ _ (none_end h) (S.push _ rfl)) (by show us.toArray.size ≤ sizeLine; rw [List.size_toArray, sizeLine_eq]; (first | lia | omega))
theorem nw_tup {us : List Value} {Q : Value → Shared → Prop} (S : St w g L ns vs own R Z h) (hz : us.length ≤ 1000000)
    (k1 : ∀ l h', St w g L ns vs own R ((l, tupOf us) :: Z) h' → Q (.ref l) ⟨h', ge, dr, tk, os⟩) : wpAny (model PR w) A (newTuple us) Q E ⟨h, ge, dr, tk, os⟩ :=
  wpAny_newObj_type (s := ⟨h, ge, dr, tk, os⟩) (k1 _ _ (S.pushZ _ rfl)) (by show us.toArray.size ≤ sizeLine; rw [List.size_toArray, sizeLine_eq]; (first | lia | omega))
theorem gm_app {l : Addr} {us : List Value} {n : Nat} {pl : Sem Bool} {Q : Value × List Value → Shared → Prop} (S : St w g L ns vs own R Z h) (hp : (l, listOf us.toArray n) ∈ own ++ (R ++ Z))
    (k1 : Q (.builtin "list.append", [.ref l]) ⟨h, ge, dr, tk, os⟩) : wpAny (model PR w) A (getMethod (.ref l) "append" pl) Q E ⟨h, ge, dr, tk, os⟩ :=
  Calls.getMethod_list_append (S.get hp) rfl rfl k1
theorem app_at {l : Addr} {us : List Value} {n : Nat} {x : Value} {Q : Value → Shared → Prop} (hp : h.get? l = some (listOf us.toArray n)) (hz : us.length ≤ 1000000)
    (k1 : ∀ h', Heap.SameBut l h h' → h'.get? l = some (listOf (us ++ [x]).toArray (n + 1)) → Q .none ⟨h', ge, dr, tk, os⟩) : wpAny (model PR w) A (call (.builtin "list.append") [.ref l, x]) Q E ⟨h, ge, dr, tk, os⟩ :=
  append_at (s := ⟨h, ge, dr, tk, os⟩) (hsz := by rw [List.size_toArray, sizeLine_eq]; (first | lia | omega)) hp fun h' hs ho => k1 h' hs (by rw [ho]; simp)
theorem appO {l : Addr} {us : List Value} {n : Nat} {x : Value} {f : Obj → Led} {Q : Value → Shared → Prop} (S : St w g L ns vs own R Z h) (u : Upd1 l (listOf us.toArray n) own f) (hz : us.length ≤ 1000000)
    (k1 : ∀ h', St w g L ns vs (f (listOf (us ++ [x]).toArray (n + 1))) R Z h' → Q .none ⟨h', ge, dr, tk, os⟩) : wpAny (model PR w) A (call (.builtin "list.append") [.ref l, x]) Q E ⟨h, ge, dr, tk, os⟩ :=
  app_at (S.get (memO u.mem)) hz fun h' hs ho => k1 h' (S.mutO u hs ho)
theorem appR {l : Addr} {us : List Value} {n : Nat} {x : Value} {f : Obj → Led} {Q : Value → Shared → Prop} (S : St w g L ns vs own R Z h) (u : Upd1 l (listOf us.toArray n) R f) (hz : us.length ≤ 1000000)
    (k1 : ∀ h', St w g L ns vs own (f (listOf (us ++ [x]).toArray (n + 1))) Z h' → Q .none ⟨h', ge, dr, tk, os⟩) : wpAny (model PR w) A (call (.builtin "list.append") [.ref l, x]) Q E ⟨h, ge, dr, tk, os⟩ :=
  app_at (S.get (memR u.mem)) hz fun h' hs ho => k1 h' (S.mutR u hs ho)

/-! own classes: what the top says of them -/
structure Cls (w : World) (C : Addr) : Prop where
  sa : findIn (Hd.KF w.params) (.ref C) "__setattr__" = some (some (.builtin "object.__setattr__"))
  po : plainOver (Hd.KF w.params) C = true
  hh : hasDictIn (Hd.KF w.params) C = true
  pg : ∀ x, plainGet (Hd.KF w.params) C x = true
theorem cls_of {w : World} {C : Addr} (a : findIn (Hd.KF w.params) (.ref C) "__setattr__" = some (some (.builtin "object.__setattr__"))) (b : plainOver (Hd.KF w.params) C = true)
    (c : hasDictIn (Hd.KF w.params) C = true) (d : plainGet (Hd.KF w.params) C "" = true) : Cls w C := ⟨a, b, c, fun u_ => d⟩
theorem cls_tok {w : World} : Cls w 71 := cls_of (by k_is) (by k_is) (by k_is) (by k_is)
theorem cls_row {w : World} : Cls w 99 := cls_of (by k_is) (by k_is) (by k_is) (by k_is)
theorem cls_par {w : World} : Cls w 431 := cls_of (by k_is) (by k_is) (by k_is) (by k_is)
/-- a field that lies in the object alone -/
structure Att (w : World) (C : Addr) (x : Str) : Prop where
  tk : takerIn (Hd.KF w.params) C x = some none
  fi : findIn (Hd.KF w.params) (.ref C) x = some none
inductive AttN : Addr → Str → Prop
  | t0 : AttN 71 "kind" | t1 : AttN 71 "value" | t2 : AttN 71 "at" | r0 : AttN 99 "tokens" | r1 : AttN 99 "place"
  | p0 : AttN 431 "source" | p1 : AttN 431 "ahead" | p2 : AttN 431 "token" | p3 : AttN 431 "at"
theorem AttN.is {w : World} {C : Addr} {x : Str} (h : AttN C x) : Att w C x := by cases h <;> exact ⟨by k_is, by k_is⟩
inductive ClsN : Addr → Prop
  | t : ClsN 71 | r : ClsN 99 | p : ClsN 431
theorem ClsN.is {w : World} {C : Addr} (h : ClsN C) : Cls w C := by cases h; exact cls_tok; exact cls_row; exact cls_par

theorem saR {x C dx : Addr} {es es' : List DictEntry} {n n' : Nat} {name : Str} {v : Value} {f : Obj → Led} {Q : Unit → Shared → Prop} (S : St w g L ns vs own R Z h)
    (hx : h.get? x = some (instObj C dx)) (c : ClsN C) (a : AttN C name) (u : Upd1 dx (dictOf es n) R f) (hl : (getL name es).isSome = true) (e : (putL name (PyData.keyHash w.params name) (.str name (tk + 1)) v es, putN name es n) = (es', n')) (hz : es'.length ≤ 1000)
    (k1 : ∀ h' tk', St w g L ns vs own (f (dictOf es' n')) Z h' → Q () ⟨h', ge, dr, tk', os⟩) : wpAny (model PR w) A (setAttr (.ref x) name v) Q E ⟨h, ge, dr, tk, os⟩ :=
  set_dict (s := ⟨h, ge, dr, tk, os⟩) S.F S.gx.X S.N (ox := instObj C dx) ⟨hx, rfl, rfl, S.get (memR u.mem)⟩ rfl c.is.sa c.is.po a.is.tk c.is.hh hl e (((u.app Z).pre own).toUpd S.nd _) hz fun h' F' N' =>
    k1 h' _ (S.of F' N' (((u.app Z).pre own).keys _))
theorem ga {x C dx : Addr} {es : List DictEntry} {n : Nat} {name : Str} {v : Value} {ex : Bool} {Q : Value → Shared → Prop} (S : St w g L ns vs own R Z h)
    (hx : h.get? x = some (instObj C dx)) (c : ClsN C) (a : AttN C name) (hd : h.get? dx = some (dictOf es n)) (hl : getL name es = some (some v)) (hv : handedIn v = true) (k1 : Q v ⟨h, ge, dr, tk + 1, os⟩) :
    wpAny (model PR w) A (getAttr (.ref x) name ex) Q E ⟨h, ge, dr, tk, os⟩ :=
  get_own (s := ⟨h, ge, dr, tk, os⟩) S.F S.gx.X (ox := instObj C dx) ⟨hx, rfl, rfl, hd⟩ (c.is.pg _) c.is.hh a.is.fi rfl hl hv k1
theorem wpE_any {e : Expr} {pos : Pos} {s : Shared} {Q : Flow → Shared → Prop} (k1 : wpAny (model PR w) A (eval e env) (fun u_ => Q .next) E s) (h1 : interactive env = false) (h2 : swapsWith e none pos.line env = pure false) :
    wpAny (model PR w) A (exec (.Expr e pos) env) Q E s := wpAny_Expr_any k1 h1 h2
/-! calls of the text's own -/
inductive FnN : Addr → Prop
  | f36 : FnN 36 | f52 : FnN 52 | f71 : FnN 71 | f99 : FnN 99 | f431 : FnN 431 | f68 : FnN 68 | f89 : FnN 89 | f96 : FnN 96 | f117 : FnN 117 | f132 : FnN 132 | f139 : FnN 139 | f153 : FnN 153 | f167 : FnN 167 | f181 : FnN 181 | f189 : FnN 189
  | f203 : FnN 203 | f211 : FnN 211 | f218 : FnN 218 | f225 : FnN 225 | f232 : FnN 232 | f239 : FnN 239 | f246 : FnN 246 | f253 : FnN 253 | f260 : FnN 260 | f267 : FnN 267 | f274 : FnN 274 | f281 : FnN 281
  | f295 : FnN 295 | f302 : FnN 302 | f309 : FnN 309 | f316 : FnN 316 | f323 : FnN 323 | f330 : FnN 330 | f337 : FnN 337 | f344 : FnN 344 | f351 : FnN 351 | f358 : FnN 358 | f365 : FnN 365 | f372 : FnN 372 | f379 : FnN 379 | f386 : FnN 386
  | f440 : FnN 440 | f447 : FnN 447 | f454 : FnN 454 | f459 : FnN 459 | f464 : FnN 464 | f471 : FnN 471 | f478 : FnN 478 | f485 : FnN 485 | f492 : FnN 492 | f499 : FnN 499 | f506 : FnN 506
theorem FnN.is {w : World} {f : Addr} (h : FnN f) : keepIn (Hd.KF w.params) (.ref f) = true := by cases h <;> k_is
theorem cw_k {pos : Pos} {f : Addr} {first : List Value} {e : Expr} {rest : List Expr} {Q : Value → Shared → Prop} (S : St w g L ns vs own R Z h) (hk : FnN f)
    (k1 : wpAny (model PR w) A (spliced (backTo pos (starEach (e :: rest) env))) (fun us s₁ => (Hd.KF w.params).In s₁.heap ∧ wpAny (model PR w) A (call (.ref f) (first ++ us)) Q E s₁) E ⟨h, ge, dr, tk, os⟩)
    (he : starEach (e :: rest) env = (false, eval e env) :: starEach rest env) (hp : ((backTo pos (starEach rest env)).any (·.1)) = false) :
    wpAny (model PR w) A (callWith pos (.ref f) first (backTo pos (starEach (e :: rest) env)) []) Q E ⟨h, ge, dr, tk, os⟩ := callWith_K S.gx.X hk.is k1 he hp
theorem cw_k0 {pos : Pos} {f : Addr} {x : Value} {Q : Value → Shared → Prop} (S : St w g L ns vs own R Z h) (hk : FnN f)
    (k1 : wpAny (model PR w) A (call (.ref f) [x]) Q E ⟨h, ge, dr, tk, os⟩) : wpAny (model PR w) A (callWith pos (.ref f) [x] (backTo pos (starEach [] env)) []) Q E ⟨h, ge, dr, tk, os⟩ :=
  callWith_K0 (s := ⟨h, ge, dr, tk, os⟩) (S.gx.X.keeps S.F.keep) hk.is k1
theorem cw_k00 {pos : Pos} {f : Addr} {Q : Value → Shared → Prop} (S : St w g L ns vs own R Z h) (hk : FnN f)
    (k1 : wpAny (model PR w) A (call (.ref f) []) Q E ⟨h, ge, dr, tk, os⟩) : wpAny (model PR w) A (callWith pos (.ref f) [] (backTo pos (starEach [] env)) []) Q E ⟨h, ge, dr, tk, os⟩ :=
  callWith_K0 (s := ⟨h, ge, dr, tk, os⟩) (S.gx.X.keeps S.F.keep) hk.is k1
theorem and_k0 {f : Value} {us : List Value} {Q : Value → Shared → Prop} (S : St w g L ns vs own R Z h) (k1 : wpAny (model PR w) A (call f us) Q E ⟨h, ge, dr, tk, os⟩) :
    (Hd.KF w.params).In (⟨h, ge, dr, tk, os⟩ : Shared).heap ∧ wpAny (model PR w) A (call f ([] ++ us)) Q E ⟨h, ge, dr, tk, os⟩ := ⟨S.gx.X.keeps S.F.keep, k1⟩
theorem and_k1 {f x : Value} {us : List Value} {Q : Value → Shared → Prop} (S : St w g L ns vs own R Z h) (k1 : wpAny (model PR w) A (call f (x :: us)) Q E ⟨h, ge, dr, tk, os⟩) :
    (Hd.KF w.params).In (⟨h, ge, dr, tk, os⟩ : Shared).heap ∧ wpAny (model PR w) A (call f ([x] ++ us)) Q E ⟨h, ge, dr, tk, os⟩ := ⟨S.gx.X.keeps S.F.keep, k1⟩
theorem cw_m1 {pos : Pos} {id : String} {x : Value} {e : Expr} {rest : List Expr} {Q : Value → Shared → Prop} {s : Shared}
    (k1 : wpAny (model PR w) A (spliced (backTo pos (starEach (e :: rest) env))) (fun us s₁ => wpAny (model PR w) A (call (.builtin id) (x :: us)) Q E s₁) E s)
    (he : starEach (e :: rest) env = (false, eval e env) :: starEach rest env) (hp : ((backTo pos (starEach rest env)).any (·.1)) = false) :
    wpAny (model PR w) A (callWith pos (.builtin id) [x] (backTo pos (starEach (e :: rest) env)) []) Q E s := PyProof.Rows.callWith_method1 k1 he hp

/-- a call's contract at the code: no exception -/
noncomputable def CallC (w : World) (f : Addr) (args : List Value) (d u : Nat) (R Z : Led) (Post : Value → Led → Led → Prop) : Prop :=
  ∀ (g : Heap) (A : Around) (s : Shared) (R0 : Result → Shared → Prop), Gx w g → A.handled = none → A.depth + d < recursionLimit → A.units + u < cLine → Bk g R Z s.heap →
    (∀ v R' Z' h' tk', Bk g R' Z' h' → Post v R' Z' → R0 (.ok (.ret v)) { s with heap := h', toks := tk' }) →
    codeAny (model PR w) A (.call (.ref f) ⟨args, []⟩) R0 s
theorem CallC.call {f args d u Post} (C : CallC w f args d u R Z Post) : Call w f args d u R Z Post := fun g A s u_ u_ G hh hd hu B ret =>
  wpAny_call (C g A s _ G hh hd hu B fun v R' Z' h' tk' B' P => ret v R' Z' h' tk' B' P)
theorem St.useC {s : Shared} {f : Addr} {args : List Value} {d u : Nat} {Post : Value → Led → Led → Prop} {R0 : Result → Shared → Prop}
    (S : St w g L ns vs own R Z s.heap) (C : CallC w f args d u R Z Post) (hh : A.handled = none) (hd : A.depth + d < recursionLimit) (hu : A.units + u < cLine)
    (k : ∀ v R' Z' h' tk', St w g L ns vs own R' Z' h' → Post v R' Z' → R0 (.ok (.ret v)) { s with heap := h', toks := tk' }) : codeAny (model PR w) A (.call (.ref f) ⟨args, []⟩) R0 s := by
  obtain ⟨G, B⟩ := S.cut
  exact C _ A s R0 G hh hd hu B fun v R' Z' h' tk' B' P => k v R' Z' h' tk' (S.back B') P

noncomputable abbrev tokD (w : World) (t1 t2 t3 : Tok) (a b c : Value) : Obj :=
  dictOf [⟨PyData.keyHash w.params "kind", .str "kind" t1, a⟩, ⟨PyData.keyHash w.params "value", .str "value" t2, b⟩, ⟨PyData.keyHash w.params "at", .str "at" t3, c⟩] 3
end

section
variable {w : World} {A : Around} {E : Value → Shared → Prop} {env : Env} {g : Heap} {L : Addr} {ns gs : List Str} {vs vs' : List (Option Value)} {own R Z : Led}
  {h : Heap} {ge : Array GenState} {dr : Drawn} {tk : Nat} {os : OsState}

theorem whl {test : Expr} {body orelse : List Stmt} {pos : Pos} {s : Shared} {Q : Flow → Shared → Prop} (hE : PassesOwn (model PR w) A env E) (I : Nat → Shared → Prop)
    (turn : ∀ n s, I n s → wpAny (model PR w) A (isTrue test env (eval test env)) (fun b s₂ =>
      if b = true then wpAny (model PR w) A (execs body env) (whQ I n Q) E s₂
      else wpAny (model PR w) A (execs orelse env) Q E s₂) E s)
    (n : Nat) (hI : I n s) : wpAny (model PR w) A (exec (.While test body orelse pos) env) Q E s := by
  refine wpAny_While (codeAny_whileLoop I (fun n s hI => ?_) n hI)
  refine wpAny_passesOwn hE (wpAny_mono (turn n s hI) (fun b s₂ hb => ?_) fun u_ u_ e => e)
  cases b with
  | true =>
    simp only [if_true] at hb ⊢
    refine wpAny_passesOwn hE (wpAny_mono hb (fun f s₃ hf => ?_) fun u_ u_ e => e)
    cases f <;> exact hf
  | false =>
    simp only [Bool.false_eq_true, if_false] at hb ⊢
    exact wpAny_passesOwn hE hb

theorem St.other (S : St w g L ns vs own R Z h) {I : Addr} {ito ito' : Obj} {own' : Led} {h' : Heap} (e : own = (I, ito) :: own') (k : ∀ b o, b ∉ [I] → h.get? b = some o → h'.get? b = some o) (hI : h'.get? I = some ito') :
    St w g L ns vs ((I, ito') :: own') R Z h' := by
  subst e
  have D := S.N (I, ito) (.head _)
  have nd := S.nd
  obtain ⟨n1, n2⟩ := List.nodup_cons.mp nd
  have ne : ∀ p ∈ own' ++ (R ++ Z), p.1 ∉ [I] := fun p hp e => n1 (List.mem_map.mpr ⟨p, hp, by simpa using e⟩)
  obtain ⟨oL, es, ep, hL, hr⟩ := S.F.ns
  refine ⟨S.gx, ⟨⟨oL, es, ep, k _ _ (by simpa using Ne.symm D.2.1) hL, hr⟩, fun b o q => k b o (fun e => ?_) (S.F.keep b o q), S.F.above⟩, fun p hp => ?_, nd, S.nn⟩
  · simp only [List.mem_singleton] at e
    rw [e, D.2.2] at q; cases q
  · rcases List.mem_cons.mp hp with rfl | hp
    · exact ⟨hI, D.2⟩
    · have := S.N p (.tail _ hp)
      exact ⟨k _ _ (ne p hp) this.1, this.2⟩

noncomputable def TurnEnd (w : World) (g : Heap) (L : Addr) (ns : List Str) (ge : Array GenState) (dr : Drawn) (os : OsState) (I : Addr) (ito : Obj) (Inv : List (Option Value) → Led → Led → Led → Prop) (Q : Flow → Shared → Prop) (f : Flow) (s₃ : Shared) : Prop :=
  match f with
  | .next | .cont => Ex6 fun vs' own' R' Z' h' tk' => An3 (s₃ = ⟨h', ge, dr, tk', os⟩) (St w g L ns vs' ((I, ito) :: own') R' Z' h') (Inv vs' own' R' Z')
  | .brk => Q .next s₃
  | .ret v => Q (.ret v) s₃

theorem hidT {M : Model} {A : Around} {E : Value → Shared → Prop} {s : Shared} {w : World} {g : Heap} {L : Addr} {ns : List Str} {ge : Array GenState} {dr : Drawn} {os : OsState} {I : Addr} {ito : Obj} {Inv : List (Option Value) → Led → Led → Led → Prop} {Q : Flow → Shared → Prop}
    {m : Sem Flow} (h : ∀ Q1, Imp (TurnEnd w g L ns ge dr os I ito Inv Q) Q1 → wpAny M A m Q1 E s) : wpAny M A m (TurnEnd w g L ns ge dr os I ito Inv Q) E s := hidQ h
section
variable {w : World} {g : Heap} {L : Addr} {ns : List Str} {ge : Array GenState} {dr : Drawn} {os : OsState} {I : Addr} {ito : Obj} {Inv : List (Option Value) → Led → Led → Led → Prop} {Q Q1 : Flow → Shared → Prop} {s : Shared}
theorem unhTB (h : Imp (TurnEnd w g L ns ge dr os I ito Inv Q) Q1) (p : Q .next s) : Q1 .brk s := h.of _ s p
theorem unhTR {v : Value} (h : Imp (TurnEnd w g L ns ge dr os I ito Inv Q) Q1) (p : Q (.ret v) s) : Q1 (.ret v) s := h.of _ s p
end

theorem forW {target : Expr} {body : List Stmt} {I : Addr} {n : Nat} {P : Nat → Value → Prop} {Sw : Nat → Heap → Prop} {keep : Led} {ito : Obj} {Q : Flow → Shared → Prop} (hE : PassesOwn (model PR w) A env E)
    (W : Walks PR w A I (I :: keep.map (·.1)) [I] n P Sw) (hI : ∀ i h, Sw i h → ∃ o, h.get? I = some o)
    (Inv : Nat → List (Option Value) → Led → Led → Led → Prop) (hk : ∀ i vs own R Z, Inv i vs own R Z → ∀ p ∈ keep, p ∈ own ++ (R ++ Z))
    (ht : ∀ (i : Nat) (v : Value) (s : Shared) (Q : Unit → Shared → Prop), Sw i s.heap → Q () s → wpAny (model PR w) A (letOwnedTupleGo target (.ref I) v) Q E s)
    (S : St w g L ns vs ((I, ito) :: own) R Z h) (hs : Sw 0 h) (i0 : Inv 0 vs own R Z)
    (turn : ∀ i v vs own R Z h tk ito, St w g L ns vs ((I, ito) :: own) R Z h → i < n → P i v → Inv i vs own R Z →
      wpAny (model PR w) A (assign target env v) (fun u_ s₂ => wpAny (model PR w) A (execs body env) (TurnEnd w g L ns ge dr os I ito (Inv (i + 1)) Q) E s₂) E ⟨h, ge, dr, tk, os⟩)
    (fin : ∀ vs own R Z h tk, St w g L ns vs own R Z h → Inv n vs own R Z → Q .next ⟨h, ge, dr, tk, os⟩) :
    codeAny (model PR w) A (.forLoop target (.ref I) body [] env) (fun r s' => match r with | .ok f => Q f s' | .error e => cameBackBy (model PR w) A env E e s') ⟨h, ge, dr, tk, os⟩ := by
  refine codeAny_forLoop_any (fun k s' => Ex8 fun i vs own R Z h tk ito => An6 (s' = ⟨h, ge, dr, tk, os⟩) (k = n - i) (i ≤ n) (St w g L ns vs ((I, ito) :: own) R Z h) (Sw i h) (Inv i vs own R Z)) ?_ n ⟨0, vs, own, R, Z, h, tk, ito, rfl, rfl, Nat.zero_le _, S, hs, i0⟩
  rintro k s' ⟨i, vs, own, R, Z, h, tk, ito, rfl, rfl, hi, S, hs, hv⟩
  by_cases hlt : i < n
  · refine W.item i _ _ _ hlt hs fun v h₁ tk₁ hP hs₁ hk₁ => ?_
    obtain ⟨ito₁, hI₁⟩ := hI _ _ hs₁
    have S₁ := S.other rfl hk₁ hI₁
    refine wpAny_passesOwn hE (ht (i + 1) v _ _ hs₁ ?_)
    refine wpAny_passesOwn hE (wpAny_mono (turn i v vs own R Z h₁ tk₁ ito₁ S₁ hlt hP hv) (fun u_ s₂ h₂ => ?_) fun u_ u_ e => e)
    refine wpAny_passesOwn hE (wpAny_mono h₂ (fun f s₃ h₃ => ?_) fun u_ u_ e => e)
    have stay : ∀ {vs' own' R' Z' h' tk'}, s₃ = ⟨h', ge, dr, tk', os⟩ → St w g L ns vs' ((I, ito₁) :: own') R' Z' h' → Inv (i + 1) vs' own' R' Z' →
        ∃ m, m < n - i ∧ Ex8 fun i vs own R Z h tk ito => An6 (s₃ = ⟨h, ge, dr, tk, os⟩) (m = n - i) (i ≤ n) (St w g L ns vs ((I, ito) :: own) R Z h) (Sw i h) (Inv i vs own R Z) := by
      intro vs' own' R' Z' h' tk' e S' v'
      refine ⟨n - (i + 1), by (first | lia | omega), i + 1, vs', own', R', Z', h', tk', ito₁, e, rfl, hlt, S', W.frame _ _ _ hs₁ fun b hb o eo => ?_, v'⟩
      rcases List.mem_cons.mp hb with rfl | hb
      · rw [hI₁] at eo; cases eo; exact (S'.N _ (.head _)).1
      · obtain ⟨p, hp, rfl⟩ := List.mem_map.mp hb
        have a := (S₁.N p (.tail _ (hk _ _ _ _ _ hv p hp))).1
        rw [a] at eo; cases eo
        exact (S'.N p (.tail _ (hk _ _ _ _ _ v' p hp))).1
    cases f with
    | next => obtain ⟨vs', own', R', Z', h', tk', e, S', v'⟩ := h₃; exact stay e S' v'
    | cont => obtain ⟨vs', own', R', Z', h', tk', e, S', v'⟩ := h₃; exact stay e S' v'
    | brk => exact h₃
    | ret v => exact h₃
  · have : i = n := by (first | lia | omega)
    subst this
    refine W.done _ _ _ hs fun h₁ tk₁ hk₁ => ?_
    refine wpAny_execs_nil (fin vs own R Z h₁ tk₁ ?_ hv)
    obtain ⟨oL, es, ep, hL, hr⟩ := S.F.ns
    have D := S.N (I, ito) (.head _)
    obtain ⟨n1, n2⟩ := List.nodup_cons.mp S.nd
    have ne : ∀ p ∈ own ++ (R ++ Z), p.1 ∉ [I] := fun p hp e => n1 (List.mem_map.mpr ⟨p, hp, by simpa using e⟩)
    refine ⟨S.gx, ⟨⟨oL, es, ep, hk₁ _ _ (by simpa using Ne.symm D.2.1) hL, hr⟩, fun b o q => hk₁ b o (fun e => ?_) (S.F.keep b o q), S.F.above⟩, fun p hp => ?_, n2, S.nn⟩
    · simp only [List.mem_singleton] at e
      rw [e, D.2.2] at q; cases q
    · have := S.N p (.tail _ hp)
      exact ⟨hk₁ _ _ (ne p hp) this.1, this.2⟩

theorem St.pushA (S : St w g L ns vs own R Z h) (o : Obj) (hf : o.isFreed = false) : St w g L ns vs ((h.objs.size, o) :: own) R Z (h.push o) ∧ (h.push o).get? h.objs.size = some o := ⟨S.push o hf, Heap.get?_push_size _ hf⟩

/-- for x in a list: the list stands in the ledger all along -/
theorem for_list {target : Expr} {body : List Stmt} {l : Addr} {lo : Obj} {items : List Value} {Q : Flow → Shared → Prop} (hE : PassesOwn (model PR w) A env E) (hh : A.handled = none) (S : St w g L ns vs own R Z h)
    (hl : (l, lo) ∈ own ++ (R ++ Z)) (hi : IsL lo items) (ht : ∀ v it, letOwnedTupleGo target it v = pure ())
    (Inv : Nat → List (Option Value) → Led → Led → Led → Prop) (hk : ∀ i vs own R Z, Inv i vs own R Z → (l, lo) ∈ own ++ (R ++ Z)) (i0 : Inv 0 vs own R Z)
    (turn : ∀ i v vs own R Z h tk I ito, St w g L ns vs ((I, ito) :: own) R Z h → items[i]? = some v → Inv i vs own R Z →
      wpAny (model PR w) A (assign target env v) (fun u_ s₂ => wpAny (model PR w) A (execs body env) (TurnEnd w g L ns ge dr os I ito (Inv (i + 1)) Q) E s₂) E ⟨h, ge, dr, tk, os⟩)
    (fin : ∀ vs own R Z h tk, St w g L ns vs own R Z h → Inv items.length vs own R Z → Q .next ⟨h, ge, dr, tk, os⟩) :
    wpAny (model PR w) A (pyIter (.ref l)) (fun it s₂ => codeAny (model PR w) A (.forLoop target it body [] env) (fun r s' => match r with | .ok f => Q f s' | .error e => cameBackBy (model PR w) A env E e s') s₂) E ⟨h, ge, dr, tk, os⟩ := by
  have hL := S.isList hl hi
  refine wpAny_pyIter_list hL ?_
  obtain ⟨S1, g1⟩ := S.pushA { cls := .type "list_iterator", data := .fields #[.ref l, .int 0 0] } rfl
  have hne : l ≠ h.objs.size := Nat.ne_of_lt (Heap.lt_size (S.get hl))
  refine forW (n := items.length) (P := fun i v => items[i]? = some v) (Sw := fun i h' => h'.IsListIter h.objs.size l i ∧ h'.IsList l items.toArray) (keep := [(l, lo)]) hE ?_ (fun i h' x => let ⟨o, ho, _⟩ := x.1; ⟨o, ho⟩) Inv
    (fun i vs own R Z v p hp => by simp only [List.mem_singleton] at hp; subst hp; exact hk i vs own R Z v) (fun i v s Q u_ hq => by rw [ht]; exact wpAny_pure hq) S1 ⟨⟨_, g1, rfl, rfl⟩, ?_⟩ i0 (fun i v vs own R Z h tk ito S u_ hP hv => turn i v vs own R Z h tk _ ito S hP hv) fin
  · have := Walks.list (prog := PR) (w := w) (A := A) hh h.objs.size l hne items.toArray
    simpa using this
  · exact S1.isList (by rcases List.mem_append.mp hl with q | q; exact memO (.tail _ q); exact List.mem_append_right _ q) hi

/-- for x in range(..): step by one or by minus one -/
theorem for_range {target : Expr} {body : List Stmt} {r : Addr} {a b c : Int} {t u v : Tok} {n : Nat} {Q : Flow → Shared → Prop} (hE : PassesOwn (model PR w) A env E) (hh : A.handled = none) (S : St w g L ns vs own R Z h)
    (hr : IsRange h r a b c t u v) (hsm : Builtin.Range.small a b c = true) (hn : Builtin.Range.rangeSize a b c = n) (ht : ∀ v it, letOwnedTupleGo target it v = pure ())
    (Inv : Nat → List (Option Value) → Led → Led → Led → Prop) (i0 : Inv 0 vs own R Z)
    (turn : ∀ i t vs own R Z h tk I ito, St w g L ns vs ((I, ito) :: own) R Z h → i < n → Inv i vs own R Z →
      wpAny (model PR w) A (assign target env (.int (a + i * c) t)) (fun u_ s₂ => wpAny (model PR w) A (execs body env) (TurnEnd w g L ns ge dr os I ito (Inv (i + 1)) Q) E s₂) E ⟨h, ge, dr, tk, os⟩)
    (fin : ∀ vs own R Z h tk, St w g L ns vs own R Z h → Inv n vs own R Z → Q .next ⟨h, ge, dr, tk, os⟩) :
    wpAny (model PR w) A (pyIter (.ref r)) (fun it s₂ => codeAny (model PR w) A (.forLoop target it body [] env) (fun r s' => match r with | .ok f => Q f s' | .error e => cameBackBy (model PR w) A env E e s') s₂) E ⟨h, ge, dr, tk, os⟩ := by
  refine wpAny_pyIter_range hr hsm ?_
  obtain ⟨S1, g1⟩ := S.pushA { cls := .type "range_iterator", data := .fields #[rawInt a, rawInt (Builtin.Range.rangeSize a b c), rawInt c] } rfl
  refine forW (n := n) (P := fun i v => ∃ t, v = .int (a + i * c) t) (Sw := fun i h' => IsRangeIter h' h.objs.size (a + (i : Nat) * c) ((n : Int) - (i : Nat)) c) (keep := []) hE (Walks.range hh _ a c n) (fun i h' x => ⟨_, x⟩) Inv
    (fun i vs own R Z v p hp => nomatch hp) (fun i v s Q u_ hq => by rw [ht]; exact wpAny_pure hq) S1 ?_ i0 (fun i v vs own R Z h tk ito S hi ⟨t, e⟩ hv => by subst e; exact turn i t vs own R Z h tk _ ito S hi hv) fin
  show (h.push _).get? _ = _
  rw [g1, hn]
  simp

set_option tactic.hygienic true in
/-- for .. in reversed(a list) -/
theorem for_rev {target : Expr} {body : List Stmt} {I l : Addr} {lo ito : Obj} {items : List Value} {Q : Flow → Shared → Prop} (hE : PassesOwn (model PR w) A env E) (hh : A.handled = none) (S : St w g L ns vs ((I, ito) :: own) R Z h)
    (hl : (l, lo) ∈ own ++ (R ++ Z)) (hi : IsL lo items) (hito : ito = revObj l ((items.length : Int) - 1))
    (Inv : Nat → List (Option Value) → Led → Led → Led → Prop) (hk : ∀ i vs own R Z, Inv i vs own R Z → (l, lo) ∈ own ++ (R ++ Z)) (i0 : Inv 0 vs own R Z)
    (turn : ∀ i v vs own R Z h tk ito, St w g L ns vs ((I, ito) :: own) R Z h → i < items.length → items[items.length - 1 - i]? = some v → Inv i vs own R Z →
      wpAny (model PR w) A (assign target env v) (fun u_ s₂ => wpAny (model PR w) A (execs body env) (TurnEnd w g L ns ge dr os I ito (Inv (i + 1)) Q) E s₂) E ⟨h, ge, dr, tk, os⟩)
    (fin : ∀ vs own R Z h tk, St w g L ns vs own R Z h → Inv items.length vs own R Z → Q .next ⟨h, ge, dr, tk, os⟩) :
    wpAny (model PR w) A (pyIter (.ref I)) (fun it s₂ => codeAny (model PR w) A (.forLoop target it body [] env) (fun r s' => match r with | .ok f => Q f s' | .error e => cameBackBy (model PR w) A env E e s') s₂) E ⟨h, ge, dr, tk, os⟩ := by
  subst hito
  have g1 : h.get? I = some (revObj l ((items.length : Int) - 1)) := (S.N _ (.head _)).1
  have hl' : (l, lo) ∈ ((I, revObj l ((items.length : Int) - 1)) :: own) ++ (R ++ Z) := .tail _ hl
  have hne : l ≠ I := by
    intro e
    have := (List.nodup_cons.mp S.nd).1
    exact this (List.mem_map.mpr ⟨_, hl, e⟩)
  have it0 : h.IsRevIter I l ((items.length : Int) - 1) := ⟨_, g1, rfl, rfl⟩
  refine wpAny_pyIter_revIter it0 ?_
  refine forW (n := items.length) (P := fun i v => items[items.length - 1 - i]? = some v) (Sw := fun i h' => i ≤ items.length ∧ h'.IsRevIter I l ((items.length : Int) - 1 - (i : Int)) ∧ h'.IsList l items.toArray) (keep := [(l, lo)]) hE ?_ (fun i h' x => let ⟨o, ho, _⟩ := x.2.1; ⟨o, ho⟩) Inv
    (fun i vs own R Z v p hp => by simp only [List.mem_singleton] at hp; subst hp; exact hk i vs own R Z v) (fun i v s Q hS hq => ?_) S ⟨Nat.zero_le _, by simpa using it0, S.isList hl' hi⟩ i0 turn fin
  · have := Walks.listRev (prog := PR) (w := w) (A := A) hh I l hne items.toArray
    simpa using this
  · obtain ⟨o, ho, hc, hd⟩ := hS.2.1
    unfold letOwnedTupleGo
    split
    all_goals first
      | exact wpAny_pure hq
      | (split
         · rename_i r a e
           cases e
           refine wpAny_bind (wpAny_load ho ?_)
           rw [hc, hd]
           dsimp only
           rw [if_neg (by simp)]
           exact wpAny_pure hq
         · exact wpAny_pure hq)
theorem rev_call {l : Addr} {lo : Obj} {items : List Value} {Q : Value → Shared → Prop} (S : St w g L ns vs own R Z h) (hl : (l, lo) ∈ own ++ (R ++ Z)) (hi : IsL lo items)
    (k1 : ∀ I h', St w g L ns vs ((I, revObj l ((items.length : Int) - 1)) :: own) R Z h' → Q (.ref I) ⟨h', ge, dr, tk, os⟩) : wpAny (model PR w) A (call (.type "reversed") [.ref l]) Q E ⟨h, ge, dr, tk, os⟩ :=
  call_reversed_list (S.isList hl hi) (by
    have := k1 _ _ (S.push (revObj l ((items.length : Int) - 1)) rfl)
    simpa using this)
theorem range_call {n : Int} {t : Tok} {Q : Value → Shared → Prop} (S : St w g L ns vs own R Z h)
    (k1 : ∀ r t1 t2 h' tk', St w g L ns vs ((r, { cls := .type "range", data := .fields #[.int 0 t1, .int n t, .int 1 t2] }) :: own) R Z h' → Q (.ref r) ⟨h', ge, dr, tk', os⟩) :
    wpAny (model PR w) A (call (.type "range") [.int n t]) Q E ⟨h, ge, dr, tk, os⟩ := call_range_1 (s := ⟨h, ge, dr, tk, os⟩) (k1 _ _ _ _ _ (S.push _ rfl))
theorem range_call3 {a b c : Int} {t u v : Tok} {Q : Value → Shared → Prop} (S : St w g L ns vs own R Z h) (hc : c ≠ 0) (hp : Builtin.divisionGoesByPylong (b - a) c = false)
    (k1 : ∀ r h' tk', St w g L ns vs ((r, { cls := .type "range", data := .fields #[.int a t, .int b u, .int c v] }) :: own) R Z h' → Q (.ref r) ⟨h', ge, dr, tk', os⟩) :
    wpAny (model PR w) A (call (.type "range") [.int a t, .int b u, .int c v]) Q E ⟨h, ge, dr, tk, os⟩ := call_range_3 (s := ⟨h, ge, dr, tk, os⟩) hc (k1 _ _ _ (S.push _ rfl)) (.inl hp)

theorem size_none {b : Addr} (hb : h.objs.size ≤ b) : h.get? b = none := by
  cases q : h.get? b with
  | none => rfl
  | some o => exact absurd (Heap.lt_size q) (Nat.not_lt.mpr hb)

theorem ad0 (n : Nat) : n ≠ n + 1 + 1 := by (first | lia | omega)
theorem ad1 (n : Nat) : n + 1 ≠ n + 1 + 1 := by (first | lia | omega)
theorem ad2 {b n : Nat} (h : b < n) : b ≠ n ∧ b ≠ n + 1 ∧ b ≠ n + 1 + 1 := by (first | lia | omega)
theorem ad3 {b n : Nat} (h : n + 1 < b) : n ≤ b := by (first | lia | omega)
theorem ad4 (n : Nat) : n ≠ n + 1 := by (first | lia | omega)
theorem St.off {C : Addr} {o : Obj} (S : St w g L ns vs ((C, o) :: own) R Z h) {h' : Heap} (hs : Heap.SameBut C h h') : St w g L ns vs own R Z h' := by
  have D := S.N (C, o) (.head _)
  obtain ⟨n1, n2⟩ := List.nodup_cons.mp S.nd
  refine ⟨S.gx, S.F.change hs D.2.1 D.2.2, fun p hp => ?_, n2, S.nn⟩
  have := S.N p (.tail _ hp)
  exact ⟨(hs.2 _ (fun e => n1 (List.mem_map.mpr ⟨p, hp, e⟩))).trans this.1, this.2⟩
/-- a comprehension's loop -/
theorem lc_core {elt iter : Expr} {x : Str} {px pos : Pos} {scope : Scope} {l : Addr} {lo : Obj} {items : List Value} {gs' : List Str} {RR : Value → Env → Result → Shared → Prop} (V : EvE env L ns gs) (Vc : Ev scope [x] gs') (hh : A.handled = none)
    (hcell : ∀ z ∈ scope.names, z.2 ≠ .cell)
    (S : St w g L ns vs own R Z h) (hl : (l, lo) ∈ own ++ (R ++ Z)) (hi : IsL lo items) (hz : items.length ≤ 1000000)
    (Inv : Nat → Led → Led → List Value → Prop) (hk : ∀ i R Z acc, Inv i R Z acc → (l, lo) ∈ own ++ (R ++ Z)) (i0 : Inv 0 R Z [])
    (turn : ∀ i v acc R Z h tk C D n it ito gc, Gx w gc → EvE (compEnv scope C env) C [x] gs' → St w gc C [x] [some v] [(it, ito), (D, listOf acc.toArray n)] R Z h → items[i]? = some v → Inv i R Z acc →
      wpAny (model PR w) A (eval elt (compEnv scope C env)) (fun y s₃ => ∃ R' Z' h' tk', s₃ = ⟨h', ge, dr, tk', os⟩ ∧ St w gc C [x] [some v] [(it, ito), (D, listOf acc.toArray n)] R' Z' h' ∧ Inv (i + 1) R' Z' (acc ++ [y])) (fun u_ u_ => False) ⟨h, ge, dr, tk, os⟩)
    (fin : ∀ (C : Addr) (cobj : Obj) (m : Str → Option Value) (D : Addr) (acc : List Value) (n : Nat) (R Z : Led) (h : Heap) (tk : Nat), acc.length = items.length → St w g L ns vs ((C, cobj) :: (D, listOf acc.toArray n) :: own) R Z h → (∀ h' : Heap, h'.get? C = some cobj → h'.Ns C m) → Inv items.length R Z acc → RR (.ref D) (compEnv scope C env) (.ok .next) ⟨h, ge, dr, tk, os⟩) :
    wpAny (model PR w) A (pyIter (.ref l)) (fun it s₂ => wpAny (model PR w) A (newList []) (fun acc s₃ =>
      wpAny (model PR w) A (newFunctionEnv scope env.globals [] [] env.qual none .none (some env)) (fun cenv s₄ =>
        codeAny (model PR w) A (.compStart (.ListComp elt [⟨.Name x px, iter, [], 0⟩] scope pos) 0 it acc { cenv with scope := scope }) (RR acc { cenv with scope := scope }) s₄) E s₃) E s₂) E ⟨h, ge, dr, tk, os⟩ := by
  have hL := S.isList hl hi
  obtain ⟨G, B⟩ := S.cut
  refine wpAny_pyIter_list hL ?_
  refine wpAny_newObj_type (s := ⟨h.push _, ge, dr, tk, os⟩) (T := "list") (data := .seq #[]) ?_ (by show ([] : List Value).toArray.size ≤ sizeLine; rw [sizeLine_eq]; simp)
  refine wpAny_newFunctionEnv (s := ⟨(h.push _).push _, ge, dr, tk, os⟩) hcell (fun u_ hx => nomatch hx) (fun h₃ hns hsb => ?_) Vc.k
  have s1 : (h.push { cls := .type "list_iterator", data := .fields #[.ref l, .int 0 0] }).objs.size = h.objs.size + 1 := Heap.size_push ..
  have s2 : ((h.push { cls := .type "list_iterator", data := .fields #[.ref l, .int 0 0] }).push { cls := .type "list", data := .seq #[] }).objs.size = h.objs.size + 1 + 1 := by rw [Heap.size_push, s1]
  have keep : ∀ b o, ((h.push { cls := .type "list_iterator", data := .fields #[.ref l, .int 0 0] }).push { cls := .type "list", data := .seq #[] }).get? b = some o → h₃.get? b = some o := fun b o e =>
    hsb.extBut b o (Nat.ne_of_lt (Heap.lt_size e)) (Heap.get?_push_of_some _ e)
  have keep0 : ∀ b o, h.get? b = some o → h₃.get? b = some o := fun b o e => keep b o (Heap.get?_push_of_some _ (Heap.get?_push_of_some _ e))
  have git : h₃.get? h.objs.size = some { cls := .type "list_iterator", data := .fields #[.ref l, .int 0 0] } := keep _ _ (Heap.get?_push_of_some _ (Heap.get?_push_size _ rfl))
  have gD : h₃.get? (h.objs.size + 1) = some (listOf ([] : List Value).toArray 0) := by
    have := Heap.get?_push_size (h := h.push { cls := .type "list_iterator", data := .fields #[.ref l, .int 0 0] }) (o := { cls := .type "list", data := .seq #[] }) rfl
    rw [s1] at this
    exact keep _ _ this
  rw [s2] at hns hsb
  have C0 := S.bk
  have low : ∀ p ∈ R ++ Z, p.1 < h.objs.size := fun p hp => Heap.lt_size (C0.res p hp).1
  have gnone : ∀ b, h.objs.size ≤ b → (hideAll h ((R ++ Z).map (·.1))).get? b = none := fun b hb => by
    cases q : (hideAll h ((R ++ Z).map (·.1))).get? b with
    | none => rfl
    | some o => have := of_hideAll _ q; rw [size_none hb] at this; cases this
  have S3 : St w (hideAll h ((R ++ Z).map (·.1))) (h.objs.size + 1 + 1) [x] [none] [(h.objs.size, { cls := .type "list_iterator", data := .fields #[.ref l, .int 0 0] }), (h.objs.size + 1, listOf ([] : List Value).toArray 0)] R Z h₃ := by
    refine ⟨G, ⟨?_, fun b o e => keep0 b o (of_hideAll _ e), by rw [hideAll_size]; exact Nat.le_succ_of_le (Nat.le_succ _)⟩, fun p hp => ?_, ?_, by simp⟩
    · have e : (fun y => (([] : List (Str × Value)).reverse.lookup y)) = look [x] [none] := by funext y; show none = (if y = x then none else look [] [] y); split <;> rfl
      rw [← e]; exact hns
    · rcases List.mem_cons.mp hp with rfl | hp
      · exact ⟨git, ad0 _, gnone _ (Nat.le_refl _)⟩
      · rcases List.mem_cons.mp hp with rfl | hp
        · exact ⟨gD, ad1 _, gnone _ (Nat.le_succ _)⟩
        · exact ⟨keep0 _ _ (B.res p hp).1, (ad2 (low p hp)).2.2, (B.res p hp).2⟩
    · have nd := B.nd
      show (h.objs.size :: (h.objs.size + 1) :: (R ++ Z).map (·.1)).Nodup
      refine List.nodup_cons.mpr ⟨fun hm => ?_, List.nodup_cons.mpr ⟨fun hm => ?_, nd⟩⟩
      · rcases List.mem_cons.mp hm with e | hm
        · exact ad4 _ e
        · obtain ⟨p, hp, e⟩ := List.mem_map.mp hm; exact (ad2 (low p hp)).1 e
      · obtain ⟨p, hp, e⟩ := List.mem_map.mp hm; exact (ad2 (low p hp)).2.1 e
  have W := Vc.comp (C := h.objs.size + 1 + 1) V
  -- the loop
  have loop : ∀ s', s' = (⟨h₃, ge, dr, tk, os⟩ : Shared) → codeAny (model PR w) A (.compLoop (.ListComp elt [⟨.Name x px, iter, [], 0⟩] scope pos) 0 (.ref h.objs.size) (.ref (h.objs.size + 1)) (compEnv scope (h.objs.size + 1 + 1) env))
      (RR (.ref (h.objs.size + 1)) (compEnv scope (h.objs.size + 1 + 1) env)) s' := by
    rintro _ rfl
    refine codeAny_compLoop_list (fun k s' => Ex9 fun i acc R1 Z1 h₄ tk n ito vv => An7 (s' = ⟨h₄, ge, dr, tk, os⟩) (k = items.length - i) (i ≤ items.length) (acc.length = i) (ito.cls = .type "list_iterator" ∧ ito.data = .fields #[.ref l, .int i 0]) (St w (hideAll h ((R ++ Z).map (·.1))) (h.objs.size + 1 + 1) [x] [vv] [(h.objs.size, ito), (h.objs.size + 1, listOf acc.toArray n)] R1 Z1 h₄) (Inv i R1 Z1 acc)) ?_ items.length
      ⟨0, [], R, Z, h₃, tk, 0, _, none, rfl, rfl, Nat.zero_le _, rfl, ⟨rfl, rfl⟩, S3, i0⟩ (fun v => rfl)
    rintro k s' ⟨i, acc, R1, Z1, h₄, tk, n, ito, vv, rfl, rfl, hle, hlen, ⟨hc, hd⟩, S4, hv⟩
    have gi := (S4.N (h.objs.size, ito) (.head _)).1
    have hit : h₄.IsListIter h.objs.size l i := ⟨ito, gi, hc, hd⟩
    have gown : ∀ p ∈ own, (hideAll h ((R ++ Z).map (·.1))).get? p.1 = some p.2 := fun p hp => by
      refine hideAll_get _ (S.N p (List.mem_append_left _ hp)).1 fun hm => ?_
      have nd := S.nd
      rw [List.map_append] at nd
      exact (List.nodup_append.mp nd).2.2 _ (List.mem_map_of_mem hp) _ hm rfl
    have gl : h₄.get? l = some lo := by
      rcases List.mem_append.mp (hk _ _ _ _ hv) with q | q
      · exact S4.F.keep _ _ (gown _ q)
      · exact S4.get (List.mem_append_right _ q)
    have hL4 : h₄.IsList l items.toArray := ⟨lo, gl, hi.c, hi.d⟩
    by_cases hlt : i < items.length
    · have hx : items[i]? = some items[i] := List.getElem?_eq_getElem hlt
      refine wpAny_pyNext_list_item hit hL4 (x := items[i]) (by simpa using hx) fun h5 hit5 hs5 => ?_
      obtain ⟨ito5, g5, c5, d5⟩ := hit5
      have S5 := S4.other rfl (fun b o hb e => hs5.extBut b o (by simpa using hb) e) g5
      refine wpAny_assign_Name ?_
      refine sto W S5 .head fun h6 tk6 S6 => ?_
      refine wpAny_noRaise (wpAny_mono (turn i _ acc R1 Z1 h6 tk6 _ _ n _ ito5 _ G W S6 hx hv) (fun y s₃ hy => ?_) fun u_ u_ e => e)
      obtain ⟨R', Z', h7, tk7, rfl, S7, v7⟩ := hy
      refine appO S7 (.tail .head) (by (first | lia | omega)) fun h8 S8 => ?_
      exact ⟨items.length - (i + 1), by (first | lia | omega), i + 1, acc ++ [y], R', Z', h8, tk7, n + 1, ito5, _, rfl, rfl, hlt, by simp [hlen], ⟨c5, d5⟩, S8, v7⟩
    · have e : i = items.length := by (first | lia | omega)
      subst e
      refine wpAny_pyNext_list_end hh hit hL4 (by simp) fun h5 he5 => ?_
      have hC := S4.F.ns
      obtain ⟨oC, es, ep, hgC, hrC⟩ := hC
      have nd4 := List.nodup_cons.mp S4.nd
      have hC5 : h5.get? (h.objs.size + 1 + 1) = some oC := he5 _ _ (Ne.symm (ad0 _)) hgC
      have up : ∀ p ∈ (h.objs.size + 1 + 1, oC) :: ([(h.objs.size + 1, listOf acc.toArray n)] ++ (R1 ++ Z1)), h5.get? p.1 = some p.2 ∧ (hideAll h ((R ++ Z).map (·.1))).get? p.1 = none := fun p hp => by
        rcases List.mem_cons.mp hp with rfl | hp
        · exact ⟨hC5, gnone _ (Nat.le_succ_of_le (Nat.le_succ _))⟩
        · have q := S4.N p (.tail _ hp)
          exact ⟨he5 _ _ (fun e => nd4.1 (List.mem_map.mpr ⟨p, hp, e⟩)) q.1, q.2.2⟩
      have B4 : Bk (hideAll h ((R ++ Z).map (·.1))) ((h.objs.size + 1 + 1, oC) :: (h.objs.size + 1, listOf acc.toArray n) :: R1) Z1 h5 := by
        refine ⟨fun b o e => ?_, up, List.nodup_cons.mpr ⟨fun hm => ?_, nd4.2⟩, ?_⟩
        · have : b < h.objs.size := by have := Heap.lt_size e; rwa [hideAll_size] at this
          exact he5 b o (ad2 this).1 (S4.F.keep b o e)
        · obtain ⟨p, hp, e⟩ := List.mem_map.mp hm
          exact (S4.N p (.tail _ hp)).2.1 e
        · have := Heap.lt_size (up _ (.tail _ (.head _))).1
          rw [hideAll_size]
          exact ad3 this
      exact fin _ oC _ _ acc n R1 Z1 h5 _ hlen ((S.back B4).take.take.perm (List.Perm.swap _ _ _)) (fun h' e => ⟨oC, es, ep, e, hrC⟩) hv
  dsimp only
  simp only [s1, s2]
  refine codeAny_compStart_list (loop _ rfl) (wpAny_pyIter_listiter (i := 0) (l := l) ⟨_, git, rfl, rfl⟩ (loop _ rfl))
/-- [elt for x in a list] -/
theorem lc_list {elt iter : Expr} {x : Str} {px pos : Pos} {scope : Scope} {l : Addr} {lo : Obj} {items : List Value} {gs' : List Str} {Q : Value → Shared → Prop} (V : EvE env L ns gs) (Vc : Ev scope [x] gs') (hh : A.handled = none)
    (hcell : ∀ z ∈ scope.names, z.2 ≠ .cell)
    (S : St w g L ns vs own R Z h) (hl : (l, lo) ∈ own ++ (R ++ Z)) (hi : IsL lo items) (hz : items.length ≤ 1000000)
    (Inv : Nat → Led → Led → List Value → Prop) (hk : ∀ i R Z acc, Inv i R Z acc → (l, lo) ∈ own ++ (R ++ Z)) (i0 : Inv 0 R Z [])
    (turn : ∀ i v acc R Z h tk C D n it ito gc, Gx w gc → EvE (compEnv scope C env) C [x] gs' → St w gc C [x] [some v] [(it, ito), (D, listOf acc.toArray n)] R Z h → items[i]? = some v → Inv i R Z acc →
      wpAny (model PR w) A (eval elt (compEnv scope C env)) (fun y s₃ => ∃ R' Z' h' tk', s₃ = ⟨h', ge, dr, tk', os⟩ ∧ St w gc C [x] [some v] [(it, ito), (D, listOf acc.toArray n)] R' Z' h' ∧ Inv (i + 1) R' Z' (acc ++ [y])) (fun u_ u_ => False) ⟨h, ge, dr, tk, os⟩)
    (fin : ∀ D acc n R Z h tk, acc.length = items.length → St w g L ns vs ((D, listOf acc.toArray n) :: own) R Z h → Inv items.length R Z acc → Q (.ref D) ⟨h, ge, dr, tk, os⟩) :
    wpAny (model PR w) A (pyIter (.ref l)) (fun it s₂ => wpAny (model PR w) A (newList []) (fun acc s₃ =>
      wpAny (model PR w) A (newFunctionEnv scope env.globals [] [] env.qual none .none (some env)) (fun cenv s₄ =>
        codeAny (model PR w) A (.compStart (.ListComp elt [⟨.Name x px, iter, [], 0⟩] scope pos) 0 it acc { cenv with scope := scope })
          (fun r s' => ∃ m, s'.heap.Ns cenv.locals m ∧ ∀ h', Heap.SameBut cenv.locals s'.heap h' →
            match r with | .ok _ => Q acc { s' with heap := h' } | .error x => wpAny (model PR w) A (passOn "comprehension.variables-let-go" x { cenv with scope := scope }) Q E { s' with heap := h' }) s₄) E s₃) E s₂) E ⟨h, ge, dr, tk, os⟩ := by
  refine lc_core (RR := fun acc cenv r s' => ∃ m, s'.heap.Ns cenv.locals m ∧ ∀ h', Heap.SameBut cenv.locals s'.heap h' →
            match r with | .ok _ => Q acc { s' with heap := h' } | .error x => wpAny (model PR w) A (passOn "comprehension.variables-let-go" x cenv) Q E { s' with heap := h' }) V Vc hh hcell S hl hi hz Inv hk i0 turn fun C cobj m D acc n R Z h tk e S' hns hv => ?_
  refine ⟨m, hns _ (S'.get (.head _)), fun h' hs' => ?_⟩
  exact fin D acc n R Z h' tk e (S'.off hs') hv
/-- x = [elt for x in a list] -/
theorem lc_asg {elt iter : Expr} {x y : Str} {px py pos spos : Pos} {scope : Scope} {gs' : List Str} {Q : Flow → Shared → Prop}
    (hsw : swapsWith (.ListComp elt [⟨.Name x px, iter, [], 0⟩] scope pos) (some (.Name y py)) spos.line env = pure true) (hfree : ∀ z ∈ scope.names, z.2 ≠ .free) (hcell : ∀ z ∈ scope.names, z.2 ≠ .cell) (V : EvE env L ns gs) (Vc : Ev scope [x] gs') (hh : A.handled = none)
    (hnames : ∀ z ∈ scope.names, z.2 = .local → scope.names.lookup z.1 = some .local) (hs : ∀ x, foldedSetIterable iter env x = pure x) {s : Shared}
    (h : wpAny (model PR w) A (eval iter env) (fun xv s₁ => Ex13 fun (l : Addr) (lo : Obj) (items : List Value) (vs : List (Option Value)) (own : Led) (R : Led) (Z : Led) (h : Heap) (ge : Array GenState) (dr : Drawn) (tk : Nat) (os : OsState) (Inv : Nat → Led → Led → List Value → Prop) => An10 (xv = .ref l) (s₁ = ⟨h, ge, dr, tk, os⟩) (St w g L ns vs own R Z h) ((l, lo) ∈ own ++ (R ++ Z)) (IsL lo items) (items.length ≤ 1000000) (∀ i R Z acc, Inv i R Z acc → (l, lo) ∈ own ++ (R ++ Z)) (Inv 0 R Z []) (∀ (i : Nat) (v : Value) (acc : List Value) (R Z : Led) (h : Heap) (tk : Nat) (C D : Addr) (n : Nat) (it : Addr) (ito : Obj) (gc : Heap), Gx w gc → EvE (compEnv scope C env) C [x] gs' → St w gc C [x] [some v] [(it, ito), (D, listOf acc.toArray n)] R Z h → items[i]? = some v → Inv i R Z acc → wpAny (model PR w) A (eval elt (compEnv scope C env)) (fun y s₃ => ∃ R' Z' h' tk', s₃ = ⟨h', ge, dr, tk', os⟩ ∧ St w gc C [x] [some v] [(it, ito), (D, listOf acc.toArray n)] R' Z' h' ∧ Inv (i + 1) R' Z' (acc ++ [y])) (fun u_ u_ => False) ⟨h, ge, dr, tk, os⟩) (∀ (D : Addr) (acc : List Value) (n : Nat) (R Z : Led) (h : Heap) (tk : Nat), acc.length = items.length → St w g L ns vs ((D, listOf acc.toArray n) :: own) R Z h → Inv items.length R Z acc → ∃ vs', Put ns vs y (.ref D) vs' ∧ ∀ (h' : Heap) (tk' : Nat), St w g L ns vs' ((D, listOf acc.toArray n) :: own) R Z h' → Q .next ⟨h', ge, dr, tk', os⟩)) E s) :
    wpAny (model PR w) A (exec (.Assign [.Name y py] (.ListComp elt [⟨.Name x px, iter, [], 0⟩] scope pos) spos) env) Q E s := by
  rw [exec_Assign_Name_used _ _ _ _ hsw]
  refine wpAny_bind (wpAny_standAt (wpAny_bind ?_))
  show wpAny _ A (do let _ ← comprehension (.ListComp elt [⟨.Name x px, iter, [], 0⟩] scope pos) scope env _ (newList []) false (eval iter env) (some (assign (.Name y py) env))) _ _ s
  refine wpAny_bind (wpAny_mono (wpAny_comprehension_use (Q := fun u_ s' => Q .next s') rfl hs hfree Vc.k hnames (wpAny_mono h (fun xv s₁ h₁ => ?_) fun u_ u_ e => e))
    (fun u_ s' hq => wpAny_pure (wpAny_pure hq)) fun u_ u_ e => e)
  obtain ⟨l, lo, items, vs, own, R, Z, h, ge, dr, tk, os, Inv, rfl, rfl, S, hl, hi, hz, hk, i0, turn, fin⟩ := h₁
  refine lc_core (RR := fun acc cenv r s' => match r with
      | .ok _ => wpAny (model PR w) A (assign (.Name y py) env acc) (fun u_ s'' => ∃ m, s''.heap.Ns cenv.locals m ∧ ∀ h', Heap.SameBut cenv.locals s''.heap h' → Q .next { s'' with heap := h' }) E s'
      | .error x => ∃ m, s'.heap.Ns cenv.locals m ∧ ∀ h', Heap.SameBut cenv.locals s'.heap h' → wpAny (model PR w) A (passOn "comprehension.variables-let-go" x cenv) (fun u_ s' => Q .next s') E { s' with heap := h' })
    V Vc hh hcell S hl hi hz Inv hk i0 turn fun C cobj m D acc n R Z h tk e S' hns hv => ?_
  obtain ⟨vs', hp, fin'⟩ := fin D acc n R Z h tk e (S'.drop (.cons _ (List.Sublist.refl _))) hv
  refine wpAny_assign_Name (sto V S' hp fun h2 tk2 S2 => ?_)
  exact ⟨m, hns _ (S2.get (.head _)), fun h' hs' => fin' h' tk2 (S2.off hs')⟩
end

/-! expressions that change nothing but the tokens: one relation, no continuation in it -/
set_option genInjectivity false in
structure Cx where
  w : World
  env : Env
  g : Heap
  L : Addr
  ns : List Str
  gs : List Str
  vs : List (Option Value)
  own : Led
  R : Led
  Z : Led
  h : Heap
  ge : Array GenState
  dr : Drawn
  os : OsState
structure Cx.Ok (c : Cx) : Prop where
  V : EvE c.env c.L c.ns c.gs
  S : St c.w c.g c.L c.ns c.vs c.own c.R c.Z c.h
noncomputable abbrev Cx.st (c : Cx) (tk : Nat) : Shared := ⟨c.h, c.ge, c.dr, tk, c.os⟩
structure Pu (c : Cx) (e : Expr) (tk : Nat) (v : Value) (tk' : Nat) : Prop where
  ev : ∀ (A : Around) (Q E : Value → Shared → Prop), Q v (c.st tk') → wpAny (model PR c.w) A (eval e c.env) Q E (c.st tk)
inductive PuL (c : Cx) : List Expr → Nat → List Value → Nat → Prop
  | nil {tk} : PuL c [] tk [] tk
  | more {e rest v us tk tk1 tk2} (x : Pu c e tk v tk1) (y : PuL c rest tk1 us tk2) (he : starEach (e :: rest) c.env = (false, eval e c.env) :: starEach rest c.env) : PuL c (e :: rest) tk (v :: us) tk2
theorem PuL.any {c : Cx} {pos : Pos} {l tk us tk'} (p : PuL c l tk us tk') : (backTo pos (starEach l c.env)).any (·.1) = false := by
  induction p with
  | nil => rfl
  | more x y he ih => rw [he]; exact ih
theorem PuL.ev {c : Cx} {l tk us tk'} (p : PuL c l tk us tk') : ∀ (pos : Pos) (A : Around) (Q : List Value → Shared → Prop) (E : Value → Shared → Prop), Q us (c.st tk') → wpAny (model PR c.w) A (spliced (backTo pos (starEach l c.env))) Q E (c.st tk) := by
  induction p with
  | nil => exact fun u_ u_ u_ u_ q => PyProof.Rows.spliced_none q
  | more x y he ih => exact fun u_ u_ u_ u_ q => PyProof.Rows.spliced_more (x.ev _ _ _ (ih _ _ _ _ q)) he
section
variable {c : Cx} {tk tk1 tk2 : Nat}
theorem Pu.name {x : Str} {p : Pos} {v : Value} (K : c.Ok) (hx : Has c.ns c.vs x v) : Pu c (.Name x p) tk v tk := ⟨fun u_ u_ u_ q => ldS K.V K.S hx q⟩
theorem Pu.int {i : Int} {k p} : Pu c (.Constant (.int i) k p) tk (.int i tk) (tk + 1) := ⟨fun u_ u_ u_ q => c_int q⟩
theorem Pu.str {i : Str} {k p} : Pu c (.Constant (.str i) k p) tk (.str i tk) (tk + 1) := ⟨fun u_ u_ u_ q => c_str q⟩
theorem Pu.none {k p} : Pu c (.Constant .none k p) tk .none tk := ⟨fun u_ u_ u_ q => PyProof.Rows.Constant_none q⟩
theorem Pu.bool {b : Bool} {k p} : Pu c (.Constant (.bool b) k p) tk (.bool b) tk := ⟨fun u_ u_ u_ q => PyProof.Rows.Constant_bool q⟩
theorem Pu.add {l r : Expr} {p : Pos} {a b : Int} {t u : Tok} (x : Pu c l tk (.int a t) tk1) (y : Pu c r tk1 (.int b u) tk2) : Pu c (.BinOp l .Add r p) tk (.int (a + b) tk2) (tk2 + 1) :=
  ⟨fun u_ u_ u_ q => wpAny_BinOp (x.ev _ _ _ (y.ev _ _ _ (o_add q)))⟩
theorem Pu.attr {e : Expr} {a : Str} {p : Pos} {x C dx : Addr} {es : List DictEntry} {n : Nat} {v : Value} (K : c.Ok) (o : Pu c e tk (.ref x) tk1) (hx : c.h.get? x = some (instObj C dx)) (cl : ClsN C) (at_ : AttN C a) (hd : c.h.get? dx = some (dictOf es n))
    (hl : getL a es = some (some v)) (hv : handedIn v = true)
    (he : eval (.Attribute e a p) c.env = (do
      let o ← eval e c.env
      standAt p.atName
      let r ← holding [o] (getAttr o a true)
      letTemporaryGo e o r
      pure r)) : Pu c (.Attribute e a p) tk v (tk1 + 1) :=
  ⟨fun u_ u_ u_ q => PyProof.Rows.Attribute_any_ (o.ev _ _ _ (ga K.S hx cl at_ hd hl hv q)) he⟩
theorem PuL.name {x : Str} {p : Pos} {rest : List Expr} {v : Value} {us : List Value} (K : c.Ok) (hx : Has c.ns c.vs x v) (y : PuL c rest tk us tk2) : PuL c (.Name x p :: rest) tk (v :: us) tk2 := .more (.name K hx) y (by with_unfolding_all rfl)
theorem PuL.int {i : Int} {k p} {rest : List Expr} {us : List Value} (y : PuL c rest (tk + 1) us tk2) : PuL c (.Constant (.int i) k p :: rest) tk (.int i tk :: us) tk2 := .more .int y (by with_unfolding_all rfl)
theorem PuL.str {i : Str} {k p} {rest : List Expr} {us : List Value} (y : PuL c rest (tk + 1) us tk2) : PuL c (.Constant (.str i) k p :: rest) tk (.str i tk :: us) tk2 := .more .str y (by with_unfolding_all rfl)
theorem PuL.none {k p} {rest : List Expr} {us : List Value} (y : PuL c rest tk us tk2) : PuL c (.Constant .none k p :: rest) tk (.none :: us) tk2 := .more .none y (by with_unfolding_all rfl)
theorem PuL.bool {b : Bool} {k p} {rest : List Expr} {us : List Value} (y : PuL c rest tk us tk2) : PuL c (.Constant (.bool b) k p :: rest) tk (.bool b :: us) tk2 := .more .bool y (by with_unfolding_all rfl)
end
inductive CmpI : CmpOp → Int → Int → Bool → Prop
  | lt {a b} : CmpI .Lt a b (decide (a < b)) | le {a b} : CmpI .LtE a b (decide (a ≤ b)) | gt {a b} : CmpI .Gt a b (decide (b < a)) | ge {a b} : CmpI .GtE a b (decide (b ≤ a)) | eq {a b} : CmpI .Eq a b (a == b) | ne {a b} : CmpI .NotEq a b (a != b)
inductive CmpS : CmpOp → Str → Str → Bool → Prop
  | eq {a b} : CmpS .Eq a b (a == b) | ne {a b} : CmpS .NotEq a b (a != b)
section
variable {w : World} {A : Around} {E : Value → Shared → Prop} {env : Env} {g : Heap} {L : Addr} {ns gs : List Str} {vs : List (Option Value)} {own R Z : Led}
  {h : Heap} {ge : Array GenState} {dr : Drawn} {tk tk1 tk2 : Nat} {os : OsState}
/-- a call of an own function by its global name -/
theorem pu_call {x : Str} {p1 p2 : Pos} {f : Addr} {args : List Expr} {us : List Value} {Q : Value → Shared → Prop} (K : Cx.Ok ⟨w, env, g, L, ns, gs, vs, own, R, Z, h, ge, dr, os⟩) (hv : GV x (.ref f)) (hx : x ∈ gs) (hk : FnN f)
    (a : PuL ⟨w, env, g, L, ns, gs, vs, own, R, Z, h, ge, dr, os⟩ args tk us tk1) (k1 : wpAny (model PR w) A (call (.ref f) us) Q E ⟨h, ge, dr, tk1, os⟩)
    (he : eval (.Call (.Name x p1) args [] p2) env = (do callWith p2 (← eval (.Name x p1) env) [] (backTo p2 (starEach args env)) (backToKw p2 (keywordEach [] env)))) :
    wpAny (model PR w) A (eval (.Call (.Name x p1) args [] p2) env) Q E ⟨h, ge, dr, tk, os⟩ := by
  refine PyProof.Rows.Call_ (ldG K.V K.S hv hx ?_) he
  cases a with
  | nil => exact cw_k00 K.S hk k1
  | more x y h1 => exact cw_k K.S hk ((PuL.more x y h1).ev _ _ _ _ (and_k0 K.S k1)) h1 y.any
theorem pu_callB {x : Str} {id : String} {p1 p2 : Pos} {e : Expr} {args : List Expr} {u : Value} {us : List Value} {Q : Value → Shared → Prop} (K : Cx.Ok ⟨w, env, g, L, ns, gs, vs, own, R, Z, h, ge, dr, os⟩) (hv : GB x (.builtin id)) (hx : x ∈ gs)
    (a : PuL ⟨w, env, g, L, ns, gs, vs, own, R, Z, h, ge, dr, os⟩ (e :: args) tk (u :: us) tk1) (k1 : wpAny (model PR w) A (call (.builtin id) (u :: us)) Q E ⟨h, ge, dr, tk1, os⟩)
    (he : eval (.Call (.Name x p1) (e :: args) [] p2) env = (do callWith p2 (← eval (.Name x p1) env) [] (backTo p2 (starEach (e :: args) env)) (backToKw p2 (keywordEach [] env)))) :
    wpAny (model PR w) A (eval (.Call (.Name x p1) (e :: args) [] p2) env) Q E ⟨h, ge, dr, tk, os⟩ := by
  refine PyProof.Rows.Call_ (ldB K.V K.S hv hx ?_) he
  cases a with
  | more x y h1 => exact cw_b ((PuL.more x y h1).ev _ _ _ _ k1) h1 y.any
theorem pu_tup {args : List Expr} {k : Nat} {p : Pos} {us : List Value} {Q : Value → Shared → Prop} (K : Cx.Ok ⟨w, env, g, L, ns, gs, vs, own, R, Z, h, ge, dr, os⟩)
    (a : PuL ⟨w, env, g, L, ns, gs, vs, own, R, Z, h, ge, dr, os⟩ args tk us tk1) (hz : us.length ≤ 1000000)
    (k1 : ∀ l h', St w g L ns vs own R ((l, tupOf us) :: Z) h' → Q (.ref l) ⟨h', ge, dr, tk1, os⟩) : wpAny (model PR w) A (eval (.Tuple args k p) env) Q E ⟨h, ge, dr, tk, os⟩ :=
  PyProof.Rows.Tuple_ (a.ev _ _ _ _ (nw_tup K.S hz k1))
theorem pu_cmpI {l r : Expr} {op : CmpOp} {p : Pos} {whole : Sem Value} {a b : Int} {t u : Tok} {c : Bool} {Q : Bool → Shared → Prop} (K : Cx.Ok ⟨w, env, g, L, ns, gs, vs, own, R, Z, h, ge, dr, os⟩)
    (x : Pu ⟨w, env, g, L, ns, gs, vs, own, R, Z, h, ge, dr, os⟩ l tk (.int a t) tk1) (y : Pu ⟨w, env, g, L, ns, gs, vs, own, R, Z, h, ge, dr, os⟩ r tk1 (.int b u) tk2) (hc : CmpI op a b c) (hm : behindInMarks op r = false) (k1 : Q c ⟨h, ge, dr, tk2, os⟩) :
    wpAny (model PR w) A (isTrue (.Compare l [op] [r] p) env whole) Q E ⟨h, ge, dr, tk, os⟩ := by
  refine wpAny_isTrue_Compare1 (x.ev _ _ _ (y.ev _ _ _ ?_)) hm
  cases hc with
  | lt => exact PyProof.Rows.lt_int (wpAny_truthy_bool k1)
  | le => exact PyProof.Rows.le_int (wpAny_truthy_bool k1)
  | gt => exact PyProof.Rows.gt_int (wpAny_truthy_bool k1)
  | ge => exact PyProof.Rows.ge_int (wpAny_truthy_bool k1)
  | eq => exact PyProof.Rows.eq_int (wpAny_truthy_bool k1)
  | ne => exact PyProof.Rows.ne_int (wpAny_truthy_bool k1)
theorem pu_cmpS {l r : Expr} {op : CmpOp} {p : Pos} {whole : Sem Value} {a b : Str} {t u : Tok} {c : Bool} {Q : Bool → Shared → Prop} (K : Cx.Ok ⟨w, env, g, L, ns, gs, vs, own, R, Z, h, ge, dr, os⟩)
    (x : Pu ⟨w, env, g, L, ns, gs, vs, own, R, Z, h, ge, dr, os⟩ l tk (.str a t) tk1) (y : Pu ⟨w, env, g, L, ns, gs, vs, own, R, Z, h, ge, dr, os⟩ r tk1 (.str b u) tk2) (hc : CmpS op a b c) (hm : behindInMarks op r = false) (k1 : Q c ⟨h, ge, dr, tk2, os⟩) :
    wpAny (model PR w) A (isTrue (.Compare l [op] [r] p) env whole) Q E ⟨h, ge, dr, tk, os⟩ := by
  refine wpAny_isTrue_Compare1 (x.ev _ _ _ (y.ev _ _ _ ?_)) hm
  cases hc with
  | eq => exact PyProof.Rows.eq_str (wpAny_truthy_bool k1)
  | ne => exact PyProof.Rows.ne_str (wpAny_truthy_bool k1)
theorem pu_asg {x : Str} {e : Expr} {p1 p2 : Pos} {v : Value} {vs' : List (Option Value)} {Q : Flow → Shared → Prop} (K : Cx.Ok ⟨w, env, g, L, ns, gs, vs, own, R, Z, h, ge, dr, os⟩)
    (a : Pu ⟨w, env, g, L, ns, gs, vs, own, R, Z, h, ge, dr, os⟩ e tk v tk1) (hp : Put ns vs x v vs') (k1 : ∀ h' tk', St w g L ns vs' own R Z h' → Q .next ⟨h', ge, dr, tk', os⟩)
    (hs : swapsWith e (some (.Name x p1)) p2.line env = pure false) : wpAny (model PR w) A (exec (.Assign [.Name x p1] e p2) env) Q E ⟨h, ge, dr, tk, os⟩ :=
  wpAny_Assign_Name (a.ev _ _ _ (sto K.V K.S hp k1)) hs
end
/-! a def's contract from its body -/
inductive Ret1 (g : Heap) (ge : Array GenState) (dr : Drawn) (os : OsState) (Post : Value → Led → Led → Prop) : Result → Shared → Prop
  | mk {v : Value} {R' Z' : Led} {h' : Heap} {tk' : Nat} (B : Bk g R' Z' h') (P : Post v R' Z') : Ret1 g ge dr os Post (.ok (.ret v)) ⟨h', ge, dr, tk', os⟩
theorem Ret1.st {w : World} {g : Heap} {L : Addr} {ns : List Str} {vs : List (Option Value)} {own R Z : Led} {ge : Array GenState} {dr : Drawn} {os : OsState} {Post : Value → Led → Led → Prop} {v : Value} {h : Heap} {tk : Nat} (S : St w g L ns vs own R Z h) (P : Post v R Z) :
    Ret1 g ge dr os Post (.ok (.ret v)) ⟨h, ge, dr, tk, os⟩ := .mk S.bk P
theorem CallC.of {w : World} {R Z : Led} {f : Addr} {args : List Value} {d u : Nat} {Post : Value → Led → Led → Prop} {name qual : Str} {params : Arguments} {body : List Stmt} {scope : Scope} {dV kV doc pm cdv ct oc : Value} {an od : Option Addr} {osl : Array (Option Value)}
    {binds : List (Str × Value)} {rest ns gs : List Str} {vs : List (Option Value)}
    (ho : (Hd.KF w.params).lookup f = some ⟨oc, od, .func (fnOf name qual params body scope dV kV doc pm an cdv ct), osl⟩) (hcd : codeIn (Hd.KF w.params) cdv qual = true)
    (hbind : ∀ s : Shared, (Hd.KF w.params).In s.heap → BindsTo s (fnOf name qual params body scope dV kV doc pm an cdv ct) ⟨args, []⟩ binds) (V : Ev scope ns gs) (nn : ns.Nodup) (hns : binds.map (·.1) ++ rest = ns)
    (hvs : (binds.map fun p => some p.2) ++ (rest.map fun u_ => none) = vs)
    (k : ∀ (g : Heap) (A : Around) (ge : Array GenState) (dr : Drawn) (os : OsState), A.handled = none → A.depth + d < recursionLimit → A.units + u < cLine → ∀ L' h₁ tk E, EvE (envOf qual scope L' f cdv) L' ns gs → St w g L' ns vs [] R Z h₁ →
      PassesOwn (model PR w) (A.deeper (envOf qual scope L' f cdv)) (envOf qual scope L' f cdv) E →
      wpAny (model PR w) (A.deeper (envOf qual scope L' f cdv)) (execs body (envOf qual scope L' f cdv)) (retQ (Ret1 g ge dr os Post)) E ⟨h₁, ge, dr, tk, os⟩)
    (hco : scope.isCoroutine = false := by rfl) (hgen : scope.isGenerator = false := by rfl) (hcell : ∀ x ∈ scope.names, x.2 ≠ .cell := by decide) :
    CallC w f args d u R Z Post := by
  intro g A s R0 G hh hd hu B ret
  refine enter G B ho hcd (Nat.lt_of_le_of_lt (Nat.le_add_right _ _) hd) (hbind s (G.X.keeps B.keep)) V nn hns hvs (fun L' h₁ E V' S u_ u_ pE => ?_) hco hgen hcell
  refine wpAny_mono (k g A s.gens s.drawn s.os hh hd hu L' h₁ _ E V' S pE) (fun fl s' x => ?_) fun u_ u_ x => x
  cases fl <;> (cases x with | mk B' P => exact ret _ _ _ _ _ B' P)
/-! statements that need no hidden continuation -/
section
variable {M : Model} {A : Around} {E : Value → Shared → Prop} {s : Shared} {env : Env} {Q : Flow → Shared → Prop}
theorem execs_ret {e : Expr} {p : Pos} {rest : List Stmt} (h : wpAny M A (eval e env) (fun v => Q (.ret v)) E s) : wpAny M A (execs (.Return (some e) p :: rest) env) Q E s :=
  wpAny_execs_cons (wpAny_Return_some h)
theorem execs_last {st : Stmt} (h : wpAny M A (exec st env) Q E s) : wpAny M A (execs [st] env) Q E s :=
  wpAny_execs_cons (wpAny_mono h (fun f s x => by cases f <;> first | exact wpAny_execs_nil x | exact x) fun u_ u_ x => x)
theorem hideG {X : Prop} (h : ∀ G : Prop, (X → G) → G) : X := h X id
end
section
variable {w : World} {A : Around} {E : Value → Shared → Prop} {env : Env} {g : Heap} {L : Addr} {ns gs : List Str} {vs : List (Option Value)} {own R Z : Led}
  {h : Heap} {ge : Array GenState} {dr : Drawn} {tk tk1 tk2 : Nat} {os : OsState}
theorem execs_asg {x : Str} {e : Expr} {p1 p2 : Pos} {rest : List Stmt} {v : Value} {vs' : List (Option Value)} {Q : Flow → Shared → Prop} (K : Cx.Ok ⟨w, env, g, L, ns, gs, vs, own, R, Z, h, ge, dr, os⟩)
    (a : Pu ⟨w, env, g, L, ns, gs, vs, own, R, Z, h, ge, dr, os⟩ e tk v tk1) (hp : Put ns vs x v vs') (k1 : ∀ h' tk', St w g L ns vs' own R Z h' → wpAny (model PR w) A (execs rest env) Q E ⟨h', ge, dr, tk', os⟩)
    (hs : swapsWith e (some (.Name x p1)) p2.line env = pure false) : wpAny (model PR w) A (execs (.Assign [.Name x p1] e p2 :: rest) env) Q E ⟨h, ge, dr, tk, os⟩ :=
  wpAny_execs_cons (pu_asg K a hp (fun h' tk' S' => k1 h' tk' S') hs)
end
/-! cheap tests of a tree's kind -/
section
variable {M : Model} {A : Around} {E : Value → Shared → Prop} {s : Shared}
theorem tyF {m : Sem Flow} {Q} (h : wpAny M A m Q E s) : wpAny M A m Q E s := h
theorem tyV {m : Sem Value} {Q} (h : wpAny M A m Q E s) : wpAny M A m Q E s := h
theorem tyE {e : Expr} {v : Env} {Q} (h : wpAny M A (PySem.eval e v) Q E s) : wpAny M A (PySem.eval e v) Q E s := h
theorem tyU {m : Sem Unit} {Q} (h : wpAny M A m Q E s) : wpAny M A m Q E s := h
theorem tyB {m : Sem Bool} {Q} (h : wpAny M A m Q E s) : wpAny M A m Q E s := h
theorem tyL {α : Type} {m : Sem (List α)} {Q} (h : wpAny M A m Q E s) : wpAny M A m Q E s := h
theorem tyP {α β : Type} {m : Sem (α × β)} {Q} (h : wpAny M A m Q E s) : wpAny M A m Q E s := h
end

theorem kset : True := by
  k_with "ML" => first | exact mem_hd | (refine mem_tl ?_; k_extra "ML") | assumption
  k_with "MEM" => first | (refine memZ ?_; assumption) | (refine memR ?_; k_extra "ML") | (refine memO ?_; k_extra "ML") | (refine memZ ?_; k_extra "ML")
  k_with "ISL" => first | exact IsL.of | assumption
  k_with "IST" => first | exact IsT.of | assumption
  k_with "HAS" => first | exact Has.head | (apply Has.tail; k_extra "HAS")
  k_with "PUT" => first | exact Put.head | (apply Put.tail; k_extra "PUT")
  k_with "UPD" => first | exact Upd1.head | (apply Upd1.tail; k_extra "UPD")
  k_with "UA" => with_unfolding_all rfl
  k_with "OM" => first | assumption | k_dflt (first | lia | omega) | k_dflt decide | k_dflt (simp only [List.length_cons, List.length_nil, List.length_append]; (first | lia | omega))
  k_with "DLE" => k_dflt (first | (refine le_d ?_; exact rfl) | (refine le_d0 ?_; exact rfl) | (refine le_ed ?_; exact rfl) | exact le_ed0 | (refine le_m ?_; exact rfl) | (refine le_m0 ?_; exact rfl) | (refine le_pm ?_; exact rfl) | (refine le_p ?_; exact rfl) | (refine le_sm ?_ ?_ <;> exact rfl) | (refine le_s ?_ ?_ <;> exact rfl) | (refine le_e ?_; exact rfl) | focus (refine' le_f ?_ ?_; rotate_right 2; assumption; exact rfl) | focus (refine' le_f0 ?_ ?_; rotate_right 2; assumption; exact rfl) | (refine le_c ?_; exact rfl))
  k_with "DPT" => first | focus (refine' dlti ?_ ?_; rotate_right 2; assumption; k_extra "DLE") | focus (refine' dlt ?_ ?_; rotate_right 2; assumption; k_extra "DLE") | focus (refine' dlt0 ?_; rotate_right 1; assumption) | (first | lia | omega)
  k_with "HG" => first | assumption | focus (refine' getS ?_ ?_; rotate_right 2; assumption; k_extra "MEM")
  k_with "KVH" => first | exact KvHas.head | (apply KvHas.tail; k_extra "KVH")
  k_with "KVP" => first | exact KvPut.head | (apply KvPut.tail; k_extra "KVP")
  k_with "HND" => first | assumption | (k_dflt rfl)
  k_with "BR" => first | (focus (refine' ite_t ?_ ?_; rotate_right 2; assumption)) | (focus (refine' ite_f ?_ ?_; rotate_right 2; assumption)) | refine ite_t rfl ?_ | refine ite_f rfl ?_
  k_with "RETC" => focus (refine' Ret1.st ?_ ?_; rotate_right 2; assumption)
  k_with "STP" => focus (refine' St.bk ?_; rotate_right 1; assumption)
  k_with "KOK" => focus (refine' Cx.Ok.mk ?_ ?_; rotate_right 2; assumption; assumption)
  k_with "PU" => first
    | (focus (refine' Pu.name ?_ ?_; rotate_right 2; k_extra "KOK"; k_extra "HAS"))
    | (exact Pu.int)
    | (exact Pu.str)
    | (exact Pu.none)
    | (exact Pu.bool)
    | (focus (refine' Pu.attr ?_ ?_ ?_ ?_ ?_ ?_ ?_ ?_ ?_; rotate_right 9; k_extra "KOK"; k_extra "PU"; k_extra "HG"; constructor; constructor; k_extra "HG"; k_dflt k_get; (first | assumption | k_dflt rfl); with_unfolding_all rfl))
    | (focus (refine' Pu.add ?_ ?_; rotate_right 2; k_extra "PU"; k_extra "PU"))
    | (focus (refine' Pu.sub ?_ ?_; rotate_right 2; k_extra "PU"; k_extra "PU"))
  k_with "PUL" => first
    | (exact PuL.nil)
    | (focus (refine' PuL.name ?_ ?_ ?_; rotate_right 3; k_extra "KOK"; k_extra "HAS"; k_extra "PUL"))
    | (focus (refine' PuL.int ?_; rotate_right 1; k_extra "PUL"))
    | (focus (refine' PuL.str ?_; rotate_right 1; k_extra "PUL"))
    | (focus (refine' PuL.none ?_; rotate_right 1; k_extra "PUL"))
    | (focus (refine' PuL.bool ?_; rotate_right 1; k_extra "PUL"))
    | (focus (refine' PuL.more ?_ ?_ ?_; rotate_right 3; k_extra "PU"; k_extra "PUL"; with_unfolding_all rfl))
  k_with "UNH" => first
    | (focus (refine' unh1 ?_ ?_; rotate_right 2; assumption))
    | (focus (refine' unhR ?_ ?_; rotate_right 2; assumption))
    | (focus (refine' unhB ?_ ?_; rotate_right 2; assumption))
    | (focus (refine' unhC ?_ ?_; rotate_right 2; assumption))
    | (focus (refine' unhWB ?_ ?_; rotate_right 2; assumption))
    | (focus (refine' unhWR ?_ ?_; rotate_right 2; assumption))
    | (focus (refine' unhTB ?_ ?_; rotate_right 2; assumption))
    | (focus (refine' unhTR ?_ ?_; rotate_right 2; assumption))
    | (focus (refine' unhG ?_ ?_; rotate_right 2; assumption))
    | (refine unhK ?_)
    | (refine unhN ?_)
    | (focus (refine' unhV ?_ ?_; rotate_right 2; assumption))
  k_with "qVEa" => first
    | (focus (refine' ldS ?_ ?_ ?_ ?_; rotate_right 4; assumption; assumption; k_extra "HAS"))
    | (refine c_int ?_)
    | (refine c_str ?_)
    | (refine PyProof.Rows.Subscript_ ?_)
  k_with "qVEb" => first
    | (focus (refine' pu_call ?_ ?_ ?_ ?_ ?_ ?_ ?_; rotate_right 7; k_extra "KOK"; constructor; k_extra "ML"; constructor; k_extra "PUL"; rotate_left; with_unfolding_all rfl))
    | (focus (refine' pu_callB ?_ ?_ ?_ ?_ ?_ ?_; rotate_right 6; k_extra "KOK"; constructor; k_extra "ML"; k_extra "PUL"; rotate_left; with_unfolding_all rfl))
    | (focus (refine' pu_tup ?_ ?_ ?_ ?_; rotate_right 4; k_extra "KOK"; k_extra "PUL"; k_extra "OM"); intro ic1 ic2 ic3)
    | (refine PyProof.Rows.Constant_none ?_)
    | (refine PyProof.Rows.Constant_bool ?_)
    | (focus (refine' PyProof.Rows.MethodCall_ ?_ ?_; rotate_right 1; with_unfolding_all rfl))
    | (focus (refine' PyProof.Rows.Call_ ?_ ?_; rotate_right 1; with_unfolding_all rfl))
    | (focus (refine' PyProof.Rows.Attribute_any_ ?_ ?_; rotate_right 1; with_unfolding_all rfl))
    | (focus (refine' wpAny_Compare1 ?_ ?_; rotate_right 1; with_unfolding_all rfl))
    | (refine wpAny_BinOp ?_)
    | (focus (refine' ldG ?_ ?_ ?_ ?_ ?_; rotate_right 5; assumption; assumption; constructor; k_extra "ML"))
    | (focus (refine' ldB ?_ ?_ ?_ ?_ ?_; rotate_right 5; assumption; assumption; constructor; k_extra "ML"))
    | (refine PyProof.Rows.Tuple_ ?_)
    | (refine PyProof.Rows.List_ ?_)
    | (refine PyProof.Rows.UnaryOp_ ?_)
    | (refine PyProof.Rows.IfExp_ ?_)
  k_with "qFLA" => first
    | (refine execs_ret ?_)
    | (focus (refine' execs_asg ?_ ?_ ?_ ?_ ?_; rotate_right 5; k_extra "KOK"; k_extra "PU"; k_extra "PUT"; rotate_left; with_unfolding_all rfl); intro ic1 ic2 ic3)
    | (refine execs_last ?_)
    | (focus (refine' pu_asg ?_ ?_ ?_ ?_ ?_; rotate_right 5; k_extra "KOK"; k_extra "PU"; k_extra "PUT"; rotate_left; with_unfolding_all rfl); intro ic1 ic2 ic3)
    | (refine hidT ?_; intro iQ iK)
    | (refine hidW ?_; intro iQ iK)
    | (refine execs_consH ?_; intro iQ iK)
    | (refine wpAny_execs_nil ?_)
    | (refine wpAny_If ?_)
    | (focus (refine' wpAny_Assign_Name ?_ ?_; rotate_right 1; with_unfolding_all rfl))
    | (refine wpAny_Return_some ?_)
    | (refine wpAny_AugAssign_Name ?_)
    | (focus (refine' wpAny_AugAssign_SubscriptAny ?_ ?_; rotate_right 1; (intro _ _ _; with_unfolding_all rfl)))
    | (focus (refine' PySem.wpAny_Assign_Subscript ?_ ?_; rotate_right 1; with_unfolding_all rfl))
    | (focus (refine' PySem.plainObj_wpAny_Assign_Attribute ?_ ?_; rotate_right 1; with_unfolding_all rfl))
    | (focus (refine' wpE_any ?_ ?_ ?_; rotate_right 2; with_unfolding_all rfl; with_unfolding_all rfl))
  k_with "qVOA" => first
    | (focus (refine' lnS ?_ ?_ ?_ ?_; rotate_right 4; assumption; assumption; k_extra "HAS"))
    | (focus (refine' cw_b ?_ ?_ ?_; rotate_right 2; with_unfolding_all rfl; with_unfolding_all rfl))
    | (focus (refine' cw_t ?_ ?_ ?_; rotate_right 2; with_unfolding_all rfl; with_unfolding_all rfl))
    | (focus (refine' cw_k ?_ ?_ ?_ ?_ ?_; rotate_right 5; assumption; constructor; rotate_left; with_unfolding_all rfl; with_unfolding_all rfl))
    | (focus (refine' cw_k0 ?_ ?_ ?_; rotate_right 3; assumption; constructor))
    | (focus (refine' cw_k00 ?_ ?_ ?_; rotate_right 3; assumption; constructor))
    | (focus (refine' cw_m1 ?_ ?_ ?_; rotate_right 2; with_unfolding_all rfl; with_unfolding_all rfl))
    | (refine PyProof.Rows.callWith_method0 ?_)
    | (refine lt_int ?_)
    | (refine le_int ?_)
    | (refine gt_int ?_)
    | (refine ge_int ?_)
    | (refine eq_int ?_)
    | (refine ne_int ?_)
    | (refine eq_str ?_)
    | (refine ne_str ?_)
    | (refine o_add ?_)
    | (refine o_sub ?_)
    | (refine i_add ?_)
    | (refine i_sub ?_)
    | (refine o_neg ?_)
    | (focus (refine' o_mul ?_ ?_; rotate_right 2; (first | exact IntMulOk.of_right (by k_dflt decide) | exact IntMulOk.of_left (by k_dflt decide))))
    | (focus (refine' o_mod ?_ ?_; rotate_right 2; k_extra "OM"))
    | (focus (refine' ix_list ?_ ?_ ?_ ?_ ?_ ?_ ?_ ?_; rotate_right 8; assumption; k_extra "MEM"; k_extra "ISL"; k_extra "OM"; k_extra "OM"; (first | assumption | k_dflt rfl); rotate_left; with_unfolding_all rfl))
    | (focus (refine' gi_list ?_ ?_ ?_ ?_ ?_ ?_ ?_; rotate_right 7; assumption; k_extra "MEM"; k_extra "ISL"; k_extra "OM"; k_extra "OM"; (first | assumption | k_dflt rfl)))
    | (focus (refine' len_l ?_ ?_ ?_ ?_ ?_; rotate_right 5; assumption; k_extra "MEM"; k_extra "ISL"; k_extra "OM"); intro ib1 ib2)
    | (focus (refine' ix_dict ?_ ?_ ?_ ?_ ?_ ?_; rotate_right 6; assumption; k_extra "MEM"; assumption; k_extra "KVH"; rotate_left; with_unfolding_all rfl))
    | (focus (refine' gi_dict ?_ ?_ ?_ ?_ ?_; rotate_right 5; assumption; k_extra "MEM"; assumption; k_extra "KVH"))
    | (focus (refine' nw_list ?_ ?_ ?_; rotate_right 3; assumption; k_extra "OM"); intro id1 id2 id3 id4)
    | (focus (refine' nw_tup ?_ ?_ ?_; rotate_right 3; assumption; k_extra "OM"); intro ic1 ic2 ic3)
    | (focus (refine' appO ?_ ?_ ?_ ?_; rotate_right 4; assumption; k_extra "UPD"; k_extra "OM"); intro ib1 ib2)
    | (focus (refine' appR ?_ ?_ ?_ ?_; rotate_right 4; assumption; k_extra "UPD"; k_extra "OM"); intro ib1 ib2)
    | (focus (refine' ga ?_ ?_ ?_ ?_ ?_ ?_ ?_ ?_; rotate_right 8; assumption; k_extra "HG"; constructor; constructor; k_extra "HG"; k_dflt k_get; (first | assumption | k_dflt rfl)))
  k_with "qUNA" => first
    | (focus (refine' sto ?_ ?_ ?_ ?_; rotate_right 4; assumption; assumption; k_extra "PUT"); intro ic1 ic2 ic3)
    | (focus (refine' si_listR ?_ ?_ ?_ ?_ ?_ ?_ ?_; rotate_right 7; assumption; k_extra "UPD"; k_extra "ISL"; k_extra "OM"; k_extra "OM"; k_extra "OM"); intro id1 id2 id3 id4)
    | (focus (refine' si_dictR ?_ ?_ ?_ ?_ ?_ ?_; rotate_right 6; assumption; k_extra "UPD"; assumption; k_extra "KVP"; k_extra "OM"); intro ie1 ie2 ie3 ie4 ie5)
    | (focus (refine' saR ?_ ?_ ?_ ?_ ?_ ?_ ?_ ?_ ?_; rotate_right 9; assumption; k_extra "HG"; constructor; constructor; k_extra "UPD"; k_dflt k_get; k_dflt k_put; k_dflt (exact Nat.le_of_ble_eq_true rfl)); intro ic1 ic2 ic3)
  k_with "qLIA" => first
    | (focus (refine' PyProof.Rows.spliced_more ?_ ?_; rotate_right 1; with_unfolding_all rfl))
    | (refine PyProof.Rows.spliced_none ?_)
  k_with "qBOA" => first
    | (focus (refine' pu_cmpI ?_ ?_ ?_ ?_ ?_ ?_; rotate_right 6; k_extra "KOK"; k_extra "PU"; k_extra "PU"; constructor; with_unfolding_all rfl))
    | (focus (refine' pu_cmpS ?_ ?_ ?_ ?_ ?_ ?_; rotate_right 6; k_extra "KOK"; k_extra "PU"; k_extra "PU"; constructor; with_unfolding_all rfl))
    | (focus (refine' wpAny_isTrue_Compare1 ?_ ?_; rotate_right 1; with_unfolding_all rfl))
    | (refine PyProof.Rows.isTrue_and_nil ?_)
    | (refine PyProof.Rows.isTrue_or_nil ?_)
    | (refine PyProof.Rows.isTrue_and ?_)
    | (refine PyProof.Rows.isTrue_or ?_)
    | (refine PyProof.Rows.isTrue_not ?_)
    | (refine wpAny_truthy_bool ?_)
  k_with "qPRA" => first
    | (focus (refine' gm_app ?_ ?_ ?_; rotate_right 3; assumption; k_extra "MEM"))
  k_with "qANDA" => first
    | (focus (refine' and_k0 ?_ ?_; rotate_right 2; assumption))
    | (focus (refine' and_k1 ?_ ?_; rotate_right 2; assumption))
  k_with "qDA" => (goal_has PySem.wpAny; first
    | ((fail_if_success fail_if_success refine tyF ?_); first | k_extra "qFLA")
    | ((fail_if_success fail_if_success refine tyE ?_); first | k_extra "qVEa" | k_extra "qVEb")
    | ((fail_if_success fail_if_success refine tyV ?_); first | k_extra "qVOA")
    | ((fail_if_success fail_if_success refine tyU ?_); first | k_extra "qUNA")
    | ((fail_if_success fail_if_success refine tyL ?_); first | k_extra "qLIA")
    | ((fail_if_success fail_if_success refine tyB ?_); first | k_extra "qBOA")
    | ((fail_if_success fail_if_success refine tyP ?_); first | k_extra "qPRA")
    | k_extra "qANDA" | k_extra "BR")
  k_with "GO" => repeat' with_reducible (first | k_extra "qDA" | k_extra "UNH" | k_extra "BR")
  k_with "W5" => with_reducible (first | k_extra "qDA" | k_extra "UNH" | k_extra "BR")
  trivial
theorem cls_mk {w : World} : makesIn (Hd.KF w.params) 71 = true ∧ findIn (Hd.KF w.params) (.ref 71) "__init__" = some (some (.ref 68)) ∧ isFn (Hd.KF w.params) (.ref 68) = true := ⟨by k_is, by k_is, by k_is⟩
set_option maxHeartbeats 4000000 in
theorem tok_init {w : World} {x dx : Addr} {a b c : Value} {R Z : Led} (hx : (x, instObj 71 dx) ∈ Z) :
    CallC w 68 [.ref x, a, b, c] 1 10 ((dx, dictOf [] 0) :: R) Z (fun v R' Z' => Ex3 fun t1 t2 t3 => An3 (v = .none) (R' = (dx, tokD w t1 t2 t3 a b c) :: R) (Z' = Z)) := by
  refine CallC.of (ns := ["self", "kind", "value", "at"]) (gs := []) (rest := []) (binds := [("self", .ref x), ("kind", a), ("value", b), ("at", c)]) (vs := [some (.ref x), some a, some b, some c]) (by k_is) (by k_is) (fun u_ u_ => BindsTo.of_eq rfl) (Ev.of (by decide)) (by decide) rfl rfl ?_
  intro g A ge dr os hh hd hu L' h₁ tk E V S pE
  k_extra "GO"
  (repeat' with_reducible k_extra "UNH"); k_extra "RETC"
  exact ⟨_, _, _, rfl, rfl, rfl⟩

section
variable {w : World} {g : Heap} {L : Addr} {ns gs : List Str} {vs vs' : List (Option Value)} {own R Z : Led} {A : Around} {E : Value → Shared → Prop} {env : Env} {h : Heap} {ge : Array GenState} {dr : Drawn} {tk : Nat} {os : OsState}
theorem tok_new {a b c : Value} {Q : Value → Shared → Prop} (S : St w g L ns vs own R Z h) (hh : A.handled = none) (hd : A.depth + 3 < recursionLimit) (hu : A.units + 30 < cLine)
    (k1 : ∀ x dx t1 t2 t3 h' tk', St w g L ns vs own R ((x, instObj 71 dx) :: (dx, tokD w t1 t2 t3 a b c) :: Z) h' → Q (.ref x) ⟨h', ge, dr, tk', os⟩) :
    wpAny (model PR w) A (call (.ref 71) [a, b, c]) Q E ⟨h, ge, dr, tk, os⟩ := by
  refine call_cls (s := ⟨h, ge, dr, tk, os⟩) S.F S.gx.X S.N cls_mk.1 cls_mk.2.1 cls_mk.2.2 fun x dx h' F' N' l1 l2 => ?_
  have S0 : St w g L ns vs ((x, instObj 71 dx) :: (dx, dictOf [] 0) :: own) R Z h' := by
    refine ⟨S.gx, F', N', ?_, S.nn⟩
    simp only [List.cons_append, List.map_cons]
    refine List.nodup_cons.mpr ⟨fun hm => ?_, List.nodup_cons.mpr ⟨fun hm => ?_, S.nd⟩⟩
    · rcases List.mem_cons.mp hm with e | hm
      · exact absurd e (Nat.ne_of_gt l2)
      · obtain ⟨p, hp, e⟩ := List.mem_map.mp hm
        have := l1 p hp
        rw [e] at this
        exact absurd (Nat.lt_trans this l2) (Nat.lt_irrefl _)
    · obtain ⟨p, hp, e⟩ := List.mem_map.mp hm
      have := l1 p hp
      rw [e] at this
      exact Nat.lt_irrefl _ this
  have S1 : St w g L ns vs (own ++ (R ++ Z)) [(dx, dictOf [] 0)] [(x, instObj 71 dx)] h' := S0.perm (by
    show ((own ++ (R ++ Z)) ++ [(dx, dictOf [] 0), (x, instObj 71 dx)]).Perm ((x, instObj 71 dx) :: (dx, dictOf [] 0) :: (own ++ (R ++ Z)))
    exact (List.perm_append_comm (l₁ := own ++ (R ++ Z)) (l₂ := [(dx, dictOf [] 0), (x, instObj 71 dx)])).trans (List.Perm.swap _ _ _))
  refine S1.useC (s := ⟨h', ge, dr, tk, os⟩) (tok_init (.head _)) hh ?_ ?_ fun v R' Z' h2 tk2 S2 P => ?_
  · show A.depth + _ + 1 < _
    have : (Code.builtin "type.__call__" ⟨[.ref 71, a, b, c], []⟩).weight = 1 := rfl
    rw [this]; (first | lia | omega)
  · show A.units + _ + 10 < _
    have : (Code.builtin "type.__call__" ⟨[.ref 71, a, b, c], []⟩).cUnits = 1 := rfl
    rw [this]; (first | lia | omega)
  · obtain ⟨t1, t2, t3, rfl, rfl, rfl⟩ := P
    refine ⟨rfl, k1 x dx t1 t2 t3 h2 tk2 (S2.perm ?_)⟩
    show (own ++ (R ++ ((x, instObj 71 dx) :: (dx, tokD w t1 t2 t3 a b c) :: Z))).Perm ((own ++ (R ++ Z)) ++ [(dx, tokD w t1 t2 t3 a b c), (x, instObj 71 dx)])
    refine List.Perm.trans ?_ (List.perm_append_comm (l₁ := [(dx, tokD w t1 t2 t3 a b c), (x, instObj 71 dx)]) (l₂ := own ++ (R ++ Z)))
    rw [← List.append_assoc, ← List.append_assoc]
    refine List.Perm.trans List.perm_middle (List.Perm.trans (List.Perm.cons _ List.perm_middle) ?_)
    simp only [List.cons_append, List.nil_append, List.append_assoc]
    exact List.Perm.swap _ _ _
end

/-! the builder's state -/
set_option genInjectivity false in
structure TokD where
  kind : Str
  val : PyData
  at_ : Int
set_option genInjectivity false in
structure BA where
  P : Addr
  Fg : Addr
  W : Addr
  T : Addr
  Wh : Addr
  fo : Obj
  who : Obj
  fvs : List Value
  wvs : List Value
set_option genInjectivity false in
structure BSt where
  po : Obj
  i : Int
  mix : Int
  ti : Tok
  tm : Tok
  wo : Obj
  room : Int
  tr : Tok
  badv : Value
  toks : List Value
  tn : Nat
  tl : List TokD
  bad : Option Int
noncomputable abbrev Res (b : BA) (x : BSt) : Led := [(b.P, x.po), (b.W, x.wo), (b.T, listOf x.toks.toArray x.tn)]

structure TokAt (w : World) (Z : Led) (a : Addr) (t : TokD) : Prop where
  ex : Ex7 fun dx t1 t2 t3 kt vv ta => An3 ((a, instObj 71 dx) ∈ Z) ((dx, tokD w t1 t2 t3 (.str t.kind kt) vv (.int t.at_ ta)) ∈ Z) (Tr Z vv t.val)
inductive Toks (w : World) (Z : Led) : List Value → List TokD → Prop
  | nil : Toks w Z [] []
  | cons {a t vs ts} : TokAt w Z a t → Toks w Z vs ts → Toks w Z (.ref a :: vs) (t :: ts)
theorem TokAt.up {w Z Z' a t} (s : Sub Z Z') (h : TokAt w Z a t) : TokAt w Z' a t := by
  obtain ⟨dx, t1, t2, t3, kt, vv, ta, m1, m2, m3⟩ := h.ex
  exact ⟨dx, t1, t2, t3, kt, vv, ta, s.up _ m1, s.up _ m2, m3.up s⟩
theorem Toks.up {w Z Z' vs ts} (s : Sub Z Z') (h : Toks w Z vs ts) : Toks w Z' vs ts := by
  induction h with
  | nil => exact .nil
  | cons a _ ih => exact .cons (a.up s) ih
theorem Toks.length {w Z vs ts} (h : Toks w Z vs ts) : vs.length = ts.length := by
  induction h with
  | nil => rfl
  | cons a _ ih => simp [ih]
theorem Toks.snoc {w Z vs ts a t} (h : Toks w Z vs ts) (k : TokAt w Z a t) : Toks w Z (vs ++ [.ref a]) (ts ++ [t]) := by
  induction h with
  | nil => exact .cons k .nil
  | cons a _ ih => exact .cons a ih
theorem Toks.get {w Z vs ts t} {i : Nat} (h : Toks w Z vs ts) (ht : ts[i]? = some t) : ∃ a, vs[i]? = some (Value.ref a) ∧ TokAt w Z a t := by
  induction h generalizing i with
  | nil => simp at ht
  | cons a _ ih =>
    cases i with
    | zero => simp at ht; subst ht; exact ⟨_, rfl, a⟩
    | succ i => exact ih (by simpa using ht)

inductive BadIs (Z : Led) : Value → Option Int → Prop
  | none : BadIs Z .none none
  | some {v at_} : Tr Z v (.tuple [.str "expression_expected", .int at_]) → BadIs Z v (some at_)
theorem BadIs.up {Z Z' v o} (s : Sub Z Z') (h : BadIs Z v o) : BadIs Z' v o := by
  cases h with
  | none => exact .none
  | some t => exact .some (t.up s)

structure BOk (w : World) (b : BA) (x : BSt) (Z : Led) : Prop where
  po : IsL x.po [.ref b.Fg, .int x.i x.ti, .int x.mix x.tm]
  i0 : 0 ≤ x.i
  fm : (b.Fg, b.fo) ∈ Z
  fl : IsL b.fo b.fvs
  fi : ∀ v ∈ b.fvs, ∃ i t, v = .int i t
  fz : b.fvs.length ≤ 1000000
  wo : IsD w x.wo [("tokens", .ref b.T), ("room", .int x.room x.tr), ("bad", x.badv), ("wholes", .ref b.Wh)]
  wm : (b.Wh, b.who) ∈ Z
  wl : IsL b.who b.wvs
  wi : ∀ v ∈ b.wvs, ∃ i t, v = .int i t ∧ 0 ≤ i ∧ i < 2147483648
  wz : b.wvs.length ≤ 1000 ∧ 0 < b.wvs.length
  tk : Toks w Z x.toks x.tl
  bd : BadIs Z x.badv x.bad
theorem BOk.up {w b x Z Z'} (s : Sub Z Z') (h : BOk w b x Z) : BOk w b x Z' :=
  ⟨h.po, h.i0, s.up _ h.fm, h.fl, h.fi, h.fz, h.wo, s.up _ h.wm, h.wl, h.wi, h.wz, h.tk.up s, h.bd.up s⟩
theorem BOk.up2 {w b x Z Z'} (h : BOk w b x Z) (s : Sub Z Z') : BOk w b x Z' := h.up s

set_option maxHeartbeats 4000000 in
theorem put_spec {w : World} {b : BA} {x : BSt} {Z : Led} {kind : Str} {kt : Tok} {v : Value} {vd : PyData} (hx : BOk w b x Z) (hz : x.tl.length ≤ 900000) (hv : Tr Z v vd) :
    CallC w 454 [.ref b.W, .str kind kt, v] 6 60 (Res b x) Z (fun r R' Z' => Ex3 fun x' at_ t => An8 (r = .int at_ t) (at_ = 10 * x.tl.length) (R' = Res b x') (BOk w b x' Z') (Sub Z Z') (x'.tl = x.tl ++ [⟨kind, vd, at_⟩]) (x'.bad = x.bad) (x'.room = x.room)) := by
  have hwo := hx.wo
  have htl := hx.tk.length
  refine CallC.of (ns := ["world", "kind", "value", "at"]) (gs := ["len", "Token"]) (rest := ["at"]) (binds := [("world", .ref b.W), ("kind", .str kind kt), ("value", v)]) (vs := [some (.ref b.W), some (.str kind kt), some v, none]) (by k_is) (by k_is) (fun u_ u_ => BindsTo.of_eq rfl) (Ev.of (by decide)) (by decide) rfl rfl ?_
  intro g A ge dr os hh hd hu L' h₁ tk E V S pE
  k_extra "GO"
  refine tok_new (by assumption) hh ?_ ?_ ?_
  · show A.depth + 1 + 3 < _; (first | lia | omega)
  · show A.units + 3 + 30 < _; (first | lia | omega)
  intro a dx t1 t2 t3 h2 tk2 S2
  k_extra "GO"
  (repeat' with_reducible k_extra "UNH"); k_extra "RETC"
  refine ⟨{ x with toks := x.toks ++ [.ref a], tn := _, tl := _ }, _, _, rfl, by rw [htl], rfl, ?_, (Sub.tl (Sub.tl .rfl)), rfl, rfl, rfl⟩
  have U := fun p q => (Sub.tl (p := p) (Sub.tl (p := q) (Sub.rfl (Z := Z))))
  exact { hx.up (U _ _) with tk := (hx.up (U _ _)).tk.snoc ⟨dx, t1, t2, t3, kt, v, _, .head _, .tail _ (.head _), hv.up (U _ _)⟩ }

noncomputable abbrev nmPick : List Str := ["pool", "bound", "figure"]
set_option maxHeartbeats 4000000 in
theorem pick0 {w : World} {P Fg : Addr} {po fo : Obj} {fvs : List Value} {i mix bound : Int} {ti tm tb : Tok} {R Z : Led}
    (hpo : IsL po [.ref Fg, .int i ti, .int mix tm]) (hF : (Fg, fo) ∈ Z) (hfo : IsL fo fvs) (hfv : ∀ v ∈ fvs, ∃ x t, v = .int x t) (hsz : fvs.length ≤ 1000000) (h0 : 0 ≤ i) (hb : 0 < bound) :
    CallC w 447 [.ref P, .int bound tb] 1 10 ((P, po) :: R) Z (fun v R' Z' => Ex7 fun r t po' i' mix' ti' tm' => An7 (v = .int r t) (0 ≤ r) (r < bound) (R' = (P, po') :: R) (Z' = Z) (IsL po' [.ref Fg, .int i' ti', .int mix' tm']) (0 ≤ i')) := by
  refine CallC.of (ns := nmPick) (binds := [("pool", .ref P), ("bound", .int bound tb)]) (vs := [some (.ref P), some (.int bound tb), none]) (gs := ["len"]) (rest := ["figure"]) (by k_is) (by k_is) (fun u_ u_ => BindsTo.of_eq rfl) (Ev.of (by decide)) (by decide) rfl rfl ?_
  intro g A ge dr os hh hd hu L' h₁ tk E V S pE
  k_extra "GO"
  refine ite_dec (fun hlt => ?_) (fun hge => ?_)
  · obtain ⟨x, t, hx⟩ : ∃ x t, fvs[i.toNat]? = some (.int x t) := by
      have hl : i.toNat < fvs.length := by (first | lia | omega)
      obtain ⟨x, t, e⟩ := hfv _ (List.getElem_mem hl)
      exact ⟨x, t, by rw [List.getElem?_eq_getElem hl, e]⟩
    k_extra "GO"
    (repeat' with_reducible k_extra "UNH"); k_extra "RETC"
    exact ⟨_, _, _, _, _, _, _, rfl, Int.fmod_nonneg_of_pos _ hb, Int.fmod_lt_of_pos _ hb, rfl, rfl, by assumption, by (first | lia | omega)⟩
  · k_extra "GO"
    refine ite_dec (fun hlt => ?_) (fun hge => ?_)
    · k_extra "GO"
      (repeat' with_reducible k_extra "UNH"); k_extra "RETC"
      exact ⟨_, _, _, _, _, _, _, rfl, Int.fmod_nonneg_of_pos _ hb, Int.fmod_lt_of_pos _ hb, rfl, rfl, by assumption, by (first | lia | omega)⟩
    · k_extra "GO"
      (repeat' with_reducible k_extra "UNH"); k_extra "RETC"
      exact ⟨_, _, _, _, _, _, _, rfl, Int.fmod_nonneg_of_pos _ hb, Int.fmod_lt_of_pos _ hb, rfl, rfl, by assumption, by (first | lia | omega)⟩
theorem CallC.post {w f args d u R Z Post Post'} (C : CallC w f args d u R Z Post) (k : ∀ v R' Z', Post v R' Z' → Post' v R' Z') : CallC w f args d u R Z Post' := fun g A s R0 G hh hd hu B ret =>
  C g A s R0 G hh hd hu B fun v R' Z' h' tk' B' P => ret v R' Z' h' tk' B' (k v R' Z' P)
theorem pick_spec {w : World} {b : BA} {x : BSt} {Z : Led} {bound : Int} {tb : Tok} (hx : BOk w b x Z) (hb : 0 < bound) :
    CallC w 447 [.ref b.P, .int bound tb] 1 10 (Res b x) Z (fun v R' Z' => Ex3 fun r t x' => An9 (v = .int r t) (0 ≤ r) (r < bound) (R' = Res b x') (Z' = Z) (BOk w b x' Z) (x'.tl = x.tl) (x'.bad = x.bad) (x'.room = x.room)) :=
  (pick0 hx.po hx.fm hx.fl hx.fi hx.fz hx.i0 hb).post fun v R' Z' ⟨r, t, po', i', mix', ti', tm', e, h0, h1, eR, eZ, hp, hi⟩ =>
    ⟨r, t, { x with po := po', i := i', mix := mix', ti := ti', tm := tm' }, e, h0, h1, eR, eZ, { hx with po := hp, i0 := hi }, rfl, rfl, rfl⟩

section
variable {w : World} {A : Around} {E : Value → Shared → Prop} {env : Env} {g : Heap} {L : Addr} {ns gs : List Str} {vs vs' : List (Option Value)} {own R Z : Led}
  {h : Heap} {ge : Array GenState} {dr : Drawn} {tk : Nat} {os : OsState}
theorem St.ofPush (S : St w g L ns vs own R Z h) {D : Addr} {o : Obj} {h' : Heap} (F : Fr g L h' (look ns vs)) (N : News g L h' ((D, o) :: (own ++ (R ++ Z)))) (hD : h.objs.size ≤ D) : St w g L ns vs ((D, o) :: own) R Z h' := by
  refine ⟨S.gx, F, N, ?_, S.nn⟩
  show (D :: (own ++ (R ++ Z)).map (·.1)).Nodup
  refine List.nodup_cons.mpr ⟨fun hm => ?_, S.nd⟩
  obtain ⟨p, hp, e⟩ := List.mem_map.mp hm
  have := Heap.lt_size (S.N p hp).1
  rw [e] at this
  exact absurd (Nat.lt_of_lt_of_le this hD) (Nat.lt_irrefl _)
inductive Strs : List Value → List Str → Prop
  | nil : Strs [] []
  | cons {x t vs xs} : Strs vs xs → Strs (.str x t :: vs) (x :: xs)
theorem Strs.of_values : ∀ l : List (Str × Tok), Strs (strValues l) (l.map (·.1))
  | [] => .nil
  | (x, t) :: l => .cons (Strs.of_values l)
theorem Strs.get {vs xs} (h : Strs vs xs) {i : Nat} {v : Value} (hv : vs[i]? = some v) : ∃ x t, xs[i]? = some x ∧ v = .str x t := by
  induction h generalizing i with
  | nil => simp at hv
  | cons _ ih =>
    cases i with
    | zero => simp at hv; subst hv; exact ⟨_, _, rfl, rfl⟩
    | succ i => exact ih (by simpa using hv)
theorem Strs.length {vs xs} (h : Strs vs xs) : vs.length = xs.length := by
  induction h with
  | nil => rfl
  | cons _ ih => simp [ih]
theorem Strs.append {vs xs ws ys} (h : Strs vs xs) (k : Strs ws ys) : Strs (vs ++ ws) (xs ++ ys) := by
  induction h with
  | nil => exact k
  | cons _ ih => exact .cons ih
theorem sp1 {x y : Str} {t u : Tok} {Q : Value → Shared → Prop} (S : St w g L ns vs own R Z h) (hy : (y.length == 0) = false) (hx : x.length ≤ 1000)
    (k1 : ∀ D us h' tk', Strs us (Txt.split x y) → St w g L ns vs ((D, listOf us.toArray 0) :: own) R Z h' → Q (.ref D) ⟨h', ge, dr, tk', os⟩) :
    wpAny (model PR w) A (call (.builtin "str.split") [.str x t, .str y u]) Q E ⟨h, ge, dr, tk, os⟩ :=
  splitN1 (s := ⟨h, ge, dr, tk, os⟩) S.F S.N hy (fun l h' k e F' N' => k1 _ (strValues l) h' k (e ▸ Strs.of_values l) (S.ofPush F' N' (Nat.le_refl _))) (by rw [sizeLine_eq]; (first | lia | omega))
end
inductive RowsL (Z : Led) : List Value → List (List Str) → Prop
  | nil : RowsL Z [] []
  | cons {a n us xs rs rows} : (a, listOf us.toArray n) ∈ Z → Strs us xs → RowsL Z rs rows → RowsL Z (.ref a :: rs) (xs :: rows)
theorem RowsL.up {Z Z' rs rows} (s : Sub Z Z') (h : RowsL Z rs rows) : RowsL Z' rs rows := by
  induction h with
  | nil => exact .nil
  | cons m u _ ih => exact .cons (s.up _ m) u ih
theorem RowsL.snoc {Z rs rows a n us xs} (h : RowsL Z rs rows) (m : (a, listOf us.toArray n) ∈ Z) (u : Strs us xs) : RowsL Z (rs ++ [.ref a]) (rows ++ [xs]) := by
  induction h with
  | nil => exact .cons m u .nil
  | cons m u _ ih => exact .cons m u ih
theorem RowsL.getL {Z rs rows} (h : RowsL Z rs rows) {i : Nat} {v : Value} (hv : rs[i]? = some v) : ∃ a n us xs, v = .ref a ∧ rows[i]? = some xs ∧ (a, listOf us.toArray n) ∈ Z ∧ Strs us xs := by
  induction h generalizing i with
  | nil => simp at hv
  | cons m u _ ih =>
    cases i with
    | zero => simp at hv; subst hv; exact ⟨_, _, _, _, rfl, rfl, m, u⟩
    | succ i => exact ih (by simpa using hv)
theorem RowsL.get {Z rs rows} (h : RowsL Z rs rows) {i : Nat} {v : Value} (hv : rs[i]? = some v) : ∃ a ao us xs, v = .ref a ∧ rows[i]? = some xs ∧ (a, ao) ∈ Z ∧ IsL ao us ∧ Strs us xs :=
  let ⟨a, _, us, xs, e1, e2, m, u⟩ := h.getL hv; ⟨a, _, us, xs, e1, e2, m, IsL.of, u⟩
theorem RowsL.length {Z rs rows} (h : RowsL Z rs rows) : rs.length = rows.length := by
  induction h with
  | nil => rfl
  | cons _ _ _ ih => simp [ih]
structure RowsAt (Z : Led) (l : Addr) (rows : List (List Str)) : Prop where
  ex : ∃ lo rs, (l, lo) ∈ Z ∧ IsL lo rs ∧ RowsL Z rs rows
noncomputable def rowsTxt : List Str := ["||", "&&", "|", "^ ~^ ^~", "&", "== != === !==", "< <= > >=", "<< >> <<< >>>", "+ -", "* / %", "**"]
noncomputable def bindTab : List (List Str) := [["||"], ["&&"], ["|"], ["^", "~^", "^~"], ["&"], ["==", "!=", "===", "!=="], ["<", "<=", ">", ">="], ["<<", ">>", "<<<", ">>>"], ["+", "-"], ["*", "/", "%"], ["**"]]
theorem rows_split : rowsTxt.map (fun x => Txt.split x " ") = bindTab := by decide +kernel
theorem rows_short : ∀ x ∈ rowsTxt, x.length ≤ 1000 := by decide +kernel
set_option maxHeartbeats 4000000 in
theorem bindings_spec {w : World} {R Z : Led} : CallC w 459 [] 1 10 R Z (fun v R' Z' => ∃ l, An4 (v = .ref l) (R' = R) (Sub Z Z') (RowsAt Z' l bindTab)) := by
  refine CallC.of (ns := ["rows"]) (gs := []) (rest := ["rows"]) (binds := []) (vs := [none]) (by k_is) (by k_is) (fun u_ u_ => BindsTo.of_eq rfl) (Ev.of (by decide)) (by decide) rfl rfl ?_
  intro g A ge dr os hh hd hu L' h₁ tk E V S pE
  k_extra "GO"
  refine wpAny_ListComp (by decide) rfl (by decide) ?_ (by intro _; rfl)
  k_extra "GO"
  have hS := ic3
  refine lc_list V (gs' := []) (Ev.of (by decide)) hh (by decide) hS (memO mem_hd) IsL.of (Nat.le_of_ble_eq_true rfl) (fun i R' Z' acc => R' = R ∧ Sub Z Z' ∧ RowsL Z' acc (bindTab.take i)) (fun i R' Z' acc u_ => memO mem_hd) ⟨rfl, .rfl, .nil⟩ ?_ ?_
  · intro i v acc R' Z' h tk C D n it ito gc G' V' S' hv ⟨hR, hZ, hA⟩
    obtain ⟨x, t, hx, rfl⟩ : ∃ x t, rowsTxt[i]? = some x ∧ v = .str x t := Strs.get (by unfold rowsTxt; repeat' (first | exact Strs.nil | refine Strs.cons ?_)) hv
    have hrow : bindTab[i]? = some (Txt.split x " ") := by rw [← rows_split, List.getElem?_map, hx]; rfl
    have hsx : x.length ≤ 1000 := rows_short x (List.mem_of_getElem? hx)
    k_extra "GO"
    refine GM.split ?_
    k_extra "GO"
    refine sp1 (by assumption) (by decide) hsx fun D2 us h2 tk2 hus S2 => ?_
    refine ⟨R', _, h2, tk2, rfl, S2.frz, hR, hZ.tl, ?_⟩
    have e : bindTab.take (i + 1) = bindTab.take i ++ [Txt.split x " "] := by rw [List.take_succ, hrow]; rfl
    rw [e]
    exact (hA.up (Sub.tl .rfl)).snoc mem_hd hus
  · intro D acc n R' Z' h tk hlen S' ⟨hR, hZ, hA⟩
    subst hR
    have S2 := S'.frz
    (repeat' with_reducible k_extra "UNH"); k_extra "RETC"
    exact ⟨_, rfl, rfl, hZ.tl, ⟨_, acc, mem_hd, IsL.of, hA.up (Sub.tl .rfl)⟩⟩

/-! readings -/
inductive Part where
  | un (op : Str) (at_ : Int)
  | bin (op : Str) (at_ : Int)
  | quest (at_ : Int)
  | colon (at_ : Int)
  | term (d : PyData) (k : Int)
noncomputable def Part.data : Part → PyData
  | .un op a => .tuple [.str "un", .str op, .int a]
  | .bin op a => .tuple [.str "bin", .str op, .int a]
  | .quest a => .tuple [.str "?", .str "", .int a]
  | .colon a => .tuple [.str ":", .str "", .int a]
  | .term d k => .tuple [.str "term", d, .int k]
noncomputable def Part.mark : Part → Str
  | .un _ _ => "un" | .bin _ _ => "bin" | .quest _ => "?" | .colon _ => ":" | .term _ _ => "term"
noncomputable def Part.wt : Part → Int
  | .quest _ => 1 | .colon _ => -1 | _ => 0
noncomputable def normOp (x : Str) : Str := if x = "^~" then "~^" else x
noncomputable def prec (x : Str) : Nat :=
  if (x == ("||" : Str)) = true then 1 else if (x == ("&&" : Str)) = true then 2 else if (x == ("|" : Str)) = true then 3 else
    if (["^", "~^", "^~"] : List Str).any (fun y => y == x) = true then 4 else if (x == ("&" : Str)) = true then 5 else if (["==", "!=", "===", "!=="] : List Str).any (fun y => y == x) = true then 6 else
    if (["<", "<=", ">", ">="] : List Str).any (fun y => y == x) = true then 7 else if (["<<", ">>", "<<<", ">>>"] : List Str).any (fun y => y == x) = true then 8 else
    if (["+", "-"] : List Str).any (fun y => y == x) = true then 9 else if (["*", "/", "%"] : List Str).any (fun y => y == x) = true then 10 else if (x == ("**" : Str)) = true then 11 else 0
noncomputable def joinOps : List Str := ["||", "&&", "|", "^", "~^", "^~", "&", "==", "!=", "===", "!==", "<", "<=", ">", ">=", "<<", ">>", "<<<", ">>>", "+", "-", "*", "/", "%", "**"]
noncomputable def unOps : List Str := ["+", "-", "!", "~", "&", "~&", "|", "~|", "^", "~^", "^~"]
noncomputable abbrev tUn (a : Int) (o : Str) (d : PyData) : PyData := .tuple [.str "un", .int a, .str (normOp o), d]
noncomputable abbrev tBin (a : Int) (o : Str) (l r : PyData) : PyData := .tuple [.str "bin", .int a, .str (normOp o), l, r]
noncomputable abbrev tCond (a : Int) (t c d : PyData) : PyData := .tuple [.str "cond", .int a, t, c, d]
noncomputable def dep : List Part → Int
  | [] => 0
  | p :: r => p.wt + dep r
theorem dep_append (a b : List Part) : dep (a ++ b) = dep a + dep b := by
  induction a with
  | nil => simp [dep]
  | cons p r ih => simp only [List.cons_append, dep, ih]; (first | lia | omega)
structure Bal (c : List Part) : Prop where
  z : dep c = 0
  p : ∀ j, 0 ≤ dep (c.take j)
theorem Bal.append {a b} (h : Bal a) (k : Bal b) : Bal (a ++ b) :=
  ⟨by rw [dep_append, h.z, k.z]; rfl, fun j => by rw [List.take_append, dep_append]; have := h.p j; have := k.p (j - a.length); (first | lia | omega)⟩
theorem Bal.nil : Bal [] := ⟨rfl, fun j => by simp [dep]⟩
theorem Bal.one {p : Part} (h : p.wt = 0) : Bal [p] := ⟨by simp [dep, h], fun j => by cases j <;> simp [dep, h]⟩
theorem Bal.par {a b : Int} {c : List Part} (h : Bal c) : Bal (.quest a :: (c ++ [.colon b])) := by
  refine ⟨by simp [dep, dep_append, Part.wt, h.z], fun j => ?_⟩
  cases j with
  | zero => simp [dep]
  | succ j =>
    rw [List.take_succ_cons, List.take_append]
    have := h.p j
    simp only [dep, dep_append, Part.wt]
    have : -1 ≤ dep (([.colon b] : List Part).take (j - c.length)) := by
      cases j - c.length <;> simp [dep, Part.wt]
    (first | lia | omega)
noncomputable def notQ : Part → Prop
  | .quest _ => False
  | _ => True
/-- what the reading of a row of parts gives, within n calls -/
inductive Rd : Nat → List Part → PyData → Prop
  | cond {n T C O a b dt dc do_} : (∀ p ∈ T, notQ p) → Bal C → Rd n T dt → Rd n C dc → Rd n O do_ → Rd (n + 1) (T ++ .quest a :: (C ++ .colon b :: O)) (tCond a dt dc do_)
  | bin {n l r o a dl dr} : (∀ p ∈ l, notQ p) → (∀ p ∈ r, notQ p) → o ∈ joinOps → (∀ o' a', .bin o' a' ∈ l → o' ∈ joinOps ∧ prec o ≤ prec o') → (∀ o' a', .bin o' a' ∈ r → o' ∈ joinOps ∧ prec o < prec o') →
      Rd n l dl → Rd n r dr → Rd (n + 1) (l ++ .bin o a :: r) (tBin a o dl dr)
  | un {n o a ps d} : (∀ p ∈ ps, notQ p) → (∀ o' a', .bin o' a' ∉ ps) → Rd n ps d → Rd (n + 1) (.un o a :: ps) (tUn a o d)
  | term {n d k} : Rd (n + 1) [.term d k] d
theorem Rd.mono {n ps d} (h : Rd n ps d) : ∀ {m}, n ≤ m → Rd m ps d := by
  induction h with
  | cond a b _ _ _ i1 i2 i3 => intro m hm; cases m with | zero => (first | lia | omega) | succ m => exact .cond a b (i1 (by (first | lia | omega))) (i2 (by (first | lia | omega))) (i3 (by (first | lia | omega)))
  | bin a b c d e _ _ i1 i2 => intro m hm; cases m with | zero => (first | lia | omega) | succ m => exact .bin a b c d e (i1 (by (first | lia | omega))) (i2 (by (first | lia | omega)))
  | un a b _ i1 => intro m hm; cases m with | zero => (first | lia | omega) | succ m => exact .un a b (i1 (by (first | lia | omega)))
  | term => intro m hm; cases m with | zero => (first | lia | omega) | succ m => exact .term

/-! the grammar: X says what a sub-expression is -/
noncomputable abbrev XP := List TokD → PyData → Option Int → Prop
noncomputable abbrev op (x : Str) (a : Int) : TokD := ⟨"op", .str x, a⟩
noncomputable abbrev idt (x : Str) (a : Int) : TokD := ⟨"id", .str x, a⟩
noncomputable def bigTxt (i : Int) : Str := Str.ofString (toString i)
inductive GMore (X : XP) : List TokD → List PyData → Option Int → Prop
  | nil : GMore X [] [] none
  | cons {a ts d e ts' ds e'} : X ts d e → GMore X ts' ds e' → GMore X (op "," a :: (ts ++ ts')) (d :: ds) (e.or e')
inductive GItems (X : XP) : List TokD → List PyData → Option Int → Prop
  | mk {ts d e ts' ds e'} : X ts d e → GMore X ts' ds e' → GItems X (ts ++ ts') (d :: ds) (e.or e')
inductive GArgs (X : XP) : List TokD → List PyData → Option Int → Prop
  | nil : GArgs X [] [] none
  | some {ts ds e} : GItems X ts ds e → GArgs X ts ds e
noncomputable abbrev tIx (at_ : Int) (b i : PyData) : PyData := .tuple [.str "index", .int at_, b, i]
inductive Rng : Str → Str → Prop
  | part : Rng "part" ":"
  | up : Rng "up" "+:"
  | down : Rng "down" "-:"
inductive GSels (X : XP) (at_ : Int) : PyData → XP
  | nil {b} : GSels X at_ b [] b none
  | idx {b a a' ts i e ts' d e'} : X ts i e → GSels X at_ (tIx at_ b i) ts' d e' → GSels X at_ b (op "[" a :: (ts ++ op "]" a' :: ts')) d (e.or e')
  | rng {b k o a a1 a2 ts i e ts' j e'} : Rng k o → X ts i e → X ts' j e' → GSels X at_ b (op "[" a :: (ts ++ op o a1 :: (ts' ++ [op "]" a2]))) (.tuple [.str k, .int at_, b, i, j]) (e.or e')
noncomputable def pathTree (at_ : Int) (done : List PyData) (nm : Str) : PyData :=
  if done = [] then .tuple [.str "id", .int at_, .str nm] else .tuple [.str "path", .int at_, .tuple (done ++ [.tuple [.str nm, .none]])]
noncomputable def namesOk : List Str := ["a", "b", "c"]
inductive GTail (X : XP) (at_ : Int) : List PyData → Str → XP
  | stop {done nm ts d e} : GSels X at_ (pathTree at_ done nm) ts d e → GTail X at_ done nm ts d e
  | dot {done nm nm' a a2 ts d e} : nm' ∈ namesOk → GTail X at_ (done ++ [.tuple [.str nm, .none]]) nm' ts d e → GTail X at_ done nm (op "." a :: idt nm' a2 :: ts) d e
  | ix {done nm nm' a a1 a2 a3 ts i e ts' d e'} : nm' ∈ namesOk → X ts i e → GTail X at_ (done ++ [.tuple [.str nm, i]]) nm' ts' d e' →
      GTail X at_ done nm (op "[" a :: (ts ++ op "]" a1 :: op "." a2 :: idt nm' a3 :: ts')) d (e.or e')
noncomputable def badToks : List (Str × Str) := [("op", ";"), ("key", "begin"), ("eof", ""), ("op", "=")]
inductive GPrim (X : XP) : XP
  | num1 {i at_} : 0 ≤ i → i < 2147483648 → GPrim X [⟨"num", .tuple [.str "", .str "", .bool true, .str (bigTxt i)], at_⟩] (.tuple [.str "num", .int at_, .tuple [.int 32, .int i, .int 0], .bool true, .bool false]) none
  | num2 {at_} : GPrim X [⟨"num", .tuple [.str "4", .str "b", .bool false, .str "1x0z"], at_⟩] (.tuple [.str "num", .int at_, .tuple [.int 4, .int 12, .int 5], .bool false, .bool true]) none
  | str {at_} : GPrim X [⟨"str", .str "a b", at_⟩] (.tuple [.str "str", .int at_, .str "a b"]) none
  | sys0 {at_} : GPrim X [⟨"sys", .str "$clog2", at_⟩] (.tuple [.str "sys", .int at_, .str "$clog2", .tuple []]) none
  | sys {at_ a a' ts ds e} : GArgs X ts ds e → GPrim X (⟨"sys", .str "$clog2", at_⟩ :: op "(" a :: (ts ++ [op ")" a'])) (.tuple [.str "sys", .int at_, .str "$clog2", .tuple ds]) e
  | call {at_ a a' ts ds e} : GArgs X ts ds e → GPrim X (idt "f" at_ :: op "(" a :: (ts ++ [op ")" a'])) (.tuple [.str "call", .int at_, .str "f", .tuple ds]) e
  | ref {at_ nm ts d e} : nm ∈ namesOk → GTail X at_ [] nm ts d e → GPrim X (idt nm at_ :: ts) d e
  | par {a a' ts d e} : X ts d e → GPrim X (op "(" a :: (ts ++ [op ")" a'])) d e
  | mtm {a a1 a2 a3 t1 d1 e1 t2 d2 e2 t3 d3 e3} : X t1 d1 e1 → X t2 d2 e2 → X t3 d3 e3 → GPrim X (op "(" a :: (t1 ++ op ":" a1 :: (t2 ++ op ":" a2 :: (t3 ++ [op ")" a3])))) d2 (e1.or (e2.or e3))
  | cat {a a' ts ds e} : GItems X ts ds e → GPrim X (op "{" a :: (ts ++ [op "}" a'])) (.tuple [.str "cat", .int a, .tuple ds]) e
  | rep {a a1 a2 a3 ts d e ts' ds e'} : X ts d e → GItems X ts' ds e' → GPrim X (op "{" a :: (ts ++ op "{" a1 :: (ts' ++ [op "}" a2, op "}" a3]))) (.tuple [.str "rep", .int a, d, .tuple ds]) (e.or e')
  | bad {k v at_ d} : (k, v) ∈ badToks → GPrim X [⟨k, .str v, at_⟩] d (some at_)
inductive GUn (X : XP) : XP
  | prim {ts d e} : GPrim X ts d e → GUn X ts d e
  | un {o a ts d e} : o ∈ unOps → GUn X ts d e → GUn X (op o a :: ts) (tUn a o d) e
inductive GL (X : XP) : Nat → Nat → PyData → XP
  | nil {least mx d} : GL X least mx d [] d none
  | cons {least mx dl o a t0 d0 e0 tr dr er ts d e} : o ∈ joinOps → least ≤ prec o → prec o ≤ mx → GUn X t0 d0 e0 → GL X (prec o + 1) 12 d0 tr dr er → GL X least (prec o) (tBin a o dl dr) ts d e →
      GL X least mx dl (op o a :: (t0 ++ (tr ++ ts))) d (e0.or (er.or e))
inductive GBn (X : XP) (least : Nat) : XP
  | mk {t0 d0 e0 ts d e} : GUn X t0 d0 e0 → GL X least 12 d0 ts d e → GBn X least (t0 ++ ts) d (e0.or e)
inductive GTn (X : XP) : PyData → XP
  | nil {d} : GTn X d [] d none
  | cons {d1 a a' c dc ec t2 d2 e2 ts d e} : X c dc ec → GBn X 1 t2 d2 e2 → GTn X d2 ts d e → GTn X d1 (op "?" a :: (c ++ op ":" a' :: (t2 ++ ts))) (tCond a d1 dc d) (ec.or (e2.or e))
inductive GE (X : XP) : XP
  | mk {t0 d0 e0 ts d e} : GBn X 1 t0 d0 e0 → GTn X d0 ts d e → GE X (t0 ++ ts) d (e0.or e)
noncomputable def GX : Nat → XP
  | 0 => fun u_ u_ u_ => False
  | n + 1 => GE (GX n)

section
variable {X Y : XP} (k : ∀ ts d e, X ts d e → Y ts d e)
include k
theorem GMore.mono {ts d e} (h : GMore X ts d e) : GMore Y ts d e := by
  induction h with
  | nil => exact .nil
  | cons a _ ih => exact .cons (k _ _ _ a) ih
theorem GItems.mono {ts d e} (h : GItems X ts d e) : GItems Y ts d e := by
  cases h with | mk a b => exact .mk (k _ _ _ a) (b.mono k)
theorem GArgs.mono {ts d e} (h : GArgs X ts d e) : GArgs Y ts d e := by
  cases h with | nil => exact .nil | some b => exact .some (b.mono k)
theorem GSels.mono {a b ts d e} (h : GSels X a b ts d e) : GSels Y a b ts d e := by
  induction h with
  | nil => exact .nil
  | idx x _ ih => exact .idx (k _ _ _ x) ih
  | rng r x y => exact .rng r (k _ _ _ x) (k _ _ _ y)
theorem GTail.mono {a b c ts d e} (h : GTail X a b c ts d e) : GTail Y a b c ts d e := by
  induction h with
  | stop x => exact .stop (x.mono k)
  | dot n _ ih => exact .dot n ih
  | ix n x _ ih => exact .ix n (k _ _ _ x) ih
theorem GPrim.mono {ts d e} (h : GPrim X ts d e) : GPrim Y ts d e := by
  cases h with
  | num1 a b => exact .num1 a b
  | num2 => exact .num2
  | str => exact .str
  | sys0 => exact .sys0
  | sys a => exact .sys (a.mono k)
  | call a => exact .call (a.mono k)
  | ref n a => exact .ref n (a.mono k)
  | par a => exact .par (k _ _ _ a)
  | mtm a b c => exact .mtm (k _ _ _ a) (k _ _ _ b) (k _ _ _ c)
  | cat a => exact .cat (a.mono k)
  | rep a b => exact .rep (k _ _ _ a) (b.mono k)
  | bad a => exact .bad a
theorem GUn.mono {ts d e} (h : GUn X ts d e) : GUn Y ts d e := by
  induction h with
  | prim a => exact .prim (a.mono k)
  | un a _ ih => exact .un a ih
theorem GL.mono {l m c ts d e} (h : GL X l m c ts d e) : GL Y l m c ts d e := by
  induction h with
  | nil => exact .nil
  | cons a b c d _ _ i1 i2 => exact .cons a b c (d.mono k) i1 i2
theorem GBn.mono {l ts d e} (h : GBn X l ts d e) : GBn Y l ts d e := by
  cases h with | mk a b => exact .mk (a.mono k) (b.mono k)
theorem GTn.mono {c ts d e} (h : GTn X c ts d e) : GTn Y c ts d e := by
  induction h with
  | nil => exact .nil
  | cons a b _ ih => exact .cons (k _ _ _ a) (b.mono k) ih
theorem GE.mono {ts d e} (h : GE X ts d e) : GE Y ts d e := by
  cases h with | mk a b => exact .mk (a.mono k) (b.mono k)
end
theorem GX.succ : ∀ {n ts d e}, GX n ts d e → GX (n + 1) ts d e
  | 0, _, _, _, h => h.elim
  | _ + 1, _, _, _, h => GE.mono (fun u_ u_ u_ => GX.succ) h
theorem GX.le {n m ts d e} (hm : n ≤ m) (h : GX n ts d e) : GX m ts d e := by
  induction hm with
  | refl => exact h
  | step _ ih => exact ih.succ

/-! left to right -/
theorem GMore.snoc {X : XP} {ts ds e a t d e'} (h : GMore X ts ds e) (x : X t d e') : GMore X (ts ++ op "," a :: t) (ds ++ [d]) (e.or e') := by
  induction h with
  | nil => have := GMore.cons (a := a) x GMore.nil; simpa using this
  | cons y _ ih =>
    have := GMore.cons (a := by assumption) y ih
    simpa [Option.or_assoc] using this
theorem GItems.snoc {X : XP} {ts ds e a t d e'} (h : GItems X ts ds e) (x : X t d e') : GItems X (ts ++ op "," a :: t) (ds ++ [d]) (e.or e') := by
  cases h with
  | mk y m => have := GItems.mk y (m.snoc (a := a) x); simpa [Option.or_assoc] using this
theorem GL.up {X : XP} {p l m c ts d e} (h : GL X p m c ts d e) : l ≤ p → GL X l m c ts d e := by
  induction h with
  | nil => intro _; exact .nil
  | cons a b c d x _ _ i2 => intro hl; exact .cons a (Nat.le_trans hl b) c d x (i2 hl)
theorem GL.snoc {X : XP} {o a p m c ts d e t0 d0 e0 tr dr er} (h : GL X p m c ts d e) (ho : o ∈ joinOps) (hp : p = prec o) (u : GUn X t0 d0 e0) (x : GL X (prec o + 1) 12 d0 tr dr er) :
    p ≤ m → GL X p m c (ts ++ op o a :: (t0 ++ tr)) (tBin a o d dr) (e.or (e0.or er)) := by
  induction h with
  | @nil _ _ dd => intro hm; have := GL.cons (X := X) (dl := dd) (a := a) ho (Nat.le_of_eq hp) (Nat.le_trans (Nat.le_of_eq hp.symm) hm) u x GL.nil; simpa using this
  | cons a' b' c' d' x' _ _ i2 =>
    intro hm
    have := GL.cons (a := by assumption) a' b' c' d' x' (i2 hp b')
    simpa [Option.or_assoc] using this

/-! the row of parts -/
inductive OpG (X : XP) : List Part → XP
  | term {ts d e k} : GPrim X ts d e → OpG X [.term d k] ts d e
  | un {o a ps ts d e} : o ∈ unOps → OpG X ps ts d e → OpG X (.un o a :: ps) (op o a :: ts) (tUn a o d) e
theorem OpG.mono {X Y : XP} (k : ∀ ts d e, X ts d e → Y ts d e) {ps ts d e} (h : OpG X ps ts d e) : OpG Y ps ts d e := by
  induction h with
  | term a => exact .term (a.mono k)
  | un a _ ih => exact .un a ih
theorem OpG.gun {X ps ts d e} (h : OpG X ps ts d e) : GUn X ts d e := by
  induction h with
  | term a => exact .prim a
  | un a _ ih => exact .un a ih
theorem OpG.plain {X ps ts d e} (h : OpG X ps ts d e) : (∀ p ∈ ps, notQ p) ∧ (∀ o a, .bin o a ∉ ps) ∧ Bal ps := by
  induction h with
  | term a => exact ⟨fun p hp => by simp at hp; subst hp; trivial, fun o a hp => by simp at hp, .one rfl⟩
  | @un o a ps ts d e ho _ ih =>
    refine ⟨fun p hp => ?_, fun o a hp => ?_, ?_⟩
    · rcases List.mem_cons.mp hp with rfl | hp
      · trivial
      · exact ih.1 p hp
    · rcases List.mem_cons.mp hp with hp | hp
      · cases hp
      · exact ih.2.1 o a hp
    · exact Bal.append (a := [_]) (.one rfl) ih.2.2
theorem OpG.rd {X ps ts d e} (h : OpG X ps ts d e) : Rd ps.length ps d := by
  induction h with
  | term a => exact .term
  | un ho x ih => exact .un x.plain.1 x.plain.2.1 ih
set_option genInjectivity false in
structure OpD where
  ps : List Part
  ts : List TokD
  d : PyData
  e : Option Int
set_option genInjectivity false in
structure JD where
  o : Str
  a : Int
  r : OpD
noncomputable def lP : List JD → List Part
  | [] => []
  | j :: l => .bin j.o j.a :: (j.r.ps ++ lP l)
noncomputable def lT : List JD → List TokD
  | [] => []
  | j :: l => op j.o j.a :: (j.r.ts ++ lT l)
noncomputable def lE : List JD → Option Int
  | [] => none
  | j :: l => j.r.e.or (lE l)
theorem lP_app (a b : List JD) : lP (a ++ b) = lP a ++ lP b := by induction a with | nil => rfl | cons j l ih => simp [lP, ih]
theorem lT_app (a b : List JD) : lT (a ++ b) = lT a ++ lT b := by induction a with | nil => rfl | cons j l ih => simp [lT, ih]
theorem lE_app (a b : List JD) : lE (a ++ b) = (lE a).or (lE b) := by induction a with | nil => simp [lE] | cons j l ih => simp [lE, ih, Option.or_assoc]
structure JOk (X : XP) (j : JD) : Prop where
  o : j.o ∈ joinOps
  r : OpG X j.r.ps j.r.ts j.r.d j.r.e
theorem lP_notQ {X : XP} : ∀ {l : List JD}, (∀ j ∈ l, JOk X j) → ∀ p ∈ lP l, notQ p
  | [], _, p, hp => nomatch hp
  | j :: l, h, p, hp => by
    rcases List.mem_cons.mp hp with rfl | hp
    · trivial
    · rcases List.mem_append.mp hp with hp | hp
      · exact (h j (.head _)).r.plain.1 p hp
      · exact lP_notQ (fun j hj => h j (.tail _ hj)) p hp
theorem lP_bin {X : XP} : ∀ {l : List JD}, (∀ j ∈ l, JOk X j) → ∀ o a, .bin o a ∈ lP l → ∃ j ∈ l, j.o = o
  | [], _, o, a, hp => nomatch hp
  | j :: l, h, o, a, hp => by
    rcases List.mem_cons.mp hp with hp | hp
    · cases hp; exact ⟨j, .head _, rfl⟩
    · rcases List.mem_append.mp hp with hp | hp
      · exact ((h j (.head _)).r.plain.2.1 o a hp).elim
      · obtain ⟨j', h', e⟩ := lP_bin (fun j hj => h j (.tail _ hj)) o a hp
        exact ⟨j', .tail _ h', e⟩
theorem lP_bal {X : XP} : ∀ {l : List JD}, (∀ j ∈ l, JOk X j) → Bal (lP l)
  | [], _ => .nil
  | j :: l, h => Bal.append (a := [_]) (.one rfl) ((h j (.head _)).r.plain.2.2.append (lP_bal fun j hj => h j (.tail _ hj)))
theorem join_prec : ∀ o ∈ joinOps, 1 ≤ prec o ∧ prec o ≤ 11 := by decide +kernel
theorem lastMin (f : JD → Nat) : ∀ l : List JD, l ≠ [] → ∃ a j b, l = a ++ j :: b ∧ (∀ x ∈ a, f j ≤ f x) ∧ (∀ x ∈ b, f j < f x)
  | [], h => (h rfl).elim
  | [j], _ => ⟨[], j, [], rfl, fun u_ h => (nomatch h), fun u_ h => (nomatch h)⟩
  | j0 :: j1 :: l, _ => by
    obtain ⟨a, j, b, e, ha, hb⟩ := lastMin f (j1 :: l) (by simp)
    by_cases h : f j ≤ f j0
    · refine ⟨j0 :: a, j, b, by rw [e]; rfl, fun x hx => ?_, hb⟩
      rcases List.mem_cons.mp hx with rfl | hx
      · exact h
      · exact ha x hx
    · refine ⟨[], j0, j1 :: l, rfl, fun u_ h => (nomatch h), fun x hx => ?_⟩
      rw [e] at hx
      rcases List.mem_append.mp hx with hx | hx
      · have := ha x hx; (first | lia | omega)
      · rcases List.mem_cons.mp hx with rfl | hx
        · (first | lia | omega)
        · have := hb x hx; (first | lia | omega)
theorem chain {X : XP} : ∀ (n : Nat) (o : OpD) (l : List JD), l.length ≤ n → OpG X o.ps o.ts o.d o.e → (∀ j ∈ l, JOk X j) →
    ∃ d, Rd (o.ps ++ lP l).length (o.ps ++ lP l) d ∧ ∀ p, (∀ j ∈ l, p ≤ prec j.o) → p ≤ 12 → ∃ ts e, GL X p 12 o.d ts d e ∧ lT l = ts ∧ lE l = e
  | n, o, [], _, ho, _ => ⟨o.d, by simpa [lP] using ho.rd, fun p u_ u_ => ⟨_, _, .nil, rfl, rfl⟩⟩
  | 0, o, j :: l, hn, _, _ => by simp at hn
  | n + 1, o, j0 :: l0, hn, ho, hl => by
    obtain ⟨l, j, r, e, ha, hb⟩ := lastMin (fun j => prec j.o) (j0 :: l0) (by simp)
    rw [e] at hn hl ⊢
    simp only [List.length_append, List.length_cons] at hn
    have hll : ∀ x ∈ l, JOk X x := fun x hx => hl x (List.mem_append_left _ hx)
    have hrr : ∀ x ∈ r, JOk X x := fun x hx => hl x (List.mem_append_right _ (.tail _ hx))
    have hj : JOk X j := hl j (List.mem_append_right _ (.head _))
    obtain ⟨dl, rl, gl⟩ := chain n o l (by (first | lia | omega)) ho hll
    obtain ⟨dr, rr, gr⟩ := chain n j.r r (by (first | lia | omega)) hj.r hrr
    have hp := join_prec _ hj.o
    have ePs : o.ps ++ lP (l ++ j :: r) = (o.ps ++ lP l) ++ .bin j.o j.a :: (j.r.ps ++ lP r) := by simp [lP_app, lP]
    refine ⟨tBin j.a j.o dl dr, ?_, fun p hpp h12 => ?_⟩
    · rw [ePs]
      have len : ((o.ps ++ lP l) ++ .bin j.o j.a :: (j.r.ps ++ lP r)).length = ((o.ps ++ lP l).length + (j.r.ps ++ lP r).length) + 1 := by simp only [List.length_append, List.length_cons]; (first | lia | omega)
      rw [len]
      have nq1 : ∀ p ∈ o.ps ++ lP l, notQ p := fun p hp => (List.mem_append.mp hp).elim (ho.plain.1 p) (lP_notQ hll p)
      have nq2 : ∀ p ∈ j.r.ps ++ lP r, notQ p := fun p hp => (List.mem_append.mp hp).elim (hj.r.plain.1 p) (lP_notQ hrr p)
      refine .bin nq1 nq2 hj.o (fun o' a' hm => ?_) (fun o' a' hm => ?_) (rl.mono (by (first | lia | omega))) (rr.mono (by (first | lia | omega)))
      · rcases List.mem_append.mp hm with hm | hm
        · exact (ho.plain.2.1 _ _ hm).elim
        · obtain ⟨x, hx, rfl⟩ := lP_bin hll _ _ hm; exact ⟨(hll x hx).o, ha x hx⟩
      · rcases List.mem_append.mp hm with hm | hm
        · exact (hj.r.plain.2.1 _ _ hm).elim
        · obtain ⟨x, hx, rfl⟩ := lP_bin hrr _ _ hm; exact ⟨(hrr x hx).o, hb x hx⟩
    · obtain ⟨t1, e1, g1, rfl, rfl⟩ := gl (prec j.o) ha (by (first | lia | omega))
      obtain ⟨t2, e2, g2, rfl, rfl⟩ := gr (prec j.o + 1) hb (by (first | lia | omega))
      have := (g1.snoc (a := j.a) hj.o rfl hj.r.gun g2 (by (first | lia | omega))).up (l := p) (hpp j (List.mem_append_right _ (.head _)))
      exact ⟨_, _, this, by simp [lT_app, lT], by simp [lE_app, lE]⟩
theorem chainB {X : XP} {o : OpD} {l : List JD} (ho : OpG X o.ps o.ts o.d o.e) (hl : ∀ j ∈ l, JOk X j) :
    ∃ d, Rd (o.ps ++ lP l).length (o.ps ++ lP l) d ∧ GBn X 1 (o.ts ++ lT l) d (o.e.or (lE l)) := by
  obtain ⟨d, r, g⟩ := chain l.length o l (Nat.le_refl _) ho hl
  obtain ⟨t, e, g', rfl, rfl⟩ := g 1 (fun j hj => (join_prec _ (hl j hj).o).1) (by (first | lia | omega))
  exact ⟨d, r, .mk ho.gun g'⟩
inductive RowG (X : XP) : List Part → List TokD → Option Int → Prop
  | one {ps ts d e} : OpG X ps ts d e → RowG X ps ts e
  | bin {ps ts e o a ps' ts' d' e'} : RowG X ps ts e → o ∈ joinOps → OpG X ps' ts' d' e' → RowG X (ps ++ .bin o a :: ps') (ts ++ op o a :: ts') (e.or e')
  | quest {ps ts e a b cps cts dc ec ps' ts' d' e'} : RowG X ps ts e → Rd cps.length cps dc → Bal cps → X cts dc ec → OpG X ps' ts' d' e' →
      RowG X (ps ++ .quest a :: (cps ++ .colon b :: ps')) (ts ++ op "?" a :: (cts ++ op ":" b :: ts')) (e.or (ec.or e'))
structure RGood (X : XP) (ps : List Part) (ts : List TokD) (e : Option Int) : Prop where
  ex : ∃ d, Rd ps.length ps d ∧ GE X ts d e
  b : Bal ps
theorem RowG.split {X ps ts e} (h : RowG X ps ts e) : ∃ (pps : List Part) (pts : List TokD) (pe : Option Int) (o : OpD) (l : List JD), ps = pps ++ (o.ps ++ lP l) ∧ ts = pts ++ (o.ts ++ lT l) ∧ e = pe.or (o.e.or (lE l)) ∧ OpG X o.ps o.ts o.d o.e ∧ (∀ j ∈ l, JOk X j) ∧
    ∀ ps' ts' e', RGood X ps' ts' e' → RGood X (pps ++ ps') (pts ++ ts') (pe.or e') := by
  induction h with
  | @one ps ts d e h => exact ⟨[], [], none, ⟨ps, ts, d, e⟩, [], by simp [lP], by simp [lT], by simp [lE], h, fun u_ h => (nomatch h), fun u_ u_ u_ g => by simpa using g⟩
  | @bin ps ts e o a ps' ts' d' e' _ ho hg ih =>
    obtain ⟨pps, pts, pe, q, l, rfl, rfl, rfl, hq, hl, k⟩ := ih
    refine ⟨pps, pts, pe, q, l ++ [⟨o, a, ⟨ps', ts', d', e'⟩⟩], by simp [lP_app, lP], by simp [lT_app, lT], by simp [lE_app, lE, Option.or_assoc], hq, fun j hj => ?_, k⟩
    rcases List.mem_append.mp hj with hj | hj
    · exact hl j hj
    · simp only [List.mem_singleton] at hj; subst hj; exact ⟨ho, hg⟩
  | @quest ps ts e a b cps cts dc ec ps' ts' d' e' _ hr hb hx hg ih =>
    obtain ⟨pps, pts, pe, q, l, rfl, rfl, rfl, hq, hl, k⟩ := ih
    obtain ⟨d0, r0, g0⟩ := chainB hq hl
    refine ⟨pps ++ ((q.ps ++ lP l) ++ .quest a :: (cps ++ [.colon b])), pts ++ ((q.ts ++ lT l) ++ op "?" a :: (cts ++ [op ":" b])), pe.or ((q.e.or (lE l)).or ec), ⟨ps', ts', d', e'⟩, [], by simp [lP], by simp [lT], by simp [lE, Option.or_assoc], hg, fun u_ h => (nomatch h), ?_⟩
    intro ps2 ts2 e2 g2
    obtain ⟨⟨d2, r2, x2⟩, b2⟩ := g2
    have nq : ∀ p ∈ q.ps ++ lP l, notQ p := fun p hp => (List.mem_append.mp hp).elim (hq.plain.1 p) (lP_notQ hl p)
    have bq : Bal (q.ps ++ lP l) := hq.plain.2.2.append (lP_bal hl)
    have G : RGood X ((q.ps ++ lP l) ++ .quest a :: (cps ++ .colon b :: ps2)) ((q.ts ++ lT l) ++ op "?" a :: (cts ++ op ":" b :: ts2)) ((q.e.or (lE l)).or (ec.or e2)) := by
      refine ⟨⟨tCond a d0 dc d2, ?_, ?_⟩, ?_⟩
      · have len : ((q.ps ++ lP l) ++ .quest a :: (cps ++ .colon b :: ps2)).length = ((q.ps ++ lP l).length + cps.length + ps2.length + 1) + 1 := by simp only [List.length_append, List.length_cons]; (first | lia | omega)
        rw [len]
        exact .cond nq hb (r0.mono (by (first | lia | omega))) (hr.mono (by (first | lia | omega))) (r2.mono (by (first | lia | omega)))
      · cases x2 with
        | mk x y => exact .mk g0 (.cons hx x y)
      · have := bq.append ((Bal.par (a := a) (b := b) hb).append b2)
        simpa using this
    have := k _ _ _ G
    simpa [Option.or_assoc] using this
theorem RowG.good {X ps ts e} (h : RowG X ps ts e) : RGood X ps ts e := by
  obtain ⟨pps, pts, pe, o, l, rfl, rfl, rfl, ho, hl, k⟩ := h.split
  obtain ⟨d, r, g⟩ := chainB ho hl
  refine k _ _ _ ⟨⟨d, r, ?_⟩, ho.plain.2.2.append (lP_bal hl)⟩
  have := GE.mk g (GTn.nil)
  simpa using this
theorem OpG.ge {X ps ts d e} (h : OpG X ps ts d e) : GE X ts d e := by
  have := GE.mk (GBn.mk (least := 1) h.gun .nil) .nil
  simpa using this

/-! more rules -/
theorem Strs.are {vs xs} (h : Strs vs xs) : StrsAre vs xs := by
  induction h with
  | nil => exact .nil
  | cons _ ih => exact .cons _ _ ih
theorem TrL.take {Z : Led} {vs ds} (a : TrL Z vs ds) : ∀ n, TrL Z (vs.take n) (ds.take n) := by
  induction vs generalizing ds with
  | nil => cases a; intro n; simp only [List.take_nil]; exact .nil
  | cons v vs ih => cases a with | cons h t => intro n; cases n with | zero => exact .nil | succ n => exact .cons h (ih t n)
theorem TrL.drop {Z : Led} {vs ds} (a : TrL Z vs ds) : ∀ n, TrL Z (vs.drop n) (ds.drop n) := by
  induction vs generalizing ds with
  | nil => cases a; intro n; simp only [List.drop_nil]; exact .nil
  | cons v vs ih => cases a with | cons h t => intro n; cases n with | zero => exact .cons h t | succ n => exact ih t n
noncomputable abbrev PAt (Z : Led) (us : List Value) (ps : List Part) : Prop := TrL Z us (ps.map Part.data)
inductive PartW (Z : Led) : List Value → Part → Prop
  | un {op a t u n} : PartW Z [.str "un" t, .str op u, .int a n] (.un op a)
  | bin {op a t u n} : PartW Z [.str "bin" t, .str op u, .int a n] (.bin op a)
  | quest {a t u n} : PartW Z [.str "?" t, .str "" u, .int a n] (.quest a)
  | colon {a t u n} : PartW Z [.str ":" t, .str "" u, .int a n] (.colon a)
  | term {d k t v n} : Tr Z v d → PartW Z [.str "term" t, v, .int k n] (.term d k)
theorem Tr.tup_inv {Z : Led} {v : Value} {ds : List PyData} (h : Tr Z v (.tuple ds)) : Ex3 fun a o vs => An4 (v = .ref a) ((a, o) ∈ Z) (IsT o vs) (TrL Z vs ds) := by
  cases h with | tup m i l => exact ⟨_, _, _, rfl, m, i, l⟩
theorem TrL.cons_inv {Z : Led} {vs : List Value} {d : PyData} {ds : List PyData} (h : TrL Z vs (d :: ds)) : Ex2 fun v us => An3 (vs = v :: us) (Tr Z v d) (TrL Z us ds) := by
  cases h with | cons a b => exact ⟨_, _, rfl, a, b⟩
theorem TrL.nil_inv {Z : Led} {vs : List Value} (h : TrL Z vs []) : vs = [] := by cases h; rfl
theorem Tr.str_inv {Z : Led} {v : Value} {x : Str} (h : Tr Z v (.str x)) : ∃ t, v = .str x t := by cases h; exact ⟨_, rfl⟩
theorem Tr.int_inv {Z : Led} {v : Value} {x : Int} (h : Tr Z v (.int x)) : ∃ t, v = .int x t := by cases h; exact ⟨_, rfl⟩
theorem Tr.none_inv {Z : Led} {v : Value} (h : Tr Z v .none) : v = .none := by cases h; rfl
theorem Tr.tP1 {Z : Led} {v : Value} {d1 : PyData} {ds : List PyData} (h : Tr Z v (.tuple (d1 :: ds))) : Ex4 fun a o v1 us => An5 (v = .ref a) ((a, o) ∈ Z) (IsT o (v1 :: us)) (Tr Z v1 d1) (TrL Z us ds) := by
  obtain ⟨a, o, us0, e0, m, i, l0⟩ := h.tup_inv
  obtain ⟨v1, us1, rfl, h1, l1⟩ := l0.cons_inv
  exact ⟨a, o, v1, us1, e0, m, i, h1, l1⟩
theorem Tr.tP2 {Z : Led} {v : Value} {d1 d2 : PyData} {ds : List PyData} (h : Tr Z v (.tuple (d1 :: d2 :: ds))) : Ex5 fun a o v1 v2 us => An6 (v = .ref a) ((a, o) ∈ Z) (IsT o (v1 :: v2 :: us)) (Tr Z v1 d1) (Tr Z v2 d2) (TrL Z us ds) := by
  obtain ⟨a, o, us0, e0, m, i, l0⟩ := h.tup_inv
  obtain ⟨v1, us1, rfl, h1, l1⟩ := l0.cons_inv
  obtain ⟨v2, us2, rfl, h2, l2⟩ := l1.cons_inv
  exact ⟨a, o, v1, v2, us2, e0, m, i, h1, h2, l2⟩
theorem Tr.tN2 {Z : Led} {v : Value} {d1 d2 : PyData} (h : Tr Z v (.tuple [d1, d2])) : Ex4 fun a o v1 v2 => An5 (v = .ref a) ((a, o) ∈ Z) (IsT o [v1, v2]) (Tr Z v1 d1) (Tr Z v2 d2) := by
  obtain ⟨a, o, us0, e0, m, i, l0⟩ := h.tup_inv
  obtain ⟨v1, us1, rfl, h1, l1⟩ := l0.cons_inv
  obtain ⟨v2, us2, rfl, h2, l2⟩ := l1.cons_inv
  obtain rfl := l2.nil_inv
  exact ⟨a, o, v1, v2, e0, m, i, h1, h2⟩
theorem Tr.tP3 {Z : Led} {v : Value} {d1 d2 d3 : PyData} {ds : List PyData} (h : Tr Z v (.tuple (d1 :: d2 :: d3 :: ds))) : Ex6 fun a o v1 v2 v3 us => An7 (v = .ref a) ((a, o) ∈ Z) (IsT o (v1 :: v2 :: v3 :: us)) (Tr Z v1 d1) (Tr Z v2 d2) (Tr Z v3 d3) (TrL Z us ds) := by
  obtain ⟨a, o, us0, e0, m, i, l0⟩ := h.tup_inv
  obtain ⟨v1, us1, rfl, h1, l1⟩ := l0.cons_inv
  obtain ⟨v2, us2, rfl, h2, l2⟩ := l1.cons_inv
  obtain ⟨v3, us3, rfl, h3, l3⟩ := l2.cons_inv
  exact ⟨a, o, v1, v2, v3, us3, e0, m, i, h1, h2, h3, l3⟩
theorem Tr.tN3 {Z : Led} {v : Value} {d1 d2 d3 : PyData} (h : Tr Z v (.tuple [d1, d2, d3])) : Ex5 fun a o v1 v2 v3 => An6 (v = .ref a) ((a, o) ∈ Z) (IsT o [v1, v2, v3]) (Tr Z v1 d1) (Tr Z v2 d2) (Tr Z v3 d3) := by
  obtain ⟨a, o, us0, e0, m, i, l0⟩ := h.tup_inv
  obtain ⟨v1, us1, rfl, h1, l1⟩ := l0.cons_inv
  obtain ⟨v2, us2, rfl, h2, l2⟩ := l1.cons_inv
  obtain ⟨v3, us3, rfl, h3, l3⟩ := l2.cons_inv
  obtain rfl := l3.nil_inv
  exact ⟨a, o, v1, v2, v3, e0, m, i, h1, h2, h3⟩
theorem Tr.tN4 {Z : Led} {v : Value} {d1 d2 d3 d4 : PyData} (h : Tr Z v (.tuple [d1, d2, d3, d4])) : Ex6 fun a o v1 v2 v3 v4 => An7 (v = .ref a) ((a, o) ∈ Z) (IsT o [v1, v2, v3, v4]) (Tr Z v1 d1) (Tr Z v2 d2) (Tr Z v3 d3) (Tr Z v4 d4) := by
  obtain ⟨a, o, us0, e0, m, i, l0⟩ := h.tup_inv
  obtain ⟨v1, us1, rfl, h1, l1⟩ := l0.cons_inv
  obtain ⟨v2, us2, rfl, h2, l2⟩ := l1.cons_inv
  obtain ⟨v3, us3, rfl, h3, l3⟩ := l2.cons_inv
  obtain ⟨v4, us4, rfl, h4, l4⟩ := l3.cons_inv
  obtain rfl := l4.nil_inv
  exact ⟨a, o, v1, v2, v3, v4, e0, m, i, h1, h2, h3, h4⟩
theorem Tr.open3 {Z : Led} {v : Value} {s : Str} {d : PyData} {k : Int} (h : Tr Z v (.tuple [.str s, d, .int k])) : Ex5 fun a o t v2 n => An4 (v = .ref a) ((a, o) ∈ Z) (IsT o [.str s t, v2, .int k n]) (Tr Z v2 d) := by
  obtain ⟨a, o, v1, v2, v3, e, m, i, h1, h2, h3⟩ := h.tN3
  obtain ⟨t, rfl⟩ := h1.str_inv
  obtain ⟨n, rfl⟩ := h3.int_inv
  exact ⟨_, _, _, _, _, e, m, i, h2⟩
theorem Tr.open3s {Z : Led} {v : Value} {s s2 : Str} {k : Int} (h : Tr Z v (.tuple [.str s, .str s2, .int k])) : Ex5 fun a o t u n => An3 (v = .ref a) ((a, o) ∈ Z) (IsT o [.str s t, .str s2 u, .int k n]) := by
  obtain ⟨a, o, t, v2, n, e, m, i, h2⟩ := h.open3
  obtain ⟨u, rfl⟩ := h2.str_inv
  exact ⟨_, _, _, _, _, e, m, i⟩
theorem PAt.get {Z : Led} {us : List Value} {ps : List Part} (h : PAt Z us ps) {i : Nat} {p : Part} (hp : ps[i]? = some p) : Ex3 fun a o its => An4 (us[i]? = some (.ref a)) ((a, o) ∈ Z) (IsT o its) (PartW Z its p) := by
  obtain ⟨v, hv, ht⟩ := TrL.get h (i := i) (d := p.data) (by rw [List.getElem?_map, hp]; rfl)
  cases p with
  | un op a => obtain ⟨a, o, t, u, n, rfl, m, i⟩ := Tr.open3s ht; exact ⟨_, _, _, hv, m, i, .un⟩
  | bin op a => obtain ⟨a, o, t, u, n, rfl, m, i⟩ := Tr.open3s ht; exact ⟨_, _, _, hv, m, i, .bin⟩
  | quest a => obtain ⟨a, o, t, u, n, rfl, m, i⟩ := Tr.open3s ht; exact ⟨_, _, _, hv, m, i, .quest⟩
  | colon a => obtain ⟨a, o, t, u, n, rfl, m, i⟩ := Tr.open3s ht; exact ⟨_, _, _, hv, m, i, .colon⟩
  | term d k => obtain ⟨a, o, t, u, n, rfl, m, i, h2⟩ := Tr.open3 ht; exact ⟨_, _, _, hv, m, i, .term h2⟩
theorem PartW.shape {Z its p} (h : PartW Z its p) : ∃ t v1 a n, its = [.str p.mark t, v1, .int a n] := by
  cases h <;> exact ⟨_, _, _, _, rfl⟩
section
variable {w : World} {A : Around} {E : Value → Shared → Prop} {env : Env} {g : Heap} {L : Addr} {ns gs : List Str} {vs vs' : List (Option Value)} {own R Z : Led}
  {h : Heap} {ge : Array GenState} {dr : Drawn} {tk : Nat} {os : OsState}
theorem St.isTup {t : Addr} {o : Obj} {us : List Value} (S : St w g L ns vs own R Z h) (hp : (t, o) ∈ own ++ (R ++ Z)) (i : IsT o us) : IsTup h t us.toArray := ⟨o, S.get hp, i.c, i.d⟩
theorem ix_tup {value slice : Expr} {t : Addr} {o : Obj} {us : List Value} {k : Int} {u : Tok} {x : Value} {Q : Value → Shared → Prop} (S : St w g L ns vs own R Z h) (hp : (t, o) ∈ own ++ (R ++ Z)) (i : IsT o us)
    (h0 : 0 ≤ k) (hfit : k < 2 ^ 63) (hx : us[k.toNat]? = some x) (k1 : Q x ⟨h, ge, dr, tk, os⟩)
    (hs : subscripted slice false (.ref t) (.int k u) = operate [.ref t, .int k u] (getItem (.ref t) (.int k u)) := by with_unfolding_all rfl) :
    wpAny (model PR w) A (subscriptTail value slice (.ref t) (.int k u)) Q E ⟨h, ge, dr, tk, os⟩ := by
  have hlt : k.toNat < us.length := by
    rcases Nat.lt_or_ge k.toNat us.length with q | q
    · exact q
    · rw [List.getElem?_eq_none q] at hx; cases hx
  refine item_tupleT (j := k.toNat) (S.isTup hp i) (by (first | lia | omega)) hfit ?_ hx k1 hs
  unfold seqIndex?
  rw [if_neg (show ¬ k < 0 by (first | lia | omega)), if_pos (by simp only [Bool.and_eq_true, decide_eq_true_eq]; (first | lia | omega))]
theorem in_l {l : Addr} {o : Obj} {us : List Value} {xs : List Str} {x : Str} {t : Tok} {Q : Value → Shared → Prop} (S : St w g L ns vs own R Z h) (hp : (l, o) ∈ own ++ (R ++ Z)) (i : IsL o us) (hs : Strs us xs)
    (k1 : Q (.bool (xs.any (· == x))) ⟨h, ge, dr, tk, os⟩) : wpAny (model PR w) A (compareOp .In (.str x t) (.ref l)) Q E ⟨h, ge, dr, tk, os⟩ := in_list_strs (S.isList hp i) hs.are k1
theorem in_t {l : Addr} {o : Obj} {us : List Value} {xs : List Str} {x : Str} {t : Tok} {Q : Value → Shared → Prop} (S : St w g L ns vs own R Z h) (hp : (l, o) ∈ own ++ (R ++ Z)) (i : IsT o us) (hs : Strs us xs)
    (k1 : Q (.bool (xs.any (· == x))) ⟨h, ge, dr, tk, os⟩) : wpAny (model PR w) A (compareOp .In (.str x t) (.ref l)) Q E ⟨h, ge, dr, tk, os⟩ := in_tuple_strs (S.isTup hp i) hs.are k1
theorem gm_idx {l : Addr} {us : List Value} {n : Nat} {pl : Sem Bool} {Q : Value × List Value → Shared → Prop} (S : St w g L ns vs own R Z h) (hp : (l, listOf us.toArray n) ∈ own ++ (R ++ Z))
    (k1 : Q (.builtin "list.index", [.ref l]) ⟨h, ge, dr, tk, os⟩) : wpAny (model PR w) A (getMethod (.ref l) "index" pl) Q E ⟨h, ge, dr, tk, os⟩ :=
  W.kf_method (s := ⟨h, ge, dr, tk, os⟩) S.N hp PySem.F.slot_list_index PySem.F.type_list_index k1
theorem idx_l {l : Addr} {us : List Value} {n : Nat} {xs : List Str} {x : Str} {t : Tok} {j : Nat} {Q : Value → Shared → Prop} (S : St w g L ns vs own R Z h) (hp : (l, listOf us.toArray n) ∈ own ++ (R ++ Z)) (hs : Strs us xs)
    (hj : xs[j]? = some x) (hno : ∀ m, m < j → xs[m]? ≠ some x) (hz : us.length ≤ 1000000)
    (k1 : ∀ t' tk', Q (.int j t') ⟨h, ge, dr, tk', os⟩) : wpAny (model PR w) A (call (.builtin "list.index") [.ref l, .str x t]) Q E ⟨h, ge, dr, tk, os⟩ := by
  have get : ∀ (m : Nat) (hm : m < us.length), isStrOf x us[m] = decide (xs[m]? = some x) := fun m hm => by
    obtain ⟨y, u, e1, e2⟩ := hs.get (List.getElem?_eq_getElem hm)
    rw [e2, e1, Bool.eq_iff_iff]
    simp [isStrOf]
  have hlt : j < us.length := by
    rw [hs.length]
    rcases Nat.lt_or_ge j xs.length with q | q
    · exact q
    · rw [List.getElem?_eq_none q] at hj; cases hj
  refine call_meets PySem.F.slot_list_index ⟨_, S.get hp, rfl⟩ PySem.F.entry_list_index (PySem.F.args_list_index_2 _ _)
    (MeetsSeq.list_index l us.toArray n (.str x t) (isStrOf x) (fun y hy => eq_isStrOf x t hs.are y (by simpa using hy)) j (by simpa using hlt) (by (first | lia | omega)) ?_ fun m hm hlt' => ?_) ⟨S.get hp, k1 _ _⟩
  · have := get j hlt
    simpa [hj] using this
  · have := get m (by simpa using hm)
    simpa [hno m hlt'] using this
theorem ev_slice {lower upper : Option Expr} {p : Pos} {Q : Value → Shared → Prop} {s : Shared}
    (k1 : wpAny (model PR w) A (evalPart lower env) (fun l s₁ => wpAny (model PR w) A (evalPart upper env) (fun u s₂ => Q (.ref s₂.heap.objs.size) { s₂ with heap := s₂.heap.push { cls := .type "slice", data := .fields #[l, u, .none] } }) E s₁) E s) :
    wpAny (model PR w) A (eval (.Slice lower upper none p) env) Q E s :=
  wpAny_Slice (wpAny_mono k1 (fun l s₁ h₁ => wpAny_mono h₁ (fun u s₂ h₂ => wpAny_pure h₂) fun u_ u_ e => e) fun u_ u_ e => e)
theorem ep_none {Q : Value → Shared → Prop} {s : Shared} (k1 : Q .none s) : wpAny (model PR w) A (evalPart none env) Q E s := wpAny_pure k1
theorem ep_some {e : Expr} {Q : Value → Shared → Prop} {s : Shared} (k1 : wpAny (model PR w) A (eval e env) Q E s) : wpAny (model PR w) A (evalPart (some e) env) Q E s := k1
theorem sl_list {value slice : Expr} {l : Addr} {o : Obj} {us ws : List Value} {vl vu : Value} {lo hi : Option Int} {Q : Value → Shared → Prop} (S : St w g L ns vs own R Z h) (hp : (l, o) ∈ own ++ (R ++ Z)) (i : IsL o us)
    (pl : IsPart vl lo) (pu : IsPart vu hi) (hz : us.length ≤ 1000000) (he : slicePick us.toArray lo hi none = ws.toArray)
    (k1 : ∀ D h', St w g L ns vs ((D, listOf ws.toArray 0) :: own) R Z h' → Q (.ref D) ⟨h', ge, dr, tk, os⟩)
    (hs : subscripted slice false (.ref l) (.ref h.objs.size) = operate [.ref h.objs.size, .ref l] (getItem (.ref l) (.ref h.objs.size)))
    (ht : ∀ r, letTemporaryGo value (.ref l) r = pure ()) :
    wpAny (model PR w) A (subscriptTail value slice (.ref l) (.ref h.objs.size)) Q E ⟨h.push { cls := .type "slice", data := .fields #[vl, vu, .none] }, ge, dr, tk, os⟩ := by
  refine slice_listK (s := ⟨h, ge, dr, tk, os⟩) (S.isList hp i) pl pu ?_ hs ht (by rw [List.size_toArray, sizeLine_eq]; (first | lia | omega))
  rw [he]
  have S1 := S.push { cls := .type "slice", data := .fields #[vl, vu, .none] } rfl
  have S2 := S1.push (listOf ws.toArray 0) rfl
  have e : (h.push { cls := .type "slice", data := .fields #[vl, vu, .none] }).objs.size = h.objs.size + 1 := Heap.size_push ..
  rw [e] at S2
  exact k1 _ _ (S2.drop (.cons₂ _ (.cons _ (List.Sublist.refl _))))
section
variable {value slice : Expr} {l : Addr} {o : Obj} {us : List Value} {a b : Int} {u u' : Tok} {Q : Value → Shared → Prop}
theorem sl_upto (S : St w g L ns vs own R Z h) (hp : (l, o) ∈ own ++ (R ++ Z)) (i : IsL o us) (hz : us.length ≤ 1000000) (hb : 0 ≤ b)
    (k1 : ∀ D h', St w g L ns vs ((D, listOf (us.take b.toNat).toArray 0) :: own) R Z h' → Q (.ref D) ⟨h', ge, dr, tk, os⟩)
    (hs : subscripted slice false (.ref l) (.ref h.objs.size) = operate [.ref h.objs.size, .ref l] (getItem (.ref l) (.ref h.objs.size)))
    (ht : ∀ r, letTemporaryGo value (.ref l) r = pure ()) :
    wpAny (model PR w) A (subscriptTail value slice (.ref l) (.ref h.objs.size)) Q E ⟨h.push { cls := .type "slice", data := .fields #[.none, .int b u, .none] }, ge, dr, tk, os⟩ :=
  sl_list S hp i .none (.int _ _) hz (by have := slicePick_upto' us.toArray b.toNat; rw [Int.toNat_of_nonneg hb] at this; exact this) k1 hs ht
theorem sl_from (S : St w g L ns vs own R Z h) (hp : (l, o) ∈ own ++ (R ++ Z)) (i : IsL o us) (hz : us.length ≤ 1000000) (hb : 0 ≤ a)
    (k1 : ∀ D h', St w g L ns vs ((D, listOf (us.drop a.toNat).toArray 0) :: own) R Z h' → Q (.ref D) ⟨h', ge, dr, tk, os⟩)
    (hs : subscripted slice false (.ref l) (.ref h.objs.size) = operate [.ref h.objs.size, .ref l] (getItem (.ref l) (.ref h.objs.size)))
    (ht : ∀ r, letTemporaryGo value (.ref l) r = pure ()) :
    wpAny (model PR w) A (subscriptTail value slice (.ref l) (.ref h.objs.size)) Q E ⟨h.push { cls := .type "slice", data := .fields #[.int a u, .none, .none] }, ge, dr, tk, os⟩ :=
  sl_list S hp i (.int _ _) .none hz (by have := slicePick_from' us.toArray a.toNat; rw [Int.toNat_of_nonneg hb] at this; exact this) k1 hs ht
theorem sl_run (S : St w g L ns vs own R Z h) (hp : (l, o) ∈ own ++ (R ++ Z)) (i : IsL o us) (hz : us.length ≤ 1000000) (ha : 0 ≤ a) (hab : a ≤ b) (hb : b ≤ us.length)
    (k1 : ∀ D h', St w g L ns vs ((D, listOf ((us.drop a.toNat).take (b.toNat - a.toNat)).toArray 0) :: own) R Z h' → Q (.ref D) ⟨h', ge, dr, tk, os⟩)
    (hs : subscripted slice false (.ref l) (.ref h.objs.size) = operate [.ref h.objs.size, .ref l] (getItem (.ref l) (.ref h.objs.size)))
    (ht : ∀ r, letTemporaryGo value (.ref l) r = pure ()) :
    wpAny (model PR w) A (subscriptTail value slice (.ref l) (.ref h.objs.size)) Q E ⟨h.push { cls := .type "slice", data := .fields #[.int a u, .int b u', .none] }, ge, dr, tk, os⟩ :=
  sl_list S hp i (.int _ _) (.int _ _) hz (by
    have := slicePick_run us.toArray a.toNat b.toNat (by rw [List.size_toArray]; (first | lia | omega)) (by (first | lia | omega))
    rw [Int.toNat_of_nonneg ha, Int.toNat_of_nonneg (by (first | lia | omega))] at this; exact this) k1 hs ht
end
theorem St.grow (S : St w g L ns vs own R Z h) {h' : Heap} (k : ∀ b o, h.get? b = some o → h'.get? b = some o) : St w g L ns vs own R Z h' := ⟨S.gx, S.F.keeps k, S.N.keeps k, S.nd, S.nn⟩
theorem St.ofPush' {h₀ : Heap} {D : Addr} {o : Obj} (S : St w g L ns vs own R Z h) (N' : ∀ p ∈ own ++ (R ++ Z), D ≠ p.1) (hD : h₀.objs.size ≤ D) (ho : h.get? D = some o) (hL : L < h₀.objs.size := by assumption) (hg : g.objs.size ≤ h₀.objs.size := by assumption) : St w g L ns vs ((D, o) :: own) R Z h := by
  refine ⟨S.gx, S.F, fun p hp => ?_, List.nodup_cons.mpr ⟨fun hm => ?_, S.nd⟩, S.nn⟩
  · rcases List.mem_cons.mp hp with rfl | hp
    · exact ⟨ho, Nat.ne_of_gt (Nat.lt_of_lt_of_le hL hD), size_none (Nat.le_trans hg hD)⟩
    · exact S.N p hp
  · obtain ⟨p, hp, e⟩ := List.mem_map.mp hm
    exact N' p hp e.symm
theorem grow_of (S : St w g L ns vs own R Z h) {h' : Heap} (k : Heap.ExtBut h.objs.size h h') : St w g L ns vs own R Z h' := S.grow fun b o e => k b o (Nat.ne_of_lt (Heap.lt_size e)) e
/-- a, b = a tuple -/
theorem as_tup {elts : List Expr} {c pos} {t : Addr} {o : Obj} {us : List Value} {Q : Unit → Shared → Prop} (S : St w g L ns vs own R Z h) (hp : (t, o) ∈ own ++ (R ++ Z)) (i : IsT o us) (hh : A.handled = none)
    (hn : (assignEach elts env).length = us.length) (hstar : (assignEach elts env).findIdx? (·.1) = none)
    (k1 : ∀ h', St w g L ns vs own R Z h' → wpAny (model PR w) A (assignInOrder ((assignEach elts env).map (·.2)) us) Q E ⟨h', ge, dr, tk, os⟩) :
    wpAny (model PR w) A (assign (.Tuple elts c pos) env (.ref t)) Q E ⟨h, ge, dr, tk, os⟩ :=
  assign_Tuple_tuple (s := ⟨h, ge, dr, tk, os⟩) hh (S.isTup hp i) (by simpa using hn) hstar fun h' k => by simpa using k1 h' (grow_of S k)
theorem un_tup {t : Addr} {o : Obj} {us : List Value} {n : Nat} {Q : List Value → Shared → Prop} (S : St w g L ns vs own R Z h) (hp : (t, o) ∈ own ++ (R ++ Z)) (i : IsT o us) (hh : A.handled = none) (hn : n = us.length)
    (k1 : ∀ h', St w g L ns vs own R Z h' → Q us ⟨h', ge, dr, tk, os⟩) : wpAny (model PR w) A (unpackItems (.ref t) n none) Q E ⟨h, ge, dr, tk, os⟩ := by
  have e : n = us.toArray.size := by simpa using hn
  subst e
  exact unpackItems_tuple (s := ⟨h, ge, dr, tk, os⟩) hh (S.isTup hp i) fun h' k => by simpa using k1 h' (grow_of S k)
theorem as_tupD {e0 : Env} {elts : List Expr} {c pos} {t : Addr} {o : Obj} {us : List Value} {Q : Unit → Shared → Prop} (S : St w g L ns vs own R Z h) (hp : (t, o) ∈ own ++ (R ++ Z)) (i : IsT o us) (hh : A.handled = none)
    (hn : (assignEach elts env).length = us.length) (hstar : (assignEach elts env).findIdx? (·.1) = none)
    (k1 : ∀ h', St w g L ns vs own R Z h' → wpAny (model PR w) (A.deeper e0) (assignInOrder ((assignEach elts env).map (·.2)) us) Q E ⟨h', ge, dr, tk, os⟩) :
    wpAny (model PR w) (A.deeper e0) (assign (.Tuple elts c pos) env (.ref t)) Q E ⟨h, ge, dr, tk, os⟩ := as_tup S hp i hh hn hstar k1
theorem un_tupD {e0 : Env} {t : Addr} {o : Obj} {us : List Value} {n : Nat} {Q : List Value → Shared → Prop} (S : St w g L ns vs own R Z h) (hp : (t, o) ∈ own ++ (R ++ Z)) (i : IsT o us) (hh : A.handled = none) (hn : n = us.length)
    (k1 : ∀ h', St w g L ns vs own R Z h' → Q us ⟨h', ge, dr, tk, os⟩) : wpAny (model PR w) (A.deeper e0) (unpackItems (.ref t) n none) Q E ⟨h, ge, dr, tk, os⟩ := un_tup S hp i hh hn k1
theorem as_n {x : Str} {pos v} {Q : Unit → Shared → Prop} {s : Shared} (k1 : wpAny (model PR w) A (storeName env x v) Q E s) : wpAny (model PR w) A (assign (.Name x pos) env v) Q E s := wpAny_assign_Name k1
theorem bi_n {x : Str} {v} {Q : Unit → Shared → Prop} {s : Shared} (k1 : wpAny (model PR w) A (storeName env x v) Q E s) : wpAny (model PR w) A (bindName env x v) Q E s := wpAny_bindName k1
/-- a dict display of literals, and .get -/
theorem dsp {keys : List (Option Expr)} {values : List Expr} {pos : Pos} {D : List (PyData × PyData)} {Q : Value → Shared → Prop} (S : St w g L ns vs own R Z h) (hD : litPairs keys values = some D) (hs : strKeyed D = true) (hn : (strKeysOf D).Nodup)
    (hall : keys.all (·.isSome) = true) (hl : keys.length = values.length) (h0 : keys ≠ []) (hlen : keys.length ≤ 15)
    (k1 : ∀ a o h' tk', TabObj (strKind PR w) PyData.str D o → (a == sysModules) = false → St w g L ns vs ((a, o) :: own) R Z h' → Q (.ref a) ⟨h', ge, dr, tk', os⟩) :
    wpAny (model PR w) A (eval (.Dict keys values pos) env) Q E ⟨h, ge, dr, tk, os⟩ :=
  Dict_lits_str (s := ⟨h, ge, dr, tk, os⟩) hD hs hn hall hl h0 hlen fun a o h₁ tk1 ha ho hT k => by
    have S1 := S.grow k
    have low := modules_low (S.gx.nolimit.keeps S.F.keep)
    refine k1 a o h₁ tk1 hT (beq_eq_false_iff_ne.mpr (Nat.ne_of_gt (Nat.lt_of_lt_of_le low ha))) (S1.ofPush' (fun p hp => ?_) ha ho S.F.ns.lt (Nat.le_trans S.F.above (Nat.le_of_lt S.F.ns.lt)))
    · have := Heap.lt_size (S.N p hp).1
      exact Nat.ne_of_gt (Nat.lt_of_lt_of_le this ha)
theorem gm_get {d : Addr} {o : Obj} {D : List (PyData × PyData)} {pl : Sem Bool} {Q : Value × List Value → Shared → Prop} (S : St w g L ns vs own R Z h) (hT : TabObj (strKind PR w) PyData.str D o) (hb : (d == sysModules) = false) (hp : (d, o) ∈ own ++ (R ++ Z))
    (k1 : Q (.builtin "dict.get", [.ref d]) ⟨h, ge, dr, tk, os⟩) : wpAny (model PR w) A (getMethod (.ref d) "get" pl) Q E ⟨h, ge, dr, tk, os⟩ := by
  obtain ⟨kvs, hd, hf⟩ := hT
  exact getMethod_strTab_get (s := ⟨h, ge, dr, tk, os⟩) (TabAt.ofObj hb (S.get hp) hd hf) k1
theorem get2 {d : Addr} {o : Obj} {D : List (PyData × PyData)} {x : Str} {t : Tok} {i j : Int} {u : Tok} {Q : Value → Shared → Prop} (S : St w g L ns vs own R Z h) (hp : (d, o) ∈ own ++ (R ++ Z)) (hT : TabObj (strKind PR w) PyData.str D o) (hb : (d == sysModules) = false)
    (hj : (Spec.lookup (.str x) D).getD (.int i) = .int j) (k1 : ∀ t' tk', Q (.int j t') ⟨h, ge, dr, tk', os⟩) : wpAny (model PR w) A (call (.builtin "dict.get") [.ref d, .str x t, .int i u]) Q E ⟨h, ge, dr, tk, os⟩ := by
  obtain ⟨kvs, hd, hf⟩ := hT
  refine call_get2_strTab (s := ⟨h, ge, dr, tk, os⟩) (TabAt.ofObj hb (S.get hp) hd hf) (PyProof.V.Flat.int i u) fun v fv => ?_
  rw [hj] at fv
  obtain ⟨t', rfl⟩ := fv.int_inv
  exact k1 _ _
end
noncomputable def markDict : List (PyData × PyData) := [(.str "?", .int 1), (.str ":", .int (-1))]

section
variable {w : World} {A : Around} {E : Value → Shared → Prop} {g : Heap} {L : Addr} {ns gs : List Str} {vs vs' : List (Option Value)} {own R Z : Led}
  {h : Heap} {ge : Array GenState} {dr : Drawn} {tk : Nat} {os : OsState}
theorem ao_mcons {f : Str → Value → Sem Unit} {x : Str} {xs : List Str} {v : Value} {us : List Value} {Q : Unit → Shared → Prop} {s : Shared}
    (k1 : wpAny (model PR w) A (f x v) (fun u_ s₁ => wpAny (model PR w) A (assignInOrder (List.map f xs) us) Q E s₁) E s) : wpAny (model PR w) A (assignInOrder (List.map f (x :: xs)) (v :: us)) Q E s := assignInOrder_cons k1
theorem ao_mnil {f : Str → Value → Sem Unit} {us : List Value} {Q : Unit → Shared → Prop} {s : Shared} (k1 : Q () s) : wpAny (model PR w) A (assignInOrder (List.map f []) us) Q E s := wpAny_pure k1
theorem St.useV {f : Addr} {args : List Value} {d u : Nat} {Post : Value → Led → Led → Prop} {Q : Value → Shared → Prop}
    (S : St w g L ns vs own R Z h) (C : CallC w f args d u R Z Post) (hh : A.handled = none) (hd : A.depth + d < recursionLimit) (hu : A.units + u < cLine)
    (k : ∀ v R' Z' h' tk', St w g L ns vs own R' Z' h' → Post v R' Z' → Q v ⟨h', ge, dr, tk', os⟩) : wpAny (model PR w) A (call (.ref f) args) Q E ⟨h, ge, dr, tk, os⟩ :=
  S.use (s := ⟨h, ge, dr, tk, os⟩) C.call hh hd hu k
structure ImpV (X Y : Value → Shared → Prop) : Prop where
  of : ∀ v s, X v s → Y v s
theorem unhV {X Y : Value → Shared → Prop} {v : Value} {s : Shared} (h : ImpV X Y) (p : X v s) : Y v s := h.of v s p
/-- the same, the continuation behind a name; the callee stands one deeper -/
theorem St.useH {e0 : Env} {f : Addr} {args : List Value} {d u : Nat} {Post : Value → Led → Led → Prop} {Q : Value → Shared → Prop}
    (S : St w g L ns vs own R Z h) (C : CallC w f args d u R Z Post) (hh : A.handled = none) (hd : A.depth + 1 + d < recursionLimit) (hu : A.units + 3 + u < cLine)
    (k : ∀ Q1, ImpV Q Q1 → ∀ v R' Z' h' tk', St w g L ns vs own R' Z' h' → Post v R' Z' → Q1 v ⟨h', ge, dr, tk', os⟩) : wpAny (model PR w) (A.deeper e0) (call (.ref f) args) Q E ⟨h, ge, dr, tk, os⟩ :=
  S.useV C hh hd hu (k Q ⟨fun u_ u_ x => x⟩)
/-- a value up to its token; nothing else changes -/
theorem St.useA {e0 : Env} {f : Addr} {args : List Value} {d u : Nat} {F : Tok → Value} {Q : Value → Shared → Prop}
    (S : St w g L ns vs own R Z h) (C : CallC w f args d u R Z (fun v R' Z' => ∃ t, An3 (v = F t) (R' = R) (Z' = Z))) (hh : A.handled = none) (hd : A.depth + 1 + d < recursionLimit) (hu : A.units + 3 + u < cLine)
    (k : ∀ Q1, ImpV Q Q1 → ∀ t h' tk', St w g L ns vs own R Z h' → Q1 (F t) ⟨h', ge, dr, tk', os⟩) : wpAny (model PR w) (A.deeper e0) (call (.ref f) args) Q E ⟨h, ge, dr, tk, os⟩ :=
  S.useH C hh hd hu fun Q1 hQ v R' Z' h' tk' S' P => by
    obtain ⟨t, rfl, rfl, rfl⟩ := P
    exact k Q1 hQ t h' tk' S'
/-- a tree's value; the resource stays -/
theorem St.useC3 {e0 : Env} {f : Addr} {args : List Value} {d u : Nat} {D : PyData} {Q : Value → Shared → Prop}
    (S : St w g L ns vs own R Z h) (C : CallC w f args d u R Z (fun v R' Z' => R' = R ∧ Sub Z Z' ∧ Tr Z' v D)) (hh : A.handled = none) (hd : A.depth + 1 + d < recursionLimit) (hu : A.units + 3 + u < cLine)
    (k : ∀ Q1, ImpV Q Q1 → ∀ v Z' h' tk', St w g L ns vs own R Z' h' → Sub Z Z' → Tr Z' v D → Q1 v ⟨h', ge, dr, tk', os⟩) : wpAny (model PR w) (A.deeper e0) (call (.ref f) args) Q E ⟨h, ge, dr, tk, os⟩ :=
  S.useH C hh hd hu fun Q1 hQ v R' Z' h' tk' S' P => by
    obtain ⟨rfl, hs, ht⟩ := P
    exact k Q1 hQ v Z' h' tk' S' hs ht
end
theorem PAt.app {Z : Led} {us : List Value} {a b : List Part} (h : PAt Z us (a ++ b)) : PAt Z (us.take a.length) a ∧ PAt Z (us.drop a.length) b := by
  have h1 := TrL.take h a.length
  have h2 := TrL.drop h a.length
  rw [List.map_append] at h1 h2
  exact ⟨by rwa [List.take_left' (by simp)] at h1, by rwa [List.drop_left' (by simp)] at h2⟩
theorem PAt.up {Z Z' : Led} {us ps} (s : Sub Z Z') (h : PAt Z us ps) : PAt Z' us ps := TrL.up s h
theorem PAt.take {Z : Led} {us : List Value} {ps : List Part} (h : PAt Z us ps) (n : Nat) : PAt Z (us.take n) (ps.take n) := by
  have h1 := TrL.take h n
  rwa [← List.map_take] at h1
theorem PAt.drop {Z : Led} {us : List Value} {ps : List Part} (h : PAt Z us ps) (n : Nat) : PAt Z (us.drop n) (ps.drop n) := by
  have h1 := TrL.drop h n
  rwa [← List.map_drop] at h1
theorem rs_down {n : Nat} : Builtin.Range.rangeSize ((n : Int) - 1) (-1) (-1) = n := by
  unfold Builtin.Range.rangeSize
  rw [if_neg (by (first | lia | omega))]
  by_cases h : n = 0
  · subst h; rfl
  · rw [if_pos (by (first | lia | omega)), show -(-1 : Int) = 1 from rfl, Int.ediv_one]; (first | lia | omega)
theorem rs_up {n : Nat} : Builtin.Range.rangeSize 0 (n : Int) 1 = n := by
  unfold Builtin.Range.rangeSize
  rw [if_pos (by (first | lia | omega))]
  by_cases h : n = 0
  · subst h; rfl
  · rw [if_pos (by (first | lia | omega)), Int.ediv_one]; (first | lia | omega)
noncomputable def RdC (w : World) (n : Nat) : Prop := ∀ ps d R Z l lo us, Rd n ps d → (l, lo) ∈ Z → IsL lo us → PAt Z us ps → ps.length ≤ 1000 →
  CallC w 464 [.ref l] (n + 6) (10 * n + 60) R Z (fun v R' Z' => R' = R ∧ Sub Z Z' ∧ Tr Z' v d)
noncomputable abbrev nsRd : List Str := ["parts", "marks", "first", "depth", "second", "test", "chosen", "other", "row", "number", "op"]
noncomputable abbrev gsRd : List Str := ["_law_reading", "_law_bindings", "range", "len"]
noncomputable abbrev marksOf (ps : List Part) : List Str := ps.map Part.mark
theorem marks_get {ps : List Part} {i : Nat} : (marksOf ps)[i]? = (ps[i]?).map Part.mark := List.getElem?_map
theorem wt_get (p : Part) : (Spec.lookup (.str p.mark) markDict).getD (.int 0) = .int p.wt := by cases p <;> rfl
theorem notQ_mark {p : Part} (h : notQ p) : p.mark ≠ "?" := by cases p <;> first | exact h.elim | (simp only [Part.mark]; decide +kernel)
theorem bin_mark {p : Part} (h : p.mark = "bin") : ∃ o a, p = .bin o a := by
  cases p with
  | bin o a => exact ⟨o, a, rfl⟩
  | _ => (simp only [Part.mark] at h; exact absurd h (by decide +kernel))
theorem any_marks {ps : List Part} (h : ∀ p ∈ ps, notQ p) : (marksOf ps).any (fun x => x == ("?" : Str)) = false := by
  rw [List.any_eq_false]
  intro x hx
  obtain ⟨p, hp, rfl⟩ := List.mem_map.mp hx
  simpa using notQ_mark (h p hp)
noncomputable abbrev rowOf (i : Nat) : List Str := bindTab.getD i []
theorem row_prec : ∀ i < 11, ∀ o ∈ joinOps, ((rowOf i).any (fun y => y == o)) = decide (prec o = i + 1) := by decide +kernel
structure FH (ps : List Part) (i k : Nat) (o : Str) (a : Int) : Prop where
  oj : o ∈ joinOps
  pr : prec o = i + 1
  at_ : ps[k]? = some (.bin o a)
  mn : ∀ j o' a', ps[j]? = some (.bin o' a') → o' ∈ joinOps ∧ i + 1 ≤ prec o' ∧ (k < j → i + 1 < prec o')
inductive RdN (n : Nat) : List Part → PyData → Prop
  | bin {ps i k o a dl dr} : FH ps i k o a → Rd n (ps.take k) dl → Rd n (ps.drop (k + 1)) dr → RdN n ps (tBin a o dl dr)
  | un {o a ps d} : (∀ o' a', Part.bin o' a' ∉ ps) → Rd n ps d → RdN n (.un o a :: ps) (tUn a o d)
  | term {d k} : RdN n [.term d k] d
theorem Rd.plain {n l r o a dl dr} (hj : o ∈ joinOps) (h1 : ∀ o' a', Part.bin o' a' ∈ l → o' ∈ joinOps ∧ prec o ≤ prec o') (h2 : ∀ o' a', Part.bin o' a' ∈ r → o' ∈ joinOps ∧ prec o < prec o')
    (rl : Rd n l dl) (rr : Rd n r dr) : RdN n (l ++ .bin o a :: r) (tBin a o dl dr) := by
  have hp := join_prec _ hj
  refine .bin (i := prec o - 1) (k := l.length) ⟨hj, by (first | lia | omega), by simp, fun j o' a' hm => ?_⟩ (by simpa using rl) (by simpa using rr)
  rcases Nat.lt_trichotomy j l.length with q | q | q
  · rw [List.getElem?_append_left q] at hm
    have := h1 o' a' (List.mem_of_getElem? hm)
    exact ⟨this.1, by (first | lia | omega), fun h => by (first | lia | omega)⟩
  · subst q
    simp only [List.getElem?_append_right (Nat.le_refl _), Nat.sub_self, List.getElem?_cons_zero, Option.some.injEq, Part.bin.injEq] at hm
    obtain ⟨rfl, rfl⟩ := hm
    exact ⟨hj, by (first | lia | omega), fun h => by (first | lia | omega)⟩
  · rw [List.getElem?_append_right (by (first | lia | omega))] at hm
    obtain ⟨m, hm'⟩ : ∃ m, j - l.length = m + 1 := ⟨j - l.length - 1, by (first | lia | omega)⟩
    rw [hm', List.getElem?_cons_succ] at hm
    have := h2 o' a' (List.mem_of_getElem? hm)
    exact ⟨this.1, by (first | lia | omega), fun h => by (first | lia | omega)⟩
theorem Rd.two {n ps d} (h : Rd (n + 1) ps d) : (Ex8 fun T C O a b dt dc do_ => An7 (ps = T ++ .quest a :: (C ++ .colon b :: O)) (d = tCond a dt dc do_) ((∀ p ∈ T, notQ p)) (Bal C) (Rd n T dt) (Rd n C dc) (Rd n O do_)) ∨ ((∀ p ∈ ps, notQ p) ∧ RdN n ps d) := by
  cases h with
  | cond a b c d e => exact .inl ⟨_, _, _, _, _, _, _, _, rfl, rfl, a, b, c, d, e⟩
  | bin a b c d e f g =>
    refine .inr ⟨fun p hp => ?_, Rd.plain c d e f g⟩
    rcases List.mem_append.mp hp with hp | hp
    · exact a p hp
    · rcases List.mem_cons.mp hp with rfl | hp
      · trivial
      · exact b p hp
  | un a b c =>
    refine .inr ⟨fun p hp => ?_, .un b c⟩
    rcases List.mem_cons.mp hp with rfl | hp
    · trivial
    · exact a p hp
  | term => exact .inr ⟨fun p hp => by simp only [List.mem_singleton] at hp; subst hp; trivial, .term⟩
theorem RdN.alt {n ps d} (h : RdN n ps d) : (Ex6 fun k j o a dl dr => An4 (FH ps k j o a) (d = tBin a o dl dr) (Rd n (ps.take j) dl) (Rd n (ps.drop (j + 1)) dr)) ∨
    ((∀ o a, Part.bin o a ∉ ps) ∧ ((∃ o a r d', ps = .un o a :: r ∧ d = tUn a o d' ∧ Rd n r d') ∨ (∃ d' k, ps = [.term d' k] ∧ d = d'))) := by
  cases h with
  | bin a b c => exact .inl ⟨_, _, _, _, _, _, a, rfl, b, c⟩
  | un a b =>
    refine .inr ⟨fun o a' hm => ?_, .inl ⟨_, _, _, _, rfl, rfl, b⟩⟩
    rcases List.mem_cons.mp hm with q | q
    · cases q
    · exact a _ _ q
  | term => exact .inr ⟨fun o a' hm => by simp at hm, .inr ⟨_, _, rfl, rfl⟩⟩
theorem normOp_t {o : Str} (h : (o == ("^~" : Str)) = true) : normOp o = "~^" := if_pos (by simpa using h)
theorem normOp_f {o : Str} (h : (o == ("^~" : Str)) = false) : normOp o = o := if_neg (by simpa using h)
theorem Tr.mkBin {Z : Led} {l : Addr} {a : Int} {o o1 : Str} {t n u : Tok} {v1 v2 dl dr} (e : normOp o = o1) (m : (l, tupOf [.str "bin" t, .int a n, .str o1 u, v1, v2]) ∈ Z) (h1 : Tr Z v1 dl) (h2 : Tr Z v2 dr) : Tr Z (.ref l) (tBin a o dl dr) := by
  subst e
  exact .tup m IsT.of (.cons (.str _ _) (.cons (.int _ _) (.cons (.str _ _) (.cons h1 (.cons h2 .nil)))))
theorem Tr.mkUn {Z : Led} {l : Addr} {a : Int} {o o1 : Str} {t n u : Tok} {v1 dl} (e : normOp o = o1) (m : (l, tupOf [.str "un" t, .int a n, .str o1 u, v1]) ∈ Z) (h1 : Tr Z v1 dl) : Tr Z (.ref l) (tUn a o dl) := by
  subst e
  exact .tup m IsT.of (.cons (.str _ _) (.cons (.int _ _) (.cons (.str _ _) (.cons h1 .nil))))
/-- both ways of a choice give the same text -/
theorem ite_join {M : Model} {A : Around} {E : Value → Shared → Prop} {env : Env} {e1 e2 : Expr} {b : Bool} {Q : Value → Shared → Prop} {x : Str} {h : Heap} {ge : Array GenState} {dr : Drawn} {tk : Nat} {os : OsState}
    (h1 : b = true → ∀ Q1 : Value → Shared → Prop, (∀ t tk', Q1 (.str x t) ⟨h, ge, dr, tk', os⟩) → wpAny M A (eval e1 env) Q1 E ⟨h, ge, dr, tk, os⟩)
    (h2 : b = false → ∀ Q1 : Value → Shared → Prop, (∀ t tk', Q1 (.str x t) ⟨h, ge, dr, tk', os⟩) → wpAny M A (eval e2 env) Q1 E ⟨h, ge, dr, tk, os⟩)
    (k : ∀ t tk', Q (.str x t) ⟨h, ge, dr, tk', os⟩) : if b = true then wpAny M A (eval e1 env) Q E ⟨h, ge, dr, tk, os⟩ else wpAny M A (eval e2 env) Q E ⟨h, ge, dr, tk, os⟩ := by
  cases b with
  | true => rw [if_pos rfl]; exact h1 rfl Q k
  | false => rw [if_neg Bool.false_ne_true]; exact h2 rfl Q k

theorem ksetB : True := by
  k_with "SLH" => first | exact .none | exact .int _ _
  k_with "ASG" => ((case h0 => k_extra "UA"); (case h1 => decide); (case h2 => decide); (case h3 => assumption); (case h4 => exact Ev.of (by decide)); (case h5 => assumption); (case h6 => decide); (case h7 => (intro _; k_extra "UA")); case' h8 => skip)
  k_with "qFLB" => first
    | (focus (refine' wpAny_For ?_ ?_; rotate_right 1; (intro _; with_unfolding_all rfl)))
    | (focus (refine' PyProof.Rows.Assign_Tuple ?_ ?_ ?_; rotate_right 2; with_unfolding_all rfl; with_unfolding_all rfl))
  k_with "qVEB" => first
    | (refine ev_slice ?_)
    | (focus (refine' dsp ?_ ?_ ?_ ?_ ?_ ?_ ?_ ?_ ?_; rotate_right 9; assumption; with_unfolding_all rfl; with_unfolding_all rfl; k_dflt decide; with_unfolding_all rfl; with_unfolding_all rfl; k_dflt (exact List.cons_ne_nil _ _); k_dflt decide); intro ig1 ig2 ig3 ig4 ig5 ig6 ig7)
  k_with "qVOB" => first
    | (focus (refine' ix_tup ?_ ?_ ?_ ?_ ?_ ?_ ?_ ?_; rotate_right 8; assumption; k_extra "MEM"; k_extra "IST"; k_extra "OM"; k_extra "OM"; (first | assumption | k_dflt rfl); rotate_left; with_unfolding_all rfl))
    | (refine ep_none ?_)
    | (refine ep_some ?_)
    | (focus (refine' sl_upto ?_ ?_ ?_ ?_ ?_ ?_ ?_ ?_; rotate_right 8; assumption; k_extra "MEM"; k_extra "ISL"; k_extra "OM"; k_extra "OM"; rotate_left; with_unfolding_all rfl; (intro _; with_unfolding_all rfl)); intro ic1 ic2 ic3)
    | (focus (refine' sl_from ?_ ?_ ?_ ?_ ?_ ?_ ?_ ?_; rotate_right 8; assumption; k_extra "MEM"; k_extra "ISL"; k_extra "OM"; k_extra "OM"; rotate_left; with_unfolding_all rfl; (intro _; with_unfolding_all rfl)); intro ic1 ic2 ic3)
    | (focus (refine' sl_run ?_ ?_ ?_ ?_ ?_ ?_ ?_ ?_ ?_ ?_; rotate_right 10; assumption; k_extra "MEM"; k_extra "ISL"; k_extra "OM"; k_extra "OM"; k_extra "OM"; k_extra "OM"; rotate_left; with_unfolding_all rfl; (intro _; with_unfolding_all rfl)); intro ic1 ic2 ic3)
  k_with "qUNB" => first
    | (refine as_n ?_)
    | (refine bi_n ?_)
    | (refine ao_nil ?_)
    | (refine ao_cons ?_)
    | (focus (refine' as_tupD ?_ ?_ ?_ ?_ ?_ ?_ ?_; rotate_right 7; assumption; k_extra "MEM"; k_extra "IST"; assumption; with_unfolding_all rfl; with_unfolding_all rfl); intro ib1 ib2)
  k_with "qLIB" => first
    | (focus (refine' un_tupD ?_ ?_ ?_ ?_ ?_ ?_; rotate_right 6; assumption; k_extra "MEM"; k_extra "IST"; assumption; k_dflt (simp only [List.length_cons, List.length_nil])); intro ib1 ib2)
  k_with "qPRB" => first
    | (focus (refine' gm_idx ?_ ?_ ?_; rotate_right 3; assumption; k_extra "MEM"))
    | (focus (refine' gm_get ?_ ?_ ?_ ?_ ?_; rotate_right 5; assumption; assumption; assumption; k_extra "MEM"))
  k_with "qDB" => (goal_has PySem.wpAny; first
    | ((fail_if_success fail_if_success refine tyF ?_); first | k_extra "qFLA" | k_extra "qFLB")
    | ((fail_if_success fail_if_success refine tyE ?_); first | k_extra "qVEa" | k_extra "qVEb" | k_extra "qVEB")
    | ((fail_if_success fail_if_success refine tyV ?_); first | k_extra "qVOA" | k_extra "qVOB")
    | ((fail_if_success fail_if_success refine tyU ?_); first | k_extra "qUNA" | k_extra "qUNB")
    | ((fail_if_success fail_if_success refine tyL ?_); first | k_extra "qLIA" | k_extra "qLIB")
    | ((fail_if_success fail_if_success refine tyB ?_); first | k_extra "qBOA")
    | ((fail_if_success fail_if_success refine tyP ?_); first | k_extra "qPRA" | k_extra "qPRB")
    | k_extra "qANDA" | k_extra "BR")
  k_with "GO" => repeat' with_reducible (first | k_extra "qDB" | k_extra "UNH" | k_extra "BR")
  k_with "W5" => with_reducible (first | k_extra "qDB" | k_extra "UNH" | k_extra "BR")
  trivial
set_option maxHeartbeats 8000000 in
theorem reading_spec {w : World} : ∀ n, RdC w n
  | 0 => fun ps d R Z l lo us h => nomatch h
  | n + 1 => by
    have IH := reading_spec (w := w) n
    intro ps d R Z l lo us hrd hl hi hP hz
    have hlen : us.length = ps.length := by have := hP.length; simpa using this
    refine CallC.of (ns := nsRd) (gs := gsRd) (rest := nsRd.tail) (binds := [("parts", .ref l)]) (vs := [some (.ref l), none, none, none, none, none, none, none, none, none, none]) (by k_is) (by k_is) (fun u_ u_ => BindsTo.of_eq rfl) (Ev.of (by decide)) (by decide) rfl rfl ?_
    intro g A ge dr os hh hd hu L' h₁ tk E V S pE
    k_extra "GO"
    refine' lc_asg (g := g) (gs' := []) ?h0 ?h1 ?h2 ?h3 ?h4 ?h5 ?h6 ?h7 ?h8; k_extra "ASG"
    k_extra "GO"
    refine ⟨l, lo, us, _, _, _, _, _, _, _, _, _, (fun i R' Z' acc => R' = R ∧ Z' = Z ∧ Strs acc (marksOf (ps.take i))), rfl, rfl, S, memZ hl, hi, by (first | lia | omega), (fun i R' Z' acc q => by obtain ⟨_, q, _⟩ := q; subst q; exact memZ hl), ⟨rfl, rfl, .nil⟩, ?_, ?_⟩
    · intro i v acc R' Z' h tk C D m it ito gc G' V' S' hv ⟨hR, hZ, hA⟩
      refine hideG fun GG hGG => ?_
      subst hZ
      obtain ⟨p, hp⟩ : ∃ p, ps[i]? = some p := by
        cases q : ps[i]? with
        | some p => exact ⟨p, rfl⟩
        | none => rw [List.getElem?_eq_none_iff] at q; rw [List.getElem?_eq_none (by (first | lia | omega))] at hv; cases hv
      obtain ⟨a, o, its, ha, ho, hit, hW⟩ := hP.get hp
      rw [ha] at hv; cases hv
      obtain ⟨t, v1, a1, n1, rfl⟩ := hW.shape
      refine hGG ?_; clear hGG GG
      k_extra "GO"
      refine ⟨R', Z', h, _, rfl, S', hR, rfl, ?_⟩
      have e : marksOf (ps.take (i + 1)) = marksOf (ps.take i) ++ [p.mark] := by simp [marksOf, List.take_succ, hp]
      rw [e]
      exact hA.append (.cons .nil)
    · intro D acc m R' Z' h tk hacc S' ⟨hR, hZ, hA⟩
      refine hideG fun GG hGG => ?_
      subst hR hZ
      rw [hlen, List.take_length] at hA
      refine hGG ?_; clear hGG GG
      refine ⟨_, by k_extra "PUT", fun h2 tk2 S2 => ?_⟩
      k_extra "GO"
      refine in_l (by assumption) (memO mem_hd) IsL.of hA ?_
      k_extra "GO"
      rcases hrd.two with ⟨T, C, O, qa, qb, dt, dc, do_, rfl, rfl, hT, hC, h1, h2, h3⟩ | ⟨hnq, hrn⟩
      · skip
        have hq0 : (T ++ .quest qa :: (C ++ .colon qb :: O))[T.length]? = some (.quest qa) := by simp
        refine ite_t ?_ ?_
        · rw [List.any_eq_true]; exact ⟨"?", List.mem_map.mpr ⟨.quest qa, by simp, rfl⟩, by simp⟩
        k_extra "GO"
        refine idx_l (j := T.length) (by assumption) (memO mem_hd) hA ?_ (fun k hk => ?_) (by (first | lia | omega)) ?_
        · rw [marks_get, hq0]; rfl
        · rw [marks_get]
          have hk' : k < (T ++ .quest qa :: (C ++ .colon qb :: O)).length := by simp only [List.length_append]; (first | lia | omega)
          rw [List.getElem?_append_left hk, List.getElem?_eq_getElem hk]
          simpa using notQ_mark (hT _ (List.getElem_mem hk))
        intro t3 tk3
        k_extra "GO"
        have hmk : ∀ j p, (C ++ .colon qb :: O)[j]? = some p → (marksOf (T ++ .quest qa :: (C ++ .colon qb :: O)))[T.length + (j + 1)]? = some p.mark := fun j p hp => by
          rw [marks_get, List.getElem?_append_right (by (first | lia | omega)), Nat.add_sub_cancel_left, List.getElem?_cons_succ, hp]; rfl
        have hl5 : (T ++ .quest qa :: (C ++ .colon qb :: O)).length = T.length + (C.length + O.length + 2) := by simp only [List.length_append, List.length_cons]; (first | lia | omega)
        refine whl (by passes_own) (fun n s => Ex7 fun j t4 t5 sv dv h tk => An6 (s = ⟨h, ge, dr, tk, os⟩) (n = C.length + 1 - j) (j ≤ C.length + 1) (sv = (T.length : Int) + j) (dv = 1 + dep ((C ++ .colon qb :: O).take j)) (St w g L' nsRd [some (.ref l), some (.ref D), some (.int T.length t3), some (.int dv t4), some (.int sv t5), none, none, none, none, none, none] [(D, listOf acc.toArray m)] R' Z' h)) ?_ (C.length + 1)
          ⟨0, _, _, (T.length : Int), 1, _, _, rfl, rfl, Nat.zero_le _, by simp, by simp [dep], by assumption⟩
        rintro k1 s1 ⟨j, t4, t5, sv, dv, h6, tk6, rfl, hk1, hj, hsv, hdv, S6⟩
        have hjp : ∀ j, j ≤ C.length → dep ((C ++ .colon qb :: O).take j) = dep (C.take j) := fun j hj => by rw [List.take_append_of_le_length hj]
        have hjl : dep ((C ++ .colon qb :: O).take (C.length + 1)) = -1 := by
          rw [List.take_append, dep_append, List.take_of_length_le (by (first | lia | omega))]
          simp [dep, Part.wt, hC.z]
        k_extra "GO"
        refine ite_dec (fun hpos => ?_) (fun hneg => ?_)
        · have hj' : j ≤ C.length := by
            rcases Nat.lt_or_ge C.length j with q | q
            · have : j = C.length + 1 := by (first | lia | omega)
              subst this; rw [hjl] at hdv; (first | lia | omega)
            · exact q
          refine hideG fun GG hGG => ?_
          have hjlt : j < (C ++ .colon qb :: O).length := by simp only [List.length_append, List.length_cons]; (first | lia | omega)
          obtain ⟨p, hp⟩ : ∃ p, (C ++ .colon qb :: O)[j]? = some p := ⟨_, List.getElem?_eq_getElem hjlt⟩
          obtain ⟨v, hv, t8, rfl⟩ : ∃ v, acc[(sv + 1).toNat]? = some v ∧ ∃ t, v = .str p.mark t := by
            have e : (sv + 1).toNat = T.length + (j + 1) := by (first | lia | omega)
            have hlt : T.length + (j + 1) < acc.length := by rw [hacc, hlen, hl5]; simp only [List.length_append, List.length_cons] at hjlt; (first | lia | omega)
            obtain ⟨y, u, h1, h2⟩ := hA.get (List.getElem?_eq_getElem hlt)
            rw [hmk j p hp] at h1
            cases h1
            exact ⟨_, by rw [e]; exact List.getElem?_eq_getElem hlt, u, h2⟩
          refine hGG ?_; clear hGG GG
          k_extra "GO"
          refine get2 (by assumption) (by k_extra "MEM") (by assumption) (by assumption) (wt_get p) ?_
          intro t9 tk9
          k_extra "GO"
          refine ⟨C.length + 1 - (j + 1), by (first | lia | omega), j + 1, _, _, sv + 1, dv + p.wt, _, _, rfl, rfl, by (first | lia | omega), by (first | lia | omega), ?_, St.drop (by assumption) (.cons _ (List.Sublist.refl _))⟩
          rw [List.take_add_one, hp, hdv, dep_append]
          simp only [Option.toList_some, dep]
          (first | lia | omega)
        · have hj' : j = C.length + 1 := by
            rcases Nat.lt_or_ge C.length j with q | q
            · (first | lia | omega)
            · have := hC.p j; rw [hjp j q] at hdv; (first | lia | omega)
          refine hideG fun GG hGG => ?_
          subst hj'
          obtain ⟨qa1, qo, qits, hqa, hqo, hqi, hqW⟩ := hP.get hq0
          cases hqW
          have hqa' : us[(T.length : Int).toNat]? = some (.ref qa1) := by simpa using hqa
          refine hGG ?_; clear hGG GG
          k_extra "GO"
          refine PyProof.Rows.Assign_Tuple_swapped (names := ["test", "chosen", "other"]) ?_ (by with_unfolding_all rfl) (by with_unfolding_all rfl)
          k_extra "GO"
          refine ao_mcons ?_
          k_extra "GO"
          refine ao_mcons ?_
          k_extra "GO"
          refine ao_mcons ?_
          k_extra "GO"
          refine ao_mnil ?_
          have S9 := ic3.frz.frz.frz
          k_extra "GO"
          have eC : sv.toNat - ((T.length : Int) + 1).toNat = C.length := by (first | lia | omega)
          have eT : (T.length : Int).toNat = T.length := by (first | lia | omega)
          have eU : ((T.length : Int) + 1).toNat = T.length + 1 := by (first | lia | omega)
          have eO : (sv + 1).toNat = T.length + (C.length + 2) := by (first | lia | omega)
          rw [eC, eT, eU, eO] at S9
          have p1 := hP.app.1
          have p2 : PAt Z' ((us.drop (T.length + 1)).take C.length) C := by
            have := (PAt.app (a := T ++ [.quest qa]) (by simpa using hP)).2
            rw [List.length_append] at this
            exact this.app.1
          have p3 : PAt Z' (us.drop (T.length + (C.length + 2))) O := by
            have := (PAt.app (a := T ++ .quest qa :: (C ++ [.colon qb])) (b := O) (by simpa using hP)).2
            simpa using this
          have hz' := hz
          rw [hl5] at hz'
          have s4 : ∀ a b c e, Sub Z' (a :: b :: c :: e :: Z') := fun u_ u_ u_ u_ => Sub.tl (.tl (.tl (.tl .rfl)))
          refine S9.useC3 (IH T dt _ _ _ _ _ h1 mem_hd IsL.of (p1.up (s4 _ _ _ _)) (by (first | lia | omega))) hh (by k_extra "DPT") (by k_extra "DPT") fun qH kH v1 Z1 h10 tk10 S10 hs1 t1 => ?_
          k_extra "GO"
          refine St.useC3 (by assumption) (IH C dc _ _ _ _ _ h2 (hs1.up _ (mem_tl mem_hd)) IsL.of (p2.up ((s4 _ _ _ _).trans hs1)) (by (first | lia | omega))) hh (by k_extra "DPT") (by k_extra "DPT") fun qH kH v2 Z2 h11 tk11 S11 hs2 t2 => ?_
          k_extra "GO"
          refine St.useC3 (by assumption) (IH O do_ _ _ _ _ _ h3 (hs2.up _ (hs1.up _ (mem_tl (mem_tl mem_hd)))) IsL.of (p3.up ((s4 _ _ _ _).trans (hs1.trans hs2))) (by (first | lia | omega))) hh (by k_extra "DPT") (by k_extra "DPT") fun qH kH v3 Z3 h12 tk12 S12 hs3 t3 => ?_
          k_extra "GO"
          (repeat' with_reducible k_extra "UNH"); k_extra "RETC"
          exact ⟨rfl, ((s4 _ _ _ _).trans (hs1.trans (hs2.trans hs3))).tl, .tup mem_hd IsT.of (.cons (.str _ _) (.cons (.int _ _) (.cons (t1.up (hs2.trans hs3)).tl (.cons (t2.up hs3).tl (.cons t3.tl .nil)))))⟩
      · refine ite_f (any_marks hnq) ?_
        k_extra "GO"
        have S5 := S2
        refine S5.useH bindings_spec hh (by k_extra "DPT") (by k_extra "DPT") fun qH kH v1 R1 Z1 h6 tk6 S6 P1 => ?_
        obtain ⟨l1, rfl, hR1, hs1, lo1, rs1, hl1, hi1, hrows⟩ := P1
        subst hR1
        have hP1 := PAt.up hs1 hP
        have hlL := hs1.up _ hl
        with_reducible k_extra "UNH"
        refine for_list (by passes_own) hh S6 (memZ hl1) hi1 (by intro _ _; rfl)
          (fun i vs own R' Z' => R' = R1 ∧ Sub Z1 Z' ∧ (Ex9 fun a1 a2 a3 a4 a5 a6 a7 a8 a9 => vs = [some (.ref l), a1, a2, a3, a4, a5, a6, a7, a8, a9, none]) ∧ ∀ k j o a, FH ps k j o a → i ≤ k)
          (fun i vs own R' Z' q => memZ (q.2.1.up _ hl1)) ⟨rfl, .rfl, ⟨_, _, _, _, _, _, _, _, _, rfl⟩, fun u_ u_ u_ u_ u_ => Nat.zero_le _⟩ ?_ ?_
        · intro i v vs own R' Z' h tk I ito S7 hv Hv
          refine hideG fun GG hGG => ?_
          obtain ⟨hR7, hs7, ⟨a1, a2, a3, a4, a5, a6, a7, a8, a9, rfl⟩, hno⟩ := Hv
          subst hR7
          obtain ⟨ra, rao, rus, xs, rfl, hxs, hra, hri, hstr⟩ := hrows.get hv
          have hi11 : i < 11 := by
            rcases Nat.lt_or_ge i 11 with q | q
            · exact q
            · rw [List.getElem?_eq_none (by exact q)] at hxs; cases hxs
          have hrow : rowOf i = xs := by
            show (bindTab[i]?).getD [] = xs
            rw [hxs]; rfl
          have hlL7 := hs7.up _ hlL
          have hlL7' := hlL7
          have hP7 := PAt.up hs7 hP1
          refine hGG ?_; clear hGG GG
          k_extra "GO"
          refine range_call3 (by assumption) (by decide) (by rfl) fun r h8 tk8 S8 => ?_
          refine for_range (n := us.length) (by passes_own) hh S8 (S8.get (memO mem_hd)) ?_ ?_ (by intro _ _; rfl)
            (fun m vs own9 R'' Z'' => (∃ ro, own9 = (r, ro) :: (I, ito) :: own) ∧ R'' = R' ∧ Z'' = Z' ∧ (Ex8 fun a1 a2 a3 a4 a5 a6 a7 a9 => vs = [some (.ref l), a1, a2, a3, a4, a5, a6, a7, some (.ref ra), a9, none]) ∧ ∀ k j o a, FH ps k j o a → i = k → j + m < ps.length)
            ⟨⟨_, rfl⟩, rfl, rfl, ⟨_, _, _, _, _, _, _, _, rfl⟩, ?_⟩ ?_ ?_
          · exact small_down (by (first | lia | omega)) (by (first | lia | omega)) (by (first | lia | omega)) (by (first | lia | omega))
          · exact rs_down
          · intro k j o a hf _
            rcases Nat.lt_or_ge j ps.length with q | q
            · (first | lia | omega)
            · have := hf.at_; rw [List.getElem?_eq_none q] at this; cases this
          · intro m t vs own9 R8 Z8 h tk I9 ito9 S9 hm Hv
            refine hideG fun GG hGG => ?_
            obtain ⟨⟨ro, rfl⟩, rfl, rfl, ⟨b1, b2, b3, b4, b5, b6, b7, b9, rfl⟩, hno2⟩ := Hv
            obtain ⟨j, hj⟩ : ∃ j, j = us.length - 1 - m := ⟨_, rfl⟩
            have hjl : j < ps.length := by (first | lia | omega)
            obtain ⟨p, hp⟩ : ∃ p, ps[j]? = some p := ⟨_, List.getElem?_eq_getElem hjl⟩
            obtain ⟨pa, po, its, hpa, hpo, hpi, hpW⟩ := hP7.get hp
            obtain ⟨t1, v1, a1, n1, rfl⟩ := hpW.shape
            have hx : us[((us.length : Int) - 1 + m * -1).toNat]? = some (.ref pa) := by rw [← hpa]; congr 1; (first | lia | omega)
            refine hGG ?_; clear hGG GG
            k_extra "GO"
            refine ite_bool (fun hb => ?_) (fun hb => ?_)
            · obtain ⟨o', a', rfl⟩ := bin_mark (by simpa using hb)
              refine hideG fun GG hGG => ?_
              cases hpW
              refine hGG ?_; clear hGG GG
              k_extra "GO"
              refine in_l (by assumption) (memZ (hs7.up _ hra)) hri hstr ?_
              k_extra "GO"
              refine ite_bool (fun hi => ?_) (fun hi => ?_)
              · rcases hrn.alt with ⟨k, j0, o, a, dl, dr, hf, rfl, rd1, rd2⟩ | ⟨hnb, _⟩
                · have q1 := hf.mn j _ _ hp
                  refine hideG fun GG hGG => ?_
                  have q2 := row_prec i hi11 o' q1.1
                  rw [hrow, hi, eq_comm, decide_eq_true_eq] at q2
                  have q3 := hno k j0 o a hf
                  have q4 := hno2 k j0 o a hf (by (first | lia | omega))
                  have q5 : j = j0 := by
                    rcases Nat.lt_trichotomy j j0 with q | q | q
                    · (first | lia | omega)
                    · exact q
                    · have := q1.2.2 q; (first | lia | omega)
                  subst q5
                  have q6 := hf.at_
                  rw [hp] at q6
                  simp only [Option.some.injEq, Part.bin.injEq] at q6
                  obtain ⟨rfl, rfl⟩ := q6
                  refine hGG ?_; clear hGG GG
                  k_extra "GO"
                  refine ite_join (x := normOp o') (fun hq Q1 k1 => ?_) (fun hq Q1 k1 => ?_) (fun tq tkq => ?_)
                  · k_extra "GO"
                    rw [normOp_t hq] at k1; exact k1 _ _
                  · k_extra "GO"
                    rw [normOp_f hq] at k1; exact k1 _ _
                  k_extra "GO"
                  have S10 := ic3.frz
                  have e1 : ((us.length : Int) - 1 + m * -1).toNat = j := by (first | lia | omega)
                  have e2 : ((us.length : Int) - 1 + m * -1 + 1).toNat = j + 1 := by (first | lia | omega)
                  rw [e1] at S10
                  refine S10.useC3 (IH _ dl _ _ _ _ _ rd1 mem_hd IsL.of ((hP7.take j).up (Sub.tl .rfl)) (by rw [List.length_take]; (first | lia | omega))) hh (by k_extra "DPT") (by k_extra "DPT") fun qH kH v1 Z1 h11 tk11 S11 hz1 t1 => ?_
                  have hlz1 := hz1.up _ (mem_tl hlL7')
                  k_extra "GO"
                  have S12 := ic3.frz
                  rw [e2] at S12
                  refine S12.useC3 (IH _ dr _ _ _ _ _ rd2 mem_hd IsL.of (((hP7.drop (j + 1)).up (Sub.tl .rfl)).up (hz1.trans (Sub.tl .rfl))) (by rw [List.length_drop]; (first | lia | omega))) hh (by k_extra "DPT") (by k_extra "DPT") fun qH kH v2 Z2 h12 tk12 S13 hz2 t2 => ?_
                  k_extra "GO"
                  (repeat' with_reducible k_extra "UNH"); (try dsimp only [TurnEnd])
                  (repeat' with_reducible k_extra "UNH"); k_extra "RETC"
                  exact ⟨rfl, hs1.trans (hs7.trans ((Sub.tl .rfl).trans (hz1.trans ((Sub.tl .rfl).trans hz2)))).tl, .mkBin rfl mem_hd (t1.up ((Sub.tl .rfl).trans (hz2.trans (.tl .rfl)))) t2.tl⟩
                · exact (hnb _ _ (List.mem_of_getElem? hp)).elim
              · k_extra "GO"
                (repeat' with_reducible k_extra "UNH"); (try dsimp only [TurnEnd])
                refine ⟨_, _, _, _, _, _, rfl, by assumption, ⟨_, rfl⟩, rfl, rfl, ⟨_, _, _, _, _, _, _, _, rfl⟩, fun k j0 o a hf hk => ?_⟩
                have q4 := hno2 k j0 o a hf hk
                rcases Nat.lt_or_ge j0 j with q | q
                · (first | lia | omega)
                · have : j = j0 := by (first | lia | omega)
                  subst this
                  have q6 := hf.at_
                  rw [hp] at q6
                  simp only [Option.some.injEq, Part.bin.injEq] at q6
                  obtain ⟨rfl, rfl⟩ := q6
                  have q2 := row_prec i hi11 _ hf.oj
                  rw [hrow, hi, eq_comm, decide_eq_false_iff_not] at q2
                  exact absurd (hk ▸ hf.pr) q2
            · k_extra "GO"
              (repeat' with_reducible k_extra "UNH"); (try dsimp only [TurnEnd])
              refine ⟨_, _, _, _, _, _, rfl, by assumption, ⟨_, rfl⟩, rfl, rfl, ⟨_, _, _, _, _, _, _, _, rfl⟩, fun k j0 o a hf hk => ?_⟩
              have q4 := hno2 k j0 o a hf hk
              rcases Nat.lt_or_ge j0 j with q | q
              · (first | lia | omega)
              · have : j = j0 := by (first | lia | omega)
                refine hideG fun GG hGG => ?_
                subst this
                have q6 := hf.at_
                rw [hp] at q6
                cases q6
                refine hGG ?_; clear hGG GG
                simp [Part.mark] at hb
          · intro vs own9 R8 Z8 h tk S9 Hv
            refine hideG fun GG hGG => ?_
            obtain ⟨⟨ro, rfl⟩, rfl, rfl, ⟨b1, b2, b3, b4, b5, b6, b7, b9, rfl⟩, hno2⟩ := Hv
            refine hGG ?_; clear hGG GG
            k_extra "GO"
            (repeat' with_reducible k_extra "UNH"); (try dsimp only [TurnEnd])
            refine ⟨_, _, _, _, _, _, rfl, S9.drop (.cons _ (List.Sublist.refl _)), rfl, hs7, ⟨_, _, _, _, _, _, _, _, _, rfl⟩, fun k j0 o a hf => ?_⟩
            have q3 := hno k j0 o a hf
            rcases Nat.lt_or_ge i k with q | q
            · exact q
            · have := hno2 k j0 o a hf (by (first | lia | omega)); (first | lia | omega)
        · intro vs own R8 Z8 h tk S9 Hv
          obtain ⟨rfl, hs8, ⟨b1, b2, b3, b4, b5, b6, b7, b8, b9, rfl⟩, hno2⟩ := Hv
          rcases hrn.alt with ⟨k, j0, o, a, dl, dr, hf, rfl, rd1, rd2⟩ | ⟨hnb, hut⟩
          · have := hno2 k j0 o a hf
            rw [hrows.length] at this
            have h1 := (join_prec _ hf.oj).2
            have h2 := hf.pr
            have h3 : bindTab.length = 11 := rfl
            (first | lia | omega)
          have hn0 : 0 < ps.length := by
            rcases hut with ⟨_, _, _, _, rfl, _⟩ | ⟨_, _, rfl, _⟩ <;> simp
          obtain ⟨p, hp⟩ : ∃ p, ps[0]? = some p := ⟨_, List.getElem?_eq_getElem hn0⟩
          obtain ⟨pa, po, its, hpa, hpo, hpi, hpW⟩ := hP1.get hp
          have hpa' : us[(0 : Int).toNat]? = some (.ref pa) := hpa
          have hlL8 := hs8.up _ hlL
          have hpo8 := hs8.up _ hpo
          rcases hut with ⟨o, a, r, d', rfl, rfl, rd⟩ | ⟨d', k, rfl, rfl⟩
          · simp only [List.getElem?_cons_zero, Option.some.injEq] at hp
            refine hideG fun GG hGG => ?_
            subst hp
            cases hpW
            refine hGG ?_; clear hGG GG
            k_extra "GO"
            refine ite_join (x := normOp o) (fun hq Q1 k1 => ?_) (fun hq Q1 k1 => ?_) (fun tq tkq => ?_)
            · k_extra "GO"
              rw [normOp_t hq] at k1; exact k1 _ _
            · k_extra "GO"
              rw [normOp_f hq] at k1; exact k1 _ _
            k_extra "GO"
            have S10 := ic3.frz
            refine S10.useC3 (IH _ d' _ _ _ _ _ rd mem_hd IsL.of ((hP1.drop 1).up (hs8.trans (.tl .rfl))) (by simp only [List.length_cons] at hz; (first | lia | omega))) hh (by k_extra "DPT") (by k_extra "DPT") fun qH kH v1 Z1' h11 tk11 S11 hz1 t1 => ?_
            k_extra "GO"
            (repeat' with_reducible k_extra "UNH"); k_extra "RETC"
            exact ⟨rfl, (hs1.trans (hs8.trans ((Sub.tl .rfl).trans hz1))).tl, .mkUn rfl mem_hd t1.tl⟩
          · simp only [List.getElem?_cons_zero, Option.some.injEq] at hp
            refine hideG fun GG hGG => ?_
            subst hp
            cases hpW
            refine hGG ?_; clear hGG GG
            k_extra "GO"
            (repeat' with_reducible k_extra "UNH"); k_extra "RETC"
            exact ⟨rfl, hs1.trans hs8, (by assumption : Tr _ _ d).up hs8⟩

section
variable {w : World} {A : Around} {E : Value → Shared → Prop} {env : Env} {g : Heap} {L : Addr} {ns gs : List Str} {vs vs' : List (Option Value)} {own R Z : Led}
  {h : Heap} {ge : Array GenState} {dr : Drawn} {tk : Nat} {os : OsState}
theorem isSeq_iadd : isSeqSlot (some (.builtin "list.__iadd__")) = true := by decide +kernel
theorem fillsI_list : fillsInplaceSlot (.type "list") "add" (Operator.Add == .Add) = pure false := by
  unfold fillsInplaceSlot
  show (typeLookup (.type "list") (dunderI "add") >>= fun fi => pure (fi.isSome && !isSeqSlot fi)) = pure false
  rw [PySem.F.slot_list_iadd.lookup]
  show (pure (true && !isSeqSlot (some (.builtin "list.__iadd__"))) : Sem Bool) = _
  rw [isSeq_iadd]; rfl
theorem seqI_list : seqSlot? (.type "list") (dunderI "add") = pure (some (.builtin "list.__iadd__")) := PySem.seqSlot_of PySem.F.slot_list_iadd.lookup isSeq_iadd
theorem iadd_at {l b : Addr} {us ws : List Value} {n m : Nat} {Q : Value → Shared → Prop} (hl : h.get? l = some (listOf us.toArray n)) (hb : h.get? b = some (listOf ws.toArray m)) (hz : us.length + ws.length ≤ 1000000)
    (k1 : ∀ h' n', Heap.SameBut l h h' → h'.get? l = some (listOf (us ++ ws).toArray n') → Q (.ref l) ⟨h', ge, dr, tk, os⟩) :
    wpAny (model PR w) A (inplaceOp .Add (.ref l) (.ref b)) Q E ⟨h, ge, dr, tk, os⟩ := by
  have ha : (⟨h, ge, dr, tk, os⟩ : Shared).TypeIs (.ref l) "list" := ⟨_, hl, rfl⟩
  have hb' : (⟨h, ge, dr, tk, os⟩ : Shared).TypeIs (.ref b) "list" := ⟨_, hb, rfl⟩
  have hs : us.toArray.size + ws.toArray.size ≤ sizeLine := by rw [List.size_toArray, List.size_toArray, sizeLine_eq]; (first | lia | omega)
  unfold inplaceOp
  refine wpAny_holding ?_
  refine wpAny_bind (wpAny_typeOf ha (wpAny_bind (wpAny_of_eq fillsI_list ?_)))
  show wpAny _ A (if false = true then _ else _) Q E _
  rw [if_neg Bool.false_ne_true]
  refine wpAny_bind (binaryOp1_none (nm := "add") ha hb' noFill_list_add ?_)
  refine wpAny_bind (wpAny_of_eq seqI_list ?_)
  refine wpAny_bind (wpAny_rule ?_)
  refine call_meets PySem.F.slot_list_iadd ha PySem.F.entry_list_iadd (PySem.F.args_list_iadd_2 _ _)
    (PySem.AutoSeq1.list___iadd___list_list_0 l us.toArray n b ws.toArray m (extend_door hs) (by (first | lia | omega)) (by (first | lia | omega))) ⟨hl, hb, ?_⟩

  refine k1 _ (if (us.toArray ++ ws.toArray).size == us.toArray.size then n else n + 1) (Heap.SameBut.update ..) ?_
  rw [Heap.get?_update_self _ hl (by rw [mapSeq_app]; rfl), mapSeq_app]
  simp
theorem iaddO {l b : Addr} {us ws : List Value} {n m : Nat} {f : Obj → Led} {Q : Value → Shared → Prop} (S : St w g L ns vs own R Z h) (u : Upd1 l (listOf us.toArray n) own f) (hb : (b, listOf ws.toArray m) ∈ own ++ (R ++ Z)) (hz : us.length + ws.length ≤ 1000000)
    (k1 : ∀ h' n', St w g L ns vs (f (listOf (us ++ ws).toArray n')) R Z h' → Q (.ref l) ⟨h', ge, dr, tk, os⟩) :
    wpAny (model PR w) A (inplaceOp .Add (.ref l) (.ref b)) Q E ⟨h, ge, dr, tk, os⟩ :=
  iadd_at (S.get (memO u.mem)) (S.get hb) hz fun h' n' hs ho => k1 h' n' (S.mutO u hs ho)
theorem addL {l b : Addr} {lo bo : Obj} {us ws : List Value} {Q : Value → Shared → Prop} (S : St w g L ns vs own R Z h) (hl : (l, lo) ∈ own ++ (R ++ Z)) (i1 : IsL lo us) (hb : (b, bo) ∈ own ++ (R ++ Z)) (i2 : IsL bo ws) (hz : us.length + ws.length ≤ 1000000)
    (k1 : ∀ D h', St w g L ns vs ((D, listOf (us ++ ws).toArray 0) :: own) R Z h' → Q (.ref D) ⟨h', ge, dr, tk, os⟩) :
    wpAny (model PR w) A (binaryOp .Add (.ref l) (.ref b)) Q E ⟨h, ge, dr, tk, os⟩ :=
  add_arrays (s := ⟨h, ge, dr, tk, os⟩) S.F S.N (S.isList hl i1) (S.isList hb i2) (fun h' F' N' => k1 _ h' (S.ofPush F' N' (Nat.le_refl _))) (by rw [List.size_toArray, List.size_toArray, sizeLine_eq]; (first | lia | omega))
theorem tupL {l : Addr} {lo : Obj} {us : List Value} {Q : Value → Shared → Prop} (S : St w g L ns vs own R Z h) (hl : (l, lo) ∈ own ++ (R ++ Z)) (i1 : IsL lo us) (hz : us.length ≤ 1000000)
    (k1 : ∀ D h', St w g L ns vs own R ((D, tupOf us) :: Z) h' → Q (.ref D) ⟨h', ge, dr, tk, os⟩) :
    wpAny (model PR w) A (call (.type "tuple") [.ref l]) Q E ⟨h, ge, dr, tk, os⟩ :=
  call_tuple_list (s := ⟨h, ge, dr, tk, os⟩) (S.isList hl i1) (fun h' k => k1 _ _ ((S.grow k).pushZ _ rfl)) (by rw [List.size_toArray, sizeLine_eq]; (first | lia | omega))
theorem max2 {a b : Int} {t u : Tok} {Q : Value → Shared → Prop} (S : St w g L ns vs own R Z h) (hh : A.handled = none)
    (k1 : ∀ t' h' tk', St w g L ns vs own R Z h' → Q (.int (if b > a then b else a) t') ⟨h', ge, dr, tk', os⟩) :
    wpAny (model PR w) A (call (.builtin "max") [.int a t, .int b u]) Q E ⟨h, ge, dr, tk, os⟩ :=
  max_two_N (s := ⟨h, ge, dr, tk, os⟩) hh S.F S.N fun h' tk' F' N' => k1 _ h' tk' ⟨S.gx, F', N', S.nd, S.nn⟩
theorem is_n {v : Value} {Q : Value → Shared → Prop} {s : Shared} (k1 : Q (.bool (v == .none)) s) : wpAny (model PR w) A (compareOp .Is v .none) Q E s := is_none k1
theorem str_i {a : Int} {t : Tok} {Q : Value → Shared → Prop} (h0 : 0 ≤ a) (h1 : a < 2147483648) (k1 : ∀ t' tk', Q (.str (bigTxt a) t') ⟨h, ge, dr, tk', os⟩) : wpAny (model PR w) A (call (.type "str") [.int a t]) Q E ⟨h, ge, dr, tk, os⟩ :=
  str_of_int_fit (N := 2147483648) (by rw [if_neg (by (first | lia | omega))]; exact h1) (by decide) fun u_ => k1 _ _
theorem ix_str {value slice : Expr} {x : Str} {t : Tok} {i : Int} {u : Tok} {Q : Value → Shared → Prop} (hx : x.length ≤ 1000) (h1 : 0 ≤ i) (h2 : i < x.length)
    (k1 : ∀ t' tk', Q (.str (Txt.item x i) t') ⟨h, ge, dr, tk', os⟩)
    (hs : subscripted slice false (.str x t) (.int i u) = operate [.str x t, .int i u] (getItem (.str x t) (.int i u)))
    (ht : ∀ r, letTemporaryGo value (.str x t) r = pure ()) :
    wpAny (model PR w) A (subscriptTail value slice (.str x t) (.int i u)) Q E ⟨h, ge, dr, tk, os⟩ :=
  item_str (fitsSsize_of (N := 9223372036854775808) (by (first | lia | omega)) (by (first | lia | omega)) (Int.le_refl _)) (by (first | lia | omega)) h2 (fun u_ => k1 _ _) hs ht
end

/-! builder's steps -/
structure Ext (x x' : BSt) (ts : List TokD) (e : Option Int) : Prop where
  tl : x'.tl = x.tl ++ ts
  bad : x'.bad = x.bad.or e
theorem Ext.rfl {x : BSt} : Ext x x [] none := ⟨by simp, by simp⟩
theorem Ext.trans {x y z : BSt} {t1 t2 e1 e2} (a : Ext x y t1 e1) (b : Ext y z t2 e2) : Ext x z (t1 ++ t2) (e1.or e2) := ⟨by rw [b.tl, a.tl, List.append_assoc], by rw [b.bad, a.bad, Option.or_assoc]⟩
theorem Ext.len {x x' : BSt} {ts e} (a : Ext x x' ts e) : x'.tl.length = x.tl.length + ts.length := by rw [a.tl, List.length_append]
section
variable {w : World} {A : Around} {E : Value → Shared → Prop} {env : Env} {g : Heap} {L : Addr} {ns gs : List Str} {vs vs' : List (Option Value)} {own R Z : Led}
  {h : Heap} {ge : Array GenState} {dr : Drawn} {tk : Nat} {os : OsState} {b : BA} {x : BSt} {e0 : Env}
theorem St.put {kind : Str} {kt : Tok} {v : Value} {vd : PyData} {Q : Value → Shared → Prop} (S : St w g L ns vs own (Res b x) Z h) (hx : BOk w b x Z) (hz : x.tl.length ≤ 900000) (hv : Tr Z v vd)
    (hh : A.handled = none) (hd : A.depth + 10 < recursionLimit) (hu : A.units + 100 < cLine)
    (k : ∀ x' at_ t Z' h' tk', St w g L ns vs own (Res b x') Z' h' → BOk w b x' Z' → Sub Z Z' → Ext x x' [⟨kind, vd, at_⟩] none → x'.tl.length = x.tl.length + 1 → Q (.int at_ t) ⟨h', ge, dr, tk', os⟩) :
    wpAny (model PR w) (A.deeper e0) (call (.ref 454) [.ref b.W, .str kind kt, v]) Q E ⟨h, ge, dr, tk, os⟩ :=
  S.useV (put_spec hx hz hv) hh (by show A.depth + 1 + _ < _; k_extra "DPT") (by show A.units + 3 + _ < _; k_extra "DPT") fun r R' Z' h' tk' S' ⟨x', at_, t, e, _, eR, hx', hs, ht, hb, _⟩ => by
    subst e eR
    exact k x' at_ t Z' h' tk' S' hx' hs ⟨ht, by simpa using hb⟩ (by rw [ht]; simp)
theorem St.pick {n : Int} {tn : Tok} {Q : Value → Shared → Prop} (S : St w g L ns vs own (Res b x) Z h) (hx : BOk w b x Z) (hn : 0 < n)
    (hh : A.handled = none) (hd : A.depth + 10 < recursionLimit) (hu : A.units + 100 < cLine)
    (k : ∀ x' r t h' tk', 0 ≤ r → r < n → St w g L ns vs own (Res b x') Z h' → BOk w b x' Z → Ext x x' [] none → x'.tl.length = x.tl.length → Q (.int r t) ⟨h', ge, dr, tk', os⟩) :
    wpAny (model PR w) (A.deeper e0) (call (.ref 447) [.ref b.P, .int n tn]) Q E ⟨h, ge, dr, tk, os⟩ :=
  S.useV (pick_spec hx hn) hh (by show A.depth + 1 + _ < _; k_extra "DPT") (by show A.units + 3 + _ < _; k_extra "DPT") fun r R' Z' h' tk' S' ⟨r', t, x', e, h0, h1, eR, eZ, hx', ht, hb, _⟩ => by
    subst e eR eZ
    exact k x' r' t h' tk' h0 h1 S' hx' ⟨by simpa using ht, by simpa using hb⟩ (by rw [ht])
end
/-- a tree's size: it can be read back, and how deep it is -/
structure Fine (n : Nat) (d : PyData) : Prop where
  d : d.depth ≤ n
inductive XPost (w : World) (b : BA) (x : BSt) (Z : Led) (N : Nat) (Post : Value → Led → Led → List TokD → Option Int → Prop) (v : Value) (R' Z' : Led) : Prop
  | mk (x' : BSt) (O : Led) (ts : List TokD) (e : Option Int) (hR : R' = O ++ Res b x') (hx : BOk w b x' Z') (hs : Sub Z Z') (hE : Ext x x' ts e) (hn : ts.length ≤ N) (hP : Post v O Z' ts e) : XPost w b x Z N Post v R' Z'
inductive TPost (G : List TokD → PyData → Option Int → Prop) (n : Nat) (v : Value) (O Z' : Led) (ts : List TokD) (e : Option Int) : Prop
  | mk (hO : O = []) (d : PyData) (ht : Tr Z' v d) (hg : G ts d e) (hf : Fine n d) : TPost G n v O Z' ts e
section
variable {w : World} {A : Around} {E : Value → Shared → Prop} {g : Heap} {L : Addr} {ns : List Str} {vs : List (Option Value)} {own Z : Led} {h : Heap} {ge : Array GenState} {dr : Drawn} {tk : Nat} {os : OsState} {b : BA} {x : BSt} {e0 : Env}
theorem St.useT {f : Addr} {args : List Value} {d u N n : Nat} {G : List TokD → PyData → Option Int → Prop} {Q : Value → Shared → Prop} (S : St w g L ns vs own (Res b x) Z h) (C : CallC w f args d u (Res b x) Z (XPost w b x Z N (TPost G n)))
    (hh : A.handled = none) (hd : A.depth + 1 + d < recursionLimit) (hu : A.units + 3 + u < cLine)
    (k : ∀ Q1, ImpV Q Q1 → ∀ v x' ts e D Z' h' tk', St w g L ns vs own (Res b x') Z' h' → BOk w b x' Z' → Sub Z Z' → Ext x x' ts e → ts.length ≤ N → Tr Z' v D → G ts D e → Fine n D → Q1 v ⟨h', ge, dr, tk', os⟩) :
    wpAny (model PR w) (A.deeper e0) (call (.ref f) args) Q E ⟨h, ge, dr, tk, os⟩ :=
  S.useH C hh hd hu fun Q1 hQ v R' Z' h' tk' S' P => by
    obtain ⟨x', O, ts, e, rfl, hx, hs, hE, hn, rfl, D, ht, hg, hf⟩ := P
    exact k Q1 hQ v x' ts e D Z' h' tk' S' hx hs hE hn ht hg hf
end
/-- a contract of the builder -/
noncomputable def XC (w : World) (b : BA) (f : Addr) (args : List Value) (d u : Nat) (x : BSt) (Z : Led) (N : Nat) (Post : Value → Led → Led → List TokD → Option Int → Prop) : Prop :=
  CallC w f args d u (Res b x) Z (XPost w b x Z N Post)
noncomputable def NE : Nat → Nat
  | 0 => 19
  | k + 1 => (5 * NE k + 22) + (if k = 2 then 4 else 2) * (2 + 2 * (5 * NE k + 22))
noncomputable def NT : Nat → Nat
  | 0 => 1
  | k + 1 => 5 * NE k + 20
noncomputable def NP : Nat → Nat
  | 0 => 19
  | k + 1 => 3 + (if k = 2 then 4 else 2) * (5 + NP k)
noncomputable def DE : Nat → Nat
  | 0 => 44
  | k + 1 => DE k + 4 + 2 * NP (k + 1)
noncomputable def DT : Nat → Nat
  | 0 => 4
  | k + 1 => DE k + 6
noncomputable def dE (k : Nat) : Nat := 520 + 10 * k
noncomputable def uE (k : Nat) : Nat := 5200 + 100 * k
noncomputable def ExprS (w : World) (k : Nat) : Prop := ∀ (b : BA) (x : BSt) (Z : Led) (dp : Int) (td : Tok), BOk w b x Z → dp = 3 - (k : Int) → k ≤ 3 → x.tl.length + NE k ≤ 890000 →
  XC w b 471 [.ref b.P, .ref b.W, .int dp td] (dE k) (uE k) x Z (NE k) (TPost (GX (2 * k + 2)) (DE k))
noncomputable def TermS (w : World) (k : Nat) : Prop := ∀ (b : BA) (x : BSt) (Z : Led) (dp : Int) (td : Tok), BOk w b x Z → dp = 3 - (k : Int) → k ≤ 3 → x.tl.length + NT k ≤ 890000 →
  XC w b 506 [.ref b.P, .ref b.W, .int dp td] (dE k - 5) (uE k - 50) x Z (NT k) (TPost (GPrim (GX (2 * k))) (DT k))
inductive OPost (k : Nat) (v : Value) (O Z' : Led) (ts : List TokD) (e : Option Int) : Prop
  | mk (l n) (us : List Value) (ps : List Part) (d : PyData) (hv : v = .ref l) (hO : O = [(l, listOf us.toArray n)]) (hpa : PAt Z' us ps) (hg : OpG (GX (2 * k)) ps ts d e) (hl : ps.length ≤ 3) (hf : ∀ d' j, Part.term d' j ∈ ps → Fine (DT k) d') : OPost k v O Z' ts e
noncomputable def OperS (w : World) (k : Nat) : Prop := ∀ (b : BA) (x : BSt) (Z : Led) (dp : Int) (td : Tok), BOk w b x Z → dp = 3 - (k : Int) → k ≤ 3 → x.tl.length + (NT k + 2) ≤ 890000 →
  XC w b 485 [.ref b.P, .ref b.W, .int dp td] (dE k - 4) (uE k - 40) x Z (NT k + 2) (OPost k)
noncomputable def uP (l : List (Str × Int)) : List Part := l.map fun p => .un p.1 p.2
noncomputable def uT (l : List (Str × Int)) : List TokD := l.map fun p => op p.1 p.2
noncomputable def uD (l : List (Str × Int)) (d : PyData) : PyData := l.foldr (fun p d => tUn p.2 p.1 d) d
theorem uOp {X : XP} {ps ts d e} (h : OpG X ps ts d e) : ∀ l : List (Str × Int), (∀ p ∈ l, p.1 ∈ unOps) → OpG X (uP l ++ ps) (uT l ++ ts) (uD l d) e
  | [], _ => h
  | p :: l, hl => .un (hl p (.head _)) (uOp h l fun q hq => hl q (.tail _ hq))
theorem PAt.snoc {Z : Led} {us ps v p} (h : PAt Z us ps) (k : Tr Z v p.data) : PAt Z (us ++ [v]) (ps ++ [p]) := by
  show TrL Z _ ((ps ++ [p]).map Part.data)
  rw [List.map_append]
  exact TrL.append h (.cons k .nil)
theorem Strs.nth {us : List Value} {xs : List Str} (h : Strs us xs) {i : Nat} (hi : i < xs.length) : ∃ x t, us[i]? = some (Value.str x t) ∧ xs[i]? = some x := by
  have hlt : i < us.length := by rw [h.length]; exact hi
  obtain ⟨x, t, e1, e2⟩ := h.get (List.getElem?_eq_getElem hlt)
  exact ⟨x, t, by rw [List.getElem?_eq_getElem hlt, e2], e1⟩
theorem BOk.setW {w b x Z o r tr bv bad} (hx : BOk w b x Z) (hD : IsD w o [("tokens", .ref b.T), ("room", .int r tr), ("bad", bv), ("wholes", .ref b.Wh)]) (hb : BadIs Z bv bad) :
    ∃ x', BOk w b x' Z ∧ Res b x' = [(b.P, x.po), (b.W, o), (b.T, listOf x.toks.toArray x.tn)] ∧ x'.tl = x.tl ∧ x'.bad = bad :=
  ⟨{ x with wo := o, room := r, tr := tr, badv := bv, bad := bad }, { hx with wo := hD, bd := hb }, rfl, rfl, rfl⟩
theorem ao_each {w : World} {A : Around} {E : Value → Shared → Prop} {env : Env} {s : Shared} {e : Expr} {r : List Expr} {b : Bool} {v : Value} {us : List Value} {Q : Unit → Shared → Prop}
    (k1 : wpAny (model PR w) A (assign e env v) (fun u_ s₁ => wpAny (model PR w) A (assignInOrder ((assignEach r env).map (·.2)) us) Q E s₁) E s) (he : assignEach (e :: r) env = (b, assign e env) :: assignEach r env) :
    wpAny (model PR w) A (assignInOrder ((assignEach (e :: r) env).map (·.2)) (v :: us)) Q E s := by rw [he]; exact assignInOrder_cons k1
theorem ao_eachN {w : World} {A : Around} {E : Value → Shared → Prop} {env : Env} {s : Shared} {us : List Value} {Q : Unit → Shared → Prop}
    (k1 : Q () s) (he : assignEach [] env = []) : wpAny (model PR w) A (assignInOrder ((assignEach [] env).map (·.2)) us) Q E s := by rw [he]; exact wpAny_pure k1
theorem pick4 {w : World} {g : Heap} {L : Addr} {ns vs own R Z h} {l l1 l2 l3 l4 : Addr} {n : Nat} {t1 t2 t3 t4 u1 u2 u3 u4 : Tok}
    (_ : St w g L ns vs ((l, listOf ([.ref l1, .ref l2, .ref l3, .ref l4] : List Value).toArray n) :: own) R ((l4, tupOf [.str "op" t4, .str "=" u4]) :: (l3, tupOf [.str "eof" t3, .str "" u3]) :: (l2, tupOf [.str "key" t2, .str "begin" u2]) :: (l1, tupOf [.str "op" t1, .str ";" u1]) :: Z) h)
    {r : Int} (h0 : 0 ≤ r) (h1 : r < 4) : ∃ a k v t u, ([.ref l1, .ref l2, .ref l3, .ref l4] : List Value)[r.toNat]? = some (.ref a) ∧ (k, v) ∈ badToks ∧
      (a, tupOf [.str k t, .str v u]) ∈ (l4, tupOf [.str "op" t4, .str "=" u4]) :: (l3, tupOf [.str "eof" t3, .str "" u3]) :: (l2, tupOf [.str "key" t2, .str "begin" u2]) :: (l1, tupOf [.str "op" t1, .str ";" u1]) :: Z := by
  have : r = 0 ∨ r = 1 ∨ r = 2 ∨ r = 3 := by (first | lia | omega)
  rcases this with rfl | rfl | rfl | rfl
  · exact ⟨l1, _, _, _, _, rfl, .head _, .tail _ (.tail _ (.tail _ (.head _)))⟩
  · exact ⟨l2, _, _, _, _, rfl, .tail _ (.head _), .tail _ (.tail _ (.head _))⟩
  · exact ⟨l3, _, _, _, _, rfl, .tail _ (.tail _ (.head _)), .tail _ (.head _)⟩
  · exact ⟨l4, _, _, _, _, rfl, .tail _ (.tail _ (.tail _ (.head _))), .head _⟩
theorem BadIs.none_inv {Z v o} (h : BadIs Z v o) (e : v = .none) : o = Option.none := by
  cases h with
  | none => rfl
  | some t => subst e; cases t
theorem BadIs.some_inv {Z v o} (h : BadIs Z v o) (e : v ≠ .none) : ∃ a, o = Option.some a := by
  cases h with
  | none => exact absurd rfl e
  | some t => exact ⟨_, rfl⟩
theorem Fine.none {n} : Fine n .none := ⟨Nat.zero_le _⟩
theorem Fine.le {n m d} (h : Fine n d) (k : n ≤ m) : Fine m d := ⟨Nat.le_trans h.d k⟩
theorem depthAll_le {n : Nat} : ∀ {ds : List PyData}, (∀ d ∈ ds, Fine n d) → PyData.depthAll ds ≤ n
  | [], _ => Nat.zero_le _
  | d :: ds, h => by
    have h1 := (h d (.head _)).d
    have h2 := depthAll_le fun d' hd => h d' (.tail _ hd)
    simp only [PyData.depthAll]; (first | lia | omega)
theorem Fine.tup {n ds} (h : ∀ d ∈ ds, Fine n d) : Fine (n + 1) (.tuple ds) := ⟨by simp only [PyData.depth]; have := depthAll_le h; (first | lia | omega)⟩
theorem fine_str {n x} : Fine n (.str x) := ⟨Nat.zero_le _⟩
theorem fine_int {n x} : Fine n (.int x) := ⟨Nat.zero_le _⟩
theorem fine_bool {n x} : Fine n (.bool x) := ⟨Nat.zero_le _⟩
theorem all_nil {P : PyData → Prop} : ∀ d ∈ ([] : List PyData), P d := fun u_ h => nomatch h
theorem all_cons {P : PyData → Prop} {a l} (h : P a) (k : ∀ d ∈ l, P d) : ∀ d ∈ a :: l, P d := fun d hd => by
  rcases List.mem_cons.mp hd with rfl | hd
  · exact h
  · exact k d hd
theorem Rd.fine {B n ps d} (h : Rd n ps d) : (∀ d' j, Part.term d' j ∈ ps → Fine B d') → Fine (B + n) d := by
  induction h with
  | @cond n T C O a b dt dc do_ _ _ _ _ _ i1 i2 i3 =>
    intro hb
    have h1 := i1 fun d' j hm => hb d' j (List.mem_append_left _ hm)
    have h2 := i2 fun d' j hm => hb d' j (List.mem_append_right _ (.tail _ (List.mem_append_left _ hm)))
    have h3 := i3 fun d' j hm => hb d' j (List.mem_append_right _ (.tail _ (List.mem_append_right _ (.tail _ hm))))
    exact .tup (all_cons fine_str (all_cons fine_int (all_cons h1 (all_cons h2 (all_cons h3 all_nil)))))
  | bin _ _ _ _ _ _ _ i1 i2 =>
    intro hb
    have h1 := i1 fun d' j hm => hb d' j (List.mem_append_left _ hm)
    have h2 := i2 fun d' j hm => hb d' j (List.mem_append_right _ (.tail _ hm))
    exact .tup (all_cons fine_str (all_cons fine_int (all_cons fine_str (all_cons h1 (all_cons h2 all_nil)))))
  | un _ _ _ i1 =>
    intro hb
    have h1 := i1 fun d' j hm => hb d' j (.tail _ hm)
    exact .tup (all_cons fine_str (all_cons fine_int (all_cons fine_str (all_cons h1 all_nil))))
  | term => intro hb; exact (hb _ _ (.head _)).le (by (first | lia | omega))
theorem cutN {M : Model} {A : Around} {E : Value → Shared → Prop} {s : Shared} {t : Sem Flow} {Q : Flow → Shared → Prop} (P : Shared → Prop) (h1 : wpAny M A t (fun f s1 => f = .next ∧ P s1) E s) (h2 : ∀ s1, P s1 → Q .next s1) : wpAny M A t Q E s :=
  wpAny_mono h1 (fun f s1 ⟨e, p⟩ => e ▸ h2 s1 p) (fun u_ u_ e => e)
theorem cutV {M : Model} {A : Around} {E : Value → Shared → Prop} {s : Shared} {α : Type} {t : Sem α} {Q : α → Shared → Prop} (P : α → Shared → Prop) (h1 : wpAny M A t P E s) (h2 : ∀ v s1, P v s1 → Q v s1) : wpAny M A t Q E s :=
  wpAny_mono h1 h2 (fun u_ u_ e => e)
/-! contracts of the builder's other defs -/
noncomputable def ListS (w : World) (k : Nat) : Prop := ∀ (b : BA) (x : BSt) (Z : Led) (dp : Int) (td tc : Tok) (c : Nat), BOk w b x Z → dp = 2 - (k : Int) → k ≤ 2 → c ≤ 3 → x.tl.length + c * (NE k + 1) ≤ 890000 →
  XC w b 492 [.ref b.P, .ref b.W, .int dp td, .int c tc] (dE k + 2) (uE k + 20) x Z (c * (NE k + 1)) (fun v O Z' ts e => O = [] ∧ ∃ ds, Tr Z' v (.tuple ds) ∧ GArgs (GX (2 * k + 2)) ts ds e ∧ (0 < c → GItems (GX (2 * k + 2)) ts ds e) ∧ ∀ d ∈ ds, Fine (DE k) d)
inductive RPost (k : Nat) (v : Value) (O Z' : Led) (ts : List TokD) (e : Option Int) : Prop
  | mk (l n) (us : List Value) (ps : List Part) (hv : v = .ref l) (hO : O = [(l, listOf us.toArray n)]) (hpa : PAt Z' us ps) (hg : RowG (GX (2 * k + 1)) ps ts e) (hl : ps.length ≤ NP k) (hf : ∀ d' j, Part.term d' j ∈ ps → Fine (DT k) d') : RPost k v O Z' ts e
section
variable {w : World} {A : Around} {E : Value → Shared → Prop} {g : Heap} {L : Addr} {ns : List Str} {vs : List (Option Value)} {own Z : Led} {h : Heap} {ge : Array GenState} {dr : Drawn} {tk : Nat} {os : OsState} {b : BA} {x : BSt} {e0 : Env}
theorem St.useO {f : Addr} {args : List Value} {d u N k : Nat} {Q : Value → Shared → Prop} (S : St w g L ns vs own (Res b x) Z h) (C : CallC w f args d u (Res b x) Z (XPost w b x Z N (OPost k)))
    (hh : A.handled = none) (hd : A.depth + 1 + d < recursionLimit) (hu : A.units + 3 + u < cLine)
    (kk : ∀ Q1, ImpV Q Q1 → ∀ x' ts e l n us ps D Z' h' tk', St w g L ns vs own ((l, listOf us.toArray n) :: Res b x') Z' h' → BOk w b x' Z' → Sub Z Z' → Ext x x' ts e → ts.length ≤ N → PAt Z' us ps → OpG (GX (2 * k)) ps ts D e → ps.length ≤ 3 → (∀ d' j, Part.term d' j ∈ ps → Fine (DT k) d') → Q1 (.ref l) ⟨h', ge, dr, tk', os⟩) :
    wpAny (model PR w) (A.deeper e0) (call (.ref f) args) Q E ⟨h, ge, dr, tk, os⟩ :=
  S.useH C hh hd hu fun Q1 hQ v R' Z' h' tk' S' P => by
    obtain ⟨x', O, ts, e, rfl, hx, hs, hE, hn, l, n, us, ps, D, rfl, rfl, h1, h2, h3, h4⟩ := P
    exact kk Q1 hQ x' ts e l n us ps D Z' h' tk' S' hx hs hE hn h1 h2 h3 h4
theorem St.useR {f : Addr} {args : List Value} {d u N k : Nat} {Q : Value → Shared → Prop} (S : St w g L ns vs own (Res b x) Z h) (C : CallC w f args d u (Res b x) Z (XPost w b x Z N (RPost k)))
    (hh : A.handled = none) (hd : A.depth + 1 + d < recursionLimit) (hu : A.units + 3 + u < cLine)
    (kk : ∀ Q1, ImpV Q Q1 → ∀ x' ts e l n us ps  Z' h' tk', St w g L ns vs own ((l, listOf us.toArray n) :: Res b x') Z' h' → BOk w b x' Z' → Sub Z Z' → Ext x x' ts e → ts.length ≤ N → PAt Z' us ps → RowG (GX (2 * k + 1)) ps ts e → ps.length ≤ NP k → (∀ d' j, Part.term d' j ∈ ps → Fine (DT k) d') → Q1 (.ref l) ⟨h', ge, dr, tk', os⟩) :
    wpAny (model PR w) (A.deeper e0) (call (.ref f) args) Q E ⟨h, ge, dr, tk, os⟩ :=
  S.useH C hh hd hu fun Q1 hQ v R' Z' h' tk' S' P => by
    obtain ⟨x', O, ts, e, rfl, hx, hs, hE, hn, l, n, us, ps, rfl, rfl, h1, h2, h3, h4⟩ := P
    exact kk Q1 hQ x' ts e l n us ps  Z' h' tk' S' hx hs hE hn h1 h2 h3 h4
end
noncomputable def RowS (w : World) (k : Nat) : Prop := ∀ (b : BA) (x : BSt) (Z : Led) (dp : Int) (td : Tok), BOk w b x Z → dp = 3 - (k : Int) → k ≤ 3 → x.tl.length + NE k ≤ 890000 →
  XC w b 478 [.ref b.P, .ref b.W, .int dp td] (dE k - 2) (uE k - 20) x Z (NE k) (RPost k)

theorem one_term {l : List (Str × Int)} {d d' : PyData} {j j' : Int} (h : Part.term d' j' ∈ uP l ++ [.term d j]) : d' = d := by
  rcases List.mem_append.mp h with q | q
  · obtain ⟨p, _, e⟩ := List.mem_map.mp q; cases e
  · simp only [List.mem_singleton] at q; cases q; rfl
theorem ite_cut {M : Model} {A : Around} {E : Value → Shared → Prop} {s : Shared} {α : Type} {t1 t2 : Sem α} {c : Bool} {Q : α → Shared → Prop} (P : α → Shared → Prop) (h1 : c = true → wpAny M A t1 P E s) (h2 : c = false → wpAny M A t2 P E s) (h3 : ∀ v s1, P v s1 → Q v s1) :
    if c = true then wpAny M A t1 Q E s else wpAny M A t2 Q E s := by
  cases c with
  | true => exact cutV P (h1 rfl) h3
  | false => exact cutV P (h2 rfl) h3
theorem PAt.append {Z : Led} {us ps ws qs} (h : PAt Z us ps) (k : PAt Z ws qs) : PAt Z (us ++ ws) (ps ++ qs) := by
  show TrL Z _ ((ps ++ qs).map Part.data)
  rw [List.map_append]
  exact TrL.append h k
theorem term_app {P : PyData → Prop} {a b : List Part} (h : ∀ d j, Part.term d j ∈ a → P d) (k : ∀ d j, Part.term d j ∈ b → P d) : ∀ d j, Part.term d j ∈ a ++ b → P d := fun d j hm => (List.mem_append.mp hm).elim (h d j) (k d j)
theorem term_no {P : PyData → Prop} {p : Part} {b : List Part} (h : ∀ d j, p ≠ Part.term d j) (k : ∀ d j, Part.term d j ∈ b → P d) : ∀ d j, Part.term d j ∈ p :: b → P d := fun d j hm => by
  rcases List.mem_cons.mp hm with rfl | hm
  · exact absurd rfl (h _ _)
  · exact k d j hm
theorem term_nil {P : PyData → Prop} : ∀ d j, Part.term d j ∈ ([] : List Part) → P d := fun u_ u_ h => nomatch h

section
variable {w : World} {A : Around} {E : Value → Shared → Prop} {env : Env} {g : Heap} {L : Addr} {ns gs : List Str} {vs vs' : List (Option Value)} {own R Z : Led}
  {h : Heap} {ge : Array GenState} {dr : Drawn} {tk : Nat} {os : OsState} {b : BA} {x : BSt} {e0 : Env}
theorem ne_nil {l m : Addr} {lo mo : Obj} {us : List Value} {Q : Value → Shared → Prop} (S : St w g L ns vs own R Z h) (hl : (l, lo) ∈ own ++ (R ++ Z)) (i1 : IsL lo us) (hb : (m, mo) ∈ own ++ (R ++ Z)) (i2 : IsL mo []) (hu : A.units + 3 < cLine)
    (k1 : Q (.bool (!us.isEmpty)) ⟨h, ge, dr, tk, os⟩) : wpAny (model PR w) (A.deeper e0) (compareOp .NotEq (.ref l) (.ref m)) Q E ⟨h, ge, dr, tk, os⟩ := by
  have hu : (A.deeper e0).units < cLine := hu
  have h1 := S.isList hl i1
  have h2 := S.isList hb i2
  cases us with
  | nil => exact SeqAt.RcNeAt.lists (s := ⟨h, ge, dr, tk, os⟩) (e := fun u_ => true) h1 h2 rfl hu (fun j hj => by simp at hj) PR w E Q (by simpa using k1)
  | cons u us => exact SeqAt.RcNeAt.lists_lengths (s := ⟨h, ge, dr, tk, os⟩) h1 h2 (by simp) hu PR w E Q (by simpa using k1)
theorem ix_tab {value slice : Expr} {d : Addr} {o : Obj} {D : List (PyData × PyData)} {x y : Str} {t : Tok} {Q : Value → Shared → Prop} (S : St w g L ns vs own R Z h) (hp : (d, o) ∈ own ++ (R ++ Z)) (hT : TabObj (strKind PR w) PyData.str D o) (hb : (d == sysModules) = false)
    (hl : Spec.lookup (.str x) D = some (.str y)) (k1 : ∀ t' tk', Q (.str y t') ⟨h, ge, dr, tk', os⟩)
    (hs : subscripted slice false (.ref d) (.str x t) = operate [.ref d, .str x t] (getItem (.ref d) (.str x t))) :
    wpAny (model PR w) A (subscriptTail value slice (.ref d) (.str x t)) Q E ⟨h, ge, dr, tk, os⟩ := by
  obtain ⟨kvs, hd, hf⟩ := hT
  refine kba_turn (value' := PySem.Expr.Name "_" ⟨0, 0, 0, 0⟩) (fun u_ => rfl) (item_strTab (TabAt.ofObj hb (S.get hp) hd hf) hl (fun v fv => ?_) hs (fun u_ => rfl))
  obtain ⟨t', rfl⟩ := fv.str_inv
  exact k1 _ _
theorem ix_neg {value slice : Expr} {l : Addr} {o : Obj} {its : List Value} {k : Int} {u : Tok} {x : Value} {Q : Value → Shared → Prop} (S : St w g L ns vs own R Z h) (hp : (l, o) ∈ own ++ (R ++ Z)) (i : IsL o its)
    (h0 : k < 0) (h1 : -(its.length : Int) ≤ k) (hz : its.length ≤ 1000000) (hx : its[(k + its.length).toNat]? = some x) (k1 : Q x ⟨h, ge, dr, tk, os⟩)
    (hs : subscripted slice false (.ref l) (.int k u) = operate [.ref l, .int k u] (getItem (.ref l) (.int k u))) :
    wpAny (model PR w) A (subscriptTail value slice (.ref l) (.int k u)) Q E ⟨h, ge, dr, tk, os⟩ :=
  have hl := S.isList hp i
  tail_any hl.typeIs slot_list_getitem.lookup (wpAny_getItem_list_neg hl h0 (by simpa using h1) (by (first | lia | omega)) (by simpa using hx) k1) hs
theorem BOk.last {x0 : BSt} {t : TokD} {e} (hx : BOk w b x Z) (E : Ext x0 x [t] e) : ∃ a, x.toks[((-1 : Int) + x.toks.length).toNat]? = some (.ref a) ∧ 0 < x.toks.length ∧ TokAt w Z a t := by
  have hl := hx.tk.length
  have e := E.tl
  rw [e] at hl
  simp only [List.length_append, List.length_singleton] at hl
  obtain ⟨a, h1, h2⟩ := hx.tk.get (i := x0.tl.length) (t := t) (by rw [e]; simp)
  refine ⟨a, ?_, by (first | lia | omega), h2⟩
  rw [← h1]; congr 1; (first | lia | omega)
theorem TokAt.strV {a : Addr} {k y : Str} {at_ : Int} (h : TokAt w Z a ⟨k, .str y, at_⟩) : ∃ dx t1 t2 t3 kt vt ta, (a, instObj 71 dx) ∈ Z ∧ (dx, tokD w t1 t2 t3 (.str k kt) (.str y vt) (.int at_ ta)) ∈ Z := by
  obtain ⟨dx, t1, t2, t3, kt, vv, ta, m1, m2, m3⟩ := h.ex
  cases m3 with | str _ vt => exact ⟨dx, t1, t2, t3, kt, vt, ta, m1, m2⟩
end
theorem abc_len : (("abc" : Str).length) = 3 := by decide +kernel
theorem item_abc {r : Int} (h0 : 0 ≤ r) (h1 : r < 3) : Txt.item "abc" r ∈ namesOk := by
  have : r = 0 ∨ r = 1 ∨ r = 2 := by (first | lia | omega)
  rcases this with rfl | rfl | rfl <;> decide +kernel
noncomputable def SelS (w : World) (k : Nat) : Prop := ∀ (b : BA) (x : BSt) (Z : Led) (dp : Int) (td : Tok), BOk w b x Z → dp = 2 - (k : Int) → k ≤ 2 → x.tl.length + (5 * NE k + 20) ≤ 890000 →
  XC w b 499 [.ref b.P, .ref b.W, .int dp td] (dE k + 2) (uE k + 20) x Z (5 * NE k + 20) (TPost (GPrim (GX (2 * k + 2))) (DE k + 6))
noncomputable abbrev selTab : List (PyData × PyData) := [(.str "part", .str ":"), (.str "up", .str "+:"), (.str "down", .str "-:")]
theorem tree_fine {n at_ done nm} (hn : 1 ≤ n) (h : ∀ d ∈ done, Fine n d) : Fine (n + 2) (pathTree at_ done nm) := by
  unfold pathTree
  split
  · exact .le (n := 1) (.tup (all_cons fine_str (all_cons fine_int (all_cons fine_str all_nil)))) (by (first | lia | omega))
  · refine .tup (all_cons fine_str (all_cons fine_int (all_cons (.tup fun d hd => ?_) all_nil)))
    rcases List.mem_append.mp hd with q | q
    · exact h d q
    · simp only [List.mem_singleton] at q; subst q; exact .le (n := 0 + 1) (.tup (all_cons fine_str (all_cons .none all_nil))) hn
theorem pick_sel {w : World} {g : Heap} {L : Addr} {ns vs own R Z h} {l : Addr} {n : Nat} {t1 t2 t3 t4 : Tok}
    (_ : St w g L ns vs ((l, listOf ([.str "index" t1, .str "part" t2, .str "up" t3, .str "down" t4] : List Value).toArray n) :: own) R Z h)
    {r : Int} (h0 : 0 ≤ r) (h1 : r < 4) : ∃ y t, ([.str "index" t1, .str "part" t2, .str "up" t3, .str "down" t4] : List Value)[r.toNat]? = some (.str y t) ∧ (y = "index" ∨ ((y == ("index" : Str)) = false ∧ ∃ o, Rng y o ∧ Spec.lookup (.str y) selTab = some (.str o))) := by
  have : r = 0 ∨ r = 1 ∨ r = 2 ∨ r = 3 := by (first | lia | omega)
  rcases this with rfl | rfl | rfl | rfl
  · exact ⟨_, _, rfl, .inl rfl⟩
  · exact ⟨_, _, rfl, .inr ⟨by decide +kernel, _, .part, by kernel_rfl⟩⟩
  · exact ⟨_, _, rfl, .inr ⟨by decide +kernel, _, .up, by kernel_rfl⟩⟩
  · exact ⟨_, _, rfl, .inr ⟨by decide +kernel, _, .down, by kernel_rfl⟩⟩

theorem ksetC : True := by
  k_with "W3" => first | assumption | focus (refine' BOk.up2 ?_ ?_; rotate_right 2; assumption; (repeat (first | exact Sub.rfl | refine Sub.tl ?_)))
  k_with "W1" => focus (focus (refine' St.pick ?_ ?_ ?_ ?_ ?_ ?_ ?_; rotate_right 7; assumption; k_extra "W3"; (first | k_dflt decide | (first | lia | omega)); assumption; k_extra "DPT"; k_extra "DPT"))
  k_with "W2" => focus (focus (refine' St.put ?_ ?_ ?_ ?_ ?_ ?_ ?_ ?_; rotate_right 8; assumption; k_extra "W3"; (first | lia | omega); k_dflt (first | exact .str _ _ | (refine' Tr.tup mem_hd IsT.of ?_; repeat' (first | exact TrL.nil | refine' TrL.cons ?_ ?_ | exact Tr.str _ _ | exact Tr.bool _)) | assumption); assumption; k_extra "DPT"; k_extra "DPT"))
  k_with "W4" => focus (refine as_n ?_; focus (refine' sto ?_ ?_ ?_ ?_; rotate_right 4; assumption; assumption; k_extra "PUT"); intro ic1 ic2 ic3)
  k_with "qVOC" => first
    | (focus (refine' addL ?_ ?_ ?_ ?_ ?_ ?_ ?_; rotate_right 7; assumption; k_extra "MEM"; k_extra "ISL"; k_extra "MEM"; k_extra "ISL"; k_extra "OM"); intro ic1 ic2 ic3)
    | (refine is_n ?_)
    | (focus (refine' str_i ?_ ?_ ?_; rotate_right 3; assumption; assumption); intro ib1 ib2)
    | (focus (refine' tupL ?_ ?_ ?_ ?_ ?_; rotate_right 5; assumption; k_extra "MEM"; k_extra "ISL"; k_extra "OM"); intro ic1 ic2 ic3)
    | (focus (refine' ix_neg ?_ ?_ ?_ ?_ ?_ ?_ ?_ ?_ ?_; rotate_right 9; assumption; k_extra "MEM"; k_extra "ISL"; k_dflt decide; k_extra "OM"; k_extra "OM"; assumption; rotate_left; with_unfolding_all rfl))
    | (focus (refine' ne_nil ?_ ?_ ?_ ?_ ?_ ?_ ?_; rotate_right 7; assumption; k_extra "MEM"; k_extra "ISL"; k_extra "MEM"; k_extra "ISL"; (first | lia | omega)))
    | (focus (refine' ix_str ?_ ?_ ?_ ?_ ?_ ?_; rotate_right 6; k_dflt decide; k_extra "OM"; k_extra "OM"; rotate_left; with_unfolding_all rfl; (intro _; with_unfolding_all rfl)); intro ib1 ib2)
  k_with "qUNC" => first
    | (focus (refine' ao_each ?_ ?_; rotate_right 1; with_unfolding_all rfl))
    | (focus (refine' ao_eachN ?_ ?_; rotate_right 1; with_unfolding_all rfl))
  k_with "qDC" => (goal_has PySem.wpAny; first
    | ((fail_if_success fail_if_success refine tyF ?_); first | k_extra "qFLA" | k_extra "qFLB")
    | ((fail_if_success fail_if_success refine tyE ?_); first | k_extra "qVEa" | k_extra "qVEb" | k_extra "qVEB")
    | ((fail_if_success fail_if_success refine tyV ?_); first | k_extra "qVOA" | k_extra "qVOB" | k_extra "qVOC")
    | ((fail_if_success fail_if_success refine tyU ?_); first | k_extra "qUNA" | k_extra "qUNB" | k_extra "qUNC")
    | ((fail_if_success fail_if_success refine tyL ?_); first | k_extra "qLIA" | k_extra "qLIB")
    | ((fail_if_success fail_if_success refine tyB ?_); first | k_extra "qBOA")
    | ((fail_if_success fail_if_success refine tyP ?_); first | k_extra "qPRA" | k_extra "qPRB")
    | k_extra "qANDA" | k_extra "BR")
  k_with "GO" => repeat' with_reducible (first | k_extra "qDC" | k_extra "UNH" | k_extra "BR")
  k_with "W5" => with_reducible (first | k_extra "qDC" | k_extra "UNH" | k_extra "BR")
  trivial
set_option maxHeartbeats 8000000 in
theorem oper_spec {w : World} {k : Nat} (T : TermS w k) : OperS w k := by
  intro b x Z dp td hx hdp hk hz
  have hNT : 1 ≤ NT k := by cases k <;> simp only [NT] <;> (first | lia | omega)
  have hk4 : k = 0 ∨ k = 1 ∨ k = 2 ∨ k = 3 := by (first | lia | omega)
  refine CallC.of (ns := ["pool", "world", "depth", "parts", "signs", "step", "op", "kind", "value", "at"]) (gs := ["_law_pick", "_law_put", "_law_term", "range", "max"]) (rest := ["parts", "signs", "step", "op", "kind", "value", "at"]) (binds := [("pool", .ref b.P), ("world", .ref b.W), ("depth", .int dp td)]) (vs := [some (.ref b.P), some (.ref b.W), some (.int dp td), none, none, none, none, none, none, none]) (by k_is) (by k_is) (fun u_ u_ => BindsTo.of_eq rfl) (Ev.of (by decide)) (by decide) rfl rfl ?_
  intro g A ge dr os hh hd hu L' h₁ tk E V S pE
  have hd' : A.depth + 516 < recursionLimit ∧ A.units + 5160 < cLine := by
    unfold dE at hd; unfold uE at hu; rcases hk4 with rfl | rfl | rfl | rfl <;> simp at hd hu <;> (first | lia | omega)
  have hd2 : A.depth + (516 + 10 * k) < recursionLimit ∧ A.units + (5160 + 100 * k) < cLine := by
    unfold dE at hd; unfold uE at hu; (first | lia | omega)
  have hd1 := hd'.1
  have hu1 := hd'.2
  k_extra "GO"
  k_extra "W1"; intro x1 r1 t1 h1 tk1 hr0 hr1 S1 hx1 E1 n1
  k_extra "GO"
  refine max2 (by assumption) hh fun t2 h2 tk2 S2 => ?_
  refine hideG fun GG hGG => ?_
  obtain ⟨c, hc⟩ : ∃ c : Nat, (if r1 - 3 > 0 then r1 - 3 else 0) = (c : Int) := ⟨(r1 - 3).toNat, by split <;> (first | lia | omega)⟩
  have hc2 : c ≤ 2 := by split at hc <;> (first | lia | omega)
  refine hGG ?_; clear hGG GG
  rw [hc]
  k_extra "GO"
  refine range_call (by assumption) fun r ta tb h3 tk3 S3 => ?_
  refine for_range (n := c) (by passes_own) hh S3 (S3.get (memO mem_hd)) (small_one (by (first | lia | omega)) (by (first | lia | omega)) (by (first | lia | omega)) (by (first | lia | omega))) rs_up (by intro _ _; rfl)
    (fun i vs own R Z' => Ex10 fun x1 D sl us nl ss a6 a7 ro l => An10 (vs = [some (.ref b.P), some (.ref b.W), some (.int dp td), some (.ref D), some (.ref sl), a6, a7, none, none, none]) (own = [(r, ro), (sl, listOf ss.toArray 0), (D, listOf us.toArray nl)]) (R = Res b x1) (BOk w b x1 Z') (Sub Z Z') (Ext x x1 (uT l) none) (Strs ss unOps) (PAt Z' us (uP l)) (l.length = i) (∀ p ∈ l, p.1 ∈ unOps))
    ⟨_, _, _, _, _, _, _, _, _, [], rfl, rfl, rfl, by assumption, .rfl, E1, ?_, .nil, rfl, fun u_ h => nomatch h⟩ ?_ ?_
  · unfold unOps; repeat' (first | exact Strs.nil | refine Strs.cons ?_)
  · intro i t vs own R Z' h4 tk4 I ito S4 hi Hv
    refine hideG fun GG hGG => ?_
    obtain ⟨x2, D, sl, us, nl, ss, a6, a7, ro, l, rfl, rfl, rfl, hx2, hs2, E2, hss, hpa, hl, hlu⟩ := Hv
    have n2 := E2.len
    have n3 : (uT l).length = i := by simp [uT, hl]
    have n6 : us.length = i := by have := hpa.length; simpa [uP, hl] using this
    refine hGG ?_; clear hGG GG
    k_extra "GO"
    k_extra "W1"; intro x3 r3 t3 h5 tk5 hq0 hq1 S5 hx3 E3 n4
    refine hideG fun GG hGG => ?_
    obtain ⟨y, ty, hy1, hy2⟩ := hss.nth (i := r3.toNat) (by show _ < 11; (first | lia | omega))
    refine hGG ?_; clear hGG GG
    k_extra "GO"
    k_extra "W2"; intro x4 at4 t4 Z4 h6 tk6 S6 hx4 hs4 E4 n5
    k_extra "GO"
    (repeat' with_reducible k_extra "UNH"); (try dsimp only [TurnEnd])
    refine ⟨_, _, _, _, _, _, rfl, by assumption, x4, D, sl, _, _, ss, _, _, _, l ++ [(y, at4)], rfl, rfl, rfl, hx4.up (Sub.tl .rfl), (hs2.trans hs4).tl, ?_, hss, ?_, by simp [hl], ?_⟩
    · have := (E2.trans E3).trans E4
      simpa [uT] using this
    · rw [show uP (l ++ [(y, at4)]) = uP l ++ [.un y at4] from by simp [uP]]
      exact PAt.snoc ((hpa.up hs4).up (Sub.tl .rfl)) (.tup mem_hd IsT.of (.cons (.str _ _) (.cons (.str _ _) (.cons (.int _ _) .nil))))
    · intro p hp
      rcases List.mem_append.mp hp with q | q
      · exact hlu p q
      · simp only [List.mem_singleton] at q; subst q; exact List.mem_of_getElem? hy2
  · intro vs own R Z' h4 tk4 S4 Hv
    refine hideG fun GG hGG => ?_
    obtain ⟨x2, D, sl, us, nl, ss, a6, a7, ro, l, rfl, rfl, rfl, hx2, hs2, E2, hss, hpa, hl, hlu⟩ := Hv
    have n2 := E2.len
    have n3 : (uT l).length = c := by simp [uT, hl]
    have n6 : us.length = c := by have := hpa.length; simpa [uP, hl] using this
    have hwo := hx2.wo
    refine hGG ?_; clear hGG GG
    k_extra "GO"
    have hD5 := ie4
    have S5 := ie5
    refine hideG fun GG hGG => ?_
    obtain ⟨x3, hx3, e3, e4, e5⟩ := hx2.setW hD5 hx2.bd
    have E3 : Ext x x3 (uT l) none := ⟨by rw [e4, E2.tl], by rw [e5, E2.bad]⟩
    have n4 : x3.tl.length = x2.tl.length := by rw [e4]
    replace S5 : St w g L' _ _ _ (Res b x3) Z' _ := e3 ▸ S5
    refine hGG ?_; clear hGG GG
    k_extra "W1"; intro x4 r4 t4 h6 tk6 hr2 hr3 S6 hx4 E4 n5
    k_extra "GO"
    refine ite_dec (fun hr => ?_) (fun hr => ?_)
    · k_extra "GO"
      k_extra "W1"; intro x5 r5 t5 h7 tk7 hr4 hr5 S7 hx5 E5 n6
      refine hideG fun GG hGG => ?_
      obtain ⟨pa, pk, pv, pt, pu, he1, he2, he3⟩ := pick4 S7 hr4 hr5
      refine hGG ?_; clear hGG GG
      k_extra "GO"
      k_extra "W2"; intro x6 at6 t6 Z6 h8 tk8 S8 hx6 hs6 E6 n7
      have hwo6 := hx6.wo
      have E7 := (((E3.trans E4).trans E5).trans E6)
      have hpa6 := (hpa.up (((Sub.tl (.tl (.tl (.tl .rfl)))) : Sub Z' _).trans hs6))
      have hsZ := hs2.trans (((Sub.tl (.tl (.tl (.tl .rfl)))) : Sub Z' _).trans hs6)
      have hog := uOp (X := GX (2 * k)) (.term (d := .none) (k := at6) (.bad (at_ := at6) he2)) l hlu
      k_extra "GO"
      refine ite_bool (fun hb => ?_) (fun hb => ?_)
      · have hbn := hx6.bd.none_inv (by simpa using hb)
        k_extra "GO"
        refine Ret1.st (St.give (by assumption)) ?_
        obtain ⟨x7, hx7, e7, e8, e9⟩ := (hx6.up (Sub.tl (.tl .rfl))).setW (by assumption) (BadIs.some (at_ := at6) (.tup (mem_tl mem_hd) IsT.of (.cons (.str _ _) (.cons (.int _ _) .nil))))
        refine ⟨x7, [(_, _)], uT l ++ [⟨pk, .str pv, at6⟩], some at6, by rw [e7]; rfl, hx7, hsZ.tl.tl, ⟨?_, ?_⟩, ?_, _, _, _, uP l ++ [.term .none at6], _, rfl, rfl, ?_, hog, ?_, fun d' j hm => by rw [one_term (d := .none) (j := at6) hm]; exact .none⟩
        · rw [e8, E7.tl]; simp
        · have := E7.bad
          rw [hbn] at this
          rw [e9, show x.bad = none from by simpa using this.symm]; rfl
        · simp [uT, hl]; (first | lia | omega)
        · exact (hpa6.up (Sub.tl (.tl .rfl))).snoc (.tup mem_hd IsT.of (.cons (.str _ _) (.cons .none (.cons (.int _ _) .nil))))
        · simp [uP, hl]; (first | lia | omega)
      · obtain ⟨ba, hba⟩ := hx6.bd.some_inv (by simpa using hb)
        k_extra "GO"
        refine Ret1.st (St.give (by assumption)) ?_
        refine ⟨x6, [(_, _)], uT l ++ [⟨pk, .str pv, at6⟩], some at6, rfl, hx6.up (Sub.tl .rfl), hsZ.tl, ⟨?_, ?_⟩, ?_, _, _, _, uP l ++ [.term .none at6], _, rfl, rfl, ?_, hog, ?_, fun d' j hm => by rw [one_term (d := .none) (j := at6) hm]; exact .none⟩
        · rw [E7.tl]; simp
        · have := E7.bad
          rw [hba] at this ⊢
          rw [show x.bad = some ba from by simpa using this.symm]; rfl
        · simp [uT, hl]; (first | lia | omega)
        · exact (hpa6.up (Sub.tl .rfl)).snoc (.tup mem_hd IsT.of (.cons (.str _ _) (.cons .none (.cons (.int _ _) .nil))))
        · simp [uP, hl]; (first | lia | omega)
    · k_extra "GO"
      refine St.useT (by assumption) (T b x4 _ dp td hx4 hdp hk (by (first | lia | omega))) hh (by first | exact dlti hd2.1 (by k_extra "DLE") | (unfold dE at hd ⊢; (first | lia | omega))) (by first | exact dlti hd2.2 (by k_extra "DLE") | (unfold uE at hu ⊢; (first | lia | omega))) fun qH kH v x5 ts e d Z5 h7 tk7 S7 hx5 hs5 E5 hn5 ht hg hf => ?_
      k_extra "GO"
      refine Ret1.st (St.give (by assumption)) ?_
      refine ⟨x5, [(_, _)], uT l ++ ts, e, rfl, hx5.up (Sub.tl .rfl), (hs2.trans hs5).tl, by first | exact ((E3.trans E4).trans E5) | simpa using ((E3.trans E4).trans E5), ?_, _, _, _, uP l ++ [.term d 0], _, rfl, rfl, ?_, uOp (.term hg) l hlu, ?_, fun d' j hm => by rw [one_term (d := d) (j := 0) hm]; exact hf⟩
      · rw [List.length_append, n3]; (first | lia | omega)
      · exact ((hpa.up hs5).up (Sub.tl .rfl)).snoc (.tup mem_hd IsT.of (.cons (.str _ _) (.cons ht.tl (.cons (.int _ _) .nil))))
      · simp [uP, hl]; (first | lia | omega)

set_option maxHeartbeats 8000000 in
theorem list_spec {w : World} {k : Nat} (T : ExprS w k) : ListS w k := by
  intro b x Z dp td tc c hx hdp hk hc hz
  refine CallC.of (ns := ["pool", "world", "depth", "count", "items", "step"]) (gs := ["_law_put", "_law_expression", "range", "tuple"]) (rest := ["items", "step"]) (binds := [("pool", .ref b.P), ("world", .ref b.W), ("depth", .int dp td), ("count", .int c tc)]) (vs := [some (.ref b.P), some (.ref b.W), some (.int dp td), some (.int c tc), none, none]) (by k_is) (by k_is) (fun u_ u_ => BindsTo.of_eq rfl) (Ev.of (by decide)) (by decide) rfl rfl ?_
  intro g A ge dr os hh hd hu L' h₁ tk E V S pE
  have hd' : A.depth + 520 < recursionLimit ∧ A.units + 5200 < cLine := by
    unfold dE at hd; unfold uE at hu; (first | lia | omega)
  have hd2 : A.depth + (522 + 10 * k) < recursionLimit ∧ A.units + (5220 + 100 * k) < cLine := by
    unfold dE at hd; unfold uE at hu; (first | lia | omega)
  have hd1 := hd'.1
  have hu1 := hd'.2
  k_extra "GO"
  refine range_call (by assumption) fun r ta tb h3 tk3 S3 => ?_
  refine for_range (n := c) (by passes_own) hh S3 (S3.get (memO mem_hd)) (small_one (by (first | lia | omega)) (by (first | lia | omega)) (by (first | lia | omega)) (by (first | lia | omega))) rs_up (by intro _ _; rfl)
    (fun i vs own R Z' => Ex9 fun x1 D us nl a6 ro ts ds e => An11 (vs = [some (.ref b.P), some (.ref b.W), some (.int dp td), some (.int c tc), some (.ref D), a6]) (own = [(r, ro), (D, listOf us.toArray nl)]) (R = Res b x1) (BOk w b x1 Z') (Sub Z Z') (Ext x x1 ts e) (TrL Z' us ds) (us.length = i) (ts.length ≤ i * (NE k + 1)) (((i = 0 ∧ ts = [] ∧ ds = [] ∧ e = none) ∨ (0 < i ∧ GItems (GX (2 * k + 2)) ts ds e))) (∀ d ∈ ds, Fine (DE k) d))
    ⟨_, _, _, _, _, _, [], [], none, rfl, rfl, rfl, hx, .rfl, .rfl, .nil, rfl, Nat.zero_le _, .inl ⟨rfl, rfl, rfl, rfl⟩, all_nil⟩ ?_ ?_
  · intro i t vs own R Z' h4 tk4 I ito S4 hi Hv
    refine hideG fun GG hGG => ?_
    obtain ⟨x2, D, us, nl, a6, ro, ts, ds, e, rfl, rfl, rfl, hx2, hs2, E2, htr, hl, hlen, hg, hfi⟩ := Hv
    have n2 := E2.len
    have hm : (i + 1) * (NE k + 1) ≤ c * (NE k + 1) := Nat.mul_le_mul_right _ hi
    rw [Nat.succ_mul] at hm
    refine hGG ?_; clear hGG GG
    k_extra "GO"
    refine ite_dec (fun hr => ?_) (fun hr => ?_)
    · k_extra "GO"
      k_extra "W2"; intro x3 at3 t3 Z3 h5 tk5 S5 hx3 hs3 E3 n3
      k_extra "GO"
      refine St.useT (by assumption) (T b x3 _ (dp + 1) _ hx3 (by (first | lia | omega)) (by (first | lia | omega)) (by (first | lia | omega))) hh (by first | exact dlti hd2.1 (by k_extra "DLE") | k_extra "DPT") (by first | exact dlti hd2.2 (by k_extra "DLE") | k_extra "DPT") fun qH kH v x5 ts5 e5 d Z5 h7 tk7 S7 hx5 hs5 E5 hn5 ht hgx hf => ?_
      k_extra "GO"
      (repeat' with_reducible k_extra "UNH"); (try dsimp only [TurnEnd])
      rcases hg with ⟨rfl, _⟩ | ⟨_, hg⟩
      · (first | lia | omega)
      refine ⟨_, _, _, _, _, _, rfl, by assumption, x5, D, _, _, _, _, ts ++ op "," at3 :: ts5, ds ++ [d], _, rfl, rfl, rfl, hx5, hs2.trans (hs3.trans hs5), by first | exact (E2.trans E3).trans E5 | simpa using (E2.trans E3).trans E5, (htr.up (hs3.trans hs5)).append (.cons ht .nil), by simp [hl], ?_, .inr ⟨by (first | lia | omega), hg.snoc hgx⟩, ?_⟩
      · rw [Nat.succ_mul, List.length_append, List.length_cons]; (first | lia | omega)
      · intro d' hd'
        rcases List.mem_append.mp hd' with q | q
        · exact hfi d' q
        · simp only [List.mem_singleton] at q; subst q; exact hf
    · k_extra "GO"
      refine hideG fun GG hGG => ?_
      have hi0 : i = 0 := by (first | lia | omega)
      subst hi0
      refine hGG ?_; clear hGG GG
      refine St.useT (by assumption) (T b x2 _ (dp + 1) _ hx2 (by (first | lia | omega)) (by (first | lia | omega)) (by (first | lia | omega))) hh (by first | exact dlti hd2.1 (by k_extra "DLE") | k_extra "DPT") (by first | exact dlti hd2.2 (by k_extra "DLE") | k_extra "DPT") fun qH kH v x5 ts5 e5 d Z5 h7 tk7 S7 hx5 hs5 E5 hn5 ht hgx hf => ?_
      k_extra "GO"
      (repeat' with_reducible k_extra "UNH"); (try dsimp only [TurnEnd])
      rcases hg with ⟨_, rfl, rfl, rfl⟩ | ⟨h0, _⟩
      · refine ⟨_, _, _, _, _, _, rfl, by assumption, x5, D, _, _, _, _, ts5, [d], e5, rfl, rfl, rfl, hx5, hs2.trans hs5, by first | exact E2.trans E5 | simpa using E2.trans E5, (htr.up hs5).append (.cons ht .nil), by simp [hl], by (first | lia | omega), .inr ⟨by (first | lia | omega), ?_⟩, all_cons hf all_nil⟩
        have := GItems.mk hgx (GMore.nil)
        simpa using this
      · (first | lia | omega)
  · intro vs own R Z' h4 tk4 S4 Hv
    refine hideG fun GG hGG => ?_
    obtain ⟨x2, D, us, nl, a6, ro, ts, ds, e, rfl, rfl, rfl, hx2, hs2, E2, htr, hl, hlen, hg, hfi⟩ := Hv
    refine hGG ?_; clear hGG GG
    k_extra "GO"
    (repeat' with_reducible k_extra "UNH"); k_extra "RETC"
    refine ⟨x2, [], ts, e, rfl, hx2.up (Sub.tl .rfl), hs2.tl, E2, hlen, rfl, ds, .tup mem_hd IsT.of htr.tl, ?_, ?_, hfi⟩
    · rcases hg with ⟨_, rfl, rfl, rfl⟩ | ⟨_, hg⟩
      · exact .nil
      · exact .some hg
    · intro h0
      rcases hg with ⟨rfl, _⟩ | ⟨_, hg⟩
      · (first | lia | omega)
      · exact hg

theorem np_le : ∀ k, k ≤ 3 → NP k ≤ 483 := by intro k hk; have : k = 0 ∨ k = 1 ∨ k = 2 ∨ k = 3 := by (first | lia | omega)
                                              rcases this with rfl | rfl | rfl | rfl <;> decide
theorem de_dt : ∀ k, k ≤ 3 → DT k + NP k ≤ DE k := by intro k hk; have : k = 0 ∨ k = 1 ∨ k = 2 ∨ k = 3 := by (first | lia | omega)
                                                      rcases this with rfl | rfl | rfl | rfl <;> decide
set_option maxHeartbeats 8000000 in
theorem expr_spec {w : World} {k : Nat} (T : RowS w k) : ExprS w k := by
  intro b x Z dp td hx hdp hk hz
  have hnp := np_le k hk
  have hdt := de_dt k hk
  refine CallC.of (ns := ["pool", "world", "depth"]) (gs := ["_law_reading", "_law_row"]) (rest := []) (binds := [("pool", .ref b.P), ("world", .ref b.W), ("depth", .int dp td)]) (vs := [some (.ref b.P), some (.ref b.W), some (.int dp td)]) (by k_is) (by k_is) (fun u_ u_ => BindsTo.of_eq rfl) (Ev.of (by decide)) (by decide) rfl rfl ?_
  intro g A ge dr os hh hd hu L' h₁ tk E V S pE
  k_extra "GO"
  refine S.useR (T b x _ dp td hx hdp hk hz) hh (by first | exact dlti hd2.1 (by k_extra "DLE") | (unfold dE at hd ⊢; (first | lia | omega))) (by first | exact dlti hd2.2 (by k_extra "DLE") | (unfold uE at hu ⊢; (first | lia | omega))) fun qH kH x5 ts e l n us ps Z5 h7 tk7 S7 hx5 hs5 E5 hn5 hpa hg hlp hfi => ?_
  obtain ⟨⟨d, hrd, hge⟩, _⟩ := hg.good
  have S8 := S7.take.frz
  k_extra "GO"
  refine S8.useC3 (reading_spec _ ps d _ _ l _ us hrd mem_hd IsL.of (hpa.up (Sub.tl .rfl)) (by (first | lia | omega))) hh (by unfold dE at hd; (first | lia | omega)) (by unfold uE at hu; (first | lia | omega)) fun qH kH v Z6 h9 tk9 S9 hs6 ht => ?_
  (repeat' with_reducible k_extra "UNH"); k_extra "RETC"
  exact ⟨x5, [], ts, e, rfl, hx5.up ((Sub.tl .rfl).trans hs6), hs5.trans ((Sub.tl .rfl).trans hs6), E5, hn5, rfl, d, ht, hge, (hrd.fine hfi).le (by (first | lia | omega))⟩

noncomputable def cntR (k : Nat) : Nat := if k = 3 then 4 else 2
noncomputable def SP : Nat → Nat
  | 0 => 8
  | k + 1 => 5 + NP k
theorem np_eq (k : Nat) : NP k = 3 + cntR k * SP k := by
  cases k with
  | zero => rfl
  | succ k => simp only [NP, SP, cntR, Nat.add_left_cancel_iff, show (k + 1 = 3) = (k = 2) from by simp]
theorem ne_eq' (k : Nat) : NE k = (NT k + 2) + cntR k * (2 + 2 * (NT k + 2)) := by
  cases k with
  | zero => rfl
  | succ k => simp only [NE, NT, cntR, show (k + 1 = 3) = (k = 2) from by simp]
theorem dt_mono : ∀ k, DT k ≤ DT (k + 1) := by
  intro k
  cases k with
  | zero => decide
  | succ k => simp only [DT, DE]; (first | lia | omega)
theorem jn_le (i : Nat) : ((bindTab.take i).foldl (· ++ ·) ([] : List Str)).length ≤ 25 := by
  rcases Nat.lt_or_ge i 12 with h | h
  · revert i; decide +kernel
  · rw [List.take_of_length_le (Nat.le_trans (by decide : bindTab.length ≤ 12) h)]; decide +kernel
theorem sp_ge (k : Nat) : 8 ≤ SP k := by cases k with
  | zero => decide
  | succ k => simp only [SP]; cases k with
    | zero => decide
    | succ k => simp only [NP]; (first | lia | omega)
theorem joined : (bindTab.foldl (· ++ ·) []) = joinOps := by decide +kernel
set_option maxHeartbeats 8000000 in
theorem row_spec {w : World} {k : Nat} (T : OperS w k) (I : ∀ j, k = j + 1 → RowS w j) : RowS w k := by
  intro b x Z dp td hx hdp hk hz
  have hnp := np_eq k
  have hne := ne_eq' k
  have hnpl := np_le k hk
  refine CallC.of (ns := ["pool", "world", "depth", "count", "parts", "joins", "row", "step", "op"]) (gs := ["_law_pick", "_law_operand", "_law_bindings", "range", "_law_put", "_law_row", "len"]) (rest := ["count", "parts", "joins", "row", "step", "op"]) (binds := [("pool", .ref b.P), ("world", .ref b.W), ("depth", .int dp td)]) (vs := [some (.ref b.P), some (.ref b.W), some (.int dp td), none, none, none, none, none, none]) (by k_is) (by k_is) (fun u_ u_ => BindsTo.of_eq rfl) (Ev.of (by decide)) (by decide) rfl rfl ?_
  intro g A ge dr os hh hd hu L' h₁ tk E V S pE
  have hd' : A.depth + 518 < recursionLimit ∧ A.units + 5180 < cLine := by
    unfold dE at hd; unfold uE at hu; (first | lia | omega)
  have hd2 : A.depth + (518 + 10 * k) < recursionLimit ∧ A.units + (5180 + 100 * k) < cLine := by
    unfold dE at hd; unfold uE at hu; (first | lia | omega)
  have hd1 := hd'.1
  have hu1 := hd'.2
  (repeat' with_reducible k_extra "UNH"); refine wpAny_execs_cons ?_
  refine cutN (fun s1 => ∃ c : Nat, ∃ t x1 h1 tk1, s1 = ⟨h1, ge, dr, tk1, os⟩ ∧ c ≤ cntR k ∧ St w g L' ["pool", "world", "depth", "count", "parts", "joins", "row", "step", "op"] [some (.ref b.P), some (.ref b.W), some (.int dp td), some (.int c t), none, none, none, none, none] [] (Res b x1) Z h1 ∧ BOk w b x1 Z ∧ Ext x x1 [] none ∧ x1.tl.length = x.tl.length) ?_ ?_
  · k_extra "GO"
    refine ite_dec (fun hr => ?_) (fun hr => ?_)
    · k_extra "GO"
      k_extra "W1"; intro x1 r1 t1 h1 tk1 hr0 hr1 S1 hx1 E1 n1
      k_extra "GO"
      refine ⟨rfl, r1.toNat, t1, x1, _, _, rfl, ?_, ?_, hx1, E1, n1⟩
      · unfold cntR; rw [if_pos (by (first | lia | omega))]; (first | lia | omega)
      · rw [Int.toNat_of_nonneg hr0]; assumption
    · k_extra "GO"
      k_extra "W1"; intro x1 r1 t1 h1 tk1 hr0 hr1 S1 hx1 E1 n1
      k_extra "GO"
      refine ⟨rfl, r1.toNat, t1, x1, _, _, rfl, ?_, ?_, hx1, E1, n1⟩
      · unfold cntR; split <;> (first | lia | omega)
      · rw [Int.toNat_of_nonneg hr0]; assumption
  rintro _ ⟨c, ct, x1, h1, tk1, rfl, hc, S1, hx1, E1, n1⟩
  k_extra "GO"
  refine S1.useO (T b x1 _ dp td hx1 hdp hk (by (first | lia | omega))) hh (by first | exact dlti hd2.1 (by k_extra "DLE") | (unfold dE at hd ⊢; (first | lia | omega))) (by first | exact dlti hd2.2 (by k_extra "DLE") | (unfold uE at hu ⊢; (first | lia | omega))) fun qH kH x5 ts e l n us ps d Z5 h7 tk7 S7 hx5 hs5 E5 hn5 hpa hog hlp hfi => ?_
  have S8 := S7.take
  k_extra "GO"
  refine St.useH (by assumption) bindings_spec hh (by first | exact dlti hd2.1 (by k_extra "DLE") | k_extra "DPT") (by first | exact dlti hd2.2 (by k_extra "DLE") | k_extra "DPT") fun qH kH v1 R1 Z1 h6 tk6 S6 P1 => ?_
  obtain ⟨l1, rfl, hR1, hs1, lo1, rs1, hl1, hi1, hrows⟩ := P1
  subst hR1
  with_reducible k_extra "UNH"
  refine for_list (by passes_own) hh S6 (memZ hl1) hi1 (by intro _ _; rfl)
    (fun i vs own R' Z' => R' = Res b x5 ∧ Z' = Z1 ∧ Ex5 fun a7 jl js nj xs => An4 (vs = [some (.ref b.P), some (.ref b.W), some (.int dp td), some (.int c ct), some (.ref l), some (.ref jl), a7, none, none]) (own = [(jl, listOf js.toArray nj), (l, listOf us.toArray n)]) (Strs js xs) (xs = (bindTab.take i).foldl (· ++ ·) []))
    (fun i vs own R' Z' q => memZ (q.2.1 ▸ hl1)) ⟨rfl, rfl, _, _, _, _, [], rfl, rfl, .nil, rfl⟩ ?_ ?_
  · intro i v vs own R' Z' h tk It ito S9 hv Hv
    refine hideG fun GG hGG => ?_
    obtain ⟨rfl, rfl, a7, jl, js, nj, xs, rfl, rfl, hjs, hxs⟩ := Hv
    obtain ⟨ra, rn, rus, ys, rfl, hys, hra, hstr⟩ := hrows.getL hv
    have hj : (bindTab.take (i + 1)).foldl (· ++ ·) [] = (bindTab.take i).foldl (· ++ ·) [] ++ ys := by
      rw [List.take_add_one, hys]; simp
    refine hGG ?_; clear hGG GG
    k_extra "GO"
    refine iaddO (by assumption) (.tail .head) (memZ hra) ?_ fun h9 n9 S9 => ?_
    · have := jn_le (i + 1)
      rw [hj, ← hxs, List.length_append, ← hjs.length, ← hstr.length] at this
      (first | lia | omega)
    k_extra "GO"
    (repeat' with_reducible k_extra "UNH"); (try dsimp only [TurnEnd])
    refine ⟨_, _, _, _, _, _, rfl, by assumption, rfl, rfl, _, _, _, _, xs ++ ys, rfl, rfl, hjs.append hstr, ?_⟩
    rw [hj, hxs]
  · intro vs own R' Z' h tk S9 Hv
    refine hideG fun GG hGG => ?_
    obtain ⟨rfl, rfl, a7, jl, js, nj, xs, rfl, rfl, hjs, hxs⟩ := Hv
    refine hGG ?_; clear hGG GG
    k_extra "GO"
    refine hideG fun GG hGG => ?_
    rw [hrows.length, List.take_length, joined] at hxs
    subst hxs
    have hjl : js.length = 25 := by rw [hjs.length]; decide
    have hsz1 := hs5.trans hs1
    refine hGG ?_; clear hGG GG
    refine range_call (by assumption) fun r ta tb h3 tk3 S3 => ?_
    refine for_range (n := c) (by passes_own) hh S3 (S3.get (memO mem_hd)) (small_one (by (first | lia | omega)) (by (first | lia | omega)) (by unfold cntR at hc; split at hc <;> (first | lia | omega)) (by unfold cntR at hc; split at hc <;> (first | lia | omega))) rs_up (by intro _ _; rfl)
      (fun i vs own R Z' => Ex10 fun x6 us nl ps ts e a7 a8 a9 ro => An11 (vs = [some (.ref b.P), some (.ref b.W), some (.int dp td), some (.int c ct), some (.ref l), some (.ref jl), a7, a8, a9]) (own = [(r, ro), (jl, listOf js.toArray nj), (l, listOf us.toArray nl)]) (R = Res b x6) (BOk w b x6 Z') (Sub Z Z') (Ext x x6 ts e) (PAt Z' us ps) (RowG (GX (2 * k + 1)) ps ts e) (ps.length ≤ 3 + i * SP k) (ts.length ≤ (NT k + 2) + i * (2 + 2 * (NT k + 2))) (∀ d' j, Part.term d' j ∈ ps → Fine (DT k) d'))
      ⟨x5, us, n, ps, ts, e, _, _, _, _, rfl, rfl, rfl, hx5.up hs1, hsz1, by first | exact E1.trans E5 | simpa using E1.trans E5, hpa.up hs1, .one (hog.mono fun u_ u_ u_ => GX.succ), by (first | lia | omega), by (first | lia | omega), hfi⟩ ?_ ?_
    · intro i t vs own R Z' h4 tk4 I2 ito S4 hi Hv
      refine hideG fun GG hGG => ?_
      obtain ⟨x6, us, nl, ps, ts, e, a7, a8, a9, ro, rfl, rfl, rfl, hx6, hs6, E6, hpa6, hrg, hpl, htl, hfi⟩ := Hv
      have n6 := E6.len
      have m1 : (i + 1) * SP k ≤ cntR k * SP k := Nat.mul_le_mul_right _ (Nat.le_trans hi hc)
      have m2 : (i + 1) * (2 + 2 * (NT k + 2)) ≤ cntR k * (2 + 2 * (NT k + 2)) := Nat.mul_le_mul_right _ (Nat.le_trans hi hc)
      rw [Nat.succ_mul] at m1 m2
      have hul : us.length = ps.length := by have := hpa6.length; simpa using this
      refine hGG ?_; clear hGG GG
      k_extra "W4"
      (repeat' with_reducible k_extra "UNH"); refine wpAny_execs_cons ?_
      refine cutN (fun s1 => Ex11 fun x9 us9 n9 ps9 ts9 e9 a8 a9 Z9 h9 tk9 => An10 (s1 = ⟨h9, ge, dr, tk9, os⟩) (St w g L' ["pool", "world", "depth", "count", "parts", "joins", "row", "step", "op"] [some (.ref b.P), some (.ref b.W), some (.int dp td), some (.int c ct), some (.ref l), some (.ref jl), a7, a8, a9] [(I2, ito), (r, ro), (jl, listOf js.toArray nj), (l, listOf us9.toArray n9)] (Res b x9) Z9 h9) (BOk w b x9 Z9) (Sub Z' Z9) (Ext x x9 ts9 e9) (PAt Z9 us9 ps9) (ps9.length + 3 ≤ 3 + (i + 1) * SP k) (ts9.length + (NT k + 2) ≤ (NT k + 2) + (i + 1) * (2 + 2 * (NT k + 2))) ((∀ d' j, Part.term d' j ∈ ps9 → Fine (DT k) d')) (∀ ps' ts' d' e', OpG (GX (2 * k + 1)) ps' ts' d' e' → RowG (GX (2 * k + 1)) (ps9 ++ ps') (ts9 ++ ts') (e9.or e'))) ?_ ?_
      · k_extra "GO"
        k_extra "W1"; intro x7 r7 t7 h7 tk7 hr0 hr1 S7 hx7 E7 n7
        k_extra "GO"
        refine ite_dec (fun hr => ?_) (fun hr => ?_)
        · k_extra "GO"
          k_extra "W2"; intro x8 at8 t8 Z8 h8 tk8 S8 hx8 hs8 E8 n8
          k_extra "GO"
          obtain ⟨lq, rfl⟩ : ∃ x, x = ic1 := ⟨_, rfl⟩
          have Sq := ic3
          have Sa := ib2
          refine ite_cut (fun (v : Value) (s' : Shared) => Ex11 fun l2 n2 us2 cps cts dc ec x9 Z9 h9 tk9 => An13 (v = Value.ref l2) (s' = ⟨h9, ge, dr, tk9, os⟩) (St w g L' ["pool", "world", "depth", "count", "parts", "joins", "row", "step", "op"] [some (.ref b.P), some (.ref b.W), some (.int dp td), some (.int c ct), some (.ref l), some (.ref jl), a7, some (.int (0 + (i : Int) * 1) t), a9] [(l2, listOf us2.toArray n2), (I2, ito), (r, ro), (jl, listOf js.toArray nj), (l, listOf (us ++ [Value.ref lq]).toArray (nl + 1))] (Res b x9) Z9 h9) (BOk w b x9 Z9) ((∃ t1 t2, Sub ((lq, tupOf [.str "?" t1, .str "" t2, .int at8 t8]) :: Z8) Z9)) (Ext x8 x9 cts ec) (PAt Z9 us2 cps) (Rd cps.length cps dc) (Bal cps) (GX (2 * k + 1) cts dc ec) (cps.length + 5 ≤ SP k) (cts.length ≤ NT k + 2) ((∀ d' j, Part.term d' j ∈ cps → Fine (DT k) d'))) (fun hc2 => ?_) (fun hc2 => ?_) ?_
          · have hk2 : 2 ≤ k := by have := of_decide_eq_true hc2; (first | lia | omega)
            refine hideG fun GG hGG => ?_
            obtain ⟨j, rfl⟩ : ∃ j, k = j + 1 := ⟨k - 1, by (first | lia | omega)⟩
            refine hGG ?_; clear hGG GG
            k_extra "GO"
            refine St.useR (by assumption) (I j rfl b x8 _ (dp + 1) _ (hx8.up (Sub.tl .rfl)) (by (first | lia | omega)) (by (first | lia | omega)) (by simp only [NT] at *; (first | lia | omega))) hh (by first | exact dlti hd2.1 (by k_extra "DLE") | (unfold dE at hd ⊢; (first | lia | omega))) (by first | exact dlti hd2.2 (by k_extra "DLE") | (unfold uE at hu ⊢; (first | lia | omega))) fun qH kH x9 cts ec l2 n2 us2 cps Z5 h7 tk7 S7 hx9 hs9 E9 hn9 hpa9 hrg9 hlp9 hfi9 => ?_
            obtain ⟨⟨dc, hrd, hge⟩, hbal⟩ := hrg9.good
            with_reducible k_extra "UNH"
            exact ⟨l2, n2, us2, cps, cts, dc, ec, x9, Z5, h7, tk7, rfl, rfl, S7.take, hx9, ⟨_, _, hs9⟩, E9, hpa9, hrd, hbal, GX.le (n := 2 * j + 2) (by (first | lia | omega)) hge, by simp only [SP]; (first | lia | omega), by simp only [NT]; (first | lia | omega), fun d' j' hm => (hfi9 d' j' hm).le (dt_mono j)⟩
          · k_extra "GO"
            refine St.useO (by assumption) (T b x8 _ dp _ (hx8.up (Sub.tl .rfl)) hdp hk (by (first | lia | omega))) hh (by first | exact dlti hd2.1 (by k_extra "DLE") | (unfold dE at hd ⊢; (first | lia | omega))) (by first | exact dlti hd2.2 (by k_extra "DLE") | (unfold uE at hu ⊢; (first | lia | omega))) fun qH kH x9 cts ec l2 n2 us2 cps dc Z5 h7 tk7 S7 hx9 hs9 E9 hn9 hpa9 hog9 hlp9 hfi9 => ?_
            with_reducible k_extra "UNH"
            exact ⟨l2, n2, us2, cps, cts, dc, ec, x9, Z5, h7, tk7, rfl, rfl, S7.take, hx9, ⟨_, _, hs9⟩, E9, hpa9, hog9.rd, hog9.plain.2.2, hog9.ge, by have := sp_ge k; (first | lia | omega), hn9, hfi9⟩
          · rintro v s1 ⟨l2, n2, us2, cps, cts, dc, ec, x9, Z9, h9, tk9, rfl, rfl, S9, hx9, ⟨t1, t2, hs9⟩, E9, hpa9, hrd9, hbal9, hgx9, hlp9, hlt9, hfi9⟩
            have n9 := E9.len
            have hl9 : us2.length = cps.length := by have := hpa9.length; simpa using this
            refine iaddO (by assumption) (.tail (.tail (.tail (.tail .head)))) (memO mem_hd) (by rw [List.length_append, List.length_singleton]; (first | lia | omega)) fun h10 n10 S10 => ?_
            k_extra "GO"
            k_extra "W2"; intro x11 at11 t11 Z11 h11 tk11 S11 hx11 hs11 E11 n11
            k_extra "GO"
            refine ⟨rfl, x11, _, _, ps ++ .quest at8 :: (cps ++ [.colon at11]), ts ++ op "?" at8 :: (cts ++ [op ":" at11]), e.or ec, _, _, _, _, _, rfl, St.drop (by assumption) (.cons _ (List.Sublist.refl _)), hx11.up (Sub.tl .rfl), hs8.trans ((Sub.tl .rfl).trans (hs9.trans hs11.tl)), ?_, ?_, ?_, ?_, ?_, ?_⟩
            · have := (((E6.trans E7).trans E8).trans E9).trans E11
              simpa using this
            · have q1 := ((hpa6.up (hs8.trans (Sub.tl .rfl))).snoc (p := .quest at8) (.tup mem_hd IsT.of (.cons (.str _ _) (.cons (.str _ _) (.cons (.int _ _) .nil))))).up hs9
              rw [show ps ++ .quest at8 :: (cps ++ [.colon at11]) = (ps ++ [.quest at8] ++ cps) ++ [.colon at11] from by simp]
              exact PAt.snoc ((q1.append hpa9).up (hs11.trans (.tl .rfl))) (.tup mem_hd IsT.of (.cons (.str _ _) (.cons (.str _ _) (.cons (.int _ _) .nil))))
            · rw [Nat.succ_mul]; simp only [List.length_append, List.length_cons, List.length_nil]; (first | lia | omega)
            · rw [Nat.succ_mul]; simp only [List.length_append, List.length_cons, List.length_nil]; (first | lia | omega)
            · exact term_app hfi (term_no (fun u_ u_ h => nomatch h) (term_app hfi9 (term_no (fun u_ u_ h => nomatch h) term_nil)))
            · intro ps' ts' d' e' ho
              have := RowG.quest (a := at8) (b := at11) hrg hrd9 hbal9 hgx9 ho
              simpa [Option.or_assoc] using this
        · k_extra "GO"
          rw [hjl]
          k_extra "W1"; intro x8 r8 t8 h8 tk8 hr2 hr3 S8 hx8 E8 n8
          refine hideG fun GG hGG => ?_
          obtain ⟨y, ty, hy1, hy2⟩ := hjs.nth (i := r8.toNat) (by show _ < 25; (first | lia | omega))
          refine hGG ?_; clear hGG GG
          k_extra "GO"
          k_extra "W2"; intro x9 at9 t9 Z9 h9 tk9 S9 hx9 hs9 E9 n9
          k_extra "GO"
          refine ⟨rfl, x9, _, _, ps ++ [.bin y at9], ts ++ [op y at9], e, _, _, _, _, _, rfl, by assumption, hx9.up (Sub.tl .rfl), hs9.tl, ?_, ?_, ?_, ?_, ?_, ?_⟩
          · have := ((E6.trans E7).trans E8).trans E9
            simpa using this
          · exact (hpa6.up (hs9.trans (Sub.tl .rfl))).snoc (p := .bin y at9) (.tup mem_hd IsT.of (.cons (.str _ _) (.cons (.str _ _) (.cons (.int _ _) .nil))))
          · have := sp_ge k
            rw [Nat.succ_mul]; simp only [List.length_append, List.length_cons, List.length_nil]; (first | lia | omega)
          · rw [Nat.succ_mul]; simp only [List.length_append, List.length_cons, List.length_nil]; (first | lia | omega)
          · exact term_app hfi (term_no (fun u_ u_ h => nomatch h) term_nil)
          · intro ps' ts' d' e' ho
            have := RowG.bin (a := at9) hrg (List.mem_of_getElem? hy2) ho
            simpa using this
      · rintro _ ⟨x9, us9, n9, ps9, ts9, e9, a8, a9, Z9, h9, tk9, rfl, S9, hx9, hs9, E9, hpa9, hpl9, htl9, hfi9, hcl⟩
        have n9 := E9.len
        rw [Nat.succ_mul] at hpl9 htl9
        have hul9 : us9.length = ps9.length := by have := hpa9.length; simpa using this
        k_extra "GO"
        refine St.useO (by assumption) (T b x9 _ dp td hx9 hdp hk (by (first | lia | omega))) hh (by first | exact dlti hd2.1 (by k_extra "DLE") | (unfold dE at hd ⊢; (first | lia | omega))) (by first | exact dlti hd2.2 (by k_extra "DLE") | (unfold uE at hu ⊢; (first | lia | omega))) fun qH kH x10 ts5 e5 l2 n2 us2 ps2 d2 Z5 h10 tk10 S10 hx10 hs10 E10 hn10 hpa10 hog10 hlp10 hfi10 => ?_
        have hl2 : us2.length = ps2.length := by have := hpa10.length; simpa using this
        with_reducible k_extra "UNH"
        refine iaddO S10.take (.tail (.tail (.tail (.tail .head)))) (memO mem_hd) (by (first | lia | omega)) fun h11 n11 S11 => ?_
        k_extra "GO"
        (repeat' with_reducible k_extra "UNH"); (try dsimp only [TurnEnd])
        refine ⟨_, _, _, _, _, _, rfl, St.drop (by assumption) (.cons _ (List.Sublist.refl _)), x10, _, _, ps9 ++ ps2, ts9 ++ ts5, _, _, _, _, _, rfl, rfl, rfl, hx10, hs6.trans (hs9.trans hs10), E9.trans E10, (hpa9.up hs10).append hpa10, hcl _ _ _ _ (hog10.mono fun u_ u_ u_ => GX.succ), ?_, ?_, term_app hfi9 hfi10⟩
        · rw [List.length_append, Nat.succ_mul]; (first | lia | omega)
        · rw [List.length_append, Nat.succ_mul]; (first | lia | omega)
    · intro vs own R Z' h4 tk4 S4 Hv
      refine hideG fun GG hGG => ?_
      obtain ⟨x6, us, nl, ps, ts, e, a7, a8, a9, ro, rfl, rfl, rfl, hx6, hs6, E6, hpa6, hrg, hpl, htl, hfi⟩ := Hv
      have hpc : c * SP k ≤ cntR k * SP k := Nat.mul_le_mul_right _ hc
      have htc : c * (2 + 2 * (NT k + 2)) ≤ cntR k * (2 + 2 * (NT k + 2)) := Nat.mul_le_mul_right _ hc
      refine hGG ?_; clear hGG GG
      k_extra "GO"
      have S5 := S4.perm (own' := [(l, listOf us.toArray nl), (r, ro), (jl, listOf js.toArray nj)]) (R' := Res b x6) (Z' := Z') ((List.perm_append_comm (l₁ := [(l, listOf us.toArray nl)]) (l₂ := [(r, ro), (jl, listOf js.toArray nj)])).append_right _)
      refine Ret1.st S5.give ?_
      exact ⟨x6, [(_, _)], ts, e, rfl, hx6, hs6, E6, by (first | lia | omega), l, nl, us, ps, rfl, rfl, hpa6, hrg, by (first | lia | omega), hfi⟩

set_option maxHeartbeats 8000000 in
theorem sel_spec {w : World} {k : Nat} (T : ExprS w k) : SelS w k := by
  intro b x Z dp td hx hdp hk hz
  have habc := abc_len
  refine CallC.of (ns := ["pool", "world", "depth", "at", "name", "path", "turns", "step", "inner", "tree", "first", "kind", "second"]) (gs := ["_law_put", "_law_pick", "range", "_law_expression", "tuple"]) (rest := ["at", "name", "path", "turns", "step", "inner", "tree", "first", "kind", "second"]) (binds := [("pool", .ref b.P), ("world", .ref b.W), ("depth", .int dp td)]) (vs := [some (.ref b.P), some (.ref b.W), some (.int dp td), none, none, none, none, none, none, none, none, none, none]) (by k_is) (by k_is) (fun u_ u_ => BindsTo.of_eq rfl) (Ev.of (by decide)) (by decide) rfl rfl ?_
  intro g A ge dr os hh hd hu L' h₁ tk E V S pE
  have hd' : A.depth + 520 < recursionLimit ∧ A.units + 5200 < cLine := by
    unfold dE at hd; unfold uE at hu; (first | lia | omega)
  have hd2 : A.depth + (522 + 10 * k) < recursionLimit ∧ A.units + (5220 + 100 * k) < cLine := by
    unfold dE at hd; unfold uE at hu; (first | lia | omega)
  have hd1 := hd'.1
  have hu1 := hd'.2
  k_extra "GO"
  k_extra "W1"; intro x1 r1 t1 h1 tk1 hr0 hr1 S1 hx1 E1 n1
  have hnm := item_abc hr0 hr1
  k_extra "GO"
  generalize Txt.item "abc" r1 = nm at *
  k_extra "W2"; intro x2 at2 t2 Z2 h2 tk2 S2 hx2 hs2 E2 n2
  refine hideG fun GG hGG => ?_
  have hwo2 := hx2.wo
  obtain ⟨ta, hta, htl, hTok⟩ := hx2.last E2
  obtain ⟨dx, q1, q2, q3, kt, vt, ta', hm1, hm2⟩ := hTok.strV
  have hlt := hx2.tk.length
  refine hGG ?_; clear hGG GG
  k_extra "GO"
  k_extra "W1"; intro x3 r3 t3 h3 tk3 hr2 hr3 S3 hx3 E3 n3
  refine hideG fun GG hGG => ?_
  obtain ⟨c, rfl⟩ : ∃ c : Nat, r3 = (c : Int) := ⟨r3.toNat, by (first | lia | omega)⟩
  refine hGG ?_; clear hGG GG
  k_extra "GO"
  refine range_call (by assumption) fun r ta tb h4 tk4 S4 => ?_
  refine for_range (n := c) (by passes_own) hh S4 (S4.get (memO mem_hd)) (small_one (by (first | lia | omega)) (by (first | lia | omega)) (by (first | lia | omega)) (by (first | lia | omega))) rs_up (by intro _ _; rfl)
    (fun i vs own R Z' => Ex12 fun x6 us nl pre epre a8 a9 ro D nm' nt' done => An12 (vs = [some (.ref b.P), some (.ref b.W), some (.int dp td), some (.int at2 t2), some (.str nm' nt'), some (.ref D), some (.int c t3), a8, a9, none, none, none, none]) (own = [(r, ro), (D, listOf us.toArray nl)]) (R = Res b x6) (BOk w b x6 Z') (Sub Z Z') (Ext x x6 (idt nm at2 :: pre) epre) (TrL Z' us done) (done.length = i) (pre.length ≤ i * (NE k + 4)) (nm' ∈ namesOk) ((∀ d ∈ done, Fine (DE k + 1) d)) (∀ ts d e, GTail (GX (2 * k + 2)) at2 done nm' ts d e → GTail (GX (2 * k + 2)) at2 [] nm (pre ++ ts) d (epre.or e)))
    ⟨_, _, _, [], none, _, _, _, _, _, _, [], rfl, rfl, rfl, hx3, hs2, by first | exact (E1.trans E2).trans E3 | simpa using (E1.trans E2).trans E3, .nil, rfl, Nat.zero_le _, hnm, all_nil, fun ts d e ht => by simpa using ht⟩ ?_ ?_
  · intro i t vs own R Z' h5 tk5 I ito S5 hi Hv
    refine hideG fun GG hGG => ?_
    obtain ⟨x6, us, nl, pre, epre, a8, a9, ro, D, nm', nt', done, rfl, rfl, rfl, hx6, hs6, E6, htr, hdl, hpl, hnm', hfi, hcl⟩ := Hv
    have n6 := E6.len
    have hm : (i + 1) * (NE k + 4) ≤ 2 * (NE k + 4) := Nat.mul_le_mul_right _ (by (first | lia | omega))
    rw [Nat.succ_mul] at hm
    have hul : us.length = i := by rw [htr.length, hdl]
    simp only [List.length_cons] at n6
    refine hGG ?_; clear hGG GG
    k_extra "W4"
    (repeat' with_reducible k_extra "UNH"); refine wpAny_execs_cons ?_
    k_extra "W5"
    (repeat' with_reducible k_extra "UNH"); refine wpAny_execs_cons ?_
    refine cutN (fun s1 => Ex8 fun x7 iv di mid emid Z7 h7 tk7 => An9 (s1 = ⟨h7, ge, dr, tk7, os⟩) (St w g L' ["pool", "world", "depth", "at", "name", "path", "turns", "step", "inner", "tree", "first", "kind", "second"] [some (.ref b.P), some (.ref b.W), some (.int dp td), some (.int at2 t2), some (.str nm' nt'), some (.ref D), some (.int c t3), some (.int (0 + (i : Int) * 1) t), some iv, none, none, none, none] [(I, ito), (r, ro), (D, listOf us.toArray nl)] (Res b x7) Z7 h7) (BOk w b x7 Z7) (Sub Z' Z7) (Ext x6 x7 mid emid) (Tr Z7 iv di) (Fine (DE k) di) (mid.length ≤ NE k + 2) (∀ nm2 a2 a3 ts d e, nm2 ∈ namesOk → GTail (GX (2 * k + 2)) at2 (done ++ [.tuple [.str nm', di]]) nm2 ts d e → GTail (GX (2 * k + 2)) at2 done nm' (mid ++ op "." a2 :: idt nm2 a3 :: ts) d (emid.or e))) ?_ ?_
    · k_extra "GO"
      k_extra "W1"; intro x7 r7 t7 h7 tk7 hr4 hr5 S7 hx7 E7 n7
      k_extra "GO"
      refine ite_dec (fun hr => ?_) (fun hr => ?_)
      · k_extra "GO"
        k_extra "W2"; intro x8 at8 t8 Z8 h8 tk8 S8 hx8 hs8 E8 n8
        k_extra "GO"
        refine St.useT (by assumption) (T b x8 _ (dp + 1) _ hx8 (by (first | lia | omega)) (by (first | lia | omega)) (by (first | lia | omega))) hh (by first | exact dlti hd2.1 (by k_extra "DLE") | k_extra "DPT") (by first | exact dlti hd2.2 (by k_extra "DLE") | k_extra "DPT") fun qH kH v x9 ts9 e9 d Z9 h9 tk9 S9 hx9 hs9 E9 hn9 ht hgx hf => ?_
        have n9 := E9.len
        k_extra "GO"
        k_extra "W2"; intro x10 at10 t10 Z10 h10 tk10 S10 hx10 hs10 E10 n10
        k_extra "GO"
        refine ⟨rfl, x10, v, d, op "[" at8 :: (ts9 ++ [op "]" at10]), e9, Z10, _, _, rfl, by assumption, hx10, hs8.trans (hs9.trans hs10), by first | exact ((E7.trans E8).trans E9).trans E10 | simpa using ((E7.trans E8).trans E9).trans E10, ht.up hs10, hf, by simp; (first | lia | omega), fun nm2 a2 a3 ts d' e hn2 hgt => ?_⟩
        have := GTail.ix (nm := nm') (a := at8) (a1 := at10) (a2 := a2) (a3 := a3) hn2 hgx hgt
        simpa using this
      · k_extra "GO"
        refine ⟨rfl, x7, .none, .none, [], none, Z', _, _, rfl, by assumption, hx7, .rfl, E7, .none, .none, by simp, fun nm2 a2 a3 ts d' e hn2 hgt => ?_⟩
        simpa using GTail.dot (a := a2) (a2 := a3) hn2 hgt
    rintro _ ⟨x7, iv, di, mid, emid, Z7, h7, tk7, rfl, S7, hx7, hs7, E7, htr7, hf7, hm7, hcl7⟩
    have n7 := E7.len
    k_extra "GO"
    k_extra "W2"; intro x8 at8 t8 Z8 h8 tk8 S8 hx8 hs8 E8 n8
    k_extra "GO"
    k_extra "W1"; intro x9 r9 t9 h9 tk9 hr6 hr7 S9 hx9 E9 n9
    have hnm9 := item_abc hr6 hr7
    k_extra "GO"
    generalize Txt.item "abc" r9 = nm9 at *
    k_extra "W2"; intro x10 at10 t10 Z10 h10 tk10 S10 hx10 hs10 E10 n10
    k_extra "GO"
    (repeat' with_reducible k_extra "UNH"); (try dsimp only [TurnEnd])
    refine ⟨_, _, _, _, _, _, rfl, by assumption, x10, _, _, pre ++ (mid ++ [op "." at8, idt nm9 at10]), epre.or emid, _, _, _, _, nm9, _, done ++ [.tuple [.str nm', di]], rfl, rfl, rfl, hx10, hs6.trans (hs7.trans ((Sub.tl .rfl).trans (hs8.trans hs10))), ?_, ?_, by simp [hdl], ?_, hnm9, ?_, ?_⟩
    · have := (((E6.trans E7).trans E8).trans E9).trans E10
      simpa using this
    · have hz := (hs8.trans hs10)
      refine (htr.up (hs7.trans ((Sub.tl .rfl).trans hz))).append (.cons (.tup (hz.up _ mem_hd) IsT.of (.cons (.str _ _) (.cons (htr7.up ((Sub.tl .rfl).trans hz)) .nil))) .nil)
    · rw [Nat.succ_mul]; simp only [List.length_append, List.length_cons, List.length_nil]; (first | lia | omega)
    · intro d hd'
      rcases List.mem_append.mp hd' with q | q
      · exact hfi d q
      · simp only [List.mem_singleton] at q; subst q; exact .tup (all_cons fine_str (all_cons hf7 all_nil))
    · intro ts d e ht
      have := hcl _ _ _ (hcl7 _ at8 at10 _ _ _ hnm9 ht)
      simpa [Option.or_assoc] using this
  · intro vs own R Z' h5 tk5 S5 Hv
    refine hideG fun GG hGG => ?_
    obtain ⟨x6, us, nl, pre, epre, a8, a9, ro, D, nm', nt', done, rfl, rfl, rfl, hx6, hs6, E6, htr, hdl, hpl, hnm', hfi, hcl⟩ := Hv
    have n6 := E6.len
    have hul : us.length = c := by rw [htr.length, hdl]
    have hpl2 : pre.length ≤ 2 * (NE k + 4) := Nat.le_trans hpl (Nat.mul_le_mul_right _ (by (first | lia | omega)))
    simp only [List.length_cons] at n6
    refine hGG ?_; clear hGG GG
    (repeat' with_reducible k_extra "UNH"); refine wpAny_execs_cons ?_
    refine cutN (fun s1 => Ex4 fun tv Z7 h7 tk7 => An4 (s1 = ⟨h7, ge, dr, tk7, os⟩) (St w g L' ["pool", "world", "depth", "at", "name", "path", "turns", "step", "inner", "tree", "first", "kind", "second"] [some (.ref b.P), some (.ref b.W), some (.int dp td), some (.int at2 t2), some (.str nm' nt'), some (.ref D), some (.int c t3), a8, a9, some tv, none, none, none] [] (Res b x6) Z7 h7) (Sub Z' Z7) (Tr Z7 tv (pathTree at2 done nm'))) ?_ ?_
    · k_extra "GO"
      refine ite_bool (fun hb => ?_) (fun hb => ?_)
      · have hdn : done ≠ [] := by rintro rfl; have := htr.length; cases us <;> simp at this hb
        k_extra "GO"
        refine ⟨rfl, _, _, _, _, rfl, St.drop (by assumption) (List.nil_sublist _), Sub.tl (.tl (.tl .rfl)), ?_⟩
        unfold pathTree
        rw [if_neg hdn]
        refine .tup mem_hd IsT.of (.cons (.str _ _) (.cons (.int _ _) (.cons (.tup (mem_tl mem_hd) IsT.of ?_) .nil)))
        exact (htr.up (Sub.tl (.tl (.tl .rfl)))).append (.cons (.tup (mem_tl (mem_tl mem_hd)) IsT.of (.cons (.str _ _) (.cons .none .nil))) .nil)
      · have hdn : done = [] := by
          have := htr.length
          cases us with
          | nil => exact List.length_eq_zero_iff.mp (by simpa using this.symm)
          | cons => simp at hb
        k_extra "GO"
        refine ⟨rfl, _, _, _, _, rfl, St.drop (by assumption) (List.nil_sublist _), Sub.tl .rfl, ?_⟩
        unfold pathTree
        rw [if_pos hdn]
        exact .tup mem_hd IsT.of (.cons (.str _ _) (.cons (.int _ _) (.cons (.str _ _) .nil)))
    rintro _ ⟨tv, Z7, h7, tk7, rfl, S7, hs7, htv⟩
    have hx7 := hx6.up hs7
    k_extra "GO"
    k_extra "W1"; intro x8 r8 t8 h8 tk8 hr4 hr5 S8 hx8 E8 n8
    refine hideG fun GG hGG => ?_
    obtain ⟨c2, rfl⟩ : ∃ c : Nat, r8 = (c : Int) := ⟨r8.toNat, by (first | lia | omega)⟩
    refine hGG ?_; clear hGG GG
    k_extra "GO"
    refine range_call (by assumption) fun r' ta' tb' h9 tk9 S9 => ?_
    refine for_range (n := c2) (by passes_own) hh S9 (S9.get (memO mem_hd)) (small_one (by (first | lia | omega)) (by (first | lia | omega)) (by (first | lia | omega)) (by (first | lia | omega))) rs_up (by intro _ _; rfl)
      (fun i vs own R Z' => Ex10 fun x6 pre epre a8 b1 b2 b3 ro tv tree => An10 (vs = [some (.ref b.P), some (.ref b.W), some (.int dp td), some (.int at2 t2), some (.str nm' nt'), some (.ref D), some (.int c t3), a8, a9, some tv, b1, b2, b3]) (own = [(r', ro)]) (R = Res b x6) (BOk w b x6 Z') (Sub Z Z') (Ext x x6 (idt nm at2 :: pre) epre) (Tr Z' tv tree) (Fine (DE k + 3 + i) tree) (pre.length ≤ 2 * (NE k + 4) + i * (NE k + 2)) (∀ ts d e, GSels (GX (2 * k + 2)) at2 tree ts d e → GPrim (GX (2 * k + 2)) (idt nm at2 :: (pre ++ ts)) d (epre.or e)))
      ⟨x8, pre, epre, _, _, _, _, _, tv, _, rfl, rfl, rfl, hx8, hs6.trans hs7, by first | exact E6.trans E8 | simpa using E6.trans E8, htv, tree_fine (by (first | lia | omega)) hfi, by (first | lia | omega), fun ts d e ht => .ref hnm (hcl _ _ _ (.stop ht))⟩ ?_ ?_
    · intro i t vs own R Z' h5 tk5 I ito S5 hi Hv
      refine hideG fun GG hGG => ?_
      obtain ⟨x9, pre, epre, a8, b1, b2, b3, ro, tv, tree, rfl, rfl, rfl, hx9, hs9, E9, htv, hft, hpl, hcl⟩ := Hv
      have n9 := E9.len
      simp only [List.length_cons] at n9
      have hm : (i + 1) * (NE k + 2) ≤ 2 * (NE k + 2) := Nat.mul_le_mul_right _ (by (first | lia | omega))
      rw [Nat.succ_mul] at hm
      refine hGG ?_; clear hGG GG
      k_extra "GO"
      k_extra "W2"; intro x10 at10 t10 Z10 h10 tk10 S10 hx10 hs10 E10 n10
      k_extra "GO"
      refine St.useT (by assumption) (T b x10 _ (dp + 1) _ hx10 (by (first | lia | omega)) (by (first | lia | omega)) (by (first | lia | omega))) hh (by first | exact dlti hd2.1 (by k_extra "DLE") | k_extra "DPT") (by first | exact dlti hd2.2 (by k_extra "DLE") | k_extra "DPT") fun qH kH v x11 ts11 e11 d Z11 h11 tk11 S11 hx11 hs11 E11 hn11 ht hgx hf => ?_
      have n11 := E11.len
      k_extra "GO"
      k_extra "W1"; intro x12 r12 t12 h12 tk12 hr6 hr7 S12 hx12 E12 n12
      refine hideG fun GG hGG => ?_
      obtain ⟨y, yt, hy, hyk⟩ := pick_sel S12 hr6 hr7
      refine hGG ?_; clear hGG GG
      k_extra "GO"
      rcases hyk with rfl | ⟨hyi, o, hro, hlk⟩
      · k_extra "GO"
        k_extra "W2"; intro x13 at13 t13 Z13 h13 tk13 S13 hx13 hs13 E13 n13
        k_extra "GO"
        (repeat' with_reducible k_extra "UNH"); (try dsimp only [TurnEnd])
        refine ⟨_, _, _, _, _, _, rfl, St.drop (by assumption) (.cons _ (List.Sublist.refl _)), x13, pre ++ (op "[" at10 :: (ts11 ++ [op "]" at13])), epre.or e11, _, _, _, _, _, _, tIx at2 tree d, rfl, rfl, rfl, hx13.up (Sub.tl .rfl), hs9.trans (hs10.trans (hs11.trans hs13.tl)), ?_, ?_, ?_, ?_, ?_⟩
        · have := (((E9.trans E10).trans E11).trans E12).trans E13
          simpa using this
        · exact .tup mem_hd IsT.of (.cons (.str _ _) (.cons (.int _ _) (.cons (htv.up (hs10.trans (hs11.trans hs13.tl))) (.cons (ht.up hs13.tl) .nil))))
        · exact .le (n := DE k + 3 + i + 1) (.tup (all_cons fine_str (all_cons fine_int (all_cons hft (all_cons (hf.le (Nat.le_trans (Nat.le_add_right _ 3) (Nat.le_add_right _ i))) all_nil))))) (by (first | lia | omega))
        · rw [Nat.succ_mul i]; simp only [List.length_append, List.length_cons, List.length_nil]; (first | lia | omega)
        · intro ts d' e ht'
          have := hcl _ _ _ (.idx (a := at10) (a' := at13) hgx ht')
          simpa [Option.or_assoc] using this
      · have hne : (y != ("index" : Str)) = true := by simp [bne, hyi]
        k_extra "GO"
        refine ix_tab (by assumption) (by k_extra "MEM") (by assumption) (by assumption) hlk ?_ (by with_unfolding_all rfl)
        intro tt tkt
        k_extra "GO"
        k_extra "W2"; intro x13 at13 t13 Z13 h13 tk13 S13 hx13 hs13 E13 n13
        k_extra "GO"
        refine St.useT (by assumption) (T b x13 _ (dp + 1) _ hx13 (by (first | lia | omega)) (by (first | lia | omega)) (by (first | lia | omega))) hh (by first | exact dlti hd2.1 (by k_extra "DLE") | k_extra "DPT") (by first | exact dlti hd2.2 (by k_extra "DLE") | k_extra "DPT") fun qH kH v x14 ts14 e14 d2 Z14 h14 tk14 S14 hx14 hs14 E14 hn14 ht2 hgx2 hf2 => ?_
        have n14 := E14.len
        k_extra "GO"
        k_extra "W2"; intro x15 at15 t15 Z15 h15 tk15 S15 hx15 hs15 E15 n15
        k_extra "GO"
        (repeat' with_reducible k_extra "UNH"); (try dsimp only [TurnEnd])
        (repeat' with_reducible k_extra "UNH"); k_extra "RETC"
        refine ⟨x15, [], idt nm at2 :: (pre ++ (op "[" at10 :: (ts11 ++ op o at13 :: (ts14 ++ [op "]" at15])))), epre.or (e11.or e14), rfl, hx15.up (Sub.tl .rfl), hs9.trans (hs10.trans (hs11.trans (hs13.trans (hs14.trans hs15.tl)))), ?_, ?_, rfl, _, ?_, hcl _ _ _ (.rng hro hgx hgx2), ?_⟩
        · have := (((((E9.trans E10).trans E11).trans E12).trans E13).trans E14).trans E15
          simpa [Option.or_assoc] using this
        · simp only [List.length_append, List.length_cons, List.length_nil]; (first | lia | omega)
        · exact .tup mem_hd IsT.of (.cons (.str _ _) (.cons (.int _ _) (.cons (htv.up (hs10.trans (hs11.trans (hs13.trans (hs14.trans hs15.tl))))) (.cons (ht.up (hs13.trans (hs14.trans hs15.tl))) (.cons (ht2.up hs15.tl) .nil)))))
        · exact .le (n := DE k + 3 + i + 1) (.tup (all_cons fine_str (all_cons fine_int (all_cons hft (all_cons (hf.le (by (first | lia | omega))) (all_cons (hf2.le (by (first | lia | omega))) all_nil)))))) (by (first | lia | omega))
    · intro vs own R Z' h5 tk5 S5 Hv
      refine hideG fun GG hGG => ?_
      obtain ⟨x9, pre, epre, a8, b1, b2, b3, ro, tv, tree, rfl, rfl, rfl, hx9, hs9, E9, htv, hft, hpl, hcl⟩ := Hv
      have hpl2 : pre.length ≤ 2 * (NE k + 4) + 2 * (NE k + 2) := Nat.le_trans hpl (Nat.add_le_add_left (Nat.mul_le_mul_right _ (by (first | lia | omega))) _)
      refine hGG ?_; clear hGG GG
      k_extra "GO"
      (repeat' with_reducible k_extra "UNH"); k_extra "RETC"
      refine ⟨x9, [], _, _, rfl, hx9, hs9, E9, by simp only [List.length_cons]; (first | lia | omega), rfl, tree, htv, by simpa using hcl _ _ _ .nil, hft.le (by (first | lia | omega))⟩

theorem fine_id {n at_ nm} (h : 2 ≤ n) : Fine n (.tuple [.str "id", .int at_, .str nm]) := .le (n := 1) (.tup (all_cons fine_str (all_cons fine_int (all_cons fine_str all_nil)))) (by (first | lia | omega))
noncomputable abbrev nsTm : List Str := ["pool", "world", "depth", "kind", "name", "big", "tree", "at", "items", "times"]
theorem dt4 : ∀ k, 4 ≤ DT k := by intro k; cases k <;> simp only [DT] <;> (first | lia | omega)
set_option maxHeartbeats 16000000 in
theorem term_spec {w : World} {k : Nat} (T : ∀ j, k = j + 1 → ExprS w j ∧ ListS w j ∧ SelS w j) : TermS w k := by
  intro b x Z dp td hx hdp hk hz
  have habc := abc_len
  have hNT : 1 ≤ NT k := by cases k <;> simp only [NT] <;> (first | lia | omega)
  have hDT := dt4 k
  have hwo := hx.wo
  refine CallC.of (ns := nsTm) (gs := ["_law_pick", "_law_put", "len", "str", "_law_expression", "_law_selected", "_law_list"]) (rest := ["kind", "name", "big", "tree", "at", "items", "times"]) (binds := [("pool", .ref b.P), ("world", .ref b.W), ("depth", .int dp td)]) (vs := [some (.ref b.P), some (.ref b.W), some (.int dp td), none, none, none, none, none, none, none]) (by k_is) (by k_is) (fun u_ u_ => BindsTo.of_eq rfl) (Ev.of (by decide)) (by decide) rfl rfl ?_
  intro g A ge dr os hh hd hu L' h₁ tk E V S pE
  have hd' : A.depth + 515 < recursionLimit ∧ A.units + 5150 < cLine := by
    unfold dE at hd; unfold uE at hu; (first | lia | omega)
  have hd2 : A.depth + (515 + 10 * k) < recursionLimit ∧ A.units + (5150 + 100 * k) < cLine := by
    unfold dE at hd; unfold uE at hu; (first | lia | omega)
  have hd1 := hd'.1
  have hu1 := hd'.2
  refine wpAny_execs_cons ?_
  refine cutN (fun s1 => Ex5 fun r t x1 h1 tk1 => An7 (s1 = ⟨h1, ge, dr, tk1, os⟩) (0 ≤ r) ((r < 5 ∨ (r < 11 ∧ 1 ≤ k))) (St w g L' nsTm [some (.ref b.P), some (.ref b.W), some (.int dp td), some (.int r t), none, none, none, none, none, none] [] (Res b x1) Z h1) (BOk w b x1 Z) (Ext x x1 [] none) (x1.tl.length = x.tl.length)) ?_ ?_
  · k_extra "GO"
    refine ite_dec (fun hr => ?_) (fun hr => ?_)
    · k_extra "GO"
      refine ite_dec (fun hr2 => ?_) (fun hr2 => ?_)
      · k_extra "GO"
        k_extra "W1"; intro x1 r1 t1 h1 tk1 hr0 hr1 S1 hx1 E1 n1
        k_extra "GO"
        exact ⟨rfl, r1, t1, x1, _, _, rfl, hr0, by (first | lia | omega), by assumption, hx1, E1, n1⟩
      · k_extra "GO"
        k_extra "W1"; intro x1 r1 t1 h1 tk1 hr0 hr1 S1 hx1 E1 n1
        k_extra "GO"
        exact ⟨rfl, r1, t1, x1, _, _, rfl, hr0, by (first | lia | omega), by assumption, hx1, E1, n1⟩
    · k_extra "GO"
      k_extra "W1"; intro x1 r1 t1 h1 tk1 hr0 hr1 S1 hx1 E1 n1
      k_extra "GO"
      exact ⟨rfl, r1, t1, x1, _, _, rfl, hr0, by (first | lia | omega), by assumption, hx1, E1, n1⟩
  rintro _ ⟨r, rt, x1, h1, tk1, rfl, hr0, hr1, S1, hx1, E1, n1⟩
  have hwo1 := hx1.wo
  have hwm1 := hx1.wm
  have hwl1 := hx1.wl
  have hwz1 := hx1.wz
  k_extra "GO"
  refine ite_dec (fun hk2 => ?_) (fun hk2 => ?_)
  · k_extra "GO"
    k_extra "W1"; intro x2 r2 t2 h2 tk2 hr2 hr3 S2 hx2 E2 n2
    have hnm := item_abc hr2 hr3
    k_extra "GO"
    generalize Txt.item "abc" r2 = nm at *
    k_extra "W2"; intro x3 at3 t3 Z3 h3 tk3 S3 hx3 hs3 E3 n3
    k_extra "GO"
    (repeat' with_reducible k_extra "UNH"); k_extra "RETC"
    refine ⟨x3, [], [idt nm at3], none, rfl, hx3.up (Sub.tl .rfl), hs3.tl, by first | exact (E1.trans E2).trans E3 | simpa using (E1.trans E2).trans E3, hNT, rfl, _, .tup mem_hd IsT.of (.cons (.str _ _) (.cons (.int _ _) (.cons (.str _ _) .nil))), .ref hnm (.stop (done := []) .nil), fine_id (by (first | lia | omega))⟩
  k_extra "GO"
  refine ite_dec (fun hk3 => ?_) (fun hk3 => ?_)
  · k_extra "GO"
    k_extra "W1"; intro x2 r2 t2 h2 tk2 hr2 hr3 S2 hx2 E2 n2
    refine hideG fun GG hGG => ?_
    obtain ⟨bv, hbv⟩ : ∃ bv, b.wvs[r2.toNat]? = some bv := ⟨_, List.getElem?_eq_getElem (by (first | lia | omega))⟩
    obtain ⟨big, bt, rfl, hb0, hb1⟩ := hx2.wi bv (List.mem_of_getElem? hbv)
    refine hGG ?_; clear hGG GG
    k_extra "GO"
    k_extra "W2"; intro x3 at3 t3 Z3 h3 tk3 S3 hx3 hs3 E3 n3
    k_extra "GO"
    (repeat' with_reducible k_extra "UNH"); k_extra "RETC"
    refine ⟨x3, [], [_], none, rfl, hx3.up (Sub.tl (.tl .rfl)), (Sub.tl .rfl).trans hs3.tl.tl, by first | exact (E1.trans E2).trans E3 | simpa using (E1.trans E2).trans E3, hNT, rfl, _, ?_, .num1 (at_ := at3) hb0 hb1, ?_⟩
    · exact .tup mem_hd IsT.of (.cons (.str _ _) (.cons (.int _ _) (.cons (.tup (mem_tl mem_hd) IsT.of (.cons (.int _ _) (.cons (.int _ _) (.cons (.int _ _) .nil)))) (.cons (.bool _) (.cons (.bool _) .nil)))))
    · exact .le (n := 2) (.tup (all_cons fine_str (all_cons fine_int (all_cons (.tup (all_cons fine_int (all_cons fine_int (all_cons fine_int all_nil)))) (all_cons fine_bool (all_cons fine_bool all_nil)))))) (by (first | lia | omega))
  k_extra "GO"
  refine ite_dec (fun hk4 => ?_) (fun hk4 => ?_)
  · k_extra "GO"
    k_extra "W2"; intro x3 at3 t3 Z3 h3 tk3 S3 hx3 hs3 E3 n3
    k_extra "GO"
    (repeat' with_reducible k_extra "UNH"); k_extra "RETC"
    refine ⟨x3, [], [_], none, rfl, hx3.up (Sub.tl (.tl .rfl)), (Sub.tl .rfl).trans hs3.tl.tl, by first | exact E1.trans E3 | simpa using E1.trans E3, hNT, rfl, _, ?_, .num2 (at_ := at3), ?_⟩
    · exact .tup mem_hd IsT.of (.cons (.str _ _) (.cons (.int _ _) (.cons (.tup (mem_tl mem_hd) IsT.of (.cons (.int _ _) (.cons (.int _ _) (.cons (.int _ _) .nil)))) (.cons (.bool _) (.cons (.bool _) .nil)))))
    · exact .le (n := 2) (.tup (all_cons fine_str (all_cons fine_int (all_cons (.tup (all_cons fine_int (all_cons fine_int (all_cons fine_int all_nil)))) (all_cons fine_bool (all_cons fine_bool all_nil)))))) (by (first | lia | omega))
  k_extra "GO"
  refine ite_dec (fun hk5 => ?_) (fun hk5 => ?_)
  · k_extra "GO"
    k_extra "W2"; intro x3 at3 t3 Z3 h3 tk3 S3 hx3 hs3 E3 n3
    k_extra "GO"
    (repeat' with_reducible k_extra "UNH"); k_extra "RETC"
    refine ⟨x3, [], [_], none, rfl, hx3.up (Sub.tl .rfl), hs3.tl, by first | exact E1.trans E3 | simpa using E1.trans E3, hNT, rfl, _, ?_, .str (at_ := at3), ?_⟩
    · exact .tup mem_hd IsT.of (.cons (.str _ _) (.cons (.int _ _) (.cons (.str _ _) .nil)))
    · exact .le (n := 1) (.tup (all_cons fine_str (all_cons fine_int (all_cons fine_str all_nil)))) (by (first | lia | omega))
  refine hideG fun GG hGG => ?_
  obtain ⟨j, rfl⟩ : ∃ j, k = j + 1 := ⟨k - 1, by (first | lia | omega)⟩
  obtain ⟨TE, TL, TS⟩ := T j rfl
  have hz2 := hz
  simp only [NT] at hz2
  have hr11 : r < 11 := by (first | lia | omega)
  refine hGG ?_; clear hGG GG
  k_extra "GO"
  refine ite_dec (fun hk6 => ?_) (fun hk6 => ?_)
  · k_extra "GO"
    k_extra "W2"; intro x3 at3 t3 Z3 h3 tk3 S3 hx3 hs3 E3 n3
    k_extra "GO"
    refine St.useT (by assumption) (TE b x3 _ (dp + 1) _ hx3 (by (first | lia | omega)) (by (first | lia | omega)) (by simp only [NT] at hz; (first | lia | omega))) hh (by first | exact dlti hd2.1 (by k_extra "DLE") | (unfold dE at hd ⊢; (first | lia | omega))) (by first | exact dlti hd2.2 (by k_extra "DLE") | (unfold uE at hu ⊢; (first | lia | omega))) fun qH kH v4 x4 ts4 e4 d4 Z4 h4 tk4 S4 hx4 hs4 E4 hn4 ht4 hgx4 hf4 => ?_
    have n4 := E4.len
    k_extra "GO"
    k_extra "W1"; intro x5 r5 t5 h5 tk5 hr4 hr5 S5 hx5 E5 n5
    k_extra "GO"
    refine ite_dec (fun hk7 => ?_) (fun hk7 => ?_)
    · k_extra "GO"
      k_extra "W2"; intro x6 at6 t6 Z6 h6 tk6 S6 hx6 hs6 E6 n6
      k_extra "GO"
      refine St.useT (by assumption) (TE b x6 _ (dp + 1) _ hx6 (by (first | lia | omega)) (by (first | lia | omega)) (by simp only [NT] at hz; (first | lia | omega))) hh (by first | exact dlti hd2.1 (by k_extra "DLE") | (unfold dE at hd ⊢; (first | lia | omega))) (by first | exact dlti hd2.2 (by k_extra "DLE") | (unfold uE at hu ⊢; (first | lia | omega))) fun qH kH v7 x7 ts7 e7 d7 Z7 h7 tk7 S7 hx7 hs7 E7 hn7 ht7 hgx7 hf7 => ?_
      have n7 := E7.len
      k_extra "GO"
      k_extra "W2"; intro x8 at8 t8 Z8 h8 tk8 S8 hx8 hs8 E8 n8
      k_extra "GO"
      refine St.useT (by assumption) (TE b x8 _ (dp + 1) _ hx8 (by (first | lia | omega)) (by (first | lia | omega)) (by simp only [NT] at hz; (first | lia | omega))) hh (by first | exact dlti hd2.1 (by k_extra "DLE") | (unfold dE at hd ⊢; (first | lia | omega))) (by first | exact dlti hd2.2 (by k_extra "DLE") | (unfold uE at hu ⊢; (first | lia | omega))) fun qH kH v9 x9 ts9 e9 d9 Z9 h9 tk9 S9 hx9 hs9 E9 hn9 ht9 hgx9 hf9 => ?_
      have n9 := E9.len
      k_extra "GO"
      k_extra "W2"; intro x10 at10 t10 Z10 h10 tk10 S10 hx10 hs10 E10 n10
      k_extra "GO"
      (repeat' with_reducible k_extra "UNH"); k_extra "RETC"
      refine ⟨x10, [], op "(" at3 :: (ts4 ++ op ":" at6 :: (ts7 ++ op ":" at8 :: (ts9 ++ [op ")" at10]))), e4.or (e7.or e9), rfl, hx10, hs3.trans (hs4.trans (hs6.trans (hs7.trans (hs8.trans (hs9.trans hs10))))), ?_, ?_, rfl, d7, ht7.up (hs8.trans (hs9.trans hs10)), .mtm hgx4 hgx7 hgx9, hf7.le (by simp only [DT]; (first | lia | omega))⟩
      · have := (((((((E1.trans E3).trans E4).trans E5).trans E6).trans E7).trans E8).trans E9).trans E10
        simpa [Option.or_assoc] using this
      · simp only [List.length_append, List.length_cons, List.length_nil, NT]; (first | lia | omega)
    · k_extra "GO"
      k_extra "W2"; intro x6 at6 t6 Z6 h6 tk6 S6 hx6 hs6 E6 n6
      k_extra "GO"
      (repeat' with_reducible k_extra "UNH"); k_extra "RETC"
      refine ⟨x6, [], op "(" at3 :: (ts4 ++ [op ")" at6]), e4, rfl, hx6, hs3.trans (hs4.trans hs6), ?_, ?_, rfl, d4, ht4.up hs6, .par hgx4, hf4.le (by simp only [DT]; (first | lia | omega))⟩
      · have := (((E1.trans E3).trans E4).trans E5).trans E6
        simpa using this
      · simp only [List.length_append, List.length_cons, List.length_nil, NT]; (first | lia | omega)
  k_extra "GO"
  refine ite_dec (fun hk7 => ?_) (fun hk7 => ?_)
  · k_extra "GO"
    refine St.useT (by assumption) (TS b x1 _ dp _ hx1 (by (first | lia | omega)) (by (first | lia | omega)) (by simp only [NT] at hz; (first | lia | omega))) hh (by first | exact dlti hd2.1 (by k_extra "DLE") | (unfold dE at hd ⊢; (first | lia | omega))) (by first | exact dlti hd2.2 (by k_extra "DLE") | (unfold uE at hu ⊢; (first | lia | omega))) fun qH kH v2 x2 ts2 e2 d2 Z2 h2 tk2 S2 hx2 hs2 E2 hn2 ht2 hgx2 hf2 => ?_
    (repeat' with_reducible k_extra "UNH"); k_extra "RETC"
    exact ⟨x2, [], ts2, e2, rfl, hx2, hs2, by first | exact E1.trans E2 | simpa using E1.trans E2, hn2, rfl, d2, ht2, hgx2, hf2⟩
  k_extra "GO"
  refine ite_dec (fun hk8 => ?_) (fun hk8 => ?_)
  · k_extra "GO"
    k_extra "W1"; intro x2 r2 t2 h2 tk2 hp0 hp1 S2 hx2 E2 n2
    have hf0 : (Txt.item "f" 0 == ("$" : Str)) = false := by decide +kernel
    have hs0 : (Txt.item "$clog2" 0 == ("$" : Str)) = true := by decide +kernel
    have hr2 : r2 = 0 ∨ r2 = 1 := by (first | lia | omega)
    rcases hr2 with rfl | rfl
    · k_extra "GO"
      k_extra "W2"; intro x3 at3 t3 Z3 h3 tk3 S3 hx3 hs3 E3 n3
      k_extra "GO"
      k_extra "W2"; intro x4 at4 t4 Z4 h4 tk4 S4 hx4 hs4 E4 n4
      k_extra "GO"
      k_extra "W1"; intro x5 r5 t5 h5 tk5 hq0 hq1 S5 hx5 E5 n5
      refine hideG fun GG hGG => ?_
      obtain ⟨c, rfl⟩ : ∃ c : Nat, r5 = (c : Int) := ⟨r5.toNat, by (first | lia | omega)⟩
      have hcm : c * (NE j + 1) ≤ 3 * (NE j + 1) := Nat.mul_le_mul_right _ (by (first | lia | omega))
      refine hGG ?_; clear hGG GG
      k_extra "GO"
      refine St.useH (by assumption) (TL b x5 _ dp _ _ c hx5 (by (first | lia | omega)) (by (first | lia | omega)) (by (first | lia | omega)) (by (first | lia | omega))) hh (by first | exact dlti hd2.1 (by k_extra "DLE") | (unfold dE at hd ⊢; (first | lia | omega))) (by first | exact dlti hd2.2 (by k_extra "DLE") | (unfold uE at hu ⊢; (first | lia | omega))) fun qH kH v6 R6 Z6 h6 tk6 S6 P => ?_
      obtain ⟨x6, O6, ts6, e6, rfl, hx6, hs6, E6, hn6, rfl, ds6, ht6, hga6, hgi6, hf6⟩ := P
      have n6 := E6.len
      k_extra "GO"
      k_extra "W2"; intro x7 at7 t7 Z7 h7 tk7 S7 hx7 hs7 E7 n7
      k_extra "GO"
      (repeat' with_reducible k_extra "UNH"); k_extra "RETC"
      refine ⟨x7, [], idt "f" at3 :: op "(" at4 :: (ts6 ++ [op ")" at7]), e6, rfl, hx7.up (Sub.tl .rfl), hs3.trans (hs4.trans (hs6.trans hs7.tl)), ?_, ?_, rfl, _, .tup mem_hd IsT.of (.cons (.str _ _) (.cons (.int _ _) (.cons (.str _ _) (.cons (ht6.up hs7.tl) .nil)))), .call hga6, ?_⟩
      · have := (((((E1.trans E2).trans E3).trans E4).trans E5).trans E6).trans E7
        simpa using this
      · simp only [List.length_append, List.length_cons, List.length_nil, NT]; (first | lia | omega)
      · exact .le (.tup (all_cons fine_str (all_cons fine_int (all_cons fine_str (all_cons (.tup hf6) all_nil))))) (by simp only [DT]; (first | lia | omega))
    · k_extra "GO"
      k_extra "W2"; intro x3 at3 t3 Z3 h3 tk3 S3 hx3 hs3 E3 n3
      k_extra "GO"
      k_extra "W1"; intro x8 r8 t8 h8 tk8 hq0 hq1 S8 hx8 E8 n8
      k_extra "GO"
      refine ite_dec (fun hk9 => ?_) (fun hk9 => ?_)
      · k_extra "GO"
        (repeat' with_reducible k_extra "UNH"); k_extra "RETC"
        refine ⟨x8, [], [⟨"sys", .str "$clog2", at3⟩], none, rfl, hx8.up (Sub.tl (.tl .rfl)), hs3.tl.tl, by first | exact ((E1.trans E2).trans E3).trans E8 | simpa using ((E1.trans E2).trans E3).trans E8, hNT, rfl, _, .tup mem_hd IsT.of (.cons (.str _ _) (.cons (.int _ _) (.cons (.str _ _) (.cons (.tup (mem_tl mem_hd) IsT.of .nil) .nil)))), .sys0 (at_ := at3), ?_⟩
        exact .le (n := 2) (.tup (all_cons fine_str (all_cons fine_int (all_cons fine_str (all_cons (.le (n := 1) (.tup (n := 0) all_nil) (by (first | lia | omega))) all_nil))))) (by simp only [DT]; (first | lia | omega))
      · k_extra "GO"
        k_extra "W2"; intro x4 at4 t4 Z4 h4 tk4 S4 hx4 hs4 E4 n4
        k_extra "GO"
        k_extra "W1"; intro x5 r5 t5 h5 tk5 hq2 hq3 S5 hx5 E5 n5
        refine hideG fun GG hGG => ?_
        obtain ⟨c, rfl⟩ : ∃ c : Nat, r5 = (c : Int) := ⟨r5.toNat, by (first | lia | omega)⟩
        have hcm : c * (NE j + 1) ≤ 3 * (NE j + 1) := Nat.mul_le_mul_right _ (by (first | lia | omega))
        refine hGG ?_; clear hGG GG
        k_extra "GO"
        refine St.useH (by assumption) (TL b x5 _ dp _ _ c hx5 (by (first | lia | omega)) (by (first | lia | omega)) (by (first | lia | omega)) (by (first | lia | omega))) hh (by first | exact dlti hd2.1 (by k_extra "DLE") | (unfold dE at hd ⊢; (first | lia | omega))) (by first | exact dlti hd2.2 (by k_extra "DLE") | (unfold uE at hu ⊢; (first | lia | omega))) fun qH kH v6 R6 Z6 h6 tk6 S6 P => ?_
        obtain ⟨x6, O6, ts6, e6, rfl, hx6, hs6, E6, hn6, rfl, ds6, ht6, hga6, hgi6, hf6⟩ := P
        have n6 := E6.len
        k_extra "GO"
        k_extra "W2"; intro x7 at7 t7 Z7 h7 tk7 S7 hx7 hs7 E7 n7
        k_extra "GO"
        (repeat' with_reducible k_extra "UNH"); k_extra "RETC"
        refine ⟨x7, [], ⟨"sys", .str "$clog2", at3⟩ :: op "(" at4 :: (ts6 ++ [op ")" at7]), e6, rfl, hx7.up (Sub.tl .rfl), hs3.trans (hs4.trans (hs6.trans hs7.tl)), ?_, ?_, rfl, _, .tup mem_hd IsT.of (.cons (.str _ _) (.cons (.int _ _) (.cons (.str _ _) (.cons (ht6.up hs7.tl) .nil)))), .sys hga6, ?_⟩
        · have := ((((((E1.trans E2).trans E3).trans E8).trans E4).trans E5).trans E6).trans E7
          simpa using this
        · simp only [List.length_append, List.length_cons, List.length_nil, NT]; (first | lia | omega)
        · exact .le (.tup (all_cons fine_str (all_cons fine_int (all_cons fine_str (all_cons (.tup hf6) all_nil))))) (by simp only [DT]; (first | lia | omega))
  k_extra "GO"
  k_extra "W2"; intro x3 at3 t3 Z3 h3 tk3 S3 hx3 hs3 E3 n3
  k_extra "GO"
  refine ite_dec (fun hk9 => ?_) (fun hk9 => ?_)
  · k_extra "GO"
    k_extra "W1"; intro x4 r4 t4 h4 tk4 hp0 hp1 S4 hx4 E4 n4
    refine hideG fun GG hGG => ?_
    obtain ⟨c, rfl⟩ : ∃ c : Nat, r4 = (c : Int) := ⟨r4.toNat, by (first | lia | omega)⟩
    have hcm : (c + 1) * (NE j + 1) ≤ 3 * (NE j + 1) := Nat.mul_le_mul_right _ (by (first | lia | omega))
    have hcc : (1 : Int) + (c : Int) = ((c + 1 : Nat) : Int) := by (first | lia | omega)
    refine hGG ?_; clear hGG GG
    k_extra "GO"
    rw [hcc]
    refine St.useH (by assumption) (TL b x4 _ dp _ _ (c + 1) hx4 (by (first | lia | omega)) (by (first | lia | omega)) (by (first | lia | omega)) (by (first | lia | omega))) hh (by first | exact dlti hd2.1 (by k_extra "DLE") | (unfold dE at hd ⊢; (first | lia | omega))) (by first | exact dlti hd2.2 (by k_extra "DLE") | (unfold uE at hu ⊢; (first | lia | omega))) fun qH kH v5 R5 Z5 h5 tk5 S5 P => ?_
    obtain ⟨x5, O5, ts5, e5, rfl, hx5, hs5, E5, hn5, rfl, ds5, ht5, hga5, hgi5, hf5⟩ := P
    have n5 := E5.len
    k_extra "GO"
    k_extra "W2"; intro x6 at6 t6 Z6 h6 tk6 S6 hx6 hs6 E6 n6
    k_extra "GO"
    (repeat' with_reducible k_extra "UNH"); k_extra "RETC"
    refine ⟨x6, [], op "{" at3 :: (ts5 ++ [op "}" at6]), e5, rfl, hx6.up (Sub.tl .rfl), hs3.trans (hs5.trans hs6.tl), ?_, ?_, rfl, _, .tup mem_hd IsT.of (.cons (.str _ _) (.cons (.int _ _) (.cons (ht5.up hs6.tl) .nil))), .cat (hgi5 (by (first | lia | omega))), ?_⟩
    · have := (((E1.trans E3).trans E4).trans E5).trans E6
      simpa using this
    · simp only [List.length_append, List.length_cons, List.length_nil, NT]; (first | lia | omega)
    · exact .le (.tup (all_cons fine_str (all_cons fine_int (all_cons (.tup hf5) all_nil)))) (by simp only [DT]; (first | lia | omega))
  k_extra "GO"
  refine St.useT (by assumption) (TE b x3 _ (dp + 1) _ hx3 (by (first | lia | omega)) (by (first | lia | omega)) (by (first | lia | omega))) hh (by first | exact dlti hd2.1 (by k_extra "DLE") | (unfold dE at hd ⊢; (first | lia | omega))) (by first | exact dlti hd2.2 (by k_extra "DLE") | (unfold uE at hu ⊢; (first | lia | omega))) fun qH kH v4 x4 ts4 e4 d4 Z4 h4 tk4 S4 hx4 hs4 E4 hn4 ht4 hgx4 hf4 => ?_
  have n4 := E4.len
  k_extra "GO"
  k_extra "W2"; intro x5 at5 t5 Z5 h5 tk5 S5 hx5 hs5 E5 n5
  k_extra "GO"
  k_extra "W1"; intro x6 r6 t6 h6 tk6 hp0 hp1 S6 hx6 E6 n6
  refine hideG fun GG hGG => ?_
  obtain ⟨c, rfl⟩ : ∃ c : Nat, r6 = (c : Int) := ⟨r6.toNat, by (first | lia | omega)⟩
  have hcm : (c + 1) * (NE j + 1) ≤ 2 * (NE j + 1) := Nat.mul_le_mul_right _ (by (first | lia | omega))
  have hcc : (1 : Int) + (c : Int) = ((c + 1 : Nat) : Int) := by (first | lia | omega)
  refine hGG ?_; clear hGG GG
  k_extra "GO"
  rw [hcc]
  refine St.useH (by assumption) (TL b x6 _ dp _ _ (c + 1) hx6 (by (first | lia | omega)) (by (first | lia | omega)) (by (first | lia | omega)) (by (first | lia | omega))) hh (by first | exact dlti hd2.1 (by k_extra "DLE") | (unfold dE at hd ⊢; (first | lia | omega))) (by first | exact dlti hd2.2 (by k_extra "DLE") | (unfold uE at hu ⊢; (first | lia | omega))) fun qH kH v7 R7 Z7 h7 tk7 S7 P => ?_
  obtain ⟨x7, O7, ts7, e7, rfl, hx7, hs7, E7, hn7, rfl, ds7, ht7, hga7, hgi7, hf7⟩ := P
  have n7 := E7.len
  k_extra "GO"
  k_extra "W2"; intro x8 at8 t8 Z8 h8 tk8 S8 hx8 hs8 E8 n8
  k_extra "GO"
  k_extra "W2"; intro x9 at9 t9 Z9 h9 tk9 S9 hx9 hs9 E9 n9
  k_extra "GO"
  (repeat' with_reducible k_extra "UNH"); k_extra "RETC"
  refine ⟨x9, [], op "{" at3 :: (ts4 ++ op "{" at5 :: (ts7 ++ [op "}" at8, op "}" at9])), e4.or e7, rfl, hx9.up (Sub.tl .rfl), hs3.trans (hs4.trans (hs5.trans (hs7.trans (hs8.trans hs9.tl)))), ?_, ?_, rfl, _, .tup mem_hd IsT.of (.cons (.str _ _) (.cons (.int _ _) (.cons (ht4.up (hs5.trans (hs7.trans (hs8.trans hs9.tl)))) (.cons (ht7.up (hs8.trans hs9.tl)) .nil)))), .rep hgx4 (hgi7 (by (first | lia | omega))), ?_⟩
  · have := ((((((E1.trans E3).trans E4).trans E5).trans E6).trans E7).trans E8).trans E9
    simpa [Option.or_assoc] using this
  · simp only [List.length_append, List.length_cons, List.length_nil, NT]; (first | lia | omega)
  · exact .le (n := DE j + 1 + 1) (.tup (all_cons fine_str (all_cons fine_int (all_cons (hf4.le (by (first | lia | omega))) (all_cons (.tup hf7) all_nil))))) (by simp only [DT]; (first | lia | omega))

theorem all_spec {w : World} : ∀ k, ExprS w k ∧ ListS w k ∧ SelS w k ∧ RowS w k
  | 0 => by
    have t : TermS w 0 := term_spec fun j h => by (first | lia | omega)
    have r : RowS w 0 := row_spec (oper_spec t) fun j h => by (first | lia | omega)
    have e := expr_spec r
    exact ⟨e, list_spec e, sel_spec e, r⟩
  | k + 1 => by
    obtain ⟨e0, l0, s0, r0⟩ := all_spec (w := w) k
    have t : TermS w (k + 1) := term_spec fun j h => by obtain rfl : k = j := by (first | lia | omega)
                                                        exact ⟨e0, l0, s0⟩
    have r : RowS w (k + 1) := row_spec (oper_spec t) fun j h => by obtain rfl : k = j := by (first | lia | omega)
                                                                    exact r0
    have e := expr_spec r
    exact ⟨e, list_spec e, sel_spec e, r⟩
/-- the builder, whole -/
theorem build_spec {w : World} : ExprS w 3 := (all_spec 3).1

noncomputable abbrev excMro : List Value := [.ref 39, .type "Exception", .type "BaseException", .type "object"]
noncomputable abbrev cls52 : Obj := { cls := .type "type", data := .cls { name := "SourceError", bases := [.ref 39], mro := .ref 52 :: excMro, ns := 51, qualname := "SourceError" }, slots := #[some (.ref 43), none, some (.str "SourceError" 232), some (.str "SourceError" 240), some (.builtin "Exception.__new__"), some (.bool true)] }
theorem at52 {w : World} : (Hd.KF w.params).lookup 52 = some cls52 := by k_is
theorem fnd52 {w : World} : findIn (Hd.KF w.params) (.ref 52) "__init__" = some (some (.ref 36)) := by k_is
theorem spc52 {w : World} : specialIn (Hd.KF w.params) (.ref 52) "__call__" = some (some (.builtin "type.__call__")) := by k_is
theorem ins52 {w : World} : instIn (Hd.KF w.params) (.ref 52) (.type "type") = some true := by k_is
theorem typ36 {w : World} : typeIn (Hd.KF w.params) (.ref 36) = some (.type "function") := by k_is
theorem cls_52 {w : World} : clsIn (Hd.KF w.params) 52 = some { name := "SourceError", bases := [.ref 39], mro := .ref 52 :: excMro, ns := 51, qualname := "SourceError" } := by k_is
noncomputable abbrev excO (t : Addr) (dd : Option Addr) : Obj := { cls := .ref 52, dict := dd, data := .fields #[.ref t, .none, .none, .none, .bool false, .none] }
noncomputable abbrev excT (vs : List Value) : Obj := { cls := .type "tuple", data := .seq vs.toArray }
section
variable {w : World} {A : Around} {R : Result → Shared → Prop} {E : Value → Shared → Prop} {h : Heap} {g : Array GenState} {d : Drawn} {t : Nat} {os : OsState}
theorem sub52 {M : Model} {T : Value} (X : (Hd.KF w.params).In h) (e : (Value.ref 52 :: excMro).contains T = true) : Looks M h (isSubtype (.ref 52) T) true :=
  looks_mroIn X (by unfold mroIn; rw [cls_52, Option.bind_some, if_neg (by decide), e])
theorem exc_new {rest : List Value} (X : (Hd.KF w.params).In h)
    (hq : R (.ok (.ret (.ref (h.objs.size + 1)))) ⟨(h.push (excT rest)).push (excO h.objs.size none), g, d, t, os⟩) (hrest : rest.length ≤ 1000) :
    codeAny (model PR w) A (.call (.builtin "Exception.__new__") ⟨.ref 52 :: rest, []⟩) R ⟨h, g, d, t, os⟩ := by
  have Fn := PySem.F.excBase_Exception
  have hC : h.get? 52 = some cls52 := X _ _ at52
  have hcB : (Value.ref 52 :: excMro).contains (.type "Exception") = true := by decide +kernel
  have hcA : (Value.ref 52 :: excMro).contains (.type "AttributeError") = false := by decide +kernel
  have hcN : (Value.ref 52 :: excMro).contains (.type "NameError") = false := by decide +kernel
  have hstar := Fn.noStar
  have hends := Fn.ends
  have hz : rest.length ≤ sizeLine := by rw [sizeLine_eq]; (first | lia | omega)
  refine codeAny_call_builtin_code (Code.quiet_builtin _ Fn.quiet) ?_
  · simp only [checkBuiltinCall, Fn.newKind, Fn.newSplit, Fn.newRow]
    repeat (first | refine wpAny_loadPart_at hC ?_ | (refine wpAny_isSubtype_exc hC ?_; rw [hcB]) | refine wpAny_staticBase_exc hC ?_ | refine wpAny_madeBy_exc hC ?_ | simp only [bne_self_eq_false, Bool.false_eq_true, if_false] | wp_step)
    refine codeAny_builtinAt Fn.entry ?_
    unfold Builtin.«BaseException.__new__»
    refine PySem.wpAt_bind ?_
    show PySem.wpAt _ _ _ (stack >>= _) _ _ _
    refine PySem.wpAt_bind (PySem.wpAt_stack fun p below => PySem.wpAt_of_wpAny ?_)
    wp_walk
    refine PySem.wpAt_of_wpAny ?_
    rw [Fn.owner]
    repeat (first | with_reducible refine wpAny_madeHere_exc Fn.canon hC ?_ | with_reducible refine wpAny_loadPart_at hC ?_ | (with_reducible refine wpAny_isSubtype_exc hC ?_; first | rw [hcB] | rw [hcA] | rw [hcN]) | wp_step)
    show R _ _
    rw [Heap.size_push]
    exact hq
end

section
variable {w : World} {A : Around} {R : Result → Shared → Prop} {E : Value → Shared → Prop} {h : Heap} {g : Array GenState} {d : Drawn} {t : Nat} {os : OsState}
theorem nd_load' {α : Type} {M : Model} {A : Around} {E : Value → Shared → Prop} {Q : α → Shared → Prop} {s : Shared} {a : Addr} {p : Option Value} {k : Obj → Sem α} {o : Obj} (ho : s.heap.get? a = some o) (h : wpAny M A (k o) Q E s) : wpAny M A (.load a p k) Q E s := fun Γ q hΓ => ⟨o, ho, h Γ q hΓ⟩
theorem made52 {M : Model} (hC : h.get? 52 = some cls52) : Looks M h (Bind.madeBy (.ref 52)) (some "Exception.__new__") := by
  intro A Q E s k q
  obtain ⟨h', g, d, t, os⟩ := s
  exact wpAny_madeBy_exc (k _ _ hC) q
theorem make_exc {rest : List Value} (X : (Hd.KF w.params).In h) (hrest : rest.length ≤ 1000)
    (hq : codeAny (model PR w) (A.under (.builtin "type.__call__" ⟨.ref 52 :: rest, []⟩)) (.call (.ref 36) ⟨.ref (h.objs.size + 1) :: rest, []⟩) (InitBack (h.objs.size + 1) R) ⟨(h.push (excT rest)).push (excO h.objs.size none), g, d, t, os⟩) :
    codeAny (model PR w) A (.call (.ref 52) ⟨rest, []⟩) R ⟨h, g, d, t, os⟩ := by
  have hC : h.get? 52 = some cls52 := X _ _ at52
  have call : Looks (model PR w) h (specialOf (.ref 52) "__call__") (some (.builtin "type.__call__")) := looks_specialIn X spc52
  have typ : Looks (model PR w) h (isInstance (.ref 52) (.type "type")) true := looks_instIn X ins52
  have made := made52 (M := model PR w) hC
  have hi : Looks (model PR w) h (typeLookup (.ref 52) "__init__") (some (.ref 36)) := looks_findIn X fnd52
  have self : Looks (model PR w) h (isSubtype (.ref 52) (.ref 52)) true := sub52 X (by decide +kernel)
  have hb : ∀ self, Looks (model PR w) h (bindSpecial (.ref 36) self) (.ref 36, [self]) := fun self => bind_fn X self typ36
  refine codeAny_of_tree ?_
  show wpAny _ _ (callAny (.ref 52) _) _ _ _
  refine nd_load' hC ?_
  show wpAny _ _ (callAny.viaDunder (.ref 52) _) _ _ _
  unfold callAny.viaDunder
  refine wpAny_bind (call.at ?_)
  try dsimp only
  rw [tc_bind]
  refine wpAny_bind (wpAny_pure (wpAny_bind (wpAny_pure ?_)))
  refine wpAny_pure (a := Fin.again (.call (.builtin "type.__call__") ⟨.ref 52 :: rest, []⟩)) (And.intro rfl ?_)
  refine codeAny_call_builtin_at (Code.quiet_builtin _ (by decide +kernel)) entry_typeCall (check_slot tc_kind tc_split typ (tc_args _ _ _) ?_)
  unfold Builtin.«type.__call__»
  have hm : Looks (model PR w) h (mroOf (.ref 52)) (.ref 52 :: excMro) := (looks_clsIn X cls_52).andThen .now
  have e4 : (Value.ref 52 :: excMro).isEmpty = false := rfl
  repeat (first | simp only [e4, Bool.false_eq_true, if_false] | with_reducible refine wpAny_call ?_ | lk)
  refine exc_new X ?_ hrest
  have k : ∀ b o, h.get? b = some o → ((h.push (excT rest)).push (excO h.objs.size none)).get? b = some o := fun b o e => Heap.get?_push_of_some _ (Heap.get?_push_of_some _ e)
  have hx : ((h.push (excT rest)).push (excO h.objs.size none)).get? (h.objs.size + 1) = some (excO h.objs.size none) := by heap_get
  have t1 : Looks (model PR w) ((h.push (excT rest)).push (excO h.objs.size none)) (typeOf (.ref (h.objs.size + 1))) (.ref 52) := (Looks.ld hx).andThen .now
  have s1 := self.keeps k
  have i1 := hi.keeps k
  have b1 := (hb (.ref (h.objs.size + 1))).keeps k
  unfold isInstance callSpecial? specialOf
  repeat (first | with_reducible refine wpAny_call ?_ | lk)
  refine codeAny_mono hq fun r s' z => ?_
  rcases r with e | (v | _ | _ | _) <;> first | exact z | exact z.elim | skip
  obtain ⟨rfl, z⟩ := z
  exact wpAny_pure (wpAny_pure z)
end

section
variable {w : World} {A : Around} {R : Result → Shared → Prop} {E : Value → Shared → Prop} {s : Shared} {name : Str} {v : Value} {x dx : Addr} {ox : Obj} {tk : Tok}
theorem ost_open {b : Bool} (X : (Hd.KF w.params).In s.heap) (hx : s.heap.get? x = some ox) (hc : ox.cls = .ref 52) (ht : takerIn (Hd.KF w.params) 52 name = some none)
    (h : ∀ b, wpAny (model PR w) A.in1 (Builtin.ObjectAttr.storeInOwnDict (.ref x) (.ref 52) (.str name tk) name v b)
      (fun fin s' => match fin with | .done f => R (.ok f) s' | .again c' => c'.quiet = true ∧ codeAny (model PR w) A c' R s') (fun e s' => R (.error e) s') s) :
    codeAny (model PR w) A (.call (.builtin "object.__setattr__") ⟨[.ref x, .str name tk, v], []⟩) R s := by
  have SF := PySem.F.store_Exception
  have ty : Looks (model PR w) s.heap (typeOf (.ref x)) (.ref 52) := hc ▸ (Looks.ld hx).andThen .now
  have sub : Looks (model PR w) s.heap (isInstance (.ref x) (.type "object")) true := ty.andThen (sub52 X (by decide +kernel))
  refine codeAny_call_builtin SF.slot.plain SF.entry (@check_slot (model PR w) _ _ s "object.__setattr__" "object" "__setattr__" (.ref x) [.str name tk, v] [] _ SF.kind SF.split sub (SF.args (.ref x) (.str name tk) v) ?_)
  obtain ⟨attr, ha, hr⟩ := Option.bind_eq_some_iff.mp ht
  have hm : Looks (model PR w) s.heap (mroOf (.ref 52)) (.ref 52 :: excMro) := (looks_clsIn X cls_52).andThen .now
  have L3 : Looks (model PR w) s.heap (Builtin.ObjectAttr.storeTaker? attr) none := by
    cases attr with
    | none => exact .now
    | some a =>
      obtain ⟨b, hb, hb'⟩ := Option.map_eq_some_iff.mp hr
      refine (looks_takesIn X hb).andThen ?_
      cases b <;> first | exact .now | cases hb'
  rw [osa_eq, refuse_eq]
  refine wpAny_bind (wpAny_bind (ty.here (wpAny_bind (hm.here ?_))))
  rw [refuseLoop_ref, refuseLoop_ref, SF.passes]
  refine wpAny_pure (wpAny_bind (ty.here (wpAny_bind ((looks_findIn X ha).here (wpAny_bind (L3.here ?_))))))
  exact h _
end

section
variable {w : World} {A : Around} {R : Result → Shared → Prop} {E : Value → Shared → Prop} {s : Shared} {name : Str} {v : Value} {x dx : Addr} {ox : Obj} {tk : Tok}
theorem put_free (f : Str) (hs : Int) (k v : Value) (es : List DictEntry) (n : Nat) : (Obj.putName f hs k v (dictOf es n)).isFreed = false := by rw [putName_dict]; rfl
set_option tactic.hygienic true in
/-- a store into the object's own dict -/
theorem ost_dict {es : List DictEntry} {n : Nat} (X : (Hd.KF w.params).In s.heap) (hx : s.heap.get? x = some ox) (hc : ox.cls = .ref 52) (hd' : ox.dict = some dx) (ht : takerIn (Hd.KF w.params) 52 name = some none)
    (D : s.heap.get? dx = some (dictOf es n)) (hl : (getL name es).isSome = true) (hz : es.length ≤ 1000)
    (h : R (.ok (.ret .none)) { s with heap := s.heap.update dx (Obj.putName name (PyData.keyHash w.params name) (.str name s.toks) v), toks := s.toks + 1 }) :
    codeAny (model PR w) A (.call (.builtin "object.__setattr__") ⟨[.ref x, .str name tk, v], []⟩) R s := by
  refine ost_open (b := true) X hx hc ht fun b => ?_
  obtain ⟨oc, odi, oda, osl⟩ := ox
  dsimp only at hc hd'
  subst hc hd'
  refine wpAny_bind (wpAny_pure (wpAny_bind (wpAny_bind (wpAny_loadPart hx (wpAny_bind ((looks_clsIn X cls_52).here ?_))))))
  refine wpAny_pure (a := some dx) (wpAny_bind (wpAny_pure (wpAny_bind ?_)))
  unfold nsSet
  refine wpAny_bind (wpAny_bind (wpAny_askSetting (wpAny_pure (wpAny_bind (wpAny_mkText (wpAny_bind (wpAny_loadPart D ?_)))))))
  try dsimp only
  have c : (!es.toArray.any (·.key.isStr name) && es.toArray.any (·.refKey)) = false := by
    rw [← Array.any_toList, ← Array.any_toList]
    unfold getL at hl
    split at hl
    · rename_i en he
      rw [List.any_eq_true.mpr ⟨en, List.mem_of_find?_eq_some he, List.find?_some he⟩]; rfl
    · split at hl
      · cases hl
      · rename_i z; rw [Bool.not_eq_true] at z; rw [z, Bool.and_false]
  rw [aRefKeyMayBeTheName_at, c]
  refine wpAny_updatePart D ?_
  have D' := Heap.get?_update_self (Obj.putName name (PyData.keyHash w.params name) (.str name s.toks) v) D (put_free _ _ _ _ _ _)
  rw [putName_dict] at D'
  have lp : ∀ (es : List DictEntry), (putL name (PyData.keyHash w.params name) (.str name s.toks) v es).length ≤ es.length + 1 := by
    intro es
    induction es with
    | nil => simp [putL]
    | cons e r ih => simp only [putL]; split <;> simp only [List.length_cons] <;> (first | lia | omega)
  have := lp es
  refine wpAny_bind (wpAny_lookBehind D' (pastItsLine_dict (by rw [List.size_toArray, sizeLine_eq]; (first | lia | omega))) ?_)
  exact wpAny_pure h
/-- the first store: the object gets its dict -/
theorem ost_first {t : Addr} (X : (Hd.KF w.params).In s.heap) (hx : s.heap.get? x = some (excO t none)) (ht : takerIn (Hd.KF w.params) 52 name = some none)
    (h : R (.ok (.ret .none)) { s with heap := ((s.heap.push emptyDict).update x (fun o => { o with dict := some s.heap.objs.size })).update s.heap.objs.size (Obj.putName name (PyData.keyHash w.params name) (.str name s.toks) v), toks := s.toks + 1 }) :
    codeAny (model PR w) A (.call (.builtin "object.__setattr__") ⟨[.ref x, .str name tk, v], []⟩) R s := by
  refine ost_open (b := true) X hx rfl ht fun b => ?_
  have hne : s.heap.objs.size ≠ x := Nat.ne_of_gt (Heap.lt_size hx)
  refine wpAny_bind (wpAny_pure (wpAny_bind (wpAny_bind (wpAny_loadPart hx (wpAny_bind ((looks_clsIn X cls_52).here ?_))))))
  show wpAny _ _ (alloc emptyDict >>= fun d => update x (fun o => { o with dict := some d }) >>= fun u_ => dictMade (.ref 52) x d) _ _ _
  refine wpAny_bind (wpAny_alloc (wpAny_bind (wpAny_update (Heap.get?_push_of_some _ hx) ?_)))
  refine wpAny_pure (a := some s.heap.objs.size) (wpAny_bind (wpAny_pure (wpAny_bind ?_)))
  have D : ((s.heap.push emptyDict).update x (fun o => { o with dict := some s.heap.objs.size })).get? s.heap.objs.size = some (dictOf [] 0) := by
    rw [Heap.get?_update_other _ _ (Ne.symm hne)]
    exact Heap.get?_push_size _ rfl
  unfold nsSet
  refine wpAny_bind (wpAny_bind (wpAny_askSetting (wpAny_pure (wpAny_bind (wpAny_mkText (wpAny_bind (wpAny_loadPart D ?_)))))))
  try dsimp only
  rw [aRefKeyMayBeTheName_at, show (!([] : List DictEntry).toArray.any (·.key.isStr name) && ([] : List DictEntry).toArray.any (·.refKey)) = false from by simp]
  refine wpAny_updatePart D ?_
  have D' := Heap.get?_update_self (Obj.putName name (PyData.keyHash w.params name) (.str name s.toks) v) D (put_free _ _ _ _ _ _)
  rw [putName_dict] at D'
  refine wpAny_bind (wpAny_lookBehind D' (pastItsLine_dict (by rw [List.size_toArray, sizeLine_eq]; simp [putL])) ?_)
  exact wpAny_pure h
end

/-- each object keeps its dict -/
noncomputable def DK (h h' : Heap) : Prop := ∀ b o, h.get? b = some o → ∃ o', h'.get? b = some o' ∧ o'.dict = o.dict
theorem DK.refl (h : Heap) : DK h h := fun u_ o e => ⟨o, e, rfl⟩
theorem DK.trans {a b c : Heap} (x : DK a b) (y : DK b c) : DK a c := fun i o e => by
  obtain ⟨o1, e1, d1⟩ := x i o e
  obtain ⟨o2, e2, d2⟩ := y i o1 e1
  exact ⟨o2, e2, d2.trans d1⟩
theorem DK.push (h : Heap) (o : Obj) : DK h (h.push o) := fun u_ o' e => ⟨o', Heap.get?_push_of_some _ e, rfl⟩
theorem DK.upd (h : Heap) (a : Addr) (f : Obj → Obj) (hf : ∀ o, (f o).dict = o.dict ∧ (o.isFreed = false → (f o).isFreed = false)) : DK h (h.update a f) := fun b o e => by
  by_cases hb : b = a
  · subst hb
    exact ⟨f o, Heap.get?_update_self f e ((hf o).2 (Heap.get?_some_iff.mp e).2), (hf o).1⟩
  · exact ⟨o, (Heap.get?_update_ne _ _ _ _ hb).trans e, rfl⟩
structure KD {α : Type} (t : Sem α) : Prop where
  out : ∀ (M : Model) (Γ : PySem.Ctx) (P : α → Pos → Shared → Prop) (Ee : Value → Pos → Shared → Prop) (p : Pos) (s : Shared), Sem.wp M Γ t P Ee p s → Sem.wp M Γ t (fun a p' s' => P a p' s' ∧ DK s.heap s'.heap) Ee p s
namespace KD
variable {α β : Type}
theorem pure (a : α) : KD (Pure.pure a : Sem α) := ⟨fun u_ u_ u_ u_ u_ u_ h => ⟨h, .refl _⟩⟩
theorem unsupported (w : String) : KD (PySem.unsupported w : Sem α) := ⟨fun u_ u_ u_ u_ u_ u_ h => h.elim⟩
theorem bind {m : Sem α} {f : α → Sem β} (hm : KD m) (hf : ∀ a, KD (f a)) : KD (m >>= f) := ⟨fun M Γ P Ee p s h => by
  rw [Sem.wp_bind'] at h ⊢
  refine Sem.wp_mono M Γ m (fun a p' s' h' => ?_) (fun u_ u_ u_ x => x) p s (hm.out M Γ _ Ee p s h)
  exact Sem.wp_mono M Γ (f a) (fun b p2 s2 h2 => ⟨h2.1, h'.2.trans h2.2⟩) (fun u_ u_ u_ x => x) p' s' ((hf a).out M Γ P Ee p' s' h'.1)⟩
theorem ite {c : Prop} [Decidable c] {t u : Sem α} (ht : KD t) (hu : KD u) : KD (if c then t else u) := by split <;> assumption
theorem load (a : Addr) : KD (PySem.load a) := ⟨fun M Γ P Ee p s h => by
  unfold PySem.load at h ⊢
  rw [Sem.wp_load] at h ⊢
  obtain ⟨o, e, h⟩ := h
  exact ⟨o, e, h, .refl _⟩⟩
theorem update (a : Addr) (f : Obj → Obj) (hf : ∀ o, (f o).dict = o.dict ∧ (o.isFreed = false → (f o).isFreed = false)) : KD (PySem.update a f) := ⟨fun M Γ P Ee p s h => by
  rw [Sem.wp_cmd_update] at h ⊢
  exact ⟨h.1, h.2, .upd _ _ _ hf⟩⟩
theorem stack : KD PySem.stack := ⟨fun M Γ P Ee p s h => by
  unfold PySem.stack at h ⊢
  rw [Sem.wp_stack] at h ⊢
  exact ⟨h, .refl _⟩⟩
theorem alloc (o : Obj) : KD (PySem.alloc o) := ⟨fun M Γ P Ee p s h => ⟨h, .push _ _⟩⟩
end KD

theorem ksetK : True := by
  k_with "KD" => repeat' with_reducible first | assumption | exact KD.pure _ | exact KD.unsupported _ | exact KD.load _ | exact KD.stack | exact KD.alloc _ | apply KD.ite | apply KD.bind | intro _ | split
  trivial
theorem free_map (f : Array Value → Array Value) (o : Obj) : (Obj.mapFields f o).dict = o.dict ∧ (o.isFreed = false → (Obj.mapFields f o).isFreed = false) := by
  obtain ⟨c, d, dt, sl⟩ := o
  cases dt <;> exact ⟨rfl, fun h => h⟩
theorem KD.fieldsOf (v : Value) : KD (PySem.fieldsOf v) := by unfold PySem.fieldsOf; k_extra "KD"
theorem KD.field (v : Value) (i : Nat) : KD (PySem.field v i) := by
  have := KD.fieldsOf v
  unfold PySem.field; k_extra "KD"
theorem KD.updateField (a : Addr) (i : Nat) (x : Value) : KD (PySem.updateField a i x) := by
  have := KD.update a (Obj.mapFields (·.setIfInBounds i x)) (free_map _)
  unfold PySem.updateField; k_extra "KD"
theorem KD.setField (v : Value) (i : Nat) (x : Value) : KD (PySem.setField v i x) := by
  have := fun a => KD.updateField a i x
  unfold PySem.setField
  cases v <;> first | exact this _ | k_extra "KD"
theorem KD.newFields (ty : String) (vs : List Value) : KD (PySem.newFields ty vs) := by
  unfold PySem.newFields PySem.newObj PySem.newObjAsIs
  k_extra "KD"
theorem KD.behindIsImport (env : Env) (outer : List Env) : KD (PySem.behindIsImport env outer) := by
  have := KD.field env.code 12
  unfold PySem.behindIsImport; k_extra "KD"
theorem KD.underTheClaimsCaller : KD PySem.underTheClaimsCaller := by
  unfold PySem.underTheClaimsCaller; k_extra "KD"
theorem KD.keptBack (env : Env) (i : Bool) (l : List Env) : KD (PySem.keptBack env i l) := by
  have := KD.underTheClaimsCaller
  cases l <;> unfold PySem.keptBack <;> k_extra "KD"
theorem KD.readyFrames : ∀ l : List Env, KD (PySem.readyFrames l)
  | [] => KD.pure _
  | env :: outer => by
    have ih := KD.readyFrames outer
    have h1 := KD.behindIsImport env outer
    have h2 := fun i => KD.keptBack env i outer
    unfold PySem.readyFrames
    k_extra "KD"
    all_goals first | exact h2 _ | (refine KD.update _ _ fun o => ⟨rfl, fun h => ?_⟩; obtain ⟨c, d, dt, sl⟩ := o; cases dt <;> first | rfl | exact h) | skip
theorem KD.frameObject (l : List Env) : KD (PySem.frameObject l) := by
  cases l with
  | nil => exact KD.pure _
  | cons env outer =>
    have := KD.readyFrames (env :: outer)
    unfold PySem.frameObject
    k_extra "KD"
theorem KD.frameEnvs : KD PySem.frameEnvs := by unfold PySem.frameEnvs; k_extra "KD"
theorem KD.frameOf (env : Env) : KD (PySem.frameOf env) := by
  have h1 := KD.frameEnvs
  have h2 := KD.frameObject
  unfold PySem.frameOf
  k_extra "KD"
  all_goals first | exact h2 _ | skip
theorem KD.entryPlaceOf (f : Addr) (b : Bool) : KD (PySem.entryPlaceOf f b) := by unfold PySem.entryPlaceOf; k_extra "KD"
theorem KD.newEntry (a b c d e : Value) (l : List Value) : KD (EntryCells.newEntry a b c d e l) := KD.newFields _ _
theorem KD.noteFrame (e : Value) (env : Env) : KD (PySem.noteFrame e env) := by
  have h1 := KD.field
  have h2 := KD.setField
  have h3 := KD.frameOf env
  have h4 := KD.entryPlaceOf
  have h5 := KD.newEntry
  unfold PySem.noteFrame
  k_extra "KD"
  all_goals first | exact h1 _ _ | exact h2 _ _ _ | exact h4 _ _ | exact h5 _ _ _ _ _ _ | skip
theorem KD.setFlight (e : Value) (f : Option Addr) : KD (PySem.setFlight e f) := by
  have h1 := KD.field
  have h2 := KD.setField
  unfold PySem.setFlight
  k_extra "KD"
  all_goals first | exact h1 _ _ | exact h2 _ _ _ | skip
theorem KD.leaving (env : Env) (e : Value) : KD (PySem.leaving env e) := KD.bind (KD.noteFrame _ _) fun u_ => KD.setFlight _ _
theorem KD.any {α : Type} {t : Sem α} (k : KD t) {M : Model} {A : Around} {Q : α → Shared → Prop} {E : Value → Shared → Prop} {s : Shared} (h : wpAny M A t Q E s) : wpAny M A t (fun a s' => Q a s' ∧ DK s.heap s'.heap) E s :=
  fun Γ p hΓ => k.out M Γ _ _ p s (h Γ p hΓ)

inductive AttE : Str → Prop
  | a : AttE "kind" | b : AttE "at" | c : AttE "detail"
theorem AttE.tk {w : World} {x : Str} (h : AttE x) : takerIn (Hd.KF w.params) 52 x = some none := by cases h <;> k_is
theorem AttE.fi {w : World} {x : Str} (h : AttE x) : findIn (Hd.KF w.params) (.ref 52) x = some none := by cases h <;> k_is
theorem set52 {w : World} : findIn (Hd.KF w.params) (.ref 52) "__setattr__" = some (some (.builtin "object.__setattr__")) := by k_is
theorem ga52 {w : World} : findIn (Hd.KF w.params) (.ref 52) "__getattribute__" = some (some (.builtin "BaseException.__getattribute__")) := by k_is
theorem gt52 {w : World} : findIn (Hd.KF w.params) (.ref 52) "__getattr__" = some none := by k_is
section
variable {w : World} {A : Around} {E : Value → Shared → Prop} {env : Env} {g : Heap} {L : Addr} {ns gs : List Str} {vs vs' : List (Option Value)} {own R Z : Led}
  {h : Heap} {ge : Array GenState} {dr : Drawn} {tk : Nat} {os : OsState}
/-- setAttr on an exception of the own class -/
theorem sa52 {x : Addr} {ox : Obj} {name : Str} {v : Value} {Q : Unit → Shared → Prop} (S : St w g L ns vs own R Z h) (hx : h.get? x = some ox) (hc : ox.cls = .ref 52)
    (h1 : codeAny (model PR w) A (.call (.builtin "object.__setattr__") ⟨[.ref x, .str name tk, v], []⟩) (fun r s' => match r with | .ok (.ret _) => Q () s' | .ok _ => False | .error e => E e s') ⟨h, ge, dr, tk + 1, os⟩) :
    wpAny (model PR w) A (setAttr (.ref x) name v) Q E ⟨h, ge, dr, tk, os⟩ := by
  have X := S.gx.X.keeps S.F.keep
  have ty : Looks (model PR w) h (typeOf (.ref x)) (.ref 52) := hc ▸ (Looks.ld hx).andThen .now
  refine wpAny_bind (wpAny_mkText (wpAny_bind (wpAny_bind (wpAny_bind (ty _ _ _ _ (fun u_ u_ e => e) (looks_findIn X set52 _ _ _ _ (fun u_ u_ e => e) (wpAny_holding ?_)))))))
  rw [PySem.F.store_object.slot.bind]
  refine wpAny_bind (wpAny_pure (wpAny_bind (wpAny_call (codeAny_mono h1 fun r s' z => ?_))))
  rcases r with e | (v | _ | _ | _) <;> first | exact z | exact wpAny_pure (wpAny_pure z)
theorem St.grow1 {p : Addr × Obj} (S : St w g L ns vs own R Z h) (hp : h.objs.size = p.1) (hf : p.2.isFreed = false) : St w g L ns vs own (p :: R) Z (h.push p.2) := by
  obtain ⟨a, o⟩ := p
  dsimp only at hp hf
  subst hp
  exact (S.push o hf).give
theorem saE1 {e t : Addr} {name : Str} {v : Value} {Q : Unit → Shared → Prop} (S : St w g L ns vs own ((e, excO t none) :: R) Z h) (a : AttE name)
    (k1 : ∀ d h' tk' tn, St w g L ns vs own ((e, excO t (some d)) :: (d, dictOf [⟨PyData.keyHash w.params name, .str name tn, v⟩] 1) :: R) Z h' → Q () ⟨h', ge, dr, tk', os⟩) :
    wpAny (model PR w) A (setAttr (.ref e) name v) Q E ⟨h, ge, dr, tk, os⟩ := by
  have hx : h.get? e = some (excO t none) := S.get (memR (.head _))
  have X := S.gx.X.keeps S.F.keep
  refine sa52 S hx rfl (ost_first (s := ⟨h, ge, dr, tk + 1, os⟩) X hx a.tk ?_)
  have hne : h.objs.size ≠ e := Nat.ne_of_gt (Heap.lt_size hx)
  have S1 := S.grow1 (p := (h.objs.size, emptyDict)) rfl rfl
  have u1 : Upd1 e (excO t none) ((h.objs.size, emptyDict) :: (e, excO t none) :: R) _ := .tail .head
  have g1 := Heap.get?_update_self (fun o => { o with dict := some h.objs.size }) (S1.get (memR u1.mem)) rfl
  have S2 := S1.mutR u1 (Heap.SameBut.update ..) g1
  have u2 : Upd1 h.objs.size emptyDict ((h.objs.size, emptyDict) :: (e, excO t (some h.objs.size)) :: R) _ := .head
  have g2 := Heap.get?_update_self (Obj.putName name (PyData.keyHash w.params name) (.str name (tk + 1)) v) (S2.get (memR u2.mem)) (put_free _ _ _ _ [] 0)
  have S3 := S2.mutR u2 (Heap.SameBut.update ..) g2
  rw [show Obj.putName name (PyData.keyHash w.params name) (.str name (tk + 1)) v emptyDict = dictOf [⟨PyData.keyHash w.params name, .str name (tk + 1), v⟩] 1 from putName_dict name _ _ _ [] 0] at S3
  exact k1 _ _ _ _ (S3.perm (List.Perm.append_left _ (List.Perm.append_right _ (List.Perm.swap _ _ _))))
theorem saE2 {e t d : Addr} {es es' : List DictEntry} {n n' : Nat} {name : Str} {v : Value} {Q : Unit → Shared → Prop} (S : St w g L ns vs own ((e, excO t (some d)) :: (d, dictOf es n) :: R) Z h) (a : AttE name)
    (hl : (getL name es).isSome = true) (he : (putL name (PyData.keyHash w.params name) (.str name (tk + 1)) v es, putN name es n) = (es', n')) (hz : es.length ≤ 1000)
    (k1 : ∀ h' tk', St w g L ns vs own ((e, excO t (some d)) :: (d, dictOf es' n') :: R) Z h' → Q () ⟨h', ge, dr, tk', os⟩) :
    wpAny (model PR w) A (setAttr (.ref e) name v) Q E ⟨h, ge, dr, tk, os⟩ := by
  have hx : h.get? e = some (excO t (some d)) := S.get (memR (.head _))
  have X := S.gx.X.keeps S.F.keep
  have u2 : Upd1 d (dictOf es n) ((e, excO t (some d)) :: (d, dictOf es n) :: R) _ := .tail .head
  have D := S.get (memR u2.mem)
  refine sa52 S hx rfl (ost_dict (s := ⟨h, ge, dr, tk + 1, os⟩) X hx rfl rfl a.tk D hl hz ?_)
  have g2 := Heap.get?_update_self (Obj.putName name (PyData.keyHash w.params name) (.str name (tk + 1)) v) D (put_free _ _ _ _ _ _)
  have S3 := S.mutR u2 (Heap.SameBut.update ..) g2
  obtain ⟨e1, e2⟩ := Prod.mk.inj he
  rw [putName_dict, e1, e2] at S3
  exact k1 _ _ S3
end

noncomputable abbrev excD (w : World) (t1 t2 t3 : Tok) (a b c : Value) : Obj :=
  dictOf [⟨PyData.keyHash w.params "kind", .str "kind" t1, a⟩, ⟨PyData.keyHash w.params "at", .str "at" t2, b⟩, ⟨PyData.keyHash w.params "detail", .str "detail" t3, c⟩] 3
set_option maxHeartbeats 4000000 in
theorem exc_init {w : World} {e t : Addr} {a b c : Value} {Z : Led} :
    CallC w 36 [.ref e, a, b, c] 1 10 [(e, excO t none)] Z (fun v R' Z' => Ex4 fun d t1 t2 t3 => An3 (v = .none) (R' = [(e, excO t (some d)), (d, excD w t1 t2 t3 a b c)]) (Z' = Z)) := by
  refine CallC.of (ns := ["self", "kind", "at", "detail"]) (gs := []) (rest := []) (binds := [("self", .ref e), ("kind", a), ("at", b), ("detail", c)]) (vs := [some (.ref e), some a, some b, some c]) (by k_is) (by k_is) (fun u_ X => binds_K X rfl (by k_is) rfl rfl rfl) (Ev.of (by decide)) (by decide) rfl rfl ?_
  intro g A ge dr os hh hd hu L' h₁ tk E V S pE
  k_extra "GO"
  refine saE1 (by assumption) .a fun d h2 tk2 tn2 S2 => ?_
  k_extra "GO"
  refine saE2 S2 .b (by k_dflt k_get) (by k_dflt k_put) (Nat.le_of_ble_eq_true rfl) fun h3 tk3 S3 => ?_
  k_extra "GO"
  refine saE2 S3 .c (by k_dflt k_get) (by k_dflt k_put) (Nat.le_of_ble_eq_true rfl) fun h4 tk4 S4 => ?_
  k_extra "GO"
  (repeat' with_reducible k_extra "UNH"); k_extra "RETC"
  exact ⟨d, _, _, _, rfl, rfl, rfl⟩

section
variable {w : World} {A : Around} {E : Value → Shared → Prop} {env : Env} {g : Heap} {L : Addr} {ns gs : List Str} {vs vs' : List (Option Value)} {own R Z : Led}
  {h : Heap} {ge : Array GenState} {dr : Drawn} {tk : Nat} {os : OsState}
theorem exc_make {a b c : Value} {Q : Value → Shared → Prop} (S : St w g L ns vs own R Z h) (hh : A.handled = none) (hd : A.depth + 3 < recursionLimit) (hu : A.units + 30 < cLine)
    (k1 : ∀ e t d t1 t2 t3 h' tk', St w g L ns vs own R ((e, excO t (some d)) :: (d, excD w t1 t2 t3 a b c) :: (t, excT [a, b, c]) :: Z) h' → Q (.ref e) ⟨h', ge, dr, tk', os⟩) :
    wpAny (model PR w) A (call (.ref 52) [a, b, c]) Q E ⟨h, ge, dr, tk, os⟩ := by
  refine wpAny_call (make_exc (S.gx.X.keeps S.F.keep) (by simp) ?_)
  have Sa := S.push (excT [a, b, c]) rfl
  have Sb := Sa.push (excO h.objs.size none) rfl
  rw [Heap.size_push] at Sb
  have S1 : St w g L ns vs (own ++ (R ++ Z)) [(h.objs.size + 1, excO h.objs.size none)] [(h.objs.size, excT [a, b, c])] _ := Sb.perm (by
    show ((own ++ (R ++ Z)) ++ [(h.objs.size + 1, excO h.objs.size none), (h.objs.size, excT [a, b, c])]).Perm ((h.objs.size + 1, excO h.objs.size none) :: (h.objs.size, excT [a, b, c]) :: (own ++ (R ++ Z)))
    exact List.perm_append_comm)
  refine S1.useC (s := ⟨_, ge, dr, tk, os⟩) exc_init hh ?_ ?_ fun v R' Z' h2 tk2 S2 P => ?_
  · show A.depth + _ + 1 < _
    have : (Code.builtin "type.__call__" ⟨[.ref 52, a, b, c], []⟩).weight = 1 := rfl
    rw [this]; (first | lia | omega)
  · show A.units + _ + 10 < _
    have : (Code.builtin "type.__call__" ⟨[.ref 52, a, b, c], []⟩).cUnits = 1 := rfl
    rw [this]; (first | lia | omega)
  · obtain ⟨d, t1, t2, t3, rfl, rfl, rfl⟩ := P
    refine ⟨rfl, k1 _ h.objs.size d t1 t2 t3 h2 tk2 (S2.perm ?_)⟩
    show (own ++ (R ++ ([(h.objs.size + 1, excO h.objs.size (some d)), (d, excD w t1 t2 t3 a b c), (h.objs.size, excT [a, b, c])] ++ Z))).Perm ((own ++ (R ++ Z)) ++ [(h.objs.size + 1, excO h.objs.size (some d)), (d, excD w t1 t2 t3 a b c), (h.objs.size, excT [a, b, c])])
    rw [← List.append_assoc, ← List.append_assoc own R Z, List.append_assoc (own ++ R)]
    exact List.Perm.append_left _ List.perm_append_comm
end
/-- an own exception in flight: what the law reads of it later is kept -/
noncomputable def Flown (w : World) (base : Heap) (l : List Env) (keep : Led) (at_ : Int) (e : Addr) (h : Heap) : Prop :=
  Ex9 fun B a0 dx t1 t2 t3 k1 a1 dv => An4 (base.StaysIn B) (∀ q ∈ (dx, excD w t1 t2 t3 (.str "expression_expected" k1) (.int at_ a1) dv) :: keep, B.get? q.1 = some q.2 ∧ base.get? q.1 = none)
    (Heap.FlyingW B l e (.ref 52) a0 h) (∃ oe, h.get? e = some oe ∧ oe.dict = some dx)
section
variable {w : World} {M : Model} {A : Around} {E : Value → Shared → Prop} {s' : Shared} {base g g₂ h : Heap} {outer : List Env} {L a e t dx : Addr} {m : Str → Option Value} {name : Str} {scope : Scope} {cd : Value} {Q : Unit → Shared → Prop} {keep : Led} {at_ : Int}
theorem leave_first {oe : Obj} {vs : Array Value} {a0 dv : Value} {t1 t2 t3 k1 a1 : Tok} (K : Below A base outer g) (F : Fr g L s'.heap m) (he : s'.heap.get? e = some oe) (hc : oe.cls = .ref 52) (hde : oe.dict = some dx) (hd : oe.data = .fields vs) (h1 : vs[1]? = some .none) (h0 : vs[0]? = some a0)
    (heL : e ≠ L) (heg : g.get? e = none) (N : ∀ q ∈ (dx, excD w t1 t2 t3 (.str "expression_expected" k1) (.int at_ a1) dv) :: keep, s'.heap.get? q.1 = some q.2 ∧ q.1 ≠ L ∧ g.get? q.1 = none ∧ q.1 ≠ e)
    (hQ : ∀ h', Flown w base outer keep at_ e h' → g.UpToSlots h' → Q () { s' with heap := h' }) (hk : scope.kind = .function := by rfl) :
    wpAny M (A.deeper (envOf name scope L a cd)) (leaving (envOf name scope L a cd) (.ref e)) Q E s' := by
  have K' := K.push (name := name) (a := a) (cd := cd) F hk
  have hfr : ∀ b ∈ (envOf name scope L a cd :: outer).filterMap (·.frame), b = L ∨ ∃ o, g.get? b = some o := fun b hm => by
    obtain ⟨env, he, hf⟩ := List.mem_filterMap.mp hm
    rcases List.mem_cons.mp he with rfl | he
    · exact .inl (Option.some.inj hf).symm
    · obtain ⟨o, ho, _⟩ := (K.frames.mem (List.mem_filterMap.mpr ⟨env, he, hf⟩)).2
      exact .inr ⟨o, ho⟩
  have hin : ∀ env ∈ (envOf name scope L a cd :: outer), ∀ b, env.frame = some b → b ∈ e :: (envOf name scope L a cd :: outer).filterMap (·.frame) := fun env he b hb => .tail _ (List.mem_filterMap.mpr ⟨env, he, hb⟩)
  have st : base.StaysIn (hideAll s'.heap (e :: (envOf name scope L a cd :: outer).filterMap (·.frame))) := fun b o q => hideAll_get _ (K'.stays b o q) fun hm => by
    rcases List.mem_cons.mp hm with rfl | hm
    · have := K.stays _ _ q; rw [heg] at this; cases this
    · rw [(K'.frames.mem hm).1] at q; cases q
  have hl : ∀ q ∈ (dx, excD w t1 t2 t3 (.str "expression_expected" k1) (.int at_ a1) dv) :: keep, (hideAll s'.heap (e :: (envOf name scope L a cd :: outer).filterMap (·.frame))).get? q.1 = some q.2 ∧ base.get? q.1 = none := fun q hq => by
    obtain ⟨n1, n2, n3, n4⟩ := N q hq
    refine ⟨hideAll_get _ n1 fun hm => ?_, fresh_of_stays K.stays n3⟩
    rcases List.mem_cons.mp hm with e1 | hm
    · exact n4 e1
    · rcases hfr _ hm with e1 | ⟨o, ho⟩
      · exact n2 e1
      · rw [n3] at ho; cases ho
  have hen : (hideAll s'.heap (e :: (envOf name scope L a cd :: outer).filterMap (·.frame))).get? e = none := hideAll_none _ (.head _)
  refine wpAny_mono (KD.any (KD.leaving _ _) (wpAny_leaving_firstW (a0 := a0) (Q := fun u_ s'' => ∃ h', s'' = { s' with heap := h' } ∧ Heap.LeftW (hideAll s'.heap (e :: (envOf name scope L a cd :: outer).filterMap (·.frame))) (envOf name scope L a cd :: outer) e oe.cls a0 s'.heap h') K'.stack (funFrames_hide K'.frames hin) rfl he (fun b o hb => of_hideAll _ hb) hen hd h1 h0 fun h' hL => ⟨h', rfl, hL⟩))
    (fun _ s'' ⟨⟨h', es, hL⟩, dk⟩ => ?_) fun u_ u_ x => x
  subst es
  obtain ⟨k1', ⟨_, _, k2⟩, k3, k4⟩ := hL
  obtain ⟨oe', he', hde'⟩ := dk _ _ he
  exact hQ h' ⟨_, a0, dx, t1, t2, t3, k1, a1, dv, st, hl, ⟨k1', hen, k2, by rw [← hc]; exact k3⟩, oe', he', hde'.trans hde⟩ ((Heap.UpToSlots.of_keeps F.keep).trans k4)
theorem leave_onX (K : Below A base outer g) (F : Fr g L g₂ m) (R : Flown w base (envOf name scope L a cd :: outer) keep at_ e s'.heap) (hsm : g₂.UpToSlots s'.heap)
    (hQ : ∀ h', Flown w base outer keep at_ e h' → g.UpToSlots h' → Q () { s' with heap := h' }) :
    wpAny M (A.deeper (envOf name scope L a cd)) (leaving (envOf name scope L a cd) (.ref e)) Q E s' := by
  obtain ⟨B, a0, dx, t1, t2, t3, k1, a1, dv, hB, hl, hfl, oe, he, hde⟩ := R
  refine wpAny_mono (KD.any (KD.leaving _ _) (wpAny_leaves_onW (Q := fun u_ s'' => ∃ h', s'' = { s' with heap := h' } ∧ Heap.FlyingW B outer e (.ref 52) a0 h' ∧ s'.heap.UpToSlots h') (Around.frames_deeper K.stack) rfl hfl fun h' x1 x2 => ⟨h', rfl, x1, x2⟩)) (fun _ s'' ⟨⟨h', es, x1, x2⟩, dk⟩ => ?_) fun u_ u_ x => x
  subst es
  obtain ⟨oe', he', hde'⟩ := dk _ _ he
  exact hQ h' ⟨B, a0, dx, t1, t2, t3, k1, a1, dv, hB, hl, x1, oe', he', hde'.trans hde⟩ ((Heap.UpToSlots.of_keeps F.keep).trans (hsm.trans x2))
end

section
variable {w : World} {A : Around} {E : Value → Shared → Prop} {env : Env} {g : Heap} {L : Addr} {ns gs : List Str} {vs vs' : List (Option Value)} {own R Z : Led}
  {h : Heap} {ge : Array GenState} {dr : Drawn} {tk : Nat} {os : OsState}
theorem raise52 {x : Expr} {pos : Pos} {s : Shared} {Q : Flow → Shared → Prop} (hh : A.handled = none)
    (h1 : wpAny (model PR w) A (eval x env) (fun v s₁ => Ex3 fun e t d => An4 (v = .ref e) ((Hd.KF w.params).In s₁.heap) (s₁.heap.get? e = some (excO t (some d))) (E (.ref e) s₁)) E s) :
    wpAny (model PR w) A (exec (.Raise (some x) none pos) env) Q E s := by
  rw [arm_exec_Raise]
  refine wpAny_bind (wpAny_standAt ?_)
  show wpAny _ _ (raiseStmt env (some (eval x env >>= fun v => standAt pos >>= fun u_ => pure v)) none) Q E s
  unfold raiseStmt
  refine wpAny_bind (wpAny_bind (wpAny_mono h1 (fun v s₁ h₁ => wpAny_bind (wpAny_standAt (wpAny_pure ?_))) fun u_ u_ x => x))
  obtain ⟨e, t, d, rfl, X, he, hE⟩ := h₁
  obtain ⟨hp, g, dd, tk, os⟩ := s₁
  have hC : hp.get? 52 = some cls52 := X _ _ at52
  have hcB : (Value.ref 52 :: excMro).contains (.type "BaseException") = true := by decide +kernel
  repeat (first | with_reducible refine wpAny_loadPart_at he ?_ | with_reducible refine wpAny_loadPart_at hC ?_ | (with_reducible refine wpAny_isSubtype_exc hC ?_; rw [hcB]) | wp_step)
  exact wpAny_raiseNew_none hh hE
end
/-- a call's contract that may end in the own exception -/
noncomputable def CallX (w : World) (f : Addr) (args : List Value) (d u : Nat) (R Z : Led) (bad : Option Int) (Post : Value → Led → Led → Prop) : Prop :=
  ∀ (g : Heap) (A : Around) (s : Shared) (R0 : Result → Shared → Prop) (base : Heap) (outer : List Env) (keep : Led), Gx w g → A.handled = none → A.depth + d < recursionLimit → A.units + u < cLine → Bk g R Z s.heap →
    Below A base outer g → (∀ q ∈ keep, q ∈ Z ∧ base.get? q.1 = none) →
    (bad = none → ∀ v R' Z' h' tk', Bk g R' Z' h' → Post v R' Z' → R0 (.ok (.ret v)) { s with heap := h', toks := tk' }) →
    (∀ at_, bad = some at_ → ∀ e h' tk', Flown w base outer keep at_ e h' → g.UpToSlots h' → R0 (.error (.ref e)) { s with heap := h', toks := tk' }) →
    codeAny (model PR w) A (.call (.ref f) ⟨args, []⟩) R0 s
/-- what a frame knows of its way out by the exception -/
structure XF (w : World) (A : Around) (env : Env) (L : Addr) (g : Heap) (base : Heap) (outer : List Env) (keep : Led) (bad : Option Int) (E : Value → Shared → Prop) (ge : Array GenState) (dr : Drawn) (os : OsState) : Prop where
  pass : PassesOwn (model PR w) (A.deeper env) env E
  below : Below A base outer g
  shape : ∃ name scope a cd, env = envOf name scope L a cd ∧ scope.kind = .function
  exc : ∀ at_, bad = some at_ → ∀ e G m h' tk', Flown w base (env :: outer) keep at_ e h' → Fr g L G m → G.UpToSlots h' → E (.ref e) ⟨h', ge, dr, tk', os⟩
section
variable {w : World} {A : Around} {E : Value → Shared → Prop} {env : Env} {g : Heap} {L : Addr} {ns gs : List Str} {vs vs' : List (Option Value)} {own R Z : Led}
  {h : Heap} {ge : Array GenState} {dr : Drawn} {tk : Nat} {os : OsState} {base : Heap} {outer : List Env} {keep : Led} {bad bad' : Option Int}
theorem St.frCut (S : St w g L ns vs own R Z h) : Fr g L (hideAll h ((R ++ Z).map (·.1))) (look ns vs) := by
  have B0 := S.bk
  obtain ⟨oL, es, ep, hL, hr⟩ := S.F.ns
  have nL : L ∉ (R ++ Z).map (·.1) := fun hm => by
    obtain ⟨p, hp, e⟩ := List.mem_map.mp hm
    exact (S.N p (List.mem_append_right _ hp)).2.1 e
  refine ⟨⟨oL, es, ep, hideAll_get _ hL nL, hr⟩, fun b o e => hideAll_get _ (S.F.keep b o e) fun hm => ?_, S.F.above⟩
  obtain ⟨p, hp, rfl⟩ := List.mem_map.mp hm
  rw [(B0.res p hp).2] at e; cases e
theorem St.belowCut {name : Str} {scope : Scope} {a : Addr} {cd : Value} (S : St w g L ns vs own R Z h) (K : Below A base outer g) (hk : scope.kind = .function) :
    Below (A.deeper (envOf name scope L a cd)) base (envOf name scope L a cd :: outer) (hideAll h ((R ++ Z).map (·.1))) := K.push (name := name) (scope := scope) (a := a) (cd := cd) S.frCut hk
theorem St.useX {f : Addr} {args : List Value} {d u : Nat} {Post : Value → Led → Led → Prop} {Q : Value → Shared → Prop} {Z0 : Led}
    (S : St w g L ns vs own R Z h) (X : XF w A env L g base outer keep bad E ge dr os) (hkeep : ∀ q ∈ keep, q ∈ Z0 ∧ base.get? q.1 = none) (hz : Sub Z0 Z) (C : CallX w f args d u R Z bad' Post)
    (hh : A.handled = none) (hd : A.depth + 1 + d < recursionLimit) (hu : A.units + 3 + u < cLine) (hb : ∀ at_, bad' = some at_ → bad = some at_)
    (k : bad' = none → ∀ Q1, ImpV Q Q1 → ∀ v R' Z' h' tk', St w g L ns vs own R' Z' h' → Post v R' Z' → Q1 v ⟨h', ge, dr, tk', os⟩) :
    wpAny (model PR w) (A.deeper env) (call (.ref f) args) Q E ⟨h, ge, dr, tk, os⟩ := by
  obtain ⟨pass, below, ⟨name, scope, a, cd, rfl, hk⟩, exc⟩ := X
  obtain ⟨G, B⟩ := S.cut
  refine wpAny_call (C _ _ ⟨h, ge, dr, tk, os⟩ _ base _ keep G hh hd hu B (S.belowCut below hk) (fun q hq => ⟨hz.up _ (hkeep q hq).1, (hkeep q hq).2⟩) (fun hb' v R' Z' h' tk' B' P => ?_) fun at_ ha e h' tk' fl up => ?_)
  · exact k hb' Q ⟨fun u_ u_ x => x⟩ v R' Z' h' tk' (S.back B') P
  · exact exc at_ (hb at_ ha) e _ _ h' tk' fl S.frCut up
theorem enterX {R0 : Result → Shared → Prop} {name qual : Str} {params : Arguments} {body : List Stmt} {scope : Scope} {dV kV doc pm cdv ct oc : Value} {an od : Option Addr} {osl : Array (Option Value)} {f : Addr} {args : Args}
    {binds : List (Str × Value)} {rest ns gs : List Str} {vs : List (Option Value)}
    (G : Gx w g) (B : Bk g R Z h) (K : Below A base outer g)
    (exc : ∀ at_, bad = some at_ → ∀ e h' tk', Flown w base outer keep at_ e h' → g.UpToSlots h' → R0 (.error (.ref e)) ⟨h', ge, dr, tk', os⟩)
    (ho : (Hd.KF w.params).lookup f = some ⟨oc, od, .func (fnOf name qual params body scope dV kV doc pm an cdv ct), osl⟩) (hcd : codeIn (Hd.KF w.params) cdv qual = true) (hroom : A.depth < recursionLimit)
    (hbind : BindsTo ⟨h, ge, dr, tk, os⟩ (fnOf name qual params body scope dV kV doc pm an cdv ct) args binds) (V : Ev scope ns gs) (nn : ns.Nodup) (hns : binds.map (·.1) ++ rest = ns)
    (hvs : (binds.map fun p => some p.2) ++ (rest.map fun u_ => none) = vs)
    (k : ∀ L' h₁ tk₁ E, EvE (envOf qual scope L' f cdv) L' ns gs → St w g L' ns vs [] R Z h₁ → XF w A (envOf qual scope L' f cdv) L' g base outer keep bad E ge dr os → PassesOwn (model PR w) (A.deeper (envOf qual scope L' f cdv)) (envOf qual scope L' f cdv) E →
      wpAny (model PR w) (A.deeper (envOf qual scope L' f cdv)) (execs body (envOf qual scope L' f cdv)) (retQ R0) E ⟨h₁, ge, dr, tk₁, os⟩)
    (hco : scope.isCoroutine = false := by rfl) (hgen : scope.isGenerator = false := by rfl) (hcell : ∀ x ∈ scope.names, x.2 ≠ .cell := by decide) :
    codeAny (model PR w) A (.call (.ref f) args) R0 ⟨h, ge, dr, tk, os⟩ :=
  enter0 (s := ⟨h, ge, dr, tk, os⟩) G B ho hcd hroom hbind V nn hns hvs (fun L' h₁ VV S hn hkk => by
    have pass : PassesOwn (model PR w) (A.deeper (envOf qual scope L' f cdv)) (envOf qual scope L' f cdv) (fun e s' => wpAny (model PR w) (A.deeper (envOf qual scope L' f cdv)) (leaving (envOf qual scope L' f cdv) e) (fun u_ s'' => R0 (.error e) s'') (fun e' s'' => R0 (.error e') s'') s') := by passes_own
    exact k L' h₁ _ _ VV S ⟨pass, K, ⟨_, _, _, _, rfl, V.k⟩, fun at_ ha e G m h' tk' fl F up => leave_onX K F fl up fun h'' fl' up' => exc at_ ha e h'' tk' fl' up'⟩ pass) hco hgen hcell
end
inductive RetX (g : Heap) (ge : Array GenState) (dr : Drawn) (os : OsState) (bad : Option Int) (Post : Value → Led → Led → Prop) : Result → Shared → Prop
  | mk {v : Value} {R' Z' : Led} {h' : Heap} {tk' : Nat} (hb : bad = none) (B : Bk g R' Z' h') (P : Post v R' Z') : RetX g ge dr os bad Post (.ok (.ret v)) ⟨h', ge, dr, tk', os⟩
theorem RetX.st {w : World} {g : Heap} {L : Addr} {ns : List Str} {vs : List (Option Value)} {own R Z : Led} {ge : Array GenState} {dr : Drawn} {os : OsState} {bad : Option Int} {Post : Value → Led → Led → Prop} {v : Value} {h : Heap} {tk : Nat} (hb : bad = none) (S : St w g L ns vs own R Z h) (P : Post v R Z) :
    RetX g ge dr os bad Post (.ok (.ret v)) ⟨h, ge, dr, tk, os⟩ := .mk hb S.bk P
theorem CallX.of {w : World} {R Z : Led} {f : Addr} {args : List Value} {d u : Nat} {bad : Option Int} {Post : Value → Led → Led → Prop} {name qual : Str} {params : Arguments} {body : List Stmt} {scope : Scope} {dV kV doc pm cdv ct oc : Value} {an od : Option Addr} {osl : Array (Option Value)}
    {binds : List (Str × Value)} {rest ns gs : List Str} {vs : List (Option Value)}
    (ho : (Hd.KF w.params).lookup f = some ⟨oc, od, .func (fnOf name qual params body scope dV kV doc pm an cdv ct), osl⟩) (hcd : codeIn (Hd.KF w.params) cdv qual = true)
    (hbind : ∀ s : Shared, (Hd.KF w.params).In s.heap → BindsTo s (fnOf name qual params body scope dV kV doc pm an cdv ct) ⟨args, []⟩ binds) (V : Ev scope ns gs) (nn : ns.Nodup) (hns : binds.map (·.1) ++ rest = ns)
    (hvs : (binds.map fun p => some p.2) ++ (rest.map fun u_ => none) = vs)
    (k : ∀ (g : Heap) (A : Around) (ge : Array GenState) (dr : Drawn) (os : OsState) (base : Heap) (outer : List Env) (keep : Led), A.handled = none → A.depth + d < recursionLimit → A.units + u < cLine → (∀ q ∈ keep, q ∈ Z ∧ base.get? q.1 = none) →
      ∀ L' h₁ tk E, EvE (envOf qual scope L' f cdv) L' ns gs → St w g L' ns vs [] R Z h₁ → XF w A (envOf qual scope L' f cdv) L' g base outer keep bad E ge dr os →
      PassesOwn (model PR w) (A.deeper (envOf qual scope L' f cdv)) (envOf qual scope L' f cdv) E →
      wpAny (model PR w) (A.deeper (envOf qual scope L' f cdv)) (execs body (envOf qual scope L' f cdv)) (retQ (RetX g ge dr os bad Post)) E ⟨h₁, ge, dr, tk, os⟩)
    (hco : scope.isCoroutine = false := by rfl) (hgen : scope.isGenerator = false := by rfl) (hcell : ∀ x ∈ scope.names, x.2 ≠ .cell := by decide) :
    CallX w f args d u R Z bad Post := by
  intro g A s R0 base outer keep G hh hd hu B K hkeep ret exc
  refine enterX (h := s.heap) (ge := s.gens) (dr := s.drawn) (tk := s.toks) (os := s.os) G B K exc ho hcd (Nat.lt_of_le_of_lt (Nat.le_add_right _ _) hd) (hbind _ (G.X.keeps B.keep)) V nn hns hvs (fun L' h₁ tk₁ E V' S XX pE => ?_) hco hgen hcell
  refine wpAny_mono (k g A s.gens s.drawn s.os base outer keep hh hd hu hkeep L' h₁ _ E V' S XX pE) (fun fl s' x => ?_) fun u_ u_ x => x
  cases fl <;> (cases x with | mk hb B' P => exact ret hb _ _ _ _ _ B' P)

/-! methods of the parser -/
inductive MetN : Addr → Str → Addr → Prop
  | take : MetN 431 "take" 132 | is_op : MetN 431 "is_op" 139 | accept_op : MetN 431 "accept_op" 153 | expect_op : MetN 431 "expect_op" 167 | expect_id : MetN 431 "expect_id" 181 | fail : MetN 431 "fail" 189
  | expression : MetN 431 "expression" 295 | binary : MetN 431 "binary" 302 | unary : MetN 431 "unary" 309 | primary : MetN 431 "primary" 316 | named : MetN 431 "named_primary" 323 | braces : MetN 431 "braces" 330
  | elist : MetN 431 "expression_list" 337 | arguments : MetN 431 "arguments" 344 | mtm : MetN 431 "mintypmax" 351 | reference : MetN 431 "reference" 358 | path : MetN 431 "path_term" 365 | selects : MetN 431 "selects" 372
  | bracket : MetN 431 "bracket" 379 | withs : MetN 431 "with_select" 386 | next : MetN 99 "next_token" 96
structure Met (w : World) (C : Addr) (x : Str) (f : Addr) : Prop where
  fi : findIn (Hd.KF w.params) (.ref C) x = some (some (.ref f))
  fn : isFn (Hd.KF w.params) (.ref f) = true
theorem MetN.is {w : World} {C : Addr} {x : Str} {f : Addr} (h : MetN C x f) : Met w C x f := by cases h <;> exact ⟨by k_is, by k_is⟩
section
variable {w : World} {A : Around} {E : Value → Shared → Prop} {env : Env} {g : Heap} {L : Addr} {ns gs : List Str} {vs vs' : List (Option Value)} {own R Z : Led}
  {h : Heap} {ge : Array GenState} {dr : Drawn} {tk : Nat} {os : OsState}
theorem gm_met {x C dx f : Addr} {es : List DictEntry} {n : Nat} {name : Str} {pl : Sem Bool} {Q : Value × List Value → Shared → Prop} (S : St w g L ns vs own R Z h) (m : MetN C name f) (c : ClsN C)
    (hx : h.get? x = some (instObj C dx)) (hd : h.get? dx = some (dictOf es n)) (hl : getL name es = some none) (k1 : Q (.ref f, [.ref x]) ⟨h, ge, dr, tk, os⟩) :
    wpAny (model PR w) A (getMethod (.ref x) name pl) Q E ⟨h, ge, dr, tk, os⟩ := by
  have M := m.is (w := w)
  exact method_inst (s := ⟨h, ge, dr, tk, os⟩) S.F S.gx.X (ox := instObj C dx) ⟨hx, rfl, rfl, hd⟩ (c.is.pg _) M.fi M.fn hl k1
theorem pu_meth {o : Expr} {name : Str} {apos pos : Pos} {args : List Expr} {f x C dx : Addr} {es : List DictEntry} {n tk1 tk2 : Nat} {us : List Value} {pl : Sem Bool} {Q : Value → Shared → Prop} (K : Cx.Ok ⟨w, env, g, L, ns, gs, vs, own, R, Z, h, ge, dr, os⟩)
    (ho : Pu ⟨w, env, g, L, ns, gs, vs, own, R, Z, h, ge, dr, os⟩ o tk (.ref x) tk1) (m : MetN C name f) (c : ClsN C) (hx : h.get? x = some (instObj C dx)) (hd : h.get? dx = some (dictOf es n)) (hl : getL name es = some none) (hk : FnN f)
    (a : PuL ⟨w, env, g, L, ns, gs, vs, own, R, Z, h, ge, dr, os⟩ args tk1 us tk2) (k1 : wpAny (model PR w) A (call (.ref f) (.ref x :: us)) Q E ⟨h, ge, dr, tk2, os⟩)
    (he : eval (.Call (.Attribute o name apos) args [] pos) env = (do
      let ov ← eval o env
      standAt apos.atName
      let (f, first) ← holding [ov] (getMethod ov name pl)
      callWith pos f first (backTo pos (starEach args env)) [])) :
    wpAny (model PR w) A (eval (.Call (.Attribute o name apos) args [] pos) env) Q E ⟨h, ge, dr, tk, os⟩ := by
  refine PyProof.Rows.MethodCall_ (ho.ev _ _ _ (gm_met K.S m c hx hd hl ?_)) he
  cases a with
  | nil => exact cw_k0 K.S hk k1
  | more x y h1 => exact cw_k K.S hk ((PuL.more x y h1).ev _ _ _ _ (and_k1 K.S k1)) h1 y.any
end

/-! the parser's state -/
set_option genInjectivity false in
structure PA where
  pa : Addr
  pdx : Addr
  ro : Addr
  rdx : Addr
  ah : Addr
  T : Addr
  an : Nat
  tn : Nat
  toks : List Value
  tl : List TokD
  t1 : Tok
  t2 : Tok
  t3 : Tok
  t4 : Tok
  u1 : Tok
  u2 : Tok
set_option genInjectivity false in
structure PS where
  a : Addr
  at_ : Int
  ta : Tok
  pl : Int
  tp : Tok
noncomputable abbrev parD (w : World) (p : PA) (a : Addr) (at_ : Int) (ta : Tok) : Obj :=
  dictOf [⟨PyData.keyHash w.params "source", .str "source" p.t1, .ref p.ro⟩, ⟨PyData.keyHash w.params "ahead", .str "ahead" p.t2, .ref p.ah⟩, ⟨PyData.keyHash w.params "token", .str "token" p.t3, .ref a⟩, ⟨PyData.keyHash w.params "at", .str "at" p.t4, .int at_ ta⟩] 4
noncomputable abbrev rowD (w : World) (p : PA) (pl : Int) (tp : Tok) : Obj :=
  dictOf [⟨PyData.keyHash w.params "tokens", .str "tokens" p.u1, .ref p.T⟩, ⟨PyData.keyHash w.params "place", .str "place" p.u2, .int pl tp⟩] 2
noncomputable abbrev RP (w : World) (p : PA) (q : PS) : Led := [(p.pdx, parD w p q.a q.at_ q.ta), (p.rdx, rowD w p q.pl q.tp)]
/-- the parser stands at the first of ts -/
structure POk (w : World) (p : PA) (q : PS) (ts : List TokD) (Z : Led) : Prop where
  pi : (p.pa, instObj 431 p.pdx) ∈ Z
  ri : (p.ro, instObj 99 p.rdx) ∈ Z
  am : (p.ah, listOf ([] : List Value).toArray p.an) ∈ Z
  tm : (p.T, listOf p.toks.toArray p.tn) ∈ Z
  tk : Toks w Z p.toks p.tl
  tz : p.toks.length ≤ 1000000
  cur : ∃ i : Nat, p.tl.drop i = ts ∧ p.toks[i]? = some (.ref q.a) ∧ q.pl = i + 1
  hd : ∃ t r, ts = t :: r ∧ q.at_ = t.at_
theorem POk.up {w p q ts Z Z'} (s : Sub Z Z') (h : POk w p q ts Z) : POk w p q ts Z' := ⟨s.up _ h.pi, s.up _ h.ri, s.up _ h.am, s.up _ h.tm, h.tk.up s, h.tz, h.cur, h.hd⟩
theorem POk.up2 {w p q ts Z Z'} (h : POk w p q ts Z) (s : Sub Z Z') : POk w p q ts Z' := h.up s
theorem POk.tok {w p q t r Z} (h : POk w p q (t :: r) Z) : TokAt w Z q.a t ∧ q.at_ = t.at_ := by
  obtain ⟨i, h1, h2, h3⟩ := h.cur
  obtain ⟨t', r', e, h4⟩ := h.hd
  cases e
  have : p.tl[i]? = some t := by
    have := List.getElem?_drop (xs := p.tl) (i := i) (j := 0)
    rw [h1] at this
    simpa using this.symm
  obtain ⟨a, e1, e2⟩ := h.tk.get this
  rw [h2] at e1
  cases e1
  exact ⟨e2, h4⟩
theorem POk.next {w p q t t2 r Z} (h : POk w p q (t :: t2 :: r) Z) : ∃ a, p.toks[q.pl.toNat]? = some (.ref a) ∧ 0 ≤ q.pl ∧ q.pl < p.toks.length ∧ TokAt w Z a t2 ∧
    ∀ ta pl tp, pl = q.pl + 1 → POk w p ⟨a, t2.at_, ta, pl, tp⟩ (t2 :: r) Z := by
  obtain ⟨i, h1, h2, h3⟩ := h.cur
  have ht : p.tl[i + 1]? = some t2 := by
    have := List.getElem?_drop (xs := p.tl) (i := i) (j := 1)
    rw [h1] at this
    simpa using this.symm
  obtain ⟨a, e1, e2⟩ := h.tk.get ht
  have hl := h.tk.length
  have hlt : i + 1 < p.tl.length := (List.getElem?_eq_some_iff.mp ht).1
  have hn : q.pl.toNat = i + 1 := by (first | lia | omega)
  refine ⟨a, by rw [hn]; exact e1, by (first | lia | omega), by (first | lia | omega), e2, fun ta pl tp hpl => ⟨h.pi, h.ri, h.am, h.tm, h.tk, h.tz, ⟨i + 1, ?_, e1, by dsimp only; (first | lia | omega)⟩, ⟨t2, r, rfl, rfl⟩⟩⟩
  have := congrArg List.tail h1
  rwa [List.tail_drop] at this
/-- what is_op answers -/
noncomputable def opB (t : TokD) (x : Str) : Bool := t.kind == ("op" : Str) && (match t.val with | .str y => y == x | _ => false)
noncomputable def OpStr (t : TokD) : Prop := t.kind = "op" → ∃ y, t.val = .str y
section
variable {w : World} {A : Around} {E : Value → Shared → Prop} {env : Env} {g : Heap} {L : Addr} {ns gs : List Str} {vs : List (Option Value)} {own Z : Led}
  {h : Heap} {ge : Array GenState} {dr : Drawn} {tk tk1 tk2 : Nat} {os : OsState} {p : PA} {q : PS}
/-- a call of the parser's own method -/
theorem pu_self {o : Expr} {name : Str} {apos pos : Pos} {args : List Expr} {f : Addr} {us : List Value} {pl : Sem Bool} {Q : Value → Shared → Prop} (K : Cx.Ok ⟨w, env, g, L, ns, gs, vs, own, RP w p q, Z, h, ge, dr, os⟩)
    (ho : Pu ⟨w, env, g, L, ns, gs, vs, own, RP w p q, Z, h, ge, dr, os⟩ o tk (.ref p.pa) tk1) (pi : (p.pa, instObj 431 p.pdx) ∈ Z) (m : MetN 431 name f) (hk : FnN f)
    (a : PuL ⟨w, env, g, L, ns, gs, vs, own, RP w p q, Z, h, ge, dr, os⟩ args tk1 us tk2) (k1 : wpAny (model PR w) A (call (.ref f) (.ref p.pa :: us)) Q E ⟨h, ge, dr, tk2, os⟩)
    (he : eval (.Call (.Attribute o name apos) args [] pos) env = (do
      let ov ← eval o env
      standAt apos.atName
      let (f, first) ← holding [ov] (getMethod ov name pl)
      callWith pos f first (backTo pos (starEach args env)) [])) :
    wpAny (model PR w) A (eval (.Call (.Attribute o name apos) args [] pos) env) Q E ⟨h, ge, dr, tk, os⟩ :=
  pu_meth K ho m .p (K.S.get (p := (p.pa, _)) (memZ pi)) (K.S.get (p := (p.pdx, _)) (memR mem_hd)) (by cases m <;> k_get) hk a k1 he
theorem Pu.selfAt {c : Cx} {e : Expr} {pos : Pos} (K : c.Ok) (hR : c.R = RP c.w p q) (o : Pu c e tk (.ref p.pa) tk1) (pi : (p.pa, instObj 431 p.pdx) ∈ c.Z)
    (he : eval (.Attribute e "at" pos) c.env = (do
      let o ← eval e c.env
      standAt pos.atName
      let r ← holding [o] (getAttr o "at" true)
      letTemporaryGo e o r
      pure r)) : Pu c (.Attribute e "at" pos) tk (.int q.at_ q.ta) (tk1 + 1) :=
  Pu.attr K o (K.S.get (p := (p.pa, _)) (memZ pi)) .p .p3 (K.S.get (p := (p.pdx, _)) (memR (by rw [hR]; exact mem_hd))) (by k_get) rfl he
theorem Pu.selfTok {c : Cx} {e : Expr} {pos : Pos} (K : c.Ok) (hR : c.R = RP c.w p q) (o : Pu c e tk (.ref p.pa) tk1) (pi : (p.pa, instObj 431 p.pdx) ∈ c.Z)
    (he : eval (.Attribute e "token" pos) c.env = (do
      let o ← eval e c.env
      standAt pos.atName
      let r ← holding [o] (getAttr o "token" true)
      letTemporaryGo e o r
      pure r)) : Pu c (.Attribute e "token" pos) tk (.ref q.a) (tk1 + 1) :=
  Pu.attr K o (K.S.get (p := (p.pa, _)) (memZ pi)) .p .p2 (K.S.get (p := (p.pdx, _)) (memR (by rw [hR]; exact mem_hd))) (by k_get) rfl he
end

theorem ksetD : True := by
  k_with "W6" => first | assumption | focus (refine' POk.up2 ?_ ?_; rotate_right 2; assumption; (repeat (first | exact Sub.rfl | refine Sub.tl ?_)))
  k_with "W7" => focus (focus (refine' St.takeH ?_ ?_ ?_ ?_ ?_ ?_ ?_; rotate_right 7; assumption; k_extra "W6"; k_dflt (first | assumption | (simp only [List.length_append, List.length_cons]; (first | lia | omega))); assumption; k_extra "DPT"; k_extra "DPT"))
  k_with "PU" => first
    | (focus (refine' Pu.selfAt ?_ ?_ ?_ ?_ ?_; rotate_right 5; k_extra "KOK"; exact rfl; k_extra "PU"; assumption; with_unfolding_all rfl))
    | (focus (refine' Pu.selfTok ?_ ?_ ?_ ?_ ?_; rotate_right 5; k_extra "KOK"; exact rfl; k_extra "PU"; assumption; with_unfolding_all rfl))
  k_with "qVES" => first
    | (focus (refine' pu_self ?_ ?_ ?_ ?_ ?_ ?_ ?_ ?_; rotate_right 8; k_extra "KOK"; k_extra "PU"; assumption; constructor; constructor; k_extra "PUL"; rotate_left; with_unfolding_all rfl))
    | (focus (refine' pu_meth ?_ ?_ ?_ ?_ ?_ ?_ ?_ ?_ ?_ ?_ ?_; rotate_right 11; k_extra "KOK"; k_extra "PU"; constructor; constructor; k_extra "HG"; k_extra "HG"; k_dflt k_get; constructor; k_extra "PUL"; rotate_left; with_unfolding_all rfl))
  k_with "qVED" => first
    | (refine PyProof.Rows.BoolOp_and ?_)
    | (refine PyProof.Rows.BoolOp_or ?_)
    | (refine PyProof.Rows.BoolOp_one ?_)
  k_with "qBOD" => first
    | (focus (refine' PyProof.Rows.isTrue_plain ?_ ?_; rotate_right 1; with_unfolding_all rfl))
  k_with "qPRD" => first
    | (focus (refine' gm_met ?_ ?_ ?_ ?_ ?_ ?_ ?_; rotate_right 7; assumption; constructor; constructor; k_extra "HG"; k_extra "HG"; k_dflt k_get))
  k_with "qDD" => (goal_has PySem.wpAny; first
    | ((fail_if_success fail_if_success refine tyF ?_); first | k_extra "qFLA" | k_extra "qFLB")
    | ((fail_if_success fail_if_success refine tyE ?_); first | k_extra "qVEa" | k_extra "qVES" | k_extra "qVEb" | k_extra "qVEB" | k_extra "qVED")
    | ((fail_if_success fail_if_success refine tyV ?_); first | k_extra "qVOA" | k_extra "qVOB" | k_extra "qVOC")
    | ((fail_if_success fail_if_success refine tyU ?_); first | k_extra "qUNA" | k_extra "qUNB" | k_extra "qUNC")
    | ((fail_if_success fail_if_success refine tyL ?_); first | k_extra "qLIA" | k_extra "qLIB")
    | ((fail_if_success fail_if_success refine tyB ?_); first | k_extra "qBOA" | k_extra "qBOD")
    | ((fail_if_success fail_if_success refine tyP ?_); first | k_extra "qPRA" | k_extra "qPRB" | k_extra "qPRD")
    | k_extra "qANDA" | k_extra "BR")
  k_with "GO" => repeat' with_reducible (first | k_extra "qDD" | k_extra "UNH" | k_extra "BR")
  k_with "W5" => with_reducible (first | k_extra "qDD" | k_extra "UNH" | k_extra "BR")
  trivial
set_option maxHeartbeats 4000000 in
theorem next_spec {w : World} {p : PA} {q : PS} {t t2 : TokD} {r : List TokD} {Z : Led} (hp : POk w p q (t :: t2 :: r) Z) :
    CallC w 96 [.ref p.ro] 1 10 (RP w p q) Z (fun v R' Z' => Ex2 fun a tp => An4 (v = .ref a) (p.toks[q.pl.toNat]? = some (.ref a)) (R' = RP w p { q with pl := q.pl + 1, tp := tp }) (Z' = Z)) := by
  obtain ⟨a, ha, h0, hlt, hta, -⟩ := hp.next
  have h1 := hp.ri
  have h2 := hp.tm
  have hz := hp.tz
  refine CallC.of (ns := ["self", "token"]) (gs := ["len", "Token"]) (rest := ["token"]) (binds := [("self", .ref p.ro)]) (vs := [some (.ref p.ro), none]) (by k_is) (by k_is) (fun u_ u_ => BindsTo.of_eq rfl) (Ev.of (by decide)) (by decide) rfl rfl ?_
  intro g A ge dr os hh hd hu L' h₁ tk E V S pE
  k_extra "GO"
  refine ite_dec (fun hc => ?_) (fun hc => ?_)
  · (first | lia | omega)
  k_extra "GO"
  (repeat' with_reducible k_extra "UNH"); k_extra "RETC"
  exact ⟨a, _, rfl, ha, rfl, rfl⟩
set_option maxHeartbeats 4000000 in
theorem take_spec {w : World} {p : PA} {q : PS} {t t2 : TokD} {r : List TokD} {Z : Led} (hp : POk w p q (t :: t2 :: r) Z) :
    CallC w 132 [.ref p.pa] 3 40 (RP w p q) Z (fun v R' Z' => ∃ q', An4 (v = .ref q.a) (R' = RP w p q') (POk w p q' (t2 :: r) Z) (Z' = Z)) := by
  obtain ⟨a, ha, h0, hlt, hta, hnx⟩ := hp.next
  obtain ⟨dx, t1, t2', t3, kt, vv, ta, m1, m2, m3⟩ := hta.ex
  have h1 := hp.pi
  have h2 := hp.am
  have h3 := hp.ri
  refine CallC.of (ns := ["self", "token"]) (gs := ["len"]) (rest := ["token"]) (binds := [("self", .ref p.pa)]) (vs := [some (.ref p.pa), none]) (by k_is) (by k_is) (fun u_ u_ => BindsTo.of_eq rfl) (Ev.of (by decide)) (by decide) rfl rfl ?_
  intro g A ge dr os hh hd hu L' h₁ tk E V S pE
  k_extra "GO"
  refine St.useH (by assumption) (next_spec hp) hh (by k_extra "DPT") (by k_extra "DPT") fun qH kH v R' Z' h9 tk9 S9 P => ?_
  obtain ⟨a', tp, rfl, ha', rfl, rfl⟩ := P
  rw [ha] at ha'
  cases ha'
  k_extra "GO"
  (repeat' with_reducible k_extra "UNH"); k_extra "RETC"
  exact ⟨⟨a, t2.at_, _, q.pl + 1, tp⟩, rfl, rfl, hnx _ _ _ rfl, rfl⟩
set_option maxHeartbeats 4000000 in
theorem is_op_spec {w : World} {p : PA} {q : PS} {t : TokD} {r : List TokD} {Z : Led} {x : Str} {tx : Tok} (hp : POk w p q (t :: r) Z) (ho : OpStr t) :
    CallC w 139 [.ref p.pa, .str x tx] 1 10 (RP w p q) Z (fun v R' Z' => v = .bool (opB t x) ∧ R' = RP w p q ∧ Z' = Z) := by
  obtain ⟨⟨dx, t1, t2', t3, kt, vv, ta, m1, m2, m3⟩, hat⟩ := hp.tok
  have h1 := hp.pi
  refine CallC.of (ns := ["self", "text"]) (gs := []) (rest := []) (binds := [("self", .ref p.pa), ("text", .str x tx)]) (vs := [some (.ref p.pa), some (.str x tx)]) (by k_is) (by k_is) (fun u_ u_ => BindsTo.of_eq rfl) (Ev.of (by decide)) (by decide) rfl rfl ?_
  intro g A ge dr os hh hd hu L' h₁ tk E V S pE
  k_extra "GO"
  refine ite_bool (fun hk2 => ?_) (fun hk2 => ?_)
  · obtain ⟨y, hy⟩ := ho (by simpa using hk2)
    rw [hy] at m3
    cases m3
    k_extra "GO"
    (repeat' with_reducible k_extra "UNH"); k_extra "RETC"
    exact ⟨by simp only [opB, hk2, hy, Bool.true_and], rfl, rfl⟩
  · try dsimp only
    (repeat' with_reducible k_extra "UNH"); k_extra "RETC"
    exact ⟨by simp only [opB, hk2, Bool.false_and], rfl, rfl⟩
section
variable {w : World} {A : Around} {E : Value → Shared → Prop} {env : Env} {g : Heap} {L : Addr} {ns gs : List Str} {vs vs' : List (Option Value)} {own R Z : Led}
  {h : Heap} {ge : Array GenState} {dr : Drawn} {tk : Nat} {os : OsState} {p : PA} {q : PS} {e0 : Env} {t t2 : TokD} {r : List TokD}
theorem St.isop {x : Str} {tx : Tok} {Q : Value → Shared → Prop} (S : St w g L ns vs own (RP w p q) Z h) (hp : POk w p q (t :: r) Z) (ho : OpStr t) (hh : A.handled = none) (hd : A.depth + 10 < recursionLimit) (hu : A.units + 100 < cLine)
    (k : ∀ h' tk', St w g L ns vs own (RP w p q) Z h' → Q (.bool (opB t x)) ⟨h', ge, dr, tk', os⟩) :
    wpAny (model PR w) (A.deeper e0) (call (.ref 139) [.ref p.pa, .str x tx]) Q E ⟨h, ge, dr, tk, os⟩ :=
  S.useV (is_op_spec hp ho) hh (by show A.depth + 1 + _ < _; k_extra "DPT") (by show A.units + 3 + _ < _; k_extra "DPT") fun v R' Z' h' tk' S' ⟨e1, e2, e3⟩ => by
    subst e1 e2 e3
    exact k h' tk' S'
theorem St.takeT {Q : Value → Shared → Prop} (S : St w g L ns vs own (RP w p q) Z h) (hp : POk w p q (t :: t2 :: r) Z) (hh : A.handled = none) (hd : A.depth + 10 < recursionLimit) (hu : A.units + 100 < cLine)
    (k : ∀ q' h' tk', St w g L ns vs own (RP w p q') Z h' → POk w p q' (t2 :: r) Z → Q (.ref q.a) ⟨h', ge, dr, tk', os⟩) :
    wpAny (model PR w) (A.deeper e0) (call (.ref 132) [.ref p.pa]) Q E ⟨h, ge, dr, tk, os⟩ :=
  S.useV (take_spec hp) hh (by show A.depth + 1 + _ < _; k_extra "DPT") (by show A.units + 3 + _ < _; k_extra "DPT") fun v R' Z' h' tk' S' ⟨q', e1, e2, hp', e3⟩ => by
    subst e1 e2 e3
    exact k q' h' tk' S' hp'
end

set_option maxHeartbeats 4000000 in
/-- accept_op: the token is the asked one -/
theorem acc_yes {w : World} {p : PA} {q : PS} {t t2 : TokD} {r : List TokD} {Z : Led} {x : Str} {tx : Tok} (hp : POk w p q (t :: t2 :: r) Z) (ho : OpStr t) (hb : opB t x = true) :
    CallC w 153 [.ref p.pa, .str x tx] 15 200 (RP w p q) Z (fun v R' Z' => ∃ q', An4 (v = .bool true) (R' = RP w p q') (POk w p q' (t2 :: r) Z) (Z' = Z)) := by
  have h1 := hp.pi
  refine CallC.of (ns := ["self", "text"]) (gs := []) (rest := []) (binds := [("self", .ref p.pa), ("text", .str x tx)]) (vs := [some (.ref p.pa), some (.str x tx)]) (by k_is) (by k_is) (fun u_ u_ => BindsTo.of_eq rfl) (Ev.of (by decide)) (by decide) rfl rfl ?_
  intro g A ge dr os hh hd hu L' h₁ tk E V S pE
  k_extra "GO"
  refine S.isop hp ho hh (by k_extra "DPT") (by k_extra "DPT") fun h2 tk2 S2 => ?_
  k_extra "GO"
  refine S2.takeT hp hh (by k_extra "DPT") (by k_extra "DPT") fun q3 h3 tk3 S3 hp3 => ?_
  k_extra "GO"
  (repeat' with_reducible k_extra "UNH"); k_extra "RETC"
  exact ⟨q3, rfl, rfl, hp3, rfl⟩
set_option maxHeartbeats 4000000 in
theorem acc_no {w : World} {p : PA} {q : PS} {t : TokD} {r : List TokD} {Z : Led} {x : Str} {tx : Tok} (hp : POk w p q (t :: r) Z) (ho : OpStr t) (hb : opB t x = false) :
    CallC w 153 [.ref p.pa, .str x tx] 15 200 (RP w p q) Z (fun v R' Z' => v = .bool false ∧ R' = RP w p q ∧ Z' = Z) := by
  have h1 := hp.pi
  refine CallC.of (ns := ["self", "text"]) (gs := []) (rest := []) (binds := [("self", .ref p.pa), ("text", .str x tx)]) (vs := [some (.ref p.pa), some (.str x tx)]) (by k_is) (by k_is) (fun u_ u_ => BindsTo.of_eq rfl) (Ev.of (by decide)) (by decide) rfl rfl ?_
  intro g A ge dr os hh hd hu L' h₁ tk E V S pE
  k_extra "GO"
  refine S.isop hp ho hh (by k_extra "DPT") (by k_extra "DPT") fun h2 tk2 S2 => ?_
  k_extra "GO"
  (repeat' with_reducible k_extra "UNH"); k_extra "RETC"
  exact ⟨rfl, rfl, rfl⟩
set_option maxHeartbeats 4000000 in
theorem exp_spec {w : World} {p : PA} {q : PS} {t t2 : TokD} {r : List TokD} {Z : Led} {x : Str} {tx : Tok} (hp : POk w p q (t :: t2 :: r) Z) (ho : OpStr t) (hb : opB t x = true) :
    CallC w 167 [.ref p.pa, .str x tx] 20 300 (RP w p q) Z (fun v R' Z' => ∃ q', An4 (v = .none) (R' = RP w p q') (POk w p q' (t2 :: r) Z) (Z' = Z)) := by
  have h1 := hp.pi
  refine CallC.of (ns := ["self", "text"]) (gs := []) (rest := []) (binds := [("self", .ref p.pa), ("text", .str x tx)]) (vs := [some (.ref p.pa), some (.str x tx)]) (by k_is) (by k_is) (fun u_ u_ => BindsTo.of_eq rfl) (Ev.of (by decide)) (by decide) rfl rfl ?_
  intro g A ge dr os hh hd hu L' h₁ tk E V S pE
  k_extra "GO"
  refine St.useH (by assumption) (acc_yes hp ho hb) hh (by k_extra "DPT") (by k_extra "DPT") fun qH kH v R' Z' h9 tk9 S9 P => ?_
  obtain ⟨q', rfl, rfl, hp', rfl⟩ := P
  k_extra "GO"
  (repeat' with_reducible k_extra "UNH"); k_extra "RETC"
  exact ⟨q', rfl, rfl, hp', rfl⟩
set_option maxHeartbeats 4000000 in
theorem eid_spec {w : World} {p : PA} {q : PS} {x : Str} {a : Int} {t2 : TokD} {r : List TokD} {Z : Led} (hp : POk w p q (idt x a :: t2 :: r) Z) :
    CallC w 181 [.ref p.pa] 15 200 (RP w p q) Z (fun v R' Z' => Ex2 fun q' tv => An4 (v = .str x tv) (R' = RP w p q') (POk w p q' (t2 :: r) Z) (Z' = Z)) := by
  have h1 := hp.pi
  obtain ⟨⟨dx, t1, t2', t3, kt, vv, ta, m1, m2, m3⟩, hat⟩ := hp.tok
  cases m3
  refine CallC.of (ns := ["self"]) (gs := []) (rest := []) (binds := [("self", .ref p.pa)]) (vs := [some (.ref p.pa)]) (by k_is) (by k_is) (fun u_ u_ => BindsTo.of_eq rfl) (Ev.of (by decide)) (by decide) rfl rfl ?_
  intro g A ge dr os hh hd hu L' h₁ tk E V S pE
  k_extra "GO"
  refine St.takeT (by assumption) hp hh (by k_extra "DPT") (by k_extra "DPT") fun q3 h3 tk3 S3 hp3 => ?_
  k_extra "GO"
  (repeat' with_reducible k_extra "UNH"); k_extra "RETC"
  exact ⟨q3, _, rfl, rfl, hp3, rfl⟩

theorem St.neHead {w : World} {g : Heap} {L : Addr} {ns vs own R Z h} {p : Addr × Obj} (S : St w g L ns vs own R (p :: Z) h) : ∀ q ∈ Z, q.1 ≠ p.1 := by
  have nd := S.nd
  rw [List.map_append, List.map_append] at nd
  have n2 := (List.nodup_append.mp (List.nodup_append.mp nd).2.1).2.1
  intro q hq e
  exact (List.nodup_cons.mp n2).1 (List.mem_map.mpr ⟨q, hq, e⟩)
set_option maxHeartbeats 4000000 in
theorem fail_spec {w : World} {p : PA} {q : PS} {ts : List TokD} {Z : Led} {kt : Tok} (hp : POk w p q ts Z) :
    CallX w 189 [.ref p.pa, .str "expression_expected" kt] 10 100 (RP w p q) Z (some q.at_) (fun u_ u_ u_ => True) := by
  intro g A s R0 base outer keep G hh hd hu B K hkeep ret exc
  obtain ⟨h, ge, dr, tk, os⟩ := s
  have h1 := hp.pi
  refine enter0 (ns := ["self", "kind", "detail"]) (gs := ["SourceError"]) (rest := []) (binds := [("self", .ref p.pa), ("kind", .str "expression_expected" kt), ("detail", .str "" 413)]) (vs := [some (.ref p.pa), some (.str "expression_expected" kt), some (.str "" 413)]) G B (by k_is) (by k_is) (by (first | lia | omega)) (binds_K (G.X.keeps B.keep) rfl (by k_is) rfl rfl rfl) (Ev.of (by decide)) (by decide) rfl rfl ?_
  intro L' h₁ V S hn hk
  try dsimp only
  k_extra "GO"
  refine raise52 hh ?_
  k_extra "GO"
  refine exc_make (by assumption) hh ?_ ?_ ?_
  · show A.depth + 1 + 3 < _; (first | lia | omega)
  · show A.units + 3 + 30 < _; (first | lia | omega)
  intro e t d t1 t2 t3 h2 tk2 S2
  refine ⟨e, t, d, rfl, S2.gx.X.keeps S2.F.keep, S2.get (memZ (.head _)), ?_⟩
  have he := S2.N _ (memZ (.head _))
  have hN : ∀ x ∈ (d, excD w t1 t2 t3 (.str "expression_expected" kt) (.int q.at_ q.ta) (.str "" 413)) :: keep, h2.get? x.1 = some x.2 ∧ x.1 ≠ L' ∧ g.get? x.1 = none ∧ x.1 ≠ e := fun x hx => by
    have hx' : x ∈ (d, excD w t1 t2 t3 (.str "expression_expected" kt) (.int q.at_ q.ta) (.str "" 413)) :: (t, excT [.str "expression_expected" kt, .int q.at_ q.ta, .str "" 413]) :: Z := by
      rcases List.mem_cons.mp hx with rfl | hx
      · exact .head _
      · exact .tail _ (.tail _ (hkeep x hx).1)
    have := S2.N x (memZ (.tail _ hx'))
    exact ⟨this.1, this.2.1, this.2.2, S2.neHead x hx'⟩
  exact leave_first K S2.F he.1 rfl rfl rfl rfl rfl he.2.1 he.2.2 hN fun h' fl up => exc _ rfl e h' _ fl up

theorem ifT {α : Type} {b : Bool} {x y : α} (h : b = true) : (if b = true then x else y) = x := if_pos h
theorem ifF {α : Type} {b : Bool} {x y : α} (h : b = false) : (if b = true then x else y) = y := if_neg (by rw [h]; exact Bool.false_ne_true)
theorem prec_eq (x : Str) : prec x = if (x == ("||" : Str)) = true then 1 else if (x == ("&&" : Str)) = true then 2 else if (x == ("|" : Str)) = true then 3 else
    if (["^", "~^", "^~"] : List Str).any (fun y => y == x) = true then 4 else if (x == ("&" : Str)) = true then 5 else if (["==", "!=", "===", "!=="] : List Str).any (fun y => y == x) = true then 6 else
    if (["<", "<=", ">", ">="] : List Str).any (fun y => y == x) = true then 7 else if (["<<", ">>", "<<<", ">>>"] : List Str).any (fun y => y == x) = true then 8 else
    if (["+", "-"] : List Str).any (fun y => y == x) = true then 9 else if (["*", "/", "%"] : List Str).any (fun y => y == x) = true then 10 else if (x == ("**" : Str)) = true then 11 else 0 := rfl
set_option maxHeartbeats 4000000 in
theorem plain_spec {w : World} {R Z : Led} {x : Str} {tx : Tok} : CallC w 281 [.str x tx] 1 10 R Z (fun v R' Z' => ∃ t, An3 (v = .str (normOp x) t) (R' = R) (Z' = Z)) := by
  refine CallC.of (ns := ["op"]) (gs := []) (rest := []) (binds := [("op", .str x tx)]) (vs := [some (.str x tx)]) (by k_is) (by k_is) (fun u_ u_ => BindsTo.of_eq rfl) (Ev.of (by decide)) (by decide) rfl rfl ?_
  intro g A ge dr os hh hd hu L' h₁ tk E V S pE
  k_extra "GO"
  refine ite_bool (fun hc => ?_) (fun hc => ?_)
  · k_extra "GO"
    (repeat' with_reducible k_extra "UNH"); k_extra "RETC"
    exact ⟨_, by rw [normOp_t hc], rfl, rfl⟩
  · k_extra "GO"
    (repeat' with_reducible k_extra "UNH"); k_extra "RETC"
    exact ⟨tx, by rw [normOp_f hc], rfl, rfl⟩
set_option maxHeartbeats 4000000 in
theorem isun_spec {w : World} {R Z : Led} {x : Str} {tx : Tok} : CallC w 274 [.str x tx] 1 10 R Z (fun v R' Z' => v = .bool (unOps.any (fun y => y == x)) ∧ R' = R ∧ Sub Z Z') := by
  refine CallC.of (ns := ["op"]) (gs := []) (rest := []) (binds := [("op", .str x tx)]) (vs := [some (.str x tx)]) (by k_is) (by k_is) (fun u_ u_ => BindsTo.of_eq rfl) (Ev.of (by decide)) (by decide) rfl rfl ?_
  intro g A ge dr os hh hd hu L' h₁ tk E V S pE
  k_extra "GO"
  refine in_t (by assumption) (by k_extra "MEM") IsT.of (xs := unOps) (by unfold unOps; repeat' (first | exact Strs.nil | refine Strs.cons ?_)) ?_
  (repeat' with_reducible k_extra "UNH"); k_extra "RETC"
  exact ⟨rfl, rfl, Sub.tl .rfl⟩
set_option maxHeartbeats 4000000 in
theorem prec_spec {w : World} {R Z : Led} {x : Str} {tx : Tok} : CallC w 267 [.str x tx] 1 10 R Z (fun v R' Z' => ∃ t, An3 (v = .int (prec x) t) (R' = R) (Sub Z Z')) := by
  refine CallC.of (ns := ["op"]) (gs := []) (rest := []) (binds := [("op", .str x tx)]) (vs := [some (.str x tx)]) (by k_is) (by k_is) (fun u_ u_ => BindsTo.of_eq rfl) (Ev.of (by decide)) (by decide) rfl rfl ?_
  intro g A ge dr os hh hd hu L' h₁ tk E V S pE
  k_extra "GO"
  have e0 := prec_eq x
  refine ite_bool (fun h0 => ?_) (fun h0 => ?_)
  · k_extra "GO"
    (repeat' with_reducible k_extra "UNH"); k_extra "RETC"
    exact ⟨_, by rw [e0.trans (ifT h0)]; rfl, rfl, by repeat (first | exact Sub.rfl | refine Sub.tl ?_)⟩
  have e1 := e0.trans (ifF h0)
  k_extra "GO"
  refine ite_bool (fun h1 => ?_) (fun h1 => ?_)
  · k_extra "GO"
    (repeat' with_reducible k_extra "UNH"); k_extra "RETC"
    exact ⟨_, by rw [e1.trans (ifT h1)]; rfl, rfl, by repeat (first | exact Sub.rfl | refine Sub.tl ?_)⟩
  have e2 := e1.trans (ifF h1)
  k_extra "GO"
  refine ite_bool (fun h2 => ?_) (fun h2 => ?_)
  · k_extra "GO"
    (repeat' with_reducible k_extra "UNH"); k_extra "RETC"
    exact ⟨_, by rw [e2.trans (ifT h2)]; rfl, rfl, by repeat (first | exact Sub.rfl | refine Sub.tl ?_)⟩
  have e3 := e2.trans (ifF h2)
  k_extra "GO"
  refine in_t (by assumption) (by k_extra "MEM") IsT.of (xs := ["^", "~^", "^~"]) (by repeat' (first | exact Strs.nil | refine Strs.cons ?_)) ?_
  k_extra "GO"
  refine ite_bool (fun h3 => ?_) (fun h3 => ?_)
  · k_extra "GO"
    (repeat' with_reducible k_extra "UNH"); k_extra "RETC"
    exact ⟨_, by rw [e3.trans (ifT h3)]; rfl, rfl, by repeat (first | exact Sub.rfl | refine Sub.tl ?_)⟩
  have e4 := e3.trans (ifF h3)
  k_extra "GO"
  refine ite_bool (fun h4 => ?_) (fun h4 => ?_)
  · k_extra "GO"
    (repeat' with_reducible k_extra "UNH"); k_extra "RETC"
    exact ⟨_, by rw [e4.trans (ifT h4)]; rfl, rfl, by repeat (first | exact Sub.rfl | refine Sub.tl ?_)⟩
  have e5 := e4.trans (ifF h4)
  k_extra "GO"
  refine in_t (by assumption) (by k_extra "MEM") IsT.of (xs := ["==", "!=", "===", "!=="]) (by repeat' (first | exact Strs.nil | refine Strs.cons ?_)) ?_
  k_extra "GO"
  refine ite_bool (fun h5 => ?_) (fun h5 => ?_)
  · k_extra "GO"
    (repeat' with_reducible k_extra "UNH"); k_extra "RETC"
    exact ⟨_, by rw [e5.trans (ifT h5)]; rfl, rfl, by repeat (first | exact Sub.rfl | refine Sub.tl ?_)⟩
  have e6 := e5.trans (ifF h5)
  k_extra "GO"
  refine in_t (by assumption) (by k_extra "MEM") IsT.of (xs := ["<", "<=", ">", ">="]) (by repeat' (first | exact Strs.nil | refine Strs.cons ?_)) ?_
  k_extra "GO"
  refine ite_bool (fun h6 => ?_) (fun h6 => ?_)
  · k_extra "GO"
    (repeat' with_reducible k_extra "UNH"); k_extra "RETC"
    exact ⟨_, by rw [e6.trans (ifT h6)]; rfl, rfl, by repeat (first | exact Sub.rfl | refine Sub.tl ?_)⟩
  have e7 := e6.trans (ifF h6)
  k_extra "GO"
  refine in_t (by assumption) (by k_extra "MEM") IsT.of (xs := ["<<", ">>", "<<<", ">>>"]) (by repeat' (first | exact Strs.nil | refine Strs.cons ?_)) ?_
  k_extra "GO"
  refine ite_bool (fun h7 => ?_) (fun h7 => ?_)
  · k_extra "GO"
    (repeat' with_reducible k_extra "UNH"); k_extra "RETC"
    exact ⟨_, by rw [e7.trans (ifT h7)]; rfl, rfl, by repeat (first | exact Sub.rfl | refine Sub.tl ?_)⟩
  have e8 := e7.trans (ifF h7)
  k_extra "GO"
  refine in_t (by assumption) (by k_extra "MEM") IsT.of (xs := ["+", "-"]) (by repeat' (first | exact Strs.nil | refine Strs.cons ?_)) ?_
  k_extra "GO"
  refine ite_bool (fun h8 => ?_) (fun h8 => ?_)
  · k_extra "GO"
    (repeat' with_reducible k_extra "UNH"); k_extra "RETC"
    exact ⟨_, by rw [e8.trans (ifT h8)]; rfl, rfl, by repeat (first | exact Sub.rfl | refine Sub.tl ?_)⟩
  have e9 := e8.trans (ifF h8)
  k_extra "GO"
  refine in_t (by assumption) (by k_extra "MEM") IsT.of (xs := ["*", "/", "%"]) (by repeat' (first | exact Strs.nil | refine Strs.cons ?_)) ?_
  k_extra "GO"
  refine ite_bool (fun h9 => ?_) (fun h9 => ?_)
  · k_extra "GO"
    (repeat' with_reducible k_extra "UNH"); k_extra "RETC"
    exact ⟨_, by rw [e9.trans (ifT h9)]; rfl, rfl, by repeat (first | exact Sub.rfl | refine Sub.tl ?_)⟩
  have e10 := e9.trans (ifF h9)
  k_extra "GO"
  refine ite_bool (fun h10 => ?_) (fun h10 => ?_)
  · k_extra "GO"
    (repeat' with_reducible k_extra "UNH"); k_extra "RETC"
    exact ⟨_, by rw [e10.trans (ifT h10)]; rfl, rfl, by repeat (first | exact Sub.rfl | refine Sub.tl ?_)⟩
  have e11 := e10.trans (ifF h10)
  k_extra "GO"
  (repeat' with_reducible k_extra "UNH"); k_extra "RETC"
  exact ⟨_, by rw [e11]; rfl, rfl, by repeat (first | exact Sub.rfl | refine Sub.tl ?_)⟩

structure FolP (t : TokD) : Prop where
  s : OpStr t
  np : opB t "(" = false
  nb : opB t "[" = false
  nd : opB t "." = false
structure FolB (least : Nat) (t : TokD) : Prop extends FolP t where
  pr : ∀ y, t.kind = "op" → t.val = .str y → prec y = 0 ∨ prec y < least
structure FolE (t : TokD) : Prop extends FolP t where
  nq : opB t "?" = false
  pr : ∀ y, t.kind = "op" → t.val = .str y → prec y = 0
theorem FolE.b {t : TokD} (h : FolE t) (n : Nat) : FolB n t := ⟨h.toFolP, fun y a b => .inl (h.pr y a b)⟩
theorem OpStr.op {x : Str} {a : Int} : OpStr (op x a) := fun u_ => ⟨x, rfl⟩
theorem opB_op {x y : Str} {a : Int} : opB (op x a) y = (x == y) := by simp [opB]
theorem FolP.op {x : Str} {a : Int} (h : x ≠ "(" ∧ x ≠ "[" ∧ x ≠ ".") : FolP (op x a) :=
  ⟨.op, by rw [opB_op]; exact beq_eq_false_iff_ne.mpr h.1, by rw [opB_op]; exact beq_eq_false_iff_ne.mpr h.2.1, by rw [opB_op]; exact beq_eq_false_iff_ne.mpr h.2.2⟩
noncomputable def endOps : List Str := [",", ")", "]", "}", ":", ";", "{", "+:", "-:"]
theorem endOps_ok : ∀ x ∈ endOps, (x ≠ "(" ∧ x ≠ "[" ∧ x ≠ ".") ∧ x ≠ "?" ∧ prec x = 0 := by decide +kernel
theorem FolE.op {x : Str} {a : Int} (h : x ∈ endOps) : FolE (op x a) :=
  let ⟨h1, h2, h3⟩ := endOps_ok x h
  ⟨.op h1, by rw [opB_op]; exact beq_eq_false_iff_ne.mpr h2, fun y u_ e => by cases e; exact h3⟩
theorem joinOps_ok : ∀ x ∈ joinOps, (x ≠ "(" ∧ x ≠ "[" ∧ x ≠ ".") ∧ x ≠ "?" := by decide +kernel
/-- what follows: a token that does not go on -/
structure Hd (P : TokD → Prop) (ts : List TokD) : Prop where
  ex : ∃ t r, ts = t :: r ∧ P t
theorem Hd.mk' {P : TokD → Prop} {t r} (h : P t) : Hd P (t :: r) := ⟨t, r, rfl, h⟩
inductive PPost (w : World) (p : PA) (rest : List TokD) (Z : Led) (d : PyData) (v : Value) (R' Z' : Led) : Prop
  | mk (q' : PS) (hR : R' = RP w p q') (hp : POk w p q' rest Z') (hs : Sub Z Z') (ht : Tr Z' v d) : PPost w p rest Z d v R' Z'
section
variable {w : World} {A : Around} {E : Value → Shared → Prop} {env : Env} {g base : Heap} {outer : List Env} {L : Addr} {ns : List Str} {vs : List (Option Value)} {own Z keep : Led} {h : Heap} {ge : Array GenState} {dr : Drawn} {tk : Nat} {os : OsState} {bad bad' : Option Int}
theorem St.useP {f : Addr} {args : List Value} {d u : Nat} {Q : Value → Shared → Prop} {Z0 : Led} {p : PA} {q : PS} {rest : List TokD} {D : PyData}
    (S : St w g L ns vs own (RP w p q) Z h) (X : XF w A env L g base outer keep bad E ge dr os) (hkeep : ∀ q ∈ keep, q ∈ Z0 ∧ base.get? q.1 = none) (hz : Sub Z0 Z) (C : CallX w f args d u (RP w p q) Z bad' (PPost w p rest Z D))
    (hh : A.handled = none) (hd : A.depth + 1 + d < recursionLimit) (hu : A.units + 3 + u < cLine) (hb : ∀ at_, bad' = some at_ → bad = some at_)
    (k : bad' = none → ∀ Q1, ImpV Q Q1 → ∀ v q' Z' h' tk', St w g L ns vs own (RP w p q') Z' h' → POk w p q' rest Z' → Sub Z Z' → Tr Z' v D → Q1 v ⟨h', ge, dr, tk', os⟩) :
    wpAny (model PR w) (A.deeper env) (call (.ref f) args) Q E ⟨h, ge, dr, tk, os⟩ :=
  S.useX X hkeep hz C hh hd hu hb fun hb' Q1 hQ v R' Z' h' tk' S' P => by
    obtain ⟨q', rfl, hp, hs, ht⟩ := P
    exact k hb' Q1 hQ v q' Z' h' tk' S' hp hs ht
end
noncomputable def XSpec (w : World) (X : XP) (D U : Nat) : Prop := ∀ (p : PA) (q : PS) (ts : List TokD) (d : PyData) (e : Option Int) (rest : List TokD) (Z : Led), X ts d e → POk w p q (ts ++ rest) Z → Hd FolE rest →
  CallX w 295 [.ref p.pa] D U (RP w p q) Z e (PPost w p rest Z d)
section
variable {w : World} {A : Around} {E : Value → Shared → Prop} {env : Env} {g : Heap} {L : Addr} {ns gs : List Str} {vs vs' : List (Option Value)} {own R Z : Led}
  {h : Heap} {ge : Array GenState} {dr : Drawn} {tk : Nat} {os : OsState} {p : PA} {q : PS} {e0 : Env} {t t2 : TokD} {r : List TokD}
theorem St.accY {x : Str} {tx : Tok} {Q : Value → Shared → Prop} (S : St w g L ns vs own (RP w p q) Z h) (hp : POk w p q (t :: t2 :: r) Z) (ho : OpStr t) (hb : opB t x = true) (hh : A.handled = none) (hd : A.depth + 20 < recursionLimit) (hu : A.units + 300 < cLine)
    (k : ∀ q' h' tk', St w g L ns vs own (RP w p q') Z h' → POk w p q' (t2 :: r) Z → Q (.bool true) ⟨h', ge, dr, tk', os⟩) :
    wpAny (model PR w) (A.deeper e0) (call (.ref 153) [.ref p.pa, .str x tx]) Q E ⟨h, ge, dr, tk, os⟩ :=
  S.useV (acc_yes hp ho hb) hh (by show A.depth + 1 + _ < _; k_extra "DPT") (by show A.units + 3 + _ < _; k_extra "DPT") fun v R' Z' h' tk' S' ⟨q', e1, e2, hp', e3⟩ => by
    subst e1 e2 e3
    exact k q' h' tk' S' hp'
theorem St.accN {x : Str} {tx : Tok} {Q : Value → Shared → Prop} (S : St w g L ns vs own (RP w p q) Z h) (hp : POk w p q (t :: r) Z) (ho : OpStr t) (hb : opB t x = false) (hh : A.handled = none) (hd : A.depth + 20 < recursionLimit) (hu : A.units + 300 < cLine)
    (k : ∀ h' tk', St w g L ns vs own (RP w p q) Z h' → Q (.bool false) ⟨h', ge, dr, tk', os⟩) :
    wpAny (model PR w) (A.deeper e0) (call (.ref 153) [.ref p.pa, .str x tx]) Q E ⟨h, ge, dr, tk, os⟩ :=
  S.useV (acc_no hp ho hb) hh (by show A.depth + 1 + _ < _; k_extra "DPT") (by show A.units + 3 + _ < _; k_extra "DPT") fun v R' Z' h' tk' S' ⟨e1, e2, e3⟩ => by
    subst e1 e2 e3
    exact k h' tk' S'
theorem St.expT {x : Str} {tx : Tok} {Q : Value → Shared → Prop} (S : St w g L ns vs own (RP w p q) Z h) (hp : POk w p q (t :: t2 :: r) Z) (ho : OpStr t) (hb : opB t x = true) (hh : A.handled = none) (hd : A.depth + 25 < recursionLimit) (hu : A.units + 400 < cLine)
    (k : ∀ q' h' tk', St w g L ns vs own (RP w p q') Z h' → POk w p q' (t2 :: r) Z → Q .none ⟨h', ge, dr, tk', os⟩) :
    wpAny (model PR w) (A.deeper e0) (call (.ref 167) [.ref p.pa, .str x tx]) Q E ⟨h, ge, dr, tk, os⟩ :=
  S.useV (exp_spec hp ho hb) hh (by show A.depth + 1 + _ < _; k_extra "DPT") (by show A.units + 3 + _ < _; k_extra "DPT") fun v R' Z' h' tk' S' ⟨q', e1, e2, hp', e3⟩ => by
    subst e1 e2 e3
    exact k q' h' tk' S' hp'
theorem St.eidT {x : Str} {a : Int} {Q : Value → Shared → Prop} (S : St w g L ns vs own (RP w p q) Z h) (hp : POk w p q (idt x a :: t2 :: r) Z) (hh : A.handled = none) (hd : A.depth + 20 < recursionLimit) (hu : A.units + 300 < cLine)
    (k : ∀ q' tv h' tk', St w g L ns vs own (RP w p q') Z h' → POk w p q' (t2 :: r) Z → Q (.str x tv) ⟨h', ge, dr, tk', os⟩) :
    wpAny (model PR w) (A.deeper e0) (call (.ref 181) [.ref p.pa]) Q E ⟨h, ge, dr, tk, os⟩ :=
  S.useV (eid_spec hp) hh (by show A.depth + 1 + _ < _; k_extra "DPT") (by show A.units + 3 + _ < _; k_extra "DPT") fun v R' Z' h' tk' S' ⟨q', tv, e1, e2, hp', e3⟩ => by
    subst e1 e2 e3
    exact k q' tv h' tk' S' hp'
theorem St.precT {x : Str} {tx : Tok} {Q : Value → Shared → Prop} (S : St w g L ns vs own R Z h) (hh : A.handled = none) (hd : A.depth + 10 < recursionLimit) (hu : A.units + 100 < cLine)
    (k : ∀ t Z' h' tk', Sub Z Z' → St w g L ns vs own R Z' h' → Q (.int (prec x) t) ⟨h', ge, dr, tk', os⟩) :
    wpAny (model PR w) (A.deeper e0) (call (.ref 267) [.str x tx]) Q E ⟨h, ge, dr, tk, os⟩ :=
  S.useV prec_spec hh (by show A.depth + 1 + _ < _; k_extra "DPT") (by show A.units + 3 + _ < _; k_extra "DPT") fun v R' Z' h' tk' S' ⟨t, e1, e2, e3⟩ => by
    subst e1 e2
    exact k t _ h' tk' e3 S'
theorem St.isunT {x : Str} {tx : Tok} {Q : Value → Shared → Prop} (S : St w g L ns vs own R Z h) (hh : A.handled = none) (hd : A.depth + 10 < recursionLimit) (hu : A.units + 100 < cLine)
    (k : ∀ Z' h' tk', Sub Z Z' → St w g L ns vs own R Z' h' → Q (.bool (unOps.any (fun y => y == x))) ⟨h', ge, dr, tk', os⟩) :
    wpAny (model PR w) (A.deeper e0) (call (.ref 274) [.str x tx]) Q E ⟨h, ge, dr, tk, os⟩ :=
  S.useV isun_spec hh (by show A.depth + 1 + _ < _; k_extra "DPT") (by show A.units + 3 + _ < _; k_extra "DPT") fun v R' Z' h' tk' S' ⟨e1, e2, e3⟩ => by
    subst e1 e2
    exact k _ h' tk' e3 S'
theorem St.plainT {x : Str} {tx : Tok} {Q : Value → Shared → Prop} (S : St w g L ns vs own R Z h) (hh : A.handled = none) (hd : A.depth + 10 < recursionLimit) (hu : A.units + 100 < cLine)
    (k : ∀ t h' tk', St w g L ns vs own R Z h' → Q (.str (normOp x) t) ⟨h', ge, dr, tk', os⟩) :
    wpAny (model PR w) (A.deeper e0) (call (.ref 281) [.str x tx]) Q E ⟨h, ge, dr, tk, os⟩ :=
  S.useV plain_spec hh (by show A.depth + 1 + _ < _; k_extra "DPT") (by show A.units + 3 + _ < _; k_extra "DPT") fun v R' Z' h' tk' S' ⟨t, e1, e2, e3⟩ => by
    subst e1 e2 e3
    exact k t h' tk' S'
end
theorem or_n {a b : Option Int} (h : a = none) : a.or b = b := by rw [h]; rfl
theorem POk.len {w p q ts Z} (h : POk w p q ts Z) : ts.length ≤ 1000000 := by
  obtain ⟨i, h1, _, _⟩ := h.cur
  have h2 := h.tk.length
  have h3 := h.tz
  rw [← h1, List.length_drop]; (first | lia | omega)
section
variable {w : World} {A : Around} {E : Value → Shared → Prop} {env : Env} {g : Heap} {L : Addr} {ns gs : List Str} {vs vs' : List (Option Value)} {own R Z : Led}
  {h : Heap} {ge : Array GenState} {dr : Drawn} {tk : Nat} {os : OsState} {p : PA} {q : PS} {e0 : Env} {t t2 : TokD} {ts : List TokD}
theorem St.accH {x : Str} {tx : Tok} {Q : Value → Shared → Prop} (S : St w g L ns vs own (RP w p q) Z h) (hp : POk w p q (t :: ts) Z) (ho : OpStr t) (hb : opB t x = true) (hn : 0 < ts.length) (hh : A.handled = none) (hd : A.depth + 20 < recursionLimit) (hu : A.units + 300 < cLine)
    (k : ∀ q' h' tk', St w g L ns vs own (RP w p q') Z h' → POk w p q' ts Z → Q (.bool true) ⟨h', ge, dr, tk', os⟩) :
    wpAny (model PR w) (A.deeper e0) (call (.ref 153) [.ref p.pa, .str x tx]) Q E ⟨h, ge, dr, tk, os⟩ := by
  cases ts with
  | nil => exact absurd hn (Nat.lt_irrefl _)
  | cons t2 r => exact S.accY hp ho hb hh hd hu k
theorem St.expH {x : Str} {a : Int} {tx : Tok} {Q : Value → Shared → Prop} (S : St w g L ns vs own (RP w p q) Z h) (hp : POk w p q (op x a :: ts) Z) (hn : 0 < ts.length) (hh : A.handled = none) (hd : A.depth + 25 < recursionLimit) (hu : A.units + 400 < cLine)
    (k : ∀ q' h' tk', St w g L ns vs own (RP w p q') Z h' → POk w p q' ts Z → Q .none ⟨h', ge, dr, tk', os⟩) :
    wpAny (model PR w) (A.deeper e0) (call (.ref 167) [.ref p.pa, .str x tx]) Q E ⟨h, ge, dr, tk, os⟩ := by
  cases ts with
  | nil => exact absurd hn (Nat.lt_irrefl _)
  | cons t2 r => exact S.expT hp .op (by rw [opB_op]; simp) hh hd hu k
theorem St.takeH {Q : Value → Shared → Prop} (S : St w g L ns vs own (RP w p q) Z h) (hp : POk w p q (t :: ts) Z) (hn : 0 < ts.length) (hh : A.handled = none) (hd : A.depth + 10 < recursionLimit) (hu : A.units + 100 < cLine)
    (k : ∀ q' h' tk', St w g L ns vs own (RP w p q') Z h' → POk w p q' ts Z → Q (.ref q.a) ⟨h', ge, dr, tk', os⟩) :
    wpAny (model PR w) (A.deeper e0) (call (.ref 132) [.ref p.pa]) Q E ⟨h, ge, dr, tk, os⟩ := by
  cases ts with
  | nil => exact absurd hn (Nat.lt_irrefl _)
  | cons t2 r => exact S.takeT hp hh hd hu k
theorem Hd.len {P : TokD → Prop} {ts : List TokD} (h : Hd P ts) : 0 < ts.length := by obtain ⟨t, r, rfl, _⟩ := h.ex; simp
theorem St.accO {x y : Str} {a : Int} {tx : Tok} {Q : Value → Shared → Prop} (S : St w g L ns vs own (RP w p q) Z h) (hp : POk w p q (op y a :: ts) Z) (hb : (y == x) = false) (hh : A.handled = none) (hd : A.depth + 20 < recursionLimit) (hu : A.units + 300 < cLine)
    (k : ∀ h' tk', St w g L ns vs own (RP w p q) Z h' → Q (.bool false) ⟨h', ge, dr, tk', os⟩) :
    wpAny (model PR w) (A.deeper e0) (call (.ref 153) [.ref p.pa, .str x tx]) Q E ⟨h, ge, dr, tk, os⟩ := S.accN hp .op (by rw [opB_op]; exact hb) hh hd hu k
theorem St.accI {x : Str} {a : Int} {tx : Tok} {Q : Value → Shared → Prop} (S : St w g L ns vs own (RP w p q) Z h) (hp : POk w p q (op x a :: ts) Z) (hn : 0 < ts.length) (hh : A.handled = none) (hd : A.depth + 20 < recursionLimit) (hu : A.units + 300 < cLine)
    (k : ∀ q' h' tk', St w g L ns vs own (RP w p q') Z h' → POk w p q' ts Z → Q (.bool true) ⟨h', ge, dr, tk', os⟩) :
    wpAny (model PR w) (A.deeper e0) (call (.ref 153) [.ref p.pa, .str x tx]) Q E ⟨h, ge, dr, tk, os⟩ := S.accH hp .op (by rw [opB_op]; simp) hn hh hd hu k
end
section
variable {w : World} {A : Around} {E : Value → Shared → Prop} {env : Env} {g : Heap} {L : Addr} {ns gs : List Str} {vs vs' : List (Option Value)} {own R Z : Led}
  {h : Heap} {ge : Array GenState} {dr : Drawn} {tk : Nat} {os : OsState} {p : PA} {q : PS} {e0 : Env} {t t2 : TokD} {ts : List TokD}
theorem last_snoc : ∀ (us : List Value) (y : Value), kl_last (us ++ [y]) = some (us, y)
  | [], _ => rfl
  | v :: us, y => by
    show (match kl_last (us ++ [y]) with | some (p, y) => some (v :: p, y) | none => some ([], v)) = _
    rw [last_snoc us y]
theorem popO {l : Addr} {us : List Value} {y : Value} {n : Nat} {f : Obj → Led} {Q : Value → Shared → Prop} (S : St w g L ns vs own R Z h) (u : Upd1 l (listOf (us ++ [y]).toArray n) own f) (hz : us.length ≤ 1000000)
    (k1 : ∀ h' tk', St w g L ns vs (f (listOf us.toArray (n + 1))) R Z h' → Q y ⟨h', ge, dr, tk', os⟩) : wpAny (model PR w) A (call (.builtin "list.pop") [.ref l]) Q E ⟨h, ge, dr, tk, os⟩ :=
  kl_pop (s := ⟨h, ge, dr, tk, os⟩) S.F S.N (by simpa using last_snoc us y) ((u.app (R ++ Z)).toUpd S.nd _) (by rw [sizeLine_eq]; simp; (first | lia | omega)) fun h' F' N' => k1 h' _ (S.of F' N' ((u.app _).keys _))
theorem gm_pop {l : Addr} {us : List Value} {n : Nat} {pl : Sem Bool} {Q : Value × List Value → Shared → Prop} (S : St w g L ns vs own R Z h) (hp : (l, listOf us.toArray n) ∈ own ++ (R ++ Z))
    (k1 : Q (.builtin "list.pop", [.ref l]) ⟨h, ge, dr, tk, os⟩) : wpAny (model PR w) A (getMethod (.ref l) "pop" pl) Q E ⟨h, ge, dr, tk, os⟩ :=
  W.kf_method (s := ⟨h, ge, dr, tk, os⟩) S.N hp PySem.F.slot_list_pop PySem.F.type_list_pop k1
theorem St.eidH {x : Str} {a : Int} {Q : Value → Shared → Prop} (S : St w g L ns vs own (RP w p q) Z h) (hp : POk w p q (idt x a :: ts) Z) (hn : 0 < ts.length) (hh : A.handled = none) (hd : A.depth + 20 < recursionLimit) (hu : A.units + 300 < cLine)
    (k : ∀ q' tv h' tk', St w g L ns vs own (RP w p q') Z h' → POk w p q' ts Z → Q (.str x tv) ⟨h', ge, dr, tk', os⟩) :
    wpAny (model PR w) (A.deeper e0) (call (.ref 181) [.ref p.pa]) Q E ⟨h, ge, dr, tk, os⟩ := by
  cases ts with
  | nil => exact absurd hn (Nat.lt_irrefl _)
  | cons t2 r => exact S.eidT hp hh hd hu k
end
theorem TrL.snoc_inv {Z : Led} : ∀ {us : List Value} {ds : List PyData} {d : PyData}, TrL Z us (ds ++ [d]) → Ex2 fun us0 v => An3 (us = us0 ++ [v]) (TrL Z us0 ds) (Tr Z v d)
  | _, [], _, h => by
    obtain ⟨v, us, rfl, h1, h2⟩ := h.cons_inv
    obtain rfl := h2.nil_inv
    exact ⟨[], v, rfl, .nil, h1⟩
  | _, d0 :: ds, _, h => by
    obtain ⟨v, us, rfl, h1, h2⟩ := h.cons_inv
    obtain ⟨us0, v2, rfl, h3, h4⟩ := TrL.snoc_inv h2
    exact ⟨v :: us0, v2, rfl, .cons h1 h3, h4⟩

noncomputable def ListX (w : World) (X : XP) (D U : Nat) : Prop := ∀ (p : PA) (q : PS) (ts : List TokD) (ds : List PyData) (e : Option Int) (rest : List TokD) (Z : Led), GItems X ts ds e → POk w p q (ts ++ rest) Z → Hd (fun t => FolE t ∧ opB t "," = false) rest →
  CallX w 337 [.ref p.pa] (D + 2) (U + 20) (RP w p q) Z e (PPost w p rest Z (.tuple ds))
theorem GMore.hd {X : XP} {ts ds e rest} (h : GMore X ts ds e) (hr : Hd (fun t => FolE t ∧ opB t "," = false) rest) : Hd FolE (ts ++ rest) := by
  cases h with
  | nil => obtain ⟨t, r, rfl, h1, _⟩ := hr; exact ⟨t, r, rfl, h1⟩
  | cons => exact ⟨_, _, rfl, .op (by decide)⟩
set_option maxHeartbeats 4000000 in
theorem listx_spec {w : World} {X : XP} {D U : Nat} (IH : XSpec w X D U) (hD : 40 ≤ D) (hU : 600 ≤ U) : ListX w X D U := by
  intro p q ts ds e rest Z hg hp hr
  have h1 := hp.pi
  cases hg with
  | @mk ts1 d1 e1 tsr dsr er hx hm =>
  rw [List.append_assoc] at hp
  generalize hbad : e1.or er = bad
  refine CallX.of (ns := ["self", "items"]) (gs := ["tuple"]) (rest := ["items"]) (binds := [("self", .ref p.pa)]) (vs := [some (.ref p.pa), none]) (by k_is) (by k_is) (fun u_ u_ => BindsTo.of_eq rfl) (Ev.of (by decide)) (by decide) rfl rfl ?_
  intro g A ge dr os base outer keep hh hd hu hkeep L' h₁ tk₁ E V S XX pass
  k_extra "GO"
  refine St.useP (by assumption) XX hkeep .rfl (IH p q ts1 d1 e1 _ Z hx hp (hm.hd hr)) hh (by k_extra "DPT") (by k_extra "DPT") (fun at_ ha => by rw [← hbad, ha]; rfl) fun hn1 qH kH v q2 Z' h2 tk2 S2 hp2 hs2 ht2 => ?_
  rw [or_n hn1] at hbad
  clear hn1
  refine hideG fun GG hGG => ?_
  have h2 := hp2.pi
  refine hGG ?_; clear hGG GG
  k_extra "GO"
  have hlen := hp2.len
  have hr0 : 0 < rest.length := by obtain ⟨t, r, rfl, _⟩ := hr; simp
  rw [List.length_append] at hlen
  refine whl (by passes_own) (fun n s => Ex11 fun q' ts' ds' e' us ds0 nl Z' h tk l => An10 (s = ⟨h, ge, dr, tk, os⟩) (n = ts'.length) (GMore X ts' ds' e') (e' = bad) (St w g L' ["self", "items"] [some (.ref p.pa), some (.ref l)] [(l, listOf us.toArray nl)] (RP w p q') Z' h) (POk w p q' (ts' ++ rest) Z') (Sub Z Z') (TrL Z' us ds0) (ds0 ++ ds' = d1 :: dsr) (us.length + ts'.length ≤ 1 + tsr.length)) ?_ tsr.length
    ⟨q2, tsr, dsr, er, [v], [d1], _, _, _, _, _, rfl, rfl, hm, hbad, by assumption, hp2, hs2, .cons ht2 .nil, rfl, by simp⟩
  rintro n s ⟨q', ts', ds', e', us, ds0, nl, Z', h', tk', l, rfl, rfl, hm', he', S', hp', hs', htr, hds, hul⟩
  have h3 := hp'.pi
  cases hm' with
  | nil =>
    refine hideG fun GG hGG => ?_
    obtain ⟨t, r, rfl, hf, hc⟩ := hr
    refine hGG ?_; clear hGG GG
    k_extra "GO"
    refine S'.accN hp' hf.s hc hh (by k_extra "DPT") (by k_extra "DPT") fun h4 tk4 S4 => ?_
    k_extra "GO"
    refine RetX.st he'.symm (by assumption) ?_
    rw [List.append_nil] at hds
    exact ⟨q', rfl, hp'.up (Sub.tl .rfl), hs'.tl, .tup mem_hd IsT.of (hds ▸ htr.tl)⟩
  | @cons a ts2 d2 e2 ts3 ds3 e3 hx2 hm3 =>
    refine hideG fun GG hGG => ?_
    rw [List.cons_append, List.append_assoc] at hp'
    simp only [List.length_cons, List.length_append] at hul
    obtain ⟨t0, r0, e0⟩ : ∃ t0 r0, ts2 ++ (ts3 ++ rest) = t0 :: r0 := by
      cases q : ts2 ++ (ts3 ++ rest) with
      | nil => have := congrArg List.length q; simp only [List.length_append, List.length_nil] at this; (first | lia | omega)
      | cons t0 r0 => exact ⟨t0, r0, rfl⟩
    have hp4 := hp'
    rw [e0] at hp4
    refine hGG ?_; clear hGG GG
    k_extra "GO"
    refine S'.accY hp4 .op (by rw [opB_op]; simp) hh (by k_extra "DPT") (by k_extra "DPT") fun q5 h5 tk5 S5 hp5 => ?_
    rw [← e0] at hp5
    have h5 := hp5.pi
    k_extra "GO"
    refine St.useP (by assumption) XX hkeep hs' (IH p q5 ts2 d2 e2 _ _ hx2 hp5 (hm3.hd hr)) hh (by k_extra "DPT") (by k_extra "DPT") (fun at_ ha => by rw [← he', ha]; rfl) fun hn2 qH kH v2 q6 Z2 h6 tk6 S6 hp6 hs6 ht6 => ?_
    rw [or_n hn2] at he'
    k_extra "GO"
    refine ⟨ts3.length, by simp only [List.length_cons, List.length_append]; (first | lia | omega), q6, ts3, ds3, e3, us ++ [v2], ds0 ++ [d2], _, _, _, _, l, rfl, rfl, hm3, he', by assumption, hp6, hs'.trans hs6, (htr.up hs6).append (.cons ht6 .nil), by simpa using hds, ?_⟩
    simp only [List.length_append, List.length_cons, List.length_nil]; (first | lia | omega)

noncomputable def ArgsX (w : World) (X : XP) (D U : Nat) : Prop := ∀ (p : PA) (q : PS) (a a' : Int) (ts : List TokD) (ds : List PyData) (e : Option Int) (rest : List TokD) (Z : Led), GArgs X ts ds e → POk w p q (op "(" a :: (ts ++ op ")" a' :: rest)) Z → 0 < rest.length →
  CallX w 344 [.ref p.pa] (D + 3) (U + 30) (RP w p q) Z e (PPost w p rest Z (.tuple ds))
set_option maxHeartbeats 4000000 in
theorem args_spec {w : World} {X : XP} {D U : Nat} (IH : ListX w X D U) (hne : ∀ ts d e, X ts d e → Hd (fun t => OpStr t ∧ opB t ")" = false) ts) (hD : 40 ≤ D) (hU : 600 ≤ U) : ArgsX w X D U := by
  intro p q a a' ts ds e rest Z hg hp hr
  have h1 := hp.pi
  refine CallX.of (ns := ["self", "items"]) (gs := []) (rest := ["items"]) (binds := [("self", .ref p.pa)]) (vs := [some (.ref p.pa), none]) (by k_is) (by k_is) (fun u_ u_ => BindsTo.of_eq rfl) (Ev.of (by decide)) (by decide) rfl rfl ?_
  intro g A ge dr os base outer keep hh hd hu hkeep L' h₁ tk₁ E V S XX pass
  k_extra "GO"
  refine S.expH hp (by simp only [List.length_append, List.length_cons]; (first | lia | omega)) hh (by k_extra "DPT") (by k_extra "DPT") fun q2 h2 tk2 S2 hp2 => ?_
  cases hg with
  | nil =>
    k_extra "GO"
    refine S2.accI hp2 hr hh (by k_extra "DPT") (by k_extra "DPT") fun q3 h3 tk3 S3 hp3 => ?_
    k_extra "GO"
    refine RetX.st rfl (by assumption) ⟨q3, rfl, hp3.up (Sub.tl .rfl), Sub.tl .rfl, .tup mem_hd IsT.of .nil⟩
  | some hg =>
    have hg' := hg
    cases hg' with
    | @mk ts1 d1 e1 tsr dsr er hx hm =>
      refine hideG fun GG hGG => ?_
      obtain ⟨t0, r0, rfl, ho, hb⟩ := (hne _ _ _ hx).ex
      refine hGG ?_; clear hGG GG
      k_extra "GO"
      refine S2.accN hp2 ho hb hh (by k_extra "DPT") (by k_extra "DPT") fun h3 tk3 S3 => ?_
      k_extra "GO"
      refine St.useP (by assumption) XX hkeep .rfl (IH p q2 _ _ _ _ Z hg hp2 (.mk' ⟨.op (by decide), by rw [opB_op]; decide +kernel⟩)) hh (by k_extra "DPT") (by k_extra "DPT") (fun u_ h => h) fun hn qH kH v q4 Z' h4 tk4 S4 hp4 hs4 ht4 => ?_
      have h4 := hp4.pi
      k_extra "GO"
      refine St.expH (by assumption) hp4 hr hh (by k_extra "DPT") (by k_extra "DPT") fun q5 h5 tk5 S5 hp5 => ?_
      k_extra "GO"
      refine RetX.st hn (by assumption) ⟨q5, rfl, hp5, hs4, ht4⟩
noncomputable def MtmX (w : World) (X : XP) (D U : Nat) : Prop := ∀ (p : PA) (q : PS) (a : Int) (t1 : List TokD) (d1 : PyData) (e1 : Option Int) (rest : List TokD) (Z : Led), X t1 d1 e1 → 0 < rest.length →
  (POk w p q (t1 ++ op ")" a :: rest) Z → CallX w 351 [.ref p.pa] (D + 2) (U + 20) (RP w p q) Z e1 (PPost w p (op ")" a :: rest) Z d1)) ∧
  ∀ (a1 a2 : Int) (t2 : List TokD) (d2 : PyData) (e2 : Option Int) (t3 : List TokD) (d3 : PyData) (e3 : Option Int), X t2 d2 e2 → X t3 d3 e3 → POk w p q (t1 ++ op ":" a1 :: (t2 ++ op ":" a2 :: (t3 ++ op ")" a :: rest))) Z →
    CallX w 351 [.ref p.pa] (D + 2) (U + 20) (RP w p q) Z (e1.or (e2.or e3)) (PPost w p (op ")" a :: rest) Z d2)
set_option maxHeartbeats 4000000 in
theorem mtm_spec {w : World} {X : XP} {D U : Nat} (IH : XSpec w X D U) (hD : 40 ≤ D) (hU : 600 ≤ U) : MtmX w X D U := by
  intro p q a ts1 d1 e1 rest Z hx1 hr
  refine ⟨fun hp => ?_, fun a1 a2 ts2 d2 e2 ts3 d3 e3 hx2 hx3 hp => ?_⟩
  · have h1 := hp.pi
    refine CallX.of (ns := ["self", "first", "typical"]) (gs := []) (rest := ["first", "typical"]) (binds := [("self", .ref p.pa)]) (vs := [some (.ref p.pa), none, none]) (by k_is) (by k_is) (fun u_ u_ => BindsTo.of_eq rfl) (Ev.of (by decide)) (by decide) rfl rfl ?_
    intro g A ge dr os base outer keep hh hd hu hkeep L' h₁ tk₁ E V S XX pass
    k_extra "GO"
    refine St.useP (by assumption) XX hkeep .rfl (IH p q _ _ _ _ Z hx1 hp (.mk' (.op (by decide)))) hh (by k_extra "DPT") (by k_extra "DPT") (fun u_ h => h) fun hn qH kH v q4 Z' h4 tk4 S4 hp4 hs4 ht4 => ?_
    have h4 := hp4.pi
    k_extra "GO"
    refine St.accO (by assumption) hp4 (by decide +kernel) hh (by k_extra "DPT") (by k_extra "DPT") fun h5 tk5 S5 => ?_
    k_extra "GO"
    refine RetX.st hn (by assumption) ⟨q4, rfl, hp4, hs4, ht4⟩
  · have h1 := hp.pi
    generalize hbad : e1.or (e2.or e3) = bad
    refine CallX.of (ns := ["self", "first", "typical"]) (gs := []) (rest := ["first", "typical"]) (binds := [("self", .ref p.pa)]) (vs := [some (.ref p.pa), none, none]) (by k_is) (by k_is) (fun u_ u_ => BindsTo.of_eq rfl) (Ev.of (by decide)) (by decide) rfl rfl ?_
    intro g A ge dr os base outer keep hh hd hu hkeep L' h₁ tk₁ E V S XX pass
    k_extra "GO"
    refine St.useP (by assumption) XX hkeep .rfl (IH p q _ _ _ _ Z hx1 hp (.mk' (.op (by decide)))) hh (by k_extra "DPT") (by k_extra "DPT") (fun at_ ha => by rw [← hbad, ha]; rfl) fun hn qH kH v q4 Z' h4 tk4 S4 hp4 hs4 ht4 => ?_
    rw [or_n hn] at hbad
    have h4 := hp4.pi
    k_extra "GO"
    refine St.accI (by assumption) hp4 (by simp only [List.length_append, List.length_cons]; (first | lia | omega)) hh (by k_extra "DPT") (by k_extra "DPT") fun q5 h5 tk5 S5 hp5 => ?_
    have h5 := hp5.pi
    k_extra "GO"
    refine St.useP (by assumption) XX hkeep hs4 (IH p q5 _ _ _ _ _ hx2 hp5 (.mk' (.op (by decide)))) hh (by k_extra "DPT") (by k_extra "DPT") (fun at_ ha => by rw [← hbad, ha]; rfl) fun hn2 qH kH v6 q6 Z6 h6 tk6 S6 hp6 hs6 ht6 => ?_
    rw [or_n hn2] at hbad
    have h6 := hp6.pi
    k_extra "GO"
    refine St.expH (by assumption) hp6 (by simp only [List.length_append, List.length_cons]; (first | lia | omega)) hh (by k_extra "DPT") (by k_extra "DPT") fun q7 h7 tk7 S7 hp7 => ?_
    have h7 := hp7.pi
    k_extra "GO"
    refine St.useP (by assumption) XX hkeep (hs4.trans hs6) (IH p q7 _ _ _ _ _ hx3 hp7 (.mk' (.op (by decide)))) hh (by k_extra "DPT") (by k_extra "DPT") (fun at_ ha => by rw [← hbad, ha]) fun hn3 qH kH v8 q8 Z8 h8 tk8 S8 hp8 hs8 ht8 => ?_
    rw [hn3] at hbad
    k_extra "GO"
    refine RetX.st hbad.symm (by assumption) ⟨q8, rfl, hp8, hs4.trans (hs6.trans hs8), ht6.up hs8⟩

noncomputable def BracesX (w : World) (X : XP) (D U : Nat) : Prop := ∀ (p : PA) (q : PS) (a : Int) (rest : List TokD) (Z : Led), 0 < rest.length →
  (∀ a' ts ds e, GItems X ts ds e → POk w p q (op "{" a :: (ts ++ op "}" a' :: rest)) Z →
    CallX w 330 [.ref p.pa] (D + 3) (U + 30) (RP w p q) Z e (PPost w p rest Z (.tuple [.str "cat", .int a, .tuple ds]))) ∧
  ∀ a1 a2 a3 ts d e ts' ds e', X ts d e → GItems X ts' ds e' → POk w p q (op "{" a :: (ts ++ op "{" a1 :: (ts' ++ op "}" a2 :: op "}" a3 :: rest))) Z →
    CallX w 330 [.ref p.pa] (D + 3) (U + 30) (RP w p q) Z (e.or e') (PPost w p rest Z (.tuple [.str "rep", .int a, d, .tuple ds]))
set_option maxHeartbeats 8000000 in
theorem braces_spec {w : World} {X : XP} {D U : Nat} (IH : XSpec w X D U) (IL : ListX w X D U) (hD : 40 ≤ D) (hU : 600 ≤ U) : BracesX w X D U := by
  intro p q a rest Z hr
  refine ⟨fun a' ts ds e hg hp => ?_, fun a1 a2 a3 ts1 d1 e1 ts2 ds e2 hx hg hp => ?_⟩
  · have h1 := hp.pi
    cases hg with
    | @mk ts1 d1 e1 tsr dsr er hx hm =>
    rw [List.append_assoc] at hp
    have hat := hp.tok.2
    dsimp only at hat
    generalize hbad : e1.or er = bad
    have hend : Hd (fun t => FolE t ∧ opB t "," = false) (op "}" a' :: rest) := .mk' ⟨.op (by decide), by rw [opB_op]; decide +kernel⟩
    have hnot : Hd (fun t => OpStr t ∧ opB t "{" = false) (tsr ++ op "}" a' :: rest) := by
      cases hm with
      | nil => exact .mk' ⟨.op, by rw [opB_op]; decide +kernel⟩
      | cons => exact ⟨_, _, rfl, .op, by rw [opB_op]; decide +kernel⟩
    refine CallX.of (ns := ["self", "at", "first", "items"]) (gs := ["tuple"]) (rest := ["at", "first", "items"]) (binds := [("self", .ref p.pa)]) (vs := [some (.ref p.pa), none, none, none]) (by k_is) (by k_is) (fun u_ u_ => BindsTo.of_eq rfl) (Ev.of (by decide)) (by decide) rfl rfl ?_
    intro g A ge dr os base outer keep hh hd hu hkeep L' h₁ tk₁ E V S XX pass
    k_extra "GO"
    refine St.expH (by assumption) hp (by simp only [List.length_append, List.length_cons]; (first | lia | omega)) hh (by k_extra "DPT") (by k_extra "DPT") fun q2 h2 tk2 S2 hp2 => ?_
    have h2 := hp2.pi
    k_extra "GO"
    refine St.useP (by assumption) XX hkeep .rfl (IH p q2 _ _ _ _ Z hx hp2 (hm.hd hend)) hh (by k_extra "DPT") (by k_extra "DPT") (fun at_ ha => by rw [← hbad, ha]; rfl) fun hn qH kH v q3 Z3 h3 tk3 S3 hp3 hs3 ht3 => ?_
    rw [or_n hn] at hbad
    have h3 := hp3.pi
    obtain ⟨t0, r0, e0, ho0, hb0⟩ := hnot.ex
    have hp3' := hp3
    rw [e0] at hp3'
    k_extra "GO"
    refine St.accN (by assumption) hp3' ho0 hb0 hh (by k_extra "DPT") (by k_extra "DPT") fun h4 tk4 S4 => ?_
    k_extra "GO"
    have hlen := hp3.len
    rw [List.length_append] at hlen
    simp only [List.length_cons] at hlen
    refine whl (by passes_own) (fun n s => Ex11 fun q' ts' ds' e' us ds0 nl Z' h tk l => An10 (s = ⟨h, ge, dr, tk, os⟩) (n = ts'.length) (GMore X ts' ds' e') (e' = bad) (St w g L' ["self", "at", "first", "items"] [some (.ref p.pa), some (.int q.at_ q.ta), some v, some (.ref l)] [(l, listOf us.toArray nl)] (RP w p q') Z' h) (POk w p q' (ts' ++ op "}" a' :: rest) Z') (Sub Z Z') (TrL Z' us ds0) (ds0 ++ ds' = d1 :: dsr) (us.length + ts'.length ≤ 1 + tsr.length)) ?_ tsr.length
      ⟨q3, tsr, dsr, er, [v], [d1], _, _, _, _, _, rfl, rfl, hm, hbad, by assumption, hp3, hs3, .cons ht3 .nil, rfl, by simp⟩
    rintro n s ⟨q', ts', ds', e', us, ds0, nl, Z', h', tk', l, rfl, rfl, hm', he', S', hp', hs', htr, hds, hul⟩
    have h5 := hp'.pi
    cases hm' with
    | nil =>
      k_extra "GO"
      refine S'.accO hp' (by decide +kernel) hh (by k_extra "DPT") (by k_extra "DPT") fun h6 tk6 S6 => ?_
      k_extra "GO"
      refine St.expH (by assumption) hp' hr hh (by k_extra "DPT") (by k_extra "DPT") fun q7 h7 tk7 S7 hp7 => ?_
      k_extra "GO"
      refine RetX.st he'.symm (by assumption) ⟨q7, rfl, hp7.up (Sub.tl (.tl .rfl)), hs'.tl.tl, ?_⟩
      rw [List.append_nil] at hds
      rw [← hat]
      exact .tup mem_hd IsT.of (.cons (.str _ _) (.cons (.int _ _) (.cons (.tup (mem_tl mem_hd) IsT.of (hds ▸ htr.tl.tl)) .nil)))
    | @cons a2 ts2 d2 e2 ts3 ds3 e3 hx2 hm3 =>
      rw [List.cons_append, List.append_assoc] at hp'
      simp only [List.length_cons, List.length_append] at hul
      k_extra "GO"
      refine S'.accI hp' (by simp only [List.length_append, List.length_cons]; (first | lia | omega)) hh (by k_extra "DPT") (by k_extra "DPT") fun q6 h6 tk6 S6 hp6 => ?_
      have h6 := hp6.pi
      k_extra "GO"
      refine St.useP (by assumption) XX hkeep hs' (IH p q6 ts2 d2 e2 _ _ hx2 hp6 (hm3.hd hend)) hh (by k_extra "DPT") (by k_extra "DPT") (fun at_ ha => by rw [← he', ha]; rfl) fun hn2 qH kH v2 q7 Z2 h7 tk7 S7 hp7 hs7 ht7 => ?_
      rw [or_n hn2] at he'
      k_extra "GO"
      refine ⟨ts3.length, by simp only [List.length_cons, List.length_append]; (first | lia | omega), q7, ts3, ds3, e3, us ++ [v2], ds0 ++ [d2], _, _, _, _, l, rfl, rfl, hm3, he', by assumption, hp7, hs'.trans hs7, (htr.up hs7).append (.cons ht7 .nil), by simpa using hds, ?_⟩
      simp only [List.length_append, List.length_cons, List.length_nil]; (first | lia | omega)
  · have h1 := hp.pi
    have hat := hp.tok.2
    dsimp only at hat
    generalize hbad : e1.or e2 = bad
    refine CallX.of (ns := ["self", "at", "first", "items"]) (gs := ["tuple"]) (rest := ["at", "first", "items"]) (binds := [("self", .ref p.pa)]) (vs := [some (.ref p.pa), none, none, none]) (by k_is) (by k_is) (fun u_ u_ => BindsTo.of_eq rfl) (Ev.of (by decide)) (by decide) rfl rfl ?_
    intro g A ge dr os base outer keep hh hd hu hkeep L' h₁ tk₁ E V S XX pass
    k_extra "GO"
    refine St.expH (by assumption) hp (by simp only [List.length_append, List.length_cons]; (first | lia | omega)) hh (by k_extra "DPT") (by k_extra "DPT") fun q2 h2 tk2 S2 hp2 => ?_
    have h2 := hp2.pi
    k_extra "GO"
    refine St.useP (by assumption) XX hkeep .rfl (IH p q2 _ _ _ _ Z hx hp2 (.mk' (.op (by decide)))) hh (by k_extra "DPT") (by k_extra "DPT") (fun at_ ha => by rw [← hbad, ha]; rfl) fun hn qH kH v q3 Z3 h3 tk3 S3 hp3 hs3 ht3 => ?_
    rw [or_n hn] at hbad
    have h3 := hp3.pi
    k_extra "GO"
    refine St.accI (by assumption) hp3 (by simp only [List.length_append, List.length_cons]; (first | lia | omega)) hh (by k_extra "DPT") (by k_extra "DPT") fun q4 h4 tk4 S4 hp4 => ?_
    have h4 := hp4.pi
    k_extra "GO"
    refine St.useP (by assumption) XX hkeep hs3 (IL p q4 _ _ _ _ _ hg hp4 (.mk' ⟨.op (by decide), by rw [opB_op]; decide +kernel⟩)) hh (by k_extra "DPT") (by k_extra "DPT") (fun at_ ha => by rw [← hbad, ha]) fun hn2 qH kH v5 q5 Z5 h5 tk5 S5 hp5 hs5 ht5 => ?_
    rw [hn2] at hbad
    have h5 := hp5.pi
    k_extra "GO"
    refine St.expH (by assumption) hp5 (by simp only [List.length_append, List.length_cons]; (first | lia | omega)) hh (by k_extra "DPT") (by k_extra "DPT") fun q6 h6 tk6 S6 hp6 => ?_
    have h6 := hp6.pi
    k_extra "GO"
    refine St.expH (by assumption) hp6 hr hh (by k_extra "DPT") (by k_extra "DPT") fun q7 h7 tk7 S7 hp7 => ?_
    k_extra "GO"
    refine RetX.st hbad.symm (by assumption) ⟨q7, rfl, hp7.up (Sub.tl .rfl), hs3.trans hs5.tl, ?_⟩
    rw [← hat]
    exact .tup mem_hd IsT.of (.cons (.str _ _) (.cons (.int _ _) (.cons (ht3.up hs5.tl) (.cons ht5.tl .nil))))

set_option maxHeartbeats 4000000 in
theorem path_spec {w : World} {R Z : Led} {pa l : Addr} {us : List Value} {n : Nat} {done : List PyData} {nm : Str} {at_ : Int} {ta : Tok} (hl : (l, listOf us.toArray n) ∈ Z) (ht : TrL Z us (done ++ [.tuple [.str nm, .none]])) (hz : us.length ≤ 1000000) :
    CallC w 365 [.ref pa, .int at_ ta, .ref l] 1 10 R Z (fun v R' Z' => R' = R ∧ Sub Z Z' ∧ Tr Z' v (pathTree at_ done nm)) := by
  have hlen := ht.length
  simp only [List.length_append, List.length_cons, List.length_nil] at hlen
  refine CallC.of (ns := ["self", "at", "parts"]) (gs := ["len", "tuple"]) (rest := []) (binds := [("self", .ref pa), ("at", .int at_ ta), ("parts", .ref l)]) (vs := [some (.ref pa), some (.int at_ ta), some (.ref l)]) (by k_is) (by k_is) (fun u_ u_ => BindsTo.of_eq rfl) (Ev.of (by decide)) (by decide) rfl rfl ?_
  intro g A ge dr os hh hd hu L' h₁ tk E V S pE
  k_extra "GO"
  refine ite_dec (fun hc => ?_) (fun hc => ?_)
  · have hd0 : done = [] := by cases done <;> simp at hlen ⊢; (first | lia | omega)
    subst hd0
    obtain ⟨v0, us', rfl, h1, h2⟩ := ht.cons_inv
    obtain rfl := h2.nil_inv
    obtain ⟨a0, o0, v1, v2, vs2, rfl, m0, i0, h3, h4, l2⟩ := Tr.tP2 h1
    obtain ⟨t1, rfl⟩ := h3.str_inv
    obtain rfl := h4.none_inv
    obtain rfl := l2.nil_inv
    have hx : ([Value.ref a0] : List Value)[(0 : Int).toNat]? = some (.ref a0) := rfl
    k_extra "GO"
    (repeat' with_reducible k_extra "UNH"); k_extra "RETC"
    refine ⟨rfl, Sub.tl .rfl, ?_⟩
    unfold pathTree
    rw [if_pos rfl]
    exact .tup mem_hd IsT.of (.cons (.str _ _) (.cons (.int _ _) (.cons (.str _ _) .nil)))
  · have hd0 : done ≠ [] := by rintro rfl; simp at hlen; (first | lia | omega)
    k_extra "GO"
    (repeat' with_reducible k_extra "UNH"); k_extra "RETC"
    refine ⟨rfl, Sub.tl (.tl .rfl), ?_⟩
    unfold pathTree
    rw [if_neg hd0]
    exact .tup mem_hd IsT.of (.cons (.str _ _) (.cons (.int _ _) (.cons (.tup (mem_tl mem_hd) IsT.of (ht.up (Sub.tl (.tl .rfl)))) .nil)))
set_option maxHeartbeats 4000000 in
theorem with_ix {w : World} {R Z : Led} {pa : Addr} {bv sv : Value} {k0 : Str} {at_ : Int} {bs : List PyData} {i j : PyData} (hb : Tr Z bv (.tuple (.str k0 :: .int at_ :: bs))) (hs : Tr Z sv (.tuple [.str "index", i, j])) :
    CallC w 386 [.ref pa, bv, sv] 1 10 R Z (fun v R' Z' => R' = R ∧ Sub Z Z' ∧ Tr Z' v (tIx at_ (.tuple (.str k0 :: .int at_ :: bs)) i)) := by
  have hb0 := hb
  obtain ⟨a0, o0, v1, v2, vs2, rfl, m0, i0, h3, h4, l2⟩ := Tr.tP2 hb
  obtain ⟨t1, rfl⟩ := h3.str_inv
  obtain ⟨t2, rfl⟩ := h4.int_inv
  obtain ⟨a1, o1, u1, u2, us2, rfl, m1, i1, h5, h6, k2⟩ := Tr.tP2 hs
  obtain ⟨t3, rfl⟩ := h5.str_inv
  refine CallC.of (ns := ["self", "base", "select"]) (gs := []) (rest := []) (binds := [("self", .ref pa), ("base", .ref a0), ("select", .ref a1)]) (vs := [some (.ref pa), some (.ref a0), some (.ref a1)]) (by k_is) (by k_is) (fun u_ u_ => BindsTo.of_eq rfl) (Ev.of (by decide)) (by decide) rfl rfl ?_
  intro g A ge dr os hh hd hu L' h₁ tk E V S pE
  k_extra "GO"
  (repeat' with_reducible k_extra "UNH"); k_extra "RETC"
  exact ⟨rfl, Sub.tl .rfl, .tup mem_hd IsT.of (.cons (.str _ _) (.cons (.int _ _) (.cons hb0.tl (.cons h6.tl .nil))))⟩
set_option maxHeartbeats 4000000 in
theorem with_rg {w : World} {R Z : Led} {pa : Addr} {bv sv : Value} {k0 k : Str} {at_ : Int} {bs : List PyData} {i j : PyData} (hb : Tr Z bv (.tuple (.str k0 :: .int at_ :: bs))) (hs : Tr Z sv (.tuple [.str k, i, j])) (hk : (k == ("index" : Str)) = false) :
    CallC w 386 [.ref pa, bv, sv] 1 10 R Z (fun v R' Z' => R' = R ∧ Sub Z Z' ∧ Tr Z' v (.tuple [.str k, .int at_, .tuple (.str k0 :: .int at_ :: bs), i, j])) := by
  have hb0 := hb
  obtain ⟨a0, o0, v1, v2, vs2, rfl, m0, i0, h3, h4, l2⟩ := Tr.tP2 hb
  obtain ⟨t1, rfl⟩ := h3.str_inv
  obtain ⟨t2, rfl⟩ := h4.int_inv
  obtain ⟨a1, o1, u1, u2, u3, us3, rfl, m1, i1, h5, h6, h7, k3⟩ := Tr.tP3 hs
  obtain ⟨t3, rfl⟩ := h5.str_inv
  refine CallC.of (ns := ["self", "base", "select"]) (gs := []) (rest := []) (binds := [("self", .ref pa), ("base", .ref a0), ("select", .ref a1)]) (vs := [some (.ref pa), some (.ref a0), some (.ref a1)]) (by k_is) (by k_is) (fun u_ u_ => BindsTo.of_eq rfl) (Ev.of (by decide)) (by decide) rfl rfl ?_
  intro g A ge dr os hh hd hu L' h₁ tk E V S pE
  k_extra "GO"
  (repeat' with_reducible k_extra "UNH"); k_extra "RETC"
  exact ⟨rfl, Sub.tl .rfl, .tup mem_hd IsT.of (.cons (.str _ _) (.cons (.int _ _) (.cons hb0.tl (.cons h6.tl (.cons h7.tl .nil)))))⟩

noncomputable def BrIx (w : World) (X : XP) (D U : Nat) : Prop := ∀ (p : PA) (q : PS) (a a' : Int) (ts : List TokD) (i : PyData) (e : Option Int) (rest : List TokD) (Z : Led), X ts i e → POk w p q (op "[" a :: (ts ++ op "]" a' :: rest)) Z → 0 < rest.length →
  CallX w 379 [.ref p.pa] (D + 2) (U + 20) (RP w p q) Z e (PPost w p rest Z (.tuple [.str "index", i, .none]))
noncomputable def BrRg (w : World) (X : XP) (D U : Nat) : Prop := ∀ (p : PA) (q : PS) (k o : Str) (a a1 a2 : Int) (ts : List TokD) (i : PyData) (e : Option Int) (ts' : List TokD) (j : PyData) (e' : Option Int) (rest : List TokD) (Z : Led), Rng k o → X ts i e → X ts' j e' →
  POk w p q (op "[" a :: (ts ++ op o a1 :: (ts' ++ op "]" a2 :: rest))) Z → 0 < rest.length →
  CallX w 379 [.ref p.pa] (D + 2) (U + 20) (RP w p q) Z (e.or e') (PPost w p rest Z (.tuple [.str k, i, j]))
set_option maxHeartbeats 8000000 in
theorem brix_spec {w : World} {X : XP} {D U : Nat} (IH : XSpec w X D U) (hD : 40 ≤ D) (hU : 600 ≤ U) : BrIx w X D U := by
  intro p q a a' ts i e rest Z hx hp hr
  have h1 := hp.pi
  refine CallX.of (ns := ["self", "first", "second", "kind"]) (gs := []) (rest := ["first", "second", "kind"]) (binds := [("self", .ref p.pa)]) (vs := [some (.ref p.pa), none, none, none]) (by k_is) (by k_is) (fun u_ u_ => BindsTo.of_eq rfl) (Ev.of (by decide)) (by decide) rfl rfl ?_
  intro g A ge dr os base outer keep hh hd hu hkeep L' h₁ tk₁ E V S XX pass
  k_extra "GO"
  refine St.expH (by assumption) hp (by simp only [List.length_append, List.length_cons]; (first | lia | omega)) hh (by k_extra "DPT") (by k_extra "DPT") fun q2 h2 tk2 S2 hp2 => ?_
  have h2 := hp2.pi
  k_extra "GO"
  refine St.useP (by assumption) XX hkeep .rfl (IH p q2 _ _ _ _ Z hx hp2 (.mk' (.op (by decide)))) hh (by k_extra "DPT") (by k_extra "DPT") (fun u_ h => h) fun hn qH kH v q3 Z3 h3 tk3 S3 hp3 hs3 ht3 => ?_
  have h3 := hp3.pi
  k_extra "GO"
  refine St.accO (by assumption) hp3 (by decide +kernel) hh (by k_extra "DPT") (by k_extra "DPT") fun h4 tk4 S4 => ?_
  k_extra "GO"
  refine St.accO (by assumption) hp3 (by decide +kernel) hh (by k_extra "DPT") (by k_extra "DPT") fun h5 tk5 S5 => ?_
  k_extra "GO"
  refine St.accO (by assumption) hp3 (by decide +kernel) hh (by k_extra "DPT") (by k_extra "DPT") fun h6 tk6 S6 => ?_
  k_extra "GO"
  refine St.expH (by assumption) hp3 hr hh (by k_extra "DPT") (by k_extra "DPT") fun q7 h7 tk7 S7 hp7 => ?_
  k_extra "GO"
  exact RetX.st hn (by assumption) ⟨q7, rfl, hp7.up (Sub.tl .rfl), hs3.tl, .tup mem_hd IsT.of (.cons (.str _ _) (.cons ht3.tl (.cons .none .nil)))⟩
set_option maxHeartbeats 8000000 in
theorem brrg_spec {w : World} {X : XP} {D U : Nat} (IH : XSpec w X D U) (hD : 40 ≤ D) (hU : 600 ≤ U) : BrRg w X D U := by
  intro p q k o a a1 a2 ts i e ts' j e' rest Z hrg hx hx2 hp hr
  have h1 := hp.pi
  generalize hbad : e.or e' = bad
  refine CallX.of (ns := ["self", "first", "second", "kind"]) (gs := []) (rest := ["first", "second", "kind"]) (binds := [("self", .ref p.pa)]) (vs := [some (.ref p.pa), none, none, none]) (by k_is) (by k_is) (fun u_ u_ => BindsTo.of_eq rfl) (Ev.of (by decide)) (by decide) rfl rfl ?_
  intro g A ge dr os base outer keep hh hd hu hkeep L' h₁ tk₁ E V S XX pass
  k_extra "GO"
  refine St.expH (by assumption) hp (by simp only [List.length_append, List.length_cons]; (first | lia | omega)) hh (by k_extra "DPT") (by k_extra "DPT") fun q2 h2 tk2 S2 hp2 => ?_
  have h2 := hp2.pi
  k_extra "GO"
  refine St.useP (by assumption) XX hkeep .rfl (IH p q2 _ _ _ _ Z hx hp2 (.mk' (.op (by cases hrg <;> decide)))) hh (by k_extra "DPT") (by k_extra "DPT") (fun at_ ha => by rw [← hbad, ha]; rfl) fun hn qH kH v q3 Z3 h3 tk3 S3 hp3 hs3 ht3 => ?_
  rw [or_n hn] at hbad
  have h3 := hp3.pi
  cases hrg
  · k_extra "GO"
    refine St.accI (by assumption) hp3 (by simp only [List.length_append, List.length_cons]; (first | lia | omega)) hh (by k_extra "DPT") (by k_extra "DPT") fun q4 h4 tk4 S4 hp4 => ?_
    have h4 := hp4.pi
    k_extra "GO"
    refine St.useP (by assumption) XX hkeep hs3 (IH p q4 _ _ _ _ _ hx2 hp4 (.mk' (.op (by decide)))) hh (by k_extra "DPT") (by k_extra "DPT") (fun at_ ha => by rw [← hbad, ha]) fun hn2 qH kH v5 q5 Z5 h5 tk5 S5 hp5 hs5 ht5 => ?_
    rw [hn2] at hbad
    have h5 := hp5.pi
    k_extra "GO"
    refine St.expH (by assumption) hp5 hr hh (by k_extra "DPT") (by k_extra "DPT") fun q7 h7 tk7 S7 hp7 => ?_
    k_extra "GO"
    exact RetX.st hbad.symm (by assumption) ⟨q7, rfl, hp7.up (Sub.tl .rfl), hs3.trans hs5.tl, .tup mem_hd IsT.of (.cons (.str _ _) (.cons (ht3.up hs5.tl) (.cons ht5.tl .nil)))⟩
  · k_extra "GO"
    refine St.accO (by assumption) hp3 (by decide +kernel) hh (by k_extra "DPT") (by k_extra "DPT") fun h8 tk8 S8 => ?_
    k_extra "GO"
    refine St.accI (by assumption) hp3 (by simp only [List.length_append, List.length_cons]; (first | lia | omega)) hh (by k_extra "DPT") (by k_extra "DPT") fun q4 h4 tk4 S4 hp4 => ?_
    have h4 := hp4.pi
    k_extra "GO"
    refine St.useP (by assumption) XX hkeep hs3 (IH p q4 _ _ _ _ _ hx2 hp4 (.mk' (.op (by decide)))) hh (by k_extra "DPT") (by k_extra "DPT") (fun at_ ha => by rw [← hbad, ha]) fun hn2 qH kH v5 q5 Z5 h5 tk5 S5 hp5 hs5 ht5 => ?_
    rw [hn2] at hbad
    have h5 := hp5.pi
    k_extra "GO"
    refine St.expH (by assumption) hp5 hr hh (by k_extra "DPT") (by k_extra "DPT") fun q7 h7 tk7 S7 hp7 => ?_
    k_extra "GO"
    exact RetX.st hbad.symm (by assumption) ⟨q7, rfl, hp7.up (Sub.tl .rfl), hs3.trans hs5.tl, .tup mem_hd IsT.of (.cons (.str _ _) (.cons (ht3.up hs5.tl) (.cons ht5.tl .nil)))⟩
  · k_extra "GO"
    refine St.accO (by assumption) hp3 (by decide +kernel) hh (by k_extra "DPT") (by k_extra "DPT") fun h8 tk8 S8 => ?_
    k_extra "GO"
    refine St.accO (by assumption) hp3 (by decide +kernel) hh (by k_extra "DPT") (by k_extra "DPT") fun h9 tk9 S9 => ?_
    k_extra "GO"
    refine St.accI (by assumption) hp3 (by simp only [List.length_append, List.length_cons]; (first | lia | omega)) hh (by k_extra "DPT") (by k_extra "DPT") fun q4 h4 tk4 S4 hp4 => ?_
    have h4 := hp4.pi
    k_extra "GO"
    refine St.useP (by assumption) XX hkeep hs3 (IH p q4 _ _ _ _ _ hx2 hp4 (.mk' (.op (by decide)))) hh (by k_extra "DPT") (by k_extra "DPT") (fun at_ ha => by rw [← hbad, ha]) fun hn2 qH kH v5 q5 Z5 h5 tk5 S5 hp5 hs5 ht5 => ?_
    rw [hn2] at hbad
    have h5 := hp5.pi
    k_extra "GO"
    refine St.expH (by assumption) hp5 hr hh (by k_extra "DPT") (by k_extra "DPT") fun q7 h7 tk7 S7 hp7 => ?_
    k_extra "GO"
    exact RetX.st hbad.symm (by assumption) ⟨q7, rfl, hp7.up (Sub.tl .rfl), hs3.trans hs5.tl, .tup mem_hd IsT.of (.cons (.str _ _) (.cons (ht3.up hs5.tl) (.cons ht5.tl .nil)))⟩

noncomputable def Sg (X : XP) (at_ : Int) (b : PyData) (ts : List TokD) (d : PyData) (e : Option Int) : Prop :=
  (GSels X at_ b ts d e ∧ ∃ bs, b = .tuple (.str "index" :: .int at_ :: bs)) ∨ (ts = [] ∧ d = b ∧ e = none)
noncomputable def SelX (w : World) (X : XP) (D U : Nat) : Prop := ∀ (p : PA) (q : PS) (bv : Value) (b : PyData) (at_ : Int) (ts : List TokD) (d : PyData) (e : Option Int) (rest : List TokD) (Z : Led), Sg X at_ b ts d e → Tr Z bv b → POk w p q (ts ++ rest) Z → Hd (fun t => OpStr t ∧ opB t "[" = false) rest →
  CallX w 372 [.ref p.pa, bv] (D + 3) (U + 30) (RP w p q) Z e (PPost w p rest Z d)
set_option maxHeartbeats 8000000 in
theorem selx_spec {w : World} {X : XP} {D U : Nat} (I1 : BrIx w X D U) (I2 : BrRg w X D U) (hD : 40 ≤ D) (hU : 600 ≤ U) : SelX w X D U := by
  intro p q bv b at_ ts d e rest Z hg ht hp hr
  have h1 := hp.pi
  have hrl := hr.len
  have hix : (("index" : Str) != ("index" : Str)) = false := by decide +kernel
  refine CallX.of (ns := ["self", "base"]) (gs := []) (rest := []) (binds := [("self", .ref p.pa), ("base", bv)]) (vs := [some (.ref p.pa), some bv]) (by k_is) (by k_is) (fun u_ u_ => BindsTo.of_eq rfl) (Ev.of (by decide)) (by decide) rfl rfl ?_
  intro g A ge dr os base outer keep hh hd hu hkeep L' h₁ tk₁ E V S XX pass
  k_extra "GO"
  refine whl (by passes_own) (fun n s => Ex8 fun bv b ts' e' q' Z' h tk => An8 (s = ⟨h, ge, dr, tk, os⟩) (n = ts'.length) (Sg X at_ b ts' d e') (e' = e) (St w g L' ["self", "base"] [some (.ref p.pa), some bv] [] (RP w p q') Z' h) (POk w p q' (ts' ++ rest) Z') (Sub Z Z') (Tr Z' bv b)) ?_ ts.length
    ⟨bv, b, ts, e, q, Z, _, _, rfl, rfl, hg, rfl, S, hp, .rfl, ht⟩
  rintro n s ⟨bv', b', ts', e', q', Z', h', tk', rfl, rfl, hg', he', S', hp', hs', ht'⟩
  have h3 := hp'.pi
  have hg2 : (ts' = [] ∧ d = b' ∧ e' = none) ∨ (GSels X at_ b' ts' d e' ∧ (∃ bs, b' = .tuple (.str "index" :: .int at_ :: bs)) ∧ ts' ≠ []) := by
    rcases hg' with ⟨hg', hb⟩ | h7
    · cases hg' with
      | nil => exact .inl ⟨rfl, rfl, rfl⟩
      | idx x y => exact .inr ⟨.idx x y, hb, by simp⟩
      | rng x y z => exact .inr ⟨.rng x y z, hb, by simp⟩
    · exact .inl h7
  rcases hg2 with ⟨rfl, rfl, rfl⟩ | ⟨hg', ⟨bs, rfl⟩, hne⟩
  · obtain ⟨t, r, rfl, ho, hb⟩ := hr.ex
    k_extra "GO"
    refine S'.isop hp' ho hh (by k_extra "DPT") (by k_extra "DPT") fun h4 tk4 S4 => ?_
    k_extra "GO"
    exact RetX.st he'.symm (by assumption) ⟨q', rfl, hp', hs', ht'⟩
  · cases hg' with
    | nil => exact absurd rfl hne
    | @idx _ a a' ts1 i e1 ts2 _ e2 hx hrest =>
      simp only [List.cons_append, List.append_assoc] at hp'
      have hob : opB (op "[" a) "[" = true := by rw [opB_op]; simp
      k_extra "GO"
      refine S'.isop hp' .op hh (by k_extra "DPT") (by k_extra "DPT") fun h4 tk4 S4 => ?_
      refine hideG fun GG hGG => ?_
      obtain ⟨a0, o0, v1, vs1, rfl, m0, i0, h5, l1⟩ := Tr.tP1 ht'
      obtain ⟨t1, rfl⟩ := h5.str_inv
      refine hGG ?_; clear hGG GG
      k_extra "GO"
      refine St.useP (by assumption) XX hkeep hs' (I1 p q' _ _ _ _ _ _ _ hx hp' (by simp only [List.length_append]; (first | lia | omega))) hh (by k_extra "DPT") (by k_extra "DPT") (fun at_ ha => by rw [← he', ha]; rfl) fun hn2 qH kH v5 q5 Z5 h5 tk5 S5 hp5 hs5 ht5 => ?_
      rw [or_n hn2] at he'
      k_extra "GO"
      refine St.useC3 (by assumption) (with_ix (ht'.up hs5) ht5) hh (by k_extra "DPT") (by k_extra "DPT") fun qH kH v6 Z6 h6 tk6 S6 hs6 ht6 => ?_
      k_extra "GO"
      exact ⟨ts2.length, by simp only [List.length_cons, List.length_append]; (first | lia | omega), v6, _, ts2, e2, q5, Z6, _, _, rfl, rfl, .inl ⟨hrest, _, rfl⟩, he', by assumption, hp5.up hs6, hs'.trans (hs5.trans hs6), ht6⟩
    | @rng _ k o a a1 a2 ts1 i e1 ts2 j e2 hrg hx hx2 =>
      simp only [List.cons_append, List.append_assoc, List.nil_append] at hp'
      have hob : opB (op "[" a) "[" = true := by rw [opB_op]; simp
      have hki : (k == ("index" : Str)) = false := by cases hrg <;> decide +kernel
      k_extra "GO"
      refine S'.isop hp' .op hh (by k_extra "DPT") (by k_extra "DPT") fun h4 tk4 S4 => ?_
      refine hideG fun GG hGG => ?_
      obtain ⟨a0, o0, v1, vs1, rfl, m0, i0, h5, l1⟩ := Tr.tP1 ht'
      obtain ⟨t1, rfl⟩ := h5.str_inv
      refine hGG ?_; clear hGG GG
      k_extra "GO"
      refine St.useP (by assumption) XX hkeep hs' (I2 p q' _ _ _ _ _ _ _ _ _ _ _ _ _ hrg hx hx2 hp' hrl) hh (by k_extra "DPT") (by k_extra "DPT") (fun at_ ha => by rw [← he', ha]) fun hn2 qH kH v5 q5 Z5 h5 tk5 S5 hp5 hs5 ht5 => ?_
      rw [hn2] at he'
      k_extra "GO"
      refine St.useC3 (by assumption) (with_rg (ht'.up hs5) ht5 hki) hh (by k_extra "DPT") (by k_extra "DPT") fun qH kH v6 Z6 h6 tk6 S6 hs6 ht6 => ?_
      k_extra "GO"
      exact ⟨0, by simp only [List.length_cons]; (first | lia | omega), v6, _, [], none, q5, Z6, _, _, rfl, rfl, .inr ⟨rfl, rfl, rfl⟩, he', by assumption, hp5.up hs6, hs'.trans (hs5.trans hs6), ht6⟩

noncomputable def RefX (w : World) (X : XP) (D U : Nat) : Prop := ∀ (p : PA) (q : PS) (nm : Str) (at_ : Int) (ts : List TokD) (d : PyData) (e : Option Int) (rest : List TokD) (Z : Led), GTail X at_ [] nm ts d e → POk w p q (idt nm at_ :: (ts ++ rest)) Z →
  Hd (fun t => OpStr t ∧ opB t "[" = false ∧ opB t "." = false) rest →
  CallX w 358 [.ref p.pa] (D + 4) (U + 40) (RP w p q) Z e (PPost w p rest Z d)
/-- where the reference's loop stands: PV is the list of parts -/
inductive Lp (X : XP) (at_ : Int) (d : PyData) : List PyData → List TokD → Option Int → Prop
  | dot {PV nm a a2 ts e} : GTail X at_ PV nm ts d e → Lp X at_ d PV (op "." a :: idt nm a2 :: ts) e
  | stop {done nm e} : pathTree at_ done nm = d → e = none → Lp X at_ d (done ++ [.tuple [.str nm, .none]]) [] e
  | sel {done nm ts e} : GSels X at_ (pathTree at_ done nm) ts d e → ts ≠ [] → Lp X at_ d (done ++ [.tuple [.str nm, .none]]) ts e
  | ix {done nm nm' a a1 a2 a3 ts i e ts' e'} : X ts i e → GTail X at_ (done ++ [.tuple [.str nm, i]]) nm' ts' d e' → Lp X at_ d (done ++ [.tuple [.str nm, .none]]) (op "[" a :: (ts ++ op "]" a1 :: op "." a2 :: idt nm' a3 :: ts')) (e.or e')
theorem Lp.of {X at_ d done nm ts e} (h : GTail X at_ done nm ts d e) : Lp X at_ d (done ++ [.tuple [.str nm, .none]]) ts e := by
  cases h with
  | stop h =>
    cases h with
    | nil => exact .stop rfl rfl
    | idx x y => exact .sel (.idx x y) (by simp)
    | rng x y z => exact .sel (.rng x y z) (by simp)
  | dot _ h => exact .dot h
  | ix _ x h => exact .ix x h
theorem pathTree_shape {at_ done nm} : ∃ k bs, pathTree at_ done nm = .tuple (.str k :: .int at_ :: bs) := by
  unfold pathTree
  split <;> exact ⟨_, _, rfl⟩
theorem GSels.hd {X : XP} {at_ b ts d e rest} (h : GSels X at_ b ts d e) (hr : Hd (fun t => OpStr t ∧ opB t "[" = false ∧ opB t "." = false) rest) : Hd (fun t => OpStr t ∧ opB t "." = false) (ts ++ rest) := by
  cases h with
  | nil => obtain ⟨t, r, rfl, h1, _, h3⟩ := hr.ex; exact ⟨t, r, rfl, h1, h3⟩
  | idx => exact ⟨_, _, rfl, .op, by rw [opB_op]; decide +kernel⟩
  | rng => exact ⟨_, _, rfl, .op, by rw [opB_op]; decide +kernel⟩
noncomputable abbrev nsRef : List Str := ["self", "at", "parts", "select", "name"]
set_option maxHeartbeats 16000000 in
theorem ref_spec {w : World} {X : XP} {D U : Nat} (I1 : BrIx w X D U) (I2 : BrRg w X D U) (IS : SelX w X D U) (hD : 40 ≤ D) (hU : 600 ≤ U) : RefX w X D U := by
  intro p q nm at_ ts d e rest Z hg hp hr
  have h1 := hp.pi
  have hrl := hr.len
  have hat := hp.tok.2
  dsimp only at hat
  have hix : (("index" : Str) != ("index" : Str)) = false := by decide +kernel
  have hlen := hp.len
  simp only [List.length_cons, List.length_append] at hlen
  refine CallX.of (ns := nsRef) (gs := []) (rest := ["at", "parts", "select", "name"]) (binds := [("self", .ref p.pa)]) (vs := [some (.ref p.pa), none, none, none, none]) (by k_is) (by k_is) (fun u_ u_ => BindsTo.of_eq rfl) (Ev.of (by decide)) (by decide) rfl rfl ?_
  intro g A ge dr os base outer keep hh hd hu hkeep L' h₁ tk₁ E V S XX pass
  k_extra "GO"
  refine St.eidH (by assumption) hp (by simp only [List.length_append]; (first | lia | omega)) hh (by k_extra "DPT") (by k_extra "DPT") fun q2 tv h2 tk2 S2 hp2 => ?_
  k_extra "GO"
  rw [hat] at *
  refine whl (by passes_own) (fun n s => Ex12 fun PV us nl l a4 a5 ts' e' q' Z' h tk => An9 (s = ⟨h, ge, dr, tk, os⟩) (n = ts'.length) (Lp X at_ d PV ts' e') (e' = e) (St w g L' nsRef [some (.ref p.pa), some (.int at_ q.ta), some (.ref l), a4, a5] [(l, listOf us.toArray nl)] (RP w p q') Z' h) (POk w p q' (ts' ++ rest) Z') (Sub Z Z') (TrL Z' us PV) (us.length + ts'.length ≤ 1 + ts.length)) ?_ ts.length
    ⟨_, _, _, _, _, _, ts, e, q2, _, _, _, rfl, rfl, Lp.of hg, rfl, by assumption, hp2.up (Sub.tl .rfl), Sub.tl .rfl, .cons (.tup mem_hd IsT.of (.cons (.str _ _) (.cons .none .nil))) .nil, by simp⟩
  rintro n s ⟨PV, us, nl, l, a4, a5, ts', e', q', Z', h', tk', rfl, rfl, hlp, he', S', hp', hs', htr, hul⟩
  have h3 := hp'.pi
  k_extra "GO"
  cases hlp with
  | @dot _ nm' a a2 ts2 _ hgt =>
    simp only [List.cons_append] at hp'
    simp only [List.length_cons] at hul
    refine St.accI (by assumption) hp' (by simp only [List.length_cons]; (first | lia | omega)) hh (by k_extra "DPT") (by k_extra "DPT") fun q4 h4 tk4 S4 hp4 => ?_
    have h4 := hp4.pi
    k_extra "GO"
    refine St.eidH (by assumption) hp4 (by simp only [List.length_append]; (first | lia | omega)) hh (by k_extra "DPT") (by k_extra "DPT") fun q5 tv5 h5 tk5 S5 hp5 => ?_
    k_extra "GO"
    exact ⟨ts2.length, by simp only [List.length_cons]; (first | lia | omega), _, _, _, l, _, _, ts2, _, q5, _, _, _, rfl, rfl, Lp.of hgt, he', by assumption, hp5.up (Sub.tl .rfl), hs'.tl, (htr.tl).append (.cons (.tup mem_hd IsT.of (.cons (.str _ _) (.cons .none .nil))) .nil), by simp only [List.length_append, List.length_cons, List.length_nil]; (first | lia | omega)⟩
  | @stop done nm' _ hpt hen =>
    refine hideG fun GG hGG => ?_
    subst hen
    obtain ⟨t, r, rfl, ho, hb, hdt⟩ := hr.ex
    refine hGG ?_; clear hGG GG
    refine St.accN (by assumption) hp' ho hdt hh (by k_extra "DPT") (by k_extra "DPT") fun h4 tk4 S4 => ?_
    k_extra "GO"
    refine St.isop (by assumption) hp' ho hh (by k_extra "DPT") (by k_extra "DPT") fun h5 tk5 S5 => ?_
    k_extra "GO"
    have S6 := S5.frz
    refine S6.useC3 (path_spec (done := done) (nm := nm') mem_hd htr.tl (by (first | lia | omega))) hh (by k_extra "DPT") (by k_extra "DPT") fun qH kH v7 Z7 h7 tk7 S7 hs7 ht7 => ?_
    k_extra "GO"
    rw [hpt] at ht7
    exact RetX.st he'.symm (by assumption) ⟨q', rfl, hp'.up ((Sub.tl .rfl).trans hs7), hs'.trans ((Sub.tl .rfl).trans hs7), ht7⟩
  | @sel done nm' _ _ hsel hne =>
    have hob : ∀ a : Int, opB (op "[" a) "[" = true := fun a => by rw [opB_op]; simp
    obtain ⟨pk, pbs, hps⟩ := pathTree_shape (at_ := at_) (done := done) (nm := nm')
    rw [hps] at hsel
    cases hsel with
    | nil => exact absurd rfl hne
    | @idx _ a a' ts1 i e1 ts2 _ e2 hx hrest =>
      refine hideG fun GG hGG => ?_
      simp only [List.cons_append, List.append_assoc] at hp'
      have hob := hob a
      obtain ⟨t0, r0, e0, ho0, hb0⟩ := (hrest.hd hr).ex
      refine hGG ?_; clear hGG GG
      refine St.accO (by assumption) hp' (by decide +kernel) hh (by k_extra "DPT") (by k_extra "DPT") fun h4 tk4 S4 => ?_
      k_extra "GO"
      refine St.isop (by assumption) hp' .op hh (by k_extra "DPT") (by k_extra "DPT") fun h5 tk5 S5 => ?_
      k_extra "GO"
      refine St.useP (by assumption) XX hkeep hs' (I1 p q' _ _ _ _ _ _ _ hx hp' (by simp only [List.length_append]; (first | lia | omega))) hh (by k_extra "DPT") (by k_extra "DPT") (fun at_ ha => by rw [← he', ha]; rfl) fun hn2 qH kH v5 q6 Z5 h6 tk6 S6 hp6 hs6 ht6 => ?_
      rw [or_n hn2] at he'
      have h6 := hp6.pi
      have hp6' := hp6
      rw [e0] at hp6'
      obtain ⟨a0, o0, v1, vs1, rfl, m0, i0, h7, l1⟩ := Tr.tP1 ht6
      obtain ⟨t1, rfl⟩ := h7.str_inv
      k_extra "GO"
      refine St.isop (by assumption) hp6' ho0 hh (by k_extra "DPT") (by k_extra "DPT") fun h8 tk8 S8 => ?_
      rw [hb0]
      k_extra "GO"
      have S9 : St w g L' nsRef _ [] _ ((l, listOf us.toArray nl) :: Z5) _ := St.frz (by assumption)
      refine S9.useC3 (path_spec (done := done) (nm := nm') mem_hd ((htr.up hs6).tl) (by (first | lia | omega))) hh (by k_extra "DPT") (by k_extra "DPT") fun qH kH v9 Z9 h9 tk9 S10 hs9 ht9 => ?_
      rw [hps] at ht9
      have hz9 := (Sub.tl (p := (l, listOf us.toArray nl)) (.rfl (Z := Z5))).trans hs9
      k_extra "GO"
      refine St.useC3 (by assumption) (with_ix ht9 (ht6.up hz9)) hh (by k_extra "DPT") (by k_extra "DPT") fun qH kH v10 Z10 h10 tk10 S11 hs10 ht10 => ?_
      have hp10 := hp6.up (hz9.trans hs10)
      have h11 := hp10.pi
      k_extra "GO"
      refine St.useP (by assumption) XX hkeep (hs'.trans (hs6.trans (hz9.trans hs10))) (IS p q6 _ _ at_ _ _ _ rest _ (.inl ⟨hrest, _, rfl⟩) ht10 hp10 ⟨_, _, hr.ex.choose_spec.choose_spec.1, hr.ex.choose_spec.choose_spec.2.1, hr.ex.choose_spec.choose_spec.2.2.1⟩) hh (by k_extra "DPT") (by k_extra "DPT") (fun at_ ha => by rw [← he', ha]) fun hn12 qH kH v12 q12 Z12 h12 tk12 S12 hp12 hs12 ht12 => ?_
      rw [hn12] at he'
      k_extra "GO"
      exact RetX.st he'.symm (by assumption) ⟨q12, rfl, hp12, hs'.trans (hs6.trans (hz9.trans (hs10.trans hs12))), ht12⟩
    | @rng _ k o a a1 a2 ts1 i e1 ts2 j e2 hrg hx hx2 =>
      simp only [List.cons_append, List.append_assoc, List.nil_append] at hp'
      have hob := hob a
      have hki : (k == ("index" : Str)) = false := by cases hrg <;> decide +kernel
      have hki2 : (k != ("index" : Str)) = true := by simp [bne, hki]
      refine St.accO (by assumption) hp' (by decide +kernel) hh (by k_extra "DPT") (by k_extra "DPT") fun h4 tk4 S4 => ?_
      k_extra "GO"
      refine St.isop (by assumption) hp' .op hh (by k_extra "DPT") (by k_extra "DPT") fun h5 tk5 S5 => ?_
      k_extra "GO"
      refine St.useP (by assumption) XX hkeep hs' (I2 p q' _ _ _ _ _ _ _ _ _ _ _ _ _ hrg hx hx2 hp' hrl) hh (by k_extra "DPT") (by k_extra "DPT") (fun at_ ha => by rw [← he', ha]) fun hn2 qH kH v5 q6 Z5 h6 tk6 S6 hp6 hs6 ht6 => ?_
      rw [hn2] at he'
      have h6 := hp6.pi
      obtain ⟨a0, o0, v1, vs1, rfl, m0, i0, h7, l1⟩ := Tr.tP1 ht6
      obtain ⟨t1, rfl⟩ := h7.str_inv
      k_extra "GO"
      have S9 : St w g L' nsRef _ [] _ ((l, listOf us.toArray nl) :: Z5) _ := St.frz (by assumption)
      refine S9.useC3 (path_spec (done := done) (nm := nm') mem_hd ((htr.up hs6).tl) (by (first | lia | omega))) hh (by k_extra "DPT") (by k_extra "DPT") fun qH kH v9 Z9 h9 tk9 S10 hs9 ht9 => ?_
      rw [hps] at ht9
      have hz9 := (Sub.tl (p := (l, listOf us.toArray nl)) (.rfl (Z := Z5))).trans hs9
      k_extra "GO"
      refine St.useC3 (by assumption) (with_rg ht9 (ht6.up hz9) hki) hh (by k_extra "DPT") (by k_extra "DPT") fun qH kH v10 Z10 h10 tk10 S11 hs10 ht10 => ?_
      have hp10 := hp6.up (hz9.trans hs10)
      have h11 := hp10.pi
      k_extra "GO"
      refine St.useP (by assumption) XX hkeep (hs'.trans (hs6.trans (hz9.trans hs10))) (IS p q6 _ _ at_ _ _ _ rest _ (.inr ⟨rfl, rfl, rfl⟩) ht10 hp10 ⟨_, _, hr.ex.choose_spec.choose_spec.1, hr.ex.choose_spec.choose_spec.2.1, hr.ex.choose_spec.choose_spec.2.2.1⟩) hh (by k_extra "DPT") (by k_extra "DPT") (fun at_ ha => nomatch ha) fun hn12 qH kH v12 q12 Z12 h12 tk12 S12 hp12 hs12 ht12 => ?_
      k_extra "GO"
      exact RetX.st he'.symm (by assumption) ⟨q12, rfl, hp12, hs'.trans (hs6.trans (hz9.trans (hs10.trans hs12))), ht12⟩
  | @ix done nm' nm2 a a1 a2 a3 ts2 i e2 ts3 e3 hx hgt =>
    refine hideG fun GG hGG => ?_
    obtain ⟨us0, vl, rfl, htr0, htl⟩ := htr.snoc_inv
    obtain ⟨la, lo, lv1, lvs1, rfl, lm, li, lh1, ll1⟩ := Tr.tP1 htl
    obtain ⟨lt1, rfl⟩ := lh1.str_inv
    simp only [List.cons_append, List.append_assoc] at hp'
    simp only [List.length_cons, List.length_append] at hul
    have hob : opB (op "[" a) "[" = true := by rw [opB_op]; simp
    have hob2 : opB (op "." a2) "." = true := by rw [opB_op]; simp
    refine hGG ?_; clear hGG GG
    refine St.accO (by assumption) hp' (by decide +kernel) hh (by k_extra "DPT") (by k_extra "DPT") fun h4 tk4 S4 => ?_
    k_extra "GO"
    refine St.isop (by assumption) hp' .op hh (by k_extra "DPT") (by k_extra "DPT") fun h5 tk5 S5 => ?_
    k_extra "GO"
    refine St.useP (by assumption) XX hkeep hs' (I1 p q' _ _ _ _ _ _ _ hx hp' (by simp only [List.length_cons]; (first | lia | omega))) hh (by k_extra "DPT") (by k_extra "DPT") (fun at_ ha => by rw [← he', ha]; rfl) fun hn2 qH kH v5 q6 Z5 h6 tk6 S6 hp6 hs6 ht6 => ?_
    rw [or_n hn2] at he'
    have h6 := hp6.pi
    obtain ⟨a0, o0, v1, v2, vs2, rfl, m0, i0, h7, hv2, l2⟩ := Tr.tP2 ht6
    obtain ⟨t1, rfl⟩ := h7.str_inv
    k_extra "GO"
    refine St.isop (by assumption) hp6 .op hh (by k_extra "DPT") (by k_extra "DPT") fun h8 tk8 S8 => ?_
    k_extra "GO"
    refine gm_pop (by assumption) (memO mem_hd) ?_
    k_extra "GO"
    have lm5 := hs6.up _ lm
    refine popO (by assumption) .head (by (first | lia | omega)) fun h9 tk9 S9 => ?_
    have hul0 : us0.length ≤ 999999 := by (first | lia | omega)
    k_extra "GO"
    refine ⟨(op "." a2 :: idt nm2 a3 :: ts3).length, by simp only [List.length_cons, List.length_append]; (first | lia | omega), done ++ [.tuple [.str nm', i]], _, _, l, _, _, op "." a2 :: idt nm2 a3 :: ts3, e3, q6, _, _, _, rfl, rfl, .dot hgt, he', by assumption, by simpa using hp6.up (Sub.tl .rfl), hs'.trans hs6.tl, ?_, ?_⟩
    · exact ((htr0.up hs6).tl).append (.cons (.tup mem_hd IsT.of (.cons (.str _ _) (.cons hv2.tl .nil))) .nil)
    · simp only [List.length_append, List.length_singleton, List.length_cons]; (first | lia | omega)

theorem GSels.shape {X : XP} {at_ b ts d e} (h : GSels X at_ b ts d e) : (∃ k bs, b = .tuple (.str k :: .int at_ :: bs)) → ∃ k bs, d = .tuple (.str k :: .int at_ :: bs) := by
  induction h with
  | nil => exact id
  | idx _ _ ih => exact fun u_ => ih ⟨_, _, rfl⟩
  | rng => exact fun u_ => ⟨_, _, rfl⟩
theorem GTail.shape {X : XP} {at_ done nm ts d e} (h : GTail X at_ done nm ts d e) : ∃ k bs, d = .tuple (.str k :: .int at_ :: bs) := by
  induction h with
  | stop h => exact h.shape pathTree_shape
  | dot _ _ ih => exact ih
  | ix _ _ _ ih => exact ih
noncomputable def NamX (w : World) (X : XP) (D U : Nat) : Prop := ∀ (p : PA) (q : PS) (nm : Str) (at_ : Int) (ts : List TokD) (d : PyData) (e : Option Int) (rest : List TokD) (Z : Led), GTail X at_ [] nm ts d e → POk w p q (idt nm at_ :: (ts ++ rest)) Z → Hd FolP rest →
  CallX w 323 [.ref p.pa] (D + 5) (U + 50) (RP w p q) Z e (PPost w p rest Z d)
noncomputable def CalX (w : World) (X : XP) (D U : Nat) : Prop := ∀ (p : PA) (q : PS) (at_ a a' : Int) (ts : List TokD) (ds : List PyData) (e : Option Int) (rest : List TokD) (Z : Led), GArgs X ts ds e → POk w p q (idt "f" at_ :: op "(" a :: (ts ++ op ")" a' :: rest)) Z → 0 < rest.length →
  CallX w 323 [.ref p.pa] (D + 5) (U + 50) (RP w p q) Z e (PPost w p rest Z (.tuple [.str "call", .int at_, .str "f", .tuple ds]))
set_option maxHeartbeats 8000000 in
theorem nam_spec {w : World} {X : XP} {D U : Nat} (IR : RefX w X D U) (hD : 40 ≤ D) (hU : 600 ≤ U) : NamX w X D U := by
  intro p q nm at_ ts d e rest Z hg hp hr
  have h1 := hp.pi
  obtain ⟨t, r, rfl, hf⟩ := hr.ex
  obtain ⟨k, bs, rfl⟩ := hg.shape
  refine CallX.of (ns := ["self", "base"]) (gs := []) (rest := ["base"]) (binds := [("self", .ref p.pa)]) (vs := [some (.ref p.pa), none]) (by k_is) (by k_is) (fun u_ u_ => BindsTo.of_eq rfl) (Ev.of (by decide)) (by decide) rfl rfl ?_
  intro g A ge dr os base outer keep hh hd hu hkeep L' h₁ tk₁ E V S XX pass
  k_extra "GO"
  refine St.useP (by assumption) XX hkeep .rfl (IR p q _ _ _ _ _ _ Z hg hp (.mk' ⟨hf.s, hf.nb, hf.nd⟩)) hh (by k_extra "DPT") (by k_extra "DPT") (fun u_ h => h) fun hn qH kH v q3 Z3 h3 tk3 S3 hp3 hs3 ht3 => ?_
  have h3 := hp3.pi
  obtain ⟨a0, o0, v1, vs1, rfl, m0, i0, h7, l1⟩ := Tr.tP1 ht3
  obtain ⟨t1, rfl⟩ := h7.str_inv
  k_extra "GO"
  refine ite_bool (fun hc => ?_) (fun hc => ?_)
  · k_extra "GO"
    refine St.isop (by assumption) hp3 hf.s hh (by k_extra "DPT") (by k_extra "DPT") fun h5 tk5 S5 => ?_
    rw [hf.np]
    k_extra "GO"
    exact RetX.st hn (by assumption) ⟨q3, rfl, hp3, hs3, ht3⟩
  · k_extra "GO"
    exact RetX.st hn (by assumption) ⟨q3, rfl, hp3, hs3, ht3⟩
set_option maxHeartbeats 8000000 in
theorem cal_spec {w : World} {X : XP} {D U : Nat} (IR : RefX w X D U) (IA : ArgsX w X D U) (hD : 40 ≤ D) (hU : 600 ≤ U) : CalX w X D U := by
  intro p q at_ a a' ts ds e rest Z hg hp hr
  have h1 := hp.pi
  have hid : (("id" : Str) == ("id" : Str)) = true := by decide +kernel
  have hob : opB (op "(" a) "(" = true := by rw [opB_op]; simp
  refine CallX.of (ns := ["self", "base"]) (gs := []) (rest := ["base"]) (binds := [("self", .ref p.pa)]) (vs := [some (.ref p.pa), none]) (by k_is) (by k_is) (fun u_ u_ => BindsTo.of_eq rfl) (Ev.of (by decide)) (by decide) rfl rfl ?_
  intro g A ge dr os base outer keep hh hd hu hkeep L' h₁ tk₁ E V S XX pass
  k_extra "GO"
  refine St.useP (by assumption) XX hkeep .rfl (IR p q "f" at_ [] _ none (op "(" a :: (ts ++ op ")" a' :: rest)) Z (.stop .nil) hp (.mk' ⟨.op, by rw [opB_op]; decide +kernel, by rw [opB_op]; decide +kernel⟩)) hh (by k_extra "DPT") (by k_extra "DPT") (fun u_ h => nomatch h) fun hn qH kH v q3 Z3 h3 tk3 S3 hp3 hs3 ht3 => ?_
  have h3 := hp3.pi
  with_reducible k_extra "UNH"
  refine hideG fun GG hGG => ?_
  unfold pathTree at ht3
  rw [if_pos rfl] at ht3
  obtain ⟨a0, o0, v1, v2, v3, vs3, rfl, m0, i0, h7, h8, h9, l3⟩ := Tr.tP3 ht3
  obtain ⟨t1, rfl⟩ := h7.str_inv
  obtain ⟨t2, rfl⟩ := h8.int_inv
  obtain ⟨t3, rfl⟩ := h9.str_inv
  refine hGG ?_; clear hGG GG
  k_extra "GO"
  refine St.isop (by assumption) hp3 .op hh (by k_extra "DPT") (by k_extra "DPT") fun h5 tk5 S5 => ?_
  k_extra "GO"
  refine St.useP (by assumption) XX hkeep hs3 (IA p q3 _ _ _ _ _ _ _ hg hp3 hr) hh (by k_extra "DPT") (by k_extra "DPT") (fun u_ h => h) fun hn qH kH v q6 Z6 h6 tk6 S6 hp6 hs6 ht6 => ?_
  k_extra "GO"
  exact RetX.st hn (by assumption) ⟨q6, rfl, hp6.up (Sub.tl .rfl), hs3.trans hs6.tl, .tup mem_hd IsT.of (.cons (.str _ _) (.cons (.int _ _) (.cons (.str _ _) (.cons ht6.tl .nil))))⟩

structure StartT (t : TokD) : Prop where
  s : OpStr t
  nu : ∀ y, t.kind = "op" → t.val = .str y → unOps.any (fun x => x == y) = false
  nc : opB t ")" = false
theorem StartT.opT {x : Str} {a : Int} (h : unOps.any (fun y => y == x) = false ∧ x ≠ ")") : StartT (op x a) :=
  ⟨.op, fun y u_ e => by cases e; exact h.1, by rw [opB_op]; exact beq_eq_false_iff_ne.mpr h.2⟩
theorem opB_kind {k x : Str} {v : PyData} {a : Int} (h : k ≠ "op") : opB ⟨k, v, a⟩ x = false := by simp [opB, h]
theorem StartT.other {k : Str} {v : PyData} {a : Int} (h : k ≠ "op") : StartT ⟨k, v, a⟩ :=
  ⟨fun e => absurd e h, fun u_ e => absurd e h, opB_kind h⟩
theorem GPrim.hd {X : XP} {ts d e} (h : GPrim X ts d e) : Hd StartT ts := by
  cases h with
  | num1 | num2 | str | sys0 | sys | call | ref => exact .mk' (.other (by decide +kernel))
  | par | mtm | cat | rep => exact .mk' (.opT (by decide +kernel))
  | @bad k v at_ d1 hb =>
    have : ∀ kv ∈ badToks, kv.1 ≠ "op" ∨ (unOps.any (fun y => y == kv.2) = false ∧ kv.2 ≠ ")") := by decide +kernel
    rcases this _ hb with h1 | h1
    · exact .mk' (.other h1)
    · by_cases hk : k = "op"
      · subst hk; exact .mk' (.opT h1)
      · exact .mk' (.other hk)
theorem un_nc : ∀ o ∈ unOps, (o == (")" : Str)) = false := by decide +kernel
theorem GUn.hdc {X : XP} {ts d e} (h : GUn X ts d e) : Hd (fun t => OpStr t ∧ opB t ")" = false) ts := by
  cases h with
  | prim h => obtain ⟨t, r, e, h⟩ := h.hd.ex; exact ⟨t, r, e, h.s, h.nc⟩
  | un ho _ => exact .mk' ⟨.op, by rw [opB_op]; exact un_nc _ ho⟩
theorem GE.hdc {X : XP} {ts d e} (h : GE X ts d e) : Hd (fun t => OpStr t ∧ opB t ")" = false) ts := by
  cases h with | mk h _ => cases h with | mk h _ =>
    obtain ⟨t, r, e, h⟩ := h.hdc.ex
    exact ⟨t, _, by rw [e]; rfl, h⟩
noncomputable def PriX (w : World) (X : XP) (D U : Nat) : Prop := ∀ (p : PA) (q : PS) (ts : List TokD) (d : PyData) (e : Option Int) (rest : List TokD) (Z : Led), GPrim X ts d e → POk w p q (ts ++ rest) Z → Hd FolP rest →
  CallX w 316 [.ref p.pa] (D + 6) (U + 60) (RP w p q) Z e (PPost w p rest Z d)
noncomputable def UnX (w : World) (X : XP) (D U : Nat) : Prop := ∀ (p : PA) (q : PS) (ts : List TokD) (d : PyData) (e : Option Int) (rest : List TokD) (Z : Led), GUn X ts d e → POk w p q (ts ++ rest) Z → Hd FolP rest →
  CallX w 309 [.ref p.pa] (D + 7) (U + 70) (RP w p q) Z e (PPost w p rest Z d)
noncomputable def sgV (p : Int × Str) : PyData := .tuple [.int p.1, .str (normOp p.2)]
noncomputable def sgF (l : List (Int × Str)) (d : PyData) : PyData := l.foldr (fun p d => tUn p.1 p.2 d) d
theorem unOps_has {o : Str} (h : o ∈ unOps) : unOps.any (fun y => y == o) = true := List.any_eq_true.mpr ⟨o, h, by simp⟩
theorem sgF_step {sg : List (Int × Str)} {d : PyData} {i : Nat} {p : Int × Str} (hi : i < sg.length) (hp : sg[sg.length - 1 - i]? = some p) : sgF (sg.drop (sg.length - (i + 1))) d = tUn p.1 p.2 (sgF (sg.drop (sg.length - i)) d) := by
  have e : sg.drop (sg.length - (i + 1)) = p :: sg.drop (sg.length - i) := by
    have h1 : sg.length - (i + 1) < sg.length := by (first | lia | omega)
    rw [List.drop_eq_getElem_cons h1]
    have h2 : sg.length - (i + 1) + 1 = sg.length - i := by (first | lia | omega)
    rw [h2]
    have h3 : sg[sg.length - (i + 1)]? = some p := by rw [← hp]; congr 1; (first | lia | omega)
    rw [List.getElem?_eq_getElem h1] at h3
    cases h3; rfl
  rw [e]; rfl
set_option maxHeartbeats 8000000 in
theorem unx_spec {w : World} {X : XP} {D U : Nat} (IP : PriX w X D U) (hD : 40 ≤ D) (hU : 600 ≤ U) : UnX w X D U := by
  intro p q ts d e rest Z hg hp hr
  have h1 := hp.pi
  have hlen := hp.len
  have hrl := hr.len
  rw [List.length_append] at hlen
  refine CallX.of (ns := ["self", "signs", "operand", "at", "op"]) (gs := ["is_unary", "plain_operator", "reversed"]) (rest := ["signs", "operand", "at", "op"]) (binds := [("self", .ref p.pa)]) (vs := [some (.ref p.pa), none, none, none, none]) (by k_is) (by k_is) (fun u_ u_ => BindsTo.of_eq rfl) (Ev.of (by decide)) (by decide) rfl rfl ?_
  intro g A ge dr os base outer keep hh hd hu hkeep L' h₁ tk₁ E V S XX pass
  k_extra "GO"
  refine whl (by passes_own) (fun n s => Ex10 fun sg ts' d' us nl l q' Z' h tk => An9 (s = ⟨h, ge, dr, tk, os⟩) (n = ts'.length) (GUn X ts' d' e) (sgF sg d' = d) (St w g L' ["self", "signs", "operand", "at", "op"] [some (.ref p.pa), some (.ref l), none, none, none] [(l, listOf us.toArray nl)] (RP w p q') Z' h) (POk w p q' (ts' ++ rest) Z') (Sub Z Z') (TrL Z' us (sg.map sgV)) (us.length + ts'.length ≤ ts.length)) ?_ ts.length
    ⟨[], ts, d, [], _, _, q, Z, _, _, rfl, rfl, hg, rfl, by assumption, hp, .rfl, .nil, by simp⟩
  rintro n s ⟨sg, ts', d', us, nl, l, q', Z', h', tk', rfl, rfl, hg', hsf, S', hp', hs', htr, hul⟩
  have h3 := hp'.pi
  cases hg' with
  | @un o a ts2 d2 _ ho hg2 =>
    refine hideG fun GG hGG => ?_
    simp only [List.cons_append] at hp'
    simp only [List.length_cons] at hul
    obtain ⟨⟨dx, t1, t2', t3, kt, vv, ta, m1, m2, m3⟩, hat⟩ := hp'.tok
    obtain ⟨vt, rfl⟩ := m3.str_inv
    have hopk : (("op" : Str) == ("op" : Str)) = true := by decide +kernel
    have hany := unOps_has ho
    refine hGG ?_; clear hGG GG
    k_extra "GO"
    refine St.isunT (by assumption) hh (by k_extra "DPT") (by k_extra "DPT") fun Z4 h4 tk4 hs4 S4 => ?_
    rw [hany]
    have m1 := hs4.up _ m1
    have m2 := hs4.up _ m2
    have hp4 := hp'.up hs4
    have h4 := hp4.pi
    k_extra "GO"
    refine St.plainT (by assumption) hh (by k_extra "DPT") (by k_extra "DPT") fun tn h5 tk5 S5 => ?_
    k_extra "GO"
    k_extra "W7"; intro q6 h6 tk6 S6 hp6
    k_extra "GO"
    refine ⟨ts2.length, by simp only [List.length_cons]; (first | lia | omega), sg ++ [(a, o)], ts2, d2, _, _, l, q6, _, _, _, rfl, rfl, hg2, ?_, by assumption, hp6, hs'.trans hs4.tl, ?_, by simp only [List.length_append, List.length_cons, List.length_nil]; (first | lia | omega)⟩
    · rw [← hsf]; simp [sgF]
    · rw [List.map_append]
      refine (htr.up hs4.tl).append (.cons (.tup mem_hd IsT.of (.cons ?_ (.cons (.str _ _) .nil))) .nil)
      rw [hat]; exact .int _ _
  | prim hpr =>
    refine hideG fun GG hGG => ?_
    obtain ⟨t0, r0, rfl, hst⟩ := hpr.hd.ex
    simp only [List.cons_append] at hp'
    obtain ⟨⟨dx, t1, t2', t3, kt, vv, ta, m1, m2, m3⟩, hat⟩ := hp'.tok
    refine hGG ?_; clear hGG GG
    k_extra "GO"
    refine ite_bool (fun hk => ?_) (fun hk => ?_)
    · obtain ⟨y, hy⟩ := hst.s (by simpa using hk)
      have hnu := hst.nu y (by simpa using hk) hy
      rw [hy] at m3
      obtain ⟨vt, rfl⟩ := m3.str_inv
      k_extra "GO"
      refine St.isunT (by assumption) hh (by k_extra "DPT") (by k_extra "DPT") fun Z4 h4 tk4 hs4 S4 => ?_
      rw [hnu]
      have hp4 := hp'.up hs4
      have h4 := hp4.pi
      k_extra "GO"
      refine St.useP (by assumption) XX hkeep (hs'.trans hs4) (IP p q' _ _ _ _ _ hpr hp4 hr) hh (by k_extra "DPT") (by k_extra "DPT") (fun u_ h => h) fun hn qH kH v5 q5 Z5 h5 tk5 S5 hp5 hs5 ht5 => ?_
      have htr5 := htr.up (hs4.trans hs5)
      have hsl : us.length = sg.length := by have := htr.length; simpa using this
      k_extra "GO"
      refine rev_call (by assumption) (memO mem_hd) IsL.of fun I h6 S6 => ?_
      refine for_rev (by passes_own) hh S6 (memO mem_hd) IsL.of rfl
        (fun i vs own R Z' => Ex3 fun ov a4 a5 => An5 (vs = [some (.ref p.pa), some (.ref l), some ov, a4, a5]) (own = [(l, listOf us.toArray nl)]) (R = RP w p q5) (Sub Z5 Z') (Tr Z' ov (sgF (sg.drop (sg.length - i)) d')))
        (fun i vs own R Z' q => by obtain ⟨_, _, _, _, rfl, _⟩ := q; exact memO mem_hd) ⟨v5, _, _, rfl, rfl, rfl, .rfl, by simpa [sgF] using ht5⟩ ?_ ?_
      · intro i v vs own R Z' h7 tk7 ito S7 hi hv Hv
        refine hideG fun GG hGG => ?_
        obtain ⟨ov, a4, a5, rfl, rfl, rfl, hs7, ht7⟩ := Hv
        rw [hsl] at hv hi
        obtain ⟨⟨pa', po'⟩, hpp⟩ : ∃ pp, sg[sg.length - 1 - i]? = some pp := ⟨_, List.getElem?_eq_getElem (by (first | lia | omega))⟩
        obtain ⟨v', hv', htv⟩ := htr5.get (i := sg.length - 1 - i) (d := sgV (pa', po')) (by rw [List.getElem?_map, hpp]; rfl)
        rw [hv'] at hv
        cases hv
        obtain ⟨xa, xo, x1, x2, rfl, xm, xi, xh1, xh2⟩ := Tr.tN2 (htv.up hs7)
        obtain ⟨xt1, rfl⟩ := xh1.int_inv
        obtain ⟨xt2, rfl⟩ := xh2.str_inv
        refine hGG ?_; clear hGG GG
        k_extra "GO"
        (repeat' with_reducible k_extra "UNH"); (try dsimp only [TurnEnd])
        refine ⟨_, _, _, _, _, _, rfl, by assumption, _, _, _, rfl, rfl, rfl, hs7.tl, ?_⟩
        rw [sgF_step hi hpp]
        exact .tup mem_hd IsT.of (.cons (.str _ _) (.cons (.int _ _) (.cons (.str _ _) (.cons ht7.tl .nil))))
      · intro vs own R Z' h7 tk7 S7 Hv
        refine hideG fun GG hGG => ?_
        obtain ⟨ov, a4, a5, rfl, rfl, rfl, hs7, ht7⟩ := Hv
        refine hGG ?_; clear hGG GG
        k_extra "GO"
        rw [hsl, Nat.sub_self, List.drop_zero, hsf] at ht7
        exact RetX.st hn (by assumption) ⟨q5, rfl, hp5.up hs7, hs'.trans (hs4.trans (hs5.trans hs7)), ht7⟩
    · k_extra "GO"
      have hs4 : Sub Z' Z' := .rfl
      have hp4 := hp'
      refine St.useP (by assumption) XX hkeep (hs'.trans hs4) (IP p q' _ _ _ _ _ hpr hp4 hr) hh (by k_extra "DPT") (by k_extra "DPT") (fun u_ h => h) fun hn qH kH v5 q5 Z5 h5 tk5 S5 hp5 hs5 ht5 => ?_
      have htr5 := htr.up (hs4.trans hs5)
      have hsl : us.length = sg.length := by have := htr.length; simpa using this
      k_extra "GO"
      refine rev_call (by assumption) (memO mem_hd) IsL.of fun I h6 S6 => ?_
      refine for_rev (by passes_own) hh S6 (memO mem_hd) IsL.of rfl
        (fun i vs own R Z' => Ex3 fun ov a4 a5 => An5 (vs = [some (.ref p.pa), some (.ref l), some ov, a4, a5]) (own = [(l, listOf us.toArray nl)]) (R = RP w p q5) (Sub Z5 Z') (Tr Z' ov (sgF (sg.drop (sg.length - i)) d')))
        (fun i vs own R Z' q => by obtain ⟨_, _, _, _, rfl, _⟩ := q; exact memO mem_hd) ⟨v5, _, _, rfl, rfl, rfl, .rfl, by simpa [sgF] using ht5⟩ ?_ ?_
      · intro i v vs own R Z' h7 tk7 ito S7 hi hv Hv
        refine hideG fun GG hGG => ?_
        obtain ⟨ov, a4, a5, rfl, rfl, rfl, hs7, ht7⟩ := Hv
        rw [hsl] at hv hi
        obtain ⟨⟨pa', po'⟩, hpp⟩ : ∃ pp, sg[sg.length - 1 - i]? = some pp := ⟨_, List.getElem?_eq_getElem (by (first | lia | omega))⟩
        obtain ⟨v', hv', htv⟩ := htr5.get (i := sg.length - 1 - i) (d := sgV (pa', po')) (by rw [List.getElem?_map, hpp]; rfl)
        rw [hv'] at hv
        cases hv
        obtain ⟨xa, xo, x1, x2, rfl, xm, xi, xh1, xh2⟩ := Tr.tN2 (htv.up hs7)
        obtain ⟨xt1, rfl⟩ := xh1.int_inv
        obtain ⟨xt2, rfl⟩ := xh2.str_inv
        refine hGG ?_; clear hGG GG
        k_extra "GO"
        (repeat' with_reducible k_extra "UNH"); (try dsimp only [TurnEnd])
        refine ⟨_, _, _, _, _, _, rfl, by assumption, _, _, _, rfl, rfl, rfl, hs7.tl, ?_⟩
        rw [sgF_step hi hpp]
        exact .tup mem_hd IsT.of (.cons (.str _ _) (.cons (.int _ _) (.cons (.str _ _) (.cons ht7.tl .nil))))
      · intro vs own R Z' h7 tk7 S7 Hv
        refine hideG fun GG hGG => ?_
        obtain ⟨ov, a4, a5, rfl, rfl, rfl, hs7, ht7⟩ := Hv
        refine hGG ?_; clear hGG GG
        k_extra "GO"
        rw [hsl, Nat.sub_self, List.drop_zero, hsf] at ht7
        exact RetX.st hn (by assumption) ⟨q5, rfl, hp5.up hs7, hs'.trans (hs4.trans (hs5.trans hs7)), ht7⟩

noncomputable def BinX (w : World) (X : XP) (D U m : Nat) : Prop := ∀ (p : PA) (q : PS) (least : Nat) (li : Int) (tl : Tok) (ts : List TokD) (d : PyData) (e : Option Int) (rest : List TokD) (Z : Led), li = least → 1 ≤ least → 12 ≤ least + m → GBn X least ts d e → POk w p q (ts ++ rest) Z → Hd (FolB least) rest →
  CallX w 302 [.ref p.pa, .int li tl] (D + 8 + m) (U + 80 + 10 * m) (RP w p q) Z e (PPost w p rest Z d)
theorem GL.hdP {X : XP} {l m dl ts d e rest} (h : GL X l m dl ts d e) (hr : Hd (FolB l) rest) : Hd FolP (ts ++ rest) := by
  cases h with
  | nil => obtain ⟨t, r, rfl, h⟩ := hr.ex; exact ⟨t, r, rfl, h.toFolP⟩
  | cons ho => exact ⟨_, _, rfl, .op (joinOps_ok _ ho).1⟩
theorem GL.hdB {X : XP} {l m dl ts d e rest} (h : GL X l m dl ts d e) (hl : l ≤ m) (hr : Hd (FolB l) rest) : Hd (FolB (m + 1)) (ts ++ rest) := by
  cases h with
  | nil =>
    obtain ⟨t, r, rfl, h⟩ := hr.ex
    exact ⟨t, r, rfl, h.toFolP, fun y a b => (h.pr y a b).elim .inl fun h => .inr (by (first | lia | omega))⟩
  | cons ho h1 h2 => exact ⟨_, _, rfl, .op (joinOps_ok _ ho).1, fun y u_ e => by cases e; exact .inr (by (first | lia | omega))⟩
noncomputable abbrev nsBin : List Str := ["self", "least", "left", "op", "strength", "at", "right"]
set_option maxHeartbeats 8000000 in
theorem binx_step {w : World} {X : XP} {D U m : Nat} (IU : UnX w X D U) (hD : 40 ≤ D) (hU : 600 ≤ U) (IM : ∀ m', m = m' + 1 → BinX w X D U m') : BinX w X D U m := by
  intro p q least li tl ts d e rest Z hli hl1 hlm hg hp hr
  have h1 := hp.pi
  have hrl := hr.len
  cases hg with
  | @mk t0 d0 e0 ts2 _ e2 hun hgl =>
  rw [List.append_assoc] at hp
  generalize hbad : e0.or e2 = bad
  refine CallX.of (ns := nsBin) (gs := ["precedence", "plain_operator"]) (rest := ["left", "op", "strength", "at", "right"]) (binds := [("self", .ref p.pa), ("least", .int li tl)]) (vs := [some (.ref p.pa), some (.int li tl), none, none, none, none, none]) (by k_is) (by k_is) (fun u_ u_ => BindsTo.of_eq rfl) (Ev.of (by decide)) (by decide) rfl rfl ?_
  intro g A ge dr os base outer keep hh hd hu hkeep L' h₁ tk₁ E V S XX pass
  k_extra "GO"
  refine St.useP (by assumption) XX hkeep .rfl (IU p q _ _ _ _ _ hun hp (hgl.hdP hr)) hh (by k_extra "DPT") (by k_extra "DPT") (fun at_ ha => by rw [← hbad, ha]; rfl) fun hn qH kH v q3 Z3 h3 tk3 S3 hp3 hs3 ht3 => ?_
  rw [or_n hn] at hbad
  k_extra "GO"
  refine whl (by passes_own) (fun n s => Ex13 fun mx dl lv ts' e' a3 a4 a5 a6 q' Z' h tk => An8 (s = ⟨h, ge, dr, tk, os⟩) (n = ts'.length) (GL X least mx dl ts' d e') (e' = bad) (St w g L' nsBin [some (.ref p.pa), some (.int li tl), some lv, a3, a4, a5, a6] [] (RP w p q') Z' h) (POk w p q' (ts' ++ rest) Z') (Sub Z Z') (Tr Z' lv dl)) ?_ ts2.length
    ⟨_, d0, v, ts2, e2, _, _, _, _, q3, _, _, _, rfl, rfl, hgl, hbad, by assumption, hp3, hs3, ht3⟩
  rintro n s ⟨mx, dl, lv, ts', e', a3, a4, a5, a6, q', Z', h', tk', rfl, rfl, hgl', he', S', hp', hs', ht'⟩
  have h4 := hp'.pi
  cases hgl' with
  | nil =>
    refine hideG fun GG hGG => ?_
    obtain ⟨t, r, rfl, hf⟩ := hr.ex
    obtain ⟨⟨dx, t1, t2', t3, kt, vv, ta, m1, m2, m3⟩, hat⟩ := hp'.tok
    refine hGG ?_; clear hGG GG
    k_extra "GO"
    refine ite_bool (fun hk => ?_) (fun hk => ?_)
    · obtain ⟨y, hy⟩ := hf.s (by simpa using hk)
      have hpr := hf.pr y (by simpa using hk) hy
      rw [hy] at m3
      obtain ⟨vt, rfl⟩ := m3.str_inv
      k_extra "GO"
      refine St.precT (by assumption) hh (by k_extra "DPT") (by k_extra "DPT") fun tp Z5 h5 tk5 hs5 S5 => ?_
      k_extra "GO"
      refine ite_dec (fun hc => ?_) (fun hc => ?_)
      · k_extra "GO"
        exact RetX.st he'.symm (by assumption) ⟨q', rfl, hp'.up hs5, hs'.trans hs5, ht'.up hs5⟩
      · k_extra "GO"
        refine ite_dec (fun hc2 => ?_) (fun hc2 => ?_)
        · k_extra "GO"
          exact RetX.st he'.symm (by assumption) ⟨q', rfl, hp'.up hs5, hs'.trans hs5, ht'.up hs5⟩
        · (first | lia | omega)
    · k_extra "GO"
      exact RetX.st he'.symm (by assumption) ⟨q', rfl, hp', hs', ht'⟩
  | @cons _ _ _ o a t5 d5 e5 tr dr' er ts6 _ e6 ho hpl hpm hun5 hglr hgl6 =>
    refine hideG fun GG hGG => ?_
    have hp12 := join_prec _ ho
    obtain ⟨m', rfl⟩ : ∃ m', m = m' + 1 := ⟨m - 1, by (first | lia | omega)⟩
    simp only [List.cons_append, List.append_assoc] at hp'
    obtain ⟨⟨dx, t1, t2', t3, kt, vv, ta, m1, m2, m3⟩, hat⟩ := hp'.tok
    obtain ⟨vt, rfl⟩ := m3.str_inv
    have hopk : (("op" : Str) == ("op" : Str)) = true := by decide +kernel
    refine hGG ?_; clear hGG GG
    k_extra "GO"
    refine St.precT (by assumption) hh (by k_extra "DPT") (by k_extra "DPT") fun tp Z5 h5 tk5 hs5 S5 => ?_
    have hp5 := hp'.up hs5
    have h5' := hp5.pi
    k_extra "GO"
    refine ite_dec (fun hc => absurd hc (by (first | lia | omega))) (fun hc => ?_)
    k_extra "GO"
    refine ite_dec (fun hc => absurd hc (by (first | lia | omega))) (fun hc2 => ?_)
    k_extra "GO"
    k_extra "W7"; intro q6 h6 tk6 S6 hp6
    have h6' := hp6.pi
    k_extra "GO"
    refine St.useP (by assumption) XX hkeep (hs'.trans hs5) (IM m' rfl p q6 (prec o + 1) _ _ (t5 ++ tr) dr' (e5.or er) (ts6 ++ rest) _ (by (first | lia | omega)) (by (first | lia | omega)) (by (first | lia | omega)) (.mk hun5 hglr) (by rw [List.append_assoc]; exact hp6) (hgl6.hdB hpl hr)) hh (by k_extra "DPT") (by k_extra "DPT") (fun at_ ha => by rw [← he', ← Option.or_assoc, ha]; rfl) fun hn7 qH kH v7 q7 Z7 h7 tk7 S7 hp7 hs7 ht7 => ?_
    rw [← Option.or_assoc, or_n hn7] at he'
    k_extra "GO"
    refine St.plainT (by assumption) hh (by k_extra "DPT") (by k_extra "DPT") fun tn h8 tk8 S8 => ?_
    k_extra "GO"
    refine ⟨ts6.length, by simp only [List.length_cons, List.length_append]; (first | lia | omega), _, _, _, ts6, e6, _, _, _, _, q7, _, _, _, rfl, rfl, hgl6, he', by assumption, hp7.up (Sub.tl .rfl), hs'.trans (hs5.trans hs7.tl), ?_⟩
    rw [hat]
    exact .tup mem_hd IsT.of (.cons (.str _ _) (.cons (.int _ _) (.cons (.str _ _) (.cons ((ht'.up (hs5.trans hs7)).tl) (.cons ht7.tl .nil)))))
theorem binx_spec {w : World} {X : XP} {D U : Nat} (IU : UnX w X D U) (hD : 40 ≤ D) (hU : 600 ≤ U) : ∀ m, BinX w X D U m
  | 0 => binx_step IU hD hU fun m' h => by (first | lia | omega)
  | m + 1 => binx_step IU hD hU fun m' h => by obtain rfl : m = m' := by (first | lia | omega)
                                               exact binx_spec IU hD hU m

theorem GTn.hdE {X : XP} {d0 ts d e rest} (h : GTn X d0 ts d e) (hr : Hd FolE rest) : Hd (fun t => FolB 1 t ∧ (opB t "?" = false → ts = [])) (ts ++ rest) := by
  cases h with
  | nil => obtain ⟨t, r, rfl, h⟩ := hr.ex; exact ⟨t, r, rfl, h.b 1, fun u_ => rfl⟩
  | cons => exact ⟨_, _, rfl, ⟨.op (by decide), fun y u_ e => by cases e; exact .inl (by decide +kernel)⟩, fun h => by rw [opB_op] at h; exact absurd h (by decide +kernel)⟩
theorem GTn.hdB {X : XP} {d0 ts d e rest} (h : GTn X d0 ts d e) (hr : Hd FolE rest) : Hd (FolB 1) (ts ++ rest) := by
  obtain ⟨t, r, e, h, _⟩ := (h.hdE hr).ex
  exact ⟨t, r, e, h⟩
noncomputable def csV (p : Int × PyData × PyData) : PyData := .tuple [.int p.1, p.2.1, p.2.2]
noncomputable def csF (l : List (Int × PyData × PyData)) (d : PyData) : PyData := l.foldr (fun p d => tCond p.1 p.2.1 p.2.2 d) d
theorem csF_step {sg : List (Int × PyData × PyData)} {d : PyData} {i : Nat} {p : Int × PyData × PyData} (hi : i < sg.length) (hp : sg[sg.length - 1 - i]? = some p) : csF (sg.drop (sg.length - (i + 1))) d = tCond p.1 p.2.1 p.2.2 (csF (sg.drop (sg.length - i)) d) := by
  have e : sg.drop (sg.length - (i + 1)) = p :: sg.drop (sg.length - i) := by
    have h1 : sg.length - (i + 1) < sg.length := by (first | lia | omega)
    rw [List.drop_eq_getElem_cons h1]
    have h2 : sg.length - (i + 1) + 1 = sg.length - i := by (first | lia | omega)
    rw [h2]
    have h3 : sg[sg.length - (i + 1)]? = some p := by rw [← hp]; congr 1; (first | lia | omega)
    rw [List.getElem?_eq_getElem h1] at h3
    cases h3; rfl
  rw [e]; rfl
noncomputable abbrev nsExp : List Str := ["self", "tests", "last", "at", "chosen", "test"]
set_option maxHeartbeats 8000000 in
theorem pexpr_spec {w : World} {X : XP} {D U : Nat} (IB : BinX w X D U 11) (IX : XSpec w X D U) (hD : 40 ≤ D) (hU : 600 ≤ U) : XSpec w (GE X) (D + 20) (U + 200) := by
  intro p q ts d e rest Z hg hp hr
  have h1 := hp.pi
  have hlen := hp.len
  have hr0 : 0 < rest.length := by obtain ⟨t, r, rfl, _⟩ := hr; simp
  rw [List.length_append] at hlen
  cases hg with
  | @mk t0 d0 e0 tsr _ e2 hbn hgt =>
  rw [List.length_append] at hlen
  rw [List.append_assoc] at hp
  generalize hbad : e0.or e2 = bad
  refine CallX.of (ns := nsExp) (gs := ["reversed"]) (rest := ["tests", "last", "at", "chosen", "test"]) (binds := [("self", .ref p.pa)]) (vs := [some (.ref p.pa), none, none, none, none, none]) (by k_is) (by k_is) (fun u_ u_ => BindsTo.of_eq rfl) (Ev.of (by decide)) (by decide) rfl rfl ?_
  intro g A ge dr os base outer keep hh hd hu hkeep L' h₁ tk₁ E V S XX pass
  k_extra "GO"
  refine St.useP (by assumption) XX hkeep .rfl (IB p q 1 _ _ _ _ _ _ _ rfl (by (first | lia | omega)) (by (first | lia | omega)) hbn hp (hgt.hdB hr)) hh (by k_extra "DPT") (by k_extra "DPT") (fun at_ ha => by rw [← hbad, ha]; rfl) fun hn1 qH kH v q2 Z2 h2 tk2 S2 hp2 hs2 ht2 => ?_
  rw [or_n hn1] at hbad
  k_extra "GO"
  refine whl (by passes_own) (fun n s => Ex16 fun cs ts' dl d' e' us nl l lv a4 a5 a6 q' Z' h tk => An11 (s = ⟨h, ge, dr, tk, os⟩) (n = ts'.length) (GTn X dl ts' d' e') (csF cs d' = d) (e' = bad) (St w g L' nsExp [some (.ref p.pa), some (.ref l), some lv, a4, a5, a6] [(l, listOf us.toArray nl)] (RP w p q') Z' h) (POk w p q' (ts' ++ rest) Z') (Sub Z Z') (TrL Z' us (cs.map csV)) (Tr Z' lv dl) (us.length + ts'.length ≤ tsr.length)) ?_ tsr.length
    ⟨[], tsr, d0, d, e2, [], _, _, v, _, _, _, q2, Z2, _, _, rfl, rfl, hgt, rfl, hbad, by assumption, hp2, hs2, .nil, ht2, by simp⟩
  rintro n s ⟨cs, ts', dl, d', e', us, nl, l, lv, a4, a5, a6, q', Z', h', tk', rfl, rfl, hg', hcf, he', S', hp', hs', htr, htl, hul⟩
  have h3 := hp'.pi
  cases hg' with
  | @cons _ a a' c dc ec t2 d2 e2' ts2 d3 e3 hx hb2 hg2 =>
    simp only [List.cons_append, List.append_assoc] at hp'
    simp only [List.length_cons, List.length_append] at hul
    have hat := hp'.tok.2
    k_extra "GO"
    refine St.isop (by assumption) hp' .op hh (by k_extra "DPT") (by k_extra "DPT") fun h4 tk4 S4 => ?_
    rw [opB_op]
    k_extra "GO"
    k_extra "W7"; intro q6 h6 tk6 S6 hp6
    have h6' := hp6.pi
    k_extra "GO"
    refine St.useP (by assumption) XX hkeep hs' (IX p q6 _ _ _ _ _ hx hp6 (.mk' (.op (by decide)))) hh (by k_extra "DPT") (by k_extra "DPT") (fun at_ ha => by rw [← he', ha]; rfl) fun hn7 qH kH v7 q7 Z7 h7 tk7 S7 hp7 hs7 ht7 => ?_
    rw [or_n hn7] at he'
    have h7' := hp7.pi
    k_extra "GO"
    refine St.expH (by assumption) hp7 (by simp only [List.length_append, List.length_cons]; (first | lia | omega)) hh (by k_extra "DPT") (by k_extra "DPT") fun q8 h8 tk8 S8 hp8 => ?_
    have h8' := hp8.pi
    k_extra "GO"
    refine St.useP (by assumption) XX hkeep (hs'.trans hs7.tl) (IB p q8 1 _ _ _ _ _ _ _ rfl (by (first | lia | omega)) (by (first | lia | omega)) hb2 (hp8.up (Sub.tl .rfl)) (hg2.hdB hr)) hh (by k_extra "DPT") (by k_extra "DPT") (fun at_ ha => by rw [← he', ha]; rfl) fun hn9 qH kH v9 q9 Z9 h9 tk9 S9 hp9 hs9 ht9 => ?_
    rw [or_n hn9] at he'
    k_extra "GO"
    refine ⟨ts2.length, by simp only [List.length_cons, List.length_append]; (first | lia | omega), cs ++ [(a, dl, dc)], ts2, d2, d3, e3, _, _, l, _, _, _, _, q9, _, _, _, rfl, rfl, hg2, ?_, he', by assumption, hp9, hs'.trans (hs7.trans ((Sub.tl .rfl).trans hs9)), ?_, ht9, ?_⟩
    · rw [← hcf]; simp [csF]
    · rw [List.map_append]
      have hs79 := hs7.trans ((Sub.tl .rfl).trans hs9)
      refine (htr.up hs79).append (.cons (.tup (hs9.up _ mem_hd) IsT.of (.cons ?_ (.cons (htl.up hs79) (.cons (ht7.up ((Sub.tl .rfl).trans hs9)) .nil)))) .nil)
      rw [hat]; exact .int _ _
    · simp only [List.length_append, List.length_cons, List.length_nil]; (first | lia | omega)
  | nil =>
    refine hideG fun GG hGG => ?_
    obtain ⟨t0, r0, rfl, hst⟩ := hr.ex
    refine hGG ?_; clear hGG GG
    k_extra "GO"
    refine St.isop (by assumption) hp' hst.s hh (by k_extra "DPT") (by k_extra "DPT") fun h4 tk4 S4 => ?_
    rw [hst.nq]
    have hsl : us.length = cs.length := by have := htr.length; simpa using this
    k_extra "GO"
    refine rev_call (by assumption) (memO mem_hd) IsL.of fun I h6 S6 => ?_
    refine for_rev (by passes_own) hh S6 (memO mem_hd) IsL.of rfl
      (fun i vs own R Z'' => Ex4 fun ov a4 a5 a6 => An5 (vs = [some (.ref p.pa), some (.ref l), some ov, a4, a5, a6]) (own = [(l, listOf us.toArray nl)]) (R = RP w p q') (Sub Z' Z'') (Tr Z'' ov (csF (cs.drop (cs.length - i)) dl)))
      (fun i vs own R Z' q => by obtain ⟨_, _, _, _, _, rfl, _⟩ := q; exact memO mem_hd) ⟨lv, _, _, _, rfl, rfl, rfl, .rfl, by simpa [csF] using htl⟩ ?_ ?_
    · intro i v vs own R Z' h7 tk7 ito S7 hi hv Hv
      refine hideG fun GG hGG => ?_
      obtain ⟨ov, a4, a5, a6, rfl, rfl, rfl, hs7, ht7⟩ := Hv
      rw [hsl] at hv hi
      obtain ⟨⟨pa', pt', pc'⟩, hpp⟩ : ∃ pp, cs[cs.length - 1 - i]? = some pp := ⟨_, List.getElem?_eq_getElem (by (first | lia | omega))⟩
      obtain ⟨v', hv', htv⟩ := htr.get (i := cs.length - 1 - i) (d := csV (pa', pt', pc')) (by rw [List.getElem?_map, hpp]; rfl)
      rw [hv'] at hv
      cases hv
      obtain ⟨xa, xo, x1, x2, x3, rfl, xm, xi, xh1, xh2, xh3⟩ := Tr.tN3 (htv.up hs7)
      obtain ⟨xt1, rfl⟩ := xh1.int_inv
      refine hGG ?_; clear hGG GG
      k_extra "GO"
      (repeat' with_reducible k_extra "UNH"); (try dsimp only [TurnEnd])
      refine ⟨_, _, _, _, _, _, rfl, by assumption, _, _, _, _, rfl, rfl, rfl, hs7.tl, ?_⟩
      rw [csF_step hi hpp]
      exact .tup mem_hd IsT.of (.cons (.str _ _) (.cons (.int _ _) (.cons xh2.tl (.cons xh3.tl (.cons ht7.tl .nil)))))
    · intro vs own R Z' h7 tk7 S7 Hv
      refine hideG fun GG hGG => ?_
      obtain ⟨ov, a4, a5, a6, rfl, rfl, rfl, hs7, ht7⟩ := Hv
      refine hGG ?_; clear hGG GG
      k_extra "GO"
      rw [hsl, Nat.sub_self, List.drop_zero, hcf] at ht7
      exact RetX.st he'.symm (by assumption) ⟨q', rfl, hp'.up hs7, hs'.trans hs7, ht7⟩

section
variable {w : World} {g : Heap} {L : Addr} {ns gs : List Str} {vs vs' : List (Option Value)} {own R Z : Led} {A : Around} {E : Value → Shared → Prop} {env : Env} {h : Heap} {ge : Array GenState} {dr : Drawn} {tk : Nat} {os : OsState}
theorem for_str {target : Expr} {body : List Stmt} {x : Str} {t : Tok} {Q : Flow → Shared → Prop} (hE : PassesOwn (model PR w) A env E) (hh : A.handled = none) (S : St w g L ns vs own R Z h)
    (hx : x.cps.all (fun c => decide (c < 128)) = true) (ht : ∀ v it, letOwnedTupleGo target it v = pure ())
    (Inv : Nat → List (Option Value) → Led → Led → Led → Prop) (i0 : Inv 0 vs own R Z)
    (turn : ∀ i c t vs own R Z h tk I ito, St w g L ns vs ((I, ito) :: own) R Z h → x.cps[i]? = some c → Inv i vs own R Z →
      wpAny (model PR w) A (assign target env (.str ⟨#[c]⟩ t)) (fun u_ s₂ => wpAny (model PR w) A (execs body env) (TurnEnd w g L ns ge dr os I ito (Inv (i + 1)) Q) E s₂) E ⟨h, ge, dr, tk, os⟩)
    (fin : ∀ vs own R Z h tk, St w g L ns vs own R Z h → Inv x.cps.size vs own R Z → Q .next ⟨h, ge, dr, tk, os⟩) :
    wpAny (model PR w) A (pyIter (.str x t)) (fun it s₂ => codeAny (model PR w) A (.forLoop target it body [] env) (fun r s' => match r with | .ok f => Q f s' | .error e => cameBackBy (model PR w) A env E e s') s₂) E ⟨h, ge, dr, tk, os⟩ := by
  refine wpAny_pyIter_ascii hx ?_
  obtain ⟨S1, g1⟩ := S.pushA { cls := .type "str_ascii_iterator", data := .fields #[.str x t, .int 0 0] } rfl
  refine forW (n := x.cps.size) (P := SignAt x) (Sw := fun i h' => h'.IsStrIter h.objs.size "str_ascii_iterator" x t i) (keep := []) hE (Walks.strAscii hh _ x t) (fun i h' x => let ⟨o, ho, _⟩ := x; ⟨o, ho⟩) Inv
    (fun i vs own R Z v p hp => nomatch hp) (fun i v s Q u_ hq => by rw [ht]; exact wpAny_pure hq) S1 ⟨_, g1, rfl, rfl⟩ i0 (fun i v vs own R Z h tk ito S u_ hP hv => ?_) fin
  obtain ⟨c, u, hc, rfl⟩ := hP
  exact turn i c u vs own R Z h tk _ ito S hc hv
theorem len_s {x : Str} {t : Tok} {Q : Value → Shared → Prop} (hx : x.length ≤ 1000000) (k1 : ∀ t' tk', Q (.int x.length t') ⟨h, ge, dr, tk', os⟩) : wpAny (model PR w) A (call (.builtin "len") [.str x t]) Q E ⟨h, ge, dr, tk, os⟩ :=
  PyProof.Rows.len_str (by (first | lia | omega)) (k1 _ _)
theorem ord1 {c : Nat} {t : Tok} {Q : Value → Shared → Prop} (k1 : ∀ t' tk', Q (.int c t') ⟨h, ge, dr, tk', os⟩) : wpAny (model PR w) A (call (.builtin "ord") [.str ⟨#[c]⟩ t]) Q E ⟨h, ge, dr, tk, os⟩ :=
  P.ord_of_char (k1 _ _)
theorem shl {a n : Int} {t u : Tok} {Q : Value → Shared → Prop} (h0 : 0 ≤ n) (h1 : n ≤ 1000000) (h2 : a.natAbs < 2 ^ 64) (k1 : ∀ t' tk', Q (.int (a * 2 ^ n.toNat) t') ⟨h, ge, dr, tk', os⟩) : wpAny (model PR w) A (binaryOp .LShift (.int a t) (.int n u)) Q E ⟨h, ge, dr, tk, os⟩ :=
  lshift_int_small h0 h1 h2 (k1 _ _)
theorem b_or {a b : Int} {t u : Tok} {Q : Value → Shared → Prop} (k1 : ∀ t' tk', Q (.int (Builtin.bitOr a b) t') ⟨h, ge, dr, tk', os⟩) : wpAny (model PR w) A (binaryOp .BitOr (.int a t) (.int b u)) Q E ⟨h, ge, dr, tk, os⟩ := or_int (k1 _ _)
theorem b_and {a b : Int} {t u : Tok} {Q : Value → Shared → Prop} (k1 : ∀ t' tk', Q (.int (Builtin.bitAnd a b) t') ⟨h, ge, dr, tk', os⟩) : wpAny (model PR w) A (binaryOp .BitAnd (.int a t) (.int b u)) Q E ⟨h, ge, dr, tk, os⟩ := and_int (k1 _ _)
theorem b_xor {a b : Int} {t u : Tok} {Q : Value → Shared → Prop} (k1 : ∀ t' tk', Q (.int (Builtin.bitXor a b) t') ⟨h, ge, dr, tk', os⟩) : wpAny (model PR w) A (binaryOp .BitXor (.int a t) (.int b u)) Q E ⟨h, ge, dr, tk, os⟩ := xor_int (k1 _ _)
theorem blen {a : Int} {t : Tok} {Q : Value → Shared → Prop} (k1 : ∀ t' tk', Q (.int (Builtin.Int.intBits a) t') ⟨h, ge, dr, tk', os⟩) : wpAny (model PR w) A (call (.builtin "int.bit_length") [.int a t]) Q E ⟨h, ge, dr, tk, os⟩ := call_int_bit_length (k1 _ _)
theorem gm_bl {a : Int} {t : Tok} {pl : Sem Bool} {Q : Value × List Value → Shared → Prop} {s : Shared} (k1 : Q (.builtin "int.bit_length", [.int a t]) s) : wpAny (model PR w) A (getMethod (.int a t) "bit_length" pl) Q E s := getMethod_int_bit_length k1
theorem gm_fd {x : Str} {t : Tok} {pl : Sem Bool} {Q : Value × List Value → Shared → Prop} {s : Shared} (k1 : Q (.builtin "str.find", [.str x t]) s) : wpAny (model PR w) A (getMethod (.str x t) "find" pl) Q E s := GM.find k1
theorem gm_ls {x : Str} {t : Tok} {pl : Sem Bool} {Q : Value × List Value → Shared → Prop} {s : Shared} (k1 : Q (.builtin "str.lstrip", [.str x t]) s) : wpAny (model PR w) A (getMethod (.str x t) "lstrip" pl) Q E s := GM.lstrip k1
theorem sfind {x y : Str} {t u : Tok} {Q : Value → Shared → Prop} (k1 : ∀ t' tk', Q (.int (Txt.find x y) t') ⟨h, ge, dr, tk', os⟩) : wpAny (model PR w) A (call (.builtin "str.find") [.str x t, .str y u]) Q E ⟨h, ge, dr, tk, os⟩ := SC.find (k1 _ _)
theorem slst {x y : Str} {t u : Tok} {Q : Value → Shared → Prop} (hx : x.length ≤ 1000000) (k1 : ∀ t' tk', Q (.str (Txt.lstripChars x y) t') ⟨h, ge, dr, tk', os⟩) : wpAny (model PR w) A (call (.builtin "str.lstrip") [.str x t, .str y u]) Q E ⟨h, ge, dr, tk, os⟩ :=
  SC.lstripChars (fun u_ u_ => k1 _ _) (by rw [sizeLine_eq]; (first | lia | omega))
end
/-! the signs of a whole number's text -/
noncomputable abbrev Dig (cs : List Nat) : Prop := ∀ c ∈ cs, 48 ≤ c ∧ c ≤ 57
noncomputable def dval (cs : List Nat) : Int := cs.foldl (fun (v : Int) (c : Nat) => v * 10 + (c : Int) - 48) 0
theorem dval_snoc {cs : List Nat} {c : Nat} : dval (cs ++ [c]) = dval cs * 10 + (c : Int) - 48 := by simp [dval]
theorem dval_of (cs : List Char) (hd : ∀ c ∈ cs, c.isDigit = true) : ∀ (v : Nat), (cs.map Char.toNat).foldl (fun (v : Int) (c : Nat) => v * 10 + (c : Int) - 48) (v : Int) = (Nat.ofDigitChars 10 cs v : Int) := by
  induction cs with
  | nil => intro v; rfl
  | cons c cs ih =>
    intro v
    have h1 := hd c (.head _)
    have h2 : 48 ≤ c.toNat := by
      simp only [Char.isDigit, Bool.and_eq_true, decide_eq_true_eq] at h1
      exact h1.1
    rw [List.map_cons, List.foldl_cons]
    have e : (v : Int) * 10 + (c.toNat : Int) - 48 = ((10 * v + (c.toNat - '0'.toNat) : Nat) : Int) := by
      have : '0'.toNat = 48 := rfl
      rw [this]; (first | lia | omega)
    rw [e, ih (fun c hc => hd c (.tail _ hc))]
    rfl
structure BigT (x : Str) (i : Int) : Prop where
  d : Dig x.cps.toList
  v : dval x.cps.toList = i
  l : x.length ≤ 10
  p : 0 < x.length
theorem bigT {i : Int} (h0 : 0 ≤ i) (h1 : i < 2147483648) : BigT (bigTxt i) i := by
  obtain ⟨n, rfl⟩ := Int.eq_ofNat_of_zero_le h0
  have hl : (bigTxt (n : Int)).length ≤ 10 := toString_length_le h0 (by (first | lia | omega)) (by (first | lia | omega))
  have e : bigTxt (n : Int) = ⟨((Nat.toDigits 10 n).map Char.toNat).toArray⟩ := text_ofNat n
  have hdg : ∀ c ∈ Nat.toDigits 10 n, c.isDigit = true := fun c hc => Nat.isDigit_of_mem_toDigits (by (first | lia | omega)) (by (first | lia | omega)) hc
  refine ⟨fun c hc => ?_, ?_, hl, ?_⟩
  · rw [e] at hc
    simp only [List.mem_map] at hc
    obtain ⟨a, ha, rfl⟩ := hc
    have h1 := hdg a ha
    simp only [Char.isDigit, Bool.and_eq_true, decide_eq_true_eq] at h1
    exact ⟨h1.1, h1.2⟩
  · rw [e]
    have := dval_of _ hdg 0
    rw [Nat.ofDigitChars_ten_toDigits] at this
    simpa [dval] using this
  · rw [e]
    show 0 < ((Nat.toDigits 10 n).map Char.toNat).toArray.size
    have := Nat.toDigits_ne_nil (b := 10) (n := n)
    rw [List.size_toArray, List.length_map]
    exact List.length_pos_iff.mpr this
theorem BigT.item {x : Str} {i : Int} (h : BigT x i) : ∃ c, Txt.item x 0 = ⟨#[c]⟩ ∧ 48 ≤ c ∧ c ≤ 57 := by
  have hp := h.p
  refine ⟨(Txt.charAt x 0).getD 0, rfl, ?_⟩
  have : ∃ c, Txt.charAt x 0 = some c ∧ c ∈ x.cps.toList := by
    have hp' : 0 < x.cps.size := hp
    refine ⟨x.cps[0], ?_, by simp⟩
    have hl : x.length = x.cps.size := rfl
    simp only [Txt.charAt, seqIndex?]
    rw [hl]
    simp [hp']
  obtain ⟨c, hc, hm⟩ := this
  rw [hc]
  exact h.d c hm
theorem BigT.ascii {x : Str} {i : Int} (h : BigT x i) : x.cps.all (fun c => decide (c < 128)) = true := by
  rw [Array.all_eq_true]
  intro j hj
  have := h.d x.cps[j] (by simp)
  exact decide_eq_true (by (first | lia | omega))
theorem dig_ne {c : Nat} (h : 48 ≤ c ∧ c ≤ 57) : ((⟨#[c]⟩ : Str) == ("x" : Str)) = false ∧ ((["x", "z", "?"] : List Str).any (fun y => y == ⟨#[c]⟩)) = false := by
  have : ∀ k, k < 10 → ((⟨#[48 + k]⟩ : Str) == ("x" : Str)) = false ∧ ((["x", "z", "?"] : List Str).any (fun y => y == ⟨#[48 + k]⟩)) = false := by decide +kernel
  obtain ⟨k, rfl⟩ := Nat.exists_eq_add_of_le h.1
  exact this k (by (first | lia | omega))
theorem and32 {a : Int} (h0 : 0 ≤ a) (h1 : a < 2147483648) : Builtin.bitAnd a (1 * 2 ^ (Int.toNat 32) - 1) = a := by
  rw [bitAnd_pp h0 (by decide)]
  obtain ⟨n, rfl⟩ := Int.eq_ofNat_of_zero_le h0
  have e : Int.toNat (1 * 2 ^ Int.toNat 32 - 1) = 2 ^ 32 - 1 := by decide +kernel
  rw [e]
  have := Nat.and_two_pow_sub_one_of_lt_two_pow (x := n) (n := 32) (by (first | lia | omega))
  show ((n &&& (2 ^ 32 - 1) : Nat) : Int) = n
  rw [this]

inductive GM : Str → Value → Prop
  | n0 : GM "MOST_BITS" (.int 65536 457)
  | n1 : GM "PLAIN_BITS" (.int 32 459)
theorem GM.is {w : World} {x : Str} {v : Value} (h : GM x v) : nsIn (Hd.KF w.params) mainGlobals x = some (some v) := by
  cases h <;> k_is
theorem ldM {w : World} {A : Around} {E : Value → Shared → Prop} {s : Shared} {env : Env} {L : Addr} {g : Heap} {ns gs : List Str} {vs : List (Option Value)} {own R Z : Led} {x : Str} {pos : Pos} {v : Value} {Q : Value → Shared → Prop} (V : EvE env L ns gs) (S : St w g L ns vs own R Z s.heap) (hv : GM x v) (hx : x ∈ gs) (h : Q v s) :
    wpAny (model PR w) A (eval (.Name x pos) env) Q E s := by
  obtain ⟨_, _, _, T⟩ := S.gx.T
  exact Calls.Name_function_global V.k (V.glb x hx) (Calls.loadGlobal_global (by rw [V.gl]; exact T.g.keeps S.F.keep) (mg_of S.gx.X T.g hv.is) h) (V.dg x hx)

theorem ksetE : True := by
  k_with "qVEE" => first
    | (focus (refine' ldM ?_ ?_ ?_ ?_ ?_; rotate_right 5; assumption; assumption; constructor; k_extra "ML"))
  k_with "qVOE" => first
    | (focus (refine' len_s ?_ ?_; rotate_right 2; k_dflt (first | decide | (first | lia | omega))); intro ib1 ib2)
    | (refine ord1 ?_; intro ib1 ib2)
    | (focus (refine' max2 ?_ ?_ ?_; rotate_right 3; assumption; assumption); intro id1 id2 id3 id4)
    | (refine b_or ?_; intro ib1 ib2)
    | (refine b_and ?_; intro ib1 ib2)
    | (refine b_xor ?_; intro ib1 ib2)
    | (focus (refine' shl ?_ ?_ ?_ ?_; rotate_right 4; k_dflt (first | decide | (first | lia | omega)); k_dflt (first | decide | (first | lia | omega)); k_dflt (first | decide | (first | lia | omega))); intro ib1 ib2)
    | (refine blen ?_; intro ib1 ib2)
    | (refine sfind ?_; intro ib1 ib2)
  k_with "qPRE" => first
    | (refine gm_bl ?_)
    | (refine gm_fd ?_)
    | (refine gm_ls ?_)
  k_with "qDE" => (goal_has PySem.wpAny; first
    | ((fail_if_success fail_if_success refine tyF ?_); first | k_extra "qFLA" | k_extra "qFLB")
    | ((fail_if_success fail_if_success refine tyE ?_); first | k_extra "qVEa" | k_extra "qVES" | k_extra "qVEb" | k_extra "qVEB" | k_extra "qVED" | k_extra "qVEE")
    | ((fail_if_success fail_if_success refine tyV ?_); first | k_extra "qVOA" | k_extra "qVOB" | k_extra "qVOC" | k_extra "qVOE")
    | ((fail_if_success fail_if_success refine tyU ?_); first | k_extra "qUNA" | k_extra "qUNB" | k_extra "qUNC")
    | ((fail_if_success fail_if_success refine tyL ?_); first | k_extra "qLIA" | k_extra "qLIB")
    | ((fail_if_success fail_if_success refine tyB ?_); first | k_extra "qBOA" | k_extra "qBOD")
    | ((fail_if_success fail_if_success refine tyP ?_); first | k_extra "qPRA" | k_extra "qPRB" | k_extra "qPRD" | k_extra "qPRE")
    | k_extra "qANDA" | k_extra "BR")
  k_with "GO" => repeat' with_reducible (first | k_extra "qDE" | k_extra "UNH" | k_extra "BR")
  k_with "W5" => with_reducible (first | k_extra "qDE" | k_extra "UNH" | k_extra "BR")
  trivial
set_option maxHeartbeats 4000000 in
theorem mask_spec {w : World} {n : Int} {tn : Tok} {R Z : Led} (h0 : 0 ≤ n) (h1 : n ≤ 100) : CallC w 203 [.int n tn] 1 10 R Z (fun v R' Z' => ∃ t, An3 (v = .int (1 * 2 ^ n.toNat - 1) t) (R' = R) (Z' = Z)) := by
  refine CallC.of (ns := ["w"]) (gs := []) (rest := []) (binds := [("w", .int n tn)]) (vs := [some (.int n tn)]) (by k_is) (by k_is) (fun u_ u_ => BindsTo.of_eq rfl) (Ev.of (by decide)) (by decide) rfl rfl ?_
  intro g A ge dr os hh hd hu L' h₁ tk E V S pE
  k_extra "GO"
  (repeat' with_reducible k_extra "UNH"); k_extra "RETC"
  exact ⟨_, rfl, rfl, rfl⟩
set_option maxHeartbeats 4000000 in
theorem vec_spec {w : World} {n a b : Int} {tn ta tb : Tok} {R Z : Led} (h0 : 0 ≤ n) (h1 : n ≤ 100) : CallC w 211 [.int n tn, .int a ta, .int b tb] 5 40 R Z (fun v R' Z' => R' = R ∧ Sub Z Z' ∧ Tr Z' v (.tuple [.int n, .int (Builtin.bitAnd a (1 * 2 ^ n.toNat - 1)), .int (Builtin.bitAnd b (1 * 2 ^ n.toNat - 1))])) := by
  refine CallC.of (ns := ["w", "a", "b", "full"]) (gs := ["mask"]) (rest := ["full"]) (binds := [("w", .int n tn), ("a", .int a ta), ("b", .int b tb)]) (vs := [some (.int n tn), some (.int a ta), some (.int b tb), none]) (by k_is) (by k_is) (fun u_ X => binds_K X rfl (by k_is) rfl rfl rfl) (Ev.of (by decide)) (by decide) rfl rfl ?_
  intro g A ge dr os hh hd hu L' h₁ tk E V S pE
  k_extra "GO"
  refine St.useA (by assumption) (mask_spec h0 h1) hh (by k_extra "DPT") (by k_extra "DPT") fun qH kH t h2 tk2 S2 => ?_
  k_extra "GO"
  (repeat' with_reducible k_extra "UNH"); k_extra "RETC"
  exact ⟨rfl, Sub.tl .rfl, .tup mem_hd IsT.of (.cons (.int _ _) (.cons (.int _ _) (.cons (.int _ _) .nil)))⟩
set_option maxHeartbeats 4000000 in
theorem bitsb_spec {w : World} {tb : Tok} {R Z : Led} : CallC w 218 [.str "b" tb] 1 10 R Z (fun v R' Z' => ∃ t, An3 (v = .int 1 t) (R' = R) (Z' = Z)) := by
  refine CallC.of (ns := ["base"]) (gs := []) (rest := []) (binds := [("base", .str "b" tb)]) (vs := [some (.str "b" tb)]) (by k_is) (by k_is) (fun u_ u_ => BindsTo.of_eq rfl) (Ev.of (by decide)) (by decide) rfl rfl ?_
  intro g A ge dr os hh hd hu L' h₁ tk E V S pE
  k_extra "GO"
  (repeat' with_reducible k_extra "UNH"); k_extra "RETC"
  exact ⟨_, rfl, rfl, rfl⟩
set_option maxHeartbeats 4000000 in
theorem dec_spec {w : World} {x : Str} {tx : Tok} {R Z : Led} (hx : x.cps.all (fun c => decide (c < 128)) = true) : CallC w 225 [.str x tx] 5 40 R Z (fun v R' Z' => ∃ t, An3 (v = .int (dval x.cps.toList) t) (R' = R) (Z' = Z)) := by
  refine CallC.of (ns := ["digits", "value", "digit"]) (gs := ["ord"]) (rest := ["value", "digit"]) (binds := [("digits", .str x tx)]) (vs := [some (.str x tx), none, none]) (by k_is) (by k_is) (fun u_ u_ => BindsTo.of_eq rfl) (Ev.of (by decide)) (by decide) rfl rfl ?_
  intro g A ge dr os hh hd hu L' h₁ tk E V S pE
  k_extra "GO"
  refine for_str (by passes_own) hh (by assumption) hx (by intro _ _; k_extra "UA")
    (fun i vs own R' Z' => Ex2 fun t a3 => An4 (vs = [some (.str x tx), some (.int (dval (x.cps.toList.take i)) t), a3]) (own = []) (R' = R) (Z' = Z)) ⟨_, _, rfl, rfl, rfl, rfl⟩ ?_ ?_
  · intro i c t vs own R' Z' h2 tk2 I ito S2 hc Hv
    obtain ⟨t2, a3, rfl, rfl, rfl, rfl⟩ := Hv
    k_extra "GO"
    (repeat' with_reducible k_extra "UNH"); (try dsimp only [TurnEnd])
    have hc' : x.cps.toList[i]? = some c := by simpa using hc
    have key : dval (x.cps.toList.take (i + 1)) = dval (x.cps.toList.take i) * 10 + (c : Int) - 48 := by rw [List.take_add_one, hc']; exact dval_snoc
    exact ⟨_, _, _, _, _, _, rfl, by assumption, _, _, by rw [key], rfl, rfl, rfl⟩
  · intro vs own R' Z' h2 tk2 S2 Hv
    obtain ⟨t2, a3, rfl, rfl, rfl, rfl⟩ := Hv
    k_extra "GO"
    (repeat' with_reducible k_extra "UNH"); k_extra "RETC"
    exact ⟨_, by rw [List.take_of_length_le (by simp)], rfl, rfl⟩

noncomputable def dlo (c : Nat) : Int := if c = 120 then 1 else if c = 122 then 0 else (c : Int) - 48
noncomputable def dhi (c : Nat) : Int := if c = 120 then 1 else if c = 122 then 1 else 0
noncomputable def DpC (c : Nat) : Prop := c = 49 ∨ c = 120 ∨ c = 48 ∨ c = 122
theorem dp_x {c : Nat} (hc : DpC c) (h : ((⟨#[c]⟩ : Str) == ("x" : Str)) = true) : c = 120 := by
  rcases hc with rfl | rfl | rfl | rfl <;> first | rfl | exact absurd h (by decide +kernel)
theorem dp_z {c : Nat} (hc : DpC c) (h : ((⟨#[c]⟩ : Str) == ("z" : Str)) = true) : c = 122 := by
  rcases hc with rfl | rfl | rfl | rfl <;> first | rfl | exact absurd h (by decide +kernel)
theorem dp_q {c : Nat} (hc : DpC c) (h : ((⟨#[c]⟩ : Str) == ("?" : Str)) = true) : False := by
  rcases hc with rfl | rfl | rfl | rfl <;> exact absurd h (by decide +kernel)
theorem dp_f {c : Nat} (hc : DpC c) (h : ((⟨#[c]⟩ : Str) == ("x" : Str)) = false) (h2 : ((⟨#[c]⟩ : Str) == ("z" : Str)) = false) : Txt.find "0123456789abcdef" ⟨#[c]⟩ = dlo c ∧ dhi c = 0 := by
  rcases hc with rfl | rfl | rfl | rfl <;> first | exact absurd h (by decide +kernel) | exact absurd h2 (by decide +kernel) | decide +kernel
set_option maxHeartbeats 4000000 in
theorem dp_spec {w : World} {c : Nat} {tc tf : Tok} {R Z : Led} (hc : DpC c) : CallC w 239 [.str ⟨#[c]⟩ tc, .int 1 tf] 1 10 R Z (fun v R' Z' => R' = R ∧ Sub Z Z' ∧ Tr Z' v (.tuple [.int (dlo c), .int (dhi c)])) := by
  refine CallC.of (ns := ["digit", "full"]) (gs := []) (rest := []) (binds := [("digit", .str ⟨#[c]⟩ tc), ("full", .int 1 tf)]) (vs := [some (.str ⟨#[c]⟩ tc), some (.int 1 tf)]) (by k_is) (by k_is) (fun u_ u_ => BindsTo.of_eq rfl) (Ev.of (by decide)) (by decide) rfl rfl ?_
  intro g A ge dr os hh hd hu L' h₁ tk E V S pE
  k_extra "GO"
  refine ite_bool (fun h1 => ?_) (fun h1 => ?_)
  · k_extra "GO"
    (repeat' with_reducible k_extra "UNH"); k_extra "RETC"
    obtain rfl := dp_x hc h1
    exact ⟨rfl, Sub.tl .rfl, .tup mem_hd IsT.of (.cons (.int _ _) (.cons (.int _ _) .nil))⟩
  · k_extra "GO"
    refine ite_bool (fun h2 => ?_) (fun h2 => ?_)
    · k_extra "GO"
      (repeat' with_reducible k_extra "UNH"); k_extra "RETC"
      obtain rfl := dp_z hc h2
      exact ⟨rfl, Sub.tl .rfl, .tup mem_hd IsT.of (.cons (.int _ _) (.cons (.int _ _) .nil))⟩
    · k_extra "GO"
      refine ite_bool (fun h3 => ?_) (fun h3 => ?_)
      · exact (dp_q hc h3).elim
      · k_extra "GO"
        (repeat' with_reducible k_extra "UNH"); k_extra "RETC"
        obtain ⟨e1, e2⟩ := dp_f hc h1 h2
        refine ⟨rfl, Sub.tl .rfl, .tup mem_hd IsT.of (.cons ?_ (.cons ?_ .nil))⟩
        · rw [e1]; exact .int _ _
        · rw [e2]; exact .int _ _
theorem slst4 {w : World} {A : Around} {E : Value → Shared → Prop} {h : Heap} {ge : Array GenState} {dr : Drawn} {tk : Nat} {os : OsState} {t u : Tok} {Q : Value → Shared → Prop} (k1 : ∀ t' tk', Q (.str "4" t') ⟨h, ge, dr, tk', os⟩) : wpAny (model PR w) A (call (.builtin "str.lstrip") [.str "4" t, .str "0" u]) Q E ⟨h, ge, dr, tk, os⟩ := by
  have e : Txt.lstripChars "4" "0" = "4" := by decide +kernel
  refine slst (by decide +kernel) fun t' tk' => ?_
  rw [e]; exact k1 _ _
theorem four_val : dval ("4" : Str).cps.toList = 4 := by decide +kernel
set_option maxHeartbeats 4000000 in
theorem size_spec {w : World} {a : Int} {ts ta : Tok} {R Z : Led} : CallC w 232 [.str "4" ts, .int a ta] 10 100 R Z (fun v R' Z' => ∃ t, An3 (v = .int 4 t) (R' = R) (Z' = Z)) := by
  refine CallC.of (ns := ["size", "at", "digits"]) (gs := ["len", "decimal_value", "MOST_BITS", "SourceError"]) (rest := ["digits"]) (binds := [("size", .str "4" ts), ("at", .int a ta)]) (vs := [some (.str "4" ts), some (.int a ta), none]) (by k_is) (by k_is) (fun u_ u_ => BindsTo.of_eq rfl) (Ev.of (by decide)) (by decide) rfl rfl ?_
  intro g A ge dr os hh hd hu L' h₁ tk E V S pE
  k_extra "GO"
  refine slst4 fun u_ u_ => ?_
  k_extra "GO"
  refine St.useA (by assumption) (dec_spec (x := "4") (by decide +kernel)) hh (by (first | lia | omega)) (by (first | lia | omega)) fun qH kH t h2 tk2 S2 => ?_
  rw [four_val]
  k_extra "GO"
  refine St.useA (by assumption) (dec_spec (x := "4") (by decide +kernel)) hh (by (first | lia | omega)) (by (first | lia | omega)) fun qH kH t h3 tk3 S3 => ?_
  rw [four_val]
  k_extra "GO"
  (repeat' with_reducible k_extra "UNH"); k_extra "RETC"
  exact ⟨_, rfl, rfl, rfl⟩
noncomputable def gA : Nat → Int
  | 0 => 0 | 1 => 1 | 2 => 3 | 3 => 6 | _ => 12
noncomputable def gB : Nat → Int
  | 0 => 0 | 1 => 0 | 2 => 1 | 3 => 2 | _ => 5
theorem g_turn : ∀ i c, ("1x0z" : Str).cps[i]? = some c → i < 4 ∧ DpC c ∧ (gA i).natAbs < 2 ^ 64 ∧ (gB i).natAbs < 2 ^ 64 ∧ Builtin.bitOr (gA i * 2 ^ Int.toNat 1) (dlo c) = gA (i + 1) ∧ Builtin.bitOr (gB i * 2 ^ Int.toNat 1) (dhi c) = gB (i + 1) := by
  intro i c h
  have e : ("1x0z" : Str) = ⟨#[49, 120, 48, 122]⟩ := by decide +kernel
  rw [e] at h
  unfold DpC
  match i, h with
  | 0, h => obtain rfl : 49 = c := by simpa using h
            decide +kernel
  | 1, h => obtain rfl : 120 = c := by simpa using h
            decide +kernel
  | 2, h => obtain rfl : 48 = c := by simpa using h
            decide +kernel
  | 3, h => obtain rfl : 122 = c := by simpa using h
            decide +kernel
theorem g_size : ("1x0z" : Str).cps.size = 4 := by decide +kernel
theorem g_len : (("1x0z" : Str).length : Int) = 4 := by decide +kernel
set_option maxHeartbeats 4000000 in
theorem grp_spec {w : World} {tb td : Tok} {R Z : Led} : CallC w 246 [.str "b" tb, .str "1x0z" td] 5 60 R Z (fun v R' Z' => R' = R ∧ Sub Z Z' ∧ Tr Z' v (.tuple [.int 4, .int 12, .int 5])) := by
  refine CallC.of (ns := ["base", "digits", "count", "full", "a", "b", "digit", "low", "high"]) (gs := ["digit_bits", "mask", "digit_pair", "len"]) (rest := ["count", "full", "a", "b", "digit", "low", "high"]) (binds := [("base", .str "b" tb), ("digits", .str "1x0z" td)]) (vs := [some (.str "b" tb), some (.str "1x0z" td), none, none, none, none, none, none, none]) (by k_is) (by k_is) (fun u_ u_ => BindsTo.of_eq rfl) (Ev.of (by decide)) (by decide) rfl rfl ?_
  intro g A ge dr os hh hd hu L' h₁ tk E V S pE
  k_extra "GO"
  refine St.useA (by assumption) bitsb_spec hh (by k_extra "DPT") (by k_extra "DPT") fun qH kH tc h2 tk2 S2 => ?_
  k_extra "GO"
  refine St.useA (by assumption) (mask_spec (by decide) (by decide)) hh (by k_extra "DPT") (by k_extra "DPT") fun qH kH tf h3 tk3 S3 => ?_
  k_extra "GO"
  refine for_str (by passes_own) hh (by assumption) (by decide +kernel) (by intro _ _; k_extra "UA")
    (fun i vs own R2 Z2 => Ex5 fun t5 t6 a7 a8 a9 => An4 (vs = [some (.str "b" tb), some (.str "1x0z" td), some (.int 1 tc), some (.int 1 tf), some (.int (gA i) t5), some (.int (gB i) t6), a7, a8, a9]) (own = []) (R2 = R) (Sub Z Z2)) ⟨_, _, _, _, _, rfl, rfl, rfl, .rfl⟩ ?_ ?_
  · intro i c t vs own R2 Z2 h2 tk2 I ito S2 hc Hv
    refine hideG fun GG hGG => ?_
    obtain ⟨t5, t6, a7, a8, a9, rfl, rfl, rfl, hs⟩ := Hv
    obtain ⟨h4, hdc, hA, hB, eA, eB⟩ := g_turn i c hc
    refine hGG ?_; clear hGG GG
    k_extra "GO"
    refine St.useC3 (by assumption) (dp_spec hdc) hh (by k_extra "DPT") (by k_extra "DPT") fun qH kH v Z3 h5 tk5 S5 hs3 ht => ?_
    obtain ⟨xa, xo, x1, x2, rfl, xm, xi, xh1, xh2⟩ := Tr.tN2 ht
    obtain ⟨xt1, rfl⟩ := xh1.int_inv
    obtain ⟨xt2, rfl⟩ := xh2.int_inv
    k_extra "GO"
    (repeat' with_reducible k_extra "UNH"); (try dsimp only [TurnEnd])
    exact ⟨_, _, _, _, _, _, rfl, by assumption, _, _, _, _, _, by rw [← eA, ← eB], rfl, rfl, hs.trans hs3⟩
  · intro vs own R2 Z2 h2 tk2 S2 Hv
    refine hideG fun GG hGG => ?_
    obtain ⟨t5, t6, a7, a8, a9, rfl, rfl, rfl, hs⟩ := Hv
    refine hGG ?_; clear hGG GG
    k_extra "GO"
    (repeat' with_reducible k_extra "UNH"); k_extra "RETC"
    rw [g_size, g_len]
    exact ⟨rfl, hs.tl, .tup mem_hd IsT.of (.cons (.int _ _) (.cons (.int _ _) (.cons (.int _ _) .nil)))⟩
set_option maxHeartbeats 4000000 in
theorem pad_spec {w : World} {n m a b : Int} {x : Str} {tn tm ta tb tx : Tok} {R Z : Led} (h0 : 0 ≤ n) (h1 : n ≤ 100) (h2 : 0 ≤ m) (h3 : n ≤ m ∨ m ≤ 100 ∧ (x == ("x" : Str)) = false ∧ (["x", "z", "?"] : List Str).any (fun y => y == x) = false) :
    CallC w 253 [.int n tn, .int m tm, .int a ta, .int b tb, .str x tx] 10 80 R Z (fun v R' Z' => R' = R ∧ Sub Z Z' ∧ Tr Z' v (.tuple [.int n, .int (Builtin.bitAnd a (1 * 2 ^ n.toNat - 1)), .int (Builtin.bitAnd b (1 * 2 ^ n.toNat - 1))])) := by
  refine CallC.of (ns := ["w", "width", "a", "b", "first", "fill"]) (gs := ["mask", "vec"]) (rest := ["fill"]) (binds := [("w", .int n tn), ("width", .int m tm), ("a", .int a ta), ("b", .int b tb), ("first", .str x tx)]) (vs := [some (.int n tn), some (.int m tm), some (.int a ta), some (.int b tb), some (.str x tx), none]) (by k_is) (by k_is) (fun u_ u_ => BindsTo.of_eq rfl) (Ev.of (by decide)) (by decide) rfl rfl ?_
  intro g A ge dr os hh hd hu L' h₁ tk E V S pE
  k_extra "GO"
  refine ite_dec (fun hc => ?_) (fun hc => ?_)
  · obtain ⟨hm, hx1, hx2⟩ : m ≤ 100 ∧ (x == ("x" : Str)) = false ∧ (["x", "z", "?"] : List Str).any (fun y => y == x) = false := h3.resolve_left (by (first | lia | omega))
    k_extra "GO"
    refine St.useA (by assumption) (mask_spec h0 h1) hh (by k_extra "DPT") (by k_extra "DPT") fun qH kH t4 h4 tk4 S4 => ?_
    k_extra "GO"
    refine St.useA (by assumption) (mask_spec h2 hm) hh (by k_extra "DPT") (by k_extra "DPT") fun qH kH t5 h5 tk5 S5 => ?_
    k_extra "GO"
    refine in_t (by assumption) (by k_extra "MEM") IsT.of (xs := ["x", "z", "?"]) (by repeat' (first | exact Strs.nil | refine Strs.cons ?_)) ?_
    rw [hx2]
    k_extra "GO"
    refine St.useC3 (by assumption) (vec_spec h0 h1) hh (by k_extra "DPT") (by k_extra "DPT") fun qH kH v Z' h6 tk6 S6 hs ht => ?_
    k_extra "GO"
    (repeat' with_reducible k_extra "UNH"); k_extra "RETC"
    exact ⟨rfl, (Sub.tl .rfl).trans hs, ht⟩
  · k_extra "GO"
    refine St.useC3 (by assumption) (vec_spec h0 h1) hh (by k_extra "DPT") (by k_extra "DPT") fun qH kH v Z' h6 tk6 S6 hs ht => ?_
    k_extra "GO"
    (repeat' with_reducible k_extra "UNH"); k_extra "RETC"
    exact ⟨rfl, hs, ht⟩
noncomputable abbrev nsNum : List Str := ["value", "at", "size", "base", "signed", "digits", "first", "plain", "width", "a", "b", "w"]
noncomputable abbrev gsNum : List Str := ["len", "MOST_BITS", "SourceError", "grouped", "decimal_value", "max", "PLAIN_BITS", "size_value", "padded_vec"]
set_option maxHeartbeats 4000000 in
theorem num1_spec {w : World} {i a : Int} {vv : Value} {ta : Tok} {R Z : Led} (h0 : 0 ≤ i) (h1 : i < 2147483648) (hv : Tr Z vv (.tuple [.str "", .str "", .bool true, .str (bigTxt i)])) :
    CallC w 260 [vv, .int a ta] 20 200 R Z (fun v R' Z' => R' = R ∧ Sub Z Z' ∧ Tr Z' v (.tuple [.tuple [.int 32, .int i, .int 0], .bool true, .bool false])) := by
  have hb := bigT h0 h1
  generalize bigTxt i = x at hb hv
  obtain ⟨xa, xo, x1, x2, x3, x4, rfl, xm, xi, xh1, xh2, xh3, xh4⟩ := Tr.tN4 hv
  obtain ⟨xt1, rfl⟩ := xh1.str_inv
  obtain ⟨xt2, rfl⟩ := xh2.str_inv
  obtain ⟨xt4, rfl⟩ := xh4.str_inv
  have hbl := hb.l
  have hbp := hb.p
  cases xh3
  refine CallC.of (ns := nsNum) (gs := gsNum) (rest := ["size", "base", "signed", "digits", "first", "plain", "width", "a", "b", "w"]) (binds := [("value", .ref xa), ("at", .int a ta)]) (vs := [some (.ref xa), some (.int a ta), none, none, none, none, none, none, none, none, none, none]) (by k_is) (by k_is) (fun u_ u_ => BindsTo.of_eq rfl) (Ev.of (by decide)) (by decide) rfl rfl ?_
  intro g A ge dr os hh hd hu L' h₁ tk E V S pE
  k_extra "GO"
  refine ix_str (by (first | lia | omega)) (by decide) (by (first | lia | omega)) (fun u_ u_ => ?_) (by k_extra "UA") (by intro _; k_extra "UA")
  refine hideG fun GG hGG => ?_
  obtain ⟨c, hci, hcd⟩ := hb.item
  refine hGG ?_; clear hGG GG
  rw [hci]
  k_extra "GO"
  refine ite_dec (fun hc => absurd hc (by (first | lia | omega))) (fun hc => ?_)
  k_extra "GO"
  refine in_t (by assumption) (by k_extra "MEM") IsT.of (xs := ["x", "z", "?"]) (by repeat' (first | exact Strs.nil | refine Strs.cons ?_)) ?_
  rw [(dig_ne hcd).2]
  k_extra "GO"
  refine St.useA (by assumption) (dec_spec hb.ascii) hh (by k_extra "DPT") (by k_extra "DPT") fun qH kH td h2 tk2 S2 => ?_
  rw [hb.v]
  k_extra "GO"
  have hbits : Builtin.Int.intBits i ≤ 31 := intBits_le_iff.mpr (by (first | lia | omega))
  refine max2 (by assumption) hh fun u_ u_ u_ u_ => ?_
  refine hideG fun GG hGG => ?_
  obtain ⟨W, hW, hW1, hW2⟩ : ∃ W : Int, (if (1 : Int) > ((Builtin.Int.intBits i : Nat) : Int) then 1 else ((Builtin.Int.intBits i : Nat) : Int)) = W ∧ 1 ≤ W ∧ W ≤ 31 := ⟨_, rfl, by split <;> (first | lia | omega), by split <;> (first | lia | omega)⟩
  refine hGG ?_; clear hGG GG
  rw [hW]
  k_extra "GO"
  refine max2 (by assumption) hh fun u_ u_ u_ u_ => ?_
  rw [if_neg (show ¬ (W + 1 > 32) by (first | lia | omega))]
  k_extra "GO"
  refine St.useC3 (by assumption) (pad_spec (by decide) (by decide) (by (first | lia | omega)) (.inr ⟨by (first | lia | omega), (dig_ne hcd).1, (dig_ne hcd).2⟩)) hh (by k_extra "DPT") (by k_extra "DPT") fun qH kH v Z' h3 tk3 S3 hs ht => ?_
  k_extra "GO"
  (repeat' with_reducible k_extra "UNH"); k_extra "RETC"
  rw [and32 h0 h1] at ht
  have e0 : Builtin.bitAnd 0 (1 * 2 ^ Int.toNat 32 - 1) = 0 := by decide +kernel
  rw [e0] at ht
  exact ⟨rfl, ((Sub.tl .rfl).trans hs).tl, .tup mem_hd IsT.of (.cons ht.tl (.cons (.bool _) (.cons (.bool _) .nil)))⟩
set_option maxHeartbeats 4000000 in
theorem num2_spec {w : World} {a : Int} {vv : Value} {ta : Tok} {R Z : Led} (hv : Tr Z vv (.tuple [.str "4", .str "b", .bool false, .str "1x0z"])) :
    CallC w 260 [vv, .int a ta] 20 200 R Z (fun v R' Z' => R' = R ∧ Sub Z Z' ∧ Tr Z' v (.tuple [.tuple [.int 4, .int 12, .int 5], .bool false, .bool true])) := by
  obtain ⟨xa, xo, x1, x2, x3, x4, rfl, xm, xi, xh1, xh2, xh3, xh4⟩ := Tr.tN4 hv
  obtain ⟨xt1, rfl⟩ := xh1.str_inv
  obtain ⟨xt2, rfl⟩ := xh2.str_inv
  obtain ⟨xt4, rfl⟩ := xh4.str_inv
  cases xh3
  refine CallC.of (ns := nsNum) (gs := gsNum) (rest := ["size", "base", "signed", "digits", "first", "plain", "width", "a", "b", "w"]) (binds := [("value", .ref xa), ("at", .int a ta)]) (vs := [some (.ref xa), some (.int a ta), none, none, none, none, none, none, none, none, none, none]) (by k_is) (by k_is) (fun u_ u_ => BindsTo.of_eq rfl) (Ev.of (by decide)) (by decide) rfl rfl ?_
  intro g A ge dr os hh hd hu L' h₁ tk E V S pE
  k_extra "GO"
  refine St.useC3 (by assumption) grp_spec hh (by k_extra "DPT") (by k_extra "DPT") fun qH kH v Z' h2 tk2 S2 hs ht => ?_
  obtain ⟨ya, yo, y1, y2, y3, rfl, ym, yi, yh1, yh2, yh3⟩ := Tr.tN3 ht
  obtain ⟨yt1, rfl⟩ := yh1.int_inv
  obtain ⟨yt2, rfl⟩ := yh2.int_inv
  obtain ⟨yt3, rfl⟩ := yh3.int_inv
  k_extra "GO"
  refine St.useA (by assumption) size_spec hh (by k_extra "DPT") (by k_extra "DPT") fun qH kH td h3 tk3 S3 => ?_
  k_extra "GO"
  refine St.useC3 (by assumption) (pad_spec (by decide) (by decide) (by decide) (.inl (by decide))) hh (by k_extra "DPT") (by k_extra "DPT") fun qH kH v Z' h4 tk4 S4 hs4 ht4 => ?_
  k_extra "GO"
  (repeat' with_reducible k_extra "UNH"); k_extra "RETC"
  have e1 : Builtin.bitAnd 12 (1 * 2 ^ Int.toNat 4 - 1) = 12 := by decide +kernel
  have e2 : Builtin.bitAnd 5 (1 * 2 ^ Int.toNat 4 - 1) = 5 := by decide +kernel
  rw [e1, e2] at ht4
  exact ⟨rfl, (hs.trans hs4).tl, .tup mem_hd IsT.of (.cons ht4.tl (.cons (.bool _) (.cons (.bool _) .nil)))⟩

noncomputable abbrev nsPri : List Str := ["self", "kind", "at", "vec", "signed", "sized", "text", "name", "inner"]
theorem Hd.pos {P : TokD → Prop} {ts} (h : Hd P ts) : 0 < ts.length := by obtain ⟨t, r, rfl, _⟩ := h; simp
theorem bad_facts : ∀ kv ∈ badToks, (kv.1 == ("num" : Str)) = false ∧ (kv.1 == ("str" : Str)) = false ∧ (kv.1 == ("sys" : Str)) = false ∧ (kv.1 == ("id" : Str)) = false ∧ (kv.2 == ("(" : Str)) = false ∧ (kv.2 == ("{" : Str)) = false := by decide +kernel
set_option maxHeartbeats 8000000 in
theorem pri_spec {w : World} {X : XP} {D U : Nat} (IA : ArgsX w X D U) (IN : NamX w X D U) (IC : CalX w X D U) (IM : MtmX w X D U) (IB : BracesX w X D U) (hD : 40 ≤ D) (hU : 600 ≤ U) : PriX w X D U := by
  intro p q ts d e rest Z hg hp hr
  have h1 := hp.pi
  have hr0 := hr.pos
  obtain ⟨tk0, rk0, e0, hat⟩ := hp.hd
  have hp0 := hp
  rw [e0] at hp0
  obtain ⟨dx, t1, t2', t3, kt, vv, ta, m1, m2, m3⟩ := hp0.tok.1.ex
  refine CallX.of (ns := nsPri) (gs := ["numeral"]) (rest := ["kind", "at", "vec", "signed", "sized", "text", "name", "inner"]) (binds := [("self", .ref p.pa)]) (vs := [some (.ref p.pa), none, none, none, none, none, none, none, none]) (by k_is) (by k_is) (fun u_ u_ => BindsTo.of_eq rfl) (Ev.of (by decide)) (by decide) rfl rfl ?_
  intro g A ge dr os base outer keep hh hd hu hkeep L' h₁ tk₁ E V S XX pass
  k_extra "GO"
  cases hg with
  | @num1 i at_ hi0 hi1 =>
    simp only [List.cons_append, List.nil_append] at hp e0
    obtain ⟨rfl, rfl⟩ := List.cons.inj e0
    obtain ⟨xa, xo, xs, rfl, xm, xi, xl⟩ := id m3.tup_inv
    k_extra "GO"
    refine St.useC3 (by assumption) (num1_spec hi0 hi1 m3) hh (by k_extra "DPT") (by k_extra "DPT") fun qH kH v Z3 h3 tk3 S3 hs3 ht3 => ?_
    have hp3 := hp.up hs3
    have h3' := hp3.pi
    obtain ⟨ya, yo, y1, y2, y3, rfl, ym, yi, yh1, yh2, yh3⟩ := Tr.tN3 ht3
    k_extra "GO"
    k_extra "W7"; intro q6 h6 tk6 S6 hp6
    k_extra "GO"
    refine RetX.st rfl (by assumption) ⟨q6, rfl, hp6.up (Sub.tl .rfl), hs3.tl, .tup mem_hd IsT.of (.cons (.str _ _) (.cons ?_ (.cons yh1.tl (.cons yh2.tl (.cons yh3.tl .nil)))))⟩
    rw [hat]; exact .int _ _
  | @num2 at_ =>
    simp only [List.cons_append, List.nil_append] at hp e0
    obtain ⟨rfl, rfl⟩ := List.cons.inj e0
    obtain ⟨xa, xo, xs, rfl, xm, xi, xl⟩ := id m3.tup_inv
    k_extra "GO"
    refine St.useC3 (by assumption) (num2_spec m3) hh (by k_extra "DPT") (by k_extra "DPT") fun qH kH v Z3 h3 tk3 S3 hs3 ht3 => ?_
    have hp3 := hp.up hs3
    have h3' := hp3.pi
    obtain ⟨ya, yo, y1, y2, y3, rfl, ym, yi, yh1, yh2, yh3⟩ := Tr.tN3 ht3
    k_extra "GO"
    k_extra "W7"; intro q6 h6 tk6 S6 hp6
    k_extra "GO"
    refine RetX.st rfl (by assumption) ⟨q6, rfl, hp6.up (Sub.tl .rfl), hs3.tl, .tup mem_hd IsT.of (.cons (.str _ _) (.cons ?_ (.cons yh1.tl (.cons yh2.tl (.cons yh3.tl .nil)))))⟩
    rw [hat]; exact .int _ _
  | @str at_ =>
    simp only [List.cons_append, List.nil_append] at hp e0
    obtain ⟨rfl, rfl⟩ := List.cons.inj e0
    obtain ⟨vt, rfl⟩ := m3.str_inv
    k_extra "GO"
    k_extra "W7"; intro q6 h6 tk6 S6 hp6
    k_extra "GO"
    refine RetX.st rfl (by assumption) ⟨q6, rfl, hp6.up (Sub.tl .rfl), Sub.tl .rfl, .tup mem_hd IsT.of (.cons (.str _ _) (.cons ?_ (.cons (.str _ _) .nil)))⟩
    rw [hat]; exact .int _ _
  | @sys0 at_ =>
    simp only [List.cons_append, List.nil_append] at hp e0
    obtain ⟨rfl, rfl⟩ := List.cons.inj e0
    obtain ⟨t0, r0, rfl, hf⟩ := hr.ex
    obtain ⟨vt, rfl⟩ := m3.str_inv
    k_extra "GO"
    k_extra "W7"; intro q6 h6 tk6 S6 hp6
    have h6' := hp6.pi
    k_extra "GO"
    refine St.isop (by assumption) hp6 hf.s hh (by k_extra "DPT") (by k_extra "DPT") fun h7 tk7 S7 => ?_
    rw [hf.np]
    k_extra "GO"
    refine RetX.st rfl (by assumption) ⟨q6, rfl, hp6.up (Sub.tl (Sub.tl .rfl)), Sub.tl (Sub.tl .rfl), .tup mem_hd IsT.of (.cons (.str _ _) (.cons ?_ (.cons (.str _ _) (.cons (.tup (mem_tl mem_hd) IsT.of .nil) .nil))))⟩
    rw [hat]; exact .int _ _
  | @sys at_ a a' ts2 ds _ hga =>
    simp only [List.cons_append, List.append_assoc, List.nil_append] at hp e0
    obtain ⟨rfl, rfl⟩ := List.cons.inj e0
    have hob : opB (op "(" a) "(" = true := by rw [opB_op]; simp
    obtain ⟨vt, rfl⟩ := m3.str_inv
    k_extra "GO"
    k_extra "W7"; intro q6 h6 tk6 S6 hp6
    have h6' := hp6.pi
    k_extra "GO"
    refine St.isop (by assumption) hp6 .op hh (by k_extra "DPT") (by k_extra "DPT") fun h7 tk7 S7 => ?_
    k_extra "GO"
    refine St.useP (by assumption) XX hkeep .rfl (IA p q6 _ _ _ _ _ _ _ hga hp6 hr0) hh (by k_extra "DPT") (by k_extra "DPT") (fun u_ h => h) fun hn qH kH v q8 Z8 h8 tk8 S8 hp8 hs8 ht8 => ?_
    k_extra "GO"
    refine RetX.st hn (by assumption) ⟨q8, rfl, hp8.up (Sub.tl .rfl), hs8.tl, .tup mem_hd IsT.of (.cons (.str _ _) (.cons ?_ (.cons (.str _ _) (.cons ht8.tl .nil))))⟩
    rw [hat]; exact .int _ _
  | @call at_ a a' ts2 ds _ hga =>
    simp only [List.cons_append, List.append_assoc, List.nil_append] at hp e0
    obtain ⟨rfl, rfl⟩ := List.cons.inj e0
    obtain ⟨vt, rfl⟩ := m3.str_inv
    k_extra "GO"
    refine St.useP (by assumption) XX hkeep .rfl (IC p q _ _ _ _ _ _ _ _ hga hp hr0) hh (by k_extra "DPT") (by k_extra "DPT") (fun u_ h => h) fun hn qH kH v q8 Z8 h8 tk8 S8 hp8 hs8 ht8 => ?_
    k_extra "GO"
    exact RetX.st hn (by assumption) ⟨q8, rfl, hp8, hs8, ht8⟩
  | @ref at_ nm ts2 _ _ hnm hgt =>
    simp only [List.cons_append] at hp e0
    obtain ⟨rfl, rfl⟩ := List.cons.inj e0
    obtain ⟨vt, rfl⟩ := m3.str_inv
    k_extra "GO"
    refine St.useP (by assumption) XX hkeep .rfl (IN p q _ _ _ _ _ _ _ hgt hp hr) hh (by k_extra "DPT") (by k_extra "DPT") (fun u_ h => h) fun hn qH kH v q8 Z8 h8 tk8 S8 hp8 hs8 ht8 => ?_
    k_extra "GO"
    exact RetX.st hn (by assumption) ⟨q8, rfl, hp8, hs8, ht8⟩
  | @par a a' ts2 _ _ hx =>
    simp only [List.cons_append, List.append_assoc, List.nil_append] at hp e0
    obtain ⟨rfl, rfl⟩ := List.cons.inj e0
    obtain ⟨vt, rfl⟩ := m3.str_inv
    k_extra "GO"
    refine St.accI (by assumption) hp (by simp only [List.length_append, List.length_cons]; (first | lia | omega)) hh (by k_extra "DPT") (by k_extra "DPT") fun q5 h5 tk5 S5 hp5 => ?_
    have h5' := hp5.pi
    k_extra "GO"
    refine St.useP (by assumption) XX hkeep .rfl ((IM p q5 a' ts2 d e rest _ hx hr0).1 hp5) hh (by k_extra "DPT") (by k_extra "DPT") (fun u_ h => h) fun hn qH kH v q8 Z8 h8 tk8 S8 hp8 hs8 ht8 => ?_
    have h8' := hp8.pi
    k_extra "GO"
    refine St.expH (by assumption) hp8 hr0 hh (by k_extra "DPT") (by k_extra "DPT") fun q9 h9 tk9 S9 hp9 => ?_
    k_extra "GO"
    exact RetX.st hn (by assumption) ⟨q9, rfl, hp9, hs8, ht8⟩
  | @mtm a a1 a2 a3 ts1 d1 e1 ts2 d2 e2 ts3 d3 e3 hx1 hx2 hx3 =>
    simp only [List.cons_append, List.append_assoc, List.nil_append] at hp e0
    obtain ⟨rfl, rfl⟩ := List.cons.inj e0
    obtain ⟨vt, rfl⟩ := m3.str_inv
    k_extra "GO"
    refine St.accI (by assumption) hp (by simp only [List.length_append, List.length_cons]; (first | lia | omega)) hh (by k_extra "DPT") (by k_extra "DPT") fun q5 h5 tk5 S5 hp5 => ?_
    have h5' := hp5.pi
    k_extra "GO"
    refine St.useP (by assumption) XX hkeep .rfl ((IM p q5 a3 ts1 d1 e1 rest _ hx1 hr0).2 a1 a2 _ _ _ _ _ _ hx2 hx3 hp5) hh (by k_extra "DPT") (by k_extra "DPT") (fun u_ h => h) fun hn qH kH v q8 Z8 h8 tk8 S8 hp8 hs8 ht8 => ?_
    have h8' := hp8.pi
    k_extra "GO"
    refine St.expH (by assumption) hp8 hr0 hh (by k_extra "DPT") (by k_extra "DPT") fun q9 h9 tk9 S9 hp9 => ?_
    k_extra "GO"
    exact RetX.st hn (by assumption) ⟨q9, rfl, hp9, hs8, ht8⟩
  | @cat a a' ts2 ds _ hgi =>
    simp only [List.cons_append, List.append_assoc, List.nil_append] at hp e0
    obtain ⟨rfl, rfl⟩ := List.cons.inj e0
    have hob : opB (op "{" a) "{" = true := by rw [opB_op]; simp
    obtain ⟨vt, rfl⟩ := m3.str_inv
    k_extra "GO"
    refine St.accN (by assumption) hp .op (by rw [opB_op]; decide +kernel) hh (by k_extra "DPT") (by k_extra "DPT") fun h5 tk5 S5 => ?_
    k_extra "GO"
    refine St.isop (by assumption) hp .op hh (by k_extra "DPT") (by k_extra "DPT") fun h7 tk7 S7 => ?_
    k_extra "GO"
    refine St.useP (by assumption) XX hkeep .rfl ((IB p q a rest _ hr0).1 _ _ _ _ hgi hp) hh (by k_extra "DPT") (by k_extra "DPT") (fun u_ h => h) fun hn qH kH v q8 Z8 h8 tk8 S8 hp8 hs8 ht8 => ?_
    k_extra "GO"
    exact RetX.st hn (by assumption) ⟨q8, rfl, hp8, hs8, ht8⟩
  | @rep a a1 a2 a3 ts2 d2 e2 ts3 ds e3 hx hgi =>
    simp only [List.cons_append, List.append_assoc, List.nil_append] at hp e0
    obtain ⟨rfl, rfl⟩ := List.cons.inj e0
    have hob : opB (op "{" a) "{" = true := by rw [opB_op]; simp
    obtain ⟨vt, rfl⟩ := m3.str_inv
    k_extra "GO"
    refine St.accN (by assumption) hp .op (by rw [opB_op]; decide +kernel) hh (by k_extra "DPT") (by k_extra "DPT") fun h5 tk5 S5 => ?_
    k_extra "GO"
    refine St.isop (by assumption) hp .op hh (by k_extra "DPT") (by k_extra "DPT") fun h7 tk7 S7 => ?_
    k_extra "GO"
    refine St.useP (by assumption) XX hkeep .rfl ((IB p q a rest _ hr0).2 _ _ _ _ _ _ _ _ _ hx hgi hp) hh (by k_extra "DPT") (by k_extra "DPT") (fun u_ h => h) fun hn qH kH v q8 Z8 h8 tk8 S8 hp8 hs8 ht8 => ?_
    k_extra "GO"
    exact RetX.st hn (by assumption) ⟨q8, rfl, hp8, hs8, ht8⟩
  | @bad k y at_ _ hb =>
    simp only [List.cons_append, List.nil_append] at hp e0
    obtain ⟨rfl, rfl⟩ := List.cons.inj e0
    obtain ⟨f1, f2, f3, f4, f5, f6⟩ := bad_facts _ hb
    dsimp only at f1 f2 f3 f4 f5 f6
    have hos : OpStr (⟨k, .str y, at_⟩ : TokD) := fun u_ => ⟨y, rfl⟩
    have hb1 : opB (⟨k, .str y, at_⟩ : TokD) "(" = false := by simp only [opB, f5, Bool.and_false]
    have hb2 : opB (⟨k, .str y, at_⟩ : TokD) "{" = false := by simp only [opB, f6, Bool.and_false]
    obtain ⟨vt, rfl⟩ := m3.str_inv
    k_extra "GO"
    refine St.accN (by assumption) hp hos hb1 hh (by k_extra "DPT") (by k_extra "DPT") fun h5 tk5 S5 => ?_
    k_extra "GO"
    refine St.isop (by assumption) hp hos hh (by k_extra "DPT") (by k_extra "DPT") fun h7 tk7 S7 => ?_
    k_extra "GO"
    refine St.useX (by assumption) XX hkeep .rfl (fail_spec hp) hh (by k_extra "DPT") (by k_extra "DPT") (fun u_ h => by rw [← h, hat]) fun hn => nomatch hn

theorem GX.ne : ∀ n ts d e, GX n ts d e → Hd (fun t => OpStr t ∧ opB t ")" = false) ts
  | 0, _, _, _, h => h.elim
  | _ + 1, _, _, _, h => GE.hdc h
/-- the parser's contract: expressions of the grammar, n deep -/
theorem parse_spec {w : World} : ∀ n, XSpec w (GX n) (40 + 20 * n) (600 + 200 * n)
  | 0 => fun u_ u_ u_ u_ u_ u_ u_ h => h.elim
  | n + 1 => by
    have IH := parse_spec (w := w) n
    have hD : 40 ≤ 40 + 20 * n := by (first | lia | omega)
    have hU : 600 ≤ 600 + 200 * n := by (first | lia | omega)
    have IL := listx_spec IH hD hU
    have IA := args_spec IL (GX.ne n) hD hU
    have I1 := brix_spec IH hD hU
    have I2 := brrg_spec IH hD hU
    have IR := ref_spec I1 I2 (selx_spec I1 I2 hD hU) hD hU
    have IP := pri_spec IA (nam_spec IR hD hU) (cal_spec IR IA hD hU) (mtm_spec IH hD hU) (braces_spec IH IL hD hU) hD hU
    exact pexpr_spec (binx_spec (unx_spec IP hD hU) hD hU 11) IH hD hU

theorem row_mk {w : World} : makesIn (Hd.KF w.params) 99 = true ∧ findIn (Hd.KF w.params) (.ref 99) "__init__" = some (some (.ref 89)) ∧ isFn (Hd.KF w.params) (.ref 89) = true := ⟨by k_is, by k_is, by k_is⟩
theorem par_mk {w : World} : makesIn (Hd.KF w.params) 431 = true ∧ findIn (Hd.KF w.params) (.ref 431) "__init__" = some (some (.ref 117)) ∧ isFn (Hd.KF w.params) (.ref 117) = true := ⟨by k_is, by k_is, by k_is⟩
noncomputable abbrev rowO (w : World) (u1 u2 : Tok) (tv : Value) (pl : Int) (tp : Tok) : Obj :=
  dictOf [⟨PyData.keyHash w.params "tokens", .str "tokens" u1, tv⟩, ⟨PyData.keyHash w.params "place", .str "place" u2, .int pl tp⟩] 2
set_option maxHeartbeats 4000000 in
theorem row_init {w : World} {x dx : Addr} {a : Value} {R Z : Led} (hx : (x, instObj 99 dx) ∈ Z) :
    CallC w 89 [.ref x, a] 1 10 ((dx, dictOf [] 0) :: R) Z (fun v R' Z' => v = .none ∧ ∃ u1 u2 tp, R' = (dx, rowO w u1 u2 a 0 tp) :: R ∧ Z' = Z) := by
  refine CallC.of (ns := ["self", "tokens"]) (gs := []) (rest := []) (binds := [("self", .ref x), ("tokens", a)]) (vs := [some (.ref x), some a]) (by k_is) (by k_is) (fun u_ u_ => BindsTo.of_eq rfl) (Ev.of (by decide)) (by decide) rfl rfl ?_
  intro g A ge dr os hh hd hu L' h₁ tk E V S pE
  k_extra "GO"
  (repeat' with_reducible k_extra "UNH"); k_extra "RETC"
  exact ⟨rfl, _, _, _, rfl, rfl⟩
set_option maxHeartbeats 4000000 in
theorem next1_spec {w : World} {ro rdx T a : Addr} {u1 u2 tp : Tok} {R Z : Led} {toks : List Value} {tn : Nat} (h1 : (ro, instObj 99 rdx) ∈ Z) (h2 : (T, listOf toks.toArray tn) ∈ Z) (h3 : toks[0]? = some (.ref a)) (hz : toks.length ≤ 1000000) :
    CallC w 96 [.ref ro] 1 10 ((rdx, rowO w u1 u2 (.ref T) 0 tp) :: R) Z (fun v R' Z' => ∃ tp', An3 (v = .ref a) (R' = (rdx, rowO w u1 u2 (.ref T) 1 tp') :: R) (Z' = Z)) := by
  have h3' : toks[(0 : Int).toNat]? = some (.ref a) := h3
  have hlt : 0 < toks.length := by rcases toks with _ | ⟨_, _⟩; cases h3; simp
  refine CallC.of (ns := ["self", "token"]) (gs := ["len", "Token"]) (rest := ["token"]) (binds := [("self", .ref ro)]) (vs := [some (.ref ro), none]) (by k_is) (by k_is) (fun u_ u_ => BindsTo.of_eq rfl) (Ev.of (by decide)) (by decide) rfl rfl ?_
  intro g A ge dr os hh hd hu L' h₁ tk E V S pE
  k_extra "GO"
  refine ite_dec (fun hc => ?_) (fun hc => ?_)
  · (first | lia | omega)
  k_extra "GO"
  (repeat' with_reducible k_extra "UNH"); k_extra "RETC"
  exact ⟨_, rfl, rfl, rfl⟩
theorem perm3 {α : Type} (a b c : α) (l : List α) : (a :: b :: c :: l).Perm (c :: b :: a :: l) :=
  ((List.Perm.swap c b l).cons a).trans ((List.Perm.swap c a (b :: l)).trans ((List.Perm.swap b a l).cons c))
theorem St.nx1 {w : World} {A : Around} {E : Value → Shared → Prop} {g : Heap} {L : Addr} {ns : List Str} {vs : List (Option Value)} {R Z : Led} {h : Heap} {ge : Array GenState} {dr : Drawn} {tk : Nat} {os : OsState} {e0 : Env} {Q : Value → Shared → Prop}
    {ro rdx T a ah dx : Addr} {ao do_ : Obj} {u1 u2 tp : Tok} {toks : List Value} {tn : Nat} (S : St w g L ns vs [(ah, ao)] ((dx, do_) :: (rdx, rowO w u1 u2 (.ref T) 0 tp) :: R) Z h)
    (h1 : (ro, instObj 99 rdx) ∈ Z) (h2 : (T, listOf toks.toArray tn) ∈ Z) (h3 : toks[0]? = some (.ref a)) (hz : toks.length ≤ 1000000) (hh : A.handled = none) (hd : A.depth + 5 < recursionLimit) (hu : A.units + 50 < cLine)
    (k : ∀ tp' h' tk', St w g L ns vs [] ((dx, do_) :: (rdx, rowO w u1 u2 (.ref T) 1 tp') :: R) ((ah, ao) :: Z) h' → Q (.ref a) ⟨h', ge, dr, tk', os⟩) :
    wpAny (model PR w) (A.deeper e0) (call (.ref 96) [.ref ro]) Q E ⟨h, ge, dr, tk, os⟩ := by
  have S1 : St w g L ns vs [] ((rdx, rowO w u1 u2 (.ref T) 0 tp) :: (dx, do_) :: R) ((ah, ao) :: Z) h := S.perm (by
    simp only [List.nil_append, List.cons_append]
    exact ((List.perm_middle.cons _).cons _).trans (perm3 _ _ _ _))
  refine S1.useH (next1_spec (.tail _ h1) (.tail _ h2) h3 hz) hh (by k_extra "DPT") (by k_extra "DPT") fun qH kH v R' Z' h4 tk4 S4 P => ?_
  obtain ⟨tp', rfl, rfl, rfl⟩ := P
  with_reducible k_extra "UNH"
  exact k tp' _ _ (S4.perm (by
    simp only [List.nil_append, List.cons_append]
    exact List.Perm.swap _ _ _))
noncomputable abbrev parO (w : World) (t1 t2 t3 t4 : Tok) (ro ah a : Addr) (at_ : Int) (ta : Tok) : Obj :=
  dictOf [⟨PyData.keyHash w.params "source", .str "source" t1, .ref ro⟩, ⟨PyData.keyHash w.params "ahead", .str "ahead" t2, .ref ah⟩, ⟨PyData.keyHash w.params "token", .str "token" t3, .ref a⟩, ⟨PyData.keyHash w.params "at", .str "at" t4, .int at_ ta⟩] 4
set_option maxHeartbeats 4000000 in
theorem cur_init {w : World} {x dx ro rdx T a : Addr} {u1 u2 tp : Tok} {R Z : Led} {toks : List Value} {tn : Nat} {t : TokD} (hx : (x, instObj 431 dx) ∈ Z) (h1 : (ro, instObj 99 rdx) ∈ Z) (h2 : (T, listOf toks.toArray tn) ∈ Z) (h3 : toks[0]? = some (.ref a)) (hz : toks.length ≤ 1000000) (ht : TokAt w Z a t) :
    CallC w 117 [.ref x, .ref ro] 5 60 ((dx, dictOf [] 0) :: (rdx, rowO w u1 u2 (.ref T) 0 tp) :: R) Z (fun v R' Z' => v = .none ∧ Ex8 fun t1 t2 t3 t4 ah an ta tp' => R' = (dx, parO w t1 t2 t3 t4 ro ah a t.at_ ta) :: (rdx, rowO w u1 u2 (.ref T) 1 tp') :: R ∧ Z' = (ah, listOf ([] : List Value).toArray an) :: Z) := by
  obtain ⟨dx', s1, s2, s3, kt, vv, ta, m1, m2, m3⟩ := ht.ex
  refine CallC.of (ns := ["self", "source"]) (gs := []) (rest := []) (binds := [("self", .ref x), ("source", .ref ro)]) (vs := [some (.ref x), some (.ref ro)]) (by k_is) (by k_is) (fun u_ u_ => BindsTo.of_eq rfl) (Ev.of (by decide)) (by decide) rfl rfl ?_
  intro g A ge dr os hh hd hu L' h₁ tk E V S pE
  k_extra "GO"
  refine St.nx1 (by assumption) h1 h2 h3 hz hh (by k_extra "DPT") (by k_extra "DPT") fun tp' h4 tk4 S4 => ?_
  k_extra "GO"
  (repeat' with_reducible k_extra "UNH"); k_extra "RETC"
  exact ⟨rfl, _, _, _, _, _, _, _, _, rfl, rfl⟩
theorem new_of {w : World} {A : Around} {E : Value → Shared → Prop} {g : Heap} {L : Addr} {ns : List Str} {vs : List (Option Value)} {own R Z : Led} {h : Heap} {ge : Array GenState} {dr : Drawn} {tk : Nat} {os : OsState} {Q : Value → Shared → Prop}
    {C f : Addr} {args : List Value} {d u : Nat} {Post : Addr → Addr → Led → Led → Prop} (S : St w g L ns vs own R Z h) (mk : makesIn (Hd.KF w.params) C = true ∧ findIn (Hd.KF w.params) (.ref C) "__init__" = some (some (.ref f)) ∧ isFn (Hd.KF w.params) (.ref f) = true)
    (spec : ∀ x dx, CallC w f (.ref x :: args) d u ((dx, dictOf [] 0) :: R) ((x, instObj C dx) :: Z) (fun v R' Z' => v = .none ∧ Post x dx R' Z')) (hh : A.handled = none) (hd : A.depth + 2 + d < recursionLimit) (hu : A.units + 2 + u < cLine)
    (k1 : ∀ x dx R' Z' h' tk', St w g L ns vs own R' Z' h' → Post x dx R' Z' → Q (.ref x) ⟨h', ge, dr, tk', os⟩) :
    wpAny (model PR w) A (call (.ref C) args) Q E ⟨h, ge, dr, tk, os⟩ := by
  refine call_cls (s := ⟨h, ge, dr, tk, os⟩) S.F S.gx.X S.N mk.1 mk.2.1 mk.2.2 fun x dx h' F' N' l1 l2 => ?_
  have S0 : St w g L ns vs ((x, instObj C dx) :: (dx, dictOf [] 0) :: own) R Z h' := by
    refine ⟨S.gx, F', N', ?_, S.nn⟩
    simp only [List.cons_append, List.map_cons]
    refine List.nodup_cons.mpr ⟨fun hm => ?_, List.nodup_cons.mpr ⟨fun hm => ?_, S.nd⟩⟩
    · rcases List.mem_cons.mp hm with e | hm
      · exact absurd e (Nat.ne_of_gt l2)
      · obtain ⟨p, hp, e⟩ := List.mem_map.mp hm
        have := l1 p hp
        rw [e] at this
        exact absurd (Nat.lt_trans this l2) (Nat.lt_irrefl _)
    · obtain ⟨p, hp, e⟩ := List.mem_map.mp hm
      have := l1 p hp
      rw [e] at this
      exact Nat.lt_irrefl _ this
  have S1 : St w g L ns vs own ((dx, dictOf [] 0) :: R) ((x, instObj C dx) :: Z) h' := S0.perm (by
    simp only [List.cons_append]
    refine List.Perm.trans ?_ (List.Perm.swap _ _ _)
    refine List.perm_middle.trans (List.Perm.cons _ ?_)
    rw [← List.append_assoc, ← List.append_assoc]
    exact List.perm_middle)
  refine S1.useC (s := ⟨h', ge, dr, tk, os⟩) (spec x dx) hh ?_ ?_ fun v R' Z' h2 tk2 S2 P => ?_
  · show A.depth + _ + d < _
    have : (Code.builtin "type.__call__" ⟨.ref C :: args, []⟩).weight = 1 := rfl
    rw [this]; (first | lia | omega)
  · show A.units + _ + u < _
    have : (Code.builtin "type.__call__" ⟨.ref C :: args, []⟩).cUnits = 1 := rfl
    rw [this]; (first | lia | omega)
  · exact ⟨P.1, k1 x dx R' Z' h2 tk2 S2 P.2⟩

noncomputable def CallCB (w : World) (f : Addr) (args : List Value) (d u : Nat) (Base : Heap → Prop) (R Z : Led) (Post : Value → Led → Led → Prop) : Prop :=
  ∀ (g : Heap) (A : Around) (s : Shared) (R0 : Result → Shared → Prop), Base g → Gx w g → A.handled = none → A.depth + d < recursionLimit → A.units + u < cLine → Bk g R Z s.heap →
    (∀ v R' Z' h' tk', Bk g R' Z' h' → Post v R' Z' → R0 (.ok (.ret v)) { s with heap := h', toks := tk' }) →
    codeAny (model PR w) A (.call (.ref f) ⟨args, []⟩) R0 s
section
variable {w : World} {g : Heap} {L : Addr} {ns gs : List Str} {vs vs' : List (Option Value)} {own R Z : Led} {A : Around} {E : Value → Shared → Prop} {env : Env} {h : Heap} {ge : Array GenState} {dr : Drawn} {tk : Nat} {os : OsState}
theorem St.cutBase {l : Addr} {o : Obj} (S : St w g L ns vs own R Z h) (hl : g.get? l = some o) : (hideAll h ((R ++ Z).map (·.1))).get? l = some o :=
  hideAll_get _ (S.F.keep l o hl) fun hm => by
    obtain ⟨p, hp, rfl⟩ := List.mem_map.mp hm
    rw [(S.bk.res p hp).2] at hl; cases hl
theorem St.useB {f : Addr} {args : List Value} {d u : Nat} {Post : Value → Led → Led → Prop} {Q : Value → Shared → Prop} {l : Addr} {o : Obj}
    (S : St w g L ns vs own R Z h) (hl : g.get? l = some o) (C : CallCB w f args d u (fun g => g.get? l = some o) R Z Post) (hh : A.handled = none) (hd : A.depth + d < recursionLimit) (hu : A.units + u < cLine)
    (k : ∀ v R' Z' h' tk', St w g L ns vs own R' Z' h' → Post v R' Z' → Q v ⟨h', ge, dr, tk', os⟩) : wpAny (model PR w) A (call (.ref f) args) Q E ⟨h, ge, dr, tk, os⟩ := by
  have hb := S.cutBase hl
  obtain ⟨G, B⟩ := S.cut
  exact wpAny_call (C _ A ⟨h, ge, dr, tk, os⟩ _ hb G hh hd hu B fun v R' Z' h' tk' B' P => k v R' Z' h' tk' (S.back B') P)
theorem sl_uptoB {value slice : Expr} {l : Addr} {o : Obj} {us : List Value} {b : Int} {u : Tok} {Q : Value → Shared → Prop} (S : St w g L ns vs own R Z h) (hl : g.get? l = some o) (i : IsL o us) (hz : us.length ≤ 1000000) (hb : 0 ≤ b)
    (k1 : ∀ D h', St w g L ns vs ((D, listOf (us.take b.toNat).toArray 0) :: own) R Z h' → Q (.ref D) ⟨h', ge, dr, tk, os⟩)
    (hs : subscripted slice false (.ref l) (.ref h.objs.size) = operate [.ref h.objs.size, .ref l] (getItem (.ref l) (.ref h.objs.size)))
    (ht : ∀ r, letTemporaryGo value (.ref l) r = pure ()) :
    wpAny (model PR w) A (subscriptTail value slice (.ref l) (.ref h.objs.size)) Q E ⟨h.push { cls := .type "slice", data := .fields #[.none, .int b u, .none] }, ge, dr, tk, os⟩ := by
  have hL : h.IsList l us.toArray := ⟨_, S.F.keep l o hl, i.c, i.d⟩
  refine slice_listK (s := ⟨h, ge, dr, tk, os⟩) hL .none (.int _ _) ?_ hs ht (by rw [List.size_toArray, sizeLine_eq]; (first | lia | omega))
  have he := slicePick_upto' us.toArray b.toNat
  rw [Int.toNat_of_nonneg hb] at he
  rw [he]
  have S1 := S.push { cls := .type "slice", data := .fields #[.none, .int b u, .none] } rfl
  have S2 := S1.push (listOf (us.take b.toNat).toArray 0) rfl
  have e : (h.push { cls := .type "slice", data := .fields #[.none, .int b u, .none] }).objs.size = h.objs.size + 1 := Heap.size_push ..
  rw [e] at S2
  exact k1 _ _ (S2.drop (.cons₂ _ (.cons _ (List.Sublist.refl _))))
theorem int_i {n : Int} {u : Tok} {Q : Value → Shared → Prop} {s : Shared} (k1 : Q (.int n u) s) : wpAny (model PR w) A (call (.type "int") [.int n u]) Q E s := call_int_int k1
theorem abs_i {a : Int} {t : Tok} {Q : Value → Shared → Prop} (k1 : ∀ t' tk' x, x = (if a < 0 then -a else a) → 0 ≤ x → Q (.int x t') ⟨h, ge, dr, tk', os⟩) : wpAny (model PR w) A (call (.builtin "abs") [.int a t]) Q E ⟨h, ge, dr, tk, os⟩ :=
  call_abs_int fun u tk => k1 u tk _ rfl (by split <;> (first | lia | omega))
theorem i_fdiv {a b : Int} {t u : Tok} {Q : Value → Shared → Prop} (hb : b ≠ 0 ∧ b.natAbs < 1073741824) (k1 : ∀ t' tk', Q (.int (a.fdiv b) t') ⟨h, ge, dr, tk', os⟩) : wpAny (model PR w) A (inplaceOp .FloorDiv (.int a t) (.int b u)) Q E ⟨h, ge, dr, tk, os⟩ :=
  ifloordiv_int hb.1 (k1 _ _) (.inl (PyProof.noPylong_small hb.2))
theorem o_pow {a n : Int} {t u : Tok} {Q : Value → Shared → Prop} (h0 : 0 ≤ n ∧ n ≤ 1000000 ∧ a.natAbs < 2 ^ 64) (k1 : ∀ t' tk', Q (.int (a ^ n.toNat) t') ⟨h, ge, dr, tk', os⟩) : wpAny (model PR w) A (binaryOp .Pow (.int a t) (.int n u)) Q E ⟨h, ge, dr, tk, os⟩ :=
  pow_int_small h0.1 h0.2.1 h0.2.2 (k1 _ _)
end

theorem ksetF : True := by
  k_with "qVOF" => first
    | (refine int_i ?_)
    | (refine abs_i ?_; intro ie1 ie2 ie3 ie4 ie5)
    | (focus (refine' i_fdiv ?_ ?_; rotate_right 2; k_dflt decide); intro ib1 ib2)
    | (focus (refine' o_pow ?_ ?_; rotate_right 2; k_dflt decide); intro ib1 ib2)
  k_with "qDF" => (goal_has PySem.wpAny; first
    | ((fail_if_success fail_if_success refine tyF ?_); first | k_extra "qFLA" | k_extra "qFLB")
    | ((fail_if_success fail_if_success refine tyE ?_); first | k_extra "qVEa" | k_extra "qVES" | k_extra "qVEb" | k_extra "qVEB" | k_extra "qVED" | k_extra "qVEE")
    | ((fail_if_success fail_if_success refine tyV ?_); first | k_extra "qVOA" | k_extra "qVOB" | k_extra "qVOC" | k_extra "qVOE" | k_extra "qVOF")
    | ((fail_if_success fail_if_success refine tyU ?_); first | k_extra "qUNA" | k_extra "qUNB" | k_extra "qUNC")
    | ((fail_if_success fail_if_success refine tyL ?_); first | k_extra "qLIA" | k_extra "qLIB")
    | ((fail_if_success fail_if_success refine tyB ?_); first | k_extra "qBOA" | k_extra "qBOD")
    | ((fail_if_success fail_if_success refine tyP ?_); first | k_extra "qPRA" | k_extra "qPRB" | k_extra "qPRD" | k_extra "qPRE")
    | k_extra "qANDA" | k_extra "BR")
  k_with "GO" => repeat' with_reducible (first | k_extra "qDF" | k_extra "UNH" | k_extra "BR")
  k_with "W5" => with_reducible (first | k_extra "qDF" | k_extra "UNH" | k_extra "BR")
  trivial
section
variable {w : World} {g : Heap} {L : Addr} {ns gs : List Str} {vs vs' : List (Option Value)} {own R Z : Led} {A : Around} {E : Value → Shared → Prop} {env : Env} {h : Heap} {ge : Array GenState} {dr : Drawn} {tk : Nat} {os : OsState}
noncomputable abbrev EndF (w : World) (g : Heap) (L : Addr) (ns : List Str) (ge : Array GenState) (dr : Drawn) (os : OsState) (I : Addr) (ito : Obj) (Inv Fin : List (Option Value) → Led → Led → Led → Prop) (Q : Flow → Shared → Prop) (f : Flow) (s₃ : Shared) : Prop :=
  TurnEnd w g L ns ge dr os I ito Inv (fun f s => match f with | .next => Ex6 fun vs' own' R' Z' h' tk' => An3 (s = ⟨h', ge, dr, tk', os⟩) (St w g L ns vs' own' R' Z' h') (Fin vs' own' R' Z') | f => Q f s) f s₃
theorem EndF.to {I : Addr} {ito : Obj} {Inv Fin : List (Option Value) → Led → Led → Led → Prop} {Q : Flow → Shared → Prop} {f : Flow} {s : Shared} (fin : ∀ vs own R Z h tk, St w g L ns vs own R Z h → Fin vs own R Z → Q .next ⟨h, ge, dr, tk, os⟩)
    (h : EndF w g L ns ge dr os I ito Inv Fin Q f s) : TurnEnd w g L ns ge dr os I ito Inv Q f s := by
  cases f with
  | next => exact h
  | cont => exact h
  | brk => obtain ⟨vs', own', R', Z', h', tk', rfl, S, F⟩ := h; exact fin _ _ _ _ _ _ S F
  | ret v => exact h
theorem for_listF {target : Expr} {body : List Stmt} {l : Addr} {lo : Obj} {items : List Value} {Q : Flow → Shared → Prop} (hE : PassesOwn (model PR w) A env E) (hh : A.handled = none) (S : St w g L ns vs own R Z h)
    (hl : (l, lo) ∈ own ++ (R ++ Z)) (hi : IsL lo items) (ht : ∀ v it, letOwnedTupleGo target it v = pure ())
    (Inv : Nat → List (Option Value) → Led → Led → Led → Prop) (Fin : List (Option Value) → Led → Led → Led → Prop) (hk : ∀ i vs own R Z, Inv i vs own R Z → (l, lo) ∈ own ++ (R ++ Z)) (i0 : Inv 0 vs own R Z)
    (hf : ∀ vs own R Z, Inv items.length vs own R Z → Fin vs own R Z)
    (turn : ∀ i v vs own R Z h tk I ito, St w g L ns vs ((I, ito) :: own) R Z h → items[i]? = some v → Inv i vs own R Z →
      wpAny (model PR w) A (assign target env v) (fun u_ s₂ => wpAny (model PR w) A (execs body env) (EndF w g L ns ge dr os I ito (Inv (i + 1)) Fin Q) E s₂) E ⟨h, ge, dr, tk, os⟩)
    (fin : ∀ vs own R Z h tk, St w g L ns vs own R Z h → Fin vs own R Z → Q .next ⟨h, ge, dr, tk, os⟩) :
    wpAny (model PR w) A (pyIter (.ref l)) (fun it s₂ => codeAny (model PR w) A (.forLoop target it body [] env) (fun r s' => match r with | .ok f => Q f s' | .error e => cameBackBy (model PR w) A env E e s') s₂) E ⟨h, ge, dr, tk, os⟩ :=
  for_list hE hh S hl hi ht Inv hk i0 (fun i v vs own R Z h tk I ito S hv Hv => wpAny_mono (turn i v vs own R Z h tk I ito S hv Hv) (fun u_ u_ h1 => wpAny_mono h1 (fun u_ u_ h2 => EndF.to fin h2) fun u_ u_ e => e) fun u_ u_ e => e)
    fun vs own R Z h tk S Hv => fin vs own R Z h tk S (hf _ _ _ _ Hv)
theorem for_rangeF {target : Expr} {body : List Stmt} {r : Addr} {a b c : Int} {t u v : Tok} {n : Nat} {Q : Flow → Shared → Prop} (hE : PassesOwn (model PR w) A env E) (hh : A.handled = none) (S : St w g L ns vs own R Z h)
    (hr : IsRange h r a b c t u v) (hsm : Builtin.Range.small a b c = true) (hn : Builtin.Range.rangeSize a b c = n) (ht : ∀ v it, letOwnedTupleGo target it v = pure ())
    (Inv : Nat → List (Option Value) → Led → Led → Led → Prop) (Fin : List (Option Value) → Led → Led → Led → Prop) (i0 : Inv 0 vs own R Z) (hf : ∀ vs own R Z, Inv n vs own R Z → Fin vs own R Z)
    (turn : ∀ i t vs own R Z h tk I ito, St w g L ns vs ((I, ito) :: own) R Z h → i < n → Inv i vs own R Z →
      wpAny (model PR w) A (assign target env (.int (a + i * c) t)) (fun u_ s₂ => wpAny (model PR w) A (execs body env) (EndF w g L ns ge dr os I ito (Inv (i + 1)) Fin Q) E s₂) E ⟨h, ge, dr, tk, os⟩)
    (fin : ∀ vs own R Z h tk, St w g L ns vs own R Z h → Fin vs own R Z → Q .next ⟨h, ge, dr, tk, os⟩) :
    wpAny (model PR w) A (pyIter (.ref r)) (fun it s₂ => codeAny (model PR w) A (.forLoop target it body [] env) (fun r s' => match r with | .ok f => Q f s' | .error e => cameBackBy (model PR w) A env E e s') s₂) E ⟨h, ge, dr, tk, os⟩ :=
  for_range hE hh S hr hsm hn ht Inv i0 (fun i t vs own R Z h tk I ito S hv Hv => wpAny_mono (turn i t vs own R Z h tk I ito S hv Hv) (fun u_ u_ h1 => wpAny_mono h1 (fun u_ u_ h2 => EndF.to fin h2) fun u_ u_ e => e) fun u_ u_ e => e)
    fun vs own R Z h tk S Hv => fin vs own R Z h tk S (hf _ _ _ _ Hv)
end
theorem St.res2 {w : World} {g : Heap} {L : Addr} {ns vs} {a b : Addr × Obj} {R Z : Led} {h : Heap} (S : St w g L ns vs [a, b] R Z h) : St w g L ns vs [] (a :: R) (b :: Z) h :=
  S.perm (by simp only [List.nil_append, List.cons_append]; exact List.Perm.cons _ List.perm_middle)
noncomputable abbrev nsPool : List Str := ["script", "figures", "mix", "cell", "big", "rest", "step"]
noncomputable def IntL (us : List Value) : Prop := ∀ v ∈ us, ∃ i t, v = .int i t
theorem IntL.nil : IntL [] := fun u_ h => nomatch h
theorem IntL.snoc {us : List Value} {i : Int} {t : Tok} (h : IntL us) : IntL (us ++ [.int i t]) := fun v hv => by
  rcases List.mem_append.mp hv with q | q
  · exact h v q
  · exact ⟨i, t, List.mem_singleton.mp q⟩
theorem small60 : Builtin.Range.small 0 60 1 = true := by decide +kernel
theorem size60 : Builtin.Range.rangeSize 0 60 1 = ((60 : Nat) : Int) := by decide +kernel
set_option maxHeartbeats 8000000 in
theorem pool_spec {w : World} {l : Addr} {lo : Obj} {its : List Value} {R Z : Led} (hlo : IsL lo its) (hi : IntL its) (hz : its.length ≤ 1000000) :
    CallCB w 440 [.ref l] 5 60 (fun g => g.get? l = some lo) R Z (fun v R' Z' => Ex7 fun P Fg fvs n m ti tm => An5 (v = .ref P) (R' = (P, listOf ([.ref Fg, .int 0 ti, .int m tm] : List Value).toArray 0) :: R) (Z' = (Fg, listOf fvs.toArray n) :: Z) (IntL fvs) (fvs.length ≤ 1000000)) := by
  intro g A s R0 hl G hh hd hu B ret
  obtain ⟨h, ge, dr, tk, os⟩ := s
  refine enter (ns := nsPool) (gs := ["int", "abs", "range", "len"]) (rest := ["figures", "mix", "cell", "big", "rest", "step"]) (binds := [("script", .ref l)]) (vs := [some (.ref l), none, none, none, none, none, none]) G B (by k_is) (by k_is) (by k_extra "DPT") (BindsTo.of_eq rfl) (Ev.of (by decide)) (by decide) rfl rfl ?_
  intro L' h₁ E V S hn hk pE
  try dsimp only
  k_extra "GO"
  refine sl_uptoB (by assumption) hl hlo hz (by decide) (fun D h2 S2 => ?_) (by k_extra "UA") (by intro _; k_extra "UA")
  k_extra "GO"
  refine for_listF (by passes_own) hh (by assumption) (by k_extra "MEM") IsL.of (by intro _ _; k_extra "UA")
    (fun i vs own R' Z' => Ex9 fun us n fa m t a4 a5 a6 a7 => An6 (vs = [some (.ref l), some (.ref fa), some (.int m t), a4, a5, a6, a7]) (own = [(D, listOf (its.take (Int.toNat 40)).toArray 0), (fa, listOf us.toArray n)]) (R' = R) (Z' = Z) (IntL us) (us.length ≤ 60 * i))
    (fun vs own R' Z' => Ex10 fun us n fa m t a4 a5 a6 a7 junk => An6 (vs = [some (.ref l), some (.ref fa), some (.int m t), a4, a5, a6, a7]) (own = junk ++ [(fa, listOf us.toArray n)]) (R' = R) (Z' = Z) (IntL us) (us.length ≤ 1000000))
    (fun i vs own R' Z' q => by obtain ⟨_, _, _, _, _, _, _, _, _, _, rfl, _⟩ := q; exact memO mem_hd) ⟨[], _, _, _, _, _, _, _, _, rfl, rfl, rfl, rfl, IntL.nil, by simp⟩ ?_ ?_ ?_
  · rintro vs own R' Z' ⟨us, n, fa, m, t, a4, a5, a6, a7, rfl, rfl, rfl, rfl, h1, h2⟩
    refine ⟨us, n, fa, m, t, a4, a5, a6, a7, [_], rfl, rfl, rfl, rfl, h1, ?_⟩
    have : (its.take (Int.toNat 40)).length ≤ 40 := by simp [List.length_take]; (first | lia | omega)
    (first | lia | omega)
  · intro i v vs own R' Z' h3 tk3 I ito S3 hv Hv
    refine hideG fun GG hGG => ?_
    obtain ⟨us, n, fa, m, t, a4, a5, a6, a7, rfl, rfl, rfl, rfl, hus, hul⟩ := Hv
    have hvm : v ∈ its := List.mem_of_mem_take (List.mem_of_getElem? hv)
    have hi40 : i < 40 := by
      have := (List.getElem?_eq_some_iff.mp hv).1
      simp only [List.length_take] at this
      have e40 : Int.toNat 40 = 40 := rfl
      (first | lia | omega)
    obtain ⟨cv, ct, rfl⟩ := hi v hvm
    refine hGG ?_; clear hGG GG
    k_extra "GO"
    refine range_call (by assumption) fun r t1 t2 h4 tk4 S4 => ?_
    refine for_rangeF (n := 60) (by passes_own) hh S4 (S4.get (memO mem_hd)) small60 size60 (by intro _ _; k_extra "UA")
      (fun j vs own R2 Z2 => Ex10 fun us' n' x tx m' t' a4 a5 a7 rob => An6 (vs = [some (.ref l), some (.ref fa), some (.int m' t'), a4, a5, some (.int x tx), a7]) (own = [(r, rob), (I, ito), (D, listOf (its.take (Int.toNat 40)).toArray 0), (fa, listOf us'.toArray n')]) (R2 = R') (Z2 = Z') (IntL us') (us'.length ≤ 60 * i + j))
      (fun vs own R2 Z2 => Ex10 fun us' n' x tx m' t' a4 a5 a7 junk => An6 (vs = [some (.ref l), some (.ref fa), some (.int m' t'), a4, a5, some (.int x tx), a7]) (own = junk ++ [(I, ito), (D, listOf (its.take (Int.toNat 40)).toArray 0), (fa, listOf us'.toArray n')]) (R2 = R') (Z2 = Z') (IntL us') (us'.length ≤ 60 * (i + 1)))
      ⟨us, n, _, _, _, _, _, _, _, _, rfl, rfl, rfl, rfl, hus, by (first | lia | omega)⟩ ?_ ?_ ?_
    · rintro vs own R2 Z2 ⟨us', n', x, tx, m', t', b4, b5, b7, rob, rfl, rfl, rfl, rfl, q1, q2⟩
      exact ⟨us', n', x, tx, m', t', b4, b5, b7, [_], rfl, rfl, rfl, rfl, q1, by (first | lia | omega)⟩
    · intro j tj vs own R2 Z2 h5 tk5 J jto S5 hj Hv
      refine hideG fun GG hGG => ?_
      obtain ⟨us', n', x, tx, m', t', b4, b5, b7, rob, rfl, rfl, rfl, rfl, q1, q2⟩ := Hv
      refine hGG ?_; clear hGG GG
      k_extra "GO"
      refine ite_bool (fun hc => ?_) (fun hc => ?_)
      · k_extra "GO"
        refine wpAny_Break ?_
        (repeat' with_reducible k_extra "UNH"); (try dsimp only [EndF, TurnEnd])
        refine ⟨_, _, _, _, _, _, rfl, by assumption, _, _, _, _, _, _, _, _, _, [_, _], rfl, rfl, rfl, rfl, q1.snoc, ?_⟩
        simp only [List.length_append, List.length_cons, List.length_nil]; (first | lia | omega)
      · k_extra "GO"
        (repeat' with_reducible k_extra "UNH"); (try dsimp only [EndF, TurnEnd])
        refine ⟨_, _, _, _, _, _, rfl, by assumption, _, _, _, _, _, _, _, _, _, _, rfl, rfl, rfl, rfl, q1.snoc, ?_⟩
        simp only [List.length_append, List.length_cons, List.length_nil]; (first | lia | omega)
    · rintro vs own R2 Z2 h5 tk5 S5 ⟨us', n', x, tx, m', t', b4, b5, b7, junk, rfl, rfl, rfl, rfl, q1, q2⟩
      have S6 := S5.drop (List.sublist_append_right junk _)
      try dsimp only
      k_extra "GO"
      refine ite_dec (fun hc => ?_) (fun hc => ?_)
      · k_extra "GO"
        refine wpAny_Break ?_
        (repeat' with_reducible k_extra "UNH"); (try dsimp only [EndF, TurnEnd])
        exact ⟨_, _, _, _, _, _, rfl, by assumption, _, _, _, _, _, _, _, _, _, [_, _], rfl, rfl, rfl, rfl, q1, by (first | lia | omega)⟩
      · k_extra "GO"
        (repeat' with_reducible k_extra "UNH"); (try dsimp only [EndF, TurnEnd])
        exact ⟨_, _, _, _, _, _, rfl, by assumption, _, _, _, _, _, _, _, _, _, rfl, rfl, rfl, rfl, q1, q2⟩
  · rintro vs own R' Z' h3 tk3 S3 ⟨us, n, fa, m, t, a4, a5, a6, a7, junk, rfl, rfl, rfl, rfl, hus, hul⟩
    have S4 := S3.drop (List.sublist_append_right junk _)
    try dsimp only
    k_extra "GO"
    try dsimp only
    refine ret _ _ _ _ _ (St.bk (St.res2 (by assumption))) ?_
    exact ⟨_, _, _, _, _, _, _, rfl, rfl, rfl, hus, hul⟩

theorem stored_new {l : List (Str × Value)} {x : Str} {v : Value} (h : x ∉ l.map (·.1)) : stored l x v = l ++ [(x, v)] := by
  unfold stored
  rw [if_neg]
  intro q
  obtain ⟨p, hp, e⟩ := List.any_eq_true.mp q
  exact h (List.mem_map.mpr ⟨p, hp, by simpa using e⟩)
theorem merged_new : ∀ (more l : List (Str × Value)), ((l ++ more).map (·.1)).Nodup → merged l more = l ++ more
  | [], l, _ => by simp [merged]
  | (x, v) :: more, l, h => by
    have h1 : x ∉ l.map (·.1) := fun hm => by
      rw [List.map_append] at h
      exact (List.nodup_append.mp h).2.2 _ hm x (.head _) rfl
    have := merged_new more (l ++ [(x, v)]) (by simpa using h)
    show merged (stored l x v) more = _
    rw [stored_new h1, this]
    simp
section
variable {w : World} {g : Heap} {L : Addr} {ns gs : List Str} {vs vs' : List (Option Value)} {own R Z : Led} {A : Around} {E : Value → Shared → Prop} {env : Env} {h : Heap} {ge : Array GenState} {dr : Drawn} {tk : Nat} {os : OsState}
theorem dct {keys : List (Option Expr)} {values : List Expr} {pos : Pos} {Q : Value → Shared → Prop} (S : St w g L ns vs own R Z h) (hk : strLits keys = true) (hall : (keys.all fun x => x.isSome) = true) (hl : keys.length = values.length) (h0 : keys ≠ []) (hlen : keys.length ≤ 15)
    (k : ∀ d o h', IsD w o [] → (d == sysModules) = false → St w g L ns vs ((d, o) :: own) R Z h' → wpAny (model PR w) A (evalPairs (pairTrees keys values env pos)) (fun vs' s₁ => KdnMade PR w (PySem.strKind PR w) d Q vs' s₁) E ⟨h', ge, dr, tk, os⟩) :
    wpAny (model PR w) A (eval (.Dict keys values pos) env) Q E ⟨h, ge, dr, tk, os⟩ :=
  kdn_str (s := ⟨h, ge, dr, tk, os⟩) hk S.F S.N S.gx.nolimit hall hl h0 hlen fun d h' o F' N' hlt hm hd => k d o h' hd hm ⟨S.gx, F', N', by
    simp only [List.cons_append, List.map_cons]
    refine List.nodup_cons.mpr ⟨fun hx => ?_, S.nd⟩
    obtain ⟨p, hp, e⟩ := List.mem_map.mp hx
    have := hlt p hp
    rw [e] at this
    exact Nat.lt_irrefl _ this, S.nn⟩
theorem dct_end {d : Addr} {o : Obj} {pv : List (Value × Value)} {kvs : List (Str × Value)} {f : Obj → Led} {Q : Value → Shared → Prop} (S : St w g L ns vs own R Z h) (u : Upd1 d o own f) (hd : IsD w o []) (hk : allStrKeys pv = true) (e : strPairs pv = kvs) (nd : (kvs.map (·.1)).Nodup)
    (k : ∀ h' o' tk', IsD w o' kvs → St w g L ns vs (f o') R Z h' → Q (.ref d) ⟨h', ge, dr, tk', os⟩) : KdnMade PR w (PySem.strKind PR w) d Q pv ⟨h, ge, dr, tk, os⟩ := by
  subst e
  refine ⟨strPairs pv, carries_strPairs _ _ _ hk, dictS S (memO u.mem) hd, fun h' hd' hs => ?_⟩
  rw [merged_new _ [] (by simpa using nd)] at hd'
  obtain ⟨o', ho, hD⟩ := Heap.dictOf_iff.mp hd'
  exact k h' o' _ hD (S.mutO u hs ho)
end

noncomputable abbrev nsLaw : List Str := ["script", "pool", "wholes", "world", "due", "parser", "told", "error"]
noncomputable abbrev gsLaw : List Str := ["_law_pool", "_law_expression", "_law_put", "ExprParser", "TokenRow", "SourceError"]
theorem look_law {v : Value} : (fun x => List.lookup x [(("script" : Str), v)]) = look nsLaw [some v, none, none, none, none, none, none, none] := by
  funext x
  simp only [List.lookup, look]
  by_cases h : x = ("script" : Str)
  · subst h; simp
  · rw [beq_eq_false_iff_ne.mpr h, if_neg h]
    simp
theorem law_go {w : World} {name : Str} {scope : Scope} {L a : Addr} {cd : Value} {A : Around} {body : List Stmt} {Q : Flow → Shared → Prop} {E : Value → Shared → Prop} {s : Shared} (h : evOk scope nsLaw gsLaw = true)
    (k : EvE (envOf name scope L a cd) L nsLaw gsLaw → wpAny (model PR w) A (execs body (envOf name scope L a cd)) Q E s) : wpAny (model PR w) A (execs body (envOf name scope L a cd)) Q E s := k (Ev.env (Ev.of h))
theorem IntsAre.intL {vs : List Value} {ns : List Int} (h : IntsAre vs ns) : IntL vs := by
  induction h with
  | nil => exact IntL.nil
  | cons n t _ ih => intro v hv
                     rcases List.mem_cons.mp hv with rfl | hv
                     · exact ⟨_, _, rfl⟩
                     · exact ih v hv
noncomputable def WhL (us : List Value) : Prop := ∀ v ∈ us, ∃ i t, v = .int i t ∧ 0 ≤ i ∧ i < 2147483648
theorem WhL.nil : WhL [] := fun u_ h => nomatch h
theorem WhL.cons {us : List Value} {i : Int} {t : Tok} (h0 : 0 ≤ i) (h1 : i < 2147483648) (h : WhL us) : WhL (.int i t :: us) := fun v hv => by
  rcases List.mem_cons.mp hv with q | q
  · exact ⟨i, t, q, h0, h1⟩
  · exact h v q
theorem WhL.snoc {us : List Value} {i : Int} {t : Tok} (h0 : 0 ≤ i) (h1 : i < 2147483648) (h : WhL us) : WhL (us ++ [.int i t]) := fun v hv => by
  rcases List.mem_append.mp hv with q | q
  · exact h v q
  · exact ⟨i, t, List.mem_singleton.mp q, h0, h1⟩
theorem pow31 : (2 : Int) ^ Int.toNat 31 = 2147483648 := by decide +kernel
theorem St.setup {w : World} {g : Heap} {L : Addr} {ns vs} {a b c p : Addr × Obj} {junk Z : Led} {h : Heap} (S : St w g L ns vs (a :: b :: c :: junk) [p] Z h) : St w g L ns vs [] [p, b, a] (c :: Z) h := by
  have S1 : St w g L ns vs [a, b, c] [p] Z h := S.drop (.cons₂ _ (.cons₂ _ (.cons₂ _ (List.nil_sublist _))))
  refine S1.perm ?_
  simp only [List.nil_append, List.cons_append]
  exact (perm3 p b a _).trans (((List.Perm.swap c p Z).cons b).cons a)
theorem WhL.two {us : List Value} {a b : Tok} (h : WhL us) : WhL ([.int 0 a, .int 7 b] ++ us) := WhL.cons (by decide) (by decide) (WhL.cons (by decide) (by decide) h)
theorem bok0 {w : World} {P Fg d T Wh : Addr} {n k : Nat} {m : Int} {ti tm t12 : Tok} {fvs wvs : List Value} {o7 : Obj} {Z : Led} (hD : IsD w o7 [("tokens", .ref T), ("room", .int 12 t12), ("bad", .none), ("wholes", .ref Wh)]) (hfi : IntL fvs) (hfz : fvs.length ≤ 1000000)
    (hA : WhL wvs) (hl : wvs.length ≤ 1000 ∧ 0 < wvs.length) :
    BOk w ⟨P, Fg, d, T, Wh, listOf fvs.toArray n, listOf wvs.toArray k, fvs, wvs⟩ ⟨listOf ([.ref Fg, .int 0 ti, .int m tm] : List Value).toArray 0, 0, m, ti, tm, o7, 12, t12, .none, [], 0, [], none⟩ ((Wh, listOf wvs.toArray k) :: (Fg, listOf fvs.toArray n) :: Z) :=
  ⟨IsL.of, by show (0 : Int) ≤ 0; decide, mem_tl mem_hd, IsL.of, hfi, hfz, hD, mem_hd, IsL.of, hA, hl, .nil, .none⟩
theorem NE3 : NE 3 ≤ 800000 := by decide +kernel
theorem St.built {w : World} {A : Around} {E : Value → Shared → Prop} {g : Heap} {L : Addr} {ns : List Str} {vs : List (Option Value)} {h : Heap} {ge : Array GenState} {dr : Drawn} {tk : Nat} {os : OsState} {e0 : Env} {Q : Value → Shared → Prop}
    {P Fg d T Wh : Addr} {n k : Nat} {m : Int} {ti tm t12 td : Tok} {fvs wvs : List Value} {o7 : Obj} {Z : Led}
    (S : St w g L ns vs [] [(P, listOf ([.ref Fg, .int 0 ti, .int m tm] : List Value).toArray 0), (d, o7), (T, listOf ([] : List Value).toArray 0)] ((Wh, listOf wvs.toArray k) :: (Fg, listOf fvs.toArray n) :: Z) h)
    (hD : IsD w o7 [("tokens", .ref T), ("room", .int 12 t12), ("bad", .none), ("wholes", .ref Wh)]) (hfi : IntL fvs) (hfz : fvs.length ≤ 1000000) (hA : WhL wvs) (hl : wvs.length ≤ 1000 ∧ 0 < wvs.length)
    (hh : A.handled = none) (hd : A.depth + 1 + 550 < recursionLimit) (hu : A.units + 3 + 5500 < cLine)
    (k1 : ∀ v b x' Z' ts e dd h' tk', b.W = d → St w g L ns vs [] (Res b x') Z' h' → BOk w b x' Z' → x'.tl = ts → x'.bad = e → ts.length ≤ NE 3 → Tr Z' v dd → GX 8 ts dd e → Fine (DE 3) dd → Q v ⟨h', ge, dr, tk', os⟩) :
    wpAny (model PR w) (A.deeper e0) (call (.ref 471) [.ref P, .ref d, .int 0 td]) Q E ⟨h, ge, dr, tk, os⟩ := by
  have hb := bok0 (P := P) (Fg := Fg) (d := d) (n := n) (k := k) (m := m) (ti := ti) (tm := tm) (Z := Z) hD hfi hfz hA hl
  refine St.useT S (build_spec _ _ _ _ td hb rfl (by decide) (by show 0 + NE 3 ≤ 890000; have := NE3; (first | lia | omega))) hh (by show A.depth + 1 + 550 < _; (first | lia | omega)) (by show A.units + 3 + 5500 < _; (first | lia | omega)) fun qH kH v x' ts e dd Z' h9 tk9 S9 hbk hs hext hts htr hgx hfine => ?_
  have h1 := hext.tl
  have h2 := hext.bad
  with_reducible k_extra "UNH"
  exact k1 v _ x' Z' ts e dd h9 tk9 rfl S9 hbk (by rw [h1]; rfl) (by rw [h2]; rfl) hts htr hgx hfine
theorem St.toZ {w : World} {g : Heap} {L : Addr} {ns vs} {own R R2 Z : Led} {h : Heap} (S : St w g L ns vs own (R ++ R2) Z h) : St w g L ns vs own R (R2 ++ Z) h := S.perm (by simp only [List.append_assoc]; exact List.Perm.refl _)
theorem St.par {w : World} {A : Around} {E : Value → Shared → Prop} {g : Heap} {L : Addr} {ns : List Str} {vs : List (Option Value)} {h : Heap} {ge : Array GenState} {dr : Drawn} {tk : Nat} {os : OsState} {Q : Value → Shared → Prop}
    {own Z : Led} {ro rdx T : Addr} {u1 u2 tp : Tok} {toks : List Value} {tn : Nat} {tl : List TokD} {t : TokD} {r : List TokD} (S : St w g L ns vs own [(rdx, rowO w u1 u2 (.ref T) 0 tp)] Z h)
    (h1 : (ro, instObj 99 rdx) ∈ Z) (h2 : (T, listOf toks.toArray tn) ∈ Z) (ht : Toks w Z toks tl) (he : tl = t :: r) (hz : toks.length ≤ 1000000)
    (hh : A.handled = none) (hd : A.depth + 10 < recursionLimit) (hu : A.units + 100 < cLine)
    (k : ∀ p q Z' h' tk', p.T = T → p.toks = toks → p.tl = tl → St w g L ns vs own (RP w p q) Z' h' → POk w p q tl Z' → Sub Z Z' → Q (.ref p.pa) ⟨h', ge, dr, tk', os⟩) :
    wpAny (model PR w) A (call (.ref 431) [.ref ro]) Q E ⟨h, ge, dr, tk, os⟩ := by
  obtain ⟨a, ha, hta⟩ := ht.get (i := 0) (t := t) (by rw [he]; rfl)
  refine new_of S par_mk (d := 5) (u := 60) (Post := fun x dx R' Z' => Ex8 fun t1 t2 t3 t4 ah an ta tp' => R' = (dx, parO w t1 t2 t3 t4 ro ah a t.at_ ta) :: (rdx, rowO w u1 u2 (.ref T) 1 tp') :: [] ∧ Z' = (ah, listOf ([] : List Value).toArray an) :: (x, instObj 431 dx) :: Z)
    (fun x dx => cur_init mem_hd (mem_tl h1) (mem_tl h2) ha hz (hta.up (Sub.tl .rfl))) hh (by k_extra "DPT") (by k_extra "DPT") fun x dx R' Z' h' tk' S' P => ?_
  obtain ⟨t1, t2, t3, t4, ah, an, ta, tp', rfl, rfl⟩ := P
  refine k ⟨x, dx, ro, rdx, ah, T, an, tn, toks, tl, t1, t2, t3, t4, u1, u2⟩ ⟨a, t.at_, ta, 1, tp'⟩ _ h' tk' rfl rfl rfl S' ?_ (Sub.tl (Sub.tl .rfl))
  exact ⟨mem_tl mem_hd, mem_tl (mem_tl h1), mem_hd, mem_tl (mem_tl h2), ht.up (Sub.tl (Sub.tl .rfl)), hz, ⟨0, rfl, ha, rfl⟩, ⟨t, r, he, rfl⟩⟩

theorem match52 {M : Model} {A : Around} {E : Value → Shared → Prop} {h : Heap} {g : Array GenState} {d : Drawn} {t : Nat} {os : OsState} {e : Addr} {oe : Obj} {Q : Bool → Shared → Prop}
    (hC : h.get? 52 = some cls52) (he : h.get? e = some oe) (hcls : oe.cls = .ref 52) (hq : Q true ⟨h, g, d, t, os⟩) : wpAny M A (excMatches (.ref e) (.ref 52)) Q E ⟨h, g, d, t, os⟩ := by
  have hcB : (Value.ref 52 :: excMro).contains (.type "BaseException") = true := by decide +kernel
  have hcC : (Value.ref 52 :: excMro).contains (.ref 52) = true := by decide +kernel
  have f := tc_notTuple
  unfold excMatches
  repeat (first | (with_reducible refine wpAny_loadPart_at he ?_; rw [hcls]) | with_reducible refine wpAny_loadPart_at hC ?_ | (with_reducible refine wpAny_isSubtype_exc hC ?_; first | rw [hcB] | rw [hcC]) | wp_step)
  exact hq

section
variable {w : World} {A₀ : Around} {E : Value → Shared → Prop} {s' : Shared} {h₀ h : Heap} {outer : List Env} {L a e : Addr} {name : Str} {scope : Scope} {cd : Value} {ns gs : List Str} {vs vs' : List (Option Value)} {at_ : Int} {keep : Led}
  {n : Str} {b₀ : Stmt} {suite : List Stmt} {pos np : Pos} {rest : List ExceptHandler} {Q : Flow → Shared → Prop}
theorem caught52 (K : Below A₀ h₀ outer h₀) (G : Gx w h₀) (V : EvE (envOf name scope L a cd) L ns gs) (hgs : ("SourceError" : Str) ∈ gs) (nn : ns.Nodup) (F : Fr h₀ L h (look ns vs)) (hsm : h.UpToSlots s'.heap) (R : Flown w h₀ (envOf name scope L a cd :: outer) keep at_ e s'.heap) (hp : Put ns vs n (.ref e) vs') (hn : (envOf name scope L a cd).kindOf n = some .local)
    (nd : (keep.map (·.1)).Nodup)
    (k : ∀ h' tk dx t1 t2 t3 k1 a1 dv oe ws, St w h₀ L ns vs' [] [] keep h' → h'.get? e = some oe → oe.cls = .ref 52 → oe.data = .fields ws → oe.dict = some dx → h'.get? dx = some (excD w t1 t2 t3 (.str "expression_expected" k1) (.int at_ a1) dv) →
      wpAny (model PR w) ((A₀.deeper (envOf name scope L a cd)).mark (some (.ref e))) (execs (b₀ :: suite) (envOf name scope L a cd))
        (fun f s₄ => wpAny (model PR w) (A₀.deeper (envOf name scope L a cd)) (do bindName (envOf name scope L a cd) n .none; unbindBehindTheSuite (envOf name scope L a cd) n pos) (fun u_ s₅ => Q f s₅) E s₄)
        (AsSuiteRaised (model PR w) ((A₀.deeper (envOf name scope L a cd)).mark (some (.ref e))) (envOf name scope L a cd) n pos (notedBy (model PR w) ((A₀.deeper (envOf name scope L a cd)).mark (some (.ref e))) (envOf name scope L a cd) (cameBackBy (model PR w) (A₀.deeper (envOf name scope L a cd)) (envOf name scope L a cd) E)))
        { s' with heap := h', toks := tk }) :
    wpAny (model PR w) (A₀.deeper (envOf name scope L a cd)) (noteFrame (.ref e) (envOf name scope L a cd))
      (fun u_ s₂ => wpAny (model PR w) (A₀.deeper (envOf name scope L a cd)) (setFlight (.ref e) none) (fun u_ s₃ =>
        wpAny (model PR w) (A₀.deeper (envOf name scope L a cd)) (handleBy (.ref e) (envOf name scope L a cd) (.ExceptHandler (some (.Name "SourceError" np)) (some n) (b₀ :: suite) pos :: rest)) Q E s₃) E s₂) E s' := by
  refine hideG fun GG hGG => ?_
  obtain ⟨B, a0, dx, t1, t2, t3, k1, a1, dv, hB, hl, hfl, oe, hoe, hde⟩ := R
  refine hGG ?_; clear hGG GG
  have hL : B.get? L = none := by
    obtain ⟨_, ⟨L', _, hf, hn', _⟩, _⟩ := hfl.2.2.1
    obtain rfl : L = L' := Option.some.inj hf
    exact hn'
  refine wpAny_mono (KD.any (KD.noteFrame _ _) (wpAny_looks_onW (Q := fun u_ s'' => ∃ h', s'' = { s' with heap := h' } ∧ Heap.HeldW B (envOf name scope L a cd :: outer) e (.ref 52) a0 L h' ∧ s'.heap.UpToSlots h') (Around.frames_deeper K.stack) rfl hfl fun h' x1 x2 => ⟨h', rfl, x1, x2⟩)) (fun _ s'' ⟨⟨h₄, es, hheld₄, hsm₄⟩, dk4⟩ => ?_) fun u_ u_ x => x
  subst es
  obtain ⟨oe4, he4, hd4⟩ := dk4 _ _ hoe
  refine wpAny_mono (KD.any (KD.setFlight _ _) (wpAny_landsW (Q := fun u_ s'' => ∃ h', s'' = { s' with heap := h' } ∧ Heap.FlyingW B (envOf name scope L a cd :: outer) e (.ref 52) a0 h' ∧ h₄.UpToSlots h') hheld₄ fun h' x1 x2 => ⟨h', rfl, x1, x2⟩)) (fun _ s'' ⟨⟨h₅, es, hheld, hsm₅'⟩, dk5⟩ => ?_) fun u_ u_ x => x
  subst es
  obtain ⟨oe5, he5, hd5⟩ := dk5 _ _ he4
  have hsm₅ := hsm₄.trans hsm₅'
  have hheld' := flyingW_base hB hheld
  have F₅ := F.of_stays hheld'.1 (hsm.trans hsm₅)
  have S5 : St w h₀ L ns vs [] [] [] h₅ := ⟨G, F₅, News.nil, List.nodup_nil, nn⟩
  obtain ⟨ob, hob, hobc⟩ := hheld'.there
  refine wpAny_handleBy_cons (codeAny_handlers_test (ldG (s := { s' with heap := h₅ }) V S5 .n0 hgs ?_)) (by intro q; cases q)
  have hC : h₅.get? 52 = some cls52 := (G.X.keeps F₅.keep) _ _ at52
  refine match52 hC hob hobc (codeAny_handlers_suite_as ?_)
  refine wpAny_mono (KD.any (KD.setFlight _ _) (lands_againW (Q := fun u_ s'' => ∃ h', s'' = { s' with heap := h' } ∧ Heap.FlyingW B (envOf name scope L a cd :: outer) e (.ref 52) a0 h' ∧ h₅.UpToSlots h') hheld fun h' x1 x2 => ⟨h', rfl, x1, x2⟩)) (fun _ s'' ⟨⟨h₆, es, hfl₆, hsm₆⟩, dk6⟩ => ?_) fun u_ u_ x => x
  subst es
  obtain ⟨oe6, he6, hd6⟩ := dk6 _ _ he5
  have hfl₆' := flyingW_base hB hfl₆
  have F₆ := F.of_stays hfl₆'.1 ((hsm.trans hsm₅).trans hsm₆)
  obtain ⟨oe7, ws, hoe7, hoec, hoed, hoe0⟩ := hfl₆'.first
  rw [he6] at hoe7
  obtain rfl := Option.some.inj hoe7
  have Nl : News h₀ L h₆ ((dx, excD w t1 t2 t3 (.str "expression_expected" k1) (.int at_ a1) dv) :: keep) := fun q hq => ⟨hfl₆.1 _ _ (hl q hq).1, (fun z => by have := (hl q hq).1; rw [z, hL] at this; cases this), (hl q hq).2⟩
  have Ne : News h₀ L h₆ [(e, oe6)] := News.more F₆ News.nil he6 (fun es n q => by rw [hoed] at q; cases q) hfl₆'.2.1
  refine stN F₆ (news := (e, oe6) :: (dx, excD w t1 t2 t3 (.str "expression_expected" k1) (.int at_ a1) dv) :: keep) (fun q hq => by
    rcases List.mem_cons.mp hq with rfl | hq
    · exact Ne _ (.head _)
    · exact Nl q hq) (fun h₇ F₇ N₇ => ?_) V.k hn
  have F₇' : Fr h₀ L h₇ (look ns vs') := by rw [← hp.look nn]; exact F₇
  exact k h₇ _ dx t1 t2 t3 k1 a1 dv oe6 _ ⟨G, F₇', fun q hq => N₇ q (.tail _ (.tail _ hq)), nd, nn⟩ (N₇ _ (.head _)).1 hoec hoed (by rw [hd6, hd5, hd4, hde]) (N₇ _ (.tail _ (.head _))).1
end

theorem lay_norm {o : Str} (h : o ∈ unOps ∨ o ∈ joinOps) : PyData.strOk (normOp o) = true := by
  have h1 : ∀ o ∈ unOps, PyData.strOk (normOp o) = true := by decide +kernel
  have h2 : ∀ o ∈ joinOps, PyData.strOk (normOp o) = true := by decide +kernel
  exact h.elim (h1 o) (h2 o)
theorem lay_name {o : Str} (h : o ∈ namesOk) : PyData.strOk o = true := by
  have h1 : ∀ o ∈ namesOk, PyData.strOk o = true := by decide +kernel
  exact h1 o h
noncomputable def LayX (X : XP) : Prop := ∀ ts d, X ts d none → d.canLay0 = true
theorem or_none' {a b : Option Int} (h : none = a.or b) : a = none ∧ b = none := by
  cases a with
  | none => exact ⟨rfl, h.symm⟩
  | some x => cases h
theorem layAll_app : ∀ {a b : List PyData}, PyData.canLayAll0 a = true → PyData.canLayAll0 b = true → PyData.canLayAll0 (a ++ b) = true
  | [], _, _, h => h
  | x :: a, b, h, k => by
    rw [PyData.canLayAll0.eq_2, Bool.and_eq_true] at h
    rw [List.cons_append, PyData.canLayAll0.eq_2, h.1, Bool.true_and]
    exact layAll_app h.2 k
theorem GMore.lay {X : XP} (k : LayX X) {ts ds e} (h : GMore X ts ds e) : none = e → PyData.canLayAll0 ds = true := by
  induction h with
  | nil => intro _; rfl
  | cons hx _ ih =>
    intro he
    obtain ⟨rfl, rfl⟩ := or_none' he
    rw [PyData.canLayAll0.eq_2, k _ _ hx, ih rfl]; rfl
theorem GItems.lay {X : XP} (k : LayX X) {ts ds} (h : GItems X ts ds none) : PyData.canLayAll0 ds = true := by
  generalize he : (none : Option Int) = e at h
  cases h with
  | mk hx hm =>
    obtain ⟨rfl, rfl⟩ := or_none' he
    rw [PyData.canLayAll0.eq_2, k _ _ hx, hm.lay k rfl]; rfl
theorem GArgs.lay {X : XP} (k : LayX X) {ts ds} (h : GArgs X ts ds none) : PyData.canLayAll0 ds = true := by
  cases h with
  | nil => rfl
  | some h => exact h.lay k
theorem lay_t {l : List PyData} (h : PyData.canLayAll0 l = true) : (PyData.tuple l).canLay0 = true := by rw [PyData.canLay0.eq_6]; exact h
theorem lay_c {d : PyData} {l : List PyData} (h : d.canLay0 = true) (k : PyData.canLayAll0 l = true) : PyData.canLayAll0 (d :: l) = true := by rw [PyData.canLayAll0.eq_2, h, k]; rfl
theorem lay_n : PyData.canLayAll0 [] = true := PyData.canLayAll0.eq_1
theorem lay_s {x : Str} (h : PyData.strOk x = true) : (PyData.str x).canLay0 = true := by rw [PyData.canLay0.eq_4]; exact h
theorem lay_i {i : Int} : (PyData.int i).canLay0 = true := PyData.canLay0.eq_3 i
theorem lay_b {b : Bool} : (PyData.bool b).canLay0 = true := PyData.canLay0.eq_2 b
theorem GSels.lay {X : XP} (k : LayX X) {at_ b ts d e} (h : GSels X at_ b ts d e) : none = e → b.canLay0 = true → d.canLay0 = true := by
  induction h with
  | nil => exact fun u_ h => h
  | idx hx _ ih =>
    intro he hb
    obtain ⟨rfl, rfl⟩ := or_none' he
    exact ih rfl (lay_t (lay_c (lay_s (by decide +kernel)) (lay_c lay_i (lay_c hb (lay_c (k _ _ hx) lay_n)))))
  | rng hr hx hy =>
    intro he hb
    obtain ⟨rfl, rfl⟩ := or_none' he
    refine lay_t (lay_c (lay_s ?_) (lay_c lay_i (lay_c hb (lay_c (k _ _ hx) (lay_c (k _ _ hy) lay_n)))))
    cases hr <;> decide +kernel
theorem pathTree_lay {at_ done nm} (h : PyData.canLayAll0 done = true) (hn : PyData.strOk nm = true) : (pathTree at_ done nm).canLay0 = true := by
  unfold pathTree
  split
  · exact lay_t (lay_c (lay_s (by decide +kernel)) (lay_c lay_i (lay_c (lay_s hn) lay_n)))
  · exact lay_t (lay_c (lay_s (by decide +kernel)) (lay_c lay_i (lay_c (lay_t (layAll_app h (lay_c (lay_t (lay_c (lay_s hn) (lay_c PyData.canLay0.eq_1 lay_n))) lay_n))) lay_n)))
theorem GTail.lay {X : XP} (k : LayX X) {at_ done nm ts d e} (h : GTail X at_ done nm ts d e) : none = e → PyData.canLayAll0 done = true → PyData.strOk nm = true → d.canLay0 = true := by
  induction h with
  | stop hs => exact fun he hd hn => hs.lay k he (pathTree_lay hd hn)
  | dot hm _ ih => exact fun he hd hn => ih he (layAll_app hd (lay_c (lay_t (lay_c (lay_s hn) (lay_c PyData.canLay0.eq_1 lay_n))) lay_n)) (lay_name hm)
  | ix hm hx _ ih =>
    intro he hd hn
    obtain ⟨rfl, rfl⟩ := or_none' he
    exact ih rfl (layAll_app hd (lay_c (lay_t (lay_c (lay_s hn) (lay_c (k _ _ hx) lay_n))) lay_n)) (lay_name hm)
theorem GPrim.lay {X : XP} (k : LayX X) {ts d} (h : GPrim X ts d none) : d.canLay0 = true := by
  generalize he : (none : Option Int) = e at h
  cases h with
  | num1 => exact lay_t (lay_c (lay_s (by decide +kernel)) (lay_c lay_i (lay_c (lay_t (lay_c lay_i (lay_c lay_i (lay_c lay_i lay_n)))) (lay_c lay_b (lay_c lay_b lay_n)))))
  | num2 => exact lay_t (lay_c (lay_s (by decide +kernel)) (lay_c lay_i (lay_c (lay_t (lay_c lay_i (lay_c lay_i (lay_c lay_i lay_n)))) (lay_c lay_b (lay_c lay_b lay_n)))))
  | str => exact lay_t (lay_c (lay_s (by decide +kernel)) (lay_c lay_i (lay_c (lay_s (by decide +kernel)) lay_n)))
  | sys0 => exact lay_t (lay_c (lay_s (by decide +kernel)) (lay_c lay_i (lay_c (lay_s (by decide +kernel)) (lay_c (lay_t lay_n) lay_n))))
  | sys h => subst he; exact lay_t (lay_c (lay_s (by decide +kernel)) (lay_c lay_i (lay_c (lay_s (by decide +kernel)) (lay_c (lay_t (h.lay k)) lay_n))))
  | call h => subst he; exact lay_t (lay_c (lay_s (by decide +kernel)) (lay_c lay_i (lay_c (lay_s (by decide +kernel)) (lay_c (lay_t (h.lay k)) lay_n))))
  | ref hn h => exact h.lay k he lay_n (lay_name hn)
  | par h => subst he; exact k _ _ h
  | mtm h1 h2 h3 =>
    obtain ⟨hx1, hx2⟩ := or_none' he
    obtain ⟨hx3, hx4⟩ := or_none' hx2.symm
    subst hx1 hx3 hx4
    exact k _ _ h2
  | cat h => subst he; exact lay_t (lay_c (lay_s (by decide +kernel)) (lay_c lay_i (lay_c (lay_t (h.lay k)) lay_n)))
  | rep h1 h2 =>
    obtain ⟨rfl, rfl⟩ := or_none' he
    exact lay_t (lay_c (lay_s (by decide +kernel)) (lay_c lay_i (lay_c (k _ _ h1) (lay_c (lay_t (h2.lay k)) lay_n))))
  | bad => cases he
theorem GUn.lay {X : XP} (k : LayX X) {ts d e} (h : GUn X ts d e) : none = e → d.canLay0 = true := by
  induction h with
  | prim h => intro he; subst he; exact h.lay k
  | un ho _ ih => exact fun he => lay_t (lay_c (lay_s (by decide +kernel)) (lay_c lay_i (lay_c (lay_s (lay_norm (.inl ho))) (lay_c (ih he) lay_n))))
theorem GL.lay {X : XP} (k : LayX X) {l m dl ts d e} (h : GL X l m dl ts d e) : none = e → dl.canLay0 = true → d.canLay0 = true := by
  induction h with
  | nil => exact fun u_ h => h
  | cons ho _ _ hu _ _ ih1 ih2 =>
    intro he hd
    obtain ⟨hx1, hx2⟩ := or_none' he
    obtain ⟨hx3, hx4⟩ := or_none' hx2.symm
    subst hx1 hx3 hx4
    exact ih2 rfl (lay_t (lay_c (lay_s (by decide +kernel)) (lay_c lay_i (lay_c (lay_s (lay_norm (.inr ho))) (lay_c hd (lay_c (ih1 rfl (hu.lay k rfl)) lay_n))))))
theorem GBn.lay {X : XP} (k : LayX X) {l ts d e} (h : GBn X l ts d e) : none = e → d.canLay0 = true := by
  intro he
  cases h with
  | mk hu hl =>
    obtain ⟨rfl, rfl⟩ := or_none' he
    exact hl.lay k rfl (hu.lay k rfl)
theorem GTn.lay {X : XP} (k : LayX X) {d0 ts d e} (h : GTn X d0 ts d e) : none = e → d0.canLay0 = true → d.canLay0 = true := by
  induction h with
  | nil => exact fun u_ h => h
  | cons hx hb _ ih =>
    intro he hd
    obtain ⟨hx1, hx2⟩ := or_none' he
    obtain ⟨hx3, hx4⟩ := or_none' hx2.symm
    subst hx1 hx3 hx4
    exact lay_t (lay_c (lay_s (by decide +kernel)) (lay_c lay_i (lay_c hd (lay_c (k _ _ hx) (lay_c (ih rfl (hb.lay k rfl)) lay_n)))))
theorem GX.lay : ∀ n, LayX (GX n)
  | 0, _, _, h => h.elim
  | n + 1, ts, d, h => by
    generalize he : (none : Option Int) = e at h
    cases h with
    | mk hb ht =>
      obtain ⟨rfl, rfl⟩ := or_none' he
      exact ht.lay (GX.lay n) rfl (hb.lay (GX.lay n) rfl)

theorem hh52 {w : World} : hasDictIn (Hd.KF w.params) 52 = true := by k_is
theorem bexc_kind : builtinKind "BaseException.__getattribute__" = some .slot := by decide +kernel
theorem bexc_split : splitId "BaseException.__getattribute__" = some ("BaseException", "__getattribute__") := by decide +kernel
section
variable {w : World} {A : Around} {E : Value → Shared → Prop} {g : Heap} {L : Addr} {ns : List Str} {vs : List (Option Value)} {own R Z : Led}
  {h : Heap} {ge : Array GenState} {dr : Drawn} {tk : Nat} {os : OsState}
theorem get52 {x dx : Addr} {ox : Obj} {es : List DictEntry} {n : Nat} {name : Str} {v : Value} {ex : Bool} {ws : Array Value} {Q : Value → Shared → Prop} (S : St w g L ns vs own R Z h) (hx : h.get? x = some ox) (hc : ox.cls = .ref 52) (hdt : ox.data = .fields ws) (hdi : ox.dict = some dx)
    (D : h.get? dx = some (dictOf es n)) (a : AttE name) (hl : getL name es = some (some v)) (hv : handedIn v = true) (k1 : ∀ tk', Q v ⟨h, ge, dr, tk', os⟩) :
    wpAny (model PR w) A (getAttr (.ref x) name ex) Q E ⟨h, ge, dr, tk, os⟩ := by
  have X := S.gx.X.keeps S.F.keep
  have I : InstAt h x ox 52 (some (dictOf es n)) := ⟨hx, hc, by obtain ⟨oc, odi, oda, osl⟩ := ox; dsimp only at hdt; subst hdt; rfl, by rw [hdi]; exact D⟩
  have L0 := I.type (M := model PR w)
  have L1 := looks_findIn (M := model PR w) X (ga52 (w := w))
  have L2 : Looks (model PR w) h (hookBefore (.ref 52)) none := looks_findIn X gt52
  have Lf := looks_find (M := model PR w) X I (findObj_own hh52 a.fi rfl hl)
  have hne : (onTheHeap (.ref 52) && Value.builtin "BaseException.__getattribute__" == Value.builtin "object.__getattribute__") = false := by
    rw [show (Value.builtin "BaseException.__getattribute__" == Value.builtin "object.__getattribute__") = false from by decide +kernel, Bool.and_false]
  unfold getAttr getAttrBy
  refine wpAny_bind (wpAny_mkText (wpAny_holding (wpAny_bind (L0.here (wpAny_bind (L1.here ?_))))))
  try dsimp only
  rw [hne, if_neg (by decide)]
  refine wpAny_bind (L2.here (wpAny_bind (wpAny_attempt (wpAny_holding ?_))))
  unfold callGetattribute
  rw [show (ex && onTheHeap (Value.builtin "BaseException.__getattribute__")) = false from Bool.and_false _, if_neg (by decide)]
  unfold boundAndCalled
  rw [F.attr_Exception.ga.bind]
  refine wpAny_bind (wpAny_pure ?_)
  show wpAny _ _ (call (.builtin "BaseException.__getattribute__") [.ref x, .str name tk]) _ _ _
  refine wpAny_call ?_
  refine codeAny_call_builtin F.attr_Exception.ga.plain F.entry_bexc_ga ?_
  refine @check_slot (model PR w) _ _ ⟨h, ge, dr, tk + 1, os⟩ "BaseException.__getattribute__" "BaseException" "__getattribute__" (.ref x) [.str name tk] [] _ bexc_kind bexc_split (L0.andThen (sub52 X (by decide +kernel))) (F.args_bexc_ga _ _) ?_
  unfold Builtin.«object.__getattribute__»
  refine wpAny_bind (wpAny_pure (wpAny_bind (wpAny_pure (wpAny_bind (L0.here (wpAny_bind (Lf.here ?_)))))))
  refine wpAny_pure ?_
  show wpAny _ _ (handedOut v) _ _ _
  rw [handedOut_of hv]; exact wpAny_pure (k1 _)
theorem St.cmpBad {l : Addr} {k1 a1 : Tok} {at_ : Int} {bv : Value} {Q : Value → Shared → Prop} (S : St w g L ns vs own R ((l, tupOf [.str "expression_expected" k1, .int at_ a1]) :: Z) h)
    (tr : Tr Z bv (.tuple [.str "expression_expected", .int at_])) (hu : A.units + 100 < cLine) (k : Q (.bool true) ⟨h, ge, dr, tk, os⟩) :
    wpAny (model PR w) A (compareOp .Eq (.ref l) bv) Q E ⟨h, ge, dr, tk, os⟩ := by
  have r1 := Tr.reads (fun p hp => S.get (memZ hp)) (Tr.tup mem_hd IsT.of (TrL.cons (Tr.str "expression_expected" k1) (TrL.cons (Tr.int at_ a1) TrL.nil)))
  have r2 := Tr.reads (fun p hp => S.get (memZ hp)) (Tr.tl (p := (l, tupOf [.str "expression_expected" k1, .int at_ a1])) tr)
  have hl1 : (PyData.tuple [.str "expression_expected", .int at_]).canLay0 = true := lay_t (lay_c (lay_s (by decide +kernel)) (lay_c lay_i lay_n))
  have hdp : min (PyData.tuple [.str "expression_expected", .int at_]).depth (PyData.tuple [.str "expression_expected", .int at_]).depth ≤ 100 := by
    rw [Nat.min_self]
    exact Nat.le_of_ble_eq_true rfl
  refine SeqAt.compareEq_reads r1 r2 hl1 hl1 (Nat.lt_of_le_of_lt (Nat.add_le_add_left hdp _) hu) ?_
  rw [SeqAt.eqv_refl _ hl1]
  exact k
end

local macro_rules | `(tactic| k_qdec) => `(tactic| decide +kernel)
set_option tactic.hygienic true in
set_option maxHeartbeats 8000000 in
theorem law_tst : PySem.Challenge.rw_nn0326_01.Holds := Hd.hdX (by rfl) (by rfl) (by rfl) (by
  k_go0
  rename_i w s₀ s₁ mg mb G Y fa o pm doc kV ho hg KX X V GL T BB TE TW m1 m2 M c1 c2 hcd is hs hlay0 hL0 hr hl2 a1 a2 l vs a3 hL ra w1 r0 hI hr2 hc1 hc2 K0 hD h₁ F N0
  have S : St w s₁.heap s₁.heap.objs.size nsLaw [some (.ref l), none, none, none, none, none, none, none] [] [] [] h₁ :=
    ⟨⟨KX, ⟨_, _, _, T⟩⟩, by rw [← look_law]; exact F, N0, List.nodup_nil, by decide⟩
  have hlo : ∃ lo, s₁.heap.get? l = some lo ∧ IsL lo vs := by
    obtain ⟨lo, h1, h2, h3⟩ := hL
    exact ⟨lo, h1, h2, h3⟩
  obtain ⟨lo, hlo, ilo⟩ := hlo
  have hvi : IntL vs := IntsAre.intL hI
  have hvz : vs.length ≤ 1000000 := by
    rw [hI.length]; (first | lia | omega)
  have hd0 : callerA.depth + 650 < recursionLimit := by decide
  have hu0 : callerA.units + 9000 < cLine := by decide
  have hh0 : callerA.handled = none := rfl
  (repeat' with_reducible k_extra "UNH"); (try dsimp only)
  refine law_go (by decide) fun V => ?_
  k_extra "GO"
  refine S.useB hlo (pool_spec ilo hvi hvz) hh0 (by show callerA.depth + 1 + _ < _; (first | lia | omega)) (by show callerA.units + 3 + _ < _; (first | lia | omega)) fun v R' Z' h2 tk2 S2 P => ?_
  refine hideG fun GG hGG => ?_
  obtain ⟨P, Fg, fvs, n, m, ti, tm, rfl, rfl, rfl, hfi, hfz⟩ := P
  refine hGG ?_; clear hGG GG
  k_extra "GO"
  refine wpAny_ListComp (by decide) rfl (by decide) ?_ (by intro _; rfl)
  k_extra "GO"
  refine sl_uptoB (by assumption) hlo ilo hvz (by decide) (fun D h3 S3 => ?_) (by k_extra "UA") (by intro _; k_extra "UA")
  refine lc_list V (gs' := ["abs", "int"]) (Ev.of (by decide)) hh0 (by decide) S3 (memO mem_hd) IsL.of (by simp only [List.length_take]; (first | lia | omega)) (fun i R' Z' acc => R' = _ ∧ Z' = _ ∧ WhL acc) (fun i R' Z' acc u_ => memO mem_hd) ⟨rfl, rfl, WhL.nil⟩ ?_ ?_
  · intro i v acc R' Z' h tk C D n it ito gc G' V' S' hv ⟨hR, hZ, hA⟩
    refine hideG fun GG hGG => ?_
    obtain ⟨cv, ct, rfl⟩ := hvi v (List.mem_of_mem_take (List.mem_of_getElem? hv))
    refine hGG ?_; clear hGG GG
    k_extra "GO"
    refine ⟨R', Z', _, _, rfl, by assumption, hR, hZ, ?_⟩
    rw [pow31]
    exact hA.snoc (Int.fmod_nonneg_of_pos _ (by decide)) (Int.fmod_lt_of_pos _ (by decide))
  · intro D acc n R' Z' h tk hlen S' ⟨hR, hZ, hA⟩
    refine hideG fun GG hGG => ?_
    subst hR hZ
    have hal : acc.length ≤ 4 := by
      rw [hlen, List.length_take]
      exact Nat.min_le_left _ _
    have h5 : (2 : Nat) + acc.length ≤ 1000000 := by (first | lia | omega)
    refine hGG ?_; clear hGG GG
    k_extra "GO"
    refine dct (by assumption) rfl rfl rfl (by simp) (by decide) fun d o h6 hd hm S6 => ?_
    refine pairTrees_cons_walk ?_
    k_extra "GO"
    refine pairTrees_cons_walk ?_
    k_extra "GO"
    refine pairTrees_cons_walk ?_
    k_extra "GO"
    refine pairTrees_cons_walk ?_
    k_extra "GO"
    refine pairTrees_nil_walk ?_
    refine dct_end (by assumption) (.tail .head) hd rfl rfl (by show ([("tokens" : Str), "room", "bad", "wholes"] : List Str).Nodup; decide) fun h7 o7 tk7 hD S7 => ?_
    k_extra "GO"
    have S8 := St.setup (by assumption)
    refine St.built S8 hD hfi hfz hA.two ⟨by simp only [List.length_append, List.length_cons, List.length_nil]; (first | lia | omega), by simp only [List.length_append, List.length_cons, List.length_nil]; (first | lia | omega)⟩ hh0 (by k_extra "DPT") (by k_extra "DPT") fun vd b x Z9 ts e dd h9 tk9 hbW S9 hb9 htl hbad hts htr hgx' hfine => ?_
    refine hideG fun GG hGG => ?_
    subst hbW
    refine hGG ?_; clear hGG GG
    k_extra "GO"
    have hts2 := NE3
    refine St.put (by assumption) hb9 (by rw [htl]; (first | lia | omega)) (.str _ _) hh0 (by k_extra "DPT") (by k_extra "DPT") fun x2 at2 t2 Z2 h10 tk10 S10 hb10 hs10 hx10 hl10 => ?_
    have htl2 := hx10.tl
    have hbad2 := hx10.bad
    rw [htl] at htl2
    rw [hbad, Option.or_none] at hbad2
    have hwo := hb10.wo
    k_extra "GO"
    refine new_of (by assumption) row_mk (d := 1) (u := 10) (Post := fun x dx R' Z' => ∃ u1 u2 tp, R' = (dx, rowO w u1 u2 (.ref b.T) 0 tp) :: Res b x2 ∧ Z' = (x, instObj 99 dx) :: Z2) (fun x dx => row_init mem_hd) hh0 (by show callerA.depth + 1 + 2 + 1 < _; (first | lia | omega)) (by show callerA.units + 3 + 2 + 10 < _; (first | lia | omega)) fun ro rdx R' Z' h11 tk11 S11 PP => ?_
    refine hideG fun GG hGG => ?_
    obtain ⟨u1, u2, tp, rfl, rfl⟩ := PP
    have S12 := St.toZ (R := [(rdx, rowO w u1 u2 (.ref b.T) 0 tp)]) (R2 := Res b x2) S11
    obtain ⟨t0, r0, htl0⟩ : ∃ t0 r0, x2.tl = t0 :: r0 := by
      cases q : x2.tl with
      | nil => rw [q] at htl2; simp at htl2
      | cons t0 r0 => exact ⟨t0, r0, rfl⟩
    have htks : Toks w (Res b x2 ++ (ro, instObj 99 rdx) :: Z2) x2.toks x2.tl := hb10.tk.up ⟨fun p hp => List.mem_append_right _ (.tail _ hp)⟩
    have htz : x2.toks.length ≤ 1000000 := by
      rw [hb10.tk.length, htl2, List.length_append, List.length_cons, List.length_nil]; (first | lia | omega)
    refine hGG ?_; clear hGG GG
    k_extra "GO"
    refine St.par S12 (List.mem_append_right _ mem_hd) (List.mem_append_left _ (mem_tl (mem_tl mem_hd))) htks htl0 htz hh0 (by show callerA.depth + 1 + 10 < _; (first | lia | omega)) (by show callerA.units + 3 + 100 < _; (first | lia | omega)) fun p q Z3 h13 tk13 hpT hpt hptl S13 hp13 hs13 => ?_
    k_extra "GO"
    have hgx : St w s₁.heap s₁.heap.objs.size nsLaw _ [] (RP w p q) Z3 _ := (by assumption)
    refine wpAny_Try_except ?_
    have hp1 := hp13.pi
    rw [htl2] at hp13
    k_extra "GO"
    have S14 := hgx
    obtain ⟨G', B'⟩ := S14.cut
    refine wpAny_call (parse_spec 8 p q ts dd e [op ";" at2] Z3 hgx' hp13 (.mk' (.op (by decide))) _ _ _ _ s₁.heap _ Z3 G' hh0 (by show callerA.depth + 1 + 200 < _; (first | lia | omega)) (by show callerA.units + 3 + 2200 < _; (first | lia | omega)) B' (S14.belowCut K0 rfl) (fun z hz => ⟨hz, (S14.N z (memZ hz)).2.2⟩) (fun hb v R' Z' h' tk' B' P => ?_) fun at_ ha e h' tk' fl up => ?_)
    · have S15 := S14.back B'
      refine hideG fun GG hGG => ?_
      obtain ⟨q', rfl, hp15, hs15, ht15⟩ := P
      subst hb
      have hbd := hb10.bd
      rw [hbad2] at hbd
      generalize hbv : x2.badv = bv at hbd hwo
      cases hbd
      have hp2 := hp15.pi
      have hW : (b.W, x2.wo) ∈ Z' := hs15.up _ (hs13.up _ (List.mem_append_left _ (mem_tl mem_hd)))
      have htd : Tr Z' vd dd := htr.up (hs10.trans ((Sub.mk fun p hp => List.mem_append_right _ (.tail _ hp)).trans (hs13.trans hs15)))
      have hlay := GX.lay 8 _ _ hgx'
      have hdp : dd.depth ≤ DE 3 := hfine.d
      have hDE : DE 3 ≤ 5000 := by decide +kernel
      refine hGG ?_; clear hGG GG
      (repeat' with_reducible k_extra "UNH"); (try dsimp only)
      k_extra "GO"
      refine SeqAt.compareEq_reads (ht15.reads fun p hp => St.get (by assumption) (memZ hp)) (htd.reads fun p hp => St.get (by assumption) (memZ hp)) hlay hlay (by show callerA.units + 3 + _ < _; (first | lia | omega)) ?_
      rw [SeqAt.eqv_refl _ hlay]
      refine hideG fun GG hGG => ?_
      have hT : (b.T, listOf x2.toks.toArray x2.tn) ∈ Z' := hs15.up _ (hs13.up _ (List.mem_append_left _ (mem_tl (mem_tl mem_hd))))
      have htl3 : x2.toks.length = ts.length + 1 := by rw [hb10.tk.length, htl2]; simp
      obtain ⟨la, hla, hlt⟩ := hb10.tk.get (i := ts.length) (t := op ";" at2) (by rw [htl2]; simp)
      have hlt' := hlt.up (hs13.trans hs15 |> fun s => (Sub.mk fun p hp => List.mem_append_right _ (List.Mem.tail _ hp)).trans s)
      have hla' : x2.toks[((-1 : Int) + x2.toks.length).toNat]? = some (.ref la) := by
        have e1 : ((-1 : Int) + x2.toks.length).toNat = ts.length := by (first | lia | omega)
        rw [e1]; exact hla
      obtain ⟨ldx, l1, l2, l3, lk, lv, lta, lm1, lm2, lm3⟩ := hlt'.ex
      have hat15 := hp15.tok.2
      have hat16 : (q'.at_ == (op ";" at2).at_) = true := by rw [hat15]; exact beq_self_eq_true _
      refine hGG ?_; clear hGG GG
      k_extra "GO"
      refine St.isop (by assumption) hp15 .op hh0 (by k_extra "DPT") (by k_extra "DPT") fun h16 tk16 S16 => ?_
      k_extra "GO"
      (repeat' with_reducible k_extra "UNH"); (try dsimp only)
      have hop : opB (op ";" at2) ";" = true := by rw [opB_op]; exact beq_self_eq_true _
      rw [hop]
      (repeat' with_reducible k_extra "UNH"); (try dsimp only)
      refine goodW_bool S16.F hg (raisesW_false ?_) ?_
      · wrow_none_raised
      · wrow_post
    · try dsimp only
      refine' caught52 (keep := Z3) K0 ⟨KX, ⟨_, _, _, T⟩⟩ V (by decide) (by decide) S14.frCut up fl ?hp rfl ?nd ?kk
      case hp => k_extra "PUT"
      case nd => exact S14.nd.sublist (List.Sublist.map _ (List.sublist_append_right _ _))
      case kk =>
      intro h16 tk16 dx t1 t2 t3 k1 a1 dv oe ws S16 he hcls hdt hdi hdx
      k_extra "GO"
      refine get52 (by assumption) he hcls hdt hdi hdx .a (by k_dflt k_get) rfl fun tk17 => ?_
      k_extra "GO"
      refine get52 (by assumption) he hcls hdt hdi hdx .b (by k_dflt k_get) rfl fun tk18 => ?_
      have hW : (b.W, x2.wo) ∈ Z3 := hs13.up _ (List.mem_append_left _ (mem_tl mem_hd))
      k_extra "GO"
      have hbd := hb10.bd
      rw [hbad2, ha] at hbd
      generalize x2.badv = bv at hbd
      cases hbd with
      | some tr =>
      have tr3 := tr.up (Sub.mk fun p hp => hs13.up _ (List.mem_append_right _ (.tail _ hp)))
      refine St.cmpBad (by assumption) tr3 (by show callerA.units + 3 + 100 < _; (first | lia | omega)) ?_
      (repeat' with_reducible k_extra "UNH"); (try dsimp only)
      refine name_goes_keeps (St.F (by assumption)) (St.N (by assumption)) fun h20 v20 F20 N20 => ?_
      (repeat' with_reducible k_extra "UNH"); (try dsimp only)
      refine goodW_bool F20 hg (raisesW_false ?_) ?_
      · wrow_none_raised
      · wrow_post)

end Mine
theorem PySem.Challenge.cw_nn0326_01_holds : PySem.Challenge.rw_nn0326_01.Holds :=
  Mine.law_tst
