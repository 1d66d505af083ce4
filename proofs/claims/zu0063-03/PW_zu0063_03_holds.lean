import PyProof.Rows.All
import OpenK.KLine
import KE.KRevIter
import KE.KSuper
import Lean
import PySem.Challenge.RW_zu0063_03
set_option Elab.async false
set_option maxRecDepth 100000
set_option linter.unusedVariables false
set_option linter.unusedSimpArgs false
set_option linter.unusedSectionVars false
set_option bootstrap.genMatcherCode false
set_option backward.match.sparseCases false
set_option compiler.extract_closed false
set_option genSizeOf false
namespace Head
noncomputable section
open PySem PySem.W PySem.Calls PyProof.Rows
noncomputable def s (x : String) : PySem.Str := PySem.Str.ofString x
noncomputable def nul : Stmt := .Pass ⟨0, 0, 0, 0⟩
noncomputable def st (i : Nat) (j : Option Nat) : Stmt := match PySem.Challenge.pw_zu0063_03.main.body[i]?.getD nul, j with
 | .ClassDef _ _ _ b _ _ _ _ _ _ _, some j => b[j]?.getD nul
 | t, _ => t
noncomputable def fd (g : Nat) (t : Stmt) (q : PySem.Str) (cl : List (PySem.Str × Addr)) (dV kV doc pm cdv ct : Value) : FuncData := match t with
 | .FunctionDef name args body _ _ _ scope _ _ _ => { name, qualname := q, params := args, body := .stmts body, scope, globals := g, closure := cl, defaults := dV, kwdefaults := kV, doc, pyModule := pm, code := cdv, closureTuple := ct, builtins := builtinsNs }
 | _ => default
noncomputable def ob (c : Value) (d : Option Addr) (x : Data) (sl : List (Option Value)) : Obj := ⟨c, d, x, sl.toArray⟩
noncomputable def ts (l : List (String × Nat)) : Obj := ⟨.type "tuple", none, .seq (l.map fun y => Value.str (PySem.Str.ofString y.1) y.2).toArray 0, #[]⟩
noncomputable def tp (l : List Value) : Obj := ⟨.type "tuple", none, .seq l.toArray 0, #[]⟩
noncomputable def nf : Obj := ⟨.none, none, .fields #[], #[]⟩
noncomputable def tf (f : FuncData) : Obj := ⟨.none, none, .func f, #[]⟩
noncomputable def ff (f : FuncData) : Obj := ⟨.type "function", none, .func f, #[]⟩
noncomputable def en (P : Params) (x : PySem.Str) (t : Nat) (v : Value) : DictEntry := ⟨PyData.keyHash P x, .str x t, v⟩
noncomputable def cd (n : String) (t0 : Nat) (q : String) (t1 t2 : Nat) (l a1 a2 a3 fl : Int) (fr : Nat) (isf : Bool) (txt : Int) (pl : Nat) (x13 x14 x15 : Value) (t16 l2 : Int) (t18 : Nat) : Obj :=
 ⟨.type "code", none, .fields #[.str (s n) t0, .str (s q) t1, .str (s "/claim/cut.py") t2, .int l 0, .int a1 0, .int a2 0, .int a3 0, .int fl 0, .ref fr, .bool isf, .int txt 0, .ref pl, .none, x13, x14, x15, .int t16 0, .int l2 0, .str (s "/claim/cut.py") t18], #[]⟩
noncomputable def S (x : String) (t : Nat) : Value := .str (s x) t
noncomputable def t1 (i : Nat) (j : Option Nat) (q : String) : Obj := tf (fd 0 (st i j) (s q) [] .none .none .none .none .none .none)
noncomputable def f3 (i : Nat) (j : Option Nat) (q : String) (m : Value) (c : Nat) : Obj := ff (fd 3 (st i j) (s q) [] .none .none .none m (.ref c) .none)
def o11 := ts []
def o12 := nf
def o13 := cd "<module>" 182 "<module>" 183 184 1 0 0 0 0 11 false 181 12 .none .none .none 185 1 186
def o14 := ob (.type "frame") none .plain [(some (.ref 13)), (some (.ref 3)), (some (.ref 3)), none, (some (S "__main__" 164)), none, (some (.ref 0))]
def o2v0 (P : Params) : Obj := ob .none none (.dict [en P (s "type.__subclasses__.Exception.0") 230 (.int 47 0), en P (s "type.__subclasses__.Exception.n") 231 (.int 1 0)].toArray 2) []
def o3v1 (P : Params) : Obj := ob (.type "dict") none (.dict [en P (s "__name__") 165 (S "minismt.errors" 194), en P (s "__doc__") 166 .none, en P (s "__package__") 167 .none, en P (s "__loader__") 168 (.builtin "__main__.__loader__#opaque"), en P (s "__spec__") 169 .none, en P (s "__annotations__") 170 (.ref 6), en P (s "__builtins__") 171 (.ref 4), en P (s "__file__") 173 (S "/claim/cut.py" 172), en P (s "__cached__") 174 .none, en P (s "_wall") 193 (.ref 21), en P (s "SmtError") 233 (.ref 47), en P (s "SortFault") 256 (.ref 67), en P (s "LimitFault") 279 (.ref 86)].toArray 13) []
def o12v2 := ob .none none (.fields [(.int 1 0), (.int 0 0), (.ref 20), (.int 5 0), (.int 0 0), (.ref 28), (.int 13 0), (.int 0 0), (.ref 56), (.int 17 0), (.int 0 0), (.ref 75)].toArray) []
def o15 := ts []
def o16 := nf
def o17 := ts [("k", 190)]
def o18 := ts []
def o19 := t1 0 none "_wall"
def o20 := cd "_wall" 187 "_wall" 188 189 1 1 0 0 3 15 true 181 16 (.ref 17) (.ref 18) (.ref 19) 191 1 192
def o21 := f3 0 none "_wall" (S "__main__" 164) 20
def o22 := tp [(.type "Exception")]
def o23 := ob (.type "builtin_function_or_method") none (.fields [(.builtin "type.__prepare__"), (.type "type")].toArray) []
def o24 (P : Params) : Obj := ob (.type "dict") none (.dict [en P (s "__module__") 203 (S "minismt.errors" 194), en P (s "__qualname__") 205 (S "SmtError" 204), en P (s "__firstlineno__") 207 (.int 5 206), en P (s "__init__") 216 (.ref 37), en P (s "told") 223 (.ref 44), en P (s "__static_attributes__") 225 (.ref 45), en P (s "__classcell__") 226 (.ref 25)].toArray 7) []
def o25 := ob (.type "cell") none (.cell (some (.ref 47))) []
def o26 := ts []
def o27 := ob .none none (.fields [(.int 7 0), (.int 4 0), (.ref 36), (.int 11 0), (.int 4 0), (.ref 43)].toArray) []
def o28 := cd "SmtError" 198 "SmtError" 199 200 5 0 0 0 0 26 false 181 27 .none .none .none 201 5 202
def o29 := ob (.type "frame") none .plain [(some (.ref 28)), (some (.ref 3)), (some (.ref 24)), none, (some (S "minismt.errors" 194)), none, (some (.ref 0))]
def o30 := tp [(.ref 25)]
def o31 := ts [("__class__", 211)]
def o32 := nf
def o33 := ts [("self", 212), ("what", 213)]
def o34 := ts []
def o35 := t1 2 (some 0) "SmtError.__init__"
def o36 := cd "__init__" 208 "SmtError.__init__" 209 210 7 2 0 0 3 31 true 181 32 (.ref 33) (.ref 34) (.ref 35) 214 7 215
def o37 := ff (fd 3 (st 2 (some 0)) (s "SmtError.__init__") [((s "__class__"), 25)] .none .none .none (S "minismt.errors" 194) (.ref 36) (.ref 30))
def o38 := ts []
def o39 := nf
def o40 := ts [("self", 220)]
def o41 := ts []
def o42 := t1 2 (some 1) "SmtError.told"
def o43 := cd "told" 217 "SmtError.told" 218 219 11 1 0 0 3 38 true 181 39 (.ref 40) (.ref 41) (.ref 42) 221 11 222
def o44 := f3 2 (some 1) "SmtError.told" (S "minismt.errors" 194) 43
def o45 := ts [("what", 224)]
def o46 (P : Params) : Obj := ob (.type "dict") none (.dict [en P (s "__module__") 203 (S "minismt.errors" 194), en P (s "__firstlineno__") 207 (.int 5 206), en P (s "__init__") 216 (.ref 37), en P (s "told") 223 (.ref 44), en P (s "__static_attributes__") 225 (.ref 45), en P (s "__weakref__") 228 (.ref 48), en P (s "__doc__") 229 .none].toArray 4) []
def o47 := ob (.type "type") none (.cls ({ name := (s "SmtError"), bases := [(.type "Exception")], mro := [(.ref 47), (.type "Exception"), (.type "BaseException"), (.type "object")], ns := 46, qualname := (s "SmtError"), hasDict := true, slotNames := [], subclasses := [(.ref 67), (.ref 86)], abstract := false, collection := none, hasDel := false } : ClassData)) [(some (.ref 22)), none, (some (S "SmtError" 196)), (some (S "SmtError" 204)), (some (.builtin "Exception.__new__")), (some (.bool true))]
def o48 := ob (.type "getset_descriptor") none (.fields [(S "__weakref__" 227), (.ref 47), (.builtin "ExceptionGroup.__weakref__"), .none].toArray) []
def o49 := ob (.type "super") none (.fields [(.ref 47), (.ref 47), (.ref 47)].toArray) []
def o50 := ob (.type "builtin_function_or_method") none (.fields [(.builtin "object.__init_subclass__"), (.ref 47)].toArray) []
def o51 := tp [(.ref 47)]
def o52 := ob (.type "builtin_function_or_method") none (.fields [(.builtin "type.__prepare__"), (.type "type")].toArray) []
def o53 (P : Params) : Obj := ob (.type "dict") none (.dict [en P (s "__module__") 241 (S "minismt.errors" 194), en P (s "__qualname__") 243 (S "SortFault" 242), en P (s "__firstlineno__") 245 (.int 13 244), en P (s "told") 252 (.ref 64), en P (s "__static_attributes__") 253 (.ref 65)].toArray 5) []
def o54 := ts []
def o55 := ob .none none (.fields [(.int 15 0), (.int 4 0), (.ref 63)].toArray) []
def o56 := cd "SortFault" 236 "SortFault" 237 238 13 0 0 0 0 54 false 181 55 .none .none .none 239 13 240
def o57 := ob (.type "frame") none .plain [(some (.ref 56)), (some (.ref 3)), (some (.ref 53)), none, (some (S "minismt.errors" 194)), none, (some (.ref 0))]
def o58 := ts []
def o59 := nf
def o60 := ts [("self", 249)]
def o61 := ts []
def o62 := t1 3 (some 0) "SortFault.told"
def o63 := cd "told" 246 "SortFault.told" 247 248 15 1 0 0 3 58 true 181 59 (.ref 60) (.ref 61) (.ref 62) 250 15 251
def o64 := f3 3 (some 0) "SortFault.told" (S "minismt.errors" 194) 63
def o65 := ts []
def o66 (P : Params) : Obj := ob (.type "dict") none (.dict [en P (s "__module__") 241 (S "minismt.errors" 194), en P (s "__firstlineno__") 245 (.int 13 244), en P (s "told") 252 (.ref 64), en P (s "__static_attributes__") 253 (.ref 65), en P (s "__doc__") 254 .none].toArray 2) []
def o67 := ob (.type "type") none (.cls ({ name := (s "SortFault"), bases := [(.ref 47)], mro := [(.ref 67), (.ref 47), (.type "Exception"), (.type "BaseException"), (.type "object")], ns := 66, qualname := (s "SortFault"), hasDict := true, slotNames := [], subclasses := [], abstract := false, collection := none, hasDel := false } : ClassData)) [(some (.ref 51)), none, (some (S "SortFault" 234)), (some (S "SortFault" 242)), (some (.builtin "Exception.__new__")), (some (.bool true))]
def o68 := ob (.type "super") none (.fields [(.ref 67), (.ref 67), (.ref 67)].toArray) []
def o69 := ob (.type "builtin_function_or_method") none (.fields [(.builtin "object.__init_subclass__"), (.ref 67)].toArray) []
def o70 := tp [(.ref 47)]
def o71 := ob (.type "builtin_function_or_method") none (.fields [(.builtin "type.__prepare__"), (.type "type")].toArray) []
def o72 (P : Params) : Obj := ob (.type "dict") none (.dict [en P (s "__module__") 264 (S "minismt.errors" 194), en P (s "__qualname__") 266 (S "LimitFault" 265), en P (s "__firstlineno__") 268 (.int 17 267), en P (s "told") 275 (.ref 83), en P (s "__static_attributes__") 276 (.ref 84)].toArray 5) []
def o73 := ts []
def o74 := ob .none none (.fields [(.int 19 0), (.int 4 0), (.ref 82)].toArray) []
def o75 := cd "LimitFault" 259 "LimitFault" 260 261 17 0 0 0 0 73 false 181 74 .none .none .none 262 17 263
def o76 := ob (.type "frame") none .plain [(some (.ref 75)), (some (.ref 3)), (some (.ref 72)), none, (some (S "minismt.errors" 194)), none, (some (.ref 0))]
def o77 := ts []
def o78 := nf
def o79 := ts [("self", 272)]
def o80 := ts []
def o81 := t1 4 (some 0) "LimitFault.told"
def o82 := cd "told" 269 "LimitFault.told" 270 271 19 1 0 0 3 77 true 181 78 (.ref 79) (.ref 80) (.ref 81) 273 19 274
def o83 := f3 4 (some 0) "LimitFault.told" (S "minismt.errors" 194) 82
def o84 := ts []
def o85 (P : Params) : Obj := ob (.type "dict") none (.dict [en P (s "__module__") 264 (S "minismt.errors" 194), en P (s "__firstlineno__") 268 (.int 17 267), en P (s "told") 275 (.ref 83), en P (s "__static_attributes__") 276 (.ref 84), en P (s "__doc__") 277 .none].toArray 2) []
def o86 := ob (.type "type") none (.cls ({ name := (s "LimitFault"), bases := [(.ref 47)], mro := [(.ref 86), (.ref 47), (.type "Exception"), (.type "BaseException"), (.type "object")], ns := 85, qualname := (s "LimitFault"), hasDict := true, slotNames := [], subclasses := [], abstract := false, collection := none, hasDel := false } : ClassData)) [(some (.ref 70)), none, (some (S "LimitFault" 257)), (some (S "LimitFault" 265)), (some (.builtin "Exception.__new__")), (some (.bool true))]
def o87 := ob (.type "super") none (.fields [(.ref 86), (.ref 86), (.ref 86)].toArray) []
def o88 := ob (.type "builtin_function_or_method") none (.fields [(.builtin "object.__init_subclass__"), (.ref 86)].toArray) []
def o3v3 (P : Params) : Obj := ob (.type "dict") none (.dict [en P (s "__name__") 165 (S "minismt.terms" 337), en P (s "__doc__") 166 .none, en P (s "__package__") 167 .none, en P (s "__loader__") 168 (.builtin "__main__.__loader__#opaque"), en P (s "__spec__") 169 .none, en P (s "__annotations__") 170 (.ref 6), en P (s "__builtins__") 171 (.ref 4), en P (s "__file__") 173 (S "/claim/cut.py" 172), en P (s "__cached__") 174 .none, en P (s "_wall") 193 (.ref 21), en P (s "SmtError") 233 (.ref 47), en P (s "SortFault") 256 (.ref 67), en P (s "LimitFault") 279 (.ref 86), en P (s "ModelFault") 302 (.ref 105), en P (s "gcd_of") 312 (.ref 114), en P (s "ratio") 321 (.ref 121), en P (s "mul") 329 (.ref 128), en P (s "is_whole") 336 (.ref 135), en P (s "mask_of") 345 (.ref 142), en P (s "signed_of") 353 (.ref 149), en P (s "one_value") 362 (.ref 156), en P (s "divided_value") 371 (.ref 163), en P (s "rest_value") 379 (.ref 170), en P (s "shifted_value") 389 (.ref 177), en P (s "two_value") 399 (.ref 184), en P (s "extract_value") 408 (.ref 191), en P (s "sign_extended") 417 (.ref 198), en P (s "power_of") 424 (.ref 205), en P (s "BOOL") 426 (.int 0 425), en P (s "INT") 428 (.int 1 427), en P (s "REAL") 430 (.int 2 429), en P (s "WIDEST") 432 (.int 4096 431), en P (s "MOST_BITS") 436 (.int 65536 435), en P (s "BV_SAME") 447 (.ref 206), en P (s "BV_ASK") 452 (.ref 207), en P (s "VALUE_OPS") 457 (.ref 208)].toArray 36) []
def o12v4 := ob .none none (.fields [(.int 1 0), (.int 0 0), (.ref 20), (.int 5 0), (.int 0 0), (.ref 28), (.int 13 0), (.int 0 0), (.ref 56), (.int 17 0), (.int 0 0), (.ref 75), (.int 21 0), (.int 0 0), (.ref 94), (.int 26 0), (.int 0 0), (.ref 113), (.int 31 0), (.int 0 0), (.ref 120), (.int 38 0), (.int 0 0), (.ref 127), (.int 42 0), (.int 0 0), (.ref 134), (.int 45 0), (.int 0 0), (.ref 141), (.int 47 0), (.int 0 0), (.ref 148), (.int 49 0), (.int 0 0), (.ref 155), (.int 55 0), (.int 0 0), (.ref 162), (.int 57 0), (.int 0 0), (.ref 169), (.int 59 0), (.int 0 0), (.ref 176), (.int 63 0), (.int 0 0), (.ref 183), (.int 83 0), (.int 0 0), (.ref 190), (.int 85 0), (.int 0 0), (.ref 197), (.int 87 0), (.int 0 0), (.ref 204)].toArray) []
def o47v5 := ob (.type "type") none (.cls ({ name := (s "SmtError"), bases := [(.type "Exception")], mro := [(.ref 47), (.type "Exception"), (.type "BaseException"), (.type "object")], ns := 46, qualname := (s "SmtError"), hasDict := true, slotNames := [], subclasses := [(.ref 67), (.ref 86), (.ref 105)], abstract := false, collection := none, hasDel := false } : ClassData)) [(some (.ref 22)), none, (some (S "SmtError" 196)), (some (S "SmtError" 204)), (some (.builtin "Exception.__new__")), (some (.bool true))]
def o89 := tp [(.ref 47)]
def o90 := ob (.type "builtin_function_or_method") none (.fields [(.builtin "type.__prepare__"), (.type "type")].toArray) []
def o91 (P : Params) : Obj := ob (.type "dict") none (.dict [en P (s "__module__") 287 (S "minismt.errors" 194), en P (s "__qualname__") 289 (S "ModelFault" 288), en P (s "__firstlineno__") 291 (.int 21 290), en P (s "told") 298 (.ref 102), en P (s "__static_attributes__") 299 (.ref 103)].toArray 5) []
def o92 := ts []
def o93 := ob .none none (.fields [(.int 23 0), (.int 4 0), (.ref 101)].toArray) []
def o94 := cd "ModelFault" 282 "ModelFault" 283 284 21 0 0 0 0 92 false 181 93 .none .none .none 285 21 286
def o95 := ob (.type "frame") none .plain [(some (.ref 94)), (some (.ref 3)), (some (.ref 91)), none, (some (S "minismt.errors" 194)), none, (some (.ref 0))]
def o96 := ts []
def o97 := nf
def o98 := ts [("self", 295)]
def o99 := ts []
def o100 := t1 5 (some 0) "ModelFault.told"
def o101 := cd "told" 292 "ModelFault.told" 293 294 23 1 0 0 3 96 true 181 97 (.ref 98) (.ref 99) (.ref 100) 296 23 297
def o102 := f3 5 (some 0) "ModelFault.told" (S "minismt.errors" 194) 101
def o103 := ts []
def o104 (P : Params) : Obj := ob (.type "dict") none (.dict [en P (s "__module__") 287 (S "minismt.errors" 194), en P (s "__firstlineno__") 291 (.int 21 290), en P (s "told") 298 (.ref 102), en P (s "__static_attributes__") 299 (.ref 103), en P (s "__doc__") 300 .none].toArray 2) []
def o105 := ob (.type "type") none (.cls ({ name := (s "ModelFault"), bases := [(.ref 47)], mro := [(.ref 105), (.ref 47), (.type "Exception"), (.type "BaseException"), (.type "object")], ns := 104, qualname := (s "ModelFault"), hasDict := true, slotNames := [], subclasses := [], abstract := false, collection := none, hasDel := false } : ClassData)) [(some (.ref 89)), none, (some (S "ModelFault" 280)), (some (S "ModelFault" 288)), (some (.builtin "Exception.__new__")), (some (.bool true))]
def o106 := ob (.type "super") none (.fields [(.ref 105), (.ref 105), (.ref 105)].toArray) []
def o107 := ob (.type "builtin_function_or_method") none (.fields [(.builtin "object.__init_subclass__"), (.ref 105)].toArray) []
def o108 := ts []
def o109 := nf
def o110 := ts [("a", 308), ("b", 309)]
def o111 := ts []
def o112 := t1 7 none "gcd_of"
def o113 := cd "gcd_of" 305 "gcd_of" 306 307 26 2 0 0 3 108 true 181 109 (.ref 110) (.ref 111) (.ref 112) 310 26 311
def o114 := f3 7 none "gcd_of" (S "minismt.ratios" 303) 113
def o115 := ts []
def o116 := nf
def o117 := ts [("top", 316), ("bottom", 317), ("common", 318)]
def o118 := ts []
def o119 := t1 8 none "ratio"
def o120 := cd "ratio" 313 "ratio" 314 315 31 2 0 0 3 115 true 181 116 (.ref 117) (.ref 118) (.ref 119) 319 31 320
def o121 := f3 8 none "ratio" (S "minismt.ratios" 303) 120
def o122 := ts []
def o123 := nf
def o124 := ts [("a", 325), ("b", 326)]
def o125 := ts []
def o126 := t1 9 none "mul"
def o127 := cd "mul" 322 "mul" 323 324 38 2 0 0 3 122 true 181 123 (.ref 124) (.ref 125) (.ref 126) 327 38 328
def o128 := f3 9 none "mul" (S "minismt.ratios" 303) 127
def o129 := ts []
def o130 := nf
def o131 := ts [("a", 333)]
def o132 := ts []
def o133 := t1 10 none "is_whole"
def o134 := cd "is_whole" 330 "is_whole" 331 332 42 1 0 0 3 129 true 181 130 (.ref 131) (.ref 132) (.ref 133) 334 42 335
def o135 := f3 10 none "is_whole" (S "minismt.ratios" 303) 134
def o136 := ts []
def o137 := nf
def o138 := ts [("width", 342)]
def o139 := ts []
def o140 := t1 12 none "mask_of"
def o141 := cd "mask_of" 339 "mask_of" 340 341 45 1 0 0 3 136 true 181 137 (.ref 138) (.ref 139) (.ref 140) 343 45 344
def o142 := f3 12 none "mask_of" (S "minismt.terms" 337) 141
def o143 := ts []
def o144 := nf
def o145 := ts [("x", 349), ("width", 350)]
def o146 := ts []
def o147 := t1 13 none "signed_of"
def o148 := cd "signed_of" 346 "signed_of" 347 348 47 2 0 0 3 143 true 181 144 (.ref 145) (.ref 146) (.ref 147) 351 47 352
def o149 := f3 13 none "signed_of" (S "minismt.terms" 337) 148
def o150 := ts []
def o151 := nf
def o152 := ts [("op", 357), ("x", 358), ("width", 359)]
def o153 := ts []
def o154 := t1 14 none "one_value"
def o155 := cd "one_value" 354 "one_value" 355 356 49 3 0 0 3 150 true 181 151 (.ref 152) (.ref 153) (.ref 154) 360 49 361
def o156 := f3 14 none "one_value" (S "minismt.terms" 337) 155
def o157 := ts []
def o158 := nf
def o159 := ts [("x", 366), ("y", 367), ("width", 368)]
def o160 := ts []
def o161 := t1 15 none "divided_value"
def o162 := cd "divided_value" 363 "divided_value" 364 365 55 3 0 0 3 157 true 181 158 (.ref 159) (.ref 160) (.ref 161) 369 55 370
def o163 := f3 15 none "divided_value" (S "minismt.terms" 337) 162
def o164 := ts []
def o165 := nf
def o166 := ts [("x", 375), ("y", 376)]
def o167 := ts []
def o168 := t1 16 none "rest_value"
def o169 := cd "rest_value" 372 "rest_value" 373 374 57 2 0 0 3 164 true 181 165 (.ref 166) (.ref 167) (.ref 168) 377 57 378
def o170 := f3 16 none "rest_value" (S "minismt.terms" 337) 169
def o171 := ts []
def o172 := nf
def o173 := ts [("op", 383), ("x", 384), ("y", 385), ("width", 386)]
def o174 := ts []
def o175 := t1 17 none "shifted_value"
def o176 := cd "shifted_value" 380 "shifted_value" 381 382 59 4 0 0 3 171 true 181 172 (.ref 173) (.ref 174) (.ref 175) 387 59 388
def o177 := f3 17 none "shifted_value" (S "minismt.terms" 337) 176
def o178 := ts []
def o179 := nf
def o180 := ts [("op", 393), ("x", 394), ("y", 395), ("width", 396)]
def o181 := ts []
def o182 := t1 18 none "two_value"
def o183 := cd "two_value" 390 "two_value" 391 392 63 4 0 0 3 178 true 181 179 (.ref 180) (.ref 181) (.ref 182) 397 63 398
def o184 := f3 18 none "two_value" (S "minismt.terms" 337) 183
def o185 := ts []
def o186 := nf
def o187 := ts [("x", 403), ("high", 404), ("low", 405)]
def o188 := ts []
def o189 := t1 19 none "extract_value"
def o190 := cd "extract_value" 400 "extract_value" 401 402 83 3 0 0 3 185 true 181 186 (.ref 187) (.ref 188) (.ref 189) 406 83 407
def o191 := f3 19 none "extract_value" (S "minismt.terms" 337) 190
def o192 := ts []
def o193 := nf
def o194 := ts [("x", 412), ("width", 413), ("many", 414)]
def o195 := ts []
def o196 := t1 20 none "sign_extended"
def o197 := cd "sign_extended" 409 "sign_extended" 410 411 85 3 0 0 3 192 true 181 193 (.ref 194) (.ref 195) (.ref 196) 415 85 416
def o198 := f3 20 none "sign_extended" (S "minismt.terms" 337) 197
def o199 := ts []
def o200 := nf
def o201 := ts [("x", 421)]
def o202 := ts []
def o203 := t1 21 none "power_of"
def o204 := cd "power_of" 418 "power_of" 419 420 87 1 0 0 3 199 true 181 200 (.ref 201) (.ref 202) (.ref 203) 422 87 423
def o205 := f3 21 none "power_of" (S "minismt.terms" 337) 204
def o206 := ts [("bvand", 437), ("bvor", 438), ("bvxor", 439), ("bvadd", 440), ("bvsub", 441), ("bvmul", 442), ("bvshl", 443), ("bvlshr", 444), ("bvudiv", 445), ("bvurem", 446)]
def o207 := ts [("bvult", 448), ("bvule", 449), ("bvslt", 450), ("bvsle", 451)]
def o208 := ts [("true", 453), ("false", 454), ("num", 455), ("bvnum", 456)]
def o3v6 (P : Params) : Obj := ob (.type "dict") none (.dict [en P (s "__name__") 165 (S "minismt.terms" 337), en P (s "__doc__") 166 .none, en P (s "__package__") 167 .none, en P (s "__loader__") 168 (.builtin "__main__.__loader__#opaque"), en P (s "__spec__") 169 .none, en P (s "__annotations__") 170 (.ref 6), en P (s "__builtins__") 171 (.ref 4), en P (s "__file__") 173 (S "/claim/cut.py" 172), en P (s "__cached__") 174 .none, en P (s "_wall") 193 (.ref 21), en P (s "SmtError") 233 (.ref 47), en P (s "SortFault") 256 (.ref 67), en P (s "LimitFault") 279 (.ref 86), en P (s "ModelFault") 302 (.ref 105), en P (s "gcd_of") 312 (.ref 114), en P (s "ratio") 321 (.ref 121), en P (s "mul") 329 (.ref 128), en P (s "is_whole") 336 (.ref 135), en P (s "mask_of") 345 (.ref 142), en P (s "signed_of") 353 (.ref 149), en P (s "one_value") 362 (.ref 156), en P (s "divided_value") 371 (.ref 163), en P (s "rest_value") 379 (.ref 170), en P (s "shifted_value") 389 (.ref 177), en P (s "two_value") 399 (.ref 184), en P (s "extract_value") 408 (.ref 191), en P (s "sign_extended") 417 (.ref 198), en P (s "power_of") 424 (.ref 205), en P (s "BOOL") 426 (.int 0 425), en P (s "INT") 428 (.int 1 427), en P (s "REAL") 430 (.int 2 429), en P (s "WIDEST") 432 (.int 4096 431), en P (s "MOST_BITS") 436 (.int 65536 435), en P (s "BV_SAME") 447 (.ref 206), en P (s "BV_ASK") 452 (.ref 207), en P (s "VALUE_OPS") 457 (.ref 208), en P (s "Bank") 735 (.ref 421)].toArray 37) []
def o12v7 := ob .none none (.fields [(.int 1 0), (.int 0 0), (.ref 20), (.int 5 0), (.int 0 0), (.ref 28), (.int 13 0), (.int 0 0), (.ref 56), (.int 17 0), (.int 0 0), (.ref 75), (.int 21 0), (.int 0 0), (.ref 94), (.int 26 0), (.int 0 0), (.ref 113), (.int 31 0), (.int 0 0), (.ref 120), (.int 38 0), (.int 0 0), (.ref 127), (.int 42 0), (.int 0 0), (.ref 134), (.int 45 0), (.int 0 0), (.ref 141), (.int 47 0), (.int 0 0), (.ref 148), (.int 49 0), (.int 0 0), (.ref 155), (.int 55 0), (.int 0 0), (.ref 162), (.int 57 0), (.int 0 0), (.ref 169), (.int 59 0), (.int 0 0), (.ref 176), (.int 63 0), (.int 0 0), (.ref 183), (.int 83 0), (.int 0 0), (.ref 190), (.int 85 0), (.int 0 0), (.ref 197), (.int 87 0), (.int 0 0), (.ref 204), (.int 97 0), (.int 0 0), (.ref 214)].toArray) []
def o209 := ts []
def o210 := ob (.type "builtin_function_or_method") none (.fields [(.builtin "type.__prepare__"), (.type "type")].toArray) []
def o211 (P : Params) : Obj := ob (.type "dict") none (.dict [en P (s "__module__") 465 (S "minismt.terms" 337), en P (s "__qualname__") 467 (S "Bank" 466), en P (s "__firstlineno__") 469 (.int 97 468), en P (s "__init__") 476 (.ref 222), en P (s "sort_name") 484 (.ref 229), en P (s "declare_sort") 492 (.ref 236), en P (s "width_of") 500 (.ref 243), en P (s "is_number_sort") 508 (.ref 250), en P (s "is_free_sort") 516 (.ref 257), en P (s "declare_fun") 526 (.ref 264), en P (s "fresh_fun") 536 (.ref 271), en P (s "fresh_const") 545 (.ref 278), en P (s "fun_name") 553 (.ref 285), en P (s "fun_arg_sorts") 561 (.ref 292), en P (s "fun_result") 569 (.ref 299), en P (s "fun_count") 576 (.ref 306), en P (s "op") 584 (.ref 313), en P (s "args") 592 (.ref 320), en P (s "sort") 600 (.ref 327), en P (s "data") 608 (.ref 334), en P (s "width") 616 (.ref 341), en P (s "size") 623 (.ref 348), en P (s "make") 636 (.ref 355), en P (s "find_made") 647 (.ref 362), en P (s "is_value") 655 (.ref 369), en P (s "want") 665 (.ref 376), en P (s "want_all") 676 (.ref 383), en P (s "true_term") 683 (.ref 390), en P (s "false_term") 690 (.ref 397), en P (s "bool_term") 698 (.ref 404), en P (s "parts") 706 (.ref 411), en P (s "parts_of_all") 714 (.ref 418), en P (s "__static_attributes__") 728 (.ref 419)].toArray 33) []
def o212 := ts []
def o213 := ob .none none (.fields [(.int 99 0), (.int 4 0), (.ref 221), (.int 114 0), (.int 4 0), (.ref 228), (.int 117 0), (.int 4 0), (.ref 235), (.int 120 0), (.int 4 0), (.ref 242), (.int 123 0), (.int 4 0), (.ref 249), (.int 126 0), (.int 4 0), (.ref 256), (.int 129 0), (.int 4 0), (.ref 263), (.int 135 0), (.int 4 0), (.ref 270), (.int 138 0), (.int 4 0), (.ref 277), (.int 141 0), (.int 4 0), (.ref 284), (.int 144 0), (.int 4 0), (.ref 291), (.int 147 0), (.int 4 0), (.ref 298), (.int 150 0), (.int 4 0), (.ref 305), (.int 153 0), (.int 4 0), (.ref 312), (.int 156 0), (.int 4 0), (.ref 319), (.int 159 0), (.int 4 0), (.ref 326), (.int 162 0), (.int 4 0), (.ref 333), (.int 165 0), (.int 4 0), (.ref 340), (.int 168 0), (.int 4 0), (.ref 347), (.int 171 0), (.int 4 0), (.ref 354), (.int 183 0), (.int 4 0), (.ref 361), (.int 186 0), (.int 4 0), (.ref 368), (.int 189 0), (.int 4 0), (.ref 375), (.int 193 0), (.int 4 0), (.ref 382), (.int 197 0), (.int 4 0), (.ref 389), (.int 200 0), (.int 4 0), (.ref 396), (.int 203 0), (.int 4 0), (.ref 403), (.int 206 0), (.int 4 0), (.ref 410), (.int 209 0), (.int 4 0), (.ref 417)].toArray) []
def o214 := cd "Bank" 460 "Bank" 461 462 97 0 0 0 0 212 false 181 213 .none .none .none 463 97 464
def o215 := ob (.type "frame") none .plain [(some (.ref 214)), (some (.ref 3)), (some (.ref 211)), none, (some (S "minismt.terms" 337)), none, (some (.ref 0))]
def o216 := ts []
def o217 := nf
def o218 := ts [("self", 473)]
def o219 := ts []
def o220 := t1 30 (some 0) "Bank.__init__"
def o221 := cd "__init__" 470 "Bank.__init__" 471 472 99 1 0 0 3 216 true 181 217 (.ref 218) (.ref 219) (.ref 220) 474 99 475
def o222 := f3 30 (some 0) "Bank.__init__" (S "minismt.terms" 337) 221
def o223 := ts []
def o224 := nf
def o225 := ts [("self", 480), ("s", 481)]
def o226 := ts []
def o227 := t1 30 (some 1) "Bank.sort_name"
def o228 := cd "sort_name" 477 "Bank.sort_name" 478 479 114 2 0 0 3 223 true 181 224 (.ref 225) (.ref 226) (.ref 227) 482 114 483
def o229 := f3 30 (some 1) "Bank.sort_name" (S "minismt.terms" 337) 228
def o230 := ts []
def o231 := nf
def o232 := ts [("self", 488), ("name", 489)]
def o233 := ts []
def o234 := t1 30 (some 2) "Bank.declare_sort"
def o235 := cd "declare_sort" 485 "Bank.declare_sort" 486 487 117 2 0 0 3 230 true 181 231 (.ref 232) (.ref 233) (.ref 234) 490 117 491
def o236 := f3 30 (some 2) "Bank.declare_sort" (S "minismt.terms" 337) 235
def o237 := ts []
def o238 := nf
def o239 := ts [("self", 496), ("s", 497)]
def o240 := ts []
def o241 := t1 30 (some 3) "Bank.width_of"
def o242 := cd "width_of" 493 "Bank.width_of" 494 495 120 2 0 0 3 237 true 181 238 (.ref 239) (.ref 240) (.ref 241) 498 120 499
def o243 := f3 30 (some 3) "Bank.width_of" (S "minismt.terms" 337) 242
def o244 := ts []
def o245 := nf
def o246 := ts [("self", 504), ("s", 505)]
def o247 := ts []
def o248 := t1 30 (some 4) "Bank.is_number_sort"
def o249 := cd "is_number_sort" 501 "Bank.is_number_sort" 502 503 123 2 0 0 3 244 true 181 245 (.ref 246) (.ref 247) (.ref 248) 506 123 507
def o250 := f3 30 (some 4) "Bank.is_number_sort" (S "minismt.terms" 337) 249
def o251 := ts []
def o252 := nf
def o253 := ts [("self", 512), ("s", 513)]
def o254 := ts []
def o255 := t1 30 (some 5) "Bank.is_free_sort"
def o256 := cd "is_free_sort" 509 "Bank.is_free_sort" 510 511 126 2 0 0 3 251 true 181 252 (.ref 253) (.ref 254) (.ref 255) 514 126 515
def o257 := f3 30 (some 5) "Bank.is_free_sort" (S "minismt.terms" 337) 256
def o258 := ts []
def o259 := nf
def o260 := ts [("self", 520), ("name", 521), ("arg_sorts", 522), ("result", 523)]
def o261 := ts []
def o262 := t1 30 (some 6) "Bank.declare_fun"
def o263 := cd "declare_fun" 517 "Bank.declare_fun" 518 519 129 4 0 0 3 258 true 181 259 (.ref 260) (.ref 261) (.ref 262) 524 129 525
def o264 := f3 30 (some 6) "Bank.declare_fun" (S "minismt.terms" 337) 263
def o265 := ts []
def o266 := nf
def o267 := ts [("self", 530), ("stem", 531), ("arg_sorts", 532), ("result", 533)]
def o268 := ts []
def o269 := t1 30 (some 7) "Bank.fresh_fun"
def o270 := cd "fresh_fun" 527 "Bank.fresh_fun" 528 529 135 4 0 0 3 265 true 181 266 (.ref 267) (.ref 268) (.ref 269) 534 135 535
def o271 := f3 30 (some 7) "Bank.fresh_fun" (S "minismt.terms" 337) 270
def o272 := ts []
def o273 := nf
def o274 := ts [("self", 540), ("name", 541), ("s", 542)]
def o275 := ts []
def o276 := t1 30 (some 8) "Bank.fresh_const"
def o277 := cd "fresh_const" 537 "Bank.fresh_const" 538 539 138 3 0 0 3 272 true 181 273 (.ref 274) (.ref 275) (.ref 276) 543 138 544
def o278 := f3 30 (some 8) "Bank.fresh_const" (S "minismt.terms" 337) 277
def o279 := ts []
def o280 := nf
def o281 := ts [("self", 549), ("f", 550)]
def o282 := ts []
def o283 := t1 30 (some 9) "Bank.fun_name"
def o284 := cd "fun_name" 546 "Bank.fun_name" 547 548 141 2 0 0 3 279 true 181 280 (.ref 281) (.ref 282) (.ref 283) 551 141 552
def o285 := f3 30 (some 9) "Bank.fun_name" (S "minismt.terms" 337) 284
def o286 := ts []
def o287 := nf
def o288 := ts [("self", 557), ("f", 558)]
def o289 := ts []
def o290 := t1 30 (some 10) "Bank.fun_arg_sorts"
def o291 := cd "fun_arg_sorts" 554 "Bank.fun_arg_sorts" 555 556 144 2 0 0 3 286 true 181 287 (.ref 288) (.ref 289) (.ref 290) 559 144 560
def o292 := f3 30 (some 10) "Bank.fun_arg_sorts" (S "minismt.terms" 337) 291
def o293 := ts []
def o294 := nf
def o295 := ts [("self", 565), ("f", 566)]
def o296 := ts []
def o297 := t1 30 (some 11) "Bank.fun_result"
def o298 := cd "fun_result" 562 "Bank.fun_result" 563 564 147 2 0 0 3 293 true 181 294 (.ref 295) (.ref 296) (.ref 297) 567 147 568
def o299 := f3 30 (some 11) "Bank.fun_result" (S "minismt.terms" 337) 298
def o300 := ts []
def o301 := nf
def o302 := ts [("self", 573)]
def o303 := ts []
def o304 := t1 30 (some 12) "Bank.fun_count"
def o305 := cd "fun_count" 570 "Bank.fun_count" 571 572 150 1 0 0 3 300 true 181 301 (.ref 302) (.ref 303) (.ref 304) 574 150 575
def o306 := f3 30 (some 12) "Bank.fun_count" (S "minismt.terms" 337) 305
def o307 := ts []
def o308 := nf
def o309 := ts [("self", 580), ("t", 581)]
def o310 := ts []
def o311 := t1 30 (some 13) "Bank.op"
def o312 := cd "op" 577 "Bank.op" 578 579 153 2 0 0 3 307 true 181 308 (.ref 309) (.ref 310) (.ref 311) 582 153 583
def o313 := f3 30 (some 13) "Bank.op" (S "minismt.terms" 337) 312
def o314 := ts []
def o315 := nf
def o316 := ts [("self", 588), ("t", 589)]
def o317 := ts []
def o318 := t1 30 (some 14) "Bank.args"
def o319 := cd "args" 585 "Bank.args" 586 587 156 2 0 0 3 314 true 181 315 (.ref 316) (.ref 317) (.ref 318) 590 156 591
def o320 := f3 30 (some 14) "Bank.args" (S "minismt.terms" 337) 319
def o321 := ts []
def o322 := nf
def o323 := ts [("self", 596), ("t", 597)]
def o324 := ts []
def o325 := t1 30 (some 15) "Bank.sort"
def o326 := cd "sort" 593 "Bank.sort" 594 595 159 2 0 0 3 321 true 181 322 (.ref 323) (.ref 324) (.ref 325) 598 159 599
def o327 := f3 30 (some 15) "Bank.sort" (S "minismt.terms" 337) 326
def o328 := ts []
def o329 := nf
def o330 := ts [("self", 604), ("t", 605)]
def o331 := ts []
def o332 := t1 30 (some 16) "Bank.data"
def o333 := cd "data" 601 "Bank.data" 602 603 162 2 0 0 3 328 true 181 329 (.ref 330) (.ref 331) (.ref 332) 606 162 607
def o334 := f3 30 (some 16) "Bank.data" (S "minismt.terms" 337) 333
def o335 := ts []
def o336 := nf
def o337 := ts [("self", 612), ("t", 613)]
def o338 := ts []
def o339 := t1 30 (some 17) "Bank.width"
def o340 := cd "width" 609 "Bank.width" 610 611 165 2 0 0 3 335 true 181 336 (.ref 337) (.ref 338) (.ref 339) 614 165 615
def o341 := f3 30 (some 17) "Bank.width" (S "minismt.terms" 337) 340
def o342 := ts []
def o343 := nf
def o344 := ts [("self", 620)]
def o345 := ts []
def o346 := t1 30 (some 18) "Bank.size"
def o347 := cd "size" 617 "Bank.size" 618 619 168 1 0 0 3 342 true 181 343 (.ref 344) (.ref 345) (.ref 346) 621 168 622
def o348 := f3 30 (some 18) "Bank.size" (S "minismt.terms" 337) 347
def o349 := ts []
def o350 := nf
def o351 := ts [("self", 627), ("op", 628), ("args", 629), ("sort", 630), ("data", 631), ("key", 632), ("found", 633)]
def o352 := ts []
def o353 := t1 30 (some 19) "Bank.make"
def o354 := cd "make" 624 "Bank.make" 625 626 171 5 0 0 3 349 true 181 350 (.ref 351) (.ref 352) (.ref 353) 634 171 635
def o355 := f3 30 (some 19) "Bank.make" (S "minismt.terms" 337) 354
def o356 := ts []
def o357 := nf
def o358 := ts [("self", 640), ("op", 641), ("args", 642), ("sort", 643), ("data", 644)]
def o359 := ts []
def o360 := t1 30 (some 20) "Bank.find_made"
def o361 := cd "find_made" 637 "Bank.find_made" 638 639 183 5 0 0 3 356 true 181 357 (.ref 358) (.ref 359) (.ref 360) 645 183 646
def o362 := f3 30 (some 20) "Bank.find_made" (S "minismt.terms" 337) 361
def o363 := ts []
def o364 := nf
def o365 := ts [("self", 651), ("t", 652)]
def o366 := ts []
def o367 := t1 30 (some 21) "Bank.is_value"
def o368 := cd "is_value" 648 "Bank.is_value" 649 650 186 2 0 0 3 363 true 181 364 (.ref 365) (.ref 366) (.ref 367) 653 186 654
def o369 := f3 30 (some 21) "Bank.is_value" (S "minismt.terms" 337) 368
def o370 := ts []
def o371 := nf
def o372 := ts [("self", 659), ("t", 660), ("s", 661), ("where", 662)]
def o373 := ts []
def o374 := t1 30 (some 22) "Bank.want"
def o375 := cd "want" 656 "Bank.want" 657 658 189 4 0 0 3 370 true 181 371 (.ref 372) (.ref 373) (.ref 374) 663 189 664
def o376 := f3 30 (some 22) "Bank.want" (S "minismt.terms" 337) 375
def o377 := ts []
def o378 := nf
def o379 := ts [("self", 669), ("some", 670), ("s", 671), ("where", 672), ("t", 673)]
def o380 := ts []
def o381 := t1 30 (some 23) "Bank.want_all"
def o382 := cd "want_all" 666 "Bank.want_all" 667 668 193 4 0 0 3 377 true 181 378 (.ref 379) (.ref 380) (.ref 381) 674 193 675
def o383 := f3 30 (some 23) "Bank.want_all" (S "minismt.terms" 337) 382
def o384 := ts []
def o385 := nf
def o386 := ts [("self", 680)]
def o387 := ts []
def o388 := t1 30 (some 24) "Bank.true_term"
def o389 := cd "true_term" 677 "Bank.true_term" 678 679 197 1 0 0 3 384 true 181 385 (.ref 386) (.ref 387) (.ref 388) 681 197 682
def o390 := f3 30 (some 24) "Bank.true_term" (S "minismt.terms" 337) 389
def o391 := ts []
def o392 := nf
def o393 := ts [("self", 687)]
def o394 := ts []
def o395 := t1 30 (some 25) "Bank.false_term"
def o396 := cd "false_term" 684 "Bank.false_term" 685 686 200 1 0 0 3 391 true 181 392 (.ref 393) (.ref 394) (.ref 395) 688 200 689
def o397 := f3 30 (some 25) "Bank.false_term" (S "minismt.terms" 337) 396
def o398 := ts []
def o399 := nf
def o400 := ts [("self", 694), ("holds", 695)]
def o401 := ts []
def o402 := t1 30 (some 26) "Bank.bool_term"
def o403 := cd "bool_term" 691 "Bank.bool_term" 692 693 203 2 0 0 3 398 true 181 399 (.ref 400) (.ref 401) (.ref 402) 696 203 697
def o404 := f3 30 (some 26) "Bank.bool_term" (S "minismt.terms" 337) 403
def o405 := ts []
def o406 := nf
def o407 := ts [("self", 702), ("t", 703)]
def o408 := ts []
def o409 := t1 30 (some 27) "Bank.parts"
def o410 := cd "parts" 699 "Bank.parts" 700 701 206 2 0 0 3 405 true 181 406 (.ref 407) (.ref 408) (.ref 409) 704 206 705
def o411 := f3 30 (some 27) "Bank.parts" (S "minismt.terms" 337) 410
def o412 := ts []
def o413 := nf
def o414 := ts [("self", 710), ("some", 711)]
def o415 := ts []
def o416 := t1 30 (some 28) "Bank.parts_of_all"
def o417 := cd "parts_of_all" 707 "Bank.parts_of_all" 708 709 209 2 0 0 3 412 true 181 413 (.ref 414) (.ref 415) (.ref 416) 712 209 713
def o418 := f3 30 (some 28) "Bank.parts_of_all" (S "minismt.terms" 337) 417
def o419 := ts [("false_number", 715), ("fresh_count", 716), ("fun_args", 717), ("fun_names", 718), ("fun_results", 719), ("numbers", 720), ("sort_names", 721), ("sort_widths", 722), ("term_args", 723), ("term_datas", 724), ("term_ops", 725), ("term_sorts", 726), ("true_number", 727)]
def o420 (P : Params) : Obj := ob (.type "dict") none (.dict [en P (s "__module__") 465 (S "minismt.terms" 337), en P (s "__firstlineno__") 469 (.int 97 468), en P (s "__init__") 476 (.ref 222), en P (s "sort_name") 484 (.ref 229), en P (s "declare_sort") 492 (.ref 236), en P (s "width_of") 500 (.ref 243), en P (s "is_number_sort") 508 (.ref 250), en P (s "is_free_sort") 516 (.ref 257), en P (s "declare_fun") 526 (.ref 264), en P (s "fresh_fun") 536 (.ref 271), en P (s "fresh_const") 545 (.ref 278), en P (s "fun_name") 553 (.ref 285), en P (s "fun_arg_sorts") 561 (.ref 292), en P (s "fun_result") 569 (.ref 299), en P (s "fun_count") 576 (.ref 306), en P (s "op") 584 (.ref 313), en P (s "args") 592 (.ref 320), en P (s "sort") 600 (.ref 327), en P (s "data") 608 (.ref 334), en P (s "width") 616 (.ref 341), en P (s "size") 623 (.ref 348), en P (s "make") 636 (.ref 355), en P (s "find_made") 647 (.ref 362), en P (s "is_value") 655 (.ref 369), en P (s "want") 665 (.ref 376), en P (s "want_all") 676 (.ref 383), en P (s "true_term") 683 (.ref 390), en P (s "false_term") 690 (.ref 397), en P (s "bool_term") 698 (.ref 404), en P (s "parts") 706 (.ref 411), en P (s "parts_of_all") 714 (.ref 418), en P (s "__static_attributes__") 728 (.ref 419), en P (s "__dict__") 730 (.ref 422), en P (s "__weakref__") 732 (.ref 423), en P (s "__doc__") 733 .none].toArray 4) []
def o421 := ob (.type "type") none (.cls ({ name := (s "Bank"), bases := [(.type "object")], mro := [(.ref 421), (.type "object")], ns := 420, qualname := (s "Bank"), hasDict := true, slotNames := [], subclasses := [], abstract := false, collection := none, hasDel := false } : ClassData)) [none, none, (some (S "Bank" 458)), (some (S "Bank" 466)), (some (.builtin "object.__new__")), (some (.bool true))]
def o422 := ob (.type "getset_descriptor") none (.fields [(S "__dict__" 729), (.ref 421), (.builtin "function.__dict__"), (.builtin "function.__dict__#set")].toArray) []
def o423 := ob (.type "getset_descriptor") none (.fields [(S "__weakref__" 731), (.ref 421), (.builtin "ExceptionGroup.__weakref__"), .none].toArray) []
def o424 := ob (.type "super") none (.fields [(.ref 421), (.ref 421), (.ref 421)].toArray) []
def o425 := ob (.type "builtin_function_or_method") none (.fields [(.builtin "object.__init_subclass__"), (.ref 421)].toArray) []
def o3v8 (P : Params) : Obj := ob (.type "dict") none (.dict [en P (s "__name__") 165 (S "minismt.terms" 337), en P (s "__doc__") 166 .none, en P (s "__package__") 167 .none, en P (s "__loader__") 168 (.builtin "__main__.__loader__#opaque"), en P (s "__spec__") 169 .none, en P (s "__annotations__") 170 (.ref 6), en P (s "__builtins__") 171 (.ref 4), en P (s "__file__") 173 (S "/claim/cut.py" 172), en P (s "__cached__") 174 .none, en P (s "_wall") 193 (.ref 21), en P (s "SmtError") 233 (.ref 47), en P (s "SortFault") 256 (.ref 67), en P (s "LimitFault") 279 (.ref 86), en P (s "ModelFault") 302 (.ref 105), en P (s "gcd_of") 312 (.ref 114), en P (s "ratio") 321 (.ref 121), en P (s "mul") 329 (.ref 128), en P (s "is_whole") 336 (.ref 135), en P (s "mask_of") 345 (.ref 142), en P (s "signed_of") 353 (.ref 149), en P (s "one_value") 362 (.ref 156), en P (s "divided_value") 371 (.ref 163), en P (s "rest_value") 379 (.ref 170), en P (s "shifted_value") 389 (.ref 177), en P (s "two_value") 399 (.ref 184), en P (s "extract_value") 408 (.ref 191), en P (s "sign_extended") 417 (.ref 198), en P (s "power_of") 424 (.ref 205), en P (s "BOOL") 426 (.int 0 425), en P (s "INT") 428 (.int 1 427), en P (s "REAL") 430 (.int 2 429), en P (s "WIDEST") 432 (.int 4096 431), en P (s "MOST_BITS") 436 (.int 65536 435), en P (s "BV_SAME") 447 (.ref 206), en P (s "BV_ASK") 452 (.ref 207), en P (s "VALUE_OPS") 457 (.ref 208), en P (s "Bank") 735 (.ref 421), en P (s "BoolBank") 868 (.ref 526), en P (s "want_small") 875 (.ref 535)].toArray 39) []
def o12v9 := ob .none none (.fields [(.int 1 0), (.int 0 0), (.ref 20), (.int 5 0), (.int 0 0), (.ref 28), (.int 13 0), (.int 0 0), (.ref 56), (.int 17 0), (.int 0 0), (.ref 75), (.int 21 0), (.int 0 0), (.ref 94), (.int 26 0), (.int 0 0), (.ref 113), (.int 31 0), (.int 0 0), (.ref 120), (.int 38 0), (.int 0 0), (.ref 127), (.int 42 0), (.int 0 0), (.ref 134), (.int 45 0), (.int 0 0), (.ref 141), (.int 47 0), (.int 0 0), (.ref 148), (.int 49 0), (.int 0 0), (.ref 155), (.int 55 0), (.int 0 0), (.ref 162), (.int 57 0), (.int 0 0), (.ref 169), (.int 59 0), (.int 0 0), (.ref 176), (.int 63 0), (.int 0 0), (.ref 183), (.int 83 0), (.int 0 0), (.ref 190), (.int 85 0), (.int 0 0), (.ref 197), (.int 87 0), (.int 0 0), (.ref 204), (.int 97 0), (.int 0 0), (.ref 214), (.int 211 0), (.int 0 0), (.ref 431), (.int 275 0), (.int 0 0), (.ref 534)].toArray) []
def o421v10 := ob (.type "type") none (.cls ({ name := (s "Bank"), bases := [(.type "object")], mro := [(.ref 421), (.type "object")], ns := 420, qualname := (s "Bank"), hasDict := true, slotNames := [], subclasses := [(.ref 526)], abstract := false, collection := none, hasDel := false } : ClassData)) [none, none, (some (S "Bank" 458)), (some (S "Bank" 466)), (some (.builtin "object.__new__")), (some (.bool true))]
def o426 := tp [(.ref 421)]
def o427 := ob (.type "builtin_function_or_method") none (.fields [(.builtin "type.__prepare__"), (.type "type")].toArray) []
def o428 (P : Params) : Obj := ob (.type "dict") none (.dict [en P (s "__module__") 743 (S "minismt.terms" 337), en P (s "__qualname__") 745 (S "BoolBank" 744), en P (s "__firstlineno__") 747 (.int 211 746), en P (s "not_of") 755 (.ref 439), en P (s "and_of") 763 (.ref 446), en P (s "or_of") 771 (.ref 453), en P (s "xor_of") 780 (.ref 460), en P (s "implies_of") 789 (.ref 467), en P (s "iff") 798 (.ref 474), en P (s "eq") 807 (.ref 481), en P (s "distinct") 815 (.ref 488), en P (s "ite") 825 (.ref 495), en P (s "app") 837 (.ref 502), en P (s "folded") 846 (.ref 509), en P (s "with_args") 855 (.ref 516), en P (s "replaced") 864 (.ref 523), en P (s "__static_attributes__") 865 (.ref 524)].toArray 17) []
def o429 := ts []
def o430 := ob .none none (.fields [(.int 213 0), (.int 4 0), (.ref 438), (.int 223 0), (.int 4 0), (.ref 445), (.int 229 0), (.int 4 0), (.ref 452), (.int 235 0), (.int 4 0), (.ref 459), (.int 238 0), (.int 4 0), (.ref 466), (.int 241 0), (.int 4 0), (.ref 473), (.int 245 0), (.int 4 0), (.ref 480), (.int 251 0), (.int 4 0), (.ref 487), (.int 254 0), (.int 4 0), (.ref 494), (.int 259 0), (.int 4 0), (.ref 501), (.int 267 0), (.int 4 0), (.ref 508), (.int 270 0), (.int 4 0), (.ref 515), (.int 273 0), (.int 4 0), (.ref 522)].toArray) []
def o431 := cd "BoolBank" 738 "BoolBank" 739 740 211 0 0 0 0 429 false 181 430 .none .none .none 741 211 742
def o432 := ob (.type "frame") none .plain [(some (.ref 431)), (some (.ref 3)), (some (.ref 428)), none, (some (S "minismt.terms" 337)), none, (some (.ref 0))]
def o433 := ts []
def o434 := nf
def o435 := ts [("self", 751), ("t", 752)]
def o436 := ts []
def o437 := t1 31 (some 0) "BoolBank.not_of"
def o438 := cd "not_of" 748 "BoolBank.not_of" 749 750 213 2 0 0 3 433 true 181 434 (.ref 435) (.ref 436) (.ref 437) 753 213 754
def o439 := f3 31 (some 0) "BoolBank.not_of" (S "minismt.terms" 337) 438
def o440 := ts []
def o441 := nf
def o442 := ts [("self", 759), ("some", 760)]
def o443 := ts []
def o444 := t1 31 (some 1) "BoolBank.and_of"
def o445 := cd "and_of" 756 "BoolBank.and_of" 757 758 223 2 0 0 3 440 true 181 441 (.ref 442) (.ref 443) (.ref 444) 761 223 762
def o446 := f3 31 (some 1) "BoolBank.and_of" (S "minismt.terms" 337) 445
def o447 := ts []
def o448 := nf
def o449 := ts [("self", 767), ("some", 768)]
def o450 := ts []
def o451 := t1 31 (some 2) "BoolBank.or_of"
def o452 := cd "or_of" 764 "BoolBank.or_of" 765 766 229 2 0 0 3 447 true 181 448 (.ref 449) (.ref 450) (.ref 451) 769 229 770
def o453 := f3 31 (some 2) "BoolBank.or_of" (S "minismt.terms" 337) 452
def o454 := ts []
def o455 := nf
def o456 := ts [("self", 775), ("a", 776), ("b", 777)]
def o457 := ts []
def o458 := t1 31 (some 3) "BoolBank.xor_of"
def o459 := cd "xor_of" 772 "BoolBank.xor_of" 773 774 235 3 0 0 3 454 true 181 455 (.ref 456) (.ref 457) (.ref 458) 778 235 779
def o460 := f3 31 (some 3) "BoolBank.xor_of" (S "minismt.terms" 337) 459
def o461 := ts []
def o462 := nf
def o463 := ts [("self", 784), ("a", 785), ("b", 786)]
def o464 := ts []
def o465 := t1 31 (some 4) "BoolBank.implies_of"
def o466 := cd "implies_of" 781 "BoolBank.implies_of" 782 783 238 3 0 0 3 461 true 181 462 (.ref 463) (.ref 464) (.ref 465) 787 238 788
def o467 := f3 31 (some 4) "BoolBank.implies_of" (S "minismt.terms" 337) 466
def o468 := ts []
def o469 := nf
def o470 := ts [("self", 793), ("a", 794), ("b", 795)]
def o471 := ts []
def o472 := t1 31 (some 5) "BoolBank.iff"
def o473 := cd "iff" 790 "BoolBank.iff" 791 792 241 3 0 0 3 468 true 181 469 (.ref 470) (.ref 471) (.ref 472) 796 241 797
def o474 := f3 31 (some 5) "BoolBank.iff" (S "minismt.terms" 337) 473
def o475 := ts []
def o476 := nf
def o477 := ts [("self", 802), ("a", 803), ("b", 804)]
def o478 := ts []
def o479 := t1 31 (some 6) "BoolBank.eq"
def o480 := cd "eq" 799 "BoolBank.eq" 800 801 245 3 0 0 3 475 true 181 476 (.ref 477) (.ref 478) (.ref 479) 805 245 806
def o481 := f3 31 (some 6) "BoolBank.eq" (S "minismt.terms" 337) 480
def o482 := ts []
def o483 := nf
def o484 := ts [("self", 811), ("some", 812)]
def o485 := ts []
def o486 := t1 31 (some 7) "BoolBank.distinct"
def o487 := cd "distinct" 808 "BoolBank.distinct" 809 810 251 2 0 0 3 482 true 181 483 (.ref 484) (.ref 485) (.ref 486) 813 251 814
def o488 := f3 31 (some 7) "BoolBank.distinct" (S "minismt.terms" 337) 487
def o489 := ts []
def o490 := nf
def o491 := ts [("self", 819), ("c", 820), ("a", 821), ("b", 822)]
def o492 := ts []
def o493 := t1 31 (some 8) "BoolBank.ite"
def o494 := cd "ite" 816 "BoolBank.ite" 817 818 254 4 0 0 3 489 true 181 490 (.ref 491) (.ref 492) (.ref 493) 823 254 824
def o495 := f3 31 (some 8) "BoolBank.ite" (S "minismt.terms" 337) 494
def o496 := ts []
def o497 := nf
def o498 := ts [("self", 829), ("f", 830), ("some", 831), ("sorts", 832), ("t", 833), ("s", 834)]
def o499 := ts []
def o500 := t1 31 (some 9) "BoolBank.app"
def o501 := cd "app" 826 "BoolBank.app" 827 828 259 3 0 0 3 496 true 181 497 (.ref 498) (.ref 499) (.ref 500) 835 259 836
def o502 := f3 31 (some 9) "BoolBank.app" (S "minismt.terms" 337) 501
def o503 := ts []
def o504 := nf
def o505 := ts [("self", 841), ("t", 842), ("args", 843)]
def o506 := ts []
def o507 := t1 31 (some 10) "BoolBank.folded"
def o508 := cd "folded" 838 "BoolBank.folded" 839 840 267 3 0 0 3 503 true 181 504 (.ref 505) (.ref 506) (.ref 507) 844 267 845
def o509 := f3 31 (some 10) "BoolBank.folded" (S "minismt.terms" 337) 508
def o510 := ts []
def o511 := nf
def o512 := ts [("self", 850), ("t", 851), ("args", 852)]
def o513 := ts []
def o514 := t1 31 (some 11) "BoolBank.with_args"
def o515 := cd "with_args" 847 "BoolBank.with_args" 848 849 270 3 0 0 3 510 true 181 511 (.ref 512) (.ref 513) (.ref 514) 853 270 854
def o516 := f3 31 (some 11) "BoolBank.with_args" (S "minismt.terms" 337) 515
def o517 := ts []
def o518 := nf
def o519 := ts [("self", 859), ("t", 860), ("table", 861)]
def o520 := ts []
def o521 := t1 31 (some 12) "BoolBank.replaced"
def o522 := cd "replaced" 856 "BoolBank.replaced" 857 858 273 3 0 0 3 517 true 181 518 (.ref 519) (.ref 520) (.ref 521) 862 273 863
def o523 := f3 31 (some 12) "BoolBank.replaced" (S "minismt.terms" 337) 522
def o524 := ts []
def o525 (P : Params) : Obj := ob (.type "dict") none (.dict [en P (s "__module__") 743 (S "minismt.terms" 337), en P (s "__firstlineno__") 747 (.int 211 746), en P (s "not_of") 755 (.ref 439), en P (s "and_of") 763 (.ref 446), en P (s "or_of") 771 (.ref 453), en P (s "xor_of") 780 (.ref 460), en P (s "implies_of") 789 (.ref 467), en P (s "iff") 798 (.ref 474), en P (s "eq") 807 (.ref 481), en P (s "distinct") 815 (.ref 488), en P (s "ite") 825 (.ref 495), en P (s "app") 837 (.ref 502), en P (s "folded") 846 (.ref 509), en P (s "with_args") 855 (.ref 516), en P (s "replaced") 864 (.ref 523), en P (s "__static_attributes__") 865 (.ref 524), en P (s "__doc__") 866 .none].toArray 2) []
def o526 := ob (.type "type") none (.cls ({ name := (s "BoolBank"), bases := [(.ref 421)], mro := [(.ref 526), (.ref 421), (.type "object")], ns := 525, qualname := (s "BoolBank"), hasDict := true, slotNames := [], subclasses := [], abstract := false, collection := none, hasDel := false } : ClassData)) [(some (.ref 426)), none, (some (S "BoolBank" 736)), (some (S "BoolBank" 744)), (some (.builtin "object.__new__")), (some (.bool true))]
def o527 := ob (.type "super") none (.fields [(.ref 526), (.ref 526), (.ref 526)].toArray) []
def o528 := ob (.type "builtin_function_or_method") none (.fields [(.builtin "object.__init_subclass__"), (.ref 526)].toArray) []
def o529 := ts []
def o530 := nf
def o531 := ts [("value", 872)]
def o532 := ts []
def o533 := t1 32 none "want_small"
def o534 := cd "want_small" 869 "want_small" 870 871 275 1 0 0 3 529 true 181 530 (.ref 531) (.ref 532) (.ref 533) 873 275 874
def o535 := f3 32 none "want_small" (S "minismt.terms" 337) 534
def o3v11 (P : Params) : Obj := ob (.type "dict") none (.dict [en P (s "__name__") 165 (S "minismt.terms" 337), en P (s "__doc__") 166 .none, en P (s "__package__") 167 .none, en P (s "__loader__") 168 (.builtin "__main__.__loader__#opaque"), en P (s "__spec__") 169 .none, en P (s "__annotations__") 170 (.ref 6), en P (s "__builtins__") 171 (.ref 4), en P (s "__file__") 173 (S "/claim/cut.py" 172), en P (s "__cached__") 174 .none, en P (s "_wall") 193 (.ref 21), en P (s "SmtError") 233 (.ref 47), en P (s "SortFault") 256 (.ref 67), en P (s "LimitFault") 279 (.ref 86), en P (s "ModelFault") 302 (.ref 105), en P (s "gcd_of") 312 (.ref 114), en P (s "ratio") 321 (.ref 121), en P (s "mul") 329 (.ref 128), en P (s "is_whole") 336 (.ref 135), en P (s "mask_of") 345 (.ref 142), en P (s "signed_of") 353 (.ref 149), en P (s "one_value") 362 (.ref 156), en P (s "divided_value") 371 (.ref 163), en P (s "rest_value") 379 (.ref 170), en P (s "shifted_value") 389 (.ref 177), en P (s "two_value") 399 (.ref 184), en P (s "extract_value") 408 (.ref 191), en P (s "sign_extended") 417 (.ref 198), en P (s "power_of") 424 (.ref 205), en P (s "BOOL") 426 (.int 0 425), en P (s "INT") 428 (.int 1 427), en P (s "REAL") 430 (.int 2 429), en P (s "WIDEST") 432 (.int 4096 431), en P (s "MOST_BITS") 436 (.int 65536 435), en P (s "BV_SAME") 447 (.ref 206), en P (s "BV_ASK") 452 (.ref 207), en P (s "VALUE_OPS") 457 (.ref 208), en P (s "Bank") 735 (.ref 421), en P (s "BoolBank") 868 (.ref 526), en P (s "want_small") 875 (.ref 535), en P (s "NumberBank") 989 (.ref 622)].toArray 40) []
def o12v12 := ob .none none (.fields [(.int 1 0), (.int 0 0), (.ref 20), (.int 5 0), (.int 0 0), (.ref 28), (.int 13 0), (.int 0 0), (.ref 56), (.int 17 0), (.int 0 0), (.ref 75), (.int 21 0), (.int 0 0), (.ref 94), (.int 26 0), (.int 0 0), (.ref 113), (.int 31 0), (.int 0 0), (.ref 120), (.int 38 0), (.int 0 0), (.ref 127), (.int 42 0), (.int 0 0), (.ref 134), (.int 45 0), (.int 0 0), (.ref 141), (.int 47 0), (.int 0 0), (.ref 148), (.int 49 0), (.int 0 0), (.ref 155), (.int 55 0), (.int 0 0), (.ref 162), (.int 57 0), (.int 0 0), (.ref 169), (.int 59 0), (.int 0 0), (.ref 176), (.int 63 0), (.int 0 0), (.ref 183), (.int 83 0), (.int 0 0), (.ref 190), (.int 85 0), (.int 0 0), (.ref 197), (.int 87 0), (.int 0 0), (.ref 204), (.int 97 0), (.int 0 0), (.ref 214), (.int 211 0), (.int 0 0), (.ref 431), (.int 275 0), (.int 0 0), (.ref 534), (.int 278 0), (.int 0 0), (.ref 541)].toArray) []
def o526v13 := ob (.type "type") none (.cls ({ name := (s "BoolBank"), bases := [(.ref 421)], mro := [(.ref 526), (.ref 421), (.type "object")], ns := 525, qualname := (s "BoolBank"), hasDict := true, slotNames := [], subclasses := [(.ref 622)], abstract := false, collection := none, hasDel := false } : ClassData)) [(some (.ref 426)), none, (some (S "BoolBank" 736)), (some (S "BoolBank" 744)), (some (.builtin "object.__new__")), (some (.bool true))]
def o536 := tp [(.ref 526)]
def o537 := ob (.type "builtin_function_or_method") none (.fields [(.builtin "type.__prepare__"), (.type "type")].toArray) []
def o538 (P : Params) : Obj := ob (.type "dict") none (.dict [en P (s "__module__") 883 (S "minismt.terms" 337), en P (s "__qualname__") 885 (S "NumberBank" 884), en P (s "__firstlineno__") 887 (.int 278 886), en P (s "num") 896 (.ref 549), en P (s "want_number") 905 (.ref 556), en P (s "plus") 913 (.ref 563), en P (s "times_num") 923 (.ref 570), en P (s "times") 932 (.ref 577), en P (s "over_num") 941 (.ref 584), en P (s "negative") 949 (.ref 591), en P (s "minus") 958 (.ref 598), en P (s "le") 967 (.ref 605), en P (s "lt") 976 (.ref 612), en P (s "with_args") 985 (.ref 619), en P (s "__static_attributes__") 986 (.ref 620)].toArray 15) []
def o539 := ts []
def o540 := ob .none none (.fields [(.int 280 0), (.int 4 0), (.ref 548), (.int 288 0), (.int 4 0), (.ref 555), (.int 292 0), (.int 4 0), (.ref 562), (.int 295 0), (.int 4 0), (.ref 569), (.int 302 0), (.int 4 0), (.ref 576), (.int 311 0), (.int 4 0), (.ref 583), (.int 314 0), (.int 4 0), (.ref 590), (.int 317 0), (.int 4 0), (.ref 597), (.int 320 0), (.int 4 0), (.ref 604), (.int 323 0), (.int 4 0), (.ref 611), (.int 326 0), (.int 4 0), (.ref 618)].toArray) []
def o541 := cd "NumberBank" 878 "NumberBank" 879 880 278 0 0 0 0 539 false 181 540 .none .none .none 881 278 882
def o542 := ob (.type "frame") none .plain [(some (.ref 541)), (some (.ref 3)), (some (.ref 538)), none, (some (S "minismt.terms" 337)), none, (some (.ref 0))]
def o543 := ts []
def o544 := nf
def o545 := ts [("self", 891), ("value", 892), ("s", 893)]
def o546 := ts []
def o547 := t1 33 (some 0) "NumberBank.num"
def o548 := cd "num" 888 "NumberBank.num" 889 890 280 3 0 0 3 543 true 181 544 (.ref 545) (.ref 546) (.ref 547) 894 280 895
def o549 := f3 33 (some 0) "NumberBank.num" (S "minismt.terms" 337) 548
def o550 := ts []
def o551 := nf
def o552 := ts [("self", 900), ("t", 901), ("where", 902)]
def o553 := ts []
def o554 := t1 33 (some 1) "NumberBank.want_number"
def o555 := cd "want_number" 897 "NumberBank.want_number" 898 899 288 3 0 0 3 550 true 181 551 (.ref 552) (.ref 553) (.ref 554) 903 288 904
def o556 := f3 33 (some 1) "NumberBank.want_number" (S "minismt.terms" 337) 555
def o557 := ts []
def o558 := nf
def o559 := ts [("self", 909), ("some", 910)]
def o560 := ts []
def o561 := t1 33 (some 2) "NumberBank.plus"
def o562 := cd "plus" 906 "NumberBank.plus" 907 908 292 2 0 0 3 557 true 181 558 (.ref 559) (.ref 560) (.ref 561) 911 292 912
def o563 := f3 33 (some 2) "NumberBank.plus" (S "minismt.terms" 337) 562
def o564 := ts []
def o565 := nf
def o566 := ts [("self", 917), ("value", 918), ("t", 919), ("s", 920)]
def o567 := ts []
def o568 := t1 33 (some 3) "NumberBank.times_num"
def o569 := cd "times_num" 914 "NumberBank.times_num" 915 916 295 3 0 0 3 564 true 181 565 (.ref 566) (.ref 567) (.ref 568) 921 295 922
def o570 := f3 33 (some 3) "NumberBank.times_num" (S "minismt.terms" 337) 569
def o571 := ts []
def o572 := nf
def o573 := ts [("self", 927), ("a", 928), ("b", 929)]
def o574 := ts []
def o575 := t1 33 (some 4) "NumberBank.times"
def o576 := cd "times" 924 "NumberBank.times" 925 926 302 3 0 0 3 571 true 181 572 (.ref 573) (.ref 574) (.ref 575) 930 302 931
def o577 := f3 33 (some 4) "NumberBank.times" (S "minismt.terms" 337) 576
def o578 := ts []
def o579 := nf
def o580 := ts [("self", 936), ("t", 937), ("value", 938)]
def o581 := ts []
def o582 := t1 33 (some 5) "NumberBank.over_num"
def o583 := cd "over_num" 933 "NumberBank.over_num" 934 935 311 3 0 0 3 578 true 181 579 (.ref 580) (.ref 581) (.ref 582) 939 311 940
def o584 := f3 33 (some 5) "NumberBank.over_num" (S "minismt.terms" 337) 583
def o585 := ts []
def o586 := nf
def o587 := ts [("self", 945), ("t", 946)]
def o588 := ts []
def o589 := t1 33 (some 6) "NumberBank.negative"
def o590 := cd "negative" 942 "NumberBank.negative" 943 944 314 2 0 0 3 585 true 181 586 (.ref 587) (.ref 588) (.ref 589) 947 314 948
def o591 := f3 33 (some 6) "NumberBank.negative" (S "minismt.terms" 337) 590
def o592 := ts []
def o593 := nf
def o594 := ts [("self", 953), ("a", 954), ("b", 955)]
def o595 := ts []
def o596 := t1 33 (some 7) "NumberBank.minus"
def o597 := cd "minus" 950 "NumberBank.minus" 951 952 317 3 0 0 3 592 true 181 593 (.ref 594) (.ref 595) (.ref 596) 956 317 957
def o598 := f3 33 (some 7) "NumberBank.minus" (S "minismt.terms" 337) 597
def o599 := ts []
def o600 := nf
def o601 := ts [("self", 962), ("a", 963), ("b", 964)]
def o602 := ts []
def o603 := t1 33 (some 8) "NumberBank.le"
def o604 := cd "le" 959 "NumberBank.le" 960 961 320 3 0 0 3 599 true 181 600 (.ref 601) (.ref 602) (.ref 603) 965 320 966
def o605 := f3 33 (some 8) "NumberBank.le" (S "minismt.terms" 337) 604
def o606 := ts []
def o607 := nf
def o608 := ts [("self", 971), ("a", 972), ("b", 973)]
def o609 := ts []
def o610 := t1 33 (some 9) "NumberBank.lt"
def o611 := cd "lt" 968 "NumberBank.lt" 969 970 323 3 0 0 3 606 true 181 607 (.ref 608) (.ref 609) (.ref 610) 974 323 975
def o612 := f3 33 (some 9) "NumberBank.lt" (S "minismt.terms" 337) 611
def o613 := ts []
def o614 := nf
def o615 := ts [("self", 980), ("t", 981), ("args", 982)]
def o616 := ts []
def o617 := t1 33 (some 10) "NumberBank.with_args"
def o618 := cd "with_args" 977 "NumberBank.with_args" 978 979 326 3 0 0 3 613 true 181 614 (.ref 615) (.ref 616) (.ref 617) 983 326 984
def o619 := f3 33 (some 10) "NumberBank.with_args" (S "minismt.terms" 337) 618
def o620 := ts []
def o621 (P : Params) : Obj := ob (.type "dict") none (.dict [en P (s "__module__") 883 (S "minismt.terms" 337), en P (s "__firstlineno__") 887 (.int 278 886), en P (s "num") 896 (.ref 549), en P (s "want_number") 905 (.ref 556), en P (s "plus") 913 (.ref 563), en P (s "times_num") 923 (.ref 570), en P (s "times") 932 (.ref 577), en P (s "over_num") 941 (.ref 584), en P (s "negative") 949 (.ref 591), en P (s "minus") 958 (.ref 598), en P (s "le") 967 (.ref 605), en P (s "lt") 976 (.ref 612), en P (s "with_args") 985 (.ref 619), en P (s "__static_attributes__") 986 (.ref 620), en P (s "__doc__") 987 .none].toArray 2) []
def o622 := ob (.type "type") none (.cls ({ name := (s "NumberBank"), bases := [(.ref 526)], mro := [(.ref 622), (.ref 526), (.ref 421), (.type "object")], ns := 621, qualname := (s "NumberBank"), hasDict := true, slotNames := [], subclasses := [], abstract := false, collection := none, hasDel := false } : ClassData)) [(some (.ref 536)), none, (some (S "NumberBank" 876)), (some (S "NumberBank" 884)), (some (.builtin "object.__new__")), (some (.bool true))]
def o623 := ob (.type "super") none (.fields [(.ref 622), (.ref 622), (.ref 622)].toArray) []
def o624 := ob (.type "builtin_function_or_method") none (.fields [(.builtin "object.__init_subclass__"), (.ref 622)].toArray) []
def o3v14 (P : Params) : Obj := ob (.type "dict") none (.dict [en P (s "__name__") 165 (S "minismt.rewrite" 1146), en P (s "__doc__") 166 .none, en P (s "__package__") 167 .none, en P (s "__loader__") 168 (.builtin "__main__.__loader__#opaque"), en P (s "__spec__") 169 .none, en P (s "__annotations__") 170 (.ref 6), en P (s "__builtins__") 171 (.ref 4), en P (s "__file__") 173 (S "/claim/cut.py" 172), en P (s "__cached__") 174 .none, en P (s "_wall") 193 (.ref 21), en P (s "SmtError") 233 (.ref 47), en P (s "SortFault") 256 (.ref 67), en P (s "LimitFault") 279 (.ref 86), en P (s "ModelFault") 302 (.ref 105), en P (s "gcd_of") 312 (.ref 114), en P (s "ratio") 321 (.ref 121), en P (s "mul") 329 (.ref 128), en P (s "is_whole") 336 (.ref 135), en P (s "mask_of") 345 (.ref 142), en P (s "signed_of") 353 (.ref 149), en P (s "one_value") 362 (.ref 156), en P (s "divided_value") 371 (.ref 163), en P (s "rest_value") 379 (.ref 170), en P (s "shifted_value") 389 (.ref 177), en P (s "two_value") 399 (.ref 184), en P (s "extract_value") 408 (.ref 191), en P (s "sign_extended") 417 (.ref 198), en P (s "power_of") 424 (.ref 205), en P (s "BOOL") 426 (.int 0 425), en P (s "INT") 428 (.int 1 427), en P (s "REAL") 430 (.int 2 429), en P (s "WIDEST") 432 (.int 4096 431), en P (s "MOST_BITS") 436 (.int 65536 435), en P (s "BV_SAME") 447 (.ref 206), en P (s "BV_ASK") 452 (.ref 207), en P (s "VALUE_OPS") 457 (.ref 208), en P (s "Bank") 735 (.ref 421), en P (s "BoolBank") 868 (.ref 526), en P (s "want_small") 875 (.ref 535), en P (s "NumberBank") 989 (.ref 622), en P (s "TermBank") 1145 (.ref 741), en P (s "MIXING") 1153 (.ref 744), en P (s "DEEPEST") 1155 (.int 50 1154)].toArray 43) []
def o12v15 := ob .none none (.fields [(.int 1 0), (.int 0 0), (.ref 20), (.int 5 0), (.int 0 0), (.ref 28), (.int 13 0), (.int 0 0), (.ref 56), (.int 17 0), (.int 0 0), (.ref 75), (.int 21 0), (.int 0 0), (.ref 94), (.int 26 0), (.int 0 0), (.ref 113), (.int 31 0), (.int 0 0), (.ref 120), (.int 38 0), (.int 0 0), (.ref 127), (.int 42 0), (.int 0 0), (.ref 134), (.int 45 0), (.int 0 0), (.ref 141), (.int 47 0), (.int 0 0), (.ref 148), (.int 49 0), (.int 0 0), (.ref 155), (.int 55 0), (.int 0 0), (.ref 162), (.int 57 0), (.int 0 0), (.ref 169), (.int 59 0), (.int 0 0), (.ref 176), (.int 63 0), (.int 0 0), (.ref 183), (.int 83 0), (.int 0 0), (.ref 190), (.int 85 0), (.int 0 0), (.ref 197), (.int 87 0), (.int 0 0), (.ref 204), (.int 97 0), (.int 0 0), (.ref 214), (.int 211 0), (.int 0 0), (.ref 431), (.int 275 0), (.int 0 0), (.ref 534), (.int 278 0), (.int 0 0), (.ref 541), (.int 328 0), (.int 0 0), (.ref 631)].toArray) []
def o622v16 := ob (.type "type") none (.cls ({ name := (s "NumberBank"), bases := [(.ref 526)], mro := [(.ref 622), (.ref 526), (.ref 421), (.type "object")], ns := 621, qualname := (s "NumberBank"), hasDict := true, slotNames := [], subclasses := [(.ref 741)], abstract := false, collection := none, hasDel := false } : ClassData)) [(some (.ref 536)), none, (some (S "NumberBank" 876)), (some (S "NumberBank" 884)), (some (.builtin "object.__new__")), (some (.bool true))]
def o625 := tp [(.ref 622)]
def o626 := ob (.type "builtin_function_or_method") none (.fields [(.builtin "type.__prepare__"), (.type "type")].toArray) []
def o627 (P : Params) : Obj := ob (.type "dict") none (.dict [en P (s "__module__") 997 (S "minismt.terms" 337), en P (s "__qualname__") 999 (S "TermBank" 998), en P (s "__firstlineno__") 1001 (.int 328 1000), en P (s "__init__") 1009 (.ref 640), en P (s "bv_sort") 1017 (.ref 647), en P (s "find_bv_sort") 1025 (.ref 654), en P (s "want_bits") 1034 (.ref 661), en P (s "bv_num") 1044 (.ref 668), en P (s "bv_one") 1053 (.ref 675), en P (s "bv_two") 1063 (.ref 682), en P (s "concat") 1072 (.ref 689), en P (s "extract") 1082 (.ref 696), en P (s "zero_extend") 1091 (.ref 703), en P (s "sign_extend") 1100 (.ref 710), en P (s "want_place") 1110 (.ref 717), en P (s "bit") 1119 (.ref 724), en P (s "carry") 1129 (.ref 731), en P (s "below") 1139 (.ref 738), en P (s "__static_attributes__") 1141 (.ref 739), en P (s "__classcell__") 1142 (.ref 628)].toArray 20) []
def o628 := ob (.type "cell") none (.cell (some (.ref 741))) []
def o629 := ts []
def o630 := ob .none none (.fields [(.int 330 0), (.int 4 0), (.ref 639), (.int 334 0), (.int 4 0), (.ref 646), (.int 345 0), (.int 4 0), (.ref 653), (.int 348 0), (.int 4 0), (.ref 660), (.int 352 0), (.int 4 0), (.ref 667), (.int 356 0), (.int 4 0), (.ref 674), (.int 362 0), (.int 4 0), (.ref 681), (.int 371 0), (.int 4 0), (.ref 688), (.int 376 0), (.int 4 0), (.ref 695), (.int 379 0), (.int 4 0), (.ref 702), (.int 385 0), (.int 4 0), (.ref 709), (.int 391 0), (.int 4 0), (.ref 716), (.int 395 0), (.int 4 0), (.ref 723), (.int 401 0), (.int 4 0), (.ref 730), (.int 404 0), (.int 4 0), (.ref 737)].toArray) []
def o631 := cd "TermBank" 992 "TermBank" 993 994 328 0 0 0 0 629 false 181 630 .none .none .none 995 328 996
def o632 := ob (.type "frame") none .plain [(some (.ref 631)), (some (.ref 3)), (some (.ref 627)), none, (some (S "minismt.terms" 337)), none, (some (.ref 0))]
def o633 := tp [(.ref 628)]
def o634 := ts [("__class__", 1005)]
def o635 := nf
def o636 := ts [("self", 1006)]
def o637 := ts []
def o638 := t1 34 (some 0) "TermBank.__init__"
def o639 := cd "__init__" 1002 "TermBank.__init__" 1003 1004 330 1 0 0 3 634 true 181 635 (.ref 636) (.ref 637) (.ref 638) 1007 330 1008
def o640 := ff (fd 3 (st 34 (some 0)) (s "TermBank.__init__") [((s "__class__"), 628)] .none .none .none (S "minismt.terms" 337) (.ref 639) (.ref 633))
def o641 := ts []
def o642 := nf
def o643 := ts [("self", 1013), ("width", 1014)]
def o644 := ts []
def o645 := t1 34 (some 1) "TermBank.bv_sort"
def o646 := cd "bv_sort" 1010 "TermBank.bv_sort" 1011 1012 334 2 0 0 3 641 true 181 642 (.ref 643) (.ref 644) (.ref 645) 1015 334 1016
def o647 := f3 34 (some 1) "TermBank.bv_sort" (S "minismt.terms" 337) 646
def o648 := ts []
def o649 := nf
def o650 := ts [("self", 1021), ("width", 1022)]
def o651 := ts []
def o652 := t1 34 (some 2) "TermBank.find_bv_sort"
def o653 := cd "find_bv_sort" 1018 "TermBank.find_bv_sort" 1019 1020 345 2 0 0 3 648 true 181 649 (.ref 650) (.ref 651) (.ref 652) 1023 345 1024
def o654 := f3 34 (some 2) "TermBank.find_bv_sort" (S "minismt.terms" 337) 653
def o655 := ts []
def o656 := nf
def o657 := ts [("self", 1029), ("t", 1030), ("where", 1031)]
def o658 := ts []
def o659 := t1 34 (some 3) "TermBank.want_bits"
def o660 := cd "want_bits" 1026 "TermBank.want_bits" 1027 1028 348 3 0 0 3 655 true 181 656 (.ref 657) (.ref 658) (.ref 659) 1032 348 1033
def o661 := f3 34 (some 3) "TermBank.want_bits" (S "minismt.terms" 337) 660
def o662 := ts []
def o663 := nf
def o664 := ts [("self", 1038), ("value", 1039), ("width", 1040), ("s", 1041)]
def o665 := ts []
def o666 := t1 34 (some 4) "TermBank.bv_num"
def o667 := cd "bv_num" 1035 "TermBank.bv_num" 1036 1037 352 3 0 0 3 662 true 181 663 (.ref 664) (.ref 665) (.ref 666) 1042 352 1043
def o668 := f3 34 (some 4) "TermBank.bv_num" (S "minismt.terms" 337) 667
def o669 := ts []
def o670 := nf
def o671 := ts [("self", 1048), ("op", 1049), ("t", 1050)]
def o672 := ts []
def o673 := t1 34 (some 5) "TermBank.bv_one"
def o674 := cd "bv_one" 1045 "TermBank.bv_one" 1046 1047 356 3 0 0 3 669 true 181 670 (.ref 671) (.ref 672) (.ref 673) 1051 356 1052
def o675 := f3 34 (some 5) "TermBank.bv_one" (S "minismt.terms" 337) 674
def o676 := ts []
def o677 := nf
def o678 := ts [("self", 1057), ("op", 1058), ("a", 1059), ("b", 1060)]
def o679 := ts []
def o680 := t1 34 (some 6) "TermBank.bv_two"
def o681 := cd "bv_two" 1054 "TermBank.bv_two" 1055 1056 362 4 0 0 3 676 true 181 677 (.ref 678) (.ref 679) (.ref 680) 1061 362 1062
def o682 := f3 34 (some 6) "TermBank.bv_two" (S "minismt.terms" 337) 681
def o683 := ts []
def o684 := nf
def o685 := ts [("self", 1067), ("a", 1068), ("b", 1069)]
def o686 := ts []
def o687 := t1 34 (some 7) "TermBank.concat"
def o688 := cd "concat" 1064 "TermBank.concat" 1065 1066 371 3 0 0 3 683 true 181 684 (.ref 685) (.ref 686) (.ref 687) 1070 371 1071
def o689 := f3 34 (some 7) "TermBank.concat" (S "minismt.terms" 337) 688
def o690 := ts []
def o691 := nf
def o692 := ts [("self", 1076), ("high", 1077), ("low", 1078), ("t", 1079)]
def o693 := ts []
def o694 := t1 34 (some 8) "TermBank.extract"
def o695 := cd "extract" 1073 "TermBank.extract" 1074 1075 376 4 0 0 3 690 true 181 691 (.ref 692) (.ref 693) (.ref 694) 1080 376 1081
def o696 := f3 34 (some 8) "TermBank.extract" (S "minismt.terms" 337) 695
def o697 := ts []
def o698 := nf
def o699 := ts [("self", 1086), ("many", 1087), ("t", 1088)]
def o700 := ts []
def o701 := t1 34 (some 9) "TermBank.zero_extend"
def o702 := cd "zero_extend" 1083 "TermBank.zero_extend" 1084 1085 379 3 0 0 3 697 true 181 698 (.ref 699) (.ref 700) (.ref 701) 1089 379 1090
def o703 := f3 34 (some 9) "TermBank.zero_extend" (S "minismt.terms" 337) 702
def o704 := ts []
def o705 := nf
def o706 := ts [("self", 1095), ("many", 1096), ("t", 1097)]
def o707 := ts []
def o708 := t1 34 (some 10) "TermBank.sign_extend"
def o709 := cd "sign_extend" 1092 "TermBank.sign_extend" 1093 1094 385 3 0 0 3 704 true 181 705 (.ref 706) (.ref 707) (.ref 708) 1098 385 1099
def o710 := f3 34 (some 10) "TermBank.sign_extend" (S "minismt.terms" 337) 709
def o711 := ts []
def o712 := nf
def o713 := ts [("self", 1104), ("i", 1105), ("t", 1106), ("where", 1107)]
def o714 := ts []
def o715 := t1 34 (some 11) "TermBank.want_place"
def o716 := cd "want_place" 1101 "TermBank.want_place" 1102 1103 391 4 0 0 3 711 true 181 712 (.ref 713) (.ref 714) (.ref 715) 1108 391 1109
def o717 := f3 34 (some 11) "TermBank.want_place" (S "minismt.terms" 337) 716
def o718 := ts []
def o719 := nf
def o720 := ts [("self", 1114), ("i", 1115), ("t", 1116)]
def o721 := ts []
def o722 := t1 34 (some 12) "TermBank.bit"
def o723 := cd "bit" 1111 "TermBank.bit" 1112 1113 395 3 0 0 3 718 true 181 719 (.ref 720) (.ref 721) (.ref 722) 1117 395 1118
def o724 := f3 34 (some 12) "TermBank.bit" (S "minismt.terms" 337) 723
def o725 := ts []
def o726 := nf
def o727 := ts [("self", 1123), ("i", 1124), ("a", 1125), ("b", 1126)]
def o728 := ts []
def o729 := t1 34 (some 13) "TermBank.carry"
def o730 := cd "carry" 1120 "TermBank.carry" 1121 1122 401 4 0 0 3 725 true 181 726 (.ref 727) (.ref 728) (.ref 729) 1127 401 1128
def o731 := f3 34 (some 13) "TermBank.carry" (S "minismt.terms" 337) 730
def o732 := ts []
def o733 := nf
def o734 := ts [("self", 1133), ("i", 1134), ("a", 1135), ("b", 1136)]
def o735 := ts []
def o736 := t1 34 (some 14) "TermBank.below"
def o737 := cd "below" 1130 "TermBank.below" 1131 1132 404 4 0 0 3 732 true 181 733 (.ref 734) (.ref 735) (.ref 736) 1137 404 1138
def o738 := f3 34 (some 14) "TermBank.below" (S "minismt.terms" 337) 737
def o739 := ts [("bv_numbers", 1140)]
def o740 (P : Params) : Obj := ob (.type "dict") none (.dict [en P (s "__module__") 997 (S "minismt.terms" 337), en P (s "__firstlineno__") 1001 (.int 328 1000), en P (s "__init__") 1009 (.ref 640), en P (s "bv_sort") 1017 (.ref 647), en P (s "find_bv_sort") 1025 (.ref 654), en P (s "want_bits") 1034 (.ref 661), en P (s "bv_num") 1044 (.ref 668), en P (s "bv_one") 1053 (.ref 675), en P (s "bv_two") 1063 (.ref 682), en P (s "concat") 1072 (.ref 689), en P (s "extract") 1082 (.ref 696), en P (s "zero_extend") 1091 (.ref 703), en P (s "sign_extend") 1100 (.ref 710), en P (s "want_place") 1110 (.ref 717), en P (s "bit") 1119 (.ref 724), en P (s "carry") 1129 (.ref 731), en P (s "below") 1139 (.ref 738), en P (s "__static_attributes__") 1141 (.ref 739), en P (s "__doc__") 1143 .none].toArray 3) []
def o741 := ob (.type "type") none (.cls ({ name := (s "TermBank"), bases := [(.ref 622)], mro := [(.ref 741), (.ref 622), (.ref 526), (.ref 421), (.type "object")], ns := 740, qualname := (s "TermBank"), hasDict := true, slotNames := [], subclasses := [], abstract := false, collection := none, hasDel := false } : ClassData)) [(some (.ref 625)), none, (some (S "TermBank" 990)), (some (S "TermBank" 998)), (some (.builtin "object.__new__")), (some (.bool true))]
def o742 := ob (.type "super") none (.fields [(.ref 741), (.ref 741), (.ref 741)].toArray) []
def o743 := ob (.type "builtin_function_or_method") none (.fields [(.builtin "object.__init_subclass__"), (.ref 741)].toArray) []
def o744 := ts [("bvand", 1148), ("bvor", 1149), ("bvxor", 1150), ("bvadd", 1151), ("bvmul", 1152)]
def o3v17 (P : Params) : Obj := ob (.type "dict") none (.dict [en P (s "__name__") 165 (S "minismt.rewrite" 1146), en P (s "__doc__") 166 .none, en P (s "__package__") 167 .none, en P (s "__loader__") 168 (.builtin "__main__.__loader__#opaque"), en P (s "__spec__") 169 .none, en P (s "__annotations__") 170 (.ref 6), en P (s "__builtins__") 171 (.ref 4), en P (s "__file__") 173 (S "/claim/cut.py" 172), en P (s "__cached__") 174 .none, en P (s "_wall") 193 (.ref 21), en P (s "SmtError") 233 (.ref 47), en P (s "SortFault") 256 (.ref 67), en P (s "LimitFault") 279 (.ref 86), en P (s "ModelFault") 302 (.ref 105), en P (s "gcd_of") 312 (.ref 114), en P (s "ratio") 321 (.ref 121), en P (s "mul") 329 (.ref 128), en P (s "is_whole") 336 (.ref 135), en P (s "mask_of") 345 (.ref 142), en P (s "signed_of") 353 (.ref 149), en P (s "one_value") 362 (.ref 156), en P (s "divided_value") 371 (.ref 163), en P (s "rest_value") 379 (.ref 170), en P (s "shifted_value") 389 (.ref 177), en P (s "two_value") 399 (.ref 184), en P (s "extract_value") 408 (.ref 191), en P (s "sign_extended") 417 (.ref 198), en P (s "power_of") 424 (.ref 205), en P (s "BOOL") 426 (.int 0 425), en P (s "INT") 428 (.int 1 427), en P (s "REAL") 430 (.int 2 429), en P (s "WIDEST") 432 (.int 4096 431), en P (s "MOST_BITS") 436 (.int 65536 435), en P (s "BV_SAME") 447 (.ref 206), en P (s "BV_ASK") 452 (.ref 207), en P (s "VALUE_OPS") 457 (.ref 208), en P (s "Bank") 735 (.ref 421), en P (s "BoolBank") 868 (.ref 526), en P (s "want_small") 875 (.ref 535), en P (s "NumberBank") 989 (.ref 622), en P (s "TermBank") 1145 (.ref 741), en P (s "MIXING") 1153 (.ref 744), en P (s "DEEPEST") 1155 (.int 50 1154), en P (s "BoolRewriter") 1339 (.ref 867)].toArray 44) []
def o12v18 := ob .none none (.fields [(.int 1 0), (.int 0 0), (.ref 20), (.int 5 0), (.int 0 0), (.ref 28), (.int 13 0), (.int 0 0), (.ref 56), (.int 17 0), (.int 0 0), (.ref 75), (.int 21 0), (.int 0 0), (.ref 94), (.int 26 0), (.int 0 0), (.ref 113), (.int 31 0), (.int 0 0), (.ref 120), (.int 38 0), (.int 0 0), (.ref 127), (.int 42 0), (.int 0 0), (.ref 134), (.int 45 0), (.int 0 0), (.ref 141), (.int 47 0), (.int 0 0), (.ref 148), (.int 49 0), (.int 0 0), (.ref 155), (.int 55 0), (.int 0 0), (.ref 162), (.int 57 0), (.int 0 0), (.ref 169), (.int 59 0), (.int 0 0), (.ref 176), (.int 63 0), (.int 0 0), (.ref 183), (.int 83 0), (.int 0 0), (.ref 190), (.int 85 0), (.int 0 0), (.ref 197), (.int 87 0), (.int 0 0), (.ref 204), (.int 97 0), (.int 0 0), (.ref 214), (.int 211 0), (.int 0 0), (.ref 431), (.int 275 0), (.int 0 0), (.ref 534), (.int 278 0), (.int 0 0), (.ref 541), (.int 328 0), (.int 0 0), (.ref 631), (.int 412 0), (.int 0 0), (.ref 750)].toArray) []
def o745 := ts []
def o746 := ob (.type "builtin_function_or_method") none (.fields [(.builtin "type.__prepare__"), (.type "type")].toArray) []
def o747 (P : Params) : Obj := ob (.type "dict") none (.dict [en P (s "__module__") 1163 (S "minismt.rewrite" 1146), en P (s "__qualname__") 1165 (S "BoolRewriter" 1164), en P (s "__firstlineno__") 1167 (.int 412 1166), en P (s "__init__") 1175 (.ref 758), en P (s "simplify") 1183 (.ref 765), en P (s "made") 1192 (.ref 772), en P (s "flat") 1206 (.ref 779), en P (s "thinned") 1212 (.ref 784), en P (s "joined") 1225 (.ref 791), en P (s "negated") 1233 (.ref 798), en P (s "parity") 1241 (.ref 805), en P (s "same") 1252 (.ref 812), en P (s "chosen_bool") 1262 (.ref 819), en P (s "chosen") 1272 (.ref 826), en P (s "equal") 1285 (.ref 834), en P (s "equal_others") 1296 (.ref 842), en P (s "equal_chosen") 1310 (.ref 850), en P (s "are_too_many") 1318 (.ref 857), en P (s "apart") 1327 (.ref 864), en P (s "__static_attributes__") 1332 (.ref 865)].toArray 20) []
def o748 := ts []
def o749 := ob .none none (.fields [(.int 414 0), (.int 4 0), (.ref 757), (.int 420 0), (.int 4 0), (.ref 764), (.int 423 0), (.int 4 0), (.ref 771), (.int 426 0), (.int 4 0), (.ref 778), (.int 441 0), (.int 4 0), (.ref 783), (.int 453 0), (.int 4 0), (.ref 790), (.int 463 0), (.int 4 0), (.ref 797), (.int 466 0), (.int 4 0), (.ref 804), (.int 469 0), (.int 4 0), (.ref 811), (.int 483 0), (.int 4 0), (.ref 818), (.int 496 0), (.int 4 0), (.ref 825), (.int 509 0), (.int 4 0), (.ref 833), (.int 521 0), (.int 4 0), (.ref 841), (.int 524 0), (.int 4 0), (.ref 849), (.int 530 0), (.int 4 0), (.ref 856), (.int 533 0), (.int 4 0), (.ref 863)].toArray) []
def o750 := cd "BoolRewriter" 1158 "BoolRewriter" 1159 1160 412 0 0 0 0 748 false 181 749 .none .none .none 1161 412 1162
def o751 := ob (.type "frame") none .plain [(some (.ref 750)), (some (.ref 3)), (some (.ref 747)), none, (some (S "minismt.rewrite" 1146)), none, (some (.ref 0))]
def o752 := ts []
def o753 := nf
def o754 := ts [("self", 1171), ("bank", 1172)]
def o755 := ts []
def o756 := t1 38 (some 0) "BoolRewriter.__init__"
def o757 := cd "__init__" 1168 "BoolRewriter.__init__" 1169 1170 414 2 0 0 3 752 true 181 753 (.ref 754) (.ref 755) (.ref 756) 1173 414 1174
def o758 := f3 38 (some 0) "BoolRewriter.__init__" (S "minismt.rewrite" 1146) 757
def o759 := ts []
def o760 := nf
def o761 := ts [("self", 1179), ("t", 1180)]
def o762 := ts []
def o763 := t1 38 (some 1) "BoolRewriter.simplify"
def o764 := cd "simplify" 1176 "BoolRewriter.simplify" 1177 1178 420 2 0 0 3 759 true 181 760 (.ref 761) (.ref 762) (.ref 763) 1181 420 1182
def o765 := f3 38 (some 1) "BoolRewriter.simplify" (S "minismt.rewrite" 1146) 764
def o766 := ts []
def o767 := nf
def o768 := ts [("self", 1187), ("t", 1188), ("args", 1189)]
def o769 := ts []
def o770 := t1 38 (some 2) "BoolRewriter.made"
def o771 := cd "made" 1184 "BoolRewriter.made" 1185 1186 423 3 0 0 3 766 true 181 767 (.ref 768) (.ref 769) (.ref 770) 1190 423 1191
def o772 := f3 38 (some 2) "BoolRewriter.made" (S "minismt.rewrite" 1146) 771
def o773 := ts []
def o774 := nf
def o775 := ts [("self", 1196), ("op", 1197), ("some", 1198), ("unit", 1199), ("settling", 1200), ("found", 1201), ("stack", 1202), ("t", 1203)]
def o776 := ts []
def o777 := t1 38 (some 3) "BoolRewriter.flat"
def o778 := cd "flat" 1193 "BoolRewriter.flat" 1194 1195 426 3 0 0 3 773 true 181 774 (.ref 775) (.ref 776) (.ref 777) 1204 426 1205
def o779 := f3 38 (some 3) "BoolRewriter.flat" (S "minismt.rewrite" 1146) 778
def o780 := ts []
def o781 := nf
def o782 := t1 38 (some 4) "BoolRewriter.thinned"
def o783 := cd "thinned" 1207 "BoolRewriter.thinned" 1208 1209 441 3 0 0 3 780 true 181 781 .none .none (.ref 782) 1210 441 1211
def o784 := f3 38 (some 4) "BoolRewriter.thinned" (S "minismt.rewrite" 1146) 783
def o785 := ts []
def o786 := nf
def o787 := ts [("self", 1216), ("op", 1217), ("some", 1218), ("settling", 1219), ("other", 1220), ("found", 1221), ("kept", 1222)]
def o788 := ts []
def o789 := t1 38 (some 5) "BoolRewriter.joined"
def o790 := cd "joined" 1213 "BoolRewriter.joined" 1214 1215 453 3 0 0 3 785 true 181 786 (.ref 787) (.ref 788) (.ref 789) 1223 453 1224
def o791 := f3 38 (some 5) "BoolRewriter.joined" (S "minismt.rewrite" 1146) 790
def o792 := ts []
def o793 := nf
def o794 := ts [("self", 1229), ("t", 1230)]
def o795 := ts []
def o796 := t1 38 (some 6) "BoolRewriter.negated"
def o797 := cd "negated" 1226 "BoolRewriter.negated" 1227 1228 463 2 0 0 3 792 true 181 793 (.ref 794) (.ref 795) (.ref 796) 1231 463 1232
def o798 := f3 38 (some 6) "BoolRewriter.negated" (S "minismt.rewrite" 1146) 797
def o799 := ts []
def o800 := nf
def o801 := ts [("self", 1237), ("some", 1238)]
def o802 := ts []
def o803 := t1 38 (some 7) "BoolRewriter.parity"
def o804 := cd "parity" 1234 "BoolRewriter.parity" 1235 1236 466 2 0 0 3 799 true 181 800 (.ref 801) (.ref 802) (.ref 803) 1239 466 1240
def o805 := f3 38 (some 7) "BoolRewriter.parity" (S "minismt.rewrite" 1146) 804
def o806 := ts []
def o807 := nf
def o808 := ts [("self", 1245), ("a", 1246), ("b", 1247), ("is_odd", 1248), ("result", 1249)]
def o809 := ts []
def o810 := t1 38 (some 8) "BoolRewriter.same"
def o811 := cd "same" 1242 "BoolRewriter.same" 1243 1244 469 3 0 0 3 806 true 181 807 (.ref 808) (.ref 809) (.ref 810) 1250 469 1251
def o812 := f3 38 (some 8) "BoolRewriter.same" (S "minismt.rewrite" 1146) 811
def o813 := ts []
def o814 := nf
def o815 := ts [("self", 1256), ("c", 1257), ("a", 1258), ("b", 1259)]
def o816 := ts []
def o817 := t1 38 (some 9) "BoolRewriter.chosen_bool"
def o818 := cd "chosen_bool" 1253 "BoolRewriter.chosen_bool" 1254 1255 483 4 0 0 3 813 true 181 814 (.ref 815) (.ref 816) (.ref 817) 1260 483 1261
def o819 := f3 38 (some 9) "BoolRewriter.chosen_bool" (S "minismt.rewrite" 1146) 818
def o820 := ts []
def o821 := nf
def o822 := ts [("self", 1266), ("c", 1267), ("a", 1268), ("b", 1269)]
def o823 := ts []
def o824 := t1 38 (some 10) "BoolRewriter.chosen"
def o825 := cd "chosen" 1263 "BoolRewriter.chosen" 1264 1265 496 4 0 0 3 820 true 181 821 (.ref 822) (.ref 823) (.ref 824) 1270 496 1271
def o826 := f3 38 (some 10) "BoolRewriter.chosen" (S "minismt.rewrite" 1146) 825
def o827 := tp [(.int 0 1273)]
def o828 := ts []
def o829 := nf
def o830 := ts [("self", 1277), ("a", 1278), ("b", 1279), ("deep", 1280), ("value", 1281), ("other", 1282)]
def o831 := ts []
def o832 := t1 38 (some 11) "BoolRewriter.equal"
def o833 := cd "equal" 1274 "BoolRewriter.equal" 1275 1276 509 4 0 0 3 828 true 181 829 (.ref 830) (.ref 831) (.ref 832) 1283 509 1284
def o834 := ff (fd 3 (st 38 (some 11)) (s "BoolRewriter.equal") [] (.ref 827) .none .none (S "minismt.rewrite" 1146) (.ref 833) .none)
def o835 := tp [(.int 0 1286)]
def o836 := ts []
def o837 := nf
def o838 := ts [("self", 1290), ("a", 1291), ("b", 1292), ("deep", 1293)]
def o839 := ts []
def o840 := t1 38 (some 12) "BoolRewriter.equal_others"
def o841 := cd "equal_others" 1287 "BoolRewriter.equal_others" 1288 1289 521 4 0 0 3 836 true 181 837 (.ref 838) (.ref 839) (.ref 840) 1294 521 1295
def o842 := ff (fd 3 (st 38 (some 12)) (s "BoolRewriter.equal_others") [] (.ref 835) .none .none (S "minismt.rewrite" 1146) (.ref 841) .none)
def o843 := tp [(.int 0 1297)]
def o844 := ts []
def o845 := nf
def o846 := ts [("self", 1301), ("value", 1302), ("b", 1303), ("deep", 1304), ("c", 1305), ("first", 1306), ("second", 1307)]
def o847 := ts []
def o848 := t1 38 (some 13) "BoolRewriter.equal_chosen"
def o849 := cd "equal_chosen" 1298 "BoolRewriter.equal_chosen" 1299 1300 524 4 0 0 3 844 true 181 845 (.ref 846) (.ref 847) (.ref 848) 1308 524 1309
def o850 := ff (fd 3 (st 38 (some 13)) (s "BoolRewriter.equal_chosen") [] (.ref 843) .none .none (S "minismt.rewrite" 1146) (.ref 849) .none)
def o851 := ts []
def o852 := nf
def o853 := ts [("self", 1314), ("args", 1315)]
def o854 := ts []
def o855 := t1 38 (some 14) "BoolRewriter.are_too_many"
def o856 := cd "are_too_many" 1311 "BoolRewriter.are_too_many" 1312 1313 530 2 0 0 3 851 true 181 852 (.ref 853) (.ref 854) (.ref 855) 1316 530 1317
def o857 := f3 38 (some 14) "BoolRewriter.are_too_many" (S "minismt.rewrite" 1146) 856
def o858 := ts []
def o859 := nf
def o860 := ts [("self", 1322), ("t", 1323), ("args", 1324)]
def o861 := ts []
def o862 := t1 38 (some 15) "BoolRewriter.apart"
def o863 := cd "apart" 1319 "BoolRewriter.apart" 1320 1321 533 3 0 0 3 858 true 181 859 (.ref 860) (.ref 861) (.ref 862) 1325 533 1326
def o864 := f3 38 (some 15) "BoolRewriter.apart" (S "minismt.rewrite" 1146) 863
def o865 := ts [("bank", 1328), ("known", 1329), ("no", 1330), ("yes", 1331)]
def o866 (P : Params) : Obj := ob (.type "dict") none (.dict [en P (s "__module__") 1163 (S "minismt.rewrite" 1146), en P (s "__firstlineno__") 1167 (.int 412 1166), en P (s "__init__") 1175 (.ref 758), en P (s "simplify") 1183 (.ref 765), en P (s "made") 1192 (.ref 772), en P (s "flat") 1206 (.ref 779), en P (s "thinned") 1212 (.ref 784), en P (s "joined") 1225 (.ref 791), en P (s "negated") 1233 (.ref 798), en P (s "parity") 1241 (.ref 805), en P (s "same") 1252 (.ref 812), en P (s "chosen_bool") 1262 (.ref 819), en P (s "chosen") 1272 (.ref 826), en P (s "equal") 1285 (.ref 834), en P (s "equal_others") 1296 (.ref 842), en P (s "equal_chosen") 1310 (.ref 850), en P (s "are_too_many") 1318 (.ref 857), en P (s "apart") 1327 (.ref 864), en P (s "__static_attributes__") 1332 (.ref 865), en P (s "__dict__") 1334 (.ref 868), en P (s "__weakref__") 1336 (.ref 869), en P (s "__doc__") 1337 .none].toArray 4) []
def o867 := ob (.type "type") none (.cls ({ name := (s "BoolRewriter"), bases := [(.type "object")], mro := [(.ref 867), (.type "object")], ns := 866, qualname := (s "BoolRewriter"), hasDict := true, slotNames := [], subclasses := [], abstract := false, collection := none, hasDel := false } : ClassData)) [none, none, (some (S "BoolRewriter" 1156)), (some (S "BoolRewriter" 1164)), (some (.builtin "object.__new__")), (some (.bool true))]
def o868 := ob (.type "getset_descriptor") none (.fields [(S "__dict__" 1333), (.ref 867), (.builtin "function.__dict__"), (.builtin "function.__dict__#set")].toArray) []
def o869 := ob (.type "getset_descriptor") none (.fields [(S "__weakref__" 1335), (.ref 867), (.builtin "ExceptionGroup.__weakref__"), .none].toArray) []
def o870 := ob (.type "super") none (.fields [(.ref 867), (.ref 867), (.ref 867)].toArray) []
def o871 := ob (.type "builtin_function_or_method") none (.fields [(.builtin "object.__init_subclass__"), (.ref 867)].toArray) []
def o3v19 (P : Params) : Obj := ob (.type "dict") none (.dict [en P (s "__name__") 165 (S "minismt.rewrite" 1146), en P (s "__doc__") 166 .none, en P (s "__package__") 167 .none, en P (s "__loader__") 168 (.builtin "__main__.__loader__#opaque"), en P (s "__spec__") 169 .none, en P (s "__annotations__") 170 (.ref 6), en P (s "__builtins__") 171 (.ref 4), en P (s "__file__") 173 (S "/claim/cut.py" 172), en P (s "__cached__") 174 .none, en P (s "_wall") 193 (.ref 21), en P (s "SmtError") 233 (.ref 47), en P (s "SortFault") 256 (.ref 67), en P (s "LimitFault") 279 (.ref 86), en P (s "ModelFault") 302 (.ref 105), en P (s "gcd_of") 312 (.ref 114), en P (s "ratio") 321 (.ref 121), en P (s "mul") 329 (.ref 128), en P (s "is_whole") 336 (.ref 135), en P (s "mask_of") 345 (.ref 142), en P (s "signed_of") 353 (.ref 149), en P (s "one_value") 362 (.ref 156), en P (s "divided_value") 371 (.ref 163), en P (s "rest_value") 379 (.ref 170), en P (s "shifted_value") 389 (.ref 177), en P (s "two_value") 399 (.ref 184), en P (s "extract_value") 408 (.ref 191), en P (s "sign_extended") 417 (.ref 198), en P (s "power_of") 424 (.ref 205), en P (s "BOOL") 426 (.int 0 425), en P (s "INT") 428 (.int 1 427), en P (s "REAL") 430 (.int 2 429), en P (s "WIDEST") 432 (.int 4096 431), en P (s "MOST_BITS") 436 (.int 65536 435), en P (s "BV_SAME") 447 (.ref 206), en P (s "BV_ASK") 452 (.ref 207), en P (s "VALUE_OPS") 457 (.ref 208), en P (s "Bank") 735 (.ref 421), en P (s "BoolBank") 868 (.ref 526), en P (s "want_small") 875 (.ref 535), en P (s "NumberBank") 989 (.ref 622), en P (s "TermBank") 1145 (.ref 741), en P (s "MIXING") 1153 (.ref 744), en P (s "DEEPEST") 1155 (.int 50 1154), en P (s "BoolRewriter") 1339 (.ref 867), en P (s "BitsRewriter") 1615 (.ref 1061)].toArray 45) []
def o12v20 := ob .none none (.fields [(.int 1 0), (.int 0 0), (.ref 20), (.int 5 0), (.int 0 0), (.ref 28), (.int 13 0), (.int 0 0), (.ref 56), (.int 17 0), (.int 0 0), (.ref 75), (.int 21 0), (.int 0 0), (.ref 94), (.int 26 0), (.int 0 0), (.ref 113), (.int 31 0), (.int 0 0), (.ref 120), (.int 38 0), (.int 0 0), (.ref 127), (.int 42 0), (.int 0 0), (.ref 134), (.int 45 0), (.int 0 0), (.ref 141), (.int 47 0), (.int 0 0), (.ref 148), (.int 49 0), (.int 0 0), (.ref 155), (.int 55 0), (.int 0 0), (.ref 162), (.int 57 0), (.int 0 0), (.ref 169), (.int 59 0), (.int 0 0), (.ref 176), (.int 63 0), (.int 0 0), (.ref 183), (.int 83 0), (.int 0 0), (.ref 190), (.int 85 0), (.int 0 0), (.ref 197), (.int 87 0), (.int 0 0), (.ref 204), (.int 97 0), (.int 0 0), (.ref 214), (.int 211 0), (.int 0 0), (.ref 431), (.int 275 0), (.int 0 0), (.ref 534), (.int 278 0), (.int 0 0), (.ref 541), (.int 328 0), (.int 0 0), (.ref 631), (.int 412 0), (.int 0 0), (.ref 750), (.int 535 0), (.int 0 0), (.ref 878)].toArray) []
def o867v21 := ob (.type "type") none (.cls ({ name := (s "BoolRewriter"), bases := [(.type "object")], mro := [(.ref 867), (.type "object")], ns := 866, qualname := (s "BoolRewriter"), hasDict := true, slotNames := [], subclasses := [(.ref 1061)], abstract := false, collection := none, hasDel := false } : ClassData)) [none, none, (some (S "BoolRewriter" 1156)), (some (S "BoolRewriter" 1164)), (some (.builtin "object.__new__")), (some (.bool true))]
def o872 := tp [(.ref 867)]
def o873 := ob (.type "builtin_function_or_method") none (.fields [(.builtin "type.__prepare__"), (.type "type")].toArray) []
def o874 (P : Params) : Obj := ob (.type "dict") none (.dict [en P (s "__module__") 1347 (S "minismt.rewrite" 1146), en P (s "__qualname__") 1349 (S "BitsRewriter" 1348), en P (s "__firstlineno__") 1351 (.int 535 1350), en P (s "made") 1360 (.ref 886), en P (s "equal_others") 1372 (.ref 895), en P (s "are_too_many") 1380 (.ref 902), en P (s "is_bits") 1388 (.ref 909), en P (s "value_or") 1397 (.ref 916), en P (s "number") 1406 (.ref 923), en P (s "one_bits") 1415 (.ref 930), en P (s "two_bits") 1425 (.ref 937), en P (s "mixed_bits") 1436 (.ref 944), en P (s "is_turned") 1446 (.ref 951), en P (s "mixed_number") 1457 (.ref 958), en P (s "less_bits") 1466 (.ref 965), en P (s "shifted_bits") 1477 (.ref 972), en P (s "divided_bits") 1490 (.ref 979), en P (s "asked_bits") 1500 (.ref 986), en P (s "put_together") 1509 (.ref 993), en P (s "cut_out") 1519 (.ref 1000), en P (s "cut_within") 1529 (.ref 1007), en P (s "cut_here") 1539 (.ref 1014), en P (s "wider") 1548 (.ref 1021), en P (s "wider_signed") 1557 (.ref 1028), en P (s "equal_bits") 1568 (.ref 1036), en P (s "equal_number") 1592 (.ref 1044), en P (s "bit_of") 1601 (.ref 1051), en P (s "bit_within") 1610 (.ref 1058), en P (s "__static_attributes__") 1611 (.ref 1059), en P (s "__classcell__") 1612 (.ref 875)].toArray 30) []
def o875 := ob (.type "cell") none (.cell (some (.ref 1061))) []
def o876 := ts []
def o877 := ob .none none (.fields [(.int 537 0), (.int 4 0), (.ref 885), (.int 540 0), (.int 4 0), (.ref 894), (.int 543 0), (.int 4 0), (.ref 901), (.int 546 0), (.int 4 0), (.ref 908), (.int 549 0), (.int 4 0), (.ref 915), (.int 552 0), (.int 4 0), (.ref 922), (.int 555 0), (.int 4 0), (.ref 929), (.int 564 0), (.int 4 0), (.ref 936), (.int 575 0), (.int 4 0), (.ref 943), (.int 591 0), (.int 4 0), (.ref 950), (.int 596 0), (.int 4 0), (.ref 957), (.int 612 0), (.int 4 0), (.ref 964), (.int 621 0), (.int 4 0), (.ref 971), (.int 629 0), (.int 4 0), (.ref 978), (.int 644 0), (.int 4 0), (.ref 985), (.int 647 0), (.int 4 0), (.ref 992), (.int 650 0), (.int 4 0), (.ref 999), (.int 653 0), (.int 4 0), (.ref 1006), (.int 656 0), (.int 4 0), (.ref 1013), (.int 659 0), (.int 4 0), (.ref 1020), (.int 662 0), (.int 4 0), (.ref 1027), (.int 665 0), (.int 4 0), (.ref 1035), (.int 676 0), (.int 4 0), (.ref 1043), (.int 705 0), (.int 4 0), (.ref 1050), (.int 708 0), (.int 4 0), (.ref 1057)].toArray) []
def o878 := cd "BitsRewriter" 1342 "BitsRewriter" 1343 1344 535 0 0 0 0 876 false 181 877 .none .none .none 1345 535 1346
def o879 := ob (.type "frame") none .plain [(some (.ref 878)), (some (.ref 3)), (some (.ref 874)), none, (some (S "minismt.rewrite" 1146)), none, (some (.ref 0))]
def o880 := ts []
def o881 := nf
def o882 := ts [("self", 1355), ("t", 1356), ("args", 1357)]
def o883 := ts []
def o884 := t1 39 (some 0) "BitsRewriter.made"
def o885 := cd "made" 1352 "BitsRewriter.made" 1353 1354 537 3 0 0 3 880 true 181 881 (.ref 882) (.ref 883) (.ref 884) 1358 537 1359
def o886 := f3 39 (some 0) "BitsRewriter.made" (S "minismt.rewrite" 1146) 885
def o887 := tp [(.int 0 1361)]
def o888 := tp [(.ref 875)]
def o889 := ts [("__class__", 1365)]
def o890 := nf
def o891 := ts [("self", 1366), ("a", 1367), ("b", 1368), ("deep", 1369)]
def o892 := ts []
def o893 := t1 39 (some 1) "BitsRewriter.equal_others"
def o894 := cd "equal_others" 1362 "BitsRewriter.equal_others" 1363 1364 540 4 0 0 3 889 true 181 890 (.ref 891) (.ref 892) (.ref 893) 1370 540 1371
def o895 := ff (fd 3 (st 39 (some 1)) (s "BitsRewriter.equal_others") [((s "__class__"), 875)] (.ref 887) .none .none (S "minismt.rewrite" 1146) (.ref 894) (.ref 888))
def o896 := ts []
def o897 := nf
def o898 := ts [("self", 1376), ("args", 1377)]
def o899 := ts []
def o900 := t1 39 (some 2) "BitsRewriter.are_too_many"
def o901 := cd "are_too_many" 1373 "BitsRewriter.are_too_many" 1374 1375 543 2 0 0 3 896 true 181 897 (.ref 898) (.ref 899) (.ref 900) 1378 543 1379
def o902 := f3 39 (some 2) "BitsRewriter.are_too_many" (S "minismt.rewrite" 1146) 901
def o903 := ts []
def o904 := nf
def o905 := ts [("self", 1384), ("t", 1385)]
def o906 := ts []
def o907 := t1 39 (some 3) "BitsRewriter.is_bits"
def o908 := cd "is_bits" 1381 "BitsRewriter.is_bits" 1382 1383 546 2 0 0 3 903 true 181 904 (.ref 905) (.ref 906) (.ref 907) 1386 546 1387
def o909 := f3 39 (some 3) "BitsRewriter.is_bits" (S "minismt.rewrite" 1146) 908
def o910 := ts []
def o911 := nf
def o912 := ts [("self", 1392), ("t", 1393), ("other", 1394)]
def o913 := ts []
def o914 := t1 39 (some 4) "BitsRewriter.value_or"
def o915 := cd "value_or" 1389 "BitsRewriter.value_or" 1390 1391 549 3 0 0 3 910 true 181 911 (.ref 912) (.ref 913) (.ref 914) 1395 549 1396
def o916 := f3 39 (some 4) "BitsRewriter.value_or" (S "minismt.rewrite" 1146) 915
def o917 := ts []
def o918 := nf
def o919 := ts [("self", 1401), ("value", 1402), ("like", 1403)]
def o920 := ts []
def o921 := t1 39 (some 5) "BitsRewriter.number"
def o922 := cd "number" 1398 "BitsRewriter.number" 1399 1400 552 3 0 0 3 917 true 181 918 (.ref 919) (.ref 920) (.ref 921) 1404 552 1405
def o923 := f3 39 (some 5) "BitsRewriter.number" (S "minismt.rewrite" 1146) 922
def o924 := ts []
def o925 := nf
def o926 := ts [("self", 1410), ("op", 1411), ("a", 1412)]
def o927 := ts []
def o928 := t1 39 (some 6) "BitsRewriter.one_bits"
def o929 := cd "one_bits" 1407 "BitsRewriter.one_bits" 1408 1409 555 3 0 0 3 924 true 181 925 (.ref 926) (.ref 927) (.ref 928) 1413 555 1414
def o930 := f3 39 (some 6) "BitsRewriter.one_bits" (S "minismt.rewrite" 1146) 929
def o931 := ts []
def o932 := nf
def o933 := ts [("self", 1419), ("op", 1420), ("a", 1421), ("b", 1422)]
def o934 := ts []
def o935 := t1 39 (some 7) "BitsRewriter.two_bits"
def o936 := cd "two_bits" 1416 "BitsRewriter.two_bits" 1417 1418 564 4 0 0 3 931 true 181 932 (.ref 933) (.ref 934) (.ref 935) 1423 564 1424
def o937 := f3 39 (some 7) "BitsRewriter.two_bits" (S "minismt.rewrite" 1146) 936
def o938 := ts []
def o939 := nf
def o940 := ts [("self", 1429), ("op", 1430), ("a", 1431), ("b", 1432), ("inner", 1433)]
def o941 := ts []
def o942 := t1 39 (some 8) "BitsRewriter.mixed_bits"
def o943 := cd "mixed_bits" 1426 "BitsRewriter.mixed_bits" 1427 1428 575 4 0 0 3 938 true 181 939 (.ref 940) (.ref 941) (.ref 942) 1434 575 1435
def o944 := f3 39 (some 8) "BitsRewriter.mixed_bits" (S "minismt.rewrite" 1146) 943
def o945 := ts []
def o946 := nf
def o947 := ts [("self", 1440), ("op", 1441), ("a", 1442), ("b", 1443)]
def o948 := ts []
def o949 := t1 39 (some 9) "BitsRewriter.is_turned"
def o950 := cd "is_turned" 1437 "BitsRewriter.is_turned" 1438 1439 591 4 0 0 3 945 true 181 946 (.ref 947) (.ref 948) (.ref 949) 1444 591 1445
def o951 := f3 39 (some 9) "BitsRewriter.is_turned" (S "minismt.rewrite" 1146) 950
def o952 := ts []
def o953 := nf
def o954 := ts [("self", 1450), ("op", 1451), ("value", 1452), ("b", 1453), ("most", 1454)]
def o955 := ts []
def o956 := t1 39 (some 10) "BitsRewriter.mixed_number"
def o957 := cd "mixed_number" 1447 "BitsRewriter.mixed_number" 1448 1449 596 4 0 0 3 952 true 181 953 (.ref 954) (.ref 955) (.ref 956) 1455 596 1456
def o958 := f3 39 (some 10) "BitsRewriter.mixed_number" (S "minismt.rewrite" 1146) 957
def o959 := ts []
def o960 := nf
def o961 := ts [("self", 1461), ("a", 1462), ("b", 1463)]
def o962 := ts []
def o963 := t1 39 (some 11) "BitsRewriter.less_bits"
def o964 := cd "less_bits" 1458 "BitsRewriter.less_bits" 1459 1460 612 3 0 0 3 959 true 181 960 (.ref 961) (.ref 962) (.ref 963) 1464 612 1465
def o965 := f3 39 (some 11) "BitsRewriter.less_bits" (S "minismt.rewrite" 1146) 964
def o966 := ts []
def o967 := nf
def o968 := ts [("self", 1470), ("op", 1471), ("a", 1472), ("b", 1473), ("many", 1474)]
def o969 := ts []
def o970 := t1 39 (some 12) "BitsRewriter.shifted_bits"
def o971 := cd "shifted_bits" 1467 "BitsRewriter.shifted_bits" 1468 1469 621 4 0 0 3 966 true 181 967 (.ref 968) (.ref 969) (.ref 970) 1475 621 1476
def o972 := f3 39 (some 12) "BitsRewriter.shifted_bits" (S "minismt.rewrite" 1146) 971
def o973 := ts []
def o974 := nf
def o975 := ts [("self", 1481), ("op", 1482), ("a", 1483), ("b", 1484), ("value", 1485), ("is_rest", 1486), ("places", 1487)]
def o976 := ts []
def o977 := t1 39 (some 13) "BitsRewriter.divided_bits"
def o978 := cd "divided_bits" 1478 "BitsRewriter.divided_bits" 1479 1480 629 4 0 0 3 973 true 181 974 (.ref 975) (.ref 976) (.ref 977) 1488 629 1489
def o979 := f3 39 (some 13) "BitsRewriter.divided_bits" (S "minismt.rewrite" 1146) 978
def o980 := ts []
def o981 := nf
def o982 := ts [("self", 1494), ("op", 1495), ("a", 1496), ("b", 1497)]
def o983 := ts []
def o984 := t1 39 (some 14) "BitsRewriter.asked_bits"
def o985 := cd "asked_bits" 1491 "BitsRewriter.asked_bits" 1492 1493 644 4 0 0 3 980 true 181 981 (.ref 982) (.ref 983) (.ref 984) 1498 644 1499
def o986 := f3 39 (some 14) "BitsRewriter.asked_bits" (S "minismt.rewrite" 1146) 985
def o987 := ts []
def o988 := nf
def o989 := ts [("self", 1504), ("a", 1505), ("b", 1506)]
def o990 := ts []
def o991 := t1 39 (some 15) "BitsRewriter.put_together"
def o992 := cd "put_together" 1501 "BitsRewriter.put_together" 1502 1503 647 3 0 0 3 987 true 181 988 (.ref 989) (.ref 990) (.ref 991) 1507 647 1508
def o993 := f3 39 (some 15) "BitsRewriter.put_together" (S "minismt.rewrite" 1146) 992
def o994 := ts []
def o995 := nf
def o996 := ts [("self", 1513), ("high", 1514), ("low", 1515), ("a", 1516)]
def o997 := ts []
def o998 := t1 39 (some 16) "BitsRewriter.cut_out"
def o999 := cd "cut_out" 1510 "BitsRewriter.cut_out" 1511 1512 650 4 0 0 3 994 true 181 995 (.ref 996) (.ref 997) (.ref 998) 1517 650 1518
def o1000 := f3 39 (some 16) "BitsRewriter.cut_out" (S "minismt.rewrite" 1146) 999
def o1001 := ts []
def o1002 := nf
def o1003 := ts [("self", 1523), ("high", 1524), ("low", 1525), ("a", 1526)]
def o1004 := ts []
def o1005 := t1 39 (some 17) "BitsRewriter.cut_within"
def o1006 := cd "cut_within" 1520 "BitsRewriter.cut_within" 1521 1522 653 4 0 0 3 1001 true 181 1002 (.ref 1003) (.ref 1004) (.ref 1005) 1527 653 1528
def o1007 := f3 39 (some 17) "BitsRewriter.cut_within" (S "minismt.rewrite" 1146) 1006
def o1008 := ts []
def o1009 := nf
def o1010 := ts [("self", 1533), ("high", 1534), ("low", 1535), ("a", 1536)]
def o1011 := ts []
def o1012 := t1 39 (some 18) "BitsRewriter.cut_here"
def o1013 := cd "cut_here" 1530 "BitsRewriter.cut_here" 1531 1532 656 4 0 0 3 1008 true 181 1009 (.ref 1010) (.ref 1011) (.ref 1012) 1537 656 1538
def o1014 := f3 39 (some 18) "BitsRewriter.cut_here" (S "minismt.rewrite" 1146) 1013
def o1015 := ts []
def o1016 := nf
def o1017 := ts [("self", 1543), ("many", 1544), ("a", 1545)]
def o1018 := ts []
def o1019 := t1 39 (some 19) "BitsRewriter.wider"
def o1020 := cd "wider" 1540 "BitsRewriter.wider" 1541 1542 659 3 0 0 3 1015 true 181 1016 (.ref 1017) (.ref 1018) (.ref 1019) 1546 659 1547
def o1021 := f3 39 (some 19) "BitsRewriter.wider" (S "minismt.rewrite" 1146) 1020
def o1022 := ts []
def o1023 := nf
def o1024 := ts [("self", 1552), ("many", 1553), ("a", 1554)]
def o1025 := ts []
def o1026 := t1 39 (some 20) "BitsRewriter.wider_signed"
def o1027 := cd "wider_signed" 1549 "BitsRewriter.wider_signed" 1550 1551 662 3 0 0 3 1022 true 181 1023 (.ref 1024) (.ref 1025) (.ref 1026) 1555 662 1556
def o1028 := f3 39 (some 20) "BitsRewriter.wider_signed" (S "minismt.rewrite" 1146) 1027
def o1029 := tp [(.int 0 1558)]
def o1030 := ts []
def o1031 := nf
def o1032 := ts [("self", 1562), ("a", 1563), ("b", 1564), ("deep", 1565)]
def o1033 := ts []
def o1034 := t1 39 (some 21) "BitsRewriter.equal_bits"
def o1035 := cd "equal_bits" 1559 "BitsRewriter.equal_bits" 1560 1561 665 4 0 0 3 1030 true 181 1031 (.ref 1032) (.ref 1033) (.ref 1034) 1566 665 1567
def o1036 := ff (fd 3 (st 39 (some 21)) (s "BitsRewriter.equal_bits") [] (.ref 1029) .none .none (S "minismt.rewrite" 1146) (.ref 1035) .none)
def o1037 := tp [(.int 0 1569)]
def o1038 := ts []
def o1039 := nf
def o1040 := ts [("self", 1573), ("value", 1574), ("b", 1575), ("deep", 1576), ("kind", 1577), ("args", 1578), ("width", 1579), ("back", 1580), ("seam", 1581), ("high", 1582), ("low", 1583), ("both", 1584), ("part", 1585), ("wanted", 1586), ("known", 1587), ("inner", 1588), ("is_right", 1589)]
def o1041 := ts []
def o1042 := t1 39 (some 22) "BitsRewriter.equal_number"
def o1043 := cd "equal_number" 1570 "BitsRewriter.equal_number" 1571 1572 676 4 0 0 3 1038 true 181 1039 (.ref 1040) (.ref 1041) (.ref 1042) 1590 676 1591
def o1044 := ff (fd 3 (st 39 (some 22)) (s "BitsRewriter.equal_number") [] (.ref 1037) .none .none (S "minismt.rewrite" 1146) (.ref 1043) .none)
def o1045 := ts []
def o1046 := nf
def o1047 := ts [("self", 1596), ("i", 1597), ("a", 1598)]
def o1048 := ts []
def o1049 := t1 39 (some 23) "BitsRewriter.bit_of"
def o1050 := cd "bit_of" 1593 "BitsRewriter.bit_of" 1594 1595 705 3 0 0 3 1045 true 181 1046 (.ref 1047) (.ref 1048) (.ref 1049) 1599 705 1600
def o1051 := f3 39 (some 23) "BitsRewriter.bit_of" (S "minismt.rewrite" 1146) 1050
def o1052 := ts []
def o1053 := nf
def o1054 := ts [("self", 1605), ("i", 1606), ("a", 1607)]
def o1055 := ts []
def o1056 := t1 39 (some 24) "BitsRewriter.bit_within"
def o1057 := cd "bit_within" 1602 "BitsRewriter.bit_within" 1603 1604 708 3 0 0 3 1052 true 181 1053 (.ref 1054) (.ref 1055) (.ref 1056) 1608 708 1609
def o1058 := f3 39 (some 24) "BitsRewriter.bit_within" (S "minismt.rewrite" 1146) 1057
def o1059 := ts []
def o1060 (P : Params) : Obj := ob (.type "dict") none (.dict [en P (s "__module__") 1347 (S "minismt.rewrite" 1146), en P (s "__firstlineno__") 1351 (.int 535 1350), en P (s "made") 1360 (.ref 886), en P (s "equal_others") 1372 (.ref 895), en P (s "are_too_many") 1380 (.ref 902), en P (s "is_bits") 1388 (.ref 909), en P (s "value_or") 1397 (.ref 916), en P (s "number") 1406 (.ref 923), en P (s "one_bits") 1415 (.ref 930), en P (s "two_bits") 1425 (.ref 937), en P (s "mixed_bits") 1436 (.ref 944), en P (s "is_turned") 1446 (.ref 951), en P (s "mixed_number") 1457 (.ref 958), en P (s "less_bits") 1466 (.ref 965), en P (s "shifted_bits") 1477 (.ref 972), en P (s "divided_bits") 1490 (.ref 979), en P (s "asked_bits") 1500 (.ref 986), en P (s "put_together") 1509 (.ref 993), en P (s "cut_out") 1519 (.ref 1000), en P (s "cut_within") 1529 (.ref 1007), en P (s "cut_here") 1539 (.ref 1014), en P (s "wider") 1548 (.ref 1021), en P (s "wider_signed") 1557 (.ref 1028), en P (s "equal_bits") 1568 (.ref 1036), en P (s "equal_number") 1592 (.ref 1044), en P (s "bit_of") 1601 (.ref 1051), en P (s "bit_within") 1610 (.ref 1058), en P (s "__static_attributes__") 1611 (.ref 1059), en P (s "__doc__") 1613 .none].toArray 3) []
def o1061 := ob (.type "type") none (.cls ({ name := (s "BitsRewriter"), bases := [(.ref 867)], mro := [(.ref 1061), (.ref 867), (.type "object")], ns := 1060, qualname := (s "BitsRewriter"), hasDict := true, slotNames := [], subclasses := [], abstract := false, collection := none, hasDel := false } : ClassData)) [(some (.ref 872)), none, (some (S "BitsRewriter" 1340)), (some (S "BitsRewriter" 1348)), (some (.builtin "object.__new__")), (some (.bool true))]
def o1062 := ob (.type "super") none (.fields [(.ref 1061), (.ref 1061), (.ref 1061)].toArray) []
def o1063 := ob (.type "builtin_function_or_method") none (.fields [(.builtin "object.__init_subclass__"), (.ref 1061)].toArray) []
def o3v22 (P : Params) : Obj := ob (.type "dict") none (.dict [en P (s "__name__") 165 (S "law_zu0063_03" 1616), en P (s "__doc__") 166 .none, en P (s "__package__") 167 .none, en P (s "__loader__") 168 (.builtin "__main__.__loader__#opaque"), en P (s "__spec__") 169 .none, en P (s "__annotations__") 170 (.ref 6), en P (s "__builtins__") 171 (.ref 4), en P (s "__file__") 173 (S "/claim/cut.py" 172), en P (s "__cached__") 174 .none, en P (s "_wall") 193 (.ref 21), en P (s "SmtError") 233 (.ref 47), en P (s "SortFault") 256 (.ref 67), en P (s "LimitFault") 279 (.ref 86), en P (s "ModelFault") 302 (.ref 105), en P (s "gcd_of") 312 (.ref 114), en P (s "ratio") 321 (.ref 121), en P (s "mul") 329 (.ref 128), en P (s "is_whole") 336 (.ref 135), en P (s "mask_of") 345 (.ref 142), en P (s "signed_of") 353 (.ref 149), en P (s "one_value") 362 (.ref 156), en P (s "divided_value") 371 (.ref 163), en P (s "rest_value") 379 (.ref 170), en P (s "shifted_value") 389 (.ref 177), en P (s "two_value") 399 (.ref 184), en P (s "extract_value") 408 (.ref 191), en P (s "sign_extended") 417 (.ref 198), en P (s "power_of") 424 (.ref 205), en P (s "BOOL") 426 (.int 0 425), en P (s "INT") 428 (.int 1 427), en P (s "REAL") 430 (.int 2 429), en P (s "WIDEST") 432 (.int 4096 431), en P (s "MOST_BITS") 436 (.int 65536 435), en P (s "BV_SAME") 447 (.ref 206), en P (s "BV_ASK") 452 (.ref 207), en P (s "VALUE_OPS") 457 (.ref 208), en P (s "Bank") 735 (.ref 421), en P (s "BoolBank") 868 (.ref 526), en P (s "want_small") 875 (.ref 535), en P (s "NumberBank") 989 (.ref 622), en P (s "TermBank") 1145 (.ref 741), en P (s "MIXING") 1153 (.ref 744), en P (s "DEEPEST") 1155 (.int 50 1154), en P (s "BoolRewriter") 1339 (.ref 867), en P (s "BitsRewriter") 1615 (.ref 1061), en P (s "_law_operations") 1623 (.ref 1064), en P (s "_law_spin") 1631 (.ref 1071), en P (s "_law_number") 1641 (.ref 1078), en P (s "_law_places") 1647 (.ref 1083), en P (s "_law_turned") 1656 (.ref 1090), en P (s "_law_wheel") 1662 (.ref 1095), en P (s "_law_values") 1668 (.ref 1100), en P (s "_law_divisor") 1676 (.ref 1107), en P (s "_law_many") 1686 (.ref 1114), en P (s "_law_is_plain_right") 1692 (.ref 1119), en P (s "law") 1698 (.ref 1124)].toArray 56) []
def o12v23 := ob .none none (.fields [(.int 1 0), (.int 0 0), (.ref 20), (.int 5 0), (.int 0 0), (.ref 28), (.int 13 0), (.int 0 0), (.ref 56), (.int 17 0), (.int 0 0), (.ref 75), (.int 21 0), (.int 0 0), (.ref 94), (.int 26 0), (.int 0 0), (.ref 113), (.int 31 0), (.int 0 0), (.ref 120), (.int 38 0), (.int 0 0), (.ref 127), (.int 42 0), (.int 0 0), (.ref 134), (.int 45 0), (.int 0 0), (.ref 141), (.int 47 0), (.int 0 0), (.ref 148), (.int 49 0), (.int 0 0), (.ref 155), (.int 55 0), (.int 0 0), (.ref 162), (.int 57 0), (.int 0 0), (.ref 169), (.int 59 0), (.int 0 0), (.ref 176), (.int 63 0), (.int 0 0), (.ref 183), (.int 83 0), (.int 0 0), (.ref 190), (.int 85 0), (.int 0 0), (.ref 197), (.int 87 0), (.int 0 0), (.ref 204), (.int 97 0), (.int 0 0), (.ref 214), (.int 211 0), (.int 0 0), (.ref 431), (.int 275 0), (.int 0 0), (.ref 534), (.int 278 0), (.int 0 0), (.ref 541), (.int 328 0), (.int 0 0), (.ref 631), (.int 412 0), (.int 0 0), (.ref 750), (.int 535 0), (.int 0 0), (.ref 878), (.int 712 0), (.int 0 0), (.ref 1070), (.int 717 0), (.int 0 0), (.ref 1077), (.int 721 0), (.int 0 0), (.ref 1082), (.int 723 0), (.int 0 0), (.ref 1089), (.int 726 0), (.int 0 0), (.ref 1094), (.int 738 0), (.int 0 0), (.ref 1099), (.int 753 0), (.int 0 0), (.ref 1106), (.int 757 0), (.int 0 0), (.ref 1113), (.int 762 0), (.int 0 0), (.ref 1118), (.int 770 0), (.int 0 0), (.ref 1123)].toArray) []
def o1064 := ts [("bvand", 1618), ("bvor", 1619), ("bvxor", 1620), ("bvadd", 1621), ("bvmul", 1622)]
def o1065 := ts []
def o1066 := nf
def o1067 := ts [("top", 1627), ("many", 1628)]
def o1068 := ts []
def o1069 := t1 42 none "_law_spin"
def o1070 := cd "_law_spin" 1624 "_law_spin" 1625 1626 712 2 0 0 3 1065 true 181 1066 (.ref 1067) (.ref 1068) (.ref 1069) 1629 712 1630
def o1071 := f3 42 none "_law_spin" (S "law_zu0063_03" 1616) 1070
def o1072 := ts []
def o1073 := nf
def o1074 := ts [("top", 1635), ("width", 1636), ("way", 1637), ("drawn", 1638)]
def o1075 := ts []
def o1076 := t1 43 none "_law_number"
def o1077 := cd "_law_number" 1632 "_law_number" 1633 1634 717 2 0 0 3 1072 true 181 1073 (.ref 1074) (.ref 1075) (.ref 1076) 1639 717 1640
def o1078 := f3 43 none "_law_number" (S "law_zu0063_03" 1616) 1077
def o1079 := ts []
def o1080 := nf
def o1081 := t1 44 none "_law_places"
def o1082 := cd "_law_places" 1642 "_law_places" 1643 1644 721 2 0 0 3 1079 true 181 1080 .none .none (.ref 1081) 1645 721 1646
def o1083 := f3 44 none "_law_places" (S "law_zu0063_03" 1616) 1082
def o1084 := ts []
def o1085 := nf
def o1086 := ts [("value", 1651), ("width", 1652), ("wheel", 1653)]
def o1087 := ts []
def o1088 := t1 45 none "_law_turned"
def o1089 := cd "_law_turned" 1648 "_law_turned" 1649 1650 723 2 0 0 3 1084 true 181 1085 (.ref 1086) (.ref 1087) (.ref 1088) 1654 723 1655
def o1090 := f3 45 none "_law_turned" (S "law_zu0063_03" 1616) 1089
def o1091 := ts []
def o1092 := nf
def o1093 := t1 46 none "_law_wheel"
def o1094 := cd "_law_wheel" 1657 "_law_wheel" 1658 1659 726 3 0 0 3 1091 true 181 1092 .none .none (.ref 1093) 1660 726 1661
def o1095 := f3 46 none "_law_wheel" (S "law_zu0063_03" 1616) 1094
def o1096 := ts []
def o1097 := nf
def o1098 := t1 47 none "_law_values"
def o1099 := cd "_law_values" 1663 "_law_values" 1664 1665 738 4 0 0 3 1096 true 181 1097 .none .none (.ref 1098) 1666 738 1667
def o1100 := f3 47 none "_law_values" (S "law_zu0063_03" 1616) 1099
def o1101 := ts []
def o1102 := nf
def o1103 := ts [("a", 1672), ("b", 1673)]
def o1104 := ts []
def o1105 := t1 48 none "_law_divisor"
def o1106 := cd "_law_divisor" 1669 "_law_divisor" 1670 1671 753 2 0 0 3 1101 true 181 1102 (.ref 1103) (.ref 1104) (.ref 1105) 1674 753 1675
def o1107 := f3 48 none "_law_divisor" (S "law_zu0063_03" 1616) 1106
def o1108 := ts []
def o1109 := nf
def o1110 := ts [("op", 1680), ("value", 1681), ("width", 1682), ("ones", 1683)]
def o1111 := ts []
def o1112 := t1 49 none "_law_many"
def o1113 := cd "_law_many" 1677 "_law_many" 1678 1679 757 3 0 0 3 1108 true 181 1109 (.ref 1110) (.ref 1111) (.ref 1112) 1684 757 1685
def o1114 := f3 49 none "_law_many" (S "law_zu0063_03" 1616) 1113
def o1115 := ts []
def o1116 := nf
def o1117 := t1 50 none "_law_is_plain_right"
def o1118 := cd "_law_is_plain_right" 1687 "_law_is_plain_right" 1688 1689 762 6 0 0 3 1115 true 181 1116 .none .none (.ref 1117) 1690 762 1691
def o1119 := f3 50 none "_law_is_plain_right" (S "law_zu0063_03" 1616) 1118
def o1120 := ts []
def o1121 := nf
def o1122 := t1 51 none "law"
def o1123 := cd "law" 1693 "law" 1694 1695 770 1 0 0 3 1120 true 181 1121 .none .none (.ref 1122) 1696 770 1697
def o1124 := f3 51 none "law" (S "law_zu0063_03" 1616) 1123
noncomputable abbrev n := @BT.node
noncomputable abbrev e := BT.nil
noncomputable abbrev l (o : Obj) : BT := n o e e
noncomputable def KF (P : Params) : Frag := [(1, (boot_o_1 P)), (2, (o2v0 P)), (3, (o3v22 P)), (6, (boot_o_6 P)), (9, (boot_o_9 P)), (13, o13), (20, o20), (21, o21), (24, (o24 P)), (25, o25), (28, o28), (36, o36), (37, o37), (43, o43), (44, o44), (46, (o46 P)), (47, o47v5), (48, o48), (53, (o53 P)), (56, o56), (63, o63), (64, o64), (66, (o66 P)), (67, o67), (72, (o72 P)), (75, o75), (82, o82), (83, o83), (85, (o85 P)), (86, o86), (91, (o91 P)), (94, o94), (101, o101), (102, o102), (104, (o104 P)), (105, o105), (113, o113), (114, o114), (120, o120), (121, o121), (127, o127), (128, o128), (134, o134), (135, o135), (141, o141), (142, o142), (148, o148), (149, o149), (155, o155), (156, o156), (162, o162), (163, o163), (169, o169), (170, o170), (176, o176), (177, o177), (183, o183), (184, o184), (190, o190), (191, o191), (197, o197), (198, o198), (204, o204), (205, o205), (206, o206), (207, o207), (208, o208), (211, (o211 P)), (214, o214), (221, o221), (222, o222), (228, o228), (229, o229), (235, o235), (236, o236), (242, o242), (243, o243), (249, o249), (250, o250), (256, o256), (257, o257), (263, o263), (264, o264), (270, o270), (271, o271), (277, o277), (278, o278), (284, o284), (285, o285), (291, o291), (292, o292), (298, o298), (299, o299), (305, o305), (306, o306), (312, o312), (313, o313), (319, o319), (320, o320), (326, o326), (327, o327), (333, o333), (334, o334), (340, o340), (341, o341), (347, o347), (348, o348), (354, o354), (355, o355), (361, o361), (362, o362), (368, o368), (369, o369), (375, o375), (376, o376), (382, o382), (383, o383), (389, o389), (390, o390), (396, o396), (397, o397), (403, o403), (404, o404), (410, o410), (411, o411), (417, o417), (418, o418), (420, (o420 P)), (421, o421v10), (422, o422), (423, o423), (428, (o428 P)), (431, o431), (438, o438), (439, o439), (445, o445), (446, o446), (452, o452), (453, o453), (459, o459), (460, o460), (466, o466), (467, o467), (473, o473), (474, o474), (480, o480), (481, o481), (487, o487), (488, o488), (494, o494), (495, o495), (501, o501), (502, o502), (508, o508), (509, o509), (515, o515), (516, o516), (522, o522), (523, o523), (525, (o525 P)), (526, o526v13), (534, o534), (535, o535), (538, (o538 P)), (541, o541), (548, o548), (549, o549), (555, o555), (556, o556), (562, o562), (563, o563), (569, o569), (570, o570), (576, o576), (577, o577), (583, o583), (584, o584), (590, o590), (591, o591), (597, o597), (598, o598), (604, o604), (605, o605), (611, o611), (612, o612), (618, o618), (619, o619), (621, (o621 P)), (622, o622v16), (627, (o627 P)), (628, o628), (631, o631), (639, o639), (640, o640), (646, o646), (647, o647), (653, o653), (654, o654), (660, o660), (661, o661), (667, o667), (668, o668), (674, o674), (675, o675), (681, o681), (682, o682), (688, o688), (689, o689), (695, o695), (696, o696), (702, o702), (703, o703), (709, o709), (710, o710), (716, o716), (717, o717), (723, o723), (724, o724), (730, o730), (731, o731), (737, o737), (738, o738), (740, (o740 P)), (741, o741), (744, o744), (747, (o747 P)), (750, o750), (757, o757), (758, o758), (764, o764), (765, o765), (771, o771), (772, o772), (778, o778), (779, o779), (783, o783), (784, o784), (790, o790), (791, o791), (797, o797), (798, o798), (804, o804), (805, o805), (811, o811), (812, o812), (818, o818), (819, o819), (825, o825), (826, o826), (827, o827), (833, o833), (834, o834), (835, o835), (841, o841), (842, o842), (843, o843), (849, o849), (850, o850), (856, o856), (857, o857), (863, o863), (864, o864), (866, (o866 P)), (867, o867v21), (868, o868), (869, o869), (874, (o874 P)), (875, o875), (878, o878), (885, o885), (886, o886), (887, o887), (894, o894), (895, o895), (901, o901), (902, o902), (908, o908), (909, o909), (915, o915), (916, o916), (922, o922), (923, o923), (929, o929), (930, o930), (936, o936), (937, o937), (943, o943), (944, o944), (950, o950), (951, o951), (957, o957), (958, o958), (964, o964), (965, o965), (971, o971), (972, o972), (978, o978), (979, o979), (985, o985), (986, o986), (992, o992), (993, o993), (999, o999), (1000, o1000), (1006, o1006), (1007, o1007), (1013, o1013), (1014, o1014), (1020, o1020), (1021, o1021), (1027, o1027), (1028, o1028), (1029, o1029), (1035, o1035), (1036, o1036), (1037, o1037), (1043, o1043), (1044, o1044), (1050, o1050), (1051, o1051), (1057, o1057), (1058, o1058), (1060, (o1060 P)), (1061, o1061), (1064, o1064), (1070, o1070), (1071, o1071), (1077, o1077), (1078, o1078), (1082, o1082), (1083, o1083), (1089, o1089), (1090, o1090), (1094, o1094), (1095, o1095), (1099, o1099), (1100, o1100), (1106, o1106), (1107, o1107), (1113, o1113), (1114, o1114), (1118, o1118), (1119, o1119), (1123, o1123), (1124, o1124)]
noncomputable def KA : List Nat := [1, 2, 3, 6, 9, 13, 20, 21, 24, 25, 28, 36, 37, 43, 44, 46, 47, 48, 53, 56, 63, 64, 66, 67, 72, 75, 82, 83, 85, 86, 91, 94, 101, 102, 104, 105, 113, 114, 120, 121, 127, 128, 134, 135, 141, 142, 148, 149, 155, 156, 162, 163, 169, 170, 176, 177, 183, 184, 190, 191, 197, 198, 204, 205, 206, 207, 208, 211, 214, 221, 222, 228, 229, 235, 236, 242, 243, 249, 250, 256, 257, 263, 264, 270, 271, 277, 278, 284, 285, 291, 292, 298, 299, 305, 306, 312, 313, 319, 320, 326, 327, 333, 334, 340, 341, 347, 348, 354, 355, 361, 362, 368, 369, 375, 376, 382, 383, 389, 390, 396, 397, 403, 404, 410, 411, 417, 418, 420, 421, 422, 423, 428, 431, 438, 439, 445, 446, 452, 453, 459, 460, 466, 467, 473, 474, 480, 481, 487, 488, 494, 495, 501, 502, 508, 509, 515, 516, 522, 523, 525, 526, 534, 535, 538, 541, 548, 549, 555, 556, 562, 563, 569, 570, 576, 577, 583, 584, 590, 591, 597, 598, 604, 605, 611, 612, 618, 619, 621, 622, 627, 628, 631, 639, 640, 646, 647, 653, 654, 660, 661, 667, 668, 674, 675, 681, 682, 688, 689, 695, 696, 702, 703, 709, 710, 716, 717, 723, 724, 730, 731, 737, 738, 740, 741, 744, 747, 750, 757, 758, 764, 765, 771, 772, 778, 779, 783, 784, 790, 791, 797, 798, 804, 805, 811, 812, 818, 819, 825, 826, 827, 833, 834, 835, 841, 842, 843, 849, 850, 856, 857, 863, 864, 866, 867, 868, 869, 874, 875, 878, 885, 886, 887, 894, 895, 901, 902, 908, 909, 915, 916, 922, 923, 929, 930, 936, 937, 943, 944, 950, 951, 957, 958, 964, 965, 971, 972, 978, 979, 985, 986, 992, 993, 999, 1000, 1006, 1007, 1013, 1014, 1020, 1021, 1027, 1028, 1029, 1035, 1036, 1037, 1043, 1044, 1050, 1051, 1057, 1058, 1060, 1061, 1064, 1070, 1071, 1077, 1078, 1082, 1083, 1089, 1090, 1094, 1095, 1099, 1100, 1106, 1107, 1113, 1114, 1118, 1119, 1123, 1124]
noncomputable def half (l : List Obj) : Bool → List Obj := @List.rec Obj (fun _ => Bool → List Obj) (fun _ => []) (fun a _ ih b => cond b (a :: ih false) (ih true)) l
noncomputable def mk (f : Nat) : List Obj → BT := @Nat.rec (fun _ => List Obj → BT) (fun _ => .nil) (fun _ ih l => @List.rec Obj (fun _ => BT) .nil (fun a l _ => .node a (ih (half l true)) (ih (half l false))) l) f
noncomputable def finL (P : Params) : List Obj := [(boot_o_0 P), (boot_o_1 P), (o2v0 P), (o3v22 P), (boot_o_4 P), (boot_o_5 P), (boot_o_6 P), (boot_o_7 P), (boot_o_8 P), (boot_o_9 P), (boot_o_10 P), o11, o12v23, o13, o14, o15, o16, o17, o18, o19, o20, o21, o22, o23, (o24 P), o25, o26, o27, o28, o29, o30, o31, o32, o33, o34, o35, o36, o37, o38, o39, o40, o41, o42, o43, o44, o45, (o46 P), o47v5, o48, o49, o50, o51, o52, (o53 P), o54, o55, o56, o57, o58, o59, o60, o61, o62, o63, o64, o65, (o66 P), o67, o68, o69, o70, o71, (o72 P), o73, o74, o75, o76, o77, o78, o79, o80, o81, o82, o83, o84, (o85 P), o86, o87, o88, o89, o90, (o91 P), o92, o93, o94, o95, o96, o97, o98, o99, o100, o101, o102, o103, (o104 P), o105, o106, o107, o108, o109, o110, o111, o112, o113, o114, o115, o116, o117, o118, o119, o120, o121, o122, o123, o124, o125, o126, o127, o128, o129, o130, o131, o132, o133, o134, o135, o136, o137, o138, o139, o140, o141, o142, o143, o144, o145, o146, o147, o148, o149, o150, o151, o152, o153, o154, o155, o156, o157, o158, o159, o160, o161, o162, o163, o164, o165, o166, o167, o168, o169, o170, o171, o172, o173, o174, o175, o176, o177, o178, o179, o180, o181, o182, o183, o184, o185, o186, o187, o188, o189, o190, o191, o192, o193, o194, o195, o196, o197, o198, o199, o200, o201, o202, o203, o204, o205, o206, o207, o208, o209, o210, (o211 P), o212, o213, o214, o215, o216, o217, o218, o219, o220, o221, o222, o223, o224, o225, o226, o227, o228, o229, o230, o231, o232, o233, o234, o235, o236, o237, o238, o239, o240, o241, o242, o243, o244, o245, o246, o247, o248, o249, o250, o251, o252, o253, o254, o255, o256, o257, o258, o259, o260, o261, o262, o263, o264, o265, o266, o267, o268, o269, o270, o271, o272, o273, o274, o275, o276, o277, o278, o279, o280, o281, o282, o283, o284, o285, o286, o287, o288, o289, o290, o291, o292, o293, o294, o295, o296, o297, o298, o299, o300, o301, o302, o303, o304, o305, o306, o307, o308, o309, o310, o311, o312, o313, o314, o315, o316, o317, o318, o319, o320, o321, o322, o323, o324, o325, o326, o327, o328, o329, o330, o331, o332, o333, o334, o335, o336, o337, o338, o339, o340, o341, o342, o343, o344, o345, o346, o347, o348, o349, o350, o351, o352, o353, o354, o355, o356, o357, o358, o359, o360, o361, o362, o363, o364, o365, o366, o367, o368, o369, o370, o371, o372, o373, o374, o375, o376, o377, o378, o379, o380, o381, o382, o383, o384, o385, o386, o387, o388, o389, o390, o391, o392, o393, o394, o395, o396, o397, o398, o399, o400, o401, o402, o403, o404, o405, o406, o407, o408, o409, o410, o411, o412, o413, o414, o415, o416, o417, o418, o419, (o420 P), o421v10, o422, o423, o424, o425, o426, o427, (o428 P), o429, o430, o431, o432, o433, o434, o435, o436, o437, o438, o439, o440, o441, o442, o443, o444, o445, o446, o447, o448, o449, o450, o451, o452, o453, o454, o455, o456, o457, o458, o459, o460, o461, o462, o463, o464, o465, o466, o467, o468, o469, o470, o471, o472, o473, o474, o475, o476, o477, o478, o479, o480, o481, o482, o483, o484, o485, o486, o487, o488, o489, o490, o491, o492, o493, o494, o495, o496, o497, o498, o499, o500, o501, o502, o503, o504, o505, o506, o507, o508, o509, o510, o511, o512, o513, o514, o515, o516, o517, o518, o519, o520, o521, o522, o523, o524, (o525 P), o526v13, o527, o528, o529, o530, o531, o532, o533, o534, o535, o536, o537, (o538 P), o539, o540, o541, o542, o543, o544, o545, o546, o547, o548, o549, o550, o551, o552, o553, o554, o555, o556, o557, o558, o559, o560, o561, o562, o563, o564, o565, o566, o567, o568, o569, o570, o571, o572, o573, o574, o575, o576, o577, o578, o579, o580, o581, o582, o583, o584, o585, o586, o587, o588, o589, o590, o591, o592, o593, o594, o595, o596, o597, o598, o599, o600, o601, o602, o603, o604, o605, o606, o607, o608, o609, o610, o611, o612, o613, o614, o615, o616, o617, o618, o619, o620, (o621 P), o622v16, o623, o624, o625, o626, (o627 P), o628, o629, o630, o631, o632, o633, o634, o635, o636, o637, o638, o639, o640, o641, o642, o643, o644, o645, o646, o647, o648, o649, o650, o651, o652, o653, o654, o655, o656, o657, o658, o659, o660, o661, o662, o663, o664, o665, o666, o667, o668, o669, o670, o671, o672, o673, o674, o675, o676, o677, o678, o679, o680, o681, o682, o683, o684, o685, o686, o687, o688, o689, o690, o691, o692, o693, o694, o695, o696, o697, o698, o699, o700, o701, o702, o703, o704, o705, o706, o707, o708, o709, o710, o711, o712, o713, o714, o715, o716, o717, o718, o719, o720, o721, o722, o723, o724, o725, o726, o727, o728, o729, o730, o731, o732, o733, o734, o735, o736, o737, o738, o739, (o740 P), o741, o742, o743, o744, o745, o746, (o747 P), o748, o749, o750, o751, o752, o753, o754, o755, o756, o757, o758, o759, o760, o761, o762, o763, o764, o765, o766, o767, o768, o769, o770, o771, o772, o773, o774, o775, o776, o777, o778, o779, o780, o781, o782, o783, o784, o785, o786, o787, o788, o789, o790, o791, o792, o793, o794, o795, o796, o797, o798, o799, o800, o801, o802, o803, o804, o805, o806, o807, o808, o809, o810, o811, o812, o813, o814, o815, o816, o817, o818, o819, o820, o821, o822, o823, o824, o825, o826, o827, o828, o829, o830, o831, o832, o833, o834, o835, o836, o837, o838, o839, o840, o841, o842, o843, o844, o845, o846, o847, o848, o849, o850, o851, o852, o853, o854, o855, o856, o857, o858, o859, o860, o861, o862, o863, o864, o865, (o866 P), o867v21, o868, o869, o870, o871, o872, o873, (o874 P), o875, o876, o877, o878, o879, o880, o881, o882, o883, o884, o885, o886, o887, o888, o889, o890, o891, o892, o893, o894, o895, o896, o897, o898, o899, o900, o901, o902, o903, o904, o905, o906, o907, o908, o909, o910, o911, o912, o913, o914, o915, o916, o917, o918, o919, o920, o921, o922, o923, o924, o925, o926, o927, o928, o929, o930, o931, o932, o933, o934, o935, o936, o937, o938, o939, o940, o941, o942, o943, o944, o945, o946, o947, o948, o949, o950, o951, o952, o953, o954, o955, o956, o957, o958, o959, o960, o961, o962, o963, o964, o965, o966, o967, o968, o969, o970, o971, o972, o973, o974, o975, o976, o977, o978, o979, o980, o981, o982, o983, o984, o985, o986, o987, o988, o989, o990, o991, o992, o993, o994, o995, o996, o997, o998, o999, o1000, o1001, o1002, o1003, o1004, o1005, o1006, o1007, o1008, o1009, o1010, o1011, o1012, o1013, o1014, o1015, o1016, o1017, o1018, o1019, o1020, o1021, o1022, o1023, o1024, o1025, o1026, o1027, o1028, o1029, o1030, o1031, o1032, o1033, o1034, o1035, o1036, o1037, o1038, o1039, o1040, o1041, o1042, o1043, o1044, o1045, o1046, o1047, o1048, o1049, o1050, o1051, o1052, o1053, o1054, o1055, o1056, o1057, o1058, o1059, (o1060 P), o1061, o1062, o1063, o1064, o1065, o1066, o1067, o1068, o1069, o1070, o1071, o1072, o1073, o1074, o1075, o1076, o1077, o1078, o1079, o1080, o1081, o1082, o1083, o1084, o1085, o1086, o1087, o1088, o1089, o1090, o1091, o1092, o1093, o1094, o1095, o1096, o1097, o1098, o1099, o1100, o1101, o1102, o1103, o1104, o1105, o1106, o1107, o1108, o1109, o1110, o1111, o1112, o1113, o1114, o1115, o1116, o1117, o1118, o1119, o1120, o1121, o1122, o1123, o1124]
noncomputable def preL (P : Params) : List Obj := ((((finL P).take 15).set 2 (boot_o_2 P)).set 3 (boot_o_3 P)).set 12 o12
noncomputable def T0 (P : Params) : BT := mk 12 (((((finL P).take 15).set 2 (boot_o_2 P)).set 3 (boot_o_3 P)).set 12 o12)
noncomputable def T1 (P : Params) : BT := mk 12 (((((finL P).take 89).set 3 (o3v1 P)).set 12 o12v2).set 47 o47)
noncomputable def T2 (P : Params) : BT := mk 12 ((((finL P).take 209).set 3 (o3v3 P)).set 12 o12v4)
noncomputable def T3 (P : Params) : BT := mk 12 (((((finL P).take 426).set 3 (o3v6 P)).set 12 o12v7).set 421 o421)
noncomputable def T4 (P : Params) : BT := mk 12 (((((finL P).take 536).set 3 (o3v8 P)).set 12 o12v9).set 526 o526)
noncomputable def T5 (P : Params) : BT := mk 12 (((((finL P).take 625).set 3 (o3v11 P)).set 12 o12v12).set 622 o622)
noncomputable def T6 (P : Params) : BT := mk 12 ((((finL P).take 745).set 3 (o3v14 P)).set 12 o12v15)
noncomputable def T7 (P : Params) : BT := mk 12 (((((finL P).take 872).set 3 (o3v17 P)).set 12 o12v18).set 867 o867)
noncomputable def T8 (P : Params) : BT := mk 12 ((((finL P).take 1064).set 3 (o3v19 P)).set 12 o12v20)
noncomputable def T9 (P : Params) : BT := mk 12 (finL P)
noncomputable abbrev SG := @PySem.W.Fast.tw10110043849684766642
noncomputable abbrev TB := @PySem.W.Fast.tw14364793385576792824
noncomputable abbrev pr : Program := PySem.Challenge.pw_zu0063_03
noncomputable def E0 : Env := { scope := pr.main.scope, locals := mainNs, globals := mainNs, cells := [], code := .ref 13, frame := some 14 }
noncomputable def bd : List Stmt := behindTheImports pr
noncomputable def gs (i k : Nat) : List Stmt := (bd.drop i).take k
noncomputable abbrev sh (t : BT) (n k : Nat) (os : OsState) : SharedT := ⟨t, n, {}, #[], {}, k, os⟩
noncomputable abbrev Bf : List Frame := [topFrame ⟨0, 0, 0, 0⟩]
theorem seg_tw {p : Program} {w : World} {m : Nat} {a : Option Value} {b n : Nat} {s : SharedT} {t : Thread} {r : Option (Flow × SharedT × Code × Pos)} (h : SG TB p w m a b n s t = r) : segRunT treeTable p w m a b n s t = r := by
 rw [PySem.W.Fast.te10110043849684766642, PySem.W.Fast.te14364793385576792824]; exact h
theorem p0 (w : World) (os : OsState) : segRun treeTable pr w 11 (some (.ref 6)) 1 800 (sh (T0 w.params) 15 187 os).abs (piecesOf (gs 0 5) E0 (.body bd E0) ⟨0, 0, 0, 0⟩ Bf) = some (.next, (sh (T1 w.params) 89 280 os).abs, .body bd E0, ⟨17, 0, 20, 36⟩) :=
 segRun_of (seg_tw (by kernel_rfl))
theorem p1 (w : World) (os : OsState) : segRun treeTable pr w 11 (some (.ref 6)) 1 787 (sh (T1 w.params) 89 280 os).abs (piecesOf (gs 5 25) E0 (.body bd E0) ⟨17, 0, 20, 36⟩ Bf) = some (.next, (sh (T2 w.params) 209 458 os).abs, .body bd E0, ⟨96, 0, 96, 9⟩) :=
 segRun_of (seg_tw (by kernel_rfl))
theorem p2 (w : World) (os : OsState) : segRun treeTable pr w 11 (some (.ref 6)) 1 1144 (sh (T2 w.params) 209 458 os).abs (piecesOf (gs 30 1) E0 (.body bd E0) ⟨96, 0, 96, 9⟩ Bf) = some (.next, (sh (T3 w.params) 426 736 os).abs, .body bd E0, ⟨97, 0, 210, 17⟩) :=
 segRun_of (seg_tw (by kernel_rfl))
theorem p3 (w : World) (os : OsState) : segRun treeTable pr w 11 (some (.ref 6)) 1 671 (sh (T3 w.params) 426 736 os).abs (piecesOf (gs 31 2) E0 (.body bd E0) ⟨97, 0, 210, 17⟩ Bf) = some (.next, (sh (T4 w.params) 536 876 os).abs, .body bd E0, ⟨275, 0, 277, 66⟩) :=
 segRun_of (seg_tw (by kernel_rfl))
theorem p4 (w : World) (os : OsState) : segRun treeTable pr w 11 (some (.ref 6)) 1 589 (sh (T4 w.params) 536 876 os).abs (piecesOf (gs 33 1) E0 (.body bd E0) ⟨275, 0, 277, 66⟩ Bf) = some (.next, (sh (T5 w.params) 625 990 os).abs, .body bd E0, ⟨278, 0, 327, 17⟩) :=
 segRun_of (seg_tw (by kernel_rfl))
theorem p5 (w : World) (os : OsState) : segRun treeTable pr w 11 (some (.ref 6)) 1 788 (sh (T5 w.params) 625 990 os).abs (piecesOf (gs 34 4) E0 (.body bd E0) ⟨278, 0, 327, 17⟩ Bf) = some (.next, (sh (T6 w.params) 745 1156 os).abs, .body bd E0, ⟨411, 0, 411, 7⟩) :=
 segRun_of (seg_tw (by kernel_rfl))
theorem p6 (w : World) (os : OsState) : segRun treeTable pr w 11 (some (.ref 6)) 1 739 (sh (T6 w.params) 745 1156 os).abs (piecesOf (gs 38 1) E0 (.body bd E0) ⟨411, 0, 411, 7⟩ Bf) = some (.next, (sh (T7 w.params) 872 1340 os).abs, .body bd E0, ⟨412, 0, 534, 17⟩) :=
 segRun_of (seg_tw (by kernel_rfl))
theorem p7 (w : World) (os : OsState) : segRun treeTable pr w 11 (some (.ref 6)) 1 1090 (sh (T7 w.params) 872 1340 os).abs (piecesOf (gs 39 1) E0 (.body bd E0) ⟨412, 0, 534, 17⟩ Bf) = some (.next, (sh (T8 w.params) 1064 1616 os).abs, .body bd E0, ⟨535, 0, 709, 17⟩) :=
 segRun_of (seg_tw (by kernel_rfl))
theorem p8 (w : World) (os : OsState) : segRun treeTable pr w 11 (some (.ref 6)) 1 310 (sh (T8 w.params) 1064 1616 os).abs (piecesOf (gs 40 12) E0 (.body bd E0) ⟨535, 0, 709, 17⟩ Bf) = some (.next, (sh (T9 w.params) 1125 1699 os).abs, .body bd E0, ⟨770, 0, 788, 82⟩) :=
 segRun_of (seg_tw (by kernel_rfl))
noncomputable abbrev os0 (w : World) (os : OsState) : Shared := ⟨boot_heap w.params, Array.mk [], boot_drawn, boot_toks, os⟩
noncomputable abbrev osA (w : World) (os : OsState) : Shared := ⟨⟨(preL w.params).toArray, {}⟩, #[], {}, 187, os⟩
noncomputable def H1 (P : Params) : Heap := ⟨(finL P).toArray, {}⟩
theorem pre_ (w : World) (os : OsState) : topGo treeTable pr w 11 (some (.ref 6)) 12 (os0 w os) (topStub pr) = some (osA w os, ⟨denote treeTable (.body bd E0), .body bd E0, ⟨0, 0, 0, 0⟩, Bf⟩) := by
 rw [PySem.W.Fast.te15667345088766844465, PySem.W.Fast.te11892475500146522536, PySem.W.Fast.te14364793385576792824]; kernel_rfl
theorem block_ (w : World) (os : OsState) : segRun treeTable pr w 11 (some (.ref 6)) 1 (0+1) (osA w os) (blockOf bd E0 (.body bd E0) ⟨0, 0, 0, 0⟩ Bf) = some (.next, (sh (T0 w.params) 15 187 os).abs, .body bd E0, ⟨0, 0, 0, 0⟩) := by
 rw [PySem.W.Fast.te14374325043358763698, PySem.W.Fast.te14364793385576792824]; kernel_rfl
theorem fin_ (w : World) (os : OsState) : topRun treeTable pr w 11 (some (.ref 6)) (1+1) (sh (T9 w.params) 1125 1699 os).abs ⟨doneF .next, .body bd E0, ⟨770, 0, 788, 82⟩, Bf⟩ = some ⟨H1 w.params, #[], {}, 1699, os⟩ := by
 rw [PySem.W.Fast.te14082659384304107361, PySem.W.Fast.te14364793385576792824]; kernel_rfl
theorem bd_eq : bd = gs 0 5 ++ (gs 5 25 ++ (gs 30 1 ++ (gs 31 2 ++ (gs 33 1 ++ (gs 34 4 ++ (gs 38 1 ++ (gs 39 1 ++ (gs 40 12 ++ ([]))))))))) := by kernel_rfl
theorem chain_ (w : World) (os : OsState) : topRun treeTable pr w 11 (some (.ref 6)) (800 + (787 + (1144 + (671 + (589 + (788 + (739 + (1090 + (310 + 2))))))))) (sh (T0 w.params) 15 187 os).abs (restOf (gs 0 5 ++ (gs 5 25 ++ (gs 30 1 ++ (gs 31 2 ++ (gs 33 1 ++ (gs 34 4 ++ (gs 38 1 ++ (gs 39 1 ++ (gs 40 12 ++ ([])))))))))) E0 (.body bd E0) ⟨0, 0, 0, 0⟩ Bf) = some ⟨H1 w.params, #[], {}, 1699, os⟩ :=
 piece_app (p0 w os) (piece_app (p1 w os) (piece_app (p2 w os) (piece_app (p3 w os) (piece_app (p4 w os) (piece_app (p5 w os) (piece_app (p6 w os) (piece_app (p7 w os) (piece_app (p8 w os) (piece_nil (fin_ w os))))))))))
theorem chain2_ (w : World) (os : OsState) : topRun treeTable pr w 11 (some (.ref 6)) (800 + (787 + (1144 + (671 + (589 + (788 + (739 + (1090 + (310 + 2))))))))) (sh (T0 w.params) 15 187 os).abs (restOf bd E0 (.body bd E0) ⟨0, 0, 0, 0⟩ Bf) = some ⟨H1 w.params, #[], {}, 1699, os⟩ :=
 (congrArg (fun b => topRun treeTable pr w 11 (some (.ref 6)) (800 + (787 + (1144 + (671 + (589 + (788 + (739 + (1090 + (310 + 2))))))))) (sh (T0 w.params) 15 187 os).abs (restOf b E0 (.body bd E0) ⟨0, 0, 0, 0⟩ Bf)) bd_eq).trans (chain_ w os)
theorem run_ (w : World) (os : OsState) : topRun treeTable pr w 11 (some (.ref 6)) (12 + (0+1 + (800 + (787 + (1144 + (671 + (589 + (788 + (739 + (1090 + (310 + 2))))))))))) (os0 w os) (topStub pr) = some ⟨H1 w.params, #[], {}, 1699, os⟩ :=
 go_top (pre_ w os) (piece_block (block_ w os) (chain2_ w os))
theorem size_ (w : World) : ((boot_heap w.params).isNs mainGlobals && (Array.mk ([] : List GenState)).size == 0, (boot_heap w.params).objs.size, (boot_heap w.params).nsMap mainGlobals "__annotations__") = (true, 11, some (Value.ref 6)) := by kernel_rfl
theorem open_ : ∀ w : World, (fencedOpening treeTable pr w 20000).map (fun s => (s.heap, s.gens, s.drawn, s.toks)) = some (boot_heap w.params, Array.mk [], boot_drawn, boot_toks) :=
 boot_open (by kernel_rfl) (by kernel_rfl) (fun s => by kernel_rfl)
noncomputable abbrev qv : Program := view pr [51]
noncomputable def lo : List PySem.Str := List.map PySem.Str.ofString (["_wall", "SmtError", "SortFault", "LimitFault", "ModelFault", "gcd_of", "ratio", "mul", "is_whole", "mask_of", "signed_of", "one_value", "divided_value", "rest_value", "shifted_value", "two_value", "extract_value", "sign_extended", "power_of", "BOOL"] ++ ["INT", "REAL", "WIDEST", "MOST_BITS", "BV_SAME", "BV_ASK", "VALUE_OPS", "Bank", "BoolBank", "want_small", "NumberBank", "TermBank", "MIXING", "DEEPEST", "BoolRewriter", "BitsRewriter", "_law_operations", "_law_spin", "_law_number", "_law_places"] ++ ["_law_turned", "_law_wheel", "_law_values", "_law_divisor", "_law_many", "_law_is_plain_right"])
noncomputable abbrev HK : Hook := kHook KF KA (fun _ => by kernel_rfl)
noncomputable abbrev Xt (s : Shared) : Bool := xlAt qv [] s && recOk (RowW.records PySem.Challenge.rw_zu0063_03.row.toRowW) s
theorem looks_ (w : World) : (fun os => ((staticsOk (importedModules pr.main.body) (boot_heap w.params) (H1 w.params) && namesBound pr (H1 w.params) && gensDone ⟨H1 w.params, #[], {}, 1699, os⟩ && laidKept (boot_heap w.params) (H1 w.params)),
    openSeen qv lo (importedModules pr.main.body) Xt true ⟨H1 w.params, #[], {}, 1699, os⟩, HK.obs ⟨H1 w.params, #[], {}, 1699, os⟩)) = fun _ => (true, openGood qv lo, HK.val w) := by
 rw [PySem.W.Fast.te4187177175401517315]; kernel_rfl
theorem left_ : LeftO pr qv lo Xt HK.obs HK.val 20000 true :=
 LeftO.of_pieces open_ size_ run_ (by kernel_rfl) looks_
theorem said_ : PySem.Challenge.rw_zu0063_03.wellSaid = true := by
 rw [PySem.W.Fast.te9446332074065402090]; decide +kernel
noncomputable def nm_ : PySem.Str := PySem.Challenge.rw_zu0063_03.row.toRowW.name
theorem dl_some : (defOf qv nm_).isSome = true := by kernel_rfl
noncomputable def dl : DefRec × List (Str × Expr) := (defOf qv nm_).get dl_some
theorem top_ (walk : WalkO qv lo (XL qv []) HK.says PySem.Challenge.rw_zu0063_03.row.toRowW dl.1 dl.2 fun f vs => PySem.call f vs) : PySem.Challenge.rw_zu0063_03.Holds :=
 holds_law said_ fun k1 => holds_open (q := qv) (loose := lo) (Xt := Xt) (XP := XL qv []) (Yf := HK.obs) (Ya := HK.val) (YP := HK.says) (d := dl.1) (kwd := dl.2) (N := 20000) left_ HK.of HK.keeps
  (fun s e => xl_of s (Bool.and_eq_true_iff.mp e).1) XL.keeps (by kernel_rfl) (by kernel_rfl) (by kernel_rfl) (fun s e => recFacts_of (Bool.and_eq_true_iff.mp e).2) (by kernel_rfl) k1 (by decide +kernel)
  ⟨by kernel_rfl, by kernel_rfl, by kernel_rfl, by kernel_rfl, by kernel_rfl, by decide +kernel⟩ ⟨[.list []], by decide +kernel, by decide +kernel⟩ walk
theorem law_ (walk : ∀ (w : World) (s : Shared) (mg mb : Str → Option Value) (mean : ExcName → Option Value), (KF w.params).In s.heap → Top qv (looseW qv lo) mean mg mb s.heap → s.gens = #[] → ∀ (a l : Addr) (vs : List Value) (ns : List Int),
  mg "law" = some (.ref a) → s.heap.get? l = some { cls := .type "list", data := .seq vs.toArray } → IntsAre vs ns → ns.length ≤ 63 →
  wpAny (model pr w) callerA (call (.ref a) [.ref l]) (fun v s' => v = .bool true ∧ (∀ b o, s.heap.get? b = some o → s'.heap.get? b = some o) ∧ s'.os = s.os ∧ s'.gens = #[]) (fun _ _ => False) s) : PySem.Challenge.rw_zu0063_03.Holds := by
 apply top_
 intro w s₀ s₁ mg mb G Y a o pm cd doc dV kV ho hd hcd hD hmg hg args vals as hpre hlay hrd hwl hlo
 wrow_args hpre hlay hrd hwl hlo
 rename_i ns _ _ _ _ _ _ _ l vs _ hL _ hW _ hI _ hc _
 have hL' : s₁.heap.get? l = some { cls := .type "list", data := .seq vs.toArray } := by
  generalize hx : ofPy (PyData.list (List.map PyData.int ns)) = x at hW
  cases hW with
  | list h1 _ =>
   obtain ⟨o, ho, _, n, hd⟩ := hL
   rw [h1] at ho; cases ho
   have := congrArg (fun d => match d with | Data.seq x _ => x | _ => #[]) hd
   simp only at this
   rw [← this]; exact h1
  | _ => simp [ofPy] at hx
 refine wpAny_mono (walk w s₁ mg mb _ Y G.T hg a l vs ns hmg hL' hI (by omega)) (fun v s' h => ?_) (fun _ _ h => h.elim)
 obtain ⟨rfl, k, o1, g1⟩ := h
 exact GoodW.toG ⟨.inl ⟨_, _, _, rfl, fun cls => by kernel_rfl, .bool true, by kernel_rfl, unshared_nil⟩, k, o1, g1⟩
end
end Head
namespace Mine
open PySem PySem.W PySem.Calls PyProof.Rows
section
inductive V where
 | none
 | bool (b : Bool)
 | int (i : Int)
 | str (s : Str)
 | tup (l : List V)
 | fl (l : List V)
 | rng (a b c : Int)
 | inst (C d : Nat)
 | ref (i : Nat)
 | raw (v : Value)
 deriving Inhabited
noncomputable def V.fl? : (x : V) → Option {l : List V // x = .fl l}
 | .fl l => some ⟨l, rfl⟩
 | _ => .none
noncomputable def fl1 : (xs : List V) → Option {l : List V // xs = [.fl l]}
 | [x] => x.fl?.map fun l => ⟨l.1, congrArg (fun x => [x]) l.2⟩
 | _ => none
noncomputable def fl2 : (xs : List V) → Option {p : List V × List V // xs = [.fl p.1, .fl p.2]}
 | [x, y] => x.fl?.bind fun l => y.fl?.map fun r => ⟨(l.1, r.1), (congrArg (fun x => [x, y]) l.2).trans (congrArg (fun y => [.fl l.1, y]) r.2)⟩
 | _ => none
theorem elimP {α : Type} {o : Option α} {f : α → Prop} (h : o.elim False f) : ∃ y, f y := by
 cases o with
 | none => exact h.elim
 | some y => exact ⟨y, h⟩
inductive AObj where
 | list (vs : List V)
 | dict (kvs : List (V × V))
 | ns (kvs : List (Str × V))
 deriving Inhabited
noncomputable abbrev St := List (Option AObj)
noncomputable def listO (items : List Value) (k : Nat) : Obj := ⟨.type "list", none, .seq items.toArray k, #[]⟩
noncomputable def tupO (items : List Value) : Obj := ⟨.type "tuple", none, .seq items.toArray 0, #[]⟩
noncomputable def dictO (es : List DictEntry) (k : Nat) : Obj := ⟨.type "dict", none, .dict es.toArray k, #[]⟩
mutual
inductive VR (h : Heap) (S : Nat → Prop) (μ : Nat → Nat) (n : Nat) : Value → V → Prop
 | none : VR h S μ n .none .none
 | bool (b : Bool) : VR h S μ n (.bool b) (.bool b)
 | int (i : Int) (t : Tok) : VR h S μ n (.int i t) (.int i)
 | str (s : Str) (t : Tok) : VR h S μ n (.str s t) (.str s)
 | tup {a : Addr} {items : List Value} {l : List V} (e : h.get? a = some (tupO items)) (f : ¬ S a) (x : VRs h S μ n items l) : VR h S μ n (.ref a) (.tup l)
 | fl {a : Addr} {items : List Value} {k : Nat} {l : List V} (e : h.get? a = some (listO items k)) (f : ¬ S a) (x : VRs h S μ n items l) : VR h S μ n (.ref a) (.fl l)
 | rng {a : Addr} {x y z : Int} {t u v : Tok} (e : IsRange h a x y z t u v) (f : ¬ S a) : VR h S μ n (.ref a) (.rng x y z)
 | inst {a C d : Nat} (e : h.get? a = some (instObj C (μ d))) (f : ¬ S a) (l : d < n) : VR h S μ n (.ref a) (.inst C d)
 | ref {i : Nat} (l : i < n) : VR h S μ n (.ref (μ i)) (.ref i)
 | raw (v : Value) (k : handedIn v = true) : VR h S μ n v (.raw v)
inductive VRs (h : Heap) (S : Nat → Prop) (μ : Nat → Nat) (n : Nat) : List Value → List V → Prop
 | nil : VRs h S μ n [] []
 | cons {v : Value} {x : V} {vs : List Value} {xs : List V} (a : VR h S μ n v x) (b : VRs h S μ n vs xs) : VRs h S μ n (v :: vs) (x :: xs)
end
inductive TupI (h : Heap) (S : Nat → Prop) (μ : Nat → Nat) (n : Nat) (u : Value) (l : List V) : Prop
 | mk (a : Addr) (items : List Value) (q : u = .ref a) (e : h.get? a = some (tupO items)) (f : ¬ S a) (x : VRs h S μ n items l) : TupI h S μ n u l
inductive FlI (h : Heap) (S : Nat → Prop) (μ : Nat → Nat) (n : Nat) (u : Value) (l : List V) : Prop
 | mk (a : Addr) (items : List Value) (k : Nat) (q : u = .ref a) (e : h.get? a = some (listO items k)) (f : ¬ S a) (x : VRs h S μ n items l) : FlI h S μ n u l
inductive RngI (h : Heap) (S : Nat → Prop) (u : Value) (x y z : Int) : Prop
 | mk (a : Addr) (t w v : Tok) (q : u = .ref a) (e : IsRange h a x y z t w v) (f : ¬ S a) : RngI h S u x y z
inductive InstI (h : Heap) (S : Nat → Prop) (μ : Nat → Nat) (n : Nat) (u : Value) (C d : Nat) : Prop
 | mk (a : Addr) (q : u = .ref a) (e : h.get? a = some (instObj C (μ d))) (f : ¬ S a) (l : d < n) : InstI h S μ n u C d
noncomputable def VR.Inv (h : Heap) (S : Nat → Prop) (μ : Nat → Nat) (n : Nat) (u : Value) : V → Prop
 | .none => u = .none
 | .bool b => u = .bool b
 | .int i => ∃ t, u = .int i t
 | .str x => ∃ t, u = .str x t
 | .tup l => TupI h S μ n u l
 | .fl l => FlI h S μ n u l
 | .rng x y z => RngI h S u x y z
 | .inst C d => InstI h S μ n u C d
 | .ref i => u = .ref (μ i) ∧ i < n
 | .raw v => u = v ∧ handedIn v = true
theorem VR.inv {h : Heap} {S : Nat → Prop} {μ : Nat → Nat} {n : Nat} {u : Value} {x : V} (t : VR h S μ n u x) : VR.Inv h S μ n u x := by
 cases t with
 | none => rfl
 | bool => rfl
 | int i t => exact ⟨t, rfl⟩
 | str i t => exact ⟨t, rfl⟩
 | tup e f x => exact ⟨_, _, rfl, e, f, x⟩
 | fl e f x => exact ⟨_, _, _, rfl, e, f, x⟩
 | rng e f => exact ⟨_, _, _, _, rfl, e, f⟩
 | inst e f l => exact ⟨_, rfl, e, f, l⟩
 | ref l => exact ⟨rfl, l⟩
 | raw v k => exact ⟨rfl, k⟩
structure Evo (h : Heap) (T S : Nat → Prop) (μ : Nat → Nat) (n : Nat) (h' : Heap) (T' S' : Nat → Prop) (μ' : Nat → Nat) (n' : Nat) : Prop where
 keep : ∀ a o, ¬ T a → h.get? a = some o → h'.get? a = some o
 live : ∀ a o, h.get? a = some o → ∃ o', h'.get? a = some o'
 tS : ∀ a, T a → S a
 subT : ∀ a, T' a → T a ∨ h.get? a = none
 sub : ∀ a, S' a → S a ∨ h.get? a = none
 mu : ∀ i, i < n → μ' i = μ i
 le : n ≤ n'
theorem Evo.free {h h' : Heap} {T T' S S' : Nat → Prop} {μ μ' : Nat → Nat} {n n' : Nat} (x : Evo h T S μ n h' T' S' μ' n') {a : Nat} {o : Obj} (f : ¬ S a) (e : h.get? a = some o) : ¬ S' a := fun g => by
 rcases x.sub a g with g | g
 ·exact f g
 ·rw [e] at g; cases g
theorem Evo.freeT {h h' : Heap} {T T' S S' : Nat → Prop} {μ μ' : Nat → Nat} {n n' : Nat} (x : Evo h T S μ n h' T' S' μ' n') {a : Nat} {o : Obj} (f : ¬ T a) (e : h.get? a = some o) : ¬ T' a := fun g => by
 rcases x.subT a g with g | g
 ·exact f g
 ·rw [e] at g; cases g
theorem Evo.keepS {h h' : Heap} {T T' S S' : Nat → Prop} {μ μ' : Nat → Nat} {n n' : Nat} (x : Evo h T S μ n h' T' S' μ' n') {a : Nat} {o : Obj} (f : ¬ S a) (e : h.get? a = some o) : h'.get? a = some o := x.keep a o (fun t => f (x.tS a t)) e
theorem Evo.trans {h h' h'' : Heap} {T T' T'' S S' S'' : Nat → Prop} {μ μ' μ'' : Nat → Nat} {n n' n'' : Nat} (x : Evo h T S μ n h' T' S' μ' n') (y : Evo h' T' S' μ' n' h'' T'' S'' μ'' n'') : Evo h T S μ n h'' T'' S'' μ'' n'' where
 keep a o f e := y.keep a o (x.freeT f e) (x.keep a o f e)
 live a o e := let ⟨o', e'⟩ := x.live a o e; y.live a o' e'
 tS := x.tS
 subT a g := by
  rcases y.subT a g with g | g
  ·exact x.subT a g
  ·cases q : h.get? a with
   | none => exact .inr rfl
   | some o => obtain ⟨o', e⟩ := x.live a o q; rw [e] at g; cases g
 sub a g := by
  rcases y.sub a g with g | g
  ·exact x.sub a g
  ·cases q : h.get? a with
   | none => exact .inr rfl
   | some o => obtain ⟨o', e⟩ := x.live a o q; rw [e] at g; cases g
 mu i l := (y.mu i (Nat.lt_of_lt_of_le l x.le)).trans (x.mu i l)
 le := Nat.le_trans x.le y.le
mutual
noncomputable def V.bd (n : Nat) : V → Bool
 | .tup l => V.bds n l
 | .fl l => V.bds n l
 | .inst _ d => decide (d < n)
 | .ref i => decide (i < n)
 | _ => true
noncomputable def V.bds (n : Nat) : List V → Bool
 | [] => true
 | x :: l => x.bd n && V.bds n l
end
structure VM (h : Heap) (S : Nat → Prop) (μ : Nat → Nat) (n : Nat) (h' : Heap) (S' : Nat → Prop) (μ' : Nat → Nat) (n' : Nat) : Prop where
 keep : ∀ a o, ¬ S a → h.get? a = some o → h'.get? a = some o ∧ ¬ S' a
 mu : ∀ i, i < n → i < n' → μ' i = μ i
section
variable {h h' : Heap} {T T' S S' : Nat → Prop} {μ μ' : Nat → Nat} {n n' : Nat}
theorem VR.map (m : VM h S μ n h' S' μ' n') {v : Value} {x : V} (t : VR h S μ n v x) : n ≤ n' ∨ x.bd n' = true → VR h' S' μ' n' v x :=
 VR.rec (motive_1 := fun v x _ => n ≤ n' ∨ x.bd n' = true → VR h' S' μ' n' v x) (motive_2 := fun v x _ => n ≤ n' ∨ V.bds n' x = true → VRs h' S' μ' n' v x)
  (fun _ => .none) (fun b _ => .bool b) (fun i t _ => .int i t) (fun s t _ => .str s t) (fun e f _ ih k => .tup (m.keep _ _ f e).1 (m.keep _ _ f e).2 (ih k))
  (fun e f _ ih k => .fl (m.keep _ _ f e).1 (m.keep _ _ f e).2 (ih k)) (fun e f _ => .rng (m.keep _ _ f e).1 (m.keep _ _ f e).2)
  (fun {_ _ d} e f l k => have l' := k.elim (Nat.lt_of_lt_of_le l) of_decide_eq_true; .inst ((m.mu d l l').symm ▸ (m.keep _ _ f e).1) (m.keep _ _ f e).2 l')
  (fun {i} l k => have l' := k.elim (Nat.lt_of_lt_of_le l) of_decide_eq_true; m.mu i l l' ▸ .ref l')
  (fun v k _ => .raw v k) (fun _ => .nil)
  (fun _ _ a b k => .cons (a (k.imp id fun z => (Bool.and_eq_true_iff.mp z).1)) (b (k.imp id fun z => (Bool.and_eq_true_iff.mp z).2))) t
theorem VRs.map (m : VM h S μ n h' S' μ' n') {v : List Value} {x : List V} (t : VRs h S μ n v x) (k : n ≤ n' ∨ V.bds n' x = true) : VRs h' S' μ' n' v x := by
 induction x generalizing v with
 | nil => cases t; exact .nil
 | cons y ys ih => cases t with | cons a b => exact .cons (a.map m (k.imp id fun z => (Bool.and_eq_true_iff.mp z).1)) (ih b (k.imp id fun z => (Bool.and_eq_true_iff.mp z).2))
theorem VM.of (ev : Evo h T S μ n h' T' S' μ' n') : VM h S μ n h' S' μ' n' := ⟨fun _ _ f e => ⟨ev.keepS f e, ev.free f e⟩, fun i l _ => ev.mu i l⟩
theorem VR.mono (ev : Evo h T S μ n h' T' S' μ' n') {v : Value} {x : V} (t : VR h S μ n v x) : VR h' S' μ' n' v x := t.map (.of ev) (.inl ev.le)
theorem VRs.mono (ev : Evo h T S μ n h' T' S' μ' n') {v : List Value} {x : List V} (t : VRs h S μ n v x) : VRs h' S' μ' n' v x := t.map (.of ev) (.inl ev.le)
theorem VM.cut (hS : ∀ a, S' a → S a) : VM h S μ n h S' μ n' := ⟨fun _ _ f e => ⟨e, fun z => f (hS _ z)⟩, fun _ _ _ => rfl⟩
theorem VR.cut (hS : ∀ a, S' a → S a) {v : Value} {x : V} (t : VR h S μ n v x) (k : x.bd n' = true) : VR h S' μ n' v x := t.map (.cut hS) (.inr k)
theorem VRs.cut (hS : ∀ a, S' a → S a) {v : List Value} {x : List V} (t : VRs h S μ n v x) (k : V.bds n' x = true) : VRs h S' μ n' v x := t.map (.cut hS) (.inr k)
theorem VR.bound {v : Value} {x : V} (t : VR h S μ n v x) : x.bd n = true :=
 VR.rec (motive_1 := fun _ x _ => x.bd n = true) (motive_2 := fun _ x _ => V.bds n x = true) rfl (fun _ => rfl) (fun _ _ => rfl) (fun _ _ => rfl) (fun _ _ _ a => a) (fun _ _ _ a => a) (fun _ _ => rfl)
  (fun _ _ l => decide_eq_true l) (fun l => decide_eq_true l) (fun _ _ => rfl) rfl (fun _ _ a b => Bool.and_eq_true_iff.mpr ⟨a, b⟩) t
theorem VRs.bound {v : List Value} {x : List V} (t : VRs h S μ n v x) : V.bds n x = true := by
 induction x generalizing v with
 | nil => rfl
 | cons y ys ih => cases t with | cons a b => exact Bool.and_eq_true_iff.mpr ⟨a.bound, ih b⟩
end
section
variable {h : Heap} {S : Nat → Prop} {μ : Nat → Nat} {n : Nat}
theorem VRs.length {vs : List Value} {xs : List V} (x : VRs h S μ n vs xs) : vs.length = xs.length := by
 induction xs generalizing vs with
 | nil => cases x; rfl
 | cons y ys ih => cases x with | cons a b => simp [ih b]
theorem VRs.append {vs vs' : List Value} {xs xs' : List V} (x : VRs h S μ n vs xs) (y : VRs h S μ n vs' xs') : VRs h S μ n (vs ++ vs') (xs ++ xs') := by
 induction xs generalizing vs with
 | nil => cases x; exact y
 | cons z zs ih => cases x with | cons a b => exact .cons a (ih b)
theorem VRs.get {vs : List Value} {xs : List V} (x : VRs h S μ n vs xs) {i : Nat} {y : V} (e : xs[i]? = some y) : ∃ v, vs[i]? = some v ∧ VR h S μ n v y := by
 induction xs generalizing vs i with
 | nil => simp at e
 | cons z zs ih =>
  cases x with
  | cons a b =>
   cases i with
   | zero => simp at e; subst e; exact ⟨_, rfl, a⟩
   | succ i => simpa using ih b (by simpa using e)
theorem VRs.take {vs : List Value} {xs : List V} (x : VRs h S μ n vs xs) (k : Nat) : VRs h S μ n (vs.take k) (xs.take k) := by
 induction xs generalizing vs k with
 | nil => cases x; simpa using VRs.nil
 | cons z zs ih => cases x with | cons a b => cases k with
  | zero => exact .nil
  | succ k => exact .cons a (ih b k)
theorem VRs.drop {vs : List Value} {xs : List V} (x : VRs h S μ n vs xs) (k : Nat) : VRs h S μ n (vs.drop k) (xs.drop k) := by
 induction xs generalizing vs k with
 | nil => cases x; simpa using VRs.nil
 | cons z zs ih => cases x with | cons a b => cases k with
  | zero => exact .cons a b
  | succ k => exact ih b k
theorem VRs.reverse {vs : List Value} {xs : List V} (x : VRs h S μ n vs xs) : VRs h S μ n vs.reverse xs.reverse := by
 induction xs generalizing vs with
 | nil => cases x; exact .nil
 | cons z zs ih => cases x with | cons a b => rw [List.reverse_cons, List.reverse_cons]; exact (ih b).append (.cons a .nil)
end
mutual
noncomputable def V.key : V → Bool
 | .int _ => true
 | .str s => PyData.canLay0 (.str s)
 | .tup l => V.keys l
 | _ => false
noncomputable def V.keys : List V → Bool
 | [] => true
 | x :: l => x.key && V.keys l
end
mutual
noncomputable def V.dep : V → Nat
 | .tup l => V.deps l + 1
 | _ => 0
noncomputable def V.deps : List V → Nat
 | [] => 0
 | x :: l => max x.dep (V.deps l)
end
mutual
noncomputable def hV (w : World) : V → Int
 | .int i => hashInt i
 | .str s => hashStr w s
 | .tup l => reduceHash (Builtin.Tuple.tupleHashOf (hVs w l))
 | _ => 0
noncomputable def hVs (w : World) : List V → List Int
 | [] => []
 | x :: l => hV w x :: hVs w l
end
structure Ctx where
 prog : Program
 w : World
 K : Frag
 h0 : Heap
 mg : Str → Option Value
 mb : Str → Option Value
noncomputable abbrev Ctx.M (c : Ctx) : Model := model c.prog c.w
structure Ctx.Ok (c : Ctx) : Prop where
 K : c.K.In c.h0
 g : c.h0.Ns mainGlobals c.mg
 b : c.h0.Ns builtinsNs c.mb
 nolimit : c.h0.NoLimit
 builtins : ∀ x : Str, x ≠ "__name__" → c.mb x = bootBuiltins x
 low : ∃ o, c.h0.get? sysModules = some o
 names : ∀ x ∈ (["len", "range", "list", "tuple", "int", "sorted", "reversed", "any", "min", "max", "sum", "zip", "enumerate", "set", "dict", "super", "str"] : List Str), c.mg x = none
inductive DR (c : Ctx) (h : Heap) (S : Nat → Prop) (μ : Nat → Nat) (n : Nat) : List DictEntry → List (V × V) → Prop
 | nil : DR c h S μ n [] []
 | cons {e : DictEntry} {k x : V} {es : List DictEntry} {kvs : List (V × V)} (a : VR h S μ n e.key k) (b : VR h S μ n e.val x) (q : e.hash = hV c.w k) (r : DR c h S μ n es kvs) : DR c h S μ n (e :: es) ((k, x) :: kvs)
theorem DR.mono {c : Ctx} {h h' : Heap} {T T' S S' : Nat → Prop} {μ μ' : Nat → Nat} {n n' : Nat} (ev : Evo h T S μ n h' T' S' μ' n') {es : List DictEntry} {kvs : List (V × V)} (x : DR c h S μ n es kvs) : DR c h' S' μ' n' es kvs := by
 induction x with
 | nil => exact .nil
 | cons a b q _ ih => exact .cons (a.mono ev) (b.mono ev) q ih
inductive NR (h : Heap) (S : Nat → Prop) (μ : Nat → Nat) (n : Nat) : List DictEntry → List (Str × V) → Prop
 | nil : NR h S μ n [] []
 | cons {e : DictEntry} {k : Str} {t : Tok} {x : V} {es : List DictEntry} {kvs : List (Str × V)} (a : e.key = .str k t) (b : VR h S μ n e.val x) (r : NR h S μ n es kvs) : NR h S μ n (e :: es) ((k, x) :: kvs)
theorem NR.mono {h h' : Heap} {T T' S S' : Nat → Prop} {μ μ' : Nat → Nat} {n n' : Nat} (ev : Evo h T S μ n h' T' S' μ' n') {es : List DictEntry} {kvs : List (Str × V)} (x : NR h S μ n es kvs) : NR h' S' μ' n' es kvs := by
 induction x with
 | nil => exact .nil
 | cons a b _ ih => exact .cons a (b.mono ev) ih
inductive OR (c : Ctx) (h : Heap) (S : Nat → Prop) (μ : Nat → Nat) (n : Nat) (a : Addr) : AObj → Prop
 | list {items : List Value} {k : Nat} {vs : List V} (e : h.get? a = some (listO items k)) (x : VRs h S μ n items vs) : OR c h S μ n a (.list vs)
 | dict {es : List DictEntry} {k : Nat} {kvs : List (V × V)} (e : h.get? a = some (dictO es k)) (x : DR c h S μ n es kvs) (u : (kvs.map (·.1)).Pairwise (· ≠ ·)) (y : ∀ p ∈ kvs, p.1.key = true ∧ p.1.dep ≤ 7) : OR c h S μ n a (.dict kvs)
 | ns {es : List DictEntry} {k : Nat} {kvs : List (Str × V)} (e : h.get? a = some (dictO es k)) (x : NR h S μ n es kvs) : OR c h S μ n a (.ns kvs)
theorem OR.isSome {c : Ctx} {h : Heap} {S : Nat → Prop} {μ : Nat → Nat} {n : Nat} {a : Addr} {o : AObj} (x : OR c h S μ n a o) : ∃ o', h.get? a = some o' := by cases x with
 | list e _ => exact ⟨_, e⟩
 | dict e _ _ _ => exact ⟨_, e⟩
 | ns e _ => exact ⟨_, e⟩
theorem OR.move {c : Ctx} {h h' : Heap} {T T' S S' : Nat → Prop} {μ μ' : Nat → Nat} {n n' : Nat} (ev : Evo h T S μ n h' T' S' μ' n') {a : Addr} {o : AObj} (k : ∀ o', h.get? a = some o' → h'.get? a = some o') (x : OR c h S μ n a o) : OR c h' S' μ' n' a o := by
 cases x with
 | list e x => exact .list (k _ e) (x.mono ev)
 | dict e x u y => exact .dict (k _ e) (x.mono ev) u y
 | ns e x => exact .ns (k _ e) (x.mono ev)
noncomputable def Tr (σ : St) (μ : Nat → Nat) (a : Nat) : Prop := ∃ i o, σ[i]? = some (some o) ∧ μ i = a
noncomputable def Sx (X : Nat → Prop) (σ : St) (μ : Nat → Nat) (a : Nat) : Prop := Tr σ μ a ∨ X a
inductive LstI (h : Heap) (S : Nat → Prop) (μ : Nat → Nat) (n : Nat) (a : Addr) (vs : List V) : Prop
 | mk (items : List Value) (k : Nat) (e : h.get? a = some (listO items k)) (x : VRs h S μ n items vs) : LstI h S μ n a vs
inductive DctI (c : Ctx) (h : Heap) (S : Nat → Prop) (μ : Nat → Nat) (n : Nat) (a : Addr) (kvs : List (V × V)) : Prop
 | mk (es : List DictEntry) (k : Nat) (e : h.get? a = some (dictO es k)) (x : DR c h S μ n es kvs) (u : (kvs.map (·.1)).Pairwise (· ≠ ·)) (y : ∀ p ∈ kvs, p.1.key = true ∧ p.1.dep ≤ 7) : DctI c h S μ n a kvs
inductive NsI (h : Heap) (S : Nat → Prop) (μ : Nat → Nat) (n : Nat) (a : Addr) (kvs : List (Str × V)) : Prop
 | mk (es : List DictEntry) (k : Nat) (e : h.get? a = some (dictO es k)) (x : NR h S μ n es kvs) : NsI h S μ n a kvs
noncomputable def OR.Inv (c : Ctx) (h : Heap) (S : Nat → Prop) (μ : Nat → Nat) (n : Nat) (a : Addr) : AObj → Prop
 | .list vs => LstI h S μ n a vs
 | .dict kvs => DctI c h S μ n a kvs
 | .ns kvs => NsI h S μ n a kvs
theorem OR.inv {c : Ctx} {h : Heap} {S : Nat → Prop} {μ : Nat → Nat} {n : Nat} {a : Addr} {o : AObj} (t : OR c h S μ n a o) : OR.Inv c h S μ n a o := by
 cases t with
 | list e x => exact ⟨_, _, e, x⟩
 | dict e x u y => exact ⟨_, _, e, x, u, y⟩
 | ns e x => exact ⟨_, _, e, x⟩
structure Rel (c : Ctx) (X : Nat → Prop) (σ : St) (μ : Nat → Nat) (h : Heap) : Prop where
 base : ∀ b o, c.h0.get? b = some o → h.get? b = some o
 out : ∀ i o, σ[i]? = some (some o) → c.h0.get? (μ i) = none
 inj : ∀ i j o p, σ[i]? = some (some o) → σ[j]? = some (some p) → μ i = μ j → i = j
 obj : ∀ i o, σ[i]? = some (some o) → OR c h (Sx X σ μ) μ σ.length (μ i) o
 sh : ∀ a, X a → c.h0.get? a = none ∧ ∃ o, h.get? a = some o
noncomputable abbrev VRσ (X : Nat → Prop) (σ : St) (μ : Nat → Nat) (h : Heap) : Value → V → Prop := VR h (Sx X σ μ) μ σ.length
noncomputable abbrev Evσ (X : Nat → Prop) (σ : St) (μ : Nat → Nat) (h : Heap) (X' : Nat → Prop) (σ' : St) (μ' : Nat → Nat) (h' : Heap) : Prop := Evo h (Tr σ μ) (Sx X σ μ) μ σ.length h' (Tr σ' μ') (Sx X' σ' μ') μ' σ'.length
theorem Evσ.refl (X : Nat → Prop) (σ : St) (μ : Nat → Nat) (h : Heap) : Evσ X σ μ h X σ μ h := ⟨fun _ _ _ e => e, fun _ o e => ⟨o, e⟩, fun _ t => .inl t, fun _ t => .inl t, fun _ t => .inl t, fun _ _ => rfl, Nat.le_refl _⟩
theorem Evσ.beside {X : Nat → Prop} {σ : St} {μ : Nat → Nat} {h h' : Heap} (k : ∀ b o, h.get? b = some o → h'.get? b = some o) : Evσ X σ μ h X σ μ h' := ⟨fun _ _ _ e => k _ _ e, fun _ _ e => ⟨_, k _ _ e⟩, fun _ t => .inl t, fun _ t => .inl t, fun _ t => .inl t, fun _ _ => rfl, Nat.le_refl _⟩
theorem lt_of_get {σ : St} {i : Nat} {o : AObj} (e : σ[i]? = some (some o)) : i < σ.length := (List.getElem?_eq_some_iff.mp e).1
theorem Rel.keeps {c : Ctx} {X : Nat → Prop} {σ : St} {μ : Nat → Nat} {h h' : Heap} (R : Rel c X σ μ h) (k : ∀ b o, h.get? b = some o → h'.get? b = some o) : Rel c X σ μ h' ∧ Evσ X σ μ h X σ μ h' :=
 have ev : Evσ X σ μ h X σ μ h' := Evσ.beside k
 ⟨⟨fun b o' e => k _ _ (R.base b o' e), R.out, R.inj, fun i a e => (R.obj i a e).move ev fun o' e' => k _ _ e', fun a x => let ⟨z, o, e⟩ := R.sh a x; ⟨z, o, k _ _ e⟩⟩, ev⟩
theorem Rel.push {c : Ctx} {X : Nat → Prop} {σ : St} {μ : Nat → Nat} {h : Heap} (R : Rel c X σ μ h) (o : Obj) : Rel c X σ μ (h.push o) ∧ Evσ X σ μ h X σ μ (h.push o) :=
 R.keeps fun _ _ e => Heap.get?_push_of_some o e
theorem Rel.shut {c : Ctx} {X X' : Nat → Prop} {σ : St} {μ : Nat → Nat} {h : Heap} (R : Rel c X σ μ h) (k : ∀ a, X' a → X a) : Rel c X' σ μ h ∧ Evσ X σ μ h X' σ μ h := by
 have ev : Evσ X σ μ h X' σ μ h := ⟨fun _ _ _ e => e, fun _ _ e => ⟨_, e⟩, fun _ t => .inl t, fun _ t => .inl t, fun a t => .inl (t.imp id (k a)), fun _ _ => rfl, Nat.le_refl _⟩
 exact ⟨⟨R.base, R.out, R.inj, fun i a e => (R.obj i a e).move ev fun o' e' => e', fun a x => R.sh a (k a x)⟩, ev⟩
theorem Rel.opens {c : Ctx} {X X' : Nat → Prop} {σ : St} {μ : Nat → Nat} {h h' : Heap} (R : Rel c X σ μ h) (kp : ∀ b o, h.get? b = some o → h'.get? b = some o) (k : ∀ a, X' a → X a ∨ (h.get? a = none ∧ ∃ o, h'.get? a = some o)) :
  Rel c X' σ μ h' ∧ Evσ X σ μ h X' σ μ h' := by
 have ev : Evσ X σ μ h X' σ μ h' := ⟨fun _ _ _ e => kp _ _ e, fun _ _ e => ⟨_, kp _ _ e⟩, fun _ t => .inl t, fun _ t => .inl t, fun a t => by
  rcases t with t | t
  ·exact .inl (.inl t)
  ·exact (k a t).imp .inr And.left, fun _ _ => rfl, Nat.le_refl _⟩
 exact ⟨⟨fun b o' e => kp _ _ (R.base b o' e), R.out, R.inj, fun i a e => (R.obj i a e).move ev fun o' e' => kp _ _ e', fun a x => (k a x).elim (fun x => let ⟨z, o, e⟩ := R.sh a x; ⟨z, o, kp _ _ e⟩) fun x => ⟨by cases z : c.h0.get? a with | none => rfl | some o => (have := R.base _ _ z; rw [x.1] at this; cases this), x.2⟩⟩, ev⟩
theorem Rel.beside {c : Ctx} {X : Nat → Prop} {σ : St} {μ : Nat → Nat} {h h' : Heap} {a : Addr} (R : Rel c X σ μ h) (hs : Heap.SameBut a h h') (ht : ¬ Tr σ μ a) (h0 : c.h0.get? a = none) (hlive : ∃ o', h'.get? a = some o')
  (mono : ∀ v x, VRσ X σ μ h v x → VRσ X σ μ h' v x) : Rel c X σ μ h' := by
 have monos : ∀ (vs : List Value) (xs : List V), VRs h (Sx X σ μ) μ σ.length vs xs → VRs h' (Sx X σ μ) μ σ.length vs xs := fun vs xs => by
  induction xs generalizing vs with
  | nil => intro x; cases x; exact .nil
  | cons z zs ih => intro x; cases x with | cons p q => exact .cons (mono _ _ p) (ih _ q)
 have monod : ∀ (es : List DictEntry) (kvs : List (V × V)), DR c h (Sx X σ μ) μ σ.length es kvs → DR c h' (Sx X σ μ) μ σ.length es kvs := fun es kvs x => by
  induction x with
  | nil => exact .nil
  | cons p q r _ ih => exact .cons (mono _ _ p) (mono _ _ q) r ih
 refine ⟨fun b o e => (hs.2 b fun z => by rw [← z, e] at h0; cases h0).trans (R.base b o e), R.out, R.inj, fun i o e => ?_, fun b x => ?_⟩
 case refine_2 =>
  obtain ⟨z0, o, e⟩ := R.sh b x
  by_cases z : b = a
  ·exact ⟨z0, z ▸ hlive⟩
  ·exact ⟨z0, o, (hs.2 b z).trans e⟩
 have hne : μ i ≠ a := fun z => ht ⟨i, o, e, z⟩
 cases R.obj i o e with
 | list e1 x => exact .list ((hs.2 _ hne).trans e1) (monos _ _ x)
 | dict e1 x u y => exact .dict ((hs.2 _ hne).trans e1) (monod _ _ x) u y
 | ns e1 x =>
  refine .ns ((hs.2 _ hne).trans e1) ?_
  clear e1 e
  induction x with
  | nil => exact .nil
  | cons p q _ ih => exact .cons p (mono _ _ q) ih
theorem Tr.set {σ : St} {μ : Nat → Nat} {i : Nat} {o p : AObj} (e : σ[i]? = some (some o)) {a : Nat} : Tr (σ.set i (some p)) μ a ↔ Tr σ μ a := by
 constructor
 ·rintro ⟨j, q, ej, rfl⟩
  by_cases hij : i = j
  ·subst hij; exact ⟨i, o, e, rfl⟩
  ·rw [List.getElem?_set_ne hij] at ej; exact ⟨j, q, ej, rfl⟩
 ·rintro ⟨j, q, ej, rfl⟩
  by_cases hij : i = j
  ·subst hij; exact ⟨i, p, by rw [List.getElem?_set_self (lt_of_get e)], rfl⟩
  ·exact ⟨j, q, by rw [List.getElem?_set_ne hij]; exact ej, rfl⟩
theorem Rel.upd {c : Ctx} {X : Nat → Prop} {σ : St} {μ : Nat → Nat} {h h' : Heap} (R : Rel c X σ μ h) {i : Nat} {o p : AObj} (e : σ[i]? = some (some o)) (hs : Heap.SameBut (μ i) h h') (hlive : ∃ o', h'.get? (μ i) = some o')
  (hp : Evσ X σ μ h X σ μ h' → OR c h' (Sx X σ μ) μ σ.length (μ i) p) : Rel c X (σ.set i (some p)) μ h' ∧ Evσ X σ μ h X (σ.set i (some p)) μ h' := by
 have hl : (σ.set i (some p)).length = σ.length := by simp
 have hT' : Tr (σ.set i (some p)) μ = Tr σ μ := funext fun a => propext (Tr.set e)
 have hS' : Sx X (σ.set i (some p)) μ = Sx X σ μ := funext fun a => by unfold Sx; rw [hT']
 have lv : ∀ a o', h.get? a = some o' → ∃ o'', h'.get? a = some o'' := fun a o' q => by
  by_cases z : a = μ i
  ·exact z ▸ hlive
  ·exact ⟨o', (hs.2 a z).trans q⟩
 have ev : Evσ X σ μ h X σ μ h' := ⟨fun a o' f q => (hs.2 a fun z => f ⟨i, o, e, z.symm⟩).trans q, lv, fun _ t => .inl t, fun _ t => .inl t, fun _ t => .inl t, fun _ _ => rfl, Nat.le_refl _⟩
 have ev' : Evσ X σ μ h X (σ.set i (some p)) μ h' := by
  unfold Evσ; rw [hT', hS', hl]; exact ev
 refine ⟨⟨fun b o' q => (hs.2 b fun z => by have := R.out i o e; rw [← z, q] at this; cases this).trans (R.base b o' q), fun j q ej => ?_, fun j k q r ej ek hjk => ?_, fun j q ej => ?_, fun b x => let ⟨z, o', q⟩ := R.sh b x; ⟨z, lv b o' q⟩⟩, ev'⟩
 ·by_cases hij : i = j
  ·subst hij; exact R.out i o e
  ·rw [List.getElem?_set_ne hij] at ej; exact R.out j q ej
 ·have f : ∀ {j : Nat} {q : AObj}, (σ.set i (some p))[j]? = some (some q) → ∃ q', σ[j]? = some (some q') := fun {j q} ej => by
   by_cases hij : i = j
   ·subst hij; exact ⟨o, e⟩
   ·rw [List.getElem?_set_ne hij] at ej; exact ⟨q, ej⟩
  obtain ⟨q', hq⟩ := f ej
  obtain ⟨r', hr⟩ := f ek
  exact R.inj j k q' r' hq hr hjk
 ·rw [hS', hl]
  by_cases hij : i = j
  ·subst hij
   rw [List.getElem?_set_self (lt_of_get e)] at ej
   cases ej
   exact hp ev
  ·rw [List.getElem?_set_ne hij] at ej
   have hne : μ j ≠ μ i := fun z => hij (R.inj i j o q e ej z.symm)
   exact (R.obj j q ej).move ev fun o' e' => (hs.2 _ hne).trans e'
theorem get_size (h : Heap) : h.get? h.objs.size = none := by
 cases q : h.get? h.objs.size with
 | none => rfl
 | some o' => exact absurd (Heap.lt_size q) (Nat.lt_irrefl _)
theorem Rel.fresh {c : Ctx} {X : Nat → Prop} {σ : St} {μ : Nat → Nat} {h : Heap} (R : Rel c X σ μ h) {a : Addr} (e : h.get? a = none) : ¬ Sx X σ μ a := by
 rintro (⟨i, o, ei, rfl⟩ | x)
 ·obtain ⟨o', e'⟩ := (R.obj i o ei).isSome; rw [e] at e'; cases e'
 ·obtain ⟨_, o', e'⟩ := R.sh a x; rw [e] at e'; cases e'
theorem Rel.alloc {c : Ctx} {X : Nat → Prop} {σ : St} {μ : Nat → Nat} {h : Heap} (R : Rel c X σ μ h) {o : Obj} {p : AObj}
  (hp : ∀ μ', Evσ X σ μ h X (σ ++ [some p]) μ' (h.push o) → μ' σ.length = h.objs.size → OR c (h.push o) (Sx X (σ ++ [some p]) μ') μ' (σ ++ [some p]).length h.objs.size p) :
  ∃ μ', Rel c X (σ ++ [some p]) μ' (h.push o) ∧ Evσ X σ μ h X (σ ++ [some p]) μ' (h.push o) ∧ μ' σ.length = h.objs.size := by
 let μ' : Nat → Nat := fun i => if i = σ.length then h.objs.size else μ i
 have hmu : ∀ i, i < σ.length → μ' i = μ i := fun i l => if_neg (Nat.ne_of_lt l)
 have hself : μ' σ.length = h.objs.size := if_pos rfl
 have hsz := get_size h
 have old : ∀ {i : Nat} {q : AObj}, (σ ++ [some p])[i]? = some (some q) → (i = σ.length ∧ q = p) ∨ (i < σ.length ∧ σ[i]? = some (some q)) := fun {i q} e => by
  rcases Nat.lt_or_ge i σ.length with hl | hl
  ·rw [List.getElem?_append_left hl] at e; exact .inr ⟨hl, e⟩
  ·rw [List.getElem?_append_right hl] at e
   have : i - σ.length = 0 := by
    rcases Nat.eq_zero_or_pos (i - σ.length) with z | z
    ·exact z
    ·rw [List.getElem?_eq_none (by simp; lia)] at e; cases e
   rw [this] at e
   simp at e
   exact .inl ⟨by lia, e.symm⟩
 have hT : ∀ a, Tr (σ ++ [some p]) μ' a → Tr σ μ a ∨ h.get? a = none := by
  rintro a ⟨i, q, e, rfl⟩
  rcases old e with ⟨rfl, rfl⟩ | ⟨hl, e⟩
  ·right; rw [hself]; exact hsz
  ·left; exact ⟨i, q, e, (hmu i hl).symm⟩
 have ev : Evσ X σ μ h X (σ ++ [some p]) μ' (h.push o) := ⟨fun a o' _ e => Heap.get?_push_of_some o e, fun a o' e => ⟨o', Heap.get?_push_of_some o e⟩, fun _ t => .inl t, hT, fun a t => by
  rcases t with t | t
  ·exact (hT a t).imp .inl id
  ·exact .inl (.inr t), hmu, by simp⟩
 have live : ∀ {i : Nat} {q : AObj}, σ[i]? = some (some q) → μ i < h.objs.size := fun {i q} e => let ⟨_, e1⟩ := (R.obj i q e).isSome; Heap.lt_size e1
 refine ⟨μ', ⟨fun b o' e => Heap.get?_push_of_some o (R.base b o' e), fun i q e => ?_, fun i j q r ei ej hij => ?_, fun i q e => ?_, fun a x => let ⟨z, o', e⟩ := R.sh a x; ⟨z, o', Heap.get?_push_of_some o e⟩⟩, ev, hself⟩
 ·rcases old e with ⟨rfl, rfl⟩ | ⟨hl, e⟩
  ·rw [hself]
   cases z : c.h0.get? h.objs.size with
   | none => rfl
   | some o' => have := R.base _ _ z; rw [hsz] at this; cases this
  ·rw [hmu i hl]; exact R.out i q e
 ·rcases old ei with ⟨hi, _⟩ | ⟨hi, ei⟩ <;> rcases old ej with ⟨hj, _⟩ | ⟨hj, ej⟩
  ·rw [hi, hj]
  ·rw [hi, hself, hmu j hj] at hij; exact absurd hij (Nat.ne_of_gt (live ej))
  ·rw [hj, hself, hmu i hi] at hij; exact absurd hij (Nat.ne_of_lt (live ei))
  ·rw [hmu i hi, hmu j hj] at hij; exact R.inj i j q r ei ej hij
 ·rcases old e with ⟨rfl, rfl⟩ | ⟨hl, e⟩
  ·rw [hself]; exact hp μ' ev hself
  ·rw [hmu i hl]
   exact (R.obj i q e).move ev fun o' e' => Heap.get?_push_of_some o e'
end
section
theorem VM.beside {h h' : Heap} {S : Nat → Prop} {μ : Nat → Nat} {n : Nat} {a : Addr} (hs : Heap.SameBut a h h') (ha : S a) : VM h S μ n h' S μ n := ⟨fun _ _ f e => ⟨(hs.2 _ fun z => f (by rw [z]; exact ha)).trans e, f⟩, fun _ _ _ => rfl⟩
theorem VR.beside {h h' : Heap} {S : Nat → Prop} {μ : Nat → Nat} {n : Nat} {a : Addr} (hs : Heap.SameBut a h h') (ha : S a) {v : Value} {x : V} (t : VR h S μ n v x) : VR h' S μ n v x := t.map (.beside hs ha) (.inl (Nat.le_refl _))
noncomputable abbrev Env' := List (Option V)
structure Gm where
 sl : List (Str × Option Nat)
 ck : List Str
 fn : Option (Addr × Addr) := none
noncomputable def Gm.lookup (Γ : Gm) (x : Str) : Option (Option Nat) := Γ.sl.lookup x
inductive CellAt (X : Nat → Prop) (bs : Nat) (env : Env) (F : Nat → Prop) (ρ : Env') (σ : St) (μ : Nat → Nat) (h : Heap) (x : Str) (i : Nat) : Prop
 | loc (hk : env.kindOf x = some .local) : CellAt X bs env F ρ σ μ h x i
 | cell (hk : env.kindOf x = some .cell ∨ env.kindOf x = some .free) (a : Addr) (ov : Option Value) (ha : env.cells.lookup x = some a) (hc : h.IsCell a ov) (hv : ∀ V, ρ[i]? = some (some V) → ∃ v, ov = some v ∧ VRσ X σ μ h v V) (ht : ¬ Tr σ μ a) (hl : a ≠ env.locals)
  (hf : bs ≤ i → env.kindOf x = some .cell ∧ F a) : CellAt X bs env F ρ σ μ h x i
structure EnvR (c : Ctx) (X : Nat → Prop) (Γ : Gm) (bs : Nat) (env : Env) (F : Nat → Prop) (ρ : Env') (σ : St) (μ : Nat → Nat) (h : Heap) : Prop where
 kind : env.scope.kind = .function
 glob : env.globals = mainGlobals
 blt : env.builtins = builtinsNs
 gl : ∀ x, Γ.lookup x = some none → env.kindOf x = some .globalImplicit
 slots : ∀ x y i, Γ.lookup x = some (some i) → Γ.lookup y = some (some i) → x = y
 lo : ∃ m, h.Ns env.locals m ∧ ∀ x i, Γ.lookup x = some (some i) → env.kindOf x = some .local → ∀ V, ρ[i]? = some (some V) → ∃ v, m x = some v ∧ VRσ X σ μ h v V
 ce : ∀ x i, Γ.lookup x = some (some i) → CellAt X bs env F ρ σ μ h x i
 ap : ∀ x y a, env.cells.lookup x = some a → env.cells.lookup y = some a → x = y
 own : F env.locals
 fx : ∀ a, F a → X a
 fr : ∀ a, F a → ¬ Tr σ μ a ∧ c.h0.get? a = none ∧ ∃ o, h.get? a = some o
 ck : ∀ x ∈ Γ.ck, env.kindOf x = some .cell ∨ env.kindOf x = some .free
 fn : ∀ f a, Γ.fn = some (f, a) → env.func = some f ∧ env.kindOf ("__class__" : Str) = some .free ∧ env.cells.lookup ("__class__" : Str) = some a ∧ ∃ o fd, c.h0.get? f = some o ∧ o.data = .func fd ∧ env.code = fd.code
theorem EnvR.map {c : Ctx} {X X' : Nat → Prop} {Γ : Gm} {bs : Nat} {env : Env} {F : Nat → Prop} {ρ : Env'} {σ σ' : St} {μ μ' : Nat → Nat} {h h' : Heap} (E : EnvR c X Γ bs env F ρ σ μ h) (K : Nat → Prop) (vr : ∀ v x, VRσ X σ μ h v x → VRσ X' σ' μ' h' v x)
  (kp : ∀ b o, K b → h.get? b = some o → h'.get? b = some o) (nt : ∀ b o, ¬ Tr σ μ b → h.get? b = some o → ¬ Tr σ' μ' b) (hF : ∀ b, F b → K b) (hX : ∀ b, F b → X' b)
  (hc : ∀ x i a, Γ.lookup x = some (some i) → env.kindOf x ≠ some .local → env.cells.lookup x = some a → ¬ Tr σ μ a → K a) : EnvR c X' Γ bs env F ρ σ' μ' h' where
 kind := E.kind
 glob := E.glob
 blt := E.blt
 gl := E.gl
 slots := E.slots
 lo := E.lo.elim fun m k => k.1.elim fun o k1 => k1.elim fun es k2 => k2.elim fun ep k3 => ⟨m, ⟨o, es, ep, kp _ _ (hF _ E.own) k3.1, k3.2⟩, fun x i hx hk V hV => (k.2 x i hx hk V hV).imp fun _ q => ⟨q.1, vr _ _ q.2⟩⟩
 ce := fun x i hx => by
  cases E.ce x i hx with
  | loc hk => exact .loc hk
  | cell hk a ov ha hc' hv ht hl hf =>
   exact .cell hk a ov ha (hc'.imp fun _ q => ⟨kp _ _ (hc x i a hx (fun e => by rcases hk with hk | hk <;> rw [hk] at e <;> cases e) ha ht) q.1, q.2⟩) (fun V hV => (hv V hV).imp fun _ q => ⟨q.1, vr _ _ q.2⟩) (hc'.elim fun o q => nt a o ht q.1) hl hf
 ap := E.ap
 own := E.own
 fx := hX
 fr := fun a ha => (E.fr a ha).2.2.elim fun o ho => ⟨nt a o (E.fr a ha).1 ho, (E.fr a ha).2.1, o, kp a o (hF a ha) ho⟩
 ck := E.ck
 fn := E.fn
theorem EnvR.mono' {c : Ctx} {X X' : Nat → Prop} {Γ : Gm} {bs : Nat} {env : Env} {F : Nat → Prop} {ρ : Env'} {σ σ' : St} {μ μ' : Nat → Nat} {h h' : Heap} (E : EnvR c X Γ bs env F ρ σ μ h) (ev : Evσ X σ μ h X' σ' μ' h') (hF : ∀ a, F a → X' a) : EnvR c X' Γ bs env F ρ σ' μ' h' :=
 E.map (fun b => ¬ Tr σ μ b) (fun _ _ t => t.mono ev) ev.keep (fun _ _ k e => ev.freeT k e) (fun b hb => (E.fr b hb).1) hF fun _ _ _ _ _ _ k => k
theorem EnvR.mono {c : Ctx} {X : Nat → Prop} {Γ : Gm} {bs : Nat} {env : Env} {F : Nat → Prop} {ρ : Env'} {σ σ' : St} {μ μ' : Nat → Nat} {h h' : Heap} (E : EnvR c X Γ bs env F ρ σ μ h) (ev : Evσ X σ μ h X σ' μ' h') : EnvR c X Γ bs env F ρ σ' μ' h' := E.mono' ev E.fx
structure Room (A : Around) (d : Nat) : Prop where
 handled : A.handled = none
 depth : A.depth + d ≤ recursionLimit
 units : A.units + 8 * d + 300 ≤ cLine
noncomputable abbrev Bot : Value → Shared → Prop := fun _ _ => False
noncomputable abbrev Rl (α β : Type) := (Nat → Prop) → St → (Nat → Nat) → Heap → β → α → Prop
noncomputable abbrev RV : Rl V Value := fun X σ μ h v x => VRσ X σ μ h v x
noncomputable abbrev RB : Rl Bool Bool := fun _ _ _ _ b x => b = x
noncomputable abbrev RL : Rl (List V) (List Value) := fun X σ μ h v x => VRs h (Sx X σ μ) μ σ.length v x
noncomputable abbrev RU : Rl Unit Unit := fun _ _ _ _ _ _ => True
inductive Post {α β : Type} (c : Ctx) (T : Rl α β) (X : Nat → Prop) (σ : St) (μ : Nat → Nat) (s : Shared) (Q : α → St → Prop) (v : β) (s' : Shared) : Prop
 | mk (x : α) (σ' : St) (μ' : Nat → Nat) (q : Q x σ') (R : Rel c X σ' μ' s'.heap) (t : T X σ' μ' s'.heap v x) (e : Evσ X σ μ s.heap X σ' μ' s'.heap) (g : s'.gens = s.gens) (o : s'.os = s.os) : Post c T X σ μ s Q v s'
section
variable {α β α' β' : Type} {c : Ctx} {T : Rl α β} {T' : Rl α' β'} {A : Around} {X : Nat → Prop} {σ σ₁ : St} {μ μ₁ : Nat → Nat} {s s₁ : Shared} {Q : α → St → Prop} {Q' : α' → St → Prop}
theorem Post.after (ev : Evσ X σ μ s.heap X σ₁ μ₁ s₁.heap) (g : s₁.gens = s.gens) (o : s₁.os = s.os) {v : β} {s' : Shared} : Post c T X σ₁ μ₁ s₁ Q v s' → Post c T X σ μ s Q v s' :=
 fun ⟨x, σ', μ', q, r, t, e, g', o'⟩ => ⟨x, σ', μ', q, r, t, ev.trans e, g'.trans g, o'.trans o⟩
theorem Post.here {v : β} {x : α} (R : Rel c X σ μ s.heap) (t : T X σ μ s.heap v x) (q : Q x σ) : Post c T X σ μ s Q v s := ⟨x, σ, μ, q, R, t, Evσ.refl .., rfl, rfl⟩
theorem Post.tok {v : β} {x : α} {tk : Nat} (R : Rel c X σ μ s.heap) (t : T X σ μ s.heap v x) (q : Q x σ) : Post c T X σ μ s Q v { s with toks := tk } := ⟨x, σ, μ, q, R, t, Evσ.refl .., rfl, rfl⟩
theorem Post.keeps {v : β} {x : α} {h' : Heap} {tk : Nat} (R : Rel c X σ μ s.heap) (k : ∀ b o, s.heap.get? b = some o → h'.get? b = some o) (t : Evσ X σ μ s.heap X σ μ h' → Rel c X σ μ h' → T X σ μ h' v x) (q : Q x σ) : Post c T X σ μ s Q v { s with heap := h', toks := tk } :=
 ⟨x, σ, μ, q, (R.keeps k).1, t (R.keeps k).2 (R.keeps k).1, (R.keeps k).2, rfl, rfl⟩
theorem wp_then {t : Sem β} {f : β → Sem β'} (h : wpAny c.M A t (Post c T X σ μ s Q) Bot s)
  (k : ∀ v x σ₁ μ₁ s₁, Q x σ₁ → Rel c X σ₁ μ₁ s₁.heap → T X σ₁ μ₁ s₁.heap v x → Evσ X σ μ s.heap X σ₁ μ₁ s₁.heap → wpAny c.M A (f v) (Post c T' X σ₁ μ₁ s₁ Q') Bot s₁) :
  wpAny c.M A (t >>= f) (Post c T' X σ μ s Q') Bot s :=
 wpAny_bind (wpAny_mono h (fun _ _ ⟨x, σ₁, μ₁, q, r, t, e, g, o⟩ => wpAny_mono (k _ x σ₁ μ₁ _ q r t e) (fun _ _ p => p.after e g o) fun _ _ h => h) fun _ _ h => h)
theorem wp_seq {t : Sem β} {P : β → Shared → Prop} (h : wpAny c.M A t (Post c T X σ μ s Q) Bot s)
  (k : ∀ v x σ₁ μ₁ s₁, Q x σ₁ → Rel c X σ₁ μ₁ s₁.heap → T X σ₁ μ₁ s₁.heap v x → Evσ X σ μ s.heap X σ₁ μ₁ s₁.heap → s₁.gens = s.gens → s₁.os = s.os → P v s₁) : wpAny c.M A t P Bot s :=
 wpAny_mono h (fun _ _ ⟨x, σ₁, μ₁, q, r, t, e, g, o⟩ => k _ x σ₁ μ₁ _ q r t e g o) fun _ _ h => h
theorem wp_after {t : Sem β'} (ev : Evσ X σ μ s.heap X σ₁ μ₁ s₁.heap) (g : s₁.gens = s.gens) (o : s₁.os = s.os) (h : wpAny c.M A t (Post c T' X σ₁ μ₁ s₁ Q') Bot s₁) : wpAny c.M A t (Post c T' X σ μ s Q') Bot s₁ :=
 wpAny_mono h (fun _ _ p => p.after ev g o) fun _ _ h => h
end
noncomputable abbrev ME (α : Type) := Nat → Env' → St → (α → St → Prop) → Prop
noncomputable def SimE (c : Ctx) (Γ : Gm) (e : Expr) (m : ME V) : Prop := ∀ A d X bs env F ρ σ μ s Q, Room A d → Rel c X σ μ s.heap → EnvR c X Γ bs env F ρ σ μ s.heap → m d ρ σ Q → wpAny c.M A (eval e env) (Post c RV X σ μ s Q) Bot s
noncomputable def SimT (c : Ctx) (Γ : Gm) (e : Expr) (m : ME Bool) : Prop := ∀ A d X bs env F ρ σ μ s Q, Room A d → Rel c X σ μ s.heap → EnvR c X Γ bs env F ρ σ μ s.heap → m d ρ σ Q → wpAny c.M A (isTrue e env (eval e env)) (Post c RB X σ μ s Q) Bot s
noncomputable def SimEs (c : Ctx) (Γ : Gm) (es : List Expr) (m : ME (List V)) : Prop := ∀ A d X bs env F ρ σ μ s Q pos, Room A d → Rel c X σ μ s.heap → EnvR c X Γ bs env F ρ σ μ s.heap → m d ρ σ Q → wpAny c.M A (spliced (backTo pos (starEach es env))) (Post c RL X σ μ s Q) Bot s
end
section
section
variable {c : Ctx} {Γ : Gm}
theorem wp_loadName {A : Around} {X : Nat → Prop} {bs : Nat} {env : Env} {F : Nat → Prop} {ρ : Env'} {σ : St} {μ : Nat → Nat} {s : Shared} {x : Str} {i : Nat} {y : V} {Q : Value → Shared → Prop} (E : EnvR c X Γ bs env F ρ σ μ s.heap) (hx : Γ.lookup x = some (some i)) (hy : ρ[i]? = some (some y))
  (hn : (x == ("__classdict__" : Str)) = false) (h : ∀ v, VRσ X σ μ s.heap v y → Q v s) : wpAny c.M A (loadName env x) Q Bot s := by
 rcases E.ce x i hx with hk | ⟨hk, a, ov, ha, hc, k, _⟩
 ·obtain ⟨m, hm, k⟩ := E.lo
  obtain ⟨v, e, q⟩ := k x i hx hk y hy
  exact wpAny_loadName_local E.kind hk hm e (h v q)
 ·obtain ⟨v, rfl, q⟩ := k y hy
  rcases hk with hk | hk
  ·exact wpAny_loadName_cell E.kind hk ha hc (h v q)
  ·exact wpAny_loadName_free E.kind hk ha hc (h v q) hn
theorem wp_loadGlobal {A : Around} {X : Nat → Prop} {bs : Nat} {env : Env} {F : Nat → Prop} {ρ : Env'} {σ : St} {μ : Nat → Nat} {s : Shared} {x : Str} {v : Value} {Q : Value → Shared → Prop} (ok : c.Ok) (R : Rel c X σ μ s.heap) (E : EnvR c X Γ bs env F ρ σ μ s.heap) (hx : Γ.lookup x = some none)
  (hv : c.mg x = some v ∨ (c.mg x = none ∧ c.mb x = some v)) (h : Q v s) : wpAny c.M A (loadName env x) Q Bot s := by
 have hk := E.gl x hx
 unfold loadName
 simp only [Env.blockKind, E.kind, hk, ScopeKind.isAnnotationScope, Bool.false_and, Bool.false_eq_true, if_false]
 unfold loadGlobal
 rw [E.glob, E.blt]
 refine wpAny_bind (wpAny_nsGet (ok.g.keeps R.base) ?_)
 rcases hv with hv | ⟨hv, hb⟩
 ·rw [hv]; exact wpAny_pure h
 ·rw [hv]
  refine wpAny_bind (wpAny_nsGet (ok.b.keeps R.base) ?_)
  rw [hb]; exact wpAny_pure h
noncomputable def locM (i : Nat) : ME V := fun _ ρ σ Q => match ρ[i]? with
  | some (some y) => Q y σ
  | _ => False
noncomputable def gloM (y : V) : ME V := fun _ _ σ Q => Q y σ
theorem sim_loc {x : Str} {i : Nat} {pos : Pos} (hx : Γ.lookup x = some (some i)) (hd : (x == ("__debug__" : Str)) = false) (hn : (x == ("__classdict__" : Str)) = false) : SimE c Γ (.Name x pos) (locM i) := by
 intro A d X bs env F ρ σ μ s Q hA R E h
 unfold locM at h
 split at h
 ·rename_i y hy
  exact wpAny_Name (wp_loadName E hx hy hn fun v q => Post.here R q h) hd
 ·exact h.elim
noncomputable def intM (i : Int) : ME V := fun _ _ σ Q => Q (.int i) σ
noncomputable def strM (x : Str) : ME V := fun _ _ σ Q => Q (.str x) σ
noncomputable def boolM (b : Bool) : ME V := fun _ _ σ Q => Q (.bool b) σ
noncomputable def noneM : ME V := fun _ _ σ Q => Q .none σ
theorem sim_int {i : Int} {n : Nat} {pos : Pos} : SimE c Γ (.Constant (.int i) n pos) (intM i) := fun _ _ _ _ _ _ _ _ _ _ _ _ R _ h => wpAny_Constant_int (Post.tok R (.int i _) h)
theorem sim_str {x : Str} {n : Nat} {pos : Pos} : SimE c Γ (.Constant (.str x) n pos) (strM x) := fun _ _ _ _ _ _ _ _ _ _ _ _ R _ h => wpAny_Constant_str (Post.tok R (.str x _) h)
theorem sim_bool {b : Bool} {n : Nat} {pos : Pos} : SimE c Γ (.Constant (.bool b) n pos) (boolM b) := fun _ _ _ _ _ _ _ _ _ _ _ _ R _ h => wpAny_Constant_bool (Post.here R (.bool b) h)
theorem sim_none {n : Nat} {pos : Pos} : SimE c Γ (.Constant .none n pos) noneM := fun _ _ _ _ _ _ _ _ _ _ _ _ R _ h => wpAny_Constant_none (Post.here R .none h)
noncomputable def consM (a : ME V) (b : ME (List V)) : ME (List V) := fun d ρ σ Q => a d ρ σ fun x σ => b d ρ σ fun xs σ => Q (x :: xs) σ
noncomputable def nilM : ME (List V) := fun _ _ σ Q => Q [] σ
theorem sim_nil : SimEs c Γ [] nilM := fun _ _ _ _ _ _ _ _ _ _ _ _ _ R _ h => wpAny_items_nil (Post.here R .nil h)
theorem sim_cons {e : Expr} {es : List Expr} {a : ME V} {b : ME (List V)} (ha : SimE c Γ e a) (hb : SimEs c Γ es b) (st : ∀ env, starEach (e :: es) env = (false, eval e env) :: starEach es env) : SimEs c Γ (e :: es) (consM a b) := by
 intro A d X bs env F ρ σ μ s Q pos hA R E h
 rw [st env]
 show wpAny c.M A (do let v ← eval e env; let here ← pure [v]; return here ++ (← holding here (spliced (backTo pos (starEach es env))))) _ _ _
 refine wp_then (ha A d X bs env F ρ σ μ s _ hA R E h) fun v x σ₁ μ₁ s₁ q R₁ t e₁ => ?_
 refine wpAny_bind (wpAny_pure (wp_then (wpAny_holding (hb A d X bs env F ρ σ₁ μ₁ s₁ _ pos hA R₁ (E.mono e₁) q)) fun vs xs σ₂ μ₂ s₂ q₂ R₂ t₂ e₂ => ?_))
 exact wpAny_pure (Post.here R₂ (.cons (t.mono e₂) t₂) q₂)
noncomputable def onB (b : Bool) (p : Prop) : Prop := cond b p False
theorem onB_inv {b : Bool} {p : Prop} (h : onB b p) : b = true ∧ p := by
 cases b
 ·exact h.elim
 ·exact ⟨rfl, h⟩
theorem onB_of {b : Bool} {p : Prop} (h : b = true) (k : p) : onB b p := by rw [h]; exact k
theorem lenB {n m : Nat} {p : Prop} (h : onB (Nat.ble n m) p) : n ≤ m ∧ p := ⟨Nat.le_of_ble_eq_true (onB_inv h).1, (onB_inv h).2⟩
noncomputable def tupM (a : ME (List V)) : ME V := fun d ρ σ Q => a d ρ σ fun xs σ => onB (Nat.ble xs.length 1000000) (Q (.tup xs) σ)
noncomputable def flM (a : ME (List V)) : ME V := fun d ρ σ Q => a d ρ σ fun xs σ => onB (Nat.ble xs.length 1000000) (Q (.fl xs) σ)
noncomputable def tlM (a : ME (List V)) : ME V := fun d ρ σ Q => a d ρ σ fun xs σ => onB (Nat.ble xs.length 1000000) (Q (.ref σ.length) (σ ++ [some (.list xs)]))
theorem le_sizeLine {n : Nat} (h : n ≤ 1000000) : n ≤ sizeLine := Nat.le_trans h (by decide)
theorem sim_Tuple {es : List Expr} {a : ME (List V)} {k : Nat} {pos : Pos} (ha : SimEs c Γ es a) : SimE c Γ (.Tuple es k pos) (tupM a) := by
 intro A d X bs env F ρ σ μ s Q hA R E h
 refine wpAny_Tuple (wp_seq (ha A d X bs env F ρ σ μ s _ pos hA R E h) fun vs xs σ₁ μ₁ s₁ q R₁ t e₁ g o => ⟨le_sizeLine (by rw [t.length]; exact (lenB q).1), ?_⟩)
 have p := R₁.push (tupO vs)
 exact ⟨_, σ₁, μ₁, (lenB q).2, p.1, .tup (Heap.get?_push_size _ rfl) (fun f => R₁.fresh (get_size _) f) (t.mono p.2), e₁.trans p.2, g, o⟩
theorem sim_List {es : List Expr} {a : ME (List V)} {pos : Pos} (ha : SimEs c Γ es a) : SimE c Γ (.List es pos) (flM a) := by
 intro A d X bs env F ρ σ μ s Q hA R E h
 refine wpAny_List (wp_seq (ha A d X bs env F ρ σ μ s _ pos hA R E h) fun vs xs σ₁ μ₁ s₁ q R₁ t e₁ g o => ⟨le_sizeLine (by rw [t.length]; exact (lenB q).1), ?_⟩)
 have p := R₁.push (listO vs 0)
 exact ⟨_, σ₁, μ₁, (lenB q).2, p.1, .fl (Heap.get?_push_size _ rfl) (fun f => R₁.fresh (get_size _) f) (t.mono p.2), e₁.trans p.2, g, o⟩
theorem sim_TList {es : List Expr} {a : ME (List V)} {pos : Pos} (ha : SimEs c Γ es a) : SimE c Γ (.List es pos) (tlM a) := by
 intro A d X bs env F ρ σ μ s Q hA R E h
 refine wpAny_List (wp_seq (ha A d X bs env F ρ σ μ s _ pos hA R E h) fun vs xs σ₁ μ₁ s₁ q R₁ t e₁ g o => ⟨le_sizeLine (by rw [t.length]; exact (lenB q).1), ?_⟩)
 obtain ⟨μ', R', e', hm⟩ := R₁.alloc (o := listO vs 0) (p := .list xs) fun μ' e' _ => OR.list (Heap.get?_push_size _ rfl) (t.mono e')
 refine ⟨_, _, μ', (lenB q).2, R', ?_, e₁.trans e', g, o⟩
 have := VR.ref (h := s₁.heap.push (listO vs 0)) (S := Sx X (σ₁ ++ [some (.list xs)]) μ') (μ := μ') (n := (σ₁ ++ [some (AObj.list xs)]).length) (i := σ₁.length) (by simp)
 rw [hm] at this
 exact this
noncomputable def dictM : ME V := fun _ _ σ Q => Q (.ref σ.length) (σ ++ [some (.dict [])])
theorem sim_Dict0 {pos : Pos} : SimE c Γ (.Dict [] [] pos) dictM := by
 intro A d X bs env F ρ σ μ s Q hA R E h
 refine wpAny_Dict_empty ?_
 obtain ⟨μ', R', e', hm⟩ := R.alloc (o := dictO [] 0) (p := .dict []) fun μ' e' _ => OR.dict (Heap.get?_push_size _ rfl) .nil (by simp) (by simp)
 refine ⟨_, _, μ', h, R', ?_, e', rfl, rfl⟩
 have := VR.ref (h := s.heap.push (dictO [] 0)) (S := Sx X (σ ++ [some (.dict [])]) μ') (μ := μ') (n := (σ ++ [some (AObj.dict [])]).length) (i := σ.length) (by simp)
 rw [hm] at this
 exact this
noncomputable def lsP (σ : St) (x : V) (k : List V → Prop) : Prop := match x with
 | .fl l => k l
 | .ref i => match σ[i]? with
  | some (some (.list l)) => k l
  | _ => False
 | _ => False
inductive LsI (σ : St) (X : Nat → Prop) (μ : Nat → Nat) (h : Heap) (v : Value) (k : List V → Prop) : Prop
 | mk (a : Addr) (items : List Value) (n : Nat) (l : List V) (q : v = .ref a) (e : h.get? a = some (listO items n)) (x : VRs h (Sx X σ μ) μ σ.length items l) (p : k l) : LsI σ X μ h v k
theorem ls_is {σ : St} {X : Nat → Prop} {μ : Nat → Nat} {h : Heap} {x : V} {v : Value} {k : List V → Prop} (R : Rel c X σ μ h) (t : VRσ X σ μ h v x) (p : lsP σ x k) :
  LsI σ X μ h v k := by
 unfold lsP at p
 split at p
 ·obtain ⟨_, _, _, rfl, e, f, x⟩ := t.inv; exact ⟨_, _, _, _, rfl, e, x, p⟩
 ·rename_i i
  split at p
  ·rename_i l e
   obtain ⟨rfl, hl⟩ := t.inv
   obtain ⟨_, _, e, x⟩ := (R.obj i _ e).inv
   exact ⟨_, _, _, _, rfl, e, x, p⟩
  ·exact p.elim
 ·exact p.elim
theorem isList {h : Heap} {a : Addr} {items : List Value} {n : Nat} (e : h.get? a = some (listO items n)) : h.IsList a items.toArray := ⟨_, e, rfl, n, rfl⟩
inductive OpI (σ : St) (k : V → Prop) : Operator → V → V → Prop
 | add {i j : Int} (h : k (.int (i + j))) : OpI σ k .Add (.int i) (.int j)
 | sub {i j : Int} (h : k (.int (i - j))) : OpI σ k .Sub (.int i) (.int j)
 | mul {i j : Int} (h1 : i.natAbs < 2 ^ 64 ∨ j.natAbs < 2 ^ 64) (h : k (.int (i * j))) : OpI σ k .Mult (.int i) (.int j)
 | fdiv {i j : Int} (h1 : j ≠ 0) (h2 : j.natAbs < 1073741824) (h : k (.int (i.fdiv j))) : OpI σ k .FloorDiv (.int i) (.int j)
 | mod {i j : Int} (h1 : j ≠ 0) (h : k (.int (i.fmod j))) : OpI σ k .Mod (.int i) (.int j)
 | pow {i j : Int} (h0 : 0 ≤ j) (h1 : j ≤ 1000000) (h2 : i.natAbs < 2 ^ 64) (h : k (.int (i ^ j.toNat))) : OpI σ k .Pow (.int i) (.int j)
 | shl {i j : Int} (h0 : 0 ≤ j) (h1 : j ≤ 1000000) (h2 : i.natAbs < 2 ^ 64) (h : k (.int (i * 2 ^ j.toNat))) : OpI σ k .LShift (.int i) (.int j)
 | shr {i j : Int} (h0 : 0 ≤ j) (h : k (.int (i.fdiv (2 ^ j.toNat)))) : OpI σ k .RShift (.int i) (.int j)
 | and {i j : Int} (h : k (.int (Builtin.bitAnd i j))) : OpI σ k .BitAnd (.int i) (.int j)
 | or {i j : Int} (h : k (.int (Builtin.bitOr i j))) : OpI σ k .BitOr (.int i) (.int j)
 | xor {i j : Int} (h : k (.int (Builtin.bitXor i j))) : OpI σ k .BitXor (.int i) (.int j)
 | rep {l : List V} {j : Int} (h0 : 0 ≤ j) (h1 : j ≤ 1000) (h2 : l.length ≤ 1000) (h : k (.fl (List.replicate j.toNat l).flatten)) : OpI σ k .Mult (.fl l) (.int j)
 | catT {l r : List V} (h0 : l.length + r.length ≤ 1000000) (h : k (.tup (l ++ r))) : OpI σ k .Add (.tup l) (.tup r)
 | cat {l r : List V} (h0 : l.length + r.length ≤ 1000000) (h : k (.fl (l ++ r))) : OpI σ k .Add (.fl l) (.fl r)
 | catR {i : Nat} {r : List V} (h : lsP σ (.ref i) fun l => l.length + r.length ≤ 1000000 ∧ k (.fl (l ++ r))) : OpI σ k .Add (.ref i) (.fl r)
 | catL {i : Nat} {l : List V} (h : lsP σ (.ref i) fun r => l.length + r.length ≤ 1000000 ∧ k (.fl (l ++ r))) : OpI σ k .Add (.fl l) (.ref i)
noncomputable abbrev OpO (op : Operator) (x y : V) : Type := Option {v : V // ∀ (σ : St) (k : V → Prop), k v → OpI σ k op x y}
noncomputable def opII (i j : Int) : (op : Operator) → OpO op (.int i) (.int j)
 | .Add => some ⟨.int (i + j), fun _ _ h => .add h⟩
 | .Sub => some ⟨.int (i - j), fun _ _ h => .sub h⟩
 | .BitAnd => some ⟨.int (Builtin.bitAnd i j), fun _ _ h => .and h⟩
 | _ => none
noncomputable def opG (op : Operator) : (x y : V) → OpO op x y
 | .int i, .int j => opII i j op
 | _, _ => none
noncomputable def opP (σ : St) (op : Operator) (x y : V) (k : V → Prop) : Prop := (opG op x y).elim (OpI σ k op x y) fun v => k v.1
theorem opP_inv {σ : St} {op : Operator} {x y : V} {k : V → Prop} (h : opP σ op x y k) : OpI σ k op x y := by
 unfold opP at h
 cases e : opG op x y with
 | none => rw [e] at h; exact h
 | some v => rw [e] at h; exact v.2 σ k h
theorem int_ok {i j : Int} (h : i.natAbs < 2 ^ 64 ∨ j.natAbs < 2 ^ 64) : IntMulOk i j := by
 rcases h with h | h
 ·exact IntMulOk.of_left (intBits_le_64 (by lia) (by lia))
 ·exact IntMulOk.of_right (intBits_le_64 (by lia) (by lia))
section
variable {A : Around} {X : Nat → Prop} {σ : St} {μ : Nat → Nat} {s : Shared}
theorem Post.newList {Q : V → St → Prop} {vs : List Value} {xs : List V} {tk : Nat} (R : Rel c X σ μ s.heap) (t : VRs s.heap (Sx X σ μ) μ σ.length vs xs) (q : Q (.fl xs) σ) :
  Post c RV X σ μ s Q (.ref s.heap.objs.size) { s with heap := s.heap.push (listO vs 0), toks := tk } :=
 have p := R.push (listO vs 0)
 ⟨_, σ, μ, q, p.1, .fl (Heap.get?_push_size _ rfl) (fun f => R.fresh (get_size _) f) (t.mono p.2), p.2, rfl, rfl⟩
theorem Post.newTup {Q : V → St → Prop} {vs : List Value} {xs : List V} {tk : Nat} (R : Rel c X σ μ s.heap) (t : VRs s.heap (Sx X σ μ) μ σ.length vs xs) (q : Q (.tup xs) σ) :
  Post c RV X σ μ s Q (.ref s.heap.objs.size) { s with heap := s.heap.push (tupO vs), toks := tk } :=
 have p := R.push (tupO vs)
 ⟨_, σ, μ, q, p.1, .tup (Heap.get?_push_size _ rfl) (fun f => R.fresh (get_size _) f) (t.mono p.2), p.2, rfl, rfl⟩
theorem wp_addList {a b : Addr} {vs ws : List Value} {n n2 : Nat} {xs ys : List V} {Q : V → St → Prop} (R : Rel c X σ μ s.heap) (ha : s.heap.get? a = some (listO vs n)) (hb : s.heap.get? b = some (listO ws n2))
  (ta : VRs s.heap (Sx X σ μ) μ σ.length vs xs) (tb : VRs s.heap (Sx X σ μ) μ σ.length ws ys) (hl : xs.length + ys.length ≤ 1000000) (q : Q (.fl (xs ++ ys)) σ) :
  wpAny c.M A (binaryOp .Add (.ref a) (.ref b)) (Post c RV X σ μ s Q) Bot s := by
 refine concat_meets ⟨_, ha, rfl⟩ ⟨_, hb, rfl⟩ noFill_list_add seq_list_add PySem.F.slot_list_add PySem.F.entry_list_add (PySem.F.args_list_add_2 _ _) (list_addW a b vs.toArray ws.toArray n n2 none none #[] #[] (by simpa [ta.length, tb.length] using le_sizeLine hl)) ⟨ha, hb, ?_⟩
 have e : vs.toArray ++ ws.toArray = (vs ++ ws).toArray := by simp
 rw [e]
 exact Post.newList R (ta.append tb) q
theorem flat_foldl (l : List Value) (j : Nat) (acc : Array Value) : List.foldl (fun x1 x2 => x1 ++ x2) acc (List.replicate j l.toArray) = acc ++ (List.replicate j l).flatten.toArray := by
 induction j generalizing acc with
 | zero => simp
 | succ j ih => simp [List.replicate_succ, ih]
theorem VRs.rep {h : Heap} {S : Nat → Prop} {μ : Nat → Nat} {n : Nat} {vs : List Value} {xs : List V} (x : VRs h S μ n vs xs) (j : Nat) : VRs h S μ n (List.replicate j vs).flatten (List.replicate j xs).flatten := by
 induction j with
 | zero => exact .nil
 | succ j ih => rw [List.replicate_succ, List.replicate_succ, List.flatten_cons, List.flatten_cons]; exact x.append ih
theorem wp_rep {u v : Value} {l : List V} {j : Int} {Q : V → St → Prop} (R : Rel c X σ μ s.heap) (tx : VRσ X σ μ s.heap u (.fl l)) (ty : VRσ X σ μ s.heap v (.int j)) (h0 : 0 ≤ j) (h1 : j ≤ 1000) (h2 : l.length ≤ 1000) (q : Q (.fl (List.replicate j.toNat l).flatten) σ) :
  wpAny c.M A (binaryOp .Mult u v) (Post c RV X σ μ s Q) Bot s := by
 obtain ⟨_, rfl⟩ := ty.inv; obtain ⟨a, items, n, rfl, e, f, t⟩ := tx.inv
 have hl := t.length
 refine wpAny_binaryOp_repeat_ref (T := "list") (U := "int") (by decide) ⟨_, e, rfl⟩ (fun s' => typeIs_int s' _ _) noFill_list_mul F.fills_int_mul F.slot_int_rmul repeat_list F.slot_int_index.lookup
  (call_meets F.slot_int_rmul (typeIs_int s _ _) F.entry_int_rmul (F.args_int_rmul_2 _ _) (int___rmul___int_list _ _ a items.toArray n)
  ⟨e, rfl, ⟨_, e, rfl⟩, call_meets F.slot_list_mul ⟨_, e, rfl⟩ F.entry_list_mul (F.args_list_mul_2 _ _)
   (AutoListH.list___mul___list_int_3 a items.toArray n _ _ (by simp [Builtin.List.listFitsIndex]; lia) (by simp only [List.size_toArray, hl]; have : l.length * j.toNat ≤ 1000 * 1000 := Nat.mul_le_mul h2 (by lia); lia) (by simp only [List.size_toArray, hl, Builtin.List.listTooLong, sizeLine]; have : l.length * j.toNat ≤ 1000 * 1000 := Nat.mul_le_mul h2 (by lia); simp; lia))
   ⟨e, ?_⟩⟩)
 have e1 : List.foldl (fun x1 x2 => x1 ++ x2) #[] (List.replicate (if items.toArray.isEmpty = true then 0 else j.toNat) items.toArray) = (List.replicate j.toNat items).flatten.toArray := by
  rw [flat_foldl]
  cases items with
  | nil => simp
  | cons z zs => simp
 rw [e1]
 exact Post.newList R (t.rep _) q
theorem wp_catT {u v : Value} {l r : List V} {Q : V → St → Prop} (R : Rel c X σ μ s.heap) (tx : VRσ X σ μ s.heap u (.tup l)) (ty : VRσ X σ μ s.heap v (.tup r)) (h0 : l.length + r.length ≤ 1000000) (q : Q (.tup (l ++ r)) σ) :
  wpAny c.M A (binaryOp .Add u v) (Post c RV X σ μ s Q) Bot s := by
 obtain ⟨a, vs, rfl, e, f, t⟩ := tx.inv; obtain ⟨b, ws, rfl, e', f', t'⟩ := ty.inv
 have hl := t.length
 have hl' := t'.length
 have en : vs.toArray ++ ws.toArray = (vs ++ ws).toArray := by simp
 by_cases hv : vs = []
 ·subst hv
  refine concat_meets ⟨_, e, rfl⟩ ⟨_, e', rfl⟩ noFill_tuple_add seq_tuple_add PySem.F.slot_tuple_add PySem.F.entry_tuple_add (PySem.F.args_tuple_add_2 _ _) (tuple_addW0 a b _ ws.toArray 0 0 none none #[] #[] (by simp)) ⟨e, e', ?_⟩
  cases t
  exact Post.here R (.tup e' f' t') q
 ·by_cases hw : ws = []
  ·subst hw
   refine concat_meets ⟨_, e, rfl⟩ ⟨_, e', rfl⟩ noFill_tuple_add seq_tuple_add PySem.F.slot_tuple_add PySem.F.entry_tuple_add (PySem.F.args_tuple_add_2 _ _) (tuple_addW1 a b vs.toArray _ 0 0 none none #[] #[] (by simpa using hv) (by simp)) ⟨e, e', ?_⟩
   cases t'
   rw [List.append_nil] at q
   exact Post.here R (.tup e f t) q
  ·refine concat_meets ⟨_, e, rfl⟩ ⟨_, e', rfl⟩ noFill_tuple_add seq_tuple_add PySem.F.slot_tuple_add PySem.F.entry_tuple_add (PySem.F.args_tuple_add_2 _ _) (tuple_addW2 a b vs.toArray ws.toArray 0 0 none none #[] #[] (by simpa using hv) (by simpa using hw) (by simpa [hl, hl'] using le_sizeLine h0)) ⟨e, e', ?_⟩
   rw [en]
   exact Post.newTup R (t.append t') q
theorem wp_binop {op : Operator} {u v : Value} {x y : V} {Q : V → St → Prop} (R : Rel c X σ μ s.heap) (tx : VRσ X σ μ s.heap u x) (ty : VRσ X σ μ s.heap v y) (h : opP σ op x y (Q · σ)) :
  wpAny c.M A (binaryOp op u v) (Post c RV X σ μ s Q) Bot s := by
 replace h := opP_inv h
 cases h with
 | add h => obtain ⟨_, rfl⟩ := tx.inv; obtain ⟨_, rfl⟩ := ty.inv; exact add_int (Post.tok R (.int _ _) h)
 | sub h => obtain ⟨_, rfl⟩ := tx.inv; obtain ⟨_, rfl⟩ := ty.inv; exact sub_int (Post.tok R (.int _ _) h)
 | mul h1 h => obtain ⟨_, rfl⟩ := tx.inv; obtain ⟨_, rfl⟩ := ty.inv; exact mul_int (Post.tok R (.int _ _) h) (int_ok h1)
 | fdiv h1 h2 h => obtain ⟨_, rfl⟩ := tx.inv; obtain ⟨_, rfl⟩ := ty.inv; exact floordiv_int h1 (Post.tok R (.int _ _) h) (Or.inl (PyProof.noPylong_small h2))
 | mod h1 h => obtain ⟨_, rfl⟩ := tx.inv; obtain ⟨_, rfl⟩ := ty.inv; exact mod_int' h1 (Post.tok R (.int _ _) h)
 | pow h0 h1 h2 h => obtain ⟨_, rfl⟩ := tx.inv; obtain ⟨_, rfl⟩ := ty.inv; exact pow_int_small h0 h1 h2 (Post.tok R (.int _ _) h)
 | shl h0 h1 h2 h => obtain ⟨_, rfl⟩ := tx.inv; obtain ⟨_, rfl⟩ := ty.inv; exact lshift_int_small h0 h1 h2 (Post.tok R (.int _ _) h)
 | shr h0 h => obtain ⟨_, rfl⟩ := tx.inv; obtain ⟨_, rfl⟩ := ty.inv; exact rshift_int h0 (Post.tok R (.int _ _) h)
 | and h => obtain ⟨_, rfl⟩ := tx.inv; obtain ⟨_, rfl⟩ := ty.inv; exact and_int (Post.tok R (.int _ _) h)
 | or h => obtain ⟨_, rfl⟩ := tx.inv; obtain ⟨_, rfl⟩ := ty.inv; exact or_int (Post.tok R (.int _ _) h)
 | xor h => obtain ⟨_, rfl⟩ := tx.inv; obtain ⟨_, rfl⟩ := ty.inv; exact xor_int (Post.tok R (.int _ _) h)
 | rep h0 h1 h2 h => exact wp_rep R tx ty h0 h1 h2 h
 | catT h0 h => exact wp_catT R tx ty h0 h
 | cat h0 h =>
  obtain ⟨_, _, _, rfl, e, _, t⟩ := tx.inv; obtain ⟨_, _, _, rfl, e', _, t'⟩ := ty.inv
  exact wp_addList R e e' t t' h0 h
 | catR h =>
  obtain ⟨_, _, _, rfl, e', _, t'⟩ := ty.inv
  obtain ⟨a, items, n, l, rfl, e, t, hh⟩ := ls_is R tx h
  exact wp_addList R e e' t t' hh.1 hh.2
 | catL h =>
  obtain ⟨_, _, _, rfl, e, _, t⟩ := tx.inv
  obtain ⟨a, items, n, l, rfl, e', t', hh⟩ := ls_is R ty h
  exact wp_addList R e e' t t' hh.1 hh.2
end
end
end
section
mutual
noncomputable def V.py : V → Option PyData
 | .none => Option.some PyData.none
 | .bool b => some (.bool b)
 | .int i => some (.int i)
 | .str s => some (.str s)
 | .tup l => (V.pys l).map .tuple
 | .fl l => (V.pys l).map .list
 | _ => Option.none
noncomputable def V.pys : List V → Option (List PyData)
 | [] => some []
 | x :: l => match x.py, V.pys l with
  | some d, some ds => some (d :: ds)
  | _, _ => Option.none
end
theorem VR.reads {h : Heap} {S : Nat → Prop} {μ : Nat → Nat} {n : Nat} {v : Value} {x : V} {d : PyData} (t : VR h S μ n v x) : x.py = some d → ∃ as, Reads h v d as :=
 VR.rec (motive_1 := fun v x _ => ∀ d, x.py = some d → ∃ as, Reads h v d as) (motive_2 := fun v x _ => ∀ d, V.pys x = some d → ∃ as, ReadsAll h v d as)
  (fun _ e => by cases e; exact ⟨_, .none⟩) (fun b _ e => by cases e; exact ⟨_, .bool b⟩) (fun i t _ e => by cases e; exact ⟨_, .int i t⟩) (fun s t _ e => by cases e; exact ⟨_, .str s t⟩)
  (fun g _ _ ih _ e => by obtain ⟨_, q, rfl⟩ := Option.map_eq_some_iff.mp e; obtain ⟨_, r⟩ := ih _ q; exact ⟨_, .tuple g rfl rfl r⟩)
  (fun g _ _ ih _ e => by obtain ⟨_, q, rfl⟩ := Option.map_eq_some_iff.mp e; obtain ⟨_, r⟩ := ih _ q; exact ⟨_, .list g rfl rfl r⟩)
  (fun _ _ _ e => by cases e) (fun _ _ _ _ e => by cases e) (fun _ _ e => by cases e) (fun _ _ _ e => by cases e) (fun _ e => by cases e; exact ⟨_, .nil⟩)
  (fun {_ x _ xs} _ _ a b d e => by
   unfold V.pys at e
   cases p : x.py with
   | none => rw [p] at e; cases e
   | some d =>
    cases q : V.pys xs with
    | none => rw [p, q] at e; cases e
    | some ds =>
     rw [p, q] at e; cases e
     obtain ⟨_, r⟩ := a _ p
     obtain ⟨_, r'⟩ := b _ q
     exact ⟨_, .cons r r'⟩) t d
theorem VRs.reads {h : Heap} {S : Nat → Prop} {μ : Nat → Nat} {n : Nat} {v : List Value} {x : List V} {d : List PyData} (t : VRs h S μ n v x) (e : V.pys x = some d) : ∃ as, ReadsAll h v d as := by
 induction x generalizing v d with
 | nil => cases t; cases e; exact ⟨_, .nil⟩
 | cons x xs ih =>
  cases t with | cons a b =>
  unfold V.pys at e
  cases p : x.py with
  | none => rw [p] at e; cases e
  | some d =>
   cases q : V.pys xs with
   | none => rw [p, q] at e; cases e
   | some ds =>
    rw [p, q] at e; cases e
    obtain ⟨_, r⟩ := a.reads p
    obtain ⟨_, r'⟩ := ih b q
    exact ⟨_, .cons r r'⟩
mutual
noncomputable def V.beq : V → V → Bool
 | .int i, .int j => i == j
 | .str i, .str j => i == j
 | .tup i, .tup j => V.beqs i j
 | _, _ => false
noncomputable def V.beqs : List V → List V → Bool
 | [], [] => true
 | x :: l, y :: r => V.beq x y && V.beqs l r
 | _, _ => false
end
mutual
theorem V.beq_iff : ∀ {x y : V}, x.key = true → y.key = true → (V.beq x y = true ↔ x = y)
 | .int i, y, _, ky => by cases y <;> simp_all [V.beq, V.key]
 | .str i, y, _, ky => by cases y <;> simp_all [V.beq, V.key]
 | .tup l, y, kx, ky => by
  cases y with
  | tup r => simp only [V.beq, V.tup.injEq]; exact V.beqs_iff (by simpa [V.key] using kx) (by simpa [V.key] using ky)
  | _ => simp_all [V.beq, V.key]
 | .none, _, kx, _ => by simp [V.key] at kx
 | .bool _, _, kx, _ => by simp [V.key] at kx
 | .fl _, _, kx, _ => by simp [V.key] at kx
 | .rng _ _ _, _, kx, _ => by simp [V.key] at kx
 | .inst _ _, _, kx, _ => by simp [V.key] at kx
 | .ref _, _, kx, _ => by simp [V.key] at kx
 | .raw _, _, kx, _ => by simp [V.key] at kx
theorem V.beqs_iff : ∀ {x y : List V}, V.keys x = true → V.keys y = true → (V.beqs x y = true ↔ x = y)
 | [], [], _, _ => by simp [V.beqs]
 | [], _ :: _, _, _ => by simp [V.beqs]
 | _ :: _, [], _, _ => by simp [V.beqs]
 | a :: l, b :: r, kx, ky => by
  simp only [V.keys, Bool.and_eq_true] at kx ky
  simp only [V.beqs, Bool.and_eq_true, List.cons.injEq, V.beq_iff kx.1 ky.1, V.beqs_iff kx.2 ky.2]
end
noncomputable def dget (kvs : List (V × V)) (k : V) : Option V := (kvs.find? fun p => V.beq p.1 k).map (·.2)
noncomputable def V.like : V → V → Bool
 | .int _, .int _ => true
 | .str _, .str _ => true
 | .tup _, .tup _ => true
 | _, _ => false
noncomputable def keyP (kvs : List (V × V)) (k : V) : Prop := k.key = true ∧ k.dep ≤ 7 ∧ (kvs.all fun p => V.like p.1 k) = true ∧ kvs.length ≤ 1000000
inductive CmpI (σ : St) (k : Bool → Prop) : CmpOp → V → V → Prop
 | eqI {i j : Int} (h : k (i == j)) : CmpI σ k .Eq (.int i) (.int j)
 | neI {i j : Int} (h : k (i != j)) : CmpI σ k .NotEq (.int i) (.int j)
 | lt {i j : Int} (h : k (decide (i < j))) : CmpI σ k .Lt (.int i) (.int j)
 | le {i j : Int} (h : k (decide (i ≤ j))) : CmpI σ k .LtE (.int i) (.int j)
 | gt {i j : Int} (h : k (decide (i > j))) : CmpI σ k .Gt (.int i) (.int j)
 | ge {i j : Int} (h : k (decide (i ≥ j))) : CmpI σ k .GtE (.int i) (.int j)
 | eqS {i j : Str} (h : k (i == j)) : CmpI σ k .Eq (.str i) (.str j)
 | neS {i j : Str} (h : k (i != j)) : CmpI σ k .NotEq (.str i) (.str j)
 | eqB {i j : Bool} (h : k (i == j)) : CmpI σ k .Eq (.bool i) (.bool j)
 | eq {x y : V} {dx dy : PyData} (e1 : x.py = some dx) (e2 : y.py = some dy) (s1 : SeqAt.shaped dx = true) (s2 : SeqAt.shaped dy = true) (h : k (PyData.eqv dx dy)) : CmpI σ k .Eq x y
 | ne {x y : V} {dx dy : PyData} (e1 : x.py = some dx) (e2 : y.py = some dy) (s1 : SeqAt.shaped dx = true) (s2 : SeqAt.shaped dy = true) (h : k (!PyData.eqv dx dy)) : CmpI σ k .NotEq x y
 | isNot {x : V} (h1 : x = .none → k false) (h2 : x ≠ .none → (∀ v, x ≠ .raw v) → k true) (h3 : ∀ v, x ≠ .raw v) : CmpI σ k .IsNot x .none
 | is {x : V} (h1 : x = .none → k true) (h2 : x ≠ .none → k false) (h3 : ∀ v, x ≠ .raw v) : CmpI σ k .Is x .none
 | inT {x : V} {l : List V} {dx : PyData} {ds : List PyData} (e1 : x.py = some dx) (e2 : V.pys l = some ds) (sh : SeqAt.shaped (.list (dx :: ds)) = true) (h : k (ds.any (PyData.eqv · dx))) : CmpI σ k .In x (.tup l)
 | ninT {x : V} {l : List V} {dx : PyData} {ds : List PyData} (e1 : x.py = some dx) (e2 : V.pys l = some ds) (sh : SeqAt.shaped (.list (dx :: ds)) = true) (h : k (!ds.any (PyData.eqv · dx))) : CmpI σ k .NotIn x (.tup l)
 | inF {x : V} {l : List V} {dx : PyData} {ds : List PyData} (e1 : x.py = some dx) (e2 : V.pys l = some ds) (sh : SeqAt.shaped (.list (dx :: ds)) = true) (h : k (ds.any (PyData.eqv · dx))) : CmpI σ k .In x (.fl l)
 | ninF {x : V} {l : List V} {dx : PyData} {ds : List PyData} (e1 : x.py = some dx) (e2 : V.pys l = some ds) (sh : SeqAt.shaped (.list (dx :: ds)) = true) (h : k (!ds.any (PyData.eqv · dx))) : CmpI σ k .NotIn x (.fl l)
 | inD {x : V} {i : Nat} {kvs : List (V × V)} (g : σ[i]? = some (some (.dict kvs))) (hk : keyP kvs x) (h : k (kvs.any fun p => V.beq p.1 x)) : CmpI σ k .In x (.ref i)
 | ninD {x : V} {i : Nat} {kvs : List (V × V)} (g : σ[i]? = some (some (.dict kvs))) (hk : keyP kvs x) (h : k (!kvs.any fun p => V.beq p.1 x)) : CmpI σ k .NotIn x (.ref i)
 | inL {x : V} {i : Nat} {l : List V} {dx : PyData} {ds : List PyData} (g : σ[i]? = some (some (.list l))) (e1 : x.py = some dx) (e2 : V.pys l = some ds) (sh : SeqAt.shaped (.list (dx :: ds)) = true) (h : k (ds.any (PyData.eqv · dx))) : CmpI σ k .In x (.ref i)
 | ninL {x : V} {i : Nat} {l : List V} {dx : PyData} {ds : List PyData} (g : σ[i]? = some (some (.list l))) (e1 : x.py = some dx) (e2 : V.pys l = some ds) (sh : SeqAt.shaped (.list (dx :: ds)) = true) (h : k (!ds.any (PyData.eqv · dx))) : CmpI σ k .NotIn x (.ref i)
noncomputable abbrev CmpO (op : CmpOp) (x y : V) : Type := Option {b : Bool // ∀ (σ : St) (k : Bool → Prop), k b → CmpI σ k op x y}
noncomputable def cmpI (i j : Int) : (op : CmpOp) → CmpO op (.int i) (.int j)
 | .Eq => some ⟨i == j, fun _ _ h => .eqI h⟩
 | .NotEq => some ⟨i != j, fun _ _ h => .neI h⟩
 | .Lt => some ⟨decide (i < j), fun _ _ h => .lt h⟩
 | .LtE => some ⟨decide (i ≤ j), fun _ _ h => .le h⟩
 | .Gt => some ⟨decide (i > j), fun _ _ h => .gt h⟩
 | .GtE => some ⟨decide (i ≥ j), fun _ _ h => .ge h⟩
 | _ => none
noncomputable def cmpS (i j : Str) : (op : CmpOp) → CmpO op (.str i) (.str j)
 | .Eq => some ⟨i == j, fun _ _ h => .eqS h⟩
 | .NotEq => some ⟨i != j, fun _ _ h => .neS h⟩
 | _ => none
noncomputable def cmpB (i j : Bool) : (op : CmpOp) → CmpO op (.bool i) (.bool j)
 | .Eq => some ⟨i == j, fun _ _ h => .eqB h⟩
 | _ => none
noncomputable def cmpG (op : CmpOp) : (x y : V) → CmpO op x y
 | .int i, .int j => cmpI i j op
 | .str i, .str j => cmpS i j op
 | .bool i, .bool j => cmpB i j op
 | _, _ => none
noncomputable def cmpP (σ : St) (op : CmpOp) (x y : V) (k : Bool → Prop) : Prop := (cmpG op x y).elim (CmpI σ k op x y) fun b => k b.1
theorem cmpP_inv {σ : St} {op : CmpOp} {x y : V} {k : Bool → Prop} (h : cmpP σ op x y k) : CmpI σ k op x y := by
 unfold cmpP at h
 cases e : cmpG op x y with
 | none => rw [e] at h; exact h
 | some v => rw [e] at h; exact v.2 σ k h
noncomputable def truP (σ : St) (x : V) (k : Bool → Prop) : Prop := match x with
 | .bool b => k b
 | .int i => k (i != 0)
 | .none => k false
 | .fl l => l.length ≤ 1000000 ∧ k (!l.isEmpty)
 | .ref i => match σ[i]? with
  | some (some (.list l)) => l.length ≤ 1000000 ∧ k (!l.isEmpty)
  | _ => False
 | _ => False
end
section
structure Emb {prog : Program} {w : World} {K : Type} [DecidableEq K] (knd : KeyKind prog w K) (emb : K → V) : Prop where
 to : ∀ {k v}, knd.is k v = true → ∀ h S μ n, VR h S μ n v (emb k)
 of : ∀ {k v h S μ n}, VR h S μ n v (emb k) → knd.is k v = true
 hash : ∀ k, knd.hash k = hV w (emb k)
 beq : ∀ a b, V.beq (emb a) (emb b) = decide (a = b)
theorem embInt (prog : Program) (w : World) : Emb (intKind prog w) V.int where
 to := fun h _ _ _ _ => by obtain ⟨t, rfl⟩ := Value.isInt_shape h; exact .int _ _
 of := fun x => by cases x; exact intKind_is _ _ _ _
 hash := fun k => rfl
 beq := fun a b => by simp only [V.beq]; by_cases h : a = b <;> simp [h]
theorem embStr (prog : Program) (w : World) : Emb (strKind prog w) V.str where
 to := fun h _ _ _ _ => by obtain ⟨t, rfl⟩ := Value.isStrOf_shape h; exact .str _ _
 of := fun x => by cases x; exact strKind_is _ _ _ _
 hash := fun k => rfl
 beq := fun a b => by simp only [V.beq]; by_cases h : a = b <;> simp [h]
noncomputable def dset (kvs : List (V × V)) (k v : V) : List (V × V) := if kvs.any (fun p => V.beq p.1 k) then kvs.map (fun p => if V.beq p.1 k then (p.1, v) else p) else kvs ++ [(k, v)]
section
variable {prog : Program} {w : World} {K : Type} [DecidableEq K] {knd : KeyKind prog w K} {emb : K → V} {h : Heap} {S : Nat → Prop} {μ : Nat → Nat} {n : Nat}
inductive PR (h : Heap) (S : Nat → Prop) (μ : Nat → Nat) (n : Nat) (emb : K → V) : List (K × Value) → List (V × V) → Prop
 | nil : PR h S μ n emb [] []
 | cons {k : K} {v : Value} {x : V} {ps : List (K × Value)} {kvs : List (V × V)} (a : VR h S μ n v x) (r : PR h S μ n emb ps kvs) : PR h S μ n emb ((k, v) :: ps) ((emb k, x) :: kvs)
theorem PR.keys {ps : List (K × Value)} {kvs : List (V × V)} (x : PR h S μ n emb ps kvs) : kvs.map (·.1) = (ps.map (·.1)).map emb := by
 induction x with
 | nil => rfl
 | cons a r ih => simp [ih]
theorem PR.mono {h' : Heap} {T T' S' : Nat → Prop} {μ' : Nat → Nat} {n' : Nat} (ev : Evo h T S μ n h' T' S' μ' n') {ps : List (K × Value)} {kvs : List (V × V)} (x : PR h S μ n emb ps kvs) : PR h' S' μ' n' emb ps kvs := by
 induction x with
 | nil => exact .nil
 | cons a r ih => exact .cons (a.mono ev) ih
theorem PR.at {ps : List (K × Value)} {kvs : List (V × V)} (E : Emb knd emb) (x : PR h S μ n emb ps kvs) (k : K) :
  (dget kvs (emb k) = none ∧ valueAt ps k = none) ∨ ∃ v y, dget kvs (emb k) = some y ∧ valueAt ps k = some v ∧ VR h S μ n v y := by
 induction x with
 | nil => exact .inl ⟨rfl, rfl⟩
 | @cons k' v x ps kvs a r ih =>
  have hb := E.beq k' k
  by_cases e : k' = k
  ·subst e
   have hb := E.beq k' k'
   exact .inr ⟨v, x, by simp [dget, List.find?_cons, hb], by simp [valueAt], a⟩
  ·have e1 : dget ((emb k', x) :: kvs) (emb k) = dget kvs (emb k) := by simp [dget, List.find?_cons, hb, e]
   have e2 : valueAt ((k', v) :: ps) k = valueAt ps k := by simp [valueAt, List.find?_cons, e]
   rw [e1, e2]; exact ih
theorem PR.any {ps : List (K × Value)} {kvs : List (V × V)} (E : Emb knd emb) (x : PR h S μ n emb ps kvs) (k : K) : (kvs.any fun p => V.beq p.1 (emb k)) = (ps.any fun p => decide (p.1 = k)) := by
 induction x with
 | nil => rfl
 | cons a r ih => simp only [List.any_cons, E.beq, ih]
theorem PR.append {ps ps' : List (K × Value)} {kvs kvs' : List (V × V)} (x : PR h S μ n emb ps kvs) (y : PR h S μ n emb ps' kvs') : PR h S μ n emb (ps ++ ps') (kvs ++ kvs') := by
 induction x with
 | nil => exact y
 | cons a r ih => exact .cons a ih
theorem PR.store {ps : List (K × Value)} {kvs : List (V × V)} (E : Emb knd emb) (x : PR h S μ n emb ps kvs) (k : K) {v : Value} {y : V} (t : VR h S μ n v y) : PR h S μ n emb (stored ps k v) (dset kvs (emb k) y) := by
 unfold stored dset
 rw [x.any E k]
 split
 ·rename_i hh; clear hh
  induction x with
  | nil => exact .nil
  | @cons k' v' x' ps kvs a r ih =>
   rw [List.map_cons, List.map_cons]
   by_cases e : k' = k
   ·simp only [E.beq, e, decide_true, if_true]; exact .cons t ih
   ·simp only [E.beq, e, decide_false, if_false, Bool.false_eq_true]; exact .cons a ih
 ·exact x.append (.cons t .nil)
theorem pairs_of {c : Ctx} {knd : KeyKind c.prog c.w K} (E : Emb knd emb) {es : List DictEntry} {kvs : List (V × V)} (x : DR c h S μ n es kvs) (hk : ∀ p ∈ kvs, ∃ k, p.1 = emb k) :
  ∃ ps, Pairs knd es ps ∧ PR h S μ n emb ps kvs ∧ ∀ e ∈ es, ∃ k, knd.is k e.key = true ∧ e.hash = knd.hash k := by
 induction x with
 | nil => exact ⟨[], .nil, .nil, by simp⟩
 | @cons e k x es kvs a b q r ih =>
  obtain ⟨ps, p1, p2, p3⟩ := ih fun p hp => hk p (List.mem_cons_of_mem _ hp)
  obtain ⟨k', e1⟩ := hk (k, x) List.mem_cons_self
  dsimp only at e1
  subst e1
  refine ⟨(k', e.val) :: ps, .cons (E.of a) rfl p1, .cons b p2, fun z hz => ?_⟩
  rcases List.mem_cons.mp hz with rfl | hz
  ·exact ⟨k', E.of a, q.trans (E.hash k').symm⟩
  ·exact p3 z hz
theorem of_pairs {c : Ctx} {knd : KeyKind c.prog c.w K} (E : Emb knd emb) {es : List DictEntry} {ps : List (K × Value)} {kvs : List (V × V)} (x : Pairs knd es ps) (y : PR h S μ n emb ps kvs) (hk : ∀ e ∈ es, ∃ k, knd.is k e.key = true ∧ e.hash = knd.hash k) :
  DR c h S μ n es kvs := by
 induction x generalizing kvs with
 | nil => cases y; exact .nil
 | @cons e kv es ps h1 h2 _ ih =>
  cases y with
  | @cons k v x _ kvs a r =>
   obtain ⟨k', g1, g2⟩ := hk e List.mem_cons_self
   have e1 := knd.inj _ _ _ g1 h1
   subst e1
   refine .cons (E.to h1 ..) ?_ (g2.trans (E.hash _)) (ih r fun z hz => hk z (List.mem_cons_of_mem _ hz))
   rw [h2]; exact a
theorem dict_of {c : Ctx} {knd : KeyKind c.prog c.w K} (E : Emb knd emb) {a : Addr} {es : List DictEntry} {k : Nat} {kvs : List (V × V)} (e : h.get? a = some (dictO es k)) (x : DR c h S μ n es kvs) (u : (kvs.map (·.1)).Pairwise (· ≠ ·)) (hk : ∀ p ∈ kvs, ∃ k, p.1 = emb k) :
  ∃ ps, h.DictOf knd a ps ∧ PR h S μ n emb ps kvs := by
 obtain ⟨ps, p1, p2, p3⟩ := pairs_of E x hk
 refine ⟨ps, ⟨_, es.toArray, k, e, ⟨rfl, rfl, rfl⟩, rfl, fun z hz => p3 z (by simpa using hz), p1, ?_⟩, p2⟩
 rw [p2.keys] at u
 exact List.Pairwise.imp (fun hne e => hne (by rw [e])) (List.pairwise_map.mp u)
theorem of_dict {c : Ctx} {knd : KeyKind c.prog c.w K} (E : Emb knd emb) {a : Addr} {ps : List (K × Value)} {kvs : List (V × V)} (x : h.DictOf knd a ps) (y : PR h S μ n emb ps kvs) (kk : ∀ p ∈ kvs, p.1.key = true ∧ p.1.dep ≤ 7) : OR c h S μ n a (.dict kvs) := by
 obtain ⟨⟨cls, dd, dt, sl⟩, es, ep, ho, ⟨h1, h2, h3⟩, hd, hk, hp, hn⟩ := x
 dsimp only at h1 h2 h3 hd
 subst h1 h2 h3 hd
 refine .dict (es := es.toList) (k := ep) (by simpa [dictO] using ho) (of_pairs E hp y fun e he => hk e (by simpa using he)) ?_ kk
 rw [y.keys, List.pairwise_map]
 refine hn.imp fun {a b} hne e => hne ?_
 have := E.beq a b
 rw [e] at this
 have h2 := E.beq b b
 rw [h2] at this
 simpa using this.symm
end
end
section
mutual
inductive KR (h : Heap) : Value → V → Prop
 | int (i : Int) (t : Tok) : KR h (.int i t) (.int i)
 | str (s : Str) (t : Tok) (k : PyData.canLay0 (.str s) = true) : KR h (.str s t) (.str s)
 | tup {a : Addr} {items : List Value} {l : List V} (e : h.get? a = some (tupO items)) (x : KRs h items l) : KR h (.ref a) (.tup l)
inductive KRs (h : Heap) : List Value → List V → Prop
 | nil : KRs h [] []
 | cons {v : Value} {x : V} {vs : List Value} {xs : List V} (a : KR h v x) (b : KRs h vs xs) : KRs h (v :: vs) (x :: xs)
end
theorem KR.of {h : Heap} {S : Nat → Prop} {μ : Nat → Nat} {n : Nat} {v : Value} {x : V} (t : VR h S μ n v x) : x.key = true → KR h v x :=
 VR.rec (motive_1 := fun v x _ => x.key = true → KR h v x) (motive_2 := fun v x _ => V.keys x = true → KRs h v x)
  (fun k => absurd k Bool.false_ne_true) (fun _ k => absurd k Bool.false_ne_true) (fun i t _ => .int i t) (fun s t k => .str s t k) (fun e _ _ ih k => .tup e (ih k)) (fun _ _ _ _ k => absurd k Bool.false_ne_true)
  (fun _ _ k => absurd k Bool.false_ne_true) (fun _ _ _ k => absurd k Bool.false_ne_true) (fun _ k => absurd k Bool.false_ne_true) (fun _ _ k => absurd k Bool.false_ne_true)
  (fun _ => .nil) (fun _ _ a b k => .cons (a (Bool.and_eq_true_iff.mp k).1) (b (Bool.and_eq_true_iff.mp k).2)) t
theorem KR.key {h : Heap} {v : Value} {x : V} (t : KR h v x) : x.key = true :=
 KR.rec (motive_1 := fun _ x _ => x.key = true) (motive_2 := fun _ x _ => V.keys x = true) (fun _ _ => rfl) (fun _ _ k => k) (fun _ _ a => a) rfl (fun _ _ a b => Bool.and_eq_true_iff.mpr ⟨a, b⟩) t
mutual
theorem KR.inj {h : Heap} {v : Value} {x y : V} : KR h v x → KR h v y → x = y
 | .int _ _, .int _ _ => rfl
 | .str _ _ _, .str _ _ _ => rfl
 | .tup (items := i) e x, .tup (items := j) e' y => by
  rw [e] at e'
  have : i = j := by injection e' with e'; injection e' with _ _ e' _; injection e' with e' _; simpa using e'
  subst this
  rw [x.inj y]
theorem KRs.inj {h : Heap} {v : List Value} {x y : List V} : KRs h v x → KRs h v y → x = y
 | .nil, .nil => rfl
 | .cons a b, .cons a' b' => by rw [a.inj a', b.inj b']
end
mutual
theorem KR.keeps {h h' : Heap} {d : Addr} {o : Obj} {es ep} (ho : h.get? d = some o) (hd : o.data = .dict es ep) (hs : Heap.SameBut d h h') {v : Value} {x : V} : KR h v x → KR h' v x
 | .int i t => .int i t
 | .str s t k => .str s t k
 | .tup e x => .tup ((hs.2 _ fun z => by rw [z, ho] at e; injection e with e; rw [e] at hd; cases hd).trans e) (KRs.keeps ho hd hs x)
theorem KRs.keeps {h h' : Heap} {d : Addr} {o : Obj} {es ep} (ho : h.get? d = some o) (hd : o.data = .dict es ep) (hs : Heap.SameBut d h h') {v : List Value} {x : List V} : KRs h v x → KRs h' v x
 | .nil => .nil
 | .cons a b => .cons (a.keeps ho hd hs) (b.keeps ho hd hs)
end
mutual
theorem KR.py {h : Heap} {v : Value} {x : V} : KR h v x → ∃ d as, x.py = some d ∧ Reads h v d as ∧ d.canLay0 = true ∧ d.depth = x.dep
 | .int i t => ⟨_, _, rfl, .int i t, rfl, rfl⟩
 | .str s t k => ⟨_, _, rfl, .str s t, k, rfl⟩
 | .tup e x => by
  obtain ⟨ds, as, e1, r, k, d⟩ := x.py
  exact ⟨.tuple ds, as, by simp [V.py, e1], .tuple e rfl rfl (by simpa using r), k, by simp [PyData.depth, V.dep, d]⟩
theorem KRs.py {h : Heap} {v : List Value} {x : List V} : KRs h v x → ∃ d as, V.pys x = some d ∧ ReadsAll h v d as ∧ PyData.canLayAll0 d = true ∧ PyData.depthAll d = V.deps x
 | .nil => ⟨_, _, rfl, .nil, rfl, rfl⟩
 | .cons a b => by
  obtain ⟨d, _, e1, r, k, q⟩ := a.py
  obtain ⟨ds, _, e2, r', k', q'⟩ := b.py
  exact ⟨d :: ds, _, by simp [V.pys, e1, e2], .cons r r', by simp [PyData.canLayAll0, k, k'], by simp [PyData.depthAll, V.deps, q, q']⟩
end
mutual
theorem eqv_key : ∀ {x y : V} {dx dy : PyData}, x.key = true → y.key = true → x.py = some dx → y.py = some dy → PyData.eqv dx dy = V.beq x y
 | .int i, y, dx, dy, _, ky, ex, ey => by
  cases y <;> simp_all [V.key, V.py, V.beq] <;> first | (subst ex ey; rfl) | skip
  ·obtain ⟨l, _, rfl⟩ := ey; subst ex; rfl
 | .str i, y, dx, dy, _, ky, ex, ey => by
  cases y <;> simp_all [V.key, V.py, V.beq] <;> first | (subst ex ey; rfl) | skip
  ·obtain ⟨l, _, rfl⟩ := ey; subst ex; rfl
 | .tup l, y, dx, dy, kx, ky, ex, ey => by
  simp only [V.py, Option.map_eq_some_iff] at ex
  obtain ⟨ds, e1, rfl⟩ := ex
  cases y with
  | tup r =>
   simp only [V.py, Option.map_eq_some_iff] at ey
   obtain ⟨ds', e2, rfl⟩ := ey
   exact eqvs_key (by simpa [V.key] using kx) (by simpa [V.key] using ky) e1 e2
  | int j => cases ey; rfl
  | str j => cases ey; rfl
  | _ => simp [V.key] at ky
 | .none, _, _, _, k, _, _, _ => by simp [V.key] at k
 | .bool _, _, _, _, k, _, _, _ => by simp [V.key] at k
 | .fl _, _, _, _, k, _, _, _ => by simp [V.key] at k
 | .rng _ _ _, _, _, _, k, _, _, _ => by simp [V.key] at k
 | .inst _ _, _, _, _, k, _, _, _ => by simp [V.key] at k
 | .ref _, _, _, _, k, _, _, _ => by simp [V.key] at k
 | .raw _, _, _, _, k, _, _, _ => by simp [V.key] at k
theorem eqvs_key : ∀ {x y : List V} {dx dy : List PyData}, V.keys x = true → V.keys y = true → V.pys x = some dx → V.pys y = some dy → PyData.eqvAll dx dy = V.beqs x y
 | [], [], _, _, _, _, ex, ey => by cases ex; cases ey; rfl
 | [], _ :: _, _, ds, _, _, ex, ey => by
  cases ex
  simp only [V.pys] at ey
  split at ey
  ·cases ey; rfl
  ·cases ey
 | _ :: _, [], _, _, _, _, ex, ey => by
  cases ey
  simp only [V.pys] at ex
  split at ex
  ·cases ex; rfl
  ·cases ex
 | x :: l, y :: r, _, _, kx, ky, ex, ey => by
  simp only [V.keys, Bool.and_eq_true] at kx ky
  simp only [V.pys] at ex ey
  split at ex
  ·rename_i d ds e1 e2
   split at ey
   ·rename_i d' ds' e3 e4
    cases ex; cases ey
    simp only [PyData.eqvAll, V.beqs, eqv_key kx.1 ky.1 e1 e3, eqvs_key kx.2 ky.2 e2 e4]
   ·cases ey
  ·cases ex
end
end
section
mutual
noncomputable def V.dr : V → Nat
 | .tup l => V.drs l + 1
 | _ => 1
noncomputable def V.drs : List V → Nat
 | [] => 0
 | x :: l => x.dr + V.drs l
end
section
variable {prog : Program} {w : World}
mutual
theorem wp_pyHash : ∀ (x : V) {v : Value} {A : Around} {E : Value → Shared → Prop} {s : Shared} {Q : Int → Shared → Prop}, KR s.heap v x → A.units + x.dep < cLine →
  Q (hV w x) { s with toks := s.toks + x.dr } → wpAny (model prog w) A (pyHash v) Q E s
 | .int i, v, A, E, s, Q, k, hu, h => by cases k; exact wpAny_pyHash_int h
 | .str i, v, A, E, s, Q, k, hu, h => by cases k; exact wpAny_pyHash_str h
 | .tup l, v, A, E, s, Q, k, hu, h => by
  cases k with | @tup a items _ ho hi =>
  have hT : s.TypeIs (.ref a) "tuple" := ⟨_, ho, rfl⟩
  simp only [V.dep] at hu
  unfold pyHash
  first | unfold pyHashByItsType | skip
  first | refine wpAny_bind (wpAny_cRoomFor_or (.inr (by lia)) ?_) | skip
  refine wpAny_bind (wpAny_specialOf hT F.slot_tuple_hash.lookup ?_)
  show wpAny _ _ (if (some (Value.builtin "tuple.__hash__") == some Value.none) = true then _ else _) Q E s
  rw [if_neg (by rw [beq_builtin_none]; exact Bool.false_ne_true)]
  refine wpAny_bind (wpAny_specialOf hT F.slot_tuple_hash.lookup ?_)
  show wpAny _ _ (callSpecialIfBoundUnlessNone? (.ref a) "__hash__" _ >>= _) Q E s
  refine wpAny_bind (wpAny_callSpecialIfBoundUnlessNone?_slot hT F.slot_tuple_hash (wpAny_call_entry F.slot_tuple_hash hT F.entry_tuple_hash ?_ (F.args_tuple_hash_1 _)))
  show wpAny _ _ (Builtin.Tuple.tupleItemsOf (.ref a) >>= _) _ _ s
  refine wpAny_bind (wpAny_tupleItemsOf ho rfl ?_)
  refine wpAny_bind ?_
  rw [← Array.forIn_toList]
  refine wp_hashLoop l (fun _ _ => rfl) hi (show A.units + 1 + V.deps l < cLine by lia) ?_
  show wpAny _ _ (retInt (Builtin.Tuple.tupleHashOf (#[] ++ (hVs w l).toArray).toList)) _ _ _
  rw [show (#[] ++ (hVs w l).toArray : Array Int).toList = hVs w l by simp]
  refine wpAny_ret_mkInt ?_
  show wpAny _ _ (if (decide (-(2 : Int) ^ 63 ≤ Builtin.Tuple.tupleHashOf (hVs w l)) && decide (Builtin.Tuple.tupleHashOf (hVs w l) < 2 ^ 63)) = true then _ else _) Q E _
  simp only [hV, reduceHash, V.dr] at h
  by_cases hr : (decide (-(2 : Int) ^ 63 ≤ Builtin.Tuple.tupleHashOf (hVs w l)) && decide (Builtin.Tuple.tupleHashOf (hVs w l) < 2 ^ 63)) = true
  ·rw [if_pos hr]
   rw [if_pos hr] at h
   exact wpAny_pure (by simpa [Nat.add_assoc] using h)
  ·rw [if_neg hr]
   rw [if_neg hr] at h
   exact wpAny_bind (wpAny_rule (wpAny_pure (by simpa [Nat.add_assoc] using h)))
 | .none, _, _, _, _, _, k, _, _ => nomatch k
 | .bool _, _, _, _, _, _, k, _, _ => nomatch k
 | .fl _, _, _, _, _, _, k, _, _ => nomatch k
 | .rng _ _ _, _, _, _, _, _, k, _, _ => nomatch k
 | .inst _ _, _, _, _, _, _, k, _, _ => nomatch k
 | .ref _, _, _, _, _, _, k, _, _ => nomatch k
 | .raw _, _, _, _, _, _, k, _, _ => nomatch k
theorem wp_hashLoop : ∀ (l : List V) {vs : List Value} {A : Around} {E : Value → Shared → Prop} {s : Shared} {acc : Array Int} {f : Value → Array Int → Sem (ForInStep (Array Int))} {Q : Array Int → Shared → Prop}, (∀ v b, f v b = (pyHash v >>= fun i => pure (.yield (b.push i)))) → KRs s.heap vs l → A.units + V.deps l < cLine →
  Q (acc ++ (hVs w l).toArray) { s with toks := s.toks + V.drs l } → wpAny (model prog w) A (forIn vs acc f) Q E s
 | [], vs, A, E, s, acc, f, Q, hf, k, hu, h => by
  cases k
  rw [List.forIn_nil]
  exact wpAny_pure (by simpa [hVs, V.drs] using h)
 | x :: l, vs, A, E, s, acc, f, Q, hf, k, hu, h => by
  cases k with | @cons v _ vs _ a b =>
  rw [List.forIn_cons, hf]
  simp only [V.deps] at hu
  refine wpAny_bind (wpAny_bind (wp_pyHash x a (by lia) (wpAny_pure ?_)))
  refine wp_hashLoop l hf b (by lia) ?_
  simpa [hVs, V.drs, Nat.add_assoc] using h
end
mutual
theorem wp_quiet : ∀ (x : V) (j : Nat) {v : Value} {A : Around} {E : Value → Shared → Prop} {s : Shared} {Q : Bool → Shared → Prop}, KR s.heap v x → x.dep ≤ j → Q true s → wpAny (model prog w) A (eqIsQuiet j v) Q E s
 | .int i, j, v, A, E, s, Q, k, hj, h => by cases k; rw [eqIsQuiet_byValue _ rfl]; exact wpAny_pure h
 | .str i, j, v, A, E, s, Q, k, hj, h => by cases k; rw [eqIsQuiet_byValue _ rfl]; exact wpAny_pure h
 | .tup l, 0, v, A, E, s, Q, k, hj, h => absurd hj (by simp [V.dep])
 | .tup l, j + 1, v, A, E, s, Q, k, hj, h => by
  cases k with | @tup a items _ ho hi =>
  have hT : s.TypeIs (.ref a) "tuple" := ⟨_, ho, rfl⟩
  simp only [V.dep] at hj
  unfold eqIsQuiet
  refine wpAny_bind (wpAny_specialOf hT F.slot_tuple_eq.lookup ?_)
  show wpAny _ _ (isInstance (.ref a) (.type "tuple") >>= _) _ _ s
  refine wpAny_bind (wpAny_isInstance hT isSubtype_tuple_tuple ?_)
  simp only [Bool.not_true, Bool.false_eq_true, if_false]
  refine wpAny_bind (wpAny_seqItems ho rfl ?_)
  refine wpAny_bind ?_
  show wpAny _ _ (forIn items.toArray _ _) _ _ s
  rw [← Array.forIn_toList]
  refine wp_quietLoop l j (fun _ _ => rfl) hi (by lia) ?_
  exact wpAny_pure h
 | .none, _, _, _, _, _, _, k, _, _ => nomatch k
 | .bool _, _, _, _, _, _, _, k, _, _ => nomatch k
 | .fl _, _, _, _, _, _, _, k, _, _ => nomatch k
 | .rng _ _ _, _, _, _, _, _, _, k, _, _ => nomatch k
 | .inst _ _, _, _, _, _, _, _, k, _, _ => nomatch k
 | .ref _, _, _, _, _, _, _, k, _, _ => nomatch k
 | .raw _, _, _, _, _, _, _, k, _, _ => nomatch k
theorem wp_quietLoop : ∀ (l : List V) (j : Nat) {vs : List Value} {A : Around} {E : Value → Shared → Prop} {s : Shared} {f : Value → Option Bool × PUnit → Sem (ForInStep (Option Bool × PUnit))} {Q : Option Bool × PUnit → Shared → Prop},
  (∀ v b, f v b = (eqIsQuiet j v >>= fun q => if (!q) = true then pure (.done (some false, ⟨⟩)) else pure (.yield (none, ⟨⟩)))) → KRs s.heap vs l → V.deps l ≤ j →
  Q (none, ⟨⟩) s → wpAny (model prog w) A (forIn vs (none, ⟨⟩) f) Q E s
 | [], j, vs, A, E, s, f, Q, hf, k, hj, h => by
  cases k
  rw [List.forIn_nil]
  exact wpAny_pure h
 | x :: l, j, vs, A, E, s, f, Q, hf, k, hj, h => by
  cases k with | @cons v _ vs _ a b =>
  rw [List.forIn_cons, hf]
  simp only [V.deps] at hj
  refine wpAny_bind (wpAny_bind (wp_quiet x j a (by lia) ?_))
  simp only [Bool.not_true, Bool.false_eq_true, if_false]
  exact wpAny_pure (wp_quietLoop l j hf b (by lia) h)
end
open scoped Classical in
noncomputable def tupKind (prog : Program) (w : World) : HeapKind prog w (List V) where
 is := fun h l a => KR h (.ref a) (.tup l) ∧ (V.tup l).dep ≤ 7
 hash := fun l => hV w (.tup l)
 draws := fun l => (V.tup l).dr
 room := fun A => A.units + 16 < cLine
 inj := fun hx hy => by have := hx.1.inj hy.1; injection this
 keeps := fun x ho hd hs => ⟨x.1.keeps ho hd hs, x.2⟩
 pyHash := fun hu hk h => wp_pyHash _ hk.1 (by have := hk.2; lia) h
 eqBool := fun {A E s x y a b Q} hu hx hy h => by
  obtain ⟨dx, _, e1, r1, k1, p1⟩ := hx.1.py
  obtain ⟨dy, _, e2, r2, k2, p2⟩ := hy.1.py
  have hd := hx.2
  refine SeqAt.eqAt_reads dx dy A s _ _ _ _ r1 r2 k1 k2 (by lia) prog w E Q ?_
  rw [eqv_key hx.1.key hy.1.key e1 e2]
  have : V.beq (.tup x) (.tup y) = decide (x = y) := by
   rw [Bool.eq_iff_iff, V.beq_iff hx.1.key hy.1.key]; simp
  rw [this]; exact h
 quiet := fun hk h => wp_quiet _ 8 hk.1 (by have := hk.2; lia) h
end
end
section
section
open scoped Classical
variable {h : Heap} {S : Nat → Prop} {μ : Nat → Nat} {n : Nat}
inductive PH (h : Heap) (S : Nat → Prop) (μ : Nat → Nat) (n : Nat) : List (List V × Addr × Value) → List (V × V) → Prop
 | nil : PH h S μ n [] []
 | cons {l : List V} {a : Addr} {v : Value} {x : V} {ps : List (List V × Addr × Value)} {kvs : List (V × V)} (ka : VR h S μ n (.ref a) (.tup l)) (b : VR h S μ n v x) (r : PH h S μ n ps kvs) : PH h S μ n ((l, a, v) :: ps) ((.tup l, x) :: kvs)
theorem PH.keys {ps : List (List V × Addr × Value)} {kvs : List (V × V)} (x : PH h S μ n ps kvs) : kvs.map (·.1) = (ps.map (·.1)).map V.tup := by
 induction x with
 | nil => rfl
 | cons a b r ih => simp [ih]
theorem PH.mono {h' : Heap} {T T' S' : Nat → Prop} {μ' : Nat → Nat} {n' : Nat} (ev : Evo h T S μ n h' T' S' μ' n') {ps : List (List V × Addr × Value)} {kvs : List (V × V)} (x : PH h S μ n ps kvs) : PH h' S' μ' n' ps kvs := by
 induction x with
 | nil => exact .nil
 | cons a b r ih => exact .cons (a.mono ev) (b.mono ev) ih
theorem beq_tup {l k : List V} (hl : (V.tup l).key = true) (hk : (V.tup k).key = true) : V.beq (.tup l) (.tup k) = decide (l = k) := by
 rw [Bool.eq_iff_iff, V.beq_iff hl hk]; simp
theorem PH.at {ps : List (List V × Addr × Value)} {kvs : List (V × V)} (x : PH h S μ n ps kvs) (ok : ∀ p ∈ kvs, p.1.key = true) {k : List V} (hk : (V.tup k).key = true) :
  (dget kvs (.tup k) = none ∧ atKey ps k = none) ∨ ∃ a v y, dget kvs (.tup k) = some y ∧ atKey ps k = some (a, v) ∧ VR h S μ n v y := by
 induction x with
 | nil => exact .inl ⟨rfl, rfl⟩
 | @cons k' a v x ps kvs _ b r ih =>
  have hb := beq_tup (ok (.tup k', x) List.mem_cons_self) hk
  by_cases e : k' = k
  ·subst e
   exact .inr ⟨a, v, x, by simp [dget, List.find?_cons, hb], by simp [atKey], b⟩
  ·have e1 : dget ((.tup k', x) :: kvs) (.tup k) = dget kvs (.tup k) := by simp [dget, List.find?_cons, hb, e]
   have e2 : atKey ((k', a, v) :: ps) k = atKey ps k := by simp [atKey, List.find?_cons, e]
   rw [e1, e2]; exact ih fun p hp => ok p (List.mem_cons_of_mem _ hp)
theorem PH.any {ps : List (List V × Addr × Value)} {kvs : List (V × V)} (x : PH h S μ n ps kvs) (ok : ∀ p ∈ kvs, p.1.key = true) {k : List V} (hk : (V.tup k).key = true) : (kvs.any fun p => V.beq p.1 (.tup k)) = (atKey ps k).isSome := by
 induction x with
 | nil => rfl
 | @cons k' a v x ps kvs _ b r ih =>
  have hb := beq_tup (ok (.tup k', x) List.mem_cons_self) hk
  by_cases e : k' = k
  ·subst e; simp [atKey, List.find?_cons, hb]
  ·have e2 : atKey ((k', a, v) :: ps) k = atKey ps k := by simp [atKey, List.find?_cons, e]
   rw [e2, List.any_cons, hb, ← ih fun p hp => ok p (List.mem_cons_of_mem _ hp)]; simp [e]
theorem PH.append {ps ps' : List (List V × Addr × Value)} {kvs kvs' : List (V × V)} (x : PH h S μ n ps kvs) (y : PH h S μ n ps' kvs') : PH h S μ n (ps ++ ps') (kvs ++ kvs') := by
 induction x with
 | nil => exact y
 | cons a b r ih => exact .cons a b ih
theorem PH.store {ps : List (List V × Addr × Value)} {kvs : List (V × V)} (x : PH h S μ n ps kvs) (ok : ∀ p ∈ kvs, p.1.key = true) {k : List V} (hk : (V.tup k).key = true) {a : Addr} {v : Value} {y : V} (ta : VR h S μ n (.ref a) (.tup k)) (t : VR h S μ n v y) :
  PH h S μ n (storedH ps k a v) (dset kvs (.tup k) y) := by
 unfold storedH dset
 rw [x.any ok hk]
 split
 ·rename_i hh; clear hh
  induction x with
  | nil => exact .nil
  | @cons k' a' v' x' ps kvs a b r ih =>
   have hb := beq_tup (ok (.tup k', x') List.mem_cons_self) hk
   rw [List.map_cons, List.map_cons]
   have ih := ih fun p hp => ok p (List.mem_cons_of_mem _ hp)
   by_cases e : k' = k
   ·subst e; simp only [hb, decide_true, if_true, putAt]; exact .cons a t ih
   ·simp only [hb, e, decide_false, if_false, Bool.false_eq_true, putAt]; exact .cons a b ih
 ·exact x.append (.cons ta t .nil)
theorem tdict_of {c : Ctx} {a : Addr} {es : List DictEntry} {k : Nat} {kvs : List (V × V)} (e : h.get? a = some (dictO es k)) (x : DR c h S μ n es kvs) (u : (kvs.map (·.1)).Pairwise (· ≠ ·)) (ok : ∀ p ∈ kvs, p.1.key = true ∧ p.1.dep ≤ 7) (hk : ∀ p ∈ kvs, ∃ l, p.1 = .tup l) :
  ∃ ps, h.DictOfH (tupKind c.prog c.w) a ps ∧ PH h S μ n ps kvs := by
 have : ∃ ps, es = ps.map (entryOfKey (tupKind c.prog c.w)) ∧ PH h S μ n ps kvs := by
  clear e u
  induction x with
  | nil => exact ⟨[], rfl, .nil⟩
  | @cons e k x es kvs a b q r ih =>
   obtain ⟨ps, p1, p2⟩ := ih (fun p hp => ok p (List.mem_cons_of_mem _ hp)) fun p hp => hk p (List.mem_cons_of_mem _ hp)
   obtain ⟨l, e1⟩ := hk (k, x) List.mem_cons_self
   dsimp only at e1
   subst e1
   obtain ⟨hs, ky, vl⟩ := e
   dsimp only at a b q
   subst q
   cases a with | @tup ad items _ g f t => exact ⟨(l, ad, vl) :: ps, by rw [p1]; rfl, .cons (.tup g f t) b p2⟩
 obtain ⟨ps, p1, p2⟩ := this
 refine ⟨ps, ⟨_, es.toArray, k, e, ⟨rfl, rfl, rfl⟩, rfl, by simpa using p1, ?_, ?_⟩, p2⟩
 ·clear p1 e x u hk
  induction p2 with
  | nil => intro z hz; cases hz
  | @cons l ad v x ps kvs a b r ih =>
   intro z hz
   rcases List.mem_cons.mp hz with rfl | hz
   ·have := ok (.tup l, x) List.mem_cons_self
    exact ⟨KR.of a this.1, this.2⟩
   ·exact ih (fun p hp => ok p (List.mem_cons_of_mem _ hp)) z hz
 ·rw [p2.keys] at u
  exact List.Pairwise.imp (fun hne e => hne (by rw [e])) (List.pairwise_map.mp u)
theorem of_tdict {c : Ctx} {a : Addr} {ps : List (List V × Addr × Value)} {kvs : List (V × V)} (x : h.DictOfH (tupKind c.prog c.w) a ps) (y : PH h S μ n ps kvs) (kk : ∀ p ∈ kvs, p.1.key = true ∧ p.1.dep ≤ 7) : OR c h S μ n a (.dict kvs) := by
 obtain ⟨⟨cls, dd, dt, sl⟩, es, ep, ho, ⟨h1, h2, h3⟩, hd, he, hz, hn⟩ := x
 clear hz
 dsimp only at h1 h2 h3 hd
 subst h1 h2 h3 hd
 refine .dict (es := es.toList) (k := ep) (by simpa [dictO] using ho) ?_ ?_ kk
 ·rw [he]
  clear hn he ho kk
  induction y with
  | nil => exact .nil
  | cons a b r ih => exact .cons a b rfl ih
 ·rw [y.keys, List.pairwise_map]
  exact hn.imp fun {a b} hne e => hne (by injection e)
variable {c : Ctx} {A : Around} {X : Nat → Prop} {σ : St} {s : Shared}
theorem like_int {kvs : List (V × V)} {i : Int} (h : (kvs.all fun p => V.like p.1 (.int i)) = true) : ∀ p ∈ kvs, ∃ j, p.1 = V.int j := fun p hp => by
 have := List.all_eq_true.mp h p hp
 cases q : p.1 <;> rw [q] at this <;> first | exact ⟨_, rfl⟩ | cases this
theorem like_str {kvs : List (V × V)} {i : Str} (h : (kvs.all fun p => V.like p.1 (.str i)) = true) : ∀ p ∈ kvs, ∃ j, p.1 = V.str j := fun p hp => by
 have := List.all_eq_true.mp h p hp
 cases q : p.1 <;> rw [q] at this <;> first | exact ⟨_, rfl⟩ | cases this
theorem like_tup {kvs : List (V × V)} {i : List V} (h : (kvs.all fun p => V.like p.1 (.tup i)) = true) : ∀ p ∈ kvs, ∃ j, p.1 = V.tup j := fun p hp => by
 have := List.all_eq_true.mp h p hp
 cases q : p.1 <;> rw [q] at this <;> first | exact ⟨_, rfl⟩ | cases this
theorem dget_any {kvs : List (V × V)} {k : V} : (dget kvs k).isSome = kvs.any fun p => V.beq p.1 k := by
 simp [dget]
 rw [Bool.eq_iff_iff]; simp [List.find?_isSome]
theorem notMod (ok : c.Ok) (R : Rel c X σ μ h) {i : Nat} {o : AObj} (e : σ[i]? = some (some o)) : (μ i == sysModules) = false := by
 rw [beq_eq_false_iff_ne]
 intro z
 have := R.out i o e
 obtain ⟨o', e'⟩ := ok.low
 rw [z, e'] at this; cases this
theorem wp_dictGet (R : Rel c X σ μ s.heap) (hA : A.units + 64 ≤ cLine) {i : Nat} {kvs : List (V × V)} (e : σ[i]? = some (some (.dict kvs))) {v : Value} {k y : V} (t : VRσ X σ μ s.heap v k) (hk : keyP kvs k) (hy : dget kvs k = some y) {Q : V → St → Prop} (q : Q y σ) :
  wpAny c.M A (getItem (.ref (μ i)) v) (Post c RV X σ μ s Q) Bot s := by
 obtain ⟨_, _, e1, x, u, ok⟩ := (R.obj i _ e).inv
 obtain ⟨k1, k2, k3, k4⟩ := hk
 cases t with
 | int j tk =>
  obtain ⟨ps, hd, p⟩ := dict_of (embInt c.prog c.w) e1 x u (like_int k3)
  rcases p.at (embInt c.prog c.w) j with ⟨a1, _⟩ | ⟨v, y', a1, a2, a3⟩
  ·rw [hy] at a1; cases a1
  ·rw [hy] at a1; cases a1
   exact wpAny_getItem_of (intKind_is _ _ _ _) hd.mapOf a2 (Post.tok R a3 q)
 | str j tk =>
  obtain ⟨ps, hd, p⟩ := dict_of (embStr c.prog c.w) e1 x u (like_str k3)
  rcases p.at (embStr c.prog c.w) j with ⟨a1, _⟩ | ⟨v, y', a1, a2, a3⟩
  ·rw [hy] at a1; cases a1
  ·rw [hy] at a1; cases a1
   exact wpAny_getItem_of (strKind_is _ _ _ _) hd.mapOf a2 (Post.tok R a3 q)
 | tup g f t =>
  obtain ⟨ps, hd, p⟩ := tdict_of e1 x u ok (like_tup k3)
  rcases p.at (fun p hp => (ok p hp).1) k1 with ⟨a1, _⟩ | ⟨a, v, y', a1, a2, a3⟩
  ·rw [hy] at a1; cases a1
  ·rw [hy] at a1; cases a1
   exact wpAny_getItem_heap (knd := tupKind c.prog c.w) (by show A.units + 1 + 16 < cLine; lia) ⟨KR.of (.tup g f t) k1, k2⟩ hd a2 (Post.tok R a3 q)
 | _ => cases k1
theorem wp_dictIn (ok : c.Ok) (R : Rel c X σ μ s.heap) (hA : A.units + 64 ≤ cLine) {i : Nat} {kvs : List (V × V)} (e : σ[i]? = some (some (.dict kvs))) {v : Value} {k : V} (t : VRσ X σ μ s.heap v k) (hk : keyP kvs k) {Q : V → St → Prop}
  (q : Q (.bool (kvs.any fun p => V.beq p.1 k)) σ) : wpAny c.M A (compareOp .In v (.ref (μ i))) (Post c RV X σ μ s Q) Bot s := by
 have nm := notMod ok R e
 obtain ⟨_, _, e1, x, u, ok⟩ := (R.obj i _ e).inv
 obtain ⟨k1, k2, k3, k4⟩ := hk
 cases t with
 | int j tk =>
  obtain ⟨ps, hd, p⟩ := dict_of (embInt c.prog c.w) e1 x u (like_int k3)
  refine wpAny_in_of (intKind_is _ _ _ _) nm hd.mapOf ?_
  rcases p.at (embInt c.prog c.w) j with ⟨a1, a2⟩ | ⟨v, y', a1, a2, a3⟩ <;> rw [← dget_any, a1] at q <;> rw [a2] <;> exact Post.tok R (.bool _) q
 | str j tk =>
  obtain ⟨ps, hd, p⟩ := dict_of (embStr c.prog c.w) e1 x u (like_str k3)
  refine wpAny_in_of (strKind_is _ _ _ _) nm hd.mapOf ?_
  rcases p.at (embStr c.prog c.w) j with ⟨a1, a2⟩ | ⟨v, y', a1, a2, a3⟩ <;> rw [← dget_any, a1] at q <;> rw [a2] <;> exact Post.tok R (.bool _) q
 | tup g f t =>
  obtain ⟨ps, hd, p⟩ := tdict_of e1 x u ok (like_tup k3)
  refine wpAny_in_heap (knd := tupKind c.prog c.w) (by show A.units + 1 + 16 < cLine; lia) ⟨KR.of (.tup g f t) k1, k2⟩ nm hd ?_
  rcases p.at (fun p hp => (ok p hp).1) k1 with ⟨a1, a2⟩ | ⟨a, v, y', a1, a2, a3⟩ <;> rw [← dget_any, a1] at q <;> rw [a2] <;> exact Post.tok R (.bool _) q
 | _ => cases k1
theorem wp_dictNotIn (ok : c.Ok) (R : Rel c X σ μ s.heap) (hA : A.units + 64 ≤ cLine) {i : Nat} {kvs : List (V × V)} (e : σ[i]? = some (some (.dict kvs))) {v : Value} {k : V} (t : VRσ X σ μ s.heap v k) (hk : keyP kvs k) {Q : V → St → Prop}
  (q : Q (.bool (!kvs.any fun p => V.beq p.1 k)) σ) : wpAny c.M A (compareOp .NotIn v (.ref (μ i))) (Post c RV X σ μ s Q) Bot s := by
 have nm := notMod ok R e
 obtain ⟨_, _, e1, x, u, ok⟩ := (R.obj i _ e).inv
 obtain ⟨k1, k2, k3, k4⟩ := hk
 cases t with
 | int j tk =>
  obtain ⟨ps, hd, p⟩ := dict_of (embInt c.prog c.w) e1 x u (like_int k3)
  refine wpAny_notIn_of (intKind_is _ _ _ _) nm hd.mapOf ?_
  rcases p.at (embInt c.prog c.w) j with ⟨a1, a2⟩ | ⟨v, y', a1, a2, a3⟩ <;> rw [← dget_any, a1] at q <;> rw [a2] <;> exact Post.tok R (.bool _) q
 | str j tk =>
  obtain ⟨ps, hd, p⟩ := dict_of (embStr c.prog c.w) e1 x u (like_str k3)
  refine wpAny_notIn_of (strKind_is _ _ _ _) nm hd.mapOf ?_
  rcases p.at (embStr c.prog c.w) j with ⟨a1, a2⟩ | ⟨v, y', a1, a2, a3⟩ <;> rw [← dget_any, a1] at q <;> rw [a2] <;> exact Post.tok R (.bool _) q
 | tup g f t =>
  obtain ⟨ps, hd, p⟩ := tdict_of e1 x u ok (like_tup k3)
  refine wpAny_notIn_heap (knd := tupKind c.prog c.w) (by show A.units + 1 + 16 < cLine; lia) ⟨KR.of (.tup g f t) k1, k2⟩ nm hd ?_
  rcases p.at (fun p hp => (ok p hp).1) k1 with ⟨a1, a2⟩ | ⟨a, v, y', a1, a2, a3⟩ <;> rw [← dget_any, a1] at q <;> rw [a2] <;> exact Post.tok R (.bool _) q
 | _ => cases k1
theorem dset_ok {kvs : List (V × V)} {k y : V} (ok : ∀ p ∈ kvs, p.1.key = true ∧ p.1.dep ≤ 7) (k1 : k.key = true) (k2 : k.dep ≤ 7) : ∀ p ∈ dset kvs k y, p.1.key = true ∧ p.1.dep ≤ 7 := by
 unfold dset
 split
 ·intro p hp
  obtain ⟨z, hz, rfl⟩ := List.mem_map.mp hp
  split <;> exact ok z hz
 ·intro p hp
  rcases List.mem_append.mp hp with hp | hp
  ·exact ok p hp
  ·simp at hp; subst hp; exact ⟨k1, k2⟩
theorem wp_dictSet (R : Rel c X σ μ s.heap) (hA : A.units + 64 ≤ cLine) {i : Nat} {kvs : List (V × V)} (e : σ[i]? = some (some (.dict kvs))) {v v' : Value} {k y : V} (t : VRσ X σ μ s.heap v k) (t' : VRσ X σ μ s.heap v' y) (hk : keyP kvs k) {Q : Unit → St → Prop}
  (q : Q () (σ.set i (some (.dict (dset kvs k y))))) : wpAny c.M A (setItem (.ref (μ i)) v v') (Post c RU X σ μ s Q) Bot s := by
 obtain ⟨_, _, e1, x, u, ok⟩ := (R.obj i _ e).inv
 obtain ⟨k1, k2, k3, k4⟩ := hk
 have ok' := dset_ok (y := y) ok k1 k2
 cases t with
 | int j tk =>
  obtain ⟨ps, hd, p⟩ := dict_of (embInt c.prog c.w) e1 x u (like_int k3)
  refine wpAny_setItem_pairs (intKind_is _ _ _ _) hd (fun h' hd' hs => ?_) (le_sizeLine (by have := p.keys; have := congrArg List.length this; simp at this; lia))
  obtain ⟨o', _, _, g, _⟩ := id hd'
  have r := R.upd (p := .dict (dset kvs (.int j) y)) e hs ⟨o', g⟩ fun ev => of_dict (embInt c.prog c.w) hd' ((p.mono ev).store (embInt c.prog c.w) j (t'.mono ev)) ok'
  exact ⟨_, _, μ, q, r.1, trivial, r.2, rfl, rfl⟩
 | str j tk =>
  obtain ⟨ps, hd, p⟩ := dict_of (embStr c.prog c.w) e1 x u (like_str k3)
  refine wpAny_setItem_pairs (strKind_is _ _ _ _) hd (fun h' hd' hs => ?_) (le_sizeLine (by have := p.keys; have := congrArg List.length this; simp at this; lia))
  obtain ⟨o', _, _, g, _⟩ := id hd'
  have r := R.upd (p := .dict (dset kvs (.str j) y)) e hs ⟨o', g⟩ fun ev => of_dict (embStr c.prog c.w) hd' ((p.mono ev).store (embStr c.prog c.w) j (t'.mono ev)) ok'
  exact ⟨_, _, μ, q, r.1, trivial, r.2, rfl, rfl⟩
 | @tup a items l g f t =>
  obtain ⟨ps, hd, p⟩ := tdict_of e1 x u ok (like_tup k3)
  refine wpAny_setItem_heap (knd := tupKind c.prog c.w) (by show A.units + 1 + 16 < cLine; lia) ⟨KR.of (.tup g f t) k1, k2⟩ hd (fun h' hd' hs => ?_) (le_sizeLine (by have := p.keys; have := congrArg List.length this; simp at this; lia))
  obtain ⟨o', _, _, g', _⟩ := id hd'
  have r := R.upd (p := .dict (dset kvs (.tup l) y)) e hs ⟨o', g'⟩ fun ev => of_tdict hd' ((p.mono ev).store (fun p hp => (ok p hp).1) k1 ((VR.tup g f t).mono ev) (t'.mono ev)) ok'
  exact ⟨_, _, μ, q, r.1, trivial, r.2, rfl, rfl⟩
 | _ => cases k1
end
end
section
section
variable {c : Ctx} {Γ : Gm} {A : Around} {X : Nat → Prop} {σ : St} {μ : Nat → Nat} {s : Shared}
theorem wp_eqOf {u v : Value} {x y : V} {dx dy : PyData} {Q : V → St → Prop} (R : Rel c X σ μ s.heap) (hA : A.units + 64 < cLine) (tx : VRσ X σ μ s.heap u x) (ty : VRσ X σ μ s.heap v y) (e1 : x.py = some dx) (e2 : y.py = some dy) (s1 : SeqAt.shaped dx = true) (s2 : SeqAt.shaped dy = true)
  (q : Q (.bool (PyData.eqv dx dy)) σ) : wpAny c.M A (compareOp .Eq u v) (Post c RV X σ μ s Q) Bot s := by
 obtain ⟨_, r1⟩ := tx.reads e1
 obtain ⟨_, r2⟩ := ty.reads e2
 exact SeqAt.compareEq_shaped r1 r2 s1 s2 hA (Post.here R (.bool _) q)
theorem wp_neOf {u v : Value} {x y : V} {dx dy : PyData} {Q : V → St → Prop} (R : Rel c X σ μ s.heap) (hA : A.units + 64 < cLine) (tx : VRσ X σ μ s.heap u x) (ty : VRσ X σ μ s.heap v y) (e1 : x.py = some dx) (e2 : y.py = some dy) (s1 : SeqAt.shaped dx = true) (s2 : SeqAt.shaped dy = true)
  (q : Q (.bool (!PyData.eqv dx dy)) σ) : wpAny c.M A (compareOp .NotEq u v) (Post c RV X σ μ s Q) Bot s := by
 obtain ⟨_, r1⟩ := tx.reads e1
 obtain ⟨_, r2⟩ := ty.reads e2
 exact SeqAt.compareNe_shaped r1 r2 s1 s2 hA (Post.here R (.bool _) q)
theorem items_eq {x : V} {v : Value} {vs : List Value} {l : List V} {dx : PyData} {ds : List PyData} (hA : A.units + 80 < cLine) (tx : VRσ X σ μ s.heap v x) (tl : VRs s.heap (Sx X σ μ) μ σ.length vs l) (e1 : x.py = some dx) (e2 : V.pys l = some ds) (sh : SeqAt.shaped (.list (dx :: ds)) = true) :
  ∃ e : Value → Bool, (∀ y, y ∈ vs.toArray → SeqAt.EqAt A.in1 s y v (e y)) ∧ vs.toArray.any e = ds.any (PyData.eqv · dx) ∧ vs.countP e = ds.countP (PyData.eqv · dx) ∧ vs.map e = ds.map (PyData.eqv · dx) := by
 classical
 obtain ⟨_, r1⟩ := tx.reads e1
 obtain ⟨_, r2⟩ := tl.reads e2
 simp only [SeqAt.shaped, PyData.canLay0, PyData.canLayAll0, PyData.depth, PyData.depthAll, Bool.and_eq_true, decide_eq_true_eq] at sh
 obtain ⟨⟨k1, k2⟩, k3⟩ := sh
 let e : Value → Bool := fun y => if h : ∃ d as, Reads s.heap y d as then PyData.eqv h.choose dx else false
 have val : ∀ y d as, Reads s.heap y d as → e y = PyData.eqv d dx := fun y d as r => by
  have h : ∃ d as, Reads s.heap y d as := ⟨d, as, r⟩
  show (if h : ∃ d as, Reads s.heap y d as then PyData.eqv h.choose dx else false) = _
  rw [dif_pos h]
  obtain ⟨as', r'⟩ := h.choose_spec
  rw [(r'.unique _ _ r).1]
 have all : ∀ (vs : List Value) (ds : List PyData) (as : List Addr), ReadsAll s.heap vs ds as → vs.map e = ds.map (PyData.eqv · dx) := fun vs => by
  induction vs with
  | nil => intro ds as r; cases r; rfl
  | cons z zs ih => intro ds as r; cases r with | cons a b => rw [List.map_cons, List.map_cons, val _ _ _ a, ih _ _ b]
 have mem : ∀ (vs : List Value) (ds : List PyData) (as : List Addr), ReadsAll s.heap vs ds as → PyData.canLayAll0 ds = true → ∀ y ∈ vs, ∃ d as, Reads s.heap y d as ∧ d.canLay0 = true := fun vs => by
  induction vs with
  | nil => intro ds as r _ y hy; cases hy
  | cons z zs ih =>
   intro ds as r k y hy
   cases r with | cons a b =>
   simp only [PyData.canLayAll0, Bool.and_eq_true] at k
   rcases List.mem_cons.mp hy with rfl | hy
   ·exact ⟨_, _, a, k.1⟩
   ·exact ih _ _ b k.2 y hy
 have hm := all _ _ _ r2
 have hcount : ∀ (l : List Value), l.countP e = (l.map e).countP id := fun l => by rw [List.countP_map]; rfl
 have hcount' : ∀ (l : List PyData), l.countP (PyData.eqv · dx) = (l.map (PyData.eqv · dx)).countP id := fun l => by rw [List.countP_map]; rfl
 refine ⟨e, fun y hy => ?_, ?_, ?_, hm⟩
 ·obtain ⟨d, as, r, k⟩ := mem _ _ _ r2 k2 y (by simpa using hy)
  rw [val _ _ _ r]
  refine SeqAt.eqAt_reads d dx A.in1 s _ _ _ _ r r1 k k1 ?_
  have := of_decide_eq_true k3
  show A.units + 1 + _ < cLine
  lia
 ·rw [List.any_toArray]
  have : ∀ (l : List Value), l.any e = (l.map e).any id := fun l => by simp
  have this' : ∀ (l : List PyData), l.any (PyData.eqv · dx) = (l.map (PyData.eqv · dx)).any id := fun l => by simp
  rw [this, this', hm]
 ·rw [hcount, hcount', hm]
theorem cmpP_mono {σ : St} {op : CmpOp} {x y : V} {P P' : Bool → Prop} (h : CmpI σ P op x y) (k : ∀ b, P b → P' b) : CmpI σ P' op x y := by
 cases h with
 | eqI h => exact .eqI (k _ h)
 | neI h => exact .neI (k _ h)
 | lt h => exact .lt (k _ h)
 | le h => exact .le (k _ h)
 | gt h => exact .gt (k _ h)
 | ge h => exact .ge (k _ h)
 | eqS h => exact .eqS (k _ h)
 | neS h => exact .neS (k _ h)
 | eqB h => exact .eqB (k _ h)
 | eq a b c d h => exact .eq a b c d (k _ h)
 | ne a b c d h => exact .ne a b c d (k _ h)
 | isNot a b c => exact .isNot (fun e => k _ (a e)) (fun e r => k _ (b e r)) c
 | is a b c => exact .is (fun e => k _ (a e)) (fun e => k _ (b e)) c
 | inT a b c h => exact .inT a b c (k _ h)
 | ninT a b c h => exact .ninT a b c (k _ h)
 | inF a b c h => exact .inF a b c (k _ h)
 | ninF a b c h => exact .ninF a b c (k _ h)
 | inD a b h => exact .inD a b (k _ h)
 | ninD a b h => exact .ninD a b (k _ h)
 | inL g a b c h => exact .inL g a b c (k _ h)
 | ninL g a b c h => exact .ninL g a b c (k _ h)
noncomputable def V.isNone : V → Bool
 | .none => true
 | _ => false
theorem V.isNone_iff {x : V} : x.isNone = true ↔ x = .none := by cases x <;> simp [V.isNone]
theorem not_none {v : Value} {x : V} (t : VRσ X σ μ s.heap v x) (hr : ∀ w, x ≠ .raw w) : (v == Value.none) = x.isNone := by
 cases t <;> first | rfl | exact absurd rfl (hr _)
theorem wp_cmp {op : CmpOp} {u v : Value} {x y : V} {Q : V → St → Prop} (ok : c.Ok) (R : Rel c X σ μ s.heap) (hA : A.units + 100 ≤ cLine) (tx : VRσ X σ μ s.heap u x) (ty : VRσ X σ μ s.heap v y) (h : CmpI σ (fun b => Q (.bool b) σ) op x y) :
  wpAny c.M A (compareOp op u v) (Post c RV X σ μ s Q) Bot s := by
 cases h with
 | eqI h => obtain ⟨_, rfl⟩ := tx.inv; obtain ⟨_, rfl⟩ := ty.inv; exact eq_int (Post.here R (.bool _) h)
 | neI h => obtain ⟨_, rfl⟩ := tx.inv; obtain ⟨_, rfl⟩ := ty.inv; exact ne_int (Post.here R (.bool _) h)
 | lt h => obtain ⟨_, rfl⟩ := tx.inv; obtain ⟨_, rfl⟩ := ty.inv; exact lt_int (Post.here R (.bool _) h)
 | le h => obtain ⟨_, rfl⟩ := tx.inv; obtain ⟨_, rfl⟩ := ty.inv; exact le_int (Post.here R (.bool _) h)
 | gt h => obtain ⟨_, rfl⟩ := tx.inv; obtain ⟨_, rfl⟩ := ty.inv; exact gt_int (Post.here R (.bool _) h)
 | ge h => obtain ⟨_, rfl⟩ := tx.inv; obtain ⟨_, rfl⟩ := ty.inv; exact ge_int (Post.here R (.bool _) h)
 | eqS h => obtain ⟨_, rfl⟩ := tx.inv; obtain ⟨_, rfl⟩ := ty.inv; exact eq_str (Post.here R (.bool _) h)
 | neS h => obtain ⟨_, rfl⟩ := tx.inv; obtain ⟨_, rfl⟩ := ty.inv; exact ne_str (Post.here R (.bool _) h)
 | eqB h => cases tx.inv; cases ty.inv; exact eq_bool (Post.here R (.bool _) h)
 | eq e1 e2 s1 s2 q => exact wp_eqOf R (by lia) tx ty e1 e2 s1 s2 q
 | ne e1 e2 s1 s2 q => exact wp_neOf R (by lia) tx ty e1 e2 s1 s2 q
 | isNot h1 h2 h3 =>
  cases ty.inv
  refine isNot_none ?_
  rw [not_none tx h3]
  cases e : x.isNone
  ·exact Post.here R (.bool _) (h2 (fun z => by rw [V.isNone_iff.mpr z] at e; cases e) h3)
  ·exact Post.here R (.bool _) (h1 (V.isNone_iff.mp e))
 | is h1 h2 h3 =>
  cases ty.inv
  refine is_none ?_
  rw [not_none tx h3]
  cases e : x.isNone
  ·exact Post.here R (.bool _) (h2 fun z => by rw [V.isNone_iff.mpr z] at e; cases e)
  ·exact Post.here R (.bool _) (h1 (V.isNone_iff.mp e))
 | inT e1 e2 sh q =>
  obtain ⟨_, _, rfl, g, f, t⟩ := ty.inv
  obtain ⟨e, h1, h2, _⟩ := items_eq (s := s) (by lia : A.units + 80 < cLine) tx t e1 e2 sh
  refine SeqAt.in_tupleAt e ⟨_, g, rfl, 0, rfl⟩ h1 ?_
  rw [h2]; exact Post.here R (.bool _) q
 | ninT e1 e2 sh q =>
  obtain ⟨_, _, rfl, g, f, t⟩ := ty.inv
  obtain ⟨e, h1, h2, _⟩ := items_eq (s := s) (by lia : A.units + 80 < cLine) tx t e1 e2 sh
  refine SeqAt.notIn_tupleAt e ⟨_, g, rfl, 0, rfl⟩ h1 ?_
  rw [h2]; exact Post.here R (.bool _) q
 | inF e1 e2 sh q =>
  obtain ⟨_, _, _, rfl, g, f, t⟩ := ty.inv
  obtain ⟨e, h1, h2, _⟩ := items_eq (s := s) (by lia : A.units + 80 < cLine) tx t e1 e2 sh
  refine SeqAt.in_listAt e (isList g) h1 ?_
  rw [h2]; exact Post.here R (.bool _) q
 | ninF e1 e2 sh q =>
  obtain ⟨_, _, _, rfl, g, f, t⟩ := ty.inv
  obtain ⟨e, h1, h2, _⟩ := items_eq (s := s) (by lia : A.units + 80 < cLine) tx t e1 e2 sh
  refine SeqAt.notIn_listAt e (isList g) h1 ?_
  rw [h2]; exact Post.here R (.bool _) q
 | inD g hk q => obtain ⟨rfl, hl⟩ := ty.inv; exact wp_dictIn ok R (by lia) g tx hk q
 | ninD g hk q => obtain ⟨rfl, hl⟩ := ty.inv; exact wp_dictNotIn ok R (by lia) g tx hk q
 | inL g e1 e2 sh q =>
  obtain ⟨rfl, hl⟩ := ty.inv
  obtain ⟨_, _, g, t⟩ := (R.obj _ _ g).inv
  obtain ⟨e, h1, h2, _⟩ := items_eq (s := s) (by lia : A.units + 80 < cLine) tx t e1 e2 sh
  refine SeqAt.in_listAt e (isList g) h1 ?_
  rw [h2]; exact Post.here R (.bool _) q
 | ninL g e1 e2 sh q =>
  obtain ⟨rfl, hl⟩ := ty.inv
  obtain ⟨_, _, g, t⟩ := (R.obj _ _ g).inv
  obtain ⟨e, h1, h2, _⟩ := items_eq (s := s) (by lia : A.units + 80 < cLine) tx t e1 e2 sh
  refine SeqAt.notIn_listAt e (isList g) h1 ?_
  rw [h2]; exact Post.here R (.bool _) q
theorem truR {σ : St} {i : Nat} {k : Bool → Prop} (h : truP σ (.ref i) k) : ∃ l, σ[i]? = some (some (.list l)) ∧ l.length ≤ 1000000 ∧ k (!l.isEmpty) := by
 change (match (σ[i]? : Option (Option AObj)) with | some (some (.list l)) => l.length ≤ 1000000 ∧ k (!l.isEmpty) | _ => False) at h
 cases e : σ[i]? with
 | none => rw [e] at h; exact h.elim
 | some o =>
  rw [e] at h
  cases o with
  | none => exact h.elim
  | some o => cases o with
   | list l => exact ⟨l, rfl, h⟩
   | _ => exact h.elim
theorem truP_mono {σ : St} {x : V} {P P' : Bool → Prop} (h : truP σ x P) (k : ∀ b, P b → P' b) : truP σ x P' := by
 cases x with
 | bool => exact k _ h
 | int => exact k _ h
 | none => exact k _ h
 | fl => exact ⟨h.1, k _ h.2⟩
 | ref =>
  obtain ⟨l, e, h⟩ := truR h
  change (match (σ[_]? : Option (Option AObj)) with | some (some (.list l)) => l.length ≤ 1000000 ∧ P' (!l.isEmpty) | _ => False)
  rw [e]
  exact ⟨h.1, k _ h.2⟩
 | _ => exact h.elim
theorem wp_tru {u : Value} {x : V} {Q : Bool → St → Prop} (R : Rel c X σ μ s.heap) (tx : VRσ X σ μ s.heap u x) (h : truP σ x (Q · σ)) : wpAny c.M A (truthy u) (Post c RB X σ μ s Q) Bot s := by
 have lst : ∀ {a : Addr} {items : List Value} {n : Nat} {l : List V}, s.heap.get? a = some (listO items n) → VRs s.heap (Sx X σ μ) μ σ.length items l → l.length ≤ 1000000 → Q (!l.isEmpty) σ → wpAny c.M A (truthy (.ref a)) (Post c RB X σ μ s Q) Bot s := fun {a items n l} g t hl q => by
  have e := t.length
  refine wpAny_truthy_list (isList g) (by simp only [List.size_toArray]; lia) ?_
  have : items.toArray.isEmpty = l.isEmpty := by cases t <;> rfl
  rw [this]
  exact Post.tok R rfl q
 cases x with
 | bool => obtain rfl := tx.inv; exact wpAny_truthy_bool (Post.here R rfl h)
 | int => obtain ⟨_, rfl⟩ := tx.inv; exact truthy_int (Post.here R rfl h)
 | none => obtain rfl := tx.inv; exact fun Γ p hΓ => Post.here R rfl h
 | fl => obtain ⟨_, _, _, rfl, g, f, t⟩ := tx.inv; exact lst g t h.1 h.2
 | ref => obtain ⟨l, g, h⟩ := truR h; obtain ⟨rfl, hl⟩ := tx.inv; obtain ⟨_, _, g, t⟩ := (R.obj _ _ g).inv; exact lst g t h.1 h.2
 | _ => exact h.elim
end
end
section
section
variable {c : Ctx} {Γ : Gm}
noncomputable def binM (op : Operator) (a b : ME V) : ME V := fun d ρ σ Q => a d ρ σ fun x σ => b d ρ σ fun y σ => opP σ op x y (Q · σ)
theorem sim_BinOp {op : Operator} {l r : Expr} {a b : ME V} {pos : Pos} (ha : SimE c Γ l a) (hb : SimE c Γ r b) : SimE c Γ (.BinOp l op r pos) (binM op a b) := by
 intro A d X bs env F ρ σ μ s Q hA R E h
 refine wpAny_BinOp (wp_seq (ha A d X bs env F ρ σ μ s _ hA R E h) fun u x σ₁ μ₁ s₁ q R₁ t₁ e₁ g₁ o₁ => wp_seq (hb A d X bs env F ρ σ₁ μ₁ s₁ _ hA R₁ (E.mono e₁) q) fun v y σ₂ μ₂ s₂ q₂ R₂ t₂ e₂ g₂ o₂ => ?_)
 exact wp_after (e₁.trans e₂) (g₂.trans g₁) (o₂.trans o₁) (wp_binop R₂ (t₁.mono e₂) t₂ q₂)
noncomputable def negM (a : ME V) : ME V := fun d ρ σ Q => a d ρ σ fun x σ => match x with
 | .int i => Q (.int (-i)) σ
 | _ => False
theorem sim_USub {e : Expr} {a : ME V} {pos : Pos} (ha : SimE c Γ e a) : SimE c Γ (.UnaryOp .USub e pos) (negM a) := by
 intro A d X bs env F ρ σ μ s Q hA R E h
 refine wpAny_UnaryOp (wp_seq (ha A d X bs env F ρ σ μ s _ hA R E h) fun u x σ₁ μ₁ s₁ q R₁ t₁ e₁ g₁ o₁ => ?_)
 split at q
 ·cases t₁; exact wp_after e₁ g₁ o₁ (neg_int (Post.tok R₁ (.int _ _) q))
 ·exact q.elim
noncomputable def notM (a : ME V) : ME V := fun d ρ σ Q => a d ρ σ fun x σ => truP σ x fun b => Q (.bool (!b)) σ
theorem sim_Not {e : Expr} {a : ME V} {pos : Pos} (ha : SimE c Γ e a) : SimE c Γ (.UnaryOp .Not e pos) (notM a) := by
 intro A d X bs env F ρ σ μ s Q hA R E h
 refine wpAny_UnaryOp (wp_seq (ha A d X bs env F ρ σ μ s _ hA R E h) fun u x σ₁ μ₁ s₁ q R₁ t₁ e₁ g₁ o₁ => ?_)
 refine wp_after e₁ g₁ o₁ (not_value (wp_seq (wp_tru (Q := fun b σ => σ = σ₁ ∧ Q (.bool (!b)) σ) R₁ t₁ ?_) fun b b' σ₂ μ₂ s₂ q₂ R₂ t₂ e₂ g₂ o₂ => ?_))
 ·exact truP_mono q fun b q => ⟨rfl, q⟩
 ·obtain ⟨rfl, q₂⟩ := q₂
  cases t₂
  exact ⟨_, _, μ₂, q₂, R₂, .bool _, e₂, g₂, o₂⟩
noncomputable def truM (a : ME V) : ME Bool := fun d ρ σ Q => a d ρ σ fun x σ => truP σ x (Q · σ)
theorem simT_val {e : Expr} {a : ME V} (ha : SimE c Γ e a) (he : ∀ env whole, isTrue e env whole = (do let v ← whole; standAt e.pos; holding [v] (truthy v))) : SimT c Γ e (truM a) := by
 intro A d X bs env F ρ σ μ s Q hA R E h
 refine wpAny_isTrue_value (wp_seq (ha A d X bs env F ρ σ μ s _ hA R E h) fun u x σ₁ μ₁ s₁ q R₁ t₁ e₁ g₁ o₁ => ?_) (he _ _)
 exact wp_after e₁ g₁ o₁ (wp_tru R₁ t₁ q)
noncomputable def nottM (a : ME Bool) : ME Bool := fun d ρ σ Q => a d ρ σ fun b σ => Q (!b) σ
theorem simT_Not {e : Expr} {a : ME Bool} {pos : Pos} (ha : SimT c Γ e a) : SimT c Γ (.UnaryOp .Not e pos) (nottM a) := by
 intro A d X bs env F ρ σ μ s Q hA R E h
 refine wpAny_isTrue_Not (wp_seq (ha A d X bs env F ρ σ μ s _ hA R E h) fun u x σ₁ μ₁ s₁ q R₁ t₁ e₁ g₁ o₁ => ?_)
 cases t₁
 exact ⟨_, _, μ₁, q, R₁, rfl, e₁, g₁, o₁⟩
noncomputable def cmpM (op : CmpOp) (a b : ME V) : ME Bool := fun d ρ σ Q => a d ρ σ fun x σ => b d ρ σ fun y σ => cmpP σ op x y (Q · σ)
theorem simT_Cmp {op : CmpOp} {l r : Expr} {a b : ME V} {pos : Pos} (ok : c.Ok) (ha : SimE c Γ l a) (hb : SimE c Γ r b) (hm : behindInMarks op r = false) : SimT c Γ (.Compare l [op] [r] pos) (cmpM op a b) := by
 intro A d X bs env F ρ σ μ s Q hA R E h
 have hu := hA.units
 refine wpAny_isTrue_Compare1 (wp_seq (ha A d X bs env F ρ σ μ s _ hA R E h) fun u x σ₁ μ₁ s₁ q R₁ t₁ e₁ g₁ o₁ => wp_seq (hb A d X bs env F ρ σ₁ μ₁ s₁ _ hA R₁ (E.mono e₁) q) fun v y σ₂ μ₂ s₂ q₂ R₂ t₂ e₂ g₂ o₂ => ?_) hm
 refine wp_seq (wp_cmp (Q := fun z σ' => ∃ b, z = .bool b ∧ Q b σ') ok R₂ (by lia) (t₁.mono e₂) t₂ (cmpP_mono (cmpP_inv q₂) fun b q => ⟨b, rfl, q⟩)) fun v y σ₃ μ₃ s₃ q₃ R₃ t₃ e₃ g₃ o₃ => ?_
 obtain ⟨b, rfl, q₃⟩ := q₃
 cases t₃
 exact wp_after (e₁.trans (e₂.trans e₃)) (g₃.trans (g₂.trans g₁)) (o₃.trans (o₂.trans o₁)) (wpAny_truthy_bool (Post.here R₃ rfl q₃))
noncomputable def cmpvM (op : CmpOp) (a b : ME V) : ME V := fun d ρ σ Q => a d ρ σ fun x σ => b d ρ σ fun y σ => cmpP σ op x y fun b => Q (.bool b) σ
theorem sim_Cmp {op : CmpOp} {l r : Expr} {a b : ME V} {pos : Pos} (ok : c.Ok) (ha : SimE c Γ l a) (hb : SimE c Γ r b) (hm : behindInMarks op r = false) : SimE c Γ (.Compare l [op] [r] pos) (cmpvM op a b) := by
 intro A d X bs env F ρ σ μ s Q hA R E h
 have hu := hA.units
 refine wpAny_Compare1 (wp_seq (ha A d X bs env F ρ σ μ s _ hA R E h) fun u x σ₁ μ₁ s₁ q R₁ t₁ e₁ g₁ o₁ => wp_seq (hb A d X bs env F ρ σ₁ μ₁ s₁ _ hA R₁ (E.mono e₁) q) fun v y σ₂ μ₂ s₂ q₂ R₂ t₂ e₂ g₂ o₂ => ?_) hm
 exact wp_after (e₁.trans e₂) (g₂.trans g₁) (o₂.trans o₁) (wp_cmp ok R₂ (by lia) (t₁.mono e₂) t₂ (cmpP_inv q₂))
noncomputable def iteM {α : Type} (t : ME Bool) (a b : ME α) : ME α := fun d ρ σ Q => t d ρ σ fun z σ => if z then a d ρ σ Q else b d ρ σ Q
theorem sim_IfExp {t a b : Expr} {mt : ME Bool} {ma mb : ME V} {pos : Pos} (ht : SimT c Γ t mt) (ha : SimE c Γ a ma) (hb : SimE c Γ b mb) : SimE c Γ (.IfExp t a b pos) (iteM mt ma mb) := by
 intro A d X bs env F ρ σ μ s Q hA R E h
 refine wpAny_IfExp (wp_seq (ht A d X bs env F ρ σ μ s _ hA R E h) fun u x σ₁ μ₁ s₁ q R₁ t₁ e₁ g₁ o₁ => ?_)
 cases t₁
 cases u
 ·exact wp_after e₁ g₁ o₁ (hb A d X bs env F ρ σ₁ μ₁ s₁ _ hA R₁ (E.mono e₁) q)
 ·exact wp_after e₁ g₁ o₁ (ha A d X bs env F ρ σ₁ μ₁ s₁ _ hA R₁ (E.mono e₁) q)
noncomputable def SimTs (c : Ctx) (Γ : Gm) (op : BoolOp) (es : List Expr) (m : ME Bool) : Prop := ∀ A d X bs env F ρ σ μ s Q, Room A d → Rel c X σ μ s.heap → EnvR c X Γ bs env F ρ σ μ s.heap → m d ρ σ Q → wpAny c.M A (allTrue op es env) (Post c RB X σ μ s Q) Bot s
noncomputable def andM (a b : ME Bool) : ME Bool := fun d ρ σ Q => a d ρ σ fun z σ => if z then b d ρ σ Q else Q false σ
noncomputable def orM (a b : ME Bool) : ME Bool := fun d ρ σ Q => a d ρ σ fun z σ => if z then Q true σ else b d ρ σ Q
noncomputable def yesM (b : Bool) : ME Bool := fun _ _ σ Q => Q b σ
theorem simT_and0 : SimTs c Γ .And [] (yesM true) := fun _ _ _ _ _ _ _ _ _ _ _ _ R _ h => wpAny_allTrue_And_nil (Post.here R rfl h)
theorem simT_or0 : SimTs c Γ .Or [] (yesM false) := fun _ _ _ _ _ _ _ _ _ _ _ _ R _ h => wpAny_allTrue_Or_nil (Post.here R rfl h)
theorem simT_andc {e : Expr} {es : List Expr} {a b : ME Bool} (ha : SimT c Γ e a) (hb : SimTs c Γ .And es b) : SimTs c Γ .And (e :: es) (andM a b) := by
 intro A d X bs env F ρ σ μ s Q hA R E h
 refine wpAny_allTrue_And_cons (wp_seq (ha A d X bs env F ρ σ μ s _ hA R E h) fun u x σ₁ μ₁ s₁ q R₁ t₁ e₁ g₁ o₁ => ?_)
 cases t₁
 cases u
 ·exact ⟨_, _, μ₁, q, R₁, rfl, e₁, g₁, o₁⟩
 ·exact wp_after e₁ g₁ o₁ (hb A d X bs env F ρ σ₁ μ₁ s₁ _ hA R₁ (E.mono e₁) q)
theorem simT_orc {e : Expr} {es : List Expr} {a b : ME Bool} (ha : SimT c Γ e a) (hb : SimTs c Γ .Or es b) : SimTs c Γ .Or (e :: es) (orM a b) := by
 intro A d X bs env F ρ σ μ s Q hA R E h
 refine wpAny_allTrue_Or_cons (wp_seq (ha A d X bs env F ρ σ μ s _ hA R E h) fun u x σ₁ μ₁ s₁ q R₁ t₁ e₁ g₁ o₁ => ?_)
 cases t₁
 cases u
 ·exact wp_after e₁ g₁ o₁ (hb A d X bs env F ρ σ₁ μ₁ s₁ _ hA R₁ (E.mono e₁) q)
 ·exact ⟨_, _, μ₁, q, R₁, rfl, e₁, g₁, o₁⟩
theorem simT_BoolOp {op : BoolOp} {es : List Expr} {m : ME Bool} {pos : Pos} (h : SimTs c Γ op es m) : SimT c Γ (.BoolOp op es pos) m :=
 fun A d X bs env F ρ σ μ s Q hA R E k => wpAny_isTrue_BoolOp (h A d X bs env F ρ σ μ s Q hA R E k)
theorem simT_IfExp {t a b : Expr} {mt ma mb : ME Bool} {pos : Pos} (ht : SimT c Γ t mt) (ha : SimT c Γ a ma) (hb : SimT c Γ b mb) : SimT c Γ (.IfExp t a b pos) (iteM mt ma mb) := by
 intro A d X bs env F ρ σ μ s Q hA R E h
 rw [arm_isTrue_IfExp]
 refine wpAny_bind (wp_seq (ht A d X bs env F ρ σ μ s _ hA R E h) fun u x σ₁ μ₁ s₁ q R₁ t₁ e₁ g₁ o₁ => ?_)
 cases t₁
 cases u
 ·exact wp_after e₁ g₁ o₁ (hb A d X bs env F ρ σ₁ μ₁ s₁ _ hA R₁ (E.mono e₁) q)
 ·exact wp_after e₁ g₁ o₁ (ha A d X bs env F ρ σ₁ μ₁ s₁ _ hA R₁ (E.mono e₁) q)
noncomputable def SimVs (c : Ctx) (Γ : Gm) (op : BoolOp) (es : List Expr) (m : ME V) : Prop := ∀ A d X bs env F ρ σ μ s Q pos, Room A d → Rel c X σ μ s.heap → EnvR c X Γ bs env F ρ σ μ s.heap → m d ρ σ Q → wpAny c.M A (boolOp pos op (evalEach es env)) (Post c RV X σ μ s Q) Bot s
noncomputable def andvM (a b : ME V) : ME V := fun d ρ σ Q => a d ρ σ fun x σ => truP σ x fun z => if z then b d ρ σ Q else Q x σ
noncomputable def orvM (a b : ME V) : ME V := fun d ρ σ Q => a d ρ σ fun x σ => truP σ x fun z => if z then Q x σ else b d ρ σ Q
theorem simV_one {op : BoolOp} {e : Expr} {a : ME V} (ha : SimE c Γ e a) : SimVs c Γ op [e] a :=
 fun A d X bs env F ρ σ μ s Q _ hA R E h => ha A d X bs env F ρ σ μ s Q hA R E h
theorem wp_truAt {A : Around} {X : Nat → Prop} {σ : St} {μ : Nat → Nat} {s : Shared} {u : Value} {x : V} {P : Bool → Prop} {Q : Bool → Shared → Prop} (R : Rel c X σ μ s.heap) (tx : VRσ X σ μ s.heap u x) (q : truP σ x P)
  (k : ∀ b σ' μ' s', σ' = σ → P b → Rel c X σ' μ' s'.heap → Evσ X σ μ s.heap X σ' μ' s'.heap → s'.gens = s.gens → s'.os = s.os → Q b s') : wpAny c.M A (truthy u) Q Bot s := by
 refine wp_seq (wp_tru (Q := fun b σ' => σ' = σ ∧ P b) R tx ?_) fun b b' σ₂ μ₂ s₂ q₂ R₂ t₂ e₂ g₂ o₂ => ?_
 ·exact truP_mono q fun b q => ⟨rfl, q⟩
 ·cases t₂
  exact k _ σ₂ μ₂ s₂ q₂.1 q₂.2 R₂ e₂ g₂ o₂
set_option backward.match.sparseCases true in
theorem simV_and {e f : Expr} {es : List Expr} {a b : ME V} (ha : SimE c Γ e a) (hb : SimVs c Γ .And (f :: es) b) : SimVs c Γ .And (e :: f :: es) (andvM a b) := by
 intro A d X bs env F ρ σ μ s Q pos hA R E h
 show wpAny c.M A (do let v ← eval e env; standAt pos; let t ← holding [v] (truthy v); match BoolOp.And, t with | .And, false | .Or, true => pure v | _, _ => boolOp pos .And (evalEach (f :: es) env)) _ _ _
 refine wpAny_bind (wp_seq (ha A d X bs env F ρ σ μ s _ hA R E h) fun u x σ₁ μ₁ s₁ q R₁ t₁ e₁ g₁ o₁ => ?_)
 refine wpAny_bind (wpAny_standAt (wpAny_bind (wpAny_holding (wp_truAt R₁ t₁ q ?_))))
 rintro b σ₂ μ₂ s₂ rfl q₂ R₂ e₂ g₂ o₂
 cases b
 ·exact wpAny_pure ⟨_, _, μ₂, q₂, R₂, t₁.mono e₂, e₁.trans e₂, g₂.trans g₁, o₂.trans o₁⟩
 ·exact wp_after (e₁.trans e₂) (g₂.trans g₁) (o₂.trans o₁) (hb A d X bs env F ρ _ μ₂ s₂ _ pos hA R₂ ((E.mono e₁).mono e₂) q₂)
set_option backward.match.sparseCases true in
theorem simV_or {e f : Expr} {es : List Expr} {a b : ME V} (ha : SimE c Γ e a) (hb : SimVs c Γ .Or (f :: es) b) : SimVs c Γ .Or (e :: f :: es) (orvM a b) := by
 intro A d X bs env F ρ σ μ s Q pos hA R E h
 show wpAny c.M A (do let v ← eval e env; standAt pos; let t ← holding [v] (truthy v); match BoolOp.Or, t with | .And, false | .Or, true => pure v | _, _ => boolOp pos .Or (evalEach (f :: es) env)) _ _ _
 refine wpAny_bind (wp_seq (ha A d X bs env F ρ σ μ s _ hA R E h) fun u x σ₁ μ₁ s₁ q R₁ t₁ e₁ g₁ o₁ => ?_)
 refine wpAny_bind (wpAny_standAt (wpAny_bind (wpAny_holding (wp_truAt R₁ t₁ q ?_))))
 rintro b σ₂ μ₂ s₂ rfl q₂ R₂ e₂ g₂ o₂
 cases b
 ·exact wp_after (e₁.trans e₂) (g₂.trans g₁) (o₂.trans o₁) (hb A d X bs env F ρ _ μ₂ s₂ _ pos hA R₂ ((E.mono e₁).mono e₂) q₂)
 ·exact wpAny_pure ⟨_, _, μ₂, q₂, R₂, t₁.mono e₂, e₁.trans e₂, g₂.trans g₁, o₂.trans o₁⟩
theorem sim_BoolOp {op : BoolOp} {es : List Expr} {m : ME V} {pos : Pos} (h : SimVs c Γ op es m) : SimE c Γ (.BoolOp op es pos) m :=
 fun A d X bs env F ρ σ μ s Q hA R E k => by rw [arm_eval_BoolOp]; exact h A d X bs env F ρ σ μ s Q pos hA R E k
end
end
section
section
variable {c : Ctx} {Γ : Gm}
noncomputable def idxP (l : List V) (i : Int) (k : V → Prop) : Prop :=
 if 0 ≤ i then i < 4000000000 ∧ ∃ y, l[i.toNat]? = some y ∧ k y else -4000000000 ≤ i ∧ 0 ≤ i + l.length ∧ ∃ y, l[(i + l.length).toNat]? = some y ∧ k y
noncomputable def subP (σ : St) (x i : V) (k : V → Prop) : Prop := match x, i with
 | .fl l, .int i => idxP l i k
 | .tup l, .int i => idxP l i k
 | .ref j, i => match σ[j]?, i with
  | some (some (.list l)), .int i => idxP l i k
  | some (some (.dict kvs)), i => keyP kvs i ∧ ∃ y, dget kvs i = some y ∧ k y
  | _, _ => False
 | _, _ => False
section
variable {A : Around} {X : Nat → Prop} {σ : St} {μ : Nat → Nat} {s : Shared}
theorem wp_idxList {a : Addr} {items : List Value} {n : Nat} {l : List V} {i : Int} {t : Tok} {Q : V → St → Prop} (R : Rel c X σ μ s.heap) (g : s.heap.get? a = some (listO items n)) (tl : VRs s.heap (Sx X σ μ) μ σ.length items l) (h : idxP l i (Q · σ)) :
  wpAny c.M A (getItem (.ref a) (.int i t)) (Post c RV X σ μ s Q) Bot s := by
 have e := tl.length
 unfold idxP at h
 split at h
 ·obtain ⟨h1, y, h2, q⟩ := h
  obtain ⟨v, hv, tv⟩ := tl.get h2
  exact wpAny_getItem_list (isList g) (by assumption) (by lia) (by simpa using hv) (Post.here R tv q)
 ·obtain ⟨h1, h3, y, h2, q⟩ := h
  obtain ⟨v, hv, tv⟩ := tl.get h2
  exact wpAny_getItem_list_neg (isList g) (by lia) (by simp only [List.size_toArray]; lia) (by lia) (by simpa [e] using hv) (Post.here R tv q)
theorem wp_idxTup {a : Addr} {items : List Value} {l : List V} {i : Int} {t : Tok} {Q : V → St → Prop} (R : Rel c X σ μ s.heap) (g : s.heap.get? a = some (tupO items)) (tl : VRs s.heap (Sx X σ μ) μ σ.length items l) (h : idxP l i (Q · σ)) :
  wpAny c.M A (getItem (.ref a) (.int i t)) (Post c RV X σ μ s Q) Bot s := by
 have e := tl.length
 have lt : ∀ {j : Nat} {y : V}, l[j]? = some y → j < items.length := fun h => by rw [e]; exact (List.getElem?_eq_some_iff.mp h).1
 unfold idxP at h
 split at h
 ·obtain ⟨h1, y, h2, q⟩ := h
  obtain ⟨v, hv, tv⟩ := tl.get h2
  have := lt h2
  exact PyProof.Rows.getItem_tuple ⟨_, g, rfl, 0, rfl⟩ (by lia) (by lia) (j := i.toNat) (by simp [seqIndex?]; lia) (by simpa using hv) (Post.here R tv q)
 ·obtain ⟨h1, h3, y, h2, q⟩ := h
  obtain ⟨v, hv, tv⟩ := tl.get h2
  have := lt h2
  refine PyProof.Rows.getItem_tuple ⟨_, g, rfl, 0, rfl⟩ (by lia) (by lia) (j := (i + l.length).toNat) ?_ (by simpa [e] using hv) (Post.here R tv q)
  simp only [seqIndex?, List.size_toArray, e]
  rw [if_pos (by lia : i < 0), if_pos (by simp; lia)]
theorem wp_sub {u v : Value} {x i : V} {Q : V → St → Prop} (R : Rel c X σ μ s.heap) (hA : A.units + 100 ≤ cLine) (tx : VRσ X σ μ s.heap u x) (ti : VRσ X σ μ s.heap v i) (h : subP σ x i (Q · σ)) :
  (∃ T id, typeLookup (.type T) "__getitem__" = pure (some (.builtin id)) ∧ s.TypeIs u T) ∧ wpAny c.M A (getItem u v) (Post c RV X σ μ s Q) Bot s := by
 unfold subP at h
 split at h
 ·cases ti; obtain ⟨_, _, _, rfl, g, f, t⟩ := tx.inv; exact ⟨⟨_, _, slot_list_getitem.lookup, ⟨_, g, rfl⟩⟩, wp_idxList R g t h⟩
 ·cases ti; obtain ⟨_, _, rfl, g, f, t⟩ := tx.inv; exact ⟨⟨_, _, slot_tuple_getitem.lookup, ⟨_, g, rfl⟩⟩, wp_idxTup R g t h⟩
 ·obtain ⟨rfl, hl⟩ := tx.inv
  split at h
  ·rename_i g; cases ti; obtain ⟨_, _, g, t⟩ := (R.obj _ _ g).inv; exact ⟨⟨_, _, slot_list_getitem.lookup, ⟨_, g, rfl⟩⟩, wp_idxList R g t h⟩
  ·rename_i g
   obtain ⟨h1, y, h2, q⟩ := h
   refine ⟨?_, wp_dictGet R (by lia) g ti h1 h2 q⟩
   obtain ⟨_, _, g, _, _, _⟩ := (R.obj _ _ g).inv; exact ⟨_, _, slot_dict_getitem.lookup, ⟨_, g, rfl⟩⟩
  ·exact h.elim
 ·exact h.elim
end
noncomputable def subM (a b : ME V) : ME V := fun d ρ σ Q => a d ρ σ fun x σ => b d ρ σ fun i σ => subP σ x i (Q · σ)
theorem sim_Sub {e i : Expr} {a b : ME V} {pos : Pos} (ha : SimE c Γ e a) (hb : SimE c Γ i b) (hs : ∀ o v, subscripted i false o v = operate [o, v] (getItem o v)) : SimE c Γ (.Subscript e i pos) (subM a b) := by
 intro A d X bs env F ρ σ μ s Q hA R E h
 have hu := hA.units
 rw [eval_Subscript]
 refine wpAny_bind (wp_seq (ha A d X bs env F ρ σ μ s _ hA R E h) fun u x σ₁ μ₁ s₁ q R₁ t₁ e₁ g₁ o₁ => wpAny_bind (wpAny_holding (wp_seq (hb A d X bs env F ρ σ₁ μ₁ s₁ _ hA R₁ (E.mono e₁) q) fun v y σ₂ μ₂ s₂ q₂ R₂ t₂ e₂ g₂ o₂ => wpAny_bind (wpAny_standAt ?_))))
 obtain ⟨⟨T, id, hl, hT⟩, w⟩ := wp_sub (A := A) R₂ (by lia) (t₁.mono e₂) t₂ q₂
 have w := wp_after (e₁.trans e₂) (g₂.trans g₁) (o₂.trans o₁) w
 refine wpAny_bind ?_
 rw [getitemInPython_of_ne hT.not_modules]
 refine wpAny_bind (wpAny_specialOf hT hl ?_)
 have fin : wpAny c.M A (subscripted i false u v) (fun r s₃ => wpAny c.M A (letTemporaryGo e u r >>= fun _ => pure r) (Post c RV X σ μ s Q) Bot s₃) Bot s₂ := by
  rw [hs]
  exact wpAny_operating (wpAny_mono w (fun r s₃ h₃ => wpAny_bind (wpAny_letTemporaryGo (wpAny_pure h₃))) fun _ _ x => x)
 first
  | exact wpAny_pure (wpAny_bind fin)
  | exact wpAny_bind (wpAny_pure (wpAny_bind fin))
  | exact wpAny_bind fin
noncomputable def attrOk (K : Frag) (C : Addr) (name : Str) : Bool := plainGet K C name && hasDictIn K C && (match findIn K (.ref C) name with | some a => noGet K a | none => false)
noncomputable def nsAt (σ : St) (i : Nat) : Option (List (Str × V)) := match σ[i]? with
 | some (some (.ns kvs)) => some kvs
 | _ => none
theorem nsAt_inv {σ : St} {i : Nat} {kvs : List (Str × V)} (h : nsAt σ i = some kvs) : σ[i]? = some (some (.ns kvs)) := by
 unfold nsAt at h
 split at h
 ·cases h; assumption
 ·cases h
noncomputable def onS {α : Type} (o : Option α) (k : α → Prop) : Prop := o.elim False k
theorem onS_inv {α : Type} {o : Option α} {k : α → Prop} (h : onS o k) : ∃ y, o = some y ∧ k y := by
 cases o with
 | none => exact h.elim
 | some y => exact ⟨y, rfl, h⟩
noncomputable def attrG (P : Nat → Bool) (name : Str) (σ : St) (x : V) : Option V := match x with
 | .inst C i => cond (P C) ((nsAt σ i).bind fun kvs => kvs.lookup name) none
 | _ => none
theorem attrG_inv {P : Nat → Bool} {name : Str} {σ : St} {x y : V} (h : attrG P name σ x = some y) : ∃ C i kvs, x = .inst C i ∧ P C = true ∧ σ[i]? = some (some (.ns kvs)) ∧ kvs.lookup name = some y := by
 unfold attrG at h
 split at h
 ·rename_i C i
  cases e : P C with
  | false => rw [e] at h; cases h
  | true =>
   rw [e] at h
   obtain ⟨kvs, h1, h2⟩ := Option.bind_eq_some_iff.mp h
   exact ⟨C, i, kvs, rfl, e, nsAt_inv h1, h2⟩
 ·cases h
noncomputable def attrM (P : Nat → Bool) (name : Str) (a : ME V) : ME V := fun d ρ σ Q => a d ρ σ fun x σ => onS (attrG P name σ x) fun y => Q y σ
theorem NR.get {h : Heap} {S : Nat → Prop} {μ : Nat → Nat} {n : Nat} {es : List DictEntry} {kvs : List (Str × V)} (x : NR h S μ n es kvs) (name : Str) :
  match kvs.lookup name with
  | some y => ∃ v, getL name es = some (some v) ∧ VR h S μ n v y
  | none => getL name es = some none := by
 have hany : es.any (·.refKey) = false := by
  induction x with
  | nil => rfl
  | cons a _ _ ih => rw [List.any_cons, ih]; simp [DictEntry.refKey, a]
 unfold getL
 rw [hany]
 clear hany
 induction x with
 | nil => rfl
 | @cons e k t x es kvs a b r ih =>
  have hi : e.key.isStr name = (k == name) := by rw [a]; rfl
  simp only [List.lookup_cons, List.find?_cons, hi]
  by_cases h : k = name
  ·subst h; simp only [beq_self_eq_true]; exact ⟨_, rfl, b⟩
  ·rw [beq_eq_false_iff_ne.mpr h, beq_eq_false_iff_ne.mpr fun e => h e.symm]; exact ih
theorem handed_of_VR {X : Nat → Prop} {σ : St} {μ : Nat → Nat} {h : Heap} {v : Value} {y : V} (t : VRσ X σ μ h v y) : handedIn v = true := by
 cases t <;> first | rfl | assumption
theorem sim_Attr {e : Expr} {name : Str} {a : ME V} {P : Nat → Bool} {pos : Pos} (ok : c.Ok) (ha : SimE c Γ e a) (hc : ∀ C, P C = true → attrOk c.K C name = true) (hb : ∀ env t, attributeBase e name env t = t) :
  SimE c Γ (.Attribute e name pos) (attrM P name a) := by
 intro A d X bs env F ρ σ μ s Q hA R E h
 rw [arm_eval_Attribute, hb]
 refine wpAny_bind (wp_seq (ha A d X bs env F ρ σ μ s _ hA R E h) fun u x σ₁ μ₁ s₁ q R₁ t₁ e₁ g₁ o₁ => wpAny_bind (wpAny_standAt ?_))
 replace q := onS_inv q
 obtain ⟨y, hg, q⟩ := q
 obtain ⟨C, i, kvs, rfl, hP, g, hy⟩ := attrG_inv hg
 obtain ⟨ad, rfl, go, f, hl⟩ := t₁.inv
 cases R₁.obj _ _ g with | ns hn hx =>
 have hz := hx.get name
 rw [hy] at hz
 obtain ⟨v, hv, tv⟩ := hz
 rename_i es' k'
 have hok := hc C hP
 simp only [attrOk, Bool.and_eq_true] at hok
 obtain ⟨⟨k1, k2⟩, k3⟩ := hok
 cases hf : findIn c.K (.ref C) name with
 | none => rw [hf] at k3; cases k3
 | some at' =>
  rw [hf] at k3
  have I : InstAt s₁.heap ad (instObj C (μ₁ i)) C (some (dictOf es' k')) := ⟨go, rfl, rfl, hn⟩
  refine wpAny_bind (wpAny_holding (get_value (ok.K.keeps R₁.base) I (plainGet_of k1).1 (findObj_own k2 hf k3 (by rw [lookIn_dict]; exact hv)) ?_ ?_))
  ·exact handed_of_VR tv
  ·exact wpAny_bind (wpAny_letTemporaryGo (wpAny_pure ((Post.tok R₁ tv q).after e₁ g₁ o₁)))
end
end
section
section
variable {c : Ctx} {Γ : Gm}
noncomputable def CallT (c : Ctx) (f : Value) (d : Nat) (args : List V) (σ : St) (Q : V → St → Prop) : Prop :=
 ∀ A X μ s vs, Room A d → Rel c X σ μ s.heap → VRs s.heap (Sx X σ μ) μ σ.length vs args → wpAny c.M A (call f vs) (Post c RV X σ μ s Q) Bot s
noncomputable def keepOk (K : Frag) (f : Value) : Bool := match f with
 | .ref _ => keepIn K f
 | _ => true
theorem keeps_ok (ok : c.Ok) {f : Value} (hk : keepOk c.K f = true) (h : Heap) (X : ∀ b o, c.h0.get? b = some o → h.get? b = some o) : ∃ k, (k = Keeper.frame ∨ k = Keeper.machine ∨ k = Keeper.boundFrame) ∧ Looks c.M h (keeperOf f) k := by
 cases f with
 | ref a => exact keeps_K (K := c.K) (f := .ref a) hk h (ok.K.keeps X)
 | _ => exact ⟨.machine, .inr (.inl rfl), .now⟩
theorem evalArgs_none' {M : Model} {A : Around} {s : Shared} {E : Value → Shared → Prop} {f : Value} {Q : Args → Shared → Prop} (h : wpAny M A (spliced []) (fun vs s' => Q ⟨vs, []⟩ s') E s) : wpAny M A (evalArgs f true [] []) Q E s := by
 unfold evalArgs
 show wpAny M A (spliced [] >>= _) Q E s
 refine wpAny_bind (wpAny_mono h (fun vs s' h' => ?_) fun _ _ x => x)
 refine wpAny_holding ?_
 exact wpAny_bind (wpAny_pure (wpAny_bind (wpAny_pure (wpAny_pure h'))))
theorem wp_callWith {A : Around} {d : Nat} {X : Nat → Prop} {bs : Nat} {env : Env} {F : Nat → Prop} {ρ : Env'} {σ : St} {μ : Nat → Nat} {s : Shared} {f : Value} {first : List Value} {fs : List V} {args : List Expr} {b : ME (List V)} {pos : Pos} {Q : V → St → Prop}
  (ok : c.Ok) (hk : keepOk c.K f = true) (hb : SimEs c Γ args b) (hp : (backTo pos (starEach args env)).any (·.1) = false) (hA : Room A d) (R : Rel c X σ μ s.heap) (E : EnvR c X Γ bs env F ρ σ μ s.heap) (tf : VRs s.heap (Sx X σ μ) μ σ.length first fs)
  (h : b d ρ σ fun xs σ => CallT c f d (fs ++ xs) σ Q) : wpAny c.M A (callWith pos f first (backTo pos (starEach args env)) []) (Post c RV X σ μ s Q) Bot s := by
 have key : wpAny c.M A (spliced (backTo pos (starEach args env))) (fun vs s₁ => (∀ b o, c.h0.get? b = some o → s₁.heap.get? b = some o) ∧ wpAny c.M A (call f (first ++ vs)) (Post c RV X σ μ s Q) Bot s₁) Bot s :=
  wp_seq (hb A d X bs env F ρ σ μ s _ pos hA R E h) fun vs xs σ₁ μ₁ s₁ q R₁ t₁ e₁ g₁ o₁ => ⟨R₁.base, wp_after e₁ g₁ o₁ (q A X μ₁ s₁ _ hA R₁ ((tf.mono e₁).append t₁))⟩
 cases hargs : backTo pos (starEach args env) with
 | nil =>
  rw [hargs] at key
  exact callWith_of rfl (fun h' X' => keeps_ok ok hk h' X') (evalArgs_none' key)
 | cons z zs =>
  obtain ⟨st, x⟩ := z
  rw [hargs] at hp key
  simp only [List.any_cons, Bool.or_eq_false_iff] at hp
  obtain ⟨hst, hz⟩ := hp
  subst hst
  exact callWith_of (by simp [hz]) (fun h' X' => keeps_ok ok hk h' X') (evalArgs_plain key)
noncomputable def callM (c : Ctx) (f : Value) (b : ME (List V)) : ME V := fun d ρ σ Q => b d ρ σ fun xs σ => CallT c f d xs σ Q
theorem sim_Call {x : Str} {f : Value} {args : List Expr} {b : ME (List V)} {p pos : Pos} (ok : c.Ok) (hf : c.mg x = some f ∨ (c.mg x = none ∧ c.mb x = some f)) (hk : keepOk c.K f = true) (hb : SimEs c Γ args b)
  (hx : Γ.lookup x = some none) (hp : ∀ env, (backTo pos (starEach args env)).any (·.1) = false) (hd : (x == ("__debug__" : Str)) = false) : SimE c Γ (.Call (.Name x p) args [] pos) (callM c f b) := by
 intro A d X bs env F ρ σ μ s Q hA R E h
 refine wpAny_Call_NameR (wpAny_Name (wp_loadGlobal ok R E hx hf ?_) hd)
 exact wp_callWith (first := []) (fs := []) ok hk hb (hp env) hA R E .nil h
noncomputable def methOk (K : Frag) (C : Addr) (name : Str) (f : Addr) : Bool := plainGet K C name && findIn K (.ref C) name == some (some (.ref f)) && isFn K (.ref f) && keepIn K (.ref f)
noncomputable def methG (T : Nat → Option Addr) (name : Str) (σ : St) (x : V) : Option Addr := match x with
 | .inst C i => (nsAt σ i).bind fun kvs => cond (kvs.lookup name).isNone (T C) none
 | _ => none
theorem methG_inv {T : Nat → Option Addr} {name : Str} {σ : St} {x : V} {f : Addr} (h : methG T name σ x = some f) : ∃ C i kvs, x = .inst C i ∧ T C = some f ∧ σ[i]? = some (some (.ns kvs)) ∧ kvs.lookup name = none := by
 unfold methG at h
 split at h
 ·rename_i C i
  obtain ⟨kvs, h1, h2⟩ := Option.bind_eq_some_iff.mp h
  cases e : kvs.lookup name with
  | none => rw [e] at h2; exact ⟨C, i, kvs, rfl, h2, nsAt_inv h1, e⟩
  | some y => rw [e] at h2; cases h2
 ·cases h
noncomputable def methM (c : Ctx) (T : Nat → Option Addr) (name : Str) (a : ME V) (b : ME (List V)) : ME V := fun d ρ σ Q => a d ρ σ fun x σ => onS (methG T name σ x) fun f => b d ρ σ fun xs σ => CallT c (.ref f) d (x :: xs) σ Q
theorem sim_Meth {e : Expr} {name : Str} {T : Nat → Option Addr} {args : List Expr} {a : ME V} {b : ME (List V)} {apos pos : Pos} (ok : c.Ok) (ha : SimE c Γ e a) (hc : ∀ C f, T C = some f → methOk c.K C name f = true) (hb : SimEs c Γ args b)
  (hp : ∀ env, (backTo pos (starEach args env)).any (·.1) = false)
  (he : ∀ env, eval (.Call (.Attribute e name apos) args [] pos) env = (do
   let ov ← eval e env
   standAt apos.atName
   let (f, first) ← holding [ov] (getMethod ov name (do return (← importBound e env).getD true))
   callWith pos f first (backTo pos (starEach args env)) [])) : SimE c Γ (.Call (.Attribute e name apos) args [] pos) (methM c T name a b) := by
 intro A d X bs env F ρ σ μ s Q hA R E h
 rw [he]
 refine wpAny_bind (wp_seq (ha A d X bs env F ρ σ μ s _ hA R E h) fun u x σ₁ μ₁ s₁ q R₁ t₁ e₁ g₁ o₁ => wpAny_bind (wpAny_standAt (wpAny_bind (wpAny_holding ?_))))
 replace q := onS_inv q
 obtain ⟨f, hg, q⟩ := q
 obtain ⟨C, i, kvs, rfl, hT, g, hl⟩ := methG_inv hg
 obtain ⟨ad, rfl, go, ff, hi⟩ := t₁.inv
 cases R₁.obj _ _ g with | ns hn hx =>
 have hz := hx.get name
 rw [hl] at hz
 rename_i es' k'
 have hok := hc C f hT
 simp only [methOk, Bool.and_eq_true, beq_iff_eq] at hok
 obtain ⟨⟨⟨k1, k2⟩, k3⟩, k4⟩ := hok
 have I : InstAt s₁.heap ad (instObj C (μ₁ i)) C (some (dictOf es' k')) := ⟨go, rfl, rfl, hn⟩
 refine method_fn (ok.K.keeps R₁.base) I (plainGet_of k1).1 (plainGet_of k1).2 k2 (beq_iff_eq.mp k3) ?_ ?_
 ·show (lookIn name (dictOf es' k')).map _ = _
  rw [lookIn_dict, hz]; rfl
 ·exact wp_after e₁ g₁ o₁ (wp_callWith (first := [.ref ad]) (fs := [.inst C i]) ok k4 hb (hp env) hA R₁ (E.mono e₁) (.cons (.inst go ff hi) .nil) q)
noncomputable def tyP (σ : St) (x : V) : Option String := match x with
 | .fl _ => some "list"
 | .tup _ => some "tuple"
 | .int _ => some "int"
 | .str _ => some "str"
 | .ref i => match σ[i]? with
  | some (some (.list _)) => some "list"
  | some (some (.dict _)) => some "dict"
  | _ => none
 | _ => none
theorem tyP_is {X : Nat → Prop} {σ : St} {μ : Nat → Nat} {s : Shared} {u : Value} {x : V} {T : String} (R : Rel c X σ μ s.heap) (t : VRσ X σ μ s.heap u x) (h : tyP σ x = some T) : s.TypeIs u T ∧ ∀ a, u = .ref a → ∃ o, s.heap.get? a = some o ∧ o.dict = none := by
 cases x with
 | fl => cases h; obtain ⟨_, _, _, rfl, g, _, _⟩ := t.inv; exact ⟨⟨_, g, rfl⟩, fun a e => by cases e; exact ⟨_, g, rfl⟩⟩
 | tup => cases h; obtain ⟨_, _, rfl, g, _, _⟩ := t.inv; exact ⟨⟨_, g, rfl⟩, fun a e => by cases e; exact ⟨_, g, rfl⟩⟩
 | int => cases h; obtain ⟨_, rfl⟩ := t.inv; exact ⟨rfl, fun a e => by cases e⟩
 | str => cases h; obtain ⟨_, rfl⟩ := t.inv; exact ⟨rfl, fun a e => by cases e⟩
 | ref i =>
  obtain ⟨rfl, _⟩ := t.inv
  replace h : (match (σ[i]? : Option (Option AObj)) with | some (some (.list _)) => some "list" | some (some (.dict _)) => some "dict" | _ => none) = some T := h
  cases g : σ[i]? with
  | none => rw [g] at h; cases h
  | some o => rw [g] at h; cases o with
   | none => cases h
   | some o => cases o with
    | list => cases h; obtain ⟨_, _, g, _⟩ := (R.obj _ _ g).inv; exact ⟨⟨_, g, rfl⟩, fun a e => by cases e; exact ⟨_, g, rfl⟩⟩
    | dict => cases h; obtain ⟨_, _, g, _, _, _⟩ := (R.obj _ _ g).inv; exact ⟨⟨_, g, rfl⟩, fun a e => by cases e; exact ⟨_, g, rfl⟩⟩
    | ns => cases h
 | _ => cases h
noncomputable def bmethM (c : Ctx) (T id : String) (a : ME V) (b : ME (List V)) : ME V := fun d ρ σ Q => a d ρ σ fun x σ => onB (tyP σ x == some T) (b d ρ σ fun xs σ => CallT c (.builtin id) d (x :: xs) σ Q)
theorem sim_BMeth {e : Expr} {name : Str} {T id : String} {args : List Expr} {a : ME V} {b : ME (List V)} {apos pos : Pos} (ok : c.Ok) (ha : SimE c Γ e a) (pa : PlainAttrs T) (slot : Slot T name id) (hty : typeOf (.builtin id) = pure (.type "method_descriptor")) (hb : SimEs c Γ args b)
  (hp : ∀ env, (backTo pos (starEach args env)).any (·.1) = false)
  (he : ∀ env, eval (.Call (.Attribute e name apos) args [] pos) env = (do
   let ov ← eval e env
   standAt apos.atName
   let (f, first) ← holding [ov] (getMethod ov name (do return (← importBound e env).getD true))
   callWith pos f first (backTo pos (starEach args env)) [])) : SimE c Γ (.Call (.Attribute e name apos) args [] pos) (bmethM c T id a b) := by
 intro A d X bs env F ρ σ μ s Q hA R E h
 rw [he]
 refine wpAny_bind (wp_seq (ha A d X bs env F ρ σ μ s _ hA R E h) fun u x σ₁ μ₁ s₁ q R₁ t₁ e₁ g₁ o₁ => wpAny_bind (wpAny_standAt (wpAny_bind (wpAny_holding ?_))))
 replace q := onB_inv q
 obtain ⟨hT, q⟩ := q
 obtain ⟨h1, h2⟩ := tyP_is R₁ t₁ (eq_of_beq hT)
 refine getMethod_builtin h1 pa slot hty h2 ?_
 exact wp_after e₁ g₁ o₁ (wp_callWith (first := [u]) (fs := [x]) ok rfl hb (hp env) hA R₁ (E.mono e₁) (.cons t₁ .nil) q)
end
end
section
inductive Fl where
 | next
 | ret (v : V)
 | brk
 | cont
noncomputable abbrev MS := Nat → Env' → St → (Fl → Env' → St → Prop) → Prop
inductive FlR (X : Nat → Prop) (σ : St) (μ : Nat → Nat) (h : Heap) : Flow → Fl → Prop
 | next : FlR X σ μ h .next .next
 | ret {v : Value} {x : V} (t : VRσ X σ μ h v x) : FlR X σ μ h (.ret v) (.ret x)
 | brk : FlR X σ μ h .brk .brk
 | cont : FlR X σ μ h .cont .cont
noncomputable def Fb (F : Nat → Prop) (σ : St) (μ : Nat → Nat) (a : Nat) : Prop := Tr σ μ a ∨ F a
noncomputable abbrev Evf (F : Nat → Prop) (X : Nat → Prop) (σ : St) (μ : Nat → Nat) (h : Heap) (σ' : St) (μ' : Nat → Nat) (h' : Heap) : Prop := Evo h (Fb F σ μ) (Sx X σ μ) μ σ.length h' (Fb F σ' μ') (Sx X σ' μ') μ' σ'.length
theorem Evσ.toF {F X : Nat → Prop} {σ σ' : St} {μ μ' : Nat → Nat} {h h' : Heap} (ev : Evσ X σ μ h X σ' μ' h') (hF : ∀ a, F a → X a) : Evf F X σ μ h σ' μ' h' where
 keep a o f e := ev.keep a o (fun t => f (.inl t)) e
 live := ev.live
 tS a t := t.elim .inl fun f => .inr (hF a f)
 subT a t := t.elim (fun t => (ev.subT a t).imp .inl id) fun f => .inl (.inr f)
 sub := ev.sub
 mu := ev.mu
 le := ev.le
theorem Evf.refl {F X : Nat → Prop} {σ : St} {μ : Nat → Nat} {h : Heap} (hF : ∀ a, F a → X a) : Evf F X σ μ h σ μ h := (Evσ.refl X σ μ h).toF hF
inductive PostS (c : Ctx) (Γ : Gm) (bs : Nat) (env : Env) (F X : Nat → Prop) (σ : St) (μ : Nat → Nat) (s : Shared) (Q : Fl → Env' → St → Prop) (f : Flow) (s' : Shared) : Prop
 | mk (fl : Fl) (ρ' : Env') (σ' : St) (μ' : Nat → Nat) (q : Q fl ρ' σ') (R : Rel c X σ' μ' s'.heap) (t : FlR X σ' μ' s'.heap f fl) (e : Evf F X σ μ s.heap σ' μ' s'.heap) (E : EnvR c X Γ bs env F ρ' σ' μ' s'.heap) (g : s'.gens = s.gens) (o : s'.os = s.os) : PostS c Γ bs env F X σ μ s Q f s'
inductive PostA (c : Ctx) (Γ : Gm) (bs : Nat) (env : Env) (F X : Nat → Prop) (σ : St) (μ : Nat → Nat) (s : Shared) (Q : Env' → St → Prop) (u : Unit) (s' : Shared) : Prop
 | mk (ρ' : Env') (σ' : St) (μ' : Nat → Nat) (q : Q ρ' σ') (R : Rel c X σ' μ' s'.heap) (e : Evf F X σ μ s.heap σ' μ' s'.heap) (E : EnvR c X Γ bs env F ρ' σ' μ' s'.heap) (g : s'.gens = s.gens) (o : s'.os = s.os) : PostA c Γ bs env F X σ μ s Q u s'
section
variable {c : Ctx} {Γ : Gm} {bs : Nat} {env : Env} {F X : Nat → Prop} {σ σ₁ : St} {μ μ₁ : Nat → Nat} {s s₁ : Shared}
theorem PostS.after {Q : Fl → Env' → St → Prop} (ev : Evf F X σ μ s.heap σ₁ μ₁ s₁.heap) (g : s₁.gens = s.gens) (o : s₁.os = s.os) {f : Flow} {s' : Shared} (p : PostS c Γ bs env F X σ₁ μ₁ s₁ Q f s') : PostS c Γ bs env F X σ μ s Q f s' := by
 obtain ⟨fl, ρ', σ', μ', q, r, t, e, E, g', o'⟩ := p
 exact ⟨fl, ρ', σ', μ', q, r, t, ev.trans e, E, g'.trans g, o'.trans o⟩
theorem PostA.after {Q : Env' → St → Prop} (ev : Evf F X σ μ s.heap σ₁ μ₁ s₁.heap) (g : s₁.gens = s.gens) (o : s₁.os = s.os) {f : Unit} {s' : Shared} (p : PostA c Γ bs env F X σ₁ μ₁ s₁ Q f s') : PostA c Γ bs env F X σ μ s Q f s' := by
 obtain ⟨ρ', σ', μ', q, r, e, E, g', o'⟩ := p
 exact ⟨ρ', σ', μ', q, r, ev.trans e, E, g'.trans g, o'.trans o⟩
theorem wpS_after {A : Around} {t : Sem Flow} {Q : Fl → Env' → St → Prop} (ev : Evf F X σ μ s.heap σ₁ μ₁ s₁.heap) (g : s₁.gens = s.gens) (o : s₁.os = s.os) (h : wpAny c.M A t (PostS c Γ bs env F X σ₁ μ₁ s₁ Q) Bot s₁) : wpAny c.M A t (PostS c Γ bs env F X σ μ s Q) Bot s₁ :=
 wpAny_mono h (fun _ _ p => p.after ev g o) fun _ _ h => h
theorem wpA_after {A : Around} {t : Sem Unit} {Q : Env' → St → Prop} (ev : Evf F X σ μ s.heap σ₁ μ₁ s₁.heap) (g : s₁.gens = s.gens) (o : s₁.os = s.os) (h : wpAny c.M A t (PostA c Γ bs env F X σ₁ μ₁ s₁ Q) Bot s₁) : wpAny c.M A t (PostA c Γ bs env F X σ μ s Q) Bot s₁ :=
 wpAny_mono h (fun _ _ p => p.after ev g o) fun _ _ h => h
theorem wpS_seq {A : Around} {t : Sem Flow} {Q : Fl → Env' → St → Prop} {P : Flow → Shared → Prop} (h : wpAny c.M A t (PostS c Γ bs env F X σ μ s Q) Bot s)
  (k : ∀ f fl ρ₁ σ₁ μ₁ s₁, Q fl ρ₁ σ₁ → Rel c X σ₁ μ₁ s₁.heap → FlR X σ₁ μ₁ s₁.heap f fl → Evf F X σ μ s.heap σ₁ μ₁ s₁.heap → EnvR c X Γ bs env F ρ₁ σ₁ μ₁ s₁.heap → s₁.gens = s.gens → s₁.os = s.os → P f s₁) : wpAny c.M A t P Bot s :=
 wpAny_mono h (fun _ _ ⟨fl, ρ₁, σ₁, μ₁, q, r, t, e, E, g, o⟩ => k _ fl ρ₁ σ₁ μ₁ _ q r t e E g o) fun _ _ h => h
theorem wpA_seq {A : Around} {t : Sem Unit} {Q : Env' → St → Prop} {P : Unit → Shared → Prop} (h : wpAny c.M A t (PostA c Γ bs env F X σ μ s Q) Bot s)
  (k : ∀ f ρ₁ σ₁ μ₁ s₁, Q ρ₁ σ₁ → Rel c X σ₁ μ₁ s₁.heap → Evf F X σ μ s.heap σ₁ μ₁ s₁.heap → EnvR c X Γ bs env F ρ₁ σ₁ μ₁ s₁.heap → s₁.gens = s.gens → s₁.os = s.os → P f s₁) : wpAny c.M A t P Bot s :=
 wpAny_mono h (fun _ _ ⟨ρ₁, σ₁, μ₁, q, r, e, E, g, o⟩ => k _ ρ₁ σ₁ μ₁ _ q r e E g o) fun _ _ h => h
theorem Evf.own {a : Addr} {h h' : Heap} (hF : ∀ a, F a → X a) (ha : F a) (hs : Heap.SameBut a h h') (hlive : ∃ o, h'.get? a = some o) : Evf F X σ μ h σ μ h' where
 keep b o f e := (hs.2 b fun z => f (.inr (z ▸ ha))).trans e
 live b o e := by
  by_cases z : b = a
  ·exact z ▸ hlive
  ·exact ⟨o, (hs.2 b z).trans e⟩
 tS b t := t.elim .inl fun f => .inr (hF b f)
 subT b t := .inl t
 sub b t := .inl t
 mu _ _ := rfl
 le := Nat.le_refl _
theorem wp_store {A : Around} {ρ : Env'} {x : Str} {i : Nat} {v : Value} {y : V} {Q : Env' → St → Prop} (R : Rel c X σ μ s.heap) (E : EnvR c X Γ bs env F ρ σ μ s.heap) (hx : Γ.lookup x = some (some i)) (hi : bs ≤ i) (t : VRσ X σ μ s.heap v y)
  (q : Q (ρ.set i (some y)) σ) : wpAny c.M A (storeName env x v) (PostA c Γ bs env F X σ μ s Q) Bot s := by
 have hbeside : ∀ {a : Addr} {h' : Heap}, F a → Heap.SameBut a s.heap h' → ∀ v x, VRσ X σ μ s.heap v x → VRσ X σ μ h' v x := fun ha hs v x t => t.beside hs (.inr (E.fx _ ha))
 have set_get : ∀ {j : Nat} {V : V}, (ρ.set i (some y))[j]? = some (some V) → (j = i ∧ V = y) ∨ (j ≠ i ∧ ρ[j]? = some (some V)) := fun {j V} e => by
  by_cases z : i = j
  ·subst z
   by_cases hl : i < ρ.length
   ·rw [List.getElem?_set_self hl] at e; cases e; exact .inl ⟨rfl, rfl⟩
   ·rw [List.getElem?_eq_none (by simp; lia)] at e; cases e
  ·rw [List.getElem?_set_ne z] at e; exact .inr ⟨fun w => z w.symm, e⟩
 rcases E.ce x i hx with hk | ⟨hk, a, ov, ha, hc, hv, ht, hal, hf⟩
 ·obtain ⟨m, hm, hlo⟩ := E.lo
  refine wpAny_storeName_local hk hm (fun h' hn' hs => ?_) (by rw [E.kind]; rfl)
  obtain ⟨f1, f2, f3⟩ := E.fr _ E.own
  obtain ⟨o', _, _, hlive, _⟩ := id hn'
  have mono := hbeside E.own hs
  refine ⟨_, σ, μ, q, R.beside hs f1 f2 ⟨o', hlive⟩ mono, Evf.own E.fx E.own hs ⟨o', hlive⟩, ?_, rfl, rfl⟩
  refine ⟨E.kind, E.glob, E.blt, E.gl, E.slots, ⟨_, hn', fun z j hz hkz V hV => ?_⟩, fun z j hz => ?_, E.ap, E.own, E.fx, fun b hb => ?_, E.ck, E.fn⟩
  ·rcases set_get hV with ⟨rfl, rfl⟩ | ⟨hne, hV⟩
   ·have := E.slots z x j hz hx; subst this
    exact ⟨v, by simp, mono _ _ t⟩
   ·have hzx : z ≠ x := fun e => hne (by subst e; rw [hx] at hz; injection hz with hz; injection hz with hz; exact hz.symm)
    obtain ⟨w, e, r⟩ := hlo z j hz hkz V hV
    exact ⟨w, by simp [hzx, e], mono _ _ r⟩
  ·rcases E.ce z j hz with hkz | ⟨hkz, a, ov, ha, hc, hv, ht, hal, hf⟩
   ·exact .loc hkz
   ·by_cases hzx : z = x
    ·subst hzx; exact .loc hk
    ·refine .cell hkz a ov ha (hc.sameBut hs hal) (fun V hV => ?_) ht hal hf
     rcases set_get hV with ⟨rfl, rfl⟩ | ⟨hne, hV⟩
     ·exact absurd (E.slots z x j hz hx) hzx
     ·obtain ⟨w, e, r⟩ := hv V hV; exact ⟨w, e, mono _ _ r⟩
  ·obtain ⟨g1, g2, o, g3⟩ := E.fr b hb
   refine ⟨g1, g2, ?_⟩
   by_cases z : b = env.locals
   ·exact ⟨o', z ▸ hlive⟩
   ·exact ⟨o, (hs.2 b z).trans g3⟩
 ·obtain ⟨hk, hFa⟩ := hf hi
  refine wpAny_storeName_cell E.kind hk ha hc fun h' hc' hs => ?_
  obtain ⟨f1, f2, f3⟩ := E.fr _ hFa
  obtain ⟨o', hlive, _⟩ := id hc'
  have mono := hbeside hFa hs
  refine ⟨_, σ, μ, q, R.beside hs f1 f2 ⟨o', hlive⟩ mono, Evf.own E.fx hFa hs ⟨o', hlive⟩, ?_, rfl, rfl⟩
  obtain ⟨m, hm, hlo⟩ := E.lo
  refine ⟨E.kind, E.glob, E.blt, E.gl, E.slots, ⟨m, hm.sameBut hs (Ne.symm hal), fun z j hz hkz V hV => ?_⟩, fun z j hz => ?_, E.ap, E.own, E.fx, fun b hb => ?_, E.ck, E.fn⟩
  ·rcases set_get hV with ⟨rfl, rfl⟩ | ⟨hne, hV⟩
   ·have := E.slots z x j hz hx; subst this
    rw [hk] at hkz; cases hkz
   ·obtain ⟨w, e, r⟩ := hlo z j hz hkz V hV
    exact ⟨w, e, mono _ _ r⟩
  ·rcases E.ce z j hz with hkz | ⟨hkz, b, ob, hb, hcb, hvb, htb, hbl, hfb⟩
   ·exact .loc hkz
   ·by_cases hzx : z = x
    ·subst hzx
     rw [ha] at hb; cases hb
     refine .cell hkz a (some v) ha hc' (fun V hV => ?_) htb hbl hfb
     rcases set_get hV with ⟨_, rfl⟩ | ⟨hne, hV⟩
     ·exact ⟨v, rfl, mono _ _ t⟩
     ·rw [hx] at hz; injection hz with hz; injection hz with hz; exact absurd hz.symm hne
    ·have hba : b ≠ a := fun e => hzx (E.ap z x a (e ▸ hb) ha)
     refine .cell hkz b ob hb (hcb.sameBut hs hba) (fun V hV => ?_) htb hbl hfb
     rcases set_get hV with ⟨rfl, rfl⟩ | ⟨hne, hV⟩
     ·exact absurd (E.slots z x j hz hx) hzx
     ·obtain ⟨w, e, r⟩ := hvb V hV; exact ⟨w, e, mono _ _ r⟩
  ·obtain ⟨g1, g2, o, g3⟩ := E.fr b hb
   refine ⟨g1, g2, ?_⟩
   by_cases z : b = a
   ·exact ⟨o', z ▸ hlive⟩
   ·exact ⟨o, (hs.2 b z).trans g3⟩
end
end
section
noncomputable abbrev MA := Nat → Env' → V → St → (Env' → St → Prop) → Prop
noncomputable def SimS (c : Ctx) (Γ : Gm) (bs : Nat) (st : Stmt) (m : MS) : Prop := ∀ A d X env F ρ σ μ s Q, Room A d → Rel c X σ μ s.heap → EnvR c X Γ bs env F ρ σ μ s.heap → m d ρ σ Q → wpAny c.M A (exec st env) (PostS c Γ bs env F X σ μ s Q) Bot s
noncomputable def SimB (c : Ctx) (Γ : Gm) (bs : Nat) (st : List Stmt) (m : MS) : Prop := ∀ A d X env F ρ σ μ s Q, Room A d → Rel c X σ μ s.heap → EnvR c X Γ bs env F ρ σ μ s.heap → m d ρ σ Q → wpAny c.M A (execs st env) (PostS c Γ bs env F X σ μ s Q) Bot s
noncomputable def SimA (c : Ctx) (Γ : Gm) (bs : Nat) (t : Expr) (m : MA) : Prop := ∀ A d X env F ρ σ μ s v x Q, Room A d → Rel c X σ μ s.heap → EnvR c X Γ bs env F ρ σ μ s.heap → VRσ X σ μ s.heap v x → m d ρ x σ Q → wpAny c.M A (assign t env v) (PostA c Γ bs env F X σ μ s Q) Bot s
section
variable {c : Ctx} {Γ : Gm} {bs : Nat}
noncomputable def skipM : MS := fun _ ρ σ Q => Q .next ρ σ
noncomputable def seqM (a b : MS) : MS := fun d ρ σ Q => a d ρ σ fun fl ρ σ => match fl with
 | .next => b d ρ σ Q
 | fl => Q fl ρ σ
theorem simB_nil : SimB c Γ bs [] skipM := fun _ _ _ _ _ _ _ _ _ _ _ R E h => wpAny_execs_nil ⟨_, _, _, _, h, R, .next, Evf.refl E.fx, E, rfl, rfl⟩
theorem simB_cons {st : Stmt} {rest : List Stmt} {a b : MS} (ha : SimS c Γ bs st a) (hb : SimB c Γ bs rest b) : SimB c Γ bs (st :: rest) (seqM a b) := by
 intro A d X env F ρ σ μ s Q hA R E h
 refine wpAny_execs_cons (wpS_seq (ha A d X env F ρ σ μ s _ hA R E h) fun f fl ρ₁ σ₁ μ₁ s₁ q R₁ t₁ e₁ E₁ g₁ o₁ => ?_)
 cases t₁ with
 | next => exact wpS_after e₁ g₁ o₁ (hb A d X env F ρ₁ σ₁ μ₁ s₁ _ hA R₁ E₁ q)
 | ret t => exact ⟨_, _, _, _, q, R₁, .ret t, e₁, E₁, g₁, o₁⟩
 | brk => exact ⟨_, _, _, _, q, R₁, .brk, e₁, E₁, g₁, o₁⟩
 | cont => exact ⟨_, _, _, _, q, R₁, .cont, e₁, E₁, g₁, o₁⟩
noncomputable def retM (a : ME V) : MS := fun d ρ σ Q => a d ρ σ fun x σ => Q (.ret x) ρ σ
theorem sim_Return {e : Expr} {a : ME V} {pos : Pos} (ha : SimE c Γ e a) : SimS c Γ bs (.Return (some e) pos) (retM a) := by
 intro A d X env F ρ σ μ s Q hA R E h
 exact wpAny_Return_some (wp_seq (ha A d X bs env F ρ σ μ s _ hA R E h) fun u x σ₁ μ₁ s₁ q R₁ t₁ e₁ g₁ o₁ => ⟨_, _, _, _, q, R₁, .ret t₁, e₁.toF E.fx, E.mono e₁, g₁, o₁⟩)
noncomputable def ret0M : MS := fun _ ρ σ Q => Q (.ret .none) ρ σ
theorem sim_Return0 {pos : Pos} : SimS c Γ bs (.Return none pos) ret0M := fun A d X env F ρ σ μ s Q hA R E h => wpAny_Return_none ⟨_, _, _, _, h, R, .ret .none, Evf.refl E.fx, E, rfl, rfl⟩
noncomputable def brkM : MS := fun _ ρ σ Q => Q .brk ρ σ
noncomputable def contM : MS := fun _ ρ σ Q => Q .cont ρ σ
theorem sim_Break {pos : Pos} : SimS c Γ bs (.Break pos) brkM := fun A d X env F ρ σ μ s Q hA R E h => wpAny_Break ⟨_, _, _, _, h, R, .brk, Evf.refl E.fx, E, rfl, rfl⟩
theorem sim_Continue {pos : Pos} : SimS c Γ bs (.Continue pos) contM := fun A d X env F ρ σ μ s Q hA R E h => wpAny_Continue ⟨_, _, _, _, h, R, .cont, Evf.refl E.fx, E, rfl, rfl⟩
noncomputable def exprM (a : ME V) : MS := fun d ρ σ Q => a d ρ σ fun _ σ => Q .next ρ σ
theorem sim_Expr {e : Expr} {a : ME V} {pos : Pos} (ha : SimE c Γ e a) (hs : ∀ env, swapsWith e none pos.line env = pure false) : SimS c Γ bs (.Expr e pos) (exprM a) := by
 intro A d X env F ρ σ μ s Q hA R E h
 refine wpAny_Expr_any (wp_seq (ha A d X bs env F ρ σ μ s _ hA R E h) fun u x σ₁ μ₁ s₁ q R₁ t₁ e₁ g₁ o₁ => ⟨_, _, _, _, q, R₁, .next, e₁.toF E.fx, E.mono e₁, g₁, o₁⟩) (by unfold interactive; rw [E.kind]; rfl) (hs env)
noncomputable def ifM (t : ME Bool) (a b : MS) : MS := fun d ρ σ Q => t d ρ σ fun z σ => if z then a d ρ σ Q else b d ρ σ Q
theorem sim_If {t : Expr} {body orelse : List Stmt} {mt : ME Bool} {ma mb : MS} {pos : Pos} (ht : SimT c Γ t mt) (ha : SimB c Γ bs body ma) (hb : SimB c Γ bs orelse mb) : SimS c Γ bs (.If t body orelse pos) (ifM mt ma mb) := by
 intro A d X env F ρ σ μ s Q hA R E h
 refine wpAny_If (wp_seq (ht A d X bs env F ρ σ μ s _ hA R E h) fun u x σ₁ μ₁ s₁ q R₁ t₁ e₁ g₁ o₁ => ?_)
 cases t₁
 cases u
 ·exact wpS_after (e₁.toF E.fx) g₁ o₁ (hb A d X env F ρ σ₁ μ₁ s₁ _ hA R₁ (E.mono e₁) q)
 ·exact wpS_after (e₁.toF E.fx) g₁ o₁ (ha A d X env F ρ σ₁ μ₁ s₁ _ hA R₁ (E.mono e₁) q)
noncomputable def nmA (i : Nat) : MA := fun _ ρ x σ Q => Q (ρ.set i (some x)) σ
theorem simA_Name {x : Str} {i : Nat} {pos : Pos} (hx : Γ.lookup x = some (some i)) (hi : bs ≤ i) : SimA c Γ bs (.Name x pos) (nmA i) :=
 fun A d X env F ρ σ μ s v x Q hA R E t h => wpAny_assign_Name (wp_store R E hx hi t h)
noncomputable def asgM (t : MA) (a : ME V) : MS := fun d ρ σ Q => a d ρ σ fun x σ => t d ρ x σ fun ρ σ => Q .next ρ σ
theorem sim_Assign {t value : Expr} {mt : MA} {a : ME V} {pos : Pos} (ht : SimA c Γ bs t mt) (ha : SimE c Γ value a) (hs : ∀ env, swapsWithSole [t] value pos.line env = pure false) (hw : ∀ env, swappedStores [t] value env = pure none)
  (he : ∀ env, (assignEach [t] env).map (·.2) = [assign t env]) : SimS c Γ bs (.Assign [t] value pos) (asgM mt a) := by
 intro A d X env F ρ σ μ s Q hA R E h
 refine wpAny_Assign_stores (wp_seq (ha A d X bs env F ρ σ μ s _ hA R E h) fun u x σ₁ μ₁ s₁ q R₁ t₁ e₁ g₁ o₁ => ?_) (hs env) (hw env)
 rw [he]
 refine wpA_seq (ht A d X env F ρ σ₁ μ₁ s₁ u x _ hA R₁ (E.mono e₁) t₁ q) fun _ ρ₂ σ₂ μ₂ s₂ q₂ R₂ e₂ E₂ g₂ o₂ => ?_
 exact ⟨_, _, _, _, q₂, R₂, .next, (e₁.toF E.fx).trans e₂, E₂, g₂.trans g₁, o₂.trans o₁⟩
noncomputable def setP (σ : St) (x i v : V) (k : St → Prop) : Prop := match x with
 | .ref j => match σ[j]? with
  | some (some (.dict kvs)) => keyP kvs i ∧ k (σ.set j (some (.dict (dset kvs i v))))
  | _ => False
 | _ => False
noncomputable def subA (a b : ME V) : MA := fun d ρ v σ Q => a d ρ σ fun x σ => b d ρ σ fun i σ => setP σ x i v fun σ => Q ρ σ
theorem simA_Sub {e i : Expr} {a b : ME V} {pos : Pos} (ha : SimE c Γ e a) (hb : SimE c Γ i b) : SimA c Γ bs (.Subscript e i pos) (subA a b) := by
 intro A d X env F ρ σ μ s v y Q hA R E t h
 have hu := hA.units
 rw [arm_assign_Subscript]
 refine wpAny_bind (wpAny_holding (wp_seq (ha A d X bs env F ρ σ μ s _ hA R E h) fun u x σ₁ μ₁ s₁ q R₁ t₁ e₁ g₁ o₁ => wpAny_bind (wpAny_holding (wp_seq (hb A d X bs env F ρ σ₁ μ₁ s₁ _ hA R₁ (E.mono e₁) q) fun w z σ₂ μ₂ s₂ q₂ R₂ t₂ e₂ g₂ o₂ => ?_))))
 refine wpAny_bind (wpAny_standAt ?_)
 unfold setP at q₂
 split at q₂
 ·cases t₁
  split at q₂
  ·rename_i g
   refine wpAny_bind (wpAny_holding ?_)
   rw [← e₂.mu _ (by assumption)]
   refine wp_seq (wp_dictSet (Q := fun _ σ => Q ρ σ) R₂ (by lia) g t₂ ((t.mono e₁).mono e₂) q₂.1 q₂.2) fun _ _ σ₃ μ₃ s₃ q₃ R₃ _ e₃ g₃ o₃ => ?_
   have ev := e₁.trans (e₂.trans e₃)
   exact wpAny_release ⟨_, _, _, q₃, R₃, Evσ.toF ev E.fx, E.mono ev, g₃.trans (g₂.trans g₁), o₃.trans (o₂.trans o₁)⟩
  ·exact q₂.elim
 ·exact q₂.elim
noncomputable def nput : List (Str × V) → Str → V → List (Str × V)
 | [], x, y => [(x, y)]
 | (z, w) :: r, x, y => if x == z then (x, y) :: r else (z, w) :: nput r x y
theorem NR.put {h : Heap} {S : Nat → Prop} {μ : Nat → Nat} {n : Nat} {es : List DictEntry} {kvs : List (Str × V)} (x : NR h S μ n es kvs) (name : Str) (hsh : Int) (tk : Tok) {v : Value} {y : V} (t : VR h S μ n v y) : NR h S μ n (putL name hsh (.str name tk) v es) (nput kvs name y) := by
 induction x with
 | nil => exact .cons rfl t .nil
 | @cons e k tk' x es kvs a b r ih =>
  have hi : e.key.isStr name = (k == name) := by rw [a]; rfl
  unfold putL nput
  rw [hi]
  by_cases h : k = name
  ·subst h; simp only [beq_self_eq_true, if_true]; exact .cons a t r
  ·rw [beq_eq_false_iff_ne.mpr h, beq_eq_false_iff_ne.mpr fun e => h e.symm]; simp only [Bool.false_eq_true, if_false]; exact .cons a b ih
theorem NR.length {h : Heap} {S : Nat → Prop} {μ : Nat → Nat} {n : Nat} {es : List DictEntry} {kvs : List (Str × V)} (x : NR h S μ n es kvs) : es.length = kvs.length := by
 induction x with
 | nil => rfl
 | cons _ _ _ ih => simp [ih]
theorem NR.noref {h : Heap} {S : Nat → Prop} {μ : Nat → Nat} {n : Nat} {es : List DictEntry} {kvs : List (Str × V)} (x : NR h S μ n es kvs) : es.any (·.refKey) = false := by
 induction x with
 | nil => rfl
 | cons a _ _ ih => rw [List.any_cons, ih]; simp [DictEntry.refKey, a]
noncomputable def setOk (K : Frag) (C : Addr) (name : Str) : Bool := findIn K (.ref C) "__setattr__" == some (some (.builtin "object.__setattr__")) && plainOver K C && takerIn K C name == some none && (clsIn K C).any (·.hasDict)
noncomputable def attrS (P : Nat → Bool) (σ : St) (x : V) : Option (Nat × List (Str × V)) := match x with
 | .inst C i => cond (P C) ((nsAt σ i).bind fun kvs => cond (Nat.ble kvs.length 1000) (some (i, kvs)) none) none
 | _ => none
theorem attrS_inv {P : Nat → Bool} {σ : St} {x : V} {p : Nat × List (Str × V)} (h : attrS P σ x = some p) : ∃ C, x = .inst C p.1 ∧ P C = true ∧ σ[p.1]? = some (some (.ns p.2)) ∧ p.2.length ≤ 1000 := by
 unfold attrS at h
 split at h
 ·rename_i C i
  cases e : P C with
  | false => rw [e] at h; cases h
  | true =>
   rw [e] at h
   obtain ⟨kvs, h1, h2⟩ := Option.bind_eq_some_iff.mp h
   cases e2 : Nat.ble kvs.length 1000 with
   | false => rw [e2] at h2; cases h2
   | true => rw [e2] at h2; cases h2; exact ⟨C, rfl, e, nsAt_inv h1, Nat.le_of_ble_eq_true e2⟩
 ·cases h
noncomputable def attrA (P : Nat → Bool) (name : Str) (a : ME V) : MA := fun d ρ v σ Q => a d ρ σ fun x σ => ∃ p, attrS P σ x = some p ∧ Q ρ (σ.set p.1 (some (.ns (nput p.2 name v))))
theorem simA_Attr {e : Expr} {name : Str} {a : ME V} {P : Nat → Bool} {pos : Pos} (ok : c.Ok) (ha : SimE c Γ e a) (hc : ∀ C, P C = true → setOk c.K C name = true) : SimA c Γ bs (.Attribute e name pos) (attrA P name a) := by
 intro A d X env F ρ σ μ s v y Q hA R E t h
 rw [arm_assign_Attribute]
 refine wpAny_bind (wpAny_holding (wp_seq (ha A d X bs env F ρ σ μ s _ hA R E h) fun u x σ₁ μ₁ s₁ q R₁ t₁ e₁ g₁ o₁ => wpAny_bind (wpAny_standAt ?_)))
 obtain ⟨⟨i, kvs⟩, hg, q⟩ := q
 obtain ⟨C, rfl, hP, g, hlen⟩ := attrS_inv hg
 dsimp only at g hlen q
 obtain ⟨ad, rfl, go, f, hl⟩ := t₁.inv
 cases R₁.obj _ _ g with | @ns es k _ hn hx =>
 have hok := hc C hP
 simp only [setOk, Bool.and_eq_true, beq_iff_eq] at hok
 obtain ⟨⟨⟨k1, k2⟩, k3⟩, k4⟩ := hok
 have I : InstAt s₁.heap ad (instObj C (μ₁ i)) C (some (dictOf es k)) := ⟨go, rfl, rfl, hn⟩
 have XK := ok.K.keeps R₁.base
 obtain ⟨cd, hcd, hcd'⟩ := any_some k4
 have hpn : Obj.putName name (PyData.keyHash c.w.params name) (.str name (s₁.toks + 1)) v (dictO es k) = dictOf (putL name (PyData.keyHash c.w.params name) (.str name (s₁.toks + 1)) v es) (putN name es k) := putName_dict ..
 have hpl := (hx.put name (PyData.keyHash c.w.params name) (s₁.toks + 1) (t.mono e₁)).length
 have hnl : ∀ (kvs : List (Str × V)), (nput kvs name y).length ≤ kvs.length + 1 := fun kvs => by
  induction kvs with
  | nil => simp [nput]
  | cons p r ih => unfold nput; split <;> simp; exact ih
 have hnl' := hnl kvs
 have hlive : (s₁.heap.update (μ₁ i) (Obj.putName name (PyData.keyHash c.w.params name) (.str name (s₁.toks + 1)) v)).get? (μ₁ i) = some (dictOf (putL name (PyData.keyHash c.w.params name) (.str name (s₁.toks + 1)) v es) (putN name es k)) := by
  rw [Heap.get?_update_self _ hn (by rw [hpn]; rfl), hpn]
 refine wpAny_bind (wpAny_holding (set_plain XK I k1 (osa_open (s := { s₁ with toks := s₁.toks + 1 }) XK I k2 k3 fun b => ?_)))
 refine wpAny_bind (wpAny_pure (wpAny_bind (wpAny_bind (wpAny_loadPart (s := { s₁ with toks := s₁.toks + 1 }) go (wpAny_bind (Looks.here (s := { s₁ with toks := s₁.toks + 1 }) (looks_clsIn XK hcd) ?_))))))
 rw [hcd']
 refine wpAny_pure (a := some (μ₁ i)) (wpAny_bind (wpAny_pure (wpAny_bind ?_)))
 unfold nsSet
 refine wpAny_bind (wpAny_bind (wpAny_askSetting (wpAny_pure (wpAny_bind (wpAny_mkText (wpAny_bind (wpAny_loadPart (s := { s₁ with toks := s₁.toks + 1 + 1 }) hn ?_)))))))
 dsimp only [dictO]
 have c0 : (!es.toArray.any (·.key.isStr name) && es.toArray.any (·.refKey)) = false := by
  rw [List.any_toArray, List.any_toArray, hx.noref, Bool.and_false]
 rw [aRefKeyMayBeTheName_at, c0]
 refine wpAny_updatePart (s := { s₁ with toks := s₁.toks + 1 + 1 }) hn ?_
 refine wpAny_bind (wpAny_lookBehind (s := { s₁ with heap := s₁.heap.update (μ₁ i) (Obj.putName name (PyData.keyHash c.w.params name) (.str name (s₁.toks + 1)) v), toks := s₁.toks + 1 + 1 }) hlive (pastItsLine_dict (by rw [List.size_toArray, sizeLine_eq]; lia)) ?_)
 refine wpAny_pure (wpAny_release ?_)
 have hs : Heap.SameBut (μ₁ i) s₁.heap (s₁.heap.update (μ₁ i) (Obj.putName name (PyData.keyHash c.w.params name) (.str name (s₁.toks + 1)) v)) := Heap.SameBut.update ..
 have r := R₁.upd (p := .ns (nput kvs name y)) g hs ⟨_, hlive⟩ fun ev => .ns hlive ((hx.mono ev).put name _ _ ((t.mono e₁).mono ev))
 have ev := e₁.trans r.2
 exact ⟨_, _, _, q, r.1, Evσ.toF ev E.fx, E.mono ev, g₁, o₁⟩
end
end
section
noncomputable def scopeOk (Γ : Gm) (names : List (Str × NameKind)) (params : List Str) : Bool :=
 Γ.ck.all (fun x => names.lookup x == some .cell) && Γ.sl.all (fun p => match Γ.lookup p.1 with
  | some (some i) => (names.lookup p.1 == some .local || names.lookup p.1 == some .cell) && Γ.sl.all (fun q => match Γ.lookup q.1 with
    | some (some j) => i != j || p.1 == q.1
    | _ => true)
  | some none => names.lookup p.1 == some .globalImplicit
  | none => true) && (List.range params.length).all (fun i => match params[i]? with
  | some p => Γ.lookup p == some (some i)
  | none => true)
section
variable {Γ : Gm} {names : List (Str × NameKind)} {params : List Str}
theorem mem_lookup {α : Type} {l : List (Str × α)} {x : Str} {y : α} (h : l.lookup x = some y) : ∃ p ∈ l, p.1 = x := ⟨_, mem_of_lookup h, rfl⟩
theorem scopeOk_ck (h : scopeOk Γ names params = true) {x : Str} (hx : x ∈ Γ.ck) : names.lookup x = some .cell := by
 simp only [scopeOk, Bool.and_eq_true] at h
 have := List.all_eq_true.mp h.1.1 x hx
 simpa using this
theorem scopeOk_slot (h : scopeOk Γ names params = true) {x : Str} {i : Nat} (hx : Γ.lookup x = some (some i)) : names.lookup x = some .local ∨ names.lookup x = some .cell := by
 simp only [scopeOk, Bool.and_eq_true] at h
 obtain ⟨p, hp, rfl⟩ := mem_lookup hx
 have := List.all_eq_true.mp h.1.2 p hp
 rw [hx] at this
 simp only [Bool.and_eq_true, Bool.or_eq_true, beq_iff_eq] at this
 exact this.1
theorem scopeOk_glob (h : scopeOk Γ names params = true) {x : Str} (hx : Γ.lookup x = some none) : names.lookup x = some .globalImplicit := by
 simp only [scopeOk, Bool.and_eq_true] at h
 obtain ⟨p, hp, rfl⟩ := mem_lookup hx
 have := List.all_eq_true.mp h.1.2 p hp
 rw [hx] at this
 simpa using this
theorem scopeOk_inj (h : scopeOk Γ names params = true) {x y : Str} {i : Nat} (hx : Γ.lookup x = some (some i)) (hy : Γ.lookup y = some (some i)) : x = y := by
 simp only [scopeOk, Bool.and_eq_true] at h
 obtain ⟨p, hp, rfl⟩ := mem_lookup hx
 obtain ⟨q, hq, rfl⟩ := mem_lookup hy
 have := List.all_eq_true.mp h.1.2 p hp
 rw [hx] at this
 simp only [Bool.and_eq_true] at this
 have := List.all_eq_true.mp this.2 q hq
 rw [hy] at this
 simpa using this
theorem scopeOk_par (h : scopeOk Γ names params = true) {p : Str} {i : Nat} (hp : params[i]? = some p) : Γ.lookup p = some (some i) := by
 simp only [scopeOk, Bool.and_eq_true] at h
 have := List.all_eq_true.mp h.2 i (List.mem_range.mpr (List.getElem?_eq_some_iff.mp hp).1)
 rw [hp] at this
 simpa using this
end
theorem cellsFrom_acc : ∀ (names : List (Str × NameKind)) (n : Nat) (acc : List (Str × Addr)) (x : Str), (acc.lookup x).isSome = true → ((cellsFrom n names acc).lookup x).isSome = true
 | [], _, _, _, h => h
 | (y, k) :: r, n, acc, x, h => by
  unfold cellsFrom
  split
  ·refine cellsFrom_acc r _ _ x ?_
   rw [List.lookup_cons]; split <;> simp_all
  ·exact cellsFrom_acc r _ _ x h
theorem cellsFrom_some : ∀ (names : List (Str × NameKind)) (n : Nat) (acc : List (Str × Addr)) (x : Str), names.lookup x = some .cell → ((cellsFrom n names acc).lookup x).isSome = true
 | [], _, _, _, h => by cases h
 | (y, k) :: r, n, acc, x, h => by
  rw [List.lookup_cons] at h
  unfold cellsFrom
  split at h
  ·rename_i hx
   have hx := eq_of_beq hx; subst hx
   cases h
   rw [if_pos (by decide)]
   exact cellsFrom_acc r _ _ x (by simp)
  ·split
   ·exact cellsFrom_some r _ _ x h
   ·exact cellsFrom_some r _ _ x h
section
variable {kindOf : Str → Option NameKind}
theorem bindL_ne : ∀ (bs : List (Str × Value)) (m : Str → Option Value) (x : Str), (∀ p ∈ bs, p.1 ≠ x) → bindL kindOf bs m x = m x
 | [], _, _, _ => rfl
 | (y, v) :: r, m, x, h => by
  unfold bindL
  rw [bindL_ne r _ x fun p hp => h p (List.mem_cons_of_mem _ hp)]
  split
  ·exact if_neg fun e => h (y, v) List.mem_cons_self (Eq.symm e)
  ·rfl
theorem bindC_ne : ∀ (bs : List (Str × Value)) (m : Str → Option Value) (x : Str), (∀ p ∈ bs, p.1 ≠ x) → bindC kindOf bs m x = m x
 | [], _, _, _ => rfl
 | (y, v) :: r, m, x, h => by
  unfold bindC
  rw [bindC_ne r _ x fun p hp => h p (List.mem_cons_of_mem _ hp)]
  split
  ·rfl
  ·exact if_neg fun e => h (y, v) List.mem_cons_self (Eq.symm e)
theorem bindL_at : ∀ (ps : List Str) (vs : List Value) (m : Str → Option Value) (i : Nat) (p : Str) (v : Value), ps[i]? = some p → vs[i]? = some v → (∀ i j : Nat, ps[i]? = some p → ps[j]? = some p → i = j) → kindOf p = some .local → bindL kindOf (ps.zip vs) m p = some v
 | [], _, _, _, _, _, h, _, _, _ => by simp at h
 | _ :: _, [], _, _, _, _, _, h, _, _ => by simp at h
 | q :: ps, w :: vs, m, 0, p, v, hp, hv, hi, hk => by
  simp at hp hv; subst hp hv
  rw [List.zip_cons_cons]
  unfold bindL
  rw [bindL_ne, if_pos hk]
  ·simp
  ·intro r hr e
   obtain ⟨j, hj⟩ := List.getElem?_of_mem hr
   have : ps[j]? = some r.1 := by
    have := List.getElem?_zip_eq_some.mp (show (ps.zip vs)[j]? = some (r.1, r.2) from hj)
    exact this.1
   have := hi 0 (j + 1) (by simp) (by simpa [e] using this)
   lia
 | q :: ps, w :: vs, m, i + 1, p, v, hp, hv, hi, hk => by
  rw [List.zip_cons_cons]
  unfold bindL
  exact bindL_at ps vs _ i p v (by simpa using hp) (by simpa using hv) (fun a b ha hb => by have := hi (a + 1) (b + 1) (by simpa using ha) (by simpa using hb); lia) hk
theorem bindC_at : ∀ (ps : List Str) (vs : List Value) (m : Str → Option Value) (i : Nat) (p : Str) (v : Value), ps[i]? = some p → vs[i]? = some v → (∀ i j : Nat, ps[i]? = some p → ps[j]? = some p → i = j) → kindOf p ≠ some .local → bindC kindOf (ps.zip vs) m p = some v
 | [], _, _, _, _, _, h, _, _, _ => by simp at h
 | _ :: _, [], _, _, _, _, _, h, _, _ => by simp at h
 | q :: ps, w :: vs, m, 0, p, v, hp, hv, hi, hk => by
  simp at hp hv; subst hp hv
  rw [List.zip_cons_cons]
  unfold bindC
  rw [bindC_ne, if_neg hk]
  ·simp
  ·intro r hr e
   obtain ⟨j, hj⟩ := List.getElem?_of_mem hr
   have : ps[j]? = some r.1 := by
    have := List.getElem?_zip_eq_some.mp (show (ps.zip vs)[j]? = some (r.1, r.2) from hj)
    exact this.1
   have := hi 0 (j + 1) (by simp) (by simpa [e] using this)
   lia
 | q :: ps, w :: vs, m, i + 1, p, v, hp, hv, hi, hk => by
  rw [List.zip_cons_cons]
  unfold bindC
  exact bindC_at ps vs _ i p v (by simpa using hp) (by simpa using hv) (fun a b ha hb => by have := hi (a + 1) (b + 1) (by simpa using ha) (by simpa using hb); lia) hk
end
noncomputable def retQ (Q : V → St → Prop) : Fl → Env' → St → Prop := fun fl _ σ => match fl with
 | .ret v => Q v σ
 | .next => Q .none σ
 | _ => False
theorem get_above {h : Heap} {a : Addr} (l : h.objs.size ≤ a) : h.get? a = none := by
 cases q : h.get? a with
 | none => rfl
 | some o' => exact absurd (Heap.lt_size q) (Nat.not_lt.mpr l)
set_option backward.match.sparseCases true in
noncomputable def CodeT (c : Ctx) (f : Value) (d : Nat) (args : List V) (σ : St) (Q : V → St → Prop) : Prop :=
 ∀ A X μ s vs, Room A d → Rel c X σ μ s.heap → VRs s.heap (Sx X σ μ) μ σ.length vs args → codeAny c.M A (.call f ⟨vs, []⟩) (fun r s' => match r with | .ok (.ret v) => Post c RV X σ μ s Q v s' | .ok _ => False | .error e => Bot e s') s
set_option backward.match.sparseCases true in
theorem CodeT.call {c : Ctx} {f : Value} {d : Nat} {args : List V} {σ : St} {Q : V → St → Prop} (h : CodeT c f d args σ Q) : CallT c f d args σ Q := fun A X μ s vs hA R t => wpAny_call (h A X μ s vs hA R t)
end
section
noncomputable def whileM (t : ME Bool) (b : MS) : MS := fun d ρ σ Q => ∃ (I : Nat → Env' → St → Prop) (n : Nat), I n ρ σ ∧ ∀ n ρ σ, I n ρ σ → t d ρ σ fun z σ' => if z then b d ρ σ' (fun fl ρ' σ'' => match fl with
 | .next => ∃ m, m < n ∧ I m ρ' σ''
 | .cont => ∃ m, m < n ∧ I m ρ' σ''
 | .brk => Q .next ρ' σ''
 | .ret v => Q (.ret v) ρ' σ'') else Q .next ρ σ'
theorem sim_While {c : Ctx} {Γ : Gm} {bs : Nat} {t : Expr} {body : List Stmt} {mt : ME Bool} {mb : MS} {pos : Pos} (ht : SimT c Γ t mt) (hb : SimB c Γ bs body mb) : SimS c Γ bs (.While t body [] pos) (whileM mt mb) := by
 intro A d X env F ρ σ μ s Q hA R E ⟨I, n, hI, step⟩
 refine wpAny_While (codeAny_whileLoop (fun n s' => PostA c Γ bs env F X σ μ s (I n) () s') ?_ n
  ⟨ρ, σ, μ, hI, R, Evf.refl E.fx, E, rfl, rfl⟩)
 rintro n s' ⟨ρ', σ', μ', hI', R', ev', E', g', o'⟩
 have hT := ht A d X bs env F ρ' σ' μ' s' _ hA R' E' (step n ρ' σ' hI')
 refine wpAny_mono hT (fun b s₂ hp => ?_) fun _ _ e => e.elim
 obtain ⟨z, σ₂, μ₂, q, R₂, rfl, e₂, g₂, o₂⟩ := hp
 have E₂ := E'.mono e₂
 have ev₂ := ev'.trans (e₂.toF E.fx)
 cases b with
 | false =>
  simp only [Bool.false_eq_true, if_false] at q ⊢
  exact wpAny_execs_nil ⟨_, _, _, _, q, R₂, .next, ev₂, E₂, g₂.trans g', o₂.trans o'⟩
 | true =>
  simp only [if_true] at q ⊢
  refine wpAny_mono (hb A d X env F ρ' σ₂ μ₂ s₂ _ hA R₂ E₂ q) (fun f s₃ hp => ?_) fun _ _ e => e.elim
  obtain ⟨fl, ρ₃, σ₃, μ₃, q₃, R₃, tf, e₃, E₃, g₃, o₃⟩ := hp
  have ev₃ := ev₂.trans e₃
  have gg := g₃.trans (g₂.trans g')
  have oo := o₃.trans (o₂.trans o')
  cases tf with
  | next => obtain ⟨m, hm, hI⟩ := q₃; exact ⟨m, hm, ρ₃, σ₃, μ₃, hI, R₃, ev₃, E₃, gg, oo⟩
  | cont => obtain ⟨m, hm, hI⟩ := q₃; exact ⟨m, hm, ρ₃, σ₃, μ₃, hI, R₃, ev₃, E₃, gg, oo⟩
  | brk => exact ⟨_, _, _, _, q₃, R₃, .next, ev₃, E₃, gg, oo⟩
  | ret t => exact ⟨_, _, _, _, q₃, R₃, .ret t, ev₃, E₃, gg, oo⟩
inductive It (h₀ : Heap) (S₀ : Nat → Prop) (μ₀ : Nat → Nat) (n₀ : Nat) (hb h : Heap) : Value → V → Prop
 | old {v : Value} {x : V} (t : VR h₀ S₀ μ₀ n₀ v x) : It h₀ S₀ μ₀ n₀ hb h v x
 | int (i : Int) (t : Tok) : It h₀ S₀ μ₀ n₀ hb h (.int i t) (.int i)
 | pair {T : Addr} {a b : Value} {x y : V} (e : h.get? T = some (tupO [a, b])) (f : hb.get? T = none) (p : It h₀ S₀ μ₀ n₀ hb h a x) (q : It h₀ S₀ μ₀ n₀ hb h b y) : It h₀ S₀ μ₀ n₀ hb h (.ref T) (.tup [x, y])
theorem It.vr {h₀ h hb : Heap} {T₀ T S₀ S : Nat → Prop} {μ₀ μ : Nat → Nat} {n₀ n : Nat} {v : Value} {x : V} (t : It h₀ S₀ μ₀ n₀ hb h v x) (ev : Evo h₀ T₀ S₀ μ₀ n₀ h T S μ n) (hf : ∀ a, hb.get? a = none → ¬ S a) : VR h S μ n v x := by
 induction t with
 | old t => exact t.mono ev
 | int i t => exact .int i t
 | pair e f _ _ ih1 ih2 => exact .tup e (hf _ f) (.cons ih1 (.cons ih2 .nil))
structure Wk (c : Ctx) (A : Around) (tg : Expr) (I : Addr) (fp wr : List Addr) (xs : List V) (h₀ : Heap) (S₀ : Nat → Prop) (μ₀ : Nat → Nat) (n₀ : Nat) (St : Nat → Heap → Prop) : Prop where
 sub : ∀ b ∈ wr, b ∈ fp
 frame : ∀ i h h', St i h → (∀ b ∈ fp, ∀ o, h.get? b = some o → h'.get? b = some o) → St i h'
 live : ∀ i h, St i h → ∀ b ∈ fp, ∃ o, h.get? b = some o
 item : ∀ i x (s : Shared) (P : Value → Shared → Prop) (E : Value → Shared → Prop), xs[i]? = some x → St i s.heap →
  (∀ v h' tk, It h₀ S₀ μ₀ n₀ s.heap h' v x → St (i + 1) h' → (∀ b o, b ∉ wr → s.heap.get? b = some o → h'.get? b = some o) → P v { s with heap := h', toks := tk }) →
  wpAny c.M A (pyNext (.ref I)) (fun r s₁ => ∃ v, r = some v ∧ wpAny c.M A (letOwnedTupleGo tg (.ref I) v) (fun _ s₂ => P v s₂) E s₁) E s
 done : ∀ (s : Shared) (P : Shared → Prop) (E : Value → Shared → Prop), St xs.length s.heap → (∀ h' tk, (∀ b o, b ∉ wr → s.heap.get? b = some o → h'.get? b = some o) → P { s with heap := h', toks := tk }) →
  wpAny c.M A (pyNext (.ref I)) (fun r s₁ => r = none ∧ P s₁) E s
 self : ∀ i (s : Shared) (Q : Value → Shared → Prop) (E : Value → Shared → Prop), St i s.heap → Q (.ref I) s → wpAny c.M A (pyIter (.ref I)) Q E s
inductive PostI (c : Ctx) (A : Around) (tg : Expr) (X : Nat → Prop) (σ : St) (μ : Nat → Nat) (s : Shared) (Q : List V → St → Prop) (it : Value) (s' : Shared) : Prop
 | mk (xs : List V) (σ' : St) (μ' : Nat → Nat) (I : Addr) (fp wr : List Addr) (Sn : Nat → Heap → Prop) (W : Nat → Prop) (q : Q xs σ') (hi : it = .ref I) (R : Rel c (fun b => X b ∨ W b) σ' μ' s'.heap) (K : Wk c A tg I fp wr xs s'.heap (Sx (fun b => X b ∨ W b) σ' μ') μ' σ'.length Sn) (st : Sn 0 s'.heap)
   (e : Evσ X σ μ s.heap (fun b => X b ∨ W b) σ' μ' s'.heap) (hW : ∀ b, W b → s.heap.get? b = none) (hwr : ∀ b ∈ wr, W b) (hfp : ∀ b ∈ fp, ¬ Tr σ' μ' b ∧ ¬ X b) (g : s'.gens = s.gens) (o : s'.os = s.os) : PostI c A tg X σ μ s Q it s'
noncomputable def SimI (c : Ctx) (Γ : Gm) (e : Expr) (tg : Expr) (m : ME (List V)) : Prop := ∀ A d X bs env F ρ σ μ s Q, Room A d → Rel c X σ μ s.heap → EnvR c X Γ bs env F ρ σ μ s.heap → m d ρ σ Q →
 wpAny c.M A (eval e env) (fun x s₁ => wpAny c.M A (pyIter x) (PostI c A tg X σ μ s Q) Bot s₁) Bot s
theorem Rel.wr {c : Ctx} {X : Nat → Prop} {σ : St} {μ : Nat → Nat} {h h' : Heap} {wr : List Addr} (R : Rel c X σ μ h) (keep : ∀ b o, b ∉ wr → h.get? b = some o → h'.get? b = some o) (hw : ∀ b ∈ wr, X b ∧ ¬ Tr σ μ b) (hl : ∀ b ∈ wr, ∃ o, h'.get? b = some o) : Rel c X σ μ h' := by
 have vr : ∀ v x, VRσ X σ μ h v x → VRσ X σ μ h' v x := fun v x t => by
  have ev : Evo h (fun b => b ∈ wr) (Sx X σ μ) μ σ.length h' (fun b => b ∈ wr) (Sx X σ μ) μ σ.length :=
   ⟨keep, fun a o e => by
    by_cases z : a ∈ wr
    ·exact hl a z
    ·exact ⟨o, keep a o z e⟩, fun a z => .inr (hw a z).1, fun a z => .inl z, fun a z => .inl z, fun _ _ => rfl, Nat.le_refl _⟩
  exact t.mono ev
 have ev : Evo h (fun b => b ∈ wr) (Sx X σ μ) μ σ.length h' (fun b => b ∈ wr) (Sx X σ μ) μ σ.length :=
  ⟨keep, fun a o e => by
   by_cases z : a ∈ wr
   ·exact hl a z
   ·exact ⟨o, keep a o z e⟩, fun a z => .inr (hw a z).1, fun a z => .inl z, fun a z => .inl z, fun _ _ => rfl, Nat.le_refl _⟩
 refine ⟨fun b o e => keep b o (fun z => ?_) (R.base b o e), R.out, R.inj, fun i o e => (R.obj i o e).move ev fun o' e' => keep _ _ (fun z => (hw _ z).2 ⟨i, o, e, rfl⟩) e', fun a x => ?_⟩
 ·have := (R.sh b (hw b z).1).1; rw [e] at this; cases this
 ·obtain ⟨z0, o, e⟩ := R.sh a x
  by_cases z : a ∈ wr
  ·exact ⟨z0, hl a z⟩
  ·exact ⟨z0, o, keep a o z e⟩
noncomputable def forL (d : Nat) (tg : MA) (b : MS) (Q : Fl → Env' → St → Prop) : List V → Env' → St → Prop
 | [], ρ, σ => Q .next ρ σ
 | x :: xs, ρ, σ => tg d ρ x σ fun ρ σ => b d ρ σ fun fl ρ σ => match fl with
  | .next => forL d tg b Q xs ρ σ
  | .cont => forL d tg b Q xs ρ σ
  | .brk => Q .next ρ σ
  | .ret v => Q (.ret v) ρ σ
noncomputable def forM (it : ME (List V)) (tg : MA) (b : MS) : MS := fun d ρ σ Q => it d ρ σ fun xs σ => forL d tg b Q xs ρ σ
theorem VM.leave {h h' : Heap} {S S' : Nat → Prop} {μ : Nat → Nat} {n : Nat} {wr : List Addr} (keep : ∀ b o, b ∉ wr → h.get? b = some o → h'.get? b = some o) (hS : ∀ a ∈ wr, S a) (hS' : ∀ a, S' a → S a) : VM h S μ n h' S' μ n :=
 ⟨fun _ _ f e => ⟨keep _ _ (fun z => f (hS _ z)) e, fun z => f (hS' _ z)⟩, fun _ _ _ => rfl⟩
theorem VR.leave {h h' : Heap} {S S' : Nat → Prop} {μ : Nat → Nat} {n : Nat} {wr : List Addr} (keep : ∀ b o, b ∉ wr → h.get? b = some o → h'.get? b = some o) (hS : ∀ a ∈ wr, S a) (hS' : ∀ a, S' a → S a) {v : Value} {x : V} (t : VR h S μ n v x) : VR h' S' μ n v x := t.map (.leave keep hS hS') (.inl (Nat.le_refl _))
theorem VRs.leave {h h' : Heap} {S S' : Nat → Prop} {μ : Nat → Nat} {n : Nat} {wr : List Addr} (keep : ∀ b o, b ∉ wr → h.get? b = some o → h'.get? b = some o) (hS : ∀ a ∈ wr, S a) (hS' : ∀ a, S' a → S a) {v : List Value} {x : List V} (t : VRs h S μ n v x) : VRs h' S' μ n v x := t.map (.leave keep hS hS') (.inl (Nat.le_refl _))
theorem Rel.leave {c : Ctx} {X X' : Nat → Prop} {σ : St} {μ : Nat → Nat} {h h' : Heap} {wr : List Addr} (R : Rel c X' σ μ h) (keep : ∀ b o, b ∉ wr → h.get? b = some o → h'.get? b = some o) (hw : ∀ b ∈ wr, X' b ∧ ¬ Tr σ μ b)
  (hX : ∀ b, X b → X' b ∧ (b ∉ wr ∨ ∃ o, h'.get? b = some o)) : Rel c X σ μ h' := by
 have vr : ∀ v x, VRσ X' σ μ h v x → VRσ X σ μ h' v x := fun v x t => t.leave keep (fun a z => .inr (hw a z).1) fun a z => z.imp id fun z => (hX a z).1
 have vrs : ∀ (vs : List Value) (xs : List V), VRs h (Sx X' σ μ) μ σ.length vs xs → VRs h' (Sx X σ μ) μ σ.length vs xs := fun v x t => t.leave keep (fun a z => .inr (hw a z).1) fun a z => z.imp id fun z => (hX a z).1
 refine ⟨fun b o e => keep b o (fun z => ?_) (R.base b o e), R.out, R.inj, fun i o e => ?_, fun a x => ?_⟩
 ·have := (R.sh b (hw b z).1).1; rw [e] at this; cases this
 ·have k : μ i ∉ wr := fun z => (hw _ z).2 ⟨i, o, e, rfl⟩
  cases R.obj i o e with
  | list e1 x => exact .list (keep _ _ k e1) (vrs _ _ x)
  | dict e1 x u y =>
   refine .dict (keep _ _ k e1) ?_ u y
   clear u y e1 e
   induction x with
   | nil => exact .nil
   | cons a b q _ ih => exact .cons (vr _ _ a) (vr _ _ b) q ih
  | ns e1 x =>
   refine .ns (keep _ _ k e1) ?_
   clear e1 e
   induction x with
   | nil => exact .nil
   | cons a b _ ih => exact .cons a (vr _ _ b) ih
 ·obtain ⟨hx, hz⟩ := hX a x
  obtain ⟨z0, o, e⟩ := R.sh a hx
  rcases hz with z | z
  ·exact ⟨z0, o, keep a o z e⟩
  ·exact ⟨z0, z⟩
theorem EnvR.wr {c : Ctx} {X X' : Nat → Prop} {Γ : Gm} {bs : Nat} {env : Env} {F : Nat → Prop} {ρ : Env'} {σ : St} {μ : Nat → Nat} {h h' : Heap} {wr : List Addr} (E : EnvR c X' Γ bs env F ρ σ μ h) (keep : ∀ b o, b ∉ wr → h.get? b = some o → h'.get? b = some o)
  (hw : ∀ b ∈ wr, X' b) (hX : ∀ b, X b → X' b) (hF : ∀ b, F b → b ∉ wr ∧ X b) (hc : ∀ x i a, Γ.lookup x = some (some i) → env.kindOf x ≠ some .local → env.cells.lookup x = some a → a ∉ wr) : EnvR c X Γ bs env F ρ σ μ h' :=
 E.map (fun b => b ∉ wr) (fun v x t => t.leave keep (fun a z => .inr (hw a z)) fun a z => z.imp id fun z => hX a z) keep (fun _ _ k _ => k) (fun b hb => (hF b hb).1) (fun b hb => (hF b hb).2) fun x i a hx hk ha _ => hc x i a hx hk ha
inductive ForI (c : Ctx) (Γ : Gm) (bs : Nat) (env : Env) (F G X' : Nat → Prop) (xs : List V) (fp : List Addr) (Sn : Nat → Heap → Prop) (σ₂ : St) (μ₂ : Nat → Nat) (h₂ : Heap) (s : Shared) (L : List V → Env' → St → Prop) (n : Nat) (s' : Shared) : Prop
 | mk (i : Nat) (ρ' : Env') (σ' : St) (μ' : Nat → Nat) (hn : n = xs.length + 1 - i) (hi : i ≤ xs.length) (q : L (xs.drop i) ρ' σ') (R : Rel c X' σ' μ' s'.heap) (ev : Evf G X' σ₂ μ₂ h₂ σ' μ' s'.heap) (E : EnvR c X' Γ bs env F ρ' σ' μ' s'.heap) (st : Sn i s'.heap)
  (nT : ∀ b ∈ fp, ¬ Tr σ' μ' b) (g : s'.gens = s.gens) (o : s'.os = s.os) : ForI c Γ bs env F G X' xs fp Sn σ₂ μ₂ h₂ s L n s'
theorem sim_For {c : Ctx} {Γ : Gm} {bs : Nat} {tg it : Expr} {body : List Stmt} {mi : ME (List V)} {mt : MA} {mb : MS} {pos : Pos} (hi : SimI c Γ it tg mi) (ht : SimA c Γ bs tg mt) (hb : SimB c Γ bs body mb)
  (hs : ∀ env x, foldedSetIterable it env x = pure x) : SimS c Γ bs (.For tg it body [] pos) (forM mi mt mb) := by
 intro A d X env F ρ σ μ s Q hA R E h
 rw [arm_exec_For]
 refine wpAny_bind (wpAny_standAt (wpAny_bind (wpAny_mono (hi A d X bs env F ρ σ μ s _ hA R E h) (fun x s₁ hx => ?_) fun _ _ e => e)))
 refine wpAny_bind (wpAny_of_eq (hs env x) (wpAny_bind (wpAny_standAt (wpAny_bind (wpAny_holding (wpAny_mono hx (fun itv s₂ hp => ?_) fun _ _ e => e))))))
 obtain ⟨xs, σ₂, μ₂, I, fp, wr, Sn, W, q, rfl, R₂, K, st, e₂, hW, hwr, hfp, g₂, o₂⟩ := hp
 let X' : Nat → Prop := fun b => X b ∨ W b
 have hFX' : ∀ a, F a → X' a := fun a ha => .inl (E.fx a ha)
 have E₂ : EnvR c X' Γ bs env F ρ σ₂ μ₂ s₂.heap := E.mono' e₂ hFX'
 have hFW : ∀ b, F b → ¬ W b := fun b hb hw => by obtain ⟨_, _, o, e⟩ := E.fr b hb; rw [hW b hw] at e; cases e
 have hcW : ∀ x i a, Γ.lookup x = some (some i) → env.kindOf x ≠ some .local → env.cells.lookup x = some a → ¬ W a := fun x i a hx hk ha hw => by
  rcases E.ce x i hx with hk' | ⟨_, a', ov, ha', ⟨o, ho, _⟩, _⟩
  ·exact hk hk'
  ·rw [ha] at ha'; cases ha'; rw [hW a hw] at ho; cases ho
 let G : Nat → Prop := fun b => F b ∨ W b
 have hGX : ∀ b, G b → X' b := fun b hb => hb.elim (hFX' b) .inr
 let Inv : Nat → Shared → Prop := ForI c Γ bs env F G X' xs fp Sn σ₂ μ₂ s₂.heap s (forL d mt mb Q)
 refine wpAny_runOwn (codeAny_forLoop_any Inv ?_ (xs.length + 1)
  ⟨0, ρ, σ₂, μ₂, by lia, Nat.zero_le _, by simpa using q, R₂, (Evσ.refl X' σ₂ μ₂ s₂.heap).toF hGX, E₂, st, fun b hb => (hfp b hb).1, g₂, o₂⟩) (by intro z; cases z)
 rintro n s' ⟨i, ρ', σ', μ', rfl, hi, hq, R', ev', E', st', nT, g', o'⟩
 have hwX : ∀ b ∈ wr, X' b ∧ ¬ Tr σ' μ' b := fun b hb => ⟨.inr (hwr b hb), nT b (K.sub b hb)⟩
 have fin : ∀ {fl : Fl} {f : Flow} {ρ₃ : Env'} {σ₃ : St} {μ₃ : Nat → Nat} {s₃ : Shared} {h' : Heap} {tk : Nat}, Q fl ρ₃ σ₃ → Rel c X' σ₃ μ₃ s₃.heap → Evf G X' σ₂ μ₂ s₂.heap σ₃ μ₃ s₃.heap → EnvR c X' Γ bs env F ρ₃ σ₃ μ₃ s₃.heap → (∀ b ∈ fp, ¬ Tr σ₃ μ₃ b) →
   FlR X' σ₃ μ₃ s₃.heap f fl → s₃.gens = s.gens → s₃.os = s.os → (∀ b o, b ∉ wr → s₃.heap.get? b = some o → h'.get? b = some o) → PostS c Γ bs env F X σ μ s Q f { s₃ with heap := h', toks := tk } := by
  intro fl f ρ₃ σ₃ μ₃ s₃ h' tk q₃ R₃ ev₃ E₃ nT₃ tf g₃ o₃ keep
  have hX : ∀ b, X b → b ∉ wr := fun b hb hw => (hfp b (K.sub b hw)).2 hb
  refine ⟨fl, ρ₃, σ₃, μ₃, q₃, R₃.leave keep (fun b hb => ⟨.inr (hwr b hb), nT₃ b (K.sub b hb)⟩) fun b hb => ⟨.inl hb, .inl (hX b hb)⟩, ?_, ?_, ?_, g₃, o₃⟩
  ·cases tf with
   | next => exact .next
   | ret t => exact .ret (t.leave keep (fun a z => .inr (.inr (hwr a z))) fun a z => z.imp id .inl)
   | brk => exact .brk
   | cont => exact .cont
  ·have alloc : ∀ b o, s.heap.get? b = some o → ¬ W b := fun b o e hw => by rw [hW b hw] at e; cases e
   have none₂ : ∀ b, s₂.heap.get? b = none → s.heap.get? b = none := fun b hb => by
    cases z : s.heap.get? b with
    | none => rfl
    | some o => obtain ⟨o', e⟩ := e₂.live b o z; rw [hb] at e; cases e
   have hsub : ∀ b, Tr σ₃ μ₃ b → Fb F σ μ b ∨ s.heap.get? b = none := fun b hb => by
    rcases ev₃.subT b (.inl hb) with (ht | hF | hw) | hn
    ·exact (e₂.subT b ht).imp .inl id
    ·exact .inl (.inr hF)
    ·exact .inr (hW b hw)
    ·exact .inr (none₂ b hn)
   refine ⟨fun b o hb e => keep b o (fun hw => alloc b o e (hwr b hw)) (ev₃.keep b o (fun hz => ?_) (e₂.keep b o (fun ht => hb (.inl ht)) e)), fun b o e => ?_, fun b hb => hb.elim .inl fun hf => .inr (E.fx b hf), fun b hb => ?_, fun b hb => ?_, fun j hj => (ev₃.mu j (Nat.lt_of_lt_of_le hj e₂.le)).trans (e₂.mu j hj), Nat.le_trans e₂.le ev₃.le⟩
   ·rcases hz with ht | hF | hw
    ·rcases e₂.subT b ht with ht | hn
     ·exact hb (.inl ht)
     ·rw [hn] at e; cases e
    ·exact hb (.inr hF)
    ·exact alloc b o e hw
   ·obtain ⟨o1, e1⟩ := e₂.live b o e
    obtain ⟨o2, e2⟩ := ev₃.live b o1 e1
    exact ⟨o2, keep b o2 (fun hw => alloc b o e (hwr b hw)) e2⟩
   ·rcases hb with ht | hF
    ·exact hsub b ht
    ·exact .inl (.inr hF)
   ·rcases hb with ht | hX
    ·rcases hsub b ht with (h1 | h1) | h1
     ·exact .inl (.inl h1)
     ·exact .inl (.inr (E.fx b h1))
     ·exact .inr h1
    ·exact .inl (.inr hX)
  ·exact E₃.wr keep (fun b hb => .inr (hwr b hb)) (fun b hb => .inl hb) (fun b hb => ⟨fun hw => hFW b hb (hwr b hw), E.fx b hb⟩) fun x i a hx hk ha hw => hcW x i a hx hk ha (hwr a hw)
 cases hd : xs.drop i with
 | nil =>
  rw [hd] at hq
  have hlen : i = xs.length := by have := congrArg List.length hd; simp at this; lia
  subst hlen
  refine wpAny_mono (K.done s' (fun s₃ => PostS c Γ bs env F X σ μ s Q .next s₃) _ st' fun h' tk keep => fin hq R' ev' E' nT .next g' o' keep) (fun r s₃ hr => ?_) fun _ _ e => e
  obtain ⟨rfl, hr⟩ := hr
  exact wpAny_execs_nil hr
 | cons x rest =>
  rw [hd] at hq
  have hx : xs[i]? = some x := by have := congrArg (·[0]?) hd; simpa using this
  have hr : xs.drop (i + 1) = rest := by rw [← List.drop_drop, hd]; rfl
  let Aft : Flow → Shared → Prop := fun f s₆ => match f with
   | .next => ∃ m, m < xs.length + 1 - i ∧ Inv m s₆
   | .cont => ∃ m, m < xs.length + 1 - i ∧ Inv m s₆
   | .brk => PostS c Γ bs env F X σ μ s Q .next s₆
   | .ret v => PostS c Γ bs env F X σ μ s Q (.ret v) s₆
  refine wpAny_mono (K.item i x s' (fun v s₃ => wpAny c.M A (assign tg env v) (fun _ s₄ => wpAny c.M A (execs body env) Aft Bot s₄) Bot s₃) Bot hx st' fun v h' tk ti st₁ keep => ?_) (fun r s₃ hr => ?_) fun _ _ e => e.elim
  ·let s₃ : Shared := { s' with heap := h', toks := tk }
   have hil : i < xs.length := (List.getElem?_eq_some_iff.mp hx).1
   have live : ∀ b ∈ wr, ∃ o, h'.get? b = some o := fun b hb => K.live _ _ st₁ b (K.sub b hb)
   have R₃ : Rel c X' σ' μ' s₃.heap := R'.wr keep hwX live
   have ev₃ : Evf G X' σ' μ' s'.heap σ' μ' s₃.heap := by
    refine ⟨fun b o hb e => keep b o (fun hw => hb (.inr (.inr (hwr b hw)))) e, fun b o e => ?_, fun b hb => hb.elim .inl fun hg => .inr (hGX b hg), fun b hb => .inl hb, fun b hb => .inl hb, fun _ _ => rfl, Nat.le_refl _⟩
    by_cases hw : b ∈ wr
    ·exact live b hw
    ·exact ⟨o, keep b o hw e⟩
   have E₃ : EnvR c X' Γ bs env F ρ' σ' μ' s₃.heap := E'.wr keep (fun b hb => .inr (hwr b hb)) (fun b hb => hb) (fun b hb => ⟨fun hw => hFW b hb (hwr b hw), hFX' b hb⟩) fun x i a hx hk ha hw => hcW x i a hx hk ha (hwr a hw)
   have tv : VRσ X' σ' μ' s₃.heap v x := ti.vr (ev'.trans ev₃) fun a ha => R'.fresh ha
   have hq' : mt d ρ' x σ' fun ρ σ => mb d ρ σ fun fl ρ σ => match fl with
    | .next => forL d mt mb Q rest ρ σ
    | .cont => forL d mt mb Q rest ρ σ
    | .brk => Q .next ρ σ
    | .ret v => Q (.ret v) ρ σ := hq
   have toG : ∀ {σa σb : Mine.St} {μa μb : Nat → Nat} {ha hb : Heap}, Evf F X' σa μa ha σb μb hb → Evf G X' σa μa ha σb μb hb := fun ev =>
    ⟨fun b o hb e => ev.keep b o (fun hz => hb (hz.imp id .inl)) e, ev.live, fun b hb => hb.elim .inl fun hg => .inr (hGX b hg), fun b hb => hb.elim (fun ht => (ev.subT b (.inl ht)).imp (Or.imp id .inl) id) fun hg => .inl (.inr hg), ev.sub, ev.mu, ev.le⟩
   refine wpA_seq (ht A d X' env F ρ' σ' μ' s₃ v x _ hA R₃ E₃ tv hq') fun _ ρ₄ σ₄ μ₄ s₄ q₄ R₄ e₄ E₄ g₄ o₄ => ?_
   refine wpS_seq (hb A d X' env F ρ₄ σ₄ μ₄ s₄ _ hA R₄ E₄ q₄) fun f fl ρ₅ σ₅ μ₅ s₅ q₅ R₅ tf e₅ E₅ g₅ o₅ => ?_
   have evA := ((ev'.trans ev₃).trans (toG e₄)).trans (toG e₅)
   have eF := e₄.trans e₅
   have hlv : ∀ b ∈ fp, ∃ o, s₃.heap.get? b = some o := fun b hb => K.live _ _ st₁ b hb
   have nT₅ : ∀ b ∈ fp, ¬ Tr σ₅ μ₅ b := fun b hb ht => by
    obtain ⟨o, ho⟩ := hlv b hb
    rcases eF.subT b (.inl ht) with (ht | hF) | hn
    ·exact nT b hb ht
    ·exact (hfp b hb).2 (E.fx b hF)
    ·rw [ho] at hn; cases hn
   have st₅ : Sn (i + 1) s₅.heap := K.frame _ _ _ st₁ fun b hb o e => eF.keep b o (fun hz => hz.elim (nT b hb) fun hF => (hfp b hb).2 (E.fx b hF)) e
   have gg : s₅.gens = s.gens := g₅.trans (g₄.trans g')
   have oo : s₅.os = s.os := o₅.trans (o₄.trans o')
   cases tf with
   | next => exact ⟨xs.length + 1 - (i + 1), by lia, i + 1, ρ₅, σ₅, μ₅, rfl, hil, by rw [hr]; exact q₅, R₅, evA, E₅, st₅, nT₅, gg, oo⟩
   | cont => exact ⟨xs.length + 1 - (i + 1), by lia, i + 1, ρ₅, σ₅, μ₅, rfl, hil, by rw [hr]; exact q₅, R₅, evA, E₅, st₅, nT₅, gg, oo⟩
   | brk => exact fin (s₃ := s₅) (h' := s₅.heap) (tk := s₅.toks) q₅ R₅ evA E₅ nT₅ .next gg oo fun _ _ _ e => e
   | ret t => exact fin (s₃ := s₅) (h' := s₅.heap) (tk := s₅.toks) q₅ R₅ evA E₅ nT₅ (.ret t) gg oo fun _ _ _ e => e
  ·obtain ⟨v, rfl, w⟩ := hr
   exact wpAny_mono w (fun _ s₄ w => wpAny_mono w (fun _ s₅ w => wpAny_mono w (fun f s₆ w => by cases f <;> exact w) (fun _ _ e => e.elim)) (fun _ _ e => e.elim)) (fun _ _ e => e.elim)
end
section
noncomputable def ownedTypes : List String := ["enumerate", "zip", "dict_itemiterator", "dict_reverseitemiterator", "odict_iterator", "itertools.zip_longest", "itertools.pairwise"]
set_option backward.match.sparseCases true in
theorem wp_letGo_plain {M : Model} {A : Around} {tg : Expr} {I : Addr} {v : Value} {o : Obj} {T : String} {s : Shared} {Q : Unit → Shared → Prop} {E : Value → Shared → Prop} (ho : s.heap.get? I = some o) (hc : o.cls = .type T) (hT : ownedTypes.contains T = false) (h : Q () s) :
  wpAny M A (letOwnedTupleGo tg (.ref I) v) Q E s := by
 have go : wpAny M A (do
   let (.ref r, .ref a) := (Value.ref I, v) | return
   let o ← load r
   match o.cls, o.data with
   | .type n, .fields vs =>
    if ownedTypes.contains n && vs[0]? == some (rawInt a) then
     rule "for.unpacks-the-owned-tuple"
     updateField r 0 .none
   | _, _ => pure ()) Q E s := by
  cases v with
  | ref a =>
   refine wpAny_bind (wpAny_load ho ?_)
   obtain ⟨cl, d, dt, sl⟩ := o
   dsimp only at hc
   subst hc
   cases dt with
   | fields vs =>
    dsimp only
    rw [hT, Bool.false_and, if_neg (by decide)]
    exact wpAny_pure h
   | _ => exact wpAny_pure h
  | _ => exact wpAny_pure h
 cases tg with
 | Tuple _ _ _ => exact go
 | List _ _ => exact go
 | _ => exact wpAny_pure h
theorem Wk.of_walks {c : Ctx} {A : Around} {tg : Expr} {I : Addr} {fp wr : List Addr} {xs : List V} {h₀ : Heap} {S₀ : Nat → Prop} {μ₀ : Nat → Nat} {n₀ n : Nat} {P : Nat → Value → Prop} {Sn : Nat → Heap → Prop} (W : Walks c.prog c.w A I fp wr n P Sn) (hn : n = xs.length)
  (hP : ∀ i v x, P i v → xs[i]? = some x → ∀ hb h, It h₀ S₀ μ₀ n₀ hb h v x) (hI : ∀ i h, Sn i h → ∃ o T, h.get? I = some o ∧ o.cls = .type T ∧ ownedTypes.contains T = false) (live : ∀ i h, Sn i h → ∀ b ∈ fp, ∃ o, h.get? b = some o) : Wk c A tg I fp wr xs h₀ S₀ μ₀ n₀ Sn where
 sub := W.sub
 frame := W.frame
 live := live
 item := fun i x s P' E hx st h => by
  have hi : i < n := by rw [hn]; exact (List.getElem?_eq_some_iff.mp hx).1
  refine W.item i s _ E hi st fun v h' tk hp st' keep => ⟨v, rfl, ?_⟩
  obtain ⟨o, T, ho, hc, hT⟩ := hI _ _ st'
  exact wp_letGo_plain (s := { s with heap := h', toks := tk }) ho hc hT (h v h' tk (hP i v x hp hx _ _) st' keep)
 done := fun s P' E st h => W.done s _ E (hn ▸ st) fun h' tk keep => ⟨rfl, h h' tk keep⟩
 self := W.self
noncomputable def itemsP (σ : St) (x : V) (k : List V → Prop) : Prop := match x with
 | .fl l => k l
 | .tup l => k l
 | .rng a b st => st ≠ 0 ∧ Builtin.Range.small a b st = true ∧ k ((List.range (Builtin.Range.rangeSize a b st).toNat).map fun (i : Nat) => V.int (a + i * st))
 | _ => False
noncomputable def itersM (a : ME V) : ME (List V) := fun d ρ σ Q => a d ρ σ fun x σ => itemsP σ x (Q · σ)
theorem rangeSize_nonneg (a b c : Int) : 0 ≤ Builtin.Range.rangeSize a b c := by
 unfold Builtin.Range.rangeSize
 split
 ·split
  ·have : 0 ≤ (b - a - 1) / c := Int.ediv_nonneg (by lia) (by lia)
   lia
  ·exact Int.le_refl _
 ·split
  ·have : 0 ≤ (a - b - 1) / (-c) := Int.ediv_nonneg (by lia) (by lia)
   lia
  ·exact Int.le_refl _
theorem wp_iterVal {c : Ctx} {A : Around} {tg : Expr} {X : Nat → Prop} {σ σ₀ : St} {μ μ₀ : Nat → Nat} {s s₀ : Shared} {v : Value} {x : V} {Q : List V → St → Prop} (hA : A.handled = none) (R : Rel c X σ μ s.heap) (t : VRσ X σ μ s.heap v x) (h : itemsP σ x (Q · σ))
  (ev : Evσ X σ₀ μ₀ s₀.heap X σ μ s.heap) (g : s.gens = s₀.gens) (o : s.os = s₀.os) : wpAny c.M A (pyIter v) (PostI c A tg X σ₀ μ₀ s₀ Q) Bot s := by
 have hnone : ∀ b, s.heap.get? b = none → s₀.heap.get? b = none := fun b hb => by
  cases z : s₀.heap.get? b with
  | none => rfl
  | some o => obtain ⟨o', e⟩ := ev.live b o z; rw [hb] at e; cases e
 let W : Nat → Prop := fun b => b = s.heap.objs.size
 let X' : Nat → Prop := fun b => X b ∨ W b
 have op : ∀ o : Obj, o.isFreed = false → Rel c X' σ μ (s.heap.push o) ∧ Evσ X σ μ s.heap X' σ μ (s.heap.push o) := fun o ho =>
  R.opens (fun _ _ e => Heap.get?_push_of_some o e) fun a ha => ha.imp id fun hW => by
   have hW : a = s.heap.objs.size := hW
   subst hW
   exact ⟨get_size _, o, Heap.get?_push_size _ ho⟩
 have hfI : ∀ b, b = s.heap.objs.size → ¬ Tr σ μ b ∧ ¬ X b := fun b hb => by
  subst hb
  have := R.fresh (get_size s.heap)
  exact ⟨fun z => this (.inl z), fun z => this (.inr z)⟩
 have hfa : ∀ {a : Addr}, ¬ Sx X σ μ a → ¬ Tr σ μ a ∧ ¬ X a := fun f => ⟨fun z => f (.inl z), fun z => f (.inr z)⟩
 have hWn : ∀ b, W b → s₀.heap.get? b = none := fun b hb => hnone b (by have hb : b = s.heap.objs.size := hb; rw [hb]; exact get_size _)
 unfold itemsP at h
 split at h
 ·rename_i l
  replace t := t.inv; obtain ⟨ad, items, k, rfl, e, f, t⟩ := t
  have hne : ad ≠ s.heap.objs.size := Nat.ne_of_lt (Heap.lt_size e)
  refine wpAny_pyIter_list (isList e) ?_
  obtain ⟨R', e'⟩ := op { cls := .type "list_iterator", data := .fields #[.ref ad, .int 0 0] } rfl
  have hl' : (s.heap.push { cls := .type "list_iterator", data := .fields #[.ref ad, .int 0 0] }).IsList ad items.toArray := isList (Heap.get?_push_of_some _ e)
  have tt := t.mono e'
  refine ⟨l, σ, μ, s.heap.objs.size, [s.heap.objs.size, ad], [s.heap.objs.size], (fun i h => h.IsListIter s.heap.objs.size ad i ∧ h.IsList ad items.toArray), W, h, rfl, R', Wk.of_walks (Walks.list hA _ _ hne items.toArray) (by simpa using t.length) (fun i v x hp hx hb h => ?_) (fun i h st => ?_) (fun i h st b hb => ?_), ⟨⟨_, Heap.get?_push_size _ rfl, rfl, rfl⟩, hl'⟩, ev.trans e', hWn, fun b hb => by simpa [W] using hb, fun b hb => ?_, g, o⟩
  ·obtain ⟨v', hv, tv⟩ := tt.get hx
   have : items[i]? = some v := by simpa using hp
   rw [this] at hv; cases hv
   exact .old tv
  ·obtain ⟨⟨o, h1, h2, _⟩, _⟩ := st
   exact ⟨o, _, h1, h2, by decide⟩
  ·simp only [List.mem_cons, List.not_mem_nil, or_false] at hb
   obtain ⟨⟨o, h1, _⟩, ⟨o', h1', _⟩⟩ := st
   rcases hb with rfl | rfl
   ·exact ⟨o, h1⟩
   ·exact ⟨o', h1'⟩
  ·simp only [List.mem_cons, List.not_mem_nil, or_false] at hb
   rcases hb with rfl | rfl
   ·exact hfI _ rfl
   ·exact hfa f
 ·rename_i l
  replace t := t.inv; obtain ⟨ad, items, rfl, e, f, t⟩ := t
  have hne : ad ≠ s.heap.objs.size := Nat.ne_of_lt (Heap.lt_size e)
  have hT : s.heap.IsTuple ad items.toArray := ⟨_, e, rfl, 0, rfl⟩
  refine wpAny_pyIter_tuple hT ?_
  obtain ⟨R', e'⟩ := op { cls := .type "tuple_iterator", data := .fields #[.ref ad, .int 0 0] } rfl
  have hl' : (s.heap.push { cls := .type "tuple_iterator", data := .fields #[.ref ad, .int 0 0] }).IsTuple ad items.toArray := ⟨_, Heap.get?_push_of_some _ e, rfl, 0, rfl⟩
  have tt := t.mono e'
  refine ⟨l, σ, μ, s.heap.objs.size, [s.heap.objs.size, ad], [s.heap.objs.size], (fun i h => h.IsTupleIter s.heap.objs.size ad i ∧ h.IsTuple ad items.toArray), W, h, rfl, R', Wk.of_walks (Walks.tuple hA _ _ hne items.toArray) (by simpa using t.length) (fun i v x hp hx hb h => ?_) (fun i h st => ?_) (fun i h st b hb => ?_), ⟨⟨_, Heap.get?_push_size _ rfl, rfl, rfl⟩, hl'⟩, ev.trans e', hWn, fun b hb => by simpa [W] using hb, fun b hb => ?_, g, o⟩
  ·obtain ⟨v', hv, tv⟩ := tt.get hx
   have : items[i]? = some v := by simpa using hp
   rw [this] at hv; cases hv
   exact .old tv
  ·obtain ⟨⟨o, h1, h2, _⟩, _⟩ := st
   exact ⟨o, _, h1, h2, by decide⟩
  ·simp only [List.mem_cons, List.not_mem_nil, or_false] at hb
   obtain ⟨⟨o, h1, _⟩, ⟨o', h1', _⟩⟩ := st
   rcases hb with rfl | rfl
   ·exact ⟨o, h1⟩
   ·exact ⟨o', h1'⟩
  ·simp only [List.mem_cons, List.not_mem_nil, or_false] at hb
   rcases hb with rfl | rfl
   ·exact hfI _ rfl
   ·exact hfa f
 ·rename_i a b st
  obtain ⟨h0, hsm, h⟩ := h
  obtain ⟨_, _, _, _, rfl, e, f⟩ := t.inv
  refine wpAny_pyIter_range e hsm ?_
  obtain ⟨R', e'⟩ := op { cls := .type "range_iterator", data := .fields #[rawInt a, rawInt (Builtin.Range.rangeSize a b st), rawInt st] } rfl
  have hpos : 0 ≤ Builtin.Range.rangeSize a b st := rangeSize_nonneg a b st
  refine ⟨_, σ, μ, s.heap.objs.size, [s.heap.objs.size], [s.heap.objs.size], (fun i h => IsRangeIter h s.heap.objs.size (a + (i : Nat) * st) (((Builtin.Range.rangeSize a b st).toNat : Int) - (i : Nat)) st), W, h, rfl, R', Wk.of_walks (Walks.range hA _ a st (Builtin.Range.rangeSize a b st).toNat) (by simp) (fun i v x hp hx hb h => ?_) (fun i h st => ⟨_, _, st, rfl, by decide⟩) (fun i h st b hb => ?_), ?_, ev.trans e', hWn, fun b hb => by simpa [W] using hb, fun b hb => ?_, g, o⟩
  ·obtain ⟨tk, rfl⟩ := hp
   rw [List.getElem?_map, List.getElem?_range (by
    rcases Nat.lt_or_ge i (Builtin.Range.rangeSize a b st).toNat with q | q
    ·exact q
    ·rw [List.getElem?_eq_none (by simpa using q)] at hx; cases hx)] at hx
   cases hx
   exact .int _ _
  ·simp only [List.mem_cons, List.not_mem_nil, or_false] at hb
   subst hb; exact ⟨_, st⟩
  ·show IsRangeIter _ _ _ _ _
   rw [show ((0 : Nat) : Int) * st = 0 by simp, Int.add_zero, show (((Builtin.Range.rangeSize a b st).toNat : Int) - ((0 : Nat) : Int)) = Builtin.Range.rangeSize a b st by lia]
   exact Heap.get?_push_size _ rfl
  ·simp only [List.mem_cons, List.not_mem_nil, or_false] at hb
   exact hfI _ hb
 ·exact h.elim
theorem simI_val {c : Ctx} {Γ : Gm} {e tg : Expr} {a : ME V} (ha : SimE c Γ e a) : SimI c Γ e tg (itersM a) := by
 intro A d X bs env F ρ σ μ s Q hA R E h
 exact wp_seq (ha A d X bs env F ρ σ μ s _ hA R E h) fun u x σ₁ μ₁ s₁ q R₁ t₁ e₁ g₁ o₁ => wp_iterVal hA.handled R₁ t₁ q e₁ g₁ o₁
end
section
noncomputable def SimF (c : Ctx) (Γ : Gm) (ifs : List Expr) (m : ME Bool) : Prop := ∀ A d X bs env F ρ σ μ s Q, Room A d → Rel c X σ μ s.heap → EnvR c X Γ bs env F ρ σ μ s.heap → m d ρ σ Q →
 wpAny c.M A (forIn ifs true fun c r => if r = true then do let ok ← isTrue c env (eval c env); pure (ForInStep.yield ok) else pure (ForInStep.yield r)) (Post c RB X σ μ s Q) Bot s
theorem simF_nil {c : Ctx} {Γ : Gm} : SimF c Γ [] (yesM true) := fun _ _ _ _ _ _ _ _ _ _ _ _ R _ h => by rw [List.forIn_nil]; exact wpAny_pure (Post.here R rfl h)
theorem simF_one {c : Ctx} {Γ : Gm} {e : Expr} {m : ME Bool} (he : SimT c Γ e m) : SimF c Γ [e] m := fun A d X bs env F ρ σ μ s Q hA R E h => by
 rw [List.forIn_cons, if_pos rfl]
 refine wpAny_bind (wpAny_bind (wpAny_mono (he A d X bs env F ρ σ μ s Q hA R E h) (fun b s' hp => wpAny_pure ?_) fun _ _ e => e))
 show wpAny _ _ (forIn [] b _) _ _ _
 rw [List.forIn_nil]; exact wpAny_pure hp
theorem codeAny_compLoop_any {prog : Program} {w : World} {A : Around} {R : Result → Shared → Prop} {s : Shared} {elt target iter : Expr} {ifs : List Expr} {scope : Scope} {pos : Pos} {it acc : Value} {env : Env} (I : Nat → Shared → Prop)
  (turn : ∀ n s, I n s → wpAny (model prog w) A (pyNext it) (fun r s₁ => match r with
   | none => R (.ok .next) s₁
   | some v => wpAny (model prog w) A (letOwnedTupleGo target it v) (fun _ s₁' => wpAny (model prog w) A (assign target env v) (fun _ s₂ =>
     wpAny (model prog w) A (forIn ifs true fun c r => if r = true then do let ok ← isTrue c env (eval c env); pure (ForInStep.yield ok) else pure (ForInStep.yield r)) (fun ok s₃ =>
      if ok = true then wpAny (model prog w) A (eval elt env) (fun x s₄ =>
       wpAny (model prog w) A (call (.builtin "list.append") [acc, x]) (fun _ s₅ => ∃ m, m < n ∧ I m s₅) Bot s₄) Bot s₃
      else ∃ m, m < n ∧ I m s₃) Bot s₂) Bot s₁') Bot s₁) Bot s)
  (n : Nat) (h : I n s) :
  codeAny (model prog w) A (.compLoop (.ListComp elt [⟨target, iter, ifs, 0⟩] scope pos) 0 it acc env) R s := by
 refine codeAny_loop rfl I (fun n s hI => ?_) n h
 show wpAny _ A ((compTurn (.ListComp elt [⟨target, iter, ifs, 0⟩] scope pos) 0 it acc env).onRaise (fun x => do noteFrame x env; theTreesLotGoes x)) _ _ s
 refine wpAny_noted ?_
 rw [compTurn_list]
 refine wpAny_bind (wpAny_standAt (wpAny_bind (wpAny_mono (turn n s hI) (fun r s₁ h₁ => ?_) fun _ _ h' => h'.elim)))
 cases r with
 | none => exact wpAny_pure h₁
 | some v =>
  refine wpAny_bind (wpAny_mono h₁ (fun _ s₁' h₁ => ?_) fun _ _ h' => h'.elim)
  refine wpAny_bind (wpAny_mono h₁ (fun _ s₂ h₂ => wpAny_bind (wpAny_mono h₂ (fun ok s₃ h₃ => ?_) fun _ _ h' => h'.elim)) fun _ _ h' => h'.elim)
  cases ok with
  | false => exact wpAny_pure ⟨rfl, h₃⟩
  | true =>
   simp only [if_true] at h₃ ⊢
   exact wpAny_bind (wpAny_bind (wpAny_mono h₃ (fun x s₄ h₄ => wpAny_bind (wpAny_mono h₄ (fun _ s₅ h₅ => wpAny_pure (wpAny_pure ⟨rfl, h₅⟩)) fun _ _ h' => h'.elim)) fun _ _ h' => h'.elim))
noncomputable def compEnv' (scope : Scope) (cl : List (Str × Addr)) (L : Addr) (env : Env) : Env := { newEnv scope L env.globals (cellsFrom (L + 1) scope.names cl) env.qual none .none (some env) builtinsNs with scope := relabel scope env }
theorem wp_compEnv {M : Model} {A : Around} {scope : Scope} {cl : List (Str × Addr)} {env : Env} {s : Shared} {Q : Env → Shared → Prop} {E : Value → Shared → Prop}
  (h : Q (newEnv scope s.heap.objs.size env.globals (cellsFrom (s.heap.objs.size + 1) scope.names cl) env.qual none .none (some env) builtinsNs) { s with heap := pushCells (s.heap.push { cls := .type "dict", data := .dict #[] }) scope.names }) :
  wpAny M A (newFunctionEnv scope env.globals cl [] env.qual none .none (some env)) Q E s := by
 simp only [newFunctionEnv, Option.isSome_some, if_true]
 refine wpAny_bind (wpAny_alloc ?_)
 refine wpAny_bind (wpAny_layCells _ (fun name kind cells => by cases hkc : kind == NameKind.cell <;> simp [hkc]) _ _ _ _ ?_)
 rw [show ({ s with heap := s.heap.push { cls := .type "dict", data := .dict #[] } } : Shared).heap.objs.size = s.heap.objs.size + 1 from Heap.size_push ..]
 rw [List.forIn_nil]
 exact wpAny_bind (wpAny_pure (wpAny_pure h))
end
section
noncomputable def compOk (Γ Γ' : Gm) (N : Nat) (names : List (Str × NameKind)) : Bool :=
 Γ'.fn.isNone && (Γ'.sl.all (fun p => match Γ'.lookup p.1 with
  | some (some i) => (if i < N then names.lookup p.1 == some .free && Γ.lookup p.1 == some (some i) && Γ.ck.contains p.1 && names.all (fun q => q.1 != p.1 || q.2 == .free)
    else names.lookup p.1 == some .local || names.lookup p.1 == some .cell) && Γ'.sl.all (fun q => match Γ'.lookup q.1 with
    | some (some j) => i != j || p.1 == q.1
    | _ => true)
  | some none => names.lookup p.1 == some .globalImplicit
  | none => true) && Γ'.ck.all (fun x => names.lookup x == some .cell || names.lookup x == some .free) &&
 names.all (fun p => (p.2 != .free || (Γ.ck.contains p.1 && (Γ.lookup p.1).any (·.isSome))) && (p.2 != .local || names.lookup p.1 == some .local)))
noncomputable def clFrom (env : Env) : List (Str × NameKind) → List (Str × Addr) → List (Str × Addr)
 | [], acc => acc
 | (n, k) :: r, acc => if k == .free then clFrom env r ((n, (env.cells.lookup n).getD 0) :: acc) else clFrom env r acc
theorem closureFor_is {env : Env} {scope : Scope} (h : ∀ p ∈ scope.names, p.2 = .free → ∃ a, env.cells.lookup p.1 = some a) : closureFor scope env = pure (clFrom env scope.names []) := by
 have key : ∀ (names : List (Str × NameKind)) (acc : List (Str × Addr)) (f : Str × NameKind → List (Str × Addr) → Sem (ForInStep (List (Str × Addr)))),
   (∀ n k cs, f (n, k) cs = if k == .free then (do let a ← cellOf env n; pure (.yield ((n, a) :: cs))) else pure (.yield cs)) → (∀ p ∈ names, p.2 = .free → ∃ a, env.cells.lookup p.1 = some a) → forIn names acc f = pure (clFrom env names acc) := by
  intro names
  induction names with
  | nil => intro acc f _ _; rfl
  | cons p r ih =>
   intro acc f hf hp
   obtain ⟨n, k⟩ := p
   rw [List.forIn_cons, hf]
   unfold clFrom
   by_cases hk : (k == NameKind.free) = true
   ·rw [if_pos hk, if_pos hk]
    obtain ⟨a, ha⟩ := hp (n, k) List.mem_cons_self (eq_of_beq hk)
    unfold cellOf
    dsimp only at ha
    rw [ha]
    exact ih _ f hf fun q hq => hp q (List.mem_cons_of_mem _ hq)
   ·rw [if_neg hk, if_neg hk]
    exact ih _ f hf fun q hq => hp q (List.mem_cons_of_mem _ hq)
 unfold closureFor
 dsimp only
 rw [key scope.names [] _ (fun n k cs => by cases hk : k == NameKind.free <;> simp [hk]) h]
 rfl
theorem clFrom_mem (env : Env) : ∀ (names : List (Str × NameKind)) (acc : List (Str × Addr)), (∀ p ∈ names, p.2 = .free → ∃ a, env.cells.lookup p.1 = some a) → (∀ p ∈ acc, env.cells.lookup p.1 = some p.2) → ∀ p ∈ clFrom env names acc, env.cells.lookup p.1 = some p.2
 | [], _, _, ha => ha
 | (n, k) :: r, acc, hn, ha => by
  unfold clFrom
  split
  ·rename_i hk
   obtain ⟨a, e⟩ := hn (n, k) List.mem_cons_self (eq_of_beq hk)
   refine clFrom_mem env r _ (fun p hp => hn p (List.mem_cons_of_mem _ hp)) fun p hp => ?_
   rcases List.mem_cons.mp hp with rfl | hp
   ·dsimp only at e ⊢; rw [e]; rfl
   ·exact ha p hp
  ·exact clFrom_mem env r _ (fun p hp => hn p (List.mem_cons_of_mem _ hp)) ha
theorem clFrom_acc (env : Env) : ∀ (names : List (Str × NameKind)) (acc : List (Str × Addr)) (x : Str), (∃ a, (x, a) ∈ acc) → ∃ a, (x, a) ∈ clFrom env names acc
 | [], _, _, h => h
 | (n, k) :: r, acc, x, h => by
  unfold clFrom
  split
  ·obtain ⟨a, ha⟩ := h; exact clFrom_acc env r _ x ⟨a, List.mem_cons_of_mem _ ha⟩
  ·exact clFrom_acc env r _ x h
theorem clFrom_has (env : Env) : ∀ (names : List (Str × NameKind)) (acc : List (Str × Addr)) (x : Str), (x, .free) ∈ names → ∃ a, (x, a) ∈ clFrom env names acc
 | [], _, _, h => by cases h
 | (n, k) :: r, acc, x, h => by
  unfold clFrom
  rcases List.mem_cons.mp h with h | h
  ·have h1 := congrArg Prod.fst h; have h2 := congrArg Prod.snd h; dsimp only at h1 h2; subst h1 h2; rw [if_pos (by decide)]; exact clFrom_acc env r _ _ ⟨_, List.mem_cons_self⟩
  ·split <;> exact clFrom_has env r _ x h
theorem clFrom_free (env : Env) : ∀ (names : List (Str × NameKind)) (acc : List (Str × Addr)) (x : Str) (a : Addr), (x, a) ∈ clFrom env names acc → (x, a) ∈ acc ∨ (x, .free) ∈ names
 | [], _, _, _, h => .inl h
 | (n, k) :: r, acc, x, a, h => by
  unfold clFrom at h
  split at h
  ·rename_i hk
   have hk := eq_of_beq hk
   rcases clFrom_free env r _ x a h with h | h
   ·rcases List.mem_cons.mp h with h | h
    ·have h1 := congrArg Prod.fst h; dsimp only at h1; subst h1; exact .inr (by rw [hk]; exact List.mem_cons_self)
    ·exact .inl h
   ·exact .inr (List.mem_cons_of_mem _ h)
  ·rcases clFrom_free env r _ x a h with h | h
   ·exact .inl h
   ·exact .inr (List.mem_cons_of_mem _ h)
theorem lookup_some_of_mem {α : Type} : ∀ {l : List (Str × α)} {x : Str} {a : α}, (x, a) ∈ l → ∃ b, l.lookup x = some b
 | (k, v) :: r, x, a, h => by
  rw [List.lookup_cons]
  cases hx : x == k with
  | true => exact ⟨v, rfl⟩
  | false =>
   rcases List.mem_cons.mp h with h | h
   ·cases h; simp at hx
   ·exact lookup_some_of_mem h
theorem cellsFrom_app : ∀ (names : List (Str × NameKind)) (n : Nat) (acc : List (Str × Addr)), cellsFrom n names acc = cellsFrom n names [] ++ acc
 | [], _, _ => rfl
 | (y, k) :: r, n, acc => by
  unfold cellsFrom
  split
  ·rw [cellsFrom_app r (n + 1) ((y, n) :: acc), cellsFrom_app r (n + 1) [(y, n)]]; simp
  ·exact cellsFrom_app r n acc
theorem cellsFrom_own : ∀ (names : List (Str × NameKind)) (n : Nat) (acc : List (Str × Addr)) (x : Str) (a : Addr), (x, a) ∈ cellsFrom n names acc → (x, a) ∈ acc ∨ (x, .cell) ∈ names
 | [], _, _, _, _, h => .inl h
 | (y, k) :: r, n, acc, x, a, h => by
  unfold cellsFrom at h
  split at h
  ·rename_i hk
   have hk := eq_of_beq hk
   rcases cellsFrom_own r _ _ x a h with h | h
   ·rcases List.mem_cons.mp h with h | h
    ·cases h; exact .inr (by rw [hk]; exact List.mem_cons_self)
    ·exact .inl h
   ·exact .inr (List.mem_cons_of_mem _ h)
  ·rcases cellsFrom_own r _ _ x a h with h | h
   ·exact .inl h
   ·exact .inr (List.mem_cons_of_mem _ h)
theorem relabel_lookup {env : Env} : ∀ (names : List (Str × NameKind)) (x : Str),
  (names.map fun (n, k) => if (k == NameKind.free && env.scope.kind == .function && env.kindOf n == some .cell) then (n, NameKind.cell) else (n, k)).lookup x = (names.lookup x).map fun k => if (k == NameKind.free && env.scope.kind == .function && env.kindOf x == some .cell) then .cell else k
 | [], _ => rfl
 | (n, k) :: r, x => by
  have ih := relabel_lookup (env := env) r x
  show List.lookup x ((if (k == NameKind.free && env.scope.kind == .function && env.kindOf n == some .cell) = true then (n, NameKind.cell) else (n, k)) :: _) = _
  cases hx : x == n with
  | true =>
   have := eq_of_beq hx; subst this
   by_cases hc : (k == NameKind.free && env.scope.kind == .function && env.kindOf x == some .cell) = true
   ·rw [if_pos hc]; simp only [List.lookup_cons, hx, Option.map_some]; rw [if_pos hc]
   ·rw [if_neg hc]; simp only [List.lookup_cons, hx, Option.map_some]; rw [if_neg hc]
  | false =>
   by_cases hc : (k == NameKind.free && env.scope.kind == .function && env.kindOf n == some .cell) = true
   ·rw [if_pos hc]; simp only [List.lookup_cons, hx]; exact ih
   ·rw [if_neg hc]; simp only [List.lookup_cons, hx]; exact ih
theorem compEnvR {c : Ctx} {X : Nat → Prop} {Γ Γ' : Gm} {bs N k : Nat} {env : Env} {F : Nat → Prop} {ρ : Env'} {σ : St} {μ : Nat → Nat} {h : Heap} {scope : Scope} (hok : compOk Γ Γ' N scope.names = true) (hkind : scope.kind = .function) (hN : ρ.length = N)
  (R : Rel c X σ μ h) (E : EnvR c X Γ bs env F ρ σ μ h) :
  ∃ cl, closureFor scope env = pure cl ∧ (∀ x ∈ scope.names, x.2 = .local → scope.names.lookup x.1 = some .local) ∧ ∃ F' : Nat → Prop, F' h.objs.size ∧ (∀ b, F' b → h.get? b = none) ∧ (∀ b, F' b → ∃ o, (pushCells (h.push { cls := .type "dict", data := .dict #[] }) scope.names).get? b = some o) ∧
   (∀ x i a, Γ'.lookup x = some (some i) → (compEnv' scope cl h.objs.size env).kindOf x ≠ some .local → (compEnv' scope cl h.objs.size env).cells.lookup x = some a → F' a ∨ (env.cells.lookup x = some a ∧ (∃ j, Γ.lookup x = some (some j)) ∧ env.kindOf x ≠ some .local)) ∧
   ∀ X', (∀ b, F' b → X' b) → Rel c X' σ μ (pushCells (h.push { cls := .type "dict", data := .dict #[] }) scope.names) → Evσ X σ μ h X' σ μ (pushCells (h.push { cls := .type "dict", data := .dict #[] }) scope.names) →
    EnvR c X' Γ' N (compEnv' scope cl h.objs.size env) F' (ρ ++ List.replicate k none) σ μ (pushCells (h.push { cls := .type "dict", data := .dict #[] }) scope.names) := by
 simp only [compOk, Bool.and_eq_true] at hok
 obtain ⟨ok0, ⟨ok1, ok2⟩, ok3⟩ := hok
 have frees' : ∀ p ∈ scope.names, p.2 = .free → ∃ a, env.cells.lookup p.1 = some a ∧ ∃ o, h.get? a = some o := fun p hp hf => by
  have := List.all_eq_true.mp ok3 p hp
  simp only [Bool.and_eq_true, Bool.or_eq_true, hf, bne_self_eq_false, Bool.false_eq_true, false_or] at this
  obtain ⟨⟨h1, h2⟩, _⟩ := this
  cases hg : Γ.lookup p.1 with
  | none => rw [hg] at h2; cases h2
  | some o =>
   cases o with
   | none => rw [hg] at h2; cases h2
   | some i =>
    have hck := E.ck p.1 (by simpa using h1)
    rcases E.ce p.1 i hg with hk | ⟨_, a, _, ha, ⟨o, ho, _⟩, _⟩
    ·rcases hck with hc | hc <;> rw [hk] at hc <;> cases hc
    ·exact ⟨a, ha, o, ho⟩
 have frees : ∀ p ∈ scope.names, p.2 = .free → ∃ a, env.cells.lookup p.1 = some a := fun p hp hf => let ⟨a, e, _⟩ := frees' p hp hf; ⟨a, e⟩
 have slotOk : ∀ {x : Str} {i : Nat}, Γ'.lookup x = some (some i) → (if i < N then scope.names.lookup x = some .free ∧ Γ.lookup x = some (some i) ∧ x ∈ Γ.ck ∧ ∀ q ∈ scope.names, q.1 = x → q.2 = .free else scope.names.lookup x = some .local ∨ scope.names.lookup x = some .cell) ∧ ∀ y, Γ'.lookup y = some (some i) → x = y := fun {x i} hx => by
  obtain ⟨p, hp, rfl⟩ := mem_lookup hx
  have := List.all_eq_true.mp ok1 p hp
  rw [hx] at this
  simp only [Bool.and_eq_true] at this
  refine ⟨?_, fun y hy => ?_⟩
  ·have t := this.1
   split
   ·rename_i hlt
    rw [if_pos hlt] at t
    simp only [Bool.and_eq_true, beq_iff_eq] at t
    refine ⟨t.1.1.1, t.1.1.2, by simpa using t.1.2, fun q hq e => ?_⟩
    have := List.all_eq_true.mp t.2 q hq
    simpa [e] using this
   ·rename_i hlt
    rw [if_neg hlt] at t
    simpa using t
  ·obtain ⟨q, hq, rfl⟩ := mem_lookup hy
   have := List.all_eq_true.mp this.2 q hq
   rw [hy] at this
   simpa using this
 let L := h.objs.size
 let h' := pushCells (h.push { cls := .type "dict", data := .dict #[] }) scope.names
 let own := cellsFrom (L + 1) scope.names []
 have kp : ∀ b o, h.get? b = some o → h'.get? b = some o := fun b o e => pushCells_keeps _ _ b o (Heap.get?_push_of_some _ e)
 have ow := cellsFrom_ok scope.names (h.push { cls := .type "dict", data := .dict #[] }) (L + 1) [] ⟨fun _ _ hm => (nomatch hm), List.Pairwise.nil⟩ (by rw [Heap.size_push]; exact Nat.le_refl _)
 rw [Heap.size_push] at ow
 let F' : Nat → Prop := fun b => b = L ∨ ∃ n, (n, b) ∈ own
 have fresh : ∀ b, F' b → h.get? b = none := fun b hb => by
  rcases hb with rfl | ⟨n, hn⟩
  ·exact get_size _
  ·exact get_above (Nat.le_of_succ_le (ow.empty n b hn).2)
 have hns : h'.Ns L fun _ => none := (Heap.Ns.new h (.type "dict")).keeps (pushCells_keeps _ _)
 have live : ∀ b, F' b → ∃ o, h'.get? b = some o := fun b hb => by
  rcases hb with rfl | ⟨n, hn⟩
  ·obtain ⟨o, _, _, e, _⟩ := hns; exact ⟨o, e⟩
  ·obtain ⟨o, e, _⟩ := (ow.empty n b hn).1; exact ⟨o, e⟩
 refine ⟨clFrom env scope.names [], closureFor_is frees, fun x hx hl => ?_, F', .inl rfl, fresh, live, fun x i a hx hk ha => ?_, fun X' hF' R' ev => ?_⟩
 ·have := List.all_eq_true.mp ok3 x hx
  simp only [Bool.and_eq_true, Bool.or_eq_true, hl, bne_self_eq_false, Bool.false_eq_true, false_or] at this
  simpa using this.2
 ·have hs := (slotOk hx).1
  have hca : own.lookup x = some a ∨ (own.lookup x = none ∧ (clFrom env scope.names []).lookup x = some a) := by
   rw [show (compEnv' scope (clFrom env scope.names []) h.objs.size env).cells = own ++ clFrom env scope.names [] from cellsFrom_app _ _ _, List.lookup_append] at ha
   cases z : own.lookup x with
   | some d => rw [z] at ha; exact .inl ha
   | none => rw [z] at ha; exact .inr ⟨rfl, ha⟩
  rcases hca with h1 | ⟨h1, h2⟩
  ·exact .inl (.inr ⟨x, mem_of_lookup h1⟩)
  ·by_cases hi : i < N
   ·rw [if_pos hi] at hs
    refine .inr ⟨clFrom_mem env scope.names [] frees (fun p hp => by cases hp) _ (mem_of_lookup h2), ⟨i, hs.2.1⟩, ?_⟩
    rcases E.ck x hs.2.2.1 with hc | hc <;> rw [hc] <;> intro e <;> cases e
   ·rw [if_neg hi] at hs
    rcases hs with hs | hs
    ·exact absurd ((relabel_lookup (env := env) scope.names x).trans (by rw [hs]; rfl)) hk
    ·obtain ⟨b, hb⟩ := Option.isSome_iff_exists.mp (cellsFrom_some scope.names (L + 1) [] x hs)
     have hb : own.lookup x = some b := hb
     rw [h1] at hb; cases hb
 have clm := clFrom_mem env scope.names [] frees fun p hp => by cases hp
 have cells : (compEnv' scope (clFrom env scope.names []) h.objs.size env).cells = own ++ clFrom env scope.names [] := cellsFrom_app _ _ _
 have kinds : ∀ x, (compEnv' scope (clFrom env scope.names []) h.objs.size env).kindOf x = (scope.names.lookup x).map fun k => if (k == NameKind.free && env.scope.kind == .function && env.kindOf x == some .cell) then .cell else k := fun x => relabel_lookup scope.names x
 have notTr : ∀ b, F' b → ¬ Tr σ μ b := fun b hb ht => R.fresh (fresh b hb) (.inl ht)
 have slotv : ∀ {i : Nat} {V : V}, (ρ ++ List.replicate k none)[i]? = some (some V) → i < N ∧ ρ[i]? = some (some V) := fun {i V} e => by
  rcases Nat.lt_or_ge i ρ.length with hlt | hge
  ·rw [List.getElem?_append_left hlt] at e; exact ⟨hN ▸ hlt, e⟩
  ·rw [List.getElem?_append_right hge, List.getElem?_replicate] at e
   split at e <;> cases e
 have clook : ∀ {x : Str} {a : Addr}, (clFrom env scope.names []).lookup x = some a → env.cells.lookup x = some a := fun hx => clm _ (mem_of_lookup hx)
 have base : ∀ b, F' b → c.h0.get? b = none := fun b hb => by
  cases z : c.h0.get? b with
  | none => rfl
  | some o => have := R.base _ _ z; rw [fresh b hb] at this; cases this
 refine ⟨hkind, E.glob, E.blt, fun x hx => ?_, fun x y i hx hy => (slotOk hx).2 y hy, ⟨_, hns, fun x i hx hk V hV => ?_⟩, fun x i hx => ?_, fun x y a hx hy => ?_, .inl rfl, hF', fun b hb => ⟨notTr b hb, base b hb, live b hb⟩, fun x hx => ?_, fun f a e => by rw [e] at ok0; cases ok0⟩
 ·obtain ⟨p, hp, rfl⟩ := mem_lookup hx
  have := List.all_eq_true.mp ok1 p hp
  rw [hx] at this
  rw [kinds, show scope.names.lookup p.1 = some .globalImplicit by simpa using this]
  rfl
 ·obtain ⟨hi, _⟩ := slotv hV
  have := (slotOk hx).1
  rw [if_pos hi] at this
  rw [kinds, this.1] at hk
  simp only [Option.map_some, Option.some.injEq] at hk
  split at hk <;> cases hk
 ·have hs := (slotOk hx).1
  by_cases hi : i < N
  ·rw [if_pos hi] at hs
   obtain ⟨s1, s2, s3, s4⟩ := hs
   rcases E.ce x i s2 with hk | ⟨hk, a, ov, ha, hc, hv, ht, hal, hf⟩
   ·rcases E.ck x s3 with hc | hc <;> rw [hk] at hc <;> cases hc
   ·have hmem : (x, NameKind.free) ∈ scope.names := mem_of_lookup s1
    obtain ⟨a', ha'⟩ := clFrom_has env scope.names [] x hmem
    obtain ⟨b, hb⟩ := lookup_some_of_mem ha'
    have hba := clook hb
    rw [ha] at hba; cases hba
    have hno : own.lookup x = none := by
     cases z : own.lookup x with
     | none => rfl
     | some d =>
      rcases cellsFrom_own _ _ _ _ _ (mem_of_lookup z) with hm | hm
      ·cases hm
      ·have := s4 _ hm rfl; cases this
    obtain ⟨o, ho, hd⟩ := hc
    refine .cell ?_ a ov (by rw [cells, List.lookup_append, hno]; exact hb) ⟨o, kp _ _ ho, hd⟩ (fun V hV => ?_) ht ?_ (fun hle => absurd hi (by lia))
    ·rw [kinds, s1]
     simp only [Option.map_some]
     split
     ·exact .inl rfl
     ·exact .inr rfl
    ·obtain ⟨v, e, q⟩ := hv V (slotv hV).2
     exact ⟨v, e, q.mono ev⟩
    ·intro e
     have e : a = L := e
     have : h.get? L = none := get_size _
     rw [← e, ho] at this; cases this
  ·rw [if_neg hi] at hs
   rcases hs with hs | hs
   ·exact .loc (by rw [kinds, hs]; rfl)
   ·obtain ⟨a, ha⟩ := Option.isSome_iff_exists.mp (cellsFrom_some scope.names (L + 1) [] x hs)
    have ha : own.lookup x = some a := ha
    have hF : F' a := .inr ⟨x, mem_of_lookup ha⟩
    have hkx : (compEnv' scope (clFrom env scope.names []) h.objs.size env).kindOf x = some .cell := by rw [kinds, hs]; rfl
    refine .cell (.inl hkx) a none (by rw [cells, List.lookup_append, ha]; rfl) (ow.empty x a (mem_of_lookup ha)).1 (fun V hV => absurd (slotv hV).1 hi) (notTr a hF) ?_ (fun _ => ⟨hkx, hF⟩)
    have := (ow.empty x a (mem_of_lookup ha)).2
    exact Nat.ne_of_gt this
 ·rw [cells, List.lookup_append] at hx hy
  have isOwn : ∀ {x : Str} {a : Addr}, own.lookup x = some a → h.get? a = none := fun e => fresh _ (.inr ⟨_, mem_of_lookup e⟩)
  have isCl : ∀ {x : Str} {a : Addr}, (clFrom env scope.names []).lookup x = some a → ∃ o, h.get? a = some o := fun {x a} e => by
   have hm := mem_of_lookup e
   rcases clFrom_free env _ _ x a hm with hm' | hm'
   ·cases hm'
   ·obtain ⟨a', e', o, ho⟩ := frees' _ hm' rfl
    rw [clook e] at e'; cases e'
    exact ⟨o, ho⟩
  cases h1 : own.lookup x with
  | some a1 =>
   rw [h1] at hx; cases hx
   cases h2 : own.lookup y with
   | some a2 => rw [h2] at hy; cases hy; exact name_of_addr ow.apart (mem_of_lookup h1) (mem_of_lookup h2)
   | none => rw [h2] at hy; obtain ⟨o, e⟩ := isCl hy; rw [isOwn h1] at e; cases e
  | none =>
   rw [h1] at hx
   cases h2 : own.lookup y with
   | some a2 => rw [h2] at hy; cases hy; obtain ⟨o, e⟩ := isCl hx; rw [isOwn h2] at e; cases e
   | none => rw [h2] at hy; exact E.ap x y a (clook hx) (clook hy)
 ·have := List.all_eq_true.mp ok2 x hx
  simp only [Bool.or_eq_true, beq_iff_eq] at this
  rw [kinds]
  rcases this with h1 | h1
  ·rw [h1]; exact .inl rfl
  ·rw [h1]
   simp only [Option.map_some]
   split
   ·exact .inl rfl
   ·exact .inr rfl
end
section
noncomputable def compL (d : Nat) (tg : MA) (f : ME Bool) (e : ME V) (Q : List V → Mine.St → Prop) : List V → List V → Env' → Mine.St → Prop
 | [], acc, _, σ => Q acc σ
 | x :: xs, acc, ρ, σ => tg d ρ x σ fun ρ' σ => f d ρ' σ fun z σ => if z then e d ρ' σ fun y σ => compL d tg f e Q xs (acc ++ [y]) ρ' σ else compL d tg f e Q xs acc ρ' σ
theorem VRs.snoc {h : Heap} {S : Nat → Prop} {μ : Nat → Nat} {n : Nat} {vs : List Value} {xs : List V} {v : Value} {x : V} (a : VRs h S μ n vs xs) (b : VR h S μ n v x) : VRs h S μ n (vs ++ [v]) (xs ++ [x]) := a.append (.cons b .nil)
inductive CompI (c : Ctx) (Γ : Gm) (bs : Nat) (env : Env) (F G X' : Nat → Prop) (D : Addr) (xs : List V) (fp : List Addr) (Sn : Nat → Heap → Prop) (σ₂ : Mine.St) (μ₂ : Nat → Nat) (h₂ : Heap) (s : Shared) (L : List V → List V → Env' → Mine.St → Prop) (n : Nat) (s' : Shared) : Prop
 | mk (i : Nat) (acc : List V) (items : List Value) (kk : Nat) (ρ' : Env') (σ' : Mine.St) (μ' : Nat → Nat) (hn : n = xs.length + 1 - i) (hi : i ≤ xs.length) (hai : acc.length ≤ i) (q : L (xs.drop i) acc ρ' σ') (R : Rel c X' σ' μ' s'.heap) (ev : Evf G X' σ₂ μ₂ h₂ σ' μ' s'.heap) (E : EnvR c X' Γ bs env F ρ' σ' μ' s'.heap) (st : Sn i s'.heap)
  (nT : ∀ b ∈ fp, ¬ Tr σ' μ' b) (hD : s'.heap.get? D = some (listO items kk)) (ha : VRs s'.heap (Sx X' σ' μ') μ' σ'.length items acc) (nTD : ¬ Tr σ' μ' D) (g : s'.gens = s.gens) (o : s'.os = s.os) : CompI c Γ bs env F G X' D xs fp Sn σ₂ μ₂ h₂ s L n s'
theorem comp_core {c : Ctx} {A : Around} {d : Nat} {X W F : Nat → Prop} {Γ Γ' : Gm} {bs N k : Nat} {env : Env} {ρ : Env'} {σ σ₂ : Mine.St} {μ μ₂ : Nat → Nat} {s s₂ : Shared} {elt tg iter : Expr} {ifs : List Expr} {scope : Scope} {pos : Pos} {mt : MA} {mf : ME Bool} {me : ME V}
  {xs : List V} {I : Addr} {fp wr : List Addr} {Sn : Nat → Heap → Prop} {Q : List V → Mine.St → Prop} {RR : Value → Addr → Result → Shared → Prop} {cl : List (Str × Addr)}
  (hA : Room A d) (R : Rel c X σ μ s.heap) (E : EnvR c X Γ bs env F ρ σ μ s.heap) (hok : compOk Γ Γ' N scope.names = true) (hkind : scope.kind = .function) (hN : ρ.length = N)
  (ht : SimA c Γ' N tg mt) (hf : SimF c Γ' ifs mf) (he : SimE c Γ' elt me)
  (R₂ : Rel c (fun b => X b ∨ W b) σ₂ μ₂ s₂.heap) (K : Wk c A tg I fp wr xs s₂.heap (Sx (fun b => X b ∨ W b) σ₂ μ₂) μ₂ σ₂.length Sn) (st : Sn 0 s₂.heap) (e₂ : Evσ X σ μ s.heap (fun b => X b ∨ W b) σ₂ μ₂ s₂.heap) (hW : ∀ b, W b → s.heap.get? b = none) (hwr : ∀ b ∈ wr, W b)
  (hfp : ∀ b ∈ fp, ¬ Tr σ₂ μ₂ b ∧ ¬ X b) (g₂ : s₂.gens = s.gens) (o₂ : s₂.os = s.os) (hcl : closureFor scope env = pure cl) (hlen : xs.length ≤ 1000000)
  (q : compL d mt mf me Q xs [] (ρ ++ List.replicate k none) σ₂)
  (hRR : ∀ D C ys σ' μ' s' m, Q ys σ' → Rel c (fun b => X b ∨ b = C) σ' μ' s'.heap → VRσ (fun b => X b ∨ b = C) σ' μ' s'.heap (.ref D) (.fl ys) → Evσ X σ μ s.heap (fun b => X b ∨ b = C) σ' μ' s'.heap → s'.heap.Ns C m → ¬ Tr σ' μ' C → s.heap.get? C = none →
   s'.gens = s.gens → s'.os = s.os → RR (.ref D) C (.ok .next) s') :
  wpAny c.M A (newList []) (fun acc s₃ => wpAny c.M A (newFunctionEnv scope env.globals cl [] env.qual none .none (some env)) (fun cenv s₄ =>
   codeAny c.M A (.compStart (.ListComp elt [⟨tg, iter, ifs, 0⟩] scope pos) 0 (.ref I) acc { cenv with scope := relabel scope env }) (RR acc cenv.locals) s₄) Bot s₃) Bot s₂ := by
 let X₂ : Nat → Prop := fun b => X b ∨ W b
 let D : Addr := s₂.heap.objs.size
 let H3 : Heap := s₂.heap.push (listO [] 0)
 have hDf : s₂.heap.get? D = none := get_size _
 have hD3 : H3.get? D = some (listO [] 0) := Heap.get?_push_size _ rfl
 refine wpAny_newObj_type ?_
 let X₃ : Nat → Prop := fun b => X₂ b ∨ b = D
 obtain ⟨R₃, e₃⟩ := R₂.opens (X' := X₃) (h' := H3) (fun _ _ e => Heap.get?_push_of_some _ e) fun b hb => hb.imp id fun hb => ⟨by rw [hb]; exact hDf, by rw [hb]; exact ⟨_, hD3⟩⟩
 have E₃ : EnvR c X₃ Γ bs env F ρ σ₂ μ₂ H3 := E.mono' (e₂.trans e₃) fun a ha => .inl (.inl (E.fx a ha))
 obtain ⟨cl', hcl', hnames, F', hFC, hF'f, hF'l, hcells, mkE⟩ := compEnvR (k := k) hok hkind hN R₃ E₃
 have : cl' = cl := by rw [hcl] at hcl'; injection hcl' with h; exact h.symm
 subst this
 refine wp_compEnv ?_
 let C : Addr := H3.objs.size
 let H4 : Heap := pushCells (H3.push { cls := .type "dict", data := .dict #[] }) scope.names
 let X₄ : Nat → Prop := fun b => X₃ b ∨ F' b
 have kp4 : ∀ b o, H3.get? b = some o → H4.get? b = some o := fun b o e => pushCells_keeps _ _ b o (Heap.get?_push_of_some _ e)
 obtain ⟨R₄, e₄⟩ := R₃.opens (X' := X₄) (h' := H4) kp4 fun b hb => hb.imp id fun hb => ⟨hF'f b hb, hF'l b hb⟩
 have E₄ := mkE X₄ (fun b hb => .inr hb) R₄ e₄
 let env' := compEnv' scope cl' C env
 let s₄ : Shared := { s₂ with heap := H4 }
 let G : Nat → Prop := fun b => F' b ∨ W b ∨ b = D
 have hGX : ∀ b, G b → X₄ b := fun b hb => by
  rcases hb with h | h | h
  ·exact .inr h
  ·exact .inl (.inl (.inr h))
  ·exact .inl (.inr h)
 have kp24 : ∀ b o, s₂.heap.get? b = some o → H4.get? b = some o := fun b o e => kp4 b o (Heap.get?_push_of_some _ e)
 have hD4 : H4.get? D = some (listO [] 0) := kp4 _ _ hD3
 have hF'D : ¬ F' D := fun h => by have := hF'f D h; rw [hD3] at this; cases this
 have fpl : ∀ b ∈ fp, ∃ o, s₂.heap.get? b = some o := fun b hb => K.live 0 _ st b hb
 have fpD : D ∉ fp := fun h => by obtain ⟨o, e⟩ := fpl D h; rw [hDf] at e; cases e
 have fpF : ∀ b ∈ fp, ¬ F' b := fun b hb h => by obtain ⟨o, e⟩ := fpl b hb; have := hF'f b h; rw [show H3.get? b = some o from Heap.get?_push_of_some _ e] at this; cases this
 have wrD : D ∉ wr := fun h => fpD (K.sub D h)
 have wrF : ∀ b, F' b → b ∉ wr := fun b hb h => fpF b (K.sub b h) hb
 have st₄ : Sn 0 H4 := K.frame 0 _ _ st fun b _ o e => kp24 b o e
 have sW : ∀ b o, s.heap.get? b = some o → ¬ W b := fun b o e hw => by rw [hW b hw] at e; cases e
 have none₂ : ∀ b, s₂.heap.get? b = none → s.heap.get? b = none := fun b hb => by
  cases z : s.heap.get? b with
  | none => rfl
  | some o => obtain ⟨o', e⟩ := e₂.live b o z; rw [hb] at e; cases e
 have noneH3 : ∀ b, H3.get? b = none → s.heap.get? b = none := fun b hb => none₂ b (by
  cases z : s₂.heap.get? b with
  | none => rfl
  | some o => rw [show H3.get? b = some o from Heap.get?_push_of_some _ z] at hb; cases hb)
 have hcellsW : ∀ x i a, Γ'.lookup x = some (some i) → env'.kindOf x ≠ some .local → env'.cells.lookup x = some a → a ∉ wr ∧ a ≠ D := fun x i a hx hk ha => by
  rcases hcells x i a hx hk ha with h | ⟨h1, ⟨j, h2⟩, h3⟩
  ·exact ⟨wrF a h, fun e => hF'D (e ▸ h)⟩
  ·rcases E.ce x j h2 with h4 | ⟨_, a', _, ha', ⟨o, ho, _⟩, _⟩
   ·exact absurd h4 h3
   ·rw [h1] at ha'; cases ha'
    refine ⟨fun hw => sW a o ho (hwr a hw), fun e => ?_⟩
    subst e
    rw [none₂ D hDf] at ho; cases ho
 have nF : ∀ b, F' b → s₂.heap.get? b = none := fun b hb => by
  cases z : s₂.heap.get? b with
  | none => rfl
  | some o => have := hF'f b hb; rw [show H3.get? b = some o from Heap.get?_push_of_some _ z] at this; cases this
 have n4 : ∀ b, H4.get? b = none → s₂.heap.get? b = none := fun b hb => by
  cases z : s₂.heap.get? b with
  | none => rfl
  | some o => rw [kp24 b o z] at hb; cases hb
 have ev24 : ∀ {σ' : Mine.St} {μ' : Nat → Nat} {h' : Heap}, Evf G X₄ σ₂ μ₂ H4 σ' μ' h' → Evo s₂.heap (fun b => Tr σ₂ μ₂ b ∨ W b) (Sx X₂ σ₂ μ₂) μ₂ σ₂.length h' (Fb G σ' μ') (Sx X₄ σ' μ') μ' σ'.length := fun {σ' μ' h'} ev => by
  refine ⟨fun b o hb e => ev.keep b o (fun hz => ?_) (kp24 b o e), fun b o e => ev.live b o (kp24 b o e), fun b hb => hb.elim .inl fun h => .inr (.inr h), fun b hb => ?_, fun b hb => ?_, ev.mu, ev.le⟩
  ·rcases hz with h | h | h | h
   ·exact hb (.inl h)
   ·rw [nF b h] at e; cases e
   ·exact hb (.inr h)
   ·rw [h, hDf] at e; cases e
  ·rcases ev.subT b hb with (h | h | h | h) | h
   ·exact .inl (.inl h)
   ·exact .inr (nF b h)
   ·exact .inl (.inr h)
   ·exact .inr (by rw [h]; exact hDf)
   ·exact .inr (n4 b h)
  ·rcases ev.sub b hb with (h | (h | h) | h) | h
   ·exact .inl (.inl h)
   ·exact .inl (.inr h)
   ·exact .inr (by rw [h]; exact hDf)
   ·exact .inr (nF b h)
   ·exact .inr (n4 b h)
 let Inv : Nat → Shared → Prop := CompI c Γ' N env' F' G X₄ D xs fp Sn σ₂ μ₂ H4 s (compL d mt mf me Q)
 let Body : Nat → Value → Shared → Prop := fun n v s₁' => wpAny c.M A (assign tg env' v) (fun _ s₂ =>
     wpAny c.M A (forIn ifs true fun c r => if r = true then do let ok ← isTrue c env' (eval c env'); pure (ForInStep.yield ok) else pure (ForInStep.yield r)) (fun ok s₃ =>
      if ok = true then wpAny c.M A (eval elt env') (fun x s₄ =>
       wpAny c.M A (call (.builtin "list.append") [.ref D, x]) (fun _ s₅ => ∃ m, m < n ∧ Inv m s₅) Bot s₄) Bot s₃
      else ∃ m, m < n ∧ Inv m s₃) Bot s₂) Bot s₁'
 have turn : ∀ n s', Inv n s' → wpAny c.M A (pyNext (.ref I)) (fun r s₁ => match r with
   | none => RR (.ref D) C (.ok .next) s₁
   | some v => wpAny c.M A (letOwnedTupleGo tg (.ref I) v) (fun _ s₁' => Body n v s₁') Bot s₁) Bot s' := by
  rintro n s' ⟨i, acc, items, kk, ρ', σ', μ', rfl, hi, hai, hq, R', ev', E', st', nT, hD, hacc, nTD, g', o'⟩
  cases hd : xs.drop i with
  | nil =>
   rw [hd] at hq
   have hil : i = xs.length := by have := congrArg List.length hd; simp at this; lia
   subst hil
   refine wpAny_mono (K.done s' (fun s₃ => RR (.ref D) C (.ok .next) s₃) Bot st' fun h' tk keep => ?_) (fun r s₃ hr => ?_) fun _ _ e => e
   ·have hq : Q acc σ' := hq
    have hXw : ∀ b, X b → b ∉ wr := fun b hb hw => (hfp b (K.sub b hw)).2 hb
    have hup : ∀ b, (X b ∨ b = C) → X₄ b := fun b hb => hb.elim (fun h => .inl (.inl (.inl h))) fun h => .inr (h ▸ hFC)
    have hwX : ∀ b ∈ wr, X₄ b := fun b hb => .inl (.inl (.inr (hwr b hb)))
    have hDX : ¬ (X D ∨ D = C) := fun h => by
     rcases h with h | h
     ·obtain ⟨_, o, e⟩ := R₂.sh D (.inl h); rw [hDf] at e; cases e
     ·exact hF'D (by rw [h]; exact hFC)
    have hsub : ∀ b, Tr σ' μ' b → Tr σ μ b ∨ s.heap.get? b = none := fun b hb => by
     rcases ev'.subT b (.inl hb) with (h | h | h | h) | h
     ·exact (e₂.subT b h)
     ·exact .inr (noneH3 b (hF'f b h))
     ·exact .inr (hW b h)
     ·exact .inr (by rw [h]; exact none₂ D hDf)
     ·exact .inr (none₂ b (by
       cases z : s₂.heap.get? b with
       | none => rfl
       | some o => rw [kp24 b o z] at h; cases h))
    obtain ⟨m, hns, _⟩ := E'.lo
    refine hRR D C acc σ' μ' _ m hq (R'.leave keep (fun b hb => ⟨hwX b hb, nT b (K.sub b hb)⟩) fun b hb => ⟨hup b hb, .inl (hb.elim (hXw b) fun h => h ▸ wrF C hFC)⟩) ?_ ?_ ?_ ?_ (noneH3 C (hF'f C hFC)) g' o'
    ·exact .fl (keep D _ wrD hD) (fun h => h.elim nTD hDX) (hacc.leave keep (fun a z => .inr (hwX a z)) fun a z => z.imp id (hup a))
    ·refine ⟨fun b o hb e => keep b o (fun hw => sW b o e (hwr b hw)) (ev'.keep b o (fun hz => ?_) (kp24 b o (e₂.keep b o hb e))), fun b o e => ?_, fun b hb => .inl hb, hsub, fun b hb => ?_, fun j hj => (ev'.mu j (Nat.lt_of_lt_of_le hj e₂.le)).trans (e₂.mu j hj), Nat.le_trans e₂.le ev'.le⟩
     ·rcases hz with h | h | h | h
      ·exact e₂.freeT hb e h
      ·have := noneH3 b (hF'f b h); rw [e] at this; cases this
      ·exact sW b o e h
      ·have := none₂ D hDf; rw [← h, e] at this; cases this
     ·obtain ⟨o1, e1⟩ := e₂.live b o e
      obtain ⟨o2, e2⟩ := ev'.live b o1 (kp24 b o1 e1)
      exact ⟨o2, keep b o2 (fun hw => sW b o e (hwr b hw)) e2⟩
     ·rcases hb with h | h | h
      ·exact (hsub b h).imp .inl id
      ·exact .inl (.inr h)
      ·exact .inr (by rw [h]; exact noneH3 C (hF'f C hFC))
    ·exact hns.at' fun o e => keep _ _ (wrF C hFC) e
    ·exact (E'.fr C hFC).1
   ·obtain ⟨rfl, hr⟩ := hr
    exact hr
  | cons x rest =>
   rw [hd] at hq
   have hx : xs[i]? = some x := by have := congrArg (·[0]?) hd; simpa using this
   have hr : xs.drop (i + 1) = rest := by rw [← List.drop_drop, hd]; rfl
   have hil : i < xs.length := (List.getElem?_eq_some_iff.mp hx).1
   refine wpAny_mono (K.item i x s' (fun v s₃ => Body (xs.length + 1 - i) v s₃) Bot hx st' fun v h' tk ti st₁ keep => ?_) (fun r s₃ hr => by obtain ⟨v, rfl, w⟩ := hr; exact w) fun _ _ e => e
   let s₃ : Shared := { s' with heap := h', toks := tk }
   have hwX : ∀ b ∈ wr, X₄ b ∧ ¬ Tr σ' μ' b := fun b hb => ⟨.inl (.inl (.inr (hwr b hb))), nT b (K.sub b hb)⟩
   have live : ∀ b ∈ wr, ∃ o, h'.get? b = some o := fun b hb => K.live _ _ st₁ b (K.sub b hb)
   have R₅ : Rel c X₄ σ' μ' s₃.heap := R'.wr keep hwX live
   have ev₅ : Evf G X₄ σ' μ' s'.heap σ' μ' s₃.heap := by
    refine ⟨fun b o hb e => keep b o (fun hw => hb (.inr (.inr (.inl (hwr b hw))))) e, fun b o e => ?_, fun b hb => hb.elim .inl fun hg => .inr (hGX b hg), fun b hb => .inl hb, fun b hb => .inl hb, fun _ _ => rfl, Nat.le_refl _⟩
    by_cases hw : b ∈ wr
    ·exact live b hw
    ·exact ⟨o, keep b o hw e⟩
   have E₅ : EnvR c X₄ Γ' N env' F' ρ' σ' μ' s₃.heap := E'.wr keep (fun b hb => (hwX b hb).1) (fun b hb => hb) (fun b hb => ⟨wrF b hb, .inr hb⟩) fun x i a hx hk ha => (hcellsW x i a hx hk ha).1
   have tv : VRσ X₄ σ' μ' s₃.heap v x := ti.vr (ev24 (ev'.trans ev₅)) fun a ha => R'.fresh ha
   have hD₅ : s₃.heap.get? D = some (listO items kk) := keep D _ wrD hD
   have hacc₅ : VRs s₃.heap (Sx X₄ σ' μ') μ' σ'.length items acc := hacc.leave keep (fun a z => .inr (hwX a z).1) fun a z => z
   have toG : ∀ {σa σb : Mine.St} {μa μb : Nat → Nat} {ha hb : Heap}, Evf F' X₄ σa μa ha σb μb hb → Evf G X₄ σa μa ha σb μb hb := fun ev =>
    ⟨fun b o hb e => ev.keep b o (fun hz => hb (hz.imp id .inl)) e, ev.live, fun b hb => hb.elim .inl fun hg => .inr (hGX b hg), fun b hb => hb.elim (fun ht => (ev.subT b (.inl ht)).imp (Or.imp id .inl) id) fun hg => .inl (.inr hg), ev.sub, ev.mu, ev.le⟩
   have step : ∀ {σa σb : Mine.St} {μa μb : Nat → Nat} {ha hb : Heap} {ia : Nat} {accA : List V}, Evf F' X₄ σa μa ha σb μb hb → Sn ia ha → (∀ b ∈ fp, ¬ Tr σa μa b) → ha.get? D = some (listO items kk) → VRs ha (Sx X₄ σa μa) μa σa.length items accA → ¬ Tr σa μa D →
     Sn ia hb ∧ (∀ b ∈ fp, ¬ Tr σb μb b) ∧ hb.get? D = some (listO items kk) ∧ VRs hb (Sx X₄ σb μb) μb σb.length items accA ∧ ¬ Tr σb μb D := by
    intro σa σb μa μb ha hb ia accA ev h1 h2 h3 h4 h5
    have nfp : ∀ b ∈ fp, ¬ Fb F' σa μa b := fun b hb hz => hz.elim (h2 b hb) (fpF b hb)
    refine ⟨K.frame _ _ _ h1 fun b hb o e => ev.keep b o (nfp b hb) e, fun b hb ht => ?_, ev.keep D _ (fun hz => hz.elim h5 hF'D) h3, h4.mono ev, fun ht => ?_⟩
    ·obtain ⟨o, ho⟩ := K.live _ _ h1 b hb
     rcases ev.subT b (.inl ht) with hz | hn
     ·exact nfp b hb hz
     ·rw [ho] at hn; cases hn
    ·rcases ev.subT D (.inl ht) with hz | hn
     ·exact hz.elim h5 hF'D
     ·rw [h3] at hn; cases hn
   have hq' : mt d ρ' x σ' fun ρ' σ => mf d ρ' σ fun z σ => if z then me d ρ' σ fun y σ => compL d mt mf me Q rest (acc ++ [y]) ρ' σ else compL d mt mf me Q rest acc ρ' σ := hq
   refine wpA_seq (ht A d X₄ env' F' ρ' σ' μ' s₃ v x _ hA R₅ E₅ tv hq') fun _ ρ₆ σ₆ μ₆ s₆ q₆ R₆ e₆ E₆ g₆ o₆ => ?_
   obtain ⟨a1, a2, a3, a4, a5⟩ := step e₆ st₁ nT hD₅ hacc₅ nTD
   refine wp_seq (hf A d X₄ N env' F' ρ₆ σ₆ μ₆ s₆ _ hA R₆ E₆ q₆) fun ok z σ₇ μ₇ s₇ q₇ R₇ t₇ e₇ g₇ o₇ => ?_
   have t₇ : ok = z := t₇
   subst t₇
   obtain ⟨b1, b2, b3, b4, b5⟩ := step (e₇.toF E₆.fx) a1 a2 a3 a4 a5
   have E₇ := E₆.mono e₇
   have evA := ((ev'.trans ev₅).trans (toG e₆)).trans (toG (e₇.toF E₆.fx))
   cases ok with
   | false =>
    simp only [Bool.false_eq_true, if_false] at q₇ ⊢
    exact ⟨xs.length + 1 - (i + 1), by lia, i + 1, acc, items, kk, ρ₆, σ₇, μ₇, rfl, hil, by lia, by rw [hr]; exact q₇, R₇, evA, E₇, b1, b2, b3, b4, b5, g₇.trans (g₆.trans g'), o₇.trans (o₆.trans o')⟩
   | true =>
    simp only [if_true] at q₇ ⊢
    refine wp_seq (he A d X₄ N env' F' ρ₆ σ₇ μ₇ s₇ _ hA R₇ E₇ q₇) fun w y σ₈ μ₈ s₈ q₈ R₈ t₈ e₈ g₈ o₈ => ?_
    obtain ⟨c1, c2, c3, c4, c5⟩ := step (e₈.toF E₆.fx) b1 b2 b3 b4 b5
    have E₈ := E₇.mono e₈
    have hlen8 := c4.length
    refine wpAny_list_append_plain ⟨kk, c3⟩ (fun h9 hl9 hs9 => ?_) (le_sizeLine (by simp only [List.size_toArray]; lia))
    obtain ⟨k9, hl9⟩ := hl9
    have hl9' : h9.get? D = some (listO (items ++ [w]) k9) := by rw [hl9]; simp [listO]
    have keep9 : ∀ b o, b ∉ [D] → s₈.heap.get? b = some o → h9.get? b = some o := fun b o hb e => (hs9.2 b (by simpa using hb)).trans e
    have hDX : X₄ D := .inl (.inr rfl)
    have R₉ : Rel c X₄ σ₈ μ₈ h9 := R₈.wr keep9 (fun b hb => by simp at hb; subst hb; exact ⟨hDX, c5⟩) fun b hb => by simp at hb; subst hb; exact ⟨_, hl9'⟩
    have E₉ : EnvR c X₄ Γ' N env' F' ρ₆ σ₈ μ₈ h9 := E₈.wr keep9 (fun b hb => by simp at hb; subst hb; exact hDX) (fun b hb => hb) (fun b hb => ⟨by simp; intro e; exact hF'D (e ▸ hb), .inr hb⟩) fun x i a hx hk ha => by simp; exact (hcellsW x i a hx hk ha).2
    have ev₉ : Evf G X₄ σ₈ μ₈ s₈.heap σ₈ μ₈ h9 := by
     refine ⟨fun b o hb e => keep9 b o (by simp; intro z; exact hb (.inr (.inr (.inr z)))) e, fun b o e => ?_, fun b hb => hb.elim .inl fun hg => .inr (hGX b hg), fun b hb => .inl hb, fun b hb => .inl hb, fun _ _ => rfl, Nat.le_refl _⟩
     by_cases hw : b = D
     ·subst hw; exact ⟨_, hl9'⟩
     ·exact ⟨o, keep9 b o (by simpa using hw) e⟩
    have acc9 : VRs h9 (Sx X₄ σ₈ μ₈) μ₈ σ₈.length (items ++ [w]) (acc ++ [y]) := (c4.snoc t₈).leave keep9 (fun a z => by simp at z; subst z; exact .inr hDX) fun a z => z
    refine ⟨xs.length + 1 - (i + 1), by lia, i + 1, acc ++ [y], items ++ [w], k9, ρ₆, σ₈, μ₈, rfl, hil, by simp; lia, by rw [hr]; exact q₈, R₉, (evA.trans (toG (e₈.toF E₆.fx))).trans ev₉, E₉, K.frame _ _ _ c1 fun b hb o e => keep9 b o (by simp; intro z; exact fpD (z ▸ hb)) e, c2, hl9', acc9, c5, g₈.trans (g₇.trans (g₆.trans g')), o₈.trans (o₇.trans (o₆.trans o'))⟩
 have loop : codeAny c.M A (.compLoop (.ListComp elt [⟨tg, iter, ifs, 0⟩] scope pos) 0 (.ref I) (.ref D) env') (RR (.ref D) C) s₄ :=
  codeAny_compLoop_any Inv turn (xs.length + 1) ⟨0, [], [], 0, _, σ₂, μ₂, by lia, Nat.zero_le _, Nat.le_refl _, by simpa using q, R₄, (Evσ.refl X₄ σ₂ μ₂ H4).toF hGX, E₄, st₄, fun b hb => (hfp b hb).1, hD4, .nil, fun h => R₂.fresh hDf (.inl h), g₂, o₂⟩
 exact codeAny_compStart_list loop (K.self 0 s₄ _ _ st₄ loop)
end
section
noncomputable def compM (it : ME (List V)) (N k : Nat) (tg : MA) (f : ME Bool) (e : ME V) : ME V := fun d ρ σ Q => ρ.length = N ∧ it d ρ σ fun xs σ => xs.length ≤ 1000000 ∧ compL d tg f e (fun ys σ => Q (.fl ys) σ) xs [] (ρ ++ List.replicate k none) σ
theorem Post.letC {c : Ctx} {X : Nat → Prop} {σ σ' : Mine.St} {μ μ' : Nat → Nat} {s s' : Shared} {C : Addr} {v : Value} {y : V} {h' : Heap} {Q : V → Mine.St → Prop} (R : Rel c X σ μ s.heap) (q : Q y σ') (R' : Rel c (fun b => X b ∨ b = C) σ' μ' s'.heap) (t : VRσ (fun b => X b ∨ b = C) σ' μ' s'.heap v y)
  (ev : Evσ X σ μ s.heap (fun b => X b ∨ b = C) σ' μ' s'.heap) (nT : ¬ Tr σ' μ' C) (hC : s.heap.get? C = none) (g : s'.gens = s.gens) (o : s'.os = s.os) (hs : Heap.SameBut C s'.heap h') : Post c RV X σ μ s Q v { s' with heap := h' } := by
 have keep : ∀ b o, b ∉ [C] → s'.heap.get? b = some o → h'.get? b = some o := fun b o hb e => (hs.2 b (by simpa using hb)).trans e
 have hXC : ∀ b, X b → b ∉ [C] := fun b hb hm => by
  simp at hm; subst hm
  obtain ⟨_, o, e⟩ := R.sh _ hb; rw [hC] at e; cases e
 have ne : ∀ b o, s.heap.get? b = some o → b ≠ C := fun b o e z => by rw [z, hC] at e; cases e
 refine ⟨y, σ', μ', q, R'.leave keep (fun b hb => by simp at hb; subst hb; exact ⟨.inr rfl, nT⟩) fun b hb => ⟨.inl hb, .inl (hXC b hb)⟩, t.leave keep (fun a z => by simp at z; subst z; exact .inr (.inr rfl)) fun a z => z.imp id .inl, ?_, g, o⟩
 refine ⟨fun b o hb e => keep b o (by simpa using ne b o e) (ev.keep b o hb e), fun b o e => ?_, fun b hb => .inl hb, ev.subT, fun b hb => ?_, ev.mu, ev.le⟩
 ·obtain ⟨o', e'⟩ := ev.live b o e
  exact ⟨o', keep b o' (by simpa using ne b o e) e'⟩
 ·exact ev.sub b (hb.imp id .inl)
theorem sim_ListComp {c : Ctx} {Γ Γ' : Gm} {N k : Nat} {elt tg iter : Expr} {ifs : List Expr} {scope : Scope} {pos : Pos} {mi : ME (List V)} {mt : MA} {mf : ME Bool} {me : ME V} (hok : compOk Γ Γ' N scope.names = true) (hkind : scope.kind = .function)
  (hi : SimI c Γ iter tg mi) (ht : SimA c Γ' N tg mt) (hf : SimF c Γ' ifs mf) (he : SimE c Γ' elt me) (hs : ∀ env x, foldedSetIterable iter env x = pure x) :
  SimE c Γ (.ListComp elt [⟨tg, iter, ifs, 0⟩] scope pos) (compM mi N k mt mf me) := by
 intro A d X bs env F ρ σ μ s Q hA R E ⟨hN, h⟩
 obtain ⟨cl, hcl, hnames, -⟩ := compEnvR (k := k) hok hkind hN R E
 rw [eval_ListComp]
 refine wpAny_comprehension_free (use := none) rfl (hs env) hcl hkind hnames (wpAny_mono (hi A d X bs env F ρ σ μ s _ hA R E h) (fun x s₁ hx => wpAny_mono hx (fun it s₂ hp => ?_) fun _ _ e => e) fun _ _ e => e)
 obtain ⟨xs, σ₂, μ₂, I, fp, wr, Sn, W, ⟨hlen, q⟩, rfl, R₂, K, st, e₂, hW, hwr, hfp, g₂, o₂⟩ := hp
 refine comp_core (RR := fun acc C => compPost c.M A Bot none (Post c RV X σ μ s Q) acc C) hA R E hok hkind hN ht hf he R₂ K st e₂ hW hwr hfp g₂ o₂ hcl hlen q ?_
 intro D C ys σ' μ' s' m q' R' t' ev' hns nT hC g' o'
 exact ⟨m, hns, fun h' hs' => Post.letC R q' R' t' ev' nT hC g' o' hs'⟩
theorem sim_AssignComp {c : Ctx} {Γ Γ' : Gm} {bs N k i : Nat} {x : Str} {px : Pos} {elt tg iter : Expr} {ifs : List Expr} {scope : Scope} {pos spos : Pos} {mi : ME (List V)} {mt : MA} {mf : ME Bool} {me : ME V} (hok : compOk Γ Γ' N scope.names = true) (hkind : scope.kind = .function)
  (hi : SimI c Γ iter tg mi) (ht : SimA c Γ' N tg mt) (hf : SimF c Γ' ifs mf) (he : SimE c Γ' elt me) (hx : Γ.lookup x = some (some i)) (hbi : bs ≤ i) (hs : ∀ env x, foldedSetIterable iter env x = pure x) :
  SimS c Γ bs (.Assign [.Name x px] (.ListComp elt [⟨tg, iter, ifs, 0⟩] scope pos) spos) (asgM (nmA i) (compM mi N k mt mf me)) := by
 intro A d X env F ρ σ μ s Q hA R E h
 have hb : ∃ b, swapsWith (.ListComp elt [⟨tg, iter, ifs, 0⟩] scope pos) (some (.Name x px)) spos.line env = pure b := ⟨_, rfl⟩
 obtain ⟨b, hb⟩ := hb
 cases b with
 | false =>
  refine wpAny_Assign_Name (wp_seq (sim_ListComp (k := k) hok hkind hi ht hf he hs A d X bs env F ρ σ μ s _ hA R E h) fun u y σ₁ μ₁ s₁ q R₁ t₁ e₁ g₁ o₁ => ?_) hb
  refine wpA_seq (wp_store (Q := fun ρ σ => Q .next ρ σ) R₁ (E.mono e₁) hx hbi t₁ q) fun _ ρ₂ σ₂ μ₂ s₂ q₂ R₂ e₂ E₂ g₂ o₂ => ?_
  exact ⟨_, _, _, _, q₂, R₂, .next, (e₁.toF E.fx).trans e₂, E₂, g₂.trans g₁, o₂.trans o₁⟩
 | true =>
  obtain ⟨hN, h⟩ := h
  obtain ⟨cl, hcl, hnames, -⟩ := compEnvR (k := k) hok hkind hN R E
  rw [exec_Assign_Name_used _ _ _ _ hb]
  refine wpAny_bind (wpAny_standAt (wpAny_bind ?_))
  show wpAny _ A (do let _ ← comprehension (.ListComp elt [⟨tg, iter, ifs, 0⟩] scope pos) scope env _ (newList []) false (eval iter env) (some (assign (.Name x px) env))) _ _ s
  refine wpAny_bind (wpAny_mono (wpAny_comprehension_free (use := some (assign (.Name x px) env)) (Q := fun _ s' => PostS c Γ bs env F X σ μ s Q .next s') rfl (hs env) hcl hkind hnames
   (wpAny_mono (hi A d X bs env F ρ σ μ s _ hA R E h) (fun xv s₁ hx' => wpAny_mono hx' (fun it s₂ hp => ?_) fun _ _ e => e) fun _ _ e => e)) (fun _ s' hq => wpAny_pure (wpAny_pure hq)) fun _ _ e => e)
  obtain ⟨xs, σ₂, μ₂, I, fp, wr, Sn, W, ⟨hlen, q⟩, rfl, R₂, K, st, e₂, hW, hwr, hfp, g₂, o₂⟩ := hp
  refine comp_core (RR := fun acc C => compPost c.M A Bot (some (assign (.Name x px) env)) (fun _ s' => PostS c Γ bs env F X σ μ s Q .next s') acc C) hA R E hok hkind hN ht hf he R₂ K st e₂ hW hwr hfp g₂ o₂ hcl hlen q ?_
  intro D C ys σ' μ' s' m q' R' t' ev' hns nT hC g' o'
  have hFC : ¬ F C := fun hf => by obtain ⟨_, _, o, e⟩ := E.fr C hf; rw [hC] at e; cases e
  have E' : EnvR c (fun b => X b ∨ b = C) Γ bs env F ρ σ' μ' s'.heap := E.mono' ev' fun a ha => .inl (E.fx a ha)
  show wpAny c.M A (assign (.Name x px) env (.ref D)) _ _ _
  refine wpAny_assign_Name (wpA_seq (wp_store (Q := fun ρ σ => Q .next ρ σ) R' E' hx hbi t' q') fun _ ρ₃ σ₃ μ₃ s₃ q₃ R₃ e₃ E₃ g₃ o₃ => ?_)
  have hCl : ∃ o, s'.heap.get? C = some o := by obtain ⟨o, _, _, e, _⟩ := hns; exact ⟨o, e⟩
  have nT₃ : ¬ Tr σ₃ μ₃ C := fun ht => by
   obtain ⟨o, e⟩ := hCl
   rcases e₃.subT C (.inl ht) with (h | h) | h
   ·exact nT h
   ·exact hFC h
   ·rw [e] at h; cases h
  refine ⟨m, hns.at' fun o e => e₃.keep C o (fun hz => hz.elim nT hFC) e, fun h' hs' => ?_⟩
  have keep : ∀ b o, b ∉ [C] → s₃.heap.get? b = some o → h'.get? b = some o := fun b o hb e => (hs'.2 b (by simpa using hb)).trans e
  have ne : ∀ b o, s.heap.get? b = some o → b ≠ C := fun b o e z => by rw [z, hC] at e; cases e
  have hXC : ∀ b, X b → b ∉ [C] := fun b hb hm => by
   simp at hm; subst hm
   obtain ⟨_, o, e⟩ := R.sh _ hb; rw [hC] at e; cases e
  have hcell : ∀ x i a, Γ.lookup x = some (some i) → env.kindOf x ≠ some .local → env.cells.lookup x = some a → a ∉ [C] := fun x i a hx hk ha hm => by
   simp at hm; subst hm
   rcases E.ce x i hx with h4 | ⟨_, a', _, ha', ⟨o, ho, _⟩, _⟩
   ·exact hk h4
   ·rw [ha] at ha'; cases ha'; rw [hC] at ho; cases ho
  refine ⟨.next, ρ₃, σ₃, μ₃, q₃, R₃.leave keep (fun b hb => by simp at hb; subst hb; exact ⟨.inr rfl, nT₃⟩) fun b hb => ⟨.inl hb, .inl (hXC b hb)⟩, .next, ?_, ?_, g₃.trans g', o₃.trans o'⟩
  ·have noneC : ∀ b, s'.heap.get? b = none → s.heap.get? b = none := fun b hb => by
    cases z : s.heap.get? b with
    | none => rfl
    | some o => obtain ⟨o', e⟩ := ev'.live b o z; rw [hb] at e; cases e
   have hsub : ∀ b, Tr σ₃ μ₃ b → Fb F σ μ b ∨ s.heap.get? b = none := fun b hb => by
    rcases e₃.subT b (.inl hb) with (h | h) | h
    ·exact (ev'.subT b h).imp .inl id
    ·exact .inl (.inr h)
    ·exact .inr (noneC b h)
   refine ⟨fun b o hb e => keep b o (by simpa using ne b o e) (e₃.keep b o (fun hz => ?_) (ev'.keep b o (fun ht => hb (.inl ht)) e)), fun b o e => ?_, fun b hb => hb.elim .inl fun hf => .inr (E.fx b hf), fun b hb => ?_, fun b hb => ?_, fun j hj => (e₃.mu j (Nat.lt_of_lt_of_le hj ev'.le)).trans (ev'.mu j hj), Nat.le_trans ev'.le e₃.le⟩
   ·rcases hz with h | h
    ·exact ev'.freeT (fun ht => hb (.inl ht)) e h
    ·exact hb (.inr h)
   ·obtain ⟨o1, e1⟩ := ev'.live b o e
    obtain ⟨o2, e2⟩ := e₃.live b o1 e1
    exact ⟨o2, keep b o2 (by simpa using ne b o e) e2⟩
   ·rcases hb with h | h
    ·exact hsub b h
    ·exact .inl (.inr h)
   ·rcases hb with h | h
    ·rcases hsub b h with (h1 | h1) | h1
     ·exact .inl (.inl h1)
     ·exact .inl (.inr (E.fx b h1))
     ·exact .inr h1
    ·exact .inl (.inr h)
  ·exact E₃.wr keep (fun b hb => by simp at hb; subst hb; exact .inr rfl) (fun b hb => .inl hb) (fun b hb => ⟨by simp; intro z; exact hFC (z ▸ hb), E.fx b hb⟩) hcell
end
section
theorem VRs.one {h : Heap} {S : Nat → Prop} {μ : Nat → Nat} {n : Nat} {vs : List Value} {x : V} (t : VRs h S μ n vs [x]) : ∃ v, vs = [v] ∧ VR h S μ n v x := by
 cases t with | cons a b => cases b; exact ⟨_, rfl, a⟩
theorem VRs.two {h : Heap} {S : Nat → Prop} {μ : Nat → Nat} {n : Nat} {vs : List Value} {x y : V} (t : VRs h S μ n vs [x, y]) : ∃ v w, vs = [v, w] ∧ VR h S μ n v x ∧ VR h S μ n w y := by
 cases t with | cons a b => obtain ⟨w, rfl, b'⟩ := b.one; exact ⟨_, _, rfl, a, b'⟩
theorem VRs.three {h : Heap} {S : Nat → Prop} {μ : Nat → Nat} {n : Nat} {vs : List Value} {x y z : V} (t : VRs h S μ n vs [x, y, z]) : ∃ v w u, vs = [v, w, u] ∧ VR h S μ n v x ∧ VR h S μ n w y ∧ VR h S μ n u z := by
 cases t with | cons a b => obtain ⟨w, u, rfl, b', e⟩ := b.two; exact ⟨_, _, _, rfl, a, b', e⟩
section
variable {c : Ctx} {d : Nat} {σ : Mine.St} {Q : V → Mine.St → Prop}
theorem callT_len_list {x : V} (h : lsP σ x fun l => l.length ≤ 1000000 ∧ Q (.int l.length) σ) : CallT c (.builtin "len") d [x] σ Q := by
 intro A X μ s vs hA R ts
 obtain ⟨v, rfl, t⟩ := ts.one
 obtain ⟨a, items, n, l, rfl, e, tl, ⟨hl, q⟩⟩ := ls_is R t h
 have el := tl.length
 refine Calls.call_len_list (isList e) (by simp only [List.size_toArray]; lia) ?_
 simp only [List.size_toArray, el]
 exact Post.tok R (.int _ _) q
theorem callT_append {i : Nat} {y : V} {l : List V} (e : σ[i]? = some (some (.list l))) (hl : l.length ≤ 1000000) (q : Q .none (σ.set i (some (.list (l ++ [y]))))) : CallT c (.builtin "list.append") d [.ref i, y] σ Q := by
 intro A X μ s vs hA R ts
 obtain ⟨v, w, rfl, t, ty⟩ := ts.two
 obtain ⟨rfl, hi⟩ := t.inv
 obtain ⟨items, k, g, tl⟩ := (R.obj i _ e).inv
 have el := tl.length
 refine wpAny_list_append_plain ⟨k, g⟩ (fun h' hl' hs => ?_) (le_sizeLine (by simp only [List.size_toArray]; lia))
 obtain ⟨k', hl'⟩ := hl'
 have hl'' : h'.get? (μ i) = some (listO (items ++ [w]) k') := by rw [hl']; simp [listO]
 have r := R.upd (p := .list (l ++ [y])) e hs ⟨_, hl''⟩ fun ev => .list hl'' ((tl.mono ev).snoc (ty.mono ev))
 exact ⟨_, _, μ, q, r.1, .none, r.2, rfl, rfl⟩
theorem callT_count {x y : V} {dy : PyData} (e1 : y.py = some dy) (h : lsP σ x fun l => ∃ ds, V.pys l = some ds ∧ SeqAt.shaped (.list (dy :: ds)) = true ∧ Q (.int (ds.countP (PyData.eqv · dy))) σ) : CallT c (.builtin "list.count") d [x, y] σ Q := by
 intro A X μ s vs hA R ts
 have hu := hA.units
 obtain ⟨v, w, rfl, t, ty⟩ := ts.two
 obtain ⟨a, items, n, l, rfl, g, tl, ⟨ds, e2, sh, q⟩⟩ := ls_is R t h
 obtain ⟨e, h1, _, h3, _⟩ := items_eq (s := s) (A := A) (by lia) ty tl e1 e2 sh
 refine call_meets (T := "list") (name := "count") F.slot_list_count ⟨_, g, rfl⟩ F.entry_list_count (F.args_list_count_2 _ _) (SeqAt.list_countAt a items.toArray n none #[] _ e) ⟨g, ?_, ?_⟩
 ·exact h1
 ·show Post c RV X σ μ s Q _ _
  rw [List.toList_toArray, h3]
  exact Post.tok R (.int _ _) q
theorem callT_bitlen {i : Int} (q : Q (.int (Builtin.Int.intBits i)) σ) : CallT c (.builtin "int.bit_length") d [.int i] σ Q := by
 intro A X μ s vs hA R ts
 obtain ⟨v, rfl, t⟩ := ts.one
 cases t
 exact call_int_bit_length (Post.tok R (.int _ _) q)
theorem callT_int {i : Int} (q : Q (.int i) σ) : CallT c (.type "int") d [.int i] σ Q := by
 intro A X μ s vs hA R ts
 obtain ⟨v, rfl, t⟩ := ts.one
 cases t
 exact call_int_int (Post.here R (.int _ _) q)
theorem Post.newRng {X : Nat → Prop} {μ : Nat → Nat} {s : Shared} {a b e : Int} {t u v : Tok} {tk : Nat} (R : Rel c X σ μ s.heap) (q : Q (.rng a b e) σ) :
  Post c RV X σ μ s Q (.ref s.heap.objs.size) { s with heap := s.heap.push { cls := .type "range", data := .fields #[.int a t, .int b u, .int e v] }, toks := tk } :=
 have p := R.push { cls := .type "range", data := .fields #[.int a t, .int b u, .int e v] }
 ⟨_, σ, μ, q, p.1, .rng (Heap.get?_push_size _ rfl) (fun f => R.fresh (get_size _) f), p.2, rfl, rfl⟩
theorem callT_range1 {n : Int} (q : Q (.rng 0 n 1) σ) : CallT c (.type "range") d [.int n] σ Q := by
 intro A X μ s vs hA R ts
 obtain ⟨v, rfl, t⟩ := ts.one
 cases t
 exact call_range_1 (Post.newRng R q)
theorem callT_tuple_tup {l : List V} (q : Q (.tup l) σ) : CallT c (.type "tuple") d [.tup l] σ Q := by
 intro A X μ s vs hA R ts
 obtain ⟨v, rfl, t⟩ := ts.one
 obtain ⟨a, items, rfl, e, f, tl⟩ := t.inv
 exact call_tuple_same ⟨_, e, rfl, 0, rfl⟩ (Post.here R (.tup e f tl) q)
theorem callT_list_range {a b st : Int} (h0 : st ≠ 0) (hs : Builtin.Range.small a b st = true) (hn : (Builtin.Range.rangeSize a b st).toNat ≤ 1000000)
  (q : Q (.fl ((List.range (Builtin.Range.rangeSize a b st).toNat).map fun (i : Nat) => V.int (a + i * st))) σ) : CallT c (.type "list") d [.rng a b st] σ Q := by
 intro A X μ s vs hA R ts
 obtain ⟨v, rfl, t⟩ := ts.one
 obtain ⟨_, _, _, _, rfl, e, f⟩ := t.inv
 have hp := rangeSize_nonneg a b st
 refine call_list_range (n := (Builtin.Range.rangeSize a b st).toNat) hA.handled e hs (by lia) (by lia) fun h' tk acc' c' keep hn' hit => ?_
 have p := R.keeps keep
 refine ⟨_, σ, μ, q, p.1, .fl (items := acc'.toList) (k := c') (by simpa [listO] using hn') (fun z => R.fresh (get_size _) z) ?_, p.2, rfl, rfl⟩
 obtain ⟨h1, h2⟩ := hit
 have gen : ∀ (k : Nat) (l : List Value), l.length = (Builtin.Range.rangeSize a b st).toNat - k → (∀ j v, l[j]? = some v → ∃ t, v = Value.int (a + ((k + j : Nat) : Int) * st) t) → VRs h' (Sx X σ μ) μ σ.length l (((List.range (Builtin.Range.rangeSize a b st).toNat).drop k).map fun (i : Nat) => V.int (a + i * st)) := by
  intro k l
  induction l generalizing k with
  | nil => intro hl _; rw [List.drop_of_length_le (by simp at hl ⊢; lia)]; exact .nil
  | cons v vs ih =>
   intro hl hv
   have hk : k < (Builtin.Range.rangeSize a b st).toNat := by simp at hl; lia
   rw [List.drop_eq_getElem_cons (by simpa using hk)]
   obtain ⟨t, rfl⟩ := hv 0 v rfl
   refine .cons ?_ (ih (k + 1) (by simp at hl; lia) fun j v hj => ?_)
   ·simp only [List.getElem_range, Nat.add_zero]; exact .int _ _
   ·obtain ⟨t, ht⟩ := hv (j + 1) v (by simpa using hj)
    exact ⟨t, by rw [ht, show k + 1 + j = k + (j + 1) by lia]⟩
 have := gen 0 acc'.toList (by simpa using h1) fun j v hj => by
  obtain ⟨t, ht⟩ := h2 j v (by simpa using hj)
  exact ⟨t, by rw [ht, Nat.zero_add]⟩
 simpa using this
end
end
section
section
variable {c : Ctx} {d : Nat} {σ : Mine.St} {Q : V → Mine.St → Prop}
open scoped Classical in
theorem callT_get {i : Nat} {k y0 : V} {kvs : List (V × V)} (ok : c.Ok) (e : σ[i]? = some (some (.dict kvs))) (hk : keyP kvs k) (h1 : ∀ y, dget kvs k = some y → Q y σ) (h2 : dget kvs k = none → Q y0 σ) : CallT c (.builtin "dict.get") d [.ref i, k, y0] σ Q := by
 intro A X μ s vs hA R ts
 have hu := hA.units
 obtain ⟨v, w, u, rfl, t, tk, ty⟩ := ts.three
 obtain ⟨rfl, hi⟩ := t.inv
 have nm := notMod ok R e
 obtain ⟨_, _, e1, x, un, okk⟩ := (R.obj i _ e).inv
 obtain ⟨k1, k2, k3, k4⟩ := hk
 cases tk with
 | int j tk =>
  obtain ⟨ps, hd, p⟩ := dict_of (embInt c.prog c.w) e1 x un (like_int k3)
  refine call_meetsIn F.slot_dict_get hd.typeIs F.entry_dict_get (F.args_dict_get_3 _ _ _) (meets_dict_get_default (intKind c.prog c.w) _ (intKind_is _ _ _ _) nm _) ⟨_, hd.mapOf, ?_⟩
  show Post c RV X σ μ s Q _ _
  rcases p.at (embInt c.prog c.w) j with ⟨a1, a2⟩ | ⟨v, y', a1, a2, a3⟩
  ·rw [a2]; exact Post.tok R ty (h2 a1)
  ·rw [a2]; exact Post.tok R a3 (h1 _ a1)
 | str j tk =>
  obtain ⟨ps, hd, p⟩ := dict_of (embStr c.prog c.w) e1 x un (like_str k3)
  refine call_meetsIn F.slot_dict_get hd.typeIs F.entry_dict_get (F.args_dict_get_3 _ _ _) (meets_dict_get_default (strKind c.prog c.w) _ (strKind_is _ _ _ _) nm _) ⟨_, hd.mapOf, ?_⟩
  show Post c RV X σ μ s Q _ _
  rcases p.at (embStr c.prog c.w) j with ⟨a1, a2⟩ | ⟨v, y', a1, a2, a3⟩
  ·rw [a2]; exact Post.tok R ty (h2 a1)
  ·rw [a2]; exact Post.tok R a3 (h1 _ a1)
 | tup g f t =>
  obtain ⟨ps, hd, p⟩ := tdict_of e1 x un okk (like_tup k3)
  refine call_meetsIn F.slot_dict_get hd.typeIs F.entry_dict_get (F.args_dict_get_3 _ _ _) (meetsH_dict_get_default (tupKind c.prog c.w) _ _ nm _) ⟨by show A.units + 1 + 16 < cLine; lia, _, ps, ⟨KR.of (.tup g f t) k1, k2⟩, hd, ?_⟩
  show Post c RV X σ μ s Q _ _
  rcases p.at (fun p hp => (okk p hp).1) k1 with ⟨a1, a2⟩ | ⟨a, v, y', a1, a2, a3⟩
  ·rw [a2]; exact Post.tok R ty (h2 a1)
  ·rw [a2]; exact Post.tok R a3 (h1 _ a1)
 | _ => cases k1
noncomputable def V.ints : List V → Option (List Int)
 | [] => some []
 | .int i :: l => (V.ints l).map (i :: ·)
 | _ => Option.none
theorem VRs.ints {h : Heap} {S : Nat → Prop} {μ : Nat → Nat} {n : Nat} {vs : List Value} {l : List V} {is : List Int} (t : VRs h S μ n vs l) (e : V.ints l = some is) : ∀ j v, vs[j]? = some v → ∃ t, v = Value.int (is.getD j 0) t := by
 induction l generalizing vs is with
 | nil => cases t; simp
 | cons x xs ih =>
  cases t with
  | cons a b =>
   cases x with
   | int i =>
    simp only [V.ints, Option.map_eq_some_iff] at e
    obtain ⟨is', e, rfl⟩ := e
    intro j v hj
    cases j with
    | zero => simp at hj; subst hj; cases a; exact ⟨_, rfl⟩
    | succ j => simpa using ih b e j v (by simpa using hj)
   | _ => simp [V.ints] at e
theorem V.ints_length {l : List V} {is : List Int} (e : V.ints l = some is) : is.length = l.length := by
 induction l generalizing is with
 | nil => cases e; rfl
 | cons x xs ih =>
  cases x with
  | int i =>
   simp only [V.ints, Option.map_eq_some_iff] at e
   obtain ⟨is', e, rfl⟩ := e
   simp [ih e]
  | _ => simp [V.ints] at e
theorem preSum_take (is : List Int) : ∀ k, k ≤ is.length → preSum (fun j => is.getD j 0) k = (is.take k).sum
 | 0, _ => rfl
 | k + 1, h => by
  have hk : k < is.length := h
  rw [preSum, preSum_take is k (by lia), List.take_succ_eq_append_getElem hk, List.sum_append]
  simp [hk]
theorem preSum_sum (is : List Int) : preSum (fun j => is.getD j 0) is.length = is.sum := by
 rw [preSum_take is _ (Nat.le_refl _), List.take_length]
theorem callT_sum {l : List V} {is : List Int} (e : V.ints l = some is) (q : Q (.int is.sum) σ) : CallT c (.builtin "sum") d [.fl l] σ Q := by
 intro A X μ s vs hA R ts
 obtain ⟨v, rfl, t⟩ := ts.one
 obtain ⟨a, items, n, rfl, g, f, tl⟩ := t.inv
 have el := tl.length
 have hne : a ≠ s.heap.objs.size := Nat.ne_of_lt (Heap.lt_size g)
 have hIn : A.in1.handled = none := hA.handled
 refine call_sum_walkG (wpAny_pyIter_list (isList g) ⟨s.heap.objs.size, [s.heap.objs.size, a], [s.heap.objs.size], items.toArray.size, _, _, (fun j => is.getD j 0), rfl, Walks.list hIn _ _ hne items.toArray, ⟨⟨_, Heap.get?_push_size _ rfl, rfl, rfl⟩, isList (Heap.get?_push_of_some _ g)⟩, fun b hb => ?_, fun i v hv => tl.ints e i v (by simpa using hv), fun h' tk t' keep => ?_⟩)
 ·simp only [List.mem_cons, List.not_mem_nil, or_false] at hb
  have hs := Heap.lt_size g
  show b < (s.heap.push _).objs.size
  rw [Heap.size_push]
  rcases hb with rfl | rfl
  ·exact Nat.lt_succ_self _
  ·exact Nat.lt_succ_of_lt hs
 ·have hsz : items.toArray.size = is.length := by rw [V.ints_length e]; simpa using el
  rw [hsz, preSum_sum]
  have keep' : ∀ b o, s.heap.get? b = some o → h'.get? b = some o := fun b o e => keep b o (by
   have := Heap.lt_size e
   simp only [List.mem_cons, List.not_mem_nil, or_false]; exact Nat.ne_of_lt this) (Heap.get?_push_of_some _ e)
  exact Post.keeps R keep' (fun _ _ => .int _ _) q
end
end
section
theorem wp_callWithG {c : Ctx} {Γ : Gm} {A : Around} {d : Nat} {X : Nat → Prop} {bs : Nat} {env : Env} {F : Nat → Prop} {ρ : Env'} {σ : Mine.St} {μ : Nat → Nat} {s : Shared} {f : Value} {first : List Value} {args : List Expr} {b : ME (List V)} {pos : Pos} {Qb : List V → Mine.St → Prop} {Q : Value → Shared → Prop}
  (ok : c.Ok) (hk : keepOk c.K f = true) (hb : SimEs c Γ args b) (hp : (backTo pos (starEach args env)).any (·.1) = false) (hA : Room A d) (R : Rel c X σ μ s.heap) (E : EnvR c X Γ bs env F ρ σ μ s.heap) (h : b d ρ σ Qb)
  (k : ∀ vs xs σ₁ μ₁ s₁, Qb xs σ₁ → Rel c X σ₁ μ₁ s₁.heap → VRs s₁.heap (Sx X σ₁ μ₁) μ₁ σ₁.length vs xs → Evσ X σ μ s.heap X σ₁ μ₁ s₁.heap → s₁.gens = s.gens → s₁.os = s.os → wpAny c.M A (call f (first ++ vs)) Q Bot s₁) :
  wpAny c.M A (callWith pos f first (backTo pos (starEach args env)) []) Q Bot s := by
 have key : wpAny c.M A (spliced (backTo pos (starEach args env))) (fun vs s₁ => (∀ b o, c.h0.get? b = some o → s₁.heap.get? b = some o) ∧ wpAny c.M A (call f (first ++ vs)) Q Bot s₁) Bot s :=
  wp_seq (hb A d X bs env F ρ σ μ s _ pos hA R E h) fun vs xs σ₁ μ₁ s₁ q R₁ t₁ e₁ g₁ o₁ => ⟨R₁.base, k vs xs σ₁ μ₁ s₁ q R₁ t₁ e₁ g₁ o₁⟩
 cases hargs : backTo pos (starEach args env) with
 | nil =>
  rw [hargs] at key
  exact callWith_of rfl (fun h' X' => keeps_ok ok hk h' X') (evalArgs_none' key)
 | cons z zs =>
  obtain ⟨st, x⟩ := z
  rw [hargs] at hp key
  simp only [List.any_cons, Bool.or_eq_false_iff] at hp
  obtain ⟨hst, hz⟩ := hp
  subst hst
  exact callWith_of (by simp [hz]) (fun h' X' => keeps_ok ok hk h' X') (evalArgs_plain key)
noncomputable def enumV (l : List V) : List V := l.zipIdx.map fun p => V.tup [.int p.2, p.1]
noncomputable def zipV (l r : List V) : List V := (l.zip r).map fun p => V.tup [p.1, p.2]
noncomputable def enumM (b : ME (List V)) : ME (List V) := fun d ρ σ Q => b d ρ σ fun xs σ => (fl1 xs).elim False fun l => Q (enumV l.1) σ
theorem simI_enum {c : Ctx} {Γ : Gm} {args elts : List Expr} {k : Nat} {p pos tpos : Pos} {b : ME (List V)} (ok : c.Ok) (hf : c.mg "enumerate" = none ∧ c.mb "enumerate" = some (.type "enumerate")) (hb : SimEs c Γ args b) (hx : Γ.lookup "enumerate" = some none)
  (hp : ∀ env, (backTo pos (starEach args env)).any (·.1) = false) : SimI c Γ (.Call (.Name "enumerate" p) args [] pos) (.Tuple elts k tpos) (enumM b) := by
 intro A d X bs env F ρ σ μ s Q hA R E h
 refine wpAny_Call_NameR (wpAny_Name (wp_loadGlobal ok R E hx (.inr hf) ?_) (by decide +kernel))
 refine wp_callWithG (first := []) ok rfl hb (hp env) hA R E h fun vs xs σ₁ μ₁ s₁ q R₁ t₁ e₁ g₁ o₁ => ?_
 obtain ⟨⟨l, rfl⟩, q⟩ := elimP q
 ·obtain ⟨v, rfl, t⟩ := t₁.one
  obtain ⟨a, items, n, rfl, g, f, tl⟩ := t.inv
  refine call_enumerate_list (isList g) fun h' he hit hsz keep => ?_
  let e : Addr := s₁.heap.objs.size + 1
  let it : Addr := s₁.heap.objs.size
  have hlt := Heap.lt_size g
  have hei : e ≠ it := Nat.succ_ne_self _
  have hle : a ≠ e := Nat.ne_of_lt (Nat.lt_succ_of_lt hlt)
  have hli : a ≠ it := Nat.ne_of_lt hlt
  let W : Nat → Prop := fun b => b = e ∨ b = it
  have hWn : ∀ b, W b → s₁.heap.get? b = none := fun b hb => by
   rcases hb with rfl | rfl
   ·exact get_above (Nat.le_succ _)
   ·exact get_size _
  obtain ⟨R', e'⟩ := R₁.opens (X' := fun b => X b ∨ W b) (h' := h') keep fun b hb => hb.imp id fun hb => ⟨hWn b hb, by
   rcases hb with rfl | rfl
   ·exact ⟨_, he⟩
   ·obtain ⟨o, ho, _⟩ := hit; exact ⟨o, ho⟩⟩
  have hfI : ∀ b, W b → ¬ Tr σ₁ μ₁ b ∧ ¬ X b := fun b hb => by
   have := R₁.fresh (hWn b hb)
   exact ⟨fun z => this (.inl z), fun z => this (.inr z)⟩
  have tt := tl.mono e'
  have hnone : ∀ b, s₁.heap.get? b = none → s.heap.get? b = none := fun b hb => by
   cases z : s.heap.get? b with
   | none => rfl
   | some o => obtain ⟨o', e⟩ := e₁.live b o z; rw [hb] at e; cases e
  have hA1 : A.handled = none := hA.handled
  have hlen : (enumV l).length = items.length := by simp [enumV, tl.length]
  refine wpAny_pyIter_enum (s := { s₁ with heap := h' }) he ⟨enumV l, σ₁, μ₁, e, [e, it, a], [e, it], (fun i h => (∃ old, IsEnum h e it i old) ∧ h.IsListIter it a i ∧ h.IsList a items.toArray), W, q, rfl, R', ?_, ⟨⟨_, he⟩, hit, isList (keep _ _ g)⟩, e₁.trans e', fun b hb => hnone b (hWn b hb), fun b hb => by simpa [W] using hb, fun b hb => ?_, g₁, o₁⟩
  ·have WT := WalksT.enumerate (prog := c.prog) (w := c.w) hA1 e it a hei hle hli items.toArray
   refine ⟨WT.sub, WT.frame, fun i h st b hb => ?_, fun i x s P' E' hx st hP => ?_, fun s P' E' st hP => ?_, WT.self⟩
   ·obtain ⟨⟨_, h1⟩, ⟨o, h2, _⟩, ⟨o', h3, _⟩⟩ := st
    simp only [List.mem_cons, List.not_mem_nil, or_false] at hb
    rcases hb with rfl | rfl | rfl
    ·exact ⟨_, h1⟩
    ·exact ⟨_, h2⟩
    ·exact ⟨_, h3⟩
   ·obtain ⟨⟨old, h1⟩, h2, h3⟩ := st
    have hi : i < items.length := by rw [← hlen]; exact (List.getElem?_eq_some_iff.mp hx).1
    have hl2 : i < l.length := by rw [← tl.length]; exact hi
    have hxe : x = V.tup [.int i, l[i]] := by
     simp only [enumV, List.getElem?_map, List.getElem?_zipIdx, List.getElem?_eq_getElem hl2, Option.map_some, Option.some.injEq, Nat.zero_add] at hx
     exact hx.symm
    subst hxe
    obtain ⟨v, hv, tv⟩ := tt.get (List.getElem?_eq_getElem hl2)
    refine wpAny_pyNext_enum_item h1 h2 h3 (x := v) (by simpa using hv) hei fun h'' ho hit' hT hsz' hk => ⟨_, rfl, ?_⟩
    have hlt1 : e < s.heap.objs.size := Heap.lt_size h1
    have hlt2 : it < s.heap.objs.size := by obtain ⟨o, ho, _⟩ := h2; exact Heap.lt_size ho
    refine wpAny_letOwnedTupleGo_enum (s := { s with heap := h'', toks := s.toks + 1 }) ho fun h3' he' hs' => ?_
    refine hP _ h3' _ (.pair ((hs'.2 _ (Nat.ne_of_gt hlt1)).trans hT) (get_size _) (.int _ _) (.old tv)) ⟨⟨_, by simpa using he'⟩, hit'.at fun o y => (hs'.2 it hei.symm).trans y, ?_⟩ fun b o hb y => ?_
    ·exact h3.at fun o y => (hs'.2 a hle).trans (hk a o hle hli y)
    ·simp only [List.mem_cons, List.not_mem_nil, or_false, not_or] at hb
     exact (hs'.2 b hb.1).trans (hk b o hb.1 hb.2 y)
   ·rw [hlen] at st
    obtain ⟨⟨old, h1⟩, h2, h3⟩ := st
    refine wpAny_pyNext_enum_end hA1 h1 h2 h3 (by simp) fun h'' hx => ⟨rfl, hP h'' s.toks fun b o hb y => hx b o (fun z => hb (by simp [z])) y⟩
  ·simp only [List.mem_cons, List.not_mem_nil, or_false] at hb
   rcases hb with rfl | rfl | rfl
   ·exact hfI _ (.inl rfl)
   ·exact hfI _ (.inr rfl)
   ·exact ⟨fun z => f (.inl z), fun z => f (.inr z)⟩
end
section
theorem wk_zip {c : Ctx} {A : Around} {X W : Nat → Prop} {σ₁ : Mine.St} {μ₁ : Nat → Nat} {elts : List Expr} {k : Nat} {tpos : Pos} {z TI TO i1 i2 a1 a2 : Addr} {it1 it2 : List Value} {l1 l2 : List V} {h₀ : Heap} {S₀ : Nat → Prop} {n₀ : Nat} (hA : A.handled = none) (D : ZipApart z TI TO i1 i2 a1 a2)
  (t1 : VRs h₀ S₀ μ₁ n₀ it1 l1) (t2 : VRs h₀ S₀ μ₁ n₀ it2 l2) : Wk c A (.Tuple elts k tpos) z [z, TI, TO, i1, i2, a1, a2] [z, TO, i1, i2] (zipV l1 l2) h₀ S₀ μ₁ n₀
   (fun i h => IsZip h z TI TO .none ∧ IsPair h TI (.ref i1) (.ref i2) ∧ (∃ a b, IsPair h TO a b) ∧ h.IsListIter i1 a1 i ∧ h.IsListIter i2 a2 i ∧ h.IsList a1 it1.toArray ∧ h.IsList a2 it2.toArray) := by
 have WT := WalksT.zip2 (prog := c.prog) (w := c.w) hA z TI TO i1 i2 a1 a2 D it1.toArray it2.toArray
 have hlen : (zipV l1 l2).length = min it1.length it2.length := by simp [zipV, t1.length, t2.length]
 refine ⟨WT.sub, WT.frame, fun i h st b hb => ?_, fun i x s P' E' hx st hP => ?_, fun s P' E' st hP => ?_, WT.self⟩
 ·obtain ⟨hz, hTI, ⟨a, b', hTO⟩, ⟨o1, h1, _⟩, ⟨o2, h2, _⟩, ⟨o3, h3, _⟩, ⟨o4, h4, _⟩⟩ := st
  simp only [List.mem_cons, List.not_mem_nil, or_false] at hb
  rcases hb with rfl | rfl | rfl | rfl | rfl | rfl | rfl
  ·exact ⟨_, hz⟩
  ·exact ⟨_, hTI⟩
  ·exact ⟨_, hTO⟩
  ·exact ⟨_, h1⟩
  ·exact ⟨_, h2⟩
  ·exact ⟨_, h3⟩
  ·exact ⟨_, h4⟩
 ·obtain ⟨hz, hTI, ⟨a, b, hTO⟩, h1, h2, hl1, hl2⟩ := st
  have hi : i < min it1.length it2.length := by rw [← hlen]; exact (List.getElem?_eq_some_iff.mp hx).1
  have e1 := t1.length
  have e2 := t2.length
  have hi1 : i < l1.length := by lia
  have hi2 : i < l2.length := by lia
  have hxe : x = V.tup [l1[i], l2[i]] := by
   have hz' : (l1.zip l2)[i]? = some (l1[i], l2[i]) := List.getElem?_zip_eq_some.mpr ⟨List.getElem?_eq_getElem hi1, List.getElem?_eq_getElem hi2⟩
   simp only [zipV, List.getElem?_map, hz', Option.map_some, Option.some.injEq] at hx
   exact hx.symm
  subst hxe
  obtain ⟨v1, hv1, tv1⟩ := t1.get (List.getElem?_eq_getElem hi1)
  obtain ⟨v2, hv2, tv2⟩ := t2.get (List.getElem?_eq_getElem hi2)
  refine wpAny_pyNext_zip_item D hz hTI hTO h1 h2 hl1 hl2 (x := v1) (y := v2) (by simpa using hv1) (by simpa using hv2) fun h' b1 b2 b3 b4 b5 b6 hk => ⟨_, rfl, ?_⟩
  have lt : ∀ {c o}, s.heap.get? c = some o → s.heap.objs.size ≠ c := fun e => Nat.ne_of_gt (Heap.lt_size e)
  refine wpAny_letOwnedTupleGo_zip (s := { s with heap := h' }) b1 fun h'' hz' hs' => ?_
  refine hP _ h'' s.toks (.pair ((hs'.2 _ (lt hz)).trans b5) (get_size _) (.old tv1) (.old tv2)) ⟨hz', hs'.extBut _ _ D.TIz (hk _ _ D.TIz D.TITO D.TIi1 D.TIi2 hTI), ⟨_, _, hs'.extBut _ _ D.TOz b2⟩, b3.extBut hs'.extBut D.i1z, b4.extBut hs'.extBut D.i2z,
   (hl1.at fun o e => hk _ o D.l1z D.l1TO D.l1i1 D.l1i2 e).extBut hs'.extBut D.l1z, (hl2.at fun o e => hk _ o D.l2z D.l2TO D.l2i1 D.l2i2 e).extBut hs'.extBut D.l2z⟩ fun b o hb y => ?_
  simp only [List.mem_cons, List.not_mem_nil, or_false, not_or] at hb
  exact (hs'.2 b hb.1).trans (hk b o hb.1 hb.2.1 hb.2.2.1 hb.2.2.2 y)
 ·rw [hlen] at st
  refine WT.done s _ E' (by simpa using st) fun h' tk keep => ⟨rfl, hP h' tk keep⟩
noncomputable def zipM (b : ME (List V)) : ME (List V) := fun d ρ σ Q => b d ρ σ fun xs σ => (fl2 xs).elim False fun p => Q (zipV p.1.1 p.1.2) σ
theorem simI_zip {c : Ctx} {Γ : Gm} {args elts : List Expr} {k : Nat} {p pos tpos : Pos} {b : ME (List V)} (ok : c.Ok) (hf : c.mg "zip" = none ∧ c.mb "zip" = some (.type "zip")) (hb : SimEs c Γ args b) (hx : Γ.lookup "zip" = some none)
  (hp : ∀ env, (backTo pos (starEach args env)).any (·.1) = false) : SimI c Γ (.Call (.Name "zip" p) args [] pos) (.Tuple elts k tpos) (zipM b) := by
 intro A d X bs env F ρ σ μ s Q hA R E h
 refine wpAny_Call_NameR (wpAny_Name (wp_loadGlobal ok R E hx (.inr hf) ?_) (by decide +kernel))
 refine wp_callWithG (first := []) ok rfl hb (hp env) hA R E h fun vs xs σ₁ μ₁ s₁ q R₁ t₁ e₁ g₁ o₁ => ?_
 obtain ⟨⟨⟨l, r⟩, rfl⟩, q⟩ := elimP q
 ·obtain ⟨v, w, rfl, t, t'⟩ := t₁.two
  obtain ⟨a1, it1, _, rfl, ga, fa, ta⟩ := t.inv; obtain ⟨a2, it2, _, rfl, gb, fb, tb⟩ := t'.inv
  refine call_zip_2 (isList ga) (isList gb) fun h' hz hTI hTO hi1 hi2 hsz keep => ?_
  let N := s₁.heap.objs.size
  have hlt1 : a1 < N := Heap.lt_size ga
  have hlt2 : a2 < N := Heap.lt_size gb
  have ne : ∀ (a j : Nat), a < N → a ≠ N + j := fun a j h => by lia
  have ne0 : ∀ (a : Nat), a < N → a ≠ N := fun a h => Nat.ne_of_lt h
  have q1 : ∀ (m i j : Nat), i ≠ j → m + i ≠ m + j := fun m i j h => by lia
  have q0 : ∀ (m j : Nat), 0 ≠ j → m ≠ m + j := fun m j h => by lia
  have D : ZipApart (N + 4) (N + 2) (N + 3) N (N + 1) a1 a2 := ⟨q1 N 2 4 (by decide), q1 N 3 4 (by decide), q0 N 4 (by decide), q1 N 1 4 (by decide), q1 N 2 3 (by decide), (q0 N 2 (by decide)).symm, q1 N 2 1 (by decide), (q0 N 3 (by decide)).symm, q1 N 3 1 (by decide), q0 N 1 (by decide), ne _ _ hlt1, ne _ _ hlt1, ne0 _ hlt1, ne _ _ hlt1, ne _ _ hlt2, ne _ _ hlt2, ne0 _ hlt2, ne _ _ hlt2⟩
  let W : Nat → Prop := fun b => b = N + 4 ∨ b = N + 2 ∨ b = N + 3 ∨ b = N ∨ b = N + 1
  have hWn : ∀ b, W b → s₁.heap.get? b = none := fun b hb => get_above (by
   rcases hb with rfl | rfl | rfl | rfl | rfl <;> first | exact Nat.le_add_right _ _ | exact Nat.le_refl _)
  obtain ⟨R', e'⟩ := R₁.opens (X' := fun b => X b ∨ W b) (h' := h') keep fun b hb => hb.imp id fun hb => ⟨hWn b hb, by
   rcases hb with rfl | rfl | rfl | rfl | rfl
   ·exact ⟨_, hz⟩
   ·exact ⟨_, hTI⟩
   ·exact ⟨_, hTO⟩
   ·obtain ⟨o, ho, _⟩ := hi1; exact ⟨o, ho⟩
   ·obtain ⟨o, ho, _⟩ := hi2; exact ⟨o, ho⟩⟩
  have hfI : ∀ b, W b → ¬ Tr σ₁ μ₁ b ∧ ¬ X b := fun b hb => by
   have := R₁.fresh (hWn b hb)
   exact ⟨fun z => this (.inl z), fun z => this (.inr z)⟩
  have hnone : ∀ b, s₁.heap.get? b = none → s.heap.get? b = none := fun b hb => by
   cases z : s.heap.get? b with
   | none => rfl
   | some o => obtain ⟨o', e⟩ := e₁.live b o z; rw [hb] at e; cases e
  refine wpAny_pyIter_zip (s := { s₁ with heap := h' }) hz ⟨zipV l r, σ₁, μ₁, N + 4, [N + 4, N + 2, N + 3, N, N + 1, a1, a2], [N + 4, N + 3, N, N + 1], _, W, q, rfl, R', wk_zip (X := X) (W := W) (σ₁ := σ₁) hA.handled D (ta.mono e') (tb.mono e'), ⟨hz, hTI, ⟨_, _, hTO⟩, hi1, hi2, isList (keep _ _ ga), isList (keep _ _ gb)⟩, e₁.trans e', fun b hb => hnone b (hWn b hb), fun b hb => ?_, fun b hb => ?_, g₁, o₁⟩
  ·simp only [List.mem_cons, List.not_mem_nil, or_false] at hb
   rcases hb with rfl | rfl | rfl | rfl
   ·exact .inl rfl
   ·exact .inr (.inr (.inl rfl))
   ·exact .inr (.inr (.inr (.inl rfl)))
   ·exact .inr (.inr (.inr (.inr rfl)))
  ·simp only [List.mem_cons, List.not_mem_nil, or_false] at hb
   rcases hb with rfl | rfl | rfl | rfl | rfl | rfl | rfl
   ·exact hfI _ (.inl rfl)
   ·exact hfI _ (.inr (.inl rfl))
   ·exact hfI _ (.inr (.inr (.inl rfl)))
   ·exact hfI _ (.inr (.inr (.inr (.inl rfl))))
   ·exact hfI _ (.inr (.inr (.inr (.inr rfl))))
   ·exact ⟨fun z => fa (.inl z), fun z => fa (.inr z)⟩
   ·exact ⟨fun z => fb (.inl z), fun z => fb (.inr z)⟩
end
section
theorem weight_make (C : Addr) (rest : List Value) (kw : List (Str × Value)) : (Code.builtin "type.__call__" ⟨.ref C :: rest, kw⟩).weight = 1 := by kernel_rfl
theorem units_make (C : Addr) (rest : List Value) (kw : List (Str × Value)) : (Code.builtin "type.__call__" ⟨.ref C :: rest, kw⟩).cUnits ≤ 3 := by
 have : (Code.builtin "type.__call__" ⟨.ref C :: rest, kw⟩).cUnits = 1 := by kernel_rfl
 lia
theorem callT_class {c : Ctx} {C fI : Addr} {d : Nat} {args : List V} {σ : Mine.St} {Q : V → Mine.St → Prop} (ok : c.Ok) (hm : makesIn c.K C = true) (hi : findIn c.K (.ref C) "__init__" = some (some (.ref fI))) (hf : typeIn c.K (.ref fI) = some (.type "function"))
  (h : CodeT c (.ref fI) d (.inst C σ.length :: args) (σ ++ [some (.ns [])]) fun v σ' => v = .none ∧ Q (.inst C σ.length) σ') : CallT c (.ref C) (d + 1) args σ Q := by
 intro A X μ s vs hA R t
 have XK := ok.K.keeps R.base
 obtain ⟨hh, g, dr, tk, os⟩ := s
 obtain ⟨μ', R', e', hmu⟩ := R.alloc (o := dictO [] 0) (p := .ns []) fun μ' e' _ => .ns (Heap.get?_push_size _ rfl) .nil
 obtain ⟨R₂, e₂⟩ := R'.push (instObj C hh.objs.size)
 have hx : ((hh.push (dictO [] 0)).push (instObj C hh.objs.size)).get? (hh.objs.size + 1) = some (instObj C hh.objs.size) := by
  have := Heap.get?_push_size (hh.push (dictO [] 0)) (o := instObj C hh.objs.size) rfl
  rwa [Heap.size_push] at this
 have hfr : ¬ Sx X (σ ++ [some (.ns [])]) μ' (hh.objs.size + 1) := R'.fresh (by
  have := get_size (hh.push (dictO [] 0))
  rwa [Heap.size_push] at this)
 have ti : VRσ X (σ ++ [some (.ns [])]) μ' ((hh.push (dictO [] 0)).push (instObj C hh.objs.size)) (.ref (hh.objs.size + 1)) (.inst C σ.length) := .inst (by rw [hmu]; exact hx) hfr (by simp)
 have ts := (t.mono e').mono e₂
 have hA' : Room (A.under (.builtin "type.__call__" ⟨.ref C :: vs, []⟩)) d := by
  have h1 := hA.depth
  have h2 := hA.units
  refine ⟨hA.handled, ?_, ?_⟩
  ·show A.depth + (Code.builtin "type.__call__" ⟨.ref C :: vs, []⟩).weight + d ≤ _
   rw [weight_make]; lia
  ·show A.units + (Code.builtin "type.__call__" ⟨.ref C :: vs, []⟩).cUnits + 8 * d + 300 ≤ _
   have := units_make C vs []; lia
 refine wpAny_call (make_core (makes_of XK hm) (looks_findIn XK hi) (fun self => bind_fn XK self hf) (.inl rfl) (codeAny_mono (h _ X μ' ⟨(hh.push (dictO [] 0)).push (instObj C hh.objs.size), g, dr, tk, os⟩ _ hA' R₂ (.cons ti ts)) fun r s' hr => ?_))
 rcases r with e | (v | _ | _ | _) <;> first | exact hr.elim | skip
 obtain ⟨y, σ', μ'', ⟨rfl, q⟩, R₃, tv, e₃, g₃, o₃⟩ := hr
 cases tv
 exact ⟨rfl, _, σ', μ'', q, R₃, ti.mono e₃, e'.trans (e₂.trans e₃), g₃, o₃⟩
noncomputable def AObj.bd (n : Nat) : AObj → Bool
 | .list l => V.bds n l
 | .dict kvs => kvs.all fun p => p.1.bd n && p.2.bd n
 | .ns kvs => kvs.all fun p => p.2.bd n
end
section
theorem OR.bound {c : Ctx} {h : Heap} {S : Nat → Prop} {μ : Nat → Nat} {n : Nat} {a : Addr} {o : AObj} (x : OR c h S μ n a o) : o.bd n = true := by
 cases x with
 | list e t => exact t.bound
 | dict e t u y =>
  clear e u y
  induction t with
  | nil => rfl
  | cons p q _ _ ih => simp only [AObj.bd, List.all_cons, p.bound, q.bound, Bool.and_self, Bool.true_and]; exact ih
 | ns e t =>
  clear e
  induction t with
  | nil => rfl
  | cons _ q _ ih => simp only [AObj.bd, List.all_cons, q.bound, Bool.true_and]; exact ih
theorem OR.cut {c : Ctx} {h : Heap} {S S' : Nat → Prop} {μ : Nat → Nat} {n n' : Nat} (hS : ∀ a, S' a → S a) {a : Addr} {o : AObj} (x : OR c h S μ n a o) (k : o.bd n' = true) : OR c h S' μ n' a o := by
 cases x with
 | list e t => exact .list e (t.cut hS k)
 | dict e t u y =>
  refine .dict e ?_ u y
  clear e u y
  induction t with
  | nil => exact .nil
  | cons p q r _ ih =>
   simp only [AObj.bd, List.all_cons, Bool.and_eq_true] at k
   exact .cons (p.cut hS k.1.1) (q.cut hS k.1.2) r (ih (by simpa [AObj.bd] using k.2))
 | ns e t =>
  refine .ns e ?_
  clear e
  induction t with
  | nil => exact .nil
  | cons p q _ ih =>
   simp only [AObj.bd, List.all_cons, Bool.and_eq_true] at k
   exact .cons p (q.cut hS k.1) (ih (by simpa [AObj.bd] using k.2))
noncomputable def frz (σ' : Mine.St) (n : Nat) (v v0 : V) : Prop := (v.bd n = true ∧ v0 = v) ∨ ∃ i l, v = .ref i ∧ n ≤ i ∧ σ'[i]? = some (some (.list l)) ∧ V.bds n l = true ∧ v0 = .fl l
noncomputable def cutP (σ : Mine.St) (v : V) (σ' : Mine.St) (Q : V → Mine.St → Prop) : Prop := ∃ τ junk, σ' = τ ++ junk ∧ τ.length = σ.length ∧ (∀ (i : Nat) (o : AObj), σ[i]? = some (some o) → ∃ o', τ[i]? = some (some o')) ∧ (∀ (i : Nat) (o : AObj), τ[i]? = some (some o) → σ[i]? = some (some o) ∨ o.bd σ.length = true) ∧
 ∃ v0, frz σ' σ.length v v0 ∧ Q v0 τ
theorem cutP.same {σ junk : Mine.St} {v v0 : V} {Q : V → Mine.St → Prop} (h : frz (σ ++ junk) σ.length v v0) (q : Q v0 σ) : cutP σ v (σ ++ junk) Q := ⟨σ, junk, rfl, rfl, fun _ o e => ⟨o, e⟩, fun _ _ e => .inl e, v0, h, q⟩
theorem cutP.same' {σ junk : Mine.St} {v : V} {Q : V → Mine.St → Prop} (h : v.bd σ.length = true) (q : Q v σ) : cutP σ v (σ ++ junk) Q := cutP.same (.inl ⟨h, rfl⟩) q
theorem CodeT.cut {c : Ctx} {f : Value} {d : Nat} {args : List V} {σ : Mine.St} {Q : V → Mine.St → Prop} (h : CodeT c f d args σ fun v σ' => cutP σ v σ' Q) : CodeT c f d args σ Q := by
 intro A X μ s vs hA R t
 refine codeAny_mono (h A X μ s vs hA R t) fun r s' hr => ?_
 rcases r with e | (v | _ | _ | _) <;> first | exact hr.elim | skip
 obtain ⟨x, σ', μ', ⟨τ, junk, rfl, hlen, hkeep, hbd, v0, hz, q⟩, R', tv, ev, g, o⟩ := hr
 have sub : ∀ {i : Nat} {o : AObj}, τ[i]? = some (some o) → (τ ++ junk)[i]? = some (some o) := fun {i o} e => by rw [List.getElem?_append_left (lt_of_get e)]; exact e
 have hT : ∀ a, Tr τ μ' a → Tr (τ ++ junk) μ' a := fun a ⟨i, o, e, z⟩ => ⟨i, o, sub e, z⟩
 have hS : ∀ a, Sx X τ μ' a → Sx X (τ ++ junk) μ' a := fun a z => z.imp (hT a) id
 have R₂ : Rel c X τ μ' s'.heap := by
  refine ⟨R'.base, fun i o e => R'.out i o (sub e), fun i j o p e f z => R'.inj i j o p (sub e) (sub f) z, fun i o e => ?_, R'.sh⟩
  have hb : o.bd τ.length = true := by
   rw [hlen]
   rcases hbd i o e with h | h
   ·exact (R.obj i o h).bound
   ·exact h
  exact (R'.obj i o (sub e)).cut hS hb
 have e₂ : Evσ X σ μ s.heap X τ μ' s'.heap := ⟨ev.keep, ev.live, ev.tS, fun a z => ev.subT a (hT a z), fun a z => ev.sub a (hS a z), ev.mu, Nat.le_of_eq hlen.symm⟩
 refine ⟨v0, τ, μ', q, R₂, ?_, e₂, g, o⟩
 rcases hz with ⟨h1, rfl⟩ | ⟨i, l, rfl, hi, hl, hbl, rfl⟩
 ·exact tv.cut hS (by rw [hlen]; exact h1)
 ·obtain ⟨rfl, hlt⟩ := tv.inv
  cases R'.obj i _ hl with | list e t =>
  refine .fl e (fun z => ?_) (t.cut hS (by rw [hlen]; exact hbl))
  have hTi : Tr (τ ++ junk) μ' (μ' i) := ⟨i, _, hl, rfl⟩
  rcases z with ⟨j, o, ej, hj⟩ | hX
  ·have := R'.inj j i o _ (sub ej) hl hj
   have := lt_of_get ej
   lia
  ·rcases ev.subT _ hTi with ⟨j, o, ej, hj⟩ | hn
   ·obtain ⟨o', ej'⟩ := hkeep j o ej
    have hjn := lt_of_get ej
    have := R'.inj j i o' _ (sub ej') hl (by rw [ev.mu j hjn]; exact hj)
    lia
   ·obtain ⟨_, o, e⟩ := R.sh _ hX
    rw [hn] at e; cases e
end
section
section
variable {c : Ctx} {Γ : Gm} {bs : Nat}
noncomputable def neverS : MS := fun _ _ _ _ => False
noncomputable def neverE {α : Type} : ME α := fun _ _ _ _ => False
theorem sim_neverS {st : Stmt} : SimS c Γ bs st neverS := fun _ _ _ _ _ _ _ _ _ _ _ _ _ h => h.elim
theorem sim_neverE {e : Expr} : SimE c Γ e neverE := fun _ _ _ _ _ _ _ _ _ _ _ _ _ _ h => h.elim
noncomputable def SimPt (c : Ctx) (Γ : Gm) (e : Option Expr) (m : ME (Option Int)) : Prop := ∀ A d X bs env F ρ σ μ s Q, Room A d → Rel c X σ μ s.heap → EnvR c X Γ bs env F ρ σ μ s.heap → m d ρ σ Q →
 wpAny c.M A (evalPart e env) (Post c (fun _ _ _ _ v x => IsPart v x) X σ μ s Q) Bot s
noncomputable def nopM : ME (Option Int) := fun _ _ σ Q => Q none σ
noncomputable def ptM (a : ME V) : ME (Option Int) := fun d ρ σ Q => a d ρ σ fun x σ => match x with
 | .int i => Q (some i) σ
 | _ => False
theorem simPt_none : SimPt c Γ none nopM := fun _ _ _ _ _ _ _ _ _ _ _ _ R _ h => by rw [evalPart_none]; exact wpAny_pure (Post.here R .none h)
theorem simPt_some {e : Expr} {a : ME V} (ha : SimE c Γ e a) : SimPt c Γ (some e) (ptM a) := fun A d X bs env F ρ σ μ s Q hA R E h => by
 rw [evalPart_some]
 refine wp_seq (ha A d X bs env F ρ σ μ s _ hA R E h) fun u x σ₁ μ₁ s₁ q R₁ t₁ e₁ g₁ o₁ => ?_
 split at q
 ·cases t₁; exact ⟨_, _, μ₁, q, R₁, .int _ _, e₁, g₁, o₁⟩
 ·exact q.elim
theorem clampI {x : Int} (h : 0 ≤ x) (n : Nat) : max 0 (min x n) = ((min x.toNat n : Nat) : Int) := by
 obtain ⟨k, rfl⟩ := Int.eq_ofNat_of_zero_le h
 rw [Int.toNat_natCast]
 rcases Nat.le_total k n with q | q
 ·rw [Nat.min_eq_left q, Int.min_eq_left (Int.ofNat_le.mpr q)]; exact Int.max_eq_right (Int.natCast_nonneg _)
 ·rw [Nat.min_eq_right q, Int.min_eq_right (Int.ofNat_le.mpr q)]; exact Int.max_eq_right (Int.natCast_nonneg _)
theorem slicePick_clamp (items : Array Value) (lo hi : Option Int) (h1 : ∀ a, lo = some a → 0 ≤ a) (h2 : ∀ a, hi = some a → 0 ≤ a) :
  slicePick items lo hi none = ((hi.elim items.toList fun b => items.toList.take b.toNat).drop ((lo.map Int.toNat).getD 0)).toArray := by
 let n := items.size
 let a : Nat := (lo.map Int.toNat).getD 0
 let b : Nat := (hi.map Int.toNat).getD n
 have hb : sliceBounds lo hi none n = (((min a n : Nat) : Int), ((min b n : Nat) : Int), 1) := by
  simp only [sliceBounds, Option.getD_none, show (1 : Int) > 0 by decide, if_true]
  cases lo with
  | none =>
   cases hi with
   | none => simp [a, b]
   | some y => have := h2 y rfl; simp only [a, b, Option.map_none, Option.map_some, Option.getD_none, Option.getD_some]; rw [if_neg (Int.not_lt.mpr this), clampI this, Nat.zero_min]; rfl
  | some x =>
   have := h1 x rfl
   cases hi with
   | none => simp only [a, b, Option.map_none, Option.map_some, Option.getD_none, Option.getD_some]; rw [if_neg (Int.not_lt.mpr this), clampI this, Nat.min_self]
   | some y => have := h2 y rfl; simp only [a, b, Option.map_none, Option.map_some, Option.getD_none, Option.getD_some]; rw [if_neg (Int.not_lt.mpr ‹0 ≤ x›), if_neg (Int.not_lt.mpr this), clampI this, clampI ‹0 ≤ x›]
 unfold slicePick
 rw [hb]
 simp only [sliceRange_one, pick_run]
 congr 1
 have hl : items.toList.length = n := by simp [n]
 have e : (hi.elim items.toList fun b => items.toList.take b.toNat) = items.toList.take b := by
  cases hi with
  | none => exact (List.take_of_length_le (Nat.le_of_eq hl)).symm
  | some y => rfl
 rw [e, ← List.drop_take, List.take_eq_take_min (i := b), hl]
 show List.drop (min a n) _ = List.drop a _
 rcases Nat.le_total a n with k | k
 ·rw [Nat.min_eq_left k]
 ·rw [Nat.min_eq_right k, List.drop_of_length_le (Nat.le_trans (List.length_take_le' ..) (Nat.le_of_eq hl)), List.drop_of_length_le (Nat.le_trans (List.length_take_le' ..) (Nat.le_trans (Nat.le_of_eq hl) k))]
noncomputable def slcP (σ : Mine.St) (x : V) (lo hi : Option Int) (k : V → Prop) : Prop := lsP σ x fun l => l.length ≤ 1000000 ∧ (∀ a, lo = some a → 0 ≤ a) ∧ (∀ a, hi = some a → 0 ≤ a) ∧
 k (.fl ((hi.elim l fun b => l.take b.toNat).drop ((lo.map Int.toNat).getD 0)))
noncomputable def slcM (a : ME V) (lo hi : ME (Option Int)) : ME V := fun d ρ σ Q => a d ρ σ fun x σ => lo d ρ σ fun i σ => hi d ρ σ fun j σ => slcP σ x i j (Q · σ)
theorem sim_Slice {e : Expr} {lo hi : Option Expr} {a : ME V} {ml mh : ME (Option Int)} {p pos : Pos} (ha : SimE c Γ e a) (hl : SimPt c Γ lo ml) (hh : SimPt c Γ hi mh) : SimE c Γ (.Subscript e (.Slice lo hi none p) pos) (slcM a ml mh) := by
 intro A d X bs env F ρ σ μ s Q hA R E h
 rw [eval_Subscript]
 refine wpAny_bind (wp_seq (ha A d X bs env F ρ σ μ s _ hA R E h) fun u x σ₁ μ₁ s₁ q R₁ t₁ e₁ g₁ o₁ => wpAny_bind (wpAny_holding ?_))
 refine wpAny_Slice (wp_seq (hl A d X bs env F ρ σ₁ μ₁ s₁ _ hA R₁ (E.mono e₁) q) fun vl i σ₂ μ₂ s₂ q₂ R₂ t₂ e₂ g₂ o₂ => wp_seq (hh A d X bs env F ρ σ₂ μ₂ s₂ _ hA R₂ ((E.mono e₁).mono e₂) q₂) fun vh j σ₃ μ₃ s₃ q₃ R₃ t₃ e₃ g₃ o₃ => ?_)
 rw [evalPart_none]
 refine wpAny_pure (wpAny_bind (wpAny_standAt ?_))
 obtain ⟨ad, items, n, l, rfl, g, tl, ⟨hlen, h1, h2, q⟩⟩ := ls_is R₃ ((t₁.mono e₂).mono e₃) q₃
 have ev := e₁.trans (e₂.trans e₃)
 obtain ⟨R₄, e₄⟩ := R₃.push { cls := .type "slice", data := .fields #[vl, vh, .none] }
 let s₄ : Shared := { s₃ with heap := s₃.heap.push { cls := .type "slice", data := .fields #[vl, vh, .none] } }
 have g' : s₄.heap.get? ad = some (listO items n) := Heap.get?_push_of_some _ g
 have el := tl.length
 have w : wpAny c.M A (getItem (.ref ad) (.ref s₃.heap.objs.size)) (Post c RV X σ μ s Q) Bot s₄ := by
  refine wpAny_getItem_list_slice (isList g') (Heap.IsSliceOf.new ..) t₂ t₃ .none (by simp) ?_ (le_sizeLine (by simp only [List.size_toArray]; lia))
  rw [slicePick_clamp items.toArray i j h1 h2]
  refine Post.after (s₁ := s₄) (ev.trans e₄) (g₃.trans (g₂.trans g₁)) (o₃.trans (o₂.trans o₁)) ?_
  refine Post.newList (tk := s₄.toks) R₄ ?_ q
  have tt := tl.mono e₄
  cases j <;> cases i <;> simp only [Option.elim, Option.map_none, Option.map_some, Option.getD_none, Option.getD_some, List.drop_zero] <;> first | exact tt | exact tt.drop _ | exact (tt.take _).drop _ | exact tt.take _
 have hT : s₄.TypeIs (.ref ad) "list" := ⟨_, g', rfl⟩
 refine wpAny_bind ?_
 rw [getitemInPython_of_ne hT.not_modules]
 refine wpAny_bind (wpAny_specialOf hT slot_list_getitem.lookup ?_)
 have fin : wpAny c.M A (subscripted (.Slice lo hi none p) false (.ref ad) (.ref s₃.heap.objs.size)) (fun r s₅ => wpAny c.M A (letTemporaryGo e (.ref ad) r >>= fun _ => pure r) (Post c RV X σ μ s Q) Bot s₅) Bot s₄ := by
  show wpAny c.M A (operate [.ref s₃.heap.objs.size, .ref ad] (getItem (.ref ad) (.ref s₃.heap.objs.size))) _ _ _
  exact wpAny_operating (wpAny_mono w (fun r s₃ h₃ => wpAny_bind (wpAny_letTemporaryGo (wpAny_pure h₃))) fun _ _ x => x)
 first
  | exact wpAny_pure (wpAny_bind fin)
  | exact wpAny_bind (wpAny_pure (wpAny_bind fin))
  | exact wpAny_bind fin
noncomputable def SimAs (c : Ctx) (Γ : Gm) (bs : Nat) (ts : List Expr) (m : Nat → Env' → List V → Mine.St → (Env' → Mine.St → Prop) → Prop) : Prop := ∀ A d X env F ρ σ μ s vs xs Q, Room A d → Rel c X σ μ s.heap → EnvR c X Γ bs env F ρ σ μ s.heap → VRs s.heap (Sx X σ μ) μ σ.length vs xs → m d ρ xs σ Q →
 wpAny c.M A (assignInOrder ((assignEach ts env).map (·.2)) vs) (PostA c Γ bs env F X σ μ s Q) Bot s
noncomputable def nilA : Nat → Env' → List V → Mine.St → (Env' → Mine.St → Prop) → Prop := fun _ ρ xs σ Q => match xs with
 | [] => Q ρ σ
 | _ => False
noncomputable def consA (a : MA) (b : Nat → Env' → List V → Mine.St → (Env' → Mine.St → Prop) → Prop) : Nat → Env' → List V → Mine.St → (Env' → Mine.St → Prop) → Prop := fun d ρ xs σ Q => match xs with
 | x :: xs => a d ρ x σ fun ρ σ => b d ρ xs σ Q
 | _ => False
theorem simAs_nil : SimAs c Γ bs [] nilA := by
 intro A d X env F ρ σ μ s vs xs Q hA R E t h
 unfold nilA at h
 split at h
 ·exact wpAny_pure ⟨_, _, _, h, R, Evf.refl E.fx, E, rfl, rfl⟩
 ·exact h.elim
theorem simAs_cons {t : Expr} {ts : List Expr} {a : MA} {b : Nat → Env' → List V → Mine.St → (Env' → Mine.St → Prop) → Prop} (ha : SimA c Γ bs t a) (hb : SimAs c Γ bs ts b) (he : ∀ env, (assignEach (t :: ts) env).map (·.2) = assign t env :: (assignEach ts env).map (·.2)) :
  SimAs c Γ bs (t :: ts) (consA a b) := by
 intro A d X env F ρ σ μ s vs xs Q hA R E t h
 unfold consA at h
 split at h
 ·cases t with | @cons v _ vs _ tv tvs =>
  rw [he]
  refine wpAny_bind (wpAny_holding (wpA_seq (ha A d X env F ρ σ μ s v _ _ hA R E tv h) fun _ ρ₁ σ₁ μ₁ s₁ q₁ R₁ e₁ E₁ g₁ o₁ => ?_))
  exact wpA_after e₁ g₁ o₁ (hb A d X env F ρ₁ σ₁ μ₁ s₁ vs _ _ hA R₁ E₁ (tvs.mono e₁) q₁)
 ·exact h.elim
noncomputable def tupA (n : Nat) (b : Nat → Env' → List V → Mine.St → (Env' → Mine.St → Prop) → Prop) : MA := fun d ρ x σ Q => match x with
 | .tup xs => xs.length = n ∧ b d ρ xs σ Q
 | _ => False
theorem simA_Tuple {ts : List Expr} {n : Nat} {k : Nat} {pos : Pos} {b : Nat → Env' → List V → Mine.St → (Env' → Mine.St → Prop) → Prop} (hb : SimAs c Γ bs ts b) (hn : ∀ env, (assignEach ts env).length = n) (hst : ∀ env, (assignEach ts env).findIdx? (·.1) = none) :
  SimA c Γ bs (.Tuple ts k pos) (tupA n b) := by
 intro A d X env F ρ σ μ s v x Q hA R E t h
 unfold tupA at h
 split at h
 ·obtain ⟨hl, h⟩ := h
  obtain ⟨ad, items, rfl, e, f, tl⟩ := t.inv
  rw [arm_assign_Tuple]
  have el := tl.length
  refine wpAny_bind (wpAny_standAt (wpAny_unpack_tuple hA.handled ⟨_, e, rfl, 0, rfl⟩ (by rw [hn]; simp; lia) (hst env) fun h' hx => ?_))
  obtain ⟨R', e'⟩ := R.keeps (h' := h') fun b o eb => hx b o (fun z => by rw [z, get_size] at eb; cases eb) eb
  have w := hb A d X env F ρ σ μ { s with heap := h' } items _ Q hA R' (E.mono e') (tl.mono e') h
  exact wpA_after (e'.toF E.fx) rfl rfl w
 ·exact h.elim
noncomputable def setAll : List Nat → List V → Env' → Env'
 | i :: is, x :: xs, ρ => setAll is xs (ρ.set i (some x))
 | _, _, ρ => ρ
noncomputable def namesC (is : List Nat) (ρ : Env') (Q : Fl → Env' → Mine.St → Prop) (x : V) (σ' : Mine.St) : Prop := match x with
 | .tup xs => onB (xs.length == is.length) (Q .next (setAll is xs ρ) σ')
 | _ => False
noncomputable def namesM (is : List Nat) (a : ME (List V)) : MS := fun d ρ σ Q => tupM a d ρ σ (namesC is ρ Q)
theorem namesC_inv {is : List Nat} {ρ : Env'} {Q : Fl → Env' → Mine.St → Prop} {x : V} {σ' : Mine.St} (h : namesC is ρ Q x σ') : ∃ xs, x = .tup xs ∧ xs.length = is.length ∧ Q .next (setAll is xs ρ) σ' := by
 unfold namesC at h
 split at h
 ·exact ⟨_, rfl, by simpa using (onB_inv h).1, (onB_inv h).2⟩
 ·exact h.elim
end
end
section
theorem setAll_set : ∀ (is : List Nat) (xs : List V) (ρ : Env') (i : Nat) (x : Option V), i ∉ is → (setAll is xs ρ).set i x = setAll is xs (ρ.set i x)
 | [], _, _, _, _, _ => rfl
 | _ :: _, [], _, _, _, _ => rfl
 | j :: is, y :: xs, ρ, i, x, h => by
  simp only [List.mem_cons, not_or] at h
  show (setAll is xs (ρ.set j (some y))).set i x = setAll is xs ((ρ.set i x).set j (some y))
  rw [setAll_set is xs _ i x h.2, List.set_comm _ _ (Ne.symm h.1)]
theorem setAll_app : ∀ (is js : List Nat) (xs ys : List V) (ρ : Env'), is.length = xs.length → setAll (is ++ js) (xs ++ ys) ρ = setAll js ys (setAll is xs ρ)
 | [], js, [], ys, ρ, _ => by cases js <;> cases ys <;> rfl
 | [], _, _ :: _, _, _, h => by simp at h
 | _ :: _, _, [], _, _, h => by simp at h
 | i :: is, js, x :: xs, ys, ρ, h => by
  show setAll (is ++ js) (xs ++ ys) (ρ.set i (some x)) = _
  rw [setAll_app is js xs ys _ (by simpa using h)]; rfl
theorem setAll_rev : ∀ (is : List Nat) (xs : List V) (ρ : Env'), is.length = xs.length → is.Nodup → setAll is.reverse xs.reverse ρ = setAll is xs ρ
 | [], [], _, _, _ => rfl
 | [], _ :: _, _, h, _ => by simp at h
 | _ :: _, [], _, h, _ => by simp at h
 | i :: is, x :: xs, ρ, h, hn => by
  rw [List.nodup_cons] at hn
  rw [List.reverse_cons, List.reverse_cons, setAll_app _ _ _ _ _ (by simpa using h), setAll_rev is xs ρ (by simpa using h) hn.2]
  show (setAll is xs ρ).set i (some x) = setAll is xs (ρ.set i (some x))
  exact setAll_set is xs ρ i _ hn.1
theorem wp_bindAll {c : Ctx} {Γ : Gm} {bs : Nat} {A : Around} {X F : Nat → Prop} {env : Env} {Q : Env' → Mine.St → Prop} : ∀ (nms : List Str) (is : List Nat) (xs : List V) (vs : List Value) (ρ : Env') (σ : Mine.St) (μ : Nat → Nat) (s : Shared), Rel c X σ μ s.heap → EnvR c X Γ bs env F ρ σ μ s.heap → VRs s.heap (Sx X σ μ) μ σ.length vs xs →
  nms.length = is.length → is.length = xs.length → (∀ (j : Nat) (n : Str) (i : Nat), nms[j]? = some n → is[j]? = some i → Γ.lookup n = some (some i) ∧ bs ≤ i) → Q (setAll is xs ρ) σ → wpAny c.M A (assignInOrder (nms.map fun n => bindName env n) vs) (PostA c Γ bs env F X σ μ s Q) Bot s
 | [], [], [], vs, ρ, σ, μ, s, R, E, t, _, _, _, q => by cases t; exact wpAny_pure ⟨_, _, _, q, R, Evf.refl E.fx, E, rfl, rfl⟩
 | [], _ :: _, _, _, _, _, _, _, _, _, _, h, _, _, _ => by simp at h
 | _ :: _, [], _, _, _, _, _, _, _, _, _, h, _, _, _ => by simp at h
 | _, [], _ :: _, _, _, _, _, _, _, _, _, _, h, _, _ => by simp at h
 | _, _ :: _, [], _, _, _, _, _, _, _, _, _, h, _, _ => by simp at h
 | n :: nms, i :: is, x :: xs, vs, ρ, σ, μ, s, R, E, t, h1, h2, h3, q => by
  cases t with | @cons v _ vs _ tv tvs =>
  obtain ⟨hx, hi⟩ := h3 0 n i rfl rfl
  refine wpAny_bind (wpAny_holding (wpAny_bindName (wpA_seq (wp_store (Q := fun ρ' σ' => ρ' = ρ.set i (some x) ∧ σ' = σ) R E hx hi tv ⟨rfl, rfl⟩) fun _ ρ₁ σ₁ μ₁ s₁ q₁ R₁ e₁ E₁ g₁ o₁ => ?_)))
  obtain ⟨rfl, rfl⟩ := q₁
  exact wpA_after e₁ g₁ o₁ (wp_bindAll nms is xs vs _ _ μ₁ s₁ R₁ E₁ (tvs.mono e₁) (by simpa using h1) (by simpa using h2) (fun j n i hn hi => h3 (j + 1) n i (by simpa using hn) (by simpa using hi)) q)
theorem wp_assignNames {c : Ctx} {Γ : Gm} {bs : Nat} {A : Around} {X F : Nat → Prop} {env : Env} {Q : Env' → Mine.St → Prop} : ∀ (nms : List (Str × Pos)) (is : List Nat) (xs : List V) (vs : List Value) (ρ : Env') (σ : Mine.St) (μ : Nat → Nat) (s : Shared), Rel c X σ μ s.heap → EnvR c X Γ bs env F ρ σ μ s.heap → VRs s.heap (Sx X σ μ) μ σ.length vs xs →
  nms.length = is.length → is.length = xs.length → (∀ (j : Nat) (n : Str × Pos) (i : Nat), nms[j]? = some n → is[j]? = some i → Γ.lookup n.1 = some (some i) ∧ bs ≤ i) → Q (setAll is xs ρ) σ → wpAny c.M A (assignInOrder (nms.map fun n => assign (.Name n.1 n.2) env) vs) (PostA c Γ bs env F X σ μ s Q) Bot s
 | [], [], [], vs, ρ, σ, μ, s, R, E, t, _, _, _, q => by cases t; exact wpAny_pure ⟨_, _, _, q, R, Evf.refl E.fx, E, rfl, rfl⟩
 | [], _ :: _, _, _, _, _, _, _, _, _, _, h, _, _, _ => by simp at h
 | _ :: _, [], _, _, _, _, _, _, _, _, _, h, _, _, _ => by simp at h
 | _, [], _ :: _, _, _, _, _, _, _, _, _, _, h, _, _ => by simp at h
 | _, _ :: _, [], _, _, _, _, _, _, _, _, _, h, _, _ => by simp at h
 | n :: nms, i :: is, x :: xs, vs, ρ, σ, μ, s, R, E, t, h1, h2, h3, q => by
  cases t with | @cons v _ vs _ tv tvs =>
  obtain ⟨hx, hi⟩ := h3 0 n i rfl rfl
  refine wpAny_bind (wpAny_holding (wpAny_assign_Name (wpA_seq (wp_store (Q := fun ρ' σ' => ρ' = ρ.set i (some x) ∧ σ' = σ) R E hx hi tv ⟨rfl, rfl⟩) fun _ ρ₁ σ₁ μ₁ s₁ q₁ R₁ e₁ E₁ g₁ o₁ => ?_)))
  obtain ⟨rfl, rfl⟩ := q₁
  exact wpA_after e₁ g₁ o₁ (wp_assignNames nms is xs vs _ _ μ₁ s₁ R₁ E₁ (tvs.mono e₁) (by simpa using h1) (by simpa using h2) (fun j n i hn hi => h3 (j + 1) n i (by simpa using hn) (by simpa using hi)) q)
theorem assignEach_names (env : Env) : ∀ (nm : List (Str × Pos)), assignEach (nm.map fun p => Expr.Name p.1 p.2) env = nm.map fun p => (false, assign (.Name p.1 p.2) env)
 | [] => rfl
 | p :: nm => by
  show (false, assign (.Name p.1 p.2) env) :: assignEach (nm.map fun p => Expr.Name p.1 p.2) env = _
  rw [assignEach_names env nm]; rfl
theorem filterMap_full {α : Type} (f : Expr → Option α) (g : Str × Pos → α) : ∀ (l : List (Str × Pos)), (∀ p ∈ l, f (.Name p.1 p.2) = some (g p) ∨ f (.Name p.1 p.2) = none) → ((l.map fun p => Expr.Name p.1 p.2).filterMap f).length = l.length → (l.map fun p => Expr.Name p.1 p.2).filterMap f = l.map g
 | [], _, _ => rfl
 | p :: l, h, hl => by
  rw [List.map_cons] at hl ⊢
  rcases h p List.mem_cons_self with e | e
  ·rw [List.filterMap_cons_some e] at hl ⊢
   rw [List.map_cons, filterMap_full f g l (fun q hq => h q (List.mem_cons_of_mem _ hq)) (by simpa using hl)]
  ·rw [List.filterMap_cons_none e] at hl
   have := List.length_filterMap_le f (l.map fun p => Expr.Name p.1 p.2)
   simp at this hl
   lia
theorem swapped_is {nm : List (Str × Pos)} {k k' : Nat} {tp vp : Pos} {es : List Expr} {env : Env} (hc : es.all (constantsAlone 8) = false) :
  swappedStores [.Tuple (nm.map fun p => Expr.Name p.1 p.2) k tp] (.Tuple es k' vp) env = pure none ∨ swappedStores [.Tuple (nm.map fun p => Expr.Name p.1 p.2) k tp] (.Tuple es k' vp) env = pure (some (nm.map (·.1))) := by
 unfold swappedStores
 dsimp only
 split
 ·exact .inl rfl
 ·split
  ·exact .inl rfl
  ·split
   ·exact .inl rfl
   ·rename_i hnn
    rw [hc]
    split
    ·exact .inl rfl
    ·right
     simp only [Bool.false_eq_true, if_false]
     rw [filterMap_full _ (·.1) nm (fun p _ => by
      dsimp only
      split
      ·exact .inl rfl
      ·exact .inr rfl) (by
      simp only [Bool.or_eq_true, bne_iff_ne, ne_eq, not_or, Decidable.not_not] at hnn
      have := hnn.1
      rw [List.length_map] at this
      exact this)]
theorem assignAll_one (v : Value) (t : Value → Sem Unit) : assignAll v [t] = t v := rfl
theorem sim_AssignNames {c : Ctx} {Γ : Gm} {bs k k' : Nat} {nm : List (Str × Pos)} {is : List Nat} {ts es : List Expr} {a : ME (List V)} {tp vp pos : Pos} (ht : ts = nm.map fun p => Expr.Name p.1 p.2) (ha : SimEs c Γ es a) (hn : nm.length = is.length) (hnd : is.Nodup)
  (hx : ∀ (j : Nat) (n : Str × Pos) (i : Nat), nm[j]? = some n → is[j]? = some i → Γ.lookup n.1 = some (some i) ∧ bs ≤ i) (hc : es.all (constantsAlone 8) = false) : SimS c Γ bs (.Assign [.Tuple ts k tp] (.Tuple es k' vp) pos) (namesM is a) := by
 intro A d X env F ρ σ μ s Q hA R E h
 subst ht
 have hx' : ∀ (j : Nat) (n : Str) (i : Nat), (nm.map (·.1))[j]? = some n → is[j]? = some i → Γ.lookup n = some (some i) ∧ bs ≤ i := fun j n i hn hi => by
  rw [List.getElem?_map] at hn
  obtain ⟨p, hp, rfl⟩ := Option.map_eq_some_iff.mp hn
  exact hx j p i hp hi
 rw [exec_Assign_arm]
 refine wpAny_bind (wpAny_standAt ?_)
 have hsw : swapsWithSole [.Tuple (nm.map fun p => Expr.Name p.1 p.2) k tp] (.Tuple es k' vp) pos.line env = pure false := rfl
 rw [hsw]
 refine wpAny_bind (wpAny_pure ?_)
 rw [if_neg (by decide)]
 refine wpAny_bind (wp_seq (sim_Tuple (a := a) ha A d X bs env F ρ σ μ s _ hA R E h) fun u x σ₁ μ₁ s₁ q R₁ t₁ e₁ g₁ o₁ => ?_)
 obtain ⟨xs, rfl, hlen, q⟩ := namesC_inv q
 obtain ⟨ad, items, rfl, ga, fa, tl⟩ := t₁.inv
 have el := tl.length
 have hT : s₁.heap.IsTuple ad items.toArray := ⟨_, ga, rfl, 0, rfl⟩
 have E₁ := E.mono e₁
 have after : ∀ h', Heap.ExtBut s₁.heap.objs.size s₁.heap h' → Rel c X σ₁ μ₁ h' ∧ Evσ X σ₁ μ₁ s₁.heap X σ₁ μ₁ h' := fun h' hx => R₁.keeps fun b o eb => hx b o (fun z => by rw [z, get_size] at eb; cases eb) eb
 rcases swapped_is (nm := nm) (k := k) (k' := k') (tp := tp) (vp := vp) (es := es) (env := env) hc with hw | hw
 ·rw [hw]
  refine wpAny_bind (wpAny_pure ?_)
  unfold assignStores
  dsimp only
  rw [show (assignEach [.Tuple (nm.map fun p => Expr.Name p.1 p.2) k tp] env).map (·.2) = [assign (.Tuple (nm.map fun p => Expr.Name p.1 p.2) k tp) env] from rfl, assignAll_one, arm_assign_Tuple, assignEach_names]
  refine wpAny_bind ?_
  refine wpAny_bind (wpAny_standAt (wpAny_unpack_tuple hA.handled hT (by simp; lia) (by rw [List.findIdx?_eq_none_iff]; intro x hx; obtain ⟨p, _, rfl⟩ := List.mem_map.mp hx; rfl) fun h' hx' => ?_))
  obtain ⟨R₂, e₂⟩ := after h' hx'
  rw [List.map_map]
  refine wpA_seq (wp_assignNames (Q := fun ρ σ => Q .next ρ σ) nm is xs items ρ σ₁ μ₁ { s₁ with heap := h' } R₂ (E₁.mono e₂) (tl.mono e₂) hn hlen.symm hx q) fun _ ρ₃ σ₃ μ₃ s₃ q₃ R₃ e₃ E₃ g₃ o₃ => ?_
  exact wpAny_pure ⟨_, _, _, _, q₃, R₃, .next, (Evσ.toF (e₁.trans e₂) E.fx).trans e₃, E₃, g₃.trans g₁, o₃.trans o₁⟩
 ·rw [hw]
  refine wpAny_bind (wpAny_pure ?_)
  unfold assignStores
  dsimp only
  refine wpAny_bind (wpAny_rule ?_)
  have hlen' : (nm.map (·.1)).length = items.toArray.size := by simp; lia
  rw [hlen']
  refine wpAny_bind (wpAny_unpackItems_tuple hA.handled hT fun h' hx'' => ?_)
  obtain ⟨R₂, e₂⟩ := after h' hx''
  have tr : VRs h' (Sx X σ₁ μ₁) μ₁ σ₁.length items.reverse xs.reverse := (tl.mono e₂).reverse
  have hrev : ∀ (j : Nat) (n : Str) (i : Nat), (nm.map (·.1)).reverse[j]? = some n → is.reverse[j]? = some i → Γ.lookup n = some (some i) ∧ bs ≤ i := fun j n i hn' hi' => by
   have hj : j < is.length := by have := (List.getElem?_eq_some_iff.mp hi').1; simpa using this
   rw [List.getElem?_reverse (by simpa [hn] using hj)] at hn'
   rw [List.getElem?_reverse hj] at hi'
   have e : (nm.map (·.1)).length = is.length := by simpa using hn
   rw [e] at hn'
   exact hx' _ n i hn' hi'
  refine wpAny_bind ?_
  rw [List.toList_toArray]
  refine wpA_seq (wp_bindAll (Q := fun ρ σ => Q .next ρ σ) (nm.map (·.1)).reverse is.reverse xs.reverse items.reverse ρ σ₁ μ₁ { s₁ with heap := h' } R₂ (E₁.mono e₂) tr (by simpa using hn) (by simpa using hlen.symm) hrev (by rw [setAll_rev is xs ρ hlen.symm hnd]; exact q)) fun _ ρ₃ σ₃ μ₃ s₃ q₃ R₃ e₃ E₃ g₃ o₃ => ?_
  exact wpAny_pure ⟨_, _, _, _, q₃, R₃, .next, (Evσ.toF (e₁.trans e₂) E.fx).trans e₃, E₃, g₃.trans g₁, o₃.trans o₁⟩
end
section
inductive VP (h : Heap) (S : Nat → Prop) (μ : Nat → Nat) (n : Nat) : List (Value × Value) → List (V × V) → Prop
 | nil : VP h S μ n [] []
 | cons {k v : Value} {x y : V} {vs : List (Value × Value)} {kvs : List (V × V)} (a : VR h S μ n k x) (b : VR h S μ n v y) (r : VP h S μ n vs kvs) : VP h S μ n ((k, v) :: vs) ((x, y) :: kvs)
noncomputable def dsets : List (V × V) → List (V × V) → List (V × V)
 | acc, [] => acc
 | acc, p :: kvs => dsets (dset acc p.1 p.2) kvs
theorem dsets_ok : ∀ (kvs acc : List (V × V)), (∀ p ∈ acc, p.1.key = true ∧ p.1.dep ≤ 7) → (∀ p ∈ kvs, p.1.key = true ∧ p.1.dep ≤ 7) → ∀ p ∈ dsets acc kvs, p.1.key = true ∧ p.1.dep ≤ 7
 | [], _, h, _ => h
 | (k, v) :: kvs, acc, h, g => dsets_ok kvs _ (dset_ok h (g _ List.mem_cons_self).1 (g _ List.mem_cons_self).2) fun p hp => g p (List.mem_cons_of_mem _ hp)
section
variable {h : Heap} {S : Nat → Prop} {μ : Nat → Nat} {n : Nat}
theorem VP.carries {prog : Program} {w : World} {K : Type} [DecidableEq K] {knd : KeyKind prog w K} {emb : K → V} (E : Emb knd emb) {vs : List (Value × Value)} {kvs : List (V × V)} (x : VP h S μ n vs kvs) (hk : ∀ p ∈ kvs, ∃ k, p.1 = emb k) :
  ∃ ps, Carries knd vs ps ∧ PR h S μ n emb ps kvs := by
 induction x with
 | nil => exact ⟨[], trivial, .nil⟩
 | @cons k v x y vs kvs a b r ih =>
  obtain ⟨ps, p1, p2⟩ := ih fun p hp => hk p (List.mem_cons_of_mem _ hp)
  obtain ⟨k', e⟩ := hk (x, y) List.mem_cons_self
  dsimp only at e
  subst e
  exact ⟨(k', v) :: ps, ⟨E.of a, rfl, p1⟩, .cons b p2⟩
theorem PR.merged {prog : Program} {w : World} {K : Type} [DecidableEq K] {knd : KeyKind prog w K} {emb : K → V} (E : Emb knd emb) {ps : List (K × Value)} {kvs : List (V × V)} (x : PR h S μ n emb ps kvs) :
  ∀ {acc : List (K × Value)} {acc' : List (V × V)}, PR h S μ n emb acc acc' → PR h S μ n emb (PySem.merged acc ps) (dsets acc' kvs) := by
 induction x with
 | nil => exact fun y => by simpa [PySem.merged, dsets] using y
 | @cons k v x ps kvs a r ih =>
  intro acc acc' y
  have := ih (y.store E k a)
  simpa [PySem.merged, dsets] using this
end
noncomputable def RP : Rl (List (V × V)) (List (Value × Value)) := fun X σ μ h vs kvs => VP h (Sx X σ μ) μ σ.length vs kvs
noncomputable def pairsOf (ps : List (Expr × Expr)) (env : Env) (pos : Pos) : List (Sem Value × Sem Value) := ps.map fun p => (eval p.1 env, do let x ← eval p.2 env; standAt pos; pure x)
noncomputable def SimPs (c : Ctx) (Γ : Gm) (ps : List (Expr × Expr)) (m : ME (List (V × V))) : Prop := ∀ A d X bs env F ρ σ μ s Q pos, Room A d → Rel c X σ μ s.heap → EnvR c X Γ bs env F ρ σ μ s.heap → m d ρ σ Q → wpAny c.M A (evalPairs (pairsOf ps env pos)) (Post c RP X σ μ s Q) Bot s
noncomputable def nilP : ME (List (V × V)) := fun _ _ σ Q => Q [] σ
noncomputable def consP (a b : ME V) (r : ME (List (V × V))) : ME (List (V × V)) := fun d ρ σ Q => a d ρ σ fun x σ => b d ρ σ fun y σ => r d ρ σ fun kvs σ => Q ((x, y) :: kvs) σ
section
variable {c : Ctx} {Γ : Gm}
theorem simP_nil : SimPs c Γ [] nilP := fun _ _ _ _ _ _ _ _ _ _ _ _ _ R _ h => evalPairs_nil (Post.here R .nil h)
theorem simP_cons {k v : Expr} {ps : List (Expr × Expr)} {a b : ME V} {r : ME (List (V × V))} (ha : SimE c Γ k a) (hb : SimE c Γ v b) (hr : SimPs c Γ ps r) : SimPs c Γ ((k, v) :: ps) (consP a b r) := by
 intro A d X bs env F ρ σ μ s Q pos hA R E h
 refine evalPairs_cons (wp_seq (ha A d X bs env F ρ σ μ s _ hA R E h) fun kv x σ₁ μ₁ s₁ q R₁ t e₁ g o => ?_)
 refine wpAny_bind (wp_seq (hb A d X bs env F ρ σ₁ μ₁ s₁ _ hA R₁ (E.mono e₁) q) fun vv y σ₂ μ₂ s₂ q₂ R₂ t₂ e₂ g₂ o₂ => ?_)
 refine wpAny_bind (wpAny_standAt (wpAny_pure ?_))
 refine wp_seq (hr A d X bs env F ρ σ₂ μ₂ s₂ _ pos hA R₂ ((E.mono e₁).mono e₂) q₂) fun vs kvs σ₃ μ₃ s₃ q₃ R₃ t₃ e₃ g₃ o₃ => ?_
 exact ⟨_, σ₃, μ₃, q₃, R₃, .cons ((t.mono e₂).mono e₃) (t₂.mono e₃) t₃, (e₁.trans e₂).trans e₃, by rw [g₃, g₂, g], by rw [o₃, o₂, o]⟩
noncomputable def pairsP (st : Bool) (kvs : List (V × V)) : Prop := (∀ p ∈ kvs, p.1.key = true ∧ p.1.dep ≤ 7) ∧ (kvs.all fun p => V.like p.1 (bif st then .str "" else .int 0)) = true
noncomputable def dictPM (st : Bool) (m : ME (List (V × V))) : ME V := fun d ρ σ Q => m d ρ (σ ++ [some (.dict [])]) fun kvs σ' => σ'[σ.length]? = some (some (.dict [])) ∧ pairsP st kvs ∧ Q (.ref σ.length) (σ'.set σ.length (some (.dict (dsets [] kvs))))
theorem sim_Dict {st : Bool} {ks vs : List Expr} {ps : List (Expr × Expr)} {pos : Pos} {m : ME (List (V × V))} (h1 : ks = ps.map (·.1)) (h2 : vs = ps.map (·.2)) (h0 : ps ≠ []) (hl : ps.length ≤ 15) (hm : SimPs c Γ ps m) : SimE c Γ (.Dict (ks.map some) vs pos) (dictPM st m) := by
 subst h1 h2
 intro A d X bs env F ρ σ μ s Q hA R E h
 have shape : (evalEachOpt ((ps.map (·.1)).map some) env).zip ((evalEach (ps.map (·.2)) env).map fun v => do let x ← v; standAt pos; pure x) = (pairsOf ps env pos).map fun p => (some p.1, p.2) := by
  clear hm h0 hl h
  induction ps with
  | nil => rfl
  | cons p ps ih =>
   show (evalOpt (some p.1) env, _) :: _ = (some _, _) :: _
   exact congrArg (_ :: ·) ih
 have hlen : (pairsOf ps env pos).length = ps.length := by simp [pairsOf]
 obtain ⟨μ', R', e', hμ⟩ := R.alloc (o := dictO [] 0) (p := .dict []) fun μ' e' _ => OR.dict (Heap.get?_push_size _ rfl) .nil (by simp) (by simp)
 unfold dictPM at h
 have body := hm A d X bs env F ρ (σ ++ [some (.dict [])]) μ' { s with heap := s.heap.push (dictO [] 0) } _ pos hA R' (E.mono e') h
 have fin {K : Type} [DecidableEq K] {knd : KeyKind c.prog c.w K} {emb : K → V} (EE : Emb knd emb) {vs : List (Value × Value)} {kvs : List (V × V)} {σ₁ : Mine.St} {μ₁ : Nat → Nat} {s₁ : Shared} (R₁ : Rel c X σ₁ μ₁ s₁.heap) (t : RP X σ₁ μ₁ s₁.heap vs kvs) (hi : σ₁[σ.length]? = some (some (.dict [])))
   (hmu : μ₁ σ.length = s.heap.objs.size) (hk : ∀ p ∈ kvs, ∃ k, p.1 = emb k) (ok : ∀ p ∈ kvs, p.1.key = true ∧ p.1.dep ≤ 7)
   (q : Q (.ref σ.length) (σ₁.set σ.length (some (.dict (dsets [] kvs))))) (ev : Evσ X σ μ s.heap X σ₁ μ₁ s₁.heap) (g : s₁.gens = s.gens) (o : s₁.os = s.os) :
   ∃ ps, Carries knd vs ps ∧ s₁.heap.DictOf knd s.heap.objs.size [] ∧
   ∀ h', h'.DictOf knd s.heap.objs.size (PySem.merged [] ps) → Heap.SameBut s.heap.objs.size s₁.heap h' → Post c RV X σ μ s Q (.ref s.heap.objs.size) { s₁ with heap := h', toks := s₁.toks + vs.length } := by
  obtain ⟨ps, p1, p2⟩ := t.carries EE hk
  cases R₁.obj _ _ hi with | dict e1 x u ok1 =>
  obtain ⟨ps0, hd, p0⟩ := dict_of EE e1 x u (by simp)
  cases p0
  rw [hmu] at hd
  refine ⟨ps, p1, hd, fun h' hd' hs => ?_⟩
  rw [← hmu] at hd' hs
  obtain ⟨o', _, _, g', _⟩ := id hd'
  have r := R₁.upd (p := .dict (dsets [] kvs)) hi hs ⟨o', g'⟩ fun ev => of_dict EE hd' ((p2.mono ev).merged EE .nil) (dsets_ok kvs [] (by simp) ok)
  refine ⟨_, _, μ₁, q, r.1, ?_, ev.trans r.2, g, o⟩
  have := VR.ref (h := h') (S := Sx X (σ₁.set σ.length (some (.dict (dsets [] kvs)))) μ₁) (μ := μ₁) (n := (σ₁.set σ.length (some (.dict (dsets [] kvs)))).length) (i := σ.length) (by simpa using lt_of_get hi)
  rw [hmu] at this
  exact this
 have mu_at {σ₁ : Mine.St} {μ₁ : Nat → Nat} {h₁ : Heap} {h₀ : Heap} (e₁ : Evσ X (σ ++ [some (.dict [])]) μ' h₀ X σ₁ μ₁ h₁) : μ₁ σ.length = s.heap.objs.size := by rw [e₁.mu _ (by simp), hμ]
 cases st with
 | true =>
  refine wpAny_Dict_pairs (knd := strKind c.prog c.w) shape (by simp [pairsOf, h0]) (by lia) ?_
  exact wp_seq body fun vs kvs σ₁ μ₁ s₁ q R₁ t e₁ g o => fin (embStr c.prog c.w) R₁ t q.1 (mu_at e₁) (like_str (i := "") q.2.1.2) q.2.1.1 q.2.2 (e'.trans e₁) g o
 | false =>
  refine wpAny_Dict_pairs (knd := intKind c.prog c.w) shape (by simp [pairsOf, h0]) (by lia) ?_
  exact wp_seq body fun vs kvs σ₁ μ₁ s₁ q R₁ t e₁ g o => fin (embInt c.prog c.w) R₁ t q.1 (mu_at e₁) (like_int (i := 0) q.2.1.2) q.2.1.1 q.2.2 (e'.trans e₁) g o
end
end
section
noncomputable abbrev RS : Rl Str Str := fun _ _ _ _ b x => b = x
noncomputable abbrev JM := Str → ME Str
noncomputable def SimJ (c : Ctx) (Γ : Gm) (es : List Expr) (m : JM) : Prop := ∀ A d X bs env F ρ σ μ s Q acc (P : Str → Shared → Prop), Room A d → Rel c X σ μ s.heap → EnvR c X Γ bs env F ρ σ μ s.heap → m acc d ρ σ Q →
 (∀ out s', Post c RS X σ μ s Q out s' → P out s') → Joins c.M A Bot (evalEach es env) acc P s
noncomputable def nilJ : JM := fun acc _ _ σ Q => Q acc σ
noncomputable def strP (x : V) (k : Str → Prop) : Prop := match x with
 | .str y => k y
 | _ => False
noncomputable def consJ (a : ME V) (b : JM) : JM := fun acc d ρ σ Q => a d ρ σ fun x σ => strP x fun y => (acc ++ y).length ≤ 1000000 ∧ b (acc ++ y) d ρ σ Q
noncomputable def fmtP (x : V) (k : Str → Prop) : Prop := match x with
 | .int i => i.natAbs.log2 < 1920 ∧ k (toString i)
 | .str y => y.length ≤ 1000000 ∧ k y
 | _ => False
noncomputable def fmtM (a : ME V) : ME V := fun d ρ σ Q => a d ρ σ fun x σ => fmtP x fun y => Q (.str y) σ
noncomputable def joinM (j : JM) : ME V := fun d ρ σ Q => j Str.empty d ρ σ fun out σ => out.length ≤ 1000000 ∧ Q (.str out) σ
section
variable {c : Ctx} {Γ : Gm}
theorem simJ_nil : SimJ c Γ [] nilJ := fun _ _ _ _ _ _ _ _ _ _ _ _ _ _ R _ h k => k _ _ (Post.here R rfl h)
theorem simJ_cons {e : Expr} {es : List Expr} {a : ME V} {b : JM} (ha : SimE c Γ e a) (hb : SimJ c Γ es b) : SimJ c Γ (e :: es) (consJ a b) := by
 intro A d X bs env F ρ σ μ s Q acc P hA R E h k
 refine wp_seq (ha A d X bs env F ρ σ μ s _ hA R E h) fun v x σ₁ μ₁ s₁ q R₁ t e₁ g o => ?_
 unfold strP at q
 split at q
 ·rename_i y
  obtain ⟨tk, rfl⟩ := t.inv
  exact ⟨y, tk, rfl, le_sizeLine q.1, hb A d X bs env F ρ σ₁ μ₁ s₁ Q _ P hA R₁ (E.mono e₁) q.2 fun out s' p => k _ _ (p.after e₁ g o)⟩
 ·exact q.elim
theorem sim_Fmt {e : Expr} {a : ME V} {pos : Pos} (ha : SimE c Γ e a) : SimE c Γ (.FormattedValue e (-1) none pos) (fmtM a) := by
 intro A d X bs env F ρ σ μ s Q hA R E h
 refine wpAny_FormattedValue_plain (wp_seq (ha A d X bs env F ρ σ μ s _ hA R E h) fun v x σ₁ μ₁ s₁ q R₁ t e₁ g o => ?_)
 unfold fmtP at q
 split at q
 ·obtain ⟨tk, rfl⟩ := t.inv
  exact wpAny_formatField_int q.1 ((Post.tok R₁ (.str _ _) q.2 : Post c RV X σ₁ μ₁ s₁ Q _ _).after e₁ g o)
 ·obtain ⟨tk, rfl⟩ := t.inv
  exact wpAny_formatField_str ((Post.here R₁ (.str _ _) q.2 : Post c RV X σ₁ μ₁ s₁ Q _ _).after e₁ g o) ((Post.tok R₁ (.str _ _) q.2 : Post c RV X σ₁ μ₁ s₁ Q _ _).after e₁ g o) (le_sizeLine q.1)
 ·exact q.elim
theorem sim_Join {v₁ v₂ : Expr} {es : List Expr} {j : JM} {pos : Pos} (hj : SimJ c Γ (v₁ :: v₂ :: es) j) : SimE c Γ (.JoinedStr (v₁ :: v₂ :: es) pos) (joinM j) := by
 intro A d X bs env F ρ σ μ s Q hA R E h
 refine wpAny_JoinedStr (hj A d X bs env F ρ σ μ s _ _ _ hA R E h fun out s' p => ?_)
 obtain ⟨x, σ', μ', q, R', rfl, e, g, o⟩ := p
 exact ⟨le_sizeLine q.1, _, σ', μ', q.2, R', .str _ _, e, g, o⟩
end
end
section
theorem storeName_cl {env : Env} {cl : List (Str × Addr)} {n : Str} {v : Value} (h : env.kindOf n = some .local ∨ (env.cells.lookup n).isSome = true) : storeName { env with cells := env.cells ++ cl } n v = storeName env n v := by
 have hk : ({ env with cells := env.cells ++ cl } : Env).kindOf n = env.kindOf n := rfl
 unfold storeName
 rcases h with h | h
 ·rw [hk, h]; rfl
 ·obtain ⟨a, ha⟩ := Option.isSome_iff_exists.mp h
  have hc : cellOf { env with cells := env.cells ++ cl } n = cellOf env n := by
   unfold cellOf
   show (match (env.cells ++ cl).lookup n with | some a => _ | none => _) = _
   rw [List.lookup_append, ha]; rfl
  rw [hc]; rfl
theorem forIn_cl {env : Env} {cl : List (Str × Addr)} (f g : Str × Value → PUnit → Sem (ForInStep PUnit)) (hf : ∀ n v u, f (n, v) u = (do storeName { env with cells := env.cells ++ cl } n v; pure (.yield ⟨⟩)))
  (hg : ∀ n v u, g (n, v) u = (do storeName env n v; pure (.yield ⟨⟩))) : ∀ (binds : List (Str × Value)), (∀ x ∈ binds, env.kindOf x.1 = some .local ∨ (env.cells.lookup x.1).isSome = true) → forIn binds ⟨⟩ f = forIn binds ⟨⟩ g
 | [], _ => rfl
 | (n, v) :: r, h => by
  have ih := forIn_cl f g hf hg r fun x hx => h x (List.mem_cons_of_mem _ hx)
  rw [List.forIn_cons, List.forIn_cons, hf, hg, storeName_cl (h (n, v) List.mem_cons_self)]
  refine congrArg _ (funext fun x => ?_)
  cases x with
  | done b => rfl
  | yield b => exact ih
section
variable {M : Model} {A : Around} {E : Value → Shared → Prop} {s : Shared}
theorem wpAny_newFunctionEnv_cl {scope : Scope} {globals : Addr} {cl : List (Str × Addr)} {binds : List (Str × Value)} {qual : Str} {func : Option Addr} {code : Value} {builtins : Addr} {Q : Env → Shared → Prop}
  (hk : scope.kind = .function)
  (hkind : ∀ x ∈ binds, scope.names.lookup x.1 = some .local ∨ (scope.names.lookup x.1 = some .cell ∧ ((cellsFrom (s.heap.objs.size + 1) scope.names []).lookup x.1).isSome = true))
  (hQ : ∀ env, env = newEnv scope s.heap.objs.size globals (cellsFrom (s.heap.objs.size + 1) scope.names []) qual func code none builtins →
   ∀ s', InCallC s env.locals (bindL env.kindOf binds fun _ => none) env.cells (bindC env.kindOf binds fun _ => none) s' → Q { env with cells := env.cells ++ cl } s') :
  wpAny M A (newFunctionEnv scope globals cl binds qual func code none builtins) Q E s := by
 simp only [newFunctionEnv, Option.isSome_none, Bool.false_eq_true, if_false]
 refine wpAny_bind (wpAny_alloc ?_)
 refine wpAny_bind (wpAny_layCells _ (fun name kind cells => by cases hkc : kind == NameKind.cell <;> simp [hkc]) _ _ _ _ ?_)
 have ok := cellsFrom_ok scope.names (s.heap.push { cls := .type "frame", data := .dict #[] }) (s.heap.objs.size + 1) [] ⟨fun _ _ hm => (nomatch hm), List.Pairwise.nil⟩ (by rw [Heap.size_push]; exact Nat.le_refl _)
 rw [Heap.size_push] at ok
 rw [show ({ s with heap := s.heap.push { cls := .type "frame", data := .dict #[] } } : Shared).heap.objs.size = s.heap.objs.size + 1 from Heap.size_push ..]
 rw [cellsFrom_app scope.names _ cl]
 let env0 := newEnv scope s.heap.objs.size globals (cellsFrom (s.heap.objs.size + 1) scope.names []) qual func code none builtins
 rw [forIn_cl (env := env0) (cl := cl) _ (fun x _ => do storeName env0 x.1 x.2; pure (.yield ⟨⟩)) (fun _ _ _ => rfl) (fun _ _ _ => rfl) binds fun x hx => (hkind x hx).imp id fun h => h.2]
 refine wpAny_bind (wpAny_bindParams (s₀ := s) (env := env0)
  _ (fun _ _ _ => rfl) hk binds (fun _ => none) (fun _ => none) _ _
  ⟨⟨⟨_, _, rfl⟩, (Heap.Ns.new s.heap (.type "frame")).keeps (pushCells_keeps _ _), fun b o e => pushCells_keeps _ _ b o (Heap.get?_push_of_some _ e), Nat.le_refl _⟩,
   fun n c hc => (ok.empty n c (mem_of_lookup hc)).1, ok.apart, fun n c hm => (ok.empty n c hm).2⟩
  hkind fun s' x => wpAny_pure (hQ _ rfl s' x))
end
noncomputable def callEnvD (fd : FuncData) (L a : Addr) : Env := { callEnvC fd L a with cells := (callEnvC fd L a).cells ++ fd.closure }
set_option backward.match.sparseCases true in
theorem codeAny_call_cl {prog : Program} {w : World} {A : Around} {s : Shared} {R : Result → Shared → Prop} {a : Addr} {o : Obj} {fd : FuncData} {body : List Stmt} {args : Args} {binds : List (Str × Value)}
  (hroom : A.depth < recursionLimit) (ho : s.heap.get? a = some o) (hdata : o.data = .func fd) (hlim : s.heap.NoLimit) (hcd : s.heap.CodeRec fd.code fd.qualname)
  (hbody : fd.body = .stmts body) (hbind : BindsTo s fd args binds)
  (hkind : ∀ x ∈ binds, fd.scope.names.lookup x.1 = some .local ∨ (fd.scope.names.lookup x.1 = some .cell ∧ ((cellsFrom (s.heap.objs.size + 1) fd.scope.names []).lookup x.1).isSome = true))
  (h : ∀ s₁, InCallC s (callEnvC fd s.heap.objs.size a).locals (bindL (callEnvC fd s.heap.objs.size a).kindOf binds fun _ => none) (callEnvC fd s.heap.objs.size a).cells
    (bindC (callEnvC fd s.heap.objs.size a).kindOf binds fun _ => none) s₁ →
   _root_.PySem.wpAt (model prog w) (A.deeper (callEnvD fd s.heap.objs.size a)) (.func body (callEnvD fd s.heap.objs.size a)) (execs body (callEnvD fd s.heap.objs.size a)) (fun f s' => R (.ok (.ret (match f with | .ret v => v | _ => .none))) s')
    (fun e s' => wpAny (model prog w) (A.deeper (callEnvD fd s.heap.objs.size a)) (leaving (callEnvD fd s.heap.objs.size a) e) (fun _ s'' => R (.error e) s'') (fun e' s'' => R (.error e') s'') s') s₁)
  (hco : fd.scope.isCoroutine = false) (hgen : fd.scope.isGenerator = false) (hk : fd.scope.kind = .function) :
  codeAny (model prog w) A (.call (.ref a) args) R s := by
 refine codeAny_call_function hroom ho hdata hco hgen hbody hcd (hbind _ _ _ _ ?_)
 refine wpAny_newFunctionEnv_cl hk hkind fun env he s' x => ?_
 subst he
 exact ⟨hlim.keeps x.toInCall.keep, ks_codeAny_funcAt (h s' x)⟩
end
section
structure FnAtD (c : Ctx) (a : Addr) (fd : FuncData) (body : List Stmt) (params : List Str) (dfl : List V) (cA : Option Addr) (Γ : Gm) : Prop where
 obj : ∃ o, c.h0.get? a = some o ∧ o.data = .func fd
 code : c.h0.CodeRec fd.code fd.qualname
 body : fd.body = .stmts body
 bind : ∀ X σ μ s (vals : List Value), Rel c X σ μ s.heap → vals.length + dfl.length = params.length → ∃ dv, VRs s.heap (Sx X σ μ) μ σ.length dv dfl ∧ BindsTo s fd ⟨vals, []⟩ (params.zip (vals ++ dv))
 clo : fd.closure = cA.toList.map fun b => (("__class__" : Str), b)
 cell : ∀ b, cA = some b → (∃ o, c.h0.get? b = some o) ∧ fd.scope.names.lookup ("__class__" : Str) = some .free
 nocell : ∀ {b}, cA = some b → (("__class__" : Str), NameKind.cell) ∉ fd.scope.names
 fn : ∀ f b, Γ.fn = some (f, b) → f = a ∧ cA = some b
 glob : fd.globals = mainGlobals
 blt : fd.builtins = builtinsNs
 scope : scopeOk Γ fd.scope.names params = true
 co : fd.scope.isCoroutine = false
 gen : fd.scope.isGenerator = false
 kind : fd.scope.kind = .function
noncomputable def SimBAt (c : Ctx) (Γ : Gm) (w st : List Stmt) (m : MS) : Prop := ∀ A d X env F ρ σ μ s Q, Room A d → Rel c X σ μ s.heap → EnvR c X Γ 0 env F ρ σ μ s.heap → m d ρ σ Q → _root_.PySem.wpAt c.M A (.func w env) (execs st env) (PostS c Γ 0 env F X σ μ s Q) Bot s
theorem SimB.at_ {c : Ctx} {Γ : Gm} {w st : List Stmt} {m : MS} (h : SimB c Γ 0 st m) : SimBAt c Γ w st m := fun A d X env F ρ σ μ s Q hA R E q => _root_.PySem.wpAt_of_wpAny (h A d X env F ρ σ μ s Q hA R E q)
theorem codeT_fnAt {c : Ctx} {a : Addr} {fd : FuncData} {body : List Stmt} {params : List Str} {dfl : List V} {cA : Option Addr} {Γ : Gm} {m : MS} {k d : Nat} {given : List V} {σ : St} {Q : V → St → Prop} (ok : c.Ok) (H : FnAtD c a fd body params dfl cA Γ) (hm : SimBAt c Γ body body m)
  (hl : (given ++ dfl).length = params.length) (h : m d ((given ++ dfl).map some ++ List.replicate k none) σ (retQ Q)) : CodeT c (.ref a) (d + 1) given σ Q := by
 intro A X μ s gs hA R t0
 obtain ⟨o, ho, hd⟩ := H.obj
 obtain ⟨dv, td, hbd⟩ := H.bind X σ μ s gs R (by rw [t0.length, ← List.length_append]; exact hl)
 let vs := gs ++ dv
 let args := given ++ dfl
 have t : VRs s.heap (Sx X σ μ) μ σ.length vs args := t0.append td
 have hvl : vs.length = params.length := t.length.trans hl
 have hbp : ∀ x ∈ params.zip vs, ∃ i, params[i]? = some x.1 ∧ vs[i]? = some x.2 := fun x hx => by
  obtain ⟨i, hi⟩ := List.getElem?_of_mem hx
  have := List.getElem?_zip_eq_some.mp (show (params.zip vs)[i]? = some (x.1, x.2) from hi)
  exact ⟨i, this⟩
 refine codeAny_call_cl (by have := hA.depth; lia) (R.base _ _ ho) hd (ok.nolimit.keeps R.base) (H.code.keeps R.base) H.body hbd (fun x hx => ?_) (fun s₁ x => ?_) H.co H.gen H.kind
 ·obtain ⟨i, hi, _⟩ := hbp x hx
  rcases scopeOk_slot H.scope (scopeOk_par H.scope hi) with e | e
  ·exact .inl e
  ·exact .inr ⟨e, cellsFrom_some _ _ _ _ e⟩
 ·let L := s.heap.objs.size
  let env0 := callEnvC fd L a
  let env := callEnvD fd L a
  let F : Nat → Prop := fun b => b = L ∨ ∃ n, env0.cells.lookup n = some b
  let X' : Nat → Prop := fun b => X b ∨ F b
  have hLX : env.locals = L := rfl
  have fresh : ∀ b, F b → s.heap.get? b = none := fun b hb => by
   rcases hb with rfl | ⟨n, hn⟩
   ·exact get_above (Nat.le_refl _)
   ·exact get_above (Nat.le_of_lt (x.above n b (mem_of_lookup hn)))
  have live : ∀ b, F b → ∃ o, s₁.heap.get? b = some o := fun b hb => by
   rcases hb with rfl | ⟨n, hn⟩
   ·obtain ⟨o, _, _, e, _⟩ := x.toInCall.ns; exact ⟨o, e⟩
   ·obtain ⟨o, e, _⟩ := x.cell n b hn; exact ⟨o, e⟩
  have notTr : ∀ b, F b → ¬ Tr σ μ b := fun b hb ht => R.fresh (fresh b hb) (.inl ht)
  have hbase : ∀ b, F b → c.h0.get? b = none := fun b hb => by
   cases z : c.h0.get? b with
   | none => rfl
   | some o => have := R.base _ _ z; rw [fresh b hb] at this; cases this
  obtain ⟨R₁, e₁⟩ := R.opens (X' := X') x.toInCall.keep fun b hb => hb.imp id fun hb => ⟨fresh b hb, live b hb⟩
  obtain ⟨hh, tk, hs₁⟩ := x.toInCall.same
  have g₁ : s₁.gens = s.gens := by rw [hs₁]
  have o₁ : s₁.os = s.os := by rw [hs₁]
  have t₁ : VRs s₁.heap (Sx X' σ μ) μ σ.length vs args := t.mono e₁
  have slot : ∀ {i : Nat} {y : V}, (args.map some ++ List.replicate k none)[i]? = some (some y) → args[i]? = some y := fun {i y} e => by
   rcases Nat.lt_or_ge i args.length with hlt | hge
   ·rw [List.getElem?_append_left (by simpa using hlt), List.getElem?_map] at e
    obtain ⟨z, hz, e⟩ := Option.map_eq_some_iff.mp e
    cases e; exact hz
   ·rw [List.getElem?_append_right (by simpa using hge), List.getElem?_replicate] at e
    split at e <;> cases e
  have at_ : ∀ {x : Str} {i : Nat} {y : V}, Γ.lookup x = some (some i) → (args.map some ++ List.replicate k none)[i]? = some (some y) → params[i]? = some x ∧ ∃ v, vs[i]? = some v ∧ VRσ X' σ μ s₁.heap v y := fun {x i y} hx e => by
   have e := slot e
   obtain ⟨v, hv, tv⟩ := t₁.get e
   have hi : i < params.length := by rw [← hl]; exact (List.getElem?_eq_some_iff.mp e).1
   have hp : params[i]? = some params[i] := List.getElem?_eq_getElem hi
   have := scopeOk_inj H.scope hx (scopeOk_par H.scope hp)
   exact ⟨by rw [hp, ← this], v, hv, tv⟩
  have uniq : ∀ {p : Str} (i j : Nat), params[i]? = some p → params[j]? = some p → i = j := fun i j hi hj => by
   have h1 := scopeOk_par H.scope hi
   have h2 := scopeOk_par H.scope hj
   rw [h1] at h2; injection h2 with h2; injection h2 with h2
  have cls : ∀ {y : Str} {b : Addr}, fd.closure.lookup y = some b → y = ("__class__" : Str) ∧ cA = some b := fun {y b} e => by
   rw [H.clo] at e
   cases z : cA with
   | none => rw [z] at e; cases e
   | some q =>
    rw [z] at e
    simp only [Option.toList, List.map_cons, List.map_nil, List.lookup_cons] at e
    split at e
    ·rename_i w; cases e; exact ⟨eq_of_beq w, rfl⟩
    ·cases e
  have clive : ∀ {b : Addr}, cA = some b → ∃ o, s.heap.get? b = some o := fun {b} e => by
   obtain ⟨⟨o, ho⟩, _⟩ := H.cell b e
   exact ⟨o, R.base _ _ ho⟩
  have ap : ∀ {y z : Str} {b : Addr}, env.cells.lookup y = some b → env.cells.lookup z = some b → y = z := fun {y z b} hy hz => by
   have hy : (env0.cells ++ fd.closure).lookup y = some b := hy
   have hz : (env0.cells ++ fd.closure).lookup z = some b := hz
   rw [List.lookup_append] at hy hz
   have own : ∀ {y : Str}, env0.cells.lookup y = some b → s.heap.get? b = none := fun e => fresh _ (.inr ⟨_, e⟩)
   cases h1 : env0.cells.lookup y with
   | some b1 =>
    rw [h1] at hy; cases hy
    cases h2 : env0.cells.lookup z with
    | some b2 => rw [h2] at hz; cases hz; exact name_of_addr x.apart (mem_of_lookup h1) (mem_of_lookup h2)
    | none => rw [h2] at hz; obtain ⟨o, e⟩ := clive (cls hz).2; rw [own h1] at e; cases e
   | none =>
    rw [h1] at hy
    cases h2 : env0.cells.lookup z with
    | some b2 => rw [h2] at hz; cases hz; obtain ⟨o, e⟩ := clive (cls hy).2; rw [own h2] at e; cases e
    | none => rw [h2] at hz; rw [(cls hy).1, (cls hz).1]
  have E₁ : EnvR c X' Γ 0 env F (args.map some ++ List.replicate k none) σ μ s₁.heap := by
   refine ⟨H.kind, H.glob, H.blt, fun y hy => scopeOk_glob H.scope hy, fun y z i hy hz => scopeOk_inj H.scope hy hz, ⟨_, x.toInCall.ns, fun y i hy hk V hV => ?_⟩, fun y i hy => ?_, fun y z b hy hz => ap hy hz, .inl rfl, fun b hb => .inr hb, fun b hb => ⟨notTr b hb, hbase b hb, live b hb⟩, fun y hy => .inl (scopeOk_ck H.scope hy), fun f b e => ?_⟩
   ·obtain ⟨hp, v, hv, tv⟩ := at_ hy hV
    exact ⟨v, bindL_at _ _ _ i y v hp hv uniq hk, tv⟩
   ·rcases scopeOk_slot H.scope hy with hk | hk
    ·exact .loc hk
    ·obtain ⟨b, hb⟩ := Option.isSome_iff_exists.mp (cellsFrom_some fd.scope.names (L + 1) [] y hk)
     have hb' : env0.cells.lookup y = some b := hb
     have hb2 : env.cells.lookup y = some b := by show (env0.cells ++ fd.closure).lookup y = _; rw [List.lookup_append, hb']; rfl
     have hF : F b := .inr ⟨y, hb'⟩
     refine .cell (.inl hk) b _ hb2 (x.cell y b hb') (fun V hV => ?_) (notTr b hF) (Nat.ne_of_gt (x.above y b (mem_of_lookup hb'))) (fun _ => ⟨hk, hF⟩)
     obtain ⟨hp, v, hv, tv⟩ := at_ hy hV
     exact ⟨v, bindC_at _ _ _ i y v hp hv uniq (by show fd.scope.names.lookup y ≠ _; rw [hk]; intro e; cases e), tv⟩
   ·obtain ⟨rfl, hcA⟩ := H.fn f b e
    obtain ⟨_, hfree⟩ := H.cell b hcA
    refine ⟨rfl, hfree, ?_, o, fd, ho, hd, rfl⟩
    show (env0.cells ++ fd.closure).lookup _ = _
    have hno : env0.cells.lookup ("__class__" : Str) = none := by
     cases z : env0.cells.lookup ("__class__" : Str) with
     | none => rfl
     | some q =>
      rcases cellsFrom_own _ _ _ _ _ (mem_of_lookup z) with hm | hm
      ·cases hm
      ·exact absurd hm (H.nocell hcA)
    rw [List.lookup_append, hno, H.clo, hcA]
    rfl
  have hA' : Room (A.deeper env) d := ⟨hA.handled, by have := hA.depth; show A.depth + 1 + d ≤ _; lia, by have := hA.units; show A.units + 3 + 8 * d + 300 ≤ _; lia⟩
  refine _root_.PySem.ks_wpAt_mono (hm (A.deeper env) d X' env F _ σ μ s₁ _ hA' R₁ E₁ h) (fun f s' hp => ?_) fun _ _ e => e.elim
  obtain ⟨fl, ρ', σ', μ', q, R', tf, ev, E', g', o'⟩ := hp
  obtain ⟨R₂, e₂⟩ := R'.shut (X' := X) fun b hb => .inl hb
  have evAll : Evσ X σ μ s.heap X σ' μ' s'.heap := by
   have nn : ∀ b, s₁.heap.get? b = none → s.heap.get? b = none := fun b hb => by
    cases z : s.heap.get? b with
    | none => rfl
    | some o => have := x.toInCall.keep _ _ z; rw [hb] at this; cases this
   have hsub : ∀ b, Tr σ' μ' b → Tr σ μ b ∨ s.heap.get? b = none := fun b hb => by
    rcases ev.subT b (.inl hb) with (ht | hF) | hn
    ·exact .inl ht
    ·exact .inr (fresh b hF)
    ·exact .inr (nn b hn)
   refine ⟨fun b o hb e => ev.keep b o (fun hf => hf.elim hb fun hF => ?_) (x.toInCall.keep _ _ e), fun b o e => ev.live b o (x.toInCall.keep _ _ e), fun b hb => .inl hb, hsub, fun b hb => ?_, ev.mu, ev.le⟩
   ·rw [fresh b hF] at e; cases e
   ·rcases hb with ht | hX
    ·exact (hsub b ht).imp .inl id
    ·exact .inl (.inr hX)
  cases tf with
  | next => exact ⟨_, _, _, q, R₂, .none, evAll, g'.trans g₁, o'.trans o₁⟩
  | ret tv => exact ⟨_, _, _, q, R₂, tv.mono e₂, evAll, g'.trans g₁, o'.trans o₁⟩
  | brk => exact q.elim
  | cont => exact q.elim
noncomputable abbrev FnAt (c : Ctx) (a : Addr) (fd : FuncData) (body : List Stmt) (params : List Str) (Γ : Gm) : Prop := FnAtD c a fd body params [] none Γ
theorem codeT_fn {c : Ctx} {a : Addr} {fd : FuncData} {body : List Stmt} {params : List Str} {Γ : Gm} {m : MS} {k d : Nat} {args : List V} {σ : St} {Q : V → St → Prop} (ok : c.Ok) (H : FnAt c a fd body params Γ) (hm : SimB c Γ 0 body m)
  (hl : args.length = params.length) (h : m d (args.map some ++ List.replicate k none) σ (retQ Q)) : CodeT c (.ref a) (d + 1) args σ Q := codeT_fnAt ok H hm.at_ ((congrArg List.length (List.append_nil args)).trans hl) ((List.append_nil args).symm ▸ h)
theorem codeT_fnC {c : Ctx} {a : Addr} {fd : FuncData} {body : List Stmt} {params : List Str} {Γ : Gm} {m : MS} {k d : Nat} {args : List V} {σ : Mine.St} {Q : V → Mine.St → Prop} (ok : c.Ok) (H : FnAt c a fd body params Γ) (hm : SimB c Γ 0 body m)
  (hl : args.length = params.length) (h : m d (args.map some ++ List.replicate k none) σ (retQ fun v σ' => cutP σ v σ' Q)) : CodeT c (.ref a) (d + 1) args σ Q := CodeT.cut (codeT_fn ok H hm hl h)
end
section
structure SuperAt (c : Ctx) (f0 cA : Addr) (x0 : Str) (D : Addr) : Prop where
 fn : ∃ oc od fd sl, c.K.lookup f0 = some ⟨oc, od, .func fd, sl⟩ ∧ (∃ ar, (fd.params.posonlyargs ++ fd.params.args).head? = some ar ∧ ar.arg = x0) ∧
  ∃ cda ccl cdd vs ccs file tf, fd.code = .ref cda ∧ c.K.lookup cda = some ⟨ccl, cdd, .fields vs, ccs⟩ ∧ vs[2]? = some (.str file tf) ∧ ((c.prog.main.file : Str) == file) = true
 cell : ∃ cl cld csl, c.K.lookup cA = some ⟨cl, cld, .cell (some (.ref D)), csl⟩
 top : (c.prog.main.scope.names.lookup ("super" : Str)).isSome = false
 sup : c.mg "super" = none ∧ c.mb "super" = some (.type "super")
 opq : nsIn c.K cStatics "thirdparty.any" = some none
noncomputable def superOk (K : Frag) (D : Addr) (name : Str) (C f : Addr) : Bool :=
 (clsIn K C).isSome && (clsIn K D).isSome && (ks_superIn K C D name == some (some (.ref f))) && (typeIn K (.ref f) == some (.type "function")) && fnIn K f && (mroIn K C (.ref D) == some true)
noncomputable def SimEAt (c : Ctx) (Γ : Gm) (w : List Stmt) (e : Expr) (m : ME V) : Prop := ∀ A d X env F ρ σ μ s Q, Room A d → Rel c X σ μ s.heap → EnvR c X Γ 0 env F ρ σ μ s.heap → m d ρ σ Q → _root_.PySem.wpAt c.M A (.func w env) (eval e env) (Post c RV X σ μ s Q) Bot s
noncomputable def superM (c : Ctx) (i0 : Nat) (T : Nat → Option Addr) (b : ME (List V)) : ME V := fun d ρ σ Q => match ρ[i0]? with
 | some (some (.inst C i)) => match T C, σ[i]? with
  | some f, some (some (.ns _)) => b d ρ σ fun xs σ => CodeT c (.ref f) d (.inst C i :: xs) σ Q
  | _, _ => False
 | _ => False
section
variable {c : Ctx} {Γ : Gm} {w : List Stmt}
set_option backward.match.sparseCases true in
theorem simAt_Super {f0 cA D : Addr} {x0 name : Str} {i0 : Nat} {T : Nat → Option Addr} {args : List Expr} {b : ME (List V)} {p0 p1 apos pos : Pos} (ok : c.Ok) (S : SuperAt c f0 cA x0 D) (hfn : Γ.fn = some (f0, cA)) (hx : Γ.lookup x0 = some (some i0))
  (hs : Γ.lookup "super" = some none) (hc : ∀ C f, T C = some f → superOk c.K D name C f = true) (hb : SimEs c Γ args b) (hat : (name == ("__class__" : Str)) = false) (hxd : (x0 == ("__classdict__" : Str)) = false)
  (hp : ∀ env, (backTo pos (starEach args env)).any (·.1) = false)
  (he : ∀ env, eval (.Call (.Attribute (.Call (.Name "super" p0) [] [] p1) name apos) args [] pos) env = (do
   let ov ← attributeBase (.Call (.Name "super" p0) [] [] p1) name env (eval (.Call (.Name "super" p0) [] [] p1) env)
   standAt apos.atName
   let (f, first) ← holding [ov] (getMethod ov name (do return (← importBound (.Call (.Name "super" p0) [] [] p1) env).getD true))
   callWith pos f first (backTo pos (starEach args env)) [])) :
  SimEAt c Γ w (.Call (.Attribute (.Call (.Name "super" p0) [] [] p1) name apos) args [] pos) (superM c i0 T b) := by
 intro A d X env F ρ σ μ s Q hA R E h
 have XK := ok.K.keeps R.base
 obtain ⟨hfu, hkc, hce, o', fd', ho', hd', hco'⟩ := E.fn _ _ hfn
 obtain ⟨oc, od, fd, sl, hK, ⟨ar, hpar, har⟩, cda, ccl, cdd, vs, ccs, file, tf, hcode, hKc, hvs, hfile⟩ := S.fn
 obtain ⟨cl, cld, csl, hcell⟩ := S.cell
 have e0 : (⟨oc, od, .func fd, sl⟩ : Obj) = o' := by
  have := ok.K _ _ hK; rw [ho'] at this; cases this; rfl
 subst e0
 cases hd'
 unfold superM at h
 split at h
 ·rename_i C i hρ
  split at h
  ·rename_i f kvs hT g
   have hok := hc C f hT
   simp only [superOk, Bool.and_eq_true, beq_iff_eq, Option.isSome_iff_exists] at hok
   obtain ⟨⟨⟨⟨⟨⟨cdC, k1⟩, ⟨cdD, k2⟩⟩, k3⟩, k4⟩, k5⟩, k6⟩ := hok
   obtain ⟨hh, gg, dd, tk, os⟩ := s
   obtain ⟨oD, hD1, hD2⟩ : ∃ oD, hh.get? D = some oD ∧ oD.data = .cls cdD := by
    unfold clsIn at k2
    split at k2
    ·rename_i c d cd' sl ho
     cases k2
     exact ⟨_, XK _ _ ho, rfl⟩
    ·cases k2
   refine ks_wpAt_MethodCall ?_ (he env)
   refine ks_wpAt_super_base (E.gl _ hs) hkc hat hfu (XK _ _ hK) rfl hpar (hco'.trans hcode) (XK _ _ hKc) rfl hvs hfile S.top ?_
   refine wp_loadGlobal ok R E hs (.inr S.sup) ⟨rfl, ?_⟩
   refine wpAny_loadName_free E.kind hkc hce ⟨_, XK _ _ hcell, rfl⟩ ?_
   rw [har]
   refine wp_loadName E hx hρ hxd fun v tv => ?_
   obtain ⟨ad, rfl, go, ff, hi⟩ := tv.inv
   obtain ⟨_, _, hn, hxn⟩ := (R.obj _ _ g).inv
   rename_i es' k'
   have I : InstAt hh ad (instObj C (μ i)) C (some (dictOf es' k')) := ⟨go, rfl, rfl, hn⟩
   refine ks_wpAny_isType_cls hD1 hD2 ⟨rfl, ?_⟩
   refine ks_wpAny_call_super hD1 hD2 I.at_ I.cls (fun c e => ?_) (looks_mroIn XK k6) (fun h' e k => ?_)
   ·have := I.no
    unfold notCls at this
    rw [e] at this
    exact Bool.noConfusion this
   obtain ⟨R1, e1⟩ := R.keeps k
   have X1 := ok.K.keeps R1.base
   obtain ⟨of, hof, hofc⟩ : ∃ of, h'.get? f = some of ∧ of.cls = .type "function" := by
    have ht' : (c.K.lookup f).map (·.cls) = some (.type "function") := k4
    cases z : c.K.lookup f with
    | none => rw [z] at ht'; cases ht'
    | some of => rw [z] at ht'; exact ⟨of, X1 _ _ z, Option.some.inj ht'⟩
   have k3' : alongIn c.K name ((cdC.mro.dropWhile (· != .ref D)).drop 1) = some (some (.ref f)) := by
    have := k3; unfold ks_superIn at this; rw [k1] at this; exact this
   refine ks_wpAny_getMethod_super e (looks_opaque X1 S.opq) (l₀ := cdC.mro) ?_ rfl X1 k3' hof hofc (ks_ne XK I k1) hat ?_
   ·exact fun A Q E s k q => wpAny_bind ((looks_clsIn X1 k1) A _ E s k (wpAny_pure q))
   let q := h'.objs.size
   obtain ⟨R2, e2⟩ := R1.push (methodObj (.ref f) (.ref ad))
   have hq : (h'.push (methodObj (.ref f) (.ref ad))).get? q = some (methodObj (.ref f) (.ref ad)) := Heap.get?_push_at rfl rfl
   have hqT : ¬ Tr σ μ q := fun ht => R1.fresh (get_above (Nat.le_refl _)) (.inl ht)
   have ev := e1.trans e2
   have key : wpAny c.M A (spliced (backTo pos (starEach args env))) (fun vs s₁ => MethP c.K q f (.ref ad) s₁.heap ∧ wpAny c.M A (call (.ref q) ([] ++ vs)) (Post c RV X σ μ ⟨hh, gg, dd, tk, os⟩ Q) Bot s₁) Bot ⟨h'.push (methodObj (.ref f) (.ref ad)), gg, dd, tk + 1, os⟩ := by
    refine wp_seq (hb A d X 0 env F ρ σ μ ⟨h'.push (methodObj (.ref f) (.ref ad)), gg, dd, tk + 1, os⟩ _ pos hA R2 (E.mono ev) h) fun vs xs σ₁ μ₁ s₁ q₁ R₁ t₁ e₁ g₁ o₁ => ?_
    have hq1 : s₁.heap.get? q = some (methodObj (.ref f) (.ref ad)) := e₁.keep _ _ hqT hq
    refine ⟨⟨hq1, ok.K.keeps R₁.base⟩, ?_⟩
    refine wp_after (ev.trans e₁) g₁ o₁ (wpAny_call (ks_codeAny_call_bound hq1 ?_))
    exact q₁ A X μ₁ s₁ _ hA R₁ (.cons ((VR.mono (ev.trans e₁) (VR.inst go ff hi))) t₁)
   cases hargs : backTo pos (starEach args env) with
   | nil =>
    rw [hargs] at key
    exact callWith_of rfl (fun h' X' => keeps_M k5 h' X') (evalArgs_none' key)
   | cons z zs =>
    obtain ⟨st, x⟩ := z
    have hp := hp env
    rw [hargs] at hp key
    simp only [List.any_cons, Bool.or_eq_false_iff] at hp
    obtain ⟨hst, hz⟩ := hp
    subst hst
    exact callWith_of (by simp [hz]) (fun h' X' => keeps_M k5 h' X') (evalArgs_plain key)
  ·exact h.elim
 ·exact h.elim
theorem simBAt_Expr {e : Expr} {rest : List Stmt} {a : ME V} {b : MS} {pos : Pos} (ha : SimEAt c Γ w e a) (hb : SimB c Γ 0 rest b) (hs : ∀ env, swapsWith e none pos.line env = pure false) : SimBAt c Γ w (.Expr e pos :: rest) (seqM (exprM a) b) := by
 intro A d X env F ρ σ μ s Q hA R E h
 refine ks_wpAt_execs_cons (ks_wpAt_Expr_any (_root_.PySem.ks_wpAt_mono (ha A d X env F ρ σ μ s _ hA R E h) (fun u s₁ ⟨x, σ₁, μ₁, q, R₁, t₁, e₁, g₁, o₁⟩ => ?_) fun _ _ e => e) (by unfold interactive; rw [E.kind]; rfl) (hs env))
 exact _root_.PySem.wpAt_of_wpAny (wpS_after (e₁.toF E.fx) g₁ o₁ (hb A d X env F ρ σ₁ μ₁ s₁ _ hA R₁ (E.mono e₁) q))
end
end
section
theorem zip_no_len : typeLookup (.type "zip") "__len__" = pure none := by rw [typeLookup_type, builtinLookup_eq_fast]; kernel_rfl
theorem zip_no_hint : typeLookup (.type "zip") "__length_hint__" = pure none := by rw [typeLookup_type, builtinLookup_eq_fast]; kernel_rfl
noncomputable def zO (f0 f1 : Value) (TI TO : Addr) : Obj := { cls := .type "zip", dict := none, data := .fields #[f0, f1, .bool false, .ref TI, .ref TO], slots := #[] }
section
variable {prog : Program} {w : World} {A : Around} {E : Value → Shared → Prop} {s : Shared}
theorem wpAny_loadIfAlive {M : Model} {a : Addr} {Q : Option Obj → Shared → Prop} (h : Q (s.heap.get? a) s) : wpAny M A (loadIfAlive a) Q E s := fun Γ p _ => by
 show Sem.wp M Γ (Sem.loadIfAlive a Sem.pure) _ _ _ _
 rw [Sem.wp_loadIfAlive]
 exact h
theorem zip_next_later {b : Bool} {z T TI TO i1 i2 l1 l2 : Addr} {k : Nat} {xs ys : Array Value} {x y : Value} {oT : Obj} {Q : Value → Shared → Prop} (D : ZipApart z TI TO i1 i2 l1 l2) (hzT : T ≠ z)
  (hz : s.heap.get? z = some (zO (rawInt T) (.bool b) TI TO)) (hT : s.heap.get? T = some oT) (hTI : IsPair s.heap TI (.ref i1) (.ref i2))
  (h1 : s.heap.IsListIter i1 l1 k) (h2 : s.heap.IsListIter i2 l2 k) (hl1 : s.heap.IsList l1 xs) (hl2 : s.heap.IsList l2 ys) (hx : xs[k]? = some x) (hy : ys[k]? = some y)
  (hQ : ∀ h', h'.get? z = some (zO (rawInt T) (.bool true) TI TO) → h'.IsListIter i1 l1 (k + 1) → h'.IsListIter i2 l2 (k + 1) → IsPair h' s.heap.objs.size x y →
   (∀ c o, c ≠ z → c ≠ i1 → c ≠ i2 → s.heap.get? c = some o → h'.get? c = some o) → Q (.ref s.heap.objs.size) { s with heap := h' }) :
  wpAny (model prog w) A (Builtin.«zip.__next__» ⟨[.ref z], []⟩) (fun fin s' => ∃ v, fin = .done (.ret v) ∧ Q v s') E s := by
 show wpAny _ _ (field (.ref z) 2 >>= _) _ _ _
 refine wpAny_bind (wpAny_field hz rfl (x := .bool false) rfl ?_)
 show wpAny _ _ (field (.ref z) 3 >>= _) _ _ _
 refine wpAny_bind (wpAny_field hz rfl (x := .ref TI) rfl ?_)
 refine wpAny_bind (wpAny_seqItems hTI rfl ?_)
 show wpAny _ _ (Builtin.SmallTypes.ownedTupleIsFree (.ref z) >>= _) _ _ _
 have jump : ∀ {P : Bool → Shared → Prop}, (∀ h₁ : Heap, h₁.get? z = some (zO (rawInt T) (.bool true) TI TO) → Heap.SameBut z s.heap h₁ → P false { s with heap := h₁ }) → wpAny (model prog w) A (Builtin.SmallTypes.ownedTupleIsFree (.ref z)) P E s := fun {P} hp => by
  unfold Builtin.SmallTypes.ownedTupleIsFree
  refine wpAny_bind (wpAny_field hz rfl (x := rawInt T) rfl ?_)
  refine wpAny_bind (wpAny_loadIfAlive ?_)
  simp only [rawInt, Int.toNat_natCast, hT, Option.isNone_some, Bool.false_eq_true, if_false]
  refine wpAny_bind (wpAny_field hz rfl (x := .bool b) rfl ?_)
  cases b with
  | true => exact wpAny_pure (hp s.heap hz ⟨rfl, fun _ _ => rfl⟩)
  | false =>
   refine wpAny_bind (wpAny_setField_rec hz (by simp) fun h₁ hz₁ hs₁ => ?_)
   exact wpAny_pure (hp h₁ hz₁ hs₁)
 refine wpAny_bind (jump fun h₁ hz₁ hs₁ => ?_)
 simp only [Bool.false_eq_true, if_false]
 refine wpAny_bind ?_
 simp only [List.forIn_toArray, List.forIn_cons, List.forIn_nil]
 refine wpAny_bind (wpAny_bind (wpAny_holding ?_))
 show wpAny _ _ (Builtin.SmallTypes.nextOf (.ref i1) >>= _) _ _ _
 refine wpAny_bind (wpAny_nextOf_list_item (h1.extBut hs₁.extBut D.i1z) (hl1.extBut hs₁.extBut D.l1z) hx fun h₂ h1₂ hs₂ => wpAny_pure (wpAny_pure ?_))
 dsimp only
 refine wpAny_bind (wpAny_bind (wpAny_holding ?_))
 show wpAny _ _ (Builtin.SmallTypes.nextOf (.ref i2) >>= _) _ _ _
 refine wpAny_bind (wpAny_nextOf_list_item ((h2.extBut hs₁.extBut D.i2z).extBut hs₂.extBut D.i12.symm) ((hl2.extBut hs₁.extBut D.l2z).extBut hs₂.extBut D.l2i1) hy fun h₃ h2₃ hs₃ => wpAny_pure (wpAny_pure (wpAny_pure ?_)))
 dsimp only
 refine wpAny_bind (wpAny_newTuple (hsz := le_sizeLine (by simp)) ?_)
 have hsz : h₃.objs.size = s.heap.objs.size := by rw [hs₃.1, hs₂.1, hs₁.1]
 refine wpAny_pure ⟨_, rfl, ?_⟩
 rw [hsz]
 have up : ∀ c o, h₃.get? c = some o → (h₃.push { cls := .type "tuple", data := .seq #[x, y] }).get? c = some o := fun c o e => Heap.get?_push_of_some _ e
 refine hQ _ (up _ _ (hs₃.extBut _ _ D.i2z.symm (hs₂.extBut _ _ D.i1z.symm hz₁))) ((h1₂.extBut hs₃.extBut D.i12).at fun o e => up _ o e) (h2₃.at fun o e => up _ o e) (by
  have := Heap.get?_push_size h₃ (o := { cls := .type "tuple", data := .seq #[x, y] }) rfl
  rw [hsz] at this; exact this) fun c o c1 c2 c3 e => up _ _ (hs₃.extBut _ _ c3 (hs₂.extBut _ _ c2 (hs₁.extBut _ _ c1 e)))
theorem zip_next_later_end {b : Bool} {z T TI TO i1 i2 l1 l2 : Addr} {k : Nat} {xs : Array Value} {oT : Obj} {Q : Fin → Shared → Prop} (hh : A.handled = none) (D : ZipApart z TI TO i1 i2 l1 l2)
  (hz : s.heap.get? z = some (zO (rawInt T) (.bool b) TI TO)) (hT : s.heap.get? T = some oT) (hTI : IsPair s.heap TI (.ref i1) (.ref i2))
  (h1 : s.heap.IsListIter i1 l1 k) (hl1 : s.heap.IsList l1 xs) (hx : xs[k]? = none)
  (hE : ∀ h' e, (∀ c o, c ≠ z → c ≠ i1 → s.heap.get? c = some o → h'.get? c = some o) → (∃ o, h'.get? e = some o ∧ o.cls = .type "StopIteration") → E (.ref e) { s with heap := h' }) :
  wpAny (model prog w) A (Builtin.«zip.__next__» ⟨[.ref z], []⟩) Q E s := by
 show wpAny _ _ (field (.ref z) 2 >>= _) _ _ _
 refine wpAny_bind (wpAny_field hz rfl (x := .bool false) rfl ?_)
 show wpAny _ _ (field (.ref z) 3 >>= _) _ _ _
 refine wpAny_bind (wpAny_field hz rfl (x := .ref TI) rfl ?_)
 refine wpAny_bind (wpAny_seqItems hTI rfl ?_)
 show wpAny _ _ (Builtin.SmallTypes.ownedTupleIsFree (.ref z) >>= _) _ _ _
 have jump : ∀ {P : Bool → Shared → Prop}, (∀ h₁ : Heap, h₁.get? z = some (zO (rawInt T) (.bool true) TI TO) → Heap.SameBut z s.heap h₁ → P false { s with heap := h₁ }) → wpAny (model prog w) A (Builtin.SmallTypes.ownedTupleIsFree (.ref z)) P E s := fun {P} hp => by
  unfold Builtin.SmallTypes.ownedTupleIsFree
  refine wpAny_bind (wpAny_field hz rfl (x := rawInt T) rfl ?_)
  refine wpAny_bind (wpAny_loadIfAlive ?_)
  simp only [Int.toNat_natCast, hT, Option.isNone_some, Bool.false_eq_true, if_false]
  refine wpAny_bind (wpAny_field hz rfl (x := .bool b) rfl ?_)
  cases b with
  | true => exact wpAny_pure (hp s.heap hz ⟨rfl, fun _ _ => rfl⟩)
  | false =>
   refine wpAny_bind (wpAny_setField_rec hz (by simp) fun h₁ hz₁ hs₁ => ?_)
   exact wpAny_pure (hp h₁ hz₁ hs₁)
 refine wpAny_bind (jump fun h₁ hz₁ hs₁ => ?_)
 simp only [Bool.false_eq_true, if_false]
 refine wpAny_bind ?_
 simp only [List.forIn_toArray, List.forIn_cons, List.forIn_nil]
 refine wpAny_bind (wpAny_bind (wpAny_holding ?_))
 show wpAny _ _ (Builtin.SmallTypes.nextOf (.ref i1) >>= _) _ _ _
 refine wpAny_bind (wpAny_nextOf_list_end hh (h1.extBut hs₁.extBut D.i1z) (hl1.extBut hs₁.extBut D.l1z) hx fun h₂ e hs₂ he => ?_)
 exact hE h₂ e (fun c o c1 c2 e => hs₂ _ _ c2 (hs₁.extBut _ _ c1 e)) he
theorem wpAny_pyNext_zip_later {b : Bool} {z T TI TO i1 i2 l1 l2 : Addr} {k : Nat} {xs ys : Array Value} {x y : Value} {oT : Obj} {Q : Option Value → Shared → Prop} (D : ZipApart z TI TO i1 i2 l1 l2) (hzT : T ≠ z)
  (hz : s.heap.get? z = some (zO (rawInt T) (.bool b) TI TO)) (hT : s.heap.get? T = some oT) (hTI : IsPair s.heap TI (.ref i1) (.ref i2))
  (h1 : s.heap.IsListIter i1 l1 k) (h2 : s.heap.IsListIter i2 l2 k) (hl1 : s.heap.IsList l1 xs) (hl2 : s.heap.IsList l2 ys) (hx : xs[k]? = some x) (hy : ys[k]? = some y)
  (hQ : ∀ h', h'.get? z = some (zO (rawInt T) (.bool true) TI TO) → h'.IsListIter i1 l1 (k + 1) → h'.IsListIter i2 l2 (k + 1) → IsPair h' s.heap.objs.size x y →
   (∀ c o, c ≠ z → c ≠ i1 → c ≠ i2 → s.heap.get? c = some o → h'.get? c = some o) → Q (some (.ref s.heap.objs.size)) { s with heap := h' }) :
  wpAny (model prog w) A (pyNext (.ref z)) Q E s := by
 have hT' : s.TypeIs (.ref z) "zip" := ⟨_, hz, rfl⟩
 unfold pyNext
 exact wpAny_bind (wpAny_attempt (wpAny_callSpecial?_slot (name := Str.ofString "__next__") hT' F.slot_zip_next
  (wpAny_call_entry F.slot_zip_next hT' F.entry_zip_next
   (zip_next_later D hzT hz hT hTI h1 h2 hl1 hl2 hx hy fun h' a1 a2 a3 a4 a5 => wpAny_pure (hQ h' a1 a2 a3 a4 a5)) (F.args_zip_next_1 _))))
theorem wpAny_pyNext_zip_later_end {b : Bool} {z T TI TO i1 i2 l1 l2 : Addr} {k : Nat} {xs : Array Value} {oT : Obj} {Q : Option Value → Shared → Prop} (hh : A.handled = none) (D : ZipApart z TI TO i1 i2 l1 l2)
  (hz : s.heap.get? z = some (zO (rawInt T) (.bool b) TI TO)) (hT : s.heap.get? T = some oT) (hTI : IsPair s.heap TI (.ref i1) (.ref i2))
  (h1 : s.heap.IsListIter i1 l1 k) (hl1 : s.heap.IsList l1 xs) (hx : xs[k]? = none)
  (hQ : ∀ h', (∀ c o, c ≠ z → c ≠ i1 → s.heap.get? c = some o → h'.get? c = some o) → Q none { s with heap := h' }) : wpAny (model prog w) A (pyNext (.ref z)) Q E s := by
 have hT' : s.TypeIs (.ref z) "zip" := ⟨_, hz, rfl⟩
 unfold pyNext
 refine wpAny_bind (wpAny_attempt (wpAny_callSpecial?_slot (name := Str.ofString "__next__") hT' F.slot_zip_next
  (wpAny_call_entry F.slot_zip_next hT' F.entry_zip_next (zip_next_later_end hh D hz hT hTI h1 hl1 hx fun h' e hk he => ?_) (F.args_zip_next_1 _))))
 obtain ⟨o, ho, hc⟩ := he
 refine wpAny_bind (wpAny_isInstance (T := "StopIteration") (b := true) ⟨o, ho, hc⟩ isSubtype_stop ?_)
 exact wpAny_pure (hQ _ hk)
end
end
section
noncomputable abbrev lO (xs : Array Value) (n : Nat) : Obj := { cls := .type "list", dict := none, data := .seq xs n, slots := #[] }
structure ZB (N z TI TO i1 i2 l1 l2 : Addr) : Prop where
 z : z < N
 TI : TI < N
 TO : TO < N
 i1 : i1 < N
 i2 : i2 < N
 l1 : l1 < N
 l2 : l2 < N
structure ZL (h0 h : Heap) (S z TI TO i1 i2 l1 l2 T0 : Addr) (xs ys : Array Value) (i : Nat) (acc : Array Value) : Prop where
 zz : ∃ b, h.get? z = some (zO (rawInt T0) (.bool b) TI TO)
 t0 : S < T0 ∧ ∃ o, h.get? T0 = some o
 ti : IsPair h TI (.ref i1) (.ref i2)
 it1 : h.IsListIter i1 l1 i
 it2 : h.IsListIter i2 l2 i
 ls1 : h.IsList l1 xs
 ls2 : h.IsList l2 ys
 n : acc.size = i
 items : ∀ (j : Nat) (v : Value), acc[j]? = some v → ∃ (t : Addr) (x y : Value), v = Value.ref t ∧ S < t ∧ xs[j]? = some x ∧ ys[j]? = some y ∧ IsPair h t x y
 keep : ∀ b o, b ≠ z → b ≠ TO → b ≠ i1 → b ≠ i2 → b ≠ S → h0.get? b = some o → h.get? b = some o
 big : S < h.objs.size
structure ZE (h0 h : Heap) (S z TO i1 i2 : Addr) (xs ys : Array Value) (acc : Array Value) : Prop where
 n : acc.size = xs.size
 items : ∀ (j : Nat) (v : Value), acc[j]? = some v → ∃ (t : Addr) (x y : Value), v = Value.ref t ∧ S < t ∧ xs[j]? = some x ∧ ys[j]? = some y ∧ IsPair h t x y
 keep : ∀ b o, b ≠ z → b ≠ TO → b ≠ i1 → b ≠ i2 → b ≠ S → h0.get? b = some o → h.get? b = some o
section
variable {h0 h h' : Heap} {S z TI TO i1 i2 l1 l2 T0 : Addr} {xs ys acc : Array Value} {i : Nat}
theorem ZL.list (B : ZB S z TI TO i1 i2 l1 l2) (Z : ZL h0 h S z TI TO i1 i2 l1 l2 T0 xs ys i acc) (hs : Heap.SameBut S h h') : ZL h0 h' S z TI TO i1 i2 l1 l2 T0 xs ys i acc where
 zz := let ⟨b, e⟩ := Z.zz; ⟨b, hs.extBut _ _ (Nat.ne_of_lt B.z) e⟩
 t0 := let ⟨a, o, e⟩ := Z.t0; ⟨a, o, hs.extBut _ _ (Nat.ne_of_gt a) e⟩
 ti := hs.extBut _ _ (Nat.ne_of_lt B.TI) Z.ti
 it1 := Z.it1.extBut hs.extBut (Nat.ne_of_lt B.i1)
 it2 := Z.it2.extBut hs.extBut (Nat.ne_of_lt B.i2)
 ls1 := Z.ls1.extBut hs.extBut (Nat.ne_of_lt B.l1)
 ls2 := Z.ls2.extBut hs.extBut (Nat.ne_of_lt B.l2)
 n := Z.n
 items := fun j v e => let ⟨t, x, y, a, b, c, d, p⟩ := Z.items j v e; ⟨t, x, y, a, b, c, d, hs.extBut _ _ (Nat.ne_of_gt b) p⟩
 keep := fun b o h1 h2 h3 h4 h5 e => hs.extBut _ _ h5 (Z.keep b o h1 h2 h3 h4 h5 e)
 big := by rw [hs.1]; exact Z.big
theorem ZL.step {x y : Value} (B : ZB S z TI TO i1 i2 l1 l2) (D : ZipApart z TI TO i1 i2 l1 l2) (Z : ZL h0 h S z TI TO i1 i2 l1 l2 T0 xs ys i acc) (hx : xs[i]? = some x) (hy : ys[i]? = some y)
  (a1 : h'.get? z = some (zO (rawInt T0) (.bool true) TI TO)) (a2 : h'.IsListIter i1 l1 (i + 1)) (a3 : h'.IsListIter i2 l2 (i + 1)) (a4 : IsPair h' h.objs.size x y)
  (a5 : ∀ c o, c ≠ z → c ≠ i1 → c ≠ i2 → h.get? c = some o → h'.get? c = some o) : ZL h0 h' S z TI TO i1 i2 l1 l2 T0 xs ys (i + 1) (acc.push (.ref h.objs.size)) := by
 have gt : ∀ {t}, S < t → t ≠ z ∧ t ≠ i1 ∧ t ≠ i2 := fun h => ⟨Nat.ne_of_gt (Nat.lt_trans B.z h), Nat.ne_of_gt (Nat.lt_trans B.i1 h), Nat.ne_of_gt (Nat.lt_trans B.i2 h)⟩
 refine ⟨⟨_, a1⟩, ?_, a5 _ _ D.TIz D.TIi1 D.TIi2 Z.ti, a2, a3, Z.ls1.at fun o e => a5 _ o D.l1z D.l1i1 D.l1i2 e, Z.ls2.at fun o e => a5 _ o D.l2z D.l2i1 D.l2i2 e, by rw [Array.size_push, Z.n], fun j v e => ?_, fun b o h1 h2 h3 h4 h5 e => a5 b o h1 h3 h4 (Z.keep b o h1 h2 h3 h4 h5 e), Nat.lt_trans Z.big (Heap.lt_size a4)⟩
 ·obtain ⟨k, o, e⟩ := Z.t0
  obtain ⟨g1, g2, g3⟩ := gt k
  exact ⟨k, o, a5 _ _ g1 g2 g3 e⟩
 ·rcases Nat.lt_trichotomy j i with hj | hj | hj
  ·rw [Array.getElem?_push, if_neg (by rw [Z.n]; lia)] at e
   obtain ⟨t, x', y', a, b, c, d, p⟩ := Z.items j v e
   obtain ⟨g1, g2, g3⟩ := gt b
   exact ⟨t, x', y', a, b, c, d, a5 _ _ g1 g2 g3 p⟩
  ·subst hj
   rw [Array.getElem?_push, if_pos Z.n.symm] at e
   cases e
   exact ⟨_, x, y, rfl, Z.big, hx, hy, a4⟩
  ·rw [Array.getElem?_push, if_neg (by rw [Z.n]; lia)] at e
   obtain ⟨hh, _⟩ := Array.getElem?_eq_some_iff.mp e
   rw [Z.n] at hh
   lia
end
section
variable {prog : Program} {w : World} {A : Around} {R : Result → Shared → Prop}
theorem codeAny_zip_loop {h0 : Heap} {S z TI TO i1 i2 l1 l2 T0 : Addr} {xs ys : Array Value} (hh : A.handled = none) (B : ZB S z TI TO i1 i2 l1 l2) (D : ZipApart z TI TO i1 i2 l1 l2) (hxy : xs.size = ys.size) (hn : xs.size ≤ 1000000) (res : Value) :
  ∀ (k i : Nat) (s : Shared) (acc : Array Value) (c : Nat), xs.size - i = k → i ≤ xs.size → ZL h0 s.heap S z TI TO i1 i2 l1 l2 T0 xs ys i acc → s.heap.get? S = some (lO acc c) →
  (∀ h' acc' c', ZE h0 h' S z TO i1 i2 xs ys acc' → h'.get? S = some (lO acc' c') → R (.ok (.ret res)) { s with heap := h' }) →
  codeAny (model prog w) A (.builtin "list.extend.loop" ⟨[.ref S, .ref z, res], []⟩) R s := by
 intro k
 induction k with
 | zero =>
  intro i s acc c hk hi Z hS hR
  have hin : i = xs.size := by lia
  subst hin
  obtain ⟨b, hz⟩ := Z.zz
  obtain ⟨_, o, hT⟩ := Z.t0
  refine codeAny_builtin F.entry_extend_loop ?_
  rw [Around.under_plainId F.plain_extend_loop _]
  show wpAny _ A.in1 (pyNext (.ref z) >>= _) _ _ s
  refine wpAny_bind (wpAny_pyNext_zip_later_end hh D hz hT Z.ti Z.it1 Z.ls1 (Array.getElem?_eq_none (Nat.le_refl _)) fun h' hk' => ?_)
  refine wpAny_pure (hR h' acc c ⟨Z.n, fun j v e => ?_, fun b o h1 h2 h3 h4 h5 e => hk' b o h1 h3 (Z.keep b o h1 h2 h3 h4 h5 e)⟩ (hk' S _ (Nat.ne_of_gt B.z) (Nat.ne_of_gt B.i1) hS))
  obtain ⟨t, x', y', a, b, c, d, p⟩ := Z.items j v e
  exact ⟨t, x', y', a, b, c, d, hk' _ _ (Nat.ne_of_gt (Nat.lt_trans B.z b)) (Nat.ne_of_gt (Nat.lt_trans B.i1 b)) p⟩
 | succ k ih =>
  intro i s acc c hk hi Z hS hR
  have hlt : i < xs.size := by lia
  obtain ⟨b, hz⟩ := Z.zz
  obtain ⟨hT0, o, hT⟩ := Z.t0
  refine codeAny_builtin F.entry_extend_loop ?_
  rw [Around.under_plainId F.plain_extend_loop _]
  show wpAny _ A.in1 (pyNext (.ref z) >>= _) _ _ s
  refine wpAny_bind (wpAny_pyNext_zip_later D (Nat.ne_of_gt (Nat.lt_trans B.z hT0)) hz hT Z.ti Z.it1 Z.it2 Z.ls1 Z.ls2 (Array.getElem?_eq_getElem hlt) (Array.getElem?_eq_getElem (hxy ▸ hlt)) fun h' a1 a2 a3 a4 a5 => ?_)
  have Z' := Z.step B D (Array.getElem?_eq_getElem hlt) (Array.getElem?_eq_getElem (hxy ▸ hlt)) a1 a2 a3 a4 a5
  have hS' := a5 S _ (Nat.ne_of_gt B.z) (Nat.ne_of_gt B.i1) (Nat.ne_of_gt B.i2) hS
  show wpAny _ A.in1 (updateSeq S (·.push (.ref s.heap.objs.size)) >>= _) _ _ _
  refine wpAny_bind ?_
  refine wpAny_updateSeq hS' rfl (wpAny_pure ⟨plainId_quiet F.plain_extend_loop _, ih (i + 1) _ (acc.push (.ref s.heap.objs.size)) _ (by lia) hlt (Z'.list B (Heap.SameBut.update ..)) (Heap.get?_update_self _ hS' rfl) fun h'' acc' c' Z'' hS'' => ?_⟩)
   (le_sizeLine (by rw [Z.n]; lia)) (by show (acc.push _).size ≤ sizeLine + 1; have := le_sizeLine (show (acc.push (.ref s.heap.objs.size)).size ≤ 1000000 by rw [Array.size_push, Z.n]; lia); lia)
  exact hR h'' acc' c' Z'' hS''
end
section
variable {prog : Program} {w : World} {A : Around} {E : Value → Shared → Prop} {s : Shared}
theorem call_list_zip {z TI TO i1 i2 l1 l2 : Addr} {xs ys : Array Value} {Q : Value → Shared → Prop} (hh : A.handled = none) (B : ZB s.heap.objs.size z TI TO i1 i2 l1 l2) (D : ZipApart z TI TO i1 i2 l1 l2) (hxy : xs.size = ys.size) (hn : xs.size ≤ 1000000) (h0 : 0 < xs.size)
  (hz : IsZip s.heap z TI TO .none) (hTI : IsPair s.heap TI (.ref i1) (.ref i2)) (hTO : IsPair s.heap TO .none .none) (h1 : s.heap.IsListIter i1 l1 0) (h2 : s.heap.IsListIter i2 l2 0) (hl1 : s.heap.IsList l1 xs) (hl2 : s.heap.IsList l2 ys)
  (hQ : ∀ h' acc' c', ZE s.heap h' s.heap.objs.size z TO i1 i2 xs ys acc' → h'.get? s.heap.objs.size = some (lO acc' c') → Q (.ref s.heap.objs.size) { s with heap := h' }) :
  wpAny (model prog w) A (call (.type "list") [.ref z]) Q E s := by
 let S := s.heap.objs.size
 refine callType_codes (Q₁ := fun obj s₁ => obj = .ref s.heap.objs.size ∧ s₁ = { s with heap := s.heap.push { cls := .type "list", data := .seq #[] } }) F.called_list (F.typeCall_list_1 _) F.entry_list_init
  (code_list_new _ ⟨rfl, rfl⟩) fun obj s₁ h₁ => ?_
 obtain ⟨rfl, rfl⟩ := h₁
 have hS : (s.heap.push { cls := .type "list", data := .seq #[] }).get? s.heap.objs.size = some { cls := .type "list", data := .seq #[] } := Heap.get?_push_size _ rfl
 refine ⟨⟨_, hS, rfl⟩, F.args_list_init_2 _ _, ?_⟩
 show wpAny _ A.in1.in1 (do let old ← Builtin.List.listItems (.ref S); Builtin.List.listUpdate (.ref S) (fun _ => #[]); letGo old.toList.reverse; Builtin.List.listExtendWith (.ref S) (.ref z) .none) _ _ _
 refine wpAny_bind ?_
 unfold Builtin.List.listItems
 refine wpAny_bind (wpAny_seqItems hS rfl (wpAny_pure ?_))
 show wpAny _ A.in1.in1 (updateSeq S (fun _ => #[]) >>= fun _ => letGo (#[] : Array Value).toList.reverse >>= fun _ => Builtin.List.listExtendWith (.ref S) (.ref z) .none) _ _ _
 refine wpAny_bind (wpAny_updateSeq hS rfl ?_)
 have hS₂ := Heap.get?_update_self (Obj.mapSeq (fun _ => (#[] : Array Value))) hS rfl
 have up₂ : ∀ b o, s.heap.get? b = some o → ((s.heap.push { cls := .type "list", data := .seq #[] }).update S (Obj.mapSeq (fun _ => (#[] : Array Value)))).get? b = some o := fun b o e => by
  rw [Heap.get?_update_other _ _ (Nat.ne_of_gt (Heap.lt_size e))]; exact Heap.get?_push_of_some _ e
 have sz₂ : ((s.heap.push { cls := .type "list", data := .seq #[] }).update S (Obj.mapSeq (fun _ => (#[] : Array Value)))).objs.size = S + 1 := by
  rw [(Heap.SameBut.update ..).1, Heap.size_push]
 generalize ((s.heap.push { cls := .type "list", data := .seq #[] }).update S (Obj.mapSeq (fun _ => (#[] : Array Value)))) = hp₂ at *
 refine wpAny_bind (wpAny_letGo ?_)
 have hTz : ∀ {s' : Shared}, s'.heap = hp₂ → s'.TypeIs (.ref z) "zip" := fun e => ⟨_, by rw [e]; exact up₂ _ _ hz, rfl⟩
 unfold Builtin.List.listExtendWith
 refine wpAny_bind (wpAny_typeOf (hTz rfl) ?_)
 have e1 : Builtin.List.listSameRef (.ref S) (.ref z) = false := by simp [Builtin.List.listSameRef, Nat.ne_of_gt B.z, S]
 have e2 : (Value.type "zip" == Value.type "list") = false := by decide
 have e3 : (Value.type "zip" == Value.type "tuple") = false := by decide
 simp only [e1, e2, e3, Bool.or_false, Bool.false_eq_true, if_false]
 refine wpAny_bind (wpAny_pyIter_zip (up₂ _ _ hz) ?_)
 refine wpAny_bind (wpAny_holding ?_)
 unfold Builtin.List.listLengthHint
 refine wpAny_bind (wpAny_specialOf (hTz rfl) zip_no_len ?_)
 show wpAny _ A.in1.in1 (specialOf (Value.ref z) (Str.ofString "__length_hint__") >>= _) _ _ _
 refine wpAny_bind (wpAny_specialOf (hTz rfl) zip_no_hint ?_)
 refine wpAny_pure ?_
 show wpAny _ A.in1.in1 (rule "list.extend.makes-room" >>= fun _ => Builtin.List.listTouch (.ref S) >>= fun _ =>
  again (.builtin "list.extend.loop" ⟨[.ref S, .ref z, .none], []⟩)) _ _ _
 refine wpAny_bind (wpAny_rule ?_)
 refine wpAny_bind ?_
 show wpAny _ A.in1.in1 (updateSeq S (·.push .none) >>= fun _ => updateSeq S (·.pop)) _ _ _
 refine wpAny_bind (wpAny_updateSeq hS₂ rfl ?_)
 have hS₃ := Heap.get?_update_self (Obj.mapSeq (·.push Value.none)) hS₂ rfl
 refine wpAny_updateSeq (hz := by seq_fits) hS₃ rfl ?_
 have hS₄ := Heap.get?_update_self (Obj.mapSeq (·.pop)) hS₃ rfl
 have up₄ : ∀ b o, s.heap.get? b = some o → ((hp₂.update S (Obj.mapSeq (·.push Value.none))).update S (Obj.mapSeq (·.pop))).get? b = some o := fun b o e => by
  rw [Heap.get?_update_other _ _ (Nat.ne_of_gt (Heap.lt_size e)), Heap.get?_update_other _ _ (Nat.ne_of_gt (Heap.lt_size e))]; exact up₂ b o e
 have sz₄ : ((hp₂.update S (Obj.mapSeq (·.push Value.none))).update S (Obj.mapSeq (·.pop))).objs.size = S + 1 := by
  rw [(Heap.SameBut.update ..).1, (Heap.SameBut.update ..).1, sz₂]
 generalize ((hp₂.update S (Obj.mapSeq (·.push Value.none))).update S (Obj.mapSeq (·.pop))) = hp₄ at *
 refine wpAny_pure ⟨plainId_quiet F.plain_extend_loop _, codeAny_builtin F.entry_extend_loop ?_⟩
 rw [Around.under_plainId F.plain_extend_loop _]
 show wpAny _ A.in1.in1 (pyNext (.ref z) >>= _) _ _ _
 refine wpAny_bind (wpAny_pyNext_zip_item D (up₄ _ _ hz) (up₄ _ _ hTI) (up₄ _ _ hTO) (h1.at fun o e => up₄ _ o e) (h2.at fun o e => up₄ _ o e) (hl1.at fun o e => up₄ _ o e) (hl2.at fun o e => up₄ _ o e) (Array.getElem?_eq_getElem h0) (Array.getElem?_eq_getElem (hxy ▸ h0)) fun h' b1 b2 b3 b4 b5 b6 hk => ?_)
 have hS₅ := hk S _ (Nat.ne_of_gt B.z) (Nat.ne_of_gt B.TO) (Nat.ne_of_gt B.i1) (Nat.ne_of_gt B.i2) hS₄
 have big' : S < h'.objs.size := by
  have h6 : h'.objs.size = hp₄.objs.size + 1 := b6
  rw [h6, sz₄]; exact Nat.lt_succ_of_lt (Nat.lt_succ_self _)
 have Z1 : ZL s.heap h' S z TI TO i1 i2 l1 l2 hp₄.objs.size xs ys 1 #[.ref hp₄.objs.size] := by
  refine ⟨⟨_, b1⟩, ⟨by rw [sz₄]; exact Nat.lt_succ_self _, _, b5⟩, hk _ _ D.TIz D.TITO D.TIi1 D.TIi2 (up₄ _ _ hTI), b3, b4, (hl1.at fun o e => up₄ _ o e).at fun o e => hk _ o D.l1z D.l1TO D.l1i1 D.l1i2 e,
   (hl2.at fun o e => up₄ _ o e).at fun o e => hk _ o D.l2z D.l2TO D.l2i1 D.l2i2 e, rfl, fun j v e => ?_, fun b o c1 c2 c3 c4 _ e => hk b o c1 c2 c3 c4 (up₄ b o e), big'⟩
  cases j with
  | zero => cases e; exact ⟨_, _, _, rfl, by rw [sz₄]; exact Nat.lt_succ_self _, Array.getElem?_eq_getElem h0, Array.getElem?_eq_getElem (hxy ▸ h0), b5⟩
  | succ j => simp at e
 show wpAny _ A.in1.in1 (updateSeq S (·.push (.ref hp₄.objs.size)) >>= _) _ _ _
 refine wpAny_bind ?_
 refine wpAny_updateSeq (hz := by seq_fits) hS₅ rfl (wpAny_pure ⟨plainId_quiet F.plain_extend_loop _, codeAny_zip_loop (A := A.in1) (h0 := s.heap) hh B D hxy hn _ (xs.size - 1) 1 _ _ _ rfl h0 (Z1.list B (Heap.SameBut.update ..)) (Heap.get?_update_self _ hS₅ rfl) fun h'' acc' c' Z'' hS'' => ?_⟩)
 exact ⟨rfl, hQ h'' acc' c' Z'' hS''⟩
end
theorem VRs.ofItems {h : Heap} {S : Nat → Prop} {μ : Nat → Nat} {n : Nat} : ∀ {vs : List Value} {xs : List V}, vs.length = xs.length → (∀ (j : Nat) (v : Value) (x : V), vs[j]? = some v → xs[j]? = some x → VR h S μ n v x) → VRs h S μ n vs xs
 | [], [], _, _ => .nil
 | v :: vs, x :: xs, hl, k => .cons (k 0 v x rfl rfl) (VRs.ofItems (by simpa using hl) fun j v' x' h1 h2 => k (j + 1) v' x' (by simpa using h1) (by simpa using h2))
 | [], _ :: _, hl, _ => by cases hl
 | _ :: _, [], hl, _ => by cases hl
noncomputable def lzipM (b : ME (List V)) : ME V := fun d ρ σ Q => b d ρ σ fun xs σ => (fl2 xs).elim False fun p => p.1.1.length = p.1.2.length ∧ 0 < p.1.1.length ∧ p.1.1.length ≤ 1000000 ∧ Q (.fl (zipV p.1.1 p.1.2)) σ
theorem sim_ListZip {c : Ctx} {Γ : Gm} {args : List Expr} {p q pos pos' : Pos} {b : ME (List V)} (ok : c.Ok) (hf : c.mg "zip" = none ∧ c.mb "zip" = some (.type "zip")) (hg : c.mg "list" = none ∧ c.mb "list" = some (.type "list")) (hb : SimEs c Γ args b) (hx : Γ.lookup "zip" = some none)
  (hy : Γ.lookup "list" = some none) (hp : ∀ env, (backTo pos (starEach args env)).any (·.1) = false) : SimE c Γ (.Call (.Name "list" q) [.Call (.Name "zip" p) args [] pos] [] pos') (lzipM b) := by
 intro A d X bs env F ρ σ μ s Q hA R E h
 refine wpAny_Call_NameR (wpAny_Name (wp_loadGlobal ok R E hy (.inr hg) ?_) (by decide +kernel))
 have key : wpAny c.M A (spliced (backTo pos' (starEach [.Call (.Name "zip" p) args [] pos] env))) (fun vs s₁ => (∀ b o, c.h0.get? b = some o → s₁.heap.get? b = some o) ∧ wpAny c.M A (call (.type "list") ([] ++ vs)) (Post c RV X σ μ s Q) Bot s₁) Bot s := by
  show wpAny c.M A (do let v ← eval (.Call (.Name "zip" p) args [] pos) env; let here ← pure [v]; return here ++ (← holding here (spliced (backTo pos' (starEach [] env))))) _ _ _
  refine wpAny_bind (wpAny_Call_NameR (wpAny_Name (wp_loadGlobal ok R E hx (.inr hf) ?_) (by decide +kernel)))
  refine wp_callWithG (first := []) ok rfl hb (hp env) hA R E h fun vs xs σ₁ μ₁ s₁ q R₁ t₁ e₁ g₁ o₁ => ?_
  obtain ⟨⟨⟨l, r⟩, rfl⟩, q⟩ := elimP q
  ·obtain ⟨hlr, hl0, hl1, q⟩ := q
   dsimp only at hlr hl0 hl1 q
   obtain ⟨v, w, rfl, t, t'⟩ := t₁.two
   obtain ⟨a1, it1, _, rfl, ga, fa, ta⟩ := t.inv; obtain ⟨a2, it2, _, rfl, gb, fb, tb⟩ := t'.inv
   refine call_zip_2 (isList ga) (isList gb) fun h' hz hTI hTO hi1 hi2 hsz keep => ?_
   let N := s₁.heap.objs.size
   have hlt1 : a1 < N := Heap.lt_size ga
   have hlt2 : a2 < N := Heap.lt_size gb
   have ne : ∀ (a j : Nat), a < N → a ≠ N + j := fun a j h => by lia
   have ne0 : ∀ (a : Nat), a < N → a ≠ N := fun a h => Nat.ne_of_lt h
   have q1 : ∀ (m i j : Nat), i ≠ j → m + i ≠ m + j := fun m i j h => by lia
   have q0 : ∀ (m j : Nat), 0 ≠ j → m ≠ m + j := fun m j h => by lia
   have D : ZipApart (N + 4) (N + 2) (N + 3) N (N + 1) a1 a2 := ⟨q1 N 2 4 (by decide), q1 N 3 4 (by decide), q0 N 4 (by decide), q1 N 1 4 (by decide), q1 N 2 3 (by decide), (q0 N 2 (by decide)).symm, q1 N 2 1 (by decide), (q0 N 3 (by decide)).symm, q1 N 3 1 (by decide), q0 N 1 (by decide), ne _ _ hlt1, ne _ _ hlt1, ne0 _ hlt1, ne _ _ hlt1, ne _ _ hlt2, ne _ _ hlt2, ne0 _ hlt2, ne _ _ hlt2⟩
   have lt : ∀ j : Nat, j < 5 → N + j < h'.objs.size := fun j hj => by
    have e : h'.objs.size = N + 5 := hsz
    rw [e]; lia
   have B : ZB h'.objs.size (N + 4) (N + 2) (N + 3) N (N + 1) a1 a2 := ⟨lt 4 (by decide), lt 2 (by decide), lt 3 (by decide), lt 0 (by decide), lt 1 (by decide), Nat.lt_trans hlt1 (lt 0 (by decide)), Nat.lt_trans hlt2 (lt 0 (by decide))⟩
   have la := ta.length
   have lb := tb.length
   refine wpAny_bind (wpAny_pure (wpAny_bind (wpAny_holding (wpAny_items_nil (wpAny_pure ⟨fun b o e => keep b o (R₁.base b o e), ?_⟩)))))
   show wpAny c.M A (call (.type "list") [.ref (N + 4)]) _ _ _
   refine call_list_zip (s := { s₁ with heap := h' }) hA.handled B D (by simp only [List.size_toArray]; lia) (by simp only [List.size_toArray]; lia) (by simp only [List.size_toArray]; lia) hz hTI hTO hi1 hi2 (isList (keep _ _ ga)) (isList (keep _ _ gb)) fun h'' acc' c' Z hS => ?_
   have k2 : ∀ b o, s₁.heap.get? b = some o → h''.get? b = some o := fun b o e => by
    have hb : b < N := Heap.lt_size e
    exact Z.keep b o (ne _ _ hb) (ne _ _ hb) (ne0 _ hb) (ne _ _ hb) (Nat.ne_of_lt (Nat.lt_trans hb (lt 0 (by decide)))) (keep b o e)
   obtain ⟨R', e'⟩ := R₁.keeps k2
   refine ⟨_, σ₁, μ₁, q, R', ?_, e₁.trans e', g₁, o₁⟩
   have fr : ∀ b, N ≤ b → ¬ Sx X σ₁ μ₁ b := fun b hb => R₁.fresh (get_above hb)
   refine VR.fl (items := acc'.toList) (k := c') (by simpa [listO] using hS) (fr _ (Nat.le_of_lt (lt 0 (by decide)))) (VRs.ofItems ?_ fun j v x hv hx => ?_)
   ·rw [Array.length_toList, Z.n]; simp only [List.size_toArray, zipV, List.length_map, List.length_zip]; lia
   ·obtain ⟨t, x', y', rfl, ht, hx', hy', p⟩ := Z.items j v (by simpa using hv)
    simp only [zipV, List.getElem?_map, Option.map_eq_some_iff] at hx
    obtain ⟨⟨p1, p2⟩, hp, rfl⟩ := hx
    obtain ⟨hp1, hp2⟩ := List.getElem?_zip_eq_some.mp hp
    obtain ⟨v1, hv1, tv1⟩ := ta.get hp1
    obtain ⟨v2, hv2, tv2⟩ := tb.get hp2
    simp only [List.getElem?_toArray] at hx' hy'
    rw [hv1] at hx'; rw [hv2] at hy'
    cases hx'; cases hy'
    exact .tup (items := [_, _]) p (fr _ (Nat.le_of_lt (Nat.lt_trans (lt 0 (by decide)) ht))) (.cons (tv1.mono e') (.cons (tv2.mono e') .nil))
 exact callWith_of rfl (fun h' X' => keeps_ok (f := .type "list") ok rfl h' X') (evalArgs_plain key)
end
section
noncomputable def fnD : (d : Data) → Option {f : FuncData // d = .func f}
 | .func f => some ⟨f, rfl⟩
 | _ => none
noncomputable def fdAt (K : Frag) (a : Addr) : FuncData := ((K.lookup a).bind fun o => fnD o.data |>.map (·.1)).getD default
theorem elim_true {α : Type} {o : Option α} {f : α → Bool} (h : o.elim false f = true) : ∃ y, o = some y ∧ f y = true := by
 cases o with
 | none => cases h
 | some y => exact ⟨y, rfl, h⟩
theorem elim_tt {α : Type} {o : Option α} {f : α → Bool} (h : o.elim false f = true) : ∃ y, f y = true := (elim_true h).imp fun _ e => e.2
noncomputable def isFn (K : Frag) (a : Addr) : Bool := (K.lookup a).elim false fun o => (fnD o.data).isSome
theorem isFn_at {K : Frag} {a : Addr} (h : isFn K a = true) : ∃ o, K.lookup a = some o ∧ o.data = .func (fdAt K a) := by
 obtain ⟨o, e, k⟩ := elim_true h
 obtain ⟨f, hf⟩ := Option.isSome_iff_exists.mp k
 refine ⟨o, e, ?_⟩
 unfold fdAt
 rw [e]
 show o.data = .func ((Option.map _ (fnD o.data)).getD default)
 rw [hf]
 exact f.2
noncomputable def stmtsOf (f : FuncData) : List Stmt := match f.body with
 | .stmts b => b
 | _ => []
noncomputable def fnOk (K : Frag) (a : Addr) (params : List Str) (Γ : Gm) : Bool :=
 isFn K a && codeIn K (fdAt K a).code (fdAt K a).qualname && (fdAt K a).globals == mainGlobals && (fdAt K a).builtins == builtinsNs && scopeOk Γ (fdAt K a).scope.names params &&
 !(fdAt K a).scope.isCoroutine && !(fdAt K a).scope.isGenerator && (fdAt K a).scope.kind == .function
theorem FnAtD.of' {c : Ctx} {a : Addr} {body : List Stmt} {params : List Str} {dfl : List V} {cA : Option Addr} {Γ : Gm} (ok : c.Ok) (h : fnOk c.K a params Γ = true) (hb : (fdAt c.K a).body = .stmts body) (hc : (fdAt c.K a).closure = cA.toList.map fun b => (("__class__" : Str), b))
  (hcell : ∀ b, cA = some b → (c.K.lookup b).isSome = true ∧ (fdAt c.K a).scope.names.lookup ("__class__" : Str) = some .free) (hno : ∀ {b}, cA = some b → (("__class__" : Str), NameKind.cell) ∉ (fdAt c.K a).scope.names) (hf : ∀ f b, Γ.fn = some (f, b) → f = a ∧ cA = some b)
  (hbind : ∀ X σ μ s (vals : List Value), Rel c X σ μ s.heap → vals.length + dfl.length = params.length → ∃ dv, VRs s.heap (Sx X σ μ) μ σ.length dv dfl ∧ BindsTo s (fdAt c.K a) ⟨vals, []⟩ (params.zip (vals ++ dv))) : FnAtD c a (fdAt c.K a) body params dfl cA Γ := by
 simp only [fnOk, Bool.and_eq_true, Bool.not_eq_true', beq_iff_eq] at h
 obtain ⟨⟨⟨⟨⟨⟨⟨h0, h1⟩, h2⟩, h3⟩, h4⟩, h5⟩, h6⟩, h7⟩ := h
 refine ⟨?_, codeRec_of ok.K h1, hb, hbind, hc, fun b e => ⟨?_, (hcell b e).2⟩, hno, hf, h2, h3, h4, h5, h6, h7⟩
 ·exact (isFn_at h0).imp fun _ e => ⟨ok.K _ _ e.1, e.2⟩
 ·obtain ⟨o, ho⟩ := Option.isSome_iff_exists.mp (hcell b e).1
  exact ⟨o, ok.K _ _ ho⟩
theorem FnAtD.of {c : Ctx} {a : Addr} {body : List Stmt} {params : List Str} {dfl : List V} {cA : Option Addr} {Γ : Gm} (ok : c.Ok) (h : fnOk c.K a params Γ = true) (hb : (fdAt c.K a).body = .stmts body) (hc : (fdAt c.K a).closure = cA.toList.map fun b => (("__class__" : Str), b))
  (hcell : ∀ b, cA = some b → (c.K.lookup b).isSome = true ∧ (fdAt c.K a).scope.names.lookup ("__class__" : Str) = some .free) (hno : ((fdAt c.K a).scope.names.all fun p => p.1 != ("__class__" : Str) || p.2 != .cell) = true) (hf : ∀ f b, Γ.fn = some (f, b) → f = a ∧ cA = some b)
  (hbind : ∀ X σ μ s (vals : List Value), Rel c X σ μ s.heap → vals.length + dfl.length = params.length → ∃ dv, VRs s.heap (Sx X σ μ) μ σ.length dv dfl ∧ BindsTo s (fdAt c.K a) ⟨vals, []⟩ (params.zip (vals ++ dv))) : FnAtD c a (fdAt c.K a) body params dfl cA Γ :=
 FnAtD.of' ok h hb hc hcell (fun {_} _ hm => by have := List.all_eq_true.mp hno _ hm; simp at this) hf hbind
theorem bindD0 {c : Ctx} {fd : FuncData} {params : List Str} (h : ∀ vals : List Value, vals.length = params.length → bindArgs fd ⟨vals, []⟩ = pure (params.zip vals)) (X : Nat → Prop) (σ : St) (μ : Nat → Nat) (s : Shared) (vals : List Value) (_ : Rel c X σ μ s.heap) (hl : vals.length + ([] : List V).length = params.length) :
  ∃ dv, VRs s.heap (Sx X σ μ) μ σ.length dv [] ∧ BindsTo s fd ⟨vals, []⟩ (params.zip (vals ++ dv)) := ⟨[], .nil, BindsTo.of_eq (by rw [List.append_nil]; exact h vals (by simpa using hl))⟩
theorem FnAt.of {c : Ctx} {a : Addr} {body : List Stmt} {params : List Str} {Γ : Gm} (ok : c.Ok) (h : fnOk c.K a params Γ = true) (hb : (fdAt c.K a).body = .stmts body) (hc : (fdAt c.K a).closure = []) (hf : Γ.fn = none)
  (hbind : ∀ vals : List Value, vals.length = params.length → bindArgs (fdAt c.K a) ⟨vals, []⟩ = pure (params.zip vals)) : FnAt c a (fdAt c.K a) body params Γ :=
 FnAtD.of' ok h hb hc (fun _ e => by cases e) (fun {_} e => by cases e) (fun _ _ e => by rw [hf] at e; cases e) (bindD0 hbind)
theorem one_of {α : Type} [DecidableEq α] {β : Type} {P : α → β → Prop} {C0 : α} {f0 : β} (h : P C0 f0) : ∀ C f, (if C = C0 then some f0 else none) = some f → P C f := fun C f e => by
 split at e
 ·cases e; subst C; exact h
 ·cases e
theorem this_of {P : Nat → Prop} {C0 : Nat} (h : P C0) : ∀ C, (C == C0) = true → P C := fun C e => by
 cases eq_of_beq e; exact h
theorem Ctx.Ok.top {c : Ctx} (ok : c.Ok) {x : Str} {v : Value} (e : nsIn c.K mainGlobals x = some (some v)) : c.mg x = some v := mg_of ok.K ok.g e
noncomputable def bNames : List Str := ["len", "range", "list", "tuple", "int", "sorted", "reversed", "any", "min", "max", "sum", "zip", "enumerate", "set", "dict", "super", "str"]
theorem Ctx.Ok.bi {c : Ctx} (ok : c.Ok) {x : Str} {v : Value} (e : bootBuiltins x = some v) (hx : x ∈ bNames) : c.mg x = none ∧ c.mb x = some v :=
 ⟨ok.names x hx, (ok.builtins x fun h => absurd (h ▸ hx) (by decide +kernel : ("__name__" : Str) ∉ bNames)).trans e⟩
section
variable {c : Ctx} {Γ : Gm}
theorem sim_gl {x : Str} {v : Value} {y : V} {pos : Pos} (ok : c.Ok) (e : nsIn c.K mainGlobals x = some (some v)) (hv : ∀ X σ μ h, Rel c X σ μ h → VRσ X σ μ h v y) (hx : Γ.lookup x = some none) (hd : (x == ("__debug__" : Str)) = false) : SimE c Γ (.Name x pos) (gloM y) := by
 intro A d X bs env F ρ σ μ s Q hA R E h
 exact wpAny_Name (wp_loadGlobal ok R E hx (.inl (ok.top e)) (Post.here R (hv X σ μ _ R) h)) hd
theorem gl_int {i : Int} {t : Tok} : ∀ X σ μ h, Rel c X σ μ h → VRσ X σ μ h (.int i t) (.int i) := fun _ _ _ _ _ => .int _ _
noncomputable def tsO (l : List (String × Nat)) : Obj := ⟨.type "tuple", none, .seq (l.map fun y => Value.str (Str.ofString y.1) y.2).toArray 0, #[]⟩
theorem gl_strs {a : Addr} {l : List (String × Nat)} {m : List Str} (ok : c.Ok) (e : c.K.lookup a = some (tsO l)) (hm : m = l.map fun y => Str.ofString y.1) : ∀ X σ μ h, Rel c X σ μ h → VRσ X σ μ h (.ref a) (.tup (m.map V.str)) := fun X σ μ h R => by
 have h0 := ok.K _ _ e
 have t : ∀ l : List (String × Nat), VRs h (Sx X σ μ) μ σ.length (l.map fun y => Value.str (Str.ofString y.1) y.2) ((l.map fun y => Str.ofString y.1).map V.str) := fun l => by
  induction l with
  | nil => exact .nil
  | cons y l ih => exact .cons (.str _ _) ih
 refine .tup (R.base _ _ h0) (fun hs => ?_) (hm ▸ t l)
 rcases hs with ⟨i, o, ei, rfl⟩ | hX
 ·rw [R.out i o ei] at h0; cases h0
 ·rw [(R.sh a hX).1] at h0; cases h0
theorem sim_AN {bs k k' : Nat} {nm : List (Str × Pos)} {is : List Nat} {ts es : List Expr} {a : ME (List V)} {tp vp pos : Pos} (ht : ts = nm.map fun p => Expr.Name p.1 p.2) (ha : SimEs c Γ es a)
  (hx : (nm.length == is.length && decide is.Nodup && (nm.zip is).all fun p => Γ.lookup p.1.1 == some (some p.2) && decide (bs ≤ p.2)) = true) (hc : es.all (constantsAlone 8) = false) : SimS c Γ bs (.Assign [.Tuple ts k tp] (.Tuple es k' vp) pos) (namesM is a) := by
 simp only [Bool.and_eq_true, beq_iff_eq, decide_eq_true_eq] at hx
 refine sim_AssignNames ht ha hx.1.1 hx.1.2 (fun j n i hn hi => ?_) hc
 have := List.all_eq_true.mp hx.2 (n, i) (List.mem_of_getElem? (List.getElem?_zip_eq_some.mpr ⟨hn, hi⟩))
 simp only [Bool.and_eq_true, beq_iff_eq, decide_eq_true_eq] at this
 exact this
end
noncomputable def vRef : (v : Value) → Option {a : Addr // v = .ref a}
 | .ref a => some ⟨a, rfl⟩
 | _ => none
noncomputable def vStr : (v : Value) → Option {p : Str × Tok // v = .str p.1 p.2}
 | .str x t => some ⟨(x, t), rfl⟩
 | _ => none
noncomputable def dFields : (d : Data) → Option {vs : Array Value // d = .fields vs}
 | .fields vs => some ⟨vs, rfl⟩
 | _ => none
noncomputable def dCell : (d : Data) → Option {v : Value // d = .cell (some v)}
 | .cell (some v) => some ⟨v, rfl⟩
 | _ => none
noncomputable def superAtOk (K : Frag) (f0 cA : Addr) (x0 : Str) (D : Addr) (file : Str) : Bool :=
 ((K.lookup f0).elim false fun o => (fnD o.data).elim false fun fd => ((fd.1.params.posonlyargs ++ fd.1.params.args).head?).elim false (fun ar => ar.arg == x0) && (vRef fd.1.code).elim false fun a => (K.lookup a.1).elim false fun o => (dFields o.data).elim false fun vs =>
  (vs.1[2]?).elim false fun v => (vStr v).elim false fun p => file == p.1.1) && (K.lookup cA).elim false fun o => (dCell o.data).elim false fun v => (vRef v.1).elim false fun E => E.1 == D
theorem SuperAt.of {c : Ctx} {f0 cA D : Addr} {x0 : Str} (h : superAtOk c.K f0 cA x0 D c.prog.main.file = true) (ht : (c.prog.main.scope.names.lookup ("super" : Str)).isSome = false) (hs : c.mg "super" = none ∧ c.mb "super" = some (.type "super")) (ho : nsIn c.K cStatics "thirdparty.any" = some none) : SuperAt c f0 cA x0 D := by
 have h := Bool.and_eq_true_iff.mp h
 refine ⟨?_, ?_, ht, hs, ho⟩
 ·obtain ⟨⟨_, _, _, _⟩, e1, h⟩ := elim_true h.1
  obtain ⟨⟨fd, e2⟩, h⟩ := elim_tt h
  have h := Bool.and_eq_true_iff.mp h
  obtain ⟨ar, e3, ha⟩ := elim_true h.1
  obtain ⟨⟨a, e4⟩, h⟩ := elim_tt h.2
  obtain ⟨⟨_, _, _, _⟩, e5, h⟩ := elim_true h
  obtain ⟨⟨vs, e6⟩, h⟩ := elim_tt h
  obtain ⟨v, e7, h⟩ := elim_true h
  obtain ⟨⟨p, e8⟩, h⟩ := elim_tt h
  dsimp only at e2 e6
  exact ⟨_, _, fd, _, e2 ▸ e1, ⟨ar, e3, eq_of_beq ha⟩, a, _, _, vs, _, p.1, p.2, e4, e6 ▸ e5, e8 ▸ e7, h⟩
 ·obtain ⟨⟨_, _, _, _⟩, e1, h⟩ := elim_true h.2
  obtain ⟨⟨v, e2⟩, h⟩ := elim_tt h
  obtain ⟨⟨E, e3⟩, h⟩ := elim_tt h
  dsimp only at e2
  have e4 : v = .ref D := e3.trans (congrArg _ (eq_of_beq h))
  exact ⟨_, _, _, e4 ▸ e2 ▸ e1⟩
end
section
noncomputable def Rise (l : List Nat) : Prop := l.Pairwise (· < ·)
theorem Rise.lt {l : List Nat} (h : Rise l) {i k : Nat} (hi : i < k) (hk : k < l.length) : l[i] < l[k] := List.pairwise_iff_getElem.mp h i k (by lia) hk hi
structure Below (l : List Nat) (j p : Nat) : Prop where
 le : p ≤ l.length
 lo : ∀ i (h : i < l.length), i < p → l[i] < j
 hi : ∀ i (h : i < l.length), p ≤ i → j ≤ l[i]
theorem below_go {xs : Array Nat} (h : Rise xs.toList) (j : Nat) : ∀ (fuel lo hi : Nat), lo ≤ hi → hi ≤ xs.toList.length → hi - lo ≤ fuel → (∀ i (h : i < xs.toList.length), i < lo → xs.toList[i] < j) → (∀ i (h : i < xs.toList.length), hi ≤ i → j ≤ xs.toList[i]) → Below xs.toList j (SetTable.below.go xs j fuel lo hi) := by
 intro fuel
 induction fuel with
 | zero =>
  intro lo hi h1 h2 h3 h4 h5
  have : lo = hi := by lia
  subst this
  unfold SetTable.below.go
  exact ⟨h2, h4, h5⟩
 | succ fuel ih =>
  intro lo hi h1 h2 h3 h4 h5
  unfold SetTable.below.go
  split
  ·rename_i hlt
   have hm : (lo + hi) / 2 < xs.toList.length := by lia
   have hg : xs.getD ((lo + hi) / 2) j = xs.toList[(lo + hi) / 2] := by
    rw [Array.getD_eq_getD_getElem?, ← Array.getElem?_toList, List.getElem?_eq_getElem hm]; rfl
   simp only [hg]
   split
   ·rename_i hc
    refine ih _ _ (by lia) h2 (by lia) (fun i hi' hlo => ?_) h5
    rcases Nat.lt_or_ge i ((lo + hi) / 2) with hh | hh
    ·exact Nat.lt_trans (h.lt hh hm) hc
    ·have : i = (lo + hi) / 2 := by lia
     subst this; exact hc
   ·rename_i hc
    refine ih _ _ (by lia) (by lia) (by lia) h4 (fun i hi' hhi => ?_)
    rcases Nat.lt_or_ge ((lo + hi) / 2) i with hh | hh
    ·have := h.lt hh hi'; lia
    ·have : i = (lo + hi) / 2 := by lia
     subst this; lia
  ·have : lo = hi := by lia
   subst this
   exact ⟨h2, h4, h5⟩
theorem below_is {xs : Array Nat} (h : Rise xs.toList) (j : Nat) : Below xs.toList j (SetTable.below xs j) := by
 unfold SetTable.below
 exact below_go h j _ _ _ (Nat.zero_le _) (by simp) (by simp) (fun i _ hi => absurd hi (Nat.not_lt_zero _)) (fun i hi hh => by simp at hi; lia)
theorem Below.uniq {l : List Nat} {j p q : Nat} (a : Below l j p) (b : Below l j q) : p = q := by
 rcases Nat.lt_trichotomy p q with h | h | h
 ·have := b.lo p (by have := b.le; lia) h
  have := a.hi p (by have := b.le; lia) (Nat.le_refl _)
  lia
 ·exact h
 ·have := a.lo q (by have := a.le; lia) h
  have := b.hi q (by have := a.le; lia) (Nat.le_refl _)
  lia
theorem rise_insert {xs : Array Nat} (h : Rise xs.toList) {j : Nat} (hj : xs[SetTable.below xs j]? ≠ some j) : Rise (SetTable.insertAt xs (SetTable.below xs j) j).toList := by
 rw [SetTable.toList_insertAt]
 have B := below_is h j
 unfold Rise
 rw [List.pairwise_append]
 refine ⟨h.sublist (List.take_sublist _ _), ?_, ?_⟩
 ·rw [List.pairwise_cons]
  refine ⟨fun x hx => ?_, h.sublist (List.drop_sublist _ _)⟩
  obtain ⟨i, hi, rfl⟩ := List.getElem_of_mem hx
  rw [List.getElem_drop]
  have hl : SetTable.below xs j + i < xs.toList.length := by simp at hi; simp; lia
  have := B.hi _ hl (by lia)
  rcases Nat.lt_or_eq_of_le this with hh | hh
  ·exact hh
  ·exfalso
   rcases Nat.eq_zero_or_pos i with h0 | h0
   ·subst h0
    refine hj ?_
    rw [← Array.getElem?_toList, List.getElem?_eq_getElem (by simpa using hl)]
    simp only [Nat.add_zero] at hh
    rw [← hh]
   ·have h1 := h.lt (i := SetTable.below xs j) (k := SetTable.below xs j + i) (by lia) hl
    have h2 := B.hi (SetTable.below xs j) (by lia) (Nat.le_refl _)
    lia
 ·intro a ha b hb
  obtain ⟨i, hi, rfl⟩ := List.getElem_of_mem ha
  rw [List.getElem_take]
  have hi' : i < SetTable.below xs j ∧ i < xs.toList.length := by simp at hi; simp; lia
  have h1 := B.lo i hi'.2 hi'.1
  rcases List.mem_cons.mp hb with rfl | hb
  ·exact h1
  ·obtain ⟨k, hk, rfl⟩ := List.getElem_of_mem hb
   rw [List.getElem_drop]
   have := B.hi (SetTable.below xs j + k) (by simp at hk; simp; lia) (by lia)
   lia
theorem rise_range (n : Nat) : Rise (List.range n) := List.pairwise_lt_range
structure TOk (led : Bool) (t : SetTable) : Prop where
 rise : Rise t.place.toList
 nodummy : t.dummies = #[]
 led : t.led = led
theorem TOk.fresh {led : Bool} : TOk led (.fresh 0 0 led) := ⟨List.Pairwise.nil, rfl, rfl⟩
theorem TOk.standIn {led : Bool} {t : SetTable} {n : Nat} (h : TOk led t) : TOk led (t.standIn n) := ⟨by simp only [SetTable.standIn, Array.toList_range]; exact rise_range n, rfl, h.led⟩
theorem slot_nodummy {t : SetTable} (h : t.dummies = #[]) {j : Nat} : t.slot j ≠ .dummy := by
 have hh : SetTable.has t.dummies j = false := by rw [h]; rfl
 unfold SetTable.slot
 dsimp only
 split
 ·simp
 ·rw [hh]; simp
theorem probe_free {t : SetTable} (h : t.dummies = #[]) (f : Nat → Int) (hs : Int) : ∀ (fuel : Nat) (p : SetTable.Probe), p.dummy = none → ∀ j d, SetTable.probe.go t f hs fuel p = some (.empty j d) → d = none ∧ t.slot j = .empty := by
 intro fuel
 induction fuel with
 | zero => intro p _ j d e; cases e
 | succ fuel ih =>
  intro p hp j d e
  unfold SetTable.probe.go at e
  split at e
  ·rename_i he
   cases e
   exact ⟨hp, he⟩
  ·rename_i he
   exact absurd he (slot_nodummy h)
  ·split at e
   ·cases e
   ·refine ih _ ?_ j d e
    unfold SetTable.advance
    split
    ·exact hp
    ·exact hp
theorem slot_empty {t : SetTable} {j : Nat} (h : t.slot j = .empty) : t.place[SetTable.below t.place j]? ≠ some j := by
 unfold SetTable.slot at h
 dsimp only at h
 split at h
 ·cases h
 ·rename_i hn; intro e; exact hn (by rw [e]; simp)
theorem TOk.layNew {led : Bool} {t : SetTable} (h : TOk led t) (es : Array (Int × Value)) (hs : Int) (x : Value) : TOk led (PySem.layNew t es hs x).2.1 := by
 unfold PySem.layNew
 split
 ·rename_i slot wd e
  have hfree : t.place[SetTable.below t.place slot]? ≠ some slot := by
   unfold SetTable.freeSlot at e
   split at e
   ·rename_i j d hp
    simp only [Option.some.injEq, Prod.mk.injEq] at e
    unfold SetTable.probe at hp
    obtain ⟨rfl, hj⟩ := probe_free h.nodummy _ _ _ _ rfl j d hp
    obtain ⟨rfl, _⟩ := e
    exact slot_empty hj
   ·cases e
  have hput : TOk led (t.put slot).1 := by
   refine ⟨rise_insert h.rise hfree, ?_, h.led⟩
   unfold SetTable.put
   have hh : SetTable.has t.dummies slot = false := by rw [h.nodummy]; rfl
   simp only [hh, Bool.false_eq_true, if_false]
   exact h.nodummy
  dsimp only
  unfold SetTable.orStandIn
  split
  ·exact hput
  ·exact hput.standIn
 ·exact h.standIn
theorem rise_filterMap {α : Type} (f : Nat → Option α) (n : Nat) : Rise (((List.range n).filterMap fun j => (f j).map (j, ·)).map (·.1)) := by
 unfold Rise
 rw [List.pairwise_map, List.pairwise_filterMap]
 refine List.Pairwise.imp (fun {a b} hab x hx y hy => ?_) (rise_range n)
 simp only [Option.mem_def, Option.map_eq_some_iff] at hx hy
 obtain ⟨_, _, rfl⟩ := hx
 obtain ⟨_, _, rfl⟩ := hy
 exact hab
theorem TOk.relay {led : Bool} {t : SetTable} (h : TOk led t) (es : Array (Int × Value)) (wanted : Nat) : TOk led (relayAll t es wanted).2.1 := by
 unfold relayAll
 split
 ·rename_i t' order e
  have ht : TOk led t' := by
   unfold SetTable.relaid SetTable.laid at e
   simp only [bind, Option.bind_eq_some_iff] at e
   obtain ⟨owner, _, e⟩ := e
   simp only [pure, Option.some.injEq, Prod.mk.injEq] at e
   obtain ⟨rfl, _⟩ := e
   refine ⟨?_, rfl, h.led⟩
   simpa using rise_filterMap _ _
  dsimp only
  split
  ·exact ht
  ·exact h.standIn
 ·exact h.standIn
end
section
noncomputable def keyOf : Value → Int
 | .int i _ => i
 | _ => 0
noncomputable def kl (es : Array (Int × Value)) : List Int := es.toList.map fun e => keyOf e.2
noncomputable def addP (ks : List Int) (k : Int) : List Int := if k ∈ ks then ks else ks ++ [k]
noncomputable def setObj (es : Array (Int × Value)) (ep : Nat) (t : SetTable) : Obj := { cls := .type "set", dict := none, data := .set es ep t, slots := #[] }
structure SX (prog : Program) (w : World) (led : Bool) (ks : List Int) (es : Array (Int × Value)) (t : SetTable) : Prop where
 el : ElemsOf (intKind prog w) es.toList
 small : es.size < scanBound
 fits : t.fits es.size = true
 tok : TOk led t
 perm : (kl es).Perm ks
section
variable {prog : Program} {w : World} {A : Around} {E : Value → Shared → Prop} {s : Shared} {led : Bool} {ks : List Int} {es : Array (Int × Value)} {t : SetTable} {ep : Nat}
theorem SX.size (X : SX prog w led ks es t) : es.size = ks.length := by
 have := X.perm.length_eq
 simpa [kl] using this
theorem SX.find (X : SX prog w led ks es t) (k : Int) : (es.toList.findIdx? fun e => (intKind prog w).is k e.2) = none ↔ k ∉ ks := by
 rw [List.findIdx?_eq_none_iff]
 constructor
 ·intro h hk
  have hk' := X.perm.mem_iff.mpr hk
  simp only [kl, List.mem_map] at hk'
  obtain ⟨e, he, rfl⟩ := hk'
  obtain ⟨⟨k', h1, _⟩, _⟩ := X.el e he
  obtain ⟨tk, h2⟩ := Value.isInt_shape h1
  have := h e he
  rw [h2] at this
  rw [show keyOf (Value.int k' tk) = k' from rfl, intKind_is] at this
  cases this
 ·intro h e he
  obtain ⟨⟨k', h1, _⟩, _⟩ := X.el e he
  obtain ⟨tk, h2⟩ := Value.isInt_shape h1
  cases hh : (intKind prog w).is k e.2 with
  | false => rfl
  | true =>
   exfalso
   refine h (X.perm.mem_iff.mp ?_)
   have hk : k = k' := (intKind prog w).inj e.2 k k' hh h1
   simp only [kl, List.mem_map]
   exact ⟨e, he, by rw [h2, hk]; rfl⟩
theorem SX.push {es1 : Array (Int × Value)} {t1 : SetTable} {k : Int} {tk : Tok} (X : SX prog w led ks es t) (hb : es.size + 1 < scanBound) (hp : es1.toList.Perm (es.push (hashInt k, .int k tk)).toList) (hf : t1.fits es1.size = true) (ht : TOk led t1) (hk : k ∉ ks) : SX prog w led (addP ks k) es1 t1 := by
 rw [Array.toList_push] at hp
 refine ⟨?_, ?_, hf, ht, ?_⟩
 ·exact (X.el.push (k := k) (intKind_is _ _ _ _) rfl).perm hp
 ·have := hp.length_eq; simp at this; lia
 ·unfold addP; rw [if_neg hk]
  have e := hp.map fun (e : Int × Value) => keyOf e.2
  rw [List.map_append] at e
  exact e.trans (List.Perm.append_right _ X.perm)
theorem SX.reperm {es1 : Array (Int × Value)} {t1 : SetTable} (X : SX prog w led ks es t) (hp : es1.toList.Perm es.toList) (hf : t1.fits es1.size = true) (ht : TOk led t1) : SX prog w led ks es1 t1 :=
 ⟨X.el.perm hp, by have := hp.length_eq; simp at this; have := X.small; lia, hf, ht, (show (kl es1).Perm (kl es) from hp.map fun (e : Int × Value) => keyOf e.2).trans X.perm⟩
theorem put_setObj (es' : Array (Int × Value)) (t' : SetTable) : Obj.putSet es' t' (setObj es ep t) = setObj es' (ep + 1) t' := putSet_of es' t' rfl
theorem store2 {a : Addr} {es' : Array (Int × Value)} {t' : SetTable} {Q : Unit → Shared → Prop} (ho : s.heap.get? a = some (setObj es ep t)) (hb : es'.size < scanBound)
  (h : ∀ h', Heap.SameBut a s.heap h' → h'.get? a = some (setObj es' (ep + 1) t') → Q () { s with heap := h' }) : wpAny (model prog w) A (storeSet a es' t') Q E s := by
 refine wpAny_storeSet_of ho rfl (h _ (Heap.SameBut.update ..) ?_) (fits_of_scanBound hb)
 have := Heap.get?_update_self (Obj.putSet es' t') ho (by rw [put_setObj]; rfl)
 rw [put_setObj] at this
 exact this
theorem setAdd2 {a : Addr} {k : Int} {tk : Tok} {Q : Bool → Shared → Prop} (ho : s.heap.get? a = some (setObj es ep t)) (X : SX prog w led ks es t) (hroom : ks.length + 1 < scanBound)
  (h : ∀ b h' es' ep' t', Heap.SameBut a s.heap h' → h'.get? a = some (setObj es' ep' t') → SX prog w led (addP ks k) es' t' → Q b { s with heap := h' }) :
  wpAny (model prog w) A (setAddHashed a (.int k tk) (hashInt k)) Q E s := by
 have hb1 : es.size + 1 < scanBound := by rw [X.size]; exact hroom
 unfold setAddHashed setAddHashedIn
 refine wpAny_holding (wpAny_bind (wpAny_setState_of ho rfl X.fits ?_))
 dsimp only
 rw [byScan_of (knd := intKind prog w) rfl X.small X.el]
 simp only [↓reduceIte]
 unfold setAddByScan
 refine wpAny_bind (wpAny_bind (wpAny_rule (wpAny_bind (wpAny_setScan_of (knd := intKind prog w) (k := k) (intKind_is _ _ _ _) ho rfl X.fits X.el ?_))))
 cases hr : es.toList.findIdx? fun e => (intKind prog w).is k e.2 with
 | some j =>
  have hk : k ∈ ks := by
   by_cases hk : k ∈ ks
   ·exact hk
   ·rw [(X.find k).mpr hk] at hr; cases hr
  refine wpAny_pure (wpAny_pure ?_)
  exact h _ s.heap es ep t (Heap.SameBut.refl a s.heap) ho (by unfold addP; rw [if_pos hk]; exact X)
 | none =>
  have hk : k ∉ ks := (X.find k).mp hr
  have hgw : ∀ (b : Bool) {s₁ : Shared} {Q' : Unit → Shared → Prop}, Q' () s₁ → wpAny (model prog w) A (match b with | true => rule "set.scan.the-table-gave-way" | false => pure ()) Q' E s₁ :=
   fun b s₁ Q' hq => by cases b <;> first | exact wpAny_pure hq | exact wpAny_rule hq
  dsimp only
  have X1 := X.push (tk := tk) hb1 (layNew_perm t es (hashInt k) (.int k tk)) (layNew_fits t es (hashInt k) (.int k tk)) (X.tok.layNew es (hashInt k) (.int k tk)) hk
  have kh : (intKind prog w).hash k = hashInt k := rfl
  generalize layNew t es (hashInt k) (.int k tk) = L at X1 ⊢
  obtain ⟨es1, t1, wasDummy, gave⟩ := L
  dsimp only at X1 ⊢
  refine wpAny_bind (hgw _ ?_)
  have tail : ∀ t2 : SetTable, SX prog w led (addP ks k) es1 t2 → wpAny (model prog w) A (do
    storeSet a es1 t2
    if (!wasDummy && t2.tooFull) = true then do
      (match (relayAll t2 es1 (SetTable.grown es1.size)).2.2 with | true => rule "set.scan.the-table-gave-way" | false => pure ())
      storeSet a (relayAll t2 es1 (SetTable.grown es1.size)).1 (relayAll t2 es1 (SetTable.grown es1.size)).2.1
      pure (some true)
     else pure (some true)) (fun r s' => wpAny (model prog w) A (match r with | some added => pure added | none => setAddHashedIn a (.int k tk) (hashInt k) 99999) Q E s') E s := fun t2 X2 => by
   refine wpAny_bind (store2 ho X2.small fun h1 hs1 ho1 => ?_)
   split
   ·have X3 := X2.reperm (relayAll_perm t2 es1 (SetTable.grown es1.size)) (relayAll_fits t2 es1 (SetTable.grown es1.size)) (X2.tok.relay es1 (SetTable.grown es1.size))
    refine wpAny_bind (hgw _ (wpAny_bind (store2 ho1 X3.small fun h2 hs2 ho2 => wpAny_pure (wpAny_pure ?_))))
    exact h true h2 _ _ _ (hs1.trans hs2) ho2 X3
   ·exact wpAny_pure (wpAny_pure (h true h1 _ _ _ hs1 ho1 X2))
  split
  ·refine wpAny_bind ?_
   rw [hashByValue_scannable 8 rfl]
   refine wpAny_pure ?_
   exact tail t1 X1
  ·refine wpAny_bind (wpAny_pure ?_)
   exact tail t1 X1
end
end
section
noncomputable def accP (val : Nat → Int) (i : Nat) : List Int := ((List.range i).map val).foldl addP []
theorem accP_succ (val : Nat → Int) (i : Nat) : accP val (i + 1) = addP (accP val i) (val i) := by
 simp [accP, List.range_succ]
theorem addP_len (ks : List Int) (k : Int) : (addP ks k).length ≤ ks.length + 1 := by unfold addP; split <;> simp
theorem accP_len (val : Nat → Int) (i : Nat) : (accP val i).length ≤ i := by
 induction i with
 | zero => simp [accP]
 | succ i ih => rw [accP_succ]; have := addP_len (accP val i) (val i); lia
noncomputable def LED (w : World) : Bool := !(w.params.followText "set-order")
section
variable {prog : Program} {w : World} {A : Around} {R : Result → Shared → Prop} {I : Addr} {fp wr : List Addr} {G : Array GenState → Array GenState → Prop} {n : Nat} {P : Nat → Value → Prop} {St : Nat → Shared → Prop} {led : Bool}
theorem set_loop2 (W : WalksS prog w A.in1 I fp wr G n P St) (S : Addr) (hSf : S ∉ fp) (val : Nat → Int) (hval : ∀ i v, P i v → ∃ t, v = .int (val i) t) (hb : n + 1 < scanBound) :
  ∀ (k i : Nat) (s : Shared) (es : Array (Int × Value)) (ep : Nat) (t : SetTable), n - i = k → i ≤ n → St i s → s.heap.get? S = some (setObj es ep t) → SX prog w led (accP val i) es t →
   (∀ s' es' ep' t', Moved (S :: wr) G s s' → s'.heap.get? S = some (setObj es' ep' t') → SX prog w led (accP val n) es' t' → R (.ok (.ret .none)) s') →
   codeAny (model prog w) A (.builtin "set.update.loop" ⟨[.ref S, .ref I], []⟩) R s := by
 have hSw : S ∉ wr := fun h => hSf (W.sub _ h)
 have hsub : ∀ b ∈ wr, b ∈ S :: wr := fun b hb => List.mem_cons_of_mem _ hb
 intro k
 induction k with
 | zero =>
  intro i s es ep t hk hi hst hS X hR
  have hin : i = n := by lia
  subst hin
  refine codeAny_builtin F.entry_set_update_loop ?_
  rw [Around.under_plainId F.plain_set_update_loop _]
  show wpAny _ A.in1 (pyNext (.ref I) >>= _) _ _ s
  refine wpAny_bind (W.done s _ _ hst fun s' hm => ?_)
  show wpAny _ A.in1 (ret Value.none) _ _ s'
  exact wpAny_pure (hR s' es ep t (hm.mono hsub) (hm.heap S _ hSw hS) X)
 | succ k ih =>
  intro i s es ep t hk hi hst hS X hR
  have hlt : i < n := by lia
  refine codeAny_builtin F.entry_set_update_loop ?_
  rw [Around.under_plainId F.plain_set_update_loop _]
  show wpAny _ A.in1 (pyNext (.ref I) >>= _) _ _ s
  refine wpAny_bind (W.item i s _ _ hlt hst fun v s' hP hst' hm => ?_)
  obtain ⟨tk, rfl⟩ := hval i v hP
  show wpAny _ A.in1 (holding [Value.int (val i) tk] (setAdd S (.int (val i) tk)) >>= _) _ _ s'
  refine wpAny_bind (wpAny_holding ?_)
  unfold setAdd
  refine wpAny_holding (wpAny_bind ((intKind prog w).pyHash (k := val i) (intKind_is _ _ _ _) ?_))
  have hroom : (accP val i).length + 1 < scanBound := by have := accP_len val i; lia
  refine setAdd2 (s := { s' with toks := s'.toks + 1 }) (hm.heap S _ hSw hS) X hroom fun b h' es' ep' t' hsb ho' X' => ?_
  rw [← accP_succ] at X'
  refine wpAny_pure ⟨plainId_quiet F.plain_set_update_loop _, ih (i + 1) _ es' ep' t' (by lia) hlt (W.frame _ s' _ _ hst' (Nat.le_succ _) fun b hb o e => ?_) ho' X' fun s'' es'' ep'' t'' hm'' ho'' X'' => ?_⟩
  ·rw [hsb.2 b (fun h : b = S => hSf (by rw [← h]; exact hb))]; exact e
  ·refine hR s'' es'' ep'' t'' ((hm.mono hsub).trans W.gtrans ((Moved.refl W.grefl).then_heap (Nat.le_succ _) fun b o hb e => ?_) |>.trans W.gtrans hm'') ho'' X''
   rw [hsb.2 b (fun h : b = S => hb (by rw [h]; exact List.mem_cons_self))]; exact e
end
section
variable {prog : Program} {w : World} {A : Around} {E : Value → Shared → Prop} {s : Shared}
theorem code_set_new2 (a : Value) {Q₁ : Value → Shared → Prop}
  (h : Q₁ (.ref s.heap.objs.size) { s with heap := s.heap.push (setObj #[] 0 (.fresh 0 0 (LED w))) }) :
  codeAny (model prog w) A (.call (.builtin "set.__new__") ⟨[.type "set", a], []⟩) (wants Q₁ E) s := by
 refine codeAny_of_tree ?_
 show wpAny _ A.in1 (do checkBuiltinCall "set.__new__" ⟨[.type "set", a], []⟩; again (.builtin "set.__new__" ⟨[.type "set", a], []⟩)) _ _ s
 refine wpAny_bind (wpAny_of_eq (F.newCall_set_1 a) (wpAny_pure ⟨plainId_quiet F.plain_set_new _, codeAny_builtin F.entry_set_new ?_⟩))
 rw [Around.under_plainId F.plain_set_new _]
 unfold Builtin.«set.__new__» Builtin.Frozenset.newClass
 have hsub := sub_set_self
 obtain ⟨hp, g, d, tk, os⟩ := s
 dsimp only
 wp_walk
 refine wpAny_askSetting (wpAny_pure ?_)
 dsimp only
 simp only [newObj]
 refine wpAny_bind (wpAny_alloc (wpAny_pure ?_))
 exact wpAny_pure h
theorem SX.fresh {led : Bool} : SX prog w led [] #[] (.fresh 0 0 led) := ⟨fun e he => by simp at he, by decide, rfl, TOk.fresh, .refl _⟩
set_option maxHeartbeats 3200000 in
theorem call_set2 {l : Addr} {items : Array Value} {ns : List Int} {Q : Value → Shared → Prop} (hh : A.handled = none) (hl : s.heap.IsList l items) (hi : IntsAre items.toList ns) (hb : items.size + 1 < scanBound)
  (h : ∀ (h' : Heap) (tk : Nat) es ep t, h'.get? s.heap.objs.size = some (setObj es ep t) → SX prog w (LED w) (accP (fun i => ns.getD i 0) items.size) es t → (∀ b o, b < s.heap.objs.size → s.heap.get? b = some o → h'.get? b = some o) → Q (.ref s.heap.objs.size) { s with heap := h', toks := tk }) :
  wpAny (model prog w) A (call (.type "set") [.ref l]) Q E s := by
 obtain ⟨c, tl, hmro⟩ := F.called_set.mro
 have hmade := F.called_set.made
 have hsub := F.called_set.sub
 refine wpAny_call (codeAny_of_tree ?_)
 show wpAny _ _ (callAny (.type "set") _) _ _ _
 refine wpAny_pure ⟨Code.quiet_builtin _ (by decide +kernel), codeAny_builtin F.entry_type_call ?_⟩
 rw [Around.under_plain (weight_type_call_type "set" [.ref l] []) rfl]
 have h1 := F.called_set.notType
 have h2 := F.called_set.canCreate
 have hct := F.typeCall_set_1 (.ref l)
 repeat (any_goals (first | assumption | wp_step))
 refine codeAny_mono (code_set_new2 (.ref l) (E := E) (Q₁ := fun obj s₁ => obj = .ref s.heap.objs.size ∧ s₁ = { s with heap := s.heap.push (setObj #[] 0 (.fresh 0 0 (LED w))) }) ⟨rfl, rfl⟩) fun r s₁ hr => ?_
 cases r with
 | error e => exact hr
 | ok fl =>
  cases fl with
  | ret obj =>
   obtain ⟨rfl, rfl⟩ := hr
   have hS : (s.heap.push (setObj #[] 0 (.fresh 0 0 (LED w)))).get? s.heap.objs.size = some (setObj #[] 0 (.fresh 0 0 (LED w))) := Heap.get?_push_size _ rfl
   have hT : Shared.TypeIs { s with heap := s.heap.push (setObj #[] 0 (.fresh 0 0 (LED w))) } (.ref s.heap.objs.size) "set" := ⟨_, hS, rfl⟩
   have hli := F.called_set.init.lookup
   have hbi := F.called_set.init.bind (.ref s.heap.objs.size)
   repeat (any_goals (first | assumption | wp_step))
   refine codeAny_mono (codeAny_call_builtin (R := wants (fun r s₂ => r = .none ∧ ∃ h' tk es ep t, s₂ = { s with heap := h', toks := tk } ∧ h'.get? s.heap.objs.size = some (setObj es ep t) ∧ SX prog w (LED w) (accP (fun i => ns.getD i 0) items.size) es t ∧
     (∀ b o, b < s.heap.objs.size → s.heap.get? b = some o → h'.get? b = some o)) E) F.called_set.init.plain F.entry_set_init (check_set_init_1 hT ?_)) fun r₂ s₂ hr₂ => ?_
   ·obtain ⟨ol, hol, hcl, nl, hdl⟩ := hl
    obtain ⟨ocls, odict, odata, oslots⟩ := ol
    simp only at hcl hdl
    subst hcl; subst hdl
    have hol' : (s.heap.push (setObj #[] 0 (.fresh 0 0 (LED w)))).get? l = some { cls := .type "list", dict := odict, data := .seq items nl, slots := oslots } := Heap.get?_push_of_some _ hol
    have hsls := F.sub_list_set
    have hslf := F.sub_list_frozenset
    have hne : (Value.type "list" == Value.type "dict") = false := by decide
    have hl1 : (s.heap.push (setObj #[] 0 (.fresh 0 0 (LED w)))).IsList l items := ⟨_, hol', rfl, nl, rfl⟩
    unfold Builtin.«set.__init__» noKeywords Builtin.Frozenset.updateFrom
    generalize hPI : pyIter = PI
    wp_walk
    subst hPI
    refine wpAny_pyIter_list hl1 ?_
    refine wpAny_bind (wpAny_runValue ?_)
    have hlS : l < s.heap.objs.size := Heap.lt_size hol
    have hh3 : A.in1.in1.in1.handled = none := by simp [hh]
    have hneI : l ≠ (s.heap.push (setObj #[] 0 (.fresh 0 0 (LED w)))).objs.size := by
     rw [Heap.size_push]; exact Nat.ne_of_lt (Nat.lt_succ_of_lt hlS)
    have hSf : s.heap.objs.size ∉ [(s.heap.push (setObj #[] 0 (.fresh 0 0 (LED w)))).objs.size, l] := by
     rw [Heap.size_push]; simp only [List.mem_cons, List.not_mem_nil, or_false, not_or]
     exact ⟨Nat.ne_of_lt (Nat.lt_succ_self _), Nat.ne_of_gt hlS⟩
    have hval : ∀ (i : Nat) (v : Value), items[i]? = some v → ∃ t, v = .int ((fun i => ns.getD i 0) i) t := fun i v hv =>
     IntsAre.int_at hi i v (by rw [Array.getElem?_toList]; exact hv)
    refine set_loop2 ((Walks.list hh3 _ l hneI items).toS) s.heap.objs.size hSf (fun i => ns.getD i 0) hval hb (items.size - 0) 0 _ #[] 0 _ (by lia) (Nat.zero_le _)
     ⟨⟨_, Heap.get?_push_size _ rfl, rfl, rfl⟩, (hl1.push _)⟩ (Heap.get?_push_of_some _ hS) SX.fresh fun s' es ep t hm ho X => ?_
    obtain ⟨h', g', d', tk', os'⟩ := s'
    have eg : g' = s.gens := hm.gens
    have ed : d' = s.drawn := hm.drawn
    have eo : os' = s.os := hm.os
    subst eg; subst ed; subst eo
    refine wpAny_pure ?_
    show wpAny _ _ (ret Value.none) _ _ _
    refine wpAny_pure ⟨rfl, h', tk', es, ep, t, rfl, ho, X, fun b o hb e => ?_⟩
    have hb1 : b ≠ s.heap.objs.size := Nat.ne_of_lt hb
    have hb2 : b ≠ (s.heap.push (setObj #[] 0 (.fresh 0 0 (LED w)))).objs.size := by
     rw [Heap.size_push]; exact Nat.ne_of_lt (Nat.lt_succ_of_lt hb)
    exact hm.heap b o (by simp only [List.mem_cons, List.not_mem_nil, or_false, not_or]; exact ⟨hb1, hb2⟩) (Heap.get?_push_of_some _ (Heap.get?_push_of_some _ e))
   ·cases r₂ with
    | error e => exact hr₂
    | ok fl₂ =>
     cases fl₂ with
     | ret r =>
      obtain ⟨rfl, h', tk, es, ep, t, rfl, ho, X, hk'⟩ := hr₂
      repeat (any_goals (first | assumption | wp_step))
      exact h _ _ _ _ _ ho X hk'
     | _ => exact hr₂.elim
  | _ => exact hr.elim
end
end
section
theorem owner_si : Manifest.owners.lookup (String.ofList ['r', 'o', 't', 'a', 'r', 'e', 't', 'i', '_', 't', 'e', 's'].reverse) = some Manifest.sig_set_iterator := by kernel_rfl
theorem slot_si_next : Slot "set_iterator" "__next__" "set_iterator.__next__" :=
 .of (owner := "set_iterator") (n := "__next__") (by rw [typeLookup_type, builtinLookup_eq_fast]; kernel_rfl) (by decide +kernel) (by decide +kernel) (by decide +kernel)
  (by first | exact .inl (by decide +kernel) | exact .inr (by decide +kernel)) (by rw [isSubtype_type]; kernel_rfl)
theorem entry_si_next : entryFor table "set_iterator.__next__" = some Builtin.«set_iterator.__next__» := entryFor_of_tree (by kernel_rfl)
theorem args_si_next (a : Value) : argsOk "set_iterator.__next__" ⟨[a], []⟩ := by
 unfold argsOk; rw [signature?_of (id := "set_iterator.__next__") (n := ['_', '_', 't', 'x', 'e', 'n', '_', '_']) (o := ['r', 'o', 't', 'a', 'r', 'e', 't', 'i', '_', 't', 'e', 's']) (by kernel_rfl) owner_si]; kernel_rfl
theorem entry_set_iter : entryFor table "set.__iter__" = some Builtin.«frozenset.__iter__» :=
 entryFor_alias (id' := "frozenset.__iter__") (by kernel_rfl) rfl (by decide +kernel) (by kernel_rfl)
theorem cons_erase_perm {α : Type} : ∀ (l : List α) (j : Nat) (h : j < l.length), (l[j] :: l.eraseIdx j).Perm l
 | [], _, h => absurd h (by simp)
 | _ :: _, 0, _ => .refl _
 | a :: l, j + 1, h => (List.Perm.swap a _ _).trans ((cons_erase_perm l j (by simpa using h)).cons a)
noncomputable def itObj (first : Value) (i : Int) (sv : Value) (n ep : Int) : Obj := { cls := .type "set_iterator", dict := none, data := .fields #[first, rawInt i, sv, rawInt n, rawInt ep], slots := #[] }
section
variable {prog : Program} {w : World} {A : Around} {E : Value → Shared → Prop} {s : Shared} {led : Bool} {ks : List Int} {es : Array (Int × Value)} {t : SetTable} {ep : Nat} {it S T : Addr} {i : Nat}
theorem wpAny_chooseAll {M : Model} {src : Source} {n : Nat} {Q : Nat → Shared → Prop} (hn : n ≠ 0) (h : ∀ j, j < n → Q j { s with drawn := s.drawn.bump src }) : wpAny M A (choose src n) Q E s := fun Γ p _ => by
 show Sem.wp M Γ (Sem.choose src n Sem.pure) _ _ _ _
 rw [Sem.wp_choose]
 exact ⟨hn, h _ (Nat.mod_lt _ (Nat.pos_of_ne_zero hn))⟩
theorem wpAny_drawAll {α : Type} {Q : List α → Shared → Prop} : ∀ (n : Nat) (xs : List α) {s : Shared}, xs.length = n → (∀ ys dr, ys.Perm xs → Q ys { s with drawn := dr }) → wpAny (model prog w) A (drawOrder n xs) Q E s
 | 0, xs, s, hl, h => by
  have : xs = [] := List.length_eq_zero_iff.mp hl
  subst this
  exact wpAny_pure (h [] s.drawn (.refl _))
 | n + 1, [], s, hl, h => by cases hl
 | n + 1, x :: xs, s, hl, h => by
  unfold drawOrder
  refine wpAny_bind (wpAny_chooseAll (by simp) fun j hj => ?_)
  rw [List.getElem?_eq_getElem hj]
  dsimp only
  refine wpAny_bind (wpAny_drawAll n ((x :: xs).eraseIdx j) (by rw [List.length_eraseIdx_of_lt hj]; simp at hl ⊢; lia) fun ys dr hp => wpAny_pure (h _ _ ?_))
  exact (List.Perm.cons _ hp).trans (cons_erase_perm _ _ hj)
theorem raise_stop {α : Type} {Q : α → Shared → Prop} (hh : A.handled = none) (h : ∀ h' e, (∀ b o, s.heap.get? b = some o → h'.get? b = some o) → (∃ o, h'.get? e = some o ∧ o.cls = .type "StopIteration") → E (.ref e) { s with heap := h' }) :
  wpAny (model prog w) A (newExc (.type "StopIteration") [] >>= raiseNew) Q E s := by
 refine wpAny_bind ?_
 simp only [newExc, newTuple]
 refine wpAny_bind (wpAny_newObj_type ?_ (by size_fits))
 refine wpAny_bind (m := firstArgMember _ _) (wpAny_of_eq (a := Value.none) (by first | rfl | (simp only [firstArgMember]; rfl)) ?_)
 refine wpAny_newObj_type ?_ (by size_fits)
 simp only [raiseNew]
 refine wpAny_bind (wpAny_handled ?_)
 rw [hh]
 refine wpAny_bind (wpAny_pure (wpAny_throw ?_))
 exact h _ _ (fun b o e => Heap.get?_push_of_some _ (Heap.get?_push_of_some _ e)) ⟨_, Heap.get?_push_size _ rfl, rfl⟩
theorem si_item {slot : Nat} {x : Value} {next : Nat} {Q : Fin → Shared → Prop} (hit : s.heap.get? it = some (itObj (rawInt slot) i (.ref S) es.size ep)) (ho : s.heap.get? S = some (setObj es ep t)) (hf : t.fits es.size = true)
  (hn : ∀ {Q' : Option (Value × Nat) → Shared → Prop}, Q' (some (x, next)) s → wpAny (model prog w) A (setNext S slot i ep) Q' E s)
  (h : ∀ h', h'.get? it = some (itObj (rawInt next) ((i : Int) + 1) (.ref S) es.size ep) → Heap.SameBut it s.heap h' → Q (.done (.ret x)) { s with heap := h' }) :
  wpAny (model prog w) A (Builtin.«set_iterator.__next__» ⟨[.ref it], []⟩) Q E s := by
 unfold Builtin.«set_iterator.__next__»
 refine wpAny_bind (wpAny_of_eq (a := (Value.ref it, [])) rfl ?_)
 dsimp only
 unfold fieldsOf
 refine wpAny_bind (wpAny_bind (wpAny_load hit (wpAny_pure ?_)))
 show wpAny _ _ (setEntries S >>= _) _ _ s
 unfold setEntries
 refine wpAny_bind (wpAny_bind (wpAny_setState_of ho rfl hf (wpAny_pure ?_)))
 dsimp only
 rw [if_neg (by simp)]
 refine wpAny_bind (hn ?_)
 dsimp only
 refine wpAny_bind (wpAny_setField_rec hit (by simp) fun h1 e1 s1 => ?_)
 refine wpAny_bind (wpAny_setField_rec e1 (by simp) fun h2 e2 s2 => ?_)
 exact wpAny_pure (h h2 e2 (s1.trans s2))
theorem si_end {slot : Nat} {Q : Fin → Shared → Prop} (hh : A.handled = none) (hit : s.heap.get? it = some (itObj (rawInt slot) i (.ref S) es.size ep)) (ho : s.heap.get? S = some (setObj es ep t)) (hf : t.fits es.size = true)
  (hn : ∀ {Q' : Option (Value × Nat) → Shared → Prop}, Q' none s → wpAny (model prog w) A (setNext S slot i ep) Q' E s)
  (h : ∀ h' e, (∀ b o, b ≠ it → s.heap.get? b = some o → h'.get? b = some o) → (∃ o, h'.get? e = some o ∧ o.cls = .type "StopIteration") → E (.ref e) { s with heap := h' }) :
  wpAny (model prog w) A (Builtin.«set_iterator.__next__» ⟨[.ref it], []⟩) Q E s := by
 unfold Builtin.«set_iterator.__next__»
 refine wpAny_bind (wpAny_of_eq (a := (Value.ref it, [])) rfl ?_)
 dsimp only
 unfold fieldsOf
 refine wpAny_bind (wpAny_bind (wpAny_load hit (wpAny_pure ?_)))
 show wpAny _ _ (setEntries S >>= _) _ _ s
 unfold setEntries
 refine wpAny_bind (wpAny_bind (wpAny_setState_of ho rfl hf (wpAny_pure ?_)))
 dsimp only
 rw [if_neg (by simp)]
 refine wpAny_bind (hn ?_)
 dsimp only
 refine wpAny_bind (wpAny_setField_rec hit (by simp) fun h1 e1 s1 => ?_)
 exact raise_stop hh fun h' e k ho => h h' e (fun b o hb eb => k b o (s1.extBut b o hb eb)) ho
theorem si_itemD {ord : List Nat} {pl : Nat} {x : Value} {Q : Fin → Shared → Prop} (hit : s.heap.get? it = some (itObj (.ref T) i (.ref S) es.size ep)) (ho : s.heap.get? S = some (setObj es ep t)) (hf : t.fits es.size = true) (hT : s.heap.get? T = some (tupO (ord.map fun (p : Nat) => rawInt (p : Int))))
  (hp : ord[i]? = some pl) (hx : ∃ h, es[pl]? = some (h, x))
  (h : ∀ h', h'.get? it = some (itObj (.ref T) ((i : Int) + 1) (.ref S) es.size ep) → Heap.SameBut it s.heap h' → Q (.done (.ret x)) { s with heap := h' }) :
  wpAny (model prog w) A (Builtin.«set_iterator.__next__» ⟨[.ref it], []⟩) Q E s := by
 obtain ⟨hs, hx⟩ := hx
 unfold Builtin.«set_iterator.__next__»
 refine wpAny_bind (wpAny_of_eq (a := (Value.ref it, [])) rfl ?_)
 dsimp only
 unfold fieldsOf
 refine wpAny_bind (wpAny_bind (wpAny_load hit (wpAny_pure ?_)))
 show wpAny _ _ (setEntries S >>= _) _ _ s
 unfold setEntries
 refine wpAny_bind (wpAny_bind (wpAny_setState_of ho rfl hf (wpAny_pure ?_)))
 dsimp only
 rw [if_neg (by simp)]
 show wpAny _ _ (seqItems? (.ref T) >>= _) _ _ _
 refine wpAny_bind (wpAny_seqItems hT rfl ?_)
 dsimp only
 have e1 : ((ord.map fun (p : Nat) => rawInt (p : Int)).toArray)[((i : Nat) : Int).toNat]? = some (rawInt (pl : Int)) := by
  rw [Int.toNat_natCast]; simp [hp]
 rw [e1]
 show wpAny _ _ (setNextDrawn S ((pl : Int)).toNat ((ep : Int)).toNat >>= _) _ _ _
 unfold setNextDrawn
 refine wpAny_bind (wpAny_bind (wpAny_setState_of ho rfl hf ?_))
 simp only [Int.toNat_natCast, bne_self_eq_false, Bool.false_eq_true, if_false, hx]
 refine wpAny_pure ?_
 refine wpAny_bind (wpAny_setField_rec hit (by simp) fun h1 e1 s1 => ?_)
 exact wpAny_pure (h h1 e1 s1)
theorem si_endD {ord : List Nat} {Q : Fin → Shared → Prop} (hh : A.handled = none) (hit : s.heap.get? it = some (itObj (.ref T) i (.ref S) es.size ep)) (ho : s.heap.get? S = some (setObj es ep t)) (hf : t.fits es.size = true) (hT : s.heap.get? T = some (tupO (ord.map fun (p : Nat) => rawInt (p : Int))))
  (hp : ord[i]? = none)
  (h : ∀ h' e, (∀ b o, b ≠ it → s.heap.get? b = some o → h'.get? b = some o) → (∃ o, h'.get? e = some o ∧ o.cls = .type "StopIteration") → E (.ref e) { s with heap := h' }) :
  wpAny (model prog w) A (Builtin.«set_iterator.__next__» ⟨[.ref it], []⟩) Q E s := by
 unfold Builtin.«set_iterator.__next__»
 refine wpAny_bind (wpAny_of_eq (a := (Value.ref it, [])) rfl ?_)
 dsimp only
 unfold fieldsOf
 refine wpAny_bind (wpAny_bind (wpAny_load hit (wpAny_pure ?_)))
 show wpAny _ _ (setEntries S >>= _) _ _ s
 unfold setEntries
 refine wpAny_bind (wpAny_bind (wpAny_setState_of ho rfl hf (wpAny_pure ?_)))
 dsimp only
 rw [if_neg (by simp)]
 show wpAny _ _ (seqItems? (.ref T) >>= _) _ _ _
 refine wpAny_bind (wpAny_seqItems hT rfl ?_)
 dsimp only
 have e1 : ((ord.map fun (p : Nat) => rawInt (p : Int)).toArray)[((i : Nat) : Int).toNat]? = none := by
  rw [Int.toNat_natCast]; simp at hp ⊢; exact hp
 rw [e1]
 dsimp only
 refine wpAny_bind (wpAny_setField_rec hit (by simp) fun h1 e1 s1 => ?_)
 refine wpAny_bind (wpAny_setField_rec e1 (by simp) fun h2 e2 s2 => ?_)
 exact raise_stop hh fun h' e k ho => h h' e (fun b o hb eb => k b o (s2.extBut b o hb (s1.extBut b o hb eb))) ho
end
end
section
theorem pick_perm {α : Type} (next : Nat → Nat) : ∀ (fuel k : Nat) (left : List α) (out : Array α), left.length ≤ fuel → (pickOrder.go next fuel k left out).toList.Perm (out.toList ++ left)
 | 0, k, left, out, h => by
  have : left = [] := List.length_eq_zero_iff.mp (by lia)
  subst this; unfold pickOrder.go; simp
 | fuel + 1, k, left, out, h => by
  unfold pickOrder.go
  cases left with
  | nil => simp
  | cons a l =>
   have hj : next k % (a :: l).length < (a :: l).length := Nat.mod_lt _ (by simp)
   rw [List.getElem?_eq_getElem hj]
   dsimp only
   refine (pick_perm next fuel (k + 1) _ _ (by rw [List.length_eraseIdx_of_lt hj]; simp at h ⊢; lia)).trans ?_
   rw [Array.toList_push, List.append_assoc]
   exact List.Perm.append_left _ (cons_erase_perm _ _ hj)
theorem pickOrder_perm {α : Type} (next : Nat → Nat) (xs : Array α) : (pickOrder next xs).toList.Perm xs.toList := by
 unfold pickOrder
 simpa using pick_perm next xs.size 0 xs.toList #[] (by simp)
noncomputable def slotOf (place : Array Nat) : Nat → Nat
 | 0 => 0
 | i + 1 => place.toList.getD i 0 + 1
theorem slotOf_below {place : Array Nat} (h : Rise place.toList) {i : Nat} (hi : i ≤ place.toList.length) : SetTable.below place (slotOf place i) = i := by
 refine Below.uniq (below_is h _) ⟨hi, fun k hk hki => ?_, fun k hk hki => ?_⟩
 ·cases i with
  | zero => lia
  | succ i =>
   have hi' : i < place.toList.length := by lia
   show place.toList[k] < place.toList.getD i 0 + 1
   have hg : place.toList.getD i 0 = place.toList[i] := by rw [List.getD_eq_getElem?_getD, List.getElem?_eq_getElem hi']; rfl
   rw [hg]
   rcases Nat.lt_or_eq_of_le (Nat.lt_succ_iff.mp hki) with hh | hh
   ·have := h.lt hh hi'; lia
   ·subst hh; lia
 ·cases i with
  | zero => exact Nat.zero_le _
  | succ i =>
   have hi' : i < place.toList.length := by lia
   show place.toList.getD i 0 + 1 ≤ place.toList[k]
   have hg : place.toList.getD i 0 = place.toList[i] := by rw [List.getD_eq_getElem?_getD, List.getElem?_eq_getElem hi']; rfl
   rw [hg]
   have := h.lt (i := i) (k := k) (by lia) hk
   lia
section
variable {prog : Program} {w : World} {A : Around} {E : Value → Shared → Prop} {s : Shared} {ks : List Int} {es : Array (Int × Value)} {t : SetTable} {ep : Nat} {it S T : Addr} {i : Nat}
theorem setNext_text {slot : Nat} {Q : Option (Value × Nat) → Shared → Prop} (ho : s.heap.get? S = some (setObj es ep t)) (hf : t.fits es.size = true) (ht : w.params.followText "set-order" = true)
  (h : Q (((pickOrder (w.params.setOrder S ep) es)[i]?).map fun e => (e.2, slot)) s) : wpAny (model prog w) A (setNext S slot i ep) Q E s := by
 unfold setNext
 refine wpAny_bind (wpAny_setState_of ho rfl hf ?_)
 dsimp only
 unfold setsByText
 refine wpAny_bind (wpAny_bind (wpAny_askSetting (wpAny_pure ?_)))
 have ht' : (model prog w).w.params.followText "set-order" = true := ht
 simp only [ht', if_true, bne_self_eq_false, Bool.false_eq_true, if_false]
 refine wpAny_bind ?_
 unfold setWalk
 refine wpAny_bind (wpAny_setState_of ho rfl hf ?_)
 dsimp only
 unfold setsByText
 refine wpAny_bind (wpAny_bind (wpAny_askSetting (wpAny_pure ?_)))
 simp only [ht', if_true]
 refine wpAny_bind (wpAny_askSetting (wpAny_pure ?_))
 exact wpAny_pure h
set_option backward.match.sparseCases true in
theorem setNext_plain {slot : Nat} {Q : Option (Value × Nat) → Shared → Prop} (ho : s.heap.get? S = some (setObj es ep t)) (hf : t.fits es.size = true) (ht : w.params.followText "set-order" = false) (hd : (!t.plain && decide (es.size > 1)) = false) (hl : t.led = true)
  (h : Q (match es[SetTable.below t.place slot]?, t.place[SetTable.below t.place slot]? with | some (_, x), some j => some (x, j + 1) | _, _ => none) s) : wpAny (model prog w) A (setNext S slot i ep) Q E s := by
 unfold setNext
 refine wpAny_bind (wpAny_setState_of ho rfl hf ?_)
 dsimp only
 unfold setsByText
 refine wpAny_bind (wpAny_bind (wpAny_askSetting (wpAny_pure ?_)))
 have ht' : (model prog w).w.params.followText "set-order" = false := ht
 simp only [ht', Bool.false_eq_true, if_false]
 change wpAny _ _ (if (!t.plain && decide (es.size > 1)) = true then _ else _) _ _ _
 rw [if_neg (by rw [hd]; decide)]
 change wpAny _ _ ((if (!t.led && !es.isEmpty) = true then unsupported _ else pure ()) >>= _) _ _ _
 rw [if_neg (by rw [hl]; simp)]
 exact wpAny_bind (wpAny_pure (wpAny_pure h))
end
end
section
section
variable {prog : Program} {w : World} {A : Around} {E : Value → Shared → Prop} {s : Shared} {ks : List Int} {es : Array (Int × Value)} {t : SetTable} {ep : Nat} {it S T : Addr} {i : Nat}
theorem iter_set {Q : Value → Shared → Prop} (ho : s.heap.get? S = some (setObj es ep t)) (hf : t.fits es.size = true)
  (h1 : (w.params.followText "set-order" = true ∨ (!t.plain && decide (es.size > 1)) = false) → ∀ h', (∀ b o, s.heap.get? b = some o → h'.get? b = some o) → h'.get? s.heap.objs.size = some (itObj (rawInt 0) 0 (.ref S) es.size ep) → Q (.ref s.heap.objs.size) { s with heap := h' })
  (h2 : ∀ (ord : List Nat) (dr : Drawn) (h' : Heap), ord.Perm (List.range es.size) → (∀ b o, s.heap.get? b = some o → h'.get? b = some o) → h'.get? s.heap.objs.size = some (tupO (ord.map fun (p : Nat) => rawInt (p : Int))) → h'.get? (s.heap.objs.size + 1) = some (itObj (.ref s.heap.objs.size) 0 (.ref S) es.size ep) → Q (.ref (s.heap.objs.size + 1)) { s with heap := h', drawn := dr })
  (hsm : es.size ≤ sizeLine) : wpAny (model prog w) A (pyIter (.ref S)) Q E s := by
 have hT : s.TypeIs (.ref S) "set" := ⟨_, ho, rfl⟩
 refine wpAny_pyIter_slot hT F.slot_set_iter (wpAny_call_entry F.slot_set_iter hT entry_set_iter ?_ (F.args_set_iter_1 _))
 unfold Builtin.«frozenset.__iter__» Builtin.Frozenset.slot0 slotArgs
 simp only [List.isEmpty_nil, Bool.not_true, Bool.false_eq_true, ↓reduceIte, bind_assoc, List.length_nil, bne_self_eq_false]
 unfold Builtin.Frozenset.addrOf Builtin.Frozenset.sizeOf
 refine wpAny_bind (wpAny_pure ?_)
 try dsimp only
 refine wpAny_bind (wpAny_pure ?_)
 unfold setEntries
 refine wpAny_bind (wpAny_bind (wpAny_bind (wpAny_setState_of ho rfl hf (wpAny_pure (wpAny_pure ?_)))))
 unfold setDrawn setsByText
 refine wpAny_bind (wpAny_bind (wpAny_setState_of ho rfl hf ?_))
 dsimp only
 refine wpAny_bind (wpAny_bind (wpAny_askSetting (wpAny_pure ?_)))
 change wpAny _ _ (pure (!(w.params.followText "set-order") && (!t.plain && decide (es.size > 1)))) _ _ _
 refine wpAny_pure ?_
 cases hc : (!(w.params.followText "set-order") && (!t.plain && decide (es.size > 1))) with
 | false =>
  simp only [Bool.false_eq_true, if_false]
  refine wpAny_bind (wpAny_pure ?_)
  refine wpAny_bind (wpAny_setEpoch_of ho rfl hf ?_)
  refine wpAny_bind ?_
  simp only [newFields]
  refine wpAny_newObj_type ?_
  refine wpAny_pure ⟨_, rfl, "set_iterator", _, ⟨_, Heap.get?_push_size _ rfl, rfl⟩, slot_si_next.lookup, ?_⟩
  refine h1 ?_ _ (fun b o e => Heap.get?_push_of_some _ e) (Heap.get?_push_size _ rfl)
  cases hx : w.params.followText "set-order" with
  | true => exact .inl rfl
  | false => rw [hx] at hc; exact .inr (by simpa using hc)
 | true =>
  simp only [if_true]
  refine wpAny_bind (wpAny_drawAll es.size (List.range es.size) (by simp) fun ord dr hp => ?_)
  have hl : ord.length = es.size := by rw [hp.length_eq]; simp
  refine wpAny_bind (wpAny_newTuple (hsz := by simp; lia) ?_)
  have g0 : ∀ {o : Obj}, (s.heap.push o).objs.size = s.heap.objs.size + 1 := fun {o} => Heap.size_push ..
  have ho' : (s.heap.push (tupO (ord.map fun (p : Nat) => rawInt (p : Int)))).get? S = some (setObj es ep t) := Heap.get?_push_of_some _ ho
  refine wpAny_bind (wpAny_setEpoch_of (s := { s with heap := s.heap.push (tupO (ord.map fun (p : Nat) => rawInt (p : Int))), drawn := dr }) ho' rfl hf ?_)
  refine wpAny_bind ?_
  simp only [newFields]
  refine wpAny_newObj_type ?_
  have hg : ((s.heap.push (tupO (ord.map fun (p : Nat) => rawInt (p : Int)))).push (itObj (.ref s.heap.objs.size) 0 (.ref S) es.size ep)).get? (s.heap.objs.size + 1) = some (itObj (.ref s.heap.objs.size) 0 (.ref S) es.size ep) := by
   have := Heap.get?_push_size (s.heap.push (tupO (ord.map fun (p : Nat) => rawInt (p : Int)))) (o := itObj (.ref s.heap.objs.size) 0 (.ref S) es.size ep) rfl
   rwa [g0] at this
  have fin := h2 ord dr ((s.heap.push (tupO (ord.map fun (p : Nat) => rawInt (p : Int)))).push (itObj (.ref s.heap.objs.size) 0 (.ref S) es.size ep)) hp (fun b o e => Heap.get?_push_of_some _ (Heap.get?_push_of_some _ e)) (Heap.get?_push_of_some _ (Heap.get?_push_size _ rfl)) hg
  refine wpAny_pure ⟨_, rfl, "set_iterator", _, ⟨_, Heap.get?_push_size _ rfl, rfl⟩, slot_si_next.lookup, ?_⟩
  show Q (.ref (s.heap.push (tupO (ord.map fun (p : Nat) => rawInt (p : Int)))).objs.size) _
  rw [g0]
  exact fin
theorem slot_si_iter : Slot "set_iterator" "__iter__" "set_iterator.__iter__" :=
 .of (owner := "set_iterator") (n := "__iter__") (by rw [typeLookup_type, builtinLookup_eq_fast]; kernel_rfl) (by decide +kernel) (by decide +kernel) (by decide +kernel)
  (by first | exact .inl (by decide +kernel) | exact .inr (by decide +kernel)) (by rw [isSubtype_type]; kernel_rfl)
theorem entry_si_iter : entryFor table "set_iterator.__iter__" = some Builtin.«dict_keyiterator.__iter__» :=
 entryFor_alias (id' := "dict_keyiterator.__iter__") (by kernel_rfl) (by first | rfl | decide +kernel | (unfold String.splitOn; simp +decide [String.splitOnAux])) (by decide +kernel) (by kernel_rfl)
theorem args_si_iter (a : Value) : argsOk "set_iterator.__iter__" ⟨[a], []⟩ := by
 unfold argsOk; rw [signature?_of (id := "set_iterator.__iter__") (n := ['_', '_', 'r', 'e', 't', 'i', '_', '_']) (o := ['r', 'o', 't', 'a', 'r', 'e', 't', 'i', '_', 't', 'e', 's']) (by kernel_rfl) owner_si]; kernel_rfl
theorem self_si {first : Value} {j sz e : Int} {sv : Value} {Q : Value → Shared → Prop} (hit : s.heap.get? it = some (itObj first j sv sz e)) (h : Q (.ref it) s) : wpAny (model prog w) A (pyIter (.ref it)) Q E s := by
 have hT : s.TypeIs (.ref it) "set_iterator" := ⟨_, hit, rfl⟩
 refine wpAny_pyIter_slot hT slot_si_iter (wpAny_call_entry slot_si_iter hT entry_si_iter ?_ (args_si_iter _))
 show wpAny _ _ (ret (.ref it)) _ _ s
 exact wpAny_pure ⟨_, rfl, "set_iterator", _, hT, slot_si_next.lookup, h⟩
theorem next_item {x : Value} {G : Shared → Prop} {Q : Option Value → Shared → Prop} (hT : s.TypeIs (.ref it) "set_iterator") (h : ∀ {R : Fin → Shared → Prop} {E' : Value → Shared → Prop}, (∀ s', G s' → R (.done (.ret x)) s') → wpAny (model prog w) A.in1 (Builtin.«set_iterator.__next__» ⟨[.ref it], []⟩) R E' s)
  (hQ : ∀ s', G s' → Q (some x) s') : wpAny (model prog w) A (pyNext (.ref it)) Q E s := by
 unfold pyNext
 exact wpAny_bind (wpAny_attempt (wpAny_callSpecial?_slot (name := Str.ofString "__next__") hT slot_si_next
  (wpAny_call_entry slot_si_next hT entry_si_next (h fun s' g => ⟨x, rfl, wpAny_pure (hQ s' g)⟩) (args_si_next _))))
theorem next_end {G : Shared → Prop} {Q : Option Value → Shared → Prop} (hT : s.TypeIs (.ref it) "set_iterator") (h : ∀ {R : Fin → Shared → Prop} {E' : Value → Shared → Prop}, (∀ s' e, G s' → (∃ o, s'.heap.get? e = some o ∧ o.cls = .type "StopIteration") → E' (.ref e) s') → wpAny (model prog w) A.in1 (Builtin.«set_iterator.__next__» ⟨[.ref it], []⟩) R E' s)
  (hQ : ∀ s', G s' → Q none s') : wpAny (model prog w) A (pyNext (.ref it)) Q E s := by
 unfold pyNext
 refine wpAny_bind (wpAny_attempt (wpAny_callSpecial?_slot (name := Str.ofString "__next__") hT slot_si_next
  (wpAny_call_entry slot_si_next hT entry_si_next (h fun s' e g he => ?_) (args_si_next _))))
 obtain ⟨o, ho, hc⟩ := he
 refine wpAny_bind (wpAny_isInstance (T := "StopIteration") (b := true) ⟨o, ho, hc⟩ isSubtype_stop ?_)
 exact wpAny_pure (hQ _ g)
theorem walks_slot {slot : Nat → Nat} {l : List (Int × Value)} (hh : A.handled = none) (hne : it ≠ S) (hf : t.fits es.size = true)
  (hn : ∀ i {s : Shared} {x : Value} {A : Around} {E : Value → Shared → Prop} {hs : Int}, s.heap.get? S = some (setObj es ep t) → l[i]? = some (hs, x) → ∀ {Q' : Option (Value × Nat) → Shared → Prop}, Q' (some (x, slot (i + 1))) s → wpAny (model prog w) A (setNext S (slot i) i ep) Q' E s)
  (hd : ∀ {s : Shared} {A : Around} {E : Value → Shared → Prop}, s.heap.get? S = some (setObj es ep t) → ∀ {Q' : Option (Value × Nat) → Shared → Prop}, Q' none s → wpAny (model prog w) A (setNext S (slot l.length) l.length ep) Q' E s) :
  WalksS prog w A it [it, S] [it] (fun a b => b = a) l.length (fun i v => ∃ hs, l[i]? = some (hs, v)) (fun i s => s.heap.get? it = some (itObj (rawInt (slot i)) i (.ref S) es.size ep) ∧ s.heap.get? S = some (setObj es ep t)) where
 sub := fun b hb => by simp at hb; simp [hb]
 grefl := fun _ => rfl
 gtrans := fun _ _ _ h1 h2 => h2.trans h1
 frame := fun i s h' tk ⟨a, b⟩ _ hk => ⟨hk it (by simp) _ a, hk S (by simp) _ b⟩
 item := fun i s Q E hi ⟨a, b⟩ hQ => by
  have he : l[i]? = some (l[i].1, l[i].2) := List.getElem?_eq_getElem hi
  refine next_item (x := l[i].2) (G := fun s' => ∃ h', s' = { s with heap := h' } ∧ h'.get? it = some (itObj (rawInt (slot (i + 1))) ((i : Int) + 1) (.ref S) es.size ep) ∧ Heap.SameBut it s.heap h') ⟨_, a, rfl⟩ (fun {R E'} hR => ?_) fun s' ⟨h', e, g1, g2⟩ => ?_
  ·exact si_item a b hf (fun q => hn i b he q) fun h' g1 g2 => hR _ ⟨h', rfl, g1, g2⟩
  ·subst e
   refine hQ _ _ ⟨_, he⟩ ⟨by simpa using g1, g2.extBut _ _ (Ne.symm hne) b⟩ ⟨fun c o hc e => g2.extBut c o (by simpa using hc) e, rfl, rfl, rfl, Nat.le_refl _⟩
 done := fun s Q E ⟨a, b⟩ hQ => by
  refine next_end (G := fun s' => ∃ h', s' = { s with heap := h' } ∧ ∀ c o, c ≠ it → s.heap.get? c = some o → h'.get? c = some o) ⟨_, a, rfl⟩ (fun {R E'} hR => ?_) fun s' ⟨h', e, g⟩ => ?_
  ·exact si_end (A := A.in1) hh a b hf (fun q => hd b q) fun h' e k he => hR _ e ⟨h', rfl, k⟩ he
  ·subst e
   exact hQ _ ⟨fun c o hc e => g c o (by simpa using hc) e, rfl, rfl, rfl, Nat.le_refl _⟩
 self := fun i s Q E ⟨a, b⟩ hq => self_si a hq
theorem walks_drawn {ord : List Nat} (hh : A.handled = none) (hne : it ≠ S) (hneT : it ≠ T) (hf : t.fits es.size = true) (hp : ord.Perm (List.range es.size)) :
  WalksS prog w A it [it, S, T] [it] (fun a b => b = a) ord.length (fun i v => ∃ pl hs, ord[i]? = some pl ∧ es[pl]? = some (hs, v)) (fun i s => s.heap.get? it = some (itObj (.ref T) i (.ref S) es.size ep) ∧ s.heap.get? S = some (setObj es ep t) ∧ s.heap.get? T = some (tupO (ord.map fun (p : Nat) => rawInt (p : Int)))) where
 sub := fun b hb => by simp at hb; simp [hb]
 grefl := fun _ => rfl
 gtrans := fun _ _ _ h1 h2 => h2.trans h1
 frame := fun i s h' tk ⟨a, b, c⟩ _ hk => ⟨hk it (by simp) _ a, hk S (by simp) _ b, hk T (by simp) _ c⟩
 item := fun i s Q E hi ⟨a, b, c⟩ hQ => by
  have he : ord[i]? = some ord[i] := List.getElem?_eq_getElem hi
  have hm : ord[i] < es.size := List.mem_range.mp (hp.mem_iff.mp (List.getElem_mem hi))
  have hx : es[ord[i]]? = some (es[ord[i]].1, es[ord[i]].2) := Array.getElem?_eq_getElem hm
  refine next_item (x := es[ord[i]].2) (G := fun s' => ∃ h', s' = { s with heap := h' } ∧ h'.get? it = some (itObj (.ref T) ((i : Int) + 1) (.ref S) es.size ep) ∧ Heap.SameBut it s.heap h') ⟨_, a, rfl⟩ (fun {R E'} hR => ?_) fun s' ⟨h', e, g1, g2⟩ => ?_
  ·exact si_itemD a b hf c he ⟨_, hx⟩ fun h' g1 g2 => hR _ ⟨h', rfl, g1, g2⟩
  ·subst e
   refine hQ _ _ ⟨_, _, he, hx⟩ ⟨by simpa using g1, g2.extBut _ _ (Ne.symm hne) b, g2.extBut _ _ (Ne.symm hneT) c⟩ ⟨fun c o hc e => g2.extBut c o (by simpa using hc) e, rfl, rfl, rfl, Nat.le_refl _⟩
 done := fun s Q E ⟨a, b, c⟩ hQ => by
  refine next_end (G := fun s' => ∃ h', s' = { s with heap := h' } ∧ ∀ c o, c ≠ it → s.heap.get? c = some o → h'.get? c = some o) ⟨_, a, rfl⟩ (fun {R E'} hR => ?_) fun s' ⟨h', e, g⟩ => ?_
  ·exact si_endD (A := A.in1) hh a b hf c (List.getElem?_eq_none (Nat.le_refl _)) fun h' e k he => hR _ e ⟨h', rfl, k⟩ he
  ·subst e
   exact hQ _ ⟨fun c o hc e => g c o (by simpa using hc) e, rfl, rfl, rfl, Nat.le_refl _⟩
 self := fun i s Q E ⟨a, b, c⟩ hq => self_si a hq
end
end
section
section
variable {prog : Program} {w : World} {A : Around} {E : Value → Shared → Prop} {s : Shared} {ks : List Int} {es : Array (Int × Value)} {t : SetTable} {ep : Nat} {it S T : Addr} {i : Nat}
noncomputable def IterOk (prog : Program) (w : World) (S : Addr) (es : Array (Int × Value)) (s : Shared) (itv : Value) (s' : Shared) : Prop :=
 ∃ (it : Addr) (fp : List Addr) (n : Nat) (P : Nat → Value → Prop) (St : Nat → Shared → Prop), itv = .ref it ∧ (∀ A : Around, A.handled = none → WalksS prog w A it fp [it] (fun a b => b = a) n P St) ∧ St 0 s' ∧ n = es.size ∧
  (∀ acc, ItemsOf P acc n → acc.toList.Perm (es.toList.map (·.2))) ∧ (∀ b ∈ fp, b = S ∨ s.heap.objs.size ≤ b) ∧ s.heap.objs.size ≤ it ∧ it ∈ fp ∧ (∀ b o, s.heap.get? b = some o → s'.heap.get? b = some o) ∧ s'.gens = s.gens ∧ s'.os = s.os
theorem items_eq_map {P : Nat → Value → Prop} {acc : Array Value} {l : List Value} (h : ItemsOf P acc l.length) (hP : ∀ i v, P i v → l[i]? = some v) : acc.toList = l := by
 obtain ⟨h1, h2⟩ := h
 apply List.ext_getElem?
 intro j
 rcases Nat.lt_or_ge j l.length with hj | hj
 ·have hj' : j < acc.size := by lia
  have e : acc[j]? = some acc[j] := Array.getElem?_eq_getElem hj'
  rw [hP j _ (h2 j _ e), Array.getElem?_toList, e]
 ·rw [List.getElem?_eq_none (by simpa [h1] using hj), List.getElem?_eq_none hj]
theorem iter_set2 {Q : Value → Shared → Prop} (ho : s.heap.get? S = some (setObj es ep t)) (X : SX prog w (LED w) ks es t) (h : ∀ itv s', IterOk prog w S es s itv s' → Q itv s') : wpAny (model prog w) A (pyIter (.ref S)) Q E s := by
 have hf := X.fits
 have hlt : S < s.heap.objs.size := Heap.lt_size ho
 have hps : t.place.toList.length = es.size := by
  have := hf; simp only [SetTable.fits, Bool.and_eq_true, beq_iff_eq] at this; simpa using this.1
 refine iter_set ho hf (fun hc h' k g => h _ _ ?_) (fun ord dr h' hp k gT g => h _ _ ?_) (fits_of_scanBound X.small)
 ·cases ht : w.params.followText "set-order" with
  | true =>
   have hperm := pickOrder_perm (w.params.setOrder S ep) es
   have hlen : (pickOrder (w.params.setOrder S ep) es).toList.length = es.size := by rw [hperm.length_eq]; simp
   refine ⟨_, _, _, _, _, rfl, fun A hA => walks_slot (slot := fun _ => 0) (l := (pickOrder (w.params.setOrder S ep) es).toList) (ep := ep) hA (Nat.ne_of_gt hlt) hf (fun i {s x A E hs} ho' he {Q'} q => ?_) (fun {s A E} ho' {Q'} q => ?_), ⟨g, k _ _ ho⟩, hlen, fun acc hacc => ?_, fun b hb => ?_, Nat.le_refl _, by simp, k, rfl, rfl⟩
   ·refine setNext_text ho' hf ht ?_
    rw [← Array.getElem?_toList, he]; exact q
   ·refine setNext_text ho' hf ht ?_
    rw [← Array.getElem?_toList, List.getElem?_eq_none (Nat.le_refl _)]; exact q
   ·have e : acc.toList = (pickOrder (w.params.setOrder S ep) es).toList.map (·.2) := items_eq_map (P := fun i v => ∃ hs, ((pickOrder (w.params.setOrder S ep) es).toList)[i]? = some (hs, v)) (by simpa using hacc) fun i v hh => by obtain ⟨hs, e⟩ := hh; rw [List.getElem?_map, e]; rfl
    rw [e]; exact hperm.map _
   ·simp at hb; rcases hb with rfl | rfl
    ·exact .inr (Nat.le_refl _)
    ·exact .inl rfl
  | false =>
   have hd : (!t.plain && decide (es.size > 1)) = false := by
    rcases hc with hc | hc
    ·rw [ht] at hc; cases hc
    ·exact hc
   have hl : t.led = true := by rw [X.tok.led]; unfold LED; rw [ht]; rfl
   refine ⟨_, _, _, _, _, rfl, fun A hA => walks_slot (slot := slotOf t.place) (l := es.toList) (ep := ep) hA (Nat.ne_of_gt hlt) hf (fun i {s x A E hs} ho' he {Q'} q => ?_) (fun {s A E} ho' {Q'} q => ?_), ⟨g, k _ _ ho⟩, by simp, fun acc hacc => ?_, fun b hb => ?_, Nat.le_refl _, by simp, k, rfl, rfl⟩
   ·have hi : i < es.toList.length := (List.getElem?_eq_some_iff.mp he).1
    have hi' : i < t.place.toList.length := by rw [hps]; simpa using hi
    refine setNext_plain ho' hf ht hd hl ?_
    rw [slotOf_below X.tok.rise (Nat.le_of_lt hi')]
    have e1 : es[i]? = some (hs, x) := by rw [← Array.getElem?_toList]; exact he
    have e2 : t.place[i]? = some (t.place.toList[i]) := by rw [← Array.getElem?_toList]; exact List.getElem?_eq_getElem hi'
    rw [e1, e2]
    have e3 : slotOf t.place (i + 1) = t.place.toList[i] + 1 := by
     show t.place.toList.getD i 0 + 1 = _
     rw [List.getD_eq_getElem?_getD, List.getElem?_eq_getElem hi']; rfl
    rw [e3] at q; exact q
   ·refine setNext_plain ho' hf ht hd hl ?_
    rw [slotOf_below X.tok.rise (by rw [hps]; simp)]
    rw [show es[es.toList.length]? = none from by simp]
    exact q
   ·have e : acc.toList = es.toList.map (·.2) := items_eq_map (P := fun i v => ∃ hs, (es.toList)[i]? = some (hs, v)) (by simpa using hacc) fun i v hh => by obtain ⟨hs, e⟩ := hh; rw [List.getElem?_map, e]; rfl
    rw [e]
   ·simp at hb; rcases hb with rfl | rfl
    ·exact .inr (Nat.le_refl _)
    ·exact .inl rfl
 ·have hol : ord.length = es.size := by rw [hp.length_eq]; simp
  refine ⟨_, _, _, _, _, rfl, fun A hA => walks_drawn (T := s.heap.objs.size) (ord := ord) (ep := ep) hA (Nat.ne_of_gt (Nat.lt_succ_of_lt hlt)) (Nat.succ_ne_self _) hf hp, ⟨g, k _ _ ho, gT⟩, hol, fun acc hacc => ?_, fun b hb => ?_, Nat.le_succ _, by simp, k, rfl, rfl⟩
  ·have e : acc.toList = ord.map fun pl => (es.toList.map (·.2)).getD pl .none := items_eq_map (P := fun i v => ∃ pl hs, ord[i]? = some pl ∧ es[pl]? = some (hs, v)) (by simpa using hacc) fun i v hh => by
    obtain ⟨pl, hs, e1, e2⟩ := hh
    rw [List.getElem?_map, e1]
    simp only [Option.map_some]
    rw [List.getD_eq_getElem?_getD, List.getElem?_map, Array.getElem?_toList, e2]; rfl
   rw [e]
   refine (hp.map _).trans ?_
   have e2 : (List.range es.size).map (fun pl => (es.toList.map (·.2)).getD pl .none) = es.toList.map (·.2) := by
    apply List.ext_getElem?
    intro j
    rcases Nat.lt_or_ge j es.size with hj | hj
    ·rw [List.getElem?_map, List.getElem?_range hj]
     simp only [Option.map_some]
     rw [List.getD_eq_getElem?_getD, List.getElem?_eq_getElem (by simpa using hj)]; rfl
    ·rw [List.getElem?_eq_none (by simpa using hj), List.getElem?_eq_none (by simpa using hj)]
   rw [e2]
  ·simp at hb; rcases hb with rfl | rfl | rfl
   ·exact .inr (Nat.le_succ _)
   ·exact .inl rfl
   ·exact .inr (Nat.le_refl _)
end
end
section
section
variable {prog : Program} {w : World} {A : Around} {E : Value → Shared → Prop} {s : Shared} {ks : List Int} {es : Array (Int × Value)} {t : SetTable} {ep : Nat} {it S T : Addr} {i : Nat}
theorem set_hint {r : Addr} {Q : Bool → Shared → Prop} (hT : s.TypeIs (.ref r) "set") (h : Q false s) : wpAny (model prog w) A (Builtin.List.listLengthHint (.ref r)) Q E s := by
 unfold Builtin.List.listLengthHint
 refine wpAny_bind (wpAny_specialOf hT F.slot_set_len.lookup ?_)
 generalize hid : ("set.__len__" : String) = id0
 wp_delta
 rw [show splitId id0 = some ("set", "__len__") from by subst hid; decide +kernel]
 subst hid
 refine wpAny_bind (wpAny_isInstance (T := "set") (b := true) hT (by rw [isSubtype_type]; kernel_rfl) ?_)
 refine wpAny_ite_split (fun hab => absurd hab (by decide)) (fun _ => ?_)
 refine wpAny_ite_split (fun _ => ?_) (fun hab => absurd (by decide +kernel) hab)
 refine wpAny_bind (wpAny_typeOf hT ?_)
 exact wpAny_pure h
theorem set_extend {R : Result → Shared → Prop} (hh : A.handled = none) (ho : s.heap.get? S = some (setObj es ep t)) (X : SX prog w (LED w) ks es t) (hs : es.size ≤ 1000) (L : Addr) (hLS : L ≠ S) (res : Value) {c₀ : Nat} (hL : s.heap.get? L = some (lO #[] c₀))
  (hR : ∀ s' acc c', (∀ b o, b ≠ L → s.heap.get? b = some o → s'.heap.get? b = some o) → s'.gens = s.gens → s'.os = s.os → s'.heap.get? L = some (lO acc c') → acc.toList.Perm (es.toList.map (·.2)) → R (.ok (.ret res)) s') :
  wpAny (model prog w) A.in1 (Builtin.List.listExtendWith (.ref L) (.ref S) res)
   (fun fin s' => match fin with | .done f => R (.ok f) s' | .again c' => c'.quiet = true ∧ codeAny (model prog w) A c' R s') (fun e s' => R (.error e) s') s := by
 unfold Builtin.List.listExtendWith
 refine wpAny_bind (wpAny_typeOf (T := "set") ⟨_, ho, rfl⟩ ?_)
 have e1 : Builtin.List.listSameRef (.ref L) (.ref S) = false := by simp [Builtin.List.listSameRef, hLS]
 have e2 : (Value.type "set" == Value.type "list") = false := by decide
 have e3 : (Value.type "set" == Value.type "tuple") = false := by decide
 simp only [e1, e2, e3, Bool.or_false, Bool.false_eq_true, if_false]
 refine wpAny_bind (iter_set2 ho X fun itv s2 hit => ?_)
 obtain ⟨it, fp, n, P, St, rfl, W, hst, rfl, hacc, hfp, hit0, hitf, k2, g2, o2⟩ := hit
 have hLlt := Heap.lt_size hL
 have hL2 := k2 _ _ hL
 have hLf : L ∉ fp := fun hm => by
  rcases hfp _ hm with e | e
  ·exact hLS e
  ·exact absurd hLlt (Nat.not_lt.mpr e)
 have key : ∀ (h : Heap) (c₁ : Nat), St 0 { s2 with heap := h } → (∀ b o, b ≠ L → s2.heap.get? b = some o → h.get? b = some o) → h.get? L = some (lO #[] c₁) →
   codeAny (model prog w) A (.builtin "list.extend.loop" ⟨[.ref L, .ref it, res], []⟩) R { s2 with heap := h } := by
  intro h c₁ hs0 hk hL1
  refine codeAny_extend_loopS (W A.in1 hh) (Nat.le_trans hs (by decide)) L hLf res es.size 0 _ #[] c₁ rfl (Nat.zero_le _) hs0 hL1 (ItemsOf.nil _) fun s' acc c' hm hL' hac => ?_
  refine hR s' acc c' (fun b o hb e => hm.heap b o (fun hmem => ?_) (hk b o hb (k2 b o e))) (hm.gens.trans g2) (hm.os.trans o2) hL' (hacc _ hac)
  rcases List.mem_cons.mp hmem with e' | hmem
  ·exact hb e'
  ·exact absurd (Heap.lt_size e) (Nat.not_lt.mpr (by rw [List.mem_singleton.mp hmem]; exact hit0))
 refine wpAny_bind (wpAny_holding (set_hint ⟨_, k2 _ _ ho, rfl⟩ ?_))
 refine wpAny_ite_split (fun _ => ?_) (fun _ => wpAny_pure ⟨plainId_quiet F.plain_extend_loop _, key _ _ hst (fun b o _ e => e) hL2⟩)
 refine wpAny_bind (wpAny_rule ?_)
 refine wpAny_bind ?_
 show wpAny _ _ (updateSeq L (·.push .none) >>= fun _ => updateSeq L (·.pop)) _ _ _
 refine wpAny_bind (wpAny_updateSeq hL2 rfl ?_)
 have hL3 := Heap.get?_update_self (Obj.mapSeq (·.push Value.none)) hL2 rfl
 refine wpAny_updateSeq (hz := by seq_fits) hL3 rfl ?_
 have hL4 := Heap.get?_update_self (Obj.mapSeq (·.pop)) hL3 rfl
 refine wpAny_pure ⟨plainId_quiet F.plain_extend_loop _, key _ _ ?_ (fun b o hb e => ?_) hL4⟩
 ·refine (W A.in1 hh).frame 0 s2 _ s2.toks hst (Nat.le_refl _) fun b hb o e => ?_
  have hbL : b ≠ L := fun h => hLf (h ▸ hb)
  exact (Heap.get?_update_other _ _ (Ne.symm hbL)).trans ((Heap.get?_update_other _ _ (Ne.symm hbL)).trans e)
 ·exact (Heap.get?_update_other _ _ (Ne.symm hb)).trans ((Heap.get?_update_other _ _ (Ne.symm hb)).trans e)
set_option backward.match.sparseCases true in
theorem collect_set {Q : List Value → Shared → Prop} (hh : A.handled = none) (ho : s.heap.get? S = some (setObj es ep t)) (X : SX prog w (LED w) ks es t) (hs : es.size ≤ 1000)
  (h : ∀ l s', l.Perm (es.toList.map (·.2)) → (∀ b o, s.heap.get? b = some o → s'.heap.get? b = some o) → s'.gens = s.gens → s'.os = s.os → Q l s') : wpAny (model prog w) A (collect (.ref S)) Q E s := by
 have hSL := Heap.lt_size ho
 unfold collect
 refine wpAny_bind (wpAny_runValue (codeAny_builtin F.entry_proto_collect ?_))
 rw [Around.under_plainId F.plain_proto_collect _]
 show wpAny _ A.in1 (newList [] >>= fun l => again (.builtin "list.__iadd__" ⟨[l, .ref S], []⟩)) _ _ s
 refine wpAny_bind (wpAny_newObj_type ?_)
 refine wpAny_pure ⟨plainId_quiet F.plain_list_iadd _, codeAny_builtin F.entry_list_iadd ?_⟩
 rw [Around.under_plainId F.plain_list_iadd _]
 have up1 : ∀ (o' : Obj) b o, s.heap.get? b = some o → (s.heap.push o').get? b = some o := fun o' b o e => Heap.get?_push_of_some _ e
 show wpAny _ A.in1 (Builtin.List.listExtendWith (.ref s.heap.objs.size) (.ref S) (.ref s.heap.objs.size)) _ _ { s with heap := s.heap.push (lO #[] 0) }
 refine set_extend (s := { s with heap := s.heap.push (lO #[] 0) }) (R := fun r s' => match r with
  | .ok (.ret v) => wpAny (model prog w) A (match v with
   | .ref a => do match (← load a).data with
    | .seq xs _ => pure xs.toList
    | _ => unsupported "internal:collect"
   | _ => unsupported "internal:collect") Q E s'
  | .ok _ => False
  | .error e => E e s') hh (up1 _ _ _ ho) X hs _ (Nat.ne_of_gt hSL) _ (Heap.get?_push_size _ rfl) fun s' acc c' k g o hL' p => ?_
 show wpAny _ A (load s.heap.objs.size >>= _) _ _ s'
 refine wpAny_bind (wpAny_load hL' ?_)
 exact wpAny_pure (h acc.toList s' p (fun b o e => k b o (Nat.ne_of_lt (Heap.lt_size e)) (up1 _ _ _ e)) g o)
end
end
section
theorem intsAre_keys : ∀ {l : List Value}, (∀ v ∈ l, ∃ k t, v = .int k t) → IntsAre l (l.map keyOf)
 | [], _ => .nil
 | v :: l, h => by
  obtain ⟨k, t, rfl⟩ := h v List.mem_cons_self
  exact .cons k t (intsAre_keys fun v hv => h v (List.mem_cons_of_mem _ hv))
section
variable {prog : Program} {w : World} {A : Around} {E : Value → Shared → Prop} {s : Shared} {ks : List Int} {es : Array (Int × Value)} {t : SetTable} {ep : Nat} {S : Addr}
theorem sorted_set {Q : Value → Shared → Prop} (hh : A.handled = none) (ho : s.heap.get? S = some (setObj es ep t)) (X : SX prog w (LED w) ks es t) (hs : es.size < 64)
  (h : ∀ s' b (out : Array Value) ns' n, s'.heap.get? b = some (seqObj "list" out n) → s.heap.get? b = none → IntsAre out.toList ns' → ns'.Perm ks → ns'.Pairwise (· ≤ ·) →
   (∀ b o, s.heap.get? b = some o → s'.heap.get? b = some o) → s'.gens = s.gens → s'.os = s.os → Q (.ref b) s') :
  wpAny (model prog w) A (call (.builtin "sorted") [.ref S]) Q E s := by
 refine Calls.call_function_entry kind_sorted plain_sorted entry_sorted (args_sorted1 _) ?_
 unfold Builtin.«sorted»
 refine wpAny_bind (m := checkCount "sorted" 1 1 _) (wpAny_pure ?_)
 refine wpAny_bind (collect_set hh ho X (by lia) fun l s₁ hp k1 g1 o1 => ?_)
 have hI : IntsAre l (l.map keyOf) := intsAre_keys fun v hv => by
  obtain ⟨e, he, rfl⟩ := List.mem_map.mp (hp.mem_iff.mp hv)
  obtain ⟨⟨k, h1, _⟩, _⟩ := X.el e he
  obtain ⟨tk, h2⟩ := Value.isInt_shape h1
  exact ⟨_, _, h2⟩
 have hP : (l.map keyOf).Perm ks := (hp.map keyOf).trans (by rw [List.map_map]; exact X.perm)
 have h64 : l.length < 64 := by rw [hp.length_eq]; simpa using hs
 refine wpAny_bind (wpAny_newList (hsz := by rw [sizeLine_eq]; lia) ?_)
 have hoL : (s₁.heap.push (seqObj "list" l.toArray 0)).get? s₁.heap.objs.size = some (seqObj "list" l.toArray 0) := Heap.get?_push_size _ rfl
 show wpAny _ _ _ _ _ { s₁ with heap := s₁.heap.push (seqObj "list" l.toArray 0) }
 refine wpAny_bind (wpAny_holding (wpAny_call_entry slot_list_sort ⟨_, hoL, rfl⟩ entry_list_sort (list_sort_tree hoL hI h64 fun out ns' a1 a2 a3 => ⟨_, rfl, ?_⟩) (args_list_sort _)))
 obtain ⟨e, he⟩ := sortedHeap_at (out := out) hoL
 have hle : s.heap.get? s₁.heap.objs.size = none := by
  cases hc : s.heap.get? s₁.heap.objs.size with
  | none => rfl
  | some o => exact absurd (Heap.lt_size (k1 _ _ hc)) (Nat.lt_irrefl _)
 refine wpAny_pure ⟨_, rfl, h _ _ out ns' e he hle a1 (a2.trans hP) a3 (fun b o hb => ?_) g1 o1⟩
 have hb1 := k1 b o hb
 rw [sortedHeap_old (Nat.ne_of_lt (Heap.lt_size hb1)) (by rw [size_push']; exact Nat.lt_succ_of_lt (Heap.lt_size hb1)), Heap.get?_push_ne _ _ _ (Nat.ne_of_lt (Heap.lt_size hb1))]
 exact hb1
end
noncomputable def insI (i : Int) : List Int → List Int
 | [] => [i]
 | j :: l => if i < j then i :: j :: l else if i = j then j :: l else j :: insI i l
noncomputable def sortSet (l : List Int) : List Int := l.foldr insI []
theorem mem_insI {i x : Int} : ∀ {l : List Int}, x ∈ insI i l ↔ x = i ∨ x ∈ l
 | [] => by simp [insI]
 | j :: l => by
  unfold insI
  split
  ·simp
  ·split
   ·rename_i h; subst h; simp
   ·simp [mem_insI (l := l)]; grind
theorem insI_lt {i : Int} : ∀ {l : List Int}, l.Pairwise (· < ·) → (insI i l).Pairwise (· < ·)
 | [], _ => by simp [insI]
 | j :: l, h => by
  unfold insI
  obtain ⟨h1, h2⟩ := List.pairwise_cons.mp h
  split
  ·rename_i hij
   refine List.pairwise_cons.mpr ⟨fun x hx => ?_, h⟩
   rcases List.mem_cons.mp hx with rfl | hx
   ·exact hij
   ·exact Int.lt_trans hij (h1 x hx)
  ·split
   ·exact h
   ·refine List.pairwise_cons.mpr ⟨fun x hx => ?_, insI_lt h2⟩
    rcases mem_insI.mp hx with rfl | hx
    ·lia
    ·exact h1 x hx
theorem sortSet_lt (l : List Int) : (sortSet l).Pairwise (· < ·) := by
 induction l with
 | nil => simp [sortSet]
 | cons x l ih => exact insI_lt ih
theorem mem_sortSet {x : Int} (l : List Int) : x ∈ sortSet l ↔ x ∈ l := by
 induction l with
 | nil => simp [sortSet]
 | cons y l ih => simp only [sortSet, List.foldr_cons] at ih ⊢; rw [mem_insI, ih]; simp
theorem mem_foldAdd {x : Int} : ∀ (l acc : List Int), x ∈ l.foldl addP acc ↔ x ∈ acc ∨ x ∈ l
 | [], acc => by simp
 | y :: l, acc => by
  rw [List.foldl_cons, mem_foldAdd l]
  unfold addP
  split <;> grind
theorem nodup_foldAdd : ∀ (l acc : List Int), acc.Nodup → (l.foldl addP acc).Nodup
 | [], acc, h => h
 | y :: l, acc, h => by
  rw [List.foldl_cons]
  refine nodup_foldAdd l _ ?_
  unfold addP
  split
  ·exact h
  ·rename_i hy
   rw [List.nodup_append]
   refine ⟨h, by simp, ?_⟩
   intro a ha b hb e
   simp at hb
   subst hb; subst e; exact hy ha
theorem accP_of (ns : List Int) : accP (fun i => ns.getD i 0) ns.length = ns.foldl addP [] := by
 unfold accP
 congr 1
 refine List.ext_getElem (by simp) fun i h1 h2 => ?_
 simp at h1
 simp [h1]
theorem sorted_is {ns ns' : List Int} (hp : ns'.Perm (accP (fun i => ns.getD i 0) ns.length)) (hs : ns'.Pairwise (· ≤ ·)) : ns' = sortSet ns := by
 rw [accP_of] at hp
 have h1 : (sortSet ns).Nodup := (sortSet_lt ns).imp fun h => Int.ne_of_lt h
 have h2 : (ns.foldl addP []).Nodup := nodup_foldAdd _ _ List.nodup_nil
 have h3 : (ns.foldl addP []).Perm (sortSet ns) := (List.perm_ext_iff_of_nodup h2 h1).mpr fun x => by rw [mem_foldAdd, mem_sortSet]; simp
 exact (hp.trans h3).eq_of_pairwise (fun a b _ _ h1 h2 => Int.le_antisymm h1 h2) hs ((sortSet_lt ns).imp Int.le_of_lt)
end
section
noncomputable def sortSetM (b : ME (List V)) : ME V := fun d ρ σ Q => b d ρ σ fun xs σ => match xs with
 | [.fl l] => ∃ is, V.ints l = some is ∧ l.length < 64 ∧ Q (.fl ((sortSet is).map V.int)) σ
 | _ => False
theorem VRs_ofInts {h : Heap} {S : Nat → Prop} {μ : Nat → Nat} {n : Nat} : ∀ {vs : List Value} {ns : List Int}, IntsAre vs ns → VRs h S μ n vs (ns.map V.int)
 | _, _, .nil => .nil
 | _, _, .cons n t k => .cons (.int n t) (VRs_ofInts k)
theorem VRs.intsAre {h : Heap} {S : Nat → Prop} {μ : Nat → Nat} {n : Nat} : ∀ {l : List V} {vs : List Value} {is : List Int}, VRs h S μ n vs l → V.ints l = some is → IntsAre vs is
 | [], _, _, t, e => by cases t; cases e; exact .nil
 | x :: l, _, is, t, e => by
  cases t with | cons a b =>
  cases x <;> simp only [V.ints, Option.map_eq_some_iff, reduceCtorEq] at e
  obtain ⟨is', e1, rfl⟩ := e
  cases a
  exact .cons _ _ (b.intsAre e1)
theorem sim_SortSet {c : Ctx} {Γ : Gm} {args : List Expr} {p q pos pos' : Pos} {b : ME (List V)} (ok : c.Ok) (hf : c.mg "set" = none ∧ c.mb "set" = some (.type "set")) (hg : c.mg "sorted" = none ∧ c.mb "sorted" = some (.builtin "sorted")) (hb : SimEs c Γ args b) (hx : Γ.lookup "set" = some none)
  (hy : Γ.lookup "sorted" = some none) (hp : ∀ env, (backTo pos (starEach args env)).any (·.1) = false) : SimE c Γ (.Call (.Name "sorted" q) [.Call (.Name "set" p) args [] pos] [] pos') (sortSetM b) := by
 intro A d X bs env F ρ σ μ s Q hA R E h
 refine wpAny_Call_NameR (wpAny_Name (wp_loadGlobal ok R E hy (.inr hg) ?_) (by decide +kernel))
 have key : wpAny c.M A (spliced (backTo pos' (starEach [.Call (.Name "set" p) args [] pos] env))) (fun vs s₁ => (∀ b o, c.h0.get? b = some o → s₁.heap.get? b = some o) ∧ wpAny c.M A (call (.builtin "sorted") ([] ++ vs)) (Post c RV X σ μ s Q) Bot s₁) Bot s := by
  show wpAny c.M A (do let v ← eval (.Call (.Name "set" p) args [] pos) env; let here ← pure [v]; return here ++ (← holding here (spliced (backTo pos' (starEach [] env))))) _ _ _
  refine wpAny_bind (wpAny_Call_NameR (wpAny_Name (wp_loadGlobal ok R E hx (.inr hf) ?_) (by decide +kernel)))
  refine wp_callWithG (first := []) ok rfl hb (hp env) hA R E h fun vs xs σ₁ μ₁ s₁ q R₁ t₁ e₁ g₁ o₁ => ?_
  split at q
  ·rename_i l
   obtain ⟨is, hi, hl, q⟩ := q
   obtain ⟨v, rfl, t⟩ := t₁.one
   obtain ⟨a1, it1, _, rfl, ga, fa, ta⟩ := t.inv
   have la := ta.length
   have hI : IntsAre it1 is := ta.intsAre hi
   have hlen : it1.toArray.size = is.length := by simp [hI.length]
   have hsb : 70 < scanBound := by decide
   refine call_set2 (items := it1.toArray) hA.handled (isList ga) hI (by simp only [List.size_toArray]; lia) fun h' tk es ep t ho X' keep => ?_
   have k1 : ∀ b o, s₁.heap.get? b = some o → h'.get? b = some o := fun b o e => keep b o (Heap.lt_size e) e
   have hsz : es.size < 64 := by
    rw [X'.size]
    exact Nat.lt_of_le_of_lt (accP_len _ _) (by simp only [List.size_toArray]; lia)
   refine wpAny_bind (wpAny_pure (wpAny_bind (wpAny_holding (wpAny_items_nil (wpAny_pure ⟨fun b o e => k1 b o (R₁.base b o e), ?_⟩)))))
   show wpAny c.M A (call (.builtin "sorted") [.ref s₁.heap.objs.size]) _ _ _
   refine sorted_set (s := { s₁ with heap := h', toks := tk }) hA.handled ho X' hsz fun s' b out ns' n hb hnew hout hperm hpw k2 g2 o2 => ?_
   have k3 : ∀ b o, s₁.heap.get? b = some o → s'.heap.get? b = some o := fun b o e => k2 b o (k1 b o e)
   obtain ⟨R', e'⟩ := R₁.keeps k3
   rw [hlen] at hperm
   have hns : ns' = sortSet is := sorted_is hperm hpw
   subst hns
   refine ⟨_, σ₁, μ₁, q, R', ?_, e₁.trans e', g2.trans g₁, o2.trans o₁⟩
   refine VR.fl (items := out.toList) (k := n) (by simpa [listO] using hb) (R₁.fresh ?_) (VRs_ofInts hout)
   cases hc : s₁.heap.get? b with
   | none => rfl
   | some o => rw [show h'.get? b = some o from k1 _ _ hc] at hnew; cases hnew
  ·exact q.elim
 exact callWith_of rfl (fun h' X' => keeps_ok (f := .builtin "sorted") ok rfl h' X') (evalArgs_plain key)
end
section
theorem dq {P G : Prop} (_ : Prop) (e : P = G) (h : P) : G := e ▸ h
theorem dd {P G : Prop} (_ : P → G) : P → P := id
noncomputable def lenQ (xs : List V) (P : Prop) : Prop := onB (Nat.ble xs.length 1000000) P
noncomputable def attrC (P : Nat → Bool) (name : Str) (Q : V → St → Prop) (x : V) (σ : St) : Prop := onS (attrG P name σ x) fun y => Q y σ
noncomputable def methC (c : Ctx) (T : Nat → Option Addr) (name : Str) (b : ME (List V)) (d : Nat) (ρ : Env') (Q : V → St → Prop) (x : V) (σ : St) : Prop := onS (methG T name σ x) fun f => b d ρ σ fun xs σ => CallT c (.ref f) d (x :: xs) σ Q
noncomputable def bmethC (c : Ctx) (T id : String) (b : ME (List V)) (d : Nat) (ρ : Env') (Q : V → St → Prop) (x : V) (σ : St) : Prop := onB (tyP σ x == some T) (b d ρ σ fun xs σ => CallT c (.builtin id) d (x :: xs) σ Q)
noncomputable def attrAC (P : Nat → Bool) (name : Str) (v : V) (ρ : Env') (Q : Env' → St → Prop) (x : V) (σ : St) : Prop := ∃ p, attrS P σ x = some p ∧ Q ρ (σ.set p.1 (some (.ns (nput p.2 name v))))
theorem nsAt_of {σ : St} {i : Nat} {kvs : List (Str × V)} (h : σ[i]? = some (some (.ns kvs))) : nsAt σ i = some kvs := by unfold nsAt; rw [h]
theorem onS_of {α : Type} {o : Option α} {k : α → Prop} {y : α} (h : o = some y) (q : k y) : onS o k := by rw [h]; exact q
noncomputable def negC (Q : V → St → Prop) (x : V) (σ : St) : Prop := match x with
 | .int i => Q (.int (-i)) σ
 | _ => False
noncomputable def itQ (z : Bool) (a b : Prop) : Prop := if z then a else b
noncomputable def andC (b : Prop) (Q : V → St → Prop) (x : V) (σ : St) (z : Bool) : Prop := if z then b else Q x σ
section
variable {c : Ctx} {d : Nat} {ρ : Env'} {σ : St}
section
variable {Q : V → St → Prop}
theorem i_loc {i : Nat} {y : V} (h : ρ[i]? = some (some y)) (q : Q y σ) : locM i d ρ σ Q := by unfold locM; rw [h]; exact q
theorem i_int {i : Int} (q : Q (.int i) σ) : intM i d ρ σ Q := q
theorem i_attrC {P : Nat → Bool} {name : Str} {C i : Nat} {kvs : List (Str × V)} {y : V} (h1 : P C = true) (h2 : σ[i]? = some (some (.ns kvs))) (h3 : kvs.lookup name = some y) (q : Q y σ) : attrC P name Q (.inst C i) σ :=
 onS_of (by unfold attrG; dsimp only; rw [h1, nsAt_of h2]; exact h3) q
theorem i_methC {T : Nat → Option Addr} {name : Str} {b : ME (List V)} {C i : Nat} {f : Addr} {kvs : List (Str × V)} (h1 : T C = some f) (h2 : σ[i]? = some (some (.ns kvs))) (h3 : kvs.lookup name = none) (q : b d ρ σ fun xs σ => CallT c (.ref f) d (.inst C i :: xs) σ Q) : methC c T name b d ρ Q (.inst C i) σ :=
 onS_of (y := f) (by unfold methG; dsimp only; rw [nsAt_of h2]; dsimp only [Option.bind]; rw [h3]; exact h1) q
theorem i_bmethC {T id : String} {b : ME (List V)} {x : V} (h1 : tyP σ x = some T) (q : b d ρ σ fun xs σ => CallT c (.builtin id) d (x :: xs) σ Q) : bmethC c T id b d ρ Q x σ := onB_of (by rw [h1]; exact beq_self_eq_true _) q
theorem i_call {f : Value} {b : ME (List V)} (h : b d ρ σ fun xs σ => CallT c f d xs σ Q) : callM c f b d ρ σ Q := h
theorem i_bin {op : Operator} {a b : ME V} (h : a d ρ σ fun x σ => b d ρ σ fun y σ => opP σ op x y (Q · σ)) : binM op a b d ρ σ Q := h
theorem i_fmt {a : ME V} (h : a d ρ σ fun x σ => fmtP x fun y => Q (.str y) σ) : fmtM a d ρ σ Q := h
end
theorem i_nil {Q : List V → St → Prop} (q : Q [] σ) : nilM d ρ σ Q := q
theorem i_cons {Q : List V → St → Prop} {a : ME V} {b : ME (List V)} (h : a d ρ σ fun x σ => b d ρ σ fun xs σ => Q (x :: xs) σ) : consM a b d ρ σ Q := h
theorem i_len {xs : List V} {P : Prop} (h : xs.length ≤ 1000000) (p : P) : lenQ xs P := onB_of (Nat.ble_eq_true_of_le h) p
section
variable {Q : Bool → St → Prop}
theorem i_cmp {op : CmpOp} {a b : ME V} (h : a d ρ σ fun x σ => b d ρ σ fun y σ => cmpP σ op x y (Q · σ)) : cmpM op a b d ρ σ Q := h
end
theorem i_onB {b : Bool} {p : Prop} (h : b = true) (k : p) : onB b p := onB_of h k
theorem i_T {z : Bool} {a b : Prop} (h : z = true) (p : a) : itQ z a b := by unfold itQ; rw [if_pos h]; exact p
theorem i_F {z : Bool} {a b : Prop} (h : z = false) (p : b) : itQ z a b := by unfold itQ; rw [h]; exact p
theorem i_by {z : Bool} {a b : Prop} (p : z = true → a) (q : z = false → b) : itQ z a b := by
 cases z
 ·exact q rfl
 ·exact p rfl
theorem i_andT {b : Prop} {Q : V → St → Prop} {x : V} {z : Bool} (h : z = true) (p : b) : andC b Q x σ z := by unfold andC; rw [if_pos h]; exact p
section
variable {Q : Fl → Env' → St → Prop}
noncomputable def seqC (b : MS) (d : Nat) (Q : Fl → Env' → St → Prop) (fl : Fl) (ρ : Env') (σ : St) : Prop := match fl with
 | .next => b d ρ σ Q
 | fl => Q fl ρ σ
end
theorem i_nm {i : Nat} {x : V} {Q : Env' → St → Prop} (h : Q (ρ.set i (some x)) σ) : nmA i d ρ x σ Q := h
theorem i_setP {j : Nat} {i v : V} {kvs : List (V × V)} {k : St → Prop} (h : σ[j]? = some (some (.dict kvs))) (hk : keyP kvs i) (q : k (σ.set j (some (.dict (dset kvs i v))))) : setP σ (.ref j) i v k := by
 unfold setP; dsimp only; rw [h]; exact ⟨hk, q⟩
theorem i_attrAC {P : Nat → Bool} {name : Str} {v : V} {Q : Env' → St → Prop} {C i : Nat} {kvs : List (Str × V)} (h1 : P C = true) (h2 : σ[i]? = some (some (.ns kvs))) (h3 : kvs.length ≤ 1000) (q : Q ρ (σ.set i (some (.ns (nput kvs name v))))) : attrAC P name v ρ Q (.inst C i) σ :=
 ⟨(i, kvs), by unfold attrS; dsimp only; rw [h1, nsAt_of h2]; dsimp only [cond, Option.bind]; rw [Nat.ble_eq_true_of_le h3], q⟩
variable {k : V → Prop} {i j : Int}
theorem o_add (h : k (.int (i + j))) : opP σ .Add (.int i) (.int j) k := h
theorem o_mul (h1 : i.natAbs < 2 ^ 64 ∨ j.natAbs < 2 ^ 64) (h : k (.int (i * j))) : opP σ .Mult (.int i) (.int j) k := OpI.mul h1 h
theorem o_fdiv (h1 : j ≠ 0) (h2 : j.natAbs < 1073741824) (h : k (.int (i.fdiv j))) : opP σ .FloorDiv (.int i) (.int j) k := OpI.fdiv h1 h2 h
theorem o_mod (h1 : j ≠ 0) (h : k (.int (i.fmod j))) : opP σ .Mod (.int i) (.int j) k := OpI.mod h1 h
theorem o_pow (h0 : 0 ≤ j) (h1 : j ≤ 1000000) (h2 : i.natAbs < 2 ^ 64) (h : k (.int (i ^ j.toNat))) : opP σ .Pow (.int i) (.int j) k := OpI.pow h0 h1 h2 h
theorem o_shl (h0 : 0 ≤ j) (h1 : j ≤ 1000000) (h2 : i.natAbs < 2 ^ 64) (h : k (.int (i * 2 ^ j.toNat))) : opP σ .LShift (.int i) (.int j) k := OpI.shl h0 h1 h2 h
theorem o_rep {l : List V} (h0 : 0 ≤ j) (h1 : j ≤ 1000) (h2 : l.length ≤ 1000) (h : k (.fl (List.replicate j.toNat l).flatten)) : opP σ .Mult (.fl l) (.int j) k := OpI.rep h0 h1 h2 h
theorem o_cat {l r : List V} (h0 : l.length + r.length ≤ 1000000) (h : k (.fl (l ++ r))) : opP σ .Add (.fl l) (.fl r) k := OpI.cat h0 h
variable {p : Bool → Prop} {x y : Str}
noncomputable def strL : List V → Option (List Str)
 | [] => some []
 | .str x :: l => (strL l).map (x :: ·)
 | _ => none
theorem strL_pys : ∀ {l : List V} {xs : List Str}, strL l = some xs → V.pys l = some (xs.map PyData.str)
 | [], _, e => by cases e; rfl
 | .str x :: l, xs, e => by
  simp only [strL, Option.map_eq_some_iff] at e
  obtain ⟨ys, e, rfl⟩ := e
  simp [V.pys, V.py, strL_pys e]
theorem lay_strs : ∀ {xs : List Str}, xs.all PyData.strOk = true → PyData.canLayAll0 (xs.map PyData.str) = true ∧ PyData.depthAll (xs.map PyData.str) = 0
 | [], _ => ⟨rfl, rfl⟩
 | x :: xs, h => by
  simp only [List.all_cons, Bool.and_eq_true] at h
  obtain ⟨a, b⟩ := lay_strs h.2
  simp [PyData.canLayAll0, PyData.canLay0, PyData.depthAll, PyData.depth, a, b, h.1]
theorem shaped_strs {xs : List Str} (h : xs.all PyData.strOk = true) : SeqAt.shaped (.list (xs.map PyData.str)) = true := by
 obtain ⟨a, b⟩ := lay_strs h
 simp [SeqAt.shaped, PyData.canLay0, PyData.depth, a, b]
theorem lay_ints : ∀ {xs : List Int}, PyData.canLayAll0 (xs.map PyData.int) = true ∧ PyData.depthAll (xs.map PyData.int) = 0
 | [] => ⟨rfl, rfl⟩
 | x :: xs => by
  obtain ⟨a, b⟩ := lay_ints (xs := xs)
  simp [PyData.canLayAll0, PyData.canLay0, PyData.depthAll, PyData.depth, a, b]
theorem shaped_ints {xs : List Int} : SeqAt.shaped (.list (xs.map PyData.int)) = true := by
 obtain ⟨a, b⟩ := lay_ints (xs := xs)
 simp [SeqAt.shaped, PyData.canLay0, PyData.depth, a, b]
theorem pys_ints : ∀ (xs : List Int), V.pys (xs.map V.int) = some (xs.map PyData.int)
 | [] => rfl
 | x :: xs => by simp [V.pys, V.py, pys_ints xs]
theorem eqv_ints : ∀ (xs ys : List Int), PyData.eqvAll (xs.map PyData.int) (ys.map PyData.int) = (xs == ys)
 | [], [] => rfl
 | [], _ :: _ => rfl
 | _ :: _, [] => rfl
 | x :: xs, y :: ys => by simp only [List.map_cons, PyData.eqvAll, PyData.eqv, eqv_ints xs ys]; rfl
theorem q_inS {l : List V} {xs : List Str} (e : strL l = some xs) (hx : (x :: xs).all PyData.strOk = true) (h : p (xs.any (· == x))) : cmpP σ .In (.str x) (.tup l) p := by
 refine CmpI.inT (dx := .str x) (ds := xs.map PyData.str) rfl (strL_pys e) (shaped_strs hx) ?_
 rw [List.any_map]; exact h
theorem q_inI {xs : List Int} (h : p (xs.any (· == i))) : cmpP σ .In (.int i) (.tup (xs.map V.int)) p := by
 refine CmpI.inT (dx := .int i) (ds := xs.map PyData.int) rfl (pys_ints xs) (shaped_ints (xs := i :: xs)) ?_
 rw [List.any_map]; exact h
theorem q_eqL {xs ys : List Int} (h : p (xs == ys)) : cmpP σ .Eq (.fl (xs.map V.int)) (.fl (ys.map V.int)) p := by
 refine CmpI.eq (dx := .list (xs.map PyData.int)) (dy := .list (ys.map PyData.int)) (by simp [V.py, pys_ints]) (by simp [V.py, pys_ints]) shaped_ints shaped_ints ?_
 show p (PyData.eqvAll _ _); rw [eqv_ints]; exact h
theorem q_neL {xs ys : List Int} (h : p (xs != ys)) : cmpP σ .NotEq (.fl (xs.map V.int)) (.fl (ys.map V.int)) p := by
 refine CmpI.ne (dx := .list (xs.map PyData.int)) (dy := .list (ys.map PyData.int)) (by simp [V.py, pys_ints]) (by simp [V.py, pys_ints]) shaped_ints shaped_ints ?_
 show p (!PyData.eqvAll _ _); rw [eqv_ints]; exact h
theorem cmp_of {σ : St} {op : CmpOp} {x y : V} {k : Bool → Prop} (e : cmpG op x y = none) (h : CmpI σ k op x y) : cmpP σ op x y k := by unfold cmpP; rw [e]; exact h
theorem q_ninD {σ : St} {n : Nat} {x : V} {kvs : List (V × V)} {p : Bool → Prop} (h : σ[n]? = some (some (.dict kvs))) (hk : keyP kvs x) (q : p (!kvs.any fun u => V.beq u.1 x)) : cmpP σ .NotIn x (.ref n) p := cmp_of (by cases x <;> rfl) (.ninD h hk q)
theorem s_list {n : Nat} {l : List V} {v : V} (h : σ[n]? = some (some (.list l))) (h0 : 0 ≤ i) (h1 : i < 4000000000) (hy : l[i.toNat]? = some v) (q : k v) : subP σ (.ref n) (.int i) k := by
 unfold subP; dsimp only; rw [h]; dsimp only; unfold idxP; rw [if_pos h0]; exact ⟨h1, v, hy, q⟩
theorem s_dict {n : Nat} {kvs : List (V × V)} {key v : V} (h : σ[n]? = some (some (.dict kvs))) (hk : keyP kvs key) (hy : dget kvs key = some v) (q : k v) : subP σ (.ref n) key k := by
 unfold subP; dsimp only; rw [h]; cases key <;> exact ⟨hk, v, hy, q⟩
theorem s_fl {l : List V} {v : V} (h0 : 0 ≤ i) (h1 : i < 4000000000) (hy : l[i.toNat]? = some v) (q : k v) : subP σ (.fl l) (.int i) k := by
 unfold subP; dsimp only; unfold idxP; rw [if_pos h0]; exact ⟨h1, v, hy, q⟩
theorem s_tup {l : List V} {v : V} (h0 : 0 ≤ i) (h1 : i < 4000000000) (hy : l[i.toNat]? = some v) (q : k v) : subP σ (.tup l) (.int i) k := by
 unfold subP; dsimp only; unfold idxP; rw [if_pos h0]; exact ⟨h1, v, hy, q⟩
end
inductive Stp : Prop → Prop → Prop
 | i_seq {d : Nat} {ρ : Env'} {σ : St} {Q : Fl → Env' → St → Prop} {a b : MS} : Stp (a d ρ σ (seqC b d Q)) (seqM a b d ρ σ Q)
 | i_seqN {d : Nat} {ρ : Env'} {σ : St} {Q : Fl → Env' → St → Prop} {b : MS} : Stp (b d ρ σ Q) (seqC b d Q .next ρ σ)
 | i_seqR {d : Nat} {ρ : Env'} {σ : St} {Q : Fl → Env' → St → Prop} {b : MS} {x : V} : Stp (Q (.ret x) ρ σ) (seqC b d Q (.ret x) ρ σ)
 | i_skip {d : Nat} {ρ : Env'} {σ : St} {Q : Fl → Env' → St → Prop} : Stp (Q .next ρ σ) (skipM d ρ σ Q)
 | i_asg {d : Nat} {ρ : Env'} {σ : St} {Q : Fl → Env' → St → Prop} {t : MA} {a : ME V} : Stp (a d ρ σ fun x σ => t d ρ x σ fun ρ σ => Q .next ρ σ) (asgM t a d ρ σ Q)
 | i_nm {d : Nat} {ρ : Env'} {σ : St} {i : Nat} {x : V} {Q : Env' → St → Prop} : Stp (Q (ρ.set i (some x)) σ) (nmA i d ρ x σ Q)
 | i_cons {d : Nat} {ρ : Env'} {σ : St} {Q : List V → St → Prop} {a : ME V} {b : ME (List V)} : Stp (a d ρ σ fun x σ => b d ρ σ fun xs σ => Q (x :: xs) σ) (consM a b d ρ σ Q)
 | i_nil {d : Nat} {ρ : Env'} {σ : St} {Q : List V → St → Prop} : Stp (Q [] σ) (nilM d ρ σ Q)
 | i_glo {d : Nat} {ρ : Env'} {σ : St} {Q : V → St → Prop} {y : V} : Stp (Q y σ) (gloM y d ρ σ Q)
 | i_int {d : Nat} {ρ : Env'} {σ : St} {Q : V → St → Prop} {i : Int} : Stp (Q (.int i) σ) (intM i d ρ σ Q)
 | i_str {d : Nat} {ρ : Env'} {σ : St} {Q : V → St → Prop} {i : Str} : Stp (Q (.str i) σ) (strM i d ρ σ Q)
 | i_bool {d : Nat} {ρ : Env'} {σ : St} {Q : V → St → Prop} {i : Bool} : Stp (Q (.bool i) σ) (boolM i d ρ σ Q)
 | i_none {d : Nat} {ρ : Env'} {σ : St} {Q : V → St → Prop} : Stp (Q .none σ) (noneM d ρ σ Q)
 | i_tup {d : Nat} {ρ : Env'} {σ : St} {Q : V → St → Prop} {a : ME (List V)} : Stp (a d ρ σ fun xs σ => lenQ xs (Q (.tup xs) σ)) (tupM a d ρ σ Q)
 | i_fl {d : Nat} {ρ : Env'} {σ : St} {Q : V → St → Prop} {a : ME (List V)} : Stp (a d ρ σ fun xs σ => lenQ xs (Q (.fl xs) σ)) (flM a d ρ σ Q)
 | i_tl {d : Nat} {ρ : Env'} {σ : St} {Q : V → St → Prop} {a : ME (List V)} : Stp (a d ρ σ fun xs σ => lenQ xs (Q (.ref σ.length) (σ ++ [some (.list xs)]))) (tlM a d ρ σ Q)
 | i_dict {d : Nat} {ρ : Env'} {σ : St} {Q : V → St → Prop} : Stp (Q (.ref σ.length) (σ ++ [some (.dict [])])) (dictM d ρ σ Q)
 | i_attr {d : Nat} {ρ : Env'} {σ : St} {Q : V → St → Prop} {P : Nat → Bool} {name : Str} {a : ME V} : Stp (a d ρ σ (attrC P name Q)) (attrM P name a d ρ σ Q)
 | i_meth {c : Ctx} {d : Nat} {ρ : Env'} {σ : St} {Q : V → St → Prop} {T : Nat → Option Addr} {name : Str} {a : ME V} {b : ME (List V)} : Stp (a d ρ σ (methC c T name b d ρ Q)) (methM c T name a b d ρ σ Q)
 | i_bmeth {c : Ctx} {d : Nat} {ρ : Env'} {σ : St} {Q : V → St → Prop} {T id : String} {a : ME V} {b : ME (List V)} : Stp (a d ρ σ (bmethC c T id b d ρ Q)) (bmethM c T id a b d ρ σ Q)
 | i_call {c : Ctx} {d : Nat} {ρ : Env'} {σ : St} {Q : V → St → Prop} {f : Value} {b : ME (List V)} : Stp (b d ρ σ fun xs σ => CallT c f d xs σ Q) (callM c f b d ρ σ Q)
 | i_bin {d : Nat} {ρ : Env'} {σ : St} {Q : V → St → Prop} {op : Operator} {a b : ME V} : Stp (a d ρ σ fun x σ => b d ρ σ fun y σ => opP σ op x y (Q · σ)) (binM op a b d ρ σ Q)
 | i_neg {d : Nat} {ρ : Env'} {σ : St} {Q : V → St → Prop} {a : ME V} : Stp (a d ρ σ (negC Q)) (negM a d ρ σ Q)
 | i_negC {σ : St} {Q : V → St → Prop} {i : Int} : Stp (Q (.int (-i)) σ) (negC Q (.int i) σ)
 | i_not {d : Nat} {ρ : Env'} {σ : St} {Q : V → St → Prop} {a : ME V} : Stp (a d ρ σ fun x σ => truP σ x fun b => Q (.bool (!b)) σ) (notM a d ρ σ Q)
 | i_cmpv {d : Nat} {ρ : Env'} {σ : St} {Q : V → St → Prop} {op : CmpOp} {a b : ME V} : Stp (a d ρ σ fun x σ => b d ρ σ fun y σ => cmpP σ op x y fun b => Q (.bool b) σ) (cmpvM op a b d ρ σ Q)
 | i_sub {d : Nat} {ρ : Env'} {σ : St} {Q : V → St → Prop} {a b : ME V} : Stp (a d ρ σ fun x σ => b d ρ σ fun i σ => subP σ x i (Q · σ)) (subM a b d ρ σ Q)
 | i_iteV {d : Nat} {ρ : Env'} {σ : St} {Q : V → St → Prop} {t : ME Bool} {a b : ME V} : Stp (t d ρ σ fun z σ => itQ z (a d ρ σ Q) (b d ρ σ Q)) (iteM t a b d ρ σ Q)
 | i_andv {d : Nat} {ρ : Env'} {σ : St} {Q : V → St → Prop} {a b : ME V} : Stp (a d ρ σ fun x σ => truP σ x fun z => andC (b d ρ σ Q) Q x σ z) (andvM a b d ρ σ Q)
 | i_slc {d : Nat} {ρ : Env'} {σ : St} {Q : V → St → Prop} {a : ME V} {lo hi : ME (Option Int)} : Stp (a d ρ σ fun x σ => lo d ρ σ fun i σ => hi d ρ σ fun j σ => slcP σ x i j (Q · σ)) (slcM a lo hi d ρ σ Q)
 | i_tru {d : Nat} {ρ : Env'} {σ : St} {Q : Bool → St → Prop} {a : ME V} : Stp (a d ρ σ fun x σ => truP σ x (Q · σ)) (truM a d ρ σ Q)
 | i_nott {d : Nat} {ρ : Env'} {σ : St} {Q : Bool → St → Prop} {a : ME Bool} : Stp (a d ρ σ fun b σ => Q (!b) σ) (nottM a d ρ σ Q)
 | i_cmp {d : Nat} {ρ : Env'} {σ : St} {Q : Bool → St → Prop} {op : CmpOp} {a b : ME V} : Stp (a d ρ σ fun x σ => b d ρ σ fun y σ => cmpP σ op x y (Q · σ)) (cmpM op a b d ρ σ Q)
 | i_and {d : Nat} {ρ : Env'} {σ : St} {Q : Bool → St → Prop} {a b : ME Bool} : Stp (a d ρ σ fun z σ => itQ z (b d ρ σ Q) (Q false σ)) (andM a b d ρ σ Q)
 | i_or {d : Nat} {ρ : Env'} {σ : St} {Q : Bool → St → Prop} {a b : ME Bool} : Stp (a d ρ σ fun z σ => itQ z (Q true σ) (b d ρ σ Q)) (orM a b d ρ σ Q)
 | i_yes {d : Nat} {ρ : Env'} {σ : St} {Q : Bool → St → Prop} {b : Bool} : Stp (Q b σ) (yesM b d ρ σ Q)
 | i_iteT {d : Nat} {ρ : Env'} {σ : St} {Q : Bool → St → Prop} {t a b : ME Bool} : Stp (t d ρ σ fun z σ => itQ z (a d ρ σ Q) (b d ρ σ Q)) (iteM t a b d ρ σ Q)
 | i_ret {d : Nat} {ρ : Env'} {σ : St} {Q : Fl → Env' → St → Prop} {a : ME V} : Stp (a d ρ σ fun x σ => Q (.ret x) ρ σ) (retM a d ρ σ Q)
 | i_expr {d : Nat} {ρ : Env'} {σ : St} {Q : Fl → Env' → St → Prop} {a : ME V} : Stp (a d ρ σ fun _ σ => Q .next ρ σ) (exprM a d ρ σ Q)
 | i_if {d : Nat} {ρ : Env'} {σ : St} {Q : Fl → Env' → St → Prop} {t : ME Bool} {a b : MS} : Stp (t d ρ σ fun z σ => itQ z (a d ρ σ Q) (b d ρ σ Q)) (ifM t a b d ρ σ Q)
 | i_subA {d : Nat} {ρ : Env'} {σ : St} {a b : ME V} {v : V} {Q : Env' → St → Prop} : Stp (a d ρ σ fun x σ => b d ρ σ fun i σ => setP σ x i v fun σ => Q ρ σ) (subA a b d ρ v σ Q)
 | i_attrA {d : Nat} {ρ : Env'} {σ : St} {P : Nat → Bool} {name : Str} {a : ME V} {v : V} {Q : Env' → St → Prop} : Stp (a d ρ σ (attrAC P name v ρ Q)) (attrA P name a d ρ v σ Q)
 | i_retQ {ρ : Env'} {σ : St} {x : V} {Q : V → St → Prop} : Stp (Q x σ) (retQ Q (.ret x) ρ σ)
 | i_retQn {ρ : Env'} {σ : St} {Q : V → St → Prop} : Stp (Q .none σ) (retQ Q .next ρ σ)
 | i_TT {a b : Prop} : Stp (a) (itQ true a b)
 | i_FF {a b : Prop} : Stp (b) (itQ false a b)
 | t_bool {σ : St} {p : Bool → Prop} {b : Bool} : Stp (p b) (truP σ (.bool b) p)
 | t_int {σ : St} {i : Int} {p : Bool → Prop} : Stp (p (i != 0)) (truP σ (.int i) p)
 | i_names {d : Nat} {ρ : Env'} {σ : St} {Q : Fl → Env' → St → Prop} {is : List Nat} {a : ME (List V)} : Stp (a d ρ σ fun xs σ => lenQ xs (onB (xs.length == is.length) (Q .next (setAll is xs ρ) σ))) (namesM is a d ρ σ Q)
 | o_add {σ : St} {k : V → Prop} {i : Int} {j : Int} : Stp (k (.int (i + j))) (opP σ .Add (.int i) (.int j) k)
 | o_sub {σ : St} {k : V → Prop} {i : Int} {j : Int} : Stp (k (.int (i - j))) (opP σ .Sub (.int i) (.int j) k)
 | o_and {σ : St} {k : V → Prop} {i : Int} {j : Int} : Stp (k (.int (Builtin.bitAnd i j))) (opP σ .BitAnd (.int i) (.int j) k)
 | q_eqI {σ : St} {i : Int} {j : Int} {p : Bool → Prop} : Stp (p (i == j)) (cmpP σ .Eq (.int i) (.int j) p)
 | q_neI {σ : St} {i : Int} {j : Int} {p : Bool → Prop} : Stp (p (i != j)) (cmpP σ .NotEq (.int i) (.int j) p)
 | q_ltI {σ : St} {i : Int} {j : Int} {p : Bool → Prop} : Stp (p (decide (i < j))) (cmpP σ .Lt (.int i) (.int j) p)
 | q_leI {σ : St} {i : Int} {j : Int} {p : Bool → Prop} : Stp (p (decide (i ≤ j))) (cmpP σ .LtE (.int i) (.int j) p)
 | q_gtI {σ : St} {i : Int} {j : Int} {p : Bool → Prop} : Stp (p (decide (i > j))) (cmpP σ .Gt (.int i) (.int j) p)
 | q_geI {σ : St} {i : Int} {j : Int} {p : Bool → Prop} : Stp (p (decide (i ≥ j))) (cmpP σ .GtE (.int i) (.int j) p)
 | q_eqS {σ : St} {p : Bool → Prop} {x : Str} {y : Str} : Stp (p (x == y)) (cmpP σ .Eq (.str x) (.str y) p)
 | q_neS {σ : St} {p : Bool → Prop} {x : Str} {y : Str} : Stp (p (x != y)) (cmpP σ .NotEq (.str x) (.str y) p)
 | q_eqB {σ : St} {p : Bool → Prop} {a b : Bool} : Stp (p (a == b)) (cmpP σ .Eq (.bool a) (.bool b) p)
theorem stp {R G : Prop} (h : Stp R G) : R → G := by induction h <;> exact id
end
section
set_option backward.match.sparseCases false
structure Side (e : Expr) : Prop where
 star : ∀ es env, starEach (e :: es) env = (false, eval e env) :: starEach es env
 sub : ∀ o v, subscripted e false o v = operate [o, v] (getItem o v)
 set : ∀ env x, foldedSetIterable e env x = pure x
 marks : ∀ op, behindInMarks op e = false
 asE : ∀ ts env, assignEach (e :: ts) env = (false, assign e env) :: assignEach ts env
noncomputable def pl (e : Expr) : Bool := e.ctorIdx != 7 && e.ctorIdx != 22 && e.ctorIdx != 26
theorem pl_of {e : Expr} (h : pl e = true) : Side e := by cases e <;> first | exact ⟨fun _ _ => rfl, fun _ _ => rfl, fun _ _ => rfl, fun _ => rfl, fun _ _ => rfl⟩ | cases h
theorem pls_of {es : List Expr} (h : es.all pl = true) {P : List Expr → Prop} (h0 : P []) (h1 : ∀ e es, Side e → P es → P (e :: es)) : P es := by
 induction es with
 | nil => exact h0
 | cons e es ih =>
  have k := Bool.and_eq_true_iff.mp ((List.all_cons).symm.trans h)
  exact h1 e es (pl_of k.1) (ih k.2)
theorem back_of {es : List Expr} {pos : Pos} (h : es.all pl = true) (env : Env) : (backTo pos (starEach es env)).any (·.1) = false :=
 pls_of (P := fun es => (backTo pos (starEach es env)).any (·.1) = false) h rfl fun e es s ih => by rw [s.star]; exact ih
theorem backs_of {es : List Expr} {pos : Pos} (h : es.all pl = true) (env : Env) : (backTo pos (starEach es env)).all (!·.1) = true :=
 pls_of (P := fun es => (backTo pos (starEach es env)).all (!·.1) = true) h rfl fun e es s ih => by rw [s.star]; exact ih
theorem asN_of {ts : List Expr} (h : ts.all pl = true) (env : Env) : (assignEach ts env).length = ts.length :=
 pls_of (P := fun ts => (assignEach ts env).length = ts.length) h rfl fun e es s ih => by rw [s.asE]; exact congrArg (· + 1) ih
theorem asS_of {ts : List Expr} (h : ts.all pl = true) (env : Env) : (assignEach ts env).findIdx? (·.1) = none :=
 pls_of (P := fun ts => (assignEach ts env).findIdx? (·.1) = none) h rfl fun e es s ih => by rw [s.asE, List.findIdx?_cons, ih]; rfl
noncomputable def nca (e : Expr) : Bool := e.ctorIdx != 16
theorem base_of {e : Expr} {name : Str} (h : nca e = true) (env : Env) (t : Sem Value) : attributeBase e name env t = t := by cases e <;> first | rfl | cases h
noncomputable def nco (e : Expr) : Bool := e.ctorIdx != 8 && e.ctorIdx != 9 && e.ctorIdx != 10
theorem swap_of {e : Expr} {t : Option Expr} {n : Nat} (h : nco e = true) (env : Env) : swapsWith e t n env = pure false := by cases e <;> first | rfl | cases h
noncomputable def one {α : Type} : (l : List α) → Option {a : α // l = [a]}
 | [a] => some ⟨a, rfl⟩
 | _ => none
noncomputable def asName : (e : Expr) → Option {x : Str × Pos // e = .Name x.1 x.2}
 | .Name x p => some ⟨(x, p), rfl⟩
 | _ => none
noncomputable def noKw : (k : List Keyword) → Option (PLift (k = []))
 | [] => some ⟨rfl⟩
 | _ => none
noncomputable def asCall : (e : Expr) → Option {x : (Str × Pos) × List Expr × Pos // e = .Call (.Name x.1.1 x.1.2) x.2.1 [] x.2.2}
 | .Call f a k q => (noKw k).bind fun h => (asName f).map fun x => ⟨(x.1, a, q), x.2 ▸ h.down ▸ rfl⟩
 | _ => none
noncomputable def asTup : (e : Expr) → Option {x : List Expr × Nat × Pos // e = .Tuple x.1 x.2.1 x.2.2}
 | .Tuple l k p => some ⟨(l, k, p), rfl⟩
 | _ => none
noncomputable def asSl : (e : Expr) → Option {x : Option Expr × Option Expr × Pos // e = .Slice x.1 x.2.1 none x.2.2}
 | .Slice l h none p => some ⟨(l, h, p), rfl⟩
 | _ => none
structure CompX where
 elt : Expr
 tg : Expr
 it : Expr
 ifs : List Expr
 sc : Scope
 p : Pos
noncomputable def CompX.e (x : CompX) : Expr := .ListComp x.elt [⟨x.tg, x.it, x.ifs, 0⟩] x.sc x.p
noncomputable def g1 : (g : List Comprehension) → Option {x : Expr × Expr × List Expr // g = [⟨x.1, x.2.1, x.2.2, 0⟩]}
 | [⟨t, i, f, .ofNat .zero⟩] => some ⟨(t, i, f), rfl⟩
 | _ => none
noncomputable def asComp : (e : Expr) → Option {x : CompX // e = x.e}
 | .ListComp e g s p => (g1 g).map fun x => ⟨⟨e, x.1.1, x.1.2.1, x.1.2.2, s, p⟩, congrArg (fun g => Expr.ListComp e g s p) x.2⟩
 | _ => none
noncomputable def namesOf : (l : List Expr) → Option {nm : List (Str × Pos) // l = nm.map fun p => Expr.Name p.1 p.2}
 | [] => some ⟨[], rfl⟩
 | e :: l => (asName e).bind fun x => (namesOf l).map fun nm => ⟨x.1 :: nm.1, (congrArg (· :: l) x.2).trans (congrArg (Expr.Name x.1.1 x.1.2 :: ·) nm.2)⟩
theorem k_elim {α β : Type} {P : β → Prop} {o : Option α} {z : β} {f : α → β} (hz : P z) (h : ∀ y, P (f y)) : P (o.elim z f) := by
 cases o with
 | none => exact hz
 | some y => exact h y
theorem k_elimE {α β : Type} {P : β → Prop} {o : Option α} {z : β} {f : α → β} (hz : P z) (h : ∀ y, o = some y → P (f y)) : P (o.elim z f) := by
 cases o with
 | none => exact hz
 | some y => exact h y rfl
theorem k_cond {β : Type} {P : β → Prop} {b : Bool} {m z : β} (hz : P z) (h : b = true → P m) : P (cond b m z) := by
 cases b
 ·exact hz
 ·exact h rfl
end
section
set_option backward.match.sparseCases false
structure Tab where
 gv : List (Str × V)
 fn : List (Str × Value)
 at_ : List (Str × Nat)
 st : List (Str × Nat)
 me : List (Str × Nat × Addr)
 bm : List (Str × String × String)
 tr : List Pos
 nd : List Pos
 cp : List (Pos × Gm × Nat × Nat)
structure Tab.Ok (T : Tab) (c : Ctx) : Prop where
 gv : ∀ x y, T.gv.lookup x = some y → ∃ v, nsIn c.K mainGlobals x = some (some v) ∧ ∀ X σ μ h, Rel c X σ μ h → VRσ X σ μ h v y
 fn : ∀ x f, T.fn.lookup x = some f → (c.mg x = some f ∨ (c.mg x = none ∧ c.mb x = some f)) ∧ keepOk c.K f = true
 at_ : ∀ x C, T.at_.lookup x = some C → attrOk c.K C x = true
 st : ∀ x C, T.st.lookup x = some C → setOk c.K C x = true
 me : ∀ x p, T.me.lookup x = some p → methOk c.K p.1 x p.2 = true
 bm : ∀ x p, T.bm.lookup x = some p → PlainAttrs p.1 ∧ Slot p.1 x p.2 ∧ typeOf (.builtin p.2) = pure (.type "method_descriptor")
theorem lk_nil {α : Type} {P : Str → α → Prop} : ∀ x y, ([] : List (Str × α)).lookup x = some y → P x y := fun _ _ h => by cases h
theorem lk_cons {α : Type} {P : Str → α → Prop} {k : Str} {a : α} {l : List (Str × α)} (h : P k a) (t : ∀ x y, l.lookup x = some y → P x y) : ∀ x y, ((k, a) :: l).lookup x = some y → P x y := fun x y e => by
 rw [List.lookup_cons] at e
 cases hx : x == k with
 | true => rw [hx] at e; cases e; rw [eq_of_beq hx]; exact h
 | false => rw [hx] at e; exact t x y e
structure KK where
 E : Gm → Expr → ME V
 T : Gm → Expr → ME Bool
 A : Gm → Nat → Bool → Expr → MA
structure KK.Ok (c : Ctx) (r : KK) : Prop where
 E : ∀ Γ e, SimE c Γ e (r.E Γ e)
 T : ∀ Γ e, SimT c Γ e (r.T Γ e)
 A : ∀ Γ bs l t, SimA c Γ bs t (r.A Γ bs l t)
noncomputable def nevA : MA := fun _ _ _ _ _ => False
section
variable (c : Ctx) (T : Tab) (r : KK) (Γ : Gm)
noncomputable def kName (x : Str) : ME V := cond (x == "__debug__" || x == "__classdict__") neverE ((Γ.lookup x).elim neverE fun o => o.elim ((T.gv.lookup x).elim neverE gloM) locM)
noncomputable def kConst : Const → ME V
 | .none => noneM
 | .bool b => boolM b
 | .int i => intM i
 | .str s => strM s
 | _ => neverE
noncomputable def kEs (l : List Expr) : ME (List V) := l.rec nilM fun e _ m => cond (pl e) (consM (r.E Γ e) m) neverE
noncomputable def kTs (op : BoolOp) (l : List Expr) : ME Bool := l.rec (op.casesOn (yesM true) (yesM false)) fun e _ m => op.casesOn (andM (r.T Γ e) m) (orM (r.T Γ e) m)
noncomputable def kVs (op : BoolOp) (l : List Expr) : Expr → ME V := l.rec (fun e => r.E Γ e) fun f _ m e => op.casesOn (andvM (r.E Γ e) (m f)) (orvM (r.E Γ e) (m f))
noncomputable def kPt (e : Option Expr) : ME (Option Int) := e.elim nopM fun e => ptM (r.E Γ e)
noncomputable def kPs (ks : List (Option Expr)) : List Expr → Option (List (Expr × Expr) × ME (List (V × V))) :=
 ks.rec (fun vs => vs.casesOn (some ([], nilP)) fun _ _ => none) fun k _ m vs => k.elim none fun k => vs.casesOn none fun v vs => (m vs).map fun m => ((k, v) :: m.1, consP (r.E Γ k) (r.E Γ v) m.2)
noncomputable def kDict (st : Bool) (ks : List (Option Expr)) (vs : List Expr) : ME V :=
 ks.casesOn (vs.casesOn dictM fun _ _ => neverE) fun k ks => (kPs r Γ (k :: ks) vs).elim neverE fun m => cond (Nat.ble m.1.length 15) (dictPM st m.2) neverE
noncomputable def kJ (l : List Expr) : JM := l.rec nilJ fun e _ m => consJ (r.E Γ e) m
noncomputable def kJoin (l : List Expr) : ME V := l.casesOn neverE fun a l => l.casesOn neverE fun b l => joinM (kJ r Γ (a :: b :: l))
noncomputable def kSub (e i : Expr) : ME V := (asSl i).elim (cond (pl i) (subM (r.E Γ e) (r.E Γ i)) neverE) fun x => slcM (r.E Γ e) (kPt r Γ x.1.1) (kPt r Γ x.1.2.1)
noncomputable def kI (it tg : Expr) : ME (List V) := (asCall it).elim (itersM (r.E Γ it)) fun x => cond (x.1.2.1.all pl)
 (cond (x.1.1.1 == "zip" && Γ.lookup "zip" == some none) ((asTup tg).elim (itersM (r.E Γ it)) fun _ => zipM (kEs r Γ x.1.2.1))
 (cond (x.1.1.1 == "enumerate" && Γ.lookup "enumerate" == some none) ((asTup tg).elim (itersM (r.E Γ it)) fun _ => enumM (kEs r Γ x.1.2.1))
 (itersM (r.E Γ it))
 )) neverE
noncomputable def kF (ifs : List Expr) : ME Bool := ifs.casesOn (yesM true) fun e es => es.casesOn (r.T Γ e) fun _ _ => neverE
noncomputable def kComp (x : CompX) : ME V := (T.cp.lookup x.p).elim neverE fun p => cond (compOk Γ p.1 p.2.1 x.sc.names && x.sc.kind == .function && pl x.it)
 (compM (kI r Γ x.it x.tg) p.2.1 p.2.2 (r.A p.1 p.2.1 false x.tg) (kF r p.1 x.ifs) (r.E p.1 x.elt)) neverE
noncomputable def kCallN (x : Str) (args : List Expr) : ME V := (T.fn.lookup x).elim neverE fun f => cond (Γ.lookup x == some none && !(x == "__debug__")) (callM c f (kEs r Γ args)) neverE
noncomputable def kLz (x : Str) (args : List Expr) (z : ME V) : ME V := (one args).elim z fun e => (asCall e.1).elim z fun y => cond (y.1.2.1.all pl)
 (cond (x == "list" && y.1.1.1 == "zip" && Γ.lookup "zip" == some none && Γ.lookup "list" == some none) (lzipM (kEs r Γ y.1.2.1))
 (cond (x == "sorted" && y.1.1.1 == "set" && Γ.lookup "set" == some none && Γ.lookup "sorted" == some none) (sortSetM (kEs r Γ y.1.2.1)) z)) z
noncomputable def kMeth (e : Expr) (name : Str) (args : List Expr) : ME V := (T.bm.lookup name).elim ((T.me.lookup name).elim neverE fun p => methM c (fun C => if C = p.1 then some p.2 else none) name (r.E Γ e) (kEs r Γ args)) fun p => bmethM c p.1 p.2 (r.E Γ e) (kEs r Γ args)
noncomputable def kCall (pos : Pos) (args : List Expr) : Expr → ME V
 | .Name x _ => kLz r Γ x args (kCallN c T r Γ x args)
 | .Attribute e name apos => cond (nca e && Nat.blt args.length 30 && apos.endLine == pos.line) (kMeth c T r Γ e name args) neverE
 | _ => neverE
noncomputable def kE : Expr → ME V
 | .Name x _ => kName T Γ x
 | .Constant k _ _ => kConst k
 | .BinOp l op x _ => binM op (r.E Γ l) (r.E Γ x)
 | .UnaryOp op e _ => op.casesOn neverE (notM (r.E Γ e)) neverE (negM (r.E Γ e))
 | .Compare l ops cs _ => (one ops).elim neverE fun o => (one cs).elim neverE fun x => cond (pl x.1) (cmpvM o.1 (r.E Γ l) (r.E Γ x.1)) neverE
 | .BoolOp op es _ => es.casesOn neverE fun e es => kVs r Γ op es e
 | .IfExp t a b _ => iteM (r.T Γ t) (r.E Γ a) (r.E Γ b)
 | .Attribute e x _ => cond (nca e) ((T.at_.lookup x).elim neverE fun C => attrM (fun D => D == C) x (r.E Γ e)) neverE
 | .Subscript e i _ => kSub r Γ e i
 | .Tuple es _ _ => tupM (kEs r Γ es)
 | .List es p => cond (T.tr.contains p) (tlM (kEs r Γ es)) (flM (kEs r Γ es))
 | .Dict ks vs p => kDict r Γ (!T.nd.contains p) ks vs
 | .JoinedStr es _ => kJoin r Γ es
 | .FormattedValue e cv sp _ => cond (cv == -1 && sp.isNone) (fmtM (r.E Γ e)) neverE
 | .ListComp e g s p => (asComp (.ListComp e g s p)).elim neverE fun x => kComp T r Γ x.1
 | .Call f args kw pos => (noKw kw).elim neverE fun _ => cond (args.all pl) (kCall c T r Γ pos args f) neverE
 | _ => neverE
noncomputable def kT : Expr → ME Bool
 | .UnaryOp op e _ => op.casesOn neverE (nottM (r.T Γ e)) neverE neverE
 | .Compare l ops cs _ => (one ops).elim neverE fun o => (one cs).elim neverE fun x => cond (pl x.1) (cmpM o.1 (r.E Γ l) (r.E Γ x.1)) neverE
 | .BoolOp op es _ => kTs r Γ op es
 | .IfExp t a b _ => iteM (r.T Γ t) (r.T Γ a) (r.T Γ b)
 | e => truM (r.E Γ e)
noncomputable def kAs (bs : Nat) (l : List Expr) : Nat → Env' → List V → Mine.St → (Env' → Mine.St → Prop) → Prop :=
 l.rec nilA fun t _ m => consA (r.A Γ bs false t) m
noncomputable def kA (bs : Nat) (l : Bool) : Expr → MA
 | .Name x _ => ((Γ.lookup x).bind id).elim nevA fun i => cond (Nat.ble bs i) (nmA i) nevA
 | .Attribute e x _ => (T.st.lookup x).elim nevA fun C => attrA (fun D => D == C) x (r.E Γ e)
 | .Subscript e i _ => subA (r.E Γ e) (r.E Γ i)
 | .Tuple ts _ _ => cond (ts.all pl) (tupA ts.length (kAs r Γ bs ts)) nevA
 | _ => nevA
end
noncomputable def kk (c : Ctx) (T : Tab) (n : Nat) : KK := n.rec ⟨fun _ _ => neverE, fun _ _ => neverE, fun _ _ _ _ => nevA⟩ fun _ r => ⟨kE c T r, kT r, kA T r⟩
section
variable (c : Ctx) (T : Tab) (r : KK) (Γ : Gm) (bs : Nat)
noncomputable def slotsOf (nm : List (Str × Pos)) : List Nat := nm.filterMap fun p => (Γ.lookup p.1).bind id
noncomputable def kAN (nm : List (Str × Pos)) (es : List Expr) : MS :=
 cond ((nm.length == (slotsOf Γ nm).length && decide (slotsOf Γ nm).Nodup && (nm.zip (slotsOf Γ nm)).all fun p => Γ.lookup p.1.1 == some (some p.2) && decide (bs ≤ p.2)) && !es.all (constantsAlone 8)) (namesM (slotsOf Γ nm) (kEs r Γ es)) neverS
noncomputable def kAsg (v : Expr) : Expr → MS
 | .Tuple ts k q => (asTup v).elim (cond (nco v && v.ctorIdx != 25) (asgM (r.A Γ bs false (.Tuple ts k q)) (r.E Γ v)) neverS) fun x => (namesOf ts).elim neverS fun nm => kAN r Γ bs nm.1 x.1.1
 | .Name x p => (asComp v).elim (cond (nco v) (asgM (r.A Γ bs false (.Name x p)) (r.E Γ v)) neverS) fun y => ((Γ.lookup x).bind id).elim neverS fun i => cond (Nat.ble bs i) (asgM (nmA i) (kComp T r Γ y.1)) neverS
 | .Attribute e x p => cond (nco v) (asgM (r.A Γ bs false (.Attribute e x p)) (r.E Γ v)) neverS
 | .Subscript e i p => cond (nco v) (asgM (r.A Γ bs false (.Subscript e i p)) (r.E Γ v)) neverS
 | _ => neverS
noncomputable def kS (B : List Stmt → MS) : Stmt → MS
 | .Return e _ => e.elim ret0M fun e => retM (r.E Γ e)
 | .If t a b _ => ifM (r.T Γ t) (B a) (B b)
 | .While t b o _ => o.casesOn (whileM (r.T Γ t) (B b)) fun _ _ => neverS
 | .For t i b o _ => o.casesOn (cond (pl i) (forM (kI r Γ i t) (r.A Γ bs false t) (B b)) neverS) fun _ _ => neverS
 | .Expr e _ => cond (nco e) (exprM (r.E Γ e)) neverS
 | .Continue _ => contM
 | .Break _ => brkM
 | .Assign ts v _ => (one ts).elim neverS fun t => kAsg T r Γ bs v t.1
 | _ => neverS
noncomputable def kB (S : Stmt → MS) (l : List Stmt) : MS := l.rec skipM fun s _ m => seqM (S s) m
noncomputable def kBn (n : Nat) : List Stmt → MS := n.rec (fun _ => neverS) fun _ m => kB (kS T r Γ bs m)
end
end
section
set_option backward.match.sparseCases false
section
variable {c : Ctx} {T : Tab} {r : KK} {Γ : Gm}
theorem sim_nT {e : Expr} : SimT c Γ e neverE := fun _ _ _ _ _ _ _ _ _ _ _ _ _ _ h => h.elim
theorem sim_nEs {e : List Expr} : SimEs c Γ e neverE := fun _ _ _ _ _ _ _ _ _ _ _ _ _ _ _ h => h.elim
theorem sim_nI {e t : Expr} : SimI c Γ e t neverE := fun _ _ _ _ _ _ _ _ _ _ _ _ _ _ h => h.elim
theorem sim_nF {e : List Expr} : SimF c Γ e neverE := fun _ _ _ _ _ _ _ _ _ _ _ _ _ _ h => h.elim
theorem sim_nA {bs : Nat} {t : Expr} : SimA c Γ bs t nevA := fun _ _ _ _ _ _ _ _ _ _ _ _ _ _ _ _ h => h.elim
theorem eq_sub {α : Type} {P : α → Prop} {a b : α} (e : a = b) (h : P b) : P a := e ▸ h
theorem kName_ok (ok : c.Ok) (hT : T.Ok c) (x : Str) (p : Pos) : SimE c Γ (.Name x p) (kName T Γ x) := by
 unfold kName
 cases hd : x == ("__debug__" : Str) with
 | true => exact sim_neverE
 | false =>
 cases hn : x == ("__classdict__" : Str) with
 | true => exact sim_neverE
 | false =>
 refine k_elimE (o := Γ.lookup x) sim_neverE fun o ho => ?_
 cases o with
 | none => exact k_elimE (o := T.gv.lookup x) sim_neverE fun y hy => (hT.gv x y hy).elim fun _ k => sim_gl ok k.1 k.2 ho hd
 | some i => exact sim_loc ho hd hn
theorem kEs_ok (hr : KK.Ok c r) (es : List Expr) : SimEs c Γ es (kEs r Γ es) := by
 induction es with
 | nil => exact sim_nil
 | cons e es ih => exact k_cond sim_nEs fun h => sim_cons (hr.E _ _) ih ((pl_of h).star _)
theorem kTs_ok (hr : KK.Ok c r) (op : BoolOp) (es : List Expr) : SimTs c Γ op es (kTs r Γ op es) := by
 induction es with
 | nil =>
  cases op
  ·exact simT_and0
  ·exact simT_or0
 | cons e es ih =>
  cases op
  ·exact simT_andc (hr.T _ _) ih
  ·exact simT_orc (hr.T _ _) ih
theorem kVs_ok (hr : KK.Ok c r) (op : BoolOp) (e : Expr) (es : List Expr) : SimVs c Γ op (e :: es) (kVs r Γ op es e) := by
 induction es generalizing e with
 | nil => exact simV_one (hr.E _ _)
 | cons f es ih =>
  cases op
  ·exact simV_and (hr.E _ _) (ih _)
  ·exact simV_or (hr.E _ _) (ih _)
theorem kPt_ok (hr : KK.Ok c r) (e : Option Expr) : SimPt c Γ e (kPt r Γ e) := by
 cases e
 ·exact simPt_none
 ·exact simPt_some (hr.E _ _)
theorem kPs_ok (hr : KK.Ok c r) (ks : List (Option Expr)) : ∀ vs m, kPs r Γ ks vs = some m → ks = (m.1.map (·.1)).map some ∧ vs = m.1.map (·.2) ∧ SimPs c Γ m.1 m.2 := by
 induction ks with
 | nil => intro vs m h; cases vs with
  | nil => cases h; exact ⟨rfl, rfl, simP_nil⟩
  | cons => cases h
 | cons k ks ih => intro vs m h; cases k with
  | none => cases h
  | some k => cases vs with
   | nil => cases h
   | cons v vs =>
    obtain ⟨m', h1, rfl⟩ := Option.map_eq_some_iff.mp h
    obtain ⟨a, b, d⟩ := ih vs m' h1
    exact ⟨congrArg (some k :: ·) a, congrArg (v :: ·) b, simP_cons (hr.E _ _) (hr.E _ _) d⟩
theorem kDict_ok (hr : KK.Ok c r) (st : Bool) (ks : List (Option Expr)) (vs : List Expr) (p : Pos) : SimE c Γ (.Dict ks vs p) (kDict r Γ st ks vs) := by
 cases ks with
 | nil => cases vs with
  | nil => exact sim_Dict0
  | cons => exact sim_neverE
 | cons k ks =>
  refine k_elimE (o := kPs r Γ (k :: ks) vs) sim_neverE fun m hm => k_cond sim_neverE fun hl => ?_
  obtain ⟨a, b, d⟩ := kPs_ok hr _ _ _ hm
  rw [a]
  exact sim_Dict rfl b (fun e => by rw [e] at a; cases a) (Nat.le_of_ble_eq_true hl) d
theorem kJ_ok (hr : KK.Ok c r) (es : List Expr) : SimJ c Γ es (kJ r Γ es) := by
 induction es with
 | nil => exact simJ_nil
 | cons e es ih => exact simJ_cons (hr.E _ _) ih
theorem kJoin_ok (hr : KK.Ok c r) (es : List Expr) (p : Pos) : SimE c Γ (.JoinedStr es p) (kJoin r Γ es) := by
 cases es with
 | nil => exact sim_neverE
 | cons a es => cases es with
  | nil => exact sim_neverE
  | cons => exact sim_Join (kJ_ok hr _)
theorem kSub_ok (hr : KK.Ok c r) (e i : Expr) (p : Pos) : SimE c Γ (.Subscript e i p) (kSub r Γ e i) := by
 refine k_elim (k_cond sim_neverE fun h => sim_Sub (hr.E _ _) (hr.E _ _) (pl_of h).sub) fun x => ?_
 exact eq_sub (P := fun i => SimE c Γ (.Subscript e i p) _) x.2 (sim_Slice (hr.E _ _) (kPt_ok hr _) (kPt_ok hr _))
theorem isTop {x y : Str} {o : Option (Option Nat)} (h : (x == y && o == some none) = true) : x = y ∧ o = some none :=
 have h := Bool.and_eq_true_iff.mp h
 ⟨eq_of_beq h.1, eq_of_beq h.2⟩
theorem kI_ok (ok : c.Ok) (hr : KK.Ok c r) (it tg : Expr) : SimI c Γ it tg (kI r Γ it tg) := by
 have z : SimI c Γ it tg (itersM (r.E Γ it)) := simI_val (hr.E _ _)
 refine k_elim z fun x => k_cond sim_nI fun hn => k_cond (k_cond z fun hb => ?_) fun ha => ?_
 ·refine k_elim z fun y => ?_
  refine eq_sub (P := fun e => SimI c Γ e tg _) x.2 (eq_sub (P := fun e => SimI c Γ _ e _) y.2 ?_)
  rw [(isTop hb).1]
  exact simI_enum ok (ok.bi (by decide +kernel) (by decide +kernel)) (kEs_ok hr _) (isTop hb).2 (back_of hn)
 ·refine k_elim z fun y => ?_
  refine eq_sub (P := fun e => SimI c Γ e tg _) x.2 (eq_sub (P := fun e => SimI c Γ _ e _) y.2 ?_)
  rw [(isTop ha).1]
  exact simI_zip ok (ok.bi (by decide +kernel) (by decide +kernel)) (kEs_ok hr _) (isTop ha).2 (back_of hn)
theorem kF_ok (hr : KK.Ok c r) (l : List Expr) : SimF c Γ l (kF r Γ l) := by
 cases l with
 | nil => exact simF_nil
 | cons e es => cases es with
  | nil => exact simF_one (hr.T _ _)
  | cons => exact sim_nF
theorem and3 {a b d : Bool} (h : (a && b && d) = true) : a = true ∧ b = true ∧ d = true := by
 cases a <;> cases b <;> first | exact ⟨rfl, rfl, h⟩ | cases h
theorem kComp_ok (ok : c.Ok) (hr : KK.Ok c r) (x : CompX) : SimE c Γ x.e (kComp T r Γ x) := by
 refine k_elim sim_neverE fun p => k_cond sim_neverE fun h => ?_
 have h := and3 h
 exact sim_ListComp h.1 (eq_of_beq h.2.1) (kI_ok ok hr _ _) (hr.A _ _ _ _) (kF_ok hr _) (hr.E _ _) (pl_of h.2.2).set
theorem isTop2 {x y x' y' : Str} {o p : Option (Option Nat)} (h : (x == y && x' == y' && o == some none && p == some none) = true) : x = y ∧ x' = y' ∧ o = some none ∧ p = some none :=
 have h := and3 h
 have k := Bool.and_eq_true_iff.mp h.1
 ⟨eq_of_beq k.1, eq_of_beq k.2, eq_of_beq h.2.1, eq_of_beq h.2.2⟩
theorem kLz_ok (ok : c.Ok) (hr : KK.Ok c r) {x : Str} {args : List Expr} {z : ME V} {p q : Pos} (hz : SimE c Γ (.Call (.Name x p) args [] q) z) : SimE c Γ (.Call (.Name x p) args [] q) (kLz r Γ x args z) := by
 refine k_elim hz fun e => k_elim hz fun y => k_cond hz fun hn => k_cond (k_cond hz fun hb => ?_) fun ha => ?_
 ·have h := isTop2 hb
  refine eq_sub (P := fun l => SimE c Γ (.Call (.Name x p) l [] q) _) e.2 (eq_sub (P := fun a => SimE c Γ (.Call (.Name x p) [a] [] q) _) y.2 ?_)
  rw [h.1, h.2.1]
  exact sim_SortSet ok (ok.bi (by decide +kernel) (by decide +kernel)) (ok.bi (by decide +kernel) (by decide +kernel)) (kEs_ok hr _) h.2.2.1 h.2.2.2 (back_of hn)
 ·have h := isTop2 ha
  refine eq_sub (P := fun l => SimE c Γ (.Call (.Name x p) l [] q) _) e.2 (eq_sub (P := fun a => SimE c Γ (.Call (.Name x p) [a] [] q) _) y.2 ?_)
  rw [h.1, h.2.1]
  exact sim_ListZip ok (ok.bi (by decide +kernel) (by decide +kernel)) (ok.bi (by decide +kernel) (by decide +kernel)) (kEs_ok hr _) h.2.2.1 h.2.2.2 (back_of hn)
theorem kCallN_ok (ok : c.Ok) (hT : T.Ok c) (hr : KK.Ok c r) {x : Str} {args : List Expr} (hn : args.all pl = true) (p q : Pos) : SimE c Γ (.Call (.Name x p) args [] q) (kCallN c T r Γ x args) := by
 refine k_elimE sim_neverE fun f hf => k_cond sim_neverE fun h => ?_
 have h := Bool.and_eq_true_iff.mp h
 exact sim_Call ok (hT.fn x f hf).1 (hT.fn x f hf).2 (kEs_ok hr _) (eq_of_beq h.1) (back_of hn) ((Bool.not_eq_true' _).mp h.2)
theorem form_of {n : Nat} {ts : List (Bool × Sem Value)} (h : ts.all (!·.1) = true) (hn : n < 30) : methodCallForm (n + 0) ts [] = true := by
 unfold methodCallForm
 rw [h]
 exact decide_eq_true hn
theorem meth_of {e : Expr} {name : Str} {args : List Expr} {apos pos : Pos} (hn : args.all pl = true) (h : (nca e && Nat.blt args.length 30 && apos.endLine == pos.line) = true) (env : Env) :
  eval (.Call (.Attribute e name apos) args [] pos) env = (do
   let ov ← eval e env
   standAt apos.atName
   let (f, first) ← holding [ov] (getMethod ov name (do return (← importBound e env).getD true))
   callWith pos f first (backTo pos (starEach args env)) []) := by
 have h := and3 h
 have h3 : eval (.Call (.Attribute e name apos) args [] pos) env = (do
  let ov ← attributeBase e name env (eval e env)
  standAt apos.atName
  methodCall e name apos pos env ov (args.length + 0) (backTo pos (starEach args env)) []) := rfl
 rw [h3, base_of h.1]
 unfold methodCall calleeOf methodCallPos
 rw [form_of (backs_of hn env) (Nat.blt_eq.mp h.2.1), show (!true || apos.endLine == pos.line) = true from h.2.2]
 rfl
theorem kMeth_ok (ok : c.Ok) (hT : T.Ok c) (hr : KK.Ok c r) {e : Expr} {name : Str} {args : List Expr} {apos pos : Pos} (hn : args.all pl = true) (h : (nca e && Nat.blt args.length 30 && apos.endLine == pos.line) = true) :
  SimE c Γ (.Call (.Attribute e name apos) args [] pos) (kMeth c T r Γ e name args) :=
 k_elimE (k_elimE sim_neverE fun _ hp => sim_Meth ok (hr.E _ _) (one_of (hT.me _ _ hp)) (kEs_ok hr _) (back_of hn) (meth_of hn h))
  fun _ hb => sim_BMeth ok (hr.E _ _) (hT.bm _ _ hb).1 (hT.bm _ _ hb).2.1 (hT.bm _ _ hb).2.2 (kEs_ok hr _) (back_of hn) (meth_of hn h)
theorem kCall_ok (ok : c.Ok) (hT : T.Ok c) (hr : KK.Ok c r) {args : List Expr} (hn : args.all pl = true) (pos : Pos) (f : Expr) : SimE c Γ (.Call f args [] pos) (kCall c T r Γ pos args f) := by
 cases f with
 | Name x p => exact kLz_ok ok hr (kCallN_ok ok hT hr hn _ _)
 | Attribute e name apos => exact k_cond sim_neverE fun h => kMeth_ok ok hT hr hn h
 | _ => exact sim_neverE
theorem kE_ok (ok : c.Ok) (hT : T.Ok c) (hr : KK.Ok c r) (Γ : Gm) (e : Expr) : SimE c Γ e (kE c T r Γ e) := by
 cases e with
 | Name x p => exact kName_ok ok hT x p
 | Constant k => cases k with
  | none => exact sim_none
  | bool => exact sim_bool
  | int => exact sim_int
  | str => exact sim_str
  | _ => exact sim_neverE
 | BinOp => exact sim_BinOp (hr.E _ _) (hr.E _ _)
 | UnaryOp op => cases op with
  | Not => exact sim_Not (hr.E _ _)
  | USub => exact sim_USub (hr.E _ _)
  | _ => exact sim_neverE
 | Compare l ops cs =>
  refine k_elim sim_neverE fun o => k_elim sim_neverE fun x => k_cond sim_neverE fun h => ?_
  exact eq_sub (P := fun l => SimE c Γ (.Compare _ l _ _) _) o.2 <| eq_sub (P := fun r => SimE c Γ (.Compare _ _ r _) _) x.2 <| sim_Cmp ok (hr.E _ _) (hr.E _ _) ((pl_of h).marks _)
 | BoolOp op es => cases es with
  | nil => exact sim_neverE
  | cons => exact sim_BoolOp (kVs_ok hr _ _ _)
 | IfExp => exact sim_IfExp (hr.T _ _) (hr.E _ _) (hr.E _ _)
 | Attribute e x p => exact k_cond sim_neverE fun h => k_elimE sim_neverE fun C hC => sim_Attr ok (hr.E _ _) (this_of (hT.at_ _ _ hC)) (base_of h)
 | Subscript => exact kSub_ok hr _ _ _
 | Tuple => exact sim_Tuple (kEs_ok hr _)
 | List es p => exact k_cond (sim_List (kEs_ok hr _)) fun _ => sim_TList (kEs_ok hr _)
 | Dict => exact kDict_ok hr _ _ _ _
 | JoinedStr => exact kJoin_ok hr _ _
 | FormattedValue e cv sp p =>
  refine k_cond sim_neverE fun h => ?_
  have h := Bool.and_eq_true_iff.mp h
  rw [eq_of_beq h.1, Option.isNone_iff_eq_none.mp h.2]
  exact sim_Fmt (hr.E _ _)
 | ListComp e g s p => exact k_elim sim_neverE fun x => eq_sub (P := fun e => SimE c Γ e _) x.2 (kComp_ok ok hr x.1)
 | Call f args kw pos => exact k_elim sim_neverE fun x => k_cond sim_neverE fun h => eq_sub (P := fun k => SimE c Γ (.Call f args k pos) _) x.down (kCall_ok ok hT hr h _ _)
 | _ => exact sim_neverE
theorem kT_ok (ok : c.Ok) (hr : KK.Ok c r) (Γ : Gm) (e : Expr) : SimT c Γ e (kT r Γ e) := by
 cases e with
 | UnaryOp op => cases op with
  | Not => exact simT_Not (hr.T _ _)
  | _ => exact sim_nT
 | Compare l ops cs =>
  refine k_elim sim_nT fun o => k_elim sim_nT fun x => k_cond sim_nT fun h => ?_
  exact eq_sub (P := fun l => SimT c Γ (.Compare _ l _ _) _) o.2 <| eq_sub (P := fun r => SimT c Γ (.Compare _ _ r _) _) x.2 <| simT_Cmp ok (hr.E _ _) (hr.E _ _) ((pl_of h).marks _)
 | BoolOp => exact simT_BoolOp (kTs_ok hr _ _)
 | IfExp => exact simT_IfExp (hr.T _ _) (hr.T _ _) (hr.T _ _)
 | _ => exact simT_val (hr.E _ _) (fun _ _ => rfl)
theorem kAs_ok (hr : KK.Ok c r) (bs : Nat) {ts : List Expr} (h : ts.all pl = true) : SimAs c Γ bs ts (kAs r Γ bs ts) :=
 pls_of (P := fun ts => SimAs c Γ bs ts (kAs r Γ bs ts)) h simAs_nil fun e es s ih => simAs_cons (hr.A _ _ _ _) ih fun env => congrArg (List.map (·.2)) (s.asE es env)
theorem bind_id {α : Type} {o : Option (Option α)} {x : α} (h : o.bind id = some x) : o = some (some x) := by
 cases o with
 | none => cases h
 | some y => exact congrArg some h
theorem kA_ok (ok : c.Ok) (hT : T.Ok c) (hr : KK.Ok c r) (Γ : Gm) (bs : Nat) (l : Bool) (t : Expr) : SimA c Γ bs t (kA T r Γ bs l t) := by
 cases t with
 | Name x p => exact k_elimE sim_nA fun i hi => k_cond sim_nA fun h => simA_Name (bind_id hi) (Nat.le_of_ble_eq_true h)
 | Attribute e x p => exact k_elimE sim_nA fun C hC => simA_Attr ok (hr.E _ _) (this_of (hT.st _ _ hC))
 | Subscript => exact simA_Sub (hr.E _ _) (hr.E _ _)
 | Tuple ts =>
  refine k_cond sim_nA fun h => simA_Tuple (kAs_ok hr _ h) (asN_of h) (asS_of h)
 | _ => exact sim_nA
end
theorem kk_ok {c : Ctx} {T : Tab} (ok : c.Ok) (hT : T.Ok c) (n : Nat) : KK.Ok c (kk c T n) := by
 induction n with
 | zero => exact ⟨fun _ _ => sim_neverE, fun _ _ => sim_nT, fun _ _ _ _ => sim_nA⟩
 | succ n ih => exact ⟨kE_ok ok hT ih, kT_ok ok ih, kA_ok ok hT ih⟩
section
variable {c : Ctx} {T : Tab} {r : KK} {Γ : Gm} {bs : Nat}
theorem kAN_ok (hr : KK.Ok c r) {nm : List (Str × Pos)} {es ts : List Expr} (h : ts = nm.map fun p => Expr.Name p.1 p.2) {k k' : Nat} {tp vp pos : Pos} : SimS c Γ bs (.Assign [.Tuple ts k tp] (.Tuple es k' vp) pos) (kAN r Γ bs nm es) :=
 k_cond sim_neverS fun h2 => have h2 := Bool.and_eq_true_iff.mp h2; sim_AN h (kEs_ok hr _) h2.1 ((Bool.not_eq_true' _).mp h2.2)
theorem asgComp_ok (ok : c.Ok) (hr : KK.Ok c r) {x : CompX} {y : Str} {i : Nat} {p pos : Pos} (hi : Γ.lookup y = some (some i)) (hb : bs ≤ i) : SimS c Γ bs (.Assign [.Name y p] x.e pos) (asgM (nmA i) (kComp T r Γ x)) := by
 have hz : SimS c Γ bs (.Assign [.Name y p] x.e pos) (asgM (nmA i) neverE) := fun _ _ _ _ _ _ _ _ _ _ _ _ _ h => h.elim
 refine k_elim (P := fun m => SimS c Γ bs _ (asgM (nmA i) m)) hz fun q => k_cond (P := fun m => SimS c Γ bs _ (asgM (nmA i) m)) hz fun h => ?_
 have h := and3 h
 exact sim_AssignComp h.1 (eq_of_beq h.2.1) (kI_ok ok hr _ _) (hr.A _ _ _ _) (kF_ok hr _) (hr.E _ _) hi hb (pl_of h.2.2).set
theorem swap1_of {t v : Expr} {n : Nat} (h : nco v = true) (env : Env) : swapsWithSole [t] v n env = pure false := swap_of h env
theorem sw_of {ts : List Expr} {k : Nat} {q : Pos} {v : Expr} (h : (v.ctorIdx != 25) = true) (env : Env) : swappedStores [.Tuple ts k q] v env = pure none := by cases v <;> first | rfl | cases h
theorem kAsg_ok (ok : c.Ok) (hr : KK.Ok c r) (t v : Expr) (pos : Pos) : SimS c Γ bs (.Assign [t] v pos) (kAsg T r Γ bs v t) := by
 cases t with
 | Tuple ts k q =>
  have z : SimS c Γ bs (.Assign [.Tuple ts k q] v pos) (cond (nco v && v.ctorIdx != 25) (asgM (r.A Γ bs false (.Tuple ts k q)) (r.E Γ v)) neverS) := k_cond sim_neverS fun h => have h := Bool.and_eq_true_iff.mp h; sim_Assign (hr.A _ _ _ _) (hr.E _ _) (swap1_of h.1) (sw_of h.2) (fun _ => rfl)
  exact k_elim z fun x => eq_sub (P := fun e => SimS c Γ bs (.Assign _ e pos) _) x.2 (k_elim sim_neverS fun nm => kAN_ok hr nm.2)
 | Name y p =>
  refine k_elim (k_cond sim_neverS fun h => sim_Assign (hr.A _ _ _ _) (hr.E _ _) (swap1_of h) (fun _ => rfl) (fun _ => rfl)) fun x => ?_
  exact eq_sub (P := fun e => SimS c Γ bs (.Assign _ e pos) _) x.2 (k_elimE sim_neverS fun i hi => k_cond sim_neverS fun hb => asgComp_ok ok hr (bind_id hi) (Nat.le_of_ble_eq_true hb))
 | Attribute => exact k_cond sim_neverS fun h => sim_Assign (hr.A _ _ _ _) (hr.E _ _) (swap1_of h) (fun _ => rfl) (fun _ => rfl)
 | Subscript => exact k_cond sim_neverS fun h => sim_Assign (hr.A _ _ _ _) (hr.E _ _) (swap1_of h) (fun _ => rfl) (fun _ => rfl)
 | _ => exact sim_neverS
theorem kB_ok {S : Stmt → MS} (h : ∀ s, SimS c Γ bs s (S s)) (l : List Stmt) : SimB c Γ bs l (kB S l) := by
 induction l with
 | nil => exact simB_nil
 | cons s l ih => exact simB_cons (h s) ih
theorem kS_ok (ok : c.Ok) (hr : KK.Ok c r) {B : List Stmt → MS} (hB : ∀ l, SimB c Γ bs l (B l)) (s : Stmt) : SimS c Γ bs s (kS T r Γ bs B s) := by
 cases s with
 | Return e => cases e with
  | none => exact sim_Return0
  | some => exact sim_Return (hr.E _ _)
 | If => exact sim_If (hr.T _ _) (hB _) (hB _)
 | While t b o => cases o with
  | nil => exact sim_While (hr.T _ _) (hB _)
  | cons => exact sim_neverS
 | For t i b o => cases o with
  | nil => exact k_cond sim_neverS fun h => sim_For (kI_ok ok hr _ _) (hr.A _ _ _ _) (hB _) (pl_of h).set
  | cons => exact sim_neverS
 | Expr => exact k_cond sim_neverS fun h => sim_Expr (hr.E _ _) (swap_of h)
 | Continue => exact sim_Continue
 | Break => exact sim_Break
 | Assign ts v p => exact k_elim sim_neverS fun t => eq_sub (P := fun l => SimS c Γ bs (.Assign l v p) _) t.2 (kAsg_ok ok hr t.1 v p)
 | _ => exact sim_neverS
theorem kBn_ok (ok : c.Ok) (hr : KK.Ok c r) (n : Nat) : ∀ l, SimB c Γ bs l (kBn T r Γ bs n l) := by
 induction n with
 | zero => exact fun _ _ _ _ _ _ _ _ _ _ _ _ _ _ h => h.elim
 | succ n ih => exact kB_ok (kS_ok ok hr ih)
end
theorem SimB.of {c : Ctx} {T : Tab} {Γ : Gm} {l : List Stmt} {m : MS} (ok : c.Ok) (hT : T.Ok c) (h : kBn T (kk c T 30) Γ 0 12 l = m) : SimB c Γ 0 l m := h ▸ kBn_ok ok (kk_ok ok hT 30) 12 l
theorem SimEs.of {c : Ctx} {T : Tab} {Γ : Gm} {l : List Expr} {m : ME (List V)} (ok : c.Ok) (hT : T.Ok c) (h : kEs (kk c T 30) Γ l = m) : SimEs c Γ l m := h ▸ kEs_ok (kk_ok ok hT 30) l
end
section
set_option maxHeartbeats 4000000
noncomputable abbrev KF (P : Params) : Frag := Head.KF P
noncomputable abbrev cx (w : World) (h0 : Heap) (mg mb : Str → Option Value) : Ctx := ⟨Head.pr, w, Head.KF w.params, h0, mg, mb⟩
theorem pa_list : PlainAttrs "list" := F.plainAttrs_list
theorem pa_dict : PlainAttrs "dict" := F.plainAttrs_dict
theorem pa_int : PlainAttrs "int" := F.plainAttrs_int
theorem ty_append : typeOf (.builtin "list.append") = pure (.type "method_descriptor") := by kernel_rfl
theorem ty_count : typeOf (.builtin "list.count") = pure (.type "method_descriptor") := by kernel_rfl
theorem ty_get : typeOf (.builtin "dict.get") = pure (.type "method_descriptor") := by kernel_rfl
theorem ty_bit_length : typeOf (.builtin "int.bit_length") = pure (.type "method_descriptor") := by kernel_rfl
theorem len1 {α : Type} {l : List α} (h : l.length = 1) : ∃ a, l = [a] := List.length_eq_one_iff.mp h
theorem lenS {α : Type} {l : List α} {n : Nat} (h : l.length = n + 1) : ∃ a r, l = a :: r ∧ r.length = n := by
 cases l with
 | nil => cases h
 | cons a r => exact ⟨a, r, rfl, by simpa using h⟩
theorem len2 {α : Type} {l : List α} (h : l.length = 2) : ∃ a b, l = [a, b] := by
 obtain ⟨a, r, rfl, k⟩ := lenS h; obtain ⟨b, rfl⟩ := len1 k; exact ⟨_, _, rfl⟩
theorem len3 {α : Type} {l : List α} (h : l.length = 3) : ∃ a b c, l = [a, b, c] := by
 obtain ⟨a, r, rfl, k⟩ := lenS h; obtain ⟨b, c, rfl⟩ := len2 k; exact ⟨_, _, _, rfl⟩
theorem len4 {α : Type} {l : List α} (h : l.length = 4) : ∃ a b c d, l = [a, b, c, d] := by
 obtain ⟨a, r, rfl, k⟩ := lenS h; obtain ⟨b, c, d, rfl⟩ := len3 k; exact ⟨_, _, _, _, rfl⟩
theorem len5 {α : Type} {l : List α} (h : l.length = 5) : ∃ a b c d e, l = [a, b, c, d, e] := by
 obtain ⟨a, r, rfl, k⟩ := lenS h; obtain ⟨b, c, d, e, rfl⟩ := len4 k; exact ⟨_, _, _, _, _, rfl⟩
theorem len6 {α : Type} {l : List α} (h : l.length = 6) : ∃ a b c d e f, l = [a, b, c, d, e, f] := by
 obtain ⟨a, r, rfl, k⟩ := lenS h; obtain ⟨b, c, d, e, f, rfl⟩ := len5 k; exact ⟨_, _, _, _, _, _, rfl⟩
theorem gn_mask_of {P : Params} : nsIn (KF P) mainGlobals ("mask_of" : Str) = some (some (.ref 142)) := by kernel_rfl
theorem gk_mask_of {P : Params} : keepOk (KF P) (.ref 142) = true := by kernel_rfl
theorem at_numbers {P : Params} : attrOk (KF P) 741 ("numbers" : Str) = true := by kernel_rfl
theorem at_term_ops {P : Params} : attrOk (KF P) 741 ("term_ops" : Str) = true := by kernel_rfl
theorem bi_len {c : Ctx} (ok : c.Ok) : c.mg ("len" : Str) = none ∧ c.mb ("len" : Str) = some (.builtin "len") := ok.bi (by decide +kernel) (by decide +kernel)
theorem at_term_args {P : Params} : attrOk (KF P) 741 ("term_args" : Str) = true := by kernel_rfl
theorem at_term_sorts {P : Params} : attrOk (KF P) 741 ("term_sorts" : Str) = true := by kernel_rfl
theorem at_term_datas {P : Params} : attrOk (KF P) 741 ("term_datas" : Str) = true := by kernel_rfl
theorem st_sort_names {P : Params} : setOk (KF P) 741 ("sort_names" : Str) = true := by kernel_rfl
theorem st_sort_widths {P : Params} : setOk (KF P) 741 ("sort_widths" : Str) = true := by kernel_rfl
theorem st_fun_names {P : Params} : setOk (KF P) 741 ("fun_names" : Str) = true := by kernel_rfl
theorem st_fun_args {P : Params} : setOk (KF P) 741 ("fun_args" : Str) = true := by kernel_rfl
theorem st_fun_results {P : Params} : setOk (KF P) 741 ("fun_results" : Str) = true := by kernel_rfl
theorem st_fresh_count {P : Params} : setOk (KF P) 741 ("fresh_count" : Str) = true := by kernel_rfl
theorem st_term_ops {P : Params} : setOk (KF P) 741 ("term_ops" : Str) = true := by kernel_rfl
theorem st_term_args {P : Params} : setOk (KF P) 741 ("term_args" : Str) = true := by kernel_rfl
theorem gn_BOOL {P : Params} : nsIn (KF P) mainGlobals ("BOOL" : Str) = some (some (.int 0 425)) := by kernel_rfl
theorem st_term_sorts {P : Params} : setOk (KF P) 741 ("term_sorts" : Str) = true := by kernel_rfl
theorem st_term_datas {P : Params} : setOk (KF P) 741 ("term_datas" : Str) = true := by kernel_rfl
theorem st_numbers {P : Params} : setOk (KF P) 741 ("numbers" : Str) = true := by kernel_rfl
theorem me_make {P : Params} : methOk (KF P) 741 ("make" : Str) 355 = true := by kernel_rfl
theorem st_true_number {P : Params} : setOk (KF P) 741 ("true_number" : Str) = true := by kernel_rfl
theorem st_false_number {P : Params} : setOk (KF P) 741 ("false_number" : Str) = true := by kernel_rfl
theorem su_TermBank___init__ {P : Params} : superOk (KF P) 741 ("__init__" : Str) 741 222 = true := by kernel_rfl
theorem st_bv_numbers {P : Params} : setOk (KF P) 741 ("bv_numbers" : Str) = true := by kernel_rfl
theorem at_fun_names {P : Params} : attrOk (KF P) 741 ("fun_names" : Str) = true := by kernel_rfl
theorem at_fun_args {P : Params} : attrOk (KF P) 741 ("fun_args" : Str) = true := by kernel_rfl
theorem bi_tuple {c : Ctx} (ok : c.Ok) : c.mg ("tuple" : Str) = none ∧ c.mb ("tuple" : Str) = some (.type "tuple") := ok.bi (by decide +kernel) (by decide +kernel)
theorem at_fun_results {P : Params} : attrOk (KF P) 741 ("fun_results" : Str) = true := by kernel_rfl
theorem me_declare_fun {P : Params} : methOk (KF P) 741 ("declare_fun" : Str) 264 = true := by kernel_rfl
theorem at_sort_widths {P : Params} : attrOk (KF P) 741 ("sort_widths" : Str) = true := by kernel_rfl
theorem at_true_number {P : Params} : attrOk (KF P) 741 ("true_number" : Str) = true := by kernel_rfl
theorem at_false_number {P : Params} : attrOk (KF P) 741 ("false_number" : Str) = true := by kernel_rfl
theorem gn_WIDEST {P : Params} : nsIn (KF P) mainGlobals ("WIDEST" : Str) = some (some (.int 4096 431)) := by kernel_rfl
theorem at_bv_numbers {P : Params} : attrOk (KF P) 741 ("bv_numbers" : Str) = true := by kernel_rfl
theorem at_sort_names {P : Params} : attrOk (KF P) 741 ("sort_names" : Str) = true := by kernel_rfl
theorem me_width {P : Params} : methOk (KF P) 741 ("width" : Str) 341 = true := by kernel_rfl
theorem me_bv_sort {P : Params} : methOk (KF P) 741 ("bv_sort" : Str) 647 = true := by kernel_rfl
theorem me_want_bits {P : Params} : methOk (KF P) 741 ("want_bits" : Str) 661 = true := by kernel_rfl
theorem me_want {P : Params} : methOk (KF P) 741 ("want" : Str) 376 = true := by kernel_rfl
theorem gn_BV_SAME {P : Params} : nsIn (KF P) mainGlobals ("BV_SAME" : Str) = some (some (.ref 206)) := by kernel_rfl
noncomputable def gv_BV_SAME : List Str := ["bvand", "bvor", "bvxor", "bvadd", "bvsub", "bvmul", "bvshl", "bvlshr", "bvudiv", "bvurem"]
theorem gt_BV_SAME {P : Params} : (KF P).lookup 206 = some (tsO [("bvand", 437), ("bvor", 438), ("bvxor", 439), ("bvadd", 440), ("bvsub", 441), ("bvmul", 442), ("bvshl", 443), ("bvlshr", 444), ("bvudiv", 445), ("bvurem", 446)]) := by kernel_rfl
theorem gn_BV_ASK {P : Params} : nsIn (KF P) mainGlobals ("BV_ASK" : Str) = some (some (.ref 207)) := by kernel_rfl
noncomputable def gv_BV_ASK : List Str := ["bvult", "bvule", "bvslt", "bvsle"]
theorem gt_BV_ASK {P : Params} : (KF P).lookup 207 = some (tsO [("bvult", 448), ("bvule", 449), ("bvslt", 450), ("bvsle", 451)]) := by kernel_rfl
theorem st_bank {P : Params} : setOk (KF P) 1061 ("bank" : Str) = true := by kernel_rfl
theorem me_true_term {P : Params} : methOk (KF P) 741 ("true_term" : Str) 390 = true := by kernel_rfl
theorem st_yes {P : Params} : setOk (KF P) 1061 ("yes" : Str) = true := by kernel_rfl
theorem me_false_term {P : Params} : methOk (KF P) 741 ("false_term" : Str) 397 = true := by kernel_rfl
theorem st_no {P : Params} : setOk (KF P) 1061 ("no" : Str) = true := by kernel_rfl
theorem st_known {P : Params} : setOk (KF P) 1061 ("known" : Str) = true := by kernel_rfl
theorem at_bank {P : Params} : attrOk (KF P) 1061 ("bank" : Str) = true := by kernel_rfl
theorem me_op {P : Params} : methOk (KF P) 741 ("op" : Str) 313 = true := by kernel_rfl
theorem me_is_bits {P : Params} : methOk (KF P) 1061 ("is_bits" : Str) 909 = true := by kernel_rfl
theorem me_data {P : Params} : methOk (KF P) 741 ("data" : Str) 334 = true := by kernel_rfl
theorem me_bv_num {P : Params} : methOk (KF P) 741 ("bv_num" : Str) 668 = true := by kernel_rfl
theorem gn_one_value {P : Params} : nsIn (KF P) mainGlobals ("one_value" : Str) = some (some (.ref 156)) := by kernel_rfl
theorem gk_one_value {P : Params} : keepOk (KF P) (.ref 156) = true := by kernel_rfl
theorem me_number {P : Params} : methOk (KF P) 1061 ("number" : Str) 923 = true := by kernel_rfl
theorem me_args {P : Params} : methOk (KF P) 741 ("args" : Str) 320 = true := by kernel_rfl
theorem me_two_bits {P : Params} : methOk (KF P) 1061 ("two_bits" : Str) 937 = true := by kernel_rfl
theorem me_bv_one {P : Params} : methOk (KF P) 741 ("bv_one" : Str) 675 = true := by kernel_rfl
theorem gn_two_value {P : Params} : nsIn (KF P) mainGlobals ("two_value" : Str) = some (some (.ref 184)) := by kernel_rfl
theorem gk_two_value {P : Params} : keepOk (KF P) (.ref 184) = true := by kernel_rfl
theorem gn_MIXING {P : Params} : nsIn (KF P) mainGlobals ("MIXING" : Str) = some (some (.ref 744)) := by kernel_rfl
noncomputable def gv_MIXING : List Str := ["bvand", "bvor", "bvxor", "bvadd", "bvmul"]
theorem gt_MIXING {P : Params} : (KF P).lookup 744 = some (tsO [("bvand", 1148), ("bvor", 1149), ("bvxor", 1150), ("bvadd", 1151), ("bvmul", 1152)]) := by kernel_rfl
theorem me_mixed_bits {P : Params} : methOk (KF P) 1061 ("mixed_bits" : Str) 944 = true := by kernel_rfl
theorem me_less_bits {P : Params} : methOk (KF P) 1061 ("less_bits" : Str) 965 = true := by kernel_rfl
theorem me_shifted_bits {P : Params} : methOk (KF P) 1061 ("shifted_bits" : Str) 972 = true := by kernel_rfl
theorem me_divided_bits {P : Params} : methOk (KF P) 1061 ("divided_bits" : Str) 979 = true := by kernel_rfl
theorem me_mixed_number {P : Params} : methOk (KF P) 1061 ("mixed_number" : Str) 958 = true := by kernel_rfl
theorem me_is_turned {P : Params} : methOk (KF P) 1061 ("is_turned" : Str) 951 = true := by kernel_rfl
theorem me_bv_two {P : Params} : methOk (KF P) 741 ("bv_two" : Str) 682 = true := by kernel_rfl
theorem me_one_bits {P : Params} : methOk (KF P) 1061 ("one_bits" : Str) 930 = true := by kernel_rfl
theorem gn_power_of {P : Params} : nsIn (KF P) mainGlobals ("power_of" : Str) = some (some (.ref 205)) := by kernel_rfl
theorem gk_power_of {P : Params} : keepOk (KF P) (.ref 205) = true := by kernel_rfl
theorem me_value_or {P : Params} : methOk (KF P) 1061 ("value_or" : Str) 916 = true := by kernel_rfl
theorem gn__law_spin {P : Params} : nsIn (KF P) mainGlobals ("_law_spin" : Str) = some (some (.ref 1071)) := by kernel_rfl
theorem gk__law_spin {P : Params} : keepOk (KF P) (.ref 1071) = true := by kernel_rfl
theorem bi_range {c : Ctx} (ok : c.Ok) : c.mg ("range" : Str) = none ∧ c.mb ("range" : Str) = some (.type "range") := ok.bi (by decide +kernel) (by decide +kernel)
theorem bi_list {c : Ctx} (ok : c.Ok) : c.mg ("list" : Str) = none ∧ c.mb ("list" : Str) = some (.type "list") := ok.bi (by decide +kernel) (by decide +kernel)
theorem gn__law_turned {P : Params} : nsIn (KF P) mainGlobals ("_law_turned" : Str) = some (some (.ref 1090)) := by kernel_rfl
theorem gk__law_turned {P : Params} : keepOk (KF P) (.ref 1090) = true := by kernel_rfl
theorem gn__law_places {P : Params} : nsIn (KF P) mainGlobals ("_law_places" : Str) = some (some (.ref 1083)) := by kernel_rfl
theorem gk__law_places {P : Params} : keepOk (KF P) (.ref 1083) = true := by kernel_rfl
theorem bi_sum {c : Ctx} (ok : c.Ok) : c.mg ("sum" : Str) = none ∧ c.mb ("sum" : Str) = some (.builtin "sum") := ok.bi (by decide +kernel) (by decide +kernel)
theorem gn__law_values {P : Params} : nsIn (KF P) mainGlobals ("_law_values" : Str) = some (some (.ref 1100)) := by kernel_rfl
theorem gk__law_values {P : Params} : keepOk (KF P) (.ref 1100) = true := by kernel_rfl
theorem gn__law_wheel {P : Params} : nsIn (KF P) mainGlobals ("_law_wheel" : Str) = some (some (.ref 1095)) := by kernel_rfl
theorem gk__law_wheel {P : Params} : keepOk (KF P) (.ref 1095) = true := by kernel_rfl
theorem gn__law_divisor {P : Params} : nsIn (KF P) mainGlobals ("_law_divisor" : Str) = some (some (.ref 1107)) := by kernel_rfl
theorem gk__law_divisor {P : Params} : keepOk (KF P) (.ref 1107) = true := by kernel_rfl
theorem gn__law_many {P : Params} : nsIn (KF P) mainGlobals ("_law_many" : Str) = some (some (.ref 1114)) := by kernel_rfl
theorem gk__law_many {P : Params} : keepOk (KF P) (.ref 1114) = true := by kernel_rfl
theorem bi_int {c : Ctx} (ok : c.Ok) : c.mg ("int" : Str) = none ∧ c.mb ("int" : Str) = some (.type "int") := ok.bi (by decide +kernel) (by decide +kernel)
theorem gn_TermBank {P : Params} : nsIn (KF P) mainGlobals ("TermBank" : Str) = some (some (.ref 741)) := by kernel_rfl
theorem gk_TermBank {P : Params} : keepOk (KF P) (.ref 741) = true := by kernel_rfl
theorem me_fresh_const {P : Params} : methOk (KF P) 741 ("fresh_const" : Str) 278 = true := by kernel_rfl
theorem gn_BitsRewriter {P : Params} : nsIn (KF P) mainGlobals ("BitsRewriter" : Str) = some (some (.ref 1061)) := by kernel_rfl
theorem gk_BitsRewriter {P : Params} : keepOk (KF P) (.ref 1061) = true := by kernel_rfl
theorem gn__law_number {P : Params} : nsIn (KF P) mainGlobals ("_law_number" : Str) = some (some (.ref 1078)) := by kernel_rfl
theorem gk__law_number {P : Params} : keepOk (KF P) (.ref 1078) = true := by kernel_rfl
theorem gn__law_operations {P : Params} : nsIn (KF P) mainGlobals ("_law_operations" : Str) = some (some (.ref 1064)) := by kernel_rfl
noncomputable def gv__law_operations : List Str := ["bvand", "bvor", "bvxor", "bvadd", "bvmul"]
theorem gt__law_operations {P : Params} : (KF P).lookup 1064 = some (tsO [("bvand", 1618), ("bvor", 1619), ("bvxor", 1620), ("bvadd", 1621), ("bvmul", 1622)]) := by kernel_rfl
theorem gn__law_is_plain_right {P : Params} : nsIn (KF P) mainGlobals ("_law_is_plain_right" : Str) = some (some (.ref 1119)) := by kernel_rfl
theorem gk__law_is_plain_right {P : Params} : keepOk (KF P) (.ref 1119) = true := by kernel_rfl
section
variable {c : Ctx} {d : Nat} {ρ : Env'} {σ : St} {Q : Fl → Env' → St → Prop}
noncomputable abbrev G_mask_of : Gm := { sl := [(("width" : Str), some 0)], ck := [] }
noncomputable def b_mask_of : List Stmt := stmtsOf (Head.fd 3 (Head.st 12 none) (Head.s "") [] .none .none .none .none .none .none)
noncomputable def m_mask_of (_c : Ctx) : MS := (seqM (retM (binM .Sub (binM .LShift (intM 1) (locM 0)) (intM 1))) skipM)
noncomputable abbrev G_one_value : Gm := { sl := [(("op" : Str), some 0), (("x" : Str), some 1), (("width" : Str), some 2), (("mask_of" : Str), none)], ck := [] }
noncomputable def b_one_value : List Stmt := stmtsOf (Head.fd 3 (Head.st 14 none) (Head.s "") [] .none .none .none .none .none .none)
noncomputable def m_one_value (c : Ctx) : MS := (seqM (ifM (cmpM .Eq (locM 0) (strM ("bvnot" : Str))) (seqM (retM (binM .Sub (callM c (.ref 142) (consM (locM 2) nilM)) (locM 1))) skipM) skipM) (seqM (ifM (cmpM .Eq (locM 0) (strM ("bvneg" : Str))) (seqM (retM (binM .BitAnd (negM (locM 1)) (callM c (.ref 142) (consM (locM 2) nilM)))) skipM) skipM) (seqM neverS skipM)))
noncomputable abbrev G_power_of : Gm := { sl := [(("x" : Str), some 0)], ck := [] }
noncomputable def b_power_of : List Stmt := stmtsOf (Head.fd 3 (Head.st 21 none) (Head.s "") [] .none .none .none .none .none .none)
noncomputable def m_power_of (c : Ctx) : MS := (seqM (retM (iteM (andM (cmpM .Gt (locM 0) (intM 0)) (andM (cmpM .Eq (binM .BitAnd (locM 0) (binM .Sub (locM 0) (intM 1))) (intM 0)) (yesM true))) (binM .Sub (bmethM c "int" "int.bit_length" (locM 0) nilM) (intM 1)) (negM (intM 1)))) skipM)
noncomputable abbrev G_Bank_make : Gm := { sl := [(("self" : Str), some 0), (("op" : Str), some 1), (("args" : Str), some 2), (("sort" : Str), some 3), (("data" : Str), some 4), (("key" : Str), some 5), (("found" : Str), some 6), (("len" : Str), none)], ck := [] }
noncomputable def b_Bank_make : List Stmt := stmtsOf (Head.fd 3 (Head.st 30 (some 19)) (Head.s "") [] .none .none .none .none .none .none)
noncomputable def m_Bank_make (c : Ctx) : MS := (seqM (asgM (nmA 5) (tupM (consM (locM 1) (consM (locM 2) (consM (locM 3) (consM (locM 4) nilM)))))) (seqM (asgM (nmA 6) (bmethM c "dict" "dict.get" (attrM (fun C => C == 741) ("numbers" : Str) (locM 0)) (consM (locM 5) (consM (intM 0) nilM)))) (seqM (ifM (cmpM .Eq (locM 6) (intM 0)) (seqM (asgM (nmA 6) (callM c (.builtin "len") (consM (attrM (fun C => C == 741) ("term_ops" : Str) (locM 0)) nilM))) (seqM (exprM (bmethM c "list" "list.append" (attrM (fun C => C == 741) ("term_ops" : Str) (locM 0)) (consM (locM 1) nilM))) (seqM (exprM (bmethM c "list" "list.append" (attrM (fun C => C == 741) ("term_args" : Str) (locM 0)) (consM (locM 2) nilM))) (seqM (exprM (bmethM c "list" "list.append" (attrM (fun C => C == 741) ("term_sorts" : Str) (locM 0)) (consM (locM 3) nilM))) (seqM (exprM (bmethM c "list" "list.append" (attrM (fun C => C == 741) ("term_datas" : Str) (locM 0)) (consM (locM 4) nilM))) (seqM (asgM (subA (attrM (fun C => C == 741) ("numbers" : Str) (locM 0)) (locM 5)) (locM 6)) skipM)))))) skipM) (seqM (retM (locM 6)) skipM))))
noncomputable abbrev G_Bank___init__ : Gm := { sl := [(("self" : Str), some 0), (("BOOL" : Str), none)], ck := [] }
noncomputable def b_Bank___init__ : List Stmt := stmtsOf (Head.fd 3 (Head.st 30 (some 0)) (Head.s "") [] .none .none .none .none .none .none)
noncomputable def m_Bank___init__ (c : Ctx) : MS := (seqM (asgM (attrA (fun C => C == 741) ("sort_names" : Str) (locM 0)) (tlM (consM (strM ("Bool" : Str)) (consM (strM ("Int" : Str)) (consM (strM ("Real" : Str)) nilM))))) (seqM (asgM (attrA (fun C => C == 741) ("sort_widths" : Str) (locM 0)) (tlM (consM (intM 0) (consM (intM 0) (consM (intM 0) nilM))))) (seqM (asgM (attrA (fun C => C == 741) ("fun_names" : Str) (locM 0)) (tlM nilM)) (seqM (asgM (attrA (fun C => C == 741) ("fun_args" : Str) (locM 0)) (tlM nilM)) (seqM (asgM (attrA (fun C => C == 741) ("fun_results" : Str) (locM 0)) (tlM nilM)) (seqM (asgM (attrA (fun C => C == 741) ("fresh_count" : Str) (locM 0)) (intM 0)) (seqM (asgM (attrA (fun C => C == 741) ("term_ops" : Str) (locM 0)) (tlM (consM (strM ("" : Str)) nilM))) (seqM (asgM (attrA (fun C => C == 741) ("term_args" : Str) (locM 0)) (tlM (consM (tupM nilM) nilM))) (seqM (asgM (attrA (fun C => C == 741) ("term_sorts" : Str) (locM 0)) (tlM (consM (gloM (.int 0)) nilM))) (seqM (asgM (attrA (fun C => C == 741) ("term_datas" : Str) (locM 0)) (tlM (consM (intM 0) nilM))) (seqM (asgM (attrA (fun C => C == 741) ("numbers" : Str) (locM 0)) dictM) (seqM (asgM (attrA (fun C => C == 741) ("true_number" : Str) (locM 0)) (methM c (fun C => if C = 741 then some 355 else none) ("make" : Str) (locM 0) (consM (strM ("true" : Str)) (consM (tupM nilM) (consM (gloM (.int 0)) (consM (intM 0) nilM)))))) (seqM (asgM (attrA (fun C => C == 741) ("false_number" : Str) (locM 0)) (methM c (fun C => if C = 741 then some 355 else none) ("make" : Str) (locM 0) (consM (strM ("false" : Str)) (consM (tupM nilM) (consM (gloM (.int 0)) (consM (intM 0) nilM)))))) skipM)))))))))))))
noncomputable abbrev G_TermBank___init__ : Gm := { sl := [(("self" : Str), some 0), (("super" : Str), none)], ck := [], fn := (some (640, 628)) }
noncomputable def b_TermBank___init__ : List Stmt := stmtsOf (Head.fd 3 (Head.st 34 (some 0)) (Head.s "") [] .none .none .none .none .none .none)
noncomputable def m_TermBank___init__ (c : Ctx) : MS := (seqM (exprM (superM c 0 (fun C => if C = 741 then some 222 else none) nilM)) (seqM (asgM (attrA (fun C => C == 741) ("bv_numbers" : Str) (locM 0)) dictM) skipM))
noncomputable abbrev G_Bank_declare_fun : Gm := { sl := [(("self" : Str), some 0), (("name" : Str), some 1), (("arg_sorts" : Str), some 2), (("result" : Str), some 3), (("tuple" : Str), none), (("len" : Str), none)], ck := [] }
noncomputable def b_Bank_declare_fun : List Stmt := stmtsOf (Head.fd 3 (Head.st 30 (some 6)) (Head.s "") [] .none .none .none .none .none .none)
noncomputable def m_Bank_declare_fun (c : Ctx) : MS := (seqM (exprM (bmethM c "list" "list.append" (attrM (fun C => C == 741) ("fun_names" : Str) (locM 0)) (consM (locM 1) nilM))) (seqM (exprM (bmethM c "list" "list.append" (attrM (fun C => C == 741) ("fun_args" : Str) (locM 0)) (consM (callM c (.type "tuple") (consM (locM 2) nilM)) nilM))) (seqM (exprM (bmethM c "list" "list.append" (attrM (fun C => C == 741) ("fun_results" : Str) (locM 0)) (consM (locM 3) nilM))) (seqM (retM (binM .Sub (callM c (.builtin "len") (consM (attrM (fun C => C == 741) ("fun_names" : Str) (locM 0)) nilM)) (intM 1))) skipM))))
noncomputable abbrev G_Bank_fresh_const : Gm := { sl := [(("self" : Str), some 0), (("name" : Str), some 1), (("s" : Str), some 2)], ck := [] }
noncomputable def b_Bank_fresh_const : List Stmt := stmtsOf (Head.fd 3 (Head.st 30 (some 8)) (Head.s "") [] .none .none .none .none .none .none)
noncomputable def m_Bank_fresh_const (c : Ctx) : MS := (seqM (retM (methM c (fun C => if C = 741 then some 355 else none) ("make" : Str) (locM 0) (consM (strM ("app" : Str)) (consM (tupM nilM) (consM (locM 2) (consM (methM c (fun C => if C = 741 then some 264 else none) ("declare_fun" : Str) (locM 0) (consM (locM 1) (consM (tupM nilM) (consM (locM 2) nilM)))) nilM)))))) skipM)
noncomputable abbrev G_Bank_op : Gm := { sl := [(("self" : Str), some 0), (("t" : Str), some 1)], ck := [] }
noncomputable def b_Bank_op : List Stmt := stmtsOf (Head.fd 3 (Head.st 30 (some 13)) (Head.s "") [] .none .none .none .none .none .none)
noncomputable def m_Bank_op (_c : Ctx) : MS := (seqM (retM (subM (attrM (fun C => C == 741) ("term_ops" : Str) (locM 0)) (locM 1))) skipM)
noncomputable abbrev G_Bank_args : Gm := { sl := [(("self" : Str), some 0), (("t" : Str), some 1)], ck := [] }
noncomputable def b_Bank_args : List Stmt := stmtsOf (Head.fd 3 (Head.st 30 (some 14)) (Head.s "") [] .none .none .none .none .none .none)
noncomputable def m_Bank_args (_c : Ctx) : MS := (seqM (retM (subM (attrM (fun C => C == 741) ("term_args" : Str) (locM 0)) (locM 1))) skipM)
noncomputable abbrev G_Bank_data : Gm := { sl := [(("self" : Str), some 0), (("t" : Str), some 1)], ck := [] }
noncomputable def b_Bank_data : List Stmt := stmtsOf (Head.fd 3 (Head.st 30 (some 16)) (Head.s "") [] .none .none .none .none .none .none)
noncomputable def m_Bank_data (_c : Ctx) : MS := (seqM (retM (subM (attrM (fun C => C == 741) ("term_datas" : Str) (locM 0)) (locM 1))) skipM)
noncomputable abbrev G_Bank_width : Gm := { sl := [(("self" : Str), some 0), (("t" : Str), some 1)], ck := [] }
noncomputable def b_Bank_width : List Stmt := stmtsOf (Head.fd 3 (Head.st 30 (some 17)) (Head.s "") [] .none .none .none .none .none .none)
noncomputable def m_Bank_width (_c : Ctx) : MS := (seqM (retM (subM (attrM (fun C => C == 741) ("sort_widths" : Str) (locM 0)) (subM (attrM (fun C => C == 741) ("term_sorts" : Str) (locM 0)) (locM 1)))) skipM)
noncomputable abbrev G_Bank_want : Gm := { sl := [(("self" : Str), some 0), (("t" : Str), some 1), (("s" : Str), some 2), (("where" : Str), some 3)], ck := [] }
noncomputable def b_Bank_want : List Stmt := stmtsOf (Head.fd 3 (Head.st 30 (some 22)) (Head.s "") [] .none .none .none .none .none .none)
noncomputable def m_Bank_want (_c : Ctx) : MS := (seqM (ifM (cmpM .NotEq (subM (attrM (fun C => C == 741) ("term_sorts" : Str) (locM 0)) (locM 1)) (locM 2)) (seqM neverS skipM) skipM) skipM)
noncomputable abbrev G_Bank_true_term : Gm := { sl := [(("self" : Str), some 0)], ck := [] }
noncomputable def b_Bank_true_term : List Stmt := stmtsOf (Head.fd 3 (Head.st 30 (some 24)) (Head.s "") [] .none .none .none .none .none .none)
noncomputable def m_Bank_true_term (_c : Ctx) : MS := (seqM (retM (attrM (fun C => C == 741) ("true_number" : Str) (locM 0))) skipM)
noncomputable abbrev G_Bank_false_term : Gm := { sl := [(("self" : Str), some 0)], ck := [] }
noncomputable def b_Bank_false_term : List Stmt := stmtsOf (Head.fd 3 (Head.st 30 (some 25)) (Head.s "") [] .none .none .none .none .none .none)
noncomputable def m_Bank_false_term (_c : Ctx) : MS := (seqM (retM (attrM (fun C => C == 741) ("false_number" : Str) (locM 0))) skipM)
noncomputable abbrev G_TermBank_bv_sort : Gm := { sl := [(("self" : Str), some 0), (("width" : Str), some 1), (("WIDEST" : Str), none), (("len" : Str), none)], ck := [] }
noncomputable def b_TermBank_bv_sort : List Stmt := stmtsOf (Head.fd 3 (Head.st 34 (some 1)) (Head.s "") [] .none .none .none .none .none .none)
noncomputable def m_TermBank_bv_sort (c : Ctx) : MS := (seqM (ifM (cmpM .Lt (locM 1) (intM 1)) (seqM neverS skipM) skipM) (seqM (ifM (cmpM .Gt (locM 1) (gloM (.int 4096))) (seqM neverS skipM) skipM) (seqM (ifM (cmpM .NotIn (locM 1) (attrM (fun C => C == 741) ("bv_numbers" : Str) (locM 0))) (seqM (exprM (bmethM c "list" "list.append" (attrM (fun C => C == 741) ("sort_names" : Str) (locM 0)) (consM (joinM (consJ (strM ("(_ BitVec " : Str)) (consJ (fmtM (locM 1)) (consJ (strM (")" : Str)) nilJ)))) nilM))) (seqM (exprM (bmethM c "list" "list.append" (attrM (fun C => C == 741) ("sort_widths" : Str) (locM 0)) (consM (locM 1) nilM))) (seqM (asgM (subA (attrM (fun C => C == 741) ("bv_numbers" : Str) (locM 0)) (locM 1)) (binM .Sub (callM c (.builtin "len") (consM (attrM (fun C => C == 741) ("sort_names" : Str) (locM 0)) nilM)) (intM 1))) skipM))) skipM) (seqM (retM (subM (attrM (fun C => C == 741) ("bv_numbers" : Str) (locM 0)) (locM 1))) skipM))))
noncomputable abbrev G_TermBank_want_bits : Gm := { sl := [(("self" : Str), some 0), (("t" : Str), some 1), (("where" : Str), some 2)], ck := [] }
noncomputable def b_TermBank_want_bits : List Stmt := stmtsOf (Head.fd 3 (Head.st 34 (some 3)) (Head.s "") [] .none .none .none .none .none .none)
noncomputable def m_TermBank_want_bits (c : Ctx) : MS := (seqM (ifM (cmpM .Eq (methM c (fun C => if C = 741 then some 341 else none) ("width" : Str) (locM 0) (consM (locM 1) nilM)) (intM 0)) (seqM neverS skipM) skipM) skipM)
noncomputable abbrev G_TermBank_bv_num : Gm := { sl := [(("self" : Str), some 0), (("value" : Str), some 1), (("width" : Str), some 2), (("s" : Str), some 3)], ck := [] }
noncomputable def b_TermBank_bv_num : List Stmt := stmtsOf (Head.fd 3 (Head.st 34 (some 4)) (Head.s "") [] .none .none .none .none .none .none)
noncomputable def m_TermBank_bv_num (c : Ctx) : MS := (seqM (asgM (nmA 3) (methM c (fun C => if C = 741 then some 647 else none) ("bv_sort" : Str) (locM 0) (consM (locM 2) nilM))) (seqM (retM (methM c (fun C => if C = 741 then some 355 else none) ("make" : Str) (locM 0) (consM (strM ("bvnum" : Str)) (consM (tupM nilM) (consM (locM 3) (consM (binM .Mod (locM 1) (binM .LShift (intM 1) (locM 2))) nilM)))))) skipM))
noncomputable abbrev G_TermBank_bv_one : Gm := { sl := [(("self" : Str), some 0), (("op" : Str), some 1), (("t" : Str), some 2)], ck := [] }
noncomputable def b_TermBank_bv_one : List Stmt := stmtsOf (Head.fd 3 (Head.st 34 (some 5)) (Head.s "") [] .none .none .none .none .none .none)
noncomputable def m_TermBank_bv_one (c : Ctx) : MS := (seqM (exprM (methM c (fun C => if C = 741 then some 661 else none) ("want_bits" : Str) (locM 0) (consM (locM 2) (consM (locM 1) nilM)))) (seqM (ifM (andM (cmpM .NotEq (locM 1) (strM ("bvnot" : Str))) (andM (cmpM .NotEq (locM 1) (strM ("bvneg" : Str))) (yesM true))) (seqM neverS skipM) skipM) (seqM (retM (methM c (fun C => if C = 741 then some 355 else none) ("make" : Str) (locM 0) (consM (locM 1) (consM (tupM (consM (locM 2) nilM)) (consM (subM (attrM (fun C => C == 741) ("term_sorts" : Str) (locM 0)) (locM 2)) (consM (intM 0) nilM)))))) skipM)))
noncomputable abbrev G_TermBank_bv_two : Gm := { sl := [(("self" : Str), some 0), (("op" : Str), some 1), (("a" : Str), some 2), (("b" : Str), some 3), (("BV_SAME" : Str), none), (("BV_ASK" : Str), none), (("BOOL" : Str), none)], ck := [] }
noncomputable def b_TermBank_bv_two : List Stmt := stmtsOf (Head.fd 3 (Head.st 34 (some 6)) (Head.s "") [] .none .none .none .none .none .none)
noncomputable def m_TermBank_bv_two (c : Ctx) : MS := (seqM (exprM (methM c (fun C => if C = 741 then some 661 else none) ("want_bits" : Str) (locM 0) (consM (locM 2) (consM (locM 1) nilM)))) (seqM (exprM (methM c (fun C => if C = 741 then some 376 else none) ("want" : Str) (locM 0) (consM (locM 3) (consM (subM (attrM (fun C => C == 741) ("term_sorts" : Str) (locM 0)) (locM 2)) (consM (locM 1) nilM))))) (seqM (ifM (cmpM .In (locM 1) (gloM (.tup (gv_BV_SAME.map V.str)))) (seqM (retM (methM c (fun C => if C = 741 then some 355 else none) ("make" : Str) (locM 0) (consM (locM 1) (consM (tupM (consM (locM 2) (consM (locM 3) nilM))) (consM (subM (attrM (fun C => C == 741) ("term_sorts" : Str) (locM 0)) (locM 2)) (consM (intM 0) nilM)))))) skipM) skipM) (seqM (ifM (cmpM .In (locM 1) (gloM (.tup (gv_BV_ASK.map V.str)))) (seqM (retM (methM c (fun C => if C = 741 then some 355 else none) ("make" : Str) (locM 0) (consM (locM 1) (consM (tupM (consM (locM 2) (consM (locM 3) nilM))) (consM (gloM (.int 0)) (consM (intM 0) nilM)))))) skipM) skipM) (seqM neverS skipM)))))
noncomputable abbrev G_BoolRewriter___init__ : Gm := { sl := [(("self" : Str), some 0), (("bank" : Str), some 1)], ck := [] }
noncomputable def b_BoolRewriter___init__ : List Stmt := stmtsOf (Head.fd 3 (Head.st 38 (some 0)) (Head.s "") [] .none .none .none .none .none .none)
noncomputable def m_BoolRewriter___init__ (c : Ctx) : MS := (seqM (asgM (attrA (fun C => C == 1061) ("bank" : Str) (locM 0)) (locM 1)) (seqM (asgM (attrA (fun C => C == 1061) ("yes" : Str) (locM 0)) (methM c (fun C => if C = 741 then some 390 else none) ("true_term" : Str) (locM 1) nilM)) (seqM (asgM (attrA (fun C => C == 1061) ("no" : Str) (locM 0)) (methM c (fun C => if C = 741 then some 397 else none) ("false_term" : Str) (locM 1) nilM)) (seqM (asgM (attrA (fun C => C == 1061) ("known" : Str) (locM 0)) dictM) skipM))))
noncomputable abbrev G_BitsRewriter_is_bits : Gm := { sl := [(("self" : Str), some 0), (("t" : Str), some 1)], ck := [] }
noncomputable def b_BitsRewriter_is_bits : List Stmt := stmtsOf (Head.fd 3 (Head.st 39 (some 3)) (Head.s "") [] .none .none .none .none .none .none)
noncomputable def m_BitsRewriter_is_bits (c : Ctx) : MS := (seqM (retM (cmpvM .Eq (methM c (fun C => if C = 741 then some 313 else none) ("op" : Str) (attrM (fun C => C == 1061) ("bank" : Str) (locM 0)) (consM (locM 1) nilM)) (strM ("bvnum" : Str)))) skipM)
noncomputable abbrev G_BitsRewriter_value_or : Gm := { sl := [(("self" : Str), some 0), (("t" : Str), some 1), (("other" : Str), some 2)], ck := [] }
noncomputable def b_BitsRewriter_value_or : List Stmt := stmtsOf (Head.fd 3 (Head.st 39 (some 4)) (Head.s "") [] .none .none .none .none .none .none)
noncomputable def m_BitsRewriter_value_or (c : Ctx) : MS := (seqM (retM (iteM (truM (methM c (fun C => if C = 1061 then some 909 else none) ("is_bits" : Str) (locM 0) (consM (locM 1) nilM))) (methM c (fun C => if C = 741 then some 334 else none) ("data" : Str) (attrM (fun C => C == 1061) ("bank" : Str) (locM 0)) (consM (locM 1) nilM)) (locM 2))) skipM)
noncomputable abbrev G_BitsRewriter_number : Gm := { sl := [(("self" : Str), some 0), (("value" : Str), some 1), (("like" : Str), some 2)], ck := [] }
noncomputable def b_BitsRewriter_number : List Stmt := stmtsOf (Head.fd 3 (Head.st 39 (some 5)) (Head.s "") [] .none .none .none .none .none .none)
noncomputable def m_BitsRewriter_number (c : Ctx) : MS := (seqM (retM (methM c (fun C => if C = 741 then some 668 else none) ("bv_num" : Str) (attrM (fun C => C == 1061) ("bank" : Str) (locM 0)) (consM (locM 1) (consM (methM c (fun C => if C = 741 then some 341 else none) ("width" : Str) (attrM (fun C => C == 1061) ("bank" : Str) (locM 0)) (consM (locM 2) nilM)) nilM)))) skipM)
noncomputable abbrev G_BitsRewriter_one_bits : Gm := { sl := [(("self" : Str), some 0), (("op" : Str), some 1), (("a" : Str), some 2), (("one_value" : Str), none)], ck := [] }
noncomputable def b_BitsRewriter_one_bits : List Stmt := stmtsOf (Head.fd 3 (Head.st 39 (some 6)) (Head.s "") [] .none .none .none .none .none .none)
noncomputable def m_BitsRewriter_one_bits (c : Ctx) : MS := (seqM (ifM (truM (methM c (fun C => if C = 1061 then some 909 else none) ("is_bits" : Str) (locM 0) (consM (locM 2) nilM))) (seqM (retM (methM c (fun C => if C = 1061 then some 923 else none) ("number" : Str) (locM 0) (consM (callM c (.ref 156) (consM (locM 1) (consM (methM c (fun C => if C = 741 then some 334 else none) ("data" : Str) (attrM (fun C => C == 1061) ("bank" : Str) (locM 0)) (consM (locM 2) nilM)) (consM (methM c (fun C => if C = 741 then some 341 else none) ("width" : Str) (attrM (fun C => C == 1061) ("bank" : Str) (locM 0)) (consM (locM 2) nilM)) nilM)))) (consM (locM 2) nilM)))) skipM) skipM) (seqM (ifM (cmpM .Eq (methM c (fun C => if C = 741 then some 313 else none) ("op" : Str) (attrM (fun C => C == 1061) ("bank" : Str) (locM 0)) (consM (locM 2) nilM)) (locM 1)) (seqM (retM (subM (methM c (fun C => if C = 741 then some 320 else none) ("args" : Str) (attrM (fun C => C == 1061) ("bank" : Str) (locM 0)) (consM (locM 2) nilM)) (intM 0))) skipM) skipM) (seqM (ifM (andM (cmpM .Eq (locM 1) (strM ("bvneg" : Str))) (andM (cmpM .Eq (methM c (fun C => if C = 741 then some 313 else none) ("op" : Str) (attrM (fun C => C == 1061) ("bank" : Str) (locM 0)) (consM (locM 2) nilM)) (strM ("bvsub" : Str))) (yesM true))) (seqM (retM (methM c (fun C => if C = 1061 then some 937 else none) ("two_bits" : Str) (locM 0) (consM (strM ("bvsub" : Str)) (consM (subM (methM c (fun C => if C = 741 then some 320 else none) ("args" : Str) (attrM (fun C => C == 1061) ("bank" : Str) (locM 0)) (consM (locM 2) nilM)) (intM 1)) (consM (subM (methM c (fun C => if C = 741 then some 320 else none) ("args" : Str) (attrM (fun C => C == 1061) ("bank" : Str) (locM 0)) (consM (locM 2) nilM)) (intM 0)) nilM))))) skipM) skipM) (seqM (retM (methM c (fun C => if C = 741 then some 675 else none) ("bv_one" : Str) (attrM (fun C => C == 1061) ("bank" : Str) (locM 0)) (consM (locM 1) (consM (locM 2) nilM)))) skipM))))
noncomputable abbrev G_BitsRewriter_two_bits : Gm := { sl := [(("self" : Str), some 0), (("op" : Str), some 1), (("a" : Str), some 2), (("b" : Str), some 3), (("two_value" : Str), none), (("MIXING" : Str), none)], ck := [] }
noncomputable def b_BitsRewriter_two_bits : List Stmt := stmtsOf (Head.fd 3 (Head.st 39 (some 7)) (Head.s "") [] .none .none .none .none .none .none)
noncomputable def m_BitsRewriter_two_bits (c : Ctx) : MS := (seqM (ifM (andM (truM (methM c (fun C => if C = 1061 then some 909 else none) ("is_bits" : Str) (locM 0) (consM (locM 2) nilM))) (andM (truM (methM c (fun C => if C = 1061 then some 909 else none) ("is_bits" : Str) (locM 0) (consM (locM 3) nilM))) (yesM true))) (seqM (retM (methM c (fun C => if C = 1061 then some 923 else none) ("number" : Str) (locM 0) (consM (callM c (.ref 184) (consM (locM 1) (consM (methM c (fun C => if C = 741 then some 334 else none) ("data" : Str) (attrM (fun C => C == 1061) ("bank" : Str) (locM 0)) (consM (locM 2) nilM)) (consM (methM c (fun C => if C = 741 then some 334 else none) ("data" : Str) (attrM (fun C => C == 1061) ("bank" : Str) (locM 0)) (consM (locM 3) nilM)) (consM (methM c (fun C => if C = 741 then some 341 else none) ("width" : Str) (attrM (fun C => C == 1061) ("bank" : Str) (locM 0)) (consM (locM 2) nilM)) nilM))))) (consM (locM 2) nilM)))) skipM) skipM) (seqM (ifM (cmpM .In (locM 1) (gloM (.tup (gv_MIXING.map V.str)))) (seqM (retM (methM c (fun C => if C = 1061 then some 944 else none) ("mixed_bits" : Str) (locM 0) (consM (locM 1) (consM (locM 2) (consM (locM 3) nilM))))) skipM) skipM) (seqM (ifM (cmpM .Eq (locM 1) (strM ("bvsub" : Str))) (seqM (retM (methM c (fun C => if C = 1061 then some 965 else none) ("less_bits" : Str) (locM 0) (consM (locM 2) (consM (locM 3) nilM)))) skipM) skipM) (seqM (ifM (cmpM .In (locM 1) (tupM (consM (strM ("bvshl" : Str)) (consM (strM ("bvlshr" : Str)) nilM)))) (seqM (retM (methM c (fun C => if C = 1061 then some 972 else none) ("shifted_bits" : Str) (locM 0) (consM (locM 1) (consM (locM 2) (consM (locM 3) nilM))))) skipM) skipM) (seqM (retM (methM c (fun C => if C = 1061 then some 979 else none) ("divided_bits" : Str) (locM 0) (consM (locM 1) (consM (locM 2) (consM (locM 3) nilM))))) skipM)))))
noncomputable abbrev G_BitsRewriter_mixed_bits : Gm := { sl := [(("self" : Str), some 0), (("op" : Str), some 1), (("a" : Str), some 2), (("b" : Str), some 3), (("inner" : Str), some 4), (("two_value" : Str), none)], ck := [] }
noncomputable def b_BitsRewriter_mixed_bits : List Stmt := stmtsOf (Head.fd 3 (Head.st 39 (some 8)) (Head.s "") [] .none .none .none .none .none .none)
noncomputable def m_BitsRewriter_mixed_bits (c : Ctx) : MS := (seqM (ifM (orM (truM (methM c (fun C => if C = 1061 then some 909 else none) ("is_bits" : Str) (locM 0) (consM (locM 3) nilM))) (orM (andM (nottM (truM (methM c (fun C => if C = 1061 then some 909 else none) ("is_bits" : Str) (locM 0) (consM (locM 2) nilM)))) (andM (cmpM .Lt (locM 3) (locM 2)) (yesM true))) (yesM false))) (seqM (namesM [2, 3] (consM (locM 3) (consM (locM 2) nilM))) skipM) skipM) (seqM (ifM (truM (methM c (fun C => if C = 1061 then some 909 else none) ("is_bits" : Str) (locM 0) (consM (locM 2) nilM))) (seqM (ifM (andM (cmpM .Eq (methM c (fun C => if C = 741 then some 313 else none) ("op" : Str) (attrM (fun C => C == 1061) ("bank" : Str) (locM 0)) (consM (locM 3) nilM)) (locM 1)) (andM (truM (methM c (fun C => if C = 1061 then some 909 else none) ("is_bits" : Str) (locM 0) (consM (subM (methM c (fun C => if C = 741 then some 320 else none) ("args" : Str) (attrM (fun C => C == 1061) ("bank" : Str) (locM 0)) (consM (locM 3) nilM)) (intM 0)) nilM))) (yesM true))) (seqM (asgM (tupA 2 (consA (nmA 4) (consA (nmA 3) nilA))) (methM c (fun C => if C = 741 then some 320 else none) ("args" : Str) (attrM (fun C => C == 1061) ("bank" : Str) (locM 0)) (consM (locM 3) nilM))) (seqM (asgM (nmA 2) (methM c (fun C => if C = 1061 then some 923 else none) ("number" : Str) (locM 0) (consM (callM c (.ref 184) (consM (locM 1) (consM (methM c (fun C => if C = 741 then some 334 else none) ("data" : Str) (attrM (fun C => C == 1061) ("bank" : Str) (locM 0)) (consM (locM 2) nilM)) (consM (methM c (fun C => if C = 741 then some 334 else none) ("data" : Str) (attrM (fun C => C == 1061) ("bank" : Str) (locM 0)) (consM (locM 4) nilM)) (consM (methM c (fun C => if C = 741 then some 341 else none) ("width" : Str) (attrM (fun C => C == 1061) ("bank" : Str) (locM 0)) (consM (locM 2) nilM)) nilM))))) (consM (locM 2) nilM)))) skipM)) skipM) (seqM (retM (methM c (fun C => if C = 1061 then some 958 else none) ("mixed_number" : Str) (locM 0) (consM (locM 1) (consM (methM c (fun C => if C = 741 then some 334 else none) ("data" : Str) (attrM (fun C => C == 1061) ("bank" : Str) (locM 0)) (consM (locM 2) nilM)) (consM (locM 3) nilM))))) skipM)) skipM) (seqM (ifM (andM (cmpM .Eq (locM 2) (locM 3)) (andM (cmpM .NotEq (locM 1) (strM ("bvadd" : Str))) (andM (cmpM .NotEq (locM 1) (strM ("bvmul" : Str))) (yesM true)))) (seqM (retM (iteM (cmpM .Eq (locM 1) (strM ("bvxor" : Str))) (methM c (fun C => if C = 1061 then some 923 else none) ("number" : Str) (locM 0) (consM (intM 0) (consM (locM 2) nilM))) (locM 2))) skipM) skipM) (seqM (ifM (andM (truM (methM c (fun C => if C = 1061 then some 951 else none) ("is_turned" : Str) (locM 0) (consM (strM ("bvnot" : Str)) (consM (locM 2) (consM (locM 3) nilM))))) (andM (cmpM .NotEq (locM 1) (strM ("bvmul" : Str))) (yesM true))) (seqM (retM (methM c (fun C => if C = 1061 then some 923 else none) ("number" : Str) (locM 0) (consM (iteM (cmpM .Eq (locM 1) (strM ("bvand" : Str))) (intM 0) (negM (intM 1))) (consM (locM 2) nilM)))) skipM) skipM) (seqM (ifM (andM (cmpM .Eq (locM 1) (strM ("bvadd" : Str))) (andM (truM (methM c (fun C => if C = 1061 then some 951 else none) ("is_turned" : Str) (locM 0) (consM (strM ("bvneg" : Str)) (consM (locM 2) (consM (locM 3) nilM))))) (yesM true))) (seqM (retM (methM c (fun C => if C = 1061 then some 923 else none) ("number" : Str) (locM 0) (consM (intM 0) (consM (locM 2) nilM)))) skipM) skipM) (seqM (retM (methM c (fun C => if C = 741 then some 682 else none) ("bv_two" : Str) (attrM (fun C => C == 1061) ("bank" : Str) (locM 0)) (consM (locM 1) (consM (locM 2) (consM (locM 3) nilM))))) skipM))))))
noncomputable abbrev G_BitsRewriter_mixed_number : Gm := { sl := [(("self" : Str), some 0), (("op" : Str), some 1), (("value" : Str), some 2), (("b" : Str), some 3), (("most" : Str), some 4), (("mask_of" : Str), none), (("power_of" : Str), none)], ck := [] }
noncomputable def b_BitsRewriter_mixed_number : List Stmt := stmtsOf (Head.fd 3 (Head.st 39 (some 10)) (Head.s "") [] .none .none .none .none .none .none)
noncomputable def m_BitsRewriter_mixed_number (c : Ctx) : MS := (seqM (asgM (nmA 4) (callM c (.ref 142) (consM (methM c (fun C => if C = 741 then some 341 else none) ("width" : Str) (attrM (fun C => C == 1061) ("bank" : Str) (locM 0)) (consM (locM 3) nilM)) nilM))) (seqM (ifM (cmpM .Eq (locM 2) (intM 0)) (seqM (retM (iteM (cmpM .In (locM 1) (tupM (consM (strM ("bvand" : Str)) (consM (strM ("bvmul" : Str)) nilM)))) (methM c (fun C => if C = 1061 then some 923 else none) ("number" : Str) (locM 0) (consM (intM 0) (consM (locM 3) nilM))) (locM 3))) skipM) skipM) (seqM (ifM (orM (andM (cmpM .Eq (locM 2) (locM 4)) (andM (cmpM .Eq (locM 1) (strM ("bvand" : Str))) (yesM true))) (orM (andM (cmpM .Eq (locM 2) (intM 1)) (andM (cmpM .Eq (locM 1) (strM ("bvmul" : Str))) (yesM true))) (yesM false))) (seqM (retM (locM 3)) skipM) skipM) (seqM (ifM (andM (cmpM .Eq (locM 2) (locM 4)) (andM (cmpM .Eq (locM 1) (strM ("bvor" : Str))) (yesM true))) (seqM (retM (methM c (fun C => if C = 1061 then some 923 else none) ("number" : Str) (locM 0) (consM (locM 4) (consM (locM 3) nilM)))) skipM) skipM) (seqM (ifM (andM (cmpM .Eq (locM 2) (locM 4)) (andM (cmpM .Eq (locM 1) (strM ("bvxor" : Str))) (yesM true))) (seqM (retM (methM c (fun C => if C = 1061 then some 930 else none) ("one_bits" : Str) (locM 0) (consM (strM ("bvnot" : Str)) (consM (locM 3) nilM)))) skipM) skipM) (seqM (ifM (andM (cmpM .Eq (locM 2) (locM 4)) (andM (cmpM .Eq (locM 1) (strM ("bvmul" : Str))) (yesM true))) (seqM (retM (methM c (fun C => if C = 1061 then some 930 else none) ("one_bits" : Str) (locM 0) (consM (strM ("bvneg" : Str)) (consM (locM 3) nilM)))) skipM) skipM) (seqM (ifM (andM (cmpM .Eq (locM 1) (strM ("bvmul" : Str))) (andM (cmpM .Gt (callM c (.ref 205) (consM (locM 2) nilM)) (intM 0)) (yesM true))) (seqM (retM (methM c (fun C => if C = 1061 then some 972 else none) ("shifted_bits" : Str) (locM 0) (consM (strM ("bvshl" : Str)) (consM (locM 3) (consM (methM c (fun C => if C = 1061 then some 923 else none) ("number" : Str) (locM 0) (consM (callM c (.ref 205) (consM (locM 2) nilM)) (consM (locM 3) nilM))) nilM))))) skipM) skipM) (seqM (retM (methM c (fun C => if C = 741 then some 682 else none) ("bv_two" : Str) (attrM (fun C => C == 1061) ("bank" : Str) (locM 0)) (consM (locM 1) (consM (methM c (fun C => if C = 1061 then some 923 else none) ("number" : Str) (locM 0) (consM (locM 2) (consM (locM 3) nilM))) (consM (locM 3) nilM))))) skipM))))))))
noncomputable abbrev G_BitsRewriter_shifted_bits : Gm := { sl := [(("self" : Str), some 0), (("op" : Str), some 1), (("a" : Str), some 2), (("b" : Str), some 3), (("many" : Str), some 4)], ck := [] }
noncomputable def b_BitsRewriter_shifted_bits : List Stmt := stmtsOf (Head.fd 3 (Head.st 39 (some 12)) (Head.s "") [] .none .none .none .none .none .none)
noncomputable def m_BitsRewriter_shifted_bits (c : Ctx) : MS := (seqM (asgM (nmA 4) (methM c (fun C => if C = 1061 then some 916 else none) ("value_or" : Str) (locM 0) (consM (locM 3) (consM (negM (intM 1)) nilM)))) (seqM (ifM (orM (cmpM .Eq (locM 4) (intM 0)) (orM (cmpM .Eq (methM c (fun C => if C = 1061 then some 916 else none) ("value_or" : Str) (locM 0) (consM (locM 2) (consM (negM (intM 1)) nilM))) (intM 0)) (yesM false))) (seqM (retM (locM 2)) skipM) skipM) (seqM (ifM (cmpM .GtE (locM 4) (methM c (fun C => if C = 741 then some 341 else none) ("width" : Str) (attrM (fun C => C == 1061) ("bank" : Str) (locM 0)) (consM (locM 2) nilM))) (seqM (retM (methM c (fun C => if C = 1061 then some 923 else none) ("number" : Str) (locM 0) (consM (intM 0) (consM (locM 2) nilM)))) skipM) skipM) (seqM (retM (methM c (fun C => if C = 741 then some 682 else none) ("bv_two" : Str) (attrM (fun C => C == 1061) ("bank" : Str) (locM 0)) (consM (locM 1) (consM (locM 2) (consM (locM 3) nilM))))) skipM))))
noncomputable abbrev G__law_spin : Gm := { sl := [(("top" : Str), some 0), (("many" : Str), some 1), (("len" : Str), none)], ck := [] }
noncomputable def b__law_spin : List Stmt := stmtsOf (Head.fd 3 (Head.st 42 none) (Head.s "") [] .none .none .none .none .none .none)
noncomputable def m__law_spin (c : Ctx) : MS := (seqM (asgM (subA (locM 0) (strM ("spins" : Str))) (binM .Add (subM (locM 0) (strM ("spins" : Str))) (intM 1))) (seqM (ifM (cmpM .LtE (subM (locM 0) (strM ("spins" : Str))) (callM c (.builtin "len") (consM (subM (locM 0) (strM ("cells" : Str))) nilM))) (seqM (retM (binM .Mod (subM (subM (locM 0) (strM ("cells" : Str))) (binM .Sub (subM (locM 0) (strM ("spins" : Str))) (intM 1))) (locM 1))) skipM) skipM) (seqM (retM (binM .Mod (binM .Mod (binM .Add (binM .Add (binM .Mult (subM (locM 0) (strM ("spins" : Str))) (intM 43)) (binM .FloorDiv (binM .Mult (subM (locM 0) (strM ("spins" : Str))) (subM (locM 0) (strM ("spins" : Str)))) (intM 2))) (intM 8)) (intM 107)) (locM 1))) skipM)))
noncomputable abbrev G__law_number : Gm := { sl := [(("top" : Str), some 0), (("width" : Str), some 1), (("way" : Str), some 2), (("drawn" : Str), some 3), (("_law_spin" : Str), none)], ck := [] }
noncomputable def b__law_number : List Stmt := stmtsOf (Head.fd 3 (Head.st 43 none) (Head.s "") [] .none .none .none .none .none .none)
noncomputable def m__law_number (c : Ctx) : MS := (seqM (asgM (nmA 2) (callM c (.ref 1071) (consM (locM 0) (consM (intM 5) nilM)))) (seqM (asgM (nmA 3) (callM c (.ref 1071) (consM (locM 0) (consM (binM .Pow (intM 2) (locM 1)) nilM)))) (seqM (retM (subM (flM (consM (intM 0) (consM (intM 1) (consM (binM .Sub (binM .Pow (intM 2) (locM 1)) (intM 1)) (consM (binM .Pow (intM 2) (binM .Mod (locM 3) (locM 1))) (consM (locM 3) nilM)))))) (locM 2))) skipM)))
noncomputable abbrev G__law_places : Gm := { sl := [(("number" : Str), some 0), (("width" : Str), some 1), (("range" : Str), none)], ck := [("number" : Str)] }
noncomputable abbrev G__law_places_c1 : Gm := { sl := [(("number" : Str), some 0), (("k" : Str), some 2)], ck := [("number" : Str)] }
noncomputable def b__law_places : List Stmt := stmtsOf (Head.fd 3 (Head.st 44 none) (Head.s "") [] .none .none .none .none .none .none)
noncomputable def m__law_places (c : Ctx) : MS := (seqM (retM (compM (itersM (callM c (.type "range") (consM (locM 1) nilM))) 2 1 (nmA 2) (yesM true) (binM .Mod (binM .FloorDiv (locM 0) (binM .Pow (intM 2) (locM 2))) (intM 2)))) skipM)
noncomputable abbrev G__law_turned : Gm := { sl := [(("value" : Str), some 0), (("width" : Str), some 1), (("wheel" : Str), some 2), (("list" : Str), none), (("range" : Str), none)], ck := [] }
noncomputable def b__law_turned : List Stmt := stmtsOf (Head.fd 3 (Head.st 45 none) (Head.s "") [] .none .none .none .none .none .none)
noncomputable def m__law_turned (c : Ctx) : MS := (seqM (asgM (nmA 2) (callM c (.type "list") (consM (callM c (.type "range") (consM (binM .Pow (intM 2) (locM 1)) nilM)) nilM))) (seqM (retM (binM .Add (slcM (locM 2) (ptM (locM 0)) nopM) (slcM (locM 2) nopM (ptM (locM 0))))) skipM))
noncomputable abbrev G__law_wheel : Gm := { sl := [(("op" : Str), some 0), (("value" : Str), some 1), (("width" : Str), some 2), (("room" : Str), some 3), (("found" : Str), some 4), (("step" : Str), some 5), (("least" : Str), some 6), (("rows" : Str), some 7), (("_law_turned" : Str), none), (("len" : Str), none), (("range" : Str), none)], ck := [("value" : Str), ("width" : Str), ("least" : Str)] }
noncomputable abbrev G__law_wheel_c1 : Gm := { sl := [(("value" : Str), some 1), (("width" : Str), some 2), (("x" : Str), some 8), (("list" : Str), none), (("zip" : Str), none), (("_law_places" : Str), none)], ck := [("value" : Str), ("width" : Str)] }
noncomputable abbrev G__law_wheel_c2 : Gm := { sl := [(("least" : Str), some 6), (("k" : Str), some 9), (("one" : Str), some 10), (("other" : Str), some 11)], ck := [("least" : Str)] }
noncomputable abbrev G__law_wheel_c3 : Gm := { sl := [(("least" : Str), some 6), (("row" : Str), some 8), (("sum" : Str), none), (("enumerate" : Str), none)], ck := [("least" : Str)] }
noncomputable def b__law_wheel : List Stmt := stmtsOf (Head.fd 3 (Head.st 46 none) (Head.s "") [] .none .none .none .none .none .none)
noncomputable def m__law_wheel (c : Ctx) : MS := (seqM (asgM (nmA 3) (binM .Pow (intM 2) (locM 2))) (seqM (ifM (cmpM .Eq (locM 0) (strM ("bvadd" : Str))) (seqM (retM (callM c (.ref 1090) (consM (locM 1) (consM (locM 2) nilM)))) skipM) skipM) (seqM (ifM (cmpM .Eq (locM 0) (strM ("bvmul" : Str))) (seqM (namesM [4, 5] (consM (tlM (consM (intM 0) nilM)) (consM (callM c (.ref 1090) (consM (locM 1) (consM (locM 2) nilM))) nilM))) (seqM (whileM (cmpM .Lt (callM c (.builtin "len") (consM (locM 4) nilM)) (locM 3)) (seqM (exprM (bmethM c "list" "list.append" (locM 4) (consM (subM (locM 5) (subM (locM 4) (negM (intM 1)))) nilM))) skipM)) (seqM (retM (locM 4)) skipM))) skipM) (seqM (asgM (nmA 6) (subM (dictPM true (consP (strM ("bvand" : Str)) (tupM (consM (intM 2) nilM)) (consP (strM ("bvor" : Str)) (tupM (consM (intM 1) (consM (intM 2) nilM))) (consP (strM ("bvxor" : Str)) (tupM (consM (intM 1) nilM)) nilP)))) (locM 0))) (seqM (asgM (nmA 7) (compM (itersM (callM c (.type "range") (consM (locM 3) nilM))) 8 1 (nmA 8) (yesM true) (lzipM (consM (callM c (.ref 1083) (consM (locM 1) (consM (locM 2) nilM))) (consM (callM c (.ref 1083) (consM (locM 8) (consM (locM 2) nilM))) nilM))))) (seqM (retM (compM (itersM (locM 7)) 8 1 (nmA 8) (yesM true) (callM c (.builtin "sum") (consM (compM (enumM (consM (locM 8) nilM)) 9 3 (tupA 2 (consA (nmA 9) (consA (tupA 2 (consA (nmA 10) (consA (nmA 11) nilA))) nilA))) (cmpM .In (binM .Add (locM 10) (locM 11)) (locM 6)) (binM .Pow (intM 2) (locM 9))) nilM)))) skipM))))))
noncomputable abbrev G__law_values : Gm := { sl := [(("bank" : Str), some 0), (("x" : Str), some 1), (("t" : Str), some 2), (("width" : Str), some 3), (("room" : Str), some 4), (("op" : Str), some 5), (("args" : Str), some 6), (("first" : Str), some 7), (("second" : Str), some 8), (("list" : Str), none), (("range" : Str), none), (("_law_values" : Str), none), (("zip" : Str), none)], ck := [("width" : Str), ("room" : Str), ("op" : Str)] }
noncomputable abbrev G__law_values_c1 : Gm := { sl := [(("room" : Str), some 4), (("one" : Str), some 9)], ck := [("room" : Str)] }
noncomputable abbrev G__law_values_c2 : Gm := { sl := [(("room" : Str), some 4), (("one" : Str), some 9)], ck := [("room" : Str)] }
noncomputable abbrev G__law_values_c3 : Gm := { sl := [(("room" : Str), some 4), (("one" : Str), some 9), (("other" : Str), some 10)], ck := [("room" : Str)] }
noncomputable abbrev G__law_values_c4 : Gm := { sl := [(("op" : Str), some 5), (("width" : Str), some 3), (("one" : Str), some 9), (("other" : Str), some 10), (("_law_wheel" : Str), none)], ck := [("op" : Str), ("width" : Str)] }
noncomputable def b__law_values : List Stmt := stmtsOf (Head.fd 3 (Head.st 47 none) (Head.s "") [] .none .none .none .none .none .none)
noncomputable def m__law_values (c : Ctx) : MS := (seqM (namesM [4, 5, 6] (consM (binM .Pow (intM 2) (locM 3)) (consM (methM c (fun C => if C = 741 then some 313 else none) ("op" : Str) (locM 0) (consM (locM 2) nilM)) (consM (methM c (fun C => if C = 741 then some 320 else none) ("args" : Str) (locM 0) (consM (locM 2) nilM)) nilM)))) (seqM (ifM (cmpM .Eq (locM 2) (locM 1)) (seqM (retM (callM c (.type "list") (consM (callM c (.type "range") (consM (locM 4) nilM)) nilM))) skipM) skipM) (seqM (ifM (cmpM .Eq (locM 5) (strM ("bvnum" : Str))) (seqM (retM (binM .Mult (flM (consM (methM c (fun C => if C = 741 then some 334 else none) ("data" : Str) (locM 0) (consM (locM 2) nilM)) nilM)) (locM 4))) skipM) skipM) (seqM (asgM (nmA 7) (callM c (.ref 1100) (consM (locM 0) (consM (locM 1) (consM (subM (locM 6) (intM 0)) (consM (locM 3) nilM)))))) (seqM (ifM (cmpM .Eq (locM 5) (strM ("bvnot" : Str))) (seqM (retM (compM (itersM (locM 7)) 9 1 (nmA 9) (yesM true) (binM .Sub (binM .Sub (locM 4) (intM 1)) (locM 9)))) skipM) skipM) (seqM (ifM (cmpM .Eq (locM 5) (strM ("bvneg" : Str))) (seqM (retM (compM (itersM (locM 7)) 9 1 (nmA 9) (yesM true) (binM .Mod (binM .Sub (locM 4) (locM 9)) (locM 4)))) skipM) skipM) (seqM (asgM (nmA 8) (callM c (.ref 1100) (consM (locM 0) (consM (locM 1) (consM (subM (locM 6) (intM 1)) (consM (locM 3) nilM)))))) (seqM (ifM (cmpM .Eq (locM 5) (strM ("bvshl" : Str))) (seqM (retM (compM (zipM (consM (locM 7) (consM (locM 8) nilM))) 9 2 (tupA 2 (consA (nmA 9) (consA (nmA 10) nilA))) (yesM true) (binM .Mod (binM .Mult (locM 9) (binM .Pow (intM 2) (locM 10))) (locM 4)))) skipM) skipM) (seqM (retM (compM (zipM (consM (locM 7) (consM (locM 8) nilM))) 9 2 (tupA 2 (consA (nmA 9) (consA (nmA 10) nilA))) (yesM true) (subM (callM c (.ref 1095) (consM (locM 5) (consM (locM 9) (consM (locM 3) nilM)))) (locM 10)))) skipM)))))))))
noncomputable abbrev G__law_divisor : Gm := { sl := [(("a" : Str), some 0), (("b" : Str), some 1)], ck := [] }
noncomputable def b__law_divisor : List Stmt := stmtsOf (Head.fd 3 (Head.st 48 none) (Head.s "") [] .none .none .none .none .none .none)
noncomputable def m__law_divisor (_c : Ctx) : MS := (seqM (whileM (cmpM .Gt (locM 1) (intM 0)) (seqM (namesM [0, 1] (consM (locM 1) (consM (binM .Mod (locM 0) (locM 1)) nilM))) skipM)) (seqM (retM (locM 0)) skipM))
noncomputable abbrev G__law_many : Gm := { sl := [(("op" : Str), some 0), (("value" : Str), some 1), (("width" : Str), some 2), (("ones" : Str), some 3), (("sum" : Str), none), (("_law_places" : Str), none), (("_law_divisor" : Str), none)], ck := [] }
noncomputable def b__law_many : List Stmt := stmtsOf (Head.fd 3 (Head.st 49 none) (Head.s "") [] .none .none .none .none .none .none)
noncomputable def m__law_many (c : Ctx) : MS := (seqM (asgM (nmA 3) (callM c (.builtin "sum") (consM (callM c (.ref 1083) (consM (locM 1) (consM (locM 2) nilM))) nilM))) (seqM (ifM (cmpM .Eq (locM 0) (strM ("bvmul" : Str))) (seqM (retM (binM .FloorDiv (binM .Pow (intM 2) (locM 2)) (callM c (.ref 1107) (consM (binM .Pow (intM 2) (locM 2)) (consM (locM 1) nilM))))) skipM) skipM) (seqM (retM (bmethM c "dict" "dict.get" (dictPM true (consP (strM ("bvand" : Str)) (binM .Pow (intM 2) (locM 3)) (consP (strM ("bvor" : Str)) (binM .Pow (intM 2) (binM .Sub (locM 2) (locM 3))) nilP))) (consM (locM 0) (consM (binM .Pow (intM 2) (locM 2)) nilM)))) skipM)))
noncomputable abbrev G__law_is_plain_right : Gm := { sl := [(("bank" : Str), some 0), (("x" : Str), some 1), (("width" : Str), some 2), (("found" : Str), some 3), (("op" : Str), some 4), (("value" : Str), some 5), (("told" : Str), some 6), (("room" : Str), some 7), (("kinds" : Str), some 8), (("_law_values" : Str), none), (("_law_wheel" : Str), none), (("sorted" : Str), none), (("set" : Str), none), (("len" : Str), none), (("_law_many" : Str), none), (("list" : Str), none), (("range" : Str), none)], ck := [("told" : Str), ("room" : Str), ("kinds" : Str)] }
noncomputable abbrev G__law_is_plain_right_c1 : Gm := { sl := [(("kinds" : Str), some 8), (("room" : Str), some 7), (("told" : Str), some 6), (("one" : Str), some 9), (("len" : Str), none)], ck := [("kinds" : Str), ("room" : Str), ("told" : Str)] }
noncomputable def b__law_is_plain_right : List Stmt := stmtsOf (Head.fd 3 (Head.st 50 none) (Head.s "") [] .none .none .none .none .none .none)
noncomputable def m__law_is_plain_right (c : Ctx) : MS := (seqM (namesM [6, 7] (consM (callM c (.ref 1100) (consM (locM 0) (consM (locM 1) (consM (locM 3) (consM (locM 2) nilM))))) (consM (binM .Pow (intM 2) (locM 2)) nilM))) (seqM (ifM (orM (cmpM .NotEq (locM 6) (callM c (.ref 1095) (consM (locM 4) (consM (locM 5) (consM (locM 2) nilM))))) (orM (cmpM .NotEq (methM c (fun C => if C = 741 then some 341 else none) ("width" : Str) (locM 0) (consM (locM 3) nilM)) (locM 2)) (yesM false))) (seqM (retM (boolM false)) skipM) skipM) (seqM (asgM (nmA 8) (sortSetM (consM (locM 6) nilM))) (seqM (ifM (orM (cmpM .NotEq (callM c (.builtin "len") (consM (locM 8) nilM)) (callM c (.ref 1114) (consM (locM 4) (consM (locM 5) (consM (locM 2) nilM))))) (orM (cmpM .NotEq (compM (itersM (locM 8)) 9 1 (nmA 9) (cmpM .NotEq (binM .Mult (bmethM c "list" "list.count" (locM 6) (consM (locM 9) nilM)) (callM c (.builtin "len") (consM (locM 8) nilM))) (locM 7)) (locM 9)) (flM nilM)) (yesM false))) (seqM (retM (boolM false)) skipM) skipM) (seqM (retM (andvM (cmpvM .Eq (cmpvM .Eq (locM 3) (locM 1)) (cmpvM .Eq (locM 6) (callM c (.type "list") (consM (callM c (.type "range") (consM (locM 7) nilM)) nilM)))) (cmpvM .Eq (cmpvM .Eq (methM c (fun C => if C = 741 then some 313 else none) ("op" : Str) (locM 0) (consM (locM 3) nilM)) (strM ("bvnum" : Str))) (cmpvM .Eq (callM c (.builtin "len") (consM (locM 8) nilM)) (intM 1))))) skipM)))))
noncomputable abbrev G_law : Gm := { sl := [(("script" : Str), some 0), (("top" : Str), some 1), (("bank" : Str), some 2), (("width" : Str), some 3), (("x" : Str), some 4), (("maker" : Str), some 5), (("value" : Str), some 6), (("op" : Str), some 7), (("late" : Str), some 8), (("other" : Str), some 9), (("third" : Str), some 10), (("found" : Str), some 11), (("number" : Str), some 12), (("outer" : Str), some 13), (("twice" : Str), some 14), (("once" : Str), some 15), (("TermBank" : Str), none), (("_law_spin" : Str), none), (("BitsRewriter" : Str), none), (("_law_number" : Str), none), (("_law_operations" : Str), none), (("_law_is_plain_right" : Str), none), (("_law_values" : Str), none), (("_law_wheel" : Str), none)], ck := [("width" : Str), ("late" : Str), ("other" : Str)] }
noncomputable abbrev G_law_c1 : Gm := { sl := [(("cell" : Str), some 16), (("int" : Str), none)], ck := [] }
noncomputable abbrev G_law_c2 : Gm := { sl := [(("late" : Str), some 8), (("other" : Str), some 9), (("width" : Str), some 3), (("one" : Str), some 16), (("_law_wheel" : Str), none)], ck := [("late" : Str), ("other" : Str), ("width" : Str)] }
noncomputable def b_law : List Stmt := stmtsOf (Head.fd 3 (Head.st 51 none) (Head.s "") [] .none .none .none .none .none .none)
noncomputable abbrev m_law_14 (c : Ctx) : MS := (seqM (retM (cmpvM .Eq (callM c (.ref 1100) (consM (locM 2) (consM (locM 4) (consM (locM 14) (consM (locM 3) nilM))))) (callM c (.ref 1100) (consM (locM 2) (consM (locM 4) (consM (locM 15) (consM (locM 3) nilM))))))) skipM)
noncomputable abbrev m_law_13 (c : Ctx) : MS := (seqM (asgM (nmA 15) (methM c (fun C => if C = 1061 then some 958 else none) ("mixed_number" : Str) (locM 5) (consM (locM 7) (consM (subM (callM c (.ref 1095) (consM (locM 7) (consM (locM 10) (consM (locM 3) nilM)))) (locM 6)) (consM (locM 4) nilM))))) (m_law_14 c))
noncomputable def m_law_12 (c : Ctx) : MS := (seqM (asgM (nmA 14) (methM c (fun C => if C = 1061 then some 958 else none) ("mixed_number" : Str) (locM 5) (consM (locM 7) (consM (locM 10) (consM (locM 11) nilM))))) (m_law_13 c))
noncomputable abbrev m_law_11 (c : Ctx) : MS := (seqM (ifM (cmpM .NotEq (callM c (.ref 1100) (consM (locM 2) (consM (locM 4) (consM (locM 13) (consM (locM 3) nilM))))) (compM (itersM (callM c (.ref 1095) (consM (locM 7) (consM (locM 6) (consM (locM 3) nilM))))) 16 1 (nmA 16) (yesM true) (subM (callM c (.ref 1095) (consM (locM 8) (consM (locM 9) (consM (locM 3) nilM)))) (locM 16)))) (seqM (retM (boolM false)) skipM) skipM) (m_law_12 c))
noncomputable def m_law_10 (c : Ctx) : MS := (seqM (asgM (nmA 13) (methM c (fun C => if C = 1061 then some 958 else none) ("mixed_number" : Str) (locM 5) (consM (locM 8) (consM (locM 9) (consM (locM 11) nilM))))) (m_law_11 c))
noncomputable abbrev m_law_9 (c : Ctx) : MS := (seqM (ifM (orM (cmpM .NotEq (methM c (fun C => if C = 1061 then some 937 else none) ("two_bits" : Str) (locM 5) (consM (locM 7) (consM (locM 12) (consM (locM 4) nilM)))) (locM 11)) (orM (cmpM .NotEq (methM c (fun C => if C = 1061 then some 937 else none) ("two_bits" : Str) (locM 5) (consM (locM 7) (consM (locM 4) (consM (locM 12) nilM)))) (locM 11)) (yesM false))) (seqM (retM (boolM false)) skipM) skipM) (m_law_10 c))
noncomputable abbrev m_law_8 (c : Ctx) : MS := (seqM (asgM (nmA 12) (methM c (fun C => if C = 741 then some 668 else none) ("bv_num" : Str) (locM 2) (consM (locM 6) (consM (locM 3) nilM)))) (m_law_9 c))
noncomputable abbrev m_law_7 (c : Ctx) : MS := (seqM (ifM (nottM (truM (callM c (.ref 1119) (consM (locM 2) (consM (locM 4) (consM (locM 3) (consM (locM 11) (consM (locM 7) (consM (locM 6) nilM))))))))) (seqM (retM (boolM false)) skipM) skipM) (m_law_8 c))
noncomputable def m_law_6 (c : Ctx) : MS := (seqM (asgM (nmA 11) (methM c (fun C => if C = 1061 then some 958 else none) ("mixed_number" : Str) (locM 5) (consM (locM 7) (consM (locM 6) (consM (locM 4) nilM))))) (m_law_7 c))
noncomputable abbrev m_law_5 (c : Ctx) : MS := (seqM (namesM [9, 10] (consM (callM c (.ref 1078) (consM (locM 1) (consM (locM 3) nilM))) (consM (callM c (.ref 1078) (consM (locM 1) (consM (locM 3) nilM))) nilM))) (m_law_6 c))
noncomputable abbrev m_law_4 (c : Ctx) : MS := (seqM (namesM [7, 8] (consM (subM (gloM (.tup (gv__law_operations.map V.str))) (callM c (.ref 1071) (consM (locM 1) (consM (intM 5) nilM)))) (consM (subM (gloM (.tup (gv__law_operations.map V.str))) (callM c (.ref 1071) (consM (locM 1) (consM (intM 5) nilM)))) nilM))) (m_law_5 c))
noncomputable abbrev m_law_3 (c : Ctx) : MS := (seqM (asgM (nmA 6) (callM c (.ref 1078) (consM (locM 1) (consM (locM 3) nilM)))) (m_law_4 c))
noncomputable abbrev m_law_2 (c : Ctx) : MS := (seqM (namesM [4, 5] (consM (methM c (fun C => if C = 741 then some 278 else none) ("fresh_const" : Str) (locM 2) (consM (strM ("x" : Str)) (consM (methM c (fun C => if C = 741 then some 647 else none) ("bv_sort" : Str) (locM 2) (consM (locM 3) nilM)) nilM))) (consM (callM c (.ref 1061) (consM (locM 2) nilM)) nilM))) (m_law_3 c))
noncomputable abbrev m_law_1 (c : Ctx) : MS := (seqM (asgM (nmA 3) (binM .Add (intM 1) (callM c (.ref 1071) (consM (locM 1) (consM (intM 4) nilM))))) (m_law_2 c))
noncomputable def m_law (c : Ctx) : MS := (seqM (namesM [1, 2] (consM (dictPM true (consP (strM ("cells" : Str)) (compM (itersM (slcM (locM 0) nopM (ptM (intM 40)))) 16 1 (nmA 16) (yesM true) (binM .Mod (callM c (.type "int") (consM (locM 16) nilM)) (intM 1000003))) (consP (strM ("spins" : Str)) (intM 0) nilP))) (consM (callM c (.ref 741) nilM) nilM))) (m_law_1 c))
noncomputable def tab : Tab where
 gv := [(("BOOL" : Str), (.int 0)), (("WIDEST" : Str), (.int 4096)), (("BV_SAME" : Str), .tup (gv_BV_SAME.map V.str)), (("BV_ASK" : Str), .tup (gv_BV_ASK.map V.str)), (("MIXING" : Str), .tup (gv_MIXING.map V.str)), (("_law_operations" : Str), .tup (gv__law_operations.map V.str))]
 fn := [(("mask_of" : Str), (.ref 142)), (("len" : Str), .builtin "len"), (("tuple" : Str), .type "tuple"), (("one_value" : Str), (.ref 156)), (("two_value" : Str), (.ref 184)), (("power_of" : Str), (.ref 205)), (("_law_spin" : Str), (.ref 1071)), (("range" : Str), .type "range"), (("list" : Str), .type "list"), (("_law_turned" : Str), (.ref 1090)), (("_law_places" : Str), (.ref 1083)), (("sum" : Str), .builtin "sum"), (("_law_values" : Str), (.ref 1100)), (("_law_wheel" : Str), (.ref 1095)), (("_law_divisor" : Str), (.ref 1107)), (("_law_many" : Str), (.ref 1114)), (("int" : Str), .type "int"), (("TermBank" : Str), (.ref 741)), (("BitsRewriter" : Str), (.ref 1061)), (("_law_number" : Str), (.ref 1078)), (("_law_is_plain_right" : Str), (.ref 1119))]
 at_ := [(("numbers" : Str), 741), (("term_ops" : Str), 741), (("term_args" : Str), 741), (("term_sorts" : Str), 741), (("term_datas" : Str), 741), (("fun_names" : Str), 741), (("fun_args" : Str), 741), (("fun_results" : Str), 741), (("sort_widths" : Str), 741), (("true_number" : Str), 741), (("false_number" : Str), 741), (("bv_numbers" : Str), 741), (("sort_names" : Str), 741), (("bank" : Str), 1061)]
 st := [(("sort_names" : Str), 741), (("sort_widths" : Str), 741), (("fun_names" : Str), 741), (("fun_args" : Str), 741), (("fun_results" : Str), 741), (("fresh_count" : Str), 741), (("term_ops" : Str), 741), (("term_args" : Str), 741), (("term_sorts" : Str), 741), (("term_datas" : Str), 741), (("numbers" : Str), 741), (("true_number" : Str), 741), (("false_number" : Str), 741), (("bv_numbers" : Str), 741), (("bank" : Str), 1061), (("yes" : Str), 1061), (("no" : Str), 1061), (("known" : Str), 1061)]
 me := [(("make" : Str), 741, 355), (("declare_fun" : Str), 741, 264), (("width" : Str), 741, 341), (("bv_sort" : Str), 741, 647), (("want_bits" : Str), 741, 661), (("want" : Str), 741, 376), (("true_term" : Str), 741, 390), (("false_term" : Str), 741, 397), (("op" : Str), 741, 313), (("is_bits" : Str), 1061, 909), (("data" : Str), 741, 334), (("bv_num" : Str), 741, 668), (("number" : Str), 1061, 923), (("args" : Str), 741, 320), (("two_bits" : Str), 1061, 937), (("bv_one" : Str), 741, 675), (("mixed_bits" : Str), 1061, 944), (("less_bits" : Str), 1061, 965), (("shifted_bits" : Str), 1061, 972), (("divided_bits" : Str), 1061, 979), (("mixed_number" : Str), 1061, 958), (("is_turned" : Str), 1061, 951), (("bv_two" : Str), 741, 682), (("one_bits" : Str), 1061, 930), (("value_or" : Str), 1061, 916), (("fresh_const" : Str), 741, 278)]
 bm := [(("bit_length" : Str), "int", "int.bit_length"), (("get" : Str), "dict", "dict.get"), (("append" : Str), "list", "list.append"), (("count" : Str), "list", "list.count")]
 tr := [⟨100, 26, 100, 49⟩, ⟨101, 27, 101, 36⟩, ⟨102, 25, 102, 27⟩, ⟨103, 24, 103, 26⟩, ⟨104, 27, 104, 29⟩, ⟨106, 24, 106, 28⟩, ⟨107, 25, 107, 29⟩, ⟨108, 26, 108, 32⟩, ⟨109, 26, 109, 29⟩, ⟨731, 23, 731, 26⟩]
 nd := []
 cp := [(⟨722, 11, 722, 55⟩, G__law_places_c1, 2, 1), (⟨736, 11, 736, 93⟩, G__law_wheel_c1, 8, 1), (⟨737, 16, 737, 86⟩, G__law_wheel_c2, 9, 3), (⟨737, 11, 737, 104⟩, G__law_wheel_c3, 8, 1), (⟨746, 15, 746, 48⟩, G__law_values_c1, 9, 1), (⟨748, 15, 748, 53⟩, G__law_values_c2, 9, 1), (⟨751, 15, 751, 77⟩, G__law_values_c3, 9, 2), (⟨752, 11, 752, 83⟩, G__law_values_c4, 9, 2), (⟨767, 52, 767, 114⟩, G__law_is_plain_right_c1, 9, 1), (⟨771, 27, 771, 72⟩, G_law_c1, 16, 1), (⟨784, 45, 784, 122⟩, G_law_c2, 16, 1)]
end
section
variable {w : World} {h0 : Heap} {mg mb : Str → Option Value} (ok : (cx w h0 mg mb).Ok)
include ok
theorem tk : tab.Ok (cx w h0 mg mb) where
 gv := lk_cons ⟨_, gn_BOOL, gl_int⟩ <| lk_cons ⟨_, gn_WIDEST, gl_int⟩ <| lk_cons ⟨_, gn_BV_SAME, gl_strs ok gt_BV_SAME rfl⟩ <| lk_cons ⟨_, gn_BV_ASK, gl_strs ok gt_BV_ASK rfl⟩ <| lk_cons ⟨_, gn_MIXING, gl_strs ok gt_MIXING rfl⟩ <| lk_cons ⟨_, gn__law_operations, gl_strs ok gt__law_operations rfl⟩ <| lk_nil
 fn := lk_cons ⟨.inl (ok.top gn_mask_of), gk_mask_of⟩ <| lk_cons ⟨.inr (bi_len ok), rfl⟩ <| lk_cons ⟨.inr (bi_tuple ok), rfl⟩ <| lk_cons ⟨.inl (ok.top gn_one_value), gk_one_value⟩ <| lk_cons ⟨.inl (ok.top gn_two_value), gk_two_value⟩ <| lk_cons ⟨.inl (ok.top gn_power_of), gk_power_of⟩ <| lk_cons ⟨.inl (ok.top gn__law_spin), gk__law_spin⟩ <| lk_cons ⟨.inr (bi_range ok), rfl⟩ <| lk_cons ⟨.inr (bi_list ok), rfl⟩ <| lk_cons ⟨.inl (ok.top gn__law_turned), gk__law_turned⟩ <| lk_cons ⟨.inl (ok.top gn__law_places), gk__law_places⟩ <| lk_cons ⟨.inr (bi_sum ok), rfl⟩ <| lk_cons ⟨.inl (ok.top gn__law_values), gk__law_values⟩ <| lk_cons ⟨.inl (ok.top gn__law_wheel), gk__law_wheel⟩ <| lk_cons ⟨.inl (ok.top gn__law_divisor), gk__law_divisor⟩ <| lk_cons ⟨.inl (ok.top gn__law_many), gk__law_many⟩ <| lk_cons ⟨.inr (bi_int ok), rfl⟩ <| lk_cons ⟨.inl (ok.top gn_TermBank), gk_TermBank⟩ <| lk_cons ⟨.inl (ok.top gn_BitsRewriter), gk_BitsRewriter⟩ <| lk_cons ⟨.inl (ok.top gn__law_number), gk__law_number⟩ <| lk_cons ⟨.inl (ok.top gn__law_is_plain_right), gk__law_is_plain_right⟩ <| lk_nil
 at_ := lk_cons at_numbers <| lk_cons at_term_ops <| lk_cons at_term_args <| lk_cons at_term_sorts <| lk_cons at_term_datas <| lk_cons at_fun_names <| lk_cons at_fun_args <| lk_cons at_fun_results <| lk_cons at_sort_widths <| lk_cons at_true_number <| lk_cons at_false_number <| lk_cons at_bv_numbers <| lk_cons at_sort_names <| lk_cons at_bank <| lk_nil
 st := lk_cons st_sort_names <| lk_cons st_sort_widths <| lk_cons st_fun_names <| lk_cons st_fun_args <| lk_cons st_fun_results <| lk_cons st_fresh_count <| lk_cons st_term_ops <| lk_cons st_term_args <| lk_cons st_term_sorts <| lk_cons st_term_datas <| lk_cons st_numbers <| lk_cons st_true_number <| lk_cons st_false_number <| lk_cons st_bv_numbers <| lk_cons st_bank <| lk_cons st_yes <| lk_cons st_no <| lk_cons st_known <| lk_nil
 me := lk_cons me_make <| lk_cons me_declare_fun <| lk_cons me_width <| lk_cons me_bv_sort <| lk_cons me_want_bits <| lk_cons me_want <| lk_cons me_true_term <| lk_cons me_false_term <| lk_cons me_op <| lk_cons me_is_bits <| lk_cons me_data <| lk_cons me_bv_num <| lk_cons me_number <| lk_cons me_args <| lk_cons me_two_bits <| lk_cons me_bv_one <| lk_cons me_mixed_bits <| lk_cons me_less_bits <| lk_cons me_shifted_bits <| lk_cons me_divided_bits <| lk_cons me_mixed_number <| lk_cons me_is_turned <| lk_cons me_bv_two <| lk_cons me_one_bits <| lk_cons me_value_or <| lk_cons me_fresh_const <| lk_nil
 bm := lk_cons ⟨pa_int, F.slot_int_bit_length, ty_bit_length⟩ <| lk_cons ⟨pa_dict, F.slot_dict_get, ty_get⟩ <| lk_cons ⟨pa_list, F.slot_list_append, ty_append⟩ <| lk_cons ⟨pa_list, F.slot_list_count, ty_count⟩ <| lk_nil
theorem s_mask_of : SimB (cx w h0 mg mb) G_mask_of 0 b_mask_of (m_mask_of (cx w h0 mg mb)) := SimB.of ok (tk ok) (by kernel_rfl)
theorem f_mask_of : FnAt (cx w h0 mg mb) 142 (fdAt (KF w.params) 142) b_mask_of ["width"] G_mask_of :=
 FnAt.of ok (by kernel_rfl) (by kernel_rfl) (by kernel_rfl) rfl fun vals hl => by obtain ⟨v0, rfl⟩ := len1 hl; kernel_rfl
theorem s_one_value : SimB (cx w h0 mg mb) G_one_value 0 b_one_value (m_one_value (cx w h0 mg mb)) := SimB.of ok (tk ok) (by kernel_rfl)
theorem f_one_value : FnAt (cx w h0 mg mb) 156 (fdAt (KF w.params) 156) b_one_value ["op", "x", "width"] G_one_value :=
 FnAt.of ok (by kernel_rfl) (by kernel_rfl) (by kernel_rfl) rfl fun vals hl => by obtain ⟨v0, v1, v2, rfl⟩ := len3 hl; kernel_rfl
theorem s_power_of : SimB (cx w h0 mg mb) G_power_of 0 b_power_of (m_power_of (cx w h0 mg mb)) := SimB.of ok (tk ok) (by kernel_rfl)
theorem f_power_of : FnAt (cx w h0 mg mb) 205 (fdAt (KF w.params) 205) b_power_of ["x"] G_power_of :=
 FnAt.of ok (by kernel_rfl) (by kernel_rfl) (by kernel_rfl) rfl fun vals hl => by obtain ⟨v0, rfl⟩ := len1 hl; kernel_rfl
theorem s_Bank_make : SimB (cx w h0 mg mb) G_Bank_make 0 b_Bank_make (m_Bank_make (cx w h0 mg mb)) := SimB.of ok (tk ok) (by kernel_rfl)
theorem f_Bank_make : FnAt (cx w h0 mg mb) 355 (fdAt (KF w.params) 355) b_Bank_make ["self", "op", "args", "sort", "data"] G_Bank_make :=
 FnAt.of ok (by kernel_rfl) (by kernel_rfl) (by kernel_rfl) rfl fun vals hl => by obtain ⟨v0, v1, v2, v3, v4, rfl⟩ := len5 hl; kernel_rfl
theorem s_Bank___init__ : SimB (cx w h0 mg mb) G_Bank___init__ 0 b_Bank___init__ (m_Bank___init__ (cx w h0 mg mb)) := SimB.of ok (tk ok) (by kernel_rfl)
theorem f_Bank___init__ : FnAt (cx w h0 mg mb) 222 (fdAt (KF w.params) 222) b_Bank___init__ ["self"] G_Bank___init__ :=
 FnAt.of ok (by kernel_rfl) (by kernel_rfl) (by kernel_rfl) rfl fun vals hl => by obtain ⟨v0, rfl⟩ := len1 hl; kernel_rfl
theorem S_TermBank___init__ : SuperAt (cx w h0 mg mb) 640 628 ("self" : Str) 741 :=
 SuperAt.of (by kernel_rfl) (by kernel_rfl) (ok.bi (by decide +kernel) (by decide +kernel)) (by kernel_rfl)
theorem s_TermBank___init__ : SimBAt (cx w h0 mg mb) G_TermBank___init__ b_TermBank___init__ b_TermBank___init__ (m_TermBank___init__ (cx w h0 mg mb)) := simBAt_Expr (simAt_Super ok (S_TermBank___init__ ok) rfl (by decide +kernel) (by decide +kernel) (one_of su_TermBank___init__) (SimEs.of ok (tk ok) (by kernel_rfl)) (by decide +kernel) (by decide +kernel) (fun _ => rfl) (fun _ => rfl)) (SimB.of ok (tk ok) (by kernel_rfl)) (fun _ => rfl)
theorem f_TermBank___init__ : FnAtD (cx w h0 mg mb) 640 (fdAt (KF w.params) 640) b_TermBank___init__ ["self"] [] (some 628) G_TermBank___init__ :=
 FnAtD.of ok (by kernel_rfl) (by kernel_rfl) (by kernel_rfl) (fun b e => by cases e; exact ⟨by kernel_rfl, by kernel_rfl⟩) (by kernel_rfl) (fun f b e => by cases e; exact ⟨rfl, rfl⟩) (bindD0 fun vals hl => by obtain ⟨v0, rfl⟩ := len1 hl; kernel_rfl)
theorem s_Bank_declare_fun : SimB (cx w h0 mg mb) G_Bank_declare_fun 0 b_Bank_declare_fun (m_Bank_declare_fun (cx w h0 mg mb)) := SimB.of ok (tk ok) (by kernel_rfl)
theorem f_Bank_declare_fun : FnAt (cx w h0 mg mb) 264 (fdAt (KF w.params) 264) b_Bank_declare_fun ["self", "name", "arg_sorts", "result"] G_Bank_declare_fun :=
 FnAt.of ok (by kernel_rfl) (by kernel_rfl) (by kernel_rfl) rfl fun vals hl => by obtain ⟨v0, v1, v2, v3, rfl⟩ := len4 hl; kernel_rfl
theorem s_Bank_fresh_const : SimB (cx w h0 mg mb) G_Bank_fresh_const 0 b_Bank_fresh_const (m_Bank_fresh_const (cx w h0 mg mb)) := SimB.of ok (tk ok) (by kernel_rfl)
theorem f_Bank_fresh_const : FnAt (cx w h0 mg mb) 278 (fdAt (KF w.params) 278) b_Bank_fresh_const ["self", "name", "s"] G_Bank_fresh_const :=
 FnAt.of ok (by kernel_rfl) (by kernel_rfl) (by kernel_rfl) rfl fun vals hl => by obtain ⟨v0, v1, v2, rfl⟩ := len3 hl; kernel_rfl
theorem s_Bank_op : SimB (cx w h0 mg mb) G_Bank_op 0 b_Bank_op (m_Bank_op (cx w h0 mg mb)) := SimB.of ok (tk ok) (by kernel_rfl)
theorem f_Bank_op : FnAt (cx w h0 mg mb) 313 (fdAt (KF w.params) 313) b_Bank_op ["self", "t"] G_Bank_op :=
 FnAt.of ok (by kernel_rfl) (by kernel_rfl) (by kernel_rfl) rfl fun vals hl => by obtain ⟨v0, v1, rfl⟩ := len2 hl; kernel_rfl
theorem s_Bank_args : SimB (cx w h0 mg mb) G_Bank_args 0 b_Bank_args (m_Bank_args (cx w h0 mg mb)) := SimB.of ok (tk ok) (by kernel_rfl)
theorem f_Bank_args : FnAt (cx w h0 mg mb) 320 (fdAt (KF w.params) 320) b_Bank_args ["self", "t"] G_Bank_args :=
 FnAt.of ok (by kernel_rfl) (by kernel_rfl) (by kernel_rfl) rfl fun vals hl => by obtain ⟨v0, v1, rfl⟩ := len2 hl; kernel_rfl
theorem s_Bank_data : SimB (cx w h0 mg mb) G_Bank_data 0 b_Bank_data (m_Bank_data (cx w h0 mg mb)) := SimB.of ok (tk ok) (by kernel_rfl)
theorem f_Bank_data : FnAt (cx w h0 mg mb) 334 (fdAt (KF w.params) 334) b_Bank_data ["self", "t"] G_Bank_data :=
 FnAt.of ok (by kernel_rfl) (by kernel_rfl) (by kernel_rfl) rfl fun vals hl => by obtain ⟨v0, v1, rfl⟩ := len2 hl; kernel_rfl
theorem s_Bank_width : SimB (cx w h0 mg mb) G_Bank_width 0 b_Bank_width (m_Bank_width (cx w h0 mg mb)) := SimB.of ok (tk ok) (by kernel_rfl)
theorem f_Bank_width : FnAt (cx w h0 mg mb) 341 (fdAt (KF w.params) 341) b_Bank_width ["self", "t"] G_Bank_width :=
 FnAt.of ok (by kernel_rfl) (by kernel_rfl) (by kernel_rfl) rfl fun vals hl => by obtain ⟨v0, v1, rfl⟩ := len2 hl; kernel_rfl
theorem s_Bank_want : SimB (cx w h0 mg mb) G_Bank_want 0 b_Bank_want (m_Bank_want (cx w h0 mg mb)) := SimB.of ok (tk ok) (by kernel_rfl)
theorem f_Bank_want : FnAt (cx w h0 mg mb) 376 (fdAt (KF w.params) 376) b_Bank_want ["self", "t", "s", "where"] G_Bank_want :=
 FnAt.of ok (by kernel_rfl) (by kernel_rfl) (by kernel_rfl) rfl fun vals hl => by obtain ⟨v0, v1, v2, v3, rfl⟩ := len4 hl; kernel_rfl
theorem s_Bank_true_term : SimB (cx w h0 mg mb) G_Bank_true_term 0 b_Bank_true_term (m_Bank_true_term (cx w h0 mg mb)) := SimB.of ok (tk ok) (by kernel_rfl)
theorem f_Bank_true_term : FnAt (cx w h0 mg mb) 390 (fdAt (KF w.params) 390) b_Bank_true_term ["self"] G_Bank_true_term :=
 FnAt.of ok (by kernel_rfl) (by kernel_rfl) (by kernel_rfl) rfl fun vals hl => by obtain ⟨v0, rfl⟩ := len1 hl; kernel_rfl
theorem s_Bank_false_term : SimB (cx w h0 mg mb) G_Bank_false_term 0 b_Bank_false_term (m_Bank_false_term (cx w h0 mg mb)) := SimB.of ok (tk ok) (by kernel_rfl)
theorem f_Bank_false_term : FnAt (cx w h0 mg mb) 397 (fdAt (KF w.params) 397) b_Bank_false_term ["self"] G_Bank_false_term :=
 FnAt.of ok (by kernel_rfl) (by kernel_rfl) (by kernel_rfl) rfl fun vals hl => by obtain ⟨v0, rfl⟩ := len1 hl; kernel_rfl
theorem s_TermBank_bv_sort : SimB (cx w h0 mg mb) G_TermBank_bv_sort 0 b_TermBank_bv_sort (m_TermBank_bv_sort (cx w h0 mg mb)) := SimB.of ok (tk ok) (by kernel_rfl)
theorem f_TermBank_bv_sort : FnAt (cx w h0 mg mb) 647 (fdAt (KF w.params) 647) b_TermBank_bv_sort ["self", "width"] G_TermBank_bv_sort :=
 FnAt.of ok (by kernel_rfl) (by kernel_rfl) (by kernel_rfl) rfl fun vals hl => by obtain ⟨v0, v1, rfl⟩ := len2 hl; kernel_rfl
theorem s_TermBank_want_bits : SimB (cx w h0 mg mb) G_TermBank_want_bits 0 b_TermBank_want_bits (m_TermBank_want_bits (cx w h0 mg mb)) := SimB.of ok (tk ok) (by kernel_rfl)
theorem f_TermBank_want_bits : FnAt (cx w h0 mg mb) 661 (fdAt (KF w.params) 661) b_TermBank_want_bits ["self", "t", "where"] G_TermBank_want_bits :=
 FnAt.of ok (by kernel_rfl) (by kernel_rfl) (by kernel_rfl) rfl fun vals hl => by obtain ⟨v0, v1, v2, rfl⟩ := len3 hl; kernel_rfl
theorem s_TermBank_bv_num : SimB (cx w h0 mg mb) G_TermBank_bv_num 0 b_TermBank_bv_num (m_TermBank_bv_num (cx w h0 mg mb)) := SimB.of ok (tk ok) (by kernel_rfl)
theorem f_TermBank_bv_num : FnAt (cx w h0 mg mb) 668 (fdAt (KF w.params) 668) b_TermBank_bv_num ["self", "value", "width"] G_TermBank_bv_num :=
 FnAt.of ok (by kernel_rfl) (by kernel_rfl) (by kernel_rfl) rfl fun vals hl => by obtain ⟨v0, v1, v2, rfl⟩ := len3 hl; kernel_rfl
theorem s_TermBank_bv_one : SimB (cx w h0 mg mb) G_TermBank_bv_one 0 b_TermBank_bv_one (m_TermBank_bv_one (cx w h0 mg mb)) := SimB.of ok (tk ok) (by kernel_rfl)
theorem f_TermBank_bv_one : FnAt (cx w h0 mg mb) 675 (fdAt (KF w.params) 675) b_TermBank_bv_one ["self", "op", "t"] G_TermBank_bv_one :=
 FnAt.of ok (by kernel_rfl) (by kernel_rfl) (by kernel_rfl) rfl fun vals hl => by obtain ⟨v0, v1, v2, rfl⟩ := len3 hl; kernel_rfl
theorem s_TermBank_bv_two : SimB (cx w h0 mg mb) G_TermBank_bv_two 0 b_TermBank_bv_two (m_TermBank_bv_two (cx w h0 mg mb)) := SimB.of ok (tk ok) (by kernel_rfl)
theorem f_TermBank_bv_two : FnAt (cx w h0 mg mb) 682 (fdAt (KF w.params) 682) b_TermBank_bv_two ["self", "op", "a", "b"] G_TermBank_bv_two :=
 FnAt.of ok (by kernel_rfl) (by kernel_rfl) (by kernel_rfl) rfl fun vals hl => by obtain ⟨v0, v1, v2, v3, rfl⟩ := len4 hl; kernel_rfl
theorem s_BoolRewriter___init__ : SimB (cx w h0 mg mb) G_BoolRewriter___init__ 0 b_BoolRewriter___init__ (m_BoolRewriter___init__ (cx w h0 mg mb)) := SimB.of ok (tk ok) (by kernel_rfl)
theorem f_BoolRewriter___init__ : FnAt (cx w h0 mg mb) 758 (fdAt (KF w.params) 758) b_BoolRewriter___init__ ["self", "bank"] G_BoolRewriter___init__ :=
 FnAt.of ok (by kernel_rfl) (by kernel_rfl) (by kernel_rfl) rfl fun vals hl => by obtain ⟨v0, v1, rfl⟩ := len2 hl; kernel_rfl
theorem s_BitsRewriter_is_bits : SimB (cx w h0 mg mb) G_BitsRewriter_is_bits 0 b_BitsRewriter_is_bits (m_BitsRewriter_is_bits (cx w h0 mg mb)) := SimB.of ok (tk ok) (by kernel_rfl)
theorem f_BitsRewriter_is_bits : FnAt (cx w h0 mg mb) 909 (fdAt (KF w.params) 909) b_BitsRewriter_is_bits ["self", "t"] G_BitsRewriter_is_bits :=
 FnAt.of ok (by kernel_rfl) (by kernel_rfl) (by kernel_rfl) rfl fun vals hl => by obtain ⟨v0, v1, rfl⟩ := len2 hl; kernel_rfl
theorem s_BitsRewriter_value_or : SimB (cx w h0 mg mb) G_BitsRewriter_value_or 0 b_BitsRewriter_value_or (m_BitsRewriter_value_or (cx w h0 mg mb)) := SimB.of ok (tk ok) (by kernel_rfl)
theorem f_BitsRewriter_value_or : FnAt (cx w h0 mg mb) 916 (fdAt (KF w.params) 916) b_BitsRewriter_value_or ["self", "t", "other"] G_BitsRewriter_value_or :=
 FnAt.of ok (by kernel_rfl) (by kernel_rfl) (by kernel_rfl) rfl fun vals hl => by obtain ⟨v0, v1, v2, rfl⟩ := len3 hl; kernel_rfl
theorem s_BitsRewriter_number : SimB (cx w h0 mg mb) G_BitsRewriter_number 0 b_BitsRewriter_number (m_BitsRewriter_number (cx w h0 mg mb)) := SimB.of ok (tk ok) (by kernel_rfl)
theorem f_BitsRewriter_number : FnAt (cx w h0 mg mb) 923 (fdAt (KF w.params) 923) b_BitsRewriter_number ["self", "value", "like"] G_BitsRewriter_number :=
 FnAt.of ok (by kernel_rfl) (by kernel_rfl) (by kernel_rfl) rfl fun vals hl => by obtain ⟨v0, v1, v2, rfl⟩ := len3 hl; kernel_rfl
theorem s_BitsRewriter_one_bits : SimB (cx w h0 mg mb) G_BitsRewriter_one_bits 0 b_BitsRewriter_one_bits (m_BitsRewriter_one_bits (cx w h0 mg mb)) := SimB.of ok (tk ok) (by kernel_rfl)
theorem f_BitsRewriter_one_bits : FnAt (cx w h0 mg mb) 930 (fdAt (KF w.params) 930) b_BitsRewriter_one_bits ["self", "op", "a"] G_BitsRewriter_one_bits :=
 FnAt.of ok (by kernel_rfl) (by kernel_rfl) (by kernel_rfl) rfl fun vals hl => by obtain ⟨v0, v1, v2, rfl⟩ := len3 hl; kernel_rfl
theorem s_BitsRewriter_two_bits : SimB (cx w h0 mg mb) G_BitsRewriter_two_bits 0 b_BitsRewriter_two_bits (m_BitsRewriter_two_bits (cx w h0 mg mb)) := SimB.of ok (tk ok) (by kernel_rfl)
theorem f_BitsRewriter_two_bits : FnAt (cx w h0 mg mb) 937 (fdAt (KF w.params) 937) b_BitsRewriter_two_bits ["self", "op", "a", "b"] G_BitsRewriter_two_bits :=
 FnAt.of ok (by kernel_rfl) (by kernel_rfl) (by kernel_rfl) rfl fun vals hl => by obtain ⟨v0, v1, v2, v3, rfl⟩ := len4 hl; kernel_rfl
theorem s_BitsRewriter_mixed_bits : SimB (cx w h0 mg mb) G_BitsRewriter_mixed_bits 0 b_BitsRewriter_mixed_bits (m_BitsRewriter_mixed_bits (cx w h0 mg mb)) := SimB.of ok (tk ok) (by kernel_rfl)
theorem f_BitsRewriter_mixed_bits : FnAt (cx w h0 mg mb) 944 (fdAt (KF w.params) 944) b_BitsRewriter_mixed_bits ["self", "op", "a", "b"] G_BitsRewriter_mixed_bits :=
 FnAt.of ok (by kernel_rfl) (by kernel_rfl) (by kernel_rfl) rfl fun vals hl => by obtain ⟨v0, v1, v2, v3, rfl⟩ := len4 hl; kernel_rfl
theorem s_BitsRewriter_mixed_number : SimB (cx w h0 mg mb) G_BitsRewriter_mixed_number 0 b_BitsRewriter_mixed_number (m_BitsRewriter_mixed_number (cx w h0 mg mb)) := SimB.of ok (tk ok) (by kernel_rfl)
theorem f_BitsRewriter_mixed_number : FnAt (cx w h0 mg mb) 958 (fdAt (KF w.params) 958) b_BitsRewriter_mixed_number ["self", "op", "value", "b"] G_BitsRewriter_mixed_number :=
 FnAt.of ok (by kernel_rfl) (by kernel_rfl) (by kernel_rfl) rfl fun vals hl => by obtain ⟨v0, v1, v2, v3, rfl⟩ := len4 hl; kernel_rfl
theorem s_BitsRewriter_shifted_bits : SimB (cx w h0 mg mb) G_BitsRewriter_shifted_bits 0 b_BitsRewriter_shifted_bits (m_BitsRewriter_shifted_bits (cx w h0 mg mb)) := SimB.of ok (tk ok) (by kernel_rfl)
theorem f_BitsRewriter_shifted_bits : FnAt (cx w h0 mg mb) 972 (fdAt (KF w.params) 972) b_BitsRewriter_shifted_bits ["self", "op", "a", "b"] G_BitsRewriter_shifted_bits :=
 FnAt.of ok (by kernel_rfl) (by kernel_rfl) (by kernel_rfl) rfl fun vals hl => by obtain ⟨v0, v1, v2, v3, rfl⟩ := len4 hl; kernel_rfl
theorem s__law_spin : SimB (cx w h0 mg mb) G__law_spin 0 b__law_spin (m__law_spin (cx w h0 mg mb)) := SimB.of ok (tk ok) (by kernel_rfl)
theorem f__law_spin : FnAt (cx w h0 mg mb) 1071 (fdAt (KF w.params) 1071) b__law_spin ["top", "many"] G__law_spin :=
 FnAt.of ok (by kernel_rfl) (by kernel_rfl) (by kernel_rfl) rfl fun vals hl => by obtain ⟨v0, v1, rfl⟩ := len2 hl; kernel_rfl
theorem s__law_number : SimB (cx w h0 mg mb) G__law_number 0 b__law_number (m__law_number (cx w h0 mg mb)) := SimB.of ok (tk ok) (by kernel_rfl)
theorem f__law_number : FnAt (cx w h0 mg mb) 1078 (fdAt (KF w.params) 1078) b__law_number ["top", "width"] G__law_number :=
 FnAt.of ok (by kernel_rfl) (by kernel_rfl) (by kernel_rfl) rfl fun vals hl => by obtain ⟨v0, v1, rfl⟩ := len2 hl; kernel_rfl
theorem s__law_places : SimB (cx w h0 mg mb) G__law_places 0 b__law_places (m__law_places (cx w h0 mg mb)) := SimB.of ok (tk ok) (by kernel_rfl)
theorem f__law_places : FnAt (cx w h0 mg mb) 1083 (fdAt (KF w.params) 1083) b__law_places ["number", "width"] G__law_places :=
 FnAt.of ok (by kernel_rfl) (by kernel_rfl) (by kernel_rfl) rfl fun vals hl => by obtain ⟨v0, v1, rfl⟩ := len2 hl; kernel_rfl
theorem s__law_turned : SimB (cx w h0 mg mb) G__law_turned 0 b__law_turned (m__law_turned (cx w h0 mg mb)) := SimB.of ok (tk ok) (by kernel_rfl)
theorem f__law_turned : FnAt (cx w h0 mg mb) 1090 (fdAt (KF w.params) 1090) b__law_turned ["value", "width"] G__law_turned :=
 FnAt.of ok (by kernel_rfl) (by kernel_rfl) (by kernel_rfl) rfl fun vals hl => by obtain ⟨v0, v1, rfl⟩ := len2 hl; kernel_rfl
theorem s__law_wheel : SimB (cx w h0 mg mb) G__law_wheel 0 b__law_wheel (m__law_wheel (cx w h0 mg mb)) := SimB.of ok (tk ok) (by kernel_rfl)
theorem f__law_wheel : FnAt (cx w h0 mg mb) 1095 (fdAt (KF w.params) 1095) b__law_wheel ["op", "value", "width"] G__law_wheel :=
 FnAt.of ok (by kernel_rfl) (by kernel_rfl) (by kernel_rfl) rfl fun vals hl => by obtain ⟨v0, v1, v2, rfl⟩ := len3 hl; kernel_rfl
theorem s__law_values : SimB (cx w h0 mg mb) G__law_values 0 b__law_values (m__law_values (cx w h0 mg mb)) := SimB.of ok (tk ok) (by kernel_rfl)
theorem f__law_values : FnAt (cx w h0 mg mb) 1100 (fdAt (KF w.params) 1100) b__law_values ["bank", "x", "t", "width"] G__law_values :=
 FnAt.of ok (by kernel_rfl) (by kernel_rfl) (by kernel_rfl) rfl fun vals hl => by obtain ⟨v0, v1, v2, v3, rfl⟩ := len4 hl; kernel_rfl
theorem s__law_divisor : SimB (cx w h0 mg mb) G__law_divisor 0 b__law_divisor (m__law_divisor (cx w h0 mg mb)) := SimB.of ok (tk ok) (by kernel_rfl)
theorem f__law_divisor : FnAt (cx w h0 mg mb) 1107 (fdAt (KF w.params) 1107) b__law_divisor ["a", "b"] G__law_divisor :=
 FnAt.of ok (by kernel_rfl) (by kernel_rfl) (by kernel_rfl) rfl fun vals hl => by obtain ⟨v0, v1, rfl⟩ := len2 hl; kernel_rfl
theorem s__law_many : SimB (cx w h0 mg mb) G__law_many 0 b__law_many (m__law_many (cx w h0 mg mb)) := SimB.of ok (tk ok) (by kernel_rfl)
theorem f__law_many : FnAt (cx w h0 mg mb) 1114 (fdAt (KF w.params) 1114) b__law_many ["op", "value", "width"] G__law_many :=
 FnAt.of ok (by kernel_rfl) (by kernel_rfl) (by kernel_rfl) rfl fun vals hl => by obtain ⟨v0, v1, v2, rfl⟩ := len3 hl; kernel_rfl
theorem s__law_is_plain_right : SimB (cx w h0 mg mb) G__law_is_plain_right 0 b__law_is_plain_right (m__law_is_plain_right (cx w h0 mg mb)) := SimB.of ok (tk ok) (by kernel_rfl)
theorem f__law_is_plain_right : FnAt (cx w h0 mg mb) 1119 (fdAt (KF w.params) 1119) b__law_is_plain_right ["bank", "x", "width", "found", "op", "value"] G__law_is_plain_right :=
 FnAt.of ok (by kernel_rfl) (by kernel_rfl) (by kernel_rfl) rfl fun vals hl => by obtain ⟨v0, v1, v2, v3, v4, v5, rfl⟩ := len6 hl; kernel_rfl
theorem s_law : SimB (cx w h0 mg mb) G_law 0 b_law (m_law (cx w h0 mg mb)) := SimB.of ok (tk ok) (by kernel_rfl)
theorem f_law : FnAt (cx w h0 mg mb) 1124 (fdAt (KF w.params) 1124) b_law ["script"] G_law :=
 FnAt.of ok (by kernel_rfl) (by kernel_rfl) (by kernel_rfl) rfl fun vals hl => by obtain ⟨v0, rfl⟩ := len1 hl; kernel_rfl
end
end
section
structure T where
 op : Str
 args : List Int
 sort : Int
 data : Int
 deriving DecidableEq
noncomputable def T.key (t : T) : V := .tup [.str t.op, .tup (t.args.map V.int), .int t.sort, .int t.data]
noncomputable def nums (ts : List T) : List (V × V) := ts.zipIdx.map fun p => (p.1.key, V.int (p.2 + 1))
structure Bk where
 names : List V
 widths : List V
 fnames : List V
 fargs : List V
 fres : List V
 ts : List T
noncomputable def baseNs (more : List (Str × V)) : List (Str × V) := ("sort_names", .ref 2) :: ("sort_widths", .ref 3) :: ("fun_names", .ref 4) :: ("fun_args", .ref 5) :: ("fun_results", .ref 6) :: ("fresh_count", .int 0) :: ("term_ops", .ref 7) :: ("term_args", .ref 8) :: ("term_sorts", .ref 9) :: ("term_datas", .ref 10) :: ("numbers", .ref 11) :: more
noncomputable def σR (top : AObj) (more : List (Str × V)) (n wd fn fa fr ops args sorts datas : List V) (nu : List (V × V)) (rest : St) : St :=
 some top :: some (.ns (baseNs more)) :: some (.list n) :: some (.list wd) :: some (.list fn) :: some (.list fa) :: some (.list fr) :: some (.list ops) :: some (.list args) :: some (.list sorts) :: some (.list datas) :: some (.dict nu) :: rest
noncomputable def tops (ts : List T) : List V := .str "" :: ts.map fun t => V.str t.op
noncomputable def targs (ts : List T) : List V := .tup [] :: ts.map fun t => V.tup (t.args.map V.int)
noncomputable def tsorts (ts : List T) : List V := .int 0 :: ts.map fun t => V.int t.sort
noncomputable def tdatas (ts : List T) : List V := .int 0 :: ts.map fun t => V.int t.data
noncomputable def σB (top : AObj) (b : Bk) (more : List (Str × V)) (rest : St) : St :=
 σR top more b.names b.widths b.fnames b.fargs b.fres (tops b.ts) (targs b.ts) (tsorts b.ts) (tdatas b.ts) (nums b.ts) rest
section
variable {top : AObj} {more : List (Str × V)} {n wd fn fa fr ops args sorts datas x : List V} {nu y : List (V × V)} {rest : St}
theorem lk_sort_names : (baseNs more).lookup ("sort_names" : Str) = some (.ref 2) := by kernel_rfl
theorem lk_sort_widths : (baseNs more).lookup ("sort_widths" : Str) = some (.ref 3) := by kernel_rfl
theorem lk_fun_names : (baseNs more).lookup ("fun_names" : Str) = some (.ref 4) := by kernel_rfl
theorem lk_fun_args : (baseNs more).lookup ("fun_args" : Str) = some (.ref 5) := by kernel_rfl
theorem lk_fun_results : (baseNs more).lookup ("fun_results" : Str) = some (.ref 6) := by kernel_rfl
theorem lk_term_ops : (baseNs more).lookup ("term_ops" : Str) = some (.ref 7) := by kernel_rfl
theorem lk_term_args : (baseNs more).lookup ("term_args" : Str) = some (.ref 8) := by kernel_rfl
theorem lk_term_sorts : (baseNs more).lookup ("term_sorts" : Str) = some (.ref 9) := by kernel_rfl
theorem lk_term_datas : (baseNs more).lookup ("term_datas" : Str) = some (.ref 10) := by kernel_rfl
theorem lk_numbers : (baseNs more).lookup ("numbers" : Str) = some (.ref 11) := by kernel_rfl
end
theorem lk_true : (baseNs [("true_number", .int 1), ("false_number", .int 2), ("bv_numbers", .ref 12)]).lookup ("true_number" : Str) = some (.int 1) := by kernel_rfl
theorem lk_false : (baseNs [("true_number", .int 1), ("false_number", .int 2), ("bv_numbers", .ref 12)]).lookup ("false_number" : Str) = some (.int 2) := by kernel_rfl
theorem lk_bvn : (baseNs [("true_number", .int 1), ("false_number", .int 2), ("bv_numbers", .ref 12)]).lookup ("bv_numbers" : Str) = some (.ref 12) := by kernel_rfl
noncomputable abbrev M3 : List (Str × V) := [("true_number", .int 1), ("false_number", .int 2), ("bv_numbers", .ref 12)]
noncomputable def RN : List (Str × V) := [("bank", .inst 741 1), ("yes", .int 1), ("no", .int 2), ("known", .ref 14)]
theorem rk_bank : RN.lookup ("bank" : Str) = some (.inst 741 1) := by kernel_rfl
theorem rk_yes : RN.lookup ("yes" : Str) = some (.int 1) := by kernel_rfl
theorem rk_no : RN.lookup ("no" : Str) = some (.int 2) := by kernel_rfl
noncomputable def mkT (ts : List T) (t : T) : Int × List T := match ts.findIdx? (fun u => decide (u = t)) with
 | some i => (i + 1, ts)
 | none => (ts.length + 1, ts ++ [t])
theorem beq_int : ∀ (xs ys : List Int), V.beqs (xs.map V.int) (ys.map V.int) = decide (xs = ys)
 | [], [] => by simp [V.beqs]
 | [], _ :: _ => by simp [V.beqs]
 | _ :: _, [] => by simp [V.beqs]
 | x :: xs, y :: ys => by simp [V.beqs, V.beq, beq_int xs ys, Bool.decide_and]; rfl
theorem key_beq (t u : T) : V.beq t.key u.key = decide (t = u) := by
 obtain ⟨a, b, c, d⟩ := t
 obtain ⟨a', b', c', d'⟩ := u
 simp [T.key, V.beq, V.beqs, beq_int, Bool.and_assoc]; rfl
theorem nums_get (ts : List T) (t : T) : dget (nums ts) t.key = (ts.findIdx? fun u => decide (u = t)).map fun (i : Nat) => V.int ((i : Int) + 1) := by
 have key : ∀ (ts : List T) (n : Nat), (((ts.zipIdx n).map fun p => (p.1.key, V.int (p.2 + 1))).find? fun p => V.beq p.1 t.key).map (·.2) = (ts.findIdx? fun u => decide (u = t)).map fun i => V.int ((i + n : Nat) + 1) := by
  intro ts
  induction ts with
  | nil => intro n; rfl
  | cons u ts ih =>
   intro n
   simp only [List.zipIdx_cons, List.map_cons, List.find?_cons, key_beq, List.findIdx?_cons]
   by_cases h : u = t
   ·simp [h]
   ·simp only [h, decide_false, if_false, Bool.false_eq_true]
    rw [ih (n + 1)]
    cases ts.findIdx? fun u => decide (u = t) with
    | none => rfl
    | some i => simp only [Option.map_some]; congr 3; lia
 have := key ts 0
 simpa [dget, nums] using this
theorem nums_keyP {ts : List T} {t : T} (h0 : PyData.canLay0 (.str t.op) = true) (h1 : ts.length ≤ 1000) : keyP (nums ts) t.key := by
 refine ⟨?_, ?_, ?_, ?_⟩
 ·have : ∀ l : List Int, V.keys (l.map V.int) = true := fun l => by induction l with | nil => rfl | cons a l ih => simp [V.keys, V.key, ih]
  simp [T.key, V.key, V.keys, this, h0]
 ·have : ∀ l : List Int, V.deps (l.map V.int) = 0 := fun l => by induction l with | nil => rfl | cons a l ih => simp [V.deps, V.dep, ih]
  simp [T.key, V.dep, V.deps, this]
 ·rw [List.all_eq_true]; intro p hp
  simp only [nums, List.mem_map] at hp
  obtain ⟨q, _, rfl⟩ := hp
  rfl
 ·simp [nums]; lia
theorem k_len {c : Ctx} {d n : Nat} {σ : St} {l : List V} {Q : V → St → Prop} (h : σ[n]? = some (some (.list l))) (hl : l.length ≤ 1000000) (q : Q (.int l.length) σ) : CallT c (.builtin "len") d [.ref n] σ Q :=
 callT_len_list (by unfold lsP; dsimp only; rw [h]; exact ⟨hl, q⟩)
theorem k_lenF {c : Ctx} {d : Nat} {σ : St} {l : List V} {Q : V → St → Prop} (hl : l.length ≤ 1000000) (q : Q (.int l.length) σ) : CallT c (.builtin "len") d [.fl l] σ Q :=
 callT_len_list ⟨hl, q⟩
end
local macro_rules | `(tactic| tm_at "d") => `(tactic| first | ((with_reducible apply stp); (with_reducible constructor)) | ((with_reducible refine i_loc (y := ?y) ?h ?q); (case h => with_unfolding_all exact rfl)) | ((with_reducible refine i_attrC (kvs := ?kvs) (y := ?y) ?h1 ?h2 ?h3 ?q); (case h1 => with_unfolding_all exact rfl); (case h2 => with_unfolding_all exact rfl); (case h3 => (first | exact lk_numbers | exact lk_term_ops | exact lk_term_args | exact lk_term_sorts | exact lk_term_datas | exact lk_sort_widths | exact lk_sort_names | exact lk_fun_names | exact lk_fun_args | exact lk_fun_results | exact lk_true | exact lk_false | exact lk_bvn | exact rk_bank | exact rk_yes | exact rk_no))) | ((with_reducible refine i_methC (f := ?f) (kvs := ?kvs) ?h1 ?h2 ?h3 ?q); (case h1 => with_unfolding_all exact if_pos rfl); (case h2 => with_unfolding_all exact rfl); (case h3 => kernel_rfl)) | ((with_reducible refine i_bmethC ?_ ?_); with_unfolding_all exact rfl) | ((with_reducible refine i_len ?_ ?_); exact Nat.le_of_ble_eq_true (by kernel_rfl)) | ((with_reducible refine i_onB ?_ ?_); with_unfolding_all exact rfl) | ((with_reducible refine i_T ?_ ?_); first | decide +kernel | (dsimp only; decide +kernel)) | ((with_reducible refine i_F ?_ ?_); first | decide +kernel | (dsimp only; decide +kernel)))
local macro_rules | `(tactic| tm_at "D") => `(tactic| (with_reducible show ?G; with_reducible refine dq (P := ?P) (G := ?G) (type_of% (dd (P := ?P) (G := ?G) (by intro hp; tm_at "d"; (repeat tm_at "d"); exact hp))) (by kernel_rfl) ?_))
local macro_rules | `(tactic| tm_at "g") => `(tactic| first | tm_at "D" | with_reducible (first | refine q_eqL ?_ | refine q_neL ?_ | refine q_inI ?_) | ((with_reducible refine q_inS (xs := ?xs) ?h1 ?h2 ?q); (case h1 => exact rfl); (case h2 => decide +kernel)) | ((with_reducible refine i_len ?_ ?_); exact Nat.le_of_ble_eq_true (by kernel_rfl)) | ((with_reducible refine And.intro ?_ ?_); exact rfl))
local macro_rules | `(tactic| tm_at "g3") => `(tactic| first | tm_at "g" | ((with_reducible refine i_attrAC (kvs := ?kvs) ?h1 ?h2 ?h3 ?q); (case h1 => exact rfl); (case h2 => exact rfl); (case h3 => exact Nat.le_of_ble_eq_true (by kernel_rfl))))
local macro_rules | `(tactic| tm_at "g2") => `(tactic| first | tm_at "g" | ((with_reducible refine i_T ?_ ?_); assumption) | ((with_reducible refine i_F ?_ ?_); assumption))
section
variable {w : World} {h0 : Heap} {mg mb : Str → Option Value} {top : AObj} {b : Bk} {more : List (Str × V)} {rest : St} {d : Nat} {Q : V → St → Prop}
theorem c_make {t : T} (ok : (cx w h0 mg mb).Ok) (hop : PyData.canLay0 (.str t.op) = true) (h1 : b.ts.length ≤ 1000) (hQ : Q (.int (mkT b.ts t).1) (σB top { b with ts := (mkT b.ts t).2 } more rest)) :
  CodeT (cx w h0 mg mb) (.ref 355) (d + 1) [.inst 741 1, .str t.op, .tup (t.args.map V.int), .int t.sort, .int t.data] (σB top b more rest) Q := by
 refine codeT_fn (k := 2) ok (f_Bank_make ok) (s_Bank_make ok) rfl ?_
 delta m_Bank_make σB
 repeat tm_at "g"
 refine callT_get ok rfl (show keyP (nums b.ts) t.key from nums_keyP hop h1) (fun y e => ?_) (fun e => ?_)
 ·have e : dget (nums b.ts) t.key = some y := e
  rw [nums_get] at e
  cases hf : b.ts.findIdx? fun u => decide (u = t) with
  | none => rw [hf] at e; cases e
  | some i =>
   rw [hf] at e; cases e
   repeat tm_at "g"
   refine i_F (by simp; lia) ?_
   repeat tm_at "g"
   unfold mkT at hQ; rw [hf] at hQ
   exact hQ
 ·have e : dget (nums b.ts) t.key = none := e
  have hf : (b.ts.findIdx? fun u => decide (u = t)) = none := by
   rw [nums_get] at e
   cases hf : b.ts.findIdx? fun u => decide (u = t) with
   | none => rfl
   | some i => rw [hf] at e; cases e
  unfold mkT at hQ; rw [hf] at hQ
  have l1 : (tops b.ts).length = b.ts.length + 1 := by simp [tops]
  have l2 : (targs b.ts).length = b.ts.length + 1 := by simp [targs]
  have l3 : (tsorts b.ts).length = b.ts.length + 1 := by simp [tsorts]
  have l4 : (tdatas b.ts).length = b.ts.length + 1 := by simp [tdatas]
  repeat tm_at "g"
  refine k_len rfl (by lia) ?_
  repeat tm_at "g"
  refine callT_append rfl (by lia) ?_
  repeat tm_at "g"
  refine callT_append rfl (by lia) ?_
  repeat tm_at "g"
  refine callT_append rfl (by lia) ?_
  repeat tm_at "g"
  refine callT_append rfl (by lia) ?_
  repeat tm_at "g"
  refine i_setP rfl (show keyP (nums b.ts) t.key from nums_keyP hop h1) ?_
  repeat tm_at "g"
  have hs : dset (nums b.ts) t.key (.int (b.ts.length + 1)) = nums (b.ts ++ [t]) := by
   have hn : ((nums b.ts).any fun p => V.beq p.1 t.key) = false := by
    unfold dget at e
    rw [Option.map_eq_none_iff, List.find?_eq_none] at e
    rw [List.any_eq_false]
    exact e
   unfold dset
   rw [if_neg (by rw [hn]; decide)]
   simp [nums, List.zipIdx_append]
  show Q (.int ((tops b.ts).length : Int)) _
  have hl : ((tops b.ts).length : Int) = (b.ts.length : Int) + 1 := by rw [l1]; rfl
  have fin : σR top more b.names b.widths b.fnames b.fargs b.fres (tops b.ts ++ [.str t.op]) (targs b.ts ++ [.tup (t.args.map V.int)]) (tsorts b.ts ++ [.int t.sort]) (tdatas b.ts ++ [.int t.data]) (dset (nums b.ts) t.key (.int ((b.ts.length : Int) + 1))) rest = σB top { b with ts := b.ts ++ [t] } more rest := by
   rw [hs]
   simp [σB, tops, targs, tsorts, tdatas]
  rw [hl]
  dsimp only at hQ
  rw [← fin] at hQ
  exact hQ
end
section
noncomputable def Z (top : AObj) (nm : V) (wd : Nat) (ts : List T) : St :=
 σB top ⟨[.str "Bool", .str "Int", .str "Real", nm], [.int 0, .int 0, .int 0, .int wd], [.str "x"], [.tup []], [.int 3], ts⟩ M3 [some (.dict [(.int wd, .int 3)]), some (.ns RN), some (.dict [])]
noncomputable def At (ts : List T) (i : Int) (t : T) : Prop := ∃ n : Nat, i = (n : Int) + 1 ∧ ts[n]? = some t
theorem At.lo {ts : List T} {i : Int} {t : T} (h : At ts i t) : 0 ≤ i := by obtain ⟨n, rfl, _⟩ := h; lia
theorem At.hi {ts : List T} {i : Int} {t : T} (h : At ts i t) (h1 : ts.length ≤ 1000) : i < 4000000000 := by
 obtain ⟨n, rfl, e⟩ := h
 have := (List.getElem?_eq_some_iff.mp e).1
 lia
theorem At.tops {ts : List T} {i : Int} {t : T} (h : At ts i t) : (tops ts)[i.toNat]? = some (.str t.op) := by
 obtain ⟨n, rfl, e⟩ := h
 have : ((n : Int) + 1).toNat = n + 1 := by lia
 rw [this]; simp [Mine.tops, e]
theorem At.targs {ts : List T} {i : Int} {t : T} (h : At ts i t) : (targs ts)[i.toNat]? = some (.tup (t.args.map V.int)) := by
 obtain ⟨n, rfl, e⟩ := h
 have : ((n : Int) + 1).toNat = n + 1 := by lia
 rw [this]; simp [Mine.targs, e]
theorem At.tsorts {ts : List T} {i : Int} {t : T} (h : At ts i t) : (tsorts ts)[i.toNat]? = some (.int t.sort) := by
 obtain ⟨n, rfl, e⟩ := h
 have : ((n : Int) + 1).toNat = n + 1 := by lia
 rw [this]; simp [Mine.tsorts, e]
theorem At.tdatas {ts : List T} {i : Int} {t : T} (h : At ts i t) : (tdatas ts)[i.toNat]? = some (.int t.data) := by
 obtain ⟨n, rfl, e⟩ := h
 have : ((n : Int) + 1).toNat = n + 1 := by lia
 rw [this]; simp [Mine.tdatas, e]
variable {w : World} {h0 : Heap} {mg mb : Str → Option Value} {top : AObj} {nm : V} {wd : Nat} {ts : List T} {d : Nat} {Q : V → St → Prop} {i j : Int} {t u : T}
theorem z_make (ok : (cx w h0 mg mb).Ok) (t : T) (hop : PyData.canLay0 (.str t.op) = true) (h1 : ts.length ≤ 1000) (hQ : Q (.int (mkT ts t).1) (Z top nm wd (mkT ts t).2)) :
  CallT (cx w h0 mg mb) (.ref 355) (d + 1) [.inst 741 1, .str t.op, .tup (t.args.map V.int), .int t.sort, .int t.data] (Z top nm wd ts) Q := (c_make ok hop h1 hQ).call
theorem z_op (ok : (cx w h0 mg mb).Ok) (h1 : ts.length ≤ 1000) (h : At ts i t) (hQ : Q (.str t.op) (Z top nm wd ts)) : CallT (cx w h0 mg mb) (.ref 313) (d + 1) [.inst 741 1, .int i] (Z top nm wd ts) Q := by
 refine (codeT_fn (k := 0) ok (f_Bank_op ok) (s_Bank_op ok) rfl ?_).call
 delta m_Bank_op
 repeat tm_at "g"
 refine s_list (l := tops ts) rfl h.lo (h.hi h1) h.tops ?_
 repeat tm_at "g"
 exact hQ
theorem z_args (ok : (cx w h0 mg mb).Ok) (h1 : ts.length ≤ 1000) (h : At ts i t) (hQ : Q (.tup (t.args.map V.int)) (Z top nm wd ts)) : CallT (cx w h0 mg mb) (.ref 320) (d + 1) [.inst 741 1, .int i] (Z top nm wd ts) Q := by
 refine (codeT_fn (k := 0) ok (f_Bank_args ok) (s_Bank_args ok) rfl ?_).call
 delta m_Bank_args
 repeat tm_at "g"
 refine s_list (l := targs ts) rfl h.lo (h.hi h1) h.targs ?_
 repeat tm_at "g"
 exact hQ
theorem z_data (ok : (cx w h0 mg mb).Ok) (h1 : ts.length ≤ 1000) (h : At ts i t) (hQ : Q (.int t.data) (Z top nm wd ts)) : CallT (cx w h0 mg mb) (.ref 334) (d + 1) [.inst 741 1, .int i] (Z top nm wd ts) Q := by
 refine (codeT_fn (k := 0) ok (f_Bank_data ok) (s_Bank_data ok) rfl ?_).call
 delta m_Bank_data
 repeat tm_at "g"
 refine s_list (l := tdatas ts) rfl h.lo (h.hi h1) h.tdatas ?_
 repeat tm_at "g"
 exact hQ
theorem z_width (ok : (cx w h0 mg mb).Ok) (h1 : ts.length ≤ 1000) (h : At ts i t) (hs : t.sort = 3) (hQ : Q (.int wd) (Z top nm wd ts)) : CallT (cx w h0 mg mb) (.ref 341) (d + 1) [.inst 741 1, .int i] (Z top nm wd ts) Q := by
 refine (codeT_fn (k := 0) ok (f_Bank_width ok) (s_Bank_width ok) rfl ?_).call
 delta m_Bank_width
 repeat tm_at "g"
 refine s_list (l := tsorts ts) rfl h.lo (h.hi h1) h.tsorts ?_
 rw [hs]
 refine s_list rfl (by decide) (by decide) rfl ?_
 repeat tm_at "g"
 exact hQ
theorem z_want (ok : (cx w h0 mg mb).Ok) (h1 : ts.length ≤ 1000) {wh : Str} (h : At ts i t) (hQ : Q .none (Z top nm wd ts)) : CallT (cx w h0 mg mb) (.ref 376) (d + 1) [.inst 741 1, .int i, .int t.sort, .str wh] (Z top nm wd ts) Q := by
 refine (codeT_fn (k := 0) ok (f_Bank_want ok) (s_Bank_want ok) rfl ?_).call
 delta m_Bank_want
 repeat tm_at "g"
 refine s_list (l := tsorts ts) rfl h.lo (h.hi h1) h.tsorts ?_
 repeat tm_at "g"
 refine i_F (by simp) ?_
 repeat tm_at "g"
 exact hQ
theorem z_wantbits (ok : (cx w h0 mg mb).Ok) (h1 : ts.length ≤ 1000) {wh : Str} (hw : wd ≠ 0) (h : At ts i t) (hs : t.sort = 3) (hQ : Q .none (Z top nm wd ts)) : CallT (cx w h0 mg mb) (.ref 661) (d + 2) [.inst 741 1, .int i, .str wh] (Z top nm wd ts) Q := by
 refine (codeT_fn (k := 0) ok (f_TermBank_want_bits ok) (s_TermBank_want_bits ok) rfl ?_).call
 delta m_TermBank_want_bits
 repeat tm_at "g"
 refine z_width ok h1 h hs ?_
 repeat tm_at "g"
 refine i_F (by simp; lia) ?_
 repeat tm_at "g"
 exact hQ
theorem z_sort (ok : (cx w h0 mg mb).Ok) (hw : 1 ≤ wd) (hw4 : wd ≤ 4) (hQ : Q (.int 3) (Z top nm wd ts)) : CallT (cx w h0 mg mb) (.ref 647) (d + 1) [.inst 741 1, .int wd] (Z top nm wd ts) Q := by
 refine (codeT_fn (k := 0) ok (f_TermBank_bv_sort ok) (s_TermBank_bv_sort ok) rfl ?_).call
 delta m_TermBank_bv_sort
 repeat tm_at "g"
 refine i_F (by simp; lia) ?_
 repeat tm_at "g"
 refine i_F (by simp; lia) ?_
 repeat tm_at "g"
 refine q_ninD rfl ⟨rfl, Nat.le_of_ble_eq_true rfl, rfl, Nat.le_of_ble_eq_true rfl⟩ ?_
 repeat tm_at "g"
 refine i_F (by simp [V.beq]) ?_
 repeat tm_at "g"
 refine s_dict rfl ⟨rfl, Nat.le_of_ble_eq_true rfl, rfl, Nat.le_of_ble_eq_true rfl⟩ (by simp [dget, V.beq]; rfl) ?_
 repeat tm_at "g"
 exact hQ
theorem z_bvnum (ok : (cx w h0 mg mb).Ok) (h1 : ts.length ≤ 1000) (hw : 1 ≤ wd) (hw4 : wd ≤ 4) {v : Int} (hQ : Q (.int (mkT ts ⟨"bvnum", [], 3, v.fmod (2 ^ wd)⟩).1) (Z top nm wd (mkT ts ⟨"bvnum", [], 3, v.fmod (2 ^ wd)⟩).2)) :
  CallT (cx w h0 mg mb) (.ref 668) (d + 2) [.inst 741 1, .int v, .int wd] (Z top nm wd ts) Q := by
 refine (codeT_fn (k := 1) ok (f_TermBank_bv_num ok) (s_TermBank_bv_num ok) rfl ?_).call
 delta m_TermBank_bv_num
 repeat tm_at "g"
 refine z_sort ok hw hw4 ?_
 repeat tm_at "g"
 refine o_shl (by lia) (by lia) (by decide) ?_
 refine o_mod ?_ ?_
 ·have : (0 : Int) < 2 ^ wd := Int.pow_pos (by decide)
  have e : (1 : Int) * 2 ^ ((wd : Int)).toNat = 2 ^ wd := by simp
  rw [e]; lia
 repeat tm_at "g"
 refine z_make ok ⟨"bvnum", [], 3, _⟩ (by kernel_rfl) h1 ?_
 repeat tm_at "g"
 have e : (1 : Int) * 2 ^ ((wd : Int)).toNat = 2 ^ wd := by simp
 rw [e]
 exact hQ
theorem z_bvone (ok : (cx w h0 mg mb).Ok) (h1 : ts.length ≤ 1000) (hw : 1 ≤ wd) {op : Str} (hop : op = "bvnot" ∨ op = "bvneg") (h : At ts i t) (hs : t.sort = 3) (hQ : Q (.int (mkT ts ⟨op, [i], 3, 0⟩).1) (Z top nm wd (mkT ts ⟨op, [i], 3, 0⟩).2)) :
  CallT (cx w h0 mg mb) (.ref 675) (d + 3) [.inst 741 1, .str op, .int i] (Z top nm wd ts) Q := by
 refine (codeT_fn (k := 0) ok (f_TermBank_bv_one ok) (s_TermBank_bv_one ok) rfl ?_).call
 delta m_TermBank_bv_one
 rcases hop with rfl | rfl
 all_goals
  repeat tm_at "g"
  refine z_wantbits ok h1 (by lia) h hs ?_
  repeat tm_at "g"
  refine s_list (l := tsorts ts) rfl h.lo (h.hi h1) h.tsorts ?_
  rw [hs]
  repeat tm_at "g"
  refine z_make ok ⟨_, [i], 3, 0⟩ (by kernel_rfl) h1 ?_
  repeat tm_at "g"
  exact hQ
theorem z_bvtwo (ok : (cx w h0 mg mb).Ok) (h1 : ts.length ≤ 1000) (hw : 1 ≤ wd) {op : Str} (hop : op ∈ (["bvand", "bvor", "bvxor", "bvadd", "bvmul", "bvshl"] : List Str)) (h : At ts i t) (hs : t.sort = 3) (h' : At ts j u) (hs' : u.sort = 3)
  (hQ : Q (.int (mkT ts ⟨op, [i, j], 3, 0⟩).1) (Z top nm wd (mkT ts ⟨op, [i, j], 3, 0⟩).2)) : CallT (cx w h0 mg mb) (.ref 682) (d + 3) [.inst 741 1, .str op, .int i, .int j] (Z top nm wd ts) Q := by
 refine (codeT_fn (k := 0) ok (f_TermBank_bv_two ok) (s_TermBank_bv_two ok) rfl ?_).call
 delta m_TermBank_bv_two
 have e : t.sort = u.sort := by rw [hs, hs']
 simp only [List.mem_cons, List.not_mem_nil, or_false] at hop
 rcases hop with rfl | rfl | rfl | rfl | rfl | rfl
 all_goals
  repeat tm_at "g"
  refine z_wantbits ok h1 (by lia) h hs ?_
  repeat tm_at "g"
  refine s_list (l := tsorts ts) rfl h.lo (h.hi h1) h.tsorts ?_
  rw [e]
  repeat tm_at "g"
  refine z_want ok h1 h' ?_
  repeat tm_at "g"
  refine s_list (l := tsorts ts) rfl h.lo (h.hi h1) h.tsorts ?_
  rw [hs]
  repeat tm_at "g"
  refine z_make ok ⟨_, [i, j], 3, 0⟩ (by kernel_rfl) h1 ?_
  repeat tm_at "g"
  exact hQ
end
section
inductive Op5 where
 | and | or | xor | add | mul
 deriving DecidableEq
noncomputable def Op5.str : Op5 → Str
 | .and => "bvand"
 | .or => "bvor"
 | .xor => "bvxor"
 | .add => "bvadd"
 | .mul => "bvmul"
inductive Tm where
 | var
 | num (v : Nat)
 | bnot (t : Tm)
 | neg (t : Tm)
 | shl (t : Tm) (p : Nat)
 | bin (o : Op5) (v : Nat) (t : Tm)
 deriving DecidableEq
inductive Is (wd : Nat) (ts : List T) : Int → Tm → Prop
 | var : At ts 3 ⟨"app", [], 3, 0⟩ → Is wd ts 3 .var
 | num {i : Int} {v : Nat} : v < 2 ^ wd → At ts i ⟨"bvnum", [], 3, v⟩ → Is wd ts i (.num v)
 | bnot {i j : Int} {t : Tm} : Is wd ts j t → At ts i ⟨"bvnot", [j], 3, 0⟩ → Is wd ts i (.bnot t)
 | neg {i j : Int} {t : Tm} : Is wd ts j t → At ts i ⟨"bvneg", [j], 3, 0⟩ → Is wd ts i (.neg t)
 | shl {i j k : Int} {t : Tm} {p : Nat} : Is wd ts j t → p < 2 ^ wd → At ts k ⟨"bvnum", [], 3, p⟩ → At ts i ⟨"bvshl", [j, k], 3, 0⟩ → Is wd ts i (.shl t p)
 | bin {i j k : Int} {t : Tm} {v : Nat} {o : Op5} : Is wd ts j t → v < 2 ^ wd → At ts k ⟨"bvnum", [], 3, v⟩ → At ts i ⟨o.str, [k, j], 3, 0⟩ → Is wd ts i (.bin o v t)
noncomputable def Grow (ts : List T) (k : Nat) (ts' : List T) : Prop := ts <+: ts' ∧ ts'.Nodup ∧ ts'.length ≤ ts.length + k
theorem At.mono {ts ts' : List T} {i : Int} {t : T} (h : At ts i t) (p : ts <+: ts') : At ts' i t := by
 obtain ⟨n, rfl, e⟩ := h
 obtain ⟨r, rfl⟩ := p
 exact ⟨n, rfl, by rw [List.getElem?_append_left (List.getElem?_eq_some_iff.mp e).1]; exact e⟩
theorem Is.mono {wd : Nat} {ts ts' : List T} {i : Int} {t : Tm} (h : Is wd ts i t) (p : ts <+: ts') : Is wd ts' i t := by
 induction h with
 | var a => exact .var (a.mono p)
 | num b a => exact .num b (a.mono p)
 | bnot _ a ih => exact .bnot ih (a.mono p)
 | neg _ a ih => exact .neg ih (a.mono p)
 | shl _ b c a ih => exact .shl ih b (c.mono p) (a.mono p)
 | bin _ b c a ih => exact .bin ih b (c.mono p) (a.mono p)
theorem At.eq {ts : List T} {i : Int} {t u : T} (h : At ts i t) (h' : At ts i u) : t = u := by
 obtain ⟨n, rfl, e⟩ := h
 obtain ⟨m, e', f⟩ := h'
 have : n = m := by lia
 subst this
 rw [e] at f; cases f; rfl
theorem At.inj {ts : List T} (hn : ts.Nodup) {i j : Int} {t : T} (h : At ts i t) (h' : At ts j t) : i = j := by
 obtain ⟨n, rfl, e⟩ := h
 obtain ⟨m, rfl, f⟩ := h'
 obtain ⟨a, e⟩ := List.getElem?_eq_some_iff.mp e
 obtain ⟨b, f⟩ := List.getElem?_eq_some_iff.mp f
 have pw := List.pairwise_iff_getElem.mp hn
 rcases Nat.lt_trichotomy n m with h | h | h
 ·exact absurd (e.trans f.symm) (pw n m a b h)
 ·rw [h]
 ·exact absurd (f.trans e.symm) (pw m n b a h)
theorem Is.inj {wd : Nat} {ts : List T} (hn : ts.Nodup) {i j : Int} {t : Tm} (h : Is wd ts i t) (h' : Is wd ts j t) : i = j := by
 induction h generalizing j with
 | var a => cases h' with | var b => rfl
 | num _ a => cases h' with | num _ b => exact At.inj hn a b
 | bnot _ a ih => cases h' with | bnot h b => have e := ih h; subst e; exact At.inj hn a b
 | neg _ a ih => cases h' with | neg h b => have e := ih h; subst e; exact At.inj hn a b
 | shl _ _ c a ih => cases h' with | shl h _ d b => have e := ih h; subst e; have e := At.inj hn c d; subst e; exact At.inj hn a b
 | bin _ _ c a ih => cases h' with | bin h _ d b => have e := ih h; subst e; have e := At.inj hn c d; subst e; exact At.inj hn a b
theorem mkT_ok {ts : List T} (hn : ts.Nodup) (t : T) : Grow ts 1 (mkT ts t).2 ∧ At (mkT ts t).2 (mkT ts t).1 t := by
 unfold mkT
 cases h : ts.findIdx? fun u => decide (u = t) with
 | some i =>
  obtain ⟨hi, e, _⟩ := List.findIdx?_eq_some_iff_getElem.mp h
  refine ⟨⟨List.prefix_rfl, hn, by simp⟩, i, rfl, ?_⟩
  dsimp only
  rw [List.getElem?_eq_getElem hi, of_decide_eq_true e]
 | none =>
  have hm : t ∉ ts := fun hm => by
   have := List.findIdx?_eq_none_iff.mp h t hm
   simp at this
  refine ⟨⟨List.prefix_append _ _, ?_, by simp⟩, ts.length, rfl, by simp⟩
  rw [List.nodup_append]
  exact ⟨hn, by simp, fun a ha b hb => by simp at hb; subst hb; intro e; subst e; exact hm ha⟩
theorem Grow.refl {ts : List T} (hn : ts.Nodup) {k : Nat} : Grow ts k ts := ⟨List.prefix_rfl, hn, by lia⟩
theorem Grow.trans {a b c : List T} {m n k : Nat} (h : Grow a m b) (h' : Grow b n c) (e : m + n ≤ k) : Grow a k c := ⟨h.1.trans h'.1, h'.2.1, by have := h.2.2; have := h'.2.2; lia⟩
theorem Grow.le {a b : List T} {m k : Nat} (h : Grow a m b) (e : m ≤ k) : Grow a k b := ⟨h.1, h.2.1, by have := h.2.2; lia⟩
theorem Is.at_ {wd : Nat} {ts : List T} {i : Int} {t : Tm} (h : Is wd ts i t) : ∃ e, At ts i e ∧ e.sort = 3 := by
 cases h <;> exact ⟨_, by assumption, rfl⟩
noncomputable def powI (i : Int) : Int := if (decide (i > 0) && (Builtin.bitAnd i (i - 1) == 0)) = true then Builtin.Int.intBits i - 1 else -1
noncomputable def notT (wd : Nat) : Tm → Tm
 | .num v => .num (2 ^ wd - 1 - v)
 | .bnot u => u
 | t => .bnot t
noncomputable def negT (wd : Nat) : Tm → Tm
 | .num v => .num ((Builtin.bitAnd (-(v : Int)) ((2 : Int) ^ wd - 1)).toNat % 2 ^ wd)
 | .neg u => u
 | t => .neg t
noncomputable def shlT (t : Tm) (p : Nat) : Tm := if t = .num 0 then t else .shl t p
noncomputable def mix (wd : Nat) (o : Op5) (v : Nat) (t : Tm) : Tm :=
 if v = 0 then (match o with | .and => .num 0 | .mul => .num 0 | _ => t)
 else if v = 2 ^ wd - 1 ∧ o = .and ∨ v = 1 ∧ o = .mul then t
 else if v = 2 ^ wd - 1 ∧ o = .or then .num v
 else if v = 2 ^ wd - 1 ∧ o = .xor then notT wd t
 else if v = 2 ^ wd - 1 ∧ o = .mul then negT wd t
 else if o = .mul ∧ powI v > 0 then shlT t (powI v).toNat
 else .bin o v t
variable {w : World} {h0 : Heap} {mg mb : Str → Option Value} {top : AObj} {nm : V} {wd : Nat} {ts : List T} {d : Nat} {Q : V → St → Prop} {i j : Int} {e f : T} {σ : St}
theorem k_mask (ok : (cx w h0 mg mb).Ok) (hw4 : wd ≤ 4) (hQ : Q (.int (2 ^ wd - 1)) σ) : CallT (cx w h0 mg mb) (.ref 142) (d + 1) [.int wd] σ Q := by
 refine (codeT_fn (k := 0) ok (f_mask_of ok) (s_mask_of ok) rfl ?_).call
 delta m_mask_of
 repeat tm_at "g"
 refine o_shl (by lia) (by lia) (by decide) ?_
 repeat tm_at "g"
 have e : (1 : Int) * 2 ^ ((wd : Int)).toNat = 2 ^ wd := by simp
 rw [e]; exact hQ
theorem k_power (ok : (cx w h0 mg mb).Ok) (hQ : Q (.int (powI i)) σ) : CallT (cx w h0 mg mb) (.ref 205) (d + 1) [.int i] σ Q := by
 refine (codeT_fn (k := 0) ok (f_power_of ok) (s_power_of ok) rfl ?_).call
 delta m_power_of
 repeat tm_at "g"
 refine i_by (fun h => ?_) (fun h => ?_)
 ·repeat tm_at "g"
  refine i_by (fun h' => ?_) (fun h' => ?_)
  ·repeat tm_at "g"
   refine callT_bitlen ?_
   repeat tm_at "g"
   unfold powI at hQ; rw [h, h'] at hQ
   exact hQ
  ·repeat tm_at "g"
   unfold powI at hQ; rw [h, h'] at hQ
   exact hQ
 ·repeat tm_at "g"
  unfold powI at hQ; rw [h] at hQ
  exact hQ
theorem k_onevalN (ok : (cx w h0 mg mb).Ok) (hw4 : wd ≤ 4) (hQ : Q (.int (2 ^ wd - 1 - i)) σ) : CallT (cx w h0 mg mb) (.ref 156) (d + 2) [.str "bvnot", .int i, .int wd] σ Q := by
 refine (codeT_fn (k := 0) ok (f_one_value ok) (s_one_value ok) rfl ?_).call
 delta m_one_value
 repeat tm_at "g"
 refine k_mask ok hw4 ?_
 repeat tm_at "g"
 exact hQ
theorem k_onevalM (ok : (cx w h0 mg mb).Ok) (hw4 : wd ≤ 4) (hQ : Q (.int (Builtin.bitAnd (-i) (2 ^ wd - 1))) σ) : CallT (cx w h0 mg mb) (.ref 156) (d + 2) [.str "bvneg", .int i, .int wd] σ Q := by
 refine (codeT_fn (k := 0) ok (f_one_value ok) (s_one_value ok) rfl ?_).call
 delta m_one_value
 repeat tm_at "g"
 refine k_mask ok hw4 ?_
 repeat tm_at "g"
 exact hQ
theorem z_isbits (ok : (cx w h0 mg mb).Ok) (h1 : ts.length ≤ 1000) (h : At ts i e) (hQ : Q (.bool (e.op == "bvnum")) (Z top nm wd ts)) : CallT (cx w h0 mg mb) (.ref 909) (d + 2) [.inst 1061 13, .int i] (Z top nm wd ts) Q := by
 refine (codeT_fn (k := 0) ok (f_BitsRewriter_is_bits ok) (s_BitsRewriter_is_bits ok) rfl ?_).call
 delta m_BitsRewriter_is_bits
 repeat tm_at "g"
 refine z_op ok h1 h ?_
 repeat tm_at "g"
 exact hQ
theorem z_valueN (ok : (cx w h0 mg mb).Ok) (h1 : ts.length ≤ 1000) (h : At ts i e) (hb : (e.op == "bvnum") = true) (hQ : Q (.int e.data) (Z top nm wd ts)) : CallT (cx w h0 mg mb) (.ref 916) (d + 3) [.inst 1061 13, .int i, .int j] (Z top nm wd ts) Q := by
 refine (codeT_fn (k := 0) ok (f_BitsRewriter_value_or ok) (s_BitsRewriter_value_or ok) rfl ?_).call
 delta m_BitsRewriter_value_or
 repeat tm_at "g"
 refine z_isbits ok h1 h ?_
 repeat tm_at "g"
 refine i_T hb ?_
 repeat tm_at "g"
 refine z_data ok h1 h ?_
 repeat tm_at "g"
 exact hQ
theorem z_valueO (ok : (cx w h0 mg mb).Ok) (h1 : ts.length ≤ 1000) (h : At ts i e) (hb : (e.op == "bvnum") = false) (hQ : Q (.int j) (Z top nm wd ts)) : CallT (cx w h0 mg mb) (.ref 916) (d + 3) [.inst 1061 13, .int i, .int j] (Z top nm wd ts) Q := by
 refine (codeT_fn (k := 0) ok (f_BitsRewriter_value_or ok) (s_BitsRewriter_value_or ok) rfl ?_).call
 delta m_BitsRewriter_value_or
 repeat tm_at "g"
 refine z_isbits ok h1 h ?_
 repeat tm_at "g"
 refine i_F hb ?_
 repeat tm_at "g"
 exact hQ
theorem z_number (ok : (cx w h0 mg mb).Ok) (h1 : ts.length ≤ 1000) (hn : ts.Nodup) (hw : 1 ≤ wd) (hw4 : wd ≤ 4) (h : At ts i e) (hs : e.sort = 3) {v : Int} (hQ : ∀ r ts', Grow ts 1 ts' → Is wd ts' r (.num (v.fmod (2 ^ wd)).toNat) → Q (.int r) (Z top nm wd ts')) :
  CallT (cx w h0 mg mb) (.ref 923) (d + 3) [.inst 1061 13, .int v, .int i] (Z top nm wd ts) Q := by
 refine (codeT_fn (k := 0) ok (f_BitsRewriter_number ok) (s_BitsRewriter_number ok) rfl ?_).call
 delta m_BitsRewriter_number
 repeat tm_at "g"
 refine z_width ok h1 h hs ?_
 repeat tm_at "g"
 refine z_bvnum ok h1 hw hw4 ?_
 repeat tm_at "g"
 have hp : (0 : Int) < 2 ^ wd := Int.pow_pos (by decide)
 obtain ⟨a, b⟩ := mkT_ok hn ⟨"bvnum", [], 3, v.fmod (2 ^ wd)⟩
 refine hQ _ _ a (.num ?_ ?_)
 ·have h1 := Int.fmod_lt_of_pos v hp
  have h2 := Int.fmod_nonneg_of_pos v hp
  have h3 : ((2 ^ wd : Nat) : Int) = 2 ^ wd := by simp
  lia
 ·rw [Int.toNat_of_nonneg (Int.fmod_nonneg_of_pos v hp)]; exact b
end
section
set_option maxHeartbeats 1000000
variable {w : World} {h0 : Heap} {mg mb : Str → Option Value} {top : AObj} {nm : V} {wd : Nat} {ts : List T} {d : Nat} {Q : V → St → Prop} {i j : Int} {e f : T} {σ : St} {t : Tm}
theorem z_oneN (ok : (cx w h0 mg mb).Ok) (h1 : ts.length ≤ 1000) (hn : ts.Nodup) (hw : 1 ≤ wd) (hw4 : wd ≤ 4) {v : Nat} (h : At ts i ⟨"bvnum", [], 3, v⟩) (hv : v < 2 ^ wd)
  (hQ : ∀ r ts', Grow ts 1 ts' → Is wd ts' r (notT wd (.num v)) → Q (.int r) (Z top nm wd ts')) : CallT (cx w h0 mg mb) (.ref 930) (d + 5) [.inst 1061 13, .str "bvnot", .int i] (Z top nm wd ts) Q := by
 refine (codeT_fn (k := 0) ok (f_BitsRewriter_one_bits ok) (s_BitsRewriter_one_bits ok) rfl ?_).call
 delta m_BitsRewriter_one_bits
 repeat tm_at "g"
 refine z_isbits ok h1 h ?_
 repeat tm_at "g"
 refine z_data ok h1 h ?_
 repeat tm_at "g"
 refine z_width ok h1 h rfl ?_
 repeat tm_at "g"
 refine k_onevalN ok hw4 ?_
 repeat tm_at "g"
 refine z_number ok h1 hn hw hw4 h rfl fun r ts' g hr => ?_
 repeat tm_at "g"
 refine hQ r ts' g ?_
 have hp : ((2 ^ wd : Nat) : Int) = 2 ^ wd := by simp
 have e1 : ((2 : Int) ^ wd - 1 - v).fmod (2 ^ wd) = 2 ^ wd - 1 - v := by
  rw [Int.fmod_eq_emod_of_nonneg _ (by lia)]
  exact Int.emod_eq_of_lt (by lia) (by lia)
 have e2 : ((2 : Int) ^ wd - 1 - v).toNat = 2 ^ wd - 1 - v := by lia
 dsimp only at hr
 rw [e1, e2] at hr
 exact hr
theorem z_oneM (ok : (cx w h0 mg mb).Ok) (h1 : ts.length ≤ 1000) (hn : ts.Nodup) (hw : 1 ≤ wd) (hw4 : wd ≤ 4) {v : Nat} (h : At ts i ⟨"bvnum", [], 3, v⟩) (hv : v < 2 ^ wd)
  (hb : 0 ≤ Builtin.bitAnd (-(v : Int)) (2 ^ wd - 1)) (hQ : ∀ r ts', Grow ts 1 ts' → Is wd ts' r (negT wd (.num v)) → Q (.int r) (Z top nm wd ts')) : CallT (cx w h0 mg mb) (.ref 930) (d + 5) [.inst 1061 13, .str "bvneg", .int i] (Z top nm wd ts) Q := by
 refine (codeT_fn (k := 0) ok (f_BitsRewriter_one_bits ok) (s_BitsRewriter_one_bits ok) rfl ?_).call
 delta m_BitsRewriter_one_bits
 repeat tm_at "g"
 refine z_isbits ok h1 h ?_
 repeat tm_at "g"
 refine z_data ok h1 h ?_
 repeat tm_at "g"
 refine z_width ok h1 h rfl ?_
 repeat tm_at "g"
 refine k_onevalM ok hw4 ?_
 repeat tm_at "g"
 refine z_number ok h1 hn hw hw4 h rfl fun r ts' g hr => ?_
 repeat tm_at "g"
 refine hQ r ts' g ?_
 have hp : ((2 ^ wd : Nat) : Int) = 2 ^ wd := by simp
 have hp0 : 0 < 2 ^ wd := Nat.pow_pos (by decide)
 have e1 : ((Builtin.bitAnd (-(v : Int)) (2 ^ wd - 1)).fmod (2 ^ wd)).toNat = (Builtin.bitAnd (-(v : Int)) (2 ^ wd - 1)).toNat % 2 ^ wd := by
  rw [Int.fmod_eq_emod_of_nonneg _ (by lia)]
  obtain ⟨n, hn⟩ := Int.eq_ofNat_of_zero_le hb
  rw [hn, ← hp]
  simp only [Int.toNat_natCast]
  norm_cast
 dsimp only at hr
 rw [e1] at hr
 exact hr
theorem z_oneS (ok : (cx w h0 mg mb).Ok) (h1 : ts.length ≤ 1000) {op : Str} (hop : op = "bvnot" ∨ op = "bvneg") (h : At ts i ⟨op, [j], 3, 0⟩) (hQ : Q (.int j) (Z top nm wd ts)) :
  CallT (cx w h0 mg mb) (.ref 930) (d + 5) [.inst 1061 13, .str op, .int i] (Z top nm wd ts) Q := by
 refine (codeT_fn (k := 0) ok (f_BitsRewriter_one_bits ok) (s_BitsRewriter_one_bits ok) rfl ?_).call
 delta m_BitsRewriter_one_bits
 rcases hop with rfl | rfl
 all_goals
  repeat tm_at "g"
  refine z_isbits ok h1 h ?_
  repeat tm_at "g"
  refine z_op ok h1 h ?_
  repeat tm_at "g"
  refine z_args ok h1 h ?_
  repeat tm_at "g"
  refine s_tup (by decide) (by decide) rfl ?_
  repeat tm_at "g"
  exact hQ
theorem z_oneO (ok : (cx w h0 mg mb).Ok) (h1 : ts.length ≤ 1000) (hn : ts.Nodup) (hw : 1 ≤ wd) {op : Str} (hop : op = "bvnot" ∨ op = "bvneg") (h : At ts i e) (hs : e.sort = 3) (hb : (e.op == "bvnum") = false) (ho : (e.op == op) = false) (hsub : (e.op == "bvsub") = false)
  (hQ : Q (.int (mkT ts ⟨op, [i], 3, 0⟩).1) (Z top nm wd (mkT ts ⟨op, [i], 3, 0⟩).2)) :
  CallT (cx w h0 mg mb) (.ref 930) (d + 5) [.inst 1061 13, .str op, .int i] (Z top nm wd ts) Q := by
 refine (codeT_fn (k := 0) ok (f_BitsRewriter_one_bits ok) (s_BitsRewriter_one_bits ok) rfl ?_).call
 delta m_BitsRewriter_one_bits
 rcases hop with rfl | rfl
 ·repeat tm_at "g"
  refine z_isbits ok h1 h ?_
  repeat tm_at "g"
  refine i_F hb ?_
  repeat tm_at "g"
  refine z_op ok h1 h ?_
  repeat tm_at "g"
  refine i_F ho ?_
  repeat tm_at "g"
  refine z_bvone ok h1 hw (.inl rfl) h hs ?_
  repeat tm_at "g"
  exact hQ
 ·repeat tm_at "g"
  refine z_isbits ok h1 h ?_
  repeat tm_at "g"
  refine i_F hb ?_
  repeat tm_at "g"
  refine z_op ok h1 h ?_
  repeat tm_at "g"
  refine i_F ho ?_
  repeat tm_at "g"
  refine z_op ok h1 h ?_
  repeat tm_at "g"
  refine i_F hsub ?_
  repeat tm_at "g"
  refine z_bvone ok h1 hw (.inr rfl) h hs ?_
  repeat tm_at "g"
  exact hQ
theorem op_no (o : Op5) : (o.str == "bvnum") = false ∧ (o.str == "bvnot") = false ∧ (o.str == "bvneg") = false ∧ (o.str == "bvsub") = false := by cases o <;> decide +kernel
theorem negB : ∀ wd : Nat, 1 ≤ wd → wd ≤ 4 → ∀ v : Nat, v < 2 ^ wd → 0 ≤ Builtin.bitAnd (-(v : Int)) (2 ^ wd - 1) := by
 have key : (List.range 5).all (fun wd => (List.range 16).all fun v => decide (0 ≤ Builtin.bitAnd (-(v : Int)) (2 ^ wd - 1))) = true := by decide +kernel
 intro wd _ h4 v hv
 have a := List.all_eq_true.mp key wd (List.mem_range.mpr (by lia))
 have hp : 2 ^ wd ≤ 2 ^ 4 := Nat.pow_le_pow_right (by decide) h4
 have b := List.all_eq_true.mp a v (List.mem_range.mpr (by lia))
 simpa using b
theorem z_not (ok : (cx w h0 mg mb).Ok) (h1 : ts.length ≤ 1000) (hn : ts.Nodup) (hw : 1 ≤ wd) (hw4 : wd ≤ 4) (h : Is wd ts i t) (hQ : ∀ r ts', Grow ts 1 ts' → Is wd ts' r (notT wd t) → Q (.int r) (Z top nm wd ts')) :
  CallT (cx w h0 mg mb) (.ref 930) (d + 5) [.inst 1061 13, .str "bvnot", .int i] (Z top nm wd ts) Q := by
 have h' := h
 cases h with
 | num hv a => exact z_oneN ok h1 hn hw hw4 a hv hQ
 | bnot hj a => exact z_oneS ok h1 (.inl rfl) a (hQ _ _ (Grow.refl hn) hj)
 | var a =>
  obtain ⟨g, b⟩ := mkT_ok hn ⟨"bvnot", [3], 3, 0⟩
  exact z_oneO ok h1 hn hw (.inl rfl) a rfl (by decide +kernel) (by decide +kernel) (by decide +kernel) (hQ _ _ g (.bnot (h'.mono g.1) b))
 | neg hj a =>
  obtain ⟨g, b⟩ := mkT_ok hn ⟨"bvnot", [i], 3, 0⟩
  exact z_oneO ok h1 hn hw (.inl rfl) a rfl (by kernel_rfl) (by kernel_rfl) (by kernel_rfl) (hQ _ _ g (.bnot (h'.mono g.1) b))
 | shl hj _ _ a =>
  obtain ⟨g, b⟩ := mkT_ok hn ⟨"bvnot", [i], 3, 0⟩
  exact z_oneO ok h1 hn hw (.inl rfl) a rfl (by kernel_rfl) (by kernel_rfl) (by kernel_rfl) (hQ _ _ g (.bnot (h'.mono g.1) b))
 | @bin _ _ _ _ _ o hj _ _ a =>
  obtain ⟨g, b⟩ := mkT_ok hn ⟨"bvnot", [i], 3, 0⟩
  obtain ⟨o1, o2, o3, o4⟩ := op_no o
  exact z_oneO ok h1 hn hw (.inl rfl) a rfl o1 o2 o4 (hQ _ _ g (.bnot (h'.mono g.1) b))
theorem z_neg (ok : (cx w h0 mg mb).Ok) (h1 : ts.length ≤ 1000) (hn : ts.Nodup) (hw : 1 ≤ wd) (hw4 : wd ≤ 4) (h : Is wd ts i t) (hQ : ∀ r ts', Grow ts 1 ts' → Is wd ts' r (negT wd t) → Q (.int r) (Z top nm wd ts')) :
  CallT (cx w h0 mg mb) (.ref 930) (d + 5) [.inst 1061 13, .str "bvneg", .int i] (Z top nm wd ts) Q := by
 have h' := h
 cases h with
 | num hv a => exact z_oneM ok h1 hn hw hw4 a hv (negB wd hw hw4 _ hv) hQ
 | neg hj a => exact z_oneS ok h1 (.inr rfl) a (hQ _ _ (Grow.refl hn) hj)
 | var a =>
  obtain ⟨g, b⟩ := mkT_ok hn ⟨"bvneg", [3], 3, 0⟩
  exact z_oneO ok h1 hn hw (.inr rfl) a rfl (by decide +kernel) (by decide +kernel) (by decide +kernel) (hQ _ _ g (.neg (h'.mono g.1) b))
 | bnot hj a =>
  obtain ⟨g, b⟩ := mkT_ok hn ⟨"bvneg", [i], 3, 0⟩
  exact z_oneO ok h1 hn hw (.inr rfl) a rfl (by kernel_rfl) (by kernel_rfl) (by kernel_rfl) (hQ _ _ g (.neg (h'.mono g.1) b))
 | shl hj _ _ a =>
  obtain ⟨g, b⟩ := mkT_ok hn ⟨"bvneg", [i], 3, 0⟩
  exact z_oneO ok h1 hn hw (.inr rfl) a rfl (by kernel_rfl) (by kernel_rfl) (by kernel_rfl) (hQ _ _ g (.neg (h'.mono g.1) b))
 | @bin _ _ _ _ _ o hj _ _ a =>
  obtain ⟨g, b⟩ := mkT_ok hn ⟨"bvneg", [i], 3, 0⟩
  obtain ⟨o1, o2, o3, o4⟩ := op_no o
  exact z_oneO ok h1 hn hw (.inr rfl) a rfl o1 o3 o4 (hQ _ _ g (.neg (h'.mono g.1) b))
theorem Is.notNum {wd : Nat} {ts : List T} (h : Is wd ts i t) (ht : ∀ v, t ≠ .num v) : ∃ e, At ts i e ∧ e.sort = 3 ∧ (e.op == "bvnum") = false := by
 cases h with
 | num _ _ => exact absurd rfl (ht _)
 | var a => exact ⟨_, a, rfl, by decide +kernel⟩
 | bnot _ a => exact ⟨_, a, rfl, by kernel_rfl⟩
 | neg _ a => exact ⟨_, a, rfl, by kernel_rfl⟩
 | shl _ _ _ a => exact ⟨_, a, rfl, by kernel_rfl⟩
 | @bin _ _ _ _ _ o _ _ _ a => exact ⟨_, a, rfl, (op_no o).1⟩
theorem z_shifted (ok : (cx w h0 mg mb).Ok) (h1 : ts.length ≤ 1000) (hn : ts.Nodup) (hw : 1 ≤ wd) (h : Is wd ts i t) {p : Nat} (hp0 : 0 < p) (hp : p < wd) (hpw : p < 2 ^ wd) (hk : At ts j ⟨"bvnum", [], 3, p⟩) (hQ : ∀ r ts', Grow ts 1 ts' → Is wd ts' r (shlT t p) → Q (.int r) (Z top nm wd ts')) :
  CallT (cx w h0 mg mb) (.ref 972) (d + 4) [.inst 1061 13, .str "bvshl", .int i, .int j] (Z top nm wd ts) Q := by
 refine (codeT_fn (k := 1) ok (f_BitsRewriter_shifted_bits ok) (s_BitsRewriter_shifted_bits ok) rfl ?_).call
 delta m_BitsRewriter_shifted_bits
 repeat tm_at "g"
 refine z_valueN ok h1 hk (by kernel_rfl) ?_
 repeat tm_at "g"
 refine i_F (by simp; lia) ?_
 repeat tm_at "g"
 have rest : ∀ z : Int, z ≠ 0 → shlT t p = .shl t p → ∀ e, At ts i e → e.sort = 3 → (z = -1 → (e.op == "bvnum") = false) → (z ≠ -1 → (e.op == "bvnum") = true ∧ e.data = z) → True := fun _ _ _ _ _ _ _ _ => trivial
 by_cases hnum : ∃ v, t = .num v
 ·obtain ⟨v, rfl⟩ := hnum
  cases h with
  | num hv a =>
   refine z_valueN ok h1 a (by kernel_rfl) ?_
   repeat tm_at "g"
   by_cases hv0 : v = 0
   ·subst hv0
    refine i_T (by kernel_rfl) ?_
    repeat tm_at "g"
    exact hQ _ _ (Grow.refl hn) (by unfold shlT; rw [if_pos rfl]; exact .num hv a)
   ·refine i_F (by simp; lia) ?_
    repeat tm_at "g"
    refine z_width ok h1 a rfl ?_
    repeat tm_at "g"
    refine i_F (by simp; lia) ?_
    repeat tm_at "g"
    obtain ⟨g, b⟩ := mkT_ok hn ⟨"bvshl", [i, j], 3, 0⟩
    refine z_bvtwo ok h1 hw (by simp) a rfl hk rfl ?_
    repeat tm_at "g"
    exact hQ _ _ g (by unfold shlT; rw [if_neg (by simpa using hv0)]; exact .shl ((Is.num hv a).mono g.1) hpw (hk.mono g.1) b)
 ·have ht : ∀ v, t ≠ .num v := fun v e => hnum ⟨v, e⟩
  obtain ⟨e, a, hs, hb⟩ := h.notNum ht
  refine z_valueO ok h1 a hb ?_
  repeat tm_at "g"
  refine z_width ok h1 a hs ?_
  repeat tm_at "g"
  refine i_F (by simp; lia) ?_
  repeat tm_at "g"
  obtain ⟨g, b⟩ := mkT_ok hn ⟨"bvshl", [i, j], 3, 0⟩
  refine z_bvtwo ok h1 hw (by simp) a hs hk rfl ?_
  repeat tm_at "g"
  exact hQ _ _ g (by unfold shlT; rw [if_neg (ht 0)]; exact .shl (h.mono g.1) hpw (hk.mono g.1) b)
end
section
set_option maxHeartbeats 1000000
theorem powOk : ∀ wd : Nat, wd ≤ 4 → ∀ v : Nat, v < 2 ^ wd → 0 < powI v → powI v < wd := by
 have key : (List.range 5).all (fun wd => (List.range (2 ^ wd)).all fun v => decide (0 < powI v → powI v < wd)) = true := by decide +kernel
 intro wd h4 v hv
 have a := List.all_eq_true.mp key wd (List.mem_range.mpr (by lia))
 have b := List.all_eq_true.mp a v (List.mem_range.mpr hv)
 exact of_decide_eq_true b
variable {w : World} {h0 : Heap} {mg mb : Str → Option Value} {top : AObj} {nm : V} {wd : Nat} {ts : List T} {d : Nat} {Q : V → St → Prop} {i j : Int} {e f : T} {σ : St} {t : Tm} {v : Nat}
theorem z_num (ok : (cx w h0 mg mb).Ok) (h1 : ts.length ≤ 1000) (hn : ts.Nodup) (hw : 1 ≤ wd) (hw4 : wd ≤ 4) (h : At ts i e) (hs : e.sort = 3) (hv : v < 2 ^ wd) (hQ : ∀ r ts', Grow ts 1 ts' → At ts' r ⟨"bvnum", [], 3, v⟩ → Q (.int r) (Z top nm wd ts')) :
  CallT (cx w h0 mg mb) (.ref 923) (d + 3) [.inst 1061 13, .int (v : Int), .int i] (Z top nm wd ts) Q := by
 refine z_number ok h1 hn hw hw4 h hs fun r ts' g hr => hQ r ts' g ?_
 have hp : ((2 ^ wd : Nat) : Int) = 2 ^ wd := by simp
 have e1 : ((v : Int).fmod (2 ^ wd)).toNat = v := by
  rw [Int.fmod_eq_emod_of_nonneg _ (by lia), Int.emod_eq_of_lt (by lia) (by lia)]; lia
 rw [e1] at hr
 cases hr with | num _ a => exact a
theorem z_end (ok : (cx w h0 mg mb).Ok) (h1 : ts.length ≤ 990) (hn : ts.Nodup) (hw : 1 ≤ wd) (hw4 : wd ≤ 4) (h : Is wd ts i t) (hv : v < 2 ^ wd) {o : Op5} (hQ : ∀ r ts', Grow ts 3 ts' → Is wd ts' r (.bin o v t) → Q (.int r) (Z top nm wd ts')) {ts1 : List T} (g : Grow ts 1 ts1) (hk : At ts1 j ⟨"bvnum", [], 3, v⟩) :
  CallT (cx w h0 mg mb) (.ref 682) (d + 3) [.inst 741 1, .str o.str, .int j, .int i] (Z top nm wd ts1) Q := by
 obtain ⟨e, a, hs⟩ := h.at_
 obtain ⟨g2, b⟩ := mkT_ok g.2.1 ⟨o.str, [j, i], 3, 0⟩
 have := g.2.2
 refine z_bvtwo ok (by lia) hw (by cases o <;> simp [Op5.str]) hk rfl (a.mono g.1) hs ?_
 exact hQ _ _ (g.trans g2 (by lia)) (.bin (h.mono (g.1.trans g2.1)) hv (hk.mono g2.1) b)
theorem z_mixed (ok : (cx w h0 mg mb).Ok) (h1 : ts.length ≤ 990) (hn : ts.Nodup) (hw : 1 ≤ wd) (hw4 : wd ≤ 4) (h : Is wd ts i t) (hv : v < 2 ^ wd) (o : Op5) (hQ : ∀ r ts', Grow ts 3 ts' → Is wd ts' r (mix wd o v t) → Q (.int r) (Z top nm wd ts')) :
  CallT (cx w h0 mg mb) (.ref 958) (d + 6) [.inst 1061 13, .str o.str, .int (v : Int), .int i] (Z top nm wd ts) Q := by
 refine (codeT_fn (k := 1) ok (f_BitsRewriter_mixed_number ok) (s_BitsRewriter_mixed_number ok) rfl ?_).call
 delta m_BitsRewriter_mixed_number
 obtain ⟨e, a, hs⟩ := h.at_
 have h1' : ts.length ≤ 1000 := by lia
 have hpw : ((2 ^ wd : Nat) : Int) = 2 ^ wd := by simp
 have hp0 : 0 < 2 ^ wd := Nat.pow_pos (by decide)
 have hp2 : 2 ≤ 2 ^ wd := by
  calc 2 = 2 ^ 1 := rfl
   _ ≤ 2 ^ wd := Nat.pow_le_pow_right (by decide) hw
 repeat tm_at "g"
 refine z_width ok h1' a hs ?_
 repeat tm_at "g"
 refine k_mask ok hw4 ?_
 repeat tm_at "g"
 by_cases h0 : v = 0
 ·have hz : ((v : Int) == 0) = true := by simp [h0]
  cases o
  all_goals
   repeat tm_at "g2"
  ·refine z_num (v := 0) ok h1' hn hw hw4 a hs (by lia) fun r ts' g hr => ?_
   repeat tm_at "g"
   exact hQ _ _ (g.le (by lia)) (by unfold mix; rw [if_pos h0]; exact .num (by lia) hr)
  ·exact hQ _ _ (Grow.refl hn) (by unfold mix; rw [if_pos h0]; exact h)
  ·exact hQ _ _ (Grow.refl hn) (by unfold mix; rw [if_pos h0]; exact h)
  ·exact hQ _ _ (Grow.refl hn) (by unfold mix; rw [if_pos h0]; exact h)
  ·refine z_num (v := 0) ok h1' hn hw hw4 a hs (by lia) fun r ts' g hr => ?_
   repeat tm_at "g"
   exact hQ _ _ (g.le (by lia)) (by unfold mix; rw [if_pos h0]; exact .num (by lia) hr)
 have hz : ((v : Int) == 0) = false := by simp; lia
 by_cases hm' : v = 2 ^ wd - 1
 ·have hm : ((v : Int) == 2 ^ wd - 1) = true := by simp; lia
  cases o
  ·repeat tm_at "g2"
   exact hQ _ _ (Grow.refl hn) (by unfold mix; rw [if_neg h0, if_pos (.inl ⟨hm', rfl⟩)]; exact h)
  ·repeat tm_at "g2"
   refine i_by (fun hone => ?_) (fun hone => ?_)
   all_goals
    repeat tm_at "g2"
    have e1 : ((2 : Int) ^ wd - 1) = ((v : Nat) : Int) := by lia
    rw [e1]
    refine z_num ok h1' hn hw hw4 a hs hv fun r ts' g hr => ?_
    repeat tm_at "g"
    exact hQ _ _ (g.le (by lia)) (by unfold mix; rw [if_neg h0, if_neg (by simp), if_pos ⟨hm', rfl⟩]; exact .num hv hr)
  ·repeat tm_at "g2"
   refine i_by (fun hone => ?_) (fun hone => ?_)
   all_goals
    repeat tm_at "g2"
    refine z_not ok h1' hn hw hw4 h fun r ts' g hr => ?_
    repeat tm_at "g"
    exact hQ _ _ (g.le (by lia)) (by unfold mix; rw [if_neg h0, if_neg (by simp), if_neg (by simp), if_pos ⟨hm', rfl⟩]; exact hr)
  ·repeat tm_at "g2"
   refine i_by (fun hone => ?_) (fun hone => ?_)
   all_goals
    repeat tm_at "g2"
    refine z_num ok h1' hn hw hw4 a hs hv fun r ts' g hr => ?_
    repeat tm_at "g"
    refine z_end ok h1 hn hw hw4 h hv (o := .add) (fun r ts' g hr => ?_) g hr
    repeat tm_at "g"
    exact hQ _ _ g (by unfold mix; rw [if_neg h0, if_neg (by simp), if_neg (by simp), if_neg (by simp), if_neg (by simp), if_neg (by simp)]; exact hr)
  ·repeat tm_at "g2"
   refine i_by (fun hone => ?_) (fun hone => ?_)
   ·repeat tm_at "g2"
    exact hQ _ _ (Grow.refl hn) (by unfold mix; rw [if_neg h0, if_pos (.inr ⟨by simp at hone; lia, rfl⟩)]; exact h)
   ·repeat tm_at "g2"
    refine z_neg ok h1' hn hw hw4 h fun r ts' g hr => ?_
    repeat tm_at "g"
    exact hQ _ _ (g.le (by lia)) (by unfold mix; rw [if_neg h0, if_neg (by simp at hone; simp; lia), if_neg (by simp), if_neg (by simp), if_pos ⟨hm', rfl⟩]; exact hr)
 have hm : ((v : Int) == 2 ^ wd - 1) = false := by simp; lia
 by_cases ho : o = .mul
 ·subst ho
  repeat tm_at "g2"
  refine i_by (fun hone => ?_) (fun hone => ?_)
  ·repeat tm_at "g2"
   exact hQ _ _ (Grow.refl hn) (by unfold mix; rw [if_neg h0, if_pos (.inr ⟨by simp at hone; lia, rfl⟩)]; exact h)
  ·repeat tm_at "g2"
   refine k_power ok ?_
   repeat tm_at "g2"
   have hone' : v ≠ 1 := by simp at hone; lia
   refine i_by (fun hpw' => ?_) (fun hpw' => ?_)
   ·repeat tm_at "g2"
    refine k_power ok ?_
    repeat tm_at "g2"
    have hlt := powOk wd hw4 v hv (by simpa using hpw')
    obtain ⟨p, hp⟩ := Int.eq_ofNat_of_zero_le (show 0 ≤ powI v by simp at hpw'; lia)
    have hp0' : 0 < p := by simp at hpw'; lia
    have hpw1 : p < 2 ^ wd := Nat.lt_of_lt_of_le (show p < wd by lia) (Nat.le_of_lt Nat.lt_two_pow_self)
    rw [hp]
    refine z_num ok h1' hn hw hw4 a hs hpw1 fun r ts' g hr => ?_
    repeat tm_at "g"
    have := g.2.2
    refine z_shifted ok (by lia) g.2.1 hw (h.mono g.1) hp0' (by lia) hpw1 hr fun r2 ts2 g2 hr2 => ?_
    repeat tm_at "g"
    exact hQ _ _ (g.trans g2 (by lia)) (by unfold mix; rw [if_neg h0, if_neg (by simp; lia), if_neg (by simp), if_neg (by simp), if_neg (by simp; lia), if_pos ⟨rfl, by simpa using hpw'⟩, hp]; exact hr2)
   ·repeat tm_at "g2"
    refine z_num ok h1' hn hw hw4 a hs hv fun r ts' g hr => ?_
    repeat tm_at "g"
    refine z_end ok h1 hn hw hw4 h hv (o := .mul) (fun r ts' g hr => ?_) g hr
    repeat tm_at "g"
    exact hQ _ _ g (by unfold mix; rw [if_neg h0, if_neg (by simp; lia), if_neg (by simp), if_neg (by simp), if_neg (by simp; lia), if_neg (by simpa using hpw')]; exact hr)
 ·have fin : ∀ r ts', Grow ts 3 ts' → Is wd ts' r (.bin o v t) → Q (.int r) (Z top nm wd ts') := fun r ts' g hr => hQ _ _ g (by
   unfold mix; rw [if_neg h0, if_neg (by simp [ho]; lia), if_neg (by simp; lia), if_neg (by simp; lia), if_neg (by simp [ho]), if_neg (by simp [ho])]; exact hr)
  cases o
  case mul => exact absurd rfl ho
  all_goals
   repeat tm_at "g2"
   refine i_by (fun hone => ?_) (fun hone => ?_)
   all_goals
    repeat tm_at "g2"
    refine z_num ok h1' hn hw hw4 a hs hv fun r ts' g hr => ?_
    repeat tm_at "g"
    first
     | refine z_end ok h1 hn hw hw4 h hv (o := .and) (fun r ts' g hr => ?_) g hr
     | refine z_end ok h1 hn hw hw4 h hv (o := .or) (fun r ts' g hr => ?_) g hr
     | refine z_end ok h1 hn hw hw4 h hv (o := .xor) (fun r ts' g hr => ?_) g hr
     | refine z_end ok h1 hn hw hw4 h hv (o := .add) (fun r ts' g hr => ?_) g hr
    repeat tm_at "g"
    exact fin _ _ g hr
theorem z_mbits (ok : (cx w h0 mg mb).Ok) (h1 : ts.length ≤ 990) (hn : ts.Nodup) (hw : 1 ≤ wd) (hw4 : wd ≤ 4) (h : At ts 3 ⟨"app", [], 3, 0⟩) (hv : v < 2 ^ wd) (hk : At ts j ⟨"bvnum", [], 3, v⟩) (o : Op5) (hQ : ∀ r ts', Grow ts 3 ts' → Is wd ts' r (mix wd o v .var) → Q (.int r) (Z top nm wd ts')) :
  CallT (cx w h0 mg mb) (.ref 944) (d + 7) [.inst 1061 13, .str o.str, .int j, .int 3] (Z top nm wd ts) Q := by
 have h1' : ts.length ≤ 1000 := by lia
 refine (codeT_fn (k := 1) ok (f_BitsRewriter_mixed_bits ok) (s_BitsRewriter_mixed_bits ok) rfl ?_).call
 delta m_BitsRewriter_mixed_bits
 cases o
 all_goals
  repeat tm_at "g"
  refine z_isbits ok h1' h ?_
  repeat tm_at "g"
  refine z_isbits ok h1' hk ?_
  repeat tm_at "g"
  refine z_isbits ok h1' hk ?_
  repeat tm_at "g"
  refine z_op ok h1' h ?_
  repeat tm_at "g"
  refine z_data ok h1' hk ?_
  repeat tm_at "g"
  first
   | refine z_mixed ok h1 hn hw hw4 (.var h) hv .and (fun r ts' g hr => ?_)
   | refine z_mixed ok h1 hn hw hw4 (.var h) hv .or (fun r ts' g hr => ?_)
   | refine z_mixed ok h1 hn hw hw4 (.var h) hv .xor (fun r ts' g hr => ?_)
   | refine z_mixed ok h1 hn hw hw4 (.var h) hv .add (fun r ts' g hr => ?_)
   | refine z_mixed ok h1 hn hw hw4 (.var h) hv .mul (fun r ts' g hr => ?_)
  repeat tm_at "g"
  exact hQ _ _ g hr
theorem z_mbits' (ok : (cx w h0 mg mb).Ok) (h1 : ts.length ≤ 990) (hn : ts.Nodup) (hw : 1 ≤ wd) (hw4 : wd ≤ 4) (h : At ts 3 ⟨"app", [], 3, 0⟩) (hv : v < 2 ^ wd) (hk : At ts j ⟨"bvnum", [], 3, v⟩) (o : Op5) (hQ : ∀ r ts', Grow ts 3 ts' → Is wd ts' r (mix wd o v .var) → Q (.int r) (Z top nm wd ts')) :
  CallT (cx w h0 mg mb) (.ref 944) (d + 7) [.inst 1061 13, .str o.str, .int 3, .int j] (Z top nm wd ts) Q := by
 have h1' : ts.length ≤ 1000 := by lia
 refine (codeT_fn (k := 1) ok (f_BitsRewriter_mixed_bits ok) (s_BitsRewriter_mixed_bits ok) rfl ?_).call
 delta m_BitsRewriter_mixed_bits
 cases o
 all_goals
  repeat tm_at "g"
  refine z_isbits ok h1' hk ?_
  repeat tm_at "g"
  refine z_isbits ok h1' hk ?_
  repeat tm_at "g"
  refine z_op ok h1' h ?_
  repeat tm_at "g"
  refine z_data ok h1' hk ?_
  repeat tm_at "g"
  first
   | refine z_mixed ok h1 hn hw hw4 (.var h) hv .and (fun r ts' g hr => ?_)
   | refine z_mixed ok h1 hn hw hw4 (.var h) hv .or (fun r ts' g hr => ?_)
   | refine z_mixed ok h1 hn hw hw4 (.var h) hv .xor (fun r ts' g hr => ?_)
   | refine z_mixed ok h1 hn hw hw4 (.var h) hv .add (fun r ts' g hr => ?_)
   | refine z_mixed ok h1 hn hw hw4 (.var h) hv .mul (fun r ts' g hr => ?_)
  repeat tm_at "g"
  exact hQ _ _ g hr
theorem z_two (ok : (cx w h0 mg mb).Ok) (h1 : ts.length ≤ 990) (hn : ts.Nodup) (hw : 1 ≤ wd) (hw4 : wd ≤ 4) (h : At ts 3 ⟨"app", [], 3, 0⟩) (hv : v < 2 ^ wd) (hk : At ts j ⟨"bvnum", [], 3, v⟩) (o : Op5) (hQ : ∀ r ts', Grow ts 3 ts' → Is wd ts' r (mix wd o v .var) → Q (.int r) (Z top nm wd ts')) :
  CallT (cx w h0 mg mb) (.ref 937) (d + 8) [.inst 1061 13, .str o.str, .int j, .int 3] (Z top nm wd ts) Q := by
 have h1' : ts.length ≤ 1000 := by lia
 refine (codeT_fn (k := 0) ok (f_BitsRewriter_two_bits ok) (s_BitsRewriter_two_bits ok) rfl ?_).call
 delta m_BitsRewriter_two_bits
 cases o
 all_goals
  repeat tm_at "g"
  refine z_isbits ok h1' hk ?_
  repeat tm_at "g"
  refine z_isbits ok h1' h ?_
  repeat tm_at "g"
  first
   | refine z_mbits ok h1 hn hw hw4 h hv hk .and (fun r ts' g hr => ?_)
   | refine z_mbits ok h1 hn hw hw4 h hv hk .or (fun r ts' g hr => ?_)
   | refine z_mbits ok h1 hn hw hw4 h hv hk .xor (fun r ts' g hr => ?_)
   | refine z_mbits ok h1 hn hw hw4 h hv hk .add (fun r ts' g hr => ?_)
   | refine z_mbits ok h1 hn hw hw4 h hv hk .mul (fun r ts' g hr => ?_)
  repeat tm_at "g"
  exact hQ _ _ g hr
theorem z_two' (ok : (cx w h0 mg mb).Ok) (h1 : ts.length ≤ 990) (hn : ts.Nodup) (hw : 1 ≤ wd) (hw4 : wd ≤ 4) (h : At ts 3 ⟨"app", [], 3, 0⟩) (hv : v < 2 ^ wd) (hk : At ts j ⟨"bvnum", [], 3, v⟩) (o : Op5) (hQ : ∀ r ts', Grow ts 3 ts' → Is wd ts' r (mix wd o v .var) → Q (.int r) (Z top nm wd ts')) :
  CallT (cx w h0 mg mb) (.ref 937) (d + 8) [.inst 1061 13, .str o.str, .int 3, .int j] (Z top nm wd ts) Q := by
 have h1' : ts.length ≤ 1000 := by lia
 refine (codeT_fn (k := 0) ok (f_BitsRewriter_two_bits ok) (s_BitsRewriter_two_bits ok) rfl ?_).call
 delta m_BitsRewriter_two_bits
 cases o
 all_goals
  repeat tm_at "g"
  refine z_isbits ok h1' h ?_
  repeat tm_at "g"
  first
   | refine z_mbits' ok h1 hn hw hw4 h hv hk .and (fun r ts' g hr => ?_)
   | refine z_mbits' ok h1 hn hw hw4 h hv hk .or (fun r ts' g hr => ?_)
   | refine z_mbits' ok h1 hn hw hw4 h hv hk .xor (fun r ts' g hr => ?_)
   | refine z_mbits' ok h1 hn hw hw4 h hv hk .add (fun r ts' g hr => ?_)
   | refine z_mbits' ok h1 hn hw hw4 h hv hk .mul (fun r ts' g hr => ?_)
  repeat tm_at "g"
  exact hQ _ _ g hr
end
section
set_option maxHeartbeats 1000000
section
variable {d : Nat} {ρ : Env'} {σ : St}
noncomputable def compQ (xs : List V) (P : Prop) : Prop := xs.length ≤ 1000000 ∧ P
theorem i_comp {it : ME (List V)} {N k : Nat} {tg : MA} {f : ME Bool} {e : ME V} {Q : V → St → Prop} (hN : ρ.length = N) (h : it d ρ σ fun xs σ => compQ xs (compL d tg f e (fun ys σ => Q (.fl ys) σ) xs [] (ρ ++ List.replicate k none) σ)) : compM it N k tg f e d ρ σ Q := ⟨hN, h⟩
theorem i_iters {a : ME V} {Q : List V → St → Prop} (h : a d ρ σ fun x σ => itemsP σ x (Q · σ)) : itersM a d ρ σ Q := h
theorem i_zip {b : ME (List V)} {l r : List V} {Q : List V → St → Prop} (h : b d ρ σ fun xs σ => xs = [.fl l, .fl r] ∧ Q (zipV l r) σ) (mono : ∀ P P' : List V → St → Prop, (∀ a s, P a s → P' a s) → b d ρ σ P → b d ρ σ P') : zipM b d ρ σ Q :=
 mono _ _ (fun a s ⟨e, q⟩ => by subst e; exact q) h
noncomputable def zipC (Q : List V → St → Prop) (xs : List V) (σ : St) : Prop := (fl2 xs).elim False fun p => Q (zipV p.1.1 p.1.2) σ
theorem i_zipM {b : ME (List V)} {Q : List V → St → Prop} (h : b d ρ σ (zipC Q)) : zipM b d ρ σ Q := h
theorem i_zipC {l r : List V} {Q : List V → St → Prop} (h : Q (zipV l r) σ) : zipC Q [.fl l, .fl r] σ := h
noncomputable def enumC (Q : List V → St → Prop) (xs : List V) (σ : St) : Prop := (fl1 xs).elim False fun l => Q (enumV l.1) σ
theorem i_enumM {b : ME (List V)} {Q : List V → St → Prop} (h : b d ρ σ (enumC Q)) : enumM b d ρ σ Q := h
theorem i_enumC {l : List V} {Q : List V → St → Prop} (h : Q (enumV l) σ) : enumC Q [.fl l] σ := h
noncomputable def lzipC (Q : V → St → Prop) (xs : List V) (σ : St) : Prop := (fl2 xs).elim False fun p => p.1.1.length = p.1.2.length ∧ 0 < p.1.1.length ∧ p.1.1.length ≤ 1000000 ∧ Q (.fl (zipV p.1.1 p.1.2)) σ
theorem i_lzip {b : ME (List V)} {Q : V → St → Prop} (h : b d ρ σ (lzipC Q)) : lzipM b d ρ σ Q := h
theorem i_lzipC {l r : List V} {Q : V → St → Prop} (h1 : l.length = r.length) (h2 : 0 < l.length) (h3 : l.length ≤ 1000000) (h : Q (.fl (zipV l r)) σ) : lzipC Q [.fl l, .fl r] σ := ⟨h1, h2, h3, h⟩
noncomputable def sortC (Q : V → St → Prop) (xs : List V) (σ : St) : Prop := match xs with
 | [.fl l] => ∃ is, V.ints l = some is ∧ l.length < 64 ∧ Q (.fl ((sortSet is).map V.int)) σ
 | _ => False
theorem i_sort {b : ME (List V)} {Q : V → St → Prop} (h : b d ρ σ (sortC Q)) : sortSetM b d ρ σ Q := h
theorem ints_of : ∀ (is : List Int), V.ints (is.map V.int) = some is
 | [] => rfl
 | i :: is => by simp [V.ints, ints_of is]
theorem i_sortC {is : List Int} {Q : V → St → Prop} (h1 : is.length < 64) (h : Q (.fl ((sortSet is).map V.int)) σ) : sortC Q [.fl (is.map V.int)] σ := ⟨is, ints_of is, by simpa using h1, h⟩
theorem it_fl {l : List V} {k : List V → Prop} (h : k l) : itemsP σ (.fl l) k := h
theorem small_ok {n : Nat} (h : n ≤ 1000) : Builtin.Range.small 0 n 1 = true ∧ (Builtin.Range.rangeSize 0 n 1).toNat = n := by
 have key : (List.range 1001).all (fun n => Builtin.Range.small 0 (n : Int) 1 && decide ((Builtin.Range.rangeSize 0 (n : Int) 1).toNat = n)) = true := by decide +kernel
 have := List.all_eq_true.mp key n (List.mem_range.mpr (by lia))
 simpa using this
noncomputable def rngL (n : Nat) : List V := (List.range n).map fun (i : Nat) => V.int (i : Int)
theorem it_rng {n : Nat} {k : List V → Prop} (hn : n ≤ 1000) (h : k (rngL n)) : itemsP σ (.rng 0 n 1) k := by
 obtain ⟨a, b⟩ := small_ok hn
 refine ⟨by decide, a, ?_⟩
 rw [b]
 have e : ((List.range n).map fun (i : Nat) => V.int (0 + (i : Int) * 1)) = rngL n := by unfold rngL; simp
 rw [e]; exact h
theorem k_listrng {c : Ctx} {n : Nat} {Q : V → St → Prop} (hn : n ≤ 1000) (h : Q (.fl (rngL n)) σ) : CallT c (.type "list") d [.rng 0 n 1] σ Q := by
 obtain ⟨a, b⟩ := small_ok hn
 refine callT_list_range (by decide) a (by rw [b]; lia) ?_
 rw [b]
 have e : ((List.range n).map fun (i : Nat) => V.int (0 + (i : Int) * 1)) = rngL n := by unfold rngL; simp
 rw [e]; exact h
theorem comp_gen {tg : MA} {f : ME Bool} {e : ME V} {Q : List V → St → Prop} (F : V → Env') (g : V → V) (okx : V → Bool) : ∀ (xs acc : List V) (ρ : Env'), (∀ x ∈ xs, ∀ K : Env' → St → Prop, K (F x) σ → tg d ρ x σ K) → (∀ y ∈ xs, ∀ x ∈ xs, ∀ K : Env' → St → Prop, K (F x) σ → tg d (F y) x σ K) →
  (∀ x ∈ xs, ∀ K : Bool → St → Prop, K (okx x) σ → f d (F x) σ K) → (∀ x ∈ xs, okx x = true → ∀ K : V → St → Prop, K (g x) σ → e d (F x) σ K) → Q (acc ++ (xs.filter okx).map g) σ → compL d tg f e Q xs acc ρ σ
 | [], acc, ρ, _, _, _, _, q => by simpa [compL] using q
 | x :: xs, acc, ρ, h1, h2, h3, h4, q => by
  unfold compL
  refine h1 x List.mem_cons_self _ (h3 x List.mem_cons_self _ ?_)
  have ih := fun acc => comp_gen (Q := Q) F g okx xs acc (F x) (fun y hy => h2 x List.mem_cons_self y (List.mem_cons_of_mem _ hy)) (fun y hy z hz => h2 y (List.mem_cons_of_mem _ hy) z (List.mem_cons_of_mem _ hz)) (fun y hy => h3 y (List.mem_cons_of_mem _ hy)) (fun y hy => h4 y (List.mem_cons_of_mem _ hy))
  cases hx : okx x with
  | true =>
   rw [if_pos rfl]
   refine h4 x List.mem_cons_self hx _ (ih _ ?_)
   simpa [List.filter_cons, hx] using q
  | false =>
   rw [if_neg (by decide)]
   refine ih _ ?_
   simpa [List.filter_cons, hx] using q
theorem comp_nm {i : Nat} {e : ME V} {Q : List V → St → Prop} {xs : List V} (g : V → V) (he : ∀ x ∈ xs, ∀ K : V → St → Prop, K (g x) σ → e d (ρ.set i (some x)) σ K) (q : Q (xs.map g) σ) : compL d (nmA i) (yesM true) e Q xs [] ρ σ := by
 refine comp_gen (fun x => ρ.set i (some x)) g (fun _ => true) xs [] ρ (fun x _ K h => h) (fun y _ x _ K h => ?_) (fun x _ K h => h) (fun x hx _ => he x hx) (by rw [List.filter_eq_self.mpr (fun _ _ => rfl)]; simpa using q)
 show K _ σ
 rw [List.set_set]; exact h
end
theorem rng_mem {n : Nat} {x : V} (h : x ∈ rngL n) : ∃ k : Nat, k < n ∧ x = .int k := by
 simp only [rngL, List.mem_map, List.mem_range] at h
 obtain ⟨k, hk, rfl⟩ := h
 exact ⟨k, hk, rfl⟩
noncomputable def iv (f : Int → Int) : V → V
 | .int i => .int (f i)
 | x => x
noncomputable def topD (cs : List Int) (n : Nat) : AObj := .dict [(.str "cells", .fl (cs.map V.int)), (.str "spins", .int n)]
variable {w : World} {h0 : Heap} {mg mb : Str → Option Value} {top : AObj} {nm : V} {wd : Nat} {ts : List T} {d : Nat} {Q : V → St → Prop} {i j : Int} {e f : T} {σ : St} {t : Tm} {v : Nat} {cs : List Int} {n : Nat}
theorem kp_top {x : Str} (hx : PyData.canLay0 (.str x) = true) : keyP [(.str "cells", .fl (cs.map V.int)), (.str "spins", .int n)] (.str x) := ⟨hx, Nat.le_of_ble_eq_true rfl, rfl, Nat.le_of_ble_eq_true rfl⟩
theorem kp_spins : keyP [(.str "cells", .fl (cs.map V.int)), (.str "spins", .int n)] (.str "spins") := kp_top (by decide +kernel)
theorem kp_cells : keyP [(.str "cells", .fl (cs.map V.int)), (.str "spins", .int n)] (.str "cells") := kp_top (by decide +kernel)
theorem s_spins {k : V → Prop} (h : k (.int n)) : subP (some (topD cs n) :: σ) (.ref 0) (.str "spins") k := s_dict (σ := some (topD cs n) :: σ) (n := 0) (key := .str "spins") rfl kp_spins rfl h
theorem s_cells {k : V → Prop} (h : k (.fl (cs.map V.int))) : subP (some (topD cs n) :: σ) (.ref 0) (.str "cells") k := s_dict (σ := some (topD cs n) :: σ) (n := 0) (key := .str "cells") rfl kp_cells rfl h
theorem set_spins {k : St → Prop} (h : k (some (topD cs (n + 1)) :: σ)) : setP (some (topD cs n) :: σ) (.ref 0) (.str "spins") (.int ((n : Int) + 1)) k := i_setP (σ := some (topD cs n) :: σ) (j := 0) (i := .str "spins") rfl kp_spins h
theorem spin_ok {i : Int} {many : Nat} (hm : 0 < many) {Q : V → St → Prop} (h : ∀ r : Nat, r < many → Q (.int r) σ) : Q (.int (i.fmod many)) σ := by
 have hp : (0 : Int) < many := by lia
 have a := Int.fmod_nonneg_of_pos i hp
 have b := Int.fmod_lt_of_pos i hp
 have := h (i.fmod many).toNat (by lia)
 rwa [Int.toNat_of_nonneg a] at this
theorem k_spin (ok : (cx w h0 mg mb).Ok) {many : Nat} (hm : 0 < many) (hn : n ≤ 1000) (hc : cs.length ≤ 1000) (hQ : ∀ r : Nat, r < many → Q (.int r) (some (topD cs (n + 1)) :: σ)) : CallT (cx w h0 mg mb) (.ref 1071) (d + 1) [.ref 0, .int many] (some (topD cs n) :: σ) Q := by
 refine (codeT_fn (k := 0) ok (f__law_spin ok) (s__law_spin ok) rfl ?_).call
 delta m__law_spin
 repeat tm_at "g"
 refine s_spins ?_
 repeat tm_at "g"
 refine set_spins ?_
 repeat tm_at "g"
 refine s_spins ?_
 repeat tm_at "g"
 refine s_cells ?_
 repeat tm_at "g"
 refine k_lenF (by simp; lia) ?_
 repeat tm_at "g"
 refine i_by (fun h => ?_) (fun h => ?_)
 ·repeat tm_at "g"
  refine s_cells ?_
  repeat tm_at "g"
  refine s_spins ?_
  repeat tm_at "g"
  have hl : n < cs.length := by simp at h; lia
  refine s_fl (by lia) (by lia) (v := .int cs[n]) ?_ ?_
  ·have : (((n + 1 : Nat) : Int) - 1).toNat = n := by lia
   rw [this]; simp [hl]
  repeat tm_at "g"
  refine o_mod (by lia) ?_
  repeat tm_at "g"
  exact spin_ok hm hQ
 ·repeat tm_at "g"
  refine s_spins ?_
  repeat tm_at "g"
  refine o_mul (.inr (by decide)) ?_
  repeat tm_at "g"
  refine s_spins ?_
  repeat tm_at "g"
  refine s_spins ?_
  repeat tm_at "g"
  refine o_mul (.inr (by lia)) ?_
  repeat tm_at "g"
  refine o_fdiv (by decide) (by decide) ?_
  repeat tm_at "g"
  refine o_mod (by decide) ?_
  repeat tm_at "g"
  refine o_mod (by lia) ?_
  repeat tm_at "g"
  exact spin_ok hm hQ
theorem k_lnumber (ok : (cx w h0 mg mb).Ok) (hw : 1 ≤ wd) (hw4 : wd ≤ 4) (hn : n ≤ 900) (hc : cs.length ≤ 1000) (hQ : ∀ r : Nat, r < 2 ^ wd → Q (.int r) (some (topD cs (n + 2)) :: σ)) : CallT (cx w h0 mg mb) (.ref 1078) (d + 2) [.ref 0, .int wd] (some (topD cs n) :: σ) Q := by
 refine (codeT_fn (k := 2) ok (f__law_number ok) (s__law_number ok) rfl ?_).call
 delta m__law_number
 have hp2 : ((2 : Int) ^ (wd : Int).toNat) = ((2 ^ wd : Nat) : Int) := by simp
 have hp0 : 0 < 2 ^ wd := Nat.pow_pos (by decide)
 have hp2' : 2 ≤ 2 ^ wd := by
  calc 2 = 2 ^ 1 := rfl
   _ ≤ 2 ^ wd := Nat.pow_le_pow_right (by decide) hw
 repeat tm_at "g"
 refine k_spin ok (many := 5) (by decide) (by lia) hc fun way hway => ?_
 repeat tm_at "g"
 refine o_pow (by lia) (by lia) (by decide) ?_
 rw [hp2]
 repeat tm_at "g"
 refine k_spin ok hp0 (by lia) hc fun drawn hdr => ?_
 repeat tm_at "g"
 refine o_pow (by lia) (by lia) (by decide) ?_
 rw [hp2]
 repeat tm_at "g"
 refine o_mod (by lia) ?_
 have hmod : ((drawn : Int).fmod (wd : Int)) = ((drawn % wd : Nat) : Int) := by rw [Int.fmod_eq_emod_of_nonneg _ (by lia)]; rfl
 rw [hmod]
 have hlt : drawn % wd < wd := Nat.mod_lt _ (by lia)
 refine o_pow (by lia) (by lia) (by decide) ?_
 have hp3 : ((2 : Int) ^ ((drawn % wd : Nat) : Int).toNat) = ((2 ^ (drawn % wd) : Nat) : Int) := by rw [Int.toNat_natCast]; norm_cast
 rw [hp3]
 repeat tm_at "g"
 have hb : 2 ^ (drawn % wd) < 2 ^ wd := Nat.pow_lt_pow_right (by decide) hlt
 have cs5 : way = 0 ∨ way = 1 ∨ way = 2 ∨ way = 3 ∨ way = 4 := by lia
 rcases cs5 with rfl | rfl | rfl | rfl | rfl
 ·refine s_fl (by decide) (by decide) rfl ?_
  repeat tm_at "g"
  exact hQ 0 (by lia)
 ·refine s_fl (by decide) (by decide) rfl ?_
  repeat tm_at "g"
  exact hQ 1 (by lia)
 ·refine s_fl (by decide) (by decide) rfl ?_
  repeat tm_at "g"
  have := hQ (2 ^ wd - 1) (by lia)
  have e : (((2 ^ wd - 1 : Nat)) : Int) = ((2 ^ wd : Nat) : Int) - 1 := by lia
  rw [e] at this; exact this
 ·refine s_fl (by decide) (by decide) rfl ?_
  repeat tm_at "g"
  exact hQ _ hb
 ·refine s_fl (by decide) (by decide) rfl ?_
  repeat tm_at "g"
  exact hQ _ hdr
noncomputable def placesL (wd v : Nat) : List Int := (List.range wd).map fun (k : Nat) => ((v / 2 ^ k % 2 : Nat) : Int)
theorem k_places (ok : (cx w h0 mg mb).Ok) (hw4 : wd ≤ 4) (hQ : Q (.fl ((placesL wd v).map V.int)) σ) : CallT (cx w h0 mg mb) (.ref 1083) (d + 1) [.int v, .int wd] σ Q := by
 refine (codeT_fn (k := 0) ok (f__law_places ok) (s__law_places ok) rfl ?_).call
 delta m__law_places
 repeat tm_at "g"
 refine i_comp rfl ?_
 refine i_iters ?_
 repeat tm_at "g"
 refine callT_range1 ?_
 refine it_rng (by lia) ?_
 refine ⟨by simp [rngL]; lia, ?_⟩
 refine comp_nm (iv fun k => (((v / 2 ^ k.toNat % 2 : Nat)) : Int)) (fun x hx K hK => ?_) ?_
 ·obtain ⟨k, hk, rfl⟩ := rng_mem hx
  repeat tm_at "g"
  refine o_pow (by lia) (by lia) (by decide) ?_
  have e1 : ((2 : Int) ^ ((k : Nat) : Int).toNat) = ((2 ^ k : Nat) : Int) := by simp
  rw [e1]
  have hk2 : 2 ^ k ≤ 2 ^ 4 := Nat.pow_le_pow_right (by decide) (by lia)
  have hk0 : 0 < 2 ^ k := Nat.pow_pos (by decide)
  refine o_fdiv (by lia) (by lia) ?_
  repeat tm_at "g"
  refine o_mod (by decide) ?_
  have e2 : (((v : Int).fdiv ((2 ^ k : Nat) : Int)).fmod 2) = ((v / 2 ^ k % 2 : Nat) : Int) := by
   rw [Int.fdiv_eq_ediv_of_nonneg _ (by lia), Int.fmod_eq_emod_of_nonneg _ (by decide)]; norm_cast
  rw [e2]
  exact hK
 ·repeat tm_at "g"
  have e : (rngL wd).map (iv fun k => (((v / 2 ^ k.toNat % 2 : Nat)) : Int)) = (placesL wd v).map V.int := by
   simp [rngL, placesL, iv]
  rw [e]; exact hQ
end
section
set_option maxHeartbeats 1000000
noncomputable def f5 (o : Op5) (wd v x : Nat) : Nat := match o with
 | .and => v &&& x
 | .or => v ||| x
 | .xor => v ^^^ x
 | .add => (x + v) % 2 ^ wd
 | .mul => (x * v) % 2 ^ wd
noncomputable def wheelL (wd : Nat) (o : Op5) (v : Nat) : List Int := (List.range (2 ^ wd)).map fun x => ((f5 o wd v x : Nat) : Int)
noncomputable def iL (l : List Int) : List V := l.map V.int
theorem allW {P : Nat → Nat → Bool} (h : ((List.range 5).all fun wd => (List.range (2 ^ wd)).all fun v => P wd v) = true) {wd v : Nat} (hw : wd ≤ 4) (hv : v < 2 ^ wd) : P wd v = true :=
 List.all_eq_true.mp (List.all_eq_true.mp h wd (List.mem_range.mpr (by lia))) v (List.mem_range.mpr hv)
theorem turnedOk {wd v : Nat} (hw : wd ≤ 4) (hv : v < 2 ^ wd) : (List.range (2 ^ wd)).drop v ++ (List.range (2 ^ wd)).take v = (List.range (2 ^ wd)).map fun x => (x + v) % 2 ^ wd := by
 have := allW (P := fun wd v => decide ((List.range (2 ^ wd)).drop v ++ (List.range (2 ^ wd)).take v = (List.range (2 ^ wd)).map fun x => (x + v) % 2 ^ wd)) (by decide +kernel) hw hv
 exact of_decide_eq_true this
section
variable {d : Nat} {ρ : Env'} {σ : St}
noncomputable def ptC (Q : Option Int → St → Prop) (x : V) (σ : St) : Prop := match x with
 | .int i => Q (some i) σ
 | _ => False
theorem i_pt {a : ME V} {Q : Option Int → St → Prop} (h : a d ρ σ (ptC Q)) : ptM a d ρ σ Q := h
theorem i_ptC {Q : Option Int → St → Prop} {i : Int} (h : Q (some i) σ) : ptC Q (.int i) σ := h
theorem i_nop {Q : Option Int → St → Prop} (h : Q none σ) : nopM d ρ σ Q := h
theorem sl_lo {l : List V} {v : Nat} {k : V → Prop} (hl : l.length ≤ 1000000) (h : k (.fl (l.drop v))) : slcP σ (.fl l) (some (v : Int)) none k :=
 ⟨hl, fun a e => (by cases e; lia), fun a e => (by cases e), by simpa using h⟩
theorem sl_hi {l : List V} {v : Nat} {k : V → Prop} (hl : l.length ≤ 1000000) (h : k (.fl (l.take v))) : slcP σ (.fl l) none (some (v : Int)) k :=
 ⟨hl, fun a e => (by cases e), fun a e => (by cases e; lia), by simpa using h⟩
noncomputable def dictPC (st : Bool) (n : Nat) (Q : V → St → Prop) (kvs : List (V × V)) (σ' : St) : Prop := σ'[n]? = some (some (.dict [])) ∧ pairsP st kvs ∧ Q (.ref n) (σ'.set n (some (.dict (dsets [] kvs))))
theorem i_dictP {st : Bool} {m : ME (List (V × V))} {Q : V → St → Prop} (h : m d ρ (σ ++ [some (.dict [])]) (dictPC st σ.length Q)) : dictPM st m d ρ σ Q := h
theorem i_nilP {Q : List (V × V) → St → Prop} (h : Q [] σ) : nilP d ρ σ Q := h
theorem i_consP {a b : ME V} {r : ME (List (V × V))} {Q : List (V × V) → St → Prop} (h : a d ρ σ fun x σ => b d ρ σ fun y σ => r d ρ σ fun kvs σ => Q ((x, y) :: kvs) σ) : consP a b r d ρ σ Q := h
theorem i_dictPC {st : Bool} {Q : V → St → Prop} {kvs : List (V × V)} (h1 : pairsP st kvs) (h : Q (.ref σ.length) (σ ++ [some (.dict (dsets [] kvs))])) : dictPC st σ.length Q kvs (σ ++ [some (.dict [])]) :=
 ⟨by simp, h1, by simpa using h⟩
theorem pairs_str {ks : List Str} {vs : List V} (h : (ks.all fun x => PyData.canLay0 (.str x)) = true) : pairsP true ((ks.zip vs).map fun p => (V.str p.1, p.2)) := by
 refine ⟨fun p hp => ?_, ?_⟩
 ·simp only [List.mem_map] at hp
  obtain ⟨⟨a, b⟩, hm, rfl⟩ := hp
  exact ⟨List.all_eq_true.mp h a (List.of_mem_zip hm).1, Nat.le_of_ble_eq_true rfl⟩
 ·rw [List.all_eq_true]; intro p hp
  simp only [List.mem_map] at hp
  obtain ⟨⟨a, b⟩, _, rfl⟩ := hp
  rfl
theorem s_last {n : Nat} {l : List V} {v : V} {k : V → Prop} (h : σ[n]? = some (some (.list l))) (h0 : 0 < l.length) (hy : l[l.length - 1]? = some v) (q : k v) : subP σ (.ref n) (.int (-1)) k := by
 unfold subP; dsimp only; rw [h]; dsimp only; unfold idxP; rw [if_neg (by decide)]
 refine ⟨by decide, by lia, v, ?_, q⟩
 have : ((-1 : Int) + (l.length : Int)).toNat = l.length - 1 := by lia
 rw [this]; exact hy
theorem i_tupA {n : Nat} {b : Nat → Env' → List V → St → (Env' → St → Prop) → Prop} {xs : List V} {Q : Env' → St → Prop} (hl : xs.length = n) (h : b d ρ xs σ Q) : tupA n b d ρ (.tup xs) σ Q := ⟨hl, h⟩
theorem i_consA {a : MA} {b : Nat → Env' → List V → St → (Env' → St → Prop) → Prop} {x : V} {xs : List V} {Q : Env' → St → Prop} (h : a d ρ x σ fun ρ σ => b d ρ xs σ Q) : consA a b d ρ (x :: xs) σ Q := h
theorem i_nilA {Q : Env' → St → Prop} (h : Q ρ σ) : nilA d ρ [] σ Q := h
end
theorem bds_ints (n : Nat) : ∀ l : List Int, V.bds n (iL l) = true
 | [] => rfl
 | x :: l => by show (true && V.bds n (iL l)) = true; rw [bds_ints n l]; rfl
theorem cut0 {σ : St} {v : V} {Q : V → St → Prop} (h : v.bd σ.length = true) (q : Q v σ) : cutP σ v σ Q := by
 have := cutP.same' (σ := σ) (junk := []) h q
 rwa [List.append_nil] at this
theorem rngL_iL (n : Nat) : rngL n = iL ((List.range n).map fun (i : Nat) => (i : Int)) := by simp [rngL, iL]
variable {w : World} {h0 : Heap} {mg mb : Str → Option Value} {top : AObj} {nm : V} {wd : Nat} {ts : List T} {d : Nat} {Q : V → St → Prop} {i j : Int} {e f : T} {σ : St} {t : Tm} {v : Nat} {cs : List Int} {n : Nat}
theorem k_turned (ok : (cx w h0 mg mb).Ok) (hw4 : wd ≤ 4) (hv : v < 2 ^ wd) (hQ : Q (.fl (iL (wheelL wd .add v))) σ) : CallT (cx w h0 mg mb) (.ref 1090) (d + 1) [.int v, .int wd] σ Q := by
 refine (codeT_fn (k := 1) ok (f__law_turned ok) (s__law_turned ok) rfl ?_).call
 delta m__law_turned
 have hp4 : 2 ^ wd ≤ 2 ^ 4 := Nat.pow_le_pow_right (by decide) hw4
 have hp2 : ((2 : Int) ^ (wd : Int).toNat) = ((2 ^ wd : Nat) : Int) := by simp
 repeat tm_at "g"
 refine o_pow (by lia) (by lia) (by decide) ?_
 rw [hp2]
 repeat tm_at "g"
 refine callT_range1 ?_
 repeat tm_at "g"
 refine k_listrng (by lia) ?_
 have hl : (rngL (2 ^ wd)).length = 2 ^ wd := by simp [rngL]
 repeat tm_at "g"
 refine i_pt ?_
 repeat tm_at "g"
 refine i_ptC ?_
 refine i_nop ?_
 refine sl_lo (by lia) ?_
 repeat tm_at "g"
 refine i_nop ?_
 refine i_pt ?_
 repeat tm_at "g"
 refine i_ptC ?_
 refine sl_hi (by lia) ?_
 refine o_cat (by simp; lia) ?_
 repeat tm_at "g"
 have e : (rngL (2 ^ wd)).drop v ++ (rngL (2 ^ wd)).take v = iL (wheelL wd .add v) := by
  unfold rngL iL wheelL f5
  rw [← List.map_drop, ← List.map_take, ← List.map_append, turnedOk hw4 hv]
  simp
 rw [e]; exact hQ
theorem k_divisor (ok : (cx w h0 mg mb).Ok) {a b : Nat} (hQ : Q (.int (Nat.gcd a b)) σ) : CallT (cx w h0 mg mb) (.ref 1107) (d + 1) [.int a, .int b] σ Q := by
 refine (codeT_fn (k := 0) ok (f__law_divisor ok) (s__law_divisor ok) rfl ?_).call
 delta m__law_divisor
 repeat tm_at "g"
 refine ⟨fun n ρ σ' => ∃ x y : Nat, n = y ∧ Nat.gcd x y = Nat.gcd a b ∧ ρ = [some (.int x), some (.int y)] ∧ σ' = σ, b, ⟨a, b, rfl, rfl, rfl, rfl⟩, ?_⟩
 rintro n ρ σ' ⟨x, y, rfl, hg, rfl, rfl⟩
 repeat tm_at "g"
 cases hy : decide ((n : Int) > 0) with
 | true =>
  rw [if_pos rfl]
  have hy' : 0 < n := by simp at hy; lia
  repeat tm_at "g"
  refine o_mod (by lia) ?_
  repeat tm_at "g"
  refine ⟨x % n, Nat.mod_lt _ hy', n, x % n, rfl, ?_, ?_, rfl⟩
  ·rw [← hg, Nat.gcd_comm x n, Nat.gcd_rec n x, Nat.gcd_comm]
  ·rw [Int.fmod_eq_emod_of_nonneg _ (by lia)]; rfl
 | false =>
  rw [if_neg (by decide)]
  have hy' : n = 0 := by simp at hy; lia
  subst hy'
  repeat tm_at "g"
  show Q (.int x) _
  rw [← hg] at hQ
  simpa using hQ
noncomputable def leastO : Op5 → List Int
 | .and => [2]
 | .or => [1, 2]
 | _ => [1]
noncomputable def rowV (row : List (Int × Int)) : List V := row.map fun p => V.tup [.int p.1, .int p.2]
noncomputable def rowN (wd v x : Nat) : List (Int × Int) := (placesL wd v).zip (placesL wd x)
noncomputable def okE (least : List Int) : V → Bool
 | .tup [_, .tup [.int a, .int b]] => least.any (· == a + b)
 | _ => false
noncomputable def gE : V → V
 | .tup (.int k :: _) => .int (2 ^ k.toNat)
 | x => x
noncomputable def sumI (least : List Int) (row : List (Int × Int)) : List Int := (row.zipIdx.filter fun p => least.any (· == p.1.1 + p.1.2)).map fun p => (2 : Int) ^ p.2
theorem rowsOk {wd v : Nat} {o : Op5} (hw : wd ≤ 4) (hv : v < 2 ^ wd) (ho : o = .and ∨ o = .or ∨ o = .xor) : ((List.range (2 ^ wd)).map fun x => (sumI (leastO o) (rowN wd v x)).sum) = wheelL wd o v := by
 have := allW (P := fun wd v => [Op5.and, .or, .xor].all fun o => decide (((List.range (2 ^ wd)).map fun x => (sumI (leastO o) (rowN wd v x)).sum) = wheelL wd o v)) (by decide +kernel) hw hv
 exact of_decide_eq_true (List.all_eq_true.mp this o (by rcases ho with rfl | rfl | rfl <;> simp))
theorem zip_row (l r : List Int) : zipV (iL l) (iL r) = rowV (l.zip r) := by
 simp only [zipV, iL, rowV]
 rw [List.zip_map]
 simp
theorem enum_row (row : List (Int × Int)) : enumV (rowV row) = row.zipIdx.map fun p => V.tup [.int p.2, .tup [.int p.1.1, .int p.1.2]] := by
 simp [enumV, rowV, List.zipIdx_map]
theorem enum_sum (least : List Int) (row : List (Int × Int)) : ((enumV (rowV row)).filter (okE least)).map gE = iL (sumI least row) := by
 rw [enum_row, List.filter_map, List.map_map]
 simp only [sumI, iL, List.map_map]
 rfl
theorem enum_mem {row : List (Int × Int)} {x : V} (h : x ∈ enumV (rowV row)) : ∃ (k : Nat) (a b : Int), k < row.length ∧ x = .tup [.int k, .tup [.int a, .int b]] := by
 rw [enum_row] at h
 simp only [List.mem_map] at h
 obtain ⟨⟨⟨a, b⟩, k⟩, hm, rfl⟩ := h
 exact ⟨k, a, b, by have := List.mem_zipIdx hm; simpa using this.2.1, rfl⟩
theorem placesL_len (wd v : Nat) : (placesL wd v).length = wd := by simp [placesL]
theorem rowN_len (wd v x : Nat) : (rowN wd v x).length = wd := by simp [rowN, placesL_len]
theorem k_rows (ok : (cx w h0 mg mb).Ok) {ρ : Env'} {c : Ctx} (hc : c = cx w h0 mg mb) {least : List Int} {row : List (Int × Int)} (hr : row.length ≤ 100) (hρ : ρ.length = 9) (h8 : ρ[8]? = some (some (.fl (rowV row)))) (h6 : ρ[6]? = some (some (.tup (least.map V.int)))) (hQ : Q (.int (sumI least row).sum) σ) :
  callM c (.builtin "sum") (consM (compM (enumM (consM (locM 8) nilM)) 9 3 (tupA 2 (consA (nmA 9) (consA (tupA 2 (consA (nmA 10) (consA (nmA 11) nilA))) nilA))) (cmpM .In (binM .Add (locM 10) (locM 11)) (locM 6)) (binM .Pow (intM 2) (locM 9))) nilM) d ρ σ Q := by
 subst hc
 refine i_call (i_cons (i_comp hρ ?_))
 refine i_enumM (i_cons (i_loc h8 (i_nil (i_enumC ?_))))
 refine ⟨by simp [enumV, rowV]; lia, ?_⟩
 let ρ0 := ρ ++ List.replicate 3 none
 have l0 : ρ0.length = 12 := by simp [ρ0, hρ]
 let F : V → Env' := fun x => match x with
  | .tup [a, .tup [b, c]] => ((ρ0.set 9 (some a)).set 10 (some b)).set 11 (some c)
  | _ => ρ0
 have F6 : ∀ a b c : V, (F (.tup [a, .tup [b, c]]))[6]? = some (some (.tup (least.map V.int))) := fun a b c => by
  show (((ρ0.set 9 (some a)).set 10 (some b)).set 11 (some c))[6]? = _
  rw [List.getElem?_set_ne (by decide), List.getElem?_set_ne (by decide), List.getElem?_set_ne (by decide), List.getElem?_append_left (by lia)]
  exact h6
 have F9 : ∀ a b c : V, (F (.tup [a, .tup [b, c]]))[9]? = some (some a) := fun a b c => by
  show (((ρ0.set 9 (some a)).set 10 (some b)).set 11 (some c))[9]? = _
  rw [List.getElem?_set_ne (by decide), List.getElem?_set_ne (by decide), List.getElem?_set_self (by lia)]
 have F10 : ∀ a b c : V, (F (.tup [a, .tup [b, c]]))[10]? = some (some b) := fun a b c => by
  show (((ρ0.set 9 (some a)).set 10 (some b)).set 11 (some c))[10]? = _
  rw [List.getElem?_set_ne (by decide), List.getElem?_set_self (by simp; lia)]
 have F11 : ∀ a b c : V, (F (.tup [a, .tup [b, c]]))[11]? = some (some c) := fun a b c => by
  show (((ρ0.set 9 (some a)).set 10 (some b)).set 11 (some c))[11]? = _
  rw [List.getElem?_set_self (by simp; lia)]
 have FF : ∀ a b c a' b' c' : V, (((F (.tup [a, .tup [b, c]])).set 9 (some a')).set 10 (some b')).set 11 (some c') = F (.tup [a', .tup [b', c']]) := fun a b c a' b' c' => by
  show (((((((ρ0.set 9 (some a)).set 10 (some b)).set 11 (some c)).set 9 (some a')).set 10 (some b')).set 11 (some c')) : Env') = ((ρ0.set 9 (some a')).set 10 (some b')).set 11 (some c')
  rw [List.set_comm (some c) (some a') (by decide), List.set_comm (some b) (some a') (by decide), List.set_set, List.set_comm (some c) (some b') (by decide), List.set_set, List.set_set]
 refine comp_gen F gE (okE least) _ [] ρ0 (fun x hx K hK => ?_) (fun y hy x hx K hK => ?_) (fun x hx K hK => ?_) (fun x hx hok K hK => ?_) ?_
 ·obtain ⟨k, a, b, hk, rfl⟩ := enum_mem hx
  exact i_tupA rfl (i_consA (i_nm (i_consA (i_tupA rfl (i_consA (i_nm (i_consA (i_nm (i_nilA (i_nilA hK))))))))))
 ·obtain ⟨k', a', b', hk', rfl⟩ := enum_mem hy
  obtain ⟨k, a, b, hk, rfl⟩ := enum_mem hx
  rw [← FF (.int k') (.int a') (.int b')] at hK
  exact i_tupA rfl (i_consA (i_nm (i_consA (i_tupA rfl (i_consA (i_nm (i_consA (i_nm (i_nilA (i_nilA hK))))))))))
 ·obtain ⟨k, a, b, hk, rfl⟩ := enum_mem hx
  exact i_cmp (i_bin (i_loc (F10 ..) (i_loc (F11 ..) (o_add (i_loc (F6 ..) (q_inI hK))))))
 ·obtain ⟨k, a, b, hk, rfl⟩ := enum_mem hx
  exact i_bin (i_int (i_loc (F9 ..) (o_pow (by lia) (by lia) (by decide) hK)))
 ·rw [List.nil_append, enum_sum]
  refine i_nil ?_
  exact callT_sum (ints_of _) hQ
end
section
set_option maxHeartbeats 1000000
noncomputable def unrow : List V → List (Int × Int)
 | .tup [.int a, .int b] :: r => (a, b) :: unrow r
 | _ => []
theorem unrow_row : ∀ row : List (Int × Int), unrow (rowV row) = row
 | [] => rfl
 | (a, b) :: r => by show (a, b) :: unrow (rowV r) = _; rw [unrow_row r]
noncomputable def rowE (wd v : Nat) : V → V
 | .int x => .fl (rowV (rowN wd v x.toNat))
 | x => x
noncomputable def sumE (least : List Int) : V → V
 | .fl r => .int (sumI least (unrow r)).sum
 | x => x
noncomputable def mulL (wd v m : Nat) : List Int := (List.range m).map fun x => (((x * v) % 2 ^ wd : Nat) : Int)
variable {w : World} {h0 : Heap} {mg mb : Str → Option Value} {top : AObj} {nm : V} {wd : Nat} {ts : List T} {d : Nat} {Q : V → St → Prop} {i j : Int} {e f : T} {σ : St} {t : Tm} {v : Nat} {cs : List Int} {n : Nat}
theorem bd_iL (n : Nat) (l : List Int) : (V.fl (iL l)).bd n = true := bds_ints n l
theorem get_last {o : AObj} : (σ ++ [some o])[σ.length]? = some (some o) := by simp
theorem set_last {o o' : AObj} : (σ ++ [some o]).set σ.length (some o') = σ ++ [some o'] := by simp
theorem wheelL_get {wd : Nat} {o : Op5} {v x : Nat} (hx : x < 2 ^ wd) : (iL (wheelL wd o v))[x]? = some (.int (f5 o wd v x : Nat)) := by
 simp [iL, wheelL, hx]
theorem k_wheelMul (ok : (cx w h0 mg mb).Ok) (hw4 : wd ≤ 4) (hv : v < 2 ^ wd) (hQ : Q (.fl (iL (wheelL wd .mul v))) σ) : CodeT (cx w h0 mg mb) (.ref 1095) (d + 2) [.str "bvmul", .int v, .int wd] σ Q := by
 refine codeT_fnC (k := 5) ok (f__law_wheel ok) (s__law_wheel ok) rfl ?_
 delta m__law_wheel
 have hp4 : 2 ^ wd ≤ 2 ^ 4 := Nat.pow_le_pow_right (by decide) hw4
 have hp0 : 0 < 2 ^ wd := Nat.pow_pos (by decide)
 have hp2 : ((2 : Int) ^ (wd : Int).toNat) = ((2 ^ wd : Nat) : Int) := by simp
 repeat tm_at "g"
 refine o_pow (by lia) (by lia) (by decide) ?_
 rw [hp2]
 repeat tm_at "g"
 refine k_turned ok hw4 hv ?_
 repeat tm_at "g"
 refine ⟨fun n ρ σ' => ∃ m : Nat, 1 ≤ m ∧ m ≤ 2 ^ wd ∧ n = 2 ^ wd - m ∧ ρ = [some (.str "bvmul"), some (.int v), some (.int wd), some (.int ((2 ^ wd : Nat) : Int)), some (.ref σ.length), some (.fl (iL (wheelL wd .add v))), none, none] ∧ σ' = σ ++ [some (.list (iL (mulL wd v m)))],
  2 ^ wd - 1, ⟨1, by lia, by lia, rfl, rfl, by simp [mulL, iL]⟩, ?_⟩
 rintro n ρ σ' ⟨m, hm1, hm2, rfl, rfl, rfl⟩
 have lm : (iL (mulL wd v m)).length = m := by simp [iL, mulL]
 repeat tm_at "g"
 refine k_len get_last (by lia) ?_
 repeat tm_at "g"
 cases hlt : decide (((iL (mulL wd v m)).length : Int) < ((2 ^ wd : Nat) : Int)) with
 | true =>
  rw [if_pos rfl]
  have hlt' : m < 2 ^ wd := by have := Int.ofNat_lt.mp (of_decide_eq_true hlt); lia
  repeat tm_at "g"
  refine i_bmethC (by simp [tyP]) ?_
  repeat tm_at "g"
  refine s_last get_last (by rw [lm]; lia) (v := .int (((m - 1) * v % 2 ^ wd : Nat))) ?_ ?_
  ·rw [lm]; simp [iL, mulL, show m - 1 < m by lia]
  have hx : (m - 1) * v % 2 ^ wd < 2 ^ wd := Nat.mod_lt _ hp0
  refine s_fl (by lia) (by lia) (v := .int (f5 .add wd v ((m - 1) * v % 2 ^ wd) : Nat)) ?_ ?_
  ·rw [Int.toNat_natCast]; exact wheelL_get hx
  repeat tm_at "g"
  refine callT_append get_last (by lia) ?_
  repeat tm_at "g"
  refine ⟨2 ^ wd - (m + 1), by lia, m + 1, by lia, hlt', rfl, rfl, ?_⟩
  rw [set_last]
  have e : iL (mulL wd v m) ++ [V.int (f5 .add wd v ((m - 1) * v % 2 ^ wd) : Nat)] = iL (mulL wd v (m + 1)) := by
   have e1 : f5 .add wd v ((m - 1) * v % 2 ^ wd) = m * v % 2 ^ wd := by
    show ((m - 1) * v % 2 ^ wd + v) % 2 ^ wd = _
    rw [Nat.mod_add_mod]
    have : (m - 1) * v + v = m * v := by
     rw [← Nat.succ_mul]; congr 1; lia
    rw [this]
   rw [e1]
   simp [iL, mulL, List.range_succ]
  rw [e]
 | false =>
  rw [if_neg (by decide)]
  have hm : m = 2 ^ wd := by have hh : ¬ ((iL (mulL wd v m)).length < 2 ^ wd) := fun h => of_decide_eq_false hlt (Int.ofNat_lt.mpr h); lia
  subst hm
  repeat tm_at "g"
  refine cutP.same (σ := σ) (junk := [some (.list (iL (mulL wd v (2 ^ wd))))]) (.inr ⟨σ.length, _, rfl, Nat.le_refl _, get_last, bds_ints _ _, rfl⟩) ?_
  exact hQ
theorem k_wheelAdd (ok : (cx w h0 mg mb).Ok) (hw4 : wd ≤ 4) (hv : v < 2 ^ wd) (hQ : Q (.fl (iL (wheelL wd .add v))) σ) : CodeT (cx w h0 mg mb) (.ref 1095) (d + 2) [.str "bvadd", .int v, .int wd] σ Q := by
 refine codeT_fnC (k := 5) ok (f__law_wheel ok) (s__law_wheel ok) rfl ?_
 delta m__law_wheel
 have hp4 : 2 ^ wd ≤ 2 ^ 4 := Nat.pow_le_pow_right (by decide) hw4
 have hp2 : ((2 : Int) ^ (wd : Int).toNat) = ((2 ^ wd : Nat) : Int) := by simp
 repeat tm_at "g"
 refine o_pow (by lia) (by lia) (by decide) ?_
 rw [hp2]
 repeat tm_at "g"
 refine k_turned ok hw4 hv ?_
 repeat tm_at "g"
 exact cut0 (bd_iL _ _) hQ
noncomputable def leastKv : List (V × V) := [(.str "bvand", .tup [.int 2]), (.str "bvor", .tup [.int 1, .int 2]), (.str "bvxor", .tup [.int 1])]
theorem least_keyP {x : Str} (hx : PyData.canLay0 (.str x) = true) : keyP (dsets [] leastKv) (.str x) := ⟨hx, Nat.le_of_ble_eq_true rfl, by kernel_rfl, Nat.le_of_ble_eq_true (by kernel_rfl)⟩
theorem k_wheelRow (ok : (cx w h0 mg mb).Ok) (hw : 1 ≤ wd) (hw4 : wd ≤ 4) (hv : v < 2 ^ wd) {o : Op5} (ho : o = .and ∨ o = .or ∨ o = .xor) (hQ : Q (.fl (iL (wheelL wd o v))) σ) : CodeT (cx w h0 mg mb) (.ref 1095) (d + 2) [.str o.str, .int v, .int wd] σ Q := by
 refine codeT_fnC (k := 5) ok (f__law_wheel ok) (s__law_wheel ok) rfl ?_
 delta m__law_wheel
 have hp4 : 2 ^ wd ≤ 2 ^ 4 := Nat.pow_le_pow_right (by decide) hw4
 have hp2 : ((2 : Int) ^ (wd : Int).toNat) = ((2 ^ wd : Nat) : Int) := by simp
 have hl : (rngL (2 ^ wd)).length = 2 ^ wd := by simp [rngL]
 have hdg : dget (dsets [] leastKv) (.str o.str) = some (.tup ((leastO o).map V.int)) := by rcases ho with rfl | rfl | rfl <;> kernel_rfl
 have hky : PyData.canLay0 (.str o.str) = true := by rcases ho with rfl | rfl | rfl <;> decide +kernel
 have h1 : (o.str == ("bvadd" : Str)) = false := by rcases ho with rfl | rfl | rfl <;> decide +kernel
 have h2 : (o.str == ("bvmul" : Str)) = false := by rcases ho with rfl | rfl | rfl <;> decide +kernel
 repeat tm_at "g"
 refine o_pow (by lia) (by lia) (by decide) ?_
 rw [hp2]
 repeat tm_at "g"
 refine i_F h1 ?_
 repeat tm_at "g"
 refine i_F h2 ?_
 repeat tm_at "g"
 refine i_dictP ?_
 refine i_consP ?_
 repeat tm_at "g"
 refine i_consP ?_
 repeat tm_at "g"
 refine i_consP ?_
 repeat tm_at "g"
 refine i_nilP ?_
 refine i_dictPC (kvs := leastKv) (pairs_str (ks := ["bvand", "bvor", "bvxor"]) (vs := [.tup [.int 2], .tup [.int 1, .int 2], .tup [.int 1]]) (by decide +kernel)) ?_
 repeat tm_at "g"
 refine s_dict get_last (least_keyP hky) hdg ?_
 repeat tm_at "g"
 refine i_comp rfl ?_
 refine i_iters ?_
 repeat tm_at "g"
 refine callT_range1 ?_
 refine it_rng (by lia) ?_
 refine ⟨by lia, ?_⟩
 refine comp_nm (rowE wd v) (fun x hx K hK => ?_) ?_
 ·obtain ⟨x, hx, rfl⟩ := rng_mem hx
  refine i_lzip ?_
  repeat tm_at "g"
  refine k_places ok hw4 ?_
  repeat tm_at "g"
  refine k_places ok hw4 ?_
  repeat tm_at "g"
  refine i_lzipC (by simp [placesL_len]) (by simp [placesL_len]; lia) (by simp [placesL_len]; lia) ?_
  have e : zipV ((placesL wd v).map V.int) ((placesL wd x).map V.int) = rowV (rowN wd v x) := zip_row _ _
  rw [e]; exact hK
 repeat tm_at "g"
 refine i_comp rfl ?_
 refine i_iters ?_
 repeat tm_at "g"
 refine it_fl ?_
 refine ⟨by simp [hl]; lia, ?_⟩
 refine comp_nm (sumE (leastO o)) (fun x hx K hK => ?_) ?_
 ·simp only [List.mem_map] at hx
  obtain ⟨y, hy, rfl⟩ := hx
  obtain ⟨x, hx, rfl⟩ := rng_mem hy
  refine k_rows ok rfl (least := leastO o) (row := rowN wd v x) (by rw [rowN_len]; lia) rfl rfl rfl ?_
  have e : sumE (leastO o) (rowE wd v (.int x)) = .int (sumI (leastO o) (rowN wd v x)).sum := by
   show V.int (sumI (leastO o) (unrow (rowV (rowN wd v x)))).sum = _
   rw [unrow_row]
  rw [e] at hK
  exact hK
 repeat tm_at "g"
 refine cutP.same' (σ := σ) (junk := [some (.dict (dsets [] leastKv))]) ?_ ?_
 ·have e : ((rngL (2 ^ wd)).map (rowE wd v)).map (sumE (leastO o)) = iL (wheelL wd o v) := by
   rw [← rowsOk hw4 hv ho]
   simp only [rngL, iL, List.map_map]
   refine List.map_congr_left fun x _ => ?_
   show V.int (sumI (leastO o) (unrow (rowV (rowN wd v x)))).sum = _
   rw [unrow_row]; rfl
  rw [e]; exact bd_iL _ _
 ·have e : ((rngL (2 ^ wd)).map (rowE wd v)).map (sumE (leastO o)) = iL (wheelL wd o v) := by
   rw [← rowsOk hw4 hv ho]
   simp only [rngL, iL, List.map_map]
   refine List.map_congr_left fun x _ => ?_
   show V.int (sumI (leastO o) (unrow (rowV (rowN wd v x)))).sum = _
   rw [unrow_row]; rfl
  rw [e]; exact hQ
theorem k_wheel (ok : (cx w h0 mg mb).Ok) (hw : 1 ≤ wd) (hw4 : wd ≤ 4) (hv : v < 2 ^ wd) (o : Op5) (hQ : Q (.fl (iL (wheelL wd o v))) σ) : CallT (cx w h0 mg mb) (.ref 1095) (d + 2) [.str o.str, .int v, .int wd] σ Q := by
 cases o with
 | and => exact (k_wheelRow ok hw hw4 hv (o := .and) (.inl rfl) hQ).call
 | or => exact (k_wheelRow ok hw hw4 hv (o := .or) (.inr (.inl rfl)) hQ).call
 | xor => exact (k_wheelRow ok hw hw4 hv (o := .xor) (.inr (.inr rfl)) hQ).call
 | add => exact (k_wheelAdd ok hw4 hv hQ).call
 | mul => exact (k_wheelMul ok hw4 hv hQ).call
end
section
set_option maxHeartbeats 1000000
noncomputable def valN (wd : Nat) : Tm → Nat → Nat
 | .var, x => x
 | .num v, _ => v
 | .bnot t, x => 2 ^ wd - 1 - valN wd t x
 | .neg t, x => (2 ^ wd - valN wd t x) % 2 ^ wd
 | .shl t p, x => valN wd t x * 2 ^ p % 2 ^ wd
 | .bin o v t, x => f5 o wd v (valN wd t x)
noncomputable def vals (wd : Nat) (t : Tm) : List Int := (List.range (2 ^ wd)).map fun x => ((valN wd t x : Nat) : Int)
noncomputable def Tm.ht : Tm → Nat
 | .var => 0
 | .num _ => 0
 | .bnot t => t.ht + 1
 | .neg t => t.ht + 1
 | .shl t _ => t.ht + 1
 | .bin _ _ t => t.ht + 1
theorem f5_lt {o : Op5} {wd v x : Nat} (hv : v < 2 ^ wd) (hx : x < 2 ^ wd) : f5 o wd v x < 2 ^ wd := by
 have hp0 : 0 < 2 ^ wd := Nat.pow_pos (by decide)
 cases o
 ·exact Nat.and_lt_two_pow _ hx
 ·exact Nat.or_lt_two_pow hv hx
 ·exact Nat.xor_lt_two_pow hv hx
 ·exact Nat.mod_lt _ hp0
 ·exact Nat.mod_lt _ hp0
theorem valN_lt {wd : Nat} {ts : List T} {i : Int} {t : Tm} (h : Is wd ts i t) {x : Nat} (hx : x < 2 ^ wd) : valN wd t x < 2 ^ wd := by
 have hp0 : 0 < 2 ^ wd := Nat.pow_pos (by decide)
 induction h with
 | var _ => exact hx
 | num hv _ => exact hv
 | bnot _ _ ih => show 2 ^ wd - 1 - _ < _; lia
 | neg _ _ ih => exact Nat.mod_lt _ hp0
 | shl _ _ _ _ ih => exact Nat.mod_lt _ hp0
 | bin _ hv _ _ ih => exact f5_lt hv ih
theorem vals_len (wd : Nat) (t : Tm) : (iL (vals wd t)).length = 2 ^ wd := by simp [iL, vals]
theorem comp_pair {d : Nat} {ρ : Env'} {σ : St} {a b : Nat} (hab : a ≠ b) {e : ME V} {Q : List V → St → Prop} {l r : List Int} (g : Int → Int → V) (he : ∀ p ∈ l.zip r, ∀ K : V → St → Prop, K (g p.1 p.2) σ → e d ((ρ.set a (some (.int p.1))).set b (some (.int p.2))) σ K)
  (q : Q ((l.zip r).map fun p => g p.1 p.2) σ) : compL d (tupA 2 (consA (nmA a) (consA (nmA b) nilA))) (yesM true) e Q (zipV (iL l) (iL r)) [] ρ σ := by
 let F : V → Env' := fun x => match x with
  | .tup [.int y, .int z] => (ρ.set a (some (.int y))).set b (some (.int z))
  | _ => ρ
 let G : V → V := fun x => match x with
  | .tup [.int y, .int z] => g y z
  | _ => x
 have mem : ∀ x ∈ zipV (iL l) (iL r), ∃ p ∈ l.zip r, x = .tup [.int p.1, .int p.2] := fun x hx => by
  rw [zip_row] at hx
  simp only [rowV, List.mem_map] at hx
  obtain ⟨p, hp, rfl⟩ := hx
  exact ⟨p, hp, rfl⟩
 refine comp_gen F G (fun _ => true) _ [] ρ (fun x hx K hK => ?_) (fun y hy x hx K hK => ?_) (fun x hx K hK => hK) (fun x hx _ K hK => ?_) ?_
 ·obtain ⟨p, hp, rfl⟩ := mem x hx
  exact i_tupA rfl (i_consA (i_nm (i_consA (i_nm (i_nilA hK)))))
 ·obtain ⟨p, hp, rfl⟩ := mem x hx
  obtain ⟨p', hp', rfl⟩ := mem y hy
  refine i_tupA rfl (i_consA (i_nm (i_consA (i_nm (i_nilA ?_)))))
  have e1 : ((((ρ.set a (some (.int p'.1))).set b (some (.int p'.2))).set a (some (.int p.1))).set b (some (.int p.2)) : Env') = (ρ.set a (some (.int p.1))).set b (some (.int p.2)) := by
   rw [List.set_comm (some (V.int p'.2)) (some (V.int p.1)) (Ne.symm hab), List.set_set, List.set_set]
  show K ((((ρ.set a (some (.int p'.1))).set b (some (.int p'.2))).set a (some (.int p.1))).set b (some (.int p.2))) σ
  rw [e1]; exact hK
 ·obtain ⟨p, hp, rfl⟩ := mem x hx
  exact he p hp K hK
 ·rw [List.filter_eq_self.mpr (fun _ _ => rfl), List.nil_append, zip_row]
  have e1 : (rowV (l.zip r)).map G = (l.zip r).map fun p => g p.1 p.2 := by
   simp only [rowV, List.map_map]; rfl
  rw [e1]; exact q
variable {w : World} {h0 : Heap} {mg mb : Str → Option Value} {top : AObj} {nm : V} {wd : Nat} {ts : List T} {d : Nat} {Q : V → St → Prop} {i j : Int} {e f : T} {σ : St} {t : Tm} {v : Nat} {cs : List Int} {n : Nat}
theorem k_valuesNum (ok : (cx w h0 mg mb).Ok) (h1 : ts.length ≤ 1000) (hw4 : wd ≤ 4) (hx : At ts 3 ⟨"app", [], 3, 0⟩) (h : At ts i ⟨"bvnum", [], 3, v⟩) (hQ : Q (.fl (iL (vals wd (.num v)))) (Z top nm wd ts)) :
  CallT (cx w h0 mg mb) (.ref 1100) (d + 4) [.inst 741 1, .int 3, .int i, .int wd] (Z top nm wd ts) Q := by
 refine (codeT_fn (k := 5) ok (f__law_values ok) (s__law_values ok) rfl ?_).call
 delta m__law_values
 have hp4 : 2 ^ wd ≤ 2 ^ 4 := Nat.pow_le_pow_right (by decide) hw4
 have hp2 : ((2 : Int) ^ (wd : Int).toNat) = ((2 ^ wd : Nat) : Int) := by simp
 have hi : (i == 3) = false := by
  simp only [beq_eq_false_iff_ne]; rintro rfl
  have := congrArg T.op (At.eq hx h)
  dsimp only at this
  exact absurd this (by decide +kernel)
 repeat tm_at "g"
 refine o_pow (by lia) (by lia) (by decide) ?_
 rw [hp2]
 repeat tm_at "g"
 refine z_op ok h1 h ?_
 repeat tm_at "g"
 refine z_args ok h1 h ?_
 repeat tm_at "g"
 refine i_F hi ?_
 repeat tm_at "g"
 refine z_data ok h1 h ?_
 repeat tm_at "g"
 refine o_rep (Int.natCast_nonneg _) (Int.ofNat_le.mpr (show 2 ^ wd ≤ 1000 by lia)) (Nat.le_of_ble_eq_true rfl) ?_
 repeat tm_at "g"
 have e : (List.replicate (((2 ^ wd : Nat) : Int)).toNat [V.int (v : Int)]).flatten = iL (vals wd (.num v)) := by
  rw [Int.toNat_natCast]
  have : ∀ n : Nat, (List.replicate n [V.int (v : Int)]).flatten = iL ((List.range n).map fun _ => (v : Int)) := by
   intro n
   induction n with
   | zero => rfl
   | succ n ih => rw [List.replicate_succ', List.flatten_concat, ih, List.range_succ]; simp [iL]
  rw [this]; rfl
 rw [e]; exact hQ
theorem k_values (ok : (cx w h0 mg mb).Ok) (h1 : ts.length ≤ 1000) (hw : 1 ≤ wd) (hw4 : wd ≤ 4) (hx : At ts 3 ⟨"app", [], 3, 0⟩) (h : Is wd ts i t) : ∀ {d : Nat} {Q : V → St → Prop}, Q (.fl (iL (vals wd t))) (Z top nm wd ts) →
  CallT (cx w h0 mg mb) (.ref 1100) (d + t.ht + 4) [.inst 741 1, .int 3, .int i, .int wd] (Z top nm wd ts) Q := by
 have hp4 : 2 ^ wd ≤ 2 ^ 4 := Nat.pow_le_pow_right (by decide) hw4
 have hp0 : 0 < 2 ^ wd := Nat.pow_pos (by decide)
 have hp2 : ((2 : Int) ^ (wd : Int).toNat) = ((2 ^ wd : Nat) : Int) := by simp
 have ne3 : ∀ {i : Int} {e : T}, At ts i e → (e.op == ("app" : Str)) = false → (i == 3) = false := fun {i e} h he => by
  simp only [beq_eq_false_iff_ne]; rintro rfl
  have := congrArg T.op (At.eq hx h)
  dsimp only at this
  rw [← this] at he
  exact absurd he (by decide +kernel)
 induction h with
 | var a =>
  intro d Q hQ
  refine (codeT_fn (k := 5) ok (f__law_values ok) (s__law_values ok) rfl ?_).call
  delta m__law_values
  repeat tm_at "g"
  refine o_pow (by lia) (by lia) (by decide) ?_
  rw [hp2]
  repeat tm_at "g"
  refine z_op ok h1 a ?_
  repeat tm_at "g"
  refine z_args ok h1 a ?_
  repeat tm_at "g"
  refine callT_range1 ?_
  repeat tm_at "g"
  refine k_listrng (by lia) ?_
  repeat tm_at "g"
  have e : rngL (2 ^ wd) = iL (vals wd .var) := by simp [rngL, iL, vals, valN]
  rw [e]; exact hQ
 | num hv a => intro d Q hQ; exact k_valuesNum ok h1 hw4 hx a hQ
 | @bnot i j t hj a ih =>
  intro d Q hQ
  refine (codeT_fn (k := 5) ok (f__law_values ok) (s__law_values ok) rfl (d := d + t.ht + 4) ?_).call
  delta m__law_values
  repeat tm_at "g"
  refine o_pow (by lia) (by lia) (by decide) ?_
  rw [hp2]
  repeat tm_at "g"
  refine z_op ok h1 a ?_
  repeat tm_at "g"
  refine z_args ok h1 a ?_
  repeat tm_at "g"
  refine i_F (ne3 a (by kernel_rfl)) ?_
  repeat tm_at "g"
  refine s_tup (by decide) (by decide) rfl ?_
  repeat tm_at "g"
  refine ih ?_
  repeat tm_at "g"
  refine i_comp rfl ?_
  refine i_iters ?_
  repeat tm_at "g"
  refine it_fl ?_
  refine ⟨by rw [vals_len]; lia, ?_⟩
  refine comp_nm (iv fun y => (2 ^ wd : Nat) - 1 - y) (fun x hx K hK => ?_) ?_
  ·simp only [iL, List.mem_map] at hx
   obtain ⟨y, _, rfl⟩ := hx
   repeat tm_at "g"
   exact hK
  ·repeat tm_at "g"
   have e : (iL (vals wd t)).map (iv fun y => (2 ^ wd : Nat) - 1 - y) = iL (vals wd (.bnot t)) := by
    simp only [iL, vals, List.map_map]
    refine List.map_congr_left fun x hx => ?_
    have := valN_lt hj (List.mem_range.mp hx)
    show V.int (((2 ^ wd : Nat) : Int) - 1 - (valN wd t x : Nat)) = V.int ((2 ^ wd - 1 - valN wd t x : Nat) : Int)
    congr 1; lia
   rw [e]; exact hQ
 | @neg i j t hj a ih =>
  intro d Q hQ
  refine (codeT_fn (k := 5) ok (f__law_values ok) (s__law_values ok) rfl (d := d + t.ht + 4) ?_).call
  delta m__law_values
  repeat tm_at "g"
  refine o_pow (by lia) (by lia) (by decide) ?_
  rw [hp2]
  repeat tm_at "g"
  refine z_op ok h1 a ?_
  repeat tm_at "g"
  refine z_args ok h1 a ?_
  repeat tm_at "g"
  refine i_F (ne3 a (by kernel_rfl)) ?_
  repeat tm_at "g"
  refine s_tup (by decide) (by decide) rfl ?_
  repeat tm_at "g"
  refine ih ?_
  repeat tm_at "g"
  refine i_comp rfl ?_
  refine i_iters ?_
  repeat tm_at "g"
  refine it_fl ?_
  refine ⟨by rw [vals_len]; lia, ?_⟩
  refine comp_nm (iv fun y => (((2 ^ wd : Nat) : Int) - y).fmod ((2 ^ wd : Nat) : Int)) (fun x hx K hK => ?_) ?_
  ·simp only [iL, List.mem_map] at hx
   obtain ⟨y, _, rfl⟩ := hx
   repeat tm_at "g"
   refine o_mod (by lia) ?_
   repeat tm_at "g"
   exact hK
  ·repeat tm_at "g"
   have e : (iL (vals wd t)).map (iv fun y => (((2 ^ wd : Nat) : Int) - y).fmod ((2 ^ wd : Nat) : Int)) = iL (vals wd (.neg t)) := by
    simp only [iL, vals, List.map_map]
    refine List.map_congr_left fun x hx => ?_
    have := valN_lt hj (List.mem_range.mp hx)
    show V.int ((((2 ^ wd : Nat) : Int) - (valN wd t x : Nat)).fmod ((2 ^ wd : Nat) : Int)) = V.int (((2 ^ wd - valN wd t x) % 2 ^ wd : Nat) : Int)
    have e1 : (((2 ^ wd : Nat) : Int) - (valN wd t x : Nat)) = ((2 ^ wd - valN wd t x : Nat) : Int) := by lia
    rw [e1, Int.fmod_eq_emod_of_nonneg _ (by lia)]; rfl
   rw [e]; exact hQ
 | @shl i j k t p hj hp hk a ih =>
  intro d Q hQ
  refine (codeT_fn (k := 5) ok (f__law_values ok) (s__law_values ok) rfl (d := d + t.ht + 4) ?_).call
  delta m__law_values
  repeat tm_at "g"
  refine o_pow (by lia) (by lia) (by decide) ?_
  rw [hp2]
  repeat tm_at "g"
  refine z_op ok h1 a ?_
  repeat tm_at "g"
  refine z_args ok h1 a ?_
  repeat tm_at "g"
  refine i_F (ne3 a (by kernel_rfl)) ?_
  repeat tm_at "g"
  refine s_tup (by decide) (by decide) rfl ?_
  repeat tm_at "g"
  refine ih ?_
  repeat tm_at "g"
  refine s_tup (by decide) (by decide) rfl ?_
  repeat tm_at "g"
  refine k_valuesNum ok h1 hw4 hx hk ?_
  repeat tm_at "g"
  refine i_comp rfl ?_
  refine i_zipM ?_
  repeat tm_at "g"
  refine i_zipC ?_
  refine ⟨by simp [zipV, vals_len]; lia, ?_⟩
  refine comp_pair (by decide) (fun y z => .int ((y * 2 ^ z.toNat).fmod ((2 ^ wd : Nat) : Int))) (fun q hq K hK => ?_) ?_
  ·have hz : q.2 = p := by
    have := (List.of_mem_zip hq).2
    simp only [vals, List.mem_map] at this
    obtain ⟨x, _, e⟩ := this
    exact e.symm
   have hq1 : 0 ≤ q.1 ∧ q.1 < (2 ^ wd : Nat) := by
    have := (List.of_mem_zip hq).1
    simp only [vals, List.mem_map] at this
    obtain ⟨x, hx, e⟩ := this
    have := valN_lt hj (List.mem_range.mp hx)
    lia
   have hp16 : p < 16 := by lia
   repeat tm_at "g"
   refine o_pow (by lia) (by lia) (by decide) ?_
   refine o_mul (.inl (by lia)) ?_
   repeat tm_at "g"
   refine o_mod (by lia) ?_
   repeat tm_at "g"
   exact hK
  ·repeat tm_at "g"
   have e : ((vals wd t).zip (vals wd (.num p))).map (fun q => V.int ((q.1 * 2 ^ q.2.toNat).fmod ((2 ^ wd : Nat) : Int))) = iL (vals wd (.shl t p)) := by
    simp only [vals, List.zip_map', iL, List.map_map]
    refine List.map_congr_left fun x hx => ?_
    show V.int (((valN wd t x : Nat) * 2 ^ ((p : Nat) : Int).toNat : Int).fmod ((2 ^ wd : Nat) : Int)) = V.int ((valN wd t x * 2 ^ p % 2 ^ wd : Nat) : Int)
    rw [Int.toNat_natCast, Int.fmod_eq_emod_of_nonneg _ (by lia)]
    congr 1
   rw [e]; exact hQ
 | @bin i j k t v o hj hv hk a ih =>
  intro d Q hQ
  refine (codeT_fn (k := 5) ok (f__law_values ok) (s__law_values ok) rfl (d := d + t.ht + 4) ?_).call
  delta m__law_values
  obtain ⟨o1, o2, o3, o4⟩ := op_no o
  have o5 : (o.str == ("app" : Str)) = false := by cases o <;> decide +kernel
  have o6 : (o.str == ("bvshl" : Str)) = false := by cases o <;> decide +kernel
  repeat tm_at "g"
  refine o_pow (by lia) (by lia) (by decide) ?_
  rw [hp2]
  repeat tm_at "g"
  refine z_op ok h1 a ?_
  repeat tm_at "g"
  refine z_args ok h1 a ?_
  repeat tm_at "g"
  refine i_F (ne3 a o5) ?_
  repeat tm_at "g"
  refine i_F o1 ?_
  repeat tm_at "g"
  refine s_tup (by decide) (by decide) rfl ?_
  repeat tm_at "g"
  refine k_valuesNum ok h1 hw4 hx hk ?_
  repeat tm_at "g"
  refine i_F o2 ?_
  repeat tm_at "g"
  refine i_F o3 ?_
  repeat tm_at "g"
  refine s_tup (by decide) (by decide) rfl ?_
  repeat tm_at "g"
  refine ih ?_
  repeat tm_at "g"
  refine i_F o6 ?_
  repeat tm_at "g"
  refine i_comp rfl ?_
  refine i_zipM ?_
  repeat tm_at "g"
  refine i_zipC ?_
  refine ⟨by simp [zipV, vals_len]; lia, ?_⟩
  refine comp_pair (by decide) (fun y z => .int (f5 o wd y.toNat z.toNat : Nat)) (fun q hq K hK => ?_) ?_
  ·have hy : q.1 = v := by
    have := (List.of_mem_zip hq).1
    simp only [vals, List.mem_map] at this
    obtain ⟨x, _, e⟩ := this
    exact e.symm
   obtain ⟨z, hz, hq2⟩ : ∃ z : Nat, z < 2 ^ wd ∧ q.2 = z := by
    have := (List.of_mem_zip hq).2
    simp only [vals, List.mem_map] at this
    obtain ⟨x, hx, e⟩ := this
    exact ⟨_, valN_lt hj (List.mem_range.mp hx), e.symm⟩
   rw [hy, hq2] at hK ⊢
   repeat tm_at "g"
   refine k_wheel ok hw hw4 hv o ?_
   repeat tm_at "g"
   refine s_fl (by lia) (by lia) (v := .int (f5 o wd v z : Nat)) ?_ ?_
   ·rw [Int.toNat_natCast]; exact wheelL_get hz
   exact hK
  ·repeat tm_at "g"
   have e : ((vals wd (.num v)).zip (vals wd t)).map (fun q => V.int (f5 o wd q.1.toNat q.2.toNat : Nat)) = iL (vals wd (.bin o v t)) := by
    simp only [vals, List.zip_map', iL, List.map_map]
    refine List.map_congr_left fun x hx => ?_
    rfl
   rw [e]; exact hQ
end
section
set_option maxHeartbeats 1000000
theorem allW1 {P : Nat → Nat → Bool} (h : ((List.range 4).all fun wd => (List.range (2 ^ (wd + 1))).all fun v => P (wd + 1) v) = true) {wd v : Nat} (hw1 : 1 ≤ wd) (hw : wd ≤ 4) (hv : v < 2 ^ wd) : P wd v = true := by
 obtain ⟨k, rfl⟩ : ∃ k, wd = k + 1 := ⟨wd - 1, by lia⟩
 exact List.all_eq_true.mp (List.all_eq_true.mp h k (List.mem_range.mpr (by lia))) v (List.mem_range.mpr hv)
noncomputable def onesN (wd v : Nat) : Nat := ((List.range wd).map fun k => v / 2 ^ k % 2).sum
noncomputable def manyN (wd : Nat) (o : Op5) (v : Nat) : Nat := match o with
 | .and => 2 ^ onesN wd v
 | .or => 2 ^ (wd - onesN wd v)
 | .mul => 2 ^ wd / Nat.gcd (2 ^ wd) v
 | _ => 2 ^ wd
theorem onesOk {wd v : Nat} (hw : wd ≤ 4) (hv : v < 2 ^ wd) : (placesL wd v).sum = (onesN wd v : Int) ∧ onesN wd v ≤ wd := by
 have := allW (P := fun wd v => decide ((placesL wd v).sum = (onesN wd v : Int) ∧ onesN wd v ≤ wd)) (by decide +kernel) hw hv
 exact of_decide_eq_true this
noncomputable def isNum : Tm → Bool
 | .num _ => true
 | _ => false
noncomputable def isVar : Tm → Bool
 | .var => true
 | _ => false
noncomputable def toldOk (wd : Nat) (o : Op5) (v : Nat) : Bool :=
 let t := mix wd o v .var
 let told := vals wd t
 let kinds := sortSet told
 decide (told = wheelL wd o v) && decide (kinds.length = manyN wd o v) && (kinds.all fun y => decide (told.countP (· == y) * kinds.length = 2 ^ wd)) && (isVar t == decide (told = (List.range (2 ^ wd)).map fun (i : Nat) => (i : Int))) && (isNum t == decide (kinds.length = 1))
theorem toldAll {wd v : Nat} (hw1 : 1 ≤ wd) (hw : wd ≤ 4) (hv : v < 2 ^ wd) (o : Op5) : toldOk wd o v = true := by
 have := allW1 (P := fun wd v => [Op5.and, .or, .xor, .add, .mul].all fun o => toldOk wd o v) (by decide +kernel) hw1 hw hv
 exact List.all_eq_true.mp this o (by cases o <;> simp)
theorem Is.told {wd : Nat} {ts : List T} {i : Int} {t : Tm} (hx : At ts 3 ⟨"app", [], 3, 0⟩) (h : Is wd ts i t) : ∃ e, At ts i e ∧ e.sort = 3 ∧ (e.op == ("bvnum" : Str)) = isNum t ∧ (i == 3) = isVar t := by
 have ne3 : ∀ {i : Int} {e : T}, At ts i e → (e.op == ("app" : Str)) = false → (i == 3) = false := fun {i e} h he => by
  simp only [beq_eq_false_iff_ne]; rintro rfl
  have := congrArg T.op (At.eq hx h)
  dsimp only at this
  rw [← this] at he
  exact absurd he (by decide +kernel)
 cases h with
 | var a => exact ⟨_, a, rfl, by decide +kernel, by decide +kernel⟩
 | num _ a => exact ⟨_, a, rfl, by kernel_rfl, ne3 a (by kernel_rfl)⟩
 | bnot _ a => exact ⟨_, a, rfl, by kernel_rfl, ne3 a (by kernel_rfl)⟩
 | neg _ a => exact ⟨_, a, rfl, by kernel_rfl, ne3 a (by kernel_rfl)⟩
 | shl _ _ _ a => exact ⟨_, a, rfl, by kernel_rfl, ne3 a (by kernel_rfl)⟩
 | @bin _ _ _ _ _ o _ _ _ a => exact ⟨_, a, rfl, (op_no o).1, ne3 a (show (o.str == ("app" : Str)) = false by cases o <;> decide +kernel)⟩
theorem eqv_count (l : List Int) (y : Int) : ((l.map PyData.int).countP (PyData.eqv · (.int y))) = l.countP (· == y) := by
 rw [List.countP_map]; rfl
theorem k_count {c : Ctx} {d : Nat} {σ : St} {l : List Int} {y : Int} {Q : V → St → Prop} (h : Q (.int (l.countP (· == y) : Nat)) σ) : CallT c (.builtin "list.count") d [.fl (iL l), .int y] σ Q :=
 callT_count (dy := .int y) rfl ⟨l.map PyData.int, pys_ints l, shaped_ints (xs := y :: l), by rw [eqv_count]; exact h⟩
variable {w : World} {h0 : Heap} {mg mb : Str → Option Value} {top : AObj} {nm : V} {wd : Nat} {ts : List T} {d : Nat} {Q : V → St → Prop} {i j : Int} {e f : T} {σ : St} {t : Tm} {v : Nat} {cs : List Int} {n : Nat}
theorem k_many (ok : (cx w h0 mg mb).Ok) (hw : 1 ≤ wd) (hw4 : wd ≤ 4) (hv : v < 2 ^ wd) (o : Op5) (hQ : Q (.int (manyN wd o v : Nat)) σ) : CallT (cx w h0 mg mb) (.ref 1114) (d + 2) [.str o.str, .int v, .int wd] σ Q := by
 refine (codeT_fnC (k := 1) ok (f__law_many ok) (s__law_many ok) rfl ?_).call
 delta m__law_many
 have hp4 : 2 ^ wd ≤ 2 ^ 4 := Nat.pow_le_pow_right (by decide) hw4
 have hp0 : 0 < 2 ^ wd := Nat.pow_pos (by decide)
 have hp2 : ((2 : Int) ^ (wd : Int).toNat) = ((2 ^ wd : Nat) : Int) := by simp
 obtain ⟨ho1, ho2⟩ := onesOk hw4 hv
 have hq1 : ((2 : Int) ^ ((onesN wd v : Nat) : Int).toNat) = ((2 ^ onesN wd v : Nat) : Int) := by simp
 have hs : ((wd : Int) - (onesN wd v : Nat)) = ((wd - onesN wd v : Nat) : Int) := by lia
 have hq2 : ((2 : Int) ^ ((wd - onesN wd v : Nat) : Int).toNat) = ((2 ^ (wd - onesN wd v) : Nat) : Int) := by rw [Int.toNat_natCast]; norm_cast
 have keys : pairsP true [(.str "bvand", .int (2 ^ onesN wd v : Nat)), (.str "bvor", .int (2 ^ (wd - onesN wd v) : Nat))] := pairs_str (ks := ["bvand", "bvor"]) (vs := [.int (2 ^ onesN wd v : Nat), .int (2 ^ (wd - onesN wd v) : Nat)]) (by decide +kernel)
 have mk : ∀ {x : Str}, PyData.canLay0 (.str x) = true → keyP (dsets [] [(V.str "bvand", V.int (2 ^ onesN wd v : Nat)), (.str "bvor", .int (2 ^ (wd - onesN wd v) : Nat))]) (.str x) := fun hx => ⟨hx, Nat.le_of_ble_eq_true rfl, by kernel_rfl, Nat.le_of_ble_eq_true (by kernel_rfl)⟩
 cases o
 case mul =>
  repeat tm_at "g"
  refine k_places ok hw4 ?_
  repeat tm_at "g"
  refine callT_sum (ints_of _) ?_
  rw [ho1]
  repeat tm_at "g"
  refine o_pow (by lia) (by lia) (by decide) ?_
  rw [hp2]
  repeat tm_at "g"
  refine o_pow (by lia) (by lia) (by decide) ?_
  rw [hp2]
  repeat tm_at "g"
  refine k_divisor ok ?_
  have hg : 0 < Nat.gcd (2 ^ wd) v := Nat.gcd_pos_of_pos_left _ hp0
  have hg2 : Nat.gcd (2 ^ wd) v ≤ 2 ^ wd := Nat.le_of_dvd hp0 (Nat.gcd_dvd_left _ _)
  refine o_fdiv (by lia) (by lia) ?_
  repeat tm_at "g"
  refine cut0 rfl ?_
  have e : (((2 ^ wd : Nat) : Int).fdiv ((Nat.gcd (2 ^ wd) v : Nat) : Int)) = ((2 ^ wd / Nat.gcd (2 ^ wd) v : Nat) : Int) := by
   rw [Int.fdiv_eq_ediv_of_nonneg _ (by lia)]; rfl
  rw [e]; exact hQ
 all_goals
  repeat tm_at "g"
  refine k_places ok hw4 ?_
  repeat tm_at "g"
  refine callT_sum (ints_of _) ?_
  rw [ho1]
  repeat tm_at "g"
  refine i_dictP ?_
  refine i_consP ?_
  repeat tm_at "g"
  refine o_pow (by lia) (by lia) (by decide) ?_
  rw [hq1]
  refine i_consP ?_
  repeat tm_at "g"
  rw [hs]
  refine o_pow (by lia) (by lia) (by decide) ?_
  rw [hq2]
  refine i_nilP ?_
  refine i_dictPC keys ?_
  refine i_bmethC (by simp [tyP]) ?_
  repeat tm_at "g"
  refine o_pow (by lia) (by lia) (by decide) ?_
  rw [hp2]
  repeat tm_at "g"
  refine callT_get ok get_last (mk (by decide +kernel)) (fun y hy => ?_) (fun hy => ?_)
 ·repeat tm_at "g"
  have e : y = .int (manyN wd .and v : Nat) := by
   have : some y = some (V.int (manyN wd .and v : Nat)) := hy.symm.trans (by kernel_rfl)
   exact Option.some.inj this
  rw [e]
  exact cutP.same' (junk := [_]) rfl hQ
 ·exact absurd (hy.symm.trans (show _ = some (V.int (manyN wd .and v : Nat)) by kernel_rfl)) (by simp)
 ·repeat tm_at "g"
  have e : y = .int (manyN wd .or v : Nat) := by
   have : some y = some (V.int (manyN wd .or v : Nat)) := hy.symm.trans (by kernel_rfl)
   exact Option.some.inj this
  rw [e]
  exact cutP.same' (junk := [_]) rfl hQ
 ·exact absurd (hy.symm.trans (show _ = some (V.int (manyN wd .or v : Nat)) by kernel_rfl)) (by simp)
 ·exact absurd (hy.symm.trans (show _ = none by kernel_rfl)) (by simp)
 ·repeat tm_at "g"
  exact cutP.same' (junk := [_]) rfl hQ
 ·exact absurd (hy.symm.trans (show _ = none by kernel_rfl)) (by simp)
 ·repeat tm_at "g"
  exact cutP.same' (junk := [_]) rfl hQ
theorem k_plain (ok : (cx w h0 mg mb).Ok) (h1 : ts.length ≤ 1000) (hw : 1 ≤ wd) (hw4 : wd ≤ 4) (hv : v < 2 ^ wd) (o : Op5) (hx : At ts 3 ⟨"app", [], 3, 0⟩) (h : Is wd ts i (mix wd o v .var)) (hQ : Q (.bool true) (Z top nm wd ts)) :
  CallT (cx w h0 mg mb) (.ref 1119) (d + (mix wd o v .var).ht + 5) [.inst 741 1, .int 3, .int wd, .int i, .str o.str, .int v] (Z top nm wd ts) Q := by
 refine (codeT_fn (k := 3) ok (f__law_is_plain_right ok) (s__law_is_plain_right ok) rfl (d := d + (mix wd o v .var).ht + 4) ?_).call
 delta m__law_is_plain_right
 have hp4 : 2 ^ wd ≤ 2 ^ 4 := Nat.pow_le_pow_right (by decide) hw4
 have hp0 : 0 < 2 ^ wd := Nat.pow_pos (by decide)
 have hp2 : ((2 : Int) ^ (wd : Int).toNat) = ((2 ^ wd : Nat) : Int) := by simp
 have htold := toldAll hw hw4 hv o
 simp only [toldOk, Bool.and_eq_true, decide_eq_true_eq, beq_iff_eq] at htold
 obtain ⟨⟨⟨⟨A1, A2⟩, A3⟩, A4⟩, A5⟩ := htold
 generalize hk : sortSet (vals wd (mix wd o v .var)) = kinds at A2 A3 A5
 have A3' : ∀ y ∈ kinds, (vals wd (mix wd o v .var)).countP (· == y) * kinds.length = 2 ^ wd := fun y hy => of_decide_eq_true (List.all_eq_true.mp A3 y hy)
 obtain ⟨e, a, hs, hnum, hvar⟩ := h.told hx
 have hlen : (vals wd (mix wd o v .var)).length = 2 ^ wd := by simp [vals]
 have hkl : kinds.length ≤ 1000 := by
  rw [A2]
  obtain ⟨b1, b2⟩ := onesOk hw4 hv
  have e1 : 2 ^ onesN wd v ≤ 2 ^ wd := Nat.pow_le_pow_right (by decide) b2
  have e2 : 2 ^ (wd - onesN wd v) ≤ 2 ^ wd := Nat.pow_le_pow_right (by decide) (by lia)
  have e3 : 2 ^ wd / Nat.gcd (2 ^ wd) v ≤ 2 ^ wd := Nat.div_le_self _ _
  cases o <;> simp only [manyN] <;> lia
 repeat tm_at "g"
 refine k_values ok h1 hw hw4 hx h ?_
 repeat tm_at "g"
 refine o_pow (by lia) (by lia) (by decide) ?_
 rw [hp2]
 repeat tm_at "g"
 refine k_wheel ok hw hw4 hv o ?_
 repeat tm_at "g"
 refine q_neL (xs := vals wd (mix wd o v .var)) (ys := wheelL wd o v) ?_
 repeat tm_at "g"
 refine i_F (by rw [A1]; simp) ?_
 repeat tm_at "g"
 refine z_width ok h1 a hs ?_
 repeat tm_at "g"
 refine i_F (by simp) ?_
 repeat tm_at "g"
 refine i_sort ?_
 repeat tm_at "g"
 refine i_sortC (by rw [hlen]; lia) ?_
 rw [hk]
 repeat tm_at "g"
 refine k_lenF (by simp; lia) ?_
 repeat tm_at "g"
 refine k_many ok hw hw4 hv o ?_
 repeat tm_at "g"
 refine i_F (by rw [List.length_map, A2]; simp) ?_
 repeat tm_at "g"
 refine i_comp rfl ?_
 refine i_iters ?_
 repeat tm_at "g"
 refine it_fl ?_
 refine ⟨by simp; lia, ?_⟩
 refine comp_gen (fun x => (List.set _ 9 (some x))) (fun x => x) (fun _ => false) _ [] _ (fun x _ K hK => hK) (fun y _ x _ K hK => ?_) (fun x hx' K hK => ?_) (fun x _ hf => by cases hf) ?_
 ·show K _ _
  rw [List.set_set]; exact hK
 ·simp only [List.mem_map] at hx'
  obtain ⟨y, hy, rfl⟩ := hx'
  repeat tm_at "g"
  refine k_count ?_
  repeat tm_at "g"
  refine k_lenF (by simp; lia) ?_
  have hc : (vals wd (mix wd o v .var)).countP (· == y) ≤ 2 ^ wd := by rw [← hlen]; exact List.countP_le_length
  refine o_mul (.inl (by lia)) ?_
  repeat tm_at "g"
  have e1 : ((((vals wd (mix wd o v .var)).countP (· == y) : Nat) : Int) * ((kinds.map V.int).length : Int)) = ((2 ^ wd : Nat) : Int) := by
   rw [List.length_map, ← A3' y hy]; push_cast; rfl
  rw [e1]
  have e2 : ((((2 ^ wd : Nat) : Int)) != ((2 ^ wd : Nat) : Int)) = false := by simp
  rw [e2]; exact hK
 rw [List.filter_eq_nil_iff.mpr (fun x _ => by simp)]
 repeat tm_at "g"
 refine q_neL (xs := []) (ys := []) ?_
 repeat tm_at "g"
 refine callT_range1 ?_
 repeat tm_at "g"
 refine k_listrng (by lia) ?_
 rw [rngL_iL]
 repeat tm_at "g"
 refine q_eqL (xs := vals wd (mix wd o v .var)) (ys := (List.range (2 ^ wd)).map fun (i : Nat) => (i : Int)) ?_
 repeat tm_at "g"
 refine i_andT ?_ ?_
 ·rw [hvar, A4, beq_iff_eq, Bool.eq_iff_iff, decide_eq_true_iff, beq_iff_eq]
 repeat tm_at "g"
 refine z_op ok h1 a ?_
 repeat tm_at "g"
 refine k_lenF (by simp; lia) ?_
 repeat tm_at "g"
 have fin : (((e.op == ("bvnum" : Str)) == (((kinds.map V.int).length : Int) == 1)) : Bool) = true := by
  rw [hnum, A5, List.length_map]
  by_cases hk1 : kinds.length = 1
  ·simp [hk1]
  ·have : ((kinds.length : Int) == 1) = false := by simp; lia
   simp [hk1, this]
 rw [fin]
 repeat tm_at "g"
 exact hQ
end
section
set_option maxHeartbeats 1000000
theorem CallT.conv {c : Ctx} {f : Value} {d : Nat} {args : List V} {σ σ' : St} {Q : V → St → Prop} (e : σ = σ') (h : CallT c f d args σ' Q) : CallT c f d args σ Q := by rw [e]; exact h
theorem Qconv {Q : V → St → Prop} {v : V} {a b : St} (e : a = b) (h : Q v b) : Q v a := by rw [e]; exact h
theorem Fconv {R : Fl → Env' → St → Prop} {fl : Fl} {ρ : Env'} {σ σ' : St} (e : σ = σ') (h : R fl ρ σ') : R fl ρ σ := by rw [e]; exact h
theorem i_join {j : JM} {d : Nat} {ρ : Env'} {σ : St} {Q : V → St → Prop} (h : j Str.empty d ρ σ fun out σ => out.length ≤ 1000000 ∧ Q (.str out) σ) : joinM j d ρ σ Q := h
theorem i_consJ {a : ME V} {b : JM} {acc : Str} {d : Nat} {ρ : Env'} {σ : St} {Q : Str → St → Prop} (h : a d ρ σ fun x σ => strP x fun y => (acc ++ y).length ≤ 1000000 ∧ b (acc ++ y) d ρ σ Q) : consJ a b acc d ρ σ Q := h
theorem i_nilJ {acc : Str} {d : Nat} {ρ : Env'} {σ : St} {Q : Str → St → Prop} (h : Q acc σ) : nilJ acc d ρ σ Q := h
theorem i_strP {y : Str} {k : Str → Prop} (h : k y) : strP (.str y) k := h
theorem i_fmtI {i : Int} {k : Str → Prop} (h0 : i.natAbs.log2 < 1920) (h : k (toString i)) : fmtP (.int i) k := ⟨h0, h⟩
noncomputable def tT : T := ⟨"true", [], 0, 0⟩
noncomputable def fT : T := ⟨"false", [], 0, 0⟩
noncomputable def xT : T := ⟨"app", [], 3, 0⟩
noncomputable def b0 : Bk := ⟨[.str "Bool", .str "Int", .str "Real"], [.int 0, .int 0, .int 0], [], [], [], [tT, fT]⟩
variable {w : World} {h0 : Heap} {mg mb : Str → Option Value} {top : AObj} {nm : V} {wd : Nat} {ts : List T} {d : Nat} {Q : V → St → Prop} {i j : Int} {e f : T} {σ : St} {t : Tm} {v : Nat} {cs : List Int} {n : Nat} {rest : St} {b : Bk} {more : List (Str × V)}
theorem c_bankinit (ok : (cx w h0 mg mb).Ok) (hQ : Q .none (σB top b0 [("true_number", .int 1), ("false_number", .int 2)] [])) : CodeT (cx w h0 mg mb) (.ref 222) (d + 2) [.inst 741 1] [some top, some (.ns [])] Q := by
 refine codeT_fn (k := 0) ok (f_Bank___init__ ok) (s_Bank___init__ ok) rfl ?_
 delta m_Bank___init__
 repeat tm_at "g"
 refine i_attrAC rfl rfl (Nat.le_of_ble_eq_true (by kernel_rfl)) ?_
 refine Fconv (σ' := some top :: some (.ns [("sort_names", .ref 2)]) :: [some (.list [.str "Bool", .str "Int", .str "Real"])]) (by kernel_rfl) ?_
 repeat tm_at "g"
 refine i_attrAC rfl rfl (Nat.le_of_ble_eq_true (by kernel_rfl)) ?_
 refine Fconv (σ' := some top :: some (.ns [("sort_names", .ref 2), ("sort_widths", .ref 3)]) :: [some (.list [.str "Bool", .str "Int", .str "Real"]), some (.list [.int 0, .int 0, .int 0])]) (by kernel_rfl) ?_
 repeat tm_at "g"
 refine i_attrAC rfl rfl (Nat.le_of_ble_eq_true (by kernel_rfl)) ?_
 refine Fconv (σ' := some top :: some (.ns [("sort_names", .ref 2), ("sort_widths", .ref 3), ("fun_names", .ref 4)]) :: [some (.list [.str "Bool", .str "Int", .str "Real"]), some (.list [.int 0, .int 0, .int 0]), some (.list [])]) (by kernel_rfl) ?_
 repeat tm_at "g"
 refine i_attrAC rfl rfl (Nat.le_of_ble_eq_true (by kernel_rfl)) ?_
 refine Fconv (σ' := some top :: some (.ns [("sort_names", .ref 2), ("sort_widths", .ref 3), ("fun_names", .ref 4), ("fun_args", .ref 5)]) :: [some (.list [.str "Bool", .str "Int", .str "Real"]), some (.list [.int 0, .int 0, .int 0]), some (.list []), some (.list [])]) (by kernel_rfl) ?_
 repeat tm_at "g"
 refine i_attrAC rfl rfl (Nat.le_of_ble_eq_true (by kernel_rfl)) ?_
 refine Fconv (σ' := some top :: some (.ns [("sort_names", .ref 2), ("sort_widths", .ref 3), ("fun_names", .ref 4), ("fun_args", .ref 5), ("fun_results", .ref 6)]) :: [some (.list [.str "Bool", .str "Int", .str "Real"]), some (.list [.int 0, .int 0, .int 0]), some (.list []), some (.list []), some (.list [])]) (by kernel_rfl) ?_
 repeat tm_at "g"
 refine i_attrAC rfl rfl (Nat.le_of_ble_eq_true (by kernel_rfl)) ?_
 refine Fconv (σ' := some top :: some (.ns [("sort_names", .ref 2), ("sort_widths", .ref 3), ("fun_names", .ref 4), ("fun_args", .ref 5), ("fun_results", .ref 6), ("fresh_count", .int 0)]) :: [some (.list [.str "Bool", .str "Int", .str "Real"]), some (.list [.int 0, .int 0, .int 0]), some (.list []), some (.list []), some (.list [])]) (by kernel_rfl) ?_
 repeat tm_at "g"
 refine i_attrAC rfl rfl (Nat.le_of_ble_eq_true (by kernel_rfl)) ?_
 refine Fconv (σ' := some top :: some (.ns [("sort_names", .ref 2), ("sort_widths", .ref 3), ("fun_names", .ref 4), ("fun_args", .ref 5), ("fun_results", .ref 6), ("fresh_count", .int 0), ("term_ops", .ref 7)]) :: [some (.list [.str "Bool", .str "Int", .str "Real"]), some (.list [.int 0, .int 0, .int 0]), some (.list []), some (.list []), some (.list []), some (.list [.str ""])]) (by kernel_rfl) ?_
 repeat tm_at "g"
 refine i_attrAC rfl rfl (Nat.le_of_ble_eq_true (by kernel_rfl)) ?_
 refine Fconv (σ' := some top :: some (.ns [("sort_names", .ref 2), ("sort_widths", .ref 3), ("fun_names", .ref 4), ("fun_args", .ref 5), ("fun_results", .ref 6), ("fresh_count", .int 0), ("term_ops", .ref 7), ("term_args", .ref 8)]) :: [some (.list [.str "Bool", .str "Int", .str "Real"]), some (.list [.int 0, .int 0, .int 0]), some (.list []), some (.list []), some (.list []), some (.list [.str ""]), some (.list [.tup []])]) (by kernel_rfl) ?_
 repeat tm_at "g"
 refine i_attrAC rfl rfl (Nat.le_of_ble_eq_true (by kernel_rfl)) ?_
 refine Fconv (σ' := some top :: some (.ns [("sort_names", .ref 2), ("sort_widths", .ref 3), ("fun_names", .ref 4), ("fun_args", .ref 5), ("fun_results", .ref 6), ("fresh_count", .int 0), ("term_ops", .ref 7), ("term_args", .ref 8), ("term_sorts", .ref 9)]) :: [some (.list [.str "Bool", .str "Int", .str "Real"]), some (.list [.int 0, .int 0, .int 0]), some (.list []), some (.list []), some (.list []), some (.list [.str ""]), some (.list [.tup []]), some (.list [.int 0])]) (by kernel_rfl) ?_
 repeat tm_at "g"
 refine i_attrAC rfl rfl (Nat.le_of_ble_eq_true (by kernel_rfl)) ?_
 refine Fconv (σ' := some top :: some (.ns [("sort_names", .ref 2), ("sort_widths", .ref 3), ("fun_names", .ref 4), ("fun_args", .ref 5), ("fun_results", .ref 6), ("fresh_count", .int 0), ("term_ops", .ref 7), ("term_args", .ref 8), ("term_sorts", .ref 9), ("term_datas", .ref 10)]) :: [some (.list [.str "Bool", .str "Int", .str "Real"]), some (.list [.int 0, .int 0, .int 0]), some (.list []), some (.list []), some (.list []), some (.list [.str ""]), some (.list [.tup []]), some (.list [.int 0]), some (.list [.int 0])]) (by kernel_rfl) ?_
 repeat tm_at "g"
 refine i_attrAC rfl rfl (Nat.le_of_ble_eq_true (by kernel_rfl)) ?_
 refine Fconv (σ' := some top :: some (.ns [("sort_names", .ref 2), ("sort_widths", .ref 3), ("fun_names", .ref 4), ("fun_args", .ref 5), ("fun_results", .ref 6), ("fresh_count", .int 0), ("term_ops", .ref 7), ("term_args", .ref 8), ("term_sorts", .ref 9), ("term_datas", .ref 10), ("numbers", .ref 11)]) :: [some (.list [.str "Bool", .str "Int", .str "Real"]), some (.list [.int 0, .int 0, .int 0]), some (.list []), some (.list []), some (.list []), some (.list [.str ""]), some (.list [.tup []]), some (.list [.int 0]), some (.list [.int 0]), some (.dict [])]) (by kernel_rfl) ?_
 repeat tm_at "g"
 refine CallT.conv (σ' := σB top ⟨[.str "Bool", .str "Int", .str "Real"], [.int 0, .int 0, .int 0], [], [], [], []⟩ [] []) (by kernel_rfl) ?_
 refine (c_make (t := tT) ok (by decide +kernel) (Nat.le_of_ble_eq_true rfl) ?_).call
 repeat tm_at "g3"
 refine CallT.conv (σ' := σB top ⟨[.str "Bool", .str "Int", .str "Real"], [.int 0, .int 0, .int 0], [], [], [], [tT]⟩ [("true_number", .int 1)] []) (by kernel_rfl) ?_
 refine (c_make (t := fT) ok (by decide +kernel) (Nat.le_of_ble_eq_true rfl) ?_).call
 repeat tm_at "g3"
 exact Qconv (Q := Q) (by kernel_rfl) hQ
theorem mk_TermBank {P : Params} : makesIn (KF P) 741 = true := by kernel_rfl
theorem fi_TermBank {P : Params} : findIn (KF P) (.ref 741) "__init__" = some (some (.ref 640)) := by kernel_rfl
theorem ti_TermBank {P : Params} : typeIn (KF P) (.ref 640) = some (.type "function") := by kernel_rfl
theorem mk_Bits {P : Params} : makesIn (KF P) 1061 = true := by kernel_rfl
theorem fi_Bits {P : Params} : findIn (KF P) (.ref 1061) "__init__" = some (some (.ref 758)) := by kernel_rfl
theorem ti_Bits {P : Params} : typeIn (KF P) (.ref 758) = some (.type "function") := by kernel_rfl
theorem i_super {c : Ctx} {ρ : Env'} {i0 : Nat} {T : Nat → Option Addr} {b : ME (List V)} {C i : Nat} {f : Addr} {kvs : List (Str × V)} (h1 : ρ[i0]? = some (some (.inst C i))) (h2 : T C = some f) (h3 : σ[i]? = some (some (.ns kvs))) (q : b d ρ σ fun xs σ => CodeT c (.ref f) d (.inst C i :: xs) σ Q) : superM c i0 T b d ρ σ Q := by
 unfold superM; rw [h1]; dsimp only; rw [h2, h3]; exact q
theorem c_termbank (ok : (cx w h0 mg mb).Ok) (hQ : Q (.inst 741 1) (σB top b0 M3 [some (.dict [])])) : CallT (cx w h0 mg mb) (.ref 741) (d + 4) [] [some top] Q := by
 refine callT_class ok mk_TermBank fi_TermBank ti_TermBank ?_
 refine codeT_fnAt (k := 0) (d := d + 2) ok (f_TermBank___init__ ok) (s_TermBank___init__ ok) rfl ?_
 delta m_TermBank___init__
 repeat tm_at "g3"
 refine i_super rfl (if_pos rfl) rfl ?_
 repeat tm_at "g3"
 refine c_bankinit ok ?_
 repeat tm_at "g3"
 exact Qconv (Q := Q) (by kernel_rfl) hQ
theorem c_bits (ok : (cx w h0 mg mb).Ok) {b : Bk} {bvn : List (V × V)} (hQ : Q (.inst 1061 13) (σB top b M3 [some (.dict bvn), some (.ns RN), some (.dict [])])) : CallT (cx w h0 mg mb) (.ref 1061) (d + 3) [.inst 741 1] (σB top b M3 [some (.dict bvn)]) Q := by
 refine callT_class ok mk_Bits fi_Bits ti_Bits ?_
 refine codeT_fn (k := 0) (d := d + 1) ok (f_BoolRewriter___init__ ok) (s_BoolRewriter___init__ ok) rfl ?_
 delta m_BoolRewriter___init__
 repeat tm_at "g3"
 refine (codeT_fn (k := 0) ok (f_Bank_true_term ok) (s_Bank_true_term ok) rfl ?_).call
 delta m_Bank_true_term
 repeat tm_at "g3"
 refine (codeT_fn (k := 0) ok (f_Bank_false_term ok) (s_Bank_false_term ok) rfl ?_).call
 delta m_Bank_false_term
 repeat tm_at "g3"
 exact Qconv (Q := Q) (by kernel_rfl) hQ
noncomputable def b1 (nm : V) (wd : Nat) : Bk := ⟨[.str "Bool", .str "Int", .str "Real", nm], [.int 0, .int 0, .int 0, .int wd], [], [], [], [tT, fT]⟩
noncomputable def b2 (nm : V) (wd : Nat) : Bk := ⟨[.str "Bool", .str "Int", .str "Real", nm], [.int 0, .int 0, .int 0, .int wd], [.str "x"], [.tup []], [.int 3], [tT, fT, xT]⟩
theorem c_bvsort (ok : (cx w h0 mg mb).Ok) (hw : 1 ≤ wd) (hw4 : wd ≤ 4) (hQ : ∀ nm, Q (.int 3) (σB top (b1 nm wd) M3 [some (.dict [(.int wd, .int 3)])])) : CallT (cx w h0 mg mb) (.ref 647) (d + 1) [.inst 741 1, .int wd] (σB top b0 M3 [some (.dict [])]) Q := by
 refine (codeT_fn (k := 0) ok (f_TermBank_bv_sort ok) (s_TermBank_bv_sort ok) rfl ?_).call
 delta m_TermBank_bv_sort
 have hf : wd.log2 < 1920 ∧ (Str.empty ++ ("(_ BitVec " : Str)).length ≤ 1000000 ∧ (Str.empty ++ ("(_ BitVec " : Str) ++ Str.ofString (toString (wd : Int))).length ≤ 1000000 ∧ (Str.empty ++ ("(_ BitVec " : Str) ++ Str.ofString (toString (wd : Int)) ++ (")" : Str)).length ≤ 1000000 := by
  have key : ((List.range 5).all fun wd => decide (wd.log2 < 1920 ∧ (Str.empty ++ ("(_ BitVec " : Str)).length ≤ 1000000 ∧ (Str.empty ++ ("(_ BitVec " : Str) ++ Str.ofString (toString (wd : Int))).length ≤ 1000000 ∧ (Str.empty ++ ("(_ BitVec " : Str) ++ Str.ofString (toString (wd : Int)) ++ (")" : Str)).length ≤ 1000000)) = true := by decide +kernel
  exact of_decide_eq_true (List.all_eq_true.mp key wd (List.mem_range.mpr (by lia)))
 obtain ⟨f1, f2, f3, f4⟩ := hf
 repeat tm_at "g"
 refine i_F (by simp; lia) ?_
 repeat tm_at "g"
 refine i_F (by simp; lia) ?_
 repeat tm_at "g"
 refine q_ninD rfl ⟨rfl, Nat.le_of_ble_eq_true rfl, rfl, Nat.le_of_ble_eq_true rfl⟩ ?_
 repeat tm_at "g"
 refine i_T rfl ?_
 repeat tm_at "g"
 refine i_join ?_
 refine i_consJ ?_
 repeat tm_at "g"
 refine i_strP ⟨f2, ?_⟩
 refine i_consJ ?_
 refine i_fmt ?_
 repeat tm_at "g"
 refine i_fmtI (by simpa using f1) ?_
 refine i_strP ⟨f3, ?_⟩
 refine i_consJ ?_
 repeat tm_at "g"
 refine i_strP ⟨f4, ?_⟩
 refine i_nilJ ?_
 refine ⟨f4, ?_⟩
 repeat tm_at "g"
 refine callT_append rfl (Nat.le_of_ble_eq_true rfl) ?_
 repeat tm_at "g"
 refine callT_append rfl (Nat.le_of_ble_eq_true rfl) ?_
 repeat tm_at "g"
 refine k_len rfl (Nat.le_of_ble_eq_true rfl) ?_
 repeat tm_at "g"
 refine i_setP rfl ⟨rfl, Nat.le_of_ble_eq_true rfl, rfl, Nat.le_of_ble_eq_true rfl⟩ ?_
 refine Fconv (σ' := σB top (b1 (.str (Str.empty ++ ("(_ BitVec " : Str) ++ Str.ofString (toString (wd : Int)) ++ (")" : Str))) wd) M3 [some (.dict [(.int wd, .int 3)])]) (by kernel_rfl) ?_
 repeat tm_at "g"
 refine s_dict rfl ⟨rfl, Nat.le_of_ble_eq_true rfl, rfl, Nat.le_of_ble_eq_true rfl⟩ (by simp [dget, V.beq]; rfl) ?_
 repeat tm_at "g"
 exact hQ _
theorem c_fresh (ok : (cx w h0 mg mb).Ok) {rest : St} (hQ : Q (.int 3) (σB top (b2 nm wd) M3 rest)) : CallT (cx w h0 mg mb) (.ref 278) (d + 2) [.inst 741 1, .str "x", .int 3] (σB top (b1 nm wd) M3 rest) Q := by
 refine (codeT_fn (k := 0) ok (f_Bank_fresh_const ok) (s_Bank_fresh_const ok) rfl ?_).call
 delta m_Bank_fresh_const
 repeat tm_at "g3"
 refine (codeT_fn (k := 0) ok (f_Bank_declare_fun ok) (s_Bank_declare_fun ok) rfl ?_).call
 delta m_Bank_declare_fun
 repeat tm_at "g3"
 refine callT_append rfl (Nat.le_of_ble_eq_true rfl) ?_
 repeat tm_at "g3"
 refine callT_tuple_tup ?_
 repeat tm_at "g3"
 refine callT_append rfl (Nat.le_of_ble_eq_true rfl) ?_
 repeat tm_at "g3"
 refine callT_append rfl (Nat.le_of_ble_eq_true rfl) ?_
 repeat tm_at "g3"
 refine k_len rfl (Nat.le_of_ble_eq_true rfl) ?_
 repeat tm_at "g3"
 refine CallT.conv (σ' := σB top { b2 nm wd with ts := [tT, fT] } M3 rest) (by kernel_rfl) ?_
 refine (c_make (t := xT) ok (by decide +kernel) (Nat.le_of_ble_eq_true rfl) ?_).call
 repeat tm_at "g3"
 exact Qconv (Q := Q) (by kernel_rfl) hQ
theorem k_spinB (ok : (cx w h0 mg mb).Ok) {many : Nat} (hm : 0 < many) (hn : n ≤ 1000) (hc : cs.length ≤ 1000) (hQ : ∀ r : Nat, r < many → Q (.int r) (σB (topD cs (n + 1)) b more rest)) : CallT (cx w h0 mg mb) (.ref 1071) (d + 1) [.ref 0, .int many] (σB (topD cs n) b more rest) Q := k_spin ok hm hn hc hQ
theorem k_spinZ (ok : (cx w h0 mg mb).Ok) {many : Nat} (hm : 0 < many) (hn : n ≤ 1000) (hc : cs.length ≤ 1000) (hQ : ∀ r : Nat, r < many → Q (.int r) (Z (topD cs (n + 1)) nm wd ts)) : CallT (cx w h0 mg mb) (.ref 1071) (d + 1) [.ref 0, .int many] (Z (topD cs n) nm wd ts) Q := k_spin ok hm hn hc hQ
theorem k_lnumberZ (ok : (cx w h0 mg mb).Ok) (hw : 1 ≤ wd) (hw4 : wd ≤ 4) (hn : n ≤ 900) (hc : cs.length ≤ 1000) (hQ : ∀ r : Nat, r < 2 ^ wd → Q (.int r) (Z (topD cs (n + 2)) nm wd ts)) : CallT (cx w h0 mg mb) (.ref 1078) (d + 2) [.ref 0, .int wd] (Z (topD cs n) nm wd ts) Q := k_lnumber ok hw hw4 hn hc hQ
end
section
set_option maxHeartbeats 2000000
theorem CallT.depth {c : Ctx} {f : Value} {d d' : Nat} {args : List V} {σ : St} {Q : V → St → Prop} (e : d = d') (h : CallT c f d' args σ Q) : CallT c f d args σ Q := by rw [e]; exact h
noncomputable def numOk (wd v y : Nat) : Bool :=
 (0 &&& y == 0) && (0 ||| y == y) && (0 ^^^ y == y) && ((y + 0) % 2 ^ wd == y) && ((y * 0) % 2 ^ wd == 0) && ((2 ^ wd - 1) &&& y == y) && ((2 ^ wd - 1) ||| y == 2 ^ wd - 1) && ((2 ^ wd - 1) ^^^ y == 2 ^ wd - 1 - y) && ((y * (2 ^ wd - 1)) % 2 ^ wd == (2 ^ wd - y) % 2 ^ wd) && ((y * 1) % 2 ^ wd == y) &&
  (!(decide (0 < powI v)) || ((y * 2 ^ (powI v).toNat) % 2 ^ wd == (y * v) % 2 ^ wd)) && ((Builtin.bitAnd (-(y : Int)) ((2 : Int) ^ wd - 1)).toNat % 2 ^ wd == (2 ^ wd - y) % 2 ^ wd) && ((2 ^ wd - (2 ^ wd - y) % 2 ^ wd) % 2 ^ wd == y)
theorem numAll {wd v y : Nat} (hw1 : 1 ≤ wd) (hw : wd ≤ 4) (hv : v < 2 ^ wd) (hy : y < 2 ^ wd) : numOk wd v y = true := by
 have := allW1 (P := fun wd v => (List.range (2 ^ wd)).all fun y => numOk wd v y) (by decide +kernel) hw1 hw hv
 exact List.all_eq_true.mp this y (List.mem_range.mpr hy)
theorem mixVal {wd : Nat} {ts : List T} {i : Int} {t : Tm} {v x : Nat} {o : Op5} (hw1 : 1 ≤ wd) (hw : wd ≤ 4) (h : Is wd ts i t) (hv : v < 2 ^ wd) (hx : x < 2 ^ wd) : valN wd (mix wd o v t) x = f5 o wd v (valN wd t x) := by
 have hy := valN_lt h hx
 have A := numAll hw1 hw hv hy
 have hp0 : 0 < 2 ^ wd := Nat.pow_pos (by decide)
 generalize hyy : valN wd t x = y at *
 simp only [numOk, Bool.and_eq_true, beq_iff_eq, Bool.or_eq_true, Bool.not_eq_true', decide_eq_false_iff_not] at A
 obtain ⟨⟨⟨⟨⟨⟨⟨⟨⟨⟨⟨⟨a1, a2⟩, a3⟩, a4⟩, a5⟩, a6⟩, a7⟩, a8⟩, a9⟩, a10⟩, a11⟩, a12⟩, a13⟩ := A
 unfold mix
 split
 ·rename_i hv0; subst hv0
  cases o
  ·exact a1.symm
  ·exact hyy.trans a2.symm
  ·exact hyy.trans a3.symm
  ·exact hyy.trans a4.symm
  ·exact a5.symm
 split
 ·rename_i _ hc
  rcases hc with ⟨e, rfl⟩ | ⟨e, rfl⟩
  ·rw [e]; exact hyy.trans a6.symm
  ·rw [e]; exact hyy.trans a10.symm
 split
 ·rename_i _ _ hc
  obtain ⟨e, rfl⟩ := hc
  show v = v ||| y
  rw [e]; exact a7.symm
 split
 ·rename_i _ _ _ hc
  obtain ⟨e, rfl⟩ := hc
  show _ = v ^^^ y
  rw [e, a8, ← hyy]
  cases h with
  | bnot hj _ =>
   rename_i u _
   have := valN_lt hj hx
   show valN wd u x = 2 ^ wd - 1 - (2 ^ wd - 1 - valN wd u x)
   lia
  | num _ _ => rfl
  | var _ => rfl
  | neg _ _ => rfl
  | shl _ _ _ _ => rfl
  | bin _ _ _ _ => rfl
 split
 ·rename_i _ _ _ _ hc
  obtain ⟨e, rfl⟩ := hc
  show _ = y * v % 2 ^ wd
  rw [e, a9]
  cases h with
  | neg hj _ =>
   rename_i u _
   have hu := valN_lt hj hx
   have B := numAll hw1 hw hv hu
   simp only [numOk, Bool.and_eq_true, beq_iff_eq] at B
   have b13 := B.2
   have hyy' : (2 ^ wd - valN wd u x) % 2 ^ wd = y := hyy
   rw [← hyy', b13]
   rfl
  | num _ _ =>
   rename_i k _ _
   have hk : k = y := hyy
   subst hk
   exact a12
  | var _ => rw [← hyy]; rfl
  | bnot _ _ => rw [← hyy]; rfl
  | shl _ _ _ _ => rw [← hyy]; rfl
  | bin _ _ _ _ => rw [← hyy]; rfl
 split
 ·rename_i _ _ _ _ _ hc
  obtain ⟨rfl, hp⟩ := hc
  have a11' := a11.resolve_left (by simpa using hp)
  show _ = y * v % 2 ^ wd
  rw [← a11']
  unfold shlT
  split
  ·rename_i ht
   subst ht
   have : y = 0 := hyy.symm
   subst this
   show 0 = 0 * _ % _
   simp
  ·show valN wd t x * 2 ^ (powI v).toNat % 2 ^ wd = _
   rw [hyy]
 ·show f5 o wd v (valN wd t x) = _
  rw [hyy]
theorem mix_ht (wd : Nat) (o : Op5) (v : Nat) (t : Tm) : (mix wd o v t).ht ≤ t.ht + 1 := by
 unfold mix
 split
 ·cases o <;> simp [Tm.ht]
 split
 ·lia
 split
 ·simp [Tm.ht]
 split
 ·cases t <;> simp [notT, Tm.ht]; lia
 split
 ·cases t <;> simp [negT, Tm.ht]; lia
 split
 ·unfold shlT; split <;> simp [Tm.ht]
 ·simp [Tm.ht]
theorem f5_comp {o : Op5} {wd a b x : Nat} : f5 o wd a (f5 o wd b x) = f5 o wd (f5 o wd a b) x := by
 cases o
 ·show a &&& (b &&& x) = (a &&& b) &&& x; rw [Nat.and_assoc]
 ·show a ||| (b ||| x) = (a ||| b) ||| x; rw [Nat.or_assoc]
 ·show a ^^^ (b ^^^ x) = (a ^^^ b) ^^^ x; rw [Nat.xor_assoc]
 ·show ((x + b) % 2 ^ wd + a) % 2 ^ wd = (x + (b + a) % 2 ^ wd) % 2 ^ wd
  rw [Nat.mod_add_mod, Nat.add_mod_mod, Nat.add_assoc]
 ·show ((x * b) % 2 ^ wd * a) % 2 ^ wd = (x * ((b * a) % 2 ^ wd)) % 2 ^ wd
  rw [Nat.mod_mul_mod, Nat.mul_mod_mod, Nat.mul_assoc]
theorem opAt {r : Nat} (h : r < 5) : ∃ o : Op5, (gv__law_operations.map V.str)[((r : Int)).toNat]? = some (.str o.str) := by
 have : r = 0 ∨ r = 1 ∨ r = 2 ∨ r = 3 ∨ r = 4 := by lia
 rcases this with rfl | rfl | rfl | rfl | rfl
 ·exact ⟨.and, by kernel_rfl⟩
 ·exact ⟨.or, by kernel_rfl⟩
 ·exact ⟨.xor, by kernel_rfl⟩
 ·exact ⟨.add, by kernel_rfl⟩
 ·exact ⟨.mul, by kernel_rfl⟩
theorem valsMix {wd : Nat} {ts : List T} {i : Int} {t : Tm} {v : Nat} {o : Op5} (hw1 : 1 ≤ wd) (hw : wd ≤ 4) (h : Is wd ts i t) (hv : v < 2 ^ wd) : vals wd (mix wd o v t) = (List.range (2 ^ wd)).map fun x => ((f5 o wd v (valN wd t x) : Nat) : Int) := by
 unfold vals
 exact List.map_congr_left fun x hx => by rw [mixVal hw1 hw h hv (List.mem_range.mp hx)]
noncomputable def pick (o : Op5) (wd v : Nat) : V → V
 | .int y => .int (f5 o wd v y.toNat : Nat)
 | x => x
end
section
set_option maxHeartbeats 40000000
variable {w : World} {h0 : Heap} {mg mb : Str → Option Value} {Q : V → St → Prop} {ns : List Int}
section
variable {a0 a1 a2 a3 a4 : Option V} {wd value other third : Nat} {o o' : Op5} {tp : AObj} {nm : V} {rb : Int} {ts4 : List T}
theorem i_env {m : MS} {d : Nat} {ρ ρ' : Env'} {σ : St} {Q : Fl → Env' → St → Prop} (e : ρ = ρ') (h : m d ρ' σ Q) : m d ρ σ Q := by rw [e]; exact h
theorem c_law12 (ok : (cx w h0 mg mb).Ok) (hw : 1 ≤ wd) (hw4 : wd ≤ 4) (hval : value < 2 ^ wd) (hoth : other < 2 ^ wd) (hthi : third < 2 ^ wd) {ts5 : List T} (L5 : ts5.length ≤ 16) (hn5 : ts5.Nodup) (hx5 : At ts5 3 xT) (hb5 : Is wd ts5 rb (mix wd o value .var)) (hQ : ∀ σ, Q (.bool true) σ) :
  m_law_12 (cx w h0 mg mb) 30 [a0, a1, some (.inst 741 1), some (.int wd), some (.int 3), some (.inst 1061 13), some (.int value), some (.str o.str), some (.str o'.str), some (.int other), some (.int third), some (.int rb), a2, a3, none, none] (Z tp nm wd ts5) (retQ Q) := by
 have hx0 : At [tT, fT, xT] 3 xT := ⟨2, rfl, rfl⟩
 have hp4 : 2 ^ wd ≤ 2 ^ 4 := Nat.pow_le_pow_right (by decide) hw4
 have hp0 : 0 < 2 ^ wd := Nat.pow_pos (by decide)
 have ht1 := mix_ht wd o value .var
 have ht1' : (mix wd o value .var).ht ≤ 1 := ht1
 delta m_law_12
 repeat tm_at "g"
 refine z_mixed ok (by lia) hn5 hw hw4 hb5 hthi o fun twice ts6 g6 htw => ?_
 have L6 := g6.2.2
 have hx6 := hx5.mono g6.1
 repeat tm_at "g"
 refine k_wheel ok hw hw4 hthi o ?_
 repeat tm_at "g"
 refine s_fl (by lia) (by lia) (v := .int (f5 o wd third value : Nat)) ?_ ?_
 ·rw [Int.toNat_natCast]; exact wheelL_get hval
 repeat tm_at "g"
 have hft : f5 o wd third value < 2 ^ wd := f5_lt hthi hval
 refine z_mixed ok (by lia) g6.2.1 hw hw4 (.var hx6) hft o fun once ts7 g7 hon => ?_
 have L7 := g7.2.2
 have hx7 := hx6.mono g7.1
 have ht3 := mix_ht wd o third (mix wd o value .var)
 have ht4 := mix_ht wd o (f5 o wd third value) .var
 have ht4' : (mix wd o (f5 o wd third value) .var).ht ≤ 1 := ht4
 repeat tm_at "g"
 refine CallT.depth (d' := (26 - (mix wd o third (mix wd o value .var)).ht) + (mix wd o third (mix wd o value .var)).ht + 4) (by lia) ?_
 refine k_values ok (by lia) hw hw4 hx7 (htw.mono g7.1) ?_
 repeat tm_at "g"
 refine CallT.depth (d' := (26 - (mix wd o (f5 o wd third value) .var).ht) + (mix wd o (f5 o wd third value) .var).ht + 4) (by lia) ?_
 refine k_values ok (by lia) hw hw4 hx7 hon ?_
 have eC : vals wd (mix wd o third (mix wd o value .var)) = vals wd (mix wd o (f5 o wd third value) .var) := by
  rw [valsMix hw hw4 hb5 hthi, valsMix hw hw4 (.var hx6) hft]
  refine List.map_congr_left fun x hx => ?_
  rw [mixVal hw hw4 (.var hx0) hval (List.mem_range.mp hx)]
  show ((f5 o wd third (f5 o wd value x) : Nat) : Int) = (f5 o wd (f5 o wd third value) x : Nat)
  rw [f5_comp]
 rw [eC]
 refine q_eqL (xs := vals wd (mix wd o (f5 o wd third value) .var)) (ys := vals wd (mix wd o (f5 o wd third value) .var)) ?_
 repeat tm_at "g"
 have fin : (vals wd (mix wd o (f5 o wd third value) .var) == vals wd (mix wd o (f5 o wd third value) .var)) = true := by simp
 rw [fin]
 exact hQ _
theorem c_law10 (ok : (cx w h0 mg mb).Ok) (hw : 1 ≤ wd) (hw4 : wd ≤ 4) (hval : value < 2 ^ wd) (hoth : other < 2 ^ wd) (hthi : third < 2 ^ wd) {ts4 : List T} (L4 : ts4.length ≤ 13) (hn4 : ts4.Nodup) (hx4 : At ts4 3 xT) (hb : Is wd ts4 rb (mix wd o value .var)) (hQ : ∀ σ, Q (.bool true) σ) :
  m_law_10 (cx w h0 mg mb) 30 [a0, a1, some (.inst 741 1), some (.int wd), some (.int 3), some (.inst 1061 13), some (.int value), some (.str o.str), some (.str o'.str), some (.int other), some (.int third), some (.int rb), a2, none, none, none] (Z tp nm wd ts4) (retQ Q) := by
 have hx0 : At [tT, fT, xT] 3 xT := ⟨2, rfl, rfl⟩
 have hp4 : 2 ^ wd ≤ 2 ^ 4 := Nat.pow_le_pow_right (by decide) hw4
 have hp0 : 0 < 2 ^ wd := Nat.pow_pos (by decide)
 have ht1 := mix_ht wd o value .var
 have ht1' : (mix wd o value .var).ht ≤ 1 := ht1
 delta m_law_10
 repeat tm_at "g"
 refine z_mixed ok (by lia) hn4 hw hw4 hb hoth o' fun outer ts5 g5 hou => ?_
 have L5 := g5.2.2
 have hx5 := hx4.mono g5.1
 have hb5 := hb.mono g5.1
 have ht2 := mix_ht wd o' other (mix wd o value .var)
 repeat tm_at "g"
 refine CallT.depth (d' := (26 - (mix wd o' other (mix wd o value .var)).ht) + (mix wd o' other (mix wd o value .var)).ht + 4) (by lia) ?_
 refine k_values ok (by lia) hw hw4 hx5 hou ?_
 repeat tm_at "g"
 refine i_comp (by simp) ?_
 refine i_iters ?_
 repeat tm_at "g"
 refine k_wheel ok hw hw4 hval o ?_
 refine it_fl ?_
 refine ⟨by simp [iL, wheelL]; lia, ?_⟩
 refine comp_nm (pick o' wd other) (fun x hx K hK => ?_) ?_
 ·obtain ⟨y, hy, rfl⟩ : ∃ y : Nat, y < 2 ^ wd ∧ V.int (y : Int) = x := by
   simp only [iL, wheelL, List.mem_map, List.mem_range, List.map_map] at hx
   obtain ⟨z, hz, rfl⟩ := hx
   exact ⟨_, f5_lt hval hz, rfl⟩
  repeat tm_at "g"
  refine k_wheel ok hw hw4 hoth o' ?_
  repeat tm_at "g"
  refine s_fl (by lia) (by lia) (v := .int (f5 o' wd other y : Nat)) ?_ ?_
  ·rw [Int.toNat_natCast]; exact wheelL_get hy
  exact hK
 have eB : (iL (wheelL wd o value)).map (pick o' wd other) = iL (vals wd (mix wd o' other (mix wd o value .var))) := by
  rw [valsMix hw hw4 hb hoth]
  simp only [iL, wheelL, List.map_map]
  refine List.map_congr_left fun x hx => ?_
  show V.int (f5 o' wd other (f5 o wd value x) : Nat) = V.int (f5 o' wd other (valN wd (mix wd o value .var) x) : Nat)
  rw [mixVal hw hw4 (.var hx0) hval (List.mem_range.mp hx)]
  rfl
 rw [eB]
 refine q_neL (xs := vals wd (mix wd o' other (mix wd o value .var))) (ys := vals wd (mix wd o' other (mix wd o value .var))) ?_
 repeat tm_at "g"
 refine i_F (by simp) ?_
 repeat tm_at "g"
 refine i_env (ρ' := [a0, a1, some (.inst 741 1), some (.int wd), some (.int 3), some (.inst 1061 13), some (.int value), some (.str o.str), some (.str o'.str), some (.int other), some (.int third), some (.int rb), a2, some (.int outer), none, none]) (by kernel_rfl) ?_
 exact c_law12 ok hw hw4 hval hoth hthi (by lia) g5.2.1 hx5 hb5 hQ
theorem c_law6 (ok : (cx w h0 mg mb).Ok) (hw : 1 ≤ wd) (hw4 : wd ≤ 4) (hval : value < 2 ^ wd) (hoth : other < 2 ^ wd) (hthi : third < 2 ^ wd) (hQ : ∀ σ, Q (.bool true) σ) :
  m_law_6 (cx w h0 mg mb) 30 [a0, a1, some (.inst 741 1), some (.int wd), some (.int 3), some (.inst 1061 13), some (.int value), some (.str o.str), some (.str o'.str), some (.int other), some (.int third), none, none, none, none, none] (Z tp nm wd [tT, fT, xT]) (retQ Q) := by
 have hp4 : 2 ^ wd ≤ 2 ^ 4 := Nat.pow_le_pow_right (by decide) hw4
 have hp0 : 0 < 2 ^ wd := Nat.pow_pos (by decide)
 delta m_law_6
 repeat tm_at "g"
 have hn0 : ([tT, fT, xT] : List T).Nodup := by decide +kernel
 have hx0 : At [tT, fT, xT] 3 xT := ⟨2, rfl, rfl⟩
 refine z_mixed ok (by decide) hn0 hw hw4 (.var hx0) hval o fun found ts1 g1 hf => ?_
 repeat tm_at "g"
 have L1 := g1.2.2
 have hx1 := hx0.mono g1.1
 have l3 : ([tT, fT, xT] : List T).length = 3 := rfl
 have ht1 := mix_ht wd o value .var
 have ht1' : (mix wd o value .var).ht ≤ 1 := ht1
 refine CallT.depth (d' := (25 - (mix wd o value .var).ht) + (mix wd o value .var).ht + 5) (by lia) ?_
 refine k_plain ok (by lia) hw hw4 hval o hx1 hf ?_
 repeat tm_at "g"
 refine z_bvnum ok (by lia) hw hw4 ?_
 have hnum : ((value : Int).fmod (2 ^ wd)) = value := by
  have hp : ((2 ^ wd : Nat) : Int) = 2 ^ wd := by simp
  rw [Int.fmod_eq_emod_of_nonneg _ (by lia), Int.emod_eq_of_lt (by lia) (by lia)]
 rw [hnum]
 obtain ⟨g2, hk⟩ := mkT_ok g1.2.1 ⟨"bvnum", [], 3, value⟩
 generalize (mkT ts1 ⟨"bvnum", [], 3, value⟩).1 = number at hk ⊢
 generalize (mkT ts1 ⟨"bvnum", [], 3, value⟩).2 = ts2 at g2 hk ⊢
 have L2 := g2.2.2
 have hx2 := hx1.mono g2.1
 have hf2 := hf.mono g2.1
 repeat tm_at "g"
 refine z_two ok (by lia) g2.2.1 hw hw4 hx2 hval hk o fun ra ts3 g3 ha => ?_
 have L3 := g3.2.2
 have e1 : ra = found := Is.inj g3.2.1 ha (hf2.mono g3.1)
 subst e1
 repeat tm_at "g"
 refine i_F (by simp) ?_
 repeat tm_at "g"
 refine z_two' ok (by lia) g3.2.1 hw hw4 (hx2.mono g3.1) hval (hk.mono g3.1) o fun rb ts4 g4 hb => ?_
 have L4 := g4.2.2
 have e2 : rb = ra := Is.inj g4.2.1 hb (ha.mono g4.1)
 subst e2
 repeat tm_at "g"
 refine i_F (by simp) ?_
 repeat tm_at "g"
 refine i_env (ρ' := [a0, a1, some (.inst 741 1), some (.int wd), some (.int 3), some (.inst 1061 13), some (.int value), some (.str o.str), some (.str o'.str), some (.int other), some (.int third), some (.int rb), some (.int number), none, none, none]) (by kernel_rfl) ?_
 exact c_law10 ok hw hw4 hval hoth hthi (by have : [tT, fT, xT].length = 3 := rfl; lia) g4.2.1 ((hx2.mono g3.1).mono g4.1) hb hQ
end
theorem c_law (ok : (cx w h0 mg mb).Ok) (hns : ns.length ≤ 63) (hQ : ∀ σ, Q (.bool true) σ) : CallT (cx w h0 mg mb) (.ref 1124) 31 [.fl (ns.map V.int)] [] Q := by
 refine (codeT_fn (k := 15) (d := 30) ok (f_law ok) (@s_law w h0 mg mb ok) rfl ?_).call
 delta m_law
 repeat tm_at "g"
 refine i_dictP ?_
 refine i_consP ?_
 repeat tm_at "g"
 refine i_comp (by simp) ?_
 refine i_iters ?_
 repeat tm_at "g"
 refine i_nop ?_
 refine i_pt ?_
 repeat tm_at "g"
 refine i_ptC ?_
 refine sl_hi (v := 40) (by simp; lia) ?_
 refine it_fl ?_
 refine ⟨by simp; lia, ?_⟩
 refine comp_nm (iv fun y => y.fmod 1000003) (fun x hx K hK => ?_) ?_
 ·obtain ⟨y, _, rfl⟩ : ∃ y, y ∈ ns ∧ V.int y = x := by
   have := List.mem_of_mem_take hx
   simpa using this
  repeat tm_at "g"
  refine callT_int ?_
  repeat tm_at "g"
  refine o_mod (by decide) ?_
  exact hK
 obtain ⟨cs, hcs, hcl⟩ : ∃ cs : List Int, ((ns.map V.int).take 40).map (iv fun y => y.fmod 1000003) = cs.map V.int ∧ cs.length ≤ 1000 :=
  ⟨(ns.take 40).map fun y => y.fmod 1000003, by simp [← List.map_take, iv], by simp; lia⟩
 rw [hcs]
 refine i_consP ?_
 repeat tm_at "g"
 refine i_nilP ?_
 refine i_dictPC (σ := []) (kvs := [(.str "cells", .fl (cs.map V.int)), (.str "spins", .int 0)]) (pairs_str (ks := ["cells", "spins"]) (vs := [.fl (cs.map V.int), .int 0]) (by decide +kernel)) ?_
 repeat tm_at "g"
 refine CallT.conv (σ' := [some (topD cs 0)]) (by kernel_rfl) ?_
 refine c_termbank ok ?_
 repeat tm_at "g"
 refine k_spinB ok (many := 4) (by decide) (by decide) hcl fun r hr => ?_
 repeat tm_at "g"
 obtain ⟨wd, hwd, hw, hw4⟩ : ∃ wd : Nat, (1 : Int) + (r : Int) = wd ∧ 1 ≤ wd ∧ wd ≤ 4 := ⟨r + 1, by lia, by lia, by lia⟩
 rw [hwd]
 have hp4 : 2 ^ wd ≤ 2 ^ 4 := Nat.pow_le_pow_right (by decide) hw4
 have hp0 : 0 < 2 ^ wd := Nat.pow_pos (by decide)
 repeat tm_at "g"
 refine c_bvsort ok hw hw4 fun nm => ?_
 repeat tm_at "g"
 refine c_fresh ok ?_
 repeat tm_at "g"
 refine c_bits ok ?_
 repeat tm_at "g"
 refine CallT.conv (σ' := Z (topD cs 1) nm wd [tT, fT, xT]) rfl ?_
 refine k_lnumberZ ok hw hw4 (by decide) hcl fun value hval => ?_
 repeat tm_at "g"
 refine k_spinZ ok (many := 5) (by decide) (by decide) hcl fun r1 hr1 => ?_
 repeat tm_at "g"
 obtain ⟨o, ho⟩ := opAt hr1
 refine s_tup (by lia) (by lia) ho ?_
 repeat tm_at "g"
 refine k_spinZ ok (many := 5) (by decide) (by decide) hcl fun r2 hr2 => ?_
 repeat tm_at "g"
 obtain ⟨o', ho'⟩ := opAt hr2
 refine s_tup (by lia) (by lia) ho' ?_
 repeat tm_at "g"
 refine k_lnumberZ ok hw hw4 (by decide) hcl fun other hoth => ?_
 repeat tm_at "g"
 refine k_lnumberZ ok hw hw4 (by decide) hcl fun third hthi => ?_
 repeat tm_at "g"
 refine i_env (ρ' := [some (.fl (ns.map V.int)), some (.ref 0), some (.inst 741 1), some (.int wd), some (.int 3), some (.inst 1061 13), some (.int value), some (.str o.str), some (.str o'.str), some (.int other), some (.int third), none, none, none, none, none]) (by kernel_rfl) ?_
 exact c_law6 ok hw hw4 hval hoth hthi hQ
end
section
theorem VRs_is {h : Heap} {S : Nat → Prop} {μ : Nat → Nat} {n : Nat} : ∀ {vs : List Value} {ns : List Int}, IntsAre vs ns → VRs h S μ n vs (ns.map V.int) := VRs_ofInts
theorem nms (w : World) : ∀ x ∈ (["len", "range", "list", "tuple", "int", "sorted", "reversed", "any", "min", "max", "sum", "zip", "enumerate", "set", "dict", "super", "str"] : List Str), nsIn (Head.KF w.params) mainGlobals x = some none := by
 intro x hx
 simp only [List.mem_cons, List.not_mem_nil, or_false] at hx
 rcases hx with rfl | rfl | rfl | rfl | rfl | rfl | rfl | rfl | rfl | rfl | rfl | rfl | rfl | rfl | rfl | rfl | rfl <;> kernel_rfl
theorem cok {w : World} {h : Heap} {mg mb : Str → Option Value} {loose : List Str} {mean : ExcName → Option Value} {p : Program} (K : (Head.KF w.params).In h) (T : Top p loose mean mg mb h) : (cx w h mg mb).Ok where
 K := K
 g := T.g
 b := T.b
 nolimit := T.nolimit
 builtins := T.builtins
 low := ⟨boot_o_1 w.params, K sysModules _ (by kernel_rfl)⟩
 names := fun x hx => mg_none_of K T.g (nms w x hx)
theorem room0 : Room callerA 31 := ⟨rfl, by decide +kernel, by decide +kernel⟩
theorem holds_ : PySem.Challenge.rw_zu0063_03.Holds := by
 refine Head.law_ fun w s mg mb mean K T hg a l vs ns hmg hl hI hn => ?_
 have ok := cok K T
 have ha : a = 1124 := by
  have e : mg "law" = some (.ref 1124) := mg_of K T.g (by kernel_rfl)
  rw [e] at hmg; cases hmg; rfl
 subst ha
 have hlaw := c_law (w := w) (h0 := s.heap) (mg := mg) (mb := mb) (Q := fun v _ => v = .bool true) ok hn fun _ => rfl
 have R : Rel (cx w s.heap mg mb) (fun _ => False) [] (fun _ => 0) s.heap := ⟨fun _ _ e => e, fun i o e => by simp at e, fun i j o p e => by simp at e, fun i o e => by simp at e, fun a x => x.elim⟩
 have fr : ¬ Sx (fun _ => False) ([] : St) (fun _ => 0) l := by
  rintro (⟨i, o, e, _⟩ | x)
  ·simp at e
  ·exact x
 have key := hlaw callerA (fun _ => False) (fun _ => 0) s [.ref l] room0 R (.cons (.fl (items := vs) (k := 0) hl fr (VRs_is hI)) .nil)
 refine wpAny_mono key (fun v s' h => ?_) fun _ _ h => h.elim
 obtain ⟨x, σ', μ', rfl, R', t, ev, g', o'⟩ := h
 refine ⟨?_, R'.base, o', g'.trans hg⟩
 cases t
 rfl
end
end Mine
theorem PySem.Challenge.cw_zu0063_03_holds : PySem.Challenge.rw_zu0063_03.Holds := by
 exact Mine.holds_
