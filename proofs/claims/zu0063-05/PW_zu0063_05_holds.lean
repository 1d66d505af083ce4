import PyProof.Rows.All
import OpenK.KLine
import KE.KUnpack
import KE.KItem
import KE.KRevIter
import KE.KSuper
import ObjForm.ListNI
import Lean
import PySem.Challenge.RW_zu0063_05
set_option Elab.async false
set_option maxRecDepth 100000
set_option linter.unusedVariables false
set_option linter.unusedSimpArgs false
set_option linter.unusedSectionVars false
set_option bootstrap.genMatcherCode false
set_option backward.match.sparseCases false
set_option compiler.extract_closed false
set_option genSizeOf false
namespace Head
noncomputable section
open PySem PySem.W PySem.Calls PyProof.Rows
noncomputable def s(x:String):PySem.Str:=PySem.Str.ofString x
noncomputable def nul:Stmt:=.Pass ⟨0,0,0,0⟩
noncomputable def st(i:Nat)(j:Option Nat):Stmt:=match PySem.Challenge.pw_zu0063_05.main.body[i]?.getD nul,j with
 | .ClassDef _ _ _ b _ _ _ _ _ _ _,some j=>b[j]?.getD nul
 | t,_=>t
noncomputable def fd(g:Nat)(t:Stmt)(q:PySem.Str)(cl:List (PySem.Str×Addr))(dV kV doc pm cdv ct:Value):FuncData:=match t with
 | .FunctionDef name args body _ _ _ scope _ _ _=>{ name,qualname:=q,params:=args,body:=.stmts body,scope,globals:=g,closure:=cl,defaults:=dV,kwdefaults:=kV,doc,pyModule:=pm,code:=cdv,closureTuple:=ct,builtins:=builtinsNs }
 | _=>default
noncomputable def ob(c:Value)(d:Option Addr)(x:Data)(sl:List (Option Value)):Obj:=⟨c,d,x,sl.toArray⟩
noncomputable def ts(l:List (String×Nat)):Obj:=⟨.type "tuple",none,.seq (l.map fun y=>Value.str (PySem.Str.ofString y.1) y.2).toArray 0,#[]⟩
noncomputable def tp(l:List Value):Obj:=⟨.type "tuple",none,.seq l.toArray 0,#[]⟩
noncomputable def nf:Obj:=⟨.none,none,.fields #[],#[]⟩
noncomputable def tf(f:FuncData):Obj:=⟨.none,none,.func f,#[]⟩
noncomputable def ff(f:FuncData):Obj:=⟨.type "function",none,.func f,#[]⟩
noncomputable def en(P:Params)(x:PySem.Str)(t:Nat)(v:Value):DictEntry:=⟨PyData.keyHash P x,.str x t,v⟩
noncomputable def cd(n:String)(t0:Nat)(q:String)(t1 t2:Nat)(l a1 a2 a3 fl:Int)(fr:Nat)(isf:Bool)(txt:Int)(pl:Nat)(x13 x14 x15:Value)(t16 l2:Int)(t18:Nat):Obj :=
 ⟨.type "code",none,.fields #[.str (s n) t0,.str (s q) t1,.str (s "/claim/cut.py") t2,.int l 0,.int a1 0,.int a2 0,.int a3 0,.int fl 0,.ref fr,.bool isf,.int txt 0,.ref pl,.none,x13,x14,x15,.int t16 0,.int l2 0,.str (s "/claim/cut.py") t18],#[]⟩
noncomputable def S(x:String)(t:Nat):Value:=.str (s x) t
noncomputable def t1(i:Nat)(j:Option Nat)(q:String):Obj:=tf (fd 0 (st i j) (s q) [] .none .none .none .none .none .none)
noncomputable def f3(i:Nat)(j:Option Nat)(q:String)(m:Value)(c:Nat):Obj:=ff (fd 3 (st i j) (s q) [] .none .none .none m (.ref c) .none)
noncomputable abbrev n:=@BT.node
noncomputable abbrev e:=BT.nil
noncomputable abbrev l(o:Obj):BT:=n o e e
noncomputable def half(l:List Obj):Bool→List Obj:=@List.rec Obj (fun _=>Bool→List Obj) (fun _=>[]) (fun a _ ih b=>cond b (a::ih false) (ih true)) l
noncomputable def mk(f:Nat):List Obj→BT:=@Nat.rec (fun _=>List Obj→BT) (fun _=>.nil) (fun _ ih l=>@List.rec Obj (fun _=>BT) .nil (fun a l _=>.node a (ih (half l true)) (ih (half l false))) l) f
noncomputable def nu:Nat→List String→List (String×Nat):=fun k l=>@List.rec String (fun _=>Nat→List (String×Nat)) (fun _=>[]) (fun a _ ih k=>(a,k)::ih (k+1)) l k
noncomputable def fb(a T i:Nat)(j:Option Nat)(n q:String)(l a1 a2 a3 fl:Int)(c v:List String)(r:List Obj):List Obj :=
 ts (nu (T+3) c)::nf::ts (nu (T+3+c.length) v)::ts []::t1 i j q::cd n T q (T+1) (T+2) l a1 a2 a3 fl a true 181 (a+1) (.ref (a+2)) (.ref (a+3)) (.ref (a+4)) (T+3+c.length+v.length) l (T+4+c.length+v.length)::r
noncomputable def fw(a T i:Nat)(j:Option Nat)(n q:String)(l a1:Int)(v:List String)(m:Value)(r:List Obj):List Obj:=fb a T i j n q l a1 0 0 3 [] v (f3 i j q m (a+5)::r)
noncomputable def fL0(P:Params)(r:List Obj):List Obj:=(boot_o_0 P)::((boot_o_1 P)::(ob .none none (.dict [en P (s "type.__subclasses__.Exception.0") 230 (.int 47 0),en P (s "type.__subclasses__.Exception.n") 231 (.int 1 0)].toArray 2) []::(ob (.type "dict") none (.dict [en P (s "__name__") 165 (S "law_zu0063_05" 1680),en P (s "__doc__") 166 .none,en P (s "__package__") 167 .none,en P (s "__loader__") 168 (.builtin "__main__.__loader__#opaque"),en P (s "__spec__") 169 .none,en P (s "__annotations__") 170 (.ref 6),en P (s "__builtins__") 171 (.ref 4),en P (s "__file__") 173 (S "/claim/cut.py" 172),en P (s "__cached__") 174 .none,en P (s "_wall") 193 (.ref 21),en P (s "SmtError") 233 (.ref 47),en P (s "SortFault") 256 (.ref 67),en P (s "LimitFault") 279 (.ref 86),en P (s "ModelFault") 302 (.ref 105),en P (s "gcd_of") 312 (.ref 114),en P (s "ratio") 321 (.ref 121),en P (s "mul") 329 (.ref 128),en P (s "is_whole") 336 (.ref 135),en P (s "mask_of") 345 (.ref 142),en P (s "signed_of") 353 (.ref 149),en P (s "one_value") 362 (.ref 156),en P (s "divided_value") 371 (.ref 163),en P (s "rest_value") 379 (.ref 170),en P (s "shifted_value") 389 (.ref 177),en P (s "two_value") 399 (.ref 184),en P (s "ask_value") 409 (.ref 191),en P (s "extract_value") 418 (.ref 198),en P (s "concat_value") 427 (.ref 205),en P (s "sign_extended") 436 (.ref 212),en P (s "bit_value") 444 (.ref 219),en P (s "power_of") 451 (.ref 226),en P (s "BOOL") 453 (.int 0 452),en P (s "INT") 455 (.int 1 454),en P (s "REAL") 457 (.int 2 456),en P (s "WIDEST") 459 (.int 4096 458),en P (s "MOST_BITS") 463 (.int 65536 462),en P (s "BV_SAME") 474 (.ref 227),en P (s "BV_ASK") 479 (.ref 228),en P (s "VALUE_OPS") 484 (.ref 229),en P (s "Bank") 769 (.ref 442),en P (s "BoolBank") 902 (.ref 547),en P (s "want_small") 909 (.ref 556),en P (s "NumberBank") 1023 (.ref 643),en P (s "TermBank") 1179 (.ref 762),en P (s "MIXING") 1187 (.ref 765),en P (s "MOST_APART") 1189 (.int 8 1188),en P (s "DEEPEST") 1191 (.int 50 1190),en P (s "BoolRewriter") 1378 (.ref 884),en P (s "BitsRewriter") 1679 (.ref 1080),en P (s "_law_sip") 1690 (.ref 1089),en P (s "_law_term") 1703 (.ref 1096),en P (s "_law_worth") 1709 (.ref 1101),en P (s "_law_ops") 1715 (.ref 1106),en P (s "_law_counted_right") 1721 (.ref 1111),en P (s "_law_two_right") 1727 (.ref 1116),en P (s "law") 1733 (.ref 1121)].toArray 56) []::((boot_o_4 P)::((boot_o_5 P)::((boot_o_6 P)::((boot_o_7 P)::((boot_o_8 P)::((boot_o_9 P)::((boot_o_10 P)::(ts []::(ob .none none (.fields [(.int 1 0),(.int 0 0),(.ref 20),(.int 5 0),(.int 0 0),(.ref 28),(.int 13 0),(.int 0 0),(.ref 56),(.int 17 0),(.int 0 0),(.ref 75),(.int 21 0),(.int 0 0),(.ref 94),(.int 26 0),(.int 0 0),(.ref 113),(.int 31 0),(.int 0 0),(.ref 120),(.int 38 0),(.int 0 0),(.ref 127),(.int 42 0),(.int 0 0),(.ref 134),(.int 45 0),(.int 0 0),(.ref 141),(.int 47 0),(.int 0 0),(.ref 148),(.int 49 0),(.int 0 0),(.ref 155),(.int 55 0),(.int 0 0),(.ref 162),(.int 57 0),(.int 0 0),(.ref 169),(.int 59 0),(.int 0 0),(.ref 176),(.int 63 0),(.int 0 0),(.ref 183),(.int 83 0),(.int 0 0),(.ref 190),(.int 91 0),(.int 0 0),(.ref 197),(.int 93 0),(.int 0 0),(.ref 204),(.int 95 0),(.int 0 0),(.ref 211),(.int 97 0),(.int 0 0),(.ref 218),(.int 99 0),(.int 0 0),(.ref 225),(.int 109 0),(.int 0 0),(.ref 235),(.int 238 0),(.int 0 0),(.ref 452),(.int 312 0),(.int 0 0),(.ref 555),(.int 315 0),(.int 0 0),(.ref 562),(.int 367 0),(.int 0 0),(.ref 652),(.int 455 0),(.int 0 0),(.ref 771),(.int 622 0),(.int 0 0),(.ref 895),(.int 913 0),(.int 0 0),(.ref 1088),(.int 917 0),(.int 0 0),(.ref 1095),(.int 926 0),(.int 0 0),(.ref 1100),(.int 948 0),(.int 0 0),(.ref 1105),(.int 950 0),(.int 0 0),(.ref 1110),(.int 964 0),(.int 0 0),(.ref 1115),(.int 981 0),(.int 0 0),(.ref 1120)].toArray) []::(cd "<module>" 182 "<module>" 183 184 1 0 0 0 0 11 false 181 12 .none .none .none 185 1 186::(ob (.type "frame") none .plain [(some (.ref 13)),(some (.ref 3)),(some (.ref 3)),none,(some (S "__main__" 164)),none,(some (.ref 0))]::(fw 15 187 0 none "_wall" "_wall" 1 1 ["k"] (S "__main__" 164) (tp [(.type "Exception")]::(ob (.type "builtin_function_or_method") none (.fields [(.builtin "type.__prepare__"),(.type "type")].toArray) []::(ob (.type "dict") none (.dict [en P (s "__module__") 203 (S "minismt.errors" 194),en P (s "__qualname__") 205 (S "SmtError" 204),en P (s "__firstlineno__") 207 (.int 5 206),en P (s "__init__") 216 (.ref 37),en P (s "told") 223 (.ref 44),en P (s "__static_attributes__") 225 (.ref 45),en P (s "__classcell__") 226 (.ref 25)].toArray 7) []::(ob (.type "cell") none (.cell (some (.ref 47))) []::(ts []::(ob .none none (.fields [(.int 7 0),(.int 4 0),(.ref 36),(.int 11 0),(.int 4 0),(.ref 43)].toArray) []::(cd "SmtError" 198 "SmtError" 199 200 5 0 0 0 0 26 false 181 27 .none .none .none 201 5 202::(ob (.type "frame") none .plain [(some (.ref 28)),(some (.ref 3)),(some (.ref 24)),none,(some (S "minismt.errors" 194)),none,(some (.ref 0))]::(tp [(.ref 25)]::(fb 31 208 2 (some 0) "__init__" "SmtError.__init__" 7 2 0 0 3 ["__class__"] ["self","what"] (ff (fd 3 (st 2 (some 0)) (s "SmtError.__init__") [((s "__class__"),25)] .none .none .none (S "minismt.errors" 194) (.ref 36) (.ref 30))::(fw 38 217 2 (some 1) "told" "SmtError.told" 11 1 ["self"] (S "minismt.errors" 194) (ts [("what",224)]::(ob (.type "dict") none (.dict [en P (s "__module__") 203 (S "minismt.errors" 194),en P (s "__firstlineno__") 207 (.int 5 206),en P (s "__init__") 216 (.ref 37),en P (s "told") 223 (.ref 44),en P (s "__static_attributes__") 225 (.ref 45),en P (s "__weakref__") 228 (.ref 48),en P (s "__doc__") 229 .none].toArray 4) []::(ob (.type "type") none (.cls ({ name:=(s "SmtError"),bases:=[(.type "Exception")],mro:=[(.ref 47),(.type "Exception"),(.type "BaseException"),(.type "object")],ns:=46,qualname:=(s "SmtError"),hasDict:=true,slotNames:=[],subclasses:=[(.ref 67),(.ref 86),(.ref 105)],abstract:=false,collection:=none,hasDel:=false }:ClassData)) [(some (.ref 22)),none,(some (S "SmtError" 196)),(some (S "SmtError" 204)),(some (.builtin "Exception.__new__")),(some (.bool true))]::(ob (.type "getset_descriptor") none (.fields [(S "__weakref__" 227),(.ref 47),(.builtin "ExceptionGroup.__weakref__"),.none].toArray) []::(ob (.type "super") none (.fields [(.ref 47),(.ref 47),(.ref 47)].toArray) []::(ob (.type "builtin_function_or_method") none (.fields [(.builtin "object.__init_subclass__"),(.ref 47)].toArray) []::(tp [(.ref 47)]::(ob (.type "builtin_function_or_method") none (.fields [(.builtin "type.__prepare__"),(.type "type")].toArray) []::(ob (.type "dict") none (.dict [en P (s "__module__") 241 (S "minismt.errors" 194),en P (s "__qualname__") 243 (S "SortFault" 242),en P (s "__firstlineno__") 245 (.int 13 244),en P (s "told") 252 (.ref 64),en P (s "__static_attributes__") 253 (.ref 65)].toArray 5) []::(ts []::(ob .none none (.fields [(.int 15 0),(.int 4 0),(.ref 63)].toArray) []::(cd "SortFault" 236 "SortFault" 237 238 13 0 0 0 0 54 false 181 55 .none .none .none 239 13 240::r)))))))))))))))))))))))))))))))))))))))
noncomputable def fL1(P:Params)(r:List Obj):List Obj:=ob (.type "frame") none .plain [(some (.ref 56)),(some (.ref 3)),(some (.ref 53)),none,(some (S "minismt.errors" 194)),none,(some (.ref 0))]::(fw 58 246 3 (some 0) "told" "SortFault.told" 15 1 ["self"] (S "minismt.errors" 194) (ts []::(ob (.type "dict") none (.dict [en P (s "__module__") 241 (S "minismt.errors" 194),en P (s "__firstlineno__") 245 (.int 13 244),en P (s "told") 252 (.ref 64),en P (s "__static_attributes__") 253 (.ref 65),en P (s "__doc__") 254 .none].toArray 2) []::(ob (.type "type") none (.cls ({ name:=(s "SortFault"),bases:=[(.ref 47)],mro:=[(.ref 67),(.ref 47),(.type "Exception"),(.type "BaseException"),(.type "object")],ns:=66,qualname:=(s "SortFault"),hasDict:=true,slotNames:=[],subclasses:=[],abstract:=false,collection:=none,hasDel:=false }:ClassData)) [(some (.ref 51)),none,(some (S "SortFault" 234)),(some (S "SortFault" 242)),(some (.builtin "Exception.__new__")),(some (.bool true))]::(ob (.type "super") none (.fields [(.ref 67),(.ref 67),(.ref 67)].toArray) []::(ob (.type "builtin_function_or_method") none (.fields [(.builtin "object.__init_subclass__"),(.ref 67)].toArray) []::(tp [(.ref 47)]::(ob (.type "builtin_function_or_method") none (.fields [(.builtin "type.__prepare__"),(.type "type")].toArray) []::(ob (.type "dict") none (.dict [en P (s "__module__") 264 (S "minismt.errors" 194),en P (s "__qualname__") 266 (S "LimitFault" 265),en P (s "__firstlineno__") 268 (.int 17 267),en P (s "told") 275 (.ref 83),en P (s "__static_attributes__") 276 (.ref 84)].toArray 5) []::(ts []::(ob .none none (.fields [(.int 19 0),(.int 4 0),(.ref 82)].toArray) []::(cd "LimitFault" 259 "LimitFault" 260 261 17 0 0 0 0 73 false 181 74 .none .none .none 262 17 263::(ob (.type "frame") none .plain [(some (.ref 75)),(some (.ref 3)),(some (.ref 72)),none,(some (S "minismt.errors" 194)),none,(some (.ref 0))]::(fw 77 269 4 (some 0) "told" "LimitFault.told" 19 1 ["self"] (S "minismt.errors" 194) (ts []::(ob (.type "dict") none (.dict [en P (s "__module__") 264 (S "minismt.errors" 194),en P (s "__firstlineno__") 268 (.int 17 267),en P (s "told") 275 (.ref 83),en P (s "__static_attributes__") 276 (.ref 84),en P (s "__doc__") 277 .none].toArray 2) []::(ob (.type "type") none (.cls ({ name:=(s "LimitFault"),bases:=[(.ref 47)],mro:=[(.ref 86),(.ref 47),(.type "Exception"),(.type "BaseException"),(.type "object")],ns:=85,qualname:=(s "LimitFault"),hasDict:=true,slotNames:=[],subclasses:=[],abstract:=false,collection:=none,hasDel:=false }:ClassData)) [(some (.ref 70)),none,(some (S "LimitFault" 257)),(some (S "LimitFault" 265)),(some (.builtin "Exception.__new__")),(some (.bool true))]::(ob (.type "super") none (.fields [(.ref 86),(.ref 86),(.ref 86)].toArray) []::(ob (.type "builtin_function_or_method") none (.fields [(.builtin "object.__init_subclass__"),(.ref 86)].toArray) []::(tp [(.ref 47)]::(ob (.type "builtin_function_or_method") none (.fields [(.builtin "type.__prepare__"),(.type "type")].toArray) []::(ob (.type "dict") none (.dict [en P (s "__module__") 287 (S "minismt.errors" 194),en P (s "__qualname__") 289 (S "ModelFault" 288),en P (s "__firstlineno__") 291 (.int 21 290),en P (s "told") 298 (.ref 102),en P (s "__static_attributes__") 299 (.ref 103)].toArray 5) []::(ts []::(ob .none none (.fields [(.int 23 0),(.int 4 0),(.ref 101)].toArray) []::(cd "ModelFault" 282 "ModelFault" 283 284 21 0 0 0 0 92 false 181 93 .none .none .none 285 21 286::(ob (.type "frame") none .plain [(some (.ref 94)),(some (.ref 3)),(some (.ref 91)),none,(some (S "minismt.errors" 194)),none,(some (.ref 0))]::(fw 96 292 5 (some 0) "told" "ModelFault.told" 23 1 ["self"] (S "minismt.errors" 194) (ts []::(ob (.type "dict") none (.dict [en P (s "__module__") 287 (S "minismt.errors" 194),en P (s "__firstlineno__") 291 (.int 21 290),en P (s "told") 298 (.ref 102),en P (s "__static_attributes__") 299 (.ref 103),en P (s "__doc__") 300 .none].toArray 2) []::(ob (.type "type") none (.cls ({ name:=(s "ModelFault"),bases:=[(.ref 47)],mro:=[(.ref 105),(.ref 47),(.type "Exception"),(.type "BaseException"),(.type "object")],ns:=104,qualname:=(s "ModelFault"),hasDict:=true,slotNames:=[],subclasses:=[],abstract:=false,collection:=none,hasDel:=false }:ClassData)) [(some (.ref 89)),none,(some (S "ModelFault" 280)),(some (S "ModelFault" 288)),(some (.builtin "Exception.__new__")),(some (.bool true))]::(ob (.type "super") none (.fields [(.ref 105),(.ref 105),(.ref 105)].toArray) []::(ob (.type "builtin_function_or_method") none (.fields [(.builtin "object.__init_subclass__"),(.ref 105)].toArray) []::(fw 108 305 7 none "gcd_of" "gcd_of" 26 2 ["a","b"] (S "minismt.ratios" 303) (fw 115 313 8 none "ratio" "ratio" 31 2 ["top","bottom","common"] (S "minismt.ratios" 303) (fw 122 322 9 none "mul" "mul" 38 2 ["a","b"] (S "minismt.ratios" 303) (fw 129 330 10 none "is_whole" "is_whole" 42 1 ["a"] (S "minismt.ratios" 303) (fw 136 339 12 none "mask_of" "mask_of" 45 1 ["width"] (S "minismt.terms" 337) (fw 143 346 13 none "signed_of" "signed_of" 47 2 ["x","width"] (S "minismt.terms" 337) (fw 150 354 14 none "one_value" "one_value" 49 3 ["op","x","width"] (S "minismt.terms" 337) r)))))))))))))))))))))))))))))))))))))))
noncomputable def fL2(P:Params)(r:List Obj):List Obj:=fw 157 363 15 none "divided_value" "divided_value" 55 3 ["x","y","width"] (S "minismt.terms" 337) (fw 164 372 16 none "rest_value" "rest_value" 57 2 ["x","y"] (S "minismt.terms" 337) (fw 171 380 17 none "shifted_value" "shifted_value" 59 4 ["op","x","y","width"] (S "minismt.terms" 337) (fw 178 390 18 none "two_value" "two_value" 63 4 ["op","x","y","width"] (S "minismt.terms" 337) (fw 185 400 19 none "ask_value" "ask_value" 83 4 ["op","x","y","width"] (S "minismt.terms" 337) (fw 192 410 20 none "extract_value" "extract_value" 91 3 ["x","high","low"] (S "minismt.terms" 337) (fw 199 419 21 none "concat_value" "concat_value" 93 3 ["x","y","width_of_y"] (S "minismt.terms" 337) (fw 206 428 22 none "sign_extended" "sign_extended" 95 3 ["x","width","many"] (S "minismt.terms" 337) (fw 213 437 23 none "bit_value" "bit_value" 97 2 ["x","i"] (S "minismt.terms" 337) (fw 220 445 24 none "power_of" "power_of" 99 1 ["x"] (S "minismt.terms" 337) (ts [("bvand",464),("bvor",465),("bvxor",466),("bvadd",467),("bvsub",468),("bvmul",469),("bvshl",470),("bvlshr",471),("bvudiv",472),("bvurem",473)]::(ts [("bvult",475),("bvule",476),("bvslt",477),("bvsle",478)]::(ts [("true",480),("false",481),("num",482),("bvnum",483)]::(ts []::(ob (.type "builtin_function_or_method") none (.fields [(.builtin "type.__prepare__"),(.type "type")].toArray) []::(ob (.type "dict") none (.dict [en P (s "__module__") 492 (S "minismt.terms" 337),en P (s "__qualname__") 494 (S "Bank" 493),en P (s "__firstlineno__") 496 (.int 109 495),en P (s "__init__") 503 (.ref 243),en P (s "sort_name") 511 (.ref 250),en P (s "declare_sort") 519 (.ref 257),en P (s "width_of") 527 (.ref 264),en P (s "is_number_sort") 535 (.ref 271),en P (s "is_free_sort") 543 (.ref 278),en P (s "declare_fun") 553 (.ref 285),en P (s "fresh_fun") 563 (.ref 292),en P (s "fresh_const") 572 (.ref 299),en P (s "fun_name") 580 (.ref 306),en P (s "fun_arg_sorts") 588 (.ref 313),en P (s "fun_result") 596 (.ref 320),en P (s "fun_count") 603 (.ref 327),en P (s "op") 611 (.ref 334),en P (s "args") 619 (.ref 341),en P (s "sort") 627 (.ref 348),en P (s "data") 635 (.ref 355),en P (s "width") 643 (.ref 362),en P (s "size") 650 (.ref 369),en P (s "make") 663 (.ref 376),en P (s "find_made") 674 (.ref 383),en P (s "is_value") 682 (.ref 390),en P (s "want") 692 (.ref 397),en P (s "want_all") 703 (.ref 404),en P (s "true_term") 710 (.ref 411),en P (s "false_term") 717 (.ref 418),en P (s "bool_term") 725 (.ref 425),en P (s "parts") 733 (.ref 432),en P (s "parts_of_all") 748 (.ref 439),en P (s "__static_attributes__") 762 (.ref 440)].toArray 33) []::(ts []::(ob .none none (.fields [(.int 111 0),(.int 4 0),(.ref 242),(.int 126 0),(.int 4 0),(.ref 249),(.int 129 0),(.int 4 0),(.ref 256),(.int 132 0),(.int 4 0),(.ref 263),(.int 135 0),(.int 4 0),(.ref 270),(.int 138 0),(.int 4 0),(.ref 277),(.int 141 0),(.int 4 0),(.ref 284),(.int 147 0),(.int 4 0),(.ref 291),(.int 150 0),(.int 4 0),(.ref 298),(.int 153 0),(.int 4 0),(.ref 305),(.int 156 0),(.int 4 0),(.ref 312),(.int 159 0),(.int 4 0),(.ref 319),(.int 162 0),(.int 4 0),(.ref 326),(.int 165 0),(.int 4 0),(.ref 333),(.int 168 0),(.int 4 0),(.ref 340),(.int 171 0),(.int 4 0),(.ref 347),(.int 174 0),(.int 4 0),(.ref 354),(.int 177 0),(.int 4 0),(.ref 361),(.int 180 0),(.int 4 0),(.ref 368),(.int 183 0),(.int 4 0),(.ref 375),(.int 195 0),(.int 4 0),(.ref 382),(.int 198 0),(.int 4 0),(.ref 389),(.int 201 0),(.int 4 0),(.ref 396),(.int 205 0),(.int 4 0),(.ref 403),(.int 209 0),(.int 4 0),(.ref 410),(.int 212 0),(.int 4 0),(.ref 417),(.int 215 0),(.int 4 0),(.ref 424),(.int 218 0),(.int 4 0),(.ref 431),(.int 221 0),(.int 4 0),(.ref 438)].toArray) []::(cd "Bank" 487 "Bank" 488 489 109 0 0 0 0 233 false 181 234 .none .none .none 490 109 491::(ob (.type "frame") none .plain [(some (.ref 235)),(some (.ref 3)),(some (.ref 232)),none,(some (S "minismt.terms" 337)),none,(some (.ref 0))]::(fw 237 497 33 (some 0) "__init__" "Bank.__init__" 111 1 ["self"] (S "minismt.terms" 337) (fw 244 504 33 (some 1) "sort_name" "Bank.sort_name" 126 2 ["self","s"] (S "minismt.terms" 337) (fw 251 512 33 (some 2) "declare_sort" "Bank.declare_sort" 129 2 ["self","name"] (S "minismt.terms" 337) (fw 258 520 33 (some 3) "width_of" "Bank.width_of" 132 2 ["self","s"] (S "minismt.terms" 337) (fw 265 528 33 (some 4) "is_number_sort" "Bank.is_number_sort" 135 2 ["self","s"] (S "minismt.terms" 337) (fw 272 536 33 (some 5) "is_free_sort" "Bank.is_free_sort" 138 2 ["self","s"] (S "minismt.terms" 337) (fw 279 544 33 (some 6) "declare_fun" "Bank.declare_fun" 141 4 ["self","name","arg_sorts","result"] (S "minismt.terms" 337) (fw 286 554 33 (some 7) "fresh_fun" "Bank.fresh_fun" 147 4 ["self","stem","arg_sorts","result"] (S "minismt.terms" 337) (fw 293 564 33 (some 8) "fresh_const" "Bank.fresh_const" 150 3 ["self","name","s"] (S "minismt.terms" 337) (fw 300 573 33 (some 9) "fun_name" "Bank.fun_name" 153 2 ["self","f"] (S "minismt.terms" 337) (fw 307 581 33 (some 10) "fun_arg_sorts" "Bank.fun_arg_sorts" 156 2 ["self","f"] (S "minismt.terms" 337) (fw 314 589 33 (some 11) "fun_result" "Bank.fun_result" 159 2 ["self","f"] (S "minismt.terms" 337) (fw 321 597 33 (some 12) "fun_count" "Bank.fun_count" 162 1 ["self"] (S "minismt.terms" 337) (fw 328 604 33 (some 13) "op" "Bank.op" 165 2 ["self","t"] (S "minismt.terms" 337) (fw 335 612 33 (some 14) "args" "Bank.args" 168 2 ["self","t"] (S "minismt.terms" 337) (fw 342 620 33 (some 15) "sort" "Bank.sort" 171 2 ["self","t"] (S "minismt.terms" 337) (fw 349 628 33 (some 16) "data" "Bank.data" 174 2 ["self","t"] (S "minismt.terms" 337) (fw 356 636 33 (some 17) "width" "Bank.width" 177 2 ["self","t"] (S "minismt.terms" 337) (fw 363 644 33 (some 18) "size" "Bank.size" 180 1 ["self"] (S "minismt.terms" 337) (fw 370 651 33 (some 19) "make" "Bank.make" 183 5 ["self","op","args","sort","data","key","found"] (S "minismt.terms" 337) r)))))))))))))))))))))))))))))))))))))))
noncomputable def fL3(P:Params)(r:List Obj):List Obj:=fw 377 664 33 (some 20) "find_made" "Bank.find_made" 195 5 ["self","op","args","sort","data"] (S "minismt.terms" 337) (fw 384 675 33 (some 21) "is_value" "Bank.is_value" 198 2 ["self","t"] (S "minismt.terms" 337) (fw 391 683 33 (some 22) "want" "Bank.want" 201 4 ["self","t","s","where"] (S "minismt.terms" 337) (fw 398 693 33 (some 23) "want_all" "Bank.want_all" 205 4 ["self","some","s","where","t"] (S "minismt.terms" 337) (fw 405 704 33 (some 24) "true_term" "Bank.true_term" 209 1 ["self"] (S "minismt.terms" 337) (fw 412 711 33 (some 25) "false_term" "Bank.false_term" 212 1 ["self"] (S "minismt.terms" 337) (fw 419 718 33 (some 26) "bool_term" "Bank.bool_term" 215 2 ["self","holds"] (S "minismt.terms" 337) (fw 426 726 33 (some 27) "parts" "Bank.parts" 218 2 ["self","t"] (S "minismt.terms" 337) (fw 433 734 33 (some 28) "parts_of_all" "Bank.parts_of_all" 221 2 ["self","some","found","done","root","stack","t","is_open","part"] (S "minismt.terms" 337) (ts [("false_number",749),("fresh_count",750),("fun_args",751),("fun_names",752),("fun_results",753),("numbers",754),("sort_names",755),("sort_widths",756),("term_args",757),("term_datas",758),("term_ops",759),("term_sorts",760),("true_number",761)]::(ob (.type "dict") none (.dict [en P (s "__module__") 492 (S "minismt.terms" 337),en P (s "__firstlineno__") 496 (.int 109 495),en P (s "__init__") 503 (.ref 243),en P (s "sort_name") 511 (.ref 250),en P (s "declare_sort") 519 (.ref 257),en P (s "width_of") 527 (.ref 264),en P (s "is_number_sort") 535 (.ref 271),en P (s "is_free_sort") 543 (.ref 278),en P (s "declare_fun") 553 (.ref 285),en P (s "fresh_fun") 563 (.ref 292),en P (s "fresh_const") 572 (.ref 299),en P (s "fun_name") 580 (.ref 306),en P (s "fun_arg_sorts") 588 (.ref 313),en P (s "fun_result") 596 (.ref 320),en P (s "fun_count") 603 (.ref 327),en P (s "op") 611 (.ref 334),en P (s "args") 619 (.ref 341),en P (s "sort") 627 (.ref 348),en P (s "data") 635 (.ref 355),en P (s "width") 643 (.ref 362),en P (s "size") 650 (.ref 369),en P (s "make") 663 (.ref 376),en P (s "find_made") 674 (.ref 383),en P (s "is_value") 682 (.ref 390),en P (s "want") 692 (.ref 397),en P (s "want_all") 703 (.ref 404),en P (s "true_term") 710 (.ref 411),en P (s "false_term") 717 (.ref 418),en P (s "bool_term") 725 (.ref 425),en P (s "parts") 733 (.ref 432),en P (s "parts_of_all") 748 (.ref 439),en P (s "__static_attributes__") 762 (.ref 440),en P (s "__dict__") 764 (.ref 443),en P (s "__weakref__") 766 (.ref 444),en P (s "__doc__") 767 .none].toArray 4) []::(ob (.type "type") none (.cls ({ name:=(s "Bank"),bases:=[(.type "object")],mro:=[(.ref 442),(.type "object")],ns:=441,qualname:=(s "Bank"),hasDict:=true,slotNames:=[],subclasses:=[(.ref 547)],abstract:=false,collection:=none,hasDel:=false }:ClassData)) [none,none,(some (S "Bank" 485)),(some (S "Bank" 493)),(some (.builtin "object.__new__")),(some (.bool true))]::(ob (.type "getset_descriptor") none (.fields [(S "__dict__" 763),(.ref 442),(.builtin "function.__dict__"),(.builtin "function.__dict__#set")].toArray) []::(ob (.type "getset_descriptor") none (.fields [(S "__weakref__" 765),(.ref 442),(.builtin "ExceptionGroup.__weakref__"),.none].toArray) []::(ob (.type "super") none (.fields [(.ref 442),(.ref 442),(.ref 442)].toArray) []::(ob (.type "builtin_function_or_method") none (.fields [(.builtin "object.__init_subclass__"),(.ref 442)].toArray) []::(tp [(.ref 442)]::(ob (.type "builtin_function_or_method") none (.fields [(.builtin "type.__prepare__"),(.type "type")].toArray) []::(ob (.type "dict") none (.dict [en P (s "__module__") 777 (S "minismt.terms" 337),en P (s "__qualname__") 779 (S "BoolBank" 778),en P (s "__firstlineno__") 781 (.int 238 780),en P (s "not_of") 789 (.ref 460),en P (s "and_of") 797 (.ref 467),en P (s "or_of") 805 (.ref 474),en P (s "xor_of") 814 (.ref 481),en P (s "implies_of") 823 (.ref 488),en P (s "iff") 832 (.ref 495),en P (s "eq") 841 (.ref 502),en P (s "distinct") 849 (.ref 509),en P (s "ite") 859 (.ref 516),en P (s "app") 871 (.ref 523),en P (s "folded") 880 (.ref 530),en P (s "with_args") 889 (.ref 537),en P (s "replaced") 898 (.ref 544),en P (s "__static_attributes__") 899 (.ref 545)].toArray 17) []::(ts []::(ob .none none (.fields [(.int 240 0),(.int 4 0),(.ref 459),(.int 250 0),(.int 4 0),(.ref 466),(.int 256 0),(.int 4 0),(.ref 473),(.int 262 0),(.int 4 0),(.ref 480),(.int 266 0),(.int 4 0),(.ref 487),(.int 269 0),(.int 4 0),(.ref 494),(.int 273 0),(.int 4 0),(.ref 501),(.int 279 0),(.int 4 0),(.ref 508),(.int 285 0),(.int 4 0),(.ref 515),(.int 290 0),(.int 4 0),(.ref 522),(.int 298 0),(.int 4 0),(.ref 529),(.int 307 0),(.int 4 0),(.ref 536),(.int 310 0),(.int 4 0),(.ref 543)].toArray) []::(cd "BoolBank" 772 "BoolBank" 773 774 238 0 0 0 0 450 false 181 451 .none .none .none 775 238 776::(ob (.type "frame") none .plain [(some (.ref 452)),(some (.ref 3)),(some (.ref 449)),none,(some (S "minismt.terms" 337)),none,(some (.ref 0))]::(fw 454 782 34 (some 0) "not_of" "BoolBank.not_of" 240 2 ["self","t"] (S "minismt.terms" 337) (fw 461 790 34 (some 1) "and_of" "BoolBank.and_of" 250 2 ["self","some"] (S "minismt.terms" 337) (fw 468 798 34 (some 2) "or_of" "BoolBank.or_of" 256 2 ["self","some"] (S "minismt.terms" 337) (fw 475 806 34 (some 3) "xor_of" "BoolBank.xor_of" 262 3 ["self","a","b"] (S "minismt.terms" 337) (fw 482 815 34 (some 4) "implies_of" "BoolBank.implies_of" 266 3 ["self","a","b"] (S "minismt.terms" 337) (fw 489 824 34 (some 5) "iff" "BoolBank.iff" 269 3 ["self","a","b"] (S "minismt.terms" 337) (fw 496 833 34 (some 6) "eq" "BoolBank.eq" 273 3 ["self","a","b"] (S "minismt.terms" 337) (fw 503 842 34 (some 7) "distinct" "BoolBank.distinct" 279 2 ["self","some"] (S "minismt.terms" 337) (fw 510 850 34 (some 8) "ite" "BoolBank.ite" 285 4 ["self","c","a","b"] (S "minismt.terms" 337) (fw 517 860 34 (some 9) "app" "BoolBank.app" 290 3 ["self","f","some","sorts","t","s"] (S "minismt.terms" 337) (fw 524 872 34 (some 10) "folded" "BoolBank.folded" 298 3 ["self","t","args"] (S "minismt.terms" 337) (fw 531 881 34 (some 11) "with_args" "BoolBank.with_args" 307 3 ["self","t","args"] (S "minismt.terms" 337) (fw 538 890 34 (some 12) "replaced" "BoolBank.replaced" 310 3 ["self","t","table"] (S "minismt.terms" 337) (ts []::(ob (.type "dict") none (.dict [en P (s "__module__") 777 (S "minismt.terms" 337),en P (s "__firstlineno__") 781 (.int 238 780),en P (s "not_of") 789 (.ref 460),en P (s "and_of") 797 (.ref 467),en P (s "or_of") 805 (.ref 474),en P (s "xor_of") 814 (.ref 481),en P (s "implies_of") 823 (.ref 488),en P (s "iff") 832 (.ref 495),en P (s "eq") 841 (.ref 502),en P (s "distinct") 849 (.ref 509),en P (s "ite") 859 (.ref 516),en P (s "app") 871 (.ref 523),en P (s "folded") 880 (.ref 530),en P (s "with_args") 889 (.ref 537),en P (s "replaced") 898 (.ref 544),en P (s "__static_attributes__") 899 (.ref 545),en P (s "__doc__") 900 .none].toArray 2) []::(ob (.type "type") none (.cls ({ name:=(s "BoolBank"),bases:=[(.ref 442)],mro:=[(.ref 547),(.ref 442),(.type "object")],ns:=546,qualname:=(s "BoolBank"),hasDict:=true,slotNames:=[],subclasses:=[(.ref 643)],abstract:=false,collection:=none,hasDel:=false }:ClassData)) [(some (.ref 447)),none,(some (S "BoolBank" 770)),(some (S "BoolBank" 778)),(some (.builtin "object.__new__")),(some (.bool true))]::(ob (.type "super") none (.fields [(.ref 547),(.ref 547),(.ref 547)].toArray) []::r)))))))))))))))))))))))))))))))))))))))
noncomputable def fL4(P:Params)(r:List Obj):List Obj:=ob (.type "builtin_function_or_method") none (.fields [(.builtin "object.__init_subclass__"),(.ref 547)].toArray) []::(fw 550 903 35 none "want_small" "want_small" 312 1 ["value"] (S "minismt.terms" 337) (tp [(.ref 547)]::(ob (.type "builtin_function_or_method") none (.fields [(.builtin "type.__prepare__"),(.type "type")].toArray) []::(ob (.type "dict") none (.dict [en P (s "__module__") 917 (S "minismt.terms" 337),en P (s "__qualname__") 919 (S "NumberBank" 918),en P (s "__firstlineno__") 921 (.int 315 920),en P (s "num") 930 (.ref 570),en P (s "want_number") 939 (.ref 577),en P (s "plus") 947 (.ref 584),en P (s "times_num") 957 (.ref 591),en P (s "times") 966 (.ref 598),en P (s "over_num") 975 (.ref 605),en P (s "negative") 983 (.ref 612),en P (s "minus") 992 (.ref 619),en P (s "le") 1001 (.ref 626),en P (s "lt") 1010 (.ref 633),en P (s "with_args") 1019 (.ref 640),en P (s "__static_attributes__") 1020 (.ref 641)].toArray 15) []::(ts []::(ob .none none (.fields [(.int 317 0),(.int 4 0),(.ref 569),(.int 325 0),(.int 4 0),(.ref 576),(.int 329 0),(.int 4 0),(.ref 583),(.int 332 0),(.int 4 0),(.ref 590),(.int 339 0),(.int 4 0),(.ref 597),(.int 348 0),(.int 4 0),(.ref 604),(.int 351 0),(.int 4 0),(.ref 611),(.int 354 0),(.int 4 0),(.ref 618),(.int 357 0),(.int 4 0),(.ref 625),(.int 360 0),(.int 4 0),(.ref 632),(.int 363 0),(.int 4 0),(.ref 639)].toArray) []::(cd "NumberBank" 912 "NumberBank" 913 914 315 0 0 0 0 560 false 181 561 .none .none .none 915 315 916::(ob (.type "frame") none .plain [(some (.ref 562)),(some (.ref 3)),(some (.ref 559)),none,(some (S "minismt.terms" 337)),none,(some (.ref 0))]::(fw 564 922 36 (some 0) "num" "NumberBank.num" 317 3 ["self","value","s"] (S "minismt.terms" 337) (fw 571 931 36 (some 1) "want_number" "NumberBank.want_number" 325 3 ["self","t","where"] (S "minismt.terms" 337) (fw 578 940 36 (some 2) "plus" "NumberBank.plus" 329 2 ["self","some"] (S "minismt.terms" 337) (fw 585 948 36 (some 3) "times_num" "NumberBank.times_num" 332 3 ["self","value","t","s"] (S "minismt.terms" 337) (fw 592 958 36 (some 4) "times" "NumberBank.times" 339 3 ["self","a","b"] (S "minismt.terms" 337) (fw 599 967 36 (some 5) "over_num" "NumberBank.over_num" 348 3 ["self","t","value"] (S "minismt.terms" 337) (fw 606 976 36 (some 6) "negative" "NumberBank.negative" 351 2 ["self","t"] (S "minismt.terms" 337) (fw 613 984 36 (some 7) "minus" "NumberBank.minus" 354 3 ["self","a","b"] (S "minismt.terms" 337) (fw 620 993 36 (some 8) "le" "NumberBank.le" 357 3 ["self","a","b"] (S "minismt.terms" 337) (fw 627 1002 36 (some 9) "lt" "NumberBank.lt" 360 3 ["self","a","b"] (S "minismt.terms" 337) (fw 634 1011 36 (some 10) "with_args" "NumberBank.with_args" 363 3 ["self","t","args"] (S "minismt.terms" 337) (ts []::(ob (.type "dict") none (.dict [en P (s "__module__") 917 (S "minismt.terms" 337),en P (s "__firstlineno__") 921 (.int 315 920),en P (s "num") 930 (.ref 570),en P (s "want_number") 939 (.ref 577),en P (s "plus") 947 (.ref 584),en P (s "times_num") 957 (.ref 591),en P (s "times") 966 (.ref 598),en P (s "over_num") 975 (.ref 605),en P (s "negative") 983 (.ref 612),en P (s "minus") 992 (.ref 619),en P (s "le") 1001 (.ref 626),en P (s "lt") 1010 (.ref 633),en P (s "with_args") 1019 (.ref 640),en P (s "__static_attributes__") 1020 (.ref 641),en P (s "__doc__") 1021 .none].toArray 2) []::(ob (.type "type") none (.cls ({ name:=(s "NumberBank"),bases:=[(.ref 547)],mro:=[(.ref 643),(.ref 547),(.ref 442),(.type "object")],ns:=642,qualname:=(s "NumberBank"),hasDict:=true,slotNames:=[],subclasses:=[(.ref 762)],abstract:=false,collection:=none,hasDel:=false }:ClassData)) [(some (.ref 557)),none,(some (S "NumberBank" 910)),(some (S "NumberBank" 918)),(some (.builtin "object.__new__")),(some (.bool true))]::(ob (.type "super") none (.fields [(.ref 643),(.ref 643),(.ref 643)].toArray) []::(ob (.type "builtin_function_or_method") none (.fields [(.builtin "object.__init_subclass__"),(.ref 643)].toArray) []::(tp [(.ref 643)]::(ob (.type "builtin_function_or_method") none (.fields [(.builtin "type.__prepare__"),(.type "type")].toArray) []::(ob (.type "dict") none (.dict [en P (s "__module__") 1031 (S "minismt.terms" 337),en P (s "__qualname__") 1033 (S "TermBank" 1032),en P (s "__firstlineno__") 1035 (.int 367 1034),en P (s "__init__") 1043 (.ref 661),en P (s "bv_sort") 1051 (.ref 668),en P (s "find_bv_sort") 1059 (.ref 675),en P (s "want_bits") 1068 (.ref 682),en P (s "bv_num") 1078 (.ref 689),en P (s "bv_one") 1087 (.ref 696),en P (s "bv_two") 1097 (.ref 703),en P (s "concat") 1106 (.ref 710),en P (s "extract") 1116 (.ref 717),en P (s "zero_extend") 1125 (.ref 724),en P (s "sign_extend") 1134 (.ref 731),en P (s "want_place") 1144 (.ref 738),en P (s "bit") 1153 (.ref 745),en P (s "carry") 1163 (.ref 752),en P (s "below") 1173 (.ref 759),en P (s "__static_attributes__") 1175 (.ref 760),en P (s "__classcell__") 1176 (.ref 649)].toArray 20) []::(ob (.type "cell") none (.cell (some (.ref 762))) []::(ts []::(ob .none none (.fields [(.int 369 0),(.int 4 0),(.ref 660),(.int 373 0),(.int 4 0),(.ref 667),(.int 384 0),(.int 4 0),(.ref 674),(.int 387 0),(.int 4 0),(.ref 681),(.int 391 0),(.int 4 0),(.ref 688),(.int 395 0),(.int 4 0),(.ref 695),(.int 401 0),(.int 4 0),(.ref 702),(.int 410 0),(.int 4 0),(.ref 709),(.int 415 0),(.int 4 0),(.ref 716),(.int 421 0),(.int 4 0),(.ref 723),(.int 427 0),(.int 4 0),(.ref 730),(.int 433 0),(.int 4 0),(.ref 737),(.int 437 0),(.int 4 0),(.ref 744),(.int 443 0),(.int 4 0),(.ref 751),(.int 446 0),(.int 4 0),(.ref 758)].toArray) []::(cd "TermBank" 1026 "TermBank" 1027 1028 367 0 0 0 0 650 false 181 651 .none .none .none 1029 367 1030::(ob (.type "frame") none .plain [(some (.ref 652)),(some (.ref 3)),(some (.ref 648)),none,(some (S "minismt.terms" 337)),none,(some (.ref 0))]::(tp [(.ref 649)]::(fb 655 1036 37 (some 0) "__init__" "TermBank.__init__" 369 1 0 0 3 ["__class__"] ["self"] (ff (fd 3 (st 37 (some 0)) (s "TermBank.__init__") [((s "__class__"),649)] .none .none .none (S "minismt.terms" 337) (.ref 660) (.ref 654))::(fw 662 1044 37 (some 1) "bv_sort" "TermBank.bv_sort" 373 2 ["self","width"] (S "minismt.terms" 337) (fw 669 1052 37 (some 2) "find_bv_sort" "TermBank.find_bv_sort" 384 2 ["self","width"] (S "minismt.terms" 337) (fw 676 1060 37 (some 3) "want_bits" "TermBank.want_bits" 387 3 ["self","t","where"] (S "minismt.terms" 337) (fw 683 1069 37 (some 4) "bv_num" "TermBank.bv_num" 391 3 ["self","value","width","s"] (S "minismt.terms" 337) r)))))))))))))))))))))))))))))))))))))))
noncomputable def fL5(P:Params)(r:List Obj):List Obj:=fw 690 1079 37 (some 5) "bv_one" "TermBank.bv_one" 395 3 ["self","op","t"] (S "minismt.terms" 337) (fw 697 1088 37 (some 6) "bv_two" "TermBank.bv_two" 401 4 ["self","op","a","b"] (S "minismt.terms" 337) (fw 704 1098 37 (some 7) "concat" "TermBank.concat" 410 3 ["self","a","b"] (S "minismt.terms" 337) (fw 711 1107 37 (some 8) "extract" "TermBank.extract" 415 4 ["self","high","low","t"] (S "minismt.terms" 337) (fw 718 1117 37 (some 9) "zero_extend" "TermBank.zero_extend" 421 3 ["self","many","t"] (S "minismt.terms" 337) (fw 725 1126 37 (some 10) "sign_extend" "TermBank.sign_extend" 427 3 ["self","many","t"] (S "minismt.terms" 337) (fw 732 1135 37 (some 11) "want_place" "TermBank.want_place" 433 4 ["self","i","t","where"] (S "minismt.terms" 337) (fw 739 1145 37 (some 12) "bit" "TermBank.bit" 437 3 ["self","i","t"] (S "minismt.terms" 337) (fw 746 1154 37 (some 13) "carry" "TermBank.carry" 443 4 ["self","i","a","b"] (S "minismt.terms" 337) (fw 753 1164 37 (some 14) "below" "TermBank.below" 446 4 ["self","i","a","b"] (S "minismt.terms" 337) (ts [("bv_numbers",1174)]::(ob (.type "dict") none (.dict [en P (s "__module__") 1031 (S "minismt.terms" 337),en P (s "__firstlineno__") 1035 (.int 367 1034),en P (s "__init__") 1043 (.ref 661),en P (s "bv_sort") 1051 (.ref 668),en P (s "find_bv_sort") 1059 (.ref 675),en P (s "want_bits") 1068 (.ref 682),en P (s "bv_num") 1078 (.ref 689),en P (s "bv_one") 1087 (.ref 696),en P (s "bv_two") 1097 (.ref 703),en P (s "concat") 1106 (.ref 710),en P (s "extract") 1116 (.ref 717),en P (s "zero_extend") 1125 (.ref 724),en P (s "sign_extend") 1134 (.ref 731),en P (s "want_place") 1144 (.ref 738),en P (s "bit") 1153 (.ref 745),en P (s "carry") 1163 (.ref 752),en P (s "below") 1173 (.ref 759),en P (s "__static_attributes__") 1175 (.ref 760),en P (s "__doc__") 1177 .none].toArray 3) []::(ob (.type "type") none (.cls ({ name:=(s "TermBank"),bases:=[(.ref 643)],mro:=[(.ref 762),(.ref 643),(.ref 547),(.ref 442),(.type "object")],ns:=761,qualname:=(s "TermBank"),hasDict:=true,slotNames:=[],subclasses:=[],abstract:=false,collection:=none,hasDel:=false }:ClassData)) [(some (.ref 646)),none,(some (S "TermBank" 1024)),(some (S "TermBank" 1032)),(some (.builtin "object.__new__")),(some (.bool true))]::(ob (.type "super") none (.fields [(.ref 762),(.ref 762),(.ref 762)].toArray) []::(ob (.type "builtin_function_or_method") none (.fields [(.builtin "object.__init_subclass__"),(.ref 762)].toArray) []::(ts [("bvand",1182),("bvor",1183),("bvxor",1184),("bvadd",1185),("bvmul",1186)]::(ts []::(ob (.type "builtin_function_or_method") none (.fields [(.builtin "type.__prepare__"),(.type "type")].toArray) []::(ob (.type "dict") none (.dict [en P (s "__module__") 1199 (S "minismt.rewrite" 1180),en P (s "__qualname__") 1201 (S "BoolRewriter" 1200),en P (s "__firstlineno__") 1203 (.int 455 1202),en P (s "__init__") 1211 (.ref 779),en P (s "simplify") 1217 (.ref 784),en P (s "made") 1227 (.ref 791),en P (s "flat") 1241 (.ref 798),en P (s "thinned") 1247 (.ref 803),en P (s "joined") 1260 (.ref 810),en P (s "negated") 1268 (.ref 817),en P (s "parity") 1283 (.ref 824),en P (s "same") 1294 (.ref 831),en P (s "chosen_bool") 1304 (.ref 838),en P (s "chosen") 1314 (.ref 845),en P (s "equal") 1327 (.ref 853),en P (s "equal_others") 1338 (.ref 861),en P (s "equal_chosen") 1352 (.ref 869),en P (s "are_too_many") 1360 (.ref 876),en P (s "apart") 1366 (.ref 881),en P (s "__static_attributes__") 1371 (.ref 882)].toArray 20) []::(ts []::(ob .none none (.fields [(.int 457 0),(.int 4 0),(.ref 778),(.int 463 0),(.int 4 0),(.ref 783),(.int 472 0),(.int 4 0),(.ref 790),(.int 490 0),(.int 4 0),(.ref 797),(.int 505 0),(.int 4 0),(.ref 802),(.int 517 0),(.int 4 0),(.ref 809),(.int 527 0),(.int 4 0),(.ref 816),(.int 530 0),(.int 4 0),(.ref 823),(.int 549 0),(.int 4 0),(.ref 830),(.int 563 0),(.int 4 0),(.ref 837),(.int 576 0),(.int 4 0),(.ref 844),(.int 589 0),(.int 4 0),(.ref 852),(.int 601 0),(.int 4 0),(.ref 860),(.int 604 0),(.int 4 0),(.ref 868),(.int 610 0),(.int 4 0),(.ref 875),(.int 613 0),(.int 4 0),(.ref 880)].toArray) []::(cd "BoolRewriter" 1194 "BoolRewriter" 1195 1196 455 0 0 0 0 769 false 181 770 .none .none .none 1197 455 1198::(ob (.type "frame") none .plain [(some (.ref 771)),(some (.ref 3)),(some (.ref 768)),none,(some (S "minismt.rewrite" 1180)),none,(some (.ref 0))]::(fw 773 1204 42 (some 0) "__init__" "BoolRewriter.__init__" 457 2 ["self","bank"] (S "minismt.rewrite" 1180) (ts []::(nf::(t1 42 (some 1) "BoolRewriter.simplify"::(cd "simplify" 1212 "BoolRewriter.simplify" 1213 1214 463 2 0 0 3 780 true 181 781 .none .none (.ref 782) 1215 463 1216::(f3 42 (some 1) "BoolRewriter.simplify" (S "minismt.rewrite" 1180) 783::(fw 785 1218 42 (some 2) "made" "BoolRewriter.made" 472 3 ["self","t","args","op"] (S "minismt.rewrite" 1180) (fw 792 1228 42 (some 3) "flat" "BoolRewriter.flat" 490 3 ["self","op","some","unit","settling","found","stack","t"] (S "minismt.rewrite" 1180) (ts []::(nf::(t1 42 (some 4) "BoolRewriter.thinned"::(cd "thinned" 1242 "BoolRewriter.thinned" 1243 1244 505 3 0 0 3 799 true 181 800 .none .none (.ref 801) 1245 505 1246::(f3 42 (some 4) "BoolRewriter.thinned" (S "minismt.rewrite" 1180) 802::(fw 804 1248 42 (some 5) "joined" "BoolRewriter.joined" 517 3 ["self","op","some","settling","other","found","kept"] (S "minismt.rewrite" 1180) (fw 811 1261 42 (some 6) "negated" "BoolRewriter.negated" 527 2 ["self","t"] (S "minismt.rewrite" 1180) (fw 818 1269 42 (some 7) "parity" "BoolRewriter.parity" 530 2 ["self","some","found","is_odd","stack","t","kind","left","result"] (S "minismt.rewrite" 1180) (fw 825 1284 42 (some 8) "same" "BoolRewriter.same" 549 3 ["self","a","b","is_odd","result"] (S "minismt.rewrite" 1180) r)))))))))))))))))))))))))))))))))))))))
noncomputable def fL6(P:Params)(r:List Obj):List Obj:=fw 832 1295 42 (some 9) "chosen_bool" "BoolRewriter.chosen_bool" 563 4 ["self","c","a","b"] (S "minismt.rewrite" 1180) (fw 839 1305 42 (some 10) "chosen" "BoolRewriter.chosen" 576 4 ["self","c","a","b"] (S "minismt.rewrite" 1180) (tp [(.int 0 1315)]::(fb 847 1316 42 (some 11) "equal" "BoolRewriter.equal" 589 4 0 0 3 [] ["self","a","b","deep","value","other"] (ff (fd 3 (st 42 (some 11)) (s "BoolRewriter.equal") [] (.ref 846) .none .none (S "minismt.rewrite" 1180) (.ref 852) .none)::(tp [(.int 0 1328)]::(fb 855 1329 42 (some 12) "equal_others" "BoolRewriter.equal_others" 601 4 0 0 3 [] ["self","a","b","deep"] (ff (fd 3 (st 42 (some 12)) (s "BoolRewriter.equal_others") [] (.ref 854) .none .none (S "minismt.rewrite" 1180) (.ref 860) .none)::(tp [(.int 0 1339)]::(fb 863 1340 42 (some 13) "equal_chosen" "BoolRewriter.equal_chosen" 604 4 0 0 3 [] ["self","value","b","deep","c","first","second"] (ff (fd 3 (st 42 (some 13)) (s "BoolRewriter.equal_chosen") [] (.ref 862) .none .none (S "minismt.rewrite" 1180) (.ref 868) .none)::(fw 870 1353 42 (some 14) "are_too_many" "BoolRewriter.are_too_many" 610 2 ["self","args"] (S "minismt.rewrite" 1180) (ts []::(nf::(t1 42 (some 15) "BoolRewriter.apart"::(cd "apart" 1361 "BoolRewriter.apart" 1362 1363 613 3 0 0 3 877 true 181 878 .none .none (.ref 879) 1364 613 1365::(f3 42 (some 15) "BoolRewriter.apart" (S "minismt.rewrite" 1180) 880::(ts [("bank",1367),("known",1368),("no",1369),("yes",1370)]::(ob (.type "dict") none (.dict [en P (s "__module__") 1199 (S "minismt.rewrite" 1180),en P (s "__firstlineno__") 1203 (.int 455 1202),en P (s "__init__") 1211 (.ref 779),en P (s "simplify") 1217 (.ref 784),en P (s "made") 1227 (.ref 791),en P (s "flat") 1241 (.ref 798),en P (s "thinned") 1247 (.ref 803),en P (s "joined") 1260 (.ref 810),en P (s "negated") 1268 (.ref 817),en P (s "parity") 1283 (.ref 824),en P (s "same") 1294 (.ref 831),en P (s "chosen_bool") 1304 (.ref 838),en P (s "chosen") 1314 (.ref 845),en P (s "equal") 1327 (.ref 853),en P (s "equal_others") 1338 (.ref 861),en P (s "equal_chosen") 1352 (.ref 869),en P (s "are_too_many") 1360 (.ref 876),en P (s "apart") 1366 (.ref 881),en P (s "__static_attributes__") 1371 (.ref 882),en P (s "__dict__") 1373 (.ref 885),en P (s "__weakref__") 1375 (.ref 886),en P (s "__doc__") 1376 .none].toArray 4) []::(ob (.type "type") none (.cls ({ name:=(s "BoolRewriter"),bases:=[(.type "object")],mro:=[(.ref 884),(.type "object")],ns:=883,qualname:=(s "BoolRewriter"),hasDict:=true,slotNames:=[],subclasses:=[(.ref 1080)],abstract:=false,collection:=none,hasDel:=false }:ClassData)) [none,none,(some (S "BoolRewriter" 1192)),(some (S "BoolRewriter" 1200)),(some (.builtin "object.__new__")),(some (.bool true))]::(ob (.type "getset_descriptor") none (.fields [(S "__dict__" 1372),(.ref 884),(.builtin "function.__dict__"),(.builtin "function.__dict__#set")].toArray) []::(ob (.type "getset_descriptor") none (.fields [(S "__weakref__" 1374),(.ref 884),(.builtin "ExceptionGroup.__weakref__"),.none].toArray) []::(ob (.type "super") none (.fields [(.ref 884),(.ref 884),(.ref 884)].toArray) []::(ob (.type "builtin_function_or_method") none (.fields [(.builtin "object.__init_subclass__"),(.ref 884)].toArray) []::(tp [(.ref 884)]::(ob (.type "builtin_function_or_method") none (.fields [(.builtin "type.__prepare__"),(.type "type")].toArray) []::(ob (.type "dict") none (.dict [en P (s "__module__") 1386 (S "minismt.rewrite" 1180),en P (s "__qualname__") 1388 (S "BitsRewriter" 1387),en P (s "__firstlineno__") 1390 (.int 622 1389),en P (s "made") 1401 (.ref 904),en P (s "equal_others") 1413 (.ref 913),en P (s "are_too_many") 1423 (.ref 921),en P (s "is_bits") 1431 (.ref 928),en P (s "value_or") 1440 (.ref 935),en P (s "number") 1449 (.ref 942),en P (s "one_bits") 1458 (.ref 949),en P (s "two_bits") 1468 (.ref 956),en P (s "mixed_bits") 1479 (.ref 963),en P (s "is_turned") 1489 (.ref 970),en P (s "mixed_number") 1500 (.ref 977),en P (s "less_bits") 1509 (.ref 984),en P (s "shifted_bits") 1520 (.ref 991),en P (s "divided_bits") 1533 (.ref 998),en P (s "asked_bits") 1546 (.ref 1005),en P (s "put_together") 1557 (.ref 1012),en P (s "cut_out") 1571 (.ref 1019),en P (s "cut_within") 1584 (.ref 1026),en P (s "cut_here") 1595 (.ref 1033),en P (s "wider") 1604 (.ref 1040),en P (s "wider_signed") 1614 (.ref 1047),en P (s "equal_bits") 1625 (.ref 1055),en P (s "equal_number") 1649 (.ref 1063),en P (s "bit_of") 1662 (.ref 1070),en P (s "bit_within") 1674 (.ref 1077),en P (s "__static_attributes__") 1675 (.ref 1078),en P (s "__classcell__") 1676 (.ref 892)].toArray 30) []::(ob (.type "cell") none (.cell (some (.ref 1080))) []::(ts []::(ob .none none (.fields [(.int 624 0),(.int 4 0),(.ref 903),(.int 644 0),(.int 4 0),(.ref 912),(.int 647 0),(.int 4 0),(.ref 920),(.int 651 0),(.int 4 0),(.ref 927),(.int 654 0),(.int 4 0),(.ref 934),(.int 657 0),(.int 4 0),(.ref 941),(.int 660 0),(.int 4 0),(.ref 948),(.int 669 0),(.int 4 0),(.ref 955),(.int 680 0),(.int 4 0),(.ref 962),(.int 696 0),(.int 4 0),(.ref 969),(.int 701 0),(.int 4 0),(.ref 976),(.int 717 0),(.int 4 0),(.ref 983),(.int 726 0),(.int 4 0),(.ref 990),(.int 734 0),(.int 4 0),(.ref 997),(.int 749 0),(.int 4 0),(.ref 1004),(.int 768 0),(.int 4 0),(.ref 1011),(.int 782 0),(.int 4 0),(.ref 1018),(.int 794 0),(.int 4 0),(.ref 1025),(.int 812 0),(.int 4 0),(.ref 1032),(.int 822 0),(.int 4 0),(.ref 1039),(.int 831 0),(.int 4 0),(.ref 1046),(.int 843 0),(.int 4 0),(.ref 1054),(.int 854 0),(.int 4 0),(.ref 1062),(.int 883 0),(.int 4 0),(.ref 1069),(.int 898 0),(.int 4 0),(.ref 1076)].toArray) []::(cd "BitsRewriter" 1381 "BitsRewriter" 1382 1383 622 0 0 0 0 893 false 181 894 .none .none .none 1384 622 1385::(ob (.type "frame") none .plain [(some (.ref 895)),(some (.ref 3)),(some (.ref 891)),none,(some (S "minismt.rewrite" 1180)),none,(some (.ref 0))]::(tp [(.ref 892)]::(fb 898 1391 43 (some 0) "made" "BitsRewriter.made" 624 3 0 0 3 ["__class__"] ["self","t","args","op"] (ff (fd 3 (st 43 (some 0)) (s "BitsRewriter.made") [((s "__class__"),892)] .none .none .none (S "minismt.rewrite" 1180) (.ref 903) (.ref 897))::(tp [(.int 0 1402)]::(tp [(.ref 892)]::(fb 907 1403 43 (some 1) "equal_others" "BitsRewriter.equal_others" 644 4 0 0 3 ["__class__"] ["self","a","b","deep"] (ff (fd 3 (st 43 (some 1)) (s "BitsRewriter.equal_others") [((s "__class__"),892)] (.ref 905) .none .none (S "minismt.rewrite" 1180) (.ref 912) (.ref 906))::(tp [(.ref 892)]::r)))))))))))))))))))))))))))))))))))))))
noncomputable def fL7(P:Params)(r:List Obj):List Obj:=fb 915 1414 43 (some 2) "are_too_many" "BitsRewriter.are_too_many" 647 2 0 0 3 ["__class__"] ["self","args","width"] (ff (fd 3 (st 43 (some 2)) (s "BitsRewriter.are_too_many") [((s "__class__"),892)] .none .none .none (S "minismt.rewrite" 1180) (.ref 920) (.ref 914))::(fw 922 1424 43 (some 3) "is_bits" "BitsRewriter.is_bits" 651 2 ["self","t"] (S "minismt.rewrite" 1180) (fw 929 1432 43 (some 4) "value_or" "BitsRewriter.value_or" 654 3 ["self","t","other"] (S "minismt.rewrite" 1180) (fw 936 1441 43 (some 5) "number" "BitsRewriter.number" 657 3 ["self","value","like"] (S "minismt.rewrite" 1180) (fw 943 1450 43 (some 6) "one_bits" "BitsRewriter.one_bits" 660 3 ["self","op","a"] (S "minismt.rewrite" 1180) (fw 950 1459 43 (some 7) "two_bits" "BitsRewriter.two_bits" 669 4 ["self","op","a","b"] (S "minismt.rewrite" 1180) (fw 957 1469 43 (some 8) "mixed_bits" "BitsRewriter.mixed_bits" 680 4 ["self","op","a","b","inner"] (S "minismt.rewrite" 1180) (fw 964 1480 43 (some 9) "is_turned" "BitsRewriter.is_turned" 696 4 ["self","op","a","b"] (S "minismt.rewrite" 1180) (fw 971 1490 43 (some 10) "mixed_number" "BitsRewriter.mixed_number" 701 4 ["self","op","value","b","most"] (S "minismt.rewrite" 1180) (fw 978 1501 43 (some 11) "less_bits" "BitsRewriter.less_bits" 717 3 ["self","a","b"] (S "minismt.rewrite" 1180) (fw 985 1510 43 (some 12) "shifted_bits" "BitsRewriter.shifted_bits" 726 4 ["self","op","a","b","many"] (S "minismt.rewrite" 1180) (fw 992 1521 43 (some 13) "divided_bits" "BitsRewriter.divided_bits" 734 4 ["self","op","a","b","value","is_rest","places"] (S "minismt.rewrite" 1180) (fw 999 1534 43 (some 14) "asked_bits" "BitsRewriter.asked_bits" 749 4 ["self","op","a","b","width","least","most"] (S "minismt.rewrite" 1180) (fw 1006 1547 43 (some 15) "put_together" "BitsRewriter.put_together" 768 3 ["self","a","b","width","value"] (S "minismt.rewrite" 1180) (fw 1013 1558 43 (some 16) "cut_out" "BitsRewriter.cut_out" 782 4 ["self","high","low","a","many","within","found","lap"] (S "minismt.rewrite" 1180) (fw 1020 1572 43 (some 17) "cut_within" "BitsRewriter.cut_within" 794 4 ["self","high","low","a","kind","args","seam"] (S "minismt.rewrite" 1180) (fw 1027 1585 43 (some 18) "cut_here" "BitsRewriter.cut_here" 812 4 ["self","high","low","a","kind"] (S "minismt.rewrite" 1180) (fw 1034 1596 43 (some 19) "wider" "BitsRewriter.wider" 822 3 ["self","many","a"] (S "minismt.rewrite" 1180) (fw 1041 1605 43 (some 20) "wider_signed" "BitsRewriter.wider_signed" 831 3 ["self","many","a","width"] (S "minismt.rewrite" 1180) (tp [(.int 0 1615)]::(fb 1049 1616 43 (some 21) "equal_bits" "BitsRewriter.equal_bits" 843 4 0 0 3 [] ["self","a","b","deep"] (ff (fd 3 (st 43 (some 21)) (s "BitsRewriter.equal_bits") [] (.ref 1048) .none .none (S "minismt.rewrite" 1180) (.ref 1054) .none)::(tp [(.int 0 1626)]::(fb 1057 1627 43 (some 22) "equal_number" "BitsRewriter.equal_number" 854 4 0 0 3 [] ["self","value","b","deep","kind","args","width","back","seam","high","low","both","part","wanted","known","inner","is_right"] (ff (fd 3 (st 43 (some 22)) (s "BitsRewriter.equal_number") [] (.ref 1056) .none .none (S "minismt.rewrite" 1180) (.ref 1062) .none)::(fw 1064 1650 43 (some 23) "bit_of" "BitsRewriter.bit_of" 883 3 ["self","i","a","many","within","found","lap"] (S "minismt.rewrite" 1180) (fw 1071 1663 43 (some 24) "bit_within" "BitsRewriter.bit_within" 898 3 ["self","i","a","kind","args","seam"] (S "minismt.rewrite" 1180) (ts []::(ob (.type "dict") none (.dict [en P (s "__module__") 1386 (S "minismt.rewrite" 1180),en P (s "__firstlineno__") 1390 (.int 622 1389),en P (s "made") 1401 (.ref 904),en P (s "equal_others") 1413 (.ref 913),en P (s "are_too_many") 1423 (.ref 921),en P (s "is_bits") 1431 (.ref 928),en P (s "value_or") 1440 (.ref 935),en P (s "number") 1449 (.ref 942),en P (s "one_bits") 1458 (.ref 949),en P (s "two_bits") 1468 (.ref 956),en P (s "mixed_bits") 1479 (.ref 963),en P (s "is_turned") 1489 (.ref 970),en P (s "mixed_number") 1500 (.ref 977),en P (s "less_bits") 1509 (.ref 984),en P (s "shifted_bits") 1520 (.ref 991),en P (s "divided_bits") 1533 (.ref 998),en P (s "asked_bits") 1546 (.ref 1005),en P (s "put_together") 1557 (.ref 1012),en P (s "cut_out") 1571 (.ref 1019),en P (s "cut_within") 1584 (.ref 1026),en P (s "cut_here") 1595 (.ref 1033),en P (s "wider") 1604 (.ref 1040),en P (s "wider_signed") 1614 (.ref 1047),en P (s "equal_bits") 1625 (.ref 1055),en P (s "equal_number") 1649 (.ref 1063),en P (s "bit_of") 1662 (.ref 1070),en P (s "bit_within") 1674 (.ref 1077),en P (s "__static_attributes__") 1675 (.ref 1078),en P (s "__doc__") 1677 .none].toArray 3) []::(ob (.type "type") none (.cls ({ name:=(s "BitsRewriter"),bases:=[(.ref 884)],mro:=[(.ref 1080),(.ref 884),(.type "object")],ns:=1079,qualname:=(s "BitsRewriter"),hasDict:=true,slotNames:=[],subclasses:=[],abstract:=false,collection:=none,hasDel:=false }:ClassData)) [(some (.ref 889)),none,(some (S "BitsRewriter" 1379)),(some (S "BitsRewriter" 1387)),(some (.builtin "object.__new__")),(some (.bool true))]::(ob (.type "super") none (.fields [(.ref 1080),(.ref 1080),(.ref 1080)].toArray) []::(ob (.type "builtin_function_or_method") none (.fields [(.builtin "object.__init_subclass__"),(.ref 1080)].toArray) []::(fw 1083 1682 45 none "_law_sip" "_law_sip" 913 2 ["mug","many","k"] (S "law_zu0063_05" 1680) (fw 1090 1691 46 none "_law_term" "_law_term" 917 5 ["mug","bank","rewriter","x","width","way","number"] (S "law_zu0063_05" 1680) (ts []::(nf::(t1 47 none "_law_worth"::(cd "_law_worth" 1704 "_law_worth" 1705 1706 926 3 0 0 3 1097 true 181 1098 .none .none (.ref 1099) 1707 926 1708::(f3 47 none "_law_worth" (S "law_zu0063_05" 1680) 1100::r)))))))))))))))))))))))))))))))))))))))
noncomputable def fL8(P:Params)(r:List Obj):List Obj:=ts []::(nf::(t1 48 none "_law_ops"::(cd "_law_ops" 1710 "_law_ops" 1711 1712 948 2 0 0 3 1102 true 181 1103 .none .none (.ref 1104) 1713 948 1714::(f3 48 none "_law_ops" (S "law_zu0063_05" 1680) 1105::(ts []::(nf::(t1 49 none "_law_counted_right"::(cd "_law_counted_right" 1716 "_law_counted_right" 1717 1718 950 5 0 0 3 1107 true 181 1108 .none .none (.ref 1109) 1719 950 1720::(f3 49 none "_law_counted_right" (S "law_zu0063_05" 1680) 1110::(ts []::(nf::(t1 50 none "_law_two_right"::(cd "_law_two_right" 1722 "_law_two_right" 1723 1724 964 6 0 0 3 1112 true 181 1113 .none .none (.ref 1114) 1725 964 1726::(f3 50 none "_law_two_right" (S "law_zu0063_05" 1680) 1115::(ts []::(nf::(t1 51 none "law"::(cd "law" 1728 "law" 1729 1730 981 1 0 0 3 1117 true 181 1118 .none .none (.ref 1119) 1731 981 1732::(f3 51 none "law" (S "law_zu0063_05" 1680) 1120::r)))))))))))))))))))
noncomputable def finL(P:Params):List Obj:=fL0 P (fL1 P (fL2 P (fL3 P (fL4 P (fL5 P (fL6 P (fL7 P (fL8 P []))))))))
noncomputable def KP:List (Nat×List Nat):=[(0,[1,2,3,6,9,13,20,21,24,25,28,36,37,43,44,46,47,48,53,56]),(57,[6,7,9,10,15,18,25,26,28,29,34,37,44,45,47,48,56,57,63,64,70,71,77,78,84,85,91,92,98,99]),(157,[5,6,12,13,19,20,26,27,33,34,40,41,47,48,54,55,61,62,68,69,70,71,72,75,78,85,86,92,93,99,100,106,107,113,114,120,121,127,128,134,135,141,142,148,149,155,156,162,163,169,170,176,177,183,184,190,191,197,198,204,205,211,212,218,219]),(377,[5,6,12,13,19,20,26,27,33,34,40,41,47,48,54,55,61,62,64,65,66,67,72,75,82,83,89,90,96,97,103,104,110,111,117,118,124,125,131,132,138,139,145,146,152,153,159,160,166,167,169,170]),(549,[6,7,10,13,20,21,27,28,34,35,41,42,48,49,55,56,62,63,69,70,76,77,83,84,90,91,93,94,99,100,103,111,112,118,119,125,126,132,133,139,140]),(690,[5,6,12,13,19,20,26,27,33,34,40,41,47,48,54,55,61,62,68,69,71,72,75,78,81,88,89,93,94,100,101,107,108,112,113,119,120,126,127,133,134,140,141]),(832,[5,6,12,13,14,20,21,22,28,29,30,36,37,43,44,48,49,51,52,53,54,59,60,63,71,72,73,80,81]),(915,[5,6,12,13,19,20,26,27,33,34,40,41,47,48,54,55,61,62,68,69,75,76,82,83,89,90,96,97,103,104,110,111,117,118,124,125,131,132,133,139,140,141,147,148,154,155,161,162,164,165,173,174,180,181,185,186]),(1102,[3,4,8,9,13,14,18,19])]
noncomputable def KA:List Nat:=KP.flatMap fun p=>p.2.map fun i=>i+p.1
noncomputable def KF(P:Params):Frag:=(KP.zip [fL0 P [],fL1 P [],fL2 P [],fL3 P [],fL4 P [],fL5 P [],fL6 P [],fL7 P [],fL8 P []]).flatMap fun p=>p.1.2.map fun i=>(i+p.1.1,p.2[i]?.getD nf)
noncomputable def preL(P:Params):List Obj:=((((finL P).take 15).set 2 (boot_o_2 P)).set 3 (boot_o_3 P)).set 12 (nf)
noncomputable def T0(P:Params):BT:=mk 12 (((((finL P).take 15).set 2 (boot_o_2 P)).set 3 (boot_o_3 P)).set 12 (nf))
noncomputable def T1(P:Params):BT:=mk 12 (((((finL P).take 89).set 3 (ob (.type "dict") none (.dict [en P (s "__name__") 165 (S "minismt.errors" 194),en P (s "__doc__") 166 .none,en P (s "__package__") 167 .none,en P (s "__loader__") 168 (.builtin "__main__.__loader__#opaque"),en P (s "__spec__") 169 .none,en P (s "__annotations__") 170 (.ref 6),en P (s "__builtins__") 171 (.ref 4),en P (s "__file__") 173 (S "/claim/cut.py" 172),en P (s "__cached__") 174 .none,en P (s "_wall") 193 (.ref 21),en P (s "SmtError") 233 (.ref 47),en P (s "SortFault") 256 (.ref 67),en P (s "LimitFault") 279 (.ref 86)].toArray 13) [])).set 12 (ob .none none (.fields [(.int 1 0),(.int 0 0),(.ref 20),(.int 5 0),(.int 0 0),(.ref 28),(.int 13 0),(.int 0 0),(.ref 56),(.int 17 0),(.int 0 0),(.ref 75)].toArray) [])).set 47 (ob (.type "type") none (.cls ({ name:=(s "SmtError"),bases:=[(.type "Exception")],mro:=[(.ref 47),(.type "Exception"),(.type "BaseException"),(.type "object")],ns:=46,qualname:=(s "SmtError"),hasDict:=true,slotNames:=[],subclasses:=[(.ref 67),(.ref 86)],abstract:=false,collection:=none,hasDel:=false }:ClassData)) [(some (.ref 22)),none,(some (S "SmtError" 196)),(some (S "SmtError" 204)),(some (.builtin "Exception.__new__")),(some (.bool true))]))
noncomputable def T2(P:Params):BT:=mk 12 ((((finL P).take 230).set 3 (ob (.type "dict") none (.dict [en P (s "__name__") 165 (S "minismt.terms" 337),en P (s "__doc__") 166 .none,en P (s "__package__") 167 .none,en P (s "__loader__") 168 (.builtin "__main__.__loader__#opaque"),en P (s "__spec__") 169 .none,en P (s "__annotations__") 170 (.ref 6),en P (s "__builtins__") 171 (.ref 4),en P (s "__file__") 173 (S "/claim/cut.py" 172),en P (s "__cached__") 174 .none,en P (s "_wall") 193 (.ref 21),en P (s "SmtError") 233 (.ref 47),en P (s "SortFault") 256 (.ref 67),en P (s "LimitFault") 279 (.ref 86),en P (s "ModelFault") 302 (.ref 105),en P (s "gcd_of") 312 (.ref 114),en P (s "ratio") 321 (.ref 121),en P (s "mul") 329 (.ref 128),en P (s "is_whole") 336 (.ref 135),en P (s "mask_of") 345 (.ref 142),en P (s "signed_of") 353 (.ref 149),en P (s "one_value") 362 (.ref 156),en P (s "divided_value") 371 (.ref 163),en P (s "rest_value") 379 (.ref 170),en P (s "shifted_value") 389 (.ref 177),en P (s "two_value") 399 (.ref 184),en P (s "ask_value") 409 (.ref 191),en P (s "extract_value") 418 (.ref 198),en P (s "concat_value") 427 (.ref 205),en P (s "sign_extended") 436 (.ref 212),en P (s "bit_value") 444 (.ref 219),en P (s "power_of") 451 (.ref 226),en P (s "BOOL") 453 (.int 0 452),en P (s "INT") 455 (.int 1 454),en P (s "REAL") 457 (.int 2 456),en P (s "WIDEST") 459 (.int 4096 458),en P (s "MOST_BITS") 463 (.int 65536 462),en P (s "BV_SAME") 474 (.ref 227),en P (s "BV_ASK") 479 (.ref 228),en P (s "VALUE_OPS") 484 (.ref 229)].toArray 39) [])).set 12 (ob .none none (.fields [(.int 1 0),(.int 0 0),(.ref 20),(.int 5 0),(.int 0 0),(.ref 28),(.int 13 0),(.int 0 0),(.ref 56),(.int 17 0),(.int 0 0),(.ref 75),(.int 21 0),(.int 0 0),(.ref 94),(.int 26 0),(.int 0 0),(.ref 113),(.int 31 0),(.int 0 0),(.ref 120),(.int 38 0),(.int 0 0),(.ref 127),(.int 42 0),(.int 0 0),(.ref 134),(.int 45 0),(.int 0 0),(.ref 141),(.int 47 0),(.int 0 0),(.ref 148),(.int 49 0),(.int 0 0),(.ref 155),(.int 55 0),(.int 0 0),(.ref 162),(.int 57 0),(.int 0 0),(.ref 169),(.int 59 0),(.int 0 0),(.ref 176),(.int 63 0),(.int 0 0),(.ref 183),(.int 83 0),(.int 0 0),(.ref 190),(.int 91 0),(.int 0 0),(.ref 197),(.int 93 0),(.int 0 0),(.ref 204),(.int 95 0),(.int 0 0),(.ref 211),(.int 97 0),(.int 0 0),(.ref 218),(.int 99 0),(.int 0 0),(.ref 225)].toArray) []))
noncomputable def T3(P:Params):BT:=mk 12 (((((finL P).take 447).set 3 (ob (.type "dict") none (.dict [en P (s "__name__") 165 (S "minismt.terms" 337),en P (s "__doc__") 166 .none,en P (s "__package__") 167 .none,en P (s "__loader__") 168 (.builtin "__main__.__loader__#opaque"),en P (s "__spec__") 169 .none,en P (s "__annotations__") 170 (.ref 6),en P (s "__builtins__") 171 (.ref 4),en P (s "__file__") 173 (S "/claim/cut.py" 172),en P (s "__cached__") 174 .none,en P (s "_wall") 193 (.ref 21),en P (s "SmtError") 233 (.ref 47),en P (s "SortFault") 256 (.ref 67),en P (s "LimitFault") 279 (.ref 86),en P (s "ModelFault") 302 (.ref 105),en P (s "gcd_of") 312 (.ref 114),en P (s "ratio") 321 (.ref 121),en P (s "mul") 329 (.ref 128),en P (s "is_whole") 336 (.ref 135),en P (s "mask_of") 345 (.ref 142),en P (s "signed_of") 353 (.ref 149),en P (s "one_value") 362 (.ref 156),en P (s "divided_value") 371 (.ref 163),en P (s "rest_value") 379 (.ref 170),en P (s "shifted_value") 389 (.ref 177),en P (s "two_value") 399 (.ref 184),en P (s "ask_value") 409 (.ref 191),en P (s "extract_value") 418 (.ref 198),en P (s "concat_value") 427 (.ref 205),en P (s "sign_extended") 436 (.ref 212),en P (s "bit_value") 444 (.ref 219),en P (s "power_of") 451 (.ref 226),en P (s "BOOL") 453 (.int 0 452),en P (s "INT") 455 (.int 1 454),en P (s "REAL") 457 (.int 2 456),en P (s "WIDEST") 459 (.int 4096 458),en P (s "MOST_BITS") 463 (.int 65536 462),en P (s "BV_SAME") 474 (.ref 227),en P (s "BV_ASK") 479 (.ref 228),en P (s "VALUE_OPS") 484 (.ref 229),en P (s "Bank") 769 (.ref 442)].toArray 40) [])).set 12 (ob .none none (.fields [(.int 1 0),(.int 0 0),(.ref 20),(.int 5 0),(.int 0 0),(.ref 28),(.int 13 0),(.int 0 0),(.ref 56),(.int 17 0),(.int 0 0),(.ref 75),(.int 21 0),(.int 0 0),(.ref 94),(.int 26 0),(.int 0 0),(.ref 113),(.int 31 0),(.int 0 0),(.ref 120),(.int 38 0),(.int 0 0),(.ref 127),(.int 42 0),(.int 0 0),(.ref 134),(.int 45 0),(.int 0 0),(.ref 141),(.int 47 0),(.int 0 0),(.ref 148),(.int 49 0),(.int 0 0),(.ref 155),(.int 55 0),(.int 0 0),(.ref 162),(.int 57 0),(.int 0 0),(.ref 169),(.int 59 0),(.int 0 0),(.ref 176),(.int 63 0),(.int 0 0),(.ref 183),(.int 83 0),(.int 0 0),(.ref 190),(.int 91 0),(.int 0 0),(.ref 197),(.int 93 0),(.int 0 0),(.ref 204),(.int 95 0),(.int 0 0),(.ref 211),(.int 97 0),(.int 0 0),(.ref 218),(.int 99 0),(.int 0 0),(.ref 225),(.int 109 0),(.int 0 0),(.ref 235)].toArray) [])).set 442 (ob (.type "type") none (.cls ({ name:=(s "Bank"),bases:=[(.type "object")],mro:=[(.ref 442),(.type "object")],ns:=441,qualname:=(s "Bank"),hasDict:=true,slotNames:=[],subclasses:=[],abstract:=false,collection:=none,hasDel:=false }:ClassData)) [none,none,(some (S "Bank" 485)),(some (S "Bank" 493)),(some (.builtin "object.__new__")),(some (.bool true))]))
noncomputable def T4(P:Params):BT:=mk 12 (((((finL P).take 557).set 3 (ob (.type "dict") none (.dict [en P (s "__name__") 165 (S "minismt.terms" 337),en P (s "__doc__") 166 .none,en P (s "__package__") 167 .none,en P (s "__loader__") 168 (.builtin "__main__.__loader__#opaque"),en P (s "__spec__") 169 .none,en P (s "__annotations__") 170 (.ref 6),en P (s "__builtins__") 171 (.ref 4),en P (s "__file__") 173 (S "/claim/cut.py" 172),en P (s "__cached__") 174 .none,en P (s "_wall") 193 (.ref 21),en P (s "SmtError") 233 (.ref 47),en P (s "SortFault") 256 (.ref 67),en P (s "LimitFault") 279 (.ref 86),en P (s "ModelFault") 302 (.ref 105),en P (s "gcd_of") 312 (.ref 114),en P (s "ratio") 321 (.ref 121),en P (s "mul") 329 (.ref 128),en P (s "is_whole") 336 (.ref 135),en P (s "mask_of") 345 (.ref 142),en P (s "signed_of") 353 (.ref 149),en P (s "one_value") 362 (.ref 156),en P (s "divided_value") 371 (.ref 163),en P (s "rest_value") 379 (.ref 170),en P (s "shifted_value") 389 (.ref 177),en P (s "two_value") 399 (.ref 184),en P (s "ask_value") 409 (.ref 191),en P (s "extract_value") 418 (.ref 198),en P (s "concat_value") 427 (.ref 205),en P (s "sign_extended") 436 (.ref 212),en P (s "bit_value") 444 (.ref 219),en P (s "power_of") 451 (.ref 226),en P (s "BOOL") 453 (.int 0 452),en P (s "INT") 455 (.int 1 454),en P (s "REAL") 457 (.int 2 456),en P (s "WIDEST") 459 (.int 4096 458),en P (s "MOST_BITS") 463 (.int 65536 462),en P (s "BV_SAME") 474 (.ref 227),en P (s "BV_ASK") 479 (.ref 228),en P (s "VALUE_OPS") 484 (.ref 229),en P (s "Bank") 769 (.ref 442),en P (s "BoolBank") 902 (.ref 547),en P (s "want_small") 909 (.ref 556)].toArray 42) [])).set 12 (ob .none none (.fields [(.int 1 0),(.int 0 0),(.ref 20),(.int 5 0),(.int 0 0),(.ref 28),(.int 13 0),(.int 0 0),(.ref 56),(.int 17 0),(.int 0 0),(.ref 75),(.int 21 0),(.int 0 0),(.ref 94),(.int 26 0),(.int 0 0),(.ref 113),(.int 31 0),(.int 0 0),(.ref 120),(.int 38 0),(.int 0 0),(.ref 127),(.int 42 0),(.int 0 0),(.ref 134),(.int 45 0),(.int 0 0),(.ref 141),(.int 47 0),(.int 0 0),(.ref 148),(.int 49 0),(.int 0 0),(.ref 155),(.int 55 0),(.int 0 0),(.ref 162),(.int 57 0),(.int 0 0),(.ref 169),(.int 59 0),(.int 0 0),(.ref 176),(.int 63 0),(.int 0 0),(.ref 183),(.int 83 0),(.int 0 0),(.ref 190),(.int 91 0),(.int 0 0),(.ref 197),(.int 93 0),(.int 0 0),(.ref 204),(.int 95 0),(.int 0 0),(.ref 211),(.int 97 0),(.int 0 0),(.ref 218),(.int 99 0),(.int 0 0),(.ref 225),(.int 109 0),(.int 0 0),(.ref 235),(.int 238 0),(.int 0 0),(.ref 452),(.int 312 0),(.int 0 0),(.ref 555)].toArray) [])).set 547 (ob (.type "type") none (.cls ({ name:=(s "BoolBank"),bases:=[(.ref 442)],mro:=[(.ref 547),(.ref 442),(.type "object")],ns:=546,qualname:=(s "BoolBank"),hasDict:=true,slotNames:=[],subclasses:=[],abstract:=false,collection:=none,hasDel:=false }:ClassData)) [(some (.ref 447)),none,(some (S "BoolBank" 770)),(some (S "BoolBank" 778)),(some (.builtin "object.__new__")),(some (.bool true))]))
noncomputable def T5(P:Params):BT:=mk 12 (((((finL P).take 646).set 3 (ob (.type "dict") none (.dict [en P (s "__name__") 165 (S "minismt.terms" 337),en P (s "__doc__") 166 .none,en P (s "__package__") 167 .none,en P (s "__loader__") 168 (.builtin "__main__.__loader__#opaque"),en P (s "__spec__") 169 .none,en P (s "__annotations__") 170 (.ref 6),en P (s "__builtins__") 171 (.ref 4),en P (s "__file__") 173 (S "/claim/cut.py" 172),en P (s "__cached__") 174 .none,en P (s "_wall") 193 (.ref 21),en P (s "SmtError") 233 (.ref 47),en P (s "SortFault") 256 (.ref 67),en P (s "LimitFault") 279 (.ref 86),en P (s "ModelFault") 302 (.ref 105),en P (s "gcd_of") 312 (.ref 114),en P (s "ratio") 321 (.ref 121),en P (s "mul") 329 (.ref 128),en P (s "is_whole") 336 (.ref 135),en P (s "mask_of") 345 (.ref 142),en P (s "signed_of") 353 (.ref 149),en P (s "one_value") 362 (.ref 156),en P (s "divided_value") 371 (.ref 163),en P (s "rest_value") 379 (.ref 170),en P (s "shifted_value") 389 (.ref 177),en P (s "two_value") 399 (.ref 184),en P (s "ask_value") 409 (.ref 191),en P (s "extract_value") 418 (.ref 198),en P (s "concat_value") 427 (.ref 205),en P (s "sign_extended") 436 (.ref 212),en P (s "bit_value") 444 (.ref 219),en P (s "power_of") 451 (.ref 226),en P (s "BOOL") 453 (.int 0 452),en P (s "INT") 455 (.int 1 454),en P (s "REAL") 457 (.int 2 456),en P (s "WIDEST") 459 (.int 4096 458),en P (s "MOST_BITS") 463 (.int 65536 462),en P (s "BV_SAME") 474 (.ref 227),en P (s "BV_ASK") 479 (.ref 228),en P (s "VALUE_OPS") 484 (.ref 229),en P (s "Bank") 769 (.ref 442),en P (s "BoolBank") 902 (.ref 547),en P (s "want_small") 909 (.ref 556),en P (s "NumberBank") 1023 (.ref 643)].toArray 43) [])).set 12 (ob .none none (.fields [(.int 1 0),(.int 0 0),(.ref 20),(.int 5 0),(.int 0 0),(.ref 28),(.int 13 0),(.int 0 0),(.ref 56),(.int 17 0),(.int 0 0),(.ref 75),(.int 21 0),(.int 0 0),(.ref 94),(.int 26 0),(.int 0 0),(.ref 113),(.int 31 0),(.int 0 0),(.ref 120),(.int 38 0),(.int 0 0),(.ref 127),(.int 42 0),(.int 0 0),(.ref 134),(.int 45 0),(.int 0 0),(.ref 141),(.int 47 0),(.int 0 0),(.ref 148),(.int 49 0),(.int 0 0),(.ref 155),(.int 55 0),(.int 0 0),(.ref 162),(.int 57 0),(.int 0 0),(.ref 169),(.int 59 0),(.int 0 0),(.ref 176),(.int 63 0),(.int 0 0),(.ref 183),(.int 83 0),(.int 0 0),(.ref 190),(.int 91 0),(.int 0 0),(.ref 197),(.int 93 0),(.int 0 0),(.ref 204),(.int 95 0),(.int 0 0),(.ref 211),(.int 97 0),(.int 0 0),(.ref 218),(.int 99 0),(.int 0 0),(.ref 225),(.int 109 0),(.int 0 0),(.ref 235),(.int 238 0),(.int 0 0),(.ref 452),(.int 312 0),(.int 0 0),(.ref 555),(.int 315 0),(.int 0 0),(.ref 562)].toArray) [])).set 643 (ob (.type "type") none (.cls ({ name:=(s "NumberBank"),bases:=[(.ref 547)],mro:=[(.ref 643),(.ref 547),(.ref 442),(.type "object")],ns:=642,qualname:=(s "NumberBank"),hasDict:=true,slotNames:=[],subclasses:=[],abstract:=false,collection:=none,hasDel:=false }:ClassData)) [(some (.ref 557)),none,(some (S "NumberBank" 910)),(some (S "NumberBank" 918)),(some (.builtin "object.__new__")),(some (.bool true))]))
noncomputable def T6(P:Params):BT:=mk 12 ((((finL P).take 766).set 3 (ob (.type "dict") none (.dict [en P (s "__name__") 165 (S "minismt.rewrite" 1180),en P (s "__doc__") 166 .none,en P (s "__package__") 167 .none,en P (s "__loader__") 168 (.builtin "__main__.__loader__#opaque"),en P (s "__spec__") 169 .none,en P (s "__annotations__") 170 (.ref 6),en P (s "__builtins__") 171 (.ref 4),en P (s "__file__") 173 (S "/claim/cut.py" 172),en P (s "__cached__") 174 .none,en P (s "_wall") 193 (.ref 21),en P (s "SmtError") 233 (.ref 47),en P (s "SortFault") 256 (.ref 67),en P (s "LimitFault") 279 (.ref 86),en P (s "ModelFault") 302 (.ref 105),en P (s "gcd_of") 312 (.ref 114),en P (s "ratio") 321 (.ref 121),en P (s "mul") 329 (.ref 128),en P (s "is_whole") 336 (.ref 135),en P (s "mask_of") 345 (.ref 142),en P (s "signed_of") 353 (.ref 149),en P (s "one_value") 362 (.ref 156),en P (s "divided_value") 371 (.ref 163),en P (s "rest_value") 379 (.ref 170),en P (s "shifted_value") 389 (.ref 177),en P (s "two_value") 399 (.ref 184),en P (s "ask_value") 409 (.ref 191),en P (s "extract_value") 418 (.ref 198),en P (s "concat_value") 427 (.ref 205),en P (s "sign_extended") 436 (.ref 212),en P (s "bit_value") 444 (.ref 219),en P (s "power_of") 451 (.ref 226),en P (s "BOOL") 453 (.int 0 452),en P (s "INT") 455 (.int 1 454),en P (s "REAL") 457 (.int 2 456),en P (s "WIDEST") 459 (.int 4096 458),en P (s "MOST_BITS") 463 (.int 65536 462),en P (s "BV_SAME") 474 (.ref 227),en P (s "BV_ASK") 479 (.ref 228),en P (s "VALUE_OPS") 484 (.ref 229),en P (s "Bank") 769 (.ref 442),en P (s "BoolBank") 902 (.ref 547),en P (s "want_small") 909 (.ref 556),en P (s "NumberBank") 1023 (.ref 643),en P (s "TermBank") 1179 (.ref 762),en P (s "MIXING") 1187 (.ref 765),en P (s "MOST_APART") 1189 (.int 8 1188),en P (s "DEEPEST") 1191 (.int 50 1190)].toArray 47) [])).set 12 (ob .none none (.fields [(.int 1 0),(.int 0 0),(.ref 20),(.int 5 0),(.int 0 0),(.ref 28),(.int 13 0),(.int 0 0),(.ref 56),(.int 17 0),(.int 0 0),(.ref 75),(.int 21 0),(.int 0 0),(.ref 94),(.int 26 0),(.int 0 0),(.ref 113),(.int 31 0),(.int 0 0),(.ref 120),(.int 38 0),(.int 0 0),(.ref 127),(.int 42 0),(.int 0 0),(.ref 134),(.int 45 0),(.int 0 0),(.ref 141),(.int 47 0),(.int 0 0),(.ref 148),(.int 49 0),(.int 0 0),(.ref 155),(.int 55 0),(.int 0 0),(.ref 162),(.int 57 0),(.int 0 0),(.ref 169),(.int 59 0),(.int 0 0),(.ref 176),(.int 63 0),(.int 0 0),(.ref 183),(.int 83 0),(.int 0 0),(.ref 190),(.int 91 0),(.int 0 0),(.ref 197),(.int 93 0),(.int 0 0),(.ref 204),(.int 95 0),(.int 0 0),(.ref 211),(.int 97 0),(.int 0 0),(.ref 218),(.int 99 0),(.int 0 0),(.ref 225),(.int 109 0),(.int 0 0),(.ref 235),(.int 238 0),(.int 0 0),(.ref 452),(.int 312 0),(.int 0 0),(.ref 555),(.int 315 0),(.int 0 0),(.ref 562),(.int 367 0),(.int 0 0),(.ref 652)].toArray) []))
noncomputable def T7(P:Params):BT:=mk 12 (((((finL P).take 889).set 3 (ob (.type "dict") none (.dict [en P (s "__name__") 165 (S "minismt.rewrite" 1180),en P (s "__doc__") 166 .none,en P (s "__package__") 167 .none,en P (s "__loader__") 168 (.builtin "__main__.__loader__#opaque"),en P (s "__spec__") 169 .none,en P (s "__annotations__") 170 (.ref 6),en P (s "__builtins__") 171 (.ref 4),en P (s "__file__") 173 (S "/claim/cut.py" 172),en P (s "__cached__") 174 .none,en P (s "_wall") 193 (.ref 21),en P (s "SmtError") 233 (.ref 47),en P (s "SortFault") 256 (.ref 67),en P (s "LimitFault") 279 (.ref 86),en P (s "ModelFault") 302 (.ref 105),en P (s "gcd_of") 312 (.ref 114),en P (s "ratio") 321 (.ref 121),en P (s "mul") 329 (.ref 128),en P (s "is_whole") 336 (.ref 135),en P (s "mask_of") 345 (.ref 142),en P (s "signed_of") 353 (.ref 149),en P (s "one_value") 362 (.ref 156),en P (s "divided_value") 371 (.ref 163),en P (s "rest_value") 379 (.ref 170),en P (s "shifted_value") 389 (.ref 177),en P (s "two_value") 399 (.ref 184),en P (s "ask_value") 409 (.ref 191),en P (s "extract_value") 418 (.ref 198),en P (s "concat_value") 427 (.ref 205),en P (s "sign_extended") 436 (.ref 212),en P (s "bit_value") 444 (.ref 219),en P (s "power_of") 451 (.ref 226),en P (s "BOOL") 453 (.int 0 452),en P (s "INT") 455 (.int 1 454),en P (s "REAL") 457 (.int 2 456),en P (s "WIDEST") 459 (.int 4096 458),en P (s "MOST_BITS") 463 (.int 65536 462),en P (s "BV_SAME") 474 (.ref 227),en P (s "BV_ASK") 479 (.ref 228),en P (s "VALUE_OPS") 484 (.ref 229),en P (s "Bank") 769 (.ref 442),en P (s "BoolBank") 902 (.ref 547),en P (s "want_small") 909 (.ref 556),en P (s "NumberBank") 1023 (.ref 643),en P (s "TermBank") 1179 (.ref 762),en P (s "MIXING") 1187 (.ref 765),en P (s "MOST_APART") 1189 (.int 8 1188),en P (s "DEEPEST") 1191 (.int 50 1190),en P (s "BoolRewriter") 1378 (.ref 884)].toArray 48) [])).set 12 (ob .none none (.fields [(.int 1 0),(.int 0 0),(.ref 20),(.int 5 0),(.int 0 0),(.ref 28),(.int 13 0),(.int 0 0),(.ref 56),(.int 17 0),(.int 0 0),(.ref 75),(.int 21 0),(.int 0 0),(.ref 94),(.int 26 0),(.int 0 0),(.ref 113),(.int 31 0),(.int 0 0),(.ref 120),(.int 38 0),(.int 0 0),(.ref 127),(.int 42 0),(.int 0 0),(.ref 134),(.int 45 0),(.int 0 0),(.ref 141),(.int 47 0),(.int 0 0),(.ref 148),(.int 49 0),(.int 0 0),(.ref 155),(.int 55 0),(.int 0 0),(.ref 162),(.int 57 0),(.int 0 0),(.ref 169),(.int 59 0),(.int 0 0),(.ref 176),(.int 63 0),(.int 0 0),(.ref 183),(.int 83 0),(.int 0 0),(.ref 190),(.int 91 0),(.int 0 0),(.ref 197),(.int 93 0),(.int 0 0),(.ref 204),(.int 95 0),(.int 0 0),(.ref 211),(.int 97 0),(.int 0 0),(.ref 218),(.int 99 0),(.int 0 0),(.ref 225),(.int 109 0),(.int 0 0),(.ref 235),(.int 238 0),(.int 0 0),(.ref 452),(.int 312 0),(.int 0 0),(.ref 555),(.int 315 0),(.int 0 0),(.ref 562),(.int 367 0),(.int 0 0),(.ref 652),(.int 455 0),(.int 0 0),(.ref 771)].toArray) [])).set 884 (ob (.type "type") none (.cls ({ name:=(s "BoolRewriter"),bases:=[(.type "object")],mro:=[(.ref 884),(.type "object")],ns:=883,qualname:=(s "BoolRewriter"),hasDict:=true,slotNames:=[],subclasses:=[],abstract:=false,collection:=none,hasDel:=false }:ClassData)) [none,none,(some (S "BoolRewriter" 1192)),(some (S "BoolRewriter" 1200)),(some (.builtin "object.__new__")),(some (.bool true))]))
noncomputable def T8(P:Params):BT:=mk 12 ((((finL P).take 1083).set 3 (ob (.type "dict") none (.dict [en P (s "__name__") 165 (S "minismt.rewrite" 1180),en P (s "__doc__") 166 .none,en P (s "__package__") 167 .none,en P (s "__loader__") 168 (.builtin "__main__.__loader__#opaque"),en P (s "__spec__") 169 .none,en P (s "__annotations__") 170 (.ref 6),en P (s "__builtins__") 171 (.ref 4),en P (s "__file__") 173 (S "/claim/cut.py" 172),en P (s "__cached__") 174 .none,en P (s "_wall") 193 (.ref 21),en P (s "SmtError") 233 (.ref 47),en P (s "SortFault") 256 (.ref 67),en P (s "LimitFault") 279 (.ref 86),en P (s "ModelFault") 302 (.ref 105),en P (s "gcd_of") 312 (.ref 114),en P (s "ratio") 321 (.ref 121),en P (s "mul") 329 (.ref 128),en P (s "is_whole") 336 (.ref 135),en P (s "mask_of") 345 (.ref 142),en P (s "signed_of") 353 (.ref 149),en P (s "one_value") 362 (.ref 156),en P (s "divided_value") 371 (.ref 163),en P (s "rest_value") 379 (.ref 170),en P (s "shifted_value") 389 (.ref 177),en P (s "two_value") 399 (.ref 184),en P (s "ask_value") 409 (.ref 191),en P (s "extract_value") 418 (.ref 198),en P (s "concat_value") 427 (.ref 205),en P (s "sign_extended") 436 (.ref 212),en P (s "bit_value") 444 (.ref 219),en P (s "power_of") 451 (.ref 226),en P (s "BOOL") 453 (.int 0 452),en P (s "INT") 455 (.int 1 454),en P (s "REAL") 457 (.int 2 456),en P (s "WIDEST") 459 (.int 4096 458),en P (s "MOST_BITS") 463 (.int 65536 462),en P (s "BV_SAME") 474 (.ref 227),en P (s "BV_ASK") 479 (.ref 228),en P (s "VALUE_OPS") 484 (.ref 229),en P (s "Bank") 769 (.ref 442),en P (s "BoolBank") 902 (.ref 547),en P (s "want_small") 909 (.ref 556),en P (s "NumberBank") 1023 (.ref 643),en P (s "TermBank") 1179 (.ref 762),en P (s "MIXING") 1187 (.ref 765),en P (s "MOST_APART") 1189 (.int 8 1188),en P (s "DEEPEST") 1191 (.int 50 1190),en P (s "BoolRewriter") 1378 (.ref 884),en P (s "BitsRewriter") 1679 (.ref 1080)].toArray 49) [])).set 12 (ob .none none (.fields [(.int 1 0),(.int 0 0),(.ref 20),(.int 5 0),(.int 0 0),(.ref 28),(.int 13 0),(.int 0 0),(.ref 56),(.int 17 0),(.int 0 0),(.ref 75),(.int 21 0),(.int 0 0),(.ref 94),(.int 26 0),(.int 0 0),(.ref 113),(.int 31 0),(.int 0 0),(.ref 120),(.int 38 0),(.int 0 0),(.ref 127),(.int 42 0),(.int 0 0),(.ref 134),(.int 45 0),(.int 0 0),(.ref 141),(.int 47 0),(.int 0 0),(.ref 148),(.int 49 0),(.int 0 0),(.ref 155),(.int 55 0),(.int 0 0),(.ref 162),(.int 57 0),(.int 0 0),(.ref 169),(.int 59 0),(.int 0 0),(.ref 176),(.int 63 0),(.int 0 0),(.ref 183),(.int 83 0),(.int 0 0),(.ref 190),(.int 91 0),(.int 0 0),(.ref 197),(.int 93 0),(.int 0 0),(.ref 204),(.int 95 0),(.int 0 0),(.ref 211),(.int 97 0),(.int 0 0),(.ref 218),(.int 99 0),(.int 0 0),(.ref 225),(.int 109 0),(.int 0 0),(.ref 235),(.int 238 0),(.int 0 0),(.ref 452),(.int 312 0),(.int 0 0),(.ref 555),(.int 315 0),(.int 0 0),(.ref 562),(.int 367 0),(.int 0 0),(.ref 652),(.int 455 0),(.int 0 0),(.ref 771),(.int 622 0),(.int 0 0),(.ref 895)].toArray) []))
noncomputable def T9(P:Params):BT:=mk 12 (finL P)
noncomputable abbrev SG:=@PySem.W.Fast.tw10110043849684766642
noncomputable abbrev TB:=@PySem.W.Fast.tw14364793385576792824
noncomputable abbrev pr:Program:=PySem.Challenge.pw_zu0063_05
noncomputable def E0:Env:={ scope:=pr.main.scope,locals:=mainNs,globals:=mainNs,cells:=[],code:=.ref 13,frame:=some 14 }
noncomputable def bd:List Stmt:=behindTheImports pr
noncomputable def gs(i k:Nat):List Stmt:=(bd.drop i).take k
noncomputable abbrev sh(t:BT)(n k:Nat)(os:OsState):SharedT:=⟨t,n,{},#[],{},k,os⟩
noncomputable abbrev Bf:List Frame:=[topFrame ⟨0,0,0,0⟩]
theorem b5{p:Program}{w:World}{m:Nat}{a:Option Value}{b n:Nat}{s:SharedT}{t:Thread}{r:Option (Flow×SharedT×Code×Pos)}(h:SG TB p w m a b n s t=r):segRunT treeTable p w m a b n s t=r:=by
 rw[PySem.W.Fast.te10110043849684766642,PySem.W.Fast.te14364793385576792824];exact h
theorem p0(w:World)(os:OsState):segRun treeTable pr w 11 (some (.ref 6)) 1 800 (sh (T0 w.params) 15 187 os).abs (piecesOf (gs 0 5) E0 (.body bd E0) ⟨0,0,0,0⟩ Bf)=some (.next,(sh (T1 w.params) 89 280 os).abs,.body bd E0,⟨17,0,20,36⟩) :=
 segRun_of (b5 (by kernel_rfl))
theorem p1(w:World)(os:OsState):segRun treeTable pr w 11 (some (.ref 6)) 1 880 (sh (T1 w.params) 89 280 os).abs (piecesOf (gs 5 28) E0 (.body bd E0) ⟨17,0,20,36⟩ Bf)=some (.next,(sh (T2 w.params) 230 485 os).abs,.body bd E0,⟨108,0,108,9⟩) :=
 segRun_of (b5 (by kernel_rfl))
theorem p2(w:World)(os:OsState):segRun treeTable pr w 11 (some (.ref 6)) 1 1151 (sh (T2 w.params) 230 485 os).abs (piecesOf (gs 33 1) E0 (.body bd E0) ⟨108,0,108,9⟩ Bf)=some (.next,(sh (T3 w.params) 447 770 os).abs,.body bd E0,⟨109,0,237,20⟩) :=
 segRun_of (b5 (by kernel_rfl))
theorem p3(w:World)(os:OsState):segRun treeTable pr w 11 (some (.ref 6)) 1 671 (sh (T3 w.params) 447 770 os).abs (piecesOf (gs 34 2) E0 (.body bd E0) ⟨109,0,237,20⟩ Bf)=some (.next,(sh (T4 w.params) 557 910 os).abs,.body bd E0,⟨312,0,314,66⟩) :=
 segRun_of (b5 (by kernel_rfl))
theorem p4(w:World)(os:OsState):segRun treeTable pr w 11 (some (.ref 6)) 1 589 (sh (T4 w.params) 557 910 os).abs (piecesOf (gs 36 1) E0 (.body bd E0) ⟨312,0,314,66⟩ Bf)=some (.next,(sh (T5 w.params) 646 1024 os).abs,.body bd E0,⟨315,0,366,35⟩) :=
 segRun_of (b5 (by kernel_rfl))
theorem p5(w:World)(os:OsState):segRun treeTable pr w 11 (some (.ref 6)) 1 797 (sh (T5 w.params) 646 1024 os).abs (piecesOf (gs 37 5) E0 (.body bd E0) ⟨315,0,366,35⟩ Bf)=some (.next,(sh (T6 w.params) 766 1192 os).abs,.body bd E0,⟨454,0,454,7⟩) :=
 segRun_of (b5 (by kernel_rfl))
theorem p6(w:World)(os:OsState):segRun treeTable pr w 11 (some (.ref 6)) 1 738 (sh (T6 w.params) 766 1192 os).abs (piecesOf (gs 42 1) E0 (.body bd E0) ⟨454,0,454,7⟩ Bf)=some (.next,(sh (T7 w.params) 889 1379 os).abs,.body bd E0,⟨455,0,621,41⟩) :=
 segRun_of (b5 (by kernel_rfl))
theorem p7(w:World)(os:OsState):segRun treeTable pr w 11 (some (.ref 6)) 1 1117 (sh (T7 w.params) 889 1379 os).abs (piecesOf (gs 43 1) E0 (.body bd E0) ⟨455,0,621,41⟩ Bf)=some (.next,(sh (T8 w.params) 1083 1680 os).abs,.body bd E0,⟨622,0,911,19⟩) :=
 segRun_of (b5 (by kernel_rfl))
theorem p8(w:World)(os:OsState):segRun treeTable pr w 11 (some (.ref 6)) 1 206 (sh (T8 w.params) 1083 1680 os).abs (piecesOf (gs 44 8) E0 (.body bd E0) ⟨622,0,911,19⟩ Bf)=some (.next,(sh (T9 w.params) 1122 1734 os).abs,.body bd E0,⟨981,0,996,15⟩) :=
 segRun_of (b5 (by kernel_rfl))
noncomputable abbrev os0(w:World)(os:OsState):Shared:=⟨boot_heap w.params,Array.mk [],boot_drawn,boot_toks,os⟩
noncomputable abbrev osA(w:World)(os:OsState):Shared:=⟨⟨(preL w.params).toArray,{}⟩,#[],{},187,os⟩
noncomputable def H1(P:Params):Heap:=⟨(finL P).toArray,{}⟩
theorem yd(w:World)(os:OsState):topGo treeTable pr w 11 (some (.ref 6)) 12 (os0 w os) (topStub pr)=some (osA w os,⟨denote treeTable (.body bd E0),.body bd E0,⟨0,0,0,0⟩,Bf⟩):=by
 rw[PySem.W.Fast.te15667345088766844465,PySem.W.Fast.te11892475500146522536,PySem.W.Fast.te14364793385576792824];kernel_rfl
theorem xy(w:World)(os:OsState):segRun treeTable pr w 11 (some (.ref 6)) 1 (0+1) (osA w os) (blockOf bd E0 (.body bd E0) ⟨0,0,0,0⟩ Bf)=some (.next,(sh (T0 w.params) 15 187 os).abs,.body bd E0,⟨0,0,0,0⟩):=by
 rw[PySem.W.Fast.te14374325043358763698,PySem.W.Fast.te14364793385576792824];kernel_rfl
theorem tU(w:World)(os:OsState):topRun treeTable pr w 11 (some (.ref 6)) (1+1) (sh (T9 w.params) 1122 1734 os).abs ⟨doneF .next,.body bd E0,⟨981,0,996,15⟩,Bf⟩=some ⟨H1 w.params,#[],{},1734,os⟩:=by
 rw[PySem.W.Fast.te14082659384304107361,PySem.W.Fast.te14364793385576792824];kernel_rfl
theorem rK:bd=gs 0 5++(gs 5 28++(gs 33 1++(gs 34 2++(gs 36 1++(gs 37 5++(gs 42 1++(gs 43 1++(gs 44 8++([]))))))))):=by kernel_rfl
theorem wQ(w:World)(os:OsState):topRun treeTable pr w 11 (some (.ref 6)) (800+(880+(1151+(671+(589+(797+(738+(1117+(206+2))))))))) (sh (T0 w.params) 15 187 os).abs (restOf (gs 0 5++(gs 5 28++(gs 33 1++(gs 34 2++(gs 36 1++(gs 37 5++(gs 42 1++(gs 43 1++(gs 44 8++([])))))))))) E0 (.body bd E0) ⟨0,0,0,0⟩ Bf)=some ⟨H1 w.params,#[],{},1734,os⟩ :=
 piece_app (p0 w os) (piece_app (p1 w os) (piece_app (p2 w os) (piece_app (p3 w os) (piece_app (p4 w os) (piece_app (p5 w os) (piece_app (p6 w os) (piece_app (p7 w os) (piece_app (p8 w os) (piece_nil (tU w os))))))))))
theorem xr(w:World)(os:OsState):topRun treeTable pr w 11 (some (.ref 6)) (800+(880+(1151+(671+(589+(797+(738+(1117+(206+2))))))))) (sh (T0 w.params) 15 187 os).abs (restOf bd E0 (.body bd E0) ⟨0,0,0,0⟩ Bf)=some ⟨H1 w.params,#[],{},1734,os⟩ :=
 (congrArg (fun b=>topRun treeTable pr w 11 (some (.ref 6)) (800+(880+(1151+(671+(589+(797+(738+(1117+(206+2))))))))) (sh (T0 w.params) 15 187 os).abs (restOf b E0 (.body bd E0) ⟨0,0,0,0⟩ Bf)) rK).trans (wQ w os)
theorem u1(w:World)(os:OsState):topRun treeTable pr w 11 (some (.ref 6)) (12+(0+1+(800+(880+(1151+(671+(589+(797+(738+(1117+(206+2))))))))))) (os0 w os) (topStub pr)=some ⟨H1 w.params,#[],{},1734,os⟩ :=
 go_top (yd w os) (piece_block (xy w os) (xr w os))
theorem yi(w:World):((boot_heap w.params).isNs mainGlobals&&(Array.mk ([]:List GenState)).size==0,(boot_heap w.params).objs.size,(boot_heap w.params).nsMap mainGlobals "__annotations__")=(true,11,some (Value.ref 6)):=by kernel_rfl
theorem open_:∀ w:World,(fencedOpening treeTable pr w 20000).map (fun s=>(s.heap,s.gens,s.drawn,s.toks))=some (boot_heap w.params,Array.mk [],boot_drawn,boot_toks) :=
 boot_open (by kernel_rfl) (by kernel_rfl) (fun s=>by kernel_rfl)
noncomputable abbrev qv:Program:=view pr [51]
noncomputable def lo:List PySem.Str:=List.map PySem.Str.ofString (["_wall","SmtError","SortFault","LimitFault","ModelFault","gcd_of","ratio","mul","is_whole","mask_of","signed_of","one_value","divided_value","rest_value","shifted_value","two_value","ask_value","extract_value","concat_value","sign_extended"]++["bit_value","power_of","BOOL","INT","REAL","WIDEST","MOST_BITS","BV_SAME","BV_ASK","VALUE_OPS","Bank","BoolBank","want_small","NumberBank","TermBank","MIXING","MOST_APART","DEEPEST","BoolRewriter","BitsRewriter"]++["_law_sip","_law_term","_law_worth","_law_ops","_law_counted_right","_law_two_right"])
noncomputable abbrev HK:Hook:=kHook KF KA (fun _=>by kernel_rfl)
noncomputable abbrev Xt(s:Shared):Bool:=xlAt qv [] s&&recOk (RowW.records PySem.Challenge.rw_zu0063_05.row.toRowW) s
theorem xf(w:World):(fun os=>((staticsOk (importedModules pr.main.body) (boot_heap w.params) (H1 w.params)&&namesBound pr (H1 w.params)&&gensDone ⟨H1 w.params,#[],{},1734,os⟩&&laidKept (boot_heap w.params) (H1 w.params)),
    openSeen qv lo (importedModules pr.main.body) Xt true ⟨H1 w.params,#[],{},1734,os⟩,HK.obs ⟨H1 w.params,#[],{},1734,os⟩))=fun _=>(true,openGood qv lo,HK.val w):=by
 rw[PySem.W.Fast.te4187177175401517315];kernel_rfl
theorem wG:LeftO pr qv lo Xt HK.obs HK.val 20000 true :=
 LeftO.of_pieces open_ yi u1 (by kernel_rfl) xf
theorem yE:PySem.Challenge.rw_zu0063_05.wellSaid=true:=by
 rw[PySem.W.Fast.te9446332074065402090];decide +kernel
noncomputable def nm_:PySem.Str:=PySem.Challenge.rw_zu0063_05.row.toRowW.name
theorem ut:(defOf qv nm_).isSome=true:=by kernel_rfl
noncomputable def dl:DefRec×List (Str×Expr):=(defOf qv nm_).get ut
theorem qm(walk:WalkO qv lo (XL qv []) HK.says PySem.Challenge.rw_zu0063_05.row.toRowW dl.1 dl.2 fun f vs=>PySem.call f vs):PySem.Challenge.rw_zu0063_05.Holds :=
 holds_law yE fun k1=>holds_open (q:=qv) (loose:=lo) (Xt:=Xt) (XP:=XL qv []) (Yf:=HK.obs) (Ya:=HK.val) (YP:=HK.says) (d:=dl.1) (kwd:=dl.2) (N:=20000) wG HK.of HK.keeps
  (fun s e=>xl_of s (Bool.and_eq_true_iff.mp e).1) XL.keeps (by kernel_rfl) (by kernel_rfl) (by kernel_rfl) (fun s e=>recFacts_of (Bool.and_eq_true_iff.mp e).2) (by kernel_rfl) k1 (by decide +kernel)
  ⟨by kernel_rfl,by kernel_rfl,by kernel_rfl,by kernel_rfl,by kernel_rfl,by decide +kernel⟩ ⟨[.list []],by decide +kernel,by decide +kernel⟩ walk
theorem law_(walk:∀ (w:World) (s:Shared) (mg mb:Str→Option Value) (mean:ExcName→Option Value),(KF w.params).In s.heap→Top qv (looseW qv lo) mean mg mb s.heap→s.gens=#[]→∀ (a l:Addr) (vs:List Value) (ns:List Int),
  mg "law"=some (.ref a)→s.heap.get? l=some { cls:=.type "list",data:=.seq vs.toArray }→IntsAre vs ns→ns.length≤63 →
  wpAny (model pr w) callerA (call (.ref a) [.ref l]) (fun v s'=>v=.bool true∧(∀ b o,s.heap.get? b=some o→s'.heap.get? b=some o)∧s'.os=s.os∧s'.gens=#[]) (fun _ _=>False) s):PySem.Challenge.rw_zu0063_05.Holds:=by
 apply qm
 intro w s₀ s₁ mg mb G Y a o pm cd doc dV kV ho hd hcd hD hmg hg args vals as hpre hlay hrd hwl hlo
 wrow_args hpre hlay hrd hwl hlo
 rename_i ns _ _ _ _ _ _ _ l vs _ hL _ hW _ hI _ hc _
 have hL':s₁.heap.get? l=some { cls:=.type "list",data:=.seq vs.toArray }:=by
  generalize hx:ofPy (PyData.list (List.map PyData.int ns))=x at hW
  cases hW with
  | list h1 _ =>
   obtain⟨o,ho,_,n,hd⟩:=hL
   rw[h1] at ho;cases ho
   have:=congrArg (fun d=>match d with | Data.seq x _=>x | _=>#[]) hd
   simp only at this
   rw[← this];exact h1
  | _=>simp[ofPy] at hx
 refine wpAny_mono (walk w s₁ mg mb _ Y G.T hg a l vs ns hmg hL' hI (by omega)) (fun v s' h=>?_) (fun _ _ h=>h.elim)
 obtain⟨rfl,k,o1,g1⟩:=h
 exact GoodW.toG ⟨.inl ⟨_,_,_,rfl,fun cls=>by kernel_rfl,.bool true,by kernel_rfl,unshared_nil⟩,k,o1,g1⟩
end
end Head
namespace Mine
open PySem PySem.W PySem.Calls PyProof.Rows
section
inductive V where
 | none
 | bool (b:Bool)
 | int (i:Int)
 | str (s:Str)
 | tup (l:List V)
 | fl (l:List V)
 | rng (a b c:Int)
 | inst (C d:Nat)
 | ref (i:Nat)
 | raw (v:Value)
 deriving Inhabited
inductive AObj where
 | list (vs:List V)
 | dict (kvs:List (V×V))
 | ns (kvs:List (Str×V))
 deriving Inhabited
noncomputable abbrev St:=List (Option AObj)
noncomputable def V.int?(y:V):Option Int:=V.casesOn (motive_1:=fun _=>Option Int) y Option.none (fun _=>Option.none) some (fun _=>Option.none) (fun _=>Option.none) (fun _=>Option.none) (fun _ _ _=>Option.none) (fun _ _=>Option.none) (fun _=>Option.none) (fun _=>Option.none)
noncomputable def V.str?(y:V):Option Str:=V.casesOn (motive_1:=fun _=>Option Str) y Option.none (fun _=>Option.none) (fun _=>Option.none) some (fun _=>Option.none) (fun _=>Option.none) (fun _ _ _=>Option.none) (fun _ _=>Option.none) (fun _=>Option.none) (fun _=>Option.none)
theorem dI{x:V}{i:Int}:x.int?=some i→x=.int i:=by cases x<;>intro h<;>cases h;rfl
theorem xR{x:V}{i:Str}:x.str?=some i→x=.str i:=by cases x<;>intro h<;>cases h;rfl
noncomputable def onS{α:Type}(o:Option α)(k:α→Prop):Prop:=o.elim False k
theorem br{α:Type}{o:Option α}{k:α→Prop}(h:onS o k):∃ y,o=some y∧k y:=by
 cases o with
 | none=>exact h.elim
 | some y=>exact⟨y,rfl,h⟩
theorem cg{α:Type}{o:Option α}{k:α→Prop}{y:α}(e:o=some y)(h:k y):onS o k:=by rw[e];exact h
noncomputable def lsAt(σ:St)(i:Nat):Option (List V):=σ[i]?.bind fun o=>o.bind fun a=>AObj.casesOn (motive:=fun _=>Option (List V)) a some (fun _=>none) (fun _=>none)
noncomputable def dcAt(σ:St)(i:Nat):Option (List (V×V)):=σ[i]?.bind fun o=>o.bind fun a=>AObj.casesOn (motive:=fun _=>Option (List (V×V))) a (fun _=>none) some (fun _=>none)
noncomputable def nsAt(σ:St)(i:Nat):Option (List (Str×V)):=σ[i]?.bind fun o=>o.bind fun a=>AObj.casesOn (motive:=fun _=>Option (List (Str×V))) a (fun _=>none) (fun _=>none) some
theorem fZ{σ:St}{i:Nat}{α:Type}{f:AObj→Option α}{l:α}(h:(σ[i]?.bind fun o=>o.bind f)=some l):∃ a,σ[i]?=some (some a)∧f a=some l:=by
 obtain⟨o,e,h⟩:=Option.bind_eq_some_iff.mp h
 obtain⟨a,rfl,h⟩:=Option.bind_eq_some_iff.mp h
 exact⟨a,e,h⟩
theorem gH{σ:St}{i:Nat}{l:List V}(h:lsAt σ i=some l):σ[i]?=some (some (.list l)):=by
 obtain⟨a,e,h⟩:=fZ h
 cases a<;>cases h;exact e
theorem n9{σ:St}{i:Nat}{l:List (V×V)}(h:dcAt σ i=some l):σ[i]?=some (some (.dict l)):=by
 obtain⟨a,e,h⟩:=fZ h
 cases a<;>cases h;exact e
theorem fV{σ:St}{i:Nat}{kvs:List (Str×V)}(h:nsAt σ i=some kvs):σ[i]?=some (some (.ns kvs)):=by
 obtain⟨a,e,h⟩:=fZ h
 cases a<;>cases h;exact e
theorem hZ{σ:St}{i:Nat}{l:List V}(h:σ[i]?=some (some (.list l))):lsAt σ i=some l:=congrArg (fun o:Option (Option AObj)=>o.bind fun o=>o.bind fun a=>AObj.casesOn (motive:=fun _=>Option (List V)) a some (fun _=>none) (fun _=>none)) h
theorem oE{σ:St}{i:Nat}{l:List (V×V)}(h:σ[i]?=some (some (.dict l))):lsAt σ i=none:=congrArg (fun o:Option (Option AObj)=>o.bind fun o=>o.bind fun a=>AObj.casesOn (motive:=fun _=>Option (List V)) a some (fun _=>none) (fun _=>none)) h
theorem m8{σ:St}{i:Nat}{l:List (V×V)}(h:σ[i]?=some (some (.dict l))):dcAt σ i=some l:=congrArg (fun o:Option (Option AObj)=>o.bind fun o=>o.bind fun a=>AObj.casesOn (motive:=fun _=>Option (List (V×V))) a (fun _=>none) some (fun _=>none)) h
noncomputable def listO(items:List Value)(k:Nat):Obj:=⟨.type "list",none,.seq items.toArray k,#[]⟩
noncomputable def tupO(items:List Value):Obj:=⟨.type "tuple",none,.seq items.toArray 0,#[]⟩
noncomputable def dictO(es:List DictEntry)(k:Nat):Obj:=⟨.type "dict",none,.dict es.toArray k,#[]⟩
mutual
inductive VR (h:Heap) (S:Nat→Prop) (μ:Nat→Nat) (n:Nat):Value→V→Prop
 | none:VR h S μ n .none .none
 | bool (b:Bool):VR h S μ n (.bool b) (.bool b)
 | int (i:Int) (t:Tok):VR h S μ n (.int i t) (.int i)
 | str (s:Str) (t:Tok):VR h S μ n (.str s t) (.str s)
 | tup {a:Addr} {items:List Value} {l:List V} (e:h.get? a=some (tupO items)) (f:¬ S a) (x:VRs h S μ n items l):VR h S μ n (.ref a) (.tup l)
 | fl {a:Addr} {items:List Value} {k:Nat} {l:List V} (e:h.get? a=some (listO items k)) (f:¬ S a) (x:VRs h S μ n items l):VR h S μ n (.ref a) (.fl l)
 | rng {a:Addr} {x y z:Int} {t u v:Tok} (e:IsRange h a x y z t u v) (f:¬ S a):VR h S μ n (.ref a) (.rng x y z)
 | inst {a C d:Nat} (e:h.get? a=some (instObj C (μ d))) (f:¬ S a) (l:d < n):VR h S μ n (.ref a) (.inst C d)
 | ref {i:Nat} (l:i < n):VR h S μ n (.ref (μ i)) (.ref i)
 | raw (v:Value) (k:handedIn v=true):VR h S μ n v (.raw v)
inductive VRs (h:Heap) (S:Nat→Prop) (μ:Nat→Nat) (n:Nat):List Value→List V→Prop
 | nil:VRs h S μ n [] []
 | cons {v:Value} {x:V} {vs:List Value} {xs:List V} (a:VR h S μ n v x) (b:VRs h S μ n vs xs):VRs h S μ n (v::vs) (x::xs)
end
inductive TupI (h:Heap) (S:Nat→Prop) (μ:Nat→Nat) (n:Nat) (u:Value) (l:List V):Prop
 | mk (a:Addr) (items:List Value) (q:u=.ref a) (e:h.get? a=some (tupO items)) (f:¬ S a) (x:VRs h S μ n items l):TupI h S μ n u l
inductive FlI (h:Heap) (S:Nat→Prop) (μ:Nat→Nat) (n:Nat) (u:Value) (l:List V):Prop
 | mk (a:Addr) (items:List Value) (k:Nat) (q:u=.ref a) (e:h.get? a=some (listO items k)) (f:¬ S a) (x:VRs h S μ n items l):FlI h S μ n u l
inductive RngI (h:Heap) (S:Nat→Prop) (u:Value) (x y z:Int):Prop
 | mk (a:Addr) (t w v:Tok) (q:u=.ref a) (e:IsRange h a x y z t w v) (f:¬ S a):RngI h S u x y z
inductive InstI (h:Heap) (S:Nat→Prop) (μ:Nat→Nat) (n:Nat) (u:Value) (C d:Nat):Prop
 | mk (a:Addr) (q:u=.ref a) (e:h.get? a=some (instObj C (μ d))) (f:¬ S a) (l:d < n):InstI h S μ n u C d
noncomputable def VR.Inv(h:Heap)(S:Nat→Prop)(μ:Nat→Nat)(n:Nat)(u:Value):V→Prop
 | .none=>u=.none
 | .bool b=>u=.bool b
 | .int i=>∃ t,u=.int i t
 | .str x=>∃ t,u=.str x t
 | .tup l=>TupI h S μ n u l
 | .fl l=>FlI h S μ n u l
 | .rng x y z=>RngI h S u x y z
 | .inst C d=>InstI h S μ n u C d
 | .ref i=>u=.ref (μ i)∧i < n
 | .raw v=>u=v∧handedIn v=true
theorem VR.inv{h:Heap}{S:Nat→Prop}{μ:Nat→Nat}{n:Nat}{u:Value}{x:V}(t:VR h S μ n u x):VR.Inv h S μ n u x:=by
 cases t with
 | none=>rfl
 | bool=>rfl
 | int i t=>exact⟨t,rfl⟩
 | str i t=>exact⟨t,rfl⟩
 | tup e f x=>exact⟨_,_,rfl,e,f,x⟩
 | fl e f x=>exact⟨_,_,_,rfl,e,f,x⟩
 | rng e f=>exact⟨_,_,_,_,rfl,e,f⟩
 | inst e f l=>exact⟨_,rfl,e,f,l⟩
 | ref l=>exact⟨rfl,l⟩
 | raw v k=>exact⟨rfl,k⟩
structure Evo (h:Heap) (T S:Nat→Prop) (μ:Nat→Nat) (n:Nat) (h':Heap) (T' S':Nat→Prop) (μ':Nat→Nat) (n':Nat):Prop where
 keep:∀ a o,¬ T a→h.get? a=some o→h'.get? a=some o
 live:∀ a o,h.get? a=some o→∃ o',h'.get? a=some o'
 tS:∀ a,T a→S a
 subT:∀ a,T' a→T a∨h.get? a=none
 sub:∀ a,S' a→S a∨h.get? a=none
 mu:∀ i,i < n→μ' i=μ i
 le:n≤n'
theorem Evo.free{h h':Heap}{T T' S S':Nat→Prop}{μ μ':Nat→Nat}{n n':Nat}(x:Evo h T S μ n h' T' S' μ' n'){a:Nat}{o:Obj}(f:¬ S a)(e:h.get? a=some o):¬ S' a:=fun g=>by
 rcases x.sub a g with g | g
 ·exact f g
 ·rw[e] at g;cases g
theorem Evo.freeT{h h':Heap}{T T' S S':Nat→Prop}{μ μ':Nat→Nat}{n n':Nat}(x:Evo h T S μ n h' T' S' μ' n'){a:Nat}{o:Obj}(f:¬ T a)(e:h.get? a=some o):¬ T' a:=fun g=>by
 rcases x.subT a g with g | g
 ·exact f g
 ·rw[e] at g;cases g
theorem Evo.keepS{h h':Heap}{T T' S S':Nat→Prop}{μ μ':Nat→Nat}{n n':Nat}(x:Evo h T S μ n h' T' S' μ' n'){a:Nat}{o:Obj}(f:¬ S a)(e:h.get? a=some o):h'.get? a=some o:=x.keep a o (fun t=>f (x.tS a t)) e
theorem Evo.trans{h h' h'':Heap}{T T' T'' S S' S'':Nat→Prop}{μ μ' μ'':Nat→Nat}{n n' n'':Nat}(x:Evo h T S μ n h' T' S' μ' n')(y:Evo h' T' S' μ' n' h'' T'' S'' μ'' n''):Evo h T S μ n h'' T'' S'' μ'' n'' where
 keep a o f e:=y.keep a o (x.freeT f e) (x.keep a o f e)
 live a o e:=let ⟨o',e'⟩:=x.live a o e;y.live a o' e'
 tS:=x.tS
 subT a g:=by
  rcases y.subT a g with g | g
  ·exact x.subT a g
  ·cases q:h.get? a with
   | none=>exact .inr rfl
   | some o=>obtain⟨o',e⟩:=x.live a o q;rw[e] at g;cases g
 sub a g:=by
  rcases y.sub a g with g | g
  ·exact x.sub a g
  ·cases q:h.get? a with
   | none=>exact .inr rfl
   | some o=>obtain⟨o',e⟩:=x.live a o q;rw[e] at g;cases g
 mu i l:=(y.mu i (Nat.lt_of_lt_of_le l x.le)).trans (x.mu i l)
 le:=Nat.le_trans x.le y.le
mutual
noncomputable def V.bd(n:Nat):V→Bool
 | .tup l=>V.bds n l
 | .fl l=>V.bds n l
 | .inst _ d=>decide (d < n)
 | .ref i=>decide (i < n)
 | _=>true
noncomputable def V.bds(n:Nat):List V→Bool
 | []=>true
 | x::l=>x.bd n&&V.bds n l
end
structure VM (h:Heap) (S:Nat→Prop) (μ:Nat→Nat) (n:Nat) (h':Heap) (S':Nat→Prop) (μ':Nat→Nat) (n':Nat):Prop where
 keep:∀ a o,¬ S a→h.get? a=some o→h'.get? a=some o∧¬ S' a
 mu:∀ i,i < n→i < n'→μ' i=μ i
section
variable{h h':Heap}{T T' S S':Nat→Prop}{μ μ':Nat→Nat}{n n':Nat}
theorem VR.map(m:VM h S μ n h' S' μ' n'){v:Value}{x:V}(t:VR h S μ n v x):n≤n'∨x.bd n'=true→VR h' S' μ' n' v x :=
 VR.rec (motive_1:=fun v x _=>n≤n'∨x.bd n'=true→VR h' S' μ' n' v x) (motive_2:=fun v x _=>n≤n'∨V.bds n' x=true→VRs h' S' μ' n' v x)
  (fun _=>.none) (fun b _=>.bool b) (fun i t _=>.int i t) (fun s t _=>.str s t) (fun e f _ ih k=>.tup (m.keep _ _ f e).1 (m.keep _ _ f e).2 (ih k))
  (fun e f _ ih k=>.fl (m.keep _ _ f e).1 (m.keep _ _ f e).2 (ih k)) (fun e f _=>.rng (m.keep _ _ f e).1 (m.keep _ _ f e).2)
  (fun {_ _ d} e f l k=>have l':=k.elim (Nat.lt_of_lt_of_le l) of_decide_eq_true;.inst ((m.mu d l l').symm▸(m.keep _ _ f e).1) (m.keep _ _ f e).2 l')
  (fun {i} l k=>have l':=k.elim (Nat.lt_of_lt_of_le l) of_decide_eq_true;m.mu i l l'▸.ref l')
  (fun v k _=>.raw v k) (fun _=>.nil)
  (fun _ _ a b k=>.cons (a (k.imp id fun z=>(Bool.and_eq_true_iff.mp z).1)) (b (k.imp id fun z=>(Bool.and_eq_true_iff.mp z).2))) t
theorem VRs.map(m:VM h S μ n h' S' μ' n'){v:List Value}{x:List V}(t:VRs h S μ n v x)(k:n≤n'∨V.bds n' x=true):VRs h' S' μ' n' v x:=by
 induction x generalizing v with
 | nil=>cases t;exact .nil
 | cons y ys ih=>cases t with | cons a b=>exact .cons (a.map m (k.imp id fun z=>(Bool.and_eq_true_iff.mp z).1)) (ih b (k.imp id fun z=>(Bool.and_eq_true_iff.mp z).2))
theorem VM.of(ev:Evo h T S μ n h' T' S' μ' n'):VM h S μ n h' S' μ' n':=⟨fun _ _ f e=>⟨ev.keepS f e,ev.free f e⟩,fun i l _=>ev.mu i l⟩
theorem VR.mono(ev:Evo h T S μ n h' T' S' μ' n'){v:Value}{x:V}(t:VR h S μ n v x):VR h' S' μ' n' v x:=t.map (.of ev) (.inl ev.le)
theorem VRs.mono(ev:Evo h T S μ n h' T' S' μ' n'){v:List Value}{x:List V}(t:VRs h S μ n v x):VRs h' S' μ' n' v x:=t.map (.of ev) (.inl ev.le)
theorem VM.cut(hS:∀ a,S' a→S a):VM h S μ n h S' μ n':=⟨fun _ _ f e=>⟨e,fun z=>f (hS _ z)⟩,fun _ _ _=>rfl⟩
theorem VR.cut(hS:∀ a,S' a→S a){v:Value}{x:V}(t:VR h S μ n v x)(k:x.bd n'=true):VR h S' μ n' v x:=t.map (.cut hS) (.inr k)
theorem VRs.cut(hS:∀ a,S' a→S a){v:List Value}{x:List V}(t:VRs h S μ n v x)(k:V.bds n' x=true):VRs h S' μ n' v x:=t.map (.cut hS) (.inr k)
theorem VR.bound{v:Value}{x:V}(t:VR h S μ n v x):x.bd n=true :=
 VR.rec (motive_1:=fun _ x _=>x.bd n=true) (motive_2:=fun _ x _=>V.bds n x=true) rfl (fun _=>rfl) (fun _ _=>rfl) (fun _ _=>rfl) (fun _ _ _ a=>a) (fun _ _ _ a=>a) (fun _ _=>rfl)
  (fun _ _ l=>decide_eq_true l) (fun l=>decide_eq_true l) (fun _ _=>rfl) rfl (fun _ _ a b=>Bool.and_eq_true_iff.mpr ⟨a,b⟩) t
theorem VRs.bound{v:List Value}{x:List V}(t:VRs h S μ n v x):V.bds n x=true:=by
 induction x generalizing v with
 | nil=>rfl
 | cons y ys ih=>cases t with | cons a b=>exact Bool.and_eq_true_iff.mpr ⟨a.bound,ih b⟩
end
section
variable{h:Heap}{S:Nat→Prop}{μ:Nat→Nat}{n:Nat}
theorem VRs.length{vs:List Value}{xs:List V}(x:VRs h S μ n vs xs):vs.length=xs.length:=by
 induction xs generalizing vs with
 | nil=>cases x;rfl
 | cons y ys ih=>cases x with | cons a b=>simp[ih b]
theorem VRs.append{vs vs':List Value}{xs xs':List V}(x:VRs h S μ n vs xs)(y:VRs h S μ n vs' xs'):VRs h S μ n (vs++vs') (xs++xs'):=by
 induction xs generalizing vs with
 | nil=>cases x;exact y
 | cons z zs ih=>cases x with | cons a b=>exact .cons a (ih b)
theorem VRs.get{vs:List Value}{xs:List V}(x:VRs h S μ n vs xs){i:Nat}{y:V}(e:xs[i]?=some y):∃ v,vs[i]?=some v∧VR h S μ n v y:=by
 induction xs generalizing vs i with
 | nil=>simp at e
 | cons z zs ih =>
  cases x with
  | cons a b =>
   cases i with
   | zero=>simp at e;subst e;exact⟨_,rfl,a⟩
   | succ i=>simpa using ih b (by simpa using e)
theorem VRs.take{vs:List Value}{xs:List V}(x:VRs h S μ n vs xs)(k:Nat):VRs h S μ n (vs.take k) (xs.take k):=by
 induction xs generalizing vs k with
 | nil=>cases x;simpa using VRs.nil
 | cons z zs ih=>cases x with | cons a b=>cases k with
  | zero=>exact .nil
  | succ k=>exact .cons a (ih b k)
theorem VRs.drop{vs:List Value}{xs:List V}(x:VRs h S μ n vs xs)(k:Nat):VRs h S μ n (vs.drop k) (xs.drop k):=by
 induction xs generalizing vs k with
 | nil=>cases x;simpa using VRs.nil
 | cons z zs ih=>cases x with | cons a b=>cases k with
  | zero=>exact .cons a b
  | succ k=>exact ih b k
theorem VRs.reverse{vs:List Value}{xs:List V}(x:VRs h S μ n vs xs):VRs h S μ n vs.reverse xs.reverse:=by
 induction xs generalizing vs with
 | nil=>cases x;exact .nil
 | cons z zs ih=>cases x with | cons a b=>rw[List.reverse_cons,List.reverse_cons];exact (ih b).append (.cons a .nil)
theorem VRs.set{vs:List Value}{xs:List V}(x:VRs h S μ n vs xs){v:Value}{y:V}(a:VR h S μ n v y)(k:Nat):VRs h S μ n (vs.set k v) (xs.set k y):=by
 induction xs generalizing vs k with
 | nil=>cases x;simpa using VRs.nil
 | cons z zs ih=>cases x with | cons a' b=>cases k with
  | zero=>exact .cons a b
  | succ k=>exact .cons a' (ih b k)
end
noncomputable def V.fold{α β:Type}(d:α)(int:Int→α)(str:Str→α)(tup:β→α)(nil:β)(cons:α→β→β)(x:V):α:=V.rec (motive_1:=fun _=>α) (motive_2:=fun _=>β) d (fun _=>d) int str (fun _=>tup) (fun _ _=>d) (fun _ _ _=>d) (fun _ _=>d) (fun _=>d) (fun _=>d) nil (fun _ _=>cons) x
noncomputable def V.folds{α β:Type}(d:α)(int:Int→α)(str:Str→α)(tup:β→α)(nil:β)(cons:α→β→β)(x:List V):β:=V.rec_1 (motive_1:=fun _=>α) (motive_2:=fun _=>β) d (fun _=>d) int str (fun _=>tup) (fun _ _=>d) (fun _ _ _=>d) (fun _ _=>d) (fun _=>d) (fun _=>d) nil (fun _ _=>cons) x
noncomputable def V.key:V→Bool:=V.fold false (fun _=>true) (fun s=>PyData.canLay0 (.str s)) id true and
noncomputable def V.keys:List V→Bool:=V.folds false (fun _=>true) (fun s=>PyData.canLay0 (.str s)) id true and
noncomputable def V.dep:V→Nat:=V.fold 0 (fun _=>0) (fun _=>0) Nat.succ 0 max
noncomputable def V.deps:List V→Nat:=V.folds 0 (fun _=>0) (fun _=>0) Nat.succ 0 max
noncomputable def hV(w:World):V→Int:=V.fold 0 hashInt (hashStr w) (fun l=>reduceHash (Builtin.Tuple.tupleHashOf l)) [] List.cons
noncomputable def hVs(w:World):List V→List Int:=V.folds 0 hashInt (hashStr w) (fun l=>reduceHash (Builtin.Tuple.tupleHashOf l)) [] List.cons
set_option genInjectivity false in
structure Ctx where
 prog:Program
 w:World
 K:Frag
 h0:Heap
 mg:Str→Option Value
 mb:Str→Option Value
noncomputable abbrev Ctx.M(c:Ctx):Model:=model c.prog c.w
structure Ctx.Ok (c:Ctx):Prop where
 K:c.K.In c.h0
 g:c.h0.Ns mainGlobals c.mg
 b:c.h0.Ns builtinsNs c.mb
 nolimit:c.h0.NoLimit
 builtins:∀ x:Str,x≠"__name__"→c.mb x=bootBuiltins x
 low:∃ o,c.h0.get? sysModules=some o
 names:∀ x∈(["len","range","list","tuple","int","sorted","reversed","any","min","max","sum","zip","enumerate","set","dict","super","str"]:List Str),c.mg x=none
inductive DR (c:Ctx) (h:Heap) (S:Nat→Prop) (μ:Nat→Nat) (n:Nat):List DictEntry→List (V×V)→Prop
 | nil:DR c h S μ n [] []
 | cons {e:DictEntry} {k x:V} {es:List DictEntry} {kvs:List (V×V)} (a:VR h S μ n e.key k) (b:VR h S μ n e.val x) (q:e.hash=hV c.w k) (r:DR c h S μ n es kvs):DR c h S μ n (e::es) ((k,x)::kvs)
theorem DR.mono{c:Ctx}{h h':Heap}{T T' S S':Nat→Prop}{μ μ':Nat→Nat}{n n':Nat}(ev:Evo h T S μ n h' T' S' μ' n'){es:List DictEntry}{kvs:List (V×V)}(x:DR c h S μ n es kvs):DR c h' S' μ' n' es kvs:=by
 induction x with
 | nil=>exact .nil
 | cons a b q _ ih=>exact .cons (a.mono ev) (b.mono ev) q ih
inductive NR (h:Heap) (S:Nat→Prop) (μ:Nat→Nat) (n:Nat):List DictEntry→List (Str×V)→Prop
 | nil:NR h S μ n [] []
 | cons {e:DictEntry} {k:Str} {t:Tok} {x:V} {es:List DictEntry} {kvs:List (Str×V)} (a:e.key=.str k t) (b:VR h S μ n e.val x) (r:NR h S μ n es kvs):NR h S μ n (e::es) ((k,x)::kvs)
theorem NR.mono{h h':Heap}{T T' S S':Nat→Prop}{μ μ':Nat→Nat}{n n':Nat}(ev:Evo h T S μ n h' T' S' μ' n'){es:List DictEntry}{kvs:List (Str×V)}(x:NR h S μ n es kvs):NR h' S' μ' n' es kvs:=by
 induction x with
 | nil=>exact .nil
 | cons a b _ ih=>exact .cons a (b.mono ev) ih
inductive OR (c:Ctx) (h:Heap) (S:Nat→Prop) (μ:Nat→Nat) (n:Nat) (a:Addr):AObj→Prop
 | list {items:List Value} {k:Nat} {vs:List V} (e:h.get? a=some (listO items k)) (x:VRs h S μ n items vs):OR c h S μ n a (.list vs)
 | dict {es:List DictEntry} {k:Nat} {kvs:List (V×V)} (e:h.get? a=some (dictO es k)) (x:DR c h S μ n es kvs) (u:(kvs.map (·.1)).Pairwise (·≠·)) (y:∀ p∈kvs,p.1.key=true∧p.1.dep≤7):OR c h S μ n a (.dict kvs)
 | ns {es:List DictEntry} {k:Nat} {kvs:List (Str×V)} (e:h.get? a=some (dictO es k)) (x:NR h S μ n es kvs):OR c h S μ n a (.ns kvs)
theorem OR.isSome{c:Ctx}{h:Heap}{S:Nat→Prop}{μ:Nat→Nat}{n:Nat}{a:Addr}{o:AObj}(x:OR c h S μ n a o):∃ o',h.get? a=some o':=by cases x with
 | list e _=>exact⟨_,e⟩
 | dict e _ _ _=>exact⟨_,e⟩
 | ns e _=>exact⟨_,e⟩
theorem OR.move{c:Ctx}{h h':Heap}{T T' S S':Nat→Prop}{μ μ':Nat→Nat}{n n':Nat}(ev:Evo h T S μ n h' T' S' μ' n'){a:Addr}{o:AObj}(k:∀ o',h.get? a=some o'→h'.get? a=some o')(x:OR c h S μ n a o):OR c h' S' μ' n' a o:=by
 cases x with
 | list e x=>exact .list (k _ e) (x.mono ev)
 | dict e x u y=>exact .dict (k _ e) (x.mono ev) u y
 | ns e x=>exact .ns (k _ e) (x.mono ev)
noncomputable def Tr(σ:St)(μ:Nat→Nat)(a:Nat):Prop:=∃ i o,σ[i]?=some (some o)∧μ i=a
noncomputable def Sx(X:Nat→Prop)(σ:St)(μ:Nat→Nat)(a:Nat):Prop:=Tr σ μ a∨X a
inductive LstI (h:Heap) (S:Nat→Prop) (μ:Nat→Nat) (n:Nat) (a:Addr) (vs:List V):Prop
 | mk (items:List Value) (k:Nat) (e:h.get? a=some (listO items k)) (x:VRs h S μ n items vs):LstI h S μ n a vs
inductive DctI (c:Ctx) (h:Heap) (S:Nat→Prop) (μ:Nat→Nat) (n:Nat) (a:Addr) (kvs:List (V×V)):Prop
 | mk (es:List DictEntry) (k:Nat) (e:h.get? a=some (dictO es k)) (x:DR c h S μ n es kvs) (u:(kvs.map (·.1)).Pairwise (·≠·)) (y:∀ p∈kvs,p.1.key=true∧p.1.dep≤7):DctI c h S μ n a kvs
inductive NsI (h:Heap) (S:Nat→Prop) (μ:Nat→Nat) (n:Nat) (a:Addr) (kvs:List (Str×V)):Prop
 | mk (es:List DictEntry) (k:Nat) (e:h.get? a=some (dictO es k)) (x:NR h S μ n es kvs):NsI h S μ n a kvs
noncomputable def OR.Inv(c:Ctx)(h:Heap)(S:Nat→Prop)(μ:Nat→Nat)(n:Nat)(a:Addr):AObj→Prop
 | .list vs=>LstI h S μ n a vs
 | .dict kvs=>DctI c h S μ n a kvs
 | .ns kvs=>NsI h S μ n a kvs
theorem OR.inv{c:Ctx}{h:Heap}{S:Nat→Prop}{μ:Nat→Nat}{n:Nat}{a:Addr}{o:AObj}(t:OR c h S μ n a o):OR.Inv c h S μ n a o:=by
 cases t with
 | list e x=>exact⟨_,_,e,x⟩
 | dict e x u y=>exact⟨_,_,e,x,u,y⟩
 | ns e x=>exact⟨_,_,e,x⟩
structure Rel (c:Ctx) (X:Nat→Prop) (σ:St) (μ:Nat→Nat) (h:Heap):Prop where
 base:∀ b o,c.h0.get? b=some o→h.get? b=some o
 out:∀ i o,σ[i]?=some (some o)→c.h0.get? (μ i)=none
 inj:∀ i j o p,σ[i]?=some (some o)→σ[j]?=some (some p)→μ i=μ j→i=j
 obj:∀ i o,σ[i]?=some (some o)→OR c h (Sx X σ μ) μ σ.length (μ i) o
 sh:∀ a,X a→c.h0.get? a=none∧∃ o,h.get? a=some o
noncomputable abbrev VRσ(X:Nat→Prop)(σ:St)(μ:Nat→Nat)(h:Heap):Value→V→Prop:=VR h (Sx X σ μ) μ σ.length
noncomputable abbrev Evσ(X:Nat→Prop)(σ:St)(μ:Nat→Nat)(h:Heap)(X':Nat→Prop)(σ':St)(μ':Nat→Nat)(h':Heap):Prop:=Evo h (Tr σ μ) (Sx X σ μ) μ σ.length h' (Tr σ' μ') (Sx X' σ' μ') μ' σ'.length
theorem Evσ.refl(X:Nat→Prop)(σ:St)(μ:Nat→Nat)(h:Heap):Evσ X σ μ h X σ μ h:=⟨fun _ _ _ e=>e,fun _ o e=>⟨o,e⟩,fun _ t=>.inl t,fun _ t=>.inl t,fun _ t=>.inl t,fun _ _=>rfl,Nat.le_refl _⟩
theorem Evσ.beside{X:Nat→Prop}{σ:St}{μ:Nat→Nat}{h h':Heap}(k:∀ b o,h.get? b=some o→h'.get? b=some o):Evσ X σ μ h X σ μ h':=⟨fun _ _ _ e=>k _ _ e,fun _ _ e=>⟨_,k _ _ e⟩,fun _ t=>.inl t,fun _ t=>.inl t,fun _ t=>.inl t,fun _ _=>rfl,Nat.le_refl _⟩
theorem dH{σ:St}{i:Nat}{o:AObj}(e:σ[i]?=some (some o)):i < σ.length:=(List.getElem?_eq_some_iff.mp e).1
theorem Rel.keeps{c:Ctx}{X:Nat→Prop}{σ:St}{μ:Nat→Nat}{h h':Heap}(R:Rel c X σ μ h)(k:∀ b o,h.get? b=some o→h'.get? b=some o):Rel c X σ μ h'∧Evσ X σ μ h X σ μ h' :=
 have ev:Evσ X σ μ h X σ μ h':=Evσ.beside k
 ⟨⟨fun b o' e=>k _ _ (R.base b o' e),R.out,R.inj,fun i a e=>(R.obj i a e).move ev fun o' e'=>k _ _ e',fun a x=>let ⟨z,o,e⟩:=R.sh a x;⟨z,o,k _ _ e⟩⟩,ev⟩
theorem Rel.push{c:Ctx}{X:Nat→Prop}{σ:St}{μ:Nat→Nat}{h:Heap}(R:Rel c X σ μ h)(o:Obj):Rel c X σ μ (h.push o)∧Evσ X σ μ h X σ μ (h.push o) :=
 R.keeps fun _ _ e=>Heap.get?_push_of_some o e
theorem Rel.shut{c:Ctx}{X X':Nat→Prop}{σ:St}{μ:Nat→Nat}{h:Heap}(R:Rel c X σ μ h)(k:∀ a,X' a→X a):Rel c X' σ μ h∧Evσ X σ μ h X' σ μ h:=by
 have ev:Evσ X σ μ h X' σ μ h:=⟨fun _ _ _ e=>e,fun _ _ e=>⟨_,e⟩,fun _ t=>.inl t,fun _ t=>.inl t,fun a t=>.inl (t.imp id (k a)),fun _ _=>rfl,Nat.le_refl _⟩
 exact⟨⟨R.base,R.out,R.inj,fun i a e=>(R.obj i a e).move ev fun o' e'=>e',fun a x=>R.sh a (k a x)⟩,ev⟩
theorem Rel.opens{c:Ctx}{X X':Nat→Prop}{σ:St}{μ:Nat→Nat}{h h':Heap}(R:Rel c X σ μ h)(kp:∀ b o,h.get? b=some o→h'.get? b=some o)(k:∀ a,X' a→X a∨(h.get? a=none∧∃ o,h'.get? a=some o)) :
  Rel c X' σ μ h'∧Evσ X σ μ h X' σ μ h':=by
 have ev:Evσ X σ μ h X' σ μ h':=⟨fun _ _ _ e=>kp _ _ e,fun _ _ e=>⟨_,kp _ _ e⟩,fun _ t=>.inl t,fun _ t=>.inl t,fun a t=>by
  rcases t with t | t
  ·exact .inl (.inl t)
  ·exact (k a t).imp .inr And.left,fun _ _=>rfl,Nat.le_refl _⟩
 exact⟨⟨fun b o' e=>kp _ _ (R.base b o' e),R.out,R.inj,fun i a e=>(R.obj i a e).move ev fun o' e'=>kp _ _ e',fun a x=>(k a x).elim (fun x=>let ⟨z,o,e⟩:=R.sh a x;⟨z,o,kp _ _ e⟩) fun x=>⟨by cases z:c.h0.get? a with | none=>rfl | some o=>(have:=R.base _ _ z;rw[x.1] at this;cases this),x.2⟩⟩,ev⟩
theorem Rel.beside{c:Ctx}{X:Nat→Prop}{σ:St}{μ:Nat→Nat}{h h':Heap}{a:Addr}(R:Rel c X σ μ h)(hs:Heap.SameBut a h h')(ht:¬ Tr σ μ a)(h0:c.h0.get? a=none)(hlive:∃ o',h'.get? a=some o')
  (mono:∀ v x,VRσ X σ μ h v x→VRσ X σ μ h' v x):Rel c X σ μ h':=by
 have monos:∀ (vs:List Value) (xs:List V),VRs h (Sx X σ μ) μ σ.length vs xs→VRs h' (Sx X σ μ) μ σ.length vs xs:=fun vs xs=>by
  induction xs generalizing vs with
  | nil=>intro x;cases x;exact .nil
  | cons z zs ih=>intro x;cases x with | cons p q=>exact .cons (mono _ _ p) (ih _ q)
 have monod:∀ (es:List DictEntry) (kvs:List (V×V)),DR c h (Sx X σ μ) μ σ.length es kvs→DR c h' (Sx X σ μ) μ σ.length es kvs:=fun es kvs x=>by
  induction x with
  | nil=>exact .nil
  | cons p q r _ ih=>exact .cons (mono _ _ p) (mono _ _ q) r ih
 refine⟨fun b o e=>(hs.2 b fun z=>by rw[← z,e] at h0;cases h0).trans (R.base b o e),R.out,R.inj,fun i o e=>?_,fun b x=>?_⟩
 case refine_2 =>
  obtain⟨z0,o,e⟩:=R.sh b x
  by_cases z:b=a
  ·exact⟨z0,z▸hlive⟩
  ·exact⟨z0,o,(hs.2 b z).trans e⟩
 have hne:μ i≠a:=fun z=>ht ⟨i,o,e,z⟩
 cases R.obj i o e with
 | list e1 x=>exact .list ((hs.2 _ hne).trans e1) (monos _ _ x)
 | dict e1 x u y=>exact .dict ((hs.2 _ hne).trans e1) (monod _ _ x) u y
 | ns e1 x =>
  refine .ns ((hs.2 _ hne).trans e1) ?_
  clear e1 e
  induction x with
  | nil=>exact .nil
  | cons p q _ ih=>exact .cons p (mono _ _ q) ih
theorem Tr.set{σ:St}{μ:Nat→Nat}{i:Nat}{o p:AObj}(e:σ[i]?=some (some o)){a:Nat}:Tr (σ.set i (some p)) μ a↔Tr σ μ a:=by
 constructor
 ·rintro⟨j,q,ej,rfl⟩
  by_cases hij:i=j
  ·subst hij;exact⟨i,o,e,rfl⟩
  ·rw[List.getElem?_set_ne hij] at ej;exact⟨j,q,ej,rfl⟩
 ·rintro⟨j,q,ej,rfl⟩
  by_cases hij:i=j
  ·subst hij;exact⟨i,p,by rw[List.getElem?_set_self (dH e)],rfl⟩
  ·exact⟨j,q,by rw[List.getElem?_set_ne hij];exact ej,rfl⟩
theorem Rel.upd{c:Ctx}{X:Nat→Prop}{σ:St}{μ:Nat→Nat}{h h':Heap}(R:Rel c X σ μ h){i:Nat}{o p:AObj}(e:σ[i]?=some (some o))(hs:Heap.SameBut (μ i) h h')(hlive:∃ o',h'.get? (μ i)=some o')
  (hp:Evσ X σ μ h X σ μ h'→OR c h' (Sx X σ μ) μ σ.length (μ i) p):Rel c X (σ.set i (some p)) μ h'∧Evσ X σ μ h X (σ.set i (some p)) μ h':=by
 have hl:(σ.set i (some p)).length=σ.length:=by simp
 have hT':Tr (σ.set i (some p)) μ=Tr σ μ:=funext fun a=>propext (Tr.set e)
 have hS':Sx X (σ.set i (some p)) μ=Sx X σ μ:=funext fun a=>by unfold Sx;rw[hT']
 have lv:∀ a o',h.get? a=some o'→∃ o'',h'.get? a=some o'':=fun a o' q=>by
  by_cases z:a=μ i
  ·exact z▸hlive
  ·exact⟨o',(hs.2 a z).trans q⟩
 have ev:Evσ X σ μ h X σ μ h':=⟨fun a o' f q=>(hs.2 a fun z=>f ⟨i,o,e,z.symm⟩).trans q,lv,fun _ t=>.inl t,fun _ t=>.inl t,fun _ t=>.inl t,fun _ _=>rfl,Nat.le_refl _⟩
 have ev':Evσ X σ μ h X (σ.set i (some p)) μ h':=by
  unfold Evσ;rw[hT',hS',hl];exact ev
 refine⟨⟨fun b o' q=>(hs.2 b fun z=>by have:=R.out i o e;rw[← z,q] at this;cases this).trans (R.base b o' q),fun j q ej=>?_,fun j k q r ej ek hjk=>?_,fun j q ej=>?_,fun b x=>let ⟨z,o',q⟩:=R.sh b x;⟨z,lv b o' q⟩⟩,ev'⟩
 ·by_cases hij:i=j
  ·subst hij;exact R.out i o e
  ·rw[List.getElem?_set_ne hij] at ej;exact R.out j q ej
 ·have f:∀ {j:Nat} {q:AObj},(σ.set i (some p))[j]?=some (some q)→∃ q',σ[j]?=some (some q'):=fun {j q} ej=>by
   by_cases hij:i=j
   ·subst hij;exact⟨o,e⟩
   ·rw[List.getElem?_set_ne hij] at ej;exact⟨q,ej⟩
  obtain⟨q',hq⟩:=f ej
  obtain⟨r',hr⟩:=f ek
  exact R.inj j k q' r' hq hr hjk
 ·rw[hS',hl]
  by_cases hij:i=j
  ·subst hij
   rw[List.getElem?_set_self (dH e)] at ej
   cases ej
   exact hp ev
  ·rw[List.getElem?_set_ne hij] at ej
   have hne:μ j≠μ i:=fun z=>hij (R.inj i j o q e ej z.symm)
   exact (R.obj j q ej).move ev fun o' e'=>(hs.2 _ hne).trans e'
theorem bc(h:Heap):h.get? h.objs.size=none:=by
 cases q:h.get? h.objs.size with
 | none=>rfl
 | some o'=>exact absurd (Heap.lt_size q) (Nat.lt_irrefl _)
theorem Rel.fresh{c:Ctx}{X:Nat→Prop}{σ:St}{μ:Nat→Nat}{h:Heap}(R:Rel c X σ μ h){a:Addr}(e:h.get? a=none):¬ Sx X σ μ a:=by
 rintro (⟨i,o,ei,rfl⟩ | x)
 ·obtain⟨o',e'⟩:=(R.obj i o ei).isSome;rw[e] at e';cases e'
 ·obtain⟨_,o',e'⟩:=R.sh a x;rw[e] at e';cases e'
theorem Rel.alloc{c:Ctx}{X:Nat→Prop}{σ:St}{μ:Nat→Nat}{h:Heap}(R:Rel c X σ μ h){o:Obj}{p:AObj}
  (hp:∀ μ',Evσ X σ μ h X (σ++[some p]) μ' (h.push o)→μ' σ.length=h.objs.size→OR c (h.push o) (Sx X (σ++[some p]) μ') μ' (σ++[some p]).length h.objs.size p) :
  ∃ μ',Rel c X (σ++[some p]) μ' (h.push o)∧Evσ X σ μ h X (σ++[some p]) μ' (h.push o)∧μ' σ.length=h.objs.size:=by
 let μ':Nat→Nat:=fun i=>if i=σ.length then h.objs.size else μ i
 have hmu:∀ i,i < σ.length→μ' i=μ i:=fun i l=>if_neg (Nat.ne_of_lt l)
 have hself:μ' σ.length=h.objs.size:=if_pos rfl
 have hsz:=bc h
 have old:∀ {i:Nat} {q:AObj},(σ++[some p])[i]?=some (some q)→(i=σ.length∧q=p)∨(i < σ.length∧σ[i]?=some (some q)):=fun {i q} e=>by
  rcases Nat.lt_or_ge i σ.length with hl | hl
  ·rw[List.getElem?_append_left hl] at e;exact .inr ⟨hl,e⟩
  ·rw[List.getElem?_append_right hl] at e
   have:i - σ.length=0:=by
    rcases Nat.eq_zero_or_pos (i - σ.length) with z | z
    ·exact z
    ·rw[List.getElem?_eq_none (by simp;lia)] at e;cases e
   rw[this] at e
   simp at e
   exact .inl ⟨by lia,e.symm⟩
 have hT:∀ a,Tr (σ++[some p]) μ' a→Tr σ μ a∨h.get? a=none:=by
  rintro a ⟨i,q,e,rfl⟩
  rcases old e with⟨rfl,rfl⟩ | ⟨hl,e⟩
  ·right;rw[hself];exact hsz
  ·left;exact⟨i,q,e,(hmu i hl).symm⟩
 have ev:Evσ X σ μ h X (σ++[some p]) μ' (h.push o):=⟨fun a o' _ e=>Heap.get?_push_of_some o e,fun a o' e=>⟨o',Heap.get?_push_of_some o e⟩,fun _ t=>.inl t,hT,fun a t=>by
  rcases t with t | t
  ·exact (hT a t).imp .inl id
  ·exact .inl (.inr t),hmu,by simp⟩
 have live:∀ {i:Nat} {q:AObj},σ[i]?=some (some q)→μ i < h.objs.size:=fun {i q} e=>let ⟨_,e1⟩:=(R.obj i q e).isSome;Heap.lt_size e1
 refine⟨μ',⟨fun b o' e=>Heap.get?_push_of_some o (R.base b o' e),fun i q e=>?_,fun i j q r ei ej hij=>?_,fun i q e=>?_,fun a x=>let ⟨z,o',e⟩:=R.sh a x;⟨z,o',Heap.get?_push_of_some o e⟩⟩,ev,hself⟩
 ·rcases old e with⟨rfl,rfl⟩ | ⟨hl,e⟩
  ·rw[hself]
   cases z:c.h0.get? h.objs.size with
   | none=>rfl
   | some o'=>have:=R.base _ _ z;rw[hsz] at this;cases this
  ·rw[hmu i hl];exact R.out i q e
 ·rcases old ei with⟨hi,_⟩ | ⟨hi,ei⟩<;>rcases old ej with⟨hj,_⟩ | ⟨hj,ej⟩
  ·rw[hi,hj]
  ·rw[hi,hself,hmu j hj] at hij;exact absurd hij (Nat.ne_of_gt (live ej))
  ·rw[hj,hself,hmu i hi] at hij;exact absurd hij (Nat.ne_of_lt (live ei))
  ·rw[hmu i hi,hmu j hj] at hij;exact R.inj i j q r ei ej hij
 ·rcases old e with⟨rfl,rfl⟩ | ⟨hl,e⟩
  ·rw[hself];exact hp μ' ev hself
  ·rw[hmu i hl]
   exact (R.obj i q e).move ev fun o' e'=>Heap.get?_push_of_some o e'
end
section
theorem VM.beside{h h':Heap}{S:Nat→Prop}{μ:Nat→Nat}{n:Nat}{a:Addr}(hs:Heap.SameBut a h h')(ha:S a):VM h S μ n h' S μ n:=⟨fun _ _ f e=>⟨(hs.2 _ fun z=>f (by rw[z];exact ha)).trans e,f⟩,fun _ _ _=>rfl⟩
theorem VR.beside{h h':Heap}{S:Nat→Prop}{μ:Nat→Nat}{n:Nat}{a:Addr}(hs:Heap.SameBut a h h')(ha:S a){v:Value}{x:V}(t:VR h S μ n v x):VR h' S μ n v x:=t.map (.beside hs ha) (.inl (Nat.le_refl _))
noncomputable abbrev Env':=List (Option V)
set_option genInjectivity false in
structure Gm where
 sl:List (Str×Option Nat)
 ck:List Str
 fn:Option (Addr×Addr):=none
noncomputable def Gm.lookup(Γ:Gm)(x:Str):Option (Option Nat):=Γ.sl.lookup x
inductive CellAt (X:Nat→Prop) (bs:Nat) (env:Env) (F:Nat→Prop) (ρ:Env') (σ:St) (μ:Nat→Nat) (h:Heap) (x:Str) (i:Nat):Prop
 | loc (hk:env.kindOf x=some .local):CellAt X bs env F ρ σ μ h x i
 | cell (hk:env.kindOf x=some .cell∨env.kindOf x=some .free) (a:Addr) (ov:Option Value) (ha:env.cells.lookup x=some a) (hc:h.IsCell a ov) (hv:∀ V,ρ[i]?=some (some V)→∃ v,ov=some v∧VRσ X σ μ h v V) (ht:¬ Tr σ μ a) (hl:a≠env.locals)
  (hf:bs≤i→env.kindOf x=some .cell∧F a):CellAt X bs env F ρ σ μ h x i
structure EnvR (c:Ctx) (X:Nat→Prop) (Γ:Gm) (bs:Nat) (env:Env) (F:Nat→Prop) (ρ:Env') (σ:St) (μ:Nat→Nat) (h:Heap):Prop where
 kind:env.scope.kind=.function
 glob:env.globals=mainGlobals
 blt:env.builtins=builtinsNs
 gl:∀ x,Γ.lookup x=some none→env.kindOf x=some .globalImplicit
 slots:∀ x y i,Γ.lookup x=some (some i)→Γ.lookup y=some (some i)→x=y
 lo:∃ m,h.Ns env.locals m∧∀ x i,Γ.lookup x=some (some i)→env.kindOf x=some .local→∀ V,ρ[i]?=some (some V)→∃ v,m x=some v∧VRσ X σ μ h v V
 ce:∀ x i,Γ.lookup x=some (some i)→CellAt X bs env F ρ σ μ h x i
 ap:∀ x y a,env.cells.lookup x=some a→env.cells.lookup y=some a→x=y
 own:F env.locals
 fx:∀ a,F a→X a
 fr:∀ a,F a→¬ Tr σ μ a∧c.h0.get? a=none∧∃ o,h.get? a=some o
 ck:∀ x∈Γ.ck,env.kindOf x=some .cell∨env.kindOf x=some .free
 fn:∀ f a,Γ.fn=some (f,a)→env.func=some f∧env.kindOf ("__class__":Str)=some .free∧env.cells.lookup ("__class__":Str)=some a∧∃ o fd,c.h0.get? f=some o∧o.data=.func fd∧env.code=fd.code
theorem EnvR.map{c:Ctx}{X X':Nat→Prop}{Γ:Gm}{bs:Nat}{env:Env}{F:Nat→Prop}{ρ:Env'}{σ σ':St}{μ μ':Nat→Nat}{h h':Heap}(E:EnvR c X Γ bs env F ρ σ μ h)(K:Nat→Prop)(vr:∀ v x,VRσ X σ μ h v x→VRσ X' σ' μ' h' v x)
  (kp:∀ b o,K b→h.get? b=some o→h'.get? b=some o) (nt:∀ b o,¬ Tr σ μ b→h.get? b=some o→¬ Tr σ' μ' b) (hF:∀ b,F b→K b) (hX:∀ b,F b→X' b)
  (hc:∀ x i a,Γ.lookup x=some (some i)→env.kindOf x≠some .local→env.cells.lookup x=some a→¬ Tr σ μ a→K a):EnvR c X' Γ bs env F ρ σ' μ' h' where
 kind:=E.kind
 glob:=E.glob
 blt:=E.blt
 gl:=E.gl
 slots:=E.slots
 lo:=E.lo.elim fun m k=>k.1.elim fun o k1=>k1.elim fun es k2=>k2.elim fun ep k3=>⟨m,⟨o,es,ep,kp _ _ (hF _ E.own) k3.1,k3.2⟩,fun x i hx hk V hV=>(k.2 x i hx hk V hV).imp fun _ q=>⟨q.1,vr _ _ q.2⟩⟩
 ce:=fun x i hx=>by
  cases E.ce x i hx with
  | loc hk=>exact .loc hk
  | cell hk a ov ha hc' hv ht hl hf =>
   exact .cell hk a ov ha (hc'.imp fun _ q=>⟨kp _ _ (hc x i a hx (fun e=>by rcases hk with hk | hk<;>rw[hk] at e<;>cases e) ha ht) q.1,q.2⟩) (fun V hV=>(hv V hV).imp fun _ q=>⟨q.1,vr _ _ q.2⟩) (hc'.elim fun o q=>nt a o ht q.1) hl hf
 ap:=E.ap
 own:=E.own
 fx:=hX
 fr:=fun a ha=>(E.fr a ha).2.2.elim fun o ho=>⟨nt a o (E.fr a ha).1 ho,(E.fr a ha).2.1,o,kp a o (hF a ha) ho⟩
 ck:=E.ck
 fn:=E.fn
theorem EnvR.mono'{c:Ctx}{X X':Nat→Prop}{Γ:Gm}{bs:Nat}{env:Env}{F:Nat→Prop}{ρ:Env'}{σ σ':St}{μ μ':Nat→Nat}{h h':Heap}(E:EnvR c X Γ bs env F ρ σ μ h)(ev:Evσ X σ μ h X' σ' μ' h')(hF:∀ a,F a→X' a):EnvR c X' Γ bs env F ρ σ' μ' h' :=
 E.map (fun b=>¬ Tr σ μ b) (fun _ _ t=>t.mono ev) ev.keep (fun _ _ k e=>ev.freeT k e) (fun b hb=>(E.fr b hb).1) hF fun _ _ _ _ _ _ k=>k
theorem EnvR.mono{c:Ctx}{X:Nat→Prop}{Γ:Gm}{bs:Nat}{env:Env}{F:Nat→Prop}{ρ:Env'}{σ σ':St}{μ μ':Nat→Nat}{h h':Heap}(E:EnvR c X Γ bs env F ρ σ μ h)(ev:Evσ X σ μ h X σ' μ' h'):EnvR c X Γ bs env F ρ σ' μ' h':=E.mono' ev E.fx
structure Room (A:Around) (d:Nat):Prop where
 handled:A.handled=none
 depth:A.depth+d≤recursionLimit
 units:A.units+8 * d+300≤cLine
noncomputable abbrev Bot:Value→Shared→Prop:=fun _ _=>False
noncomputable abbrev Rl(α β:Type):=(Nat→Prop)→St→(Nat→Nat)→Heap→β→α→Prop
noncomputable abbrev RV:Rl V Value:=fun X σ μ h v x=>VRσ X σ μ h v x
noncomputable abbrev RB:Rl Bool Bool:=fun _ _ _ _ b x=>b=x
noncomputable abbrev RL:Rl (List V) (List Value):=fun X σ μ h v x=>VRs h (Sx X σ μ) μ σ.length v x
noncomputable abbrev RU:Rl Unit Unit:=fun _ _ _ _ _ _=>True
inductive Post {α β:Type} (c:Ctx) (T:Rl α β) (X:Nat→Prop) (σ:St) (μ:Nat→Nat) (s:Shared) (Q:α→St→Prop) (v:β) (s':Shared):Prop
 | mk (x:α) (σ':St) (μ':Nat→Nat) (q:Q x σ') (R:Rel c X σ' μ' s'.heap) (t:T X σ' μ' s'.heap v x) (e:Evσ X σ μ s.heap X σ' μ' s'.heap) (g:s'.gens=s.gens) (o:s'.os=s.os):Post c T X σ μ s Q v s'
section
variable{α β α' β':Type}{c:Ctx}{T:Rl α β}{T':Rl α' β'}{A:Around}{X:Nat→Prop}{σ σ₁:St}{μ μ₁:Nat→Nat}{s s₁:Shared}{Q:α→St→Prop}{Q':α'→St→Prop}
theorem Post.after(ev:Evσ X σ μ s.heap X σ₁ μ₁ s₁.heap)(g:s₁.gens=s.gens)(o:s₁.os=s.os){v:β}{s':Shared}:Post c T X σ₁ μ₁ s₁ Q v s'→Post c T X σ μ s Q v s' :=
 fun⟨x,σ',μ',q,r,t,e,g',o'⟩=>⟨x,σ',μ',q,r,t,ev.trans e,g'.trans g,o'.trans o⟩
theorem Post.here{v:β}{x:α}(R:Rel c X σ μ s.heap)(t:T X σ μ s.heap v x)(q:Q x σ):Post c T X σ μ s Q v s:=⟨x,σ,μ,q,R,t,Evσ.refl ..,rfl,rfl⟩
theorem Post.tok{v:β}{x:α}{tk:Nat}(R:Rel c X σ μ s.heap)(t:T X σ μ s.heap v x)(q:Q x σ):Post c T X σ μ s Q v { s with toks:=tk }:=⟨x,σ,μ,q,R,t,Evσ.refl ..,rfl,rfl⟩
theorem Post.keeps{v:β}{x:α}{h':Heap}{tk:Nat}(R:Rel c X σ μ s.heap)(k:∀ b o,s.heap.get? b=some o→h'.get? b=some o)(t:Evσ X σ μ s.heap X σ μ h'→Rel c X σ μ h'→T X σ μ h' v x)(q:Q x σ):Post c T X σ μ s Q v { s with heap:=h',toks:=tk } :=
 ⟨x,σ,μ,q,(R.keeps k).1,t (R.keeps k).2 (R.keeps k).1,(R.keeps k).2,rfl,rfl⟩
theorem ji{t:Sem β}{f:β→Sem β'}(h:wpAny c.M A t (Post c T X σ μ s Q) Bot s)
  (k:∀ v x σ₁ μ₁ s₁,Q x σ₁→Rel c X σ₁ μ₁ s₁.heap→T X σ₁ μ₁ s₁.heap v x→Evσ X σ μ s.heap X σ₁ μ₁ s₁.heap→wpAny c.M A (f v) (Post c T' X σ₁ μ₁ s₁ Q') Bot s₁) :
  wpAny c.M A (t >>= f) (Post c T' X σ μ s Q') Bot s :=
 wpAny_bind (wpAny_mono h (fun _ _ ⟨x,σ₁,μ₁,q,r,t,e,g,o⟩=>wpAny_mono (k _ x σ₁ μ₁ _ q r t e) (fun _ _ p=>p.after e g o) fun _ _ h=>h) fun _ _ h=>h)
theorem aC{t:Sem β}{P:β→Shared→Prop}(h:wpAny c.M A t (Post c T X σ μ s Q) Bot s)
  (k:∀ v x σ₁ μ₁ s₁,Q x σ₁→Rel c X σ₁ μ₁ s₁.heap→T X σ₁ μ₁ s₁.heap v x→Evσ X σ μ s.heap X σ₁ μ₁ s₁.heap→s₁.gens=s.gens→s₁.os=s.os→P v s₁):wpAny c.M A t P Bot s :=
 wpAny_mono h (fun _ _ ⟨x,σ₁,μ₁,q,r,t,e,g,o⟩=>k _ x σ₁ μ₁ _ q r t e g o) fun _ _ h=>h
theorem aV{t:Sem β'}(ev:Evσ X σ μ s.heap X σ₁ μ₁ s₁.heap)(g:s₁.gens=s.gens)(o:s₁.os=s.os)(h:wpAny c.M A t (Post c T' X σ₁ μ₁ s₁ Q') Bot s₁):wpAny c.M A t (Post c T' X σ μ s Q') Bot s₁ :=
 wpAny_mono h (fun _ _ p=>p.after ev g o) fun _ _ h=>h
end
noncomputable abbrev ME(α:Type):=Nat→Env'→St→(α→St→Prop)→Prop
noncomputable def SimE(c:Ctx)(Γ:Gm)(e:Expr)(m:ME V):Prop:=∀ A d X bs env F ρ σ μ s Q,Room A d→Rel c X σ μ s.heap→EnvR c X Γ bs env F ρ σ μ s.heap→m d ρ σ Q→wpAny c.M A (eval e env) (Post c RV X σ μ s Q) Bot s
noncomputable def SimT(c:Ctx)(Γ:Gm)(e:Expr)(m:ME Bool):Prop:=∀ A d X bs env F ρ σ μ s Q,Room A d→Rel c X σ μ s.heap→EnvR c X Γ bs env F ρ σ μ s.heap→m d ρ σ Q→wpAny c.M A (isTrue e env (eval e env)) (Post c RB X σ μ s Q) Bot s
noncomputable def SimEs(c:Ctx)(Γ:Gm)(es:List Expr)(m:ME (List V)):Prop:=∀ A d X bs env F ρ σ μ s Q pos,Room A d→Rel c X σ μ s.heap→EnvR c X Γ bs env F ρ σ μ s.heap→m d ρ σ Q→wpAny c.M A (spliced (backTo pos (starEach es env))) (Post c RL X σ μ s Q) Bot s
end
section
section
variable{c:Ctx}{Γ:Gm}
theorem ke{A:Around}{X:Nat→Prop}{bs:Nat}{env:Env}{F:Nat→Prop}{ρ:Env'}{σ:St}{μ:Nat→Nat}{s:Shared}{x:Str}{i:Nat}{y:V}{Q:Value→Shared→Prop}(E:EnvR c X Γ bs env F ρ σ μ s.heap)(hx:Γ.lookup x=some (some i))(hy:ρ[i]?=some (some y))
  (hn:(x==("__classdict__":Str))=false) (h:∀ v,VRσ X σ μ s.heap v y→Q v s):wpAny c.M A (loadName env x) Q Bot s:=by
 rcases E.ce x i hx with hk | ⟨hk,a,ov,ha,hc,k,_⟩
 ·obtain⟨m,hm,k⟩:=E.lo
  obtain⟨v,e,q⟩:=k x i hx hk y hy
  exact wpAny_loadName_local E.kind hk hm e (h v q)
 ·obtain⟨v,rfl,q⟩:=k y hy
  rcases hk with hk | hk
  ·exact wpAny_loadName_cell E.kind hk ha hc (h v q)
  ·exact wpAny_loadName_free E.kind hk ha hc (h v q) hn
theorem eX{A:Around}{X:Nat→Prop}{bs:Nat}{env:Env}{F:Nat→Prop}{ρ:Env'}{σ:St}{μ:Nat→Nat}{s:Shared}{x:Str}{v:Value}{Q:Value→Shared→Prop}(ok:c.Ok)(R:Rel c X σ μ s.heap)(E:EnvR c X Γ bs env F ρ σ μ s.heap)(hx:Γ.lookup x=some none)
  (hv:c.mg x=some v∨(c.mg x=none∧c.mb x=some v)) (h:Q v s):wpAny c.M A (loadName env x) Q Bot s:=by
 have hk:=E.gl x hx
 unfold loadName
 simp only[Env.blockKind,E.kind,hk,ScopeKind.isAnnotationScope,Bool.false_and,Bool.false_eq_true,if_false]
 unfold loadGlobal
 rw[E.glob,E.blt]
 refine wpAny_bind (wpAny_nsGet (ok.g.keeps R.base) ?_)
 rcases hv with hv | ⟨hv,hb⟩
 ·rw[hv];exact wpAny_pure h
 ·rw[hv]
  refine wpAny_bind (wpAny_nsGet (ok.b.keeps R.base) ?_)
  rw[hb];exact wpAny_pure h
noncomputable def aa(i:Nat):ME V:=fun _ ρ σ Q=>onS (ρ[i]?.bind id) fun y=>Q y σ
theorem mT{o:Option (Option V)}{y:V}(h:o.bind id=some y):o=some (some y):=by
 obtain⟨_,e,h⟩:=Option.bind_eq_some_iff.mp h
 cases h;exact e
theorem jE{o:Option (Option V)}{y:V}(h:o=some (some y)):o.bind id=some y:=congrArg (Option.bind · id) h
noncomputable def bg(y:V):ME V:=fun _ _ σ Q=>Q y σ
theorem rI{x:Str}{i:Nat}{pos:Pos}(hx:Γ.lookup x=some (some i))(hd:(x==("__debug__":Str))=false)(hn:(x==("__classdict__":Str))=false):SimE c Γ (.Name x pos) (aa i):=by
 intro A d X bs env F ρ σ μ s Q hA R E h
 obtain⟨y,hy,h⟩:=br h
 exact wpAny_Name (ke E hx (mT hy) hn fun v q=>Post.here R q h) hd
noncomputable def ak(i:Int):ME V:=fun _ _ σ Q=>Q (.int i) σ
noncomputable def al(x:Str):ME V:=fun _ _ σ Q=>Q (.str x) σ
noncomputable def bf(b:Bool):ME V:=fun _ _ σ Q=>Q (.bool b) σ
noncomputable def dm:ME V:=fun _ _ σ Q=>Q .none σ
theorem zi{i:Int}{n:Nat}{pos:Pos}:SimE c Γ (.Constant (.int i) n pos) (ak i):=fun _ _ _ _ _ _ _ _ _ _ _ _ R _ h=>wpAny_Constant_int (Post.tok R (.int i _) h)
theorem qU{x:Str}{n:Nat}{pos:Pos}:SimE c Γ (.Constant (.str x) n pos) (al x):=fun _ _ _ _ _ _ _ _ _ _ _ _ R _ h=>wpAny_Constant_str (Post.tok R (.str x _) h)
theorem ww{b:Bool}{n:Nat}{pos:Pos}:SimE c Γ (.Constant (.bool b) n pos) (bf b):=fun _ _ _ _ _ _ _ _ _ _ _ _ R _ h=>wpAny_Constant_bool (Post.here R (.bool b) h)
theorem x9{n:Nat}{pos:Pos}:SimE c Γ (.Constant .none n pos) dm:=fun _ _ _ _ _ _ _ _ _ _ _ _ R _ h=>wpAny_Constant_none (Post.here R .none h)
noncomputable def ab(a:ME V)(b:ME (List V)):ME (List V):=fun d ρ σ Q=>a d ρ σ fun x σ=>b d ρ σ fun xs σ=>Q (x::xs) σ
noncomputable def ae:ME (List V):=fun _ _ σ Q=>Q [] σ
theorem zf:SimEs c Γ [] ae:=fun _ _ _ _ _ _ _ _ _ _ _ _ _ R _ h=>wpAny_items_nil (Post.here R .nil h)
theorem vM{e:Expr}{es:List Expr}{a:ME V}{b:ME (List V)}(ha:SimE c Γ e a)(hb:SimEs c Γ es b)(st:∀ env,starEach (e::es) env=(false,eval e env)::starEach es env):SimEs c Γ (e::es) (ab a b):=by
 intro A d X bs env F ρ σ μ s Q pos hA R E h
 rw[st env]
 show wpAny c.M A (do let v ← eval e env;let here ← pure [v];return here++(← holding here (spliced (backTo pos (starEach es env))))) _ _ _
 refine ji (ha A d X bs env F ρ σ μ s _ hA R E h) fun v x σ₁ μ₁ s₁ q R₁ t e₁=>?_
 refine wpAny_bind (wpAny_pure (ji (wpAny_holding (hb A d X bs env F ρ σ₁ μ₁ s₁ _ pos hA R₁ (E.mono e₁) q)) fun vs xs σ₂ μ₂ s₂ q₂ R₂ t₂ e₂=>?_))
 exact wpAny_pure (Post.here R₂ (.cons (t.mono e₂) t₂) q₂)
noncomputable def onB(b:Bool)(p:Prop):Prop:=cond b p False
theorem ez{b:Bool}{p:Prop}(h:onB b p):b=true∧p:=by
 cases b
 ·exact h.elim
 ·exact⟨rfl,h⟩
theorem gW{b:Bool}{p:Prop}(h:b=true)(k:p):onB b p:=by rw[h];exact k
theorem lenB{n m:Nat}{p:Prop}(h:onB (Nat.ble n m) p):n≤m∧p:=⟨Nat.le_of_ble_eq_true (ez h).1,(ez h).2⟩
noncomputable def aB(a:ME (List V)):ME V:=fun d ρ σ Q=>a d ρ σ fun xs σ=>onB (Nat.ble xs.length 1000000) (Q (.tup xs) σ)
noncomputable def flM(a:ME (List V)):ME V:=fun d ρ σ Q=>a d ρ σ fun xs σ=>onB (Nat.ble xs.length 1000000) (Q (.fl xs) σ)
noncomputable def tlM(a:ME (List V)):ME V:=fun d ρ σ Q=>a d ρ σ fun xs σ=>onB (Nat.ble xs.length 1000000) (Q (.ref σ.length) (σ++[some (.list xs)]))
theorem bu{n:Nat}(h:n≤1000000):n≤sizeLine:=Nat.le_trans h (by decide)
theorem oQ{es:List Expr}{a:ME (List V)}{k:Nat}{pos:Pos}(ha:SimEs c Γ es a):SimE c Γ (.Tuple es k pos) (aB a):=by
 intro A d X bs env F ρ σ μ s Q hA R E h
 refine wpAny_Tuple (aC (ha A d X bs env F ρ σ μ s _ pos hA R E h) fun vs xs σ₁ μ₁ s₁ q R₁ t e₁ g o=>⟨bu (by rw[t.length];exact (lenB q).1),?_⟩)
 have p:=R₁.push (tupO vs)
 exact⟨_,σ₁,μ₁,(lenB q).2,p.1,.tup (Heap.get?_push_size _ rfl) (fun f=>R₁.fresh (bc _) f) (t.mono p.2),e₁.trans p.2,g,o⟩
theorem tY{es:List Expr}{a:ME (List V)}{pos:Pos}(ha:SimEs c Γ es a):SimE c Γ (.List es pos) (flM a):=by
 intro A d X bs env F ρ σ μ s Q hA R E h
 refine wpAny_List (aC (ha A d X bs env F ρ σ μ s _ pos hA R E h) fun vs xs σ₁ μ₁ s₁ q R₁ t e₁ g o=>⟨bu (by rw[t.length];exact (lenB q).1),?_⟩)
 have p:=R₁.push (listO vs 0)
 exact⟨_,σ₁,μ₁,(lenB q).2,p.1,.fl (Heap.get?_push_size _ rfl) (fun f=>R₁.fresh (bc _) f) (t.mono p.2),e₁.trans p.2,g,o⟩
theorem yr{es:List Expr}{a:ME (List V)}{pos:Pos}(ha:SimEs c Γ es a):SimE c Γ (.List es pos) (tlM a):=by
 intro A d X bs env F ρ σ μ s Q hA R E h
 refine wpAny_List (aC (ha A d X bs env F ρ σ μ s _ pos hA R E h) fun vs xs σ₁ μ₁ s₁ q R₁ t e₁ g o=>⟨bu (by rw[t.length];exact (lenB q).1),?_⟩)
 obtain⟨μ',R',e',hm⟩:=R₁.alloc (o:=listO vs 0) (p:=.list xs) fun μ' e' _=>OR.list (Heap.get?_push_size _ rfl) (t.mono e')
 refine⟨_,_,μ',(lenB q).2,R',?_,e₁.trans e',g,o⟩
 have:=VR.ref (h:=s₁.heap.push (listO vs 0)) (S:=Sx X (σ₁++[some (.list xs)]) μ') (μ:=μ') (n:=(σ₁++[some (AObj.list xs)]).length) (i:=σ₁.length) (by simp)
 rw[hm] at this
 exact this
noncomputable def cY:ME V:=fun _ _ σ Q=>Q (.ref σ.length) (σ++[some (.dict [])])
theorem y5{pos:Pos}:SimE c Γ (.Dict [] [] pos) cY:=by
 intro A d X bs env F ρ σ μ s Q hA R E h
 refine wpAny_Dict_empty ?_
 obtain⟨μ',R',e',hm⟩:=R.alloc (o:=dictO [] 0) (p:=.dict []) fun μ' e' _=>OR.dict (Heap.get?_push_size _ rfl) .nil (by simp) (by simp)
 refine⟨_,_,μ',h,R',?_,e',rfl,rfl⟩
 have:=VR.ref (h:=s.heap.push (dictO [] 0)) (S:=Sx X (σ++[some (.dict [])]) μ') (μ:=μ') (n:=(σ++[some (AObj.dict [])]).length) (i:=σ.length) (by simp)
 rw[hm] at this
 exact this
noncomputable def lsP(σ:St)(x:V)(k:List V→Prop):Prop:=match x with
 | .fl l=>k l
 | .ref i=>onS (lsAt σ i) k
 | _=>False
inductive LsI (σ:St) (X:Nat→Prop) (μ:Nat→Nat) (h:Heap) (v:Value) (k:List V→Prop):Prop
 | mk (a:Addr) (items:List Value) (n:Nat) (l:List V) (q:v=.ref a) (e:h.get? a=some (listO items n)) (x:VRs h (Sx X σ μ) μ σ.length items l) (p:k l):LsI σ X μ h v k
theorem dF{σ:St}{X:Nat→Prop}{μ:Nat→Nat}{h:Heap}{x:V}{v:Value}{k:List V→Prop}(R:Rel c X σ μ h)(t:VRσ X σ μ h v x)(p:lsP σ x k) :
  LsI σ X μ h v k:=by
 cases x with
 | fl=>obtain⟨_,_,_,rfl,e,f,x⟩:=t.inv;exact⟨_,_,_,_,rfl,e,x,p⟩
 | ref i =>
  obtain⟨l,e,p⟩:=br p
  obtain⟨rfl,hl⟩:=t.inv
  obtain⟨_,_,e,x⟩:=(R.obj i _ (gH e)).inv
  exact⟨_,_,_,_,rfl,e,x,p⟩
 | _=>exact p.elim
theorem isList{h:Heap}{a:Addr}{items:List Value}{n:Nat}(e:h.get? a=some (listO items n)):h.IsList a items.toArray:=⟨_,e,rfl,n,rfl⟩
inductive OpI (σ:St) (k:V→Prop):Operator→V→V→Prop
 | add {i j:Int} (h:k (.int (i+j))):OpI σ k .Add (.int i) (.int j)
 | sub {i j:Int} (h:k (.int (i - j))):OpI σ k .Sub (.int i) (.int j)
 | mul {i j:Int} (h1:i.natAbs < 2 ^ 64∨j.natAbs < 2 ^ 64) (h:k (.int (i * j))):OpI σ k .Mult (.int i) (.int j)
 | fdiv {i j:Int} (h1:j≠0) (h2:j.natAbs < 1073741824) (h:k (.int (i.fdiv j))):OpI σ k .FloorDiv (.int i) (.int j)
 | mod {i j:Int} (h1:j≠0) (h:k (.int (i.fmod j))):OpI σ k .Mod (.int i) (.int j)
 | pow {i j:Int} (h0:0≤j) (h1:j≤1000000) (h2:i.natAbs < 2 ^ 64) (h:k (.int (i ^ j.toNat))):OpI σ k .Pow (.int i) (.int j)
 | shl {i j:Int} (h0:0≤j) (h1:j≤1000000) (h2:i.natAbs < 2 ^ 64) (h:k (.int (i * 2 ^ j.toNat))):OpI σ k .LShift (.int i) (.int j)
 | shr {i j:Int} (h0:0≤j) (h:k (.int (i.fdiv (2 ^ j.toNat)))):OpI σ k .RShift (.int i) (.int j)
 | and {i j:Int} (h:k (.int (Builtin.bitAnd i j))):OpI σ k .BitAnd (.int i) (.int j)
 | or {i j:Int} (h:k (.int (Builtin.bitOr i j))):OpI σ k .BitOr (.int i) (.int j)
 | xor {i j:Int} (h:k (.int (Builtin.bitXor i j))):OpI σ k .BitXor (.int i) (.int j)
 | rep {l:List V} {j:Int} (h0:0≤j) (h1:j≤1000) (h2:l.length≤1000) (h:k (.fl (List.replicate j.toNat l).flatten)):OpI σ k .Mult (.fl l) (.int j)
 | catT {l r:List V} (h0:l.length+r.length≤1000000) (h:k (.tup (l++r))):OpI σ k .Add (.tup l) (.tup r)
 | cat {l r:List V} (h0:l.length+r.length≤1000000) (h:k (.fl (l++r))):OpI σ k .Add (.fl l) (.fl r)
 | catR {i:Nat} {r:List V} (h:lsP σ (.ref i) fun l=>l.length+r.length≤1000000∧k (.fl (l++r))):OpI σ k .Add (.ref i) (.fl r)
 | catL {i:Nat} {l:List V} (h:lsP σ (.ref i) fun r=>l.length+r.length≤1000000∧k (.fl (l++r))):OpI σ k .Add (.fl l) (.ref i)
noncomputable abbrev OpO(op:Operator)(x y:V):Type:=Option {v:V // ∀ (σ:St) (k:V→Prop),k v→OpI σ k op x y}
noncomputable def wH(i j:Int):(op:Operator)→OpO op (.int i) (.int j)
 | .Add=>some ⟨.int (i+j),fun _ _ h=>.add h⟩
 | .Sub=>some ⟨.int (i - j),fun _ _ h=>.sub h⟩
 | .BitAnd=>some ⟨.int (Builtin.bitAnd i j),fun _ _ h=>.and h⟩
 | _=>none
noncomputable def opG(op:Operator):(x y:V)→OpO op x y
 | .int i,.int j=>wH i j op
 | _,_=>none
noncomputable def opP(σ:St)(op:Operator)(x y:V)(k:V→Prop):Prop:=(opG op x y).elim (OpI σ k op x y) fun v=>k v.1
theorem wc{σ:St}{op:Operator}{x y:V}{k:V→Prop}(h:opP σ op x y k):OpI σ k op x y:=by
 unfold opP at h
 cases e:opG op x y with
 | none=>rw[e] at h;exact h
 | some v=>rw[e] at h;exact v.2 σ k h
theorem qH{i j:Int}(h:i.natAbs < 2 ^ 64∨j.natAbs < 2 ^ 64):IntMulOk i j:=by
 rcases h with h | h
 ·exact IntMulOk.of_left (intBits_le_64 (by lia) (by lia))
 ·exact IntMulOk.of_right (intBits_le_64 (by lia) (by lia))
section
variable{A:Around}{X:Nat→Prop}{σ:St}{μ:Nat→Nat}{s:Shared}
theorem Post.newList{Q:V→St→Prop}{vs:List Value}{xs:List V}{tk:Nat}(R:Rel c X σ μ s.heap)(t:VRs s.heap (Sx X σ μ) μ σ.length vs xs)(q:Q (.fl xs) σ) :
  Post c RV X σ μ s Q (.ref s.heap.objs.size) { s with heap:=s.heap.push (listO vs 0),toks:=tk } :=
 have p:=R.push (listO vs 0)
 ⟨_,σ,μ,q,p.1,.fl (Heap.get?_push_size _ rfl) (fun f=>R.fresh (bc _) f) (t.mono p.2),p.2,rfl,rfl⟩
theorem Post.newTup{Q:V→St→Prop}{vs:List Value}{xs:List V}{tk:Nat}(R:Rel c X σ μ s.heap)(t:VRs s.heap (Sx X σ μ) μ σ.length vs xs)(q:Q (.tup xs) σ) :
  Post c RV X σ μ s Q (.ref s.heap.objs.size) { s with heap:=s.heap.push (tupO vs),toks:=tk } :=
 have p:=R.push (tupO vs)
 ⟨_,σ,μ,q,p.1,.tup (Heap.get?_push_size _ rfl) (fun f=>R.fresh (bc _) f) (t.mono p.2),p.2,rfl,rfl⟩
theorem iQ{a b:Addr}{vs ws:List Value}{n n2:Nat}{xs ys:List V}{Q:V→St→Prop}(R:Rel c X σ μ s.heap)(ha:s.heap.get? a=some (listO vs n))(hb:s.heap.get? b=some (listO ws n2))
  (ta:VRs s.heap (Sx X σ μ) μ σ.length vs xs) (tb:VRs s.heap (Sx X σ μ) μ σ.length ws ys) (hl:xs.length+ys.length≤1000000) (q:Q (.fl (xs++ys)) σ) :
  wpAny c.M A (binaryOp .Add (.ref a) (.ref b)) (Post c RV X σ μ s Q) Bot s:=by
 refine concat_meets ⟨_,ha,rfl⟩ ⟨_,hb,rfl⟩ noFill_list_add seq_list_add PySem.F.slot_list_add PySem.F.entry_list_add (PySem.F.args_list_add_2 _ _) (list_addW a b vs.toArray ws.toArray n n2 none none #[] #[] (by simpa [ta.length,tb.length] using bu hl)) ⟨ha,hb,?_⟩
 have e:vs.toArray++ws.toArray=(vs++ws).toArray:=by simp
 rw[e]
 exact Post.newList R (ta.append tb) q
theorem sx(l:List Value)(j:Nat)(acc:Array Value):List.foldl (fun x1 x2=>x1++x2) acc (List.replicate j l.toArray)=acc++(List.replicate j l).flatten.toArray:=by
 induction j generalizing acc with
 | zero=>simp
 | succ j ih=>simp[List.replicate_succ,ih]
theorem VRs.rep{h:Heap}{S:Nat→Prop}{μ:Nat→Nat}{n:Nat}{vs:List Value}{xs:List V}(x:VRs h S μ n vs xs)(j:Nat):VRs h S μ n (List.replicate j vs).flatten (List.replicate j xs).flatten:=by
 induction j with
 | zero=>exact .nil
 | succ j ih=>rw[List.replicate_succ,List.replicate_succ,List.flatten_cons,List.flatten_cons];exact x.append ih
theorem rz{u v:Value}{l:List V}{j:Int}{Q:V→St→Prop}(R:Rel c X σ μ s.heap)(tx:VRσ X σ μ s.heap u (.fl l))(ty:VRσ X σ μ s.heap v (.int j))(h0:0≤j)(h1:j≤1000)(h2:l.length≤1000)(q:Q (.fl (List.replicate j.toNat l).flatten) σ) :
  wpAny c.M A (binaryOp .Mult u v) (Post c RV X σ μ s Q) Bot s:=by
 obtain⟨_,rfl⟩:=ty.inv;obtain⟨a,items,n,rfl,e,f,t⟩:=tx.inv
 have hl:=t.length
 refine wpAny_binaryOp_repeat_ref (T:="list") (U:="int") (by decide) ⟨_,e,rfl⟩ (fun s'=>typeIs_int s' _ _) noFill_list_mul F.fills_int_mul F.slot_int_rmul repeat_list F.slot_int_index.lookup
  (call_meets F.slot_int_rmul (typeIs_int s _ _) F.entry_int_rmul (F.args_int_rmul_2 _ _) (int___rmul___int_list _ _ a items.toArray n)
  ⟨e,rfl,⟨_,e,rfl⟩,call_meets F.slot_list_mul ⟨_,e,rfl⟩ F.entry_list_mul (F.args_list_mul_2 _ _)
   (AutoListH.list___mul___list_int_3 a items.toArray n _ _ (by simp[Builtin.List.listFitsIndex];lia) (by simp only[List.size_toArray,hl];have:l.length * j.toNat≤1000 * 1000:=Nat.mul_le_mul h2 (by lia);lia) (by simp only[List.size_toArray,hl,Builtin.List.listTooLong,sizeLine];have:l.length * j.toNat≤1000 * 1000:=Nat.mul_le_mul h2 (by lia);simp;lia))
   ⟨e,?_⟩⟩)
 have e1:List.foldl (fun x1 x2=>x1++x2) #[] (List.replicate (if items.toArray.isEmpty=true then 0 else j.toNat) items.toArray)=(List.replicate j.toNat items).flatten.toArray:=by
  rw[sx]
  cases items with
  | nil=>simp
  | cons z zs=>simp
 rw[e1]
 exact Post.newList R (t.rep _) q
theorem uw{u v:Value}{l r:List V}{Q:V→St→Prop}(R:Rel c X σ μ s.heap)(tx:VRσ X σ μ s.heap u (.tup l))(ty:VRσ X σ μ s.heap v (.tup r))(h0:l.length+r.length≤1000000)(q:Q (.tup (l++r)) σ) :
  wpAny c.M A (binaryOp .Add u v) (Post c RV X σ μ s Q) Bot s:=by
 obtain⟨a,vs,rfl,e,f,t⟩:=tx.inv;obtain⟨b,ws,rfl,e',f',t'⟩:=ty.inv
 have hl:=t.length
 have hl':=t'.length
 have en:vs.toArray++ws.toArray=(vs++ws).toArray:=by simp
 by_cases hv:vs=[]
 ·subst hv
  refine concat_meets ⟨_,e,rfl⟩ ⟨_,e',rfl⟩ noFill_tuple_add seq_tuple_add PySem.F.slot_tuple_add PySem.F.entry_tuple_add (PySem.F.args_tuple_add_2 _ _) (tuple_addW0 a b _ ws.toArray 0 0 none none #[] #[] (by simp)) ⟨e,e',?_⟩
  cases t
  exact Post.here R (.tup e' f' t') q
 ·by_cases hw:ws=[]
  ·subst hw
   refine concat_meets ⟨_,e,rfl⟩ ⟨_,e',rfl⟩ noFill_tuple_add seq_tuple_add PySem.F.slot_tuple_add PySem.F.entry_tuple_add (PySem.F.args_tuple_add_2 _ _) (tuple_addW1 a b vs.toArray _ 0 0 none none #[] #[] (by simpa using hv) (by simp)) ⟨e,e',?_⟩
   cases t'
   rw[List.append_nil] at q
   exact Post.here R (.tup e f t) q
  ·refine concat_meets ⟨_,e,rfl⟩ ⟨_,e',rfl⟩ noFill_tuple_add seq_tuple_add PySem.F.slot_tuple_add PySem.F.entry_tuple_add (PySem.F.args_tuple_add_2 _ _) (tuple_addW2 a b vs.toArray ws.toArray 0 0 none none #[] #[] (by simpa using hv) (by simpa using hw) (by simpa [hl,hl'] using bu h0)) ⟨e,e',?_⟩
   rw[en]
   exact Post.newTup R (t.append t') q
theorem yy{op:Operator}{u v:Value}{x y:V}{Q:V→St→Prop}(R:Rel c X σ μ s.heap)(tx:VRσ X σ μ s.heap u x)(ty:VRσ X σ μ s.heap v y)(h:opP σ op x y (Q · σ)) :
  wpAny c.M A (binaryOp op u v) (Post c RV X σ μ s Q) Bot s:=by
 replace h:=wc h
 cases h with
 | add h=>obtain⟨_,rfl⟩:=tx.inv;obtain⟨_,rfl⟩:=ty.inv;exact add_int (Post.tok R (.int _ _) h)
 | sub h=>obtain⟨_,rfl⟩:=tx.inv;obtain⟨_,rfl⟩:=ty.inv;exact sub_int (Post.tok R (.int _ _) h)
 | mul h1 h=>obtain⟨_,rfl⟩:=tx.inv;obtain⟨_,rfl⟩:=ty.inv;exact mul_int (Post.tok R (.int _ _) h) (qH h1)
 | fdiv h1 h2 h=>obtain⟨_,rfl⟩:=tx.inv;obtain⟨_,rfl⟩:=ty.inv;exact floordiv_int h1 (Post.tok R (.int _ _) h) (Or.inl (PyProof.noPylong_small h2))
 | mod h1 h=>obtain⟨_,rfl⟩:=tx.inv;obtain⟨_,rfl⟩:=ty.inv;exact mod_int' h1 (Post.tok R (.int _ _) h)
 | pow h0 h1 h2 h=>obtain⟨_,rfl⟩:=tx.inv;obtain⟨_,rfl⟩:=ty.inv;exact pow_int_small h0 h1 h2 (Post.tok R (.int _ _) h)
 | shl h0 h1 h2 h=>obtain⟨_,rfl⟩:=tx.inv;obtain⟨_,rfl⟩:=ty.inv;exact lshift_int_small h0 h1 h2 (Post.tok R (.int _ _) h)
 | shr h0 h=>obtain⟨_,rfl⟩:=tx.inv;obtain⟨_,rfl⟩:=ty.inv;exact rshift_int h0 (Post.tok R (.int _ _) h)
 | and h=>obtain⟨_,rfl⟩:=tx.inv;obtain⟨_,rfl⟩:=ty.inv;exact and_int (Post.tok R (.int _ _) h)
 | or h=>obtain⟨_,rfl⟩:=tx.inv;obtain⟨_,rfl⟩:=ty.inv;exact or_int (Post.tok R (.int _ _) h)
 | xor h=>obtain⟨_,rfl⟩:=tx.inv;obtain⟨_,rfl⟩:=ty.inv;exact xor_int (Post.tok R (.int _ _) h)
 | rep h0 h1 h2 h=>exact rz R tx ty h0 h1 h2 h
 | catT h0 h=>exact uw R tx ty h0 h
 | cat h0 h =>
  obtain⟨_,_,_,rfl,e,_,t⟩:=tx.inv;obtain⟨_,_,_,rfl,e',_,t'⟩:=ty.inv
  exact iQ R e e' t t' h0 h
 | catR h =>
  obtain⟨_,_,_,rfl,e',_,t'⟩:=ty.inv
  obtain⟨a,items,n,l,rfl,e,t,hh⟩:=dF R tx h
  exact iQ R e e' t t' hh.1 hh.2
 | catL h =>
  obtain⟨_,_,_,rfl,e,_,t⟩:=tx.inv
  obtain⟨a,items,n,l,rfl,e',t',hh⟩:=dF R ty h
  exact iQ R e e' t t' hh.1 hh.2
end
end
end
section
noncomputable def pyC(a:Option PyData)(b:Option (List PyData)):Option (List PyData):=a.bind fun d=>b.map (d::·)
theorem iI{a:Option PyData}{b:Option (List PyData)}{d:List PyData}(h:pyC a b=some d):∃ x y,a=some x∧b=some y∧x::y=d:=by
 cases a with
 | none=>cases h
 | some x=>cases b with
  | none=>cases h
  | some y=>cases h;exact⟨x,y,rfl,rfl,rfl⟩
noncomputable def V.py(x:V):Option PyData:=V.rec (motive_1:=fun _=>Option PyData) (motive_2:=fun _=>Option (List PyData)) (some .none) (fun b=>some (.bool b)) (fun i=>some (.int i)) (fun s=>some (.str s)) (fun _ r=>r.map .tuple) (fun _ r=>r.map .list) (fun _ _ _=>Option.none) (fun _ _=>Option.none) (fun _=>Option.none) (fun _=>Option.none) (some []) (fun _ _=>pyC) x
noncomputable def V.pys(x:List V):Option (List PyData):=V.rec_1 (motive_1:=fun _=>Option PyData) (motive_2:=fun _=>Option (List PyData)) (some .none) (fun b=>some (.bool b)) (fun i=>some (.int i)) (fun s=>some (.str s)) (fun _ r=>r.map .tuple) (fun _ r=>r.map .list) (fun _ _ _=>Option.none) (fun _ _=>Option.none) (fun _=>Option.none) (fun _=>Option.none) (some []) (fun _ _=>pyC) x
theorem fg{l:List V}{d:PyData}(e:(V.tup l).py=some d):∃ ds,V.pys l=some ds∧PyData.tuple ds=d:=Option.map_eq_some_iff.mp e
theorem gO{x:V}{l:List V}{d:List PyData}(e:V.pys (x::l)=some d):∃ a b,x.py=some a∧V.pys l=some b∧a::b=d:=iI e
theorem iJ{x:V}{l:List V}{a:PyData}{b:List PyData}(h:x.py=some a)(h':V.pys l=some b):V.pys (x::l)=some (a::b):=by
 show pyC x.py (V.pys l)=_
 rw[h,h'];rfl
theorem ix{l:List V}{d:List PyData}(e:V.pys l=some d):(V.tup l).py=some (.tuple d):=congrArg (Option.map PyData.tuple) e
theorem eP{l:List V}{d:List PyData}(e:V.pys l=some d):(V.fl l).py=some (.list d):=congrArg (Option.map PyData.list) e
theorem VR.reads{h:Heap}{S:Nat→Prop}{μ:Nat→Nat}{n:Nat}{v:Value}{x:V}{d:PyData}(t:VR h S μ n v x):x.py=some d→∃ as,Reads h v d as :=
 VR.rec (motive_1:=fun v x _=>∀ d,x.py=some d→∃ as,Reads h v d as) (motive_2:=fun v x _=>∀ d,V.pys x=some d→∃ as,ReadsAll h v d as)
  (fun _ e=>by cases e;exact⟨_,.none⟩) (fun b _ e=>by cases e;exact⟨_,.bool b⟩) (fun i t _ e=>by cases e;exact⟨_,.int i t⟩) (fun s t _ e=>by cases e;exact⟨_,.str s t⟩)
  (fun g _ _ ih _ e=>by obtain⟨_,q,rfl⟩:=Option.map_eq_some_iff.mp e;obtain⟨_,r⟩:=ih _ q;exact⟨_,.tuple g rfl rfl r⟩)
  (fun g _ _ ih _ e=>by obtain⟨_,q,rfl⟩:=Option.map_eq_some_iff.mp e;obtain⟨_,r⟩:=ih _ q;exact⟨_,.list g rfl rfl r⟩)
  (fun _ _ _ e=>by cases e) (fun _ _ _ _ e=>by cases e) (fun _ _ e=>by cases e) (fun _ _ _ e=>by cases e) (fun _ e=>by cases e;exact⟨_,.nil⟩)
  (fun _ _ a b _ e=>by obtain⟨_,_,p,q,rfl⟩:=iI e;obtain⟨_,r⟩:=a _ p;obtain⟨_,r'⟩:=b _ q;exact⟨_,.cons r r'⟩) t d
theorem VRs.reads{h:Heap}{S:Nat→Prop}{μ:Nat→Nat}{n:Nat}{v:List Value}{x:List V}{d:List PyData}(t:VRs h S μ n v x)(e:V.pys x=some d):∃ as,ReadsAll h v d as:=by
 induction x generalizing v d with
 | nil=>cases t;cases e;exact⟨_,.nil⟩
 | cons x xs ih =>
  cases t with | cons a b =>
  obtain⟨_,_,p,q,rfl⟩:=iI e
  obtain⟨_,r⟩:=a.reads p
  obtain⟨_,r'⟩:=ih b q
  exact⟨_,.cons r r'⟩
noncomputable def V.isI(p:Int→Bool)(y:V):Bool:=V.casesOn (motive_1:=fun _=>Bool) y false (fun _=>false) p (fun _=>false) (fun _=>false) (fun _=>false) (fun _ _ _=>false) (fun _ _=>false) (fun _=>false) (fun _=>false)
noncomputable def V.isS(p:Str→Bool)(y:V):Bool:=V.casesOn (motive_1:=fun _=>Bool) y false (fun _=>false) (fun _=>false) p (fun _=>false) (fun _=>false) (fun _ _ _=>false) (fun _ _=>false) (fun _=>false) (fun _=>false)
noncomputable def V.isT(p:List V→Bool)(y:V):Bool:=V.casesOn (motive_1:=fun _=>Bool) y false (fun _=>false) (fun _=>false) (fun _=>false) p (fun _=>false) (fun _ _ _=>false) (fun _ _=>false) (fun _=>false) (fun _=>false)
noncomputable def nE(a:V→Bool)(b:List V→Bool)(r:List V):Bool:=List.casesOn (motive:=fun _=>Bool) r false fun y r=>a y&&b r
noncomputable def V.beq:V→V→Bool:=V.fold (fun _=>false) (fun i=>V.isI (i==·)) (fun i=>V.isS (i==·)) V.isT List.isEmpty nE
noncomputable def V.beqs:List V→List V→Bool:=V.folds (fun _=>false) (fun i=>V.isI (i==·)) (fun i=>V.isS (i==·)) V.isT List.isEmpty nE
theorem er{i j:Int}:V.beq (.int i) (.int j)=(i==j):=rfl
theorem V.key_rec{P:V→Prop}{R:List V→Prop}(hi:∀ i,P (.int i))(hs:∀ s,P (.str s))(ht:∀ l,R l→P (.tup l))(hn:R [])(hc:∀ x l,V.keys l=true→P x→R l→R (x::l)){x:V}(k:x.key=true):P x :=
 V.rec (motive_1:=fun x=>x.key=true→P x) (motive_2:=fun l=>V.keys l=true→R l) (fun k=>absurd k Bool.false_ne_true) (fun _ k=>absurd k Bool.false_ne_true) (fun i _=>hi i) (fun s _=>hs s) (fun l ih k=>ht l (ih k))
  (fun _ _ k=>absurd k Bool.false_ne_true) (fun _ _ _ k=>absurd k Bool.false_ne_true) (fun _ _ k=>absurd k Bool.false_ne_true) (fun _ k=>absurd k Bool.false_ne_true) (fun _ k=>absurd k Bool.false_ne_true) (fun _=>hn)
  (fun x l a b k=>hc x l (Bool.and_eq_true_iff.mp k).2 (a (Bool.and_eq_true_iff.mp k).1) (b (Bool.and_eq_true_iff.mp k).2)) x k
theorem cu{p:Prop}(h:¬ p):(false=true)↔p:=⟨fun e=>absurd e Bool.false_ne_true,fun e=>absurd e h⟩
theorem V.beq_iff{x y:V}(kx:x.key=true)(ky:y.key=true):V.beq x y=true↔x=y :=
 V.key_rec (P:=fun x=>∀ {y},y.key=true→(V.beq x y=true↔x=y)) (R:=fun l=>∀ {r},V.keys r=true→(V.beqs l r=true↔l=r))
  (fun i y k=>V.key_rec (P:=fun y=>V.beq (.int i) y=true↔.int i=y) (R:=fun _=>True) (fun j=>⟨fun h=>congrArg V.int (eq_of_beq h),fun h=>by cases h;exact beq_self_eq_true i⟩) (fun _=>cu (fun e=>nomatch e)) (fun _ _=>cu (fun e=>nomatch e)) trivial (fun _ _ _ _ _=>trivial) k)
  (fun i y k=>V.key_rec (P:=fun y=>V.beq (.str i) y=true↔.str i=y) (R:=fun _=>True) (fun _=>cu (fun e=>nomatch e)) (fun j=>⟨fun h=>congrArg V.str (eq_of_beq h),fun h=>by cases h;exact beq_self_eq_true i⟩) (fun _ _=>cu (fun e=>nomatch e)) trivial (fun _ _ _ _ _=>trivial) k)
  (fun l ih y k=>V.key_rec (P:=fun y=>y.key=true→(V.beq (.tup l) y=true↔.tup l=y)) (R:=fun _=>True) (fun _ _=>cu (fun e=>nomatch e)) (fun _ _=>cu (fun e=>nomatch e)) (fun r _ k=>⟨fun h=>congrArg V.tup ((ih k).mp h),fun h=>(ih k).mpr (by cases h;rfl)⟩) trivial (fun _ _ _ _ _=>trivial) k k)
  (fun {r} _=>by cases r with
   | nil=>exact⟨fun _=>rfl,fun _=>rfl⟩
   | cons=>exact cu (fun e=>nomatch e))
  (fun x l _ a b r k=>by cases r with
   | nil=>exact cu (fun e=>nomatch e)
   | cons y r =>
    have k:=Bool.and_eq_true_iff.mp k
    exact⟨fun h=>by have h:=Bool.and_eq_true_iff.mp h;rw[(a k.1).mp h.1,(b k.2).mp h.2],fun h=>by cases h;exact Bool.and_eq_true_iff.mpr ⟨(a k.1).mpr rfl,(b k.2).mpr rfl⟩⟩) kx ky
noncomputable def dget(kvs:List (V×V))(k:V):Option V:=(kvs.find? fun p=>V.beq p.1 k).map (·.2)
noncomputable def V.like:V→V→Bool
 | .int _,.int _=>true
 | .str _,.str _=>true
 | .tup _,.tup _=>true
 | _,_=>false
noncomputable def aY(kvs:List (V×V))(k:V):Prop:=k.key=true∧k.dep≤7∧(kvs.all fun p=>V.like p.1 k)=true∧kvs.length≤1000000
inductive CmpI (σ:St) (k:Bool→Prop):CmpOp→V→V→Prop
 | eqI {i j:Int} (h:k (i==j)):CmpI σ k .Eq (.int i) (.int j)
 | neI {i j:Int} (h:k (i != j)):CmpI σ k .NotEq (.int i) (.int j)
 | lt {i j:Int} (h:k (decide (i < j))):CmpI σ k .Lt (.int i) (.int j)
 | le {i j:Int} (h:k (decide (i≤j))):CmpI σ k .LtE (.int i) (.int j)
 | gt {i j:Int} (h:k (decide (i > j))):CmpI σ k .Gt (.int i) (.int j)
 | ge {i j:Int} (h:k (decide (i≥j))):CmpI σ k .GtE (.int i) (.int j)
 | eqS {i j:Str} (h:k (i==j)):CmpI σ k .Eq (.str i) (.str j)
 | neS {i j:Str} (h:k (i != j)):CmpI σ k .NotEq (.str i) (.str j)
 | eqB {i j:Bool} (h:k (i==j)):CmpI σ k .Eq (.bool i) (.bool j)
 | eq {x y:V} {dx dy:PyData} (e1:x.py=some dx) (e2:y.py=some dy) (s1:SeqAt.shaped dx=true) (s2:SeqAt.shaped dy=true) (h:k (PyData.eqv dx dy)):CmpI σ k .Eq x y
 | ne {x y:V} {dx dy:PyData} (e1:x.py=some dx) (e2:y.py=some dy) (s1:SeqAt.shaped dx=true) (s2:SeqAt.shaped dy=true) (h:k (!PyData.eqv dx dy)):CmpI σ k .NotEq x y
 | isNot {x:V} (h1:x=.none→k false) (h2:x≠.none→(∀ v,x≠.raw v)→k true) (h3:∀ v,x≠.raw v):CmpI σ k .IsNot x .none
 | is {x:V} (h1:x=.none→k true) (h2:x≠.none→k false) (h3:∀ v,x≠.raw v):CmpI σ k .Is x .none
 | inT {x:V} {l:List V} {dx:PyData} {ds:List PyData} (e1:x.py=some dx) (e2:V.pys l=some ds) (sh:SeqAt.shaped (.list (dx::ds))=true) (h:k (ds.any (PyData.eqv · dx))):CmpI σ k .In x (.tup l)
 | ninT {x:V} {l:List V} {dx:PyData} {ds:List PyData} (e1:x.py=some dx) (e2:V.pys l=some ds) (sh:SeqAt.shaped (.list (dx::ds))=true) (h:k (!ds.any (PyData.eqv · dx))):CmpI σ k .NotIn x (.tup l)
 | inF {x:V} {l:List V} {dx:PyData} {ds:List PyData} (e1:x.py=some dx) (e2:V.pys l=some ds) (sh:SeqAt.shaped (.list (dx::ds))=true) (h:k (ds.any (PyData.eqv · dx))):CmpI σ k .In x (.fl l)
 | ninF {x:V} {l:List V} {dx:PyData} {ds:List PyData} (e1:x.py=some dx) (e2:V.pys l=some ds) (sh:SeqAt.shaped (.list (dx::ds))=true) (h:k (!ds.any (PyData.eqv · dx))):CmpI σ k .NotIn x (.fl l)
 | inD {x:V} {i:Nat} {kvs:List (V×V)} (g:σ[i]?=some (some (.dict kvs))) (hk:aY kvs x) (h:k (kvs.any fun p=>V.beq p.1 x)):CmpI σ k .In x (.ref i)
 | ninD {x:V} {i:Nat} {kvs:List (V×V)} (g:σ[i]?=some (some (.dict kvs))) (hk:aY kvs x) (h:k (!kvs.any fun p=>V.beq p.1 x)):CmpI σ k .NotIn x (.ref i)
 | inL {x:V} {i:Nat} {l:List V} {dx:PyData} {ds:List PyData} (g:σ[i]?=some (some (.list l))) (e1:x.py=some dx) (e2:V.pys l=some ds) (sh:SeqAt.shaped (.list (dx::ds))=true) (h:k (ds.any (PyData.eqv · dx))):CmpI σ k .In x (.ref i)
 | ninL {x:V} {i:Nat} {l:List V} {dx:PyData} {ds:List PyData} (g:σ[i]?=some (some (.list l))) (e1:x.py=some dx) (e2:V.pys l=some ds) (sh:SeqAt.shaped (.list (dx::ds))=true) (h:k (!ds.any (PyData.eqv · dx))):CmpI σ k .NotIn x (.ref i)
 | inR {i a b st:Int} (h:k (Builtin.Range.rangePlace? a b st i).isSome):CmpI σ k .In (.int i) (.rng a b st)
noncomputable abbrev CmpO(op:CmpOp)(x y:V):Type:=Option {b:Bool // ∀ (σ:St) (k:Bool→Prop),k b→CmpI σ k op x y}
noncomputable def pR(i j:Int):(op:CmpOp)→CmpO op (.int i) (.int j)
 | .Eq=>some ⟨i==j,fun _ _ h=>.eqI h⟩
 | .NotEq=>some ⟨i != j,fun _ _ h=>.neI h⟩
 | .Lt=>some ⟨decide (i < j),fun _ _ h=>.lt h⟩
 | .LtE=>some ⟨decide (i≤j),fun _ _ h=>.le h⟩
 | .Gt=>some ⟨decide (i > j),fun _ _ h=>.gt h⟩
 | .GtE=>some ⟨decide (i≥j),fun _ _ h=>.ge h⟩
 | _=>none
noncomputable def yn(i j:Str):(op:CmpOp)→CmpO op (.str i) (.str j)
 | .Eq=>some ⟨i==j,fun _ _ h=>.eqS h⟩
 | .NotEq=>some ⟨i != j,fun _ _ h=>.neS h⟩
 | _=>none
noncomputable def cmpB(i j:Bool):(op:CmpOp)→CmpO op (.bool i) (.bool j)
 | .Eq=>some ⟨i==j,fun _ _ h=>.eqB h⟩
 | _=>none
noncomputable def cmpG(op:CmpOp):(x y:V)→CmpO op x y
 | .int i,.int j=>pR i j op
 | .str i,.str j=>yn i j op
 | .bool i,.bool j=>cmpB i j op
 | _,_=>none
noncomputable def aF(σ:St)(op:CmpOp)(x y:V)(k:Bool→Prop):Prop:=(cmpG op x y).elim (CmpI σ k op x y) fun b=>k b.1
theorem d6{σ:St}{op:CmpOp}{x y:V}{k:Bool→Prop}(h:aF σ op x y k):CmpI σ k op x y:=by
 unfold aF at h
 cases e:cmpG op x y with
 | none=>rw[e] at h;exact h
 | some v=>rw[e] at h;exact v.2 σ k h
noncomputable def bp(σ:St)(x:V)(k:Bool→Prop):Prop:=match x with
 | .bool b=>k b
 | .int i=>k (i != 0)
 | .none=>k false
 | .fl l=>l.length≤1000000∧k (!l.isEmpty)
 | .ref i=>match σ[i]? with
  | some (some (.list l))=>l.length≤1000000∧k (!l.isEmpty)
  | _=>False
 | _=>False
end
section
structure Emb {prog:Program} {w:World} {K:Type} [DecidableEq K] (knd:KeyKind prog w K) (emb:K→V):Prop where
 to:∀ {k v},knd.is k v=true→∀ h S μ n,VR h S μ n v (emb k)
 of:∀ {k v h S μ n},VR h S μ n v (emb k)→knd.is k v=true
 hash:∀ k,knd.hash k=hV w (emb k)
 beq:∀ a b,V.beq (emb a) (emb b)=decide (a=b)
theorem embInt(prog:Program)(w:World):Emb (intKind prog w) V.int where
 to:=fun h _ _ _ _=>by obtain⟨t,rfl⟩:=Value.isInt_shape h;exact .int _ _
 of:=fun x=>by cases x;exact intKind_is _ _ _ _
 hash:=fun k=>rfl
 beq:=fun a b=>rfl
theorem embStr(prog:Program)(w:World):Emb (strKind prog w) V.str where
 to:=fun h _ _ _ _=>by obtain⟨t,rfl⟩:=Value.isStrOf_shape h;exact .str _ _
 of:=fun x=>by cases x;exact strKind_is _ _ _ _
 hash:=fun k=>rfl
 beq:=fun a b=>rfl
noncomputable def dset(kvs:List (V×V))(k v:V):List (V×V):=if kvs.any (fun p=>V.beq p.1 k) then kvs.map (fun p=>if V.beq p.1 k then (p.1,v) else p) else kvs++[(k,v)]
section
variable{prog:Program}{w:World}{K:Type}[DecidableEq K]{knd:KeyKind prog w K}{emb:K→V}{h:Heap}{S:Nat→Prop}{μ:Nat→Nat}{n:Nat}
inductive PR (h:Heap) (S:Nat→Prop) (μ:Nat→Nat) (n:Nat) (emb:K→V):List (K×Value)→List (V×V)→Prop
 | nil:PR h S μ n emb [] []
 | cons {k:K} {v:Value} {x:V} {ps:List (K×Value)} {kvs:List (V×V)} (a:VR h S μ n v x) (r:PR h S μ n emb ps kvs):PR h S μ n emb ((k,v)::ps) ((emb k,x)::kvs)
theorem PR.keys{ps:List (K×Value)}{kvs:List (V×V)}(x:PR h S μ n emb ps kvs):kvs.map (·.1)=(ps.map (·.1)).map emb:=by
 induction x with
 | nil=>rfl
 | cons a r ih=>simp[ih]
theorem PR.mono{h':Heap}{T T' S':Nat→Prop}{μ':Nat→Nat}{n':Nat}(ev:Evo h T S μ n h' T' S' μ' n'){ps:List (K×Value)}{kvs:List (V×V)}(x:PR h S μ n emb ps kvs):PR h' S' μ' n' emb ps kvs:=by
 induction x with
 | nil=>exact .nil
 | cons a r ih=>exact .cons (a.mono ev) ih
theorem PR.at{ps:List (K×Value)}{kvs:List (V×V)}(E:Emb knd emb)(x:PR h S μ n emb ps kvs)(k:K) :
  (dget kvs (emb k)=none∧valueAt ps k=none)∨∃ v y,dget kvs (emb k)=some y∧valueAt ps k=some v∧VR h S μ n v y:=by
 induction x with
 | nil=>exact .inl ⟨rfl,rfl⟩
 | @cons k' v x ps kvs a r ih =>
  have hb:=E.beq k' k
  by_cases e:k'=k
  ·subst e
   have hb:=E.beq k' k'
   exact .inr ⟨v,x,by simp[dget,List.find?_cons,hb],by simp[valueAt],a⟩
  ·have e1:dget ((emb k',x)::kvs) (emb k)=dget kvs (emb k):=by simp[dget,List.find?_cons,hb,e]
   have e2:valueAt ((k',v)::ps) k=valueAt ps k:=by simp[valueAt,List.find?_cons,e]
   rw[e1,e2];exact ih
theorem PR.any{ps:List (K×Value)}{kvs:List (V×V)}(E:Emb knd emb)(x:PR h S μ n emb ps kvs)(k:K):(kvs.any fun p=>V.beq p.1 (emb k))=(ps.any fun p=>decide (p.1=k)):=by
 induction x with
 | nil=>rfl
 | cons a r ih=>simp only[List.any_cons,E.beq,ih]
theorem PR.append{ps ps':List (K×Value)}{kvs kvs':List (V×V)}(x:PR h S μ n emb ps kvs)(y:PR h S μ n emb ps' kvs'):PR h S μ n emb (ps++ps') (kvs++kvs'):=by
 induction x with
 | nil=>exact y
 | cons a r ih=>exact .cons a ih
theorem PR.store{ps:List (K×Value)}{kvs:List (V×V)}(E:Emb knd emb)(x:PR h S μ n emb ps kvs)(k:K){v:Value}{y:V}(t:VR h S μ n v y):PR h S μ n emb (stored ps k v) (dset kvs (emb k) y):=by
 unfold stored dset
 rw[x.any E k]
 split
 ·rename_i hh;clear hh
  induction x with
  | nil=>exact .nil
  | @cons k' v' x' ps kvs a r ih =>
   rw[List.map_cons,List.map_cons]
   by_cases e:k'=k
   ·simp only[E.beq,e,decide_true,if_true];exact .cons t ih
   ·simp only[E.beq,e,decide_false,if_false,Bool.false_eq_true];exact .cons a ih
 ·exact x.append (.cons t .nil)
theorem w7{c:Ctx}{knd:KeyKind c.prog c.w K}(E:Emb knd emb){es:List DictEntry}{kvs:List (V×V)}(x:DR c h S μ n es kvs)(hk:∀ p∈kvs,∃ k,p.1=emb k) :
  ∃ ps,Pairs knd es ps∧PR h S μ n emb ps kvs∧∀ e∈es,∃ k,knd.is k e.key=true∧e.hash=knd.hash k:=by
 induction x with
 | nil=>exact⟨[],.nil,.nil,by simp⟩
 | @cons e k x es kvs a b q r ih =>
  obtain⟨ps,p1,p2,p3⟩:=ih fun p hp=>hk p (List.mem_cons_of_mem _ hp)
  obtain⟨k',e1⟩:=hk (k,x) List.mem_cons_self
  dsimp only at e1
  subst e1
  refine⟨(k',e.val)::ps,.cons (E.of a) rfl p1,.cons b p2,fun z hz=>?_⟩
  rcases List.mem_cons.mp hz with rfl | hz
  ·exact⟨k',E.of a,q.trans (E.hash k').symm⟩
  ·exact p3 z hz
theorem uT{c:Ctx}{knd:KeyKind c.prog c.w K}(E:Emb knd emb){es:List DictEntry}{ps:List (K×Value)}{kvs:List (V×V)}(x:Pairs knd es ps)(y:PR h S μ n emb ps kvs)(hk:∀ e∈es,∃ k,knd.is k e.key=true∧e.hash=knd.hash k) :
  DR c h S μ n es kvs:=by
 induction x generalizing kvs with
 | nil=>cases y;exact .nil
 | @cons e kv es ps h1 h2 _ ih =>
  cases y with
  | @cons k v x _ kvs a r =>
   obtain⟨k',g1,g2⟩:=hk e List.mem_cons_self
   have e1:=knd.inj _ _ _ g1 h1
   subst e1
   refine .cons (E.to h1 ..) ?_ (g2.trans (E.hash _)) (ih r fun z hz=>hk z (List.mem_cons_of_mem _ hz))
   rw[h2];exact a
theorem eZ{c:Ctx}{knd:KeyKind c.prog c.w K}(E:Emb knd emb){a:Addr}{es:List DictEntry}{k:Nat}{kvs:List (V×V)}(e:h.get? a=some (dictO es k))(x:DR c h S μ n es kvs)(u:(kvs.map (·.1)).Pairwise (·≠·))(hk:∀ p∈kvs,∃ k,p.1=emb k) :
  ∃ ps,h.DictOf knd a ps∧PR h S μ n emb ps kvs:=by
 obtain⟨ps,p1,p2,p3⟩:=w7 E x hk
 refine⟨ps,⟨_,es.toArray,k,e,⟨rfl,rfl,rfl⟩,rfl,fun z hz=>p3 z (by simpa using hz),p1,?_⟩,p2⟩
 rw[p2.keys] at u
 exact List.Pairwise.imp (fun hne e=>hne (by rw[e])) (List.pairwise_map.mp u)
theorem lw{c:Ctx}{knd:KeyKind c.prog c.w K}(E:Emb knd emb){a:Addr}{ps:List (K×Value)}{kvs:List (V×V)}(x:h.DictOf knd a ps)(y:PR h S μ n emb ps kvs)(kk:∀ p∈kvs,p.1.key=true∧p.1.dep≤7):OR c h S μ n a (.dict kvs):=by
 obtain⟨⟨cls,dd,dt,sl⟩,es,ep,ho,⟨h1,h2,h3⟩,hd,hk,hp,hn⟩:=x
 dsimp only at h1 h2 h3 hd
 subst h1 h2 h3 hd
 refine .dict (es:=es.toList) (k:=ep) (by simpa [dictO] using ho) (uT E hp y fun e he=>hk e (by simpa using he)) ?_ kk
 rw[y.keys,List.pairwise_map]
 refine hn.imp fun {a b} hne e=>hne ?_
 have:=E.beq a b
 rw[e] at this
 have h2:=E.beq b b
 rw[h2] at this
 simpa using this.symm
end
end
section
mutual
inductive KR (h:Heap):Value→V→Prop
 | int (i:Int) (t:Tok):KR h (.int i t) (.int i)
 | str (s:Str) (t:Tok) (k:PyData.canLay0 (.str s)=true):KR h (.str s t) (.str s)
 | tup {a:Addr} {items:List Value} {l:List V} (e:h.get? a=some (tupO items)) (x:KRs h items l):KR h (.ref a) (.tup l)
inductive KRs (h:Heap):List Value→List V→Prop
 | nil:KRs h [] []
 | cons {v:Value} {x:V} {vs:List Value} {xs:List V} (a:KR h v x) (b:KRs h vs xs):KRs h (v::vs) (x::xs)
end
theorem KR.of{h:Heap}{S:Nat→Prop}{μ:Nat→Nat}{n:Nat}{v:Value}{x:V}(t:VR h S μ n v x):x.key=true→KR h v x :=
 VR.rec (motive_1:=fun v x _=>x.key=true→KR h v x) (motive_2:=fun v x _=>V.keys x=true→KRs h v x)
  (fun k=>absurd k Bool.false_ne_true) (fun _ k=>absurd k Bool.false_ne_true) (fun i t _=>.int i t) (fun s t k=>.str s t k) (fun e _ _ ih k=>.tup e (ih k)) (fun _ _ _ _ k=>absurd k Bool.false_ne_true)
  (fun _ _ k=>absurd k Bool.false_ne_true) (fun _ _ _ k=>absurd k Bool.false_ne_true) (fun _ k=>absurd k Bool.false_ne_true) (fun _ _ k=>absurd k Bool.false_ne_true)
  (fun _=>.nil) (fun _ _ a b k=>.cons (a (Bool.and_eq_true_iff.mp k).1) (b (Bool.and_eq_true_iff.mp k).2)) t
theorem KR.key{h:Heap}{v:Value}{x:V}(t:KR h v x):x.key=true :=
 KR.rec (motive_1:=fun _ x _=>x.key=true) (motive_2:=fun _ x _=>V.keys x=true) (fun _ _=>rfl) (fun _ _ k=>k) (fun _ _ a=>a) rfl (fun _ _ a b=>Bool.and_eq_true_iff.mpr ⟨a,b⟩) t
theorem KR.inj{h:Heap}{v:Value}{x y:V}(t:KR h v x)(t':KR h v y):x=y:=by
 refine KR.rec (motive_1:=fun v x _=>∀ y,KR h v y→x=y) (motive_2:=fun v x _=>∀ y,KRs h v y→x=y) (fun _ _ _ k=>?_) (fun _ _ _ _ k=>?_) (fun {a i l} e _ ih y k=>?_) (fun _ k=>?_) (fun _ _ i j _ k=>?_) t y t'
 ·cases k;rfl
 ·cases k;rfl
 ·cases k with | @tup _ j _ e' x =>
  rw[e] at e'
  have:i=j:=by injection e' with e';injection e' with _ _ e' _;injection e' with e' _;simpa using e'
  subst this
  rw[ih _ x]
 ·cases k;rfl
 ·cases k with | cons a b=>rw[i _ a,j _ b]
theorem KR.keeps{h h':Heap}{d:Addr}{o:Obj}{es ep}(ho:h.get? d=some o)(hd:o.data=.dict es ep)(hs:Heap.SameBut d h h'){v:Value}{x:V}(t:KR h v x):KR h' v x :=
 KR.rec (motive_1:=fun v x _=>KR h' v x) (motive_2:=fun v x _=>KRs h' v x) .int .str (fun e _ ih=>.tup ((hs.2 _ fun z=>by rw[z,ho] at e;injection e with e;rw[e] at hd;cases hd).trans e) ih) .nil (fun _ _=>.cons) t
theorem KR.py{h:Heap}{v:Value}{x:V}(t:KR h v x):∃ d as,x.py=some d∧Reads h v d as∧d.canLay0=true∧d.depth=x.dep:=by
 refine KR.rec (motive_1:=fun v x _=>∃ d as,x.py=some d∧Reads h v d as∧d.canLay0=true∧d.depth=x.dep) (motive_2:=fun v x _=>∃ d as,V.pys x=some d∧ReadsAll h v d as∧PyData.canLayAll0 d=true∧PyData.depthAll d=V.deps x)
  (fun i t=>⟨_,_,rfl,.int i t,rfl,rfl⟩) (fun s t k=>⟨_,_,rfl,.str s t,k,rfl⟩) (fun e _ ih=>?_) ⟨_,_,rfl,.nil,rfl,rfl⟩ (fun _ _ i j=>?_) t
 ·obtain⟨ds,as,e1,r,k,d⟩:=ih
  exact⟨.tuple ds,as,ix e1,.tuple e rfl rfl (by simpa using r),k,congrArg Nat.succ d⟩
 ·obtain⟨d,_,e1,r,k,q⟩:=i
  obtain⟨ds,_,e2,r',k',q'⟩:=j
  exact⟨d::ds,_,iJ e1 e2,.cons r r',Bool.and_eq_true_iff.mpr ⟨k,k'⟩,congr (congrArg max q) q'⟩
theorem KR.eqv{h:Heap}{v u:Value}{x y:V}{dx dy:PyData}(t:KR h v x)(t':KR h u y)(e:x.py=some dx)(e':y.py=some dy):PyData.eqv dx dy=V.beq x y:=by
 refine KR.rec (motive_1:=fun _ x _=>∀ {u y dx dy},KR h u y→x.py=some dx→y.py=some dy→PyData.eqv dx dy=V.beq x y) (motive_2:=fun _ x _=>∀ {u y dx dy},KRs h u y→V.pys x=some dx→V.pys y=some dy→PyData.eqvAll dx dy=V.beqs x y)
  (fun _ _ _ _ _ _ k e e'=>?_) (fun _ _ _ _ _ _ _ k e e'=>?_) (fun _ _ ih _ _ _ _ k e e'=>?_) (fun k e e'=>?_) (fun _ _ i j _ _ _ _ k e e'=>?_) t t' e e'
 ·cases e
  cases k with
  | tup=>obtain⟨_,_,rfl⟩:=fg e';rfl
  | _=>cases e';rfl
 ·cases e
  cases k with
  | tup=>obtain⟨_,_,rfl⟩:=fg e';rfl
  | _=>cases e';rfl
 ·obtain⟨_,e1,rfl⟩:=fg e
  cases k with
  | tup _ r=>obtain⟨_,e2,rfl⟩:=fg e';exact ih r e1 e2
  | _=>cases e';rfl
 ·cases e
  cases k with
  | nil=>cases e';rfl
  | cons=>obtain⟨_,_,_,_,rfl⟩:=gO e';rfl
 ·obtain⟨_,_,e1,e2,rfl⟩:=gO e
  cases k with
  | nil=>cases e';rfl
  | cons a b =>
   obtain⟨_,_,e3,e4,rfl⟩:=gO e'
   show (PyData.eqv _ _&&PyData.eqvAll _ _)=(V.beq _ _&&V.beqs _ _)
   rw[i a e1 e3,j b e2 e4]
end
section
noncomputable def V.dr:V→Nat:=V.fold 1 (fun _=>1) (fun _=>1) Nat.succ 0 Nat.add
noncomputable def V.drs:List V→Nat:=V.folds 1 (fun _=>1) (fun _=>1) Nat.succ 0 Nat.add
section
variable{prog:Program}{w:World}
theorem qy{h:Heap}{v:Value}{x:V}(t:KR h v x):∀ {A:Around} {E:Value→Shared→Prop} {s:Shared} {Q:Int→Shared→Prop},s.heap=h→A.units+x.dep < cLine →
  Q (hV w x) { s with toks:=s.toks+x.dr }→wpAny (model prog w) A (pyHash v) Q E s:=by
 refine KR.rec (motive_1:=fun v x _=>∀ {A:Around} {E:Value→Shared→Prop} {s:Shared} {Q:Int→Shared→Prop},s.heap=h→A.units+x.dep < cLine→Q (hV w x) { s with toks:=s.toks+x.dr }→wpAny (model prog w) A (pyHash v) Q E s)
  (motive_2:=fun vs l _=>∀ {A:Around} {E:Value→Shared→Prop} {s:Shared} {acc:Array Int} {f:Value→Array Int→Sem (ForInStep (Array Int))} {Q:Array Int→Shared→Prop},(∀ v b,f v b=(pyHash v >>= fun i=>pure (.yield (b.push i))))→s.heap=h→A.units+V.deps l < cLine →
   Q (acc++(hVs w l).toArray) { s with toks:=s.toks+V.drs l }→wpAny (model prog w) A (forIn vs acc f) Q E s)
  (fun _ _ _ _ _ _ _ _ k=>wpAny_pyHash_int k) (fun _ _ _ _ _ _ _ _ _ k=>wpAny_pyHash_str k) (fun {a items l} ho hi ih A E s Q hh hu k=>?_) (fun {A E s acc f Q} _ _ _ k=>?_) (fun {_ x _ l} _ _ i j _ _ s acc _ Q hf hh hu k=>?_) t
 ·rw[← hh] at ho
  have hT:s.TypeIs (.ref a) "tuple":=⟨_,ho,rfl⟩
  have hu:A.units+(V.deps l+1) < cLine:=hu
  unfold pyHash
  first | unfold pyHashByItsType | skip
  first | refine wpAny_bind (wpAny_cRoomFor_or (.inr (by lia)) ?_) | skip
  refine wpAny_bind (wpAny_specialOf hT F.slot_tuple_hash.lookup ?_)
  show wpAny _ _ (if (some (Value.builtin "tuple.__hash__")==some Value.none)=true then _ else _) Q E s
  rw[if_neg (by rw[beq_builtin_none];exact Bool.false_ne_true)]
  refine wpAny_bind (wpAny_specialOf hT F.slot_tuple_hash.lookup ?_)
  show wpAny _ _ (callSpecialIfBoundUnlessNone? (.ref a) "__hash__" _ >>= _) Q E s
  refine wpAny_bind (wpAny_callSpecialIfBoundUnlessNone?_slot hT F.slot_tuple_hash (wpAny_call_entry F.slot_tuple_hash hT F.entry_tuple_hash ?_ (F.args_tuple_hash_1 _)))
  show wpAny _ _ (Builtin.Tuple.tupleItemsOf (.ref a) >>= _) _ _ s
  refine wpAny_bind (wpAny_tupleItemsOf ho rfl ?_)
  refine wpAny_bind ?_
  rw[← Array.forIn_toList]
  refine ih (fun _ _=>rfl) hh (show A.units+1+V.deps l < cLine by lia) ?_
  show wpAny _ _ (retInt (Builtin.Tuple.tupleHashOf (#[]++(hVs w l).toArray).toList)) _ _ _
  rw[show (#[]++(hVs w l).toArray:Array Int).toList=hVs w l by simp]
  refine wpAny_ret_mkInt ?_
  show wpAny _ _ (if (decide (-(2:Int) ^ 63≤Builtin.Tuple.tupleHashOf (hVs w l))&&decide (Builtin.Tuple.tupleHashOf (hVs w l) < 2 ^ 63))=true then _ else _) Q E _
  change Q (if (decide (-(2:Int) ^ 63≤Builtin.Tuple.tupleHashOf (hVs w l))&&decide (Builtin.Tuple.tupleHashOf (hVs w l) < 2 ^ 63))=true then _ else _) { s with toks:=s.toks+V.drs l+1 } at k
  split
  ·rename_i hr;rw[if_pos hr] at k;exact wpAny_pure k
  ·rename_i hr;rw[if_neg hr] at k;exact wpAny_bind (wpAny_rule (wpAny_pure k))
 ·rw[List.forIn_nil]
  refine wpAny_pure ?_
  rw[show acc++(hVs w []).toArray=acc from Array.append_empty] at k
  exact k
 ·rw[List.forIn_cons,hf]
  have hu:_+max x.dep (V.deps l) < cLine:=hu
  refine wpAny_bind (wpAny_bind (i hh (by lia) (wpAny_pure ?_)))
  refine j hf hh (by lia) ?_
  change Q (acc++(hV w x::hVs w l).toArray) { s with toks:=s.toks+(x.dr+V.drs l) } at k
  simpa [Nat.add_assoc] using k
theorem ze{h:Heap}{v:Value}{x:V}(t:KR h v x):∀ (j:Nat) {A:Around} {E:Value→Shared→Prop} {s:Shared} {Q:Bool→Shared→Prop},s.heap=h→x.dep≤j→Q true s→wpAny (model prog w) A (eqIsQuiet j v) Q E s:=by
 refine KR.rec (motive_1:=fun v x _=>∀ (j:Nat) {A:Around} {E:Value→Shared→Prop} {s:Shared} {Q:Bool→Shared→Prop},s.heap=h→x.dep≤j→Q true s→wpAny (model prog w) A (eqIsQuiet j v) Q E s)
  (motive_2:=fun vs l _=>∀ (j:Nat) {A:Around} {E:Value→Shared→Prop} {s:Shared} {f:Value→Option Bool×PUnit→Sem (ForInStep (Option Bool×PUnit))} {Q:Option Bool×PUnit→Shared→Prop},
   (∀ v b,f v b=(eqIsQuiet j v >>= fun q=>if (!q)=true then pure (.done (some false,⟨⟩)) else pure (.yield (none,⟨⟩))))→s.heap=h→V.deps l≤j→Q (none,⟨⟩) s→wpAny (model prog w) A (forIn vs (none,⟨⟩) f) Q E s)
  (fun _ _ _ _ _ _ _ _ _ k=>?_) (fun _ _ _ _ _ _ _ _ _ _ k=>?_) (fun {a items l} ho hi ih j A E s Q hh hj k=>?_) (fun _ _ _ _ _ _ _ _ _ k=>?_) (fun {_ x _ l} _ _ i j n _ _ _ _ _ hf hh hj k=>?_) t
 ·rw[eqIsQuiet_byValue _ rfl];exact wpAny_pure k
 ·rw[eqIsQuiet_byValue _ rfl];exact wpAny_pure k
 ·cases j with
  | zero=>cases hj
  | succ j =>
   rw[← hh] at ho
   have hT:s.TypeIs (.ref a) "tuple":=⟨_,ho,rfl⟩
   unfold eqIsQuiet
   refine wpAny_bind (wpAny_specialOf hT F.slot_tuple_eq.lookup ?_)
   show wpAny _ _ (isInstance (.ref a) (.type "tuple") >>= _) _ _ s
   refine wpAny_bind (wpAny_isInstance hT isSubtype_tuple_tuple ?_)
   simp only[Bool.not_true,Bool.false_eq_true,if_false]
   refine wpAny_bind (wpAny_seqItems ho rfl ?_)
   refine wpAny_bind ?_
   show wpAny _ _ (forIn items.toArray _ _) _ _ s
   rw[← Array.forIn_toList]
   refine ih j (fun _ _=>rfl) hh (Nat.le_of_succ_le_succ hj) ?_
   exact wpAny_pure k
 ·rw[List.forIn_nil]
  exact wpAny_pure k
 ·rw[List.forIn_cons,hf]
  refine wpAny_bind (wpAny_bind (i n hh (Nat.le_trans (Nat.le_max_left _ _) hj) ?_))
  simp only[Bool.not_true,Bool.false_eq_true,if_false]
  exact wpAny_pure (j n hf hh (Nat.le_trans (Nat.le_max_right _ _) hj) k)
open scoped Classical in
noncomputable def cq(prog:Program)(w:World):HeapKind prog w (List V) where
 is:=fun h l a=>KR h (.ref a) (.tup l)∧(V.tup l).dep≤7
 hash:=fun l=>hV w (.tup l)
 draws:=fun l=>(V.tup l).dr
 room:=fun A=>A.units+16 < cLine
 inj:=fun hx hy=>by have:=hx.1.inj hy.1;injection this
 keeps:=fun x ho hd hs=>⟨x.1.keeps ho hd hs,x.2⟩
 pyHash:=fun hu hk h=>qy hk.1 rfl (by have:=hk.2;lia) h
 eqBool:=fun {A E s x y a b Q} hu hx hy h=>by
  obtain⟨dx,_,e1,r1,k1,p1⟩:=hx.1.py
  obtain⟨dy,_,e2,r2,k2,p2⟩:=hy.1.py
  have hd:=hx.2
  refine SeqAt.eqAt_reads dx dy A s _ _ _ _ r1 r2 k1 k2 (by lia) prog w E Q ?_
  rw[hx.1.eqv hy.1 e1 e2]
  have:V.beq (.tup x) (.tup y)=decide (x=y):=by
   rw[Bool.eq_iff_iff,V.beq_iff hx.1.key hy.1.key];simp
  rw[this];exact h
 quiet:=fun hk h=>ze hk.1 8 rfl (Nat.le_succ_of_le hk.2) h
end
end
section
section
open scoped Classical
variable{h:Heap}{S:Nat→Prop}{μ:Nat→Nat}{n:Nat}
inductive PH (h:Heap) (S:Nat→Prop) (μ:Nat→Nat) (n:Nat):List (List V×Addr×Value)→List (V×V)→Prop
 | nil:PH h S μ n [] []
 | cons {l:List V} {a:Addr} {v:Value} {x:V} {ps:List (List V×Addr×Value)} {kvs:List (V×V)} (ka:VR h S μ n (.ref a) (.tup l)) (b:VR h S μ n v x) (r:PH h S μ n ps kvs):PH h S μ n ((l,a,v)::ps) ((.tup l,x)::kvs)
theorem PH.keys{ps:List (List V×Addr×Value)}{kvs:List (V×V)}(x:PH h S μ n ps kvs):kvs.map (·.1)=(ps.map (·.1)).map V.tup:=by
 induction x with
 | nil=>rfl
 | cons a b r ih=>simp[ih]
theorem PH.mono{h':Heap}{T T' S':Nat→Prop}{μ':Nat→Nat}{n':Nat}(ev:Evo h T S μ n h' T' S' μ' n'){ps:List (List V×Addr×Value)}{kvs:List (V×V)}(x:PH h S μ n ps kvs):PH h' S' μ' n' ps kvs:=by
 induction x with
 | nil=>exact .nil
 | cons a b r ih=>exact .cons (a.mono ev) (b.mono ev) ih
theorem iy{l k:List V}(hl:(V.tup l).key=true)(hk:(V.tup k).key=true):V.beq (.tup l) (.tup k)=decide (l=k):=by
 rw[Bool.eq_iff_iff,V.beq_iff hl hk];simp
theorem PH.at{ps:List (List V×Addr×Value)}{kvs:List (V×V)}(x:PH h S μ n ps kvs)(ok:∀ p∈kvs,p.1.key=true){k:List V}(hk:(V.tup k).key=true) :
  (dget kvs (.tup k)=none∧atKey ps k=none)∨∃ a v y,dget kvs (.tup k)=some y∧atKey ps k=some (a,v)∧VR h S μ n v y:=by
 induction x with
 | nil=>exact .inl ⟨rfl,rfl⟩
 | @cons k' a v x ps kvs _ b r ih =>
  have hb:=iy (ok (.tup k',x) List.mem_cons_self) hk
  by_cases e:k'=k
  ·subst e
   exact .inr ⟨a,v,x,by simp[dget,List.find?_cons,hb],by simp[atKey],b⟩
  ·have e1:dget ((.tup k',x)::kvs) (.tup k)=dget kvs (.tup k):=by simp[dget,List.find?_cons,hb,e]
   have e2:atKey ((k',a,v)::ps) k=atKey ps k:=by simp[atKey,List.find?_cons,e]
   rw[e1,e2];exact ih fun p hp=>ok p (List.mem_cons_of_mem _ hp)
theorem PH.any{ps:List (List V×Addr×Value)}{kvs:List (V×V)}(x:PH h S μ n ps kvs)(ok:∀ p∈kvs,p.1.key=true){k:List V}(hk:(V.tup k).key=true):(kvs.any fun p=>V.beq p.1 (.tup k))=(atKey ps k).isSome:=by
 induction x with
 | nil=>rfl
 | @cons k' a v x ps kvs _ b r ih =>
  have hb:=iy (ok (.tup k',x) List.mem_cons_self) hk
  by_cases e:k'=k
  ·subst e;simp[atKey,List.find?_cons,hb]
  ·have e2:atKey ((k',a,v)::ps) k=atKey ps k:=by simp[atKey,List.find?_cons,e]
   rw[e2,List.any_cons,hb,← ih fun p hp=>ok p (List.mem_cons_of_mem _ hp)];simp[e]
theorem PH.append{ps ps':List (List V×Addr×Value)}{kvs kvs':List (V×V)}(x:PH h S μ n ps kvs)(y:PH h S μ n ps' kvs'):PH h S μ n (ps++ps') (kvs++kvs'):=by
 induction x with
 | nil=>exact y
 | cons a b r ih=>exact .cons a b ih
theorem PH.store{ps:List (List V×Addr×Value)}{kvs:List (V×V)}(x:PH h S μ n ps kvs)(ok:∀ p∈kvs,p.1.key=true){k:List V}(hk:(V.tup k).key=true){a:Addr}{v:Value}{y:V}(ta:VR h S μ n (.ref a) (.tup k))(t:VR h S μ n v y) :
  PH h S μ n (storedH ps k a v) (dset kvs (.tup k) y):=by
 unfold storedH dset
 rw[x.any ok hk]
 split
 ·rename_i hh;clear hh
  induction x with
  | nil=>exact .nil
  | @cons k' a' v' x' ps kvs a b r ih =>
   have hb:=iy (ok (.tup k',x') List.mem_cons_self) hk
   rw[List.map_cons,List.map_cons]
   have ih:=ih fun p hp=>ok p (List.mem_cons_of_mem _ hp)
   by_cases e:k'=k
   ·subst e;simp only[hb,decide_true,if_true,putAt];exact .cons a t ih
   ·simp only[hb,e,decide_false,if_false,Bool.false_eq_true,putAt];exact .cons a b ih
 ·exact x.append (.cons ta t .nil)
theorem oZ{c:Ctx}{a:Addr}{es:List DictEntry}{k:Nat}{kvs:List (V×V)}(e:h.get? a=some (dictO es k))(x:DR c h S μ n es kvs)(u:(kvs.map (·.1)).Pairwise (·≠·))(ok:∀ p∈kvs,p.1.key=true∧p.1.dep≤7)(hk:∀ p∈kvs,∃ l,p.1=.tup l) :
  ∃ ps,h.DictOfH (cq c.prog c.w) a ps∧PH h S μ n ps kvs:=by
 have:∃ ps,es=ps.map (entryOfKey (cq c.prog c.w))∧PH h S μ n ps kvs:=by
  clear e u
  induction x with
  | nil=>exact⟨[],rfl,.nil⟩
  | @cons e k x es kvs a b q r ih =>
   obtain⟨ps,p1,p2⟩:=ih (fun p hp=>ok p (List.mem_cons_of_mem _ hp)) fun p hp=>hk p (List.mem_cons_of_mem _ hp)
   obtain⟨l,e1⟩:=hk (k,x) List.mem_cons_self
   dsimp only at e1
   subst e1
   obtain⟨hs,ky,vl⟩:=e
   dsimp only at a b q
   subst q
   cases a with | @tup ad items _ g f t=>exact⟨(l,ad,vl)::ps,by rw[p1];rfl,.cons (.tup g f t) b p2⟩
 obtain⟨ps,p1,p2⟩:=this
 refine⟨ps,⟨_,es.toArray,k,e,⟨rfl,rfl,rfl⟩,rfl,by simpa using p1,?_,?_⟩,p2⟩
 ·clear p1 e x u hk
  induction p2 with
  | nil=>intro z hz;cases hz
  | @cons l ad v x ps kvs a b r ih =>
   intro z hz
   rcases List.mem_cons.mp hz with rfl | hz
   ·have:=ok (.tup l,x) List.mem_cons_self
    exact⟨KR.of a this.1,this.2⟩
   ·exact ih (fun p hp=>ok p (List.mem_cons_of_mem _ hp)) z hz
 ·rw[p2.keys] at u
  exact List.Pairwise.imp (fun hne e=>hne (by rw[e])) (List.pairwise_map.mp u)
theorem yj{c:Ctx}{a:Addr}{ps:List (List V×Addr×Value)}{kvs:List (V×V)}(x:h.DictOfH (cq c.prog c.w) a ps)(y:PH h S μ n ps kvs)(kk:∀ p∈kvs,p.1.key=true∧p.1.dep≤7):OR c h S μ n a (.dict kvs):=by
 obtain⟨⟨cls,dd,dt,sl⟩,es,ep,ho,⟨h1,h2,h3⟩,hd,he,hz,hn⟩:=x
 clear hz
 dsimp only at h1 h2 h3 hd
 subst h1 h2 h3 hd
 refine .dict (es:=es.toList) (k:=ep) (by simpa [dictO] using ho) ?_ ?_ kk
 ·rw[he]
  clear hn he ho kk
  induction y with
  | nil=>exact .nil
  | cons a b r ih=>exact .cons a b rfl ih
 ·rw[y.keys,List.pairwise_map]
  exact hn.imp fun {a b} hne e=>hne (by injection e)
variable{c:Ctx}{A:Around}{X:Nat→Prop}{σ:St}{s:Shared}
theorem gb{kvs:List (V×V)}{i:Int}(h:(kvs.all fun p=>V.like p.1 (.int i))=true):∀ p∈kvs,∃ j,p.1=V.int j:=fun p hp=>by
 have:=List.all_eq_true.mp h p hp
 cases q:p.1<;>rw[q] at this<;>first | exact⟨_,rfl⟩ | cases this
theorem iO{kvs:List (V×V)}{i:Str}(h:(kvs.all fun p=>V.like p.1 (.str i))=true):∀ p∈kvs,∃ j,p.1=V.str j:=fun p hp=>by
 have:=List.all_eq_true.mp h p hp
 cases q:p.1<;>rw[q] at this<;>first | exact⟨_,rfl⟩ | cases this
theorem lT{kvs:List (V×V)}{i:List V}(h:(kvs.all fun p=>V.like p.1 (.tup i))=true):∀ p∈kvs,∃ j,p.1=V.tup j:=fun p hp=>by
 have:=List.all_eq_true.mp h p hp
 cases q:p.1<;>rw[q] at this<;>first | exact⟨_,rfl⟩ | cases this
theorem fz{kvs:List (V×V)}{k:V}:(dget kvs k).isSome=kvs.any fun p=>V.beq p.1 k:=by
 simp[dget]
 rw[Bool.eq_iff_iff];simp[List.find?_isSome]
theorem notMod(ok:c.Ok)(R:Rel c X σ μ h){i:Nat}{o:AObj}(e:σ[i]?=some (some o)):(μ i==sysModules)=false:=by
 rw[beq_eq_false_iff_ne]
 intro z
 have:=R.out i o e
 obtain⟨o',e'⟩:=ok.low
 rw[z,e'] at this;cases this
theorem hM{kvs:List (V×V)}{k y:V}(ok:∀ p∈kvs,p.1.key=true∧p.1.dep≤7)(k1:k.key=true)(k2:k.dep≤7):∀ p∈dset kvs k y,p.1.key=true∧p.1.dep≤7:=by
 unfold dset
 split
 ·intro p hp
  obtain⟨z,hz,rfl⟩:=List.mem_map.mp hp
  split<;>exact ok z hz
 ·intro p hp
  rcases List.mem_append.mp hp with hp | hp
  ·exact ok p hp
  ·simp at hp;subst hp;exact⟨k1,k2⟩
structure DK (c:Ctx) (X:Nat→Prop) (σ:St) (μ:Nat→Nat) (s:Shared) (A:Around) (i:Nat) (kvs:List (V×V)) (v:Value) (k:V):Prop where
 get:∀ {y:V} {Q:V→St→Prop},dget kvs k=some y→Q y σ→wpAny c.M A (getItem (.ref (μ i)) v) (Post c RV X σ μ s Q) Bot s
 isIn:c.Ok→∀ {Q:V→St→Prop},Q (.bool (kvs.any fun p=>V.beq p.1 k)) σ→wpAny c.M A (compareOp .In v (.ref (μ i))) (Post c RV X σ μ s Q) Bot s
 notIn:c.Ok→∀ {Q:V→St→Prop},Q (.bool (!kvs.any fun p=>V.beq p.1 k)) σ→wpAny c.M A (compareOp .NotIn v (.ref (μ i))) (Post c RV X σ μ s Q) Bot s
 set:∀ {v':Value} {y:V} {Q:Unit→St→Prop},VRσ X σ μ s.heap v' y→Q () (σ.set i (some (.dict (dset kvs k y))))→wpAny c.M A (setItem (.ref (μ i)) v v') (Post c RU X σ μ s Q) Bot s
theorem m2{K:Type}[DecidableEq K]{knd:KeyKind c.prog c.w K}{emb:K→V}(E:Emb knd emb)(R:Rel c X σ μ s.heap){i:Nat}{kvs:List (V×V)}(e:σ[i]?=some (some (.dict kvs))){v:Value}{j:K}(hv:knd.is j v=true)(hl:∀ p∈kvs,∃ j,p.1=emb j)(k1:(emb j).key=true)(k2:(emb j).dep≤7)(k4:kvs.length≤1000000):DK c X σ μ s A i kvs v (emb j):=by
 obtain⟨_,_,e1,x,u,ok⟩:=(R.obj i _ e).inv
 obtain⟨ps,hd,p⟩:=eZ E e1 x u hl
 refine⟨fun hy q=>?_,fun cok _ q=>?_,fun cok _ q=>?_,fun {v' y Q} t' q=>?_⟩
 ·rcases p.at E j with⟨a1,_⟩ | ⟨v,y',a1,a2,a3⟩
  ·rw[hy] at a1;cases a1
  ·rw[hy] at a1;cases a1
   exact wpAny_getItem_of hv hd.mapOf a2 (Post.tok R a3 q)
 ·refine wpAny_in_of hv (notMod cok R e) hd.mapOf ?_
  rcases p.at E j with⟨a1,a2⟩ | ⟨v,y',a1,a2,a3⟩<;>rw[← fz,a1] at q<;>rw[a2]<;>exact Post.tok R (.bool _) q
 ·refine wpAny_notIn_of hv (notMod cok R e) hd.mapOf ?_
  rcases p.at E j with⟨a1,a2⟩ | ⟨v,y',a1,a2,a3⟩<;>rw[← fz,a1] at q<;>rw[a2]<;>exact Post.tok R (.bool _) q
 ·refine wpAny_setItem_pairs hv hd (fun h' hd' hs=>?_) (bu (by have:=p.keys;have:=congrArg List.length this;simp at this;lia))
  obtain⟨o',_,_,g,_⟩:=id hd'
  have r:=R.upd (p:=.dict (dset kvs (emb j) y)) e hs ⟨o',g⟩ fun ev=>lw E hd' ((p.mono ev).store E j (t'.mono ev)) (hM (y:=y) ok k1 k2)
  exact⟨_,_,μ,q,r.1,trivial,r.2,rfl,rfl⟩
theorem dk(R:Rel c X σ μ s.heap)(hA:A.units+64≤cLine){i:Nat}{kvs:List (V×V)}(e:σ[i]?=some (some (.dict kvs))){v:Value}{k:V}(t:VRσ X σ μ s.heap v k)(hk:aY kvs k):DK c X σ μ s A i kvs v k:=by
 obtain⟨k1,k2,k3,k4⟩:=hk
 cases t with
 | int j tk=>exact m2 (embInt c.prog c.w) R e (intKind_is _ _ _ _) (gb k3) k1 k2 k4
 | str j tk=>exact m2 (embStr c.prog c.w) R e (strKind_is _ _ _ _) (iO k3) k1 k2 k4
 | @tup a items l g f t =>
  obtain⟨_,_,e1,x,u,ok⟩:=(R.obj i _ e).inv
  obtain⟨ps,hd,p⟩:=oZ e1 x u ok (lT k3)
  have hu:A.units+1+16 < cLine:=by lia
  have hv:(cq c.prog c.w).is s.heap l a:=⟨KR.of (.tup g f t) k1,k2⟩
  refine⟨fun hy q=>?_,fun cok _ q=>?_,fun cok _ q=>?_,fun {v' y Q} t' q=>?_⟩
  ·rcases p.at (fun p hp=>(ok p hp).1) k1 with⟨a1,_⟩ | ⟨a,v,y',a1,a2,a3⟩
   ·rw[hy] at a1;cases a1
   ·rw[hy] at a1;cases a1
    exact wpAny_getItem_heap (knd:=cq c.prog c.w) hu hv hd a2 (Post.tok R a3 q)
  ·refine wpAny_in_heap (knd:=cq c.prog c.w) hu hv (notMod cok R e) hd ?_
   rcases p.at (fun p hp=>(ok p hp).1) k1 with⟨a1,a2⟩ | ⟨a,v,y',a1,a2,a3⟩<;>rw[← fz,a1] at q<;>rw[a2]<;>exact Post.tok R (.bool _) q
  ·refine wpAny_notIn_heap (knd:=cq c.prog c.w) hu hv (notMod cok R e) hd ?_
   rcases p.at (fun p hp=>(ok p hp).1) k1 with⟨a1,a2⟩ | ⟨a,v,y',a1,a2,a3⟩<;>rw[← fz,a1] at q<;>rw[a2]<;>exact Post.tok R (.bool _) q
  ·refine wpAny_setItem_heap (knd:=cq c.prog c.w) hu hv hd (fun h' hd' hs=>?_) (bu (by have:=p.keys;have:=congrArg List.length this;simp at this;lia))
   obtain⟨o',_,_,g',_⟩:=id hd'
   have r:=R.upd (p:=.dict (dset kvs (.tup l) y)) e hs ⟨o',g'⟩ fun ev=>yj hd' ((p.mono ev).store (fun p hp=>(ok p hp).1) k1 ((VR.tup g f t).mono ev) (t'.mono ev)) (hM (y:=y) ok k1 k2)
   exact⟨_,_,μ,q,r.1,trivial,r.2,rfl,rfl⟩
 | _=>cases k1
end
end
section
section
variable{c:Ctx}{Γ:Gm}{A:Around}{X:Nat→Prop}{σ:St}{μ:Nat→Nat}{s:Shared}
theorem vP{u v:Value}{x y:V}{dx dy:PyData}{Q:V→St→Prop}(R:Rel c X σ μ s.heap)(hA:A.units+64 < cLine)(tx:VRσ X σ μ s.heap u x)(ty:VRσ X σ μ s.heap v y)(e1:x.py=some dx)(e2:y.py=some dy)(s1:SeqAt.shaped dx=true)(s2:SeqAt.shaped dy=true)
  (q:Q (.bool (PyData.eqv dx dy)) σ):wpAny c.M A (compareOp .Eq u v) (Post c RV X σ μ s Q) Bot s:=by
 obtain⟨_,r1⟩:=tx.reads e1
 obtain⟨_,r2⟩:=ty.reads e2
 exact SeqAt.compareEq_shaped r1 r2 s1 s2 hA (Post.here R (.bool _) q)
theorem rQ{u v:Value}{x y:V}{dx dy:PyData}{Q:V→St→Prop}(R:Rel c X σ μ s.heap)(hA:A.units+64 < cLine)(tx:VRσ X σ μ s.heap u x)(ty:VRσ X σ μ s.heap v y)(e1:x.py=some dx)(e2:y.py=some dy)(s1:SeqAt.shaped dx=true)(s2:SeqAt.shaped dy=true)
  (q:Q (.bool (!PyData.eqv dx dy)) σ):wpAny c.M A (compareOp .NotEq u v) (Post c RV X σ μ s Q) Bot s:=by
 obtain⟨_,r1⟩:=tx.reads e1
 obtain⟨_,r2⟩:=ty.reads e2
 exact SeqAt.compareNe_shaped r1 r2 s1 s2 hA (Post.here R (.bool _) q)
theorem cS{x:V}{v:Value}{vs:List Value}{l:List V}{dx:PyData}{ds:List PyData}(hA:A.units+80 < cLine)(tx:VRσ X σ μ s.heap v x)(tl:VRs s.heap (Sx X σ μ) μ σ.length vs l)(e1:x.py=some dx)(e2:V.pys l=some ds)(sh:SeqAt.shaped (.list (dx::ds))=true) :
  ∃ e:Value→Bool,(∀ y,y∈vs.toArray→SeqAt.EqAt A.in1 s y v (e y))∧vs.toArray.any e=ds.any (PyData.eqv · dx)∧vs.countP e=ds.countP (PyData.eqv · dx)∧vs.map e=ds.map (PyData.eqv · dx):=by
 classical
 obtain⟨_,r1⟩:=tx.reads e1
 obtain⟨_,r2⟩:=tl.reads e2
 simp only[SeqAt.shaped,PyData.canLay0,PyData.canLayAll0,PyData.depth,PyData.depthAll,Bool.and_eq_true,decide_eq_true_eq] at sh
 obtain⟨⟨k1,k2⟩,k3⟩:=sh
 let e:Value→Bool:=fun y=>if h:∃ d as,Reads s.heap y d as then PyData.eqv h.choose dx else false
 have val:∀ y d as,Reads s.heap y d as→e y=PyData.eqv d dx:=fun y d as r=>by
  have h:∃ d as,Reads s.heap y d as:=⟨d,as,r⟩
  show (if h:∃ d as,Reads s.heap y d as then PyData.eqv h.choose dx else false)=_
  rw[dif_pos h]
  obtain⟨as',r'⟩:=h.choose_spec
  rw[(r'.unique _ _ r).1]
 have all:∀ (vs:List Value) (ds:List PyData) (as:List Addr),ReadsAll s.heap vs ds as→vs.map e=ds.map (PyData.eqv · dx):=fun vs=>by
  induction vs with
  | nil=>intro ds as r;cases r;rfl
  | cons z zs ih=>intro ds as r;cases r with | cons a b=>rw[List.map_cons,List.map_cons,val _ _ _ a,ih _ _ b]
 have mem:∀ (vs:List Value) (ds:List PyData) (as:List Addr),ReadsAll s.heap vs ds as→PyData.canLayAll0 ds=true→∀ y∈vs,∃ d as,Reads s.heap y d as∧d.canLay0=true:=fun vs=>by
  induction vs with
  | nil=>intro ds as r _ y hy;cases hy
  | cons z zs ih =>
   intro ds as r k y hy
   cases r with | cons a b =>
   simp only[PyData.canLayAll0,Bool.and_eq_true] at k
   rcases List.mem_cons.mp hy with rfl | hy
   ·exact⟨_,_,a,k.1⟩
   ·exact ih _ _ b k.2 y hy
 have hm:=all _ _ _ r2
 have hcount:∀ (l:List Value),l.countP e=(l.map e).countP id:=fun l=>by rw[List.countP_map];rfl
 have hcount':∀ (l:List PyData),l.countP (PyData.eqv · dx)=(l.map (PyData.eqv · dx)).countP id:=fun l=>by rw[List.countP_map];rfl
 refine⟨e,fun y hy=>?_,?_,?_,hm⟩
 ·obtain⟨d,as,r,k⟩:=mem _ _ _ r2 k2 y (by simpa using hy)
  rw[val _ _ _ r]
  refine SeqAt.eqAt_reads d dx A.in1 s _ _ _ _ r r1 k k1 ?_
  have:=of_decide_eq_true k3
  show A.units+1+_ < cLine
  lia
 ·rw[List.any_toArray]
  have:∀ (l:List Value),l.any e=(l.map e).any id:=fun l=>by simp
  have this':∀ (l:List PyData),l.any (PyData.eqv · dx)=(l.map (PyData.eqv · dx)).any id:=fun l=>by simp
  rw[this,this',hm]
 ·rw[hcount,hcount',hm]
theorem eJ{σ:St}{op:CmpOp}{x y:V}{P P':Bool→Prop}(h:CmpI σ P op x y)(k:∀ b,P b→P' b):CmpI σ P' op x y:=by
 induction h with
 | eqI h=>exact .eqI (k _ h)
 | neI h=>exact .neI (k _ h)
 | lt h=>exact .lt (k _ h)
 | le h=>exact .le (k _ h)
 | gt h=>exact .gt (k _ h)
 | ge h=>exact .ge (k _ h)
 | eqS h=>exact .eqS (k _ h)
 | neS h=>exact .neS (k _ h)
 | eqB h=>exact .eqB (k _ h)
 | eq a b c d h=>exact .eq a b c d (k _ h)
 | ne a b c d h=>exact .ne a b c d (k _ h)
 | isNot a b c=>exact .isNot (fun e=>k _ (a e)) (fun e r=>k _ (b e r)) c
 | is a b c=>exact .is (fun e=>k _ (a e)) (fun e=>k _ (b e)) c
 | inT a b c h=>exact .inT a b c (k _ h)
 | ninT a b c h=>exact .ninT a b c (k _ h)
 | inF a b c h=>exact .inF a b c (k _ h)
 | ninF a b c h=>exact .ninF a b c (k _ h)
 | inD a b h=>exact .inD a b (k _ h)
 | ninD a b h=>exact .ninD a b (k _ h)
 | inL g a b c h=>exact .inL g a b c (k _ h)
 | inR h=>exact .inR (k _ h)
 | ninL g a b c h=>exact .ninL g a b c (k _ h)
noncomputable def V.isNone:V→Bool
 | .none=>true
 | _=>false
theorem V.isNone_iff{x:V}:x.isNone=true↔x=.none:=by cases x<;>simp[V.isNone]
theorem oO{v:Value}{x:V}(t:VRσ X σ μ s.heap v x)(hr:∀ w,x≠.raw w):(v==Value.none)=x.isNone:=by
 cases t<;>first | rfl | exact absurd rfl (hr _)
theorem sQ{r:Addr}{x a b e:Int}{tx t u v:Tok}{P:Value→Shared→Prop}(hr:IsRange s.heap r a b e t u v)(h:P (.bool (Builtin.Range.rangePlace? a b e x).isSome) s):wpAny c.M A (compareOp .In (.int x tx) (.ref r)) P Bot s:=by
 have hT:s.TypeIs (.ref r) "range":=⟨_,hr,rfl⟩
 show wpAny _ _ (do return Value.bool (← contains (.ref r) (.int x tx))) _ _ s
 refine wpAny_bind (wpAny_contains_slot hT F.slot_range_contains (wpAny_call_entry F.slot_range_contains hT F.entry_range_contains ?_ (F.args_range_contains_2 _ _)))
 show wpAny _ _ (rule "range.contains.reckoned" >>= fun _=>Builtin.Range.rangeFields (.ref r) >>= fun p=>ret (Value.bool (Builtin.Range.rangePlace? p.1 p.2.1 p.2.2 x).isSome)) _ _ s
 refine wpAny_bind (wpAny_rule (wpAny_bind ?_))
 unfold Builtin.Range.rangeFields
 refine wpAny_bind (wpAny_field hr rfl (x:=.int a t) rfl (wpAny_bind (wpAny_of_eq (a:=some a) rfl ?_)))
 refine wpAny_bind (wpAny_field hr rfl (x:=.int b u) rfl (wpAny_bind (wpAny_of_eq (a:=some b) rfl ?_)))
 refine wpAny_bind (wpAny_field hr rfl (x:=.int e v) rfl (wpAny_bind (wpAny_of_eq (a:=some e) rfl ?_)))
 exact wpAny_pure (wpAny_pure ⟨_,rfl,wpAny_truthy_bool (wpAny_pure h)⟩)
theorem dR{op:CmpOp}{u v:Value}{x y:V}{Q:V→St→Prop}(ok:c.Ok)(R:Rel c X σ μ s.heap)(hA:A.units+100≤cLine)(tx:VRσ X σ μ s.heap u x)(ty:VRσ X σ μ s.heap v y)(h:CmpI σ (fun b=>Q (.bool b) σ) op x y) :
  wpAny c.M A (compareOp op u v) (Post c RV X σ μ s Q) Bot s:=by
 cases h with
 | eqI h=>obtain⟨_,rfl⟩:=tx.inv;obtain⟨_,rfl⟩:=ty.inv;exact eq_int (Post.here R (.bool _) h)
 | neI h=>obtain⟨_,rfl⟩:=tx.inv;obtain⟨_,rfl⟩:=ty.inv;exact ne_int (Post.here R (.bool _) h)
 | lt h=>obtain⟨_,rfl⟩:=tx.inv;obtain⟨_,rfl⟩:=ty.inv;exact lt_int (Post.here R (.bool _) h)
 | le h=>obtain⟨_,rfl⟩:=tx.inv;obtain⟨_,rfl⟩:=ty.inv;exact le_int (Post.here R (.bool _) h)
 | gt h=>obtain⟨_,rfl⟩:=tx.inv;obtain⟨_,rfl⟩:=ty.inv;exact gt_int (Post.here R (.bool _) h)
 | ge h=>obtain⟨_,rfl⟩:=tx.inv;obtain⟨_,rfl⟩:=ty.inv;exact ge_int (Post.here R (.bool _) h)
 | eqS h=>obtain⟨_,rfl⟩:=tx.inv;obtain⟨_,rfl⟩:=ty.inv;exact eq_str (Post.here R (.bool _) h)
 | neS h=>obtain⟨_,rfl⟩:=tx.inv;obtain⟨_,rfl⟩:=ty.inv;exact ne_str (Post.here R (.bool _) h)
 | eqB h=>cases tx.inv;cases ty.inv;exact eq_bool (Post.here R (.bool _) h)
 | eq e1 e2 s1 s2 q=>exact vP R (by lia) tx ty e1 e2 s1 s2 q
 | ne e1 e2 s1 s2 q=>exact rQ R (by lia) tx ty e1 e2 s1 s2 q
 | isNot h1 h2 h3 =>
  cases ty.inv
  refine isNot_none ?_
  rw[oO tx h3]
  cases e:x.isNone
  ·exact Post.here R (.bool _) (h2 (fun z=>by rw[V.isNone_iff.mpr z] at e;cases e) h3)
  ·exact Post.here R (.bool _) (h1 (V.isNone_iff.mp e))
 | is h1 h2 h3 =>
  cases ty.inv
  refine is_none ?_
  rw[oO tx h3]
  cases e:x.isNone
  ·exact Post.here R (.bool _) (h2 fun z=>by rw[V.isNone_iff.mpr z] at e;cases e)
  ·exact Post.here R (.bool _) (h1 (V.isNone_iff.mp e))
 | inT e1 e2 sh q =>
  obtain⟨_,_,rfl,g,f,t⟩:=ty.inv
  obtain⟨e,h1,h2,_⟩:=cS (s:=s) (by lia:A.units+80 < cLine) tx t e1 e2 sh
  refine SeqAt.in_tupleAt e ⟨_,g,rfl,0,rfl⟩ h1 ?_
  rw[h2];exact Post.here R (.bool _) q
 | ninT e1 e2 sh q =>
  obtain⟨_,_,rfl,g,f,t⟩:=ty.inv
  obtain⟨e,h1,h2,_⟩:=cS (s:=s) (by lia:A.units+80 < cLine) tx t e1 e2 sh
  refine SeqAt.notIn_tupleAt e ⟨_,g,rfl,0,rfl⟩ h1 ?_
  rw[h2];exact Post.here R (.bool _) q
 | inF e1 e2 sh q =>
  obtain⟨_,_,_,rfl,g,f,t⟩:=ty.inv
  obtain⟨e,h1,h2,_⟩:=cS (s:=s) (by lia:A.units+80 < cLine) tx t e1 e2 sh
  refine SeqAt.in_listAt e (isList g) h1 ?_
  rw[h2];exact Post.here R (.bool _) q
 | ninF e1 e2 sh q =>
  obtain⟨_,_,_,rfl,g,f,t⟩:=ty.inv
  obtain⟨e,h1,h2,_⟩:=cS (s:=s) (by lia:A.units+80 < cLine) tx t e1 e2 sh
  refine SeqAt.notIn_listAt e (isList g) h1 ?_
  rw[h2];exact Post.here R (.bool _) q
 | inD g hk q=>obtain⟨rfl,hl⟩:=ty.inv;exact (dk R (by lia) g tx hk).isIn ok q
 | ninD g hk q=>obtain⟨rfl,hl⟩:=ty.inv;exact (dk R (by lia) g tx hk).notIn ok q
 | inL g e1 e2 sh q =>
  obtain⟨rfl,hl⟩:=ty.inv
  obtain⟨_,_,g,t⟩:=(R.obj _ _ g).inv
  obtain⟨e,h1,h2,_⟩:=cS (s:=s) (by lia:A.units+80 < cLine) tx t e1 e2 sh
  refine SeqAt.in_listAt e (isList g) h1 ?_
  rw[h2];exact Post.here R (.bool _) q
 | inR q =>
  obtain⟨_,rfl⟩:=tx.inv
  obtain⟨_,_,_,_,rfl,e,f⟩:=ty.inv
  exact sQ e (Post.here R (.bool _) q)
 | ninL g e1 e2 sh q =>
  obtain⟨rfl,hl⟩:=ty.inv
  obtain⟨_,_,g,t⟩:=(R.obj _ _ g).inv
  obtain⟨e,h1,h2,_⟩:=cS (s:=s) (by lia:A.units+80 < cLine) tx t e1 e2 sh
  refine SeqAt.notIn_listAt e (isList g) h1 ?_
  rw[h2];exact Post.here R (.bool _) q
theorem truR{σ:St}{i:Nat}{k:Bool→Prop}(h:bp σ (.ref i) k):∃ l,σ[i]?=some (some (.list l))∧l.length≤1000000∧k (!l.isEmpty):=by
 change (match (σ[i]?:Option (Option AObj)) with | some (some (.list l))=>l.length≤1000000∧k (!l.isEmpty) | _=>False) at h
 cases e:σ[i]? with
 | none=>rw[e] at h;exact h.elim
 | some o =>
  rw[e] at h
  cases o with
  | none=>exact h.elim
  | some o=>cases o with
   | list l=>exact⟨l,rfl,h⟩
   | _=>exact h.elim
theorem mo{σ:St}{x:V}{P P':Bool→Prop}(h:bp σ x P)(k:∀ b,P b→P' b):bp σ x P':=by
 cases x with
 | bool=>exact k _ h
 | int=>exact k _ h
 | none=>exact k _ h
 | fl=>exact⟨h.1,k _ h.2⟩
 | ref =>
  obtain⟨l,e,h⟩:=truR h
  change (match (σ[_]?:Option (Option AObj)) with | some (some (.list l))=>l.length≤1000000∧P' (!l.isEmpty) | _=>False)
  rw[e]
  exact⟨h.1,k _ h.2⟩
 | _=>exact h.elim
theorem gj{u:Value}{x:V}{Q:Bool→St→Prop}(R:Rel c X σ μ s.heap)(tx:VRσ X σ μ s.heap u x)(h:bp σ x (Q · σ)):wpAny c.M A (truthy u) (Post c RB X σ μ s Q) Bot s:=by
 have lst:∀ {a:Addr} {items:List Value} {n:Nat} {l:List V},s.heap.get? a=some (listO items n)→VRs s.heap (Sx X σ μ) μ σ.length items l→l.length≤1000000→Q (!l.isEmpty) σ→wpAny c.M A (truthy (.ref a)) (Post c RB X σ μ s Q) Bot s:=fun {a items n l} g t hl q=>by
  have e:=t.length
  refine wpAny_truthy_list (isList g) (by simp only[List.size_toArray];lia) ?_
  have:items.toArray.isEmpty=l.isEmpty:=by cases t<;>rfl
  rw[this]
  exact Post.tok R rfl q
 cases x with
 | bool=>obtain rfl:=tx.inv;exact wpAny_truthy_bool (Post.here R rfl h)
 | int=>obtain⟨_,rfl⟩:=tx.inv;exact truthy_int (Post.here R rfl h)
 | none=>obtain rfl:=tx.inv;exact fun Γ p hΓ=>Post.here R rfl h
 | fl=>obtain⟨_,_,_,rfl,g,f,t⟩:=tx.inv;exact lst g t h.1 h.2
 | ref=>obtain⟨l,g,h⟩:=truR h;obtain⟨rfl,hl⟩:=tx.inv;obtain⟨_,_,g,t⟩:=(R.obj _ _ g).inv;exact lst g t h.1 h.2
 | _=>exact h.elim
end
end
section
section
variable{c:Ctx}{Γ:Gm}
noncomputable def au(op:Operator)(a b:ME V):ME V:=fun d ρ σ Q=>a d ρ σ fun x σ=>b d ρ σ fun y σ=>opP σ op x y (Q · σ)
theorem pV{op:Operator}{l r:Expr}{a b:ME V}{pos:Pos}(ha:SimE c Γ l a)(hb:SimE c Γ r b):SimE c Γ (.BinOp l op r pos) (au op a b):=by
 intro A d X bs env F ρ σ μ s Q hA R E h
 refine wpAny_BinOp (aC (ha A d X bs env F ρ σ μ s _ hA R E h) fun u x σ₁ μ₁ s₁ q R₁ t₁ e₁ g₁ o₁=>aC (hb A d X bs env F ρ σ₁ μ₁ s₁ _ hA R₁ (E.mono e₁) q) fun v y σ₂ μ₂ s₂ q₂ R₂ t₂ e₂ g₂ o₂=>?_)
 exact aV (e₁.trans e₂) (g₂.trans g₁) (o₂.trans o₁) (yy R₂ (t₁.mono e₂) t₂ q₂)
noncomputable def bW(a:ME V):ME V:=fun d ρ σ Q=>a d ρ σ fun x σ=>onS x.int? fun i=>Q (.int (-i)) σ
theorem tO{e:Expr}{a:ME V}{pos:Pos}(ha:SimE c Γ e a):SimE c Γ (.UnaryOp .USub e pos) (bW a):=by
 intro A d X bs env F ρ σ μ s Q hA R E h
 refine wpAny_UnaryOp (aC (ha A d X bs env F ρ σ μ s _ hA R E h) fun u x σ₁ μ₁ s₁ q R₁ t₁ e₁ g₁ o₁=>?_)
 obtain⟨i,e,q⟩:=br q
 cases dI e
 cases t₁;exact aV e₁ g₁ o₁ (neg_int (Post.tok R₁ (.int _ _) q))
noncomputable def fG(a:ME V):ME V:=fun d ρ σ Q=>a d ρ σ fun x σ=>bp σ x fun b=>Q (.bool (!b)) σ
theorem t9{e:Expr}{a:ME V}{pos:Pos}(ha:SimE c Γ e a):SimE c Γ (.UnaryOp .Not e pos) (fG a):=by
 intro A d X bs env F ρ σ μ s Q hA R E h
 refine wpAny_UnaryOp (aC (ha A d X bs env F ρ σ μ s _ hA R E h) fun u x σ₁ μ₁ s₁ q R₁ t₁ e₁ g₁ o₁=>?_)
 refine aV e₁ g₁ o₁ (not_value (aC (gj (Q:=fun b σ=>σ=σ₁∧Q (.bool (!b)) σ) R₁ t₁ ?_) fun b b' σ₂ μ₂ s₂ q₂ R₂ t₂ e₂ g₂ o₂=>?_))
 ·exact mo q fun b q=>⟨rfl,q⟩
 ·obtain⟨rfl,q₂⟩:=q₂
  cases t₂
  exact⟨_,_,μ₂,q₂,R₂,.bool _,e₂,g₂,o₂⟩
noncomputable def aH(a:ME V):ME Bool:=fun d ρ σ Q=>a d ρ σ fun x σ=>bp σ x (Q · σ)
theorem wD{e:Expr}{a:ME V}(ha:SimE c Γ e a)(he:∀ env whole,isTrue e env whole=(do let v ← whole;standAt e.pos;holding [v] (truthy v))):SimT c Γ e (aH a):=by
 intro A d X bs env F ρ σ μ s Q hA R E h
 refine wpAny_isTrue_value (aC (ha A d X bs env F ρ σ μ s _ hA R E h) fun u x σ₁ μ₁ s₁ q R₁ t₁ e₁ g₁ o₁=>?_) (he _ _)
 exact aV e₁ g₁ o₁ (gj R₁ t₁ q)
noncomputable def dg(a:ME Bool):ME Bool:=fun d ρ σ Q=>a d ρ σ fun b σ=>Q (!b) σ
theorem yV{e:Expr}{a:ME Bool}{pos:Pos}(ha:SimT c Γ e a):SimT c Γ (.UnaryOp .Not e pos) (dg a):=by
 intro A d X bs env F ρ σ μ s Q hA R E h
 refine wpAny_isTrue_Not (aC (ha A d X bs env F ρ σ μ s _ hA R E h) fun u x σ₁ μ₁ s₁ q R₁ t₁ e₁ g₁ o₁=>?_)
 cases t₁
 exact⟨_,_,μ₁,q,R₁,rfl,e₁,g₁,o₁⟩
noncomputable def an(op:CmpOp)(a b:ME V):ME Bool:=fun d ρ σ Q=>a d ρ σ fun x σ=>b d ρ σ fun y σ=>aF σ op x y (Q · σ)
theorem rO{op:CmpOp}{l r:Expr}{a b:ME V}{pos:Pos}(ok:c.Ok)(ha:SimE c Γ l a)(hb:SimE c Γ r b)(hm:behindInMarks op r=false):SimT c Γ (.Compare l [op] [r] pos) (an op a b):=by
 intro A d X bs env F ρ σ μ s Q hA R E h
 have hu:=hA.units
 refine wpAny_isTrue_Compare1 (aC (ha A d X bs env F ρ σ μ s _ hA R E h) fun u x σ₁ μ₁ s₁ q R₁ t₁ e₁ g₁ o₁=>aC (hb A d X bs env F ρ σ₁ μ₁ s₁ _ hA R₁ (E.mono e₁) q) fun v y σ₂ μ₂ s₂ q₂ R₂ t₂ e₂ g₂ o₂=>?_) hm
 refine aC (dR (Q:=fun z σ'=>∃ b,z=.bool b∧Q b σ') ok R₂ (by lia) (t₁.mono e₂) t₂ (eJ (d6 q₂) fun b q=>⟨b,rfl,q⟩)) fun v y σ₃ μ₃ s₃ q₃ R₃ t₃ e₃ g₃ o₃=>?_
 obtain⟨b,rfl,q₃⟩:=q₃
 cases t₃
 exact aV (e₁.trans (e₂.trans e₃)) (g₃.trans (g₂.trans g₁)) (o₃.trans (o₂.trans o₁)) (wpAny_truthy_bool (Post.here R₃ rfl q₃))
noncomputable def bl(op:CmpOp)(a b:ME V):ME V:=fun d ρ σ Q=>a d ρ σ fun x σ=>b d ρ σ fun y σ=>aF σ op x y fun b=>Q (.bool b) σ
theorem xB{op:CmpOp}{l r:Expr}{a b:ME V}{pos:Pos}(ok:c.Ok)(ha:SimE c Γ l a)(hb:SimE c Γ r b)(hm:behindInMarks op r=false):SimE c Γ (.Compare l [op] [r] pos) (bl op a b):=by
 intro A d X bs env F ρ σ μ s Q hA R E h
 have hu:=hA.units
 refine wpAny_Compare1 (aC (ha A d X bs env F ρ σ μ s _ hA R E h) fun u x σ₁ μ₁ s₁ q R₁ t₁ e₁ g₁ o₁=>aC (hb A d X bs env F ρ σ₁ μ₁ s₁ _ hA R₁ (E.mono e₁) q) fun v y σ₂ μ₂ s₂ q₂ R₂ t₂ e₂ g₂ o₂=>?_) hm
 exact aV (e₁.trans e₂) (g₂.trans g₁) (o₂.trans o₁) (dR ok R₂ (by lia) (t₁.mono e₂) t₂ (d6 q₂))
noncomputable def aR{α:Type}(t:ME Bool)(a b:ME α):ME α:=fun d ρ σ Q=>t d ρ σ fun z σ=>if z then a d ρ σ Q else b d ρ σ Q
theorem wl{t a b:Expr}{mt:ME Bool}{ma mb:ME V}{pos:Pos}(ht:SimT c Γ t mt)(ha:SimE c Γ a ma)(hb:SimE c Γ b mb):SimE c Γ (.IfExp t a b pos) (aR mt ma mb):=by
 intro A d X bs env F ρ σ μ s Q hA R E h
 refine wpAny_IfExp (aC (ht A d X bs env F ρ σ μ s _ hA R E h) fun u x σ₁ μ₁ s₁ q R₁ t₁ e₁ g₁ o₁=>?_)
 cases t₁
 cases u
 ·exact aV e₁ g₁ o₁ (hb A d X bs env F ρ σ₁ μ₁ s₁ _ hA R₁ (E.mono e₁) q)
 ·exact aV e₁ g₁ o₁ (ha A d X bs env F ρ σ₁ μ₁ s₁ _ hA R₁ (E.mono e₁) q)
noncomputable def SimTs(c:Ctx)(Γ:Gm)(op:BoolOp)(es:List Expr)(m:ME Bool):Prop:=∀ A d X bs env F ρ σ μ s Q,Room A d→Rel c X σ μ s.heap→EnvR c X Γ bs env F ρ σ μ s.heap→m d ρ σ Q→wpAny c.M A (allTrue op es env) (Post c RB X σ μ s Q) Bot s
noncomputable def aE(a b:ME Bool):ME Bool:=fun d ρ σ Q=>a d ρ σ fun z σ=>if z then b d ρ σ Q else Q false σ
noncomputable def orM(a b:ME Bool):ME Bool:=fun d ρ σ Q=>a d ρ σ fun z σ=>if z then Q true σ else b d ρ σ Q
noncomputable def aD(b:Bool):ME Bool:=fun _ _ σ Q=>Q b σ
theorem yS:SimTs c Γ .And [] (aD true):=fun _ _ _ _ _ _ _ _ _ _ _ _ R _ h=>wpAny_allTrue_And_nil (Post.here R rfl h)
theorem sZ:SimTs c Γ .Or [] (aD false):=fun _ _ _ _ _ _ _ _ _ _ _ _ R _ h=>wpAny_allTrue_Or_nil (Post.here R rfl h)
theorem rk{e:Expr}{es:List Expr}{a b:ME Bool}(ha:SimT c Γ e a)(hb:SimTs c Γ .And es b):SimTs c Γ .And (e::es) (aE a b):=by
 intro A d X bs env F ρ σ μ s Q hA R E h
 refine wpAny_allTrue_And_cons (aC (ha A d X bs env F ρ σ μ s _ hA R E h) fun u x σ₁ μ₁ s₁ q R₁ t₁ e₁ g₁ o₁=>?_)
 cases t₁
 cases u
 ·exact⟨_,_,μ₁,q,R₁,rfl,e₁,g₁,o₁⟩
 ·exact aV e₁ g₁ o₁ (hb A d X bs env F ρ σ₁ μ₁ s₁ _ hA R₁ (E.mono e₁) q)
theorem tA{e:Expr}{es:List Expr}{a b:ME Bool}(ha:SimT c Γ e a)(hb:SimTs c Γ .Or es b):SimTs c Γ .Or (e::es) (orM a b):=by
 intro A d X bs env F ρ σ μ s Q hA R E h
 refine wpAny_allTrue_Or_cons (aC (ha A d X bs env F ρ σ μ s _ hA R E h) fun u x σ₁ μ₁ s₁ q R₁ t₁ e₁ g₁ o₁=>?_)
 cases t₁
 cases u
 ·exact aV e₁ g₁ o₁ (hb A d X bs env F ρ σ₁ μ₁ s₁ _ hA R₁ (E.mono e₁) q)
 ·exact⟨_,_,μ₁,q,R₁,rfl,e₁,g₁,o₁⟩
theorem rP{op:BoolOp}{es:List Expr}{m:ME Bool}{pos:Pos}(h:SimTs c Γ op es m):SimT c Γ (.BoolOp op es pos) m :=
 fun A d X bs env F ρ σ μ s Q hA R E k=>wpAny_isTrue_BoolOp (h A d X bs env F ρ σ μ s Q hA R E k)
theorem yQ{t a b:Expr}{mt ma mb:ME Bool}{pos:Pos}(ht:SimT c Γ t mt)(ha:SimT c Γ a ma)(hb:SimT c Γ b mb):SimT c Γ (.IfExp t a b pos) (aR mt ma mb):=by
 intro A d X bs env F ρ σ μ s Q hA R E h
 rw[arm_isTrue_IfExp]
 refine wpAny_bind (aC (ht A d X bs env F ρ σ μ s _ hA R E h) fun u x σ₁ μ₁ s₁ q R₁ t₁ e₁ g₁ o₁=>?_)
 cases t₁
 cases u
 ·exact aV e₁ g₁ o₁ (hb A d X bs env F ρ σ₁ μ₁ s₁ _ hA R₁ (E.mono e₁) q)
 ·exact aV e₁ g₁ o₁ (ha A d X bs env F ρ σ₁ μ₁ s₁ _ hA R₁ (E.mono e₁) q)
noncomputable def SimVs(c:Ctx)(Γ:Gm)(op:BoolOp)(es:List Expr)(m:ME V):Prop:=∀ A d X bs env F ρ σ μ s Q pos,Room A d→Rel c X σ μ s.heap→EnvR c X Γ bs env F ρ σ μ s.heap→m d ρ σ Q→wpAny c.M A (boolOp pos op (evalEach es env)) (Post c RV X σ μ s Q) Bot s
noncomputable def iu(a b:ME V):ME V:=fun d ρ σ Q=>a d ρ σ fun x σ=>bp σ x fun z=>if z then b d ρ σ Q else Q x σ
noncomputable def nk(a b:ME V):ME V:=fun d ρ σ Q=>a d ρ σ fun x σ=>bp σ x fun z=>if z then Q x σ else b d ρ σ Q
theorem yb{op:BoolOp}{e:Expr}{a:ME V}(ha:SimE c Γ e a):SimVs c Γ op [e] a :=
 fun A d X bs env F ρ σ μ s Q _ hA R E h=>ha A d X bs env F ρ σ μ s Q hA R E h
theorem j9{A:Around}{X:Nat→Prop}{σ:St}{μ:Nat→Nat}{s:Shared}{u:Value}{x:V}{P:Bool→Prop}{Q:Bool→Shared→Prop}(R:Rel c X σ μ s.heap)(tx:VRσ X σ μ s.heap u x)(q:bp σ x P)
  (k:∀ b σ' μ' s',σ'=σ→P b→Rel c X σ' μ' s'.heap→Evσ X σ μ s.heap X σ' μ' s'.heap→s'.gens=s.gens→s'.os=s.os→Q b s'):wpAny c.M A (truthy u) Q Bot s:=by
 refine aC (gj (Q:=fun b σ'=>σ'=σ∧P b) R tx ?_) fun b b' σ₂ μ₂ s₂ q₂ R₂ t₂ e₂ g₂ o₂=>?_
 ·exact mo q fun b q=>⟨rfl,q⟩
 ·cases t₂
  exact k _ σ₂ μ₂ s₂ q₂.1 q₂.2 R₂ e₂ g₂ o₂
set_option backward.match.sparseCases true in
theorem qV{e f:Expr}{es:List Expr}{a b:ME V}(ha:SimE c Γ e a)(hb:SimVs c Γ .And (f::es) b):SimVs c Γ .And (e::f::es) (iu a b):=by
 intro A d X bs env F ρ σ μ s Q pos hA R E h
 show wpAny c.M A (do let v ← eval e env;standAt pos;let t ← holding [v] (truthy v);match BoolOp.And,t with | .And,false | .Or,true=>pure v | _,_=>boolOp pos .And (evalEach (f::es) env)) _ _ _
 refine wpAny_bind (aC (ha A d X bs env F ρ σ μ s _ hA R E h) fun u x σ₁ μ₁ s₁ q R₁ t₁ e₁ g₁ o₁=>?_)
 refine wpAny_bind (wpAny_standAt (wpAny_bind (wpAny_holding (j9 R₁ t₁ q ?_))))
 rintro b σ₂ μ₂ s₂ rfl q₂ R₂ e₂ g₂ o₂
 cases b
 ·exact wpAny_pure ⟨_,_,μ₂,q₂,R₂,t₁.mono e₂,e₁.trans e₂,g₂.trans g₁,o₂.trans o₁⟩
 ·exact aV (e₁.trans e₂) (g₂.trans g₁) (o₂.trans o₁) (hb A d X bs env F ρ _ μ₂ s₂ _ pos hA R₂ ((E.mono e₁).mono e₂) q₂)
set_option backward.match.sparseCases true in
theorem xk{e f:Expr}{es:List Expr}{a b:ME V}(ha:SimE c Γ e a)(hb:SimVs c Γ .Or (f::es) b):SimVs c Γ .Or (e::f::es) (nk a b):=by
 intro A d X bs env F ρ σ μ s Q pos hA R E h
 show wpAny c.M A (do let v ← eval e env;standAt pos;let t ← holding [v] (truthy v);match BoolOp.Or,t with | .And,false | .Or,true=>pure v | _,_=>boolOp pos .Or (evalEach (f::es) env)) _ _ _
 refine wpAny_bind (aC (ha A d X bs env F ρ σ μ s _ hA R E h) fun u x σ₁ μ₁ s₁ q R₁ t₁ e₁ g₁ o₁=>?_)
 refine wpAny_bind (wpAny_standAt (wpAny_bind (wpAny_holding (j9 R₁ t₁ q ?_))))
 rintro b σ₂ μ₂ s₂ rfl q₂ R₂ e₂ g₂ o₂
 cases b
 ·exact aV (e₁.trans e₂) (g₂.trans g₁) (o₂.trans o₁) (hb A d X bs env F ρ _ μ₂ s₂ _ pos hA R₂ ((E.mono e₁).mono e₂) q₂)
 ·exact wpAny_pure ⟨_,_,μ₂,q₂,R₂,t₁.mono e₂,e₁.trans e₂,g₂.trans g₁,o₂.trans o₁⟩
theorem xU{op:BoolOp}{es:List Expr}{m:ME V}{pos:Pos}(h:SimVs c Γ op es m):SimE c Γ (.BoolOp op es pos) m :=
 fun A d X bs env F ρ σ μ s Q hA R E k=>by rw[arm_eval_BoolOp];exact h A d X bs env F ρ σ μ s Q pos hA R E k
end
end
section
section
variable{c:Ctx}{Γ:Gm}
noncomputable def bA(l:List V)(i:Int)(k:V→Prop):Prop :=
 if 0≤i then i < 4000000000∧∃ y,l[i.toNat]?=some y∧k y else -4000000000≤i∧0≤i+l.length∧∃ y,l[(i+l.length).toNat]?=some y∧k y
noncomputable def de(σ:St)(x i:V)(k:V→Prop):Prop:=match x with
 | .fl l=>onS i.int? (bA l · k)
 | .tup l=>onS i.int? (bA l · k)
 | .ref j=>(lsAt σ j).elim (onS (dcAt σ j) fun kvs=>aY kvs i∧∃ y,dget kvs i=some y∧k y) fun l=>onS i.int? (bA l · k)
 | _=>False
section
variable{A:Around}{X:Nat→Prop}{σ:St}{μ:Nat→Nat}{s:Shared}
theorem mI{a:Addr}{items:List Value}{n:Nat}{l:List V}{i:Int}{t:Tok}{Q:V→St→Prop}(R:Rel c X σ μ s.heap)(g:s.heap.get? a=some (listO items n))(tl:VRs s.heap (Sx X σ μ) μ σ.length items l)(h:bA l i (Q · σ)) :
  wpAny c.M A (getItem (.ref a) (.int i t)) (Post c RV X σ μ s Q) Bot s:=by
 have e:=tl.length
 unfold bA at h
 split at h
 ·obtain⟨h1,y,h2,q⟩:=h
  obtain⟨v,hv,tv⟩:=tl.get h2
  exact wpAny_getItem_list (isList g) (by assumption) (by lia) (by simpa using hv) (Post.here R tv q)
 ·obtain⟨h1,h3,y,h2,q⟩:=h
  obtain⟨v,hv,tv⟩:=tl.get h2
  exact wpAny_getItem_list_neg (isList g) (by lia) (by simp only[List.size_toArray];lia) (by lia) (by simpa [e] using hv) (Post.here R tv q)
theorem qt{a:Addr}{items:List Value}{l:List V}{i:Int}{t:Tok}{Q:V→St→Prop}(R:Rel c X σ μ s.heap)(g:s.heap.get? a=some (tupO items))(tl:VRs s.heap (Sx X σ μ) μ σ.length items l)(h:bA l i (Q · σ)) :
  wpAny c.M A (getItem (.ref a) (.int i t)) (Post c RV X σ μ s Q) Bot s:=by
 have e:=tl.length
 have lt:∀ {j:Nat} {y:V},l[j]?=some y→j < items.length:=fun h=>by rw[e];exact (List.getElem?_eq_some_iff.mp h).1
 unfold bA at h
 split at h
 ·obtain⟨h1,y,h2,q⟩:=h
  obtain⟨v,hv,tv⟩:=tl.get h2
  have:=lt h2
  exact PyProof.Rows.getItem_tuple ⟨_,g,rfl,0,rfl⟩ (by lia) (by lia) (j:=i.toNat) (by simp[seqIndex?];lia) (by simpa using hv) (Post.here R tv q)
 ·obtain⟨h1,h3,y,h2,q⟩:=h
  obtain⟨v,hv,tv⟩:=tl.get h2
  have:=lt h2
  refine PyProof.Rows.getItem_tuple ⟨_,g,rfl,0,rfl⟩ (by lia) (by lia) (j:=(i+l.length).toNat) ?_ (by simpa [e] using hv) (Post.here R tv q)
  simp only[seqIndex?,List.size_toArray,e]
  rw[if_pos (by lia:i < 0),if_pos (by simp;lia)]
theorem yv{u v:Value}{x i:V}{Q:V→St→Prop}(R:Rel c X σ μ s.heap)(hA:A.units+100≤cLine)(tx:VRσ X σ μ s.heap u x)(ti:VRσ X σ μ s.heap v i)(h:de σ x i (Q · σ)) :
  (∃ T id,typeLookup (.type T) "__getitem__"=pure (some (.builtin id))∧s.TypeIs u T)∧wpAny c.M A (getItem u v) (Post c RV X σ μ s Q) Bot s:=by
 cases x with
 | fl =>
  obtain⟨i,e,h⟩:=br h
  cases dI e
  cases ti;obtain⟨_,_,_,rfl,g,f,t⟩:=tx.inv;exact⟨⟨_,_,slot_list_getitem.lookup,⟨_,g,rfl⟩⟩,mI R g t h⟩
 | tup =>
  obtain⟨i,e,h⟩:=br h
  cases dI e
  cases ti;obtain⟨_,_,rfl,g,f,t⟩:=tx.inv;exact⟨⟨_,_,slot_tuple_getitem.lookup,⟨_,g,rfl⟩⟩,qt R g t h⟩
 | ref j =>
  obtain⟨rfl,hl⟩:=tx.inv
  change (lsAt σ j).elim _ _ at h
  cases e:lsAt σ j with
  | some l =>
   rw[e] at h
   obtain⟨i,e',h⟩:=br h
   cases dI e'
   cases ti;obtain⟨_,_,g,t⟩:=(R.obj _ _ (gH e)).inv;exact⟨⟨_,_,slot_list_getitem.lookup,⟨_,g,rfl⟩⟩,mI R g t h⟩
  | none =>
   rw[e] at h
   obtain⟨kvs,e',h1,y,h2,q⟩:=br h
   have g:=n9 e'
   refine⟨?_,(dk R (by lia) g ti h1).get h2 q⟩
   obtain⟨_,_,g,_,_,_⟩:=(R.obj _ _ g).inv;exact⟨_,_,slot_dict_getitem.lookup,⟨_,g,rfl⟩⟩
 | _=>exact h.elim
end
noncomputable def aq(a b:ME V):ME V:=fun d ρ σ Q=>a d ρ σ fun x σ=>b d ρ σ fun i σ=>de σ x i (Q · σ)
theorem yx{e i:Expr}{a b:ME V}{pos:Pos}(ha:SimE c Γ e a)(hb:SimE c Γ i b)(hs:∀ o v,subscripted i false o v=operate [o,v] (getItem o v)):SimE c Γ (.Subscript e i pos) (aq a b):=by
 intro A d X bs env F ρ σ μ s Q hA R E h
 have hu:=hA.units
 rw[eval_Subscript]
 refine wpAny_bind (aC (ha A d X bs env F ρ σ μ s _ hA R E h) fun u x σ₁ μ₁ s₁ q R₁ t₁ e₁ g₁ o₁=>wpAny_bind (wpAny_holding (aC (hb A d X bs env F ρ σ₁ μ₁ s₁ _ hA R₁ (E.mono e₁) q) fun v y σ₂ μ₂ s₂ q₂ R₂ t₂ e₂ g₂ o₂=>wpAny_bind (wpAny_standAt ?_))))
 obtain⟨⟨T,id,hl,hT⟩,w⟩:=yv (A:=A) R₂ (by lia) (t₁.mono e₂) t₂ q₂
 have w:=aV (e₁.trans e₂) (g₂.trans g₁) (o₂.trans o₁) w
 refine wpAny_bind ?_
 rw[getitemInPython_of_ne hT.not_modules]
 refine wpAny_bind (wpAny_specialOf hT hl ?_)
 have fin:wpAny c.M A (subscripted i false u v) (fun r s₃=>wpAny c.M A (letTemporaryGo e u r >>= fun _=>pure r) (Post c RV X σ μ s Q) Bot s₃) Bot s₂:=by
  rw[hs]
  exact wpAny_operating (wpAny_mono w (fun r s₃ h₃=>wpAny_bind (wpAny_letTemporaryGo (wpAny_pure h₃))) fun _ _ x=>x)
 first
  | exact wpAny_pure (wpAny_bind fin)
  | exact wpAny_bind (wpAny_pure (wpAny_bind fin))
  | exact wpAny_bind fin
noncomputable def attrOk(K:Frag)(C:Addr)(name:Str):Bool:=plainGet K C name&&hasDictIn K C&&(match findIn K (.ref C) name with | some a=>noGet K a | none=>false)
noncomputable def attrG(P:Nat→Bool)(name:Str)(σ:St)(x:V):Option V:=match x with
 | .inst C i=>cond (P C) ((nsAt σ i).bind fun kvs=>kvs.lookup name) none
 | _=>none
theorem zh{P:Nat→Bool}{name:Str}{σ:St}{x y:V}(h:attrG P name σ x=some y):∃ C i kvs,x=.inst C i∧P C=true∧σ[i]?=some (some (.ns kvs))∧kvs.lookup name=some y:=by
 cases x with
 | inst C i =>
  change cond (P C) _ _=_ at h
  cases e:P C with
  | false=>rw[e] at h;cases h
  | true =>
   rw[e] at h
   obtain⟨kvs,h1,h2⟩:=Option.bind_eq_some_iff.mp h
   exact⟨C,i,kvs,rfl,e,fV h1,h2⟩
 | _=>cases h
noncomputable def am(P:Nat→Bool)(name:Str)(a:ME V):ME V:=fun d ρ σ Q=>a d ρ σ fun x σ=>onS (attrG P name σ x) fun y=>Q y σ
theorem NR.get{h:Heap}{S:Nat→Prop}{μ:Nat→Nat}{n:Nat}{es:List DictEntry}{kvs:List (Str×V)}(x:NR h S μ n es kvs)(name:Str) :
  match kvs.lookup name with
  | some y=>∃ v,getL name es=some (some v)∧VR h S μ n v y
  | none=>getL name es=some none:=by
 have hany:es.any (·.refKey)=false:=by
  induction x with
  | nil=>rfl
  | cons a _ _ ih=>rw[List.any_cons,ih];simp[DictEntry.refKey,a]
 unfold getL
 rw[hany]
 clear hany
 induction x with
 | nil=>rfl
 | @cons e k t x es kvs a b r ih =>
  have hi:e.key.isStr name=(k==name):=by rw[a];rfl
  simp only[List.lookup_cons,List.find?_cons,hi]
  by_cases h:k=name
  ·subst h;simp only[beq_self_eq_true];exact⟨_,rfl,b⟩
  ·rw[beq_eq_false_iff_ne.mpr h,beq_eq_false_iff_ne.mpr fun e=>h e.symm];exact ih
theorem qQ{X:Nat→Prop}{σ:St}{μ:Nat→Nat}{h:Heap}{v:Value}{y:V}(t:VRσ X σ μ h v y):handedIn v=true:=by
 cases t<;>first | rfl | assumption
theorem xY{e:Expr}{name:Str}{a:ME V}{P:Nat→Bool}{pos:Pos}(ok:c.Ok)(ha:SimE c Γ e a)(hc:∀ C,P C=true→attrOk c.K C name=true)(hb:∀ env t,attributeBase e name env t=t) :
  SimE c Γ (.Attribute e name pos) (am P name a):=by
 intro A d X bs env F ρ σ μ s Q hA R E h
 rw[arm_eval_Attribute,hb]
 refine wpAny_bind (aC (ha A d X bs env F ρ σ μ s _ hA R E h) fun u x σ₁ μ₁ s₁ q R₁ t₁ e₁ g₁ o₁=>wpAny_bind (wpAny_standAt ?_))
 replace q:=br q
 obtain⟨y,hg,q⟩:=q
 obtain⟨C,i,kvs,rfl,hP,g,hy⟩:=zh hg
 obtain⟨ad,rfl,go,f,hl⟩:=t₁.inv
 cases R₁.obj _ _ g with | ns hn hx =>
 have hz:=hx.get name
 rw[hy] at hz
 obtain⟨v,hv,tv⟩:=hz
 rename_i es' k'
 have hok:=hc C hP
 simp only[attrOk,Bool.and_eq_true] at hok
 obtain⟨⟨k1,k2⟩,k3⟩:=hok
 cases hf:findIn c.K (.ref C) name with
 | none=>rw[hf] at k3;cases k3
 | some at' =>
  rw[hf] at k3
  have I:InstAt s₁.heap ad (instObj C (μ₁ i)) C (some (dictOf es' k')):=⟨go,rfl,rfl,hn⟩
  refine wpAny_bind (wpAny_holding (get_value (ok.K.keeps R₁.base) I (plainGet_of k1).1 (findObj_own k2 hf k3 (by rw[lookIn_dict];exact hv)) ?_ ?_))
  ·exact qQ tv
  ·exact wpAny_bind (wpAny_letTemporaryGo (wpAny_pure ((Post.tok R₁ tv q).after e₁ g₁ o₁)))
end
end
section
section
variable{c:Ctx}{Γ:Gm}
noncomputable def CallT(c:Ctx)(f:Value)(d:Nat)(args:List V)(σ:St)(Q:V→St→Prop):Prop :=
 ∀ A X μ s vs,Room A d→Rel c X σ μ s.heap→VRs s.heap (Sx X σ μ) μ σ.length vs args→wpAny c.M A (call f vs) (Post c RV X σ μ s Q) Bot s
theorem CallT.mono{f:Value}{d:Nat}{args:List V}{σ:St}{Q Q':V→St→Prop}(h:CallT c f d args σ Q)(k:∀ x σ',Q x σ'→Q' x σ'):CallT c f d args σ Q' :=
 fun A X μ s vs hA R t=>wpAny_mono (h A X μ s vs hA R t) (fun _ _ ⟨x,σ',μ',q,R',t',e',g',o'⟩=>⟨x,σ',μ',k _ _ q,R',t',e',g',o'⟩) fun _ _ e=>e
noncomputable def keepOk(K:Frag)(f:Value):Bool:=match f with
 | .ref _=>keepIn K f
 | _=>true
theorem fv(ok:c.Ok){f:Value}(hk:keepOk c.K f=true)(h:Heap)(X:∀ b o,c.h0.get? b=some o→h.get? b=some o):∃ k,(k=Keeper.frame∨k=Keeper.machine∨k=Keeper.boundFrame)∧Looks c.M h (keeperOf f) k:=by
 cases f with
 | ref a=>exact keeps_K (K:=c.K) (f:=.ref a) hk h (ok.K.keeps X)
 | _=>exact⟨.machine,.inr (.inl rfl),.now⟩
theorem gm{M:Model}{A:Around}{s:Shared}{E:Value→Shared→Prop}{f:Value}{Q:Args→Shared→Prop}(h:wpAny M A (spliced []) (fun vs s'=>Q ⟨vs,[]⟩ s') E s):wpAny M A (evalArgs f true [] []) Q E s:=by
 unfold evalArgs
 show wpAny M A (spliced [] >>= _) Q E s
 refine wpAny_bind (wpAny_mono h (fun vs s' h'=>?_) fun _ _ x=>x)
 refine wpAny_holding ?_
 exact wpAny_bind (wpAny_pure (wpAny_bind (wpAny_pure (wpAny_pure h'))))
theorem gp{A:Around}{d:Nat}{X:Nat→Prop}{bs:Nat}{env:Env}{F:Nat→Prop}{ρ:Env'}{σ:St}{μ:Nat→Nat}{s:Shared}{f:Value}{first:List Value}{fs:List V}{args:List Expr}{b:ME (List V)}{pos:Pos}{Q:V→St→Prop}
  (ok:c.Ok) (hk:keepOk c.K f=true) (hb:SimEs c Γ args b) (hp:(backTo pos (starEach args env)).any (·.1)=false) (hA:Room A d) (R:Rel c X σ μ s.heap) (E:EnvR c X Γ bs env F ρ σ μ s.heap) (tf:VRs s.heap (Sx X σ μ) μ σ.length first fs)
  (h:b d ρ σ fun xs σ=>CallT c f d (fs++xs) σ Q):wpAny c.M A (callWith pos f first (backTo pos (starEach args env)) []) (Post c RV X σ μ s Q) Bot s:=by
 have key:wpAny c.M A (spliced (backTo pos (starEach args env))) (fun vs s₁=>(∀ b o,c.h0.get? b=some o→s₁.heap.get? b=some o)∧wpAny c.M A (call f (first++vs)) (Post c RV X σ μ s Q) Bot s₁) Bot s :=
  aC (hb A d X bs env F ρ σ μ s _ pos hA R E h) fun vs xs σ₁ μ₁ s₁ q R₁ t₁ e₁ g₁ o₁=>⟨R₁.base,aV e₁ g₁ o₁ (q A X μ₁ s₁ _ hA R₁ ((tf.mono e₁).append t₁))⟩
 cases hargs:backTo pos (starEach args env) with
 | nil =>
  rw[hargs] at key
  exact callWith_of rfl (fun h' X'=>fv ok hk h' X') (gm key)
 | cons z zs =>
  obtain⟨st,x⟩:=z
  rw[hargs] at hp key
  simp only[List.any_cons,Bool.or_eq_false_iff] at hp
  obtain⟨hst,hz⟩:=hp
  subst hst
  exact callWith_of (by simp[hz]) (fun h' X'=>fv ok hk h' X') (evalArgs_plain key)
noncomputable def ay(c:Ctx)(f:Value)(b:ME (List V)):ME V:=fun d ρ σ Q=>b d ρ σ fun xs σ=>CallT c f d xs σ Q
theorem qP{x:Str}{f:Value}{args:List Expr}{b:ME (List V)}{p pos:Pos}(ok:c.Ok)(hf:c.mg x=some f∨(c.mg x=none∧c.mb x=some f))(hk:keepOk c.K f=true)(hb:SimEs c Γ args b)
  (hx:Γ.lookup x=some none) (hp:∀ env,(backTo pos (starEach args env)).any (·.1)=false) (hd:(x==("__debug__":Str))=false):SimE c Γ (.Call (.Name x p) args [] pos) (ay c f b):=by
 intro A d X bs env F ρ σ μ s Q hA R E h
 refine wpAny_Call_NameR (wpAny_Name (eX ok R E hx hf ?_) hd)
 exact gp (first:=[]) (fs:=[]) ok hk hb (hp env) hA R E .nil h
noncomputable def methOk(K:Frag)(C:Addr)(name:Str)(f:Addr):Bool:=plainGet K C name&&findIn K (.ref C) name==some (some (.ref f))&&isFn K (.ref f)&&keepIn K (.ref f)
noncomputable def methG(T:Nat→Option Addr)(name:Str)(σ:St)(x:V):Option Addr:=match x with
 | .inst C i=>(nsAt σ i).bind fun kvs=>cond (kvs.lookup name).isNone (T C) none
 | _=>none
theorem yz{T:Nat→Option Addr}{name:Str}{σ:St}{x:V}{f:Addr}(h:methG T name σ x=some f):∃ C i kvs,x=.inst C i∧T C=some f∧σ[i]?=some (some (.ns kvs))∧kvs.lookup name=none:=by
 cases x with
 | inst C i =>
  obtain⟨kvs,h1,h2⟩:=Option.bind_eq_some_iff.mp h
  cases e:kvs.lookup name with
  | none=>rw[e] at h2;exact⟨C,i,kvs,rfl,h2,fV h1,e⟩
  | some y=>rw[e] at h2;cases h2
 | _=>cases h
noncomputable def ai(c:Ctx)(T:Nat→Option Addr)(name:Str)(a:ME V)(b:ME (List V)):ME V:=fun d ρ σ Q=>a d ρ σ fun x σ=>onS (methG T name σ x) fun f=>b d ρ σ fun xs σ=>CallT c (.ref f) d (x::xs) σ Q
theorem rd{e:Expr}{name:Str}{T:Nat→Option Addr}{args:List Expr}{a:ME V}{b:ME (List V)}{apos pos:Pos}(ok:c.Ok)(ha:SimE c Γ e a)(hc:∀ C f,T C=some f→methOk c.K C name f=true)(hb:SimEs c Γ args b)
  (hp:∀ env,(backTo pos (starEach args env)).any (·.1)=false)
  (he:∀ env,eval (.Call (.Attribute e name apos) args [] pos) env=(do
   let ov ← eval e env
   standAt apos.atName
   let (f,first) ← holding [ov] (getMethod ov name (do return (← importBound e env).getD true))
   callWith pos f first (backTo pos (starEach args env)) [])):SimE c Γ (.Call (.Attribute e name apos) args [] pos) (ai c T name a b):=by
 intro A d X bs env F ρ σ μ s Q hA R E h
 rw[he]
 refine wpAny_bind (aC (ha A d X bs env F ρ σ μ s _ hA R E h) fun u x σ₁ μ₁ s₁ q R₁ t₁ e₁ g₁ o₁=>wpAny_bind (wpAny_standAt (wpAny_bind (wpAny_holding ?_))))
 replace q:=br q
 obtain⟨f,hg,q⟩:=q
 obtain⟨C,i,kvs,rfl,hT,g,hl⟩:=yz hg
 obtain⟨ad,rfl,go,ff,hi⟩:=t₁.inv
 cases R₁.obj _ _ g with | ns hn hx =>
 have hz:=hx.get name
 rw[hl] at hz
 rename_i es' k'
 have hok:=hc C f hT
 simp only[methOk,Bool.and_eq_true,beq_iff_eq] at hok
 obtain⟨⟨⟨k1,k2⟩,k3⟩,k4⟩:=hok
 have I:InstAt s₁.heap ad (instObj C (μ₁ i)) C (some (dictOf es' k')):=⟨go,rfl,rfl,hn⟩
 refine method_fn (ok.K.keeps R₁.base) I (plainGet_of k1).1 (plainGet_of k1).2 k2 (beq_iff_eq.mp k3) ?_ ?_
 ·show (lookIn name (dictOf es' k')).map _=_
  rw[lookIn_dict,hz];rfl
 ·exact aV e₁ g₁ o₁ (gp (first:=[.ref ad]) (fs:=[.inst C i]) ok k4 hb (hp env) hA R₁ (E.mono e₁) (.cons (.inst go ff hi) .nil) q)
noncomputable def tyP(σ:St)(x:V):Option String:=match x with
 | .fl _=>some "list"
 | .tup _=>some "tuple"
 | .int _=>some "int"
 | .str _=>some "str"
 | .ref i=>match σ[i]? with
  | some (some (.list _))=>some "list"
  | some (some (.dict _))=>some "dict"
  | _=>none
 | _=>none
theorem xS{X:Nat→Prop}{σ:St}{μ:Nat→Nat}{s:Shared}{u:Value}{x:V}{T:String}(R:Rel c X σ μ s.heap)(t:VRσ X σ μ s.heap u x)(h:tyP σ x=some T):s.TypeIs u T∧∀ a,u=.ref a→∃ o,s.heap.get? a=some o∧o.dict=none:=by
 cases x with
 | fl=>cases h;obtain⟨_,_,_,rfl,g,_,_⟩:=t.inv;exact⟨⟨_,g,rfl⟩,fun a e=>by cases e;exact⟨_,g,rfl⟩⟩
 | tup=>cases h;obtain⟨_,_,rfl,g,_,_⟩:=t.inv;exact⟨⟨_,g,rfl⟩,fun a e=>by cases e;exact⟨_,g,rfl⟩⟩
 | int=>cases h;obtain⟨_,rfl⟩:=t.inv;exact⟨rfl,fun a e=>by cases e⟩
 | str=>cases h;obtain⟨_,rfl⟩:=t.inv;exact⟨rfl,fun a e=>by cases e⟩
 | ref i =>
  obtain⟨rfl,_⟩:=t.inv
  replace h:(match (σ[i]?:Option (Option AObj)) with | some (some (.list _))=>some "list" | some (some (.dict _))=>some "dict" | _=>none)=some T:=h
  cases g:σ[i]? with
  | none=>rw[g] at h;cases h
  | some o=>rw[g] at h;cases o with
   | none=>cases h
   | some o=>cases o with
    | list=>cases h;obtain⟨_,_,g,_⟩:=(R.obj _ _ g).inv;exact⟨⟨_,g,rfl⟩,fun a e=>by cases e;exact⟨_,g,rfl⟩⟩
    | dict=>cases h;obtain⟨_,_,g,_,_,_⟩:=(R.obj _ _ g).inv;exact⟨⟨_,g,rfl⟩,fun a e=>by cases e;exact⟨_,g,rfl⟩⟩
    | ns=>cases h
 | _=>cases h
noncomputable def aW(c:Ctx)(T id:String)(a:ME V)(b:ME (List V)):ME V:=fun d ρ σ Q=>a d ρ σ fun x σ=>onB (tyP σ x==some T) (b d ρ σ fun xs σ=>CallT c (.builtin id) d (x::xs) σ Q)
theorem xe{e:Expr}{name:Str}{T id:String}{args:List Expr}{a:ME V}{b:ME (List V)}{apos pos:Pos}(ok:c.Ok)(ha:SimE c Γ e a)(pa:PlainAttrs T)(slot:Slot T name id)(hty:typeOf (.builtin id)=pure (.type "method_descriptor"))(hb:SimEs c Γ args b)
  (hp:∀ env,(backTo pos (starEach args env)).any (·.1)=false)
  (he:∀ env,eval (.Call (.Attribute e name apos) args [] pos) env=(do
   let ov ← eval e env
   standAt apos.atName
   let (f,first) ← holding [ov] (getMethod ov name (do return (← importBound e env).getD true))
   callWith pos f first (backTo pos (starEach args env)) [])):SimE c Γ (.Call (.Attribute e name apos) args [] pos) (aW c T id a b):=by
 intro A d X bs env F ρ σ μ s Q hA R E h
 rw[he]
 refine wpAny_bind (aC (ha A d X bs env F ρ σ μ s _ hA R E h) fun u x σ₁ μ₁ s₁ q R₁ t₁ e₁ g₁ o₁=>wpAny_bind (wpAny_standAt (wpAny_bind (wpAny_holding ?_))))
 replace q:=ez q
 obtain⟨hT,q⟩:=q
 obtain⟨h1,h2⟩:=xS R₁ t₁ (eq_of_beq hT)
 refine getMethod_builtin h1 pa slot hty h2 ?_
 exact aV e₁ g₁ o₁ (gp (first:=[u]) (fs:=[x]) ok rfl hb (hp env) hA R₁ (E.mono e₁) (.cons t₁ .nil) q)
end
end
section
inductive Fl where
 | next
 | ret (v:V)
 | brk
 | cont
noncomputable abbrev MS:=Nat→Env'→St→(Fl→Env'→St→Prop)→Prop
inductive FlR (X:Nat→Prop) (σ:St) (μ:Nat→Nat) (h:Heap):Flow→Fl→Prop
 | next:FlR X σ μ h .next .next
 | ret {v:Value} {x:V} (t:VRσ X σ μ h v x):FlR X σ μ h (.ret v) (.ret x)
 | brk:FlR X σ μ h .brk .brk
 | cont:FlR X σ μ h .cont .cont
noncomputable def Fb(F:Nat→Prop)(σ:St)(μ:Nat→Nat)(a:Nat):Prop:=Tr σ μ a∨F a
noncomputable abbrev Evf(F:Nat→Prop)(X:Nat→Prop)(σ:St)(μ:Nat→Nat)(h:Heap)(σ':St)(μ':Nat→Nat)(h':Heap):Prop:=Evo h (Fb F σ μ) (Sx X σ μ) μ σ.length h' (Fb F σ' μ') (Sx X σ' μ') μ' σ'.length
theorem Evσ.toF{F X:Nat→Prop}{σ σ':St}{μ μ':Nat→Nat}{h h':Heap}(ev:Evσ X σ μ h X σ' μ' h')(hF:∀ a,F a→X a):Evf F X σ μ h σ' μ' h' where
 keep a o f e:=ev.keep a o (fun t=>f (.inl t)) e
 live:=ev.live
 tS a t:=t.elim .inl fun f=>.inr (hF a f)
 subT a t:=t.elim (fun t=>(ev.subT a t).imp .inl id) fun f=>.inl (.inr f)
 sub:=ev.sub
 mu:=ev.mu
 le:=ev.le
theorem Evf.refl{F X:Nat→Prop}{σ:St}{μ:Nat→Nat}{h:Heap}(hF:∀ a,F a→X a):Evf F X σ μ h σ μ h:=(Evσ.refl X σ μ h).toF hF
inductive PostS (c:Ctx) (Γ:Gm) (bs:Nat) (env:Env) (F X:Nat→Prop) (σ:St) (μ:Nat→Nat) (s:Shared) (Q:Fl→Env'→St→Prop) (f:Flow) (s':Shared):Prop
 | mk (fl:Fl) (ρ':Env') (σ':St) (μ':Nat→Nat) (q:Q fl ρ' σ') (R:Rel c X σ' μ' s'.heap) (t:FlR X σ' μ' s'.heap f fl) (e:Evf F X σ μ s.heap σ' μ' s'.heap) (E:EnvR c X Γ bs env F ρ' σ' μ' s'.heap) (g:s'.gens=s.gens) (o:s'.os=s.os):PostS c Γ bs env F X σ μ s Q f s'
inductive PostA (c:Ctx) (Γ:Gm) (bs:Nat) (env:Env) (F X:Nat→Prop) (σ:St) (μ:Nat→Nat) (s:Shared) (Q:Env'→St→Prop) (u:Unit) (s':Shared):Prop
 | mk (ρ':Env') (σ':St) (μ':Nat→Nat) (q:Q ρ' σ') (R:Rel c X σ' μ' s'.heap) (e:Evf F X σ μ s.heap σ' μ' s'.heap) (E:EnvR c X Γ bs env F ρ' σ' μ' s'.heap) (g:s'.gens=s.gens) (o:s'.os=s.os):PostA c Γ bs env F X σ μ s Q u s'
section
variable{c:Ctx}{Γ:Gm}{bs:Nat}{env:Env}{F X:Nat→Prop}{σ σ₁:St}{μ μ₁:Nat→Nat}{s s₁:Shared}
theorem PostS.after{Q:Fl→Env'→St→Prop}(ev:Evf F X σ μ s.heap σ₁ μ₁ s₁.heap)(g:s₁.gens=s.gens)(o:s₁.os=s.os){f:Flow}{s':Shared}(p:PostS c Γ bs env F X σ₁ μ₁ s₁ Q f s'):PostS c Γ bs env F X σ μ s Q f s':=by
 obtain⟨fl,ρ',σ',μ',q,r,t,e,E,g',o'⟩:=p
 exact⟨fl,ρ',σ',μ',q,r,t,ev.trans e,E,g'.trans g,o'.trans o⟩
theorem PostA.after{Q:Env'→St→Prop}(ev:Evf F X σ μ s.heap σ₁ μ₁ s₁.heap)(g:s₁.gens=s.gens)(o:s₁.os=s.os){f:Unit}{s':Shared}(p:PostA c Γ bs env F X σ₁ μ₁ s₁ Q f s'):PostA c Γ bs env F X σ μ s Q f s':=by
 obtain⟨ρ',σ',μ',q,r,e,E,g',o'⟩:=p
 exact⟨ρ',σ',μ',q,r,ev.trans e,E,g'.trans g,o'.trans o⟩
theorem ft{A:Around}{t:Sem Flow}{Q:Fl→Env'→St→Prop}(ev:Evf F X σ μ s.heap σ₁ μ₁ s₁.heap)(g:s₁.gens=s.gens)(o:s₁.os=s.os)(h:wpAny c.M A t (PostS c Γ bs env F X σ₁ μ₁ s₁ Q) Bot s₁):wpAny c.M A t (PostS c Γ bs env F X σ μ s Q) Bot s₁ :=
 wpAny_mono h (fun _ _ p=>p.after ev g o) fun _ _ h=>h
theorem fH{A:Around}{t:Sem Unit}{Q:Env'→St→Prop}(ev:Evf F X σ μ s.heap σ₁ μ₁ s₁.heap)(g:s₁.gens=s.gens)(o:s₁.os=s.os)(h:wpAny c.M A t (PostA c Γ bs env F X σ₁ μ₁ s₁ Q) Bot s₁):wpAny c.M A t (PostA c Γ bs env F X σ μ s Q) Bot s₁ :=
 wpAny_mono h (fun _ _ p=>p.after ev g o) fun _ _ h=>h
theorem gw{A:Around}{t:Sem Flow}{Q:Fl→Env'→St→Prop}{P:Flow→Shared→Prop}(h:wpAny c.M A t (PostS c Γ bs env F X σ μ s Q) Bot s)
  (k:∀ f fl ρ₁ σ₁ μ₁ s₁,Q fl ρ₁ σ₁→Rel c X σ₁ μ₁ s₁.heap→FlR X σ₁ μ₁ s₁.heap f fl→Evf F X σ μ s.heap σ₁ μ₁ s₁.heap→EnvR c X Γ bs env F ρ₁ σ₁ μ₁ s₁.heap→s₁.gens=s.gens→s₁.os=s.os→P f s₁):wpAny c.M A t P Bot s :=
 wpAny_mono h (fun _ _ ⟨fl,ρ₁,σ₁,μ₁,q,r,t,e,E,g,o⟩=>k _ fl ρ₁ σ₁ μ₁ _ q r t e E g o) fun _ _ h=>h
theorem cb{A:Around}{t:Sem Unit}{Q:Env'→St→Prop}{P:Unit→Shared→Prop}(h:wpAny c.M A t (PostA c Γ bs env F X σ μ s Q) Bot s)
  (k:∀ f ρ₁ σ₁ μ₁ s₁,Q ρ₁ σ₁→Rel c X σ₁ μ₁ s₁.heap→Evf F X σ μ s.heap σ₁ μ₁ s₁.heap→EnvR c X Γ bs env F ρ₁ σ₁ μ₁ s₁.heap→s₁.gens=s.gens→s₁.os=s.os→P f s₁):wpAny c.M A t P Bot s :=
 wpAny_mono h (fun _ _ ⟨ρ₁,σ₁,μ₁,q,r,e,E,g,o⟩=>k _ ρ₁ σ₁ μ₁ _ q r e E g o) fun _ _ h=>h
theorem Evf.own{a:Addr}{h h':Heap}(hF:∀ a,F a→X a)(ha:F a)(hs:Heap.SameBut a h h')(hlive:∃ o,h'.get? a=some o):Evf F X σ μ h σ μ h' where
 keep b o f e:=(hs.2 b fun z=>f (.inr (z▸ha))).trans e
 live b o e:=by
  by_cases z:b=a
  ·exact z▸hlive
  ·exact⟨o,(hs.2 b z).trans e⟩
 tS b t:=t.elim .inl fun f=>.inr (hF b f)
 subT b t:=.inl t
 sub b t:=.inl t
 mu _ _:=rfl
 le:=Nat.le_refl _
theorem fh{A:Around}{ρ:Env'}{x:Str}{i:Nat}{v:Value}{y:V}{Q:Env'→St→Prop}(R:Rel c X σ μ s.heap)(E:EnvR c X Γ bs env F ρ σ μ s.heap)(hx:Γ.lookup x=some (some i))(hi:bs≤i)(t:VRσ X σ μ s.heap v y)
  (q:Q (ρ.set i (some y)) σ):wpAny c.M A (storeName env x v) (PostA c Γ bs env F X σ μ s Q) Bot s:=by
 have hbeside:∀ {a:Addr} {h':Heap},F a→Heap.SameBut a s.heap h'→∀ v x,VRσ X σ μ s.heap v x→VRσ X σ μ h' v x:=fun ha hs v x t=>t.beside hs (.inr (E.fx _ ha))
 have set_get:∀ {j:Nat} {V:V},(ρ.set i (some y))[j]?=some (some V)→(j=i∧V=y)∨(j≠i∧ρ[j]?=some (some V)):=fun {j V} e=>by
  by_cases z:i=j
  ·subst z
   by_cases hl:i < ρ.length
   ·rw[List.getElem?_set_self hl] at e;cases e;exact .inl ⟨rfl,rfl⟩
   ·rw[List.getElem?_eq_none (by simp;lia)] at e;cases e
  ·rw[List.getElem?_set_ne z] at e;exact .inr ⟨fun w=>z w.symm,e⟩
 rcases E.ce x i hx with hk | ⟨hk,a,ov,ha,hc,hv,ht,hal,hf⟩
 ·obtain⟨m,hm,hlo⟩:=E.lo
  refine wpAny_storeName_local hk hm (fun h' hn' hs=>?_) (by rw[E.kind];rfl)
  obtain⟨f1,f2,f3⟩:=E.fr _ E.own
  obtain⟨o',_,_,hlive,_⟩:=id hn'
  have mono:=hbeside E.own hs
  refine⟨_,σ,μ,q,R.beside hs f1 f2 ⟨o',hlive⟩ mono,Evf.own E.fx E.own hs ⟨o',hlive⟩,?_,rfl,rfl⟩
  refine⟨E.kind,E.glob,E.blt,E.gl,E.slots,⟨_,hn',fun z j hz hkz V hV=>?_⟩,fun z j hz=>?_,E.ap,E.own,E.fx,fun b hb=>?_,E.ck,E.fn⟩
  ·rcases set_get hV with⟨rfl,rfl⟩ | ⟨hne,hV⟩
   ·have:=E.slots z x j hz hx;subst this
    exact⟨v,by simp,mono _ _ t⟩
   ·have hzx:z≠x:=fun e=>hne (by subst e;rw[hx] at hz;injection hz with hz;injection hz with hz;exact hz.symm)
    obtain⟨w,e,r⟩:=hlo z j hz hkz V hV
    exact⟨w,by simp[hzx,e],mono _ _ r⟩
  ·rcases E.ce z j hz with hkz | ⟨hkz,a,ov,ha,hc,hv,ht,hal,hf⟩
   ·exact .loc hkz
   ·by_cases hzx:z=x
    ·subst hzx;exact .loc hk
    ·refine .cell hkz a ov ha (hc.sameBut hs hal) (fun V hV=>?_) ht hal hf
     rcases set_get hV with⟨rfl,rfl⟩ | ⟨hne,hV⟩
     ·exact absurd (E.slots z x j hz hx) hzx
     ·obtain⟨w,e,r⟩:=hv V hV;exact⟨w,e,mono _ _ r⟩
  ·obtain⟨g1,g2,o,g3⟩:=E.fr b hb
   refine⟨g1,g2,?_⟩
   by_cases z:b=env.locals
   ·exact⟨o',z▸hlive⟩
   ·exact⟨o,(hs.2 b z).trans g3⟩
 ·obtain⟨hk,hFa⟩:=hf hi
  refine wpAny_storeName_cell E.kind hk ha hc fun h' hc' hs=>?_
  obtain⟨f1,f2,f3⟩:=E.fr _ hFa
  obtain⟨o',hlive,_⟩:=id hc'
  have mono:=hbeside hFa hs
  refine⟨_,σ,μ,q,R.beside hs f1 f2 ⟨o',hlive⟩ mono,Evf.own E.fx hFa hs ⟨o',hlive⟩,?_,rfl,rfl⟩
  obtain⟨m,hm,hlo⟩:=E.lo
  refine⟨E.kind,E.glob,E.blt,E.gl,E.slots,⟨m,hm.sameBut hs (Ne.symm hal),fun z j hz hkz V hV=>?_⟩,fun z j hz=>?_,E.ap,E.own,E.fx,fun b hb=>?_,E.ck,E.fn⟩
  ·rcases set_get hV with⟨rfl,rfl⟩ | ⟨hne,hV⟩
   ·have:=E.slots z x j hz hx;subst this
    rw[hk] at hkz;cases hkz
   ·obtain⟨w,e,r⟩:=hlo z j hz hkz V hV
    exact⟨w,e,mono _ _ r⟩
  ·rcases E.ce z j hz with hkz | ⟨hkz,b,ob,hb,hcb,hvb,htb,hbl,hfb⟩
   ·exact .loc hkz
   ·by_cases hzx:z=x
    ·subst hzx
     rw[ha] at hb;cases hb
     refine .cell hkz a (some v) ha hc' (fun V hV=>?_) htb hbl hfb
     rcases set_get hV with⟨_,rfl⟩ | ⟨hne,hV⟩
     ·exact⟨v,rfl,mono _ _ t⟩
     ·rw[hx] at hz;injection hz with hz;injection hz with hz;exact absurd hz.symm hne
    ·have hba:b≠a:=fun e=>hzx (E.ap z x a (e▸hb) ha)
     refine .cell hkz b ob hb (hcb.sameBut hs hba) (fun V hV=>?_) htb hbl hfb
     rcases set_get hV with⟨rfl,rfl⟩ | ⟨hne,hV⟩
     ·exact absurd (E.slots z x j hz hx) hzx
     ·obtain⟨w,e,r⟩:=hvb V hV;exact⟨w,e,mono _ _ r⟩
  ·obtain⟨g1,g2,o,g3⟩:=E.fr b hb
   refine⟨g1,g2,?_⟩
   by_cases z:b=a
   ·exact⟨o',z▸hlive⟩
   ·exact⟨o,(hs.2 b z).trans g3⟩
end
end
section
noncomputable abbrev MA:=Nat→Env'→V→St→(Env'→St→Prop)→Prop
noncomputable def SimS(c:Ctx)(Γ:Gm)(bs:Nat)(st:Stmt)(m:MS):Prop:=∀ A d X env F ρ σ μ s Q,Room A d→Rel c X σ μ s.heap→EnvR c X Γ bs env F ρ σ μ s.heap→m d ρ σ Q→wpAny c.M A (exec st env) (PostS c Γ bs env F X σ μ s Q) Bot s
noncomputable def SimB(c:Ctx)(Γ:Gm)(bs:Nat)(st:List Stmt)(m:MS):Prop:=∀ A d X env F ρ σ μ s Q,Room A d→Rel c X σ μ s.heap→EnvR c X Γ bs env F ρ σ μ s.heap→m d ρ σ Q→wpAny c.M A (execs st env) (PostS c Γ bs env F X σ μ s Q) Bot s
noncomputable def SimA(c:Ctx)(Γ:Gm)(bs:Nat)(t:Expr)(m:MA):Prop:=∀ A d X env F ρ σ μ s v x Q,Room A d→Rel c X σ μ s.heap→EnvR c X Γ bs env F ρ σ μ s.heap→VRσ X σ μ s.heap v x→m d ρ x σ Q→wpAny c.M A (assign t env v) (PostA c Γ bs env F X σ μ s Q) Bot s
section
variable{c:Ctx}{Γ:Gm}{bs:Nat}
noncomputable def ah:MS:=fun _ ρ σ Q=>Q .next ρ σ
noncomputable def ag(a b:MS):MS:=fun d ρ σ Q=>a d ρ σ fun fl ρ σ=>match fl with
 | .next=>b d ρ σ Q
 | fl=>Q fl ρ σ
theorem yg:SimB c Γ bs [] ah:=fun _ _ _ _ _ _ _ _ _ _ _ R E h=>wpAny_execs_nil ⟨_,_,_,_,h,R,.next,Evf.refl E.fx,E,rfl,rfl⟩
theorem vt{st:Stmt}{rest:List Stmt}{a b:MS}(ha:SimS c Γ bs st a)(hb:SimB c Γ bs rest b):SimB c Γ bs (st::rest) (ag a b):=by
 intro A d X env F ρ σ μ s Q hA R E h
 refine wpAny_execs_cons (gw (ha A d X env F ρ σ μ s _ hA R E h) fun f fl ρ₁ σ₁ μ₁ s₁ q R₁ t₁ e₁ E₁ g₁ o₁=>?_)
 cases t₁ with
 | next=>exact ft e₁ g₁ o₁ (hb A d X env F ρ₁ σ₁ μ₁ s₁ _ hA R₁ E₁ q)
 | ret t=>exact⟨_,_,_,_,q,R₁,.ret t,e₁,E₁,g₁,o₁⟩
 | brk=>exact⟨_,_,_,_,q,R₁,.brk,e₁,E₁,g₁,o₁⟩
 | cont=>exact⟨_,_,_,_,q,R₁,.cont,e₁,E₁,g₁,o₁⟩
noncomputable def ao(a:ME V):MS:=fun d ρ σ Q=>a d ρ σ fun x σ=>Q (.ret x) ρ σ
theorem su{e:Expr}{a:ME V}{pos:Pos}(ha:SimE c Γ e a):SimS c Γ bs (.Return (some e) pos) (ao a):=by
 intro A d X env F ρ σ μ s Q hA R E h
 exact wpAny_Return_some (aC (ha A d X bs env F ρ σ μ s _ hA R E h) fun u x σ₁ μ₁ s₁ q R₁ t₁ e₁ g₁ o₁=>⟨_,_,_,_,q,R₁,.ret t₁,e₁.toF E.fx,E.mono e₁,g₁,o₁⟩)
noncomputable def oz:MS:=fun _ ρ σ Q=>Q (.ret .none) ρ σ
theorem vH{pos:Pos}:SimS c Γ bs (.Return none pos) oz:=fun A d X env F ρ σ μ s Q hA R E h=>wpAny_Return_none ⟨_,_,_,_,h,R,.ret .none,Evf.refl E.fx,E,rfl,rfl⟩
noncomputable def ir:MS:=fun _ ρ σ Q=>Q .brk ρ σ
noncomputable def eA:MS:=fun _ ρ σ Q=>Q .cont ρ σ
theorem wT{pos:Pos}:SimS c Γ bs (.Break pos) ir:=fun A d X env F ρ σ μ s Q hA R E h=>wpAny_Break ⟨_,_,_,_,h,R,.brk,Evf.refl E.fx,E,rfl,rfl⟩
theorem rr{pos:Pos}:SimS c Γ bs (.Continue pos) eA:=fun A d X env F ρ σ μ s Q hA R E h=>wpAny_Continue ⟨_,_,_,_,h,R,.cont,Evf.refl E.fx,E,rfl,rfl⟩
noncomputable def aM(a:ME V):MS:=fun d ρ σ Q=>a d ρ σ fun _ σ=>Q .next ρ σ
theorem qh{e:Expr}{a:ME V}{pos:Pos}(ha:SimE c Γ e a)(hs:∀ env,swapsWith e none pos.line env=pure false):SimS c Γ bs (.Expr e pos) (aM a):=by
 intro A d X env F ρ σ μ s Q hA R E h
 refine wpAny_Expr_any (aC (ha A d X bs env F ρ σ μ s _ hA R E h) fun u x σ₁ μ₁ s₁ q R₁ t₁ e₁ g₁ o₁=>⟨_,_,_,_,q,R₁,.next,e₁.toF E.fx,E.mono e₁,g₁,o₁⟩) (by unfold interactive;rw[E.kind];rfl) (hs env)
noncomputable def ifM(t:ME Bool)(a b:MS):MS:=fun d ρ σ Q=>t d ρ σ fun z σ=>if z then a d ρ σ Q else b d ρ σ Q
theorem sy{t:Expr}{body orelse:List Stmt}{mt:ME Bool}{ma mb:MS}{pos:Pos}(ht:SimT c Γ t mt)(ha:SimB c Γ bs body ma)(hb:SimB c Γ bs orelse mb):SimS c Γ bs (.If t body orelse pos) (ifM mt ma mb):=by
 intro A d X env F ρ σ μ s Q hA R E h
 refine wpAny_If (aC (ht A d X bs env F ρ σ μ s _ hA R E h) fun u x σ₁ μ₁ s₁ q R₁ t₁ e₁ g₁ o₁=>?_)
 cases t₁
 cases u
 ·exact ft (e₁.toF E.fx) g₁ o₁ (hb A d X env F ρ σ₁ μ₁ s₁ _ hA R₁ (E.mono e₁) q)
 ·exact ft (e₁.toF E.fx) g₁ o₁ (ha A d X env F ρ σ₁ μ₁ s₁ _ hA R₁ (E.mono e₁) q)
noncomputable def nmA(i:Nat):MA:=fun _ ρ x σ Q=>Q (ρ.set i (some x)) σ
theorem qb{x:Str}{i:Nat}{pos:Pos}(hx:Γ.lookup x=some (some i))(hi:bs≤i):SimA c Γ bs (.Name x pos) (nmA i) :=
 fun A d X env F ρ σ μ s v x Q hA R E t h=>wpAny_assign_Name (fh R E hx hi t h)
noncomputable def aw(t:MA)(a:ME V):MS:=fun d ρ σ Q=>a d ρ σ fun x σ=>t d ρ x σ fun ρ σ=>Q .next ρ σ
theorem dS{t value:Expr}{mt:MA}{a:ME V}{pos:Pos}(ht:SimA c Γ bs t mt)(ha:SimE c Γ value a)(hs:∀ env,swapsWithSole [t] value pos.line env=pure false)(hw:∀ env,swappedStores [t] value env=pure none)
  (he:∀ env,(assignEach [t] env).map (·.2)=[assign t env]):SimS c Γ bs (.Assign [t] value pos) (aw mt a):=by
 intro A d X env F ρ σ μ s Q hA R E h
 refine wpAny_Assign_stores (aC (ha A d X bs env F ρ σ μ s _ hA R E h) fun u x σ₁ μ₁ s₁ q R₁ t₁ e₁ g₁ o₁=>?_) (hs env) (hw env)
 rw[he]
 refine cb (ht A d X env F ρ σ₁ μ₁ s₁ u x _ hA R₁ (E.mono e₁) t₁ q) fun _ ρ₂ σ₂ μ₂ s₂ q₂ R₂ e₂ E₂ g₂ o₂=>?_
 exact⟨_,_,_,_,q₂,R₂,.next,(e₁.toF E.fx).trans e₂,E₂,g₂.trans g₁,o₂.trans o₁⟩
noncomputable def fD(σ:St)(x i v:V)(k:St→Prop):Prop:=match x with
 | .ref j=>(lsAt σ j).elim (onS (dcAt σ j) fun kvs=>aY kvs i∧k (σ.set j (some (.dict (dset kvs i v))))) fun l=>∃ n:Nat,i=.int n∧n < l.length∧l.length≤1000000∧k (σ.set j (some (.list (l.set n v))))
 | _=>False
theorem v7{A:Around}{X:Nat→Prop}{σ:St}{μ:Nat→Nat}{s:Shared}{j n:Nat}{tk:Tok}{l:List V}{v:Value}{y:V}{Q:Unit→St→Prop}(R:Rel c X σ μ s.heap)(g:σ[j]?=some (some (.list l)))(t:VRσ X σ μ s.heap v y)(hn:n < l.length)(hl:l.length≤1000000)
  (q:Q () (σ.set j (some (.list (l.set n y))))):wpAny c.M A (setItem (.ref (μ j)) (.int n tk) v) (Post c RU X σ μ s Q) Bot s:=by
 obtain⟨items,k,e,x⟩:=(R.obj j _ g).inv
 have el:=x.length
 have hm:Obj.mapSeq (·.setIfInBounds (n:Int).toNat v) (listO items k)=listO (items.set n v) k:=by
  simp[Obj.mapSeq,listO]
 refine ki_setAt (n:=k) (items:=items.toArray) e (by lia) (by lia) (by simp;lia) ?_
 have hlive:(s.heap.update (μ j) (Obj.mapSeq (·.setIfInBounds (n:Int).toNat v))).get? (μ j)=some (listO (items.set n v) k):=by
  rw[Heap.get?_update_self _ e (by rw[hm];rfl),hm]
 have r:=R.upd (p:=.list (l.set n y)) g (Heap.SameBut.update ..) ⟨_,hlive⟩ fun ev=>.list hlive ((x.mono ev).set (t.mono ev) n)
 exact⟨(),_,μ,q,r.1,trivial,r.2,rfl,rfl⟩
noncomputable def ci(a b:ME V):MA:=fun d ρ v σ Q=>a d ρ σ fun x σ=>b d ρ σ fun i σ=>fD σ x i v fun σ=>Q ρ σ
theorem yl{e i:Expr}{a b:ME V}{pos:Pos}(ha:SimE c Γ e a)(hb:SimE c Γ i b):SimA c Γ bs (.Subscript e i pos) (ci a b):=by
 intro A d X env F ρ σ μ s v y Q hA R E t h
 have hu:=hA.units
 rw[arm_assign_Subscript]
 refine wpAny_bind (wpAny_holding (aC (ha A d X bs env F ρ σ μ s _ hA R E h) fun u x σ₁ μ₁ s₁ q R₁ t₁ e₁ g₁ o₁=>wpAny_bind (wpAny_holding (aC (hb A d X bs env F ρ σ₁ μ₁ s₁ _ hA R₁ (E.mono e₁) q) fun w z σ₂ μ₂ s₂ q₂ R₂ t₂ e₂ g₂ o₂=>?_))))
 refine wpAny_bind (wpAny_standAt ?_)
 cases x with
 | ref j =>
  cases t₁
  change (lsAt _ j).elim _ _ at q₂
  cases el:lsAt _ j with
  | none =>
   rw[el] at q₂
   obtain⟨kvs,g,q₂⟩:=br q₂
   have g:=n9 g
   refine wpAny_bind (wpAny_holding ?_)
   rw[← e₂.mu _ (by assumption)]
   refine aC ((dk R₂ (by lia) g t₂ q₂.1).set (Q:=fun _ σ=>Q ρ σ) ((t.mono e₁).mono e₂) q₂.2) fun _ _ σ₃ μ₃ s₃ q₃ R₃ _ e₃ g₃ o₃=>?_
   have ev:=e₁.trans (e₂.trans e₃)
   exact wpAny_release ⟨_,_,_,q₃,R₃,Evσ.toF ev E.fx,E.mono ev,g₃.trans (g₂.trans g₁),o₃.trans (o₂.trans o₁)⟩
  | some l =>
   rw[el] at q₂
   have g:=gH el
   obtain⟨n,rfl,hn,hl,q₂⟩:=q₂
   obtain⟨tk,rfl⟩:=t₂.inv
   refine wpAny_bind (wpAny_holding ?_)
   rw[← e₂.mu _ (by assumption)]
   refine aC (v7 (Q:=fun _ σ=>Q ρ σ) R₂ g ((t.mono e₁).mono e₂) hn hl q₂) fun _ _ σ₃ μ₃ s₃ q₃ R₃ _ e₃ g₃ o₃=>?_
   have ev:=e₁.trans (e₂.trans e₃)
   exact wpAny_release ⟨_,_,_,q₃,R₃,Evσ.toF ev E.fx,E.mono ev,g₃.trans (g₂.trans g₁),o₃.trans (o₂.trans o₁)⟩
 | _=>exact q₂.elim
noncomputable def nput:List (Str×V)→Str→V→List (Str×V)
 | [],x,y=>[(x,y)]
 | (z,w)::r,x,y=>if x==z then (x,y)::r else (z,w)::nput r x y
theorem NR.put{h:Heap}{S:Nat→Prop}{μ:Nat→Nat}{n:Nat}{es:List DictEntry}{kvs:List (Str×V)}(x:NR h S μ n es kvs)(name:Str)(hsh:Int)(tk:Tok){v:Value}{y:V}(t:VR h S μ n v y):NR h S μ n (putL name hsh (.str name tk) v es) (nput kvs name y):=by
 induction x with
 | nil=>exact .cons rfl t .nil
 | @cons e k tk' x es kvs a b r ih =>
  have hi:e.key.isStr name=(k==name):=by rw[a];rfl
  unfold putL nput
  rw[hi]
  by_cases h:k=name
  ·subst h;simp only[beq_self_eq_true,if_true];exact .cons a t r
  ·rw[beq_eq_false_iff_ne.mpr h,beq_eq_false_iff_ne.mpr fun e=>h e.symm];simp only[Bool.false_eq_true,if_false];exact .cons a b ih
theorem NR.length{h:Heap}{S:Nat→Prop}{μ:Nat→Nat}{n:Nat}{es:List DictEntry}{kvs:List (Str×V)}(x:NR h S μ n es kvs):es.length=kvs.length:=by
 induction x with
 | nil=>rfl
 | cons _ _ _ ih=>simp[ih]
theorem NR.noref{h:Heap}{S:Nat→Prop}{μ:Nat→Nat}{n:Nat}{es:List DictEntry}{kvs:List (Str×V)}(x:NR h S μ n es kvs):es.any (·.refKey)=false:=by
 induction x with
 | nil=>rfl
 | cons a _ _ ih=>rw[List.any_cons,ih];simp[DictEntry.refKey,a]
noncomputable def setOk(K:Frag)(C:Addr)(name:Str):Bool:=findIn K (.ref C) "__setattr__"==some (some (.builtin "object.__setattr__"))&&plainOver K C&&takerIn K C name==some none&&(clsIn K C).any (·.hasDict)
noncomputable def fe(P:Nat→Bool)(σ:St)(x:V):Option (Nat×List (Str×V)):=match x with
 | .inst C i=>cond (P C) ((nsAt σ i).bind fun kvs=>cond (Nat.ble kvs.length 1000) (some (i,kvs)) none) none
 | _=>none
theorem wq{P:Nat→Bool}{σ:St}{x:V}{p:Nat×List (Str×V)}(h:fe P σ x=some p):∃ C,x=.inst C p.1∧P C=true∧σ[p.1]?=some (some (.ns p.2))∧p.2.length≤1000:=by
 cases x with
 | inst C i =>
  change cond (P C) _ _=_ at h
  cases e:P C with
  | false=>rw[e] at h;cases h
  | true =>
   rw[e] at h
   obtain⟨kvs,h1,h2⟩:=Option.bind_eq_some_iff.mp h
   cases e2:Nat.ble kvs.length 1000 with
   | false=>rw[e2] at h2;cases h2
   | true=>rw[e2] at h2;cases h2;exact⟨C,rfl,e,fV h1,Nat.le_of_ble_eq_true e2⟩
 | _=>cases h
noncomputable def aT(P:Nat→Bool)(name:Str)(a:ME V):MA:=fun d ρ v σ Q=>a d ρ σ fun x σ=>∃ p,fe P σ x=some p∧Q ρ (σ.set p.1 (some (.ns (nput p.2 name v))))
theorem qa{e:Expr}{name:Str}{a:ME V}{P:Nat→Bool}{pos:Pos}(ok:c.Ok)(ha:SimE c Γ e a)(hc:∀ C,P C=true→setOk c.K C name=true):SimA c Γ bs (.Attribute e name pos) (aT P name a):=by
 intro A d X env F ρ σ μ s v y Q hA R E t h
 rw[arm_assign_Attribute]
 refine wpAny_bind (wpAny_holding (aC (ha A d X bs env F ρ σ μ s _ hA R E h) fun u x σ₁ μ₁ s₁ q R₁ t₁ e₁ g₁ o₁=>wpAny_bind (wpAny_standAt ?_)))
 obtain⟨⟨i,kvs⟩,hg,q⟩:=q
 obtain⟨C,rfl,hP,g,hlen⟩:=wq hg
 dsimp only at g hlen q
 obtain⟨ad,rfl,go,f,hl⟩:=t₁.inv
 cases R₁.obj _ _ g with | @ns es k _ hn hx =>
 have hok:=hc C hP
 simp only[setOk,Bool.and_eq_true,beq_iff_eq] at hok
 obtain⟨⟨⟨k1,k2⟩,k3⟩,k4⟩:=hok
 have I:InstAt s₁.heap ad (instObj C (μ₁ i)) C (some (dictOf es k)):=⟨go,rfl,rfl,hn⟩
 have XK:=ok.K.keeps R₁.base
 obtain⟨cd,hcd,hcd'⟩:=any_some k4
 have hpn:Obj.putName name (PyData.keyHash c.w.params name) (.str name (s₁.toks+1)) v (dictO es k)=dictOf (putL name (PyData.keyHash c.w.params name) (.str name (s₁.toks+1)) v es) (putN name es k):=putName_dict ..
 have hpl:=(hx.put name (PyData.keyHash c.w.params name) (s₁.toks+1) (t.mono e₁)).length
 have hnl:∀ (kvs:List (Str×V)),(nput kvs name y).length≤kvs.length+1:=fun kvs=>by
  induction kvs with
  | nil=>simp[nput]
  | cons p r ih=>unfold nput;split<;>simp;exact ih
 have hnl':=hnl kvs
 have hlive:(s₁.heap.update (μ₁ i) (Obj.putName name (PyData.keyHash c.w.params name) (.str name (s₁.toks+1)) v)).get? (μ₁ i)=some (dictOf (putL name (PyData.keyHash c.w.params name) (.str name (s₁.toks+1)) v es) (putN name es k)):=by
  rw[Heap.get?_update_self _ hn (by rw[hpn];rfl),hpn]
 refine wpAny_bind (wpAny_holding (set_plain XK I k1 (osa_open (s:={ s₁ with toks:=s₁.toks+1 }) XK I k2 k3 fun b=>?_)))
 refine wpAny_bind (wpAny_pure (wpAny_bind (wpAny_bind (wpAny_loadPart (s:={ s₁ with toks:=s₁.toks+1 }) go (wpAny_bind (Looks.here (s:={ s₁ with toks:=s₁.toks+1 }) (looks_clsIn XK hcd) ?_))))))
 rw[hcd']
 refine wpAny_pure (a:=some (μ₁ i)) (wpAny_bind (wpAny_pure (wpAny_bind ?_)))
 unfold nsSet
 refine wpAny_bind (wpAny_bind (wpAny_askSetting (wpAny_pure (wpAny_bind (wpAny_mkText (wpAny_bind (wpAny_loadPart (s:={ s₁ with toks:=s₁.toks+1+1 }) hn ?_)))))))
 dsimp only[dictO]
 have c0:(!es.toArray.any (·.key.isStr name)&&es.toArray.any (·.refKey))=false:=by
  rw[List.any_toArray,List.any_toArray,hx.noref,Bool.and_false]
 rw[aRefKeyMayBeTheName_at,c0]
 refine wpAny_updatePart (s:={ s₁ with toks:=s₁.toks+1+1 }) hn ?_
 refine wpAny_bind (wpAny_lookBehind (s:={ s₁ with heap:=s₁.heap.update (μ₁ i) (Obj.putName name (PyData.keyHash c.w.params name) (.str name (s₁.toks+1)) v),toks:=s₁.toks+1+1 }) hlive (pastItsLine_dict (by rw[List.size_toArray,sizeLine_eq];lia)) ?_)
 refine wpAny_pure (wpAny_release ?_)
 have hs:Heap.SameBut (μ₁ i) s₁.heap (s₁.heap.update (μ₁ i) (Obj.putName name (PyData.keyHash c.w.params name) (.str name (s₁.toks+1)) v)):=Heap.SameBut.update ..
 have r:=R₁.upd (p:=.ns (nput kvs name y)) g hs ⟨_,hlive⟩ fun ev=>.ns hlive ((hx.mono ev).put name _ _ ((t.mono e₁).mono ev))
 have ev:=e₁.trans r.2
 exact⟨_,_,_,q,r.1,Evσ.toF ev E.fx,E.mono ev,g₁,o₁⟩
end
end
section
noncomputable def bC(Γ:Gm)(names:List (Str×NameKind))(params:List Str):Bool :=
 Γ.ck.all (fun x=>names.lookup x==some .cell)&&Γ.sl.all (fun p=>match Γ.lookup p.1 with
  | some (some i)=>(names.lookup p.1==some .local||names.lookup p.1==some .cell)&&Γ.sl.all (fun q=>match Γ.lookup q.1 with
    | some (some j)=>i != j||p.1==q.1
    | _=>true)
  | some none=>names.lookup p.1==some .globalImplicit
  | none=>true)&&(List.range params.length).all (fun i=>match params[i]? with
  | some p=>Γ.lookup p==some (some i)
  | none=>true)
section
variable{Γ:Gm}{names:List (Str×NameKind)}{params:List Str}
theorem dc{α:Type}{l:List (Str×α)}{x:Str}{y:α}(h:l.lookup x=some y):∃ p∈l,p.1=x:=⟨_,mem_of_lookup h,rfl⟩
theorem yD(h:bC Γ names params=true){x:Str}(hx:x∈Γ.ck):names.lookup x=some .cell:=by
 simp only[bC,Bool.and_eq_true] at h
 have:=List.all_eq_true.mp h.1.1 x hx
 simpa using this
theorem n7(h:bC Γ names params=true){x:Str}{i:Nat}(hx:Γ.lookup x=some (some i)):names.lookup x=some .local∨names.lookup x=some .cell:=by
 simp only[bC,Bool.and_eq_true] at h
 obtain⟨p,hp,rfl⟩:=dc hx
 have:=List.all_eq_true.mp h.1.2 p hp
 rw[hx] at this
 simp only[Bool.and_eq_true,Bool.or_eq_true,beq_iff_eq] at this
 exact this.1
theorem yR(h:bC Γ names params=true){x:Str}(hx:Γ.lookup x=some none):names.lookup x=some .globalImplicit:=by
 simp only[bC,Bool.and_eq_true] at h
 obtain⟨p,hp,rfl⟩:=dc hx
 have:=List.all_eq_true.mp h.1.2 p hp
 rw[hx] at this
 simpa using this
theorem lJ(h:bC Γ names params=true){x y:Str}{i:Nat}(hx:Γ.lookup x=some (some i))(hy:Γ.lookup y=some (some i)):x=y:=by
 simp only[bC,Bool.and_eq_true] at h
 obtain⟨p,hp,rfl⟩:=dc hx
 obtain⟨q,hq,rfl⟩:=dc hy
 have:=List.all_eq_true.mp h.1.2 p hp
 rw[hx] at this
 simp only[Bool.and_eq_true] at this
 have:=List.all_eq_true.mp this.2 q hq
 rw[hy] at this
 simpa using this
theorem e9(h:bC Γ names params=true){p:Str}{i:Nat}(hp:params[i]?=some p):Γ.lookup p=some (some i):=by
 simp only[bC,Bool.and_eq_true] at h
 have:=List.all_eq_true.mp h.2 i (List.mem_range.mpr (List.getElem?_eq_some_iff.mp hp).1)
 rw[hp] at this
 simpa using this
end
theorem hO:∀ (names:List (Str×NameKind)) (n:Nat) (acc:List (Str×Addr)) (x:Str),(acc.lookup x).isSome=true→((cellsFrom n names acc).lookup x).isSome=true
 | [],_,_,_,h=>h
 | (y,k)::r,n,acc,x,h=>by
  unfold cellsFrom
  split
  ·refine hO r _ _ x ?_
   rw[List.lookup_cons];split<;>simp_all
  ·exact hO r _ _ x h
theorem dN:∀ (names:List (Str×NameKind)) (n:Nat) (acc:List (Str×Addr)) (x:Str),names.lookup x=some .cell→((cellsFrom n names acc).lookup x).isSome=true
 | [],_,_,_,h=>by cases h
 | (y,k)::r,n,acc,x,h=>by
  rw[List.lookup_cons] at h
  unfold cellsFrom
  split at h
  ·rename_i hx
   have hx:=eq_of_beq hx;subst hx
   cases h
   rw[if_pos (by decide)]
   exact hO r _ _ x (by simp)
  ·split
   ·exact dN r _ _ x h
   ·exact dN r _ _ x h
section
variable{kindOf:Str→Option NameKind}
theorem pP{F:List (Str×Value)→(Str→Option Value)→Str→Option Value}{u:Str→Value→(Str→Option Value)→Str→Option Value}(h0:∀ m,F [] m=m)(h1:∀ y v r m,F ((y,v)::r) m=F r (u y v m))(hu:∀ y v m x,y≠x→u y v m x=m x)
  (bs:List (Str×Value)) (m:Str→Option Value) (x:Str) (h:∀ p∈bs,p.1≠x):F bs m x=m x:=by
 induction bs generalizing m with
 | nil=>rw[h0]
 | cons p r ih=>rw[h1,ih _ fun p hp=>h p (List.mem_cons_of_mem _ hp),hu _ _ _ _ (h p List.mem_cons_self)]
theorem jP{F:List (Str×Value)→(Str→Option Value)→Str→Option Value}{u:Str→Value→(Str→Option Value)→Str→Option Value}{p:Str}(h0:∀ m,F [] m=m)(h1:∀ y v r m,F ((y,v)::r) m=F r (u y v m))(hu:∀ y v m x,y≠x→u y v m x=m x)
  (hg:∀ v m,u p v m p=some v) (ps:List Str) (vs:List Value) (m:Str→Option Value) (i:Nat) (v:Value) (hp:ps[i]?=some p) (hv:vs[i]?=some v) (hi:∀ i j:Nat,ps[i]?=some p→ps[j]?=some p→i=j):F (ps.zip vs) m p=some v:=by
 induction ps generalizing vs m i with
 | nil=>cases hp
 | cons q ps ih =>
  cases vs with
  | nil=>cases hv
  | cons w vs =>
   rw[List.zip_cons_cons,h1]
   cases i with
   | zero =>
    cases hp;cases hv
    rw[pP h0 h1 hu,hg]
    intro r hr e
    obtain⟨j,hj⟩:=List.getElem?_of_mem hr
    have:=(List.getElem?_zip_eq_some.mp (show (ps.zip vs)[j]?=some (r.1,r.2) from hj)).1
    rw[e] at this
    exact nomatch hi 0 (j+1) rfl this
   | succ i=>exact ih vs _ i hp hv fun a b ha hb=>Nat.succ.inj (hi (a+1) (b+1) ha hb)
theorem vE(ps:List Str)(vs:List Value)(m:Str→Option Value)(i:Nat)(p:Str)(v:Value)(hp:ps[i]?=some p)(hv:vs[i]?=some v)(hi:∀ i j:Nat,ps[i]?=some p→ps[j]?=some p→i=j)(hk:kindOf p=some .local):bindL kindOf (ps.zip vs) m p=some v :=
 jP (F:=bindL kindOf) (u:=fun n v m=>if kindOf n=some .local then fun y=>if y=n then some v else m y else m) (fun _=>rfl) (fun _ _ _ _=>rfl)
  (fun y v m x h=>by split;exact if_neg (Ne.symm h);rfl) (fun v m=>by rw[if_pos hk];exact if_pos rfl) ps vs m i v hp hv hi
theorem qc(ps:List Str)(vs:List Value)(m:Str→Option Value)(i:Nat)(p:Str)(v:Value)(hp:ps[i]?=some p)(hv:vs[i]?=some v)(hi:∀ i j:Nat,ps[i]?=some p→ps[j]?=some p→i=j)(hk:kindOf p≠some .local):bindC kindOf (ps.zip vs) m p=some v :=
 jP (F:=bindC kindOf) (u:=fun n v m=>if kindOf n=some .local then m else fun y=>if y=n then some v else m y) (fun _=>rfl) (fun _ _ _ _=>rfl)
  (fun y v m x h=>by split;rfl;exact if_neg (Ne.symm h)) (fun v m=>by rw[if_neg hk];exact if_pos rfl) ps vs m i v hp hv hi
end
noncomputable def bx(Q:V→St→Prop):Fl→Env'→St→Prop:=fun fl _ σ=>match fl with
 | .ret v=>Q v σ
 | .next=>Q .none σ
 | _=>False
theorem eD{h:Heap}{a:Addr}(l:h.objs.size≤a):h.get? a=none:=by
 cases q:h.get? a with
 | none=>rfl
 | some o'=>exact absurd (Heap.lt_size q) (Nat.not_lt.mpr l)
set_option backward.match.sparseCases true in
noncomputable def CodeT(c:Ctx)(f:Value)(d:Nat)(args:List V)(σ:St)(Q:V→St→Prop):Prop :=
 ∀ A X μ s vs,Room A d→Rel c X σ μ s.heap→VRs s.heap (Sx X σ μ) μ σ.length vs args→codeAny c.M A (.call f ⟨vs,[]⟩) (fun r s'=>match r with | .ok (.ret v)=>Post c RV X σ μ s Q v s' | .ok _=>False | .error e=>Bot e s') s
set_option backward.match.sparseCases true in
theorem CodeT.call{c:Ctx}{f:Value}{d:Nat}{args:List V}{σ:St}{Q:V→St→Prop}(h:CodeT c f d args σ Q):CallT c f d args σ Q:=fun A X μ s vs hA R t=>wpAny_call (h A X μ s vs hA R t)
end
section
noncomputable def cJ(t:ME Bool)(b:MS):MS:=fun d ρ σ Q=>∃ (I:Nat→Env'→St→Prop) (n:Nat),I n ρ σ∧∀ n ρ σ,I n ρ σ→t d ρ σ fun z σ'=>if z then b d ρ σ' (fun fl ρ' σ''=>match fl with
 | .next=>∃ m,m < n∧I m ρ' σ''
 | .cont=>∃ m,m < n∧I m ρ' σ''
 | .brk=>Q .next ρ' σ''
 | .ret v=>Q (.ret v) ρ' σ'') else Q .next ρ σ'
theorem u7{c:Ctx}{Γ:Gm}{bs:Nat}{t:Expr}{body:List Stmt}{mt:ME Bool}{mb:MS}{pos:Pos}(ht:SimT c Γ t mt)(hb:SimB c Γ bs body mb):SimS c Γ bs (.While t body [] pos) (cJ mt mb):=by
 intro A d X env F ρ σ μ s Q hA R E ⟨I,n,hI,step⟩
 refine wpAny_While (codeAny_whileLoop (fun n s'=>PostA c Γ bs env F X σ μ s (I n) () s') ?_ n
  ⟨ρ,σ,μ,hI,R,Evf.refl E.fx,E,rfl,rfl⟩)
 rintro n s' ⟨ρ',σ',μ',hI',R',ev',E',g',o'⟩
 have hT:=ht A d X bs env F ρ' σ' μ' s' _ hA R' E' (step n ρ' σ' hI')
 refine wpAny_mono hT (fun b s₂ hp=>?_) fun _ _ e=>e.elim
 obtain⟨z,σ₂,μ₂,q,R₂,rfl,e₂,g₂,o₂⟩:=hp
 have E₂:=E'.mono e₂
 have ev₂:=ev'.trans (e₂.toF E.fx)
 cases b with
 | false =>
  simp only[Bool.false_eq_true,if_false] at q ⊢
  exact wpAny_execs_nil ⟨_,_,_,_,q,R₂,.next,ev₂,E₂,g₂.trans g',o₂.trans o'⟩
 | true =>
  simp only[if_true] at q ⊢
  refine wpAny_mono (hb A d X env F ρ' σ₂ μ₂ s₂ _ hA R₂ E₂ q) (fun f s₃ hp=>?_) fun _ _ e=>e.elim
  obtain⟨fl,ρ₃,σ₃,μ₃,q₃,R₃,tf,e₃,E₃,g₃,o₃⟩:=hp
  have ev₃:=ev₂.trans e₃
  have gg:=g₃.trans (g₂.trans g')
  have oo:=o₃.trans (o₂.trans o')
  cases tf with
  | next=>obtain⟨m,hm,hI⟩:=q₃;exact⟨m,hm,ρ₃,σ₃,μ₃,hI,R₃,ev₃,E₃,gg,oo⟩
  | cont=>obtain⟨m,hm,hI⟩:=q₃;exact⟨m,hm,ρ₃,σ₃,μ₃,hI,R₃,ev₃,E₃,gg,oo⟩
  | brk=>exact⟨_,_,_,_,q₃,R₃,.next,ev₃,E₃,gg,oo⟩
  | ret t=>exact⟨_,_,_,_,q₃,R₃,.ret t,ev₃,E₃,gg,oo⟩
inductive It (h₀:Heap) (S₀:Nat→Prop) (μ₀:Nat→Nat) (n₀:Nat) (hb h:Heap):Value→V→Prop
 | old {v:Value} {x:V} (t:VR h₀ S₀ μ₀ n₀ v x):It h₀ S₀ μ₀ n₀ hb h v x
 | int (i:Int) (t:Tok):It h₀ S₀ μ₀ n₀ hb h (.int i t) (.int i)
 | pair {T:Addr} {a b:Value} {x y:V} (e:h.get? T=some (tupO [a,b])) (f:hb.get? T=none) (p:It h₀ S₀ μ₀ n₀ hb h a x) (q:It h₀ S₀ μ₀ n₀ hb h b y):It h₀ S₀ μ₀ n₀ hb h (.ref T) (.tup [x,y])
theorem It.vr{h₀ h hb:Heap}{T₀ T S₀ S:Nat→Prop}{μ₀ μ:Nat→Nat}{n₀ n:Nat}{v:Value}{x:V}(t:It h₀ S₀ μ₀ n₀ hb h v x)(ev:Evo h₀ T₀ S₀ μ₀ n₀ h T S μ n)(hf:∀ a,hb.get? a=none→¬ S a):VR h S μ n v x:=by
 induction t with
 | old t=>exact t.mono ev
 | int i t=>exact .int i t
 | pair e f _ _ ih1 ih2=>exact .tup e (hf _ f) (.cons ih1 (.cons ih2 .nil))
structure Wk (c:Ctx) (A:Around) (tg:Expr) (I:Addr) (fp wr:List Addr) (xs:List V) (h₀:Heap) (S₀:Nat→Prop) (μ₀:Nat→Nat) (n₀:Nat) (St:Nat→Heap→Prop):Prop where
 sub:∀ b∈wr,b∈fp
 frame:∀ i h h',St i h→(∀ b∈fp,∀ o,h.get? b=some o→h'.get? b=some o)→St i h'
 live:∀ i h,St i h→∀ b∈fp,∃ o,h.get? b=some o
 item:∀ i x (s:Shared) (P:Value→Shared→Prop) (E:Value→Shared→Prop),xs[i]?=some x→St i s.heap →
  (∀ v h' tk,It h₀ S₀ μ₀ n₀ s.heap h' v x→St (i+1) h'→(∀ b o,b∉wr→s.heap.get? b=some o→h'.get? b=some o)→P v { s with heap:=h',toks:=tk }) →
  wpAny c.M A (pyNext (.ref I)) (fun r s₁=>∃ v,r=some v∧wpAny c.M A (letOwnedTupleGo tg (.ref I) v) (fun _ s₂=>P v s₂) E s₁) E s
 done:∀ (s:Shared) (P:Shared→Prop) (E:Value→Shared→Prop),St xs.length s.heap→(∀ h' tk,(∀ b o,b∉wr→s.heap.get? b=some o→h'.get? b=some o)→P { s with heap:=h',toks:=tk }) →
  wpAny c.M A (pyNext (.ref I)) (fun r s₁=>r=none∧P s₁) E s
 self:∀ i (s:Shared) (Q:Value→Shared→Prop) (E:Value→Shared→Prop),St i s.heap→Q (.ref I) s→wpAny c.M A (pyIter (.ref I)) Q E s
inductive PostI (c:Ctx) (A:Around) (tg:Expr) (X:Nat→Prop) (σ:St) (μ:Nat→Nat) (s:Shared) (Q:List V→St→Prop) (it:Value) (s':Shared):Prop
 | mk (xs:List V) (σ':St) (μ':Nat→Nat) (I:Addr) (fp wr:List Addr) (Sn:Nat→Heap→Prop) (W:Nat→Prop) (q:Q xs σ') (hi:it=.ref I) (R:Rel c (fun b=>X b∨W b) σ' μ' s'.heap) (K:Wk c A tg I fp wr xs s'.heap (Sx (fun b=>X b∨W b) σ' μ') μ' σ'.length Sn) (st:Sn 0 s'.heap)
   (e:Evσ X σ μ s.heap (fun b=>X b∨W b) σ' μ' s'.heap) (hW:∀ b,W b→s.heap.get? b=none) (hwr:∀ b∈wr,W b) (hfp:∀ b∈fp,¬ Tr σ' μ' b∧¬ X b) (g:s'.gens=s.gens) (o:s'.os=s.os):PostI c A tg X σ μ s Q it s'
noncomputable def SimI(c:Ctx)(Γ:Gm)(e:Expr)(tg:Expr)(m:ME (List V)):Prop:=∀ A d X bs env F ρ σ μ s Q,Room A d→Rel c X σ μ s.heap→EnvR c X Γ bs env F ρ σ μ s.heap→m d ρ σ Q →
 wpAny c.M A (eval e env) (fun x s₁=>wpAny c.M A (pyIter x) (PostI c A tg X σ μ s Q) Bot s₁) Bot s
theorem Rel.wr{c:Ctx}{X:Nat→Prop}{σ:St}{μ:Nat→Nat}{h h':Heap}{wr:List Addr}(R:Rel c X σ μ h)(keep:∀ b o,b∉wr→h.get? b=some o→h'.get? b=some o)(hw:∀ b∈wr,X b∧¬ Tr σ μ b)(hl:∀ b∈wr,∃ o,h'.get? b=some o):Rel c X σ μ h':=by
 have vr:∀ v x,VRσ X σ μ h v x→VRσ X σ μ h' v x:=fun v x t=>by
  have ev:Evo h (fun b=>b∈wr) (Sx X σ μ) μ σ.length h' (fun b=>b∈wr) (Sx X σ μ) μ σ.length :=
   ⟨keep,fun a o e=>by
    by_cases z:a∈wr
    ·exact hl a z
    ·exact⟨o,keep a o z e⟩,fun a z=>.inr (hw a z).1,fun a z=>.inl z,fun a z=>.inl z,fun _ _=>rfl,Nat.le_refl _⟩
  exact t.mono ev
 have ev:Evo h (fun b=>b∈wr) (Sx X σ μ) μ σ.length h' (fun b=>b∈wr) (Sx X σ μ) μ σ.length :=
  ⟨keep,fun a o e=>by
   by_cases z:a∈wr
   ·exact hl a z
   ·exact⟨o,keep a o z e⟩,fun a z=>.inr (hw a z).1,fun a z=>.inl z,fun a z=>.inl z,fun _ _=>rfl,Nat.le_refl _⟩
 refine⟨fun b o e=>keep b o (fun z=>?_) (R.base b o e),R.out,R.inj,fun i o e=>(R.obj i o e).move ev fun o' e'=>keep _ _ (fun z=>(hw _ z).2 ⟨i,o,e,rfl⟩) e',fun a x=>?_⟩
 ·have:=(R.sh b (hw b z).1).1;rw[e] at this;cases this
 ·obtain⟨z0,o,e⟩:=R.sh a x
  by_cases z:a∈wr
  ·exact⟨z0,hl a z⟩
  ·exact⟨z0,o,keep a o z e⟩
noncomputable def forL(d:Nat)(tg:MA)(b:MS)(Q:Fl→Env'→St→Prop):List V→Env'→St→Prop
 | [],ρ,σ=>Q .next ρ σ
 | x::xs,ρ,σ=>tg d ρ x σ fun ρ σ=>b d ρ σ fun fl ρ σ=>match fl with
  | .next=>forL d tg b Q xs ρ σ
  | .cont=>forL d tg b Q xs ρ σ
  | .brk=>Q .next ρ σ
  | .ret v=>Q (.ret v) ρ σ
noncomputable def bv(it:ME (List V))(tg:MA)(b:MS):MS:=fun d ρ σ Q=>it d ρ σ fun xs σ=>forL d tg b Q xs ρ σ
theorem VM.leave{h h':Heap}{S S':Nat→Prop}{μ:Nat→Nat}{n:Nat}{wr:List Addr}(keep:∀ b o,b∉wr→h.get? b=some o→h'.get? b=some o)(hS:∀ a∈wr,S a)(hS':∀ a,S' a→S a):VM h S μ n h' S' μ n :=
 ⟨fun _ _ f e=>⟨keep _ _ (fun z=>f (hS _ z)) e,fun z=>f (hS' _ z)⟩,fun _ _ _=>rfl⟩
theorem VR.leave{h h':Heap}{S S':Nat→Prop}{μ:Nat→Nat}{n:Nat}{wr:List Addr}(keep:∀ b o,b∉wr→h.get? b=some o→h'.get? b=some o)(hS:∀ a∈wr,S a)(hS':∀ a,S' a→S a){v:Value}{x:V}(t:VR h S μ n v x):VR h' S' μ n v x:=t.map (.leave keep hS hS') (.inl (Nat.le_refl _))
theorem VRs.leave{h h':Heap}{S S':Nat→Prop}{μ:Nat→Nat}{n:Nat}{wr:List Addr}(keep:∀ b o,b∉wr→h.get? b=some o→h'.get? b=some o)(hS:∀ a∈wr,S a)(hS':∀ a,S' a→S a){v:List Value}{x:List V}(t:VRs h S μ n v x):VRs h' S' μ n v x:=t.map (.leave keep hS hS') (.inl (Nat.le_refl _))
theorem Rel.leave{c:Ctx}{X X':Nat→Prop}{σ:St}{μ:Nat→Nat}{h h':Heap}{wr:List Addr}(R:Rel c X' σ μ h)(keep:∀ b o,b∉wr→h.get? b=some o→h'.get? b=some o)(hw:∀ b∈wr,X' b∧¬ Tr σ μ b)
  (hX:∀ b,X b→X' b∧(b∉wr∨∃ o,h'.get? b=some o)):Rel c X σ μ h':=by
 have vr:∀ v x,VRσ X' σ μ h v x→VRσ X σ μ h' v x:=fun v x t=>t.leave keep (fun a z=>.inr (hw a z).1) fun a z=>z.imp id fun z=>(hX a z).1
 have vrs:∀ (vs:List Value) (xs:List V),VRs h (Sx X' σ μ) μ σ.length vs xs→VRs h' (Sx X σ μ) μ σ.length vs xs:=fun v x t=>t.leave keep (fun a z=>.inr (hw a z).1) fun a z=>z.imp id fun z=>(hX a z).1
 refine⟨fun b o e=>keep b o (fun z=>?_) (R.base b o e),R.out,R.inj,fun i o e=>?_,fun a x=>?_⟩
 ·have:=(R.sh b (hw b z).1).1;rw[e] at this;cases this
 ·have k:μ i∉wr:=fun z=>(hw _ z).2 ⟨i,o,e,rfl⟩
  cases R.obj i o e with
  | list e1 x=>exact .list (keep _ _ k e1) (vrs _ _ x)
  | dict e1 x u y =>
   refine .dict (keep _ _ k e1) ?_ u y
   clear u y e1 e
   induction x with
   | nil=>exact .nil
   | cons a b q _ ih=>exact .cons (vr _ _ a) (vr _ _ b) q ih
  | ns e1 x =>
   refine .ns (keep _ _ k e1) ?_
   clear e1 e
   induction x with
   | nil=>exact .nil
   | cons a b _ ih=>exact .cons a (vr _ _ b) ih
 ·obtain⟨hx,hz⟩:=hX a x
  obtain⟨z0,o,e⟩:=R.sh a hx
  rcases hz with z | z
  ·exact⟨z0,o,keep a o z e⟩
  ·exact⟨z0,z⟩
theorem EnvR.wr{c:Ctx}{X X':Nat→Prop}{Γ:Gm}{bs:Nat}{env:Env}{F:Nat→Prop}{ρ:Env'}{σ:St}{μ:Nat→Nat}{h h':Heap}{wr:List Addr}(E:EnvR c X' Γ bs env F ρ σ μ h)(keep:∀ b o,b∉wr→h.get? b=some o→h'.get? b=some o)
  (hw:∀ b∈wr,X' b) (hX:∀ b,X b→X' b) (hF:∀ b,F b→b∉wr∧X b) (hc:∀ x i a,Γ.lookup x=some (some i)→env.kindOf x≠some .local→env.cells.lookup x=some a→a∉wr):EnvR c X Γ bs env F ρ σ μ h' :=
 E.map (fun b=>b∉wr) (fun v x t=>t.leave keep (fun a z=>.inr (hw a z)) fun a z=>z.imp id fun z=>hX a z) keep (fun _ _ k _=>k) (fun b hb=>(hF b hb).1) (fun b hb=>(hF b hb).2) fun x i a hx hk ha _=>hc x i a hx hk ha
inductive ForI (c:Ctx) (Γ:Gm) (bs:Nat) (env:Env) (F G X':Nat→Prop) (xs:List V) (fp:List Addr) (Sn:Nat→Heap→Prop) (σ₂:St) (μ₂:Nat→Nat) (h₂:Heap) (s:Shared) (L:List V→Env'→St→Prop) (n:Nat) (s':Shared):Prop
 | mk (i:Nat) (ρ':Env') (σ':St) (μ':Nat→Nat) (hn:n=xs.length+1 - i) (hi:i≤xs.length) (q:L (xs.drop i) ρ' σ') (R:Rel c X' σ' μ' s'.heap) (ev:Evf G X' σ₂ μ₂ h₂ σ' μ' s'.heap) (E:EnvR c X' Γ bs env F ρ' σ' μ' s'.heap) (st:Sn i s'.heap)
  (nT:∀ b∈fp,¬ Tr σ' μ' b) (g:s'.gens=s.gens) (o:s'.os=s.os):ForI c Γ bs env F G X' xs fp Sn σ₂ μ₂ h₂ s L n s'
theorem w0{c:Ctx}{Γ:Gm}{bs:Nat}{tg it:Expr}{body:List Stmt}{mi:ME (List V)}{mt:MA}{mb:MS}{pos:Pos}(hi:SimI c Γ it tg mi)(ht:SimA c Γ bs tg mt)(hb:SimB c Γ bs body mb)
  (hs:∀ env x,foldedSetIterable it env x=pure x):SimS c Γ bs (.For tg it body [] pos) (bv mi mt mb):=by
 intro A d X env F ρ σ μ s Q hA R E h
 rw[arm_exec_For]
 refine wpAny_bind (wpAny_standAt (wpAny_bind (wpAny_mono (hi A d X bs env F ρ σ μ s _ hA R E h) (fun x s₁ hx=>?_) fun _ _ e=>e)))
 refine wpAny_bind (wpAny_of_eq (hs env x) (wpAny_bind (wpAny_standAt (wpAny_bind (wpAny_holding (wpAny_mono hx (fun itv s₂ hp=>?_) fun _ _ e=>e))))))
 obtain⟨xs,σ₂,μ₂,I,fp,wr,Sn,W,q,rfl,R₂,K,st,e₂,hW,hwr,hfp,g₂,o₂⟩:=hp
 let X':Nat→Prop:=fun b=>X b∨W b
 have hFX':∀ a,F a→X' a:=fun a ha=>.inl (E.fx a ha)
 have E₂:EnvR c X' Γ bs env F ρ σ₂ μ₂ s₂.heap:=E.mono' e₂ hFX'
 have hFW:∀ b,F b→¬ W b:=fun b hb hw=>by obtain⟨_,_,o,e⟩:=E.fr b hb;rw[hW b hw] at e;cases e
 have hcW:∀ x i a,Γ.lookup x=some (some i)→env.kindOf x≠some .local→env.cells.lookup x=some a→¬ W a:=fun x i a hx hk ha hw=>by
  rcases E.ce x i hx with hk' | ⟨_,a',ov,ha',⟨o,ho,_⟩,_⟩
  ·exact hk hk'
  ·rw[ha] at ha';cases ha';rw[hW a hw] at ho;cases ho
 let G:Nat→Prop:=fun b=>F b∨W b
 have hGX:∀ b,G b→X' b:=fun b hb=>hb.elim (hFX' b) .inr
 let Inv:Nat→Shared→Prop:=ForI c Γ bs env F G X' xs fp Sn σ₂ μ₂ s₂.heap s (forL d mt mb Q)
 refine wpAny_runOwn (codeAny_forLoop_any Inv ?_ (xs.length+1)
  ⟨0,ρ,σ₂,μ₂,by lia,Nat.zero_le _,by simpa using q,R₂,(Evσ.refl X' σ₂ μ₂ s₂.heap).toF hGX,E₂,st,fun b hb=>(hfp b hb).1,g₂,o₂⟩) (by intro z;cases z)
 rintro n s' ⟨i,ρ',σ',μ',rfl,hi,hq,R',ev',E',st',nT,g',o'⟩
 have hwX:∀ b∈wr,X' b∧¬ Tr σ' μ' b:=fun b hb=>⟨.inr (hwr b hb),nT b (K.sub b hb)⟩
 have fin:∀ {fl:Fl} {f:Flow} {ρ₃:Env'} {σ₃:St} {μ₃:Nat→Nat} {s₃:Shared} {h':Heap} {tk:Nat},Q fl ρ₃ σ₃→Rel c X' σ₃ μ₃ s₃.heap→Evf G X' σ₂ μ₂ s₂.heap σ₃ μ₃ s₃.heap→EnvR c X' Γ bs env F ρ₃ σ₃ μ₃ s₃.heap→(∀ b∈fp,¬ Tr σ₃ μ₃ b) →
   FlR X' σ₃ μ₃ s₃.heap f fl→s₃.gens=s.gens→s₃.os=s.os→(∀ b o,b∉wr→s₃.heap.get? b=some o→h'.get? b=some o)→PostS c Γ bs env F X σ μ s Q f { s₃ with heap:=h',toks:=tk }:=by
  intro fl f ρ₃ σ₃ μ₃ s₃ h' tk q₃ R₃ ev₃ E₃ nT₃ tf g₃ o₃ keep
  have hX:∀ b,X b→b∉wr:=fun b hb hw=>(hfp b (K.sub b hw)).2 hb
  refine⟨fl,ρ₃,σ₃,μ₃,q₃,R₃.leave keep (fun b hb=>⟨.inr (hwr b hb),nT₃ b (K.sub b hb)⟩) fun b hb=>⟨.inl hb,.inl (hX b hb)⟩,?_,?_,?_,g₃,o₃⟩
  ·cases tf with
   | next=>exact .next
   | ret t=>exact .ret (t.leave keep (fun a z=>.inr (.inr (hwr a z))) fun a z=>z.imp id .inl)
   | brk=>exact .brk
   | cont=>exact .cont
  ·have alloc:∀ b o,s.heap.get? b=some o→¬ W b:=fun b o e hw=>by rw[hW b hw] at e;cases e
   have none₂:∀ b,s₂.heap.get? b=none→s.heap.get? b=none:=fun b hb=>by
    cases z:s.heap.get? b with
    | none=>rfl
    | some o=>obtain⟨o',e⟩:=e₂.live b o z;rw[hb] at e;cases e
   have hsub:∀ b,Tr σ₃ μ₃ b→Fb F σ μ b∨s.heap.get? b=none:=fun b hb=>by
    rcases ev₃.subT b (.inl hb) with (ht | hF | hw) | hn
    ·exact (e₂.subT b ht).imp .inl id
    ·exact .inl (.inr hF)
    ·exact .inr (hW b hw)
    ·exact .inr (none₂ b hn)
   refine⟨fun b o hb e=>keep b o (fun hw=>alloc b o e (hwr b hw)) (ev₃.keep b o (fun hz=>?_) (e₂.keep b o (fun ht=>hb (.inl ht)) e)),fun b o e=>?_,fun b hb=>hb.elim .inl fun hf=>.inr (E.fx b hf),fun b hb=>?_,fun b hb=>?_,fun j hj=>(ev₃.mu j (Nat.lt_of_lt_of_le hj e₂.le)).trans (e₂.mu j hj),Nat.le_trans e₂.le ev₃.le⟩
   ·rcases hz with ht | hF | hw
    ·rcases e₂.subT b ht with ht | hn
     ·exact hb (.inl ht)
     ·rw[hn] at e;cases e
    ·exact hb (.inr hF)
    ·exact alloc b o e hw
   ·obtain⟨o1,e1⟩:=e₂.live b o e
    obtain⟨o2,e2⟩:=ev₃.live b o1 e1
    exact⟨o2,keep b o2 (fun hw=>alloc b o e (hwr b hw)) e2⟩
   ·rcases hb with ht | hF
    ·exact hsub b ht
    ·exact .inl (.inr hF)
   ·rcases hb with ht | hX
    ·rcases hsub b ht with (h1 | h1) | h1
     ·exact .inl (.inl h1)
     ·exact .inl (.inr (E.fx b h1))
     ·exact .inr h1
    ·exact .inl (.inr hX)
  ·exact E₃.wr keep (fun b hb=>.inr (hwr b hb)) (fun b hb=>.inl hb) (fun b hb=>⟨fun hw=>hFW b hb (hwr b hw),E.fx b hb⟩) fun x i a hx hk ha hw=>hcW x i a hx hk ha (hwr a hw)
 cases hd:xs.drop i with
 | nil =>
  rw[hd] at hq
  have hlen:i=xs.length:=by have:=congrArg List.length hd;simp at this;lia
  subst hlen
  refine wpAny_mono (K.done s' (fun s₃=>PostS c Γ bs env F X σ μ s Q .next s₃) _ st' fun h' tk keep=>fin hq R' ev' E' nT .next g' o' keep) (fun r s₃ hr=>?_) fun _ _ e=>e
  obtain⟨rfl,hr⟩:=hr
  exact wpAny_execs_nil hr
 | cons x rest =>
  rw[hd] at hq
  have hx:xs[i]?=some x:=by have:=congrArg (·[0]?) hd;simpa using this
  have hr:xs.drop (i+1)=rest:=by rw[← List.drop_drop,hd];rfl
  let Aft:Flow→Shared→Prop:=fun f s₆=>match f with
   | .next=>∃ m,m < xs.length+1 - i∧Inv m s₆
   | .cont=>∃ m,m < xs.length+1 - i∧Inv m s₆
   | .brk=>PostS c Γ bs env F X σ μ s Q .next s₆
   | .ret v=>PostS c Γ bs env F X σ μ s Q (.ret v) s₆
  refine wpAny_mono (K.item i x s' (fun v s₃=>wpAny c.M A (assign tg env v) (fun _ s₄=>wpAny c.M A (execs body env) Aft Bot s₄) Bot s₃) Bot hx st' fun v h' tk ti st₁ keep=>?_) (fun r s₃ hr=>?_) fun _ _ e=>e.elim
  ·let s₃:Shared:={ s' with heap:=h',toks:=tk }
   have hil:i < xs.length:=(List.getElem?_eq_some_iff.mp hx).1
   have live:∀ b∈wr,∃ o,h'.get? b=some o:=fun b hb=>K.live _ _ st₁ b (K.sub b hb)
   have R₃:Rel c X' σ' μ' s₃.heap:=R'.wr keep hwX live
   have ev₃:Evf G X' σ' μ' s'.heap σ' μ' s₃.heap:=by
    refine⟨fun b o hb e=>keep b o (fun hw=>hb (.inr (.inr (hwr b hw)))) e,fun b o e=>?_,fun b hb=>hb.elim .inl fun hg=>.inr (hGX b hg),fun b hb=>.inl hb,fun b hb=>.inl hb,fun _ _=>rfl,Nat.le_refl _⟩
    by_cases hw:b∈wr
    ·exact live b hw
    ·exact⟨o,keep b o hw e⟩
   have E₃:EnvR c X' Γ bs env F ρ' σ' μ' s₃.heap:=E'.wr keep (fun b hb=>.inr (hwr b hb)) (fun b hb=>hb) (fun b hb=>⟨fun hw=>hFW b hb (hwr b hw),hFX' b hb⟩) fun x i a hx hk ha hw=>hcW x i a hx hk ha (hwr a hw)
   have tv:VRσ X' σ' μ' s₃.heap v x:=ti.vr (ev'.trans ev₃) fun a ha=>R'.fresh ha
   have hq':mt d ρ' x σ' fun ρ σ=>mb d ρ σ fun fl ρ σ=>match fl with
    | .next=>forL d mt mb Q rest ρ σ
    | .cont=>forL d mt mb Q rest ρ σ
    | .brk=>Q .next ρ σ
    | .ret v=>Q (.ret v) ρ σ:=hq
   have toG:∀ {σa σb:Mine.St} {μa μb:Nat→Nat} {ha hb:Heap},Evf F X' σa μa ha σb μb hb→Evf G X' σa μa ha σb μb hb:=fun ev =>
    ⟨fun b o hb e=>ev.keep b o (fun hz=>hb (hz.imp id .inl)) e,ev.live,fun b hb=>hb.elim .inl fun hg=>.inr (hGX b hg),fun b hb=>hb.elim (fun ht=>(ev.subT b (.inl ht)).imp (Or.imp id .inl) id) fun hg=>.inl (.inr hg),ev.sub,ev.mu,ev.le⟩
   refine cb (ht A d X' env F ρ' σ' μ' s₃ v x _ hA R₃ E₃ tv hq') fun _ ρ₄ σ₄ μ₄ s₄ q₄ R₄ e₄ E₄ g₄ o₄=>?_
   refine gw (hb A d X' env F ρ₄ σ₄ μ₄ s₄ _ hA R₄ E₄ q₄) fun f fl ρ₅ σ₅ μ₅ s₅ q₅ R₅ tf e₅ E₅ g₅ o₅=>?_
   have evA:=((ev'.trans ev₃).trans (toG e₄)).trans (toG e₅)
   have eF:=e₄.trans e₅
   have hlv:∀ b∈fp,∃ o,s₃.heap.get? b=some o:=fun b hb=>K.live _ _ st₁ b hb
   have nT₅:∀ b∈fp,¬ Tr σ₅ μ₅ b:=fun b hb ht=>by
    obtain⟨o,ho⟩:=hlv b hb
    rcases eF.subT b (.inl ht) with (ht | hF) | hn
    ·exact nT b hb ht
    ·exact (hfp b hb).2 (E.fx b hF)
    ·rw[ho] at hn;cases hn
   have st₅:Sn (i+1) s₅.heap:=K.frame _ _ _ st₁ fun b hb o e=>eF.keep b o (fun hz=>hz.elim (nT b hb) fun hF=>(hfp b hb).2 (E.fx b hF)) e
   have gg:s₅.gens=s.gens:=g₅.trans (g₄.trans g')
   have oo:s₅.os=s.os:=o₅.trans (o₄.trans o')
   cases tf with
   | next=>exact⟨xs.length+1 - (i+1),by lia,i+1,ρ₅,σ₅,μ₅,rfl,hil,by rw[hr];exact q₅,R₅,evA,E₅,st₅,nT₅,gg,oo⟩
   | cont=>exact⟨xs.length+1 - (i+1),by lia,i+1,ρ₅,σ₅,μ₅,rfl,hil,by rw[hr];exact q₅,R₅,evA,E₅,st₅,nT₅,gg,oo⟩
   | brk=>exact fin (s₃:=s₅) (h':=s₅.heap) (tk:=s₅.toks) q₅ R₅ evA E₅ nT₅ .next gg oo fun _ _ _ e=>e
   | ret t=>exact fin (s₃:=s₅) (h':=s₅.heap) (tk:=s₅.toks) q₅ R₅ evA E₅ nT₅ (.ret t) gg oo fun _ _ _ e=>e
  ·obtain⟨v,rfl,w⟩:=hr
   exact wpAny_mono w (fun _ s₄ w=>wpAny_mono w (fun _ s₅ w=>wpAny_mono w (fun f s₆ w=>by cases f<;>exact w) (fun _ _ e=>e.elim)) (fun _ _ e=>e.elim)) (fun _ _ e=>e.elim)
end
section
noncomputable def ownedTypes:List String:=["enumerate","zip","dict_itemiterator","dict_reverseitemiterator","odict_iterator","itertools.zip_longest","itertools.pairwise"]
set_option backward.match.sparseCases true in
theorem jR{M:Model}{A:Around}{tg:Expr}{I:Addr}{v:Value}{o:Obj}{T:String}{s:Shared}{Q:Unit→Shared→Prop}{E:Value→Shared→Prop}(ho:s.heap.get? I=some o)(hc:o.cls=.type T)(hT:ownedTypes.contains T=false)(h:Q () s) :
  wpAny M A (letOwnedTupleGo tg (.ref I) v) Q E s:=by
 have go:wpAny M A (do
   let (.ref r,.ref a):=(Value.ref I,v) | return
   let o ← load r
   match o.cls,o.data with
   | .type n,.fields vs =>
    if ownedTypes.contains n&&vs[0]?==some (rawInt a) then
     rule "for.unpacks-the-owned-tuple"
     updateField r 0 .none
   | _,_=>pure ()) Q E s:=by
  cases v with
  | ref a =>
   refine wpAny_bind (wpAny_load ho ?_)
   obtain⟨cl,d,dt,sl⟩:=o
   dsimp only at hc
   subst hc
   cases dt with
   | fields vs =>
    dsimp only
    rw[hT,Bool.false_and,if_neg (by decide)]
    exact wpAny_pure h
   | _=>exact wpAny_pure h
  | _=>exact wpAny_pure h
 cases tg with
 | Tuple _ _ _=>exact go
 | List _ _=>exact go
 | _=>exact wpAny_pure h
theorem Wk.of_walks{c:Ctx}{A:Around}{tg:Expr}{I:Addr}{fp wr:List Addr}{xs:List V}{h₀:Heap}{S₀:Nat→Prop}{μ₀:Nat→Nat}{n₀ n:Nat}{P:Nat→Value→Prop}{Sn:Nat→Heap→Prop}(W:Walks c.prog c.w A I fp wr n P Sn)(hn:n=xs.length)
  (hP:∀ i v x,P i v→xs[i]?=some x→∀ hb h,It h₀ S₀ μ₀ n₀ hb h v x) (hI:∀ i h,Sn i h→∃ o T,h.get? I=some o∧o.cls=.type T∧ownedTypes.contains T=false) (live:∀ i h,Sn i h→∀ b∈fp,∃ o,h.get? b=some o):Wk c A tg I fp wr xs h₀ S₀ μ₀ n₀ Sn where
 sub:=W.sub
 frame:=W.frame
 live:=live
 item:=fun i x s P' E hx st h=>by
  have hi:i < n:=by rw[hn];exact (List.getElem?_eq_some_iff.mp hx).1
  refine W.item i s _ E hi st fun v h' tk hp st' keep=>⟨v,rfl,?_⟩
  obtain⟨o,T,ho,hc,hT⟩:=hI _ _ st'
  exact jR (s:={ s with heap:=h',toks:=tk }) ho hc hT (h v h' tk (hP i v x hp hx _ _) st' keep)
 done:=fun s P' E st h=>W.done s _ E (hn▸st) fun h' tk keep=>⟨rfl,h h' tk keep⟩
 self:=W.self
noncomputable def cN(σ:St)(x:V)(k:List V→Prop):Prop:=match x with
 | .fl l=>k l
 | .tup l=>k l
 | .rng a b st=>st≠0∧Builtin.Range.small a b st=true∧k ((List.range (Builtin.Range.rangeSize a b st).toNat).map fun (i:Nat)=>V.int (a+i * st))
 | _=>False
noncomputable def aG(a:ME V):ME (List V):=fun d ρ σ Q=>a d ρ σ fun x σ=>cN σ x (Q · σ)
theorem jU(a b c:Int):0≤Builtin.Range.rangeSize a b c:=by
 unfold Builtin.Range.rangeSize
 split
 ·split
  ·have:0≤(b - a - 1) / c:=Int.ediv_nonneg (by lia) (by lia)
   lia
  ·exact Int.le_refl _
 ·split
  ·have:0≤(a - b - 1) / (-c):=Int.ediv_nonneg (by lia) (by lia)
   lia
  ·exact Int.le_refl _
theorem rn{c:Ctx}{A:Around}{tg:Expr}{X:Nat→Prop}{σ σ₀:St}{μ μ₀:Nat→Nat}{s s₀:Shared}{v:Value}{x:V}{Q:List V→St→Prop}(hA:A.handled=none)(R:Rel c X σ μ s.heap)(t:VRσ X σ μ s.heap v x)(h:cN σ x (Q · σ))
  (ev:Evσ X σ₀ μ₀ s₀.heap X σ μ s.heap) (g:s.gens=s₀.gens) (o:s.os=s₀.os):wpAny c.M A (pyIter v) (PostI c A tg X σ₀ μ₀ s₀ Q) Bot s:=by
 have hnone:∀ b,s.heap.get? b=none→s₀.heap.get? b=none:=fun b hb=>by
  cases z:s₀.heap.get? b with
  | none=>rfl
  | some o=>obtain⟨o',e⟩:=ev.live b o z;rw[hb] at e;cases e
 let W:Nat→Prop:=fun b=>b=s.heap.objs.size
 let X':Nat→Prop:=fun b=>X b∨W b
 have op:∀ o:Obj,o.isFreed=false→Rel c X' σ μ (s.heap.push o)∧Evσ X σ μ s.heap X' σ μ (s.heap.push o):=fun o ho =>
  R.opens (fun _ _ e=>Heap.get?_push_of_some o e) fun a ha=>ha.imp id fun hW=>by
   have hW:a=s.heap.objs.size:=hW
   subst hW
   exact⟨bc _,o,Heap.get?_push_size _ ho⟩
 have hfI:∀ b,b=s.heap.objs.size→¬ Tr σ μ b∧¬ X b:=fun b hb=>by
  subst hb
  have:=R.fresh (bc s.heap)
  exact⟨fun z=>this (.inl z),fun z=>this (.inr z)⟩
 have hfa:∀ {a:Addr},¬ Sx X σ μ a→¬ Tr σ μ a∧¬ X a:=fun f=>⟨fun z=>f (.inl z),fun z=>f (.inr z)⟩
 have hWn:∀ b,W b→s₀.heap.get? b=none:=fun b hb=>hnone b (by have hb:b=s.heap.objs.size:=hb;rw[hb];exact bc _)
 cases x with
 | fl l =>
  replace t:=t.inv;obtain⟨ad,items,k,rfl,e,f,t⟩:=t
  have hne:ad≠s.heap.objs.size:=Nat.ne_of_lt (Heap.lt_size e)
  refine wpAny_pyIter_list (isList e) ?_
  obtain⟨R',e'⟩:=op { cls:=.type "list_iterator",data:=.fields #[.ref ad,.int 0 0] } rfl
  have hl':(s.heap.push { cls:=.type "list_iterator",data:=.fields #[.ref ad,.int 0 0] }).IsList ad items.toArray:=isList (Heap.get?_push_of_some _ e)
  have tt:=t.mono e'
  refine⟨l,σ,μ,s.heap.objs.size,[s.heap.objs.size,ad],[s.heap.objs.size],(fun i h=>h.IsListIter s.heap.objs.size ad i∧h.IsList ad items.toArray),W,h,rfl,R',Wk.of_walks (Walks.list hA _ _ hne items.toArray) (by simpa using t.length) (fun i v x hp hx hb h=>?_) (fun i h st=>?_) (fun i h st b hb=>?_),⟨⟨_,Heap.get?_push_size _ rfl,rfl,rfl⟩,hl'⟩,ev.trans e',hWn,fun b hb=>by simpa [W] using hb,fun b hb=>?_,g,o⟩
  ·obtain⟨v',hv,tv⟩:=tt.get hx
   have:items[i]?=some v:=by simpa using hp
   rw[this] at hv;cases hv
   exact .old tv
  ·obtain⟨⟨o,h1,h2,_⟩,_⟩:=st
   exact⟨o,_,h1,h2,by decide⟩
  ·simp only[List.mem_cons,List.not_mem_nil,or_false] at hb
   obtain⟨⟨o,h1,_⟩,⟨o',h1',_⟩⟩:=st
   rcases hb with rfl | rfl
   ·exact⟨o,h1⟩
   ·exact⟨o',h1'⟩
  ·simp only[List.mem_cons,List.not_mem_nil,or_false] at hb
   rcases hb with rfl | rfl
   ·exact hfI _ rfl
   ·exact hfa f
 | tup l =>
  replace t:=t.inv;obtain⟨ad,items,rfl,e,f,t⟩:=t
  have hne:ad≠s.heap.objs.size:=Nat.ne_of_lt (Heap.lt_size e)
  have hT:s.heap.IsTuple ad items.toArray:=⟨_,e,rfl,0,rfl⟩
  refine wpAny_pyIter_tuple hT ?_
  obtain⟨R',e'⟩:=op { cls:=.type "tuple_iterator",data:=.fields #[.ref ad,.int 0 0] } rfl
  have hl':(s.heap.push { cls:=.type "tuple_iterator",data:=.fields #[.ref ad,.int 0 0] }).IsTuple ad items.toArray:=⟨_,Heap.get?_push_of_some _ e,rfl,0,rfl⟩
  have tt:=t.mono e'
  refine⟨l,σ,μ,s.heap.objs.size,[s.heap.objs.size,ad],[s.heap.objs.size],(fun i h=>h.IsTupleIter s.heap.objs.size ad i∧h.IsTuple ad items.toArray),W,h,rfl,R',Wk.of_walks (Walks.tuple hA _ _ hne items.toArray) (by simpa using t.length) (fun i v x hp hx hb h=>?_) (fun i h st=>?_) (fun i h st b hb=>?_),⟨⟨_,Heap.get?_push_size _ rfl,rfl,rfl⟩,hl'⟩,ev.trans e',hWn,fun b hb=>by simpa [W] using hb,fun b hb=>?_,g,o⟩
  ·obtain⟨v',hv,tv⟩:=tt.get hx
   have:items[i]?=some v:=by simpa using hp
   rw[this] at hv;cases hv
   exact .old tv
  ·obtain⟨⟨o,h1,h2,_⟩,_⟩:=st
   exact⟨o,_,h1,h2,by decide⟩
  ·simp only[List.mem_cons,List.not_mem_nil,or_false] at hb
   obtain⟨⟨o,h1,_⟩,⟨o',h1',_⟩⟩:=st
   rcases hb with rfl | rfl
   ·exact⟨o,h1⟩
   ·exact⟨o',h1'⟩
  ·simp only[List.mem_cons,List.not_mem_nil,or_false] at hb
   rcases hb with rfl | rfl
   ·exact hfI _ rfl
   ·exact hfa f
 | rng a b st =>
  obtain⟨h0,hsm,h⟩:=h
  obtain⟨_,_,_,_,rfl,e,f⟩:=t.inv
  refine wpAny_pyIter_range e hsm ?_
  obtain⟨R',e'⟩:=op { cls:=.type "range_iterator",data:=.fields #[rawInt a,rawInt (Builtin.Range.rangeSize a b st),rawInt st] } rfl
  have hpos:0≤Builtin.Range.rangeSize a b st:=jU a b st
  refine⟨_,σ,μ,s.heap.objs.size,[s.heap.objs.size],[s.heap.objs.size],(fun i h=>IsRangeIter h s.heap.objs.size (a+(i:Nat) * st) (((Builtin.Range.rangeSize a b st).toNat:Int) - (i:Nat)) st),W,h,rfl,R',Wk.of_walks (Walks.range hA _ a st (Builtin.Range.rangeSize a b st).toNat) (by simp) (fun i v x hp hx hb h=>?_) (fun i h st=>⟨_,_,st,rfl,by decide⟩) (fun i h st b hb=>?_),?_,ev.trans e',hWn,fun b hb=>by simpa [W] using hb,fun b hb=>?_,g,o⟩
  ·obtain⟨tk,rfl⟩:=hp
   rw[List.getElem?_map,List.getElem?_range (by
    rcases Nat.lt_or_ge i (Builtin.Range.rangeSize a b st).toNat with q | q
    ·exact q
    ·rw[List.getElem?_eq_none (by simpa using q)] at hx;cases hx)] at hx
   cases hx
   exact .int _ _
  ·simp only[List.mem_cons,List.not_mem_nil,or_false] at hb
   subst hb;exact⟨_,st⟩
  ·show IsRangeIter _ _ _ _ _
   rw[show ((0:Nat):Int) * st=0 by simp,Int.add_zero,show (((Builtin.Range.rangeSize a b st).toNat:Int) - ((0:Nat):Int))=Builtin.Range.rangeSize a b st by lia]
   exact Heap.get?_push_size _ rfl
  ·simp only[List.mem_cons,List.not_mem_nil,or_false] at hb
   exact hfI _ hb
 | _=>exact h.elim
theorem s5{c:Ctx}{Γ:Gm}{e tg:Expr}{a:ME V}(ha:SimE c Γ e a):SimI c Γ e tg (aG a):=by
 intro A d X bs env F ρ σ μ s Q hA R E h
 exact aC (ha A d X bs env F ρ σ μ s _ hA R E h) fun u x σ₁ μ₁ s₁ q R₁ t₁ e₁ g₁ o₁=>rn hA.handled R₁ t₁ q e₁ g₁ o₁
end
section
noncomputable def SimF(c:Ctx)(Γ:Gm)(ifs:List Expr)(m:ME Bool):Prop:=∀ A d X bs env F ρ σ μ s Q,Room A d→Rel c X σ μ s.heap→EnvR c X Γ bs env F ρ σ μ s.heap→m d ρ σ Q →
 wpAny c.M A (forIn ifs true fun c r=>if r=true then do let ok ← isTrue c env (eval c env);pure (ForInStep.yield ok) else pure (ForInStep.yield r)) (Post c RB X σ μ s Q) Bot s
theorem w9{c:Ctx}{Γ:Gm}:SimF c Γ [] (aD true):=fun _ _ _ _ _ _ _ _ _ _ _ _ R _ h=>by rw[List.forIn_nil];exact wpAny_pure (Post.here R rfl h)
theorem xp{c:Ctx}{Γ:Gm}{e:Expr}{m:ME Bool}(he:SimT c Γ e m):SimF c Γ [e] m:=fun A d X bs env F ρ σ μ s Q hA R E h=>by
 rw[List.forIn_cons,if_pos rfl]
 refine wpAny_bind (wpAny_bind (wpAny_mono (he A d X bs env F ρ σ μ s Q hA R E h) (fun b s' hp=>wpAny_pure ?_) fun _ _ e=>e))
 show wpAny _ _ (forIn [] b _) _ _ _
 rw[List.forIn_nil];exact wpAny_pure hp
noncomputable def cG(scope:Scope)(cl:List (Str×Addr))(L:Addr)(env:Env):Env:={ newEnv scope L env.globals (cellsFrom (L+1) scope.names cl) env.qual none .none (some env) builtinsNs with scope:=relabel scope env }
theorem tJ{M:Model}{A:Around}{scope:Scope}{cl:List (Str×Addr)}{env:Env}{s:Shared}{Q:Env→Shared→Prop}{E:Value→Shared→Prop}
  (h:Q (newEnv scope s.heap.objs.size env.globals (cellsFrom (s.heap.objs.size+1) scope.names cl) env.qual none .none (some env) builtinsNs) { s with heap:=pushCells (s.heap.push { cls:=.type "dict",data:=.dict #[] }) scope.names }) :
  wpAny M A (newFunctionEnv scope env.globals cl [] env.qual none .none (some env)) Q E s:=by
 simp only[newFunctionEnv,Option.isSome_some,if_true]
 refine wpAny_bind (wpAny_alloc ?_)
 refine wpAny_bind (wpAny_layCells _ (fun name kind cells=>by cases hkc:kind==NameKind.cell<;>simp[hkc]) _ _ _ _ ?_)
 rw[show ({ s with heap:=s.heap.push { cls:=.type "dict",data:=.dict #[] } }:Shared).heap.objs.size=s.heap.objs.size+1 from Heap.size_push ..]
 rw[List.forIn_nil]
 exact wpAny_bind (wpAny_pure (wpAny_pure h))
end
section
noncomputable def compOk(Γ Γ':Gm)(N:Nat)(names:List (Str×NameKind)):Bool :=
 Γ'.fn.isNone&&(Γ'.sl.all (fun p=>match Γ'.lookup p.1 with
  | some (some i)=>(if i < N then names.lookup p.1==some .free&&Γ.lookup p.1==some (some i)&&Γ.ck.contains p.1&&names.all (fun q=>q.1 != p.1||q.2==.free)
    else names.lookup p.1==some .local||names.lookup p.1==some .cell)&&Γ'.sl.all (fun q=>match Γ'.lookup q.1 with
    | some (some j)=>i != j||p.1==q.1
    | _=>true)
  | some none=>names.lookup p.1==some .globalImplicit
  | none=>true)&&Γ'.ck.all (fun x=>names.lookup x==some .cell||names.lookup x==some .free) &&
 names.all (fun p=>(p.2 != .free||(Γ.ck.contains p.1&&(Γ.lookup p.1).any (·.isSome)))&&(p.2 != .local||names.lookup p.1==some .local)))
noncomputable def clFrom(env:Env)(names:List (Str×NameKind))(acc:List (Str×Addr)):List (Str×Addr):=((names.filter fun p=>p.2==.free).map fun p=>(p.1,(env.cells.lookup p.1).getD 0)).reverse++acc
theorem sG(env:Env)(n:Str)(k:NameKind)(r:List (Str×NameKind))(acc:List (Str×Addr)):clFrom env ((n,k)::r) acc=if k==.free then clFrom env r ((n,(env.cells.lookup n).getD 0)::acc) else clFrom env r acc:=by
 unfold clFrom
 by_cases hk:(k==NameKind.free)=true
 ·rw[if_pos hk,List.filter_cons,if_pos hk,List.map_cons,List.reverse_cons,List.append_assoc];rfl
 ·rw[if_neg hk,List.filter_cons,if_neg hk]
theorem r6{env:Env}{scope:Scope}(h:∀ p∈scope.names,p.2=.free→∃ a,env.cells.lookup p.1=some a):closureFor scope env=pure (clFrom env scope.names []):=by
 have key:∀ (names:List (Str×NameKind)) (acc:List (Str×Addr)) (f:Str×NameKind→List (Str×Addr)→Sem (ForInStep (List (Str×Addr)))),
   (∀ n k cs,f (n,k) cs=if k==.free then (do let a ← cellOf env n;pure (.yield ((n,a)::cs))) else pure (.yield cs))→(∀ p∈names,p.2=.free→∃ a,env.cells.lookup p.1=some a)→forIn names acc f=pure (clFrom env names acc):=by
  intro names
  induction names with
  | nil=>intro acc f _ _;rfl
  | cons p r ih =>
   intro acc f hf hp
   obtain⟨n,k⟩:=p
   rw[List.forIn_cons,hf]
   rw[sG]
   by_cases hk:(k==NameKind.free)=true
   ·rw[if_pos hk,if_pos hk]
    obtain⟨a,ha⟩:=hp (n,k) List.mem_cons_self (eq_of_beq hk)
    unfold cellOf
    dsimp only at ha
    rw[ha]
    exact ih _ f hf fun q hq=>hp q (List.mem_cons_of_mem _ hq)
   ·rw[if_neg hk,if_neg hk]
    exact ih _ f hf fun q hq=>hp q (List.mem_cons_of_mem _ hq)
 unfold closureFor
 dsimp only
 rw[key scope.names [] _ (fun n k cs=>by cases hk:k==NameKind.free<;>simp[hk]) h]
 rfl
theorem oj{env:Env}{names:List (Str×NameKind)}{acc:List (Str×Addr)}{p:Str×Addr}(h:p∈clFrom env names acc):p∈acc∨((p.1,.free)∈names∧p.2=(env.cells.lookup p.1).getD 0):=by
 rcases List.mem_append.mp h with h | h
 ·obtain⟨q,hq,rfl⟩:=List.mem_map.mp (List.mem_reverse.mp h)
  obtain⟨h1,h2⟩:=List.mem_filter.mp hq
  obtain⟨x,k⟩:=q
  cases eq_of_beq h2
  exact .inr ⟨h1,rfl⟩
 ·exact .inl h
theorem jB(env:Env)(names:List (Str×NameKind))(acc:List (Str×Addr))(hn:∀ p∈names,p.2=.free→∃ a,env.cells.lookup p.1=some a)(ha:∀ p∈acc,env.cells.lookup p.1=some p.2)(p:Str×Addr)(hp:p∈clFrom env names acc):env.cells.lookup p.1=some p.2:=by
 rcases oj hp with h | ⟨h,e⟩
 ·exact ha p h
 ·obtain⟨a,e'⟩:=hn _ h rfl
  rw[e,e'];rfl
theorem uh(env:Env)(names:List (Str×NameKind))(acc:List (Str×Addr))(x:Str)(h:(x,.free)∈names):∃ a,(x,a)∈clFrom env names acc :=
 ⟨_,List.mem_append_left _ (List.mem_reverse.mpr (List.mem_map.mpr ⟨(x,.free),List.mem_filter.mpr ⟨h,rfl⟩,rfl⟩))⟩
theorem xN(env:Env)(names:List (Str×NameKind))(acc:List (Str×Addr))(x:Str)(a:Addr)(h:(x,a)∈clFrom env names acc):(x,a)∈acc∨(x,.free)∈names:=(oj h).imp id And.left
theorem xa{α:Type}{l:List (Str×α)}{x:Str}{a:α}(h:(x,a)∈l):∃ b,l.lookup x=some b:=by
 induction l with
 | nil=>cases h
 | cons p r ih =>
  obtain⟨k,v⟩:=p
  rw[List.lookup_cons]
  cases hx:x==k with
  | true=>exact⟨v,rfl⟩
  | false =>
   rcases List.mem_cons.mp h with h | h
   ·cases h;rw[beq_self_eq_true] at hx;cases hx
   ·exact ih h
theorem dD:∀ (names:List (Str×NameKind)) (n:Nat) (acc:List (Str×Addr)),cellsFrom n names acc=cellsFrom n names []++acc
 | [],_,_=>rfl
 | (y,k)::r,n,acc=>by
  unfold cellsFrom
  split
  ·rw[dD r (n+1) ((y,n)::acc),dD r (n+1) [(y,n)]];simp
  ·exact dD r n acc
theorem fK:∀ (names:List (Str×NameKind)) (n:Nat) (acc:List (Str×Addr)) (x:Str) (a:Addr),(x,a)∈cellsFrom n names acc→(x,a)∈acc∨(x,.cell)∈names
 | [],_,_,_,_,h=>.inl h
 | (y,k)::r,n,acc,x,a,h=>by
  unfold cellsFrom at h
  split at h
  ·rename_i hk
   have hk:=eq_of_beq hk
   rcases fK r _ _ x a h with h | h
   ·rcases List.mem_cons.mp h with h | h
    ·cases h;exact .inr (by rw[hk];exact List.mem_cons_self)
    ·exact .inl h
   ·exact .inr (List.mem_cons_of_mem _ h)
  ·rcases fK r _ _ x a h with h | h
   ·exact .inl h
   ·exact .inr (List.mem_cons_of_mem _ h)
theorem o4{env:Env}(names:List (Str×NameKind))(x:Str) :
  (names.map fun (n,k)=>if (k==NameKind.free&&env.scope.kind==.function&&env.kindOf n==some .cell) then (n,NameKind.cell) else (n,k)).lookup x=(names.lookup x).map fun k=>if (k==NameKind.free&&env.scope.kind==.function&&env.kindOf x==some .cell) then .cell else k:=by
 induction names with
 | nil=>rfl
 | cons p r ih =>
  obtain⟨n,k⟩:=p
  show List.lookup x ((if (k==NameKind.free&&env.scope.kind==.function&&env.kindOf n==some .cell)=true then (n,NameKind.cell) else (n,k))::_)=_
  rw[List.lookup_cons]
  cases hx:x==n with
  | true =>
   have:=eq_of_beq hx;subst this
   by_cases hc:(k==NameKind.free&&env.scope.kind==.function&&env.kindOf x==some .cell)=true
   ·rw[if_pos hc,List.lookup_cons,hx];exact congrArg some (if_pos hc).symm
   ·rw[if_neg hc,List.lookup_cons,hx];exact congrArg some (if_neg hc).symm
  | false =>
   by_cases hc:(k==NameKind.free&&env.scope.kind==.function&&env.kindOf n==some .cell)=true
   ·rw[if_pos hc,List.lookup_cons,hx];exact ih
   ·rw[if_neg hc,List.lookup_cons,hx];exact ih
theorem iC{c:Ctx}{X:Nat→Prop}{Γ Γ':Gm}{bs N k:Nat}{env:Env}{F:Nat→Prop}{ρ:Env'}{σ:St}{μ:Nat→Nat}{h:Heap}{scope:Scope}(hok:compOk Γ Γ' N scope.names=true)(hkind:scope.kind=.function)(hN:ρ.length=N)
  (R:Rel c X σ μ h) (E:EnvR c X Γ bs env F ρ σ μ h) :
  ∃ cl,closureFor scope env=pure cl∧(∀ x∈scope.names,x.2=.local→scope.names.lookup x.1=some .local)∧∃ F':Nat→Prop,F' h.objs.size∧(∀ b,F' b→h.get? b=none)∧(∀ b,F' b→∃ o,(pushCells (h.push { cls:=.type "dict",data:=.dict #[] }) scope.names).get? b=some o) ∧
   (∀ x i a,Γ'.lookup x=some (some i)→(cG scope cl h.objs.size env).kindOf x≠some .local→(cG scope cl h.objs.size env).cells.lookup x=some a→F' a∨(env.cells.lookup x=some a∧(∃ j,Γ.lookup x=some (some j))∧env.kindOf x≠some .local)) ∧
   ∀ X',(∀ b,F' b→X' b)→Rel c X' σ μ (pushCells (h.push { cls:=.type "dict",data:=.dict #[] }) scope.names)→Evσ X σ μ h X' σ μ (pushCells (h.push { cls:=.type "dict",data:=.dict #[] }) scope.names) →
    EnvR c X' Γ' N (cG scope cl h.objs.size env) F' (ρ++List.replicate k none) σ μ (pushCells (h.push { cls:=.type "dict",data:=.dict #[] }) scope.names):=by
 simp only[compOk,Bool.and_eq_true] at hok
 obtain⟨ok0,⟨ok1,ok2⟩,ok3⟩:=hok
 have frees':∀ p∈scope.names,p.2=.free→∃ a,env.cells.lookup p.1=some a∧∃ o,h.get? a=some o:=fun p hp hf=>by
  have:=List.all_eq_true.mp ok3 p hp
  simp only[Bool.and_eq_true,Bool.or_eq_true,hf,bne_self_eq_false,Bool.false_eq_true,false_or] at this
  obtain⟨⟨h1,h2⟩,_⟩:=this
  cases hg:Γ.lookup p.1 with
  | none=>rw[hg] at h2;cases h2
  | some o =>
   cases o with
   | none=>rw[hg] at h2;cases h2
   | some i =>
    have hck:=E.ck p.1 (by simpa using h1)
    rcases E.ce p.1 i hg with hk | ⟨_,a,_,ha,⟨o,ho,_⟩,_⟩
    ·rcases hck with hc | hc<;>rw[hk] at hc<;>cases hc
    ·exact⟨a,ha,o,ho⟩
 have frees:∀ p∈scope.names,p.2=.free→∃ a,env.cells.lookup p.1=some a:=fun p hp hf=>let ⟨a,e,_⟩:=frees' p hp hf;⟨a,e⟩
 have slotOk:∀ {x:Str} {i:Nat},Γ'.lookup x=some (some i)→(if i < N then scope.names.lookup x=some .free∧Γ.lookup x=some (some i)∧x∈Γ.ck∧∀ q∈scope.names,q.1=x→q.2=.free else scope.names.lookup x=some .local∨scope.names.lookup x=some .cell)∧∀ y,Γ'.lookup y=some (some i)→x=y:=fun {x i} hx=>by
  obtain⟨p,hp,rfl⟩:=dc hx
  have:=List.all_eq_true.mp ok1 p hp
  rw[hx] at this
  simp only[Bool.and_eq_true] at this
  refine⟨?_,fun y hy=>?_⟩
  ·have t:=this.1
   split
   ·rename_i hlt
    rw[if_pos hlt] at t
    simp only[Bool.and_eq_true,beq_iff_eq] at t
    refine⟨t.1.1.1,t.1.1.2,by simpa using t.1.2,fun q hq e=>?_⟩
    have:=List.all_eq_true.mp t.2 q hq
    simpa [e] using this
   ·rename_i hlt
    rw[if_neg hlt] at t
    simpa using t
  ·obtain⟨q,hq,rfl⟩:=dc hy
   have:=List.all_eq_true.mp this.2 q hq
   rw[hy] at this
   simpa using this
 let L:=h.objs.size
 let h':=pushCells (h.push { cls:=.type "dict",data:=.dict #[] }) scope.names
 let own:=cellsFrom (L+1) scope.names []
 have kp:∀ b o,h.get? b=some o→h'.get? b=some o:=fun b o e=>pushCells_keeps _ _ b o (Heap.get?_push_of_some _ e)
 have ow:=cellsFrom_ok scope.names (h.push { cls:=.type "dict",data:=.dict #[] }) (L+1) [] ⟨fun _ _ hm=>(nomatch hm),List.Pairwise.nil⟩ (by rw[Heap.size_push];exact Nat.le_refl _)
 rw[Heap.size_push] at ow
 let F':Nat→Prop:=fun b=>b=L∨∃ n,(n,b)∈own
 have fresh:∀ b,F' b→h.get? b=none:=fun b hb=>by
  rcases hb with rfl | ⟨n,hn⟩
  ·exact bc _
  ·exact eD (Nat.le_of_succ_le (ow.empty n b hn).2)
 have hns:h'.Ns L fun _=>none:=(Heap.Ns.new h (.type "dict")).keeps (pushCells_keeps _ _)
 have live:∀ b,F' b→∃ o,h'.get? b=some o:=fun b hb=>by
  rcases hb with rfl | ⟨n,hn⟩
  ·obtain⟨o,_,_,e,_⟩:=hns;exact⟨o,e⟩
  ·obtain⟨o,e,_⟩:=(ow.empty n b hn).1;exact⟨o,e⟩
 refine⟨clFrom env scope.names [],r6 frees,fun x hx hl=>?_,F',.inl rfl,fresh,live,fun x i a hx hk ha=>?_,fun X' hF' R' ev=>?_⟩
 ·have:=List.all_eq_true.mp ok3 x hx
  simp only[Bool.and_eq_true,Bool.or_eq_true,hl,bne_self_eq_false,Bool.false_eq_true,false_or] at this
  simpa using this.2
 ·have hs:=(slotOk hx).1
  have hca:own.lookup x=some a∨(own.lookup x=none∧(clFrom env scope.names []).lookup x=some a):=by
   rw[show (cG scope (clFrom env scope.names []) h.objs.size env).cells=own++clFrom env scope.names [] from dD _ _ _,List.lookup_append] at ha
   cases z:own.lookup x with
   | some d=>rw[z] at ha;exact .inl ha
   | none=>rw[z] at ha;exact .inr ⟨rfl,ha⟩
  rcases hca with h1 | ⟨h1,h2⟩
  ·exact .inl (.inr ⟨x,mem_of_lookup h1⟩)
  ·by_cases hi:i < N
   ·rw[if_pos hi] at hs
    refine .inr ⟨jB env scope.names [] frees (fun p hp=>by cases hp) _ (mem_of_lookup h2),⟨i,hs.2.1⟩,?_⟩
    rcases E.ck x hs.2.2.1 with hc | hc<;>rw[hc]<;>intro e<;>cases e
   ·rw[if_neg hi] at hs
    rcases hs with hs | hs
    ·exact absurd ((o4 (env:=env) scope.names x).trans (by rw[hs];rfl)) hk
    ·obtain⟨b,hb⟩:=Option.isSome_iff_exists.mp (dN scope.names (L+1) [] x hs)
     have hb:own.lookup x=some b:=hb
     rw[h1] at hb;cases hb
 have clm:=jB env scope.names [] frees fun p hp=>by cases hp
 have cells:(cG scope (clFrom env scope.names []) h.objs.size env).cells=own++clFrom env scope.names []:=dD _ _ _
 have kinds:∀ x,(cG scope (clFrom env scope.names []) h.objs.size env).kindOf x=(scope.names.lookup x).map fun k=>if (k==NameKind.free&&env.scope.kind==.function&&env.kindOf x==some .cell) then .cell else k:=fun x=>o4 scope.names x
 have notTr:∀ b,F' b→¬ Tr σ μ b:=fun b hb ht=>R.fresh (fresh b hb) (.inl ht)
 have slotv:∀ {i:Nat} {V:V},(ρ++List.replicate k none)[i]?=some (some V)→i < N∧ρ[i]?=some (some V):=fun {i V} e=>by
  rcases Nat.lt_or_ge i ρ.length with hlt | hge
  ·rw[List.getElem?_append_left hlt] at e;exact⟨hN▸hlt,e⟩
  ·rw[List.getElem?_append_right hge,List.getElem?_replicate] at e
   split at e<;>cases e
 have clook:∀ {x:Str} {a:Addr},(clFrom env scope.names []).lookup x=some a→env.cells.lookup x=some a:=fun hx=>clm _ (mem_of_lookup hx)
 have base:∀ b,F' b→c.h0.get? b=none:=fun b hb=>by
  cases z:c.h0.get? b with
  | none=>rfl
  | some o=>have:=R.base _ _ z;rw[fresh b hb] at this;cases this
 refine⟨hkind,E.glob,E.blt,fun x hx=>?_,fun x y i hx hy=>(slotOk hx).2 y hy,⟨_,hns,fun x i hx hk V hV=>?_⟩,fun x i hx=>?_,fun x y a hx hy=>?_,.inl rfl,hF',fun b hb=>⟨notTr b hb,base b hb,live b hb⟩,fun x hx=>?_,fun f a e=>by rw[e] at ok0;cases ok0⟩
 ·obtain⟨p,hp,rfl⟩:=dc hx
  have:=List.all_eq_true.mp ok1 p hp
  rw[hx] at this
  rw[kinds,show scope.names.lookup p.1=some .globalImplicit by simpa using this]
  rfl
 ·obtain⟨hi,_⟩:=slotv hV
  have:=(slotOk hx).1
  rw[if_pos hi] at this
  rw[kinds,this.1] at hk
  simp only[Option.map_some,Option.some.injEq] at hk
  split at hk<;>cases hk
 ·have hs:=(slotOk hx).1
  by_cases hi:i < N
  ·rw[if_pos hi] at hs
   obtain⟨s1,s2,s3,s4⟩:=hs
   rcases E.ce x i s2 with hk | ⟨hk,a,ov,ha,hc,hv,ht,hal,hf⟩
   ·rcases E.ck x s3 with hc | hc<;>rw[hk] at hc<;>cases hc
   ·have hmem:(x,NameKind.free)∈scope.names:=mem_of_lookup s1
    obtain⟨a',ha'⟩:=uh env scope.names [] x hmem
    obtain⟨b,hb⟩:=xa ha'
    have hba:=clook hb
    rw[ha] at hba;cases hba
    have hno:own.lookup x=none:=by
     cases z:own.lookup x with
     | none=>rfl
     | some d =>
      rcases fK _ _ _ _ _ (mem_of_lookup z) with hm | hm
      ·cases hm
      ·have:=s4 _ hm rfl;cases this
    obtain⟨o,ho,hd⟩:=hc
    refine .cell ?_ a ov (by rw[cells,List.lookup_append,hno];exact hb) ⟨o,kp _ _ ho,hd⟩ (fun V hV=>?_) ht ?_ (fun hle=>absurd hi (by lia))
    ·rw[kinds,s1]
     simp only[Option.map_some]
     split
     ·exact .inl rfl
     ·exact .inr rfl
    ·obtain⟨v,e,q⟩:=hv V (slotv hV).2
     exact⟨v,e,q.mono ev⟩
    ·intro e
     have e:a=L:=e
     have:h.get? L=none:=bc _
     rw[← e,ho] at this;cases this
  ·rw[if_neg hi] at hs
   rcases hs with hs | hs
   ·exact .loc (by rw[kinds,hs];rfl)
   ·obtain⟨a,ha⟩:=Option.isSome_iff_exists.mp (dN scope.names (L+1) [] x hs)
    have ha:own.lookup x=some a:=ha
    have hF:F' a:=.inr ⟨x,mem_of_lookup ha⟩
    have hkx:(cG scope (clFrom env scope.names []) h.objs.size env).kindOf x=some .cell:=by rw[kinds,hs];rfl
    refine .cell (.inl hkx) a none (by rw[cells,List.lookup_append,ha];rfl) (ow.empty x a (mem_of_lookup ha)).1 (fun V hV=>absurd (slotv hV).1 hi) (notTr a hF) ?_ (fun _=>⟨hkx,hF⟩)
    have:=(ow.empty x a (mem_of_lookup ha)).2
    exact Nat.ne_of_gt this
 ·rw[cells,List.lookup_append] at hx hy
  have isOwn:∀ {x:Str} {a:Addr},own.lookup x=some a→h.get? a=none:=fun e=>fresh _ (.inr ⟨_,mem_of_lookup e⟩)
  have isCl:∀ {x:Str} {a:Addr},(clFrom env scope.names []).lookup x=some a→∃ o,h.get? a=some o:=fun {x a} e=>by
   have hm:=mem_of_lookup e
   rcases xN env _ _ x a hm with hm' | hm'
   ·cases hm'
   ·obtain⟨a',e',o,ho⟩:=frees' _ hm' rfl
    rw[clook e] at e';cases e'
    exact⟨o,ho⟩
  cases h1:own.lookup x with
  | some a1 =>
   rw[h1] at hx;cases hx
   cases h2:own.lookup y with
   | some a2=>rw[h2] at hy;cases hy;exact name_of_addr ow.apart (mem_of_lookup h1) (mem_of_lookup h2)
   | none=>rw[h2] at hy;obtain⟨o,e⟩:=isCl hy;rw[isOwn h1] at e;cases e
  | none =>
   rw[h1] at hx
   cases h2:own.lookup y with
   | some a2=>rw[h2] at hy;cases hy;obtain⟨o,e⟩:=isCl hx;rw[isOwn h2] at e;cases e
   | none=>rw[h2] at hy;exact E.ap x y a (clook hx) (clook hy)
 ·have:=List.all_eq_true.mp ok2 x hx
  simp only[Bool.or_eq_true,beq_iff_eq] at this
  rw[kinds]
  rcases this with h1 | h1
  ·rw[h1];exact .inl rfl
  ·rw[h1]
   simp only[Option.map_some]
   split
   ·exact .inl rfl
   ·exact .inr rfl
end
section
noncomputable abbrev MB:=Nat→List V→Env'→Mine.St→(List V→Env'→Mine.St→Prop)→Prop
noncomputable def cL(d:Nat)(tg:MA)(f:ME Bool)(b:MB)(Q:List V→Env'→Mine.St→Prop):List V→List V→Env'→Mine.St→Prop
 | [],acc,ρ,σ=>Q acc ρ σ
 | x::xs,acc,ρ,σ=>tg d ρ x σ fun ρ' σ=>f d ρ' σ fun z σ=>if z then b d acc ρ' σ fun acc ρ σ=>cL d tg f b Q xs acc ρ σ else cL d tg f b Q xs acc ρ' σ
noncomputable def eltB(e:ME V):MB:=fun d acc ρ σ K=>e d ρ σ fun y σ=>K (acc++[y]) ρ σ
noncomputable def compL(d:Nat)(tg:MA)(f:ME Bool)(e:ME V)(Q:List V→Mine.St→Prop)(xs acc:List V)(ρ:Env')(σ:Mine.St):Prop:=cL d tg f (eltB e) (fun ys _ σ=>Q ys σ) xs acc ρ σ
theorem VRs.snoc{h:Heap}{S:Nat→Prop}{μ:Nat→Nat}{n:Nat}{vs:List Value}{xs:List V}{v:Value}{x:V}(a:VRs h S μ n vs xs)(b:VR h S μ n v x):VRs h S μ n (vs++[v]) (xs++[x]):=a.append (.cons b .nil)
noncomputable def turnB(target:Expr)(ifs:List Expr)(p:Pos)(it:Value)(env:Env)(body:Sem Fin→Sem Fin)(c:Code):Sem Fin:=do
 standAt p
 match ← pyNext it with
 | none=>pure (.done .next)
 | some v =>
  letOwnedTupleGo target it v
  assign target env v
  let mut ok:=true
  for c in ifs do
   if ok then ok ← isTrue c env (eval c env)
  if ok then body (again c) else again c
theorem y7{prog:Program}{w:World}{A:Around}{R:Result→Shared→Prop}{s:Shared}{elt target:Expr}{gens:List Comprehension}{ifs:List Expr}{scope:Scope}{k:Nat}{p pos:Pos}{it acc:Value}{env:Env}{body:Sem Fin→Sem Fin}
  (ht:compTurn (.ListComp elt gens scope pos) k it acc env=turnB target ifs p it env body (.compLoop (.ListComp elt gens scope pos) k it acc env)) (I:Nat→Shared→Prop)
  (turn:∀ n s,I n s→wpAny (model prog w) A (pyNext it) (fun r s₁=>match r with
   | none=>R (.ok .next) s₁
   | some v=>wpAny (model prog w) A (letOwnedTupleGo target it v) (fun _ s₁'=>wpAny (model prog w) A (assign target env v) (fun _ s₂ =>
     wpAny (model prog w) A (forIn ifs true fun c r=>if r=true then do let ok ← isTrue c env (eval c env);pure (ForInStep.yield ok) else pure (ForInStep.yield r)) (fun ok s₃ =>
      if ok=true then wpAny (model prog w) A (body (again (.compLoop (.ListComp elt gens scope pos) k it acc env))) (fun r s₅=>r=.again (.compLoop (.ListComp elt gens scope pos) k it acc env)∧∃ m,m < n∧I m s₅) Bot s₃
      else ∃ m,m < n∧I m s₃) Bot s₂) Bot s₁') Bot s₁) Bot s)
  (n:Nat) (h:I n s) :
  codeAny (model prog w) A (.compLoop (.ListComp elt gens scope pos) k it acc env) R s:=by
 refine codeAny_loop rfl I (fun n s hI=>?_) n h
 show wpAny _ A ((compTurn (.ListComp elt gens scope pos) k it acc env).onRaise (fun x=>do noteFrame x env;theTreesLotGoes x)) _ _ s
 refine wpAny_noted ?_
 rw[ht]
 refine wpAny_bind (wpAny_standAt (wpAny_bind (wpAny_mono (turn n s hI) (fun r s₁ h₁=>?_) fun _ _ h'=>h'.elim)))
 cases r with
 | none=>exact wpAny_pure h₁
 | some v =>
  refine wpAny_bind (wpAny_mono h₁ (fun _ s₁' h₁=>?_) fun _ _ h'=>h'.elim)
  refine wpAny_bind (wpAny_mono h₁ (fun _ s₂ h₂=>wpAny_bind (wpAny_mono h₂ (fun ok s₃ h₃=>?_) fun _ _ h'=>h'.elim)) fun _ _ h'=>h'.elim)
  cases ok with
  | false=>exact wpAny_pure ⟨rfl,h₃⟩
  | true=>exact wpAny_mono h₃ (fun r s₅ h₅=>by obtain⟨rfl,h₅⟩:=h₅;exact⟨rfl,h₅⟩) fun _ _ h'=>h'.elim
inductive Acc (X:Nat→Prop) (D:Addr) (σ:Mine.St) (μ:Nat→Nat) (h:Heap) (acc:List V):Prop
 | mk (items:List Value) (kk:Nat) (hD:h.get? D=some (listO items kk)) (ha:VRs h (Sx X σ μ) μ σ.length items acc) (nT:¬ Tr σ μ D)
theorem Acc.stay{F X:Nat→Prop}{D:Addr}{σ σ':Mine.St}{μ μ':Nat→Nat}{h h':Heap}{acc:List V}(a:Acc X D σ μ h acc)(ev:Evf F X σ μ h σ' μ' h')(hF:¬ F D):Acc X D σ' μ' h' acc:=by
 obtain⟨items,kk,hD,ha,nT⟩:=a
 refine⟨items,kk,ev.keep D _ (fun hz=>hz.elim nT hF) hD,ha.mono ev,fun ht=>?_⟩
 rcases ev.subT D (.inl ht) with hz | hn
 ·exact hz.elim nT hF
 ·rw[hD] at hn;cases hn
inductive PostC (c:Ctx) (Γ:Gm) (bs:Nat) (env:Env) (F X:Nat→Prop) (D:Addr) (wr:List Addr) (m:Nat) (σ:Mine.St) (μ:Nat→Nat) (s:Shared) (Q:List V→Env'→Mine.St→Prop) (s':Shared):Prop
 | mk (acc:List V) (ρ':Env') (σ':Mine.St) (μ':Nat→Nat) (q:Q acc ρ' σ') (ln:acc.length≤m) (R:Rel c X σ' μ' s'.heap) (ev:Evf (fun b=>F b∨b=D∨b∈wr) X σ μ s.heap σ' μ' s'.heap) (E:EnvR c X Γ bs env F ρ' σ' μ' s'.heap) (a:Acc X D σ' μ' s'.heap acc) (nT:∀ b∈wr,¬ Tr σ' μ' b)
   (g:s'.gens=s.gens) (o:s'.os=s.os):PostC c Γ bs env F X D wr m σ μ s Q s'
inductive CompI (c:Ctx) (Γ:Gm) (bs:Nat) (env:Env) (F G X:Nat→Prop) (D:Addr) (m g:Nat) (xs:List V) (fp:List Addr) (Sn:Nat→Heap→Prop) (σ:Mine.St) (μ:Nat→Nat) (s:Shared) (L:List V→List V→Env'→Mine.St→Prop) (n:Nat) (s':Shared):Prop
 | mk (i:Nat) (acc:List V) (ρ':Env') (σ':Mine.St) (μ':Nat→Nat) (hn:n=xs.length+1 - i) (hi:i≤xs.length) (hai:acc.length≤m+i * g) (q:L (xs.drop i) acc ρ' σ') (R:Rel c X σ' μ' s'.heap) (ev:Evf G X σ μ s.heap σ' μ' s'.heap) (E:EnvR c X Γ bs env F ρ' σ' μ' s'.heap) (st:Sn i s'.heap)
  (nT:∀ b∈fp,¬ Tr σ' μ' b) (a:Acc X D σ' μ' s'.heap acc) (gg:s'.gens=s.gens) (o:s'.os=s.os):CompI c Γ bs env F G X D m g xs fp Sn σ μ s L n s'
theorem Evf.toG{F G X:Nat→Prop}{σ σ':Mine.St}{μ μ':Nat→Nat}{h h':Heap}(ev:Evf F X σ μ h σ' μ' h')(hG:∀ b,F b→G b)(hX:∀ b,G b→X b):Evf G X σ μ h σ' μ' h' :=
 ⟨fun b o hb e=>ev.keep b o (fun hz=>hb (hz.imp id (hG b))) e,ev.live,fun b hb=>hb.elim .inl fun hg=>.inr (hX b hg),fun b hb=>hb.elim (fun ht=>(ev.subT b (.inl ht)).imp (Or.imp id (hG b)) id) fun hg=>.inl (.inr hg),ev.sub,ev.mu,ev.le⟩
theorem lP{c:Ctx}{A:Around}{d g k:Nat}{X F:Nat→Prop}{Γ:Gm}{N:Nat}{env:Env}{ρ:Env'}{σ:Mine.St}{μ:Nat→Nat}{s:Shared}{D I:Addr}{acc:List V}{elt tg:Expr}{ifs:List Expr}{gens:List Comprehension}{scope:Scope}{p pos:Pos}{mt:MA}{mf:ME Bool}{body:Sem Fin→Sem Fin}{mb:MB}
  {xs:List V} {fp wr:List Addr} {Sn:Nat→Heap→Prop} {Q:List V→Env'→Mine.St→Prop} {RR:Result→Shared→Prop}
  (ht:compTurn (.ListComp elt gens scope pos) k (.ref I) (.ref D) env=turnB tg ifs p (.ref I) env body (.compLoop (.ListComp elt gens scope pos) k (.ref I) (.ref D) env))
  (hA:Room A d) (R:Rel c X σ μ s.heap) (E:EnvR c X Γ N env F ρ σ μ s.heap) (a:Acc X D σ μ s.heap acc) (hDX:X D) (hDF:¬ F D)
  (hta:SimA c Γ N tg mt) (hf:SimF c Γ ifs mf)
  (hb:∀ cc ρ σ μ s acc Q,Rel c X σ μ s.heap→EnvR c X Γ N env F ρ σ μ s.heap→Acc X D σ μ s.heap acc→acc.length+g≤1000000→mb d acc ρ σ Q→wpAny c.M A (body (again cc)) (fun r s'=>r=.again cc∧PostC c Γ N env F X D [] (acc.length+g) σ μ s Q s') Bot s)
  (K:Wk c A tg I fp wr xs s.heap (Sx X σ μ) μ σ.length Sn) (st:Sn 0 s.heap) (hwr:∀ b∈wr,X b) (hfp:∀ b∈fp,¬ Tr σ μ b∧¬ F b∧b≠D)
  (hcells:∀ x i a,Γ.lookup x=some (some i)→env.kindOf x≠some .local→env.cells.lookup x=some a→a∉wr) (hlen:acc.length+xs.length * g≤1000000)
  (q:cL d mt mf mb Q xs acc ρ σ)
  (hRR:∀ s' h' tk,PostC c Γ N env F X D wr (acc.length+xs.length * g) σ μ s Q s'→(∀ b o,b∉wr→s'.heap.get? b=some o→h'.get? b=some o)→RR (.ok .next) { s' with heap:=h',toks:=tk }) :
  codeAny c.M A (.compLoop (.ListComp elt gens scope pos) k (.ref I) (.ref D) env) RR s:=by
 let G:Nat→Prop:=fun b=>F b∨b=D∨b∈wr
 have hGX:∀ b,G b→X b:=fun b hb=>by
  rcases hb with h | h | h
  ·exact E.fx b h
  ·exact h▸hDX
  ·exact hwr b h
 have wrF:∀ b,F b→b∉wr:=fun b hb hw=>(hfp b (K.sub b hw)).2.1 hb
 have wrD:D∉wr:=fun hw=>(hfp D (K.sub D hw)).2.2 rfl
 let Inv:Nat→Shared→Prop:=CompI c Γ N env F G X D acc.length g xs fp Sn σ μ s (cL d mt mf mb Q)
 let Body:Nat→Value→Shared→Prop:=fun n v s₁'=>wpAny c.M A (assign tg env v) (fun _ s₂ =>
     wpAny c.M A (forIn ifs true fun c r=>if r=true then do let ok ← isTrue c env (eval c env);pure (ForInStep.yield ok) else pure (ForInStep.yield r)) (fun ok s₃ =>
      if ok=true then wpAny c.M A (body (again (.compLoop (.ListComp elt gens scope pos) k (.ref I) (.ref D) env))) (fun r s₅=>r=.again (.compLoop (.ListComp elt gens scope pos) k (.ref I) (.ref D) env)∧∃ m,m < n∧Inv m s₅) Bot s₃
      else ∃ m,m < n∧Inv m s₃) Bot s₂) Bot s₁'
 refine y7 ht Inv ?_ (xs.length+1) ⟨0,acc,ρ,σ,μ,by lia,Nat.zero_le _,by simp,by simpa using q,R,(Evσ.refl X σ μ s.heap).toF hGX,E,st,fun b hb=>(hfp b hb).1,a,rfl,rfl⟩
 rintro n s' ⟨i,acc',ρ',σ',μ',rfl,hi,hai,hq,R',ev',E',st',nT,a',g',o'⟩
 cases hd:xs.drop i with
 | nil =>
  rw[hd] at hq
  have hil:i=xs.length:=by have:=congrArg List.length hd;simp at this;lia
  subst hil
  refine wpAny_mono (K.done s' (fun s₃=>RR (.ok .next) s₃) Bot st' fun h' tk keep=>?_) (fun r s₃ hr=>?_) fun _ _ e=>e
  ·exact hRR s' h' tk ⟨acc',ρ',σ',μ',hq,hai,R',ev',E',a',fun b hb=>nT b (K.sub b hb),g',o'⟩ keep
  ·obtain⟨rfl,hr⟩:=hr
   exact hr
 | cons x rest =>
  rw[hd] at hq
  have hx:xs[i]?=some x:=by have:=congrArg (·[0]?) hd;simpa using this
  have hr:xs.drop (i+1)=rest:=by rw[← List.drop_drop,hd];rfl
  have hil:i < xs.length:=(List.getElem?_eq_some_iff.mp hx).1
  have hm:(i+1) * g≤xs.length * g:=Nat.mul_le_mul_right g hil
  rw[Nat.add_mul,Nat.one_mul] at hm
  refine wpAny_mono (K.item i x s' (fun v s₃=>Body (xs.length+1 - i) v s₃) Bot hx st' fun v h' tk ti st₁ keep=>?_) (fun r s₃ hr=>by obtain⟨v,rfl,w⟩:=hr;exact w) fun _ _ e=>e
  let s₃:Shared:={ s' with heap:=h',toks:=tk }
  have hwX:∀ b∈wr,X b∧¬ Tr σ' μ' b:=fun b hb=>⟨hwr b hb,nT b (K.sub b hb)⟩
  have live:∀ b∈wr,∃ o,h'.get? b=some o:=fun b hb=>K.live _ _ st₁ b (K.sub b hb)
  have R₅:Rel c X σ' μ' s₃.heap:=R'.wr keep hwX live
  have ev₅:Evf G X σ' μ' s'.heap σ' μ' s₃.heap:=by
   refine⟨fun b o hb e=>keep b o (fun hw=>hb (.inr (.inr (.inr hw)))) e,fun b o e=>?_,fun b hb=>hb.elim .inl fun hg=>.inr (hGX b hg),fun b hb=>.inl hb,fun b hb=>.inl hb,fun _ _=>rfl,Nat.le_refl _⟩
   by_cases hw:b∈wr
   ·exact live b hw
   ·exact⟨o,keep b o hw e⟩
  have E₅:EnvR c X Γ N env F ρ' σ' μ' s₃.heap:=E'.wr keep (fun b hb=>(hwX b hb).1) (fun b hb=>hb) (fun b hb=>⟨wrF b hb,E.fx b hb⟩) hcells
  have tv:VRσ X σ' μ' s₃.heap v x:=ti.vr (ev'.trans ev₅) fun a ha=>R'.fresh ha
  have a₅:Acc X D σ' μ' s₃.heap acc':=by
   obtain⟨items,kk,hD,ha,nTD⟩:=a'
   exact⟨items,kk,keep D _ wrD hD,ha.leave keep (fun a z=>.inr (hwr a z)) (fun a z=>z),nTD⟩
  have step:∀ {H:Nat→Prop} {σa σb:Mine.St} {μa μb:Nat→Nat} {ha hb:Heap} {ia:Nat},(∀ b∈fp,¬ H b)→Evf H X σa μa ha σb μb hb→Sn ia ha→(∀ b∈fp,¬ Tr σa μa b)→Sn ia hb∧(∀ b∈fp,¬ Tr σb μb b):=by
   intro H σa σb μa μb ha hb ia hH ev h1 h2
   have nfp:∀ b∈fp,¬ Fb H σa μa b:=fun b hb hz=>hz.elim (h2 b hb) (hH b hb)
   refine⟨K.frame _ _ _ h1 fun b hb o e=>ev.keep b o (nfp b hb) e,fun b hb ht=>?_⟩
   obtain⟨o,ho⟩:=K.live _ _ h1 b hb
   rcases ev.subT b (.inl ht) with hz | hn
   ·exact nfp b hb hz
   ·rw[ho] at hn;cases hn
  have hq':mt d ρ' x σ' fun ρ σ=>mf d ρ σ fun z σ=>if z then mb d acc' ρ σ fun acc ρ σ=>cL d mt mf mb Q rest acc ρ σ else cL d mt mf mb Q rest acc' ρ σ:=hq
  refine cb (hta A d X env F ρ' σ' μ' s₃ v x _ hA R₅ E₅ tv hq') fun _ ρ₆ σ₆ μ₆ s₆ q₆ R₆ e₆ E₆ g₆ o₆=>?_
  have fF:∀ b∈fp,¬ F b:=fun b hb=>(hfp b hb).2.1
  obtain⟨a1,a2⟩:=step fF e₆ st₁ nT
  have c1:=a₅.stay e₆ hDF
  refine aC (hf A d X N env F ρ₆ σ₆ μ₆ s₆ _ hA R₆ E₆ q₆) fun ok z σ₇ μ₇ s₇ q₇ R₇ t₇ e₇ g₇ o₇=>?_
  have t₇:ok=z:=t₇
  subst t₇
  have e₇':Evf F X σ₆ μ₆ s₆.heap σ₇ μ₇ s₇.heap:=e₇.toF E₆.fx
  obtain⟨b1,b2⟩:=step fF e₇' a1 a2
  have c2:=c1.stay e₇' hDF
  have E₇:=E₆.mono e₇
  have evA:=((ev'.trans ev₅).trans (e₆.toG (fun _ h=>.inl h) hGX)).trans (e₇'.toG (fun _ h=>.inl h) hGX)
  cases ok with
  | false =>
   simp only[Bool.false_eq_true,if_false] at q₇ ⊢
   exact⟨xs.length+1 - (i+1),by lia,i+1,acc',ρ₆,σ₇,μ₇,rfl,hil,by rw[Nat.add_mul];lia,by rw[hr];exact q₇,R₇,evA,E₇,b1,b2,c2,g₇.trans (g₆.trans g'),o₇.trans (o₆.trans o')⟩
  | true =>
   simp only[if_true] at q₇ ⊢
   refine wpAny_mono (hb _ ρ₆ σ₇ μ₇ s₇ acc' _ R₇ E₇ c2 (by lia) q₇) (fun _ s₈ hp=>?_) fun _ _ e=>e
   obtain⟨rfl,acc₈,ρ₈,σ₈,μ₈,q₈,ln,R₈,ev₈,E₈,a₈,_,g₈,o₈⟩:=hp
   obtain⟨d1,d2⟩:=step (fun b hb hz=>by
    rcases hz with h | h | h
    ·exact (hfp b hb).2.1 h
    ·exact (hfp b hb).2.2 h
    ·cases h) ev₈ b1 b2
   refine⟨rfl,xs.length+1 - (i+1),by lia,i+1,acc₈,ρ₈,σ₈,μ₈,rfl,hil,by rw[Nat.add_mul];lia,by rw[hr];exact q₈,R₈,evA.trans (ev₈.toG (fun b h=>?_) hGX),E₈,d1,d2,a₈,g₈.trans (g₇.trans (g₆.trans g')),o₈.trans (o₇.trans (o₆.trans o'))⟩
   rcases h with h | h | h
   ·exact .inl h
   ·exact .inr (.inl h)
   ·cases h
section
variable{c:Ctx}{A:Around}{d:Nat}{X F:Nat→Prop}{Γ:Gm}{N:Nat}{env:Env}{D:Addr}
theorem nI{elt:Expr}{me:ME V}(hA:Room A d)(hDX:X D)(hDF:¬ F D)(he:SimE c Γ elt me)(hcD:∀ x i a,Γ.lookup x=some (some i)→env.kindOf x≠some .local→env.cells.lookup x=some a→a≠D) :
  ∀ cc ρ σ μ s acc Q,Rel c X σ μ s.heap→EnvR c X Γ N env F ρ σ μ s.heap→Acc X D σ μ s.heap acc→acc.length+1≤1000000→eltB me d acc ρ σ Q →
   wpAny c.M A ((do let _ ← call (.builtin "list.append") [.ref D,← eval elt env]:Sem Unit) >>= fun _=>again cc) (fun r s'=>r=.again cc∧PostC c Γ N env F X D [] (acc.length+1) σ μ s Q s') Bot s:=by
 intro cc ρ σ μ s acc Q R E a hl q
 refine wpAny_bind (wpAny_bind (aC (he A d X N env F ρ σ μ s _ hA R E q) fun w y σ₈ μ₈ s₈ q₈ R₈ t₈ e₈ g₈ o₈=>wpAny_bind ?_))
 have eF:Evf F X σ μ s.heap σ₈ μ₈ s₈.heap:=e₈.toF E.fx
 obtain⟨items,kk,c3,c4,c5⟩:=a.stay eF hDF
 have E₈:=E.mono e₈
 have hlen8:=c4.length
 refine wpAny_list_append_plain ⟨kk,c3⟩ (fun h9 hl9 hs9=>wpAny_pure (wpAny_pure ?_)) (bu (by simp only[List.size_toArray];lia))
 obtain⟨k9,hl9⟩:=hl9
 have hl9':h9.get? D=some (listO (items++[w]) k9):=by rw[hl9];simp[listO]
 have keep9:∀ b o,b∉[D]→s₈.heap.get? b=some o→h9.get? b=some o:=fun b o hb e=>(hs9.2 b (by simpa using hb)).trans e
 have live9:∀ b∈[D],∃ o,h9.get? b=some o:=fun b hb=>by simp at hb;subst hb;exact⟨_,hl9'⟩
 have R₉:Rel c X σ₈ μ₈ h9:=R₈.wr keep9 (fun b hb=>by simp at hb;subst hb;exact⟨hDX,c5⟩) live9
 have E₉:EnvR c X Γ N env F ρ σ₈ μ₈ h9:=E₈.wr keep9 (fun b hb=>by simp at hb;subst hb;exact hDX) (fun b hb=>hb) (fun b hb=>⟨by simp;intro e;exact hDF (e▸hb),E.fx b hb⟩) fun x i a hx hk ha=>by simp;exact hcD x i a hx hk ha
 have hGX:∀ b,(F b∨b=D∨b∈([]:List Addr))→X b:=fun b hb=>by
  rcases hb with h | h | h
  ·exact E.fx b h
  ·exact h▸hDX
  ·cases h
 have ev₉:Evf (fun b=>F b∨b=D∨b∈([]:List Addr)) X σ₈ μ₈ s₈.heap σ₈ μ₈ h9:=by
  refine⟨fun b o hb e=>keep9 b o (by simp;intro z;exact hb (.inr (.inr (.inl z)))) e,fun b o e=>?_,fun b hb=>hb.elim .inl fun hg=>.inr (hGX b hg),fun b hb=>.inl hb,fun b hb=>.inl hb,fun _ _=>rfl,Nat.le_refl _⟩
  by_cases hw:b=D
  ·subst hw;exact⟨_,hl9'⟩
  ·exact⟨o,keep9 b o (by simpa using hw) e⟩
 have acc9:VRs h9 (Sx X σ₈ μ₈) μ₈ σ₈.length (items++[w]) (acc++[y]):=(c4.append (.cons t₈ .nil)).leave keep9 (fun a z=>by simp at z;subst z;exact .inr hDX) fun a z=>z
 exact⟨rfl,acc++[y],ρ,σ₈,μ₈,q₈,by simp,R₉,(eF.toG (fun _ h=>.inl h) hGX).trans ev₉,E₉,⟨_,_,hl9',acc9,c5⟩,fun _ h=>(nomatch h),g₈,o₈⟩
theorem pg{prog:Program}{w:World}{A:Around}{R:Result→Shared→Prop}{s:Shared}{elt target iter:Expr}{ifs:List Expr}{gens:List Comprehension}{scope:Scope}{k:Nat}{pos:Pos}{it acc:Value}{env:Env}(hg:gens[k]?=some ⟨target,iter,ifs,0⟩)
  (h0:codeAny (model prog w) A (.compLoop (.ListComp elt gens scope pos) k it acc env) R s)
  (h:wpAny (model prog w) A (pyIter it) (fun it' s'=>codeAny (model prog w) A (.compLoop (.ListComp elt gens scope pos) k it' acc env) R s') Bot s) :
  codeAny (model prog w) A (.compStart (.ListComp elt gens scope pos) k it acc env) R s:=by
 refine codeAny_of_tree ?_
 show wpAny _ _ ((compStart (.ListComp elt gens scope pos) k it acc env).onRaise (fun x=>do noteFrame x env;standAt theWindowsPlace)) _ _ s
 refine wpAny_notedAt ?_
 unfold compStart
 have hc:clausesOf (.ListComp elt gens scope pos)=gens:=rfl
 rw[hc,hg]
 show wpAny _ _ (ask >>= _) _ _ s
 refine wpAny_bind (wpAny_askSetting (wpAny_ite ?_))
 split
 ·first
   | exact wpAny_bind (wpAny_pure (wpAny_pure (And.intro rfl h0)))
   | exact wpAny_pure (And.intro rfl h0)
 ·refine wpAny_bind (wpAny_rule ?_)
  show wpAny _ _ (standAt iter.pos >>= _) _ _ s
  exact wpAny_bind (wpAny_standAt (wpAny_bind (wpAny_mono h (fun it' s' h'=>wpAny_pure (And.intro rfl h')) fun _ _ x=>x.elim)))
noncomputable def genB(mi:ME (List V))(mt:MA)(mf:ME Bool)(me:ME V):MB:=fun d acc ρ σ K=>mi d ρ σ fun ys σ=>ys.length≤1000∧cL d mt mf (eltB me) K ys acc ρ σ
theorem vW{elt tg iter:Expr}{ifs:List Expr}{g0:Comprehension}{scope:Scope}{pos:Pos}{mi:ME (List V)}{mt:MA}{mf:ME Bool}{me:ME V}(hA:Room A d)(hDX:X D)(hDF:¬ F D)(hi:SimI c Γ iter tg mi)(hta:SimA c Γ N tg mt)(hf:SimF c Γ ifs mf)(he:SimE c Γ elt me)
  (hs:∀ env x,foldedSetIterable iter env x=pure x) (hcD:∀ x i a,Γ.lookup x=some (some i)→env.kindOf x≠some .local→env.cells.lookup x=some a→a≠D) :
  ∀ cc ρ σ μ s acc Q,Rel c X σ μ s.heap→EnvR c X Γ N env F ρ σ μ s.heap→Acc X D σ μ s.heap acc→acc.length+1000≤1000000→genB mi mt mf me d acc ρ σ Q →
   wpAny c.M A (do
    let x ← eval iter env
    standAt iter.pos
    let x ← foldedSetIterable iter env x
    let _ ← runOwn (.compStart (.ListComp elt [g0,⟨tg,iter,ifs,0⟩] scope pos) 1 (← holding [x] (pyIter x)) (.ref D) env) env
    again cc:Sem Fin) (fun r s'=>r=.again cc∧PostC c Γ N env F X D [] (acc.length+1000) σ μ s Q s') Bot s:=by
 intro cc ρ σ μ s acc Q R E a hl q
 refine wpAny_bind (wpAny_mono (hi A d X N env F ρ σ μ s _ hA R E q) (fun x s₁ hx=>wpAny_bind (wpAny_standAt (wpAny_bind (wpAny_of_eq (hs env x) (wpAny_bind (wpAny_holding (wpAny_mono hx (fun itv s₂ hp=>?_) fun _ _ e=>e))))))) fun _ _ e=>e)
 obtain⟨xs,σ₂,μ₂,I,fp,wr,Sn,W,⟨hlen,q⟩,rfl,R₂,K,st,e₂,hW,hwr,hfp,g₂,o₂⟩:=hp
 let X':Nat→Prop:=fun b=>X b∨W b
 have hFX':∀ a,F a→X' a:=fun a ha=>.inl (E.fx a ha)
 have E₂:EnvR c X' Γ N env F ρ σ₂ μ₂ s₂.heap:=E.mono' e₂ hFX'
 have hcW:∀ x i a,Γ.lookup x=some (some i)→env.kindOf x≠some .local→env.cells.lookup x=some a→a∉wr:=fun x i a hx hk ha hw=>by
  rcases E.ce x i hx with hk' | ⟨_,a',ov,ha',⟨o,ho,_⟩,_⟩
  ·exact hk hk'
  ·rw[ha] at ha';cases ha';rw[hW a (hwr a hw)] at ho;cases ho
 have a₂:Acc X' D σ₂ μ₂ s₂.heap acc:=by
  obtain⟨items,kk,hD,ha,nT⟩:=a
  refine⟨items,kk,e₂.keep D _ nT hD,ha.mono e₂,fun ht=>?_⟩
  rcases e₂.subT D ht with hz | hn
  ·exact nT hz
  ·rw[hD] at hn;cases hn
 refine wpAny_bind (wpAny_runOwn (codeAny_mono (R:=fun r s'=>r=.ok .next∧PostC c Γ N env F X D [] (acc.length+1000) σ μ s Q s') ?_ fun r s' hr=>by obtain⟨rfl,hr⟩:=hr;exact wpAny_pure ⟨rfl,hr⟩) (by intro z;cases z))
 have hlen':xs.length * 1≤1000:=by lia
 have loop:codeAny c.M A (.compLoop (.ListComp elt [g0,⟨tg,iter,ifs,0⟩] scope pos) 1 (.ref I) (.ref D) env) (fun r s'=>r=.ok .next∧PostC c Γ N env F X D [] (acc.length+1000) σ μ s Q s') s₂:=by
  refine lP (p:=iter.pos) (k:=1) (g:=1) (body:=fun K=>(do let _ ← call (.builtin "list.append") [.ref D,← eval elt env]:Sem Unit) >>= fun _=>K) rfl hA R₂ E₂ a₂ (.inl hDX) hDF hta hf (nI hA (.inl hDX) hDF he hcD) K st (fun b hb=>.inr (hwr b hb))
   (fun b hb=>⟨(hfp b hb).1,fun h=>(hfp b hb).2 (E.fx b h),fun h=>(hfp b hb).2 (h▸hDX)⟩) hcW (by lia) q ?_
  rintro s₃ h' tk ⟨acc₃,ρ₃,σ₃,μ₃,q₃,ln,R₃,ev₃,E₃,a₃,nT₃,g₃,o₃⟩ keep
  have hX:∀ b,X b→b∉wr:=fun b hb hw=>(hfp b (K.sub b hw)).2 hb
  have alloc:∀ b o,s.heap.get? b=some o→b∉wr:=fun b o e hw=>by rw[hW b (hwr b hw)] at e;cases e
  have none₂:∀ b,s₂.heap.get? b=none→s.heap.get? b=none:=fun b hb=>by
   cases z:s.heap.get? b with
   | none=>rfl
   | some o=>obtain⟨o',e⟩:=e₂.live b o z;rw[hb] at e;cases e
  have hsub:∀ b,Tr σ₃ μ₃ b→Tr σ μ b∨s.heap.get? b=none∨F b∨b=D:=fun b hb=>by
   rcases ev₃.subT b (.inl hb) with (ht | hF | hw | hw) | hn
   ·exact (e₂.subT b ht).imp id .inl
   ·exact .inr (.inr (.inl hF))
   ·exact .inr (.inr (.inr hw))
   ·exact .inr (.inl (hW b (hwr b hw)))
   ·exact .inr (.inl (none₂ b hn))
  refine⟨rfl,acc₃,ρ₃,σ₃,μ₃,q₃,by lia,R₃.leave keep (fun b hb=>⟨.inr (hwr b hb),nT₃ b hb⟩) fun b hb=>⟨.inl hb,.inl (hX b hb)⟩,?_,E₃.wr keep (fun b hb=>.inr (hwr b hb)) (fun b hb=>.inl hb) (fun b hb=>⟨hX b (E.fx b hb),E.fx b hb⟩) hcW,?_,fun _ h=>(nomatch h),g₃.trans g₂,o₃.trans o₂⟩
  ·refine⟨fun b o hb e=>keep b o (alloc b o e) (ev₃.keep b o (fun hz=>?_) (e₂.keep b o (fun ht=>hb (.inl ht)) e)),fun b o e=>?_,fun b hb=>hb.elim .inl fun hg=>.inr ?_,fun b hb=>?_,fun b hb=>?_,fun j hj=>(ev₃.mu j (Nat.lt_of_lt_of_le hj e₂.le)).trans (e₂.mu j hj),Nat.le_trans e₂.le ev₃.le⟩
   ·rcases hz with ht | hF | hw | hw
    ·exact e₂.freeT (fun ht=>hb (.inl ht)) e ht
    ·exact hb (.inr (.inl hF))
    ·exact hb (.inr (.inr (.inl hw)))
    ·exact alloc b o e hw
   ·obtain⟨o1,e1⟩:=e₂.live b o e
    obtain⟨o2,e2⟩:=ev₃.live b o1 e1
    exact⟨o2,keep b o2 (alloc b o e) e2⟩
   ·rcases hg with h | h | h
    ·exact E.fx b h
    ·exact h▸hDX
    ·cases h
   ·rcases hb with ht | hg
    ·rcases hsub b ht with h | h | h | h
     ·exact .inl (.inl h)
     ·exact .inr h
     ·exact .inl (.inr (.inl h))
     ·exact .inl (.inr (.inr (.inl h)))
    ·exact .inl (.inr hg)
   ·rcases hb with ht | hx
    ·rcases hsub b ht with h | h | h | h
     ·exact .inl (.inl h)
     ·exact .inr h
     ·exact .inl (.inr (E.fx b h))
     ·exact .inl (.inr (h▸hDX))
    ·exact .inl (.inr hx)
  ·obtain⟨items,kk,hD,ha,nT⟩:=a₃
   exact⟨items,kk,keep D _ (hX D hDX) hD,ha.leave keep (fun a z=>.inr (.inr (hwr a z))) fun a z=>z.imp id .inl,nT⟩
 exact pg rfl loop (K.self 0 s₂ _ _ st loop)
end
theorem It.onto{h₀ h₁ h hb:Heap}{T₀ T₁ S₀ S₁:Nat→Prop}{μ₀ μ₁:Nat→Nat}{n₀ n₁:Nat}{v:Value}{x:V}(t:It h₀ S₀ μ₀ n₀ hb h v x)(ev:Evo h₀ T₀ S₀ μ₀ n₀ h₁ T₁ S₁ μ₁ n₁):It h₁ S₁ μ₁ n₁ hb h v x:=by
 induction t with
 | old t=>exact .old (t.mono ev)
 | int i t=>exact .int i t
 | pair e f _ _ ih1 ih2=>exact .pair e f ih1 ih2
theorem ku{c:Ctx}{A:Around}{d g:Nat}{X W F:Nat→Prop}{Γ Γ':Gm}{bs N k:Nat}{env:Env}{ρ:Env'}{σ σ₂:Mine.St}{μ μ₂:Nat→Nat}{s s₂:Shared}{elt tg iter:Expr}{ifs:List Expr}{gs:List Comprehension}{scope:Scope}{pos:Pos}{mt:MA}{mf:ME Bool}{mb:MB}{body:Addr→Env→Sem Fin→Sem Fin}
  {xs:List V} {I:Addr} {fp wr:List Addr} {Sn:Nat→Heap→Prop} {Q:List V→Mine.St→Prop} {RR:Value→Addr→Result→Shared→Prop} {cl:List (Str×Addr)}
  (hturn:∀ (I D:Addr) (env:Env),compTurn (.ListComp elt (⟨tg,iter,ifs,0⟩::gs) scope pos) 0 (.ref I) (.ref D) env=turnB tg ifs iter.pos (.ref I) env (body D env) (.compLoop (.ListComp elt (⟨tg,iter,ifs,0⟩::gs) scope pos) 0 (.ref I) (.ref D) env))
  (hA:Room A d) (E:EnvR c X Γ bs env F ρ σ μ s.heap) (hok:compOk Γ Γ' N scope.names=true) (hkind:scope.kind=.function) (hN:ρ.length=N)
  (ht:SimA c Γ' N tg mt) (hf:SimF c Γ' ifs mf)
  (hb:∀ X F env D,X D→¬ F D→(∀ x i a,Γ'.lookup x=some (some i)→env.kindOf x≠some .local→env.cells.lookup x=some a→a≠D)→∀ cc ρ σ μ s acc Q,Rel c X σ μ s.heap→EnvR c X Γ' N env F ρ σ μ s.heap→Acc X D σ μ s.heap acc→acc.length+g≤1000000→mb d acc ρ σ Q →
   wpAny c.M A (body D env (again cc)) (fun r s'=>r=.again cc∧PostC c Γ' N env F X D [] (acc.length+g) σ μ s Q s') Bot s)
  (R₂:Rel c (fun b=>X b∨W b) σ₂ μ₂ s₂.heap) (K:Wk c A tg I fp wr xs s₂.heap (Sx (fun b=>X b∨W b) σ₂ μ₂) μ₂ σ₂.length Sn) (st:Sn 0 s₂.heap) (e₂:Evσ X σ μ s.heap (fun b=>X b∨W b) σ₂ μ₂ s₂.heap) (hW:∀ b,W b→s.heap.get? b=none) (hwr:∀ b∈wr,W b)
  (hfp:∀ b∈fp,¬ Tr σ₂ μ₂ b∧¬ X b) (g₂:s₂.gens=s.gens) (o₂:s₂.os=s.os) (hcl:closureFor scope env=pure cl) (hlen:xs.length * g≤1000000)
  (q:cL d mt mf mb (fun ys _ σ=>Q ys σ) xs [] (ρ++List.replicate k none) σ₂)
  (hRR:∀ D C ys σ' μ' s' m,Q ys σ'→Rel c (fun b=>X b∨b=C) σ' μ' s'.heap→VRσ (fun b=>X b∨b=C) σ' μ' s'.heap (.ref D) (.fl ys)→Evσ X σ μ s.heap (fun b=>X b∨b=C) σ' μ' s'.heap→s'.heap.Ns C m→¬ Tr σ' μ' C→s.heap.get? C=none →
   s'.gens=s.gens→s'.os=s.os→RR (.ref D) C (.ok .next) s') :
  wpAny c.M A (newList []) (fun acc s₃=>wpAny c.M A (newFunctionEnv scope env.globals cl [] env.qual none .none (some env)) (fun cenv s₄ =>
   codeAny c.M A (.compStart (.ListComp elt (⟨tg,iter,ifs,0⟩::gs) scope pos) 0 (.ref I) acc { cenv with scope:=relabel scope env }) (RR acc cenv.locals) s₄) Bot s₃) Bot s₂:=by
 let X₂:Nat→Prop:=fun b=>X b∨W b
 let D:Addr:=s₂.heap.objs.size
 let H3:Heap:=s₂.heap.push (listO [] 0)
 have hDf:s₂.heap.get? D=none:=bc _
 have hD3:H3.get? D=some (listO [] 0):=Heap.get?_push_size _ rfl
 refine wpAny_newObj_type ?_
 let X₃:Nat→Prop:=fun b=>X₂ b∨b=D
 obtain⟨R₃,e₃⟩:=R₂.opens (X':=X₃) (h':=H3) (fun _ _ e=>Heap.get?_push_of_some _ e) fun b hb=>hb.imp id fun hb=>⟨by rw[hb];exact hDf,by rw[hb];exact⟨_,hD3⟩⟩
 have E₃:EnvR c X₃ Γ bs env F ρ σ₂ μ₂ H3:=E.mono' (e₂.trans e₃) fun a ha=>.inl (.inl (E.fx a ha))
 obtain⟨cl',hcl',hnames,F',hFC,hF'f,hF'l,hcells,mkE⟩:=iC (k:=k) hok hkind hN R₃ E₃
 have:cl'=cl:=by rw[hcl] at hcl';injection hcl' with h;exact h.symm
 subst this
 refine tJ ?_
 let C:Addr:=H3.objs.size
 let H4:Heap:=pushCells (H3.push { cls:=.type "dict",data:=.dict #[] }) scope.names
 let X₄:Nat→Prop:=fun b=>X₃ b∨F' b
 have kp4:∀ b o,H3.get? b=some o→H4.get? b=some o:=fun b o e=>pushCells_keeps _ _ b o (Heap.get?_push_of_some _ e)
 obtain⟨R₄,e₄⟩:=R₃.opens (X':=X₄) (h':=H4) kp4 fun b hb=>hb.imp id fun hb=>⟨hF'f b hb,hF'l b hb⟩
 have E₄:=mkE X₄ (fun b hb=>.inr hb) R₄ e₄
 let env':=cG scope cl' C env
 let s₄:Shared:={ s₂ with heap:=H4 }
 have kp24:∀ b o,s₂.heap.get? b=some o→H4.get? b=some o:=fun b o e=>kp4 b o (Heap.get?_push_of_some _ e)
 have hD4:H4.get? D=some (listO [] 0):=kp4 _ _ hD3
 have hF'D:¬ F' D:=fun h=>by have:=hF'f D h;rw[hD3] at this;cases this
 have fpl:∀ b∈fp,∃ o,s₂.heap.get? b=some o:=fun b hb=>K.live 0 _ st b hb
 have fpD:D∉fp:=fun h=>by obtain⟨o,e⟩:=fpl D h;rw[hDf] at e;cases e
 have nF:∀ b,F' b→s₂.heap.get? b=none:=fun b hb=>by
  cases z:s₂.heap.get? b with
  | none=>rfl
  | some o=>have:=hF'f b hb;rw[show H3.get? b=some o from Heap.get?_push_of_some _ z] at this;cases this
 have fpF:∀ b∈fp,¬ F' b:=fun b hb h=>by obtain⟨o,e⟩:=fpl b hb;rw[nF b h] at e;cases e
 have wrD:D∉wr:=fun h=>fpD (K.sub D h)
 have wrF:∀ b,F' b→b∉wr:=fun b hb h=>fpF b (K.sub b h) hb
 have st₄:Sn 0 H4:=K.frame 0 _ _ st fun b _ o e=>kp24 b o e
 have sW:∀ b o,s.heap.get? b=some o→¬ W b:=fun b o e hw=>by rw[hW b hw] at e;cases e
 have none₂:∀ b,s₂.heap.get? b=none→s.heap.get? b=none:=fun b hb=>by
  cases z:s.heap.get? b with
  | none=>rfl
  | some o=>obtain⟨o',e⟩:=e₂.live b o z;rw[hb] at e;cases e
 have hcellsW:∀ x i a,Γ'.lookup x=some (some i)→env'.kindOf x≠some .local→env'.cells.lookup x=some a→a∉wr∧a≠D:=fun x i a hx hk ha=>by
  rcases hcells x i a hx hk ha with h | ⟨h1,⟨j,h2⟩,h3⟩
  ·exact⟨wrF a h,fun e=>hF'D (e▸h)⟩
  ·rcases E.ce x j h2 with h4 | ⟨_,a',_,ha',⟨o,ho,_⟩,_⟩
   ·exact absurd h4 h3
   ·rw[h1] at ha';cases ha'
    refine⟨fun hw=>sW a o ho (hwr a hw),fun e=>?_⟩
    subst e
    rw[none₂ D hDf] at ho;cases ho
 have n4:∀ b,H4.get? b=none→s₂.heap.get? b=none:=fun b hb=>by
  cases z:s₂.heap.get? b with
  | none=>rfl
  | some o=>rw[kp24 b o z] at hb;cases hb
 have nTD:¬ Tr σ₂ μ₂ D:=fun h=>R₂.fresh hDf (.inl h)
 have e₂₄:Evσ (fun b=>X b∨W b) σ₂ μ₂ s₂.heap X₄ σ₂ μ₂ H4:=e₃.trans e₄
 have K₄:Wk c A tg I fp wr xs H4 (Sx X₄ σ₂ μ₂) μ₂ σ₂.length Sn:=⟨K.sub,K.frame,K.live,fun i x s P E hx h hp=>K.item i x s P E hx h fun v h' tk ti st keep=>hp v h' tk (ti.onto e₂₄) st keep,K.done,K.self⟩
 have loop:codeAny c.M A (.compLoop (.ListComp elt (⟨tg,iter,ifs,0⟩::gs) scope pos) 0 (.ref I) (.ref D) env') (RR (.ref D) C) s₄:=by
  refine lP (s:=s₄) (hturn I D env') hA R₄ E₄ ⟨[],0,hD4,.nil,nTD⟩ (.inl (.inr rfl)) hF'D ht hf (hb X₄ F' env' D (.inl (.inr rfl)) hF'D fun x i a hx hk ha=>(hcellsW x i a hx hk ha).2) K₄ st₄ (fun b hb=>.inl (.inl (.inr (hwr b hb))))
   (fun b hb=>⟨(hfp b hb).1,fpF b hb,fun h=>fpD (h▸hb)⟩) (fun x i a hx hk ha=>(hcellsW x i a hx hk ha).1) (by simpa using hlen) q ?_
  rintro s₃ h' tk ⟨acc,ρ',σ',μ',hq,ln,R',ev',E',⟨items,kk,hD,hacc,nTD'⟩,nT,g',o'⟩ keep
  have hXw:∀ b,X b→b∉wr:=fun b hb hw=>(hfp b (K.sub b hw)).2 hb
  have hup:∀ b,(X b∨b=C)→X₄ b:=fun b hb=>hb.elim (fun h=>.inl (.inl (.inl h))) fun h=>.inr (h▸hFC)
  have hwX:∀ b∈wr,X₄ b:=fun b hb=>.inl (.inl (.inr (hwr b hb)))
  have hDX:¬ (X D∨D=C):=fun h=>by
   rcases h with h | h
   ·obtain⟨_,o,e⟩:=R₂.sh D (.inl h);rw[hDf] at e;cases e
   ·exact hF'D (by rw[h];exact hFC)
  have hsub:∀ b,Tr σ' μ' b→Tr σ μ b∨s.heap.get? b=none:=fun b hb=>by
   rcases ev'.subT b (.inl hb) with (h | h | h | h) | h
   ·exact (e₂.subT b h)
   ·exact .inr (none₂ b (nF b h))
   ·exact .inr (by rw[h];exact none₂ D hDf)
   ·exact .inr (hW b (hwr b h))
   ·exact .inr (none₂ b (n4 b h))
  obtain⟨m,hns,_⟩:=E'.lo
  refine hRR D C acc σ' μ' _ m hq (R'.leave keep (fun b hb=>⟨hwX b hb,nT b hb⟩) fun b hb=>⟨hup b hb,.inl (hb.elim (hXw b) fun h=>h▸wrF C hFC)⟩) ?_ ?_ ?_ ?_ (none₂ C (nF C hFC)) (g'.trans g₂) (o'.trans o₂)
  ·exact .fl (keep D _ wrD hD) (fun h=>h.elim nTD' hDX) (hacc.leave keep (fun a z=>.inr (hwX a z)) fun a z=>z.imp id (hup a))
  ·refine⟨fun b o hb e=>keep b o (fun hw=>sW b o e (hwr b hw)) (ev'.keep b o (fun hz=>?_) (kp24 b o (e₂.keep b o hb e))),fun b o e=>?_,fun b hb=>.inl hb,hsub,fun b hb=>?_,fun j hj=>(ev'.mu j (Nat.lt_of_lt_of_le hj e₂.le)).trans (e₂.mu j hj),Nat.le_trans e₂.le ev'.le⟩
   ·rcases hz with h | h | h | h
    ·exact e₂.freeT hb e h
    ·have:=none₂ b (nF b h);rw[e] at this;cases this
    ·have:=none₂ D hDf;rw[← h,e] at this;cases this
    ·exact sW b o e (hwr b h)
   ·obtain⟨o1,e1⟩:=e₂.live b o e
    obtain⟨o2,e2⟩:=ev'.live b o1 (kp24 b o1 e1)
    exact⟨o2,keep b o2 (fun hw=>sW b o e (hwr b hw)) e2⟩
   ·rcases hb with h | h
    ·exact (hsub b h).imp .inl id
    ·rcases h with h | h
     ·exact .inl (.inr h)
     ·exact .inr (by rw[h];exact none₂ C (nF C hFC))
  ·exact hns.at' fun o e=>keep _ _ (wrF C hFC) e
  ·exact (E'.fr C hFC).1
 exact pg rfl loop (K.self 0 s₄ _ _ st₄ loop)
end
section
noncomputable def ew(it:ME (List V))(N k m:Nat)(tg:MA)(f:ME Bool)(b:MB):ME V:=fun d ρ σ Q=>ρ.length=N∧it d ρ σ fun xs σ=>xs.length≤m∧cL d tg f b (fun ys _ σ=>Q (.fl ys) σ) xs [] (ρ++List.replicate k none) σ
structure CompB (c:Ctx) (Γ:Gm) (N:Nat) (elt tg iter:Expr) (ifs:List Expr) (gs:List Comprehension) (scope:Scope) (pos:Pos) (g:Nat) (mb:MB):Prop where
 ex:∃ body:Addr→Env→Sem Fin→Sem Fin,
  (∀ (I D:Addr) (env:Env),compTurn (.ListComp elt (⟨tg,iter,ifs,0⟩::gs) scope pos) 0 (.ref I) (.ref D) env=turnB tg ifs iter.pos (.ref I) env (body D env) (.compLoop (.ListComp elt (⟨tg,iter,ifs,0⟩::gs) scope pos) 0 (.ref I) (.ref D) env)) ∧
  ∀ A d X F env D,Room A d→X D→¬ F D→(∀ x i a,Γ.lookup x=some (some i)→env.kindOf x≠some .local→env.cells.lookup x=some a→a≠D)→∀ cc ρ σ μ s acc Q,Rel c X σ μ s.heap→EnvR c X Γ N env F ρ σ μ s.heap→Acc X D σ μ s.heap acc→acc.length+g≤1000000→mb d acc ρ σ Q →
   wpAny c.M A (body D env (again cc)) (fun r s'=>r=.again cc∧PostC c Γ N env F X D [] (acc.length+g) σ μ s Q s') Bot s
theorem CompB.one{c:Ctx}{Γ:Gm}{N:Nat}{elt tg iter:Expr}{ifs:List Expr}{scope:Scope}{pos:Pos}{me:ME V}(he:SimE c Γ elt me):CompB c Γ N elt tg iter ifs [] scope pos 1 (eltB me) :=
 ⟨fun D env K=>(do let _ ← call (.builtin "list.append") [.ref D,← eval elt env]:Sem Unit) >>= fun _=>K,fun _ _ _=>rfl,fun _ _ _ _ _ _ hA hX hF hc=>nI hA hX hF he hc⟩
theorem CompB.two{c:Ctx}{Γ:Gm}{N:Nat}{elt tg iter tg2 it2:Expr}{ifs ifs2:List Expr}{scope:Scope}{pos:Pos}{mi:ME (List V)}{mt:MA}{mf:ME Bool}{me:ME V}(hi:SimI c Γ it2 tg2 mi)(hta:SimA c Γ N tg2 mt)(hf:SimF c Γ ifs2 mf)(he:SimE c Γ elt me)(hs:∀ env x,foldedSetIterable it2 env x=pure x) :
  CompB c Γ N elt tg iter ifs [⟨tg2,it2,ifs2,0⟩] scope pos 1000 (genB mi mt mf me) :=
 ⟨fun D env K=>do
   let x ← eval it2 env
   standAt it2.pos
   let x ← foldedSetIterable it2 env x
   let _ ← runOwn (.compStart (.ListComp elt [⟨tg,iter,ifs,0⟩,⟨tg2,it2,ifs2,0⟩] scope pos) 1 (← holding [x] (pyIter x)) (.ref D) env) env
   K,fun _ _ _=>rfl,fun _ _ _ _ _ _ hA hX hF hc=>vW (g0:=⟨tg,iter,ifs,0⟩) (scope:=scope) (pos:=pos) hA hX hF hi hta hf he hs hc⟩
noncomputable def aO(it:ME (List V))(N k:Nat)(tg:MA)(f:ME Bool)(e:ME V):ME V:=fun d ρ σ Q=>ρ.length=N∧it d ρ σ fun xs σ=>xs.length≤1000000∧compL d tg f e (fun ys σ=>Q (.fl ys) σ) xs [] (ρ++List.replicate k none) σ
theorem Post.letC{c:Ctx}{X:Nat→Prop}{σ σ':Mine.St}{μ μ':Nat→Nat}{s s':Shared}{C:Addr}{v:Value}{y:V}{h':Heap}{Q:V→Mine.St→Prop}(R:Rel c X σ μ s.heap)(q:Q y σ')(R':Rel c (fun b=>X b∨b=C) σ' μ' s'.heap)(t:VRσ (fun b=>X b∨b=C) σ' μ' s'.heap v y)
  (ev:Evσ X σ μ s.heap (fun b=>X b∨b=C) σ' μ' s'.heap) (nT:¬ Tr σ' μ' C) (hC:s.heap.get? C=none) (g:s'.gens=s.gens) (o:s'.os=s.os) (hs:Heap.SameBut C s'.heap h'):Post c RV X σ μ s Q v { s' with heap:=h' }:=by
 have keep:∀ b o,b∉[C]→s'.heap.get? b=some o→h'.get? b=some o:=fun b o hb e=>(hs.2 b (by simpa using hb)).trans e
 have hXC:∀ b,X b→b∉[C]:=fun b hb hm=>by
  simp at hm;subst hm
  obtain⟨_,o,e⟩:=R.sh _ hb;rw[hC] at e;cases e
 have ne:∀ b o,s.heap.get? b=some o→b≠C:=fun b o e z=>by rw[z,hC] at e;cases e
 refine⟨y,σ',μ',q,R'.leave keep (fun b hb=>by simp at hb;subst hb;exact⟨.inr rfl,nT⟩) fun b hb=>⟨.inl hb,.inl (hXC b hb)⟩,t.leave keep (fun a z=>by simp at z;subst z;exact .inr (.inr rfl)) fun a z=>z.imp id .inl,?_,g,o⟩
 refine⟨fun b o hb e=>keep b o (by simpa using ne b o e) (ev.keep b o hb e),fun b o e=>?_,fun b hb=>.inl hb,ev.subT,fun b hb=>?_,ev.mu,ev.le⟩
 ·obtain⟨o',e'⟩:=ev.live b o e
  exact⟨o',keep b o' (by simpa using ne b o e) e'⟩
 ·exact ev.sub b (hb.imp id .inl)
theorem mK{c:Ctx}{Γ Γ':Gm}{N k m g:Nat}(hm:m * g≤1000000){elt tg iter:Expr}{ifs:List Expr}{gs:List Comprehension}{scope:Scope}{pos:Pos}{mi:ME (List V)}{mt:MA}{mf:ME Bool}{mb:MB}(hok:compOk Γ Γ' N scope.names=true)(hkind:scope.kind=.function)
  (hi:SimI c Γ iter tg mi) (ht:SimA c Γ' N tg mt) (hf:SimF c Γ' ifs mf) (he:CompB c Γ' N elt tg iter ifs gs scope pos g mb) (hs:∀ env x,foldedSetIterable iter env x=pure x) :
  SimE c Γ (.ListComp elt (⟨tg,iter,ifs,0⟩::gs) scope pos) (ew mi N k m mt mf mb):=by
 intro A d X bs env F ρ σ μ s Q hA R E ⟨hN,h⟩
 obtain⟨body,hturn,hb⟩:=he.ex
 obtain⟨cl,hcl,hnames,-⟩:=iC (k:=k) hok hkind hN R E
 rw[eval_ListComp]
 refine wpAny_comprehension_free (use:=none) rfl (hs env) hcl hkind hnames (wpAny_mono (hi A d X bs env F ρ σ μ s _ hA R E h) (fun x s₁ hx=>wpAny_mono hx (fun it s₂ hp=>?_) fun _ _ e=>e) fun _ _ e=>e)
 obtain⟨xs,σ₂,μ₂,I,fp,wr,Sn,W,⟨hlen,q⟩,rfl,R₂,K,st,e₂,hW,hwr,hfp,g₂,o₂⟩:=hp
 refine ku (RR:=fun acc C=>compPost c.M A Bot none (Post c RV X σ μ s Q) acc C) hturn hA E hok hkind hN ht hf (fun X F env D=>hb A d X F env D hA) R₂ K st e₂ hW hwr hfp g₂ o₂ hcl (Nat.le_trans (Nat.mul_le_mul_right g hlen) hm) q ?_
 intro D C ys σ' μ' s' m q' R' t' ev' hns nT hC g' o'
 exact⟨m,hns,fun h' hs'=>Post.letC R q' R' t' ev' nT hC g' o' hs'⟩
theorem ot{bs i:Nat}{x:Str}{px spos:Pos}{c:Ctx}{Γ Γ':Gm}{N k m g:Nat}(hm:m * g≤1000000){elt tg iter:Expr}{ifs:List Expr}{gs:List Comprehension}{scope:Scope}{pos:Pos}{mi:ME (List V)}{mt:MA}{mf:ME Bool}{mb:MB}(hok:compOk Γ Γ' N scope.names=true)(hkind:scope.kind=.function)
  (hi:SimI c Γ iter tg mi) (ht:SimA c Γ' N tg mt) (hf:SimF c Γ' ifs mf) (he:CompB c Γ' N elt tg iter ifs gs scope pos g mb) (hx:Γ.lookup x=some (some i)) (hbi:bs≤i) (hs:∀ env x,foldedSetIterable iter env x=pure x) :
  SimS c Γ bs (.Assign [.Name x px] (.ListComp elt (⟨tg,iter,ifs,0⟩::gs) scope pos) spos) (aw (nmA i) (ew mi N k m mt mf mb)):=by
 intro A d X env F ρ σ μ s Q hA R E h
 have hb:∃ b,swapsWith (.ListComp elt (⟨tg,iter,ifs,0⟩::gs) scope pos) (some (.Name x px)) spos.line env=pure b:=⟨_,rfl⟩
 obtain⟨b,hb⟩:=hb
 cases b with
 | false =>
  refine wpAny_Assign_Name (aC (mK (k:=k) hm hok hkind hi ht hf he hs A d X bs env F ρ σ μ s _ hA R E h) fun u y σ₁ μ₁ s₁ q R₁ t₁ e₁ g₁ o₁=>?_) hb
  refine cb (fh (Q:=fun ρ σ=>Q .next ρ σ) R₁ (E.mono e₁) hx hbi t₁ q) fun _ ρ₂ σ₂ μ₂ s₂ q₂ R₂ e₂ E₂ g₂ o₂=>?_
  exact⟨_,_,_,_,q₂,R₂,.next,(e₁.toF E.fx).trans e₂,E₂,g₂.trans g₁,o₂.trans o₁⟩
 | true =>
  obtain⟨hN,h⟩:=h
  obtain⟨body,hturn,hbo⟩:=he.ex
  obtain⟨cl,hcl,hnames,-⟩:=iC (k:=k) hok hkind hN R E
  rw[exec_Assign_Name_used _ _ _ _ hb]
  refine wpAny_bind (wpAny_standAt (wpAny_bind ?_))
  show wpAny _ A (do let _ ← comprehension (.ListComp elt (⟨tg,iter,ifs,0⟩::gs) scope pos) scope env _ (newList []) false (eval iter env) (some (assign (.Name x px) env))) _ _ s
  refine wpAny_bind (wpAny_mono (wpAny_comprehension_free (use:=some (assign (.Name x px) env)) (Q:=fun _ s'=>PostS c Γ bs env F X σ μ s Q .next s') rfl (hs env) hcl hkind hnames
   (wpAny_mono (hi A d X bs env F ρ σ μ s _ hA R E h) (fun xv s₁ hx'=>wpAny_mono hx' (fun it s₂ hp=>?_) fun _ _ e=>e) fun _ _ e=>e)) (fun _ s' hq=>wpAny_pure (wpAny_pure hq)) fun _ _ e=>e)
  obtain⟨xs,σ₂,μ₂,I,fp,wr,Sn,W,⟨hlen,q⟩,rfl,R₂,K,st,e₂,hW,hwr,hfp,g₂,o₂⟩:=hp
  refine ku (RR:=fun acc C=>compPost c.M A Bot (some (assign (.Name x px) env)) (fun _ s'=>PostS c Γ bs env F X σ μ s Q .next s') acc C) hturn hA E hok hkind hN ht hf (fun X F env D=>hbo A d X F env D hA) R₂ K st e₂ hW hwr hfp g₂ o₂ hcl (Nat.le_trans (Nat.mul_le_mul_right g hlen) hm) q ?_
  intro D C ys σ' μ' s' m q' R' t' ev' hns nT hC g' o'
  have hFC:¬ F C:=fun hf=>by obtain⟨_,_,o,e⟩:=E.fr C hf;rw[hC] at e;cases e
  have E':EnvR c (fun b=>X b∨b=C) Γ bs env F ρ σ' μ' s'.heap:=E.mono' ev' fun a ha=>.inl (E.fx a ha)
  show wpAny c.M A (assign (.Name x px) env (.ref D)) _ _ _
  refine wpAny_assign_Name (cb (fh (Q:=fun ρ σ=>Q .next ρ σ) R' E' hx hbi t' q') fun _ ρ₃ σ₃ μ₃ s₃ q₃ R₃ e₃ E₃ g₃ o₃=>?_)
  have hCl:∃ o,s'.heap.get? C=some o:=by obtain⟨o,_,_,e,_⟩:=hns;exact⟨o,e⟩
  have nT₃:¬ Tr σ₃ μ₃ C:=fun ht=>by
   obtain⟨o,e⟩:=hCl
   rcases e₃.subT C (.inl ht) with (h | h) | h
   ·exact nT h
   ·exact hFC h
   ·rw[e] at h;cases h
  refine⟨m,hns.at' fun o e=>e₃.keep C o (fun hz=>hz.elim nT hFC) e,fun h' hs'=>?_⟩
  have keep:∀ b o,b∉[C]→s₃.heap.get? b=some o→h'.get? b=some o:=fun b o hb e=>(hs'.2 b (by simpa using hb)).trans e
  have ne:∀ b o,s.heap.get? b=some o→b≠C:=fun b o e z=>by rw[z,hC] at e;cases e
  have hXC:∀ b,X b→b∉[C]:=fun b hb hm=>by
   simp at hm;subst hm
   obtain⟨_,o,e⟩:=R.sh _ hb;rw[hC] at e;cases e
  have hcell:∀ x i a,Γ.lookup x=some (some i)→env.kindOf x≠some .local→env.cells.lookup x=some a→a∉[C]:=fun x i a hx hk ha hm=>by
   simp at hm;subst hm
   rcases E.ce x i hx with h4 | ⟨_,a',_,ha',⟨o,ho,_⟩,_⟩
   ·exact hk h4
   ·rw[ha] at ha';cases ha';rw[hC] at ho;cases ho
  refine⟨.next,ρ₃,σ₃,μ₃,q₃,R₃.leave keep (fun b hb=>by simp at hb;subst hb;exact⟨.inr rfl,nT₃⟩) fun b hb=>⟨.inl hb,.inl (hXC b hb)⟩,.next,?_,?_,g₃.trans g',o₃.trans o'⟩
  ·have noneC:∀ b,s'.heap.get? b=none→s.heap.get? b=none:=fun b hb=>by
    cases z:s.heap.get? b with
    | none=>rfl
    | some o=>obtain⟨o',e⟩:=ev'.live b o z;rw[hb] at e;cases e
   have hsub:∀ b,Tr σ₃ μ₃ b→Fb F σ μ b∨s.heap.get? b=none:=fun b hb=>by
    rcases e₃.subT b (.inl hb) with (h | h) | h
    ·exact (ev'.subT b h).imp .inl id
    ·exact .inl (.inr h)
    ·exact .inr (noneC b h)
   refine⟨fun b o hb e=>keep b o (by simpa using ne b o e) (e₃.keep b o (fun hz=>?_) (ev'.keep b o (fun ht=>hb (.inl ht)) e)),fun b o e=>?_,fun b hb=>hb.elim .inl fun hf=>.inr (E.fx b hf),fun b hb=>?_,fun b hb=>?_,fun j hj=>(e₃.mu j (Nat.lt_of_lt_of_le hj ev'.le)).trans (ev'.mu j hj),Nat.le_trans ev'.le e₃.le⟩
   ·rcases hz with h | h
    ·exact ev'.freeT (fun ht=>hb (.inl ht)) e h
    ·exact hb (.inr h)
   ·obtain⟨o1,e1⟩:=ev'.live b o e
    obtain⟨o2,e2⟩:=e₃.live b o1 e1
    exact⟨o2,keep b o2 (by simpa using ne b o e) e2⟩
   ·rcases hb with h | h
    ·exact hsub b h
    ·exact .inl (.inr h)
   ·rcases hb with h | h
    ·rcases hsub b h with (h1 | h1) | h1
     ·exact .inl (.inl h1)
     ·exact .inl (.inr (E.fx b h1))
     ·exact .inr h1
    ·exact .inl (.inr h)
  ·exact E₃.wr keep (fun b hb=>by simp at hb;subst hb;exact .inr rfl) (fun b hb=>.inl hb) (fun b hb=>⟨by simp;intro z;exact hFC (z▸hb),E.fx b hb⟩) hcell
theorem vb{c:Ctx}{Γ Γ':Gm}{N k:Nat}{elt tg iter:Expr}{ifs:List Expr}{scope:Scope}{pos:Pos}{mi:ME (List V)}{mt:MA}{mf:ME Bool}{me:ME V}(hok:compOk Γ Γ' N scope.names=true)(hkind:scope.kind=.function)
  (hi:SimI c Γ iter tg mi) (ht:SimA c Γ' N tg mt) (hf:SimF c Γ' ifs mf) (he:SimE c Γ' elt me) (hs:∀ env x,foldedSetIterable iter env x=pure x) :
  SimE c Γ (.ListComp elt [⟨tg,iter,ifs,0⟩] scope pos) (aO mi N k mt mf me):=mK (Nat.le_refl _) hok hkind hi ht hf (.one he) hs
theorem qf{c:Ctx}{Γ Γ':Gm}{bs N k i:Nat}{x:Str}{px:Pos}{elt tg iter:Expr}{ifs:List Expr}{scope:Scope}{pos spos:Pos}{mi:ME (List V)}{mt:MA}{mf:ME Bool}{me:ME V}(hok:compOk Γ Γ' N scope.names=true)(hkind:scope.kind=.function)
  (hi:SimI c Γ iter tg mi) (ht:SimA c Γ' N tg mt) (hf:SimF c Γ' ifs mf) (he:SimE c Γ' elt me) (hx:Γ.lookup x=some (some i)) (hbi:bs≤i) (hs:∀ env x,foldedSetIterable iter env x=pure x) :
  SimS c Γ bs (.Assign [.Name x px] (.ListComp elt [⟨tg,iter,ifs,0⟩] scope pos) spos) (aw (nmA i) (aO mi N k mt mf me)):=ot (Nat.le_refl _) hok hkind hi ht hf (.one he) hx hbi hs
end
section
theorem VRs.one{h:Heap}{S:Nat→Prop}{μ:Nat→Nat}{n:Nat}{vs:List Value}{x:V}(t:VRs h S μ n vs [x]):∃ v,vs=[v]∧VR h S μ n v x:=by
 cases t with | cons a b=>cases b;exact⟨_,rfl,a⟩
theorem VRs.two{h:Heap}{S:Nat→Prop}{μ:Nat→Nat}{n:Nat}{vs:List Value}{x y:V}(t:VRs h S μ n vs [x,y]):∃ v w,vs=[v,w]∧VR h S μ n v x∧VR h S μ n w y:=by
 cases t with | cons a b=>obtain⟨w,rfl,b'⟩:=b.one;exact⟨_,_,rfl,a,b'⟩
theorem VRs.three{h:Heap}{S:Nat→Prop}{μ:Nat→Nat}{n:Nat}{vs:List Value}{x y z:V}(t:VRs h S μ n vs [x,y,z]):∃ v w u,vs=[v,w,u]∧VR h S μ n v x∧VR h S μ n w y∧VR h S μ n u z:=by
 cases t with | cons a b=>obtain⟨w,u,rfl,b',e⟩:=b.two;exact⟨_,_,_,rfl,a,b',e⟩
section
variable{c:Ctx}{d:Nat}{σ:Mine.St}{Q:V→Mine.St→Prop}
theorem lh{x:V}(h:lsP σ x fun l=>l.length≤1000000∧Q (.int l.length) σ):CallT c (.builtin "len") d [x] σ Q:=by
 intro A X μ s vs hA R ts
 obtain⟨v,rfl,t⟩:=ts.one
 obtain⟨a,items,n,l,rfl,e,tl,⟨hl,q⟩⟩:=dF R t h
 have el:=tl.length
 refine Calls.call_len_list (isList e) (by simp only[List.size_toArray];lia) ?_
 simp only[List.size_toArray,el]
 exact Post.tok R (.int _ _) q
theorem bG{i:Nat}{y:V}{l:List V}(e:σ[i]?=some (some (.list l)))(hl:l.length≤1000000)(q:Q .none (σ.set i (some (.list (l++[y]))))):CallT c (.builtin "list.append") d [.ref i,y] σ Q:=by
 intro A X μ s vs hA R ts
 obtain⟨v,w,rfl,t,ty⟩:=ts.two
 obtain⟨rfl,hi⟩:=t.inv
 obtain⟨items,k,g,tl⟩:=(R.obj i _ e).inv
 have el:=tl.length
 refine wpAny_list_append_plain ⟨k,g⟩ (fun h' hl' hs=>?_) (bu (by simp only[List.size_toArray];lia))
 obtain⟨k',hl'⟩:=hl'
 have hl'':h'.get? (μ i)=some (listO (items++[w]) k'):=by rw[hl'];simp[listO]
 have r:=R.upd (p:=.list (l++[y])) e hs ⟨_,hl''⟩ fun ev=>.list hl'' ((tl.mono ev).snoc (ty.mono ev))
 exact⟨_,_,μ,q,r.1,.none,r.2,rfl,rfl⟩
theorem tC{x y:V}{dy:PyData}(e1:y.py=some dy)(h:lsP σ x fun l=>∃ ds,V.pys l=some ds∧SeqAt.shaped (.list (dy::ds))=true∧Q (.int (ds.countP (PyData.eqv · dy))) σ):CallT c (.builtin "list.count") d [x,y] σ Q:=by
 intro A X μ s vs hA R ts
 have hu:=hA.units
 obtain⟨v,w,rfl,t,ty⟩:=ts.two
 obtain⟨a,items,n,l,rfl,g,tl,⟨ds,e2,sh,q⟩⟩:=dF R t h
 obtain⟨e,h1,_,h3,_⟩:=cS (s:=s) (A:=A) (by lia) ty tl e1 e2 sh
 refine call_meets (T:="list") (name:="count") F.slot_list_count ⟨_,g,rfl⟩ F.entry_list_count (F.args_list_count_2 _ _) (SeqAt.list_countAt a items.toArray n none #[] _ e) ⟨g,?_,?_⟩
 ·exact h1
 ·show Post c RV X σ μ s Q _ _
  rw[List.toList_toArray,h3]
  exact Post.tok R (.int _ _) q
theorem sO{i:Int}(q:Q (.int i) σ):CallT c (.type "int") d [.int i] σ Q:=by
 intro A X μ s vs hA R ts
 obtain⟨v,rfl,t⟩:=ts.one
 cases t
 exact call_int_int (Post.here R (.int _ _) q)
theorem Post.newRng{X:Nat→Prop}{μ:Nat→Nat}{s:Shared}{a b e:Int}{t u v:Tok}{tk:Nat}(R:Rel c X σ μ s.heap)(q:Q (.rng a b e) σ) :
  Post c RV X σ μ s Q (.ref s.heap.objs.size) { s with heap:=s.heap.push { cls:=.type "range",data:=.fields #[.int a t,.int b u,.int e v] },toks:=tk } :=
 have p:=R.push { cls:=.type "range",data:=.fields #[.int a t,.int b u,.int e v] }
 ⟨_,σ,μ,q,p.1,.rng (Heap.get?_push_size _ rfl) (fun f=>R.fresh (bc _) f),p.2,rfl,rfl⟩
theorem dA{n:Int}(q:Q (.rng 0 n 1) σ):CallT c (.type "range") d [.int n] σ Q:=by
 intro A X μ s vs hA R ts
 obtain⟨v,rfl,t⟩:=ts.one
 cases t
 exact call_range_1 (Post.newRng R q)
theorem xc{a b:Int}(q:Q (.rng a b 1) σ):CallT c (.type "range") d [.int a,.int b] σ Q:=by
 intro A X μ s vs hA R ts
 obtain⟨v,w,rfl,t,t'⟩:=ts.two
 cases t;cases t'
 exact call_range_2 (Post.newRng R q)
theorem jy{a b e:Int}(h0:e≠0)(hs:Builtin.divisionGoesByPylong (b - a) e=false)(q:Q (.rng a b e) σ):CallT c (.type "range") d [.int a,.int b,.int e] σ Q:=by
 intro A X μ s vs hA R ts
 obtain⟨v,w,u,rfl,t,t',t''⟩:=ts.three
 cases t;cases t';cases t''
 exact call_range_3 h0 (Post.newRng R q) (.inl hs)
theorem xW{l:List V}(q:Q (.tup l) σ):CallT c (.type "tuple") d [.tup l] σ Q:=by
 intro A X μ s vs hA R ts
 obtain⟨v,rfl,t⟩:=ts.one
 obtain⟨a,items,rfl,e,f,tl⟩:=t.inv
 exact call_tuple_same ⟨_,e,rfl,0,rfl⟩ (Post.here R (.tup e f tl) q)
theorem rY{l:List V}(hl:l.length≤1000000)(q:Q (.tup l) σ):CallT c (.type "tuple") d [.fl l] σ Q:=by
 intro A X μ s vs hA R ts
 obtain⟨v,rfl,t⟩:=ts.one
 obtain⟨a,items,n,rfl,e,f,tl⟩:=t.inv
 have el:=tl.length
 refine call_tuple_list (isList e) (fun h' keep=>?_) (bu (by simp only[List.size_toArray];lia))
 have p:=R.keeps keep
 have q':=Post.newTup (c:=c) (s:={ s with heap:=h' }) (tk:=s.toks) (Q:=Q) p.1 (tl.mono p.2) q
 exact Post.after (s:=s) (s₁:={ s with heap:=h' }) p.2 rfl rfl q'
theorem gM{a b st:Int}(h0:st≠0)(hs:Builtin.Range.small a b st=true)(hn:(Builtin.Range.rangeSize a b st).toNat≤1000000)
  (q:Q (.fl ((List.range (Builtin.Range.rangeSize a b st).toNat).map fun (i:Nat)=>V.int (a+i * st))) σ):CallT c (.type "list") d [.rng a b st] σ Q:=by
 intro A X μ s vs hA R ts
 obtain⟨v,rfl,t⟩:=ts.one
 obtain⟨_,_,_,_,rfl,e,f⟩:=t.inv
 have hp:=jU a b st
 refine call_list_range (n:=(Builtin.Range.rangeSize a b st).toNat) hA.handled e hs (by lia) (by lia) fun h' tk acc' c' keep hn' hit=>?_
 have p:=R.keeps keep
 refine⟨_,σ,μ,q,p.1,.fl (items:=acc'.toList) (k:=c') (by simpa [listO] using hn') (fun z=>R.fresh (bc _) z) ?_,p.2,rfl,rfl⟩
 obtain⟨h1,h2⟩:=hit
 have gen:∀ (k:Nat) (l:List Value),l.length=(Builtin.Range.rangeSize a b st).toNat - k→(∀ j v,l[j]?=some v→∃ t,v=Value.int (a+((k+j:Nat):Int) * st) t)→VRs h' (Sx X σ μ) μ σ.length l (((List.range (Builtin.Range.rangeSize a b st).toNat).drop k).map fun (i:Nat)=>V.int (a+i * st)):=by
  intro k l
  induction l generalizing k with
  | nil=>intro hl _;rw[List.drop_of_length_le (by simp at hl ⊢;lia)];exact .nil
  | cons v vs ih =>
   intro hl hv
   have hk:k < (Builtin.Range.rangeSize a b st).toNat:=by simp at hl;lia
   rw[List.drop_eq_getElem_cons (by simpa using hk)]
   obtain⟨t,rfl⟩:=hv 0 v rfl
   refine .cons ?_ (ih (k+1) (by simp at hl;lia) fun j v hj=>?_)
   ·simp only[List.getElem_range,Nat.add_zero];exact .int _ _
   ·obtain⟨t,ht⟩:=hv (j+1) v (by simpa using hj)
    exact⟨t,by rw[ht,show k+1+j=k+(j+1) by lia]⟩
 have:=gen 0 acc'.toList (by simpa using h1) fun j v hj=>by
  obtain⟨t,ht⟩:=h2 j v (by simpa using hj)
  exact⟨t,by rw[ht,Nat.zero_add]⟩
 simpa using this
end
end
section
section
variable{c:Ctx}{d:Nat}{σ:Mine.St}{Q:V→Mine.St→Prop}
open scoped Classical in
theorem vu{i:Nat}{k y0:V}{kvs:List (V×V)}(ok:c.Ok)(e:σ[i]?=some (some (.dict kvs)))(hk:aY kvs k)(h1:∀ y,dget kvs k=some y→Q y σ)(h2:dget kvs k=none→Q y0 σ):CallT c (.builtin "dict.get") d [.ref i,k,y0] σ Q:=by
 intro A X μ s vs hA R ts
 have hu:=hA.units
 obtain⟨v,w,u,rfl,t,tk,ty⟩:=ts.three
 obtain⟨rfl,hi⟩:=t.inv
 have nm:=notMod ok R e
 obtain⟨_,_,e1,x,un,okk⟩:=(R.obj i _ e).inv
 obtain⟨k1,k2,k3,k4⟩:=hk
 cases tk with
 | int j tk =>
  obtain⟨ps,hd,p⟩:=eZ (embInt c.prog c.w) e1 x un (gb k3)
  refine call_meetsIn F.slot_dict_get hd.typeIs F.entry_dict_get (F.args_dict_get_3 _ _ _) (meets_dict_get_default (intKind c.prog c.w) _ (intKind_is _ _ _ _) nm _) ⟨_,hd.mapOf,?_⟩
  show Post c RV X σ μ s Q _ _
  rcases p.at (embInt c.prog c.w) j with⟨a1,a2⟩ | ⟨v,y',a1,a2,a3⟩
  ·rw[a2];exact Post.tok R ty (h2 a1)
  ·rw[a2];exact Post.tok R a3 (h1 _ a1)
 | str j tk =>
  obtain⟨ps,hd,p⟩:=eZ (embStr c.prog c.w) e1 x un (iO k3)
  refine call_meetsIn F.slot_dict_get hd.typeIs F.entry_dict_get (F.args_dict_get_3 _ _ _) (meets_dict_get_default (strKind c.prog c.w) _ (strKind_is _ _ _ _) nm _) ⟨_,hd.mapOf,?_⟩
  show Post c RV X σ μ s Q _ _
  rcases p.at (embStr c.prog c.w) j with⟨a1,a2⟩ | ⟨v,y',a1,a2,a3⟩
  ·rw[a2];exact Post.tok R ty (h2 a1)
  ·rw[a2];exact Post.tok R a3 (h1 _ a1)
 | tup g f t =>
  obtain⟨ps,hd,p⟩:=oZ e1 x un okk (lT k3)
  refine call_meetsIn F.slot_dict_get hd.typeIs F.entry_dict_get (F.args_dict_get_3 _ _ _) (meetsH_dict_get_default (cq c.prog c.w) _ _ nm _) ⟨by show A.units+1+16 < cLine;lia,_,ps,⟨KR.of (.tup g f t) k1,k2⟩,hd,?_⟩
  show Post c RV X σ μ s Q _ _
  rcases p.at (fun p hp=>(okk p hp).1) k1 with⟨a1,a2⟩ | ⟨a,v,y',a1,a2,a3⟩
  ·rw[a2];exact Post.tok R ty (h2 a1)
  ·rw[a2];exact Post.tok R a3 (h1 _ a1)
 | _=>cases k1
noncomputable def allO{α:Type}(f:V→Option α)(l:List V):Option (List α):=@List.rec V (fun _=>Option (List α)) (some []) (fun x _ r=>(f x).bind fun i=>r.map (i::·)) l
theorem n3{α:Type}{f:V→Option α}{x:V}{l:List V}{is:List α}(h:allO f (x::l)=some is):∃ i js,f x=some i∧allO f l=some js∧i::js=is:=by
 obtain⟨i,e,h⟩:=Option.bind_eq_some_iff.mp h
 obtain⟨js,e',h⟩:=Option.map_eq_some_iff.mp h
 exact⟨i,js,e,e',h⟩
theorem xn{α:Type}{f:V→Option α}{g:α→V}(h:∀ i,f (g i)=some i)(is:List α):allO f (is.map g)=some is:=by
 induction is with
 | nil=>rfl
 | cons i is ih =>
  show ((f (g i)).bind fun i=>(allO f (is.map g)).map (i::·))=_
  rw[h,ih];rfl
noncomputable def V.ints:List V→Option (List Int):=allO V.int?
theorem V.ints_map(is:List Int):V.ints (is.map V.int)=some is:=xn (g:=V.int) (fun _=>rfl) is
end
end
section
theorem vN{c:Ctx}{Γ:Gm}{A:Around}{d:Nat}{X:Nat→Prop}{bs:Nat}{env:Env}{F:Nat→Prop}{ρ:Env'}{σ:Mine.St}{μ:Nat→Nat}{s:Shared}{f:Value}{first:List Value}{args:List Expr}{b:ME (List V)}{pos:Pos}{Qb:List V→Mine.St→Prop}{Q:Value→Shared→Prop}
  (ok:c.Ok) (hk:keepOk c.K f=true) (hb:SimEs c Γ args b) (hp:(backTo pos (starEach args env)).any (·.1)=false) (hA:Room A d) (R:Rel c X σ μ s.heap) (E:EnvR c X Γ bs env F ρ σ μ s.heap) (h:b d ρ σ Qb)
  (k:∀ vs xs σ₁ μ₁ s₁,Qb xs σ₁→Rel c X σ₁ μ₁ s₁.heap→VRs s₁.heap (Sx X σ₁ μ₁) μ₁ σ₁.length vs xs→Evσ X σ μ s.heap X σ₁ μ₁ s₁.heap→s₁.gens=s.gens→s₁.os=s.os→wpAny c.M A (call f (first++vs)) Q Bot s₁) :
  wpAny c.M A (callWith pos f first (backTo pos (starEach args env)) []) Q Bot s:=by
 have key:wpAny c.M A (spliced (backTo pos (starEach args env))) (fun vs s₁=>(∀ b o,c.h0.get? b=some o→s₁.heap.get? b=some o)∧wpAny c.M A (call f (first++vs)) Q Bot s₁) Bot s :=
  aC (hb A d X bs env F ρ σ μ s _ pos hA R E h) fun vs xs σ₁ μ₁ s₁ q R₁ t₁ e₁ g₁ o₁=>⟨R₁.base,k vs xs σ₁ μ₁ s₁ q R₁ t₁ e₁ g₁ o₁⟩
 cases hargs:backTo pos (starEach args env) with
 | nil =>
  rw[hargs] at key
  exact callWith_of rfl (fun h' X'=>fv ok hk h' X') (gm key)
 | cons z zs =>
  obtain⟨st,x⟩:=z
  rw[hargs] at hp key
  simp only[List.any_cons,Bool.or_eq_false_iff] at hp
  obtain⟨hst,hz⟩:=hp
  subst hst
  exact callWith_of (by simp[hz]) (fun h' X'=>fv ok hk h' X') (evalArgs_plain key)
end
section
end
section
theorem sa(C:Addr)(rest:List Value)(kw:List (Str×Value)):(Code.builtin "type.__call__" ⟨.ref C::rest,kw⟩).weight=1:=by kernel_rfl
theorem uv(C:Addr)(rest:List Value)(kw:List (Str×Value)):(Code.builtin "type.__call__" ⟨.ref C::rest,kw⟩).cUnits≤3:=by
 have:(Code.builtin "type.__call__" ⟨.ref C::rest,kw⟩).cUnits=1:=by kernel_rfl
 lia
theorem nq{c:Ctx}{C fI:Addr}{d:Nat}{args:List V}{σ:Mine.St}{Q:V→Mine.St→Prop}(ok:c.Ok)(hm:makesIn c.K C=true)(hi:findIn c.K (.ref C) "__init__"=some (some (.ref fI)))(hf:typeIn c.K (.ref fI)=some (.type "function"))
  (h:CodeT c (.ref fI) d (.inst C σ.length::args) (σ++[some (.ns [])]) fun v σ'=>v=.none∧Q (.inst C σ.length) σ'):CallT c (.ref C) (d+1) args σ Q:=by
 intro A X μ s vs hA R t
 have XK:=ok.K.keeps R.base
 obtain⟨hh,g,dr,tk,os⟩:=s
 obtain⟨μ',R',e',hmu⟩:=R.alloc (o:=dictO [] 0) (p:=.ns []) fun μ' e' _=>.ns (Heap.get?_push_size _ rfl) .nil
 obtain⟨R₂,e₂⟩:=R'.push (instObj C hh.objs.size)
 have hx:((hh.push (dictO [] 0)).push (instObj C hh.objs.size)).get? (hh.objs.size+1)=some (instObj C hh.objs.size):=by
  have:=Heap.get?_push_size (hh.push (dictO [] 0)) (o:=instObj C hh.objs.size) rfl
  rwa [Heap.size_push] at this
 have hfr:¬ Sx X (σ++[some (.ns [])]) μ' (hh.objs.size+1):=R'.fresh (by
  have:=bc (hh.push (dictO [] 0))
  rwa [Heap.size_push] at this)
 have ti:VRσ X (σ++[some (.ns [])]) μ' ((hh.push (dictO [] 0)).push (instObj C hh.objs.size)) (.ref (hh.objs.size+1)) (.inst C σ.length):=.inst (by rw[hmu];exact hx) hfr (by simp)
 have ts:=(t.mono e').mono e₂
 have hA':Room (A.under (.builtin "type.__call__" ⟨.ref C::vs,[]⟩)) d:=by
  have h1:=hA.depth
  have h2:=hA.units
  refine⟨hA.handled,?_,?_⟩
  ·show A.depth+(Code.builtin "type.__call__" ⟨.ref C::vs,[]⟩).weight+d≤_
   rw[sa];lia
  ·show A.units+(Code.builtin "type.__call__" ⟨.ref C::vs,[]⟩).cUnits+8 * d+300≤_
   have:=uv C vs [];lia
 refine wpAny_call (make_core (makes_of XK hm) (looks_findIn XK hi) (fun self=>bind_fn XK self hf) (.inl rfl) (codeAny_mono (h _ X μ' ⟨(hh.push (dictO [] 0)).push (instObj C hh.objs.size),g,dr,tk,os⟩ _ hA' R₂ (.cons ti ts)) fun r s' hr=>?_))
 rcases r with e | (v | _ | _ | _)<;>first | exact hr.elim | skip
 obtain⟨y,σ',μ'',⟨rfl,q⟩,R₃,tv,e₃,g₃,o₃⟩:=hr
 cases tv
 exact⟨rfl,_,σ',μ'',q,R₃,ti.mono e₃,e'.trans (e₂.trans e₃),g₃,o₃⟩
noncomputable def AObj.bd(n:Nat):AObj→Bool
 | .list l=>V.bds n l
 | .dict kvs=>kvs.all fun p=>p.1.bd n&&p.2.bd n
 | .ns kvs=>kvs.all fun p=>p.2.bd n
end
section
theorem OR.bound{c:Ctx}{h:Heap}{S:Nat→Prop}{μ:Nat→Nat}{n:Nat}{a:Addr}{o:AObj}(x:OR c h S μ n a o):o.bd n=true:=by
 cases x with
 | list e t=>exact t.bound
 | dict e t u y =>
  clear e u y
  induction t with
  | nil=>rfl
  | cons p q _ _ ih=>simp only[AObj.bd,List.all_cons,p.bound,q.bound,Bool.and_self,Bool.true_and];exact ih
 | ns e t =>
  clear e
  induction t with
  | nil=>rfl
  | cons _ q _ ih=>simp only[AObj.bd,List.all_cons,q.bound,Bool.true_and];exact ih
theorem OR.cut{c:Ctx}{h:Heap}{S S':Nat→Prop}{μ:Nat→Nat}{n n':Nat}(hS:∀ a,S' a→S a){a:Addr}{o:AObj}(x:OR c h S μ n a o)(k:o.bd n'=true):OR c h S' μ n' a o:=by
 cases x with
 | list e t=>exact .list e (t.cut hS k)
 | dict e t u y =>
  refine .dict e ?_ u y
  clear e u y
  induction t with
  | nil=>exact .nil
  | cons p q r _ ih =>
   simp only[AObj.bd,List.all_cons,Bool.and_eq_true] at k
   exact .cons (p.cut hS k.1.1) (q.cut hS k.1.2) r (ih (by simpa [AObj.bd] using k.2))
 | ns e t =>
  refine .ns e ?_
  clear e
  induction t with
  | nil=>exact .nil
  | cons p q _ ih =>
   simp only[AObj.bd,List.all_cons,Bool.and_eq_true] at k
   exact .cons p (q.cut hS k.1) (ih (by simpa [AObj.bd] using k.2))
noncomputable def frz(σ':Mine.St)(n:Nat)(v v0:V):Prop:=(v.bd n=true∧v0=v)∨∃ i l,v=.ref i∧n≤i∧σ'[i]?=some (some (.list l))∧V.bds n l=true∧v0=.fl l
noncomputable def cutP(σ:Mine.St)(v:V)(σ':Mine.St)(Q:V→Mine.St→Prop):Prop:=∃ τ junk,σ'=τ++junk∧τ.length=σ.length∧(∀ (i:Nat) (o:AObj),σ[i]?=some (some o)→∃ o',τ[i]?=some (some o'))∧(∀ (i:Nat) (o:AObj),τ[i]?=some (some o)→σ[i]?=some (some o)∨o.bd σ.length=true) ∧
 ∃ v0,frz σ' σ.length v v0∧Q v0 τ
theorem cutP.same{σ junk:Mine.St}{v v0:V}{Q:V→Mine.St→Prop}(h:frz (σ++junk) σ.length v v0)(q:Q v0 σ):cutP σ v (σ++junk) Q:=⟨σ,junk,rfl,rfl,fun _ o e=>⟨o,e⟩,fun _ _ e=>.inl e,v0,h,q⟩
theorem CodeT.cut{c:Ctx}{f:Value}{d:Nat}{args:List V}{σ:Mine.St}{Q:V→Mine.St→Prop}(h:CodeT c f d args σ fun v σ'=>cutP σ v σ' Q):CodeT c f d args σ Q:=by
 intro A X μ s vs hA R t
 refine codeAny_mono (h A X μ s vs hA R t) fun r s' hr=>?_
 rcases r with e | (v | _ | _ | _)<;>first | exact hr.elim | skip
 obtain⟨x,σ',μ',⟨τ,junk,rfl,hlen,hkeep,hbd,v0,hz,q⟩,R',tv,ev,g,o⟩:=hr
 have sub:∀ {i:Nat} {o:AObj},τ[i]?=some (some o)→(τ++junk)[i]?=some (some o):=fun {i o} e=>by rw[List.getElem?_append_left (dH e)];exact e
 have hT:∀ a,Tr τ μ' a→Tr (τ++junk) μ' a:=fun a ⟨i,o,e,z⟩=>⟨i,o,sub e,z⟩
 have hS:∀ a,Sx X τ μ' a→Sx X (τ++junk) μ' a:=fun a z=>z.imp (hT a) id
 have R₂:Rel c X τ μ' s'.heap:=by
  refine⟨R'.base,fun i o e=>R'.out i o (sub e),fun i j o p e f z=>R'.inj i j o p (sub e) (sub f) z,fun i o e=>?_,R'.sh⟩
  have hb:o.bd τ.length=true:=by
   rw[hlen]
   rcases hbd i o e with h | h
   ·exact (R.obj i o h).bound
   ·exact h
  exact (R'.obj i o (sub e)).cut hS hb
 have e₂:Evσ X σ μ s.heap X τ μ' s'.heap:=⟨ev.keep,ev.live,ev.tS,fun a z=>ev.subT a (hT a z),fun a z=>ev.sub a (hS a z),ev.mu,Nat.le_of_eq hlen.symm⟩
 refine⟨v0,τ,μ',q,R₂,?_,e₂,g,o⟩
 rcases hz with⟨h1,rfl⟩ | ⟨i,l,rfl,hi,hl,hbl,rfl⟩
 ·exact tv.cut hS (by rw[hlen];exact h1)
 ·obtain⟨rfl,hlt⟩:=tv.inv
  cases R'.obj i _ hl with | list e t =>
  refine .fl e (fun z=>?_) (t.cut hS (by rw[hlen];exact hbl))
  have hTi:Tr (τ++junk) μ' (μ' i):=⟨i,_,hl,rfl⟩
  rcases z with⟨j,o,ej,hj⟩ | hX
  ·have:=R'.inj j i o _ (sub ej) hl hj
   have:=dH ej
   lia
  ·rcases ev.subT _ hTi with⟨j,o,ej,hj⟩ | hn
   ·obtain⟨o',ej'⟩:=hkeep j o ej
    have hjn:=dH ej
    have:=R'.inj j i o' _ (sub ej') hl (by rw[ev.mu j hjn];exact hj)
    lia
   ·obtain⟨_,o,e⟩:=R.sh _ hX
    rw[hn] at e;cases e
end
section
section
variable{c:Ctx}{Γ:Gm}{bs:Nat}
noncomputable def aJ:MS:=fun _ _ _ _=>False
noncomputable def neverE{α:Type}:ME α:=fun _ _ _ _=>False
theorem bh{st:Stmt}:SimS c Γ bs st aJ:=fun _ _ _ _ _ _ _ _ _ _ _ _ _ h=>h.elim
theorem aI{e:Expr}:SimE c Γ e neverE:=fun _ _ _ _ _ _ _ _ _ _ _ _ _ _ h=>h.elim
noncomputable def SimPt(c:Ctx)(Γ:Gm)(e:Option Expr)(m:ME (Option Int)):Prop:=∀ A d X bs env F ρ σ μ s Q,Room A d→Rel c X σ μ s.heap→EnvR c X Γ bs env F ρ σ μ s.heap→m d ρ σ Q →
 wpAny c.M A (evalPart e env) (Post c (fun _ _ _ _ v x=>IsPart v x) X σ μ s Q) Bot s
noncomputable def fk:ME (Option Int):=fun _ _ σ Q=>Q none σ
noncomputable def ptM(a:ME V):ME (Option Int):=fun d ρ σ Q=>a d ρ σ fun x σ=>onS x.int? fun i=>Q (some i) σ
theorem yB:SimPt c Γ none fk:=fun _ _ _ _ _ _ _ _ _ _ _ _ R _ h=>by rw[evalPart_none];exact wpAny_pure (Post.here R .none h)
theorem sk{e:Expr}{a:ME V}(ha:SimE c Γ e a):SimPt c Γ (some e) (ptM a):=fun A d X bs env F ρ σ μ s Q hA R E h=>by
 rw[evalPart_some]
 refine aC (ha A d X bs env F ρ σ μ s _ hA R E h) fun u x σ₁ μ₁ s₁ q R₁ t₁ e₁ g₁ o₁=>?_
 obtain⟨i,e,q⟩:=br q
 cases dI e
 cases t₁;exact⟨_,_,μ₁,q,R₁,.int _ _,e₁,g₁,o₁⟩
theorem eG{x:Int}(h:0≤x)(n:Nat):max 0 (min x n)=((min x.toNat n:Nat):Int):=by
 obtain⟨k,rfl⟩:=Int.eq_ofNat_of_zero_le h
 rw[Int.toNat_natCast]
 rcases Nat.le_total k n with q | q
 ·rw[Nat.min_eq_left q,Int.min_eq_left (Int.ofNat_le.mpr q)];exact Int.max_eq_right (Int.natCast_nonneg _)
 ·rw[Nat.min_eq_right q,Int.min_eq_right (Int.ofNat_le.mpr q)];exact Int.max_eq_right (Int.natCast_nonneg _)
theorem xX(items:Array Value)(lo hi:Option Int)(h1:∀ a,lo=some a→0≤a)(h2:∀ a,hi=some a→0≤a) :
  slicePick items lo hi none=((hi.elim items.toList fun b=>items.toList.take b.toNat).drop ((lo.map Int.toNat).getD 0)).toArray:=by
 let n:=items.size
 let a:Nat:=(lo.map Int.toNat).getD 0
 let b:Nat:=(hi.map Int.toNat).getD n
 have hb:sliceBounds lo hi none n=(((min a n:Nat):Int),((min b n:Nat):Int),1):=by
  simp only[sliceBounds,Option.getD_none,show (1:Int) > 0 by decide,if_true]
  cases lo with
  | none =>
   cases hi with
   | none=>simp[a,b]
   | some y=>have:=h2 y rfl;simp only[a,b,Option.map_none,Option.map_some,Option.getD_none,Option.getD_some];rw[if_neg (Int.not_lt.mpr this),eG this,Nat.zero_min];rfl
  | some x =>
   have:=h1 x rfl
   cases hi with
   | none=>simp only[a,b,Option.map_none,Option.map_some,Option.getD_none,Option.getD_some];rw[if_neg (Int.not_lt.mpr this),eG this,Nat.min_self]
   | some y=>have:=h2 y rfl;simp only[a,b,Option.map_none,Option.map_some,Option.getD_none,Option.getD_some];rw[if_neg (Int.not_lt.mpr ‹0≤x›),if_neg (Int.not_lt.mpr this),eG this,eG ‹0≤x›]
 unfold slicePick
 rw[hb]
 simp only[sliceRange_one,pick_run]
 congr 1
 have hl:items.toList.length=n:=by simp[n]
 have e:(hi.elim items.toList fun b=>items.toList.take b.toNat)=items.toList.take b:=by
  cases hi with
  | none=>exact (List.take_of_length_le (Nat.le_of_eq hl)).symm
  | some y=>rfl
 rw[e,← List.drop_take,List.take_eq_take_min (i:=b),hl]
 show List.drop (min a n) _=List.drop a _
 rcases Nat.le_total a n with k | k
 ·rw[Nat.min_eq_left k]
 ·rw[Nat.min_eq_right k,List.drop_of_length_le (Nat.le_trans (List.length_take_le' ..) (Nat.le_of_eq hl)),List.drop_of_length_le (Nat.le_trans (List.length_take_le' ..) (Nat.le_trans (Nat.le_of_eq hl) k))]
noncomputable def eY(σ:Mine.St)(x:V)(lo hi:Option Int)(k:V→Prop):Prop:=lsP σ x fun l=>l.length≤1000000∧(∀ a,lo=some a→0≤a)∧(∀ a,hi=some a→0≤a) ∧
 k (.fl ((hi.elim l fun b=>l.take b.toNat).drop ((lo.map Int.toNat).getD 0)))
noncomputable def eK(a:ME V)(lo hi:ME (Option Int)):ME V:=fun d ρ σ Q=>a d ρ σ fun x σ=>lo d ρ σ fun i σ=>hi d ρ σ fun j σ=>eY σ x i j (Q · σ)
theorem rp{e:Expr}{lo hi:Option Expr}{a:ME V}{ml mh:ME (Option Int)}{p pos:Pos}(ha:SimE c Γ e a)(hl:SimPt c Γ lo ml)(hh:SimPt c Γ hi mh):SimE c Γ (.Subscript e (.Slice lo hi none p) pos) (eK a ml mh):=by
 intro A d X bs env F ρ σ μ s Q hA R E h
 rw[eval_Subscript]
 refine wpAny_bind (aC (ha A d X bs env F ρ σ μ s _ hA R E h) fun u x σ₁ μ₁ s₁ q R₁ t₁ e₁ g₁ o₁=>wpAny_bind (wpAny_holding ?_))
 refine wpAny_Slice (aC (hl A d X bs env F ρ σ₁ μ₁ s₁ _ hA R₁ (E.mono e₁) q) fun vl i σ₂ μ₂ s₂ q₂ R₂ t₂ e₂ g₂ o₂=>aC (hh A d X bs env F ρ σ₂ μ₂ s₂ _ hA R₂ ((E.mono e₁).mono e₂) q₂) fun vh j σ₃ μ₃ s₃ q₃ R₃ t₃ e₃ g₃ o₃=>?_)
 rw[evalPart_none]
 refine wpAny_pure (wpAny_bind (wpAny_standAt ?_))
 obtain⟨ad,items,n,l,rfl,g,tl,⟨hlen,h1,h2,q⟩⟩:=dF R₃ ((t₁.mono e₂).mono e₃) q₃
 have ev:=e₁.trans (e₂.trans e₃)
 obtain⟨R₄,e₄⟩:=R₃.push { cls:=.type "slice",data:=.fields #[vl,vh,.none] }
 let s₄:Shared:={ s₃ with heap:=s₃.heap.push { cls:=.type "slice",data:=.fields #[vl,vh,.none] } }
 have g':s₄.heap.get? ad=some (listO items n):=Heap.get?_push_of_some _ g
 have el:=tl.length
 have w:wpAny c.M A (getItem (.ref ad) (.ref s₃.heap.objs.size)) (Post c RV X σ μ s Q) Bot s₄:=by
  refine wpAny_getItem_list_slice (isList g') (Heap.IsSliceOf.new ..) t₂ t₃ .none (by simp) ?_ (bu (by simp only[List.size_toArray];lia))
  rw[xX items.toArray i j h1 h2]
  refine Post.after (s₁:=s₄) (ev.trans e₄) (g₃.trans (g₂.trans g₁)) (o₃.trans (o₂.trans o₁)) ?_
  refine Post.newList (tk:=s₄.toks) R₄ ?_ q
  have tt:=tl.mono e₄
  cases j<;>cases i<;>simp only[Option.elim,Option.map_none,Option.map_some,Option.getD_none,Option.getD_some,List.drop_zero]<;>first | exact tt | exact tt.drop _ | exact (tt.take _).drop _ | exact tt.take _
 have hT:s₄.TypeIs (.ref ad) "list":=⟨_,g',rfl⟩
 refine wpAny_bind ?_
 rw[getitemInPython_of_ne hT.not_modules]
 refine wpAny_bind (wpAny_specialOf hT slot_list_getitem.lookup ?_)
 have fin:wpAny c.M A (subscripted (.Slice lo hi none p) false (.ref ad) (.ref s₃.heap.objs.size)) (fun r s₅=>wpAny c.M A (letTemporaryGo e (.ref ad) r >>= fun _=>pure r) (Post c RV X σ μ s Q) Bot s₅) Bot s₄:=by
  show wpAny c.M A (operate [.ref s₃.heap.objs.size,.ref ad] (getItem (.ref ad) (.ref s₃.heap.objs.size))) _ _ _
  exact wpAny_operating (wpAny_mono w (fun r s₃ h₃=>wpAny_bind (wpAny_letTemporaryGo (wpAny_pure h₃))) fun _ _ x=>x)
 first
  | exact wpAny_pure (wpAny_bind fin)
  | exact wpAny_bind (wpAny_pure (wpAny_bind fin))
  | exact wpAny_bind fin
noncomputable def SimAs(c:Ctx)(Γ:Gm)(bs:Nat)(ts:List Expr)(m:Nat→Env'→List V→Mine.St→(Env'→Mine.St→Prop)→Prop):Prop:=∀ A d X env F ρ σ μ s vs xs Q,Room A d→Rel c X σ μ s.heap→EnvR c X Γ bs env F ρ σ μ s.heap→VRs s.heap (Sx X σ μ) μ σ.length vs xs→m d ρ xs σ Q →
 wpAny c.M A (assignInOrder ((assignEach ts env).map (·.2)) vs) (PostA c Γ bs env F X σ μ s Q) Bot s
noncomputable def bJ:Nat→Env'→List V→Mine.St→(Env'→Mine.St→Prop)→Prop:=fun _ ρ xs σ Q=>match xs with
 | []=>Q ρ σ
 | _=>False
noncomputable def aU(a:MA)(b:Nat→Env'→List V→Mine.St→(Env'→Mine.St→Prop)→Prop):Nat→Env'→List V→Mine.St→(Env'→Mine.St→Prop)→Prop:=fun d ρ xs σ Q=>match xs with
 | x::xs=>a d ρ x σ fun ρ σ=>b d ρ xs σ Q
 | _=>False
theorem y3:SimAs c Γ bs [] bJ:=by
 intro A d X env F ρ σ μ s vs xs Q hA R E t h
 cases xs with
 | nil=>exact wpAny_pure ⟨_,_,_,h,R,Evf.refl E.fx,E,rfl,rfl⟩
 | cons=>exact h.elim
theorem yu{t:Expr}{ts:List Expr}{a:MA}{b:Nat→Env'→List V→Mine.St→(Env'→Mine.St→Prop)→Prop}(ha:SimA c Γ bs t a)(hb:SimAs c Γ bs ts b)(he:∀ env,(assignEach (t::ts) env).map (·.2)=assign t env::(assignEach ts env).map (·.2)) :
  SimAs c Γ bs (t::ts) (aU a b):=by
 intro A d X env F ρ σ μ s vs xs Q hA R E t h
 cases t with
 | nil=>exact h.elim
 | @cons v _ vs _ tv tvs =>
  rw[he]
  refine wpAny_bind (wpAny_holding (cb (ha A d X env F ρ σ μ s v _ _ hA R E tv h) fun _ ρ₁ σ₁ μ₁ s₁ q₁ R₁ e₁ E₁ g₁ o₁=>?_))
  exact fH e₁ g₁ o₁ (hb A d X env F ρ₁ σ₁ μ₁ s₁ vs _ _ hA R₁ E₁ (tvs.mono e₁) q₁)
noncomputable def bQ(n:Nat)(b:Nat→Env'→List V→Mine.St→(Env'→Mine.St→Prop)→Prop):MA:=fun d ρ x σ Q=>match x with
 | .tup xs=>xs.length=n∧b d ρ xs σ Q
 | _=>False
theorem tu{ts:List Expr}{n:Nat}{k:Nat}{pos:Pos}{b:Nat→Env'→List V→Mine.St→(Env'→Mine.St→Prop)→Prop}(hb:SimAs c Γ bs ts b)(hn:∀ env,(assignEach ts env).length=n)(hst:∀ env,(assignEach ts env).findIdx? (·.1)=none) :
  SimA c Γ bs (.Tuple ts k pos) (bQ n b):=by
 intro A d X env F ρ σ μ s v x Q hA R E t h
 cases x with
 | tup =>
  obtain⟨hl,h⟩:=h
  obtain⟨ad,items,rfl,e,f,tl⟩:=t.inv
  rw[arm_assign_Tuple]
  have el:=tl.length
  refine wpAny_bind (wpAny_standAt (wpAny_unpack_tuple hA.handled ⟨_,e,rfl,0,rfl⟩ (by rw[hn];simp;lia) (hst env) fun h' hx=>?_))
  obtain⟨R',e'⟩:=R.keeps (h':=h') fun b o eb=>hx b o (fun z=>by rw[z,bc] at eb;cases eb) eb
  have w:=hb A d X env F ρ σ μ { s with heap:=h' } items _ Q hA R' (E.mono e') (tl.mono e') h
  exact fH (e'.toF E.fx) rfl rfl w
 | _=>exact h.elim
noncomputable def setAll:List Nat→List V→Env'→Env'
 | i::is,x::xs,ρ=>setAll is xs (ρ.set i (some x))
 | _,_,ρ=>ρ
noncomputable def kr(is:List Nat)(ρ:Env')(Q:Fl→Env'→Mine.St→Prop)(x:V)(σ':Mine.St):Prop:=match x with
 | .tup xs=>onB (xs.length==is.length) (Q .next (setAll is xs ρ) σ')
 | _=>False
noncomputable def aQ(is:List Nat)(a:ME (List V)):MS:=fun d ρ σ Q=>aB a d ρ σ (kr is ρ Q)
theorem xA{is:List Nat}{ρ:Env'}{Q:Fl→Env'→Mine.St→Prop}{x:V}{σ':Mine.St}(h:kr is ρ Q x σ'):∃ xs,x=.tup xs∧xs.length=is.length∧Q .next (setAll is xs ρ) σ':=by
 cases x with
 | tup=>exact⟨_,rfl,by simpa using (ez h).1,(ez h).2⟩
 | _=>exact h.elim
end
end
section
theorem n8:∀ (is:List Nat) (xs:List V) (ρ:Env') (i:Nat) (x:Option V),i∉is→(setAll is xs ρ).set i x=setAll is xs (ρ.set i x)
 | [],_,_,_,_,_=>rfl
 | _::_,[],_,_,_,_=>rfl
 | j::is,y::xs,ρ,i,x,h=>by
  simp only[List.mem_cons,not_or] at h
  show (setAll is xs (ρ.set j (some y))).set i x=setAll is xs ((ρ.set i x).set j (some y))
  rw[n8 is xs _ i x h.2,List.set_comm _ _ (Ne.symm h.1)]
theorem kN:∀ (is js:List Nat) (xs ys:List V) (ρ:Env'),is.length=xs.length→setAll (is++js) (xs++ys) ρ=setAll js ys (setAll is xs ρ)
 | [],js,[],ys,ρ,_=>by cases js<;>cases ys<;>rfl
 | [],_,_::_,_,_,h=>by simp at h
 | _::_,_,[],_,_,h=>by simp at h
 | i::is,js,x::xs,ys,ρ,h=>by
  show setAll (is++js) (xs++ys) (ρ.set i (some x))=_
  rw[kN is js xs ys _ (by simpa using h)];rfl
theorem kK:∀ (is:List Nat) (xs:List V) (ρ:Env'),is.length=xs.length→is.Nodup→setAll is.reverse xs.reverse ρ=setAll is xs ρ
 | [],[],_,_,_=>rfl
 | [],_::_,_,h,_=>by simp at h
 | _::_,[],_,h,_=>by simp at h
 | i::is,x::xs,ρ,h,hn=>by
  rw[List.nodup_cons] at hn
  rw[List.reverse_cons,List.reverse_cons,kN _ _ _ _ _ (by simpa using h),kK is xs ρ (by simpa using h) hn.2]
  show (setAll is xs ρ).set i (some x)=setAll is xs (ρ.set i (some x))
  exact n8 is xs ρ i _ hn.1
theorem pO{α:Type}{c:Ctx}{Γ:Gm}{bs:Nat}{A:Around}{X F:Nat→Prop}{env:Env}{Q:Env'→Mine.St→Prop}(nm:α→Str)(act:α→Value→Sem Unit)
  (hact:∀ a v {P:Unit→Shared→Prop} {s:Shared},wpAny c.M A (storeName env (nm a) v) P Bot s→wpAny c.M A (act a v) P Bot s):∀ (nms:List α) (is:List Nat) (xs:List V) (vs:List Value) (ρ:Env') (σ:Mine.St) (μ:Nat→Nat) (s:Shared),Rel c X σ μ s.heap→EnvR c X Γ bs env F ρ σ μ s.heap→VRs s.heap (Sx X σ μ) μ σ.length vs xs →
  nms.length=is.length→is.length=xs.length→(∀ (j:Nat) (n:α) (i:Nat),nms[j]?=some n→is[j]?=some i→Γ.lookup (nm n)=some (some i)∧bs≤i)→Q (setAll is xs ρ) σ→wpAny c.M A (assignInOrder (nms.map act) vs) (PostA c Γ bs env F X σ μ s Q) Bot s:=by
 intro nms
 induction nms with
 | nil =>
  intro is xs vs ρ σ μ s R E t h1 h2 _ q
  cases List.length_eq_zero_iff.mp h1.symm
  cases List.length_eq_zero_iff.mp h2.symm
  cases t
  exact wpAny_pure ⟨_,_,_,q,R,Evf.refl E.fx,E,rfl,rfl⟩
 | cons n nms ih =>
  intro is xs vs ρ σ μ s R E t h1 h2 h3 q
  cases is with
  | nil=>cases h1
  | cons i is =>
   cases t with
   | nil=>cases h2
   | @cons v x vs xs tv tvs =>
    obtain⟨hx,hi⟩:=h3 0 n i rfl rfl
    refine wpAny_bind (wpAny_holding (hact _ _ (cb (fh (Q:=fun ρ' σ'=>ρ'=ρ.set i (some x)∧σ'=σ) R E hx hi tv ⟨rfl,rfl⟩) fun _ ρ₁ σ₁ μ₁ s₁ q₁ R₁ e₁ E₁ g₁ o₁=>?_)))
    obtain⟨rfl,rfl⟩:=q₁
    exact fH e₁ g₁ o₁ (ih is xs vs _ _ μ₁ s₁ R₁ E₁ (tvs.mono e₁) (Nat.succ.inj h1) (Nat.succ.inj h2) (fun j n i hn hi=>h3 (j+1) n i hn hi) q)
theorem jZ(env:Env):∀ (nm:List (Str×Pos)),assignEach (nm.map fun p=>Expr.Name p.1 p.2) env=nm.map fun p=>(false,assign (.Name p.1 p.2) env)
 | []=>rfl
 | p::nm=>by
  show (false,assign (.Name p.1 p.2) env)::assignEach (nm.map fun p=>Expr.Name p.1 p.2) env=_
  rw[jZ env nm];rfl
theorem kY{α:Type}(f:Expr→Option α)(g:Str×Pos→α):∀ (l:List (Str×Pos)),(∀ p∈l,f (.Name p.1 p.2)=some (g p)∨f (.Name p.1 p.2)=none)→((l.map fun p=>Expr.Name p.1 p.2).filterMap f).length=l.length→(l.map fun p=>Expr.Name p.1 p.2).filterMap f=l.map g
 | [],_,_=>rfl
 | p::l,h,hl=>by
  rw[List.map_cons] at hl ⊢
  rcases h p List.mem_cons_self with e | e
  ·rw[List.filterMap_cons_some e] at hl ⊢
   rw[List.map_cons,kY f g l (fun q hq=>h q (List.mem_cons_of_mem _ hq)) (by simpa using hl)]
  ·rw[List.filterMap_cons_none e] at hl
   have:=List.length_filterMap_le f (l.map fun p=>Expr.Name p.1 p.2)
   simp at this hl
   lia
theorem tZ{nm:List (Str×Pos)}{k k':Nat}{tp vp:Pos}{es:List Expr}{env:Env}(hc:es.all (constantsAlone 8)=false) :
  swappedStores [.Tuple (nm.map fun p=>Expr.Name p.1 p.2) k tp] (.Tuple es k' vp) env=pure none∨swappedStores [.Tuple (nm.map fun p=>Expr.Name p.1 p.2) k tp] (.Tuple es k' vp) env=pure (some (nm.map (·.1))):=by
 unfold swappedStores
 dsimp only
 split
 ·exact .inl rfl
 ·split
  ·exact .inl rfl
  ·split
   ·exact .inl rfl
   ·rename_i hnn
    rw[hc]
    split
    ·exact .inl rfl
    ·right
     simp only[Bool.false_eq_true,if_false]
     rw[kY _ (·.1) nm (fun p _=>by
      dsimp only
      split
      ·exact .inl rfl
      ·exact .inr rfl) (by
      simp only[Bool.or_eq_true,bne_iff_ne,ne_eq,not_or,Decidable.not_not] at hnn
      have:=hnn.1
      rw[List.length_map] at this
      exact this)]
theorem wO(v:Value)(t:Value→Sem Unit):assignAll v [t]=t v:=rfl
theorem yo{c:Ctx}{Γ:Gm}{bs k k':Nat}{nm:List (Str×Pos)}{is:List Nat}{ts es:List Expr}{a:ME (List V)}{tp vp pos:Pos}(ht:ts=nm.map fun p=>Expr.Name p.1 p.2)(ha:SimEs c Γ es a)(hn:nm.length=is.length)(hnd:is.Nodup)
  (hx:∀ (j:Nat) (n:Str×Pos) (i:Nat),nm[j]?=some n→is[j]?=some i→Γ.lookup n.1=some (some i)∧bs≤i) (hc:es.all (constantsAlone 8)=false):SimS c Γ bs (.Assign [.Tuple ts k tp] (.Tuple es k' vp) pos) (aQ is a):=by
 intro A d X env F ρ σ μ s Q hA R E h
 subst ht
 have hx':∀ (j:Nat) (n:Str) (i:Nat),(nm.map (·.1))[j]?=some n→is[j]?=some i→Γ.lookup n=some (some i)∧bs≤i:=fun j n i hn hi=>by
  rw[List.getElem?_map] at hn
  obtain⟨p,hp,rfl⟩:=Option.map_eq_some_iff.mp hn
  exact hx j p i hp hi
 rw[exec_Assign_arm]
 refine wpAny_bind (wpAny_standAt ?_)
 have hsw:swapsWithSole [.Tuple (nm.map fun p=>Expr.Name p.1 p.2) k tp] (.Tuple es k' vp) pos.line env=pure false:=rfl
 rw[hsw]
 refine wpAny_bind (wpAny_pure ?_)
 rw[if_neg (by decide)]
 refine wpAny_bind (aC (oQ (a:=a) ha A d X bs env F ρ σ μ s _ hA R E h) fun u x σ₁ μ₁ s₁ q R₁ t₁ e₁ g₁ o₁=>?_)
 obtain⟨xs,rfl,hlen,q⟩:=xA q
 obtain⟨ad,items,rfl,ga,fa,tl⟩:=t₁.inv
 have el:=tl.length
 have hT:s₁.heap.IsTuple ad items.toArray:=⟨_,ga,rfl,0,rfl⟩
 have E₁:=E.mono e₁
 have after:∀ h',Heap.ExtBut s₁.heap.objs.size s₁.heap h'→Rel c X σ₁ μ₁ h'∧Evσ X σ₁ μ₁ s₁.heap X σ₁ μ₁ h':=fun h' hx=>R₁.keeps fun b o eb=>hx b o (fun z=>by rw[z,bc] at eb;cases eb) eb
 rcases tZ (nm:=nm) (k:=k) (k':=k') (tp:=tp) (vp:=vp) (es:=es) (env:=env) hc with hw | hw
 ·rw[hw]
  refine wpAny_bind (wpAny_pure ?_)
  unfold assignStores
  dsimp only
  rw[show (assignEach [.Tuple (nm.map fun p=>Expr.Name p.1 p.2) k tp] env).map (·.2)=[assign (.Tuple (nm.map fun p=>Expr.Name p.1 p.2) k tp) env] from rfl,wO,arm_assign_Tuple,jZ]
  refine wpAny_bind ?_
  refine wpAny_bind (wpAny_standAt (wpAny_unpack_tuple hA.handled hT (by simp;lia) (by rw[List.findIdx?_eq_none_iff];intro x hx;obtain⟨p,_,rfl⟩:=List.mem_map.mp hx;rfl) fun h' hx'=>?_))
  obtain⟨R₂,e₂⟩:=after h' hx'
  rw[List.map_map]
  refine cb (pO (Q:=fun ρ σ=>Q .next ρ σ) (fun p:Str×Pos=>p.1) (fun p=>assign (.Name p.1 p.2) env) (fun _ _ _ _ h=>wpAny_assign_Name h) nm is xs items ρ σ₁ μ₁ { s₁ with heap:=h' } R₂ (E₁.mono e₂) (tl.mono e₂) hn hlen.symm hx q) fun _ ρ₃ σ₃ μ₃ s₃ q₃ R₃ e₃ E₃ g₃ o₃=>?_
  exact wpAny_pure ⟨_,_,_,_,q₃,R₃,.next,(Evσ.toF (e₁.trans e₂) E.fx).trans e₃,E₃,g₃.trans g₁,o₃.trans o₁⟩
 ·rw[hw]
  refine wpAny_bind (wpAny_pure ?_)
  unfold assignStores
  dsimp only
  refine wpAny_bind (wpAny_rule ?_)
  have hlen':(nm.map (·.1)).length=items.toArray.size:=by simp;lia
  rw[hlen']
  refine wpAny_bind (wpAny_unpackItems_tuple hA.handled hT fun h' hx''=>?_)
  obtain⟨R₂,e₂⟩:=after h' hx''
  have tr:VRs h' (Sx X σ₁ μ₁) μ₁ σ₁.length items.reverse xs.reverse:=(tl.mono e₂).reverse
  have hrev:∀ (j:Nat) (n:Str) (i:Nat),(nm.map (·.1)).reverse[j]?=some n→is.reverse[j]?=some i→Γ.lookup n=some (some i)∧bs≤i:=fun j n i hn' hi'=>by
   have hj:j < is.length:=by have:=(List.getElem?_eq_some_iff.mp hi').1;simpa using this
   rw[List.getElem?_reverse (by simpa [hn] using hj)] at hn'
   rw[List.getElem?_reverse hj] at hi'
   have e:(nm.map (·.1)).length=is.length:=by simpa using hn
   rw[e] at hn'
   exact hx' _ n i hn' hi'
  refine wpAny_bind ?_
  rw[List.toList_toArray]
  refine cb (pO (Q:=fun ρ σ=>Q .next ρ σ) id (fun n=>bindName env n) (fun _ _ _ _ h=>wpAny_bindName h) (nm.map (·.1)).reverse is.reverse xs.reverse items.reverse ρ σ₁ μ₁ { s₁ with heap:=h' } R₂ (E₁.mono e₂) tr (by simpa using hn) (by simpa using hlen.symm) hrev (by rw[kK is xs ρ hlen.symm hnd];exact q)) fun _ ρ₃ σ₃ μ₃ s₃ q₃ R₃ e₃ E₃ g₃ o₃=>?_
  exact wpAny_pure ⟨_,_,_,_,q₃,R₃,.next,(Evσ.toF (e₁.trans e₂) E.fx).trans e₃,E₃,g₃.trans g₁,o₃.trans o₁⟩
end
section
inductive VP (h:Heap) (S:Nat→Prop) (μ:Nat→Nat) (n:Nat):List (Value×Value)→List (V×V)→Prop
 | nil:VP h S μ n [] []
 | cons {k v:Value} {x y:V} {vs:List (Value×Value)} {kvs:List (V×V)} (a:VR h S μ n k x) (b:VR h S μ n v y) (r:VP h S μ n vs kvs):VP h S μ n ((k,v)::vs) ((x,y)::kvs)
noncomputable def dsets:List (V×V)→List (V×V)→List (V×V)
 | acc,[]=>acc
 | acc,p::kvs=>dsets (dset acc p.1 p.2) kvs
theorem je:∀ (kvs acc:List (V×V)),(∀ p∈acc,p.1.key=true∧p.1.dep≤7)→(∀ p∈kvs,p.1.key=true∧p.1.dep≤7)→∀ p∈dsets acc kvs,p.1.key=true∧p.1.dep≤7
 | [],_,h,_=>h
 | (k,v)::kvs,acc,h,g=>je kvs _ (hM h (g _ List.mem_cons_self).1 (g _ List.mem_cons_self).2) fun p hp=>g p (List.mem_cons_of_mem _ hp)
section
variable{h:Heap}{S:Nat→Prop}{μ:Nat→Nat}{n:Nat}
theorem VP.carries{prog:Program}{w:World}{K:Type}[DecidableEq K]{knd:KeyKind prog w K}{emb:K→V}(E:Emb knd emb){vs:List (Value×Value)}{kvs:List (V×V)}(x:VP h S μ n vs kvs)(hk:∀ p∈kvs,∃ k,p.1=emb k) :
  ∃ ps,Carries knd vs ps∧PR h S μ n emb ps kvs:=by
 induction x with
 | nil=>exact⟨[],trivial,.nil⟩
 | @cons k v x y vs kvs a b r ih =>
  obtain⟨ps,p1,p2⟩:=ih fun p hp=>hk p (List.mem_cons_of_mem _ hp)
  obtain⟨k',e⟩:=hk (x,y) List.mem_cons_self
  dsimp only at e
  subst e
  exact⟨(k',v)::ps,⟨E.of a,rfl,p1⟩,.cons b p2⟩
theorem PR.merged{prog:Program}{w:World}{K:Type}[DecidableEq K]{knd:KeyKind prog w K}{emb:K→V}(E:Emb knd emb){ps:List (K×Value)}{kvs:List (V×V)}(x:PR h S μ n emb ps kvs) :
  ∀ {acc:List (K×Value)} {acc':List (V×V)},PR h S μ n emb acc acc'→PR h S μ n emb (PySem.merged acc ps) (dsets acc' kvs):=by
 induction x with
 | nil=>exact fun y=>by simpa [PySem.merged,dsets] using y
 | @cons k v x ps kvs a r ih =>
  intro acc acc' y
  have:=ih (y.store E k a)
  simpa [PySem.merged,dsets] using this
end
noncomputable def RP:Rl (List (V×V)) (List (Value×Value)):=fun X σ μ h vs kvs=>VP h (Sx X σ μ) μ σ.length vs kvs
noncomputable def du(ps:List (Expr×Expr))(env:Env)(pos:Pos):List (Sem Value×Sem Value):=ps.map fun p=>(eval p.1 env,do let x ← eval p.2 env;standAt pos;pure x)
noncomputable def SimPs(c:Ctx)(Γ:Gm)(ps:List (Expr×Expr))(m:ME (List (V×V))):Prop:=∀ A d X bs env F ρ σ μ s Q pos,Room A d→Rel c X σ μ s.heap→EnvR c X Γ bs env F ρ σ μ s.heap→m d ρ σ Q→wpAny c.M A (evalPairs (du ps env pos)) (Post c RP X σ μ s Q) Bot s
noncomputable def b9:ME (List (V×V)):=fun _ _ σ Q=>Q [] σ
noncomputable def bH(a b:ME V)(r:ME (List (V×V))):ME (List (V×V)):=fun d ρ σ Q=>a d ρ σ fun x σ=>b d ρ σ fun y σ=>r d ρ σ fun kvs σ=>Q ((x,y)::kvs) σ
section
variable{c:Ctx}{Γ:Gm}
theorem qj:SimPs c Γ [] b9:=fun _ _ _ _ _ _ _ _ _ _ _ _ _ R _ h=>evalPairs_nil (Post.here R .nil h)
theorem rc{k v:Expr}{ps:List (Expr×Expr)}{a b:ME V}{r:ME (List (V×V))}(ha:SimE c Γ k a)(hb:SimE c Γ v b)(hr:SimPs c Γ ps r):SimPs c Γ ((k,v)::ps) (bH a b r):=by
 intro A d X bs env F ρ σ μ s Q pos hA R E h
 refine evalPairs_cons (aC (ha A d X bs env F ρ σ μ s _ hA R E h) fun kv x σ₁ μ₁ s₁ q R₁ t e₁ g o=>?_)
 refine wpAny_bind (aC (hb A d X bs env F ρ σ₁ μ₁ s₁ _ hA R₁ (E.mono e₁) q) fun vv y σ₂ μ₂ s₂ q₂ R₂ t₂ e₂ g₂ o₂=>?_)
 refine wpAny_bind (wpAny_standAt (wpAny_pure ?_))
 refine aC (hr A d X bs env F ρ σ₂ μ₂ s₂ _ pos hA R₂ ((E.mono e₁).mono e₂) q₂) fun vs kvs σ₃ μ₃ s₃ q₃ R₃ t₃ e₃ g₃ o₃=>?_
 exact⟨_,σ₃,μ₃,q₃,R₃,.cons ((t.mono e₂).mono e₃) (t₂.mono e₃) t₃,(e₁.trans e₂).trans e₃,by rw[g₃,g₂,g],by rw[o₃,o₂,o]⟩
noncomputable def dZ(st:Bool)(kvs:List (V×V)):Prop:=(∀ p∈kvs,p.1.key=true∧p.1.dep≤7)∧(kvs.all fun p=>V.like p.1 (bif st then .str "" else .int 0))=true
noncomputable def bO(st:Bool)(m:ME (List (V×V))):ME V:=fun d ρ σ Q=>m d ρ (σ++[some (.dict [])]) fun kvs σ'=>σ'[σ.length]?=some (some (.dict []))∧dZ st kvs∧Q (.ref σ.length) (σ'.set σ.length (some (.dict (dsets [] kvs))))
theorem rA{st:Bool}{ks vs:List Expr}{ps:List (Expr×Expr)}{pos:Pos}{m:ME (List (V×V))}(h1:ks=ps.map (·.1))(h2:vs=ps.map (·.2))(h0:ps≠[])(hl:ps.length≤15)(hm:SimPs c Γ ps m):SimE c Γ (.Dict (ks.map some) vs pos) (bO st m):=by
 subst h1 h2
 intro A d X bs env F ρ σ μ s Q hA R E h
 have shape:(evalEachOpt ((ps.map (·.1)).map some) env).zip ((evalEach (ps.map (·.2)) env).map fun v=>do let x ← v;standAt pos;pure x)=(du ps env pos).map fun p=>(some p.1,p.2):=by
  clear hm h0 hl h
  induction ps with
  | nil=>rfl
  | cons p ps ih =>
   show (evalOpt (some p.1) env,_)::_=(some _,_)::_
   exact congrArg (_::·) ih
 have hlen:(du ps env pos).length=ps.length:=by simp[du]
 obtain⟨μ',R',e',hμ⟩:=R.alloc (o:=dictO [] 0) (p:=.dict []) fun μ' e' _=>OR.dict (Heap.get?_push_size _ rfl) .nil (by simp) (by simp)
 unfold bO at h
 have body:=hm A d X bs env F ρ (σ++[some (.dict [])]) μ' { s with heap:=s.heap.push (dictO [] 0) } _ pos hA R' (E.mono e') h
 have fin {K:Type} [DecidableEq K] {knd:KeyKind c.prog c.w K} {emb:K→V} (EE:Emb knd emb) {vs:List (Value×Value)} {kvs:List (V×V)} {σ₁:Mine.St} {μ₁:Nat→Nat} {s₁:Shared} (R₁:Rel c X σ₁ μ₁ s₁.heap) (t:RP X σ₁ μ₁ s₁.heap vs kvs) (hi:σ₁[σ.length]?=some (some (.dict [])))
   (hmu:μ₁ σ.length=s.heap.objs.size) (hk:∀ p∈kvs,∃ k,p.1=emb k) (ok:∀ p∈kvs,p.1.key=true∧p.1.dep≤7)
   (q:Q (.ref σ.length) (σ₁.set σ.length (some (.dict (dsets [] kvs))))) (ev:Evσ X σ μ s.heap X σ₁ μ₁ s₁.heap) (g:s₁.gens=s.gens) (o:s₁.os=s.os) :
   ∃ ps,Carries knd vs ps∧s₁.heap.DictOf knd s.heap.objs.size [] ∧
   ∀ h',h'.DictOf knd s.heap.objs.size (PySem.merged [] ps)→Heap.SameBut s.heap.objs.size s₁.heap h'→Post c RV X σ μ s Q (.ref s.heap.objs.size) { s₁ with heap:=h',toks:=s₁.toks+vs.length }:=by
  obtain⟨ps,p1,p2⟩:=t.carries EE hk
  cases R₁.obj _ _ hi with | dict e1 x u ok1 =>
  obtain⟨ps0,hd,p0⟩:=eZ EE e1 x u (by simp)
  cases p0
  rw[hmu] at hd
  refine⟨ps,p1,hd,fun h' hd' hs=>?_⟩
  rw[← hmu] at hd' hs
  obtain⟨o',_,_,g',_⟩:=id hd'
  have r:=R₁.upd (p:=.dict (dsets [] kvs)) hi hs ⟨o',g'⟩ fun ev=>lw EE hd' ((p2.mono ev).merged EE .nil) (je kvs [] (by simp) ok)
  refine⟨_,_,μ₁,q,r.1,?_,ev.trans r.2,g,o⟩
  have:=VR.ref (h:=h') (S:=Sx X (σ₁.set σ.length (some (.dict (dsets [] kvs)))) μ₁) (μ:=μ₁) (n:=(σ₁.set σ.length (some (.dict (dsets [] kvs)))).length) (i:=σ.length) (by simpa using dH hi)
  rw[hmu] at this
  exact this
 have mu_at {σ₁:Mine.St} {μ₁:Nat→Nat} {h₁:Heap} {h₀:Heap} (e₁:Evσ X (σ++[some (.dict [])]) μ' h₀ X σ₁ μ₁ h₁):μ₁ σ.length=s.heap.objs.size:=by rw[e₁.mu _ (by simp),hμ]
 cases st with
 | true =>
  refine wpAny_Dict_pairs (knd:=strKind c.prog c.w) shape (by simp[du,h0]) (by lia) ?_
  exact aC body fun vs kvs σ₁ μ₁ s₁ q R₁ t e₁ g o=>fin (embStr c.prog c.w) R₁ t q.1 (mu_at e₁) (iO (i:="") q.2.1.2) q.2.1.1 q.2.2 (e'.trans e₁) g o
 | false =>
  refine wpAny_Dict_pairs (knd:=intKind c.prog c.w) shape (by simp[du,h0]) (by lia) ?_
  exact aC body fun vs kvs σ₁ μ₁ s₁ q R₁ t e₁ g o=>fin (embInt c.prog c.w) R₁ t q.1 (mu_at e₁) (gb (i:=0) q.2.1.2) q.2.1.1 q.2.2 (e'.trans e₁) g o
end
end
section
noncomputable abbrev RS:Rl Str Str:=fun _ _ _ _ b x=>b=x
noncomputable abbrev JM:=Str→ME Str
noncomputable def SimJ(c:Ctx)(Γ:Gm)(es:List Expr)(m:JM):Prop:=∀ A d X bs env F ρ σ μ s Q acc (P:Str→Shared→Prop),Room A d→Rel c X σ μ s.heap→EnvR c X Γ bs env F ρ σ μ s.heap→m acc d ρ σ Q →
 (∀ out s',Post c RS X σ μ s Q out s'→P out s')→Joins c.M A Bot (evalEach es env) acc P s
noncomputable def fA:JM:=fun acc _ _ σ Q=>Q acc σ
noncomputable def ii(x:V)(k:Str→Prop):Prop:=match x with
 | .str y=>k y
 | _=>False
noncomputable def dM(a:ME V)(b:JM):JM:=fun acc d ρ σ Q=>a d ρ σ fun x σ=>ii x fun y=>(acc++y).length≤1000000∧b (acc++y) d ρ σ Q
noncomputable def iE(x:V)(k:Str→Prop):Prop:=match x with
 | .int i=>i.natAbs.log2 < 1920∧k (toString i)
 | .str y=>y.length≤1000000∧k y
 | _=>False
noncomputable def eM(a:ME V):ME V:=fun d ρ σ Q=>a d ρ σ fun x σ=>iE x fun y=>Q (.str y) σ
noncomputable def fJ(j:JM):ME V:=fun d ρ σ Q=>j Str.empty d ρ σ fun out σ=>out.length≤1000000∧Q (.str out) σ
section
variable{c:Ctx}{Γ:Gm}
theorem xK:SimJ c Γ [] fA:=fun _ _ _ _ _ _ _ _ _ _ _ _ _ _ R _ h k=>k _ _ (Post.here R rfl h)
theorem uB{e:Expr}{es:List Expr}{a:ME V}{b:JM}(ha:SimE c Γ e a)(hb:SimJ c Γ es b):SimJ c Γ (e::es) (dM a b):=by
 intro A d X bs env F ρ σ μ s Q acc P hA R E h k
 refine aC (ha A d X bs env F ρ σ μ s _ hA R E h) fun v x σ₁ μ₁ s₁ q R₁ t e₁ g o=>?_
 cases x with
 | str y =>
  obtain⟨tk,rfl⟩:=t.inv
  exact⟨y,tk,rfl,bu q.1,hb A d X bs env F ρ σ₁ μ₁ s₁ Q _ P hA R₁ (E.mono e₁) q.2 fun out s' p=>k _ _ (p.after e₁ g o)⟩
 | _=>exact q.elim
theorem uO{e:Expr}{a:ME V}{pos:Pos}(ha:SimE c Γ e a):SimE c Γ (.FormattedValue e (-1) none pos) (eM a):=by
 intro A d X bs env F ρ σ μ s Q hA R E h
 refine wpAny_FormattedValue_plain (aC (ha A d X bs env F ρ σ μ s _ hA R E h) fun v x σ₁ μ₁ s₁ q R₁ t e₁ g o=>?_)
 cases x with
 | int =>
  obtain⟨tk,rfl⟩:=t.inv
  exact wpAny_formatField_int q.1 ((Post.tok R₁ (.str _ _) q.2:Post c RV X σ₁ μ₁ s₁ Q _ _).after e₁ g o)
 | str =>
  obtain⟨tk,rfl⟩:=t.inv
  exact wpAny_formatField_str ((Post.here R₁ (.str _ _) q.2:Post c RV X σ₁ μ₁ s₁ Q _ _).after e₁ g o) ((Post.tok R₁ (.str _ _) q.2:Post c RV X σ₁ μ₁ s₁ Q _ _).after e₁ g o) (bu q.1)
 | _=>exact q.elim
theorem qG{v₁ v₂:Expr}{es:List Expr}{j:JM}{pos:Pos}(hj:SimJ c Γ (v₁::v₂::es) j):SimE c Γ (.JoinedStr (v₁::v₂::es) pos) (fJ j):=by
 intro A d X bs env F ρ σ μ s Q hA R E h
 refine wpAny_JoinedStr (hj A d X bs env F ρ σ μ s _ _ _ hA R E h fun out s' p=>?_)
 obtain⟨x,σ',μ',q,R',rfl,e,g,o⟩:=p
 exact⟨bu q.1,_,σ',μ',q.2,R',.str _ _,e,g,o⟩
end
end
section
theorem wb{env:Env}{cl:List (Str×Addr)}{n:Str}{v:Value}(h:env.kindOf n=some .local∨(env.cells.lookup n).isSome=true):storeName { env with cells:=env.cells++cl } n v=storeName env n v:=by
 have hk:({ env with cells:=env.cells++cl }:Env).kindOf n=env.kindOf n:=rfl
 unfold storeName
 rcases h with h | h
 ·rw[hk,h];rfl
 ·obtain⟨a,ha⟩:=Option.isSome_iff_exists.mp h
  have hc:cellOf { env with cells:=env.cells++cl } n=cellOf env n:=by
   unfold cellOf
   show (match (env.cells++cl).lookup n with | some a=>_ | none=>_)=_
   rw[List.lookup_append,ha];rfl
  rw[hc];rfl
theorem lf{env:Env}{cl:List (Str×Addr)}(f g:Str×Value→PUnit→Sem (ForInStep PUnit))(hf:∀ n v u,f (n,v) u=(do storeName { env with cells:=env.cells++cl } n v;pure (.yield ⟨⟩)))
  (hg:∀ n v u,g (n,v) u=(do storeName env n v;pure (.yield ⟨⟩))):∀ (binds:List (Str×Value)),(∀ x∈binds,env.kindOf x.1=some .local∨(env.cells.lookup x.1).isSome=true)→forIn binds ⟨⟩ f=forIn binds ⟨⟩ g
 | [],_=>rfl
 | (n,v)::r,h=>by
  have ih:=lf f g hf hg r fun x hx=>h x (List.mem_cons_of_mem _ hx)
  rw[List.forIn_cons,List.forIn_cons,hf,hg,wb (h (n,v) List.mem_cons_self)]
  refine congrArg _ (funext fun x=>?_)
  cases x with
  | done b=>rfl
  | yield b=>exact ih
section
variable{M:Model}{A:Around}{E:Value→Shared→Prop}{s:Shared}
theorem wg{scope:Scope}{globals:Addr}{cl:List (Str×Addr)}{binds:List (Str×Value)}{qual:Str}{func:Option Addr}{code:Value}{builtins:Addr}{Q:Env→Shared→Prop}
  (hk:scope.kind=.function)
  (hkind:∀ x∈binds,scope.names.lookup x.1=some .local∨(scope.names.lookup x.1=some .cell∧((cellsFrom (s.heap.objs.size+1) scope.names []).lookup x.1).isSome=true))
  (hQ:∀ env,env=newEnv scope s.heap.objs.size globals (cellsFrom (s.heap.objs.size+1) scope.names []) qual func code none builtins →
   ∀ s',InCallC s env.locals (bindL env.kindOf binds fun _=>none) env.cells (bindC env.kindOf binds fun _=>none) s'→Q { env with cells:=env.cells++cl } s') :
  wpAny M A (newFunctionEnv scope globals cl binds qual func code none builtins) Q E s:=by
 simp only[newFunctionEnv,Option.isSome_none,Bool.false_eq_true,if_false]
 refine wpAny_bind (wpAny_alloc ?_)
 refine wpAny_bind (wpAny_layCells _ (fun name kind cells=>by cases hkc:kind==NameKind.cell<;>simp[hkc]) _ _ _ _ ?_)
 have ok:=cellsFrom_ok scope.names (s.heap.push { cls:=.type "frame",data:=.dict #[] }) (s.heap.objs.size+1) [] ⟨fun _ _ hm=>(nomatch hm),List.Pairwise.nil⟩ (by rw[Heap.size_push];exact Nat.le_refl _)
 rw[Heap.size_push] at ok
 rw[show ({ s with heap:=s.heap.push { cls:=.type "frame",data:=.dict #[] } }:Shared).heap.objs.size=s.heap.objs.size+1 from Heap.size_push ..]
 rw[dD scope.names _ cl]
 let env0:=newEnv scope s.heap.objs.size globals (cellsFrom (s.heap.objs.size+1) scope.names []) qual func code none builtins
 rw[lf (env:=env0) (cl:=cl) _ (fun x _=>do storeName env0 x.1 x.2;pure (.yield ⟨⟩)) (fun _ _ _=>rfl) (fun _ _ _=>rfl) binds fun x hx=>(hkind x hx).imp id fun h=>h.2]
 refine wpAny_bind (wpAny_bindParams (s₀:=s) (env:=env0)
  _ (fun _ _ _=>rfl) hk binds (fun _=>none) (fun _=>none) _ _
  ⟨⟨⟨_,_,rfl⟩,(Heap.Ns.new s.heap (.type "frame")).keeps (pushCells_keeps _ _),fun b o e=>pushCells_keeps _ _ b o (Heap.get?_push_of_some _ e),Nat.le_refl _⟩,
   fun n c hc=>(ok.empty n c (mem_of_lookup hc)).1,ok.apart,fun n c hm=>(ok.empty n c hm).2⟩
  hkind fun s' x=>wpAny_pure (hQ _ rfl s' x))
end
noncomputable def dL(fd:FuncData)(L a:Addr):Env:={ callEnvC fd L a with cells:=(callEnvC fd L a).cells++fd.closure }
set_option backward.match.sparseCases true in
theorem wK{prog:Program}{w:World}{A:Around}{s:Shared}{R:Result→Shared→Prop}{a:Addr}{o:Obj}{fd:FuncData}{body:List Stmt}{args:Args}{binds:List (Str×Value)}
  (hroom:A.depth < recursionLimit) (ho:s.heap.get? a=some o) (hdata:o.data=.func fd) (hlim:s.heap.NoLimit) (hcd:s.heap.CodeRec fd.code fd.qualname)
  (hbody:fd.body=.stmts body) (hbind:BindsTo s fd args binds)
  (hkind:∀ x∈binds,fd.scope.names.lookup x.1=some .local∨(fd.scope.names.lookup x.1=some .cell∧((cellsFrom (s.heap.objs.size+1) fd.scope.names []).lookup x.1).isSome=true))
  (h:∀ s₁,InCallC s (callEnvC fd s.heap.objs.size a).locals (bindL (callEnvC fd s.heap.objs.size a).kindOf binds fun _=>none) (callEnvC fd s.heap.objs.size a).cells
    (bindC (callEnvC fd s.heap.objs.size a).kindOf binds fun _=>none) s₁ →
   _root_.PySem.wpAt (model prog w) (A.deeper (dL fd s.heap.objs.size a)) (.func body (dL fd s.heap.objs.size a)) (execs body (dL fd s.heap.objs.size a)) (fun f s'=>R (.ok (.ret (match f with | .ret v=>v | _=>.none))) s')
    (fun e s'=>wpAny (model prog w) (A.deeper (dL fd s.heap.objs.size a)) (leaving (dL fd s.heap.objs.size a) e) (fun _ s''=>R (.error e) s'') (fun e' s''=>R (.error e') s'') s') s₁)
  (hco:fd.scope.isCoroutine=false) (hgen:fd.scope.isGenerator=false) (hk:fd.scope.kind=.function) :
  codeAny (model prog w) A (.call (.ref a) args) R s:=by
 refine codeAny_call_function hroom ho hdata hco hgen hbody hcd (hbind _ _ _ _ ?_)
 refine wg hk hkind fun env he s' x=>?_
 subst he
 exact⟨hlim.keeps x.toInCall.keep,ks_codeAny_funcAt (h s' x)⟩
end
section
structure FnAtD (c:Ctx) (a:Addr) (fd:FuncData) (body:List Stmt) (params:List Str) (dfl:List V) (cA:Option Addr) (Γ:Gm):Prop where
 obj:∃ o,c.h0.get? a=some o∧o.data=.func fd
 code:c.h0.CodeRec fd.code fd.qualname
 body:fd.body=.stmts body
 bind:∀ X σ μ s (vals:List Value),Rel c X σ μ s.heap→vals.length+dfl.length=params.length→∃ dv,VRs s.heap (Sx X σ μ) μ σ.length dv dfl∧BindsTo s fd ⟨vals,[]⟩ (params.zip (vals++dv))
 clo:fd.closure=cA.toList.map fun b=>(("__class__":Str),b)
 cell:∀ b,cA=some b→(∃ o,c.h0.get? b=some o)∧fd.scope.names.lookup ("__class__":Str)=some .free
 nocell:∀ {b},cA=some b→(("__class__":Str),NameKind.cell)∉fd.scope.names
 fn:∀ f b,Γ.fn=some (f,b)→f=a∧cA=some b
 glob:fd.globals=mainGlobals
 blt:fd.builtins=builtinsNs
 scope:bC Γ fd.scope.names params=true
 co:fd.scope.isCoroutine=false
 gen:fd.scope.isGenerator=false
 kind:fd.scope.kind=.function
noncomputable def SimBAt(c:Ctx)(Γ:Gm)(w st:List Stmt)(m:MS):Prop:=∀ A d X env F ρ σ μ s Q,Room A d→Rel c X σ μ s.heap→EnvR c X Γ 0 env F ρ σ μ s.heap→m d ρ σ Q→_root_.PySem.wpAt c.M A (.func w env) (execs st env) (PostS c Γ 0 env F X σ μ s Q) Bot s
theorem SimB.at_{c:Ctx}{Γ:Gm}{w st:List Stmt}{m:MS}(h:SimB c Γ 0 st m):SimBAt c Γ w st m:=fun A d X env F ρ σ μ s Q hA R E q=>_root_.PySem.wpAt_of_wpAny (h A d X env F ρ σ μ s Q hA R E q)
theorem cO{c:Ctx}{a:Addr}{fd:FuncData}{body:List Stmt}{params:List Str}{dfl:List V}{cA:Option Addr}{Γ:Gm}{m:MS}{k d:Nat}{given:List V}{σ:St}{Q:V→St→Prop}(ok:c.Ok)(H:FnAtD c a fd body params dfl cA Γ)(hm:SimBAt c Γ body body m)
  (hl:(given++dfl).length=params.length) (h:m d ((given++dfl).map some++List.replicate k none) σ (bx Q)):CodeT c (.ref a) (d+1) given σ Q:=by
 intro A X μ s gs hA R t0
 obtain⟨o,ho,hd⟩:=H.obj
 obtain⟨dv,td,hbd⟩:=H.bind X σ μ s gs R (by rw[t0.length,← List.length_append];exact hl)
 let vs:=gs++dv
 let args:=given++dfl
 have t:VRs s.heap (Sx X σ μ) μ σ.length vs args:=t0.append td
 have hvl:vs.length=params.length:=t.length.trans hl
 have hbp:∀ x∈params.zip vs,∃ i,params[i]?=some x.1∧vs[i]?=some x.2:=fun x hx=>by
  obtain⟨i,hi⟩:=List.getElem?_of_mem hx
  have:=List.getElem?_zip_eq_some.mp (show (params.zip vs)[i]?=some (x.1,x.2) from hi)
  exact⟨i,this⟩
 refine wK (by have:=hA.depth;lia) (R.base _ _ ho) hd (ok.nolimit.keeps R.base) (H.code.keeps R.base) H.body hbd (fun x hx=>?_) (fun s₁ x=>?_) H.co H.gen H.kind
 ·obtain⟨i,hi,_⟩:=hbp x hx
  rcases n7 H.scope (e9 H.scope hi) with e | e
  ·exact .inl e
  ·exact .inr ⟨e,dN _ _ _ _ e⟩
 ·let L:=s.heap.objs.size
  let env0:=callEnvC fd L a
  let env:=dL fd L a
  let F:Nat→Prop:=fun b=>b=L∨∃ n,env0.cells.lookup n=some b
  let X':Nat→Prop:=fun b=>X b∨F b
  have hLX:env.locals=L:=rfl
  have fresh:∀ b,F b→s.heap.get? b=none:=fun b hb=>by
   rcases hb with rfl | ⟨n,hn⟩
   ·exact eD (Nat.le_refl _)
   ·exact eD (Nat.le_of_lt (x.above n b (mem_of_lookup hn)))
  have live:∀ b,F b→∃ o,s₁.heap.get? b=some o:=fun b hb=>by
   rcases hb with rfl | ⟨n,hn⟩
   ·obtain⟨o,_,_,e,_⟩:=x.toInCall.ns;exact⟨o,e⟩
   ·obtain⟨o,e,_⟩:=x.cell n b hn;exact⟨o,e⟩
  have notTr:∀ b,F b→¬ Tr σ μ b:=fun b hb ht=>R.fresh (fresh b hb) (.inl ht)
  have hbase:∀ b,F b→c.h0.get? b=none:=fun b hb=>by
   cases z:c.h0.get? b with
   | none=>rfl
   | some o=>have:=R.base _ _ z;rw[fresh b hb] at this;cases this
  obtain⟨R₁,e₁⟩:=R.opens (X':=X') x.toInCall.keep fun b hb=>hb.imp id fun hb=>⟨fresh b hb,live b hb⟩
  obtain⟨hh,tk,hs₁⟩:=x.toInCall.same
  have g₁:s₁.gens=s.gens:=by rw[hs₁]
  have o₁:s₁.os=s.os:=by rw[hs₁]
  have t₁:VRs s₁.heap (Sx X' σ μ) μ σ.length vs args:=t.mono e₁
  have slot:∀ {i:Nat} {y:V},(args.map some++List.replicate k none)[i]?=some (some y)→args[i]?=some y:=fun {i y} e=>by
   rcases Nat.lt_or_ge i args.length with hlt | hge
   ·rw[List.getElem?_append_left (by simpa using hlt),List.getElem?_map] at e
    obtain⟨z,hz,e⟩:=Option.map_eq_some_iff.mp e
    cases e;exact hz
   ·rw[List.getElem?_append_right (by simpa using hge),List.getElem?_replicate] at e
    split at e<;>cases e
  have at_:∀ {x:Str} {i:Nat} {y:V},Γ.lookup x=some (some i)→(args.map some++List.replicate k none)[i]?=some (some y)→params[i]?=some x∧∃ v,vs[i]?=some v∧VRσ X' σ μ s₁.heap v y:=fun {x i y} hx e=>by
   have e:=slot e
   obtain⟨v,hv,tv⟩:=t₁.get e
   have hi:i < params.length:=by rw[← hl];exact (List.getElem?_eq_some_iff.mp e).1
   have hp:params[i]?=some params[i]:=List.getElem?_eq_getElem hi
   have:=lJ H.scope hx (e9 H.scope hp)
   exact⟨by rw[hp,← this],v,hv,tv⟩
  have uniq:∀ {p:Str} (i j:Nat),params[i]?=some p→params[j]?=some p→i=j:=fun i j hi hj=>by
   have h1:=e9 H.scope hi
   have h2:=e9 H.scope hj
   rw[h1] at h2;injection h2 with h2;injection h2 with h2
  have cls:∀ {y:Str} {b:Addr},fd.closure.lookup y=some b→y=("__class__":Str)∧cA=some b:=fun {y b} e=>by
   rw[H.clo] at e
   cases z:cA with
   | none=>rw[z] at e;cases e
   | some q =>
    rw[z] at e
    simp only[Option.toList,List.map_cons,List.map_nil,List.lookup_cons] at e
    split at e
    ·rename_i w;cases e;exact⟨eq_of_beq w,rfl⟩
    ·cases e
  have clive:∀ {b:Addr},cA=some b→∃ o,s.heap.get? b=some o:=fun {b} e=>by
   obtain⟨⟨o,ho⟩,_⟩:=H.cell b e
   exact⟨o,R.base _ _ ho⟩
  have ap:∀ {y z:Str} {b:Addr},env.cells.lookup y=some b→env.cells.lookup z=some b→y=z:=fun {y z b} hy hz=>by
   have hy:(env0.cells++fd.closure).lookup y=some b:=hy
   have hz:(env0.cells++fd.closure).lookup z=some b:=hz
   rw[List.lookup_append] at hy hz
   have own:∀ {y:Str},env0.cells.lookup y=some b→s.heap.get? b=none:=fun e=>fresh _ (.inr ⟨_,e⟩)
   cases h1:env0.cells.lookup y with
   | some b1 =>
    rw[h1] at hy;cases hy
    cases h2:env0.cells.lookup z with
    | some b2=>rw[h2] at hz;cases hz;exact name_of_addr x.apart (mem_of_lookup h1) (mem_of_lookup h2)
    | none=>rw[h2] at hz;obtain⟨o,e⟩:=clive (cls hz).2;rw[own h1] at e;cases e
   | none =>
    rw[h1] at hy
    cases h2:env0.cells.lookup z with
    | some b2=>rw[h2] at hz;cases hz;obtain⟨o,e⟩:=clive (cls hy).2;rw[own h2] at e;cases e
    | none=>rw[h2] at hz;rw[(cls hy).1,(cls hz).1]
  have E₁:EnvR c X' Γ 0 env F (args.map some++List.replicate k none) σ μ s₁.heap:=by
   refine⟨H.kind,H.glob,H.blt,fun y hy=>yR H.scope hy,fun y z i hy hz=>lJ H.scope hy hz,⟨_,x.toInCall.ns,fun y i hy hk V hV=>?_⟩,fun y i hy=>?_,fun y z b hy hz=>ap hy hz,.inl rfl,fun b hb=>.inr hb,fun b hb=>⟨notTr b hb,hbase b hb,live b hb⟩,fun y hy=>.inl (yD H.scope hy),fun f b e=>?_⟩
   ·obtain⟨hp,v,hv,tv⟩:=at_ hy hV
    exact⟨v,vE _ _ _ i y v hp hv uniq hk,tv⟩
   ·rcases n7 H.scope hy with hk | hk
    ·exact .loc hk
    ·obtain⟨b,hb⟩:=Option.isSome_iff_exists.mp (dN fd.scope.names (L+1) [] y hk)
     have hb':env0.cells.lookup y=some b:=hb
     have hb2:env.cells.lookup y=some b:=by show (env0.cells++fd.closure).lookup y=_;rw[List.lookup_append,hb'];rfl
     have hF:F b:=.inr ⟨y,hb'⟩
     refine .cell (.inl hk) b _ hb2 (x.cell y b hb') (fun V hV=>?_) (notTr b hF) (Nat.ne_of_gt (x.above y b (mem_of_lookup hb'))) (fun _=>⟨hk,hF⟩)
     obtain⟨hp,v,hv,tv⟩:=at_ hy hV
     exact⟨v,qc _ _ _ i y v hp hv uniq (by show fd.scope.names.lookup y≠_;rw[hk];intro e;cases e),tv⟩
   ·obtain⟨rfl,hcA⟩:=H.fn f b e
    obtain⟨_,hfree⟩:=H.cell b hcA
    refine⟨rfl,hfree,?_,o,fd,ho,hd,rfl⟩
    show (env0.cells++fd.closure).lookup _=_
    have hno:env0.cells.lookup ("__class__":Str)=none:=by
     cases z:env0.cells.lookup ("__class__":Str) with
     | none=>rfl
     | some q =>
      rcases fK _ _ _ _ _ (mem_of_lookup z) with hm | hm
      ·cases hm
      ·exact absurd hm (H.nocell hcA)
    rw[List.lookup_append,hno,H.clo,hcA]
    rfl
  have hA':Room (A.deeper env) d:=⟨hA.handled,by have:=hA.depth;show A.depth+1+d≤_;lia,by have:=hA.units;show A.units+3+8 * d+300≤_;lia⟩
  refine _root_.PySem.ks_wpAt_mono (hm (A.deeper env) d X' env F _ σ μ s₁ _ hA' R₁ E₁ h) (fun f s' hp=>?_) fun _ _ e=>e.elim
  obtain⟨fl,ρ',σ',μ',q,R',tf,ev,E',g',o'⟩:=hp
  obtain⟨R₂,e₂⟩:=R'.shut (X':=X) fun b hb=>.inl hb
  have evAll:Evσ X σ μ s.heap X σ' μ' s'.heap:=by
   have nn:∀ b,s₁.heap.get? b=none→s.heap.get? b=none:=fun b hb=>by
    cases z:s.heap.get? b with
    | none=>rfl
    | some o=>have:=x.toInCall.keep _ _ z;rw[hb] at this;cases this
   have hsub:∀ b,Tr σ' μ' b→Tr σ μ b∨s.heap.get? b=none:=fun b hb=>by
    rcases ev.subT b (.inl hb) with (ht | hF) | hn
    ·exact .inl ht
    ·exact .inr (fresh b hF)
    ·exact .inr (nn b hn)
   refine⟨fun b o hb e=>ev.keep b o (fun hf=>hf.elim hb fun hF=>?_) (x.toInCall.keep _ _ e),fun b o e=>ev.live b o (x.toInCall.keep _ _ e),fun b hb=>.inl hb,hsub,fun b hb=>?_,ev.mu,ev.le⟩
   ·rw[fresh b hF] at e;cases e
   ·rcases hb with ht | hX
    ·exact (hsub b ht).imp .inl id
    ·exact .inl (.inr hX)
  cases tf with
  | next=>exact⟨_,_,_,q,R₂,.none,evAll,g'.trans g₁,o'.trans o₁⟩
  | ret tv=>exact⟨_,_,_,q,R₂,tv.mono e₂,evAll,g'.trans g₁,o'.trans o₁⟩
  | brk=>exact q.elim
  | cont=>exact q.elim
theorem gf{c:Ctx}{a:Addr}{fd:FuncData}{body:List Stmt}{params:List Str}{dfl:List V}{cA:Option Addr}{Γ:Gm}{m:MS}{k d:Nat}{given:List V}{σ:St}{Q:V→St→Prop}(ok:c.Ok)(H:FnAtD c a fd body params dfl cA Γ)(hm:SimB c Γ 0 body m)
  (hl:(given++dfl).length=params.length) (h:m d ((given++dfl).map some++List.replicate k none) σ (bx Q)):CodeT c (.ref a) (d+1) given σ Q:=cO ok H hm.at_ hl h
noncomputable abbrev FnAt(c:Ctx)(a:Addr)(fd:FuncData)(body:List Stmt)(params:List Str)(Γ:Gm):Prop:=FnAtD c a fd body params [] none Γ
theorem aA{c:Ctx}{a:Addr}{fd:FuncData}{body:List Stmt}{params:List Str}{Γ:Gm}{m:MS}{k d:Nat}{args:List V}{σ:St}{Q:V→St→Prop}(ok:c.Ok)(H:FnAt c a fd body params Γ)(hm:SimB c Γ 0 body m)
  (hl:args.length=params.length) (h:m d (args.map some++List.replicate k none) σ (bx Q)):CodeT c (.ref a) (d+1) args σ Q:=cO ok H hm.at_ ((congrArg List.length (List.append_nil args)).trans hl) ((List.append_nil args).symm▸h)
theorem ro{c:Ctx}{a:Addr}{fd:FuncData}{body:List Stmt}{params:List Str}{Γ:Gm}{m:MS}{k d:Nat}{args:List V}{σ:Mine.St}{Q:V→Mine.St→Prop}(ok:c.Ok)(H:FnAt c a fd body params Γ)(hm:SimB c Γ 0 body m)
  (hl:args.length=params.length) (h:m d (args.map some++List.replicate k none) σ (bx fun v σ'=>cutP σ v σ' Q)):CodeT c (.ref a) (d+1) args σ Q:=CodeT.cut (aA ok H hm hl h)
end
section
structure SuperAt (c:Ctx) (f0 cA:Addr) (x0:Str) (D:Addr):Prop where
 fn:∃ oc od fd sl,c.K.lookup f0=some ⟨oc,od,.func fd,sl⟩∧(∃ ar,(fd.params.posonlyargs++fd.params.args).head?=some ar∧ar.arg=x0) ∧
  ∃ cda ccl cdd vs ccs file tf,fd.code=.ref cda∧c.K.lookup cda=some ⟨ccl,cdd,.fields vs,ccs⟩∧vs[2]?=some (.str file tf)∧((c.prog.main.file:Str)==file)=true
 cell:∃ cl cld csl,c.K.lookup cA=some ⟨cl,cld,.cell (some (.ref D)),csl⟩
 top:(c.prog.main.scope.names.lookup ("super":Str)).isSome=false
 sup:c.mg "super"=none∧c.mb "super"=some (.type "super")
 opq:nsIn c.K cStatics "thirdparty.any"=some none
noncomputable def fN(K:Frag)(D:Addr)(name:Str)(C f:Addr):Bool :=
 (clsIn K C).isSome&&(clsIn K D).isSome&&(ks_superIn K C D name==some (some (.ref f)))&&(typeIn K (.ref f)==some (.type "function"))&&fnIn K f&&(mroIn K C (.ref D)==some true)
noncomputable def SimEAt(c:Ctx)(Γ:Gm)(w:List Stmt)(e:Expr)(m:ME V):Prop:=∀ A d X env F ρ σ μ s Q,Room A d→Rel c X σ μ s.heap→EnvR c X Γ 0 env F ρ σ μ s.heap→m d ρ σ Q→_root_.PySem.wpAt c.M A (.func w env) (eval e env) (Post c RV X σ μ s Q) Bot s
noncomputable def eV(c:Ctx)(i0:Nat)(T:Nat→Option Addr)(b:ME (List V)):ME V:=fun d ρ σ Q=>onS (ρ[i0]?.bind id) fun x=>match x with
 | .inst C i=>onS (T C) fun f=>onS (nsAt σ i) fun _=>b d ρ σ fun xs σ=>CodeT c (.ref f) d (.inst C i::xs) σ Q
 | _=>False
section
variable{c:Ctx}{Γ:Gm}{w:List Stmt}
set_option backward.match.sparseCases true in
theorem lN{f0 cA D:Addr}{x0 name:Str}{i0:Nat}{T:Nat→Option Addr}{args:List Expr}{b:ME (List V)}{p0 p1 apos pos:Pos}(ok:c.Ok)(S:SuperAt c f0 cA x0 D)(hfn:Γ.fn=some (f0,cA))(hx:Γ.lookup x0=some (some i0))
  (hs:Γ.lookup "super"=some none) (hc:∀ C f,T C=some f→fN c.K D name C f=true) (hb:SimEs c Γ args b) (hat:(name==("__class__":Str))=false) (hxd:(x0==("__classdict__":Str))=false)
  (hp:∀ env,(backTo pos (starEach args env)).any (·.1)=false)
  (he:∀ env,eval (.Call (.Attribute (.Call (.Name "super" p0) [] [] p1) name apos) args [] pos) env=(do
   let ov ← attributeBase (.Call (.Name "super" p0) [] [] p1) name env (eval (.Call (.Name "super" p0) [] [] p1) env)
   standAt apos.atName
   let (f,first) ← holding [ov] (getMethod ov name (do return (← importBound (.Call (.Name "super" p0) [] [] p1) env).getD true))
   callWith pos f first (backTo pos (starEach args env)) [])) :
  SimEAt c Γ w (.Call (.Attribute (.Call (.Name "super" p0) [] [] p1) name apos) args [] pos) (eV c i0 T b):=by
 intro A d X env F ρ σ μ s Q hA R E h
 have XK:=ok.K.keeps R.base
 obtain⟨hfu,hkc,hce,o',fd',ho',hd',hco'⟩:=E.fn _ _ hfn
 obtain⟨oc,od,fd,sl,hK,⟨ar,hpar,har⟩,cda,ccl,cdd,vs,ccs,file,tf,hcode,hKc,hvs,hfile⟩:=S.fn
 obtain⟨cl,cld,csl,hcell⟩:=S.cell
 have e0:(⟨oc,od,.func fd,sl⟩:Obj)=o':=by
  have:=ok.K _ _ hK;rw[ho'] at this;cases this;rfl
 subst e0
 cases hd'
 obtain⟨x,hρ,h⟩:=br h
 cases x with
 | inst C i =>
  have hρ:=mT hρ
  obtain⟨f,hT,h⟩:=br h
  obtain⟨kvs,g,h⟩:=br h
  have g:=fV g
  have hok:=hc C f hT
  simp only[fN,Bool.and_eq_true,beq_iff_eq,Option.isSome_iff_exists] at hok
  obtain⟨⟨⟨⟨⟨⟨cdC,k1⟩,⟨cdD,k2⟩⟩,k3⟩,k4⟩,k5⟩,k6⟩:=hok
  obtain⟨hh,gg,dd,tk,os⟩:=s
  obtain⟨oD,hD1,hD2⟩:∃ oD,hh.get? D=some oD∧oD.data=.cls cdD:=by
   unfold clsIn at k2
   split at k2
   ·rename_i c d cd' sl ho
    cases k2
    exact⟨_,XK _ _ ho,rfl⟩
   ·cases k2
  refine ks_wpAt_MethodCall ?_ (he env)
  refine ks_wpAt_super_base (E.gl _ hs) hkc hat hfu (XK _ _ hK) rfl hpar (hco'.trans hcode) (XK _ _ hKc) rfl hvs hfile S.top ?_
  refine eX ok R E hs (.inr S.sup) ⟨rfl,?_⟩
  refine wpAny_loadName_free E.kind hkc hce ⟨_,XK _ _ hcell,rfl⟩ ?_
  rw[har]
  refine ke E hx hρ hxd fun v tv=>?_
  obtain⟨ad,rfl,go,ff,hi⟩:=tv.inv
  obtain⟨_,_,hn,hxn⟩:=(R.obj _ _ g).inv
  rename_i es' k'
  have I:InstAt hh ad (instObj C (μ i)) C (some (dictOf es' k')):=⟨go,rfl,rfl,hn⟩
  refine ks_wpAny_isType_cls hD1 hD2 ⟨rfl,?_⟩
  refine ks_wpAny_call_super hD1 hD2 I.at_ I.cls (fun c e=>?_) (looks_mroIn XK k6) (fun h' e k=>?_)
  ·have:=I.no
   unfold notCls at this
   rw[e] at this
   exact Bool.noConfusion this
  obtain⟨R1,e1⟩:=R.keeps k
  have X1:=ok.K.keeps R1.base
  obtain⟨of,hof,hofc⟩:∃ of,h'.get? f=some of∧of.cls=.type "function":=by
   have ht':(c.K.lookup f).map (·.cls)=some (.type "function"):=k4
   cases z:c.K.lookup f with
   | none=>rw[z] at ht';cases ht'
   | some of=>rw[z] at ht';exact⟨of,X1 _ _ z,Option.some.inj ht'⟩
  have k3':alongIn c.K name ((cdC.mro.dropWhile (· != .ref D)).drop 1)=some (some (.ref f)):=by
   have:=k3;unfold ks_superIn at this;rw[k1] at this;exact this
  refine ks_wpAny_getMethod_super e (looks_opaque X1 S.opq) (l₀:=cdC.mro) ?_ rfl X1 k3' hof hofc (ks_ne XK I k1) hat ?_
  ·exact fun A Q E s k q=>wpAny_bind ((looks_clsIn X1 k1) A _ E s k (wpAny_pure q))
  let q:=h'.objs.size
  obtain⟨R2,e2⟩:=R1.push (methodObj (.ref f) (.ref ad))
  have hq:(h'.push (methodObj (.ref f) (.ref ad))).get? q=some (methodObj (.ref f) (.ref ad)):=Heap.get?_push_at rfl rfl
  have hqT:¬ Tr σ μ q:=fun ht=>R1.fresh (eD (Nat.le_refl _)) (.inl ht)
  have ev:=e1.trans e2
  have key:wpAny c.M A (spliced (backTo pos (starEach args env))) (fun vs s₁=>MethP c.K q f (.ref ad) s₁.heap∧wpAny c.M A (call (.ref q) ([]++vs)) (Post c RV X σ μ ⟨hh,gg,dd,tk,os⟩ Q) Bot s₁) Bot ⟨h'.push (methodObj (.ref f) (.ref ad)),gg,dd,tk+1,os⟩:=by
   refine aC (hb A d X 0 env F ρ σ μ ⟨h'.push (methodObj (.ref f) (.ref ad)),gg,dd,tk+1,os⟩ _ pos hA R2 (E.mono ev) h) fun vs xs σ₁ μ₁ s₁ q₁ R₁ t₁ e₁ g₁ o₁=>?_
   have hq1:s₁.heap.get? q=some (methodObj (.ref f) (.ref ad)):=e₁.keep _ _ hqT hq
   refine⟨⟨hq1,ok.K.keeps R₁.base⟩,?_⟩
   refine aV (ev.trans e₁) g₁ o₁ (wpAny_call (ks_codeAny_call_bound hq1 ?_))
   exact q₁ A X μ₁ s₁ _ hA R₁ (.cons ((VR.mono (ev.trans e₁) (VR.inst go ff hi))) t₁)
  cases hargs:backTo pos (starEach args env) with
  | nil =>
   rw[hargs] at key
   exact callWith_of rfl (fun h' X'=>keeps_M k5 h' X') (gm key)
  | cons z zs =>
   obtain⟨st,x⟩:=z
   have hp:=hp env
   rw[hargs] at hp key
   simp only[List.any_cons,Bool.or_eq_false_iff] at hp
   obtain⟨hst,hz⟩:=hp
   subst hst
   exact callWith_of (by simp[hz]) (fun h' X'=>keeps_M k5 h' X') (evalArgs_plain key)
 | _=>exact h.elim
theorem rL{e:Expr}{rest:List Stmt}{a:ME V}{b:MS}{pos:Pos}(ha:SimEAt c Γ w e a)(hb:SimB c Γ 0 rest b)(hs:∀ env,swapsWith e none pos.line env=pure false):SimBAt c Γ w (.Expr e pos::rest) (ag (aM a) b):=by
 intro A d X env F ρ σ μ s Q hA R E h
 refine ks_wpAt_execs_cons (ks_wpAt_Expr_any (_root_.PySem.ks_wpAt_mono (ha A d X env F ρ σ μ s _ hA R E h) (fun u s₁ ⟨x,σ₁,μ₁,q,R₁,t₁,e₁,g₁,o₁⟩=>?_) fun _ _ e=>e) (by unfold interactive;rw[E.kind];rfl) (hs env))
 exact _root_.PySem.wpAt_of_wpAny (ft (e₁.toF E.fx) g₁ o₁ (hb A d X env F ρ σ₁ μ₁ s₁ _ hA R₁ (E.mono e₁) q))
end
end
section
section
variable{prog:Program}{w:World}{A:Around}{E:Value→Shared→Prop}{s:Shared}
end
end
section
section
variable{h0 h h':Heap}{S z TI TO i1 i2 l1 l2 T0:Addr}{xs ys acc:Array Value}{i:Nat}
end
section
variable{prog:Program}{w:World}{A:Around}{R:Result→Shared→Prop}
end
section
variable{prog:Program}{w:World}{A:Around}{E:Value→Shared→Prop}{s:Shared}
end
end
section
noncomputable def fnD:(d:Data)→Option {f:FuncData // d=.func f}
 | .func f=>some ⟨f,rfl⟩
 | _=>none
noncomputable def fdAt(K:Frag)(a:Addr):FuncData:=((K.lookup a).bind fun o=>fnD o.data |>.map (·.1)).getD default
theorem c7{α:Type}{o:Option α}{f:α→Bool}(h:o.elim false f=true):∃ y,o=some y∧f y=true:=by
 cases o with
 | none=>cases h
 | some y=>exact⟨y,rfl,h⟩
theorem dw{α:Type}{o:Option α}{f:α→Bool}(h:o.elim false f=true):∃ y,f y=true:=(c7 h).imp fun _ e=>e.2
noncomputable def isFn(K:Frag)(a:Addr):Bool:=(K.lookup a).elim false fun o=>(fnD o.data).isSome
theorem yP{K:Frag}{a:Addr}(h:isFn K a=true):∃ o,K.lookup a=some o∧o.data=.func (fdAt K a):=by
 obtain⟨o,e,k⟩:=c7 h
 obtain⟨f,hf⟩:=Option.isSome_iff_exists.mp k
 refine⟨o,e,?_⟩
 unfold fdAt
 rw[e]
 show o.data=.func ((Option.map _ (fnD o.data)).getD default)
 rw[hf]
 exact f.2
noncomputable def us(f:FuncData):List Stmt:=match f.body with
 | .stmts b=>b
 | _=>[]
noncomputable def fnOk(K:Frag)(a:Addr)(params:List Str)(Γ:Gm):Bool :=
 isFn K a&&codeIn K (fdAt K a).code (fdAt K a).qualname&&(fdAt K a).globals==mainGlobals&&(fdAt K a).builtins==builtinsNs&&bC Γ (fdAt K a).scope.names params &&
 !(fdAt K a).scope.isCoroutine&&!(fdAt K a).scope.isGenerator&&(fdAt K a).scope.kind==.function
theorem FnAtD.of'{c:Ctx}{a:Addr}{body:List Stmt}{params:List Str}{dfl:List V}{cA:Option Addr}{Γ:Gm}(ok:c.Ok)(h:fnOk c.K a params Γ=true)(hb:(fdAt c.K a).body=.stmts body)(hc:(fdAt c.K a).closure=cA.toList.map fun b=>(("__class__":Str),b))
  (hcell:∀ b,cA=some b→(c.K.lookup b).isSome=true∧(fdAt c.K a).scope.names.lookup ("__class__":Str)=some .free) (hno:∀ {b},cA=some b→(("__class__":Str),NameKind.cell)∉(fdAt c.K a).scope.names) (hf:∀ f b,Γ.fn=some (f,b)→f=a∧cA=some b)
  (hbind:∀ X σ μ s (vals:List Value),Rel c X σ μ s.heap→vals.length+dfl.length=params.length→∃ dv,VRs s.heap (Sx X σ μ) μ σ.length dv dfl∧BindsTo s (fdAt c.K a) ⟨vals,[]⟩ (params.zip (vals++dv))):FnAtD c a (fdAt c.K a) body params dfl cA Γ:=by
 simp only[fnOk,Bool.and_eq_true,Bool.not_eq_true',beq_iff_eq] at h
 obtain⟨⟨⟨⟨⟨⟨⟨h0,h1⟩,h2⟩,h3⟩,h4⟩,h5⟩,h6⟩,h7⟩:=h
 refine⟨?_,codeRec_of ok.K h1,hb,hbind,hc,fun b e=>⟨?_,(hcell b e).2⟩,hno,hf,h2,h3,h4,h5,h6,h7⟩
 ·exact (yP h0).imp fun _ e=>⟨ok.K _ _ e.1,e.2⟩
 ·obtain⟨o,ho⟩:=Option.isSome_iff_exists.mp (hcell b e).1
  exact⟨o,ok.K _ _ ho⟩
theorem FnAtD.of{c:Ctx}{a:Addr}{body:List Stmt}{params:List Str}{dfl:List V}{cA:Option Addr}{Γ:Gm}(ok:c.Ok)(h:fnOk c.K a params Γ=true)(hb:(fdAt c.K a).body=.stmts body)(hc:(fdAt c.K a).closure=cA.toList.map fun b=>(("__class__":Str),b))
  (hcell:∀ b,cA=some b→(c.K.lookup b).isSome=true∧(fdAt c.K a).scope.names.lookup ("__class__":Str)=some .free) (hno:((fdAt c.K a).scope.names.all fun p=>p.1 != ("__class__":Str)||p.2 != .cell)=true) (hf:∀ f b,Γ.fn=some (f,b)→f=a∧cA=some b)
  (hbind:∀ X σ μ s (vals:List Value),Rel c X σ μ s.heap→vals.length+dfl.length=params.length→∃ dv,VRs s.heap (Sx X σ μ) μ σ.length dv dfl∧BindsTo s (fdAt c.K a) ⟨vals,[]⟩ (params.zip (vals++dv))):FnAtD c a (fdAt c.K a) body params dfl cA Γ :=
 FnAtD.of' ok h hb hc hcell (fun {_} _ hm=>by have:=List.all_eq_true.mp hno _ hm;simp at this) hf hbind
theorem bindD0{c:Ctx}{fd:FuncData}{params:List Str}(h:∀ vals:List Value,vals.length=params.length→bindArgs fd ⟨vals,[]⟩=pure (params.zip vals))(X:Nat→Prop)(σ:St)(μ:Nat→Nat)(s:Shared)(vals:List Value)(_:Rel c X σ μ s.heap)(hl:vals.length+([]:List V).length=params.length) :
  ∃ dv,VRs s.heap (Sx X σ μ) μ σ.length dv []∧BindsTo s fd ⟨vals,[]⟩ (params.zip (vals++dv)):=⟨[],.nil,BindsTo.of_eq (by rw[List.append_nil];exact h vals (by simpa using hl))⟩
theorem FnAt.of{c:Ctx}{a:Addr}{body:List Stmt}{params:List Str}{Γ:Gm}(ok:c.Ok)(h:fnOk c.K a params Γ=true)(hb:(fdAt c.K a).body=.stmts body)(hc:(fdAt c.K a).closure=[])(hf:Γ.fn=none)
  (hbind:∀ vals:List Value,vals.length=params.length→bindArgs (fdAt c.K a) ⟨vals,[]⟩=pure (params.zip vals)):FnAt c a (fdAt c.K a) body params Γ :=
 FnAtD.of' ok h hb hc (fun _ e=>by cases e) (fun {_} e=>by cases e) (fun _ _ e=>by rw[hf] at e;cases e) (bindD0 hbind)
theorem iS{α:Type}[DecidableEq α]{β:Type}{P:α→β→Prop}{C0:α}{f0:β}(h:P C0 f0):∀ C f,(if C=C0 then some f0 else none)=some f→P C f:=fun C f e=>by
 split at e
 ·cases e;subst C;exact h
 ·cases e
theorem ki{P:Nat→Prop}{C0:Nat}(h:P C0):∀ C,(C==C0)=true→P C:=fun C e=>by
 cases eq_of_beq e;exact h
theorem Ctx.Ok.top{c:Ctx}(ok:c.Ok){x:Str}{v:Value}(e:nsIn c.K mainGlobals x=some (some v)):c.mg x=some v:=mg_of ok.K ok.g e
noncomputable def bNames:List Str:=["len","range","list","tuple","int","sorted","reversed","any","min","max","sum","zip","enumerate","set","dict","super","str"]
theorem Ctx.Ok.bi{c:Ctx}(ok:c.Ok){x:Str}{v:Value}(e:bootBuiltins x=some v)(hx:x∈bNames):c.mg x=none∧c.mb x=some v :=
 ⟨ok.names x hx,(ok.builtins x fun h=>absurd (h▸hx) (by decide +kernel:("__name__":Str)∉bNames)).trans e⟩
section
variable{c:Ctx}{Γ:Gm}
theorem ss{x:Str}{v:Value}{y:V}{pos:Pos}(ok:c.Ok)(e:nsIn c.K mainGlobals x=some (some v))(hv:∀ X σ μ h,Rel c X σ μ h→VRσ X σ μ h v y)(hx:Γ.lookup x=some none)(hd:(x==("__debug__":Str))=false):SimE c Γ (.Name x pos) (bg y):=by
 intro A d X bs env F ρ σ μ s Q hA R E h
 exact wpAny_Name (eX ok R E hx (.inl (ok.top e)) (Post.here R (hv X σ μ _ R) h)) hd
theorem ik{i:Int}{t:Tok}:∀ X σ μ h,Rel c X σ μ h→VRσ X σ μ h (.int i t) (.int i):=fun _ _ _ _ _=>.int _ _
noncomputable def tsO(l:List (String×Nat)):Obj:=⟨.type "tuple",none,.seq (l.map fun y=>Value.str (Str.ofString y.1) y.2).toArray 0,#[]⟩
theorem ig{a:Addr}{l:List (String×Nat)}{m:List Str}(ok:c.Ok)(e:c.K.lookup a=some (tsO l))(hm:m=l.map fun y=>Str.ofString y.1):∀ X σ μ h,Rel c X σ μ h→VRσ X σ μ h (.ref a) (.tup (m.map V.str)):=fun X σ μ h R=>by
 have h0:=ok.K _ _ e
 have t:∀ l:List (String×Nat),VRs h (Sx X σ μ) μ σ.length (l.map fun y=>Value.str (Str.ofString y.1) y.2) ((l.map fun y=>Str.ofString y.1).map V.str):=fun l=>by
  induction l with
  | nil=>exact .nil
  | cons y l ih=>exact .cons (.str _ _) ih
 refine .tup (R.base _ _ h0) (fun hs=>?_) (hm▸t l)
 rcases hs with⟨i,o,ei,rfl⟩ | hX
 ·rw[R.out i o ei] at h0;cases h0
 ·rw[(R.sh a hX).1] at h0;cases h0
theorem rv{bs k k':Nat}{nm:List (Str×Pos)}{is:List Nat}{ts es:List Expr}{a:ME (List V)}{tp vp pos:Pos}(ht:ts=nm.map fun p=>Expr.Name p.1 p.2)(ha:SimEs c Γ es a)
  (hx:(nm.length==is.length&&decide is.Nodup&&(nm.zip is).all fun p=>Γ.lookup p.1.1==some (some p.2)&&decide (bs≤p.2))=true) (hc:es.all (constantsAlone 8)=false):SimS c Γ bs (.Assign [.Tuple ts k tp] (.Tuple es k' vp) pos) (aQ is a):=by
 simp only[Bool.and_eq_true,beq_iff_eq,decide_eq_true_eq] at hx
 refine yo ht ha hx.1.1 hx.1.2 (fun j n i hn hi=>?_) hc
 have:=List.all_eq_true.mp hx.2 (n,i) (List.mem_of_getElem? (List.getElem?_zip_eq_some.mpr ⟨hn,hi⟩))
 simp only[Bool.and_eq_true,beq_iff_eq,decide_eq_true_eq] at this
 exact this
end
noncomputable def vRef:(v:Value)→Option {a:Addr // v=.ref a}
 | .ref a=>some ⟨a,rfl⟩
 | _=>none
noncomputable def vStr:(v:Value)→Option {p:Str×Tok // v=.str p.1 p.2}
 | .str x t=>some ⟨(x,t),rfl⟩
 | _=>none
noncomputable def vT:(d:Data)→Option {vs:Array Value // d=.fields vs}
 | .fields vs=>some ⟨vs,rfl⟩
 | _=>none
noncomputable def dCell:(d:Data)→Option {v:Value // d=.cell (some v)}
 | .cell (some v)=>some ⟨v,rfl⟩
 | _=>none
noncomputable def se(K:Frag)(f0 cA:Addr)(x0:Str)(D:Addr)(file:Str):Bool :=
 ((K.lookup f0).elim false fun o=>(fnD o.data).elim false fun fd=>((fd.1.params.posonlyargs++fd.1.params.args).head?).elim false (fun ar=>ar.arg==x0)&&(vRef fd.1.code).elim false fun a=>(K.lookup a.1).elim false fun o=>(vT o.data).elim false fun vs =>
  (vs.1[2]?).elim false fun v=>(vStr v).elim false fun p=>file==p.1.1)&&(K.lookup cA).elim false fun o=>(dCell o.data).elim false fun v=>(vRef v.1).elim false fun E=>E.1==D
theorem SuperAt.of{c:Ctx}{f0 cA D:Addr}{x0:Str}(h:se c.K f0 cA x0 D c.prog.main.file=true)(ht:(c.prog.main.scope.names.lookup ("super":Str)).isSome=false)(hs:c.mg "super"=none∧c.mb "super"=some (.type "super"))(ho:nsIn c.K cStatics "thirdparty.any"=some none):SuperAt c f0 cA x0 D:=by
 have h:=Bool.and_eq_true_iff.mp h
 refine⟨?_,?_,ht,hs,ho⟩
 ·obtain⟨⟨_,_,_,_⟩,e1,h⟩:=c7 h.1
  obtain⟨⟨fd,e2⟩,h⟩:=dw h
  have h:=Bool.and_eq_true_iff.mp h
  obtain⟨ar,e3,ha⟩:=c7 h.1
  obtain⟨⟨a,e4⟩,h⟩:=dw h.2
  obtain⟨⟨_,_,_,_⟩,e5,h⟩:=c7 h
  obtain⟨⟨vs,e6⟩,h⟩:=dw h
  obtain⟨v,e7,h⟩:=c7 h
  obtain⟨⟨p,e8⟩,h⟩:=dw h
  dsimp only at e2 e6
  exact⟨_,_,fd,_,e2▸e1,⟨ar,e3,eq_of_beq ha⟩,a,_,_,vs,_,p.1,p.2,e4,e6▸e5,e8▸e7,h⟩
 ·obtain⟨⟨_,_,_,_⟩,e1,h⟩:=c7 h.2
  obtain⟨⟨v,e2⟩,h⟩:=dw h
  obtain⟨⟨E,e3⟩,h⟩:=dw h
  dsimp only at e2
  have e4:v=.ref D:=e3.trans (congrArg _ (eq_of_beq h))
  exact⟨_,_,_,e4▸e2▸e1⟩
end
section
end
section
section
variable{prog:Program}{w:World}{A:Around}{E:Value→Shared→Prop}{s:Shared}{led:Bool}{ks:List Int}{es:Array (Int×Value)}{t:SetTable}{ep:Nat}
end
end
section
section
variable{prog:Program}{w:World}{A:Around}{R:Result→Shared→Prop}{I:Addr}{fp wr:List Addr}{G:Array GenState→Array GenState→Prop}{n:Nat}{P:Nat→Value→Prop}{St:Nat→Shared→Prop}{led:Bool}
end
section
variable{prog:Program}{w:World}{A:Around}{E:Value→Shared→Prop}{s:Shared}
set_option maxHeartbeats 3200000 in
end
end
section
section
variable{prog:Program}{w:World}{A:Around}{E:Value→Shared→Prop}{s:Shared}{led:Bool}{ks:List Int}{es:Array (Int×Value)}{t:SetTable}{ep:Nat}{it S T:Addr}{i:Nat}
theorem qd{α:Type}{Q:α→Shared→Prop}(hh:A.handled=none)(h:∀ h' e,(∀ b o,s.heap.get? b=some o→h'.get? b=some o)→(∃ o,h'.get? e=some o∧o.cls=.type "StopIteration")→E (.ref e) { s with heap:=h' }) :
  wpAny (model prog w) A (newExc (.type "StopIteration") [] >>= raiseNew) Q E s:=by
 refine wpAny_bind ?_
 simp only[newExc,newTuple]
 refine wpAny_bind (wpAny_newObj_type ?_ (by size_fits))
 refine wpAny_bind (m:=firstArgMember _ _) (wpAny_of_eq (a:=Value.none) (by first | rfl | (simp only[firstArgMember];rfl)) ?_)
 refine wpAny_newObj_type ?_ (by size_fits)
 simp only[raiseNew]
 refine wpAny_bind (wpAny_handled ?_)
 rw[hh]
 refine wpAny_bind (wpAny_pure (wpAny_throw ?_))
 exact h _ _ (fun b o e=>Heap.get?_push_of_some _ (Heap.get?_push_of_some _ e)) ⟨_,Heap.get?_push_size _ rfl,rfl⟩
end
end
section
section
variable{prog:Program}{w:World}{A:Around}{E:Value→Shared→Prop}{s:Shared}{ks:List Int}{es:Array (Int×Value)}{t:SetTable}{ep:Nat}{it S T:Addr}{i:Nat}
set_option backward.match.sparseCases true in
end
end
section
section
variable{prog:Program}{w:World}{A:Around}{E:Value→Shared→Prop}{s:Shared}{ks:List Int}{es:Array (Int×Value)}{t:SetTable}{ep:Nat}{it S T:Addr}{i:Nat}
end
end
section
section
variable{prog:Program}{w:World}{A:Around}{E:Value→Shared→Prop}{s:Shared}{ks:List Int}{es:Array (Int×Value)}{t:SetTable}{ep:Nat}{it S T:Addr}{i:Nat}
end
end
section
section
variable{prog:Program}{w:World}{A:Around}{E:Value→Shared→Prop}{s:Shared}{ks:List Int}{es:Array (Int×Value)}{t:SetTable}{ep:Nat}{it S T:Addr}{i:Nat}
set_option backward.match.sparseCases true in
end
end
section
section
variable{prog:Program}{w:World}{A:Around}{E:Value→Shared→Prop}{s:Shared}{ks:List Int}{es:Array (Int×Value)}{t:SetTable}{ep:Nat}{S:Addr}
end
end
section
theorem m5{h:Heap}{S:Nat→Prop}{μ:Nat→Nat}{n:Nat}:∀ {vs:List Value} {ns:List Int},IntsAre vs ns→VRs h S μ n vs (ns.map V.int)
 | _,_,.nil=>.nil
 | _,_,.cons n t k=>.cons (.int n t) (m5 k)
theorem VRs.intsAre{h:Heap}{S:Nat→Prop}{μ:Nat→Nat}{n:Nat}{l:List V}{vs:List Value}{is:List Int}(t:VRs h S μ n vs l)(e:V.ints l=some is):IntsAre vs is:=by
 induction l generalizing vs is with
 | nil=>cases t;cases e;exact .nil
 | cons x l ih =>
  cases t with | cons a b =>
  obtain⟨i,is',h1,e',rfl⟩:=n3 e
  cases dI h1
  cases a
  exact .cons _ _ (ih b e')
end
section
theorem dq{P G:Prop}(_:Prop)(e:P=G)(h:P):G:=e▸h
theorem dd{P G:Prop}(_:P→G):P→P:=id
noncomputable def dW(xs:List V)(P:Prop):Prop:=onB (Nat.ble xs.length 1000000) P
noncomputable def ms(P:Nat→Bool)(name:Str)(Q:V→St→Prop)(x:V)(σ:St):Prop:=onS (attrG P name σ x) fun y=>Q y σ
noncomputable def lI(c:Ctx)(T:Nat→Option Addr)(name:Str)(b:ME (List V))(d:Nat)(ρ:Env')(Q:V→St→Prop)(x:V)(σ:St):Prop:=onS (methG T name σ x) fun f=>b d ρ σ fun xs σ=>CallT c (.ref f) d (x::xs) σ Q
noncomputable def kq(c:Ctx)(T id:String)(b:ME (List V))(d:Nat)(ρ:Env')(Q:V→St→Prop)(x:V)(σ:St):Prop:=onB (tyP σ x==some T) (b d ρ σ fun xs σ=>CallT c (.builtin id) d (x::xs) σ Q)
noncomputable def ls(P:Nat→Bool)(name:Str)(v:V)(ρ:Env')(Q:Env'→St→Prop)(x:V)(σ:St):Prop:=∃ p,fe P σ x=some p∧Q ρ (σ.set p.1 (some (.ns (nput p.2 name v))))
theorem fj{σ:St}{i:Nat}{kvs:List (Str×V)}(h:σ[i]?=some (some (.ns kvs))):nsAt σ i=some kvs:=congrArg (fun o:Option (Option AObj)=>o.bind fun o=>o.bind fun a=>AObj.casesOn (motive:=fun _=>Option (List (Str×V))) a (fun _=>none) (fun _=>none) some) h
noncomputable def ju(Q:V→St→Prop)(x:V)(σ:St):Prop:=onS x.int? fun i=>Q (.int (-i)) σ
noncomputable def itQ(z:Bool)(a b:Prop):Prop:=if z then a else b
noncomputable def sK(b:Prop)(Q:V→St→Prop)(x:V)(σ:St)(z:Bool):Prop:=if z then b else Q x σ
section
variable{c:Ctx}{d:Nat}{ρ:Env'}{σ:St}
section
variable{Q:V→St→Prop}
theorem d7{i:Nat}{y:V}(h:ρ[i]?=some (some y))(q:Q y σ):aa i d ρ σ Q:=cg (jE h) q
theorem w5{P:Nat→Bool}{name:Str}{C i:Nat}{kvs:List (Str×V)}{y:V}(h1:P C=true)(h2:σ[i]?=some (some (.ns kvs)))(h3:kvs.lookup name=some y)(q:Q y σ):ms P name Q (.inst C i) σ :=
 cg (by unfold attrG;dsimp only;rw[h1,fj h2];exact h3) q
theorem qE{T:Nat→Option Addr}{name:Str}{b:ME (List V)}{C i:Nat}{f:Addr}{kvs:List (Str×V)}(h1:T C=some f)(h2:σ[i]?=some (some (.ns kvs)))(h3:kvs.lookup name=none)(q:b d ρ σ fun xs σ=>CallT c (.ref f) d (.inst C i::xs) σ Q):lI c T name b d ρ Q (.inst C i) σ :=
 cg (y:=f) (by unfold methG;dsimp only;rw[fj h2];dsimp only[Option.bind];rw[h3];exact h1) q
theorem dY{T id:String}{b:ME (List V)}{x:V}(h1:tyP σ x=some T)(q:b d ρ σ fun xs σ=>CallT c (.builtin id) d (x::xs) σ Q):kq c T id b d ρ Q x σ:=gW (by rw[h1];exact beq_self_eq_true _) q
theorem sM{a:ME V}(h:a d ρ σ fun x σ=>iE x fun y=>Q (.str y) σ):eM a d ρ σ Q:=h
end
theorem eU{Q:List V→St→Prop}(q:Q [] σ):ae d ρ σ Q:=q
theorem ec{xs:List V}{P:Prop}(h:xs.length≤1000000)(p:P):dW xs P:=gW (Nat.ble_eq_true_of_le h) p
section
variable{Q:Bool→St→Prop}
theorem bP{b:Bool}(h:Q b σ):aD b d ρ σ Q:=h
end
theorem eO{b:Bool}{p:Prop}(h:b=true)(k:p):onB b p:=gW h k
theorem i_T{z:Bool}{a b:Prop}(h:z=true)(p:a):itQ z a b:=by unfold itQ;rw[if_pos h];exact p
theorem i_F{z:Bool}{a b:Prop}(h:z=false)(p:b):itQ z a b:=by unfold itQ;rw[h];exact p
theorem bw{a b:Prop}(p:a):itQ true a b:=p
theorem ee{a b:Prop}(p:b):itQ false a b:=p
theorem cE{z:Bool}{a b:Prop}(p:z=true→a)(q:z=false→b):itQ z a b:=by
 cases z
 ·exact q rfl
 ·exact p rfl
section
variable{Q:Fl→Env'→St→Prop}
noncomputable def dh(b:MS)(d:Nat)(Q:Fl→Env'→St→Prop)(fl:Fl)(ρ:Env')(σ:St):Prop:=match fl with
 | .next=>b d ρ σ Q
 | fl=>Q fl ρ σ
theorem cC{a b:MS}(h:a d ρ σ (dh b d Q)):ag a b d ρ σ Q:=by
 unfold ag;exact h
theorem bU{b:MS}(h:b d ρ σ Q):dh b d Q .next ρ σ:=h
theorem df{t:MA}{a:ME V}(h:a d ρ σ fun x σ=>t d ρ x σ fun ρ σ=>Q .next ρ σ):aw t a d ρ σ Q:=h
end
theorem be{i:Nat}{x:V}{Q:Env'→St→Prop}(h:Q (ρ.set i (some x)) σ):nmA i d ρ x σ Q:=h
theorem eu{j:Nat}{i v:V}{kvs:List (V×V)}{k:St→Prop}(h:σ[j]?=some (some (.dict kvs)))(hk:aY kvs i)(q:k (σ.set j (some (.dict (dset kvs i v))))):fD σ (.ref j) i v k:=by
 show (lsAt σ j).elim _ _
 rw[oE h];exact cg (m8 h) ⟨hk,q⟩
theorem bI{P:Nat→Bool}{name:Str}{v:V}{Q:Env'→St→Prop}{C i:Nat}{kvs:List (Str×V)}(h1:P C=true)(h2:σ[i]?=some (some (.ns kvs)))(h3:kvs.length≤1000)(q:Q ρ (σ.set i (some (.ns (nput kvs name v))))):ls P name v ρ Q (.inst C i) σ :=
 ⟨(i,kvs),by unfold fe;dsimp only;rw[h1,fj h2];dsimp only[cond,Option.bind];rw[Nat.ble_eq_true_of_le h3],q⟩
variable{k:V→Prop}{i j:Int}
theorem dG(h1:i.natAbs < 2 ^ 64∨j.natAbs < 2 ^ 64)(h:k (.int (i * j))):opP σ .Mult (.int i) (.int j) k:=OpI.mul h1 h
theorem cX(h1:j≠0)(h2:j.natAbs < 1073741824)(h:k (.int (i.fdiv j))):opP σ .FloorDiv (.int i) (.int j) k:=OpI.fdiv h1 h2 h
theorem cm(h1:j≠0)(h:k (.int (i.fmod j))):opP σ .Mod (.int i) (.int j) k:=OpI.mod h1 h
theorem cK(h0:0≤j)(h1:j≤1000000)(h2:i.natAbs < 2 ^ 64)(h:k (.int (i ^ j.toNat))):opP σ .Pow (.int i) (.int j) k:=OpI.pow h0 h1 h2 h
theorem eg(h0:0≤j)(h1:j≤1000000)(h2:i.natAbs < 2 ^ 64)(h:k (.int (i * 2 ^ j.toNat))):opP σ .LShift (.int i) (.int j) k:=OpI.shl h0 h1 h2 h
theorem jN{l r:List V}(h0:l.length+r.length≤1000000)(h:k (.fl (l++r))):opP σ .Add (.fl l) (.fl r) k:=OpI.cat h0 h
variable{p:Bool→Prop}{x y:Str}
noncomputable def strL:List V→Option (List Str):=allO V.str?
theorem qY{l:List V}{xs:List Str}(e:strL l=some xs):V.pys l=some (xs.map PyData.str):=by
 induction l generalizing xs with
 | nil=>cases e;rfl
 | cons x l ih =>
  obtain⟨_,_,h1,e',rfl⟩:=n3 e
  cases xR h1
  exact iJ rfl (ih e')
theorem tV{xs:List Str}(h:xs.all PyData.strOk=true):PyData.canLayAll0 (xs.map PyData.str)=true∧PyData.depthAll (xs.map PyData.str)=0:=by
 induction xs with
 | nil=>exact⟨rfl,rfl⟩
 | cons x xs ih =>
  have h:=Bool.and_eq_true_iff.mp h
  exact⟨Bool.and_eq_true_iff.mpr ⟨h.1,(ih h.2).1⟩,congrArg (max 0) (ih h.2).2⟩
theorem k0{l:List PyData}(h:PyData.canLayAll0 l=true∧PyData.depthAll l=0):SeqAt.shaped (.list l)=true:=Bool.and_eq_true_iff.mpr ⟨h.1,decide_eq_true (show PyData.depthAll l+1≤64 by rw[h.2];decide)⟩
theorem lq{l:List PyData}(h:PyData.canLayAll0 l=true∧PyData.depthAll l=0):SeqAt.shaped (.tuple l)=true:=Bool.and_eq_true_iff.mpr ⟨h.1,decide_eq_true (show PyData.depthAll l+1≤64 by rw[h.2];decide)⟩
theorem zc{xs:List Str}(h:xs.all PyData.strOk=true):SeqAt.shaped (.list (xs.map PyData.str))=true:=k0 (tV h)
theorem gY{xs:List Int}:PyData.canLayAll0 (xs.map PyData.int)=true∧PyData.depthAll (xs.map PyData.int)=0:=by
 induction xs with
 | nil=>exact⟨rfl,rfl⟩
 | cons x xs ih=>exact⟨Bool.and_eq_true_iff.mpr ⟨rfl,ih.1⟩,congrArg (max 0) ih.2⟩
theorem d3{xs:List Int}:SeqAt.shaped (.list (xs.map PyData.int))=true:=k0 gY
theorem c8(xs:List Int):V.pys (xs.map V.int)=some (xs.map PyData.int):=by
 induction xs with
 | nil=>rfl
 | cons x xs ih=>exact iJ rfl ih
theorem eT:∀ (xs ys:List Int),PyData.eqvAll (xs.map PyData.int) (ys.map PyData.int)=(xs==ys)
 | [],[]=>rfl
 | [],_::_=>rfl
 | _::_,[]=>rfl
 | x::xs,y::ys=>by simp only[List.map_cons,PyData.eqvAll,PyData.eqv,eT xs ys];rfl
theorem eC{l:List V}{xs:List Str}(e:strL l=some xs)(hx:(x::xs).all PyData.strOk=true)(h:p (xs.any (·==x))):aF σ .In (.str x) (.tup l) p:=by
 refine CmpI.inT (dx:=.str x) (ds:=xs.map PyData.str) rfl (qY e) (zc hx) ?_
 rw[List.any_map];exact h
theorem vD{xs:List Int}(h:p (xs.any (·==i))):aF σ .In (.int i) (.tup (xs.map V.int)) p:=by
 refine CmpI.inT (dx:=.int i) (ds:=xs.map PyData.int) rfl (c8 xs) (d3 (xs:=i::xs)) ?_
 rw[List.any_map];exact h
theorem j0{xs ys:List Int}(h:p (xs==ys)):aF σ .Eq (.fl (xs.map V.int)) (.fl (ys.map V.int)) p:=by
 refine CmpI.eq (dx:=.list (xs.map PyData.int)) (dy:=.list (ys.map PyData.int)) (eP (c8 _)) (eP (c8 _)) d3 d3 ?_
 show p (PyData.eqvAll _ _);rw[eT];exact h
theorem gI{xs ys:List Int}(h:p (xs != ys)):aF σ .NotEq (.fl (xs.map V.int)) (.fl (ys.map V.int)) p:=by
 refine CmpI.ne (dx:=.list (xs.map PyData.int)) (dy:=.list (ys.map PyData.int)) (eP (c8 _)) (eP (c8 _)) d3 d3 ?_
 show p (!PyData.eqvAll _ _);rw[eT];exact h
theorem lu{σ:St}{op:CmpOp}{x y:V}{k:Bool→Prop}(e:cmpG op x y=none)(h:CmpI σ k op x y):aF σ op x y k:=by unfold aF;rw[e];exact h
theorem eE{σ:St}{n:Nat}{x:V}{kvs:List (V×V)}{p:Bool→Prop}(h:σ[n]?=some (some (.dict kvs)))(hk:aY kvs x)(q:p (!kvs.any fun u=>V.beq u.1 x)):aF σ .NotIn x (.ref n) p:=lu (by cases x<;>rfl) (.ninD h hk q)
theorem zb{σ:St}{n:Nat}{x:V}{kvs:List (V×V)}{p:Bool→Prop}(h:σ[n]?=some (some (.dict kvs)))(hk:aY kvs x)(q:p (kvs.any fun u=>V.beq u.1 x)):aF σ .In x (.ref n) p:=lu (by cases x<;>rfl) (.inD h hk q)
theorem dO{b:Bool}(h:p b):bp σ (.bool b) p:=h
theorem aS{n:Nat}{l:List V}{v:V}(h:σ[n]?=some (some (.list l)))(h0:0≤i)(h1:i < 4000000000)(hy:l[i.toNat]?=some v)(q:k v):de σ (.ref n) (.int i) k:=by
 show (lsAt σ n).elim _ _
 rw[hZ h];show bA l i k;unfold bA;rw[if_pos h0];exact⟨h1,v,hy,q⟩
theorem ef{n:Nat}{kvs:List (V×V)}{key v:V}(h:σ[n]?=some (some (.dict kvs)))(hk:aY kvs key)(hy:dget kvs key=some v)(q:k v):de σ (.ref n) key k:=by
 show (lsAt σ n).elim _ _
 rw[oE h];exact cg (m8 h) ⟨hk,v,hy,q⟩
theorem bn{l:List V}{v:V}(h0:0≤i)(h1:i < 4000000000)(hy:l[i.toNat]?=some v)(q:k v):de σ (.fl l) (.int i) k:=by
 show bA l i k;unfold bA;rw[if_pos h0];exact⟨h1,v,hy,q⟩
theorem aL{l:List V}{v:V}(h0:0≤i)(h1:i < 4000000000)(hy:l[i.toNat]?=some v)(q:k v):de σ (.tup l) (.int i) k:=by
 show bA l i k;unfold bA;rw[if_pos h0];exact⟨h1,v,hy,q⟩
end
inductive Stp:Prop→Prop→Prop
 | cC {d:Nat} {ρ:Env'} {σ:St} {Q:Fl→Env'→St→Prop} {a b:MS}:Stp (a d ρ σ (dh b d Q)) (ag a b d ρ σ Q)
 | bU {d:Nat} {ρ:Env'} {σ:St} {Q:Fl→Env'→St→Prop} {b:MS}:Stp (b d ρ σ Q) (dh b d Q .next ρ σ)
 | i_seqR {d:Nat} {ρ:Env'} {σ:St} {Q:Fl→Env'→St→Prop} {b:MS} {x:V}:Stp (Q (.ret x) ρ σ) (dh b d Q (.ret x) ρ σ)
 | i_skip {d:Nat} {ρ:Env'} {σ:St} {Q:Fl→Env'→St→Prop}:Stp (Q .next ρ σ) (ah d ρ σ Q)
 | df {d:Nat} {ρ:Env'} {σ:St} {Q:Fl→Env'→St→Prop} {t:MA} {a:ME V}:Stp (a d ρ σ fun x σ=>t d ρ x σ fun ρ σ=>Q .next ρ σ) (aw t a d ρ σ Q)
 | be {d:Nat} {ρ:Env'} {σ:St} {i:Nat} {x:V} {Q:Env'→St→Prop}:Stp (Q (ρ.set i (some x)) σ) (nmA i d ρ x σ Q)
 | i_cons {d:Nat} {ρ:Env'} {σ:St} {Q:List V→St→Prop} {a:ME V} {b:ME (List V)}:Stp (a d ρ σ fun x σ=>b d ρ σ fun xs σ=>Q (x::xs) σ) (ab a b d ρ σ Q)
 | eU {d:Nat} {ρ:Env'} {σ:St} {Q:List V→St→Prop}:Stp (Q [] σ) (ae d ρ σ Q)
 | i_glo {d:Nat} {ρ:Env'} {σ:St} {Q:V→St→Prop} {y:V}:Stp (Q y σ) (bg y d ρ σ Q)
 | i_int {d:Nat} {ρ:Env'} {σ:St} {Q:V→St→Prop} {i:Int}:Stp (Q (.int i) σ) (ak i d ρ σ Q)
 | i_str {d:Nat} {ρ:Env'} {σ:St} {Q:V→St→Prop} {i:Str}:Stp (Q (.str i) σ) (al i d ρ σ Q)
 | i_bool {d:Nat} {ρ:Env'} {σ:St} {Q:V→St→Prop} {i:Bool}:Stp (Q (.bool i) σ) (bf i d ρ σ Q)
 | i_none {d:Nat} {ρ:Env'} {σ:St} {Q:V→St→Prop}:Stp (Q .none σ) (dm d ρ σ Q)
 | i_tup {d:Nat} {ρ:Env'} {σ:St} {Q:V→St→Prop} {a:ME (List V)}:Stp (a d ρ σ fun xs σ=>dW xs (Q (.tup xs) σ)) (aB a d ρ σ Q)
 | i_fl {d:Nat} {ρ:Env'} {σ:St} {Q:V→St→Prop} {a:ME (List V)}:Stp (a d ρ σ fun xs σ=>dW xs (Q (.fl xs) σ)) (flM a d ρ σ Q)
 | i_tl {d:Nat} {ρ:Env'} {σ:St} {Q:V→St→Prop} {a:ME (List V)}:Stp (a d ρ σ fun xs σ=>dW xs (Q (.ref σ.length) (σ++[some (.list xs)]))) (tlM a d ρ σ Q)
 | i_dict {d:Nat} {ρ:Env'} {σ:St} {Q:V→St→Prop}:Stp (Q (.ref σ.length) (σ++[some (.dict [])])) (cY d ρ σ Q)
 | i_attr {d:Nat} {ρ:Env'} {σ:St} {Q:V→St→Prop} {P:Nat→Bool} {name:Str} {a:ME V}:Stp (a d ρ σ (ms P name Q)) (am P name a d ρ σ Q)
 | i_meth {c:Ctx} {d:Nat} {ρ:Env'} {σ:St} {Q:V→St→Prop} {T:Nat→Option Addr} {name:Str} {a:ME V} {b:ME (List V)}:Stp (a d ρ σ (lI c T name b d ρ Q)) (ai c T name a b d ρ σ Q)
 | i_bmeth {c:Ctx} {d:Nat} {ρ:Env'} {σ:St} {Q:V→St→Prop} {T id:String} {a:ME V} {b:ME (List V)}:Stp (a d ρ σ (kq c T id b d ρ Q)) (aW c T id a b d ρ σ Q)
 | i_call {c:Ctx} {d:Nat} {ρ:Env'} {σ:St} {Q:V→St→Prop} {f:Value} {b:ME (List V)}:Stp (b d ρ σ fun xs σ=>CallT c f d xs σ Q) (ay c f b d ρ σ Q)
 | i_bin {d:Nat} {ρ:Env'} {σ:St} {Q:V→St→Prop} {op:Operator} {a b:ME V}:Stp (a d ρ σ fun x σ=>b d ρ σ fun y σ=>opP σ op x y (Q · σ)) (au op a b d ρ σ Q)
 | i_neg {d:Nat} {ρ:Env'} {σ:St} {Q:V→St→Prop} {a:ME V}:Stp (a d ρ σ (ju Q)) (bW a d ρ σ Q)
 | i_negC {σ:St} {Q:V→St→Prop} {i:Int}:Stp (Q (.int (-i)) σ) (ju Q (.int i) σ)
 | i_not {d:Nat} {ρ:Env'} {σ:St} {Q:V→St→Prop} {a:ME V}:Stp (a d ρ σ fun x σ=>bp σ x fun b=>Q (.bool (!b)) σ) (fG a d ρ σ Q)
 | i_cmpv {d:Nat} {ρ:Env'} {σ:St} {Q:V→St→Prop} {op:CmpOp} {a b:ME V}:Stp (a d ρ σ fun x σ=>b d ρ σ fun y σ=>aF σ op x y fun b=>Q (.bool b) σ) (bl op a b d ρ σ Q)
 | i_sub {d:Nat} {ρ:Env'} {σ:St} {Q:V→St→Prop} {a b:ME V}:Stp (a d ρ σ fun x σ=>b d ρ σ fun i σ=>de σ x i (Q · σ)) (aq a b d ρ σ Q)
 | i_iteV {d:Nat} {ρ:Env'} {σ:St} {Q:V→St→Prop} {t:ME Bool} {a b:ME V}:Stp (t d ρ σ fun z σ=>itQ z (a d ρ σ Q) (b d ρ σ Q)) (aR t a b d ρ σ Q)
 | i_andv {d:Nat} {ρ:Env'} {σ:St} {Q:V→St→Prop} {a b:ME V}:Stp (a d ρ σ fun x σ=>bp σ x fun z=>sK (b d ρ σ Q) Q x σ z) (iu a b d ρ σ Q)
 | i_slc {d:Nat} {ρ:Env'} {σ:St} {Q:V→St→Prop} {a:ME V} {lo hi:ME (Option Int)}:Stp (a d ρ σ fun x σ=>lo d ρ σ fun i σ=>hi d ρ σ fun j σ=>eY σ x i j (Q · σ)) (eK a lo hi d ρ σ Q)
 | i_tru {d:Nat} {ρ:Env'} {σ:St} {Q:Bool→St→Prop} {a:ME V}:Stp (a d ρ σ fun x σ=>bp σ x (Q · σ)) (aH a d ρ σ Q)
 | i_nott {d:Nat} {ρ:Env'} {σ:St} {Q:Bool→St→Prop} {a:ME Bool}:Stp (a d ρ σ fun b σ=>Q (!b) σ) (dg a d ρ σ Q)
 | i_cmp {d:Nat} {ρ:Env'} {σ:St} {Q:Bool→St→Prop} {op:CmpOp} {a b:ME V}:Stp (a d ρ σ fun x σ=>b d ρ σ fun y σ=>aF σ op x y (Q · σ)) (an op a b d ρ σ Q)
 | i_and {d:Nat} {ρ:Env'} {σ:St} {Q:Bool→St→Prop} {a b:ME Bool}:Stp (a d ρ σ fun z σ=>itQ z (b d ρ σ Q) (Q false σ)) (aE a b d ρ σ Q)
 | i_or {d:Nat} {ρ:Env'} {σ:St} {Q:Bool→St→Prop} {a b:ME Bool}:Stp (a d ρ σ fun z σ=>itQ z (Q true σ) (b d ρ σ Q)) (orM a b d ρ σ Q)
 | bP {d:Nat} {ρ:Env'} {σ:St} {Q:Bool→St→Prop} {b:Bool}:Stp (Q b σ) (aD b d ρ σ Q)
 | i_iteT {d:Nat} {ρ:Env'} {σ:St} {Q:Bool→St→Prop} {t a b:ME Bool}:Stp (t d ρ σ fun z σ=>itQ z (a d ρ σ Q) (b d ρ σ Q)) (aR t a b d ρ σ Q)
 | i_ret {d:Nat} {ρ:Env'} {σ:St} {Q:Fl→Env'→St→Prop} {a:ME V}:Stp (a d ρ σ fun x σ=>Q (.ret x) ρ σ) (ao a d ρ σ Q)
 | i_expr {d:Nat} {ρ:Env'} {σ:St} {Q:Fl→Env'→St→Prop} {a:ME V}:Stp (a d ρ σ fun _ σ=>Q .next ρ σ) (aM a d ρ σ Q)
 | i_if {d:Nat} {ρ:Env'} {σ:St} {Q:Fl→Env'→St→Prop} {t:ME Bool} {a b:MS}:Stp (t d ρ σ fun z σ=>itQ z (a d ρ σ Q) (b d ρ σ Q)) (ifM t a b d ρ σ Q)
 | i_subA {d:Nat} {ρ:Env'} {σ:St} {a b:ME V} {v:V} {Q:Env'→St→Prop}:Stp (a d ρ σ fun x σ=>b d ρ σ fun i σ=>fD σ x i v fun σ=>Q ρ σ) (ci a b d ρ v σ Q)
 | i_attrA {d:Nat} {ρ:Env'} {σ:St} {P:Nat→Bool} {name:Str} {a:ME V} {v:V} {Q:Env'→St→Prop}:Stp (a d ρ σ (ls P name v ρ Q)) (aT P name a d ρ v σ Q)
 | i_retQ {ρ:Env'} {σ:St} {x:V} {Q:V→St→Prop}:Stp (Q x σ) (bx Q (.ret x) ρ σ)
 | i_retQn {ρ:Env'} {σ:St} {Q:V→St→Prop}:Stp (Q .none σ) (bx Q .next ρ σ)
 | bw {a b:Prop}:Stp (a) (itQ true a b)
 | ee {a b:Prop}:Stp (b) (itQ false a b)
 | dO {σ:St} {p:Bool→Prop} {b:Bool}:Stp (p b) (bp σ (.bool b) p)
 | t_int {σ:St} {i:Int} {p:Bool→Prop}:Stp (p (i != 0)) (bp σ (.int i) p)
 | i_names {d:Nat} {ρ:Env'} {σ:St} {Q:Fl→Env'→St→Prop} {is:List Nat} {a:ME (List V)}:Stp (a d ρ σ fun xs σ=>dW xs (onB (xs.length==is.length) (Q .next (setAll is xs ρ) σ))) (aQ is a d ρ σ Q)
 | o_add {σ:St} {k:V→Prop} {i:Int} {j:Int}:Stp (k (.int (i+j))) (opP σ .Add (.int i) (.int j) k)
 | o_sub {σ:St} {k:V→Prop} {i:Int} {j:Int}:Stp (k (.int (i - j))) (opP σ .Sub (.int i) (.int j) k)
 | o_and {σ:St} {k:V→Prop} {i:Int} {j:Int}:Stp (k (.int (Builtin.bitAnd i j))) (opP σ .BitAnd (.int i) (.int j) k)
 | q_eqI {σ:St} {i:Int} {j:Int} {p:Bool→Prop}:Stp (p (i==j)) (aF σ .Eq (.int i) (.int j) p)
 | q_neI {σ:St} {i:Int} {j:Int} {p:Bool→Prop}:Stp (p (i != j)) (aF σ .NotEq (.int i) (.int j) p)
 | q_ltI {σ:St} {i:Int} {j:Int} {p:Bool→Prop}:Stp (p (decide (i < j))) (aF σ .Lt (.int i) (.int j) p)
 | q_leI {σ:St} {i:Int} {j:Int} {p:Bool→Prop}:Stp (p (decide (i≤j))) (aF σ .LtE (.int i) (.int j) p)
 | q_gtI {σ:St} {i:Int} {j:Int} {p:Bool→Prop}:Stp (p (decide (i > j))) (aF σ .Gt (.int i) (.int j) p)
 | q_geI {σ:St} {i:Int} {j:Int} {p:Bool→Prop}:Stp (p (decide (i≥j))) (aF σ .GtE (.int i) (.int j) p)
 | q_eqS {σ:St} {p:Bool→Prop} {x:Str} {y:Str}:Stp (p (x==y)) (aF σ .Eq (.str x) (.str y) p)
 | q_neS {σ:St} {p:Bool→Prop} {x:Str} {y:Str}:Stp (p (x != y)) (aF σ .NotEq (.str x) (.str y) p)
 | q_eqB {σ:St} {p:Bool→Prop} {a b:Bool}:Stp (p (a==b)) (aF σ .Eq (.bool a) (.bool b) p)
theorem stp{R G:Prop}(h:Stp R G):R→G:=by induction h<;>exact id
end
section
section
variable{c:Ctx}{d:Nat}{σ:St}{Q:V→St→Prop}
theorem q6{i:Nat}{y:V}{l:List V}(e:σ[i]?=some (some (.list (l++[y]))))(hl:l.length < 1000000)(q:Q y (σ.set i (some (.list l)))):CallT c (.builtin "list.pop") d [.ref i] σ Q:=by
 intro A X μ s vs hA R ts
 obtain⟨v,rfl,t⟩:=ts.one
 obtain⟨rfl,hi⟩:=t.inv
 obtain⟨items,k,g,tl⟩:=(R.obj i _ e).inv
 have el:=tl.length
 simp only[List.length_append,List.length_cons,List.length_nil] at el
 obtain⟨v,hv,tv⟩:=tl.get (i:=l.length) (y:=y) (by simp)
 have hne:items≠[]:=fun h=>by rw[h] at el;simp at el
 have hy:items.toArray[items.toArray.size - 1]?=some v:=by
  have:items.toArray.size - 1=l.length:=by simp only[List.size_toArray];lia
  rw[this,List.getElem?_toArray];exact hv
 refine Copied.pop_at (D:=μ i) (its:=items.toArray) (n:=k) (y:=v) g hy (fun h' hs g'=>?_) (bu (by simp only[List.size_toArray];lia))
 have tt:VRs s.heap (Sx X σ μ) μ σ.length items.dropLast l:=by
  have:=tl.take l.length
  rw[List.take_left] at this
  rwa [List.dropLast_eq_take,el]
 have hl'':h'.get? (μ i)=some (listO items.dropLast (k+1)):=by rw[g'];simp[listO]
 have r:=R.upd (p:=.list l) e hs ⟨_,hl''⟩ fun ev=>.list hl'' (tt.mono ev)
 exact⟨_,_,μ,q,r.1,tv.mono r.2,r.2,rfl,rfl⟩
end
noncomputable def rvO(t:Addr)(i:Int):Obj:={ cls:=.type "reversed",dict:=none,data:=.fields #[.ref t,rawInt i],slots:=#[] }
theorem slot_rv_init:Slot "reversed" "__init__" "object.__init__" :=
 .of (owner:="object") (n:="__init__") (by rw[typeLookup_type,builtinLookup_eq_fast];kernel_rfl) (by decide +kernel) (by decide +kernel) (by decide +kernel)
  (by first | exact .inl (by decide +kernel) | exact .inr (by decide +kernel)) (by rw[isSubtype_type];kernel_rfl)
theorem called_rv:TypeCalled "reversed" "reversed.__new__" "object.__init__" :=
 ⟨by decide +kernel,by decide +kernel,⟨_,_,F.mro_reversed⟩,madeBy_type F.mro_reversed F.lookup_reversed_new (by decide +kernel),by decide +kernel,F.sub_reversed_self,slot_rv_init⟩
theorem qC:typeLookup (.type "tuple") "__reversed__"=pure none:=by rw[typeLookup_type,builtinLookup_eq_fast];kernel_rfl
theorem rW:isSubtype (.type "tuple") (.type "dict")=pure false:=by rw[isSubtype_type];kernel_rfl
section
variable{prog:Program}{w:World}{A:Around}{E:Value→Shared→Prop}{s:Shared}
theorem yI{t:Addr}{items:List Value}{Q₁:Value→Shared→Prop}(ht:s.heap.get? t=some (tupO items))(hn:items.length≤1000000)
  (h:∀ tk,Q₁ (.ref s.heap.objs.size) { s with heap:=s.heap.push (rvO t ((items.length:Int) - 1)),toks:=tk }) :
  codeAny (model prog w) A (.call (.builtin "reversed.__new__") ⟨[.type "reversed",.ref t],[]⟩) (wants Q₁ E) s:=by
 refine codeAny_of_tree ?_
 show wpAny _ A.in1 (do checkBuiltinCall "reversed.__new__" ⟨[.type "reversed",.ref t],[]⟩;again (.builtin "reversed.__new__" ⟨[.type "reversed",.ref t],[]⟩)) _ _ s
 refine wpAny_bind (wpAny_of_eq (F.newCall_reversed_1 _) (wpAny_pure ⟨plainId_quiet F.plain_reversed_new _,codeAny_builtin F.entry_reversed_new ?_⟩))
 rw[Around.under_plainId F.plain_reversed_new _]
 unfold Builtin.«reversed.__new__»
 refine wpAny_bind (wpAny_of_eq (newClass_reversed _) ?_)
 dsimp only
 refine wpAny_bind (wpAny_of_eq (a:=()) (by first | rfl | kernel_rfl) ?_)
 refine wpAny_bind (wpAny_of_eq (a:=()) (by first | rfl | kernel_rfl) ?_)
 have hT:s.TypeIs (.ref t) "tuple":=⟨_,ht,rfl⟩
 refine wpAny_bind (wpAny_specialOf hT qC ?_)
 show wpAny _ _ (_ >>= _) _ _ _
 refine wpAny_bind ?_
 show wpAny _ _ (isInstance (.ref t) (.type "dict") >>= _) _ _ _
 refine wpAny_bind (wpAny_isInstance hT rW ?_)
 rw[if_neg (by decide)]
 refine wpAny_bind (wpAny_specialOf hT PySem.F.slot_tuple_getitem.lookup ?_)
 dsimp only
 rw[if_pos (by decide +kernel)]
 refine wpAny_pure ?_
 rw[if_neg (by decide)]
 refine wpAny_bind (PyProof.Rows.len_tuple ⟨_,ht,rfl,0,rfl⟩ (by simp only[List.size_toArray];lia) ?_)
 refine wpAny_bind (wpAny_of_eq (a:=some (items.length:Int)) (by simp only[List.size_toArray];rfl) ?_)
 dsimp only
 unfold Builtin.SmallTypes.newRecord
 refine wpAny_bind (wpAny_newObj_type ?_)
 exact wpAny_pure (h _)
theorem qK{t:Addr}{items:List Value}{Q:Value→Shared→Prop}(ht:s.heap.get? t=some (tupO items))(hn:items.length≤1000000)
  (h:∀ tk,Q (.ref s.heap.objs.size) { s with heap:=s.heap.push (rvO t ((items.length:Int) - 1)),toks:=tk }):wpAny (model prog w) A (call (.type "reversed") [.ref t]) Q E s:=by
 refine callType_codes (Q₁:=fun obj s₁=>obj=.ref s.heap.objs.size∧∃ tk,s₁={ s with heap:=s.heap.push (rvO t ((items.length:Int) - 1)),toks:=tk }) called_rv (F.typeCall_reversed_1 _) F.entry_object_init (yI ht hn fun tk=>⟨rfl,tk,rfl⟩) ?_
 rintro obj s₁ ⟨rfl,tk,rfl⟩
 refine⟨⟨_,Heap.get?_push_size _ rfl,rfl⟩,F.args_object_init_2 _ _,?_⟩
 exact object_init_meets slot_rv_init.lookup called_rv.made (by decide) prog w _ _ _ ⟨⟨_,Heap.get?_push_size _ rfl,rfl⟩,rfl,h tk⟩
theorem slot_rv_next:Slot "reversed" "__next__" "reversed.__next__" :=
 .of (owner:="reversed") (n:="__next__") (by rw[typeLookup_type,builtinLookup_eq_fast];kernel_rfl) (by decide +kernel) (by decide +kernel) (by decide +kernel)
  (by first | exact .inl (by decide +kernel) | exact .inr (by decide +kernel)) (by rw[isSubtype_type];kernel_rfl)
theorem lH:entryFor table "reversed.__next__"=some Builtin.«reversed.__next__»:=entryFor_of_tree (by kernel_rfl)
theorem m1:Manifest.owners.lookup (String.ofList ['d','e','s','r','e','v','e','r'].reverse)=some Manifest.sig_reversed:=by kernel_rfl
theorem ly(a:Value):argsOk "reversed.__next__" ⟨[a],[]⟩:=by
 unfold argsOk;rw[signature?_of (id:="reversed.__next__") (n:=['_','_','t','x','e','n','_','_']) (o:=['d','e','s','r','e','v','e','r']) (by kernel_rfl) m1];kernel_rfl
theorem nx:Slot "reversed" "__iter__" "reversed.__iter__" :=
 .of (owner:="reversed") (n:="__iter__") (by rw[typeLookup_type,builtinLookup_eq_fast];kernel_rfl) (by decide +kernel) (by decide +kernel) (by decide +kernel)
  (by first | exact .inl (by decide +kernel) | exact .inr (by decide +kernel)) (by rw[isSubtype_type];kernel_rfl)
theorem rU(a:Value):argsOk "reversed.__iter__" ⟨[a],[]⟩:=by
 unfold argsOk;rw[signature?_of (id:="reversed.__iter__") (n:=['_','_','r','e','t','i','_','_']) (o:=['d','e','s','r','e','v','e','r']) (by kernel_rfl) m1];kernel_rfl
theorem qz:entryFor table "reversed.__iter__"=some Builtin.«dict_keyiterator.__iter__» :=
 entryFor_alias (id':="dict_keyiterator.__iter__") (by kernel_rfl) (by first | rfl | decide +kernel | (unfold String.splitOn;simp +decide [String.splitOnAux])) (by decide +kernel) (by kernel_rfl)
theorem ud{it t:Addr}{i:Nat}{items:List Value}{x:Value}{Q:Option Value→Shared→Prop}(hit:s.heap.get? it=some (rvO t (i:Int)))(ht:s.heap.get? t=some (tupO items))(hn:items.length≤1000000)(hx:items[i]?=some x)
  (hQ:∀ h' tk,h'.get? it=some (rvO t ((i:Int) - 1))→Heap.SameBut it s.heap h'→Q (some x) { s with heap:=h',toks:=tk }):wpAny (model prog w) A (pyNext (.ref it)) Q E s:=by
 have hT:s.TypeIs (.ref it) "reversed":=⟨_,hit,rfl⟩
 have hT2:s.TypeIs (.ref t) "tuple":=⟨_,ht,rfl⟩
 unfold pyNext
 refine wpAny_bind (wpAny_attempt (wpAny_callSpecial?_slot (name:=Str.ofString "__next__") hT slot_rv_next
  (wpAny_call_entry slot_rv_next hT lH ?_ (ly _))))
 unfold Builtin.«reversed.__next__»
 refine wpAny_bind (wpAny_of_eq (a:=(Value.ref it,[])) rfl ?_)
 dsimp only
 refine wpAny_bind (wpAny_field hit rfl (x:=.ref t) rfl ?_)
 refine wpAny_bind (wpAny_field hit rfl (x:=rawInt (i:Int)) rfl ?_)
 show wpAny _ _ (if (i:Int) < 0 then _ else _) _ _ s
 rw[if_neg (by lia)]
 refine wpAny_bind (wpAny_specialOf hT2 PySem.F.slot_tuple_getitem.lookup ?_)
 rw[if_neg (by decide)]
 refine wpAny_bind (wpAny_mkInt ?_)
 refine wpAny_bind (wpAny_attempt (PyProof.Rows.getItem_tuple (j:=i) ⟨_,ht,rfl,0,rfl⟩ (by lia) (by have:=(List.getElem?_eq_some_iff.mp hx).1;lia) (by simp[seqIndex?];have:=(List.getElem?_eq_some_iff.mp hx).1;lia) (by simpa using hx) ?_))
 dsimp only
 refine wpAny_bind (wpAny_field hit rfl (x:=rawInt (i:Int)) rfl ?_)
 show wpAny _ _ (setField (.ref it) 1 (rawInt ((i:Int) - 1)) >>= _) _ _ _
 refine wpAny_bind (wpAny_setField_rec hit (by simp) fun h1 e1 s1=>?_)
 exact wpAny_pure ⟨x,rfl,wpAny_pure (hQ h1 _ e1 s1)⟩
theorem uF{it t:Addr}{Q:Option Value→Shared→Prop}(hh:A.handled=none)(hit:s.heap.get? it=some (rvO t (-1)))
  (hQ:∀ h',(∀ b o,b≠it→s.heap.get? b=some o→h'.get? b=some o)→Q none { s with heap:=h' }):wpAny (model prog w) A (pyNext (.ref it)) Q E s:=by
 have hT:s.TypeIs (.ref it) "reversed":=⟨_,hit,rfl⟩
 unfold pyNext
 refine wpAny_bind (wpAny_attempt (wpAny_callSpecial?_slot (name:=Str.ofString "__next__") hT slot_rv_next
  (wpAny_call_entry slot_rv_next hT lH ?_ (ly _))))
 unfold Builtin.«reversed.__next__»
 refine wpAny_bind (wpAny_of_eq (a:=(Value.ref it,[])) rfl ?_)
 dsimp only
 refine wpAny_bind (wpAny_field hit rfl (x:=.ref t) rfl ?_)
 refine wpAny_bind (wpAny_field hit rfl (x:=rawInt (-1)) rfl ?_)
 show wpAny _ _ (if (-1:Int) < 0 then _ else _) _ _ s
 rw[if_pos (by decide)]
 refine wpAny_bind (wpAny_rule ?_)
 refine wpAny_bind ?_
 show wpAny _ _ (setField (.ref it) 1 (rawInt (-1)) >>= fun _=>setField (.ref it) 0 .none) _ _ _
 refine wpAny_bind (wpAny_setField_rec hit (by simp) fun h1 e1 s1=>?_)
 refine wpAny_setField_rec e1 (by simp) fun h2 e2 s2=>?_
 refine wpAny_bind ?_
 refine qd hh fun h3 e k he=>?_
 obtain⟨o,ho,hc⟩:=he
 refine wpAny_bind (wpAny_isInstance (T:="StopIteration") (b:=true) ⟨o,ho,hc⟩ isSubtype_stop ?_)
 exact wpAny_pure (hQ _ fun b o hb e=>k _ _ ((s2.2 _ hb).trans ((s1.2 _ hb).trans e)))
theorem lW{it t:Addr}{i:Int}{Q:Value→Shared→Prop}(hit:s.heap.get? it=some (rvO t i))(h:Q (.ref it) s):wpAny (model prog w) A (pyIter (.ref it)) Q E s:=by
 have hT:s.TypeIs (.ref it) "reversed":=⟨_,hit,rfl⟩
 refine wpAny_pyIter_slot hT nx (wpAny_call_entry nx hT qz ?_ (rU _))
 show wpAny _ _ (ret (.ref it)) _ _ s
 exact wpAny_pure ⟨_,rfl,"reversed",_,hT,slot_rv_next.lookup,h⟩
end
noncomputable def V.tup?(y:V):Option (List V):=V.casesOn (motive_1:=fun _=>Option (List V)) y Option.none (fun _=>Option.none) (fun _=>Option.none) (fun _=>Option.none) some (fun _=>Option.none) (fun _ _ _=>Option.none) (fun _ _=>Option.none) (fun _=>Option.none) (fun _=>Option.none)
theorem tw{x:V}{l:List V}:x.tup?=some l→x=.tup l:=by cases x<;>intro h<;>cases h;rfl
noncomputable def tp1(xs:List V):Option (List V):=List.casesOn (motive:=fun _=>Option (List V)) xs none fun x r=>List.casesOn (motive:=fun _=>Option (List V)) r x.tup? fun _ _=>none
theorem sI{xs:List V}{l:List V}(h:tp1 xs=some l):xs=[.tup l]:=by
 cases xs with
 | nil=>cases h
 | cons x r=>cases r with
  | nil=>rw[tw h]
  | cons=>cases h
noncomputable def fX(b:ME (List V)):ME (List V):=fun d ρ σ Q=>b d ρ σ fun xs σ=>onS (tp1 xs) fun l=>l.length≤1000000∧Q l.reverse σ
theorem yK{c:Ctx}{Γ:Gm}{args:List Expr}{p pos:Pos}{tg:Expr}{b:ME (List V)}(ok:c.Ok)(hf:c.mg "reversed"=none∧c.mb "reversed"=some (.type "reversed"))(hb:SimEs c Γ args b)(hx:Γ.lookup "reversed"=some none)
  (hp:∀ env,(backTo pos (starEach args env)).any (·.1)=false):SimI c Γ (.Call (.Name "reversed" p) args [] pos) tg (fX b):=by
 intro A d X bs env F ρ σ μ s Q hA R E h
 refine wpAny_Call_NameR (wpAny_Name (eX ok R E hx (.inr hf) ?_) (by decide +kernel))
 refine vN (first:=[]) ok rfl hb (hp env) hA R E h fun vs xs σ₁ μ₁ s₁ q R₁ t₁ e₁ g₁ o₁=>?_
 replace q:=br q;obtain⟨l,e,hn,q⟩:=q
 cases sI e
 obtain⟨v,rfl,t⟩:=t₁.one
 obtain⟨a,items,rfl,g,f,tl⟩:=t.inv
 have el:=tl.length
 refine qK g (by lia) fun tk=>?_
 let it:Addr:=s₁.heap.objs.size
 have hne:a≠it:=Nat.ne_of_lt (Heap.lt_size g)
 let W:Nat→Prop:=fun b=>b=it
 have hWn:∀ b,W b→s₁.heap.get? b=none:=fun b hb=>by cases hb;exact bc _
 have hit0:(s₁.heap.push (rvO a ((items.length:Int) - 1))).get? it=some (rvO a ((items.length:Int) - 1)):=Heap.get?_push_size _ rfl
 obtain⟨R',e'⟩:=R₁.opens (X':=fun b=>X b∨W b) (h':=s₁.heap.push (rvO a ((items.length:Int) - 1))) (fun _ _ e=>Heap.get?_push_of_some _ e) fun b hb=>hb.imp id fun hb=>⟨hWn b hb,by cases hb;exact⟨_,hit0⟩⟩
 have hfI:∀ b,W b→¬ Tr σ₁ μ₁ b∧¬ X b:=fun b hb=>by
  have:=R₁.fresh (hWn b hb)
  exact⟨fun z=>this (.inl z),fun z=>this (.inr z)⟩
 have tt:=tl.mono e'
 have hnone:∀ b,s₁.heap.get? b=none→s.heap.get? b=none:=fun b hb=>by
  cases z:s.heap.get? b with
  | none=>rfl
  | some o=>obtain⟨o',e⟩:=e₁.live b o z;rw[hb] at e;cases e
 have hA1:A.handled=none:=hA.handled
 refine lW hit0 ⟨l.reverse,σ₁,μ₁,it,[it,a],[it],(fun i h=>i≤items.length∧h.get? it=some (rvO a ((items.length:Int) - 1 - i))∧h.get? a=some (tupO items)),W,q,rfl,R',?_,⟨Nat.zero_le _,by rw[hit0];simp,Heap.get?_push_of_some _ g⟩,e₁.trans e',fun b hb=>hnone b (hWn b hb),fun b hb=>by simpa [W] using hb,fun b hb=>?_,g₁,o₁⟩
 ·refine⟨fun b hb=>by simp at hb;simp[hb],fun i h h' st k=>⟨st.1,k it (by simp) _ st.2.1,k a (by simp) _ st.2.2⟩,fun i h st b hb=>?_,fun i x s P' E' hx st hP=>?_,fun s P' E' st hP=>?_,fun i s Q' E' st hq=>lW st.2.1 hq⟩
  ·simp only[List.mem_cons,List.not_mem_nil,or_false] at hb
   rcases hb with rfl | rfl
   ·exact⟨_,st.2.1⟩
   ·exact⟨_,st.2.2⟩
  ·obtain⟨h0,h1,h2⟩:=st
   have hi:i < l.length:=by simpa using (List.getElem?_eq_some_iff.mp hx).1
   rw[List.getElem?_reverse hi] at hx
   obtain⟨v,hv,tv⟩:=tt.get hx
   have e:(items.length:Int) - 1 - i=((l.length - 1 - i:Nat):Int):=by lia
   rw[e] at h1
   refine ud h1 h2 (by lia) hv fun h' tk hit' hs'=>⟨v,rfl,?_⟩
   refine jR (s:={ s with heap:=h',toks:=tk }) hit' rfl (by decide +kernel) ?_
   refine hP v h' tk (.old tv) ⟨by lia,?_,(hs'.2 _ hne).trans h2⟩ fun b o hb y=>(hs'.2 _ (fun z=>hb (by simp[z]))).trans y
   rw[hit']
   congr 2;lia
  ·obtain⟨h0,h1,h2⟩:=st
   have e:(items.length:Int) - 1 - ((l.reverse.length:Nat):Int) = -1:=by simp only[List.length_reverse];lia
   rw[e] at h1
   exact uF hA1 h1 fun h' k=>⟨rfl,hP h' s.toks fun b o hb y=>k b o (fun z=>hb (by simp[z])) y⟩
 ·simp only[List.mem_cons,List.not_mem_nil,or_false] at hb
  rcases hb with rfl | rfl
  ·exact hfI _ rfl
  ·exact⟨fun z=>f (.inl z),fun z=>f (.inr z)⟩
end
section
section
variable{c:Ctx}{Γ:Gm}{w:List Stmt}
theorem ca{st:Stmt}{rest:List Stmt}{a b:MS}(ha:SimS c Γ 0 st a)(hb:SimBAt c Γ w rest b):SimBAt c Γ w (st::rest) (ag a b):=by
 intro A d X env F ρ σ μ s Q hA R E h
 refine ks_wpAt_execs_cons (_root_.PySem.wpAt_of_wpAny (gw (ha A d X env F ρ σ μ s _ hA R E h) fun f fl ρ₁ σ₁ μ₁ s₁ q R₁ t₁ e₁ E₁ g₁ o₁=>?_))
 cases t₁ with
 | next =>
  refine _root_.PySem.ks_wpAt_mono (hb A d X env F ρ₁ σ₁ μ₁ s₁ _ hA R₁ E₁ q) (fun f s₂ ⟨fl,ρ₂,σ₂,μ₂,q₂,R₂,t₂,e₂,E₂,g₂,o₂⟩=>?_) fun _ _ e=>e
  exact⟨_,_,_,_,q₂,R₂,t₂,e₁.trans e₂,E₂,g₂.trans g₁,o₂.trans o₁⟩
 | ret t=>exact⟨_,_,_,_,q,R₁,.ret t,e₁,E₁,g₁,o₁⟩
 | brk=>exact⟨_,_,_,_,q,R₁,.brk,e₁,E₁,g₁,o₁⟩
 | cont=>exact⟨_,_,_,_,q,R₁,.cont,e₁,E₁,g₁,o₁⟩
theorem sj{e:Expr}{a:ME V}{pos:Pos}(ha:SimEAt c Γ w e a):SimBAt c Γ w [.Return (some e) pos] (ag (ao a) ah):=by
 intro A d X env F ρ σ μ s Q hA R E h
 refine ks_wpAt_execs_cons (ks_wpAt_Return_some (_root_.PySem.ks_wpAt_mono (ha A d X env F ρ σ μ s _ hA R E h) (fun u s₁ ⟨x,σ₁,μ₁,q,R₁,t₁,e₁,g₁,o₁⟩=>?_) fun _ _ e=>e))
 exact⟨_,_,_,_,q,R₁,.ret t₁,e₁.toF E.fx,E.mono e₁,g₁,o₁⟩
end
section
variable{c:Ctx}{Γ:Gm}
noncomputable def tz(o1 o2:CmpOp)(a b e:ME V):ME Bool:=fun d ρ σ Q=>a d ρ σ fun x σ=>b d ρ σ fun y σ=>aF σ o1 x y fun z=>if z then e d ρ σ fun u σ=>aF σ o2 y u (Q · σ) else Q false σ
noncomputable def wV(o1 o2:CmpOp)(a b e:ME V):ME V:=fun d ρ σ Q=>a d ρ σ fun x σ=>b d ρ σ fun y σ=>aF σ o1 x y fun z=>if z then e d ρ σ fun u σ=>aF σ o2 y u fun z=>Q (.bool z) σ else Q (.bool false) σ
end
section
variable{c:Ctx}{d:Nat}{σ:St}{Q:V→St→Prop}
theorem wR{a b:Int}(q:Q (.int (min a b)) σ):CallT c (.builtin "min") d [.int a,.int b] σ Q:=by
 intro A X μ s vs hA R ts
 obtain⟨v,w,rfl,t,ty⟩:=ts.two
 obtain⟨_,rfl⟩:=t.inv
 obtain⟨_,rfl⟩:=ty.inv
 refine min_two_ints hA.handled fun h' tk k=>Post.keeps R k (fun _ _=>?_) q
 rw[Int.min_def]
 by_cases h:b < a
 ·rw[if_pos h,if_neg (by lia)];exact .int _ _
 ·rw[if_neg h,if_pos (by lia)];exact .int _ _
end
section
variable{c:Ctx}{Γ:Gm}{bs:Nat}
noncomputable def gz(n:Nat)(b:Nat→Env'→List V→Mine.St→(Env'→Mine.St→Prop)→Prop):MA:=fun d ρ x σ Q=>match x with
 | .fl xs=>xs.length=n∧b d ρ xs σ Q
 | _=>False
theorem u3{ts:List Expr}{n:Nat}{k:Nat}{pos:Pos}{b:Nat→Env'→List V→Mine.St→(Env'→Mine.St→Prop)→Prop}(hb:SimAs c Γ bs ts b)(hn:∀ env,(assignEach ts env).length=n)(hst:∀ env,(assignEach ts env).findIdx? (·.1)=none) :
  SimA c Γ bs (.Tuple ts k pos) (gz n b):=by
 intro A d X env F ρ σ μ s v x Q hA R E t h
 cases x with
 | fl =>
  obtain⟨hl,h⟩:=h
  obtain⟨ad,items,kk,rfl,e,f,tl⟩:=t.inv
  rw[arm_assign_Tuple]
  have el:=tl.length
  refine wpAny_bind (wpAny_standAt ?_)
  unfold unpack
  rw[hn,hst,show n=items.toArray.size by simp;lia]
  refine wpAny_bind (wpAny_holding (kun_itemsOf hA.handled (isList e) fun h' hx=>?_))
  obtain⟨R',e'⟩:=R.keeps (h':=h') fun b o eb=>hx b o (fun z=>by rw[z,bc] at eb;cases eb) eb
  have w:=hb A d X env F ρ σ μ { s with heap:=h' } items _ Q hA R' (E.mono e') (tl.mono e') h
  exact fH (e'.toF E.fx) rfl rfl w
 | _=>exact h.elim
end
end
section
section
variable{d:Nat}{ρ:Env'}{σ:St}
noncomputable def qA(xs:List V)(P:Prop):Prop:=xs.length≤1000000∧P
theorem aP{it:ME (List V)}{N k:Nat}{tg:MA}{f:ME Bool}{e:ME V}{Q:V→St→Prop}(hN:ρ.length=N)(h:it d ρ σ fun xs σ=>qA xs (compL d tg f e (fun ys σ=>Q (.fl ys) σ) xs [] (ρ++List.replicate k none) σ)):aO it N k tg f e d ρ σ Q:=⟨hN,h⟩
theorem jW{a:ME V}{Q:List V→St→Prop}(h:a d ρ σ fun x σ=>cN σ x (Q · σ)):aG a d ρ σ Q:=h
theorem wj(is:List Int):V.ints (is.map V.int)=some is:=V.ints_map is
theorem bT{l:List V}{k:List V→Prop}(h:k l):cN σ (.fl l) k:=h
theorem lO{n:Nat}(h:n≤1000):Builtin.Range.small 0 n 1=true∧(Builtin.Range.rangeSize 0 n 1).toNat=n:=by
 have key:(List.range 1001).all (fun n=>Builtin.Range.small 0 (n:Int) 1&&decide ((Builtin.Range.rangeSize 0 (n:Int) 1).toNat=n))=true:=by decide +kernel
 have:=List.all_eq_true.mp key n (List.mem_range.mpr (by lia))
 simpa using this
noncomputable def rngL(n:Nat):List V:=(List.range n).map fun (i:Nat)=>V.int (i:Int)
theorem lU{n:Nat}{k:List V→Prop}(hn:n≤1000)(h:k (rngL n)):cN σ (.rng 0 n 1) k:=by
 obtain⟨a,b⟩:=lO hn
 refine⟨by decide,a,?_⟩
 rw[b]
 have e:((List.range n).map fun (i:Nat)=>V.int (0+(i:Int) * 1))=rngL n:=by unfold rngL;simp
 rw[e];exact h
theorem mV{c:Ctx}{n:Nat}{Q:V→St→Prop}(hn:n≤1000)(h:Q (.fl (rngL n)) σ):CallT c (.type "list") d [.rng 0 n 1] σ Q:=by
 obtain⟨a,b⟩:=lO hn
 refine gM (by decide) a (by rw[b];lia) ?_
 rw[b]
 have e:((List.range n).map fun (i:Nat)=>V.int (0+(i:Int) * 1))=rngL n:=by unfold rngL;simp
 rw[e];exact h
theorem uC{tg:MA}{f:ME Bool}{e:ME V}{Q:List V→St→Prop}(F:V→Env')(g:V→V)(okx:V→Bool):∀ (xs acc:List V) (ρ:Env'),(∀ x∈xs,∀ K:Env'→St→Prop,K (F x) σ→tg d ρ x σ K)→(∀ y∈xs,∀ x∈xs,∀ K:Env'→St→Prop,K (F x) σ→tg d (F y) x σ K) →
  (∀ x∈xs,∀ K:Bool→St→Prop,K (okx x) σ→f d (F x) σ K)→(∀ x∈xs,okx x=true→∀ K:V→St→Prop,K (g x) σ→e d (F x) σ K)→Q (acc++(xs.filter okx).map g) σ→compL d tg f e Q xs acc ρ σ:=by
 intro zz
 induction zz with
 | nil =>
  intro acc ρ _ _ _ _ q
  simpa [compL,cL] using q
 | cons x xs ih =>
  intro acc ρ h1 h2 h3 h4 q
  unfold compL cL
  refine h1 x List.mem_cons_self _ (h3 x List.mem_cons_self _ ?_)
  have ih:=fun acc=>ih acc (F x) (fun y hy=>h2 x List.mem_cons_self y (List.mem_cons_of_mem _ hy)) (fun y hy z hz=>h2 y (List.mem_cons_of_mem _ hy) z (List.mem_cons_of_mem _ hz)) (fun y hy=>h3 y (List.mem_cons_of_mem _ hy)) (fun y hy=>h4 y (List.mem_cons_of_mem _ hy))
  cases hx:okx x with
  | true =>
   rw[if_pos rfl]
   unfold eltB
   refine h4 x List.mem_cons_self hx _ (ih _ ?_)
   simpa [List.filter_cons,hx] using q
  | false =>
   rw[if_neg (by decide)]
   refine ih _ ?_
   simpa [List.filter_cons,hx] using q
theorem cD{i:Nat}{e:ME V}{Q:List V→St→Prop}{xs:List V}(g:V→V)(he:∀ x∈xs,∀ K:V→St→Prop,K (g x) σ→e d (ρ.set i (some x)) σ K)(q:Q (xs.map g) σ):compL d (nmA i) (aD true) e Q xs [] ρ σ:=by
 refine uC (fun x=>ρ.set i (some x)) g (fun _=>true) xs [] ρ (fun x _ K h=>h) (fun y _ x _ K h=>?_) (fun x _ K h=>h) (fun x hx _=>he x hx) (by rw[List.filter_eq_self.mpr (fun _ _=>rfl)];simpa using q)
 show K _ σ
 rw[List.set_set];exact h
end
noncomputable def iv(f:Int→Int):V→V
 | .int i=>.int (f i)
 | x=>x
theorem CallT.conv{c:Ctx}{f:Value}{d:Nat}{args:List V}{σ σ':St}{Q:V→St→Prop}(e:σ=σ')(h:CallT c f d args σ' Q):CallT c f d args σ Q:=by rw[e];exact h
theorem Qconv{Q:V→St→Prop}{v:V}{a b:St}(e:a=b)(h:Q v b):Q v a:=by rw[e];exact h
theorem Fconv{R:Fl→Env'→St→Prop}{fl:Fl}{ρ:Env'}{σ σ':St}(e:σ=σ')(h:R fl ρ σ'):R fl ρ σ:=by rw[e];exact h
theorem vf{m:MS}{d:Nat}{ρ ρ':Env'}{σ σ':St}{Q:Fl→Env'→St→Prop}(e:ρ=ρ')(e':σ=σ')(h:m d ρ' σ' Q):m d ρ σ Q:=by rw[e,e'];exact h
section
variable{d:Nat}{ρ:Env'}{σ:St}{Q:Fl→Env'→St→Prop}{x:V}
noncomputable def d9(d:Nat)(tg:MA)(b:MS)(Q:Fl→Env'→St→Prop)(xs:List V)(fl:Fl)(ρ:Env')(σ:St):Prop:=match fl with
 | .next=>forL d tg b Q xs ρ σ
 | .cont=>forL d tg b Q xs ρ σ
 | .brk=>Q .next ρ σ
 | .ret v=>Q (.ret v) ρ σ
variable{tg:MA}{b:MS}{xs:List V}
theorem cj(h:tg d ρ x σ fun ρ σ=>b d ρ σ (d9 d tg b Q xs)):forL d tg b Q (x::xs) ρ σ:=h
theorem cT(h:Q .next ρ σ):forL d tg b Q [] ρ σ:=h
noncomputable def whC(I:Nat→Env'→St→Prop)(n:Nat)(Q:Fl→Env'→St→Prop)(fl:Fl)(ρ:Env')(σ:St):Prop:=match fl with
 | .next=>∃ m,m < n∧I m ρ σ
 | .cont=>∃ m,m < n∧I m ρ σ
 | .brk=>Q .next ρ σ
 | .ret v=>Q (.ret v) ρ σ
theorem fQ{t:ME Bool}(I:Nat→Env'→St→Prop)(n:Nat)(h0:I n ρ σ)(step:∀ n ρ σ,I n ρ σ→t d ρ σ fun z σ'=>itQ z (b d ρ σ' (whC I n Q)) (Q .next ρ σ')):cJ t b d ρ σ Q:=⟨I,n,h0,step⟩
noncomputable def n6(Q:List V→St→Prop)(xs:List V)(σ:St):Prop:=onS (tp1 xs) fun l=>l.length≤1000000∧Q l.reverse σ
theorem sJ{l:List V}{Q:List V→St→Prop}(h1:l.length≤1000000)(h:Q l.reverse σ):n6 Q [.tup l] σ:=⟨h1,h⟩
theorem aZ{l:List V}{k:List V→Prop}(h:k l):cN σ (.tup l) k:=h
variable{Qe:Env'→St→Prop}{e:Nat→Env'→List V→St→(Env'→St→Prop)→Prop}{a:MA}
theorem r7{n:Nat}{l:List V}(hl:l.length=n)(h:e d ρ l σ Qe):bQ n e d ρ (.tup l) σ Qe:=⟨hl,h⟩
theorem yX{n:Nat}{l:List V}(hl:l.length=n)(h:e d ρ l σ Qe):gz n e d ρ (.fl l) σ Qe:=⟨hl,h⟩
theorem iU{c:Ctx}{i0:Nat}{T:Nat→Option Addr}{b:ME (List V)}{C i:Nat}{f:Addr}{kvs:List (Str×V)}{Q:V→St→Prop}(h1:ρ[i0]?=some (some (.inst C i)))(h2:T C=some f)(h3:σ[i]?=some (some (.ns kvs)))(q:b d ρ σ fun xs σ=>CodeT c (.ref f) d (.inst C i::xs) σ Q):eV c i0 T b d ρ σ Q:=by
 refine cg (jE h1) ?_
 exact cg h2 (cg (fj h3) q)
end
section
variable{d:Nat}{ρ:Env'}{σ:St}
noncomputable def ptC(Q:Option Int→St→Prop)(x:V)(σ:St):Prop:=onS x.int? fun i=>Q (some i) σ
theorem wL{i j:Int}{k:V→Prop}(h0:0≤j)(h:k (.int (i.fdiv (2 ^ j.toNat)))):opP σ .RShift (.int i) (.int j) k:=OpI.shr h0 h
theorem zn{l:List V}{v:Nat}{k:V→Prop}(hl:l.length≤1000000)(h:k (.fl (l.drop v))):eY σ (.fl l) (some (v:Int)) none k :=
 ⟨hl,fun a e=>(by cases e;lia),fun a e=>(by cases e),by simpa using h⟩
theorem rN{l:List V}{v:Nat}{k:V→Prop}(hl:l.length≤1000000)(h:k (.fl (l.take v))):eY σ (.fl l) none (some (v:Int)) k :=
 ⟨hl,fun a e=>(by cases e),fun a e=>(by cases e;lia),by simpa using h⟩
noncomputable def lD(st:Bool)(n:Nat)(Q:V→St→Prop)(kvs:List (V×V))(σ':St):Prop:=σ'[n]?=some (some (.dict []))∧dZ st kvs∧Q (.ref n) (σ'.set n (some (.dict (dsets [] kvs))))
theorem h8{st:Bool}{m:ME (List (V×V))}{Q:V→St→Prop}(h:m d ρ (σ++[some (.dict [])]) (lD st σ.length Q)):bO st m d ρ σ Q:=h
theorem iF{st:Bool}{Q:V→St→Prop}{kvs:List (V×V)}(h1:dZ st kvs)(h:Q (.ref σ.length) (σ++[some (.dict (dsets [] kvs))])):lD st σ.length Q kvs (σ++[some (.dict [])]) :=
 ⟨by simp,h1,by simpa using h⟩
end
noncomputable abbrev iL(l:List Int):List V:=l.map V.int
theorem li(n:Nat):∀ l:List Int,V.bds n (iL l)=true
 | []=>rfl
 | x::l=>by show (true&&V.bds n (iL l))=true;rw[li n l];rfl
inductive Stp2:Prop→Prop→Prop
 | i_for {d:Nat} {ρ:Env'} {σ:St} {Q:Fl→Env'→St→Prop} {tg:MA} {b:MS} {it:ME (List V)}:Stp2 (it d ρ σ fun xs σ=>forL d tg b Q xs ρ σ) (bv it tg b d ρ σ Q)
 | i_forN {d:Nat} {ρ:Env'} {σ:St} {Q:Fl→Env'→St→Prop} {tg:MA} {b:MS} {xs:List V}:Stp2 (forL d tg b Q xs ρ σ) (d9 d tg b Q xs .next ρ σ)
 | i_forK {d:Nat} {ρ:Env'} {σ:St} {Q:Fl→Env'→St→Prop} {tg:MA} {b:MS} {xs:List V}:Stp2 (forL d tg b Q xs ρ σ) (d9 d tg b Q xs .cont ρ σ)
 | i_forR {d:Nat} {ρ:Env'} {σ:St} {Q:Fl→Env'→St→Prop} {x:V} {tg:MA} {b:MS} {xs:List V}:Stp2 (Q (.ret x) ρ σ) (d9 d tg b Q xs (.ret x) ρ σ)
 | cj {d:Nat} {ρ:Env'} {σ:St} {Q:Fl→Env'→St→Prop} {x:V} {tg:MA} {b:MS} {xs:List V}:Stp2 (tg d ρ x σ fun ρ σ=>b d ρ σ (d9 d tg b Q xs)) (forL d tg b Q (x::xs) ρ σ)
 | cT {d:Nat} {ρ:Env'} {σ:St} {Q:Fl→Env'→St→Prop} {tg:MA} {b:MS}:Stp2 (Q .next ρ σ) (forL d tg b Q [] ρ σ)
 | i_cont {d:Nat} {ρ:Env'} {σ:St} {Q:Fl→Env'→St→Prop}:Stp2 (Q .cont ρ σ) (eA d ρ σ Q)
 | i_brk {d:Nat} {ρ:Env'} {σ:St} {Q:Fl→Env'→St→Prop}:Stp2 (Q .brk ρ σ) (ir d ρ σ Q)
 | i_seqK {d:Nat} {ρ:Env'} {σ:St} {Q:Fl→Env'→St→Prop} {b:MS}:Stp2 (Q .cont ρ σ) (dh b d Q .cont ρ σ)
 | i_seqB {d:Nat} {ρ:Env'} {σ:St} {Q:Fl→Env'→St→Prop} {b:MS}:Stp2 (Q .brk ρ σ) (dh b d Q .brk ρ σ)
 | jW {d:Nat} {ρ:Env'} {σ:St} {a:ME V} {Q:List V→St→Prop}:Stp2 (a d ρ σ fun x σ=>cN σ x (Q · σ)) (aG a d ρ σ Q)
 | i_rev {d:Nat} {ρ:Env'} {σ:St} {b:ME (List V)} {Q:List V→St→Prop}:Stp2 (b d ρ σ (n6 Q)) (fX b d ρ σ Q)
 | i_whN {ρ:Env'} {σ:St} {Q:Fl→Env'→St→Prop} {I:Nat→Env'→St→Prop} {n:Nat}:Stp2 (∃ m,m < n∧I m ρ σ) (whC I n Q .next ρ σ)
 | i_whK {ρ:Env'} {σ:St} {Q:Fl→Env'→St→Prop} {I:Nat→Env'→St→Prop} {n:Nat}:Stp2 (∃ m,m < n∧I m ρ σ) (whC I n Q .cont ρ σ)
 | i_whR {ρ:Env'} {σ:St} {Q:Fl→Env'→St→Prop} {x:V} {I:Nat→Env'→St→Prop} {n:Nat}:Stp2 (Q (.ret x) ρ σ) (whC I n Q (.ret x) ρ σ)
 | i_consA {d:Nat} {ρ:Env'} {σ:St} {x:V} {Qe:Env'→St→Prop} {e:Nat→Env'→List V→St→(Env'→St→Prop)→Prop} {a:MA} {l:List V}:Stp2 (a d ρ x σ fun ρ σ=>e d ρ l σ Qe) (aU a e d ρ (x::l) σ Qe)
 | i_nilA {d:Nat} {ρ:Env'} {σ:St} {Qe:Env'→St→Prop}:Stp2 (Qe ρ σ) (bJ d ρ [] σ Qe)
 | i_chn {d:Nat} {ρ:Env'} {σ:St} {o1 o2:CmpOp} {a b e:ME V} {Q:Bool→St→Prop}:Stp2 (a d ρ σ fun x σ=>b d ρ σ fun y σ=>aF σ o1 x y fun z=>itQ z (e d ρ σ fun u σ=>aF σ o2 y u (Q · σ)) (Q false σ)) (tz o1 o2 a b e d ρ σ Q)
 | i_chnv {d:Nat} {ρ:Env'} {σ:St} {o1 o2:CmpOp} {a b e:ME V} {Q:V→St→Prop}:Stp2 (a d ρ σ fun x σ=>b d ρ σ fun y σ=>aF σ o1 x y fun z=>itQ z (e d ρ σ fun u σ=>aF σ o2 y u fun z=>Q (.bool z) σ) (Q (.bool false) σ)) (wV o1 o2 a b e d ρ σ Q)
 | i_nop {d:Nat} {ρ:Env'} {σ:St} {Q:Option Int→St→Prop}:Stp2 (Q none σ) (fk d ρ σ Q)
 | i_pt {d:Nat} {ρ:Env'} {σ:St} {a:ME V} {Q:Option Int→St→Prop}:Stp2 (a d ρ σ (ptC Q)) (ptM a d ρ σ Q)
 | i_ptC {σ:St} {Q:Option Int→St→Prop} {i:Int}:Stp2 (Q (some i) σ) (ptC Q (.int i) σ)
 | i_consP {d:Nat} {ρ:Env'} {σ:St} {a b:ME V} {r:ME (List (V×V))} {Q:List (V×V)→St→Prop}:Stp2 (a d ρ σ fun x σ=>b d ρ σ fun y σ=>r d ρ σ fun kvs σ=>Q ((x,y)::kvs) σ) (bH a b r d ρ σ Q)
 | i_nilP {d:Nat} {ρ:Env'} {σ:St} {Q:List (V×V)→St→Prop}:Stp2 (Q [] σ) (b9 d ρ σ Q)
theorem stp2{R G:Prop}(h:Stp2 R G):R→G:=by induction h<;>exact id
end
section
section
variable{c:Ctx}{Γ:Gm}
noncomputable def fy(o1 o2 o3:CmpOp)(a b e f:ME V):ME Bool:=fun d ρ σ Q=>a d ρ σ fun x σ=>b d ρ σ fun y σ=>aF σ o1 x y fun z=>if z then e d ρ σ fun u σ=>aF σ o2 y u fun z=>if z then f d ρ σ fun t σ=>aF σ o3 u t (Q · σ) else Q false σ else Q false σ
theorem vQ{o1 o2 o3:CmpOp}{l r₁ r₂ r₃:Expr}{a b e f:ME V}{pos:Pos}(ok:c.Ok)(ha:SimE c Γ l a)(hb:SimE c Γ r₁ b)(he:SimE c Γ r₂ e)(hf:SimE c Γ r₃ f)(hm:lastMarks [o1,o2,o3] [r₁,r₂,r₃]=false):SimT c Γ (.Compare l [o1,o2,o3] [r₁,r₂,r₃] pos) (fy o1 o2 o3 a b e f):=by
 intro A d X bs env F ρ σ μ s Q hA R E h
 have hu:=hA.units
 refine isTrue_chain (aC (ha A d X bs env F ρ σ μ s _ hA R E h) fun u x σ₁ μ₁ s₁ q R₁ t₁ e₁ g₁ o₁=>test_link (aC (hb A d X bs env F ρ σ₁ μ₁ s₁ _ hA R₁ (E.mono e₁) q) fun v y σ₂ μ₂ s₂ q₂ R₂ t₂ e₂ g₂ o₂=>?_)) hm
 refine aC (dR (Q:=fun z σ'=>∃ b,z=.bool b∧(if b then e d ρ σ' fun u σ=>aF σ o2 y u fun z=>if z then f d ρ σ fun t σ=>aF σ o3 u t (Q · σ) else Q false σ else Q false σ')) ok R₂ (by lia) (t₁.mono e₂) t₂ (eJ (d6 q₂) fun b q=>⟨b,rfl,q⟩)) fun v' z σ₃ μ₃ s₃ q₃ R₃ t₃ e₃ g₃ o₃=>?_
 obtain⟨b,rfl,q₃⟩:=q₃
 cases t₃
 refine wpAny_truthy_bool ?_
 cases b with
 | false =>
  simp only[Bool.false_eq_true,if_false] at q₃ ⊢
  exact⟨_,_,_,q₃,R₃,rfl,e₁.trans (e₂.trans e₃),g₃.trans (g₂.trans g₁),o₃.trans (o₂.trans o₁)⟩
 | true =>
  simp only[if_true] at q₃ ⊢
  refine test_link (aC (he A d X bs env F ρ σ₃ μ₃ s₃ _ hA R₃ (E.mono (e₁.trans (e₂.trans e₃))) q₃) fun v₄ y₄ σ₄ μ₄ s₄ q₄ R₄ t₄ e₄ g₄ o₄=>?_)
  refine aC (dR (Q:=fun z σ'=>∃ b,z=.bool b∧(if b then f d ρ σ' fun t σ=>aF σ o3 y₄ t (Q · σ) else Q false σ')) ok R₄ (by lia) ((t₂.mono e₃).mono e₄) t₄ (eJ (d6 q₄) fun b q=>⟨b,rfl,q⟩)) fun v₅ y₅ σ₅ μ₅ s₅ q₅ R₅ t₅ e₅ g₅ o₅=>?_
  obtain⟨b,rfl,q₅⟩:=q₅
  cases t₅
  refine wpAny_truthy_bool ?_
  have ev:=e₁.trans (e₂.trans (e₃.trans (e₄.trans e₅)))
  have gv:=g₅.trans (g₄.trans (g₃.trans (g₂.trans g₁)))
  have ov:=o₅.trans (o₄.trans (o₃.trans (o₂.trans o₁)))
  cases b with
  | false =>
   simp only[Bool.false_eq_true,if_false] at q₅ ⊢
   exact⟨_,_,_,q₅,R₅,rfl,ev,gv,ov⟩
  | true =>
   simp only[if_true] at q₅ ⊢
   refine test_last (aC (hf A d X bs env F ρ σ₅ μ₅ s₅ _ hA R₅ (E.mono ev) q₅) fun v₆ y₆ σ₆ μ₆ s₆ q₆ R₆ t₆ e₆ g₆ o₆=>?_)
   refine aC (dR (Q:=fun z σ'=>∃ b,z=.bool b∧Q b σ') ok R₆ (by lia) ((t₄.mono e₅).mono e₆) t₆ (eJ (d6 q₆) fun b q=>⟨b,rfl,q⟩)) fun v₇ y₇ σ₇ μ₇ s₇ q₇ R₇ t₇ e₇ g₇ o₇=>?_
   obtain⟨b,rfl,q₇⟩:=q₇
   cases t₇
   exact aV (ev.trans (e₆.trans e₇)) (g₇.trans (g₆.trans gv)) (o₇.trans (o₆.trans ov)) (wpAny_truthy_bool (Post.here R₇ rfl q₇))
end
section
variable{c:Ctx}{d:Nat}{σ:St}{Q:V→St→Prop}
theorem yM{x:V}{k:Int}(h:lsP σ x fun l=>∃ ns,V.ints l=some ns∧PyData.layable0 (.list (ns.map .int))=true∧k∈ns∧Q (.int (ns.idxOf k:Nat)) σ):CallT c (.builtin "list.index") d [x,.int k] σ Q:=by
 intro A X μ s vs hA R ts
 obtain⟨v,w,rfl,t,ty⟩:=ts.two
 obtain⟨a,items,n,l,rfl,g,tl,⟨ns,e1,lay,hk,q⟩⟩:=dF R t h
 obtain⟨tk,rfl⟩:=ty.inv
 exact index_list_ints (vs:=items) ⟨_,g,rfl,n,rfl⟩ (tl.intsAre e1) lay hk (Post.tok R (.int _ _) q)
end
section
variable{d:Nat}{ρ:Env'}{σ:St}
theorem bb{tg:MA}{f:ME Bool}{e:ME V}{Q:List V→St→Prop}{x:V}{xs acc:List V}(h:tg d ρ x σ fun ρ σ=>f d ρ σ fun z σ=>itQ z (e d ρ σ fun y σ=>compL d tg f e Q xs (acc++[y]) ρ σ) (compL d tg f e Q xs acc ρ σ)):compL d tg f e Q (x::xs) acc ρ σ:=h
theorem bY{tg:MA}{f:ME Bool}{e:ME V}{Q:List V→St→Prop}{acc:List V}(h:Q acc σ):compL d tg f e Q [] acc ρ σ:=h
theorem vY{j n:Nat}{v:V}{l:List V}{k:St→Prop}(h:σ[j]?=some (some (.list l)))(hn:n < l.length)(hl:l.length≤1000000)(q:k (σ.set j (some (.list (l.set n v))))):fD σ (.ref j) (.int n) v k:=by
 show (lsAt σ j).elim _ _
 rw[hZ h];exact⟨n,rfl,hn,hl,q⟩
theorem qO{o1 o2 o3:CmpOp}{a b e f:ME V}{Q:Bool→St→Prop}(h:a d ρ σ fun x σ=>b d ρ σ fun y σ=>aF σ o1 x y fun z=>itQ z (e d ρ σ fun u σ=>aF σ o2 y u fun z=>itQ z (f d ρ σ fun t σ=>aF σ o3 u t (Q · σ)) (Q false σ)) (Q false σ)):fy o1 o2 o3 a b e f d ρ σ Q:=h
theorem tX{it:ME (List V)}{N k m:Nat}{tg:MA}{f:ME Bool}{b:MB}{Q:V→St→Prop}(hN:ρ.length=N)(h:it d ρ σ fun xs σ=>xs.length≤m∧cL d tg f b (fun ys _ σ=>Q (.fl ys) σ) xs [] (ρ++List.replicate k none) σ):ew it N k m tg f b d ρ σ Q:=⟨hN,h⟩
end
theorem q0{c:Ctx}{d:Nat}{σ:St}{Q:V→St→Prop}{a b:Int}(q:Q (.int (max a b)) σ):CallT c (.builtin "max") d [.int a,.int b] σ Q:=by
 intro A X μ s vs hA R ts
 obtain⟨v,w,rfl,t,ty⟩:=ts.two
 obtain⟨_,rfl⟩:=t.inv
 obtain⟨_,rfl⟩:=ty.inv
 refine max_two_ints hA.handled fun h' tk k=>Post.keeps R k (fun _ _=>?_) q
 rw[Int.max_def]
 by_cases h:a < b
 ·rw[if_pos h,if_pos (by lia)];exact .int _ _
 ·by_cases h2:a≤b
  ·rw[if_neg h,if_pos h2,show b=a by lia];exact .int _ _
  ·rw[if_neg h,if_neg h2];exact .int _ _
noncomputable def ldK{α:Type}:Sem α→Obj→Sem α
 | .load _ _ k=>k
 | t=>fun _=>t
theorem ou{fd:FuncData}{s:Shared}{args:Args}{b:List (Str×Value)}{T:Addr}{o:Obj}(h1:bindArgs fd args=.load T none (ldK (bindArgs fd args)))(h2:ldK (bindArgs fd args) o=pure b)(ho:s.heap.get? T=some o):BindsTo s fd args b:=fun M A E Q hq=>by
 rw[h1]
 show wpAny M A (load T >>= ldK (bindArgs fd args)) Q E s
 refine wpAny_bind (wpAny_load ho ?_)
 rw[h2]
 exact wpAny_pure hq
theorem bindD1{c:Ctx}(ok:c.Ok){fd:FuncData}{ps:List Str}{T:Addr}{o:Obj}{n:Int}{tk:Tok}(ho:c.K.lookup T=some o)
  (h:∀ vals:List Value,vals.length+1=ps.length→bindArgs fd ⟨vals,[]⟩=.load T none (ldK (bindArgs fd ⟨vals,[]⟩))∧ldK (bindArgs fd ⟨vals,[]⟩) o=pure (ps.zip (vals++[.int n tk])))
  (X:Nat→Prop) (σ:St) (μ:Nat→Nat) (s:Shared) (vals:List Value) (R:Rel c X σ μ s.heap) (hl:vals.length+([.int n]:List V).length=ps.length):∃ dv,VRs s.heap (Sx X σ μ) μ σ.length dv [.int n]∧BindsTo s fd ⟨vals,[]⟩ (ps.zip (vals++dv)) :=
 ⟨[.int n tk],.cons (.int n tk) .nil,ou (h vals hl).1 (h vals hl).2 (ok.K.keeps R.base _ _ ho)⟩
theorem s6{c:Ctx}(ok:c.Ok){fd:FuncData}{ps:List Str}{T:Addr}{o:Obj}(ho:c.K.lookup T=some o)
  (h:∀ vals:List Value,vals.length=ps.length→bindArgs fd ⟨vals,[]⟩=.load T none (ldK (bindArgs fd ⟨vals,[]⟩))∧ldK (bindArgs fd ⟨vals,[]⟩) o=pure (ps.zip vals))
  (X:Nat→Prop) (σ:St) (μ:Nat→Nat) (s:Shared) (vals:List Value) (R:Rel c X σ μ s.heap) (hl:vals.length+([]:List V).length=ps.length):∃ dv,VRs s.heap (Sx X σ μ) μ σ.length dv []∧BindsTo s fd ⟨vals,[]⟩ (ps.zip (vals++dv)) :=
 ⟨[],.nil,by rw[List.append_nil];exact ou (h vals hl).1 (h vals hl).2 (ok.K.keeps R.base _ _ ho)⟩
noncomputable def Cur(β:Type)(n:Nat):Type:=@Nat.rec (fun _=>Type) β (fun _ r=>Value→r) n
noncomputable def cuA{β:Type}(n:Nat):(List Value→β)→Cur β n:=@Nat.rec (fun n=>(List Value→β)→Cur β n) (fun f=>f []) (fun _ ih f v=>ih fun l=>f (v::l)) n
noncomputable def cuB{β:Type}(n:Nat):(List Value→β)→Cur β n:=@Nat.rec (fun n=>(List Value→β)→Cur β n) (fun f=>f []) (fun _ ih f v=>ih fun l=>f (v::l)) n
theorem cV{β:Type}:∀ {n:Nat} {f g:List Value→β},cuA n f=cuB n g→∀ vals,vals.length=n→f vals=g vals
 | 0,_,_,h,[],_=>h
 | _+1,_,_,h,v::l,e=>cV (congrFun h v) l (Nat.succ.inj e)
noncomputable def FnL(K:Frag)(a:Addr)(ps:List Str)(Γ:Gm):Bool×FuncBody×List (Str×Addr)×Option (Addr×Addr)×Cur (Sem (List (Str×Value))) ps.length :=
 (fnOk K a ps Γ,(fdAt K a).body,(fdAt K a).closure,Γ.fn,cuA ps.length fun vals=>bindArgs (fdAt K a) ⟨vals,[]⟩)
noncomputable def FnR(ps:List Str)(body:List Stmt):Bool×FuncBody×List (Str×Addr)×Option (Addr×Addr)×Cur (Sem (List (Str×Value))) ps.length :=
 (true,.stmts body,[],none,cuB ps.length fun vals=>pure (ps.zip vals))
theorem FnAt.of1{c:Ctx}{a:Addr}{body:List Stmt}{params:List Str}{Γ:Gm}(ok:c.Ok)(h:FnL c.K a params Γ=FnR params body):FnAt c a (fdAt c.K a) body params Γ :=
 FnAt.of ok (congrArg (·.1) h) (congrArg (·.2.1) h) (congrArg (·.2.2.1) h) (congrArg (·.2.2.2.1) h) fun vals hl=>cV (congrArg (·.2.2.2.2) h) vals hl
theorem FnAtD.of0{c:Ctx}{a b:Addr}{body:List Stmt}{params:List Str}{Γ:Gm}(ok:c.Ok)(h:fnOk c.K a params Γ=true)(hb:(fdAt c.K a).body=.stmts body)(hc:(fdAt c.K a).closure=[(("__class__":Str),b)])
  (h1:(c.K.lookup b).isSome=true) (h2:(fdAt c.K a).scope.names.lookup ("__class__":Str)=some .free) (hno:((fdAt c.K a).scope.names.all fun p=>p.1 != ("__class__":Str)||p.2 != .cell)=true) (hf:Γ.fn=some (a,b))
  (hbind:cuA params.length (fun vals=>bindArgs (fdAt c.K a) ⟨vals,[]⟩)=cuB params.length fun vals=>pure (params.zip vals)):FnAtD c a (fdAt c.K a) body params [] (some b) Γ :=
 FnAtD.of ok h hb hc (fun _ e=>by cases e;exact⟨h1,h2⟩) hno (fun _ _ e=>by rw[hf] at e;cases e;exact⟨rfl,rfl⟩) (bindD0 fun vals hl=>cV hbind vals hl)
theorem FnAtD.of1{c:Ctx}{a:Addr}{body:List Stmt}{params:List Str}{Γ:Gm}{T:Addr}{o:Obj}(n:Int)(tk:Tok)(ok:c.Ok)(h:fnOk c.K a params Γ=true)(hb:(fdAt c.K a).body=.stmts body)(hc:(fdAt c.K a).closure=[])(hf:Γ.fn=none)
  (hno:((fdAt c.K a).scope.names.all fun p=>p.1 != ("__class__":Str)||p.2 != .cell)=true) (ho:c.K.lookup T=some o)
  (hb1:cuA (params.length - 1) (fun vals=>bindArgs (fdAt c.K a) ⟨vals,[]⟩)=cuB (params.length - 1) fun vals=>.load T none (ldK (bindArgs (fdAt c.K a) ⟨vals,[]⟩)))
  (hb2:cuA (params.length - 1) (fun vals=>ldK (bindArgs (fdAt c.K a) ⟨vals,[]⟩) o)=cuB (params.length - 1) fun vals=>pure (params.zip (vals++[.int n tk]))):FnAtD c a (fdAt c.K a) body params [.int n] none Γ :=
 FnAtD.of ok h hb hc (fun _ e=>by cases e) hno (fun _ _ e=>by rw[hf] at e;cases e) (bindD1 ok ho fun vals hl=>⟨cV hb1 vals (by omega),cV hb2 vals (by omega)⟩)
theorem FnAtD.of2{c:Ctx}{a:Addr}{body:List Stmt}{params:List Str}{Γ:Gm}{T:Addr}{o:Obj}(ok:c.Ok)(h:fnOk c.K a params Γ=true)(hb:(fdAt c.K a).body=.stmts body)(hc:(fdAt c.K a).closure=[])(hf:Γ.fn=none)
  (hno:((fdAt c.K a).scope.names.all fun p=>p.1 != ("__class__":Str)||p.2 != .cell)=true) (ho:c.K.lookup T=some o)
  (hb1:cuA params.length (fun vals=>bindArgs (fdAt c.K a) ⟨vals,[]⟩)=cuB params.length fun vals=>.load T none (ldK (bindArgs (fdAt c.K a) ⟨vals,[]⟩)))
  (hb2:cuA params.length (fun vals=>ldK (bindArgs (fdAt c.K a) ⟨vals,[]⟩) o)=cuB params.length fun vals=>pure (params.zip vals)):FnAtD c a (fdAt c.K a) body params [] none Γ :=
 FnAtD.of ok h hb hc (fun _ e=>by cases e) hno (fun _ _ e=>by rw[hf] at e;cases e) (s6 ok ho fun vals hl=>⟨cV hb1 vals hl,cV hb2 vals hl⟩)
theorem sN{a m:Nat}(e:Nat.ble a m=true):a≤m:=Nat.le_of_ble_eq_true e
theorem si{a m:Nat}(e:Nat.ble (a+1) m=true):a < m:=Nat.le_of_ble_eq_true e
theorem gN{a k m:Nat}(h:a≤k)(e:Nat.ble k m=true):a≤m:=Nat.le_trans h (Nat.le_of_ble_eq_true e)
theorem uN{a k m:Nat}(h:a≤k)(e:Nat.ble (k+1) m=true):a < m:=Nat.lt_of_le_of_lt h (Nat.le_of_ble_eq_true e)
theorem nV{a k m:Nat}(h:a < k)(e:Nat.ble k m=true):a < m:=Nat.le_trans h (Nat.le_of_ble_eq_true e)
theorem wp{a k m:Nat}(h:a < k)(e:Nat.ble k (m+1)=true):a≤m:=Nat.le_of_lt_succ (nV h e)
theorem uo{a b c e:Nat}(h1:a≤b+c)(hc:Nat.ble c e=true)(h2:b≤e - c):a≤e:=by
 have:=Nat.le_of_ble_eq_true hc;omega
theorem rH{a b k m:Nat}(h:a≤b+k)(e:Nat.ble k m=true):a≤b+m:=Nat.le_trans h (Nat.add_le_add_left (Nat.le_of_ble_eq_true e) b)
theorem xZ{a b b' c m:Nat}(h1:a≤b'+c)(hc:Nat.ble c m=true)(h2:b'≤b+(m - c)):a≤b+m:=by
 have:=Nat.le_of_ble_eq_true hc;omega
theorem xP{a b m:Nat}(h:a=b)(h2:b≤m):a≤m:=h▸h2
theorem rC{n k m:Nat}(h:n≤k)(e:Nat.ble k m=true):(n:Int)≤OfNat.ofNat m:=Int.ofNat_le.mpr (gN h e)
theorem rX{n k m:Nat}(h:k≤n)(e:Nat.ble m k=true):OfNat.ofNat m≤(n:Int):=Int.ofNat_le.mpr (Nat.le_trans (Nat.le_of_ble_eq_true e) h)
theorem xd{n k:Nat}(h:k+1≤n):¬ n=0:=by omega
theorem y2{m k j:Nat}(h:k≤m)(e:Nat.ble j k=true):j≤m:=Nat.le_trans (Nat.le_of_ble_eq_true e) h
theorem uy{m k j:Nat}(h:k≤m)(e:Nat.ble (j+1) k=true):j < m:=Nat.le_trans (Nat.le_of_ble_eq_true e) h
theorem sX{a b m:Nat}(h:a≤b):a≤b+m:=Nat.le_add_right_of_le h
theorem jc{x k D:Nat}(h:x+k≤D):D=D - k+k:=(Nat.sub_add_cancel (Nat.le_trans (Nat.le_add_left k x) h)).symm
theorem wX{x a b k D:Nat}(h:x+a+b≤D)(e:a+b=k):D=D - k+k:=jc (x:=x) (by rw[← e,← Nat.add_assoc];exact h)
theorem y9{a c m:Nat}(e:Nat.ble c m=true)(h:a≤m - c):a+c≤m:=Nat.add_le_of_le_sub (Nat.le_of_ble_eq_true e) h
end
section
set_option backward.match.sparseCases false
structure Side (e:Expr):Prop where
 star:∀ es env,starEach (e::es) env=(false,eval e env)::starEach es env
 sub:∀ o v,subscripted e false o v=operate [o,v] (getItem o v)
 set:∀ env x,foldedSetIterable e env x=pure x
 marks:∀ op,behindInMarks op e=false
 asE:∀ ts env,assignEach (e::ts) env=(false,assign e env)::assignEach ts env
noncomputable def pl(e:Expr):Bool:=e.ctorIdx != 7&&e.ctorIdx != 22&&e.ctorIdx != 26
theorem bR{e:Expr}(h:pl e=true):Side e:=by cases e<;>first | exact⟨fun _ _=>rfl,fun _ _=>rfl,fun _ _=>rfl,fun _=>rfl,fun _ _=>rfl⟩ | cases h
theorem d4{es:List Expr}(h:es.all pl=true){P:List Expr→Prop}(h0:P [])(h1:∀ e es,Side e→P es→P (e::es)):P es:=by
 induction es with
 | nil=>exact h0
 | cons e es ih =>
  have k:=Bool.and_eq_true_iff.mp ((List.all_cons).symm.trans h)
  exact h1 e es (bR k.1) (ih k.2)
theorem eH{es:List Expr}{pos:Pos}(h:es.all pl=true)(env:Env):(backTo pos (starEach es env)).any (·.1)=false :=
 d4 (P:=fun es=>(backTo pos (starEach es env)).any (·.1)=false) h rfl fun e es s ih=>by rw[s.star];exact ih
theorem vc{es:List Expr}{pos:Pos}(h:es.all pl=true)(env:Env):(backTo pos (starEach es env)).all (!·.1)=true :=
 d4 (P:=fun es=>(backTo pos (starEach es env)).all (!·.1)=true) h rfl fun e es s ih=>by rw[s.star];exact ih
theorem kU{ts:List Expr}(h:ts.all pl=true)(env:Env):(assignEach ts env).length=ts.length :=
 d4 (P:=fun ts=>(assignEach ts env).length=ts.length) h rfl fun e es s ih=>by rw[s.asE];exact congrArg (·+1) ih
theorem jh{ts:List Expr}(h:ts.all pl=true)(env:Env):(assignEach ts env).findIdx? (·.1)=none :=
 d4 (P:=fun ts=>(assignEach ts env).findIdx? (·.1)=none) h rfl fun e es s ih=>by rw[s.asE,List.findIdx?_cons,ih];rfl
noncomputable def nca(e:Expr):Bool:=e.ctorIdx != 16
theorem jL{e:Expr}{name:Str}(h:nca e=true)(env:Env)(t:Sem Value):attributeBase e name env t=t:=by cases e<;>first | rfl | cases h
noncomputable def nco(e:Expr):Bool:=e.ctorIdx != 8&&e.ctorIdx != 9&&e.ctorIdx != 10
theorem lZ{e:Expr}{t:Option Expr}{n:Nat}(h:nco e=true)(env:Env):swapsWith e t n env=pure false:=by cases e<;>first | rfl | cases h
noncomputable def one{α:Type}:(l:List α)→Option {a:α // l=[a]}
 | [a]=>some ⟨a,rfl⟩
 | _=>none
noncomputable def three{α:Type}:(l:List α)→Option {a:α×α×α // l=[a.1,a.2.1,a.2.2]}
 | [a,b,e]=>some ⟨(a,b,e),rfl⟩
 | _=>none
noncomputable def asName:(e:Expr)→Option {x:Str×Pos // e=.Name x.1 x.2}
 | .Name x p=>some ⟨(x,p),rfl⟩
 | _=>none
noncomputable def noKw:(k:List Keyword)→Option (PLift (k=[]))
 | []=>some ⟨rfl⟩
 | _=>none
noncomputable def asCall:(e:Expr)→Option {x:(Str×Pos)×List Expr×Pos // e=.Call (.Name x.1.1 x.1.2) x.2.1 [] x.2.2}
 | .Call f a k q=>(noKw k).bind fun h=>(asName f).map fun x=>⟨(x.1,a,q),x.2▸h.down▸rfl⟩
 | _=>none
noncomputable def asTup:(e:Expr)→Option {x:List Expr×Nat×Pos // e=.Tuple x.1 x.2.1 x.2.2}
 | .Tuple l k p=>some ⟨(l,k,p),rfl⟩
 | _=>none
noncomputable def asSl:(e:Expr)→Option {x:Option Expr×Option Expr×Pos // e=.Slice x.1 x.2.1 none x.2.2}
 | .Slice l h none p=>some ⟨(l,h,p),rfl⟩
 | _=>none
set_option genInjectivity false in
structure CompX where
 elt:Expr
 tg:Expr
 it:Expr
 ifs:List Expr
 sc:Scope
 p:Pos
noncomputable def CompX.e(x:CompX):Expr:=.ListComp x.elt [⟨x.tg,x.it,x.ifs,0⟩] x.sc x.p
noncomputable def g1:(g:List Comprehension)→Option {x:Expr×Expr×List Expr // g=[⟨x.1,x.2.1,x.2.2,0⟩]}
 | [⟨t,i,f,.ofNat .zero⟩]=>some ⟨(t,i,f),rfl⟩
 | _=>none
noncomputable def asComp:(e:Expr)→Option {x:CompX // e=x.e}
 | .ListComp e g s p=>(g1 g).map fun x=>⟨⟨e,x.1.1,x.1.2.1,x.1.2.2,s,p⟩,congrArg (fun g=>Expr.ListComp e g s p) x.2⟩
 | _=>none
set_option genInjectivity false in
structure CompX2 where
 elt:Expr
 tg:Expr
 it:Expr
 ifs:List Expr
 tg2:Expr
 it2:Expr
 ifs2:List Expr
 sc:Scope
 p:Pos
noncomputable def CompX2.e(x:CompX2):Expr:=.ListComp x.elt [⟨x.tg,x.it,x.ifs,0⟩,⟨x.tg2,x.it2,x.ifs2,0⟩] x.sc x.p
noncomputable def g2:(g:List Comprehension)→Option {x:(Expr×Expr×List Expr)×(Expr×Expr×List Expr) // g=[⟨x.1.1,x.1.2.1,x.1.2.2,0⟩,⟨x.2.1,x.2.2.1,x.2.2.2,0⟩]}
 | [⟨t,i,f,.ofNat .zero⟩,⟨t',i',f',.ofNat .zero⟩]=>some ⟨((t,i,f),(t',i',f')),rfl⟩
 | _=>none
noncomputable def qN:(e:Expr)→Option {x:CompX2 // e=x.e}
 | .ListComp e g s p=>(g2 g).map fun x=>⟨⟨e,x.1.1.1,x.1.1.2.1,x.1.1.2.2,x.1.2.1,x.1.2.2.1,x.1.2.2.2,s,p⟩,congrArg (fun g=>Expr.ListComp e g s p) x.2⟩
 | _=>none
noncomputable def jt:(l:List Expr)→Option {nm:List (Str×Pos) // l=nm.map fun p=>Expr.Name p.1 p.2}
 | []=>some ⟨[],rfl⟩
 | e::l=>(asName e).bind fun x=>(jt l).map fun nm=>⟨x.1::nm.1,(congrArg (·::l) x.2).trans (congrArg (Expr.Name x.1.1 x.1.2::·) nm.2)⟩
noncomputable def hiK:Unit:=(fun _ _ _ _ _ _ _=>()) @bv @cJ @aO @ai @ay @aQ @bO
noncomputable def cn{β:Type}(b:Bool)(m z:β):β:=Bool.rec (motive:=fun _=>β) (Function.const _ z hiK) m b
noncomputable def el{α β:Type}(o:Option α)(z:β)(f:α→β):β:=Option.rec (motive:=fun _=>β) (Function.const _ z hiK) f o
theorem a9{α β:Type}{P:β→Prop}{o:Option α}{z:β}{f:α→β}(hz:P z)(h:∀ y,P (f y)):P (el o z f):=by
 cases o with
 | none=>exact hz
 | some y=>exact h y
theorem bL{α β:Type}{P:β→Prop}{o:Option α}{z:β}{f:α→β}(hz:P z)(h:∀ y,o=some y→P (f y)):P (el o z f):=by
 cases o with
 | none=>exact hz
 | some y=>exact h y rfl
theorem aK{β:Type}{P:β→Prop}{b:Bool}{m z:β}(hz:P z)(h:b=true→P m):P (cn b m z):=by
 cases b
 ·exact hz
 ·exact h rfl
end
section
set_option backward.match.sparseCases false
structure Tab where
 gv:List (Str×V)
 fn:List (Str×Value)
 at_:List (Str×Nat)
 st:List (Str×Nat)
 me:List (Str×Nat×Addr)
 bm:List (Str×String×String)
 tr:List Pos
 nd:List Pos
 cp:List (Pos×Gm×Nat×Nat)
structure Tab.Ok (T:Tab) (c:Ctx):Prop where
 gv:∀ x y,T.gv.lookup x=some y→∃ v,nsIn c.K mainGlobals x=some (some v)∧∀ X σ μ h,Rel c X σ μ h→VRσ X σ μ h v y
 fn:∀ x f,T.fn.lookup x=some f→(c.mg x=some f∨(c.mg x=none∧c.mb x=some f))∧keepOk c.K f=true
 at_:∀ x C,T.at_.lookup x=some C→attrOk c.K C x=true
 st:∀ x C,T.st.lookup x=some C→setOk c.K C x=true
 me:∀ x p,T.me.lookup x=some p→methOk c.K p.1 x p.2=true
 bm:∀ x p,T.bm.lookup x=some p→PlainAttrs p.1∧Slot p.1 x p.2∧typeOf (.builtin p.2)=pure (.type "method_descriptor")
theorem m3{α:Type}{P:Str→α→Prop}:∀ x y,([]:List (Str×α)).lookup x=some y→P x y:=fun _ _ h=>by cases h
theorem bS{α:Type}{P:Str→α→Prop}{k:Str}{a:α}{l:List (Str×α)}(h:P k a)(t:∀ x y,l.lookup x=some y→P x y):∀ x y,((k,a)::l).lookup x=some y→P x y:=fun x y e=>by
 rw[List.lookup_cons] at e
 cases hx:x==k with
 | true=>rw[hx] at e;cases e;rw[eq_of_beq hx];exact h
 | false=>rw[hx] at e;exact t x y e
theorem f8{α:Type}:∀ {l:List (Str×α)} {x:Str} {y:α},l.lookup x=some y→(x,y)∈l
 | (k,a)::l,x,y,e=>by
  rw[List.lookup_cons] at e
  cases hx:x==k with
  | true=>rw[hx] at e;cases e;rw[eq_of_beq hx];exact List.mem_cons_self
  | false=>rw[hx] at e;exact List.mem_cons_of_mem _ (f8 e)
theorem eh{α:Type}{P:Str→α→Bool}{l:List (Str×α)}(h:(l.all fun p=>P p.1 p.2)=true)(x:Str)(y:α)(e:l.lookup x=some y):P x y=true:=List.all_eq_true.mp h _ (f8 e)
theorem lV{α β:Type}{f g:Str×α→β}{l:List (Str×α)}(h:l.map f=l.map g)(x:Str)(y:α)(e:l.lookup x=some y):f (x,y)=g (x,y):=List.map_inj_left.mp h _ (f8 e)
theorem uP{c:Ctx}(ok:c.Ok){l m:List (Str×Value)}(h1:(l.map fun p=>nsIn c.K mainGlobals p.1)=l.map fun p=>some (some p.2))(h2:(m.map fun p=>bootBuiltins p.1)=m.map fun p=>some p.2)(h3:(m.all fun p=>bNames.contains p.1)=true)
  (h4:((l++m).all fun p=>keepOk c.K p.2)=true) (x:Str) (f:Value) (e:(l++m).lookup x=some f):(c.mg x=some f∨(c.mg x=none∧c.mb x=some f))∧keepOk c.K f=true:=by
 refine⟨?_,eh (P:=fun _ f=>keepOk c.K f) h4 x f e⟩
 rw[List.lookup_append] at e
 cases h:l.lookup x with
 | some y=>rw[h] at e;cases e;exact .inl (ok.top (lV h1 _ _ h))
 | none=>rw[h] at e;exact .inr (ok.bi (lV h2 _ _ e) (List.contains_iff_mem.mp (eh (P:=fun x _=>bNames.contains x) h3 _ _ e)))
set_option genInjectivity false in
set_option genInjectivity false in
structure KK where
 E:Gm→Expr→ME V
 T:Gm→Expr→ME Bool
 A:Gm→Nat→Bool→Expr→MA
structure KK.Ok (c:Ctx) (r:KK):Prop where
 E:∀ Γ e,SimE c Γ e (r.E Γ e)
 T:∀ Γ e,SimT c Γ e (r.T Γ e)
 A:∀ Γ bs l t,SimA c Γ bs t (r.A Γ bs l t)
noncomputable def cZ:MA:=fun _ _ _ _ _=>False
section
variable(c:Ctx)(T:Tab)(r:KK)(Γ:Gm)
noncomputable def kName(x:Str):ME V:=cn (x=="__debug__"||x=="__classdict__") neverE (el (Γ.lookup x) neverE fun o=>el o (el (T.gv.lookup x) neverE bg) aa)
noncomputable def kConst:Const→ME V
 | .none=>dm
 | .bool b=>bf b
 | .int i=>ak i
 | .str s=>al s
 | _=>neverE
noncomputable def kEs(l:List Expr):ME (List V):=l.rec ae fun e _ m=>cn (pl e) (ab (r.E Γ e) m) neverE
noncomputable def kTs(op:BoolOp)(l:List Expr):ME Bool:=l.rec (op.casesOn (aD true) (aD false)) fun e _ m=>op.casesOn (aE (r.T Γ e) m) (orM (r.T Γ e) m)
noncomputable def kVs(op:BoolOp)(l:List Expr):Expr→ME V:=l.rec (fun e=>r.E Γ e) fun f _ m e=>op.casesOn (iu (r.E Γ e) (m f)) (nk (r.E Γ e) (m f))
noncomputable def kPt(e:Option Expr):ME (Option Int):=el e fk fun e=>ptM (r.E Γ e)
noncomputable def kPs(ks:List (Option Expr)):List Expr→Option (List (Expr×Expr)×ME (List (V×V))) :=
 ks.rec (fun vs=>vs.casesOn (some ([],b9)) fun _ _=>none) fun k _ m vs=>el k none fun k=>vs.casesOn none fun v vs=>(m vs).map fun m=>((k,v)::m.1,bH (r.E Γ k) (r.E Γ v) m.2)
noncomputable def kDict(st:Bool)(ks:List (Option Expr))(vs:List Expr):ME V :=
 ks.casesOn (vs.casesOn cY fun _ _=>neverE) fun k ks=>el (kPs r Γ (k::ks) vs) neverE fun m=>cn (Nat.ble m.1.length 15) (bO st m.2) neverE
noncomputable def kJ(l:List Expr):JM:=l.rec fA fun e _ m=>dM (r.E Γ e) m
noncomputable def kJoin(l:List Expr):ME V:=l.casesOn neverE fun a l=>l.casesOn neverE fun b l=>fJ (kJ r Γ (a::b::l))
noncomputable def kSub(e i:Expr):ME V:=el (asSl i) (cn (pl i) (aq (r.E Γ e) (r.E Γ i)) neverE) fun x=>eK (r.E Γ e) (kPt r Γ x.1.1) (kPt r Γ x.1.2.1)
noncomputable def kI(it tg:Expr):ME (List V):=el (asCall it) (aG (r.E Γ it)) fun x=>cn (x.1.2.1.all pl)
 (cn (x.1.1.1=="reversed"&&Γ.lookup "reversed"==some none) (fX (kEs r Γ x.1.2.1))
 (aG (r.E Γ it))
 )
 neverE
noncomputable def kF(ifs:List Expr):ME Bool:=ifs.casesOn (aD true) fun e es=>es.casesOn (r.T Γ e) fun _ _=>neverE
noncomputable def kComp(x:CompX):ME V:=el (T.cp.lookup x.p) neverE fun p=>cn (compOk Γ p.1 p.2.1 x.sc.names&&x.sc.kind==.function&&pl x.it)
 (aO (kI r Γ x.it x.tg) p.2.1 p.2.2 (r.A p.1 p.2.1 false x.tg) (kF r p.1 x.ifs) (r.E p.1 x.elt)) neverE
noncomputable def kComp2(x:CompX2):ME V:=el (T.cp.lookup x.p) neverE fun p=>cn (compOk Γ p.1 p.2.1 x.sc.names&&(x.sc.kind==.function&&pl x.it)&&pl x.it2)
 (ew (kI r Γ x.it x.tg) p.2.1 p.2.2 1000 (r.A p.1 p.2.1 false x.tg) (kF r p.1 x.ifs) (genB (kI r p.1 x.it2 x.tg2) (r.A p.1 p.2.1 false x.tg2) (kF r p.1 x.ifs2) (r.E p.1 x.elt))) neverE
noncomputable def kCallN(x:Str)(args:List Expr):ME V:=el (T.fn.lookup x) neverE fun f=>cn (Γ.lookup x==some none&&!(x=="__debug__")) (ay c f (kEs r Γ args)) neverE
noncomputable def kMeth(e:Expr)(name:Str)(args:List Expr):ME V:=el (T.bm.lookup name) (el (T.me.lookup name) neverE fun p=>ai c (fun C=>if C=p.1 then some p.2 else none) name (r.E Γ e) (kEs r Γ args)) fun p=>aW c p.1 p.2 (r.E Γ e) (kEs r Γ args)
noncomputable def kCall(pos:Pos)(args:List Expr):Expr→ME V
 | .Name x _=>(kCallN c T r Γ x args)
 | .Attribute e name apos=>cn (nca e&&Nat.blt args.length 30&&apos.endLine==pos.line) (kMeth c T r Γ e name args) neverE
 | _=>neverE
noncomputable def kE:Expr→ME V
 | .Name x _=>kName T Γ x
 | .Constant k _ _=>kConst k
 | .BinOp l op x _=>au op (r.E Γ l) (r.E Γ x)
 | .UnaryOp op e _=>op.casesOn neverE (fG (r.E Γ e)) neverE (bW (r.E Γ e))
 | .Compare l ops cs _=>el (one ops) neverE fun o=>el (one cs) neverE fun x=>cn (pl x.1) (bl o.1 (r.E Γ l) (r.E Γ x.1)) neverE
 | .BoolOp op es _=>es.casesOn neverE fun e es=>kVs r Γ op es e
 | .IfExp t a b _=>aR (r.T Γ t) (r.E Γ a) (r.E Γ b)
 | .Attribute e x _=>cn (nca e) (el (T.at_.lookup x) neverE fun C=>am (fun D=>D==C) x (r.E Γ e)) neverE
 | .Subscript e i _=>kSub r Γ e i
 | .Tuple es _ _=>aB (kEs r Γ es)
 | .List es p=>cn (T.tr.contains p) (tlM (kEs r Γ es)) (flM (kEs r Γ es))
 | .Dict ks vs p=>kDict r Γ (!T.nd.contains p) ks vs
 | .JoinedStr es _=>kJoin r Γ es
 | .FormattedValue e cv sp _=>cn (cv == -1&&sp.isNone) (eM (r.E Γ e)) neverE
 | .ListComp e g s p=>el (asComp (.ListComp e g s p)) neverE fun x=>kComp T r Γ x.1
 | .Call f args kw pos=>el (noKw kw) neverE fun _=>cn (args.all pl) (kCall c T r Γ pos args f) neverE
 | _=>neverE
noncomputable def kT:Expr→ME Bool
 | .UnaryOp op e _=>op.casesOn neverE (dg (r.T Γ e)) neverE neverE
 | .Compare l ops cs _=>el (one ops) (el (three ops) neverE fun o=>el (three cs) neverE fun x=>cn (pl x.1.2.2) (fy o.1.1 o.1.2.1 o.1.2.2 (r.E Γ l) (r.E Γ x.1.1) (r.E Γ x.1.2.1) (r.E Γ x.1.2.2)) neverE) fun o=>el (one cs) neverE fun x=>cn (pl x.1) (an o.1 (r.E Γ l) (r.E Γ x.1)) neverE
 | .BoolOp op es _=>kTs r Γ op es
 | .IfExp t a b _=>aR (r.T Γ t) (r.T Γ a) (r.T Γ b)
 | e=>aH (r.E Γ e)
noncomputable def kAs(bs:Nat)(l:List Expr):Nat→Env'→List V→Mine.St→(Env'→Mine.St→Prop)→Prop :=
 l.rec bJ fun t _ m=>aU (r.A Γ bs false t) m
noncomputable def kA(bs:Nat)(l:Bool):Expr→MA
 | .Name x _=>el ((Γ.lookup x).bind id) cZ fun i=>cn (Nat.ble bs i) (nmA i) cZ
 | .Attribute e x _=>el (T.st.lookup x) cZ fun C=>aT (fun D=>D==C) x (r.E Γ e)
 | .Subscript e i _=>ci (r.E Γ e) (r.E Γ i)
 | .Tuple ts _ _=>cn (ts.all pl) (cn l (gz ts.length (kAs r Γ bs ts)) (bQ ts.length (kAs r Γ bs ts))) cZ
 | _=>cZ
end
noncomputable def kk(c:Ctx)(T:Tab)(n:Nat):KK:=n.rec ⟨fun _ _=>neverE,fun _ _=>neverE,fun _ _ _ _=>cZ⟩ fun _ r=>⟨kE c T r,kT r,kA T r⟩
section
variable(c:Ctx)(T:Tab)(r:KK)(Γ:Gm)(bs:Nat)
noncomputable def eL(nm:List (Str×Pos)):List Nat:=nm.filterMap fun p=>(Γ.lookup p.1).bind id
noncomputable def kAN(nm:List (Str×Pos))(es:List Expr):MS :=
 cn ((nm.length==(eL Γ nm).length&&decide (eL Γ nm).Nodup&&(nm.zip (eL Γ nm)).all fun p=>Γ.lookup p.1.1==some (some p.2)&&decide (bs≤p.2))&&!es.all (constantsAlone 8)) (aQ (eL Γ nm) (kEs r Γ es)) aJ
noncomputable def kAsg(v:Expr):Expr→MS
 | .Tuple ts k q=>el (asTup v) (el (asComp v) (cn (nco v&&v.ctorIdx != 25) (aw (r.A Γ bs false (.Tuple ts k q)) (r.E Γ v)) aJ) fun y=>aw (r.A Γ bs true (.Tuple ts k q)) (kComp T r Γ y.1)) fun x=>el (jt ts) aJ fun nm=>kAN r Γ bs nm.1 x.1.1
 | .Name x p=>el (asComp v) (el (qN v) (cn (nco v) (aw (r.A Γ bs false (.Name x p)) (r.E Γ v)) aJ) fun y=>el ((Γ.lookup x).bind id) aJ fun i=>cn (Nat.ble bs i) (aw (nmA i) (kComp2 T r Γ y.1)) aJ) fun y=>el ((Γ.lookup x).bind id) aJ fun i=>cn (Nat.ble bs i) (aw (nmA i) (kComp T r Γ y.1)) aJ
 | .Attribute e x p=>cn (nco v) (aw (r.A Γ bs false (.Attribute e x p)) (r.E Γ v)) aJ
 | .Subscript e i p=>cn (nco v) (aw (r.A Γ bs false (.Subscript e i p)) (r.E Γ v)) aJ
 | _=>aJ
noncomputable def kS(B:List Stmt→MS):Stmt→MS
 | .Return e _=>el e oz fun e=>ao (r.E Γ e)
 | .If t a b _=>ifM (r.T Γ t) (B a) (B b)
 | .While t b o _=>o.casesOn (cJ (r.T Γ t) (B b)) fun _ _=>aJ
 | .For t i b o _=>o.casesOn (cn (pl i) (bv (kI r Γ i t) (r.A Γ bs false t) (B b)) aJ) fun _ _=>aJ
 | .Expr e _=>cn (nco e) (aM (r.E Γ e)) aJ
 | .Continue _=>eA
 | .Break _=>ir
 | .Assign ts v _=>el (one ts) aJ fun t=>kAsg T r Γ bs v t.1
 | _=>aJ
noncomputable def kB(S:Stmt→MS)(l:List Stmt):MS:=l.rec ah fun s _ m=>ag (S s) m
noncomputable def kBn(n:Nat):List Stmt→MS:=n.rec (fun _=>aJ) fun _ m=>kB (kS T r Γ bs m)
end
end
section
set_option backward.match.sparseCases false
section
variable{c:Ctx}{T:Tab}{r:KK}{Γ:Gm}
theorem cU{e:Expr}:SimT c Γ e neverE:=fun _ _ _ _ _ _ _ _ _ _ _ _ _ _ h=>h.elim
theorem yZ{e:List Expr}:SimEs c Γ e neverE:=fun _ _ _ _ _ _ _ _ _ _ _ _ _ _ _ h=>h.elim
theorem tn{e t:Expr}:SimI c Γ e t neverE:=fun _ _ _ _ _ _ _ _ _ _ _ _ _ _ h=>h.elim
theorem u5{e:List Expr}:SimF c Γ e neverE:=fun _ _ _ _ _ _ _ _ _ _ _ _ _ _ h=>h.elim
theorem dC{bs:Nat}{t:Expr}:SimA c Γ bs t cZ:=fun _ _ _ _ _ _ _ _ _ _ _ _ _ _ _ _ h=>h.elim
theorem bq{α:Type}{P:α→Prop}{a b:α}(e:a=b)(h:P b):P a:=e▸h
theorem vF(ok:c.Ok)(hT:T.Ok c)(x:Str)(p:Pos):SimE c Γ (.Name x p) (kName T Γ x):=by
 unfold kName
 cases hd:x==("__debug__":Str) with
 | true=>exact aI
 | false =>
 cases hn:x==("__classdict__":Str) with
 | true=>exact aI
 | false =>
 refine bL (o:=Γ.lookup x) aI fun o ho=>?_
 cases o with
 | none=>exact bL (o:=T.gv.lookup x) aI fun y hy=>(hT.gv x y hy).elim fun _ k=>ss ok k.1 k.2 ho hd
 | some i=>exact rI ho hd hn
theorem cf(hr:KK.Ok c r)(es:List Expr):SimEs c Γ es (kEs r Γ es):=by
 induction es with
 | nil=>exact zf
 | cons e es ih=>exact aK yZ fun h=>vM (hr.E _ _) ih ((bR h).star _)
theorem ym(hr:KK.Ok c r)(op:BoolOp)(es:List Expr):SimTs c Γ op es (kTs r Γ op es):=by
 induction es with
 | nil =>
  cases op
  ·exact yS
  ·exact sZ
 | cons e es ih =>
  cases op
  ·exact rk (hr.T _ _) ih
  ·exact tA (hr.T _ _) ih
theorem ye(hr:KK.Ok c r)(op:BoolOp)(e:Expr)(es:List Expr):SimVs c Γ op (e::es) (kVs r Γ op es e):=by
 induction es generalizing e with
 | nil=>exact yb (hr.E _ _)
 | cons f es ih =>
  cases op
  ·exact qV (hr.E _ _) (ih _)
  ·exact xk (hr.E _ _) (ih _)
theorem mU(hr:KK.Ok c r)(e:Option Expr):SimPt c Γ e (kPt r Γ e):=by
 cases e
 ·exact yB
 ·exact sk (hr.E _ _)
theorem uL(hr:KK.Ok c r)(ks:List (Option Expr)):∀ vs m,kPs r Γ ks vs=some m→ks=(m.1.map (·.1)).map some∧vs=m.1.map (·.2)∧SimPs c Γ m.1 m.2:=by
 induction ks with
 | nil=>intro vs m h;cases vs with
  | nil=>cases h;exact⟨rfl,rfl,qj⟩
  | cons=>cases h
 | cons k ks ih=>intro vs m h;cases k with
  | none=>cases h
  | some k=>cases vs with
   | nil=>cases h
   | cons v vs =>
    obtain⟨m',h1,rfl⟩:=Option.map_eq_some_iff.mp h
    obtain⟨a,b,d⟩:=ih vs m' h1
    exact⟨congrArg (some k::·) a,congrArg (v::·) b,rc (hr.E _ _) (hr.E _ _) d⟩
theorem xo(hr:KK.Ok c r)(st:Bool)(ks:List (Option Expr))(vs:List Expr)(p:Pos):SimE c Γ (.Dict ks vs p) (kDict r Γ st ks vs):=by
 cases ks with
 | nil=>cases vs with
  | nil=>exact y5
  | cons=>exact aI
 | cons k ks =>
  refine bL (o:=kPs r Γ (k::ks) vs) aI fun m hm=>aK aI fun hl=>?_
  obtain⟨a,b,d⟩:=uL hr _ _ _ hm
  rw[a]
  exact rA rfl b (fun e=>by rw[e] at a;cases a) (Nat.le_of_ble_eq_true hl) d
theorem rb(hr:KK.Ok c r)(es:List Expr):SimJ c Γ es (kJ r Γ es):=by
 induction es with
 | nil=>exact xK
 | cons e es ih=>exact uB (hr.E _ _) ih
theorem yf(hr:KK.Ok c r)(es:List Expr)(p:Pos):SimE c Γ (.JoinedStr es p) (kJoin r Γ es):=by
 cases es with
 | nil=>exact aI
 | cons a es=>cases es with
  | nil=>exact aI
  | cons=>exact qG (rb hr _)
theorem uR(hr:KK.Ok c r)(e i:Expr)(p:Pos):SimE c Γ (.Subscript e i p) (kSub r Γ e i):=by
 refine a9 (aK aI fun h=>yx (hr.E _ _) (hr.E _ _) (bR h).sub) fun x=>?_
 exact bq (P:=fun i=>SimE c Γ (.Subscript e i p) _) x.2 (rp (hr.E _ _) (mU hr _) (mU hr _))
theorem isTop{x y:Str}{o:Option (Option Nat)}(h:(x==y&&o==some none)=true):x=y∧o=some none :=
 have h:=Bool.and_eq_true_iff.mp h
 ⟨eq_of_beq h.1,eq_of_beq h.2⟩
theorem d8(ok:c.Ok)(hr:KK.Ok c r)(it tg:Expr):SimI c Γ it tg (kI r Γ it tg):=by
 have z:SimI c Γ it tg (aG (r.E Γ it)):=s5 (hr.E _ _)
 refine a9 z fun x=>aK tn fun hn=>aK z fun hc=>?_
 ·refine bq (P:=fun e=>SimI c Γ e tg _) x.2 ?_
  rw[(isTop hc).1]
  exact yK ok (ok.bi (by decide +kernel) (by decide +kernel)) (cf hr _) (isTop hc).2 (eH hn)
theorem eR(hr:KK.Ok c r)(l:List Expr):SimF c Γ l (kF r Γ l):=by
 cases l with
 | nil=>exact w9
 | cons e es=>cases es with
  | nil=>exact xp (hr.T _ _)
  | cons=>exact u5
theorem and3{a b d:Bool}(h:(a&&b&&d)=true):a=true∧b=true∧d=true:=by
 cases a<;>cases b<;>first | exact⟨rfl,rfl,h⟩ | cases h
theorem oi(ok:c.Ok)(hr:KK.Ok c r)(x:CompX):SimE c Γ x.e (kComp T r Γ x):=by
 refine a9 aI fun p=>aK aI fun h=>?_
 have h:=and3 h
 exact vb h.1 (eq_of_beq h.2.1) (d8 ok hr _ _) (hr.A _ _ _ _) (eR hr _) (hr.E _ _) (bR h.2.2).set
theorem yT(ok:c.Ok)(hT:T.Ok c)(hr:KK.Ok c r){x:Str}{args:List Expr}(hn:args.all pl=true)(p q:Pos):SimE c Γ (.Call (.Name x p) args [] q) (kCallN c T r Γ x args):=by
 refine bL aI fun f hf=>aK aI fun h=>?_
 have h:=Bool.and_eq_true_iff.mp h
 exact qP ok (hT.fn x f hf).1 (hT.fn x f hf).2 (cf hr _) (eq_of_beq h.1) (eH hn) ((Bool.not_eq_true' _).mp h.2)
theorem rx{n:Nat}{ts:List (Bool×Sem Value)}(h:ts.all (!·.1)=true)(hn:n < 30):methodCallForm (n+0) ts []=true:=by
 unfold methodCallForm
 rw[h]
 exact decide_eq_true hn
theorem lG{e:Expr}{name:Str}{args:List Expr}{apos pos:Pos}(hn:args.all pl=true)(h:(nca e&&Nat.blt args.length 30&&apos.endLine==pos.line)=true)(env:Env) :
  eval (.Call (.Attribute e name apos) args [] pos) env=(do
   let ov ← eval e env
   standAt apos.atName
   let (f,first) ← holding [ov] (getMethod ov name (do return (← importBound e env).getD true))
   callWith pos f first (backTo pos (starEach args env)) []):=by
 have h:=and3 h
 have h3:eval (.Call (.Attribute e name apos) args [] pos) env=(do
  let ov ← attributeBase e name env (eval e env)
  standAt apos.atName
  methodCall e name apos pos env ov (args.length+0) (backTo pos (starEach args env)) []):=rfl
 rw[h3,jL h.1]
 unfold methodCall calleeOf methodCallPos
 rw[rx (vc hn env) (Nat.blt_eq.mp h.2.1),show (!true||apos.endLine==pos.line)=true from h.2.2]
 rfl
theorem ve(ok:c.Ok)(hT:T.Ok c)(hr:KK.Ok c r){e:Expr}{name:Str}{args:List Expr}{apos pos:Pos}(hn:args.all pl=true)(h:(nca e&&Nat.blt args.length 30&&apos.endLine==pos.line)=true) :
  SimE c Γ (.Call (.Attribute e name apos) args [] pos) (kMeth c T r Γ e name args) :=
 bL (bL aI fun _ hp=>rd ok (hr.E _ _) (iS (hT.me _ _ hp)) (cf hr _) (eH hn) (lG hn h))
  fun _ hb=>xe ok (hr.E _ _) (hT.bm _ _ hb).1 (hT.bm _ _ hb).2.1 (hT.bm _ _ hb).2.2 (cf hr _) (eH hn) (lG hn h)
theorem qe(ok:c.Ok)(hT:T.Ok c)(hr:KK.Ok c r){args:List Expr}(hn:args.all pl=true)(pos:Pos)(f:Expr):SimE c Γ (.Call f args [] pos) (kCall c T r Γ pos args f):=by
 cases f with
 | Name x p=>exact (yT ok hT hr hn _ _)
 | Attribute e name apos=>exact aK aI fun h=>ve ok hT hr hn h
 | _=>exact aI
theorem xi(ok:c.Ok)(hT:T.Ok c)(hr:KK.Ok c r)(Γ:Gm)(e:Expr):SimE c Γ e (kE c T r Γ e):=by
 cases e with
 | Name x p=>exact vF ok hT x p
 | Constant k=>cases k with
  | none=>exact x9
  | bool=>exact ww
  | int=>exact zi
  | str=>exact qU
  | _=>exact aI
 | BinOp=>exact pV (hr.E _ _) (hr.E _ _)
 | UnaryOp op=>cases op with
  | Not=>exact t9 (hr.E _ _)
  | USub=>exact tO (hr.E _ _)
  | _=>exact aI
 | Compare l ops cs =>
  refine a9 aI fun o=>a9 aI fun x=>aK aI fun h=>?_
  exact bq (P:=fun l=>SimE c Γ (.Compare _ l _ _) _) o.2 <| bq (P:=fun r=>SimE c Γ (.Compare _ _ r _) _) x.2 <| xB ok (hr.E _ _) (hr.E _ _) ((bR h).marks _)
 | BoolOp op es=>cases es with
  | nil=>exact aI
  | cons=>exact xU (ye hr _ _ _)
 | IfExp=>exact wl (hr.T _ _) (hr.E _ _) (hr.E _ _)
 | Attribute e x p=>exact aK aI fun h=>bL aI fun C hC=>xY ok (hr.E _ _) (ki (hT.at_ _ _ hC)) (jL h)
 | Subscript=>exact uR hr _ _ _
 | Tuple=>exact oQ (cf hr _)
 | List es p=>exact aK (tY (cf hr _)) fun _=>yr (cf hr _)
 | Dict=>exact xo hr _ _ _ _
 | JoinedStr=>exact yf hr _ _
 | FormattedValue e cv sp p =>
  refine aK aI fun h=>?_
  have h:=Bool.and_eq_true_iff.mp h
  rw[eq_of_beq h.1,Option.isNone_iff_eq_none.mp h.2]
  exact uO (hr.E _ _)
 | ListComp e g s p=>exact a9 aI fun x=>bq (P:=fun e=>SimE c Γ e _) x.2 (oi ok hr x.1)
 | Call f args kw pos=>exact a9 aI fun x=>aK aI fun h=>bq (P:=fun k=>SimE c Γ (.Call f args k pos) _) x.down (qe ok hT hr h _ _)
 | _=>exact aI
theorem yp(ok:c.Ok)(hr:KK.Ok c r)(Γ:Gm)(e:Expr):SimT c Γ e (kT r Γ e):=by
 cases e with
 | UnaryOp op=>cases op with
  | Not=>exact yV (hr.T _ _)
  | _=>exact cU
 | Compare l ops cs =>
  refine a9 (a9 cU fun o=>a9 cU fun x=>aK cU fun h=>?_) fun o=>a9 cU fun x=>aK cU fun h=>?_
  ·exact bq (P:=fun l=>SimT c Γ (.Compare _ l _ _) _) o.2 <| bq (P:=fun r=>SimT c Γ (.Compare _ _ r _) _) x.2 <| vQ ok (hr.E _ _) (hr.E _ _) (hr.E _ _) (hr.E _ _) ((bR h).marks _)
  exact bq (P:=fun l=>SimT c Γ (.Compare _ l _ _) _) o.2 <| bq (P:=fun r=>SimT c Γ (.Compare _ _ r _) _) x.2 <| rO ok (hr.E _ _) (hr.E _ _) ((bR h).marks _)
 | BoolOp=>exact rP (ym hr _ _)
 | IfExp=>exact yQ (hr.T _ _) (hr.T _ _) (hr.T _ _)
 | _=>exact wD (hr.E _ _) (fun _ _=>rfl)
theorem i9(hr:KK.Ok c r)(bs:Nat){ts:List Expr}(h:ts.all pl=true):SimAs c Γ bs ts (kAs r Γ bs ts) :=
 d4 (P:=fun ts=>SimAs c Γ bs ts (kAs r Γ bs ts)) h y3 fun e es s ih=>yu (hr.A _ _ _ _) ih fun env=>congrArg (List.map (·.2)) (s.asE es env)
theorem iz{α:Type}{o:Option (Option α)}{x:α}(h:o.bind id=some x):o=some (some x):=by
 cases o with
 | none=>cases h
 | some y=>exact congrArg some h
theorem qX(ok:c.Ok)(hT:T.Ok c)(hr:KK.Ok c r)(Γ:Gm)(bs:Nat)(l:Bool)(t:Expr):SimA c Γ bs t (kA T r Γ bs l t):=by
 cases t with
 | Name x p=>exact bL dC fun i hi=>aK dC fun h=>qb (iz hi) (Nat.le_of_ble_eq_true h)
 | Attribute e x p=>exact bL dC fun C hC=>qa ok (hr.E _ _) (ki (hT.st _ _ hC))
 | Subscript=>exact yl (hr.E _ _) (hr.E _ _)
 | Tuple ts =>
  refine aK dC fun h=>aK (tu (i9 hr _ h) (kU h) (jh h)) fun _=>u3 (i9 hr _ h) (kU h) (jh h)
 | _=>exact dC
end
theorem fP{c:Ctx}{T:Tab}(ok:c.Ok)(hT:T.Ok c)(n:Nat):KK.Ok c (kk c T n):=by
 induction n with
 | zero=>exact⟨fun _ _=>aI,fun _ _=>cU,fun _ _ _ _=>dC⟩
 | succ n ih=>exact⟨xi ok hT ih,yp ok ih,qX ok hT ih⟩
section
variable{c:Ctx}{T:Tab}{r:KK}{Γ:Gm}{bs:Nat}
theorem qT(hr:KK.Ok c r){nm:List (Str×Pos)}{es ts:List Expr}(h:ts=nm.map fun p=>Expr.Name p.1 p.2){k k':Nat}{tp vp pos:Pos}:SimS c Γ bs (.Assign [.Tuple ts k tp] (.Tuple es k' vp) pos) (kAN r Γ bs nm es) :=
 aK bh fun h2=>have h2:=Bool.and_eq_true_iff.mp h2;rv h (cf hr _) h2.1 ((Bool.not_eq_true' _).mp h2.2)
theorem up(ok:c.Ok)(hr:KK.Ok c r){x:CompX}{y:Str}{i:Nat}{p pos:Pos}(hi:Γ.lookup y=some (some i))(hb:bs≤i):SimS c Γ bs (.Assign [.Name y p] x.e pos) (aw (nmA i) (kComp T r Γ x)):=by
 have hz:SimS c Γ bs (.Assign [.Name y p] x.e pos) (aw (nmA i) neverE):=fun _ _ _ _ _ _ _ _ _ _ _ _ _ h=>h.elim
 refine a9 (P:=fun m=>SimS c Γ bs _ (aw (nmA i) m)) hz fun q=>aK (P:=fun m=>SimS c Γ bs _ (aw (nmA i) m)) hz fun h=>?_
 have h:=and3 h
 exact qf h.1 (eq_of_beq h.2.1) (d8 ok hr _ _) (hr.A _ _ _ _) (eR hr _) (hr.E _ _) hi hb (bR h.2.2).set
theorem uz(ok:c.Ok)(hr:KK.Ok c r){x:CompX2}{y:Str}{i:Nat}{p pos:Pos}(hi:Γ.lookup y=some (some i))(hb:bs≤i):SimS c Γ bs (.Assign [.Name y p] x.e pos) (aw (nmA i) (kComp2 T r Γ x)):=by
 have hz:SimS c Γ bs (.Assign [.Name y p] x.e pos) (aw (nmA i) neverE):=fun _ _ _ _ _ _ _ _ _ _ _ _ _ h=>h.elim
 refine a9 (P:=fun m=>SimS c Γ bs _ (aw (nmA i) m)) hz fun q=>aK (P:=fun m=>SimS c Γ bs _ (aw (nmA i) m)) hz fun h=>?_
 have h:=and3 h
 have h':=Bool.and_eq_true_iff.mp h.2.1
 exact ot (g:=1000) (Nat.le_of_ble_eq_true rfl) h.1 (eq_of_beq h'.1) (d8 ok hr _ _) (hr.A _ _ _ _) (eR hr _) (.two (d8 ok hr _ _) (hr.A _ _ _ _) (eR hr _) (hr.E _ _) (bR h.2.2).set) hi hb (bR h'.2).set
theorem fc{t v:Expr}{n:Nat}(h:nco v=true)(env:Env):swapsWithSole [t] v n env=pure false:=lZ h env
theorem xL{ts:List Expr}{k:Nat}{q:Pos}{v:Expr}(h:(v.ctorIdx != 25)=true)(env:Env):swappedStores [.Tuple ts k q] v env=pure none:=by cases v<;>first | rfl | cases h
theorem uf(ok:c.Ok)(hr:KK.Ok c r)(t v:Expr)(pos:Pos):SimS c Γ bs (.Assign [t] v pos) (kAsg T r Γ bs v t):=by
 cases t with
 | Tuple ts k q =>
  have z:SimS c Γ bs (.Assign [.Tuple ts k q] v pos) (cn (nco v&&v.ctorIdx != 25) (aw (r.A Γ bs false (.Tuple ts k q)) (r.E Γ v)) aJ):=aK bh fun h=>have h:=Bool.and_eq_true_iff.mp h;dS (hr.A _ _ _ _) (hr.E _ _) (fc h.1) (xL h.2) (fun _=>rfl)
  exact a9 (a9 z fun y=>bq (P:=fun e=>SimS c Γ bs (.Assign _ e pos) _) y.2 (dS (hr.A _ _ _ _) (oi ok hr y.1) (fun _=>rfl) (fun _=>rfl) (fun _=>rfl))) fun x=>bq (P:=fun e=>SimS c Γ bs (.Assign _ e pos) _) x.2 (a9 bh fun nm=>qT hr nm.2)
 | Name y p =>
  refine a9 (a9 (aK bh fun h=>dS (hr.A _ _ _ _) (hr.E _ _) (fc h) (fun _=>rfl) (fun _=>rfl)) fun x=>bq (P:=fun e=>SimS c Γ bs (.Assign _ e pos) _) x.2 (bL bh fun i hi=>aK bh fun hb=>uz ok hr (iz hi) (Nat.le_of_ble_eq_true hb))) fun x=>?_
  exact bq (P:=fun e=>SimS c Γ bs (.Assign _ e pos) _) x.2 (bL bh fun i hi=>aK bh fun hb=>up ok hr (iz hi) (Nat.le_of_ble_eq_true hb))
 | Attribute=>exact aK bh fun h=>dS (hr.A _ _ _ _) (hr.E _ _) (fc h) (fun _=>rfl) (fun _=>rfl)
 | Subscript=>exact aK bh fun h=>dS (hr.A _ _ _ _) (hr.E _ _) (fc h) (fun _=>rfl) (fun _=>rfl)
 | _=>exact bh
theorem wZ{S:Stmt→MS}(h:∀ s,SimS c Γ bs s (S s))(l:List Stmt):SimB c Γ bs l (kB S l):=by
 induction l with
 | nil=>exact yg
 | cons s l ih=>exact vt (h s) ih
theorem jq(ok:c.Ok)(hr:KK.Ok c r){B:List Stmt→MS}(hB:∀ l,SimB c Γ bs l (B l))(s:Stmt):SimS c Γ bs s (kS T r Γ bs B s):=by
 cases s with
 | Return e=>cases e with
  | none=>exact vH
  | some=>exact su (hr.E _ _)
 | If=>exact sy (hr.T _ _) (hB _) (hB _)
 | While t b o=>cases o with
  | nil=>exact u7 (hr.T _ _) (hB _)
  | cons=>exact bh
 | For t i b o=>cases o with
  | nil=>exact aK bh fun h=>w0 (d8 ok hr _ _) (hr.A _ _ _ _) (hB _) (bR h).set
  | cons=>exact bh
 | Expr=>exact aK bh fun h=>qh (hr.E _ _) (lZ h)
 | Continue=>exact rr
 | Break=>exact wT
 | Assign ts v p=>exact a9 bh fun t=>bq (P:=fun l=>SimS c Γ bs (.Assign l v p) _) t.2 (uf ok hr t.1 v p)
 | _=>exact bh
theorem pH(ok:c.Ok)(hr:KK.Ok c r)(n:Nat):∀ l,SimB c Γ bs l (kBn T r Γ bs n l):=by
 induction n with
 | zero=>exact fun _ _ _ _ _ _ _ _ _ _ _ _ _ _ h=>h.elim
 | succ n ih=>exact wZ (jq ok hr ih)
end
noncomputable def kBm(c:Ctx)(T:Tab)(Γ:Gm)(l:List Stmt):MS:=kBn T (kk c T 30) Γ 0 12 l
theorem SimB.of{c:Ctx}{T:Tab}{Γ:Gm}{l:List Stmt}{m:MS}(ok:c.Ok)(hT:T.Ok c)(h:kBm c T Γ l=m):SimB c Γ 0 l m:=h▸pH ok (fP ok hT 30) 12 l
theorem SimEs.of{c:Ctx}{T:Tab}{Γ:Gm}{l:List Expr}{m:ME (List V)}(ok:c.Ok)(hT:T.Ok c)(h:kEs (kk c T 30) Γ l=m):SimEs c Γ l m:=h▸cf (fP ok hT 30) l
theorem SimS.of{c:Ctx}{T:Tab}{Γ:Gm}{l:Stmt}{m:MS}(ok:c.Ok)(hT:T.Ok c)(h:kS T (kk c T 30) Γ 0 (kBn T (kk c T 30) Γ 0 12) l=m):SimS c Γ 0 l m:=h▸jq ok (fP ok hT 30) (pH ok (fP ok hT 30) 12) l
end
section
set_option maxHeartbeats 4000000
noncomputable def bF(i:Nat)(j:Option Nat):List Stmt:=us (Head.fd 3 (Head.st i j) (Head.s "") [] .none .none .none .none .none .none)
noncomputable abbrev KF(P:Params):Frag:=Head.KF P
noncomputable abbrev cx(w:World)(h0:Heap)(mg mb:Str→Option Value):Ctx:=⟨Head.pr,w,Head.KF w.params,h0,mg,mb⟩
theorem eQ:PlainAttrs "list":=F.plainAttrs_list
theorem uu:PlainAttrs "dict":=F.plainAttrs_dict
theorem wf:typeOf (.builtin "list.append")=pure (.type "method_descriptor"):=by kernel_rfl
theorem tH:typeOf (.builtin "list.count")=pure (.type "method_descriptor"):=by kernel_rfl
theorem rm:typeOf (.builtin "dict.get")=pure (.type "method_descriptor"):=by kernel_rfl
theorem ub:typeOf (.builtin "list.index")=pure (.type "method_descriptor"):=by kernel_rfl
theorem uU:typeOf (.builtin "list.pop")=pure (.type "method_descriptor"):=by kernel_rfl
theorem tK{P:Params}:nsIn (KF P) mainGlobals ("BOOL":Str)=some (some (.int 0 452)):=by kernel_rfl
theorem xM{P:Params}:fN (KF P) 762 ("__init__":Str) 762 243=true:=by kernel_rfl
theorem vI{P:Params}:nsIn (KF P) mainGlobals ("WIDEST":Str)=some (some (.int 4096 458)):=by kernel_rfl
theorem xj{P:Params}:nsIn (KF P) mainGlobals ("BV_SAME":Str)=some (some (.ref 227)):=by kernel_rfl
noncomputable def gv_BV_SAME:List Str:=["bvand","bvor","bvxor","bvadd","bvsub","bvmul","bvshl","bvlshr","bvudiv","bvurem"]
theorem xJ{P:Params}:(KF P).lookup 227=some (tsO [("bvand",464),("bvor",465),("bvxor",466),("bvadd",467),("bvsub",468),("bvmul",469),("bvshl",470),("bvlshr",471),("bvudiv",472),("bvurem",473)]):=by kernel_rfl
theorem uA{P:Params}:nsIn (KF P) mainGlobals ("BV_ASK":Str)=some (some (.ref 228)):=by kernel_rfl
noncomputable def gv_BV_ASK:List Str:=["bvult","bvule","bvslt","bvsle"]
theorem rG{P:Params}:(KF P).lookup 228=some (tsO [("bvult",475),("bvule",476),("bvslt",477),("bvsle",478)]):=by kernel_rfl
theorem x7{P:Params}:fN (KF P) 1080 ("made":Str) 1080 791=true:=by kernel_rfl
theorem yY{P:Params}:nsIn (KF P) mainGlobals ("MIXING":Str)=some (some (.ref 765)):=by kernel_rfl
noncomputable def gv_MIXING:List Str:=["bvand","bvor","bvxor","bvadd","bvmul"]
theorem yh{P:Params}:(KF P).lookup 765=some (tsO [("bvand",1182),("bvor",1183),("bvxor",1184),("bvadd",1185),("bvmul",1186)]):=by kernel_rfl
theorem xH{P:Params}:nsIn (KF P) mainGlobals ("DEEPEST":Str)=some (some (.int 50 1190)):=by kernel_rfl
section
variable{c:Ctx}{d:Nat}{ρ:Env'}{σ:St}{Q:Fl→Env'→St→Prop}
noncomputable abbrev jn:Gm:={ sl:=[(("width":Str),some 0)],ck:=[] }
noncomputable def md:List Stmt:=bF 12 none
noncomputable def oY(_c:Ctx):MS:=(ag (ao (au .Sub (au .LShift (ak 1) (aa 0)) (ak 1))) ah)
noncomputable abbrev oF:Gm:={ sl:=[(("x":Str),some 0),(("width":Str),some 1)],ck:=[] }
noncomputable def kb:List Stmt:=bF 13 none
noncomputable def jf(_c:Ctx):MS:=(ag (ao (aR (an .Eq (au .RShift (aa 0) (au .Sub (aa 1) (ak 1))) (ak 1)) (au .Sub (aa 0) (au .LShift (ak 1) (aa 1))) (aa 0))) ah)
noncomputable abbrev kQ:Gm:={ sl:=[(("op":Str),some 0),(("x":Str),some 1),(("width":Str),some 2),(("mask_of":Str),none)],ck:=[] }
noncomputable def oS:List Stmt:=bF 14 none
noncomputable def o7(c:Ctx):MS:=(ag (ifM (an .Eq (aa 0) (al ("bvnot":Str))) (ag (ao (au .Sub (ay c (.ref 142) (ab (aa 2) ae)) (aa 1))) ah) ah) (ag (ifM (an .Eq (aa 0) (al ("bvneg":Str))) (ag (ao (au .BitAnd (bW (aa 1)) (ay c (.ref 142) (ab (aa 2) ae)))) ah) ah) (ag aJ ah)))
noncomputable abbrev nv:Gm:={ sl:=[(("op":Str),some 0),(("x":Str),some 1),(("y":Str),some 2),(("width":Str),some 3),(("mask_of":Str),none),(("shifted_value":Str),none),(("divided_value":Str),none),(("rest_value":Str),none)],ck:=[] }
noncomputable def pL:List Stmt:=bF 18 none
noncomputable def n5(c:Ctx):MS:=(ag (ifM (an .Eq (aa 0) (al ("bvand":Str))) (ag (ao (au .BitAnd (aa 1) (aa 2))) ah) ah) (ag (ifM (an .Eq (aa 0) (al ("bvor":Str))) (ag (ao (au .BitOr (aa 1) (aa 2))) ah) ah) (ag (ifM (an .Eq (aa 0) (al ("bvxor":Str))) (ag (ao (au .BitXor (aa 1) (aa 2))) ah) ah) (ag (ifM (an .Eq (aa 0) (al ("bvadd":Str))) (ag (ao (au .BitAnd (au .Add (aa 1) (aa 2)) (ay c (.ref 142) (ab (aa 3) ae)))) ah) ah) (ag (ifM (an .Eq (aa 0) (al ("bvsub":Str))) (ag (ao (au .BitAnd (au .Sub (aa 1) (aa 2)) (ay c (.ref 142) (ab (aa 3) ae)))) ah) ah) (ag (ifM (an .Eq (aa 0) (al ("bvmul":Str))) (ag (ao (au .BitAnd (au .Mult (aa 1) (aa 2)) (ay c (.ref 142) (ab (aa 3) ae)))) ah) ah) (ag (ifM (an .In (aa 0) (aB (ab (al ("bvshl":Str)) (ab (al ("bvlshr":Str)) ae)))) (ag (ao (ay c (.ref 177) (ab (aa 0) (ab (aa 1) (ab (aa 2) (ab (aa 3) ae)))))) ah) ah) (ag (ifM (an .Eq (aa 0) (al ("bvudiv":Str))) (ag (ao (ay c (.ref 163) (ab (aa 1) (ab (aa 2) (ab (aa 3) ae))))) ah) ah) (ag (ifM (an .Eq (aa 0) (al ("bvurem":Str))) (ag (ao (ay c (.ref 170) (ab (aa 1) (ab (aa 2) ae)))) ah) ah) (ag aJ ah))))))))))
noncomputable abbrev jS:Gm:={ sl:=[(("op":Str),some 0),(("x":Str),some 1),(("y":Str),some 2),(("width":Str),some 3),(("signed_of":Str),none)],ck:=[] }
noncomputable def ph:List Stmt:=bF 19 none
noncomputable def o9(c:Ctx):MS:=(ag (ifM (an .In (aa 0) (aB (ab (al ("bvslt":Str)) (ab (al ("bvsle":Str)) ae)))) (ag (aQ [1,2] (ab (ay c (.ref 149) (ab (aa 1) (ab (aa 3) ae))) (ab (ay c (.ref 149) (ab (aa 2) (ab (aa 3) ae))) ae))) ah) ah) (ag (ifM (an .In (aa 0) (aB (ab (al ("bvult":Str)) (ab (al ("bvslt":Str)) ae)))) (ag (ao (bl .Lt (aa 1) (aa 2))) ah) ah) (ag (ifM (an .In (aa 0) (aB (ab (al ("bvule":Str)) (ab (al ("bvsle":Str)) ae)))) (ag (ao (bl .LtE (aa 1) (aa 2))) ah) ah) (ag aJ ah))))
noncomputable abbrev pz:Gm:={ sl:=[(("self":Str),some 0),(("op":Str),some 1),(("args":Str),some 2),(("sort":Str),some 3),(("data":Str),some 4),(("key":Str),some 5),(("found":Str),some 6),(("len":Str),none)],ck:=[] }
noncomputable def mY:List Stmt:=bF 33 (some 19)
noncomputable def l8(c:Ctx):MS:=(ag (aw (nmA 5) (aB (ab (aa 1) (ab (aa 2) (ab (aa 3) (ab (aa 4) ae)))))) (ag (aw (nmA 6) (aW c "dict" "dict.get" (am (fun C=>C==762) ("numbers":Str) (aa 0)) (ab (aa 5) (ab (ak 0) ae)))) (ag (ifM (an .Eq (aa 6) (ak 0)) (ag (aw (nmA 6) (ay c (.builtin "len") (ab (am (fun C=>C==762) ("term_ops":Str) (aa 0)) ae))) (ag (aM (aW c "list" "list.append" (am (fun C=>C==762) ("term_ops":Str) (aa 0)) (ab (aa 1) ae))) (ag (aM (aW c "list" "list.append" (am (fun C=>C==762) ("term_args":Str) (aa 0)) (ab (aa 2) ae))) (ag (aM (aW c "list" "list.append" (am (fun C=>C==762) ("term_sorts":Str) (aa 0)) (ab (aa 3) ae))) (ag (aM (aW c "list" "list.append" (am (fun C=>C==762) ("term_datas":Str) (aa 0)) (ab (aa 4) ae))) (ag (aw (ci (am (fun C=>C==762) ("numbers":Str) (aa 0)) (aa 5)) (aa 6)) ah)))))) ah) (ag (ao (aa 6)) ah))))
noncomputable abbrev pF:Gm:={ sl:=[(("self":Str),some 0),(("BOOL":Str),none)],ck:=[] }
noncomputable def kh:List Stmt:=bF 33 (some 0)
noncomputable def pn(c:Ctx):MS:=(ag (aw (aT (fun C=>C==762) ("sort_names":Str) (aa 0)) (tlM (ab (al ("Bool":Str)) (ab (al ("Int":Str)) (ab (al ("Real":Str)) ae))))) (ag (aw (aT (fun C=>C==762) ("sort_widths":Str) (aa 0)) (tlM (ab (ak 0) (ab (ak 0) (ab (ak 0) ae))))) (ag (aw (aT (fun C=>C==762) ("fun_names":Str) (aa 0)) (tlM ae)) (ag (aw (aT (fun C=>C==762) ("fun_args":Str) (aa 0)) (tlM ae)) (ag (aw (aT (fun C=>C==762) ("fun_results":Str) (aa 0)) (tlM ae)) (ag (aw (aT (fun C=>C==762) ("fresh_count":Str) (aa 0)) (ak 0)) (ag (aw (aT (fun C=>C==762) ("term_ops":Str) (aa 0)) (tlM (ab (al ("":Str)) ae))) (ag (aw (aT (fun C=>C==762) ("term_args":Str) (aa 0)) (tlM (ab (aB ae) ae))) (ag (aw (aT (fun C=>C==762) ("term_sorts":Str) (aa 0)) (tlM (ab (bg (.int 0)) ae))) (ag (aw (aT (fun C=>C==762) ("term_datas":Str) (aa 0)) (tlM (ab (ak 0) ae))) (ag (aw (aT (fun C=>C==762) ("numbers":Str) (aa 0)) cY) (ag (aw (aT (fun C=>C==762) ("true_number":Str) (aa 0)) (ai c (fun C=>if C=762 then some 376 else none) ("make":Str) (aa 0) (ab (al ("true":Str)) (ab (aB ae) (ab (bg (.int 0)) (ab (ak 0) ae)))))) (ag (aw (aT (fun C=>C==762) ("false_number":Str) (aa 0)) (ai c (fun C=>if C=762 then some 376 else none) ("make":Str) (aa 0) (ab (al ("false":Str)) (ab (aB ae) (ab (bg (.int 0)) (ab (ak 0) ae)))))) ah)))))))))))))
noncomputable abbrev ny:Gm:={ sl:=[(("self":Str),some 0),(("super":Str),none)],ck:=[],fn:=(some (661,649)) }
noncomputable def gK:List Stmt:=bF 37 (some 0)
noncomputable def k8(c:Ctx):MS:=(ag (aM (eV c 0 (fun C=>if C=762 then some 243 else none) ae)) (ag (aw (aT (fun C=>C==762) ("bv_numbers":Str) (aa 0)) cY) ah))
noncomputable abbrev mQ:Gm:={ sl:=[(("self":Str),some 0),(("name":Str),some 1),(("arg_sorts":Str),some 2),(("result":Str),some 3),(("tuple":Str),none),(("len":Str),none)],ck:=[] }
noncomputable def pM:List Stmt:=bF 33 (some 6)
noncomputable def kc(c:Ctx):MS:=(ag (aM (aW c "list" "list.append" (am (fun C=>C==762) ("fun_names":Str) (aa 0)) (ab (aa 1) ae))) (ag (aM (aW c "list" "list.append" (am (fun C=>C==762) ("fun_args":Str) (aa 0)) (ab (ay c (.type "tuple") (ab (aa 2) ae)) ae))) (ag (aM (aW c "list" "list.append" (am (fun C=>C==762) ("fun_results":Str) (aa 0)) (ab (aa 3) ae))) (ag (ao (au .Sub (ay c (.builtin "len") (ab (am (fun C=>C==762) ("fun_names":Str) (aa 0)) ae)) (ak 1))) ah))))
noncomputable abbrev kX:Gm:={ sl:=[(("self":Str),some 0),(("name":Str),some 1),(("s":Str),some 2)],ck:=[] }
noncomputable def oM:List Stmt:=bF 33 (some 8)
noncomputable def jV(c:Ctx):MS:=(ag (ao (ai c (fun C=>if C=762 then some 376 else none) ("make":Str) (aa 0) (ab (al ("app":Str)) (ab (aB ae) (ab (aa 2) (ab (ai c (fun C=>if C=762 then some 285 else none) ("declare_fun":Str) (aa 0) (ab (aa 1) (ab (aB ae) (ab (aa 2) ae)))) ae)))))) ah)
noncomputable abbrev mn:Gm:={ sl:=[(("self":Str),some 0),(("t":Str),some 1)],ck:=[] }
noncomputable def jH:List Stmt:=bF 33 (some 13)
noncomputable def oH(_c:Ctx):MS:=(ag (ao (aq (am (fun C=>C==762) ("term_ops":Str) (aa 0)) (aa 1))) ah)
noncomputable abbrev pc:Gm:={ sl:=[(("self":Str),some 0),(("t":Str),some 1)],ck:=[] }
noncomputable def lC:List Stmt:=bF 33 (some 14)
noncomputable def lz(_c:Ctx):MS:=(ag (ao (aq (am (fun C=>C==762) ("term_args":Str) (aa 0)) (aa 1))) ah)
noncomputable abbrev pf:Gm:={ sl:=[(("self":Str),some 0),(("t":Str),some 1)],ck:=[] }
noncomputable def nX:List Stmt:=bF 33 (some 16)
noncomputable def nD(_c:Ctx):MS:=(ag (ao (aq (am (fun C=>C==762) ("term_datas":Str) (aa 0)) (aa 1))) ah)
noncomputable abbrev ko:Gm:={ sl:=[(("self":Str),some 0),(("t":Str),some 1)],ck:=[] }
noncomputable def pi:List Stmt:=bF 33 (some 17)
noncomputable def kC(_c:Ctx):MS:=(ag (ao (aq (am (fun C=>C==762) ("sort_widths":Str) (aa 0)) (aq (am (fun C=>C==762) ("term_sorts":Str) (aa 0)) (aa 1)))) ah)
noncomputable abbrev kR:Gm:={ sl:=[(("self":Str),some 0),(("t":Str),some 1),(("s":Str),some 2),(("where":Str),some 3)],ck:=[] }
noncomputable def o8:List Stmt:=bF 33 (some 22)
noncomputable def ld(_c:Ctx):MS:=(ag (ifM (an .NotEq (aq (am (fun C=>C==762) ("term_sorts":Str) (aa 0)) (aa 1)) (aa 2)) (ag aJ ah) ah) ah)
noncomputable abbrev om:Gm:={ sl:=[(("self":Str),some 0)],ck:=[] }
noncomputable def oy:List Stmt:=bF 33 (some 24)
noncomputable def nZ(_c:Ctx):MS:=(ag (ao (am (fun C=>C==762) ("true_number":Str) (aa 0))) ah)
noncomputable abbrev j8:Gm:={ sl:=[(("self":Str),some 0)],ck:=[] }
noncomputable def m6:List Stmt:=bF 33 (some 25)
noncomputable def nP(_c:Ctx):MS:=(ag (ao (am (fun C=>C==762) ("false_number":Str) (aa 0))) ah)
noncomputable abbrev nL:Gm:={ sl:=[(("self":Str),some 0),(("holds":Str),some 1)],ck:=[] }
noncomputable def mj:List Stmt:=bF 33 (some 26)
noncomputable def l5(_c:Ctx):MS:=(ag (ao (aR (aH (aa 1)) (am (fun C=>C==762) ("true_number":Str) (aa 0)) (am (fun C=>C==762) ("false_number":Str) (aa 0)))) ah)
noncomputable abbrev oR:Gm:={ sl:=[(("self":Str),some 0),(("t":Str),some 1)],ck:=[] }
noncomputable def nA:List Stmt:=bF 33 (some 27)
noncomputable def o5(c:Ctx):MS:=(ag (ao (ai c (fun C=>if C=762 then some 439 else none) ("parts_of_all":Str) (aa 0) (ab (aB (ab (aa 1) ae)) ae))) ah)
noncomputable abbrev m0:Gm:={ sl:=[(("self":Str),some 0),(("some":Str),some 1),(("found":Str),some 2),(("done":Str),some 3),(("root":Str),some 4),(("stack":Str),some 5),(("t":Str),some 6),(("is_open":Str),some 7),(("part":Str),some 8),(("len":Str),none),(("reversed":Str),none)],ck:=[] }
noncomputable def gJ(c:Ctx):MS:=(ag (ifM (an .NotIn (aa 8) (aa 3)) (ag (aM (aW c "list" "list.append" (aa 5) (ab (aB (ab (aa 8) (ab (bf false) ae))) ae))) ah) ah) ah)
noncomputable def gk(c:Ctx):MS:=(ag (aw (bQ 2 (aU (nmA 6) (aU (nmA 7) bJ))) (aW c "list" "list.pop" (aa 5) ae)) (ag (ifM (an .In (aa 6) (aa 3)) (ag eA ah) ah) (ag (ifM (aH (aa 7)) (ag (aw (ci (aa 3) (aa 6)) (bf true)) (ag (aM (aW c "list" "list.append" (aa 2) (ab (aa 6) ae))) (ag eA ah))) ah) (ag (aM (aW c "list" "list.append" (aa 5) (ab (aB (ab (aa 6) (ab (bf true) ae))) ae))) (ag (bv (fX (ab (aq (am (fun C=>C==762) ("term_args":Str) (aa 0)) (aa 6)) ae)) (nmA 8) (gJ c)) ah)))))
noncomputable def gL(c:Ctx):MS:=(ag (aw (nmA 5) (tlM (ab (aB (ab (aa 4) (ab (bf false) ae))) ae))) (ag (cJ (an .Gt (ay c (.builtin "len") (ab (aa 5) ae)) (ak 0)) (gk c)) ah))
noncomputable def kP:List Stmt:=bF 33 (some 28)
noncomputable def pD(c:Ctx):MS:=(ag (aQ [2,3] (ab (tlM ae) (ab cY ae))) (ag (bv (aG (aa 1)) (nmA 4) (gL c)) (ag (ao (aa 2)) ah)))
noncomputable abbrev j4:Gm:={ sl:=[(("self":Str),some 0),(("a":Str),some 1),(("b":Str),some 2),(("min":Str),none),(("max":Str),none),(("BOOL":Str),none)],ck:=[] }
noncomputable def nC:List Stmt:=bF 34 (some 6)
noncomputable def nW(c:Ctx):MS:=(ag (aM (ai c (fun C=>if C=762 then some 397 else none) ("want":Str) (aa 0) (ab (aa 2) (ab (aq (am (fun C=>C==762) ("term_sorts":Str) (aa 0)) (aa 1)) (ab (al ("=":Str)) ae))))) (ag (ifM (an .Eq (aa 1) (aa 2)) (ag (ao (am (fun C=>C==762) ("true_number":Str) (aa 0))) ah) ah) (ag (ao (ai c (fun C=>if C=762 then some 376 else none) ("make":Str) (aa 0) (ab (al ("=":Str)) (ab (aB (ab (ay c (.builtin "min") (ab (aa 1) (ab (aa 2) ae))) (ab (ay c (.builtin "max") (ab (aa 1) (ab (aa 2) ae))) ae))) (ab (bg (.int 0)) (ab (ak 0) ae)))))) ah)))
noncomputable abbrev iX:Gm:={ sl:=[(("self":Str),some 0),(("t":Str),some 1),(("BOOL":Str),none)],ck:=[] }
noncomputable def nJ:List Stmt:=bF 34 (some 0)
noncomputable def ni(c:Ctx):MS:=(ag (aM (ai c (fun C=>if C=762 then some 397 else none) ("want":Str) (aa 0) (ab (aa 1) (ab (bg (.int 0)) (ab (al ("not":Str)) ae))))) (ag (ifM (an .Eq (aq (am (fun C=>C==762) ("term_ops":Str) (aa 0)) (aa 1)) (al ("not":Str))) (ag (ao (aq (aq (am (fun C=>C==762) ("term_args":Str) (aa 0)) (aa 1)) (ak 0))) ah) ah) (ag (ifM (an .Eq (aa 1) (am (fun C=>C==762) ("true_number":Str) (aa 0))) (ag (ao (am (fun C=>C==762) ("false_number":Str) (aa 0))) ah) ah) (ag (ifM (an .Eq (aa 1) (am (fun C=>C==762) ("false_number":Str) (aa 0))) (ag (ao (am (fun C=>C==762) ("true_number":Str) (aa 0))) ah) ah) (ag (ao (ai c (fun C=>if C=762 then some 376 else none) ("make":Str) (aa 0) (ab (al ("not":Str)) (ab (aB (ab (aa 1) ae)) (ab (bg (.int 0)) (ab (ak 0) ae)))))) ah)))))
noncomputable abbrev lR:Gm:={ sl:=[(("self":Str),some 0),(("t":Str),some 1),(("args":Str),some 2)],ck:=[] }
noncomputable def jo:List Stmt:=bF 34 (some 10)
noncomputable def l9(c:Ctx):MS:=(ag (ifM (an .Eq (aa 2) (aq (am (fun C=>C==762) ("term_args":Str) (aa 0)) (aa 1))) (ag (ao (aa 1)) ah) ah) (ag (ifM (an .Eq (aq (am (fun C=>C==762) ("term_ops":Str) (aa 0)) (aa 1)) (al ("=":Str))) (ag (ao (ai c (fun C=>if C=762 then some 502 else none) ("eq":Str) (aa 0) (ab (aq (aa 2) (ak 0)) (ab (aq (aa 2) (ak 1)) ae)))) ah) ah) (ag (ifM (an .Eq (aq (am (fun C=>C==762) ("term_ops":Str) (aa 0)) (aa 1)) (al ("not":Str))) (ag (ao (ai c (fun C=>if C=762 then some 460 else none) ("not_of":Str) (aa 0) (ab (aq (aa 2) (ak 0)) ae))) ah) ah) (ag (ao (ai c (fun C=>if C=762 then some 376 else none) ("make":Str) (aa 0) (ab (aq (am (fun C=>C==762) ("term_ops":Str) (aa 0)) (aa 1)) (ab (aa 2) (ab (aq (am (fun C=>C==762) ("term_sorts":Str) (aa 0)) (aa 1)) (ab (aq (am (fun C=>C==762) ("term_datas":Str) (aa 0)) (aa 1)) ae)))))) ah))))
noncomputable abbrev oC:Gm:={ sl:=[(("self":Str),some 0),(("t":Str),some 1),(("args":Str),some 2)],ck:=[] }
noncomputable def jC:List Stmt:=bF 36 (some 10)
noncomputable def oT(c:Ctx):MS:=(ag (ifM (aE (an .Eq (aq (am (fun C=>C==762) ("term_ops":Str) (aa 0)) (aa 1)) (al ("*":Str))) (aE (an .NotEq (aa 2) (aq (am (fun C=>C==762) ("term_args":Str) (aa 0)) (aa 1))) (aD true))) (ag (ao (ai c (fun C=>if C=762 then some 598 else none) ("times":Str) (aa 0) (ab (aq (aa 2) (ak 0)) (ab (aq (aa 2) (ak 1)) ae)))) ah) ah) (ag (ao (ai c (fun C=>if C=762 then some 530 else none) ("folded":Str) (aa 0) (ab (aa 1) (ab (aa 2) ae)))) ah))
noncomputable abbrev mW:Gm:={ sl:=[(("self":Str),some 0),(("width":Str),some 1),(("WIDEST":Str),none),(("len":Str),none)],ck:=[] }
noncomputable def jJ:List Stmt:=bF 37 (some 1)
noncomputable def gZ(c:Ctx):MS:=(ag (ifM (an .Lt (aa 1) (ak 1)) (ag aJ ah) ah) (ag (ifM (an .Gt (aa 1) (bg (.int 4096))) (ag aJ ah) ah) (ag (ifM (an .NotIn (aa 1) (am (fun C=>C==762) ("bv_numbers":Str) (aa 0))) (ag (aM (aW c "list" "list.append" (am (fun C=>C==762) ("sort_names":Str) (aa 0)) (ab (fJ (dM (al ("(_ BitVec ":Str)) (dM (eM (aa 1)) (dM (al (")":Str)) fA)))) ae))) (ag (aM (aW c "list" "list.append" (am (fun C=>C==762) ("sort_widths":Str) (aa 0)) (ab (aa 1) ae))) (ag (aw (ci (am (fun C=>C==762) ("bv_numbers":Str) (aa 0)) (aa 1)) (au .Sub (ay c (.builtin "len") (ab (am (fun C=>C==762) ("sort_names":Str) (aa 0)) ae)) (ak 1))) ah))) ah) (ag (ao (aq (am (fun C=>C==762) ("bv_numbers":Str) (aa 0)) (aa 1))) ah))))
noncomputable abbrev lQ:Gm:={ sl:=[(("self":Str),some 0),(("t":Str),some 1),(("where":Str),some 2)],ck:=[] }
noncomputable def nG:List Stmt:=bF 37 (some 3)
noncomputable def ol(c:Ctx):MS:=(ag (ifM (an .Eq (ai c (fun C=>if C=762 then some 362 else none) ("width":Str) (aa 0) (ab (aa 1) ae)) (ak 0)) (ag aJ ah) ah) ah)
noncomputable abbrev oV:Gm:={ sl:=[(("self":Str),some 0),(("value":Str),some 1),(("width":Str),some 2),(("s":Str),some 3)],ck:=[] }
noncomputable def kW:List Stmt:=bF 37 (some 4)
noncomputable def gR(c:Ctx):MS:=(ag (aw (nmA 3) (ai c (fun C=>if C=762 then some 668 else none) ("bv_sort":Str) (aa 0) (ab (aa 2) ae))) (ag (ao (ai c (fun C=>if C=762 then some 376 else none) ("make":Str) (aa 0) (ab (al ("bvnum":Str)) (ab (aB ae) (ab (aa 3) (ab (au .Mod (aa 1) (au .LShift (ak 1) (aa 2))) ae)))))) ah))
noncomputable abbrev l7:Gm:={ sl:=[(("self":Str),some 0),(("op":Str),some 1),(("t":Str),some 2)],ck:=[] }
noncomputable def m9:List Stmt:=bF 37 (some 5)
noncomputable def n0(c:Ctx):MS:=(ag (aM (ai c (fun C=>if C=762 then some 682 else none) ("want_bits":Str) (aa 0) (ab (aa 2) (ab (aa 1) ae)))) (ag (ifM (aE (an .NotEq (aa 1) (al ("bvnot":Str))) (aE (an .NotEq (aa 1) (al ("bvneg":Str))) (aD true))) (ag aJ ah) ah) (ag (ao (ai c (fun C=>if C=762 then some 376 else none) ("make":Str) (aa 0) (ab (aa 1) (ab (aB (ab (aa 2) ae)) (ab (aq (am (fun C=>C==762) ("term_sorts":Str) (aa 0)) (aa 2)) (ab (ak 0) ae)))))) ah)))
noncomputable abbrev mC:Gm:={ sl:=[(("self":Str),some 0),(("op":Str),some 1),(("a":Str),some 2),(("b":Str),some 3),(("BV_SAME":Str),none),(("BV_ASK":Str),none),(("BOOL":Str),none)],ck:=[] }
noncomputable def ox:List Stmt:=bF 37 (some 6)
noncomputable def iD(c:Ctx):MS:=(ag (aM (ai c (fun C=>if C=762 then some 682 else none) ("want_bits":Str) (aa 0) (ab (aa 2) (ab (aa 1) ae)))) (ag (aM (ai c (fun C=>if C=762 then some 397 else none) ("want":Str) (aa 0) (ab (aa 3) (ab (aq (am (fun C=>C==762) ("term_sorts":Str) (aa 0)) (aa 2)) (ab (aa 1) ae))))) (ag (ifM (an .In (aa 1) (bg (.tup (gv_BV_SAME.map V.str)))) (ag (ao (ai c (fun C=>if C=762 then some 376 else none) ("make":Str) (aa 0) (ab (aa 1) (ab (aB (ab (aa 2) (ab (aa 3) ae))) (ab (aq (am (fun C=>C==762) ("term_sorts":Str) (aa 0)) (aa 2)) (ab (ak 0) ae)))))) ah) ah) (ag (ifM (an .In (aa 1) (bg (.tup (gv_BV_ASK.map V.str)))) (ag (ao (ai c (fun C=>if C=762 then some 376 else none) ("make":Str) (aa 0) (ab (aa 1) (ab (aB (ab (aa 2) (ab (aa 3) ae))) (ab (bg (.int 0)) (ab (ak 0) ae)))))) ah) ah) (ag aJ ah)))))
noncomputable abbrev lF:Gm:={ sl:=[(("self":Str),some 0),(("a":Str),some 1),(("b":Str),some 2)],ck:=[] }
noncomputable def lB:List Stmt:=bF 37 (some 7)
noncomputable def iR(c:Ctx):MS:=(ag (aM (ai c (fun C=>if C=762 then some 682 else none) ("want_bits":Str) (aa 0) (ab (aa 1) (ab (al ("concat":Str)) ae)))) (ag (aM (ai c (fun C=>if C=762 then some 682 else none) ("want_bits":Str) (aa 0) (ab (aa 2) (ab (al ("concat":Str)) ae)))) (ag (ao (ai c (fun C=>if C=762 then some 376 else none) ("make":Str) (aa 0) (ab (al ("concat":Str)) (ab (aB (ab (aa 1) (ab (aa 2) ae))) (ab (ai c (fun C=>if C=762 then some 668 else none) ("bv_sort":Str) (aa 0) (ab (au .Add (ai c (fun C=>if C=762 then some 362 else none) ("width":Str) (aa 0) (ab (aa 1) ae)) (ai c (fun C=>if C=762 then some 362 else none) ("width":Str) (aa 0) (ab (aa 2) ae))) ae)) (ab (ak 0) ae)))))) ah)))
noncomputable abbrev kt:Gm:={ sl:=[(("self":Str),some 0),(("high":Str),some 1),(("low":Str),some 2),(("t":Str),some 3)],ck:=[] }
noncomputable def oX:List Stmt:=bF 37 (some 8)
noncomputable def nc(c:Ctx):MS:=(ag (aM (ai c (fun C=>if C=762 then some 682 else none) ("want_bits":Str) (aa 0) (ab (aa 3) (ab (al ("extract":Str)) ae)))) (ag (ifM (dg (fy .LtE .LtE .Lt (ak 0) (aa 2) (aa 1) (ai c (fun C=>if C=762 then some 362 else none) ("width":Str) (aa 0) (ab (aa 3) ae)))) (ag aJ ah) ah) (ag (ao (ai c (fun C=>if C=762 then some 376 else none) ("make":Str) (aa 0) (ab (al ("extract":Str)) (ab (aB (ab (aa 3) ae)) (ab (ai c (fun C=>if C=762 then some 668 else none) ("bv_sort":Str) (aa 0) (ab (au .Add (au .Sub (aa 1) (aa 2)) (ak 1)) ae)) (ab (aB (ab (aa 1) (ab (aa 2) ae))) ae)))))) ah)))
noncomputable abbrev pd:Gm:={ sl:=[(("self":Str),some 0),(("bank":Str),some 1)],ck:=[] }
noncomputable def j5:List Stmt:=bF 42 (some 0)
noncomputable def jv(c:Ctx):MS:=(ag (aw (aT (fun C=>C==1080) ("bank":Str) (aa 0)) (aa 1)) (ag (aw (aT (fun C=>C==1080) ("yes":Str) (aa 0)) (ai c (fun C=>if C=762 then some 411 else none) ("true_term":Str) (aa 1) ae)) (ag (aw (aT (fun C=>C==1080) ("no":Str) (aa 0)) (ai c (fun C=>if C=762 then some 418 else none) ("false_term":Str) (aa 1) ae)) (ag (aw (aT (fun C=>C==1080) ("known":Str) (aa 0)) cY) ah))))
noncomputable abbrev mO:Gm:={ sl:=[(("self":Str),some 0),(("t":Str),some 1),(("part":Str),some 2),(("args":Str),some 3),(("simple":Str),some 4),(("tuple":Str),none)],ck:=[("self":Str)] }
noncomputable abbrev uj:Gm:={ sl:=[(("self":Str),some 0),(("one":Str),some 5)],ck:=[("self":Str)] }
noncomputable def fC(c:Ctx):MS:=(ag (ifM (an .NotIn (aa 2) (am (fun C=>C==1080) ("known":Str) (aa 0))) (ag (aw (nmA 3) (ay c (.type "tuple") (ab (aO (aG (ai c (fun C=>if C=762 then some 341 else none) ("args":Str) (am (fun C=>C==1080) ("bank":Str) (aa 0)) (ab (aa 2) ae))) 5 1 (nmA 5) (aD true) (aq (am (fun C=>C==1080) ("known":Str) (aa 0)) (aa 5))) ae))) (ag (aw (nmA 4) (ai c (fun C=>if C=1080 then some 904 else none) ("made":Str) (aa 0) (ab (aa 2) (ab (aa 3) ae)))) (ag (aw (ci (am (fun C=>C==1080) ("known":Str) (aa 0)) (aa 2)) (aa 4)) (ag (aw (ci (am (fun C=>C==1080) ("known":Str) (aa 0)) (aa 4)) (aa 4)) ah)))) ah) ah)
noncomputable def mB:List Stmt:=bF 42 (some 1)
noncomputable def jp(c:Ctx):MS:=(ag (bv (aG (ai c (fun C=>if C=762 then some 432 else none) ("parts":Str) (am (fun C=>C==1080) ("bank":Str) (aa 0)) (ab (aa 1) ae))) (nmA 2) (fC c)) (ag (ao (aq (am (fun C=>C==1080) ("known":Str) (aa 0)) (aa 1))) ah))
noncomputable abbrev lr:Gm:={ sl:=[(("self":Str),some 0),(("t":Str),some 1),(("args":Str),some 2),(("op":Str),some 3)],ck:=[] }
noncomputable def oe:List Stmt:=bF 42 (some 2)
noncomputable def jg(c:Ctx):MS:=(ag (aw (nmA 3) (ai c (fun C=>if C=762 then some 334 else none) ("op":Str) (am (fun C=>C==1080) ("bank":Str) (aa 0)) (ab (aa 1) ae))) (ag (ifM (an .In (aa 3) (aB (ab (al ("and":Str)) (ab (al ("or":Str)) ae)))) (ag (ao (ai c (fun C=>if C=1080 then some 810 else none) ("joined":Str) (aa 0) (ab (aa 3) (ab (aa 2) ae)))) ah) ah) (ag (ifM (an .Eq (aa 3) (al ("not":Str))) (ag (ao (ai c (fun C=>if C=1080 then some 817 else none) ("negated":Str) (aa 0) (ab (aq (aa 2) (ak 0)) ae))) ah) ah) (ag (ifM (an .Eq (aa 3) (al ("xor":Str))) (ag (ao (ai c (fun C=>if C=1080 then some 824 else none) ("parity":Str) (aa 0) (ab (aa 2) ae))) ah) ah) (ag (ifM (an .Eq (aa 3) (al ("=>":Str))) (ag (ao (ai c (fun C=>if C=1080 then some 810 else none) ("joined":Str) (aa 0) (ab (al ("or":Str)) (ab (flM (ab (ai c (fun C=>if C=1080 then some 817 else none) ("negated":Str) (aa 0) (ab (aq (aa 2) (ak 0)) ae)) (ab (aq (aa 2) (ak 1)) ae))) ae)))) ah) ah) (ag (ifM (an .Eq (aa 3) (al ("=":Str))) (ag (ao (ai c (fun C=>if C=1080 then some 853 else none) ("equal":Str) (aa 0) (ab (aq (aa 2) (ak 0)) (ab (aq (aa 2) (ak 1)) ae)))) ah) ah) (ag (ifM (an .Eq (aa 3) (al ("distinct":Str))) (ag (ao (ai c (fun C=>if C=1080 then some 881 else none) ("apart":Str) (aa 0) (ab (aa 1) (ab (aa 2) ae)))) ah) ah) (ag (ifM (an .Eq (aa 3) (al ("ite":Str))) (ag (ao (ai c (fun C=>if C=1080 then some 845 else none) ("chosen":Str) (aa 0) (ab (aq (aa 2) (ak 0)) (ab (aq (aa 2) (ak 1)) (ab (aq (aa 2) (ak 2)) ae))))) ah) ah) (ag (ao (ai c (fun C=>if C=762 then some 640 else none) ("with_args":Str) (am (fun C=>C==1080) ("bank":Str) (aa 0)) (ab (aa 1) (ab (aa 2) ae)))) ah)))))))))
noncomputable abbrev jG:Gm:={ sl:=[(("self":Str),some 0),(("t":Str),some 1)],ck:=[] }
noncomputable def mc:List Stmt:=bF 42 (some 6)
noncomputable def my(c:Ctx):MS:=(ag (ao (ai c (fun C=>if C=762 then some 460 else none) ("not_of":Str) (am (fun C=>C==1080) ("bank":Str) (aa 0)) (ab (aa 1) ae))) ah)
noncomputable abbrev kO:Gm:={ sl:=[(("self":Str),some 0),(("t":Str),some 1),(("args":Str),some 2),(("op":Str),some 3),(("super":Str),none),(("BV_SAME":Str),none),(("BV_ASK":Str),none)],ck:=[],fn:=(some (904,892)) }
noncomputable def gG:List Stmt:=bF 43 (some 0)
noncomputable def di(c:Ctx):MS:=(ag (aw (nmA 3) (ai c (fun C=>if C=762 then some 334 else none) ("op":Str) (am (fun C=>C==1080) ("bank":Str) (aa 0)) (ab (aa 1) ae))) (ag (ifM (an .In (aa 3) (aB (ab (al ("bvnot":Str)) (ab (al ("bvneg":Str)) ae)))) (ag (ao (ai c (fun C=>if C=1080 then some 949 else none) ("one_bits":Str) (aa 0) (ab (aa 3) (ab (aq (aa 2) (ak 0)) ae)))) ah) ah) (ag (ifM (an .In (aa 3) (bg (.tup (gv_BV_SAME.map V.str)))) (ag (ao (ai c (fun C=>if C=1080 then some 956 else none) ("two_bits":Str) (aa 0) (ab (aa 3) (ab (aq (aa 2) (ak 0)) (ab (aq (aa 2) (ak 1)) ae))))) ah) ah) (ag (ifM (an .In (aa 3) (bg (.tup (gv_BV_ASK.map V.str)))) (ag (ao (ai c (fun C=>if C=1080 then some 1005 else none) ("asked_bits":Str) (aa 0) (ab (aa 3) (ab (aq (aa 2) (ak 0)) (ab (aq (aa 2) (ak 1)) ae))))) ah) ah) (ag (ifM (an .Eq (aa 3) (al ("concat":Str))) (ag (ao (ai c (fun C=>if C=1080 then some 1012 else none) ("put_together":Str) (aa 0) (ab (aq (aa 2) (ak 0)) (ab (aq (aa 2) (ak 1)) ae)))) ah) ah) (ag (ifM (an .Eq (aa 3) (al ("extract":Str))) (ag (ao (ai c (fun C=>if C=1080 then some 1019 else none) ("cut_out":Str) (aa 0) (ab (aq (ai c (fun C=>if C=762 then some 355 else none) ("data":Str) (am (fun C=>C==1080) ("bank":Str) (aa 0)) (ab (aa 1) ae)) (ak 0)) (ab (aq (ai c (fun C=>if C=762 then some 355 else none) ("data":Str) (am (fun C=>C==1080) ("bank":Str) (aa 0)) (ab (aa 1) ae)) (ak 1)) (ab (aq (aa 2) (ak 0)) ae))))) ah) ah) (ag (ifM (an .Eq (aa 3) (al ("zero_extend":Str))) (ag (ao (ai c (fun C=>if C=1080 then some 1040 else none) ("wider":Str) (aa 0) (ab (ai c (fun C=>if C=762 then some 355 else none) ("data":Str) (am (fun C=>C==1080) ("bank":Str) (aa 0)) (ab (aa 1) ae)) (ab (aq (aa 2) (ak 0)) ae)))) ah) ah) (ag (ifM (an .Eq (aa 3) (al ("sign_extend":Str))) (ag (ao (ai c (fun C=>if C=1080 then some 1047 else none) ("wider_signed":Str) (aa 0) (ab (ai c (fun C=>if C=762 then some 355 else none) ("data":Str) (am (fun C=>C==1080) ("bank":Str) (aa 0)) (ab (aa 1) ae)) (ab (aq (aa 2) (ak 0)) ae)))) ah) ah) (ag (ifM (an .Eq (aa 3) (al ("bit":Str))) (ag (ao (ai c (fun C=>if C=1080 then some 1070 else none) ("bit_of":Str) (aa 0) (ab (ai c (fun C=>if C=762 then some 355 else none) ("data":Str) (am (fun C=>C==1080) ("bank":Str) (aa 0)) (ab (aa 1) ae)) (ab (aq (aa 2) (ak 0)) ae)))) ah) ah) (ag (ao (eV c 0 (fun C=>if C=1080 then some 791 else none) (ab (aa 1) (ab (aa 2) ae)))) ah))))))))))
noncomputable abbrev lx:Gm:={ sl:=[(("self":Str),some 0),(("t":Str),some 1)],ck:=[] }
noncomputable def oJ:List Stmt:=bF 43 (some 3)
noncomputable def mz(c:Ctx):MS:=(ag (ao (bl .Eq (ai c (fun C=>if C=762 then some 334 else none) ("op":Str) (am (fun C=>C==1080) ("bank":Str) (aa 0)) (ab (aa 1) ae)) (al ("bvnum":Str)))) ah)
noncomputable abbrev po:Gm:={ sl:=[(("self":Str),some 0),(("t":Str),some 1),(("other":Str),some 2)],ck:=[] }
noncomputable def jT:List Stmt:=bF 43 (some 4)
noncomputable def jK(c:Ctx):MS:=(ag (ao (aR (aH (ai c (fun C=>if C=1080 then some 928 else none) ("is_bits":Str) (aa 0) (ab (aa 1) ae))) (ai c (fun C=>if C=762 then some 355 else none) ("data":Str) (am (fun C=>C==1080) ("bank":Str) (aa 0)) (ab (aa 1) ae)) (aa 2))) ah)
noncomputable abbrev lc:Gm:={ sl:=[(("self":Str),some 0),(("value":Str),some 1),(("like":Str),some 2)],ck:=[] }
noncomputable def mS:List Stmt:=bF 43 (some 5)
noncomputable def iY(c:Ctx):MS:=(ag (ao (ai c (fun C=>if C=762 then some 689 else none) ("bv_num":Str) (am (fun C=>C==1080) ("bank":Str) (aa 0)) (ab (aa 1) (ab (ai c (fun C=>if C=762 then some 362 else none) ("width":Str) (am (fun C=>C==1080) ("bank":Str) (aa 0)) (ab (aa 2) ae)) ae)))) ah)
noncomputable abbrev mG:Gm:={ sl:=[(("self":Str),some 0),(("op":Str),some 1),(("a":Str),some 2),(("one_value":Str),none)],ck:=[] }
noncomputable def lL:List Stmt:=bF 43 (some 6)
noncomputable def pt(c:Ctx):MS:=(ag (ifM (aH (ai c (fun C=>if C=1080 then some 928 else none) ("is_bits":Str) (aa 0) (ab (aa 2) ae))) (ag (ao (ai c (fun C=>if C=1080 then some 942 else none) ("number":Str) (aa 0) (ab (ay c (.ref 156) (ab (aa 1) (ab (ai c (fun C=>if C=762 then some 355 else none) ("data":Str) (am (fun C=>C==1080) ("bank":Str) (aa 0)) (ab (aa 2) ae)) (ab (ai c (fun C=>if C=762 then some 362 else none) ("width":Str) (am (fun C=>C==1080) ("bank":Str) (aa 0)) (ab (aa 2) ae)) ae)))) (ab (aa 2) ae)))) ah) ah) (ag (ifM (an .Eq (ai c (fun C=>if C=762 then some 334 else none) ("op":Str) (am (fun C=>C==1080) ("bank":Str) (aa 0)) (ab (aa 2) ae)) (aa 1)) (ag (ao (aq (ai c (fun C=>if C=762 then some 341 else none) ("args":Str) (am (fun C=>C==1080) ("bank":Str) (aa 0)) (ab (aa 2) ae)) (ak 0))) ah) ah) (ag (ifM (aE (an .Eq (aa 1) (al ("bvneg":Str))) (aE (an .Eq (ai c (fun C=>if C=762 then some 334 else none) ("op":Str) (am (fun C=>C==1080) ("bank":Str) (aa 0)) (ab (aa 2) ae)) (al ("bvsub":Str))) (aD true))) (ag (ao (ai c (fun C=>if C=1080 then some 956 else none) ("two_bits":Str) (aa 0) (ab (al ("bvsub":Str)) (ab (aq (ai c (fun C=>if C=762 then some 341 else none) ("args":Str) (am (fun C=>C==1080) ("bank":Str) (aa 0)) (ab (aa 2) ae)) (ak 1)) (ab (aq (ai c (fun C=>if C=762 then some 341 else none) ("args":Str) (am (fun C=>C==1080) ("bank":Str) (aa 0)) (ab (aa 2) ae)) (ak 0)) ae))))) ah) ah) (ag (ao (ai c (fun C=>if C=762 then some 696 else none) ("bv_one":Str) (am (fun C=>C==1080) ("bank":Str) (aa 0)) (ab (aa 1) (ab (aa 2) ae)))) ah))))
noncomputable abbrev lY:Gm:={ sl:=[(("self":Str),some 0),(("op":Str),some 1),(("a":Str),some 2),(("b":Str),some 3),(("two_value":Str),none),(("MIXING":Str),none)],ck:=[] }
noncomputable def pq:List Stmt:=bF 43 (some 7)
noncomputable def nz(c:Ctx):MS:=(ag (ifM (aE (aH (ai c (fun C=>if C=1080 then some 928 else none) ("is_bits":Str) (aa 0) (ab (aa 2) ae))) (aE (aH (ai c (fun C=>if C=1080 then some 928 else none) ("is_bits":Str) (aa 0) (ab (aa 3) ae))) (aD true))) (ag (ao (ai c (fun C=>if C=1080 then some 942 else none) ("number":Str) (aa 0) (ab (ay c (.ref 184) (ab (aa 1) (ab (ai c (fun C=>if C=762 then some 355 else none) ("data":Str) (am (fun C=>C==1080) ("bank":Str) (aa 0)) (ab (aa 2) ae)) (ab (ai c (fun C=>if C=762 then some 355 else none) ("data":Str) (am (fun C=>C==1080) ("bank":Str) (aa 0)) (ab (aa 3) ae)) (ab (ai c (fun C=>if C=762 then some 362 else none) ("width":Str) (am (fun C=>C==1080) ("bank":Str) (aa 0)) (ab (aa 2) ae)) ae))))) (ab (aa 2) ae)))) ah) ah) (ag (ifM (an .In (aa 1) (bg (.tup (gv_MIXING.map V.str)))) (ag (ao (ai c (fun C=>if C=1080 then some 963 else none) ("mixed_bits":Str) (aa 0) (ab (aa 1) (ab (aa 2) (ab (aa 3) ae))))) ah) ah) (ag (ifM (an .Eq (aa 1) (al ("bvsub":Str))) (ag (ao (ai c (fun C=>if C=1080 then some 984 else none) ("less_bits":Str) (aa 0) (ab (aa 2) (ab (aa 3) ae)))) ah) ah) (ag (ifM (an .In (aa 1) (aB (ab (al ("bvshl":Str)) (ab (al ("bvlshr":Str)) ae)))) (ag (ao (ai c (fun C=>if C=1080 then some 991 else none) ("shifted_bits":Str) (aa 0) (ab (aa 1) (ab (aa 2) (ab (aa 3) ae))))) ah) ah) (ag (ao (ai c (fun C=>if C=1080 then some 998 else none) ("divided_bits":Str) (aa 0) (ab (aa 1) (ab (aa 2) (ab (aa 3) ae))))) ah)))))
noncomputable abbrev j7:Gm:={ sl:=[(("self":Str),some 0),(("op":Str),some 1),(("a":Str),some 2),(("b":Str),some 3),(("inner":Str),some 4),(("two_value":Str),none)],ck:=[] }
noncomputable def jD:List Stmt:=bF 43 (some 8)
noncomputable def mH(c:Ctx):MS:=(ag (ifM (orM (aH (ai c (fun C=>if C=1080 then some 928 else none) ("is_bits":Str) (aa 0) (ab (aa 3) ae))) (orM (aE (dg (aH (ai c (fun C=>if C=1080 then some 928 else none) ("is_bits":Str) (aa 0) (ab (aa 2) ae)))) (aE (an .Lt (aa 3) (aa 2)) (aD true))) (aD false))) (ag (aQ [2,3] (ab (aa 3) (ab (aa 2) ae))) ah) ah) (ag (ifM (aH (ai c (fun C=>if C=1080 then some 928 else none) ("is_bits":Str) (aa 0) (ab (aa 2) ae))) (ag (ifM (aE (an .Eq (ai c (fun C=>if C=762 then some 334 else none) ("op":Str) (am (fun C=>C==1080) ("bank":Str) (aa 0)) (ab (aa 3) ae)) (aa 1)) (aE (aH (ai c (fun C=>if C=1080 then some 928 else none) ("is_bits":Str) (aa 0) (ab (aq (ai c (fun C=>if C=762 then some 341 else none) ("args":Str) (am (fun C=>C==1080) ("bank":Str) (aa 0)) (ab (aa 3) ae)) (ak 0)) ae))) (aD true))) (ag (aw (bQ 2 (aU (nmA 4) (aU (nmA 3) bJ))) (ai c (fun C=>if C=762 then some 341 else none) ("args":Str) (am (fun C=>C==1080) ("bank":Str) (aa 0)) (ab (aa 3) ae))) (ag (aw (nmA 2) (ai c (fun C=>if C=1080 then some 942 else none) ("number":Str) (aa 0) (ab (ay c (.ref 184) (ab (aa 1) (ab (ai c (fun C=>if C=762 then some 355 else none) ("data":Str) (am (fun C=>C==1080) ("bank":Str) (aa 0)) (ab (aa 2) ae)) (ab (ai c (fun C=>if C=762 then some 355 else none) ("data":Str) (am (fun C=>C==1080) ("bank":Str) (aa 0)) (ab (aa 4) ae)) (ab (ai c (fun C=>if C=762 then some 362 else none) ("width":Str) (am (fun C=>C==1080) ("bank":Str) (aa 0)) (ab (aa 2) ae)) ae))))) (ab (aa 2) ae)))) ah)) ah) (ag (ao (ai c (fun C=>if C=1080 then some 977 else none) ("mixed_number":Str) (aa 0) (ab (aa 1) (ab (ai c (fun C=>if C=762 then some 355 else none) ("data":Str) (am (fun C=>C==1080) ("bank":Str) (aa 0)) (ab (aa 2) ae)) (ab (aa 3) ae))))) ah)) ah) (ag (ifM (aE (an .Eq (aa 2) (aa 3)) (aE (an .NotEq (aa 1) (al ("bvadd":Str))) (aE (an .NotEq (aa 1) (al ("bvmul":Str))) (aD true)))) (ag (ao (aR (an .Eq (aa 1) (al ("bvxor":Str))) (ai c (fun C=>if C=1080 then some 942 else none) ("number":Str) (aa 0) (ab (ak 0) (ab (aa 2) ae))) (aa 2))) ah) ah) (ag (ifM (aE (aH (ai c (fun C=>if C=1080 then some 970 else none) ("is_turned":Str) (aa 0) (ab (al ("bvnot":Str)) (ab (aa 2) (ab (aa 3) ae))))) (aE (an .NotEq (aa 1) (al ("bvmul":Str))) (aD true))) (ag (ao (ai c (fun C=>if C=1080 then some 942 else none) ("number":Str) (aa 0) (ab (aR (an .Eq (aa 1) (al ("bvand":Str))) (ak 0) (bW (ak 1))) (ab (aa 2) ae)))) ah) ah) (ag (ifM (aE (an .Eq (aa 1) (al ("bvadd":Str))) (aE (aH (ai c (fun C=>if C=1080 then some 970 else none) ("is_turned":Str) (aa 0) (ab (al ("bvneg":Str)) (ab (aa 2) (ab (aa 3) ae))))) (aD true))) (ag (ao (ai c (fun C=>if C=1080 then some 942 else none) ("number":Str) (aa 0) (ab (ak 0) (ab (aa 2) ae)))) ah) ah) (ag (ao (ai c (fun C=>if C=762 then some 703 else none) ("bv_two":Str) (am (fun C=>C==1080) ("bank":Str) (aa 0)) (ab (aa 1) (ab (aa 2) (ab (aa 3) ae))))) ah))))))
noncomputable abbrev jm:Gm:={ sl:=[(("self":Str),some 0),(("op":Str),some 1),(("value":Str),some 2),(("b":Str),some 3),(("most":Str),some 4),(("mask_of":Str),none),(("power_of":Str),none)],ck:=[] }
noncomputable def mZ:List Stmt:=bF 43 (some 10)
noncomputable def kd(c:Ctx):MS:=(ag (aw (nmA 4) (ay c (.ref 142) (ab (ai c (fun C=>if C=762 then some 362 else none) ("width":Str) (am (fun C=>C==1080) ("bank":Str) (aa 0)) (ab (aa 3) ae)) ae))) (ag (ifM (an .Eq (aa 2) (ak 0)) (ag (ao (aR (an .In (aa 1) (aB (ab (al ("bvand":Str)) (ab (al ("bvmul":Str)) ae)))) (ai c (fun C=>if C=1080 then some 942 else none) ("number":Str) (aa 0) (ab (ak 0) (ab (aa 3) ae))) (aa 3))) ah) ah) (ag (ifM (orM (aE (an .Eq (aa 2) (aa 4)) (aE (an .Eq (aa 1) (al ("bvand":Str))) (aD true))) (orM (aE (an .Eq (aa 2) (ak 1)) (aE (an .Eq (aa 1) (al ("bvmul":Str))) (aD true))) (aD false))) (ag (ao (aa 3)) ah) ah) (ag (ifM (aE (an .Eq (aa 2) (aa 4)) (aE (an .Eq (aa 1) (al ("bvor":Str))) (aD true))) (ag (ao (ai c (fun C=>if C=1080 then some 942 else none) ("number":Str) (aa 0) (ab (aa 4) (ab (aa 3) ae)))) ah) ah) (ag (ifM (aE (an .Eq (aa 2) (aa 4)) (aE (an .Eq (aa 1) (al ("bvxor":Str))) (aD true))) (ag (ao (ai c (fun C=>if C=1080 then some 949 else none) ("one_bits":Str) (aa 0) (ab (al ("bvnot":Str)) (ab (aa 3) ae)))) ah) ah) (ag (ifM (aE (an .Eq (aa 2) (aa 4)) (aE (an .Eq (aa 1) (al ("bvmul":Str))) (aD true))) (ag (ao (ai c (fun C=>if C=1080 then some 949 else none) ("one_bits":Str) (aa 0) (ab (al ("bvneg":Str)) (ab (aa 3) ae)))) ah) ah) (ag (ifM (aE (an .Eq (aa 1) (al ("bvmul":Str))) (aE (an .Gt (ay c (.ref 226) (ab (aa 2) ae)) (ak 0)) (aD true))) (ag (ao (ai c (fun C=>if C=1080 then some 991 else none) ("shifted_bits":Str) (aa 0) (ab (al ("bvshl":Str)) (ab (aa 3) (ab (ai c (fun C=>if C=1080 then some 942 else none) ("number":Str) (aa 0) (ab (ay c (.ref 226) (ab (aa 2) ae)) (ab (aa 3) ae))) ae))))) ah) ah) (ag (ao (ai c (fun C=>if C=762 then some 703 else none) ("bv_two":Str) (am (fun C=>C==1080) ("bank":Str) (aa 0)) (ab (aa 1) (ab (ai c (fun C=>if C=1080 then some 942 else none) ("number":Str) (aa 0) (ab (aa 2) (ab (aa 3) ae))) (ab (aa 3) ae))))) ah))))))))
noncomputable abbrev jj:Gm:={ sl:=[(("self":Str),some 0),(("op":Str),some 1),(("a":Str),some 2),(("b":Str),some 3),(("width":Str),some 4),(("least":Str),some 5),(("most":Str),some 6),(("ask_value":Str),none),(("mask_of":Str),none)],ck:=[] }
noncomputable def oh:List Stmt:=bF 43 (some 14)
noncomputable abbrev so(c:Ctx):MS:=(ag (ao (ai c (fun C=>if C=762 then some 703 else none) ("bv_two":Str) (am (fun C=>C==1080) ("bank":Str) (aa 0)) (ab (aa 1) (ab (aa 2) (ab (aa 3) ae))))) ah)
noncomputable abbrev tW(c:Ctx):MS:=(ag (ifM (aE (aH (ai c (fun C=>if C=1080 then some 928 else none) ("is_bits":Str) (aa 0) (ab (aa 3) ae))) (aE (an .Eq (ai c (fun C=>if C=762 then some 355 else none) ("data":Str) (am (fun C=>C==1080) ("bank":Str) (aa 0)) (ab (aa 3) ae)) (au .BitAnd (au .Add (aa 5) (ak 1)) (ay c (.ref 142) (ab (aa 4) ae)))) (aD true))) (ag (ao (ai c (fun C=>if C=1080 then some 1055 else none) ("equal_bits":Str) (aa 0) (ab (aa 2) (ab (ai c (fun C=>if C=1080 then some 942 else none) ("number":Str) (aa 0) (ab (aa 5) (ab (aa 2) ae))) ae)))) ah) ah) (so c))
noncomputable abbrev vy(c:Ctx):MS:=(ag (ifM (orM (an .Eq (ai c (fun C=>if C=1080 then some 935 else none) ("value_or":Str) (aa 0) (ab (aa 2) (ab (bW (ak 1)) ae))) (aa 5)) (orM (an .Eq (ai c (fun C=>if C=1080 then some 935 else none) ("value_or":Str) (aa 0) (ab (aa 3) (ab (bW (ak 1)) ae))) (aa 6)) (aD false))) (ag (ao (ai c (fun C=>if C=1080 then some 817 else none) ("negated":Str) (aa 0) (ab (ai c (fun C=>if C=1080 then some 1055 else none) ("equal_bits":Str) (aa 0) (ab (aa 2) (ab (aa 3) ae))) ae))) ah) ah) (tW c))
noncomputable def dQ(c:Ctx):MS:=(ag (ifM (orM (an .Eq (ai c (fun C=>if C=1080 then some 935 else none) ("value_or":Str) (aa 0) (ab (aa 3) (ab (bW (ak 1)) ae))) (aa 5)) (orM (an .Eq (ai c (fun C=>if C=1080 then some 935 else none) ("value_or":Str) (aa 0) (ab (aa 2) (ab (bW (ak 1)) ae))) (aa 6)) (aD false))) (ag (ao (am (fun C=>C==1080) ("no":Str) (aa 0))) ah) ah) (vy c))
noncomputable abbrev vi(c:Ctx):MS:=(ag (aw (bQ 2 (aU (nmA 5) (aU (nmA 6) bJ))) (aR (an .Eq (aa 1) (al ("bvult":Str))) (aB (ab (ak 0) (ab (ay c (.ref 142) (ab (aa 4) ae)) ae))) (aB (ab (au .LShift (ak 1) (au .Sub (aa 4) (ak 1))) (ab (ay c (.ref 142) (ab (au .Sub (aa 4) (ak 1)) ae)) ae))))) (dQ c))
noncomputable abbrev xb(c:Ctx):MS:=(ag (ifM (aE (aH (ai c (fun C=>if C=1080 then some 928 else none) ("is_bits":Str) (aa 0) (ab (aa 2) ae))) (aE (aH (ai c (fun C=>if C=1080 then some 928 else none) ("is_bits":Str) (aa 0) (ab (aa 3) ae))) (aD true))) (ag (ao (ai c (fun C=>if C=762 then some 425 else none) ("bool_term":Str) (am (fun C=>C==1080) ("bank":Str) (aa 0)) (ab (ay c (.ref 191) (ab (aa 1) (ab (ai c (fun C=>if C=762 then some 355 else none) ("data":Str) (am (fun C=>C==1080) ("bank":Str) (aa 0)) (ab (aa 2) ae)) (ab (ai c (fun C=>if C=762 then some 355 else none) ("data":Str) (am (fun C=>C==1080) ("bank":Str) (aa 0)) (ab (aa 3) ae)) (ab (aa 4) ae))))) ae))) ah) ah) (vi c))
noncomputable abbrev vU(c:Ctx):MS:=(ag (ifM (an .Eq (aa 2) (aa 3)) (ag (ao (am (fun C=>C==1080) ("no":Str) (aa 0))) ah) ah) (xb c))
noncomputable abbrev re(c:Ctx):MS:=(ag (aw (nmA 4) (ai c (fun C=>if C=762 then some 362 else none) ("width":Str) (am (fun C=>C==1080) ("bank":Str) (aa 0)) (ab (aa 2) ae))) (vU c))
noncomputable abbrev rj(c:Ctx):MS:=(ag (ifM (an .Eq (aa 1) (al ("bvsle":Str))) (ag (ao (ai c (fun C=>if C=1080 then some 817 else none) ("negated":Str) (aa 0) (ab (ai c (fun C=>if C=1080 then some 1005 else none) ("asked_bits":Str) (aa 0) (ab (al ("bvslt":Str)) (ab (aa 3) (ab (aa 2) ae)))) ae))) ah) ah) (re c))
noncomputable def gF(c:Ctx):MS:=(ag (ifM (an .Eq (aa 1) (al ("bvule":Str))) (ag (ao (ai c (fun C=>if C=1080 then some 817 else none) ("negated":Str) (aa 0) (ab (ai c (fun C=>if C=1080 then some 1005 else none) ("asked_bits":Str) (aa 0) (ab (al ("bvult":Str)) (ab (aa 3) (ab (aa 2) ae)))) ae))) ah) ah) (rj c))
noncomputable abbrev pN:Gm:={ sl:=[(("self":Str),some 0),(("a":Str),some 1),(("b":Str),some 2),(("width":Str),some 3),(("value":Str),some 4),(("concat_value":Str),none)],ck:=[] }
noncomputable def lk:List Stmt:=bF 43 (some 15)
noncomputable def j3(c:Ctx):MS:=(ag (aw (nmA 3) (ai c (fun C=>if C=762 then some 362 else none) ("width":Str) (am (fun C=>C==1080) ("bank":Str) (aa 0)) (ab (aa 2) ae))) (ag (ifM (aE (aH (ai c (fun C=>if C=1080 then some 928 else none) ("is_bits":Str) (aa 0) (ab (aa 1) ae))) (aE (aH (ai c (fun C=>if C=1080 then some 928 else none) ("is_bits":Str) (aa 0) (ab (aa 2) ae))) (aD true))) (ag (aw (nmA 4) (ay c (.ref 205) (ab (ai c (fun C=>if C=762 then some 355 else none) ("data":Str) (am (fun C=>C==1080) ("bank":Str) (aa 0)) (ab (aa 1) ae)) (ab (ai c (fun C=>if C=762 then some 355 else none) ("data":Str) (am (fun C=>C==1080) ("bank":Str) (aa 0)) (ab (aa 2) ae)) (ab (aa 3) ae))))) (ag (ao (ai c (fun C=>if C=762 then some 689 else none) ("bv_num":Str) (am (fun C=>C==1080) ("bank":Str) (aa 0)) (ab (aa 4) (ab (au .Add (ai c (fun C=>if C=762 then some 362 else none) ("width":Str) (am (fun C=>C==1080) ("bank":Str) (aa 0)) (ab (aa 1) ae)) (aa 3)) ae)))) ah)) ah) (ag (ifM (an .Eq (ai c (fun C=>if C=1080 then some 935 else none) ("value_or":Str) (aa 0) (ab (aa 1) (ab (bW (ak 1)) ae))) (ak 0)) (ag (ao (ai c (fun C=>if C=1080 then some 1040 else none) ("wider":Str) (aa 0) (ab (ai c (fun C=>if C=762 then some 362 else none) ("width":Str) (am (fun C=>C==1080) ("bank":Str) (aa 0)) (ab (aa 1) ae)) (ab (aa 2) ae)))) ah) ah) (ag (ifM (aE (an .Eq (ai c (fun C=>if C=762 then some 334 else none) ("op":Str) (am (fun C=>C==1080) ("bank":Str) (aa 0)) (ab (aa 1) ae)) (al ("concat":Str))) (aE (aH (ai c (fun C=>if C=1080 then some 928 else none) ("is_bits":Str) (aa 0) (ab (aa 2) ae))) (aE (aH (ai c (fun C=>if C=1080 then some 928 else none) ("is_bits":Str) (aa 0) (ab (aq (ai c (fun C=>if C=762 then some 341 else none) ("args":Str) (am (fun C=>C==1080) ("bank":Str) (aa 0)) (ab (aa 1) ae)) (ak 1)) ae))) (aD true)))) (ag (ao (ai c (fun C=>if C=762 then some 710 else none) ("concat":Str) (am (fun C=>C==1080) ("bank":Str) (aa 0)) (ab (aq (ai c (fun C=>if C=762 then some 341 else none) ("args":Str) (am (fun C=>C==1080) ("bank":Str) (aa 0)) (ab (aa 1) ae)) (ak 0)) (ab (ai c (fun C=>if C=1080 then some 1012 else none) ("put_together":Str) (aa 0) (ab (aq (ai c (fun C=>if C=762 then some 341 else none) ("args":Str) (am (fun C=>C==1080) ("bank":Str) (aa 0)) (ab (aa 1) ae)) (ak 1)) (ab (aa 2) ae))) ae)))) ah) ah) (ag (ifM (aE (an .Eq (ai c (fun C=>if C=762 then some 334 else none) ("op":Str) (am (fun C=>C==1080) ("bank":Str) (aa 0)) (ab (aa 1) ae)) (al ("extract":Str))) (aE (an .Eq (ai c (fun C=>if C=762 then some 334 else none) ("op":Str) (am (fun C=>C==1080) ("bank":Str) (aa 0)) (ab (aa 2) ae)) (al ("extract":Str))) (aE (an .Eq (ai c (fun C=>if C=762 then some 341 else none) ("args":Str) (am (fun C=>C==1080) ("bank":Str) (aa 0)) (ab (aa 1) ae)) (ai c (fun C=>if C=762 then some 341 else none) ("args":Str) (am (fun C=>C==1080) ("bank":Str) (aa 0)) (ab (aa 2) ae))) (aD true)))) (ag (ifM (an .Eq (aq (ai c (fun C=>if C=762 then some 355 else none) ("data":Str) (am (fun C=>C==1080) ("bank":Str) (aa 0)) (ab (aa 1) ae)) (ak 1)) (au .Add (aq (ai c (fun C=>if C=762 then some 355 else none) ("data":Str) (am (fun C=>C==1080) ("bank":Str) (aa 0)) (ab (aa 2) ae)) (ak 0)) (ak 1))) (ag (ao (ai c (fun C=>if C=1080 then some 1019 else none) ("cut_out":Str) (aa 0) (ab (aq (ai c (fun C=>if C=762 then some 355 else none) ("data":Str) (am (fun C=>C==1080) ("bank":Str) (aa 0)) (ab (aa 1) ae)) (ak 0)) (ab (aq (ai c (fun C=>if C=762 then some 355 else none) ("data":Str) (am (fun C=>C==1080) ("bank":Str) (aa 0)) (ab (aa 2) ae)) (ak 1)) (ab (aq (ai c (fun C=>if C=762 then some 341 else none) ("args":Str) (am (fun C=>C==1080) ("bank":Str) (aa 0)) (ab (aa 1) ae)) (ak 0)) ae))))) ah) ah) ah) ah) (ag (ao (ai c (fun C=>if C=762 then some 710 else none) ("concat":Str) (am (fun C=>C==1080) ("bank":Str) (aa 0)) (ab (aa 1) (ab (aa 2) ae)))) ah))))))
noncomputable abbrev kG:Gm:={ sl:=[(("self":Str),some 0),(("high":Str),some 1),(("low":Str),some 2),(("a":Str),some 3),(("many":Str),some 4),(("within":Str),some 5),(("found":Str),some 6),(("lap":Str),some 7),(("range":Str),none)],ck:=[] }
noncomputable def lA:List Stmt:=bF 43 (some 16)
noncomputable def lm(c:Ctx):MS:=(ag (aw (nmA 4) (ak 0)) (ag (aw (nmA 5) (ai c (fun C=>if C=1080 then some 1026 else none) ("cut_within":Str) (aa 0) (ab (aa 1) (ab (aa 2) (ab (aa 3) ae))))) (ag (cJ (an .IsNot (aa 5) dm) (ag (aw (nmA 4) (aR (an .Eq (ai c (fun C=>if C=762 then some 334 else none) ("op":Str) (am (fun C=>C==1080) ("bank":Str) (aa 0)) (ab (aa 3) ae)) (al ("bvnot":Str))) (au .Add (aa 4) (ak 1)) (aa 4))) (ag (aw (bQ 3 (aU (nmA 1) (aU (nmA 2) (aU (nmA 3) bJ)))) (aa 5)) (ag (aw (nmA 5) (ai c (fun C=>if C=1080 then some 1026 else none) ("cut_within":Str) (aa 0) (ab (aa 1) (ab (aa 2) (ab (aa 3) ae))))) ah)))) (ag (aw (nmA 6) (ai c (fun C=>if C=1080 then some 1033 else none) ("cut_here":Str) (aa 0) (ab (aa 1) (ab (aa 2) (ab (aa 3) ae))))) (ag (bv (aG (ay c (.type "range") (ab (aa 4) ae))) (nmA 7) (ag (aw (nmA 6) (ai c (fun C=>if C=1080 then some 949 else none) ("one_bits":Str) (aa 0) (ab (al ("bvnot":Str)) (ab (aa 6) ae)))) ah)) (ag (ao (aa 6)) ah))))))
noncomputable abbrev km:Gm:={ sl:=[(("self":Str),some 0),(("high":Str),some 1),(("low":Str),some 2),(("a":Str),some 3),(("kind":Str),some 4),(("args":Str),some 5),(("seam":Str),some 6)],ck:=[] }
noncomputable def nr:List Stmt:=bF 43 (some 17)
noncomputable def il(c:Ctx):MS:=(ag (aQ [4,5] (ab (ai c (fun C=>if C=762 then some 334 else none) ("op":Str) (am (fun C=>C==1080) ("bank":Str) (aa 0)) (ab (aa 3) ae)) (ab (ai c (fun C=>if C=762 then some 341 else none) ("args":Str) (am (fun C=>C==1080) ("bank":Str) (aa 0)) (ab (aa 3) ae)) ae))) (ag (ifM (aE (an .Eq (aa 2) (ak 0)) (aE (an .Eq (aa 1) (au .Sub (ai c (fun C=>if C=762 then some 362 else none) ("width":Str) (am (fun C=>C==1080) ("bank":Str) (aa 0)) (ab (aa 3) ae)) (ak 1))) (aD true))) (ag (ao dm) ah) ah) (ag (ifM (an .Eq (aa 4) (al ("extract":Str))) (ag (ao (aB (ab (au .Add (aa 1) (aq (ai c (fun C=>if C=762 then some 355 else none) ("data":Str) (am (fun C=>C==1080) ("bank":Str) (aa 0)) (ab (aa 3) ae)) (ak 1))) (ab (au .Add (aa 2) (aq (ai c (fun C=>if C=762 then some 355 else none) ("data":Str) (am (fun C=>C==1080) ("bank":Str) (aa 0)) (ab (aa 3) ae)) (ak 1))) (ab (aq (aa 5) (ak 0)) ae))))) ah) ah) (ag (ifM (an .Eq (aa 4) (al ("bvnot":Str))) (ag (ao (aB (ab (aa 1) (ab (aa 2) (ab (aq (aa 5) (ak 0)) ae))))) ah) ah) (ag (ifM (an .Eq (aa 4) (al ("concat":Str))) (ag (aw (nmA 6) (ai c (fun C=>if C=762 then some 362 else none) ("width":Str) (am (fun C=>C==1080) ("bank":Str) (aa 0)) (ab (aq (aa 5) (ak 1)) ae))) (ag (ifM (an .Lt (aa 1) (aa 6)) (ag (ao (aB (ab (aa 1) (ab (aa 2) (ab (aq (aa 5) (ak 1)) ae))))) ah) ah) (ag (ifM (an .GtE (aa 2) (aa 6)) (ag (ao (aB (ab (au .Sub (aa 1) (aa 6)) (ab (au .Sub (aa 2) (aa 6)) (ab (aq (aa 5) (ak 0)) ae))))) ah) ah) ah))) ah) (ag (ifM (aE (an .In (aa 4) (aB (ab (al ("zero_extend":Str)) (ab (al ("sign_extend":Str)) ae)))) (aE (an .Lt (aa 1) (ai c (fun C=>if C=762 then some 362 else none) ("width":Str) (am (fun C=>C==1080) ("bank":Str) (aa 0)) (ab (aq (aa 5) (ak 0)) ae))) (aD true))) (ag (ao (aB (ab (aa 1) (ab (aa 2) (ab (aq (aa 5) (ak 0)) ae))))) ah) ah) (ag (ao dm) ah)))))))
noncomputable abbrev pC:Gm:={ sl:=[(("self":Str),some 0),(("high":Str),some 1),(("low":Str),some 2),(("a":Str),some 3),(("kind":Str),some 4),(("extract_value":Str),none)],ck:=[] }
noncomputable def jw:List Stmt:=bF 43 (some 18)
noncomputable def og(c:Ctx):MS:=(ag (aw (nmA 4) (ai c (fun C=>if C=762 then some 334 else none) ("op":Str) (am (fun C=>C==1080) ("bank":Str) (aa 0)) (ab (aa 3) ae))) (ag (ifM (aE (an .Eq (aa 2) (ak 0)) (aE (an .Eq (aa 1) (au .Sub (ai c (fun C=>if C=762 then some 362 else none) ("width":Str) (am (fun C=>C==1080) ("bank":Str) (aa 0)) (ab (aa 3) ae)) (ak 1))) (aD true))) (ag (ao (aa 3)) ah) ah) (ag (ifM (an .Eq (aa 4) (al ("bvnum":Str))) (ag (ao (ai c (fun C=>if C=762 then some 689 else none) ("bv_num":Str) (am (fun C=>C==1080) ("bank":Str) (aa 0)) (ab (ay c (.ref 198) (ab (ai c (fun C=>if C=762 then some 355 else none) ("data":Str) (am (fun C=>C==1080) ("bank":Str) (aa 0)) (ab (aa 3) ae)) (ab (aa 1) (ab (aa 2) ae)))) (ab (au .Add (au .Sub (aa 1) (aa 2)) (ak 1)) ae)))) ah) ah) (ag (ifM (aE (an .Eq (aa 4) (al ("zero_extend":Str))) (aE (an .GtE (aa 2) (ai c (fun C=>if C=762 then some 362 else none) ("width":Str) (am (fun C=>C==1080) ("bank":Str) (aa 0)) (ab (aq (ai c (fun C=>if C=762 then some 341 else none) ("args":Str) (am (fun C=>C==1080) ("bank":Str) (aa 0)) (ab (aa 3) ae)) (ak 0)) ae))) (aD true))) (ag (ao (ai c (fun C=>if C=762 then some 689 else none) ("bv_num":Str) (am (fun C=>C==1080) ("bank":Str) (aa 0)) (ab (ak 0) (ab (au .Add (au .Sub (aa 1) (aa 2)) (ak 1)) ae)))) ah) ah) (ag (ao (ai c (fun C=>if C=762 then some 717 else none) ("extract":Str) (am (fun C=>C==1080) ("bank":Str) (aa 0)) (ab (aa 1) (ab (aa 2) (ab (aa 3) ae))))) ah)))))
noncomputable abbrev kf:Gm:={ sl:=[(("self":Str),some 0),(("a":Str),some 1),(("b":Str),some 2),(("deep":Str),some 3)],ck:=[] }
noncomputable def kz:List Stmt:=bF 43 (some 21)
noncomputable def ng(c:Ctx):MS:=(ag (cJ (aE (an .In (ai c (fun C=>if C=762 then some 334 else none) ("op":Str) (am (fun C=>C==1080) ("bank":Str) (aa 0)) (ab (aa 1) ae)) (aB (ab (al ("bvnot":Str)) (ab (al ("bvneg":Str)) ae)))) (aE (an .Eq (ai c (fun C=>if C=762 then some 334 else none) ("op":Str) (am (fun C=>C==1080) ("bank":Str) (aa 0)) (ab (aa 1) ae)) (ai c (fun C=>if C=762 then some 334 else none) ("op":Str) (am (fun C=>C==1080) ("bank":Str) (aa 0)) (ab (aa 2) ae))) (aD true))) (ag (aQ [1,2] (ab (aq (ai c (fun C=>if C=762 then some 341 else none) ("args":Str) (am (fun C=>C==1080) ("bank":Str) (aa 0)) (ab (aa 1) ae)) (ak 0)) (ab (aq (ai c (fun C=>if C=762 then some 341 else none) ("args":Str) (am (fun C=>C==1080) ("bank":Str) (aa 0)) (ab (aa 2) ae)) (ak 0)) ae))) ah)) (ag (ifM (aH (ai c (fun C=>if C=1080 then some 928 else none) ("is_bits":Str) (aa 0) (ab (aa 2) ae))) (ag (aQ [1,2] (ab (aa 2) (ab (aa 1) ae))) ah) ah) (ag (ifM (aH (ai c (fun C=>if C=1080 then some 928 else none) ("is_bits":Str) (aa 0) (ab (aa 1) ae))) (ag (ao (ai c (fun C=>if C=1080 then some 1063 else none) ("equal_number":Str) (aa 0) (ab (ai c (fun C=>if C=762 then some 355 else none) ("data":Str) (am (fun C=>C==1080) ("bank":Str) (aa 0)) (ab (aa 1) ae)) (ab (aa 2) (ab (aa 3) ae))))) ah) ah) (ag (ifM (aH (ai c (fun C=>if C=1080 then some 970 else none) ("is_turned":Str) (aa 0) (ab (al ("bvnot":Str)) (ab (aa 1) (ab (aa 2) ae))))) (ag (ao (am (fun C=>C==1080) ("no":Str) (aa 0))) ah) ah) (ag (ao (ai c (fun C=>if C=762 then some 502 else none) ("eq":Str) (am (fun C=>C==1080) ("bank":Str) (aa 0)) (ab (aa 1) (ab (aa 2) ae)))) ah)))))
noncomputable abbrev mN:Gm:={ sl:=[(("self":Str),some 0),(("value":Str),some 1),(("b":Str),some 2),(("deep":Str),some 3),(("kind":Str),some 4),(("args":Str),some 5),(("width":Str),some 6),(("back":Str),some 7),(("seam":Str),some 8),(("high":Str),some 9),(("low":Str),some 10),(("both":Str),some 11),(("part":Str),some 12),(("wanted":Str),some 13),(("known":Str),some 14),(("inner":Str),some 15),(("is_right":Str),some 16),(("DEEPEST":Str),none),(("one_value":Str),none),(("two_value":Str),none),(("extract_value":Str),none),(("sign_extended":Str),none)],ck:=[] }
noncomputable def jA:List Stmt:=bF 43 (some 22)
noncomputable def im(c:Ctx):MS:=(ag (aQ [4,5,6] (ab (ai c (fun C=>if C=762 then some 334 else none) ("op":Str) (am (fun C=>C==1080) ("bank":Str) (aa 0)) (ab (aa 2) ae)) (ab (ai c (fun C=>if C=762 then some 341 else none) ("args":Str) (am (fun C=>C==1080) ("bank":Str) (aa 0)) (ab (aa 2) ae)) (ab (ai c (fun C=>if C=762 then some 362 else none) ("width":Str) (am (fun C=>C==1080) ("bank":Str) (aa 0)) (ab (aa 2) ae)) ae)))) (ag (ifM (an .GtE (aa 3) (bg (.int 50))) (ag (ao (ai c (fun C=>if C=762 then some 502 else none) ("eq":Str) (am (fun C=>C==1080) ("bank":Str) (aa 0)) (ab (ai c (fun C=>if C=1080 then some 942 else none) ("number":Str) (aa 0) (ab (aa 1) (ab (aa 2) ae))) (ab (aa 2) ae)))) ah) ah) (ag (ifM (an .In (aa 4) (aB (ab (al ("bvnot":Str)) (ab (al ("bvneg":Str)) ae)))) (ag (ao (ai c (fun C=>if C=1080 then some 1063 else none) ("equal_number":Str) (aa 0) (ab (ay c (.ref 156) (ab (aa 4) (ab (aa 1) (ab (aa 6) ae)))) (ab (aq (aa 5) (ak 0)) (ab (au .Add (aa 3) (ak 1)) ae))))) ah) ah) (ag (ifM (aE (an .In (aa 4) (aB (ab (al ("bvadd":Str)) (ab (al ("bvxor":Str)) ae)))) (aE (aH (ai c (fun C=>if C=1080 then some 928 else none) ("is_bits":Str) (aa 0) (ab (aq (aa 5) (ak 0)) ae))) (aD true))) (ag (aw (nmA 7) (aR (an .Eq (aa 4) (al ("bvadd":Str))) (al ("bvsub":Str)) (al ("bvxor":Str)))) (ag (ao (ai c (fun C=>if C=1080 then some 1063 else none) ("equal_number":Str) (aa 0) (ab (ay c (.ref 184) (ab (aa 7) (ab (aa 1) (ab (ai c (fun C=>if C=762 then some 355 else none) ("data":Str) (am (fun C=>C==1080) ("bank":Str) (aa 0)) (ab (aq (aa 5) (ak 0)) ae)) (ab (aa 6) ae))))) (ab (aq (aa 5) (ak 1)) (ab (au .Add (aa 3) (ak 1)) ae))))) ah)) ah) (ag (ifM (an .Eq (aa 4) (al ("concat":Str))) (ag (aw (nmA 8) (ai c (fun C=>if C=762 then some 362 else none) ("width":Str) (am (fun C=>C==1080) ("bank":Str) (aa 0)) (ab (aq (aa 5) (ak 1)) ae))) (ag (aQ [9,10] (ab (au .RShift (aa 1) (aa 8)) (ab (ay c (.ref 198) (ab (aa 1) (ab (au .Sub (aa 8) (ak 1)) (ab (ak 0) ae)))) ae))) (ag (aw (nmA 11) (flM ae)) (ag (bv (aG (aB (ab (aB (ab (aq (aa 5) (ak 0)) (ab (aa 9) ae))) (ab (aB (ab (aq (aa 5) (ak 1)) (ab (aa 10) ae))) ae)))) (bQ 2 (aU (nmA 12) (aU (nmA 13) bJ))) (ag (aw (nmA 14) (ai c (fun C=>if C=762 then some 425 else none) ("bool_term":Str) (am (fun C=>C==1080) ("bank":Str) (aa 0)) (ab (bl .Eq (ai c (fun C=>if C=1080 then some 935 else none) ("value_or":Str) (aa 0) (ab (aa 12) (ab (ak 0) ae))) (aa 13)) ae))) (ag (aM (aW c "list" "list.append" (aa 11) (ab (aR (aH (ai c (fun C=>if C=1080 then some 928 else none) ("is_bits":Str) (aa 0) (ab (aa 12) ae))) (aa 14) (ai c (fun C=>if C=1080 then some 1063 else none) ("equal_number":Str) (aa 0) (ab (aa 13) (ab (aa 12) (ab (au .Add (aa 3) (ak 1)) ae))))) ae))) ah))) (ag (ao (ai c (fun C=>if C=1080 then some 810 else none) ("joined":Str) (aa 0) (ab (al ("and":Str)) (ab (aa 11) ae)))) ah))))) ah) (ag (ifM (an .Eq (aa 4) (al ("zero_extend":Str))) (ag (aw (nmA 15) (ai c (fun C=>if C=762 then some 362 else none) ("width":Str) (am (fun C=>C==1080) ("bank":Str) (aa 0)) (ab (aq (aa 5) (ak 0)) ae))) (ag (ao (aR (an .Gt (au .RShift (aa 1) (aa 15)) (ak 0)) (am (fun C=>C==1080) ("no":Str) (aa 0)) (ai c (fun C=>if C=1080 then some 1063 else none) ("equal_number":Str) (aa 0) (ab (aa 1) (ab (aq (aa 5) (ak 0)) (ab (au .Add (aa 3) (ak 1)) ae)))))) ah)) ah) (ag (ifM (an .Eq (aa 4) (al ("sign_extend":Str))) (ag (aw (nmA 15) (ai c (fun C=>if C=762 then some 362 else none) ("width":Str) (am (fun C=>C==1080) ("bank":Str) (aa 0)) (ab (aq (aa 5) (ak 0)) ae))) (ag (aw (nmA 10) (ay c (.ref 198) (ab (aa 1) (ab (au .Sub (aa 15) (ak 1)) (ab (ak 0) ae))))) (ag (aw (nmA 16) (bl .Eq (ay c (.ref 212) (ab (aa 10) (ab (aa 15) (ab (ai c (fun C=>if C=762 then some 355 else none) ("data":Str) (am (fun C=>C==1080) ("bank":Str) (aa 0)) (ab (aa 2) ae)) ae)))) (aa 1))) (ag (ao (aR (aH (aa 16)) (ai c (fun C=>if C=1080 then some 1063 else none) ("equal_number":Str) (aa 0) (ab (aa 10) (ab (aq (aa 5) (ak 0)) (ab (au .Add (aa 3) (ak 1)) ae)))) (am (fun C=>C==1080) ("no":Str) (aa 0)))) ah)))) ah) (ag (ifM (an .Eq (aa 4) (al ("ite":Str))) (ag (ao (ai c (fun C=>if C=1080 then some 869 else none) ("equal_chosen":Str) (aa 0) (ab (ai c (fun C=>if C=1080 then some 942 else none) ("number":Str) (aa 0) (ab (aa 1) (ab (aa 2) ae))) (ab (aa 2) (ab (aa 3) ae))))) ah) ah) (ag (ao (ai c (fun C=>if C=762 then some 502 else none) ("eq":Str) (am (fun C=>C==1080) ("bank":Str) (aa 0)) (ab (ai c (fun C=>if C=1080 then some 942 else none) ("number":Str) (aa 0) (ab (aa 1) (ab (aa 2) ae))) (ab (aa 2) ae)))) ah)))))))))
noncomputable abbrev jI:Gm:={ sl:=[(("mug":Str),some 0),(("many":Str),some 1),(("k":Str),some 2),(("len":Str),none)],ck:=[] }
noncomputable def nO:List Stmt:=bF 45 none
noncomputable def kH(c:Ctx):MS:=(ag (aw (nmA 2) (aq (aa 0) (ak 1))) (ag (aw (ci (aa 0) (ak 1)) (au .Add (aa 2) (ak 1))) (ag (ao (au .Mod (aR (an .Lt (aa 2) (ay c (.builtin "len") (ab (aq (aa 0) (ak 0)) ae))) (aq (aq (aa 0) (ak 0)) (aa 2)) (au .Add (au .Add (au .Add (au .Add (au .Mult (au .Mult (ak 5) (aa 2)) (aa 2)) (au .Mult (ak 6) (aa 2))) (au .FloorDiv (aa 2) (ak 2))) (au .Mult (ak 3) (ay c (.builtin "len") (ab (aq (aa 0) (ak 0)) ae)))) (ak 4))) (aa 1))) ah)))
noncomputable abbrev kj:Gm:={ sl:=[(("mug":Str),some 0),(("bank":Str),some 1),(("rewriter":Str),some 2),(("x":Str),some 3),(("width":Str),some 4),(("way":Str),some 5),(("number":Str),some 6),(("_law_sip":Str),none)],ck:=[] }
noncomputable def jr:List Stmt:=bF 46 none
noncomputable def mP(c:Ctx):MS:=(ag (aQ [5,6] (ab (ay c (.ref 1089) (ab (aa 0) (ab (ak 6) ae))) (ab (ai c (fun C=>if C=762 then some 689 else none) ("bv_num":Str) (aa 1) (ab (ay c (.ref 1089) (ab (aa 0) (ab (ak 8) ae))) (ab (aa 4) ae))) ae))) (ag (ifM (an .Eq (aa 5) (ak 0)) (ag (ao (aa 3)) ah) ah) (ag (ifM (an .Lt (aa 5) (ak 3)) (ag (ao (ai c (fun C=>if C=1080 then some 784 else none) ("simplify":Str) (aa 2) (ab (ai c (fun C=>if C=762 then some 696 else none) ("bv_one":Str) (aa 1) (ab (aq (aB (ab (al ("bvnot":Str)) (ab (al ("bvneg":Str)) ae))) (au .Sub (aa 5) (ak 1))) (ab (aa 3) ae))) ae))) ah) ah) (ag (ifM (an .Eq (aa 5) (ak 3)) (ag (ao (ai c (fun C=>if C=1080 then some 784 else none) ("simplify":Str) (aa 2) (ab (ai c (fun C=>if C=762 then some 703 else none) ("bv_two":Str) (aa 1) (ab (al ("bvadd":Str)) (ab (aa 6) (ab (aa 3) ae)))) ae))) ah) ah) (ag (ao (aR (an .Eq (aa 5) (ak 4)) (aa 6) (ai c (fun C=>if C=1080 then some 784 else none) ("simplify":Str) (aa 2) (ab (ai c (fun C=>if C=762 then some 717 else none) ("extract":Str) (aa 1) (ab (aa 4) (ab (ak 1) (ab (ai c (fun C=>if C=762 then some 710 else none) ("concat":Str) (aa 1) (ab (aa 3) (ab (ai c (fun C=>if C=762 then some 689 else none) ("bv_num":Str) (aa 1) (ab (ak 0) (ab (ak 1) ae))) ae))) ae)))) ae)))) ah)))))
noncomputable abbrev mF:Gm:={ sl:=[(("bank":Str),some 0),(("t":Str),some 1),(("env":Str),some 2),(("op":Str),some 3),(("some":Str),some 4),(("many":Str),some 5),(("range":Str),none)],ck:=[("bank":Str),("env":Str)] }
noncomputable abbrev ry:Gm:={ sl:=[(("bank":Str),some 0),(("env":Str),some 2),(("part":Str),some 6),(("_law_worth":Str),none)],ck:=[("bank":Str),("env":Str)] }
noncomputable def lS:List Stmt:=bF 47 none
noncomputable def bM(c:Ctx):MS:=(ag (aQ [3,4] (ab (ai c (fun C=>if C=762 then some 334 else none) ("op":Str) (aa 0) (ab (aa 1) ae)) (ab (aO (aG (ai c (fun C=>if C=762 then some 341 else none) ("args":Str) (aa 0) (ab (aa 1) ae))) 6 1 (nmA 6) (aD true) (ay c (.ref 1101) (ab (aa 0) (ab (aa 6) (ab (aa 2) ae))))) ae))) (ag (ifM (an .Eq (aa 3) (al ("app":Str))) (ag (ao (aq (aa 2) (aa 1))) ah) ah) (ag (ifM (an .Eq (aa 3) (al ("bvnum":Str))) (ag (ao (ai c (fun C=>if C=762 then some 355 else none) ("data":Str) (aa 0) (ab (aa 1) ae))) ah) ah) (ag (ifM (an .In (aa 3) (aB (ab (al ("true":Str)) (ab (al ("false":Str)) ae)))) (ag (ao (bl .Eq (aa 3) (al ("true":Str)))) ah) ah) (ag (ifM (an .Eq (aa 3) (al ("not":Str))) (ag (ao (fG (aq (aa 4) (ak 0)))) ah) ah) (ag (ifM (an .Eq (aa 3) (al ("=":Str))) (ag (ao (bl .Eq (aq (aa 4) (ak 0)) (aq (aa 4) (ak 1)))) ah) ah) (ag (ifM (an .Eq (aa 3) (al ("and":Str))) (ag (ao (bl .NotIn (bf false) (aa 4))) ah) ah) (ag (aw (nmA 5) (au .Pow (ak 2) (ai c (fun C=>if C=762 then some 362 else none) ("width":Str) (aa 0) (ab (aq (ai c (fun C=>if C=762 then some 341 else none) ("args":Str) (aa 0) (ab (aa 1) ae)) (ak 0)) ae)))) (ag (ifM (an .Eq (aa 3) (al ("bvult":Str))) (ag (ao (bl .In (aq (aa 4) (ak 0)) (ay c (.type "range") (ab (aq (aa 4) (ak 1)) ae)))) ah) ah) (ag (ifM (an .Eq (aa 3) (al ("bvslt":Str))) (ag (ao (bl .In (au .Mod (au .Add (aq (aa 4) (ak 0)) (au .FloorDiv (aa 5) (ak 2))) (aa 5)) (ay c (.type "range") (ab (au .Mod (au .Add (aq (aa 4) (ak 1)) (au .FloorDiv (aa 5) (ak 2))) (aa 5)) ae)))) ah) ah) (ag (ifM (an .Eq (aa 3) (al ("bvnot":Str))) (ag (ao (au .Sub (au .Sub (aa 5) (ak 1)) (aq (aa 4) (ak 0)))) ah) ah) (ag (ao (au .Mod (aR (an .Eq (aa 3) (al ("bvneg":Str))) (au .Sub (ak 0) (aq (aa 4) (ak 0))) (au .Add (aq (aa 4) (ak 0)) (aq (aa 4) (ak 1)))) (aa 5))) ah))))))))))))
noncomputable abbrev nl:Gm:={ sl:=[(("bank":Str),some 0),(("t":Str),some 1)],ck:=[("bank":Str)] }
noncomputable abbrev vO:Gm:={ sl:=[(("bank":Str),some 0),(("part":Str),some 2)],ck:=[("bank":Str)] }
noncomputable def oq:List Stmt:=bF 48 none
noncomputable def mq(c:Ctx):MS:=(ag (ao (aO (aG (ai c (fun C=>if C=762 then some 432 else none) ("parts":Str) (aa 0) (ab (aa 1) ae))) 2 1 (nmA 2) (aD true) (ai c (fun C=>if C=762 then some 334 else none) ("op":Str) (aa 0) (ab (aa 2) ae)))) ah)
noncomputable abbrev lX:Gm:={ sl:=[(("bank":Str),some 0),(("rewriter":Str),some 1),(("a":Str),some 2),(("x":Str),some 3),(("width":Str),some 4),(("many":Str),some 5),(("numbers":Str),some 6),(("signed_row":Str),some 7),(("strict":Str),some 8),(("loose":Str),some 9),(("row":Str),some 10),(("behind":Str),some 11),(("ahead":Str),some 12),(("upto":Str),some 13),(("n":Str),some 14),(("place":Str),some 15),(("told":Str),some 16),(("range":Str),none),(("list":Str),none),(("_law_worth":Str),none)],ck:=[("bank":Str),("rewriter":Str),("a":Str),("x":Str),("width":Str),("strict":Str),("loose":Str),("n":Str)] }
noncomputable abbrev xm:Gm:={ sl:=[(("bank":Str),some 0),(("width":Str),some 4),(("n":Str),some 17)],ck:=[("bank":Str),("width":Str)] }
noncomputable abbrev sY:Gm:={ sl:=[(("a":Str),some 2),(("rewriter":Str),some 1),(("strict":Str),some 8),(("number":Str),some 17)],ck:=[("a":Str),("rewriter":Str),("strict":Str)] }
noncomputable abbrev qB:Gm:={ sl:=[(("a":Str),some 2),(("rewriter":Str),some 1),(("strict":Str),some 8),(("number":Str),some 17)],ck:=[("a":Str),("rewriter":Str),("strict":Str)] }
noncomputable abbrev qF:Gm:={ sl:=[(("a":Str),some 2),(("loose":Str),some 9),(("rewriter":Str),some 1),(("number":Str),some 17)],ck:=[("a":Str),("loose":Str),("rewriter":Str)] }
noncomputable abbrev ui:Gm:={ sl:=[(("bank":Str),some 0),(("n":Str),some 14),(("x":Str),some 3),(("t":Str),some 18),(("_law_worth":Str),none)],ck:=[("bank":Str),("n":Str),("x":Str)] }
noncomputable abbrev xt:Gm:={ sl:=[(("bank":Str),some 0),(("n":Str),some 14),(("x":Str),some 3),(("some":Str),some 17),(("len":Str),none)],ck:=[("bank":Str),("n":Str),("x":Str)] }
noncomputable def fB(c:Ctx):MS:=(ag (aw (nmA 15) (aW c "list" "list.index" (aa 10) (ab (ay c (.ref 1101) (ab (aa 0) (ab (aa 2) (ab (bO false (bH (aa 3) (aa 14) b9)) ae)))) ae))) (ag (aw (nmA 16) (aO (aG (aB (ab (aa 11) (ab (aa 12) (ab (aa 13) ae))))) 17 1 (nmA 17) (aD true) (ay c (.builtin "len") (ab (aO (aG (aa 17)) 18 1 (nmA 18) (aH (ay c (.ref 1101) (ab (aa 0) (ab (aa 18) (ab (bO false (bH (aa 3) (aa 14) b9)) ae))))) (ak 1)) ae)))) (ag (ifM (an .NotEq (aa 16) (flM (ab (au .Sub (au .Sub (aa 5) (ak 1)) (aa 15)) (ab (aa 15) (ab (au .Add (aa 15) (ak 1)) ae))))) (ag (ao (bf false)) ah) ah) ah)))
noncomputable def iW(c:Ctx):MS:=(ag (aw (nmA 11) (aO (aG (aa 6)) 17 1 (nmA 17) (aD true) (ai c (fun C=>if C=1080 then some 1005 else none) ("asked_bits":Str) (aa 1) (ab (aa 8) (ab (aa 2) (ab (aa 17) ae)))))) (ag (aw (nmA 12) (aO (aG (aa 6)) 17 1 (nmA 17) (aD true) (ai c (fun C=>if C=1080 then some 1005 else none) ("asked_bits":Str) (aa 1) (ab (aa 8) (ab (aa 17) (ab (aa 2) ae)))))) (ag (aw (nmA 13) (aO (aG (aa 6)) 17 1 (nmA 17) (aD true) (ai c (fun C=>if C=1080 then some 1005 else none) ("asked_bits":Str) (aa 1) (ab (aa 9) (ab (aa 17) (ab (aa 2) ae)))))) (ag (bv (aG (ay c (.type "range") (ab (ak 0) (ab (aa 5) (ab (au .Add (ak 1) (au .Mult (au .FloorDiv (aa 4) (ak 3)) (ak 2))) ae))))) (nmA 14) (fB c)) ah))))
noncomputable def iZ:List Stmt:=bF 49 none
noncomputable def jz(c:Ctx):MS:=(ag (aw (nmA 5) (au .Pow (ak 2) (aa 4))) (ag (aw (nmA 6) (aO (aG (ay c (.type "range") (ab (aa 5) ae))) 17 1 (nmA 17) (aD true) (ai c (fun C=>if C=762 then some 689 else none) ("bv_num":Str) (aa 0) (ab (aa 17) (ab (aa 4) ae))))) (ag (aw (nmA 7) (au .Add (ay c (.type "list") (ab (ay c (.type "range") (ab (au .FloorDiv (aa 5) (ak 2)) (ab (aa 5) ae))) ae)) (ay c (.type "list") (ab (ay c (.type "range") (ab (au .FloorDiv (aa 5) (ak 2)) ae)) ae)))) (ag (bv (aG (aB (ab (aB (ab (al ("bvult":Str)) (ab (al ("bvule":Str)) (ab (ay c (.type "list") (ab (ay c (.type "range") (ab (aa 5) ae)) ae)) ae)))) (ab (aB (ab (al ("bvslt":Str)) (ab (al ("bvsle":Str)) (ab (aa 7) ae)))) ae)))) (bQ 3 (aU (nmA 8) (aU (nmA 9) (aU (nmA 10) bJ)))) (iW c)) (ag (ao (bf true)) ah)))))
noncomputable abbrev nw:Gm:={ sl:=[(("bank":Str),some 0),(("rewriter":Str),some 1),(("a":Str),some 2),(("b":Str),some 3),(("envs":Str),some 4),(("width":Str),some 5),(("half":Str),some 6),(("denied":Str),some 7),(("moved":Str),some 8),(("strict":Str),some 9),(("loose":Str),some 10),(("one":Str),some 11),(("other":Str),some 12),(("back":Str),some 13),(("env":Str),some 14),(("are_one":Str),some 15),(("first":Str),some 16),(("second":Str),some 17),(("signed":Str),some 18),(("plain":Str),some 19),(("_law_ops":Str),none),(("_law_worth":Str),none)],ck:=[("bank":Str),("rewriter":Str),("half":Str),("signed":Str),("plain":Str)] }
noncomputable abbrev vg:Gm:={ sl:=[(("bank":Str),some 0),(("rewriter":Str),some 1),(("t":Str),some 20)],ck:=[("bank":Str),("rewriter":Str)] }
noncomputable abbrev wS:Gm:={ sl:=[(("bank":Str),some 0),(("half":Str),some 6),(("rewriter":Str),some 1),(("t":Str),some 20)],ck:=[("bank":Str),("half":Str),("rewriter":Str)] }
noncomputable abbrev xz:Gm:={ sl:=[(("op":Str),some 20)],ck:=[] }
noncomputable abbrev qi:Gm:={ sl:=[(("bank":Str),some 0),(("plain":Str),some 19),(("signed":Str),some 18),(("env":Str),some 20),(("_law_worth":Str),none)],ck:=[("bank":Str),("plain":Str),("signed":Str)] }
noncomputable def fE(c:Ctx):MS:=(ag (aw (nmA 15) (bl .Eq (ay c (.ref 1101) (ab (aa 0) (ab (aa 2) (ab (aa 14) ae)))) (ay c (.ref 1101) (ab (aa 0) (ab (aa 3) (ab (aa 14) ae)))))) (ag (aQ [16,17] (ab (ay c (.ref 1101) (ab (aa 0) (ab (aa 11) (ab (aa 14) ae)))) (ab (ay c (.ref 1101) (ab (aa 0) (ab (aa 12) (ab (aa 14) ae)))) ae))) (ag (ifM (orM (an .NotEq (aW c "list" "list.count" (flM (ab (aa 16) (ab (aa 17) (ab (aa 15) ae)))) (ab (bf true) ae)) (ak 1)) (orM (an .NotEq (ay c (.ref 1101) (ab (aa 0) (ab (aa 13) (ab (aa 14) ae)))) (aa 16)) (aD false))) (ag (ao (bf false)) ah) ah) ah)))
noncomputable def iM(c:Ctx):MS:=(ag (aQ [11,12] (ab (ai c (fun C=>if C=1080 then some 1005 else none) ("asked_bits":Str) (aa 1) (ab (aa 9) (ab (aa 2) (ab (aa 3) ae)))) (ab (ai c (fun C=>if C=1080 then some 1005 else none) ("asked_bits":Str) (aa 1) (ab (aa 9) (ab (aa 3) (ab (aa 2) ae)))) ae))) (ag (aw (nmA 13) (ai c (fun C=>if C=1080 then some 1005 else none) ("asked_bits":Str) (aa 1) (ab (aa 9) (ab (aq (aa 7) (ak 1)) (ab (aq (aa 7) (ak 0)) ae))))) (ag (ifM (orM (an .NotEq (ai c (fun C=>if C=1080 then some 1005 else none) ("asked_bits":Str) (aa 1) (ab (aa 10) (ab (aa 2) (ab (aa 3) ae)))) (ai c (fun C=>if C=762 then some 460 else none) ("not_of":Str) (aa 0) (ab (aa 12) ae))) (orM (an .NotEq (ai c (fun C=>if C=1080 then some 1005 else none) ("asked_bits":Str) (aa 1) (ab (aa 10) (ab (aa 3) (ab (aa 2) ae)))) (ai c (fun C=>if C=762 then some 460 else none) ("not_of":Str) (aa 0) (ab (aa 11) ae))) (aD false))) (ag (ao (bf false)) ah) ah) (ag (ifM (an .NotEq (aO (aG (au .Add (ay c (.ref 1106) (ab (aa 0) (ab (aa 11) ae))) (ay c (.ref 1106) (ab (aa 0) (ab (aa 12) ae))))) 20 1 (nmA 20) (an .In (aa 20) (aB (ab (al ("bvule":Str)) (ab (al ("bvsle":Str)) ae)))) (aa 20)) (flM ae)) (ag (ao (bf false)) ah) ah) (ag (bv (aG (aa 4)) (nmA 14) (fE c)) ah)))))
noncomputable def pe:List Stmt:=bF 50 none
noncomputable def kZ(c:Ctx):MS:=(ag (aQ [6,7] (ab (ai c (fun C=>if C=762 then some 689 else none) ("bv_num":Str) (aa 0) (ab (au .Pow (ak 2) (au .Sub (aa 5) (ak 1))) (ab (aa 5) ae))) (ab (aO (aG (aB (ab (aa 2) (ab (aa 3) ae)))) 20 1 (nmA 20) (aD true) (ai c (fun C=>if C=1080 then some 784 else none) ("simplify":Str) (aa 1) (ab (ai c (fun C=>if C=762 then some 696 else none) ("bv_one":Str) (aa 0) (ab (al ("bvnot":Str)) (ab (aa 20) ae))) ae))) ae))) (ag (aw (nmA 8) (aO (aG (aB (ab (aa 2) (ab (aa 3) ae)))) 20 1 (nmA 20) (aD true) (ai c (fun C=>if C=1080 then some 784 else none) ("simplify":Str) (aa 1) (ab (ai c (fun C=>if C=762 then some 703 else none) ("bv_two":Str) (aa 0) (ab (al ("bvadd":Str)) (ab (aa 6) (ab (aa 20) ae)))) ae)))) (ag (bv (aG (aB (ab (aB (ab (al ("bvult":Str)) (ab (al ("bvule":Str)) ae))) (ab (aB (ab (al ("bvslt":Str)) (ab (al ("bvsle":Str)) ae))) ae)))) (bQ 2 (aU (nmA 9) (aU (nmA 10) bJ))) (iM c)) (ag (aQ [18,19] (ab (ai c (fun C=>if C=1080 then some 1005 else none) ("asked_bits":Str) (aa 1) (ab (al ("bvslt":Str)) (ab (aa 2) (ab (aa 3) ae)))) (ab (ai c (fun C=>if C=1080 then some 1005 else none) ("asked_bits":Str) (aa 1) (ab (al ("bvult":Str)) (ab (aq (aa 8) (ak 0)) (ab (aq (aa 8) (ak 1)) ae)))) ae))) (ag (ao (bl .Eq (aO (aG (aa 4)) 20 1 (nmA 20) (an .NotEq (ay c (.ref 1101) (ab (aa 0) (ab (aa 18) (ab (aa 20) ae)))) (ay c (.ref 1101) (ab (aa 0) (ab (aa 19) (ab (aa 20) ae))))) (aa 20)) (flM ae))) ah)))))
noncomputable abbrev lg:Gm:={ sl:=[(("script":Str),some 0),(("mug":Str),some 1),(("bank":Str),some 2),(("rewriter":Str),some 3),(("width":Str),some 4),(("x":Str),some 5),(("y":Str),some 6),(("a":Str),some 7),(("b":Str),some 8),(("some":Str),some 9),(("envs":Str),some 10),(("op":Str),some 11),(("TermBank":Str),none),(("BitsRewriter":Str),none),(("_law_sip":Str),none),(("_law_term":Str),none),(("list":Str),none),(("range":Str),none),(("_law_counted_right":Str),none),(("_law_two_right":Str),none)],ck:=[("x":Str),("y":Str),("some":Str)] }
noncomputable abbrev pY:Gm:={ sl:=[(("cell":Str),some 12),(("int":Str),none)],ck:=[] }
noncomputable abbrev tQ:Gm:={ sl:=[(("some":Str),some 9),(("x":Str),some 5),(("y":Str),some 6),(("n":Str),some 12),(("late":Str),some 13)],ck:=[("some":Str),("x":Str),("y":Str)] }
noncomputable def f6(c:Ctx):MS:=(ag (ifM (an .NotEq (ai c (fun C=>if C=1080 then some 1005 else none) ("asked_bits":Str) (aa 3) (ab (aa 11) (ab (aa 7) (ab (aa 7) ae)))) (ai c (fun C=>if C=762 then some 425 else none) ("bool_term":Str) (aa 2) (ab (bl .In (aa 11) (aB (ab (al ("bvule":Str)) (ab (al ("bvsle":Str)) ae)))) ae))) (ag (ao (bf false)) ah) ah) (ag (ifM (aE (an .Eq (ai c (fun C=>if C=762 then some 334 else none) ("op":Str) (aa 2) (ab (aa 7) ae)) (al ("bvnum":Str))) (aE (an .Eq (ai c (fun C=>if C=762 then some 334 else none) ("op":Str) (aa 2) (ab (aa 8) ae)) (al ("bvnum":Str))) (aE (an .NotIn (ai c (fun C=>if C=762 then some 334 else none) ("op":Str) (aa 2) (ab (ai c (fun C=>if C=1080 then some 1005 else none) ("asked_bits":Str) (aa 3) (ab (aa 11) (ab (aa 7) (ab (aa 8) ae)))) ae)) (aB (ab (al ("true":Str)) (ab (al ("false":Str)) ae)))) (aD true)))) (ag (ao (bf false)) ah) ah) ah))
noncomputable def mA:List Stmt:=bF 51 none
noncomputable abbrev sF(c:Ctx):MS:=(ag (ao (bf true)) ah)
noncomputable abbrev uQ(c:Ctx):MS:=(ag (bv (aG (aB (ab (al ("bvult":Str)) (ab (al ("bvule":Str)) (ab (al ("bvslt":Str)) (ab (al ("bvsle":Str)) ae)))))) (nmA 11) (f6 c)) (sF c))
noncomputable abbrev u4(c:Ctx):MS:=(ag (ifM (orM (dg (aH (ay c (.ref 1111) (ab (aa 2) (ab (aa 3) (ab (aa 7) (ab (aa 5) (ab (aa 4) ae)))))))) (orM (dg (aH (ay c (.ref 1116) (ab (aa 2) (ab (aa 3) (ab (aa 7) (ab (aa 8) (ab (aa 10) (ab (aa 4) ae))))))))) (aD false))) (ag (ao (bf false)) ah) ah) (uQ c))
noncomputable abbrev tR(c:Ctx):MS:=(ag (aw (nmA 10) (ew (aG (aa 9)) 12 2 1000 (nmA 12) (aD true) (genB (aG (aa 9)) (nmA 13) (aD true) (bO false (bH (aa 5) (aa 12) (bH (aa 6) (aa 13) b9)))))) (u4 c))
noncomputable abbrev gE(c:Ctx):MS:=(ag (aw (nmA 9) (ay c (.type "list") (ab (ay c (.type "range") (ab (ak 0) (ab (au .Pow (ak 2) (aa 4)) (ab (au .Add (ak 1) (au .Mult (au .FloorDiv (aa 4) (ak 3)) (ak 2))) ae)))) ae))) (tR c))
noncomputable abbrev vL(c:Ctx):MS:=(ag (aw (nmA 8) (ay c (.ref 1096) (ab (aa 1) (ab (aa 2) (ab (aa 3) (ab (aq (aB (ab (aa 5) (ab (aa 6) ae))) (ay c (.ref 1089) (ab (aa 1) (ab (ak 2) ae)))) (ab (aa 4) ae))))))) (gE c))
noncomputable abbrev ic(c:Ctx):MS:=(ag (aw (nmA 7) (ay c (.ref 1096) (ab (aa 1) (ab (aa 2) (ab (aa 3) (ab (aa 5) (ab (aa 4) ae))))))) (vL c))
noncomputable abbrev gx(c:Ctx):MS:=(ag (aQ [5,6] (ab (ai c (fun C=>if C=762 then some 299 else none) ("fresh_const":Str) (aa 2) (ab (al ("x":Str)) (ab (ai c (fun C=>if C=762 then some 668 else none) ("bv_sort":Str) (aa 2) (ab (aa 4) ae)) ae))) (ab (ai c (fun C=>if C=762 then some 299 else none) ("fresh_const":Str) (aa 2) (ab (al ("y":Str)) (ab (ai c (fun C=>if C=762 then some 668 else none) ("bv_sort":Str) (aa 2) (ab (aa 4) ae)) ae))) ae))) (ic c))
noncomputable abbrev xh(c:Ctx):MS:=(ag (aQ [3,4] (ab (ay c (.ref 1080) (ab (aa 2) ae)) (ab (au .Add (ak 1) (ay c (.ref 1089) (ab (aa 1) (ab (ak 3) ae)))) ae))) (gx c))
noncomputable def nN(c:Ctx):MS:=(ag (aQ [1,2] (ab (tlM (ab (aO (aG (eK (aa 0) fk (ptM (ak 30)))) 12 1 (nmA 12) (aD true) (au .Mod (ay c (.type "int") (ab (aa 12) ae)) (ak 1000003))) (ab (ak 0) ae))) (ab (ay c (.ref 762) ae) ae))) (xh c))
noncomputable def tab:Tab where
 gv:=[(("BOOL":Str),(.int 0)),(("WIDEST":Str),(.int 4096)),(("BV_SAME":Str),.tup (gv_BV_SAME.map V.str)),(("BV_ASK":Str),.tup (gv_BV_ASK.map V.str)),(("MIXING":Str),.tup (gv_MIXING.map V.str)),(("DEEPEST":Str),(.int 50))]
 fn:=[(("mask_of":Str),(.ref 142)),(("shifted_value":Str),(.ref 177)),(("divided_value":Str),(.ref 163)),(("rest_value":Str),(.ref 170)),(("signed_of":Str),(.ref 149)),(("one_value":Str),(.ref 156)),(("two_value":Str),(.ref 184)),(("power_of":Str),(.ref 226)),(("ask_value":Str),(.ref 191)),(("concat_value":Str),(.ref 205)),(("extract_value":Str),(.ref 198)),(("sign_extended":Str),(.ref 212)),(("_law_sip":Str),(.ref 1089)),(("_law_worth":Str),(.ref 1101)),(("_law_ops":Str),(.ref 1106)),(("TermBank":Str),(.ref 762)),(("BitsRewriter":Str),(.ref 1080)),(("_law_term":Str),(.ref 1096)),(("_law_counted_right":Str),(.ref 1111)),(("_law_two_right":Str),(.ref 1116))]++[(("len":Str),.builtin "len"),(("tuple":Str),.type "tuple"),(("min":Str),.builtin "min"),(("max":Str),.builtin "max"),(("range":Str),.type "range"),(("list":Str),.type "list"),(("int":Str),.type "int")]
 at_:=[(("numbers":Str),762),(("term_ops":Str),762),(("term_args":Str),762),(("term_sorts":Str),762),(("term_datas":Str),762),(("fun_names":Str),762),(("fun_args":Str),762),(("fun_results":Str),762),(("sort_widths":Str),762),(("true_number":Str),762),(("false_number":Str),762),(("bv_numbers":Str),762),(("sort_names":Str),762),(("bank":Str),1080),(("known":Str),1080),(("no":Str),1080)]
 st:=[(("sort_names":Str),762),(("sort_widths":Str),762),(("fun_names":Str),762),(("fun_args":Str),762),(("fun_results":Str),762),(("fresh_count":Str),762),(("term_ops":Str),762),(("term_args":Str),762),(("term_sorts":Str),762),(("term_datas":Str),762),(("numbers":Str),762),(("true_number":Str),762),(("false_number":Str),762),(("bv_numbers":Str),762),(("bank":Str),1080),(("yes":Str),1080),(("no":Str),1080),(("known":Str),1080)]
 me:=[(("make":Str),762,376),(("declare_fun":Str),762,285),(("parts_of_all":Str),762,439),(("want":Str),762,397),(("eq":Str),762,502),(("not_of":Str),762,460),(("times":Str),762,598),(("folded":Str),762,530),(("width":Str),762,362),(("bv_sort":Str),762,668),(("want_bits":Str),762,682),(("true_term":Str),762,411),(("false_term":Str),762,418),(("parts":Str),762,432),(("args":Str),762,341),(("made":Str),1080,904),(("op":Str),762,334),(("joined":Str),1080,810),(("negated":Str),1080,817),(("parity":Str),1080,824),(("equal":Str),1080,853),(("apart":Str),1080,881),(("chosen":Str),1080,845),(("with_args":Str),762,640),(("one_bits":Str),1080,949),(("two_bits":Str),1080,956),(("asked_bits":Str),1080,1005),(("put_together":Str),1080,1012),(("data":Str),762,355),(("cut_out":Str),1080,1019),(("wider":Str),1080,1040),(("wider_signed":Str),1080,1047),(("bit_of":Str),1080,1070),(("is_bits":Str),1080,928),(("bv_num":Str),762,689),(("number":Str),1080,942),(("bv_one":Str),762,696),(("mixed_bits":Str),1080,963),(("less_bits":Str),1080,984),(("shifted_bits":Str),1080,991),(("divided_bits":Str),1080,998),(("mixed_number":Str),1080,977),(("is_turned":Str),1080,970),(("bv_two":Str),762,703),(("bool_term":Str),762,425),(("value_or":Str),1080,935),(("equal_bits":Str),1080,1055),(("concat":Str),762,710),(("cut_within":Str),1080,1026),(("cut_here":Str),1080,1033),(("extract":Str),762,717),(("equal_number":Str),1080,1063),(("equal_chosen":Str),1080,869),(("simplify":Str),1080,784),(("fresh_const":Str),762,299)]
 bm:=[(("get":Str),"dict","dict.get"),(("append":Str),"list","list.append"),(("pop":Str),"list","list.pop"),(("index":Str),"list","list.index"),(("count":Str),"list","list.count")]
 tr:=[⟨112,26,112,49⟩,⟨113,27,113,36⟩,⟨114,25,114,27⟩,⟨115,24,115,26⟩,⟨116,27,116,29⟩,⟨118,24,118,28⟩,⟨119,25,119,29⟩,⟨120,26,120,32⟩,⟨121,26,121,29⟩,⟨222,23,222,25⟩,⟨224,20,224,35⟩,⟨982,17,982,67⟩]
 nd:=[⟨959,50,959,56⟩,⟨960,64,960,70⟩,⟨988,12,988,27⟩]
 cp:=[(⟨466,29,466,78⟩,uj,5,1),(⟨927,28,927,82⟩,ry,6,1),(⟨949,11,949,52⟩,vO,2,1),(⟨952,14,952,58⟩,xm,17,1),(⟨955,17,955,79⟩,sY,17,1),(⟨956,16,956,78⟩,qB,17,1),(⟨957,15,957,76⟩,qF,17,1),(⟨960,24,960,72⟩,ui,18,1),(⟨960,19,960,108⟩,xt,17,1),(⟨965,58,965,118⟩,vg,20,1),(⟨966,12,966,78⟩,wS,20,1),(⟨972,11,972,97⟩,xz,20,1),(⟨980,11,980,97⟩,qi,20,1),(⟨982,18,982,63⟩,pY,12,1),(⟨988,11,988,59⟩,tQ,12,2)]
end
section
variable{w:World}{h0:Heap}{mg mb:Str→Option Value}(ok:(cx w h0 mg mb).Ok)
include ok
theorem tk:tab.Ok (cx w h0 mg mb) where
 gv:=bS ⟨_,tK,ik⟩ <| bS ⟨_,vI,ik⟩ <| bS ⟨_,xj,ig ok xJ rfl⟩ <| bS ⟨_,uA,ig ok rG rfl⟩ <| bS ⟨_,yY,ig ok yh rfl⟩ <| bS ⟨_,xH,ik⟩ <| m3
 fn:=uP ok (by kernel_rfl) (by kernel_rfl) (by kernel_rfl) (by kernel_rfl)
 at_:=eh (P:=fun x C=>attrOk (KF w.params) C x) (by kernel_rfl)
 st:=eh (P:=fun x C=>setOk (KF w.params) C x) (by kernel_rfl)
 me:=eh (P:=fun x (p:Nat×Addr)=>methOk (KF w.params) p.1 x p.2) (by kernel_rfl)
 bm:=bS ⟨uu,F.slot_dict_get,rm⟩ <| bS ⟨eQ,F.slot_list_append,wf⟩ <| bS ⟨eQ,F.slot_list_pop,uU⟩ <| bS ⟨eQ,F.slot_list_index,ub⟩ <| bS ⟨eQ,F.slot_list_count,tH⟩ <| m3
theorem xV:SimB (cx w h0 mg mb) jn 0 md (oY (cx w h0 mg mb)):=SimB.of ok (tk ok) (by kernel_rfl)
theorem yt:FnAt (cx w h0 mg mb) 142 (fdAt (KF w.params) 142) md ["width"] jn :=
 FnAt.of1 ok (by kernel_rfl)
theorem rJ:SimB (cx w h0 mg mb) oF 0 kb (jf (cx w h0 mg mb)):=SimB.of ok (tk ok) (by kernel_rfl)
theorem wM:FnAt (cx w h0 mg mb) 149 (fdAt (KF w.params) 149) kb ["x","width"] oF :=
 FnAt.of1 ok (by kernel_rfl)
theorem um:SimB (cx w h0 mg mb) kQ 0 oS (o7 (cx w h0 mg mb)):=SimB.of ok (tk ok) (by kernel_rfl)
theorem wm:FnAt (cx w h0 mg mb) 156 (fdAt (KF w.params) 156) oS ["op","x","width"] kQ :=
 FnAt.of1 ok (by kernel_rfl)
theorem rM:SimB (cx w h0 mg mb) nv 0 pL (n5 (cx w h0 mg mb)):=SimB.of ok (tk ok) (by kernel_rfl)
theorem rg:FnAt (cx w h0 mg mb) 184 (fdAt (KF w.params) 184) pL ["op","x","y","width"] nv :=
 FnAt.of1 ok (by kernel_rfl)
theorem q9:SimB (cx w h0 mg mb) jS 0 ph (o9 (cx w h0 mg mb)):=SimB.of ok (tk ok) (by kernel_rfl)
theorem pT:FnAt (cx w h0 mg mb) 191 (fdAt (KF w.params) 191) ph ["op","x","y","width"] jS :=
 FnAt.of1 ok (by kernel_rfl)
theorem rl:SimB (cx w h0 mg mb) pz 0 mY (l8 (cx w h0 mg mb)):=SimB.of ok (tk ok) (by kernel_rfl)
theorem vZ:FnAt (cx w h0 mg mb) 376 (fdAt (KF w.params) 376) mY ["self","op","args","sort","data"] pz :=
 FnAt.of1 ok (by kernel_rfl)
theorem sD:SimB (cx w h0 mg mb) pF 0 kh (pn (cx w h0 mg mb)):=SimB.of ok (tk ok) (by kernel_rfl)
theorem xw:FnAt (cx w h0 mg mb) 243 (fdAt (KF w.params) 243) kh ["self"] pF :=
 FnAt.of1 ok (by kernel_rfl)
theorem vj:SuperAt (cx w h0 mg mb) 661 649 ("self":Str) 762 :=
 SuperAt.of (by kernel_rfl) (by kernel_rfl) (ok.bi (by decide +kernel) (by decide +kernel)) (by kernel_rfl)
theorem xg:SimBAt (cx w h0 mg mb) ny gK gK (k8 (cx w h0 mg mb)):=rL (lN ok (vj ok) rfl (by decide +kernel) (by decide +kernel) (iS xM) (SimEs.of ok (tk ok) (by kernel_rfl)) (by decide +kernel) (by decide +kernel) (fun _=>rfl) (fun _=>rfl)) (SimB.of ok (tk ok) (by kernel_rfl)) (fun _=>rfl)
theorem tq:FnAtD (cx w h0 mg mb) 661 (fdAt (KF w.params) 661) gK ["self"] [] (some 649) ny :=
 FnAtD.of0 ok (by kernel_rfl) (by kernel_rfl) (by kernel_rfl) (by kernel_rfl) (by kernel_rfl) (by kernel_rfl) rfl (by kernel_rfl)
theorem vz:SimB (cx w h0 mg mb) mQ 0 pM (kc (cx w h0 mg mb)):=SimB.of ok (tk ok) (by kernel_rfl)
theorem vw:FnAt (cx w h0 mg mb) 285 (fdAt (KF w.params) 285) pM ["self","name","arg_sorts","result"] mQ :=
 FnAt.of1 ok (by kernel_rfl)
theorem r0:SimB (cx w h0 mg mb) kX 0 oM (jV (cx w h0 mg mb)):=SimB.of ok (tk ok) (by kernel_rfl)
theorem tj:FnAt (cx w h0 mg mb) 299 (fdAt (KF w.params) 299) oM ["self","name","s"] kX :=
 FnAt.of1 ok (by kernel_rfl)
theorem sd:SimB (cx w h0 mg mb) mn 0 jH (oH (cx w h0 mg mb)):=SimB.of ok (tk ok) (by kernel_rfl)
theorem tF:FnAt (cx w h0 mg mb) 334 (fdAt (KF w.params) 334) jH ["self","t"] mn :=
 FnAt.of1 ok (by kernel_rfl)
theorem uG:SimB (cx w h0 mg mb) pc 0 lC (lz (cx w h0 mg mb)):=SimB.of ok (tk ok) (by kernel_rfl)
theorem vx:FnAt (cx w h0 mg mb) 341 (fdAt (KF w.params) 341) lC ["self","t"] pc :=
 FnAt.of1 ok (by kernel_rfl)
theorem xu:SimB (cx w h0 mg mb) pf 0 nX (nD (cx w h0 mg mb)):=SimB.of ok (tk ok) (by kernel_rfl)
theorem tB:FnAt (cx w h0 mg mb) 355 (fdAt (KF w.params) 355) nX ["self","t"] pf :=
 FnAt.of1 ok (by kernel_rfl)
theorem rE:SimB (cx w h0 mg mb) ko 0 pi (kC (cx w h0 mg mb)):=SimB.of ok (tk ok) (by kernel_rfl)
theorem tL:FnAt (cx w h0 mg mb) 362 (fdAt (KF w.params) 362) pi ["self","t"] ko :=
 FnAt.of1 ok (by kernel_rfl)
theorem qk:SimB (cx w h0 mg mb) kR 0 o8 (ld (cx w h0 mg mb)):=SimB.of ok (tk ok) (by kernel_rfl)
theorem rV:FnAt (cx w h0 mg mb) 397 (fdAt (KF w.params) 397) o8 ["self","t","s","where"] kR :=
 FnAt.of1 ok (by kernel_rfl)
theorem xI:SimB (cx w h0 mg mb) om 0 oy (nZ (cx w h0 mg mb)):=SimB.of ok (tk ok) (by kernel_rfl)
theorem wz:FnAt (cx w h0 mg mb) 411 (fdAt (KF w.params) 411) oy ["self"] om :=
 FnAt.of1 ok (by kernel_rfl)
theorem wy:SimB (cx w h0 mg mb) j8 0 m6 (nP (cx w h0 mg mb)):=SimB.of ok (tk ok) (by kernel_rfl)
theorem qJ:FnAt (cx w h0 mg mb) 418 (fdAt (KF w.params) 418) m6 ["self"] j8 :=
 FnAt.of1 ok (by kernel_rfl)
theorem sT:SimB (cx w h0 mg mb) nL 0 mj (l5 (cx w h0 mg mb)):=SimB.of ok (tk ok) (by kernel_rfl)
theorem rR:FnAt (cx w h0 mg mb) 425 (fdAt (KF w.params) 425) mj ["self","holds"] nL :=
 FnAt.of1 ok (by kernel_rfl)
theorem sV:SimB (cx w h0 mg mb) oR 0 nA (o5 (cx w h0 mg mb)):=SimB.of ok (tk ok) (by kernel_rfl)
theorem pS:FnAt (cx w h0 mg mb) 432 (fdAt (KF w.params) 432) nA ["self","t"] oR :=
 FnAt.of1 ok (by kernel_rfl)
theorem y4:SimB (cx w h0 mg mb) m0 0 kP (pD (cx w h0 mg mb)):=SimB.of ok (tk ok) (by kernel_rfl)
theorem xx:FnAt (cx w h0 mg mb) 439 (fdAt (KF w.params) 439) kP ["self","some"] m0 :=
 FnAt.of1 ok (by kernel_rfl)
theorem qw:SimB (cx w h0 mg mb) j4 0 nC (nW (cx w h0 mg mb)):=SimB.of ok (tk ok) (by kernel_rfl)
theorem ul:FnAt (cx w h0 mg mb) 502 (fdAt (KF w.params) 502) nC ["self","a","b"] j4 :=
 FnAt.of1 ok (by kernel_rfl)
theorem uq:SimB (cx w h0 mg mb) iX 0 nJ (ni (cx w h0 mg mb)):=SimB.of ok (tk ok) (by kernel_rfl)
theorem vK:FnAt (cx w h0 mg mb) 460 (fdAt (KF w.params) 460) nJ ["self","t"] iX :=
 FnAt.of1 ok (by kernel_rfl)
theorem uH:SimB (cx w h0 mg mb) lR 0 jo (l9 (cx w h0 mg mb)):=SimB.of ok (tk ok) (by kernel_rfl)
theorem uK:FnAt (cx w h0 mg mb) 530 (fdAt (KF w.params) 530) jo ["self","t","args"] lR :=
 FnAt.of1 ok (by kernel_rfl)
theorem uS:SimB (cx w h0 mg mb) oC 0 jC (oT (cx w h0 mg mb)):=SimB.of ok (tk ok) (by kernel_rfl)
theorem rt:FnAt (cx w h0 mg mb) 640 (fdAt (KF w.params) 640) jC ["self","t","args"] oC :=
 FnAt.of1 ok (by kernel_rfl)
theorem nB:SimB (cx w h0 mg mb) mW 0 jJ (gZ (cx w h0 mg mb)):=SimB.of ok (tk ok) (by kernel_rfl)
theorem nS:FnAt (cx w h0 mg mb) 668 (fdAt (KF w.params) 668) jJ ["self","width"] mW :=
 FnAt.of1 ok (by kernel_rfl)
theorem pW:SimB (cx w h0 mg mb) lQ 0 nG (ol (cx w h0 mg mb)):=SimB.of ok (tk ok) (by kernel_rfl)
theorem xG:FnAt (cx w h0 mg mb) 682 (fdAt (KF w.params) 682) nG ["self","t","where"] lQ :=
 FnAt.of1 ok (by kernel_rfl)
theorem j6:SimB (cx w h0 mg mb) oV 0 kW (gR (cx w h0 mg mb)):=SimB.of ok (tk ok) (by kernel_rfl)
theorem l0:FnAt (cx w h0 mg mb) 689 (fdAt (KF w.params) 689) kW ["self","value","width"] oV :=
 FnAt.of1 ok (by kernel_rfl)
theorem qI:SimB (cx w h0 mg mb) l7 0 m9 (n0 (cx w h0 mg mb)):=SimB.of ok (tk ok) (by kernel_rfl)
theorem ru:FnAt (cx w h0 mg mb) 696 (fdAt (KF w.params) 696) m9 ["self","op","t"] l7 :=
 FnAt.of1 ok (by kernel_rfl)
theorem oK:SimB (cx w h0 mg mb) mC 0 ox (iD (cx w h0 mg mb)):=SimB.of ok (tk ok) (by kernel_rfl)
theorem lK:FnAt (cx w h0 mg mb) 703 (fdAt (KF w.params) 703) ox ["self","op","a","b"] mC :=
 FnAt.of1 ok (by kernel_rfl)
theorem mX:SimB (cx w h0 mg mb) lF 0 lB (iR (cx w h0 mg mb)):=SimB.of ok (tk ok) (by kernel_rfl)
theorem nj:FnAt (cx w h0 mg mb) 710 (fdAt (KF w.params) 710) lB ["self","a","b"] lF :=
 FnAt.of1 ok (by kernel_rfl)
theorem vV:SimB (cx w h0 mg mb) kt 0 oX (nc (cx w h0 mg mb)):=SimB.of ok (tk ok) (by kernel_rfl)
theorem xO:FnAt (cx w h0 mg mb) 717 (fdAt (KF w.params) 717) oX ["self","high","low","t"] kt :=
 FnAt.of1 ok (by kernel_rfl)
theorem xD:SimB (cx w h0 mg mb) pd 0 j5 (jv (cx w h0 mg mb)):=SimB.of ok (tk ok) (by kernel_rfl)
theorem uV:FnAt (cx w h0 mg mb) 779 (fdAt (KF w.params) 779) j5 ["self","bank"] pd :=
 FnAt.of1 ok (by kernel_rfl)
theorem wo:SimB (cx w h0 mg mb) mO 0 mB (jp (cx w h0 mg mb)):=SimB.of ok (tk ok) (by kernel_rfl)
theorem sU:FnAt (cx w h0 mg mb) 784 (fdAt (KF w.params) 784) mB ["self","t"] mO :=
 FnAt.of1 ok (by kernel_rfl)
theorem vX:SimB (cx w h0 mg mb) lr 0 oe (jg (cx w h0 mg mb)):=SimB.of ok (tk ok) (by kernel_rfl)
theorem vm:FnAt (cx w h0 mg mb) 791 (fdAt (KF w.params) 791) oe ["self","t","args"] lr :=
 FnAt.of1 ok (by kernel_rfl)
theorem vG:SimB (cx w h0 mg mb) jG 0 mc (my (cx w h0 mg mb)):=SimB.of ok (tk ok) (by kernel_rfl)
theorem xl:FnAt (cx w h0 mg mb) 817 (fdAt (KF w.params) 817) mc ["self","t"] jG :=
 FnAt.of1 ok (by kernel_rfl)
theorem rf:SuperAt (cx w h0 mg mb) 904 892 ("self":Str) 1080 :=
 SuperAt.of (by kernel_rfl) (by kernel_rfl) (ok.bi (by decide +kernel) (by decide +kernel)) (by kernel_rfl)
theorem dU:SimBAt (cx w h0 mg mb) kO gG gG (di (cx w h0 mg mb)):=ca (SimS.of ok (tk ok) (by kernel_rfl)) (ca (SimS.of ok (tk ok) (by kernel_rfl)) (ca (SimS.of ok (tk ok) (by kernel_rfl)) (ca (SimS.of ok (tk ok) (by kernel_rfl)) (ca (SimS.of ok (tk ok) (by kernel_rfl)) (ca (SimS.of ok (tk ok) (by kernel_rfl)) (ca (SimS.of ok (tk ok) (by kernel_rfl)) (ca (SimS.of ok (tk ok) (by kernel_rfl)) (ca (SimS.of ok (tk ok) (by kernel_rfl)) (sj (lN ok (rf ok) rfl (by decide +kernel) (by decide +kernel) (iS x7) (SimEs.of ok (tk ok) (by kernel_rfl)) (by decide +kernel) (by decide +kernel) (fun _=>rfl) (fun _=>rfl)))))))))))
theorem dT:FnAtD (cx w h0 mg mb) 904 (fdAt (KF w.params) 904) gG ["self","t","args"] [] (some 892) kO :=
 FnAtD.of0 ok (by kernel_rfl) (by kernel_rfl) (by kernel_rfl) (by kernel_rfl) (by kernel_rfl) (by kernel_rfl) rfl (by kernel_rfl)
theorem uk:SimB (cx w h0 mg mb) lx 0 oJ (mz (cx w h0 mg mb)):=SimB.of ok (tk ok) (by kernel_rfl)
theorem wv:FnAt (cx w h0 mg mb) 928 (fdAt (KF w.params) 928) oJ ["self","t"] lx :=
 FnAt.of1 ok (by kernel_rfl)
theorem wP:SimB (cx w h0 mg mb) po 0 jT (jK (cx w h0 mg mb)):=SimB.of ok (tk ok) (by kernel_rfl)
theorem qD:FnAt (cx w h0 mg mb) 935 (fdAt (KF w.params) 935) jT ["self","t","other"] po :=
 FnAt.of1 ok (by kernel_rfl)
theorem wE:SimB (cx w h0 mg mb) lc 0 mS (iY (cx w h0 mg mb)):=SimB.of ok (tk ok) (by kernel_rfl)
theorem yJ:FnAt (cx w h0 mg mb) 942 (fdAt (KF w.params) 942) mS ["self","value","like"] lc :=
 FnAt.of1 ok (by kernel_rfl)
theorem qx:SimB (cx w h0 mg mb) mG 0 lL (pt (cx w h0 mg mb)):=SimB.of ok (tk ok) (by kernel_rfl)
theorem tc:FnAt (cx w h0 mg mb) 949 (fdAt (KF w.params) 949) lL ["self","op","a"] mG :=
 FnAt.of1 ok (by kernel_rfl)
theorem w6:SimB (cx w h0 mg mb) lY 0 pq (nz (cx w h0 mg mb)):=SimB.of ok (tk ok) (by kernel_rfl)
theorem wI:FnAt (cx w h0 mg mb) 956 (fdAt (KF w.params) 956) pq ["self","op","a","b"] lY :=
 FnAt.of1 ok (by kernel_rfl)
theorem xC:SimB (cx w h0 mg mb) j7 0 jD (mH (cx w h0 mg mb)):=SimB.of ok (tk ok) (by kernel_rfl)
theorem uc:FnAt (cx w h0 mg mb) 963 (fdAt (KF w.params) 963) jD ["self","op","a","b"] j7 :=
 FnAt.of1 ok (by kernel_rfl)
theorem yF:SimB (cx w h0 mg mb) jm 0 mZ (kd (cx w h0 mg mb)):=SimB.of ok (tk ok) (by kernel_rfl)
theorem qr:FnAt (cx w h0 mg mb) 977 (fdAt (KF w.params) 977) mZ ["self","op","value","b"] jm :=
 FnAt.of1 ok (by kernel_rfl)
theorem pp:SimB (cx w h0 mg mb) jj 0 oh (gF (cx w h0 mg mb)):=SimB.of ok (tk ok) (by kernel_rfl)
theorem nQ:FnAt (cx w h0 mg mb) 1005 (fdAt (KF w.params) 1005) oh ["self","op","a","b"] jj :=
 FnAt.of1 ok (by kernel_rfl)
theorem vk:SimB (cx w h0 mg mb) pN 0 lk (j3 (cx w h0 mg mb)):=SimB.of ok (tk ok) (by kernel_rfl)
theorem rB:FnAt (cx w h0 mg mb) 1012 (fdAt (KF w.params) 1012) lk ["self","a","b"] pN :=
 FnAt.of1 ok (by kernel_rfl)
theorem yk:SimB (cx w h0 mg mb) kG 0 lA (lm (cx w h0 mg mb)):=SimB.of ok (tk ok) (by kernel_rfl)
theorem y8:FnAt (cx w h0 mg mb) 1019 (fdAt (KF w.params) 1019) lA ["self","high","low","a"] kG :=
 FnAt.of1 ok (by kernel_rfl)
theorem lM:SimB (cx w h0 mg mb) km 0 nr (il (cx w h0 mg mb)):=SimB.of ok (tk ok) (by kernel_rfl)
theorem mL:FnAt (cx w h0 mg mb) 1026 (fdAt (KF w.params) 1026) nr ["self","high","low","a"] km :=
 FnAt.of1 ok (by kernel_rfl)
theorem qs:SimB (cx w h0 mg mb) pC 0 jw (og (cx w h0 mg mb)):=SimB.of ok (tk ok) (by kernel_rfl)
theorem wu:FnAt (cx w h0 mg mb) 1033 (fdAt (KF w.params) 1033) jw ["self","high","low","a"] pC :=
 FnAt.of1 ok (by kernel_rfl)
theorem qq:SimB (cx w h0 mg mb) kf 0 kz (ng (cx w h0 mg mb)):=SimB.of ok (tk ok) (by kernel_rfl)
theorem ug:FnAtD (cx w h0 mg mb) 1055 (fdAt (KF w.params) 1055) kz ["self","a","b","deep"] [.int 0] none kf :=
 FnAtD.of1 0 1615 (T:=1048) (o:=Head.tp [(.int 0 1615)]) ok (by kernel_rfl) (by kernel_rfl) (by kernel_rfl) rfl (by kernel_rfl) (by kernel_rfl) (by kernel_rfl) (by kernel_rfl)
theorem oW:SimB (cx w h0 mg mb) mN 0 jA (im (cx w h0 mg mb)):=SimB.of ok (tk ok) (by kernel_rfl)
theorem lE:FnAtD (cx w h0 mg mb) 1063 (fdAt (KF w.params) 1063) jA ["self","value","b","deep"] [] none mN :=
 FnAtD.of2 (T:=1056) (o:=Head.tp [(.int 0 1626)]) ok (by kernel_rfl) (by kernel_rfl) (by kernel_rfl) rfl (by kernel_rfl) (by kernel_rfl) (by kernel_rfl) (by kernel_rfl)
theorem yL:SimB (cx w h0 mg mb) jI 0 nO (kH (cx w h0 mg mb)):=SimB.of ok (tk ok) (by kernel_rfl)
theorem yN:FnAt (cx w h0 mg mb) 1089 (fdAt (KF w.params) 1089) nO ["mug","many"] jI :=
 FnAt.of1 ok (by kernel_rfl)
theorem yU:SimB (cx w h0 mg mb) kj 0 jr (mP (cx w h0 mg mb)):=SimB.of ok (tk ok) (by kernel_rfl)
theorem tI:FnAt (cx w h0 mg mb) 1096 (fdAt (KF w.params) 1096) jr ["mug","bank","rewriter","x","width"] kj :=
 FnAt.of1 ok (by kernel_rfl)
theorem cM:SimB (cx w h0 mg mb) mF 0 lS (bM (cx w h0 mg mb)):=SimB.of ok (tk ok) (by kernel_rfl)
theorem cr:FnAt (cx w h0 mg mb) 1101 (fdAt (KF w.params) 1101) lS ["bank","t","env"] mF :=
 FnAt.of1 ok (by kernel_rfl)
theorem wA:SimB (cx w h0 mg mb) nl 0 oq (mq (cx w h0 mg mb)):=SimB.of ok (tk ok) (by kernel_rfl)
theorem wF:FnAt (cx w h0 mg mb) 1106 (fdAt (KF w.params) 1106) oq ["bank","t"] nl :=
 FnAt.of1 ok (by kernel_rfl)
theorem tN:SimB (cx w h0 mg mb) lX 0 iZ (jz (cx w h0 mg mb)):=SimB.of ok (tk ok) (by kernel_rfl)
theorem v3:FnAt (cx w h0 mg mb) 1111 (fdAt (KF w.params) 1111) iZ ["bank","rewriter","a","x","width"] lX :=
 FnAt.of1 ok (by kernel_rfl)
theorem u6:SimB (cx w h0 mg mb) nw 0 pe (kZ (cx w h0 mg mb)):=SimB.of ok (tk ok) (by kernel_rfl)
theorem rS:FnAt (cx w h0 mg mb) 1116 (fdAt (KF w.params) 1116) pe ["bank","rewriter","a","b","envs","width"] nw :=
 FnAt.of1 ok (by kernel_rfl)
theorem xq:SimB (cx w h0 mg mb) lg 0 mA (nN (cx w h0 mg mb)):=SimB.of ok (tk ok) (by kernel_rfl)
theorem vA:FnAt (cx w h0 mg mb) 1121 (fdAt (KF w.params) 1121) mA ["script"] lg :=
 FnAt.of1 ok (by kernel_rfl)
end
end
local macro_rules | `(tactic| tm_at "r") => `(tactic| with_unfolding_all exact rfl)
local macro_rules | `(tactic| tm_at "k") => `(tactic| with_reducible first | assumption | exact sN (by tm_at "r") | exact si (by tm_at "r") | exact gN ‹_› (by tm_at "r") | exact rH ‹_› (by tm_at "r") | exact uN ‹_› (by tm_at "r") | exact nV ‹_› (by tm_at "r") | exact wp ‹_› (by tm_at "r") | exact rC ‹_› (by tm_at "r") | exact rX ‹_› (by tm_at "r") | exact y2 ‹_› (by tm_at "r") | exact uy ‹_› (by tm_at "r") | exact Int.natCast_nonneg _ | exact xd ‹_› | exact sX ‹_› | exact xP ‹_› (gN ‹_› (by tm_at "r")) | exact jc ‹_› | exact wX ‹_› (by tm_at "r") | ((first | refine uo ‹_› (by tm_at "r") ?_ | refine xZ ‹_› (by tm_at "r") ?_ | refine y9 (by tm_at "r") ?_); tm_at "k"))
local macro_rules | `(tactic| tm_at "l") => `(tactic| first | tm_at "k" | lia)
section
inductive D where
 | i (n:Int)
 | p (a b:Int)
 deriving DecidableEq
noncomputable def D.v:D→V
 | .i n=>.int n
 | .p a b=>.tup [.int a,.int b]
structure T where
 op:Str
 args:List Int
 sort:Int
 data:D
 deriving DecidableEq
noncomputable def T.key(t:T):V:=.tup [.str t.op,.tup (t.args.map V.int),.int t.sort,t.data.v]
noncomputable def nums(ts:List T):List (V×V):=ts.zipIdx.map fun p=>(p.1.key,V.int (p.2+1))
set_option genInjectivity false in
structure Bk where
 names:List V
 ws:List Nat
 fnames:List V
 fargs:List V
 fres:List V
 ts:List T
noncomputable def baseNs(more:List (Str×V)):List (Str×V):=("sort_names",.ref 2)::("sort_widths",.ref 3)::("fun_names",.ref 4)::("fun_args",.ref 5)::("fun_results",.ref 6)::("fresh_count",.int 0)::("term_ops",.ref 7)::("term_args",.ref 8)::("term_sorts",.ref 9)::("term_datas",.ref 10)::("numbers",.ref 11)::more
noncomputable def σR(top:AObj)(more:List (Str×V))(n wd fn fa fr ops args sorts datas:List V)(nu:List (V×V))(rest:St):St :=
 some top::some (.ns (baseNs more))::some (.list n)::some (.list wd)::some (.list fn)::some (.list fa)::some (.list fr)::some (.list ops)::some (.list args)::some (.list sorts)::some (.list datas)::some (.dict nu)::rest
noncomputable def tops(ts:List T):List V:=.str ""::ts.map fun t=>V.str t.op
noncomputable def targs(ts:List T):List V:=.tup []::ts.map fun t=>V.tup (t.args.map V.int)
noncomputable def tsorts(ts:List T):List V:=.int 0::ts.map fun t=>V.int t.sort
noncomputable def tdatas(ts:List T):List V:=.int 0::ts.map fun t=>t.data.v
noncomputable def σB(top:AObj)(b:Bk)(more:List (Str×V))(rest:St):St :=
 σR top more b.names (b.ws.map fun (w:Nat)=>V.int w) b.fnames b.fargs b.fres (tops b.ts) (targs b.ts) (tsorts b.ts) (tdatas b.ts) (nums b.ts) rest
section
variable{top:AObj}{more:List (Str×V)}{n wd fn fa fr ops args sorts datas x:List V}{nu y:List (V×V)}{rest:St}
end
noncomputable abbrev M3:List (Str×V):=[("true_number",.int 1),("false_number",.int 2),("bv_numbers",.ref 12)]
noncomputable def RN:List (Str×V):=[("bank",.inst 762 1),("yes",.int 1),("no",.int 2),("known",.ref 14)]
inductive Lk:List (Str×V)→Str→V→Prop
 | sort_names {m:List (Str×V)}:Lk (baseNs m) "sort_names" (.ref 2)
 | sort_widths {m:List (Str×V)}:Lk (baseNs m) "sort_widths" (.ref 3)
 | fun_names {m:List (Str×V)}:Lk (baseNs m) "fun_names" (.ref 4)
 | fun_args {m:List (Str×V)}:Lk (baseNs m) "fun_args" (.ref 5)
 | fun_results {m:List (Str×V)}:Lk (baseNs m) "fun_results" (.ref 6)
 | term_ops {m:List (Str×V)}:Lk (baseNs m) "term_ops" (.ref 7)
 | term_args {m:List (Str×V)}:Lk (baseNs m) "term_args" (.ref 8)
 | term_sorts {m:List (Str×V)}:Lk (baseNs m) "term_sorts" (.ref 9)
 | term_datas {m:List (Str×V)}:Lk (baseNs m) "term_datas" (.ref 10)
 | numbers {m:List (Str×V)}:Lk (baseNs m) "numbers" (.ref 11)
 | true_:Lk (baseNs M3) "true_number" (.int 1)
 | false_:Lk (baseNs M3) "false_number" (.int 2)
 | bvn:Lk (baseNs M3) "bv_numbers" (.ref 12)
 | bank:Lk RN "bank" (.inst 762 1)
 | known:Lk RN "known" (.ref 14)
 | yes:Lk RN "yes" (.int 1)
 | no:Lk RN "no" (.int 2)
theorem xQ{l:List (Str×V)}{x:Str}{y:V}(h:Lk l x y):l.lookup x=some y:=by induction h<;>kernel_rfl
noncomputable def mkT(ts:List T)(t:T):Int×List T:=match ts.findIdx? (fun u=>decide (u=t)) with
 | some i=>(i+1,ts)
 | none=>(ts.length+1,ts++[t])
theorem uX(xs ys:List Int):V.beqs (xs.map V.int) (ys.map V.int)=decide (xs=ys):=by
 induction xs generalizing ys with
 | nil=>cases ys<;>rfl
 | cons x xs ih=>cases ys with
  | nil=>rfl
  | cons y ys =>
   show (x==y&&V.beqs (xs.map V.int) (ys.map V.int))=_
   rw[ih,Bool.eq_iff_iff];simp
theorem vJ(t u:T):V.beq t.key u.key=decide (t=u):=by
 obtain⟨a,b,c,d⟩:=t
 obtain⟨a',b',c',d'⟩:=u
 have hd:V.beq d.v d'.v=decide (d=d'):=by
  cases d with
  | i n=>cases d' with
   | i m=>show (n==m)=_;rw[Bool.eq_iff_iff];simp
   | p=>rfl
  | p n m=>cases d' with
   | i=>rfl
   | p n' m'=>show (n==n'&&(m==m'&&true))=_;rw[Bool.eq_iff_iff];simp
 show (a==a'&&(V.beqs (b.map V.int) (b'.map V.int)&&(c==c'&&(V.beq d.v d'.v&&true))))=_
 rw[uX,hd,Bool.eq_iff_iff];simp
theorem nY(ts:List T)(t:T):dget (nums ts) t.key=(ts.findIdx? fun u=>decide (u=t)).map fun (i:Nat)=>V.int ((i:Int)+1):=by
 have key:∀ (ts:List T) (n:Nat),(((ts.zipIdx n).map fun p=>(p.1.key,V.int (p.2+1))).find? fun p=>V.beq p.1 t.key).map (·.2)=(ts.findIdx? fun u=>decide (u=t)).map fun i=>V.int ((i+n:Nat)+1):=by
  intro ts
  induction ts with
  | nil=>intro n;rfl
  | cons u ts ih =>
   intro n
   simp only[List.zipIdx_cons,List.map_cons,List.find?_cons,vJ,List.findIdx?_cons]
   by_cases h:u=t
   ·simp[h]
   ·simp only[h,decide_false,if_false,Bool.false_eq_true]
    rw[ih (n+1)]
    cases ts.findIdx? fun u=>decide (u=t) with
    | none=>rfl
    | some i=>simp only[Option.map_some];congr 3;tm_at "l"
 have:=key ts 0
 simpa [dget,nums] using this
theorem oN{ts:List T}{t:T}(h0:PyData.canLay0 (.str t.op)=true)(h1:ts.length≤1000):aY (nums ts) t.key:=by
 refine⟨?_,?_,?_,?_⟩
 ·have:∀ l:List Int,V.keys (l.map V.int)=true:=fun l=>by induction l with | nil=>rfl | cons a l ih=>exact ih
  have hd:V.key t.data.v=true:=by cases t.data<;>rfl
  show (PyData.canLay0 (.str t.op)&&(V.keys (t.args.map V.int)&&(true&&(V.key t.data.v&&true))))=true
  rw[this,h0,hd];rfl
 ·have:∀ l:List Int,V.deps (l.map V.int)=0:=fun l=>by induction l with | nil=>rfl | cons a l ih=>exact congrArg (max 0) ih
  have hd:V.dep t.data.v≤1:=by cases t.data<;>exact Nat.le_of_ble_eq_true rfl
  show (max 0 (max (V.deps (t.args.map V.int)+1) (max 0 (max (V.dep t.data.v) 0))))+1≤7
  rw[this];tm_at "l"
 ·rw[List.all_eq_true];intro p hp
  simp only[nums,List.mem_map] at hp
  obtain⟨q,_,rfl⟩:=hp
  rfl
 ·simp[nums];tm_at "l"
theorem fu{c:Ctx}{d n:Nat}{σ:St}{l:List V}{Q:V→St→Prop}(h:σ[n]?=some (some (.list l)))(hl:l.length≤1000000)(q:Q (.int l.length) σ):CallT c (.builtin "len") d [.ref n] σ Q :=
 lh (cg (hZ h) ⟨hl,q⟩)
theorem hY{c:Ctx}{d:Nat}{σ:St}{l:List V}{Q:V→St→Prop}(hl:l.length≤1000000)(q:Q (.int l.length) σ):CallT c (.builtin "len") d [.fl l] σ Q :=
 lh ⟨hl,q⟩
end
local macro_rules | `(tactic| tm_at "b") => `(tactic| first | decide +kernel | (dsimp only; decide +kernel))
local macro_rules | `(tactic| tm_at "d") => `(tactic| with_reducible first | (apply stp; constructor) | (apply stp2; constructor) | refine d7 (by tm_at "r") ?_ | refine w5 (by tm_at "r") (by tm_at "r") (by apply xQ; constructor) ?_ | refine qE (by with_unfolding_all exact if_pos rfl) (by tm_at "r") (by kernel_rfl) ?_ | refine dY (by tm_at "r") ?_ | refine ec (Nat.le_of_ble_eq_true (by kernel_rfl)) ?_ | refine eO (by tm_at "r") ?_ | refine i_T (by tm_at "b") ?_ | refine i_F (by tm_at "b") ?_)
local macro_rules | `(tactic| tm_at "D") => `(tactic| with_reducible show ?G; with_reducible refine dq (P := ?P) (G := ?G) (type_of% (dd (P := ?P) (G := ?G) (by intro hp; tm_at "d"; (repeat tm_at "d"); exact hp))) (by kernel_rfl) ?_)
local macro_rules | `(tactic| tm_at "g") => `(tactic| first | tm_at "D" | with_reducible first | refine j0 ?_ | refine gI ?_ | refine vD ?_ | refine eC (by tm_at "r") (by decide +kernel) ?_ | refine ec (Nat.le_of_ble_eq_true (by kernel_rfl)) ?_ | refine And.intro (by tm_at "r") ?_ | refine r7 (by tm_at "r") ?_ | refine yX (by tm_at "r") ?_)
local macro_rules | `(tactic| tm_at "g3") => `(tactic| first | tm_at "g" | with_reducible refine bI (by tm_at "r") (by tm_at "r") (Nat.le_of_ble_eq_true (by kernel_rfl)) ?_)
local macro_rules | `(tactic| tm_at "g2") => `(tactic| first | tm_at "g" | with_reducible refine i_T (by assumption) ?_ | with_reducible refine i_F (by assumption) ?_)
section
variable{w:World}{h0:Heap}{mg mb:Str→Option Value}{top:AObj}{b:Bk}{more:List (Str×V)}{rest:St}{d:Nat}{Q:V→St→Prop}
theorem gX{t:T}(ok:(cx w h0 mg mb).Ok)(hop:PyData.canLay0 (.str t.op)=true)(h1:b.ts.length≤1000)(hQ:Q (.int (mkT b.ts t).1) (σB top { b with ts:=(mkT b.ts t).2 } more rest)) :
  CodeT (cx w h0 mg mb) (.ref 376) (d+1) [.inst 762 1,.str t.op,.tup (t.args.map V.int),.int t.sort,t.data.v] (σB top b more rest) Q:=by
 refine aA (k:=2) ok (vZ ok) (rl ok) rfl ?_
 unfold l8 σB
 repeat tm_at "g"
 refine vu ok rfl (show aY (nums b.ts) t.key from oN hop h1) (fun y e=>?_) (fun e=>?_)
 ·have e:dget (nums b.ts) t.key=some y:=e
  rw[nY] at e
  cases hf:b.ts.findIdx? fun u=>decide (u=t) with
  | none=>rw[hf] at e;cases e
  | some i =>
   rw[hf] at e;cases e
   repeat tm_at "g"
   refine i_F (by simp;tm_at "l") ?_
   repeat tm_at "g"
   unfold mkT at hQ;rw[hf] at hQ
   exact hQ
 ·have e:dget (nums b.ts) t.key=none:=e
  have hf:(b.ts.findIdx? fun u=>decide (u=t))=none:=by
   rw[nY] at e
   cases hf:b.ts.findIdx? fun u=>decide (u=t) with
   | none=>rfl
   | some i=>rw[hf] at e;cases e
  unfold mkT at hQ;rw[hf] at hQ
  have l1:(tops b.ts).length=b.ts.length+1:=by simp[tops]
  have l2:(targs b.ts).length=b.ts.length+1:=by simp[targs]
  have l3:(tsorts b.ts).length=b.ts.length+1:=by simp[tsorts]
  have l4:(tdatas b.ts).length=b.ts.length+1:=by simp[tdatas]
  repeat tm_at "g"
  refine fu rfl (by tm_at "l") ?_
  repeat tm_at "g"
  refine bG rfl (by tm_at "l") ?_
  repeat tm_at "g"
  refine bG rfl (by tm_at "l") ?_
  repeat tm_at "g"
  refine bG rfl (by tm_at "l") ?_
  repeat tm_at "g"
  refine bG rfl (by tm_at "l") ?_
  repeat tm_at "g"
  refine eu rfl (show aY (nums b.ts) t.key from oN hop h1) ?_
  repeat tm_at "g"
  have hs:dset (nums b.ts) t.key (.int (b.ts.length+1))=nums (b.ts++[t]):=by
   have hn:((nums b.ts).any fun p=>V.beq p.1 t.key)=false:=by
    unfold dget at e
    rw[Option.map_eq_none_iff,List.find?_eq_none] at e
    rw[List.any_eq_false]
    exact e
   unfold dset
   rw[if_neg (by rw[hn];decide)]
   simp[nums,List.zipIdx_append]
  show Q (.int ((tops b.ts).length:Int)) _
  have hl:((tops b.ts).length:Int)=(b.ts.length:Int)+1:=by rw[l1];rfl
  have fin:σR top more b.names (b.ws.map fun (w:Nat)=>V.int w) b.fnames b.fargs b.fres (tops b.ts++[.str t.op]) (targs b.ts++[.tup (t.args.map V.int)]) (tsorts b.ts++[.int t.sort]) (tdatas b.ts++[t.data.v]) (dset (nums b.ts) t.key (.int ((b.ts.length:Int)+1))) rest=σB top { b with ts:=b.ts++[t] } more rest:=by
   rw[hs]
   simp[σB,tops,targs,tsorts,tdatas]
  rw[hl]
  dsimp only at hQ
  rw[← fin] at hQ
  exact hQ
end
section
set_option genInjectivity false in
structure En where
 top:AObj
 nm:List V
 ws:List Nat
 fn:List V
 fa:List V
 fr:List V
 kn:List (V×V)
 junk:St
noncomputable def bvs(ws:List Nat):List (V×V):=(ws.zipIdx.filter fun p=>decide (p.1≠0)).map fun p=>(V.int p.1,V.int p.2)
noncomputable def Z(E:En)(ts:List T):St:=σB E.top ⟨E.nm,E.ws,E.fn,E.fa,E.fr,ts⟩ M3 (some (.dict (bvs E.ws))::some (.ns RN)::some (.dict E.kn)::E.junk)
noncomputable def Wd(E:En)(s:Int)(w:Nat):Prop:=0≤s∧s < 4000000000∧E.ws[s.toNat]?=some w
structure En.Ok (E:En):Prop where
 len:E.nm.length=E.ws.length
 few:E.ws.length≤1000
 one:∀ (i j w:Nat),E.ws[i]?=some w→E.ws[j]?=some w→w≠0→i=j
noncomputable def At(ts:List T)(i:Int)(t:T):Prop:=∃ n:Nat,i=(n:Int)+1∧ts[n]?=some t
theorem At.lo{ts:List T}{i:Int}{t:T}(h:At ts i t):0≤i:=by obtain⟨n,rfl,_⟩:=h;tm_at "l"
theorem At.hi{ts:List T}{i:Int}{t:T}(h:At ts i t)(h1:ts.length≤1000):i < 4000000000:=by
 obtain⟨n,rfl,e⟩:=h
 have:=(List.getElem?_eq_some_iff.mp e).1
 tm_at "l"
theorem At.eq_{ts:List T}{i:Int}{t u:T}(h:At ts i t)(h':At ts i u):t=u:=by
 obtain⟨n,rfl,e⟩:=h
 obtain⟨m,e',f⟩:=h'
 have:n=m:=by tm_at "l"
 subst this
 rw[e] at f;cases f;rfl
theorem At.row{α:Type}{ts:List T}{i:Int}{t:T}(h:At ts i t)(f:T→α)(z:α):(z::ts.map f)[i.toNat]?=some (f t):=by
 obtain⟨n,rfl,e⟩:=h
 have:((n:Int)+1).toNat=n+1:=by tm_at "l"
 rw[this];simp[e]
theorem At.tops{ts:List T}{i:Int}{t:T}(h:At ts i t):(tops ts)[i.toNat]?=some (.str t.op):=h.row (fun t=>V.str t.op) _
theorem At.targs{ts:List T}{i:Int}{t:T}(h:At ts i t):(targs ts)[i.toNat]?=some (.tup (t.args.map V.int)):=h.row (fun t=>V.tup (t.args.map V.int)) _
theorem At.tsorts{ts:List T}{i:Int}{t:T}(h:At ts i t):(tsorts ts)[i.toNat]?=some (.int t.sort):=h.row (fun t=>V.int t.sort) _
theorem At.tdatas{ts:List T}{i:Int}{t:T}(h:At ts i t):(tdatas ts)[i.toNat]?=some t.data.v:=h.row (fun t=>t.data.v) _
theorem Wd.at{E:En}{s:Int}{w:Nat}(h:Wd E s w):(E.ws.map fun (w:Nat)=>V.int w)[s.toNat]?=some (.int w):=by simp[h.2.2]
theorem d5(ws:List Nat){w:Nat}(hl:ws.length≤1000):aY (bvs ws) (.int w):=by
 refine⟨rfl,Nat.le_of_ble_eq_true rfl,?_,?_⟩
 ·rw[List.all_eq_true];intro p hp
  simp only[bvs,List.mem_map] at hp
  obtain⟨q,_,rfl⟩:=hp
  rfl
 ·have:=List.length_filter_le (fun p:Nat×Nat=>decide (p.1≠0)) ws.zipIdx
  simp only[List.length_zipIdx] at this
  simp only[bvs,List.length_map];tm_at "l"
theorem gV{E:En}(ok:E.Ok){s:Int}{w:Nat}(h:Wd E s w)(hw:w≠0):dget (bvs E.ws) (.int w)=some (.int s):=by
 obtain⟨h0,_,hs⟩:=h
 have mem:(w,s.toNat)∈E.ws.zipIdx.filter fun p=>decide (p.1≠0):=List.mem_filter.mpr ⟨List.mem_zipIdx_iff_getElem?.mpr hs,by simpa using hw⟩
 unfold dget bvs
 rw[List.find?_map,Option.map_map]
 cases e:(E.ws.zipIdx.filter fun p=>decide (p.1≠0)).find? ((fun p:V×V=>V.beq p.1 (.int w))∘fun p=>(V.int p.1,V.int p.2)) with
 | none =>
  have:=List.find?_eq_none.mp e _ mem
  simp[er] at this
 | some p =>
  have h1:=List.find?_some e
  have h2:=List.mem_filter.mp (List.mem_of_find?_eq_some e)
  have h3:=List.mem_zipIdx_iff_getElem?.mp h2.1
  have h1:(p.1:Int)=w:=by simpa [er] using h1
  have h1:p.1=w:=by tm_at "l"
  rw[h1] at h3
  have:=ok.one _ _ _ h3 hs hw
  simp[this];tm_at "l"
theorem tM{E:En}(ok:E.Ok){s:Int}{w:Nat}(h:Wd E s w)(hw:w≠0):((bvs E.ws).any fun u=>V.beq u.1 (.int w))=true:=by
 have:=gV ok h hw
 unfold dget at this
 rw[List.any_eq_true]
 obtain⟨p,hp,_⟩:=Option.map_eq_some_iff.mp this
 exact⟨p,List.mem_of_find?_eq_some hp,by simpa using List.find?_some hp⟩
variable{w:World}{h0:Heap}{mg mb:Str→Option Value}{E:En}{wd:Nat}{ts:List T}{d:Nat}{Q:V→St→Prop}{i j s:Int}{t u:T}
theorem bE(ok:(cx w h0 mg mb).Ok)(t:T)(hop:PyData.canLay0 (.str t.op)=true)(h1:ts.length≤1000)(hQ:Q (.int (mkT ts t).1) (Z E (mkT ts t).2)) :
  CallT (cx w h0 mg mb) (.ref 376) (d+1) [.inst 762 1,.str t.op,.tup (t.args.map V.int),.int t.sort,t.data.v] (Z E ts) Q:=(gX ok hop h1 hQ).call
theorem dp(ok:(cx w h0 mg mb).Ok)(h1:ts.length≤1000)(h:At ts i t)(hQ:Q (.str t.op) (Z E ts)):CallT (cx w h0 mg mb) (.ref 334) (d+1) [.inst 762 1,.int i] (Z E ts) Q:=by
 refine (aA (k:=0) ok (tF ok) (sd ok) rfl ?_).call
 delta oH
 repeat tm_at "g"
 refine aS (l:=tops ts) rfl h.lo (h.hi h1) h.tops ?_
 repeat tm_at "g"
 exact hQ
theorem bK(ok:(cx w h0 mg mb).Ok)(h1:ts.length≤1000)(h:At ts i t)(hQ:Q (.tup (t.args.map V.int)) (Z E ts)):CallT (cx w h0 mg mb) (.ref 341) (d+1) [.inst 762 1,.int i] (Z E ts) Q:=by
 refine (aA (k:=0) ok (vx ok) (uG ok) rfl ?_).call
 delta lz
 repeat tm_at "g"
 refine aS (l:=targs ts) rfl h.lo (h.hi h1) h.targs ?_
 repeat tm_at "g"
 exact hQ
theorem dP(ok:(cx w h0 mg mb).Ok)(h1:ts.length≤1000)(h:At ts i t)(hQ:Q t.data.v (Z E ts)):CallT (cx w h0 mg mb) (.ref 355) (d+1) [.inst 762 1,.int i] (Z E ts) Q:=by
 refine (aA (k:=0) ok (tB ok) (xu ok) rfl ?_).call
 delta nD
 repeat tm_at "g"
 refine aS (l:=tdatas ts) rfl h.lo (h.hi h1) h.tdatas ?_
 repeat tm_at "g"
 exact hQ
theorem bX(ok:(cx w h0 mg mb).Ok)(h1:ts.length≤1000)(h:At ts i t)(hs:Wd E t.sort wd)(hQ:Q (.int wd) (Z E ts)):CallT (cx w h0 mg mb) (.ref 362) (d+1) [.inst 762 1,.int i] (Z E ts) Q:=by
 refine (aA (k:=0) ok (tL ok) (rE ok) rfl ?_).call
 delta kC
 repeat tm_at "g"
 refine aS (l:=tsorts ts) rfl h.lo (h.hi h1) h.tsorts ?_
 refine aS rfl hs.1 hs.2.1 hs.at ?_
 repeat tm_at "g"
 exact hQ
theorem eI(ok:(cx w h0 mg mb).Ok)(h1:ts.length≤1000){wh:Str}(h:At ts i t)(hs:t.sort=s)(hQ:Q .none (Z E ts)):CallT (cx w h0 mg mb) (.ref 397) (d+1) [.inst 762 1,.int i,.int s,.str wh] (Z E ts) Q:=by
 refine (aA (k:=0) ok (rV ok) (qk ok) rfl ?_).call
 delta ld
 repeat tm_at "g"
 refine aS (l:=tsorts ts) rfl h.lo (h.hi h1) h.tsorts ?_
 repeat tm_at "g"
 refine i_F (by simp[hs]) ?_
 repeat tm_at "g"
 exact hQ
theorem cB(ok:(cx w h0 mg mb).Ok)(h1:ts.length≤1000){wh:Str}(h:At ts i t)(hs:Wd E t.sort wd)(hw:wd≠0)(hQ:Q .none (Z E ts)):CallT (cx w h0 mg mb) (.ref 682) (d+2) [.inst 762 1,.int i,.str wh] (Z E ts) Q:=by
 refine (aA (k:=0) ok (xG ok) (pW ok) rfl ?_).call
 delta ol
 repeat tm_at "g"
 refine bX ok h1 h hs ?_
 repeat tm_at "g"
 refine i_F (by simp;tm_at "l") ?_
 repeat tm_at "g"
 exact hQ
theorem fi(ok:(cx w h0 mg mb).Ok)(eo:E.Ok)(hs:Wd E s wd)(hw:1≤wd)(hw4:wd≤4096)(hQ:Q (.int s) (Z E ts)):CallT (cx w h0 mg mb) (.ref 668) (d+1) [.inst 762 1,.int wd] (Z E ts) Q:=by
 refine (aA (k:=0) ok (nS ok) (nB ok) rfl ?_).call
 delta gZ
 repeat tm_at "g"
 refine i_F (by simp;tm_at "l") ?_
 repeat tm_at "g"
 refine i_F (by simp;tm_at "l") ?_
 repeat tm_at "g"
 refine eE (kvs:=bvs E.ws) rfl (d5 _ eo.few) ?_
 repeat tm_at "g"
 refine i_F (by rw[tM eo hs (by tm_at "l")];rfl) ?_
 repeat tm_at "g"
 refine ef (kvs:=bvs E.ws) rfl (d5 _ eo.few) (gV eo hs (by tm_at "l")) ?_
 repeat tm_at "g"
 exact hQ
theorem gu(ok:(cx w h0 mg mb).Ok)(eo:E.Ok)(h1:ts.length≤1000)(hs:Wd E s wd)(hw:1≤wd)(hw4:wd≤4096){v:Int}(hQ:Q (.int (mkT ts ⟨"bvnum",[],s,.i (v.fmod (2 ^ wd))⟩).1) (Z E (mkT ts ⟨"bvnum",[],s,.i (v.fmod (2 ^ wd))⟩).2)) :
  CallT (cx w h0 mg mb) (.ref 689) (d+2) [.inst 762 1,.int v,.int wd] (Z E ts) Q:=by
 refine (aA (k:=1) ok (l0 ok) (j6 ok) rfl ?_).call
 delta gR
 repeat tm_at "g"
 refine fi ok eo hs hw hw4 ?_
 repeat tm_at "g"
 refine eg (by tm_at "l") (by tm_at "l") (by decide) ?_
 have e:(1:Int) * 2 ^ ((wd:Int)).toNat=2 ^ wd:=by simp
 rw[e]
 refine cm (Int.ne_of_gt (Int.pow_pos (by decide))) ?_
 repeat tm_at "g"
 refine bE ok ⟨"bvnum",[],s,.i _⟩ (by kernel_rfl) h1 ?_
 repeat tm_at "g"
 exact hQ
theorem qn(ok:(cx w h0 mg mb).Ok)(h1:ts.length≤1000){op:Str}(hop:op="bvnot"∨op="bvneg")(h:At ts i t)(hs:Wd E t.sort wd)(hw:1≤wd)(hQ:Q (.int (mkT ts ⟨op,[i],t.sort,.i 0⟩).1) (Z E (mkT ts ⟨op,[i],t.sort,.i 0⟩).2)) :
  CallT (cx w h0 mg mb) (.ref 696) (d+3) [.inst 762 1,.str op,.int i] (Z E ts) Q:=by
 refine (aA (k:=0) ok (ru ok) (qI ok) rfl ?_).call
 delta n0
 have hb:(((op != ("bvnot":Str)):Bool)&&(op != ("bvneg":Str)))=false:=by rcases hop with rfl | rfl<;>decide +kernel
 have hl:PyData.canLay0 (.str op)=true:=by rcases hop with rfl | rfl<;>decide +kernel
 repeat tm_at "g"
 refine cB ok h1 h hs (by tm_at "l") ?_
 repeat tm_at "g"
 refine cE (fun e=>?_) (fun e=>?_)
 ·repeat tm_at "g2"
  refine i_F (by rw[e] at hb;exact hb) ?_
  repeat tm_at "g"
  refine aS (l:=tsorts ts) rfl h.lo (h.hi h1) h.tsorts ?_
  repeat tm_at "g"
  refine bE ok ⟨op,[i],t.sort,.i 0⟩ hl h1 ?_
  repeat tm_at "g"
  exact hQ
 ·repeat tm_at "g2"
  refine aS (l:=tsorts ts) rfl h.lo (h.hi h1) h.tsorts ?_
  repeat tm_at "g"
  refine bE ok ⟨op,[i],t.sort,.i 0⟩ hl h1 ?_
  repeat tm_at "g"
  exact hQ
theorem allStr:(true&&gv_BV_SAME.all PyData.strOk)=true:=by decide +kernel
theorem yC(ok:(cx w h0 mg mb).Ok)(h1:ts.length≤1000){op:Str}(hop:(gv_BV_SAME.any fun x=>x==op)=true)(h:At ts i t)(hs:Wd E t.sort wd)(hw:1≤wd)(h':At ts j u)(hu:u.sort=t.sort)
  (hQ:Q (.int (mkT ts ⟨op,[i,j],t.sort,.i 0⟩).1) (Z E (mkT ts ⟨op,[i,j],t.sort,.i 0⟩).2)):CallT (cx w h0 mg mb) (.ref 703) (d+3) [.inst 762 1,.str op,.int i,.int j] (Z E ts) Q:=by
 refine (aA (k:=0) ok (lK ok) (oK ok) rfl ?_).call
 delta iD
 have all:∀ x∈gv_BV_SAME,PyData.strOk x=true∧PyData.canLay0 (.str x)=true:=by decide +kernel
 obtain⟨x,hx,he⟩:=List.any_eq_true.mp hop
 have he:=eq_of_beq he
 subst he
 repeat tm_at "g"
 refine cB ok h1 h hs (by tm_at "l") ?_
 repeat tm_at "g"
 refine aS (l:=tsorts ts) rfl h.lo (h.hi h1) h.tsorts ?_
 repeat tm_at "g"
 refine eI ok h1 h' hu ?_
 repeat tm_at "g"
 refine eC (xs:=gv_BV_SAME) (by kernel_rfl) (by rw[List.all_cons,(all x hx).1];exact allStr) ?_
 repeat tm_at "g"
 refine i_T hop ?_
 repeat tm_at "g"
 refine aS (l:=tsorts ts) rfl h.lo (h.hi h1) h.tsorts ?_
 repeat tm_at "g"
 refine bE ok ⟨x,[i,j],t.sort,.i 0⟩ (all x hx).2 h1 ?_
 repeat tm_at "g"
 exact hQ
end
section
set_option maxHeartbeats 1000000
noncomputable def stE(p:Int×Bool):V:=.tup [.int p.1,.bool p.2]
noncomputable def dnL(L:List Int):List (V×V):=L.map fun i=>(V.int i,V.bool true)
noncomputable def sS(σ:St)(L:List Int)(J:St):St:=σ++some (.list (iL L))::some (.dict (dnL L))::J
section
variable{σ J:St}{L:List Int}{x y:Option AObj}{i:Int}
theorem qM:(sS σ L J).length=σ.length+2+J.length:=by simp[sS];tm_at "l"
theorem f7:(sS σ L J)[σ.length+1]?=some (some (.dict (dnL L))):=by
 unfold sS;rw[List.getElem?_append_right (by tm_at "l")];simp
theorem cW:(sS σ L (J++[x]))[σ.length+2+J.length]?=some x:=by
 unfold sS;rw[List.getElem?_append_right (by tm_at "l"),show σ.length+2+J.length - σ.length=J.length+1+1 by tm_at "l"];simp
theorem vC{m:List (V×V)}:(sS σ L J).set (σ.length+1) (some (.dict m))=σ++some (.list (iL L))::some (.dict m)::J:=by
 unfold sS;rw[List.set_append_right _ _ (by tm_at "l")];simp
theorem hU:(sS σ L (J++[x])).set (σ.length+2+J.length) y=sS σ L (J++[y]):=by
 unfold sS;rw[List.set_append_right _ _ (by tm_at "l"),show σ.length+2+J.length - σ.length=J.length+1+1 by tm_at "l"];simp
theorem iB:((dnL L).any fun u=>V.beq u.1 (.int i))=decide (i∈L):=by
 induction L with
 | nil=>rfl
 | cons a l ih =>
  have:dnL (a::l)=(V.int a,V.bool true)::dnL l:=rfl
  rw[this,List.any_cons,ih]
  by_cases h:a=i
  ·subst h;simp[er]
  ·have h':¬ i=a:=fun e=>h e.symm
   simp[er,h,h']
theorem iq(hl:L.length≤1000000):aY (dnL L) (.int i):=by
 refine⟨rfl,Nat.le_of_ble_eq_true rfl,?_,by simpa [dnL] using hl⟩
 rw[List.all_eq_true];intro p hp
 obtain⟨q,_,rfl⟩:=List.mem_map.mp hp
 rfl
theorem zk(h:i∉L):dset (dnL L) (.int i) (.bool true)=dnL (L++[i]):=by
 unfold dset
 rw[if_neg (by rw[iB];simpa using h)]
 simp[dnL]
end
structure Gath (ts:List T) (P:Int→Prop) (wt:Int→Nat) (B:Nat) (L:List Int) (st:List (Int×Bool)):Prop where
 p1:∀ e∈L,P e
 cl:∀ pre e post,L=pre++e::post→∀ t,At ts e t→∀ a∈t.args,a∈pre
 p2:∀ x∈st,P x.1
 op:∀ pre e post,st=pre++(e,true)::post→∀ t,At ts e t→∀ a∈t.args,a∈L∨∃ o,(a,o)∈post
 few:L.length+(st.map fun x=>if x.2 then 1 else wt x.1).sum≤B
noncomputable def msr(wt:Int→Nat)(st:List (Int×Bool)):Nat:=(st.map fun x=>if x.2 then 1 else wt x.1).sum
section
variable{ts:List T}{P:Int→Prop}{wt:Int→Nat}{B:Nat}{L:List Int}{st:List (Int×Bool)}{e:Int}{o:Bool}{t:T}
theorem gS(a b:List (Int×Bool)):msr wt (a++b)=msr wt a+msr wt b:=by simp[msr]
theorem Gath.skip(g:Gath ts P wt B L (st++[(e,o)]))(h:e∈L):Gath ts P wt B L st where
 p1:=g.p1
 cl:=g.cl
 p2:=fun x hx=>g.p2 x (by simp[hx])
 op:=fun pre u post hs t ht a ha=>by
  rcases g.op pre u (post++[(e,o)]) (by rw[hs];simp) t ht a ha with h1 | ⟨o',h1⟩
  ·exact .inl h1
  ·rcases List.mem_append.mp h1 with h1 | h1
   ·exact .inr ⟨o',h1⟩
   ·simp at h1;obtain⟨rfl,_⟩:=h1;exact .inl h
 few:=by
  have:=g.few
  rw[List.map_append,List.sum_append] at this
  tm_at "l"
theorem Gath.shut(g:Gath ts P wt B L (st++[(e,true)])):Gath ts P wt B (L++[e]) st where
 p1:=fun x hx=>by
  rcases List.mem_append.mp hx with h | h
  ·exact g.p1 x h
  ·simp at h;subst h;exact g.p2 (x,true) (by simp)
 cl:=fun pre u post hs t ht a ha=>by
  rcases List.eq_nil_or_concat post with rfl | ⟨post',z,rfl⟩
  ·have h1:L=pre:=by
    have:=congrArg List.dropLast hs
    simpa using this
   have h2:e=u:=by
    have:=congrArg List.getLast? hs
    simpa using this
   subst h1;subst h2
   rcases g.op st e [] rfl t ht a ha with h | ⟨_,h⟩
   ·exact h
   ·cases h
  ·have h1:L++[e]=(pre++u::post')++[z]:=by rw[hs];simp
   exact g.cl pre u post' (List.append_inj' h1 rfl).1 t ht a ha
 p2:=fun x hx=>g.p2 x (by simp[hx])
 op:=fun pre u post hs t ht a ha=>by
  rcases g.op pre u (post++[(e,true)]) (by rw[hs];simp) t ht a ha with h1 | ⟨o',h1⟩
  ·exact .inl (by simp[h1])
  ·rcases List.mem_append.mp h1 with h1 | h1
   ·exact .inr ⟨o',h1⟩
   ·simp at h1;obtain⟨rfl,_⟩:=h1;exact .inl (by simp)
 few:=by
  have:=g.few
  rw[List.map_append,List.sum_append] at this
  simp at this ⊢
  tm_at "l"
theorem mm{l:List Int}{u:Int}:(u,true)∉l.map fun a=>(a,false):=fun h=>by
 obtain⟨_,_,h⟩:=List.mem_map.mp h
 cases h
theorem jX(p:Int→Bool)(l:List Int):((l.filter p).map wt).sum≤(l.map wt).sum:=by
 induction l with
 | nil=>exact Nat.le_refl _
 | cons a l ih =>
  rw[List.filter_cons]
  split
  ·simp only[List.map_cons,List.sum_cons];tm_at "l"
  ·simp only[List.map_cons,List.sum_cons];tm_at "l"
theorem Gath.open_(g:Gath ts P wt B L (st++[(e,false)]))(he:At ts e t)(hP:∀ a∈t.args,P a)(hw:(t.args.map wt).sum+2≤wt e) :
  Gath ts P wt B L (st++[(e,true)]++(t.args.reverse.filter fun a=>decide (a∉L)).map fun a=>(a,false)) where
 p1:=g.p1
 cl:=g.cl
 p2:=fun x hx=>by
  rcases List.mem_append.mp hx with h | h
  ·rcases List.mem_append.mp h with h | h
   ·exact g.p2 x (by simp[h])
   ·simp at h;subst h;exact g.p2 (e,false) (by simp)
  ·obtain⟨a,ha,rfl⟩:=List.mem_map.mp h
   have:=(List.mem_filter.mp ha).1
   exact hP a (by simpa using this)
 op:=fun pre u post hs t' ht a ha=>by
  rcases List.append_eq_append_iff.mp hs with⟨c,h1,h2⟩ | ⟨c,h1,h2⟩
  ·
   exact absurd (show (u,true)∈((t.args.reverse.filter fun a=>decide (a∉L)).map fun a=>(a,false)) by rw[h2];simp) mm
  ·rcases List.eq_nil_or_concat c with rfl | ⟨c',z,rfl⟩
   ·have h2':(u,true)::post=((t.args.reverse.filter fun a=>decide (a∉L)).map fun a=>(a,false)):=h2
    exact absurd (h2'▸List.mem_cons_self) mm
   ·have hz:st=pre++c'∧z=(e,true):=by
     have h3:st++[(e,true)]=(pre++c')++[z]:=by rw[h1];simp
     have:=List.append_inj' h3 rfl
     exact⟨this.1,by simpa using this.2.symm⟩
    obtain⟨hz1,rfl⟩:=hz
    cases c' with
    | nil =>
     simp at h2
     obtain⟨⟨rfl,_⟩,rfl⟩:=h2
     have:=At.eq_ he ht
     subst this
     by_cases hL:a∈L
     ·exact .inl hL
     ·exact .inr ⟨false,by simp[hL,ha]⟩
    | cons q c'' =>
     simp at h2
     obtain⟨rfl,rfl⟩:=h2
     rcases g.op pre u (c''++[(e,false)]) (by rw[hz1];simp) t' ht a ha with h | ⟨o',h⟩
     ·exact .inl h
     ·rcases List.mem_append.mp h with h | h
      ·exact .inr ⟨o',by simp[h]⟩
      ·simp at h;obtain⟨rfl,rfl⟩:=h
       exact .inr ⟨true,by simp⟩
 few:=by
  have h0:=g.few
  have h2:=jX (wt:=wt) (fun a=>decide (a∉L)) t.args.reverse
  rw[List.map_reverse,List.sum_reverse] at h2
  have h3:((t.args.reverse.filter fun a=>decide (a∉L)).map ((fun x:Int×Bool=>if x.2 then 1 else wt x.1)∘fun a=>(a,false))).sum=((t.args.reverse.filter fun a=>decide (a∉L)).map wt).sum:=rfl
  rw[List.map_append,List.sum_append] at h0
  rw[List.map_append,List.sum_append,List.map_append,List.sum_append,List.map_map,h3]
  have e1:([(e,true)].map fun x:Int×Bool=>if x.2 then 1 else wt x.1).sum=1:=rfl
  have e2:([(e,false)].map fun x:Int×Bool=>if x.2 then 1 else wt x.1).sum=wt e:=by simp
  rw[e1]
  rw[e2] at h0
  tm_at "l"
end
end
section
set_option maxHeartbeats 2000000
variable{w:World}{h0:Heap}{mg mb:Str→Option Value}{E:En}{ts:List T}{d:Nat}{L:List Int}{J:St}{K:Fl→Env'→St→Prop}
theorem xF(ok:(cx w h0 mg mb).Ok){a0 a1 a4 a6 a7:Option V}(hL:L.length≤1000000):∀ (xs:List Int) (st:List (Int×Bool)) (a8:Option V),st.length+xs.length≤1000000 →
  (∀ a8,K .next [a0,a1,some (.ref (Z E ts).length),some (.ref ((Z E ts).length+1)),a4,some (.ref ((Z E ts).length+2+J.length)),a6,a7,a8] (sS (Z E ts) L (J++[some (.list ((st++(xs.filter fun a=>decide (a∉L)).map fun a=>(a,false)).map stE))]))) →
  forL d (nmA 8) (gJ (cx w h0 mg mb)) K (iL xs) [a0,a1,some (.ref (Z E ts).length),some (.ref ((Z E ts).length+1)),a4,some (.ref ((Z E ts).length+2+J.length)),a6,a7,a8] (sS (Z E ts) L (J++[some (.list (st.map stE))])):=by
 intro zz
 induction zz with
 | nil =>
  intro st a8 _ h
  refine cT ?_
  have:=h a8
  simpa using this
 | cons x xs ih =>
  intro st a8 hl h
  simp only[List.length_cons] at hl
  refine cj ?_
  delta gJ
  repeat tm_at "g"
  refine eE f7 (iq hL) ?_
  rw[iB]
  by_cases hx:x∈L
  ·repeat tm_at "g"
   refine i_F (by simp[hx]) ?_
   repeat tm_at "g"
   refine ih st _ (by tm_at "l") fun a8=>?_
   have:=h a8
   rwa [List.filter_cons,if_neg (by simpa using hx)] at this
  ·repeat tm_at "g"
   refine i_T (by simp[hx]) ?_
   repeat tm_at "g"
   refine dY (by simp only[tyP,cW]) ?_
   repeat tm_at "g"
   refine bG cW (by simp;tm_at "l") ?_
   rw[hU]
   repeat tm_at "g"
   have e:st.map stE++[V.tup [V.int x,V.bool false]]=(st++[(x,false)]).map stE:=by simp[stE]
   rw[e]
   refine ih (st++[(x,false)]) _ (by simp;tm_at "l") fun a8=>?_
   have:=h a8
   rw[List.filter_cons,if_pos (by simpa using hx)] at this
   simpa using this
end
section
set_option maxHeartbeats 2000000
noncomputable def Cls(ts:List T)(P:Int→Prop)(wt:Int→Nat):Prop:=∀ e,P e→∃ t,At ts e t∧(∀ a∈t.args,P a)∧(t.args.map wt).sum+2≤wt e∧t.args.length≤1000
theorem oG{ts:List T}{P:Int→Prop}{wt:Int→Nat}(hP:Cls ts P wt):∀ st:List (Int×Bool),(∀ x∈st,P x.1)→st.length≤msr wt st
 | [],_=>Nat.zero_le _
 | (e,o)::st,h=>by
  have ih:=oG hP st fun x hx=>h x (List.mem_cons_of_mem _ hx)
  obtain⟨t,_,_,hw,_⟩:=hP e (h (e,o) List.mem_cons_self)
  have:msr wt ((e,o)::st)=(if o then 1 else wt e)+msr wt st:=by simp[msr]
  rw[this,List.length_cons]
  cases o<;>simp<;>tm_at "l"
variable{w:World}{h0:Heap}{mg mb:Str→Option Value}{E:En}{ts:List T}{d:Nat}{K:Fl→Env'→St→Prop}
theorem w8(ok:(cx w h0 mg mb).Ok)(h1:ts.length≤1000){P:Int→Prop}{wt:Int→Nat}{B:Nat}(hB:B≤100000)(hP:Cls ts P wt){a1 a4:Option V}{R:Int→Prop}{J:St}
  {L0:List Int} {st0:List (Int×Bool)} {b6 b7 b8:Option V} (g0:Gath ts P wt B L0 st0) (hR0:∀ e,R e→e∈L0∨∃ o,(e,o)∈st0)
  (hK:∀ L a6 a7 a8,Gath ts P wt B L []→(∀ e,R e→e∈L)→K .next [some (.inst 762 1),a1,some (.ref (Z E ts).length),some (.ref ((Z E ts).length+1)),a4,some (.ref ((Z E ts).length+2+J.length)),a6,a7,a8] (sS (Z E ts) L (J++[some (.list [])]))) :
  cJ (an .Gt (ay (cx w h0 mg mb) (.builtin "len") (ab (aa 5) ae)) (ak 0)) (gk (cx w h0 mg mb)) d [some (.inst 762 1),a1,some (.ref (Z E ts).length),some (.ref ((Z E ts).length+1)),a4,some (.ref ((Z E ts).length+2+J.length)),b6,b7,b8] (sS (Z E ts) L0 (J++[some (.list (st0.map stE))])) K:=by
 refine fQ (fun m ρ σ=>∃ L st a6 a7 a8,m=msr wt st∧ρ=[some (.inst 762 1),a1,some (.ref (Z E ts).length),some (.ref ((Z E ts).length+1)),a4,some (.ref ((Z E ts).length+2+J.length)),a6,a7,a8]∧σ=sS (Z E ts) L (J++[some (.list (st.map stE))])∧Gath ts P wt B L st∧∀ e,R e→e∈L∨∃ o,(e,o)∈st)
  (msr wt st0) ⟨L0,st0,_,_,_,rfl,rfl,rfl,g0,hR0⟩ ?_
 rintro n ρ σ ⟨L,st,a6,a7,a8,rfl,rfl,rfl,g,hR⟩
 have hsl:=oG hP st g.p2
 have hfew:L.length+msr wt st≤B:=g.few
 repeat tm_at "g"
 refine fu cW (by simp;tm_at "l") ?_
 repeat tm_at "g"
 rcases List.eq_nil_or_concat st with rfl | ⟨st',⟨e,o⟩,hst⟩
 ·refine i_F (by simp) ?_
  refine hK L _ _ _ g fun e he=>?_
  rcases hR e he with h | ⟨_,h⟩
  ·exact h
  ·cases h
 rw[List.concat_eq_append] at hst
 subst hst
 have hpm:msr wt (st'++[(e,o)])=msr wt st'+(if o then 1 else wt e):=by rw[gS];simp[msr]
 obtain⟨t,hat,hargs,hw,hal⟩:=hP e (g.p2 (e,o) (by simp))
 have hmap:(st'++[(e,o)]).map stE=st'.map stE++[V.tup [.int e,.bool o]]:=by simp[stE]
 have hsl':st'.length+1≤B:=by simp at hsl;tm_at "l"
 refine i_T (by simp) ?_
 delta gk
 repeat tm_at "g"
 refine dY (by simp only[tyP,cW]) ?_
 repeat tm_at "g"
 refine q6 (l:=st'.map stE) (y:=.tup [.int e,.bool o]) (by rw[cW,hmap]) (by simp;tm_at "l") ?_
 rw[hU]
 repeat tm_at "g"
 refine zb f7 (iq (by tm_at "l")) ?_
 rw[iB]
 by_cases hL:e∈L
 ·refine i_T (by simp[hL]) ?_
  repeat tm_at "g"
  refine⟨_,?_,L,st',_,_,_,rfl,rfl,rfl,g.skip hL,fun u hu=>?_⟩
  ·rw[hpm];cases o<;>simp<;>tm_at "l"
  ·rcases hR u hu with h | ⟨o',h⟩
   ·exact .inl h
   ·rcases List.mem_append.mp h with h | h
    ·exact .inr ⟨o',h⟩
    ·simp at h;obtain⟨rfl,_⟩:=h;exact .inl hL
 refine i_F (by simp[hL]) ?_
 repeat tm_at "g"
 cases o with
 | true =>
  repeat tm_at "g"
  refine eu f7 (iq (by tm_at "l")) ?_
  rw[zk hL,vC]
  repeat tm_at "g"
  refine dY (by simp[tyP]) ?_
  repeat tm_at "g"
  refine bG (l:=iL L) (by simp) (by simp;tm_at "l") ?_
  repeat tm_at "g"
  refine⟨_,?_,L++[e],st',_,_,_,rfl,rfl,?_,g.shut,fun u hu=>?_⟩
  ·rw[hpm];simp
  ·rw[List.set_append_right _ _ (by tm_at "l")];simp[sS]
  ·rcases hR u hu with h | ⟨o',h⟩
   ·exact .inl (by simp[h])
   ·rcases List.mem_append.mp h with h | h
    ·exact .inr ⟨o',h⟩
    ·simp at h;obtain⟨rfl,_⟩:=h;exact .inl (by simp)
 | false =>
  repeat tm_at "g"
  refine dY (by simp only[tyP,cW]) ?_
  repeat tm_at "g"
  refine bG cW (by simp;tm_at "l") ?_
  rw[hU]
  have e1:st'.map stE++[V.tup [.int e,.bool true]]=(st'++[(e,true)]).map stE:=by simp[stE]
  rw[e1]
  repeat tm_at "g"
  refine aS (l:=targs ts) rfl hat.lo (hat.hi h1) hat.targs ?_
  repeat tm_at "g"
  refine sJ (by simp;tm_at "l") ?_
  rw[← List.map_reverse]
  refine xF ok (by tm_at "l") t.args.reverse (st'++[(e,true)]) _ (by simp;tm_at "l") fun a8=>?_
  repeat tm_at "g"
  refine⟨_,?_,L,_,_,_,_,rfl,rfl,rfl,g.open_ hat hargs hw,fun u hu=>?_⟩
  ·have h2:=jX (wt:=wt) (fun a=>decide (a∉L)) t.args.reverse
   rw[List.map_reverse,List.sum_reverse] at h2
   rw[hpm,gS,gS]
   have e2:msr wt ((t.args.reverse.filter fun a=>decide (a∉L)).map fun a=>(a,false))=((t.args.reverse.filter fun a=>decide (a∉L)).map wt).sum:=by unfold msr;rw[List.map_map];rfl
   have e3:msr wt [(e,true)]=1:=rfl
   rw[e2,e3];simp only[Bool.false_eq_true,if_false];tm_at "l"
  ·rcases hR u hu with h | ⟨o',h⟩
   ·exact .inl h
   ·rcases List.mem_append.mp h with h | h
    ·exact .inr ⟨o',by simp[h]⟩
    ·simp at h;obtain⟨rfl,_⟩:=h;exact .inr ⟨true,by simp⟩
end
section
set_option maxHeartbeats 2000000
variable{w:World}{h0:Heap}{mg mb:Str→Option Value}{E:En}{ts:List T}{d:Nat}{K:Fl→Env'→St→Prop}{Q:V→St→Prop}
theorem we{tg:MA}{b:MS}{xs:List V}{ρ ρ':Env'}{σ σ':St}(e:ρ=ρ')(e':σ=σ')(h:forL d tg b K xs ρ' σ'):forL d tg b K xs ρ σ:=by rw[e,e'];exact h
theorem wW(ok:(cx w h0 mg mb).Ok)(h1:ts.length≤1000){P:Int→Prop}{wt:Int→Nat}{B:Nat}(hB:B≤100000)(hP:Cls ts P wt){a1:Option V}{rs0:List Int}
  (hK:∀ L J a4 a5 a6 a7 a8,Gath ts P wt B L []→(∀ e∈rs0,e∈L)→K .next [some (.inst 762 1),a1,some (.ref (Z E ts).length),some (.ref ((Z E ts).length+1)),a4,a5,a6,a7,a8] (sS (Z E ts) L J)) :
  ∀ (rs:List Int) (L:List Int) (J:St) (a4 a5 a6 a7 a8:Option V),(∀ r∈rs,P r)→L.length+(rs.map wt).sum≤B→Gath ts P wt B L []→(∀ e∈rs0,e∈L∨e∈rs) →
  forL d (nmA 4) (gL (cx w h0 mg mb)) K (iL rs) [some (.inst 762 1),a1,some (.ref (Z E ts).length),some (.ref ((Z E ts).length+1)),a4,a5,a6,a7,a8] (sS (Z E ts) L J):=by
 intro zz
 induction zz with
 | nil =>
  intro L J a4 a5 a6 a7 a8 _ _ g hr
  exact cT (hK L J _ _ _ _ _ g fun e he=>by
   rcases hr e he with h | h
   ·exact h
   ·cases h)
 | cons r rs ih =>
  intro L J a4 a5 a6 a7 a8 hp hs g hr
  simp only[List.map_cons,List.sum_cons] at hs
  refine cj ?_
  delta gL
  repeat tm_at "g"
  refine vf (ρ':=[some (.inst 762 1),a1,some (.ref (Z E ts).length),some (.ref ((Z E ts).length+1)),some (.int r),some (.ref ((Z E ts).length+2+J.length)),a6,a7,a8]) (σ':=sS (Z E ts) L (J++[some (.list ([(r,false)].map stE))])) (by
   show [_,_,_,_,_,some (V.ref (sS (Z E ts) L J).length),_,_,_]=_
   rw[qM]) (by simp[sS,stE]) ?_
  have gl:Gath ts P wt (L.length+wt r) L [(r,false)]:=⟨g.p1,g.cl,fun x hx=>by
    simp at hx;subst hx;exact hp r List.mem_cons_self,fun pre e post hs=>by
    rcases pre with _ | ⟨p,pre⟩
    ·simp at hs
    ·simp at hs,by simp⟩
  refine w8 ok h1 (by tm_at "l") hP (R:=fun e=>e∈L∨e=r) gl (fun e he=>?_) fun L' a6 a7 a8 g' hL'=>?_
  ·rcases he with h | rfl
   ·exact .inl h
   ·exact .inr ⟨false,by simp⟩
  have hf:=g'.few
  simp only[List.map_nil,List.sum_nil] at hf
  repeat tm_at "g"
  refine ih L' (J++[some (.list [])]) _ _ _ _ _ (fun x hx=>hp x (List.mem_cons_of_mem _ hx)) (by tm_at "l") ⟨g'.p1,g'.cl,g'.p2,g'.op,by simp only[List.map_nil,List.sum_nil];tm_at "l"⟩ fun e he=>?_
  rcases hr e he with h | h
  ·exact .inl (hL' e (.inl h))
  ·rcases List.mem_cons.mp h with rfl | h
   ·exact .inl (hL' e (.inr rfl))
   ·exact .inr h
structure PL (ts:List T) (P:Int→Prop) (rs L:List Int):Prop where
 p1:∀ e∈L,P e
 cl:∀ pre e post,L=pre++e::post→∀ t,At ts e t→∀ a∈t.args,a∈pre
 all:∀ e∈rs,e∈L
theorem sE(ok:(cx w h0 mg mb).Ok)(h1:ts.length≤1000){P:Int→Prop}{wt:Int→Nat}(hP:Cls ts P wt){rs:List Int}(hr:∀ r∈rs,P r)(hB:(rs.map wt).sum≤100000)
  (hQ:∀ L,L.length≤(rs.map wt).sum→PL ts P rs L→Q (.fl (iL L)) (Z E ts)):CallT (cx w h0 mg mb) (.ref 439) (d+1) [.inst 762 1,.tup (iL rs)] (Z E ts) Q:=by
 refine (ro (k:=7) ok (xx ok) (y4 ok) rfl ?_).call
 delta pD
 repeat tm_at "g"
 refine aZ ?_
 refine we (ρ':=[some (.inst 762 1),some (.tup (iL rs)),some (.ref (Z E ts).length),some (.ref ((Z E ts).length+1)),none,none,none,none,none]) (σ':=sS (Z E ts) [] []) (by simp[setAll,List.replicate]) (by simp[sS,dnL]) ?_
 refine wW ok h1 hB hP (rs0:=rs) (fun L J a4 a5 a6 a7 a8 g hall=>?_) rs [] [] none none none none none hr (by simp) ⟨by simp,by simp,by simp,fun pre e post hs=>by simp at hs,by simp⟩ fun e he=>.inr he
 repeat tm_at "g"
 refine cutP.same (σ:=Z E ts) (junk:=some (.list (iL L))::some (.dict (dnL L))::J) (v0:=.fl (iL L)) (.inr ⟨(Z E ts).length,iL L,rfl,Nat.le_refl _,by simp,li _ _,rfl⟩) ?_
 have:=g.few
 exact hQ L (by simpa using this) ⟨g.p1,g.cl,hall⟩
theorem jM(ok:(cx w h0 mg mb).Ok)(h1:ts.length≤1000){P:Int→Prop}{wt:Int→Nat}(hP:Cls ts P wt){r:Int}(hr:P r)(hB:wt r≤100000)
  (hQ:∀ L,L.length≤wt r→PL ts P [r] L→Q (.fl (iL L)) (Z E ts)):CallT (cx w h0 mg mb) (.ref 432) (d+2) [.inst 762 1,.int r] (Z E ts) Q:=by
 refine (aA (k:=0) ok (pS ok) (sV ok) rfl ?_).call
 delta o5
 repeat tm_at "g"
 refine sE (rs:=[r]) ok h1 hP (by simpa using hr) (by simpa using hB) fun L hl p=>?_
 repeat tm_at "g"
 exact hQ L (by simpa using hl) p
end
section
set_option maxHeartbeats 1000000
noncomputable def Grow(ts:List T)(k:Nat)(ts':List T):Prop:=ts <+: ts'∧ts'.Nodup∧ts'.length≤ts.length+k
theorem At.mono{ts ts':List T}{i:Int}{t:T}(h:At ts i t)(p:ts <+: ts'):At ts' i t:=by
 obtain⟨n,rfl,e⟩:=h
 obtain⟨r,rfl⟩:=p
 exact⟨n,rfl,by rw[List.getElem?_append_left (List.getElem?_eq_some_iff.mp e).1];exact e⟩
theorem At.inj{ts:List T}(hn:ts.Nodup){i j:Int}{t:T}(h:At ts i t)(h':At ts j t):i=j:=by
 obtain⟨n,rfl,e⟩:=h
 obtain⟨m,rfl,f⟩:=h'
 obtain⟨a,e⟩:=List.getElem?_eq_some_iff.mp e
 obtain⟨b,f⟩:=List.getElem?_eq_some_iff.mp f
 have pw:=List.pairwise_iff_getElem.mp hn
 rcases Nat.lt_trichotomy n m with h | h | h
 ·exact absurd (e.trans f.symm) (pw n m a b h)
 ·rw[h]
 ·exact absurd (f.trans e.symm) (pw m n b a h)
theorem bB{ts:List T}(hn:ts.Nodup)(t:T):Grow ts 1 (mkT ts t).2∧At (mkT ts t).2 (mkT ts t).1 t:=by
 unfold mkT
 cases h:ts.findIdx? fun u=>decide (u=t) with
 | some i =>
  obtain⟨hi,e,_⟩:=List.findIdx?_eq_some_iff_getElem.mp h
  refine⟨⟨List.prefix_rfl,hn,by simp⟩,i,rfl,?_⟩
  dsimp only
  rw[List.getElem?_eq_getElem hi,of_decide_eq_true e]
 | none =>
  have hm:t∉ts:=fun hm=>by
   have:=List.findIdx?_eq_none_iff.mp h t hm
   simp at this
  refine⟨⟨List.prefix_append _ _,?_,by simp⟩,ts.length,rfl,by simp⟩
  rw[List.nodup_append]
  exact⟨hn,by simp,fun a ha b hb=>by simp at hb;subst hb;intro e;subst e;exact hm ha⟩
theorem Grow.refl{ts:List T}(hn:ts.Nodup){k:Nat}:Grow ts k ts:=⟨List.prefix_rfl,hn,by tm_at "l"⟩
theorem Grow.trans{a b c:List T}{m n k:Nat}(h:Grow a m b)(h':Grow b n c)(e:m+n≤k):Grow a k c:=⟨h.1.trans h'.1,h'.2.1,by have:=h.2.2;have:=h'.2.2;tm_at "l"⟩
theorem Grow.le{a b:List T}{m k:Nat}(h:Grow a m b)(e:m≤k):Grow a k b:=⟨h.1,h.2.1,by have:=h.2.2;tm_at "l"⟩
variable{w:World}{h0:Heap}{mg mb:Str→Option Value}{E:En}{wd:Nat}{ts:List T}{d:Nat}{Q:V→St→Prop}{i j s:Int}{e f:T}{σ:St}
theorem cQ(ok:(cx w h0 mg mb).Ok)(hw4:wd≤4096)(hQ:Q (.int (2 ^ wd - 1)) σ):CallT (cx w h0 mg mb) (.ref 142) (d+1) [.int wd] σ Q:=by
 refine (aA (k:=0) ok (yt ok) (xV ok) rfl ?_).call
 delta oY
 repeat tm_at "g"
 refine eg (by tm_at "l") (by tm_at "l") (by decide) ?_
 repeat tm_at "g"
 have e:(1:Int) * 2 ^ ((wd:Int)).toNat=2 ^ wd:=by simp
 rw[e];exact hQ
theorem mD(ok:(cx w h0 mg mb).Ok)(h1:ts.length≤1000)(h:At ts i e)(hQ:Q (.bool (e.op=="bvnum")) (Z E ts)):CallT (cx w h0 mg mb) (.ref 928) (d+2) [.inst 1080 13,.int i] (Z E ts) Q:=by
 refine (aA (k:=0) ok (wv ok) (uk ok) rfl ?_).call
 delta mz
 repeat tm_at "g"
 refine dp ok h1 h ?_
 repeat tm_at "g"
 exact hQ
theorem vR(ok:(cx w h0 mg mb).Ok)(h1:ts.length≤1000)(h:At ts i e)(hQ:Q (if (e.op=="bvnum")=true then e.data.v else .int j) (Z E ts)):CallT (cx w h0 mg mb) (.ref 935) (d+3) [.inst 1080 13,.int i,.int j] (Z E ts) Q:=by
 refine (aA (k:=0) ok (qD ok) (wP ok) rfl ?_).call
 delta jK
 repeat tm_at "g"
 refine mD ok h1 h ?_
 repeat tm_at "g"
 refine cE (fun hb=>?_) (fun hb=>?_)
 ·rw[if_pos hb] at hQ
  repeat tm_at "g"
  refine dP ok h1 h ?_
  repeat tm_at "g"
  exact hQ
 ·rw[if_neg (by rw[hb];decide)] at hQ
  repeat tm_at "g"
  exact hQ
theorem uW(ok:(cx w h0 mg mb).Ok)(eo:E.Ok)(h1:ts.length≤1000)(hn:ts.Nodup)(h:At ts i e)(hs:Wd E e.sort wd)(hw:1≤wd)(hw4:wd≤4096){v:Int}{m:Nat}(hv:v.fmod (2 ^ wd)=m)(hQ:∀ r ts',Grow ts 1 ts'→At ts' r ⟨"bvnum",[],e.sort,.i m⟩→Q (.int r) (Z E ts')) :
  CallT (cx w h0 mg mb) (.ref 942) (d+3) [.inst 1080 13,.int v,.int i] (Z E ts) Q:=by
 refine (aA (k:=0) ok (yJ ok) (wE ok) rfl ?_).call
 delta iY
 repeat tm_at "g"
 refine bX ok h1 h hs ?_
 repeat tm_at "g"
 refine gu ok eo h1 hs hw hw4 ?_
 rw[hv]
 repeat tm_at "g"
 obtain⟨g,a⟩:=bB hn ⟨"bvnum",[],e.sort,.i m⟩
 exact hQ _ _ g a
noncomputable def fa(wd a b:Nat):Nat:=(a+b) % 2 ^ wd
noncomputable def fs(wd a b:Nat):Nat:=(a+(2 ^ wd - b)) % 2 ^ wd
theorem dJ{wd a b:Nat}:fa wd a b < 2 ^ wd:=Nat.mod_lt _ (Nat.pow_pos (by decide))
theorem pK{wd a b:Nat}:fs wd a b < 2 ^ wd:=Nat.mod_lt _ (Nat.pow_pos (by decide))
noncomputable def f1(wd:Nat)(n:Bool)(a:Nat):Nat:=if n then (2 ^ wd - a) % 2 ^ wd else 2 ^ wd - 1 - a
theorem cz{n:Bool}{wd a:Nat}(ha:a < 2 ^ wd):f1 wd n a < 2 ^ wd:=by
 have hp0:0 < 2 ^ wd:=Nat.pow_pos (by decide)
 unfold f1
 split
 ·exact Nat.mod_lt _ hp0
 ·tm_at "l"
theorem all2{P:Nat→Nat→Nat→Bool}(h:((List.range 4).all fun wd=>(List.range (2 ^ wd)).all fun a=>(List.range (2 ^ wd)).all fun b=>P wd a b)=true){wd a b:Nat}(hw:wd≤3)(ha:a < 2 ^ wd)(hb:b < 2 ^ wd):P wd a b=true :=
 List.all_eq_true.mp (List.all_eq_true.mp (List.all_eq_true.mp h wd (List.mem_range.mpr (by tm_at "l"))) a (List.mem_range.mpr ha)) b (List.mem_range.mpr hb)
noncomputable def unS(n:Bool):Str:=if n then "bvneg" else "bvnot"
theorem gy(ok:(cx w h0 mg mb).Ok)(hw:wd≤3){a:Nat}(ha:a < 2 ^ wd){n:Bool}(hQ:Q (.int (f1 wd n a:Nat)) σ):CallT (cx w h0 mg mb) (.ref 156) (d+2) [.str (unS n),.int a,.int wd] σ Q:=by
 refine (aA (k:=0) ok (wm ok) (um ok) rfl ?_).call
 delta o7
 have key:=all2 (P:=fun wd a _=>decide ((2:Int) ^ wd - 1 - a=(f1 wd false a:Nat))&&decide (Builtin.bitAnd (-(a:Int)) (2 ^ wd - 1)=(f1 wd true a:Nat))) (by decide +kernel) hw ha ha
 simp only[Bool.and_eq_true,decide_eq_true_eq] at key
 cases n with
 | false =>
  repeat tm_at "g"
  refine cQ ok (by tm_at "l") ?_
  repeat tm_at "g"
  rw[key.1]
  exact hQ
 | true =>
  repeat tm_at "g"
  refine cQ ok (by tm_at "l") ?_
  repeat tm_at "g"
  rw[key.2]
  exact hQ
theorem iH(ok:(cx w h0 mg mb).Ok)(hw:wd≤3){a b:Nat}(ha:a < 2 ^ wd)(hb:b < 2 ^ wd)(sb:Bool)(hQ:Q (.int ((if sb then fs wd a b else fa wd a b:Nat):Int)) σ):CallT (cx w h0 mg mb) (.ref 184) (d+3) [.str (if sb then "bvsub" else "bvadd"),.int a,.int b,.int wd] σ Q:=by
 refine (aA (k:=0) ok (rg ok) (rM ok) rfl ?_).call
 delta n5
 have key:=all2 (P:=fun wd a b=>decide (Builtin.bitAnd ((a:Int)+b) (2 ^ wd - 1)=(fa wd a b:Nat))&&decide (Builtin.bitAnd ((a:Int) - b) (2 ^ wd - 1)=(fs wd a b:Nat))) (by decide +kernel) hw ha hb
 simp only[Bool.and_eq_true,decide_eq_true_eq] at key
 cases sb with
 | false =>
  repeat tm_at "g"
  refine cQ ok (by tm_at "l") ?_
  repeat tm_at "g"
  rw[key.1]
  exact hQ
 | true =>
  repeat tm_at "g"
  refine cQ ok (by tm_at "l") ?_
  repeat tm_at "g"
  rw[key.2]
  exact hQ
end
section
set_option maxHeartbeats 1000000
set_option genInjectivity false in
inductive Tm where
 | leaf (op:Str) (s:Int) (d:D)
 | un (op:Str) (s:Int) (d:D) (t:Tm)
 | bin (op:Str) (s:Int) (t u:Tm)
inductive Is (ts:List T):Int→Tm→Prop
 | leaf {i:Int} {op:Str} {s:Int} {d:D} (a:At ts i ⟨op,[],s,d⟩):Is ts i (.leaf op s d)
 | un {i j:Int} {op:Str} {s:Int} {d:D} {t:Tm} (h:Is ts j t) (a:At ts i ⟨op,[j],s,d⟩):Is ts i (.un op s d t)
 | bin {i j k:Int} {op:Str} {s:Int} {t u:Tm} (h:Is ts j t) (h':Is ts k u) (a:At ts i ⟨op,[j,k],s,.i 0⟩):Is ts i (.bin op s t u)
noncomputable def Tm.op:Tm→Str
 | .leaf op _ _=>op
 | .un op _ _ _=>op
 | .bin op _ _ _=>op
noncomputable def Tm.sort:Tm→Int
 | .leaf _ s _=>s
 | .un _ s _ _=>s
 | .bin _ s _ _=>s
noncomputable def Tm.data:Tm→D
 | .leaf _ _ d=>d
 | .un _ _ d _=>d
 | .bin _ _ _ _=>.i 0
noncomputable def Tm.sz:Tm→Nat
 | .leaf _ _ _=>2
 | .un _ _ _ t=>t.sz+2
 | .bin _ _ t u=>t.sz+u.sz+2
section
variable{ts ts':List T}{i j:Int}{t u:Tm}
theorem Is.mono(h:Is ts i t)(p:ts <+: ts'):Is ts' i t:=by
 induction h with
 | leaf a=>exact .leaf (a.mono p)
 | un _ a ih=>exact .un ih (a.mono p)
 | bin _ _ a ih1 ih2=>exact .bin ih1 ih2 (a.mono p)
theorem Is.inj(hn:ts.Nodup)(h:Is ts i t)(h':Is ts j t):i=j:=by
 induction h generalizing j with
 | leaf a=>cases h' with | leaf b=>exact At.inj hn a b
 | un _ a ih=>cases h' with | un h b=>have e:=ih h;subst e;exact At.inj hn a b
 | bin _ _ a ih1 ih2=>cases h' with | bin h k b=>have e:=ih1 h;subst e;have e:=ih2 k;subst e;exact At.inj hn a b
theorem Is.uniq(h:Is ts i t)(h':Is ts i u):t=u:=by
 induction h generalizing u with
 | leaf a =>
  cases h' with
  | leaf b=>cases At.eq_ a b;rfl
  | un _ b=>cases At.eq_ a b
  | bin _ _ b=>cases At.eq_ a b
 | un _ a ih =>
  cases h' with
  | leaf b=>cases At.eq_ a b
  | un h b=>cases At.eq_ a b;rw[ih h]
  | bin _ _ b=>cases At.eq_ a b
 | bin _ _ a ih1 ih2 =>
  cases h' with
  | leaf b=>cases At.eq_ a b
  | un h b=>cases At.eq_ a b
  | bin h k b=>cases At.eq_ a b;rw[ih1 h,ih2 k]
inductive IsE (ts:List T) (i:Int) (t:Tm):Prop
 | mk (e:T) (a:At ts i e) (op:e.op=t.op) (s:e.sort=t.sort) (d:e.data=t.data):IsE ts i t
theorem Is.at_(h:Is ts i t):IsE ts i t:=by
 cases h with
 | leaf a=>exact⟨_,a,rfl,rfl,rfl⟩
 | un _ a=>exact⟨_,a,rfl,rfl,rfl⟩
 | bin _ _ a=>exact⟨_,a,rfl,rfl,rfl⟩
end
inductive O1 where
 | not
 | neg
 | add (k:Nat)
 deriving DecidableEq
inductive Bt where
 | num (v:Nat)
 | ch (l:List O1) (y:Bool)
 deriving DecidableEq
noncomputable def numT(v:Nat):Tm:=.leaf "bvnum" 3 (.i v)
noncomputable def varT(y:Bool):Tm:=.leaf "app" 3 (.i (if y then 1 else 0))
noncomputable def O1.tm:O1→Tm→Tm
 | .not,t=>.un "bvnot" 3 (.i 0) t
 | .neg,t=>.un "bvneg" 3 (.i 0) t
 | .add k,t=>.bin "bvadd" 3 (numT k) t
noncomputable def chT:List O1→Bool→Tm
 | [],y=>varT y
 | o::l,y=>o.tm (chT l y)
noncomputable def Bt.tm:Bt→Tm
 | .num v=>numT v
 | .ch l y=>chT l y
noncomputable def O1.ev(wd:Nat):O1→Nat→Nat
 | .not,a=>f1 wd false a
 | .neg,a=>f1 wd true a
 | .add k,a=>fa wd k a
noncomputable def chV(wd:Nat):List O1→Nat→Nat
 | [],x=>x
 | o::l,x=>o.ev wd (chV wd l x)
noncomputable def Bt.ev(wd x y:Nat):Bt→Nat
 | .num v=>v
 | .ch l b=>chV wd l (if b then y else x)
noncomputable def O1.fit(wd:Nat):O1→List O1→Bool
 | .not,.not::_=>false
 | .neg,.neg::_=>false
 | .add _,.add _::_=>false
 | .add k,_=>decide (0 < k∧k < 2 ^ wd)
 | _,_=>true
noncomputable def nfl(wd:Nat):List O1→Bool
 | []=>true
 | o::l=>o.fit wd l&&nfl wd l
noncomputable def Bt.nf(wd:Nat):Bt→Bool
 | .num v=>decide (v < 2 ^ wd)
 | .ch l _=>nfl wd l
noncomputable def Bt.len:Bt→Nat
 | .num _=>0
 | .ch l _=>l.length
noncomputable def one1(n:Bool):O1:=if n then .neg else .not
noncomputable def oneB(wd:Nat)(n:Bool):Bt→Bt
 | .num v=>.num (f1 wd n v)
 | .ch (o::l) y=>if o=one1 n then .ch l y else .ch (one1 n::o::l) y
 | .ch [] y=>.ch [one1 n] y
noncomputable def mixB(k:Nat)(l:List O1)(y:Bool):Bt:=if k=0 then .ch l y else .ch (.add k::l) y
noncomputable def addB(wd h:Nat):Bt→Bt
 | .num v=>.num (fa wd h v)
 | .ch (.add k::l) y=>mixB (fa wd h k) l y
 | .ch l y=>mixB h l y
section
variable{wd x y:Nat}{b:Bt}
theorem O1.ev_lt{o:O1}{a:Nat}(ha:a < 2 ^ wd):o.ev wd a < 2 ^ wd:=by
 cases o with
 | not=>exact cz ha
 | neg=>exact cz ha
 | add k=>exact dJ
theorem dz{l:List O1}{a:Nat}(ha:a < 2 ^ wd):chV wd l a < 2 ^ wd:=by
 cases l with
 | nil=>exact ha
 | cons o l=>exact O1.ev_lt (dz ha)
theorem Bt.ev_lt(hb:b.nf wd=true)(hx:x < 2 ^ wd)(hy:y < 2 ^ wd):b.ev wd x y < 2 ^ wd:=by
 cases b with
 | num v=>exact of_decide_eq_true hb
 | ch l c=>exact dz (by cases c<;>assumption)
theorem ey(hw:wd≤3)(n:Bool){a:Nat}(ha:a < 2 ^ wd):f1 wd n (f1 wd n a)=a:=by
 have:=all2 (P:=fun wd a _=>decide (f1 wd true (f1 wd true a)=a)&&decide (f1 wd false (f1 wd false a)=a)) (by decide +kernel) hw ha ha
 simp only[Bool.and_eq_true,decide_eq_true_eq] at this
 cases n
 ·exact this.2
 ·exact this.1
theorem wn(hk:k < 2 ^ wd)(a b:Nat):fa wd (fa wd a k) b=fa wd a (fa wd k b):=by
 unfold fa;simp[Nat.add_assoc]
theorem mM(hw:wd≤3)(n:Bool)(hb:b.nf wd=true)(hx:x < 2 ^ wd)(hy:y < 2 ^ wd):(oneB wd n b).ev wd x y=f1 wd n (b.ev wd x y):=by
 have o1:∀ a,(one1 n).ev wd a=f1 wd n a:=fun a=>by cases n<;>rfl
 cases b with
 | num v=>rfl
 | ch l c =>
  have hc:(if c then y else x) < 2 ^ wd:=by cases c<;>assumption
  cases l with
  | nil=>exact o1 _
  | cons o l =>
   show Bt.ev wd x y (if o=one1 n then .ch l c else .ch (one1 n::o::l) c)=_
   split
   ·rename_i e
    subst e
    show chV wd l _=f1 wd n ((one1 n).ev wd (chV wd l _))
    rw[o1,ey hw n (dz hc)]
   ·exact o1 _
theorem fM{k:Nat}{l:List O1}{c:Bool}(hx:x < 2 ^ wd)(hy:y < 2 ^ wd):(mixB k l c).ev wd x y=fa wd k (chV wd l (if c then y else x)):=by
 have hc:(if c then y else x) < 2 ^ wd:=by cases c<;>assumption
 unfold mixB
 split
 ·rename_i e;subst e
  show _=(0+_) % _
  rw[Nat.zero_add,Nat.mod_eq_of_lt (dz hc)];rfl
 ·rfl
theorem oL{h:Nat}(hb:b.nf wd=true)(hx:x < 2 ^ wd)(hy:y < 2 ^ wd):(addB wd h b).ev wd x y=fa wd h (b.ev wd x y):=by
 cases b with
 | num v=>rfl
 | ch l c =>
  cases l with
  | nil=>exact fM hx hy
  | cons o l =>
   cases o with
   | add k =>
    simp only[Bt.nf,nfl,Bool.and_eq_true] at hb
    have hk:k < 2 ^ wd:=by
     have:=hb.1
     cases l with
     | nil=>exact (of_decide_eq_true this).2
     | cons o l=>cases o<;>first | exact (of_decide_eq_true this).2 | cases this
    show (mixB (fa wd h k) l c).ev wd x y=fa wd h (fa wd k (chV wd l _))
    rw[fM hx hy,wn hk]
   | not=>exact fM hx hy
   | neg=>exact fM hx hy
theorem O1.fit_lt{k:Nat}{l:List O1}(h:(O1.add k).fit wd l=true):0 < k∧k < 2 ^ wd:=by
 cases l with
 | nil=>exact of_decide_eq_true h
 | cons o l=>cases o<;>first | exact of_decide_eq_true h | cases h
theorem ie{n:Bool}(hb:b.nf wd=true):(oneB wd n b).nf wd=true∧(oneB wd n b).len≤b.len+1:=by
 cases b with
 | num v=>exact⟨decide_eq_true (cz (of_decide_eq_true hb)),Nat.zero_le _⟩
 | ch l c =>
  cases l with
  | nil=>exact⟨by cases n<;>rfl,Nat.le_refl _⟩
  | cons o l =>
   have hb:(o.fit wd l&&nfl wd l)=true:=hb
   show (if o=one1 n then Bt.ch l c else .ch (one1 n::o::l) c).nf wd=true∧(if o=one1 n then Bt.ch l c else .ch (one1 n::o::l) c).len≤_
   split
   ·exact⟨(Bool.and_eq_true_iff.mp hb).2,Nat.le_of_succ_le (Nat.le_succ_of_le (Nat.le_refl _))⟩
   ·rename_i hne
    refine⟨?_,Nat.le_refl _⟩
    show ((one1 n).fit wd (o::l)&&(o.fit wd l&&nfl wd l))=true
    rw[hb]
    cases n<;>cases o<;>first | rfl | exact absurd rfl hne
theorem eB{k:Nat}{l:List O1}{c:Bool}(hk:k < 2 ^ wd)(hl:nfl wd l=true)(ha:∀ m r,l≠.add m::r):(mixB k l c).nf wd=true∧(mixB k l c).len≤l.length+1:=by
 unfold mixB
 split
 ·exact⟨hl,Nat.le_succ _⟩
 ·refine⟨?_,Nat.le_refl _⟩
  show ((O1.add k).fit wd l&&nfl wd l)=true
  rw[hl,Bool.and_true]
  have hd:decide (0 < k∧k < 2 ^ wd)=true:=decide_eq_true ⟨by tm_at "l",hk⟩
  cases l with
  | nil=>exact hd
  | cons o r=>cases o<;>first | exact hd | exact absurd rfl (ha _ r)
theorem iT{h:Nat}(hh:h < 2 ^ wd)(hb:b.nf wd=true):(addB wd h b).nf wd=true∧(addB wd h b).len≤b.len+1:=by
 cases b with
 | num v=>exact⟨decide_eq_true dJ,Nat.zero_le _⟩
 | ch l c =>
  cases l with
  | nil=>exact eB hh rfl (fun _ _ e=>nomatch e)
  | cons o l =>
   cases o with
   | add k =>
    simp only[Bt.nf,nfl,Bool.and_eq_true] at hb
    have r:=eB (c:=c) (l:=l) (dJ (wd:=wd) (a:=h) (b:=k)) hb.2 fun m r e=>by subst e;exact absurd hb.1 (by show ¬ false=true;decide)
    exact⟨r.1,Nat.le_trans r.2 (Nat.le_succ _)⟩
   | not=>exact eB hh hb (fun _ _ e=>nomatch e)
   | neg=>exact eB hh hb (fun _ _ e=>nomatch e)
theorem f5{v v':Nat}(h:numT v=numT v'):v=v':=by
 injection h with _ _ e
 injection e with e
 exact Int.ofNat.inj e
theorem nM{c c':Bool}(h:varT c=varT c'):c=c':=by
 injection h with _ _ e
 cases c<;>cases c'<;>first | rfl | exact absurd e (by decide)
theorem fq:¬ ("bvnot":Str)="bvneg":=by decide +kernel
theorem iw:¬ ("bvnum":Str)="app":=by decide +kernel
theorem cH:∀ {l r:List O1} {c c':Bool},chT l c=chT r c'→l=r∧c=c'
 | [],[],c,c',h=>⟨rfl,nM h⟩
 | [],o::_,_,_,h=>by cases o<;>exact Tm.noConfusion h
 | o::_,[],_,_,h=>by cases o<;>exact Tm.noConfusion h
 | o::l,p::r,c,c',h=>by
  have h:o.tm (chT l c)=p.tm (chT r c'):=h
  cases o<;>cases p<;>first | exact Tm.noConfusion h | skip
  ·injection h with _ _ _ e
   exact⟨congrArg _ (cH e).1,(cH e).2⟩
  ·injection h with e
   exact absurd e fq
  ·injection h with e
   exact absurd e.symm fq
  ·injection h with _ _ _ e
   exact⟨congrArg _ (cH e).1,(cH e).2⟩
  ·injection h with _ _ e1 e2
   exact⟨by rw[f5 e1,(cH e2).1],(cH e2).2⟩
theorem Bt.tm_inj{b b':Bt}(h:b.tm=b'.tm):b=b':=by
 cases b with
 | num v =>
  cases b' with
  | num v'=>rw[f5 h]
  | ch l c =>
   cases l with
   | nil=>injection (show numT v=varT c from h) with e;exact absurd e iw
   | cons o l=>cases o<;>exact Tm.noConfusion h
 | ch l c =>
  cases b' with
  | num v' =>
   cases l with
   | nil=>injection (show varT c=numT v' from h) with e;exact absurd e.symm iw
   | cons o l=>cases o<;>exact Tm.noConfusion h
  | ch r c'=>rw[(cH h).1,(cH h).2]
structure Stand (E:En) (wd:Nat):Prop where
 eo:E.Ok
 hs:Wd E 3 wd
 lo:1≤wd
 hi:wd≤3
end
end
section
set_option maxHeartbeats 1000000
noncomputable def Bt.isN:Bt→Bool
 | .num _=>true
 | _=>false
noncomputable def Bt.valOr(b:Bt)(j:Int):Int:=match b with
 | .num v=>v
 | _=>j
theorem d0(b:Bt):b.tm.sort=3:=by
 cases b with
 | num v=>rfl
 | ch l c=>cases l with
  | nil=>rfl
  | cons o l=>cases o<;>rfl
theorem fU(b:Bt):(b.tm.op==("bvnum":Str))=b.isN:=by
 cases b with
 | num v=>kernel_rfl
 | ch l c=>cases l with
  | nil=>show (("app":Str)=="bvnum")=false;kernel_rfl
  | cons o l=>cases o with
   | not=>show (("bvnot":Str)=="bvnum")=false;kernel_rfl
   | neg=>show (("bvneg":Str)=="bvnum")=false;kernel_rfl
   | add k=>show (("bvadd":Str)=="bvnum")=false;kernel_rfl
theorem da{wd v:Nat}(h:(Bt.num v).nf wd=true):v < 2 ^ wd:=of_decide_eq_true h
theorem iK{m wd:Nat}(h:m < 2 ^ wd):((m:Nat):Int).fmod (2 ^ wd)=m:=by
 have hp:((2 ^ wd:Nat):Int)=2 ^ wd:=by simp
 rw[Int.fmod_eq_emod_of_nonneg _ (by tm_at "l"),Int.emod_eq_of_lt (by tm_at "l") (by tm_at "l")]
variable{w:World}{h0:Heap}{mg mb:Str→Option Value}{E:En}{wd:Nat}{ts:List T}{d:Nat}{Q:V→St→Prop}{i j s:Int}{e f:T}{σ:St}{t u:Tm}{b p:Bt}{v k:Nat}{l:List O1}{y:Bool}
theorem uD(hn:ts.Nodup)(h:Is ts i b.tm)(h':Is ts j p.tm):(i==j)=decide (b=p):=by
 by_cases e:b=p
 ·subst e;rw[Is.inj hn h h'];simp
 ·have:i≠j:=fun x=>e (by subst x;exact Bt.tm_inj (h.uniq h'))
  simp[e,this]
theorem aX(ok:(cx w h0 mg mb).Ok)(h1:ts.length≤1000)(h:Is ts i b.tm)(hQ:Q (.bool b.isN) (Z E ts)):CallT (cx w h0 mg mb) (.ref 928) (d+2) [.inst 1080 13,.int i] (Z E ts) Q:=by
 obtain⟨e,a,ho,_,_⟩:=h.at_
 exact mD ok h1 a (by rw[ho,fU];exact hQ)
theorem cy(ok:(cx w h0 mg mb).Ok)(h1:ts.length≤1000)(h:Is ts i t)(hQ:Q (.str t.op) (Z E ts)):CallT (cx w h0 mg mb) (.ref 334) (d+1) [.inst 762 1,.int i] (Z E ts) Q:=by
 obtain⟨e,a,ho,_,_⟩:=h.at_
 exact dp ok h1 a (by rw[ho];exact hQ)
theorem bo(ok:(cx w h0 mg mb).Ok)(S:Stand E wd)(h1:ts.length≤1000)(h:Is ts i b.tm)(hQ:Q (.int wd) (Z E ts)):CallT (cx w h0 mg mb) (.ref 362) (d+1) [.inst 762 1,.int i] (Z E ts) Q:=by
 obtain⟨e,a,_,hs,_⟩:=h.at_
 exact bX ok h1 a (by rw[hs,d0];exact S.hs) hQ
theorem pZ(ok:(cx w h0 mg mb).Ok)(S:Stand E wd)(h1:ts.length≤1000)(hn:ts.Nodup)(h:Is ts i b.tm){z:Int}{m:Nat}(hz:z.fmod (2 ^ wd)=m)(hQ:∀ r ts',Grow ts 1 ts'→Is ts' r (Bt.num m).tm→Q (.int r) (Z E ts')) :
  CallT (cx w h0 mg mb) (.ref 942) (d+3) [.inst 1080 13,.int z,.int i] (Z E ts) Q:=by
 obtain⟨e,a,_,hs,_⟩:=h.at_
 rw[d0] at hs
 refine uW ok S.eo h1 hn a (by rw[hs];exact S.hs) S.lo (Nat.le_trans S.hi (by decide)) hz fun r ts' g hr=>hQ r ts' g (.leaf ?_)
 rw[hs] at hr;exact hr
theorem dK(ok:(cx w h0 mg mb).Ok)(S:Stand E wd)(h1:ts.length≤1000)(hn:ts.Nodup)(h:Is ts i b.tm){m:Nat}(hm:m < 2 ^ wd)(hQ:∀ r ts',Grow ts 1 ts'→Is ts' r (Bt.num m).tm→Q (.int r) (Z E ts')) :
  CallT (cx w h0 mg mb) (.ref 942) (d+3) [.inst 1080 13,.int (m:Int),.int i] (Z E ts) Q:=pZ ok S h1 hn h (iK hm) hQ
theorem bz(ok:(cx w h0 mg mb).Ok)(h1:ts.length≤1000)(h:Is ts i b.tm)(hQ:Q (.int (b.valOr j)) (Z E ts)):CallT (cx w h0 mg mb) (.ref 935) (d+3) [.inst 1080 13,.int i,.int j] (Z E ts) Q:=by
 obtain⟨e,a,ho,_,hd⟩:=h.at_
 refine vR ok h1 a ?_
 rw[ho,fU,hd]
 cases b with
 | num v=>exact hQ
 | ch l c=>exact hQ
theorem bt(ok:(cx w h0 mg mb).Ok)(h1:ts.length≤1000)(h:Is ts i (Bt.num v).tm)(hQ:Q (.int v) (Z E ts)):CallT (cx w h0 mg mb) (.ref 355) (d+1) [.inst 762 1,.int i] (Z E ts) Q:=by
 cases h with | leaf a=>exact dP ok h1 a hQ
theorem nh(ok:(cx w h0 mg mb).Ok)(h1:ts.length≤1000){op:Str}{D':D}(h:Is ts i (.un op s D' t))(hQ:∀ j,Is ts j t→Q (.tup [.int j]) (Z E ts)):CallT (cx w h0 mg mb) (.ref 341) (d+1) [.inst 762 1,.int i] (Z E ts) Q:=by
 cases h with | un h a=>exact bK ok h1 a (hQ _ h)
theorem fm(ok:(cx w h0 mg mb).Ok)(S:Stand E wd)(h1:ts.length≤1000)(hn:ts.Nodup)(n:Bool)(h:Is ts i b.tm)(hQ:∀ r ts',Grow ts 1 ts'→Is ts' r ((one1 n).tm b.tm)→Q (.int r) (Z E ts')) :
  CallT (cx w h0 mg mb) (.ref 696) (d+3) [.inst 762 1,.str (unS n),.int i] (Z E ts) Q:=by
 obtain⟨e,a,_,hs,_⟩:=h.at_
 rw[d0] at hs
 refine qn ok h1 (by cases n<;>simp[unS]) a (by rw[hs];exact S.hs) S.lo ?_
 obtain⟨g,c⟩:=bB hn ⟨unS n,[i],e.sort,.i 0⟩
 refine hQ _ _ g ?_
 rw[hs] at c g ⊢
 cases n<;>exact .un (h.mono g.1) c
theorem fS(ok:(cx w h0 mg mb).Ok)(S:Stand E wd)(h1:ts.length≤1000)(hn:ts.Nodup)(h:Is ts i (Bt.num v).tm)(h':Is ts j b.tm)(hQ:∀ r ts',Grow ts 1 ts'→Is ts' r ((O1.add v).tm b.tm)→Q (.int r) (Z E ts')) :
  CallT (cx w h0 mg mb) (.ref 703) (d+3) [.inst 762 1,.str "bvadd",.int i,.int j] (Z E ts) Q:=by
 obtain⟨e,a,_,hs,_⟩:=h.at_
 obtain⟨f,b',_,hs',_⟩:=h'.at_
 rw[d0] at hs hs'
 refine yC ok h1 (by decide +kernel) a (by rw[hs];exact S.hs) S.lo b' (by rw[hs,hs']) ?_
 obtain⟨g,c⟩:=bB hn ⟨"bvadd",[i,j],e.sort,.i 0⟩
 refine hQ _ _ g ?_
 rw[hs] at c g ⊢;exact .bin (h.mono g.1) (h'.mono g.1) c
theorem qp(ok:(cx w h0 mg mb).Ok)(S:Stand E wd)(h1:ts.length≤1000)(hn:ts.Nodup)(n:Bool)(h:Is ts i b.tm)(hb:b.nf wd=true)(hQ:∀ r ts',Grow ts 1 ts'→Is ts' r (oneB wd n b).tm→Q (.int r) (Z E ts')) :
  CallT (cx w h0 mg mb) (.ref 949) (d+5) [.inst 1080 13,.str (unS n),.int i] (Z E ts) Q:=by
 refine (aA (k:=0) ok (tc ok) (qx ok) rfl ?_).call
 delta pt
 repeat tm_at "g"
 refine aX ok h1 h ?_
 cases b with
 | num v =>
  repeat tm_at "g"
  have hv:=da hb
  refine bt ok h1 h ?_
  repeat tm_at "g"
  refine bo ok S h1 h ?_
  repeat tm_at "g"
  refine gy ok S.hi hv ?_
  repeat tm_at "g"
  refine dK ok S h1 hn h (cz hv) fun r ts' g hr=>?_
  repeat tm_at "g"
  exact hQ r ts' g hr
 | ch l y =>
  repeat tm_at "g"
  refine cy ok h1 h ?_
  have fin:(∀ r ts',Grow ts 1 ts'→Is ts' r ((one1 n).tm (Bt.ch l y).tm)→Q (.int r) (Z E ts'))→CallT (cx w h0 mg mb) (.ref 696) (d+4) [.inst 762 1,.str (unS n),.int i] (Z E ts) Q:=fun hq=>fm ok S h1 hn n h hq
  cases l with
  | nil =>
   cases n
   ·repeat tm_at "g"
    exact fin hQ
   ·repeat tm_at "g"
    refine cy ok h1 h ?_
    repeat tm_at "g"
    exact fin hQ
  | cons o l =>
   cases o<;>cases n
   ·repeat tm_at "g"
    refine nh ok h1 h fun j hj=>?_
    repeat tm_at "g"
    refine aL (by decide) (by decide) (v:=.int j) rfl ?_
    repeat tm_at "g"
    exact hQ _ _ (Grow.refl hn) hj
   ·repeat tm_at "g"
    refine cy ok h1 h ?_
    repeat tm_at "g"
    exact fin hQ
   ·repeat tm_at "g"
    exact fin hQ
   ·repeat tm_at "g"
    refine nh ok h1 h fun j hj=>?_
    repeat tm_at "g"
    refine aL (by decide) (by decide) (v:=.int j) rfl ?_
    repeat tm_at "g"
    exact hQ _ _ (Grow.refl hn) hj
   ·repeat tm_at "g"
    exact fin hQ
   ·repeat tm_at "g"
    refine cy ok h1 h ?_
    repeat tm_at "g"
    exact fin hQ
theorem oP(ok:(cx w h0 mg mb).Ok)(S:Stand E wd)(h1:ts.length≤990)(hn:ts.Nodup)(h:Is ts i (Bt.ch l y).tm)(hv:v < 2 ^ wd)(hQ:∀ r ts',Grow ts 2 ts'→Is ts' r (mixB v l y).tm→Q (.int r) (Z E ts')) :
  CallT (cx w h0 mg mb) (.ref 977) (d+6) [.inst 1080 13,.str "bvadd",.int (v:Int),.int i] (Z E ts) Q:=by
 refine (aA (k:=1) ok (qr ok) (yF ok) rfl ?_).call
 delta kd
 have h1':ts.length≤1000:=by tm_at "l"
 have hhi:=S.hi
 repeat tm_at "g"
 refine bo ok S h1' h ?_
 repeat tm_at "g"
 refine cQ ok (by tm_at "l") ?_
 repeat tm_at "g"
 by_cases hz:v=0
 ·refine i_T (by simp[hz]) ?_
  repeat tm_at "g"
  exact hQ _ _ (Grow.refl hn) (by unfold mixB;rw[if_pos hz];exact h)
 refine i_F (by simp;tm_at "l") ?_
 repeat tm_at "g"
 have e0:mixB v l y=.ch (.add v::l) y:=by unfold mixB;rw[if_neg hz]
 rw[e0] at hQ
 refine cE (fun hm=>?_) (fun hm=>?_)
 all_goals
  repeat tm_at "g2"
  refine cE (fun hone=>?_) (fun hone=>?_)
  all_goals
   repeat tm_at "g2"
   refine dK ok S h1' hn h hv fun r ts' g hr=>?_
   have:=g.2.2
   repeat tm_at "g"
   refine fS ok S (by tm_at "l") g.2.1 hr (h.mono g.1) fun r2 ts2 g2 hr2=>?_
   repeat tm_at "g"
   exact hQ _ _ (g.trans g2 (by tm_at "l")) hr2
theorem wk(ok:(cx w h0 mg mb).Ok)(S:Stand E wd)(h1:ts.length≤980)(hn:ts.Nodup)(h:Is ts i (Bt.num v).tm)(hv:v < 2 ^ wd)(h':Is ts j (Bt.ch l y).tm)(hl:nfl wd l=true)(hQ:∀ r ts',Grow ts 3 ts'→Is ts' r (addB wd v (.ch l y)).tm→Q (.int r) (Z E ts')) :
  CallT (cx w h0 mg mb) (.ref 963) (d+7) [.inst 1080 13,.str "bvadd",.int i,.int j] (Z E ts) Q:=by
 refine (aA (k:=1) ok (uc ok) (xC ok) rfl ?_).call
 delta mH
 have h1':ts.length≤1000:=by tm_at "l"
 repeat tm_at "g"
 refine aX ok h1' h' ?_
 repeat tm_at "g"
 refine aX ok h1' h ?_
 repeat tm_at "g"
 refine aX ok h1' h ?_
 repeat tm_at "g"
 refine cy ok h1' h' ?_
 have fin:(addB wd v (.ch l y)=mixB v l y)→CallT (cx w h0 mg mb) (.ref 977) (d+6) [.inst 1080 13,.str "bvadd",.int (v:Int),.int j] (Z E ts) Q:=fun e0=>oP ok S (by tm_at "l") hn h' hv fun r ts' g hr=>hQ r ts' (g.le (by tm_at "l")) (by rw[e0];exact hr)
 cases l with
 | nil =>
  repeat tm_at "g"
  refine bt ok h1' h ?_
  repeat tm_at "g"
  exact fin rfl
 | cons o l =>
  cases o with
  | not =>
   repeat tm_at "g"
   refine bt ok h1' h ?_
   repeat tm_at "g"
   exact fin rfl
  | neg =>
   repeat tm_at "g"
   refine bt ok h1' h ?_
   repeat tm_at "g"
   exact fin rfl
  | add k =>
   clear fin
   have hl:((O1.add k).fit wd l&&nfl wd l)=true:=hl
   have hk:=(O1.fit_lt (Bool.and_eq_true_iff.mp hl).1).2
   have ha:Is ts j (.bin "bvadd" 3 (Bt.num k).tm (Bt.ch l y).tm):=h'
   cases ha with | @bin _ jk jl _ _ _ _ hik hil at_ =>
   repeat tm_at "g"
   refine bK ok h1' at_ ?_
   repeat tm_at "g"
   refine aL (by decide) (by decide) (v:=.int jk) rfl ?_
   repeat tm_at "g"
   refine aX ok h1' hik ?_
   repeat tm_at "g"
   refine bK ok h1' at_ ?_
   repeat tm_at "g"
   refine bt ok h1' h ?_
   repeat tm_at "g"
   refine bt ok h1' hik ?_
   repeat tm_at "g"
   refine bo ok S h1' h ?_
   repeat tm_at "g"
   refine iH ok S.hi hv hk false ?_
   repeat tm_at "g"
   refine dK ok S h1' hn h dJ fun r ts' g hr=>?_
   have:=g.2.2
   repeat tm_at "g"
   refine bt ok (by tm_at "l") hr ?_
   repeat tm_at "g"
   refine oP ok S (by tm_at "l") g.2.1 (hil.mono g.1) dJ fun r2 ts2 g2 hr2=>?_
   repeat tm_at "g"
   exact hQ _ _ (g.trans g2 (by tm_at "l")) hr2
theorem zm(ok:(cx w h0 mg mb).Ok)(S:Stand E wd)(h1:ts.length≤970)(hn:ts.Nodup)(h:Is ts i (Bt.num v).tm)(hv:v < 2 ^ wd)(h':Is ts j b.tm)(hb:b.nf wd=true)(hQ:∀ r ts',Grow ts 3 ts'→Is ts' r (addB wd v b).tm→Q (.int r) (Z E ts')) :
  CallT (cx w h0 mg mb) (.ref 956) (d+9) [.inst 1080 13,.str "bvadd",.int i,.int j] (Z E ts) Q:=by
 refine (aA (k:=0) ok (wI ok) (w6 ok) rfl ?_).call
 delta nz
 have h1':ts.length≤1000:=by tm_at "l"
 repeat tm_at "g"
 refine aX ok h1' h ?_
 repeat tm_at "g"
 refine aX ok h1' h' ?_
 cases b with
 | num k =>
  have hk:=da hb
  repeat tm_at "g"
  refine bt ok h1' h ?_
  repeat tm_at "g"
  refine bt ok h1' h' ?_
  repeat tm_at "g"
  refine bo ok S h1' h ?_
  repeat tm_at "g"
  refine iH ok S.hi hv hk false ?_
  repeat tm_at "g"
  refine dK ok S h1' hn h dJ fun r ts' g hr=>?_
  repeat tm_at "g"
  exact hQ r ts' (g.le (by tm_at "l")) hr
 | ch l y =>
  refine dO ?_
  refine ee ?_
  repeat tm_at "g"
  refine wk ok S (by tm_at "l") hn h hv h' hb fun r ts' g hr=>?_
  repeat tm_at "g"
  exact hQ r ts' g hr
end
section
set_option maxHeartbeats 1000000
noncomputable def sB(wd:Nat):Int:=if wd=1 then 3 else 4
noncomputable def sC(wd:Nat):Int:=if wd=1 then 4 else 5
noncomputable def catT(wd:Nat)(y:Bool):Tm:=.bin "concat" (sC wd) (varT y) (.leaf "bvnum" (sB wd) (.i 0))
noncomputable def extT(wd:Nat)(y:Bool):Tm:=.un "extract" 3 (.p wd 1) (catT wd y)
structure Ext (E:En) (wd:Nat):Prop where
 b:Wd E (sB wd) 1
 c:Wd E (sC wd) (wd+1)
inductive Nm (wd:Nat) (X:Prop):Tm→Tm→Prop
 | leaf {op:Str} (s:Int) (d:D) (h:op="app"∨op="bvnum"):Nm wd X (.leaf op s d) (.leaf op s d)
 | un (n:Bool) {b:Bt} (hb:b.nf wd=true) (hl:b.len≤3):Nm wd X ((one1 n).tm b.tm) (oneB wd n b).tm
 | add {h:Nat} {b:Bt} (hh:h < 2 ^ wd) (hb:b.nf wd=true) (hl:b.len≤3):Nm wd X ((O1.add h).tm b.tm) (addB wd h b).tm
 | cat (y:Bool) (x:X):Nm wd X (catT wd y) (catT wd y)
 | ext (y:Bool) (x:X):Nm wd X (extT wd y) (varT y)
section
variable{wd:Nat}{X:Prop}{t u r:Tm}{b:Bt}
theorem pE{n:Bool}{l:List O1}{y:Bool}(h:(one1 n).fit wd l=true):oneB wd n (.ch l y)=.ch (one1 n::l) y:=by
 cases l with
 | nil=>rfl
 | cons o l =>
  show (if o=one1 n then _ else _)=_
  rw[if_neg]
  intro e
  subst e
  cases n<;>exact absurd h (by show ¬ false=true;decide)
theorem wB{k:Nat}{l:List O1}{y:Bool}(h:(O1.add k).fit wd l=true):addB wd k (.ch l y)=.ch (.add k::l) y:=by
 have h0:=O1.fit_lt h
 have e:mixB k l y=.ch (.add k::l) y:=by unfold mixB;rw[if_neg (by tm_at "l")]
 cases l with
 | nil=>exact e
 | cons o l=>cases o<;>first | exact e | exact absurd h (by show ¬ false=true;decide)
theorem Nm.nf(hb:b.nf wd=true)(hl:b.len≤4):Nm wd X b.tm b.tm:=by
 cases b with
 | num v=>exact .leaf 3 (.i v) (.inr rfl)
 | ch l y =>
  cases l with
  | nil=>exact .leaf 3 _ (.inl rfl)
  | cons o l =>
   have hb:(o.fit wd l&&nfl wd l)=true:=hb
   have hb:=Bool.and_eq_true_iff.mp hb
   have hl':l.length≤3:=Nat.le_of_succ_le_succ hl
   cases o with
   | not=>have:=Nm.un (X:=X) false (b:=.ch l y) hb.2 hl';rw[pE (n:=false) hb.1] at this;exact this
   | neg=>have:=Nm.un (X:=X) true (b:=.ch l y) hb.2 hl';rw[pE (n:=true) hb.1] at this;exact this
   | add k=>have:=Nm.add (X:=X) (h:=k) (b:=.ch l y) (O1.fit_lt hb.1).2 hb.2 hl';rw[wB hb.1] at this;exact this
theorem Nm.any{X':Prop}(h:Nm wd X t u)(x:X→X'):Nm wd X' t u:=by
 cases h with
 | leaf s d h=>exact .leaf s d h
 | un n hb hl=>exact .un n hb hl
 | add hh hb hl=>exact .add hh hb hl
 | cat y h=>exact .cat y (x h)
 | ext y h=>exact .ext y (x h)
theorem Nm.idem(h:Nm wd X t u):Nm wd X u u:=by
 cases h with
 | leaf s d h=>exact .leaf s d h
 | un n hb hl=>have:=ie (n:=n) hb;exact .nf this.1 (by tm_at "l")
 | add hh hb hl=>have:=iT hh hb;exact .nf this.1 (by tm_at "l")
 | cat y h=>exact .cat y h
 | ext y h=>exact .leaf 3 _ (.inl rfl)
theorem r5{n m:Bool}{b b':Bt}(h:(one1 n).tm b.tm=(one1 m).tm b'.tm):n=m∧b=b':=by
 cases n<;>cases m
 ·injection h with _ _ _ e;exact⟨rfl,Bt.tm_inj e⟩
 ·injection h with e;exact absurd e fq
 ·injection h with e;exact absurd e.symm fq
 ·injection h with _ _ _ e;exact⟨rfl,Bt.tm_inj e⟩
theorem k7:¬ ("bvadd":Str)="concat":=by decide +kernel
theorem mJ{n:Bool}{y:Bool}{b:Bt}(h:(one1 n).tm b.tm=extT wd y):False:=by
 cases n<;>(injection h with e;exact absurd e (by decide +kernel))
theorem Nm.fn(h:Nm wd X t u)(h':Nm wd X t r):u=r:=by
 generalize e:t=t' at h'
 cases h with
 | leaf s d h =>
  cases h' with
  | leaf=>cases e;rfl
  | un n=>cases n<;>exact Tm.noConfusion e
  | add=>exact Tm.noConfusion e
  | cat=>exact Tm.noConfusion e
  | ext=>exact Tm.noConfusion e
 | un n hb hl =>
  cases h' with
  | leaf=>cases n<;>exact Tm.noConfusion e
  | un m=>obtain⟨rfl,rfl⟩:=r5 e;rfl
  | add=>cases n<;>exact Tm.noConfusion e
  | cat=>cases n<;>exact Tm.noConfusion e
  | ext=>exact (mJ e).elim
 | add hh hb hl =>
  cases h' with
  | leaf=>exact Tm.noConfusion e
  | un n=>cases n<;>exact Tm.noConfusion e
  | add=>injection e with _ _ e1 e2;rw[f5 e1,Bt.tm_inj e2]
  | cat=>injection e with e;exact absurd e k7
  | ext=>exact Tm.noConfusion e
 | cat y =>
  cases h' with
  | leaf=>exact Tm.noConfusion e
  | un n=>cases n<;>exact Tm.noConfusion e
  | add=>injection e with e;exact absurd e.symm k7
  | cat z=>injection e with _ _ e1 e2;rw[nM e1]
  | ext=>exact Tm.noConfusion e
 | ext y =>
  cases h' with
  | leaf=>exact Tm.noConfusion e
  | un n=>exact (mJ e.symm).elim
  | add=>exact Tm.noConfusion e
  | cat=>exact Tm.noConfusion e
  | ext z=>injection e with _ _ _ e;injection e
theorem ll:∀ (l:List O1) (y:Bool),(chT l y).sz≤4 * l.length+2
 | [],_=>Nat.le_refl _
 | o::l,y=>by
  have ih:=ll l y
  have e:(chT (o::l) y).sz≤(chT l y).sz+4:=by
   cases o with
   | not=>exact Nat.add_le_add_left (by decide) _
   | neg=>exact Nat.add_le_add_left (by decide) _
   | add k=>show 2+(chT l y).sz+2≤_;tm_at "l"
  rw[List.length_cons];tm_at "l"
theorem pI(b:Bt):b.tm.sz≤4 * b.len+2:=by
 cases b with
 | num v=>exact Nat.le_refl _
 | ch l y=>exact ll l y
theorem Nm.sz(h:Nm wd X t u):t.sz≤18:=by
 cases h with
 | leaf=>exact Nat.le_of_ble_eq_true rfl
 | @un n b hb hl=>have:=pI b;cases n<;>(show b.tm.sz+2≤18;tm_at "l")
 | @add h b hh hb hl=>have:=pI b;show 2+b.tm.sz+2≤18;tm_at "l"
 | cat=>exact Nat.le_of_ble_eq_true rfl
 | ext=>exact Nat.le_of_ble_eq_true rfl
theorem Nm.part{ts:List T}{i a:Int}{e:T}(h:Nm wd X t u)(hi:Is ts i t)(he:At ts i e)(ha:a∈e.args):∃ ta,Is ts a ta∧Nm wd X ta ta:=by
 have go1:∀ {op:Str} {s:Int} {d:D} {t:Tm},Is ts i (.un op s d t)→Nm wd X t t→∃ ta,Is ts a ta∧Nm wd X ta ta:=fun h n=>by
  cases h with | un h b=>rw[At.eq_ he b] at ha;simp at ha;subst ha;exact⟨_,h,n⟩
 have go2:∀ {op:Str} {s:Int} {t u:Tm},Is ts i (.bin op s t u)→Nm wd X t t→Nm wd X u u→∃ ta,Is ts a ta∧Nm wd X ta ta:=fun h n m=>by
  cases h with | bin h h' b =>
   rw[At.eq_ he b] at ha;simp at ha
   rcases ha with rfl | rfl
   ·exact⟨_,h,n⟩
   ·exact⟨_,h',m⟩
 cases h with
 | leaf=>cases hi with | leaf b=>rw[At.eq_ he b] at ha;cases ha
 | un n hb hl=>cases n<;>exact go1 hi (.nf hb (by tm_at "l"))
 | add hh hb hl=>exact go2 hi (.leaf _ _ (.inr rfl)) (.nf hb (by tm_at "l"))
 | cat y x=>exact go2 hi (.leaf _ _ (.inl rfl)) (.leaf _ _ (.inr rfl))
 | ext y x=>exact go1 hi (.cat y x)
end
open Classical in
noncomputable def wtT(ts:List T)(e:Int):Nat:=if h:∃ t,Is ts e t then h.choose.sz else 0
theorem ed{ts:List T}{i:Int}{t:Tm}(h:Is ts i t):wtT ts i=t.sz:=by
 have hx:∃ t,Is ts i t:=⟨t,h⟩
 unfold wtT
 rw[dif_pos hx,hx.choose_spec.uniq h]
noncomputable def inN(wd:Nat)(X:Prop)(ts:List T)(e:Int):Prop:=∃ t u,Is ts e t∧Nm wd X t u
theorem qS{wd:Nat}{X:Prop}{ts:List T}:Cls ts (inN wd X ts) (wtT ts):=by
 rintro e ⟨t,u,h,n⟩
 have hw:=ed h
 have hp:=fun {a:Int} {et:T}=>n.part (a:=a) (e:=et) h
 rw[hw]
 cases h with
 | leaf a=>exact⟨_,a,fun _ h=>(nomatch h),Nat.le_refl _,Nat.zero_le _⟩
 | @un _ j op s d t hj a=>exact⟨_,a,fun x hx=>(hp a hx).elim fun ta q=>⟨ta,ta,q⟩,by show ([j].map (wtT ts)).sum+2≤t.sz+2;simp[ed hj],Nat.le_of_ble_eq_true rfl⟩
 | @bin _ j k op s t u hj hk a=>exact⟨_,a,fun x hx=>(hp a hx).elim fun ta q=>⟨ta,ta,q⟩,by show ([j,k].map (wtT ts)).sum+2≤t.sz+u.sz+2;simp[ed hj,ed hk],Nat.le_of_ble_eq_true rfl⟩
end
section
set_option maxHeartbeats 1000000
variable{w:World}{h0:Heap}{mg mb:Str→Option Value}{E:En}{wd w2:Nat}{ts:List T}{d:Nat}{Q:V→St→Prop}{i j s s2:Int}{e f:T}{σ:St}{t u:Tm}{b p:Bt}{v k:Nat}{l:List O1}{y:Bool}
theorem aN(ok:(cx w h0 mg mb).Ok)(h1:ts.length≤1000){o:Str}(h:Is ts i t)(ho:t.op=o)(hQ:Q (.str o) (Z E ts)):CallT (cx w h0 mg mb) (.ref 334) (d+1) [.inst 762 1,.int i] (Z E ts) Q:=cy ok h1 h (by rw[ho];exact hQ)
theorem ri{l:List V}{k:Bool→Prop}(h:k true):aF σ .IsNot (.tup l) .none k:=CmpI.isNot (fun e=>nomatch e) (fun _ _=>h) (fun _ e=>nomatch e)
theorem wJ{k:Bool→Prop}(h:k false):aF σ .IsNot .none .none k:=CmpI.isNot (fun _=>h) (fun e=>(e rfl).elim) (fun _ e=>nomatch e)
theorem sv(ok:(cx w h0 mg mb).Ok)(eo:E.Ok)(h1:ts.length≤1000)(hn:ts.Nodup)(h:At ts i e)(h':At ts j f)(he:Wd E e.sort wd)(hf:Wd E f.sort w2)(hs:Wd E s (wd+w2))(hw:1≤wd)(hw2:1≤w2)(hw4:wd+w2≤4096)(hQ:∀ r ts',Grow ts 1 ts'→At ts' r ⟨"concat",[i,j],s,.i 0⟩→Q (.int r) (Z E ts')) :
  CallT (cx w h0 mg mb) (.ref 710) (d+3) [.inst 762 1,.int i,.int j] (Z E ts) Q:=by
 refine (aA (k:=0) ok (nj ok) (mX ok) rfl ?_).call
 delta iR
 repeat tm_at "g"
 refine cB ok h1 h he (by tm_at "l") ?_
 repeat tm_at "g"
 refine cB ok h1 h' hf (by tm_at "l") ?_
 repeat tm_at "g"
 refine bX ok h1 h he ?_
 repeat tm_at "g"
 refine bX ok h1 h' hf ?_
 repeat tm_at "g"
 refine fi (wd:=wd+w2) ok eo hs (by tm_at "l") hw4 ?_
 repeat tm_at "g"
 refine bE ok ⟨"concat",[i,j],s,.i 0⟩ (by kernel_rfl) h1 ?_
 repeat tm_at "g"
 obtain⟨g,a⟩:=bB hn ⟨"concat",[i,j],s,.i 0⟩
 exact hQ _ _ g a
theorem rh(ok:(cx w h0 mg mb).Ok)(S:Stand E wd)(h1:ts.length≤1000)(hn:ts.Nodup)(h:At ts i e)(he:Wd E e.sort (wd+1))(hQ:∀ r ts',Grow ts 1 ts'→At ts' r ⟨"extract",[i],3,.p wd 1⟩→Q (.int r) (Z E ts')) :
  CallT (cx w h0 mg mb) (.ref 717) (d+3) [.inst 762 1,.int wd,.int 1,.int i] (Z E ts) Q:=by
 refine (aA (k:=0) ok (xO ok) (vV ok) rfl ?_).call
 delta nc
 have hlo:=S.lo
 have hhi:=S.hi
 repeat tm_at "g"
 refine cB ok h1 h he (by tm_at "l") ?_
 repeat tm_at "g"
 refine qO ?_
 repeat tm_at "g"
 refine i_T (by simp;tm_at "l") ?_
 repeat tm_at "g"
 refine bX ok h1 h he ?_
 repeat tm_at "g"
 refine i_F (by simp;tm_at "l") ?_
 repeat tm_at "g"
 have e1:(wd:Int) - 1+1=wd:=by tm_at "l"
 rw[e1]
 refine fi ok S.eo S.hs hlo (by tm_at "l") ?_
 repeat tm_at "g"
 refine bE ok ⟨"extract",[i],3,.p wd 1⟩ (by kernel_rfl) h1 ?_
 repeat tm_at "g"
 obtain⟨g,a⟩:=bB hn ⟨"extract",[i],3,.p wd 1⟩
 exact hQ _ _ g a
theorem uZ(ok:(cx w h0 mg mb).Ok)(S:Stand E wd)(x:Ext E wd)(h1:ts.length≤1000)(h:Is ts i (catT wd y))(hQ:∀ j,Is ts j (varT y)→Q (.tup [.int ((wd:Int) - 1),.int 0,.int j]) (Z E ts)) :
  CallT (cx w h0 mg mb) (.ref 1026) (d+3) [.inst 1080 13,.int wd,.int 1,.int i] (Z E ts) Q:=by
 refine (aA (k:=4) ok (mL ok) (lM ok) rfl ?_).call
 delta il
 have hlo:=S.lo
 have h':=h
 cases h with | @bin _ j z _ _ _ _ hj hz a =>
 cases hz with | leaf az =>
 repeat tm_at "g"
 refine aN (o:="concat") ok h1 h' rfl ?_
 repeat tm_at "g"
 refine bK ok h1 a ?_
 repeat tm_at "g"
 refine aL (by decide) (by decide) (v:=.int z) rfl ?_
 repeat tm_at "g"
 refine bX ok h1 az x.b ?_
 repeat tm_at "g"
 refine i_F (by simp;tm_at "l") ?_
 repeat tm_at "g"
 refine aL (by decide) (by decide) (v:=.int j) rfl ?_
 repeat tm_at "g"
 exact hQ j hj
theorem sH(ok:(cx w h0 mg mb).Ok)(S:Stand E wd)(h1:ts.length≤1000)(h:Is ts i (varT y))(hQ:Q .none (Z E ts)) :
  CallT (cx w h0 mg mb) (.ref 1026) (d+3) [.inst 1080 13,.int ((wd:Int) - 1),.int 0,.int i] (Z E ts) Q:=by
 refine (aA (k:=4) ok (mL ok) (lM ok) rfl ?_).call
 delta il
 have h':Is ts i (Bt.ch [] y).tm:=h
 repeat tm_at "g"
 refine aN (o:="app") ok h1 h rfl ?_
 repeat tm_at "g"
 cases h with | leaf a =>
 refine bK ok h1 a ?_
 repeat tm_at "g"
 refine bo ok S h1 h' ?_
 repeat tm_at "g"
 refine i_T (by simp) ?_
 repeat tm_at "g"
 exact hQ
theorem x8(ok:(cx w h0 mg mb).Ok)(S:Stand E wd)(h1:ts.length≤1000)(h:Is ts i (varT y))(hQ:Q (.int i) (Z E ts)) :
  CallT (cx w h0 mg mb) (.ref 1033) (d+3) [.inst 1080 13,.int ((wd:Int) - 1),.int 0,.int i] (Z E ts) Q:=by
 refine (aA (k:=1) ok (wu ok) (qs ok) rfl ?_).call
 delta og
 have h':Is ts i (Bt.ch [] y).tm:=h
 repeat tm_at "g"
 refine aN (o:="app") ok h1 h rfl ?_
 repeat tm_at "g"
 refine bo ok S h1 h' ?_
 repeat tm_at "g"
 refine i_T (by simp) ?_
 repeat tm_at "g"
 exact hQ
theorem zg(ok:(cx w h0 mg mb).Ok)(S:Stand E wd)(x:Ext E wd)(h1:ts.length≤1000)(h:Is ts i (catT wd y))(hQ:∀ j,Is ts j (varT y)→Q (.int j) (Z E ts)) :
  CallT (cx w h0 mg mb) (.ref 1019) (d+4) [.inst 1080 13,.int wd,.int 1,.int i] (Z E ts) Q:=by
 refine (aA (k:=4) ok (y8 ok) (yk ok) rfl ?_).call
 delta lm
 repeat tm_at "g"
 refine uZ ok S x h1 h fun j hj=>?_
 repeat tm_at "g"
 refine fQ (fun m ρ σ=>σ=Z E ts∧((m=1∧ρ=[some (.inst 1080 13),some (.int wd),some (.int 1),some (.int i),some (.int 0),some (.tup [.int ((wd:Int) - 1),.int 0,.int j]),none,none]) ∨
  (m=0∧ρ=[some (.inst 1080 13),some (.int ((wd:Int) - 1)),some (.int 0),some (.int j),some (.int 0),some .none,none,none]))) 1 ⟨rfl,.inl ⟨rfl,rfl⟩⟩ ?_
 rintro n ρ σ ⟨rfl,⟨rfl,rfl⟩ | ⟨rfl,rfl⟩⟩
 ·repeat tm_at "g"
  refine ri ?_
  repeat tm_at "g"
  refine aN (o:="concat") ok h1 h rfl ?_
  repeat tm_at "g"
  refine sH ok S h1 hj ?_
  repeat tm_at "g"
  exact⟨0,by decide,rfl,.inr ⟨rfl,rfl⟩⟩
 ·repeat tm_at "g"
  refine wJ ?_
  repeat tm_at "g"
  refine x8 ok S h1 hj ?_
  repeat tm_at "g"
  refine dA ?_
  refine lU (n:=0) (by decide) ?_
  refine cT ?_
  repeat tm_at "g"
  exact hQ j hj
end
section
set_option maxHeartbeats 1000000
inductive KnR (wd:Nat) (ts:List T) (p:V×V):Prop
 | mk (k r:Int) (t u:Tm) (e:p=(.int k,.int r)) (hk:Is ts k t) (hr:Is ts r u) (n:Nm wd True t u):KnR wd ts p
noncomputable def KnOk(wd:Nat)(ts:List T)(kn:List (V×V)):Prop:=∀ p∈kn,KnR wd ts p
noncomputable def hasK(kn:List (V×V))(k:Int):Bool:=kn.any fun u=>V.beq u.1 (.int k)
section
variable{wd:Nat}{ts ts':List T}{kn:List (V×V)}{k r:Int}{t u:Tm}
theorem KnOk.mono(h:KnOk wd ts kn)(p:ts <+: ts'):KnOk wd ts' kn:=fun q hq=>by
 obtain⟨k,r,t,u,e,hk,hr,n⟩:=h q hq
 exact⟨k,r,t,u,e,hk.mono p,hr.mono p,n⟩
theorem KnOk.key(h:KnOk wd ts kn)(hl:kn.length≤1000000)(k:Int):aY kn (.int k):=by
 refine⟨rfl,Nat.le_of_ble_eq_true rfl,?_,hl⟩
 rw[List.all_eq_true];intro p hp
 obtain⟨_,_,_,_,rfl,_⟩:=h p hp
 rfl
theorem gn(a b:Int):V.beq (.int a) (.int b)=(a==b):=rfl
theorem KnOk.get(h:KnOk wd ts kn)(hn:hasK kn k=true)(hk:Is ts k t)(n:Nm wd True t u):∃ r,dget kn (.int k)=some (.int r)∧Is ts r u:=by
 obtain⟨p,hp,hb⟩:=List.any_eq_true.mp hn
 cases e:kn.find? fun p=>V.beq p.1 (.int k) with
 | none=>exact absurd hb (by simpa using List.find?_eq_none.mp e p hp)
 | some q =>
  have hq:=List.find?_some e
  obtain⟨k',r',t',u',rfl,hk',hr,n'⟩:=h q (List.mem_of_find?_eq_some e)
  have:k'=k:=by rw[gn] at hq;exact eq_of_beq hq
  subst this
  have:=hk.uniq hk'
  subst this
  rw[n'.fn n] at hr
  exact⟨r',by unfold dget;rw[e];rfl,hr⟩
theorem KnOk.put(h:KnOk wd ts kn)(hk:Is ts k t)(hr:Is ts r u)(n:Nm wd True t u):KnOk wd ts (dset kn (.int k) (.int r)):=fun q hq=>by
 have hR:KnR wd ts (.int k,.int r):=⟨k,r,t,u,rfl,hk,hr,n⟩
 unfold dset at hq
 split at hq
 ·obtain⟨p,hp,rfl⟩:=List.mem_map.mp hq
  split
  ·rename_i hb
   obtain⟨k',r',t',tr,rfl,_,_,_⟩:=h p hp
   have:k'=k:=by rw[gn] at hb;exact eq_of_beq hb
   subst this
   exact hR
  ·exact h p hp
 ·rcases List.mem_append.mp hq with hq | hq
  ·exact h q hq
  ·simp at hq;subst hq;exact hR
theorem fR{k':Int}{v:V}(h:hasK kn k'=true):hasK (dset kn (.int k) v) k'=true:=by
 obtain⟨p,hp,hb⟩:=List.any_eq_true.mp h
 refine List.any_eq_true.mpr ?_
 unfold dset
 split
 ·exact⟨_,List.mem_map_of_mem hp,by split<;>exact hb⟩
 ·exact⟨p,List.mem_append_left _ hp,hb⟩
theorem uJ{v:V}:hasK (dset kn (.int k) v) k=true:=by
 cases h:hasK kn k with
 | true=>exact fR h
 | false =>
  unfold dset
  rw[if_neg (by rw[show (kn.any fun p=>V.beq p.1 (.int k))=false from h];decide)]
  exact List.any_eq_true.mpr ⟨_,List.mem_append_right _ List.mem_cons_self,by rw[gn];simp⟩
theorem jd{v:V}:(dset kn (.int k) v).length≤kn.length+1:=by
 unfold dset;split<;>simp
end
noncomputable def Ek(E:En)(kn:List (V×V)):En:={ E with kn:=kn }
theorem Stand.ek{E:En}{wd:Nat}(S:Stand E wd)(kn:List (V×V)):Stand (Ek E kn) wd:=⟨⟨S.eo.len,S.eo.few,S.eo.one⟩,S.hs,S.lo,S.hi⟩
variable{w:World}{h0:Heap}{mg mb:Str→Option Value}{E:En}{wd:Nat}{ts:List T}{d:Nat}{Q:V→St→Prop}{i j s:Int}{e f:T}{σ:St}{t u:Tm}{b p:Bt}{v k:Nat}{l:List O1}{y:Bool}{kn:List (V×V)}
theorem qR{l r:List Int}{p:Bool→Prop}(h:p (l==r)):aF σ .Eq (.tup (l.map V.int)) (.tup (r.map V.int)) p:=by
 refine CmpI.eq (dx:=.tuple (l.map PyData.int)) (dy:=.tuple (r.map PyData.int)) (ix (c8 _)) (ix (c8 _)) (lq gY) (lq gY) ?_
 show p (PyData.eqvAll _ _);rw[eT];exact h
theorem wa(ok:(cx w h0 mg mb).Ok)(h1:ts.length≤1000)(a:At ts i e)(ho:e.op="app"∨e.op="bvnum")(ha:e.args=[])(hQ:Q (.int i) (Z E ts)):CallT (cx w h0 mg mb) (.ref 904) (d+4) [.inst 1080 13,.int i,.tup []] (Z E ts) Q:=by
 refine (cO (k:=1) ok (dT ok) (dU ok) rfl ?_).call
 delta di
 have hsup:CodeT (cx w h0 mg mb) (.ref 791) (d+3) [.inst 1080 13,.int i,.tup []] (Z E ts) Q:=by
  refine aA (k:=1) ok (vm ok) (vX ok) rfl ?_
  delta jg
  repeat tm_at "g"
  refine dp ok h1 a ?_
  have fin:CallT (cx w h0 mg mb) (.ref 640) (d+2) [.inst 762 1,.int i,.tup []] (Z E ts) Q:=by
   refine (aA (k:=0) ok (rt ok) (uS ok) rfl ?_).call
   delta oT
   repeat tm_at "g"
   refine aS (l:=tops ts) rfl a.lo (a.hi h1) a.tops ?_
   have go:CallT (cx w h0 mg mb) (.ref 530) (d+1) [.inst 762 1,.int i,.tup []] (Z E ts) Q:=by
    refine (aA (k:=0) ok (uK ok) (uH ok) rfl ?_).call
    delta l9
    repeat tm_at "g"
    refine aS (l:=targs ts) rfl a.lo (a.hi h1) a.targs ?_
    rw[ha]
    refine qR (l:=[]) (r:=[]) ?_
    repeat tm_at "g"
    exact hQ
   rcases ho with ho | ho
   ·rw[ho]
    repeat tm_at "g"
    exact go
   ·rw[ho]
    repeat tm_at "g"
    exact go
  rcases ho with ho | ho
  ·rw[ho]
   repeat tm_at "g"
   exact fin
  ·rw[ho]
   repeat tm_at "g"
   exact fin
 repeat tm_at "g"
 refine dp ok h1 a ?_
 rcases ho with ho | ho
 ·rw[ho]
  repeat tm_at "g"
  refine iU rfl (if_pos rfl) (kvs:=RN) rfl ?_
  repeat tm_at "g"
  exact hsup
 ·rw[ho]
  repeat tm_at "g"
  refine iU rfl (if_pos rfl) (kvs:=RN) rfl ?_
  repeat tm_at "g"
  exact hsup
theorem va(ok:(cx w h0 mg mb).Ok)(S:Stand E wd)(x:Ext E wd)(h1:ts.length≤1000)(hn:ts.Nodup){z:Int}(h:Is ts i (varT y))(hz:At ts z ⟨"bvnum",[],sB wd,.i 0⟩)(hQ:∀ r ts',Grow ts 1 ts'→Is ts' r (catT wd y)→Q (.int r) (Z E ts')) :
  CallT (cx w h0 mg mb) (.ref 1012) (d+9) [.inst 1080 13,.int i,.int z] (Z E ts) Q:=by
 refine (aA (k:=2) ok (rB ok) (vk ok) rfl ?_).call
 delta j3
 have h':Is ts i (Bt.ch [] y).tm:=h
 repeat tm_at "g"
 refine bX ok h1 hz x.b ?_
 repeat tm_at "g"
 refine aX ok h1 h' ?_
 repeat tm_at "g"
 refine bz ok h1 h' ?_
 repeat tm_at "g"
 refine aN (o:="app") ok h1 h rfl ?_
 repeat tm_at "g"
 refine aN (o:="app") ok h1 h rfl ?_
 repeat tm_at "g"
 cases h with | leaf a =>
 refine sv ok S.eo h1 hn a hz (wd:=wd) S.hs x.b x.c S.lo (by decide) (by have:=S.hi;tm_at "l") fun r ts' g hr=>?_
 repeat tm_at "g"
 exact hQ r ts' g (.bin (.leaf (a.mono g.1)) (.leaf (hz.mono g.1)) hr)
theorem sf(ok:(cx w h0 mg mb).Ok)(S:Stand E wd)(h1:ts.length≤970)(hn:ts.Nodup)(h:Is ts i t)(n:Nm wd (Ext E wd) t u)(a:At ts i e)(hQ:∀ r ts',Grow ts 3 ts'→Is ts' r u→Q (.int r) (Z E ts')) :
  CallT (cx w h0 mg mb) (.ref 904) (d+10) [.inst 1080 13,.int i,.tup (e.args.map V.int)] (Z E ts) Q:=by
 have h1':ts.length≤1000:=by tm_at "l"
 cases n with
 | leaf s D' ho =>
  have h':=h
  cases h with | leaf b =>
  rw[At.eq_ a b]
  exact wa (d:=d+6) ok h1' b ho rfl (hQ _ _ (Grow.refl hn) h')
 | @un n b hb hl =>
  have fin:∀ {j:Int},Is ts j b.tm→CallT (cx w h0 mg mb) (.ref 949) (d+9) [.inst 1080 13,.str (unS n),.int j] (Z E ts) Q:=fun hj=>qp ok S h1' hn n hj hb fun r ts' g hr=>hQ r ts' (g.le (by tm_at "l")) hr
  refine (cO (k:=1) ok (dT ok) (dU ok) rfl ?_).call
  delta di
  cases n with
  | false =>
   cases h with | @un _ j _ _ _ _ hj b' =>
   rw[At.eq_ a b']
   repeat tm_at "g"
   refine aN (o:="bvnot") ok h1' (.un hj b') rfl ?_
   repeat tm_at "g"
   refine aL (by decide) (by decide) (v:=.int j) rfl ?_
   repeat tm_at "g"
   exact fin hj
  | true =>
   cases h with | @un _ j _ _ _ _ hj b' =>
   rw[At.eq_ a b']
   repeat tm_at "g"
   refine aN (o:="bvneg") ok h1' (.un hj b') rfl ?_
   repeat tm_at "g"
   refine aL (by decide) (by decide) (v:=.int j) rfl ?_
   repeat tm_at "g"
   exact fin hj
 | @add v b hv hb hl =>
  refine (cO (k:=1) ok (dT ok) (dU ok) rfl ?_).call
  delta di
  cases h with | @bin _ j k _ _ _ _ hj hk b' =>
  rw[At.eq_ a b']
  repeat tm_at "g"
  refine aN (o:="bvadd") ok h1' (.bin hj hk b') rfl ?_
  repeat tm_at "g"
  refine aL (by decide) (by decide) (v:=.int j) rfl ?_
  repeat tm_at "g"
  refine aL (by decide) (by decide) (v:=.int k) rfl ?_
  repeat tm_at "g"
  exact zm ok S h1 hn (v:=v) hj hv hk hb hQ
 | cat y x =>
  refine (cO (k:=1) ok (dT ok) (dU ok) rfl ?_).call
  delta di
  cases h with | @bin _ j k _ _ _ _ hj hk b' =>
  rw[At.eq_ a b']
  repeat tm_at "g"
  refine aN (o:="concat") ok h1' (.bin hj hk b') rfl ?_
  repeat tm_at "g"
  refine aL (by decide) (by decide) (v:=.int j) rfl ?_
  repeat tm_at "g"
  refine aL (by decide) (by decide) (v:=.int k) rfl ?_
  repeat tm_at "g"
  cases hk with | leaf hk =>
  exact va ok S x h1' hn hj hk fun r ts' g hr=>hQ r ts' (g.le (by tm_at "l")) hr
 | ext y x =>
  refine (cO (k:=1) ok (dT ok) (dU ok) rfl ?_).call
  delta di
  cases h with | @un _ j _ _ _ _ hj b' =>
  rw[At.eq_ a b']
  repeat tm_at "g"
  refine aN (o:="extract") ok h1' (.un hj b') rfl ?_
  repeat tm_at "g"
  refine dP ok h1' b' ?_
  repeat tm_at "g"
  refine aL (by decide) (by decide) (v:=.int wd) rfl ?_
  repeat tm_at "g"
  refine dP ok h1' b' ?_
  repeat tm_at "g"
  refine aL (by decide) (by decide) (v:=.int 1) rfl ?_
  repeat tm_at "g"
  refine aL (by decide) (by decide) (v:=.int j) rfl ?_
  repeat tm_at "g"
  exact zg (d:=d+5) ok S x h1' hj fun r hr=>hQ r ts (Grow.refl hn) hr
end
section
set_option maxHeartbeats 1000000
variable{w:World}{h0:Heap}{mg mb:Str→Option Value}{E:En}{wd:Nat}{ts:List T}{d:Nat}{Q:V→St→Prop}{i j s:Int}{e f:T}{σ:St}{t u:Tm}{b p:Bt}{v k:Nat}{l:List O1}{y:Bool}{kn:List (V×V)}
theorem nR{kn kn':List (V×V)}:(Z (Ek E kn) ts).set 14 (some (.dict kn'))=Z (Ek E kn') ts:=rfl
theorem Ext.ek{kn:List (V×V)}(x:Ext E wd):Ext (Ek E kn) wd:=⟨x.b,x.c⟩
theorem ux(h:Is ts i t)(a:At ts i e):e.args.length≤1000:=by
 cases h with
 | leaf b=>rw[At.eq_ a b];exact Nat.zero_le _
 | un _ b=>rw[At.eq_ a b];exact Nat.le_of_ble_eq_true rfl
 | bin _ _ b=>rw[At.eq_ a b];exact Nat.le_of_ble_eq_true rfl
theorem qL(ok:(cx w h0 mg mb).Ok)(S:Stand E wd){K:Fl→Env'→St→Prop}{m:Nat}(hm:m≤900)(L0:List Int)(hp:∀ e∈L0,inN wd (Ext E wd) ts e)(hc:∀ p e q,L0=p++e::q→∀ t,At ts e t→∀ a∈t.args,a∈p)(hlen:ts.length+3 * L0.length≤960)(hlm:m+2 * L0.length≤990)
  (hK:∀ ts'' kn'' a2 a3 a4,Grow ts (3 * L0.length) ts''→KnOk wd ts'' kn''→(∀ e∈L0,hasK kn'' e=true)→kn''.length≤m+2 * L0.length→K .next [some (.inst 1080 13),some (.int i),a2,a3,a4] (Z (Ek E kn'') ts'')) :
  ∀ (post pre:List Int) (ts':List T) (kn:List (V×V)) (a2 a3 a4:Option V),L0=pre++post→Grow ts (3 * pre.length) ts'→KnOk wd ts' kn→(∀ e∈pre,hasK kn e=true)→kn.length≤m+2 * pre.length →
  forL (d+10) (nmA 2) (fC (cx w h0 mg mb)) K (iL post) [some (.inst 1080 13),some (.int i),a2,a3,a4] (Z (Ek E kn) ts'):=by
 intro zz
 induction zz with
 | nil =>
  intro pre ts' kn a2 a3 a4 e g k hh hl
  rw[List.append_nil] at e
  subst e
  exact cT (hK ts' kn a2 a3 a4 g k hh hl)
 | cons x post ih =>
  intro pre ts' kn a2 a3 a4 e g k hh hl
  have ih:=ih (pre++[x])
  have e':L0=(pre++[x])++post:=by rw[e];simp
  have hle:L0.length=pre.length+1+post.length:=by rw[e];simp;tm_at "l"
  have hg:=g.2.2
  obtain⟨te,ue,hx,n⟩:=hp x (by rw[e];simp)
  obtain⟨et,at_,_⟩:=hx.at_
  have at':=at_.mono g.1
  have key:=k.key (by tm_at "l")
  have nxt:∀ {ts2:List T} {kn2:List (V×V)} {b3 b4:Option V},Grow ts (3 * (pre.length+1)) ts2→KnOk wd ts2 kn2→(∀ e∈pre,hasK kn2 e=true)→hasK kn2 x=true→kn2.length≤m+2 * (pre.length+1) →
    forL (d+10) (nmA 2) (fC (cx w h0 mg mb)) K (iL post) [some (.inst 1080 13),some (.int i),some (.int x),b3,b4] (Z (Ek E kn2) ts2):=fun g2 k2 h2 hx2 l2 =>
   ih _ _ _ _ _ e' (by simpa using g2) k2 (fun y hy=>by
    rcases List.mem_append.mp hy with hy | hy
    ·exact h2 y hy
    ·simp at hy;subst hy;exact hx2) (by simpa using l2)
  refine cj ?_
  delta fC
  repeat tm_at "g"
  refine eE (kvs:=kn) rfl (key x) ?_
  cases hk:hasK kn x with
  | true =>
   refine i_F (by rw[show (kn.any fun u=>V.beq u.1 (.int x))=true from hk];rfl) ?_
   repeat tm_at "g"
   exact nxt (g.le (by tm_at "l")) k hh hk (by tm_at "l")
  | false =>
   refine i_T (by rw[show (kn.any fun u=>V.beq u.1 (.int x))=false from hk];rfl) ?_
   repeat tm_at "g"
   refine aP rfl ?_
   repeat tm_at "g"
   refine bK ok (by tm_at "l") at' ?_
   repeat tm_at "g"
   have hargs:∀ a∈et.args,dget kn (.int a)=some (.int a):=fun a ha=>by
    obtain⟨ta,hta,na⟩:=n.part hx at_ ha
    have hta':=hta.mono g.1
    obtain⟨r,hg',hr⟩:=k.get (hh a (hc pre x post e et at_ a ha)) hta' (na.any fun _=>trivial)
    rw[hg',Is.inj g.2.1 hr hta']
   have hal:=ux hx at_
   refine aZ ⟨by simp;tm_at "l",cD (fun x=>x) (fun y hy K' hK'=>?_) ?_⟩
   ·obtain⟨a,ha,rfl⟩:=List.mem_map.mp hy
    repeat tm_at "g"
    refine ef (kvs:=kn) rfl (key a) (hargs a ha) ?_
    exact hK'
   rw[List.map_id']
   repeat tm_at "g"
   refine rY (by simp;tm_at "l") ?_
   repeat tm_at "g"
   refine sf ok (S.ek kn) (by tm_at "l") g.2.1 (hx.mono g.1) (n.any Ext.ek) at' fun y ts2 g2 hy=>?_
   repeat tm_at "g"
   have k2:=k.mono g2.1
   have hxt:=(hx.mono g.1).mono g2.1
   have n':Nm wd True te ue:=n.any fun _=>trivial
   refine eu (kvs:=kn) rfl (key x) ?_
   rw[nR]
   have k3:KnOk wd ts2 (dset kn (.int x) (.int y)):=k2.put hxt hy n'
   have l3:(dset kn (.int x) (.int y)).length≤kn.length+1:=jd
   repeat tm_at "g"
   refine eu (kvs:=dset kn (.int x) (.int y)) rfl (k3.key (by tm_at "l") y) ?_
   rw[nR]
   have k4:KnOk wd ts2 (dset (dset kn (.int x) (.int y)) (.int y) (.int y)):=k3.put hy hy n'.idem
   have l4:(dset (dset kn (.int x) (.int y)) (.int y) (.int y)).length≤(dset kn (.int x) (.int y)).length+1:=jd
   repeat tm_at "g"
   exact nxt (g.trans g2 (by tm_at "l")) k4 (fun z hz=>fR (fR (hh z hz))) (fR uJ) (by tm_at "l")
theorem wY(ok:(cx w h0 mg mb).Ok)(S:Stand E wd)(h1:ts.length≤900)(hn:ts.Nodup)(hk:KnOk wd ts kn)(hkl:kn.length≤900)(h:Is ts i t)(n:Nm wd (Ext E wd) t u)
  (hQ:∀ r ts' kn',Grow ts 54 ts'→Is ts' r u→KnOk wd ts' kn'→kn'.length≤kn.length+36→Q (.int r) (Z (Ek E kn') ts')) :
  CallT (cx w h0 mg mb) (.ref 784) (d+11) [.inst 1080 13,.int i] (Z (Ek E kn) ts) Q:=by
 refine (aA (k:=3) ok (sU ok) (wo ok) rfl ?_).call
 delta jp
 have hsz:=n.sz
 have hwt:=ed h
 repeat tm_at "g"
 refine jM ok (by tm_at "l") (qS (wd:=wd) (X:=Ext E wd)) ⟨t,u,h,n⟩ (by rw[hwt];tm_at "l") fun L hl pl=>?_
 repeat tm_at "g"
 rw[hwt] at hl
 refine bT ?_
 refine qL ok S hkl L (fun e he=>pl.p1 e he) pl.cl (by tm_at "l") (by tm_at "l") (fun ts'' kn'' a2 a3 a4 g k hh hl2=>?_) L [] ts kn _ _ _ rfl (Grow.refl hn) hk (by simp) (by simp)
 obtain⟨r,hg,hr⟩:=k.get (hh i (pl.all i (by simp))) (h.mono g.1) (n.any fun _=>trivial)
 repeat tm_at "g"
 refine ef (kvs:=kn'') rfl (k.key (by tm_at "l") i) hg ?_
 repeat tm_at "g"
 exact hQ r ts'' kn'' (g.le (by tm_at "l")) hr k (by tm_at "l")
end
section
set_option maxHeartbeats 1000000
noncomputable def tT:T:=⟨"true",[],0,.i 0⟩
noncomputable def fT:T:=⟨"false",[],0,.i 0⟩
noncomputable def ba(s:Bool):Str:=if s then "bvslt" else "bvult"
set_option genInjectivity false in
inductive Tu where
 | tt
 | ff
 | ask (s:Bool) (a b:Bt)
 | eq (v:Nat) (y:Bool)
 | no (t:Tu)
noncomputable def Tu.op:Tu→Str
 | .tt=>"true"
 | .ff=>"false"
 | .ask s _ _=>ba s
 | .eq _ _=>"="
 | .no _=>"not"
inductive IsT (ts:List T):Int→Tu→Prop
 | tt {i:Int} (a:At ts i tT):IsT ts i .tt
 | ff {i:Int} (a:At ts i fT):IsT ts i .ff
 | ask {i j k:Int} {s:Bool} {b p:Bt} (h:Is ts j b.tm) (h':Is ts k p.tm) (a:At ts i ⟨ba s,[j,k],0,.i 0⟩):IsT ts i (.ask s b p)
 | eq {i j k:Int} {v:Nat} {y:Bool} (h:Is ts j (numT v)) (h':Is ts k (varT y)) (a:At ts i ⟨"=",[min j k,max j k],0,.i 0⟩):IsT ts i (.eq v y)
 | no {i j:Int} {t:Tu} (h:IsT ts j t) (a:At ts i ⟨"not",[j],0,.i 0⟩):IsT ts i (.no t)
structure Base (ts:List T):Prop where
 t:At ts 1 tT
 f:At ts 2 fT
noncomputable def notT:Tu→Tu
 | .tt=>.ff
 | .ff=>.tt
 | .no t=>t
 | t=>.no t
section
variable{ts ts':List T}{i j:Int}{t u:Tu}
theorem Base.mono(b:Base ts)(p:ts <+: ts'):Base ts':=⟨b.t.mono p,b.f.mono p⟩
theorem IsT.mono(h:IsT ts i t)(p:ts <+: ts'):IsT ts' i t:=by
 induction h with
 | tt a=>exact .tt (a.mono p)
 | ff a=>exact .ff (a.mono p)
 | ask h h' a=>exact .ask (h.mono p) (h'.mono p) (a.mono p)
 | eq h h' a=>exact .eq (h.mono p) (h'.mono p) (a.mono p)
 | no _ a ih=>exact .no ih (a.mono p)
theorem IsT.inj(hn:ts.Nodup)(h:IsT ts i t)(h':IsT ts j t):i=j:=by
 induction h generalizing j with
 | tt a=>cases h' with | tt b=>exact At.inj hn a b
 | ff a=>cases h' with | ff b=>exact At.inj hn a b
 | ask h k a=>cases h' with | ask h' k' b=>have e:=h.inj hn h';subst e;have e:=k.inj hn k';subst e;exact At.inj hn a b
 | eq h k a=>cases h' with | eq h' k' b=>have e:=h.inj hn h';subst e;have e:=k.inj hn k';subst e;exact At.inj hn a b
 | no _ a ih=>cases h' with | no h b=>have e:=ih h;subst e;exact At.inj hn a b
inductive IsU (ts:List T) (i:Int) (t:Tu):Prop
 | mk (e:T) (a:At ts i e) (op:e.op=t.op) (s:e.sort=0):IsU ts i t
theorem IsT.at_(h:IsT ts i t):IsU ts i t:=by
 cases h with
 | tt a=>exact⟨_,a,rfl,rfl⟩
 | ff a=>exact⟨_,a,rfl,rfl⟩
 | ask _ _ a=>exact⟨_,a,rfl,rfl⟩
 | eq _ _ a=>exact⟨_,a,rfl,rfl⟩
 | no _ a=>exact⟨_,a,rfl,rfl⟩
noncomputable def Tu.isB:Tu→Bool
 | .tt=>true
 | .ff=>true
 | _=>false
theorem uY(h:t.isB=false):¬ t.op="true"∧¬ t.op="false":=by
 cases t with
 | tt=>cases h
 | ff=>cases h
 | ask s =>
  cases s
  ·(show ¬ ("bvult":Str)="true"∧¬ ("bvult":Str)="false");decide +kernel
  ·(show ¬ ("bvslt":Str)="true"∧¬ ("bvslt":Str)="false");decide +kernel
 | eq=>(show ¬ ("=":Str)="true"∧¬ ("=":Str)="false");decide +kernel
 | no=>(show ¬ ("not":Str)="true"∧¬ ("not":Str)="false");decide +kernel
theorem IsT.ne1(B:Base ts)(h:IsT ts i t)(hb:t.isB=false):(i==1)=false∧(i==2)=false:=by
 obtain⟨e,a,o,_⟩:=h.at_
 obtain⟨h1,h2⟩:=uY hb
 refine⟨beq_eq_false_iff_ne.mpr fun z=>?_,beq_eq_false_iff_ne.mpr fun z=>?_⟩
 ·subst z;exact h1 (o.symm.trans (congrArg T.op (At.eq_ a B.t)))
 ·subst z;exact h2 (o.symm.trans (congrArg T.op (At.eq_ a B.f)))
end
variable{w:World}{h0:Heap}{mg mb:Str→Option Value}{E:En}{wd:Nat}{ts:List T}{d:Nat}{Q:V→St→Prop}{i j s:Int}{e f:T}{σ:St}{t u:Tm}{b p:Bt}{v k:Nat}{l:List O1}{y:Bool}{kn:List (V×V)}{x:Tu}
theorem iV(ok:(cx w h0 mg mb).Ok)(B:Base ts)(h1:ts.length≤1000)(hn:ts.Nodup)(h:IsT ts i x)(hQ:∀ r ts',Grow ts 1 ts'→IsT ts' r (notT x)→Q (.int r) (Z E ts')) :
  CallT (cx w h0 mg mb) (.ref 460) (d+3) [.inst 762 1,.int i] (Z E ts) Q:=by
 refine (aA (k:=0) ok (vK ok) (uq ok) rfl ?_).call
 delta ni
 obtain⟨e,a,ho,hs⟩:=h.at_
 have gr:x.isB=false→(notT x=.no x)→(∀ r ts',Grow ts 1 ts'→At ts' r ⟨"not",[i],0,.i 0⟩→Q (.int r) (Z E ts')):=fun _ e r ts' g hr=>hQ r ts' g (by rw[e];exact .no (h.mono g.1) hr)
 repeat tm_at "g"
 refine eI ok h1 a hs ?_
 repeat tm_at "g"
 refine aS (l:=tops ts) rfl a.lo (a.hi h1) a.tops ?_
 have fin:(∀ r ts',Grow ts 1 ts'→At ts' r ⟨"not",[i],0,.i 0⟩→Q (.int r) (Z E ts'))→CallT (cx w h0 mg mb) (.ref 376) (d+2) [.inst 762 1,.str "not",.tup [.int i],.int 0,.int 0] (Z E ts) Q:=fun hq=>by
  refine bE ok ⟨"not",[i],0,.i 0⟩ (by kernel_rfl) h1 ?_
  obtain⟨g,a⟩:=bB hn ⟨"not",[i],0,.i 0⟩
  exact hq _ _ g a
 cases x with
 | tt =>
  have e1:i=1:=by cases h with | tt b=>exact At.inj hn b B.t
  subst e1
  rw[show e.op=("true":Str) from ho]
  repeat tm_at "g"
  exact hQ 2 ts (Grow.refl hn) (.ff B.f)
 | ff =>
  have e1:i=2:=by cases h with | ff b=>exact At.inj hn b B.f
  subst e1
  rw[show e.op=("false":Str) from ho]
  repeat tm_at "g"
  exact hQ 1 ts (Grow.refl hn) (.tt B.t)
 | ask sg b p =>
  obtain⟨n1,n2⟩:=h.ne1 B rfl
  cases sg
  ·rw[show e.op=("bvult":Str) from ho]
   repeat tm_at "g"
   refine i_F n1 ?_
   repeat tm_at "g"
   refine i_F n2 ?_
   repeat tm_at "g"
   exact fin (gr rfl rfl)
  ·rw[show e.op=("bvslt":Str) from ho]
   repeat tm_at "g"
   refine i_F n1 ?_
   repeat tm_at "g"
   refine i_F n2 ?_
   repeat tm_at "g"
   exact fin (gr rfl rfl)
 | eq v y =>
  obtain⟨n1,n2⟩:=h.ne1 B rfl
  rw[show e.op=("=":Str) from ho]
  repeat tm_at "g"
  refine i_F n1 ?_
  repeat tm_at "g"
  refine i_F n2 ?_
  repeat tm_at "g"
  exact fin (gr rfl rfl)
 | no x =>
  rw[show e.op=("not":Str) from ho]
  repeat tm_at "g"
  cases h with | @no _ j _ hj aj =>
  refine aS (l:=targs ts) rfl aj.lo (aj.hi h1) aj.targs ?_
  repeat tm_at "g"
  refine aL (by decide) (by decide) (v:=.int j) rfl ?_
  repeat tm_at "g"
  exact hQ j ts (Grow.refl hn) hj
theorem fO(ok:(cx w h0 mg mb).Ok)(B:Base ts)(h1:ts.length≤1000)(hn:ts.Nodup)(h:IsT ts i x)(hQ:∀ r ts',Grow ts 1 ts'→IsT ts' r (notT x)→Q (.int r) (Z E ts')) :
  CallT (cx w h0 mg mb) (.ref 817) (d+4) [.inst 1080 13,.int i] (Z E ts) Q:=by
 refine (aA (k:=0) ok (xl ok) (vG ok) rfl ?_).call
 delta my
 repeat tm_at "g"
 refine iV ok B h1 hn h fun r ts' g hr=>?_
 repeat tm_at "g"
 exact hQ r ts' g hr
noncomputable def trB(b:Bool):Tu:=if b then .tt else .ff
theorem oI(ok:(cx w h0 mg mb).Ok)(B:Base ts){z:Bool}(hQ:∀ r,IsT ts r (trB z)→Q (.int r) (Z E ts)) :
  CallT (cx w h0 mg mb) (.ref 425) (d+1) [.inst 762 1,.bool z] (Z E ts) Q:=by
 refine (aA (k:=0) ok (rR ok) (sT ok) rfl ?_).call
 delta l5
 cases z
 ·repeat tm_at "g"
  exact hQ 2 (.ff B.f)
 ·repeat tm_at "g"
  exact hQ 1 (.tt B.t)
theorem yw(ok:(cx w h0 mg mb).Ok)(h1:ts.length≤1000)(hn:ts.Nodup)(h:Is ts i (numT v))(h':Is ts j (varT y))(hQ:∀ r ts',Grow ts 1 ts'→IsT ts' r (.eq v y)→Q (.int r) (Z E ts')) :
  CallT (cx w h0 mg mb) (.ref 502) (d+3) [.inst 762 1,.int i,.int j] (Z E ts) Q:=by
 refine (aA (k:=0) ok (ul ok) (qw ok) rfl ?_).call
 delta nW
 have hne:(i==j)=false:=beq_eq_false_iff_ne.mpr fun e=>by subst e;injection h.uniq h' with e;exact iw e
 cases h with | leaf a =>
 cases h' with | leaf b =>
 repeat tm_at "g"
 refine aS (l:=tsorts ts) rfl a.lo (a.hi h1) a.tsorts ?_
 repeat tm_at "g"
 refine eI ok h1 b rfl ?_
 repeat tm_at "g"
 refine i_F hne ?_
 repeat tm_at "g"
 refine wR ?_
 repeat tm_at "g"
 refine q0 ?_
 repeat tm_at "g"
 refine bE ok ⟨"=",[min i j,max i j],0,.i 0⟩ (by kernel_rfl) h1 ?_
 obtain⟨g,c⟩:=bB hn ⟨"=",[min i j,max i j],0,.i 0⟩
 repeat tm_at "g"
 exact hQ _ _ g (.eq (.leaf (a.mono g.1)) (.leaf (b.mono g.1)) c)
theorem ip(ok:(cx w h0 mg mb).Ok)(S:Stand E wd)(h1:ts.length≤1000)(hn:ts.Nodup)(sg:Bool)(h:Is ts i b.tm)(h':Is ts j p.tm)(hQ:∀ r ts',Grow ts 1 ts'→IsT ts' r (.ask sg b p)→Q (.int r) (Z E ts')) :
  CallT (cx w h0 mg mb) (.ref 703) (d+3) [.inst 762 1,.str (ba sg),.int i,.int j] (Z E ts) Q:=by
 refine (aA (k:=0) ok (lK ok) (oK ok) rfl ?_).call
 delta iD
 obtain⟨e,a,_,hs,_⟩:=h.at_
 obtain⟨f,c,_,hs',_⟩:=h'.at_
 rw[d0] at hs hs'
 have lo:=S.lo
 repeat tm_at "g"
 refine cB ok h1 a (by rw[hs];exact S.hs) (by tm_at "l") ?_
 repeat tm_at "g"
 refine aS (l:=tsorts ts) rfl a.lo (a.hi h1) a.tsorts ?_
 refine eI ok h1 c (by rw[hs,hs']) ?_
 repeat tm_at "g"
 have fin:CallT (cx w h0 mg mb) (.ref 376) (d+2) [.inst 762 1,.str (ba sg),.tup [.int i,.int j],.int 0,.int 0] (Z E ts) Q:=by
  refine bE ok ⟨ba sg,[i,j],0,.i 0⟩ (by cases sg<;>kernel_rfl) h1 ?_
  obtain⟨g,a⟩:=bB hn ⟨ba sg,[i,j],0,.i 0⟩
  exact hQ _ _ g (.ask (h.mono g.1) (h'.mono g.1) a)
 cases sg
 all_goals
  repeat tm_at "g"
  exact fin
end
section
set_option maxHeartbeats 2000000
noncomputable def eqL(wd v:Nat):List O1→Bool→Tu
 | [],y=>.eq v y
 | .not::l,y=>eqL wd (f1 wd false v) l y
 | .neg::l,y=>eqL wd (f1 wd true v) l y
 | .add k::l,y=>eqL wd (fs wd v k) l y
variable{w:World}{h0:Heap}{mg mb:Str→Option Value}{E:En}{wd:Nat}{ts:List T}{d:Nat}{Q:V→St→Prop}{i j s:Int}{e f:T}{σ:St}{t u:Tm}{b p:Bt}{v k:Nat}{l:List O1}{y:Bool}{kn:List (V×V)}{x:Tu}
theorem nU(ok:(cx w h0 mg mb).Ok)(S:Stand E wd)(h1:ts.length≤990)(hn:ts.Nodup):∀ (l:List O1) (i:Int) (v n D:Nat),l.length+4≤D→nfl wd l=true→v < 2 ^ wd→Is ts i (chT l y)→n+l.length≤49→(∀ r ts',Grow ts 2 ts'→IsT ts' r (eqL wd v l y)→Q (.int r) (Z E ts')) →
  CallT (cx w h0 mg mb) (.ref 1063) D [.inst 1080 13,.int v,.int i,.int n] (Z E ts) Q:=by
 have h1':ts.length≤1000:=by tm_at "l"
 intro l
 induction l with
 | nil =>
  intro i v n D hD hl hv h hnl hQ
  obtain⟨d,rfl⟩:∃ d,D=d+4:=⟨D - 4,by tm_at "l"⟩
  refine (gf (k:=12) ok (lE ok) (oW ok) rfl ?_).call
  delta im
  have h':Is ts i (Bt.ch [] y).tm:=h
  repeat tm_at "g"
  refine aN (o:="app") ok h1' h rfl ?_
  repeat tm_at "g"
  cases h with | leaf a =>
  refine bK ok h1' a ?_
  repeat tm_at "g"
  refine bo ok S h1' h' ?_
  repeat tm_at "g"
  refine i_F (by simp;simp at hnl;tm_at "l") ?_
  repeat tm_at "g"
  refine dK ok S h1' hn h' hv fun r ts' g hr=>?_
  repeat tm_at "g"
  have:=g.2.2
  refine yw ok (by tm_at "l") g.2.1 hr (h'.mono g.1) fun r2 ts2 g2 hr2=>?_
  repeat tm_at "g"
  exact hQ _ _ (g.trans g2 (by tm_at "l")) hr2
 | cons o l ih =>
  intro i v n D hD hl hv h hnl hQ
  rw[List.length_cons] at hnl hD
  obtain⟨d,rfl⟩:∃ d,D=d+5:=⟨D - 5,by tm_at "l"⟩
  refine (gf (k:=12) ok (lE ok) (oW ok) rfl ?_).call
  delta im
  have h':Is ts i (Bt.ch (o::l) y).tm:=h
  have hl:(o.fit wd l&&nfl wd l)=true:=hl
  have hl2:=(Bool.and_eq_true_iff.mp hl).2
  have e1:(n:Int)+1=((n+1:Nat):Int):=rfl
  cases o with
  | not =>
   repeat tm_at "g"
   refine aN (o:="bvnot") ok h1' h rfl ?_
   repeat tm_at "g"
   cases h with | @un _ j _ _ _ _ hj a =>
   refine bK ok h1' a ?_
   repeat tm_at "g"
   refine bo ok S h1' h' ?_
   repeat tm_at "g"
   refine i_F (by simp;tm_at "l") ?_
   repeat tm_at "g"
   refine gy ok S.hi hv (n:=false) ?_
   repeat tm_at "g"
   refine aL (by decide) (by decide) (v:=.int j) rfl ?_
   repeat tm_at "g"
   rw[e1]
   refine ih j _ (n+1) (d+4) (by tm_at "l") hl2 (cz hv) hj (by tm_at "l") fun r ts' g hr=>?_
   repeat tm_at "g"
   exact hQ r ts' g hr
  | neg =>
   repeat tm_at "g"
   refine aN (o:="bvneg") ok h1' h rfl ?_
   repeat tm_at "g"
   cases h with | @un _ j _ _ _ _ hj a =>
   refine bK ok h1' a ?_
   repeat tm_at "g"
   refine bo ok S h1' h' ?_
   repeat tm_at "g"
   refine i_F (by simp;tm_at "l") ?_
   repeat tm_at "g"
   refine gy ok S.hi hv (n:=true) ?_
   repeat tm_at "g"
   refine aL (by decide) (by decide) (v:=.int j) rfl ?_
   repeat tm_at "g"
   rw[e1]
   refine ih j _ (n+1) (d+4) (by tm_at "l") hl2 (cz hv) hj (by tm_at "l") fun r ts' g hr=>?_
   repeat tm_at "g"
   exact hQ r ts' g hr
  | add k =>
   have hk:=(O1.fit_lt (Bool.and_eq_true_iff.mp hl).1).2
   repeat tm_at "g"
   refine aN (o:="bvadd") ok h1' h rfl ?_
   repeat tm_at "g"
   cases h with | @bin _ jk j _ _ _ _ hik hj a =>
   have hik:Is ts jk (Bt.num k).tm:=hik
   refine bK ok h1' a ?_
   repeat tm_at "g"
   refine bo ok S h1' h' ?_
   repeat tm_at "g"
   refine i_F (by simp;tm_at "l") ?_
   repeat tm_at "g"
   refine aL (by decide) (by decide) (v:=.int jk) rfl ?_
   repeat tm_at "g"
   refine aX ok h1' hik ?_
   repeat tm_at "g"
   refine bw ?_
   repeat tm_at "g"
   refine aL (by decide) (by decide) (v:=.int jk) rfl ?_
   repeat tm_at "g"
   refine bt ok h1' hik ?_
   repeat tm_at "g"
   refine iH ok S.hi hv hk true ?_
   repeat tm_at "g"
   refine aL (by decide) (by decide) (v:=.int j) rfl ?_
   repeat tm_at "g"
   rw[e1]
   refine ih j _ (n+1) (d+4) (by tm_at "l") hl2 pK hj (by tm_at "l") fun r ts' g hr=>?_
   repeat tm_at "g"
   exact hQ r ts' g hr
end
section
set_option maxHeartbeats 2000000
noncomputable def lea(wd:Nat)(s:Bool):Nat:=if s then 2 ^ (wd - 1) else 0
noncomputable def mos(wd:Nat)(s:Bool):Nat:=if s then 2 ^ (wd - 1) - 1 else 2 ^ wd - 1
noncomputable def askV(wd:Nat)(s:Bool)(a b:Nat):Bool:=decide ((a+lea wd s) % 2 ^ wd < (b+lea wd s) % 2 ^ wd)
noncomputable def askT(wd:Nat)(s:Bool)(a b:Bt):Tu:=match a,b with
 | .num u,.num v=>trB (askV wd s u v)
 | .ch l y,.num v=>if v=lea wd s then .ff else if v=mos wd s then notT (eqL wd v l y) else if v=(lea wd s+1) % 2 ^ wd then eqL wd (lea wd s) l y else .ask s a b
 | .num u,.ch l y=>if u=mos wd s then .ff else if u=lea wd s then notT (eqL wd u l y) else .ask s a b
 | .ch l y,.ch r z=>if Bt.ch l y=.ch r z then .ff else .ask s a b
variable{w:World}{h0:Heap}{mg mb:Str→Option Value}{E:En}{wd:Nat}{ts:List T}{d:Nat}{Q:V→St→Prop}{i j s:Int}{e f:T}{σ:St}{t u:Tm}{b p:Bt}{v k:Nat}{l:List O1}{y:Bool}{kn:List (V×V)}{x:Tu}
theorem vo{t:ME Bool}{ρ:Env'}{K:Bool→St→Prop}(h:∀ K:Bool→St→Prop,K false σ→t d ρ σ K)(k:K false σ):t d ρ σ K:=h K k
theorem io(ok:(cx w h0 mg mb).Ok)(S:Stand E wd)(h1:ts.length≤990)(hn:ts.Nodup)(sw:Bool)(h:Is ts i (Bt.num v).tm)(hv:v < 2 ^ wd)(h':Is ts j (Bt.ch l y).tm)(hl:nfl wd l=true)(hl4:l.length≤4)(hQ:∀ r ts',Grow ts 2 ts'→IsT ts' r (eqL wd v l y)→Q (.int r) (Z E ts')) :
  CallT (cx w h0 mg mb) (.ref 1055) (d+9) [.inst 1080 13,.int (if sw then j else i),.int (if sw then i else j)] (Z E ts) Q:=by
 have h1':ts.length≤1000:=by tm_at "l"
 refine (gf (k:=0) ok (ug ok) (qq ok) rfl ?_).call
 delta ng
 cases sw with
 | false =>
  repeat tm_at "g"
  refine fQ (fun m ρ σ=>σ=Z E ts∧ρ=[some (.inst 1080 13),some (.int i),some (.int j),some (.int 0)]) 0 ⟨rfl,rfl⟩ ?_
  rintro n ρ σ ⟨rfl,rfl⟩
  repeat tm_at "g"
  refine aN (o:="bvnum") ok h1' h rfl ?_
  repeat tm_at "g"
  refine aX ok h1' h' ?_
  repeat tm_at "g"
  refine aX ok h1' h ?_
  repeat tm_at "g"
  refine bt ok h1' h ?_
  repeat tm_at "g"
  refine nU ok S h1 hn l j v 0 (d+8) (by tm_at "l") hl hv h' (by tm_at "l") fun r ts' g hr=>?_
  repeat tm_at "g"
  exact hQ r ts' g hr
 | true =>
  repeat tm_at "g"
  refine fQ (fun m ρ σ=>σ=Z E ts∧ρ=[some (.inst 1080 13),some (.int j),some (.int i),some (.int 0)]) 0 ⟨rfl,rfl⟩ ?_
  rintro n ρ σ ⟨rfl,rfl⟩
  refine vo (fun K hK=>?_) ?_
  ·rcases l with _ | ⟨o,l⟩
   ·repeat tm_at "g"
    refine aN (o:="app") ok h1' h' rfl ?_
    repeat tm_at "g"
    exact hK
   ·cases o
    ·repeat tm_at "g"
     refine aN (o:="bvnot") ok h1' h' rfl ?_
     repeat tm_at "g"
     refine aN (o:="bvnot") ok h1' h' rfl ?_
     repeat tm_at "g"
     refine aN (o:="bvnum") ok h1' h rfl ?_
     repeat tm_at "g"
     exact hK
    ·repeat tm_at "g"
     refine aN (o:="bvneg") ok h1' h' rfl ?_
     repeat tm_at "g"
     refine aN (o:="bvneg") ok h1' h' rfl ?_
     repeat tm_at "g"
     refine aN (o:="bvnum") ok h1' h rfl ?_
     repeat tm_at "g"
     exact hK
    ·repeat tm_at "g"
     refine aN (o:="bvadd") ok h1' h' rfl ?_
     repeat tm_at "g"
     exact hK
  repeat tm_at "g"
  refine aX ok h1' h ?_
  repeat tm_at "g"
  refine aX ok h1' h ?_
  repeat tm_at "g"
  refine bt ok h1' h ?_
  repeat tm_at "g"
  refine nU ok S h1 hn l j v 0 (d+8) (by tm_at "l") hl hv h' (by tm_at "l") fun r ts' g hr=>?_
  repeat tm_at "g"
  exact hQ r ts' g hr
theorem v6(ok:(cx w h0 mg mb).Ok)(hlo:1≤wd)(hw:wd≤3){a b:Nat}(ha:a < 2 ^ wd)(hb:b < 2 ^ wd)(sg:Bool)(hQ:Q (.bool (askV wd sg a b)) σ):CallT (cx w h0 mg mb) (.ref 191) (d+2) [.str (ba sg),.int a,.int b,.int wd] σ Q:=by
 refine (aA (k:=0) ok (pT ok) (q9 ok) rfl ?_).call
 delta o9
 have key:=all2 (P:=fun wd a b=>decide (1≤wd→askV wd false a b=decide ((a:Int) < b))&&decide (1≤wd→askV wd true a b=decide ((if (a:Int).fdiv (2 ^ (wd - 1))==1 then (a:Int) - 2 ^ wd else a) < (if (b:Int).fdiv (2 ^ (wd - 1))==1 then (b:Int) - 2 ^ wd else b)))) (by decide +kernel) hw ha hb
 simp only[Bool.and_eq_true,decide_eq_true_eq] at key
 cases sg with
 | false =>
  repeat tm_at "g"
  rw[← key.1 hlo]
  exact hQ
 | true =>
  have go:∀ {a:Nat} {Q:V→St→Prop},Q (.int (if (a:Int).fdiv (2 ^ (wd - 1))==1 then (a:Int) - 2 ^ wd else a)) σ→CallT (cx w h0 mg mb) (.ref 149) (d+1) [.int a,.int wd] σ Q:=fun {a} {Q} hq=>by
   refine (aA (k:=0) ok (wM ok) (rJ ok) rfl ?_).call
   delta jf
   repeat tm_at "g"
   refine wL (by tm_at "l") ?_
   have e:((wd:Int) - 1).toNat=wd - 1:=by tm_at "l"
   rw[e]
   repeat tm_at "g"
   refine cE (fun h=>?_) (fun h=>?_)
   ·rw[if_pos h] at hq
    repeat tm_at "g"
    refine eg (by tm_at "l") (by tm_at "l") (by decide) ?_
    repeat tm_at "g"
    have e2:(1:Int) * 2 ^ ((wd:Int)).toNat=2 ^ wd:=by simp
    rw[e2]
    exact hq
   ·rw[if_neg (by rw[h];decide)] at hq
    repeat tm_at "g"
    exact hq
  repeat tm_at "g"
  refine go ?_
  repeat tm_at "g"
  refine go ?_
  repeat tm_at "g"
  rw[← key.2 hlo]
  exact hQ
end
section
set_option maxHeartbeats 2000000
variable{w:World}{h0:Heap}{mg mb:Str→Option Value}{E:En}{wd:Nat}{ts:List T}{d:Nat}{Q:V→St→Prop}{i j s:Int}{e f:T}{σ:St}{t u:Tm}{b p:Bt}{v k:Nat}{l:List O1}{y:Bool}{kn:List (V×V)}{x:Tu}
noncomputable def Bt.fine(wd:Nat)(b:Bt):Prop:=b.nf wd=true∧b.len≤4
theorem mR(hlo:1≤wd)(sg:Bool):lea wd sg < 2 ^ wd∧mos wd sg < 2 ^ wd:=by
 have h:2 ^ (wd - 1) < 2 ^ wd:=Nat.pow_lt_pow_right (by decide) (by tm_at "l")
 have hp:0 < 2 ^ wd:=Nat.pow_pos (by decide)
 cases sg
 ·exact⟨hp,by show 2 ^ wd - 1 < _;tm_at "l"⟩
 ·exact⟨h,by show 2 ^ (wd - 1) - 1 < _;tm_at "l"⟩
theorem w4(hw:wd≤3){a:Nat}(ha:a < 2 ^ wd):Builtin.bitAnd ((a:Int)+1) (2 ^ wd - 1)=((a+1) % 2 ^ wd:Nat):=by
 have:=all2 (P:=fun wd a _=>decide (Builtin.bitAnd ((a:Int)+1) (2 ^ wd - 1)=((a+1) % 2 ^ wd:Nat))) (by decide +kernel) hw ha ha
 exact of_decide_eq_true this
theorem c9(a b:Nat):(((a:Int)==(b:Int)):Bool)=decide (a=b):=by
 by_cases h:a=b
 ·subst h;simp
 ·simp[h];tm_at "l"
theorem cP(a:Nat):(((-1:Int)==(a:Int)):Bool)=false:=beq_eq_false_iff_ne.mpr (by tm_at "l")
noncomputable abbrev frA(sg:Bool)(wd:Nat)(i j:Int):Env':=[some (.inst 1080 13),some (.str (ba sg)),some (.int i),some (.int j),some (.int wd),some (.int (lea wd sg)),some (.int (mos wd sg))]
theorem sq(ok:(cx w h0 mg mb).Ok)(S:Stand E wd)(B:Base ts)(h1:ts.length≤980)(hn:ts.Nodup)(sg:Bool)(h:Is ts i b.tm)(hb:b.fine wd)(h':Is ts j p.tm)(hp:p.fine wd)(hne:b≠p)(hnn:(b.isN&&p.isN)=false)(hQ:∀ r ts',Grow ts 4 ts'→IsT ts' r (askT wd sg b p)→Q (.int r) (Z E ts')) :
  dQ (cx w h0 mg mb) (d+10) (frA sg wd i j) (Z E ts) (bx Q):=by
 delta dQ
 have h1':ts.length≤1000:=by tm_at "l"
 have hlo:=S.lo
 obtain⟨hlea,hmos⟩:=mR hlo sg
 cases b with
 | num u =>
  cases p with
  | num v=>cases hnn
  | ch l y =>
   have hu:=da hb.1
   have e0:askT wd sg (.num u) (.ch l y)=if u=mos wd sg then .ff else if u=lea wd sg then notT (eqL wd u l y) else .ask sg (.num u) (.ch l y):=rfl
   rw[e0] at hQ
   clear e0
   repeat tm_at "g"
   refine bz ok h1' h' ?_
   repeat tm_at "g"
   refine i_F (cP _) ?_
   repeat tm_at "g"
   refine bz ok h1' h ?_
   refine d7 (y:=.int (mos wd sg)) rfl ?_
   show aF _ _ (.int (u:Int)) _ _
   repeat tm_at "g"
   rw[c9]
   by_cases hm:u=mos wd sg
   ·rw[if_pos hm] at hQ
    refine i_T (decide_eq_true hm) ?_
    repeat tm_at "g"
    exact hQ 2 ts (Grow.refl hn) (.ff B.f)
   rw[if_neg hm] at hQ
   refine i_F (decide_eq_false hm) ?_
   repeat tm_at "g"
   refine bz ok h1' h ?_
   refine d7 (y:=.int (lea wd sg)) rfl ?_
   show aF _ _ (.int (u:Int)) _ _
   repeat tm_at "g"
   rw[c9]
   by_cases hl:u=lea wd sg
   ·rw[if_pos hl] at hQ
    refine i_T (decide_eq_true hl) ?_
    repeat tm_at "g"
    refine io ok S (by tm_at "l") hn false h hu h' hp.1 hp.2 fun r ts' g hr=>?_
    repeat tm_at "g"
    have:=g.2.2
    refine fO ok (B.mono g.1) (by tm_at "l") g.2.1 hr fun r2 ts2 g2 hr2=>?_
    repeat tm_at "g"
    exact hQ r2 ts2 (g.trans g2 (by tm_at "l")) hr2
   rw[if_neg hl] at hQ
   refine i_F (decide_eq_false hl) ?_
   repeat tm_at "g"
   refine bz ok h1' h' ?_
   repeat tm_at "g"
   refine i_F (cP _) ?_
   repeat tm_at "g"
   refine aX ok h1' h' ?_
   repeat tm_at "g"
   refine ip ok S h1' hn sg h h' fun r ts' g hr=>?_
   repeat tm_at "g"
   exact hQ r ts' (g.le (by tm_at "l")) hr
 | ch l y =>
  cases p with
  | num v =>
   have hv:=da hp.1
   have e0:askT wd sg (.ch l y) (.num v)=if v=lea wd sg then .ff else if v=mos wd sg then notT (eqL wd v l y) else if v=(lea wd sg+1) % 2 ^ wd then eqL wd (lea wd sg) l y else .ask sg (.ch l y) (.num v):=rfl
   rw[e0] at hQ
   clear e0
   repeat tm_at "g"
   refine bz ok h1' h' ?_
   refine d7 (y:=.int (lea wd sg)) rfl ?_
   show aF _ _ (.int (v:Int)) _ _
   repeat tm_at "g"
   rw[c9]
   by_cases hl:v=lea wd sg
   ·rw[if_pos hl] at hQ
    refine i_T (decide_eq_true hl) ?_
    repeat tm_at "g"
    exact hQ 2 ts (Grow.refl hn) (.ff B.f)
   rw[if_neg hl] at hQ
   refine i_F (decide_eq_false hl) ?_
   repeat tm_at "g"
   refine bz ok h1' h ?_
   repeat tm_at "g"
   refine i_F (cP _) ?_
   repeat tm_at "g"
   refine bz ok h1' h ?_
   repeat tm_at "g"
   refine i_F (cP _) ?_
   repeat tm_at "g"
   refine bz ok h1' h' ?_
   refine d7 (y:=.int (mos wd sg)) rfl ?_
   show aF _ _ (.int (v:Int)) _ _
   repeat tm_at "g"
   rw[c9]
   by_cases hm:v=mos wd sg
   ·rw[if_pos hm] at hQ
    refine i_T (decide_eq_true hm) ?_
    repeat tm_at "g"
    refine io ok S (by tm_at "l") hn true h' hv h hb.1 hb.2 fun r ts' g hr=>?_
    repeat tm_at "g"
    have:=g.2.2
    refine fO ok (B.mono g.1) (by tm_at "l") g.2.1 hr fun r2 ts2 g2 hr2=>?_
    repeat tm_at "g"
    exact hQ r2 ts2 (g.trans g2 (by tm_at "l")) hr2
   rw[if_neg hm] at hQ
   refine i_F (decide_eq_false hm) ?_
   repeat tm_at "g"
   refine aX ok h1' h' ?_
   repeat tm_at "g"
   refine bt ok h1' h' ?_
   repeat tm_at "g"
   refine cQ ok (by have:=S.hi;tm_at "l") ?_
   repeat tm_at "g"
   rw[w4 S.hi hlea,c9]
   by_cases hx:v=(lea wd sg+1) % 2 ^ wd
   ·rw[if_pos hx] at hQ
    refine i_T (decide_eq_true hx) ?_
    repeat tm_at "g"
    refine dK ok S h1' hn h hlea fun r ts' g hr=>?_
    repeat tm_at "g"
    have:=g.2.2
    refine io ok S (by tm_at "l") g.2.1 true hr hlea (h.mono g.1) hb.1 hb.2 fun r2 ts2 g2 hr2=>?_
    repeat tm_at "g"
    exact hQ r2 ts2 (g.trans g2 (by tm_at "l")) hr2
   rw[if_neg hx] at hQ
   refine i_F (decide_eq_false hx) ?_
   repeat tm_at "g"
   refine ip ok S h1' hn sg h h' fun r ts' g hr=>?_
   repeat tm_at "g"
   exact hQ r ts' (g.le (by tm_at "l")) hr
  | ch r z =>
   have e0:askT wd sg (.ch l y) (.ch r z)=.ask sg (.ch l y) (.ch r z):=by show (if _ then _ else _)=_;rw[if_neg hne]
   rw[e0] at hQ
   clear e0
   repeat tm_at "g"
   refine bz ok h1' h' ?_
   repeat tm_at "g"
   refine i_F (cP _) ?_
   repeat tm_at "g"
   refine bz ok h1' h ?_
   repeat tm_at "g"
   refine i_F (cP _) ?_
   repeat tm_at "g"
   refine bz ok h1' h ?_
   repeat tm_at "g"
   refine i_F (cP _) ?_
   repeat tm_at "g"
   refine bz ok h1' h' ?_
   repeat tm_at "g"
   refine i_F (cP _) ?_
   repeat tm_at "g"
   refine aX ok h1' h' ?_
   repeat tm_at "g"
   refine ip ok S h1' hn sg h h' fun r ts' g hr=>?_
   repeat tm_at "g"
   exact hQ r ts' (g.le (by tm_at "l")) hr
theorem iG(b:Bt)(sg:Bool):askT wd sg b b=.ff:=by
 cases b with
 | num v=>show trB (decide (_ < _))=_;rw[decide_eq_false (Nat.lt_irrefl _)];rfl
 | ch l y=>show (if _ then _ else _)=_;rw[if_pos rfl]
theorem bV(ok:(cx w h0 mg mb).Ok)(S:Stand E wd)(B:Base ts)(h1:ts.length≤980)(hn:ts.Nodup)(sg:Bool)(h:Is ts i b.tm)(hb:b.fine wd)(h':Is ts j p.tm)(hp:p.fine wd)(hQ:∀ r ts',Grow ts 4 ts'→IsT ts' r (askT wd sg b p)→Q (.int r) (Z E ts')) :
  CallT (cx w h0 mg mb) (.ref 1005) (d+11) [.inst 1080 13,.str (ba sg),.int i,.int j] (Z E ts) Q:=by
 refine (aA (k:=3) ok (nQ ok) (pp ok) rfl ?_).call
 delta gF
 have h1':ts.length≤1000:=by tm_at "l"
 have hlo:=S.lo
 have hhi:=S.hi
 have n1:(ba sg==("bvule":Str))=false:=by cases sg<;>decide +kernel
 have n2:(ba sg==("bvsle":Str))=false:=by cases sg<;>decide +kernel
 repeat tm_at "g"
 refine i_F n1 ?_
 repeat tm_at "g"
 refine i_F n2 ?_
 repeat tm_at "g"
 refine bo ok S h1' h ?_
 repeat tm_at "g"
 rw[uD hn h h']
 by_cases e:b=p
 ·refine i_T (decide_eq_true e) ?_
  repeat tm_at "g"
  exact hQ 2 ts (Grow.refl hn) (by subst e;rw[iG];exact .ff B.f)
 refine i_F (decide_eq_false e) ?_
 repeat tm_at "g"
 have rest:(b.isN&&p.isN)=false→dQ (cx w h0 mg mb) (d+10) (frA sg wd i j) (Z E ts) (bx Q):=fun hnn=>sq ok S B h1 hn sg h hb h' hp e hnn hQ
 have fin:(b.isN&&p.isN)=false→(∀ (K:Fl→Env'→St→Prop),K=bx Q→ag (aw (bQ 2 (aU (nmA 5) (aU (nmA 6) bJ))) (aR (an .Eq (aa 1) (al ("bvult":Str))) (aB (ab (ak 0) (ab (ay (cx w h0 mg mb) (.ref 142) (ab (aa 4) ae)) ae))) (aB (ab (au .LShift (ak 1) (au .Sub (aa 4) (ak 1))) (ab (ay (cx w h0 mg mb) (.ref 142) (ab (au .Sub (aa 4) (ak 1)) ae)) ae))))) (dQ (cx w h0 mg mb)) (d+10) [some (.inst 1080 13),some (.str (ba sg)),some (.int i),some (.int j),some (.int wd),none,none] (Z E ts) K):=fun hnn K hK=>by
  subst hK
  have rest:=rest hnn
  have hp1:1≤2 ^ wd:=Nat.one_le_two_pow
  have hp2:1≤2 ^ (wd - 1):=Nat.one_le_two_pow
  cases sg with
  | false =>
   repeat tm_at "g"
   refine cQ ok (by tm_at "l") ?_
   repeat tm_at "g"
   have e1:(2:Int) ^ wd - 1=((2 ^ wd - 1:Nat):Int):=by rw[Int.ofNat_sub hp1];simp
   rw[e1]
   exact rest
  | true =>
   repeat tm_at "g"
   refine eg (by tm_at "l") (by tm_at "l") (by decide) ?_
   repeat tm_at "g"
   have e0:(wd:Int) - 1=((wd - 1:Nat):Int):=by tm_at "l"
   rw[e0]
   refine cQ ok (by tm_at "l") ?_
   repeat tm_at "g"
   have e1:(2:Int) ^ (wd - 1) - 1=((2 ^ (wd - 1) - 1:Nat):Int):=by rw[Int.ofNat_sub hp2];simp
   have e2:(1:Int) * 2 ^ (((wd - 1:Nat):Int)).toNat=((2 ^ (wd - 1):Nat):Int):=by simp
   rw[e1,e2]
   exact rest
 cases hbn:b.isN with
 | false =>
  refine aX ok h1' h ?_
  rw[hbn]
  refine dO ?_
  refine ee ?_
  repeat tm_at "g"
  exact fin (by rw[hbn];rfl) _ rfl
 | true =>
  refine aX ok h1' h ?_
  rw[hbn]
  refine dO ?_
  refine bw ?_
  repeat tm_at "g"
  refine aX ok h1' h' ?_
  cases hpn:p.isN with
  | false =>
   refine dO ?_
   refine ee ?_
   repeat tm_at "g"
   exact fin (by rw[hbn,hpn];rfl) _ rfl
  | true =>
   cases b with
   | ch=>cases hbn
   | num u =>
   cases p with
   | ch=>cases hpn
   | num v =>
   repeat tm_at "g"
   refine bt ok h1' h ?_
   repeat tm_at "g"
   refine bt ok h1' h' ?_
   repeat tm_at "g"
   refine v6 ok hlo hhi (da hb.1) (da hp.1) sg ?_
   repeat tm_at "g"
   refine oI ok B fun r hr=>?_
   repeat tm_at "g"
   exact hQ r ts (Grow.refl hn) hr
noncomputable def db(s:Bool):Str:=if s then "bvsle" else "bvule"
theorem eN(ok:(cx w h0 mg mb).Ok)(S:Stand E wd)(B:Base ts)(h1:ts.length≤980)(hn:ts.Nodup)(sg:Bool)(h:Is ts i b.tm)(hb:b.fine wd)(h':Is ts j p.tm)(hp:p.fine wd)(hQ:∀ r ts',Grow ts 5 ts'→IsT ts' r (notT (askT wd sg p b))→Q (.int r) (Z E ts')) :
  CallT (cx w h0 mg mb) (.ref 1005) (d+12) [.inst 1080 13,.str (db sg),.int i,.int j] (Z E ts) Q:=by
 refine (aA (k:=3) ok (nQ ok) (pp ok) rfl ?_).call
 delta gF
 cases sg with
 | false =>
  repeat tm_at "g"
  refine bV ok S B h1 hn false h' hp h hb fun r ts' g hr=>?_
  repeat tm_at "g"
  have:=g.2.2
  refine fO ok (B.mono g.1) (by tm_at "l") g.2.1 hr fun r2 ts2 g2 hr2=>?_
  repeat tm_at "g"
  exact hQ r2 ts2 (g.trans g2 (by tm_at "l")) hr2
 | true =>
  repeat tm_at "g"
  refine bV ok S B h1 hn true h' hp h hb fun r ts' g hr=>?_
  repeat tm_at "g"
  have:=g.2.2
  refine fO ok (B.mono g.1) (by tm_at "l") g.2.1 hr fun r2 ts2 g2 hr2=>?_
  repeat tm_at "g"
  exact hQ r2 ts2 (g.trans g2 (by tm_at "l")) hr2
end
section
set_option maxHeartbeats 2000000
noncomputable def tv(wd x y:Nat):Tu→Bool
 | .tt=>true
 | .ff=>false
 | .ask s a b=>askV wd s (a.ev wd x y) (b.ev wd x y)
 | .eq v c=>decide ((if c then y else x)=v)
 | .no t=>!tv wd x y t
section
variable{wd x y v:Nat}{b p:Bt}{l:List O1}{c sg:Bool}{t:Tu}
theorem tv_not:tv wd x y (notT t)=!tv wd x y t:=by
 cases t with
 | no t=>show tv wd x y t=!!tv wd x y t;rw[Bool.not_not]
 | _=>rfl
theorem tG{z:Bool}:tv wd x y (trB z)=z:=by cases z<;>rfl
theorem fY{f g:Nat→Nat}{a v:Nat}(h1:g (f a)=a)(h2:f (g v)=v):decide (f a=v)=decide (a=g v):=by
 by_cases h:f a=v
 ·subst h;simp[h1]
 ·have:¬ a=g v:=fun e=>h (by rw[e,h2])
  simp[h,this]
theorem dB(hw:wd≤3)(hx:x < 2 ^ wd)(hy:y < 2 ^ wd):∀ (l:List O1) (v:Nat),nfl wd l=true→v < 2 ^ wd→tv wd x y (eqL wd v l c)=decide (chV wd l (if c then y else x)=v)
 | [],v,_,_=>rfl
 | o::l,v,hl,hv=>by
  have hc:(if c then y else x) < 2 ^ wd:=by cases c<;>assumption
  have hl:(o.fit wd l&&nfl wd l)=true:=hl
  have hl:=Bool.and_eq_true_iff.mp hl
  have ha:=dz (l:=l) hc
  cases o with
  | not=>exact (dB hw hx hy l _ hl.2 (cz hv)).trans (fY (f:=f1 wd false) (g:=f1 wd false) (ey hw false ha) (ey hw false hv)).symm
  | neg=>exact (dB hw hx hy l _ hl.2 (cz hv)).trans (fY (f:=f1 wd true) (g:=f1 wd true) (ey hw true ha) (ey hw true hv)).symm
  | add k =>
   have hk:=(O1.fit_lt hl.1).2
   have key:=fun {a:Nat} (ha:a < 2 ^ wd)=>all2 (P:=fun wd k a=>decide (fs wd (fa wd k a) k=a)&&decide (fa wd k (fs wd a k)=a)) (by decide +kernel) hw hk ha
   simp only[Bool.and_eq_true,decide_eq_true_eq] at key
   exact (dB hw hx hy l _ hl.2 pK).trans (fY (f:=fa wd k) (g:=fun v=>fs wd v k) (key ha).1 (key hv).2).symm
theorem cw(hlo:1≤wd)(hw:wd≤3)(hb:b.nf wd=true)(hp:p.nf wd=true)(hx:x < 2 ^ wd)(hy:y < 2 ^ wd):tv wd x y (askT wd sg b p)=askV wd sg (b.ev wd x y) (p.ev wd x y):=by
 have key:=fun {a:Nat} (ha:a < 2 ^ wd)=>all2 (P:=fun wd a _=>decide (wd=0)||[false,true].all fun s=>decide (askV wd s a (lea wd s)=false)&&decide (askV wd s a (mos wd s)=!decide (a=mos wd s))&&decide (askV wd s a ((lea wd s+1) % 2 ^ wd)=decide (a=lea wd s))&&decide (askV wd s (mos wd s) a=false)&&decide (askV wd s (lea wd s) a=!decide (a=lea wd s))) (by decide +kernel) hw ha ha
 have key:=fun {a:Nat} (ha:a < 2 ^ wd)=>List.all_eq_true.mp ((Bool.or_eq_true_iff.mp (key ha)).resolve_left (by simp;tm_at "l")) sg (by cases sg<;>simp)
 simp only[Bool.and_eq_true,decide_eq_true_eq] at key
 obtain⟨hlea,hmos⟩:=mR hlo sg
 cases b with
 | num u =>
  cases p with
  | num v=>exact tG
  | ch l c =>
   have hu:=da hb
   have ha:=Bt.ev_lt hp hx hy
   obtain⟨⟨⟨⟨k1,k2⟩,k3⟩,k4⟩,k5⟩:=key ha
   show tv wd x y (if u=mos wd sg then .ff else if u=lea wd sg then notT (eqL wd u l c) else .ask sg (.num u) (.ch l c))=askV wd sg u _
   split
   ·rename_i h;subst h;exact k4.symm
   split
   ·rename_i _ h;subst h
    rw[tv_not,dB hw hx hy l _ hp hlea]
    exact k5.symm
   ·rfl
 | ch l c =>
  have ha:=Bt.ev_lt hb hx hy
  obtain⟨⟨⟨⟨k1,k2⟩,k3⟩,k4⟩,k5⟩:=key ha
  cases p with
  | num v =>
   show tv wd x y (if v=lea wd sg then .ff else if v=mos wd sg then notT (eqL wd v l c) else if v=(lea wd sg+1) % 2 ^ wd then eqL wd (lea wd sg) l c else .ask sg (.ch l c) (.num v))=askV wd sg _ v
   split
   ·rename_i h;subst h;exact k1.symm
   split
   ·rename_i _ h;subst h
    rw[tv_not,dB hw hx hy l _ hb hmos]
    exact k2.symm
   split
   ·rename_i _ _ h;subst h
    rw[dB hw hx hy l _ hb hlea]
    exact k3.symm
   ·rfl
  | ch r z =>
   show tv wd x y (if Bt.ch l c=.ch r z then .ff else .ask sg (.ch l c) (.ch r z))=_
   split
   ·rename_i h;rw[h]
    show false=decide (_ < _)
    rw[decide_eq_false (Nat.lt_irrefl _)]
   ·rfl
end
end
section
set_option maxHeartbeats 2000000
noncomputable def cR(c:Bool):Int:=if c then 4 else 3
noncomputable def Vars(ts:List T):Prop:=∀ c,Is ts (cR c) (varT c)
theorem Vars.mono{ts ts':List T}(h:Vars ts)(p:ts <+: ts'):Vars ts':=fun c=>(h c).mono p
theorem tD(a b:Nat):(Builtin.Range.rangePlace? 0 b 1 a).isSome=decide (a < b):=by
 unfold Builtin.Range.rangePlace?
 by_cases h:a < b
 ·simp[h]
 ·simp[h]
theorem nH{σ:St}{a b:Nat}{k:Bool→Prop}(h:k (decide (a < b))):aF σ .In (.int a) (.rng 0 b 1) k:=CmpI.inR (by rw[tD];exact h)
structure Env2 (E:En) (ts:List T) (wi:Nat) (x y:Nat) (kvs:List (V×V)):Prop where
 at_:(Z E ts)[wi]?=some (some (.dict kvs))
 key:∀ i:Int,aY kvs (.int i)
noncomputable def Env2.has(kvs:List (V×V))(x y:Nat)(c:Bool):Prop:=dget kvs (.int (cR c))=some (.int (if c then y else x:Nat))
noncomputable def Bt.of(kvs:List (V×V))(x y:Nat):Bt→Prop
 | .num _=>True
 | .ch _ c=>Env2.has kvs x y c
theorem cF(wd:Nat):(2:Int) ^ ((wd:Int)).toNat=((2 ^ wd:Nat):Int):=by simp
theorem yG{wd a:Nat}(hw:wd≤3)(ha:a < 2 ^ wd):((0:Int) - a).fmod ((2 ^ wd:Nat):Int)=(f1 wd true a:Nat)∧((2 ^ wd:Nat):Int) - 1 - a=(f1 wd false a:Nat):=by
 have:=all2 (P:=fun wd a _=>decide (((0:Int) - a).fmod ((2 ^ wd:Nat):Int)=(f1 wd true a:Nat))&&decide (((2 ^ wd:Nat):Int) - 1 - a=(f1 wd false a:Nat))) (by decide +kernel) hw ha ha
 simpa only[Bool.and_eq_true,decide_eq_true_eq] using this
theorem x5{wd a b:Nat}:((a:Int)+b).fmod ((2 ^ wd:Nat):Int)=(fa wd a b:Nat):=by
 rw[Int.fmod_eq_emod_of_nonneg _ (by tm_at "l")]
 unfold fa
 simp
variable{w:World}{h0:Heap}{mg mb:Str→Option Value}{E:En}{wd:Nat}{ts:List T}{d:Nat}{Q:V→St→Prop}{i j s:Int}{e f:T}{σ:St}{t u:Tm}{b p:Bt}{v k x y wi:Nat}{l:List O1}{c:Bool}{kn kvs:List (V×V)}
theorem bk(ok:(cx w h0 mg mb).Ok)(h1:ts.length≤1000)(h:At ts i e){l:List Int}(ho:e.args=l)(hQ:Q (.tup (l.map V.int)) (Z E ts)):CallT (cx w h0 mg mb) (.ref 341) (d+1) [.inst 762 1,.int i] (Z E ts) Q:=bK ok h1 h (by rw[ho];exact hQ)
theorem bD(ok:(cx w h0 mg mb).Ok)(h1:ts.length≤1000)(h:At ts i e){o:Str}(ho:e.op=o)(hQ:Q (.str o) (Z E ts)):CallT (cx w h0 mg mb) (.ref 334) (d+1) [.inst 762 1,.int i] (Z E ts) Q:=dp ok h1 h (by rw[ho];exact hQ)
theorem gT(ok:(cx w h0 mg mb).Ok)(h1:ts.length≤1000)(h:Is ts i (numT v))(hQ:Q (.int v) (Z E ts)):CallT (cx w h0 mg mb) (.ref 1101) (d+2) [.inst 762 1,.int i,.ref wi] (Z E ts) Q:=by
 refine (aA (k:=3) ok (cr ok) (cM ok) rfl ?_).call
 delta bM
 cases h with | leaf a =>
 repeat tm_at "g"
 refine bD (o:="bvnum") ok h1 a rfl ?_
 repeat tm_at "g"
 refine aP rfl ?_
 repeat tm_at "g"
 refine bk (l:=[]) ok h1 a rfl ?_
 repeat tm_at "g"
 refine aZ ⟨Nat.le_of_ble_eq_true rfl,cD (fun x=>x) (fun z hz K hK=>(nomatch hz)) ?_⟩
 repeat tm_at "g"
 refine dP ok h1 a ?_
 repeat tm_at "g"
 exact hQ
theorem rT(ok:(cx w h0 mg mb).Ok)(S:Stand E wd)(h1:ts.length≤1000)(hn:ts.Nodup)(vs:Vars ts)(W:Env2 E ts wi x y kvs)(hx:x < 2 ^ wd)(hy:y < 2 ^ wd)(hc:Env2.has kvs x y c):∀ (l:List O1) (i:Int) (D:Nat) (Q:V→St→Prop),Is ts i (chT l c)→l.length+3≤D→Q (.int (chV wd l (if c then y else x):Nat)) (Z E ts) →
  CallT (cx w h0 mg mb) (.ref 1101) D [.inst 762 1,.int i,.ref wi] (Z E ts) Q:=by
 have hxy:(if c then y else x) < 2 ^ wd:=by cases c<;>assumption
 intro l
 induction l with
 | nil =>
  intro i D Q h hD hQ
  obtain⟨d,rfl⟩:∃ d,D=d+3:=⟨D - 3,by tm_at "l"⟩
  have hi:i=cR c:=Is.inj hn h (vs c)
  subst hi
  refine (aA (k:=3) ok (cr ok) (cM ok) rfl ?_).call
  delta bM
  cases h with | leaf a =>
  repeat tm_at "g"
  refine bD (o:="app") ok h1 a rfl ?_
  repeat tm_at "g"
  refine aP rfl ?_
  repeat tm_at "g"
  refine bk (l:=[]) ok h1 a rfl ?_
  repeat tm_at "g"
  refine aZ ⟨Nat.le_of_ble_eq_true rfl,cD (fun x=>x) (fun z hz K hK=>(nomatch hz)) ?_⟩
  repeat tm_at "g"
  refine ef W.at_ (W.key _) hc ?_
  repeat tm_at "g"
  exact hQ
 | cons o l ih =>
  intro i D Q h hD hQ
  rw[List.length_cons] at hD
  obtain⟨d,rfl⟩:∃ d,D=d+4:=⟨D - 4,by tm_at "l"⟩
  have ha:=dz (l:=l) hxy
  have hp0:0 < 2 ^ wd:=Nat.pow_pos (by decide)
  refine (aA (k:=3) ok (cr ok) (cM ok) rfl ?_).call
  delta bM
  obtain⟨v1,v2⟩:=yG S.hi ha
  cases o with
  | not =>
   cases h with | @un _ j _ _ _ _ hj a =>
   repeat tm_at "g"
   refine bD (o:="bvnot") ok h1 a rfl ?_
   repeat tm_at "g"
   refine aP rfl ?_
   repeat tm_at "g"
   refine bk (l:=[j]) ok h1 a rfl ?_
   repeat tm_at "g"
   refine aZ ⟨Nat.le_of_ble_eq_true rfl,cD (fun _=>.int (chV wd l (if c then y else x):Nat)) (fun z hz K hK=>?_) ?_⟩
   ·simp at hz;subst hz
    repeat tm_at "g"
    exact ih j _ _ hj (by tm_at "l") hK
   repeat tm_at "g"
   refine bk (l:=[j]) ok h1 a rfl ?_
   repeat tm_at "g"
   refine aL (by decide) (by decide) (v:=.int j) rfl ?_
   refine bo (b:=.ch l c) ok S h1 hj ?_
   repeat tm_at "g"
   refine cK (by tm_at "l") (by have:=S.hi;tm_at "l") (by decide) ?_
   rw[cF]
   repeat tm_at "g"
   refine bn (by decide) (by decide) (v:=.int (chV wd l (if c then y else x):Nat)) rfl ?_
   repeat tm_at "g"
   rw[v2]
   exact hQ
  | neg =>
   cases h with | @un _ j _ _ _ _ hj a =>
   repeat tm_at "g"
   refine bD (o:="bvneg") ok h1 a rfl ?_
   repeat tm_at "g"
   refine aP rfl ?_
   repeat tm_at "g"
   refine bk (l:=[j]) ok h1 a rfl ?_
   repeat tm_at "g"
   refine aZ ⟨Nat.le_of_ble_eq_true rfl,cD (fun _=>.int (chV wd l (if c then y else x):Nat)) (fun z hz K hK=>?_) ?_⟩
   ·simp at hz;subst hz
    repeat tm_at "g"
    exact ih j _ _ hj (by tm_at "l") hK
   repeat tm_at "g"
   refine bk (l:=[j]) ok h1 a rfl ?_
   repeat tm_at "g"
   refine aL (by decide) (by decide) (v:=.int j) rfl ?_
   refine bo (b:=.ch l c) ok S h1 hj ?_
   repeat tm_at "g"
   refine cK (by tm_at "l") (by have:=S.hi;tm_at "l") (by decide) ?_
   rw[cF]
   repeat tm_at "g"
   refine bn (by decide) (by decide) (v:=.int (chV wd l (if c then y else x):Nat)) rfl ?_
   repeat tm_at "g"
   refine cm (by tm_at "l") ?_
   rw[v1]
   repeat tm_at "g"
   exact hQ
  | add k =>
   cases h with | @bin _ jk j _ _ _ _ hk hj a =>
   repeat tm_at "g"
   refine bD (o:="bvadd") ok h1 a rfl ?_
   repeat tm_at "g"
   refine aP rfl ?_
   repeat tm_at "g"
   refine bk (l:=[jk,j]) ok h1 a rfl ?_
   repeat tm_at "g"
   refine aZ ⟨Nat.le_of_ble_eq_true rfl,?_⟩
   show compL _ _ _ _ _ [V.int jk,V.int j] [] _ _
   refine bb ?_
   repeat tm_at "g"
   refine gT ok h1 hk ?_
   repeat tm_at "g"
   refine bb ?_
   repeat tm_at "g"
   refine ih j _ _ hj (by tm_at "l") ?_
   repeat tm_at "g"
   refine bY ?_
   repeat tm_at "g"
   refine bk (l:=[jk,j]) ok h1 a rfl ?_
   repeat tm_at "g"
   refine aL (by decide) (by decide) (v:=.int jk) rfl ?_
   refine bo (b:=.num k) ok S h1 hk ?_
   repeat tm_at "g"
   refine cK (by tm_at "l") (by have:=S.hi;tm_at "l") (by decide) ?_
   rw[cF]
   repeat tm_at "g"
   refine bn (by decide) (by decide) (v:=.int k) rfl ?_
   repeat tm_at "g"
   refine bn (by decide) (by decide) (v:=.int (chV wd l (if c then y else x):Nat)) rfl ?_
   repeat tm_at "g"
   refine cm (by tm_at "l") ?_
   rw[x5]
   repeat tm_at "g"
   exact hQ
end
section
set_option maxHeartbeats 2000000
variable{w:World}{h0:Heap}{mg mb:Str→Option Value}{E:En}{wd:Nat}{ts:List T}{d:Nat}{Q:V→St→Prop}{i j s:Int}{e f:T}{σ:St}{t u:Tm}{b p:Bt}{v k x y wi:Nat}{l:List O1}{c:Bool}{kn kvs:List (V×V)}
theorem cI(ok:(cx w h0 mg mb).Ok)(S:Stand E wd)(h1:ts.length≤1000)(hn:ts.Nodup)(vs:Vars ts)(W:Env2 E ts wi x y kvs)(hx:x < 2 ^ wd)(hy:y < 2 ^ wd)(hb:b.of kvs x y)(hl:b.len≤4)(h:Is ts i b.tm)(hQ:Q (.int (b.ev wd x y:Nat)) (Z E ts)) :
  CallT (cx w h0 mg mb) (.ref 1101) (d+7) [.inst 762 1,.int i,.ref wi] (Z E ts) Q:=by
 cases b with
 | num v=>exact gT ok h1 h hQ
 | ch l c=>exact rT ok S h1 hn vs W hx hy hb l i _ Q h (by have:l.length≤4:=hl;tm_at "l") hQ
noncomputable def Tu.of(wd:Nat)(kvs:List (V×V))(x y:Nat):Tu→Prop
 | .tt=>True
 | .ff=>True
 | .ask _ a b=>(a.of kvs x y∧a.fine wd)∧(b.of kvs x y∧b.fine wd)
 | .eq _ c=>Env2.has kvs x y c
 | .no t=>t.of wd kvs x y
noncomputable def Tu.ht:Tu→Nat
 | .no t=>t.ht+1
 | _=>0
theorem eW{wd:Nat}(hlo:1≤wd)(hw:wd≤3):(((2 ^ wd:Nat):Int)).fdiv 2=((2 ^ (wd - 1):Nat):Int):=by
 have:=all2 (P:=fun wd _ _=>decide (1≤wd→(((2 ^ wd:Nat):Int)).fdiv 2=((2 ^ (wd - 1):Nat):Int))) (by decide +kernel) hw (Nat.pow_pos (by decide)) (Nat.pow_pos (by decide))
 exact of_decide_eq_true this hlo
theorem pX{wd a b:Nat}(ha:a < 2 ^ wd)(hb:b < 2 ^ wd):decide (a < b)=askV wd false a b:=by
 show decide (a < b)=decide ((a+0) % 2 ^ wd < (b+0) % 2 ^ wd)
 rw[Nat.add_zero,Nat.add_zero,Nat.mod_eq_of_lt ha,Nat.mod_eq_of_lt hb]
theorem gd(a b:Nat):((a:Nat):Int).fmod (b:Nat)=((a % b:Nat):Int):=by
 rw[Int.fmod_eq_emod_of_nonneg _ (by tm_at "l")]
 simp
theorem dE(ok:(cx w h0 mg mb).Ok)(S:Stand E wd)(h1:ts.length≤1000)(hn:ts.Nodup)(vs:Vars ts)(W:Env2 E ts wi x y kvs)(hx:x < 2 ^ wd)(hy:y < 2 ^ wd):∀ (t:Tu) (i:Int) (D:Nat) (Q:V→St→Prop),t.of wd kvs x y→IsT ts i t→t.ht+8≤D→Q (.bool (tv wd x y t)) (Z E ts) →
  CallT (cx w h0 mg mb) (.ref 1101) D [.inst 762 1,.int i,.ref wi] (Z E ts) Q:=by
 intro t
 induction t with
 | tt =>
  intro i D Q ho h hD hQ
  obtain⟨d,rfl⟩:∃ d,D=d+8:=⟨D - 8,by tm_at "l"⟩
  refine (aA (k:=3) ok (cr ok) (cM ok) rfl ?_).call
  delta bM
  cases h with | tt a =>
  repeat tm_at "g"
  refine bD (o:="true") ok h1 a rfl ?_
  repeat tm_at "g"
  refine aP rfl ?_
  repeat tm_at "g"
  refine bk (l:=[]) ok h1 a rfl ?_
  repeat tm_at "g"
  refine aZ ⟨Nat.le_of_ble_eq_true rfl,cD (fun x=>x) (fun z hz K hK=>(nomatch hz)) ?_⟩
  repeat tm_at "g"
  exact hQ
 | ff =>
  intro i D Q ho h hD hQ
  obtain⟨d,rfl⟩:∃ d,D=d+8:=⟨D - 8,by tm_at "l"⟩
  refine (aA (k:=3) ok (cr ok) (cM ok) rfl ?_).call
  delta bM
  cases h with | ff a =>
  repeat tm_at "g"
  refine bD (o:="false") ok h1 a rfl ?_
  repeat tm_at "g"
  refine aP rfl ?_
  repeat tm_at "g"
  refine bk (l:=[]) ok h1 a rfl ?_
  repeat tm_at "g"
  refine aZ ⟨Nat.le_of_ble_eq_true rfl,cD (fun x=>x) (fun z hz K hK=>(nomatch hz)) ?_⟩
  repeat tm_at "g"
  exact hQ
 | no t ih =>
  intro i D Q ho h hD hQ
  have hh:(Tu.no t).ht=t.ht+1:=rfl
  obtain⟨d,rfl⟩:∃ d,D=d+9:=⟨D - 9,by tm_at "l"⟩
  refine (aA (k:=3) ok (cr ok) (cM ok) rfl ?_).call
  delta bM
  cases h with | @no _ j _ hj a =>
  repeat tm_at "g"
  refine bD (o:="not") ok h1 a rfl ?_
  repeat tm_at "g"
  refine aP rfl ?_
  repeat tm_at "g"
  refine bk (l:=[j]) ok h1 a rfl ?_
  repeat tm_at "g"
  refine aZ ⟨Nat.le_of_ble_eq_true rfl,?_⟩
  show compL _ _ _ _ _ [V.int j] [] _ _
  refine bb ?_
  repeat tm_at "g"
  refine ih j _ _ ho hj (by tm_at "l") ?_
  repeat tm_at "g"
  refine bY ?_
  repeat tm_at "g"
  refine bn (by decide) (by decide) (v:=.bool (tv wd x y t)) rfl ?_
  repeat tm_at "g"
  exact hQ
 | eq v c =>
  intro i D Q ho h hD hQ
  obtain⟨d,rfl⟩:∃ d,D=d+8:=⟨D - 8,by tm_at "l"⟩
  refine (aA (k:=3) ok (cr ok) (cM ok) rfl ?_).call
  delta bM
  cases h with | @eq _ j k _ _ hj hk a =>
  have run:∀ (m n:Int) (p q:Nat),min j k=m→max j k=n→(∀ Q:V→St→Prop,Q (.int p) (Z E ts)→CallT (cx w h0 mg mb) (.ref 1101) (d+7) [.inst 762 1,.int m,.ref wi] (Z E ts) Q)→(∀ Q:V→St→Prop,Q (.int q) (Z E ts)→CallT (cx w h0 mg mb) (.ref 1101) (d+7) [.inst 762 1,.int n,.ref wi] (Z E ts) Q) →
    decide (p=q)=tv wd x y (.eq v c)→bM (cx w h0 mg mb) (d+7) [some (.inst 762 1),some (.int i),some (.ref wi),none,none,none] (Z E ts) (bx Q):=fun m n p q em en hm hn' he=>by
   delta bM
   repeat tm_at "g"
   refine bD (o:="=") ok h1 a rfl ?_
   repeat tm_at "g"
   refine aP rfl ?_
   repeat tm_at "g"
   refine bk (l:=[m,n]) ok h1 a (by rw[em,en]) ?_
   repeat tm_at "g"
   refine aZ ⟨Nat.le_of_ble_eq_true rfl,?_⟩
   show compL _ _ _ _ _ [V.int m,V.int n] [] _ _
   refine bb ?_
   repeat tm_at "g"
   refine hm _ ?_
   repeat tm_at "g"
   refine bb ?_
   repeat tm_at "g"
   refine hn' _ ?_
   repeat tm_at "g"
   refine bY ?_
   repeat tm_at "g"
   refine bn (by decide) (by decide) (v:=.int p) rfl ?_
   repeat tm_at "g"
   refine bn (by decide) (by decide) (v:=.int q) rfl ?_
   repeat tm_at "g"
   rw[c9,he]
   exact hQ
  have hv:∀ Q:V→St→Prop,Q (.int v) (Z E ts)→CallT (cx w h0 mg mb) (.ref 1101) (d+7) [.inst 762 1,.int j,.ref wi] (Z E ts) Q:=fun Q hq=>gT ok h1 hj hq
  have hc:∀ Q:V→St→Prop,Q (.int (if c then y else x:Nat)) (Z E ts)→CallT (cx w h0 mg mb) (.ref 1101) (d+7) [.inst 762 1,.int k,.ref wi] (Z E ts) Q:=fun Q hq=>cI (b:=.ch [] c) ok S h1 hn vs W hx hy ho (Nat.zero_le _) hk hq
  by_cases hjk:j≤k
  ·refine run j k v _ (by tm_at "l") (by tm_at "l") hv hc ?_
   show decide (v=_)=decide (_=v)
   simp[eq_comm]
  ·exact run k j _ v (by tm_at "l") (by tm_at "l") hc hv rfl
 | ask sg b p =>
  intro i D Q ho h hD hQ
  obtain⟨d,rfl⟩:∃ d,D=d+8:=⟨D - 8,by tm_at "l"⟩
  obtain⟨⟨hb,hbl⟩,hp,hpl⟩:=ho
  have hA:=Bt.ev_lt hbl.1 hx hy
  have hB:=Bt.ev_lt hpl.1 hx hy
  refine (aA (k:=3) ok (cr ok) (cM ok) rfl ?_).call
  delta bM
  cases h with | @ask _ j k _ _ _ hj hk a =>
  have hp0:0 < 2 ^ wd:=Nat.pow_pos (by decide)
  cases sg with
  | false =>
   repeat tm_at "g"
   refine bD (o:="bvult") ok h1 a rfl ?_
   repeat tm_at "g"
   refine aP rfl ?_
   repeat tm_at "g"
   refine bk (l:=[j,k]) ok h1 a rfl ?_
   repeat tm_at "g"
   refine aZ ⟨Nat.le_of_ble_eq_true rfl,?_⟩
   show compL _ _ _ _ _ [V.int j,V.int k] [] _ _
   refine bb ?_
   repeat tm_at "g"
   refine cI ok S h1 hn vs W hx hy hb hbl.2 hj ?_
   repeat tm_at "g"
   refine bb ?_
   repeat tm_at "g"
   refine cI ok S h1 hn vs W hx hy hp hpl.2 hk ?_
   repeat tm_at "g"
   refine bY ?_
   repeat tm_at "g"
   refine bk (l:=[j,k]) ok h1 a rfl ?_
   repeat tm_at "g"
   refine aL (by decide) (by decide) (v:=.int j) rfl ?_
   refine bo ok S h1 hj ?_
   repeat tm_at "g"
   refine cK (by tm_at "l") (by have:=S.hi;tm_at "l") (by decide) ?_
   rw[cF]
   repeat tm_at "g"
   refine bn (by decide) (by decide) (v:=.int (b.ev wd x y:Nat)) rfl ?_
   repeat tm_at "g"
   refine bn (by decide) (by decide) (v:=.int (p.ev wd x y:Nat)) rfl ?_
   repeat tm_at "g"
   refine dA ?_
   refine nH ?_
   repeat tm_at "g"
   rw[pX hA hB]
   exact hQ
  | true =>
   repeat tm_at "g"
   refine bD (o:="bvslt") ok h1 a rfl ?_
   repeat tm_at "g"
   refine aP rfl ?_
   repeat tm_at "g"
   refine bk (l:=[j,k]) ok h1 a rfl ?_
   repeat tm_at "g"
   refine aZ ⟨Nat.le_of_ble_eq_true rfl,?_⟩
   show compL _ _ _ _ _ [V.int j,V.int k] [] _ _
   refine bb ?_
   repeat tm_at "g"
   refine cI ok S h1 hn vs W hx hy hb hbl.2 hj ?_
   repeat tm_at "g"
   refine bb ?_
   repeat tm_at "g"
   refine cI ok S h1 hn vs W hx hy hp hpl.2 hk ?_
   repeat tm_at "g"
   refine bY ?_
   repeat tm_at "g"
   refine bk (l:=[j,k]) ok h1 a rfl ?_
   repeat tm_at "g"
   refine aL (by decide) (by decide) (v:=.int j) rfl ?_
   refine bo ok S h1 hj ?_
   repeat tm_at "g"
   refine cK (by tm_at "l") (by have:=S.hi;tm_at "l") (by decide) ?_
   rw[cF]
   repeat tm_at "g"
   refine bn (by decide) (by decide) (v:=.int (b.ev wd x y:Nat)) rfl ?_
   repeat tm_at "g"
   refine cX (by decide) (by decide) ?_
   rw[eW S.lo S.hi]
   repeat tm_at "g"
   refine cm (by tm_at "l") ?_
   rw[← Int.natCast_add,gd]
   repeat tm_at "g"
   refine bn (by decide) (by decide) (v:=.int (p.ev wd x y:Nat)) rfl ?_
   repeat tm_at "g"
   refine cX (by decide) (by decide) ?_
   rw[eW S.lo S.hi]
   repeat tm_at "g"
   refine cm (by tm_at "l") ?_
   rw[← Int.natCast_add,gd]
   repeat tm_at "g"
   refine dA ?_
   refine nH ?_
   repeat tm_at "g"
   exact hQ
end
section
set_option maxHeartbeats 2000000
theorem rq{j:JM}{d:Nat}{ρ:Env'}{σ:St}{Q:V→St→Prop}(h:j Str.empty d ρ σ fun out σ=>out.length≤1000000∧Q (.str out) σ):fJ j d ρ σ Q:=h
theorem gQ{a:ME V}{b:JM}{acc:Str}{d:Nat}{ρ:Env'}{σ:St}{Q:Str→St→Prop}(h:a d ρ σ fun x σ=>ii x fun y=>(acc++y).length≤1000000∧b (acc++y) d ρ σ Q):dM a b acc d ρ σ Q:=h
theorem ya{acc:Str}{d:Nat}{ρ:Env'}{σ:St}{Q:Str→St→Prop}(h:Q acc σ):fA acc d ρ σ Q:=h
theorem iA{y:Str}{k:Str→Prop}(h:k y):ii (.str y) k:=h
theorem rF{i:Int}{k:Str→Prop}(h0:i.natAbs.log2 < 1920)(h:k (toString i)):iE (.int i) k:=⟨h0,h⟩
noncomputable def bN(cs:List Int)(n:Nat):AObj:=.list [.fl (cs.map V.int),.int n]
noncomputable def full(wd:Nat):List Nat:=0::0::0::wd::(if wd=1 then [2] else [1,wd+1])
structure Sw (E:En) (wd m:Nat):Prop where
 ws:E.ws=(full wd).take m
 nm:E.nm.length=E.ws.length
 lo:1≤wd
 hi:wd≤3
theorem jY{wd i j w:Nat}(lo:1≤wd)(hi:wd≤3)(h:(full wd)[i]?=some w)(h':(full wd)[j]?=some w)(hw:w≠0):i=j:=by
 have key:((List.range 4).all fun wd=>(List.range 6).all fun i=>(List.range 6).all fun j=>decide (wd=0)||decide ((full wd)[i]?=none)||decide ((full wd)[i]?=some 0)||!decide ((full wd)[i]?=(full wd)[j]?)||decide (i=j))=true:=by decide +kernel
 have l6:(full wd).length≤6:=by unfold full;split<;>simp
 have hi6:i < 6:=Nat.lt_of_lt_of_le (List.getElem?_eq_some_iff.mp h).1 l6
 have hj6:j < 6:=Nat.lt_of_lt_of_le (List.getElem?_eq_some_iff.mp h').1 l6
 have k1:=List.all_eq_true.mp (List.all_eq_true.mp (List.all_eq_true.mp key wd (List.mem_range.mpr (by tm_at "l"))) i (List.mem_range.mpr hi6)) j (List.mem_range.mpr hj6)
 rw[h,h'] at k1
 simp at k1
 rcases k1 with (h | h) | h
 ·tm_at "l"
 ·exact absurd h hw
 ·exact h
section
variable{E:En}{wd m s w:Nat}
theorem Sw.ok(S:Sw E wd m):E.Ok:=by
 refine⟨S.nm,?_,fun i j w hi hj hw=>?_⟩
 ·rw[S.ws];have:=List.length_take_le m (full wd);have l6:(full wd).length≤6:=by unfold full;split<;>simp
  have:=List.length_take_le' m (full wd);tm_at "l"
 ·rw[S.ws] at hi hj
  have go:∀ {i:Nat},((full wd).take m)[i]?=some w→(full wd)[i]?=some w:=fun h=>by
   rw[List.getElem?_take] at h;split at h
   ·exact h
   ·cases h
  exact jY S.lo S.hi (go hi) (go hj) hw
theorem Sw.at_(S:Sw E wd m)(h:(full wd)[s]?=some w)(hs:s < m):Wd E s w:=by
 have l6:(full wd).length≤6:=by unfold full;split<;>simp
 have:=(List.getElem?_eq_some_iff.mp h).1
 refine⟨by tm_at "l",by tm_at "l",?_⟩
 rw[S.ws,Int.toNat_natCast,List.getElem?_take,if_pos hs];exact h
theorem Sw.stand(S:Sw E wd m)(h:4≤m):Stand E wd:=⟨S.ok,S.at_ (s:=3) rfl (by tm_at "l"),S.lo,S.hi⟩
theorem kD(hw:1≤wd):(full wd)[(sB wd).toNat]?=some 1∧0≤sB wd∧(full wd)[(sC wd).toNat]?=some (wd+1)∧0≤sC wd:=by
 unfold full sB sC
 split
 ·rename_i h;subst h;exact⟨rfl,by decide,rfl,by decide⟩
 ·exact⟨rfl,by decide,rfl,by decide⟩
end
noncomputable def Eadd(E:En)(nm:V)(w:Nat):En:={ E with nm:=E.nm++[nm],ws:=E.ws++[w] }
theorem Sw.add{E:En}{wd m w:Nat}(S:Sw E wd m)(h:(full wd)[m]?=some w)(nm:V):Sw (Eadd E nm w) wd (m+1):=by
 refine⟨?_,by show (E.nm++[nm]).length=(E.ws++[w]).length;simp[S.nm],S.lo,S.hi⟩
 show E.ws++[w]=_
 rw[S.ws,List.take_add_one,h];rfl
theorem ql(ws:List Nat){w:Nat}(hw:w≠0):bvs (ws++[w])=bvs ws++[(V.int w,V.int ws.length)]:=by
 simp[bvs,List.zipIdx_append,hw]
theorem m7{ws:List Nat}{w:Nat}(h:w∉ws):((bvs ws).any fun u=>V.beq u.1 (.int w))=false:=by
 rw[List.any_eq_false]
 intro p hp
 simp only[bvs,List.mem_map,List.mem_filter] at hp
 obtain⟨q,⟨hq,_⟩,rfl⟩:=hp
 have hne:q.1≠w:=fun e=>h (by rw[← e];exact List.fst_mem_of_mem_zipIdx hq)
 simp[er];tm_at "l"
variable{w:World}{h0:Heap}{mg mb:Str→Option Value}{E:En}{wd m a s w1:Nat}{ts:List T}{d:Nat}{Q:V→St→Prop}{i j:Int}{e f:T}{σ:St}{cs:List Int}{n:Nat}
theorem fW(ok:(cx w h0 mg mb).Ok)(S:Sw E wd m)(h:(full wd)[s]?=some w1)(hw:1≤w1)(hs:s≤m)(hQ:∀ nm ws,Sw { E with nm:=nm,ws:=ws } wd (max m (s+1))→Q (.int s) (Z { E with nm:=nm,ws:=ws } ts)) :
  CallT (cx w h0 mg mb) (.ref 668) (d+1) [.inst 762 1,.int w1] (Z E ts) Q:=by
 have hw4:w1≤4:=by
  have key:((List.range 4).all fun wd=>(full wd).all fun w=>decide (w≤4))=true:=by decide +kernel
  have:=List.all_eq_true.mp (List.all_eq_true.mp key wd (List.mem_range.mpr (by have:=S.hi;tm_at "l"))) w1 (List.mem_of_getElem? h)
  exact of_decide_eq_true this
 by_cases hlt:s < m
 ·refine fi ok S.ok (S.at_ h hlt) hw (by tm_at "l") ?_
  have:=hQ E.nm E.ws (by rw[Nat.max_eq_left (by tm_at "l")];exact S)
  exact this
 have hsm:s=m:=by tm_at "l"
 subst hsm
 have hlen:E.ws.length=s:=by rw[S.ws,List.length_take];have:=(List.getElem?_eq_some_iff.mp h).1;tm_at "l"
 have hno:w1∉E.ws:=fun hm=>by
  obtain⟨k,hk,e⟩:=List.getElem_of_mem hm
  have hk':E.ws[k]?=some w1:=by rw[List.getElem?_eq_getElem hk,e]
  rw[S.ws,List.getElem?_take] at hk'
  split at hk'
  ·have:=jY S.lo S.hi h hk' (by tm_at "l");tm_at "l"
  ·cases hk'
 refine (aA (k:=0) ok (nS ok) (nB ok) rfl ?_).call
 delta gZ
 have hf:w1.log2 < 1920∧(Str.empty++("(_ BitVec ":Str)).length≤1000000∧(Str.empty++("(_ BitVec ":Str)++Str.ofString (toString (w1:Int))).length≤1000000∧(Str.empty++("(_ BitVec ":Str)++Str.ofString (toString (w1:Int))++(")":Str)).length≤1000000:=by
  have key:((List.range 5).all fun wd=>decide (wd.log2 < 1920∧(Str.empty++("(_ BitVec ":Str)).length≤1000000∧(Str.empty++("(_ BitVec ":Str)++Str.ofString (toString (wd:Int))).length≤1000000∧(Str.empty++("(_ BitVec ":Str)++Str.ofString (toString (wd:Int))++(")":Str)).length≤1000000))=true:=by decide +kernel
  exact of_decide_eq_true (List.all_eq_true.mp key w1 (List.mem_range.mpr (by tm_at "l")))
 obtain⟨f1,f2,f3,f4⟩:=hf
 have eo:=S.ok
 have few:=eo.few
 repeat tm_at "g"
 refine i_F (by simp;tm_at "l") ?_
 repeat tm_at "g"
 refine i_F (by simp;tm_at "l") ?_
 repeat tm_at "g"
 refine eE (kvs:=bvs E.ws) rfl (d5 _ few) ?_
 repeat tm_at "g"
 refine i_T (by rw[m7 hno];rfl) ?_
 repeat tm_at "g"
 refine rq ?_
 refine gQ ?_
 repeat tm_at "g"
 refine iA ⟨f2,?_⟩
 refine gQ ?_
 refine sM ?_
 repeat tm_at "g"
 refine rF (by simpa using f1) ?_
 refine iA ⟨f3,?_⟩
 refine gQ ?_
 repeat tm_at "g"
 refine iA ⟨f4,?_⟩
 refine ya ?_
 refine⟨f4,?_⟩
 repeat tm_at "g"
 refine bG rfl (by rw[S.nm];tm_at "l") ?_
 repeat tm_at "g"
 refine bG rfl (by simp;tm_at "l") ?_
 repeat tm_at "g"
 refine fu rfl (by simp[S.nm];tm_at "l") ?_
 repeat tm_at "g"
 generalize hnm:V.str (Str.empty++("(_ BitVec ":Str)++Str.ofString (toString (w1:Int))++(")":Str))=nm
 have S':=S.add h nm
 have e1:dset (bvs E.ws) (.int w1) (.int (((E.nm++[nm]).length:Int) - 1))=bvs (E.ws++[w1]):=by
  unfold dset
  rw[if_neg (by rw[m7 hno];decide),ql _ (by tm_at "l")]
  have:(((E.nm++[nm]).length:Int) - 1)=(E.ws.length:Int):=by simp[S.nm]
  rw[this]
 have e2:(E.ws.map fun (w:Nat)=>V.int w)++[V.int w1]=(E.ws++[w1]).map fun (w:Nat)=>V.int w:=by simp
 refine eu (kvs:=bvs E.ws) rfl (d5 _ few) ?_
 rw[e1,e2]
 refine Fconv (σ':=Z (Eadd E nm w1) ts) rfl ?_
 repeat tm_at "g"
 refine ef (kvs:=bvs (Eadd E nm w1).ws) rfl (d5 _ S'.ok.few) (gV S'.ok (S'.at_ h (by tm_at "l")) (by tm_at "l")) ?_
 repeat tm_at "g"
 exact hQ _ _ (by rw[Nat.max_eq_right (by tm_at "l")];exact S')
theorem kM(ok:(cx w h0 mg mb).Ok)(S:Sw E wd m)(h:(full wd)[s]?=some w1)(hw:1≤w1)(hs:s≤m)(h1:ts.length≤1000)(hn:ts.Nodup){v:Nat}
  (hQ:∀ nm ws r ts',Sw { E with nm:=nm,ws:=ws } wd (max m (s+1))→Grow ts 1 ts'→At ts' r ⟨"bvnum",[],s,.i (v % 2 ^ w1:Nat)⟩→Q (.int r) (Z { E with nm:=nm,ws:=ws } ts')) :
  CallT (cx w h0 mg mb) (.ref 689) (d+2) [.inst 762 1,.int v,.int w1] (Z E ts) Q:=by
 refine (aA (k:=1) ok (l0 ok) (j6 ok) rfl ?_).call
 delta gR
 repeat tm_at "g"
 refine fW ok S h hw hs fun nm ws S'=>?_
 repeat tm_at "g"
 have hw4:w1≤4:=by
  have key:((List.range 4).all fun wd=>(full wd).all fun w=>decide (w≤4))=true:=by decide +kernel
  have:=List.all_eq_true.mp (List.all_eq_true.mp key wd (List.mem_range.mpr (by have:=S.hi;tm_at "l"))) w1 (List.mem_of_getElem? h)
  exact of_decide_eq_true this
 refine eg (by tm_at "l") (by tm_at "l") (by decide) ?_
 have e:(1:Int) * 2 ^ ((w1:Int)).toNat=2 ^ w1:=by simp
 rw[e]
 refine cm (Int.ne_of_gt (Int.pow_pos (by decide))) ?_
 have e3:((v:Nat):Int).fmod (2 ^ w1)=((v % 2 ^ w1:Nat):Int):=by
  rw[show (2:Int) ^ w1=((2 ^ w1:Nat):Int) by simp];exact gd v (2 ^ w1)
 rw[e3]
 repeat tm_at "g"
 refine bE ok ⟨"bvnum",[],s,.i (v % 2 ^ w1:Nat)⟩ (by kernel_rfl) h1 ?_
 repeat tm_at "g"
 obtain⟨g,a⟩:=bB hn ⟨"bvnum",[],s,.i (v % 2 ^ w1:Nat)⟩
 exact hQ nm ws _ _ S' g a
theorem v5(ok:(cx w h0 mg mb).Ok)(S:Sw E wd m)(h1:ts.length≤1000)(hn:ts.Nodup){s1 s2 w2:Nat}(h:At ts i e)(h':At ts j f)(e1:e.sort=s1)(e2:f.sort=s2)(hm1:s1 < m)(hm2:s2 < m)(hf1:(full wd)[s1]?=some w1)(hf2:(full wd)[s2]?=some w2)(hw1:1≤w1)(hw2:1≤w2)(hs:(full wd)[s]?=some (w1+w2))(hsm:s≤m)
  (hQ:∀ nm ws r ts',Sw { E with nm:=nm,ws:=ws } wd (max m (s+1))→Grow ts 1 ts'→At ts' r ⟨"concat",[i,j],s,.i 0⟩→Q (.int r) (Z { E with nm:=nm,ws:=ws } ts')) :
  CallT (cx w h0 mg mb) (.ref 710) (d+3) [.inst 762 1,.int i,.int j] (Z E ts) Q:=by
 refine (aA (k:=0) ok (nj ok) (mX ok) rfl ?_).call
 delta iR
 have he:=S.at_ hf1 hm1
 have hf:=S.at_ hf2 hm2
 rw[← e1] at he
 rw[← e2] at hf
 repeat tm_at "g"
 refine cB ok h1 h he (by tm_at "l") ?_
 repeat tm_at "g"
 refine cB ok h1 h' hf (by tm_at "l") ?_
 repeat tm_at "g"
 refine bX ok h1 h he ?_
 repeat tm_at "g"
 refine bX ok h1 h' hf ?_
 repeat tm_at "g"
 rw[← Int.natCast_add]
 refine fW ok S hs (by tm_at "l") hsm fun nm ws S'=>?_
 repeat tm_at "g"
 refine bE ok ⟨"concat",[i,j],s,.i 0⟩ (by kernel_rfl) h1 ?_
 repeat tm_at "g"
 obtain⟨g,a⟩:=bB hn ⟨"concat",[i,j],s,.i 0⟩
 exact hQ nm ws _ _ S' g a
theorem jO(ok:(cx w h0 mg mb).Ok)(h1:ts.length≤1000)(hn:ts.Nodup){x:Str}{s:Int}(hf:E.fn.length≤10∧E.fa.length≤10∧E.fr.length≤10)(hQ:∀ r ts',Grow ts 1 ts'→At ts' r ⟨"app",[],s,.i E.fn.length⟩→Q (.int r) (Z { E with fn:=E.fn++[.str x],fa:=E.fa++[.tup []],fr:=E.fr++[.int s] } ts')) :
  CallT (cx w h0 mg mb) (.ref 299) (d+2) [.inst 762 1,.str x,.int s] (Z E ts) Q:=by
 refine (aA (k:=0) ok (tj ok) (r0 ok) rfl ?_).call
 delta jV
 repeat tm_at "g3"
 refine (aA (k:=0) ok (vw ok) (vz ok) rfl ?_).call
 delta kc
 repeat tm_at "g3"
 refine bG rfl (by tm_at "l") ?_
 repeat tm_at "g3"
 refine xW ?_
 repeat tm_at "g3"
 refine bG rfl (by tm_at "l") ?_
 repeat tm_at "g3"
 refine bG rfl (by tm_at "l") ?_
 repeat tm_at "g3"
 refine fu rfl (by simp;tm_at "l") ?_
 repeat tm_at "g3"
 have e1:(((E.fn++[V.str x]).length:Int) - 1)=(E.fn.length:Int):=by simp
 rw[e1]
 refine CallT.conv (σ':=Z { E with fn:=E.fn++[.str x],fa:=E.fa++[.tup []],fr:=E.fr++[.int s] } ts) rfl ?_
 refine bE ok ⟨"app",[],s,.i E.fn.length⟩ (by kernel_rfl) h1 ?_
 repeat tm_at "g3"
 obtain⟨g,a⟩:=bB hn ⟨"app",[],s,.i E.fn.length⟩
 exact hQ _ _ g a
noncomputable def Et(E:En)(cs:List Int)(n:Nat):En:={ E with top:=bN cs n }
theorem jQ{i:Int}{many:Nat}(hm:0 < many){Q:V→St→Prop}(h:∀ r:Nat,r < many→Q (.int r) σ):Q (.int (i.fmod many)) σ:=by
 have hp:(0:Int) < many:=by tm_at "l"
 have a:=Int.fmod_nonneg_of_pos i hp
 have b:=Int.fmod_lt_of_pos i hp
 have:=h (i.fmod many).toNat (by tm_at "l")
 rwa [Int.toNat_of_nonneg a] at this
theorem qZ(ok:(cx w h0 mg mb).Ok){many:Nat}(hm:0 < many)(hn:n≤1000)(hc:cs.length≤1000)(hQ:∀ r:Nat,r < many→Q (.int r) (some (bN cs (n+1))::σ)):CallT (cx w h0 mg mb) (.ref 1089) (d+1) [.ref 0,.int many] (some (bN cs n)::σ) Q:=by
 refine (aA (k:=1) ok (yN ok) (yL ok) rfl ?_).call
 delta kH
 repeat tm_at "g"
 refine aS (l:=[.fl (cs.map V.int),.int n]) rfl (by decide) (by decide) rfl ?_
 repeat tm_at "g"
 refine vY (n:=1) (l:=[.fl (cs.map V.int),.int n]) rfl (Nat.le_of_ble_eq_true rfl) (Nat.le_of_ble_eq_true rfl) ?_
 refine Fconv (σ':=some (bN cs (n+1))::σ) rfl ?_
 repeat tm_at "g"
 refine aS (l:=[.fl (cs.map V.int),.int (n+1:Nat)]) rfl (by decide) (by decide) rfl ?_
 repeat tm_at "g"
 refine hY (by simp;tm_at "l") ?_
 repeat tm_at "g"
 refine cE (fun h=>?_) (fun h=>?_)
 ·repeat tm_at "g"
  refine aS (l:=[.fl (cs.map V.int),.int (n+1:Nat)]) rfl (by decide) (by decide) rfl ?_
  repeat tm_at "g"
  have hl:n < cs.length:=by simp at h;tm_at "l"
  refine bn (by tm_at "l") (by tm_at "l") (v:=.int cs[n]) (by simp[hl]) ?_
  repeat tm_at "g"
  refine cm (by tm_at "l") ?_
  repeat tm_at "g"
  exact jQ hm hQ
 ·repeat tm_at "g"
  refine dG (.inl (by decide)) ?_
  repeat tm_at "g"
  refine dG (.inr (by tm_at "l")) ?_
  repeat tm_at "g"
  refine dG (.inl (by decide)) ?_
  repeat tm_at "g"
  refine cX (by decide) (by decide) ?_
  repeat tm_at "g"
  refine aS (l:=[.fl (cs.map V.int),.int (n+1:Nat)]) rfl (by decide) (by decide) rfl ?_
  repeat tm_at "g"
  refine hY (by simp;tm_at "l") ?_
  repeat tm_at "g"
  refine dG (.inl (by decide)) ?_
  repeat tm_at "g"
  refine cm (by tm_at "l") ?_
  repeat tm_at "g"
  exact jQ hm hQ
theorem fo(ok:(cx w h0 mg mb).Ok){many:Nat}(hm:0 < many)(ht:E.top=bN cs n)(hn:n≤1000)(hc:cs.length≤1000)(hQ:∀ r:Nat,r < many→Q (.int r) (Z (Et E cs (n+1)) ts)):CallT (cx w h0 mg mb) (.ref 1089) (d+1) [.ref 0,.int many] (Z E ts) Q:=by
 obtain⟨top,_⟩:=E
 subst ht
 exact qZ ok hm hn hc hQ
end
section
set_option maxHeartbeats 2000000
structure Hold (E:En) (ts:List T) (wd:Nat) (cs:List Int) (n kl:Nat):Prop where
 sw:∃ m,4≤m∧Sw E wd m
 top:E.top=bN cs n
 kn:KnOk wd ts E.kn
 kl:E.kn.length≤kl
 nd:ts.Nodup
 base:Base ts
 vars:Vars ts
section
variable{E:En}{ts ts':List T}{wd n kl k:Nat}{cs:List Int}
theorem Hold.stand(H:Hold E ts wd cs n kl):Stand E wd:=H.sw.elim fun _ h=>h.2.stand h.1
theorem Hold.grow(H:Hold E ts wd cs n kl)(g:Grow ts k ts'):Hold E ts' wd cs n kl:=⟨H.sw,H.top,H.kn.mono g.1,H.kl,g.2.1,H.base.mono g.1,H.vars.mono g.1⟩
theorem Hold.sip(H:Hold E ts wd cs n kl):Hold (Et E cs (n+1)) ts wd cs (n+1) kl:=⟨H.sw.imp fun _ h=>⟨h.1,h.2.ws,h.2.nm,h.2.lo,h.2.hi⟩,rfl,H.kn,H.kl,H.nd,H.base,H.vars⟩
theorem Hold.sorts{nm:List V}{ws:List Nat}{m:Nat}(H:Hold E ts wd cs n kl)(S:Sw { E with nm:=nm,ws:=ws } wd m)(h:4≤m):Hold { E with nm:=nm,ws:=ws } ts wd cs n kl:=⟨⟨m,h,S⟩,H.top,H.kn,H.kl,H.nd,H.base,H.vars⟩
end
noncomputable def Bt.on(c:Bool):Bt→Prop
 | .num _=>True
 | .ch _ c'=>c'=c
variable{w:World}{h0:Heap}{mg mb:Str→Option Value}{E:En}{wd m a s w1:Nat}{ts:List T}{d:Nat}{Q:V→St→Prop}{i j:Int}{e f:T}{σ:St}{cs:List Int}{n kl:Nat}{t u:Tm}{c:Bool}
theorem c6(ok:(cx w h0 mg mb).Ok)(H:Hold E ts wd cs n kl)(h1:ts.length≤900)(hk:kl≤900)(h:Is ts i t)(N:Nm wd (Ext E wd) t u)(hQ:∀ r kn' ts',Hold (Ek E kn') ts' wd cs n (kl+36)→Grow ts 54 ts'→Is ts' r u→Q (.int r) (Z (Ek E kn') ts')) :
  CallT (cx w h0 mg mb) (.ref 784) (d+11) [.inst 1080 13,.int i] (Z E ts) Q:=by
 have hl:=H.kl
 refine CallT.conv (σ':=Z (Ek E E.kn) ts) rfl (wY ok H.stand h1 H.nd H.kn (by tm_at "l") h N fun r ts' kn' g hr k l=>?_)
 have H':=H.grow g
 exact hQ r kn' ts' ⟨H.sw.imp fun _ h=>⟨h.1,h.2.ws,h.2.nm,h.2.lo,h.2.hi⟩,H.top,k,by show kn'.length≤_;tm_at "l",H'.nd,H'.base,H'.vars⟩ g hr
theorem th(ok:(cx w h0 mg mb).Ok)(H:Hold E ts wd cs n kl)(h1:ts.length≤900)
  {K:V→St→Prop} (hK:∀ E' ts' z,Hold E' ts' wd cs n kl→E'.junk=E.junk→Grow ts 1 ts'→At ts' z ⟨"bvnum",[],sB wd,.i 0⟩→(∃ m,(sB wd).toNat < m∧4≤m∧Sw E' wd m)→K (.int z) (Z E' ts')) :
  CallT (cx w h0 mg mb) (.ref 689) (d+2) [.inst 762 1,.int 0,.int 1] (Z E ts) K:=by
 obtain⟨m,hm,S⟩:=H.sw
 obtain⟨b1,b2,b3,b4⟩:=kD S.lo
 have hb:(sB wd).toNat≤4:=by unfold sB;split<;>decide
 refine kM (v:=0) (w1:=1) (s:=(sB wd).toNat) ok S b1 (by decide) (by tm_at "l") (by tm_at "l") H.nd fun nm ws r ts' S' g a=>?_
 rw[Int.toNat_of_nonneg b2] at a
 exact hK _ ts' r ((H.sorts S' (by tm_at "l")).grow g) rfl g a ⟨_,by tm_at "l",by tm_at "l",S'⟩
theorem mw(ok:(cx w h0 mg mb).Ok)(H:Hold E ts wd cs n kl)(h1:ts.length≤800)(hk:kl≤800)(hn:n≤100)(hc:cs.length≤1000)(hQ:∀ E' r ts' b,Hold E' ts' wd cs (n+2) (kl+36)→E'.junk=E.junk→Grow ts 60 ts'→Is ts' r (Bt.tm b)→b.nf wd=true→b.len≤1→b.on c→Q (.int r) (Z E' ts')) :
  CallT (cx w h0 mg mb) (.ref 1096) (d+12) [.ref 0,.inst 762 1,.inst 1080 13,.int (cR c),.int wd] (Z E ts) Q:=by
 refine (aA (k:=2) ok (tI ok) (yU ok) rfl ?_).call
 delta mP
 repeat tm_at "g"
 refine fo (many:=6) ok (by decide) H.top (by tm_at "l") hc fun way hway=>?_
 have H1:=H.sip
 repeat tm_at "g"
 refine fo (many:=8) ok (by decide) H1.top (by tm_at "l") hc fun v8 hv8=>?_
 have H2:=H1.sip
 repeat tm_at "g"
 obtain⟨m,hm,S⟩:=H2.sw
 have hp0:0 < 2 ^ wd:=Nat.pow_pos (by decide)
 refine kM (v:=v8) (w1:=wd) (s:=3) ok S rfl S.lo (by tm_at "l") (by tm_at "l") H2.nd fun nm ws num ts1 S1 g1 a1=>?_
 have H3:=(H2.sorts S1 (by tm_at "l")).grow g1
 have L1:=g1.2.2
 have hnum:Is ts1 num (numT (v8 % 2 ^ wd)):=.leaf a1
 have hlt:v8 % 2 ^ wd < 2 ^ wd:=Nat.mod_lt _ hp0
 generalize v8 % 2 ^ wd=vn at hnum hlt
 generalize hE3:({ Et (Et E cs (n+1)) cs (n+1+1) with nm:=nm,ws:=ws }:En)=E3 at *
 have hj:E3.junk=E.junk:=by rw[← hE3];rfl
 have hv:Is ts1 (cR c) (Bt.ch [] c).tm:=H3.vars c
 have h6:way=0∨way=1∨way=2∨way=3∨way=4∨way=5:=by tm_at "l"
 have S3:=H3.stand
 have one:∀ (nb:Bool) {K:V→St→Prop},(∀ E' r ts' b,Hold E' ts' wd cs (n+2) (kl+36)→E'.junk=E.junk→Grow ts 60 ts'→Is ts' r (Bt.tm b)→b.nf wd=true→b.len≤1→b.on c→K (.int r) (Z E' ts'))→∀ {K':V→St→Prop},(∀ x ts',(CallT (cx w h0 mg mb) (.ref 784) (d+11) [.inst 1080 13,.int x] (Z E3 ts') K→K' (.int x) (Z E3 ts'))) →
   CallT (cx w h0 mg mb) (.ref 696) (d+11) [.inst 762 1,.str (unS nb),.int (cR c)] (Z E3 ts1) K':=fun nb K hK K' hK'=>by
  refine fm (b:=.ch [] c) ok S3 (by tm_at "l") H3.nd nb hv fun x ts2 g2 hx=>hK' x ts2 ?_
  have L2:=g2.2.2
  refine c6 ok (H3.grow g2) (by tm_at "l") (by tm_at "l") hx (Nm.un nb (b:=.ch [] c) rfl (Nat.zero_le _)) fun r kn' ts3 H4 g3 hr=>?_
  have nf:=ie (wd:=wd) (n:=nb) (b:=.ch [] c) rfl
  refine hK _ r ts3 _ H4 hj ((g1.trans g2 (Nat.le_refl _)).trans g3 (by tm_at "l")) hr nf.1 nf.2 ?_
  show (oneB wd nb (.ch [] c)).on c
  rfl
 rcases h6 with rfl | rfl | rfl | rfl | rfl | rfl
 ·repeat tm_at "g"
  exact hQ E3 _ ts1 (.ch [] c) ⟨H3.sw,H3.top,H3.kn,by have:=H3.kl;tm_at "l",H3.nd,H3.base,H3.vars⟩ hj (g1.le (by tm_at "l")) hv rfl (Nat.zero_le _) rfl
 ·repeat tm_at "g"
  refine aL (by decide) (by decide) (v:=.str "bvnot") rfl ?_
  repeat tm_at "g"
  refine one false hQ fun x ts' h=>?_
  repeat tm_at "g"
  refine h.mono fun v σ hv=>?_
  repeat tm_at "g"
  exact hv
 ·repeat tm_at "g"
  refine aL (by decide) (by decide) (v:=.str "bvneg") rfl ?_
  repeat tm_at "g"
  refine one true hQ fun x ts' h=>?_
  repeat tm_at "g"
  refine h.mono fun v σ hv=>?_
  repeat tm_at "g"
  exact hv
 ·repeat tm_at "g"
  refine fS ok S3 (by tm_at "l") H3.nd hnum hv fun x ts2 g2 hx=>?_
  have L2:=g2.2.2
  repeat tm_at "g"
  refine c6 ok (H3.grow g2) (by tm_at "l") (by tm_at "l") hx (Nm.add hlt (b:=.ch [] c) rfl (Nat.zero_le _)) fun r kn' ts3 H4 g3 hr=>?_
  repeat tm_at "g"
  have nf:=iT (wd:=wd) (h:=vn) (b:=.ch [] c) hlt rfl
  refine hQ _ r ts3 _ H4 hj ((g1.trans g2 (Nat.le_refl _)).trans g3 (by tm_at "l")) hr nf.1 nf.2 ?_
  show (mixB vn [] c).on c
  unfold mixB
  split<;>rfl
 ·repeat tm_at "g"
  exact hQ E3 _ ts1 (.num vn) ⟨H3.sw,H3.top,H3.kn,by have:=H3.kl;tm_at "l",H3.nd,H3.base,H3.vars⟩ hj (g1.le (by tm_at "l")) hnum (decide_eq_true hlt) (Nat.zero_le _) trivial
 ·repeat tm_at "g"
  refine th ok H3 (by tm_at "l") fun E4 ts2 z H4 ej4 g2 az ⟨m4,hm4,hm4',S4⟩=>?_
  have L2:=g2.2.2
  repeat tm_at "g"
  obtain⟨b1,b2,b3,b4⟩:=kD S4.lo
  have hv2:=hv.mono g2.1
  have hv2':=hv2
  cases hv2 with | leaf av =>
  have hB:sB wd=((sB wd).toNat:Nat):=(Int.toNat_of_nonneg b2).symm
  have hCm:(sC wd).toNat≤m4:=by
   unfold sC
   unfold sB at hm4
   split
   ·exact hm4'
   ·rename_i h;rw[if_neg h] at hm4;exact hm4
  refine v5 (s1:=3) (s2:=(sB wd).toNat) (w1:=wd) (w2:=1) (s:=(sC wd).toNat) ok S4 (by tm_at "l") H4.nd av az rfl hB (by tm_at "l") hm4 rfl b1 S4.lo (by decide) b3 hCm fun nm ws ct ts3 S5 g3 ac=>?_
  have L3:=g3.2.2
  have H5:=(H4.sorts S5 (by tm_at "l")).grow g3
  repeat tm_at "g"
  have X5:Ext { E4 with nm:=nm,ws:=ws } wd:=by
   refine⟨?_,?_⟩
   ·rw[hB];exact S5.at_ b1 (by tm_at "l")
   ·rw[← Int.toNat_of_nonneg b4];exact S5.at_ b3 (by tm_at "l")
  rw[Int.toNat_of_nonneg b4] at ac
  refine rh ok (S5.stand (by tm_at "l")) (by tm_at "l") H5.nd ac X5.c fun x ts4 g4 ax=>?_
  have L4:=g4.2.2
  repeat tm_at "g"
  have hx:Is ts4 x (extT wd c):=.un (.bin (.leaf (av.mono (g3.trans g4 (Nat.le_refl _)).1)) (.leaf (az.mono (g3.trans g4 (Nat.le_refl _)).1)) (ac.mono g4.1)) ax
  refine c6 ok (H5.grow g4) (by tm_at "l") (by tm_at "l") hx (.ext c X5) fun r kn' ts5 H6 g5 hr=>?_
  repeat tm_at "g"
  refine hQ _ r ts5 (.ch [] c) H6 (ej4.trans hj) ?_ hr rfl (Nat.zero_le _) rfl
  exact ((g1.trans g2 (Nat.le_refl _)).trans (g3.trans g4 (Nat.le_refl _)) (Nat.le_refl _)).trans g5 (by tm_at "l")
end
section
set_option maxHeartbeats 2000000
inductive Al {α β:Type} (R:α→β→Prop):List α→List β→Prop
 | nil:Al R [] []
 | cons {a:α} {b:β} {l:List α} {r:List β} (h:R a b) (t:Al R l r):Al R (a::l) (b::r)
theorem Al.len{α β:Type}{R:α→β→Prop}{l:List α}{r:List β}(h:Al R l r):l.length=r.length:=by
 induction h with
 | nil=>rfl
 | cons _ _ ih=>simp[ih]
section
variable{d i:Nat}{ρ:Env'}{S:Type}{Zf:S→St}{Q:List V→St→Prop}
theorem gh{α:Type}{β:Type}{e:ME V}(f:α→V)(g:β→V){Inv:Nat→S→Prop}{R:S→β→α→Prop}{le:S→S→Prop}(refl:∀ s,le s s)(tr:∀ a b c,le a b→le b c→le a c)(mono:∀ s s' y x,le s s'→R s y x→R s' y x) :
  ∀ (xs:List α) (acc:List V) (ρ':Env') (s:S) (k:Nat),(∀ v,ρ'.set i (some v)=ρ.set i (some v))→Inv (k+xs.length) s →
  (∀ x∈xs,∀ s k,Inv (k+1) s→∀ K:V→St→Prop,(∀ y s',le s s'→Inv k s'→R s' y x→K (g y) (Zf s'))→e d (ρ.set i (some (f x))) (Zf s) K) →
  (∀ ys s',le s s'→Inv k s'→Al (R s') ys xs→Q (acc++ys.map g) (Zf s'))→compL d (nmA i) (aD true) e Q (xs.map f) acc ρ' (Zf s):=by
 intro zz
 induction zz with
 | nil =>
  intro acc ρ' s k hρ hi he hQ
  have:=hQ [] s (refl s) hi .nil
  rw[List.map_nil,List.append_nil] at this
  exact bY this
 | cons x xs ih =>
  intro acc ρ' s k hρ hi he hQ
  refine bb ?_
  refine be ?_
  rw[hρ]
  refine bP ?_
  refine bw (he x List.mem_cons_self s (k+xs.length) (by rw[List.length_cons] at hi;exact hi) _ fun y s' h hi' hR=>?_)
  refine ih _ _ s' k (fun v=>by rw[List.set_set]) hi' (fun z hz=>he z (List.mem_cons_of_mem _ hz)) fun ys s'' h2 hi2 hA=>?_
  have:=hQ (y::ys) s'' (tr _ _ _ h h2) hi2 (.cons (mono _ _ _ _ h2 hR) hA)
  simpa using this
theorem ij{α:Type}{f:ME Bool}{e:ME V}{v0:V}(g:α→V)(okx:α→Bool){Inv:S→Prop}:∀ (xs:List α) (acc:List V) (ρ':Env') (s:S),(∀ v,ρ'.set i (some v)=ρ.set i (some v))→Inv s →
  (∀ x∈xs,∀ s,Inv s→∀ K:Bool→St→Prop,(∀ s',Inv s'→K (okx x) (Zf s'))→f d (ρ.set i (some (g x))) (Zf s) K)→(∀ x∈xs,∀ s,∀ K:V→St→Prop,okx x=true→K (if v0 matches .none then g x else v0) (Zf s)→e d (ρ.set i (some (g x))) (Zf s) K) →
  (∀ s',Inv s'→Q (acc++(xs.filter okx).map fun x=>if v0 matches .none then g x else v0) (Zf s'))→compL d (nmA i) f e Q (xs.map g) acc ρ' (Zf s):=by
 intro zz
 induction zz with
 | nil =>
  intro acc ρ' s hρ hi hf he hQ
  have:=hQ s hi
  rw[List.filter_nil,List.map_nil,List.append_nil] at this
  exact bY this
 | cons x xs ih =>
  intro acc ρ' s hρ hi hf he hQ
  refine bb ?_
  refine be ?_
  rw[hρ]
  refine hf x List.mem_cons_self s hi _ fun s' hi'=>?_
  have ih:=fun acc (hQ':∀ s',Inv s'→Q (acc++(xs.filter okx).map fun x=>if v0 matches .none then g x else v0) (Zf s'))=>ih acc (ρ.set i (some (g x))) s' (fun v=>by rw[List.set_set]) hi' (fun z hz=>hf z (List.mem_cons_of_mem _ hz)) (fun z hz=>he z (List.mem_cons_of_mem _ hz)) hQ'
  cases hx:okx x with
  | true =>
   refine bw (he x List.mem_cons_self s' _ hx (ih _ fun s'' hi''=>?_))
   have:=hQ s'' hi''
   rw[List.filter_cons,if_pos hx] at this
   simpa using this
  | false =>
   refine ee (ih _ fun s'' hi''=>?_)
   have:=hQ s'' hi''
   rw[List.filter_cons,if_neg (by rw[hx];decide)] at this
   exact this
end
noncomputable def Ej(E:En)(J:St):En:={ E with junk:=J }
theorem Stand.ej{E:En}{wd:Nat}(S:Stand E wd)(J:St):Stand (Ej E J) wd:=⟨⟨S.eo.len,S.eo.few,S.eo.one⟩,S.hs,S.lo,S.hi⟩
noncomputable def env1(n:Nat):List (V×V):=[(.int 3,.int n)]
noncomputable def env2(n m:Nat):List (V×V):=[(.int 3,.int n),(.int 4,.int m)]
theorem has1(n:Nat):Env2.has (env1 n) n 0 false:=rfl
theorem has2(n m:Nat)(c:Bool):Env2.has (env2 n m) n m c:=by cases c<;>rfl
theorem yW(n:Nat)(i:Int):aY (env1 n) (.int i):=⟨rfl,Nat.le_of_ble_eq_true rfl,rfl,Nat.le_of_ble_eq_true rfl⟩
theorem u0(n m:Nat)(i:Int):aY (env2 n m) (.int i):=⟨rfl,Nat.le_of_ble_eq_true rfl,rfl,Nat.le_of_ble_eq_true rfl⟩
theorem pairs1{a:Int}{x:V}:dZ false [(.int a,x)]:=by
 refine⟨fun p hp=>?_,rfl⟩
 simp only[List.mem_cons,List.not_mem_nil,or_false] at hp
 subst hp;exact⟨rfl,Nat.le_of_ble_eq_true rfl⟩
theorem pairs2{a b:Int}{x y:V}:dZ false [(.int a,x),(.int b,y)]:=by
 refine⟨fun p hp=>?_,rfl⟩
 simp only[List.mem_cons,List.not_mem_nil,or_false] at hp
 rcases hp with rfl | rfl<;>exact⟨rfl,Nat.le_of_ble_eq_true rfl⟩
theorem fL(E:En)(J:St)(ts:List T)(x:Option AObj):Z (Ej E J) ts++[x]=Z (Ej E (J++[x])) ts:=rfl
theorem wN(E:En)(J:St)(ts:List T)(x:Option AObj):(Z (Ej E (J++[x])) ts)[(Z (Ej E J) ts).length]?=some x:=by
 rw[← fL];simp
theorem Env2.one(E:En)(J:St)(ts:List T)(n:Nat):Env2 (Ej E (J++[some (.dict (env1 n))])) ts (Z (Ej E J) ts).length n 0 (env1 n):=⟨wN E J ts _,yW n⟩
theorem dset1(n:Nat):dsets [] [(V.int 3,V.int n)]=env1 n:=by kernel_rfl
theorem dset2(n m:Nat):dsets [] [(V.int 3,V.int n),(V.int 4,V.int m)]=env2 n m:=by kernel_rfl
end
section
set_option maxHeartbeats 2000000
section
variable{wd x y v:Nat}{b p:Bt}{l:List O1}{c sg:Bool}{t:Tu}{kvs:List (V×V)}
theorem dj(h:Env2.has kvs x y c):∀ (l:List O1) (v:Nat),(eqL wd v l c).of wd kvs x y∧(eqL wd v l c).ht=0
 | [],v=>⟨h,rfl⟩
 | .not::l,v=>dj h l _
 | .neg::l,v=>dj h l _
 | .add k::l,v=>dj h l _
theorem gq(h:t.of wd kvs x y)(ht:t.ht≤1):(notT t).of wd kvs x y∧(notT t).ht≤1:=by
 cases t with
 | no t=>exact⟨h,Nat.le_trans (Nat.le_of_succ_le_succ ht) (by decide)⟩
 | tt=>exact⟨trivial,by decide⟩
 | ff=>exact⟨trivial,by decide⟩
 | ask s a b=>exact⟨h,Nat.le_refl _⟩
 | eq v c=>exact⟨h,Nat.le_refl _⟩
theorem bZ(hb:b.of kvs x y)(hbf:b.fine wd)(hp:p.of kvs x y)(hpf:p.fine wd):(askT wd sg b p).of wd kvs x y∧(askT wd sg b p).ht≤1:=by
 have pl:(Tu.ask sg b p).of wd kvs x y∧(Tu.ask sg b p).ht≤1:=⟨⟨⟨hb,hbf⟩,hp,hpf⟩,Nat.zero_le _⟩
 cases b with
 | num u =>
  cases p with
  | num v=>show (trB _).of wd kvs x y∧(trB _).ht≤1;cases askV wd sg u v<;>exact⟨trivial,by decide⟩
  | ch l c =>
   show (ite _ _ _:Tu).of wd kvs x y∧(ite _ _ _:Tu).ht≤1
   split
   ·exact⟨trivial,by decide⟩
   split
   ·have:=dj (wd:=wd) hp l u;exact gq this.1 (by tm_at "l")
   ·exact pl
 | ch l c =>
  cases p with
  | num v =>
   show (ite _ _ _:Tu).of wd kvs x y∧(ite _ _ _:Tu).ht≤1
   split
   ·exact⟨trivial,by decide⟩
   split
   ·have:=dj (wd:=wd) hb l v;exact gq this.1 (by tm_at "l")
   split
   ·have:=dj (wd:=wd) hb l (lea wd sg);exact⟨this.1,by tm_at "l"⟩
   ·exact pl
  | ch r z =>
   show (ite _ _ _:Tu).of wd kvs x y∧(ite _ _ _:Tu).ht≤1
   split
   ·exact⟨trivial,by decide⟩
   ·exact pl
end
theorem Al.map_eq{α β γ:Type}{R:α→β→Prop}{F:α→γ}{G:β→γ}{l:List α}{r:List β}(h:Al R l r)(k:∀ a b,R a b→F a=G b):l.map F=r.map G:=by
 induction h with
 | nil=>rfl
 | cons h _ ih=>rw[List.map_cons,List.map_cons,k _ _ h,ih]
theorem Al.left{α β:Type}{R:α→β→Prop}{P:α→Prop}{l:List α}{r:List β}(h:Al R l r)(k:∀ a b,R a b→P a):∀ a∈l,P a:=by
 induction h with
 | nil=>exact fun _ h=>nomatch h
 | cons h _ ih =>
  intro a ha
  rcases List.mem_cons.mp ha with rfl | ha
  ·exact k _ _ h
  ·exact ih a ha
noncomputable def iN(l:List Nat):List V:=l.map fun (k:Nat)=>V.int k
noncomputable def idV(ps:List (Int×Tu)):List V:=ps.map fun p=>V.int p.1
noncomputable def cntT(wd x y:Nat)(ps:List (Int×Tu)):Nat:=(ps.filter fun p=>tv wd x y p.2).length
noncomputable def Rd(wd:Nat)(ts:List T)(kvs:List (V×V))(x y:Nat)(ps:List (Int×Tu)):Prop:=∀ p∈ps,IsT ts p.1 p.2∧p.2.of wd kvs x y∧p.2.ht≤1
noncomputable abbrev frC(ia:Int)(wd:Nat)(nums sr:List V)(s8 s9 s10 b11 b12 b13 b14 b15 b16:Option V):Env':=[some (.inst 762 1),some (.inst 1080 13),some (.int ia),some (.int 3),some (.int wd),some (.int (2 ^ wd:Nat)),some (.fl nums),some (.fl sr),s8,s9,s10,b11,b12,b13,b14,b15,b16]
variable{w:World}{h0:Heap}{mg mb:Str→Option Value}{E:En}{wd m n:Nat}{ts:List T}{d:Nat}{Q:V→St→Prop}{i j ia:Int}{σ:St}{b p:Bt}{ps:List (Int×Tu)}{nums sr:List V}{s8 s9 s10 b11 b12 b13 b15 b16:Option V}
theorem gc(ok:(cx w h0 mg mb).Ok)(S:Stand E wd)(h1:ts.length≤1000)(hn:ts.Nodup)(vs:Vars ts)(hx:n < 2 ^ wd)(hp:Rd wd ts (env1 n) n 0 ps)(hl:ps.length≤1000){J:St}{K:V→St→Prop}(hK:∀ J',J <+: J'→K (.int (cntT wd n 0 ps:Nat)) (Z (Ej E J') ts)) :
  ay (cx w h0 mg mb) (.builtin "len") (ab (aO (aG (aa 17)) 18 1 (nmA 18) (aH (ay (cx w h0 mg mb) (.ref 1101) (ab (aa 0) (ab (aa 18) (ab (bO false (bH (aa 3) (aa 14) b9)) ae))))) (ak 1)) ae) (d+12)
   (frC ia wd nums sr s8 s9 s10 b11 b12 b13 (some (.int n)) b15 b16++[some (.fl (idV ps))]) (Z (Ej E J) ts) K:=by
 have hp0:0 < 2 ^ wd:=Nat.pow_pos (by decide)
 repeat tm_at "g"
 refine aP rfl ?_
 repeat tm_at "g"
 refine bT ⟨by simp[idV];tm_at "l",?_⟩
 refine ij (ρ:=frC ia wd nums sr s8 s9 s10 b11 b12 b13 (some (.int n)) b15 b16++[some (.fl (idV ps)),none]) (v0:=.int 1) (fun p:Int×Tu=>V.int p.1) (fun p=>tv wd n 0 p.2) (Zf:=fun J=>Z (Ej E J) ts) (Inv:=fun J'=>J <+: J') ps [] _ J (fun _=>rfl) List.prefix_rfl (fun q hq J hJ K hK=>?_) (fun q hq J K _ hK=>hK) fun J' hJ=>?_
 ·obtain⟨a,b,c⟩:=hp q hq
  repeat tm_at "g"
  refine h8 ?_
  repeat tm_at "g"
  refine iF (kvs:=[(.int 3,.int n)]) pairs1 ?_
  rw[dset1,fL]
  repeat tm_at "g"
  refine dE ok (S.ej _) h1 hn vs (Env2.one E J ts n) hx hp0 q.2 q.1 _ _ b a (by tm_at "l") ?_
  repeat tm_at "g"
  exact hK _ (hJ.trans (List.prefix_append _ _))
 ·repeat tm_at "g"
  refine hY (by simp;have:=List.length_filter_le (fun p=>tv wd n 0 p.2) ps;tm_at "l") ?_
  have e:((([]:List V)++(ps.filter fun p=>tv wd n 0 p.2).map fun x=>if (V.int 1) matches .none then V.int x.1 else V.int 1).length:Int)=(cntT wd n 0 ps:Nat):=by simp[cntT]
  rw[e]
  repeat tm_at "g"
  exact hK J' hJ
end
section
set_option maxHeartbeats 2000000
noncomputable def rowN(wd:Nat)(sg:Bool):List Nat:=(List.range (2 ^ wd)).map fun k=>(k+lea wd sg) % 2 ^ wd
noncomputable def plc(wd:Nat)(sg:Bool)(v:Nat):Nat:=(v+lea wd sg) % 2 ^ wd
theorem f9{P:Nat→Bool→Nat→Bool}(h:((List.range 4).all fun wd=>decide (wd=0)||[false,true].all fun s=>(List.range (2 ^ wd)).all fun v=>P wd s v)=true){wd v:Nat}(hlo:1≤wd)(hw:wd≤3)(hv:v < 2 ^ wd)(sg:Bool):P wd sg v=true :=
 List.all_eq_true.mp (List.all_eq_true.mp ((Bool.or_eq_true_iff.mp (List.all_eq_true.mp h wd (List.mem_range.mpr (by tm_at "l")))).resolve_left (by simp;tm_at "l")) sg (by cases sg<;>simp)) v (List.mem_range.mpr hv)
theorem sA{wd v:Nat}(hlo:1≤wd)(hw:wd≤3)(hv:v < 2 ^ wd)(sg:Bool):(v:Int)∈(rowN wd sg).map Int.ofNat∧((rowN wd sg).map Int.ofNat).idxOf (v:Int)=plc wd sg v:=by
 have:=f9 (P:=fun wd sg v=>decide ((v:Int)∈(rowN wd sg).map Int.ofNat)&&decide (((rowN wd sg).map Int.ofNat).idxOf (v:Int)=plc wd sg v)) (by decide +kernel) hlo hw hv sg
 simpa only[Bool.and_eq_true,decide_eq_true_eq] using this
theorem jF{wd v:Nat}(hlo:1≤wd)(hw:wd≤3)(hv:v < 2 ^ wd)(sg:Bool):plc wd sg v < 2 ^ wd∧((List.range (2 ^ wd)).filter fun k=>askV wd sg v k).length=2 ^ wd - 1 - plc wd sg v∧((List.range (2 ^ wd)).filter fun k=>askV wd sg k v).length=plc wd sg v∧((List.range (2 ^ wd)).filter fun k=>!askV wd sg v k).length=plc wd sg v+1:=by
 have:=f9 (P:=fun wd sg v=>decide (plc wd sg v < 2 ^ wd)&&(decide (((List.range (2 ^ wd)).filter fun k=>askV wd sg v k).length=2 ^ wd - 1 - plc wd sg v)&&(decide (((List.range (2 ^ wd)).filter fun k=>askV wd sg k v).length=plc wd sg v)&&decide (((List.range (2 ^ wd)).filter fun k=>!askV wd sg v k).length=plc wd sg v+1)))) (by decide +kernel) hlo hw hv sg
 simpa only[Bool.and_eq_true,decide_eq_true_eq] using this
theorem uI(l:List Nat):iN l=(l.map Int.ofNat).map V.int:=by simp[iN]
theorem y1{wd:Nat}(hlo:1≤wd)(hw:wd≤3)(sg:Bool):PyData.layable0 (.list (((rowN wd sg).map Int.ofNat).map .int))=true :=
 f9 (P:=fun wd sg _=>PyData.layable0 (.list (((rowN wd sg).map Int.ofNat).map .int))) (by decide +kernel) hlo hw (Nat.pow_pos (by decide)) sg
variable{w:World}{h0:Heap}{mg mb:Str→Option Value}{E:En}{wd m n:Nat}{ts:List T}{d:Nat}{Q:V→St→Prop}{i j ia:Int}{σ:St}{b p:Bt}{ps:List (Int×Tu)}{nums sr:List V}{s8 s9 s10 b11 b12 b13 b15 b16:Option V}
theorem sR(ok:(cx w h0 mg mb).Ok)(S:Stand E wd)(h1:ts.length≤1000)(hn:ts.Nodup)(vs:Vars ts)(hx:n < 2 ^ wd)(ha:Is ts ia b.tm)(hb:b.fine wd)(hc:b.on false)(sg:Bool){pb pa pu:List (Int×Tu)}(hpb:Rd wd ts (env1 n) n 0 pb)(hpa:Rd wd ts (env1 n) n 0 pa)(hpu:Rd wd ts (env1 n) n 0 pu)
  (l1:pb.length≤8) (l2:pa.length≤8) (l3:pu.length≤8) (c1:cntT wd n 0 pb=2 ^ wd - 1 - plc wd sg (b.ev wd n 0)) (c2:cntT wd n 0 pa=plc wd sg (b.ev wd n 0)) (c3:cntT wd n 0 pu=plc wd sg (b.ev wd n 0)+1) {J:St} {K:Fl→Env'→St→Prop}
  (hK:∀ J' b15 b16,J <+: J'→K .next (frC ia wd nums sr s8 s9 (some (.fl (iN (rowN wd sg)))) (some (.fl (idV pb))) (some (.fl (idV pa))) (some (.fl (idV pu))) (some (.int n)) b15 b16) (Z (Ej E J') ts)) :
  fB (cx w h0 mg mb) (d+12) (frC ia wd nums sr s8 s9 (some (.fl (iN (rowN wd sg)))) (some (.fl (idV pb))) (some (.fl (idV pa))) (some (.fl (idV pu))) (some (.int n)) b15 b16) (Z (Ej E J) ts) K:=by
 delta fB
 have hp0:0 < 2 ^ wd:=Nat.pow_pos (by decide)
 have hv:=Bt.ev_lt hb.1 hx hp0
 have hof:b.of (env1 n) n 0:=by
  cases b with
  | num=>trivial
  | ch l c=>have hc:c=false:=hc;subst hc;exact has1 n
 obtain⟨r1,r2⟩:=sA S.lo S.hi hv sg
 repeat tm_at "g"
 refine h8 ?_
 repeat tm_at "g"
 refine iF (kvs:=[(.int 3,.int n)]) pairs1 ?_
 rw[dset1,fL]
 repeat tm_at "g"
 refine cI ok (S.ej _) h1 hn vs (Env2.one E J ts n) hx hp0 hof hb.2 ha ?_
 repeat tm_at "g"
 refine yM (x:=.fl (iN (rowN wd sg))) ?_
 refine⟨(rowN wd sg).map Int.ofNat,by rw[uI];exact wj _,y1 S.lo S.hi sg,r1,?_⟩
 rw[r2]
 repeat tm_at "g"
 refine aP rfl ?_
 repeat tm_at "g"
 refine aZ ⟨Nat.le_of_ble_eq_true rfl,?_⟩
 show compL _ _ _ _ _ [V.fl (idV pb),V.fl (idV pa),V.fl (idV pu)] [] _ _
 refine bb ?_
 refine be ?_
 refine bP ?_
 refine bw ?_
 refine gc (ps:=pb) ok S h1 hn vs hx hpb (by tm_at "l") fun J1 p1=>?_
 refine bb ?_
 refine be ?_
 refine bP ?_
 refine bw ?_
 refine gc (ps:=pa) ok S h1 hn vs hx hpa (by tm_at "l") fun J2 p2=>?_
 refine bb ?_
 refine be ?_
 refine bP ?_
 refine bw ?_
 refine gc (ps:=pu) ok S h1 hn vs hx hpu (by tm_at "l") fun J3 p3=>?_
 refine bY ?_
 rw[c1,c2,c3]
 repeat tm_at "g"
 have hpl:=(jF S.lo S.hi hv sg).1
 have e1:(((2 ^ wd:Nat):Int) - 1 - (plc wd sg (b.ev wd n 0):Nat))=((2 ^ wd - 1 - plc wd sg (b.ev wd n 0):Nat):Int):=by tm_at "l"
 rw[e1]
 refine gI (xs:=[((2 ^ wd - 1 - plc wd sg (b.ev wd n 0):Nat):Int),(plc wd sg (b.ev wd n 0):Nat),(plc wd sg (b.ev wd n 0)+1:Nat)]) (ys:=[((2 ^ wd - 1 - plc wd sg (b.ev wd n 0):Nat):Int),(plc wd sg (b.ev wd n 0):Nat),(plc wd sg (b.ev wd n 0):Nat)+1]) ?_
 refine i_F (by simp) ?_
 repeat tm_at "g"
 exact hK J3 _ _ ((((List.prefix_append _ _).trans p1).trans p2).trans p3)
end
section
set_option maxHeartbeats 2000000
noncomputable def nuV(np:List (Int×Nat)):List V:=np.map fun p=>V.int p.1
structure Nums (wd:Nat) (ts:List T) (np:List (Int×Nat)):Prop where
 is:∀ p∈np,Is ts p.1 (Bt.num p.2).tm
 all:np.map (·.2)=List.range (2 ^ wd)
theorem Nums.mono{wd:Nat}{ts ts':List T}{np:List (Int×Nat)}(h:Nums wd ts np)(p:ts <+: ts'):Nums wd ts' np:=⟨fun q hq=>(h.is q hq).mono p,h.all⟩
theorem Nums.len{wd:Nat}{ts:List T}{np:List (Int×Nat)}(h:Nums wd ts np):np.length=2 ^ wd:=by
 have:=congrArg List.length h.all;simpa using this
theorem Nums.lt{wd:Nat}{ts:List T}{np:List (Int×Nat)}(h:Nums wd ts np){p:Int×Nat}(hp:p∈np):p.2 < 2 ^ wd:=by
 have:p.2∈np.map (·.2):=List.mem_map_of_mem hp
 rw[h.all] at this
 exact List.mem_range.mp this
theorem gi{wd x y:Nat}{ps:List (Int×Tu)}{l:List Nat}{F:Nat→Tu}{G:Nat→Bool}(h:ps.map (·.2)=l.map F)(hG:∀ k∈l,tv wd x y (F k)=G k):cntT wd x y ps=(l.filter G).length:=by
 have e:cntT wd x y ps=((ps.map (·.2)).filter (tv wd x y)).length:=by rw[List.filter_map,List.length_map];rfl
 rw[e,h,List.filter_map,List.length_map]
 congr 1
 exact List.filter_congr hG
theorem iP{wd x y:Nat}{ts:List T}{kvs:List (V×V)}{ps:List (Int×Tu)}{l:List Nat}{F:Nat→Tu}(h:ps.map (·.2)=l.map F)(hi:∀ q∈ps,IsT ts q.1 q.2)(hF:∀ k∈l,(F k).of wd kvs x y∧(F k).ht≤1):Rd wd ts kvs x y ps:=fun p hp=>by
 have:p.2∈ps.map (·.2):=List.mem_map_of_mem hp
 rw[h] at this
 obtain⟨k,hk,e⟩:=List.mem_map.mp this
 rw[← e]
 exact⟨by rw[e];exact hi p hp,hF k hk⟩
variable{w:World}{h0:Heap}{mg mb:Str→Option Value}{E:En}{wd m n kl:Nat}{cs:List Int}{ts:List T}{d:Nat}{Q:V→St→Prop}{i j ia:Int}{σ:St}{b p:Bt}{ps:List (Int×Tu)}{np:List (Int×Nat)}{nums sr:List V}{s8 s9 s10 b11 b12 b13 b14 b15 b16:Option V}
theorem gU{e:ME V}(F:Nat→Tu)(H:Hold E ts wd cs n kl)(hlen:ts.length+5 * np.length≤900)(hE:∀ p∈np,∀ ts',Hold E ts' wd cs n kl→ts <+: ts'→ts'.length≤900→∀ K:V→St→Prop,(∀ r ts'',Grow ts' 5 ts''→IsT ts'' r (F p.2)→K (.int r) (Z E ts''))→e d (frC ia wd (nuV np) sr s8 s9 s10 b11 b12 b13 b14 b15 b16++[some (.int p.1)]) (Z E ts') K)
  (hQ:∀ ps ts',Grow ts (5 * np.length) ts'→Hold E ts' wd cs n kl→(∀ q∈ps,IsT ts' q.1 q.2)→ps.map (·.2)=np.map (fun p=>F p.2)→Q (.fl (idV ps)) (Z E ts')) :
  aO (aG (aa 6)) 17 1 (nmA 17) (aD true) e d (frC ia wd (nuV np) sr s8 s9 s10 b11 b12 b13 b14 b15 b16) (Z E ts) Q:=by
 refine aP rfl ?_
 repeat tm_at "g"
 refine bT ⟨by simp[nuV];tm_at "l",?_⟩
 refine gh (ρ:=frC ia wd (nuV np) sr s8 s9 s10 b11 b12 b13 b14 b15 b16++[none]) (fun p:Int×Nat=>V.int p.1) (fun q:Int×Tu=>V.int q.1) (Zf:=Z E) (Inv:=fun k s=>Hold E s wd cs n kl∧ts <+: s∧s.length+5 * k≤ts.length+5 * np.length) (R:=fun s q p=>IsT s q.1 q.2∧q.2=F p.2) (le:=fun a b=>a <+: b)
  (fun _=>List.prefix_rfl) (fun _ _ _ h h'=>h.trans h') (fun _ _ _ _ h r=>⟨r.1.mono h,r.2⟩) np [] _ ts 0 (fun _=>rfl) ⟨H,List.prefix_rfl,by tm_at "l"⟩ (fun p hp s k hi K hK=>?_) fun ys s hle hi hA=>?_
 ·obtain⟨Hs,hs,hl⟩:=hi
  refine hE p hp s Hs hs (by tm_at "l") K fun r s' g hr=>?_
  have:=g.2.2
  exact hK (r,F p.2) s' g.1 ⟨Hs.grow g,hs.trans g.1,by tm_at "l"⟩ ⟨hr,rfl⟩
 ·obtain⟨Hs,hs,hl⟩:=hi
  exact hQ ys s ⟨hs,Hs.nd,by tm_at "l"⟩ Hs (hA.left fun _ _ h=>h.1) (hA.map_eq fun _ _ h=>h.2)
noncomputable def vals(wd:Nat):List Nat:=if wd=3 then [0,3,6] else List.range (2 ^ wd)
theorem gP{wd k:Nat}(hw:wd≤3)(h:k∈vals wd):k < 2 ^ wd:=by
 unfold vals at h
 split at h
 ·rename_i e;subst e;simp at h;tm_at "l"
 ·exact List.mem_range.mp h
noncomputable def sted(wd:Nat):Int:=1+(wd:Int).fdiv 3 * 2
theorem vS{wd:Nat}(hlo:1≤wd)(hw:wd≤3){k:List V→Prop}(h:k (iN (vals wd))):cN σ (.rng 0 (2 ^ wd:Nat) (sted wd)) k:=by
 obtain rfl | rfl | rfl:wd=1∨wd=2∨wd=3:=by tm_at "l"
 ·exact⟨by decide,by decide +kernel,h⟩
 ·exact⟨by decide,by decide +kernel,h⟩
 ·exact⟨by decide,by decide +kernel,h⟩
theorem lp{wd:Nat}(hlo:1≤wd)(hw:wd≤3):sted wd≠0∧Builtin.divisionGoesByPylong (((2 ^ wd:Nat):Int) - 0) (sted wd)=false:=by
 obtain rfl | rfl | rfl:wd=1∨wd=2∨wd=3:=by tm_at "l"
 ·exact⟨by decide,by decide +kernel⟩
 ·exact⟨by decide,by decide +kernel⟩
 ·exact⟨by decide,by decide +kernel⟩
theorem u2(ok:(cx w h0 mg mb).Ok)(S:Stand E wd)(h1:ts.length≤1000)(hn:ts.Nodup)(vs:Vars ts)(ha:Is ts ia b.tm)(hb:b.fine wd)(hc:b.on false)(sg:Bool){pb pa pu:List (Int×Tu)}(i1:∀ q∈pb,IsT ts q.1 q.2)(i2:∀ q∈pa,IsT ts q.1 q.2)(i3:∀ q∈pu,IsT ts q.1 q.2)
  (e1:pb.map (·.2)=(List.range (2 ^ wd)).map fun k=>askT wd sg b (.num k)) (e2:pa.map (·.2)=(List.range (2 ^ wd)).map fun k=>askT wd sg (.num k) b) (e3:pu.map (·.2)=(List.range (2 ^ wd)).map fun k=>notT (askT wd sg b (.num k))) {K:Fl→Env'→St→Prop} {J0:St}
  (hK:∀ J' b14 b15 b16,J0 <+: J'→K .next (frC ia wd nums sr s8 s9 (some (.fl (iN (rowN wd sg)))) (some (.fl (idV pb))) (some (.fl (idV pa))) (some (.fl (idV pu))) b14 b15 b16) (Z (Ej E J') ts)) :
  ∀ (l:List Nat) (J:St) (b14 b15 b16:Option V),(∀ k∈l,k < 2 ^ wd)→J0 <+: J→forL (d+12) (nmA 14) (fB (cx w h0 mg mb)) K (iN l) (frC ia wd nums sr s8 s9 (some (.fl (iN (rowN wd sg)))) (some (.fl (idV pb))) (some (.fl (idV pa))) (some (.fl (idV pu))) b14 b15 b16) (Z (Ej E J) ts):=by
 intro zz
 induction zz with
 | nil =>
  intro J b14 b15 b16 _ hJ
  exact cT (hK J b14 b15 b16 hJ)
 | cons n l ih =>
  intro J b14 b15 b16 hl hJ
  have hx:=hl n List.mem_cons_self
  have hp0:0 < 2 ^ wd:=Nat.pow_pos (by decide)
  have hof:b.of (env1 n) n 0:=by
   cases b with
   | num=>trivial
   | ch l c=>have hc:c=false:=hc;subst hc;exact has1 n
  have hnum:∀ k∈List.range (2 ^ wd),(Bt.num k).fine wd:=fun k hk=>⟨decide_eq_true (List.mem_range.mp hk),Nat.zero_le _⟩
  have len8:∀ {ps:List (Int×Tu)} {F:Nat→Tu},ps.map (·.2)=(List.range (2 ^ wd)).map F→ps.length≤8:=fun {ps} {F} h=>by
   have:=congrArg List.length h
   simp only[List.length_map,List.length_range] at this
   have hp:2 ^ wd≤2 ^ 3:=Nat.pow_le_pow_right (by decide) S.hi
   tm_at "l"
  have hv:=Bt.ev_lt hb.1 hx hp0
  obtain⟨q1,q2,q3,q4⟩:=jF S.lo S.hi hv sg
  refine cj ?_
  repeat tm_at "g"
  refine sR ok S h1 hn vs hx ha hb hc sg (iP e1 i1 fun k hk=>bZ hof hb (p:=.num k) trivial (hnum k hk)) (iP e2 i2 fun k hk=>bZ (b:=.num k) trivial (hnum k hk) hof hb) (iP e3 i3 fun k hk=>?_) (len8 e1) (len8 e2) (len8 e3)
   ((gi e1 fun k hk=>cw S.lo S.hi hb.1 (hnum k hk).1 hx hp0).trans q2) ((gi e2 fun k hk=>cw S.lo S.hi (hnum k hk).1 hb.1 hx hp0).trans q3) ((gi e3 fun k hk=>(tv_not.trans (congrArg not (cw S.lo S.hi hb.1 (hnum k hk).1 hx hp0)))).trans q4) fun J' b15 b16 pJ=>?_
  ·have:=bZ (sg:=sg) hof hb (p:=.num k) trivial (hnum k hk)
   exact gq this.1 this.2
  repeat tm_at "g"
  exact ih J' _ b15 b16 (fun k hk=>hl k (List.mem_cons_of_mem _ hk)) (hJ.trans pJ)
end
section
set_option maxHeartbeats 2000000
variable{w:World}{h0:Heap}{mg mb:Str→Option Value}{E:En}{wd m n kl:Nat}{cs:List Int}{ts:List T}{d:Nat}{Q:V→St→Prop}{i j ia:Int}{σ:St}{b p:Bt}{ps:List (Int×Tu)}{np:List (Int×Nat)}{nums sr:List V}{s8 s9 s10 b11 b12 b13 b14 b15 b16:Option V}
theorem Hold.ej(H:Hold E ts wd cs n kl)(J:St):Hold (Ej E J) ts wd cs n kl:=⟨H.sw.imp fun _ h=>⟨h.1,h.2.ws,h.2.nm,h.2.lo,h.2.hi⟩,H.top,H.kn,H.kl,H.nd,H.base,H.vars⟩
theorem kL(ok:(cx w h0 mg mb).Ok)(H:Hold E ts wd cs n kl)(h1:ts.length≤700)(ha:Is ts ia b.tm)(hb:b.fine wd)(hc:b.on false)(hN:Nums wd ts np)(sg:Bool){K:Fl→Env'→St→Prop}
  (hK:∀ J' ts' b11 b12 b13 b14 b15 b16,Hold (Ej E J') ts' wd cs n kl→E.junk <+: J'→Grow ts 120 ts'→K .next (frC ia wd (nuV np) sr (some (.str (ba sg))) (some (.str (db sg))) (some (.fl (iN (rowN wd sg)))) b11 b12 b13 b14 b15 b16) (Z (Ej E J') ts')) :
  iW (cx w h0 mg mb) (d+12) (frC ia wd (nuV np) sr (some (.str (ba sg))) (some (.str (db sg))) (some (.fl (iN (rowN wd sg)))) b11 b12 b13 b14 b15 b16) (Z E ts) K:=by
 delta iW
 have S:=H.stand
 have hnl:=hN.len
 have hp3:2 ^ wd≤2 ^ 3:=Nat.pow_le_pow_right (by decide) S.hi
 have fin:∀ p∈np,(Bt.num p.2).fine wd:=fun p hp=>⟨decide_eq_true (hN.lt hp),Nat.zero_le _⟩
 have back:∀ F:Nat→Tu,np.map (fun p=>F p.2)=(List.range (2 ^ wd)).map F:=fun F=>by rw[← hN.all,List.map_map];rfl
 refine cC ?_
 refine df ?_
 refine gU (fun k=>askT wd sg b (.num k)) H (by tm_at "l") (fun p hp ts' H' hs hl K hK=>?_) fun pb ts1 g1 H1 i1 e1=>?_
 ·repeat tm_at "g"
  refine bV ok H'.stand H'.base (by tm_at "l") H'.nd sg (ha.mono hs) hb ((hN.is p hp).mono hs) (fin p hp) fun r ts'' g hr=>?_
  exact hK r ts'' (g.le (by tm_at "l")) hr
 have L1:=g1.2.2
 refine be ?_
 refine bU ?_
 refine cC ?_
 refine df ?_
 refine gU (fun k=>askT wd sg (.num k) b) H1 (by tm_at "l") (fun p hp ts' H' hs hl K hK=>?_) fun pa ts2 g2 H2 i2 e2=>?_
 ·repeat tm_at "g"
  refine bV ok H'.stand H'.base (by tm_at "l") H'.nd sg ((hN.is p hp).mono (g1.1.trans hs)) (fin p hp) (ha.mono (g1.1.trans hs)) hb fun r ts'' g hr=>?_
  exact hK r ts'' (g.le (by tm_at "l")) hr
 have L2:=g2.2.2
 have g12:=g1.trans g2 (Nat.le_refl _)
 refine be ?_
 refine bU ?_
 refine cC ?_
 refine df ?_
 refine gU (fun k=>notT (askT wd sg b (.num k))) H2 (by tm_at "l") (fun p hp ts' H' hs hl K hK=>?_) fun pu ts3 g3 H3 i3 e3=>?_
 ·repeat tm_at "g"
  refine eN ok H'.stand H'.base (by tm_at "l") H'.nd sg ((hN.is p hp).mono (g12.1.trans hs)) (fin p hp) (ha.mono (g12.1.trans hs)) hb fun r ts'' g hr=>?_
  exact hK r ts'' (g.le (by tm_at "l")) hr
 have L3:=g3.2.2
 have g13:=g12.trans g3 (Nat.le_refl _)
 refine be ?_
 refine bU ?_
 repeat tm_at "g"
 refine cX (by decide) (by decide) ?_
 repeat tm_at "g"
 refine dG (.inr (by decide)) ?_
 repeat tm_at "g"
 obtain⟨s1,s2⟩:=lp S.lo S.hi
 refine jy s1 s2 ?_
 refine vS S.lo S.hi ?_
 refine u2 (J:=E.junk) ok H3.stand (by tm_at "l") H3.nd H3.vars (ha.mono g13.1) hb hc sg (fun q hq=>(i1 q hq).mono (g2.1.trans g3.1)) (fun q hq=>(i2 q hq).mono g3.1) i3 (e1.trans (back fun k=>askT wd sg b (.num k))) (e2.trans (back fun k=>askT wd sg (.num k) b)) (e3.trans (back fun k=>notT (askT wd sg b (.num k)))) (fun J' b14 b15 b16 hJ=>?_) (vals wd) _ _ _ (fun k hk=>gP S.hi hk) (J0:=E.junk) List.prefix_rfl
 repeat tm_at "g"
 exact hK J' ts3 _ _ _ _ _ _ (H3.ej J') hJ (g13.le (by tm_at "l"))
theorem yO{wd:Nat}:iN (rowN wd false)=rngL (2 ^ wd):=by
 unfold iN rowN rngL
 rw[List.map_map]
 refine List.map_congr_left fun k hk=>?_
 show V.int ((k+0) % 2 ^ wd:Nat)=_
 rw[Nat.add_zero,Nat.mod_eq_of_lt (List.mem_range.mp hk)]
theorem rZ{wd:Nat}(hlo:1≤wd)(hw:wd≤3):((List.range (Builtin.Range.rangeSize (2 ^ (wd - 1):Nat) (2 ^ wd:Nat) 1).toNat).map fun (i:Nat)=>V.int ((2 ^ (wd - 1):Nat)+i * 1))++rngL (2 ^ (wd - 1))=iN (rowN wd true) ∧
  Builtin.Range.small (2 ^ (wd - 1):Nat) (2 ^ wd:Nat) 1=true∧(Builtin.Range.rangeSize (2 ^ (wd - 1):Nat) (2 ^ wd:Nat) 1).toNat≤1000:=by
 obtain rfl | rfl | rfl:wd=1∨wd=2∨wd=3:=by tm_at "l"
 ·exact⟨by kernel_rfl,by decide +kernel,by decide +kernel⟩
 ·exact⟨by kernel_rfl,by decide +kernel,by decide +kernel⟩
 ·exact⟨by kernel_rfl,by decide +kernel,by decide +kernel⟩
theorem wU(ok:(cx w h0 mg mb).Ok)(H:Hold E ts wd cs n kl)(h1:ts.length≤500)(ha:Is ts ia b.tm)(hb:b.fine wd)(hc:b.on false)(hQ:∀ J' ts',Hold (Ej E J') ts' wd cs n kl→E.junk <+: J'→Grow ts 260 ts'→Q (.bool true) (Z (Ej E J') ts')) :
  CallT (cx w h0 mg mb) (.ref 1111) (d+13) [.inst 762 1,.inst 1080 13,.int ia,.int 3,.int wd] (Z E ts) Q:=by
 refine (aA (k:=12) ok (v3 ok) (tN ok) rfl ?_).call
 delta jz
 have S:=H.stand
 have hp3:2 ^ wd≤2 ^ 3:=Nat.pow_le_pow_right (by decide) S.hi
 have hh3:2 ^ (wd - 1)≤2 ^ 3:=Nat.pow_le_pow_right (by decide) (by have:=S.hi;tm_at "l")
 repeat tm_at "g"
 refine cK (by tm_at "l") (by have:=S.hi;tm_at "l") (by decide) ?_
 rw[cF]
 repeat tm_at "g"
 refine aP rfl ?_
 repeat tm_at "g"
 refine dA ?_
 refine lU (by tm_at "l") ⟨by simp[rngL];tm_at "l",?_⟩
 refine gh (ρ:=[some (.inst 762 1),some (.inst 1080 13),some (.int ia),some (.int 3),some (.int wd),some (.int (2 ^ wd:Nat)),none,none,none,none,none,none,none,none,none,none,none,none]) (fun k:Nat=>V.int k) (fun q:Int×Nat=>V.int q.1) (Zf:=Z E) (Inv:=fun k s=>Hold E s wd cs n kl∧ts <+: s∧s.length+k≤ts.length+2 ^ wd) (R:=fun s q k=>Is s q.1 (numT q.2)∧q.2=k) (le:=fun a b=>a <+: b)
  (fun _=>List.prefix_rfl) (fun _ _ _ h h'=>h.trans h') (fun _ _ _ _ h r=>⟨r.1.mono h,r.2⟩) (List.range (2 ^ wd)) [] _ ts 0 (fun _=>rfl) ⟨H,List.prefix_rfl,by rw[List.length_range];tm_at "l"⟩ (fun k hk s m hi K hK=>?_) fun np ts1 _ hi hA=>?_
 ·obtain⟨Hs,hs,hl⟩:=hi
  repeat tm_at "g"
  refine gu ok S.eo (by tm_at "l") S.hs S.lo (Nat.le_trans S.hi (by decide)) ?_
  rw[iK (List.mem_range.mp hk)]
  obtain⟨g,a⟩:=bB Hs.nd ⟨"bvnum",[],3,.i k⟩
  have:=g.2.2
  exact hK ((mkT s ⟨"bvnum",[],3,.i k⟩).1,k) _ g.1 ⟨Hs.grow g,hs.trans g.1,by tm_at "l"⟩ ⟨.leaf a,rfl⟩
 obtain⟨H1,hs1,hl1⟩:=hi
 have hN:Nums wd ts1 np:=⟨hA.left fun _ _ h=>h.1,(hA.map_eq (G:=fun k=>k) fun _ _ h=>h.2).trans (List.map_id' _)⟩
 have g1:Grow ts 8 ts1:=⟨hs1,H1.nd,by tm_at "l"⟩
 repeat tm_at "g"
 refine cX (by decide) (by decide) ?_
 rw[eW S.lo S.hi]
 repeat tm_at "g"
 obtain⟨r1,r2,r3⟩:=rZ S.lo S.hi
 refine xc ?_
 refine gM (by decide) r2 (Nat.le_trans r3 (by decide)) ?_
 repeat tm_at "g"
 refine cX (by decide) (by decide) ?_
 rw[eW S.lo S.hi]
 repeat tm_at "g"
 refine dA ?_
 refine mV (by tm_at "l") ?_
 refine jN (by simp[rngL];tm_at "l") ?_
 rw[r1]
 repeat tm_at "g"
 refine dA ?_
 refine mV (by tm_at "l") ?_
 rw[← yO]
 repeat tm_at "g"
 refine aZ ?_
 refine cj ?_
 repeat tm_at "g"
 refine kL ok H1 (by have:=g1.2.2;tm_at "l") (ha.mono hs1) hb hc hN false fun J2 ts2 _ _ _ _ _ _ H2 p2 g2=>?_
 have L1:=g1.2.2
 have L2:=g2.2.2
 repeat tm_at "g"
 refine kL ok H2 (by tm_at "l") (ha.mono (hs1.trans g2.1)) hb hc (hN.mono g2.1) true fun J3 ts3 _ _ _ _ _ _ H3 p3 g3=>?_
 repeat tm_at "g"
 exact hQ J3 ts3 H3 (p2.trans p3) ((g1.trans g2 (Nat.le_refl _)).trans g3 (by tm_at "l"))
end
section
set_option maxHeartbeats 2000000
noncomputable def okOp(o:Str):Bool:=!(o=="bvule")&&!(o=="bvsle")&&PyData.strOk o
inductive Pt (ts:List T):Int→Nat→Prop
 | leaf {i:Int} {op:Str} {s:Int} {d:D} (a:At ts i ⟨op,[],s,d⟩) (ho:okOp op=true):Pt ts i 2
 | un {i j:Int} {op:Str} {s:Int} {d:D} {n:Nat} (h:Pt ts j n) (a:At ts i ⟨op,[j],s,d⟩) (ho:okOp op=true):Pt ts i (n+2)
 | bin {i j k:Int} {op:Str} {s:Int} {d:D} {n m:Nat} (h:Pt ts j n) (h':Pt ts k m) (a:At ts i ⟨op,[j,k],s,d⟩) (ho:okOp op=true):Pt ts i (n+m+2)
section
variable{ts:List T}{i:Int}{n m:Nat}
theorem Pt.uniq(h:Pt ts i n)(h':Pt ts i m):n=m:=by
 induction h generalizing m with
 | leaf a=>cases h' with
  | leaf=>rfl
  | un _ b=>cases At.eq_ a b
  | bin _ _ b=>cases At.eq_ a b
 | un _ a _ ih=>cases h' with
  | leaf b=>cases At.eq_ a b
  | un h b=>cases At.eq_ a b;rw[ih h]
  | bin _ _ b=>cases At.eq_ a b
 | bin _ _ a _ ih1 ih2=>cases h' with
  | leaf b=>cases At.eq_ a b
  | un h b=>cases At.eq_ a b
  | bin h k b=>cases At.eq_ a b;rw[ih1 h,ih2 k]
theorem Pt.op(h:Pt ts i n):∃ e,At ts i e∧okOp e.op=true:=by
 cases h with
 | leaf a ho=>exact⟨_,a,ho⟩
 | un _ a ho=>exact⟨_,a,ho⟩
 | bin _ _ a ho=>exact⟨_,a,ho⟩
open Classical in
noncomputable def wtP(ts:List T)(e:Int):Nat:=if h:∃ n,Pt ts e n then h.choose else 0
theorem dX(h:Pt ts i n):wtP ts i=n:=by
 have hx:∃ n,Pt ts i n:=⟨n,h⟩
 unfold wtP
 rw[dif_pos hx];exact hx.choose_spec.uniq h
theorem yq:Cls ts (fun e=>∃ n,Pt ts e n) (wtP ts):=by
 rintro e ⟨n,h⟩
 have hw:=dX h
 rw[hw]
 cases h with
 | leaf a=>exact⟨_,a,fun _ h=>(nomatch h),Nat.le_refl _,Nat.zero_le _⟩
 | @un _ j op s d n hj a=>exact⟨_,a,fun x hx=>by simp at hx;subst hx;exact⟨_,hj⟩,by show ([j].map (wtP ts)).sum+2≤n+2;simp[dX hj],Nat.le_of_ble_eq_true rfl⟩
 | @bin _ j k op s d n m hj hk a=>exact⟨_,a,fun x hx=>by
   simp at hx
   rcases hx with rfl | rfl
   ·exact⟨_,hj⟩
   ·exact⟨_,hk⟩,by show ([j,k].map (wtP ts)).sum+2≤n+m+2;simp[dX hj,dX hk],Nat.le_of_ble_eq_true rfl⟩
theorem zj{y:Bool}:∀ {l:List O1} {i:Int},Is ts i (chT l y)→∃ n,n≤4 * l.length+2∧Pt ts i n:=by
 intro zz
 induction zz with
 | nil =>
  intro i h
  cases h with | leaf a=>exact⟨2,Nat.le_refl _,.leaf a (by decide +kernel)⟩
 | cons o l ih =>
  intro i h
  rw[List.length_cons]
  cases o with
  | not=>cases h with | un h a=>obtain⟨n,hn,p⟩:=ih h;exact⟨n+2,by tm_at "l",.un p a (by decide +kernel)⟩
  | neg=>cases h with | un h a=>obtain⟨n,hn,p⟩:=ih h;exact⟨n+2,by tm_at "l",.un p a (by decide +kernel)⟩
  | add k=>cases h with | bin hk h a=>cases hk with | leaf b=>obtain⟨n,hn,p⟩:=ih h;exact⟨2+n+2,by tm_at "l",.bin (.leaf b (by decide +kernel)) p a (by decide +kernel)⟩
theorem o6{b:Bt}(h:Is ts i b.tm)(hl:b.len≤4):∃ n,n≤18∧Pt ts i n:=by
 cases b with
 | num v=>cases h with | leaf a=>exact⟨2,by decide,.leaf a (by decide +kernel)⟩
 | ch l y=>obtain⟨n,hn,p⟩:=zj (l:=l) h;have:l.length≤4:=hl;exact⟨n,by tm_at "l",p⟩
theorem ua{wd:Nat}{kvs:List (V×V)}{x y:Nat}:∀ {t:Tu} {i:Int},t.of wd kvs x y→IsT ts i t→∃ n,n≤38+2 * t.ht∧Pt ts i n:=by
 intro zz
 induction zz with
 | tt =>
  intro i _ h
  cases h with | tt a=>exact⟨2,by decide,.leaf a (by decide +kernel)⟩
 | ff =>
  intro i _ h
  cases h with | ff a=>exact⟨2,by decide,.leaf a (by decide +kernel)⟩
 | ask s a b =>
  intro i ho h
  cases h with | ask h h' c =>
  obtain⟨n,hn,p⟩:=o6 h ho.1.2.2
  obtain⟨m,hm,q⟩:=o6 h' ho.2.2.2
  exact⟨n+m+2,by show n+m+2≤38+2 * 0;tm_at "l",.bin p q c (by cases s<;>decide +kernel)⟩
 | eq v c =>
  intro i _ h
  cases h with | @eq _ j k _ _ h h' a =>
  cases h with | leaf h =>
  cases h' with | leaf h' =>
  have pj:Pt ts j 2:=.leaf h (by decide +kernel)
  have pk:Pt ts k 2:=.leaf h' (by decide +kernel)
  have e1:Pt ts (min j k) 2:=by rcases Int.le_total j k with h | h;rw[Int.min_eq_left h];exact pj;rw[Int.min_eq_right h];exact pk
  have e2:Pt ts (max j k) 2:=by rcases Int.le_total j k with h | h;rw[Int.max_eq_right h];exact pk;rw[Int.max_eq_left h];exact pj
  exact⟨6,by show 6≤38+2 * 0;decide,.bin e1 e2 a (by decide +kernel)⟩
 | no t ih =>
  intro i ho h
  cases h with | no h a =>
  obtain⟨n,hn,p⟩:=ih ho h
  exact⟨n+2,by show n+2≤38+2 * (t.ht+1);tm_at "l",.un p a (by decide +kernel)⟩
end
variable{w:World}{h0:Heap}{mg mb:Str→Option Value}{E:En}{wd n:Nat}{ts:List T}{d:Nat}{Q:V→St→Prop}{i j:Int}{σ:St}{t:Tu}{x y:Nat}{kvs:List (V×V)}
theorem pG(ok:(cx w h0 mg mb).Ok)(h1:ts.length≤1000)(h:IsT ts i t)(ho:t.of wd kvs x y)(hh:t.ht≤1)(hQ:∀ L:List Str,L.length≤40→(∀ o∈L,okOp o=true)→Q (.fl (L.map V.str)) (Z E ts)) :
  CallT (cx w h0 mg mb) (.ref 1106) (d+3) [.inst 762 1,.int i] (Z E ts) Q:=by
 refine (aA (k:=0) ok (wF ok) (wA ok) rfl ?_).call
 delta mq
 obtain⟨n,hn,p⟩:=ua ho h
 have hw:=dX p
 repeat tm_at "g"
 refine aP rfl ?_
 repeat tm_at "g"
 refine jM ok h1 yq ⟨n,p⟩ (by rw[hw];tm_at "l") fun L hl pl=>?_
 rw[hw] at hl
 repeat tm_at "g"
 refine bT ⟨by simp[iL];tm_at "l",?_⟩
 refine gh (ρ:=[some (.inst 762 1),some (.int i),none]) V.int V.str (Zf:=fun _:Unit=>Z E ts) (Inv:=fun _ _=>True) (R:=fun _ o _=>okOp o=true) (le:=fun _ _=>True) (fun _=>trivial) (fun _ _ _ _ _=>trivial) (fun _ _ _ _ _ h=>h) L [] _ () 0 (fun _=>rfl) trivial (fun e he _ _ _ K hK=>?_) fun ys _ _ _ hA=>?_
 ·obtain⟨m,q⟩:=pl.p1 e he
  obtain⟨f,a,hf⟩:=q.op
  repeat tm_at "g"
  refine dp ok h1 a ?_
  exact hK f.op () trivial trivial hf
 ·repeat tm_at "g"
  exact hQ ys (by have:=hA.len;tm_at "l") (hA.left fun _ _ h=>h)
theorem vB{o:Str}(h:okOp o=true){k:Bool→Prop}(hk:k false):aF σ .In (.str o) (.tup [.str "bvule",.str "bvsle"]) k:=by
 simp only[okOp,Bool.and_eq_true,Bool.not_eq_true'] at h
 obtain⟨⟨a,b⟩,c⟩:=h
 refine eC (xs:=["bvule","bvsle"]) rfl (by rw[List.all_cons,c];decide +kernel) ?_
 have e:((["bvule","bvsle"]:List Str).any fun x=>x==o)=false:=by
  have s:∀ {a b:Str},(a==b)=false→(b==a)=false:=fun h=>beq_eq_false_iff_ne.mpr (beq_eq_false_iff_ne.mp h).symm
  simp[s a,s b]
 rw[e]
 exact hk
end
section
set_option maxHeartbeats 2000000
noncomputable def evV(es:List (Nat×Nat×Nat)):List V:=es.map fun p=>V.ref (15+p.1)
noncomputable def Evs(wd:Nat)(J:St)(es:List (Nat×Nat×Nat)):Prop:=∀ p∈es,J[p.1]?=some (some (.dict (env2 p.2.1 p.2.2)))∧p.2.1 < 2 ^ wd∧p.2.2 < 2 ^ wd
theorem sL{α:Type}{l r:List α}{i:Nat}{x:α}(p:l <+: r)(h:l[i]?=some x):r[i]?=some x:=by
 obtain⟨t,rfl⟩:=p
 rw[List.getElem?_append_left (List.getElem?_eq_some_iff.mp h).1];exact h
theorem Evs.mono{wd:Nat}{J J':St}{es:List (Nat×Nat×Nat)}(h:Evs wd J es)(p:J <+: J'):Evs wd J' es:=fun q hq=>⟨sL p (h q hq).1,(h q hq).2⟩
theorem Evs.env{wd:Nat}{E:En}{ts:List T}{es:List (Nat×Nat×Nat)}(h:Evs wd E.junk es){p:Nat×Nat×Nat}(hp:p∈es):Env2 E ts (15+p.1) p.2.1 p.2.2 (env2 p.2.1 p.2.2):=by
 refine⟨?_,u0 _ _⟩
 rw[Nat.add_comm]
 exact (h p hp).1
theorem lj{σ:St}{a b:Bool}{k:Bool→Prop}(h:k (a != b)):aF σ .NotEq (.bool a) (.bool b) k:=by
 refine CmpI.ne (dx:=.bool a) (dy:=.bool b) rfl rfl (by cases a<;>rfl) (by cases b<;>rfl) ?_
 have e:(!PyData.eqv (.bool a) (.bool b))=(a != b):=by cases a<;>cases b<;>rfl
 rw[e];exact h
theorem sP{c:Ctx}{d:Nat}{σ:St}{Q:V→St→Prop}{p q r:Bool}(h:p.toNat+q.toNat+r.toNat=1)(hQ:Q (.int 1) σ):CallT c (.builtin "list.count") d [.fl [.bool p,.bool q,.bool r],.bool true] σ Q:=by
 have key:SeqAt.shaped (.list [.bool true,.bool p,.bool q,.bool r])=true∧((([PyData.bool p,.bool q,.bool r].countP (PyData.eqv · (.bool true)):Nat):Int)=(p.toNat+q.toNat+r.toNat:Nat)):=by
  cases p<;>cases q<;>cases r<;>exact⟨by decide +kernel,by decide +kernel⟩
 refine tC (dy:=.bool true) rfl ⟨[.bool p,.bool q,.bool r],rfl,key.1,?_⟩
 rw[key.2,h];exact hQ
theorem bj{n m:Nat}(b:Bt):b.of (env2 n m) n m:=by
 cases b with
 | num=>trivial
 | ch l c=>exact has2 n m c
theorem mr{wd u v:Nat}(hlo:1≤wd)(hw:wd≤3)(hu:u < 2 ^ wd)(hv:v < 2 ^ wd)(sg:Bool):(askV wd sg u v).toNat+(askV wd sg v u).toNat+(decide (u=v)).toNat=1∧askV wd sg (f1 wd false v) (f1 wd false u)=askV wd sg u v∧askV wd true u v=askV wd false (fa wd (2 ^ (wd - 1)) u) (fa wd (2 ^ (wd - 1)) v):=by
 have:=all2 (P:=fun wd u v=>decide (wd=0)||[false,true].all fun sg=>decide ((askV wd sg u v).toNat+(askV wd sg v u).toNat+(decide (u=v)).toNat=1)&&(decide (askV wd sg (f1 wd false v) (f1 wd false u)=askV wd sg u v)&&decide (askV wd true u v=askV wd false (fa wd (2 ^ (wd - 1)) u) (fa wd (2 ^ (wd - 1)) v)))) (by decide +kernel) hw hu hv
 have:=List.all_eq_true.mp ((Bool.or_eq_true_iff.mp this).resolve_left (by simp;tm_at "l")) sg (by cases sg<;>simp)
 simpa only[Bool.and_eq_true,decide_eq_true_eq] using this
noncomputable abbrev frT(ia ib:Int)(wd:Nat)(es:List (Nat×Nat×Nat))(dn mv:List V)(i6:Int)(s9 s10 s11 s12 s13 s14 s15 s16 s17 s18 s19:Option V):Env':=[some (.inst 762 1),some (.inst 1080 13),some (.int ia),some (.int ib),some (.fl (evV es)),some (.int wd),some (.int i6),some (.fl dn),some (.fl mv),s9,s10,s11,s12,s13,s14,s15,s16,s17,s18,s19]
variable{w:World}{h0:Heap}{mg mb:Str→Option Value}{E:En}{wd m n x y kl wi:Nat}{cs:List Int}{ts:List T}{d:Nat}{Q:V→St→Prop}{i j ia ib i6 i1 i2 i3 ja jb:Int}{σ:St}{a b:Bt}{dn mv:List V}{es:List (Nat×Nat×Nat)}{s9 s10 s11 s12 s13 s14 s15 s16 s17 s18 s19:Option V}
theorem qo(ok:(cx w h0 mg mb).Ok)(S:Stand E wd)(h1:ts.length≤1000)(hn:ts.Nodup)(vs:Vars ts)(W:Env2 E ts wi x y (env2 x y))(hx:x < 2 ^ wd)(hy:y < 2 ^ wd)(ha:Is ts ia a.tm)(na:a.fine wd)(hb:Is ts ib b.tm)(nb:b.fine wd)(sg:Bool)
  (na':(oneB wd false a).fine wd) (nb':(oneB wd false b).fine wd) (t1:IsT ts i1 (askT wd sg a b)) (t2:IsT ts i2 (askT wd sg b a)) (t3:IsT ts i3 (askT wd sg (oneB wd false b) (oneB wd false a))) {K:Fl→Env'→St→Prop}
  (hK:∀ s15 s16 s17,K .next (frT ia ib wd es dn mv i6 s9 s10 (some (.int i1)) (some (.int i2)) (some (.int i3)) (some (.ref wi)) s15 s16 s17 s18 s19) (Z E ts)) :
  fE (cx w h0 mg mb) (d+12) (frT ia ib wd es dn mv i6 s9 s10 (some (.int i1)) (some (.int i2)) (some (.int i3)) (some (.ref wi)) s15 s16 s17 s18 s19) (Z E ts) K:=by
 delta fE
 have hp0:0 < 2 ^ wd:=Nat.pow_pos (by decide)
 have ea:=Bt.ev_lt na.1 hx hy
 have eb:=Bt.ev_lt nb.1 hx hy
 obtain⟨v1,v2,_⟩:=mr S.lo S.hi ea eb sg
 have o1:=bZ (sg:=sg) (bj (n:=x) (m:=y) a) na (bj b) nb
 have o2:=bZ (sg:=sg) (bj (n:=x) (m:=y) b) nb (bj a) na
 have o3:=bZ (sg:=sg) (bj (n:=x) (m:=y) (oneB wd false b)) nb' (bj (oneB wd false a)) na'
 repeat tm_at "g"
 refine cI ok S h1 hn vs W hx hy (bj a) na.2 ha ?_
 repeat tm_at "g"
 refine cI ok S h1 hn vs W hx hy (bj b) nb.2 hb ?_
 repeat tm_at "g"
 refine dE ok S h1 hn vs W hx hy _ i1 _ _ o1.1 t1 (by tm_at "l") ?_
 repeat tm_at "g"
 refine dE ok S h1 hn vs W hx hy _ i2 _ _ o2.1 t2 (by tm_at "l") ?_
 repeat tm_at "g"
 rw[cw S.lo S.hi na.1 nb.1 hx hy,cw S.lo S.hi nb.1 na.1 hx hy,c9]
 refine sP v1 ?_
 repeat tm_at "g"
 refine dE ok S h1 hn vs W hx hy _ i3 _ _ o3.1 t3 (by tm_at "l") ?_
 repeat tm_at "g"
 rw[cw S.lo S.hi nb'.1 na'.1 hx hy,mM S.hi false na.1 hx hy,mM S.hi false nb.1 hx hy,v2]
 refine lj ?_
 refine i_F (by simp) ?_
 repeat tm_at "g"
 exact hK _ _ _
theorem jx(ok:(cx w h0 mg mb).Ok)(S:Stand E wd)(h1:ts.length≤1000)(hn:ts.Nodup)(vs:Vars ts)(ha:Is ts ia a.tm)(na:a.fine wd)(hb:Is ts ib b.tm)(nb:b.fine wd)(sg:Bool)
  (na':(oneB wd false a).fine wd) (nb':(oneB wd false b).fine wd) (t1:IsT ts i1 (askT wd sg a b)) (t2:IsT ts i2 (askT wd sg b a)) (t3:IsT ts i3 (askT wd sg (oneB wd false b) (oneB wd false a))) {K:Fl→Env'→St→Prop}
  (hK:∀ s14 s15 s16 s17,K .next (frT ia ib wd es dn mv i6 s9 s10 (some (.int i1)) (some (.int i2)) (some (.int i3)) s14 s15 s16 s17 s18 s19) (Z E ts)) :
  ∀ (l:List (Nat×Nat×Nat)) (s14 s15 s16 s17:Option V),Evs wd E.junk l→forL (d+12) (nmA 14) (fE (cx w h0 mg mb)) K (evV l) (frT ia ib wd es dn mv i6 s9 s10 (some (.int i1)) (some (.int i2)) (some (.int i3)) s14 s15 s16 s17 s18 s19) (Z E ts)
 | [],s14,s15,s16,s17,_=>cT (hK _ _ _ _)
 | p::l,s14,s15,s16,s17,he=>by
  have hp:=he p List.mem_cons_self
  refine cj ?_
  repeat tm_at "g"
  refine qo ok S h1 hn vs (he.env List.mem_cons_self) hp.2.1 hp.2.2 ha na hb nb sg na' nb' t1 t2 t3 fun s15 s16 s17=>?_
  repeat tm_at "g"
  exact jx ok S h1 hn vs ha na hb nb sg na' nb' t1 t2 t3 hK l _ _ _ _ fun q hq=>he q (List.mem_cons_of_mem _ hq)
theorem mx(ok:(cx w h0 mg mb).Ok)(H:Hold E ts wd cs n kl)(h1:ts.length≤800)(he:Evs wd E.junk es)(hes:es.length≤1000)(ha:Is ts ia a.tm)(na:a.fine wd)(hb:Is ts ib b.tm)(nb:b.fine wd)(na':(oneB wd false a).fine wd)(nb':(oneB wd false b).fine wd)(hja:Is ts ja (oneB wd false a).tm)(hjb:Is ts jb (oneB wd false b).tm)(sg:Bool){K:Fl→Env'→St→Prop}
  (hK:∀ ts' s11 s12 s13 s14 s15 s16 s17,Hold E ts' wd cs n kl→Grow ts 24 ts'→K .next (frT ia ib wd es [.int ja,.int jb] mv i6 (some (.str (ba sg))) (some (.str (db sg))) s11 s12 s13 s14 s15 s16 s17 s18 s19) (Z E ts')) :
  iM (cx w h0 mg mb) (d+12) (frT ia ib wd es [.int ja,.int jb] mv i6 (some (.str (ba sg))) (some (.str (db sg))) s11 s12 s13 s14 s15 s16 s17 s18 s19) (Z E ts) K:=by
 delta iM
 have S:=H.stand
 repeat tm_at "g"
 refine bV ok S H.base (by tm_at "l") H.nd sg ha na hb nb fun i1 ts1 g1 t1=>?_
 have H1:=H.grow g1
 have L1:=g1.2.2
 repeat tm_at "g"
 refine bV ok S H1.base (by tm_at "l") H1.nd sg (hb.mono g1.1) nb (ha.mono g1.1) na fun i2 ts2 g2 t2=>?_
 have H2:=H1.grow g2
 have L2:=g2.2.2
 have p2:=g1.1.trans g2.1
 repeat tm_at "g"
 refine bn (by decide) (by decide) (v:=.int jb) rfl ?_
 repeat tm_at "g"
 refine bn (by decide) (by decide) (v:=.int ja) rfl ?_
 repeat tm_at "g"
 refine bV ok S H2.base (by tm_at "l") H2.nd sg (hjb.mono p2) nb' (hja.mono p2) na' fun i3 ts3 g3 t3=>?_
 have H3:=H2.grow g3
 have L3:=g3.2.2
 have p3:=p2.trans g3.1
 repeat tm_at "g"
 refine eN ok S H3.base (by tm_at "l") H3.nd sg (ha.mono p3) na (hb.mono p3) nb fun i4 ts4 g4 t4=>?_
 have H4:=H3.grow g4
 have L4:=g4.2.2
 have p4:=p3.trans g4.1
 repeat tm_at "g"
 refine iV ok H4.base (by tm_at "l") H4.nd (t2.mono (g3.1.trans g4.1)) fun i5 ts5 g5 t5=>?_
 have H5:=H4.grow g5
 have L5:=g5.2.2
 have p5:=p4.trans g5.1
 have e5:=(t4.mono g5.1).inj H5.nd t5
 subst e5
 repeat tm_at "g"
 refine i_F (by simp) ?_
 repeat tm_at "g"
 refine eN ok S H5.base (by tm_at "l") H5.nd sg (hb.mono p5) nb (ha.mono p5) na fun i7 ts7 g7 t7=>?_
 have H7:=H5.grow g7
 have L7:=g7.2.2
 have p7:=p5.trans g7.1
 repeat tm_at "g"
 have q7:ts1 <+: ts7:=(((g2.1.trans g3.1).trans g4.1).trans g5.1).trans g7.1
 refine iV ok H7.base (by tm_at "l") H7.nd (t1.mono q7) fun i8 ts8 g8 t8=>?_
 have H8:=H7.grow g8
 have L8:=g8.2.2
 have p8:=p7.trans g8.1
 have e8:=(t7.mono g8.1).inj H8.nd t8
 subst e8
 repeat tm_at "g"
 refine i_F (by simp) ?_
 repeat tm_at "g"
 have q8:=q7.trans g8.1
 have r8:ts2 <+: ts8:=(((g3.1.trans g4.1).trans g5.1).trans g7.1).trans g8.1
 have u8:ts3 <+: ts8:=((g4.1.trans g5.1).trans g7.1).trans g8.1
 have o1:=bZ (sg:=sg) (bj (n:=0) (m:=0) a) na (bj b) nb
 have o2:=bZ (sg:=sg) (bj (n:=0) (m:=0) b) nb (bj a) na
 refine aP rfl ?_
 repeat tm_at "g"
 refine pG ok (by tm_at "l") (t1.mono q8) o1.1 o1.2 fun A hA oA=>?_
 repeat tm_at "g"
 refine pG ok (by tm_at "l") (t2.mono r8) o2.1 o2.2 fun B hB oB=>?_
 repeat tm_at "g"
 refine jN (by simp;tm_at "l") ?_
 repeat tm_at "g"
 refine bT ⟨by simp;tm_at "l",?_⟩
 rw[← List.map_append]
 refine ij (ρ:=frT ia ib wd es [.int ja,.int jb] mv i6 (some (.str (ba sg))) (some (.str (db sg))) (some (.int i1)) (some (.int i2)) (some (.int i3)) s14 s15 s16 s17 s18 s19++[none]) (v0:=.none) V.str (fun _=>false) (Zf:=fun _:Unit=>Z E ts8) (Inv:=fun _=>True) (A++B) [] _ () (fun _=>rfl) trivial (fun o ho _ _ K hK=>?_) (fun o ho _ K h=>nomatch h) fun _ _=>?_
 ·repeat tm_at "g"
  refine vB ?_ (hK () trivial)
  rcases List.mem_append.mp ho with h | h
  ·exact oA o h
  ·exact oB o h
 have e:([]:List V)++((A++B).filter fun _=>false).map (fun x=>if V.none matches .none then V.str x else V.none)=([]:List Int).map V.int:=by simp
 rw[e]
 repeat tm_at "g"
 refine gI (xs:=[]) (ys:=[]) ?_
 repeat tm_at "g"
 refine bT ?_
 refine jx ok S (by tm_at "l") H8.nd H8.vars (ha.mono p8) na (hb.mono p8) nb sg na' nb' (t1.mono q8) (t2.mono r8) (t3.mono u8) (fun s14 s15 s16 s17=>?_) es _ _ _ _ he
 repeat tm_at "g"
 exact hK ts8 _ _ _ _ _ _ _ H8 ⟨p8,H8.nd,by tm_at "l"⟩
end
section
set_option maxHeartbeats 2000000
variable{w:World}{h0:Heap}{mg mb:Str→Option Value}{E:En}{wd m n x y kl wi:Nat}{cs:List Int}{ts:List T}{d:Nat}{Q:V→St→Prop}{i j ia ib i6 i1 i2 i3 ja jb:Int}{σ:St}{a b:Bt}{dn mv:List V}{es:List (Nat×Nat×Nat)}
theorem o0{b:Bt}(hn:b.nf wd=true)(hl:b.len≤1){h:Nat}(hh:h < 2 ^ wd):b.fine wd∧(oneB wd false b).fine wd∧(addB wd h b).fine wd:=by
 obtain⟨p,q⟩:=ie (wd:=wd) (n:=false) hn
 obtain⟨r,s⟩:=iT (wd:=wd) hh hn
 exact⟨⟨hn,by tm_at "l"⟩,⟨p,by tm_at "l"⟩,r,by tm_at "l"⟩
theorem ra(ok:(cx w h0 mg mb).Ok)(H:Hold E ts wd cs n kl)(h1:ts.length≤500)(hk:kl≤700)(he:Evs wd E.junk es)(hes:es.length≤1000)(ha:Is ts ia a.tm)(na:a.nf wd=true)(la:a.len≤1)(hb:Is ts ib b.tm)(nb:b.nf wd=true)(lb:b.len≤1)
  (hQ:∀ kn' ts',Hold (Ek E kn') ts' wd cs n (kl+144)→Grow ts 277 ts'→Q (.bool true) (Z (Ek E kn') ts')) :
  CallT (cx w h0 mg mb) (.ref 1116) (d+13) [.inst 762 1,.inst 1080 13,.int ia,.int ib,.fl (evV es),.int wd] (Z E ts) Q:=by
 refine (aA (k:=14) ok (rS ok) (u6 ok) rfl ?_).call
 delta kZ
 show ag _ _ (d+12) [some (.inst 762 1),some (.inst 1080 13),some (.int ia),some (.int ib),some (.fl (evV es)),some (.int wd),none,none,none,none,none,none,none,none,none,none,none,none,none,none] (Z E ts) _
 have S:=H.stand
 have hp0:0 < 2 ^ wd:=Nat.pow_pos (by decide)
 have hh:2 ^ (wd - 1) < 2 ^ wd:=Nat.pow_lt_pow_right (by decide) (by have:=S.lo;tm_at "l")
 obtain⟨fa1,fa2,fa3⟩:=o0 na la hh
 obtain⟨fb1,fb2,fb3⟩:=o0 nb lb hh
 repeat tm_at "g"
 have e1:((wd:Int) - 1)=((wd - 1:Nat):Int):=by have:=S.lo;tm_at "l"
 rw[e1]
 refine cK (by tm_at "l") (by have:=S.hi;tm_at "l") (by decide) ?_
 rw[cF]
 repeat tm_at "g"
 refine gu ok S.eo (by tm_at "l") S.hs S.lo (Nat.le_trans S.hi (by decide)) ?_
 rw[iK hh]
 obtain⟨g1,a1⟩:=bB H.nd ⟨"bvnum",[],3,.i (2 ^ (wd - 1):Nat)⟩
 generalize mkT ts ⟨"bvnum",[],3,.i (2 ^ (wd - 1):Nat)⟩=r1 at g1 a1 ⊢
 obtain⟨i6,ts1⟩:=r1
 have hhf:Is ts1 i6 (Bt.num (2 ^ (wd - 1))).tm:=.leaf a1
 have H1:=H.grow g1
 have L1:ts1.length≤ts.length+1:=g1.2.2
 repeat tm_at "g"
 refine aP rfl ?_
 repeat tm_at "g"
 refine aZ ⟨Nat.le_of_ble_eq_true rfl,?_⟩
 show compL _ _ _ _ _ [V.int ia,V.int ib] [] _ _
 refine bb ?_
 refine be ?_
 refine bP ?_
 refine bw ?_
 repeat tm_at "g"
 refine fm ok S (by tm_at "l") H1.nd false (ha.mono g1.1) fun x1 ts2 g2 hx1=>?_
 have H2:=H1.grow g2
 have L2:=g2.2.2
 repeat tm_at "g"
 refine c6 ok H2 (by tm_at "l") (by tm_at "l") hx1 (Nm.un false na (by tm_at "l")) fun ja kn1 ts3 H3 g3 hja=>?_
 have L3:=g3.2.2
 repeat tm_at "g"
 refine bb ?_
 refine be ?_
 refine bP ?_
 refine bw ?_
 have p3:=(g1.1.trans g2.1).trans g3.1
 repeat tm_at "g"
 refine fm ok H3.stand (by tm_at "l") H3.nd false (hb.mono p3) fun x2 ts4 g4 hx2=>?_
 have H4:=H3.grow g4
 have L4:=g4.2.2
 repeat tm_at "g"
 refine c6 ok H4 (by tm_at "l") (by tm_at "l") hx2 (Nm.un false nb (by tm_at "l")) fun jb kn2 ts5 H5 g5 hjb=>?_
 have L5:=g5.2.2
 have p5:=(p3.trans g4.1).trans g5.1
 refine bY ?_
 refine eU ?_
 refine ec (Nat.le_of_ble_eq_true rfl) ?_
 refine eO rfl ?_
 refine bU ?_
 refine cC ?_
 refine df ?_
 show aO _ _ _ _ _ _ (d+12) [some (.inst 762 1),some (.inst 1080 13),some (.int ia),some (.int ib),some (.fl (evV es)),some (.int wd),some (.int i6),some (.fl [.int ja,.int jb]),none,none,none,none,none,none,none,none,none,none,none,none] _ _
 refine aP rfl ?_
 repeat tm_at "g"
 refine aZ ⟨Nat.le_of_ble_eq_true rfl,?_⟩
 show compL _ _ _ _ _ [V.int ia,V.int ib] [] _ _
 refine bb ?_
 refine be ?_
 refine bP ?_
 refine bw ?_
 have q5:=((g2.1.trans g3.1).trans g4.1).trans g5.1
 repeat tm_at "g"
 refine fS ok H5.stand (by tm_at "l") H5.nd (hhf.mono q5) (ha.mono p5) fun x3 ts6 g6 hx3=>?_
 have H6:=H5.grow g6
 have L6:=g6.2.2
 repeat tm_at "g"
 refine c6 ok H6 (by tm_at "l") (by tm_at "l") hx3 (Nm.add hh na (by tm_at "l")) fun ma kn3 ts7 H7 g7 hma=>?_
 have L7:=g7.2.2
 repeat tm_at "g"
 refine bb ?_
 refine be ?_
 refine bP ?_
 refine bw ?_
 have p7:=(p5.trans g6.1).trans g7.1
 have q7:=(q5.trans g6.1).trans g7.1
 repeat tm_at "g"
 refine fS ok H7.stand (by tm_at "l") H7.nd (hhf.mono q7) (hb.mono p7) fun x4 ts8 g8 hx4=>?_
 have H8:=H7.grow g8
 have L8:=g8.2.2
 repeat tm_at "g"
 refine c6 ok H8 (by tm_at "l") (by tm_at "l") hx4 (Nm.add hh nb (by tm_at "l")) fun mb' kn4 ts9 H9 g9 hmb=>?_
 have L9:=g9.2.2
 have p9:=(p7.trans g8.1).trans g9.1
 refine bY ?_
 have r9:ts3 <+: ts9:=((((g4.1.trans g5.1).trans g6.1).trans g7.1).trans g8.1).trans g9.1
 have u9:ts5 <+: ts9:=((g6.1.trans g7.1).trans g8.1).trans g9.1
 have v9:ts7 <+: ts9:=g8.1.trans g9.1
 repeat tm_at "g"
 refine aZ ?_
 refine cj ?_
 repeat tm_at "g"
 refine mx ok H9 (by tm_at "l") he hes (ha.mono p9) fa1 (hb.mono p9) fb1 fa2 fb2 (hja.mono r9) (hjb.mono u9) false fun tsA _ _ _ _ _ _ _ HA gA=>?_
 have LA:=gA.2.2
 have pA:=p9.trans gA.1
 repeat tm_at "g"
 refine mx ok HA (by tm_at "l") he hes (ha.mono pA) fa1 (hb.mono pA) fb1 fa2 fb2 ((hja.mono r9).mono gA.1) ((hjb.mono u9).mono gA.1) true fun tsB _ _ _ _ _ _ _ HB gB=>?_
 have LB:=gB.2.2
 have pB:=pA.trans gB.1
 repeat tm_at "g"
 refine bV ok HB.stand HB.base (by tm_at "l") HB.nd true (ha.mono pB) fa1 (hb.mono pB) fb1 fun s1 tsC gC t1=>?_
 have HC:=HB.grow gC
 have LC:=gC.2.2
 repeat tm_at "g"
 refine bn (by decide) (by decide) (v:=.int ma) rfl ?_
 repeat tm_at "g"
 refine bn (by decide) (by decide) (v:=.int mb') rfl ?_
 repeat tm_at "g"
 have wC:=(gA.1.trans gB.1).trans gC.1
 refine bV ok HC.stand HC.base (by tm_at "l") HC.nd false ((hma.mono v9).mono wC) fa3 (hmb.mono wC) fb3 fun s2 tsD gD t2=>?_
 have HD:=HC.grow gD
 have LD:=gD.2.2
 repeat tm_at "g"
 have SD:=HD.stand
 refine aP rfl ?_
 repeat tm_at "g"
 refine bT ⟨by simp[evV];tm_at "l",?_⟩
 refine ij (ρ:=frT ia ib wd es [.int ja,.int jb] [.int ma,.int mb'] i6 _ _ _ _ _ _ _ _ _ (some (.int s1)) (some (.int s2))++[none]) (v0:=.none) (fun p:Nat×Nat×Nat=>V.ref (15+p.1)) (fun _=>false) (Zf:=fun _:Unit=>Z (Ek E kn4) tsD) (Inv:=fun _=>True) es [] _ () (fun _=>rfl) trivial (fun p hp _ _ K hK=>?_) (fun o ho _ K h=>nomatch h) fun _ _=>?_
 ·have W:Env2 (Ek E kn4) tsD (15+p.1) p.2.1 p.2.2 (env2 p.2.1 p.2.2):=Evs.env (wd:=wd) (E:=Ek E kn4) he hp
  obtain⟨_,hx,hy⟩:=he p hp
  have o1:=bZ (sg:=true) (bj (n:=p.2.1) (m:=p.2.2) a) fa1 (bj b) fb1
  have o2:=bZ (sg:=false) (bj (n:=p.2.1) (m:=p.2.2) (addB wd (2 ^ (wd - 1)) a)) fa3 (bj (addB wd (2 ^ (wd - 1)) b)) fb3
  repeat tm_at "g"
  refine dE ok SD (by tm_at "l") HD.nd HD.vars W hx hy _ s1 _ _ o1.1 (t1.mono gD.1) (by tm_at "l") ?_
  repeat tm_at "g"
  refine dE ok SD (by tm_at "l") HD.nd HD.vars W hx hy _ s2 _ _ o2.1 t2 (by tm_at "l") ?_
  repeat tm_at "g"
  rw[cw S.lo S.hi na nb hx hy,cw S.lo S.hi fa3.1 fb3.1 hx hy,oL na hx hy,oL nb hx hy,(mr S.lo S.hi (Bt.ev_lt na hx hy) (Bt.ev_lt nb hx hy) true).2.2]
  refine lj ?_
  have e:(askV wd false (fa wd (2 ^ (wd - 1)) (a.ev wd p.2.1 p.2.2)) (fa wd (2 ^ (wd - 1)) (b.ev wd p.2.1 p.2.2)) != askV wd false (fa wd (2 ^ (wd - 1)) (a.ev wd p.2.1 p.2.2)) (fa wd (2 ^ (wd - 1)) (b.ev wd p.2.1 p.2.2)))=false:=by simp
  rw[e]
  exact hK () trivial
 have e:([]:List V)++(es.filter fun _=>false).map (fun p=>if V.none matches .none then V.ref (15+p.1) else V.none)=([]:List Int).map V.int:=by simp
 rw[e]
 repeat tm_at "g"
 refine j0 (xs:=[]) (ys:=[]) ?_
 repeat tm_at "g"
 exact hQ kn4 tsD HD ⟨((pB.trans gC.1).trans gD.1),HD.nd,by tm_at "l"⟩
end
section
set_option maxHeartbeats 2000000
noncomputable def b0:Bk:=⟨[.str "Bool",.str "Int",.str "Real"],[0,0,0],[],[],[],[tT,fT]⟩
variable{w:World}{h0:Heap}{mg mb:Str→Option Value}{top:AObj}{wd:Nat}{ts:List T}{d:Nat}{Q:V→St→Prop}{cs:List Int}{n:Nat}
theorem sn(ok:(cx w h0 mg mb).Ok)(hQ:Q .none (σB top b0 [("true_number",.int 1),("false_number",.int 2)] [])):CodeT (cx w h0 mg mb) (.ref 243) (d+2) [.inst 762 1] [some top,some (.ns [])] Q:=by
 refine aA (k:=0) ok (xw ok) (sD ok) rfl ?_
 delta pn
 repeat tm_at "g"
 refine bI rfl rfl (Nat.le_of_ble_eq_true (by kernel_rfl)) ?_
 refine Fconv (σ':=some top::some (.ns [("sort_names",.ref 2)])::[some (.list [.str "Bool",.str "Int",.str "Real"])]) (by kernel_rfl) ?_
 repeat tm_at "g"
 refine bI rfl rfl (Nat.le_of_ble_eq_true (by kernel_rfl)) ?_
 refine Fconv (σ':=some top::some (.ns [("sort_names",.ref 2),("sort_widths",.ref 3)])::[some (.list [.str "Bool",.str "Int",.str "Real"]),some (.list [.int 0,.int 0,.int 0])]) (by kernel_rfl) ?_
 repeat tm_at "g"
 refine bI rfl rfl (Nat.le_of_ble_eq_true (by kernel_rfl)) ?_
 refine Fconv (σ':=some top::some (.ns [("sort_names",.ref 2),("sort_widths",.ref 3),("fun_names",.ref 4)])::[some (.list [.str "Bool",.str "Int",.str "Real"]),some (.list [.int 0,.int 0,.int 0]),some (.list [])]) (by kernel_rfl) ?_
 repeat tm_at "g"
 refine bI rfl rfl (Nat.le_of_ble_eq_true (by kernel_rfl)) ?_
 refine Fconv (σ':=some top::some (.ns [("sort_names",.ref 2),("sort_widths",.ref 3),("fun_names",.ref 4),("fun_args",.ref 5)])::[some (.list [.str "Bool",.str "Int",.str "Real"]),some (.list [.int 0,.int 0,.int 0]),some (.list []),some (.list [])]) (by kernel_rfl) ?_
 repeat tm_at "g"
 refine bI rfl rfl (Nat.le_of_ble_eq_true (by kernel_rfl)) ?_
 refine Fconv (σ':=some top::some (.ns [("sort_names",.ref 2),("sort_widths",.ref 3),("fun_names",.ref 4),("fun_args",.ref 5),("fun_results",.ref 6)])::[some (.list [.str "Bool",.str "Int",.str "Real"]),some (.list [.int 0,.int 0,.int 0]),some (.list []),some (.list []),some (.list [])]) (by kernel_rfl) ?_
 repeat tm_at "g"
 refine bI rfl rfl (Nat.le_of_ble_eq_true (by kernel_rfl)) ?_
 refine Fconv (σ':=some top::some (.ns [("sort_names",.ref 2),("sort_widths",.ref 3),("fun_names",.ref 4),("fun_args",.ref 5),("fun_results",.ref 6),("fresh_count",.int 0)])::[some (.list [.str "Bool",.str "Int",.str "Real"]),some (.list [.int 0,.int 0,.int 0]),some (.list []),some (.list []),some (.list [])]) (by kernel_rfl) ?_
 repeat tm_at "g"
 refine bI rfl rfl (Nat.le_of_ble_eq_true (by kernel_rfl)) ?_
 refine Fconv (σ':=some top::some (.ns [("sort_names",.ref 2),("sort_widths",.ref 3),("fun_names",.ref 4),("fun_args",.ref 5),("fun_results",.ref 6),("fresh_count",.int 0),("term_ops",.ref 7)])::[some (.list [.str "Bool",.str "Int",.str "Real"]),some (.list [.int 0,.int 0,.int 0]),some (.list []),some (.list []),some (.list []),some (.list [.str ""])]) (by kernel_rfl) ?_
 repeat tm_at "g"
 refine bI rfl rfl (Nat.le_of_ble_eq_true (by kernel_rfl)) ?_
 refine Fconv (σ':=some top::some (.ns [("sort_names",.ref 2),("sort_widths",.ref 3),("fun_names",.ref 4),("fun_args",.ref 5),("fun_results",.ref 6),("fresh_count",.int 0),("term_ops",.ref 7),("term_args",.ref 8)])::[some (.list [.str "Bool",.str "Int",.str "Real"]),some (.list [.int 0,.int 0,.int 0]),some (.list []),some (.list []),some (.list []),some (.list [.str ""]),some (.list [.tup []])]) (by kernel_rfl) ?_
 repeat tm_at "g"
 refine bI rfl rfl (Nat.le_of_ble_eq_true (by kernel_rfl)) ?_
 refine Fconv (σ':=some top::some (.ns [("sort_names",.ref 2),("sort_widths",.ref 3),("fun_names",.ref 4),("fun_args",.ref 5),("fun_results",.ref 6),("fresh_count",.int 0),("term_ops",.ref 7),("term_args",.ref 8),("term_sorts",.ref 9)])::[some (.list [.str "Bool",.str "Int",.str "Real"]),some (.list [.int 0,.int 0,.int 0]),some (.list []),some (.list []),some (.list []),some (.list [.str ""]),some (.list [.tup []]),some (.list [.int 0])]) (by kernel_rfl) ?_
 repeat tm_at "g"
 refine bI rfl rfl (Nat.le_of_ble_eq_true (by kernel_rfl)) ?_
 refine Fconv (σ':=some top::some (.ns [("sort_names",.ref 2),("sort_widths",.ref 3),("fun_names",.ref 4),("fun_args",.ref 5),("fun_results",.ref 6),("fresh_count",.int 0),("term_ops",.ref 7),("term_args",.ref 8),("term_sorts",.ref 9),("term_datas",.ref 10)])::[some (.list [.str "Bool",.str "Int",.str "Real"]),some (.list [.int 0,.int 0,.int 0]),some (.list []),some (.list []),some (.list []),some (.list [.str ""]),some (.list [.tup []]),some (.list [.int 0]),some (.list [.int 0])]) (by kernel_rfl) ?_
 repeat tm_at "g"
 refine bI rfl rfl (Nat.le_of_ble_eq_true (by kernel_rfl)) ?_
 refine Fconv (σ':=some top::some (.ns [("sort_names",.ref 2),("sort_widths",.ref 3),("fun_names",.ref 4),("fun_args",.ref 5),("fun_results",.ref 6),("fresh_count",.int 0),("term_ops",.ref 7),("term_args",.ref 8),("term_sorts",.ref 9),("term_datas",.ref 10),("numbers",.ref 11)])::[some (.list [.str "Bool",.str "Int",.str "Real"]),some (.list [.int 0,.int 0,.int 0]),some (.list []),some (.list []),some (.list []),some (.list [.str ""]),some (.list [.tup []]),some (.list [.int 0]),some (.list [.int 0]),some (.dict [])]) (by kernel_rfl) ?_
 repeat tm_at "g"
 refine CallT.conv (σ':=σB top ⟨[.str "Bool",.str "Int",.str "Real"],[0,0,0],[],[],[],[]⟩ [] []) (by kernel_rfl) ?_
 refine (gX (t:=tT) ok (by decide +kernel) (Nat.le_of_ble_eq_true rfl) ?_).call
 repeat tm_at "g3"
 refine CallT.conv (σ':=σB top ⟨[.str "Bool",.str "Int",.str "Real"],[0,0,0],[],[],[],[tT]⟩ [("true_number",.int 1)] []) (by kernel_rfl) ?_
 refine (gX (t:=fT) ok (by decide +kernel) (Nat.le_of_ble_eq_true rfl) ?_).call
 repeat tm_at "g3"
 exact Qconv (Q:=Q) (by kernel_rfl) hQ
theorem vq{P:Params}:makesIn (KF P) 762=true:=by kernel_rfl
theorem wx{P:Params}:findIn (KF P) (.ref 762) "__init__"=some (some (.ref 661)):=by kernel_rfl
theorem tP{P:Params}:typeIn (KF P) (.ref 661)=some (.type "function"):=by kernel_rfl
theorem vd{P:Params}:makesIn (KF P) 1080=true:=by kernel_rfl
theorem yH{P:Params}:findIn (KF P) (.ref 1080) "__init__"=some (some (.ref 779)):=by kernel_rfl
theorem x6{P:Params}:typeIn (KF P) (.ref 779)=some (.type "function"):=by kernel_rfl
theorem rD(ok:(cx w h0 mg mb).Ok)(hQ:Q (.inst 762 1) (σB top b0 M3 [some (.dict [])])):CallT (cx w h0 mg mb) (.ref 762) (d+4) [] [some top] Q:=by
 refine nq ok vq wx tP ?_
 refine cO (k:=0) (d:=d+2) ok (tq ok) (xg ok) rfl ?_
 delta k8
 repeat tm_at "g3"
 refine iU rfl (if_pos rfl) rfl ?_
 repeat tm_at "g3"
 refine sn ok ?_
 repeat tm_at "g3"
 exact Qconv (Q:=Q) (by kernel_rfl) hQ
theorem qu(ok:(cx w h0 mg mb).Ok){b:Bk}{bvn:List (V×V)}(hQ:Q (.inst 1080 13) (σB top b M3 [some (.dict bvn),some (.ns RN),some (.dict [])])):CallT (cx w h0 mg mb) (.ref 1080) (d+3) [.inst 762 1] (σB top b M3 [some (.dict bvn)]) Q:=by
 refine nq ok vd yH x6 ?_
 refine aA (k:=0) (d:=d+1) ok (uV ok) (xD ok) rfl ?_
 delta jv
 repeat tm_at "g3"
 refine (aA (k:=0) ok (wz ok) (xI ok) rfl ?_).call
 delta nZ
 repeat tm_at "g3"
 refine (aA (k:=0) ok (qJ ok) (wy ok) rfl ?_).call
 delta nP
 repeat tm_at "g3"
 exact Qconv (Q:=Q) (by kernel_rfl) hQ
noncomputable def E0(cs:List Int):En:=⟨bN cs 0,[.str "Bool",.str "Int",.str "Real"],[0,0,0],[],[],[],[],[]⟩
noncomputable def t0:List T:=[tT,fT]
theorem qg{ts ts':List T}{r:Int}{e:T}(g:Grow ts 1 ts')(a:At ts' r e)(h:e∉ts):r=(ts.length:Int)+1:=by
 obtain⟨n,rfl,hn⟩:=a
 obtain⟨p,_,l⟩:=g
 have hlt:=(List.getElem?_eq_some_iff.mp hn).1
 by_cases h':n < ts.length
 ·obtain⟨t,rfl⟩:=p
  rw[List.getElem?_append_left h'] at hn
  exact absurd (List.mem_of_getElem? hn) h
 ·tm_at "l"
end
section
set_option maxHeartbeats 2000000
theorem mE{tg:MA}{f:ME Bool}{b:MB}{d:Nat}{ρ:Env'}{σ:St}{Q:List V→Env'→St→Prop}{x:V}{xs acc:List V}(h:tg d ρ x σ fun ρ σ=>f d ρ σ fun z σ=>itQ z (b d acc ρ σ fun acc ρ σ=>cL d tg f b Q xs acc ρ σ) (cL d tg f b Q xs acc ρ σ)):cL d tg f b Q (x::xs) acc ρ σ:=h
theorem pv{tg:MA}{f:ME Bool}{b:MB}{d:Nat}{ρ:Env'}{σ:St}{Q:List V→Env'→St→Prop}{acc:List V}(h:Q acc ρ σ):cL d tg f b Q [] acc ρ σ:=h
theorem yc{e:ME V}{d:Nat}{acc:List V}{ρ:Env'}{σ:St}{K:List V→Env'→St→Prop}(h:e d ρ σ fun y σ=>K (acc++[y]) ρ σ):eltB e d acc ρ σ K:=h
theorem qW{mi:ME (List V)}{mt:MA}{mf:ME Bool}{me:ME V}{d:Nat}{acc:List V}{ρ:Env'}{σ:St}{K:List V→Env'→St→Prop}(h:mi d ρ σ fun ys σ=>ys.length≤1000∧cL d mt mf (eltB me) K ys acc ρ σ):genB mi mt mf me d acc ρ σ K:=h
variable{w:World}{h0:Heap}{mg mb:Str→Option Value}{E:En}{wd m n kl:Nat}{cs:List Int}{ts:List T}{d:Nat}{Q:V→St→Prop}{i j ia ib:Int}{σ:St}{a b:Bt}{es:List (Nat×Nat×Nat)}{J:St}{s0 s7 s8 s11 s12 s13:Option V}{sm:List V}
noncomputable abbrev frL(wd:Nat)(s0 s7 s8 s9 s10 s11:Option V):Env':=[s0,some (.ref 0),some (.inst 762 1),some (.inst 1080 13),some (.int wd),some (.int 3),some (.int 4),s7,s8,s9,s10,s11]
noncomputable abbrev frG(wd:Nat)(s0 s7 s8:Option V)(sm:List V)(s12 s13:Option V):Env':=frL wd s0 s7 s8 (some (.fl sm)) none none++[s12,s13]
theorem pU(J:St)(n m:Nat):evV es++[V.ref (Z (Ej E J) ts).length]=evV (es++[(J.length,n,m)]):=by
 have e:(Z (Ej E J) ts).length=15+J.length:=by rw[Nat.add_comm];rfl
 rw[e];simp[evV]
theorem xE(he:Evs wd J es)(hx:n < 2 ^ wd)(hy:m < 2 ^ wd):Evs wd (J++[some (.dict (env2 n m))]) (es++[(J.length,n,m)]):=fun p hp=>by
 rcases List.mem_append.mp hp with h | h
 ·exact (he.mono (List.prefix_append _ _)) p h
 ·simp at h;subst h;exact⟨by simp,hx,hy⟩
theorem zd{K:List V→Env'→St→Prop}(hx:n < 2 ^ wd):∀ (l:List Nat) (J:St) (es:List (Nat×Nat×Nat)) (s13:Option V),Evs wd J es→(∀ k∈l,k < 2 ^ wd) →
  (∀ J' es' s13,J <+: J'→Evs wd J' es'→es'.length=es.length+l.length→K (evV es') (frG wd s0 s7 s8 sm (some (.int n)) s13) (Z (Ej E J') ts)) →
  cL d (nmA 13) (aD true) (eltB (bO false (bH (aa 5) (aa 12) (bH (aa 6) (aa 13) b9)))) K (iN l) (evV es) (frG wd s0 s7 s8 sm (some (.int n)) s13) (Z (Ej E J) ts):=by
 intro zz
 induction zz with
 | nil =>
  intro J es s13 he hl hK
  exact pv (hK J es s13 List.prefix_rfl he rfl)
 | cons k l ih =>
  intro J es s13 he hl hK
  refine mE ?_
  refine be ?_
  refine bP ?_
  refine bw ?_
  refine yc ?_
  refine h8 ?_
  repeat tm_at "g"
  refine iF (kvs:=[(.int 3,.int n),(.int 4,.int k)]) pairs2 ?_
  rw[dset2,fL,pU J n k]
  refine ih _ _ _ (xE he hx (hl k List.mem_cons_self)) (fun q hq=>hl q (List.mem_cons_of_mem _ hq)) fun J' es' s13 p h e=>?_
  exact hK J' es' s13 ((List.prefix_append _ _).trans p) h (by rw[e];simp;tm_at "l")
theorem y6{K:List V→Env'→St→Prop}{ys:List Nat}(hy:ys.length≤8)(hys:∀ k∈ys,k < 2 ^ wd):∀ (l:List Nat) (J:St) (es:List (Nat×Nat×Nat)) (s12 s13:Option V),Evs wd J es→(∀ k∈l,k < 2 ^ wd) →
  (∀ J' es' s12 s13,J <+: J'→Evs wd J' es'→es'.length≤es.length+8 * l.length→K (evV es') (frG wd s0 s7 s8 (iN ys) s12 s13) (Z (Ej E J') ts)) →
  cL d (nmA 12) (aD true) (genB (aG (aa 9)) (nmA 13) (aD true) (bO false (bH (aa 5) (aa 12) (bH (aa 6) (aa 13) b9)))) K (iN l) (evV es) (frG wd s0 s7 s8 (iN ys) s12 s13) (Z (Ej E J) ts):=by
 intro zz
 induction zz with
 | nil =>
  intro J es s12 s13 he hl hK
  exact pv (hK J es s12 s13 List.prefix_rfl he (Nat.le_refl _))
 | cons k l ih =>
  intro J es s12 s13 he hl hK
  refine mE ?_
  refine be ?_
  refine bP ?_
  refine bw ?_
  refine qW ?_
  repeat tm_at "g"
  refine bT ⟨by simp[iN];tm_at "l",?_⟩
  refine zd (n:=k) (hl k List.mem_cons_self) ys J es _ he hys fun J1 es1 s13 p1 h1 e1=>?_
  refine ih J1 es1 _ _ h1 (fun q hq=>hl q (List.mem_cons_of_mem _ hq)) fun J' es' s12 s13 p h e=>?_
  exact hK J' es' s12 s13 (p1.trans p) h (by rw[List.length_cons];tm_at "l")
theorem yA(hlo:1≤wd)(hw:wd≤3):((List.range (Builtin.Range.rangeSize 0 (2 ^ wd:Nat) (sted wd)).toNat).map fun (i:Nat)=>V.int (0+i * sted wd))=iN (vals wd) ∧
  Builtin.Range.small 0 (2 ^ wd:Nat) (sted wd)=true∧(Builtin.Range.rangeSize 0 (2 ^ wd:Nat) (sted wd)).toNat≤1000∧(vals wd).length≤8:=by
 obtain rfl | rfl | rfl:wd=1∨wd=2∨wd=3:=by tm_at "l"
 ·exact⟨by kernel_rfl,by decide +kernel,by decide +kernel,by decide +kernel⟩
 ·exact⟨by kernel_rfl,by decide +kernel,by decide +kernel,by decide +kernel⟩
 ·exact⟨by kernel_rfl,by decide +kernel,by decide +kernel,by decide +kernel⟩
noncomputable def askB(wd:Nat)(lo sg:Bool)(a b:Bt):Tu:=if lo then notT (askT wd sg b a) else askT wd sg a b
noncomputable def loS(lo sg:Bool):Str:=if lo then db sg else ba sg
theorem oU(ok:(cx w h0 mg mb).Ok)(H:Hold E ts wd cs n kl)(h1:ts.length≤980)(ha:Is ts ia a.tm)(na:a.fine wd)(hb:Is ts ib b.tm)(nb:b.fine wd)(lo sg:Bool)(hQ:∀ r ts',Hold E ts' wd cs n kl→Grow ts 5 ts'→IsT ts' r (askB wd lo sg a b)→Q (.int r) (Z E ts')) :
  CallT (cx w h0 mg mb) (.ref 1005) (d+12) [.inst 1080 13,.str (loS lo sg),.int ia,.int ib] (Z E ts) Q:=by
 cases lo with
 | true=>exact eN ok H.stand H.base h1 H.nd sg ha na hb nb fun r ts' g h=>hQ r ts' (H.grow g) g h
 | false=>exact bV ok H.stand H.base h1 H.nd sg ha na hb nb fun r ts' g h=>hQ r ts' (H.grow g) (g.le (by decide)) h
theorem uE(lo sg:Bool)(a:Bt):askB wd lo sg a a=trB lo:=by
 cases lo with
 | true=>show notT (askT wd sg a a)=.tt;rw[iG];rfl
 | false=>exact iG a sg
theorem w3(lo sg:Bool)(u v:Nat):∃ z,askB wd lo sg (.num u) (.num v)=trB z:=by
 cases lo with
 | true =>
  refine⟨!askV wd sg v u,?_⟩
  show notT (trB (askV wd sg v u))=_
  cases askV wd sg v u<;>rfl
 | false=>exact⟨askV wd sg u v,rfl⟩
theorem zl{lo sg:Bool}{k:Bool→Prop}(h:k lo):aF σ .In (.str (loS lo sg)) (.tup [.str "bvule",.str "bvsle"]) k:=by
 refine eC (xs:=["bvule","bvsle"]) rfl (by cases lo<;>cases sg<;>decide +kernel) ?_
 have e:((["bvule","bvsle"]:List Str).any fun x=>x==loS lo sg)=lo:=by cases lo<;>cases sg<;>decide +kernel
 rw[e];exact h
theorem uM{z:Bool}{k:Bool→Prop}(h:k false):aF σ .NotIn (.str (trB z).op) (.tup [.str "true",.str "false"]) k:=by
 refine CmpI.ninT (dx:=.str (trB z).op) (ds:=[.str "true",.str "false"]) rfl rfl (by cases z<;>decide +kernel) ?_
 have e:(!([.str "true",.str "false"]:List PyData).any (PyData.eqv · (.str (trB z).op)))=false:=by cases z<;>decide +kernel
 rw[e];exact h
theorem nK{b:Bt}(h:b.isN=true):∃ v,b=.num v:=by
 cases b with
 | num v=>exact⟨v,rfl⟩
 | ch=>cases h
theorem eS(ok:(cx w h0 mg mb).Ok)(H:Hold E ts wd cs n kl)(h1:ts.length≤900)(ha:Is ts ia a.tm)(na:a.fine wd)(hb:Is ts ib b.tm)(nb:b.fine wd)(lo sg:Bool){s9 s10:Option V}{K:Fl→Env'→St→Prop}
  (hK:∀ ts',Hold E ts' wd cs n kl→Grow ts 10 ts'→K .next (frL wd s0 (some (.int ia)) (some (.int ib)) s9 s10 (some (.str (loS lo sg)))) (Z E ts')) :
  f6 (cx w h0 mg mb) (d+12) (frL wd s0 (some (.int ia)) (some (.int ib)) s9 s10 (some (.str (loS lo sg)))) (Z E ts) K:=by
 delta f6
 repeat tm_at "g"
 refine oU ok H (by tm_at "l") ha na ha na lo sg fun r ts1 H1 g1 t1=>?_
 rw[uE] at t1
 have L1:=g1.2.2
 repeat tm_at "g"
 refine zl ?_
 repeat tm_at "g"
 refine oI ok H1.base fun r' t2=>?_
 have e:=t1.inj H1.nd t2
 subst e
 repeat tm_at "g"
 refine i_F (by simp) ?_
 repeat tm_at "g"
 refine cy ok (by tm_at "l") (ha.mono g1.1) ?_
 repeat tm_at "g"
 rw[fU]
 refine cE (fun hA=>?_) (fun hA=>?_)
 ·repeat tm_at "g"
  refine cy ok (by tm_at "l") (hb.mono g1.1) ?_
  repeat tm_at "g"
  rw[fU]
  refine cE (fun hB=>?_) (fun hB=>?_)
  ·obtain⟨u,rfl⟩:=nK hA
   obtain⟨v,rfl⟩:=nK hB
   repeat tm_at "g"
   refine oU ok H1 (by tm_at "l") (ha.mono g1.1) na (hb.mono g1.1) nb lo sg fun q ts2 H2 g2 t3=>?_
   have L2:=g2.2.2
   obtain⟨z,hz⟩:=w3 (wd:=wd) lo sg u v
   rw[hz] at t3
   obtain⟨f,af,of,_⟩:=t3.at_
   repeat tm_at "g"
   refine bD (o:=(trB z).op) ok (by tm_at "l") af of ?_
   repeat tm_at "g"
   refine uM ?_
   repeat tm_at "g"
   exact hK ts2 H2 (g1.trans g2 (Nat.le_refl _))
  ·repeat tm_at "g"
   exact hK ts1 H1 (g1.le (by decide))
 ·repeat tm_at "g"
  exact hK ts1 H1 (g1.le (by decide))
end
section
set_option maxHeartbeats 2000000
variable{w:World}{h0:Heap}{mg mb:Str→Option Value}{E:En}{wd m n kl:Nat}{cs:List Int}{ts:List T}{d:Nat}{Q:V→St→Prop}{i j ia ib:Int}{σ:St}{a b:Bt}{ns:List Int}{s0:Option V}
theorem kg{ts ts':List T}{r:Int}{e:T}(g:Grow ts 1 ts')(a:At ts' r e)(h:e∉ts):r=(ts.length:Int)+1∧ts'=ts++[e]:=by
 have hr:=qg g a h
 refine⟨hr,?_⟩
 subst hr
 obtain⟨n,hn,hg⟩:=a
 have e0:n=ts.length:=by tm_at "l"
 subst e0
 obtain⟨⟨t,rfl⟩,_,l⟩:=g
 rw[List.getElem?_append_right (Nat.le_refl _),Nat.sub_self] at hg
 match t,hg,l with
 | [x],hg,_=>cases hg;rfl
 | x::y::t,_,l=>simp at l
noncomputable def xT(c:Bool):T:=⟨"app",[],3,.i (if c then 1 else 0)⟩
noncomputable def t4:List T:=[tT,fT,xT false,xT true]
theorem base4:Base t4∧Vars t4∧t4.Nodup:=by
 refine⟨⟨⟨0,rfl,rfl⟩,⟨1,rfl,rfl⟩⟩,fun c=>?_,by decide +kernel⟩
 cases c
 ·exact .leaf ⟨2,rfl,rfl⟩
 ·exact .leaf ⟨3,rfl,rfl⟩
theorem pQ(ok:(cx w h0 mg mb).Ok)(H:Hold E ts wd cs n kl)(hj:E.junk=[])(h1:ts.length≤200)(hk:kl≤300)(ha:Is ts ia a.tm)(na:a.nf wd=true)(la:a.len≤1)(oa:a.on false)(hb:Is ts ib b.tm)(nb:b.nf wd=true)(lb:b.len≤1)(hQ:∀ σ,Q (.bool true) σ) :
  gE (cx w h0 mg mb) 30 (frL wd s0 (some (.int ia)) (some (.int ib)) none none none) (Z E ts) (bx Q):=by
 delta gE
 obtain⟨E,rfl⟩:∃ F,E=Ej F []:=⟨E,by obtain⟨_,_,_,_,_,_,_,junk⟩:=E;have:junk=[]:=hj;subst this;rfl⟩
 have S:=H.stand
 have fa:a.fine wd:=⟨na,by tm_at "l"⟩
 have fb:b.fine wd:=⟨nb,by tm_at "l"⟩
 obtain⟨r1,r2,r3,r4⟩:=yA S.lo S.hi
 obtain⟨s1,s2⟩:=lp S.lo S.hi
 repeat tm_at "g"
 refine cK (by tm_at "l") (by have:=S.hi;tm_at "l") (by decide) ?_
 rw[cF]
 repeat tm_at "g"
 refine cX (by decide) (by decide) ?_
 repeat tm_at "g"
 refine dG (.inr (by decide)) ?_
 repeat tm_at "g"
 refine jy s1 s2 ?_
 repeat tm_at "g"
 refine gM (st:=sted wd) s1 r2 (Nat.le_trans r3 (by decide)) ?_
 rw[r1]
 refine be ?_
 refine bU ?_
 refine cC ?_
 refine df ?_
 refine tX rfl ?_
 repeat tm_at "g"
 refine bT ⟨by simp[iN];tm_at "l",?_⟩
 refine y6 (J:=[]) (es:=[]) r4 (fun k hk=>gP S.hi hk) (vals wd) none none (fun p hp=>nomatch hp) (fun k hk=>gP S.hi hk) fun J es _ _ _ he hl=>?_
 have hl':es.length≤64:=by have:([]:List (Nat×Nat×Nat)).length=0:=rfl;tm_at "l"
 refine be ?_
 refine bU ?_
 refine cC ?_
 repeat tm_at "g"
 refine wU (d:=17) ok (H.ej J) (by tm_at "l") ha fa oa fun J2 ts2 H2 p2 g2=>?_
 have L2:=g2.2.2
 repeat tm_at "g"
 refine ra (d:=17) (es:=es) ok H2 (by tm_at "l") (by tm_at "l") (he.mono p2) (by tm_at "l") (ha.mono g2.1) na la (hb.mono g2.1) nb lb fun kn ts3 H3 g3=>?_
 have L3:=g3.2.2
 have p3:=g2.1.trans g3.1
 repeat tm_at "g"
 refine aZ ?_
 refine cj ?_
 repeat tm_at "g"
 refine eS (d:=18) ok H3 (by tm_at "l") (ha.mono p3) fa (hb.mono p3) fb false false fun ts4 H4 g4=>?_
 have L4:=g4.2.2
 have p4:=p3.trans g4.1
 repeat tm_at "g"
 refine eS (d:=18) ok H4 (by tm_at "l") (ha.mono p4) fa (hb.mono p4) fb true false fun ts5 H5 g5=>?_
 have L5:=g5.2.2
 have p5:=p4.trans g5.1
 repeat tm_at "g"
 refine eS (d:=18) ok H5 (by tm_at "l") (ha.mono p5) fa (hb.mono p5) fb false true fun ts6 H6 g6=>?_
 have L6:=g6.2.2
 have p6:=p5.trans g6.1
 repeat tm_at "g"
 refine eS (d:=18) ok H6 (by tm_at "l") (ha.mono p6) fa (hb.mono p6) fb true true fun ts7 H7 g7=>?_
 repeat tm_at "g"
 exact hQ _
end
section
set_option maxHeartbeats 2000000
variable{w:World}{h0:Heap}{mg mb:Str→Option Value}{E:En}{wd m n kl:Nat}{cs:List Int}{ts:List T}{d:Nat}{Q:V→St→Prop}{i j ia ib:Int}{σ:St}{a b:Bt}{ns:List Int}{s0:Option V}
noncomputable def EA(cs:List Int)(nm:List V)(ws:List Nat):En:=⟨bN cs 1,nm,ws,[],[],[],[],[]⟩
noncomputable def EB(cs:List Int)(nm:List V)(ws:List Nat):En:=⟨bN cs 1,nm,ws,[.str "x"],[.tup []],[.int 3],[],[]⟩
noncomputable def EC(cs:List Int)(nm:List V)(ws:List Nat):En:=⟨bN cs 1,nm,ws,[.str "x",.str "y"],[.tup [],.tup []],[.int 3,.int 3],[],[]⟩
noncomputable def t3:List T:=[tT,fT,xT false]
theorem za(ok:(cx w h0 mg mb).Ok)(H:Hold E t4 wd cs 1 0)(hj:E.junk=[])(hcl:cs.length≤1000)(hQ:∀ σ,Q (.bool true) σ) :
  ic (cx w h0 mg mb) 30 (frL wd s0 none none none none none) (Z E t4) (bx Q):=by
 delta ic
 have l4:t4.length=4:=rfl
 refine cC ?_
 refine df ?_
 repeat tm_at "g"
 refine mw (d:=18) (c:=false) ok H (by tm_at "l") (by decide) (by decide) hcl fun E1 ia ts1 a H1 j1 g1 ha na la oa=>?_
 have L1:=g1.2.2
 repeat tm_at "g"
 refine fo (many:=2) ok (by decide) H1.top (by decide) hcl fun r hr=>?_
 have H2:=H1.sip
 repeat tm_at "g"
 refine aL (by tm_at "l") (by tm_at "l") (v:=.int (cR (decide (r=1)))) ?_ ?_
 ·have:r=0∨r=1:=by tm_at "l"
  rcases this with rfl | rfl<;>rfl
 repeat tm_at "g"
 refine mw (d:=18) (c:=decide (r=1)) ok H2 (by tm_at "l") (by decide) (by decide) hcl fun E2 ib ts2 b H3 j2 g2 hb nb lb _=>?_
 have L2:=g2.2.2
 refine be ?_
 refine bU ?_
 refine pQ ok H3 (j2.trans (j1.trans hj)) (by tm_at "l") (by decide) (ha.mono g2.1) na la oa hb nb lb hQ
theorem tE(ok:(cx w h0 mg mb).Ok)(hcl:cs.length≤1000)(lo:1≤wd)(hi:wd≤3)(hQ:∀ σ,Q (.bool true) σ) :
  gx (cx w h0 mg mb) 30 [s0,some (.ref 0),some (.inst 762 1),some (.inst 1080 13),some (.int wd),none,none,none,none,none,none,none] (Z (Et (E0 cs) cs 1) t0) (bx Q):=by
 delta gx
 have S3:Sw (Et (E0 cs) cs 1) wd 3:=⟨rfl,rfl,lo,hi⟩
 repeat tm_at "g"
 refine fW (s:=3) (w1:=wd) ok S3 rfl lo (Nat.le_refl _) fun nm ws S4=>?_
 have S4:Sw (EA cs nm ws) wd 4:=⟨S4.ws,S4.nm,lo,hi⟩
 repeat tm_at "g"
 refine CallT.conv (σ':=Z (EA cs nm ws) t0) rfl ?_
 refine jO (s:=3) ok (Nat.le_of_ble_eq_true rfl) (by decide +kernel) ⟨Nat.zero_le _,Nat.zero_le _,Nat.zero_le _⟩ fun r ts1 g1 a1=>?_
 have a1:At ts1 r (xT false):=a1
 obtain⟨rfl,rfl⟩:=kg g1 a1 (by decide +kernel)
 have S5:Sw (EB cs nm ws) wd 4:=⟨S4.ws,S4.nm,lo,hi⟩
 repeat tm_at "g"
 refine CallT.conv (σ':=Z (EB cs nm ws) t3) rfl ?_
 refine fW (s:=3) (w1:=wd) ok S5 rfl lo (by decide) fun nm ws S6=>?_
 have S6:Sw (EB cs nm ws) wd 4:=⟨S6.ws,S6.nm,lo,hi⟩
 repeat tm_at "g"
 refine CallT.conv (σ':=Z (EB cs nm ws) t3) rfl ?_
 refine jO (s:=3) ok (Nat.le_of_ble_eq_true rfl) (by decide +kernel) ⟨Nat.le_of_ble_eq_true rfl,Nat.le_of_ble_eq_true rfl,Nat.le_of_ble_eq_true rfl⟩ fun r ts1 g2 a2=>?_
 have a2:At ts1 r (xT true):=a2
 obtain⟨rfl,rfl⟩:=kg g2 a2 (by decide +kernel)
 have S7:Sw (EC cs nm ws) wd 4:=⟨S6.ws,S6.nm,lo,hi⟩
 refine eU ?_
 refine ec (Nat.le_of_ble_eq_true rfl) ?_
 refine eO rfl ?_
 refine bU ?_
 obtain⟨b4,v4,n4⟩:=base4
 have H:Hold (EC cs nm ws) t4 wd cs 1 0:=⟨⟨4,Nat.le_refl _,S7⟩,rfl,fun p hp=>(nomatch (show p∈([]:List (V×V)) from hp)),Nat.le_refl _,n4,b4,v4⟩
 refine za ok H rfl hcl hQ
theorem ur(ok:(cx w h0 mg mb).Ok)(hns:ns.length≤1000)(hQ:∀ σ,Q (.bool true) σ):CallT (cx w h0 mg mb) (.ref 1121) 31 [.fl (ns.map V.int)] [] Q:=by
 refine (aA (k:=11) (d:=30) ok (vA ok) (@xq w h0 mg mb ok) rfl ?_).call
 delta nN
 repeat tm_at "g"
 refine aP (by simp) ?_
 refine jW ?_
 repeat tm_at "g"
 refine rN (v:=30) (by simp;tm_at "l") ?_
 refine bT ?_
 refine⟨by simp;tm_at "l",?_⟩
 refine cD (iv fun y=>y.fmod 1000003) (fun x hx K hK=>?_) ?_
 ·obtain⟨y,_,rfl⟩:∃ y,y∈ns∧V.int y=x:=by
   have:=List.mem_of_mem_take hx
   simpa using this
  repeat tm_at "g"
  refine sO ?_
  repeat tm_at "g"
  refine cm (by decide) ?_
  exact hK
 obtain⟨cs,hcs,hcl⟩:∃ cs:List Int,((ns.map V.int).take 30).map (iv fun y=>y.fmod 1000003)=cs.map V.int∧cs.length≤1000 :=
  ⟨(ns.take 30).map fun y=>y.fmod 1000003,by simp[← List.map_take,iv],by simp;tm_at "l"⟩
 rw[hcs]
 repeat tm_at "g"
 refine CallT.conv (σ':=[some (bN cs 0)]) (by kernel_rfl) ?_
 refine rD ok ?_
 refine eU ?_
 refine ec (Nat.le_of_ble_eq_true rfl) ?_
 refine eO rfl ?_
 refine bU ?_
 repeat tm_at "g"
 refine qu ok ?_
 repeat tm_at "g"
 refine CallT.conv (σ':=Z (E0 cs) t0) (by kernel_rfl) ?_
 refine fo (many:=3) ok (by decide) rfl (by decide) hcl fun r hr=>?_
 repeat tm_at "g"
 obtain⟨wd,hwd,lo,hi⟩:∃ wd:Nat,(1:Int)+(r:Int)=wd∧1≤wd∧wd≤3:=⟨r+1,by tm_at "l",by tm_at "l",by tm_at "l"⟩
 rw[hwd]
 exact tE ok hcl lo hi hQ
end
section
theorem t6{h:Heap}{S:Nat→Prop}{μ:Nat→Nat}{n:Nat}:∀ {vs:List Value} {ns:List Int},IntsAre vs ns→VRs h S μ n vs (ns.map V.int):=m5
theorem nms(w:World):∀ x∈(["len","range","list","tuple","int","sorted","reversed","any","min","max","sum","zip","enumerate","set","dict","super","str"]:List Str),nsIn (Head.KF w.params) mainGlobals x=some none:=by
 intro x hx
 simp only[List.mem_cons,List.not_mem_nil,or_false] at hx
 rcases hx with rfl | rfl | rfl | rfl | rfl | rfl | rfl | rfl | rfl | rfl | rfl | rfl | rfl | rfl | rfl | rfl | rfl<;>kernel_rfl
theorem cok{w:World}{h:Heap}{mg mb:Str→Option Value}{loose:List Str}{mean:ExcName→Option Value}{p:Program}(K:(Head.KF w.params).In h)(T:Top p loose mean mg mb h):(cx w h mg mb).Ok where
 K:=K
 g:=T.g
 b:=T.b
 nolimit:=T.nolimit
 builtins:=T.builtins
 low:=⟨boot_o_1 w.params,K sysModules _ (by kernel_rfl)⟩
 names:=fun x hx=>mg_none_of K T.g (nms w x hx)
theorem room0:Room callerA 31:=⟨rfl,by decide +kernel,by decide +kernel⟩
theorem holds_:PySem.Challenge.rw_zu0063_05.Holds:=by
 refine Head.law_ fun w s mg mb mean K T hg a l vs ns hmg hl hI hn=>?_
 have ok:=cok K T
 have ha:a=1121:=by
  have e:mg "law"=some (.ref 1121):=mg_of K T.g (by kernel_rfl)
  rw[e] at hmg;cases hmg;rfl
 subst ha
 have hlaw:=ur (w:=w) (h0:=s.heap) (mg:=mg) (mb:=mb) (Q:=fun v _=>v=.bool true) ok (Nat.le_trans hn (by decide)) fun _=>rfl
 have R:Rel (cx w s.heap mg mb) (fun _=>False) [] (fun _=>0) s.heap:=⟨fun _ _ e=>e,fun i o e=>by simp at e,fun i j o p e=>by simp at e,fun i o e=>by simp at e,fun a x=>x.elim⟩
 have fr:¬ Sx (fun _=>False) ([]:St) (fun _=>0) l:=by
  rintro (⟨i,o,e,_⟩ | x)
  ·simp at e
  ·exact x
 have key:=hlaw callerA (fun _=>False) (fun _=>0) s [.ref l] room0 R (.cons (.fl (items:=vs) (k:=0) hl fr (t6 hI)) .nil)
 refine wpAny_mono key (fun v s' h=>?_) fun _ _ h=>h.elim
 obtain⟨x,σ',μ',rfl,R',t,ev,g',o'⟩:=h
 refine⟨?_,R'.base,o',g'.trans hg⟩
 cases t
 rfl
end
end Mine
theorem PySem.Challenge.cw_zu0063_05_holds : PySem.Challenge.rw_zu0063_05.Holds := by
 exact Mine.holds_
