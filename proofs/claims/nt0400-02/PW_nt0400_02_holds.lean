import PyProof.Rows.All
import PyProof.Rows.CompDC
import OpenK.KLine
import OpenK.AllK
import Wide.All
import PySem.Challenge.RW_nt0400_02
set_option Elab.async false
set_option genCtorIdx false
set_option genInjectivity false
set_option genSizeOf false
set_option genSizeOfSpec false
set_option maxRecDepth 100000
set_option maxHeartbeats 0
set_option exponentiation.threshold 10000
set_option linter.unusedVariables false
set_option linter.unusedSectionVars false
set_option linter.unusedSimpArgs false
set_option linter.defProp false
set_option bootstrap.genMatcherCode false
set_option backward.linearNoConfusionType false
set_option compiler.extract_closed false
set_option tactic.hygienic false
theorem Mine.via {p:Prop}(h:∀ G:Prop,(p→G)→G):p:=h p id
theorem Mine.noSo {α : Type _}{a : α}{G:Prop}(h:none=some a):G:=by injection h
theorem Mine.noTr {G:Prop}(h:false=true):G:=by injection h
open Lean in
local macro_rules
 | `(tactic| cases $h:term)=>do
  if h.raw.isIdent then `(tactic| first | exact Mine.noSo $h | exact Mine.noTr $h | (injection $h:term;done) | (have ε :=Option.some.inj $h;clear $(⟨h.raw⟩):ident;subst ε) | cases ($h)) else Macro.throwUnsupported
set_option hygiene false in
local macro_rules
 | `(tactic| cb_eq) => `(tactic| (apply Mine.via;intro Γ κ))
 | `(tactic| by_in) => `(tactic| (refine κ ?_;clear κ Γ))
section
open PySem PySem.W PyProof.Rows
noncomputable section
namespace Hd
noncomputable abbrev PW:Program:=PySem.Challenge.pw_nt0400_02
noncomputable abbrev RW:OpenLaw:=PySem.Challenge.rw_nt0400_02
noncomputable def wt:List Stmt→Nat→Stmt
 | [],_=>.Pass ⟨0,0,0,0⟩
 | a::_,0=>a
 | _::r,n+1=>wt r n
noncomputable def fT (i:Nat):Stmt:=wt PW.main.body i
noncomputable def ip:Stmt→List Stmt
 | .ClassDef _ _ _ b _ _ _ _ _ _ _=>b
 | _=>[]
noncomputable def fM (i j:Nat):Stmt:=wt (ip (fT i)) j
noncomputable def Bx:Stmt→Arguments
 | .FunctionDef _ a _ _ _ _ _ _ _ _=>a
 | _=>⟨[],[],none,[],[],none,[]⟩
noncomputable def fU:Stmt→List Stmt
 | .FunctionDef _ _ b _ _ _ _ _ _ _=>b
 | _=>[]
noncomputable def ef:Stmt→Scope
 | .FunctionDef _ _ _ _ _ _ s _ _ _=>s
 | _=>default
noncomputable abbrev I (i:Int) (t:Nat):Value:=.int i t
noncomputable abbrev T (x:String) (t:Nat):Value:=.str (Str.ofString x) t
noncomputable abbrev R (a:Nat):Value:=.ref a
noncomputable abbrev L {α : Type}(l:List α):Array α :=l.toArray
noncomputable abbrev E (P:Params) (x:String) (t:Nat) (v:Value):DictEntry:=⟨PyData.keyHash P (Str.ofString x),.str (Str.ofString x) t,v⟩
noncomputable abbrev oT (vs:List Value):Obj:=⟨.type "tuple",none,.seq vs.toArray 0,#[]⟩
noncomputable abbrev oF (vs:List Value):Obj:=⟨.none,none,.fields vs.toArray,#[]⟩
noncomputable abbrev oC (vs:List Value):Obj:=⟨.type "code",none,.fields vs.toArray,#[]⟩
noncomputable abbrev oD (es:List DictEntry) (n:Nat):Obj:=⟨.type "dict",none,.dict es.toArray n,#[]⟩
noncomputable abbrev fd (st:Stmt) (name qual:String) (globals:Addr) (dV kV doc pm:Value) (an:Option Addr) (cd ct:Value) (b:Addr):FuncData :=
 { name:=Str.ofString name,qualname:=Str.ofString qual,params:=Bx st,body:=.stmts (fU st),scope:=ef st,globals:=globals,closure:=[],defaults:=dV,kwdefaults:=kV,doc:=doc,pyModule:=pm,annotations:=an,code:=cd,closureTuple:=ct,builtins:=b}
noncomputable def tO:List String→Nat→List Value
 | [],_=>[]
 | x::r,t=>T x t::tO r (t+1)
noncomputable def fp (b:Nat) (st:Stmt) (name qual:String) (t line argc c7 fut:Nat) (vars:List String) (pm:Value):List Obj :=
 [oT [],oF [],oT (tO vars (t+3)),oT [],
  ⟨.none,none,.func (fd st name qual 0 .none .none .none .none none .none .none 0),#[]⟩,
  oC [T name t,T qual (t+1),T "/claim/cut.py" (t+2),I line 0,I argc 0,I 0 0,I 0 0,I c7 0,R b,.bool true,I fut 0,R (b+1),.none,R (b+2),R (b+3),R (b+4),I (t+3+vars.length:Nat) 0,I line 0,T "/claim/cut.py" (t+3+vars.length+1)],
  ⟨.type "function",none,.func (fd st name qual 3 .none .none .none pm none (R (b+5)) .none 0),#[]⟩]
noncomputable def uD (es:List DictEntry) (n:Nat):Obj→Obj
 | ⟨c,d,.dict e _,s⟩=>⟨c,d,.dict (e.toList++es).toArray n,s⟩
 | o=>o
noncomputable def uF (vs:List Value):Obj→Obj
 | ⟨c,d,.fields v,s⟩=>⟨c,d,.fields (v.toList++vs).toArray,s⟩
 | o=>o
noncomputable def uW (o:Obj):Obj→Obj:=fun ε =>o
noncomputable def fj:BT→Nat→List Obj→BT
 | t,_,[]=>t
 | t,n,o::r=>fj (t.ins n o) (n+1) r
noncomputable def fE:BT→List (Nat×(Obj→Obj))→BT
 | t,[]=>t
 | t,(a,f)::r=>fE (t.set a f) r
noncomputable def g1 (P:Params) (n:Value):List DictEntry:=[E P "__name__" 165 n,E P "__doc__" 166 .none,E P "__package__" 167 .none,E P "__loader__" 168 (.builtin "__main__.__loader__#opaque"),E P "__spec__" 169 .none,E P "__annotations__" 170 (R 6),E P "__builtins__" 171 (R 4),E P "__file__" 173 (T "/claim/cut.py" 172),E P "__cached__" 174 .none,E P "Node" 222 (R 31),E P "SIGN_BIT" 228 (I 9223372036854775808 227),E P "FRACTION_BITS" 230 (I 52 229),E P "FRACTION_MASK" 236 (I 4503599627370495 235),E P "HIDDEN_BIT_dbits" 240 (I 4503599627370496 239),E P "EXPONENT_MASK" 242 (I 2047 241),E P "EXPONENT_SHIFT" 244 (I 1075 243),E P "LEAST_POWER_dbits" 247 (I (-1074) 246),E P "ZERO" 249 (I 0 248),E P "INF" 253 (I 9218868437227405312 252),E P "width" 262 (R 42),E P "pack" 271 (R 49),E P "is_negative" 278 (R 56),E P "is_nan" 285 (R 63),E P "is_inf" 292 (R 70),E P "is_zero" 299 (R 77),E P "signed" 307 (R 84),E P "parts" 317 (R 91),E P "quotient" 326 (R 98),E P "round_ratio" 339 (R 105),E P "assembled" 349 (R 112),E P "from_int" 356 (R 119),E P "LEAST_POWER_numshow" 361 (I (-1074) 360),E P "HIDDEN_BIT_numshow" 365 (I 4503599627370496 364),E P "scaled" 376 (R 126),E P "decimal_place" 385 (R 133),E P "first_place" 398 (R 140),E P "shortest" 419 (R 147),E P "last_figure" 430 (R 154),E P "signed_exponent" 437 (R 161),E P "with_exponent" 446 (R 168),E P "laid_out" 455 (R 175),E P "without_figures" 462 (R 182),E P "show" 472 (R 189),E P "BLANKS" 486 (R 190),E P "LINE_ENDS" 491 (R 191)]
noncomputable def g2 (P:Params) (n:Value):List DictEntry:=g1 P n++[E P "LETTERS" 556 (R 224),E P "PARTS" 569 (R 231),E P "is_among" 579 (R 238),E P "is_white" 586 (R 245),E P "is_line_end" 593 (R 252),E P "is_digit" 600 (R 259),E P "is_octal_digit" 607 (R 266),E P "hex_value" 614 (R 273),E P "is_id_start" 621 (R 280),E P "is_id_part" 628 (R 287)]
noncomputable def g3 (P:Params) (n:Value):List DictEntry:=g2 P n++[E P "SINGLE" 649 (R 288),E P "code_at" 657 (R 295),E P "hex_at" 669 (R 302),E P "line_end_size" 677 (R 309),E P "octal_escape" 688 (R 316),E P "read_escape" 701 (R 323),E P "FARTHEST" 705 (I 400 704),E P "figure_of" 712 (R 330),E P "worth" 724 (R 337),E P "from_decimal" 735 (R 344),E P "KEYWORDS" 774 (R 345),E P "PUNCTS" 823 (R 346)]
noncomputable def g4 (P:Params) (n:Value):List DictEntry:=g3 P n++[E P "PUNCT_TABLE" 923 (R 400),E P "Token" 964 (R 422),E P "is_keyword" 971 (R 433),E P "punct_at" 981 (R 440),E P "SyntaxFail" 1014 (R 457)]
noncomputable def g5 (P:Params) (n:Value):List DictEntry:=g4 P n++[E P "Lexer" 1217 (R 603),E P "STRICT_WORDS" 1229 (R 608),E P "RESTRICTED" 1232 (R 609),E P "TARGETS" 1236 (R 610),E P "name_fault" 1244 (R 617),E P "binding_fault" 1252 (R 624),E P "first_twice" 1261 (R 631),E P "params_fault" 1273 (R 638),E P "target_fault" 1282 (R 645),E P "delete_fault" 1290 (R 652),E P "octal_fault" 1298 (R 659),E P "entry_fault" 1309 (R 666),E P "accessor_fault" 1318 (R 673)]
noncomputable def g6 (P:Params) (n:Value):List DictEntry:=g5 P n++[E P "Jumps" 1366 (R 705),E P "TokenTaker" 1516 (R 831)]
noncomputable def g7 (P:Params) (n:Value):List DictEntry:=g6 P n++[E P "PRIORITY" 1588 (R 836),E P "ASSIGNING" 1601 (R 838),E P "UNARY_SIGNS" 1606 (R 839),E P "UNARY_WORDS" 1610 (R 840),E P "STEPS" 1613 (R 841),E P "ExprParser" 1784 (R 970)]
noncomputable def g8 (P:Params) (n:Value):List DictEntry:=g7 P n++[E P "SimpleParser" 1922 (R 1066),E P "LiteralParser" 2004 (R 1120),E P "LOOP_WORDS" 2010 (R 1123)]
noncomputable def g9 (P:Params) (n:Value):List DictEntry:=g8 P n++[E P "StmtParser" 2131 (R 1203),E P "parse" 2142 (R 1212),E P "_law_take" 2152 (R 1219),E P "_law_values" 2159 (R 1226),E P "_law_rows" 2166 (R 1233),E P "_law_strict" 2174 (R 1240),E P "_law_line" 2182 (R 1247),E P "_law_heads" 2189 (R 1254),E P "_law_rule_right" 2201 (R 1261),E P "_law_strict_right" 2217 (R 1268),E P "law" 2235 (R 1275)]
noncomputable def d0 (P:Params):List Obj:=[oT []] ++
 [oF []] ++
 [oC [(T "<module>" 182),(T "<module>" 183),(T "/claim/cut.py" 184),(I 1 0),(I 0 0),(I 0 0),(I 0 0),(I 0 0),(R 11),(.bool false),(I 181 0),(R 12),.none,.none,.none,.none,(I 185 0),(I 1 0),(T "/claim/cut.py" 186)]] ++
 [⟨(.type "frame"),none,.plain,L [(some (R 13)),(some (R 3)),(some (R 3)),none,(some (T "__main__" 164)),none,(some (R 0))]⟩]
noncomputable def u1 (P:Params):List (Nat×(Obj→Obj)):=[(3,uW (oD (g1 P (T "js.chars" 473)) 45)),
 (12,uF [(I 2 0),(I 0 0),(R 20),(I 19 0),(I 0 0),(R 41),(I 29 0),(I 0 0),(R 48),(I 31 0),(I 0 0),(R 55),(I 33 0),(I 0 0),(R 62),(I 35 0),(I 0 0),(R 69),(I 37 0),(I 0 0),(R 76),(I 39 0),(I 0 0),(R 83),(I 41 0),(I 0 0),(R 90),(I 46 0),(I 0 0),(R 97),(I 52 0),(I 0 0),(R 104),(I 63 0),(I 0 0),(R 111),(I 72 0),(I 0 0),(R 118),(I 77 0),(I 0 0),(R 125),(I 84 0),(I 0 0),(R 132),(I 89 0),(I 0 0),(R 139),(I 97 0),(I 0 0),(R 146),(I 118 0),(I 0 0),(R 153),(I 124 0),(I 0 0),(R 160),(I 126 0),(I 0 0),(R 167),(I 129 0),(I 0 0),(R 174),(I 138 0),(I 0 0),(R 181),(I 144 0),(I 0 0),(R 188)])]
noncomputable def d1 (P:Params):List Obj:=[oT []] ++
 [⟨(.type "builtin_function_or_method"),none,(.fields (L [(.builtin "type.__prepare__"),(.type "type")])),L []⟩] ++
 [oD [E P "__module__" 196 (T "js.nodes" 187),E P "__qualname__" 198 (T "Node" 197),E P "__firstlineno__" 200 (I 2 199),E P "__init__" 210 (R 28),E P "__static_attributes__" 215 (R 29)] 5] ++
 [oT []] ++
 [oF [(I 4 0),(I 4 0),(R 27)]] ++
 [oC [(T "Node" 191),(T "Node" 192),(T "/claim/cut.py" 193),(I 2 0),(I 0 0),(I 0 0),(I 0 0),(I 0 0),(R 18),(.bool false),(I 181 0),(R 19),.none,.none,.none,.none,(I 194 0),(I 2 0),(T "/claim/cut.py" 195)]] ++
 [⟨(.type "frame"),none,.plain,L [(some (R 20)),(some (R 3)),(some (R 17)),none,(some (T "js.nodes" 187)),none,(some (R 0))]⟩] ++
 fp 22 (fM 1 0) "__init__" "Node.__init__" 201 4 4 3 181 ["self","kind","line","parts"] (T "js.nodes" 187) ++
 [oT [(T "kind" 211),(T "line" 212),(T "parts" 213),(T "scope" 214)]] ++
 [oD [E P "__module__" 196 (T "js.nodes" 187),E P "__firstlineno__" 200 (I 2 199),E P "__init__" 210 (R 28),E P "__static_attributes__" 215 (R 29),E P "__dict__" 217 (R 32),E P "__weakref__" 219 (R 33),E P "__doc__" 220 .none] 4] ++
 [⟨(.type "type"),none,(.cls ⟨Str.ofString "Node",[(.type "object")],[(R 31),(.type "object")],30,Str.ofString "Node",true,[],[],false,none,false⟩),L [none,none,(some (T "Node" 189)),(some (T "Node" 197)),(some (.builtin "object.__new__")),(some (.bool true))]⟩] ++
 [⟨(.type "getset_descriptor"),none,(.fields (L [(T "__dict__" 216),(R 31),(.builtin "function.__dict__"),(.builtin "function.__dict__#set")])),L []⟩] ++
 [⟨(.type "getset_descriptor"),none,(.fields (L [(T "__weakref__" 218),(R 31),(.builtin "ExceptionGroup.__weakref__"),.none])),L []⟩] ++
 [⟨(.type "super"),none,(.fields (L [(R 31),(R 31),(R 31)])),L []⟩] ++
 [⟨(.type "builtin_function_or_method"),none,(.fields (L [(.builtin "object.__init_subclass__"),(R 31)])),L []⟩] ++
 fp 36 (fT 12) "width" "width" 254 19 1 3 181 ["n","many","step"] (T "js.dbits" 223) ++
 fp 43 (fT 13) "pack" "pack" 263 29 3 3 181 ["sign","exponent","fraction"] (T "js.dbits" 223) ++
 fp 50 (fT 14) "is_negative" "is_negative" 272 31 1 3 181 ["bits"] (T "js.dbits" 223) ++
 fp 57 (fT 15) "is_nan" "is_nan" 279 33 1 3 181 ["bits"] (T "js.dbits" 223) ++
 fp 64 (fT 16) "is_inf" "is_inf" 286 35 1 3 181 ["bits"] (T "js.dbits" 223) ++
 fp 71 (fT 17) "is_zero" "is_zero" 293 37 1 3 181 ["bits"] (T "js.dbits" 223) ++
 fp 78 (fT 18) "signed" "signed" 300 39 2 3 181 ["sign","bits"] (T "js.dbits" 223) ++
 fp 85 (fT 19) "parts" "parts" 308 41 1 3 181 ["bits","sign","exponent","fraction"] (T "js.dbits" 223) ++
 fp 92 (fT 20) "quotient" "quotient" 318 46 3 3 181 ["top","bottom","power"] (T "js.dbits" 223) ++
 fp 99 (fT 21) "round_ratio" "round_ratio" 327 52 3 3 181 ["sign","top","bottom","power","whole","rest","unit"] (T "js.dbits" 223) ++
 fp 106 (fT 22) "assembled" "assembled" 340 63 3 3 181 ["sign","whole","power","exponent"] (T "js.dbits" 223) ++
 fp 113 (fT 23) "from_int" "from_int" 350 72 1 3 181 ["n"] (T "js.dbits" 223) ++
 fp 120 (fT 27) "scaled" "scaled" 366 77 2 3 181 ["mantissa","power","is_edge","factor","above"] (T "js.numshow" 357) ++
 fp 127 (fT 28) "decimal_place" "decimal_place" 377 84 2 3 181 ["top","bottom","found"] (T "js.numshow" 357) ++
 fp 134 (fT 29) "first_place" "first_place" 386 89 4 3 181 ["number","above","unit","is_even","found","edge","limit"] (T "js.numshow" 357) ++
 fp 141 (fT 30) "shortest" "shortest" 399 97 1 3 181 ["bits","sign","mantissa","power","is_even","number","above","below","unit","place","factor","found","figure","is_low","is_high"] (T "js.numshow" 357) ++
 fp 148 (fT 31) "last_figure" "last_figure" 420 118 5 3 181 ["figure","rest","unit","is_low","is_high"] (T "js.numshow" 357) ++
 fp 155 (fT 32) "signed_exponent" "signed_exponent" 431 124 1 3 181 ["exponent"] (T "js.numshow" 357) ++
 fp 162 (fT 33) "with_exponent" "with_exponent" 438 126 2 3 181 ["figures","exponent","rest"] (T "js.numshow" 357) ++
 fp 169 (fT 34) "laid_out" "laid_out" 447 129 2 3 181 ["figures","place","size"] (T "js.numshow" 357) ++
 fp 176 (fT 35) "without_figures" "without_figures" 456 138 1 3 181 ["bits"] (T "js.numshow" 357) ++
 fp 183 (fT 36) "show" "show" 463 144 1 3 181 ["bits","told","figures","place"] (T "js.numshow" 357) ++
 [⟨(.type "list"),none,(.seq (L [(I 9 475),(I 11 476),(I 12 477),(I 32 478),(I 160 479),(I 5760 480),(I 6158 481),(I 8239 482),(I 8287 483),(I 12288 484),(I 65279 485)]) 0),L []⟩] ++
 [⟨(.type "list"),none,(.seq (L [(I 10 487),(I 13 488),(I 8232 489),(I 8233 490)]) 0),L []⟩]
noncomputable def u2 (P:Params):List (Nat×(Obj→Obj)):=[(3,uW (oD (g2 P (T "js.escapes" 629)) 55)),
 (12,uF [(I 157 0),(I 0 0),(R 237),(I 162 0),(I 0 0),(R 244),(I 164 0),(I 0 0),(R 251),(I 166 0),(I 0 0),(R 258),(I 168 0),(I 0 0),(R 265),(I 170 0),(I 0 0),(R 272),(I 176 0),(I 0 0),(R 279),(I 180 0),(I 0 0),(R 286)])]
noncomputable def d2 (P:Params):List Obj:=[oT [(I 170 492),(I 170 493)]] ++
 [oT [(I 181 494),(I 181 495)]] ++
 [oT [(I 186 496),(I 186 497)]] ++
 [oT [(I 192 498),(I 214 499)]] ++
 [oT [(I 216 500),(I 246 501)]] ++
 [oT [(I 248 502),(I 705 503)]] ++
 [oT [(I 880 504),(I 883 505)]] ++
 [oT [(I 886 506),(I 887 507)]] ++
 [oT [(I 891 508),(I 893 509)]] ++
 [oT [(I 902 510),(I 902 511)]] ++
 [oT [(I 904 512),(I 906 513)]] ++
 [oT [(I 908 514),(I 908 515)]] ++
 [oT [(I 910 516),(I 929 517)]] ++
 [oT [(I 931 518),(I 1013 519)]] ++
 [oT [(I 1015 520),(I 1153 521)]] ++
 [oT [(I 1162 522),(I 1315 523)]] ++
 [oT [(I 1329 524),(I 1366 525)]] ++
 [oT [(I 1377 526),(I 1415 527)]] ++
 [oT [(I 1488 528),(I 1514 529)]] ++
 [oT [(I 1569 530),(I 1594 531)]] ++
 [oT [(I 1601 532),(I 1610 533)]] ++
 [oT [(I 2308 534),(I 2361 535)]] ++
 [oT [(I 4256 536),(I 4293 537)]] ++
 [oT [(I 4304 538),(I 4346 539)]] ++
 [oT [(I 7680 540),(I 7835 541)]] ++
 [oT [(I 7840 542),(I 7929 543)]] ++
 [oT [(I 8544 544),(I 8578 545)]] ++
 [oT [(I 12353 546),(I 12438 547)]] ++
 [oT [(I 12449 548),(I 12538 549)]] ++
 [oT [(I 12549 550),(I 12588 551)]] ++
 [oT [(I 19968 552),(I 40891 553)]] ++
 [oT [(I 44032 554),(I 55203 555)]] ++
 [⟨(.type "list"),none,(.seq (L [(R 192),(R 193),(R 194),(R 195),(R 196),(R 197),(R 198),(R 199),(R 200),(R 201),(R 202),(R 203),(R 204),(R 205),(R 206),(R 207),(R 208),(R 209),(R 210),(R 211),(R 212),(R 213),(R 214),(R 215),(R 216),(R 217),(R 218),(R 219),(R 220),(R 221),(R 222),(R 223)]) 0),L []⟩] ++
 [oT [(I 768 557),(I 879 558)]] ++
 [oT [(I 1632 559),(I 1641 560)]] ++
 [oT [(I 2406 561),(I 2415 562)]] ++
 [oT [(I 8204 563),(I 8205 564)]] ++
 [oT [(I 8255 565),(I 8256 566)]] ++
 [oT [(I 8276 567),(I 8276 568)]] ++
 [⟨(.type "list"),none,(.seq (L [(R 225),(R 226),(R 227),(R 228),(R 229),(R 230)]) 0),L []⟩] ++
 fp 232 (fT 42) "is_among" "is_among" 570 157 2 3 181 ["code","ranges","first","last"] (T "js.chars" 473) ++
 fp 239 (fT 43) "is_white" "is_white" 580 162 1 3 181 ["code"] (T "js.chars" 473) ++
 fp 246 (fT 44) "is_line_end" "is_line_end" 587 164 1 3 181 ["code"] (T "js.chars" 473) ++
 fp 253 (fT 45) "is_digit" "is_digit" 594 166 1 3 181 ["code"] (T "js.chars" 473) ++
 fp 260 (fT 46) "is_octal_digit" "is_octal_digit" 601 168 1 3 181 ["code"] (T "js.chars" 473) ++
 fp 267 (fT 47) "hex_value" "hex_value" 608 170 1 3 181 ["code"] (T "js.chars" 473) ++
 fp 274 (fT 48) "is_id_start" "is_id_start" 615 176 1 3 181 ["code"] (T "js.chars" 473) ++
 fp 281 (fT 49) "is_id_part" "is_id_part" 622 180 1 3 181 ["code"] (T "js.chars" 473)
noncomputable def u3 (P:Params):List (Nat×(Obj→Obj)):=[(3,uD [E P "SINGLE" 649 (R 288)] 56)]
noncomputable def d3 (P:Params):List Obj:=[oD [E P "b" 631 (I 8 632),E P "t" 633 (I 9 634),E P "n" 635 (I 10 636),E P "v" 637 (I 11 638),E P "f" 639 (I 12 640),E P "r" 641 (I 13 642)] 6]
noncomputable def u4 (P:Params):List (Nat×(Obj→Obj)):=[(3,uW (oD (g3 P (T "js.tokens" 736)) 67)),
 (12,uF [(I 184 0),(I 0 0),(R 294),(I 186 0),(I 0 0),(R 301),(I 194 0),(I 0 0),(R 308),(I 196 0),(I 0 0),(R 315),(I 205 0),(I 0 0),(R 322),(I 226 0),(I 0 0),(R 329),(I 232 0),(I 0 0),(R 336),(I 237 0),(I 0 0),(R 343)])]
noncomputable def d4 (P:Params):List Obj:=fp 289 (fT 52) "code_at" "code_at" 650 184 2 3 181 ["text","at"] (T "js.escapes" 629) ++
 fp 296 (fT 53) "hex_at" "hex_at" 658 186 3 3 181 ["text","at","many","value","step","figure"] (T "js.escapes" 629) ++
 fp 303 (fT 54) "line_end_size" "line_end_size" 670 194 2 3 181 ["text","at"] (T "js.escapes" 629) ++
 fp 310 (fT 55) "octal_escape" "octal_escape" 678 196 2 3 181 ["text","at","most","many","value"] (T "js.escapes" 629) ++
 fp 317 (fT 56) "read_escape" "read_escape" 689 205 2 3 181 ["text","at","code","many","value","found","sign"] (T "js.escapes" 629) ++
 fp 324 (fT 59) "figure_of" "figure_of" 706 226 1 3 181 ["sign"] (T "js.numparse" 702) ++
 fp 331 (fT 60) "worth" "worth" 713 232 4 3 181 ["text","begin","end","radix","found","at"] (T "js.numparse" 702) ++
 fp 338 (fT 61) "from_decimal" "from_decimal" 725 237 2 3 181 ["figures","exponent","told","place","number"] (T "js.numparse" 702) ++
 [⟨(.type "list"),none,(.seq (L [(T "break" 738),(T "case" 739),(T "catch" 740),(T "continue" 741),(T "debugger" 742),(T "default" 743),(T "delete" 744),(T "do" 745),(T "else" 746),(T "finally" 747),(T "for" 748),(T "function" 749),(T "if" 750),(T "in" 751),(T "instanceof" 752),(T "new" 753),(T "return" 754),(T "switch" 755),(T "this" 756),(T "throw" 757),(T "try" 758),(T "typeof" 759),(T "var" 760),(T "void" 761),(T "while" 762),(T "with" 763),(T "class" 764),(T "const" 765),(T "enum" 766),(T "export" 767),(T "extends" 768),(T "\x69mport" 769),(T "super" 770),(T "null" 771),(T "true" 772),(T "false" 773)]) 0),L []⟩] ++
 [⟨(.type "list"),none,(.seq (L [(T ">>>=" 775),(T "===" 776),(T "!==" 777),(T ">>>" 778),(T "<<=" 779),(T ">>=" 780),(T "<=" 781),(T ">=" 782),(T "==" 783),(T "!=" 784),(T "++" 785),(T "--" 786),(T "<<" 787),(T ">>" 788),(T "&&" 789),(T "||" 790),(T "+=" 791),(T "-=" 792),(T "*=" 793),(T "%=" 794),(T "&=" 795),(T "|=" 796),(T "^=" 797),(T "/=" 798),(T "{" 799),(T "}" 800),(T "(" 801),(T ")" 802),(T "[" 803),(T "]" 804),(T "." 805),(T ";" 806),(T "," 807),(T "<" 808),(T ">" 809),(T "+" 810),(T "-" 811),(T "*" 812),(T "%" 813),(T "&" 814),(T "|" 815),(T "^" 816),(T "!" 817),(T "~" 818),(T "?" 819),(T ":" 820),(T "=" 821),(T "/" 822)]) 0),L []⟩]
noncomputable def u5 (P:Params):List (Nat×(Obj→Obj)):=[(3,uD [E P "PUNCT_TABLE" 923 (R 400)] 68)]
noncomputable def d5 (P:Params):List Obj:=[⟨(.type "list_iterator"),none,(.fields (L [.none,(I 48 0)])),L []⟩] ++
 [⟨(.type "list"),none,(.seq (L [(R 350),(R 351),(R 352),(R 353),(R 354),(R 355),(R 356),(R 357),(R 358),(R 359),(R 360),(R 361),(R 362),(R 363),(R 364),(R 365),(R 366),(R 367),(R 368),(R 369),(R 370),(R 371),(R 372),(R 373),(R 374),(R 375),(R 376),(R 377),(R 378),(R 379),(R 380),(R 381),(R 382),(R 383),(R 384),(R 385),(R 386),(R 387),(R 388),(R 389),(R 390),(R 391),(R 392),(R 393),(R 394),(R 395),(R 396),(R 397)]) 48),L []⟩] ++
 [oD [] 2] ++
 [oT [(T ">>>=" 775),(.bool true)]] ++
 [oT [(T "===" 776),(.bool true)]] ++
 [oT [(T "!==" 777),(.bool true)]] ++
 [oT [(T ">>>" 778),(.bool true)]] ++
 [oT [(T "<<=" 779),(.bool true)]] ++
 [oT [(T ">>=" 780),(.bool true)]] ++
 [oT [(T "<=" 781),(.bool true)]] ++
 [oT [(T ">=" 782),(.bool true)]] ++
 [oT [(T "==" 783),(.bool true)]] ++
 [oT [(T "!=" 784),(.bool true)]] ++
 [oT [(T "++" 785),(.bool true)]] ++
 [oT [(T "--" 786),(.bool true)]] ++
 [oT [(T "<<" 787),(.bool true)]] ++
 [oT [(T ">>" 788),(.bool true)]] ++
 [oT [(T "&&" 789),(.bool true)]] ++
 [oT [(T "||" 790),(.bool true)]] ++
 [oT [(T "+=" 791),(.bool true)]] ++
 [oT [(T "-=" 792),(.bool true)]] ++
 [oT [(T "*=" 793),(.bool true)]] ++
 [oT [(T "%=" 794),(.bool true)]] ++
 [oT [(T "&=" 795),(.bool true)]] ++
 [oT [(T "|=" 796),(.bool true)]] ++
 [oT [(T "^=" 797),(.bool true)]] ++
 [oT [(T "/=" 798),(.bool true)]] ++
 [oT [(T "{" 799),(.bool true)]] ++
 [oT [(T "}" 800),(.bool true)]] ++
 [oT [(T "(" 801),(.bool true)]] ++
 [oT [(T ")" 802),(.bool true)]] ++
 [oT [(T "[" 803),(.bool true)]] ++
 [oT [(T "]" 804),(.bool true)]] ++
 [oT [(T "." 805),(.bool true)]] ++
 [oT [(T ";" 806),(.bool true)]] ++
 [oT [(T "," 807),(.bool true)]] ++
 [oT [(T "<" 808),(.bool true)]] ++
 [oT [(T ">" 809),(.bool true)]] ++
 [oT [(T "+" 810),(.bool true)]] ++
 [oT [(T "-" 811),(.bool true)]] ++
 [oT [(T "*" 812),(.bool true)]] ++
 [oT [(T "%" 813),(.bool true)]] ++
 [oT [(T "&" 814),(.bool true)]] ++
 [oT [(T "|" 815),(.bool true)]] ++
 [oT [(T "^" 816),(.bool true)]] ++
 [oT [(T "!" 817),(.bool true)]] ++
 [oT [(T "~" 818),(.bool true)]] ++
 [oT [(T "?" 819),(.bool true)]] ++
 [oT [(T ":" 820),(.bool true)]] ++
 [oT [(T "=" 821),(.bool true)]] ++
 [oT [(T "/" 822),(.bool true)]] ++
 [oT []] ++
 [⟨(.type "StopIteration"),none,(.fields (L [(R 398),.none,.none,.none,(.bool false),.none])),L []⟩] ++
 [oD [E P ">>>=" 775 (.bool true),E P "===" 776 (.bool true),E P "!==" 777 (.bool true),E P ">>>" 778 (.bool true),E P "<<=" 779 (.bool true),E P ">>=" 780 (.bool true),E P "<=" 781 (.bool true),E P ">=" 782 (.bool true),E P "==" 783 (.bool true),E P "!=" 784 (.bool true),E P "++" 785 (.bool true),E P "--" 786 (.bool true),E P "<<" 787 (.bool true),E P ">>" 788 (.bool true),E P "&&" 789 (.bool true),E P "||" 790 (.bool true),E P "+=" 791 (.bool true),E P "-=" 792 (.bool true),E P "*=" 793 (.bool true),E P "%=" 794 (.bool true),E P "&=" 795 (.bool true),E P "|=" 796 (.bool true),E P "^=" 797 (.bool true),E P "/=" 798 (.bool true),E P "{" 799 (.bool true),E P "}" 800 (.bool true),E P "(" 801 (.bool true),E P ")" 802 (.bool true),E P "[" 803 (.bool true),E P "]" 804 (.bool true),E P "." 805 (.bool true),E P ";" 806 (.bool true),E P "," 807 (.bool true),E P "<" 808 (.bool true),E P ">" 809 (.bool true),E P "+" 810 (.bool true),E P "-" 811 (.bool true),E P "*" 812 (.bool true),E P "%" 813 (.bool true),E P "&" 814 (.bool true),E P "|" 815 (.bool true),E P "^" 816 (.bool true),E P "!" 817 (.bool true),E P "~" 818 (.bool true),E P "?" 819 (.bool true),E P ":" 820 (.bool true),E P "=" 821 (.bool true),E P "/" 822 (.bool true)] 48] ++
 [oT [(T "'list' object has no attribute 'keys'" 873)]] ++
 [⟨(.type "AttributeError"),none,(.fields (L [(R 401),.none,.none,.none,(.bool false),.none,(T "keys" 874),(R 348)])),L []⟩] ++
 [⟨(.type "list_iterator"),none,(.fields (L [.none,(I 48 0)])),L []⟩] ++
 [oT []] ++
 [⟨(.type "StopIteration"),none,(.fields (L [(R 404),.none,.none,.none,(.bool false),.none])),L []⟩]
noncomputable def u6 (P:Params):List (Nat×(Obj→Obj)):=[(2,uD [E P "type.__subclasses__.Exception.0" 1011 (I 457 0),E P "type.__subclasses__.Exception.n" 1012 (I 1 0)] 2),
 (3,uW (oD (g4 P (T "js.lexer" 1015)) 72)),
 (12,uF [(I 252 0),(I 0 0),(R 411),(I 263 0),(I 0 0),(R 432),(I 265 0),(I 0 0),(R 439),(I 272 0),(I 0 0),(R 446)])]
noncomputable def d6 (P:Params):List Obj:=[oT []] ++
 [⟨(.type "builtin_function_or_method"),none,(.fields (L [(.builtin "type.__prepare__"),(.type "type")])),L []⟩] ++
 [oD [E P "__module__" 931 (T "js.tokens" 736),E P "__qualname__" 933 (T "Token" 932),E P "__firstlineno__" 935 (I 252 934),E P "__init__" 948 (R 419),E P "__static_attributes__" 957 (R 420)] 5] ++
 [oT []] ++
 [oF [(I 254 0),(I 4 0),(R 418)]] ++
 [oC [(T "Token" 926),(T "Token" 927),(T "/claim/cut.py" 928),(I 252 0),(I 0 0),(I 0 0),(I 0 0),(I 0 0),(R 409),(.bool false),(I 181 0),(R 410),.none,.none,.none,.none,(I 929 0),(I 252 0),(T "/claim/cut.py" 930)]] ++
 [⟨(.type "frame"),none,.plain,L [(some (R 411)),(some (R 3)),(some (R 408)),none,(some (T "js.tokens" 736)),none,(some (R 0))]⟩] ++
 fp 413 (fM 66 0) "__init__" "Token.__init__" 936 254 7 3 181 ["self","kind","value","line","is_behind_line","start","end"] (T "js.tokens" 736) ++
 [oT [(T "end" 949),(T "is_behind_line" 950),(T "is_octal" 951),(T "is_plain" 952),(T "kind" 953),(T "line" 954),(T "start" 955),(T "value" 956)]] ++
 [oD [E P "__module__" 931 (T "js.tokens" 736),E P "__firstlineno__" 935 (I 252 934),E P "__init__" 948 (R 419),E P "__static_attributes__" 957 (R 420),E P "__dict__" 959 (R 423),E P "__weakref__" 961 (R 424),E P "__doc__" 962 .none] 4] ++
 [⟨(.type "type"),none,(.cls ⟨Str.ofString "Token",[(.type "object")],[(R 422),(.type "object")],421,Str.ofString "Token",true,[],[],false,none,false⟩),L [none,none,(some (T "Token" 924)),(some (T "Token" 932)),(some (.builtin "object.__new__")),(some (.bool true))]⟩] ++
 [⟨(.type "getset_descriptor"),none,(.fields (L [(T "__dict__" 958),(R 422),(.builtin "function.__dict__"),(.builtin "function.__dict__#set")])),L []⟩] ++
 [⟨(.type "getset_descriptor"),none,(.fields (L [(T "__weakref__" 960),(R 422),(.builtin "ExceptionGroup.__weakref__"),.none])),L []⟩] ++
 [⟨(.type "super"),none,(.fields (L [(R 422),(R 422),(R 422)])),L []⟩] ++
 [⟨(.type "builtin_function_or_method"),none,(.fields (L [(.builtin "object.__init_subclass__"),(R 422)])),L []⟩] ++
 fp 427 (fT 67) "is_keyword" "is_keyword" 965 263 1 3 181 ["word"] (T "js.tokens" 736) ++
 fp 434 (fT 68) "punct_at" "punct_at" 972 265 2 3 181 ["text","at","size","piece"] (T "js.tokens" 736) ++
 [oT [(.type "Exception")]] ++
 [⟨(.type "builtin_function_or_method"),none,(.fields (L [(.builtin "type.__prepare__"),(.type "type")])),L []⟩] ++
 [oD [E P "__module__" 991 (T "js.values" 982),E P "__qualname__" 993 (T "SyntaxFail" 992),E P "__firstlineno__" 995 (I 272 994),E P "__init__" 1004 (R 454),E P "__static_attributes__" 1007 (R 455)] 5] ++
 [oT []] ++
 [oF [(I 274 0),(I 4 0),(R 453)]] ++
 [oC [(T "SyntaxFail" 986),(T "SyntaxFail" 987),(T "/claim/cut.py" 988),(I 272 0),(I 0 0),(I 0 0),(I 0 0),(I 0 0),(R 444),(.bool false),(I 181 0),(R 445),.none,.none,.none,.none,(I 989 0),(I 272 0),(T "/claim/cut.py" 990)]] ++
 [⟨(.type "frame"),none,.plain,L [(some (R 446)),(some (R 3)),(some (R 443)),none,(some (T "js.values" 982)),none,(some (R 0))]⟩] ++
 fp 448 (fM 70 0) "__init__" "SyntaxFail.__init__" 996 274 3 3 181 ["self","text","line"] (T "js.values" 982) ++
 [oT [(T "line" 1005),(T "text" 1006)]] ++
 [oD [E P "__module__" 991 (T "js.values" 982),E P "__firstlineno__" 995 (I 272 994),E P "__init__" 1004 (R 454),E P "__static_attributes__" 1007 (R 455),E P "__weakref__" 1009 (R 458),E P "__doc__" 1010 .none] 3] ++
 [⟨(.type "type"),none,(.cls ⟨Str.ofString "SyntaxFail",[(.type "Exception")],[(R 457),(.type "Exception"),(.type "BaseException"),(.type "object")],456,Str.ofString "SyntaxFail",true,[],[],false,none,false⟩),L [(some (R 441)),none,(some (T "SyntaxFail" 984)),(some (T "SyntaxFail" 992)),(some (.builtin "Exception.__new__")),(some (.bool true))]⟩] ++
 [⟨(.type "getset_descriptor"),none,(.fields (L [(T "__weakref__" 1008),(R 457),(.builtin "ExceptionGroup.__weakref__"),.none])),L []⟩] ++
 [⟨(.type "super"),none,(.fields (L [(R 457),(R 457),(R 457)])),L []⟩] ++
 [⟨(.type "builtin_function_or_method"),none,(.fields (L [(.builtin "object.__init_subclass__"),(R 457)])),L []⟩]
noncomputable def u7 (P:Params):List (Nat×(Obj→Obj)):=[(3,uW (oD (g5 P (T "js.strictness" 1218)) 85)),
 (12,uF [(I 278 0),(I 0 0),(R 466),(I 487 0),(I 0 0),(R 616),(I 491 0),(I 0 0),(R 623),(I 495 0),(I 0 0),(R 630),(I 502 0),(I 0 0),(R 637),(I 511 0),(I 0 0),(R 644),(I 515 0),(I 0 0),(R 651),(I 517 0),(I 0 0),(R 658),(I 519 0),(I 0 0),(R 665),(I 529 0),(I 0 0),(R 672)])]
noncomputable def d7 (P:Params):List Obj:=[oT []] ++
 [⟨(.type "builtin_function_or_method"),none,(.fields (L [(.builtin "type.__prepare__"),(.type "type")])),L []⟩] ++
 [oD [E P "__module__" 1024 (T "js.lexer" 1015),E P "__qualname__" 1026 (T "Lexer" 1025),E P "__firstlineno__" 1028 (I 278 1027),E P "__init__" 1036 (R 474),E P "next" 1047 (R 481),E P "fail" 1055 (R 488),E P "end_line" 1062 (R 495),E P "skip_blanks" 1071 (R 502),E P "skip_comment" 1078 (R 509),E P "name_sign" 1090 (R 516),E P "read_name" 1100 (R 523),E P "skip_digits" 1108 (R 530),E P "read_number" 1119 (R 537),E P "read_hex" 1128 (R 544),E P "read_octal" 1136 (R 551),E P "read_decimal" 1145 (R 558),E P "read_exponent" 1156 (R 565),E P "regex" 1167 (R 572),E P "regex_body" 1177 (R 579),E P "read_text" 1188 (R 586),E P "escaped" 1197 (R 593),E P "read_punct" 1206 (R 600),E P "__static_attributes__" 1210 (R 601)] 23] ++
 [oT []] ++
 [oF [(I 280 0),(I 4 0),(R 473),(I 285 0),(I 4 0),(R 480),(I 302 0),(I 4 0),(R 487),(I 305 0),(I 4 0),(R 494),(I 309 0),(I 4 0),(R 501),(I 325 0),(I 4 0),(R 508),(I 336 0),(I 4 0),(R 515),(I 347 0),(I 4 0),(R 522),(I 358 0),(I 4 0),(R 529),(I 364 0),(I 4 0),(R 536),(I 378 0),(I 4 0),(R 543),(I 389 0),(I 4 0),(R 550),(I 396 0),(I 4 0),(R 557),(I 408 0),(I 4 0),(R 564),(I 422 0),(I 4 0),(R 571),(I 433 0),(I 4 0),(R 578),(I 449 0),(I 4 0),(R 585),(I 465 0),(I 4 0),(R 592),(I 476 0),(I 4 0),(R 599)]] ++
 [oC [(T "Lexer" 1019),(T "Lexer" 1020),(T "/claim/cut.py" 1021),(I 278 0),(I 0 0),(I 0 0),(I 0 0),(I 0 0),(R 464),(.bool false),(I 181 0),(R 465),.none,.none,.none,.none,(I 1022 0),(I 278 0),(T "/claim/cut.py" 1023)]] ++
 [⟨(.type "frame"),none,.plain,L [(some (R 466)),(some (R 3)),(some (R 463)),none,(some (T "js.lexer" 1015)),none,(some (R 0))]⟩] ++
 fp 468 (fM 72 0) "__init__" "Lexer.__init__" 1029 280 2 3 181 ["self","text"] (T "js.lexer" 1015) ++
 fp 475 (fM 72 1) "next" "Lexer.next" 1037 285 1 3 181 ["self","is_behind_line","start","code","token"] (T "js.lexer" 1015) ++
 fp 482 (fM 72 2) "fail" "Lexer.fail" 1048 302 2 3 181 ["self","text"] (T "js.lexer" 1015) ++
 fp 489 (fM 72 3) "end_line" "Lexer.end_line" 1056 305 1 3 181 ["self"] (T "js.lexer" 1015) ++
 fp 496 (fM 72 4) "skip_blanks" "Lexer.skip_blanks" 1063 309 1 3 181 ["self","line","code"] (T "js.lexer" 1015) ++
 fp 503 (fM 72 5) "skip_comment" "Lexer.skip_comment" 1072 325 1 3 181 ["self"] (T "js.lexer" 1015) ++
 fp 510 (fM 72 6) "name_sign" "Lexer.name_sign" 1079 336 2 3 181 ["self","is_first","code","behind","is_escape","is_right"] (T "js.lexer" 1015) ++
 fp 517 (fM 72 7) "read_name" "Lexer.read_name" 1091 347 2 3 181 ["self","token","found","told"] (T "js.lexer" 1015) ++
 fp 524 (fM 72 8) "skip_digits" "Lexer.skip_digits" 1101 358 1 3 181 ["self","start"] (T "js.lexer" 1015) ++
 fp 531 (fM 72 9) "read_number" "Lexer.read_number" 1109 364 2 3 181 ["self","token","ahead","sign","code"] (T "js.lexer" 1015) ++
 fp 538 (fM 72 10) "read_hex" "Lexer.read_hex" 1120 378 1 3 181 ["self","value","many"] (T "js.lexer" 1015) ++
 fp 545 (fM 72 11) "read_octal" "Lexer.read_octal" 1129 389 1 3 181 ["self","value"] (T "js.lexer" 1015) ++
 fp 552 (fM 72 12) "read_decimal" "Lexer.read_decimal" 1137 396 1 3 181 ["self","whole","part"] (T "js.lexer" 1015) ++
 fp 559 (fM 72 13) "read_exponent" "Lexer.read_exponent" 1146 408 1 3 181 ["self","sign","figures","shown","power"] (T "js.lexer" 1015) ++
 fp 566 (fM 72 14) "regex" "Lexer.regex" 1157 422 2 3 181 ["self","token","body","start","found"] (T "js.lexer" 1015) ++
 fp 573 (fM 72 15) "regex_body" "Lexer.regex_body" 1168 433 1 3 181 ["self","start","is_class","code"] (T "js.lexer" 1015) ++
 fp 580 (fM 72 16) "read_text" "Lexer.read_text" 1178 449 3 3 181 ["self","token","quote","found","code"] (T "js.lexer" 1015) ++
 fp 587 (fM 72 17) "escaped" "Lexer.escaped" 1189 465 2 3 181 ["self","token","told"] (T "js.lexer" 1015) ++
 fp 594 (fM 72 18) "read_punct" "Lexer.read_punct" 1198 476 2 3 181 ["self","token","punct"] (T "js.lexer" 1015) ++
 [oT [(T "at" 1207),(T "line" 1208),(T "text" 1209)]] ++
 [oD [E P "__module__" 1024 (T "js.lexer" 1015),E P "__firstlineno__" 1028 (I 278 1027),E P "__init__" 1036 (R 474),E P "next" 1047 (R 481),E P "fail" 1055 (R 488),E P "end_line" 1062 (R 495),E P "skip_blanks" 1071 (R 502),E P "skip_comment" 1078 (R 509),E P "name_sign" 1090 (R 516),E P "read_name" 1100 (R 523),E P "skip_digits" 1108 (R 530),E P "read_number" 1119 (R 537),E P "read_hex" 1128 (R 544),E P "read_octal" 1136 (R 551),E P "read_decimal" 1145 (R 558),E P "read_exponent" 1156 (R 565),E P "regex" 1167 (R 572),E P "regex_body" 1177 (R 579),E P "read_text" 1188 (R 586),E P "escaped" 1197 (R 593),E P "read_punct" 1206 (R 600),E P "__static_attributes__" 1210 (R 601),E P "__dict__" 1212 (R 604),E P "__weakref__" 1214 (R 605),E P "__doc__" 1215 .none] 4] ++
 [⟨(.type "type"),none,(.cls ⟨Str.ofString "Lexer",[(.type "object")],[(R 603),(.type "object")],602,Str.ofString "Lexer",true,[],[],false,none,false⟩),L [none,none,(some (T "Lexer" 1017)),(some (T "Lexer" 1025)),(some (.builtin "object.__new__")),(some (.bool true))]⟩] ++
 [⟨(.type "getset_descriptor"),none,(.fields (L [(T "__dict__" 1211),(R 603),(.builtin "function.__dict__"),(.builtin "function.__dict__#set")])),L []⟩] ++
 [⟨(.type "getset_descriptor"),none,(.fields (L [(T "__weakref__" 1213),(R 603),(.builtin "ExceptionGroup.__weakref__"),.none])),L []⟩] ++
 [⟨(.type "super"),none,(.fields (L [(R 603),(R 603),(R 603)])),L []⟩] ++
 [⟨(.type "builtin_function_or_method"),none,(.fields (L [(.builtin "object.__init_subclass__"),(R 603)])),L []⟩] ++
 [oT [(T "implements" 1220),(T "interface" 1221),(T "let" 1222),(T "package" 1223),(T "private" 1224),(T "protected" 1225),(T "public" 1226),(T "static" 1227),(T "yield" 1228)]] ++
 [oT [(T "arguments" 1230),(T "eval" 1231)]] ++
 [oT [(T "Name" 1233),(T "Member" 1234),(T "Index" 1235)]] ++
 fp 611 (fT 77) "name_fault" "name_fault" 1237 487 2 3 181 ["name","is_strict"] (T "js.strictness" 1218) ++
 fp 618 (fT 78) "binding_fault" "binding_fault" 1245 491 2 3 181 ["name","is_strict"] (T "js.strictness" 1218) ++
 fp 625 (fT 79) "first_twice" "first_twice" 1253 495 1 3 181 ["names","seen","name"] (T "js.strictness" 1218) ++
 fp 632 (fT 80) "params_fault" "params_fault" 1262 502 3 3 181 ["name","params","is_strict","word","fault","twice"] (T "js.strictness" 1218) ++
 fp 639 (fT 81) "target_fault" "target_fault" 1274 511 3 3 181 ["kind","name","is_strict"] (T "js.strictness" 1218) ++
 fp 646 (fT 82) "delete_fault" "delete_fault" 1283 515 2 3 181 ["kind","is_strict"] (T "js.strictness" 1218) ++
 fp 653 (fT 83) "octal_fault" "octal_fault" 1291 517 2 3 181 ["is_octal","is_strict"] (T "js.strictness" 1218) ++
 fp 660 (fT 84) "entry_fault" "entry_fault" 1299 519 4 3 181 ["known","sort","key","is_strict","sorts"] (T "js.strictness" 1218) ++
 fp 667 (fT 85) "accessor_fault" "accessor_fault" 1310 529 2 3 181 ["sort","params","wanted"] (T "js.strictness" 1218)
noncomputable def u8 (P:Params):List (Nat×(Obj→Obj)):=[(3,uW (oD (g6 P (T "js.parse_expr" 1517)) 87)),
 (12,uF [(I 532 0),(I 0 0),(R 679),(I 554 0),(I 0 0),(R 715)])]
noncomputable def d8 (P:Params):List Obj:=[oT []] ++
 [⟨(.type "builtin_function_or_method"),none,(.fields (L [(.builtin "type.__prepare__"),(.type "type")])),L []⟩] ++
 [oD [E P "__module__" 1326 (T "js.strictness" 1218),E P "__qualname__" 1328 (T "Jumps" 1327),E P "__firstlineno__" 1330 (I 532 1329),E P "__init__" 1337 (R 687),E P "label_fault" 1343 (R 692),E P "break_fault" 1349 (R 697),E P "continue_fault" 1355 (R 702),E P "__static_attributes__" 1359 (R 703)] 8] ++
 [oT []] ++
 [oF [(I 534 0),(I 4 0),(R 686),(I 539 0),(I 4 0),(R 691),(I 542 0),(I 4 0),(R 696),(I 547 0),(I 4 0),(R 701)]] ++
 [oC [(T "Jumps" 1321),(T "Jumps" 1322),(T "/claim/cut.py" 1323),(I 532 0),(I 0 0),(I 0 0),(I 0 0),(I 0 0),(R 677),(.bool false),(I 181 0),(R 678),.none,.none,.none,.none,(I 1324 0),(I 532 0),(T "/claim/cut.py" 1325)]] ++
 [⟨(.type "frame"),none,.plain,L [(some (R 679)),(some (R 3)),(some (R 676)),none,(some (T "js.strictness" 1218)),none,(some (R 0))]⟩] ++
 fp 681 (fM 86 0) "__init__" "Jumps.__init__" 1331 534 1 3 181 ["self"] (T "js.strictness" 1218) ++
 [oT []] ++
 [oF []] ++
 [⟨.none,none,(.func (fd (fM 86 1) "label_fault" "Jumps.label_fault" 0 .none .none .none .none none .none .none 0)),L []⟩] ++
 [oC [(T "label_fault" 1338),(T "Jumps.label_fault" 1339),(T "/claim/cut.py" 1340),(I 539 0),(I 2 0),(I 0 0),(I 0 0),(I 3 0),(R 688),(.bool true),(I 181 0),(R 689),.none,.none,.none,(R 690),(I 1341 0),(I 539 0),(T "/claim/cut.py" 1342)]] ++
 [⟨(.type "function"),none,(.func (fd (fM 86 1) "label_fault" "Jumps.label_fault" 3 .none .none .none (T "js.strictness" 1218) none (R 691) .none 0)),L []⟩] ++
 [oT []] ++
 [oF []] ++
 [⟨.none,none,(.func (fd (fM 86 2) "break_fault" "Jumps.break_fault" 0 .none .none .none .none none .none .none 0)),L []⟩] ++
 [oC [(T "break_fault" 1344),(T "Jumps.break_fault" 1345),(T "/claim/cut.py" 1346),(I 542 0),(I 2 0),(I 0 0),(I 0 0),(I 3 0),(R 693),(.bool true),(I 181 0),(R 694),.none,.none,.none,(R 695),(I 1347 0),(I 542 0),(T "/claim/cut.py" 1348)]] ++
 [⟨(.type "function"),none,(.func (fd (fM 86 2) "break_fault" "Jumps.break_fault" 3 .none .none .none (T "js.strictness" 1218) none (R 696) .none 0)),L []⟩] ++
 [oT []] ++
 [oF []] ++
 [⟨.none,none,(.func (fd (fM 86 3) "continue_fault" "Jumps.continue_fault" 0 .none .none .none .none none .none .none 0)),L []⟩] ++
 [oC [(T "continue_fault" 1350),(T "Jumps.continue_fault" 1351),(T "/claim/cut.py" 1352),(I 547 0),(I 2 0),(I 0 0),(I 0 0),(I 3 0),(R 698),(.bool true),(I 181 0),(R 699),.none,.none,.none,(R 700),(I 1353 0),(I 547 0),(T "/claim/cut.py" 1354)]] ++
 [⟨(.type "function"),none,(.func (fd (fM 86 3) "continue_fault" "Jumps.continue_fault" 3 .none .none .none (T "js.strictness" 1218) none (R 701) .none 0)),L []⟩] ++
 [oT [(T "labels" 1356),(T "loops" 1357),(T "switches" 1358)]] ++
 [oD [E P "__module__" 1326 (T "js.strictness" 1218),E P "__firstlineno__" 1330 (I 532 1329),E P "__init__" 1337 (R 687),E P "label_fault" 1343 (R 692),E P "break_fault" 1349 (R 697),E P "continue_fault" 1355 (R 702),E P "__static_attributes__" 1359 (R 703),E P "__dict__" 1361 (R 706),E P "__weakref__" 1363 (R 707),E P "__doc__" 1364 .none] 4] ++
 [⟨(.type "type"),none,(.cls ⟨Str.ofString "Jumps",[(.type "object")],[(R 705),(.type "object")],704,Str.ofString "Jumps",true,[],[],false,none,false⟩),L [none,none,(some (T "Jumps" 1319)),(some (T "Jumps" 1327)),(some (.builtin "object.__new__")),(some (.bool true))]⟩] ++
 [⟨(.type "getset_descriptor"),none,(.fields (L [(T "__dict__" 1360),(R 705),(.builtin "function.__dict__"),(.builtin "function.__dict__#set")])),L []⟩] ++
 [⟨(.type "getset_descriptor"),none,(.fields (L [(T "__weakref__" 1362),(R 705),(.builtin "ExceptionGroup.__weakref__"),.none])),L []⟩] ++
 [⟨(.type "super"),none,(.fields (L [(R 705),(R 705),(R 705)])),L []⟩] ++
 [⟨(.type "builtin_function_or_method"),none,(.fields (L [(.builtin "object.__init_subclass__"),(R 705)])),L []⟩] ++
 [oT []] ++
 [⟨(.type "builtin_function_or_method"),none,(.fields (L [(.builtin "type.__prepare__"),(.type "type")])),L []⟩] ++
 [oD [E P "__module__" 1376 (T "js.parse_base" 1367),E P "__qualname__" 1378 (T "TokenTaker" 1377),E P "__firstlineno__" 1380 (I 554 1379),E P "__init__" 1388 (R 723),E P "take" 1396 (R 730),E P "peek" 1403 (R 737),E P "is_sign" 1411 (R 744),E P "is_word" 1419 (R 751),E P "eat" 1427 (R 758),E P "need" 1435 (R 765),E P "need_word" 1443 (R 772),E P "fail" 1451 (R 779),E P "fail_for" 1459 (R 786),E P "unexpected" 1466 (R 793),E P "need_name" 1473 (R 800),E P "need_binding" 1480 (R 807),E P "property_name" 1487 (R 814),E P "can_end" 1494 (R 821),E P "end_statement" 1501 (R 828),E P "__static_attributes__" 1509 (R 829)] 20] ++
 [oT []] ++
 [oF [(I 556 0),(I 4 0),(R 722),(I 565 0),(I 4 0),(R 729),(I 574 0),(I 4 0),(R 736),(I 579 0),(I 4 0),(R 743),(I 582 0),(I 4 0),(R 750),(I 585 0),(I 4 0),(R 757),(I 591 0),(I 4 0),(R 764),(I 595 0),(I 4 0),(R 771),(I 600 0),(I 4 0),(R 778),(I 603 0),(I 4 0),(R 785),(I 607 0),(I 4 0),(R 792),(I 610 0),(I 4 0),(R 799),(I 616 0),(I 4 0),(R 806),(I 622 0),(I 4 0),(R 813),(I 627 0),(I 4 0),(R 820),(I 630 0),(I 4 0),(R 827)]] ++
 [oC [(T "TokenTaker" 1371),(T "TokenTaker" 1372),(T "/claim/cut.py" 1373),(I 554 0),(I 0 0),(I 0 0),(I 0 0),(I 0 0),(R 713),(.bool false),(I 181 0),(R 714),.none,.none,.none,.none,(I 1374 0),(I 554 0),(T "/claim/cut.py" 1375)]] ++
 [⟨(.type "frame"),none,.plain,L [(some (R 715)),(some (R 3)),(some (R 712)),none,(some (T "js.parse_base" 1367)),none,(some (R 0))]⟩] ++
 fp 717 (fM 88 0) "__init__" "TokenTaker.__init__" 1381 556 2 3 181 ["self","text"] (T "js.parse_base" 1367) ++
 fp 724 (fM 88 1) "take" "TokenTaker.take" 1389 565 1 3 181 ["self","taken"] (T "js.parse_base" 1367) ++
 fp 731 (fM 88 2) "peek" "TokenTaker.peek" 1397 574 1 3 181 ["self"] (T "js.parse_base" 1367) ++
 fp 738 (fM 88 3) "is_sign" "TokenTaker.is_sign" 1404 579 2 3 181 ["self","sign"] (T "js.parse_base" 1367) ++
 fp 745 (fM 88 4) "is_word" "TokenTaker.is_word" 1412 582 2 3 181 ["self","word"] (T "js.parse_base" 1367) ++
 fp 752 (fM 88 5) "eat" "TokenTaker.eat" 1420 585 2 3 181 ["self","sign"] (T "js.parse_base" 1367) ++
 fp 759 (fM 88 6) "need" "TokenTaker.need" 1428 591 2 3 181 ["self","sign"] (T "js.parse_base" 1367) ++
 fp 766 (fM 88 7) "need_word" "TokenTaker.need_word" 1436 595 2 3 181 ["self","word"] (T "js.parse_base" 1367) ++
 fp 773 (fM 88 8) "fail" "TokenTaker.fail" 1444 600 2 3 181 ["self","text"] (T "js.parse_base" 1367) ++
 fp 780 (fM 88 9) "fail_for" "TokenTaker.fail_for" 1452 603 2 3 181 ["self","fault"] (T "js.parse_base" 1367) ++
 fp 787 (fM 88 10) "unexpected" "TokenTaker.unexpected" 1460 607 1 3 181 ["self"] (T "js.parse_base" 1367) ++
 fp 794 (fM 88 11) "need_name" "TokenTaker.need_name" 1467 610 1 3 181 ["self"] (T "js.parse_base" 1367) ++
 fp 801 (fM 88 12) "need_binding" "TokenTaker.need_binding" 1474 616 1 3 181 ["self"] (T "js.parse_base" 1367) ++
 fp 808 (fM 88 13) "property_name" "TokenTaker.property_name" 1481 622 1 3 181 ["self"] (T "js.parse_base" 1367) ++
 fp 815 (fM 88 14) "can_end" "TokenTaker.can_end" 1488 627 1 3 181 ["self"] (T "js.parse_base" 1367) ++
 fp 822 (fM 88 15) "end_statement" "TokenTaker.end_statement" 1495 630 1 3 181 ["self"] (T "js.parse_base" 1367) ++
 [oT [(T "depth" 1502),(T "is_strict" 1503),(T "jumps" 1504),(T "later" 1505),(T "lexer" 1506),(T "pending" 1507),(T "token" 1508)]] ++
 [oD [E P "__module__" 1376 (T "js.parse_base" 1367),E P "__firstlineno__" 1380 (I 554 1379),E P "__init__" 1388 (R 723),E P "take" 1396 (R 730),E P "peek" 1403 (R 737),E P "is_sign" 1411 (R 744),E P "is_word" 1419 (R 751),E P "eat" 1427 (R 758),E P "need" 1435 (R 765),E P "need_word" 1443 (R 772),E P "fail" 1451 (R 779),E P "fail_for" 1459 (R 786),E P "unexpected" 1466 (R 793),E P "need_name" 1473 (R 800),E P "need_binding" 1480 (R 807),E P "property_name" 1487 (R 814),E P "can_end" 1494 (R 821),E P "end_statement" 1501 (R 828),E P "__static_attributes__" 1509 (R 829),E P "__dict__" 1511 (R 832),E P "__weakref__" 1513 (R 833),E P "__doc__" 1514 .none] 4] ++
 [⟨(.type "type"),none,(.cls ⟨Str.ofString "TokenTaker",[(.type "object")],[(R 831),(.type "object")],830,Str.ofString "TokenTaker",true,[],[],false,none,false⟩),L [none,none,(some (T "TokenTaker" 1369)),(some (T "TokenTaker" 1377)),(some (.builtin "object.__new__")),(some (.bool true))]⟩] ++
 [⟨(.type "getset_descriptor"),none,(.fields (L [(T "__dict__" 1510),(R 831),(.builtin "function.__dict__"),(.builtin "function.__dict__#set")])),L []⟩] ++
 [⟨(.type "getset_descriptor"),none,(.fields (L [(T "__weakref__" 1512),(R 831),(.builtin "ExceptionGroup.__weakref__"),.none])),L []⟩] ++
 [⟨(.type "super"),none,(.fields (L [(R 831),(R 831),(R 831)])),L []⟩] ++
 [⟨(.type "builtin_function_or_method"),none,(.fields (L [(.builtin "object.__init_subclass__"),(R 831)])),L []⟩]
noncomputable def u9 (P:Params):List (Nat×(Obj→Obj)):=[(3,uD [E P "PRIORITY" 1588 (R 836)] 88)]
noncomputable def d9 (P:Params):List Obj:=[oD [E P "||" 1519 (I 1 1520),E P "&&" 1522 (I 2 1523),E P "|" 1525 (I 3 1526),E P "^" 1528 (I 4 1529),E P "&" 1531 (I 5 1532),E P "==" 1534 (I 6 1535),E P "!=" 1537 (I 6 1538),E P "===" 1540 (I 6 1541),E P "!==" 1543 (I 6 1544),E P "<" 1546 (I 7 1547),E P ">" 1549 (I 7 1550),E P "<=" 1552 (I 7 1553),E P ">=" 1555 (I 7 1556),E P "instanceof" 1558 (I 7 1559),E P "in" 1561 (I 7 1562),E P "<<" 1564 (I 8 1565),E P ">>" 1567 (I 8 1568),E P ">>>" 1570 (I 8 1571),E P "+" 1572 (I 9 1573),E P "-" 1574 (I 9 1575),E P "*" 1576 (I 10 1577),E P "/" 1578 (I 10 1579),E P "%" 1580 (I 10 1581)] 23] ++
 [oD [E P ">>>" 1570 (I 8 1571),E P "+" 1572 (I 9 1573),E P "-" 1574 (I 9 1575),E P "*" 1576 (I 10 1577),E P "/" 1578 (I 10 1579),E P "%" 1580 (I 10 1581)] 6]
noncomputable def u10 (P:Params):List (Nat×(Obj→Obj)):=[(3,uW (oD (g7 P (T "js.parse_simple" 1785)) 93)),
 (12,uF [(I 639 0),(I 0 0),(R 847)]),
 (831,uW (⟨(.type "type"),none,(.cls ⟨Str.ofString "TokenTaker",[(.type "object")],[(R 831),(.type "object")],830,Str.ofString "TokenTaker",true,[],[(R 970)],false,none,false⟩),L [none,none,(some (T "TokenTaker" 1369)),(some (T "TokenTaker" 1377)),(some (.builtin "object.__new__")),(some (.bool true))]⟩))]
noncomputable def d10 (P:Params):List Obj:=[oT [(T "=" 1589),(T "+=" 1590),(T "-=" 1591),(T "*=" 1592),(T "/=" 1593),(T "%=" 1594),(T "<<=" 1595),(T ">>=" 1596),(T ">>>=" 1597),(T "&=" 1598),(T "^=" 1599),(T "|=" 1600)]] ++
 [oT [(T "-" 1602),(T "+" 1603),(T "!" 1604),(T "~" 1605)]] ++
 [oT [(T "typeof" 1607),(T "void" 1608),(T "delete" 1609)]] ++
 [oT [(T "++" 1611),(T "--" 1612)]] ++
 [oT [(R 831)]] ++
 [⟨(.type "builtin_function_or_method"),none,(.fields (L [(.builtin "type.__prepare__"),(.type "type")])),L []⟩] ++
 [oD [E P "__module__" 1621 (T "js.parse_expr" 1517),E P "__qualname__" 1623 (T "ExprParser" 1622),E P "__firstlineno__" 1625 (I 639 1624),E P "function" 1633 (R 855),E P "expression" 1643 (R 862),E P "assignment" 1653 (R 869),E P "need_target" 1661 (R 876),E P "conditional" 1671 (R 883),E P "priority" 1679 (R 890),E P "binary" 1692 (R 897),E P "unary" 1704 (R 904),E P "postfix" 1712 (R 911),E P "left_hand" 1720 (R 918),E P "with_members" 1729 (R 925),E P "creation" 1738 (R 932),E P "arguments" 1746 (R 939),E P "primary" 1755 (R 946),E P "word_operand" 1763 (R 953),E P "array" 1772 (R 960),E P "object" 1779 (R 967),E P "__static_attributes__" 1781 (R 968)] 21] ++
 [oT []] ++
 [oF [(I 641 0),(I 4 0),(R 854),(I 644 0),(I 4 0),(R 861),(I 653 0),(I 4 0),(R 868),(I 661 0),(I 4 0),(R 875),(I 664 0),(I 4 0),(R 882),(I 672 0),(I 4 0),(R 889),(I 679 0),(I 4 0),(R 896),(I 688 0),(I 4 0),(R 903),(I 705 0),(I 4 0),(R 910),(I 712 0),(I 4 0),(R 917),(I 718 0),(I 4 0),(R 924),(I 728 0),(I 4 0),(R 931),(I 733 0),(I 4 0),(R 938),(I 745 0),(I 4 0),(R 945),(I 768 0),(I 4 0),(R 952),(I 782 0),(I 4 0),(R 959),(I 795 0),(I 4 0),(R 966)]] ++
 [oC [(T "ExprParser" 1616),(T "ExprParser" 1617),(T "/claim/cut.py" 1618),(I 639 0),(I 0 0),(I 0 0),(I 0 0),(I 0 0),(R 845),(.bool false),(I 181 0),(R 846),.none,.none,.none,.none,(I 1619 0),(I 639 0),(T "/claim/cut.py" 1620)]] ++
 [⟨(.type "frame"),none,.plain,L [(some (R 847)),(some (R 3)),(some (R 844)),none,(some (T "js.parse_expr" 1517)),none,(some (R 0))]⟩] ++
 fp 849 (fM 95 0) "function" "ExprParser.function" 1626 641 2 3 181 ["self","sort"] (T "js.parse_expr" 1517) ++
 fp 856 (fM 95 1) "expression" "ExprParser.expression" 1634 644 2 3 181 ["self","can_in","first","found"] (T "js.parse_expr" 1517) ++
 fp 863 (fM 95 2) "assignment" "ExprParser.assignment" 1644 653 2 3 181 ["self","can_in","left","op"] (T "js.parse_expr" 1517) ++
 fp 870 (fM 95 3) "need_target" "ExprParser.need_target" 1654 661 2 3 181 ["self","node"] (T "js.parse_expr" 1517) ++
 fp 877 (fM 95 4) "conditional" "ExprParser.conditional" 1662 664 2 3 181 ["self","can_in","test","then"] (T "js.parse_expr" 1517) ++
 fp 884 (fM 95 5) "priority" "ExprParser.priority" 1672 672 2 3 181 ["self","can_in"] (T "js.parse_expr" 1517) ++
 fp 891 (fM 95 6) "binary" "ExprParser.binary" 1680 679 3 3 181 ["self","least","can_in","left","strength","op","right"] (T "js.parse_expr" 1517) ++
 fp 898 (fM 95 7) "unary" "ExprParser.unary" 1693 688 1 3 181 ["self","token","target","is_sign","is_word","operand"] (T "js.parse_expr" 1517) ++
 fp 905 (fM 95 8) "postfix" "ExprParser.postfix" 1705 705 1 3 181 ["self","node"] (T "js.parse_expr" 1517) ++
 fp 912 (fM 95 9) "left_hand" "ExprParser.left_hand" 1713 712 1 3 181 ["self","node"] (T "js.parse_expr" 1517) ++
 fp 919 (fM 95 10) "with_members" "ExprParser.with_members" 1721 718 2 3 181 ["self","node","key"] (T "js.parse_expr" 1517) ++
 fp 926 (fM 95 11) "creation" "ExprParser.creation" 1730 728 1 3 181 ["self","line","made"] (T "js.parse_expr" 1517) ++
 fp 933 (fM 95 12) "arguments" "ExprParser.arguments" 1739 733 1 3 181 ["self","found"] (T "js.parse_expr" 1517) ++
 fp 940 (fM 95 13) "primary" "ExprParser.primary" 1747 745 1 3 181 ["self","token","found"] (T "js.parse_expr" 1517) ++
 fp 947 (fM 95 14) "word_operand" "ExprParser.word_operand" 1756 768 1 3 181 ["self","token"] (T "js.parse_expr" 1517) ++
 fp 954 (fM 95 15) "array" "ExprParser.array" 1764 782 1 3 181 ["self","line","found"] (T "js.parse_expr" 1517) ++
 fp 961 (fM 95 16) "object" "ExprParser.object" 1773 795 1 3 181 ["self"] (T "js.parse_expr" 1517) ++
 [oT [(T "token" 1780)]] ++
 [oD [E P "__module__" 1621 (T "js.parse_expr" 1517),E P "__firstlineno__" 1625 (I 639 1624),E P "function" 1633 (R 855),E P "expression" 1643 (R 862),E P "assignment" 1653 (R 869),E P "need_target" 1661 (R 876),E P "conditional" 1671 (R 883),E P "priority" 1679 (R 890),E P "binary" 1692 (R 897),E P "unary" 1704 (R 904),E P "postfix" 1712 (R 911),E P "left_hand" 1720 (R 918),E P "with_members" 1729 (R 925),E P "creation" 1738 (R 932),E P "arguments" 1746 (R 939),E P "primary" 1755 (R 946),E P "word_operand" 1763 (R 953),E P "array" 1772 (R 960),E P "object" 1779 (R 967),E P "__static_attributes__" 1781 (R 968),E P "__doc__" 1782 .none] 2] ++
 [⟨(.type "type"),none,(.cls ⟨Str.ofString "ExprParser",[(R 831)],[(R 970),(R 831),(.type "object")],969,Str.ofString "ExprParser",true,[],[],false,none,false⟩),L [(some (R 842)),none,(some (T "ExprParser" 1614)),(some (T "ExprParser" 1622)),(some (.builtin "object.__new__")),(some (.bool true))]⟩] ++
 [⟨(.type "super"),none,(.fields (L [(R 970),(R 970),(R 970)])),L []⟩] ++
 [⟨(.type "builtin_function_or_method"),none,(.fields (L [(.builtin "object.__init_subclass__"),(R 970)])),L []⟩]
noncomputable def u11 (P:Params):List (Nat×(Obj→Obj)):=[(3,uW (oD (g8 P (T "js.parse_stmt" 2005)) 96)),
 (12,uF [(I 798 0),(I 0 0),(R 978),(I 921 0),(I 0 0),(R 1074)]),
 (970,uW (⟨(.type "type"),none,(.cls ⟨Str.ofString "ExprParser",[(R 831)],[(R 970),(R 831),(.type "object")],969,Str.ofString "ExprParser",true,[],[(R 1066)],false,none,false⟩),L [(some (R 842)),none,(some (T "ExprParser" 1614)),(some (T "ExprParser" 1622)),(some (.builtin "object.__new__")),(some (.bool true))]⟩))]
noncomputable def d11 (P:Params):List Obj:=[oT [(R 970)]] ++
 [⟨(.type "builtin_function_or_method"),none,(.fields (L [(.builtin "type.__prepare__"),(.type "type")])),L []⟩] ++
 [oD [E P "__module__" 1794 (T "js.parse_simple" 1785),E P "__qualname__" 1796 (T "SimpleParser" 1795),E P "__firstlineno__" 1798 (I 798 1797),E P "body" 1811 (R 986),E P "at_end" 1819 (R 993),E P "element" 1826 (R 1000),E P "statement" 1836 (R 1007),E P "plain_expression" 1845 (R 1014),E P "word_statement" 1856 (R 1021),E P "large_statement" 1866 (R 1028),E P "block" 1874 (R 1035),E P "variables" 1884 (R 1042),E P "labelled" 1896 (R 1049),E P "jump" 1906 (R 1056),E P "leaving" 1916 (R 1063),E P "__static_attributes__" 1919 (R 1064)] 16] ++
 [oT []] ++
 [oF [(I 800 0),(I 4 0),(R 985),(I 817 0),(I 4 0),(R 992),(I 820 0),(I 4 0),(R 999),(I 826 0),(I 4 0),(R 1006),(I 841 0),(I 4 0),(R 1013),(I 847 0),(I 4 0),(R 1020),(I 868 0),(I 4 0),(R 1027),(I 871 0),(I 4 0),(R 1034),(I 879 0),(I 4 0),(R 1041),(I 887 0),(I 4 0),(R 1048),(I 899 0),(I 4 0),(R 1055),(I 908 0),(I 4 0),(R 1062)]] ++
 [oC [(T "SimpleParser" 1789),(T "SimpleParser" 1790),(T "/claim/cut.py" 1791),(I 798 0),(I 0 0),(I 0 0),(I 0 0),(I 0 0),(R 976),(.bool false),(I 181 0),(R 977),.none,.none,.none,.none,(I 1792 0),(I 798 0),(T "/claim/cut.py" 1793)]] ++
 [⟨(.type "frame"),none,.plain,L [(some (R 978)),(some (R 3)),(some (R 975)),none,(some (T "js.parse_simple" 1785)),none,(some (R 0))]⟩] ++
 fp 980 (fM 97 0) "body" "SimpleParser.body" 1799 800 2 3 181 ["self","is_end","found","has_octal","is_ahead","is_plain","made"] (T "js.parse_simple" 1785) ++
 fp 987 (fM 97 1) "at_end" "SimpleParser.at_end" 1812 817 2 3 181 ["self","is_end"] (T "js.parse_simple" 1785) ++
 fp 994 (fM 97 2) "element" "SimpleParser.element" 1820 820 1 3 181 ["self"] (T "js.parse_simple" 1785) ++
 fp 1001 (fM 97 3) "statement" "SimpleParser.statement" 1827 826 1 3 181 ["self","token","pending","later"] (T "js.parse_simple" 1785) ++
 fp 1008 (fM 97 4) "plain_expression" "SimpleParser.plain_expression" 1837 841 1 3 181 ["self","line","found"] (T "js.parse_simple" 1785) ++
 fp 1015 (fM 97 5) "word_statement" "SimpleParser.word_statement" 1846 847 3 3 181 ["self","word","pending","line","found"] (T "js.parse_simple" 1785) ++
 fp 1022 (fM 97 6) "large_statement" "SimpleParser.large_statement" 1857 868 4 3 181 ["self","word","line","pending"] (T "js.parse_simple" 1785) ++
 fp 1029 (fM 97 7) "block" "SimpleParser.block" 1867 871 1 3 181 ["self","found"] (T "js.parse_simple" 1785) ++
 fp 1036 (fM 97 8) "variables" "SimpleParser.variables" 1875 879 2 3 181 ["self","can_in","found","name"] (T "js.parse_simple" 1785) ++
 fp 1043 (fM 97 9) "labelled" "SimpleParser.labelled" 1885 887 2 3 181 ["self","pending","line","name","label","found"] (T "js.parse_simple" 1785) ++
 fp 1050 (fM 97 10) "jump" "SimpleParser.jump" 1897 899 3 3 181 ["self","word","line","name"] (T "js.parse_simple" 1785) ++
 fp 1057 (fM 97 11) "leaving" "SimpleParser.leaving" 1907 908 3 3 181 ["self","word","line","found"] (T "js.parse_simple" 1785) ++
 [oT [(T "is_strict" 1917),(T "pending" 1918)]] ++
 [oD [E P "__module__" 1794 (T "js.parse_simple" 1785),E P "__firstlineno__" 1798 (I 798 1797),E P "body" 1811 (R 986),E P "at_end" 1819 (R 993),E P "element" 1826 (R 1000),E P "statement" 1836 (R 1007),E P "plain_expression" 1845 (R 1014),E P "word_statement" 1856 (R 1021),E P "large_statement" 1866 (R 1028),E P "block" 1874 (R 1035),E P "variables" 1884 (R 1042),E P "labelled" 1896 (R 1049),E P "jump" 1906 (R 1056),E P "leaving" 1916 (R 1063),E P "__static_attributes__" 1919 (R 1064),E P "__doc__" 1920 .none] 2] ++
 [⟨(.type "type"),none,(.cls ⟨Str.ofString "SimpleParser",[(R 970)],[(R 1066),(R 970),(R 831),(.type "object")],1065,Str.ofString "SimpleParser",true,[],[(R 1120)],false,none,false⟩),L [(some (R 973)),none,(some (T "SimpleParser" 1787)),(some (T "SimpleParser" 1795)),(some (.builtin "object.__new__")),(some (.bool true))]⟩] ++
 [⟨(.type "super"),none,(.fields (L [(R 1066),(R 1066),(R 1066)])),L []⟩] ++
 [⟨(.type "builtin_function_or_method"),none,(.fields (L [(.builtin "object.__init_subclass__"),(R 1066)])),L []⟩] ++
 [oT [(R 1066)]] ++
 [⟨(.type "builtin_function_or_method"),none,(.fields (L [(.builtin "type.__prepare__"),(.type "type")])),L []⟩] ++
 [oD [E P "__module__" 1932 (T "js.parse_literal" 1923),E P "__qualname__" 1934 (T "LiteralParser" 1933),E P "__firstlineno__" 1936 (I 921 1935),E P "object" 1947 (R 1082),E P "entry" 1958 (R 1089),E P "entry_key" 1966 (R 1096),E P "function" 1981 (R 1103),E P "function_name" 1989 (R 1110),E P "parameters" 1997 (R 1117),E P "__static_attributes__" 2001 (R 1118)] 10] ++
 [oT []] ++
 [oF [(I 923 0),(I 4 0),(R 1081),(I 935 0),(I 4 0),(R 1088),(I 949 0),(I 4 0),(R 1095),(I 957 0),(I 4 0),(R 1102),(I 971 0),(I 4 0),(R 1109),(I 976 0),(I 4 0),(R 1116)]] ++
 [oC [(T "LiteralParser" 1927),(T "LiteralParser" 1928),(T "/claim/cut.py" 1929),(I 921 0),(I 0 0),(I 0 0),(I 0 0),(I 0 0),(R 1072),(.bool false),(I 181 0),(R 1073),.none,.none,.none,.none,(I 1930 0),(I 921 0),(T "/claim/cut.py" 1931)]] ++
 [⟨(.type "frame"),none,.plain,L [(some (R 1074)),(some (R 3)),(some (R 1071)),none,(some (T "js.parse_literal" 1923)),none,(some (R 0))]⟩] ++
 fp 1076 (fM 99 0) "object" "LiteralParser.object" 1937 923 1 3 181 ["self","line","found","known","entry"] (T "js.parse_literal" 1923) ++
 fp 1083 (fM 99 1) "entry" "LiteralParser.entry" 1948 935 1 3 181 ["self","word","later","key","made"] (T "js.parse_literal" 1923) ++
 fp 1090 (fM 99 2) "entry_key" "LiteralParser.entry_key" 1959 949 1 3 181 ["self","token"] (T "js.parse_literal" 1923) ++
 fp 1097 (fM 99 3) "function" "LiteralParser.function" 1967 957 2 3 181 ["self","sort","line","is_strict","jumps","name","params","found","made"] (T "js.parse_literal" 1923) ++
 fp 1104 (fM 99 4) "function_name" "LiteralParser.function_name" 1982 971 2 3 181 ["self","sort"] (T "js.parse_literal" 1923) ++
 fp 1111 (fM 99 5) "parameters" "LiteralParser.parameters" 1990 976 1 3 181 ["self","found"] (T "js.parse_literal" 1923) ++
 [oT [(T "depth" 1998),(T "is_strict" 1999),(T "jumps" 2000)]] ++
 [oD [E P "__module__" 1932 (T "js.parse_literal" 1923),E P "__firstlineno__" 1936 (I 921 1935),E P "object" 1947 (R 1082),E P "entry" 1958 (R 1089),E P "entry_key" 1966 (R 1096),E P "function" 1981 (R 1103),E P "function_name" 1989 (R 1110),E P "parameters" 1997 (R 1117),E P "__static_attributes__" 2001 (R 1118),E P "__doc__" 2002 .none] 2] ++
 [⟨(.type "type"),none,(.cls ⟨Str.ofString "LiteralParser",[(R 1066)],[(R 1120),(R 1066),(R 970),(R 831),(.type "object")],1119,Str.ofString "LiteralParser",true,[],[],false,none,false⟩),L [(some (R 1069)),none,(some (T "LiteralParser" 1925)),(some (T "LiteralParser" 1933)),(some (.builtin "object.__new__")),(some (.bool true))]⟩] ++
 [⟨(.type "super"),none,(.fields (L [(R 1120),(R 1120),(R 1120)])),L []⟩] ++
 [⟨(.type "builtin_function_or_method"),none,(.fields (L [(.builtin "object.__init_subclass__"),(R 1120)])),L []⟩] ++
 [oT [(T "do" 2007),(T "while" 2008),(T "for" 2009)]]
noncomputable def u12 (P:Params):List (Nat×(Obj→Obj)):=[(3,uW (oD (g9 P (T "law_nt0400_02" 2143)) 107)),
 (12,uF [(I 987 0),(I 0 0),(R 1129),(I 1106 0),(I 0 0),(R 1211),(I 1111 0),(I 0 0),(R 1218),(I 1116 0),(I 0 0),(R 1225),(I 1128 0),(I 0 0),(R 1232),(I 1145 0),(I 0 0),(R 1239),(I 1154 0),(I 0 0),(R 1246),(I 1160 0),(I 0 0),(R 1253),(I 1163 0),(I 0 0),(R 1260),(I 1167 0),(I 0 0),(R 1267),(I 1178 0),(I 0 0),(R 1274)]),
 (1120,uW (⟨(.type "type"),none,(.cls ⟨Str.ofString "LiteralParser",[(R 1066)],[(R 1120),(R 1066),(R 970),(R 831),(.type "object")],1119,Str.ofString "LiteralParser",true,[],[(R 1203)],false,none,false⟩),L [(some (R 1069)),none,(some (T "LiteralParser" 1925)),(some (T "LiteralParser" 1933)),(some (.builtin "object.__new__")),(some (.bool true))]⟩))]
noncomputable def d12 (P:Params):List Obj:=[oT [(R 1120)]] ++
 [⟨(.type "builtin_function_or_method"),none,(.fields (L [(.builtin "type.__prepare__"),(.type "type")])),L []⟩] ++
 [oD [E P "__module__" 2018 (T "js.parse_stmt" 2005),E P "__qualname__" 2020 (T "StmtParser" 2019),E P "__firstlineno__" 2022 (I 987 2021),E P "large_statement" 2032 (R 1137),E P "condition" 2040 (R 1144),E P "choice" 2051 (R 1151),E P "loop" 2064 (R 1158),E P "loop_body" 2072 (R 1165),E P "for_loop" 2085 (R 1172),E P "key_loop" 2095 (R 1179),E P "switch" 2107 (R 1186),E P "case_body" 2115 (R 1193),E P "attempt" 2127 (R 1200),E P "__static_attributes__" 2128 (R 1201)] 14] ++
 [oT []] ++
 [oF [(I 989 0),(I 4 0),(R 1136),(I 998 0),(I 4 0),(R 1143),(I 1004 0),(I 4 0),(R 1150),(I 1013 0),(I 4 0),(R 1157),(I 1028 0),(I 4 0),(R 1164),(I 1034 0),(I 4 0),(R 1171),(I 1055 0),(I 4 0),(R 1178),(I 1061 0),(I 4 0),(R 1185),(I 1083 0),(I 4 0),(R 1192),(I 1089 0),(I 4 0),(R 1199)]] ++
 [oC [(T "StmtParser" 2013),(T "StmtParser" 2014),(T "/claim/cut.py" 2015),(I 987 0),(I 0 0),(I 0 0),(I 0 0),(I 0 0),(R 1127),(.bool false),(I 181 0),(R 1128),.none,.none,.none,.none,(I 2016 0),(I 987 0),(T "/claim/cut.py" 2017)]] ++
 [⟨(.type "frame"),none,.plain,L [(some (R 1129)),(some (R 3)),(some (R 1126)),none,(some (T "js.parse_stmt" 2005)),none,(some (R 0))]⟩] ++
 fp 1131 (fM 102 0) "large_statement" "StmtParser.large_statement" 2023 989 4 3 181 ["self","word","line","pending"] (T "js.parse_stmt" 2005) ++
 fp 1138 (fM 102 1) "condition" "StmtParser.condition" 2033 998 1 3 181 ["self","found"] (T "js.parse_stmt" 2005) ++
 fp 1145 (fM 102 2) "choice" "StmtParser.choice" 2041 1004 2 3 181 ["self","line","test","then","other"] (T "js.parse_stmt" 2005) ++
 fp 1152 (fM 102 3) "loop" "StmtParser.loop" 2052 1013 4 3 181 ["self","word","line","pending","label","test","body"] (T "js.parse_stmt" 2005) ++
 fp 1159 (fM 102 4) "loop_body" "StmtParser.loop_body" 2065 1028 1 3 181 ["self","found"] (T "js.parse_stmt" 2005) ++
 fp 1166 (fM 102 5) "for_loop" "StmtParser.for_loop" 2073 1034 2 3 181 ["self","line","first","begin","name","test","step"] (T "js.parse_stmt" 2005) ++
 fp 1173 (fM 102 6) "key_loop" "StmtParser.key_loop" 2086 1055 3 3 181 ["self","line","target","walked"] (T "js.parse_stmt" 2005) ++
 fp 1180 (fM 102 7) "switch" "StmtParser.switch" 2096 1061 2 3 181 ["self","line","value","found","has_default","test"] (T "js.parse_stmt" 2005) ++
 fp 1187 (fM 102 8) "case_body" "StmtParser.case_body" 2108 1083 1 3 181 ["self","found"] (T "js.parse_stmt" 2005) ++
 fp 1194 (fM 102 9) "attempt" "StmtParser.attempt" 2116 1089 2 3 181 ["self","line","block","name","caught","last"] (T "js.parse_stmt" 2005) ++
 [oT []] ++
 [oD [E P "__module__" 2018 (T "js.parse_stmt" 2005),E P "__firstlineno__" 2022 (I 987 2021),E P "large_statement" 2032 (R 1137),E P "condition" 2040 (R 1144),E P "choice" 2051 (R 1151),E P "loop" 2064 (R 1158),E P "loop_body" 2072 (R 1165),E P "for_loop" 2085 (R 1172),E P "key_loop" 2095 (R 1179),E P "switch" 2107 (R 1186),E P "case_body" 2115 (R 1193),E P "attempt" 2127 (R 1200),E P "__static_attributes__" 2128 (R 1201),E P "__doc__" 2129 .none] 2] ++
 [⟨(.type "type"),none,(.cls ⟨Str.ofString "StmtParser",[(R 1120)],[(R 1203),(R 1120),(R 1066),(R 970),(R 831),(.type "object")],1202,Str.ofString "StmtParser",true,[],[],false,none,false⟩),L [(some (R 1124)),none,(some (T "StmtParser" 2011)),(some (T "StmtParser" 2019)),(some (.builtin "object.__new__")),(some (.bool true))]⟩] ++
 [⟨(.type "super"),none,(.fields (L [(R 1203),(R 1203),(R 1203)])),L []⟩] ++
 [⟨(.type "builtin_function_or_method"),none,(.fields (L [(.builtin "object.__init_subclass__"),(R 1203)])),L []⟩] ++
 fp 1206 (fT 104) "parse" "parse" 2134 1106 1 3 181 ["text","reader","body"] (T "js.parser" 2132) ++
 fp 1213 (fT 106) "_law_take" "_law_take" 2145 1111 2 3 181 ["box","wide"] (T "law_nt0400_02" 2143) ++
 fp 1220 (fT 107) "_law_values" "_law_values" 2153 1116 0 3 181 ["found"] (T "law_nt0400_02" 2143) ++
 fp 1227 (fT 108) "_law_rows" "_law_rows" 2160 1128 0 3 181 ["found"] (T "law_nt0400_02" 2143) ++
 fp 1234 (fT 109) "_law_strict" "_law_strict" 2167 1145 1 3 181 ["word","found"] (T "law_nt0400_02" 2143) ++
 fp 1241 (fT 110) "_law_line" "_law_line" 2175 1154 1 3 181 ["text","wrong"] (T "law_nt0400_02" 2143) ++
 fp 1248 (fT 111) "_law_heads" "_law_heads" 2183 1160 0 3 181 ["found"] (T "law_nt0400_02" 2143) ++
 fp 1255 (fT 112) "_law_rule_right" "_law_rule_right" 2190 1163 3 3 181 ["box","bad","good","ahead","behind","many"] (T "law_nt0400_02" 2143) ++
 fp 1262 (fT 113) "_law_strict_right" "_law_strict_right" 2202 1167 3 3 181 ["box","bad","good","head","is_strict","opener","closer","ahead","told","text"] (T "law_nt0400_02" 2143) ++
 fp 1269 (fT 114) "law" "law" 2218 1178 1 3 181 ["script","seed","one","box","word","rules","strict","turn","bad","good","texts","told"] (T "law_nt0400_02" 2143)
noncomputable def EJ (P:Params):List Obj:=[PySem.W.boot_o_0 P,PySem.W.boot_o_1 P,PySem.W.boot_o_2 P,PySem.W.boot_o_3 P,PySem.W.boot_o_4 P,PySem.W.boot_o_5 P,PySem.W.boot_o_6 P,PySem.W.boot_o_7 P,PySem.W.boot_o_8 P,PySem.W.boot_o_9 P,PySem.W.boot_o_10 P]
noncomputable def T0 (P:Params):BT:=fj .nil 0 (EJ P++d0 P)
noncomputable def T1 (P:Params):BT:=fj (fE (T0 P) (u1 P)) 15 (d1 P)
noncomputable def T2 (P:Params):BT:=fj (fE (T1 P) (u2 P)) 192 (d2 P)
noncomputable def T3 (P:Params):BT:=fj (fE (T2 P) (u3 P)) 288 (d3 P)
noncomputable def T4 (P:Params):BT:=fj (fE (T3 P) (u4 P)) 289 (d4 P)
noncomputable def T5 (P:Params):BT:=fj (fE (T4 P) (u5 P)) 347 (d5 P)
noncomputable def T6 (P:Params):BT:=fj (fE (T5 P) (u6 P)) 406 (d6 P)
noncomputable def T7 (P:Params):BT:=fj (fE (T6 P) (u7 P)) 461 (d7 P)
noncomputable def T8 (P:Params):BT:=fj (fE (T7 P) (u8 P)) 674 (d8 P)
noncomputable def T9 (P:Params):BT:=fj (fE (T8 P) (u9 P)) 836 (d9 P)
noncomputable def T10 (P:Params):BT:=fj (fE (T9 P) (u10 P)) 838 (d10 P)
noncomputable def T11 (P:Params):BT:=fj (fE (T10 P) (u11 P)) 973 (d11 P)
noncomputable def T12 (P:Params):BT:=fj (fE (T11 P) (u12 P)) 1124 (d12 P)
noncomputable def EV:Env:={ scope:=PW.main.scope,locals:=mainNs,globals:=mainNs,cells:=[],code:=.ref 13,frame:=some 14}
noncomputable abbrev CD:Code:=.body (behindTheImports PW) EV
noncomputable abbrev BF:List Frame:=[topFrame ⟨0,0,0,0⟩]
noncomputable def rH:Nat→Nat→List Stmt→List Stmt
 | 0,0,_=>[]
 | 0,m+1,a::r=>a::rH 0 m r
 | 0,_+1,[]=>[]
 | n+1,m,_::r=>rH n m r
 | _+1,_,[]=>[]
noncomputable def aX:Nat→List Stmt→List Stmt
 | 0,l=>l
 | n+1,_::r=>aX n r
 | _+1,[]=>[]
noncomputable abbrev sts (a m:Nat):List Stmt:=rH a m PW.main.body
noncomputable abbrev ann:Option Value:=some (.ref 6)
theorem Bv:@segRunT=@PySem.W.Fast.tw10110043849684766642:=PySem.W.Fast.te10110043849684766642
theorem qx:@treeTable=@PySem.W.Fast.tw14364793385576792824:=PySem.W.Fast.te14364793385576792824
noncomputable abbrev dQ:=@PySem.W.Fast.tw10110043849684766642 (@PySem.W.Fast.tw14364793385576792824)
noncomputable def S0 (P:Params) (os:OsState):SharedT:=⟨T0 P,15,{},#[],{},187,os⟩
noncomputable def S1 (P:Params) (os:OsState):SharedT:=⟨T1 P,192,{},#[],{},492,os⟩
noncomputable def S2 (P:Params) (os:OsState):SharedT:=⟨T2 P,288,{},#[],{},631,os⟩
noncomputable def S3 (P:Params) (os:OsState):SharedT:=⟨T3 P,289,{},#[],{},650,os⟩
noncomputable def S4 (P:Params) (os:OsState):SharedT:=⟨T4 P,347,{},#[],{},824,os⟩
noncomputable def S5 (P:Params) (os:OsState):SharedT:=⟨T5 P,406,{},#[],{},924,os⟩
noncomputable def S6 (P:Params) (os:OsState):SharedT:=⟨T6 P,461,{},#[],{},1017,os⟩
noncomputable def S7 (P:Params) (os:OsState):SharedT:=⟨T7 P,674,{},#[],{},1319,os⟩
noncomputable def S8 (P:Params) (os:OsState):SharedT:=⟨T8 P,836,{},#[],{},1519,os⟩
noncomputable def S9 (P:Params) (os:OsState):SharedT:=⟨T9 P,838,{},#[],{},1589,os⟩
noncomputable def S10 (P:Params) (os:OsState):SharedT:=⟨T10 P,973,{},#[],{},1787,os⟩
noncomputable def S11 (P:Params) (os:OsState):SharedT:=⟨T11 P,1124,{},#[],{},2011,os⟩
noncomputable def S12 (P:Params) (os:OsState):SharedT:=⟨T12 P,1276,{},#[],{},2236,os⟩
theorem q1 (w:World) (os:OsState):dQ PW w 11 ann 1 1138 (S0 w.params os) (piecesOf (sts 0 40) EV CD ⟨0,0,0,0⟩ BF)=some (.next,S1 w.params os,CD,⟨154,0,154,9⟩):=by kernel_rfl
theorem q2 (w:World) (os:OsState):dQ PW w 11 ann 1 417 (S1 w.params os) (piecesOf (sts 40 11) EV CD ⟨154,0,154,9⟩ BF)=some (.next,S2 w.params os,CD,⟨182,0,182,8⟩):=by kernel_rfl
noncomputable abbrev fw (w:World) (b:Bool):World:=World.withFollow w "special-get-raises" b
noncomputable abbrev tt3 (u:World) (P:Params) (os:OsState):=dQ PW u 11 ann 1 101 (S2 P os) (piecesOf (sts 51 1) EV CD ⟨182,0,182,8⟩ BF)
noncomputable abbrev rr3 (w:World) (P:Params) (os:OsState):type_of% (tt3 w P os):=some (.next,S3 P os,CD,⟨183,0,183,6⟩)
noncomputable abbrev Q3 (w:World):Prop:=∀ os,tt3 w w.params os=rr3 w w.params os
theorem q3_ (w:World) (os:OsState):(tt3 (fw w false) w.params os,tt3 (fw w true) w.params os)=(rr3 w w.params os,rr3 w w.params os):=by kernel_rfl
theorem q3 (w:World) (os:OsState):dQ PW w 11 ann 1 101 (S2 w.params os) (piecesOf (sts 51 1) EV CD ⟨182,0,182,8⟩ BF)=some (.next,S3 w.params os,CD,⟨183,0,183,6⟩):=byRow2 "special-get-raises" (P:=Q3) (fun w os=>(Prod.mk.inj (q3_ w os)).1) (fun w os=>(Prod.mk.inj (q3_ w os)).2) w os
theorem q4 (w:World) (os:OsState):dQ PW w 11 ann 1 390 (S3 w.params os) (piecesOf (sts 52 13) EV CD ⟨183,0,183,6⟩ BF)=some (.next,S4 w.params os,CD,⟨250,0,250,6⟩):=by kernel_rfl
noncomputable abbrev fv (w:World) (a b:Bool):World:=fw (World.withFollow w "comprehension-iter-twice" a) b
noncomputable abbrev tt5 (u:World) (P:Params) (os:OsState):=dQ PW u 11 ann 1 2768 (S4 P os) (piecesOf (sts 65 1) EV CD ⟨250,0,250,6⟩ BF)
noncomputable abbrev rr5 (w:World) (P:Params) (os:OsState):type_of% (tt5 w P os):=some (.next,S5 P os,CD,⟨251,0,251,11⟩)
noncomputable abbrev Q5 (w:World):Prop:=∀ os,tt5 w w.params os=rr5 w w.params os
theorem q5f (w:World) (os:OsState):(tt5 (fv w false false) w.params os,tt5 (fv w false true) w.params os)=(rr5 w w.params os,rr5 w w.params os):=by kernel_rfl
theorem q5t (w:World) (os:OsState):(tt5 (fv w true false) w.params os,tt5 (fv w true true) w.params os)=(rr5 w w.params os,rr5 w w.params os):=by kernel_rfl
theorem q5 (w:World) (os:OsState):dQ PW w 11 ann 1 2768 (S4 w.params os) (piecesOf (sts 65 1) EV CD ⟨250,0,250,6⟩ BF)=some (.next,S5 w.params os,CD,⟨251,0,251,11⟩):=byRow2 "special-get-raises" (P:=Q5) (byRow2 "comprehension-iter-twice" (P:=fun w=>Q5 (fw w false)) (fun w os=>(Prod.mk.inj (q5f w os)).1) (fun w os=>(Prod.mk.inj (q5t w os)).1)) (byRow2 "comprehension-iter-twice" (P:=fun w=>Q5 (fw w true)) (fun w os=>(Prod.mk.inj (q5f w os)).2) (fun w os=>(Prod.mk.inj (q5t w os)).2)) w os
theorem q6 (w:World) (os:OsState):dQ PW w 11 ann 1 544 (S5 w.params os) (piecesOf (sts 66 6) EV CD ⟨251,0,251,11⟩ BF)=some (.next,S6 w.params os,CD,⟨277,0,277,8⟩):=by kernel_rfl
theorem q7 (w:World) (os:OsState):dQ PW w 11 ann 1 1160 (S6 w.params os) (piecesOf (sts 72 14) EV CD ⟨277,0,277,8⟩ BF)=some (.next,S7 w.params os,CD,⟨529,0,531,89⟩):=by kernel_rfl
theorem q8 (w:World) (os:OsState):dQ PW w 11 ann 1 1027 (S7 w.params os) (piecesOf (sts 86 4) EV CD ⟨529,0,531,89⟩ BF)=some (.next,S8 w.params os,CD,⟨633,0,633,8⟩):=by kernel_rfl
noncomputable abbrev tt9 (u:World) (P:Params) (os:OsState):=dQ PW u 11 ann 1 399 (S8 P os) (piecesOf (sts 90 1) EV CD ⟨633,0,633,8⟩ BF)
noncomputable abbrev rr9 (w:World) (P:Params) (os:OsState):type_of% (tt9 w P os):=some (.next,S9 P os,CD,⟨634,0,634,8⟩)
noncomputable abbrev Q9 (w:World):Prop:=∀ os,tt9 w w.params os=rr9 w w.params os
theorem q9_ (w:World) (os:OsState):(tt9 (fw w false) w.params os,tt9 (fw w true) w.params os)=(rr9 w w.params os,rr9 w w.params os):=by kernel_rfl
theorem q9 (w:World) (os:OsState):dQ PW w 11 ann 1 399 (S8 w.params os) (piecesOf (sts 90 1) EV CD ⟨633,0,633,8⟩ BF)=some (.next,S9 w.params os,CD,⟨634,0,634,8⟩):=byRow2 "special-get-raises" (P:=Q9) (fun w os=>(Prod.mk.inj (q9_ w os)).1) (fun w os=>(Prod.mk.inj (q9_ w os)).2) w os
theorem q10 (w:World) (os:OsState):dQ PW w 11 ann 1 846 (S9 w.params os) (piecesOf (sts 91 6) EV CD ⟨634,0,634,8⟩ BF)=some (.next,S10 w.params os,CD,⟨797,0,797,8⟩):=by kernel_rfl
theorem q11 (w:World) (os:OsState):dQ PW w 11 ann 1 1114 (S10 w.params os) (piecesOf (sts 97 5) EV CD ⟨797,0,797,8⟩ BF)=some (.next,S11 w.params os,CD,⟨986,0,986,10⟩):=by kernel_rfl
theorem q12 (w:World) (os:OsState):dQ PW w 11 ann 1 938 (S11 w.params os) (piecesOf (sts 102 13) EV CD ⟨986,0,986,10⟩ BF)=some (.next,S12 w.params os,CD,⟨1178,0,1195,60⟩):=by kernel_rfl
end Hd
end
end
section
open PySem PySem.W PyProof.Rows
noncomputable section
namespace Hd
theorem Eu:@topGo=@PySem.W.Fast.tw15667345088766844465:=PySem.W.Fast.te15667345088766844465
theorem EZ (w:World) (os:OsState):@PySem.W.Fast.tw15667345088766844465 (@PySem.W.Fast.tw14364793385576792824) PW w 11 ann 12 ⟨boot_heap w.params,Array.mk [],boot_drawn,boot_toks,os⟩ (topStub PW)=some ((S0 w.params os).abs,⟨@PySem.W.Fast.tw11892475500146522536 (@PySem.W.Fast.tw14364793385576792824) CD,CD,⟨0,0,0,0⟩,BF⟩):=by kernel_rfl
theorem CR:@denote=@PySem.W.Fast.tw11892475500146522536:=PySem.W.Fast.te11892475500146522536
theorem D9 (w:World) (os:OsState):topGo treeTable PW w 11 ann 12 ⟨boot_heap w.params,Array.mk [],boot_drawn,boot_toks,os⟩ (topStub PW)=some ((S0 w.params os).abs,⟨denote treeTable CD,CD,⟨0,0,0,0⟩,BF⟩):=by rw [Eu,CR,qx];exact EZ w os
theorem BW (w:World) (os:OsState):segRun treeTable PW w 11 ann 1 1 (S0 w.params os).abs (blockOf (behindTheImports PW) EV CD ⟨0,0,0,0⟩ BF)=some (.next,(S0 w.params os).abs,CD,⟨0,0,0,0⟩):=by kernel_rfl
theorem E0 (w:World) (os:OsState):topRun treeTable PW w 11 ann 2 (S12 w.params os).abs ⟨doneF .next,CD,⟨1178,0,1195,60⟩,BF⟩=some (S12 w.params os).abs:=by kernel_rfl
theorem more {n N M:Nat}{w:World}{s s' r:SharedT}{l rest all:List Stmt}{pos p':Pos}(h:dQ PW w 11 ann 1 n s (piecesOf l EV CD pos BF)=some (.next,s',CD,p')) (e:all=l++rest) (hM:M=n+N)
  (k:topRun treeTable PW w 11 ann N s'.abs (restOf rest EV CD p' BF)=some r.abs):topRun treeTable PW w 11 ann M s.abs (restOf all EV CD pos BF)=some r.abs:=by
 subst e;subst hM;exact piece_app (segRun_of (by rw [Bv,qx];exact h)) k
theorem BG (w:World) (os:OsState):topRun treeTable PW w 11 ann 2 (S12 w.params os).abs (restOf [] EV CD ⟨1178,0,1195,60⟩ BF)=some (S12 w.params os).abs:=piece_nil (E0 w os)
theorem BH (w:World) (os:OsState):topRun treeTable PW w 11 ann 940 (S11 w.params os).abs (restOf (aX 102 PW.main.body) EV CD ⟨986,0,986,10⟩ BF)=some (S12 w.params os).abs:=more (n:=938) (N:=2) (q12 w os) (rest:=[]) (by kernel_rfl) (by decide) (BG w os)
theorem BI (w:World) (os:OsState):topRun treeTable PW w 11 ann 2054 (S10 w.params os).abs (restOf (aX 97 PW.main.body) EV CD ⟨797,0,797,8⟩ BF)=some (S12 w.params os).abs:=more (n:=1114) (N:=940) (q11 w os) (rest:=aX 102 PW.main.body) (by kernel_rfl) (by decide) (BH w os)
theorem BJ (w:World) (os:OsState):topRun treeTable PW w 11 ann 2900 (S9 w.params os).abs (restOf (aX 91 PW.main.body) EV CD ⟨634,0,634,8⟩ BF)=some (S12 w.params os).abs:=more (n:=846) (N:=2054) (q10 w os) (rest:=aX 97 PW.main.body) (by kernel_rfl) (by decide) (BI w os)
theorem DY (w:World) (os:OsState):topRun treeTable PW w 11 ann 3299 (S8 w.params os).abs (restOf (aX 90 PW.main.body) EV CD ⟨633,0,633,8⟩ BF)=some (S12 w.params os).abs:=more (n:=399) (N:=2900) (q9 w os) (rest:=aX 91 PW.main.body) (by kernel_rfl) (by decide) (BJ w os)
theorem DZ (w:World) (os:OsState):topRun treeTable PW w 11 ann 4326 (S7 w.params os).abs (restOf (aX 86 PW.main.body) EV CD ⟨529,0,531,89⟩ BF)=some (S12 w.params os).abs:=more (n:=1027) (N:=3299) (q8 w os) (rest:=aX 90 PW.main.body) (by kernel_rfl) (by decide) (DY w os)
theorem D1 (w:World) (os:OsState):topRun treeTable PW w 11 ann 5486 (S6 w.params os).abs (restOf (aX 72 PW.main.body) EV CD ⟨277,0,277,8⟩ BF)=some (S12 w.params os).abs:=more (n:=1160) (N:=4326) (q7 w os) (rest:=aX 86 PW.main.body) (by kernel_rfl) (by decide) (DZ w os)
theorem D2 (w:World) (os:OsState):topRun treeTable PW w 11 ann 6030 (S5 w.params os).abs (restOf (aX 66 PW.main.body) EV CD ⟨251,0,251,11⟩ BF)=some (S12 w.params os).abs:=more (n:=544) (N:=5486) (q6 w os) (rest:=aX 72 PW.main.body) (by kernel_rfl) (by decide) (D1 w os)
theorem D4 (w:World) (os:OsState):topRun treeTable PW w 11 ann 8798 (S4 w.params os).abs (restOf (aX 65 PW.main.body) EV CD ⟨250,0,250,6⟩ BF)=some (S12 w.params os).abs:=more (n:=2768) (N:=6030) (q5 w os) (rest:=aX 66 PW.main.body) (by kernel_rfl) (by decide) (D2 w os)
theorem D5 (w:World) (os:OsState):topRun treeTable PW w 11 ann 9188 (S3 w.params os).abs (restOf (aX 52 PW.main.body) EV CD ⟨183,0,183,6⟩ BF)=some (S12 w.params os).abs:=more (n:=390) (N:=8798) (q4 w os) (rest:=aX 65 PW.main.body) (by kernel_rfl) (by decide) (D4 w os)
theorem D6 (w:World) (os:OsState):topRun treeTable PW w 11 ann 9289 (S2 w.params os).abs (restOf (aX 51 PW.main.body) EV CD ⟨182,0,182,8⟩ BF)=some (S12 w.params os).abs:=more (n:=101) (N:=9188) (q3 w os) (rest:=aX 52 PW.main.body) (by kernel_rfl) (by decide) (D5 w os)
theorem D7 (w:World) (os:OsState):topRun treeTable PW w 11 ann 9706 (S1 w.params os).abs (restOf (aX 40 PW.main.body) EV CD ⟨154,0,154,9⟩ BF)=some (S12 w.params os).abs:=more (n:=417) (N:=9289) (q2 w os) (rest:=aX 51 PW.main.body) (by kernel_rfl) (by decide) (D6 w os)
theorem D8 (w:World) (os:OsState):topRun treeTable PW w 11 ann 10844 (S0 w.params os).abs (restOf (aX 0 PW.main.body) EV CD ⟨0,0,0,0⟩ BF)=some (S12 w.params os).abs:=more (n:=1138) (N:=9706) (q1 w os) (rest:=aX 40 PW.main.body) (by kernel_rfl) (by decide) (D7 w os)
theorem zM:behindTheImports PW=aX 0 PW.main.body:=by kernel_rfl
theorem EU (w:World) (os:OsState):topRun treeTable PW w 11 ann 10857 ⟨boot_heap w.params,Array.mk [],boot_drawn,boot_toks,os⟩ (topStub PW)=some (S12 w.params os).abs:=by
 have h:=D8 w os;rw [←zM] at h;have h2:=piece_block (BW w os) h;rw [show 1+10844=10845 from by decide] at h2;have h3:=go_top (D9 w os) h2;rw [show 12+10845=10857 from by decide] at h3;exact h3
noncomputable def Fd (P:Params):BT:=T12 P
noncomputable def fq (P:Params):Heap:=absHeap (Fd P) 1276 {}
noncomputable def vO:Stmt→List Str
 | .FunctionDef n _ _ _ _ _ _ _ _ _=>[n]
 | .ClassDef n _ _ _ _ _ _ _ _ _ _=>[n]
 | .Assign [.Name n _] _ _=>[n]
 | _=>[]
noncomputable def inS (l:List Str) (x:Str):Bool:=l.any fun y=>decide (y=x)
noncomputable def rF:List Str→List Str
 | []=>[]
 | x::r=>if inS r x then rF r else x::rF r
noncomputable def lV:Stmt:=fT 114
noncomputable def qv:Program:={ PW with main:={ PW.main with body:=[lV]}}
noncomputable def loose:List Str:=(rF (PW.main.body.flatMap vO)).filter fun n=>!decide (n=Str.ofString "law")&&!decide (n=Str.ofString "__name__")
theorem Ej (w:World) (os:OsState):(staticsOk (importedModules PW.main.body) (boot_heap w.params) (fq w.params)&&namesBound PW (fq w.params)&&gensDone ⟨fq w.params,#[],{},2236,os⟩&&laidKept (boot_heap w.params) (fq w.params))=true:=by kernel_rfl
theorem yI:@openSeen=@PySem.W.Fast.tw4187177175401517315:=PySem.W.Fast.te4187177175401517315
theorem Cb (w:World) (os:OsState):PySem.W.Fast.tw4187177175401517315 qv loose (importedModules PW.main.body) (fun ε =>true) true ⟨fq w.params,#[],{},2236,os⟩=openGood qv loose:=by kernel_rfl
theorem Ei (w:World) (os:OsState):openSeen qv loose (importedModules PW.main.body) (fun ε =>true) true ⟨fq w.params,#[],{},2236,os⟩=openGood qv loose:=by rw [yI];exact Cb w os
theorem size (w:World):((boot_heap w.params).isNs mainGlobals&&(Array.mk []:Array GenState).size==0,(boot_heap w.params).objs.size,(boot_heap w.params).nsMap mainGlobals "__annotations__")=(true,11,ann):=by kernel_rfl
theorem B2 (w:World):(importEnds treeTable (opening PW) w 600 (start (opening PW)).1 (start (opening PW)).2).map (fun s=>(s.heap,s.gens,s.drawn,s.toks))=some (boot_heap w.params,Array.mk [],boot_drawn,boot_toks):=by kernel_rfl
theorem Cl (s:Shared):fenceModules? PW s=some s:=by kernel_rfl
theorem Eb (w:World):(fencedOpening treeTable PW w (600+29400)).map (fun s=>(s.heap,s.gens,s.drawn,s.toks))=some (boot_heap w.params,Array.mk [],boot_drawn,boot_toks):=by
 obtain ⟨s,hs,hv⟩:=Option.map_eq_some_iff.mp (B2 w);have m:=importEnds_mono 29400 _ _ _ _ hs;unfold fencedOpening;rw [m];show ((fenceModules? PW s)).map _=_;rw [Cl s];exact congrArg some hv
theorem Dk (P:Params) (os:OsState):(S12 P os).abs=⟨fq P,#[],{},2236,os⟩:=by kernel_rfl
theorem ES (w:World) (os:OsState):topRun treeTable PW w 11 ann 10857 ⟨boot_heap w.params,Array.mk [],boot_drawn,boot_toks,os⟩ (topStub PW)=some ⟨fq w.params,#[],{},2236,os⟩:=by rw [EU w os,Dk]
theorem left:LeftO PW qv loose (fun ε =>true) (fun s=>s.heap) (fun w=>fq w.params) (600+29400) true :=
 LeftO.of_pieces (H₀:=boot_heap) (H₁:=fq) (gs₀:=Array.mk []) (gs₁ := #[]) (d₀:=boot_drawn) (d₁:={}) (k₀:=boot_toks) (k₁:=2236) (m₀:=11) (ann:=ann) (M:=10857)
  Eb size ES (by kernel_rfl) (fun w=>funext fun os=>by rw [Ej w os,Ei w os])
end Hd
end
end
section
open PySem PySem.W PyProof.Rows
noncomputable section
namespace Hd
noncomputable def cO:DefRec:=⟨Str.ofString "law",Bx lV,fU lV,ef lV,match lV with | .FunctionDef _ _ _ _ _ _ _ _ _ p=>p | _=>⟨0,0,0,0⟩⟩
noncomputable def YP (w:World) (h:Heap):Prop:=∀ b o,(fq w.params).get? b=some o→h.get? b=some o
theorem yW:((moduleNames RW.row.prog.main.body).isEmpty||lookedIntoSs (moduleNames RW.row.prog.main.body) RW.row.prog.main.body)=true:=by kernel_rfl
theorem yV:namesResolve RW.row.prog=true:=by kernel_rfl
theorem oV (n:Str) (h:readsOut RW.row.prog RW.row.prog.main.body n=false) (l:List Str):List.filter (readsOut RW.row.prog RW.row.prog.main.body) (n::l)=List.filter (readsOut RW.row.prog RW.row.prog.main.body) l:=List.filter_cons_of_neg (by rw [h];exact Bool.false_ne_true)
theorem yL:readsOut RW.row.prog RW.row.prog.main.body (Str.ofString "vars")=false:=by kernel_rfl
theorem yK:readsOut RW.row.prog RW.row.prog.main.body (Str.ofString "dir")=false:=by kernel_rfl
theorem yJ:readsOut RW.row.prog RW.row.prog.main.body (Str.ofString "locals")=false:=by kernel_rfl
theorem yM:(!(importedModules RW.row.prog.main.body).all cThrough.contains)=false:=by kernel_rfl
theorem yN:noRoadLSs { strict:=false,foot:=none,bare:=[]} RW.row.prog.main.body=true:=by kernel_rfl
theorem yU:noRoadLSs { strict:=!(importedModules RW.row.prog.main.body).all cThrough.contains,foot:=none,bare:=List.filter (readsOut RW.row.prog RW.row.prog.main.body) [Str.ofString "vars",Str.ofString "dir",Str.ofString "locals"]} RW.row.prog.main.body=true:=by rw [yM,oV _ yL,oV _ yK,oV _ yJ];exact yN
theorem yT:(namesMeet RW.row.prog RW.row.prog.main.body fun x n=>attrL n)=true:=by kernel_rfl
theorem yS:noClassBlock RW.prog RW.footing=true:=by kernel_rfl
theorem yR:noRoadLSs { strict:=true,foot:=some RW.bound',writes:=RW.writes,may:=RW.may} RW.footing=true:=by kernel_rfl
theorem yQ:RW.namesIt=true:=by kernel_rfl
theorem yP:(namesMeet RW.prog RW.above fun x n=>!RW.own.contains n)=true:=by kernel_rfl
theorem yO:(RW.bound'.all fun n=>!builtinNamed n||RW.about==[n]||!RW.reads n)=true:=by kernel_rfl
theorem ER:RW.wellSaid=true:=by
 unfold OpenLaw.wellSaid OpenRow.wellSaid OpenRow.partSaid looksOpen;simp only [Bool.and_eq_true]
 repeat' (with_reducible apply And.intro)
 all_goals (with_reducible first | exact yW | exact yV | exact yU | exact yT | exact yS | exact yR | exact yQ | exact yP | exact yO | kernel_rfl)
theorem E9:defOf qv RW.row.name=some (cO,[]):=by kernel_rfl
theorem hp:RW.row.prog.theDef RW.row.name=some (cO.params,cO.body,cO.scope):=by kernel_rfl
theorem hk:kwWritten? cO.params.kwonlyargs cO.params.kw_defaults=some []:=by kernel_rfl
theorem hok:(chainsOk qv&&opensWell RW.row.prog&&(frees RW.row.toRowW&&RW.row.within.isEmpty))=true:=by kernel_rfl
theorem Er:RW.row.prog.bare:=⟨rfl,rfl,rfl,rfl,rfl,by decide +kernel⟩
theorem E8:RW.row.toRowW.promised:=⟨[.list []],by decide +kernel,by decide +kernel⟩
noncomputable abbrev Walk:Prop:=WalkO qv loose (fun ε ε =>True) YP RW.row.toRowW cO [] fun f vs=>PySem.call f vs
theorem head (walk:Walk):RW.Holds :=
 holds_law ER fun k1=>holds_open (r:=RW.row) (q:=qv) (loose:=loose) (Xt:=fun ε =>true) (XP:=fun ε ε =>True) (Yf:=fun s=>s.heap) (Ya:=fun w=>fq w.params) (YP:=YP) (d:=cO) (kwd:=[]) (N:=600+29400)
  left (fun w s e b o h=>by rw [show s.heap=fq w.params from e];exact h) (fun w h h' y k b o e=>k b o (y b o e)) (fun ε ε =>trivial) (fun ε ε ε ε ε =>trivial)
  E9 hp hk (fun s ε =>recFacts_nil rfl) (by decide +kernel) k1 hok Er E8 walk
end Hd
end
end
section
open PySem PySem.W PySem.Calls PyProof.Rows
namespace Mine
section
variable {prog:Program}{w:World}{A:Around}{R:Result→Shared→Prop}{h:Heap}{g:Array GenState}{d:Drawn}{t:Nat}{os:OsState}
variable {nm q:Str}{C N:Addr}{bs bm:List Value}{hdct:Bool}{sn:List Str}{sub:List Value}{ab:Bool}{col:Option Bool}{dd:Option Addr}{k0 k1 k2 k3 k5:Option Value}{B newId initId:String}
noncomputable abbrev cQ (rest:List Value):Obj:={ cls:=.type "tuple",data:=.seq rest.toArray}
noncomputable abbrev dj (C t:Addr):Obj:={ cls:=.ref C,data:=.fields #[.ref t,.none,.none,.none,.bool false,.none]}
theorem wy (F:ExcBaseFacts B newId initId bm){rest:List Value}{fI:Addr}
  (hC:h.get? C=some (excClassObj nm q C N bs bm hdct sn sub ab col dd k0 k1 k2 k3 k5 newId)) (hi:Looks (model prog w) h (typeLookup (.ref C) "__init__") (some (.ref fI)))
  (hb:∀ self,Looks (model prog w) h (bindSpecial (.ref fI) self) (.ref fI,[self])) (hrest:rest.length≤sizeLine)
  (hq:codeAny (model prog w) (A.under (.builtin "type.__call__" ⟨.ref C::rest,[]⟩)) (.call (.ref fI) ⟨.ref (h.objs.size+1)::rest,[]⟩) (InitBack (h.objs.size+1) R) ⟨(h.push (cQ rest)).push (dj C h.objs.size),g,d,t,os⟩) :
  codeAny (model prog w) A (.call (.ref C) ⟨rest,[]⟩) R ⟨h,g,d,t,os⟩:=by
 have f1:=tc_lookup;have f2:=tc_bind (.ref C);have hT:(⟨h,g,d,t,os⟩:Shared).TypeIs (.ref C) "type" :=⟨_,hC,rfl⟩;refine codeAny_of_tree ?_;show wpAny _ _ (callAny (.ref C) _) _ _ _
 repeat (any_goals (first | assumption | with_reducible refine wpAny_loadPart_at hC ?_ | with_reducible refine wpAny_bind ?_ | with_reducible refine wpAny_pure ?_ | wp_delta | ((with_reducible apply wpAny_ite_false);focus (rfl;done)) | ((with_reducible apply wpAny_ite_true);focus (rfl;done)) | wp_step))
 refine ⟨rfl,?_⟩;refine codeAny_call_builtin_at (Code.quiet_builtin _ (by decide +kernel)) entry_typeCall (wpAny_check_type_call_sub hC ?_);unfold Builtin.«type.__call__»
 repeat (first | with_reducible refine wpAny_loadPart_at hC ?_ | with_reducible refine wpAny_madeBy_exc hC ?_ | with_reducible refine wpAny_bind ?_ | with_reducible refine wpAny_pure ?_ | wp_delta | ((with_reducible apply wpAny_ite_false);focus (rfl;done)) | ((with_reducible apply wpAny_ite_true);focus (rfl;done)) | wp_step)
 refine codeAny_call_builtin_code (Code.quiet_builtin _ F.quiet) (wpAny_check_new_sub F hC ?_);refine codeAny_exc_new_sub F hC ?_ hrest;show wpAny _ _ _ _ _ _;have k:∀ b o,h.get? b=some o→((h.push (cQ rest)).push (dj C h.objs.size)).get? b=some o:=fun b o e=>Heap.get?_push_of_some _ (Heap.get?_push_of_some _ e);have hC₁:=k _ _ hC;have hget:((h.push (cQ rest)).push (dj C h.objs.size)).get? (h.objs.size+1)=some (dj C h.objs.size):=by heap_get
 have hcC:(Value.ref C::bm).contains (.ref C)=true:=by simp
 unfold isInstance
 repeat (first | with_reducible refine wpAny_loadPart_at hget ?_ | (with_reducible refine wpAny_isSubtype_exc hC₁ ?_;rw [hcC]) | with_reducible refine wpAny_bind ?_ | with_reducible refine wpAny_pure ?_ | wp_delta | ((with_reducible apply wpAny_ite_false);focus (rfl;done)) | ((with_reducible apply wpAny_ite_true);focus (rfl;done)) | wp_step)
 show wpAny _ _ (isSubtype (.ref C) (.ref C)) _ _ _;refine wpAny_isSubtype_exc hC₁ ?_;rw [hcC];unfold callSpecial? specialOf
 repeat (first | with_reducible refine wpAny_loadPart_at hget ?_ | with_reducible refine wpAny_bind ?_ | with_reducible refine wpAny_pure ?_ | wp_delta | ((with_reducible apply wpAny_ite_false);focus (rfl;done)) | ((with_reducible apply wpAny_ite_true);focus (rfl;done)) | wp_step)
 refine (hi.keeps k).at ?_;refine wpAny_holding (wpAny_bind (((hb (.ref (h.objs.size+1))).keeps k).at ?_));refine wpAny_bind (wpAny_call ?_);refine codeAny_mono hq fun r s' z=>?_;rcases r with e | (v | _ | _ | _)<;>first | exact z | exact z.elim | skip
 obtain ⟨rfl,z⟩:=z
 wp_walk
 exact z
end
end Mine
end
section
open PySem PySem.W PySem.Calls PyProof.Rows
namespace Mine
noncomputable abbrev excO (C t dx:Addr) (T:Value):Obj:=⟨.ref C,some dx,.fields #[.ref t,T,.none,.none,.bool false,.none],#[]⟩
noncomputable def fm (h base:Heap) (e:Addr) (T fl:Value):Prop:=∃ b o ts,T=.ref b∧base.get? b=none∧b≠e∧h.get? b=some o∧o.data=.fields ts∧ts[3]? = some fl
structure Fly (base:Heap) (l:List Env) (e C t dx:Addr) (T:Value) (h:Heap):Prop where
 stays:base.StaysIn h
 fresh:base.get? e=none
 frames:h.FunFrames base l
 obj:h.get? e=some (excO C t dx T)
section
variable {M:Model}{A:Around}{E:Value→Shared→Prop}{s:Shared}{base:Heap}{env:Env}{outer:List Env}{L e C t dx:Addr}{T:Value}{Q:Unit→Shared→Prop}
theorem fY {h:Heap}{b:Addr}{f:Obj→Obj}{o:Obj}{ts:Array Value}(hb:h.get? b=some o) (hd:o.data=.fields ts):h.UpToSlots (h.update b f):=fun c x hc hn=>by
 have ne:c≠b:=fun z=>by subst z;rw [hb] at hc;cases hc;exact hn ts hd
 exact ⟨x.slots,(Heap.get?_update_ne _ _ _ _ ne).trans hc⟩
theorem fi {h h':Heap}{l:List Env}(k:h.UpToSlots h') (hl:h.FunFrames base l):h'.FunFrames base l:=hl.of_keeps fun b o ho hn=>by
 obtain ⟨sl,hs⟩:=k b o ho hn;exact ⟨_,hs,rfl⟩
theorem nS {head:Value}{hadNext:Bool}(hfr:A.frames=some (env::outer)) (hf:env.frame=some L) (x:Fly base (env::outer) e C t dx T s.heap)
  (hQ:∀ h' T',Fly base (env::outer) e C t dx T' h'→fm h' base e T' (rawInt L)→s.heap.UpToSlots h'→Q () { s with heap:=h'}) :
  wpAny M A (do let a ←frameOf env;let pl ←entryPlaceOf L hadNext;let b ←EntryCells.newEntry head a .none (rawInt L) .none pl;setField (.ref e) 1 b) Q E s:=by
 refine wpAny_bind (wpAny_frameOf_fun hfr x.frames hf fun h₁ k₁=>wpAny_bind (wpAny_entryPlaceOf fun pl hpl=>?_));unfold EntryCells.newEntry newFields;refine wpAny_bind (wpAny_newObj_type ?_ (hpl.sizeOk5 _ _ _ _ _));have out:∀ b o ts,s.heap.get? b=some o→o.data=.fields ts→b∉(env::outer).filterMap (·.frame):=fun b o ts hb hd hm=>by
  cb_eq;rcases x.frames.mem hm with ⟨_,o',ho',hn⟩;by_in;rw [hb] at ho';cases ho';exact hn ts hd
 have o₁:h₁.get? e=some (excO C t dx T):=(k₁.2.1 e (out _ _ _ x.obj rfl)).trans x.obj;have st₁:base.StaysIn h₁:=fun b o hb=>(k₁.2.1 b fun hm=>by rw [(x.frames.mem hm).1] at hb;cases hb).trans (x.stays b o hb)
 generalize ho:(Obj.mk (.type "traceback") none (.fields ([head,.ref L,.none,rawInt L,.none]++(if pl.isEmpty then List.replicate 6 Value.none else pl)).toArray) #[]:Obj)=tb
 have tbd:tb.data=.fields ([head,.ref L,.none,rawInt L,.none]++(if pl.isEmpty then List.replicate 6 Value.none else pl)).toArray:=by rw [←ho]
 have o₂:(h₁.push tb).get? e=some (excO C t dx T):=Heap.get?_push_of_some _ o₁;refine wpAny_setField o₂ rfl (show 1<6 by decide) (hQ _ (.ref h₁.objs.size) ⟨fun b o hb=>?_,x.fresh,?_,?_⟩ ⟨h₁.objs.size,tb,_,rfl,st₁.fresh,Nat.ne_of_gt (Heap.lt_size o₁),?_,tbd,by simp⟩ ?_)
 ·exact (Heap.get?_update_ne _ _ _ _ fun z=>by rw [z,x.fresh] at hb;cases hb).trans (Heap.get?_push_of_some _ (st₁ b o hb))
 ·refine fi (fY o₂ rfl) (x.frames.of_keeps fun b o hb ε =>?_);obtain ⟨sl,hs⟩:=k₁.2.2 b o hb;exact ⟨_,Heap.get?_push_of_some _ hs,rfl⟩
 ·exact Heap.get?_update_self _ o₂ rfl
 ·exact (Heap.get?_update_ne _ _ _ _ (Nat.ne_of_gt (Heap.lt_size o₁))).trans (Heap.get?_push_size _ (Obj.isFreed_of_fields tbd))
 ·refine Heap.UpToSlots.trans (fun b o hb ε =>?_) (fY o₂ rfl);obtain ⟨sl,hs⟩:=k₁.2.2 b o hb;exact ⟨sl,Heap.get?_push_of_some _ hs⟩
theorem fK (hfr:A.frames=some (env::outer)) (hf:env.frame=some L) (x:Fly base (env::outer) e C t dx T s.heap) (hT:T=.none∨fm s.heap base e T .none)
  (hQ:∀ h' T',Fly base (env::outer) e C t dx T' h'→fm h' base e T' (rawInt L)→s.heap.UpToSlots h'→Q () { s with heap:=h'}):wpAny M A (noteFrame (.ref e) env) Q E s:=by
 unfold noteFrame;simp only [hf];refine wpAny_bind (wpAny_field x.obj rfl (x:=T) rfl ?_);rcases hT with rfl | ⟨b,o,ts,rfl,hb,hbe,ho,hd,h3⟩
 ·rw [if_neg (by decide)];exact nS hfr hf x hQ
 ·rw [if_pos (show (Value.ref b != Value.none)=true from by simp)];refine wpAny_bind (wpAny_field ho hd h3 ?_);rw [if_neg (show ¬((Value.none==rawInt L)=true) from by simp [rawInt])];refine wpAny_bind (wpAny_setField ho hd (Array.getElem?_eq_some_iff.mp h3).1 ?_);have k:=fY (f:=Obj.mapFields (·.setIfInBounds 3 Value.none)) ho hd;refine nS (s:={ s with heap:=s.heap.update b (Obj.mapFields (·.setIfInBounds 3 Value.none))}) hfr hf (T:=.ref b) ⟨fun c o' hc=>?_,x.fresh,fi k x.frames,(Heap.get?_update_ne _ _ _ _ (Ne.symm hbe)).trans x.obj⟩
   fun h' T' a1 a2 a3=>hQ h' T' a1 a2 (k.trans a3)
  exact (Heap.get?_update_ne _ _ _ _ fun z=>by rw [z,hb] at hc;cases hc).trans (x.stays c o' hc)
theorem m6 {l:List Env}{fl:Value}(x:Fly base l e C t dx T s.heap) (hT:fm s.heap base e T fl)
  (hQ:∀ h',Fly base l e C t dx T h'→fm h' base e T .none→s.heap.UpToSlots h'→Q () { s with heap:=h'}):wpAny M A (setFlight (.ref e) none) Q E s:=by
 cb_eq;rcases hT with ⟨b,o,ts,rfl,hb,hbe,ho,hd,h3⟩;by_in;unfold setFlight;refine wpAny_bind (wpAny_field x.obj rfl (x:=.ref b) rfl ?_);rw [if_pos (show (Value.ref b != Value.none)=true from by simp)];have k:=fY (f:=Obj.mapFields (·.setIfInBounds 3 ((none:Option Addr).elim Value.none fun f=>rawInt f))) ho hd;have lt:=(Array.getElem?_eq_some_iff.mp h3).1;refine wpAny_setField ho hd lt (hQ _ ⟨fun c o' hc=>?_,x.fresh,fi k x.frames,(Heap.get?_update_ne _ _ _ _ (Ne.symm hbe)).trans x.obj⟩ ⟨b,_,_,rfl,hb,hbe,Heap.get?_update_self _ ho (Obj.isFreed_of_fields (Obj.data_mapFields hd _)),Obj.data_mapFields hd _,by simp [lt]⟩ k);exact (Heap.get?_update_ne _ _ _ _ fun z=>by rw [z,hb] at hc;cases hc).trans (x.stays c o' hc)
theorem zl {l:List Env}{fl:Value}{f:Option Addr}(x:Fly base l e C t dx T s.heap) (hT:fm s.heap base e T fl)
  (hQ:∀ h',Fly base l e C t dx T h'→fm h' base e T (f.elim .none fun f=>rawInt f)→s.heap.UpToSlots h'→Q () { s with heap:=h'}):wpAny M A (setFlight (.ref e) f) Q E s:=by
 cb_eq;rcases hT with ⟨b,o,ts,rfl,hb,hbe,ho,hd,h3⟩;by_in;unfold setFlight;refine wpAny_bind (wpAny_field x.obj rfl (x:=.ref b) rfl ?_);rw [if_pos (show (Value.ref b != Value.none)=true from by simp)];have k:=fY (f:=Obj.mapFields (·.setIfInBounds 3 (f.elim Value.none fun f=>rawInt f))) ho hd;have lt:=(Array.getElem?_eq_some_iff.mp h3).1;refine wpAny_setField ho hd lt (hQ _ ⟨fun c o' hc=>?_,x.fresh,fi k x.frames,(Heap.get?_update_ne _ _ _ _ (Ne.symm hbe)).trans x.obj⟩ ⟨b,_,_,rfl,hb,hbe,Heap.get?_update_self _ ho (Obj.isFreed_of_fields (Obj.data_mapFields hd _)),Obj.data_mapFields hd _,by simp [lt]⟩ k);exact (Heap.get?_update_ne _ _ _ _ fun z=>by rw [z,hb] at hc;cases hc).trans (x.stays c o' hc)
theorem jP {l:List Env}(hf:env.frame=some L) (x:Fly base l e C t dx T s.heap) (hT:fm s.heap base e T (rawInt L)) (h:Q () s):wpAny M A (noteFrame (.ref e) env) Q E s:=by
 cb_eq;rcases hT with ⟨b,o,ts,rfl,hb,hbe,ho,hd,h3⟩;by_in;unfold noteFrame;simp only [hf];refine wpAny_bind (wpAny_field x.obj rfl (x:=.ref b) rfl ?_);rw [if_pos (show (Value.ref b != Value.none)=true from by simp)];refine wpAny_bind (wpAny_field ho hd h3 ?_);rw [if_pos (by simp)];exact wpAny_pure h
theorem uz (hfr:A.frames=some (env::outer)) (hf:env.frame=some L) (x:Fly base (env::outer) e C t dx T s.heap) (hT:T=.none∨∃ fl,fm s.heap base e T fl∧(fl=.none∨fl=rawInt L))
  (hQ:∀ h' T',Fly base outer e C t dx T' h'→fm h' base e T' .none→s.heap.UpToSlots h'→Q () { s with heap:=h'}):wpAny M A (leaving env (.ref e)) Q E s:=by
 unfold leaving;have off:∀ h' T',Fly base (env::outer) e C t dx T' h'→fm h' base e T' (rawInt L)→s.heap.UpToSlots h'→wpAny M A (setFlight (.ref e) none) Q E { s with heap:=h'}:=fun h' T' x' t' k =>
  m6 (s:={ s with heap:=h'}) x' t' fun h'' x'' t'' k'=>hQ h'' T' ⟨x''.stays,x''.fresh,x''.frames.2.2,x''.obj⟩ t'' (k.trans k')
 rcases hT with hT | ⟨fl,hT,rfl | rfl⟩
 ·exact wpAny_bind (fK hfr hf x (.inl hT) off)
 ·exact wpAny_bind (fK hfr hf x (.inr hT) off)
 ·exact wpAny_bind (jP hf x hT (off s.heap T x hT (Heap.UpToSlots.refl _)))
end
end Mine
end
section
open PySem PySem.W PySem.Calls PyProof.Rows
open PySem.Builtin PySem.Builtin.ObjectAttr
namespace Mine
structure ExcCls (K:Frag) (C:Addr):Prop where
 cls:∃ cd,clsIn K C=some cd∧cd.mro=[.ref C,.type "Exception",.type "BaseException",.type "object"]∧cd.hasDict=true
 seta:findIn K (.ref C) "__setattr__" = some (some (.builtin "object.__setattr__"))
section
variable {prog:Program}{w:World}{A:Around}{K:Frag}{C x:Addr}{s:Shared}{R:Result→Shared→Prop}{E:Value→Shared→Prop}
theorem pI {ox:Obj}{od:Option Obj}{name:Str}{tk:Tok}{v:Value}(X:K.In s.heap) (I:InstAt s.heap x ox C od) (hc:ExcCls K C) (ht:takerIn K C name=some none)
  (h:∀ b,wpAny (model prog w) A.in1 (storeInOwnDict (.ref x) (.ref C) (.str name tk) name v b)
   (fun fin s'=>match fin with | .done f=>R (.ok f) s' | .again c'=>c'.quiet=true∧codeAny (model prog w) A c' R s') (fun e s'=>R (.error e) s') s) :
  codeAny (model prog w) A (.call (.builtin "object.__setattr__") ⟨[.ref x,.str name tk,v],[]⟩) R s:=by
 have SF:=PySem.F.store_object;cb_eq;rcases hc.cls with ⟨cd,hcd,hm,_⟩;by_in;have sub:Looks (model prog w) s.heap (isInstance (.ref x) (.type "object")) true:=I.type.andThen (looks_mroIn X (by unfold mroIn;rw [hcd,Option.bind_some,hm];rfl));refine codeAny_call_builtin SF.slot.plain SF.entry (@check_slot (model prog w) _ _ s "object.__setattr__" "object" "__setattr__" (.ref x) [.str name tk,v] [] _ SF.kind SF.split sub (SF.args (.ref x) (.str name tk) v) ?_);obtain ⟨attr,ha,hr⟩:=Option.bind_eq_some_iff.mp ht;have L2:Looks (model prog w) s.heap (mroOf (.ref C)) cd.mro:=(looks_clsIn X hcd).andThen .now;have L3:Looks (model prog w) s.heap (storeTaker? attr) none:=by
  cases attr with
  | none=>exact .now
  | some a =>
   obtain ⟨b,hb,hn⟩:=Option.map_eq_some_iff.mp hr
   cases b
   ·exact (looks_takesIn X hb).andThen .now
   ·cases hn
 have ref:refuseLoop (.ref x) "__setattr__" cd.mro=pure ():=by rw [hm,refuseLoop_ref];exact PySem.F.store_Exception.passes _
 rw [osa_eq,refuse_eq];refine wpAny_bind (wpAny_bind (I.type.here (wpAny_bind (L2.here ?_))));rw [ref];exact wpAny_pure (wpAny_bind (I.type.here (wpAny_bind ((looks_findIn X ha).here (wpAny_bind (L3.here (h _)))))))
set_option tactic.hygienic true in
theorem pL {d:Addr}{Es:List DictEntry}{n:Nat}{Es':List DictEntry}{n':Nat}{name:Str}{tk:Tok}{v:Value}(hd:s.heap.get? d=some (dictOf Es n)) (hl:(lookIn name (dictOf Es n)).isSome=true)
  (e:Obj.putName name (PyData.keyHash w.params name) (.str name s.toks) v (dictOf Es n)=dictOf Es' n') (hz:Es'.length≤1000)
  {P:Fin→Shared→Prop}(h:∀ h',h'.get? d=some (dictOf Es' n')→(∀ b,b≠d→h'.get? b=s.heap.get? b)→P (.done (.ret .none)) { s with heap:=h',toks:=s.toks+1}) :
  wpAny (model prog w) A (storeInDict d (.str name tk) name v) P E s:=by
 unfold storeInDict newKeyGuard nsSet;refine wpAny_bind (wpAny_pure (wpAny_bind (wpAny_bind (wpAny_bind (wpAny_askSetting (wpAny_pure (wpAny_bind (wpAny_mkText (wpAny_bind (wpAny_loadPart hd ?_))))))))));have c:(!Es.toArray.any (·.key.isStr name)&&Es.toArray.any (·.refKey))=false:=by
  rw [←Array.any_toList,←Array.any_toList];have hl:(match List.find? (fun x=>x.key.isStr name) Es.toArray.toList with | some e=>some (some e.val) | none=>if (Es.toArray.toList.any fun x=>x.refKey)=true then none else some none:Option (Option Value)).isSome=true:=hl
  split at hl
  ·rename_i en he;rw [List.any_eq_true.mpr ⟨en,List.mem_of_find?_eq_some he,List.find?_some he⟩];rfl
  ·split at hl
   ·cases hl
   ·rename_i z;rw [Bool.not_eq_true] at z;rw [z,Bool.and_false]
 dsimp only
 rw [aRefKeyMayBeTheName_at,c];have D':(s.heap.update d (Obj.putName name (PyData.keyHash w.params name) (.str name s.toks) v)).get? d=some (dictOf Es' n'):=by
  rw [Heap.get?_update_self _ hd (by rw [e];rfl),e]
 refine wpAny_updatePart hd ?_;refine wpAny_bind (wpAny_lookBehind D' (pastItsLine_dict (by rw [List.size_toArray,sizeLine_eq];omega)) ?_);exact wpAny_pure (h _ D' fun b hb=>Heap.get?_update_ne _ _ _ _ hb)
theorem uA {t:Addr}{name:Str}{tk:Tok}{v:Value}{b:Bool}(X:K.In s.heap) (hx:s.heap.get? x=some (dj C t)) (hc:ExcCls K C){P:Fin→Shared→Prop}
  (h:∀ h' dx,dx=s.heap.objs.size→h'.get? x=some (excO C t dx .none)→h'.get? dx=some (dictOf [⟨PyData.keyHash w.params name,.str name s.toks,v⟩] 1)→(∀ b o,b≠x→s.heap.get? b=some o→h'.get? b=some o)→P (.done (.ret .none)) { s with heap:=h',toks:=s.toks+1}) :
  wpAny (model prog w) A (storeInOwnDict (.ref x) (.ref C) (.str name tk) name v b) P E s:=by
 cb_eq;rcases hc.cls with ⟨cd,hcd,hm,hd⟩;by_in;refine wpAny_bind (wpAny_pure (wpAny_bind (wpAny_bind (wpAny_loadPart hx (wpAny_bind ((looks_clsIn X hcd).here ?_))))));rw [hd];show wpAny _ _ (do
  let d ←alloc emptyDict
  update x fun o=>{ o with dict:=some d}
  dictMade (.ref C) x d) _ _ s
 have hx₁:(s.heap.push emptyDict).get? x=some (dj C t):=Heap.get?_push_of_some _ hx;refine wpAny_bind (wpAny_alloc (wpAny_bind (wpAny_update hx₁ (wpAny_bind (wpAny_pure (wpAny_pure ?_))))));have ne:s.heap.objs.size≠x:=Nat.ne_of_gt (Heap.lt_size hx);have hx₂:((s.heap.push emptyDict).update x fun o=>{ o with dict:=some s.heap.objs.size}).get? x=some (excO C t s.heap.objs.size .none):=Heap.get?_update_self _ hx₁ rfl;have hd₂:((s.heap.push emptyDict).update x fun o=>{ o with dict:=some s.heap.objs.size}).get? s.heap.objs.size=some (dictOf [] 0):=(Heap.get?_update_ne _ _ _ _ ne).trans (Heap.get?_push_size _ rfl);show wpAny _ _ (storeInDict _ _ _ _) _ _ _;refine pL (s:={ s with heap:=(s.heap.push emptyDict).update x fun o=>{ o with dict:=some s.heap.objs.size}}) hd₂ rfl (Es':=[⟨PyData.keyHash w.params name,.str name s.toks,v⟩]) (n':=1) rfl (Nat.le_of_ble_eq_true rfl) fun h' a k=>?_;refine h h' _ rfl ((k _ (Ne.symm ne)).trans hx₂) a fun b o hb e=>?_;rw [k b (Nat.ne_of_lt (Heap.lt_size e)),Heap.get?_update_ne _ _ _ _ hb];exact Heap.get?_push_of_some _ e
theorem wO {t dx:Addr}{T:Value}{Es:List DictEntry}{n:Nat}{Es':List DictEntry}{n':Nat}{name:Str}{tk:Tok}{v:Value}{b:Bool}(X:K.In s.heap) (hx:s.heap.get? x=some (excO C t dx T)) (hd:s.heap.get? dx=some (dictOf Es n)) (hc:ExcCls K C)
  (hl:(lookIn name (dictOf Es n)).isSome=true) (e:Obj.putName name (PyData.keyHash w.params name) (.str name s.toks) v (dictOf Es n)=dictOf Es' n') (hz:Es'.length≤1000){P:Fin→Shared→Prop}
  (h:∀ h',h'.get? dx=some (dictOf Es' n')→(∀ b,b≠dx→h'.get? b=s.heap.get? b)→P (.done (.ret .none)) { s with heap:=h',toks:=s.toks+1}) :
  wpAny (model prog w) A (storeInOwnDict (.ref x) (.ref C) (.str name tk) name v b) P E s:=by
 cb_eq;rcases hc.cls with ⟨cd,hcd,hm,hh⟩;by_in;refine wpAny_bind (wpAny_pure (wpAny_bind (wpAny_bind (wpAny_loadPart hx (wpAny_bind ((looks_clsIn X hcd).here ?_))))));rw [hh];exact wpAny_pure (a:=some dx) (pL hd hl e hz h)
end
end Mine
end
section
open PySem PySem.W PySem.Calls PyProof.Rows
open PySem.Builtin PySem.Builtin.ObjectAttr
namespace Mine
structure p9 (K:Frag) (C:Addr):Prop extends ExcCls K C where
 ga:findIn K (.ref C) "__getattribute__" = some (some (.builtin "BaseException.__getattribute__"))
 gh:findIn K (.ref C) "__getattr__" = some none
theorem InstAt.excO' {h:Heap}{x C t dx:Addr}{T:Value}{od:Obj}(hx:h.get? x=some (excO C t dx T)) (hd:h.get? dx=some od):InstAt h x (excO C t dx T) C (some od):=⟨hx,rfl,rfl,hd⟩
theorem zp {prog:Program}{w:World}{A:Around}{K:Frag}{C x t dx:Addr}{T v:Value}{Es:List DictEntry}{n:Nat}{name:Str}{expr:Bool}{s:Shared}{E:Value→Shared→Prop}{Q:Value→Shared→Prop}(X:K.In s.heap) (Z:p9 K C)
  (hx:s.heap.get? x=some (excO C t dx T)) (hd:s.heap.get? dx=some (dictOf Es n)) (hf:findIn K (.ref C) name=some none) (hl:getL name Es=some (some v)) (hh:handedIn v=true) (h:Q v { s with toks:=s.toks+1}) :
  wpAny (model prog w) A (getAttr (.ref x) name expr) Q E s:=by
 cb_eq;rcases s with ⟨hp,g,dr,tk,os⟩;have I:=InstAt.excO' hx hd;rcases Z.cls with ⟨cd,hcd,hm,hdc⟩;by_in;have L0:=I.type (M:=model prog w);have L1:=looks_findIn (M:=model prog w) X Z.ga;have L2:=looks_findIn (M:=model prog w) X Z.gh;have hdi:hasDictIn K C=true:=by unfold hasDictIn;rw [hcd];exact hdc
 have L3:=looks_find (M:=model prog w) X I (findObj_own hdi hf rfl hl);have FB:=PySem.F.attrBase_Exception;have sub:Looks (model prog w) hp (isInstance (.ref x) (.type "BaseException")) true:=L0.andThen (looks_mroIn X (by unfold mroIn;rw [hcd,Option.bind_some,hm];rfl));unfold getAttr getAttrBy;refine wpAny_bind (wpAny_mkText (wpAny_holding (wpAny_bind (L0.at (wpAny_bind (L1.at ?_))))))
 dsimp only
 rw [if_neg (by simp)];unfold getAttrByItsOwn hookBefore;refine wpAny_bind (L2.at ?_);refine wpAny_bind (wpAny_attempt (wpAny_holding ?_));unfold callGetattribute boundAndCalled;rw [if_neg (by cases expr<;>simp [onTheHeap]),FB.ga.bind (.ref x)];refine wpAny_bind (wpAny_pure ?_);refine wpAny_call (codeAny_call_builtin FB.ga.plain PySem.F.entry_bexc_ga (@check_slot (model prog w) _ _ ⟨hp,g,dr,tk+1,os⟩ "BaseException.__getattribute__" "BaseException" "__getattribute__" (.ref x) [.str name tk] [] _ (by decide +kernel) (by decide +kernel) sub (PySem.F.args_bexc_ga (.ref x) (.str name tk)) ?_));refine wpAny_bind (wpAny_pure (wpAny_bind (wpAny_pure (wpAny_bind (L0.at (wpAny_bind (L3.at ?_)))))));refine wpAny_pure ?_;show wpAny _ _ (handedOut v) _ _ _;rw [handedOut_of hh];exact wpAny_pure h
end Mine
end
section
open PySem PySem.W PySem.Calls PyProof.Rows
namespace Mine
inductive V where
 | none | bool (b:Bool) | int (i:Int) | str (x:Str) | ref (a:Addr) | bi (id:String) | ty (n:String)
 | lst (vs:List V) | tup (vs:List V) | dct (ks:List String) (vs:List V) | obj (C:Addr) (ks:List String) (vs:List V)
 deriving Inhabited
inductive MO where
 | list (vs:List V)
 | inst (C:Addr) (ks:List String) (vs:List V)
 | raw (o:Obj)
 | dic (ks:List Str) (vs:List V)
noncomputable abbrev MH:=Addr→Option MO
noncomputable def MH.put (H:MH) (a:Addr) (o:MO):MH:=fun b=>if b=a then some o else H b
noncomputable def MH.drop (H:MH) (a:Addr):MH:=fun b=>if b=a then Option.none else H b
structure Box (p:Prop):Prop where
 go:p
structure Dx where
 n:Nat
 X:Nat→MH→Prop
noncomputable abbrev Fz:=Addr→Obj→Prop
noncomputable abbrev bq (Vs:List Value) (n:Nat):Obj:={ cls:=.type "list",data:=.seq Vs.toArray n}
noncomputable abbrev rG (Vs:List Value):Obj:={ cls:=.type "tuple",data:=.seq Vs.toArray 0}
noncomputable def fo (P:Params):List String→List DictEntry→Prop
 | [],[]=>True
 | k::ks,e::es=>(∃ t,e.key=.str (Str.ofString k) t)∧e.hash=PyData.keyHash P (Str.ofString k)∧fo P ks es
 | _,_=>False
noncomputable def xv (P:Params) (o:Obj) (kvs:List (Str×Value)):Prop:=∃ (prog:Program) (w:World),w.params=P∧o.IsDictOf (strKind prog w) kvs
theorem Pairs.to {prog prog':Program}{w w':World}:∀ {es:List DictEntry}{kvs:List (Str×Value)},Pairs (strKind prog' w') es kvs→Pairs (strKind prog w) es kvs:=by
 intro es kvs h
 induction h with
 | nil=>exact .nil
 | cons a b c ih=>exact .cons a b ih
theorem xv.to {P:Params}{o:Obj}{kvs:List (Str×Value)}{prog:Program}{w:World}(h:xv P o kvs) (hw:w.params=P):o.IsDictOf (strKind prog w) kvs:=by
 cb_eq;rcases h with ⟨prog',w',h1,es,ep,a,b,c,d,e⟩;by_in;refine ⟨es,ep,a,b,?_,Pairs.to d,e⟩;intro x hx;obtain ⟨k,k1,k2⟩:=c x hx;refine ⟨k,k1,k2.trans ?_⟩;show hashStr w' k=hashStr w k;unfold hashStr;rw [h1,hw]
mutual
noncomputable def VR (P:Params) (fz:Fz):V→Value→Prop
 | .none,v=>v=.none
 | .bool b,v=>v=.bool b
 | .int i,v=>∃ t,v=.int i t
 | .str x,v=>∃ t,v=.str x t
 | .ref a,v=>v=.ref a
 | .bi id,v=>v=.builtin id
 | .ty n,v=>v=.type n
 | .lst vs,v=>∃ a n Vs,v=.ref a∧fz a (bq Vs n)∧VRs P fz vs Vs
 | .tup vs,v=>∃ a Vs,v=.ref a∧fz a (rG Vs)∧VRs P fz vs Vs
 | .dct ks vs,v=>∃ a n Es,v=.ref a∧(a==sysModules)=false∧fz a (dictOf Es n)∧fo P ks Es∧VRs P fz vs (Es.map (·.val))
 | .obj C ks vs,v=>∃ x dx n Es,v=.ref x∧fz x (instObj C dx)∧fz dx (dictOf Es n)∧fo P ks Es∧VRs P fz vs (Es.map (·.val))
noncomputable def VRs (P:Params) (fz:Fz):List V→List Value→Prop
 | [],[]=>True
 | v::vs,U::Us=>VR P fz v U∧VRs P fz vs Us
 | _,_=>False
end
noncomputable abbrev Le (fz fz':Fz):Prop:=∀ a o,fz a o→fz' a o
mutual
theorem VR.mono {P:Params}{fz fz':Fz}(h:Le fz fz'):∀ {v:V}{U:Value},VR P fz v U→VR P fz' v U
 | .none,_,x=>x
 | .bool _,_,x=>x
 | .int _,_,x=>x
 | .str _,_,x=>x
 | .ref _,_,x=>x
 | .bi _,_,x=>x
 | .ty _,_,x=>x
 | .lst vs,_,x=>by
  cb_eq;rcases x with ⟨a,n,Vs,e,f,x⟩;by_in;exact Exists.intro a ⟨n,Vs,e,h _ _ f,VRs.mono h x⟩
 | .tup vs,_,x=>by
  cb_eq;rcases x with ⟨a,Vs,e,f,x⟩;by_in;exact Exists.intro a ⟨Vs,e,h _ _ f,VRs.mono h x⟩
 | .dct ks vs,_,x=>by
  cb_eq;rcases x with ⟨a,n,Es,e,z,f,k,x⟩;by_in;exact Exists.intro a ⟨n,Es,e,z,h _ _ f,k,VRs.mono h x⟩
 | .obj C ks vs,_,x=>by
  cb_eq;rcases x with ⟨a,dx,n,Es,e,f,g,k,x⟩;by_in;exact Exists.intro a ⟨dx,n,Es,e,h _ _ f,h _ _ g,k,VRs.mono h x⟩
theorem VRs.mono {P:Params}{fz fz':Fz}(h:Le fz fz'):∀ {vs:List V}{Us:List Value},VRs P fz vs Us→VRs P fz' vs Us
 | [],[],x=>x
 | v::vs,U::Us,⟨x,y⟩=>⟨VR.mono h x,VRs.mono h y⟩
 | [],_::_,x=>x
 | _::_,[],x=>x
end
theorem VRs.length {P:Params}{fz:Fz}:∀ {vs:List V}{Us:List Value},VRs P fz vs Us→vs.length=Us.length
 | [],[],_=>rfl
 | _::vs,_::Us,x=>by simp [VRs.length x.2]
 | [],_::_,x=>x.elim
 | _::_,[],x=>x.elim
theorem VRs.append {P:Params}{fz:Fz}:∀ {vs vs':List V}{Us Us':List Value},VRs P fz vs Us→VRs P fz vs' Us'→VRs P fz (vs++vs') (Us++Us')
 | [],_,[],_,_,y=>y
 | _::vs,_,_::Us,_,x,y=>⟨x.1,x.2.append y⟩
 | [],_,_::_,_,x,_=>x.elim
 | _::_,_,[],_,x,_=>x.elim
theorem VRs.get {P:Params}{fz:Fz}:∀ {vs:List V}{Us:List Value}{i:Nat}{v:V},VRs P fz vs Us→vs[i]? = some v→∃ U,Us[i]? = some U∧VR P fz v U
 | [],[],_,_,_,e=>by simp at e
 | v::vs,U::Us,0,_,x,e=>by simp at e;subst e;exact ⟨U,rfl,x.1⟩
 | v::vs,U::Us,i+1,_,x,e=>by
  simp at e;obtain ⟨U',a,b⟩:=VRs.get x.2 e;exact ⟨U',by simpa using a,b⟩
 | [],_::_,_,_,x,_=>x.elim
 | _::_,[],_,_,x,_=>x.elim
noncomputable abbrev Led:=List (Addr×Obj)
noncomputable abbrev Own:=Addr→Option Addr
noncomputable def gL (B:Fz) (news:Led) (ow:Own):Fz:=fun a o=>B a o∨((a,o)∈news∧ow a=none)
noncomputable def cz (P:Params) (fz:Fz) (news:Led) (ow:Own) (a:Addr):MO→Prop
 | .list vs=>ow a=some a∧∃ n Vs,(a,bq Vs n)∈news∧VRs P fz vs Vs
 | .inst C ks vs=>ow a=some a∧∃ dx n Es,ow dx=some a∧(a,instObj C dx)∈news∧(dx,dictOf Es n)∈news∧fo P ks Es∧VRs P fz vs (Es.map (·.val))
 | .raw o=>ow a=some a∧(a,o)∈news
 | .dic ks vs=>ow a=some a∧(a==sysModules)=false∧∃ o kvs,(a,o)∈news∧xv P o kvs∧kvs.map (·.1)=ks∧VRs P fz vs (kvs.map (·.2))
noncomputable def Dy (P:Params) (B:Fz) (news:Led) (ow:Own) (H:MH):Prop:=∀ a o,H a=some o→cz P (gL B news ow) news ow a o
noncomputable abbrev Loc:=List (String×V)
noncomputable def dR:Loc→String→Option V
 | [],_=>Option.none
 | (k,v)::r,x=>if k==x then some v else dR r x
theorem f6 (k:String) (v:V) (r:Loc) (x:String):dR ((k,v)::r) x=if k==x then some v else dR r x:=rfl
noncomputable def ci:Loc→String→V→Loc
 | [],x,v=>[(x,v)]
 | (k,u)::r,x,v=>if k==x then (k,v)::r else (k,u)::ci r x v
theorem Ca (k:String) (u:V) (r:Loc) (x:String) (v:V):ci ((k,u)::r) x v=if k==x then (k,v)::r else (k,u)::ci r x v:=rfl
noncomputable def fO (P:Params) (fz:Fz) (l:Loc) (m:Str→Option Value):Prop:=∀ x v,dR l x=some v→∃ U,m (Str.ofString x)=some U∧VR P fz v U
structure Wd where
 prog:Program
 w:World
 K:Frag
 p:Program
 loose:List Str
 mg:Str→Option Value
 mb:Str→Option Value
 mean:ExcName→Option Value
 /-- what lies at the base besides: the script -/
 ext:Led
 /-- the class of what may be raised -/
 xc:Addr
noncomputable def Wd.B (W:Wd):Fz:=fun a o=>W.K.lookup a=some o∨(a,o)∈W.ext
structure FC where
 A₀:Around
 A:Around
 base:Heap
 /-- the base and the frames above,as they were when this frame began -/
 g0:Heap
 outer:List Env
 L:Addr
 a:Addr
 cn:Str
 cs:Scope
 cd:Value
 /-- what is asked when something is raised;the pE heap and the world that the frame's try began with -/
 E:Value→Shared→Prop
 fz0:Fz
 os0:OsState
noncomputable abbrev FC.env (C:FC):Env:=envOf C.cn C.cs C.L C.a C.cd
noncomputable abbrev FC.fs (C:FC):List Addr:=C.outer.filterMap (·.frame)
structure Gnd (C:FC) (g:Heap):Prop where
 turn:KtsTurn C.fs C.g0 g
 below:Below C.A₀ C.base C.outer g
 dicts:KtsDicts C.fs g
structure Ac (W:Wd) (C:FC) (X:Nat→MH→Prop) (e:Addr) (s:Shared) (B:Heap) (t dx:Addr) (T:Value) (n:Nat) (H:MH) (news:Led) (ow:Own):Prop where
 stays:C.base.StaysIn B
 fly:Fly B (C.env::C.outer) e W.xc t dx T s.heap
 tb:T=.none∨∃ fl,fm s.heap B e T fl∧(fl=.none∨fl=rawInt C.L)
 nw:∀ q∈news,B.get? q.1=some q.2∧C.base.get? q.1=none
 dict:∃ Es k tk,B.get? dx=some (dictOf Es k)∧getL (Str.ofString "line") Es=some (some (.int n tk))
 x:X n H
 hr:Dy W.w.params W.B news ow H
 nd:(news.map (·.1)).Nodup
 gens:s.gens = #[]
 os:s.os=C.os0
 le:Le C.fz0 (gL W.B news ow)
 fr:∃ g m G,Gnd C g∧Fr g C.L G m∧(∀ b o,G.get? b=some o→b∉(C.env::C.outer).filterMap (·.frame)→B.get? b=some o)∧G.UpToSlots s.heap∧∀ q∈news,g.get? q.1=none
noncomputable def mw (W:Wd) (C:FC) (X:Nat→MH→Prop) (e:Addr) (s:Shared):Prop:=∃ B t dx T n H news ow,Ac W C X e s B t dx T n H news ow
structure FC.Ok (W:Wd) (C:FC) (d:Dx):Prop where
 frames:C.A.frames=some (C.env::C.outer)
 handled:C.A.handled=none
 kin0:W.K.In C.base
 ext0:∀ p∈W.ext,C.base.get? p.1=some p.2
 top0:Top W.p W.loose W.mean W.mg W.mb C.base
 fn:C.cs.kind=.function
 room:C.A.depth+2*d.n+20≤1000
 units:C.A.units+20*d.n+60≤9900
 exc:∀ e s,mw W C d.X e s→C.E (.ref e) s
theorem FC.Ok.kin {W:Wd}{C:FC}{d:Dx}{g:Heap}(ho:C.Ok W d) (G:Gnd C g):W.K.In g:=ho.kin0.keeps G.below.stays
theorem FC.Ok.ext {W:Wd}{C:FC}{d:Dx}{g:Heap}(ho:C.Ok W d) (G:Gnd C g):∀ p∈W.ext,g.get? p.1=some p.2:=fun p hp=>G.below.stays _ _ (ho.ext0 p hp)
theorem FC.Ok.topF {W:Wd}{C:FC}{d:Dx}{g:Heap}(ho:C.Ok W d) (G:Gnd C g):Top W.p W.loose W.mean W.mg W.mb g:=ho.top0.keeps G.below.stays
theorem FC.Ok.top {W:Wd}{C:FC}{d:Dx}{g:Heap}(ho:C.Ok W d) (G:Gnd C g):TopRead W.p W.loose W.mg W.mb g:=topRead_of (ho.topF G)
structure St (W:Wd) (C:FC) (l:Loc) (H:MH) (news:Led) (ow:Own) (s:Shared):Prop where
 fr:∃ g m,Gnd C g∧Fr g C.L s.heap m∧News g C.L s.heap news∧fO W.w.params (gL W.B news ow) l m
 hr:Dy W.w.params W.B news ow H
 nd:(news.map (·.1)).Nodup
 gens:s.gens = #[]
 le0:Le C.fz0 (gL W.B news ow)
 os0:s.os=C.os0
theorem jO {A A':Heap→Prop}{B:Heap→(Str→Option Value)→Prop}{N:Heap→Prop}{L L':(Str→Option Value)→Prop}(h:∃ g m,A g∧B g m∧N g∧L m) (f:∀ g,A g→A' g) (k:∀ m,L m→L' m):∃ g m,A' g∧B g m∧N g∧L' m :=
 let ⟨g,m,a,b,n,l⟩:=h
 ⟨g,m,f g a,b,n,k m l⟩
theorem St.nw {W:Wd}{C:FC}{l:Loc}{H:MH}{news:Led}{ow:Own}{s:Shared}(h:St W C l H news ow s):News C.base C.L s.heap news:=fun p hp=>by
 cb_eq;rcases h.fr with ⟨g,m,G,F,N,lr⟩;by_in;exact ⟨(N p hp).1,(N p hp).2.1,fresh_of_stays G.below.stays (N p hp).2.2⟩
noncomputable abbrev Md (W:Wd):Model:=model W.prog W.w
noncomputable abbrev fzS (W:Wd) (news:Led) (ow:Own):Fz:=gL W.B news ow
noncomputable abbrev VRw (W:Wd) (fz:Fz) (v:V) (U:Value):Prop:=VR W.w.params fz v U
noncomputable abbrev gr (W:Wd) (fz:Fz) (v:List V) (U:List Value):Prop:=VRs W.w.params fz v U
noncomputable abbrev dG (W:Wd) (C:FC) (l:Loc) (fz:Fz) (os:OsState) (Q:V→MH→Prop) (Qr:Value→Shared→Prop):Prop :=
 ∀ v U H' news' ow' s',St W C l H' news' ow' s'→Le fz (fzS W news' ow')→s'.os=os→VRw W (fzS W news' ow') v U→Q v H'→Qr U s'
noncomputable def EV (W:Wd) (d:Dx) (cs:Scope) (e:Expr) (l:Loc) (H:MH) (Q:V→MH→Prop):Prop :=
 Box (∀ (C:FC) (news:Led) (ow:Own) (s:Shared) (Qr:Value→Shared→Prop),C.cs=cs→C.Ok W d→St W C l H news ow s →
  dG W C l (fzS W news ow) s.os Q Qr→wpAny (Md W) C.A (eval e C.env) Qr C.E s)
noncomputable def T1 (W:Wd) (d:Dx) (cs:Scope) (l:Loc) (H:MH) (a:V) (t:Value→Sem Value) (Q:V→MH→Prop):Prop :=
 Box (∀ (C:FC) (news:Led) (ow:Own) (s:Shared) (Qr:Value→Shared→Prop) (U:Value),C.cs=cs→C.Ok W d→St W C l H news ow s→VRw W (fzS W news ow) a U →
  dG W C l (fzS W news ow) s.os Q Qr→wpAny (Md W) C.A (t U) Qr C.E s)
noncomputable def T2 (W:Wd) (d:Dx) (cs:Scope) (l:Loc) (H:MH) (a b:V) (t:Value→Value→Sem Value) (Q:V→MH→Prop):Prop :=
 Box (∀ (C:FC) (news:Led) (ow:Own) (s:Shared) (Qr:Value→Shared→Prop) (U U':Value),C.cs=cs→C.Ok W d→St W C l H news ow s→VRw W (fzS W news ow) a U→VRw W (fzS W news ow) b U' →
  dG W C l (fzS W news ow) s.os Q Qr→wpAny (Md W) C.A (t U U') Qr C.E s)
noncomputable def ET (W:Wd) (d:Dx) (cs:Scope) (e:Expr) (l:Loc) (H:MH) (Q:Bool→MH→Prop):Prop :=
 Box (∀ (C:FC) (news:Led) (ow:Own) (s:Shared) (Qr:Bool→Shared→Prop),C.cs=cs→C.Ok W d→St W C l H news ow s →
  (∀ b H' news' ow' s',St W C l H' news' ow' s'→Le (fzS W news ow) (fzS W news' ow')→s'.os=s.os→Q b H'→Qr b s')→wpAny (Md W) C.A (isTrue e C.env (eval e C.env)) Qr C.E s)
inductive Fl where
 | next | brk | cont
 | ret (v:V)
noncomputable def FlR (W:Wd) (fz:Fz):Fl→Flow→Prop
 | .next,f=>f=.next
 | .brk,f=>f=.brk
 | .cont,f=>f=.cont
 | .ret v,f=>∃ U,f=.ret U∧VRw W fz v U
noncomputable abbrev tw (W:Wd) (C:FC) (fz:Fz) (os:OsState) (Q:Fl→Loc→MH→Prop) (Qr:Flow→Shared→Prop):Prop :=
 ∀ f F l' H' news' ow' s',St W C l' H' news' ow' s'→Le fz (fzS W news' ow')→s'.os=os→FlR W (fzS W news' ow') f F→Q f l' H'→Qr F s'
noncomputable def EX (W:Wd) (d:Dx) (cs:Scope) (st:Stmt) (l:Loc) (H:MH) (Q:Fl→Loc→MH→Prop):Prop :=
 Box (∀ (C:FC) (news:Led) (ow:Own) (s:Shared) (Qr:Flow→Shared→Prop),C.cs=cs→C.Ok W d→St W C l H news ow s →
  tw W C (fzS W news ow) s.os Q Qr→wpAny (Md W) C.A (exec st C.env) Qr C.E s)
noncomputable def EXS (W:Wd) (d:Dx) (cs:Scope) (b:List Stmt) (l:Loc) (H:MH) (Q:Fl→Loc→MH→Prop):Prop :=
 Box (∀ (C:FC) (news:Led) (ow:Own) (s:Shared) (Qr:Flow→Shared→Prop),C.cs=cs→C.Ok W d→St W C l H news ow s →
  tw W C (fzS W news ow) s.os Q Qr→wpAny (Md W) C.A (execs b C.env) Qr C.E s)
theorem Le.refl (fz:Fz):Le fz fz:=fun ε ε h=>h
theorem Le.trans {a b c:Fz}(x:Le a b) (y:Le b c):Le a c:=fun ε ε h=>y _ _ (x _ _ h)
theorem j4 {P:Params}{fz:Fz}:VR P fz .none .none:=rfl
theorem aM {P:Params}{fz:Fz}{b:Bool}:VR P fz (.bool b) (.bool b):=rfl
theorem aZ {P:Params}{fz:Fz}{i:Int}{t:Nat}:VR P fz (.int i) (.int i t):=Exists.intro _ rfl
theorem bN {P:Params}{fz:Fz}{x:Str}{t:Nat}:VR P fz (.str x) (.str x t):=Exists.intro _ rfl
theorem di {P:Params}{fz:Fz}{a:Addr}:VR P fz (.ref a) (.ref a):=rfl
theorem iY {P:Params}{fz:Fz}{U:Value}(h:VR P fz .none U):U=.none:=h
theorem bk {P:Params}{fz:Fz}{b:Bool}{U:Value}(h:VR P fz (.bool b) U):U=.bool b:=h
theorem aw {P:Params}{fz:Fz}{i:Int}{U:Value}(h:VR P fz (.int i) U):∃ t,U=.int i t:=h
theorem aD {P:Params}{fz:Fz}{x:Str}{U:Value}(h:VR P fz (.str x) U):∃ t,U=.str x t:=h
theorem aP {P:Params}{fz:Fz}{a:Addr}{U:Value}(h:VR P fz (.ref a) U):U=.ref a:=h
section
variable {W:Wd}{d:Dx}{cs:Scope}{l:Loc}{H:MH}
theorem St.toks {C:FC}{news:Led}{ow:Own}{s:Shared}(h:St W C l H news ow s){t:Nat}:St W C l H news ow { s with toks:=t}:=⟨h.fr,h.hr,h.nd,h.gens,h.le0,h.os0⟩
theorem EV.mono {e:Expr}{Q Q':V→MH→Prop}(h:EV W d cs e l H Q) (k:∀ v H',Q v H'→Q' v H'):EV W d cs e l H Q' :=
 Box.mk fun C news ow s Qr hc ho hs hk=>h.go C news ow s Qr hc ho hs fun v U H' news' ow' s' a b c d q=>hk v U H' news' ow' s' a b c d (k v H' q)
theorem aj {x:String}{pos:Pos}{v:V}{Q:V→MH→Prop}(hv:dR l x=some v) (hq:Q v H) (hl:cs.names.lookup (Str.ofString x)=some .local) (hd:(Str.ofString x==("__debug__" : Str))=false) :
  EV W d cs (.Name (Str.ofString x) pos) l H Q:=by
 refine Box.mk ?_;intro C news ow s Qr hc ho hs hk;subst hc;cb_eq;rcases hs.fr with ⟨g,m,G,F,N,lr⟩;rcases lr x v hv with ⟨U,hm,vr⟩;by_in;exact ld F hm (hk v U H news ow s hs (Le.refl _) rfl vr hq) ho.fn hl hd
theorem aL {i:Int}{k:Nat}{pos:Pos}{Q:V→MH→Prop}(hq:Q (.int i) H):EV W d cs (.Constant (.int i) k pos) l H Q:=by
 refine Box.mk ?_;intro C news ow s Qr hc ho hs hk;exact wpAny_Constant_int (hk _ _ H news ow _ hs.toks (Le.refl _) rfl aZ hq)
theorem vD {x:Str}{k:Nat}{pos:Pos}{Q:V→MH→Prop}(hq:Q (.str x) H):EV W d cs (.Constant (.str x) k pos) l H Q:=by
 refine Box.mk ?_;intro C news ow s Qr hc ho hs hk;show wpAny _ _ (mkText x) _ _ _;exact wpAny_mkText (hk _ _ H news ow _ hs.toks (Le.refl _) rfl bN hq)
theorem Ak {k:Nat}{pos:Pos}{Q:V→MH→Prop}(hq:Q .none H):EV W d cs (.Constant .none k pos) l H Q:=by
 refine Box.mk ?_;intro C news ow s Qr hc ho hs hk;exact wpAny_pure (hk _ _ H news ow _ hs (Le.refl _) rfl j4 hq)
theorem Aq {b:Bool}{k:Nat}{pos:Pos}{Q:V→MH→Prop}(hq:Q (.bool b) H):EV W d cs (.Constant (.bool b) k pos) l H Q:=by
 refine Box.mk ?_;intro C news ow s Qr hc ho hs hk;exact wpAny_pure (hk _ _ H news ow _ hs (Le.refl _) rfl aM hq)
theorem aK {op:Operator}{e f:Expr}{pos:Pos}{Q:V→MH→Prop}
  (h:EV W d cs e l H fun a H₁=>EV W d cs f l H₁ fun b H₂=>T2 W d cs l H₂ a b (binaryOp op) Q):EV W d cs (.BinOp e op f pos) l H Q:=by
 refine Box.mk ?_;intro C news ow s Qr hc ho hs hk;refine wpAny_BinOp (h.go C news ow s _ hc ho hs ?_);intro a U₁ H₁ n₁ o₁ s₁ hs₁ le₁ os₁ vr₁ h₁;refine h₁.go C n₁ o₁ s₁ _ hc ho hs₁ ?_;intro b U₂ H₂ n₂ o₂ s₂ hs₂ le₂ os₂ vr₂ h₂;exact h₂.go C n₂ o₂ s₂ Qr U₁ U₂ hc ho hs₂ (vr₁.mono le₂) vr₂ fun v U H' n' o' s' a b c d q=>hk v U H' n' o' s' a (Le.trans le₁ (Le.trans le₂ b)) (c.trans (os₂.trans os₁)) d q
theorem iP {op:CmpOp}{e f:Expr}{pos:Pos}{Q:V→MH→Prop}(hm:behindInMarks op f=false)
  (h:EV W d cs e l H fun a H₁=>EV W d cs f l H₁ fun b H₂=>T2 W d cs l H₂ a b (compareOp op) Q):EV W d cs (.Compare e [op] [f] pos) l H Q:=by
 refine Box.mk ?_;intro C news ow s Qr hc ho hs hk;refine wpAny_Compare1 (h.go C news ow s _ hc ho hs ?_) hm;intro a U₁ H₁ n₁ o₁ s₁ hs₁ le₁ os₁ vr₁ h₁;refine h₁.go C n₁ o₁ s₁ _ hc ho hs₁ ?_;intro b U₂ H₂ n₂ o₂ s₂ hs₂ le₂ os₂ vr₂ h₂;exact h₂.go C n₂ o₂ s₂ Qr U₁ U₂ hc ho hs₂ (vr₁.mono le₂) vr₂ fun v U H' n' o' s' a b c d q=>hk v U H' n' o' s' a (Le.trans le₁ (Le.trans le₂ b)) (c.trans (os₂.trans os₁)) d q
theorem Ar {e:Expr}{x:Str}{pos:Pos}{Q:V→MH→Prop}(he:∀ env,attributeBase e x env (eval e env)=eval e env)
  (h:EV W d cs e l H fun a H₁=>T1 W d cs l H₁ a (fun U=>getAttr U x true) Q):EV W d cs (.Attribute e x pos) l H Q:=by
 refine Box.mk ?_;intro C news ow s Qr hc ho hs hk;refine Attribute_any_ (h.go C news ow s _ hc ho hs ?_) ?_
 ·intro a U₁ H₁ n₁ o₁ s₁ hs₁ le₁ os₁ vr₁ h₁;exact h₁.go C n₁ o₁ s₁ Qr U₁ hc ho hs₁ vr₁ fun v U H' n' o' s' a b c d q=>hk v U H' n' o' s' a (Le.trans le₁ b) (c.trans os₁) d q
 ·show (do let o ←attributeBase e x C.env (eval e C.env);standAt pos.atName;let r ←holding [o] (getAttr o x true);letTemporaryGo e o r;pure r)=_;rw [he]
set_option tactic.hygienic true in
theorem dP {Q:Fl→Loc→MH→Prop}(hq:Q .next l H):EXS W d cs [] l H Q:=by
 refine Box.mk ?_;intro C news ow s Qr hc ho hs hk;exact wpAny_execs_nil (hk .next .next l H news ow s hs (Le.refl _) rfl rfl hq)
noncomputable abbrev DT (W:Wd) (d:Dx) (cs:Scope) (r:List Stmt) (Q:Fl→Loc→MH→Prop):Fl→Loc→MH→Prop
 | .next,l',H'=>EXS W d cs r l' H' Q
 | f,l',H'=>Q f l' H'
theorem az {st:Stmt}{r:List Stmt}{Q:Fl→Loc→MH→Prop}
  (h:EX W d cs st l H (DT W d cs r Q)):EXS W d cs (st::r) l H Q:=by
 refine Box.mk ?_;intro C news ow s Qr hc ho hs hk;refine wpAny_execs_cons (h.go C news ow s _ hc ho hs ?_);intro f F l' H' n' o' s' hs' le os fr q
 cases f with
 | next =>
  have:F=.next:=fr;subst this;exact q.go C n' o' s' Qr hc ho hs' fun f F l'' H'' n'' o'' s'' a b c d q=>hk f F l'' H'' n'' o'' s'' a (Le.trans le b) (c.trans os) d q
 | brk=>have:F=.brk:=fr;subst this;exact hk .brk .brk l' H' n' o' s' hs' le os rfl q
 | cont=>have:F=.cont:=fr;subst this;exact hk .cont .cont l' H' n' o' s' hs' le os rfl q
 | ret v=>obtain ⟨U,rfl,vr⟩:=fr;exact hk (.ret v) (.ret U) l' H' n' o' s' hs' le os ⟨U,rfl,vr⟩ q
theorem dF {e:Expr}{pos:Pos}{Q:Fl→Loc→MH→Prop}(h:EV W d cs e l H fun v H'=>Q (.ret v) l H'):EX W d cs (.Return (some e) pos) l H Q:=by
 refine Box.mk ?_;intro C news ow s Qr hc ho hs hk;refine wpAny_Return_some (h.go C news ow s _ hc ho hs ?_);intro a U₁ H₁ n₁ o₁ s₁ hs₁ le₁ os₁ vr₁ h₁;exact hk (.ret a) (.ret U₁) l H₁ n₁ o₁ s₁ hs₁ le₁ os₁ ⟨_,rfl,vr₁⟩ h₁
theorem kC {t:Expr}{b o:List Stmt}{pos:Pos}{Q:Fl→Loc→MH→Prop}
  (h:ET W d cs t l H fun c H'=>if c then EXS W d cs b l H' Q else EXS W d cs o l H' Q):EX W d cs (.If t b o pos) l H Q:=by
 refine Box.mk ?_;intro C news ow s Qr hc ho hs hk;refine wpAny_If (h.go C news ow s _ hc ho hs ?_);intro c H₁ n₁ o₁ s₁ hs₁ le₁ os₁ q
 cases c with
 | true=>exact q.go C n₁ o₁ s₁ Qr hc ho hs₁ fun f F l'' H'' n'' o'' s'' a b c d q=>hk f F l'' H'' n'' o'' s'' a (Le.trans le₁ b) (c.trans os₁) d q
 | false=>exact q.go C n₁ o₁ s₁ Qr hc ho hs₁ fun f F l'' H'' n'' o'' s'' a b c d q=>hk f F l'' H'' n'' o'' s'' a (Le.trans le₁ b) (c.trans os₁) d q
theorem dh {i j:Int}{Q:V→MH→Prop}(hq:Q (.int (i+j)) H):T2 W d cs l H (.int i) (.int j) (binaryOp .Add) Q:=by
 refine Box.mk ?_;intro C news ow s Qr U U' hc ho hs v1 v2 hk;cb_eq;rcases aw v1 with ⟨t,rfl⟩;rcases aw v2 with ⟨t',rfl⟩;by_in;exact add_int (hk _ _ H news ow _ hs.toks (Le.refl _) rfl aZ hq)
end
end Mine
end
section
open PySem PySem.W PySem.Calls PyProof.Rows
namespace Mine
theorem gF {x y:String}(h:Str.ofString x=Str.ofString y):x=y:=by
 rw [Str.ofString_eq_toList,Str.ofString_eq_toList] at h;have h2:x.toList.map Char.toNat=y.toList.map Char.toNat:=by
  have:=congrArg (fun s:Str=>s.cps.toList) h
  simpa using this
 have inj:∀ (a b:List Char),a.map Char.toNat=b.map Char.toNat→a=b:=by
  intro a
  induction a with
  | nil=>intro b h;cases b with | nil=>rfl | cons _ _=>cases h
  | cons c r ih=>intro b h;cases b with
   | nil=>cases h
   | cons c' r' =>
    simp only [List.map_cons,List.cons.injEq] at h;rw [ih _ h.2,show c=c' from Char.toNat_inj.mp h.1]
 exact String.toList_inj.mp (inj _ _ h2)
theorem ph {P:Params}{fz:Fz}:∀ {names:List String}{vs:List V}{Us:List Value},names.Nodup→VRs P fz vs Us→fO P fz (names.zip vs) fun y=>((names.map Str.ofString).zip Us).reverse.lookup y
 | [],vs,Us,_,_=>fun x v h=>by cases h
 | n::ns,[],[],_,_=>fun x v h=>by cases h
 | n::ns,[],_::_,_,h=>h.elim
 | n::ns,_::_,[],_,h=>h.elim
 | n::ns,v::vs,U::Us,nd,h=>by
  intro x w hx;have nd':=List.nodup_cons.mp nd;simp only [List.zip_cons_cons,dR] at hx;simp only [List.map_cons,List.zip_cons_cons,List.reverse_cons,List.lookup_append]
  by_cases e:(n==x)=true
  ·rw [if_pos e] at hx
   cases hx
   have e':n=x:=by simpa using e
   subst e';refine ⟨U,?_,h.1⟩;have:(((ns.map Str.ofString).zip Us).reverse).lookup (Str.ofString n)=none:=by
    rw [List.lookup_eq_none_iff];intro p hp;have hp':=List.mem_reverse.mp hp;have:=(List.of_mem_zip hp').1;obtain ⟨y,hy,hye⟩:=List.mem_map.mp this;rw [bne_iff_ne];intro q
    apply nd'.1
    rw [gF (q.trans hye.symm)];exact hy
   rw [this];simp
  ·rw [if_neg e] at hx;obtain ⟨U',hU,vr⟩:=ph nd'.2 h.2 x w hx;have hU':List.lookup (Str.ofString x) ((ns.map Str.ofString).zip Us).reverse=some U':=hU;exact ⟨U',by rw [hU'];rfl,vr⟩
structure iu (W:Wd) (f:Addr) (names:List String) (body:List Stmt) (scope:Scope):Prop where
 ho:∃ oc od osl name qual params doc pm cdv,W.K.lookup f=some ⟨oc,od,.func (fnOf name qual params body scope .none .none doc pm none cdv .none),osl⟩∧codeIn W.K cdv qual=true ∧
  ∀ Us:List Value,Us.length=names.length→bindArgs (fnOf name qual params body scope .none .none doc pm none cdv .none) ⟨Us,[]⟩=pure ((names.map Str.ofString).zip Us)
 loc:∀ x∈names,scope.names.lookup (Str.ofString x)=some .local
 nd:names.Nodup
 co:scope.isCoroutine=false
 gen:scope.isGenerator=false
 kind:scope.kind=.function
 cell:∀ x∈scope.names,x.2≠.cell
noncomputable abbrev EY (Q:V→MH→Prop):Fl→Loc→MH→Prop
 | .ret v,_,H'=>Q v H'
 | .next,_,H'=>Q .none H'
 | _,_,_=>False
noncomputable def CL (W:Wd) (d:Dx) (l:Loc) (H:MH) (f:Addr) (vs:List V) (Q:V→MH→Prop):Prop :=
 Box (∀ (C:FC) (news:Led) (ow:Own) (s:Shared) (A:Around) (R:Result→Shared→Prop) (Us:List Value),C.Ok W d→St W C l H news ow s→gr W (fzS W news ow) vs Us →
  A.depth≤C.A.depth+1→A.units≤C.A.units+10→A.frames=C.A.frames→A.handled=C.A.handled →
  (∀ e s',mw W C d.X e s'→R (.error (.ref e)) s') →
  (∀ v U H' news' ow' s',St W C l H' news' ow' s'→Le (fzS W news ow) (fzS W news' ow')→s'.os=s.os→VRw W (fzS W news' ow') v U→Q v H'→R (.ok (.ret U)) s')→codeAny (Md W) A (.call (.ref f) ⟨Us,[]⟩) R s)
section
variable {W:Wd}{d:Dx}{cs:Scope}{l:Loc}{H:MH}
theorem rm1 {a c n:Nat}(h:a≤c+1) (r:c+2*(n+1)+20≤1000):a+1+2*n+20≤1000 :=
 Nat.le_trans (Nat.add_le_add_right (Nat.le_trans (Nat.add_le_add_right (Nat.succ_le_succ h) (2*n)) (Nat.le_of_eq (Nat.add_right_comm c 2 (2*n)))) 20) r
theorem rm2 {a c n:Nat}(h:a≤c+10) (r:c+20*(n+1)+60≤9900):a+3+20*n+60≤9900 :=
 Nat.le_trans (Nat.add_le_add_right (Nat.le_trans (Nat.add_le_add_right (Nat.le_trans (Nat.add_le_add_right h 3) (Nat.le_add_right (c+13) 7)) (20*n)) (Nat.le_of_eq (Nat.add_right_comm c 20 (20*n)))) 60) r
theorem jZ {n:Nat}{X:Nat→MH→Prop}{f:Addr}{names:List String}{body:List Stmt}{scope:Scope}{vs:List V}{Q:V→MH→Prop}(hf:iu W f names body scope) (hn:vs.length=names.length)
  (h:EXS W ⟨n,X⟩ scope body (names.zip vs) H (EY Q)):CL W ⟨n+1,X⟩ l H f vs Q:=by
 refine Box.mk ?_;intro C news ow s A R Us ho hs vr hdp hun hfr hhd hx hk;cb_eq;rcases hs.fr with ⟨g,m,G,F,N,lr⟩;rcases hf.ho with ⟨oc,od,osl,name,qual,params,doc,pm,cdv,hK,hcd,hb⟩;by_in;have hroom:A.depth<recursionLimit:=Nat.le_trans (Nat.le_trans (Nat.le_add_right _ _) (Nat.le_add_right _ 20)) (rm1 (n:=n) hdp ho.room);have hlen:Us.length=names.length:=by rw [←VRs.length vr,hn]
 refine code_defS (A₀:=C.A₀) (base:=C.base) (h₀:=g) (g₀:=C.g0) (outer:=C.outer) (L:=C.L) (a:=C.a) (m:=m) (cn:=C.cn) (cs:=C.cs) (ccd:=C.cd) (news:=news) (K:=W.K)
  G.below F (ho.kin G) N (ho.topF G) ho.kin0 ho.top0 G.dicts G.turn (hfr.trans ho.frames) hK hcd hroom (BindsTo.of_eq (hb Us hlen)) ?_ ?_ ho.fn hf.co hf.gen hf.kind hf.cell
 ·intro y hy;obtain ⟨x,hx,e⟩:=List.mem_map.mp (List.of_mem_zip (a:=y.1) (b:=y.2) hy).1;rw [←e];exact hf.loc x hx
 ·intro g₁ L' h₁ FG F' N' B' X' T' D';have hA':(A.deeper (envOf qual scope L' f cdv)).frames=some (envOf qual scope L' f cdv::C.env::C.outer):=by show (A.frames.map _)=_;rw [hfr,ho.frames];rfl
  have ho':FC.Ok W ⟨A,A.deeper (envOf qual scope L' f cdv),C.base,g₁,C.env::C.outer,L',f,qual,scope,cdv,fun e s'=>wpAny (Md W) (A.deeper (envOf qual scope L' f cdv)) (leaving (envOf qual scope L' f cdv) e) (fun ε s''=>R (.error e) s'') (fun e' s''=>R (.error e') s'') s',C.fz0,C.os0⟩ ⟨n,X⟩ :=
   ⟨hA',hhd.trans ho.handled,ho.kin0,ho.ext0,ho.top0,hf.kind,rm1 hdp ho.room,rm2 hun ho.units,fun e s' hr=>by
    cb_eq;rcases hr with ⟨B,t,dx,T,k,H₁,n₁,o₁,r⟩;rcases r.fr with ⟨g₂,m₂,G₂,Gd,F₂,hB₂,sm₂,hn₂⟩;by_in;have self':g₁.get? L'=none:=kts_self F';refine uz hA' rfl r.fly (r.tb.imp id fun ⟨fl,a,b⟩=>⟨fl,a,b⟩) fun h' T' x' t' sm=>hx e _ ⟨B,t,dx,T',k,H₁,n₁,o₁,r.stays,x',.inr ⟨_,t',.inl rfl⟩,r.nw,r.dict,r.x,r.hr,r.nd,r.gens,r.os,r.le,
     g,m,g₁,G,FG,fun b o hb hm=>?_,fun b o hb hd=>?_,fun q hq=>?_⟩
    ·refine hB₂ b o (F₂.keep _ _ (Gd.turn.other b o hb hm)) fun z=>?_;rcases kts_mem z with z | z
     ·rw [z,self'] at hb;cases hb
     ·exact hm z
    ·obtain ⟨sl,hs⟩:=Gd.turn.up hb;obtain ⟨sl₂,hs₂⟩:=(sm₂.trans sm) b _ (F₂.keep _ _ hs) hd;exact ⟨sl₂,hs₂⟩
    ·cases z:g.get? q.1 with
     | none=>rfl
     | some o =>
      obtain ⟨sl,hs⟩:=Gd.turn.up (FG.keep _ _ z);have:=hn₂ q hq;rw [hs] at this;cases this⟩
  have hs':St W ⟨A,A.deeper (envOf qual scope L' f cdv),C.base,g₁,C.env::C.outer,L',f,qual,scope,cdv,fun e s'=>wpAny (Md W) (A.deeper (envOf qual scope L' f cdv)) (leaving (envOf qual scope L' f cdv) e) (fun ε s''=>R (.error e) s'') (fun e' s''=>R (.error e') s'') s',C.fz0,C.os0⟩ (names.zip vs) H news ow { s with heap:=h₁,toks:=s.toks+((names.map Str.ofString).zip Us).length} :=
   ⟨⟨g₁,_,⟨KtsTurn.refl,B',D'⟩,F',N',ph hf.nd vr⟩,hs.hr,hs.nd,hs.gens,hs.le0,hs.os0⟩
  refine h.go _ news ow _ _ rfl ho' hs' ?_;intro fl Fl l' H' n' o' s' hs'' le os fr q;cb_eq;rcases hs''.fr with ⟨g₂,m',G₂,F'',N'',lr'⟩;by_in;have fin:∀ v U,VRw W (fzS W n' o') v U→Q v H'→LeaveS ((C.env::C.outer).filterMap (·.frame)) C.A₀ C.base C.outer W.K W.p W.loose W.mean W.mg W.mb C.g0 g C.L m g₁ R U s':=fun v U vr' q' =>
   leaveS_r F'' N'' G₂.turn fun h₀' T3 F3 N3 B3 ε ε D3=>hk v U H' n' o' s' ⟨⟨h₀',m,⟨T3,B3,D3⟩,F3,N3,fun x v' hx=>let ⟨U',a,b⟩:=lr x v' hx;⟨U',a,b.mono le⟩⟩,hs''.hr,hs''.nd,hs''.gens,hs''.le0,hs''.os0⟩ le os vr' q'
  cases fl with
  | next=>have:Fl=.next:=fr;subst this;exact fin .none .none j4 q
  | brk=>exact q.elim
  | cont=>exact q.elim
  | ret v=>obtain ⟨U,rfl,vr'⟩:=fr;exact fin v U vr' q
end
end Mine
end
section
open PySem PySem.W PySem.Calls PyProof.Rows
namespace Mine
section
variable {W:Wd}{d:Dx}{cs:Scope}{l:Loc}{H:MH}
noncomputable def EA (W:Wd) (d:Dx) (cs:Scope) (es:List Expr) (l:Loc) (H:MH) (Q:List V→MH→Prop):Prop :=
 Box (∀ (C:FC) (news:Led) (ow:Own) (s:Shared) (Qr:List Value→Shared→Prop) (pos:Pos),C.cs=cs→C.Ok W d→St W C l H news ow s →
  (∀ vs Us H' news' ow' s',St W C l H' news' ow' s'→Le (fzS W news ow) (fzS W news' ow')→s'.os=s.os→gr W (fzS W news' ow') vs Us→Q vs H'→Qr Us s') →
  wpAny (Md W) C.A (spliced (backTo pos (starEach es C.env))) Qr C.E s)
theorem bv {P:Params}{fz:Fz}:VRs P fz [] []:=trivial
theorem aY {P:Params}{fz:Fz}{v:V}{U:Value}{vs:List V}{Us:List Value}(a:VR P fz v U) (b:VRs P fz vs Us):VRs P fz (v::vs) (U::Us):=And.intro a b
theorem aB {Q:List V→MH→Prop}(hq:Q [] H):EA W d cs [] l H Q:=by
 refine Box.mk ?_;intro C news ow s Qr pos hc ho hs hk;exact args_nil (hk [] [] H news ow s hs (Le.refl _) rfl bv hq)
noncomputable def aE:Expr→Bool
 | .Starred _ _=>false
 | _=>true
theorem bw {e:Expr}{r:List Expr}{env:Env}(h:aE e=true):starEach (e::r) env=(false,eval e env)::starEach r env:=by
 cases e<;>first | rfl | cases h
theorem ah {e:Expr}{r:List Expr}{Q:List V→MH→Prop}(hp:aE e=true)
  (h:EV W d cs e l H fun v H₁=>EA W d cs r l H₁ fun vs H₂=>Q (v::vs) H₂):EA W d cs (e::r) l H Q:=by
 refine Box.mk ?_;intro C news ow s Qr pos hc ho hs hk;refine args_cons (h.go C news ow s _ hc ho hs ?_) (bw hp);intro a U₁ H₁ n₁ o₁ s₁ hs₁ le₁ os₁ vr₁ h₁;refine h₁.go C n₁ o₁ s₁ _ pos hc ho hs₁ ?_;intro vs Us H₂ n₂ o₂ s₂ hs₂ le₂ os₂ vr₂ h₂;exact hk (a::vs) (U₁::Us) H₂ n₂ o₂ s₂ hs₂ (Le.trans le₁ le₂) (os₂.trans os₁) (aY (vr₁.mono le₂) vr₂) h₂
theorem cR:∀ {es:List Expr}{env:Env}{pos:Pos},es.all aE=true→(backTo pos (starEach es env)).any (·.1)=false
 | [],_,_,_=>rfl
 | e::r,env,pos,h=>by
  obtain ⟨a,b⟩:=Bool.and_eq_true_iff.mp (List.all_cons▸h);rw [bw a];show (false||(backTo pos (starEach r env)).any (·.1))=false;rw [cR b];rfl
noncomputable def CV (W:Wd) (d:Dx) (cs:Scope) (l:Loc) (H:MH) (f:Value) (vs:List V) (Q:V→MH→Prop):Prop :=
 Box (∀ (C:FC) (news:Led) (ow:Own) (s:Shared) (Qr:Value→Shared→Prop) (Us:List Value),C.cs=cs→C.Ok W d→St W C l H news ow s→gr W (fzS W news ow) vs Us →
  dG W C l (fzS W news ow) s.os Q Qr→wpAny (Md W) C.A (call f Us) Qr C.E s)
theorem aS {f:Addr}{vs:List V}{Q:V→MH→Prop}(h:CL W d l H f vs Q):CV W d cs l H (.ref f) vs Q:=by
 refine Box.mk ?_;intro C news ow s Qr Us hc ho hs vr hk;refine wpAny_call (h.go C news ow s C.A _ Us ho hs vr (by omega) (by omega) rfl rfl ho.exc ?_);intro v U H' n' o' s' a b c d q;exact hk v U H' n' o' s' a b c d q
theorem jv {C:FC}{f:Addr}{news:Led}{ow:Own}{s:Shared}{first:List V}{Fs:List Value}{es:List Expr}{pos:Pos}{Q:V→MH→Prop}{Qr:Value→Shared→Prop}
  (hc:C.cs=cs) (ho:C.Ok W d) (hs:St W C l H news ow s) (hkeep:keepIn W.K (.ref f)=true) (hp:es.all aE=true) (vf:gr W (fzS W news ow) first Fs)
  (h:EA W d cs es l H fun vs H₁=>CV W d cs l H₁ (.ref f) (first++vs) Q) (hk:dG W C l (fzS W news ow) s.os Q Qr) :
  wpAny (Md W) C.A (callWith pos (.ref f) Fs (backTo pos (starEach es C.env)) []) Qr C.E s:=by
 have hX:∀ {s':Shared}{H':MH}{n':Led}{o':Own},St W C l H' n' o' s'→W.K.In s'.heap:=fun hs'=>let ⟨g,m,G,F,_,_⟩:=hs'.fr;(ho.kin G).keeps F.keep
 have main:wpAny (Md W) C.A (spliced (backTo pos (starEach es C.env))) (fun vs s₁=>W.K.In s₁.heap∧wpAny (Md W) C.A (call (.ref f) (Fs++vs)) Qr C.E s₁) C.E s:=by
  refine h.go C news ow s _ pos hc ho hs ?_;intro vs Us H₁ n₁ o₁ s₁ hs₁ le₁ os₁ vr₁ h₁;refine ⟨hX hs₁,h₁.go C n₁ o₁ s₁ Qr _ hc ho hs₁ ((VRs.mono le₁ vf).append vr₁) ?_⟩;intro v U H' n' o' s' a b c d q;exact hk v U H' n' o' s' a (Le.trans le₁ b) (c.trans os₁) d q
 cases es with
 | nil =>
  have:W.K.In s.heap∧wpAny (Md W) C.A (call (.ref f) (Fs++[])) Qr C.E s:=by
   have h0:=h.go C news ow s (fun vs s₁=>vs=[]∧s₁=s→(W.K.In s₁.heap∧wpAny (Md W) C.A (call (.ref f) (Fs++vs)) Qr C.E s₁)) pos hc ho hs (by
    intro vs Us H₁ n₁ o₁ s₁ hs₁ le₁ os₁ vr₁ h₁ _;refine ⟨hX hs₁,h₁.go C n₁ o₁ s₁ Qr _ hc ho hs₁ ((VRs.mono le₁ vf).append vr₁) ?_⟩;intro v U H' n' o' s' a b c d q;exact hk v U H' n' o' s' a (Le.trans le₁ b) (c.trans os₁) d q)
   refine ⟨hX hs,?_⟩;intro Γ p hΓ;have:=h0 Γ p hΓ;exact (this ⟨rfl,rfl⟩).2 Γ p hΓ
  exact callWith_K0 this.1 hkeep this.2
 | cons e r =>
  obtain ⟨a,b⟩:=Bool.and_eq_true_iff.mp (List.all_cons▸hp);exact callWith_K ho.kin0 hkeep main (bw a) (cR b)
theorem aO {x:Str}{np pos:Pos}{f:Addr}{es:List Expr}{Q:V→MH→Prop}(hl:cs.names.lookup x=some .globalImplicit) (hg:W.mg x=some (.ref f)) (hd:(x==("__debug__" : Str))=false)
  (hkeep:keepIn W.K (.ref f)=true) (hp:es.all aE=true)
  (h:EA W d cs es l H fun vs H₁=>CV W d cs l H₁ (.ref f) vs Q):EV W d cs (.Call (.Name x np) es [] pos) l H Q:=by
 refine Box.mk ?_;intro C news ow s Qr hc ho hs hk;cb_eq;rcases hs.fr with ⟨gg,m,G,F,N,lr⟩;by_in;refine Call_ ?_ (by rfl);refine ld_global_at F (ho.top G).g hg ?_ ho.fn (by subst hc;exact hl) hd;exact jv (first:=[]) hc ho hs hkeep hp bv h hk
end
end Mine
end
section
open PySem PySem.W PySem.Calls PyProof.Rows
namespace Mine
noncomputable def gK:List String→List V→String→Option V
 | k::ks,v::vs,x=>if k==x then some v else gK ks vs x
 | _,_,_=>none
theorem l8 (k:String) (ks:List String) (v:V) (vs:List V) (x:String):gK (k::ks) (v::vs) x=if k==x then some v else gK ks vs x:=rfl
noncomputable def dn:List String→List V→String→V→List String×List V
 | k::ks,v::vs,x,u=>if k==x then (k::ks,u::vs) else (k::(dn ks vs x u).1,v::(dn ks vs x u).2)
 | _,_,x,u=>([x],[u])
theorem tT (k:String) (ks:List String) (v:V) (vs:List V) (x:String) (u:V):dn (k::ks) (v::vs) x u=if k==x then (k::ks,u::vs) else (k::(dn ks vs x u).1,v::(dn ks vs x u).2):=rfl
theorem jK (k:Str) (t:Nat) (x:Str):(Value.str k t).isStr x=(k==x):=rfl
theorem gP (k x:String):(Str.ofString k==Str.ofString x)=(k==x):=by
 rw [Bool.eq_iff_iff,beq_iff_eq,beq_iff_eq];exact ⟨gF,fun h=>by rw [h]⟩
theorem ia {P:Params}{fz:Fz}{x:String}{v:V}:∀ {ks:List String}{vs:List V}{Es:List DictEntry},fo P ks Es→VRs P fz vs (Es.map (·.val))→gK ks vs x=some v→∃ U,getL (Str.ofString x) Es=some (some U)∧VR P fz v U
 | [],_,_,_,_,h=>by cases h
 | k::ks,[],_,_,_,h=>by cases h
 | k::ks,u::vs,[],hk,_,_=>hk.elim
 | k::ks,u::vs,e::es,⟨⟨t,hk⟩,hh,hr⟩,hv,h=>by
  rw [List.map_cons] at hv;unfold getL;rw [List.find?_cons,hk,jK,gP];rw [l8] at h
  by_cases q:(k==x)=true
  ·rw [if_pos q] at h
   cases h
   rw [q];exact ⟨_,rfl,hv.1⟩
  ·rw [if_neg q] at h;rw [Bool.not_eq_true] at q;rw [q];obtain ⟨U,a,b⟩:=ia hr hv.2 h;refine ⟨U,?_,b⟩;unfold getL at a;have nr:(e::es).any (·.refKey)=es.any (·.refKey):=by
    rw [List.any_cons];unfold DictEntry.refKey;rw [hk];rfl
   rw [nr];exact a
theorem jM {P:Params}{fz:Fz}{x:String}:∀ {ks:List String}{vs:List V}{Es:List DictEntry},fo P ks Es→VRs P fz vs (Es.map (·.val))→gK ks vs x=none→getL (Str.ofString x) Es=some none
 | [],_,[],_,_,_=>rfl
 | [],_,_::_,hk,_,_=>hk.elim
 | _::_,_,[],hk,_,_=>hk.elim
 | k::ks,[],e::es,_,hv,_=>by exact hv.elim
 | k::ks,u::vs,e::es,⟨⟨t,hk⟩,hh,hr⟩,hv,h=>by
  rw [List.map_cons] at hv;rw [l8] at h
  by_cases q:(k==x)=true
  ·rw [if_pos q] at h;cases h
  ·rw [if_neg q] at h;rw [Bool.not_eq_true] at q;have a:=jM hr hv.2 h;unfold getL at a ⊢;rw [List.find?_cons,hk,jK,gP,q];have nr:(e::es).any (·.refKey)=es.any (·.refKey):=by
    rw [List.any_cons];unfold DictEntry.refKey;rw [hk];rfl
   rw [nr];exact a
noncomputable def iz:V→Bool
 | .bi _=>false
 | _=>true
theorem nR {P:Params}{fz:Fz}{v:V}{U:Value}(h:VR P fz v U) (p:iz v=true):handedIn U=true:=by
 cases v
 case none=>subst h;rfl
 case bool=>subst h;rfl
 case int=>obtain ⟨t,rfl⟩:=h;rfl
 case str=>obtain ⟨t,rfl⟩:=h;rfl
 case ref=>subst h;rfl
 case bi=>cases p
 case ty=>subst h;rfl
 case lst=>obtain ⟨_,_,_,rfl,_⟩:=h;rfl
 case tup=>obtain ⟨_,_,rfl,_⟩:=h;rfl
 case dct=>obtain ⟨_,_,_,rfl,_⟩:=h;rfl
 case obj=>obtain ⟨_,_,_,_,rfl,_⟩:=h;rfl
section
variable {W:Wd}{d:Dx}{cs:Scope}{l:Loc}{H:MH}
structure qg (W:Wd) (C:Addr) (x:String):Prop where
 plain:plainGet W.K C (Str.ofString x)=true
 dict:hasDictIn W.K C=true
 find:∃ attr,findIn W.K (.ref C) (Str.ofString x)=some attr∧noGet W.K attr=true
theorem bh {C:FC}{news:Led}{ow:Own}{s:Shared}(ho:C.Ok W d) (hs:St W C l H news ow s){a:Addr}{o:Obj}(h:fzS W news ow a o):s.heap.get? a=some o:=by
 cb_eq;rcases hs.fr with ⟨gg,m,G,F,N,_⟩;by_in;rcases h with (h | h) | h
 ·exact ((ho.kin G).keeps F.keep) _ _ h
 ·exact F.keep _ _ ((ho.ext G) _ h)
 ·exact (N _ h.1).1
theorem z9 {a C:Addr}{ks:List String}{vs:List V}{x:String}{v:V}{Q:V→MH→Prop}(hH:H a=some (.inst C ks vs)) (hv:gK ks vs x=some v) (hp:iz v=true) (hc:qg W C x) (hq:Q v H) :
  T1 W d cs l H (.ref a) (fun U=>getAttr U (Str.ofString x) true) Q:=by
 refine Box.mk ?_;intro C' news ow s Qr U hcs ho hs vr hk;obtain rfl:=aP vr;cb_eq;rcases hs.fr with ⟨gg,m,G,F,N,lr⟩;rcases hs.hr a _ hH with ⟨_,dx,n,Es,_,h1,h2,hkeys,hvs⟩;rcases hc.find with ⟨attr,hf,hn⟩;rcases ia hkeys hvs hv with ⟨U,hl,vr'⟩;by_in;exact get_own F (ho.kin G) (InstAt.of_news N h1 h2) hc.plain hc.dict hf hn hl (nR vr' hp) (hk v U H news ow _ hs.toks (Le.refl _) rfl vr' hq)
theorem xi {C:Addr}{ks:List String}{vs:List V}{x:String}{v:V}{Q:V→MH→Prop}(hv:gK ks vs x=some v) (hp:iz v=true) (hc:qg W C x) (hq:Q v H) :
  T1 W d cs l H (.obj C ks vs) (fun U=>getAttr U (Str.ofString x) true) Q:=by
 refine Box.mk ?_;intro C' news ow s Qr U hcs ho hs vr hk;cb_eq;rcases vr with ⟨y,dx,n,Es,rfl,h1,h2,hkeys,hvs⟩;rcases hs.fr with ⟨gg,m,G,F,N,lr⟩;rcases hc.find with ⟨attr,hf,hn⟩;rcases ia hkeys hvs hv with ⟨U,hl,vr'⟩;by_in;exact get_own F (ho.kin G) ⟨bh ho hs h1,rfl,rfl,bh ho hs h2⟩ hc.plain hc.dict hf hn hl (nR vr' hp) (hk v U H news ow _ hs.toks (Le.refl _) rfl vr' hq)
structure vp (W:Wd) (C:Addr) (x:String) (f:Addr):Prop where
 plain:plainGet W.K C (Str.ofString x)=true
 find:findIn W.K (.ref C) (Str.ofString x)=some (some (.ref f))
 fn:isFn W.K (.ref f)=true
 keep:keepIn W.K (.ref f)=true
noncomputable def MC (W:Wd) (d:Dx) (cs:Scope) (l:Loc) (H:MH) (v:V) (x:Str) (es:List Expr) (Q:V→MH→Prop):Prop :=
 Box (∀ (C:FC) (news:Led) (ow:Own) (s:Shared) (Qr:Value→Shared→Prop) (U:Value) (pl:Sem Bool) (pos:Pos),C.cs=cs→C.Ok W d→St W C l H news ow s→VRw W (fzS W news ow) v U →
  dG W C l (fzS W news ow) s.os Q Qr→wpAny (Md W) C.A (getMethod U x pl) (fun fx s₂=>wpAny (Md W) C.A (callWith pos fx.1 fx.2 (backTo pos (starEach es C.env)) []) Qr C.E s₂) C.E s)
theorem nC {o:Expr}{x:Str}{apos pos:Pos}{es:List Expr}{Q:V→MH→Prop}(pl:Env→Sem Bool)
  (he:∀ env,eval (.Call (.Attribute o x apos) es [] pos) env=(do
   let ov ←eval o env
   standAt apos.atName
   let (f,first) ←holding [ov] (getMethod ov x (pl env))
   callWith pos f first (backTo pos (starEach es env)) []))
  (h:EV W d cs o l H fun v H₁=>MC W d cs l H₁ v x es Q):EV W d cs (.Call (.Attribute o x apos) es [] pos) l H Q:=by
 refine Box.mk ?_;intro C news ow s Qr hc ho hs hk;refine MethodCall_ (h.go C news ow s _ hc ho hs ?_) (he _);intro v U H₁ n₁ o₁ s₁ hs₁ le₁ os₁ vr₁ h₁;exact h₁.go C n₁ o₁ s₁ Qr U _ pos hc ho hs₁ vr₁ fun v U H' n' o' s' a b c d q=>hk v U H' n' o' s' a (Le.trans le₁ b) (c.trans os₁) d q
theorem Ae {a C:Addr}{ks:List String}{vs:List V}{x:String}{f:Addr}{es:List Expr}{Q:V→MH→Prop}(hH:H a=some (.inst C ks vs)) (hx:gK ks vs x=none) (hm:vp W C x f) (hp:es.all aE=true)
  (h:EA W d cs es l H fun us H₂=>CV W d cs l H₂ (.ref f) (.ref a::us) Q):MC W d cs l H (.ref a) (Str.ofString x) es Q:=by
 refine Box.mk ?_;intro C' news ow s Qr U pl pos hcs ho hs vr hk;obtain rfl:=aP vr;cb_eq;rcases hs.fr with ⟨gg,m,G,F,N,lr⟩;rcases hs.hr a _ hH with ⟨_,dx,n,Es,_,h1,h2,hkeys,hvs⟩;by_in;exact method_inst F (ho.kin G) (InstAt.of_news N h1 h2) hm.plain hm.find hm.fn (jM hkeys hvs hx) (jv (first:=[.ref a]) hcs ho hs hm.keep hp (aY di bv) h hk)
end
end Mine
end
section
open PySem PySem.W PySem.Calls PyProof.Rows
namespace Mine
theorem hY (x:String) (v:V) (y:String):∀ l:Loc,dR (ci l x v) y=if (x==y)=true then some v else dR l y
 | []=>rfl
 | (k,u)::r=>by
  rw [Ca]
  by_cases h:(k==x)=true
  ·rw [if_pos h];have e:k=x:=by simpa using h
   subst e;rw [f6,f6]
   by_cases q:(k==y)=true
   ·simp [q]
   ·simp [q]
  ·rw [if_neg h];rw [f6,f6];rw [hY x v y r]
   by_cases q:(k==y)=true
   ·have e:k=y:=by simpa using q
    subst e;have:(x==k)=false:=by
     rw [beq_eq_false_iff_ne];intro z;apply h;rw [z];simp
    simp [this]
   ·simp [q]
theorem jz {dx:Addr}{o o':Obj}:∀ {news:Led},(news.map (·.1)).Nodup→(dx,o)∈news→∃ news',Upd dx o o' news news'∧news'.map (·.1)=news.map (·.1)∧(dx,o')∈news' ∧
  (∀ p∈news',p=(dx,o')∨(p∈news∧p.1≠dx))∧(∀ p∈news,p.1≠dx→p∈news')
 | [],_,h=>by cases h
 | p::r,nd,h=>by
  rw [List.map_cons,List.nodup_cons] at nd
  by_cases e:p.1=dx
  ·have hp:p=(dx,o):=by
    rcases List.mem_cons.mp h with q | q
    ·exact q.symm
    ·exact absurd (List.mem_map_of_mem (f:=(·.1)) q) (by rw [←e];exact nd.1)
   subst hp;have hn:∀ q∈r,q.1≠dx:=fun q hq z=>nd.1 (by have:=List.mem_map_of_mem (f:=(·.1)) hq;rwa [z] at this);refine ⟨(dx,o')::r,.head hn,rfl,.head _,fun q hq=>?_,fun q hq z=>?_⟩
   ·rcases List.mem_cons.mp hq with rfl | hq
    ·exact .inl rfl
    ·exact .inr ⟨.tail _ hq,hn q hq⟩
   ·rcases List.mem_cons.mp hq with rfl | hq
    ·exact absurd rfl z
    ·exact .tail _ hq
  ·have h':(dx,o)∈r:=by
    rcases List.mem_cons.mp h with q | q
    ·exact absurd (congrArg (·.1) q).symm e
    ·exact q
   obtain ⟨r',U,m,i,a,b⟩:=jz nd.2 h';refine ⟨p::r',.tail e U,by rw [List.map_cons,List.map_cons,m],.tail _ i,fun q hq=>?_,fun q hq z=>?_⟩
   ·rcases List.mem_cons.mp hq with rfl | hq
    ·exact .inr ⟨.head _,e⟩
    ·rcases a q hq with rfl | ⟨y,z⟩
     ·exact .inl rfl
     ·exact .inr ⟨.tail _ y,z⟩
   ·rcases List.mem_cons.mp hq with rfl | hq
    ·exact .head _
    ·exact .tail _ (b q hq z)
theorem ww {news:Led}(nd:(news.map (·.1)).Nodup){a:Addr}{o o':Obj}(h:(a,o)∈news) (h':(a,o')∈news):o=o':=by
 induction news with
 | nil=>cases h
 | cons p r ih =>
  rw [List.map_cons,List.nodup_cons] at nd;rcases List.mem_cons.mp h with q | q<;>rcases List.mem_cons.mp h' with q' | q'
  ·rw [←q] at q';exact (congrArg (·.2) q').symm
  ·exact absurd (List.mem_map_of_mem (f:=(·.1)) q') (by rw [←q] at nd;exact nd.1)
  ·exact absurd (List.mem_map_of_mem (f:=(·.1)) q) (by rw [←q'] at nd;exact nd.1)
  ·exact ih nd.2 q q'
theorem jH {W:Wd}{news news':Led}{ow:Own}{dx a:Addr}(hw:ow dx=some a) (b:∀ p∈news,p.1≠dx→p∈news'):Le (fzS W news ow) (fzS W news' ow):=by
 intro x o h;rcases h with h | ⟨h,e⟩
 ·exact .inl h
 ·exact .inr ⟨b _ h (fun (z:x=dx)=>by rw [z,hw] at e;cases e),e⟩
theorem cz.upd {P:Params}{fz fz':Fz}{news news':Led}{ow:Own}{dx a b:Addr}{o:MO}(le:Le fz fz') (hw:ow dx=some a) (ne:b≠a) (k:∀ p∈news,p.1≠dx→p∈news') (h:cz P fz news ow b o):cz P fz' news' ow b o:=by
 have ne':∀ {x:Addr},ow x=some b→x≠dx:=fun hx z=>by rw [z,hw] at hx;exact ne (Option.some.inj hx).symm
 cases o with
 | list vs =>
  cb_eq;rcases h with ⟨h0,n,Vs,h1,h2⟩;by_in;exact ⟨h0,n,Vs,k _ h1 (ne' h0),h2.mono le⟩
 | inst C ks vs =>
  cb_eq;rcases h with ⟨h0,dy,n,Es,h1,h2,h3,h4,h5⟩;by_in;exact ⟨h0,dy,n,Es,h1,k _ h2 (ne' h0),k _ h3 (ne' h1),h4,h5.mono le⟩
 | raw x=>exact ⟨h.1,k _ h.2 (ne' h.1)⟩
 | dic ks vs =>
  cb_eq;rcases h with ⟨h0,hs,o,kvs,h1,h2,h4,h3⟩;by_in;exact ⟨h0,hs,o,kvs,k _ h1 (ne' h0),h2,h4,h3.mono le⟩
theorem po {P:Params}:∀ {ks:List String}{Es:List DictEntry},fo P ks Es→Es.length=ks.length
 | [],[],_=>rfl
 | _::_,_::_,h=>by simp [po h.2.2]
 | [],_::_,h=>h.elim
 | _::_,[],h=>h.elim
theorem oZ {P:Params}{fz:Fz}{x:String}{v:V}{U:Value}{t:Nat}(hv:VR P fz v U):∀ {ks:List String}{vs:List V}{Es:List DictEntry},fo P ks Es→VRs P fz vs (Es.map (·.val)) →
  fo P (dn ks vs x v).1 (putL (Str.ofString x) (PyData.keyHash P (Str.ofString x)) (.str (Str.ofString x) t) U Es) ∧
  VRs P fz (dn ks vs x v).2 ((putL (Str.ofString x) (PyData.keyHash P (Str.ofString x)) (.str (Str.ofString x) t) U Es).map (·.val))∧(putL (Str.ofString x) (PyData.keyHash P (Str.ofString x)) (.str (Str.ofString x) t) U Es).length≤ks.length+1
 | [],[],[],_,_=>⟨⟨⟨t,rfl⟩,rfl,trivial⟩,aY hv bv,Nat.le_refl _⟩
 | [],_::_,[],_,h=>by exact h.elim
 | [],_,_::_,h,_=>h.elim
 | _::_,_,[],h,_=>h.elim
 | _::_,[],_::_,_,h=>by exact h.elim
 | k::ks,u::vs,e::es,⟨⟨t',hk⟩,hh,hr⟩,h=>by
  rw [List.map_cons] at h;unfold putL;rw [tT];rw [hk,jK,gP]
  by_cases q:(k==x)=true
  ·have e':k=x:=by simpa using q
   subst e';rw [if_pos q,if_pos q];refine ⟨⟨⟨t',by first | exact hk | rfl⟩,hh,hr⟩,aY hv h.2,?_⟩;have:=po hr;simp [this]
  ·rw [if_neg q,if_neg q];obtain ⟨a,b,c⟩:=oZ hv (t:=t) hr h.2;exact ⟨⟨⟨t',hk⟩,hh,a⟩,aY h.1 b,by simpa using c⟩
section
variable {W:Wd}{d:Dx}{cs:Scope}{l:Loc}{H:MH}
theorem fO.set {P:Params}{fz:Fz}{m:Str→Option Value}{x:String}{v:V}{U:Value}(h:fO P fz l m) (vr:VR P fz v U):fO P fz (ci l x v) fun y=>if y=Str.ofString x then some U else m y:=by
 intro y w hy;rw [hY] at hy
 by_cases q:(x==y)=true
 ·rw [if_pos q] at hy;have e:x=y:=by simpa using q
  subst e
  cases hy
  exact ⟨U,if_pos rfl,vr⟩
 ·rw [if_neg q] at hy;obtain ⟨U',a,b⟩:=h y w hy;refine ⟨U',?_,b⟩;show (if Str.ofString y=Str.ofString x then some U else m (Str.ofString y))=_;rw [if_neg (fun z=>q (by rw [gF z];simp))];exact a
theorem fO.mono {P:Params}{fz fz':Fz}{m:Str→Option Value}(h:fO P fz l m) (le:Le fz fz'):fO P fz' l m:=fun x v hx=>let ⟨U,a,b⟩:=h x v hx;⟨U,a,b.mono le⟩
theorem ec {C:FC}{news:Led}{ow:Own}{s:Shared}{x:String}{v:V}{U:Value}{Qr:Unit→Shared→Prop}(hc:C.cs=cs) (ho:C.Ok W d) (hs:St W C l H news ow s)
  (vr:VRw W (fzS W news ow) v U) (hl:cs.names.lookup (Str.ofString x)=some .local) (hk:∀ s',St W C (ci l x v) H news ow s'→s'.os=s.os→Qr () s'):wpAny (Md W) C.A (storeName C.env (Str.ofString x) U) Qr C.E s:=by
 cb_eq;rcases hs.fr with ⟨gg,m,G,F,N,lr⟩;by_in;refine stN F N (fun h' F' N'=>hk _ ⟨⟨gg,_,G,F',N',lr.set vr⟩,hs.hr,hs.nd,hs.gens,hs.le0,hs.os0⟩ rfl) ho.fn ?_;subst hc;exact hl
set_option tactic.hygienic true in
theorem bL {x:String}{np pos:Pos}{e:Expr}{Q:Fl→Loc→MH→Prop}(hl:cs.names.lookup (Str.ofString x)=some .local) (hsw:∀ env,swapsWith e (some (.Name (Str.ofString x) np)) pos.line env=pure false)
  (h:EV W d cs e l H fun v H'=>Q .next (ci l x v) H'):EX W d cs (.Assign [.Name (Str.ofString x) np] e pos) l H Q:=by
 refine Box.mk ?_;intro C news ow s Qr hc ho hs hk;refine wpAny_Assign_Name (h.go C news ow s _ hc ho hs ?_) (hsw _);intro v U H₁ n₁ o₁ s₁ hs₁ le₁ os₁ vr₁ h₁;exact ec hc ho hs₁ vr₁ hl fun s' hs' os'=>hk .next .next _ H₁ n₁ o₁ s' hs' le₁ (os'.trans os₁) rfl h₁
structure kz (W:Wd) (C:Addr) (x:String):Prop where
 seta:findIn W.K (.ref C) "__setattr__" = some (some (.builtin "object.__setattr__"))
 over:plainOver W.K C=true
 taker:takerIn W.K C (Str.ofString x)=some none
 dict:hasDictIn W.K C=true
theorem kY {C:FC}{news:Led}{ow:Own}{s:Shared}{a K:Addr}{ks:List String}{vs:List V}{x:String}{v:V}{U:Value}{Qr:Unit→Shared→Prop}(ho:C.Ok W d) (hs:St W C l H news ow s)
  (hH:H a=some (.inst K ks vs)) (hc:kz W K x) (hz:ks.length<1000) (vr:VRw W (fzS W news ow) v U)
  (hk:∀ news' s',St W C l (H.put a (.inst K (dn ks vs x v).1 (dn ks vs x v).2)) news' ow s'→Le (fzS W news ow) (fzS W news' ow)→s'.os=s.os→Qr () s'):wpAny (Md W) C.A (setAttr (.ref a) (Str.ofString x) U) Qr C.E s:=by
 cb_eq;rcases hs.fr with ⟨gg,m,G,F,N,lr⟩;rcases hs.hr a _ hH with ⟨h0,dx,n,Es,hw,h1,h2,hkeys,hvs⟩;by_in;have hl:(getL (Str.ofString x) Es).isSome=true:=by
  cases q:gK ks vs x with
  | none=>rw [jM hkeys hvs q];rfl
  | some w=>obtain ⟨U',e,_⟩:=ia hkeys hvs q;rw [e];rfl
 obtain ⟨pk,pv,pl⟩:=oZ (x:=x) (t:=s.toks+1) vr hkeys hvs
 generalize hes:putL (Str.ofString x) (PyData.keyHash W.w.params (Str.ofString x)) (.str (Str.ofString x) (s.toks+1)) U Es=Es' at pk pv pl
 generalize hn':putN (Str.ofString x) Es n=n'
 cb_eq;rcases jz (o':=dictOf Es' n') hs.nd h2 with ⟨news',Up,mp,hin,hback,hon⟩;by_in;have le:Le (fzS W news ow) (fzS W news' ow):=jH hw hon;have dne:dx≠a:=fun z=>by
  subst z;have:=ww hs.nd h1 h2;have:=congrArg Obj.cls this
  cases this
 refine set_dict F (ho.kin G) N (InstAt.of_news N h1 h2) rfl hc.seta hc.over hc.taker hc.dict hl (by rw [hes,hn']) Up (by omega) fun h' F' N'=>hk news' _ ⟨⟨gg,m,G,F',N',lr.mono le⟩,?_,by rw [mp];exact hs.nd,hs.gens,(Le.trans hs.le0 le),hs.os0⟩ le rfl;intro b o hb;unfold MH.put at hb
 by_cases e:b=a
 ·subst e;rw [if_pos rfl] at hb
  cases hb
  exact ⟨h0,dx,n',Es',hw,hon _ h1 (Ne.symm dne),hin,pk,pv.mono le⟩
 ·rw [if_neg e] at hb;exact cz.upd le hw e hon (hs.hr b o hb)
end
end Mine
end
section
open PySem PySem.W PySem.Calls PyProof.Rows
namespace Mine
section
variable {W:Wd}{d:Dx}{cs:Scope}{l:Loc}{H:MH}
set_option tactic.hygienic true in
theorem ti {o e:Expr}{x:String}{ap pos:Pos}{Q:Fl→Loc→MH→Prop}(hsw:∀ env,swapsWith e (some (.Attribute o (Str.ofString x) ap)) pos.line env=pure false)
  (h:EV W d cs e l H fun v H₁=>EV W d cs o l H₁ fun ov H₂=>∃ a C ks vs,ov=.ref a∧H₂ a=some (.inst C ks vs)∧kz W C x∧ks.length<1000∧Q .next l (H₂.put a (.inst C (dn ks vs x v).1 (dn ks vs x v).2))) :
  EX W d cs (.Assign [.Attribute o (Str.ofString x) ap] e pos) l H Q:=by
 refine Box.mk ?_;intro C news ow s Qr hc ho hs hk;refine plainObj_wpAny_Assign_Attribute (h.go C news ow s _ hc ho hs ?_) (hsw _);intro v U H₁ n₁ o₁ s₁ hs₁ le₁ os₁ vr₁ h₁;refine h₁.go C n₁ o₁ s₁ _ hc ho hs₁ ?_;intro ov U₂ H₂ n₂ o₂ s₂ hs₂ le₂ os₂ vr₂ h₂;cb_eq;rcases h₂ with ⟨a,K,ks,vs,rfl,hH,hset,hz,hq⟩;by_in;obtain rfl:=aP vr₂;exact kY ho hs₂ hH hset hz (vr₁.mono le₂) fun n₃ s₃ hs₃ le₃ os₃=>hk .next .next l _ n₃ o₂ s₃ hs₃ (Le.trans le₁ (Le.trans le₂ le₃)) (os₃.trans (os₂.trans os₁)) rfl hq
set_option tactic.hygienic true in
theorem tm {o e:Expr}{x:String}{ap pos:Pos}{op:Operator}{Q:Fl→Loc→MH→Prop}
  (h:EV W d cs o l H fun ov H₁=>∃ a,ov=.ref a∧T1 W d cs l H₁ (.ref a) (fun U=>getAttr U (Str.ofString x) true) fun old H₂=>EV W d cs e l H₂ fun v H₃=>T2 W d cs l H₃ old v (inplaceOp op) fun new H₄ =>
   ∃ C ks vs,H₄ a=some (.inst C ks vs)∧kz W C x∧ks.length<1000∧Q .next l (H₄.put a (.inst C (dn ks vs x new).1 (dn ks vs x new).2))) :
  EX W d cs (.AugAssign (.Attribute o (Str.ofString x) ap) op e pos) l H Q:=by
 refine Box.mk ?_;intro C news ow s Qr hc ho hs hk;refine wpAny_AugAssign_AttributeAny (h.go C news ow s _ hc ho hs ?_);intro v U H₁ n₁ o₁ s₁ hs₁ le₁ os₁ vr₁ h₁;cb_eq;rcases h₁ with ⟨a,rfl,h₁⟩;by_in;obtain rfl:=aP vr₁;refine h₁.go C n₁ o₁ s₁ _ _ hc ho hs₁ di ?_;intro old U₂ H₂ n₂ o₂ s₂ hs₂ le₂ os₂ vr₂ h₂;refine h₂.go C n₂ o₂ s₂ _ hc ho hs₂ ?_;intro v U₃ H₃ n₃ o₃ s₃ hs₃ le₃ os₃ vr₃ h₃;refine h₃.go C n₃ o₃ s₃ _ _ _ hc ho hs₃ (vr₂.mono le₃) vr₃ ?_;intro new U₄ H₄ n₄ o₄ s₄ hs₄ le₄ os₄ vr₄ h₄;cb_eq;rcases h₄ with ⟨K,ks,vs,hH,hset,hz,hq⟩;by_in;exact kY ho hs₄ hH hset hz vr₄ fun n₅ s₅ hs₅ le₅ os₅=>hk .next .next l _ n₅ o₄ s₅ hs₅ (Le.trans le₁ (Le.trans le₂ (Le.trans le₃ (Le.trans le₄ le₅)))) (os₅.trans (os₄.trans (os₃.trans (os₂.trans os₁)))) rfl hq
theorem cm {C:FC}{news:Led}{ow:Own}{s:Shared}(hs:St W C l H news ow s){p:Addr×Obj}(hp:p∈news):p.1<s.heap.objs.size:=Heap.lt_size (hs.nw p hp).1
theorem cz.own {P:Params}{fz fz':Fz}{news news':Led}{ow ow':Own}{b:Addr}{o:MO}(le:Le fz fz') (sub:∀ p∈news,p∈news') (oe:∀ p∈news,ow' p.1=ow p.1) (h:cz P fz news ow b o):cz P fz' news' ow' b o:=by
 cases o with
 | list vs =>
  cb_eq;rcases h with ⟨h0,n,Vs,h1,h2⟩;by_in;exact ⟨(oe _ h1).trans h0,n,Vs,sub _ h1,h2.mono le⟩
 | inst C ks vs =>
  cb_eq;rcases h with ⟨h0,dy,n,Es,h1,h2,h3,h4,h5⟩;by_in;exact ⟨(oe _ h2).trans h0,dy,n,Es,(oe _ h3).trans h1,sub _ h2,sub _ h3,h4,h5.mono le⟩
 | raw x=>exact ⟨(oe _ h.2).trans h.1,sub _ h.2⟩
 | dic ks vs =>
  cb_eq;rcases h with ⟨h0,hs,o,kvs,h1,h2,h4,h3⟩;by_in;exact ⟨(oe _ h1).trans h0,hs,o,kvs,sub _ h1,h2,h4,h3.mono le⟩
noncomputable def a8 (ow:Own) (a:Addr) (b:Option Addr):Own:=fun x=>if x=a then b else ow x
theorem du {news:Led}{ow:Own}{n:Addr}{o:Obj}{b:Option Addr}(lt:∀ p∈news,p.1<n):Le (fzS W news ow) (fzS W ((n,o)::news) (a8 ow n b)):=by
 intro x y h;rcases h with h | ⟨h,e⟩
 ·exact .inl h
 ·refine .inr ⟨.tail _ h,?_⟩;unfold a8;rw [if_neg (Nat.ne_of_lt (lt _ h))];exact e
theorem fh {C:FC}{news:Led}{ow:Own}{s:Shared}(hs:St W C l H news ow s){a:Addr}(ha:s.heap.objs.size≤a):H a=none:=by
 cases q:H a with
 | none=>rfl
 | some o =>
  have:=hs.hr a o q
  cases o with
  | list vs=>obtain ⟨_,n,Vs,h1,_⟩:=this;exact absurd (cm hs h1) (Nat.not_lt.mpr ha)
  | inst K ks vs=>obtain ⟨_,_,n,Vs,_,h1,_⟩:=this;exact absurd (cm hs h1) (Nat.not_lt.mpr ha)
  | raw x=>exact absurd (cm hs this.2) (Nat.not_lt.mpr ha)
  | dic ks vs=>obtain ⟨_,_,o,kvs,h1,_⟩:=this;exact absurd (cm hs h1) (Nat.not_lt.mpr ha)
theorem St.push {C:FC}{news:Led}{ow:Own}{s:Shared}{h':Heap}{o:Obj}{m:Str→Option Value}(hs:St W C l H news ow s) (lr:fO W.w.params (gL W.B news ow) l m){gg:Heap}(G:Gnd C gg) (F':Fr gg C.L h' m)
  (N':News gg C.L h' ((s.heap.objs.size,o)::news)) (b:Option Addr):St W C l H ((s.heap.objs.size,o)::news) (a8 ow s.heap.objs.size b) { s with heap:=h'}:=by
 have lt:∀ p∈news,p.1<s.heap.objs.size:=fun p hp=>cm hs hp;have le:=du (W:=W) (ow:=ow) (o:=o) (b:=b) lt;refine ⟨⟨gg,m,G,F',N',lr.mono le⟩,fun a x hx=>cz.own le (fun p hp=>.tail _ hp) (fun p hp=>by unfold a8;rw [if_neg (Nat.ne_of_lt (lt p hp))]) (hs.hr a x hx),?_,hs.gens,(Le.trans hs.le0 le),hs.os0⟩;rw [List.map_cons,List.nodup_cons];refine ⟨fun z=>?_,hs.nd⟩;obtain ⟨p,hp,e⟩:=List.mem_map.mp z;exact absurd (lt p hp) (by rw [e];exact Nat.lt_irrefl _)
theorem St.name {C:FC}{news:Led}{ow:Own}{s:Shared}{a:Addr}{o:MO}(hs:St W C l H news ow s) (h:cz W.w.params (fzS W news ow) news ow a o):St W C l (H.put a o) news ow s :=
 ⟨hs.fr,fun b x hb=>by
  unfold MH.put at hb
  by_cases e:b=a
  ·rw [if_pos e] at hb;cases hb;rw [e];exact h
  ·rw [if_neg e] at hb;exact hs.hr b x hb,hs.nd,hs.gens,hs.le0,hs.os0⟩
theorem fQ {es:List Expr}{k:Nat}{pos:Pos}{Q:V→MH→Prop}(h:EA W d cs es l H fun vs H'=>vs.length<1000000∧Q (.tup vs) H'):EV W d cs (.Tuple es k pos) l H Q:=by
 refine Box.mk ?_;intro C news ow s Qr hc ho hs hk;refine Tuple_ (h.go C news ow s _ pos hc ho hs ?_);intro vs Us H₁ n₁ o₁ s₁ hs₁ le₁ os₁ vr₁ h₁;cb_eq;rcases hs₁.fr with ⟨gg,m,G,F,N,lr⟩;by_in;have le:=du (W:=W) (ow:=o₁) (o:=rG Us) (b:=none) (fun p hp=>cm hs₁ hp);refine newTuple_N F N (fun h' F' N'=>?_) (by rw [←VRs.length vr₁,sizeLine_eq];omega);refine hk (.tup vs) _ H₁ _ (a8 o₁ s₁.heap.objs.size none) _ (hs₁.push lr G F' N' none) (Le.trans le₁ le) os₁ ?_ h₁.2;exact Exists.intro _ ⟨Us,rfl,.inr ⟨.head _,by unfold a8;exact if_pos rfl⟩,vr₁.mono le⟩
theorem fR {es:List Expr}{pos:Pos}{Q:V→MH→Prop}(h:EA W d cs es l H fun vs H'=>vs.length<1000000∧Q (.lst vs) H'):EV W d cs (.List es pos) l H Q:=by
 refine Box.mk ?_;intro C news ow s Qr hc ho hs hk;refine List_ (h.go C news ow s _ pos hc ho hs ?_);intro vs Us H₁ n₁ o₁ s₁ hs₁ le₁ os₁ vr₁ h₁;cb_eq;rcases hs₁.fr with ⟨gg,m,G,F,N,lr⟩;by_in;have le:=du (W:=W) (ow:=o₁) (o:=bq Us 0) (b:=none) (fun p hp=>cm hs₁ hp);refine newList_N F N (fun h' F' N'=>?_) (by rw [←VRs.length vr₁,sizeLine_eq];omega);refine hk (.lst vs) _ H₁ _ (a8 o₁ s₁.heap.objs.size none) _ (hs₁.push lr G F' N' none) (Le.trans le₁ le) os₁ ?_ h₁.2;exact Exists.intro _ ⟨0,Us,rfl,.inr ⟨.head _,by unfold a8;exact if_pos rfl⟩,vr₁.mono le⟩
theorem qa {es:List Expr}{pos:Pos}{Q:V→MH→Prop}(h:EA W d cs es l H fun vs H'=>vs.length<1000000∧∀ a,H' a=none→Q (.ref a) (H'.put a (.list vs))):EV W d cs (.List es pos) l H Q:=by
 refine Box.mk ?_;intro C news ow s Qr hc ho hs hk;refine List_ (h.go C news ow s _ pos hc ho hs ?_);intro vs Us H₁ n₁ o₁ s₁ hs₁ le₁ os₁ vr₁ h₁;cb_eq;rcases hs₁.fr with ⟨gg,m,G,F,N,lr⟩;by_in;have le:=du (W:=W) (ow:=o₁) (o:=bq Us 0) (b:=some s₁.heap.objs.size) (fun p hp=>cm hs₁ hp);refine newList_N F N (fun h' F' N'=>?_) (by rw [←VRs.length vr₁,sizeLine_eq];omega);refine hk (.ref s₁.heap.objs.size) _ _ _ (a8 o₁ s₁.heap.objs.size (some s₁.heap.objs.size)) _ ((hs₁.push lr G F' N' _).name ?_) (Le.trans le₁ le) os₁ di (h₁.2 _ (fh hs₁ (Nat.le_refl _)));exact ⟨if_pos rfl,0,Us,.head _,vr₁.mono le⟩
theorem St.drop {C:FC}{news:Led}{ow:Own}{s:Shared}(a:Addr) (hs:St W C l H news ow s):St W C l (H.drop a) news ow s :=
 ⟨hs.fr,fun b x hb=>by
  unfold MH.drop at hb
  by_cases e:b=a
  ·rw [if_pos e] at hb;cases hb
  ·rw [if_neg e] at hb;exact hs.hr b x hb,hs.nd,hs.gens,hs.le0,hs.os0⟩
noncomputable def eh (ow:Own) (a:Addr):Own:=fun x=>if ow x=some a then none else ow x
theorem zc {news:Led}{ow:Own}{a:Addr}:Le (fzS W news ow) (fzS W news (eh ow a)):=by
 intro x y h;rcases h with h | ⟨h,e⟩
 ·exact .inl h
 ·refine .inr ⟨h,?_⟩;unfold eh
  by_cases q:ow x=some a
  ·rw [if_pos q]
  ·rw [if_neg q];exact e
theorem cz.free {P:Params}{fz fz':Fz}{news:Led}{ow:Own}{a b:Addr}{o:MO}(le:Le fz fz') (ne:b≠a) (h:cz P fz news ow b o):cz P fz' news (eh ow a) b o:=by
 have k:∀ {x:Addr},ow x=some b→eh ow a x=some b:=fun hx=>by
  unfold eh;rw [if_neg (fun z=>ne (Option.some.inj (hx.symm.trans z)))];exact hx
 cases o with
 | list vs =>
  cb_eq;rcases h with ⟨h0,n,Vs,h1,h2⟩;by_in;exact ⟨k h0,n,Vs,h1,h2.mono le⟩
 | inst C ks vs =>
  cb_eq;rcases h with ⟨h0,dy,n,Es,h1,h2,h3,h4,h5⟩;by_in;exact ⟨k h0,dy,n,Es,k h1,h2,h3,h4,h5.mono le⟩
 | raw x=>exact ⟨k h.1,h.2⟩
 | dic ks vs =>
  cb_eq;rcases h with ⟨h0,hs,o,kvs,h1,h2,h4,h3⟩;by_in;exact ⟨k h0,hs,o,kvs,h1,h2,h4,h3.mono le⟩
noncomputable def pE:Addr→MO→V
 | _,.list vs=>.lst vs
 | _,.inst C ks vs=>.obj C ks vs
 | a,.raw _=>.ref a
 | a,.dic _ _=>.ref a
theorem St.freeze {C:FC}{news:Led}{ow:Own}{s:Shared}{a:Addr}{o:MO}(hs:St W C l H news ow s) (ha:H a=some o) :
  St W C l (H.drop a) news (eh ow a) s∧Le (fzS W news ow) (fzS W news (eh ow a))∧VRw W (fzS W news (eh ow a)) (pE a o) (.ref a):=by
 have le:=zc (W:=W) (news:=news) (ow:=ow) (a:=a);cb_eq;rcases hs.fr with ⟨gg,m,G,F,N,lr⟩;by_in;refine ⟨⟨⟨gg,m,G,F,N,lr.mono le⟩,fun b x hb=>?_,hs.nd,hs.gens,(Le.trans hs.le0 le),hs.os0⟩,le,?_⟩
 ·unfold MH.drop at hb
  by_cases e:b=a
  ·rw [if_pos e] at hb;cases hb
  ·rw [if_neg e] at hb;exact cz.free le e (hs.hr b x hb)
 ·have h:=hs.hr a o ha;have k:∀ {x:Addr},ow x=some a→eh ow a x=none:=fun hx=>by unfold eh;rw [if_pos hx]
  cases o with
  | list vs =>
   cb_eq;rcases h with ⟨h0,n,Vs,h1,h2⟩;by_in;exact Exists.intro a ⟨n,Vs,rfl,.inr ⟨h1,k h0⟩,h2.mono le⟩
  | inst K ks vs =>
   cb_eq;rcases h with ⟨h0,dy,n,Es,h1,h2,h3,h4,h5⟩;by_in;exact Exists.intro a ⟨dy,n,Es,rfl,.inr ⟨h2,k h0⟩,.inr ⟨h3,k h1⟩,h4,h5.mono le⟩
  | raw x=>exact di
  | dic _ _=>exact di
theorem jY {e:Expr}{Q:V→MH→Prop}(h:EV W d cs e l H fun v H'=>∃ a o,v=.ref a∧H' a=some o∧Q (pE a o) (H'.drop a)):EV W d cs e l H Q:=by
 refine Box.mk ?_;intro C news ow s Qr hc ho hs hk;refine h.go C news ow s Qr hc ho hs ?_;intro v U H' n' o' s' a b c dd q;cb_eq;rcases q with ⟨x,o,rfl,hx,hq⟩;rcases a.freeze hx with ⟨hs',le,vr⟩;by_in;obtain rfl:=aP dd;exact hk _ _ _ n' _ s' hs' (Le.trans b le) c vr hq
end
end Mine
end
section
open PySem PySem.W PySem.Calls PyProof.Rows
namespace Mine
section
variable {W:Wd}{d:Dx}{cs:Scope}{l:Loc}{H:MH}
noncomputable abbrev FC.lp (W:Wd) (C:FC):FC:={ C with E:=notedBy (Md W) C.A C.env (cameBackBy (Md W) C.A C.env C.E)}
theorem Gnd.lp {C:FC}{g:Heap}(h:Gnd C g):Gnd (C.lp W) g:=⟨h.turn,h.below,h.dicts⟩
theorem Gnd.unlp {C:FC}{g:Heap}(h:Gnd (C.lp W) g):Gnd C g:=⟨h.turn,h.below,h.dicts⟩
theorem St.lp {C:FC}{news:Led}{ow:Own}{s:Shared}(h:St W C l H news ow s):St W (C.lp W) l H news ow s:=⟨jO h.fr (fun ε G=>G.lp) fun ε x=>x,h.hr,h.nd,h.gens,h.le0,h.os0⟩
theorem St.unlp {C:FC}{news:Led}{ow:Own}{s:Shared}(h:St W (C.lp W) l H news ow s):St W C l H news ow s:=⟨jO h.fr (fun ε G=>G.unlp) fun ε x=>x,h.hr,h.nd,h.gens,h.le0,h.os0⟩
theorem oy {C:FC}(ho:C.Ok W d):(C.lp W).Ok W d:=by
 refine ⟨ho.frames,ho.handled,ho.kin0,ho.ext0,ho.top0,ho.fn,ho.room,ho.units,fun e s hr=>?_⟩;cb_eq;rcases hr with ⟨B,t,dx,T,k,H₁,n₁,o₁,r⟩;rcases r.fr with ⟨g,m,G',Gd,F,hB,s1,hn⟩;by_in;have back:∀ h' T',Fly B (C.env::C.outer) e W.xc t dx T' h'→fm h' B e T' (rawInt C.L)→s.heap.UpToSlots h'→cameBackBy (Md W) C.A C.env C.E (.ref e) { s with heap:=h'}:=fun h' T' x' t' sm=>by
  have x'':=x';cb_eq;rcases t' with ⟨b,o,ts,rfl,hb,hbe,ho',hd,h3⟩;by_in;unfold cameBackBy;refine wpAny_bind (wpAny_field x'.obj rfl (x:=.ref b) rfl ?_);rw [if_neg (by simp)];exact zl (f:=some C.L) x'' ⟨b,o,ts,rfl,hb,hbe,ho',hd,h3⟩ fun h'' x3 t3 sm'=>ho.exc e _ ⟨B,t,dx,_,k,H₁,n₁,o₁,r.stays,x3,.inr ⟨_,t3,.inr rfl⟩,r.nw,r.dict,r.x,r.hr,r.nd,r.gens,r.os,r.le,⟨g,m,G',Gd.unlp,F,hB,s1.trans (sm.trans sm'),hn⟩⟩
 show wpAny (Md W) C.A (noteFrame (.ref e) C.env) (fun ε s''=>cameBackBy (Md W) C.A C.env C.E (.ref e) s'') _ s;rcases r.tb with hT | ⟨fl,hT,rfl | rfl⟩
 ·exact fK (L:=C.L) ho.frames rfl r.fly (.inl hT) back
 ·exact fK (L:=C.L) ho.frames rfl r.fly (.inr hT) back
 ·exact jP (L:=C.L) rfl r.fly hT (back s.heap T r.fly hT (Heap.UpToSlots.refl _))
structure qe (W:Wd) (C fI:Addr):Prop where
 makes:makesIn W.K C=true
 init:findIn W.K (.ref C) "__init__" = some (some (.ref fI))
 fn:typeIn W.K (.ref fI)=some (.type "function")
theorem DH {K fI:Addr}{vs:List V}{Q:V→MH→Prop}(hc:qe W K fI)
  (h:∀ x,H x=none→CL W d l (H.put x (.inst K [] [])) fI (.ref x::vs) fun r H'=>r=.none∧Q (.ref x) H'):CV W d cs l H (.ref K) vs Q:=by
 refine Box.mk ?_;intro C news ow s Qr Us hcs ho hs vr hk;cb_eq;rcases hs.fr with ⟨gg,m,G,F,N,lr⟩;by_in;refine wpAny_call (make_K F N ((ho.kin G).keeps F.keep) hc.makes hc.init hc.fn ?_);intro x dx h' F' N' lt dlt;have xlt:∀ p∈news,p.1≠dx∧p.1≠x:=fun p hp=>⟨Nat.ne_of_lt (lt p hp),Nat.ne_of_lt (Nat.lt_trans (lt p hp) dlt)⟩
 -- the new ledger
 have le:Le (fzS W news ow) (fzS W ((x,instObj K dx)::(dx,emptyDict)::news) (a8 (a8 ow dx (some x)) x (some x))):=by
  intro a o h;rcases h with h | ⟨h,e⟩
  ·exact .inl h
  ·refine .inr ⟨.tail _ (.tail _ h),?_⟩;unfold a8;rw [if_neg (xlt _ h).2,if_neg (xlt _ h).1];exact e
 have hx:H x=none:=by
  cases q:H x with
  | none=>rfl
  | some o =>
   have:=hs.hr x o q
   cases o with
   | list vs=>obtain ⟨_,n,Vs,h1,_⟩:=this;exact absurd rfl (xlt _ h1).2
   | inst K ks vs=>obtain ⟨_,_,n,Vs,_,h1,_⟩:=this;exact absurd rfl (xlt _ h1).2
   | raw z=>exact absurd rfl (xlt _ this.2).2
   | dic ks vs=>obtain ⟨_,_,o,kvs,h1,_⟩:=this;exact absurd rfl (xlt _ h1).2
 have hs':St W C l (H.put x (.inst K [] [])) ((x,instObj K dx)::(dx,emptyDict)::news) (a8 (a8 ow dx (some x)) x (some x)) { s with heap:=h'}:=by
  refine ⟨⟨gg,m,G,F',N',lr.mono le⟩,?_,?_,hs.gens,(Le.trans hs.le0 le),hs.os0⟩
  ·intro b o hb;unfold MH.put at hb
   by_cases e:b=x
   ·rw [if_pos e] at hb
    cases hb
    subst e;refine ⟨if_pos rfl,dx,0,[],?_,.head _,.tail _ (.head _),trivial,trivial⟩;unfold a8;rw [if_neg (Nat.ne_of_lt dlt),if_pos rfl]
   ·rw [if_neg e] at hb;exact cz.own le (fun p hp=>.tail _ (.tail _ hp)) (fun p hp=>by unfold a8;rw [if_neg (xlt p hp).2,if_neg (xlt p hp).1]) (hs.hr b o hb)
  ·rw [List.map_cons,List.nodup_cons,List.map_cons,List.nodup_cons];refine ⟨fun z=>?_,fun z=>?_,hs.nd⟩
   ·rcases List.mem_cons.mp z with z | z
    ·exact absurd z (Nat.ne_of_gt dlt)
    ·obtain ⟨p,hp,e⟩:=List.mem_map.mp z;exact absurd e (xlt p hp).2
   ·obtain ⟨p,hp,e⟩:=List.mem_map.mp z;exact absurd e (xlt p hp).1
 refine (h x hx).go C _ _ _ _ _ (.ref x::Us) ho hs' (aY di (VRs.mono le vr)) ?_ ?_ ?_ ?_ ho.exc ?_
 ·exact Nat.add_le_add_left (m:=1) (Nat.le_of_ble_eq_true (by kernel_rfl)) C.A.depth
 ·exact Nat.add_le_add_left (m:=10) (Nat.le_of_ble_eq_true (by kernel_rfl)) C.A.units
 ·rfl
 ·rfl
 ·intro v U H' n' o' s' a b c dd q;obtain ⟨rfl,q⟩:=q;obtain rfl:=iY dd;exact ⟨rfl,hk _ _ H' n' o' s' a (Le.trans le b) c di q⟩
end
end Mine
end
section
open PySem PySem.W PySem.Calls PyProof.Rows
namespace Mine
section
variable {W:Wd}{d:Dx}{cs:Scope}{l:Loc}{H:MH}
noncomputable abbrev jp (W:Wd) (C:FC) (l:Loc) (fz:Fz) (os:OsState) (Q:Bool→MH→Prop) (Qr:Bool→Shared→Prop):Prop :=
 ∀ b H' news' ow' s',St W C l H' news' ow' s'→Le fz (fzS W news' ow')→s'.os=os→Q b H'→Qr b s'
theorem dG.le {C:FC}{fz fz':Fz}{os os':OsState}{Q:V→MH→Prop}{Qr:Value→Shared→Prop}(hk:dG W C l fz os Q Qr) (le:Le fz fz') (e:os'=os):dG W C l fz' os' Q Qr :=
 fun v U H' n' o' s' a b c dd q=>hk v U H' n' o' s' a (Le.trans le b) (c.trans e) dd q
theorem jp.le {C:FC}{fz fz':Fz}{os os':OsState}{Q:Bool→MH→Prop}{Qr:Bool→Shared→Prop}(hk:jp W C l fz os Q Qr) (le:Le fz fz') (e:os'=os):jp W C l fz' os' Q Qr :=
 fun v H' n' o' s' a b c q=>hk v H' n' o' s' a (Le.trans le b) (c.trans e) q
theorem my {e:Expr}{Q:Bool→MH→Prop}(he:∀ env whole,isTrue e env whole=(do let v ←whole;standAt e.pos;holding [v] (truthy v)))
  (h:EV W d cs e l H fun v H'=>∃ b,v=.bool b∧Q b H'):ET W d cs e l H Q:=by
 refine Box.mk ?_;intro C news ow s Qr hc ho hs hk;refine isTrue_plain (h.go C news ow s _ hc ho hs ?_) (he _ _);intro v U H' n' o' s' a b c dd q;cb_eq;rcases q with ⟨t,rfl,q⟩;by_in;obtain rfl:=bk dd;exact wpAny_truthy_bool (hk t H' n' o' s' a b c q)
theorem iQ {op:CmpOp}{e f:Expr}{pos:Pos}{Q:Bool→MH→Prop}(hm:behindInMarks op f=false)
  (h:EV W d cs e l H fun a H₁=>EV W d cs f l H₁ fun b H₂=>T2 W d cs l H₂ a b (compareOp op) fun c H₃=>∃ t,c=.bool t∧Q t H₃):ET W d cs (.Compare e [op] [f] pos) l H Q:=by
 refine Box.mk ?_;intro C news ow s Qr hc ho hs hk;refine wpAny_isTrue_Compare1 (h.go C news ow s _ hc ho hs ?_) hm;intro a U₁ H₁ n₁ o₁ s₁ hs₁ le₁ os₁ vr₁ h₁;refine h₁.go C n₁ o₁ s₁ _ hc ho hs₁ ?_;intro b U₂ H₂ n₂ o₂ s₂ hs₂ le₂ os₂ vr₂ h₂;refine h₂.go C n₂ o₂ s₂ _ U₁ U₂ hc ho hs₂ (vr₁.mono le₂) vr₂ ?_;intro c U₃ H₃ n₃ o₃ s₃ hs₃ le₃ os₃ vr₃ h₃;cb_eq;rcases h₃ with ⟨t,rfl,q⟩;by_in;obtain rfl:=bk vr₃;exact wpAny_truthy_bool (hk t H₃ n₃ o₃ s₃ hs₃ (Le.trans le₁ (Le.trans le₂ le₃)) (os₃.trans (os₂.trans os₁)) q)
theorem As {op op':CmpOp}{e f g:Expr}{pos:Pos}{Q:Bool→MH→Prop}(hm:lastMarks [op,op'] [f,g]=false)
  (h:EV W d cs e l H fun a H₁=>EV W d cs f l H₁ fun b H₂=>T2 W d cs l H₂ a b (compareOp op) fun c H₃=>∃ t,c=.bool t ∧
   if t then EV W d cs g l H₃ (fun b' H₄=>T2 W d cs l H₄ b b' (compareOp op') fun c' H₅=>∃ t',c'=.bool t'∧Q t' H₅) else Q false H₃):ET W d cs (.Compare e [op,op'] [f,g] pos) l H Q:=by
 refine Box.mk ?_;intro C news ow s Qr hc ho hs hk;refine isTrue_chain (ops:=[]) (rs:=[]) (h.go C news ow s _ hc ho hs ?_) hm;intro a U₁ H₁ n₁ o₁ s₁ hs₁ le₁ os₁ vr₁ h₁;refine test_link (h₁.go C n₁ o₁ s₁ _ hc ho hs₁ ?_);intro b U₂ H₂ n₂ o₂ s₂ hs₂ le₂ os₂ vr₂ h₂;refine h₂.go C n₂ o₂ s₂ _ U₁ U₂ hc ho hs₂ (vr₁.mono le₂) vr₂ ?_;intro c U₃ H₃ n₃ o₃ s₃ hs₃ le₃ os₃ vr₃ h₃;cb_eq;rcases h₃ with ⟨t,rfl,q⟩;by_in;obtain rfl:=bk vr₃;refine wpAny_truthy_bool ?_
 cases t with
 | false=>exact hk false H₃ n₃ o₃ s₃ hs₃ (Le.trans le₁ (Le.trans le₂ le₃)) (os₃.trans (os₂.trans os₁)) q
 | true =>
  refine test_last (q.go C n₃ o₃ s₃ _ hc ho hs₃ ?_);intro b' U₄ H₄ n₄ o₄ s₄ hs₄ le₄ os₄ vr₄ h₄;refine h₄.go C n₄ o₄ s₄ _ U₂ U₄ hc ho hs₄ (vr₂.mono (Le.trans le₃ le₄)) vr₄ ?_;intro c U₅ H₅ n₅ o₅ s₅ hs₅ le₅ os₅ vr₅ h₅;cb_eq;rcases h₅ with ⟨t',rfl,q'⟩;by_in;obtain rfl:=bk vr₅;exact wpAny_truthy_bool (hk t' H₅ n₅ o₅ s₅ hs₅ (Le.trans le₁ (Le.trans le₂ (Le.trans le₃ (Le.trans le₄ le₅)))) (os₅.trans (os₄.trans (os₃.trans (os₂.trans os₁)))) q')
theorem Ap {op op':CmpOp}{e f g:Expr}{pos:Pos}{Q:V→MH→Prop}(hm:lastMarks [op,op'] [f,g]=false)
  (h:EV W d cs e l H fun a H₁=>EV W d cs f l H₁ fun b H₂=>T2 W d cs l H₂ a b (compareOp op) fun c H₃=>∃ t,c=.bool t ∧
   if t then EV W d cs g l H₃ (fun b' H₄=>T2 W d cs l H₄ b b' (compareOp op') Q) else Q (.bool false) H₃):EV W d cs (.Compare e [op,op'] [f,g] pos) l H Q:=by
 refine Box.mk ?_;intro C news ow s Qr hc ho hs hk;refine Compare_chain (ops:=[]) (rs:=[]) (h.go C news ow s _ hc ho hs ?_) hm;intro a U₁ H₁ n₁ o₁ s₁ hs₁ le₁ os₁ vr₁ h₁;refine chain_link (h₁.go C n₁ o₁ s₁ _ hc ho hs₁ ?_);intro b U₂ H₂ n₂ o₂ s₂ hs₂ le₂ os₂ vr₂ h₂;refine h₂.go C n₂ o₂ s₂ _ U₁ U₂ hc ho hs₂ (vr₁.mono le₂) vr₂ ?_;intro c U₃ H₃ n₃ o₃ s₃ hs₃ le₃ os₃ vr₃ h₃;cb_eq;rcases h₃ with ⟨t,rfl,q⟩;by_in;obtain rfl:=bk vr₃;refine wpAny_truthy_bool ?_
 cases t with
 | false=>exact hk _ _ H₃ n₃ o₃ s₃ hs₃ (Le.trans le₁ (Le.trans le₂ le₃)) (os₃.trans (os₂.trans os₁)) aM q
 | true =>
  refine chain_last (q.go C n₃ o₃ s₃ _ hc ho hs₃ ?_);intro b' U₄ H₄ n₄ o₄ s₄ hs₄ le₄ os₄ vr₄ h₄;exact h₄.go C n₄ o₄ s₄ _ U₂ U₄ hc ho hs₄ (vr₂.mono (Le.trans le₃ le₄)) vr₄ (dG.le hk (Le.trans le₁ (Le.trans le₂ (Le.trans le₃ le₄))) (os₄.trans (os₃.trans (os₂.trans os₁))))
theorem qd {e:Expr}{pos:Pos}{Q:Bool→MH→Prop}(h:ET W d cs e l H fun b H'=>Q (!b) H'):ET W d cs (.UnaryOp .Not e pos) l H Q:=by
 refine Box.mk ?_;intro C news ow s Qr hc ho hs hk;refine isTrue_not (h.go C news ow s _ hc ho hs ?_);intro b H' n' o' s' a b' c q;exact hk _ H' n' o' s' a b' c q
theorem tv {pos:Pos}{Q:Bool→MH→Prop}(h:Q true H):ET W d cs (.BoolOp .And [] pos) l H Q:=by
 refine Box.mk ?_;intro C news ow s Qr hc ho hs hk;exact isTrue_and_nil (hk true H news ow s hs (Le.refl _) rfl h)
theorem nW {pos:Pos}{Q:Bool→MH→Prop}(h:Q false H):ET W d cs (.BoolOp .Or [] pos) l H Q:=by
 refine Box.mk ?_;intro C news ow s Qr hc ho hs hk;exact isTrue_or_nil (hk false H news ow s hs (Le.refl _) rfl h)
theorem DE {e:Expr}{r:List Expr}{pos:Pos}{Q:Bool→MH→Prop}(h:ET W d cs e l H fun b H'=>if b then ET W d cs (.BoolOp .And r pos) l H' Q else Q false H'):ET W d cs (.BoolOp .And (e::r) pos) l H Q:=by
 refine Box.mk ?_;intro C news ow s Qr hc ho hs hk;refine isTrue_and (h.go C news ow s _ hc ho hs ?_);intro b H' n' o' s' a le os q
 cases b with
 | false=>exact hk false H' n' o' s' a le os q
 | true=>exact q.go C n' o' s' Qr hc ho a (jp.le hk le os)
theorem tu {e:Expr}{r:List Expr}{pos:Pos}{Q:Bool→MH→Prop}(h:ET W d cs e l H fun b H'=>if b then Q true H' else ET W d cs (.BoolOp .Or r pos) l H' Q):ET W d cs (.BoolOp .Or (e::r) pos) l H Q:=by
 refine Box.mk ?_;intro C news ow s Qr hc ho hs hk;refine isTrue_or (h.go C news ow s _ hc ho hs ?_);intro b H' n' o' s' a le os q
 cases b with
 | true=>exact hk true H' n' o' s' a le os q
 | false=>exact q.go C n' o' s' Qr hc ho a (jp.le hk le os)
theorem EO {t e f:Expr}{pos:Pos}{Q:Bool→MH→Prop}(h:ET W d cs t l H fun b H'=>if b then ET W d cs e l H' Q else ET W d cs f l H' Q):ET W d cs (.IfExp t e f pos) l H Q:=by
 refine Box.mk ?_;intro C news ow s Qr hc ho hs hk;refine isTrue_IfExp (h.go C news ow s _ hc ho hs ?_);intro b H' n' o' s' a le os q
 cases b with
 | true=>exact q.go C n' o' s' Qr hc ho a (jp.le hk le os)
 | false=>exact q.go C n' o' s' Qr hc ho a (jp.le hk le os)
theorem tt {t e f:Expr}{pos:Pos}{Q:V→MH→Prop}(h:ET W d cs t l H fun b H'=>if b then EV W d cs e l H' Q else EV W d cs f l H' Q):EV W d cs (.IfExp t e f pos) l H Q:=by
 refine Box.mk ?_;intro C news ow s Qr hc ho hs hk;refine IfExp_ (h.go C news ow s _ hc ho hs ?_);intro b H' n' o' s' a le os q
 cases b with
 | true=>exact q.go C n' o' s' Qr hc ho a (dG.le hk le os)
 | false=>exact q.go C n' o' s' Qr hc ho a (dG.le hk le os)
theorem nD {op:BoolOp}{e:Expr}{pos:Pos}{Q:V→MH→Prop}(h:EV W d cs e l H Q):EV W d cs (.BoolOp op [e] pos) l H Q:=by
 refine Box.mk ?_;intro C news ow s Qr hc ho hs hk;exact BoolOp_one (h.go C news ow s Qr hc ho hs hk)
theorem rt {e f:Expr}{r:List Expr}{pos:Pos}{Q:V→MH→Prop}(h:EV W d cs e l H fun v H'=>∃ b,v=.bool b∧if b then EV W d cs (.BoolOp .And (f::r) pos) l H' Q else Q (.bool false) H'):EV W d cs (.BoolOp .And (e::f::r) pos) l H Q:=by
 refine Box.mk ?_;intro C news ow s Qr hc ho hs hk;refine BoolOp_and (h.go C news ow s _ hc ho hs ?_);intro v U H' n' o' s' a le os vr q;cb_eq;rcases q with ⟨b,rfl,q⟩;by_in;obtain rfl:=bk vr;refine wpAny_truthy_bool ?_
 cases b with
 | true=>exact q.go C n' o' s' Qr hc ho a (dG.le hk le os)
 | false=>exact hk _ _ H' n' o' s' a le os aM q
theorem DD {e f:Expr}{r:List Expr}{pos:Pos}{Q:V→MH→Prop}(h:EV W d cs e l H fun v H'=>∃ b,v=.bool b∧if b then Q (.bool true) H' else EV W d cs (.BoolOp .Or (f::r) pos) l H' Q):EV W d cs (.BoolOp .Or (e::f::r) pos) l H Q:=by
 refine Box.mk ?_;intro C news ow s Qr hc ho hs hk;refine BoolOp_or (h.go C news ow s _ hc ho hs ?_);intro v U H' n' o' s' a le os vr q;cb_eq;rcases q with ⟨b,rfl,q⟩;by_in;obtain rfl:=bk vr;refine wpAny_truthy_bool ?_
 cases b with
 | false=>exact q.go C n' o' s' Qr hc ho a (dG.le hk le os)
 | true=>exact hk _ _ H' n' o' s' a le os aM q
theorem DC {e:Expr}{pos:Pos}{Q:V→MH→Prop}(h:EV W d cs e l H fun v H'=>∃ b,v=.bool b∧Q (.bool (!b)) H'):EV W d cs (.UnaryOp .Not e pos) l H Q:=by
 refine Box.mk ?_;intro C news ow s Qr hc ho hs hk;refine UnaryOp_ (h.go C news ow s _ hc ho hs ?_);intro v U H' n' o' s' a le os vr q;cb_eq;rcases q with ⟨b,rfl,q⟩;by_in;obtain rfl:=bk vr;exact not_of (wpAny_truthy_bool (hk _ _ H' n' o' s' a le os aM q))
set_option tactic.hygienic true in
theorem ro {e:Expr}{pos:Pos}{Q:Fl→Loc→MH→Prop}(hi:∀ env:Env,env.scope.kind=.function→interactive env=false) (hs':∀ env,swapsWith e none pos.line env=pure false)
  (h:EV W d cs e l H fun v H'=>Q .next l H'):EX W d cs (.Expr e pos) l H Q:=by
 refine Box.mk ?_;intro C news ow s Qr hc ho hs hk;refine wpAny_Expr_any (h.go C news ow s _ hc ho hs ?_) (hi _ ho.fn) (hs' _);intro v U H' n' o' s' a le os vr q;exact hk .next .next l H' n' o' s' a le os rfl q
theorem tj {pos:Pos}{Q:Fl→Loc→MH→Prop}(h:Q (.ret .none) l H):EX W d cs (.Return none pos) l H Q:=by
 refine Box.mk ?_;intro C news ow s Qr hc ho hs hk;exact wpAny_Return_none (hk (.ret .none) (.ret .none) l H news ow s hs (Le.refl _) rfl ⟨_,rfl,j4⟩ h)
set_option tactic.hygienic true in
theorem Ai {pos:Pos}{Q:Fl→Loc→MH→Prop}(h:Q .next l H):EX W d cs (.Pass pos) l H Q:=by
 refine Box.mk ?_;intro C news ow s Qr hc ho hs hk;exact wpAny_Pass (hk .next .next l H news ow s hs (Le.refl _) rfl rfl h)
theorem xq {pos:Pos}{Q:Fl→Loc→MH→Prop}(h:Q .brk l H):EX W d cs (.Break pos) l H Q:=by
 refine Box.mk ?_;intro C news ow s Qr hc ho hs hk;show wpAny _ _ (do standAt pos;pure Flow.brk) _ _ _;exact wpAny_bind (wpAny_standAt (wpAny_pure (hk .brk .brk l H news ow s hs (Le.refl _) rfl rfl h)))
theorem qr {pos:Pos}{Q:Fl→Loc→MH→Prop}(h:Q .cont l H):EX W d cs (.Continue pos) l H Q:=by
 refine Box.mk ?_;intro C news ow s Qr hc ho hs hk;show wpAny _ _ (do standAt pos;pure Flow.cont) _ _ _;exact wpAny_bind (wpAny_standAt (wpAny_pure (hk .cont .cont l H news ow s hs (Le.refl _) rfl rfl h)))
set_option tactic.hygienic true in
theorem EX_augname {x:String}{np pos:Pos}{op:Operator}{e:Expr}{old:V}{Q:Fl→Loc→MH→Prop}(hv:dR l x=some old) (hl:cs.names.lookup (Str.ofString x)=some .local)
  (h:EV W d cs e l H fun v H₁=>T2 W d cs l H₁ old v (inplaceOp op) fun new H₂=>Q .next (ci l x new) H₂):EX W d cs (.AugAssign (.Name (Str.ofString x) np) op e pos) l H Q:=by
 refine Box.mk ?_;intro C news ow s Qr hc ho hs hk;cb_eq;rcases hs.fr with ⟨gg,m,G,F,N,lr⟩;rcases lr x old hv with ⟨U,hm,vr⟩;by_in;refine wpAny_AugAssign_Name (ldn F hm ?_ ho.fn (by subst hc;exact hl));refine h.go C news ow s _ hc ho hs ?_;intro v U₁ H₁ n₁ o₁ s₁ hs₁ le₁ os₁ vr₁ h₁;refine h₁.go C n₁ o₁ s₁ _ U U₁ hc ho hs₁ (VR.mono le₁ vr) vr₁ ?_;intro new U₂ H₂ n₂ o₂ s₂ hs₂ le₂ os₂ vr₂ h₂;exact ec hc ho hs₂ vr₂ hl fun s' hs' os'=>hk .next .next _ H₂ n₂ o₂ s' hs' (Le.trans le₁ le₂) (os'.trans (os₂.trans os₁)) rfl h₂
end
end Mine
end
section
open PySem PySem.W PySem.Calls PyProof.Rows
namespace Mine
section
variable {W:Wd}{d:Dx}{cs:Scope}{l:Loc}{H:MH}{i j:Int}{Q:V→MH→Prop}
theorem bD {t:Value→Value→Sem Value}{r:V}(h:∀ (A:Around) (E:Value→Shared→Prop) (s:Shared) (a b:Nat) (Qr:Value→Shared→Prop),(∀ U k,VR W.w.params (fun ε ε =>False) r U→Qr U { s with toks:=k})→wpAny (Md W) A (t (.int i a) (.int j b)) Qr E s) (hq:Q r H) :
  T2 W d cs l H (.int i) (.int j) t Q:=by
 refine Box.mk ?_;intro C news ow s Qr U U' hc ho hs v1 v2 hk;cb_eq;rcases aw v1 with ⟨a,rfl⟩;rcases aw v2 with ⟨b,rfl⟩;by_in;exact h _ _ _ _ _ _ fun U k hU=>hk r U H news ow _ hs.toks (Le.refl _) rfl (VR.mono (fun ε ε z=>z.elim) hU) hq
theorem mr (hq:Q (.int (i - j)) H):T2 W d cs l H (.int i) (.int j) (binaryOp .Sub) Q:=bD (fun ε ε ε ε ε ε h=>sub_int (h _ _ aZ)) hq
theorem ir (hq:Q (.int (i+j)) H):T2 W d cs l H (.int i) (.int j) (inplaceOp .Add) Q:=bD (fun ε ε ε ε ε ε h=>iadd_int (h _ _ aZ)) hq
theorem kQ (hq:Q (.int (i - j)) H):T2 W d cs l H (.int i) (.int j) (inplaceOp .Sub) Q:=bD (fun ε ε ε ε ε ε h=>P.isub_int (h _ _ aZ)) hq
theorem dN (hb:j≠0) (hq:Q (.int (i.fmod j)) H):T2 W d cs l H (.int i) (.int j) (binaryOp .Mod) Q:=bD (fun ε ε ε ε ε ε h=>mod_int hb (h _ _ aZ)) hq
theorem jm (hm:PySem.IntMulOk i j) (hq:Q (.int (i*j)) H):T2 W d cs l H (.int i) (.int j) (binaryOp .Mult) Q:=bD (fun ε ε ε ε ε ε h=>P.mul_int (h _ _ aZ) hm) hq
theorem kR (hb:j≠0) (hp:Builtin.divisionGoesByPylong i j=false) (hq:Q (.int (i.fdiv j)) H):T2 W d cs l H (.int i) (.int j) (binaryOp .FloorDiv) Q:=bD (fun ε ε ε ε ε ε h=>floordiv_int hb (h _ _ aZ) (.inl hp)) hq
theorem jV (hq:Q (.bool (decide (i<j))) H):T2 W d cs l H (.int i) (.int j) (compareOp .Lt) Q:=bD (fun ε ε s ε ε ε h=>lt_int (h _ s.toks aM)) hq
theorem uY (hq:Q (.bool (decide (i≤j))) H):T2 W d cs l H (.int i) (.int j) (compareOp .LtE) Q:=bD (fun ε ε s ε ε ε h=>P.le_int (h _ s.toks aM)) hq
theorem gb (hq:Q (.bool (decide (j<i))) H):T2 W d cs l H (.int i) (.int j) (compareOp .Gt) Q:=bD (fun ε ε s ε ε ε h=>gt_int (h _ s.toks aM)) hq
theorem jW (hq:Q (.bool (decide (j≤i))) H):T2 W d cs l H (.int i) (.int j) (compareOp .GtE) Q:=bD (fun ε ε s ε ε ε h=>P.ge_int (h _ s.toks aM)) hq
theorem dC (hq:Q (.bool (i==j)) H):T2 W d cs l H (.int i) (.int j) (compareOp .Eq) Q:=bD (fun ε ε s ε ε ε h=>eq_int (h _ s.toks aM)) hq
theorem ie (hq:Q (.bool (i != j)) H):T2 W d cs l H (.int i) (.int j) (compareOp .NotEq) Q:=bD (fun ε ε s ε ε ε h=>ne_int (h _ s.toks aM)) hq
theorem kw {x y:Str}{t:Value→Value→Sem Value}{r:V}(h:∀ (A:Around) (E:Value→Shared→Prop) (s:Shared) (a b:Nat) (Qr:Value→Shared→Prop),(∀ U k,VR W.w.params (fun ε ε =>False) r U→Qr U { s with toks:=k})→wpAny (Md W) A (t (.str x a) (.str y b)) Qr E s) (hq:Q r H) :
  T2 W d cs l H (.str x) (.str y) t Q:=by
 refine Box.mk ?_;intro C news ow s Qr U U' hc ho hs v1 v2 hk;cb_eq;rcases aD v1 with ⟨a,rfl⟩;rcases aD v2 with ⟨b,rfl⟩;by_in;exact h _ _ _ _ _ _ fun U k hU=>hk r U H news ow _ hs.toks (Le.refl _) rfl (VR.mono (fun ε ε z=>z.elim) hU) hq
theorem lG {x y:Str}:(x.cps.toList==y.cps.toList)=decide (x=y):=by
 rw [Bool.eq_iff_iff,beq_iff_eq,decide_eq_true_iff]
 constructor
 ·intro h;cases x;cases y;simp only [Str.mk.injEq];exact Array.toList_inj.mp h
 ·rintro rfl;rfl
theorem vl {x y:Str}(hq:Q (.bool (decide (x=y))) H):T2 W d cs l H (.str x) (.str y) (compareOp .Eq) Q:=kw (fun ε ε s ε ε ε h=>P.eq_str (by rw [lG];exact h _ s.toks aM)) hq
theorem uU {x y:Str}(hq:Q (.bool (!decide (x=y))) H):T2 W d cs l H (.str x) (.str y) (compareOp .NotEq) Q:=kw (fun ε ε s ε ε ε h=>P.ne_str (by rw [bne,lG];exact h _ s.toks aM)) hq
noncomputable def iE:V→Bool
 | .none=>true
 | _=>false
theorem nH {P:Params}{fz:Fz}{v:V}{U:Value}(h:VR P fz v U):(U==.none)=iE v:=by
 cases v
 case none=>subst h;rfl
 case bool=>subst h;rfl
 case int=>obtain ⟨t,rfl⟩:=h;rfl
 case str=>obtain ⟨t,rfl⟩:=h;rfl
 case ref=>subst h;rfl
 case bi=>subst h;rfl
 case ty=>subst h;rfl
 case lst=>obtain ⟨_,_,_,rfl,_⟩:=h;rfl
 case tup=>obtain ⟨_,_,rfl,_⟩:=h;rfl
 case dct=>obtain ⟨_,_,_,rfl,_⟩:=h;rfl
 case obj=>obtain ⟨_,_,_,_,rfl,_⟩:=h;rfl
theorem ta {v:V}(hq:Q (.bool (iE v)) H):T2 W d cs l H v .none (compareOp .Is) Q:=by
 refine Box.mk ?_;intro C news ow s Qr U U' hc ho hs v1 v2 hk;obtain rfl:=iY v2;exact is_none_gen (by rw [nH v1];exact hk _ _ H news ow s hs (Le.refl _) rfl aM hq)
theorem nZ {v:V}(hq:Q (.bool (!iE v)) H):T2 W d cs l H v .none (compareOp .IsNot) Q:=by
 refine Box.mk ?_;intro C news ow s Qr U U' hc ho hs v1 v2 hk;obtain rfl:=iY v2;exact isnot_none_gen (by rw [nH v1];exact hk _ _ H news ow s hs (Le.refl _) rfl aM hq)
end
end Mine
end
section
open PySem PySem.W PySem.Calls PyProof.Rows
namespace Mine
section
variable {W:Wd}{d:Dx}{cs:Scope}{l:Loc}{H:MH}
theorem dl {e f:Expr}{pos:Pos}{Q:V→MH→Prop}
  (h:EV W d cs e l H fun a H₁=>EV W d cs f l H₁ fun b H₂=>T2 W d cs l H₂ a b (subscriptTail e f) Q):EV W d cs (.Subscript e f pos) l H Q:=by
 refine Box.mk ?_;intro C news ow s Qr hc ho hs hk;refine Subscript_ (h.go C news ow s _ hc ho hs ?_);intro a U₁ H₁ n₁ o₁ s₁ hs₁ le₁ os₁ vr₁ h₁;refine h₁.go C n₁ o₁ s₁ _ hc ho hs₁ ?_;intro b U₂ H₂ n₂ o₂ s₂ hs₂ le₂ os₂ vr₂ h₂;exact h₂.go C n₂ o₂ s₂ Qr U₁ U₂ hc ho hs₂ (vr₁.mono le₂) vr₂ fun v U H' n' o' s' a b c d q=>hk v U H' n' o' s' a (Le.trans le₁ (Le.trans le₂ b)) (c.trans (os₂.trans os₁)) d q
noncomputable def eg:Expr→Bool
 | .Slice _ _ _ _=>false
 | _=>true
theorem cb {f:Expr}{o i:Value}(h:eg f=true):subscripted f false o i=operate [o,i] (getItem o i):=by
 cases f<;>first | rfl | cases h
theorem kP {e f:Expr}{x:Str}{i:Int}{c:Nat}{Q:V→MH→Prop}(hp:eg f=true) (h0:0≤i) (h1:i<2 ^ 60) (hx:x.cps[i.toNat]? = some c) (hq:Q (.str ⟨#[c]⟩) H) :
  T2 W d cs l H (.str x) (.int i) (subscriptTail e f) Q:=by
 refine Box.mk ?_;intro C news ow s Qr U U' hc ho hs v1 v2 hk;cb_eq;rcases aD v1 with ⟨a,rfl⟩;rcases aw v2 with ⟨b,rfl⟩;by_in;have hlt:i.toNat<x.cps.size:=by
  rcases Nat.lt_or_ge i.toNat x.cps.size with z | z
  ·exact z
  ·rw [Array.getElem?_eq_none z] at hx;cases hx
 refine tail_any (typeIs_str s x a) slot_str_getitem.lookup (P.getItem_str (c:=c) ?_ ?_ ?_) (cb hp)
 ·have:¬i < -(2 ^ 63:Int):=by omega
  have h2:¬i≥2 ^ 63:=by omega
  rw [decide_eq_false this,decide_eq_false h2];rfl
 ·rw [seqIndex_of h0 (by show i<((x.cps.size:Nat):Int);omega)];exact hx
 ·exact hk _ _ H news ow _ hs.toks (Le.refl _) rfl bN hq
theorem ce {P:Params}{fz:Fz}{vs:List V}{U:Value}(h:VR P fz (.tup vs) U):∃ a Vs,U=.ref a∧fz a (rG Vs)∧VRs P fz vs Vs:=h
theorem bI {P:Params}{fz:Fz}{vs:List V}{U:Value}(h:VR P fz (.lst vs) U):∃ a n Vs,U=.ref a∧fz a (bq Vs n)∧VRs P fz vs Vs:=h
theorem gY {P:Params}{fz:Fz}{ks:List String}{vs:List V}{U:Value}(h:VR P fz (.dct ks vs) U):∃ a n Es,U=.ref a∧(a==sysModules)=false∧fz a (dictOf Es n)∧fo P ks Es∧VRs P fz vs (Es.map (·.val)):=h
theorem qn {e f:Expr}{vs:List V}{i:Int}{v:V}{Q:V→MH→Prop}(hp:eg f=true) (h0:0≤i) (h1:i<2 ^ 60) (hx:vs[i.toNat]? = some v) (hq:Q v H) :
  T2 W d cs l H (.tup vs) (.int i) (subscriptTail e f) Q:=by
 refine Box.mk ?_;intro C news ow s Qr U U' hc ho hs v1 v2 hk;cb_eq;rcases ce v1 with ⟨a,Vs,rfl,fa,vr⟩;rcases aw v2 with ⟨b,rfl⟩;rcases vr.get hx with ⟨U,hU,vU⟩;by_in;have hlt:i.toNat<Vs.length:=by
  rcases Nat.lt_or_ge i.toNat Vs.length with z | z
  ·exact z
  ·rw [List.getElem?_eq_none z] at hU;cases hU
 exact item_tupleT ⟨_,bh ho hs fa,rfl,0,rfl⟩ (by omega) (by omega) (seqIndex_of h0 (by omega)) hU (hk _ _ H news ow _ hs (Le.refl _) rfl vU hq) (cb hp)
theorem cg {e f:Expr}{vs:List V}{i:Int}{v:V}{Q:V→MH→Prop}(hp:eg f=true) (h0:0≤i) (h1:i<2 ^ 60) (hx:vs[i.toNat]? = some v) (hq:Q v H) :
  T2 W d cs l H (.lst vs) (.int i) (subscriptTail e f) Q:=by
 refine Box.mk ?_;intro C news ow s Qr U U' hc ho hs v1 v2 hk;cb_eq;rcases bI v1 with ⟨a,n,Vs,rfl,fa,vr⟩;rcases aw v2 with ⟨b,rfl⟩;rcases vr.get hx with ⟨U,hU,vU⟩;by_in;have hl:s.heap.IsList a Vs.toArray:=⟨_,bh ho hs fa,rfl,n,rfl⟩;exact tail_any hl.typeIs slot_list_getitem.lookup (wpAny_getItem_list hl h0 (by omega) (by simpa using hU) (hk _ _ H news ow _ hs (Le.refl _) rfl vU hq)) (cb hp)
theorem dB {e f:Expr}{a:Addr}{vs:List V}{i:Int}{v:V}{Q:V→MH→Prop}(hp:eg f=true) (hH:H a=some (.list vs)) (h0:0≤i) (h1:i<2 ^ 60) (hx:vs[i.toNat]? = some v) (hq:Q v H) :
  T2 W d cs l H (.ref a) (.int i) (subscriptTail e f) Q:=by
 refine Box.mk ?_;intro C news ow s Qr U U' hc ho hs v1 v2 hk;obtain rfl:=aP v1;cb_eq;rcases aw v2 with ⟨b,rfl⟩;rcases hs.hr a _ hH with ⟨ho',n,Vs,hm,vr⟩;rcases vr.get hx with ⟨U,hU,vU⟩;by_in;have hl:s.heap.IsList a Vs.toArray:=⟨_,(hs.nw _ hm).1,rfl,n,rfl⟩;exact tail_any hl.typeIs slot_list_getitem.lookup (wpAny_getItem_list hl h0 (by omega) (by simpa using hU) (hk _ _ H news ow _ hs (Le.refl _) rfl vU hq)) (cb hp)
theorem qs {e lo hi:Expr}{pos sp:Pos}{Q:V→MH→Prop}
  (h:EV W d cs e l H fun a H₁=>EV W d cs lo l H₁ fun b H₂=>EV W d cs hi l H₂ fun c H₃=>∃ x i j,a=.str x∧b=.int i∧c=.int j∧x.length≤sizeLine∧Q (.str (Txt.slice x (some i) (some j))) H₃) :
  EV W d cs (.Subscript e (.Slice (some lo) (some hi) none sp) pos) l H Q:=by
 refine Box.mk ?_;intro C news ow s Qr hc ho hs hk;refine Subscript_ (h.go C news ow s _ hc ho hs ?_);intro a U₁ H₁ n₁ o₁ s₁ hs₁ le₁ os₁ vr₁ h₁;refine wpAny_Slice ?_;refine h₁.go C n₁ o₁ s₁ _ hc ho hs₁ ?_;intro b U₂ H₂ n₂ o₂ s₂ hs₂ le₂ os₂ vr₂ h₂;refine h₂.go C n₂ o₂ s₂ _ hc ho hs₂ ?_;intro c U₃ H₃ n₃ o₃ s₃ hs₃ le₃ os₃ vr₃ h₃;cb_eq;rcases h₃ with ⟨x,i,j,rfl,rfl,rfl,hsz,hq⟩;rcases aD vr₁ with ⟨t,rfl⟩;rcases aw vr₂ with ⟨t₂,rfl⟩;rcases aw vr₃ with ⟨t₃,rfl⟩;rcases hs₃.fr with ⟨gg,m,G,F,N,lr⟩;have it:=SBH.sliceItem_ss (prog:=W.prog) (w:=W.w) (A:=C.A) (E:=C.E) (t:=t) (ui:=t₂) (uj:=t₃) (Q:=Qr) keptFrN (⟨F,N⟩:Fr gg C.L s₃.heap m∧News gg C.L s₃.heap n₃) (fun h' t' k z=>hk (.str (Txt.slice x (some i) (some j))) (.str (Txt.slice x (some i) (some j)) t') H₃ n₃ o₃ { s₃ with heap:=h',toks:=k} ⟨⟨gg,m,G,z.1,z.2,lr⟩,hs₃.hr,hs₃.nd,hs₃.gens,hs₃.le0,hs₃.os0⟩ (Le.trans le₁ (Le.trans le₂ le₃)) (os₃.trans (os₂.trans os₁)) bN hq) hsz;rcases it with ⟨T,id,hl,hT,hg⟩;by_in;exact wpAny_pure (tail_any hT hl hg rfl)
end
end Mine
end
section
open PySem PySem.W PySem.Calls PyProof.Rows
namespace Mine
section
variable {W:Wd}{d:Dx}{cs:Scope}{l:Loc}{H:MH}
theorem ei {C:FC}{id:String}{news:Led}{ow:Own}{s:Shared}{first:List V}{Fs:List Value}{es:List Expr}{pos:Pos}{Q:V→MH→Prop}{Qr:Value→Shared→Prop}
  (hc:C.cs=cs) (ho:C.Ok W d) (hs:St W C l H news ow s) (hp:es.all aE=true) (vf:gr W (fzS W news ow) first Fs)
  (h:EA W d cs es l H fun vs H₁=>CV W d cs l H₁ (.builtin id) (first++vs) Q) (hk:dG W C l (fzS W news ow) s.os Q Qr) :
  wpAny (Md W) C.A (callWith pos (.builtin id) Fs (backTo pos (starEach es C.env)) []) Qr C.E s:=by
 have main:∀ pos,wpAny (Md W) C.A (spliced (backTo pos (starEach es C.env))) (fun vs s₁=>wpAny (Md W) C.A (call (.builtin id) (Fs++vs)) Qr C.E s₁) C.E s:=by
  intro pos;refine h.go C news ow s _ pos hc ho hs ?_;intro vs Us H₁ n₁ o₁ s₁ hs₁ le₁ os₁ vr₁ h₁;exact h₁.go C n₁ o₁ s₁ Qr _ hc ho hs₁ ((VRs.mono le₁ vf).append vr₁) fun v U H' n' o' s' a b c d q=>hk v U H' n' o' s' a (Le.trans le₁ b) (c.trans os₁) d q
 cases es with
 | nil =>
  refine callWith_builtin (args:=[]) rfl ?_;have:wpAny (Md W) C.A (spliced []) (fun vs s₁=>wpAny (Md W) C.A (call (.builtin id) (Fs++vs)) Qr C.E s₁) C.E s:=main pos;refine evalArgs_nil3 ?_;intro Γ p hΓ;have z:=this Γ p hΓ;unfold spliced at z;exact z Γ p hΓ
 | cons e r =>
  obtain ⟨a,b⟩:=Bool.and_eq_true_iff.mp (List.all_cons▸hp);exact callWith_method1 (main pos) (bw a) (cR b)
theorem qm {C:FC}{T:String}{news:Led}{ow:Own}{s:Shared}{e:Expr}{es:List Expr}{pos:Pos}{Q:V→MH→Prop}{Qr:Value→Shared→Prop}
  (hc:C.cs=cs) (ho:C.Ok W d) (hs:St W C l H news ow s) (hp:(e::es).all aE=true)
  (h:EA W d cs (e::es) l H fun vs H₁=>CV W d cs l H₁ (.type T) vs Q) (hk:dG W C l (fzS W news ow) s.os Q Qr) :
  wpAny (Md W) C.A (callWith pos (.type T) [] (backTo pos (starEach (e::es) C.env)) []) Qr C.E s:=by
 obtain ⟨a,b⟩:=Bool.and_eq_true_iff.mp (List.all_cons▸hp);refine PyProof.Rows.callWith_type1 ?_ (bw a) (cR b);refine h.go C news ow s _ pos hc ho hs ?_;intro vs Us H₁ n₁ o₁ s₁ hs₁ le₁ os₁ vr₁ h₁;exact h₁.go C n₁ o₁ s₁ Qr _ hc ho hs₁ vr₁ fun v U H' n' o' s' a b c d q=>hk v U H' n' o' s' a (Le.trans le₁ b) (c.trans os₁) d q
structure fA (W:Wd) (cs:Scope) (x:Str) (v:Value):Prop where
 kind:cs.names.lookup x=some .globalImplicit
 miss:W.mg x=none
 at':W.mb x=some v
 ok:(x==("__debug__" : Str))=false
theorem eC {x:Str}{np pos:Pos}{id:String}{es:List Expr}{Q:V→MH→Prop}(hn:fA W cs x (.builtin id)) (hp:es.all aE=true)
  (h:EA W d cs es l H fun vs H₁=>CV W d cs l H₁ (.builtin id) vs Q):EV W d cs (.Call (.Name x np) es [] pos) l H Q:=by
 refine Box.mk ?_;intro C news ow s Qr hc ho hs hk;cb_eq;rcases hs.fr with ⟨gg,m,G,F,N,lr⟩;by_in;refine Call_ ?_ (by rfl);refine ld_builtin_at F (ho.top G).g hn.miss (ho.top G).b hn.at' ?_ ho.fn (by subst hc;exact hn.kind) hn.ok;exact ei (first:=[]) hc ho hs hp bv h hk
theorem qb {x:Str}{np pos:Pos}{T:String}{e:Expr}{es:List Expr}{Q:V→MH→Prop}(hn:fA W cs x (.type T)) (hp:(e::es).all aE=true)
  (h:EA W d cs (e::es) l H fun vs H₁=>CV W d cs l H₁ (.type T) vs Q):EV W d cs (.Call (.Name x np) (e::es) [] pos) l H Q:=by
 refine Box.mk ?_;intro C news ow s Qr hc ho hs hk;cb_eq;rcases hs.fr with ⟨gg,m,G,F,N,lr⟩;by_in;refine Call_ ?_ (by rfl);refine ld_builtin_at F (ho.top G).g hn.miss (ho.top G).b hn.at' ?_ ho.fn (by subst hc;exact hn.kind) hn.ok;exact qm hc ho hs hp h hk
theorem An {x:Str}{np:Pos}{v:V}{U:Value}{Q:V→MH→Prop}(hl:cs.names.lookup x=some .globalImplicit) (hg:W.mg x=some U) (hd:(x==("__debug__" : Str))=false)
  (hv:VR W.w.params (fun a o=>W.K.lookup a=some o) v U) (hq:Q v H):EV W d cs (.Name x np) l H Q:=by
 refine Box.mk ?_;intro C news ow s Qr hc ho hs hk;cb_eq;rcases hs.fr with ⟨gg,m,G,F,N,lr⟩;by_in;exact ld_global_at F (ho.top G).g hg (hk v U H news ow s hs (Le.refl _) rfl (VR.mono (fun ε ε z=>.inl (.inl z)) hv) hq) ho.fn (by subst hc;exact hl) hd
theorem bX {P:Params}{fz:Fz}{v:V}{Us:List Value}(h:VRs P fz [v] Us):∃ U,Us=[U]∧VR P fz v U:=by
 cases Us with
 | nil=>exact h.elim
 | cons U r=>cases r with
  | nil=>exact ⟨U,rfl,h.1⟩
  | cons _ _=>exact h.2.elim
theorem fD {P:Params}{fz:Fz}{v v':V}{Us:List Value}(h:VRs P fz [v,v'] Us):∃ U U',Us=[U,U']∧VR P fz v U∧VR P fz v' U':=by
 cases Us with
 | nil=>exact h.elim
 | cons U r =>
  cb_eq;rcases bX (v:=v') h.2 with ⟨U',rfl,h'⟩;by_in;exact ⟨U,U',rfl,h.1,h'⟩
theorem jx {P:Params}{fz:Fz}{v v' v'':V}{Us:List Value}(h:VRs P fz [v,v',v''] Us):∃ U U' U'',Us=[U,U',U'']∧VR P fz v U∧VR P fz v' U'∧VR P fz v'' U'':=by
 cases Us with
 | nil=>exact h.elim
 | cons U r =>
  cb_eq;rcases fD (v:=v') h.2 with ⟨U',U'',rfl,h',h''⟩;by_in;exact ⟨U,U',U'',rfl,h.1,h',h''⟩
theorem jr {x:Str}{Q:V→MH→Prop}(hz:x.length<2 ^ 60) (hq:Q (.int (x.length:Int)) H):CV W d cs l H (.builtin "len") [.str x] Q:=by
 refine Box.mk ?_;intro C news ow s Qr Us hc ho hs vr hk;cb_eq;rcases bX vr with ⟨U,rfl,v1⟩;rcases aD v1 with ⟨t,rfl⟩;by_in;exact PySem.P.len_str (by omega) (hk _ _ H news ow _ hs.toks (Le.refl _) rfl aZ hq)
theorem kT {a:Addr}{vs:List V}{Q:V→MH→Prop}(hH:H a=some (.list vs)) (hz:vs.length<2 ^ 60) (hq:Q (.int (vs.length:Int)) H):CV W d cs l H (.builtin "len") [.ref a] Q:=by
 refine Box.mk ?_;intro C news ow s Qr Us hc ho hs vr hk;cb_eq;rcases bX vr with ⟨U,rfl,v1⟩;by_in;obtain rfl:=aP v1;cb_eq;rcases hs.hr a _ hH with ⟨ho',n,Vs,hm,vr⟩;by_in;have hl:s.heap.IsList a Vs.toArray:=⟨_,(hs.nw _ hm).1,rfl,n,rfl⟩;have e:Vs.toArray.size=vs.length:=by simp [VRs.length vr]
 exact len_list hl (by rw [e];omega) (by rw [e];exact hk _ _ H news ow _ hs.toks (Le.refl _) rfl aZ hq)
theorem gz {vs:List V}{Q:V→MH→Prop}(hz:vs.length<2 ^ 60) (hq:Q (.int (vs.length:Int)) H):CV W d cs l H (.builtin "len") [.lst vs] Q:=by
 refine Box.mk ?_;intro C news ow s Qr Us hc ho hs vr hk;cb_eq;rcases bX vr with ⟨U,rfl,v1⟩;rcases bI v1 with ⟨a,n,Vs,rfl,fa,vr⟩;by_in;have hl:s.heap.IsList a Vs.toArray:=⟨_,bh ho hs fa,rfl,n,rfl⟩;have e:Vs.toArray.size=vs.length:=by simp [VRs.length vr]
 exact len_list hl (by rw [e];omega) (by rw [e];exact hk _ _ H news ow _ hs.toks (Le.refl _) rfl aZ hq)
theorem DG {c:Nat}{Q:V→MH→Prop}(hq:Q (.int (c:Int)) H):CV W d cs l H (.builtin "ord") [.str ⟨#[c]⟩] Q:=by
 refine Box.mk ?_;intro C news ow s Qr Us hc ho hs vr hk;cb_eq;rcases bX vr with ⟨U,rfl,v1⟩;rcases aD v1 with ⟨t,rfl⟩;by_in;exact PySem.P.ord_of_char (hk _ _ H news ow _ hs.toks (Le.refl _) rfl aZ hq)
theorem DL {i:Int}{Q:V→MH→Prop}(h0:0≤i) (h1:i≤0x10FFFF) (hq:Q (.str ⟨#[i.toNat]⟩) H):CV W d cs l H (.builtin "chr") [.int i] Q:=by
 refine Box.mk ?_;intro C news ow s Qr Us hc ho hs vr hk;cb_eq;rcases bX vr with ⟨U,rfl,v1⟩;rcases aw v1 with ⟨t,rfl⟩;by_in;exact PySem.P.chr_of_int (by rw [decide_eq_false (Int.not_lt.mpr h0),decide_eq_false (by omega)];rfl) (hk _ _ H news ow _ hs.toks (Le.refl _) rfl bN hq)
end
end Mine
end
section
open PySem PySem.W PySem.Calls PyProof.Rows
namespace Mine
section
variable {W:Wd}{d:Dx}{cs:Scope}{l:Loc}{H:MH}
theorem cj {C:FC}{news:Led}{ow:Own}{s:Shared}{a:Addr}{vs:List V}(hs:St W C l H news ow s) (hH:H a=some (.list vs)) :
  ∃ n Vs,s.heap.get? a=some (bq Vs n)∧(a,bq Vs n)∈news∧gr W (fzS W news ow) vs Vs ∧
   ∀ n' Vs' vs' h',gr W (fzS W news ow) vs' Vs'→Heap.SameBut a s.heap h'→h'.get? a=some (bq Vs' n') →
    ∃ news',St W C l (H.put a (.list vs')) news' ow { s with heap:=h'}∧Le (fzS W news ow) (fzS W news' ow):=by
 cb_eq;rcases hs.fr with ⟨gg,m,G,F,N,lr⟩;rcases hs.hr a _ hH with ⟨hw,n,Vs,h1,hvs⟩;by_in;have g:=N _ h1;refine ⟨n,Vs,g.1,h1,hvs,?_⟩;intro n' Vs' vs' h' vr' hsb hg;cb_eq;rcases jz (o':=bq Vs' n') hs.nd h1 with ⟨news',Up,mp,hin,hback,hon⟩;by_in;have le:Le (fzS W news ow) (fzS W news' ow):=jH hw hon;refine ⟨news',⟨⟨gg,m,G,F.change hsb g.2.1 g.2.2,?_,lr.mono le⟩,?_,by rw [mp];exact hs.nd,hs.gens,(Le.trans hs.le0 le),hs.os0⟩,le⟩
 ·cb_eq;rcases Up.split with ⟨pre,post,e1,e2,p1,p2⟩;by_in;rw [e2];have N:=N;rw [e1] at N;exact news_set N p1 p2 hsb hg
 ·intro b o hb;unfold MH.put at hb
  by_cases e:b=a
  ·subst e;rw [if_pos rfl] at hb
   cases hb
   exact ⟨hw,n',Vs',hin,vr'.mono le⟩
  ·rw [if_neg e] at hb;exact cz.upd le hw e hon (hs.hr b o hb)
theorem kU {P:Params}{fz:Fz}:∀ {vs:List V}{Us:List Value}(n:Nat),VRs P fz vs Us→VRs P fz (vs.take n) (Us.take n)
 | _,_,0,_=>by simp;exact bv
 | [],[],n+1,_=>by simp;exact bv
 | v::vs,U::Us,n+1,h=>by simp only [List.take_succ_cons];exact aY h.1 (kU n h.2)
 | [],_::_,_+1,h=>h.elim
 | _::_,[],_+1,h=>h.elim
theorem vF {a:Addr}{vs:List V}{v:V}{Q:V→MH→Prop}(hH:H a=some (.list vs)) (hz:vs.length<1000000) (hq:Q .none (H.put a (.list (vs++[v])))):CV W d cs l H (.builtin "list.append") [.ref a,v] Q:=by
 refine Box.mk ?_;intro C news ow s Qr Us hc ho hs vr hk;cb_eq;rcases fD vr with ⟨U,U',rfl,v1,v2⟩;by_in;obtain rfl:=aP v1;cb_eq;rcases cj hs hH with ⟨n,Vs,g,hm,vrs,k⟩;by_in;refine append_at g (fun h' hsb hg=>?_) (by rw [List.size_toArray,←VRs.length vrs,sizeLine_eq];omega);rw [List.push_toArray] at hg;obtain ⟨news',st,le⟩:=k _ _ _ h' (vrs.append (aY v2 bv)) hsb hg;exact hk .none .none _ _ _ _ st le rfl j4 hq
theorem DF {a:Addr}{vs:List V}{v:V}{Q:V→MH→Prop}(hH:H a=some (.list (vs++[v]))) (hz:vs.length<1000000) (hq:Q v (H.put a (.list vs))):CV W d cs l H (.builtin "list.pop") [.ref a] Q:=by
 refine Box.mk ?_;intro C news ow s Qr Us hc ho hs vr hk;cb_eq;rcases bX vr with ⟨U,rfl,v1⟩;by_in;obtain rfl:=aP v1;cb_eq;rcases cj hs hH with ⟨n,Vs,g,hm,vrs,k⟩;have e:Vs.length=vs.length+1:=by rw [←VRs.length vrs];simp
 rcases vrs.get (i:=vs.length) (v:=v) (by simp) with ⟨U,hU,vU⟩;by_in;refine Copied.pop_at (y:=U) g ?_ (fun h' hsb hg=>?_) (by rw [List.size_toArray,e,sizeLine_eq];omega)
 ·simpa [e] using hU
 ·rw [List.pop_toArray] at hg;have vd:VRs W.w.params (fzS W news ow) vs (Vs.take vs.length):=by
   have:=kU vs.length vrs
   simpa using this
  have ed:Vs.dropLast=Vs.take vs.length:=by rw [List.dropLast_eq_take,e];rfl
  rw [ed] at hg;obtain ⟨news',st,le⟩:=k _ _ _ h' vd hsb hg;exact hk v U _ _ _ _ st le rfl (vU.mono le) hq
theorem ny {a:Addr}{vs:List V}{x:Str}{id:String}{es:List Expr}{Q:V→MH→Prop}(hH:H a=some (.list vs)) (slot:Slot "list" x id) (hty:typeOf (.builtin id)=pure (.type "method_descriptor")) (hp:es.all aE=true)
  (h:EA W d cs es l H fun us H₂=>CV W d cs l H₂ (.builtin id) (.ref a::us) Q):MC W d cs l H (.ref a) x es Q:=by
 refine Box.mk ?_;intro C' news ow s Qr U pl pos hcs ho hs vr hk;obtain rfl:=aP vr;cb_eq;rcases cj hs hH with ⟨n,Vs,g,hm,vrs,k⟩;by_in;exact listMethod_K hs.nw hm slot hty (ei (first:=[.ref a]) hcs ho hs hp (aY di bv) h hk)
theorem pY {x nm:Str}{id:String}{es:List Expr}{Q:V→MH→Prop}(slot:Slot "str" nm id) (hty:typeOf (.builtin id)=pure (.type "method_descriptor")) (hp:es.all aE=true)
  (h:EA W d cs es l H fun us H₂=>CV W d cs l H₂ (.builtin id) (.str x::us) Q):MC W d cs l H (.str x) nm es Q:=by
 refine Box.mk ?_;intro C' news ow s Qr U pl pos hcs ho hs vr hk;obtain ⟨t,rfl⟩:=aD vr;have key:wpAny (Md W) C'.A (callWith pos (.builtin id) [.str x t] (backTo pos (starEach es C'.env)) []) Qr C'.E s:=ei (first:=[.str x]) hcs ho hs hp (aY bN bv) h hk
 with_reducible exact GM.of (.str x t) (typeIs_str s x t) slot hty GM.noRef key
theorem nF {x y:Str}{i:Int}{Q:V→MH→Prop}(hq:Q (.bool (Txt.startswith3 x y i)) H):CV W d cs l H (.builtin "str.startswith") [.str x,.str y,.int i] Q:=by
 refine Box.mk ?_;intro C n o s Qr Us hc ho hs vr hk;cb_eq;rcases jx vr with ⟨U₁,U₂,U₃,rfl,v1,v2,v3⟩;rcases aD v1 with ⟨t₁,rfl⟩;rcases aD v2 with ⟨t₂,rfl⟩;rcases aw v3 with ⟨t₃,rfl⟩;by_in;exact SC.startswith3 (hk _ _ H n o s hs (Le.refl _) rfl aM hq)
theorem dI {P:Params}{fz:Fz}:∀ {xs:List Str}{Us:List Value},VRs P fz (xs.map .str) Us→StrsAre Us xs
 | [],[],_=>.nil
 | x::xs,U::Us,h=>by
  obtain ⟨t,rfl⟩:=aD h.1;exact .cons _ _ (dI h.2)
 | [],_::_,h=>h.elim
 | _::_,[],h=>h.elim
theorem fH {P:Params}{fz:Fz}:∀ {xs:List Int}{Us:List Value},VRs P fz (xs.map .int) Us→IntsAre Us xs
 | [],[],_=>.nil
 | x::xs,U::Us,h=>by
  obtain ⟨t,rfl⟩:=aw h.1;exact .cons _ _ (fH h.2)
 | [],_::_,h=>h.elim
 | _::_,[],h=>h.elim
theorem Au {a:Addr}{x:Str}{ys:List Str}{Q:V→MH→Prop}(hH:H a=some (.list (ys.map .str))) (hok:(ys.map (·.length)).sum+ys.length*x.length≤16777216) (hq:Q (.str (Txt.join x ys)) H):CV W d cs l H (.builtin "str.join") [.str x,.ref a] Q:=by
 refine Box.mk ?_;intro C news ow s Qr Us hc ho hs vr hk;cb_eq;rcases fD vr with ⟨U₁,U₂,rfl,v1,v2⟩;rcases aD v1 with ⟨t,rfl⟩;by_in;obtain rfl:=aP v2;cb_eq;rcases cj hs hH with ⟨n,Vs,g,hm,vrs,k⟩;by_in;exact join_list ⟨_,g,rfl,n,rfl⟩ (dI vrs) hok fun t' k=>hk _ _ H news ow _ hs.toks (Le.refl _) rfl bN hq
theorem nn {k:Str}{ys:List Str}{Q:V→MH→Prop}(hq:Q (.bool (ys.any (· == k))) H):T2 W d cs l H (.str k) (.tup (ys.map .str)) (compareOp .In) Q:=by
 refine Box.mk ?_;intro C news ow s Qr U U' hc ho hs v1 v2 hk;cb_eq;rcases aD v1 with ⟨t,rfl⟩;rcases ce v2 with ⟨a,Vs,rfl,fa,vr⟩;by_in;refine SeqAt.in_tupleAt (isStrOf k) ⟨_,bh ho hs fa,rfl,0,rfl⟩ (fun y hy=>(eq_isStrOf k t (dI vr) y (by simpa using hy)).at _ _) ?_;rw [←Array.any_toList,show Vs.toArray.toList=Vs from rfl,any_isStrOf k (dI vr)];exact hk _ _ H news ow s hs (Le.refl _) rfl aM hq
theorem kE {k:Str}{ys:List Str}{Q:V→MH→Prop}(hq:Q (.bool (!ys.any (· == k))) H):T2 W d cs l H (.str k) (.tup (ys.map .str)) (compareOp .NotIn) Q:=by
 refine Box.mk ?_;intro C news ow s Qr U U' hc ho hs v1 v2 hk;cb_eq;rcases aD v1 with ⟨t,rfl⟩;rcases ce v2 with ⟨a,Vs,rfl,fa,vr⟩;by_in;refine SeqAt.notIn_tupleAt (isStrOf k) ⟨_,bh ho hs fa,rfl,0,rfl⟩ (fun y hy=>(eq_isStrOf k t (dI vr) y (by simpa using hy)).at _ _) ?_;rw [←Array.any_toList,show Vs.toArray.toList=Vs from rfl,any_isStrOf k (dI vr)];exact hk _ _ H news ow s hs (Le.refl _) rfl aM hq
theorem nq {k:Str}{ys:List Str}{Q:V→MH→Prop}(hq:Q (.bool (ys.any (· == k))) H):T2 W d cs l H (.str k) (.lst (ys.map .str)) (compareOp .In) Q:=by
 refine Box.mk ?_;intro C news ow s Qr U U' hc ho hs v1 v2 hk;cb_eq;rcases aD v1 with ⟨t,rfl⟩;rcases bI v2 with ⟨a,n,Vs,rfl,fa,vr⟩;by_in;exact in_list_strs ⟨_,bh ho hs fa,rfl,n,rfl⟩ (dI vr) (hk _ _ H news ow s hs (Le.refl _) rfl aM hq)
theorem nv {k:Int}{ys:List Int}{Q:V→MH→Prop}(hq:Q (.bool (ys.any (· == k))) H):T2 W d cs l H (.int k) (.lst (ys.map .int)) (compareOp .In) Q:=by
 refine Box.mk ?_;intro C news ow s Qr U U' hc ho hs v1 v2 hk;cb_eq;rcases aw v1 with ⟨t,rfl⟩;rcases bI v2 with ⟨a,n,Vs,rfl,fa,vr⟩;by_in;refine in_list_ints ⟨_,bh ho hs fa,rfl,n,rfl⟩ (fH vr) ?_;exact hk _ _ H news ow s hs (Le.refl _) rfl aM hq
theorem mv {x y:Str}{Q:V→MH→Prop}(hz:x.length+y.length<1000000) (hq:Q (.str (x++y)) H):T2 W d cs l H (.str x) (.str y) (binaryOp .Add) Q:=by
 refine kw (r:=.str (x++y)) (fun A E s a b Qr h=>P.add_str ?_) hq;have e:∀ z:Str,(z.length==0)=true→z.cps = #[]:=fun z h=>Array.size_eq_zero_iff.mp (by have:=eq_of_beq h;exact this)
 by_cases hx:(x.length==0)=true
 ·rw [if_pos hx];have:x++y=y:=by cases x;cases y;have:=e _ hx;simp only at this;subst this;show Str.mk (#[]++_)=_;simp
  rw [this] at h;exact h _ s.toks bN
 ·rw [if_neg hx]
  by_cases hy:(y.length==0)=true
  ·rw [if_pos hy];have:x++y=x:=by cases x;cases y;have:=e _ hy;simp only at this;subst this;show Str.mk (_ ++ #[])=_;simp
   rw [this] at h;exact h _ s.toks bN
  ·rw [if_neg hy];refine ⟨?_,h _ _ bN⟩;show (x.cps++y.cps).size≤_;rw [Array.size_append,sizeLine_eq];have:x.cps.size+y.cps.size<1000000:=hz;omega
end
end Mine
end
section
open PySem PySem.W PySem.Calls PyProof.Rows
namespace Mine
noncomputable def i4:Loc→List String→List V→Loc
 | l,x::xs,v::vs=>i4 (ci l x v) xs vs
 | l,_,_=>l
theorem y9 (l:Loc) (x:String) (xs:List String) (v:V) (vs:List V):i4 l (x::xs) (v::vs)=i4 (ci l x v) xs vs:=rfl
section
variable {W:Wd}{d:Dx}{cs:Scope}{l:Loc}{H:MH}
theorem St.extBut {C:FC}{news:Led}{ow:Own}{s:Shared}{h':Heap}{b:Addr}(hs:St W C l H news ow s) (he:Heap.ExtBut b s.heap h') (hb:s.heap.objs.size≤b):St W C l H news ow { s with heap:=h'}:=by
 cb_eq;rcases hs.fr with ⟨gg,m,G,F,N,lr⟩;by_in;refine ⟨⟨gg,m,G,F.extBut he hb,fun p hp=>?_,lr⟩,hs.hr,hs.nd,hs.gens,hs.le0,hs.os0⟩;obtain ⟨a,b',c⟩:=N p hp;exact ⟨he _ _ (Nat.ne_of_lt (Nat.lt_of_lt_of_le (Heap.lt_size a) hb)) a,b',c⟩
noncomputable def dc (env:Env):List String→List (Value→Sem Unit)→Prop
 | [],[]=>True
 | x::xs,f::fs=>(∀ (M:Model) (A:Around) (E:Value→Shared→Prop) (s:Shared) (v:Value) (Q:Unit→Shared→Prop),wpAny M A (storeName env (Str.ofString x) v) Q E s→wpAny M A (f v) Q E s)∧dc env xs fs
 | _,_=>False
theorem dc.length {env:Env}:∀ {xs:List String}{fs:List (Value→Sem Unit)},dc env xs fs→fs.length=xs.length
 | [],[],_=>rfl
 | _::xs,_::fs,h=>by simp [dc.length h.2]
 | [],_::_,h=>h.elim
 | _::_,[],h=>h.elim
theorem gQ {C:FC}(hc:C.cs=cs) (ho:C.Ok W d):∀ {xs:List String}{fs:List (Value→Sem Unit)}{vs:List V}{Us:List Value}{l:Loc}{news:Led}{ow:Own}{s:Shared}{Qr:Unit→Shared→Prop},
  (∀ x∈xs,cs.names.lookup (Str.ofString x)=some .local)→dc C.env xs fs→xs.length=vs.length→St W C l H news ow s→gr W (fzS W news ow) vs Us→(∀ s',St W C (i4 l xs vs) H news ow s'→s'.os=s.os→Qr () s') →
  wpAny (Md W) C.A (assignInOrder fs Us) Qr C.E s
 | [],[],[],[],l,news,ow,s,Qr,_,_,_,hs,_,hk=>wpAny_pure (hk s hs rfl)
 | x::xs,f::fs,v::vs,U::Us,l,news,ow,s,Qr,hl,hf,hn,hs,vr,hk=>by
  show wpAny _ _ (do holding Us (f U);assignInOrder fs Us) _ _ _;refine wpAny_bind (wpAny_holding (hf.1 _ _ _ _ _ _ (ec hc ho hs vr.1 (hl x (.head _)) fun s' hs' os'=>?_)));exact gQ hc ho (fun y hy=>hl y (.tail _ hy)) hf.2 (by simpa using hn) hs' vr.2 fun s'' a b=>hk s'' a (b.trans os')
 | [],_::_,_,_,_,_,_,_,_,_,h,_,_,_,_=>h.elim
 | _::_,[],_,_,_,_,_,_,_,_,h,_,_,_,_=>h.elim
 | [],_,_::_,_,_,_,_,_,_,_,_,hn,_,_,_=>by simp at hn
 | _::_,_,[],_,_,_,_,_,_,_,_,hn,_,_,_=>by simp at hn
 | [],_,[],_::_,_,_,_,_,_,_,_,_,_,vr,_=>vr.elim
 | _::_,_,_::_,[],_,_,_,_,_,_,_,_,_,vr,_=>vr.elim
set_option tactic.hygienic true in
theorem ii {elts:List Expr}{k:Nat}{tpos pos:Pos}{e:Expr}{xs:List String}{Q:Fl→Loc→MH→Prop}
  (hsw:∀ env,swapsWithSole [.Tuple elts k tpos] e pos.line env=pure false) (hw:∀ cn L a cd,swappedStores [.Tuple elts k tpos] e (envOf cn cs L a cd)=pure none)
  (hst:∀ env,dc env xs ((assignEach elts env).map (·.2))) (hstar:∀ env,(assignEach elts env).findIdx? (·.1)=none) (hl:∀ x∈xs,cs.names.lookup (Str.ofString x)=some .local)
  (h:EV W d cs e l H fun v H'=>∃ vs,v=.tup vs∧vs.length=xs.length∧Q .next (i4 l xs vs) H'):EX W d cs (.Assign [.Tuple elts k tpos] e pos) l H Q:=by
 refine Box.mk ?_;intro C news ow s Qr hc ho hs hk;refine Assign_Tuple (h.go C news ow s _ hc ho hs ?_) (hsw _) (by have:=hw C.cn C.L C.a C.cd;rw [←hc] at this;exact this);intro v U H₁ n₁ o₁ s₁ hs₁ le₁ os₁ vr₁ h₁;cb_eq;rcases h₁ with ⟨vs,rfl,hn,hq⟩;rcases ce vr₁ with ⟨a,Vs,rfl,fa,vr⟩;by_in;have ht:IsTup s₁.heap a Vs.toArray:=⟨_,bh ho hs₁ fa,rfl,0,rfl⟩;have hlen:(assignEach elts C.env).length=Vs.toArray.size:=by
  have:=dc.length (hst C.env);rw [List.length_map] at this;rw [this,List.size_toArray,←VRs.length vr,hn]
 refine assign_Tuple_tuple ho.handled ht hlen (hstar _) fun h' he=>?_;refine gQ hc ho hl (hst _) hn.symm (hs₁.extBut he (Nat.le_refl _)) vr fun s' a b=>?_;exact hk .next .next _ H₁ n₁ o₁ s' a le₁ (b.trans os₁) rfl hq
theorem ju {env:Env}{xs:List String}:∀ {ys:List String},ys=xs→dc env ys ((ys.map Str.ofString).map fun n=>bindName env n)
 | [],_=>trivial
 | y::ys,_=>⟨fun M A E s v Q h=>wpAny_bindName h,ju (xs:=ys) rfl⟩
theorem kJ {P:Params}{fz:Fz}:∀ {vs:List V}{Us:List Value},VRs P fz vs Us→VRs P fz vs.reverse Us.reverse
 | [],[],h=>h
 | v::vs,U::Us,h=>by rw [List.reverse_cons,List.reverse_cons];exact (kJ h.2).append (aY h.1 bv)
 | [],_::_,h=>h.elim
 | _::_,[],h=>h.elim
set_option tactic.hygienic true in
theorem jo {elts:List Expr}{k:Nat}{tpos pos:Pos}{e:Expr}{xs:List String}{Q:Fl→Loc→MH→Prop}
  (hsw:∀ env,swapsWithSole [.Tuple elts k tpos] e pos.line env=pure false) (hw:∀ cn L a cd,swappedStores [.Tuple elts k tpos] e (envOf cn cs L a cd)=pure (some (xs.map Str.ofString)))
  (hl:∀ x∈xs,cs.names.lookup (Str.ofString x)=some .local)
  (h:EV W d cs e l H fun v H'=>∃ vs,v=.tup vs∧vs.length=xs.length∧Q .next (i4 l xs.reverse vs.reverse) H'):EX W d cs (.Assign [.Tuple elts k tpos] e pos) l H Q:=by
 refine Box.mk ?_;intro C news ow s Qr hc ho hs hk;refine Assign_Tuple_swapped (names:=xs.map Str.ofString) (h.go C news ow s _ hc ho hs ?_) (hsw _) (by have:=hw C.cn C.L C.a C.cd;rw [←hc] at this;exact this);intro v U H₁ n₁ o₁ s₁ hs₁ le₁ os₁ vr₁ h₁;cb_eq;rcases h₁ with ⟨vs,rfl,hn,hq⟩;rcases ce vr₁ with ⟨a,Vs,rfl,fa,vr⟩;by_in;have ht:IsTup s₁.heap a Vs.toArray:=⟨_,bh ho hs₁ fa,rfl,0,rfl⟩;have hlen:(xs.map Str.ofString).length=Vs.toArray.size:=by rw [List.length_map,List.size_toArray,←VRs.length vr,hn]
 rw [hlen];refine unpackItems_tuple ho.handled ht fun h' he=>?_;rw [←List.map_reverse];refine gQ hc ho (fun x hx=>hl x (List.mem_reverse.mp hx)) (ju rfl) (by simp [hn]) (hs₁.extBut he (Nat.le_refl _)) (kJ vr) fun s' a b=>?_;exact hk .next .next _ H₁ n₁ o₁ s' a le₁ (b.trans os₁) rfl hq
end
end Mine
end
section
open PySem PySem.W PySem.Calls PyProof.Rows
namespace Mine
theorem k8 {H:MH}{a:Addr}{o:MO}(h:H a=none):(H.put a o).drop a=H:=by
 funext b
 unfold MH.drop MH.put
 by_cases e:b=a
 ·rw [if_pos e,e];exact h.symm
 ·rw [if_neg e,if_neg e]
section
variable {W:Wd}{d:Dx}{cs:Scope}{l:Loc}{H:MH}
theorem St.pushRaw {C:FC}{news:Led}{ow:Own}{s:Shared}(o:Obj) (hf:o.isFreed=false) (hs:St W C l H news ow s) :
  H s.heap.objs.size=none∧∃ news' ow',St W C l (H.put s.heap.objs.size (.raw o)) news' ow' { s with heap:=s.heap.push o}∧Le (fzS W news ow) (fzS W news' ow'):=by
 cb_eq;rcases hs.fr with ⟨gg,m,G,F,N,lr⟩;by_in;refine ⟨fh hs (Nat.le_refl _),_,_,(hs.push (o:=o) lr G (F.push _) (News.push F N _ hf) (some s.heap.objs.size)).name ⟨if_pos rfl,.head _⟩,du fun p hp=>cm hs hp⟩
theorem cW {C:FC}{news:Led}{ow:Own}{s:Shared}{it:Addr}{o:Obj}(hs:St W C l H news ow s) (h:H it=some (.raw o)):s.heap.get? it=some o:=(hs.nw _ (hs.hr _ _ h).2).1
theorem oX {C:FC}{news:Led}{ow:Own}{s:Shared}{it:Addr}{o o':Obj}{h':Heap}(hs:St W C l (H.put it (.raw o)) news ow s) (hsb:Heap.SameBut it s.heap h') (hg:h'.get? it=some o') :
  ∃ news',St W C l (H.put it (.raw o')) news' ow { s with heap:=h'}∧Le (fzS W news ow) (fzS W news' ow):=by
 cb_eq;rcases hs.fr with ⟨gg,m,G,F,N,lr⟩;rcases hs.hr it (.raw o) (if_pos rfl) with ⟨hw,h1⟩;have g:=N _ h1;rcases jz (o':=o') hs.nd h1 with ⟨news',Up,mp,hin,hback,hon⟩;by_in;have le:Le (fzS W news ow) (fzS W news' ow):=jH hw hon;refine ⟨news',⟨⟨gg,m,G,F.change hsb g.2.1 g.2.2,?_,lr.mono le⟩,?_,by rw [mp];exact hs.nd,hs.gens,(Le.trans hs.le0 le),hs.os0⟩,le⟩
 ·cb_eq;rcases Up.split with ⟨pre,post,e1,e2,p1,p2⟩;by_in;rw [e2];have N:=N;rw [e1] at N;exact news_set N p1 p2 hsb hg
 ·intro b x hb;unfold MH.put at hb
  by_cases e:b=it
  ·subst e;rw [if_pos rfl] at hb
   cases hb
   exact ⟨hw,hin⟩
  ·rw [if_neg e] at hb;exact cz.upd le hw e hon (hs.hr b x (by unfold MH.put;rw [if_neg e];exact hb))
theorem qJ {C:FC}{news:Led}{ow:Own}{s:Shared}{it:Addr}{o:Obj}{h':Heap}(hs:St W C l (H.put it (.raw o)) news ow s) (hn:H it=none) (he:Heap.ExtBut it s.heap h') :
  ∃ news',St W C l H news' ow { s with heap:=h'}∧Le (fzS W news ow) (fzS W news' ow):=by
 cb_eq;rcases hs.fr with ⟨gg,m,G,F,N,lr⟩;rcases hs.hr it (.raw o) (if_pos rfl) with ⟨hw,h1⟩;by_in;have g:=N _ h1;have hon:∀ p∈news,p.1≠it→p∈news.filter (fun p=>p.1 != it):=fun p hp ne=>List.mem_filter.mpr ⟨hp,by simpa using ne⟩;have le:Le (fzS W news ow) (fzS W (news.filter fun p=>p.1 != it) ow):=jH hw hon;refine ⟨news.filter fun p=>p.1 != it,⟨⟨gg,m,G,⟨F.ns.extBut he (Ne.symm g.2.1),fun b x e=>he b x (fun z=>by rw [z,g.2.2] at e;cases e) (F.keep b x e),F.above⟩,?_,lr.mono le⟩,?_,?_,hs.gens,(Le.trans hs.le0 le),hs.os0⟩,le⟩
 ·intro p hp;cb_eq;rcases List.mem_filter.mp hp with ⟨hp,ne⟩;rcases N p hp with ⟨a,b,c⟩;by_in;exact ⟨he _ _ (by simpa using ne) a,b,c⟩
 ·intro b x hb;have ne:b≠it:=fun z=>by rw [z,hn] at hb;cases hb
  exact cz.upd le hw ne hon (hs.hr b x (by unfold MH.put;rw [if_neg ne];exact hb))
 ·exact List.Nodup.sublist (List.Sublist.map _ List.filter_sublist) hs.nd
structure oA (W:Wd) (fz:Fz) (it:Addr) (vs:List V) (R:Nat→Obj→Prop):Prop where
 item:∀ (A:Around) (i:Nat) (v:V),vs[i]? = some v→∀ (s:Shared) (E:Value→Shared→Prop) (Qr:Option Value→Shared→Prop) (o:Obj),(∀ a o,fz a o→s.heap.get? a=some o)→s.heap.get? it=some o→R i o →
  (∀ U h' tk o',VR W.w.params fz v U→h'.get? it=some o'→R (i+1) o'→Heap.SameBut it s.heap h'→Qr (some U) { s with heap:=h',toks:=tk})→wpAny (Md W) A (pyNext (.ref it)) Qr E s
 last:∀ (A:Around),A.handled=none→∀ (s:Shared) (E:Value→Shared→Prop) (Qr:Option Value→Shared→Prop) (o:Obj),(∀ a o,fz a o→s.heap.get? a=some o)→s.heap.get? it=some o→R vs.length o →
  (∀ h',Heap.ExtBut it s.heap h'→Qr none { s with heap:=h'})→wpAny (Md W) A (pyNext (.ref it)) Qr E s
set_option tactic.hygienic true in
theorem gy {C:FC}{x:String}{px:Pos}{body:List Stmt}{it:Addr}{vs:List V}{R:Nat→Obj→Prop}{I:Nat→Loc→MH→Prop}{Q:Fl→Loc→MH→Prop}{news:Led}{ow:Own}{s:Shared}{o:Obj}{Qr:Flow→Shared→Prop}{fz:Fz}{os:OsState}
  (hc:C.cs=cs) (ho:C.Ok W d) (hl:cs.names.lookup (Str.ofString x)=some .local) (G:oA W fz it vs R) (hs:St W C l (H.put it (.raw o)) news ow s) (hn:H it=none) (hR:R 0 o) (hle:Le fz (fzS W news ow)) (hos:s.os=os) (h0:I 0 l H)
  (step:∀ i v l H o,vs[i]? = some v→I i l H→H it=none→EXS W d cs body (ci l x v) (H.put it (.raw o)) fun f l' H'=>∃ H'',H'=H''.put it (.raw o)∧H'' it=none∧match f with
   | .next | .cont=>I (i+1) l' H'' | .brk=>Q .next l' H'' | .ret v=>Q (.ret v) l' H'')
  (done:∀ l H,I vs.length l H→Q .next l H)
  (hk:tw W C fz os Q Qr) :
  codeAny (Md W) C.A (.forLoop (.Name (Str.ofString x) px) (.ref it) body [] C.env) (fun r s'=>match r with | .ok f=>Qr f s' | .error e=>cameBackBy (Md W) C.A C.env C.E e s') s:=by
 refine codeAny_forLoop (fun k s'=>∃ i l' H' news' ow' o,k=vs.length - i∧i≤vs.length∧I i l' H'∧H' it=none∧R i o∧St W C l' (H'.put it (.raw o)) news' ow' s'∧Le fz (fzS W news' ow')∧s'.os=os) ?_ vs.length
  ⟨0,l,H,news,ow,o,rfl,Nat.zero_le _,h0,hn,hR,hs,hle,hos⟩
 intro k s' zz;cb_eq;rcases zz with ⟨i,l',H',news',ow',o',rfl,hi,hI,hn',hR',hs',le',os'⟩;by_in;have hfz:∀ a o,fz a o→s'.heap.get? a=some o:=fun a o z=>bh ho hs' (le' _ _ z);have hg:s'.heap.get? it=some o':=cW hs' (if_pos rfl)
 by_cases hlt:i<vs.length
 ·have hv:vs[i]? = some vs[i]:=List.getElem?_eq_getElem hlt;refine G.item C.A i vs[i] hv s' _ _ o' hfz hg hR' fun U h' tk o₂ vU hg₂ hR₂ hsb=>?_;obtain ⟨n₂,hs₂,le₂⟩:=oX hs' hsb hg₂;refine wpAny_assign_Name (ec (C:=C.lp W) hc (oy ho) (hs₂.toks (t:=tk)).lp (VR.mono (Le.trans le' le₂) vU) hl fun s₃ hs₃ os₃=>?_);refine (step i vs[i] l' H' o₂ hv hI hn').go (C.lp W) n₂ ow' s₃ _ hc (oy ho) hs₃ ?_;intro f F l₄ H₄ n₄ o₄ s₄ hs₄ le₄ os₄ fr q;have hs₄:=hs₄.unlp;cb_eq;rcases q with ⟨H'',rfl,hn'',q⟩;by_in;have le5:Le fz (fzS W n₄ o₄):=Le.trans le' (Le.trans le₂ le₄);have os5:s₄.os=os:=os₄.trans (os₃.trans os');have hd:St W C l₄ H'' n₄ o₄ s₄:=by have:=hs₄.drop it;rw [k8 hn''] at this;exact this
  cases f with
  | next =>
   have:F=.next:=fr;subst this;exact ⟨vs.length - (i+1),Nat.sub_lt_sub_left hlt (Nat.lt_succ_self i),i+1,l₄,H'',n₄,o₄,o₂,rfl,hlt,q,hn'',hR₂,hs₄,le5,os5⟩
  | cont =>
   have:F=.cont:=fr;subst this;exact ⟨vs.length - (i+1),Nat.sub_lt_sub_left hlt (Nat.lt_succ_self i),i+1,l₄,H'',n₄,o₄,o₂,rfl,hlt,q,hn'',hR₂,hs₄,le5,os5⟩
  | brk =>
   have:F=.brk:=fr;subst this;exact hk .next .next l₄ H'' n₄ o₄ s₄ hd le5 os5 rfl q
  | ret v =>
   cb_eq;rcases fr with ⟨U',rfl,vr'⟩;by_in;exact hk (.ret v) (.ret U') l₄ H'' n₄ o₄ s₄ hd le5 os5 ⟨_,rfl,vr'⟩ q
 ·have hin:i=vs.length:=Nat.le_antisymm hi (Nat.le_of_not_lt hlt);subst hin;refine G.last C.A ho.handled s' _ _ o' hfz hg hR' fun h' he=>?_;obtain ⟨n₂,hs₂,le₂⟩:=qJ hs' hn' he;exact wpAny_execs_nil (hk .next .next l' H' n₂ ow' _ hs₂ (Le.trans le' le₂) os' rfl (done _ _ hI))
end
end Mine
end
section
open PySem PySem.W PySem.Calls PyProof.Rows
namespace Mine
theorem jD {H:MH}{a:Addr}{o:MO}(h:H a=some o):H=(H.drop a).put a o:=by
 funext b
 unfold MH.drop MH.put;show H b=if b=a then some o else if b=a then none else H b
 by_cases e:b=a
 ·rw [if_pos e,e];exact h
 ·rw [if_neg e,if_neg e]
theorem ic {H:MH}{a:Addr}:H.drop a a=none:=by unfold MH.drop;exact if_pos rfl
section
variable {W:Wd}{d:Dx}{cs:Scope}{l:Loc}{H:MH}
noncomputable def qQ (a:Addr) (i:Nat):Obj:={ cls:=.type "list_iterator",data:=.fields #[.ref a,.int i 0]}
noncomputable def AM (a:Addr) (i:Nat):Obj:={ cls:=.type "tuple_iterator",data:=.fields #[.ref a,.int i 0]}
noncomputable def k7 (x left step:Int):Obj:={ cls:=.type "range_iterator",data:=.fields #[rawInt x,rawInt left,rawInt step]}
theorem uw {fz:Fz}{it a:Addr}{n:Nat}{vs:List V}{Vs:List Value}(fa:fz a (bq Vs n)) (vr:VRs W.w.params fz vs Vs):oA W fz it vs fun i o=>o.cls=.type "list_iterator"∧o.data=.fields #[.ref a,.int i 0]:=by
 constructor
 ·intro A i v hv s E Qr o hfz ho hR hk;obtain ⟨U,hU,vU⟩:=vr.get hv;refine wpAny_pyNext_list_item (i:=i) (items:=Vs.toArray) ⟨o,ho,hR⟩ ⟨_,hfz _ _ fa,rfl,n,rfl⟩ (by simpa using hU) fun h' hit' hsb=>?_;obtain ⟨o',ho',hR'⟩:=hit';exact hk U h' s.toks o' vU ho' (by simpa using hR') hsb
 ·intro A hh s E Qr o hfz ho hR hk;exact wpAny_pyNext_list_end hh (i:=vs.length) (items:=Vs.toArray) ⟨o,ho,hR⟩ ⟨_,hfz _ _ fa,rfl,n,rfl⟩ (by simp [VRs.length vr]) hk
theorem uv {fz:Fz}{it a:Addr}{vs:List V}{Vs:List Value}(fa:fz a (rG Vs)) (vr:VRs W.w.params fz vs Vs):oA W fz it vs fun i o=>o.cls=.type "tuple_iterator"∧o.data=.fields #[.ref a,.int i 0]:=by
 constructor
 ·intro A i v hv s E Qr o hfz ho hR hk;obtain ⟨U,hU,vU⟩:=vr.get hv;refine wpAny_pyNext_tuple_item (i:=i) (items:=Vs.toArray) ⟨o,ho,hR⟩ ⟨_,hfz _ _ fa,rfl,0,rfl⟩ (by simpa using hU) fun h' hit' hsb=>?_;obtain ⟨o',ho',hR'⟩:=hit';exact hk U h' s.toks o' vU ho' (by simpa using hR') hsb
 ·intro A hh s E Qr o hfz ho hR hk;exact wpAny_pyNext_tuple_end hh (i:=vs.length) (items:=Vs.toArray) ⟨o,ho,hR⟩ ⟨_,hfz _ _ fa,rfl,0,rfl⟩ (by simp [VRs.length vr]) hk
theorem kO {fz:Fz}{it:Addr}{a:Int}{n:Nat}:oA W fz it ((List.range n).map fun (i:Nat)=>.int (a+(i:Int))) fun i o=>i≤n∧o=k7 (a+i) (n - i) 1:=by
 constructor
 ·intro A i v hv s E Qr o hfz ho hR hk;obtain ⟨hle,rfl⟩:=hR;rw [List.getElem?_map] at hv;cb_eq;rcases Option.map_eq_some_iff.mp hv with ⟨j,hj,rfl⟩;by_in;have hi:i<n:=by
   rcases Nat.lt_or_ge i n with z | z
   ·exact z
   ·rw [List.getElem?_eq_none (by simpa using z)] at hj;cases hj
  rw [List.getElem?_range hi] at hj
  cases hj
  refine wpAny_pyNext_range_item (x:=a+i) (left:=n - i) (step:=1) ho (by omega) fun h' hit' hsb=>?_;refine hk _ h' _ _ aZ hit' ⟨hi,?_⟩ hsb;have e1:a+((i+1:Nat):Int)=a+i+1:=(Int.add_assoc a i 1).symm;have e2:(n:Int) - ((i+1:Nat):Int)=n - i - 1:=(Int.sub_sub n i 1).symm;rw [e1,e2];rfl
 ·intro A hh s E Qr o hfz ho hR hk;obtain ⟨hle,rfl⟩:=hR;refine wpAny_pyNext_range_end hh (x:=a+_) (left:=n - _) (step:=1) ho (by simp) hk
set_option tactic.hygienic true in
noncomputable abbrev ja (I:Nat→Loc→MH→Prop) (i:Nat) (it:Addr) (o:Obj) (Q:Fl→Loc→MH→Prop) (f:Fl) (l':Loc) (H':MH):Prop:=H' it=some (.raw o)∧match f with
 | .next | .cont=>I (i+1) l' (H'.drop it) | .brk=>Q .next l' (H'.drop it) | .ret v=>Q (.ret v) l' (H'.drop it)
noncomputable def Dt (v:V) (vs:List V):Prop:=v=.lst vs∨v=.tup vs
set_option tactic.hygienic true in
theorem vC {x:String}{px pos:Pos}{iter:Expr}{body:List Stmt}{Q:Fl→Loc→MH→Prop}(hfs:∀ env x,foldedSetIterable iter env x=pure x) (hl:cs.names.lookup (Str.ofString x)=some .local)
  (h:EV W d cs iter l H fun v H₁=>∃ vs,Dt v vs∧∃ I:Nat→Loc→MH→Prop,I 0 l H₁ ∧
   (∀ i u l H it o,vs[i]? = some u→I i l H→H it=none→EXS W d cs body (ci l x u) (H.put it (.raw o)) (ja I i it o Q)) ∧
   (∀ l H,I vs.length l H→Q .next l H)):EX W d cs (.For (.Name (Str.ofString x) px) iter body [] pos) l H Q:=by
 refine Box.mk ?_;intro C news ow s Qr hc ho hs hk;refine wpAny_For (h.go C news ow s _ hc ho hs ?_) (hfs _);intro v U H₁ n₁ o₁ s₁ hs₁ le₁ os₁ vr₁ h₁;cb_eq;rcases h₁ with ⟨vs,hv,I,h0,step,done⟩;by_in;have step':∀ it i v l H o,vs[i]? = some v→I i l H→H it=none→EXS W d cs body (ci l x v) (H.put it (.raw o)) fun f l' H'=>∃ H'',H'=H''.put it (.raw o)∧H'' it=none∧match f with
   | .next | .cont=>I (i+1) l' H'' | .brk=>Q .next l' H'' | .ret v=>Q (.ret v) l' H'':=by
  intro it i v l H o hv hI hn;refine Box.mk ?_;intro C' news' ow' s' Qr' hc' ho' hs' hk';refine (step i v l H it o hv hI hn).go C' news' ow' s' Qr' hc' ho' hs' ?_;intro f F l' H' n' o' s' a b c dd q;refine hk' f F l' H' n' o' s' a b c dd ⟨H'.drop it,jD q.1,ic,?_⟩
  cases f<;>exact q.2
 rcases hv with rfl | rfl
 ·cb_eq;rcases bI vr₁ with ⟨a,n,Vs,rfl,fa,vr⟩;by_in;refine wpAny_pyIter_list (items:=Vs.toArray) ⟨_,bh ho hs₁ fa,rfl,n,rfl⟩ ?_;cb_eq;rcases hs₁.pushRaw (qQ a 0) rfl with ⟨hn,n₂,o₂,hs₂,le₂⟩;by_in;exact gy (fz:=fzS W n₁ o₁) hc ho hl (uw fa vr) hs₂ hn ⟨rfl,rfl⟩ le₂ rfl h0 (step' _) done fun f F l' H' n' o' s' a b c dd q=>hk f F l' H' n' o' s' a (Le.trans le₁ b) (c.trans os₁) dd q
 ·cb_eq;rcases ce vr₁ with ⟨a,Vs,rfl,fa,vr⟩;by_in;refine wpAny_pyIter_tuple (items:=Vs.toArray) ⟨_,bh ho hs₁ fa,rfl,0,rfl⟩ ?_;cb_eq;rcases hs₁.pushRaw (AM a 0) rfl with ⟨hn,n₂,o₂,hs₂,le₂⟩;by_in;exact gy (fz:=fzS W n₁ o₁) hc ho hl (uv fa vr) hs₂ hn ⟨rfl,rfl⟩ le₂ rfl h0 (step' _) done fun f F l' H' n' o' s' a b c dd q=>hk f F l' H' n' o' s' a (Le.trans le₁ b) (c.trans os₁) dd q
set_option tactic.hygienic true in
theorem jX {x rn:String}{px rp cp pos:Pos}{e:Expr}{body:List Stmt}{Q:Fl→Loc→MH→Prop}(hn:fA W cs (Str.ofString rn) (.type "range")) (hp:aE e=true) (hl:cs.names.lookup (Str.ofString x)=some .local)
  (h:EV W d cs e l H fun v H₁=>∃ k:Nat,v=.int k∧k<2 ^ 60∧∃ I:Nat→Loc→MH→Prop,I 0 l H₁ ∧
   (∀ i l H it o,i<k→I i l H→H it=none→EXS W d cs body (ci l x (.int (i:Nat))) (H.put it (.raw o)) (ja I i it o Q)) ∧
   (∀ l H,I k l H→Q .next l H)):EX W d cs (.For (.Name (Str.ofString x) px) (.Call (.Name (Str.ofString rn) rp) [e] [] cp) body [] pos) l H Q:=by
 refine Box.mk ?_;intro C news ow s Qr hc ho hs hk;refine wpAny_For ?_;cb_eq;rcases hs.fr with ⟨gg,m,G,F,N,lr⟩;by_in;refine Call_ ?_ (by rfl);refine ld_builtin_at F (ho.top G).g hn.miss (ho.top G).b hn.at' ?_ ho.fn (by subst hc;exact hn.kind) hn.ok;refine PyProof.Rows.callWith_type1 ?_ (bw hp) (cR (es:=[]) rfl);have hA:EA W d cs [e] l H fun vs H₁=>∃ k:Nat,vs=[.int k]∧k<2 ^ 60∧∃ I:Nat→Loc→MH→Prop,I 0 l H₁ ∧
   (∀ i l H it o,i<k→I i l H→H it=none→EXS W d cs body (ci l x (.int (i:Nat))) (H.put it (.raw o)) (ja I i it o Q)) ∧
   (∀ l H,I k l H→Q .next l H):=ah hp (h.mono fun v H₁ z=>aB (by obtain ⟨k,rfl,z⟩:=z;exact ⟨k,rfl,z⟩))
 refine hA.go C news ow s _ _ hc ho hs ?_;intro vs Us H₁ n₁ o₁ s₁ hs₁ le₁ os₁ vr₁ h₁;cb_eq;rcases h₁ with ⟨k,rfl,hk60,I,h0,step,done⟩;rcases bX vr₁ with ⟨U,rfl,v1⟩;rcases aw v1 with ⟨t,rfl⟩;by_in;refine call_range_1 ?_;cb_eq;rcases hs₁.pushRaw { cls:=.type "range",data:=.fields #[.int 0 s₁.toks,.int k t,.int 1 (s₁.toks+1)]} rfl with ⟨hn₂,n₂,o₂,hs₂,le₂⟩;by_in;have hs₂':=(hs₂.drop s₁.heap.objs.size).toks (t:=s₁.toks+1+1);rw [k8 hn₂] at hs₂';refine wpAny_pyIter_range (a:=0) (b:=k) (c:=1) (IsRange.new ..) (small_one (by decide) (by decide) (by omega) (by omega)) ?_;cb_eq;rcases hs₂'.pushRaw (k7 0 (Builtin.Range.rangeSize 0 k 1) 1) rfl with ⟨hn₃,n₃,o₃,hs₃,le₃⟩;by_in;refine gy (fz:=fzS W n₁ o₁) (vs:=(List.range k).map fun (i:Nat)=>.int (0+(i:Int))) (Q:=Q) (I:=I) hc ho hl (kO (a:=0) (n:=k)) hs₃ hn₃ ⟨Nat.zero_le _,?_⟩ (Le.trans le₂ le₃) rfl h0 ?_ ?_ fun f F l' H' n' o' s' a b c dd q=>hk f F l' H' n' o' s' a (Le.trans le₁ b) (c.trans os₁) dd q
 ·rw [rangeSize_one]
  by_cases z:(0:Int)<k
  ·rw [if_pos z];simp
  ·have:k=0:=by omega
   subst this;simp
 ·intro i v l H o hv hI hn;refine Box.mk ?_;intro C' news' ow' s' Qr' hc' ho' hs' hk';have hi:i<k:=by
   rcases Nat.lt_or_ge i k with z | z
   ·exact z
   ·rw [List.getElem?_eq_none (by simpa using z)] at hv;cases hv
  rw [List.getElem?_map,List.getElem?_range hi] at hv;simp only [Option.map_some,Option.some.injEq,Int.zero_add] at hv;subst hv;refine (step i l H _ o hi hI hn).go C' news' ow' s' Qr' hc' ho' hs' ?_;intro f F l' H' n' o' s' a b c dd q;refine hk' f F l' H' n' o' s' a b c dd ⟨_,jD q.1,ic,?_⟩
  cases f<;>exact q.2
 ·intro l H hI;refine done l H ?_
  simpa using hI
end
end Mine
end
section
open PySem PySem.W PySem.Calls PyProof.Rows
namespace Mine
noncomputable def eA:List String→List V→Str→Option V
 | k::ks,v::vs,x=>if Str.ofString k=x then some v else eA ks vs x
 | _,_,_=>none
theorem pA (k:String) (ks:List String) (v:V) (vs:List V) (x:Str):eA (k::ks) (v::vs) x=if Str.ofString k=x then some v else eA ks vs x:=rfl
theorem ug {prog:Program}{w:World}:∀ {ks:List String}{Es:List DictEntry},fo w.params ks Es→KeysOf (strKind prog w) Es.toArray
 | [],[],_=>fun e he=>by simp at he
 | k::ks,e::es,⟨⟨t,hk⟩,hh,hr⟩=>fun e' he'=>by
  rcases List.mem_cons.mp (by simpa using he') with rfl | he''
  ·exact ⟨Str.ofString k,by rw [hk];exact strKind_is prog w _ _,hh⟩
  ·exact ug hr e' (by simpa using he'')
 | [],_::_,h=>h.elim
 | _::_,[],h=>h.elim
theorem ot {prog:Program}{w:World}{fz:Fz}{x:Str}:∀ {ks:List String}{vs:List V}{Es:List DictEntry},fo w.params ks Es→VRs w.params fz vs (Es.map (·.val)) →
  match eA ks vs x,findBy (strKind prog w).is Es.toArray x with
  | some v,some U=>VR w.params fz v U
  | none,none=>True
  | _,_=>False
 | [],[],[],_,_=>by unfold findBy;trivial
 | [],_::_,[],_,h=>by exact h.elim
 | [],_,_::_,h,_=>h.elim
 | _::_,_,[],h,_=>h.elim
 | _::_,[],_::_,_,h=>by exact h.elim
 | k::ks,u::vs,e::es,⟨⟨t,hk⟩,hh,hr⟩,h=>by
  rw [List.map_cons] at h;have ih:=ot (prog:=prog) (x:=x) hr h.2;have e1:(strKind prog w).is x e.key=decide (Str.ofString k=x):=by
   rw [hk];have:=KeyKind.is_eq_decide (strKind_is prog w (Str.ofString k) t) x;rw [this,Bool.eq_iff_iff,decide_eq_true_iff,decide_eq_true_iff];exact eq_comm
  rw [pA];unfold findBy;rw [List.find?_toArray,List.find?_cons,e1]
  by_cases q:Str.ofString k=x
  ·rw [if_pos q,decide_eq_true q];exact h.1
  ·rw [if_neg q,decide_eq_false q];unfold findBy at ih;rw [List.find?_toArray] at ih;exact ih
section
variable {W:Wd}{d:Dx}{cs:Scope}{l:Loc}{H:MH}
theorem hW {h:Heap}{a:Addr}{n:Nat}{Es:List DictEntry}{ks:List String}(hg:h.get? a=some (dictOf Es n)) (hk:fo W.w.params ks Es):h.MapOf (strKind W.prog W.w) a (fun k=>findBy (strKind W.prog W.w).is Es.toArray k) :=
 ⟨_,Es.toArray,n,hg,⟨rfl,rfl,rfl⟩,rfl,ug hk,fun ε =>rfl⟩
theorem vk {ks:List String}{vs:List V}{x:Str}{Q:V→MH→Prop}(hq:Q (.bool (eA ks vs x).isSome) H):T2 W d cs l H (.str x) (.dct ks vs) (compareOp .In) Q:=by
 refine Box.mk ?_;intro C news ow s Qr U U' hc ho hs v1 v2 hk;cb_eq;rcases aD v1 with ⟨t,rfl⟩;rcases gY v2 with ⟨a,n,Es,rfl,lo,fa,hkeys,hvs⟩;by_in;have e:=ot (prog:=W.prog) (x:=x) hkeys hvs;refine wpAny_in_of (strKind_is W.prog W.w x t) lo (hW (W:=W) (bh ho hs fa) hkeys) ?_;have e2:(findBy (strKind W.prog W.w).is Es.toArray x).isSome=(eA ks vs x).isSome:=by
  revert e
  cases eA ks vs x<;>cases findBy (strKind W.prog W.w).is Es.toArray x<;>simp
 rw [e2];exact hk _ _ H news ow _ hs.toks (Le.refl _) rfl aM hq
theorem DJ {ks:List String}{vs:List V}{x:Str}{dv:V}{Q:V→MH→Prop}(hq:Q ((eA ks vs x).getD dv) H):CV W d cs l H (.builtin "dict.get") [.dct ks vs,.str x,dv] Q:=by
 refine Box.mk ?_;intro C news ow s Qr Us hc ho hs vr hk;cb_eq;rcases jx vr with ⟨U₁,U₂,U₃,rfl,v1,v2,v3⟩;rcases gY v1 with ⟨a,n,Es,rfl,lo,fa,hkeys,hvs⟩;rcases aD v2 with ⟨t,rfl⟩;by_in;have e:=ot (prog:=W.prog) (x:=x) hkeys hvs;have hm:=hW (W:=W) (bh ho hs fa) hkeys;refine call_meetsIn PySem.F.slot_dict_get hm.typeIs PySem.F.entry_dict_get (PySem.F.args_dict_get_3 _ _ _) (meets_dict_get_default (strKind W.prog W.w) a (strKind_is W.prog W.w x t) lo U₃) ⟨_,hm,?_⟩;refine hk ((eA ks vs x).getD dv) _ H news ow _ hs.toks (Le.refl _) rfl ?_ hq
 revert e
 cases eA ks vs x<;>cases findBy (strKind W.prog W.w).is Es.toArray x<;>intro e
 ·exact v3
 ·exact e.elim
 ·exact e.elim
 ·exact e
theorem qf {v:V}{vs:List V}{Q:V→MH→Prop}(hv:Dt v vs) (hz:vs.length<1000000) (hq:Q (.lst vs) H):CV W d cs l H (.type "list") [v] Q:=by
 refine Box.mk ?_;intro C news ow s Qr Us hc ho hs vr hk;cb_eq;rcases bX vr with ⟨U,rfl,v1⟩;rcases hs.fr with ⟨gg,m,G,F,N,lr⟩;by_in;have main:∀ (a:Addr) (T:String) (o:Obj) (Vs:List Value) (n:Nat),(T="list" ∨T="tuple")→s.heap.get? a=some o→o.cls=.type T→o.data=.seq Vs.toArray n→VRs W.w.params (fzS W news ow) vs Vs→wpAny (Md W) C.A (call (.type "list") [.ref a]) Qr C.E s:=by
  intro a T o Vs n hT ho' hcl hd vrs;refine call_list_seq a hT ho' hcl hd (fun h' c' hkp hD=>?_) (by rw [List.size_toArray,←VRs.length vrs,sizeLine_eq];omega);have le:=du (W:=W) (ow:=ow) (o:=bq Vs c') (b:=none) (fun p hp=>cm hs hp);refine hk (.lst vs) _ H _ (a8 ow s.heap.objs.size none) _ (hs.push (o:=bq Vs c') lr G (F.keeps hkp) (news_pushed F N hkp hD rfl) none) le rfl ?_ hq;exact Exists.intro _ ⟨c',Vs,rfl,.inr ⟨.head _,by unfold a8;exact if_pos rfl⟩,vrs.mono le⟩
 rcases hv with rfl | rfl
 ·cb_eq;rcases bI v1 with ⟨a,n,Vs,rfl,fa,vrs⟩;by_in;exact main a "list" _ Vs n (.inl rfl) (bh ho hs fa) rfl rfl vrs
 ·cb_eq;rcases ce v1 with ⟨a,Vs,rfl,fa,vrs⟩;by_in;exact main a "tuple" _ Vs 0 (.inr rfl) (bh ho hs fa) rfl rfl vrs
end
end Mine
end
section
open PySem PySem.W PySem.Calls PyProof.Rows
namespace Mine
section
variable {W:Wd}{d:Dx}{cs:Scope}{l:Loc}{H:MH}
theorem St.grow' {C:FC}{news:Led}{ow:Own}{s:Shared}{h':Heap}{D:Addr}{o:Obj}{m:Str→Option Value}{tk:Nat}(hs:St W C l H news ow s) (lr:fO W.w.params (gL W.B news ow) l m){gg:Heap}(G:Gnd C gg) (F':Fr gg C.L h' m)
  (N':News gg C.L h' ((D,o)::news)) (off:∀ p∈news,p.1≠D):St W C l H ((D,o)::news) (a8 ow D none) { s with heap:=h',toks:=tk}∧Le (fzS W news ow) (fzS W ((D,o)::news) (a8 ow D none)):=by
 have le:Le (fzS W news ow) (fzS W ((D,o)::news) (a8 ow D none)):=by
  intro x y h;rcases h with h | ⟨h,e⟩
  ·exact .inl h
  ·refine .inr ⟨.tail _ h,?_⟩;unfold a8;rw [if_neg (off _ h)];exact e
 refine ⟨⟨⟨gg,m,G,F',N',lr.mono le⟩,fun a x hx=>cz.own le (fun p hp=>.tail _ hp) (fun p hp=>by unfold a8;rw [if_neg (off p hp)]) (hs.hr a x hx),?_,hs.gens,(Le.trans hs.le0 le),hs.os0⟩,le⟩;rw [List.map_cons,List.nodup_cons];refine ⟨fun z=>?_,hs.nd⟩;obtain ⟨p,hp,e⟩:=List.mem_map.mp z;exact off p hp e
theorem At {a:Addr}{vs:List V}{v:V}{Q:V→MH→Prop}(hH:H a=some (.list (v::vs))) (hz:vs.length<1000000) (hq:Q v (H.put a (.list vs))):CV W d cs l H (.builtin "list.pop") [.ref a,.int 0] Q:=by
 refine Box.mk ?_;intro C news ow s Qr Us hc ho hs vr hk;cb_eq;rcases fD vr with ⟨U,U2,rfl,v1,v2⟩;by_in;obtain rfl:=aP v1;cb_eq;rcases aw v2 with ⟨t,rfl⟩;rcases cj hs hH with ⟨n,Vs,g,hm,vrs,k⟩;by_in
 cases Vs with
 | nil=>exact vrs.elim
 | cons U Us =>
 have hT:s.TypeIs (.ref a) "list" :=⟨_,g,rfl⟩;have e1:(U::Us).toArray.eraseIdxIfInBounds 0=Us.toArray:=by
  apply Array.toList_inj.mp;simp
 refine call_meets PySem.F.slot_list_pop hT PySem.F.entry_list_pop (PySem.F.args_list_pop_2 _ _) (PySem.MeetsSeq.list_pop_at a _ n 0 t 0 U (by decide) ?_ (by simp) (by rw [List.size_toArray];have:=VRs.length vrs.2;simp;rw [sizeLine_eq];omega)) ⟨g,?_⟩
 ·exact seqIndex_of (by decide) (by simp)
 obtain ⟨n',hg'⟩:∃ n',(s.heap.update a (Obj.mapSeq fun xs=>xs.eraseIdxIfInBounds 0)).get? a=some (bq Us n'):=by
  have q:=PySem.IsL.update g (fun xs=>xs.eraseIdxIfInBounds 0);rw [e1] at q;exact ⟨_,q⟩
 obtain ⟨news',st,le⟩:=k n' Us vs _ vrs.2 (Heap.SameBut.update ..) hg';exact hk v U _ _ _ _ st le rfl (VR.mono le vrs.1) hq
set_option tactic.hygienic true in
theorem th {o i e:Expr}{ps pos:Pos}{Q:Fl→Loc→MH→Prop}(hsw:∀ env,swapsWith e (some (.Subscript o i ps)) pos.line env=pure false)
  (h:EV W d cs e l H fun v H₁=>EV W d cs o l H₁ fun ov H₂=>EV W d cs i l H₂ fun iv H₃=>∃ a vs k,ov=.ref a∧iv=.int k∧H₃ a=some (.list vs)∧0≤k∧k<vs.length∧vs.length<1000000∧Q .next l (H₃.put a (.list (vs.set k.toNat v)))) :
  EX W d cs (.Assign [.Subscript o i ps] e pos) l H Q:=by
 refine Box.mk ?_;intro C news ow s Qr hc ho hs hk;refine wpAny_Assign_Subscript (h.go C news ow s _ hc ho hs ?_) (hsw _);intro v U H₁ n₁ o₁ s₁ hs₁ le₁ os₁ vr₁ h₁;refine h₁.go C n₁ o₁ s₁ _ hc ho hs₁ ?_;intro ov U₂ H₂ n₂ o₂ s₂ hs₂ le₂ os₂ vr₂ h₂;refine h₂.go C n₂ o₂ s₂ _ hc ho hs₂ ?_;intro iv U₃ H₃ n₃ o₃ s₃ hs₃ le₃ os₃ vr₃ h₃;cb_eq;rcases h₃ with ⟨a,vs,k,rfl,rfl,hH,hk0,hk1,hz,hq⟩;by_in;obtain rfl:=aP vr₂;cb_eq;rcases aw vr₃ with ⟨t,rfl⟩;rcases cj hs₃ hH with ⟨n,Vs,g,hm,vrs,K⟩;by_in;have hlen:=VRs.length vrs;refine PySem.W.ki_setAt (n:=n) g hk0 (by omega) (by rw [List.size_toArray,←hlen];exact hk1) ?_;obtain ⟨n',hg'⟩:∃ n',(s₃.heap.update a (Obj.mapSeq (·.setIfInBounds k.toNat U))).get? a=some (bq (Vs.set k.toNat U) n'):=by
  have q:=PySem.IsL.update g (fun xs=>xs.setIfInBounds k.toNat U);rw [show (Vs.toArray.setIfInBounds k.toNat U)=(Vs.set k.toNat U).toArray from by apply Array.toList_inj.mp;simp] at q;exact ⟨_,q⟩
 have vset:∀ {vs:List V}{Vs:List Value}(j:Nat),VRs W.w.params (fzS W n₃ o₃) vs Vs→VRs W.w.params (fzS W n₃ o₃) (vs.set j v) (Vs.set j U):=by
  intro vs
  induction vs with
  | nil=>intro Vs j h;cases Vs with
   | nil=>exact h
   | cons _ _=>exact h.elim
  | cons x r ih=>intro Vs j h;cases Vs with
   | nil=>exact h.elim
   | cons y q=>cases j with
    | zero=>exact aY (VR.mono (Le.trans le₂ le₃) vr₁) h.2
    | succ j=>exact aY h.1 (ih j h.2)
 obtain ⟨news',st,le⟩:=K n' _ _ _ (vset k.toNat vrs) (Heap.SameBut.update ..) hg';exact hk .next .next l _ _ _ _ st (Le.trans le₁ (Le.trans le₂ (Le.trans le₃ le))) (os₃.trans (os₂.trans os₁)) rfl hq
theorem kS {x:String}{np pos sp:Pos}{hi:Expr}{Q:V→MH→Prop}(h:EV W d cs (.Name (Str.ofString x) np) l H fun a H₁=>EV W d cs hi l H₁ fun b H₂=>∃ vs,∃ j:Nat,a=.lst vs∧b=.int (j:Int)∧vs.length<1000000∧Q (.lst (vs.take j)) H₂) :
  EV W d cs (.Subscript (.Name (Str.ofString x) np) (.Slice none (some hi) none sp) pos) l H Q:=by
 refine Box.mk ?_;intro C news ow s Qr hc ho hs hk;refine Subscript_ (h.go C news ow s _ hc ho hs ?_);intro a U₁ H₁ n₁ o₁ s₁ hs₁ le₁ os₁ vr₁ h₁;refine wpAny_Slice (wpAny_pure ?_);refine h₁.go C n₁ o₁ s₁ _ hc ho hs₁ ?_;intro b U₂ H₂ n₂ o₂ s₂ hs₂ le₂ os₂ vr₂ h₂;cb_eq;rcases h₂ with ⟨vs,j,rfl,rfl,hz,hq⟩;rcases aw vr₂ with ⟨t,rfl⟩;rcases bI (VR.mono le₂ vr₁) with ⟨a,n,Vs,rfl,fa,vr⟩;rcases hs₂.fr with ⟨gg,m,G,F,N,lr⟩;by_in;have hlen:=VRs.length vr;refine wpAny_pure (slice_list F N ⟨_,bh ho hs₂ fa,rfl,n,rfl⟩ .none (.int (j:Int) t) (fun h' F' N'=>?_) (by rfl) (by intro _;rfl) (by rw [List.size_toArray,←hlen,sizeLine_eq];omega));rw [slicePick_upto'] at N';obtain ⟨st,le⟩:=hs₂.grow' (o:=bq (Vs.take j) 0) (tk:=s₂.toks) lr G F' N' (fun p hp=>Nat.ne_of_lt (Nat.lt_succ_of_lt (cm hs₂ hp)));refine hk (.lst (vs.take j)) _ H₂ _ _ _ st (Le.trans le₁ (Le.trans le₂ le)) (os₂.trans os₁) ?_ hq;exact Exists.intro _ ⟨0,Vs.take j,rfl,.inr ⟨.head _,by unfold a8;exact if_pos rfl⟩,(kU j vr).mono le⟩
theorem xx {v:V}{vs:List V}{Q:V→MH→Prop}(hv:v=.lst vs) (hz:vs.length<1000000) (hq:∀ a,H a=none→Q (.ref a) (H.put a (.list vs))):CV W d cs l H (.type "list") [v] Q:=by
 subst hv;refine Box.mk ?_;intro C news ow s Qr Us hc ho hs vr hk;cb_eq;rcases bX vr with ⟨U,rfl,v1⟩;rcases hs.fr with ⟨gg,m,G,F,N,lr⟩;rcases bI v1 with ⟨a,n,Vs,rfl,fa,vrs⟩;by_in;refine call_list_seq a (.inl rfl) (bh ho hs fa) rfl rfl (fun h' c' hkp hD=>?_) (by rw [List.size_toArray,←VRs.length vrs,sizeLine_eq];omega);have le:=du (W:=W) (ow:=ow) (o:=bq Vs c') (b:=some s.heap.objs.size) (fun p hp=>cm hs hp);refine hk (.ref s.heap.objs.size) _ _ _ (a8 ow s.heap.objs.size (some s.heap.objs.size)) _ ((hs.push (o:=bq Vs c') lr G (F.keeps hkp) (news_pushed F N hkp hD rfl) _).name ?_) le rfl di (hq _ (fh hs (Nat.le_refl _)));exact ⟨if_pos rfl,c',Vs,.head _,vrs.mono le⟩
end
end Mine
end
section
open PySem PySem.W PySem.Calls PyProof.Rows
namespace Mine
noncomputable abbrev pJ:List Value:=[.type "Exception",.type "BaseException",.type "object"]
structure nl (W:Wd) (fI:Addr) (body:List Stmt) (scope:Scope):Prop where
 obj:∃ nm q N bs sn sub ab col dd k0 k1 k2 k3 k5,W.K.lookup W.xc=some (excClassObj nm q W.xc N bs pJ true sn sub ab col dd k0 k1 k2 k3 k5 "Exception.__new__")
 cls:ExcCls W.K W.xc
 init:findIn W.K (.ref W.xc) "__init__" = some (some (.ref fI))
 fn:typeIn W.K (.ref fI)=some (.type "function")
 text:takerIn W.K W.xc (Str.ofString "text")=some none
 line:takerIn W.K W.xc (Str.ofString "line")=some none
 code:iu W fI ["self","text","line"] body scope
 body:∃ p1 p2 p3 p4 p5 p6 p7 p8,body=[.Assign [.Attribute (.Name (Str.ofString "self") p1) (Str.ofString "text") p2] (.Name (Str.ofString "text") p3) p4,.Assign [.Attribute (.Name (Str.ofString "self") p5) (Str.ofString "line") p6] (.Name (Str.ofString "line") p7) p8]
section
variable {W:Wd}{d:Dx}{cs:Scope}{l:Loc}{H:MH}{fI:Addr}{ib:List Stmt}{isc:Scope}
theorem InstAt.exc {h:Heap}{x C t:Addr}(hx:h.get? x=some (dj C t)):InstAt h x (dj C t) C none:=⟨hx,rfl,rfl,trivial⟩
theorem InstAt.excO {h:Heap}{x C t dx:Addr}{T:Value}{od:Obj}(hx:h.get? x=some (excO C t dx T)) (hd:h.get? dx=some od):InstAt h x (excO C t dx T) C (some od):=⟨hx,rfl,rfl,hd⟩
theorem qY {h₀ h h':Heap}{L x:Addr}{m:Str→Option Value}(F:Fr h₀ L h m) (hx:h₀.get? x=none) (hL:L≠x) (k:∀ b o,b≠x→h.get? b=some o→h'.get? b=some o):Fr h₀ L h' m:=by
 cb_eq;rcases F.ns with ⟨oL,es,ep,ho,r⟩;by_in;exact ⟨⟨oL,es,ep,k _ _ hL ho,r⟩,fun b o e=>k b o (fun z=>by rw [z,hx] at e;cases e) (F.keep b o e),F.above⟩
theorem wE {C:FC}{news:Led}{s:Shared}{A:Around}{R:Result→Shared→Prop}{m:Str→Option Value}{x t tk:Addr}{U:Value}{n:Int}{gg:Heap}(Z:nl W fI ib isc) (ho:C.Ok W d) (G:Gnd C gg) (F:Fr gg C.L s.heap m) (N:News gg C.L s.heap ((x,dj W.xc t)::(t,cQ [U,.int n tk])::news))
  (hxn:∀ p∈(t,cQ [U,.int n tk])::news,p.1≠x) (hdp:A.depth<recursionLimit) (hfr:A.frames=C.A.frames)
  (hk:∀ h' dx tk1 tk2 k,Fr gg C.L h' m→News gg C.L h' ((x,excO W.xc t dx .none)::(dx,dictOf [⟨PyData.keyHash W.w.params (Str.ofString "text"),.str (Str.ofString "text") tk1,U⟩,⟨PyData.keyHash W.w.params (Str.ofString "line"),.str (Str.ofString "line") tk2,.int n tk⟩] 2)::(t,cQ [U,.int n tk])::news) →
   (∀ p∈(x,excO W.xc t dx .none)::(t,cQ [U,.int n tk])::news,p.1<dx)→R (.ok (.ret .none)) { s with heap:=h',toks:=k}) :
  codeAny (Md W) A (.call (.ref fI) ⟨[.ref x,U,.int n tk],[]⟩) R s:=by
 cb_eq;rcases Z.code.ho with ⟨oc,od,osl,name,qual,params,doc,pm,cdv,hK,hcd,hb⟩;rcases Z.body with ⟨p1,p2,p3,p4,p5,p6,p7,p8,eb⟩;by_in;refine call_K (A₀:=C.A₀) (base:=C.base) (h₀:=gg) (outer:=C.outer) (L:=C.L) (a:=C.a) (m:=m) (cn:=C.cn) (cs:=C.cs) (ccd:=C.cd) (news:=(x,dj W.xc t)::(t,cQ [U,.int n tk])::news) (K:=W.K)
  G.below F N ((ho.kin G).keeps F.keep) (ho.top G).nolimit (hfr.trans ho.frames) hK hcd hdp (BindsTo.of_eq (hb [.ref x,U,.int n tk] rfl)) ?_ ?_ ho.fn Z.code.co Z.code.gen Z.code.kind Z.code.cell
 ·intro y hy;obtain ⟨z,hz,e⟩:=List.mem_map.mp (List.of_mem_zip (a:=y.1) (b:=y.2) hy).1;rw [←e];exact Z.code.loc z hz
 ·intro g L' h₁ FG F' N' B' st;rw [eb];have X':W.K.In g:=(ho.kin G).keeps st;have loc:∀ z∈["self","text","line"],(envOf qual isc L' fI cdv).kindOf (Str.ofString z)=some .local:=fun z hz=>Z.code.loc z hz;refine wpAny_execs_cons (plainObj_wpAny_Assign_Attribute (ld F' (v:=U) rfl (ld F' (v:=.ref x) rfl ?_ Z.code.kind (loc _ (.head _)) (by decide +kernel)) Z.code.kind (loc _ (.tail _ (.head _))) (by decide +kernel)) rfl);have hx₁:=(N' _ (.head _)).1;refine set_plain (s:={ s with heap:=h₁,toks:=_}) (X'.keeps F'.keep) (InstAt.exc hx₁) Z.cls.seta (pI (X'.keeps F'.keep) (InstAt.exc hx₁) Z.cls Z.text fun b=>?_);refine uA (X'.keeps F'.keep) hx₁ Z.cls fun h₂ dx edx a1 a2 a3=>?_;have F₂:=qY F' (N' _ (.head _)).2.2 (Ne.symm (N' _ (.head _)).2.1) a3;refine wpAny_execs_cons (plainObj_wpAny_Assign_Attribute (ld (s:={ s with heap:=h₂,toks:=_}) F₂ (v:=.int n tk) rfl (ld (s:={ s with heap:=h₂,toks:=_}) F₂ (v:=.ref x) rfl ?_ Z.code.kind (loc _ (.head _)) (by decide +kernel)) Z.code.kind (loc _ (.tail _ (.tail _ (.head _)))) (by decide +kernel)) rfl);refine set_plain (s:={ s with heap:=h₂,toks:=_}) (X'.keeps F₂.keep) (InstAt.excO a1 a2) Z.cls.seta (pI (X'.keeps F₂.keep) (InstAt.excO a1 a2) Z.cls Z.line fun b=>?_);refine wO (X'.keeps F₂.keep) a1 a2 Z.cls (by kernel_rfl) (n':=2) rfl (Nat.le_of_ble_eq_true rfl) fun h₃ b1 b2=>?_;refine wpAny_execs_nil ?_;have lt:∀ b o,h₁.get? b=some o→b<dx:=fun b o e=>by rw [edx];exact Heap.lt_size e
  have step:∀ b o,b≠dx→h₂.get? b=some o→h₃.get? b=some o:=fun b o hb e=>(b2 b hb).trans e;have gdx:g.get? dx=none:=by
   cases q:g.get? dx with
   | none=>rfl
   | some o=>exact absurd (lt _ _ (F'.keep _ _ q)) (Nat.lt_irrefl _)
  have Ldx:L'≠dx:=by
   cb_eq;rcases F'.ns with ⟨oL,es,ep,hoL,_⟩;by_in;exact Nat.ne_of_lt (lt _ _ hoL)
  have F₃:=qY F₂ gdx Ldx step;have N₃:News g L' h₃ ((x,excO W.xc t dx .none)::(dx,dictOf [⟨PyData.keyHash W.w.params (Str.ofString "text"),.str (Str.ofString "text") _,U⟩,⟨PyData.keyHash W.w.params (Str.ofString "line"),.str (Str.ofString "line") _,.int n tk⟩] 2)::(t,cQ [U,.int n tk])::news):=fun p hp=>by
   rcases List.mem_cons.mp hp with rfl | hp
   ·exact ⟨step _ _ (Nat.ne_of_lt (lt _ _ hx₁)) a1,(N' _ (.head _)).2⟩
   rcases List.mem_cons.mp hp with rfl | hp
   ·exact ⟨b1,Ne.symm Ldx,gdx⟩
   ·have q:=N' p (.tail _ hp);exact ⟨step _ _ (Nat.ne_of_lt (lt _ _ q.1)) (a3 _ _ (hxn p hp) q.1),q.2⟩
  refine ⟨L',_,_,F₃,N₃,fun F4 N4=>hk h₃ dx _ _ _ F4 N4 fun p hp=>?_⟩;rcases List.mem_cons.mp hp with rfl | hp
  ·exact lt _ _ hx₁
  ·exact lt _ _ (N' p (.tail _ hp)).1
theorem iy {H:MH}{a b:Addr}{o:MO}(h:b≠a):H.put a o b=H b:=if_neg h
theorem St.more {C:FC}{news:Led}{ow:Own}{s:Shared}{a:Addr}{o:Obj}(hs:St W C l H news ow s) (lt:∀ p∈news,p.1<a) (ho:s.heap.get? a=some o) (hL:C.L<a) :
  H a=none∧St W C l (H.put a (.raw o)) ((a,o)::news) (a8 ow a (some a)) s∧Le (fzS W news ow) (fzS W ((a,o)::news) (a8 ow a (some a))):=by
 have le:Le (fzS W news ow) (fzS W ((a,o)::news) (a8 ow a (some a))):=du lt;cb_eq;rcases hs.fr with ⟨gg,m,G,F,N,lr⟩;by_in;refine ⟨?_,⟨⟨gg,m,G,F,fun p hp=>?_,lr.mono le⟩,fun b ob hb=>?_,?_,hs.gens,Le.trans hs.le0 le,hs.os0⟩,le⟩
 ·cases q:H a with
  | none=>rfl
  | some ob =>
   have:=hs.hr a ob q
   cases ob with
   | list vs=>obtain ⟨_,n,Vs,h1,_⟩:=this;exact absurd (lt _ h1) (Nat.lt_irrefl _)
   | inst K ks vs=>obtain ⟨_,_,n,Vs,_,h1,_⟩:=this;exact absurd (lt _ h1) (Nat.lt_irrefl _)
   | raw z=>exact absurd (lt _ this.2) (Nat.lt_irrefl _)
   | dic ks vs=>obtain ⟨_,_,o,kvs,h1,_⟩:=this;exact absurd (lt _ h1) (Nat.lt_irrefl _)
 ·rcases List.mem_cons.mp hp with rfl | hp
  ·exact ⟨ho,Ne.symm (Nat.ne_of_lt hL),Heap.get?_none_of_le (Nat.le_trans F.above (Nat.le_of_lt hL))⟩
  ·exact N p hp
 ·unfold MH.put at hb
  by_cases e:b=a
  ·rw [if_pos e] at hb
   cases hb
   subst e;exact ⟨if_pos rfl,.head _⟩
  ·rw [if_neg e] at hb;exact cz.own le (fun p hp=>.tail _ hp) (fun p hp=>by unfold a8;rw [if_neg (Nat.ne_of_lt (lt p hp))]) (hs.hr b ob hb)
 ·rw [List.map_cons,List.nodup_cons];refine ⟨fun z=>?_,hs.nd⟩;obtain ⟨p,hp,e⟩:=List.mem_map.mp z;have:=lt p hp;rw [e] at this;exact Nat.lt_irrefl _ this
structure tf (W:Wd) (H₀ H:MH) (x:Addr) (n:Int):Prop where
 ex:∃ dx t Es k tk,H x=some (.raw (excO W.xc t dx .none))∧H dx=some (.raw (dictOf Es k))∧getL (Str.ofString "line") Es=some (some (.int n tk))
 none:H₀ x=none
 keep:∀ b o,H₀ b=some o→H b=some o
theorem DK {v:V}{n:Int}{Q:V→MH→Prop}(Z:nl W fI ib isc) (hq:∀ x H',tf W H H' x n→Q (.ref x) H'):CV W d cs l H (.ref W.xc) [v,.int n] Q:=by
 refine Box.mk ?_;intro C news ow s Qr Us hc ho hs vr hk;obtain ⟨U,U',rfl,v1,v2⟩:∃ U U',Us=[U,U']∧VRw W (fzS W news ow) v U∧VRw W (fzS W news ow) (.int n) U':=by
  cases Us with
  | nil=>exact vr.elim
  | cons U Us =>
  cases Us with
  | nil=>exact vr.2.elim
  | cons U' Us =>
  cases Us with
  | nil=>exact ⟨U,U',rfl,vr.1,vr.2.1⟩
  | cons _ _=>exact vr.2.2.elim
 cb_eq;rcases aw v2 with ⟨tk,rfl⟩;rcases hs.fr with ⟨gg,m,G,F,N₀,lr⟩;rcases s with ⟨h,g,dr,tks,os⟩;have hL:C.L<h.objs.size:=F.ns.lt;rcases Z.obj with ⟨nm,q,N,bs,sn,sub,ab,col,dd,k0,k1,k2,k3,k5,hobj⟩;by_in;have X:W.K.In h:=(ho.kin G).keeps F.keep;have N₁:=(N₀.push F (cQ [U,.int n tk])).push (F.push _) (dj W.xc h.objs.size);have F₁:=(F.push (cQ [U,.int n tk])).push (dj W.xc h.objs.size);rw [Heap.size_push] at N₁;have lt₀:∀ p∈news,p.1<h.objs.size:=fun p hp=>Heap.lt_size (N₀ p hp).1;refine wpAny_call (wy PySem.F.excBase_Exception (X _ _ hobj) (looks_findIn X Z.init) (fun self=>bind_fn X self Z.fn) (Nat.le_of_ble_eq_true (by kernel_rfl)) ?_);refine wE Z ho G F₁ N₁ (fun p hp=>?_) ?_ ?_ fun h' dx tk1 tk2 k F' N' lt=>?_
 ·rcases List.mem_cons.mp hp with rfl | hp
  ·exact Nat.ne_of_lt (Nat.lt_succ_self _)
  ·exact Nat.ne_of_lt (Nat.lt_succ_of_lt (lt₀ p hp))
 ·exact Nat.lt_of_lt_of_le (Nat.add_lt_add_left (show _<20 from Nat.le_of_ble_eq_true (by kernel_rfl)) C.A.depth) (Nat.le_trans (Nat.add_le_add_right (Nat.le_add_right _ _) 20) ho.room)
 ·rfl
 ·have s0:St W C l H news ow ⟨h',g,dr,k,os⟩:=⟨⟨gg,m,G,F',fun p hp=>N' p (.tail _ (.tail _ (.tail _ hp))),lr⟩,hs.hr,hs.nd,hs.gens,hs.le0,hs.os0⟩;obtain ⟨n1,s1,le1⟩:=s0.more lt₀ (N' _ (.tail _ (.tail _ (.head _)))).1 hL;obtain ⟨n2,s2,le2⟩:=s1.more (a:=h.objs.size+1) (fun p hp=>by
   rcases List.mem_cons.mp hp with rfl | hp
   ·exact Nat.lt_succ_self _
   ·exact Nat.lt_succ_of_lt (lt₀ p hp)) (N' _ (.head _)).1 (Nat.lt_succ_of_lt hL)
  obtain ⟨n3,s3,le3⟩:=s2.more (a:=dx) (fun p hp=>lt p hp) (N' _ (.tail _ (.head _))).1 (Nat.lt_trans (Nat.lt_succ_of_lt hL) (lt _ (.head _)));have nd:dx≠h.objs.size+1:=Ne.symm (Nat.ne_of_lt (lt _ (.head _)));have n2':H (h.objs.size+1)=none:=by rw [←n2];exact (iy (Nat.succ_ne_self _)).symm
  refine ⟨rfl,hk _ _ _ _ _ _ s3 (Le.trans le1 (Le.trans le2 le3)) rfl di (hq _ _ ⟨⟨dx,h.objs.size,_,_,tk,?_,if_pos rfl,by kernel_rfl⟩,n2',fun b o e=>?_⟩)⟩
  ·rw [iy (Ne.symm nd)];exact if_pos rfl
  ·have a1:b≠h.objs.size:=fun z=>by rw [z,n1] at e;cases e
   have a2:b≠h.objs.size+1:=fun z=>by rw [z,n2'] at e;cases e
   have e1:(H.put h.objs.size (.raw (cQ [U,.int n tk]))) b=some o:=by rw [iy a1];exact e
   have e2:((H.put h.objs.size (.raw (cQ [U,.int n tk]))).put (h.objs.size+1) (.raw (excO W.xc h.objs.size dx .none))) b=some o:=by rw [iy a2];exact e1
   have a3:b≠dx:=fun z=>by rw [z,n3] at e2;cases e2
   rw [iy a3];exact e2
end
end Mine
end
section
open PySem PySem.W PySem.Calls PyProof.Rows
namespace Mine
section
variable {W:Wd}{d:Dx}{cs:Scope}{l:Loc}{H:MH}{fI:Addr}{ib:List Stmt}{isc:Scope}
theorem EA.mono {es:List Expr}{Q Q':List V→MH→Prop}(h:EA W d cs es l H Q) (k:∀ v H',Q v H'→Q' v H'):EA W d cs es l H Q' :=
 Box.mk fun C news ow s Qr pos hc ho hs hk=>h.go C news ow s Qr pos hc ho hs fun v U H' news' ow' s' a b c d q=>hk v U H' news' ow' s' a b c d (k v H' q)
theorem tW {C:FC}{news:Led}{ow:Own}{s:Shared}{X:Nat→MH→Prop}{H₀:MH}{x:Addr}{n:Nat}(ho:C.Ok W d) (hs:St W C l H news ow s) (hx:tf W H₀ H x (n:Int)) (hX:∀ H',(∀ b o,H₀ b=some o→H' b=some o)→X n H'):mw W C X x s:=by
 cb_eq;rcases hx with ⟨⟨dx,t,Es,k,tk,h1,h2,h3⟩,hn,hk⟩;rcases hs.fr with ⟨gg,m,G,F,N,lr⟩;by_in;have o1:=cW hs h1;have o2:=cW hs h2;have nx:=N _ (hs.hr _ _ h1).2;have nd:=N _ (hs.hr _ _ h2).2;have K':=G.below.push (name:=C.cn) (a:=C.a) (cd:=C.cd) F ho.fn;have K':Below (C.A₀.deeper C.env) C.base (C.env::C.outer) s.heap:=K'
 generalize has:x::(C.env::C.outer).filterMap (·.frame)=as
 have hin:∀ env∈(C.env::C.outer),∀ b,env.frame=some b→b∈as:=fun env he b hb=>by rw [←has];exact .tail _ (List.mem_filterMap.mpr ⟨env,he,hb⟩)
 have hx:x∈as:=by rw [←has];exact .head _
 -- what the ledger holds is none of these frames
 have off:∀ b,b≠C.L→gg.get? b=none→b∉(C.env::C.outer).filterMap (·.frame):=fun b hb h0 hm=>by
  obtain ⟨env,he,hf⟩:=List.mem_filterMap.mp hm;rcases List.mem_cons.mp he with rfl | he
  ·exact hb (Option.some.inj hf).symm
  ·obtain ⟨o,ho',_⟩:=(G.below.frames.mem (List.mem_filterMap.mpr ⟨env,he,hf⟩)).2;rw [h0] at ho';cases ho'
 have base0:∀ b,gg.get? b=none→C.base.get? b=none:=fun b hb=>fresh_of_stays G.below.stays hb;have notIn:∀ p∈news,p.1≠x→p.1∉as:=fun p hp ne hm=>by
  rw [←has] at hm;rcases List.mem_cons.mp hm with e | hm
  ·exact ne e
  ·exact off _ (N p hp).2.1 (N p hp).2.2 hm
 have dne:dx≠x:=fun z=>by
  subst z;rw [o1] at o2;have:=congrArg (fun o:Option Obj=>o.map (·.cls)) o2
  cases this
 have owx:ow x=some x:=(hs.hr _ _ h1).1;have le:Le (gL W.B news ow) (gL W.B (news.filter fun p=>p.1 != x) ow):=fun a o h=>by
  rcases h with h | ⟨h,e⟩
  ·exact .inl h
  ·refine .inr ⟨List.mem_filter.mpr ⟨h,?_⟩,e⟩;simp only [bne_iff_ne,ne_eq];intro z;rw [z,owx] at e;cases e
 -- the ledger without the exception
 refine ⟨hideAll s.heap as,t,dx,.none,n,H.drop x,news.filter (fun p=>p.1 != x),ow,⟨fun b o e=>?_,⟨fun b o e=>of_hideAll _ e,hideAll_none _ hx,funFrames_hide K'.frames hin,o1⟩,.inl rfl,fun q hq=>?_,⟨Es,k,tk,hideAll_get _ o2 (notIn _ (hs.hr _ _ h2).2 dne),h3⟩,?_,?_,?_,hs.gens,hs.os0,?_,gg,m,hideAll s.heap [x],G,?_,fun b o hb hm=>?_,Heap.UpToSlots.of_keeps fun b o e=>of_hideAll _ e,fun q hq=>(N q (List.mem_filter.mp hq).1).2.2⟩⟩
 ·refine hideAll_get _ (K'.stays b o e) fun hm=>?_;rw [←has] at hm;rcases List.mem_cons.mp hm with z | hm
  ·rw [z,base0 _ nx.2.2] at e;cases e
  ·rw [(K'.frames.mem hm).1] at e;cases e
 ·obtain ⟨hq,hne⟩:=List.mem_filter.mp hq;exact ⟨hideAll_get _ (N q hq).1 (notIn q hq (by simpa using hne)),base0 _ (N q hq).2.2⟩
 ·refine hX _ fun b o e=>?_;unfold MH.drop;rw [if_neg fun z=>by rw [z,hn] at e;cases e];exact hk b o e
 ·intro b o e;unfold MH.drop at e
  by_cases z:b=x
  ·rw [if_pos z] at e;cases e
  ·rw [if_neg z] at e;exact cz.upd le owx z (fun p hp ne=>List.mem_filter.mpr ⟨hp,by simpa using ne⟩) (hs.hr b o e)
 ·exact hs.nd.sublist (List.filter_sublist.map _)
 ·exact Le.trans hs.le0 le
 ·cb_eq;rcases F.ns with ⟨oL,es,ep,hoL,r⟩;by_in;refine ⟨⟨oL,es,ep,hideAll_get _ hoL fun z=>?_,r⟩,fun b o e=>hideAll_get _ (F.keep b o e) fun z=>?_,F.above⟩
  ·exact nx.2.1 (List.mem_singleton.mp z).symm
  ·rw [List.mem_singleton.mp z,nx.2.2] at e;cases e
 ·refine hideAll_get _ (of_hideAll _ hb) fun z=>?_;rw [←has] at z;rcases List.mem_cons.mp z with e | z
  ·rw [e,hideAll_none _ (.head _)] at hb;cases hb
  ·exact hm z
theorem xp {x:Str}{np cpos pos:Pos}{es:List Expr}{Q:Fl→Loc→MH→Prop}(Z:nl W fI ib isc) (hl:cs.names.lookup x=some .globalImplicit) (hg:W.mg x=some (.ref W.xc)) (hd:(x==("__debug__" : Str))=false) (hkeep:keepIn W.K (.ref W.xc)=true) (hp:es.all aE=true)
  (h:EA W d cs es l H fun vs H₁=>∃ (v:V) (n:Nat),vs=[v,.int (n:Int)]∧∀ H',(∀ b o,H₁ b=some o→H' b=some o)→d.X n H'):EX W d cs (.Raise (some (.Call (.Name x np) es [] cpos)) none pos) l H Q:=by
 refine Box.mk ?_;intro C news ow s Qr hc ho hs hk;have hev:EV W d cs (.Call (.Name x np) es [] cpos) l H fun v H'=>∃ a H₁ n,v=.ref a∧tf W H₁ H' a ((n:Nat):Int)∧∀ H'',(∀ b o,H₁ b=some o→H'' b=some o)→d.X n H'' :=
  aO hl hg hd hkeep hp (h.mono fun vs H₁ z=>by
   cb_eq;rcases z with ⟨v,n,rfl,hX⟩;by_in;exact DK Z fun a H' hx=>⟨a,H₁,n,rfl,hx,hX⟩)
 rw [arm_exec_Raise];refine wpAny_bind (wpAny_standAt ?_);unfold raiseStmt;refine wpAny_bind (wpAny_bind (hev.go C news ow s _ hc ho hs ?_));intro v U H' news' ow' s' hs' le os vr q;cb_eq;rcases q with ⟨a,H₁,n,rfl,hx,hX⟩;by_in;obtain rfl:=aP vr;refine wpAny_bind (wpAny_standAt (wpAny_pure ?_));have hE:C.E (.ref a) s':=ho.exc a s' (tW ho hs' hx hX);cb_eq;rcases hx with ⟨⟨dx,t,Es,k,tk,h1,_⟩,_⟩;have he:=cW hs' h1;rcases Z.obj with ⟨nm,q,N,bs,sn,sub,ab,col,dd,k0,k1,k2,k3,k5,hobj⟩;rcases hs'.fr with ⟨gg,m,G,F,N₀,lr⟩;have hC:=((ho.kin G).keeps F.keep) _ _ hobj;have hcB:(Value.ref W.xc::pJ).contains (.type "BaseException")=true:=by simp
 have hh:=ho.handled;rcases s' with ⟨hp',g,dr,tks,os'⟩;by_in
 repeat (first | with_reducible refine wpAny_loadPart_at he ?_ | with_reducible refine wpAny_loadPart_at hC ?_ | (with_reducible refine wpAny_isSubtype_exc hC ?_;rw [hcB]) | with_reducible refine wpAny_bind ?_ | with_reducible refine wpAny_pure ?_ | wp_delta | ((with_reducible apply wpAny_ite_false);focus (rfl;done)) | ((with_reducible apply wpAny_ite_true);focus (rfl;done)) | wp_step)
 exact wpAny_raiseNew_none hh hE
end
end Mine
end
section
open PySem PySem.W PySem.Calls PyProof.Rows
namespace Mine
section
variable {W:Wd}{d:Dx}{cs:Scope}{l:Loc}{H:MH}{fI:Addr}{ib:List Stmt}{isc:Scope}
@[reducible] noncomputable def FC.re (C:FC) (E':Value→Shared→Prop) (fz:Fz) (os:OsState):FC:={ C with E:=E',fz0:=fz,os0:=os}
noncomputable def wF (x nm:Str) (np p1 p2 p3 hpos:Pos):List ExceptHandler:=[.ExceptHandler (some (.Name x np)) (some nm) [.Return (some (.Attribute (.Name nm p1) (Str.ofString "line") p2)) p3] hpos]
noncomputable def cS (W:Wd) (C:FC) (hs:List ExceptHandler) (Qr:Flow→Shared→Prop) (e:Value) (s₂:Shared):Prop:=wpAny (Md W) C.A (setFlight e none) (fun ε s₃=>wpAny (Md W) C.A (handleBy e C.env hs) Qr C.E s₃) C.E s₂
noncomputable def cE (W:Wd) (C:FC) (hs:List ExceptHandler) (Qr:Flow→Shared→Prop) (e:Value) (s₁:Shared):Prop:=wpAny (Md W) C.A (noteFrame e C.env) (fun ε s₂=>cS W C hs Qr e s₂) C.E s₁
set_option tactic.hygienic true in
theorem qp {body:List Stmt}{x nm:Str}{np p1 p2 p3 hpos pos:Pos}{X':Nat→MH→Prop}{Q:Fl→Loc→MH→Prop}(Z:nl W fI ib isc) (Zg:p9 W.K W.xc) (hf:findIn W.K (.ref W.xc) (Str.ofString "line")=some none)
  (hl:cs.names.lookup x=some .globalImplicit) (hg:nsIn W.K mainGlobals x=some (some (.ref W.xc))) (hd:(x==("__debug__" : Str))=false) (hn:cs.names.lookup nm=some .local) (hnd:(nm==("__debug__" : Str))=false)
  (h:EXS W ⟨d.n,X'⟩ cs body l H Q) (hx:∀ n H',X' n H'→Q (.ret (.int (n:Int))) [] H') :
  EX W d cs (.Try body [.ExceptHandler (some (.Name x np)) (some nm) [.Return (some (.Attribute (.Name nm p1) (Str.ofString "line") p2)) p3] hpos] [] [] pos) l H Q:=by
 refine Box.mk ?_;intro C news ow s Qr hc ho hs hk;refine wpAny_Try_except ?_;have key:∀ (E':Value→Shared→Prop) e s₁,mw W (C.re E' (fzS W news ow) s.os) X' e s₁ →
   cE W C (wF x nm np p1 p2 p3 hpos) Qr (.ref e) s₁:=by
  intro E' e s₁ hr;cb_eq;rcases hr with ⟨B,t,dx,T,n,H₁,n₁,o₁,r⟩;rcases r.fr with ⟨g,m,G₀,Gd,F,hB,smB,hnn⟩;rcases Z.obj with ⟨nmc,qc,N,bs,sn,sub,ab,col,dd,k0,k1,k2,k3,k5,hobj⟩;rcases r.dict with ⟨Es,kk,tk,hdx,hline⟩;by_in;have back:∀ h' T',Fly B (C.env::C.outer) e W.xc t dx T' h'→fm h' B e T' (rawInt C.L)→s₁.heap.UpToSlots h'→cS W C (wF x nm np p1 p2 p3 hpos) Qr (.ref e) { s₁ with heap:=h'}:=by
   intro h' T' x' t' sm;unfold cS;refine m6 x' t' fun h₂ x₂ t₂ sm₂=>?_;cb_eq;rcases kts_ground Gd.below F hB x₂.stays (smB.trans (sm.trans sm₂)) with ⟨g₁,T₁,F₁,B₁⟩;by_in;have Gd₁:Gnd C g₁:=⟨Gd.turn.trans T₁,B₁,Gd.dicts.turn T₁⟩;have X₁:=(ho.kin Gd₁).keeps F₁.keep;have hC:=X₁ _ _ hobj;refine wpAny_handleBy_cons (codeAny_handlers_test (name_K (s:={ s₁ with heap:=h₂}) F₁ (ho.kin Gd₁) (ho.top Gd₁) hg ?_ ho.fn (by subst hc;exact hl) hd)) (by intro q;cases q);refine wpAny_excMatches_sub_self hC x₂.obj rfl (by simp) (codeAny_handlers_suite_as ?_);refine m6 (s:={ s₁ with heap:=h₂}) x₂ t₂ fun h₃ x₃ t₃ sm₃=>?_;cb_eq;rcases kts_ground Gd.below F hB x₃.stays (smB.trans (sm.trans (sm₂.trans sm₃))) with ⟨g₂,T₂,F₂,B₂⟩;by_in;have Gd₂:Gnd C g₂:=⟨Gd.turn.trans T₂,B₂,Gd.dicts.turn T₂⟩
   -- the frame is neither in B nor the exception
   obtain ⟨LB,eL⟩:B.get? C.L=none∧e≠C.L:=by
    cb_eq;rcases x₃.frames.2.1 with ⟨L',o',hf',hn',ho',hd'⟩;by_in;obtain rfl:C.L=L':=Option.some.inj hf';exact ⟨hn',fun z=>by rw [z] at x₃;rw [x₃.obj] at ho';cases ho';exact hd' _ rfl⟩
   have dL:dx≠C.L:=fun z=>by rw [z,LB] at hdx;cases hdx
   have N₂:News g₂ C.L h₃ n₁:=fun q hq=>⟨x₃.stays _ _ (r.nw q hq).1,(fun z=>by have:=(r.nw q hq).1;rw [z,LB] at this;cases this),T₂.none_ _ (hnn q hq)⟩;refine stNK (s:={ s₁ with heap:=h₃}) F₂ N₂ (fun h₄ F₄ N₄ same ε =>?_) ho.fn (by subst hc;exact hn);have e₄:h₄.get? e=some (excO W.xc t dx T'):=(same.2 e eL).trans x₃.obj;have d₄:h₄.get? dx=some (dictOf Es kk):=(same.2 dx dL).trans (x₃.stays _ _ hdx);refine wpAny_execs_cons (wpAny_Return_some (Attribute_any_ (ld (s:={ s₁ with heap:=h₄,toks:=_}) F₄ (v:=.ref e) (if_pos rfl) ?_ ho.fn (by subst hc;exact hn) hnd) rfl));refine zp ((ho.kin Gd₂).keeps F₄.keep) Zg e₄ d₄ hf hline rfl ?_;show wpAny (Md W) C.A (do bindName C.env nm .none;unbindBehindTheSuite C.env nm hpos) _ _ _;refine wpAny_bind (wpAny_bindName (stN (s:={ s₁ with heap:=h₄,toks:=_}) F₄ N₄ (fun h₅ F₅ N₅=>?_) ho.fn (by subst hc;exact hn)));unfold unbindBehindTheSuite;refine wpAny_onRaise (wpAny_unbindName_local (s:={ s₁ with heap:=h₅,toks:=_}) (v:=.none) (by subst hc;exact hn) F₅.ns (if_pos rfl) ?_ fun h₆ u n₆ s₆=>?_)
   ·show (C.cs.kind==.class||(C.cs.kind==.module&&C.L != mainGlobals))=false;rw [ho.fn];rfl
   ·refine hk (.ret (.int (n:Int))) (.ret (.int n tk)) [] H₁ n₁ o₁ _ ⟨⟨g₂,_,Gd₂,F₅.set n₆ s₆,N₅.set s₆,fun y v hy=>nomatch hy⟩,r.hr,r.nd,r.gens,Le.trans hs.le0 r.le,r.os.trans hs.os0⟩ r.le r.os ⟨_,rfl,aZ⟩ (hx n H₁ r.x)
  rcases r.tb with hT | ⟨fl,hT,rfl | rfl⟩
  ·exact fK (L:=C.L) ho.frames rfl r.fly (.inl hT) back
  ·exact fK (L:=C.L) ho.frames rfl r.fly (.inr hT) back
  ·exact jP (L:=C.L) rfl r.fly hT (back s₁.heap T r.fly hT (Heap.UpToSlots.refl _))
 have st₂:∀ {E':Value→Shared→Prop},St W (C.re E' (fzS W news ow) s.os) l H news ow s:=fun {E'} =>
  ⟨jO hs.fr (fun ε G=>⟨G.turn,G.below,G.dicts⟩) fun ε x=>x,hs.hr,hs.nd,hs.gens,Le.refl _,rfl⟩
 refine h.go (C.re (cE W C (wF x nm np p1 p2 p3 hpos) Qr) (fzS W news ow) s.os) news ow s _ hc
  ⟨ho.frames,ho.handled,ho.kin0,ho.ext0,ho.top0,ho.fn,ho.room,ho.units,fun e s₁ hr=>key _ e s₁ hr⟩ st₂ ?_
 intro f F l' H' n' o' s' hs' le os fr q;have hs₁:St W C l' H' n' o' s':=⟨jO hs'.fr (fun ε G=>⟨G.turn,G.below,G.dicts⟩) fun ε x=>x,hs'.hr,hs'.nd,hs'.gens,Le.trans hs.le0 hs'.le0,hs'.os0.trans hs.os0⟩
 cases f with
 | next=>have:F=.next:=fr;subst this;exact wpAny_execs_nil (hk .next .next l' H' n' o' s' hs₁ le os rfl q)
 | brk=>have:F=.brk:=fr;subst this;exact hk .brk .brk l' H' n' o' s' hs₁ le os rfl q
 | cont=>have:F=.cont:=fr;subst this;exact hk .cont .cont l' H' n' o' s' hs₁ le os rfl q
 | ret v=>obtain ⟨U,rfl,vr⟩:=fr;exact hk (.ret v) (.ret U) l' H' n' o' s' hs₁ le os ⟨U,rfl,vr⟩ q
end
end Mine
end
section
open PySem
noncomputable section
namespace Mine
inductive Pth where
 | e | l (p:Pth) | r (p:Pth)
mutual
inductive XE where
 | loc (i:Nat) | frz (i:Nat) | glob (g:Nat) | cnone | cbool (b:Bool) | cint (i:Int) | cstr (x:List Nat)
 | attr (e:XE) (a:Nat)
 | bin (op:Operator) (e f:XE) | cmp (op:CmpOp) (e f:XE) | cmp2 (op op':CmpOp) (e f g:XE)
 | and (es:XL) | or (es:XL) | not (e:XE) | neg (e:XE) | ife (t e f:XE)
 | call (f:Pth) (es:XL) | new (c:Nat) (es:XL) | bi (b:Nat) (es:XL) | meth (e:XE) (c:Nat) (f:Pth) (es:XL) | bm (e:XE) (a:Nat) (es:XL)
 | sub (e f:XE) | slc (e lo hi:XE) | slf (e lo:XE) | slt (e hi:XE)
 | lst (es:XL) | lstM (es:XL) | tup (es:XL) | dict | comp (e:XE) | compIf (e:XE)
inductive XL where
 | nil | cons (e:XE) (es:XL)
end
mutual
inductive XS where
 | asg (i:Nat) (e:XE) | asga (e:XE) (a:Nat) (v:XE) | asgs (e i v:XE) | unp (sw:Bool) (ts:XL) (e:XE)
 | augn (i:Nat) (op:Operator) (e:XE) | auga (e:XE) (a:Nat) (op:Operator) (v:XE)
 | ret (e:XE) | ret0 | ifs (t:XE) (b o:XB) | whl (t:XE) (b:XB) | for_ (i:Nat) (e:XE) (b:XB) | forr (i:Nat) (e:XE) (b:XB) | forr2 (i:Nat) (e f:XE) (b:XB)
 | expr (e:XE) | raise_ (es:XL) | brk | cnt | pass
inductive XB where
 | nil | cons (s:XS) (b:XB)
end
set_option genCtorIdx true
inductive Ad where
 | o (i:Nat) | t (i:Nat)
inductive U where
 | none | bool (b:Bool) | int (i:Int) | str (x:List Nat) | tup (vs:List U) | lst (vs:List U)
 | obj (c:Nat) (vs:List U) | ref (a:Ad) | txt | tlen | pos (r:List Nat) (i o:Int) | ln (k:Int)
 | dct (g:Nat) | any (i:Nat) | unb
inductive MOb where
 | inst (c:Nat) (vs:List U) | lst (vs:List U) | dic (ks:List (List Nat)) (vs:List U) | dead
 | vlex (ts:List U)
set_option genCtorIdx false
inductive TL where
 | nil | cons (i:Nat) (b:MOb) (r:TL)
structure O where
 objs:List MOb
 nt:Nat
 tmp:TL
inductive Rs where
 | ok (u:U) (o:O) | fail (k:Nat) | out | call (f:Pth) (us:List U) (o:O) (k:U→O→Rs)
structure Cx where
 T:List Nat
 lam:Nat
 off:Int
noncomputable abbrev Lc:=List U
noncomputable abbrev K:=U→Lc→O→Rs
noncomputable abbrev KL:=List U→Lc→O→Rs
noncomputable abbrev K0:=Lc→O→Rs
noncomputable def oget {α : Type}(x:Option α) (k : α→Rs):Rs:=@Option.rec α (fun ε =>Rs) .out k x
noncomputable abbrev IF {α : Type}(b:Bool) (t e : α) : α :=@Bool.rec (fun ε => α) e t b
noncomputable def af {α : Type}(d : α) (l:List α):Nat→α :=@List.rec α (fun ε =>Nat→α) (fun ε =>d) (fun a ε ih n=>@Nat.rec (fun ε => α) a (fun m ε =>ih m) n) l
noncomputable def o6 {α : Type}(l:List α):Nat→Option α :=@List.rec α (fun ε =>Nat→Option α) (fun ε =>none) (fun a ε ih n=>@Nat.rec (fun ε =>Option α) (some a) (fun m ε =>ih m) n) l
noncomputable def a9 {α : Type}(l:List α):Nat→α→List α :=@List.rec α (fun ε =>Nat→α→List α) (fun ε ε =>[]) (fun a r ih n b=>@Nat.rec (fun ε =>List α) (b::r) (fun m ε =>a::ih m b) n) l
noncomputable def aF {α : Type}(l:List α):Nat:=@List.rec α (fun ε =>Nat) 0 (fun ε ε ih=>Nat.succ ih) l
noncomputable def aN (a:List Nat):List Nat→Bool :=
 @List.rec Nat (fun ε =>List Nat→Bool) (fun b=>@List.rec Nat (fun ε =>Bool) true (fun ε ε ε =>false) b) (fun x ε ih b=>@List.rec Nat (fun ε =>Bool) false (fun y s ε =>IF (Nat.beq x y) (ih s) false) b) a
noncomputable def sm (n:Nat):Bool:=Nat.ble n 999999
noncomputable def E6:List (List Nat):=[[0,1,2,3],[0,4,1,5,6,7,8,9],[10,11,1],[19,20,21],[12,13,14,15,16,17,18]]
noncomputable def fks (c:Nat):List Nat:=af [] E6 c
noncomputable def kj (ks:List Nat):List U→Nat→Option U :=
 @List.rec Nat (fun ε =>List U→Nat→Option U) (fun ε ε =>none) (fun k ε ih vs a=>@List.rec U (fun ε =>Option U) none (fun v r ε =>IF (Nat.beq k a) (some v) (ih r a)) vs) ks
noncomputable def iU (ks:List Nat):List U→Nat→U→(List U→Rs)→Rs :=
 @List.rec Nat (fun ε =>List U→Nat→U→(List U→Rs)→Rs) (fun ε ε ε ε =>.out)
  (fun k ε ih vs a u c=>@List.rec U (fun ε =>Rs) (IF (Nat.beq k a) (c [u]) .out) (fun v r ε =>IF (Nat.beq k a) (c (u::r)) (ih r a u fun r'=>c (v::r'))) vs) ks
noncomputable def TL.get (t:TL) (i:Nat):MOb:=@TL.rec (fun ε =>MOb) .dead (fun j b ε ih=>IF (Nat.beq j i) b ih) t
noncomputable def TL.set (t:TL) (i:Nat) (b':MOb):TL:=@TL.rec (fun ε =>TL) .nil (fun j b r ih=>IF (Nat.beq j i) (.cons j b' r) (.cons j b ih)) t
noncomputable def TL.del (t:TL) (i:Nat):TL:=@TL.rec (fun ε =>TL) .nil (fun j b r ih=>IF (Nat.beq j i) r (.cons j b ih)) t
noncomputable def TL.app (t:TL) (i:Nat) (b':MOb):TL:=@TL.rec (fun ε =>TL) (.cons i b' .nil) (fun j b ε ih=>.cons j b ih) t
noncomputable def O.at (o:O) (a:Ad):MOb:=@Ad.rec (fun ε =>MOb) (fun i=>af .dead o.objs i) (fun i=>o.tmp.get i) a
noncomputable def O.put (o:O) (a:Ad) (b:MOb):O:=@Ad.rec (fun ε =>O) (fun i=>⟨a9 o.objs i b,o.nt,o.tmp⟩) (fun i=>⟨o.objs,o.nt,o.tmp.set i b⟩) a
noncomputable def O.new (o:O) (b:MOb):O:=⟨o.objs++[b],o.nt,o.tmp⟩
noncomputable def O.tnew (o:O) (b:MOb):O:=⟨o.objs,Nat.succ o.nt,o.tmp.app o.nt b⟩
noncomputable def O.tdel (o:O) (i:Nat):O:=⟨o.objs,o.nt,o.tmp.del i⟩
noncomputable def sH (a:Nat) (u:U) (o:O):Option U:=match u with
 | .obj c vs=>kj (fks c) vs a
 | .ref i=>match o.at i with
  | .inst c vs=>kj (fks c) vs a
  | _=>none
 | _=>none
noncomputable def eqI (i j:Int):Bool:=match i,j with
 | .ofNat a,.ofNat b=>Nat.beq a b
 | .negSucc a,.negSucc b=>Nat.beq a b
 | _,_=>false
noncomputable def xQ (r:List Nat):Int→Nat→U→U:=@List.rec Nat (fun ε =>Int→Nat→U→U)
 (fun i n u=>@Nat.rec (fun ε =>U) (.pos [] i (.ofNat 0)) (fun ε ε =>u) n) (fun c r' ih i n u=>@Nat.rec (fun ε =>U) (.pos (c::r') i (.ofNat 0)) (fun m ε =>ih (Int.add i (.ofNat 1)) m u) n) r
noncomputable def sr (cx:Cx) (c a:Nat) (u:U):U:=match u with
 | .pos r i j=>(match j with | .ofNat n=>xQ r i n (.pos r i (.ofNat n)) | .negSucc n=>.pos r i (.negSucc n))
 | .int i=>IF (Nat.beq c 2) (IF (Nat.beq a 1) (.ln (Int.sub i (.ofNat cx.lam))) (IF (Nat.beq a 11) (IF (eqI i (.ofNat 0)) (.pos cx.T (Int.neg cx.off) (.ofNat 0)) (.int i)) (.int i))) (.int i)
 | u=>u
noncomputable def il (cx:Cx) (a:Nat) (u:U) (v:U) (o:O) (k:O→Rs):Rs:=match u with
 | .ref i=>match o.at i with
  | .inst c vs=>iU (fks c) vs a (IF (Nat.beq c 2) (sr cx c a v) v) fun vs'=>k (o.put i (.inst c vs'))
  | _=>.out
 | _=>.out
noncomputable def ltI (i j:Int):Bool:=match i,j with
 | .ofNat a,.ofNat b=>Nat.ble (Nat.succ a) b
 | .ofNat _,.negSucc _=>false
 | .negSucc _,.ofNat _=>true
 | .negSucc a,.negSucc b=>Nat.ble (Nat.succ b) a
noncomputable def leI (i j:Int):Bool:=Bool.not (ltI j i)
noncomputable def smN (a:Nat):Bool:=Nat.ble (Nat.log2 a) 8000
noncomputable def smI (i:Int):Bool:=match i with
 | .ofNat a=>smN a
 | .negSucc a=>smN a
noncomputable def wn (j:Int):Bool:=match j with
 | .ofNat a=>IF (Nat.ble 1 a) (smN a) false
 | _=>false
noncomputable def mQ (f:Nat→Nat→Nat) (p:Nat→Nat→Bool) (i j:Int):Option U:=match i,j with
 | .ofNat a,.ofNat b=>IF (p a b) (some (.int (.ofNat (f a b)))) none
 | _,_=>none
noncomputable def l0 (op:Operator) (i j:Int):Option U:=match op with
 | .Add=>some (.int (Int.add i j))
 | .Sub=>some (.int (Int.sub i j))
 | .Mult=>IF (smI i) (IF (smI j) (some (.int (Int.mul i j))) none) none
 | .FloorDiv=>IF (wn j) (some (.int (Int.fdiv i j))) none
 | .Mod=>IF (wn j) (some (.int (Int.fmod i j))) none
 | .LShift=>mQ Nat.shiftLeft (fun a b=>IF (smN a) (Nat.ble b 8000) false) i j
 | .RShift=>mQ Nat.shiftRight (fun ε ε =>true) i j
 | .BitAnd=>mQ Nat.land (fun ε ε =>true) i j
 | .BitOr=>mQ Nat.lor (fun ε ε =>true) i j
 | .Pow=>mQ Nat.pow (fun a b=>IF (Nat.ble a 16) (Nat.ble b 8000) false) i j
 | _=>none
noncomputable def cv (x:List Nat) (n:Nat):List Nat:=@Nat.rec (fun ε =>List Nat) [] (fun ε ih=>x++ih) n
noncomputable def liK {α : Type}(m:MOb) (c:List U→Option α):Option α :=match m with
 | .lst vs=>c vs
 | _=>none
noncomputable def diK {α : Type}(m:MOb) (c:List (List Nat)→List U→Option α):Option α :=match m with
 | .dic ks vs=>c ks vs
 | _=>none
noncomputable def rfK {α : Type}(u:U) (c:Ad→Option α):Option α :=match u with
 | .ref i=>c i
 | _=>none
noncomputable def stK {α : Type}(u:U) (c:List Nat→Option α):Option α :=match u with
 | .str x=>c x
 | _=>none
noncomputable def poK {α : Type}(u:U) (c:List Nat→Int→Option α):Option α :=match u with
 | .pos r _ i=>c r i
 | _=>none
noncomputable def txK {α : Type}(u:U) (x:Option α):Option α :=match u with
 | .txt=>x
 | _=>none
noncomputable def chK {α : Type}(b:Bool) (x:Option α):Option α :=IF b x none
noncomputable def inK {α : Type}(u:U) (c:Int→Option α):Option α :=match u with
 | .int i=>c i
 | _=>none
noncomputable def lnK {α : Type}(u:U) (c:Int→Option α):Option α :=match u with
 | .ln k=>c k
 | _=>none
noncomputable def llK {α : Type}(u:U) (c:List U→Option α):Option α :=match u with
 | .lst x=>c x
 | _=>none
noncomputable def ntK {α : Type}(i:Int) (c:Nat→Option α):Option α :=match i with
 | .ofNat n=>c n
 | _=>none
noncomputable def o0 (op:Operator) (r:List Nat) (k o i:Int):Option U:=match op with
 | .Add=>some (.pos r k (Int.add o i))
 | .Sub=>some (.pos r k (Int.sub o i))
 | _=>none
noncomputable def sz (op:Operator) (k i:Int):Option U:=match op with
 | .Add=>some (.ln (Int.add k i))
 | _=>none
noncomputable def Bo (op:Operator) (x:List Nat) (v:U):Option U:=match op with
 | .Add=>stK v fun y=>chK (sm (Nat.add (aF x) (aF y))) (some (.str (x++y)))
 | .Mult=>inK v fun i=>ntK i fun n=>chK (sm (Nat.mul (aF x) n)) (chK (sm n) (some (.str (cv x n))))
 | _=>none
noncomputable def B9 (op:Operator) (x:List U) (v:U):Option U:=match op with
 | .Add=>llK v fun y=>chK (sm (Nat.add (aF x) (aF y))) (some (.lst (x++y)))
 | _=>none
noncomputable def sX (op:Operator) (u v:U):Option U:=match u with
 | .int i=>inK v fun j=>l0 op i j
 | .pos r k o=>inK v fun i=>o0 op r k o i
 | .ln k=>inK v fun i=>sz op k i
 | .str x=>Bo op x v
 | .lst x=>B9 op x v
 | _=>none
noncomputable def ur (op:CmpOp) (i j:Int):Option Bool:=match op with
 | .Eq=>some (eqI i j)
 | .NotEq=>some (Bool.not (eqI i j))
 | .Lt=>some (ltI i j)
 | .LtE=>some (leI i j)
 | .Gt=>some (ltI j i)
 | .GtE=>some (leI j i)
 | _=>none
noncomputable def iF:U→Bool
 | .none=>true
 | _=>false
noncomputable def gN (x:List Nat) (vs:List U):Option Bool:=@List.rec U (fun ε =>Option Bool) (some false)
 (fun u ε ih=>match u with
  | .str y=>IF (aN y x) (ih.map fun ε =>true) ih
  | _=>none) vs
noncomputable def gO (x:Int) (vs:List U):Option Bool:=@List.rec U (fun ε =>Option Bool) (some false)
 (fun u ε ih=>match u with
  | .int y=>IF (eqI y x) (ih.map fun ε =>true) ih
  | _=>none) vs
noncomputable def bZ (x:List Nat) (ks:List (List Nat)):List U→Option U:=@List.rec (List Nat) (fun ε =>List U→Option U) (fun ε =>none)
 (fun k ε ih vs=>@List.rec U (fun ε =>Option U) none (fun v r ε =>IF (aN k x) (some v) (ih r)) vs) ks
noncomputable def wz (x:List Nat) (u:U) (ks:List (List Nat)):List U→(List (List Nat)→List U→Rs)→Rs:=@List.rec (List Nat) (fun ε =>List U→(List (List Nat)→List U→Rs)→Rs) (fun ε c=>c [x] [u])
 (fun k r ih vs c=>@List.rec U (fun ε =>Rs) .out (fun v s ε =>IF (aN k x) (c (k::r) (u::s)) (ih s fun a b=>c (k::a) (v::b))) vs) ks
end Mine
end
section
open PySem
noncomputable section
namespace Mine
structure Tb where
 consts:List U
 dicts:List (List (List Nat)×List U)
 init:Nat→Pth
noncomputable def Tb.dks (t:Tb) (g:Nat):List (List Nat):=(af ([],[]) t.dicts g).1
noncomputable def Tb.dvs (t:Tb) (g:Nat):List U:=(af ([],[]) t.dicts g).2
noncomputable def br {α : Type}:List α→Bool
 | []=>true
 | _::_=>false
noncomputable def inT (r:List Nat) (o:Int):Option Bool:=match o with
 | .ofNat n=>some (o6 r n).isSome
 | _=>none
noncomputable def wm (p:List Nat):List Nat→Bool :=
 @List.rec Nat (fun ε =>List Nat→Bool) (fun ε =>true) (fun x ε ih b=>@List.rec Nat (fun ε =>Bool) false (fun y s ε =>IF (Nat.beq x y) (ih s) false) b) p
noncomputable def dk (f:Nat):Nat→List Nat→List Nat:=@Nat.rec (fun ε =>Nat→List Nat→List Nat) (fun ε l=>l)
 (fun ε ih n l=>IF (Nat.ble 10 n) (ih (Nat.div n 10) (Nat.add 48 (Nat.mod n 10)::l)) (Nat.add 48 n::l)) f
noncomputable def Bm (u:U):Option U:=match u with
 | .str x=>some (.str x)
 | .int (.ofNat n)=>IF (Nat.ble (Nat.log2 n) 1900) (some (.str (dk 4000 n []))) none
 | .tup _=>none
 | _=>none
noncomputable def md (x:List Nat):List Nat:=@List.rec Nat (fun ε =>List Nat) [] (fun c r ih=>IF (Nat.beq c 48) ih (c::r)) x
noncomputable def lF (vs:List U):Option (List Nat):=@List.rec U (fun ε =>Option (List Nat)) (some [])
 (fun u ε ih=>match u with
  | .str x=>ih.map (x ++ ·)
  | _=>none) vs
noncomputable def cG:U→Bool
 | .unb=>true
 | _=>false
noncomputable def sY (op:Operator) (u v:U):Option U:=match op with
 | .Add=>sX .Add u v
 | .Sub=>sX .Sub u v
 | _=>none
noncomputable def truth (u:U) (t f:Rs):Rs:=match u with
 | .bool b=>IF b t f
 | _=>.out
section
variable (tb:Tb) (cx:Cx)
noncomputable def siU (u:U) (vs:List U):Option Bool:=match u with
 | .str x=>gN x vs
 | .int x=>gO x vs
 | _=>none
noncomputable def inU (u v:U) (o:O):Option Bool:=match v with
 | .tup vs=>siU u vs
 | .lst vs=>siU u vs
 | .dct g=>stK u fun x=>some (bZ x (tb.dks g) (tb.dvs g)).isSome
 | .ref i=>stK u fun x=>diK (o.at i) fun ks vs=>some (bZ x ks vs).isSome
 | _=>none
noncomputable def wu (u v:U) (o:O):Option Bool:=match v with
 | .tup _=>inU tb u v o
 | .lst _=>inU tb u v o
 | _=>none
noncomputable def om:U→Bool
 | .any _=>true
 | _=>false
noncomputable def isU (u v:U):Option Bool:=match v with
 | .none=>IF (om u) none (some (iF u))
 | _=>none
noncomputable def C9 (x y:List Nat):Option Bool:=match x with
 | [a]=>match y with
  | [b]=>some (Nat.ble a b)
  | _=>none
 | _=>none
noncomputable def Bn (op:CmpOp) (x y:List Nat):Option Bool:=match op with
 | .Eq=>some (aN x y)
 | .NotEq=>some (Bool.not (aN x y))
 | .LtE=>C9 x y
 | _=>none
noncomputable def BY (op:CmpOp) (a b:Int):Option Bool:=match op with
 | .Lt=>some (ltI a b)
 | .Gt=>some (ltI b a)
 | .GtE=>some (leI b a)
 | _=>none
noncomputable def CN (op:CmpOp) (r:List Nat) (a:Int):Option Bool:=match op with
 | .Lt=>inT r a
 | .GtE=>(inT r a).map Bool.not
 | _=>none
noncomputable def BX (op:CmpOp) (r:List Nat) (i a:Int) (v:U):Option Bool:=match v with
 | .pos _ j b=>BY op (Int.add i a) (Int.add j b)
 | .tlen=>CN op r a
 | _=>none
noncomputable def El (op:CmpOp) (a b:Int):Option Bool:=match op with
 | .Gt=>some (ltI b a)
 | _=>none
noncomputable def lv (op:CmpOp) (u v:U):Option Bool:=match u with
 | .int i=>inK v fun j=>ur op i j
 | .str x=>stK v fun y=>Bn op x y
 | .pos r i a=>BX op r i a v
 | .ln a=>lnK v fun b=>El op a b
 | _=>none
noncomputable def sQ (op:CmpOp) (u v:U) (o:O):Option Bool :=
 @CmpOp.rec (fun ε =>Option Bool) (lv .Eq u v) (lv .NotEq u v) (lv .Lt u v) (lv .LtE u v) (lv .Gt u v) (lv .GtE u v) (isU u v) ((isU u v).map Bool.not) (inU tb u v o) ((wu tb u v o).map Bool.not) op
noncomputable def oj (vs:List U) (n:Nat):Option U:=IF (sm n) (o6 vs n) none
noncomputable def xJ (u:U) (o:O) (n:Nat):Option U:=match u with
 | .tup vs=>oj vs n
 | .lst vs=>oj vs n
 | .str x=>chK (sm n) ((o6 x n).map fun c=>.str [c])
 | .ref i=>liK (o.at i) fun vs=>oj vs n
 | _=>none
noncomputable def vV (u v:U) (o:O):Option U:=match u with
 | .txt=>poK v fun r i=>ntK i fun n=>(o6 r n).map fun c=>.str [c]
 | .dct g=>stK v fun x=>bZ x (tb.dks g) (tb.dvs g)
 | u=>inK v fun i=>ntK i fun n=>xJ u o n
noncomputable def Bq (u a b:U):Option U:=match u with
 | .txt=>match a with
  | .pos r i (.ofNat 0)=>match b with
   | .pos s j o=>match Int.sub (Int.add j o) i with
    | .ofNat n=>some (.str (r.take n))
    | _=>none
   | _=>none
  | _=>none
 | _=>none
noncomputable def EQ (u a:U):Option U:=match u with
 | .str x=>match a with
  | .int (.ofNat n)=>IF (sm (aF x)) (IF (Nat.ble n (aF x)) (some (.str (x.drop n))) none) none
  | _=>none
 | _=>none
noncomputable def EP (u b:U):Option U:=match u with
 | .str x=>match b with
  | .int (.ofNat n)=>IF (sm (aF x)) (some (.str (x.take n))) none
  | _=>none
 | _=>none
noncomputable def mU (n:Nat):Option U:=IF (sm n) (some (.int (.ofNat n))) none
noncomputable def bi1 {α : Type}(us:List U) (f:U→Option α):Option α :=match us with
 | [u]=>f u
 | _=>none
noncomputable def xX (o:O) (u:U):Option U:=match u with
 | .txt=>some .tlen
 | .str x=>mU (aF x)
 | .lst x=>mU (aF x)
 | .ref i=>match o.at i with
  | .lst x=>mU (aF x)
  | _=>none
 | _=>none
noncomputable def xV (u:U):Option U:=match u with
 | .str x=>match x with
  | [c]=>some (.int (Int.ofNat c))
  | _=>none
 | _=>none
noncomputable def xZ (u:U):Option U:=match u with
 | .int i=>match i with
  | .ofNat c=>IF (Nat.ble c 1114111) (some (.str [c])) none
  | _=>none
 | _=>none
noncomputable def xY (u:U):Option U:=match u with
 | .bool b=>some (.int (IF b (.ofNat 1) (.ofNat 0)))
 | _=>none
noncomputable def x4 (u:U):Option U:=match u with
 | .int i=>some (.int (Int.ofNat i.natAbs))
 | _=>none
noncomputable def E5 (u v:U):Option U:=match u with
 | .int i=>match v with
  | .int j=>some (.int (IF (ltI i j) j i))
  | _=>none
 | _=>none
noncomputable def xW (us:List U):Option U:=match us with
 | [u,v]=>E5 u v
 | _=>none
noncomputable def uQ (u:U):Option U:=match u with
 | .lst x=>IF (sm (aF x)) (some (.lst x)) none
 | .tup x=>IF (sm (aF x)) (some (.lst x)) none
 | _=>none
noncomputable def biU (b:Nat) (us:List U) (o:O):Option U:=match b with
 | 0=>bi1 us (xX o)
 | 1=>bi1 us xV
 | 2=>bi1 us xZ
 | 3=>bi1 us Bm
 | 4=>bi1 us xY
 | 5=>bi1 us x4
 | 6=>xW us
 | 7=>bi1 us uQ
 | _=>none
noncomputable def us2 {α : Type}(us:List U) (f:U→U→Option α):Option α :=match us with
 | [u,v]=>f u v
 | _=>none
noncomputable def Dh (u v:U) (o:O):Option (U×O):=rfK u fun i=>liK (o.at i) fun vs=>chK (sm (aF vs)) (some (.none,o.put i (.lst (vs++[v]))))
noncomputable def xT (u:U) (o:O):Option (U×O):=rfK u fun i=>liK (o.at i) fun vs=>chK (sm (aF vs)) (vs.getLast?.map fun v=>(v,o.put i (.lst vs.dropLast)))
noncomputable def xU (u x d:U) (o:O):Option (U×O):=stK x fun x=>match u with
 | .dct g=>some ((bZ x (tb.dks g) (tb.dvs g)).getD d,o)
 | u=>rfK u fun i=>diK (o.at i) fun ks vs=>some ((bZ x ks vs).getD d,o)
noncomputable def uO (u w:U) (o:O):Option (U×O):=stK u fun y=>rfK w fun i=>liK (o.at i) fun vs=>chK (br y) ((lF vs).bind fun x=>chK (sm (aF x)) (some (.str x,o)))
noncomputable def Dd (u x p:U) (o:O):Option (U×O):=txK u (stK x fun x=>poK p fun r i=>chK (eqI i (.ofNat 0)) (some (.bool (wm x r),o)))
noncomputable def Df (u y:U) (o:O):Option (U×O):=stK u fun x=>stK y fun y=>chK (aN y [48]) (chK (sm (aF x)) (some (.str (md x),o)))
noncomputable def bmU (a:Nat) (u:U) (us:List U) (o:O):Option (U×O):=match a with
 | 60=>bi1 us fun v=>Dh u v o
 | 61=>chK (br us) (xT u o)
 | 62=>us2 us fun x d=>xU tb u x d o
 | 63=>bi1 us fun w=>uO u w o
 | 64=>us2 us fun x p=>Dd u x p o
 | 65=>bi1 us fun y=>Df u y o
 | _=>none
noncomputable def ko (o:O) (u:U):Option U:=match u with
 | .ref i=>match o.at i with
  | .lst (v::_)=>some v
  | _=>none
 | _=>none
noncomputable def og (o:O) (u:U):Option Bool:=match u with
 | .ref i=>match o.at i with
  | .lst [_,.bool b]=>some b
  | _=>none
 | _=>none
noncomputable def mi (o:O) (us:List U):Option (List U):=@List.rec U (fun ε =>Option (List U)) (some [])
 (fun u ε ih=>(ko o u).bind fun v=>ih.map (v :: ·)) us
noncomputable def mh (o:O) (us:List U):Option (List U):=@List.rec U (fun ε =>Option (List U)) (some [])
 (fun u ε ih=>(ko o u).bind fun v=>(og o u).bind fun b=>ih.map fun vs=>IF b (v::vs) vs) us
noncomputable def E4 (c:Nat) (us:List U) (o:O) (k:U→O→Rs):Rs:=match c with
 | 0=>match us with
  | [a,b,d]=>k (.obj 0 [a,b,d,.none]) ⟨o.objs,Nat.succ o.nt,o.tmp⟩
  | _=>.out
 | 1=>match us with
  | [a,b,d,e,f,g]=>k (.ref (.t o.nt)) (o.tnew (.inst 1 [a,b,d,e,f,g,.bool false,.bool true]))
  | _=>.out
 | c=>.call (tb.init c) (.ref (.o (aF o.objs))::us) (o.new (.inst c [])) fun u o'=>match u with
  | .none=>k (.ref (.o (aF o.objs))) o'
  | _=>.out
noncomputable abbrev SE:=Lc→O→K→Rs
structure SL where
 args:Lc→O→KL→Rs
 and:SE
 or:SE
noncomputable def rS (i:Nat):SE:=fun L o k=>IF (cG (af .unb L i)) .out (k (af .unb L i) L o)
noncomputable def rV (i:Nat):SE:=fun L o k=>match af .unb L i with
  | .ref (.t j)=>match o.tmp.get j with
   | .lst vs=>k (.lst vs) (a9 L i .unb) (o.tdel j)
   | .inst c vs=>k (.obj c vs) (a9 L i .unb) (o.tdel j)
   | _=>.out
  | _=>.out
noncomputable def rU (g:Nat):SE:=fun L o k=>IF (cG (af .unb tb.consts g)) .out (k (af .unb tb.consts g) L o)
noncomputable def rP:SE:=fun L o k=>k .none L o
noncomputable def rZ (b:Bool):SE:=fun L o k=>k (.bool b) L o
noncomputable def wi (i:Int):SE:=fun L o k=>k (.int i) L o
noncomputable def wb (x:List Nat):SE:=fun L o k=>k (.str x) L o
noncomputable def sb (a:Nat) (e:SE):SE:=fun L o k=>e L o fun u L o=>oget (sH a u o) fun v=>k v L o
noncomputable def wj (op:Operator) (e f:SE):SE:=fun L o k=>e L o fun u L o=>f L o fun v L o=>oget (sX op u v) fun w=>k w L o
noncomputable def rX (op:CmpOp) (e f:SE):SE:=fun L o k=>e L o fun u L o=>f L o fun v L o=>oget (sQ tb op u v o) fun b=>k (.bool b) L o
noncomputable def oi (op op':CmpOp) (e f g:SE):SE:=fun L o k=>e L o fun u L o=>f L o fun v L o=>oget (sQ tb op u v o) fun b =>
   IF b (g L o fun w L o=>oget (sQ tb op' v w o) fun b=>k (.bool b) L o) (k (.bool false) L o)
noncomputable def rO (e:SE):SE:=fun L o k=>e L o fun u L o=>match u with
  | .bool b=>k (.bool (Bool.not b)) L o
  | _=>.out
noncomputable def wg (e:SE):SE:=fun L o k=>e L o fun u L o=>match u with
  | .int i=>k (.int (Int.neg i)) L o
  | _=>.out
noncomputable def rT (t e f:SE):SE:=fun L o k=>t L o fun u L o=>truth u (e L o k) (f L o k)
noncomputable def rY (f:Pth) (es:SL):SE:=fun L o k=>es.args L o fun us L o=>.call f us o fun v o=>k v L o
noncomputable def oW (c:Nat) (es:SL):SE:=fun L o k=>es.args L o fun us L o=>E4 tb c us o fun u o=>k u L o
noncomputable def sBi (b:Nat) (es:SL):SE:=fun L o k=>es.args L o fun us L o=>oget (biU b us o) fun u=>k u L o
noncomputable def rQ (c:Nat) (f:Pth) (e:SE) (es:SL):SE:=fun L o k=>e L o fun u L o=>match u with
  | .ref i=>match o.at i with
   | .inst c' _=>IF (Nat.beq c' c) (es.args L o fun us L o=>.call f (.ref i::us) o fun v o=>k v L o) .out
   | .vlex _=>IF (Nat.beq 2 c) (es.args L o fun us L o=>.call f (.ref i::us) o fun v o=>k v L o) .out
   | _=>.out
  | _=>.out
noncomputable def ol (u:U) (o:O):Bool:=match u with
 | .ref i=>match o.at i with
  | .lst _=>true
  | _=>false
 | _=>false
noncomputable def xM (u:U) (o:O):Bool:=match u with
 | .dct _=>true
 | .ref i=>match o.at i with
  | .dic _ _=>true
  | _=>false
 | _=>false
noncomputable def isStr (u:U):Bool:=match u with
 | .str _=>true
 | .txt=>true
 | _=>false
noncomputable def xS (a:Nat) (u:U) (o:O):Bool:=match a with
 | 60=>ol u o
 | 61=>ol u o
 | 62=>xM u o
 | _=>isStr u
noncomputable def sBm (a:Nat) (e:SE) (es:SL):SE:=fun L o k=>e L o fun u L o=>IF (xS a u o) (es.args L o fun us L o=>oget (bmU tb a u us o) fun p=>k p.1 L p.2) .out
noncomputable def wa (e f:SE):SE:=fun L o k=>e L o fun u L o=>f L o fun v L o=>oget (vV tb u v o) fun w=>k w L o
noncomputable def wf (e a b:SE):SE:=fun L o k=>e L o fun u L o=>a L o fun v L o=>b L o fun w L o=>oget (Bq u v w) fun w=>k w L o
noncomputable def we (e a:SE):SE:=fun L o k=>e L o fun u L o=>a L o fun v L o=>oget (EQ u v) fun w=>k w L o
noncomputable def wc (e a:SE):SE:=fun L o k=>e L o fun u L o=>a L o fun v L o=>oget (EP u v) fun w=>k w L o
noncomputable def wh (es:SL):SE:=fun L o k=>es.args L o fun us L o=>k (.lst us) L o
noncomputable def rR (es:SL):SE:=fun L o k=>es.args L o fun us L o=>k (.ref (.t o.nt)) L (o.tnew (.lst us))
noncomputable def v9 (es:SL):SE:=fun L o k=>es.args L o fun us L o=>k (.tup us) L o
noncomputable def rW:SE:=fun L o k=>k (.ref (.t o.nt)) L (o.tnew (.dic [] []))
noncomputable def j7 (f:O→List U→Option (List U)) (e:SE):SE:=fun L o k=>e L o fun u L o=>match u with
 | .ref i=>match o.at i with
  | .lst us=>IF (sm (aF us)) (oget (f o us) fun vs=>k (.lst vs) L o) .out
  | _=>.out
 | _=>.out
noncomputable def ll:SL:=⟨fun L o k=>k [] L o,fun L o k=>k (.bool true) L o,fun L o k=>k (.bool false) L o⟩
noncomputable def gw (e:SE) (s:SL):SL:=⟨fun L o k=>e L o fun u L o=>s.args L o fun us L o=>k (u::us) L o,
  fun L o k=>e L o fun u L o=>truth u (s.and L o k) (k (.bool false) L o),
  fun L o k=>e L o fun u L o=>truth u (k (.bool true) L o) (s.or L o k)⟩
noncomputable def sem:XE→SE:=fun e=>@XE.rec (fun ε =>SE) (fun ε =>SL)
 rS rV (rU tb) rP rZ wi wb (fun ε a e=>sb a e)
 (fun op ε ε e f=>wj op e f) (fun op ε ε e f=>rX tb op e f) (fun op op' ε ε ε e f g=>oi tb op op' e f g)
 (fun ε es=>es.and) (fun ε es=>es.or) (fun ε e=>rO e) (fun ε e=>wg e) (fun ε ε ε t e f=>rT t e f)
 (fun f ε es=>rY f es) (fun c ε es=>oW tb c es) (fun b ε es=>sBi b es) (fun ε c f ε e es=>rQ c f e es) (fun ε a ε e es=>sBm tb a e es)
 (fun ε ε e f=>wa tb e f) (fun ε ε ε e a b=>wf e a b) (fun ε ε e a=>we e a) (fun ε ε e a=>wc e a)
 (fun ε es=>wh es) (fun ε es=>rR es) (fun ε es=>v9 es) rW (fun ε e=>j7 mi e) (fun ε e=>j7 mh e) ll (fun ε ε e s=>gw e s) e
noncomputable def jC:XL→SL:=fun e=>@XL.rec (fun ε =>SE) (fun ε =>SL)
 rS rV (rU tb) rP rZ wi wb (fun ε a e=>sb a e)
 (fun op ε ε e f=>wj op e f) (fun op ε ε e f=>rX tb op e f) (fun op op' ε ε ε e f g=>oi tb op op' e f g)
 (fun ε es=>es.and) (fun ε es=>es.or) (fun ε e=>rO e) (fun ε e=>wg e) (fun ε ε ε t e f=>rT t e f)
 (fun f ε es=>rY f es) (fun c ε es=>oW tb c es) (fun b ε es=>sBi b es) (fun ε c f ε e es=>rQ c f e es) (fun ε a ε e es=>sBm tb a e es)
 (fun ε ε e f=>wa tb e f) (fun ε ε ε e a b=>wf e a b) (fun ε ε e a=>we e a) (fun ε ε e a=>wc e a)
 (fun ε es=>wh es) (fun ε es=>rR es) (fun ε es=>v9 es) rW (fun ε e=>j7 mi e) (fun ε e=>j7 mh e) ll (fun ε ε e s=>gw e s) e
noncomputable def xB (t:XE):U→Lc→O→K0→Rs:=match t with
 | .loc i=>fun u L o k=>k (a9 L i u) o
 | .attr e a=>fun u L o k=>sem tb e L o fun v L o=>il cx a v u o fun o=>k L o
 | _=>fun ε ε ε ε =>.out
noncomputable def xls (es:XL):List XE:=@XL.rec (fun ε =>Unit) (fun ε =>List XE) (fun ε =>()) (fun ε =>()) (fun ε =>()) () (fun ε =>()) (fun ε =>()) (fun ε =>()) (fun ε ε ε =>())
 (fun ε ε ε ε ε =>()) (fun ε ε ε ε ε =>()) (fun ε ε ε ε ε ε ε ε =>()) (fun ε ε =>()) (fun ε ε =>()) (fun ε ε =>()) (fun ε ε =>()) (fun ε ε ε ε ε ε =>())
 (fun ε ε ε =>()) (fun ε ε ε =>()) (fun ε ε ε =>()) (fun ε ε ε ε ε ε =>()) (fun ε ε ε ε ε =>())
 (fun ε ε ε ε =>()) (fun ε ε ε ε ε ε =>()) (fun ε ε ε ε =>()) (fun ε ε ε ε =>())
 (fun ε ε =>()) (fun ε ε =>()) (fun ε ε =>()) () (fun ε ε =>()) (fun ε ε =>()) [] (fun e ε ε r=>e::r) es
noncomputable def ud (es:XL):Nat:=aF (xls es)
noncomputable def jB (ts:List XE):List U→Lc→O→K0→Rs:=@List.rec XE (fun ε =>List U→Lc→O→K0→Rs)
 (fun us L o k=>match us with
  | []=>k L o
  | _=>.out)
 (fun t ε ih us L o k=>match us with
  | u::us=>xB tb cx t u L o fun L o=>ih us L o k
  | _=>.out) ts
noncomputable abbrev SX:=Lc→O→K0→K0→K0→Rs
noncomputable def lB (t:SE) (b:SX) (kn:K0) (n:Nat):Lc→O→Rs:=@Nat.rec (fun ε =>Lc→O→Rs) (fun ε ε =>.out)
 (fun ε ih L o=>t L o fun u L o=>truth u (b L o ih kn ih) (kn L o)) n
noncomputable def gM (i:Nat) (b:SX) (kn:K0) (us:List U):Lc→O→Rs:=@List.rec U (fun ε =>Lc→O→Rs) (fun L o=>kn L o)
 (fun u ε ih L o=>b (a9 L i u) o ih kn ih) us
noncomputable def oY (n:Nat):Int→List U:=@Nat.rec (fun ε =>Int→List U) (fun ε =>[]) (fun ε ih a=>.int a::ih (Int.add a (.ofNat 1))) n
noncomputable def mC (d i v:U) (o:O) (k:O→Rs):Rs:=match d with
 | .ref a=>match o.at a with
  | .dic ks vs=>match i with
   | .str x=>IF (Nat.ble (aF ks) 999) (wz x v ks vs fun ks vs=>k (o.put a (.dic ks vs))) .out
   | _=>.out
  | .lst vs=>match i with
   | .int (.ofNat n)=>IF (Nat.ble (Nat.succ n) (aF vs)) (IF (sm (aF vs)) (k (o.put a (.lst (a9 vs n v)))) .out) .out
   | _=>.out
  | _=>.out
 | _=>.out
noncomputable def vM (i:Nat) (e:XE):SX:=fun L o kn ε ε =>sem tb e L o fun u L o=>kn (a9 L i u) o
noncomputable def rB (e:XE) (a:Nat) (v:XE):SX:=fun L o kn ε ε =>sem tb v L o fun u L o=>sem tb e L o fun w L o=>il cx a w u o fun o=>kn L o
noncomputable def rA (e i v:XE):SX:=fun L o kn ε ε =>sem tb v L o fun u L o=>sem tb e L o fun d L o=>sem tb i L o fun i L o=>mC d i u o fun o=>kn L o
noncomputable def oB (ts:XL) (e:XE):SX:=fun L o kn ε ε =>sem tb e L o fun u L o=>match u with
  | .tup us=>IF (Nat.beq (aF us) (ud ts)) (jB tb cx (xls ts) us L o kn) .out
  | _=>.out
noncomputable def xd (op:Operator) (u v:U):Option U:=match u with
 | .int _=>sY op u v
 | .pos _ _ _=>sY op u v
 | .ln _=>sY op u v
 | _=>none
noncomputable def Ep (u:U):Bool:=match u with
 | .ref _=>true
 | _=>false
noncomputable def ry (i:Nat) (op:Operator) (e:XE):SX:=fun L o kn ε ε =>IF (cG (af .unb L i)) .out (sem tb e L o fun v L' o=>oget (xd op (af .unb L i) v) fun w=>kn (a9 L' i w) o)
noncomputable def rz (e:XE) (a:Nat) (op:Operator) (v:XE):SX:=fun L o kn ε ε =>sem tb e L o fun w L o=>IF (Ep w) (oget (sH a w o) fun u=>sem tb v L o fun v L o=>oget (xd op u v) fun x=>il cx a w x o fun o=>kn L o) .out
noncomputable def vJ (e:XE):SX:=fun L o ε ε ε =>sem tb e L o fun u ε o=>.ok u o
noncomputable def vK (t:XE) (b e:SX):SX:=fun L o kn kb kc=>sem tb t L o fun u L o=>truth u (b L o kn kb kc) (e L o kn kb kc)
noncomputable def vI (t:XE) (b:SX):SX:=fun L o kn ε ε =>lB (sem tb t) b kn 4000 L o
noncomputable def vL (i:Nat) (e:XE) (b:SX):SX:=fun L o kn ε ε =>sem tb e L o fun u L o=>match u with
  | .lst us=>gM i b kn us L o
  | .tup us=>gM i b kn us L o
  | _=>.out
noncomputable def ru (i:Nat) (e:XE) (b:SX):SX:=fun L o kn ε ε =>sem tb e L o fun u L o=>match u with
  | .int (.ofNat n)=>IF (sm n) (gM i b kn (oY n (.ofNat 0)) L o) .out
  | _=>.out
noncomputable def oG (i:Nat) (e f:XE) (b:SX):SX:=fun L o kn ε ε =>sem tb e L o fun u L o=>sem tb f L o fun v L o=>match u,v with
  | .int (.ofNat m),.int (.ofNat n)=>IF (sm m) (IF (sm n) (gM i b kn (oY (Nat.sub n m) (Int.ofNat m)) L o) .out) .out
  | _,_=>.out
noncomputable def rv (e:XE):SX:=fun L o kn ε ε =>sem tb e L o fun ε L o=>kn L o
noncomputable def xr (us:List U):Rs:=match us with
 | [_,.ln (.ofNat n)]=>.fail n
 | _=>.out
noncomputable def oE (es:XL):SX:=fun L o ε ε ε =>(jC tb es).args L o fun us ε ε =>xr us
noncomputable def exec:XB→SX:=fun b=>@XB.rec (fun ε =>SX) (fun ε =>SX)
 (vM tb) (rB tb cx) (rA tb) (fun ε ts e=>oB tb cx ts e) (ry tb) (rz tb cx) (vJ tb) (fun ε o ε ε ε =>.ok .none o)
 (fun t ε ε b e=>vK tb t b e) (fun t ε b=>vI tb t b) (fun i e ε b=>vL tb i e b) (fun i e ε b=>ru tb i e b) (fun i e f ε b=>oG tb i e f b)
 (rv tb) (oE tb) (fun L o ε kb ε =>kb L o) (fun L o ε ε kc=>kc L o) (fun L o kn ε ε =>kn L o)
 (fun L o kn ε ε =>kn L o) (fun ε ε s b L o kn kb kc=>s L o (fun L o=>b L o kn kb kc) kb kc) b
noncomputable def xP:XS→SX:=fun b=>@XS.rec (fun ε =>SX) (fun ε =>SX)
 (vM tb) (rB tb cx) (rA tb) (fun ε ts e=>oB tb cx ts e) (ry tb) (rz tb cx) (vJ tb) (fun ε o ε ε ε =>.ok .none o)
 (fun t ε ε b e=>vK tb t b e) (fun t ε b=>vI tb t b) (fun i e ε b=>vL tb i e b) (fun i e ε b=>ru tb i e b) (fun i e f ε b=>oG tb i e f b)
 (rv tb) (oE tb) (fun L o ε kb ε =>kb L o) (fun L o ε ε kc=>kc L o) (fun L o kn ε ε =>kn L o)
 (fun L o kn ε ε =>kn L o) (fun ε ε s b L o kn kb kc=>s L o (fun L o=>b L o kn kb kc) kb kc) b
end
structure Fn where
 nm:String
 ar:Nat
 pads:List U
 fr:List Nat
 body:XB
noncomputable def rD:XB:=.cons .brk .nil
inductive FT where
 | leaf | node (l:FT) (b:Option Fn) (r:FT)
noncomputable def FT.get (t:FT):Pth→Option Fn:=@FT.rec (fun ε =>Pth→Option Fn) (fun ε =>none)
 (fun ε b ε l r p=>@Pth.rec (fun ε =>Option Fn) b (fun p ε =>l p) (fun p ε =>r p) p) t
noncomputable def kq (fr:List Nat) (L:Lc) (o:O):O:=@List.rec Nat (fun ε =>O) o (fun i ε ih=>match af .unb L i with
 | .ref (.t j)=>ih.tdel j
 | _=>ih) fr
section
variable (tb:Tb) (cx:Cx) (ft:FT)
noncomputable def bA (f:Pth) (us:List U) (o:O):Rs:=@Option.rec Fn (fun ε =>Rs) .out (fun b=>exec tb cx b.body (us++b.pads) o (fun L o=>.ok .none (kq b.fr L o)) (fun ε ε =>.out) (fun ε ε =>.out)) (ft.get f)
noncomputable abbrev Nt:=Pth→List U→O→Option Rs
noncomputable def run (nat:Nt) (nd m:Nat):Rs→List (U→O→Rs)→Nat→Rs:=@Nat.rec (fun ε =>Rs→List (U→O→Rs)→Nat→Rs) (fun ε ε ε =>.out)
 (fun ε ih r ks d=>@Rs.rec (fun ε =>Rs)
  (fun u o=>@List.rec (U→O→Rs) (fun ε =>Rs) (.ok u o) (fun k ks ε =>ih (k u o) ks (Nat.succ d)) ks)
  (fun n=>.fail n) .out
  (fun f us o k ε =>@Option.rec Rs (fun ε =>Rs) (@Nat.rec (fun ε =>Rs) .out (fun d ε =>ih (bA tb cx ft f us o) (k::ks) d) d)
   (fun r=>IF (Nat.ble (Nat.succ nd) d) (@Rs.rec (fun ε =>Rs) (fun u o=>ih (k u o) ks d) .fail .out (fun ε ε ε ε ε =>.out) r) .out) (nat f us o)) r) m
end
end Mine
end
section
open PySem
noncomputable section
namespace Mine
noncomputable abbrev KK' (α : Type):=Nat→(α→Nat→XB)→XB
noncomputable def frc {α : Type}(n:Nat) (k:Nat→α) : α :=@Nat.rec (fun ε => α) (k 0) (fun m ε =>k (Nat.succ m)) n
noncomputable def dv {α : Type}(N d:Nat) (k:Nat→Nat→α) : α :=frc (Nat.mod N d) fun a=>frc (Nat.div N d) fun b=>k a b
noncomputable def nK:KK' Nat:=fun N k=>dv N 128 fun d M=>IF (Nat.ble d 119) (k d M) (IF (Nat.beq d 120) (dv M 16384 k) (dv M 34359738368 k))
noncomputable def lE (e:KK' XE):KK' XL:=fun N k=>nK N fun n N=>@Nat.rec (fun ε =>KK' XL) (fun N k=>k .nil N) (fun ε r N k=>e N fun a N=>r N fun t N=>k (.cons a t) N) n N k
noncomputable def lS (e:KK' XS):KK' XB:=fun N k=>nK N fun n N=>@Nat.rec (fun ε =>KK' XB) (fun N k=>k .nil N) (fun ε r N k=>e N fun a N=>r N fun t N=>k (.cons a t) N) n N k
noncomputable def lC:KK' (List Nat):=fun N k=>nK N fun n N=>@Nat.rec (fun ε =>KK' (List Nat)) (fun N k=>k [] N) (fun ε r N k=>nK N fun a N=>r N fun t N=>k (a::t) N) n N k
noncomputable def pO (f:Nat):Nat→Pth:=@Nat.rec (fun ε =>Nat→Pth) (fun ε =>.e) (fun ε r n=>IF (Nat.ble n 1) .e (IF (Nat.beq (Nat.mod n 2) 0) (.l (r (Nat.div n 2))) (.r (r (Nat.div n 2))))) f
noncomputable def opN (n:Nat):Operator:=af .Add [.Add,.Sub,.Mult,.MatMult,.Div,.Mod,.Pow,.LShift,.RShift,.BitOr,.BitXor,.BitAnd,.FloorDiv] n
noncomputable def cmN (n:Nat):CmpOp:=af .Eq [.Eq,.NotEq,.Lt,.LtE,.Gt,.GtE,.Is,.IsNot,.In,.NotIn] n
noncomputable def e1 (e:KK' XE) (c:XE→XE) (N:Nat) (k:XE→Nat→XB):XB:=e N fun a N=>k (c a) N
noncomputable def e2 (e:KK' XE) (c:XE→XE→XE) (N:Nat) (k:XE→Nat→XB):XB:=e N fun a N=>e N fun b N=>k (c a b) N
noncomputable def e3 (e:KK' XE) (c:XE→XE→XE→XE) (N:Nat) (k:XE→Nat→XB):XB:=e N fun a N=>e2 e (c a) N k
noncomputable def eN' (c:Nat→KK' XE):KK' XE:=fun N k=>nK N fun n N=>c n N k
noncomputable def eL (e:KK' XE) (c:XL→XE):KK' XE:=fun N k=>lE e N fun a N=>k (c a) N
noncomputable def stE (e:KK' XE) (o M:Nat) (k:XE→Nat→XB):XB :=
 IF (Nat.ble o 31) (af (fun ε ε =>.nil) [eN' fun i N k=>k (.frz i) N,eN' fun i N k=>k (.glob i) N,fun N k=>k .cnone N,eN' fun i N k=>k (.cint (.ofNat i)) N,fun N k=>lC N fun x N=>k (.cstr x) N,
  eN' fun i=>e1 e fun a=>.attr a i,eN' fun i=>e2 e (.bin (opN i)),eN' fun i=>e2 e (.cmp (cmN i)),eN' fun i=>eN' fun j=>e3 e (.cmp2 (cmN i) (cmN j)),eL e .and,eL e .or,e1 e .not,e1 e .neg,e3 e .ife,
  eN' fun p=>eL e (.call (pO 20 p)),eN' fun i=>eL e (.new i),eN' fun i=>eL e (.bi i),eN' fun i=>eN' fun p N k=>e N fun a N=>eL e (.meth a i (pO 20 p)) N k,eN' fun i N k=>e N fun a N=>eL e (.bm a i) N k,
  e2 e .sub,e3 e .slc,e2 e .slf,e2 e .slt,eL e .lst,eL e .lstM,eL e .tup,fun N k=>k .dict N,e1 e .comp,e1 e .compIf,eN' fun i N k=>k (.loc i) N,eN' fun i N k=>k (.cbool (Nat.beq i 1)) N] o M k)
  (IF (Nat.ble o 63) (frc (Nat.sub o 32) fun i=>k (.loc i) M) (IF (Nat.ble o 79) (frc (Nat.sub o 64) fun i=>k (.cint (.ofNat i)) M) (frc (Nat.sub o 80) fun i=>e M fun a M=>k (.attr a i) M)))
noncomputable def sN' (c:Nat→KK' XS):KK' XS:=fun N k=>nK N fun n N=>c n N k
noncomputable def s1 (e:KK' XE) (c:XE→XS) (N:Nat) (k:XS→Nat→XB):XB:=e N fun a N=>k (c a) N
noncomputable def s2 (e:KK' XE) (c:XE→XE→XS) (N:Nat) (k:XS→Nat→XB):XB:=e N fun a N=>s1 e (c a) N k
noncomputable def sE (e:KK' XE) (c:XE→KK' XS):KK' XS:=fun N k=>e N fun a N=>c a N k
noncomputable def sB (s:KK' XS) (c:XB→XS):KK' XS:=fun N k=>lS s N fun a N=>k (c a) N
noncomputable def stS (e:KK' XE) (s:KK' XS) (o M:Nat) (k:XS→Nat→XB):XB:=af (fun ε ε =>.nil) [sN' fun i=>s1 e (.asg i),sN' fun i=>s2 e fun a b=>.asga a i b,sE e fun a=>s2 e (.asgs a),sN' fun i N k=>lE e N fun a N=>s1 e (.unp (Nat.beq i 1) a) N k,
 sN' fun i=>sN' fun p=>s1 e (.augn i (opN p)),sN' fun i=>sN' fun p=>s2 e fun a b=>.auga a i (opN p) b,s1 e .ret,fun N k=>k .ret0 N,sE e fun a N k=>lS s N fun b N=>sB s (.ifs a b) N k,sE e fun a=>sB s (.whl a),
 sN' fun i=>sE e fun a=>sB s (.for_ i a),sN' fun i=>sE e fun a=>sB s (.forr i a),sN' fun i=>sE e fun a=>sE e fun b=>sB s (.forr2 i a b),s1 e .expr,fun N k=>lE e N fun a N=>k (.raise_ a) N,fun N k=>k .brk N,fun N k=>k .cnt N,fun N k=>k .pass N] o M k
noncomputable def De (f:Nat):KK' XE:=@Nat.rec (fun ε =>KK' XE) (fun ε ε =>.nil) (fun ε r N k=>dv N 128 fun o N=>stE r o N k) f
noncomputable def Ds (f:Nat):KK' XS:=@Nat.rec (fun ε =>KK' XS) (fun ε ε =>.nil) (fun ε r N k=>dv N 128 fun o N=>stS (De 99) r o N k) f
noncomputable def X (N:Nat):XB:=lS (Ds 99) N fun b ε =>b
end Mine
end
section
open PySem
noncomputable section
namespace Mine
noncomputable def ft:FT:=.node (.node (.node (.node (.node (.node (.node (.node .leaf (some ⟨"condition",1,[.unb],[],X 424866421919378070717491197071448776153179323235189745351149188⟩) .leaf) (some ⟨"binding_fault",2,[],[],X 2620245403145300105517724745994149431175680613261023355612318071974117692568006276086884709301310826040268919945708546⟩) .leaf) (some ⟨"code_at",2,[],[],X 43263566252612061243370990004020134657⟩) (.node .leaf (some ⟨"conditional",2,[.unb,.unb],[],X 187443816611227079714793247090877965233000077858789336079158778368673374233253115512516019864021824528739727426393464007428792721113093⟩) .leaf)) (some ⟨"first_place",4,[.unb,.unb,.unb],[],X 55651889712459876739546487954743921660058325410623917879402626534223084050392122069061586802755843904697136730658464390508773009074194122604548⟩) (.node (.node (.node .leaf none .leaf) (some ⟨"is_word",2,[],[],X 3287394557236804438657529485141900639054227787128461393543937⟩) .leaf) (some ⟨"skip_blanks",1,[.unb,.unb],[],X 26433999351746694447462273524438732077543911530634822029951742434499650552176867223959020322377728915779262454904234869562966629500625499186171170709345281953804969005133657817640453997169345191264354844161260110294190143649360556081154⟩) (.node .leaf (some ⟨"statement",1,[.unb,.unb,.unb],[],X 982194144057872227438246443852845286823015013804992631855725865938286292605590703942890067301499730143511234427286456305145746677019622963268335783143509644572231040548571139122410180777680229320989203443956203849935912736392548154051420689075043468877535149874642940333362755682399583113446329987365604670815460430512494437384078456845213106567⟩) .leaf))) (some ⟨"signed",2,[],[],X 327246555207157836716826883013051137⟩) (.node (.node (.node (.node .leaf (some ⟨"attempt",2,[.unb,.unb,.unb,.unb],[],X 1675602916099313682137379009749581618889491580454776938247722164122898630019774363946130249609662133960839780256287387224911869129863797786166016870247545252287027187309020329907771169967649140995297757797847412090708139911855515319755995763397566251806333540602049507687636346691414441835855709007649251280519⟩) .leaf) (some ⟨"__init__",1,[],[],X 159078470251652391215076524163⟩) .leaf) (some ⟨"__init__",7,[],[],X 546102576959596117373327793247147323644479947157835852925489225784098952⟩) (.node .leaf (some ⟨"arguments",1,[.unb],[],X 230433245106505438830634528915253381274384849237126067263953192972979969436392281032589343987149681501024874317597263036196419513299821488106927882249466617419548293⟩) .leaf)) (some ⟨"is_among",2,[],[],rD⟩) (.node (.node .leaf (some ⟨"need_binding",1,[],[],X 63334531947086689360048611897269517790216641881065578444831138249922705543648096928771⟩) .leaf) (some ⟨"read_decimal",1,[.unb,.unb],[],X 128344235321988311728398780348213125619888385958383885097138259161916730734019145091349049533743146527605398754143116252437269244040750699449600426379646321541738651567108⟩) (.node .leaf (some ⟨"leaving",3,[.unb],[],X 158021912792097002006106190272784908223276123163918063974928153013851065271872081197035401991939670780582095014012340847479662688566776584357248794783872543207690418934458352251995802925184336343595129166993861001455527384091090630913110443071805698030089572879828081215372049762586549747942135283267068677420950709168658987187060593993594729008268940082001529650038404⟩) .leaf)))) (some ⟨"is_negative",1,[],[],X 604060640683787141889⟩) (.node (.node (.node (.node (.node .leaf (some ⟨"for_loop",2,[.unb,.unb,.unb,.unb,.unb],[],X 123974318043976939048817903795113967613526596323074049727364834420171623935647818353351677306221157154501702346183785536071547292080169990658402600945214899306650525938987858192234039258522793141898649078769513844149666835880853615954094687525877135223614922788051145421425681036112360498204749271193908112325060777890638889563114443349578694428603234336186272572218758291046919379109787824375985591774492606890432765153599057989811643684102784695723224394286531815154167440063292641091560286420278017256634707566868065175177⟩) .leaf) (some ⟨"delete_fault",2,[],[],X 391286110153893880828513164273451960838423281956115950689795712079579870155285625699823718211399140097⟩) .leaf) (some ⟨"read_escape",2,[.unb,.unb,.unb,.unb,.unb],[],X 60829385232407682926579448062100345676337553051315164908436766237675102629453645710514360428602757152389081800515516235367843135453050131520710051088528450777955924513673314302481138007461640210814188779295432127326379599354738377017420993402215154353997348198770760111441505107615566154910732889378439918256650260384795644386270163740721347333453693278319207616271314555736352204047728352645565292962874605597795390550421038562975640748041⟩) (.node .leaf (some ⟨"postfix",1,[.unb],[],X 6438963664492761421763274069510070093715462016893834792449852869065246296819383597978093063065064561281349648510119670051511867391260332109348868⟩) .leaf)) (some ⟨"with_exponent",2,[.unb],[],X 113909800016499237914488900261559906978575716562969236774499342354513922⟩) (.node (.node .leaf (some ⟨"fail",2,[],[],X 143954756536065⟩) .leaf) (some ⟨"skip_digits",1,[.unb],[],X 3285481976396545654356389812899143954582576545619463905492995⟩) (.node .leaf (some ⟨"block",1,[.unb],[],X 37590459945326925427363131311349893226649337506381006662413521546735792538709752112192742996141290810530612869⟩) .leaf))) (some ⟨"assembled",3,[.unb],[],X 2582731805989105885829952966959316650368515512156339413105865583205172459172379442172419890998640986889570163295855331786484543595457381424813511057401299973⟩) (.node (.node (.node (.node .leaf (some ⟨"_law_rows",0,[.unb],[],X 48402126145427960380925887699018525067484530531409207659862151885360101036420273908299408141190717092078550520619199020787353456361943220824154269898563714242400322299192007422995494771301426361955558894388553149869875334499438004410522346117945129885990925631677588946855808032173862040530112375334583774850003696396404757188376236902398605872904023566498507224873924463016087493815694491750330299022639865690255829779074367816752478092058179749561744182907842542068267748572100226522367335740701616799819473854373533383978574593444137087374524558464153498411723667999148164916720173695252008984560456488772732593408704773206643321783091267141600501683517535694057882839352474267382444804876989764434204180787136704084114182822320927813047999859935906440625503120439135586487821690244679306569865275437128955393687723652681141443552041720277796299399797050505160458060252035329434228476571986421082513753354814108724908633936588866277651747727832653880740343582636464413870122596401567967703792671044681678141031056262512334539203902149635311009373280443258841975705927704515392742221134092735419676475737089639342485245156333228215067773005594270166176747294819915331792290171205026771425759081570354578190047374240502136499322820115592906688727490679655154571955723305990025429165937754938464669377319811917480630604453359330605408623673627140403240239419228652999104732668336979338449899074156112328659178670864777204258242762229719234419098047408257483607954097754928178178363688786839947918994202620960819917543380445964049620306855248581771536049875471141279070394780861860194922548273702594786348067098641890228873941669831733478176695348426346616172279339002769984582230723425896997456396261688048705418226183188723095321327936603171984078966040935557571440148083517208000085991365926581228652254156863914352756230899012143257516060526499311726475112145351158999325766289248424364971249019634696308306049416514554910379829328795003577143371374644666339313376307176665173386327168711522807853851531329979869942840965970926665012164500539440246924627767375179484443897880273195044942810473820159237314244388057443271573962287965483083912085562323423679289827734890706006615184356668450237543071534418525694928452415280290545488654179251890636059105995686701712978129502939116791978591055758418373970500068242668316661809281210812222772814861424186864766381632915320989575798847905210950724147560343591933522895078841257698520441868735856632762565157033015070416258116455981574463632300115522282133838215320604775344003288255203787498550416992099797790005029449347642960322271591807996756085528517126394728603841835614610627418059735085405780802365444191027971920655151269953694241403155399556316754202551830302648463000472887746514879966590182000591287434786666253969891435840168897113268798716615741050971108240329926576940429765446474539425608867808978722117634046659079413973595615432438436975551749758502493144239967450569351028358017972225075282467996475488015859810492156318280238577738051343199776288118892490958857661804173206059941961144926475079994438460689863635742018153953371846449154679193100168107714646281324440213637816705552360893201435872177894137590068451301643017053080442293850723931491801730206835382223961542536469220499210574249500030555946305659846539213549951326122719854729821695321294883082047793292787504940981592679200676720193304656715187529276828237032606101779938987127009242156682100716577724868311459504135746378176500720859542808001216675105094248510471673432399220104088933717472528137351330337721451621739605180152579202551180335102525666325550289260820817779008094346911351386615626886311807832108525103472966604619387306742044934634092490354841697688149323822849966936883647474027134002294442162257876808945582854276383391777806668917123057838413536708241357900995605009553587569233582941856995978380394086431793861564494495791982571258456256646023614709176504172508213630662758249145830450863796706393753256527956991934377351064585564262475728319699065124660487294698730451731749545881666582061385190804002157999745837494235433879113951434653253017166397915735502947476795681396686882302019250541381561108978059102203401340679940043716354746579672597537192427734169019564977890622873271937062970899142047730035244770554361870932988340889691994686232481956560527258998961617995397887112358063505175208056316464531921876890936898122366352647274175883449320208700833885511643268139671451278698946025416661832168922077916388887680711082914958632014527236108373212436946415024667411669711915034204619138393323593367966695117675343455237747156980673632799337934795070143529460990518906653517303969253437388580514750524834266213786963076445537260607072459731913472142151065806984381683925702576104137248555542109759219320307384382108113962294989651659870129697272769817774061796626887656188191656306246278017977794182782408870251055430055766080254862151036024137038581325513135772265392851851301308947544790529069534381770236199894647011345902235337087388295578241796212732424844285652922697173945268839820213858198774688524827630575813385694820858885208018797182282679448881547395061776492730738372903960592⟩) .leaf) (some ⟨"__init__",2,[],[],X 352884273051172585084451059913569662063797634667809072854909063837092319249421238407⟩) .leaf) (some ⟨"__init__",2,[],[],X 1262119750122414451393200259⟩) (.node .leaf (some ⟨"object",1,[],[],X 1122605745793⟩) .leaf)) (some ⟨"is_octal_digit",1,[],[],X 507519860417759412993⟩) (.node (.node .leaf (some ⟨"function",2,[],[],X 1122605745793⟩) .leaf) (some ⟨"read_text",3,[.unb,.unb],[3],X 2367287938903364927233555887397598951776160032322976808104163616561268689843090751692714789520321427914081822498027439613643972994451298367951529986659260016519199301304578735350056542971787179326789071348514965601634006338796474542165670108543701777306851429123909367103622⟩) (.node .leaf (some ⟨"function",2,[.unb,.unb,.unb,.unb,.unb,.unb,.unb],[],X 409227710717547325544050355035874636899431842449700996541079253264998888925335994770546485243466014804817760793134658177238974759837777190550574514750192486707995381662897134673714640172089194316182591611796530965074879824345220016716417312031531113514735040808284944362933216790496999165604691980⟩) .leaf))))) (some ⟨"width",1,[.unb,.unb],[],X 49170306840544517159868537688495423718017587163586721435811661140593306609830057166789967863955905914282961157702394119803580151477275849670660⟩) (.node (.node (.node (.node (.node (.node .leaf (some ⟨"loop",4,[.unb,.unb,.unb],[],X 86658252781636474342074616215190440966030296764368229800418499526996145107660471941330786304669504806713603262497286783416249863436158422085088439347434909064868173343775446359691881616972566160542868871292189174409371589616410315078472083115486231722089255995793724851411999923438857⟩) .leaf) (some ⟨"params_fault",3,[.unb,.unb,.unb],[],X 49166531956883952158078392061274416624931547479883903670835879273164414861215975874440228789789657076312232699948748437324666721907913711774683652987484121048624517492163588⟩) .leaf) (some ⟨"line_end_size",2,[],[],X 3137792891515569857457950422415926765635617569005323009⟩) (.node .leaf (some ⟨"binary",3,[.unb,.unb,.unb,.unb],[],X 35507140478163183774330648082257496131309016690172548008755517227335551837557847789378277444135625217986666910274687682753592648375692278690471106464390118863458302364785592811523⟩) .leaf)) (some ⟨"last_figure",5,[],[],X 39379332466688553574042085392245720662843737993372450890969824556429457181277925272897958422310437890⟩) (.node (.node (.node .leaf none .leaf) (some ⟨"need",2,[],[],X 10354210444162035685048595956737⟩) .leaf) (some ⟨"name_sign",2,[.unb,.unb,.unb,.unb],[],X 2976357370858083394277246577822803199384154796738294581192754671434831627452368866881092302372223430334117811784510606952522882891289890422217991926187642868698487910277445334475070327055454395261289403393655749412417968699689318166126084391148723530295450599889204145518523624511788956513036403077⟩) (.node .leaf (some ⟨"word_statement",3,[.unb,.unb],[],X 1706651310062482374526101054117788550368164353823270886819101184782190585660971974082178291184491287466931687438138786726749518611908799532257782783250343319420461515692524628067646739340230416491296349511122726955788405912842281396352740958576025563651629164779761201420327859157392390038405755669187465598671829867941534385507759754811082017258136698299681106482746815452319773546843521214051733056471887868672088187737176111723033692820935926097268922651299088733204355867983761371778493985719036151089287240443568507986851851725965634253969741579813734756336316303618449237306556424⟩) .leaf))) (some ⟨"quotient",3,[],[],X 896681572318143484123891680151928889878782122066983965752989105374210⟩) (.node (.node (.node (.node .leaf none .leaf) (some ⟨"break_fault",2,[],[],X 980541491903838017696710123166552941866810744266756159233000438874215402075927221950128228889184824335596113381489864394600772668313379204038585047526572313960991802370⟩) .leaf) (some ⟨"punct_at",2,[.unb,.unb],[],X 3368169639921831868360740338836226341674689478021774496881476866⟩) (.node .leaf (some ⟨"word_operand",1,[.unb],[],X 3594088346529804637200804862044461899956742206896856902574495676501576637898296828741652455810638213731598170141134661301612338192790526389013661668204673088819818661465763677718289321161031164700715198178458780324936207707736959162180761446792458302307692483671115138278572253479340899117469139536568649373168542102014494455087622970584080524747798034790513270341639⟩) .leaf)) (some ⟨"is_line_end",1,[],[],X 52819524698881⟩) (.node (.node .leaf (some ⟨"can_end",1,[],[],X 14458020563582089253773253577163797883752554884274339517785586370393309953⟩) .leaf) (some ⟨"regex",2,[.unb,.unb,.unb],[],X 407022150332078676262904056903686416009863780327166205562502337140771223164403142585197871897655612382708543588719578567702743922547206986819984300936477016985758396427029287227443682448623212603391565218934181242025302002587230122721415⟩) (.node .leaf (some ⟨"entry",1,[.unb,.unb,.unb,.unb],[],X 1614655227003852041434530630175956886881191125605416586763209942738824213236384213534480223376330146034398686662689262167077958263871627610192740484430475642841694086281750774007460177019289361419883558134457481969255041149564406040406497648517267794343381862973251545913190532946056900043249565701⟩) .leaf)))) (some ⟨"is_inf",1,[],[],X 19836205973263235774895211265⟩) (.node (.node (.node (.node (.node .leaf (some ⟨"switch",2,[.unb,.unb,.unb,.unb],[],X 826508754589192355535736476488210816739523171443711837952357764982803611410105937461760334809667479129271630698842925667418393789601871800752845414728450917690174863446887374556822162787712124816938441163469842364801786781024965325184799043799310842390338421227832421098804130140160631841310247827873303254380302787811190636585608319725307989770936377998228987233521145767524831330704939983826149721737⟩) .leaf) (some ⟨"entry_fault",4,[.unb],[],X 9170198761349651029400270934493039064948181322321189241635694680018638452358682083885257730649237085277746231940946482021479168398574026154279386610124940474317251198410288193548366686259341353512533371580406114689742337888523631496027137472567251682456038935852534541015669120283710972226036799029871616479228859181289248692506814599611467552284704506740038718263833574706787187498551273328983680205427300509730880367096622038807360314453194640894699242762885686627726791360967810196547407034458374149⟩) .leaf) (some ⟨"worth",4,[.unb,.unb],[],X 13487587775410605939950660783020181213354806739009539⟩) (.node .leaf (some ⟨"with_members",2,[.unb],[],X 82894350168768021149622010324042801169399636049948879559544429737602678757890696331557437273328545213348764685261805104847569398890444482632597551796473781470302328902140794871983355099134210075343729099906⟩) .leaf)) (some ⟨"without_figures",1,[],[],X 9845092691986669939983249219030312302596814440148968316358916786265447606178764648458528668748913287089690477571⟩) (.node (.node .leaf (some ⟨"unexpected",1,[],[],X 23790659761200005418554233168008166688084574698608899817058743160990189439091344038383301570482876811785757767164547085362101977551750785⟩) .leaf) (some ⟨"read_hex",1,[.unb,.unb],[],X 82889244110332856472298616240117244723089680906111106755314124996559066213259446660273894645020401488901385814474430122628931816233778086246737454399160377110224776372993192152270484259710104565172601537157⟩) (.node .leaf (some ⟨"labelled",2,[.unb,.unb,.unb,.unb],[],X 10136273668746025482496162810418599626454184003425225963940946373414387591044884523794444923766316630377491764244008099948074789691431683158748740523390456370976761323513728153237342683146⟩) .leaf))) (some ⟨"scaled",2,[.unb,.unb,.unb],[],X 6536173519441300998240006112614191630642356758489756483700397513365684840956018994352357517066650235212808966992072183300911464014929654154559493⟩) (.node (.node (.node .leaf (some ⟨"peek",1,[],[],X 45625570181637152223199456020005577178596354⟩) .leaf) (some ⟨"fail",2,[],[],X 1121324140289⟩) (.node .leaf (some ⟨"at_end",2,[],[],X 2875905538261975633387656282702468650092437127937⟩) .leaf)) (some ⟨"is_id_start",1,[],[],X 1821159780794422251249634690543913644776975052232091704269907203121161922731746591417790080757270692866⟩) (.node (.node .leaf (some ⟨"assignment",2,[.unb,.unb],[],X 221294599246504288639427867803720918001361306279433843432418856223035352387774516314377775702070988279512257356732198699788081666486233025091109054608080901⟩) .leaf) (some ⟨"read_punct",2,[.unb],[],X 61199300655520183186219357016631246955996315609044758297779269535249448419310239672122342852182653782683002744656159648726043103506333808961847502992656062396530693⟩) (.node .leaf (some ⟨"parameters",1,[.unb],[],X 1524879302718249086620615614472100385584724838831884729266016818369692363786487048544405908772776463171323040085838354918049073381502450157189⟩) .leaf)))))) (some ⟨"__init__",4,[],[],X 11683621827370147044246652408823940⟩) (.node (.node (.node (.node (.node (.node (.node .leaf (some ⟨"choice",2,[.unb,.unb,.unb],[],X 905944271238447648580205079789990683951581105280211316551287306778023805029092106150589188198531995666946917843074555517428741563303174903139944069⟩) .leaf) (some ⟨"first_twice",1,[.unb,.unb],[],X 5983242920718094657482881225759411093467136278531⟩) .leaf) (some ⟨"hex_at",3,[.unb,.unb,.unb],[],X 1115568141237925214936341376367829982464781932016696279807545864325706304965350547559333891⟩) (.node .leaf (some ⟨"priority",2,[],[],X 512893592027257169686241269155580524057185069169495573185972384885091016162879945925313161007258152872433991005385197661505061039427321367657146335273690950157722337607516537859⟩) .leaf)) (some ⟨"shortest",1,[.unb,.unb,.unb,.unb,.unb,.unb,.unb,.unb,.unb,.unb,.unb,.unb,.unb,.unb],[],X 2553615480368844838639973332802442942606400055931173661060302956522592049141778805722203710847793296844786378563848772151757985176762973889508568945532910291968210133489108531282502044872926220233146133712397196894449781925746954911598449221928865942750765746712710311052291814417346837782767442107968508457502517714013075990633687102807018019611383129935162370132183788807372921647506193591579145715241859371307031418073635619207⟩) (.node (.node (.node .leaf none .leaf) (some ⟨"eat",2,[],[],X 28196507483847832749035847380802552617159017475⟩) .leaf) (some ⟨"skip_comment",1,[],[],X 18016202148322469332498422459275724964510964704564928814238860936267806871956017238237170822775759180564333119168152961522170312548292532111670604437551046534309795045392738398323949617795⟩) (.node .leaf (some ⟨"plain_expression",1,[.unb,.unb],[],X 246125005081832449483484887364134973657066012053814219819168365142928670081028⟩) .leaf))) (some ⟨"parts",1,[.unb,.unb,.unb],[],X 394799291372878748021140732882805409921148586699085165126644773887153487619449758549621647328758330709068070432801155⟩) (.node (.node (.node (.node .leaf (some ⟨"parse",1,[.unb,.unb],[],X 14905238334023308975427142340413410294819933258798890553252703870266654723⟩) .leaf) (some ⟨"label_fault",2,[],[],X 4599441105547969723974426618192666025361083003617538717906060033⟩) .leaf) (some ⟨"is_keyword",1,[],[],X 74809757254401⟩) (.node .leaf (some ⟨"primary",1,[.unb,.unb],[],X 1377968558035833311143672372948405309133994066393997610238129368757173550794405358543123983715321064925992776370908813250556537031435639742943545732630322822300213931181921454530737316462298236024519360732010310980730083265179325794191431130995442566487021284523534323820581653629419564421633711686622233327962744855277820578344894785672992219803025839701507332569253140973325213080139921298410726473479104229302537858375112566133253084360911013246875739864976522357545233025788235389297528988724137740145194520423922313170624635786262631129491958269745885645651977⟩) .leaf)) (some ⟨"is_white",1,[],[],X 89322081785136759772205592856445893826740993⟩) (.node (.node .leaf (some ⟨"property_name",1,[],[],X 494801030836501771476352246279439540335937939672809311179505299392792192299980407810⟩) .leaf) (some ⟨"read_exponent",1,[.unb,.unb,.unb,.unb],[],X 208716509808406813557924902409822833016192183561108968025215732738749757431881580079405721475408043622150136317250656777608821689333739565008113710539955892126242538103034107822756931930826381281310339862152028074839470937954426148944382217140075082377603822617079094445782212881022723138795120857745962551067657⟩) (.node .leaf (some ⟨"object",1,[.unb,.unb,.unb,.unb],[],X 56693513255714794900829186023118202425422264959932906890993330623518953358158169792512864279023916349903877830404202796826276229948575642716031372697891690591082450520364487189802790180128180231653418985011489056892672427934411237256203354117⟩) .leaf)))) (some ⟨"is_nan",1,[],[],X 19836205973263235774903599873⟩) (.node (.node (.node (.node (.node .leaf (some ⟨"key_loop",3,[.unb],[],X 273475143656623669988917661921926931527313831136040571881554477774668303828567930228180721722476164⟩) .leaf) (some ⟨"octal_fault",2,[],[],X 2589314274244715217877363349644356709597101495554513657681706075196956069806849⟩) .leaf) (some ⟨"figure_of",1,[],[],X 7029162383345859365044996619794772139616951141297788319944916966250904621165102897585625848514605362341962149361887417477251707636425844366377987⟩) (.node .leaf (some ⟨"left_hand",1,[.unb],[],X 393539745207449903669729875015551089722657954173341006403250904336442354777777332015176915172796375174179217017660546030135657145334214180867⟩) .leaf)) (some ⟨"laid_out",2,[.unb],[],X 37216898304233554482562718004558916907541995560259452209369619315704635111311572167792955041403544728902270486927231132841519154323990765842435947925507827866947079449640681184578516552668708869⟩) (.node (.node .leaf (some ⟨"fail_for",2,[],[],X 81728320317049321060483318785⟩) .leaf) (some ⟨"read_number",2,[.unb,.unb,.unb],[],X 6318265113833746036456040028667283335722997471819917967176592378595885514791642827266551549818416781379390846154661324473465615171205970995374331977203593244930428840508653049853514746672181542672825147277481792369422192048150300721698408764569837894142851590409766354935523507325785480947036177153594044552877039456757551289620299666225321467004846213⟩) (.node .leaf (some ⟨"variables",2,[.unb,.unb],[],X 9621394908011835783042499885113504475188544780013329934142459467049590161809858420480347209202963097186985869314⟩) .leaf))) (some ⟨"from_int",1,[],[],X 338797699630681700109187244162777857⟩) (.node (.node (.node (.node .leaf (some ⟨"_law_strict",1,[.unb],[],X 192493924468310392316754908887644893157240789373545465941804618831693075599484258985723728298207806466415177119850100066852843251782570364987926841519080254548026088173083020546500114522823669572148528988594362147401894724680551560135740679664455322007453047193283253796574173166561899226772449015335753210905072150518527727866005242399473714608529620643919499989084745017340195734981915454223365552880827191153065240384991154368565458261295746233794999129225883500745708210838003872675219095758822039839745769240735428778141834661098631967450114396118705690995365400517536047384704525662792543035521934061390923518662099678804844121087423860630613358316453402079334598583371440473082645670708177341203890674324253931462750957294018752839322253704046528023559017446789216108256611845763786926105256759720191484368167883534406967757260541638392542817398491026194053677324736608415641734868218277527331589935988100015396029039695265402827307335003270979801475259387497096721385265380320910434141182709289252225904555170256949107661293350360957668087554252716204511526171491373058766616988989840596636275652001131011333658082653718424857086986616876770979997774344427801254514114585432744336389292885375132452307998883003461267023819137084740488167071256002010837424459845061671899326362542737457076822063188356231693599114495535967781862516626209141746108615078825192596656389133350936016250384105340653123421621319584227870189280266610653928214361622240900314058284955910533638552723468944051266451341087680587209250577944089771290437782195018703332332849157004626990501333440928801969122038420465831188997794440631146145327399026053755140982344859626772582468959129107301848515689646442893914710673390677017994456565924036992599863839885650079354263136217630384588710462054639512520634487517543652226156029903994679277225665001273802436592416105222819507462470983596359806010218182104285748228911370304437933464990994857127642487344379589364016045869764011336673725761249153973801843708318962089152562396384859527418528256883665536145247056726279499467639129227354288847059464426752431342114260750264724255125785462543434641045844710085679100114589367068178815970203159107956277337269813085540489630939731738770565242451032926757100054474043874473855823692445459676790879805121472654836336314416004344288095757342737647528278079304007427904288430605640426673080771245045798359096698553671771809785101230769162003152659038216⟩) .leaf) (some ⟨"take",1,[.unb],[],X 890945691308303871767046965118272422523220385957975864708252634726403⟩) .leaf) (some ⟨"next",1,[.unb,.unb,.unb,.unb],[],X 10973295465491881913980913084674715788481423614226679334980453603086889986077644716544160991828212036645272359484184791325798355735726299055557326562350374040431197506957738410751557170210276037096105855194522025673973220690094932296886692121016633235016348823102330936537371130382783996107865235266748423⟩) (.node .leaf (some ⟨"body",2,[.unb,.unb,.unb,.unb,.unb],[],X 188538011620471142714746636570711564200153787239224270968713630038256137667202428974076231546352366597184115272283614348623932098688569562671213627348313115881061319966742365163786172529279329188304763453807931492248870366553716843932651089112745266282343293873887655700049832349249009376024603179779331533666517380⟩) .leaf)) (some ⟨"hex_value",1,[],[],X 19110989785726979991399580703076672527410618757188104918532502890694812720757988876372040046439012506659849219⟩) (.node (.node .leaf (some ⟨"expression",2,[.unb,.unb],[],X 25446066125566015532566943301688176787938989291164126168566621538120066868421715284644628847044087914285085333639154531617689535927844869⟩) .leaf) (some ⟨"escaped",2,[.unb],[],X 338052037637368267476603150820973706988342911647187295048530397650175863564587720600379838851877946010151128342855827834833375326406161528173066039719065829918634183178810800439308786631973271780064643775826378887⟩) (.node .leaf (some ⟨"function_name",2,[],[],X 17488394897010691268254123793836626228127642559601390501226171373148532318968491223831763090572290⟩) .leaf))))) (some ⟨"pack",3,[],[],X 176579056762464886016914392172561153⟩) (.node (.node (.node (.node (.node (.node .leaf (some ⟨"loop_body",1,[.unb],[],X 5896470085917227386565467920432057820708668036⟩) .leaf) (some ⟨"target_fault",3,[],[],X 47969190086674527813141105050031924406856688666494494677868428703170037129432672778901640230236373680691848721922253377356802⟩) .leaf) (some ⟨"octal_escape",2,[.unb,.unb,.unb],[],X 329664961473630440274961521505963165663592035146236309995922022202929694771554881910461277901919767695102668305809462628411558127317396005838463406822411273034237753361015968952618155798503459160069⟩) (.node .leaf (some ⟨"unary",1,[.unb,.unb,.unb,.unb,.unb],[],X 111784432331891026996656898262853411235461073107565982520416461539510730718930481291257154087374125171832057883552533124052390152750619015410524010369683737566430984961092167705094951733229466007006092010998635212279501706725499010359541001001937049051189731140513188204329369097096894823565509413825894589057914754203013801727967116002558702927827589917305124600516499148709203656720167323016286665981961⟩) .leaf)) (some ⟨"signed_exponent",1,[],[],X 196209237230027961071079051013119168557431674882324792065⟩) (.node (.node .leaf (some ⟨"need_word",2,[],[],X 5816358118074785769025974889187364542682940418⟩) .leaf) (some ⟨"read_name",2,[.unb,.unb],[2],X 32701689372637086054004887442083453418754623802885528388341951996188722958951150596625756572004083389682700386383631237052677900207042029592163445571392640674984859261548459709073163335882411913635921724965252⟩) (.node .leaf (some ⟨"large_statement",4,[],[],X 1129853502209⟩) .leaf))) (some ⟨"round_ratio",3,[.unb,.unb,.unb,.unb],[],X 963661486142309250573206122964131099467637763019484422411980425000161071265296572223066700475079208118632036494933227322417849972491557276709960550445049039366814872175759244971617244006966808131989368132193659817034880461780216158801964424086534⟩) (.node (.node (.node (.node .leaf (some ⟨"_law_values",0,[.unb],[],X 811506295701855089509606694004050520707251790675868716150606716225088633659516033060755480301838148915168002247411967125557340337491688744031518102577561810065646948060791611937971440125750765750471467073092340920762785279427874126214981051958466471100190174892616569828931702268986510522755837310012743420330225171504383515721295397314529561016683947145543123943794200175612741551224460319996180067513370869373830618466249212179534666655329278886184603169526057859466020309186728874877181682829335337168993357002850873617918686169483609788921922326709352150521723724668877923082652406855925134073300802928019145877872509805736141651156340986465051389555820205321644658253705718711818464917073546863593900779639403880074259735738333839787573330643227246510496236657708197863010885393942783135177018605675130810943626857406774250582181512528795069759300900324353309741203877031048993475099623057651725228970687677337949694603147396686541647576573324592704539830753760322534145489529687455167118823525707202310981341590379052428356222554698923033988460045620616354459749362796388589070597882040012791049455236651886202144255274464789916367359817055958534378875711815604131461402149404459892440851202569676451716604781484584932751164467552922436190295541820107011746757101896103936353739221878111078860633173939405421721826764369648257096697337022849285561433280476008475923236563179059800751315717488739846024594176625518184801250763960079704287814452743226178494900032276458633187685524820839563470941246945125950029625119211933064668632507077199795074083850004377253765245937816101240489496614920444015005661595606052849646166110731423036540148048101296396541705573369211207792060127374054235077863496189004410902858828347678539876187783732106289263211065128356274440811940536032025080785520638292494219000349351947850317471546750665865947772836197719024847111029602715997338216537002745652455300146191515257298815294592332722035080659532612029292506334481698134975118446412904194552694457445752967409737851384181080164502538816406230139493687344341688185666862636738376274498101559391651076408591687477197266362926908755642473794369075158099557580303561630546746391106995041303600256691027885829406221125060245883308878268978342664132313140245582932827826263223067656082585076560122876503448682789177602462705435017209028687590456515523821624063642340771276993705139109422351969641777179128807859445323532789370687723559762042757410476916297043460190912048382701807853440920330177724113110836600280298126183957046648355917870379149383759684278574176336326114826928077082067127563946302617513701397838322164783626659446658910404535402578519227284183864866745968455860303046129555036416891161887752649578155520849331956254127771530332798038286050324445445199549951964186766220901873575635878794784285461638609682938731440475866882511061706695405012496243873360385880338575672083115580424387055977958878578032516454948563021168345414403933273946334503151087262622278108436231714552071187765795761223458776294611129752282126202876570815361668146106728459⟩) .leaf) (some ⟨"continue_fault",2,[],[],X 2866125991776691089066303018944203286896687700324545847008232862763416511484351242593747026621038881085722338191119035126341899028359556861138378593496072596249689238316410446918779536579294602356689576482970909393923⟩) .leaf) (some ⟨"__init__",3,[],[],X 2467977037130924162⟩) (.node .leaf (some ⟨"array",1,[.unb,.unb],[],X 178893182478559188525152163953905569756284751567658102256590241600458899900651051951542787446837543003941138396237337613515437358336939549236130371779185680951176580569746662825071588502155457243106677566077943813⟩) .leaf)) (some ⟨"is_digit",1,[],[],X 525966604491468964609⟩) (.node (.node .leaf (some ⟨"end_statement",1,[],[],X 12224094089519618434122681248058644138581155068920833⟩) .leaf) (some ⟨"regex_body",1,[.unb,.unb,.unb],[],X 211307969499500217910316003131126613890892066583056553204407890388696167156761868268138469413606220128777158392222464317441649786043907015120432614734720926650706564850261417556928607129004925974153668121865626223579466485152308572969118981431362132904353064910174952224467156553922268090446607868124580642346242141397272494466⟩) (.node .leaf (some ⟨"entry_key",1,[.unb],[],X 7531239800863067060019633518792696381358375348399218169728632719402149939046095491366306517071170528256060358464465470555550897271733163702129482298404208619139645443⟩) .leaf)))) (some ⟨"is_zero",1,[],[],X 1247762570868697584613049089⟩) (.node (.node (.node (.node (.node .leaf (some ⟨"case_body",1,[.unb],[],X 1291597921241699324946212899371804618347342278872068032872214825392744132256339148208526867741022324280613794399261835267⟩) .leaf) (some ⟨"accessor_fault",2,[.unb],[],X 1367983093692419923783037369570942378943997681434743259457950628018228847022350423076276552076081914469983867785894184859107414937397398372354⟩) .leaf) (some ⟨"from_decimal",2,[.unb,.unb,.unb],[],X 5128528289946617087080543489051225690878329144648966718890028336317237649258354229175594124018640363305769994455707582773176708728821954111575088825730476841627254764440952085186844570996435407943532551⟩) (.node .leaf (some ⟨"creation",1,[.unb,.unb],[],X 16718746321585339241376435552700904063835646728860452860558456701925353746460770894618207847843254183246389670857832224642669995433672707⟩) .leaf)) (some ⟨"show",1,[.unb,.unb,.unb],[],X 169621775048230130472894589055506824061692833067227381837802292948593883640719086478764584980202006208134311329797⟩) (.node (.node .leaf (some ⟨"need_name",1,[],[],X 63334531947086689360048611796835890024029749659692947673508475592285018432223544722435⟩) .leaf) (some ⟨"read_octal",1,[.unb],[],X 8218479720016758446690597025131108587659897045860910607864282457039806913700968859189251⟩) (.node .leaf (some ⟨"jump",3,[.unb],[],X 1698514608624089636484902605912112395920308874886073018106529159228263270443066952324952009431541828954734103678541845922966286043993666557817442170289172610419451846849732864280534815634650991491412885350046813041194964077399787142⟩) .leaf))) (some ⟨"decimal_place",2,[.unb],[],X 6733199497325544413989422690344489455702361037442566128426834019688323770767926651992323349555690338581630722971600424396664225247193128494989315⟩) (.node (.node (.node (.node .leaf (some ⟨"_law_heads",0,[.unb],[],X 4384515209242250157377879392693260353267227003704869175396983854206146653369333354661556841651713377495625256689067647301103204893074303041509344132377724284262936233420509534194703066291447311772929789875500791218742255091948714039737545055728781957821684356672919575998162441999006701658314039461819237756473056085558480861500845439796563123082254103647215755845450488189274575185507732223824030919226695814466786759278594⟩) .leaf) (some ⟨"is_sign",2,[],[],X 5933018049103891054240496104625685486192706305⟩) .leaf) (some ⟨"end_line",1,[],[],X 338797372596935085651854136264802946⟩) (.node .leaf (some ⟨"element",1,[],[],X 7260997551155661452946073818796304605630967992441097028149724271027007180271783040229766001247235⟩) .leaf)) (some ⟨"is_id_part",1,[],[],X 85879619792123589754703087682154486386379659729457808129⟩) (.node (.node .leaf (some ⟨"need_target",2,[],[],X 420919297173505305603097349417888542148559402869993364670137985⟩) .leaf) (some ⟨"name_fault",2,[],[],X 7063559104448938850700753307912777433257058138489590053420521608070146⟩) (.node .leaf (some ⟨"large_statement",4,[],[],X 4264024676416613436250704764879625540687155513242166211664735633269556518068277282426670564947606332040303177318166105307181433160774362088283995366954610130078835505161865028289540⟩) .leaf))))))
noncomputable def pR:List String:=["SIGN_BIT","FRACTION_BITS","FRACTION_MASK","HIDDEN_BIT_dbits","EXPONENT_MASK","EXPONENT_SHIFT","LEAST_POWER_dbits","ZERO","INF","LEAST_POWER_numshow","HIDDEN_BIT_numshow","BLANKS","LINE_ENDS","LETTERS","PARTS","SINGLE","FARTHEST","KEYWORDS","PUNCTS","PUNCT_TABLE","STRICT_WORDS","RESTRICTED","TARGETS","PRIORITY","ASSIGNING","UNARY_SIGNS","UNARY_WORDS","STEPS","LOOP_WORDS"]
noncomputable def tb:Tb:={
 consts:=[.int (.ofNat 9223372036854775808),
 .int (.ofNat 52),
 .int (.ofNat 4503599627370495),
 .int (.ofNat 4503599627370496),
 .int (.ofNat 2047),
 .int (.ofNat 1075),
 .int (.negSucc 1073),
 .int (.ofNat 0),
 .int (.ofNat 9218868437227405312),
 .int (.negSucc 1073),
 .int (.ofNat 4503599627370496),
 .lst [.int (.ofNat 9),.int (.ofNat 11),.int (.ofNat 12),.int (.ofNat 32),.int (.ofNat 160),.int (.ofNat 5760),.int (.ofNat 6158),.int (.ofNat 8239),.int (.ofNat 8287),.int (.ofNat 12288),.int (.ofNat 65279)],
 .lst [.int (.ofNat 10),.int (.ofNat 13),.int (.ofNat 8232),.int (.ofNat 8233)],
 .lst [.tup [.int (.ofNat 170),.int (.ofNat 170)],.tup [.int (.ofNat 181),.int (.ofNat 181)],.tup [.int (.ofNat 186),.int (.ofNat 186)],.tup [.int (.ofNat 192),.int (.ofNat 214)],.tup [.int (.ofNat 216),.int (.ofNat 246)],.tup [.int (.ofNat 248),.int (.ofNat 705)],.tup [.int (.ofNat 880),.int (.ofNat 883)],.tup [.int (.ofNat 886),.int (.ofNat 887)],.tup [.int (.ofNat 891),.int (.ofNat 893)],.tup [.int (.ofNat 902),.int (.ofNat 902)],.tup [.int (.ofNat 904),.int (.ofNat 906)],.tup [.int (.ofNat 908),.int (.ofNat 908)],.tup [.int (.ofNat 910),.int (.ofNat 929)],.tup [.int (.ofNat 931),.int (.ofNat 1013)],.tup [.int (.ofNat 1015),.int (.ofNat 1153)],.tup [.int (.ofNat 1162),.int (.ofNat 1315)],.tup [.int (.ofNat 1329),.int (.ofNat 1366)],.tup [.int (.ofNat 1377),.int (.ofNat 1415)],.tup [.int (.ofNat 1488),.int (.ofNat 1514)],.tup [.int (.ofNat 1569),.int (.ofNat 1594)],.tup [.int (.ofNat 1601),.int (.ofNat 1610)],.tup [.int (.ofNat 2308),.int (.ofNat 2361)],.tup [.int (.ofNat 4256),.int (.ofNat 4293)],.tup [.int (.ofNat 4304),.int (.ofNat 4346)],.tup [.int (.ofNat 7680),.int (.ofNat 7835)],.tup [.int (.ofNat 7840),.int (.ofNat 7929)],.tup [.int (.ofNat 8544),.int (.ofNat 8578)],.tup [.int (.ofNat 12353),.int (.ofNat 12438)],.tup [.int (.ofNat 12449),.int (.ofNat 12538)],.tup [.int (.ofNat 12549),.int (.ofNat 12588)],.tup [.int (.ofNat 19968),.int (.ofNat 40891)],.tup [.int (.ofNat 44032),.int (.ofNat 55203)]],
 .lst [.tup [.int (.ofNat 768),.int (.ofNat 879)],.tup [.int (.ofNat 1632),.int (.ofNat 1641)],.tup [.int (.ofNat 2406),.int (.ofNat 2415)],.tup [.int (.ofNat 8204),.int (.ofNat 8205)],.tup [.int (.ofNat 8255),.int (.ofNat 8256)],.tup [.int (.ofNat 8276),.int (.ofNat 8276)]],
 .dct 2,
 .int (.ofNat 400),
 .lst [.str [98,114,101,97,107],.str [99,97,115,101],.str [99,97,116,99,104],.str [99,111,110,116,105,110,117,101],.str [100,101,98,117,103,103,101,114],.str [100,101,102,97,117,108,116],.str [100,101,108,101,116,101],.str [100,111],.str [101,108,115,101],.str [102,105,110,97,108,108,121],.str [102,111,114],.str [102,117,110,99,116,105,111,110],.str [105,102],.str [105,110],.str [105,110,115,116,97,110,99,101,111,102],.str [110,101,119],.str [114,101,116,117,114,110],.str [115,119,105,116,99,104],.str [116,104,105,115],.str [116,104,114,111,119],.str [116,114,121],.str [116,121,112,101,111,102],.str [118,97,114],.str [118,111,105,100],.str [119,104,105,108,101],.str [119,105,116,104],.str [99,108,97,115,115],.str [99,111,110,115,116],.str [101,110,117,109],.str [101,120,112,111,114,116],.str [101,120,116,101,110,100,115],.str [105,109,112,111,114,116],.str [115,117,112,101,114],.str [110,117,108,108],.str [116,114,117,101],.str [102,97,108,115,101]],
 .unb,
 .dct 0,
 .tup [.str [105,109,112,108,101,109,101,110,116,115],.str [105,110,116,101,114,102,97,99,101],.str [108,101,116],.str [112,97,99,107,97,103,101],.str [112,114,105,118,97,116,101],.str [112,114,111,116,101,99,116,101,100],.str [112,117,98,108,105,99],.str [115,116,97,116,105,99],.str [121,105,101,108,100]],
 .tup [.str [97,114,103,117,109,101,110,116,115],.str [101,118,97,108]],
 .tup [.str [78,97,109,101],.str [77,101,109,98,101,114],.str [73,110,100,101,120]],
 .dct 1,
 .tup [.str [61],.str [43,61],.str [45,61],.str [42,61],.str [47,61],.str [37,61],.str [60,60,61],.str [62,62,61],.str [62,62,62,61],.str [38,61],.str [94,61],.str [124,61]],
 .tup [.str [45],.str [43],.str [33],.str [126]],
 .tup [.str [116,121,112,101,111,102],.str [118,111,105,100],.str [100,101,108,101,116,101]],
 .tup [.str [43,43],.str [45,45]],
 .tup [.str [100,111],.str [119,104,105,108,101],.str [102,111,114]]],
 dicts:=[([[62,62,62,61],[61,61,61],[33,61,61],[62,62,62],[60,60,61],[62,62,61],[60,61],[62,61],[61,61],[33,61],[43,43],[45,45],[60,60],[62,62],[38,38],[124,124],[43,61],[45,61],[42,61],[37,61],[38,61],[124,61],[94,61],[47,61],[123],[125],[40],[41],[91],[93],[46],[59],[44],[60],[62],[43],[45],[42],[37],[38],[124],[94],[33],[126],[63],[58],[61],[47]],[.bool true,.bool true,.bool true,.bool true,.bool true,.bool true,.bool true,.bool true,.bool true,.bool true,.bool true,.bool true,.bool true,.bool true,.bool true,.bool true,.bool true,.bool true,.bool true,.bool true,.bool true,.bool true,.bool true,.bool true,.bool true,.bool true,.bool true,.bool true,.bool true,.bool true,.bool true,.bool true,.bool true,.bool true,.bool true,.bool true,.bool true,.bool true,.bool true,.bool true,.bool true,.bool true,.bool true,.bool true,.bool true,.bool true,.bool true,.bool true]),([[124,124],[38,38],[124],[94],[38],[61,61],[33,61],[61,61,61],[33,61,61],[60],[62],[60,61],[62,61],[105,110,115,116,97,110,99,101,111,102],[105,110],[60,60],[62,62],[62,62,62],[43],[45],[42],[47],[37]],[.int (.ofNat 1),.int (.ofNat 2),.int (.ofNat 3),.int (.ofNat 4),.int (.ofNat 5),.int (.ofNat 6),.int (.ofNat 6),.int (.ofNat 6),.int (.ofNat 6),.int (.ofNat 7),.int (.ofNat 7),.int (.ofNat 7),.int (.ofNat 7),.int (.ofNat 7),.int (.ofNat 7),.int (.ofNat 8),.int (.ofNat 8),.int (.ofNat 8),.int (.ofNat 9),.int (.ofNat 9),.int (.ofNat 10),.int (.ofNat 10),.int (.ofNat 10)]),([[98],[116],[110],[118],[102],[114]],[.int (.ofNat 8),.int (.ofNat 9),.int (.ofNat 10),.int (.ofNat 11),.int (.ofNat 12),.int (.ofNat 13)])],
 init:=fun c=>IF (Nat.beq c 2) (.l (.l (.r (.r (.l (.e)))))) (IF (Nat.beq c 3) (.l (.l (.l (.r (.l (.l (.e))))))) (.l (.l (.r (.r (.l (.l (.e))))))))}
noncomputable def mI:Pth:=.r (.l (.l (.r (.l (.l (.l (.e)))))))
end Mine
end
section
open PySem PySem.W PySem.Calls PyProof.Rows
noncomputable section
namespace Mine
noncomputable abbrev SS (l:List Nat):Str:=⟨l.toArray⟩
noncomputable def aT (T r:List Nat):Int:=((T.length - r.length:Nat):Int)
structure Sd where
 W:Wd
 tb:Tb
 ft:FT
 cad:Nat→Addr
 fad:Pth→Addr
 an:Nat→String
 dv:Nat→V
 gn:Nat→String
 bn:Nat→String
 cn:Nat→String
 ini:Nat→Pth
 nat:Nt
 nd:Nat
 lx:List Nat→Int→U→List Nat→Int→Prop
 ap:Nat→V→Prop
noncomputable abbrev Rh:=Ad→Option Addr
noncomputable def Rle (ρ ρ':Rh):Prop:=∀ a x,ρ a=some x→ρ' a=some x
theorem Rle.refl (ρ : Rh):Rle ρ ρ :=fun ε ε h=>h
theorem Rle.trans {a b c:Rh}(x:Rle a b) (y:Rle b c):Rle a c:=fun ε ε h=>y _ _ (x _ _ h)
noncomputable def dK (S:Sd) (c n:Nat):List String:=((fks c).take n).map S.an
mutual
noncomputable def VU (S:Sd) (cx:Cx) (ρ : Rh):U→V→Prop
 | .none,v=>v=.none
 | .bool b,v=>v=.bool b
 | .int i,v=>v=.int i
 | .str x,v=>v=.str (SS x)
 | .tup us,v=>∃ vs,v=.tup vs∧VUs S cx ρ us vs
 | .lst us,v=>∃ vs,v=.lst vs∧VUs S cx ρ us vs
 | .obj c us,v=>∃ vs,v=.obj (S.cad c) (dK S c us.length) vs∧us.length≤(fks c).length∧VUs S cx ρ us vs
 | .ref a,v=>∃ x,ρ a=some x∧v=.ref x
 | .txt,v=>v=.str (SS cx.T)
 | .tlen,v=>v=.int cx.T.length
 | .pos r i o,v=>r<:+cx.T∧aT cx.T r=cx.off+i∧v=.int (cx.off+i+o)
 | .any i,v=>iz v=true∧S.ap i v
 | .ln k,v=>v=.int ((cx.lam:Int)+k)
 | .dct g,v=>v=S.dv g
 | .unb,_=>False
noncomputable def VUs (S:Sd) (cx:Cx) (ρ : Rh):List U→List V→Prop
 | [],vs=>vs=[]
 | u::us,vs=>∃ v r,vs=v::r∧VU S cx ρ u v∧VUs S cx ρ us r
end
section
variable {S:Sd}{cx:Cx}{ρ ρ':Rh}
mutual
theorem VU.mono (h:Rle ρ ρ'):∀ {u:U}{v:V},VU S cx ρ u v→VU S cx ρ' u v
 | .none,_,x=>x
 | .bool _,_,x=>x
 | .int _,_,x=>x
 | .str _,_,x=>x
 | .tup us,_,x=>by obtain ⟨vs,e,y⟩:=x;exact ⟨vs,e,VUs.mono h y⟩
 | .lst us,_,x=>by obtain ⟨vs,e,y⟩:=x;exact ⟨vs,e,VUs.mono h y⟩
 | .obj c us,_,x=>by obtain ⟨vs,e,n,y⟩:=x;exact ⟨vs,e,n,VUs.mono h y⟩
 | .ref a,_,x=>by obtain ⟨y,e,z⟩:=x;exact ⟨y,h _ _ e,z⟩
 | .txt,_,x=>x
 | .pos _ _ _,_,x=>x
 | .tlen,_,x=>x
 | .any _,_,x=>x
 | .ln _,_,x=>x
 | .dct _,_,x=>x
 | .unb,_,x=>by exact x.elim
theorem VUs.mono (h:Rle ρ ρ'):∀ {us:List U}{vs:List V},VUs S cx ρ us vs→VUs S cx ρ' us vs
 | [],_,x=>x
 | u::us,_,x=>by obtain ⟨v,r,e,a,b⟩:=x;exact ⟨v,r,e,VU.mono h a,VUs.mono h b⟩
end
theorem aH:VUs S cx ρ [] []:=rfl
theorem aq {u:U}{v:V}{us:List U}{vs:List V}(a:VU S cx ρ u v) (b:VUs S cx ρ us vs):VUs S cx ρ (u::us) (v::vs):=Exists.intro v ⟨vs,rfl,a,b⟩
theorem am {vs:List V}(h:VUs S cx ρ [] vs):vs=[]:=h
theorem ae {u:U}{us:List U}{vs:List V}(h:VUs S cx ρ (u::us) vs):∃ v r,vs=v::r∧VU S cx ρ u v∧VUs S cx ρ us r:=h
theorem VUs.length:∀ {us:List U}{vs:List V},VUs S cx ρ us vs→us.length=vs.length
 | [],_,x=>by rw [am x];rfl
 | u::us,_,x=>by obtain ⟨v,r,e,a,b⟩:=ae x;rw [e,List.length_cons,List.length_cons,VUs.length b]
theorem VUs.append:∀ {us us':List U}{vs vs':List V},VUs S cx ρ us vs→VUs S cx ρ us' vs'→VUs S cx ρ (us++us') (vs++vs')
 | [],_,_,_,x,y=>by rw [am x];exact y
 | u::us,_,_,_,x,y=>by obtain ⟨v,r,e,a,b⟩:=ae x;rw [e];exact aq a (VUs.append b y)
theorem aA {α : Type}:∀ l:List α,aF l=l.length
 | []=>rfl
 | _::r=>congrArg Nat.succ (aA r)
theorem iB {α : Type}:∀ (l:List α) (n:Nat),o6 l n=l[n]?
 | [],_=>rfl
 | _::_,0=>rfl
 | _::r,n+1=>(iB r n).trans (List.getElem?_cons_succ).symm
theorem bz {α : Type}{d : α}:∀ (l:List α) (n:Nat),af d l n=(l[n]?).getD d
 | [],_=>rfl
 | _::_,0=>rfl
 | _::r,n+1=>by rw [List.getElem?_cons_succ];exact bz r n
theorem cU {α : Type}:∀ (l:List α) (n:Nat) (a : α),a9 l n a=l.set n a
 | [],_,_=>rfl
 | _::_,0,_=>rfl
 | b::r,n+1,a=>congrArg (b :: ·) (cU r n a)
theorem VUs.get:∀ {us:List U}{vs:List V}{i:Nat}{u:U},VUs S cx ρ us vs→us[i]? = some u→∃ v,vs[i]? = some v∧VU S cx ρ u v
 | [],_,_,_,_,e=>by simp at e
 | u::us,_,0,_,x,e=>by
  cb_eq;rcases ae x with ⟨v,r,e',a,b⟩;by_in;simp at e;subst e;rw [e'];exact ⟨v,rfl,a⟩
 | u::us,_,i+1,_,x,e=>by
  cb_eq;rcases ae x with ⟨v,r,e',a,b⟩;by_in;simp at e;obtain ⟨w,p,q⟩:=VUs.get b e;rw [e'];exact ⟨w,by simpa using p,q⟩
theorem VUs.set:∀ {us:List U}{vs:List V}{i:Nat}{u:U}{v:V},VUs S cx ρ us vs→VU S cx ρ u v→VUs S cx ρ (us.set i u) (vs.set i v)
 | [],_,_,_,_,x,_=>by rw [am x];exact aH
 | u::us,_,0,_,_,x,y=>by
  cb_eq;rcases ae x with ⟨v,r,e',a,b⟩;by_in;rw [e'];exact aq y b
 | u::us,_,i+1,_,_,x,y=>by
  cb_eq;rcases ae x with ⟨v,r,e',a,b⟩;by_in;rw [e'];exact aq a (VUs.set b y)
end
noncomputable def cK (S:Sd) (T:List Nat):List Nat→Int→List U→Prop
 | _,_,[]=>True
 | r,k,t::ts=>∃ r' k',S.lx r k t r' k'∧r'<:+T∧cK S T r' k' ts
noncomputable def MU (S:Sd) (cx:Cx) (ρ : Rh):MOb→MO→Prop
 | .inst c us,m=>∃ vs,m=.inst (S.cad c) (dK S c us.length) vs∧us.length≤(fks c).length∧VUs S cx ρ us vs
 | .lst us,m=>∃ vs,m=.list vs∧VUs S cx ρ us vs
 | .dic ks us,m=>∃ vs,m=.dic (ks.map SS) vs∧VUs S cx ρ us vs
 | .dead,_=>False
 | .vlex ts,m=>∃ r k,m=.inst (S.cad 2) (dK S 2 3) [.str (SS cx.T),.int (aT cx.T r),.int ((cx.lam:Int)+k)]∧r<:+cx.T∧cK S cx.T r k ts
theorem MU.mono {S:Sd}{cx:Cx}{ρ ρ':Rh}(h:Rle ρ ρ'){b:MOb}{m:MO}(x:MU S cx ρ b m):MU S cx ρ' b m:=by
 cases b with
 | inst c us=>obtain ⟨vs,e,n,y⟩:=x;exact ⟨vs,e,n,y.mono h⟩
 | lst us=>obtain ⟨vs,e,y⟩:=x;exact ⟨vs,e,y.mono h⟩
 | dic ks us=>obtain ⟨vs,e,y⟩:=x;exact ⟨vs,e,y.mono h⟩
 | dead=>exact x
 | vlex ts=>exact x
noncomputable def O.has (o:O):Ad→Prop
 | .o i=>i<o.objs.length
 | .t i=>i<o.nt
noncomputable def TL.Ok:Nat→Nat→TL→Prop
 | lo,hi,.nil=>lo≤hi
 | lo,hi,.cons j _ r=>lo≤j∧TL.Ok (j+1) hi r
theorem vt {α : Type}{b:Bool}{t e : α}(h:b=false):IF b t e=e:=by rw [h]
theorem bW {i j:Nat}(h:i≠j):Nat.beq i j=false:=by
 cases q:Nat.beq i j with
 | false=>rfl
 | true=>exact absurd (Nat.eq_of_beq_eq_true q) h
theorem xa (i:Nat):Nat.beq i i=true:=Nat.beq_refl i
theorem TL.get_cons {j i:Nat}{c:MOb}{r:TL}:(TL.cons j c r).get i=IF (Nat.beq j i) c (r.get i):=rfl
theorem TL.set_cons {j i:Nat}{c b:MOb}{r:TL}:(TL.cons j c r).set i b=IF (Nat.beq j i) (.cons j b r) (.cons j c (r.set i b)):=rfl
theorem TL.del_cons {j i:Nat}{c:MOb}{r:TL}:(TL.cons j c r).del i=IF (Nat.beq j i) r (.cons j c (r.del i)):=rfl
theorem TL.app_cons {j i:Nat}{c b:MOb}{r:TL}:(TL.cons j c r).app i b=.cons j c (r.app i b):=rfl
theorem TL.Ok.le:∀ {t:TL}{lo hi:Nat},TL.Ok lo hi t→lo≤hi
 | .nil,_,_,h=>h
 | .cons j _ r,lo,hi,h=>Nat.le_trans h.1 (Nat.le_trans (Nat.le_succ j) h.2.le)
theorem TL.Ok.out:∀ {t:TL}{lo hi i:Nat},TL.Ok lo hi t→(i<lo∨hi≤i)→t.get i=.dead
 | .nil,_,_,_,_,_=>rfl
 | .cons j c r,lo,hi,i,h,q=>by
  have ne:j≠i:=fun e=>by
   have:=h.2.le;rcases q with q | q
   ·exact absurd (Nat.lt_of_lt_of_le q h.1) (by rw [e];exact Nat.lt_irrefl _)
   ·rw [e] at this;exact absurd q (by omega)
  rw [TL.get_cons,vt (bW ne)];exact h.2.out (q.imp (fun z=>Nat.lt_succ_of_lt (Nat.lt_of_lt_of_le z h.1)) id)
theorem TL.Ok.set {b:MOb}{i:Nat}:∀ {t:TL}{lo hi:Nat},TL.Ok lo hi t→TL.Ok lo hi (t.set i b)
 | .nil,_,_,h=>h
 | .cons j c r,lo,hi,h=>by
  rw [TL.set_cons]
  cases q:Nat.beq j i with
  | true=>exact ⟨h.1,h.2⟩
  | false=>exact ⟨h.1,h.2.set⟩
theorem TL.Ok.lower:∀ {t:TL}{lo lo' hi:Nat},lo'≤lo→TL.Ok lo hi t→TL.Ok lo' hi t
 | .nil,_,_,_,l,h=>Nat.le_trans l h
 | .cons j c r,_,_,_,l,h=>⟨Nat.le_trans l h.1,h.2⟩
theorem TL.Ok.del {i:Nat}:∀ {t:TL}{lo hi:Nat},TL.Ok lo hi t→TL.Ok lo hi (t.del i)
 | .nil,_,_,h=>h
 | .cons j c r,lo,hi,h=>by
  rw [TL.del_cons]
  cases q:Nat.beq j i with
  | true=>exact h.2.lower (Nat.le_succ_of_le h.1)
  | false=>exact ⟨h.1,h.2.del⟩
theorem TL.Ok.app {b:MOb}:∀ {t:TL}{lo hi:Nat},TL.Ok lo hi t→TL.Ok lo (hi+1) (t.app hi b)
 | .nil,_,_,h=>⟨h,Nat.le_refl _⟩
 | .cons j c r,lo,hi,h=>by rw [TL.app_cons];exact ⟨h.1,h.2.app⟩
theorem jt {i:Nat}{b:MOb}:∀ {t:TL},t.get i≠.dead→(t.set i b).get i=b
 | .nil,h=>absurd rfl h
 | .cons j c r,h=>by
  rw [TL.get_cons] at h;rw [TL.set_cons]
  cases q:Nat.beq j i with
  | true=>show IF (Nat.beq j i) b _=b;rw [q]
  | false =>
   show IF (Nat.beq j i) c ((r.set i b).get i)=b;rw [q] at h ⊢;exact jt h
theorem kK {i k:Nat}{b:MOb}(ne:k≠i):∀ {t:TL},(t.set i b).get k=t.get k
 | .nil=>rfl
 | .cons j c r=>by
  rw [TL.set_cons,TL.get_cons]
  cases q:Nat.beq j i with
  | true =>
   have:j≠k:=fun e=>ne (e.symm.trans (Nat.eq_of_beq_eq_true q));show IF (Nat.beq j k) b _=_;rw [bW this];rfl
  | false =>
   show IF (Nat.beq j k) c ((r.set i b).get k)=_;rw [kK ne]
theorem ij {i k:Nat}(ne:k≠i):∀ {t:TL},(t.del i).get k=t.get k
 | .nil=>rfl
 | .cons j c r=>by
  rw [TL.del_cons,TL.get_cons]
  cases q:Nat.beq j i with
  | true =>
   have:j≠k:=fun e=>ne (e.symm.trans (Nat.eq_of_beq_eq_true q));rw [bW this]
  | false =>
   show IF (Nat.beq j k) c ((r.del i).get k)=_;rw [ij ne]
theorem gd {i:Nat}:∀ {t:TL}{lo hi:Nat},TL.Ok lo hi t→(t.del i).get i=.dead
 | .nil,_,_,_=>rfl
 | .cons j c r,lo,hi,h=>by
  rw [TL.del_cons]
  cases q:Nat.beq j i with
  | true=>exact h.2.out (.inl (Nat.lt_succ_of_le (Nat.le_of_eq (Nat.eq_of_beq_eq_true q).symm)))
  | false =>
   show IF (Nat.beq j i) c ((r.del i).get i)=_;rw [q];exact gd h.2
theorem ge {b:MOb}:∀ {t:TL}{lo hi:Nat},TL.Ok lo hi t→(t.app hi b).get hi=b
 | .nil,_,hi,_=>by show IF (Nat.beq hi hi) b _=b;rw [xa]
 | .cons j c r,lo,hi,h=>by
  rw [TL.app_cons,TL.get_cons,vt (bW (Nat.ne_of_lt h.2.le))];exact ge h.2
theorem kL {b:MOb}{n k:Nat}(ne:k≠n):∀ {t:TL},(t.app n b).get k=t.get k
 | .nil=>by show IF (Nat.beq n k) b .dead=.dead;rw [bW (Ne.symm ne)]
 | .cons j c r=>by rw [TL.app_cons,TL.get_cons,TL.get_cons,kL ne]
structure Inv (S:Sd) (cx:Cx) (H₀:MH) (ρ : Rh) (o:O) (H:MH):Prop where
 base:∀ b x,H₀ b=some x→H b=some x
 live:∀ a,o.at a≠.dead→∃ x m,ρ a=some x∧H x=some m∧MU S cx ρ (o.at a) m∧H₀ x=none
 inj:∀ a a' x,o.at a≠.dead→o.at a'≠.dead→ρ a=some x→ρ a'=some x→a=a'
 dom:∀ a x,ρ a=some x→o.has a
 ids:TL.Ok 0 o.nt o.tmp
theorem ek {o:O}{a:Ad}{b:MOb}(h:o.at a≠.dead):(o.put a b).at a=b:=by
 cases a with
 | o i =>
  show af .dead (a9 o.objs i b) i=b;have h':af .dead o.objs i≠.dead:=h;rw [bz] at h' ⊢;rw [cU]
  by_cases q:i<o.objs.length
  ·rw [List.getElem?_set_self q];rfl
  ·rw [List.getElem?_eq_none (Nat.not_lt.mp q)] at h';exact absurd rfl h'
 | t i=>exact jt h
theorem cf {o:O}{a a':Ad}{b:MOb}(ne:a'≠a):(o.put a b).at a'=o.at a':=by
 cases a with
 | o i=>cases a' with
  | o j =>
   show af .dead (a9 o.objs i b) j=af .dead o.objs j;rw [bz,bz,cU,List.getElem?_set_ne (fun e=>ne (by rw [e]))]
  | t j=>rfl
 | t i=>cases a' with
  | o j=>rfl
  | t j=>exact kK (fun e=>ne (by rw [e]))
theorem iH {o:O}{a a':Ad}{b:MOb}(h:o.has a'):(o.put a b).has a':=by
 cases a with
 | o i=>cases a' with
  | o j=>show j<(a9 o.objs i b).length;rw [cU,List.length_set];exact h
  | t j=>exact h
 | t i=>cases a' with
  | o j=>exact h
  | t j=>exact h
theorem zf {o:O}{a:Ad}{b:MOb}(h:TL.Ok 0 o.nt o.tmp):TL.Ok 0 (o.put a b).nt (o.put a b).tmp:=by
 cases a with
 | o i=>exact h
 | t i=>exact h.set
section
variable {S:Sd}{cx:Cx}{H₀ H:MH}{ρ : Rh}{o:O}
theorem Inv.get (h:Inv S cx H₀ ρ o H){a:Ad}{x:Addr}(hd:o.at a≠.dead) (hr : ρ a=some x):∃ m,H x=some m∧MU S cx ρ (o.at a) m∧H₀ x=none:=by
 cb_eq;rcases h.live a hd with ⟨x',m,e,hm,mu,fr⟩;by_in;rw [hr] at e;cases e;exact ⟨m,hm,mu,fr⟩
theorem Inv.put (h:Inv S cx H₀ ρ o H){a:Ad}{x:Addr}{b:MOb}{m:MO}(hd:o.at a≠.dead) (hr : ρ a=some x) (mu:MU S cx ρ b m):Inv S cx H₀ ρ (o.put a b) (H.put x m):=by
 have fr:H₀ x=none:=let ⟨_,_,_,f⟩:=h.get hd hr;f
 have un:∀ a',a'≠a→o.at a'≠.dead→ρ a'≠some x:=fun a' ne hd' e=>ne (h.inj _ _ x hd' hd e hr);refine ⟨fun c y e=>?_,fun a' hd'=>?_,fun a' a'' y h1 h2=>?_,fun a' y e=>iH (h.dom a' y e),zf h.ids⟩
 ·unfold MH.put;rw [if_neg (fun z=>by rw [z,fr] at e;cases e)];exact h.base c y e
 ·by_cases q:a'=a
  ·subst q;rw [ek hd];exact ⟨x,m,hr,if_pos rfl,mu,fr⟩
  ·rw [cf q] at hd' ⊢;cb_eq;rcases h.live a' hd' with ⟨y,m',e,hm,mu',f⟩;by_in;refine ⟨y,m',e,?_,mu',f⟩;unfold MH.put;rw [if_neg (fun z=>un a' q hd' (by rw [e,z]))];exact hm
 ·have k:∀ c,(o.put a b).at c≠.dead→o.at c≠.dead:=fun c hc=>by
   by_cases q:c=a
   ·subst q;exact hd
   ·rw [cf q] at hc;exact hc
  exact h.inj a' a'' y (k _ h1) (k _ h2)
noncomputable def Rh.upd (ρ : Rh) (a:Ad) (x:Addr):Rh:=fun b=>open Classical in if b=a then some x else ρ b
theorem iR {a:Ad}{x:Addr} : ρ.upd a x a=some x:=by unfold Rh.upd;exact if_pos rfl
theorem jy {a b:Ad}{x:Addr}(ne:b≠a) : ρ.upd a x b = ρ b:=by unfold Rh.upd;exact if_neg ne
theorem AK {a:Ad}{x:Addr}(h : ρ a=none):Rle ρ (ρ.upd a x):=fun b y e=>by
 rw [jy (fun z=>by rw [z,h] at e;cases e)];exact e
theorem Inv.newG (h:Inv S cx H₀ ρ o H){o':O}{a:Ad}{x:Addr}{b:MOb}{m:MO}(hx:H x=none) (ha:¬o.has a) (ha':o'.has a) (e1:o'.at a=b) (e2:∀ c,c≠a→o'.at c=o.at c)
  (e3:∀ c,o.has c→o'.has c) (e4:TL.Ok 0 o'.nt o'.tmp) (mu:MU S cx ρ b m):Inv S cx H₀ (ρ.upd a x) o' (H.put x m)∧Rle ρ (ρ.upd a x)∧ρ.upd a x a=some x:=by
 have hn : ρ a=none:=by
  cases q : ρ a with
  | none=>rfl
  | some y=>exact absurd (h.dom a y q) ha
 have le:Rle ρ (ρ.upd a x):=AK hn;have fr:H₀ x=none:=by
  cases q:H₀ x with
  | none=>rfl
  | some y=>rw [h.base x y q] at hx;cases hx
 refine ⟨⟨fun c y e=>?_,fun c hc=>?_,fun c c' y h1 h2 r1 r2=>?_,fun c y e=>?_,e4⟩,le,iR⟩
 ·unfold MH.put;rw [if_neg (fun z=>by rw [z,fr] at e;cases e)];exact h.base c y e
 ·by_cases q:c=a
  ·subst q;rw [e1];exact ⟨x,m,iR,if_pos rfl,mu.mono le,fr⟩
  ·rw [e2 c q] at hc ⊢;cb_eq;rcases h.live c hc with ⟨y,m',r,hm,mu',f⟩;by_in;refine ⟨y,m',le _ _ r,?_,mu'.mono le,f⟩;unfold MH.put;rw [if_neg (fun z=>by rw [z,hx] at hm;cases hm)];exact hm
 ·have other:∀ d,d≠a→o'.at d≠.dead→ρ.upd a x d≠some x:=fun d q hd r=>by
   rw [jy q] at r;rw [e2 d q] at hd;obtain ⟨m',hm,_⟩:=h.get hd r;rw [hx] at hm;cases hm
  by_cases q:c=a
  ·by_cases q':c'=a
   ·rw [q,q']
   ·rw [q,iR] at r1;cases r1;exact absurd r2 (other c' q' h2)
  ·by_cases q':c'=a
   ·rw [q',iR] at r2;cases r2;exact absurd r1 (other c q h1)
   ·rw [jy q] at r1;rw [jy q'] at r2;rw [e2 c q] at h1;rw [e2 c' q'] at h2;exact h.inj c c' y h1 h2 r1 r2
 ·by_cases q:c=a
  ·rw [q];exact ha'
  ·rw [jy q] at e;exact e3 c (h.dom c y e)
theorem s8 {b:MOb}{c:Ad}(ne:c≠.t o.nt):(o.tnew b).at c=o.at c:=by
 cases c with
 | o i=>rfl
 | t i=>exact kL (fun e=>ne (by rw [e]))
theorem Inv.tnew (h:Inv S cx H₀ ρ o H){x:Addr}{b:MOb}{m:MO}(hx:H x=none) (mu:MU S cx ρ b m) :
  Inv S cx H₀ (ρ.upd (.t o.nt) x) (o.tnew b) (H.put x m)∧Rle ρ (ρ.upd (.t o.nt) x)∧ρ.upd (.t o.nt) x (.t o.nt)=some x :=
 h.newG hx (Nat.lt_irrefl _) (Nat.lt_succ_self _) (ge h.ids) (fun c q=>s8 q) (fun c hc=>by
  cases c with
  | o i=>exact hc
  | t i=>exact Nat.lt_succ_of_lt hc) h.ids.app mu
theorem Inv.new (h:Inv S cx H₀ ρ o H){x:Addr}{b:MOb}{m:MO}(hx:H x=none) (mu:MU S cx ρ b m) :
  Inv S cx H₀ (ρ.upd (.o (aF o.objs)) x) (o.new b) (H.put x m)∧Rle ρ (ρ.upd (.o (aF o.objs)) x)∧ρ.upd (.o (aF o.objs)) x (.o (aF o.objs))=some x:=by
 rw [aA];refine h.newG hx (Nat.lt_irrefl _) (show o.objs.length<(o.objs++[b]).length by simp) ?_ (fun c q=>?_) (fun c hc=>?_) h.ids mu
 ·show af .dead (o.objs++[b]) o.objs.length=b;rw [bz];simp
 ·cases c with
  | o i =>
   show af .dead (o.objs++[b]) i=af .dead o.objs i;rw [bz,bz];rcases Nat.lt_trichotomy i o.objs.length with z | z | z
   ·rw [List.getElem?_append_left z]
   ·exact absurd (by rw [z]) q
   ·rw [List.getElem?_eq_none (by simp;omega),List.getElem?_eq_none (Nat.le_of_lt z)]
  | t i=>rfl
 ·cases c with
  | o i=>exact Nat.lt_of_lt_of_le hc (by show o.objs.length≤(o.objs++[b]).length;simp)
  | t i=>exact hc
theorem Inv.tdel (h:Inv S cx H₀ ρ o H){i:Nat}{x:Addr}(hd:o.at (.t i)≠.dead) (hr : ρ (.t i)=some x):Inv S cx H₀ ρ (o.tdel i) (H.drop x):=by
 have fr:H₀ x=none:=let ⟨_,_,_,f⟩:=h.get hd hr;f
 have e1:(o.tdel i).at (.t i)=.dead:=gd h.ids;have e2:∀ c,c≠.t i→(o.tdel i).at c=o.at c:=fun c q=>by
  cases c with
  | o j=>rfl
  | t j=>exact ij (fun e=>q (by rw [e]))
 have k:∀ c,(o.tdel i).at c≠.dead→c≠.t i∧o.at c≠.dead:=fun c hc=>by
  have q:c≠.t i:=fun z=>by rw [z] at hc;exact hc e1
  exact ⟨q,by rw [e2 c q] at hc;exact hc⟩
 refine ⟨fun c y e=>?_,fun c hc=>?_,fun c c' y h1 h2=>h.inj c c' y (k c h1).2 (k c' h2).2,fun c y e=>?_,h.ids.del⟩
 ·unfold MH.drop;rw [if_neg (fun z=>by rw [z,fr] at e;cases e)];exact h.base c y e
 ·cb_eq;rcases k c hc with ⟨q,hc'⟩;rcases h.live c hc' with ⟨y,m,r,hm,mu,f⟩;by_in;refine ⟨y,m,r,?_,by rw [e2 c q];exact mu,f⟩;unfold MH.drop;rw [if_neg (fun z=>q (h.inj _ _ x hc' hd (by rw [r,z]) hr))];exact hm
 ·have:=h.dom c y e
  cases c with
  | o j=>exact this
  | t j=>exact this
theorem Inv.beside (h:Inv S cx H₀ ρ o H){x:Addr}{r:MO}(hx:H x=none):Inv S cx (H₀.put x r) ρ o (H.put x r):=by
 refine ⟨fun c y e=>?_,fun a hd=>?_,h.inj,h.dom,h.ids⟩
 ·unfold MH.put at e ⊢
  by_cases q:c=x
  ·rw [if_pos q] at e ⊢;exact e
  ·rw [if_neg q] at e ⊢;exact h.base c y e
 ·cb_eq;rcases h.live a hd with ⟨y,m,e,hm,mu,f⟩;by_in;have ne:y≠x:=fun z=>by rw [z,hx] at hm;cases hm
  refine ⟨y,m,e,?_,mu,?_⟩
  ·unfold MH.put;rw [if_neg ne];exact hm
  ·unfold MH.put;rw [if_neg ne];exact f
theorem Inv.unbeside {x:Addr}{r:MO}(h0:H₀ x=none) (h:Inv S cx (H₀.put x r) ρ o H):H x=some r∧Inv S cx H₀ ρ o (H.drop x):=by
 refine ⟨h.base x r (if_pos rfl),fun c y e=>?_,fun a hd=>?_,h.inj,h.dom,h.ids⟩
 ·have ne:c≠x:=fun z=>by rw [z,h0] at e;cases e
  unfold MH.drop;rw [if_neg ne];exact h.base c y (by unfold MH.put;rw [if_neg ne];exact e)
 ·cb_eq;rcases h.live a hd with ⟨y,m,e,hm,mu,f⟩;by_in;have ne:y≠x:=fun z=>by
   unfold MH.put at f;rw [if_pos z] at f;cases f
  unfold MH.put at f;rw [if_neg ne] at f;refine ⟨y,m,e,?_,mu,f⟩;unfold MH.drop;rw [if_neg ne];exact hm
end
structure bu (S:Sd) (cx:Cx) (ρ : Rh) (nm:List String) (L:Lc) (l:Loc):Prop where
 len:L.length=nm.length
 get:∀ i u,af .unb L i=u→u≠.unb→∃ v,dR l (af "" nm i)=some v∧VU S cx ρ u v
section
variable {S:Sd}{cx:Cx}{ρ ρ':Rh}{nm:List String}{L:Lc}{l:Loc}
theorem bu.mono (h:bu S cx ρ nm L l) (le:Rle ρ ρ'):bu S cx ρ' nm L l:=⟨h.len,fun i u e q=>let ⟨v,a,b⟩:=h.get i u e q;⟨v,a,b.mono le⟩⟩
theorem bu.set (h:bu S cx ρ nm L l) (nd:nm.Nodup){i:Nat}{u:U}{v:V}(hi:i<nm.length) (vu:VU S cx ρ u v):bu S cx ρ nm (a9 L i u) (ci l (af "" nm i) v):=by
 refine ⟨by rw [cU,List.length_set];exact h.len,fun j u' e q=>?_⟩;rw [cU,bz] at e;rw [hY]
 by_cases z:i=j
 ·subst z;rw [List.getElem?_set_self (by rw [h.len];exact hi)] at e;rw [if_pos (by simp)];have:u=u':=e;exact ⟨v,rfl,this▸vu⟩
 ·rw [List.getElem?_set_ne z,←bz] at e;have hj:j<nm.length:=by
   rcases Nat.lt_or_ge j L.length with y | y
   ·rw [←h.len];exact y
   ·rw [bz,List.getElem?_eq_none y] at e;exact absurd e.symm q
  rw [if_neg (fun y=>z (by
   have y':=eq_of_beq y;rw [bz,bz,List.getElem?_eq_getElem hi,List.getElem?_eq_getElem hj] at y';exact (List.getElem_inj nd).mp y'))]
  exact h.get j u' e q
theorem bu.unset (h:bu S cx ρ nm L l){i:Nat}:bu S cx ρ nm (a9 L i .unb) l:=by
 refine ⟨by rw [cU,List.length_set];exact h.len,fun j u' e q=>?_⟩;rw [cU,bz] at e
 by_cases z:i=j
 ·subst z
  by_cases y:i<L.length
  ·rw [List.getElem?_set_self y] at e;exact absurd e.symm q
  ·rw [List.getElem?_eq_none (by rw [List.length_set];omega)] at e;exact absurd e.symm q
 ·rw [List.getElem?_set_ne z,←bz] at e;exact h.get j u' e q
end
end Mine
end
section
open PySem PySem.W PySem.Calls PyProof.Rows
namespace Mine
noncomputable def oz (H:MH):List V→List V→Prop
 | [],ws=>ws=[]
 | v::vs,ws=>∃ a w r ws',v=.ref a∧H a=some (.list (w::r))∧ws=w::ws'∧oz H vs ws'
noncomputable def kB (H:MH):List V→List V→Prop
 | [],ws=>ws=[]
 | v::vs,ws=>∃ a w b,v=.ref a∧H a=some (.list [w,.bool b])∧if b then ∃ ws',ws=w::ws'∧kB H vs ws' else kB H vs ws
noncomputable def lZ:ScopeKind→Bool
 | .function=>true
 | _=>false
noncomputable def uq:NameKind→Bool
 | .local=>true
 | _=>false
noncomputable def ch (cs sc:Scope):Bool:=lZ sc.kind&&(sc.names.all fun x=>uq x.2)&&(match sc.names.lookup (Str.ofString "label") with | some k=>uq k | none=>false)
section
variable {W:Wd}{d:Dx}{cs:Scope}{l:Loc}{H:MH}
theorem mH {C:FC}{news:Led}{ow:Own}{s:Shared}{it:Addr}{o o':Obj}{h':Heap}(hs:St W C l H news ow s) (h:H it=some (.raw o)) (hsb:Heap.SameBut it s.heap h') (hg:h'.get? it=some o') :
  ∃ news',St W C l (H.put it (.raw o')) news' ow { s with heap:=h'}∧Le (fzS W news ow) (fzS W news' ow):=by
 rw [jD h] at hs;obtain ⟨n',a,b⟩:=oX hs hsb hg;refine ⟨n',?_,b⟩;have:H.put it (.raw o')=(H.drop it).put it (.raw o'):=by
  funext b;unfold MH.put MH.drop
  by_cases e:b=it
  ·rw [if_pos e,if_pos e]
  ·rw [if_neg e,if_neg e,if_neg e]
 rw [this];exact a
theorem qI {C:FC}{news:Led}{ow:Own}{s:Shared}{it:Addr}{o:Obj}{h':Heap}(hs:St W C l H news ow s) (h:H it=some (.raw o)) (he:Heap.ExtBut it s.heap h') :
  ∃ news',St W C l (H.drop it) news' ow { s with heap:=h'}∧Le (fzS W news ow) (fzS W news' ow):=by
 rw [jD h] at hs;exact qJ hs ic he
structure fy (H Hc:MH) (it D CC:Addr) (oI oC:Obj) (us:List V):Prop where
 i:Hc it=some (.raw oI)
 d:Hc D=some (.list us)
 c:Hc CC=some (.raw oC)
 o:∀ b,b≠it→b≠D→b≠CC→Hc b=H b
theorem fy.putI {H Hc:MH}{it D CC:Addr}{oI oC o:Obj}{us:List V}(h:fy H Hc it D CC oI oC us) (n1:it≠D) (n2:it≠CC):fy H (Hc.put it (.raw o)) it D CC o oC us :=
 ⟨if_pos rfl,(if_neg (Ne.symm n1)).trans h.d,(if_neg (Ne.symm n2)).trans h.c,fun b a1 a2 a3=>(if_neg a1).trans (h.o b a1 a2 a3)⟩
theorem fy.putD {H Hc:MH}{it D CC:Addr}{oI oC:Obj}{us us':List V}(h:fy H Hc it D CC oI oC us) (n1:it≠D) (n2:D≠CC):fy H (Hc.put D (.list us')) it D CC oI oC us' :=
 ⟨(if_neg n1).trans h.i,if_pos rfl,(if_neg (Ne.symm n2)).trans h.c,fun b a1 a2 a3=>(if_neg a2).trans (h.o b a1 a2 a3)⟩
theorem fy.putC {H Hc:MH}{it D CC:Addr}{oI oC o:Obj}{us:List V}(h:fy H Hc it D CC oI oC us) (n1:it≠CC) (n2:D≠CC):fy H (Hc.put CC (.raw o)) it D CC oI o us :=
 ⟨(if_neg n1).trans h.i,(if_neg n2).trans h.d,if_pos rfl,fun b a1 a2 a3=>(if_neg a3).trans (h.o b a1 a2 a3)⟩
noncomputable def td (H:MH) (t:Bool) (v:V) (r:Option V):Prop :=
 ∃ a w us,v=.ref a∧H a=some (.list us)∧us[0]? = some w∧if t then ∃ b,us[1]? = some (.bool b)∧r=(if b then some w else none) else r=some w
theorem qT {H:MH}:∀ {vs ws:List V},oz H vs ws→∃ rs:List (Option V),rs.length=vs.length∧rs.filterMap id=ws∧∀ (i:Nat) v,vs[i]? = some v→∃ r,rs[i]? = some r∧td H false v r
 | [],ws,h=>⟨[],rfl,by rw [show ws=[] from h];rfl,fun i v z=>by simp at z⟩
 | v::vs,ws,h=>by
  cb_eq;rcases h with ⟨a,w,r,ws',rfl,hm,rfl,h'⟩;rcases qT h' with ⟨rs,e1,e2,e3⟩;by_in;refine ⟨some w::rs,by rw [List.length_cons,e1];rfl,by rw [←e2];rfl,fun i v z=>?_⟩
  cases i with
  | zero=>cases z;exact ⟨_,rfl,a,w,_,rfl,hm,rfl,rfl⟩
  | succ i=>exact e3 i v z
theorem mV {H:MH}:∀ {vs ws:List V},kB H vs ws→∃ rs:List (Option V),rs.length=vs.length∧rs.filterMap id=ws∧∀ (i:Nat) v,vs[i]? = some v→∃ r,rs[i]? = some r∧td H true v r
 | [],ws,h=>⟨[],rfl,by rw [show ws=[] from h];rfl,fun i v z=>by simp at z⟩
 | v::vs,ws,h=>by
  cb_eq;rcases h with ⟨a,w,b,rfl,hm,h'⟩;by_in
  cases b with
  | true =>
   cb_eq;rcases h' with ⟨ws',rfl,h'⟩;rcases mV h' with ⟨rs,e1,e2,e3⟩;by_in;refine ⟨some w::rs,by rw [List.length_cons,e1];rfl,by rw [←e2];rfl,fun i v z=>?_⟩
   cases i with
   | zero=>cases z;exact ⟨_,rfl,a,w,_,rfl,hm,rfl,true,rfl,rfl⟩
   | succ i=>exact e3 i v z
  | false =>
   cb_eq;rcases mV (show kB H vs ws from h') with ⟨rs,e1,e2,e3⟩;by_in;refine ⟨none::rs,by rw [List.length_cons,e1];rfl,by rw [←e2];rfl,fun i v z=>?_⟩
   cases i with
   | zero=>cases z;exact ⟨_,rfl,a,w,_,rfl,hm,rfl,false,rfl,rfl⟩
   | succ i=>exact e3 i v z
noncomputable abbrev lb:Str:=Str.ofString "label"
theorem pn {C:FC}{l:Loc}{Hc:MH}{news:Led}{ow:Own}{s:Shared}{A:Around}{scope:Scope}{CC b:Addr}{m:Str→Option Value}{p1 p2 p3:Pos}{kx k:Nat}{us:List V}{w:V}{Q:Value→Shared→Prop}{E:Value→Shared→Prop}
  (hs:St W C l Hc news ow s) (hb:Hc b=some (.list us)) (hw:us[k]? = some w) (hk:k<1000) (hm:s.heap.Ns CC m) (hv:m lb=some (.ref b)) (hkind:scope.kind=.function) (hx:scope.names.lookup lb=some .local)
  (h:∀ U t,VRw W (fzS W news ow) w U→Q U { s with toks:=t}){X:Expr}(hX:X=.Subscript (.Name lb p1) (.Constant (.int k) kx p2) p3):wpAny (Md W) A (eval X (compEnvC scope [] CC C.env)) Q E s:=by
 subst hX;cb_eq;rcases cj hs hb with ⟨n,Vs,g,hm',vrs,_⟩;by_in;refine Subscript_ (ldVarK (v:=.ref b) hm hv ?_ hkind (lookup_relabel_local hx) (by decide));refine wpAny_Constant_int ?_;obtain ⟨U,hU,vU⟩:=vrs.get hw;have hl:Heap.IsList s.heap b Vs.toArray:=⟨_,g,rfl,n,rfl⟩;have hl:Heap.IsList s.heap b Vs.toArray:=⟨_,g,rfl,n,rfl⟩;refine tail_any hl.typeIs slot_list_getitem.lookup (wpAny_getItem_list hl (by omega) (by omega) (by simpa using hU) (h U _ vU)) rfl
theorem pN {C:FC}{t:Bool}{p1 p2 p3 p4 p5 p6 p7 cp:Pos}{kx ky:Nat}{iter:Expr}{scope:Scope}{a0 it:Addr}{vs:List V}{rs:List (Option V)}{news:Led}{ow:Own}{s:Shared}{o:Obj}{Q:V→MH→Prop}{Qr:Value→Shared→Prop}{E:Value→Shared→Prop}{fz:Fz}{os:OsState}
  {X:Expr}{T:List Expr}(hX:X=.Subscript (.Name lb p1) (.Constant (.int 0) kx p2) p3) (hT:T=if t then [.Subscript (.Name lb p5) (.Constant (.int 1) ky p6) p7] else []) (hc:C.cs=cs) (ho:C.Ok W d) (hcell:∀ y∈scope.names,y.2≠.cell) (hkind:scope.kind=.function) (hx:scope.names.lookup lb=some .local)
  (hz:vs.length<1000000) (hs:St W C l (H.put it (.raw o)) news ow s) (hn:H it=none) (hcls:o.cls=.type "list_iterator") (hdat:o.data=.fields #[.ref a0,.int 0 0]) (ha:H a0=some (.list vs)) (hle:Le fz (fzS W news ow)) (hos:s.os=os)
  (hul:rs.length=vs.length) (step:∀ (i:Nat) v,vs[i]? = some v→∃ r,rs[i]? = some r∧td H t v r) (hq:Q (.lst (rs.filterMap id)) H) (hk:dG W C l fz os Q Qr) :
  wpAny (Md W) C.A (newList []) (fun acc s₃=>wpAny (Md W) C.A (newFunctionEnv scope C.env.globals [] [] C.env.qual none .none (some C.env)) (fun cenv s₄ =>
   codeAny (Md W) C.A (.compStart (.ListComp X [⟨.Name lb p4,iter,T,0⟩] scope cp) 0 (.ref it) acc { cenv with scope:=relabel scope C.env}) (compPost (Md W) C.A E none Qr acc cenv.locals) s₄) E s₃) E s:=by
 have hlo:∀ i,(rs.take i).length≤i:=fun i=>by rw [List.length_take];exact Nat.min_le_left _ _
 cb_eq;rcases hs.fr with ⟨gg,m,G0,F,N0,lr⟩;by_in;have leD:=du (W:=W) (ow:=ow) (o:=bq [] 0) (b:=some s.heap.objs.size) (fun p hp=>cm hs hp);refine newList_N F N0 (fun h' F' N'=>?_) (by rw [sizeLine_eq];simp);have hsD:=(hs.push (o:=bq [] 0) lr G0 F' N' (some s.heap.objs.size)).name (a:=s.heap.objs.size) (o:=.list []) ⟨if_pos rfl,0,[],.head _,bv⟩;have hnD:(H.put it (.raw o)) s.heap.objs.size=none:=fh hs (Nat.le_refl _)
 generalize s.heap.objs.size=D at *
 have hneD:it≠D:=fun z=>by rw [z] at hnD;unfold MH.put at hnD;rw [if_pos rfl] at hnD;cases hnD
 refine wpAny_newFunctionEnv hcell (by intro y hy;simp at hy) (fun h₁ hns₁ hsb₁=>?_) hkind;cb_eq;rcases hsD.pushRaw { cls:=.type "dict",data:=.dict #[]} rfl with ⟨hnC,n₁,o₁,hsC0,le1⟩;by_in
 dsimp only at hns₁ hsb₁ hnC hsC0 ⊢
 generalize h'.objs.size=CC at *
 have hneDC:D≠CC:=fun z=>by rw [←z] at hnC;unfold MH.put at hnC;rw [if_pos rfl] at hnC;cases hnC
 have hneC:it≠CC:=fun z=>by rw [←z] at hnC;unfold MH.put at hnC;rw [if_neg hneD,if_pos rfl] at hnC;cases hnC
 cb_eq;rcases LCg.ns_obj hns₁ with ⟨oC,heC,hoC⟩;rcases mH hsC0 (if_pos rfl) hsb₁ heC with ⟨n₂,hs₂,le2⟩;by_in;have c0:fy H (((((H.put it (.raw o)).put D (.list [])).put CC (.raw { cls:=.type "dict",data:=.dict #[]})).put CC (.raw oC))) it D CC o oC []:=by
  refine ⟨?_,?_,?_,fun b a1 a2 a3=>?_⟩<;>unfold MH.put
  ·rw [if_neg hneC,if_neg hneC,if_neg hneD,if_pos rfl]
  ·rw [if_neg hneDC,if_neg hneDC,if_pos rfl]
  ·rw [if_pos rfl]
  ·rw [if_neg a3,if_neg a3,if_neg a2,if_neg a1]
 have hnD':H D=none:=by unfold MH.put at hnD;rw [if_neg (Ne.symm hneD)] at hnD;exact hnD
 have hnC':H CC=none:=by unfold MH.put at hnC;rw [if_neg (Ne.symm hneDC),if_neg (Ne.symm hneC)] at hnC;exact hnC
 generalize ((((H.put it (.raw o)).put D (.list [])).put CC (.raw { cls:=.type "dict",data:=.dict #[]})).put CC (.raw oC))=Hc at hs₂ c0
 have old:∀ {b x},H b=some x→b≠it∧b≠D∧b≠CC:=fun {b x} hb=>⟨fun z=>(by rw [z,hn] at hb;cases hb),fun z=>(by rw [z,hnD'] at hb;cases hb),fun z=>(by rw [z,hnC'] at hb;cases hb)⟩;have loop:∀ t',codeAny (Md W) C.A (.compLoop (.ListComp X [⟨.Name lb p4,iter,T,0⟩] scope cp) 0 (.ref it) (.ref D) (compEnvC scope [] CC C.env))
   (compPost (Md W) C.A E none Qr (.ref D) CC) { s with heap:=h₁,toks:=t'}:=by
  intro t';obtain ⟨I,hI⟩:∃ I:Nat→Shared→Prop,I=fun (k:Nat) (s':Shared)=>∃ i Hc news' ow' oI oC m',k=vs.length+1 - i∧i≤vs.length∧fy H Hc it D CC oI oC ((rs.take i).filterMap id)∧(oI.cls=.type "list_iterator"∧oI.data=.fields #[.ref a0,.int i 0])∧LCg.NsObj oC m'∧St W C l Hc news' ow' s'∧Le fz (fzS W news' ow')∧s'.os=os:=⟨_,rfl⟩;refine codeAny_compLoop_tests I ?_ (vs.length+1) (by rw [hI];exact ⟨0,Hc,_,_,o,oC,_,rfl,Nat.zero_le _,c0,⟨hcls,hdat⟩,hoC,hs₂.toks,Le.trans hle (Le.trans leD (Le.trans le1 le2)),hos⟩);intro k s' hIk;rw [hI] at hIk;cb_eq;rcases hIk with ⟨i,Hc,news',ow',oI,oC',m',rfl,hi,hc',hR',hoC',hs',le',os'⟩;rcases old ha with ⟨q1,q2,q3⟩;rcases cj hs' ((hc'.o _ q1 q2 q3).trans ha) with ⟨n0,Vs,g0,hm0,vrs,_⟩;by_in
  by_cases hlt:i<vs.length
  ·have hv:vs[i]? = some vs[i]:=List.getElem?_eq_getElem hlt;cb_eq;rcases step i _ hv with ⟨r,hr,hlab⟩;rcases vrs.get hv with ⟨U,hU,vU⟩;by_in;refine wpAny_pyNext_list_item (i:=i) (items:=Vs.toArray) ⟨oI,cW hs' hc'.i,hR'⟩ ⟨_,g0,rfl,n0,rfl⟩ (by simpa using hU) fun h₂ hit' hsb=>?_;cb_eq;rcases hit' with ⟨oI₂,hg₂,hR₂⟩;rcases mH hs' hc'.i hsb hg₂ with ⟨n₂,hs₂,le₂⟩;by_in;have c₂:=hc'.putI (o:=oI₂) hneD hneC
   generalize Hc.put it (.raw oI₂)=Hc₂ at hs₂ c₂
   cb_eq;rcases hlab with ⟨b,w,us,e1,hb,hw,hte⟩;by_in;rw [e1] at vU;obtain rfl:=aP vU;have hns:h₂.Ns CC m':=hoC'.ns (cW hs₂ c₂.c);refine wpAny_assign_Name (wpAny_storeName_local (lookup_relabel_local hx) hns (fun h₃ hn₃ hs₃b=>?_) (by simp [compEnvC,relabel,hkind]));cb_eq;rcases LCg.ns_obj hn₃ with ⟨oC₃,heC₃,hoC₃⟩;rcases mH hs₂ c₂.c hs₃b heC₃ with ⟨n₃,hs₃,le₃⟩;by_in;have c₃:=c₂.putC (o:=oC₃) hneC hneDC
   generalize Hc₂.put CC (.raw oC₃)=Hc₃ at hs₃ c₃
   obtain ⟨q1,q2,q3⟩:=old hb;have hb₃:Hc₃ b=some (.list us):=(c₃.o _ q1 q2 q3).trans hb;have le₄:=Le.trans le' (Le.trans le₂ le₃);have take1:(rs.take (i+1)).filterMap id=(rs.take i).filterMap id++r.toList:=by
    rw [List.take_add_one,hr,List.filterMap_append]
    cases r<;>rfl
   have key:∀ tk (E1 E2:Value→Shared→Prop),r=some w→wpAny (Md W) C.A (eval X (compEnvC scope [] CC C.env)) (fun x s₄=>wpAny (Md W) C.A (call (.builtin "list.append") [.ref D,x]) (fun ε s₅=>∃ m,m<vs.length+1 - i∧I m s₅) E1 s₄) E2 { s' with heap:=h₃,toks:=tk}:=by
    intro tk E1 E2 er;refine pn (k:=0) (hs₃.toks (t:=tk)) hb₃ hw (by decide) (hoC₃.ns (cW hs₃.toks c₃.c)) (by simp) hkind hx (fun U tk₂ vU=>?_) hX;cb_eq;rcases cj (hs₃.toks (t:=tk₂)) c₃.d with ⟨n4,V4,g4,_,vrs4,k4⟩;by_in;refine append_at g4 (fun h5 hsb5 hg5=>?_) (by rw [List.size_toArray,←VRs.length vrs4,sizeLine_eq];have:=List.length_filterMap_le id (rs.take i);have:=hlo i;omega);rw [List.push_toArray] at hg5;obtain ⟨n₅,hs₅,le₅⟩:=k4 _ _ _ h5 (vrs4.append (aY vU bv)) hsb5 hg5;rw [er] at take1;rw [show (rs.take i).filterMap id++[w]=(rs.take (i+1)).filterMap id from take1.symm] at hs₅;refine ⟨vs.length+1 - (i+1),Nat.sub_lt_sub_left (Nat.lt_succ_of_lt hlt) (Nat.lt_succ_self i),?_⟩;rw [hI];exact ⟨i+1,_,n₅,ow',oI₂,oC₃,_,rfl,hlt,c₃.putD hneD hneDC,hR₂,hoC₃,hs₅,Le.trans le₄ le₅,os'⟩
   have skip:∀ tk,r=none→∃ m,m<vs.length+1 - i∧I m { s' with heap:=h₃,toks:=tk}:=by
    intro tk er;rw [er,Option.toList_none,List.append_nil] at take1;refine ⟨vs.length+1 - (i+1),Nat.sub_lt_sub_left (Nat.lt_succ_of_lt hlt) (Nat.lt_succ_self i),?_⟩;rw [hI];rw [←take1] at c₃;exact ⟨i+1,_,n₃,ow',oI₂,oC₃,_,rfl,hlt,c₃,hR₂,hoC₃,hs₃.toks,le₄,os'⟩
   cases t with
   | false =>
    rw [hT];refine wpAny_tests_nil ?_;exact key _ _ _ hte
   | true =>
    obtain ⟨bb,hb1,er⟩:=hte;rw [hT];refine wpAny_tests_one (wpAny_isTrue_value (pn (k:=1) hs₃.toks hb₃ hb1 (by decide) (hoC₃.ns (cW hs₃.toks c₃.c)) (by simp) hkind hx (fun U tk₂ vU=>?_) rfl));obtain rfl:=bk vU;refine wpAny_truthy_bool ?_
    cases bb with
    | true=>rw [if_pos rfl];exact key _ _ _ er
    | false=>rw [if_neg (by decide)];exact skip _ er
  ·obtain rfl:i=vs.length:=Nat.le_antisymm hi (Nat.le_of_not_lt hlt);refine wpAny_pyNext_list_end ho.handled (i:=vs.length) (items:=Vs.toArray) ⟨oI,cW hs' hc'.i,hR'⟩ ⟨_,g0,rfl,n0,rfl⟩ (by simp [VRs.length vrs]) fun h₂ he=>?_;obtain ⟨n₂,hs₂,le₂⟩:=qI hs' hc'.i he;have cD:Hc.drop it D=some (.list ((rs.take vs.length).filterMap id)):=(if_neg (Ne.symm hneD)).trans hc'.d;have cC:Hc.drop it CC=some (.raw oC'):=(if_neg (Ne.symm hneC)).trans hc'.c;refine ⟨m',hoC'.ns (cW hs₂ cC),fun h₃ hsb=>?_⟩;cb_eq;rcases qI hs₂ cC hsb.extBut with ⟨n₃,hs₃,le₃⟩;have cD':(Hc.drop it).drop CC D=some (.list ((rs.take vs.length).filterMap id)):=(if_neg hneDC).trans cD;rcases hs₃.freeze cD' with ⟨hs₄,le₄,vr₄⟩;by_in;have eH:((Hc.drop it).drop CC).drop D=H:=by
    funext b;unfold MH.drop
    by_cases e1:b=D
    ·rw [if_pos e1,e1,hnD']
    ·rw [if_neg e1]
     by_cases e2:b=CC
     ·rw [if_pos e2,e2,hnC']
     ·rw [if_neg e2]
      by_cases e3:b=it
      ·rw [if_pos e3,e3,hn]
      ·rw [if_neg e3];exact hc'.o b e3 e1 e2
   rw [eH] at hs₄;rw [←hul,List.take_length] at vr₄;exact hk _ _ _ _ _ _ hs₄ (Le.trans le' (Le.trans le₂ (Le.trans le₃ le₄))) os' vr₄ hq
 exact codeAny_compStart_list (loop _) (wpAny_pyIter_listiter ⟨o,cW hs₂ c0.i,hcls,hdat⟩ (loop _))
theorem scB {cs sc:Scope}(h:ch cs sc=true):sc.kind=.function∧(∀ y∈sc.names,y.2=.local)∧sc.names.lookup lb=some .local:=by
 unfold ch at h;rw [Bool.and_eq_true,Bool.and_eq_true] at h;obtain ⟨⟨h1,h2⟩,h3⟩:=h;refine ⟨?_,fun y hy=>?_,?_⟩
 ·cases e:sc.kind<;>rw [e] at h1<;>first | rfl | cases h1
 ·have:=List.all_eq_true.mp h2 y hy
  cases e:y.2<;>rw [e] at this<;>first | rfl | cases this
 ·cases e:sc.names.lookup lb with
  | none=>rw [e] at h3;cases h3
  | some k=>rw [e] at h3;cases k<;>first | rfl | cases h3
theorem lR {k:NameKind}:∀ {l:List (Str×NameKind)}{y:Str×NameKind},(∀ y∈l,y.2=k)→y∈l→l.lookup y.1=some k
 | (n,k')::r,y,h,hy=>by
  rw [List.lookup_cons]
  cases e:(y.1==n) with
  | true=>exact congrArg some (h (n,k') (.head _))
  | false =>
   rcases List.mem_cons.mp hy with rfl | hy
   ·simp at e
   ·exact lR (fun z hz=>h z (.tail _ hz)) hy
theorem w8 {sc:Scope}{env:Env}(h:∀ y∈sc.names,y.2=.local):closureFor sc env=pure []:=by
 unfold closureFor
 generalize sc.names=l at h
 have:∀ (l:List (Str×NameKind)) (acc:List (Str×Addr)),(∀ y∈l,y.2=.local)→(forIn l acc fun (x:Str×NameKind) cs=>do
   if x.2==.free then do let c ←cellOf env x.1;pure (ForInStep.yield ((x.1,c)::cs)) else pure (ForInStep.yield cs):Sem (List (Str×Addr)))=pure acc:=by
  intro l
  induction l with
  | nil=>intro acc _;rfl
  | cons x r ih =>
   intro acc hl;rw [List.forIn_cons];have e:=hl x (.head _);rw [e];exact ih acc fun y hy=>hl y (.tail _ hy)
 exact (congrArg (fun m:Sem (List (Str×Addr))=>m >>= fun r=>pure r) (this l [] h)).trans rfl
theorem rq {t:Bool}{e:Expr}{p1 p2 p3 p4 p5 p6 p7 pos:Pos}{kx ky:Nat}{sc:Scope}{Q:V→MH→Prop}(hs:ch cs sc=true) (hfs:∀ env v,foldedSetIterable e env v=pure v)
  (h:EV W d cs e l H fun v H₁=>∃ a vs,∃ rs:List (Option V),v=.ref a∧H₁ a=some (.list vs)∧vs.length<1000000∧rs.length=vs.length∧(∀ (i:Nat) v,vs[i]? = some v→∃ r,rs[i]? = some r∧td H₁ t v r)∧Q (.lst (rs.filterMap id)) H₁) :
  EV W d cs (.ListComp (.Subscript (.Name lb p1) (.Constant (.int 0) kx p2) p3) [⟨.Name lb p4,e,if t then [.Subscript (.Name lb p5) (.Constant (.int 1) ky p6) p7] else [],0⟩] sc pos) l H Q:=by
 obtain ⟨hkind,hloc,hx⟩:=scB hs;refine Box.mk ?_;intro C news ow s Qr hc ho hs hk;rw [eval_ListComp];refine wpAny_comprehension_free (use:=none) rfl (hfs _) (w8 hloc) hkind (fun y hy ε =>lR hloc hy) (h.go C news ow s _ hc ho hs ?_);intro v U H₁ n₁ o₁ s₁ hs₁ le₁ os₁ vr₁ zz;cb_eq;rcases zz with ⟨a,vs,rs,rfl,ha,hz,hul,step,hq⟩;by_in;obtain rfl:=aP vr₁;cb_eq;rcases cj hs₁ ha with ⟨n0,Vs,g0,_,_,_⟩;by_in;refine wpAny_pyIter_list (items:=Vs.toArray) ⟨_,g0,rfl,n0,rfl⟩ ?_;cb_eq;rcases hs₁.pushRaw (qQ a 0) rfl with ⟨hn,n₂,o₂,hs₂,le₂⟩;by_in;exact pN rfl rfl hc ho (fun y hy=>by rw [hloc y hy];decide) hkind hx hz hs₂ hn rfl rfl ha (Le.trans le₁ le₂) os₁ hul step hq hk
theorem Am {e:Expr}{p1 p2 p3 p4 pos:Pos}{kx:Nat}{sc:Scope}{Q:V→MH→Prop}(hs:ch cs sc=true) (hfs:∀ env v,foldedSetIterable e env v=pure v)
  (h:EV W d cs e l H fun v H₁=>∃ a vs ws,v=.ref a∧H₁ a=some (.list vs)∧oz H₁ vs ws∧vs.length<1000000∧Q (.lst ws) H₁) :
  EV W d cs (.ListComp (.Subscript (.Name (Str.ofString "label") p1) (.Constant (.int 0) kx p2) p3) [⟨.Name (Str.ofString "label") p4,e,[],0⟩] sc pos) l H Q :=
 rq (t:=false) (p5:=p1) (p6:=p1) (p7:=p1) (ky:=0) hs hfs (EV.mono h fun v H₁ ⟨a,vs,ws,e1,e2,e3,e4,e5⟩=>by
  cb_eq;rcases qT e3 with ⟨rs,r1,r2,r3⟩;by_in;exact ⟨a,vs,rs,e1,e2,e4,r1,r3,r2.symm▸e5⟩)
theorem Al {e:Expr}{p1 p2 p3 p4 p5 p6 p7 pos:Pos}{kx ky:Nat}{sc:Scope}{Q:V→MH→Prop}(hs:ch cs sc=true) (hfs:∀ env v,foldedSetIterable e env v=pure v)
  (h:EV W d cs e l H fun v H₁=>∃ a vs ws,v=.ref a∧H₁ a=some (.list vs)∧kB H₁ vs ws∧vs.length<1000000∧Q (.lst ws) H₁) :
  EV W d cs (.ListComp (.Subscript (.Name (Str.ofString "label") p1) (.Constant (.int 0) kx p2) p3) [⟨.Name (Str.ofString "label") p4,e,[.Subscript (.Name (Str.ofString "label") p5) (.Constant (.int 1) ky p6) p7],0⟩] sc pos) l H Q :=
 rq (t:=true) hs hfs (EV.mono h fun v H₁ ⟨a,vs,ws,e1,e2,e3,e4,e5⟩=>by
  cb_eq;rcases mV e3 with ⟨rs,r1,r2,r3⟩;by_in;exact ⟨a,vs,rs,e1,e2,e4,r1,r3,r2.symm▸e5⟩)
end
end Mine
end
section
open PySem PySem.W PySem.Calls PyProof.Rows PySem.Builtin PySem.Builtin.Str
namespace Mine
theorem mB {T r:List Nat}(h:r<:+T):r.length≤T.length:=h.length_le
theorem uM {a n:Nat}:max (0:Int) (min (if (a:Int)<0 then (a:Int)+n else a) n)=((min a n:Nat):Int):=by
 rw [if_neg (Int.not_lt.mpr (Int.natCast_nonneg a)),Int.max_eq_right (Int.le_min.mpr ⟨Int.natCast_nonneg a,Int.natCast_nonneg n⟩)];rcases Nat.le_total a n with h | h
 ·rw [Nat.min_eq_left h,Int.min_eq_left (Int.ofNat_le.mpr h)]
 ·rw [Nat.min_eq_right h,Int.min_eq_right (Int.ofNat_le.mpr h)]
theorem nJ {i j n:Nat}(hi:i≤n):strSliceIndices (some (i:Int)) (some (j:Int)) 1 n=(List.range (min j n - i)).map fun k=>i+k:=by
 unfold strSliceIndices sliceRange;simp only [show (1:Int)>0 by decide,if_true,Int.one_mul,Int.ediv_one];rw [uM,uM,Nat.min_eq_left hi];have a3:(if (i:Int)<((min j n:Nat):Int) then ((min j n:Nat):Int) - i+1 - 1 else 0).toNat=min j n - i:=by
  by_cases h:(i:Int)<((min j n:Nat):Int)
  ·rw [if_pos h,Int.add_sub_cancel,Int.toNat_sub]
  ·rw [if_neg h,Nat.sub_eq_zero_of_le (Int.ofNat_le.mp (Int.not_lt.mp h))];rfl
 rw [a3];refine List.map_congr_left fun k ε =>?_;exact Int.toNat_natCast (i+k)
set_option tactic.hygienic true in
theorem kX {T:List Nat}{i j:Nat}(hi:i≤T.length):Txt.slice (SS T) (some (i:Int)) (some (j:Int))=SS ((T.drop i).take (j - i)):=by
 have hl:(SS T).length=T.length:=by show T.toArray.size=_;simp
 have ht:(T.drop i).take (min j T.length - i)=(T.drop i).take (j - i):=by
  rw [←List.take_length (l:=T.drop i),List.length_drop,List.take_take,List.take_take,←Nat.sub_min_sub_right,Nat.min_assoc,Nat.min_self]
 have key:((strSliceIndices (some (i:Int)) (some (j:Int)) 1 T.length).filterMap ((SS T).cps[·]?))=(T.drop i).take (j - i):=by
  rw [nJ hi,←ht];have h:i+(min j T.length - i)≤T.length:=by
   rw [Nat.add_comm];exact Nat.add_le_of_le_sub hi (Nat.sub_le_sub_right (Nat.min_le_right _ _) i)
  have p:=StrLaws.picks T (min j T.length - i) i h;rw [←p];refine congrArg (fun f=>List.filterMap f _) (funext fun k=>?_);exact List.getElem?_toArray
 unfold Txt.slice
 split
 ·rename_i h;rw [hl,nJ hi,List.length_map,List.length_range] at h;have h2:min j T.length - i=T.length:=by simpa using h
  rw [←ht,h2,List.take_of_length_le (by rw [List.length_drop];exact Nat.sub_le _ _)];have h3:i=0∨T.length=0:=by
   have:min j T.length - i≤T.length - i:=Nat.sub_le_sub_right (Nat.min_le_right _ _) i;rw [h2] at this;rcases Nat.eq_zero_or_pos i with z | z
   ·exact .inl z
   rcases Nat.eq_zero_or_pos T.length with y | y
   ·exact .inr y
   exact absurd this (Nat.not_le_of_lt (Nat.sub_lt y z))
  rcases h3 with rfl | h3
  ·rw [List.drop_zero]
  ·rw [List.length_eq_zero_iff.mp h3,List.drop_nil]
 ·rw [hl,key]
theorem qC {T r:List Nat}(h:r<:+T):T.drop (T.length - r.length)=r:=by
 obtain ⟨a,rfl⟩:=h;rw [List.length_append,Nat.add_sub_cancel,List.drop_left]
theorem vZ {T r:List Nat}{k:Nat}(h:r<:+T):Txt.slice (SS T) (some (aT T r)) (some (aT T r+(k:Int)))=SS (r.take k):=by
 have:=mB h;unfold aT;have e:((T.length - r.length:Nat):Int)+(k:Int)=((T.length - r.length+k:Nat):Int):=by omega
 rw [e,kX (by omega),qC h]
 congr 3
 omega
theorem tP {T r y:List Nat}(h:r<:+T):Txt.startswith3 (SS T) (SS y) (aT T r)=(r.take y.length==y):=by
 have l1:=mB h;have hl:(SS T).length=T.length:=by show T.toArray.size=_;simp
 have hy:(SS y).length=y.length:=by show y.toArray.size=_;simp
 have e0:fromIndex (SS T).length (aT T r)=T.length - r.length:=by
  unfold PySem.fromIndex aT;rw [if_neg (Int.not_lt.mpr (Int.natCast_nonneg _))];exact Int.toNat_natCast _
 unfold Txt.startswith3;rw [e0,hl,hy];unfold subAt;rw [hy];have e1:(SS T).cps.extract (T.length - r.length) (T.length - r.length+y.length)=(r.take y.length).toArray:=by
  show (T.toArray).extract _ _=_;rw [List.extract_toArray,List.extract_eq_take_drop,qC h,Nat.add_sub_cancel_left]
 rw [e1];show (decide (T.length - r.length+y.length≤T.length)&&((r.take y.length).toArray==y.toArray))=_;have e2:((r.take y.length).toArray==y.toArray)=(r.take y.length==y):=by
  rw [Bool.eq_iff_iff,beq_iff_eq,beq_iff_eq]
  constructor
  ·intro z;simpa using z
  ·intro z;rw [z]
 rw [e2]
 by_cases q:T.length - r.length+y.length≤T.length
 ·rw [decide_eq_true q,Bool.true_and]
 ·rw [decide_eq_false q,Bool.false_and]
  symm
  rw [beq_eq_false_iff_ne];intro z;have:=congrArg List.length z;rw [List.length_take] at this;refine q ?_;have h:y.length≤r.length:=this▸Nat.min_le_right _ _;exact Nat.le_trans (Nat.add_le_add_left h _) (Nat.le_of_eq (Nat.sub_add_cancel l1))
theorem wA:∀ l:List (List Nat),Txt.join (SS []) (l.map SS)=SS l.flatten:=by
 intro l;show glued _ _=_;rw [StrLaws.glued_eq_join]
 induction l with
 | nil=>rfl
 | cons c r ih =>
  cases r with
  | nil =>
   show SS c=_;simp
  | cons c' r' =>
   show SS c++SS []++Str.join (SS []) ((c'::r').map SS)=_;rw [ih];show Str.mk ((c.toArray++[].toArray)++(c'::r').flatten.toArray)=_;simp
theorem qL:∀ p r:List Nat,wm p r=(r.take p.length==p)
 | [],r=>by simp;rfl
 | a::p,[]=>by simp;rfl
 | a::p,b::r=>by
  show IF (Nat.beq a b) (wm p r) false=_;rw [qL p r]
  by_cases h:a=b
  ·subst h;rw [Nat.beq_refl];simp
  ·have q:Nat.beq a b=false:=bW h;rw [q];have:¬b=a:=fun z=>h z.symm;simp [this]
end Mine
end
section
open PySem PySem.W PySem.Calls PyProof.Rows
namespace Mine
noncomputable def fJ:List Str→List V→Str→Option V
 | k::ks,v::vs,x=>if k==x then some v else fJ ks vs x
 | _,_,_=>none
theorem pB (k:Str) (ks:List Str) (v:V) (vs:List V) (x:Str):fJ (k::ks) (v::vs) x=if k==x then some v else fJ ks vs x:=rfl
noncomputable def fF:List Str→List V→Str→V→List Str×List V
 | k::ks,v::vs,x,u=>if k==x then (k::ks,u::vs) else (k::(fF ks vs x u).1,v::(fF ks vs x u).2)
 | _,_,x,u=>([x],[u])
theorem tX (k:Str) (ks:List Str) (v:V) (vs:List V) (x:Str) (u:V):fF (k::ks) (v::vs) x u=if k==x then (k::ks,u::vs) else (k::(fF ks vs x u).1,v::(fF ks vs x u).2):=rfl
inductive Tg where
 | nm (x:String) (p:Pos) | at' (o:Expr) (x:String) (p:Pos)
noncomputable def Tg.ex:Tg→Expr
 | .nm x p=>.Name (Str.ofString x) p
 | .at' o x p=>.Attribute o (Str.ofString x) p
set_option tactic.hygienic true in
noncomputable def gS (W:Wd) (d:Dx) (cs:Scope):List Tg→List V→Loc→MH→(Fl→Loc→MH→Prop)→Prop
 | [],[],l,H,Q=>Q .next l H
 | .nm x _::ts,v::vs,l,H,Q=>cs.names.lookup (Str.ofString x)=some .local∧gS W d cs ts vs (ci l x v) H Q
 | .at' o x _::ts,v::vs,l,H,Q=>EV W d cs o l H fun ov H₂=>∃ a C ks us,ov=.ref a∧H₂ a=some (.inst C ks us)∧kz W C x∧ks.length<1000∧gS W d cs ts vs l (H₂.put a (.inst C (dn ks us x v).1 (dn ks us x v).2)) Q
 | _,_,_,_,_=>False
section
variable {W:Wd}{d:Dx}{cs:Scope}{l:Loc}{H:MH}{Q:V→MH→Prop}
theorem ku {i:Int}{n:Nat}(h:Nat.log2 i.natAbs≤n):Builtin.Int.intBits i≤n+1:=by
 unfold Builtin.Int.intBits
 split<;>omega
theorem jS (x:Int):Builtin.bitNot (Builtin.bitNot x)=x:=by unfold Builtin.bitNot;omega
theorem zL {i j:Nat}:Builtin.bitOr (i:Int) (j:Int)=((Nat.lor i j:Nat):Int):=by
 unfold Builtin.bitOr;rw [bitAnd_nn (by unfold Builtin.bitNot;omega) (by unfold Builtin.bitNot;omega),jS,jS,jS,Int.toNat_natCast,Int.toNat_natCast];rfl
theorem Dm {i j:Nat}(h1:Nat.log2 i≤8000) (h2:j≤8000) (hq:Q (.int ((Nat.shiftLeft i j:Nat):Int)) H):T2 W d cs l H (.int i) (.int j) (binaryOp .LShift) Q :=
 bD (r:=.int ((Nat.shiftLeft i j:Nat):Int)) (fun ε ε ε ε ε ε h=>lshift_int (Int.natCast_nonneg _) (by
  have:=ku (i:=(i:Int)) (n:=8000) h1;have e:(2:Int) ^ 27=134217728:=by decide
  rw [e];omega) (h _ _ (by
  have e:(i:Int)*2 ^ ((j:Int)).toNat=((Nat.shiftLeft i j:Nat):Int):=by
   rw [Int.toNat_natCast,show Nat.shiftLeft i j=i <<< j from rfl,Nat.shiftLeft_eq];push_cast;rfl
  rw [←e];exact aZ))) hq
theorem Dl {i j:Nat}(hq:Q (.int ((Nat.shiftRight i j:Nat):Int)) H):T2 W d cs l H (.int i) (.int j) (binaryOp .RShift) Q :=
 bD (r:=.int ((Nat.shiftRight i j:Nat):Int)) (fun ε ε ε ε ε ε h=>rshift_int (Int.natCast_nonneg _) (h _ _ (by
  have e:((i:Int)).fdiv (2 ^ ((j:Int)).toNat)=((Nat.shiftRight i j:Nat):Int):=by
   rw [Int.toNat_natCast,show Nat.shiftRight i j=i >>> j from rfl,Nat.shiftRight_eq_div_pow,show ((2:Int) ^ j)=((2 ^ j:Nat):Int) from by push_cast;rfl];rw [←Int.ofNat_fdiv]
  rw [e];exact aZ))) hq
theorem z8 {i j:Nat}(hq:Q (.int ((Nat.land i j:Nat):Int)) H):T2 W d cs l H (.int i) (.int j) (binaryOp .BitAnd) Q :=
 bD (r:=.int ((Nat.land i j:Nat):Int)) (fun ε ε ε ε ε ε h=>and_int (h _ _ (by rw [show Builtin.bitAnd (i:Int) (j:Int)=((Nat.land i j:Nat):Int) from by simp [Builtin.bitAnd]];exact aZ))) hq
theorem Dq {i j:Nat}(hq:Q (.int ((Nat.lor i j:Nat):Int)) H):T2 W d cs l H (.int i) (.int j) (binaryOp .BitOr) Q :=
 bD (r:=.int ((Nat.lor i j:Nat):Int)) (fun ε ε ε ε ε ε h=>or_int (h _ _ (by rw [show Builtin.bitOr (i:Int) (j:Int)=((Nat.lor i j:Nat):Int) from zL];exact aZ))) hq
theorem Dn {i j:Nat}(h1:i≤16) (h2:j≤8000) (hq:Q (.int ((Nat.pow i j:Nat):Int)) H):T2 W d cs l H (.int i) (.int j) (binaryOp .Pow) Q :=
 bD (r:=.int ((Nat.pow i j:Nat):Int)) (fun ε ε ε ε ε ε h=>pow_int (Int.natCast_nonneg _) (by
  have hl:Nat.log2 i≤4:=by
   by_cases q:i=0
   ·rw [q];decide
   ·exact Nat.le_of_lt_succ ((Nat.log2_lt q).mpr (by omega))
  have:=ku (i:=(i:Int)) (n:=4) hl;have e:(2:Int) ^ 27=134217728:=by decide
  rw [e];have h3:(Builtin.Int.intBits (i:Int):Int)*(j:Int)≤5*8000:=Int.mul_le_mul (by omega) (by omega) (Int.natCast_nonneg _) (by omega);omega) (h _ _ (by
  have e:(i:Int) ^ ((j:Int)).toNat=((Nat.pow i j:Nat):Int):=by rw [Int.toNat_natCast,show Nat.pow i j=i ^ j from rfl];push_cast;rfl
  rw [←e];exact aZ))) hq
theorem uV {i j:Int}(hi:Nat.log2 i.natAbs≤8001) (hj:Nat.log2 j.natAbs≤8001) (hq:Q (.int (i*j)) H):T2 W d cs l H (.int i) (.int j) (binaryOp .Mult) Q :=
 jm (by
  have b1:=ku hi;have b2:=ku hj;unfold IntMulOk;intro z;rw [Bool.and_eq_true] at z;have z2:=z.2;unfold Builtin.Int.intTooBig at z2;rw [decide_eq_true_iff] at z2;unfold bitsLine at z2;omega) hq
theorem tc {i:Int}{j:Nat}(h:Nat.log2 j≤8000) (h0:1≤j) (hq:Q (.int (i.fdiv j)) H):T2 W d cs l H (.int i) (.int j) (binaryOp .FloorDiv) Q :=
 kR (by omega) (by
  unfold Builtin.divisionGoesByPylong;rw [Bool.and_eq_false_iff]
  left
  rw [decide_eq_false_iff_not]
  dsimp only
  split
  ·omega
  ·have:((j:Int)).natAbs=j:=Int.natAbs_natCast j;rw [this];omega) hq
theorem uX {x y:Str}(hq:Q (.bool (!decide (y.cps.toList<x.cps.toList))) H):T2 W d cs l H (.str x) (.str y) (compareOp .LtE) Q:=kw (fun ε ε s ε ε ε h=>PySem.P.le_str (h _ s.toks aM)) hq
theorem Aj {e:Expr}{pos:Pos}(h:EV W d cs e l H fun v H'=>∃ i,v=.int i∧Q (.int (-i)) H'):EV W d cs (.UnaryOp .USub e pos) l H Q:=by
 refine Box.mk ?_;intro C news ow s Qr hc ho hs hk;refine UnaryOp_ (h.go C news ow s _ hc ho hs ?_);intro v U H' n' o' s' hs' le os vr q;cb_eq;rcases q with ⟨i,rfl,q⟩;rcases aw vr with ⟨t,rfl⟩;by_in;exact P.neg_int (hk _ _ H' n' o' _ hs'.toks le os aZ q)
theorem nu {k:Int}{ys:List Int}(hq:Q (.bool (ys.any (· == k))) H):T2 W d cs l H (.int k) (.tup (ys.map .int)) (compareOp .In) Q:=by
 refine Box.mk ?_;intro C news ow s Qr U U' hc ho hs v1 v2 hk;cb_eq;rcases aw v1 with ⟨t,rfl⟩;rcases ce v2 with ⟨a,Vs,rfl,fa,vr⟩;by_in;refine SeqAt.in_tupleAt (isInt k) ⟨_,bh ho hs fa,rfl,0,rfl⟩ (fun y hy=>(eq_isInt k t (fH vr) y (by simpa using hy)).at _ _) ?_;rw [←Array.any_toList,show Vs.toArray.toList=Vs from rfl,any_isInt k (fH vr)];exact hk _ _ H news ow s hs (Le.refl _) rfl aM hq
theorem kG {k:Int}{ys:List Int}(hq:Q (.bool (!ys.any (· == k))) H):T2 W d cs l H (.int k) (.tup (ys.map .int)) (compareOp .NotIn) Q:=by
 refine Box.mk ?_;intro C news ow s Qr U U' hc ho hs v1 v2 hk;cb_eq;rcases aw v1 with ⟨t,rfl⟩;rcases ce v2 with ⟨a,Vs,rfl,fa,vr⟩;by_in;refine SeqAt.notIn_tupleAt (isInt k) ⟨_,bh ho hs fa,rfl,0,rfl⟩ (fun y hy=>(eq_isInt k t (fH vr) y (by simpa using hy)).at _ _) ?_;rw [←Array.any_toList,show Vs.toArray.toList=Vs from rfl,any_isInt k (fH vr)];exact hk _ _ H news ow s hs (Le.refl _) rfl aM hq
theorem kH {k:Int}{ys:List Int}(hq:Q (.bool (!ys.any (· == k))) H):T2 W d cs l H (.int k) (.lst (ys.map .int)) (compareOp .NotIn) Q:=by
 refine Box.mk ?_;intro C news ow s Qr U U' hc ho hs v1 v2 hk;cb_eq;rcases aw v1 with ⟨t,rfl⟩;rcases bI v2 with ⟨a,n,Vs,rfl,fa,vr⟩;by_in;exact notin_list_ints ⟨_,bh ho hs fa,rfl,n,rfl⟩ (fH vr) (hk _ _ H news ow s hs (Le.refl _) rfl aM hq)
theorem kF {k:Str}{ys:List Str}(hq:Q (.bool (!ys.any (· == k))) H):T2 W d cs l H (.str k) (.lst (ys.map .str)) (compareOp .NotIn) Q:=by
 refine Box.mk ?_;intro C news ow s Qr U U' hc ho hs v1 v2 hk;cb_eq;rcases aD v1 with ⟨t,rfl⟩;rcases bI v2 with ⟨a,n,Vs,rfl,fa,vr⟩;by_in;refine SeqAt.notIn_listAt (isStrOf k) ⟨_,bh ho hs fa,rfl,n,rfl⟩ (fun y hy=>(eq_isStrOf k t (dI vr) y (by simpa using hy)).at _ _) ?_;rw [←Array.any_toList,show Vs.toArray.toList=Vs from rfl,any_isStrOf k (dI vr)];exact hk _ _ H news ow s hs (Le.refl _) rfl aM hq
theorem jn {xs ys:List V}(hz:xs.length+ys.length<1000000) (hq:Q (.lst (xs++ys)) H):T2 W d cs l H (.lst xs) (.lst ys) (binaryOp .Add) Q:=by
 refine Box.mk ?_;intro C news ow s Qr U U' hc ho hs v1 v2 hk;cb_eq;rcases bI v1 with ⟨a,n,Vs,rfl,fa,vr⟩;rcases bI v2 with ⟨b,k,Ws,rfl,fb,wr⟩;rcases hs.fr with ⟨gg,m,G,F,N,lr⟩;by_in;refine add_lists F N ⟨_,bh ho hs fa,rfl,n,rfl⟩ ⟨_,bh ho hs fb,rfl,k,rfl⟩ (fun h' F' N'=>?_) (by rw [←VRs.length vr,←VRs.length wr,sizeLine_eq];omega);have le:=du (W:=W) (ow:=ow) (o:=bq (Vs++Ws) 0) (b:=none) (fun p hp=>cm hs hp);refine hk (.lst (xs++ys)) _ H _ (a8 ow s.heap.objs.size none) _ (hs.push (o:=bq (Vs++Ws) 0) lr G F' N' none) le rfl ?_ hq;exact Exists.intro _ ⟨0,Vs++Ws,rfl,.inr ⟨.head _,by unfold a8;exact if_pos rfl⟩,(vr.mono le).append (wr.mono le)⟩
theorem qt {b:Bool}(hq:Q (.int (if b then 1 else 0)) H):CV W d cs l H (.type "int") [.bool b] Q:=by
 refine Box.mk ?_;intro C news ow s Qr Us hc ho hs vr hk;cb_eq;rcases bX vr with ⟨U,rfl,v1⟩;by_in;obtain rfl:=bk v1;exact call_int_bool (hk _ _ H news ow _ hs.toks (Le.refl _) rfl aZ hq)
theorem DN {i:Int}(hq:Q (.int i.natAbs) H):CV W d cs l H (.builtin "abs") [.int i] Q:=by
 refine Box.mk ?_;intro C news ow s Qr Us hc ho hs vr hk;cb_eq;rcases bX vr with ⟨U,rfl,v1⟩;rcases aw v1 with ⟨t,rfl⟩;by_in;refine call_abs_int fun u tk=>?_;have e:(if i<0 then -i else i)=(i.natAbs:Int):=by split<;>omega
 rw [e];exact hk _ _ H news ow _ hs.toks (Le.refl _) rfl aZ hq
theorem St.kept {C:FC}{news:Led}{ow:Own}{s:Shared}{h':Heap}{tk:Nat}(hs:St W C l H news ow s) (k:∀ c o,s.heap.get? c=some o→h'.get? c=some o):St W C l H news ow { s with heap:=h',toks:=tk}:=by
 cb_eq;rcases hs.fr with ⟨gg,m,G,F,N,lr⟩;by_in;exact ⟨⟨gg,m,G,F.keeps k,fun p hp=>⟨k _ _ (N p hp).1,(N p hp).2⟩,lr⟩,hs.hr,hs.nd,hs.gens,hs.le0,hs.os0⟩
theorem DI {i j:Int}(hq:Q (.int (if i<j then j else i)) H):CV W d cs l H (.builtin "max") [.int i,.int j] Q:=by
 refine Box.mk ?_;intro C news ow s Qr Us hc ho hs vr hk;cb_eq;rcases fD vr with ⟨U,U',rfl,v1,v2⟩;rcases aw v1 with ⟨t,rfl⟩;rcases aw v2 with ⟨u,rfl⟩;by_in;refine max_two_ints ho.handled fun h' tk k=>?_;have hs':=hs.kept (tk:=tk) k
 by_cases z:i<j
 ·rw [if_pos z] at hq;rw [if_pos z];exact hk _ _ H news ow _ hs' (Le.refl _) rfl aZ hq
 ·rw [if_neg z] at hq;rw [if_neg z];exact hk _ _ H news ow _ hs' (Le.refl _) rfl aZ hq
end
section
variable {W:Wd}{d:Dx}{cs:Scope}{l:Loc}{H:MH}{Q:V→MH→Prop}
set_option tactic.hygienic true in
theorem xo {t:Expr}{b:List Stmt}{pos:Pos}{Q:Fl→Loc→MH→Prop}(I:Nat→Loc→MH→Prop) (n:Nat) (h0:I n l H)
  (turn:∀ n l H,I n l H→ET W d cs t l H fun c H'=>if c then EXS W d cs b l H' (fun f l' H''=>match f with
    | .next=>∃ m,m<n∧I m l' H''
    | .cont=>∃ m,m<n∧I m l' H''
    | .brk=>Q .next l' H''
    | .ret v=>Q (.ret v) l' H'') else Q .next l H'):EX W d cs (.While t b [] pos) l H Q:=by
 refine Box.mk ?_;intro C news ow s Qr hc ho hs hk;refine wpAny_While (codeAny_whileLoop (fun n s'=>∃ l' H' news' ow',St W C l' H' news' ow' s'∧Le (fzS W news ow) (fzS W news' ow')∧s'.os=s.os∧I n l' H') ?_ n ⟨l,H,news,ow,hs,Le.refl _,rfl,h0⟩);intro n s' zz;cb_eq;rcases zz with ⟨l',H',n',o',hs',le',os',hI⟩;by_in;refine (turn n l' H' hI).go (C.lp W) n' o' s' _ hc (oy ho) hs'.lp ?_;intro c H₁ n₁ o₁ s₁ hs₁ le₁ os₁ q
 cases c with
 | true =>
  simp only [if_true] at q ⊢;refine q.go (C.lp W) n₁ o₁ s₁ _ hc (oy ho) hs₁ ?_;intro f F l₂ H₂ n₂ o₂ s₂ hs₂ le₂ os₂ fr q₂;have hs₂:=hs₂.unlp;have le:=Le.trans le' (Le.trans le₁ le₂);have os:=os₂.trans (os₁.trans os')
  cases f with
  | next=>have:F=.next:=fr;subst this;obtain ⟨m,hm,hq⟩:=q₂;exact ⟨m,hm,l₂,H₂,n₂,o₂,hs₂,le,os,hq⟩
  | cont=>have:F=.cont:=fr;subst this;obtain ⟨m,hm,hq⟩:=q₂;exact ⟨m,hm,l₂,H₂,n₂,o₂,hs₂,le,os,hq⟩
  | brk=>have:F=.brk:=fr;subst this;exact hk .next .next l₂ H₂ n₂ o₂ s₂ hs₂ le os rfl q₂
  | ret v=>obtain ⟨U,rfl,vr⟩:=fr;exact hk (.ret v) (.ret U) l₂ H₂ n₂ o₂ s₂ hs₂ le os ⟨U,rfl,vr⟩ q₂
 | false =>
  simp only [Bool.false_eq_true,if_false] at q ⊢;exact wpAny_execs_nil (hk .next .next l' H₁ n₁ o₁ s₁ hs₁.unlp (Le.trans le' le₁) (os₁.trans os') rfl q)
theorem Dw {ks:List String}{vs:List V}{es:List Expr}(hp:es.all aE=true) (h:EA W d cs es l H fun us H₂=>CV W d cs l H₂ (.builtin "dict.get") (.dct ks vs::us) Q):MC W d cs l H (.dct ks vs) "get" es Q:=by
 refine Box.mk ?_;intro C' news ow s Qr U pl pos hcs ho hs vr hk;have vr0:=vr;cb_eq;rcases gY vr with ⟨a,n,Es,rfl,lo,fa,hkeys,hvs⟩;by_in;have hm:=hW (W:=W) (bh ho hs fa) hkeys;exact getMethod_builtin hm.typeIs PySem.F.plainAttrs_dict PySem.F.slot_dict_get PySem.F.type_dict_get hm.noDict (ei (first:=[.dct ks vs]) hcs ho hs hp (aY vr0 bv) h hk)
set_option tactic.hygienic true in
theorem je {C:FC}(hc:C.cs=cs) (ho:C.Ok W d):∀ {ts:List Tg}{vs:List V}{Us:List Value}{l:Loc}{H:MH}{news:Led}{ow:Own}{s:Shared}{Q:Fl→Loc→MH→Prop}{Qr:Unit→Shared→Prop},
  gS W d cs ts vs l H Q→St W C l H news ow s→gr W (fzS W news ow) vs Us→(∀ l' H' news' ow' s',St W C l' H' news' ow' s'→Le (fzS W news ow) (fzS W news' ow')→s'.os=s.os→Q .next l' H'→Qr () s') →
  wpAny (Md W) C.A (assignInOrder ((assignEach (ts.map Tg.ex) C.env).map (·.2)) Us) Qr C.E s
 | [],[],[],l,H,news,ow,s,Q,Qr,h,hs,_,hk=>wpAny_pure (hk l H news ow s hs (Le.refl _) rfl h)
 | .nm x p::ts,v::vs,U::Us,l,H,news,ow,s,Q,Qr,h,hs,vr,hk=>by
  show wpAny _ _ (do holding Us (assign (.Name (Str.ofString x) p) C.env U);assignInOrder ((assignEach (ts.map Tg.ex) C.env).map (·.2)) Us) _ _ _;refine wpAny_bind (wpAny_holding (wpAny_assign_Name (ec hc ho hs vr.1 h.1 fun s' hs' os'=>?_)));exact je hc ho h.2 hs' vr.2 fun l' H' n' o' s'' a b c q=>hk l' H' n' o' s'' a b (c.trans os') q
 | .at' o x p::ts,v::vs,U::Us,l,H,news,ow,s,Q,Qr,h,hs,vr,hk=>by
  show wpAny _ _ (do holding Us (assign (.Attribute o (Str.ofString x) p) C.env U);assignInOrder ((assignEach (ts.map Tg.ex) C.env).map (·.2)) Us) _ _ _;refine wpAny_bind (wpAny_holding ?_);rw [assign_Attribute];refine wpAny_bind (wpAny_holding (h.go C news ow s _ hc ho hs ?_));intro ov U₂ H₂ n₂ o₂ s₂ hs₂ le₂ os₂ vr₂ h₂;cb_eq;rcases h₂ with ⟨a,K,ks,us,rfl,hH,hset,hz,hq⟩;by_in;obtain rfl:=aP vr₂;refine wpAny_bind (wpAny_standAt (wpAny_bind (wpAny_holding (kY ho hs₂ hH hset hz (VR.mono le₂ vr.1) fun n₃ s₃ hs₃ le₃ os₃=>wpAny_release ?_))));have le:=Le.trans le₂ le₃;exact je hc ho hq hs₃ (VRs.mono le vr.2) fun l' H' n' o' s'' a b c q=>hk l' H' n' o' s'' a (Le.trans le b) (c.trans (os₃.trans os₂)) q
 | [],_::_,_,_,_,_,_,_,_,_,h,_,_,_=>h.elim
 | .nm _ _::_,[],_,_,_,_,_,_,_,_,h,_,_,_=>h.elim
 | .at' _ _ _::_,[],_,_,_,_,_,_,_,_,h,_,_,_=>h.elim
 | _,[],_::_,_,_,_,_,_,_,_,_,_,vr,_=>vr.elim
 | _,_::_,[],_,_,_,_,_,_,_,_,_,vr,_=>vr.elim
theorem oP {env:Env}:∀ {ts:List Tg},(assignEach (ts.map Tg.ex) env).length=ts.length
 | []=>rfl
 | .nm x p::ts=>congrArg Nat.succ (oP (ts:=ts))
 | .at' o x p::ts=>congrArg Nat.succ (oP (ts:=ts))
theorem mA {env:Env}:∀ {ts:List Tg},(assignEach (ts.map Tg.ex) env).any (·.1)=false
 | []=>rfl
 | .nm x p::ts=>mA (ts:=ts)
 | .at' o x p::ts=>mA (ts:=ts)
set_option tactic.hygienic true in
theorem tg {ts:List Tg}{k:Nat}{tpos pos:Pos}{e:Expr}{Q:Fl→Loc→MH→Prop}(hsw:∀ env,swapsWithSole [.Tuple (ts.map Tg.ex) k tpos] e pos.line env=pure false)
  (hw:∀ cn L a cd,swappedStores [.Tuple (ts.map Tg.ex) k tpos] e (envOf cn cs L a cd)=pure none)
  (h:EV W d cs e l H fun v H'=>∃ vs,v=.tup vs∧vs.length=ts.length∧gS W d cs ts vs l H' Q):EX W d cs (.Assign [.Tuple (ts.map Tg.ex) k tpos] e pos) l H Q:=by
 refine Box.mk ?_;intro C news ow s Qr hc ho hs hk;refine Assign_Tuple (h.go C news ow s _ hc ho hs ?_) (hsw _) (by have:=hw C.cn C.L C.a C.cd;rw [←hc] at this;exact this);intro v U H₁ n₁ o₁ s₁ hs₁ le₁ os₁ vr₁ h₁;cb_eq;rcases h₁ with ⟨vs,rfl,hn,hq⟩;rcases ce vr₁ with ⟨a,Vs,rfl,fa,vr⟩;by_in;have ht:IsTup s₁.heap a Vs.toArray:=⟨_,bh ho hs₁ fa,rfl,0,rfl⟩;have hlen:(assignEach (ts.map Tg.ex) C.env).length=Vs.toArray.size:=by rw [oP,List.size_toArray,←VRs.length vr,hn]
 refine assign_Tuple_tuple ho.handled ht hlen ?_ fun h' he=>?_
 ·rw [List.findIdx?_eq_none_iff];intro x hx;have:=mA (ts:=ts) (env:=C.env);rw [List.any_eq_false] at this
  simpa using this x hx
 ·exact je hc ho hq (hs₁.extBut he (Nat.le_refl _)) vr fun l' H' n' o' s' a b c q=>hk .next .next l' H' n' o' s' a (Le.trans le₁ b) (c.trans os₁) rfl q
end
section
variable {W:Wd}{d:Dx}{cs:Scope}{l:Loc}{H:MH}
set_option tactic.hygienic true in
theorem n7 {x rn:String}{px rp cp pos:Pos}{e f:Expr}{body:List Stmt}{Q:Fl→Loc→MH→Prop}(hn:fA W cs (Str.ofString rn) (.type "range")) (he:aE e=true) (hf:aE f=true) (hl:cs.names.lookup (Str.ofString x)=some .local)
  (h:EV W d cs e l H fun v H₁=>EV W d cs f l H₁ fun v' H₂=>∃ a k:Nat,v=.int a∧v'=.int k∧a<2 ^ 60∧k<2 ^ 60∧∃ I:Nat→Loc→MH→Prop,I 0 l H₂ ∧
   (∀ i l H it o,i<k - a→I i l H→H it=none→EXS W d cs body (ci l x (.int ((a+i:Nat):Int))) (H.put it (.raw o)) (ja I i it o Q)) ∧
   (∀ l H,I (k - a) l H→Q .next l H)):EX W d cs (.For (.Name (Str.ofString x) px) (.Call (.Name (Str.ofString rn) rp) [e,f] [] cp) body [] pos) l H Q:=by
 refine Box.mk ?_;intro C news ow s Qr hc ho hs hk;refine wpAny_For ?_;cb_eq;rcases hs.fr with ⟨gg,m,G,F,N,lr⟩;by_in;refine Call_ ?_ (by rfl);refine ld_builtin_at F (ho.top G).g hn.miss (ho.top G).b hn.at' ?_ ho.fn (by subst hc;exact hn.kind) hn.ok;refine PyProof.Rows.callWith_type1 ?_ (bw he) (cR (es:=[f]) (by simp [hf]));have hA:EA W d cs [e,f] l H fun vs H₁=>∃ a k:Nat,vs=[.int a,.int k]∧a<2 ^ 60∧k<2 ^ 60∧∃ I:Nat→Loc→MH→Prop,I 0 l H₁ ∧
   (∀ i l H it o,i<k - a→I i l H→H it=none→EXS W d cs body (ci l x (.int ((a+i:Nat):Int))) (H.put it (.raw o)) (ja I i it o Q)) ∧
   (∀ l H,I (k - a) l H→Q .next l H):=ah he (h.mono fun v H₁ z=>ah hf (z.mono fun v' H₂ z=>aB (by obtain ⟨a,k,rfl,rfl,z⟩:=z;exact ⟨a,k,rfl,z⟩)))
 refine hA.go C news ow s _ _ hc ho hs ?_;intro vs Us H₁ n₁ o₁ s₁ hs₁ le₁ os₁ vr₁ h₁;cb_eq;rcases h₁ with ⟨a₀,k,rfl,ha60,hk60,I,h0,step,done⟩;rcases fD vr₁ with ⟨U,U',rfl,v1,v2⟩;rcases aw v1 with ⟨u,rfl⟩;rcases aw v2 with ⟨t,rfl⟩;by_in;refine call_range_2 ?_;cb_eq;rcases hs₁.pushRaw { cls:=.type "range",data:=.fields #[.int a₀ u,.int k t,.int 1 s₁.toks]} rfl with ⟨hn₂,n₂,o₂,hs₂,le₂⟩;by_in;have hs₂':=(hs₂.drop s₁.heap.objs.size).toks (t:=s₁.toks+1);rw [k8 hn₂] at hs₂';refine wpAny_pyIter_range (a:=a₀) (b:=k) (c:=1) (IsRange.new ..) (small_one (by omega) (by omega) (by omega) (by omega)) ?_;cb_eq;rcases hs₂'.pushRaw (k7 a₀ (Builtin.Range.rangeSize a₀ k 1) 1) rfl with ⟨hn₃,n₃,o₃,hs₃,le₃⟩;by_in;refine gy (fz:=fzS W n₁ o₁) (vs:=(List.range (k - a₀)).map fun (i:Nat)=>.int ((a₀:Int)+(i:Int))) (Q:=Q) (I:=I) hc ho hl (kO (a:=a₀) (n:=k - a₀)) hs₃ hn₃ ⟨Nat.zero_le _,?_⟩ (Le.trans le₂ le₃) rfl h0 ?_ ?_ fun f F l' H' n' o' s' a b c dd q=>hk f F l' H' n' o' s' a (Le.trans le₁ b) (c.trans os₁) dd q
 ·rw [rangeSize_one];have e:(if (a₀:Int)<k then (k:Int) - a₀ else 0)=((k - a₀:Nat):Int):=by split<;>omega
  first
   | (rw [e];simp)
   | (by_cases z:(a₀:Int)<k
      ·rw [if_pos z];simp;omega
      ·rw [if_neg z];simp;omega)
 ·intro i v l H o hv hI hn;refine Box.mk ?_;intro C' news' ow' s' Qr' hc' ho' hs' hk';have hi:i<k - a₀:=by
   rcases Nat.lt_or_ge i (k - a₀) with z | z
   ·exact z
   ·rw [List.getElem?_eq_none (by simpa using z)] at hv;cases hv
  rw [List.getElem?_map,List.getElem?_range hi] at hv;simp only [Option.map_some,Option.some.injEq] at hv;subst hv;have e:((a₀:Int)+(i:Int))=((a₀+i:Nat):Int):=rfl;rw [e] at hs';refine (step i l H _ o hi hI hn).go C' news' ow' s' Qr' hc' ho' hs' ?_;intro f F l' H' n' o' s' a b c dd q;refine hk' f F l' H' n' o' s' a b c dd ⟨_,jD q.1,ic,?_⟩
  cases f<;>exact q.2
 ·intro l H hI;refine done l H ?_
  simpa using hI
end
section
variable {W:Wd}{d:Dx}{cs:Scope}{l:Loc}{H:MH}{Q:V→MH→Prop}
theorem tx {x:Str}(hq:Q (.str x) H):CV W d cs l H (.type "str") [.str x] Q:=by
 refine Box.mk ?_;intro C news ow s Qr Us hc ho hs vr hk;cb_eq;rcases bX vr with ⟨U,rfl,v1⟩;rcases aD v1 with ⟨t,rfl⟩;by_in;exact P.str_of_str (hk _ _ H news ow _ hs (Le.refl _) rfl bN hq)
theorem CQ:∀ (f n:Nat) (ds:List Char) (l:List Nat),n<10 ^ f→0<f→ds.map Char.toNat=l→(Nat.toDigitsCore 10 f n ds).map Char.toNat=dk f n l
 | 0,_,_,_,_,h,_=>absurd h (Nat.lt_irrefl _)
 | f+1,n,ds,l,hn,_,e=>by
  have hd:(Nat.digitChar (n % 10)).toNat=48+n % 10:=by
   have:n % 10<10:=Nat.mod_lt _ (by decide);exact (by decide:∀ m<10,(Nat.digitChar m).toNat=48+m) _ this
  unfold Nat.toDigitsCore;show (if n / 10=0 then Nat.digitChar (n % 10)::ds else Nat.toDigitsCore 10 f (n / 10) (Nat.digitChar (n % 10)::ds)).map Char.toNat=IF (Nat.ble 10 n) (dk f (n / 10) ((48+n % 10)::l)) ((48+n)::l)
  by_cases q:n<10
  ·rw [if_pos (Nat.div_eq_of_lt q)];have:Nat.ble 10 n=false:=by
    cases w:Nat.ble 10 n with
    | false=>rfl
    | true=>have:=Nat.le_of_ble_eq_true w;omega
   rw [this,List.map_cons,hd,e,Nat.mod_eq_of_lt q]
  ·have h10:10≤n:=Nat.le_of_not_lt q;rw [if_neg (by
    intro z;have:=(Nat.div_eq_zero_iff).mp z;omega),Nat.ble_eq_true_of_le h10]
   have hf:0<f:=by
    rcases Nat.eq_zero_or_pos f with z | z
    ·subst z;simp at hn;omega
    ·exact z
   refine CQ f (n / 10) _ _ ?_ hf (by rw [List.map_cons,hd,e]);rw [Nat.div_lt_iff_lt_mul (by decide)];rw [Nat.pow_succ] at hn;exact hn
theorem io:∀ (f g n:Nat) (l:List Nat),n<10 ^ f→0<f→f≤g→dk g n l=dk f n l
 | 0,_,_,_,_,h,_=>absurd h (Nat.lt_irrefl _)
 | f+1,0,_,_,_,_,h=>absurd h (Nat.not_succ_le_zero _)
 | f+1,g+1,n,l,hn,_,hg=>by
  show IF (Nat.ble 10 n) (dk g (n / 10) ((48+n % 10)::l)) ((48+n)::l)=IF (Nat.ble 10 n) (dk f (n / 10) ((48+n % 10)::l)) ((48+n)::l)
  cases q:Nat.ble 10 n with
  | false=>rfl
  | true =>
   have h10:=Nat.le_of_ble_eq_true q;have hf:0<f:=by
    rcases Nat.eq_zero_or_pos f with z | z
    ·subst z;simp at hn;omega
    ·exact z
   refine io f g (n / 10) _ ?_ hf (Nat.le_of_succ_le_succ hg);rw [Nat.div_lt_iff_lt_mul (by decide)];rw [Nat.pow_succ] at hn;exact hn
theorem rJ {n:Nat}(h:Nat.log2 n≤1900):Str.ofString (toString (n:Int))=SS (dk 4000 n []):=by
 have h2:n<2 ^ 1901:=by
  by_cases q:n=0
  ·rw [q];exact Nat.two_pow_pos _
  ·exact (Nat.log2_lt q).mp (Nat.lt_succ_of_le h)
 have h10:(2:Nat) ^ 1901≤10 ^ 1901:=Nat.pow_le_pow_left (by decide) _;have hn:n<10 ^ 1901:=Nat.lt_of_lt_of_le h2 h10;rw [Str.ofString_eq_toList];have e:(toString (n:Int)).toList=Nat.toDigitsCore 10 (n+1) n []:=by
  show (String.ofList (Nat.toDigits 10 n)).toList=_;rw [String.toList_ofList];rfl
 rw [e];have k:(Nat.toDigitsCore 10 (n+1) n []).map Char.toNat=dk 4000 n []:=by
  have hlt:n<10 ^ (n+1):=Nat.lt_trans (Nat.lt_succ_self n) (Nat.lt_pow_self (by decide));rw [CQ (n+1) n [] [] hlt (Nat.succ_pos _) rfl]
  by_cases q:n+1≤4000
  ·exact (io (n+1) 4000 n [] hlt (Nat.succ_pos _) q).symm
  ·exact io 4000 (n+1) n [] (Nat.lt_of_lt_of_le hn (Nat.pow_le_pow_right (by decide) (by decide))) (by decide) (by omega)
 rw [k]
theorem tz {n:Nat}(h:Nat.log2 n≤1900) (hq:Q (.str (SS (dk 4000 n []))) H):CV W d cs l H (.type "str") [.int n] Q:=by
 refine Box.mk ?_;intro C news ow s Qr Us hc ho hs vr hk;cb_eq;rcases bX vr with ⟨U,rfl,v1⟩;rcases aw v1 with ⟨t,rfl⟩;by_in;refine P.str_of_int (by rw [Int.natAbs_natCast];omega) (hk (.str (SS (dk 4000 n []))) _ H news ow _ hs.toks (Le.refl _) rfl ?_ hq);have:=rJ h;rw [←this];exact bN
theorem wK {α : Type}{x:List α}:∀ n:Nat,((List.replicate n x.toArray).foldl (· ++ ·) #[]).toList=(List.replicate n x).flatten:=by
 intro n;have key:∀ (n:Nat) (a:Array α),((List.replicate n x.toArray).foldl (· ++ ·) a).toList=a.toList++(List.replicate n x).flatten:=by
  intro n
  induction n with
  | zero=>intro a;simp
  | succ n ih=>intro a;rw [List.replicate_succ,List.foldl_cons,ih,List.replicate_succ,List.flatten_cons];simp
 simpa using key n #[]
theorem lL (x:List Nat):∀ n:Nat,cv x n=(List.replicate n x).flatten
 | 0=>rfl
 | n+1=>by rw [List.replicate_succ,List.flatten_cons,←lL x n];rfl
theorem jl {x:List Nat}{n:Nat}(hz:x.length*n<1000000) (hn:n<1000000) (hq:Q (.str (SS (cv x n))) H):T2 W d cs l H (.str (SS x)) (.int n) (binaryOp .Mult) Q:=by
 refine Box.mk ?_;intro C news ow s Qr U U' hc ho hs v1 v2 hk;cb_eq;rcases aD v1 with ⟨t,rfl⟩;rcases aw v2 with ⟨u,rfl⟩;by_in;have hl:(SS x).length=x.length:=by show x.toArray.size=_;simp
 have hn63:(n:Int)<2 ^ 63:=by omega
 refine P.mul_str (by
   have:¬(n:Int) < -(2 ^ 63:Int):=by omega
   have h2:¬(n:Int)≥2 ^ 63:=by omega
   rw [decide_eq_false this,decide_eq_false h2];rfl) (fun h1 ε =>by
   rw [hl];have hx:x.length<1000000:=by
    have:1≤n:=by omega
    exact Nat.lt_of_le_of_lt (Nat.le_mul_of_pos_right _ this) hz
   have h3:(2 ^ 63 - 1:Int) / n≥9223372036854:=by
    rw [ge_iff_le,Int.le_ediv_iff_mul_le (by omega)];have:(9223372036854:Int)*n≤9223372036854*999999:=Int.mul_le_mul_of_nonneg_left (by omega) (by decide);omega
   omega) (fun h1 ε =>by
   rw [hl,Int.toNat_natCast];unfold PySem.Builtin.Str.tooLong;rw [decide_eq_false_iff_not,sizeLine_eq];omega) ?_
 by_cases h0:(n:Int)<1
 ·rw [if_pos h0];have:n=0:=by omega
  subst this;exact ⟨by show (0:Nat)≤_;omega,hk (.str (SS [])) _ H news ow _ hs.toks (Le.refl _) rfl bN hq⟩
 ·rw [if_neg h0]
  by_cases h1:((n:Int)==1||(SS x).length==0)=true
  ·rw [if_pos h1];have e:cv x n=x:=by
    rw [lL];rcases Bool.or_eq_true_iff.mp h1 with z | z
    ·have:n=1:=by have:=eq_of_beq z;omega
     subst this;simp
    ·have z':=eq_of_beq z;rw [hl] at z';have:x=[]:=List.length_eq_zero_iff.mp z';subst this;simp
   rw [e] at hq;exact hk (.str (SS x)) _ H news ow _ hs (Le.refl _) rfl bN hq
  ·rw [if_neg h1];have e:(⟨(List.replicate (n:Int).toNat (SS x).cps).foldl (· ++ ·) #[]⟩:Str)=SS (cv x n):=by
    rw [Int.toNat_natCast,lL,←wK n]
   rw [e];refine ⟨?_,hk _ _ H news ow _ hs.toks (Le.refl _) rfl bN hq⟩;show (cv x n).toArray.size≤_;rw [List.size_toArray,lL,List.length_flatten,sizeLine_eq];simp only [List.map_replicate,List.sum_replicate_nat];rw [Nat.mul_comm];omega
end
section
open PySem.Builtin PySem.Builtin.Str
section
variable {W:Wd}{d:Dx}{cs:Scope}{l:Loc}{H:MH}{Q:V→MH→Prop}
theorem qo {e f:Expr}{ks:List String}{vs:List V}{x:PySem.Str}{v:V}(hp:eg f=true) (hx:eA ks vs x=some v) (hq:Q v H):T2 W d cs l H (.dct ks vs) (.str x) (subscriptTail e f) Q:=by
 refine Box.mk ?_;intro C news ow s Qr U U' hc ho hs v1 v2 hk;cb_eq;rcases aD v2 with ⟨t,rfl⟩;rcases gY v1 with ⟨a,n,Es,rfl,lo,fa,hkeys,hvs⟩;by_in;have e:=ot (prog:=W.prog) (x:=x) hkeys hvs;have hm:=hW (W:=W) (bh ho hs fa) hkeys;rw [hx] at e
 cases q:findBy (strKind W.prog W.w).is Es.toArray x with
 | none=>rw [q] at e;exact e.elim
 | some U =>
  rw [q] at e;exact tail_any hm.typeIs slot_dict_getitem.lookup (wpAny_getItem_of (strKind_is W.prog W.w x t) hm q (hk v U H news ow _ hs.toks (Le.refl _) rfl e hq)) (cb hp)
theorem yG {T:List Nat}{i:Nat}(h:i≤T.length):Txt.slice (SS T) (some (i:Int)) none=SS (T.drop i):=by
 have:=kX (T:=T) (i:=i) (j:=T.length) h;rw [List.take_of_length_le (by simp)] at this;rw [←this];have hl:(SS T).length=T.length:=by show T.toArray.size=_;simp
 have n0:¬((T.length:Int)<0):=Int.not_lt.mpr (Int.natCast_nonneg _);have m0:max 0 (min (T.length:Int) T.length)=(T.length:Int):=by rw [Int.min_self,Int.max_eq_right (Int.natCast_nonneg _)]
 unfold Txt.slice strSliceIndices sliceRange;rw [hl];simp [n0,m0]
theorem yF {T:List Nat}{j:Nat}:Txt.slice (SS T) none (some (j:Int))=SS (T.take j):=by
 have:=kX (T:=T) (i:=0) (j:=j) (Nat.zero_le _);simp only [List.drop_zero,Nat.sub_zero] at this;rw [←this];have m0:∀ n:Nat,max 0 (min (0:Int) (n:Int))=0:=fun n=>by rw [Int.min_eq_left (Int.natCast_nonneg n)];rfl
 unfold Txt.slice strSliceIndices sliceRange;simp [m0]
theorem tr {e lo:Expr}{pos sp:Pos}(h:EV W d cs e l H fun a H₁=>EV W d cs lo l H₁ fun b H₂=>∃ (x:List Nat) (i:Nat),a=.str (SS x)∧b=.int i∧x.length<1000000∧i≤x.length∧Q (.str (SS (x.drop i))) H₂) :
  EV W d cs (.Subscript e (.Slice (some lo) none none sp) pos) l H Q:=by
 refine Box.mk ?_;intro C news ow s Qr hc ho hs hk;refine Subscript_ (h.go C news ow s _ hc ho hs ?_);intro a U₁ H₁ n₁ o₁ s₁ hs₁ le₁ os₁ vr₁ h₁;refine wpAny_Slice ?_;refine h₁.go C n₁ o₁ s₁ _ hc ho hs₁ ?_;intro b U₂ H₂ n₂ o₂ s₂ hs₂ le₂ os₂ vr₂ h₂;cb_eq;rcases h₂ with ⟨x,i,rfl,rfl,hz,hi,hq⟩;rcases aD vr₁ with ⟨t,rfl⟩;rcases aw vr₂ with ⟨t₂,rfl⟩;rcases hs₂.fr with ⟨gg,m,G,F,N,lr⟩;have it:=SBH.sliceItem_sn (prog:=W.prog) (w:=W.w) (A:=C.A) (E:=C.E) (x:=SS x) (t:=t) (i:=(i:Int)) (ui:=t₂) (Q:=Qr) keptFrN (⟨F,N⟩:Fr gg C.L s₂.heap m∧News gg C.L s₂.heap n₂) (fun h' t' k z=>hk (.str (SS (x.drop i))) (.str (Txt.slice (SS x) (some (i:Int)) none) t') H₂ n₂ o₂ { s₂ with heap:=h',toks:=k} ⟨⟨gg,m,G,z.1,z.2,lr⟩,hs₂.hr,hs₂.nd,hs₂.gens,hs₂.le0,hs₂.os0⟩ (Le.trans le₁ le₂) (os₂.trans os₁) (by rw [yG hi];exact bN) hq) (by show x.toArray.size≤_;rw [sizeLine_eq];simp;omega);rcases it with ⟨T,id,hl,hT,hg⟩;by_in;exact wpAny_pure (wpAny_pure (tail_any hT hl hg rfl))
theorem tq {e hi:Expr}{pos sp:Pos}(h:EV W d cs e l H fun a H₁=>EV W d cs hi l H₁ fun b H₂=>∃ (x:List Nat) (i:Nat),a=.str (SS x)∧b=.int i∧x.length<1000000∧Q (.str (SS (x.take i))) H₂) :
  EV W d cs (.Subscript e (.Slice none (some hi) none sp) pos) l H Q:=by
 refine Box.mk ?_;intro C news ow s Qr hc ho hs hk;refine Subscript_ (h.go C news ow s _ hc ho hs ?_);intro a U₁ H₁ n₁ o₁ s₁ hs₁ le₁ os₁ vr₁ h₁;refine wpAny_Slice (wpAny_pure ?_);refine h₁.go C n₁ o₁ s₁ _ hc ho hs₁ ?_;intro b U₂ H₂ n₂ o₂ s₂ hs₂ le₂ os₂ vr₂ h₂;cb_eq;rcases h₂ with ⟨x,i,rfl,rfl,hz,hq⟩;rcases aD vr₁ with ⟨t,rfl⟩;rcases aw vr₂ with ⟨t₂,rfl⟩;rcases hs₂.fr with ⟨gg,m,G,F,N,lr⟩;have it:=SBH.sliceItem_ns (prog:=W.prog) (w:=W.w) (A:=C.A) (E:=C.E) (x:=SS x) (t:=t) (j:=(i:Int)) (uj:=t₂) (Q:=Qr) keptFrN (⟨F,N⟩:Fr gg C.L s₂.heap m∧News gg C.L s₂.heap n₂) (fun h' t' k z=>hk (.str (SS (x.take i))) (.str (Txt.slice (SS x) none (some (i:Int))) t') H₂ n₂ o₂ { s₂ with heap:=h',toks:=k} ⟨⟨gg,m,G,z.1,z.2,lr⟩,hs₂.hr,hs₂.nd,hs₂.gens,hs₂.le0,hs₂.os0⟩ (Le.trans le₁ le₂) (os₂.trans os₁) (by rw [yF];exact bN) hq) (by show x.toArray.size≤_;rw [sizeLine_eq];simp;omega);rcases it with ⟨T,id,hl,hT,hg⟩;by_in;exact wpAny_pure (tail_any hT hl hg rfl)
theorem pK:∀ x:List Nat,md x=x.drop ((x.takeWhile fun c=>(SS [48]).cps.contains c).length)
 | []=>rfl
 | c::r=>by
  show IF (Nat.beq c 48) (md r) (c::r)=_
  by_cases q:c=48
  ·subst q;rw [pK r];simp [List.takeWhile_cons]
  ·rw [bW q];simp [List.takeWhile_cons,q]
set_option tactic.hygienic true in
theorem y8 (x:List Nat):Txt.lstripChars (SS x) (SS [48])=SS (md x):=by
 rw [pK];show Txt.stripBy _ true false _=_;unfold Txt.stripBy;have hlo:stripLo ((SS [48]).cps.contains) true (SS x)=(x.takeWhile fun c=>(SS [48]).cps.contains c).length:=by
  unfold stripLo;rw [if_pos rfl]
 split
 ·rename_i h;unfold stripSame at h;rw [Bool.and_eq_true,hlo,beq_iff_eq] at h;rw [h.1];rfl
 ·unfold PySem.stripped;rw [hlo];show Str.mk (x.toArray.extract _ _)=_;have:stripHi ((SS [48]).cps.contains) false (SS x) ((x.takeWhile fun c=>(SS [48]).cps.contains c).length)=x.length:=by
   unfold stripHi;rw [if_neg (by decide)];show x.toArray.size=_;simp
  rw [this,List.extract_toArray,List.extract_eq_take_drop];rw [List.take_of_length_le (by simp)]
theorem tA {x:List Nat}(hz:x.length<1000000) (hq:Q (.str (SS (md x))) H):CV W d cs l H (.builtin "str.lstrip") [.str (SS x),.str (SS [48])] Q:=by
 refine Box.mk ?_;intro C news ow s Qr Us hc ho hs vr hk;cb_eq;rcases fD vr with ⟨U,U',rfl,v1,v2⟩;rcases aD v1 with ⟨t,rfl⟩;rcases aD v2 with ⟨u,rfl⟩;by_in;exact call_gives F.slot_str_lstrip (typeIs_str s (SS x) t) F.entry_str_lstrip (F.args_str_lstrip_2 _ _) (gives_str_lstrip_chars (SS x) (SS [48]) t u)
  (post_val_or_made (fun ε =>fits_stripped _ _ _ (by show x.toArray.size≤_;rw [sizeLine_eq];simp;omega)) (fun t' k=>hk _ (.str (Txt.lstripChars (SS x) (SS [48])) t') H news ow { s with toks:=k} hs.toks (Le.refl _) rfl (by rw [y8];exact bN) hq))
end
end
section
variable {W:Wd}{d:Dx}{cs:Scope}{l:Loc}{H:MH}{Q:V→MH→Prop}
end
section
variable {W:Wd}{d:Dx}{cs:Scope}{l:Loc}{H:MH}{Q:V→MH→Prop}
theorem oN {k x:Str}{U:Value}{kvs:List (Str×Value)}:valueAt ((k,U)::kvs) x=if k=x then some U else valueAt kvs x:=by
 unfold valueAt;rw [List.find?_cons]
 by_cases q:k=x
 ·rw [if_pos q];simp [q]
 ·rw [if_neg q];simp [q]
theorem mZ {P:Params}{fz:Fz}{x:Str}:∀ {kvs:List (Str×Value)}{vs:List V},VRs P fz vs (kvs.map (·.2)) →
  (fJ (kvs.map (·.1)) vs x=none∧valueAt kvs x=none)∨∃ v U,fJ (kvs.map (·.1)) vs x=some v∧valueAt kvs x=some U∧VR P fz v U
 | [],vs,h=>.inl ⟨rfl,rfl⟩
 | (k,U)::kvs,vs,h=>by
  cases vs with
  | nil=>exact h.elim
  | cons v vs =>
   rw [List.map_cons,oN];rw [pB]
   by_cases q:k=x
   ·rw [if_pos q,if_pos (by rw [q];simp)];exact .inr ⟨v,U,rfl,rfl,h.1⟩
   ·rw [if_neg q,if_neg (fun z=>q (eq_of_beq z))];exact mZ h.2
theorem rK {x:Str}{U:Value}:stored [] x U=[(x,U)]:=rfl
theorem pe {x:Str}{U:Value}:∀ {kvs:List (Str×Value)},x∉kvs.map (·.1)→kvs.map (fun kv=>if kv.1=x then (kv.1,U) else kv)=kvs
 | [],_=>rfl
 | (k,u)::kvs,h=>by
  rw [List.map_cons,pe fun z=>h (.tail _ z)];have q:¬k=x:=fun z=>h (by rw [←z];exact .head _);show (if k=x then (k,U) else (k,u))::kvs=_;rw [if_neg q]
theorem qi {k x:Str}{u U:Value}{kvs:List (Str×Value)}(h:k∉kvs.map (·.1)):stored ((k,u)::kvs) x U=if k=x then (k,U)::kvs else (k,u)::stored kvs x U:=by
 unfold stored;rw [List.any_cons]
 by_cases q:k=x
 ·subst q;rw [if_pos rfl,if_pos (by simp),List.map_cons,if_pos rfl,pe h]
 ·rw [if_neg q];have:(decide (k=x)||kvs.any fun kv=>decide (kv.1=x))=kvs.any fun kv=>decide (kv.1=x):=by simp [q]
  rw [this]
  by_cases w:(kvs.any fun kv=>decide (kv.1=x))=true
  ·rw [if_pos w,if_pos w,List.map_cons,if_neg q]
  ·rw [if_neg w,if_neg w];rfl
theorem kN {P:Params}{fz:Fz}{x:Str}{v:V}{U:Value}(vr:VR P fz v U):∀ {kvs:List (Str×Value)}{vs:List V},(kvs.map (·.1)).Nodup→VRs P fz vs (kvs.map (·.2)) →
  (stored kvs x U).map (·.1)=(fF (kvs.map (·.1)) vs x v).1∧VRs P fz (fF (kvs.map (·.1)) vs x v).2 ((stored kvs x U).map (·.2))
 | [],vs,_,h=>by
  rw [rK]
  cases vs with
  | nil=>exact ⟨rfl,aY vr bv⟩
  | cons _ _=>exact h.elim
 | (k,u)::kvs,vs,nd,h=>by
  cases vs with
  | nil=>exact h.elim
  | cons w vs =>
   rw [List.map_cons] at nd;obtain ⟨n1,n2⟩:=List.nodup_cons.mp nd;rw [qi n1,List.map_cons];rw [tX]
   by_cases q:k=x
   ·rw [if_pos q,if_pos (by rw [q];simp)];exact ⟨rfl,aY vr h.2⟩
   ·rw [if_neg q,if_neg (fun z=>q (eq_of_beq z))];obtain ⟨a,b⟩:=kN vr n2 h.2;exact ⟨by rw [List.map_cons,a],aY h.1 b⟩
theorem pM {C:FC}{news:Led}{ow:Own}{s:Shared}{a:Addr}{ks:List Str}{vs:List V}(hs:St W C l H news ow s) (hH:H a=some (.dic ks vs)) :
  ∃ kvs,(a==sysModules)=false∧s.heap.DictOf (strKind W.prog W.w) a kvs∧kvs.map (·.1)=ks∧gr W (fzS W news ow) vs (kvs.map (·.2)):=by
 cb_eq;rcases hs.hr a _ hH with ⟨hw,lo,o,kvs,h1,h2,h3,h4⟩;by_in;exact ⟨kvs,lo,Heap.dictOf_iff.mpr ⟨o,(hs.nw _ h1).1,h2.to rfl⟩,h3,h4⟩
theorem vj {a:Addr}{ks:List Str}{vs:List V}{x:Str}(hH:H a=some (.dic ks vs)) (hq:Q (.bool (fJ ks vs x).isSome) H):T2 W d cs l H (.str x) (.ref a) (compareOp .In) Q:=by
 refine Box.mk ?_;intro C news ow s Qr U U' hc ho hs v1 v2 hk;obtain ⟨t,rfl⟩:=aD v1;obtain rfl:=aP v2;cb_eq;rcases pM hs hH with ⟨kvs,lo,hd,rfl,hvs⟩;by_in;refine wpAny_in_of (strKind_is W.prog W.w x t) lo hd.mapOf ?_;have e2:(valueAt kvs x).isSome=(fJ (kvs.map (·.1)) vs x).isSome:=by
  rcases mZ (x:=x) hvs with ⟨p,q⟩ | ⟨v,U,p,q,_⟩<;>rw [p,q]<;>rfl
 rw [e2];exact hk _ _ H news ow _ hs.toks (Le.refl _) rfl aM hq
theorem xu {pos:Pos}(hq:∀ a,H a=none→Q (.ref a) (H.put a (.dic [] []))):EV W d cs (.Dict [] [] pos) l H Q:=by
 refine Box.mk ?_;intro C news ow s Qr hc ho hs hk;cb_eq;rcases hs.fr with ⟨gg,m,G,F,N,lr⟩;by_in;have le:=du (W:=W) (ow:=ow) (o:={ cls:=.type "dict",data:=.dict #[]}) (b:=some s.heap.objs.size) (fun p hp=>cm hs hp);have hn:H s.heap.objs.size=none:=fh hs (Nat.le_refl _);have lo:(s.heap.objs.size==sysModules)=false:=F.notModules (Nat.lt_trans (by decide) (ho.top G).g.lt);have hd:Obj.IsDictOf (strKind W.prog W.w) { cls:=.type "dict",data:=.dict #[]} []:=by
  obtain ⟨o,ho,hd⟩:=Heap.dictOf_iff.mp (Heap.DictOf.new (knd:=strKind W.prog W.w) s.heap);rw [Heap.get?_push_size _ rfl] at ho;exact (Option.some.inj ho)▸hd
 refine wpAny_Dict_empty (hk (.ref s.heap.objs.size) _ (H.put s.heap.objs.size (.dic [] [])) _ (a8 ow s.heap.objs.size (some s.heap.objs.size)) _
  ((hs.push (o:={ cls:=.type "dict",data:=.dict #[]}) lr G (F.push _) (News.push F N _) (some s.heap.objs.size)).name ⟨if_pos rfl,lo,_,[],.head _,⟨W.prog,W.w,rfl,hd⟩,rfl,bv⟩) le rfl di (hq _ hn))
theorem Dv {a:Addr}{ks:List Str}{vs:List V}{es:List Expr}(hH:H a=some (.dic ks vs)) (hp:es.all aE=true) (h:EA W d cs es l H fun us H₂=>CV W d cs l H₂ (.builtin "dict.get") (.ref a::us) Q):MC W d cs l H (.ref a) "get" es Q:=by
 refine Box.mk ?_;intro C' news ow s Qr U pl pos hcs ho hs vr hk;obtain rfl:=aP vr;cb_eq;rcases pM hs hH with ⟨kvs,lo,hd,rfl,hvs⟩;by_in;have hm:=hd.mapOf;exact getMethod_builtin hm.typeIs PySem.F.plainAttrs_dict PySem.F.slot_dict_get PySem.F.type_dict_get hm.noDict (ei (first:=[.ref a]) hcs ho hs hp (aY di bv) h hk)
theorem Av {a:Addr}{ks:List Str}{vs:List V}{x:Str}{dv:V}(hH:H a=some (.dic ks vs)) (hq:Q ((fJ ks vs x).getD dv) H):CV W d cs l H (.builtin "dict.get") [.ref a,.str x,dv] Q:=by
 refine Box.mk ?_;intro C news ow s Qr Us hc ho hs vr hk;cb_eq;rcases jx vr with ⟨U₁,U₂,U₃,rfl,v1,v2,v3⟩;by_in;obtain rfl:=aP v1;cb_eq;rcases aD v2 with ⟨t,rfl⟩;rcases pM hs hH with ⟨kvs,lo,hd,rfl,hvs⟩;by_in;have hm:=hd.mapOf;refine call_meetsIn PySem.F.slot_dict_get hm.typeIs PySem.F.entry_dict_get (PySem.F.args_dict_get_3 _ _ _) (meets_dict_get_default (strKind W.prog W.w) a (strKind_is W.prog W.w x t) lo U₃) ⟨_,hm,?_⟩;refine hk ((fJ (kvs.map (·.1)) vs x).getD dv) _ H news ow _ hs.toks (Le.refl _) rfl ?_ hq;rcases mZ (x:=x) hvs with ⟨p,q⟩ | ⟨v,U,p,q,w⟩
 ·rw [p,q];exact v3
 ·rw [p,q];exact w
theorem zF {C:FC}{news:Led}{ow:Own}{s:Shared}{a:Addr}{ks:List Str}{vs:List V}(hs:St W C l H news ow s) (hH:H a=some (.dic ks vs)) :
  ∃ kvs,(a==sysModules)=false∧s.heap.DictOf (strKind W.prog W.w) a kvs∧kvs.map (·.1)=ks∧gr W (fzS W news ow) vs (kvs.map (·.2)) ∧
   ∀ kvs' vs' h',gr W (fzS W news ow) vs' (kvs'.map (·.2))→Heap.SameBut a s.heap h'→h'.DictOf (strKind W.prog W.w) a kvs' →
    ∃ news',St W C l (H.put a (.dic (kvs'.map (·.1)) vs')) news' ow { s with heap:=h'}∧Le (fzS W news ow) (fzS W news' ow):=by
 cb_eq;rcases hs.fr with ⟨gg,m,G,F,N,lr⟩;rcases hs.hr a _ hH with ⟨hw,lo,o,kvs,h1,h2,h3,h4⟩;by_in;have g:=N _ h1;refine ⟨kvs,lo,Heap.dictOf_iff.mpr ⟨o,g.1,h2.to rfl⟩,h3,h4,?_⟩;intro kvs' vs' h' vr' hsb hd';cb_eq;rcases Heap.dictOf_iff.mp hd' with ⟨o',ho',hd''⟩;rcases jz (o':=o') hs.nd h1 with ⟨news',Up,mp,hin,hback,hon⟩;by_in;have le:Le (fzS W news ow) (fzS W news' ow):=jH hw hon;refine ⟨news',⟨⟨gg,m,G,F.change hsb g.2.1 g.2.2,?_,lr.mono le⟩,?_,by rw [mp];exact hs.nd,hs.gens,(Le.trans hs.le0 le),hs.os0⟩,le⟩
 ·cb_eq;rcases Up.split with ⟨pre,post,e1,e2,p1,p2⟩;by_in;rw [e2];have N:=N;rw [e1] at N;exact news_set N p1 p2 hsb ho'
 ·intro b x hb;unfold MH.put at hb
  by_cases e:b=a
  ·subst e;rw [if_pos rfl] at hb
   cases hb
   exact ⟨hw,lo,o',kvs',hin,⟨W.prog,W.w,rfl,hd''⟩,rfl,vr'.mono le⟩
  ·rw [if_neg e] at hb;exact cz.upd le hw e hon (hs.hr b x hb)
set_option tactic.hygienic true in
theorem vB {o i e:Expr}{ps pos:Pos}{Q:Fl→Loc→MH→Prop}(hsw:∀ env,swapsWith e (some (.Subscript o i ps)) pos.line env=pure false)
  (h:EV W d cs e l H fun v H₁=>EV W d cs o l H₁ fun ov H₂=>EV W d cs i l H₂ fun iv H₃ =>
   (∃ a vs k,ov=.ref a∧iv=.int k∧H₃ a=some (.list vs)∧0≤k∧k<vs.length∧vs.length<1000000∧Q .next l (H₃.put a (.list (vs.set k.toNat v)))) ∨
   (∃ a ks vs x,ov=.ref a∧iv=.str x∧H₃ a=some (.dic ks vs)∧ks.length<1000∧Q .next l (H₃.put a (.dic (fF ks vs x v).1 (fF ks vs x v).2)))):EX W d cs (.Assign [.Subscript o i ps] e pos) l H Q:=by
 refine Box.mk ?_;intro C news ow s Qr hc ho hs hk;refine wpAny_Assign_Subscript (h.go C news ow s _ hc ho hs ?_) (hsw _);intro v U H₁ n₁ o₁ s₁ hs₁ le₁ os₁ vr₁ h₁;refine h₁.go C n₁ o₁ s₁ _ hc ho hs₁ ?_;intro ov U₂ H₂ n₂ o₂ s₂ hs₂ le₂ os₂ vr₂ h₂;refine h₂.go C n₂ o₂ s₂ _ hc ho hs₂ ?_;intro iv U₃ H₃ n₃ o₃ s₃ hs₃ le₃ os₃ vr₃ h₃;rcases h₃ with ⟨a,vs,k,rfl,rfl,hH,hk0,hk1,hz,hq⟩ | ⟨a,ks,vs,x,rfl,rfl,hH,hz,hq⟩
 ·obtain rfl:=aP vr₂;cb_eq;rcases aw vr₃ with ⟨t,rfl⟩;rcases cj hs₃ hH with ⟨n,Vs,g,hm,vrs,K⟩;by_in;have hlen:=VRs.length vrs;refine PySem.W.ki_setAt (n:=n) g hk0 (by omega) (by rw [List.size_toArray,←hlen];exact hk1) ?_;obtain ⟨n',hg'⟩:∃ n',(s₃.heap.update a (Obj.mapSeq (·.setIfInBounds k.toNat U))).get? a=some (bq (Vs.set k.toNat U) n'):=by
   have q:=PySem.IsL.update g (fun xs=>xs.setIfInBounds k.toNat U);rw [show (Vs.toArray.setIfInBounds k.toNat U)=(Vs.set k.toNat U).toArray from by apply Array.toList_inj.mp;simp] at q;exact ⟨_,q⟩
  have vset:∀ {vs:List V}{Vs:List Value}(j:Nat),VRs W.w.params (fzS W n₃ o₃) vs Vs→VRs W.w.params (fzS W n₃ o₃) (vs.set j v) (Vs.set j U):=by
   intro vs
   induction vs with
   | nil=>intro Vs j h;cases Vs with
    | nil=>exact h
    | cons _ _=>exact h.elim
   | cons x r ih=>intro Vs j h;cases Vs with
    | nil=>exact h.elim
    | cons y q=>cases j with
     | zero=>exact aY (VR.mono (Le.trans le₂ le₃) vr₁) h.2
     | succ j=>exact aY h.1 (ih j h.2)
  obtain ⟨news',st,le⟩:=K n' _ _ _ (vset k.toNat vrs) (Heap.SameBut.update ..) hg';exact hk .next .next l _ _ _ _ st (Le.trans le₁ (Le.trans le₂ (Le.trans le₃ le))) (os₃.trans (os₂.trans os₁)) rfl hq
 ·obtain rfl:=aP vr₂;cb_eq;rcases aD vr₃ with ⟨t,rfl⟩;rcases zF hs₃ hH with ⟨kvs,lo,hd,rfl,hvs,K⟩;by_in;rw [List.length_map] at hz;refine wpAny_setItem_pairs (strKind_is W.prog W.w x t) hd (fun h' hd' hsb=>?_) (by rw [sizeLine_eq];omega);cb_eq;rcases hd with ⟨_,_,_,_,_,_,_,nd⟩;rcases kN (x:=x) (VR.mono (Le.trans le₂ le₃) vr₁) nd.2 hvs with ⟨p1,p2⟩;rcases K _ _ h' p2 hsb hd' with ⟨news',st,le⟩;by_in;rw [p1] at st;exact hk .next .next l _ _ _ _ (st.toks (t:=s₃.toks+1)) (Le.trans le₁ (Le.trans le₂ (Le.trans le₃ le))) (os₃.trans (os₂.trans os₁)) rfl hq
end
end Mine
end
section
open PySem PySem.W PySem.Calls PyProof.Rows
noncomputable section
namespace Mine
section
variable {α : Type}{r : α}{P:Prop}
theorem ax {b:Bool}{x:Option α}(h:chK b x=some r) (k:b=true→x=some r→P):P:=by
 cases b with
 | true=>exact k rfl h
 | false=>cases h
theorem lT {m:MOb}{c:List U→Option α}(h:liK m c=some r) (k:∀ vs,m=.lst vs→c vs=some r→P):P:=by
 cases m with
 | lst vs=>exact k vs rfl h
 | _=>cases h
theorem uJ {m:MOb}{c:List (List Nat)→List U→Option α}(h:diK m c=some r) (k:∀ ks vs,m=.dic ks vs→c ks vs=some r→P):P:=by
 cases m with
 | dic ks vs=>exact k ks vs rfl h
 | _=>cases h
theorem ix {u:U}{c:Ad→Option α}(h:rfK u c=some r) (k:∀ i,u=.ref i→c i=some r→P):P:=by
 cases u with
 | ref i=>exact k i rfl h
 | _=>cases h
theorem ee {u:U}{c:List Nat→Option α}(h:stK u c=some r) (k:∀ x,u=.str x→c x=some r→P):P:=by
 cases u with
 | str x=>exact k x rfl h
 | _=>cases h
theorem o3 {u:U}{c:List Nat→Int→Option α}(h:poK u c=some r) (k:∀ x j i,u=.pos x j i→c x i=some r→P):P:=by
 cases u with
 | pos x j i=>exact k x j i rfl h
 | _=>cases h
theorem AL {u:U}{x:Option α}(h:txK u x=some r) (k:u=.txt→x=some r→P):P:=by
 cases u with
 | txt=>exact k rfl h
 | _=>cases h
theorem cZ {u:U}{c:Int→Option α}(h:inK u c=some r) (k:∀ i,u=.int i→c i=some r→P):P:=by
 cases u with
 | int i=>exact k i rfl h
 | _=>cases h
theorem t9 {u:U}{c:Int→Option α}(h:lnK u c=some r) (k:∀ i,u=.ln i→c i=some r→P):P:=by
 cases u with
 | ln i=>exact k i rfl h
 | _=>cases h
theorem Cc {u:U}{c:List U→Option α}(h:llK u c=some r) (k:∀ x,u=.lst x→c x=some r→P):P:=by
 cases u with
 | lst x=>exact k x rfl h
 | _=>cases h
theorem o8 {i:Int}{c:Nat→Option α}(h:ntK i c=some r) (k:∀ n,i=.ofNat n→c n=some r→P):P:=by
 cases i with
 | ofNat n=>exact k n rfl h
 | negSucc n=>cases h
end
theorem fg (i j:Int):ltI i j=decide (i<j):=by
 rw [Bool.eq_iff_iff,decide_eq_true_iff]
 cases i with
 | ofNat a=>cases j with
  | ofNat b =>
   show Nat.ble (a+1) b=true↔_;rw [Nat.ble_eq];exact Int.ofNat_lt.symm
  | negSucc b=>exact ⟨(fun h=>nomatch h),(fun h=>absurd h (Int.not_lt.mpr (Int.le_of_lt (Int.lt_of_lt_of_le (Int.negSucc_lt_zero b) (Int.natCast_nonneg a)))))⟩
 | negSucc a=>cases j with
  | ofNat b=>exact ⟨(fun ε =>Int.lt_of_lt_of_le (Int.negSucc_lt_zero a) (Int.natCast_nonneg b)),(fun ε =>rfl)⟩
  | negSucc b =>
   show Nat.ble (b+1) a=true↔_;rw [Nat.ble_eq];simp only [Int.negSucc_eq];omega
theorem cI {i j:Int}(h:eqI i j=true):i=j:=by
 cases i<;>cases j<;>first | exact congrArg _ (Nat.eq_of_beq_eq_true h) | cases h
theorem mc (i j:Int):eqI i j=decide (i=j) :=
 Bool.eq_iff_iff.mpr ⟨fun h=>decide_eq_true (cI h),fun h=>by rw [of_decide_eq_true h];cases j<;>exact Nat.beq_refl _⟩
theorem b9:∀ a b:List Nat,aN a b=decide (a=b)
 | [],[]=>rfl
 | [],_::_=>rfl
 | _::_,[]=>rfl
 | x::r,y::s=>by
  show IF (Nat.beq x y) (aN r s) false=_
  cases q:Nat.beq x y with
  | true =>
   have:=Nat.eq_of_beq_eq_true q;subst this;show aN r s=_;rw [b9 r s];simp
  | false =>
   have:x≠y:=fun z=>by rw [z,Nat.beq_refl] at q;cases q
   show false=_;simp [this]
theorem bQ {n:Nat}(h:sm n=true):n<1000000:=Nat.lt_succ_of_le (Nat.le_of_ble_eq_true h)
theorem bF {α : Type}{b:Bool}{x:Option α}{w : α}(h:IF b x none=some w):b=true∧x=some w:=by
 cases b with
 | true=>exact ⟨rfl,h⟩
 | false=>cases h
theorem ai {a b:Bool}(h:IF a b false=true):a=true∧b=true:=by
 cases a with
 | true=>exact ⟨rfl,h⟩
 | false=>cases h
theorem xC {a b:List Nat}:decide (SS a=SS b)=decide (a=b):=by
 by_cases h:a=b
 ·rw [decide_eq_true h,decide_eq_true (congrArg SS h)]
 ·rw [decide_eq_false h,decide_eq_false];intro e;exact h (by simpa using congrArg (fun s:Str=>s.cps.toList) e)
section
variable {T:List Nat}
theorem sg {r:List Nat}{k:Nat}(h:r<:+T) (hk:k≤r.length):aT T (r.drop k)=aT T r+k:=by
 have:=h.length_le;unfold aT;rw [List.length_drop,Nat.sub_sub_right _ hk,Nat.sub_add_comm this];rfl
theorem vT {r:List Nat}(k:Nat) (h:r<:+T):r.drop k<:+T:=(List.drop_suffix k r).trans h
end
section
variable {S:Sd}{cx:Cx}{ρ : Rh}
theorem gC {r:List Nat}{i o j:Int}(h:r<:+cx.T) (hi:aT cx.T r=cx.off+i) (e:j=cx.off+i+o):VU S cx ρ (.pos r i o) (.int j):=And.intro h ⟨hi,congrArg V.int e⟩
theorem oJ:∀ {r:List Nat}{i:Int}{n:Nat}{u:U}{v:V},r<:+cx.T→aT cx.T r=cx.off+i→v=.int (cx.off+i+n)→VU S cx ρ u v→VU S cx ρ (xQ r i n u) v
 | [],i,0,u,v,h,hi,e,hu=>by rw [e];exact gC h hi (by simp)
 | [],i,n+1,u,v,h,hi,e,hu=>hu
 | c::r,i,0,u,v,h,hi,e,hu=>by rw [e];exact gC h hi (by simp)
 | c::r,i,n+1,u,v,h,hi,e,hu=>by
  have h1:(c::r).drop 1<:+cx.T:=vT 1 h;have h2:=sg (k:=1) h (by simp);exact oJ (r:=r) (i:=i+1) (n:=n) h1 (by rw [show r=(c::r).drop 1 from rfl,h2,hi];omega) (by rw [e];congr 1;omega) hu
theorem bM {i j:Int}(e:j=i):VU S cx ρ (.int i) (.int j):=congrArg V.int e
theorem eD {b:Bool}:VU S cx ρ (.bool b) (.bool b):=rfl
theorem j0:VU S cx ρ .none .none:=rfl
theorem cP {x:List Nat}:VU S cx ρ (.str x) (.str (SS x)):=rfl
theorem n8 {k i:Int}(e:i=(cx.lam:Int)+k):VU S cx ρ (.ln k) (.int i):=congrArg V.int e
theorem fX {us:List U}{vs:List V}(h:VUs S cx ρ us vs):VU S cx ρ (.lst us) (.lst vs):=Exists.intro vs ⟨rfl,h⟩
theorem AJ {us:List U}{vs:List V}(h:VUs S cx ρ us vs):VU S cx ρ (.tup us) (.tup vs):=Exists.intro vs ⟨rfl,h⟩
theorem dp {a:Ad}{x:Addr}(h : ρ a=some x):VU S cx ρ (.ref a) (.ref x):=Exists.intro x ⟨h,rfl⟩
theorem ao {i:Int}{v:V}(h:VU S cx ρ (.int i) v):v=.int i:=h
theorem bR {b:Bool}{v:V}(h:VU S cx ρ (.bool b) v):v=.bool b:=h
theorem dg {v:V}(h:VU S cx ρ .none v):v=.none:=h
theorem ay {x:List Nat}{v:V}(h:VU S cx ρ (.str x) v):v=.str (SS x):=h
theorem cA {v:V}(h:VU S cx ρ .txt v):v=.str (SS cx.T):=h
theorem bS {us:List U}{v:V}(h:VU S cx ρ (.tup us) v):∃ vs,v=.tup vs∧VUs S cx ρ us vs:=h
theorem bH {us:List U}{v:V}(h:VU S cx ρ (.lst us) v):∃ vs,v=.lst vs∧VUs S cx ρ us vs:=h
theorem eJ {c:Nat}{us:List U}{v:V}(h:VU S cx ρ (.obj c us) v):∃ vs,v=.obj (S.cad c) (dK S c us.length) vs∧us.length≤(fks c).length∧VUs S cx ρ us vs:=h
theorem aC {a:Ad}{v:V}(h:VU S cx ρ (.ref a) v):∃ x,ρ a=some x∧v=.ref x:=h
theorem bx {r:List Nat}{i o:Int}{v:V}(h:VU S cx ρ (.pos r i o) v):r<:+cx.T∧aT cx.T r=cx.off+i∧v=.int (cx.off+i+o):=h
theorem iX {v:V}(h:VU S cx ρ .tlen v):v=.int cx.T.length:=h
theorem gX {i:Nat}{v:V}(h:VU S cx ρ (.any i) v):iz v=true∧S.ap i v:=h
theorem cM {k:Int}{v:V}(h:VU S cx ρ (.ln k) v):v=.int ((cx.lam:Int)+k):=h
theorem eM {g:Nat}{v:V}(h:VU S cx ρ (.dct g) v):v=S.dv g:=h
theorem jE {v:V}(h:VU S cx ρ .unb v):False:=h
section
variable {W:Wd}{d:Dx}{cs:Scope}{l:Loc}{H:MH}{Q:V→MH→Prop}
theorem iM {f:Nat→Nat→Nat}{p:Nat→Nat→Bool}{i j:Int}{w:U}{op:Operator}(e:mQ f p i j=some w) (hq:∀ c,VU S cx ρ w c→Q c H)
  (h:∀ a b:Nat,p a b=true→Q (.int ((f a b:Nat):Int)) H→T2 W d cs l H (.int a) (.int b) (binaryOp op) Q):T2 W d cs l H (.int i) (.int j) (binaryOp op) Q:=by
 cases i with
 | negSucc _=>cases j<;>cases e
 | ofNat a =>
 cases j with
 | negSucc _=>cases e
 | ofNat b =>
  obtain ⟨hp,e⟩:=bF e
  cases e
  exact h a b hp (hq _ (bM rfl))
theorem qE {i:Int}(h:smI i=true):Nat.log2 i.natAbs≤8001:=by
 cases i with
 | ofNat a=>exact Nat.le_succ_of_le (Nat.le_of_ble_eq_true h)
 | negSucc a =>
  have h':Nat.log2 a≤8000:=Nat.le_of_ble_eq_true h;show Nat.log2 (a+1)≤8001;have h1:a<2 ^ 8001:=by
   by_cases q:a=0
   ·rw [q];exact Nat.two_pow_pos _
   ·exact (Nat.log2_lt q).mp (Nat.lt_succ_of_le h')
  have h2:a+1<2 ^ 8002:=by
   have e:(2:Nat) ^ 8002=2 ^ 8001*2:=Nat.pow_succ ..;rw [e];omega
  exact Nat.le_of_lt_succ ((Nat.log2_lt (Nat.succ_ne_zero a)).mpr h2)
theorem qM {j:Int}(h:wn j=true):∃ n:Nat,j=n∧1≤n∧Nat.log2 n≤8000:=by
 cases j with
 | ofNat a =>
  have h':IF (Nat.ble 1 a) (smN a) false=true:=h
  cases q:Nat.ble 1 a with
  | true=>rw [q] at h';exact ⟨a,rfl,Nat.le_of_ble_eq_true q,Nat.le_of_ble_eq_true h'⟩
  | false=>rw [q] at h';cases h'
 | negSucc a=>cases h
theorem vh {op:Operator}{i j:Int}{w:U}(e:l0 op i j=some w) (hq:∀ c,VU S cx ρ w c→Q c H):T2 W d cs l H (.int i) (.int j) (binaryOp op) Q:=by
 cases op
 case Add=>cases e;exact dh (hq _ (bM rfl))
 case Sub=>cases e;exact mr (hq _ (bM rfl))
 case Mult=>obtain ⟨hp,e⟩:=bF e;obtain ⟨hp',e⟩:=bF e;cases e;exact uV (qE hp) (qE hp') (hq _ (bM rfl))
 case FloorDiv=>obtain ⟨hp,e⟩:=bF e;cases e;obtain ⟨n,rfl,h1,h2⟩:=qM hp;exact tc h2 h1 (hq _ (bM rfl))
 case Mod=>obtain ⟨hp,e⟩:=bF e;cases e;obtain ⟨n,rfl,h1,h2⟩:=qM hp;exact dN (by omega) (hq _ (bM rfl))
 case LShift =>
  refine iM e hq fun a b hp h=>?_;obtain ⟨h1,h2⟩:=ai hp;exact Dm (Nat.le_of_ble_eq_true h1) (Nat.le_of_ble_eq_true h2) h
 case RShift=>exact iM e hq fun a b hp h=>Dl h
 case BitAnd=>exact iM e hq fun a b hp h=>z8 h
 case BitOr=>exact iM e hq fun a b hp h=>Dq h
 case Pow =>
  refine iM e hq fun a b hp h=>?_;obtain ⟨h1,h2⟩:=ai hp;exact Dn (Nat.le_of_ble_eq_true h1) (Nat.le_of_ble_eq_true h2) h
 all_goals exact nomatch e
theorem tR {x y:List Nat}:SS x++SS y=SS (x++y):=by
 show (⟨x.toArray++y.toArray⟩:Str)=⟨(x++y).toArray⟩;rw [List.append_toArray]
set_option tactic.hygienic true in
theorem zZ {u v w:U}{a b:V}{op:Operator}(ha:VU S cx ρ u a) (hb:VU S cx ρ v b) (e:sX op u v=some w) (hq:∀ c,VU S cx ρ w c→Q c H):T2 W d cs l H a b (binaryOp op) Q:=by
 cases u<;>first | (cases e;done) | skip
 case int i =>
  refine cZ e fun j e1 e=>?_;rw [e1] at hb;rw [ao ha,ao hb];exact vh e hq
 case str x =>
  rw [ay ha]
  cases op<;>first | (cases e;done) | skip
  case Add =>
   refine ee e fun y e1 e=>ax e fun hp e=>?_
   cases e
   rw [e1] at hb;have hz:=bQ hp;rw [aA,aA] at hz;rw [ay hb];exact mv hz (by rw [tR];exact hq _ cP)
  case Mult =>
   refine cZ e fun i e1 e=>o8 e fun n e2 e=>ax e fun hp e=>ax e fun hp' e=>?_
   cases e
   rw [e1,e2] at hb;have hz:=bQ hp;rw [aA] at hz;rw [ao hb];exact jl hz (bQ hp') (hq _ cP)
 case lst x =>
  obtain ⟨vs,ev,h1⟩:=bH ha;rw [ev]
  cases op<;>first | (cases e;done) | skip
  refine Cc e fun y e1 e=>ax e fun hp e=>?_
  cases e
  rw [e1] at hb;obtain ⟨vs',ev',h2⟩:=bH hb;have hz:=bQ hp;rw [aA,aA,h1.length,h2.length] at hz;rw [ev'];exact jn hz (hq _ (fX (h1.append h2)))
 case pos r k o =>
  refine cZ e fun j e1 e=>?_;rw [e1] at hb;obtain ⟨hr,hi,ev⟩:=bx ha;rw [ev,ao hb]
  cases op<;>first | (cases e;done) | skip
  ·cases e;exact dh (hq _ (gC hr hi (Int.add_assoc _ _ _)))
  ·cases e;exact mr (hq _ (gC hr hi (Int.add_sub_assoc _ _ _)))
 case ln k =>
  refine cZ e fun j e1 e=>?_;rw [e1] at hb;rw [cM ha,ao hb]
  cases op<;>first | (cases e;done) | skip
  cases e;exact dh (hq _ (n8 (Int.add_assoc _ _ _)))
end
end
end Mine
end
section
open PySem PySem.W PySem.Calls PyProof.Rows
noncomputable section
namespace Mine
structure Dcts (S:Sd):Prop where
 dct:∀ g,∃ ks vs,S.dv g=.dct ks vs∧ks.map Str.ofString=(S.tb.dks g).map SS∧∀ cx ρ,VUs S cx ρ (S.tb.dvs g) vs
theorem oa {a b:List Nat}(h:a≠b):SS a≠SS b:=fun e=>h (by simpa using congrArg (fun s:Str=>s.cps.toList) e)
section
variable {S:Sd}{cx:Cx}{ρ : Rh}{H₀ H:MH}{o:O}
theorem ut {r:List Nat}{i o:Int}{t:Bool}(hr:r<:+cx.T) (hi:aT cx.T r=cx.off+i) (e:inT r o=some t):t=decide (cx.off+i+o<cx.T.length):=by
 cases o with
 | ofNat n =>
  cases e
  rw [iB,Bool.eq_iff_iff,decide_eq_true_iff,←hi];have l1:=mB hr;unfold aT;rw [Option.isSome_iff_ne_none,ne_eq,List.getElem?_eq_none_iff];simp only [Int.ofNat_eq_natCast];omega
 | negSucc n=>cases e
theorem qk {x:List Nat}{u:U}{us:List U}:gN x (u::us)=(match u with | .str y=>IF (aN y x) ((gN x us).map fun ε =>true) (gN x us) | _=>none):=rfl
theorem ql {x:Int}{u:U}{us:List U}:gO x (u::us)=(match u with | .int y=>IF (eqI y x) ((gO x us).map fun ε =>true) (gO x us) | _=>none):=rfl
set_option tactic.hygienic true in
theorem f8 {x:List Nat}:∀ {us:List U}{vs:List V}{t:Bool},gN x us=some t→VUs S cx ρ us vs→∃ ys:List Str,vs=ys.map .str∧t=ys.any (· == SS x)
 | [],_,t,e,h=>by rw [am h];cases e;exact ⟨[],rfl,rfl⟩
 | u::us,_,t,e,h=>by
  cb_eq;rcases ae h with ⟨v,r,rfl,h1,h2⟩;by_in
  cases u
  case str y =>
   rw [qk] at e
   dsimp only at e
   cases ay h1
   cases q:gN x us with
   | none=>rw [q] at e;cases w:aN y x<;>rw [w] at e<;>cases e
   | some t' =>
    cb_eq;rcases f8 q h2 with ⟨ys,rfl,ht⟩;by_in;refine ⟨SS y::ys,rfl,?_⟩;rw [q] at e;rw [List.any_cons,←ht];rw [b9] at e
    by_cases w:y=x
    ·rw [decide_eq_true w] at e
     cases e
     rw [w];simp
    ·rw [decide_eq_false w] at e
     cases e
     rw [beq_eq_false_iff_ne.mpr (oa w)];rfl
  all_goals cases e
set_option tactic.hygienic true in
theorem f9 {x:Int}:∀ {us:List U}{vs:List V}{t:Bool},gO x us=some t→VUs S cx ρ us vs→∃ ys:List Int,vs=ys.map .int∧t=ys.any (· == x)
 | [],_,t,e,h=>by rw [am h];cases e;exact ⟨[],rfl,rfl⟩
 | u::us,_,t,e,h=>by
  cb_eq;rcases ae h with ⟨v,r,rfl,h1,h2⟩;by_in
  cases u
  case int y =>
   rw [ql] at e
   dsimp only at e
   cases ao h1
   cases q:gO x us with
   | none=>rw [q] at e;cases w:eqI y x<;>rw [w] at e<;>cases e
   | some t' =>
    cb_eq;rcases f9 q h2 with ⟨ys,rfl,ht⟩;by_in;refine ⟨y::ys,rfl,?_⟩;rw [q] at e;rw [List.any_cons,←ht];rw [mc] at e
    by_cases w:y=x
    ·rw [decide_eq_true w] at e
     cases e
     rw [w];simp
    ·rw [decide_eq_false w] at e
     cases e
     rw [beq_eq_false_iff_ne.mpr w];rfl
  all_goals cases e
theorem gx {x:List Nat}:∀ {ds:List (List Nat)}{us:List U}{ks:List String}{vs:List V},ks.map Str.ofString=ds.map SS→VUs S cx ρ us vs →
  (bZ x ds us=none∧eA ks vs (SS x)=none)∨∃ u v,bZ x ds us=some u∧eA ks vs (SS x)=some v∧VU S cx ρ u v
 | [],us,[],vs,_,h=>.inl ⟨rfl,rfl⟩
 | [],us,_::_,vs,e,h=>by simp at e
 | _::_,us,[],vs,e,h=>by simp at e
 | k::ds,us,k'::ks,vs,e,h=>by
  rw [List.map_cons,List.map_cons] at e;have e1:=(List.cons.inj e).1;have e2:=(List.cons.inj e).2
  cases us with
  | nil=>rw [am h];exact .inl ⟨rfl,rfl⟩
  | cons u us =>
   cb_eq;rcases ae h with ⟨v,r,rfl,h1,h2⟩;by_in;show (IF (aN k x) (some u) (bZ x ds us)=none∧_)∨_
   by_cases q:k=x
   ·rw [b9,decide_eq_true q];refine .inr ⟨u,v,?_,?_,h1⟩
    ·show IF (aN k x) (some u) (bZ x ds us)=some u;rw [b9,decide_eq_true q]
    ·rw [pA,if_pos (by rw [e1,q])]
   ·have qq:eA (k'::ks) (v::r) (SS x)=eA ks r (SS x):=by
     rw [pA];rw [if_neg (by rw [e1];exact oa q)]
    have kk:bZ x (k::ds) (u::us)=bZ x ds us:=by
     show IF (aN k x) (some u) (bZ x ds us)=_;rw [b9,decide_eq_false q]
    rw [b9,decide_eq_false q,qq,kk];exact gx e2 h2
theorem i6 {x:List Nat}:∀ {ds:List (List Nat)}{us:List U}{vs:List V},VUs S cx ρ us vs →
  (bZ x ds us=none∧fJ (ds.map SS) vs (SS x)=none)∨∃ u v,bZ x ds us=some u∧fJ (ds.map SS) vs (SS x)=some v∧VU S cx ρ u v
 | [],us,vs,h=>.inl ⟨rfl,rfl⟩
 | k::ds,us,vs,h=>by
  cases us with
  | nil=>rw [am h];exact .inl ⟨rfl,rfl⟩
  | cons u us =>
   cb_eq;rcases ae h with ⟨v,r,rfl,h1,h2⟩;by_in;rw [List.map_cons]
   by_cases q:k=x
   ·refine .inr ⟨u,v,?_,?_,h1⟩
    ·show IF (aN k x) (some u) (bZ x ds us)=some u;rw [b9,decide_eq_true q]
    ·rw [pB,if_pos (by rw [q];simp)]
   ·have qq:fJ (SS k::ds.map SS) (v::r) (SS x)=fJ (ds.map SS) r (SS x):=by
     rw [pB];rw [if_neg (fun z=>oa q (eq_of_beq z))]
    have kk:bZ x (k::ds) (u::us)=bZ x ds us:=by
     show IF (aN k x) (some u) (bZ x ds us)=_;rw [b9,decide_eq_false q]
    rw [qq,kk];exact i6 h2
section
variable {W:Wd}{d:Dx}{cs:Scope}{l:Loc}{Q:V→MH→Prop}
set_option tactic.hygienic true in
theorem lI {u:U}{vs:List U}{t:Bool}{P:Prop}(e:siU u vs=some t) (h1:∀ x,u=.str x→gN x vs=some t→P) (h2:∀ x,u=.int x→gO x vs=some t→P):P:=by
 cases u
 case str x=>exact h1 x rfl e
 case int x=>exact h2 x rfl e
 all_goals cases e
set_option tactic.hygienic true in
theorem Do (D:Dcts S) (hI:Inv S cx H₀ ρ o H){u v:U}{a b:V}{t:Bool}(ha:VU S cx ρ u a) (hb:VU S cx ρ v b) (e:inU S.tb u v o=some t) (hq:Q (.bool t) H):T2 W d cs l H a b (compareOp .In) Q:=by
 cases v
 case tup us =>
  cb_eq;rcases bS hb with ⟨vs,rfl,h1⟩;by_in;refine lI (u:=u) e (fun x z e9=>?_) fun x z e9=>?_
  ·subst z
   cases ay ha
   cb_eq;rcases f8 e9 h1 with ⟨ys,rfl,ht⟩;by_in;exact nn (by rw [←ht];exact hq)
  ·subst z
   cases ao ha
   cb_eq;rcases f9 e9 h1 with ⟨ys,rfl,ht⟩;by_in;exact nu (by rw [←ht];exact hq)
 case lst us =>
  cb_eq;rcases bH hb with ⟨vs,rfl,h1⟩;by_in;refine lI (u:=u) e (fun x z e9=>?_) fun x z e9=>?_
  ·subst z
   cases ay ha
   cb_eq;rcases f8 e9 h1 with ⟨ys,rfl,ht⟩;by_in;exact nq (by rw [←ht];exact hq)
  ·subst z
   cases ao ha
   cb_eq;rcases f9 e9 h1 with ⟨ys,rfl,ht⟩;by_in;exact nv (by rw [←ht];exact hq)
 case dct g =>
  refine ee (u:=u) e fun x z e9=>?_;subst z
  cases ay ha
  cases eM hb
  cb_eq;rcases D.dct g with ⟨ks,vs,e1,e2,e3⟩;by_in;rw [e1];refine vk ?_;rcases gx (x:=x) e2 (e3 cx ρ) with ⟨p,q⟩ | ⟨u,v,p,q,_⟩
  ·rw [p] at e9;cases e9;rw [q];exact hq
  ·rw [p] at e9;cases e9;rw [q];exact hq
 case ref i =>
  refine ee (u:=u) e fun x z e9=>uJ e9 fun ks us hat e9=>?_;subst z
  cases ay ha
  cb_eq;rcases aC hb with ⟨y,hy,rfl⟩;by_in;obtain ⟨m,hm,mu,_⟩:=hI.get (by rw [hat];exact fun z=>nomatch z) hy;rw [hat] at mu;cb_eq;rcases mu with ⟨vs,rfl,h1⟩;by_in;refine vj hm ?_;rcases i6 (ds:=ks) (x:=x) h1 with ⟨p,q⟩ | ⟨u,v,p,q,_⟩
  ·rw [p] at e9;cases e9;rw [q];exact hq
  ·rw [p] at e9;cases e9;rw [q];exact hq
 all_goals cases e
set_option tactic.hygienic true in
theorem zX {u v:U}{a b:V}{t:Bool}(ha:VU S cx ρ u a) (hb:VU S cx ρ v b) (e:wu S.tb u v o=some t) (hq:Q (.bool (!t)) H):T2 W d cs l H a b (compareOp .NotIn) Q:=by
 cases v
 case tup us =>
  cb_eq;rcases bS hb with ⟨vs,rfl,h1⟩;by_in;refine lI (u:=u) e (fun x z e9=>?_) fun x z e9=>?_
  ·subst z
   cases ay ha
   cb_eq;rcases f8 e9 h1 with ⟨ys,rfl,ht⟩;by_in;exact kE (by rw [←ht];exact hq)
  ·subst z
   cases ao ha
   cb_eq;rcases f9 e9 h1 with ⟨ys,rfl,ht⟩;by_in;exact kG (by rw [←ht];exact hq)
 case lst us =>
  cb_eq;rcases bH hb with ⟨vs,rfl,h1⟩;by_in;refine lI (u:=u) e (fun x z e9=>?_) fun x z e9=>?_
  ·subst z
   cases ay ha
   cb_eq;rcases f8 e9 h1 with ⟨ys,rfl,ht⟩;by_in;exact kF (by rw [←ht];exact hq)
  ·subst z
   cases ao ha
   cb_eq;rcases f9 e9 h1 with ⟨ys,rfl,ht⟩;by_in;exact kH (by rw [←ht];exact hq)
 all_goals cases e
set_option tactic.hygienic true in
theorem um (D:Dcts S){u:U}{v:V}(h:VU S cx ρ u v) (ha:om u=false):iE v=iF u:=by
 cases u
 case none=>cases dg h;rfl
 case bool=>cases bR h;rfl
 case int=>cases ao h;rfl
 case str=>cases ay h;rfl
 case tup=>obtain ⟨_,rfl,_⟩:=bS h;rfl
 case lst=>obtain ⟨_,rfl,_⟩:=bH h;rfl
 case obj=>obtain ⟨_,rfl,_⟩:=eJ h;rfl
 case ref=>obtain ⟨_,_,rfl⟩:=aC h;rfl
 case txt=>cases cA h;rfl
 case pos=>obtain ⟨_,_,rfl⟩:=bx h;rfl
 case tlen=>cases iX h;rfl
 case any=>cases ha
 case ln=>cases cM h;rfl
 case dct g=>cases eM h;obtain ⟨ks,vs,e,_⟩:=D.dct g;rw [e];rfl
 case unb=>exact (jE h).elim
theorem u0 {op:CmpOp}{i j:Int}{t:Bool}(e:ur op i j=some t) (hq:Q (.bool t) H):T2 W d cs l H (.int i) (.int j) (compareOp op) Q:=by
 cases op
 case Eq=>cases e;rw [mc] at hq;exact dC hq
 case NotEq=>cases e;rw [mc] at hq;exact ie (by rw [show (i != j)=!decide (i=j) from rfl];exact hq)
 case Lt=>cases e;rw [fg] at hq;exact jV hq
 case LtE=>cases e;unfold leI at hq;rw [fg] at hq;exact uY (by rw [show decide (i≤j)=Bool.not (decide (j<i)) from by rw [Bool.eq_iff_iff];simp];exact hq)
 case Gt=>cases e;rw [fg] at hq;exact gb hq
 case GtE=>cases e;unfold leI at hq;rw [fg] at hq;exact jW (by rw [show decide (j≤i)=Bool.not (decide (i<j)) from by rw [Bool.eq_iff_iff];simp];exact hq)
 all_goals exact nomatch e
theorem xO (i j:Int):decide (j≤i)=Bool.not (decide (i<j)):=by rw [Bool.eq_iff_iff];simp
theorem mq (c a b:Int):decide (c+a<c+b)=decide (a<b):=by congr 1;exact propext ⟨Int.lt_of_add_lt_add_left,fun h=>Int.add_lt_add_left h c⟩
theorem Dp {x y:List Nat}{t:Bool}(e:C9 x y=some t) (hq:Q (.bool t) H):T2 W d cs l H (.str (SS x)) (.str (SS y)) (compareOp .LtE) Q:=by
 match x,y,e with
 | [a],[b],e =>
  cases e
  refine uX ?_;have:(!decide ((SS [b]).cps.toList<(SS [a]).cps.toList))=Nat.ble a b:=by
   have h:([b]:List Nat)<[a]↔b<a:=by simp [List.cons_lt_cons_iff]
   show (!decide (([b]:List Nat)<[a]))=_;rw [Bool.eq_iff_iff,Nat.ble_eq,Bool.not_eq_true',decide_eq_false_iff_not,h,Nat.not_lt]
  rw [this];exact hq
set_option tactic.hygienic true in
theorem zW {op:CmpOp}{r:List Nat}{i a:Int}{v:U}{x b:V}{t:Bool}(ha:VU S cx ρ (.pos r i a) x) (hb:VU S cx ρ v b) (e:BX op r i a v=some t) (hq:Q (.bool t) H):T2 W d cs l H x b (compareOp op) Q:=by
 obtain ⟨hr,hi,ev⟩:=bx ha
 cases v<;>first | (cases e;done) | skip
 case tlen =>
  rw [ev,iX hb]
  cases op<;>first | (cases e;done) | skip
  ·rw [ut hr hi e] at hq;exact jV hq
  ·obtain ⟨t',e1,e2⟩:=Option.map_eq_some_iff.mp e;rw [←e2,ut hr hi e1] at hq;refine jW ?_;rw [xO];exact hq
 case pos s j c =>
  obtain ⟨hs,hj,ev'⟩:=bx hb;rw [ev,ev',Int.add_assoc,Int.add_assoc]
  cases op<;>first | (cases e;done) | skip
  ·cases e;rw [fg] at hq;exact jV (by rw [mq];exact hq)
  ·cases e;rw [fg] at hq;exact gb (by rw [mq];exact hq)
  ·cases e
   unfold leI at hq;rw [fg] at hq;exact jW (by rw [xO,mq];exact hq)
set_option tactic.hygienic true in
theorem zY {op:CmpOp}{u v:U}{a b:V}{t:Bool}(ha:VU S cx ρ u a) (hb:VU S cx ρ v b) (e:lv op u v=some t) (hq:Q (.bool t) H):T2 W d cs l H a b (compareOp op) Q:=by
 cases u<;>first | (cases e;done) | skip
 case int i =>
  refine cZ e fun j e1 e=>?_;rw [e1] at hb;rw [ao ha,ao hb];exact u0 e hq
 case str x =>
  refine ee e fun y e1 e=>?_;rw [e1] at hb;rw [ay ha,ay hb]
  cases op<;>first | (cases e;done) | skip
  ·cases e;rw [b9] at hq;exact vl (by rw [xC];exact hq)
  ·cases e;rw [b9] at hq;exact uU (by rw [xC];exact hq)
  ·exact Dp e hq
 case pos r i c=>exact zW ha hb e hq
 case ln k =>
  refine t9 e fun j e1 e=>?_;rw [e1] at hb;rw [cM ha,cM hb]
  cases op<;>first | (cases e;done) | skip
  cases e
  rw [fg] at hq;exact gb (by rw [mq];exact hq)
theorem uZ (D:Dcts S){u v:U}{a b:V}{t:Bool}(ha:VU S cx ρ u a) (hb:VU S cx ρ v b) (e:isU u v=some t):b=.none∧t=iE a:=by
 cases v
 case none =>
  have e:IF (om u) none (some (iF u))=some t:=e
  cases dg hb
  cases q:om u with
  | true=>rw [q] at e;cases e
  | false=>rw [q] at e;cases e;exact ⟨rfl,(um D ha q).symm⟩
 all_goals cases e
theorem T2_cmpU (D:Dcts S) (hI:Inv S cx H₀ ρ o H){op:CmpOp}{u v:U}{a b:V}{t:Bool}(ha:VU S cx ρ u a) (hb:VU S cx ρ v b) (e:sQ S.tb op u v o=some t) (hq:Q (.bool t) H):T2 W d cs l H a b (compareOp op) Q:=by
 cases op
 case In=>exact Do D hI ha hb e hq
 case NotIn =>
  have e':(wu S.tb u v o).map Bool.not=some t:=e;cb_eq;rcases Option.map_eq_some_iff.mp e' with ⟨t',e1,rfl⟩;by_in;exact zX ha hb e1 hq
 case Is=>obtain ⟨rfl,ht⟩:=uZ D ha hb (show isU u v=some t from e);exact ta (by rw [←ht];exact hq)
 case IsNot =>
  have e':(isU u v).map Bool.not=some t:=e;cb_eq;rcases Option.map_eq_some_iff.mp e' with ⟨t',e1,rfl⟩;rcases uZ D ha hb e1 with ⟨rfl,ht⟩;by_in;exact nZ (by rw [←ht];exact hq)
 all_goals exact zY ha hb e hq
end
end
end Mine
end
section
open PySem PySem.W PySem.Calls PyProof.Rows
noncomputable section
namespace Mine
section
variable (S:Sd) (cx:Cx) (X:Nat→Prop)
noncomputable def Ask (n:Nat):(U→O→Prop)→Rs→Prop:=@Nat.rec (fun ε =>(U→O→Prop)→Rs→Prop)
 (fun Q r=>@Rs.rec (fun ε =>Prop) Q X False (fun ε ε ε ε ε =>False) r)
 (fun n ihn Q r=>@Rs.rec (fun ε =>Prop) Q X False (fun f us o ε ih=>@Option.rec Rs (fun ε =>Prop) (ihn ih (bA S.tb cx S.ft f us o)) (fun r=>S.nd<n+1∧@Rs.rec (fun ε =>Prop) ih X False (fun ε ε ε ε ε =>False) r) (S.nat f us o)) r) n
noncomputable def cc (Q:U→O→Prop) (r:Rs):Prop:=@Rs.rec (fun ε =>Prop) Q X False (fun ε ε ε ε ε =>False) r
end
section
variable {S:Sd}{cx:Cx}{X:Nat→Prop}{n:Nat}{Q:U→O→Prop}
theorem Ask.ok {u:U}{o:O}(h:Ask S cx X n Q (.ok u o)):Q u o:=by cases n<;>exact h
theorem Ask.fail {k:Nat}(h:Ask S cx X n Q (.fail k)):X k:=by cases n<;>exact h
theorem Ask.out (h:Ask S cx X n Q .out):False:=by cases n<;>exact h
theorem Ask.call {f:Pth}{us:List U}{o:O}{k:U→O→Rs}(h:Ask S cx X n Q (.call f us o k)) :
  (∃ m,n=m+1∧S.nat f us o=none∧Ask S cx X m (fun u o=>Ask S cx X n Q (k u o)) (bA S.tb cx S.ft f us o))∨(∃ r,S.nat f us o=some r∧S.nd<n∧cc X (fun u o=>Ask S cx X n Q (k u o)) r):=by
 cases n with
 | zero=>exact h.elim
 | succ m =>
  have h':@Option.rec Rs (fun ε =>Prop) (Ask S cx X m (fun u o=>Ask S cx X (m+1) Q (k u o)) (bA S.tb cx S.ft f us o)) (fun r=>S.nd<m+1∧cc X (fun u o=>Ask S cx X (m+1) Q (k u o)) r) (S.nat f us o):=h
  cases q:S.nat f us o with
  | none=>rw [q] at h';exact .inl ⟨m,rfl,rfl,h'⟩
  | some r=>rw [q] at h';exact .inr ⟨r,rfl,h'.1,h'.2⟩
theorem Ask.oget {α : Type}{x:Option α}{k : α→Rs}(h:Ask S cx X n Q (oget x k)):∃ a,x=some a∧Ask S cx X n Q (k a):=by
 cases x with
 | none=>exact h.out.elim
 | some a=>exact ⟨a,rfl,h⟩
theorem Ask.IF {b:Bool}{r:Rs}(h:Ask S cx X n Q (IF b r .out)):b=true∧Ask S cx X n Q r:=by
 cases b with
 | false=>exact h.out.elim
 | true=>exact ⟨rfl,h⟩
theorem Ask.unb {b:Bool}{r:Rs}(h:Ask S cx X n Q (Mine.IF b .out r)):b=false∧Ask S cx X n Q r:=by
 cases b with
 | true=>exact h.out.elim
 | false=>exact ⟨rfl,h⟩
end
structure Gd (S:Sd):Prop extends Dcts S where
 attr:∀ c a,a∈fks c→qg S.W (S.cad c) (S.an a)
 sett:∀ c a,a∈fks c→kz S.W (S.cad c) (S.an a)
 anI:∀ c,∀ a∈fks c,∀ b∈fks c,S.an a=S.an b→a=b
 flen:∀ c,(fks c).length<1000
section
variable {S:Sd}{cx:Cx}{ρ : Rh}{H₀ H:MH}{o:O}
theorem l7 {k:Nat}{ks:List Nat}{v:U}{vs:List U}{a:Nat}:kj (k::ks) (v::vs) a=IF (Nat.beq k a) (some v) (kj ks vs a):=rfl
theorem i8 {a:Nat}{w:U}:∀ {ks:List Nat}{us:List U}{vs:List V},(∀ k∈ks,S.an k=S.an a→k=a)→kj ks us a=some w→VUs S cx ρ us vs →
  ∃ v,gK ((ks.take us.length).map S.an) vs (S.an a)=some v∧VU S cx ρ w v∧a∈ks
 | [],us,vs,_,e,_=>by cases e
 | k::ks,[],vs,_,e,_=>by cases e
 | k::ks,u::us,vs,inj,e,h=>by
  cb_eq;rcases ae h with ⟨v,r,rfl,h1,h2⟩;by_in;rw [l7] at e;rw [List.length_cons,List.take_succ_cons,List.map_cons];rw [l8]
  by_cases q:k=a
  ·subst q;rw [Nat.beq_refl] at e
   cases e
   rw [if_pos (by simp)];exact ⟨v,rfl,h1,.head _⟩
  ·rw [bW q] at e;rw [if_neg (fun z=>q (inj k (.head _) (eq_of_beq z)))];cb_eq;rcases i8 (fun k hk=>inj k (.tail _ hk)) e h2 with ⟨v',x,y,z⟩;by_in;exact ⟨v',x,y,.tail _ z⟩
theorem jN {a:Nat}{w:U}:∀ {ks:List Nat}{us:List U},kj ks us a=some w→a∈ks
 | [],us,e=>by cases e
 | k::ks,[],e=>by cases e
 | k::ks,u::us,e=>by
  rw [l7] at e
  by_cases q:k=a
  ·rw [q];exact .head _
  ·rw [bW q] at e;exact .tail _ (jN e)
theorem lK {a:Nat}{u:U}{v:V}{P:Rs→Prop}(hP:¬P .out) (vu:VU S cx ρ u v):∀ {ks:List Nat}{us:List U}{vs:List V}{k:List U→Rs},(∀ x∈ks,S.an x=S.an a→x=a)→us.length≤ks.length →
  P (iU ks us a u k)→VUs S cx ρ us vs→∃ us' vs',P (k us')∧dn ((ks.take us.length).map S.an) vs (S.an a) v=((ks.take us'.length).map S.an,vs')∧VUs S cx ρ us' vs'∧us'.length≤ks.length∧a∈ks
 | [],us,vs,k,_,_,e,_=>absurd e hP
 | x::ks,[],vs,k,inj,hn,e,h=>by
  have e':P (IF (Nat.beq x a) (k [u]) .out):=e
  by_cases q:x=a
  ·subst q;rw [Nat.beq_refl] at e';rw [am h];exact ⟨[u],[v],e',rfl,aq vu aH,by simp,.head _⟩
  ·rw [bW q] at e';exact absurd e' hP
 | x::ks,w::us,vs,k,inj,hn,e,h=>by
  cb_eq;rcases ae h with ⟨y,r,rfl,h1,h2⟩;by_in;have e':P (IF (Nat.beq x a) (k (u::us)) (iU ks us a u fun r'=>k (w::r'))):=e;rw [List.length_cons,List.take_succ_cons,List.map_cons];rw [tT]
  by_cases q:x=a
  ·subst q;rw [Nat.beq_refl] at e';rw [if_pos (by simp)];exact ⟨u::us,v::r,e',rfl,aq vu h2,hn,.head _⟩
  ·rw [bW q] at e';rw [if_neg (fun z=>q (inj x (.head _) (eq_of_beq z)))];cb_eq;rcases lK hP vu (fun k hk=>inj k (.tail _ hk)) (Nat.le_of_succ_le_succ hn) e' h2 with ⟨us',vs',a1,a2,a3,a4,a5⟩;by_in;refine ⟨w::us',y::vs',a1,?_,aq h1 a3,Nat.succ_le_succ a4,.tail _ a5⟩;rw [a2];rfl
theorem uf {c n:Nat}(h:n≤(fks c).length):(dK S c n).length=n:=by
 unfold dK;rw [List.length_map,List.length_take,Nat.min_eq_left h]
set_option tactic.hygienic true in
theorem y4 {c a:Nat}{u:U}{v:V}(h:VU S cx ρ u v):VU S cx ρ (sr cx c a u) v:=by
 cases u
 case pos r i j =>
  cases j with
  | ofNat n =>
   obtain ⟨hr,hi,e⟩:=bx h;exact oJ hr hi e h
  | negSucc n=>exact h
 case int i =>
  cases ao h
  show VU S cx ρ (IF (Nat.beq c 2) (IF (Nat.beq a 1) (.ln (Int.sub i (.ofNat cx.lam))) (IF (Nat.beq a 11) (IF (eqI i (.ofNat 0)) (.pos cx.T (Int.neg cx.off) (.ofNat 0)) (.int i)) (.int i))) (.int i)) _
  cases Nat.beq c 2
  ·exact h
  cases Nat.beq a 1
  ·cases Nat.beq a 11
   ·exact h
   cases q:eqI i (.ofNat 0)
   ·exact h
   rw [cI q];refine gC (List.suffix_refl _) (by show _=cx.off + -cx.off;unfold aT;rw [Nat.sub_self,Int.add_right_neg];rfl) ?_;show (0:Int)=cx.off + -cx.off+0;rw [Int.add_right_neg];rfl
  ·exact n8 ((Int.add_comm _ _).trans (Int.sub_add_cancel i _)).symm
 all_goals exact h
set_option tactic.hygienic true in
theorem mD {n:Nat}{X:Nat→Prop}{Q:U→O→Prop}(G:Gd S){a:Nat}{u v:U}{w:V}{x:V}{k:O→Rs}(hI:Inv S cx H₀ ρ o H) (hu:VU S cx ρ u w) (hv:VU S cx ρ v x) (h:Ask S cx X n Q (il cx a u v o k)) :
  ∃ y C ks vs o',w=.ref y∧H y=some (.inst C ks vs)∧kz S.W C (S.an a)∧ks.length<1000∧Inv S cx H₀ ρ o' (H.put y (.inst C (dn ks vs (S.an a) x).1 (dn ks vs (S.an a) x).2))∧Ask S cx X n Q (k o'):=by
 cases u
 case ref i =>
  cb_eq;rcases aC hu with ⟨y,hy,rfl⟩;by_in
  delta il at h
  dsimp only at h
  generalize hat:o.at i=m at h
  cases m
  case inst c us =>
   have hd:o.at i≠.dead:=by rw [hat];exact fun z=>nomatch z
   cb_eq;rcases hI.get hd hy with ⟨m,hm,mu,_⟩;by_in;rw [hat] at mu;cb_eq;rcases mu with ⟨vs,rfl,hn,hvs⟩;by_in;have hv':VU S cx ρ (IF (Nat.beq c 2) (sr cx c a v) v) x:=by
    cases Nat.beq c 2 with
    | true=>exact y4 hv
    | false=>exact hv
   by_cases ha:a∈fks c
   ·cb_eq;rcases lK (P:=fun r=>Ask S cx X n Q r) (fun z=>z.out) hv' (fun k hk=>G.anI c k hk a ha) hn h hvs with ⟨us',vs',a1,a2,a3,a4,a5⟩;by_in;refine ⟨y,_,_,_,_,rfl,hm,G.sett c a ha,by rw [uf hn];exact Nat.lt_of_le_of_lt hn (G.flen c),?_,a1⟩;have:dK S c us.length=((fks c).take us.length).map S.an:=rfl;rw [this,a2];exact hI.put hd hy ⟨vs',rfl,a4,a3⟩
   ·exfalso
    have:∀ (ks:List Nat) (us:List U) (k:List U→Rs),a∉ks→Ask S cx X n Q (iU ks us a (IF (Nat.beq c 2) (sr cx c a v) v) k)→False:=by
     intro ks
     induction ks with
     | nil=>intro us k _ h;exact h.out
     | cons x ks ih =>
      intro us k hx h;have hb:Nat.beq x a=false:=bW fun z=>hx (z▸.head _)
      cases us with
      | nil =>
       have h':Ask S cx X n Q (Mine.IF (Nat.beq x a) (k [_]) .out):=h;rw [hb] at h';exact h'.out
      | cons u us =>
       have h':Ask S cx X n Q (Mine.IF (Nat.beq x a) (k (_::us)) (iU ks us a _ fun r'=>k (u::r'))):=h;rw [hb] at h';exact ih _ _ (fun z=>hx (.tail _ z)) h'
    exact this _ _ _ ha h
  all_goals exact h.out.elim
 all_goals exact h.out.elim
set_option tactic.hygienic true in
theorem f4 (D:Dcts S){u:U}{v:V}(h:VU S cx ρ u v):iz v=true:=by
 cases u
 case none=>cases dg h;rfl
 case bool=>cases bR h;rfl
 case int=>cases ao h;rfl
 case str=>cases ay h;rfl
 case tup=>obtain ⟨_,rfl,_⟩:=bS h;rfl
 case lst=>obtain ⟨_,rfl,_⟩:=bH h;rfl
 case obj=>obtain ⟨_,rfl,_⟩:=eJ h;rfl
 case ref=>obtain ⟨_,_,rfl⟩:=aC h;rfl
 case txt=>cases cA h;rfl
 case pos=>obtain ⟨_,_,rfl⟩:=bx h;rfl
 case tlen=>cases iX h;rfl
 case any=>exact (gX h).1
 case ln=>cases cM h;rfl
 case dct g=>cases eM h;obtain ⟨ks,vs,e,_⟩:=D.dct g;rw [e];rfl
 case unb=>exact (jE h).elim
section
variable {d:Dx}{cs:Scope}{l:Loc}{Q:V→MH→Prop}
set_option tactic.hygienic true in
theorem rm (G:Gd S) (hI:Inv S cx H₀ ρ o H){a:Nat}{u w:U}{v:V}(hu:VU S cx ρ u v) (e:sH a u o=some w) (hq:∀ c,VU S cx ρ w c→Q c H) :
  T1 S.W d cs l H v (fun U=>getAttr U (Str.ofString (S.an a)) true) Q:=by
 cases u
 case obj c us =>
  cb_eq;rcases eJ hu with ⟨vs,rfl,hn,h1⟩;have ha:=jN e;rcases i8 (fun k hk=>G.anI c k hk a ha) e h1 with ⟨v,g,vw,_⟩;by_in;exact xi g (f4 G.toDcts vw) (G.attr c a ha) (hq v vw)
 case ref i =>
  cb_eq;rcases aC hu with ⟨y,hy,rfl⟩;by_in
  delta sH at e
  dsimp only at e
  generalize hat:o.at i=m at e
  cases m
  case inst c us =>
   obtain ⟨m,hm,mu,_⟩:=hI.get (by rw [hat];exact fun z=>nomatch z) hy;rw [hat] at mu;cb_eq;rcases mu with ⟨vs,rfl,hn,h1⟩;have ha:=jN e;rcases i8 (fun k hk=>G.anI c k hk a ha) e h1 with ⟨v,g,vw,_⟩;by_in;exact z9 hm g (f4 G.toDcts vw) (G.attr c a ha) (hq v vw)
  all_goals cases e
 all_goals cases e
theorem mM {us:List U}{vs:List V}{n:Nat}{w:U}(h:VUs S cx ρ us vs) (e:oj us n=some w):∃ v,vs[((n:Int)).toNat]? = some v∧VU S cx ρ w v∧(n:Int)<2 ^ 60:=by
 obtain ⟨hp,e⟩:=bF e;rw [iB] at e;obtain ⟨v,x,y⟩:=h.get e;have:=bQ hp;exact ⟨v,by simpa using x,y,by omega⟩
set_option tactic.hygienic true in
theorem xh (hI:Inv S cx H₀ ρ o H){e f:Expr}{u w:U}{a:V}{n:Nat}(hp:eg f=true) (ha:VU S cx ρ u a) (h:xJ u o n=some w) (hq:∀ c,VU S cx ρ w c→Q c H):T2 S.W d cs l H a (.int (Int.ofNat n)) (subscriptTail e f) Q:=by
 cases u<;>first | (cases h;done) | skip
 case str x =>
  rw [ay ha];refine ax h fun hs h=>?_;rw [iB] at h;obtain ⟨c,e1,e2⟩:=Option.map_eq_some_iff.mp h;refine kP (c:=c) hp (Int.natCast_nonneg _) (Int.ofNat_lt.mpr (Nat.lt_trans (bQ hs) (by decide))) ?_ (hq _ (e2▸cP));show x.toArray[(n:Int).toNat]? = some c
  simpa using e1
 case tup us =>
  cb_eq;rcases bS ha with ⟨vs,ev,h1⟩;rcases mM h1 h with ⟨v,x,y,z⟩;by_in;rw [ev];exact qn hp (Int.natCast_nonneg _) z x (hq v y)
 case lst us =>
  cb_eq;rcases bH ha with ⟨vs,ev,h1⟩;rcases mM h1 h with ⟨v,x,y,z⟩;by_in;rw [ev];exact cg hp (Int.natCast_nonneg _) z x (hq v y)
 case ref i =>
  obtain ⟨y,hy,ev⟩:=aC ha;refine lT h fun us hat h=>?_;obtain ⟨m,hm,mu,_⟩:=hI.get (by rw [hat];exact fun z=>nomatch z) hy;rw [hat] at mu;cb_eq;rcases mu with ⟨vs,em,h1⟩;rcases mM h1 h with ⟨v,x,y,z⟩;by_in;rw [em] at hm;rw [ev];exact dB hp hm (Int.natCast_nonneg _) z x (hq v y)
set_option tactic.hygienic true in
theorem zV (D:Dcts S) (hT:cx.T.length<60000) (hI:Inv S cx H₀ ρ o H){e f:Expr}{u v w:U}{a b:V}(hp:eg f=true) (ha:VU S cx ρ u a) (hb:VU S cx ρ v b) (h:vV S.tb u v o=some w) (hq:∀ c,VU S cx ρ w c→Q c H) :
  T2 S.W d cs l H a b (subscriptTail e f) Q:=by
 unfold vV at h
 split at h
 ·refine o3 h fun r j i e1 h=>o8 h fun n e2 h=>?_;rw [e1,e2] at hb;obtain ⟨c,e3,e4⟩:=Option.map_eq_some_iff.mp h;rw [iB] at e3;cb_eq;rcases bx hb with ⟨hr,hi,ev⟩;rcases List.getElem?_eq_some_iff.mp e3 with ⟨hn,_⟩;rcases hr with ⟨p,hp'⟩;by_in;have l1:cx.T.length=p.length+r.length:=by rw [←hp',List.length_append]
  have e0:aT cx.T r+Int.ofNat n=((p.length+n:Nat):Int):=by unfold aT;rw [l1,Nat.add_sub_cancel];rfl
  rw [cA ha,ev,←hi,e0];refine kP (c:=c) hp (Int.natCast_nonneg _) (Int.ofNat_lt.mpr (Nat.lt_trans (Nat.lt_of_lt_of_le (Nat.add_lt_add_left hn p.length) (l1▸Nat.le_refl _)) (Nat.lt_trans hT (by decide)))) ?_ (hq _ (e4▸cP));show cx.T.toArray[((p.length+n:Nat):Int).toNat]? = some c;rw [Int.toNat_natCast,List.getElem?_toArray,←hp',List.getElem?_append_right (Nat.le_add_right _ _),Nat.add_sub_cancel_left];exact e3
 ·rename_i g;refine ee h fun x e1 h=>?_;rw [e1] at hb;cb_eq;rcases D.dct g with ⟨ks,vs,e2,e3,e4⟩;by_in;rw [eM ha,ay hb,e2];rcases gx (x:=x) e3 (e4 cx ρ) with ⟨p,q⟩ | ⟨u,v,p,q,vw⟩
  ·rw [p] at h;cases h
  ·rw [p] at h;cases h;exact qo hp q (hq _ vw)
 ·refine cZ h fun i e1 h=>o8 h fun n e2 h=>?_;rw [e1,e2] at hb;rw [ao hb];exact xh hI hp ha h hq
end
end
end Mine
end
section
open PySem PySem.W PySem.Calls PyProof.Rows
noncomputable section
namespace Mine
noncomputable abbrev PE':=PySem.Expr
noncomputable def k1:PE'→PE'
 | .BinOp a _ _ _=>a
 | .UnaryOp _ a _=>a
 | .IfExp a _ _ _=>a
 | .Compare a _ _ _=>a
 | .Call a _ _ _=>a
 | .Attribute a _ _=>a
 | .Subscript a _ _=>a
 | .ListComp _ [⟨_,it,_,_⟩] _ _=>it
 | e=>e
noncomputable def k2:PE'→PE'
 | .BinOp _ _ b _=>b
 | .IfExp _ b _ _=>b
 | .Subscript _ b _=>b
 | e=>e
noncomputable def k3:PE'→PE'
 | .IfExp _ _ c _=>c
 | e=>e
noncomputable def kl:PE'→List PE'
 | .BoolOp _ es _=>es
 | .Compare _ _ es _=>es
 | .Call _ es _ _=>es
 | .List es _=>es
 | .Tuple es _ _=>es
 | _=>[]
noncomputable def kk:PE'→Nat
 | .Constant _ k _=>k
 | .Tuple _ k _=>k
 | _=>0
noncomputable def klo:PE'→PE'
 | .Slice (some a) _ _ _=>a
 | e=>e
noncomputable def khi:PE'→PE'
 | .Slice _ (some a) _ _=>a
 | e=>e
noncomputable def hdE:List PE'→PE'
 | e::_=>e
 | []=>.Constant .none 0 ⟨0,0,0,0⟩
noncomputable def tlE:List PE'→List PE'
 | _::r=>r
 | []=>[]
noncomputable def mm:Nat→Str
 | 60=>"append" | 61=>"pop" | 62=>"get" | 63=>"join" | 64=>"startswith" | _=>"lstrip"
noncomputable def biV:Nat→Value
 | 0=>.builtin "len" | 1=>.builtin "ord" | 2=>.builtin "chr" | 3=>.type "str" | 4=>.type "int" | 5=>.builtin "abs" | 6=>.builtin "max" | _=>.type "list"
noncomputable def sV:PE'→PE'
 | .ListComp e _ _ _=>e
 | e=>e
noncomputable def ej:PE'→Scope→Scope
 | .ListComp _ _ s _,_=>s
 | _,s=>s
noncomputable def sT:PE'→PE'
 | .ListComp _ [⟨t,_,_,_⟩] _ _=>t
 | e=>e
noncomputable def cIf:PE'→PE'
 | .ListComp _ [⟨_,_,[c],_⟩] _ _=>c
 | e=>e
noncomputable def lab:String:="label"
noncomputable def ke (i:Int) (E:PE'):PE':=.Subscript (.Name (Str.ofString lab) (k1 E).pos) (.Constant (.int i) (kk (k2 E)) (k2 E).pos) E.pos
structure FnI where
 cs:Scope
 nm:List String
 gl:List Nat
 fl:List Pth
 cl:List Nat
 bl:List Nat
 ex:Bool
 rg:Bool
section
variable (S:Sd) (I:FnI)
noncomputable def fnm (f:Pth):String:=@Option.rec Fn (fun ε =>String) "" (fun b=>b.nm) (S.ft.get f)
noncomputable def dNm (x:String) (E:PE'):PE':=.Name (Str.ofString x) E.pos
noncomputable def aG:XE→PE'→PE':=fun e=>@XE.rec (fun ε =>PE'→PE') (fun ε =>List PE'→List PE')
 (fun i E=>dNm (af "" I.nm i) E) (fun i E=>dNm (af "" I.nm i) E) (fun g E=>dNm (S.gn g) E)
 (fun E=>.Constant .none (kk E) E.pos) (fun b E=>.Constant (.bool b) (kk E) E.pos) (fun i E=>.Constant (.int i) (kk E) E.pos) (fun x E=>.Constant (.str (SS x)) (kk E) E.pos)
 (fun ε a e E=>.Attribute (e (k1 E)) (Str.ofString (S.an a)) E.pos)
 (fun op ε ε e f E=>.BinOp (e (k1 E)) op (f (k2 E)) E.pos) (fun op ε ε e f E=>.Compare (e (k1 E)) [op] [f (hdE (kl E))] E.pos)
 (fun op op' ε ε ε e f g E=>.Compare (e (k1 E)) [op,op'] [f (hdE (kl E)),g (hdE (tlE (kl E)))] E.pos)
 (fun ε es E=>.BoolOp .And (es (kl E)) E.pos) (fun ε es E=>.BoolOp .Or (es (kl E)) E.pos) (fun ε e E=>.UnaryOp .Not (e (k1 E)) E.pos) (fun ε e E=>.UnaryOp .USub (e (k1 E)) E.pos)
 (fun ε ε ε t e f E=>.IfExp (t (k1 E)) (e (k2 E)) (f (k3 E)) E.pos)
 (fun f ε es E=>.Call (dNm (fnm S f) (k1 E)) (es (kl E)) [] E.pos) (fun c ε es E=>.Call (dNm (S.cn c) (k1 E)) (es (kl E)) [] E.pos) (fun b ε es E=>.Call (dNm (S.bn b) (k1 E)) (es (kl E)) [] E.pos)
 (fun ε c f ε e es E=>.Call (.Attribute (e (k1 (k1 E))) (Str.ofString (fnm S f)) (k1 E).pos) (es (kl E)) [] E.pos)
 (fun ε a ε e es E=>.Call (.Attribute (e (k1 (k1 E))) (mm a) (k1 E).pos) (es (kl E)) [] E.pos)
 (fun ε ε e f E=>.Subscript (e (k1 E)) (f (k2 E)) E.pos)
 (fun ε ε ε e a b E=>.Subscript (e (k1 E)) (.Slice (some (a (klo (k2 E)))) (some (b (khi (k2 E)))) none (k2 E).pos) E.pos)
 (fun ε ε e a E=>.Subscript (e (k1 E)) (.Slice (some (a (klo (k2 E)))) none none (k2 E).pos) E.pos)
 (fun ε ε e b E=>.Subscript (e (k1 E)) (.Slice none (some (b (khi (k2 E)))) none (k2 E).pos) E.pos)
 (fun ε es E=>.List (es (kl E)) E.pos) (fun ε es E=>.List (es (kl E)) E.pos) (fun ε es E=>.Tuple (es (kl E)) (kk E) E.pos) (fun E=>.Dict [] [] E.pos)
 (fun ε e E=>.ListComp (ke 0 (sV E)) [⟨dNm lab (sT E),e (k1 E),[],0⟩] (ej E I.cs) E.pos)
 (fun ε e E=>.ListComp (ke 0 (sV E)) [⟨dNm lab (sT E),e (k1 E),[ke 1 (cIf E)],0⟩] (ej E I.cs) E.pos)
 (fun ε =>[]) (fun ε ε e es Es=>e (hdE Es)::es (tlE Es)) e
noncomputable def ba:XL→List PE'→List PE':=fun e=>@XL.rec (fun ε =>PE'→PE') (fun ε =>List PE'→List PE')
 (fun i E=>dNm (af "" I.nm i) E) (fun i E=>dNm (af "" I.nm i) E) (fun g E=>dNm (S.gn g) E)
 (fun E=>.Constant .none (kk E) E.pos) (fun b E=>.Constant (.bool b) (kk E) E.pos) (fun i E=>.Constant (.int i) (kk E) E.pos) (fun x E=>.Constant (.str (SS x)) (kk E) E.pos)
 (fun ε a e E=>.Attribute (e (k1 E)) (Str.ofString (S.an a)) E.pos)
 (fun op ε ε e f E=>.BinOp (e (k1 E)) op (f (k2 E)) E.pos) (fun op ε ε e f E=>.Compare (e (k1 E)) [op] [f (hdE (kl E))] E.pos)
 (fun op op' ε ε ε e f g E=>.Compare (e (k1 E)) [op,op'] [f (hdE (kl E)),g (hdE (tlE (kl E)))] E.pos)
 (fun ε es E=>.BoolOp .And (es (kl E)) E.pos) (fun ε es E=>.BoolOp .Or (es (kl E)) E.pos) (fun ε e E=>.UnaryOp .Not (e (k1 E)) E.pos) (fun ε e E=>.UnaryOp .USub (e (k1 E)) E.pos)
 (fun ε ε ε t e f E=>.IfExp (t (k1 E)) (e (k2 E)) (f (k3 E)) E.pos)
 (fun f ε es E=>.Call (dNm (fnm S f) (k1 E)) (es (kl E)) [] E.pos) (fun c ε es E=>.Call (dNm (S.cn c) (k1 E)) (es (kl E)) [] E.pos) (fun b ε es E=>.Call (dNm (S.bn b) (k1 E)) (es (kl E)) [] E.pos)
 (fun ε c f ε e es E=>.Call (.Attribute (e (k1 (k1 E))) (Str.ofString (fnm S f)) (k1 E).pos) (es (kl E)) [] E.pos)
 (fun ε a ε e es E=>.Call (.Attribute (e (k1 (k1 E))) (mm a) (k1 E).pos) (es (kl E)) [] E.pos)
 (fun ε ε e f E=>.Subscript (e (k1 E)) (f (k2 E)) E.pos)
 (fun ε ε ε e a b E=>.Subscript (e (k1 E)) (.Slice (some (a (klo (k2 E)))) (some (b (khi (k2 E)))) none (k2 E).pos) E.pos)
 (fun ε ε e a E=>.Subscript (e (k1 E)) (.Slice (some (a (klo (k2 E)))) none none (k2 E).pos) E.pos)
 (fun ε ε e b E=>.Subscript (e (k1 E)) (.Slice none (some (b (khi (k2 E)))) none (k2 E).pos) E.pos)
 (fun ε es E=>.List (es (kl E)) E.pos) (fun ε es E=>.List (es (kl E)) E.pos) (fun ε es E=>.Tuple (es (kl E)) (kk E) E.pos) (fun E=>.Dict [] [] E.pos)
 (fun ε e E=>.ListComp (ke 0 (sV E)) [⟨dNm lab (sT E),e (k1 E),[],0⟩] (ej E I.cs) E.pos)
 (fun ε e E=>.ListComp (ke 0 (sV E)) [⟨dNm lab (sT E),e (k1 E),[ke 1 (cIf E)],0⟩] (ej E I.cs) E.pos)
 (fun ε =>[]) (fun ε ε e es Es=>e (hdE Es)::es (tlE Es)) e
end
noncomputable def bo (l:List Nat) (n:Nat):Bool:=@List.rec Nat (fun ε =>Bool) false (fun m ε ih=>IF (Nat.beq m n) true ih) l
noncomputable def Pth.beq (a:Pth):Pth→Bool:=@Pth.rec (fun ε =>Pth→Bool) (fun b=>@Pth.rec (fun ε =>Bool) true (fun ε ε =>false) (fun ε ε =>false) b)
 (fun ε ih b=>@Pth.rec (fun ε =>Bool) false (fun b ε =>ih b) (fun ε ε =>false) b) (fun ε ih b=>@Pth.rec (fun ε =>Bool) false (fun ε ε =>false) (fun b ε =>ih b) b) a
noncomputable def jG (l:List Pth) (n:Pth):Bool:=@List.rec Pth (fun ε =>Bool) false (fun m ε ih=>IF (Pth.beq m n) true ih) l
noncomputable def bg (es:XL):Nat:=aF (xls es)
noncomputable def dw (es:XL):Bool:=match es with | .nil=>true | .cons _ _=>false
noncomputable def gZ (e:XE):Bool:=match e with
 | .call _ es=>!dw es
 | .new _ es=>!dw es
 | .bi _ es=>!dw es
 | _=>true
noncomputable def cY (e:XE):Bool:=match e with
 | .comp _=>false
 | .compIf _=>false
 | _=>true
noncomputable def jT (a n:Nat):Bool:=match a with
 | 60=>Nat.beq n 1 | 61=>Nat.beq n 0 | 62=>Nat.beq n 2 | 63=>Nat.beq n 1 | 64=>Nat.beq n 2 | 65=>Nat.beq n 1 | _=>false
noncomputable def ka (E:PE'):Bool:=(k1 E).pos.endLine==E.pos.line
noncomputable abbrev AND (a b:Bool):Bool:=IF a b false
section
variable (S:Sd) (mt:Nat→Pth→Bool) (I:FnI)
noncomputable def cr (f:Pth):Nat:=@Option.rec Fn (fun ε =>Nat) 0 (fun b=>b.ar) (S.ft.get f)
noncomputable def bU (i:Nat):Bool:=Nat.ble (Nat.succ i) (aF I.nm)
noncomputable def okE:XE→PE'→Bool:=fun e=>@XE.rec (fun ε =>PE'→Bool) (fun ε =>List PE'→Bool)
 (fun i ε =>bU I i) (fun i ε =>bU I i) (fun g ε =>bo I.gl g) (fun ε =>true) (fun ε ε =>true) (fun ε ε =>true) (fun ε ε =>true)
 (fun x a e E=>AND (gZ x) (e (k1 E)))
 (fun ε ε ε e f E=>AND (e (k1 E)) (f (k2 E))) (fun ε ε ε e f E=>AND (e (k1 E)) (f (hdE (kl E)))) (fun ε ε ε ε ε e f g E=>AND (e (k1 E)) (AND (f (hdE (kl E))) (g (hdE (tlE (kl E))))))
 (fun x es E=>AND (!dw x) (es (kl E))) (fun x es E=>AND (!dw x) (es (kl E))) (fun ε e E=>e (k1 E)) (fun ε e E=>e (k1 E))
 (fun ε ε ε t e f E=>AND (t (k1 E)) (AND (e (k2 E)) (f (k3 E))))
 (fun f x es E=>AND (jG I.fl f) (AND (Nat.beq (bg x) (cr S f)) (es (kl E))))
 (fun c x es E=>AND (bo I.cl c) (AND (Nat.beq (Nat.succ (bg x)) (cr S (S.ini c))) (es (kl E))))
 (fun b x es E=>AND (bo I.bl b) (AND (!dw x) (es (kl E))))
 (fun x c f y e es E=>AND (mt c f) (AND (Nat.beq (Nat.succ (bg y)) (cr S f)) (AND (gZ x) (AND (ka E) (AND (Nat.ble (bg y) 20) (AND (e (k1 (k1 E))) (es (kl E))))))))
 (fun x a y e es E=>AND (gZ x) (AND (ka E) (AND (jT a (bg y)) (AND (e (k1 (k1 E))) (es (kl E))))))
 (fun ε ε e f E=>AND (e (k1 E)) (f (k2 E)))
 (fun ε ε ε e a b E=>AND (e (k1 E)) (AND (a (klo (k2 E))) (b (khi (k2 E)))))
 (fun ε ε e a E=>AND (e (k1 E)) (a (klo (k2 E)))) (fun ε ε e a E=>AND (e (k1 E)) (a (khi (k2 E))))
 (fun x es E=>AND (Nat.ble (bg x) 1000) (es (kl E))) (fun x es E=>AND (Nat.ble (bg x) 1000) (es (kl E))) (fun x es E=>AND (Nat.ble (bg x) 1000) (es (kl E))) (fun ε =>true)
 (fun x e E=>AND (ch I.cs (ej E I.cs)) (e (k1 E))) (fun x e E=>AND (ch I.cs (ej E I.cs)) (e (k1 E))) (fun ε =>true) (fun ε ε e es Es=>AND (e (hdE Es)) (es (tlE Es))) e
noncomputable def okL:XL→List PE'→Bool:=fun e=>@XL.rec (fun ε =>PE'→Bool) (fun ε =>List PE'→Bool)
 (fun i ε =>bU I i) (fun i ε =>bU I i) (fun g ε =>bo I.gl g) (fun ε =>true) (fun ε ε =>true) (fun ε ε =>true) (fun ε ε =>true)
 (fun x a e E=>AND (gZ x) (e (k1 E)))
 (fun ε ε ε e f E=>AND (e (k1 E)) (f (k2 E))) (fun ε ε ε e f E=>AND (e (k1 E)) (f (hdE (kl E)))) (fun ε ε ε ε ε e f g E=>AND (e (k1 E)) (AND (f (hdE (kl E))) (g (hdE (tlE (kl E))))))
 (fun x es E=>AND (!dw x) (es (kl E))) (fun x es E=>AND (!dw x) (es (kl E))) (fun ε e E=>e (k1 E)) (fun ε e E=>e (k1 E))
 (fun ε ε ε t e f E=>AND (t (k1 E)) (AND (e (k2 E)) (f (k3 E))))
 (fun f x es E=>AND (jG I.fl f) (AND (Nat.beq (bg x) (cr S f)) (es (kl E))))
 (fun c x es E=>AND (bo I.cl c) (AND (Nat.beq (Nat.succ (bg x)) (cr S (S.ini c))) (es (kl E))))
 (fun b x es E=>AND (bo I.bl b) (AND (!dw x) (es (kl E))))
 (fun x c f y e es E=>AND (mt c f) (AND (Nat.beq (Nat.succ (bg y)) (cr S f)) (AND (gZ x) (AND (ka E) (AND (Nat.ble (bg y) 20) (AND (e (k1 (k1 E))) (es (kl E))))))))
 (fun x a y e es E=>AND (gZ x) (AND (ka E) (AND (jT a (bg y)) (AND (e (k1 (k1 E))) (es (kl E))))))
 (fun ε ε e f E=>AND (e (k1 E)) (f (k2 E)))
 (fun ε ε ε e a b E=>AND (e (k1 E)) (AND (a (klo (k2 E))) (b (khi (k2 E)))))
 (fun ε ε e a E=>AND (e (k1 E)) (a (klo (k2 E)))) (fun ε ε e a E=>AND (e (k1 E)) (a (khi (k2 E))))
 (fun x es E=>AND (Nat.ble (bg x) 1000) (es (kl E))) (fun x es E=>AND (Nat.ble (bg x) 1000) (es (kl E))) (fun x es E=>AND (Nat.ble (bg x) 1000) (es (kl E))) (fun ε =>true)
 (fun x e E=>AND (ch I.cs (ej E I.cs)) (e (k1 E))) (fun x e E=>AND (ch I.cs (ej E I.cs)) (e (k1 E))) (fun ε =>true) (fun ε ε e es Es=>AND (e (hdE Es)) (es (tlE Es))) e
end
theorem aa {a b:Bool}(h:AND a b=true):a=true∧b=true:=ai h
section
variable {S:Sd}{I:FnI}
theorem eF {E:PE'}:∀ {e:XE},aE (aG S I e E)=true:=by
 intro e;cases e<;>rfl
theorem bE:∀ {es:XL}{Es:List PE'},(ba S I es Es).all aE=true
 | .nil,_=>rfl
 | .cons e es,Es=>by
  show (aE (aG S I e (hdE Es))&&(ba S I es (tlE Es)).all aE)=true;rw [eF,bE];rfl
theorem dt:∀ {es:XL}{Es:List PE'},(ba S I es Es).length=bg es
 | .nil,_=>rfl
 | .cons e es,Es=>congrArg Nat.succ (dt (es:=es) (Es:=tlE Es))
theorem hO {op:CmpOp}{e:XE}{E:PE'}:behindInMarks op (aG S I e E)=false:=by cases e<;>rfl
theorem si {e:XE}{E:PE'}:eg (aG S I e E)=true:=by cases e<;>rfl
theorem fZ {e:XE}{E:PE'}{t:Option PE'}{n:Nat}{env:Env}(h:cY e=true):swapsWith (aG S I e E) t n env=pure false:=by
 cases e<;>first | rfl | cases h
theorem jb {e:XE}{E:PE'}{env:Env}{x:Value}:foldedSetIterable (aG S I e E) env x=pure x:=by cases e<;>rfl
set_option tactic.hygienic true in
theorem lz {e:XE}{E:PE'}{x:Str}{env:Env}(h:gZ e=true):attributeBase (aG S I e E) x env (eval (aG S I e E) env)=eval (aG S I e E) env:=by
 generalize eval (aG S I e E) env=w
 cases e
 case call f es=>cases es with
  | nil=>cases h
  | cons a b=>rfl
 case new c es=>cases es with
  | nil=>cases h
  | cons a b=>rfl
 case bi c es=>cases es with
  | nil=>cases h
  | cons a b=>rfl
 all_goals rfl
theorem oS:∀ {es:List PE'}{env:Env}{pos:Pos},es.all aE=true→(backTo pos (starEach es env)).all (!·.1)=true
 | [],_,_,_=>rfl
 | e::r,env,pos,h=>by
  obtain ⟨a,b⟩:=Bool.and_eq_true_iff.mp (List.all_cons▸h);rw [bw a];show (!false&&(backTo pos (starEach r env)).all (!·.1))=true;rw [oS b];rfl
noncomputable def sj (o:PE') (env:Env):Sem Bool:=do return (←importBound o env).getD true
theorem nT {o:PE'}{x:Str}{apos pos:Pos}{es:List PE'}(h1:∀ env,attributeBase o x env (eval o env)=eval o env) (h2:es.all aE=true) (h3:es.length<30) (h4:(apos.endLine==pos.line)=true) (env:Env) :
  eval (.Call (.Attribute o x apos) es [] pos) env=(do
   let ov ←eval o env
   standAt apos.atName
   let (f,first) ←holding [ov] (getMethod ov x (sj o env))
   callWith pos f first (backTo pos (starEach es env)) []):=by
 show (do
  let ov ←attributeBase o x env (eval o env)
  standAt apos.atName
  methodCall o x apos pos env ov (es.length+0) (backTo pos (starEach es env)) [])=_
 rw [h1];have hf:methodCallForm (es.length+0) (backTo pos (starEach es env)) []=true:=by
  unfold methodCallForm;rw [oS h2]
  simpa using h3
 have hm:∀ ov,methodCall o x apos pos env ov (es.length+0) (backTo pos (starEach es env)) []=(do
   let (f,first) ←holding [ov] (getMethod ov x (sj o env))
   callWith pos f first (backTo pos (starEach es env)) []):=fun ov=>by
  unfold methodCall;rw [hf];unfold methodCallPos;rw [h4];rfl
 simp only [hm]
end
end Mine
end
section
open PySem PySem.W PySem.Calls PyProof.Rows
noncomputable section
namespace Mine
theorem Ao {W:Wd}{d:Dx}{cs:Scope}{l:Loc}{H:MH}{op:CmpOp}{e f:PE'}{pos:Pos}{Q:V→MH→Prop}(hm:behindInMarks op f=false)
  (h:EV W d cs e l H fun a H₁=>EV W d cs f l H₁ fun b H₂=>T2 W d cs l H₂ a b (compareOp op) Q):EV W d cs (.Compare e [op] [f] pos) l H Q:=iP hm h
noncomputable def iZ:XB:=.cons (.asga (.loc 0) 0 (.loc 1)) (.cons (.asga (.loc 0) 1 (.loc 2)) (.cons (.asga (.loc 0) 2 (.loc 3)) (.cons (.asga (.loc 0) 3 .cnone) .nil)))
noncomputable def j5:XB:=.cons (.asga (.loc 0) 0 (.loc 1)) (.cons (.asga (.loc 0) 4 (.loc 2)) (.cons (.asga (.loc 0) 1 (.loc 3)) (.cons (.asga (.loc 0) 5 (.loc 4)) (.cons (.asga (.loc 0) 6 (.loc 5)) (.cons (.asga (.loc 0) 7 (.loc 6))
 (.cons (.asga (.loc 0) 8 (.cbool false)) (.cons (.asga (.loc 0) 9 (.cbool true)) .nil)))))))
structure Gf (S:Sd) (mt:Nat→Pth→Bool):Prop extends Gd S where
 node:∃ nm,S.ft.get (S.ini 0)=some ⟨nm,4,[],[],iZ⟩
 tok:∃ nm,S.ft.get (S.ini 1)=some ⟨nm,7,[],[],j5⟩
 xc:∃ fI ib isc,nl S.W fI ib isc
 inis:∀ c,S.tb.init (c+2)=S.ini (c+2)
 meth:∀ c f,mt c f=true→∃ b,S.ft.get f=some b∧vp S.W (S.cad c) b.nm (S.fad f)∧∀ a∈fks c,S.an a≠b.nm
structure bP (S:Sd) (I:FnI):Prop where
 nd:I.nm.Nodup
 kind:I.cs.kind=.function
 loc:∀ i,i<I.nm.length→I.cs.names.lookup (Str.ofString (af "" I.nm i))=some .local∧(Str.ofString (af "" I.nm i)==("__debug__" : Str))=false
 glob:∀ g,bo I.gl g=true→I.cs.names.lookup (Str.ofString (S.gn g))=some .globalImplicit∧(Str.ofString (S.gn g)==("__debug__" : Str))=false ∧
  ∃ U v,S.W.mg (Str.ofString (S.gn g))=some U∧VR S.W.w.params (fun a o=>S.W.K.lookup a=some o) v U∧∀ cx ρ,VU S cx ρ (af .unb S.tb.consts g) v
 fn:∀ f,jG I.fl f=true→∃ b,S.ft.get f=some b∧I.cs.names.lookup (Str.ofString b.nm)=some .globalImplicit∧S.W.mg (Str.ofString b.nm)=some (.ref (S.fad f))∧(Str.ofString b.nm==("__debug__" : Str))=false∧keepIn S.W.K (.ref (S.fad f))=true
 cls:∀ c,bo I.cl c=true→I.cs.names.lookup (Str.ofString (S.cn c))=some .globalImplicit∧S.W.mg (Str.ofString (S.cn c))=some (.ref (S.cad c))∧(Str.ofString (S.cn c)==("__debug__" : Str))=false ∧
  keepIn S.W.K (.ref (S.cad c))=true∧qe S.W (S.cad c) (S.fad (S.ini c))∧∃ b,S.ft.get (S.ini c)=some b
 bi:∀ b,bo I.bl b=true→fA S.W I.cs (Str.ofString (S.bn b)) (biV b)
 exc:I.ex=true→I.cs.names.lookup (Str.ofString "SyntaxFail")=some .globalImplicit∧S.W.mg (Str.ofString "SyntaxFail")=some (.ref S.W.xc)∧(Str.ofString "SyntaxFail" == ("__debug__" : Str))=false∧keepIn S.W.K (.ref S.W.xc)=true
 rng:I.rg=true→fA S.W I.cs (Str.ofString "range") (.type "range")
section
variable (S:Sd) (cx:Cx) (X:Nat→Prop) (XX:Nat→MH→Prop) (I:FnI) (n dd:Nat)
noncomputable def XOK (H₀:MH):Prop:=∀ k H',X k→(∀ b x,H₀ b=some x→H' b=some x)→XX (cx.lam+k) H'
inductive PV (H₀:MH) (ρ : Rh) (l:Loc) (G:U→Lc→O→Prop) (v:V) (H':MH):Prop
 | mk (u:U) (L':Lc) (o':O) (ρ':Rh) (le:Rle ρ ρ') (vu:VU S cx ρ' u v) (hI:Inv S cx H₀ ρ' o' H') (hL:bu S cx ρ' I.nm L' l) (g:G u L' o'):PV H₀ ρ l G v H'
inductive PB (H₀:MH) (ρ : Rh) (l:Loc) (G:Bool→Lc→O→Prop) (b:Bool) (H':MH):Prop
 | mk (L':Lc) (o':O) (ρ':Rh) (le:Rle ρ ρ') (hI:Inv S cx H₀ ρ' o' H') (hL:bu S cx ρ' I.nm L' l) (g:G b L' o'):PB H₀ ρ l G b H'
inductive PVs (H₀:MH) (ρ : Rh) (l:Loc) (m:Nat) (G:List U→Lc→O→Prop) (vs:List V) (H':MH):Prop
 | mk (us:List U) (L':Lc) (o':O) (ρ':Rh) (len:us.length=m) (le:Rle ρ ρ') (vu:VUs S cx ρ' us vs) (hI:Inv S cx H₀ ρ' o' H') (hL:bu S cx ρ' I.nm L' l) (g:G us L' o'):PVs H₀ ρ l m G vs H'
noncomputable def al (s:SE) (E:PE'):Prop:=∀ (H₀:MH) (ρ : Rh) (L:Lc) (o:O) (H:MH) (l:Loc) (Q:U→O→Prop) (k:K),XOK cx X XX H₀→Inv S cx H₀ ρ o H→bu S cx ρ I.nm L l →
 Ask S cx X n Q (s L o k)→EV S.W ⟨dd,XX⟩ I.cs E l H (PV S cx I H₀ ρ l fun u L' o'=>Ask S cx X n Q (k u L' o'))
noncomputable def cu (s:SE) (E:PE'):Prop:=∀ (H₀:MH) (ρ : Rh) (L:Lc) (o:O) (H:MH) (l:Loc) (Q:U→O→Prop) (t f:K0),XOK cx X XX H₀→Inv S cx H₀ ρ o H→bu S cx ρ I.nm L l →
 Ask S cx X n Q (s L o fun u L o=>truth u (t L o) (f L o))→ET S.W ⟨dd,XX⟩ I.cs E l H (PB S cx I H₀ ρ l fun b L' o'=>Ask S cx X n Q (IF b (t L' o') (f L' o')))
noncomputable def dD (s:SL) (Es:List PE'):Prop:=∀ (H₀:MH) (ρ : Rh) (L:Lc) (o:O) (H:MH) (l:Loc) (Q:U→O→Prop) (k:KL),XOK cx X XX H₀→Inv S cx H₀ ρ o H→bu S cx ρ I.nm L l →
 Ask S cx X n Q (s.args L o k)→EA S.W ⟨dd,XX⟩ I.cs Es l H (PVs S cx I H₀ ρ l Es.length fun us L' o'=>Ask S cx X n Q (k us L' o'))
inductive PC (H₀:MH) (ρ : Rh) (Q:U→O→Prop) (v:V) (H':MH):Prop
 | mk (u:U) (o':O) (ρ':Rh) (le:Rle ρ ρ') (vu:VU S cx ρ' u v) (hI:Inv S cx H₀ ρ' o' H') (q:Q u o'):PC H₀ ρ Q v H'
noncomputable def nE (m:Nat) (f:Pth) (b:Fn):Prop:=∀ (H₀:MH) (ρ : Rh) (us:List U) (vs:List V) (o:O) (H:MH) (l:Loc) (Q:U→O→Prop),XOK cx X XX H₀→Inv S cx H₀ ρ o H→VUs S cx ρ us vs→us.length=b.ar →
 Ask S cx X m Q (bA S.tb cx S.ft f us o)→CL S.W ⟨dd,XX⟩ l H (S.fad f) vs (PC S cx H₀ ρ Q)
noncomputable def vE (m:Nat):Prop:=∀ f b,S.ft.get f=some b→nE S cx X XX dd m f b
noncomputable def jq:Prop:=∀ f b,S.ft.get f=some b→∀ (H₀:MH) (ρ : Rh) (us:List U) (vs:List V) (o:O) (H:MH) (l:Loc) (Q:U→O→Prop) (k:U→O→Rs),XOK cx X XX H₀→Inv S cx H₀ ρ o H→VUs S cx ρ us vs→us.length=b.ar →
 Ask S cx X n Q (.call f us o k)→CL S.W ⟨dd,XX⟩ l H (S.fad f) vs (PC S cx H₀ ρ fun u o=>Ask S cx X n Q (k u o))
noncomputable def ig:Prop:=∀ f b,S.ft.get f=some b→∀ (H₀:MH) (ρ : Rh) (us:List U) (vs:List V) (o:O) (H:MH) (l:Loc) (Q:U→O→Prop) (r:Rs),XOK cx X XX H₀→Inv S cx H₀ ρ o H→VUs S cx ρ us vs→us.length=b.ar →
 S.nat f us o=some r→cc X Q r→CL S.W ⟨dd,XX⟩ l H (S.fad f) vs (PC S cx H₀ ρ Q)
noncomputable def iN:Prop:=∀ c b,c<2→S.ft.get (S.ini c)=some b→nE S cx X XX dd 0 (S.ini c) b
end
section
variable {S:Sd}{cx:Cx}{I:FnI}{H₀:MH}{ρ ρ':Rh}{l:Loc}{H':MH}{P:Prop}
theorem PV.el {G:U→Lc→O→Prop}{v:V}(h:PV S cx I H₀ ρ l G v H') (k:∀ u L' o' ρ',Rle ρ ρ'→VU S cx ρ' u v→Inv S cx H₀ ρ' o' H'→bu S cx ρ' I.nm L' l→G u L' o'→P):P:=h.rec k
theorem PB.el {G:Bool→Lc→O→Prop}{b:Bool}(h:PB S cx I H₀ ρ l G b H') (k:∀ L' o' ρ',Rle ρ ρ'→Inv S cx H₀ ρ' o' H'→bu S cx ρ' I.nm L' l→G b L' o'→P):P:=h.rec k
theorem PVs.el {m:Nat}{G:List U→Lc→O→Prop}{vs:List V}(h:PVs S cx I H₀ ρ l m G vs H') (k:∀ us L' o' ρ',us.length=m→Rle ρ ρ'→VUs S cx ρ' us vs→Inv S cx H₀ ρ' o' H'→bu S cx ρ' I.nm L' l→G us L' o'→P):P:=h.rec k
theorem PC.el {Q:U→O→Prop}{v:V}(h:PC S cx H₀ ρ Q v H') (k:∀ u o' ρ',Rle ρ ρ'→VU S cx ρ' u v→Inv S cx H₀ ρ' o' H'→Q u o'→P):P:=h.rec k
theorem PV.up {G:U→Lc→O→Prop}{v:V}(le:Rle ρ ρ') (h:PV S cx I H₀ ρ' l G v H'):PV S cx I H₀ ρ l G v H':=h.el fun u L o r a b c d e=>⟨u,L,o,r,le.trans a,b,c,d,e⟩
theorem PB.up {G:Bool→Lc→O→Prop}{b:Bool}(le:Rle ρ ρ') (h:PB S cx I H₀ ρ' l G b H'):PB S cx I H₀ ρ l G b H':=h.el fun L o r a c d e=>⟨L,o,r,le.trans a,c,d,e⟩
end
theorem ET.mono {W:Wd}{d:Dx}{cs:Scope}{l:Loc}{H:MH}{e:PE'}{Q Q':Bool→MH→Prop}(h:ET W d cs e l H Q) (k:∀ v H',Q v H'→Q' v H'):ET W d cs e l H Q' :=
 Box.mk fun C news ow s Qr hc ho hs hk=>h.go C news ow s Qr hc ho hs fun v H' news' ow' s' a b c q=>hk v H' news' ow' s' a b c (k v H' q)
theorem CL.mono {W:Wd}{d:Dx}{l:Loc}{H:MH}{f:Addr}{vs:List V}{Q Q':V→MH→Prop}(h:CL W d l H f vs Q) (k:∀ v H',Q v H'→Q' v H'):CL W d l H f vs Q' :=
 Box.mk fun C news ow s A R Us ho hs vr a b c e hr hk=>h.go C news ow s A R Us ho hs vr a b c e hr fun v U H' n' o' s' a b c dd q=>hk v U H' n' o' s' a b c dd (k v H' q)
section
variable {S:Sd}{cx:Cx}{X:Nat→Prop}{XX:Nat→MH→Prop}{I:FnI}{n dd:Nat}{mt:Nat→Pth→Bool}
set_option tactic.hygienic true in
theorem Ask.truth {Q:U→O→Prop}{u:U}{t f:Rs}(h:Ask S cx X n Q (truth u t f)):∃ b,u=.bool b∧Ask S cx X n Q (Mine.IF b t f):=by
 cases u
 case bool b=>exact ⟨b,rfl,h⟩
 all_goals exact h.out.elim
theorem Cz (Z:bP S I){i:Nat}(hi:i<I.nm.length){pos:Pos}:al S cx X XX I n dd (rS i) (.Name (Str.ofString (af "" I.nm i)) pos):=fun H₀ ρ L o H l Q k hx hI hL h=>by
 obtain ⟨hu,h⟩:=h.unb;obtain ⟨v,hv,vu⟩:=hL.get i _ rfl (fun e=>by rw [e] at hu;exact nomatch hu);exact aj hv ⟨_,L,o,ρ,Rle.refl _,vu,hI,hL,h⟩ (Z.loc i hi).1 (Z.loc i hi).2
set_option tactic.hygienic true in
theorem CE (Z:bP S I){i:Nat}(hi:i<I.nm.length){pos:Pos}:al S cx X XX I n dd (rV i) (.Name (Str.ofString (af "" I.nm i)) pos):=fun H₀ ρ L o H l Q k hx hI hL h=>by
 delta rV at h
 generalize e:af .unb L i=q at h
 cases q
 case ref a =>
  cases a with
  | o _=>exact h.out.elim
  | t j =>
  cb_eq;rcases hL.get i _ e (fun z=>nomatch z) with ⟨v,hv,vu⟩;rcases aC vu with ⟨x,hr,rfl⟩;by_in
  dsimp only at h
  generalize hat:o.tmp.get j=m at h
  cases m
  case lst us =>
   have hd:o.at (.t j)≠.dead:=by show o.tmp.get j≠_;rw [hat];exact fun z=>nomatch z
   cb_eq;rcases hI.get hd hr with ⟨m,hm,mu,_⟩;by_in;rw [show o.at (.t j)=.lst us from hat] at mu;cb_eq;rcases mu with ⟨vs,rfl,h1⟩;by_in;exact jY (aj hv ⟨x,_,rfl,hm,_,_,_,ρ,Rle.refl _,fX h1,hI.tdel hd hr,hL.unset,h⟩ (Z.loc i hi).1 (Z.loc i hi).2)
  case inst c us =>
   have hd:o.at (.t j)≠.dead:=by show o.tmp.get j≠_;rw [hat];exact fun z=>nomatch z
   cb_eq;rcases hI.get hd hr with ⟨m,hm,mu,_⟩;by_in;rw [show o.at (.t j)=.inst c us from hat] at mu;cb_eq;rcases mu with ⟨vs,rfl,hn,h1⟩;by_in;exact jY (aj hv ⟨x,_,rfl,hm,_,_,_,ρ,Rle.refl _,(show VU S cx ρ (.obj c us) (.obj (S.cad c) (dK S c us.length) vs) from Exists.intro vs ⟨rfl,hn,h1⟩),hI.tdel hd hr,hL.unset,h⟩ (Z.loc i hi).1 (Z.loc i hi).2)
  all_goals exact h.out.elim
 all_goals exact h.out.elim
theorem zw (Z:bP S I){g:Nat}(hg:bo I.gl g=true){pos:Pos}:al S cx X XX I n dd (rU S.tb g) (.Name (Str.ofString (S.gn g)) pos):=fun H₀ ρ L o H l Q k hx hI hL h=>by
 cb_eq;rcases h.unb with ⟨hu,h⟩;rcases Z.glob g hg with ⟨h1,h2,U,v,h3,h4,h5⟩;by_in;exact An h1 h3 h2 h4 ⟨_,L,o,ρ,Rle.refl _,h5 cx ρ,hI,hL,h⟩
theorem zq {kx:Nat}{pos:Pos}:al S cx X XX I n dd rP (.Constant .none kx pos):=fun H₀ ρ L o H l Q k hx hI hL h=>Ak ⟨_,L,o,ρ,Rle.refl _,j0,hI,hL,h⟩
theorem zB {b:Bool}{kx:Nat}{pos:Pos}:al S cx X XX I n dd (rZ b) (.Constant (.bool b) kx pos):=fun H₀ ρ L o H l Q k hx hI hL h=>Aq ⟨_,L,o,ρ,Rle.refl _,eD,hI,hL,h⟩
theorem CA {i:Int}{kx:Nat}{pos:Pos}:al S cx X XX I n dd (wi i) (.Constant (.int i) kx pos):=fun H₀ ρ L o H l Q k hx hI hL h=>aL ⟨_,L,o,ρ,Rle.refl _,bM rfl,hI,hL,h⟩
theorem Cq {x:List Nat}{kx:Nat}{pos:Pos}:al S cx X XX I n dd (wb x) (.Constant (.str (SS x)) kx pos):=fun H₀ ρ L o H l Q k hx hI hL h=>vD ⟨_,L,o,ρ,Rle.refl _,cP,hI,hL,h⟩
theorem zC (G:Gd S){a:Nat}{s:SE}{E:PE'}{pos:Pos}(he:al S cx X XX I n dd s E) (hb:∀ env,attributeBase E (Str.ofString (S.an a)) env (eval E env)=eval E env):al S cx X XX I n dd (sb a s) (.Attribute E (Str.ofString (S.an a)) pos) :=
 fun H₀ ρ L o H l Q k hx hI hL h=>Ar hb (EV.mono (he H₀ ρ L o H l Q _ hx hI hL h) fun v H₁ q_=>q_.el fun u L₁ o₁ ρ₁ le₁ vu hI₁ hL₁ h₁ =>
  let ⟨w,hw,h₂⟩:=h₁.oget
  rm G hI₁ vu hw fun c vc=>⟨w,L₁,o₁,ρ₁,le₁,vc,hI₁,hL₁,h₂⟩)
theorem CG {op:Operator}{s t:SE}{E F:PE'}{pos:Pos}(he:al S cx X XX I n dd s E) (hf:al S cx X XX I n dd t F):al S cx X XX I n dd (wj op s t) (.BinOp E op F pos) :=
 fun H₀ ρ L o H l Q k hx hI hL h=>aK (EV.mono (he H₀ ρ L o H l Q _ hx hI hL h) fun v H₁ q_=>q_.el fun u L₁ o₁ ρ₁ le₁ vu hI₁ hL₁ h₁=>EV.mono (hf H₀ ρ₁ L₁ o₁ H₁ l Q _ hx hI₁ hL₁ h₁) fun v' H₂ q_=>q_.el fun u' L₂ o₂ ρ₂ le₂ vu' hI₂ hL₂ h₂ =>
  let ⟨w,hw,h₃⟩:=h₂.oget
  zZ (vu.mono le₂) vu' hw fun c vc=>⟨w,L₂,o₂,ρ₂,le₁.trans le₂,vc,hI₂,hL₂,h₃⟩)
theorem CF (D:Dcts S){op:CmpOp}{s t:SE}{E F:PE'}{pos:Pos}(he:al S cx X XX I n dd s E) (hf:al S cx X XX I n dd t F) (hm:behindInMarks op F=false):al S cx X XX I n dd (rX S.tb op s t) (.Compare E [op] [F] pos) :=
 fun H₀ ρ L o H l Q k hx hI hL h=>Ao hm (EV.mono (he H₀ ρ L o H l Q _ hx hI hL h) fun v H₁ q_=>q_.el fun u L₁ o₁ ρ₁ le₁ vu hI₁ hL₁ h₁=>EV.mono (hf H₀ ρ₁ L₁ o₁ H₁ l Q _ hx hI₁ hL₁ h₁) fun v' H₂ q_=>q_.el fun u' L₂ o₂ ρ₂ le₂ vu' hI₂ hL₂ h₂ =>
  let ⟨w,hw,h₃⟩:=h₂.oget
  T2_cmpU D hI₂ (vu.mono le₂) vu' hw ⟨_,L₂,o₂,ρ₂,le₁.trans le₂,eD,hI₂,hL₂,h₃⟩)
theorem CK (D:Dcts S){op:CmpOp}{s t:SE}{E F:PE'}{pos:Pos}(he:al S cx X XX I n dd s E) (hf:al S cx X XX I n dd t F) (hm:behindInMarks op F=false):cu S cx X XX I n dd (rX S.tb op s t) (.Compare E [op] [F] pos) :=
 fun H₀ ρ L o H l Q t f hx hI hL h=>iQ hm (EV.mono (he H₀ ρ L o H l Q _ hx hI hL h) fun v H₁ q_=>q_.el fun u L₁ o₁ ρ₁ le₁ vu hI₁ hL₁ h₁=>EV.mono (hf H₀ ρ₁ L₁ o₁ H₁ l Q _ hx hI₁ hL₁ h₁) fun v' H₂ q_=>q_.el fun u' L₂ o₂ ρ₂ le₂ vu' hI₂ hL₂ h₂ =>
  let ⟨w,hw,h₃⟩:=h₂.oget
  T2_cmpU D hI₂ (vu.mono le₂) vu' hw ⟨w,rfl,L₂,o₂,ρ₂,le₁.trans le₂,hI₂,hL₂,h₃⟩)
theorem zy (D:Dcts S){op op':CmpOp}{s t r:SE}{E F R:PE'}{pos:Pos}(he:al S cx X XX I n dd s E) (hf:al S cx X XX I n dd t F) (hr:al S cx X XX I n dd r R) (hm:lastMarks [op,op'] [F,R]=false):al S cx X XX I n dd (oi S.tb op op' s t r) (.Compare E [op,op'] [F,R] pos) :=
 fun H₀ ρ L o H l Q k hx hI hL h=>Ap hm (EV.mono (he H₀ ρ L o H l Q _ hx hI hL h) fun v H₁ q_=>q_.el fun u L₁ o₁ ρ₁ le₁ vu hI₁ hL₁ h₁=>EV.mono (hf H₀ ρ₁ L₁ o₁ H₁ l Q _ hx hI₁ hL₁ h₁) fun v' H₂ q_=>q_.el fun u' L₂ o₂ ρ₂ le₂ vu' hI₂ hL₂ h₂=>by
  obtain ⟨w,hw,h₃⟩:=h₂.oget;refine T2_cmpU D hI₂ (vu.mono le₂) vu' hw ⟨w,rfl,?_⟩
  cases w with
  | true=>exact EV.mono (hr H₀ ρ₂ L₂ o₂ H₂ l Q _ hx hI₂ hL₂ h₃) fun v'' H₃ q_=>q_.el fun u'' L₃ o₃ ρ₃ le₃ vu'' hI₃ hL₃ h₄ =>
    let ⟨w',hw',h₅⟩:=h₄.oget
    T2_cmpU D hI₃ (vu'.mono le₃) vu'' hw' ⟨_,L₃,o₃,ρ₃,le₁.trans (le₂.trans le₃),eD,hI₃,hL₃,h₅⟩
  | false=>exact ⟨_,L₂,o₂,ρ₂,le₁.trans le₂,eD,hI₂,hL₂,h₃⟩)
theorem zD (D:Dcts S){op op':CmpOp}{s t r:SE}{E F R:PE'}{pos:Pos}(he:al S cx X XX I n dd s E) (hf:al S cx X XX I n dd t F) (hr:al S cx X XX I n dd r R) (hm:lastMarks [op,op'] [F,R]=false):cu S cx X XX I n dd (oi S.tb op op' s t r) (.Compare E [op,op'] [F,R] pos) :=
 fun H₀ ρ L o H l Q ε ε hx hI hL h=>As hm (EV.mono (he H₀ ρ L o H l Q _ hx hI hL h) fun v H₁ q_=>q_.el fun u L₁ o₁ ρ₁ le₁ vu hI₁ hL₁ h₁=>EV.mono (hf H₀ ρ₁ L₁ o₁ H₁ l Q _ hx hI₁ hL₁ h₁) fun v' H₂ q_=>q_.el fun u' L₂ o₂ ρ₂ le₂ vu' hI₂ hL₂ h₂=>by
  obtain ⟨w,hw,h₃⟩:=h₂.oget;refine T2_cmpU D hI₂ (vu.mono le₂) vu' hw ⟨w,rfl,?_⟩
  cases w with
  | true=>exact EV.mono (hr H₀ ρ₂ L₂ o₂ H₂ l Q _ hx hI₂ hL₂ h₃) fun v'' H₃ q_=>q_.el fun u'' L₃ o₃ ρ₃ le₃ vu'' hI₃ hL₃ h₄ =>
    let ⟨w',hw',h₅⟩:=h₄.oget
    T2_cmpU D hI₃ (vu'.mono le₃) vu'' hw' ⟨w',rfl,L₃,o₃,ρ₃,le₁.trans (le₂.trans le₃),hI₃,hL₃,h₅⟩
  | false=>exact ⟨L₂,o₂,ρ₂,le₁.trans le₂,hI₂,hL₂,h₃⟩)
set_option tactic.hygienic true in
theorem Cv {s:SE}{E:PE'}{pos:Pos}(he:al S cx X XX I n dd s E):al S cx X XX I n dd (rO s) (.UnaryOp .Not E pos) :=
 fun H₀ ρ L o H l Q k hx hI hL h=>DC (EV.mono (he H₀ ρ L o H l Q _ hx hI hL h) fun v H₁ q_=>q_.el fun u L₁ o₁ ρ₁ le₁ vu hI₁ hL₁ h₁=>by
  cases u
  case bool b=>cases bR vu;exact ⟨b,rfl,_,L₁,o₁,ρ₁,le₁,eD,hI₁,hL₁,h₁⟩
  all_goals exact h₁.out.elim)
set_option tactic.hygienic true in
theorem tZ {t f:K0}:(fun (u:U) (L:Lc) (o:O)=>(match u with | .bool b=>(fun u L o=>truth u (t L o) (f L o)) (U.bool (Bool.not b)) L o | _=>Rs.out))=fun u L o=>truth u (f L o) (t L o):=by
 funext u L o
 cases u
 case bool b=>cases b<;>rfl
 all_goals rfl
theorem CI {s:SE}{E:PE'}{pos:Pos}(he:cu S cx X XX I n dd s E):cu S cx X XX I n dd (rO s) (.UnaryOp .Not E pos):=fun H₀ ρ L o H l Q t f hx hI hL h=>by
 have h':Ask S cx X n Q (s L o fun u L o=>truth u (f L o) (t L o)):=by rw [←tZ];exact h
 exact qd (ET.mono (he H₀ ρ L o H l Q f t hx hI hL h') fun b H₁ q_=>q_.el fun L₁ o₁ ρ₁ le₁ hI₁ hL₁ h₁=>⟨L₁,o₁,ρ₁,le₁,hI₁,hL₁,by cases b<;>exact h₁⟩)
set_option tactic.hygienic true in
theorem Cw {s:SE}{E:PE'}{pos:Pos}(he:al S cx X XX I n dd s E):al S cx X XX I n dd (wg s) (.UnaryOp .USub E pos) :=
 fun H₀ ρ L o H l Q k hx hI hL h=>Aj (EV.mono (he H₀ ρ L o H l Q _ hx hI hL h) fun v H₁ q_=>q_.el fun u L₁ o₁ ρ₁ le₁ vu hI₁ hL₁ h₁=>by
  cases u
  case int i=>cases ao vu;exact ⟨i,rfl,_,L₁,o₁,ρ₁,le₁,bM rfl,hI₁,hL₁,h₁⟩
  all_goals exact h₁.out.elim)
theorem CB {s t r:SE}{E F R:PE'}{pos:Pos}(he:cu S cx X XX I n dd s E) (hf:al S cx X XX I n dd t F) (hr:al S cx X XX I n dd r R):al S cx X XX I n dd (rT s t r) (.IfExp E F R pos) :=
 fun H₀ ρ L o H l Q k hx hI hL h=>tt (ET.mono (he H₀ ρ L o H l Q _ _ hx hI hL h) fun b H₁ q_=>q_.el fun L₁ o₁ ρ₁ le₁ hI₁ hL₁ h₁=>by
  cases b with
  | true=>exact EV.mono (hf H₀ ρ₁ L₁ o₁ H₁ l Q _ hx hI₁ hL₁ h₁) fun v H₂ q=>PV.up le₁ q
  | false=>exact EV.mono (hr H₀ ρ₁ L₁ o₁ H₁ l Q _ hx hI₁ hL₁ h₁) fun v H₂ q=>PV.up le₁ q)
theorem CJ {s t r:SE}{E F R:PE'}{pos:Pos}(he:cu S cx X XX I n dd s E) (hf:cu S cx X XX I n dd t F) (hr:cu S cx X XX I n dd r R):cu S cx X XX I n dd (rT s t r) (.IfExp E F R pos) :=
 fun H₀ ρ L o H l Q ε ε hx hI hL h=>EO (ET.mono (he H₀ ρ L o H l Q _ _ hx hI hL h) fun b H₁ q_=>q_.el fun L₁ o₁ ρ₁ le₁ hI₁ hL₁ h₁=>by
  cases b with
  | true=>exact ET.mono (hf H₀ ρ₁ L₁ o₁ H₁ l Q _ _ hx hI₁ hL₁ h₁) fun v H₂ q=>PB.up le₁ q
  | false=>exact ET.mono (hr H₀ ρ₁ L₁ o₁ H₁ l Q _ _ hx hI₁ hL₁ h₁) fun v H₂ q=>PB.up le₁ q)
theorem CH {s:SE}{E:PE'}(he:al S cx X XX I n dd s E) (hv:∀ env whole,isTrue E env whole=(do let v ←whole;standAt E.pos;holding [v] (truthy v))):cu S cx X XX I n dd s E :=
 fun H₀ ρ L o H l Q t f hx hI hL h=>my hv (EV.mono (he H₀ ρ L o H l Q _ hx hI hL h) fun v H₁ q_=>q_.el fun u L₁ o₁ ρ₁ le₁ vu hI₁ hL₁ h₁ =>
  let ⟨b,e,h₂⟩:=h₁.truth
  ⟨b,by rw [e] at vu;exact bR vu,L₁,o₁,ρ₁,le₁,hI₁,hL₁,h₂⟩)
theorem uH:dD S cx X XX I n dd ll []:=fun H₀ ρ L o H l Q k hx hI hL h=>aB ⟨[],L,o,ρ,rfl,Rle.refl _,aH,hI,hL,h⟩
theorem rc {s:SE}{r:SL}{E:PE'}{Es:List PE'}(hp:aE E=true) (he:al S cx X XX I n dd s E) (hr:dD S cx X XX I n dd r Es):dD S cx X XX I n dd (gw s r) (E::Es) :=
 fun H₀ ρ L o H l Q k hx hI hL h=>ah hp (EV.mono (he H₀ ρ L o H l Q _ hx hI hL h) fun v H₁ q_=>q_.el fun u L₁ o₁ ρ₁ le₁ vu hI₁ hL₁ h₁=>EA.mono (hr H₀ ρ₁ L₁ o₁ H₁ l Q _ hx hI₁ hL₁ h₁) fun vs H₂ q_=>q_.el fun us L₂ o₂ ρ₂ hn le₂ vus hI₂ hL₂ h₂ =>
  ⟨u::us,L₂,o₂,ρ₂,congrArg Nat.succ hn,le₁.trans le₂,aq (vu.mono le₂) vus,hI₂,hL₂,h₂⟩)
theorem zS {s:SE}{E:PE'}{pos:Pos}(he:al S cx X XX I n dd s E):al S cx X XX I n dd (gw s ll).and (.BoolOp .And [E] pos) :=
 fun H₀ ρ L o H l Q k hx hI hL h=>nD (EV.mono (he H₀ ρ L o H l Q _ hx hI hL h) fun v H₁ q_=>q_.el fun u L₁ o₁ ρ₁ le₁ vu hI₁ hL₁ h₁=>by
  cb_eq;rcases h₁.truth with ⟨b,rfl,h₂⟩;by_in;exact ⟨_,L₁,o₁,ρ₁,le₁,vu,hI₁,hL₁,by cases b<;>exact h₂⟩)
theorem B1 {s:SE}{E:PE'}{pos:Pos}(he:al S cx X XX I n dd s E):al S cx X XX I n dd (gw s ll).or (.BoolOp .Or [E] pos) :=
 fun H₀ ρ L o H l Q k hx hI hL h=>nD (EV.mono (he H₀ ρ L o H l Q _ hx hI hL h) fun v H₁ q_=>q_.el fun u L₁ o₁ ρ₁ le₁ vu hI₁ hL₁ h₁=>by
  cb_eq;rcases h₁.truth with ⟨b,rfl,h₂⟩;by_in;exact ⟨_,L₁,o₁,ρ₁,le₁,vu,hI₁,hL₁,by cases b<;>exact h₂⟩)
theorem xe {s:SE}{r:SL}{E F:PE'}{Es:List PE'}{pos:Pos}(he:al S cx X XX I n dd s E) (hr:al S cx X XX I n dd r.and (.BoolOp .And (F::Es) pos)):al S cx X XX I n dd (gw s r).and (.BoolOp .And (E::F::Es) pos) :=
 fun H₀ ρ L o H l Q k hx hI hL h=>rt (EV.mono (he H₀ ρ L o H l Q _ hx hI hL h) fun v H₁ q_=>q_.el fun u L₁ o₁ ρ₁ le₁ vu hI₁ hL₁ h₁=>by
  cb_eq;rcases h₁.truth with ⟨b,rfl,h₂⟩;by_in;refine ⟨b,bR vu,?_⟩
  cases b with
  | true=>exact EV.mono (hr H₀ ρ₁ L₁ o₁ H₁ l Q _ hx hI₁ hL₁ h₂) fun v H₂ q=>PV.up le₁ q
  | false=>exact ⟨_,L₁,o₁,ρ₁,le₁,eD,hI₁,hL₁,h₂⟩)
theorem y0 {s:SE}{r:SL}{E F:PE'}{Es:List PE'}{pos:Pos}(he:al S cx X XX I n dd s E) (hr:al S cx X XX I n dd r.or (.BoolOp .Or (F::Es) pos)):al S cx X XX I n dd (gw s r).or (.BoolOp .Or (E::F::Es) pos) :=
 fun H₀ ρ L o H l Q k hx hI hL h=>DD (EV.mono (he H₀ ρ L o H l Q _ hx hI hL h) fun v H₁ q_=>q_.el fun u L₁ o₁ ρ₁ le₁ vu hI₁ hL₁ h₁=>by
  cb_eq;rcases h₁.truth with ⟨b,rfl,h₂⟩;by_in;refine ⟨b,bR vu,?_⟩
  cases b with
  | false=>exact EV.mono (hr H₀ ρ₁ L₁ o₁ H₁ l Q _ hx hI₁ hL₁ h₂) fun v H₂ q=>PV.up le₁ q
  | true=>exact ⟨_,L₁,o₁,ρ₁,le₁,eD,hI₁,hL₁,h₂⟩)
theorem uE {pos:Pos}:cu S cx X XX I n dd ll.and (.BoolOp .And [] pos):=fun H₀ ρ L o H l Q t f hx hI hL h=>tv ⟨L,o,ρ,Rle.refl _,hI,hL,h⟩
theorem wR {pos:Pos}:cu S cx X XX I n dd ll.or (.BoolOp .Or [] pos):=fun H₀ ρ L o H l Q t f hx hI hL h=>nW ⟨L,o,ρ,Rle.refl _,hI,hL,h⟩
theorem sM {s:SE}{r:SL}{E:PE'}{Es:List PE'}{pos:Pos}(he:cu S cx X XX I n dd s E) (hr:cu S cx X XX I n dd r.and (.BoolOp .And Es pos)):cu S cx X XX I n dd (gw s r).and (.BoolOp .And (E::Es) pos) :=
 fun H₀ ρ L o H l Q t f hx hI hL h=>DE (ET.mono (he H₀ ρ L o H l Q _ _ hx hI hL h) fun b H₁ q_=>q_.el fun L₁ o₁ ρ₁ le₁ hI₁ hL₁ h₁=>by
  cases b with
  | true=>exact ET.mono (hr H₀ ρ₁ L₁ o₁ H₁ l Q t f hx hI₁ hL₁ h₁) fun v H₂ q=>PB.up le₁ q
  | false=>exact ⟨L₁,o₁,ρ₁,le₁,hI₁,hL₁,h₁⟩)
theorem uC {s:SE}{r:SL}{E:PE'}{Es:List PE'}{pos:Pos}(he:cu S cx X XX I n dd s E) (hr:cu S cx X XX I n dd r.or (.BoolOp .Or Es pos)):cu S cx X XX I n dd (gw s r).or (.BoolOp .Or (E::Es) pos) :=
 fun H₀ ρ L o H l Q t f hx hI hL h=>tu (ET.mono (he H₀ ρ L o H l Q _ _ hx hI hL h) fun b H₁ q_=>q_.el fun L₁ o₁ ρ₁ le₁ hI₁ hL₁ h₁=>by
  cases b with
  | false=>exact ET.mono (hr H₀ ρ₁ L₁ o₁ H₁ l Q t f hx hI₁ hL₁ h₁) fun v H₂ q=>PB.up le₁ q
  | true=>exact ⟨L₁,o₁,ρ₁,le₁,hI₁,hL₁,h₁⟩)
end
end Mine
end
section
open PySem PySem.W PySem.Calls PyProof.Rows
noncomputable section
namespace Mine
section
variable {S:Sd}{cx:Cx}{o:O}
theorem rj {n:Nat}{b b':MOb}:∀ {t:TL}{lo:Nat},TL.Ok lo n t→(t.app n b).set n b'=t.app n b'
 | .nil,_,_=>by show IF (Nat.beq n n) _ _=_;rw [Nat.beq_refl];rfl
 | .cons j c r,lo,h=>by
  rw [TL.app_cons,TL.set_cons,bW (Nat.ne_of_lt h.2.le)];exact congrArg (TL.cons j c) (rj h.2)
theorem rk {n:Nat}{b:MOb}:∀ {t:TL}{lo:Nat},TL.Ok lo n t→(t.app n b).del n=t
 | .nil,_,_=>by show IF (Nat.beq n n) _ _=_;rw [Nat.beq_refl]
 | .cons j c r,lo,h=>by
  rw [TL.app_cons,TL.del_cons,bW (Nat.ne_of_lt h.2.le)];exact congrArg (TL.cons j c) (rk h.2)
theorem vP (h:TL.Ok 0 o.nt o.tmp){b b':MOb}:(o.tnew b).put (.t o.nt) b'=o.tnew b':=by
 show (⟨o.objs,o.nt+1,(o.tmp.app o.nt b).set o.nt b'⟩:O)=⟨o.objs,o.nt+1,o.tmp.app o.nt b'⟩;rw [rj h]
theorem qz (h:TL.Ok 0 o.nt o.tmp){b:MOb}:(o.tnew b).at (.t o.nt)=b:=ge h
theorem tJ (h:TL.Ok 0 o.nt o.tmp){b:MOb}:(o.tnew b).tdel o.nt=⟨o.objs,Nat.succ o.nt,o.tmp⟩:=by
 show (⟨o.objs,o.nt+1,(o.tmp.app o.nt b).del o.nt⟩:O)=_;rw [rk h]
theorem tU (h:TL.Ok 0 o.nt o.tmp){a c:Nat}{v:U}{us:List U}{k:O→Rs}(hc:Nat.beq c 2=false) :
  il cx a (.ref (.t o.nt)) v (o.tnew (.inst c us)) k=iU (fks c) us a v fun us'=>k (o.tnew (.inst c us')):=by
 unfold il
 dsimp only
 rw [qz h]
 dsimp only
 rw [hc]
 congr 1
 funext us'
 rw [vP h]
theorem bJ {tb:Tb}(h:TL.Ok 0 o.nt o.tmp){a c:Nat}{v:XE}{w:U}{us us':List U}{L:Lc}{r:XB}{kn kb kc:K0}(h0:af .unb L 0=.ref (.t o.nt)) (hv:∀ o' k,sem tb v L o' k=k w L o') (hc:Nat.beq c 2=false)
  (hs:∀ k:List U→Rs,iU (fks c) us a w k=k us'):exec tb cx (.cons (.asga (.loc 0) a v) r) L (o.tnew (.inst c us)) kn kb kc=exec tb cx r L (o.tnew (.inst c us')) kn kb kc:=by
 show sem tb v L (o.tnew (.inst c us)) (fun u L o₁=>rS 0 L o₁ fun w L o₁=>il cx a w u o₁ fun o=>exec tb cx r L o kn kb kc)=_;rw [hv];show IF (cG (af .unb L 0)) .out (il cx a (af .unb L 0) w (o.tnew (.inst c us)) fun o=>exec tb cx r L o kn kb kc)=_;rw [h0];show il cx a (.ref (.t o.nt)) w (o.tnew (.inst c us)) (fun o=>exec tb cx r L o kn kb kc)=_;rw [tU h hc,hs]
theorem de {tb:Tb}{j:Nat}{L:Lc}{w:U}(hj:af .unb L j=w) (hw:cG w=false) (o':O) (k:K):sem tb (.loc j) L o' k=k w L o':=by
 show IF (cG (af .unb L j)) .out (k (af .unb L j) L o')=_;rw [hj,hw]
theorem wv {tb:Tb}{a b d:U}(ha:cG a=false) (hb:cG b=false) (hd:cG d=false) (h:TL.Ok 0 o.nt o.tmp){kn kb kc:K0} :
  exec tb cx iZ [.ref (.t o.nt),a,b,d] (o.tnew (.inst 0 [])) kn kb kc=kn [.ref (.t o.nt),a,b,d] (o.tnew (.inst 0 [a,b,d,.none])):=by
 unfold iZ;rw [bJ (us':=[a]) (w:=a) h rfl (de (w:=a) rfl ha) rfl (fun k=>rfl),bJ (us':=[a,b]) (w:=b) h rfl (de (w:=b) rfl hb) rfl (fun k=>rfl),bJ (us':=[a,b,d]) (w:=d) h rfl (de (w:=d) rfl hd) rfl (fun k=>rfl),
  bJ (us':=[a,b,d,.none]) (w:=.none) h rfl (fun o k=>rfl) rfl (fun k=>rfl)]
 rfl
theorem yk {tb:Tb}{a b d e f g:U}(ha:cG a=false) (hb:cG b=false) (hd:cG d=false) (he:cG e=false) (hf:cG f=false) (hg:cG g=false) (h:TL.Ok 0 o.nt o.tmp){kn kb kc:K0} :
  exec tb cx j5 [.ref (.t o.nt),a,b,d,e,f,g] (o.tnew (.inst 1 [])) kn kb kc=kn [.ref (.t o.nt),a,b,d,e,f,g] (o.tnew (.inst 1 [a,b,d,e,f,g,.bool false,.bool true])):=by
 unfold j5;rw [bJ (us':=[a]) (w:=a) h rfl (de (w:=a) rfl ha) rfl (fun k=>rfl),bJ (us':=[a,b]) (w:=b) h rfl (de (w:=b) rfl hb) rfl (fun k=>rfl),bJ (us':=[a,b,d]) (w:=d) h rfl (de (w:=d) rfl hd) rfl (fun k=>rfl),
  bJ (us':=[a,b,d,e]) (w:=e) h rfl (de (w:=e) rfl he) rfl (fun k=>rfl),bJ (us':=[a,b,d,e,f]) (w:=f) h rfl (de (w:=f) rfl hf) rfl (fun k=>rfl),bJ (us':=[a,b,d,e,f,g]) (w:=g) h rfl (de (w:=g) rfl hg) rfl (fun k=>rfl),
  bJ (us':=[a,b,d,e,f,g,.bool false]) (w:=.bool false) h rfl (fun o k=>rfl) rfl (fun k=>rfl),bJ (us':=[a,b,d,e,f,g,.bool false,.bool true]) (w:=.bool true) h rfl (fun o k=>rfl) rfl (fun k=>rfl)]
 rfl
end
section
variable {S:Sd}{cx:Cx}{X:Nat→Prop}{XX:Nat→MH→Prop}{I:FnI}{n dd:Nat}{mt:Nat→Pth→Bool}
theorem dJ {ρ : Rh}{u:U}{v:V}(h:VU S cx ρ u v):cG u=false:=by
 cases u
 case unb=>exact (jE h).elim
 all_goals rfl
theorem Cy {r:SL}{Es:List PE'}{pos:Pos}(hn:Es.length<1000000) (hr:dD S cx X XX I n dd r Es):al S cx X XX I n dd (wh r) (.List Es pos) :=
 fun H₀ ρ L o H l Q k hx hI hL h=>fR (EA.mono (hr H₀ ρ L o H l Q _ hx hI hL h) fun vs H₁ q_=>q_.el fun us L₁ o₁ ρ₁ hm le₁ vus hI₁ hL₁ h₁ =>
  ⟨by rw [←vus.length,hm];exact hn,_,L₁,o₁,ρ₁,le₁,fX vus,hI₁,hL₁,h₁⟩)
theorem Co {r:SL}{Es:List PE'}{kx:Nat}{pos:Pos}(hn:Es.length<1000000) (hr:dD S cx X XX I n dd r Es):al S cx X XX I n dd (v9 r) (.Tuple Es kx pos) :=
 fun H₀ ρ L o H l Q k hx hI hL h=>fQ (EA.mono (hr H₀ ρ L o H l Q _ hx hI hL h) fun vs H₁ q_=>q_.el fun us L₁ o₁ ρ₁ hm le₁ vus hI₁ hL₁ h₁ =>
  ⟨by rw [←vus.length,hm];exact hn,_,L₁,o₁,ρ₁,le₁,AJ vus,hI₁,hL₁,h₁⟩)
theorem zv {r:SL}{Es:List PE'}{pos:Pos}(hn:Es.length<1000000) (hr:dD S cx X XX I n dd r Es):al S cx X XX I n dd (rR r) (.List Es pos) :=
 fun H₀ ρ L o H l Q k hx hI hL h=>qa (EA.mono (hr H₀ ρ L o H l Q _ hx hI hL h) fun vs H₁ q_=>q_.el fun us L₁ o₁ ρ₁ hm le₁ vus hI₁ hL₁ h₁ =>
  ⟨by rw [←vus.length,hm];exact hn,fun a ha =>
   let ⟨hI₂,le₂,e⟩:=hI₁.tnew (b:=.lst us) (m:=.list vs) ha ⟨vs,rfl,vus⟩
   ⟨_,L₁,_,_,le₁.trans le₂,dp e,hI₂,hL₁.mono le₂,h₁⟩⟩)
theorem zx {pos:Pos}:al S cx X XX I n dd rW (.Dict [] [] pos) :=
 fun H₀ ρ L o H l Q k hx hI hL h=>xu fun a ha =>
  let ⟨hI₂,le₂,e⟩:=hI.tnew (b:=.dic [] []) (m:=.dic [] []) ha ⟨[],rfl,aH⟩
  ⟨_,L,_,_,le₂,dp e,hI₂,hL.mono le₂,h⟩
theorem Cp (D:Dcts S) (hT:cx.T.length<60000){s t:SE}{E F:PE'}{pos:Pos}(he:al S cx X XX I n dd s E) (hf:al S cx X XX I n dd t F) (hp:eg F=true):al S cx X XX I n dd (wa S.tb s t) (.Subscript E F pos) :=
 fun H₀ ρ L o H l Q k hx hI hL h=>dl (EV.mono (he H₀ ρ L o H l Q _ hx hI hL h) fun v H₁ q_=>q_.el fun u L₁ o₁ ρ₁ le₁ vu hI₁ hL₁ h₁=>EV.mono (hf H₀ ρ₁ L₁ o₁ H₁ l Q _ hx hI₁ hL₁ h₁) fun v' H₂ q_=>q_.el fun u' L₂ o₂ ρ₂ le₂ vu' hI₂ hL₂ h₂ =>
  let ⟨w,hw,h₃⟩:=h₂.oget
  zV D hT hI₂ hp (vu.mono le₂) vu' hw fun c vc=>⟨w,L₂,o₂,ρ₂,le₁.trans le₂,vc,hI₂,hL₂,h₃⟩)
set_option tactic.hygienic true in
theorem Bp {ρ : Rh}{u a b w:U}{va vb vc:V}(hT:cx.T.length<60000) (h1:VU S cx ρ u va) (h2:VU S cx ρ a vb) (h3:VU S cx ρ b vc) (e:Bq u a b=some w) :
  ∃ x i j,va=.str x∧vb=.int i∧vc=.int j∧x.length≤sizeLine∧VU S cx ρ w (.str (Txt.slice x (some i) (some j))):=by
 have e0:=e
 clear e
 cases u
 case txt =>
  cases cA h1
  cases a
  case pos r i z =>
   cases z with
   | negSucc _=>cases e0
   | ofNat z =>
   cases z with
   | succ _=>cases e0
   | zero =>
   cb_eq;rcases bx h2 with ⟨hr,hi,rfl⟩;by_in
   cases b
   case pos s j o =>
    cb_eq;rcases bx h3 with ⟨hs,hj,rfl⟩;by_in;have e:(match Int.sub (Int.add j o) i with | .ofNat n=>some (U.str (r.take n)) | _=>none)=some w:=e0
    generalize hk:Int.sub (Int.add j o) i=q at e
    cases q with
    | ofNat k =>
     cases e
     refine ⟨_,_,_,rfl,rfl,rfl,?_,?_⟩
     ·show cx.T.toArray.size≤sizeLine;rw [sizeLine_eq];simp;omega
     ·have e1:cx.off+i+Int.ofNat 0=aT cx.T r:=by rw [hi];simp
      have e2:cx.off+j+o=aT cx.T r+(k:Int):=by
       have hk':j+o - i=(k:Int):=hk;rw [hi];omega
      rw [e1,e2,vZ hr];exact cP
    | negSucc _=>cases e
   all_goals cases e0
  all_goals cases e0
 all_goals cases e0
theorem Cu (hT:cx.T.length<60000){s t r:SE}{E F R:PE'}{sp pos:Pos}(he:al S cx X XX I n dd s E) (hf:al S cx X XX I n dd t F) (hr:al S cx X XX I n dd r R):al S cx X XX I n dd (wf s t r) (.Subscript E (.Slice (some F) (some R) none sp) pos) :=
 fun H₀ ρ L o H l Q k hx hI hL h=>qs (EV.mono (he H₀ ρ L o H l Q _ hx hI hL h) fun v H₁ q_=>q_.el fun u L₁ o₁ ρ₁ le₁ vu hI₁ hL₁ h₁=>EV.mono (hf H₀ ρ₁ L₁ o₁ H₁ l Q _ hx hI₁ hL₁ h₁) fun v' H₂ q_=>q_.el fun u' L₂ o₂ ρ₂ le₂ vu' hI₂ hL₂ h₂ =>
  EV.mono (hr H₀ ρ₂ L₂ o₂ H₂ l Q _ hx hI₂ hL₂ h₂) fun v'' H₃ q_=>q_.el fun u'' L₃ o₃ ρ₃ le₃ vu'' hI₃ hL₃ h₃ =>
  have ⟨w,hw,h₄⟩:=h₃.oget
  (Bp hT (vu.mono (le₂.trans le₃)) (vu'.mono le₃) vu'' hw).elim fun x q=>q.elim fun i q=>q.elim fun j q=>q.elim fun e1 q=>q.elim fun e2 q=>q.elim fun e3 q=>q.elim fun e4 e5 =>
  ⟨x,i,j,e1,e2,e3,e4,w,L₃,o₃,ρ₃,le₁.trans (le₂.trans le₃),e5,hI₃,hL₃,h₄⟩)
set_option tactic.hygienic true in
theorem Cs {s t:SE}{E F:PE'}{sp pos:Pos}(he:al S cx X XX I n dd s E) (hf:al S cx X XX I n dd t F):al S cx X XX I n dd (we s t) (.Subscript E (.Slice (some F) none none sp) pos) :=
 fun H₀ ρ L o H l Q k hx hI hL h=>tr (EV.mono (he H₀ ρ L o H l Q _ hx hI hL h) fun v H₁ q_=>q_.el fun u L₁ o₁ ρ₁ le₁ vu hI₁ hL₁ h₁=>EV.mono (hf H₀ ρ₁ L₁ o₁ H₁ l Q _ hx hI₁ hL₁ h₁) fun v' H₂ q_=>q_.el fun u' L₂ o₂ ρ₂ le₂ vu' hI₂ hL₂ h₂=>by
  obtain ⟨w,hw,h₃⟩:=h₂.oget
  cases u
  case str x =>
   cases ay vu
   cases u'
   case int z =>
    cases z with
    | negSucc _=>cases hw
    | ofNat z =>
    cases ao vu'
    obtain ⟨hs,hw⟩:=bF hw;obtain ⟨hs',hw⟩:=bF hw
    cases hw
    have:=bQ hs;have h5:=Nat.le_of_ble_eq_true hs';rw [aA] at this h5;exact ⟨_,_,rfl,rfl,this,h5,_,L₂,o₂,ρ₂,le₁.trans le₂,cP,hI₂,hL₂,h₃⟩
   all_goals cases hw
  all_goals cases hw)
set_option tactic.hygienic true in
theorem Cr {s t:SE}{E F:PE'}{sp pos:Pos}(he:al S cx X XX I n dd s E) (hf:al S cx X XX I n dd t F):al S cx X XX I n dd (wc s t) (.Subscript E (.Slice none (some F) none sp) pos) :=
 fun H₀ ρ L o H l Q k hx hI hL h=>tq (EV.mono (he H₀ ρ L o H l Q _ hx hI hL h) fun v H₁ q_=>q_.el fun u L₁ o₁ ρ₁ le₁ vu hI₁ hL₁ h₁=>EV.mono (hf H₀ ρ₁ L₁ o₁ H₁ l Q _ hx hI₁ hL₁ h₁) fun v' H₂ q_=>q_.el fun u' L₂ o₂ ρ₂ le₂ vu' hI₂ hL₂ h₂=>by
  obtain ⟨w,hw,h₃⟩:=h₂.oget
  cases u
  case str x =>
   cases ay vu
   cases u'
   case int z =>
    cases z with
    | negSucc _=>cases hw
    | ofNat z =>
    cases ao vu'
    obtain ⟨hs,hw⟩:=bF hw
    cases hw
    have:=bQ hs;rw [aA] at this;exact ⟨_,_,rfl,rfl,this,_,L₂,o₂,ρ₂,le₁.trans le₂,cP,hI₂,hL₂,h₃⟩
   all_goals cases hw
  all_goals cases hw)
theorem zA (Z:bP S I) (hC:jq S cx X XX n dd){f:Pth}(hf:jG I.fl f=true){r:SL}{Es:List PE'}{np pos:Pos}(hp:Es.all aE=true) (hn:Es.length=cr S f) (hr:dD S cx X XX I n dd r Es) :
  al S cx X XX I n dd (rY f r) (.Call (.Name (Str.ofString (fnm S f)) np) Es [] pos):=fun H₀ ρ L o H l Q k hx hI hL h=>by
 cb_eq;rcases Z.fn f hf with ⟨b,g1,g2,g3,g4,g5⟩;by_in;have hb:fnm S f=b.nm:=by unfold fnm;rw [g1]
 have har:cr S f=b.ar:=by unfold cr;rw [g1]
 rw [hb];refine aO g2 g3 g4 g5 hp (EA.mono (hr H₀ ρ L o H l Q _ hx hI hL h) fun vs H₁ q_=>q_.el fun us L₁ o₁ ρ₁ hm le₁ vus hI₁ hL₁ h₁=>?_);exact aS (CL.mono (hC f b g1 H₀ ρ₁ us vs o₁ H₁ l _ _ hx hI₁ vus (by rw [hm,hn,har]) h₁) fun v H₂ q_=>q_.el fun u o₂ ρ₂ le₂ vu hI₂ h₃=>⟨u,L₁,o₂,ρ₂,le₁.trans le₂,vu,hI₂,hL₁.mono le₂,h₃⟩)
set_option tactic.hygienic true in
theorem zu (F:Gf S mt) (hC:jq S cx X XX n dd){c:Nat}{f:Pth}(hf:mt c f=true){s:SE}{r:SL}{E:PE'}{Es:List PE'}{ap pos:Pos}(hp:Es.all aE=true) (hn:Es.length+1=cr S f) (h3:Es.length<30)
  (h1:∀ x env,attributeBase E x env (eval E env)=eval E env) (h4:(ap.endLine==pos.line)=true) (he:al S cx X XX I n dd s E) (hr:dD S cx X XX I n dd r Es) :
  al S cx X XX I n dd (rQ c f s r) (.Call (.Attribute E (Str.ofString (fnm S f)) ap) Es [] pos):=fun H₀ ρ L o H l Q k hx hI hL h=>by
 cb_eq;rcases F.meth c f hf with ⟨b,g1,g2,g3⟩;by_in;have hb:fnm S f=b.nm:=by unfold fnm;rw [g1]
 have har:cr S f=b.ar:=by unfold cr;rw [g1]
 rw [hb];refine nC (sj E) (nT (h1 _) hp h3 h4) (EV.mono (he H₀ ρ L o H l Q _ hx hI hL h) fun v H₁ q_=>q_.el fun u L₁ o₁ ρ₁ le₁ vu hI₁ hL₁ h₁=>?_);have hx':∀ (ks:List Nat) (vs:List V),(∀ a∈ks,S.an a≠b.nm)→gK (ks.map S.an) vs b.nm=none:=by
  intro ks
  induction ks with
  | nil=>intro vs _;rfl
  | cons a ks ih =>
   intro vs hk
   cases vs with
   | nil=>rfl
   | cons v vs =>
    rw [List.map_cons];rw [l8];rw [if_neg (fun z=>hk a (.head _) (eq_of_beq z))];exact ih vs fun a ha=>hk a (.tail _ ha)
 have fin:∀ {a:Ad}{y:Addr}(m:Nat) (vs:List V),H₁ y=some (.inst (S.cad c) (dK S c m) vs)→ρ₁ a=some y→Ask S cx X n Q (r.args L₁ o₁ fun us L o=>.call f (.ref a::us) o fun v o=>k v L o) →
   MC S.W ⟨dd,XX⟩ I.cs l H₁ (.ref y) (Str.ofString b.nm) Es (PV S cx I H₀ ρ l fun u L' o'=>Ask S cx X n Q (k u L' o')):=fun m vs hm hy h₁' =>
  Ae hm (hx' _ _ fun a ha=>g3 a (List.mem_of_mem_take ha)) g2 hp (EA.mono (hr H₀ ρ₁ L₁ o₁ H₁ l Q _ hx hI₁ hL₁ h₁') fun ws H₂ q_=>q_.el fun us L₂ o₂ ρ₂ hm le₂ vus hI₂ hL₂ h₂ =>
   aS (CL.mono (hC f b g1 H₀ ρ₂ _ _ o₂ H₂ l _ _ hx hI₂ (aq (dp (le₂ _ _ hy)) vus) (by rw [List.length_cons,hm,hn,har]) h₂) fun v H₃ q_=>q_.el fun u o₃ ρ₃ le₃ vu hI₃ h₄ =>
    ⟨u,L₂,o₃,ρ₃,le₁.trans (le₂.trans le₃),vu,hI₃,hL₂.mono le₃,h₄⟩))
 cases u
 case ref a =>
  cb_eq;rcases aC vu with ⟨y,hy,rfl⟩;by_in
  dsimp only at h₁
  generalize hat:o₁.at a=m at h₁
  cases m
  case inst c' us₀ =>
   obtain ⟨hc,h₁'⟩:=h₁.IF;have hc':=Nat.eq_of_beq_eq_true hc;subst hc';obtain ⟨m,hm,mu,_⟩:=hI₁.get (by rw [hat];exact fun z=>nomatch z) hy;rw [hat] at mu;cb_eq;rcases mu with ⟨vs,rfl,hlen,_⟩;by_in;exact fin _ _ hm hy h₁'
  case vlex ts =>
   obtain ⟨hc,h₁'⟩:=h₁.IF;have hc':=Nat.eq_of_beq_eq_true hc;subst hc';obtain ⟨m,hm,mu,_⟩:=hI₁.get (by rw [hat];exact fun z=>nomatch z) hy;rw [hat] at mu;cb_eq;rcases mu with ⟨_,_,rfl,_⟩;by_in;exact fin _ _ hm hy h₁'
  all_goals exact h₁.out.elim
 all_goals exact h₁.out.elim
theorem Ask.okI {Q:U→O→Prop}{u:U}{o:O}(h:Q u o):Ask S cx X n Q (.ok u o):=by cases n<;>exact h
end
end Mine
end
section
open PySem PySem.W PySem.Calls PyProof.Rows
noncomputable section
namespace Mine
section
variable {S:Sd}{cx:Cx}{X:Nat→Prop}{XX:Nat→MH→Prop}{I:FnI}{n dd:Nat}{mt:Nat→Pth→Bool}
theorem lj (Z:bP S I){c:Nat}(hc:bo I.cl c=true){r:SL}{Es:List PE'}{np pos:Pos}(hp:Es.all aE=true) (hr:dD S cx X XX I n dd r Es)
  {H₀:MH}{ρ : Rh}{L:Lc}{o:O}{H:MH}{l:Loc}{Q:U→O→Prop}{k:KL}{Qv:V→MH→Prop}(hx:XOK cx X XX H₀) (hI:Inv S cx H₀ ρ o H) (hL:bu S cx ρ I.nm L l) (h:Ask S cx X n Q (r.args L o k)) (hn:Es.length+1=cr S (S.ini c))
  (step:∀ us vs L₁ o₁ ρ₁ H₁ x,us.length=Es.length→Rle ρ ρ₁→VUs S cx ρ₁ us vs→Inv S cx H₀ ρ₁ o₁ H₁→bu S cx ρ₁ I.nm L₁ l→Ask S cx X n Q (k us L₁ o₁)→H₁ x=none →
   ∃ a o' Q',∃ ρ',Rle ρ₁ ρ'∧ρ' a=some x∧Inv S cx H₀ ρ' o' (H₁.put x (.inst (S.cad c) [] []))∧(∀ b,S.ft.get (S.ini c)=some b→∀ ws,VUs S cx ρ' (.ref a::us) ws→(U.ref a::us).length=b.ar→CL S.W ⟨dd,XX⟩ l (H₁.put x (.inst (S.cad c) [] [])) (S.fad (S.ini c)) ws (PC S cx H₀ ρ' Q')) ∧
    ∀ v H₂,PC S cx H₀ ρ' Q' v H₂→v=.none∧Qv (.ref x) H₂) :
  EV S.W ⟨dd,XX⟩ I.cs (.Call (.Name (Str.ofString (S.cn c)) np) Es [] pos) l H Qv:=by
 cb_eq;rcases Z.cls c hc with ⟨g1,g2,g3,g4,g5,b,g6⟩;by_in;have har:cr S (S.ini c)=b.ar:=by unfold cr;rw [g6]
 refine aO g1 g2 g3 g4 hp (EA.mono (hr H₀ ρ L o H l Q _ hx hI hL h) fun vs H₁ q_=>q_.el fun us L₁ o₁ ρ₁ hm le₁ vus hI₁ hL₁ h₁=>DH g5 fun x hx₁=>?_);cb_eq;rcases step us vs L₁ o₁ ρ₁ H₁ x hm le₁ vus hI₁ hL₁ h₁ hx₁ with ⟨a,o',Q',ρ',le',hax,hI',hK,fin⟩;by_in;exact CL.mono (hK b g6 _ (aq (dp hax) (vus.mono le')) (by rw [List.length_cons,hm,hn,har])) fun v H₂ p=>fin v H₂ p
theorem zt (F:Gf S mt) (Z:bP S I) (hN:iN S cx X XX dd) (hc:bo I.cl 0=true){r:SL}{Es:List PE'}{np pos:Pos}(hp:Es.all aE=true) (hn:Es.length+1=cr S (S.ini 0)) (hr:dD S cx X XX I n dd r Es) :
  al S cx X XX I n dd (oW S.tb 0 r) (.Call (.Name (Str.ofString (S.cn 0)) np) Es [] pos):=fun H₀ ρ L o H l Q k hx hI hL h=>by
 obtain ⟨nm,hnode⟩:=F.node;refine jY (lj Z hc hp hr hx hI hL h hn fun us vs L₁ o₁ ρ₁ H₁ x hm le₁ vus hI₁ hL₁ h₁ hx₁=>?_);have h3:us.length=3:=by
  have:cr S (S.ini 0)=4:=by unfold cr;rw [hnode]
  omega
 match us,h3,h₁,vus with
 | [a,b,d],_,h₁,vus =>
  cb_eq;rcases ae vus with ⟨va,r1,rfl,v1,vus1⟩;rcases ae vus1 with ⟨vb,r2,rfl,v2,vus2⟩;rcases ae vus2 with ⟨vd,r3,rfl,v3,vus3⟩;by_in
  cases am vus3
  obtain ⟨hI₂,le₂,e⟩:=hI₁.tnew (b:=.inst 0 []) (m:=.inst (S.cad 0) [] []) hx₁ ⟨[],rfl,Nat.zero_le _,aH⟩;refine ⟨.t o₁.nt,_,fun u o'=>u=.none∧o'=o₁.tnew (.inst 0 [a,b,d,.none]),_,le₂,e,hI₂,fun fn hb ws vw hl=>hN 0 fn (by decide) hb H₀ _ _ ws _ _ l _ hx hI₂ vw hl ?_,fun v H₂ q_=>q_.el fun u o₂ ρ₂ le₃ vu hI₃ e12=>?_⟩
  ·unfold bA;rw [hnode];show Ask S cx X 0 _ (exec S.tb cx iZ [.ref (.t o₁.nt),a,b,d] _ _ _ _);rw [wv (dJ v1) (dJ v2) (dJ v3) hI₁.ids];exact Ask.okI ⟨rfl,rfl⟩
  ·obtain ⟨e1,e2⟩:=e12;subst e1 e2;refine ⟨dg vu,?_⟩;have hat:=qz hI₁.ids (b:=.inst 0 [a,b,d,.none]);have hd:(o₁.tnew (.inst 0 [a,b,d,.none])).at (.t o₁.nt)≠.dead:=by rw [hat];exact fun z=>nomatch z
   have hρ :=le₃ _ _ e;cb_eq;rcases hI₃.get hd hρ with ⟨mo,hm₂,mu,_⟩;by_in;rw [hat] at mu;cb_eq;rcases mu with ⟨ws,rfl,hl,hws⟩;by_in;refine ⟨x,_,rfl,hm₂,.obj 0 [a,b,d,.none],L₁,⟨o₁.objs,Nat.succ o₁.nt,o₁.tmp⟩,ρ₂,le₁.trans (le₂.trans le₃),?_,?_,(hL₁.mono le₂).mono le₃,h₁⟩
   ·exact Exists.intro ws ⟨rfl,hl,hws⟩
   ·have:=hI₃.tdel hd hρ;rw [tJ hI₁.ids] at this;exact this
theorem zs (F:Gf S mt) (Z:bP S I) (hN:iN S cx X XX dd) (hc:bo I.cl 1=true){r:SL}{Es:List PE'}{np pos:Pos}(hp:Es.all aE=true) (hn:Es.length+1=cr S (S.ini 1)) (hr:dD S cx X XX I n dd r Es) :
  al S cx X XX I n dd (oW S.tb 1 r) (.Call (.Name (Str.ofString (S.cn 1)) np) Es [] pos):=fun H₀ ρ L o H l Q k hx hI hL h=>by
 obtain ⟨nm,htok⟩:=F.tok;refine lj Z hc hp hr hx hI hL h hn fun us vs L₁ o₁ ρ₁ H₁ x hm le₁ vus hI₁ hL₁ h₁ hx₁=>?_;have h3:us.length=6:=by
  have:cr S (S.ini 1)=7:=by unfold cr;rw [htok]
  omega
 match us,h3,h₁,vus with
 | [a,b,d,e,f,g],_,h₁,vus =>
  cb_eq;rcases ae vus with ⟨va,r1,e1,v1,vus1⟩;rcases ae vus1 with ⟨vb,r2,e2,v2,vus2⟩;rcases ae vus2 with ⟨vd,r3,e3,v3,vus3⟩;rcases ae vus3 with ⟨ve,r4,e4,v4,vus4⟩;rcases ae vus4 with ⟨vf,r5,e5,v5,vus5⟩;rcases ae vus5 with ⟨vg,r6,e6,v6,vus6⟩;rcases hI₁.tnew (b:=.inst 1 []) (m:=.inst (S.cad 1) [] []) hx₁ ⟨[],rfl,Nat.zero_le _,aH⟩ with ⟨hI₂,le₂,he⟩;by_in;refine ⟨.t o₁.nt,_,fun u o'=>u=.none∧o'=o₁.tnew (.inst 1 [a,b,d,e,f,g,.bool false,.bool true]),_,le₂,he,hI₂,fun fn hb ws vw hl=>hN 1 fn (by decide) hb H₀ _ _ ws _ _ l _ hx hI₂ vw hl ?_,fun v H₂ q_=>q_.el fun u o₂ ρ₂ le₃ vu hI₃ e12=>?_⟩
  ·unfold bA;rw [htok];show Ask S cx X 0 _ (exec S.tb cx j5 [.ref (.t o₁.nt),a,b,d,_,f,g] _ _ _ _);rw [yk (dJ v1) (dJ v2) (dJ v3) (dJ v4) (dJ v5) (dJ v6) hI₁.ids];exact Ask.okI ⟨rfl,rfl⟩
  ·obtain ⟨e1,e2⟩:=e12;subst e1 e2;exact ⟨dg vu,_,L₁,_,ρ₂,le₁.trans (le₂.trans le₃),dp (le₃ _ _ he),hI₃,(hL₁.mono le₂).mono le₃,h₁⟩
theorem zr (F:Gf S mt) (Z:bP S I) (hC:jq S cx X XX n dd){c:Nat}(hc:bo I.cl (c+2)=true){r:SL}{Es:List PE'}{np pos:Pos}(hp:Es.all aE=true) (hn:Es.length+1=cr S (S.ini (c+2))) (hr:dD S cx X XX I n dd r Es) :
  al S cx X XX I n dd (oW S.tb (c+2) r) (.Call (.Name (Str.ofString (S.cn (c+2))) np) Es [] pos):=fun H₀ ρ L o H l Q k hx hI hL h=>by
 refine lj Z hc hp hr hx hI hL h hn fun us vs L₁ o₁ ρ₁ H₁ x hm le₁ vus hI₁ hL₁ h₁ hx₁=>?_;have h₂:Ask S cx X n Q (.call (S.tb.init (c+2)) (.ref (.o (aF o₁.objs))::us) (o₁.new (.inst (c+2) [])) fun u o'=>match u with
  | .none=>k (.ref (.o (aF o₁.objs))) L₁ o'
  | _=>.out):=h₁
 rw [F.inis c] at h₂;obtain ⟨hI₂,le₂,e⟩:=hI₁.new (b:=.inst (c+2) []) (m:=.inst (S.cad (c+2)) [] []) hx₁ ⟨[],rfl,Nat.zero_le _,aH⟩;refine ⟨.o (aF o₁.objs),_,_,_,le₂,e,hI₂,fun b hb ws vw hl=>hC _ b hb H₀ _ _ ws _ _ l _ _ hx hI₂ vw hl h₂,fun v H₂ q_=>q_.el fun u o₂ ρ₂ le₃ vu hI₃ h₃=>?_⟩
 cases u
 case none=>exact ⟨dg vu,_,L₁,o₂,ρ₂,le₁.trans (le₂.trans le₃),dp (le₃ _ _ e),hI₃,(hL₁.mono le₂).mono le₃,h₃⟩
 all_goals exact h₃.out.elim
theorem mT {n:Nat}{w:U}(h:mU n=some w):w=.int n∧n<1000000:=by
 obtain ⟨a,b⟩:=bF h
 cases b
 exact ⟨rfl,bQ a⟩
theorem ck {H₀ H:MH}{ρ : Rh}{o:O}{i:Ad}{us:List U}{y:Addr}(hI:Inv S cx H₀ ρ o H) (hat:o.at i=.lst us) (hy : ρ i=some y):∃ vs,H y=some (.list vs)∧VUs S cx ρ us vs:=by
 obtain ⟨m,hm,mu,_⟩:=hI.get (by rw [hat];exact fun z=>nomatch z) hy;rw [hat] at mu;cb_eq;rcases mu with ⟨vs,rfl,h⟩;by_in;exact ⟨vs,hm,h⟩
section
variable {d:Dx}{cs:Scope}{l:Loc}{H₀ H:MH}{ρ : Rh}{o:O}{u w:U}{v:V}{Q:V→MH→Prop}
theorem dm {α : Type}{w : α}{us:List U}{vs:List V}{f:U→Option α}(vus:VUs S cx ρ us vs) (e:bi1 us f=some w):∃ u v,vs=[v]∧VU S cx ρ u v∧f u=some w:=by
 cases us with
 | nil=>cases e
 | cons u us =>
 cases us with
 | cons _ _=>cases e
 | nil =>
  cb_eq;rcases ae vus with ⟨v,r,e1,v1,v2⟩;by_in;exact ⟨u,v,by rw [e1,am v2],v1,e⟩
set_option tactic.hygienic true in
theorem C1 (hT:cx.T.length<60000) (hI:Inv S cx H₀ ρ o H) (v1:VU S cx ρ u v) (e:xX o u=some w) (hq:∀ c,VU S cx ρ w c→Q c H):CV S.W d cs l H (.builtin "len") [v] Q:=by
 cases u<;>first | (cases e;done) | skip
 case str x =>
  obtain ⟨rfl,hn⟩:=mT e
  cases ay v1
  have hl:(SS x).length=aF x:=by show x.toArray.size=_;rw [aA];simp
  exact jr (by rw [hl];omega) (by rw [hl];exact hq _ (bM rfl))
 case lst x =>
  cb_eq;rcases mT e with ⟨rfl,hn⟩;rcases bH v1 with ⟨vs,rfl,h1⟩;by_in;have hl:vs.length=aF x:=by rw [aA,h1.length]
  exact gz (by rw [hl];omega) (by rw [hl];exact hq _ (bM rfl))
 case ref i =>
  cb_eq;rcases aC v1 with ⟨y,hy,rfl⟩;by_in
  cases hat:o.at i with
  | lst x =>
   have e':(match o.at i with | .lst x=>mU (aF x) | _=>none)=some w:=e;rw [hat] at e';cb_eq;rcases mT e' with ⟨rfl,hn⟩;rcases ck hI hat hy with ⟨vs,hm,h1⟩;by_in;have hl:vs.length=aF x:=by rw [aA,h1.length]
   exact kT hm (by rw [hl];omega) (by rw [hl];exact hq _ (bM rfl))
  | _ =>
   have e':(match o.at i with | .lst x=>mU (aF x) | _=>none)=some w:=e;rw [hat] at e'
   cases e'
 case txt =>
  cases e
  cases cA v1
  have hl:(SS cx.T).length=cx.T.length:=by show cx.T.toArray.size=_;simp
  refine jr (by rw [hl];omega) (hq _ ?_);rw [hl];exact rfl
set_option tactic.hygienic true in
theorem CZ (v1:VU S cx ρ u v) (e:xV u=some w) (hq:∀ c,VU S cx ρ w c→Q c H):CV S.W d cs l H (.builtin "ord") [v] Q:=by
 cases u<;>first | (cases e;done) | skip
 rename_i x
 cases ay v1
 match x,e with
 | [c],e=>cases e;exact DG (hq _ (bM rfl))
set_option tactic.hygienic true in
theorem C4 (v1:VU S cx ρ u v) (e:xZ u=some w) (hq:∀ c,VU S cx ρ w c→Q c H):CV S.W d cs l H (.builtin "chr") [v] Q:=by
 cases u<;>first | (cases e;done) | skip
 rename_i i
 cases ao v1
 cases i with
 | ofNat c =>
  obtain ⟨hp,e⟩:=bF (show IF (Nat.ble c 1114111) (some (.str [c])) none=some w from e)
  cases e
  have:=Nat.le_of_ble_eq_true hp;exact DL (Int.natCast_nonneg _) (by simp only [Int.ofNat_eq_natCast];omega) (hq _ cP)
 | negSucc c=>cases e
set_option tactic.hygienic true in
theorem CX (v1:VU S cx ρ u v) (e:Bm u=some w) (hq:∀ c,VU S cx ρ w c→Q c H):CV S.W d cs l H (.type "str") [v] Q:=by
 cases u<;>first | (cases e;done) | skip
 case int i =>
  cases i with
  | ofNat n =>
   obtain ⟨hp,e⟩:=bF (show IF (Nat.ble (Nat.log2 n) 1900) (some (.str (dk 4000 n []))) none=some w from e)
   cases e
   cases ao v1
   exact tz (Nat.le_of_ble_eq_true hp) (hq _ cP)
  | negSucc n=>cases e
 case str x=>cases e;cases ay v1;exact tx (hq _ cP)
set_option tactic.hygienic true in
theorem C2 (v1:VU S cx ρ u v) (e:xY u=some w) (hq:∀ c,VU S cx ρ w c→Q c H):CV S.W d cs l H (.type "int") [v] Q:=by
 cases u<;>first | (cases e;done) | skip
 rename_i b
 cases bR v1
 cases e
 exact qt (hq _ (bM (by cases b<;>rfl)))
theorem C5 (v1:VU S cx ρ u v) (e:x4 u=some w) (hq:∀ c,VU S cx ρ w c→Q c H):CV S.W d cs l H (.builtin "abs") [v] Q:=by
 cases u<;>first | (cases e;done) | skip
 cases ao v1
 cases e
 exact DN (hq _ (bM rfl))
set_option tactic.hygienic true in
theorem C0 {us:List U}{vs:List V}(vus:VUs S cx ρ us vs) (e:xW us=some w) (hq:∀ c,VU S cx ρ w c→Q c H):CV S.W d cs l H (.builtin "max") vs Q:=by
 match us,e with
 | [u,u'],e =>
  cb_eq;rcases ae vus with ⟨v,r,rfl,v1,v2⟩;rcases ae v2 with ⟨v',r',rfl,v3,v4⟩;by_in
  cases am v4
  cases u<;>first | (cases e;done) | skip
  cases u'<;>first | (cases e;done) | skip
  rename_i i j
  cases ao v1
  cases ao v3
  cases e
  refine DI (hq _ (bM ?_));rw [fg]
  by_cases h:i<j
  ·rw [decide_eq_true h,if_pos h]
  ·rw [decide_eq_false h,if_neg h]
set_option tactic.hygienic true in
theorem zH (v1:VU S cx ρ u v) (e:uQ u=some w) (hq:∀ c,VU S cx ρ w c→Q c H):CV S.W d cs l H (.type "list") [v] Q:=by
 cases u<;>first | (cases e;done) | skip
 case tup x =>
  cb_eq;rcases bS v1 with ⟨vs,rfl,h1⟩;rcases bF (show IF (sm (aF x)) (some (.lst x)) none=some w from e) with ⟨hp,e⟩;by_in
  cases e
  have:=bQ hp;rw [aA,h1.length] at this;exact qf (.inr rfl) this (hq _ (fX h1))
 case lst x =>
  cb_eq;rcases bH v1 with ⟨vs,rfl,h1⟩;rcases bF (show IF (sm (aF x)) (some (.lst x)) none=some w from e) with ⟨hp,e⟩;by_in
  cases e
  have:=bQ hp;rw [aA,h1.length] at this;exact qf (.inl rfl) this (hq _ (fX h1))
theorem DM (hT:cx.T.length<60000) (hI:Inv S cx H₀ ρ o H){b:Nat}{us:List U}{vs:List V}(vus:VUs S cx ρ us vs) (e:biU b us o=some w) (hq:∀ c,VU S cx ρ w c→Q c H):CV S.W d cs l H (biV b) vs Q:=by
 match b,e with
 | 6,e=>exact C0 vus e hq
 | 0,e=>obtain ⟨u,v,rfl,v1,e⟩:=dm vus e;exact C1 hT hI v1 e hq
 | 1,e=>obtain ⟨u,v,rfl,v1,e⟩:=dm vus e;exact CZ v1 e hq
 | 2,e=>obtain ⟨u,v,rfl,v1,e⟩:=dm vus e;exact C4 v1 e hq
 | 3,e=>obtain ⟨u,v,rfl,v1,e⟩:=dm vus e;exact CX v1 e hq
 | 4,e=>obtain ⟨u,v,rfl,v1,e⟩:=dm vus e;exact C2 v1 e hq
 | 5,e=>obtain ⟨u,v,rfl,v1,e⟩:=dm vus e;exact C5 v1 e hq
 | 7,e=>obtain ⟨u,v,rfl,v1,e⟩:=dm vus e;exact zH v1 e hq
 | n+8,e=>cases e
end
theorem uP (b:Nat):∃ s,biV b=.builtin s∨biV b=.type s:=by
 rcases b with _ | _ | _ | _ | _ | _ | _ | b<;>exact ⟨_,by first | exact .inl rfl | exact .inr rfl⟩
theorem Ez (Z:bP S I) (hT:cx.T.length<60000){b:Nat}(hb:bo I.bl b=true){r:SL}{E:PE'}{Es:List PE'}{np pos:Pos}(hp:(E::Es).all aE=true) (hr:dD S cx X XX I n dd r (E::Es)) :
  al S cx X XX I n dd (sBi b r) (.Call (.Name (Str.ofString (S.bn b)) np) (E::Es) [] pos):=fun H₀ ρ L o H l Q k hx hI hL h=>by
 have hN:=Z.bi b hb;have main:EA S.W ⟨dd,XX⟩ I.cs (E::Es) l H fun vs H₁=>CV S.W ⟨dd,XX⟩ I.cs l H₁ (biV b) vs (PV S cx I H₀ ρ l fun u L' o'=>Ask S cx X n Q (k u L' o')) :=
  EA.mono (hr H₀ ρ L o H l Q _ hx hI hL h) fun vs H₁ q_=>q_.el fun us L₁ o₁ ρ₁ hm le₁ vus hI₁ hL₁ h₁=>by
   obtain ⟨w,hw,h₂⟩:=h₁.oget;exact DM hT hI₁ vus hw fun c vc=>⟨w,L₁,o₁,ρ₁,le₁,vc,hI₁,hL₁,h₂⟩
 obtain ⟨s,e | e⟩:=uP b
 ·rw [e] at hN main;exact eC hN hp main
 ·rw [e] at hN main;exact qb hN hp main
end
end Mine
end
section
open PySem PySem.W PySem.Calls PyProof.Rows
noncomputable section
namespace Mine
section
variable {S:Sd}{cx:Cx}{X:Nat→Prop}{XX:Nat→MH→Prop}{I:FnI}{n dd:Nat}{mt:Nat→Pth→Bool}
theorem qh {u:U}{us:List U}:lF (u::us)=(match (generalizing:=false) u with | .str y=>(lF us).map (y ++ ·) | _=>none):=rfl
set_option tactic.hygienic true in
theorem nI {ρ : Rh}:∀ {us:List U}{vs:List V}{x:List Nat},lF us=some x→VUs S cx ρ us vs→∃ ys:List (List Nat),vs=(ys.map SS).map .str∧x=ys.flatten
 | [],_,x,e,h=>by cases e;rw [am h];exact ⟨[],rfl,rfl⟩
 | u::us,_,x,e,h=>by
  cb_eq;rcases ae h with ⟨v,r,rfl,h1,h2⟩;by_in
  cases u
  case str y =>
   rw [qh] at e
   dsimp only at e
   cases ay h1
   cb_eq;rcases Option.map_eq_some_iff.mp e with ⟨z,hz,rfl⟩;rcases nI hz h2 with ⟨ys,rfl,rfl⟩;by_in;exact ⟨_::ys,rfl,rfl⟩
  all_goals cases e
theorem pj:∀ ys:List (List Nat),((ys.map SS).map (·.length)).sum=ys.flatten.length
 | []=>rfl
 | y::ys=>by
  rw [List.map_cons,List.map_cons,List.sum_cons,pj ys,List.flatten_cons,List.length_append]
  congr 1
theorem qS {ρ : Rh}:∀ {us:List U}{vs:List V}{u:U},VUs S cx ρ us vs→us.getLast? = some u→∃ vs' v,vs=vs'++[v]∧VU S cx ρ u v∧VUs S cx ρ us.dropLast vs'
 | [],_,u,h,e=>by cases e
 | [a],_,u,h,e=>by
  cb_eq;rcases ae h with ⟨v,s,rfl,h1,h2⟩;by_in
  cases am h2
  cases e
  exact ⟨[],v,rfl,h1,aH⟩
 | a::b::r,_,u,h,e=>by
  cb_eq;rcases ae h with ⟨v,s,rfl,h1,h2⟩;by_in;obtain ⟨vs',w,rfl,x,y⟩:=qS h2 (by rw [List.getLast?_cons_cons] at e;exact e);exact ⟨v::vs',w,rfl,x,aq h1 y⟩
set_option tactic.hygienic true in
theorem pu {u:U}{o:O}(h:ol u o=true):∃ i us,u=.ref i∧o.at i=.lst us:=by
 cases u
 case ref i =>
  delta ol at h
  dsimp only at h
  generalize hat:o.at i=m at h
  cases m
  case lst us=>exact ⟨_,_,rfl,hat⟩
  all_goals cases h
 all_goals cases h
end
section
variable {α : Type}{r : α}{P:Prop}
theorem qw {S:Sd}{cx:Cx}{ρ : Rh}{us:List U}{vs:List V}{f:U→U→Option α}(vus:VUs S cx ρ us vs) (e:us2 us f=some r):∃ u w v v',vs=[v,v']∧VU S cx ρ u v∧VU S cx ρ w v'∧f u w=some r:=by
 cases us with
 | nil=>cases e
 | cons u us =>
 cases us with
 | nil=>cases e
 | cons w us =>
 cases us with
 | cons _ _=>cases e
 | nil =>
  cb_eq;rcases ae vus with ⟨v,r,e1,v1,v2⟩;rcases ae v2 with ⟨v',r',e2,v3,v4⟩;by_in;exact ⟨u,w,v,v',by rw [e1,e2,am v4],v1,v3,e⟩
end
section
variable {S:Sd}{cx:Cx}{d:Dx}{cs:Scope}{l:Loc}{H₀ H:MH}{ρ : Rh}{o:O}{u w:U}{v vw:V}{p:U×O}{Q:V→MH→Prop}
noncomputable def BmQ (S:Sd) (cx:Cx) (H₀:MH) (ρ : Rh) (p:U×O) (Q:V→MH→Prop):Prop:=∀ c H',VU S cx ρ p.1 c→Inv S cx H₀ ρ p.2 H'→Q c H'
theorem uK (hI:Inv S cx H₀ ρ o H) (vu:VU S cx ρ u v) (hw:VU S cx ρ w vw) (e:Dh u w o=some p) (hq:BmQ S cx H₀ ρ p Q):CV S.W d cs l H (.builtin "list.append") [v,vw] Q :=
 ix e fun i e1 e=>lT e fun us hat e=>ax e fun hs e=>by
  cases e
  rw [e1] at vu;cb_eq;rcases aC vu with ⟨y,hy,ev⟩;rcases ck hI hat hy with ⟨vs,hm,hv⟩;by_in;have hz:=bQ hs;rw [aA,hv.length] at hz;rw [ev];exact vF hm hz (hq _ _ j0 (hI.put (b:=.lst (us++[w])) (by rw [hat];exact fun z=>nomatch z) hy ⟨_,rfl,hv.append (aq hw aH)⟩))
theorem CY (hI:Inv S cx H₀ ρ o H) (vu:VU S cx ρ u v) (e:xT u o=some p) (hq:BmQ S cx H₀ ρ p Q):CV S.W d cs l H (.builtin "list.pop") [v] Q :=
 ix e fun i e1 e=>lT e fun us hat e=>ax e fun hs e=>by
  obtain ⟨a,ha,ea⟩:=Option.map_eq_some_iff.mp e;rw [e1] at vu;cb_eq;rcases aC vu with ⟨y,hy,ev⟩;rcases ck hI hat hy with ⟨vs,hm,hv⟩;by_in;have hz:=bQ hs;rw [aA,hv.length] at hz;cb_eq;rcases qS hv ha with ⟨vs',x,e2,vx,hv'⟩;by_in;rw [e2] at hm hz;rw [List.length_append] at hz;rw [ev];rw [←ea] at hq;exact DF hm (Nat.lt_of_le_of_lt (Nat.le_add_right _ _) hz) (hq _ _ vx (hI.put (b:=.lst us.dropLast) (by rw [hat];exact fun z=>nomatch z) hy ⟨_,rfl,hv'⟩))
theorem C3 (D:Dcts S){x dv:U}{vx vd:V}(hI:Inv S cx H₀ ρ o H) (vu:VU S cx ρ u v) (hx:VU S cx ρ x vx) (hd:VU S cx ρ dv vd) (e:xU S.tb u x dv o=some p) (hq:BmQ S cx H₀ ρ p Q):CV S.W d cs l H (.builtin "dict.get") [v,vx,vd] Q :=
 ee e fun x e1 e=>by
  rw [e1] at hx;rw [ay hx]
  by_cases hg:∃ g,u=.dct g
  ·obtain ⟨g,rfl⟩:=hg;have e:some ((bZ x (S.tb.dks g) (S.tb.dvs g)).getD dv,o)=some p:=e
   cases e
   cb_eq;rcases D.dct g with ⟨ks,vs,e3,e4,e5⟩;by_in;rw [eM vu,e3];refine DJ ?_;rcases gx (x:=x) e4 (e5 cx ρ) with ⟨a,b⟩ | ⟨u,v,a,b,vu'⟩
   ·rw [b];exact hq _ _ (by rw [a];exact hd) hI
   ·rw [b];exact hq _ _ (by rw [a];exact vu') hI
  ·have e:rfK u (fun i=>diK (o.at i) fun ks vs=>some ((bZ x ks vs).getD dv,o))=some p:=by
    cases u<;>first | exact e | exact absurd ⟨_,rfl⟩ hg
   refine ix e fun i e2 e=>uJ e fun ks us hat e=>?_
   cases e
   rw [e2] at vu;obtain ⟨y,hy,ev⟩:=aC vu;obtain ⟨m,hm,mu,_⟩:=hI.get (by rw [hat];exact fun z=>nomatch z) hy;rw [hat] at mu;obtain ⟨vs,em,hvs⟩:=mu;rw [em] at hm;rw [ev];refine Av hm ?_;rcases i6 (ds:=ks) (x:=x) hvs with ⟨a,b⟩ | ⟨u,v,a,b,vu'⟩
   ·rw [b];exact hq _ _ (by rw [a];exact hd) hI
   ·rw [b];exact hq _ _ (by rw [a];exact vu') hI
theorem zI (hI:Inv S cx H₀ ρ o H) (vu:VU S cx ρ u v) (hw:VU S cx ρ w vw) (e:uO u w o=some p) (hq:BmQ S cx H₀ ρ p Q):CV S.W d cs l H (.builtin "str.join") [v,vw] Q :=
 ee e fun y e1 e=>ix e fun i e2 e=>lT e fun us hat e=>ax e fun hn e=>by
  obtain ⟨z,hz,e⟩:=Option.bind_eq_some_iff.mp e;refine ax e fun hs e=>?_
  cases e
  rw [e1] at vu;rw [e2] at hw;cb_eq;rcases aC hw with ⟨a,ha,ew⟩;rcases ck hI hat ha with ⟨vs,hm,hvs⟩;rcases nI hz hvs with ⟨ys,e3,rfl⟩;by_in;rw [e3] at hm;have:=bQ hs;rw [aA] at this;have ey:y=[]:=by cases y with | nil=>rfl | cons _ _=>cases hn
  rw [ay vu,ew,ey];refine Au hm ?_ ?_
  ·rw [pj];exact Nat.le_trans (Nat.le_of_lt this) (Nat.le_of_ble_eq_true rfl)
  ·rw [wA];exact hq _ _ cP hI
theorem EF {x q:U}{vx vq:V}(hI:Inv S cx H₀ ρ o H) (vu:VU S cx ρ u v) (hx:VU S cx ρ x vx) (hp:VU S cx ρ q vq) (e:Dd u x q o=some p) (hq:BmQ S cx H₀ ρ p Q):CV S.W d cs l H (.builtin "str.startswith") [v,vx,vq] Q :=
 AL e fun e1 e=>ee e fun y e2 e=>o3 e fun r j i e3 e=>ax e fun hi e=>by
  cases e
  rw [mc] at hi;rw [of_decide_eq_true hi] at e3;rw [e1] at vu;rw [e2] at hx;rw [e3] at hp;obtain ⟨hr,hj,ev⟩:=bx hp;have e4:cx.off+j+Int.ofNat 0=aT cx.T r:=by rw [hj];exact Int.add_zero _
  rw [cA vu,ay hx,ev,e4];refine nF ?_;rw [tP hr,←qL];exact hq _ _ eD hI
theorem EG {y:U}{vy:V}(hI:Inv S cx H₀ ρ o H) (vu:VU S cx ρ u v) (hy:VU S cx ρ y vy) (e:Df u y o=some p) (hq:BmQ S cx H₀ ρ p Q):CV S.W d cs l H (.builtin "str.lstrip") [v,vy] Q :=
 ee e fun x e1 e=>ee e fun z e2 e=>ax e fun hi e=>ax e fun hs e=>by
  cases e
  rw [b9] at hi;rw [e1] at vu;rw [e2,of_decide_eq_true hi] at hy;have:=bQ hs;rw [aA] at this;rw [ay vu,ay hy];exact tA this (hq _ _ cP hI)
noncomputable def Dg (a:Nat):String:=match a with | 60=>"list.append" | 61=>"list.pop" | 62=>"dict.get" | 63=>"str.join" | 64=>"str.startswith" | _=>"str.lstrip"
theorem EH (D:Dcts S){a:Nat}{us:List U}{vs:List V}(hI:Inv S cx H₀ ρ o H) (vu:VU S cx ρ u v) (vus:VUs S cx ρ us vs) (e:bmU S.tb a u us o=some p) (hq:BmQ S cx H₀ ρ p Q):CV S.W d cs l H (.builtin (Dg a)) (v::vs) Q:=by
 unfold bmU at e
 split at e
 ·obtain ⟨w,x,ev,hw,e⟩:=dm vus e;rw [ev];exact uK hI vu hw e hq
 ·refine ax e fun hn e=>?_;have:us=[]:=by cases us with | nil=>rfl | cons _ _=>cases hn
  rw [this] at vus;rw [am vus];exact CY hI vu e hq
 ·obtain ⟨x,y,vx,vy,ev,hx,hy,e⟩:=qw vus e;rw [ev];exact C3 D hI vu hx hy e hq
 ·obtain ⟨w,x,ev,hw,e⟩:=dm vus e;rw [ev];exact zI hI vu hw e hq
 ·obtain ⟨x,y,vx,vy,ev,hx,hy,e⟩:=qw vus e;rw [ev];exact EF hI vu hx hy e hq
 ·obtain ⟨w,x,ev,hw,e⟩:=dm vus e;rw [ev];exact EG hI vu hw e hq
 ·cases e
theorem oQ {u:U}(h:isStr u=true) (vu:VU S cx ρ u v):∃ x,v=.str x:=by
 cases u<;>first | (cases h;done) | skip
 ·exact ⟨_,ay vu⟩
 ·exact ⟨_,cA vu⟩
set_option tactic.hygienic true in
theorem Eh (D:Dcts S){a n:Nat}{Es:List PE'}(hn:jT a n=true) (hI:Inv S cx H₀ ρ o H) (hp:Es.all aE=true) (hpre:xS a u o=true) (vu:VU S cx ρ u v) (h:EA S.W d cs Es l H fun ws H₂=>CV S.W d cs l H₂ (.builtin (Dg a)) (v::ws) Q):MC S.W d cs l H v (mm a) Es Q:=by
 unfold jT at hn
 split at hn
 ·cb_eq;rcases pu hpre with ⟨i,us₀,rfl,hat⟩;rcases aC vu with ⟨y,hy,rfl⟩;rcases ck hI hat hy with ⟨vs,hm,_⟩;by_in;exact ny hm F.slot_list_append F.type_list_append hp h
 ·cb_eq;rcases pu hpre with ⟨i,us₀,rfl,hat⟩;rcases aC vu with ⟨y,hy,rfl⟩;rcases ck hI hat hy with ⟨vs,hm,_⟩;by_in;exact ny hm F.slot_list_pop F.type_list_pop hp h
 ·replace hpre:xM u o=true:=hpre
  cases u<;>first | (cases hpre;done) | skip
  case ref i =>
   cb_eq;rcases aC vu with ⟨y,hy,rfl⟩;by_in
   cases hat:o.at i with
   | dic ks us =>
    obtain ⟨m,hm,mu,_⟩:=hI.get (by rw [hat];exact fun z=>nomatch z) hy;rw [hat] at mu;cb_eq;rcases mu with ⟨vs,rfl,hvs⟩;by_in;exact Dv hm hp h
   | _ =>
    have hpre:(match o.at i with | .dic _ _=>true | _=>false)=true:=hpre;rw [hat] at hpre
    cases hpre
  case dct g =>
   cb_eq;rcases D.dct g with ⟨ks,vs,e1,_⟩;by_in;have e:=eM vu;rw [e1] at e;subst e;exact Dw hp h
 ·obtain ⟨x,rfl⟩:=oQ hpre vu;exact pY F.slot_str_join F.type_str_join hp h
 ·obtain ⟨x,rfl⟩:=oQ hpre vu;exact pY F.slot_str_startswith F.type_str_startswith hp h
 ·obtain ⟨x,rfl⟩:=oQ hpre vu;exact pY F.slot_str_lstrip F.type_str_lstrip hp h
 ·cases hn
end
section
variable {S:Sd}{cx:Cx}{X:Nat→Prop}{XX:Nat→MH→Prop}{I:FnI}{n dd:Nat}{mt:Nat→Pth→Bool}
theorem Ey (D:Dcts S) (hT:cx.T.length<60000){a:Nat}{s:SE}{r:SL}{E:PE'}{Es:List PE'}{ap pos:Pos}(hp:Es.all aE=true) (hn:jT a Es.length=true) (h3:Es.length<30)
  (h1:∀ x env,attributeBase E x env (eval E env)=eval E env) (h4:(ap.endLine==pos.line)=true) (he:al S cx X XX I n dd s E) (hr:dD S cx X XX I n dd r Es) :
  al S cx X XX I n dd (sBm S.tb a s r) (.Call (.Attribute E (mm a) ap) Es [] pos):=fun H₀ ρ L o H l Q k hx hI hL h =>
 nC (sj E) (nT (h1 _) hp h3 h4) (EV.mono (he H₀ ρ L o H l Q _ hx hI hL h) fun v H₁ q_=>q_.el fun u L₁ o₁ ρ₁ le₁ vu hI₁ hL₁ h₁ =>
  Eh D hn hI₁ hp h₁.IF.1 vu (EA.mono (hr H₀ ρ₁ L₁ o₁ H₁ l Q _ hx hI₁ hL₁ h₁.IF.2) fun ws H₂ q_=>q_.el fun us L₂ o₂ ρ₂ hu le₂ vus hI₂ hL₂ h₂ =>
   h₂.oget.elim fun p hp=>EH D hI₂ (vu.mono le₂) vus hp.1 fun c H' vc hI'=>⟨p.1,L₂,p.2,ρ₂,le₁.trans le₂,vc,hI',hL₂,hp.2⟩))
end
end Mine
end
section
open PySem PySem.W PySem.Calls PyProof.Rows
noncomputable section
namespace Mine
section
variable {S:Sd}{cx:Cx}{X:Nat→Prop}{XX:Nat→MH→Prop}{I:FnI}{n dd:Nat}{mt:Nat→Pth→Bool}
set_option tactic.hygienic true in
theorem pD {H₀ H:MH}{ρ : Rh}{o:O}(hI:Inv S cx H₀ ρ o H){u w:U}{v:V}(vu:VU S cx ρ u v) (e:ko o u=some w):∃ a x r,v=.ref a∧H a=some (.list (x::r))∧VU S cx ρ w x:=by
 cases u
 case ref i =>
  cb_eq;rcases aC vu with ⟨y,hy,rfl⟩;by_in
  delta ko at e
  dsimp only at e
  generalize hat:o.at i=m at e
  cases m
  case lst ws =>
   cases ws with
   | nil=>cases e
   | cons w' ws =>
   cases e
   cb_eq;rcases ck hI hat hy with ⟨vs,hm,hvs⟩;rcases ae hvs with ⟨x,r,rfl,h1,h2⟩;by_in;exact ⟨y,x,r,rfl,hm,h1⟩
  all_goals cases e
 all_goals cases e
theorem pQ {H₀ H:MH}{ρ : Rh}{o:O}(hI:Inv S cx H₀ ρ o H):∀ {us:List U}{vs:List V}{ws:List U},VUs S cx ρ us vs→mi o us=some ws→∃ xs,oz H vs xs∧VUs S cx ρ ws xs
 | [],_,ws,h,e=>by cases e;rw [am h];exact ⟨[],rfl,aH⟩
 | u::us,_,ws,h,e=>by
  cb_eq;rcases ae h with ⟨v,r,rfl,h1,h2⟩;have e':((ko o u).bind fun v=>(mi o us).map (v :: ·))=some ws:=e;rcases Option.bind_eq_some_iff.mp e' with ⟨w,hw,e2⟩;rcases Option.map_eq_some_iff.mp e2 with ⟨ws',hws,rfl⟩;rcases pD hI h1 hw with ⟨a,x,r',rfl,hm,vx⟩;rcases pQ hI h2 hws with ⟨xs,l1,l2⟩;by_in;exact ⟨x::xs,⟨a,x,r',xs,rfl,hm,rfl,l1⟩,aq vx l2⟩
set_option tactic.hygienic true in
theorem vX {H₀ H:MH}{ρ : Rh}{o:O}(hI:Inv S cx H₀ ρ o H){u:U}{v:V}{b:Bool}(vu:VU S cx ρ u v) (e:og o u=some b):∃ a x,v=.ref a∧H a=some (.list [x,.bool b]):=by
 cases u
 case ref i =>
  cb_eq;rcases aC vu with ⟨y,hy,rfl⟩;by_in
  delta og at e
  dsimp only at e
  generalize hat:o.at i=m at e
  cases m
  case lst ws =>
   cases ws with
   | nil=>cases e
   | cons w1 ws =>
   cases ws with
   | nil=>cases e
   | cons w2 ws =>
   cases ws with
   | cons _ _=>cases w2<;>cases e
   | nil =>
   cases w2<;>first | (cases e;done) | skip
   cases e
   cb_eq;rcases ck hI hat hy with ⟨vs,hm,hvs⟩;rcases ae hvs with ⟨x,r,rfl,h1,h2⟩;rcases ae h2 with ⟨x',r',rfl,h3,h4⟩;by_in
   cases am h4
   cases bR h3
   exact ⟨y,x,rfl,hm⟩
  all_goals cases e
 all_goals cases e
theorem pP {H₀ H:MH}{ρ : Rh}{o:O}(hI:Inv S cx H₀ ρ o H):∀ {us:List U}{vs:List V}{ws:List U},VUs S cx ρ us vs→mh o us=some ws→∃ xs,kB H vs xs∧VUs S cx ρ ws xs
 | [],_,ws,h,e=>by cases e;rw [am h];exact ⟨[],rfl,aH⟩
 | u::us,_,ws,h,e=>by
  cb_eq;rcases ae h with ⟨v,r,rfl,h1,h2⟩;have e':((ko o u).bind fun v=>(og o u).bind fun b=>(mh o us).map fun vs=>IF b (v::vs) vs)=some ws:=e;rcases Option.bind_eq_some_iff.mp e' with ⟨w,hw,e2⟩;rcases Option.bind_eq_some_iff.mp e2 with ⟨b,hb,e3⟩;rcases Option.map_eq_some_iff.mp e3 with ⟨ws',hws,rfl⟩;rcases pD hI h1 hw with ⟨a,x,r',rfl,hm,vx⟩;rcases vX hI h1 hb with ⟨a',x',e4,hm'⟩;by_in
  cases e4
  rw [hm] at hm'
  cases hm'
  obtain ⟨xs,l1,l2⟩:=pP hI h2 hws
  cases b with
  | true=>exact ⟨x::xs,⟨a,x,true,rfl,hm,xs,rfl,l1⟩,aq vx l2⟩
  | false=>exact ⟨xs,⟨a,x,false,rfl,hm,l1⟩,l2⟩
set_option tactic.hygienic true in
theorem wQ {s:SE}{E:PE'}{p1 p2 p3 p4 pos:Pos}{kx:Nat}{sc:Scope}(hs:ch I.cs sc=true) (hfs:∀ env v,foldedSetIterable E env v=pure v) (he:al S cx X XX I n dd s E) :
  al S cx X XX I n dd (j7 mi s) (.ListComp (.Subscript (.Name (Str.ofString lab) p1) (.Constant (.int 0) kx p2) p3) [⟨.Name (Str.ofString lab) p4,E,[],0⟩] sc pos) :=
 fun H₀ ρ L o H l Q k hx hI hL h=>Am hs hfs (EV.mono (he H₀ ρ L o H l Q _ hx hI hL h) fun v H₁ q_=>q_.el fun u L₁ o₁ ρ₁ le₁ vu hI₁ hL₁ h₁=>by
  cases u
  case ref i =>
   cb_eq;rcases aC vu with ⟨y,hy,rfl⟩;by_in
   dsimp only at h₁
   generalize hat:o₁.at i=m at h₁
   cases m
   case lst us =>
    cb_eq;rcases h₁.IF with ⟨hs,h₂⟩;rcases h₂.oget with ⟨ws,hw,h₃⟩;rcases ck hI₁ hat hy with ⟨vs,hm,hvs⟩;rcases pQ hI₁ hvs hw with ⟨xs,l1,l2⟩;by_in;have:=bQ hs;rw [aA,hvs.length] at this;exact ⟨y,vs,xs,rfl,hm,l1,this,_,L₁,o₁,ρ₁,le₁,fX l2,hI₁,hL₁,h₃⟩
   all_goals exact h₁.out.elim
  all_goals exact h₁.out.elim)
set_option tactic.hygienic true in
theorem wP {s:SE}{E:PE'}{p1 p2 p3 p4 p5 p6 p7 pos:Pos}{kx ky:Nat}{sc:Scope}(hs:ch I.cs sc=true) (hfs:∀ env v,foldedSetIterable E env v=pure v) (he:al S cx X XX I n dd s E) :
  al S cx X XX I n dd (j7 mh s) (.ListComp (.Subscript (.Name (Str.ofString lab) p1) (.Constant (.int 0) kx p2) p3) [⟨.Name (Str.ofString lab) p4,E,[.Subscript (.Name (Str.ofString lab) p5) (.Constant (.int 1) ky p6) p7],0⟩] sc pos) :=
 fun H₀ ρ L o H l Q k hx hI hL h=>Al hs hfs (EV.mono (he H₀ ρ L o H l Q _ hx hI hL h) fun v H₁ q_=>q_.el fun u L₁ o₁ ρ₁ le₁ vu hI₁ hL₁ h₁=>by
  cases u
  case ref i =>
   cb_eq;rcases aC vu with ⟨y,hy,rfl⟩;by_in
   dsimp only at h₁
   generalize hat:o₁.at i=m at h₁
   cases m
   case lst us =>
    cb_eq;rcases h₁.IF with ⟨hs,h₂⟩;rcases h₂.oget with ⟨ws,hw,h₃⟩;rcases ck hI₁ hat hy with ⟨vs,hm,hvs⟩;rcases pP hI₁ hvs hw with ⟨xs,l1,l2⟩;by_in;have:=bQ hs;rw [aA,hvs.length] at this;exact ⟨y,vs,xs,rfl,hm,l1,this,_,L₁,o₁,ρ₁,le₁,fX l2,hI₁,hL₁,h₃⟩
   all_goals exact h₁.out.elim
  all_goals exact h₁.out.elim)
structure EOk (S:Sd) (cx:Cx) (X:Nat→Prop) (XX:Nat→MH→Prop) (I:FnI) (n dd:Nat) (e:XE) (E:PE'):Prop where
 ev:al S cx X XX I n dd (sem S.tb e) (aG S I e E)
 et:cu S cx X XX I n dd (sem S.tb e) (aG S I e E)
structure LOk (S:Sd) (cx:Cx) (X:Nat→Prop) (XX:Nat→MH→Prop) (I:FnI) (n dd:Nat) (es:XL) (Es:List PE'):Prop where
 ea:dD S cx X XX I n dd (jC S.tb es) (ba S I es Es)
 and:dw es=false→∀ pos,al S cx X XX I n dd (jC S.tb es).and (.BoolOp .And (ba S I es Es) pos)
 or:dw es=false→∀ pos,al S cx X XX I n dd (jC S.tb es).or (.BoolOp .Or (ba S I es Es) pos)
 etA:∀ pos,cu S cx X XX I n dd (jC S.tb es).and (.BoolOp .And (ba S I es Es) pos)
 etO:∀ pos,cu S cx X XX I n dd (jC S.tb es).or (.BoolOp .Or (ba S I es Es) pos)
theorem cH {i:Nat}(h:bU I i=true):i<I.nm.length:=by
 have:=Nat.le_of_ble_eq_true h;rw [aA] at this;exact this
theorem EOk.val {e:XE}{E:PE'}(h:al S cx X XX I n dd (sem S.tb e) (aG S I e E)) (hv:∀ env whole,isTrue (aG S I e E) env whole=(do let v ←whole;standAt (aG S I e E).pos;holding [v] (truthy v))):EOk S cx X XX I n dd e E:=⟨h,CH h hv⟩
theorem sO {es:XL}{Es:List PE'}{k m:Nat}(h:Nat.ble (bg es) k=true) (hk:k<m):(ba S I es Es).length<m:=by
 rw [dt];exact Nat.lt_of_le_of_lt (Nat.le_of_ble_eq_true h) hk
theorem EE {es:XL}{Es:List PE'}{m:Nat}(h:bg es<m):(ba S I es Es).length<m:=by rw [dt];exact h
theorem dbm {es:XL}{Es:List PE'}{a:Nat}(h:jT a (bg es)=true):jT a (ba S I es Es).length=true:=by rw [dt];exact h
theorem lO {b:Bool}(h:(!b)=true):b=false:=by cases b<;>first | rfl | cases h
theorem yD (F:Gf S mt) (Z:bP S I) (hT:cx.T.length<60000) (hC:jq S cx X XX n dd) (hN:bo I.cl 0=true∨bo I.cl 1=true→iN S cx X XX dd):∀ (e:XE) (E:PE'),okE S mt I e E=true→EOk S cx X XX I n dd e E:=by
 have D:=F.toDcts;have G:=F.toGd;intro e;refine @XE.rec (fun e=>∀ E,okE S mt I e E=true→EOk S cx X XX I n dd e E) (fun es=>∀ Es,okL S mt I es Es=true→LOk S cx X XX I n dd es Es)
  ?loc ?frz ?glob ?cnone ?cbool ?cint ?cstr ?attr ?bin ?cmp ?cmp2 ?and ?or ?not ?neg ?ife ?call ?new ?bi ?meth ?bm ?sub ?slc ?slf ?slt ?lst ?lstM ?tup ?dict ?comp ?compIf ?nil ?cons e
 case loc=>exact fun i E h=>EOk.val (Cz Z (cH h)) fun ε ε =>rfl
 case frz=>exact fun i E h=>EOk.val (CE Z (cH h)) fun ε ε =>rfl
 case glob=>exact fun g E h=>EOk.val (zw Z h) fun ε ε =>rfl
 case cnone=>exact fun E h=>EOk.val zq fun ε ε =>rfl
 case cbool=>exact fun b E h=>EOk.val zB fun ε ε =>rfl
 case cint=>exact fun i E h=>EOk.val CA fun ε ε =>rfl
 case cstr=>exact fun x E h=>EOk.val Cq fun ε ε =>rfl
 case attr=>exact fun e a ih E h=>EOk.val (zC G (ih _ (aa h).2).ev fun env=>lz (aa h).1) fun ε ε =>rfl
 case bin=>exact fun op e f ih1 ih2 E h=>EOk.val (CG (ih1 _ (aa h).1).ev (ih2 _ (aa h).2).ev) fun ε ε =>rfl
 case cmp=>exact fun op e f ih1 ih2 E h=>⟨CF D (ih1 _ (aa h).1).ev (ih2 _ (aa h).2).ev hO,CK D (ih1 _ (aa h).1).ev (ih2 _ (aa h).2).ev hO⟩
 case cmp2=>exact fun op op' e f g ih1 ih2 ih3 E h=>⟨zy D (ih1 _ (aa h).1).ev (ih2 _ (aa (aa h).2).1).ev (ih3 _ (aa (aa h).2).2).ev hO,zD D (ih1 _ (aa h).1).ev (ih2 _ (aa (aa h).2).1).ev (ih3 _ (aa (aa h).2).2).ev hO⟩
 case and=>exact fun es ih E h=>⟨(ih _ (aa h).2).and (lO (aa h).1) _,(ih _ (aa h).2).etA _⟩
 case or=>exact fun es ih E h=>⟨(ih _ (aa h).2).or (lO (aa h).1) _,(ih _ (aa h).2).etO _⟩
 case not=>exact fun e ih E h=>⟨Cv (ih _ h).ev,CI (ih _ h).et⟩
 case neg=>exact fun e ih E h=>EOk.val (Cw (ih _ h).ev) fun ε ε =>rfl
 case ife=>exact fun t e f ih1 ih2 ih3 E h=>⟨CB (ih1 _ (aa h).1).et (ih2 _ (aa (aa h).2).1).ev (ih3 _ (aa (aa h).2).2).ev,CJ (ih1 _ (aa h).1).et (ih2 _ (aa (aa h).2).1).et (ih3 _ (aa (aa h).2).2).et⟩
 case call=>exact fun f es ih E h=>EOk.val (zA Z hC (aa h).1 bE (dt.trans (Nat.eq_of_beq_eq_true (aa (aa h).2).1)) (ih _ (aa (aa h).2).2).ea) fun ε ε =>rfl
 case new=>exact fun c es ih E h=>EOk.val (by
  have h1:=(aa h).1;have h2:(ba S I es (kl E)).length+1=cr S (S.ini c):=(congrArg Nat.succ dt).trans (Nat.eq_of_beq_eq_true (aa (aa h).2).1);have h3:=(ih _ (aa (aa h).2).2).ea
  match c,h1,h2 with
  | 0,h1,h2=>exact zt F Z (hN (.inl h1)) h1 bE h2 h3
  | 1,h1,h2=>exact zs F Z (hN (.inr h1)) h1 bE h2 h3
  | c+2,h1,h2=>exact zr F Z hC h1 bE h2 h3) fun ε ε =>rfl
 case bi=>exact fun b es ih E h=>EOk.val (by
  have h1:=(aa h).1;have h2:=lO (aa (aa h).2).1;have h3:=(ih _ (aa (aa h).2).2).ea;have hp:=bE (S:=S) (I:=I) (es:=es) (Es:=kl E)
  cases es with
  | nil=>cases h2
  | cons a r=>exact Ez Z hT h1 hp h3) fun ε ε =>rfl
 case meth=>exact fun e c f es ih1 ih2 E h=>EOk.val (by
  have h1:=aa h;have h2:=aa h1.2;have h3:=aa h2.2;have h4:=aa h3.2;have h5:=aa h4.2;have h6:=aa h5.2;exact zu F hC h1.1 bE ((congrArg Nat.succ dt).trans (Nat.eq_of_beq_eq_true h2.1)) (sO h5.1 (by decide)) (fun x env=>lz h3.1) h4.1 (ih1 _ h6.1).ev (ih2 _ h6.2).ea) fun ε ε =>rfl
 case bm=>exact fun e a es ih1 ih2 E h=>EOk.val (by
  have h1:=aa h;have h2:=aa h1.2;have h3:=aa h2.2;have h4:=aa h3.2;have hlt:bg es<30:=by
   have:=h3.1;unfold jT at this
   split at this<;>first | cases this | (have:=Nat.eq_of_beq_eq_true this;omega)
  exact Ey D hT bE (dbm h3.1) (EE hlt) (fun x env=>lz h1.1) h2.1 (ih1 _ h4.1).ev (ih2 _ h4.2).ea) fun ε ε =>rfl
 case sub=>exact fun e f ih1 ih2 E h=>EOk.val (Cp D hT (ih1 _ (aa h).1).ev (ih2 _ (aa h).2).ev si) fun ε ε =>rfl
 case slc=>exact fun e a b ih1 ih2 ih3 E h=>EOk.val (Cu hT (ih1 _ (aa h).1).ev (ih2 _ (aa (aa h).2).1).ev (ih3 _ (aa (aa h).2).2).ev) fun ε ε =>rfl
 case slf=>exact fun e a ih1 ih2 E h=>EOk.val (Cs (ih1 _ (aa h).1).ev (ih2 _ (aa h).2).ev) fun ε ε =>rfl
 case slt=>exact fun e a ih1 ih2 E h=>EOk.val (Cr (ih1 _ (aa h).1).ev (ih2 _ (aa h).2).ev) fun ε ε =>rfl
 case lst=>exact fun es ih E h=>EOk.val (Cy (sO (aa h).1 (by decide)) (ih _ (aa h).2).ea) fun ε ε =>rfl
 case lstM=>exact fun es ih E h=>EOk.val (zv (sO (aa h).1 (by decide)) (ih _ (aa h).2).ea) fun ε ε =>rfl
 case tup=>exact fun es ih E h=>EOk.val (Co (sO (aa h).1 (by decide)) (ih _ (aa h).2).ea) fun ε ε =>rfl
 case dict=>exact fun E h=>EOk.val zx fun ε ε =>rfl
 case comp =>
  intro e ih E h;have h':AND (ch I.cs (ej E I.cs)) (okE S mt I e (k1 E))=true:=h;exact EOk.val (wQ (aa h').1 (fun ε ε =>jb) (ih _ (aa h').2).ev) fun ε ε =>rfl
 case compIf =>
  intro e ih E h;have h':AND (ch I.cs (ej E I.cs)) (okE S mt I e (k1 E))=true:=h;exact EOk.val (wP (aa h').1 (fun ε ε =>jb) (ih _ (aa h').2).ev) fun ε ε =>rfl
 case nil=>exact fun Es h=>⟨uH,fun z=>(by cases z),fun z=>(by cases z),fun pos=>uE,fun pos=>wR⟩
 case cons =>
  intro e es ih1 ih2 Es h;have a:=ih1 _ (aa h).1;have b:=ih2 _ (aa h).2;refine ⟨rc eF a.ev b.ea,fun ε pos=>?_,fun ε pos=>?_,fun pos=>sM a.et (b.etA pos),fun pos=>uC a.et (b.etO pos)⟩
  ·cases es with
   | nil=>exact zS a.ev
   | cons f r=>exact xe a.ev (b.and rfl pos)
  ·cases es with
   | nil=>exact B1 a.ev
   | cons f r=>exact y0 a.ev (b.or rfl pos)
end
end Mine
end
section
open PySem PySem.W PySem.Calls PyProof.Rows
noncomputable section
namespace Mine
noncomputable abbrev PS':=PySem.Stmt
noncomputable def noE:PE':=.Constant .none 0 ⟨0,0,0,0⟩
noncomputable def tgE:PS'→PE'
 | .Assign (t::_) _ _=>t
 | .AugAssign t _ _ _=>t
 | .For t _ _ _ _=>t
 | _=>noE
noncomputable def vlE:PS'→PE'
 | .Assign _ e _=>e
 | .AugAssign _ _ e _=>e
 | .Return (some e) _=>e
 | .If e _ _ _=>e
 | .While e _ _ _=>e
 | .For _ e _ _ _=>e
 | .Expr e _=>e
 | .Raise (some e) _ _=>e
 | _=>noE
noncomputable def bdS:PS'→List PS'
 | .If _ b _ _=>b
 | .While _ b _ _=>b
 | .For _ _ b _ _=>b
 | _=>[]
noncomputable def elS:PS'→List PS'
 | .If _ _ b _=>b
 | _=>[]
noncomputable def hdS:List PS'→PS'
 | s::_=>s
 | []=>.Pass ⟨0,0,0,0⟩
noncomputable def tlS:List PS'→List PS'
 | _::r=>r
 | []=>[]
noncomputable def swR (ts vs:List PE') (cs:Scope):Option (Option (List Str)) :=
 if !(ts.length==2||ts.length==3)||vs.length != ts.length then some none
 else
  let line:=(ts.head?.map (·.pos.line)).getD 0
  let names:=ts.filterMap fun
   | .Name id pos=>if cs.names.lookup id==some .local&&pos.line==line then some id else none
   | _=>none
  if names.length != ts.length||names.eraseDups.length != names.length then some none
  else if vs.all (foldedForSure 8) then some none
  else if vs.all (constantsAlone 8) then none
  else some (some names)
noncomputable def pr:XE→Bool
 | .tup _=>true
 | _=>false
noncomputable def bT (ts:List XE):List Nat:=@List.rec XE (fun ε =>List Nat) [] (fun t ε ih=>match t with
 | .loc i=>i::ih
 | _=>ih) ts
noncomputable def gD (ts:List XE):Bool:=@List.rec XE (fun ε =>Bool) true (fun t ε ih=>match t with
 | .loc _=>ih
 | .attr _ _=>ih
 | _=>false) ts
noncomputable def ndB (l:List Nat):Bool:=@List.rec Nat (fun ε =>Bool) true (fun a r ih=>AND (!bo r a) ih) l
section
variable (S:Sd) (I:FnI)
noncomputable def Fa:XS→PS'→PS':=fun s=>@XS.rec (fun ε =>PS'→PS') (fun ε =>List PS'→List PS')
 (fun i e St=>.Assign [dNm (af "" I.nm i) (tgE St)] (aG S I e (vlE St)) St.pos)
 (fun e a v St=>.Assign [.Attribute (aG S I e (k1 (tgE St))) (Str.ofString (S.an a)) (tgE St).pos] (aG S I v (vlE St)) St.pos)
 (fun e i v St=>.Assign [.Subscript (aG S I e (k1 (tgE St))) (aG S I i (k2 (tgE St))) (tgE St).pos] (aG S I v (vlE St)) St.pos)
 (fun ε ts e St=>.Assign [.Tuple (ba S I ts (kl (tgE St))) (kk (tgE St)) (tgE St).pos] (aG S I e (vlE St)) St.pos)
 (fun i op e St=>.AugAssign (dNm (af "" I.nm i) (tgE St)) op (aG S I e (vlE St)) St.pos)
 (fun e a op v St=>.AugAssign (.Attribute (aG S I e (k1 (tgE St))) (Str.ofString (S.an a)) (tgE St).pos) op (aG S I v (vlE St)) St.pos)
 (fun e St=>.Return (some (aG S I e (vlE St))) St.pos) (fun St=>.Return none St.pos)
 (fun t ε ε b o St=>.If (aG S I t (vlE St)) (b (bdS St)) (o (elS St)) St.pos)
 (fun t ε b St=>.While (aG S I t (vlE St)) (b (bdS St)) [] St.pos)
 (fun i e ε b St=>.For (dNm (af "" I.nm i) (tgE St)) (aG S I e (vlE St)) (b (bdS St)) [] St.pos)
 (fun i e ε b St=>.For (dNm (af "" I.nm i) (tgE St)) (.Call (dNm "range" (k1 (vlE St))) [aG S I e (hdE (kl (vlE St)))] [] (vlE St).pos) (b (bdS St)) [] St.pos)
 (fun i e f ε b St=>.For (dNm (af "" I.nm i) (tgE St)) (.Call (dNm "range" (k1 (vlE St))) [aG S I e (hdE (kl (vlE St))),aG S I f (hdE (tlE (kl (vlE St))))] [] (vlE St).pos) (b (bdS St)) [] St.pos)
 (fun e St=>.Expr (aG S I e (vlE St)) St.pos)
 (fun es St=>.Raise (some (.Call (dNm "SyntaxFail" (k1 (vlE St))) (ba S I es (kl (vlE St))) [] (vlE St).pos)) none St.pos)
 (fun St=>.Break St.pos) (fun St=>.Continue St.pos) (fun St=>.Pass St.pos)
 (fun ε =>[]) (fun ε ε s b Ss=>s (hdS Ss)::b (tlS Ss)) s
noncomputable def sP:XB→List PS'→List PS':=fun s=>@XB.rec (fun ε =>PS'→PS') (fun ε =>List PS'→List PS')
 (fun i e St=>.Assign [dNm (af "" I.nm i) (tgE St)] (aG S I e (vlE St)) St.pos)
 (fun e a v St=>.Assign [.Attribute (aG S I e (k1 (tgE St))) (Str.ofString (S.an a)) (tgE St).pos] (aG S I v (vlE St)) St.pos)
 (fun e i v St=>.Assign [.Subscript (aG S I e (k1 (tgE St))) (aG S I i (k2 (tgE St))) (tgE St).pos] (aG S I v (vlE St)) St.pos)
 (fun ε ts e St=>.Assign [.Tuple (ba S I ts (kl (tgE St))) (kk (tgE St)) (tgE St).pos] (aG S I e (vlE St)) St.pos)
 (fun i op e St=>.AugAssign (dNm (af "" I.nm i) (tgE St)) op (aG S I e (vlE St)) St.pos)
 (fun e a op v St=>.AugAssign (.Attribute (aG S I e (k1 (tgE St))) (Str.ofString (S.an a)) (tgE St).pos) op (aG S I v (vlE St)) St.pos)
 (fun e St=>.Return (some (aG S I e (vlE St))) St.pos) (fun St=>.Return none St.pos)
 (fun t ε ε b o St=>.If (aG S I t (vlE St)) (b (bdS St)) (o (elS St)) St.pos)
 (fun t ε b St=>.While (aG S I t (vlE St)) (b (bdS St)) [] St.pos)
 (fun i e ε b St=>.For (dNm (af "" I.nm i) (tgE St)) (aG S I e (vlE St)) (b (bdS St)) [] St.pos)
 (fun i e ε b St=>.For (dNm (af "" I.nm i) (tgE St)) (.Call (dNm "range" (k1 (vlE St))) [aG S I e (hdE (kl (vlE St)))] [] (vlE St).pos) (b (bdS St)) [] St.pos)
 (fun i e f ε b St=>.For (dNm (af "" I.nm i) (tgE St)) (.Call (dNm "range" (k1 (vlE St))) [aG S I e (hdE (kl (vlE St))),aG S I f (hdE (tlE (kl (vlE St))))] [] (vlE St).pos) (b (bdS St)) [] St.pos)
 (fun e St=>.Expr (aG S I e (vlE St)) St.pos)
 (fun es St=>.Raise (some (.Call (dNm "SyntaxFail" (k1 (vlE St))) (ba S I es (kl (vlE St))) [] (vlE St).pos)) none St.pos)
 (fun St=>.Break St.pos) (fun St=>.Continue St.pos) (fun St=>.Pass St.pos)
 (fun ε =>[]) (fun ε ε s b Ss=>s (hdS Ss)::b (tlS Ss)) s
noncomputable def vN (ts:XL) (T:List PE') (e:XE) (E:PE'):Bool:=AND (gD (xls ts)) (IF (pr e)
 (match swR (ba S I ts T) (kl (aG S I e E)) I.cs with
  | some none=>true
  | some (some _)=>AND (Nat.beq (aF (bT (xls ts))) (bg ts)) (ndB (bT (xls ts)))
  | none=>false) true)
variable (mt:Nat→Pth→Bool)
noncomputable def okS:XS→PS'→Bool:=fun s=>@XS.rec (fun ε =>PS'→Bool) (fun ε =>List PS'→Bool)
 (fun i e St=>AND (bU I i) (AND (cY e) (okE S mt I e (vlE St))))
 (fun e a v St=>AND (okE S mt I e (k1 (tgE St))) (AND (cY v) (okE S mt I v (vlE St))))
 (fun e i v St=>AND (okE S mt I e (k1 (tgE St))) (AND (okE S mt I i (k2 (tgE St))) (AND (cY v) (okE S mt I v (vlE St)))))
 (fun ε ts e St=>AND (okL S mt I ts (kl (tgE St))) (AND (cY e) (AND (okE S mt I e (vlE St)) (vN S I ts (kl (tgE St)) e (vlE St)))))
 (fun i ε e St=>AND (bU I i) (okE S mt I e (vlE St)))
 (fun e ε ε v St=>AND (okE S mt I e (k1 (tgE St))) (okE S mt I v (vlE St)))
 (fun e St=>okE S mt I e (vlE St)) (fun ε =>true)
 (fun t ε ε b o St=>AND (okE S mt I t (vlE St)) (AND (b (bdS St)) (o (elS St))))
 (fun t ε b St=>AND (okE S mt I t (vlE St)) (b (bdS St)))
 (fun i e ε b St=>AND (bU I i) (AND (okE S mt I e (vlE St)) (b (bdS St))))
 (fun i e ε b St=>AND I.rg (AND (bU I i) (AND (okE S mt I e (hdE (kl (vlE St)))) (b (bdS St)))))
 (fun i e f ε b St=>AND I.rg (AND (bU I i) (AND (okE S mt I e (hdE (kl (vlE St)))) (AND (okE S mt I f (hdE (tlE (kl (vlE St))))) (b (bdS St))))))
 (fun e St=>AND (cY e) (okE S mt I e (vlE St)))
 (fun es St=>AND I.ex (okL S mt I es (kl (vlE St))))
 (fun ε =>true) (fun ε =>true) (fun ε =>true) (fun ε =>true) (fun ε ε s b Ss=>AND (s (hdS Ss)) (b (tlS Ss))) s
noncomputable def okB:XB→List PS'→Bool:=fun s=>@XB.rec (fun ε =>PS'→Bool) (fun ε =>List PS'→Bool)
 (fun i e St=>AND (bU I i) (AND (cY e) (okE S mt I e (vlE St))))
 (fun e a v St=>AND (okE S mt I e (k1 (tgE St))) (AND (cY v) (okE S mt I v (vlE St))))
 (fun e i v St=>AND (okE S mt I e (k1 (tgE St))) (AND (okE S mt I i (k2 (tgE St))) (AND (cY v) (okE S mt I v (vlE St)))))
 (fun ε ts e St=>AND (okL S mt I ts (kl (tgE St))) (AND (cY e) (AND (okE S mt I e (vlE St)) (vN S I ts (kl (tgE St)) e (vlE St)))))
 (fun i ε e St=>AND (bU I i) (okE S mt I e (vlE St)))
 (fun e ε ε v St=>AND (okE S mt I e (k1 (tgE St))) (okE S mt I v (vlE St)))
 (fun e St=>okE S mt I e (vlE St)) (fun ε =>true)
 (fun t ε ε b o St=>AND (okE S mt I t (vlE St)) (AND (b (bdS St)) (o (elS St))))
 (fun t ε b St=>AND (okE S mt I t (vlE St)) (b (bdS St)))
 (fun i e ε b St=>AND (bU I i) (AND (okE S mt I e (vlE St)) (b (bdS St))))
 (fun i e ε b St=>AND I.rg (AND (bU I i) (AND (okE S mt I e (hdE (kl (vlE St)))) (b (bdS St)))))
 (fun i e f ε b St=>AND I.rg (AND (bU I i) (AND (okE S mt I e (hdE (kl (vlE St)))) (AND (okE S mt I f (hdE (tlE (kl (vlE St))))) (b (bdS St))))))
 (fun e St=>AND (cY e) (okE S mt I e (vlE St)))
 (fun es St=>AND I.ex (okL S mt I es (kl (vlE St))))
 (fun ε =>true) (fun ε =>true) (fun ε =>true) (fun ε =>true) (fun ε ε s b Ss=>AND (s (hdS Ss)) (b (tlS Ss))) s
end
section
variable (S:Sd) (cx:Cx) (X:Nat→Prop) (XX:Nat→MH→Prop) (I:FnI) (n dd:Nat)
inductive PN (H₀:MH) (ρ : Rh) (G:Lc→O→Prop) (l':Loc) (H':MH):Prop
 | mk (L':Lc) (o':O) (ρ':Rh) (le:Rle ρ ρ') (hI:Inv S cx H₀ ρ' o' H') (hL:bu S cx ρ' I.nm L' l') (g:G L' o'):PN H₀ ρ G l' H'
noncomputable def PX (H₀:MH) (ρ : Rh) (Q:U→O→Prop) (kn kb kc:K0):Fl→Loc→MH→Prop
 | .next,l',H'=>PN S cx I H₀ ρ (fun L o=>Ask S cx X n Q (kn L o)) l' H'
 | .brk,l',H'=>PN S cx I H₀ ρ (fun L o=>Ask S cx X n Q (kb L o)) l' H'
 | .cont,l',H'=>PN S cx I H₀ ρ (fun L o=>Ask S cx X n Q (kc L o)) l' H'
 | .ret v,_,H'=>PC S cx H₀ ρ Q v H'
noncomputable def cy (s:SX) (St:PS'):Prop:=∀ (H₀:MH) (ρ : Rh) (L:Lc) (o:O) (H:MH) (l:Loc) (Q:U→O→Prop) (kn kb kc:K0),XOK cx X XX H₀→Inv S cx H₀ ρ o H→bu S cx ρ I.nm L l →
 Ask S cx X n Q (s L o kn kb kc)→EX S.W ⟨dd,XX⟩ I.cs St l H (PX S cx X I n H₀ ρ Q kn kb kc)
noncomputable def fN (s:SX) (Ss:List PS'):Prop:=∀ (H₀:MH) (ρ : Rh) (L:Lc) (o:O) (H:MH) (l:Loc) (Q:U→O→Prop) (kn kb kc:K0),XOK cx X XX H₀→Inv S cx H₀ ρ o H→bu S cx ρ I.nm L l →
 Ask S cx X n Q (s L o kn kb kc)→EXS S.W ⟨dd,XX⟩ I.cs Ss l H (PX S cx X I n H₀ ρ Q kn kb kc)
end
section
variable {S:Sd}{cx:Cx}{I:FnI}{H₀:MH}{ρ : Rh}{H':MH}{P:Prop}
theorem PN.el {G:Lc→O→Prop}{l':Loc}(h:PN S cx I H₀ ρ G l' H') (k:∀ L' o' ρ',Rle ρ ρ'→Inv S cx H₀ ρ' o' H'→bu S cx ρ' I.nm L' l'→G L' o'→P):P:=h.rec k
end
theorem EX.mono {W:Wd}{d:Dx}{cs:Scope}{l:Loc}{H:MH}{st:PS'}{Q Q':Fl→Loc→MH→Prop}(h:EX W d cs st l H Q) (k:∀ f l' H',Q f l' H'→Q' f l' H'):EX W d cs st l H Q' :=
 Box.mk fun C news ow s Qr hc ho hs hk=>h.go C news ow s Qr hc ho hs fun f F l' H' n' o' s' a b c fr q=>hk f F l' H' n' o' s' a b c fr (k f l' H' q)
theorem EXS.mono {W:Wd}{d:Dx}{cs:Scope}{l:Loc}{H:MH}{st:List PS'}{Q Q':Fl→Loc→MH→Prop}(h:EXS W d cs st l H Q) (k:∀ f l' H',Q f l' H'→Q' f l' H'):EXS W d cs st l H Q' :=
 Box.mk fun C news ow s Qr hc ho hs hk=>h.go C news ow s Qr hc ho hs fun f F l' H' n' o' s' a b c fr q=>hk f F l' H' n' o' s' a b c fr (k f l' H' q)
section
variable {S:Sd}{cx:Cx}{X:Nat→Prop}{XX:Nat→MH→Prop}{I:FnI}{n dd:Nat}{mt:Nat→Pth→Bool}
theorem PN.le {H₀:MH}{ρ ρ':Rh}{G:Lc→O→Prop}{l':Loc}{H':MH}(le:Rle ρ ρ') (h:PN S cx I H₀ ρ' G l' H'):PN S cx I H₀ ρ G l' H':=h.el fun L o r a c d e=>⟨L,o,r,le.trans a,c,d,e⟩
theorem PC.le {H₀:MH}{ρ ρ':Rh}{Q:U→O→Prop}{v:V}{H':MH}(le:Rle ρ ρ') (h:PC S cx H₀ ρ' Q v H'):PC S cx H₀ ρ Q v H':=h.el fun u o r a c d e=>⟨u,o,r,le.trans a,c,d,e⟩
theorem PX.le {H₀:MH}{ρ ρ':Rh}{Q:U→O→Prop}{kn kb kc:K0}{f:Fl}{l':Loc}{H':MH}(le:Rle ρ ρ') (h:PX S cx X I n H₀ ρ' Q kn kb kc f l' H'):PX S cx X I n H₀ ρ Q kn kb kc f l' H':=by
 cases f with
 | next=>exact PN.le le h
 | brk=>exact PN.le le h
 | cont=>exact PN.le le h
 | ret v=>exact PC.le le h
theorem AE (Z:bP S I){i:Nat}(hi:i<I.nm.length){e:XE}{E:PE'}{np pos:Pos}(hs:∀ env,swapsWith E (some (.Name (Str.ofString (af "" I.nm i)) np)) pos.line env=pure false) (he:al S cx X XX I n dd (sem S.tb e) E) :
  cy S cx X XX I n dd (vM S.tb i e) (.Assign [.Name (Str.ofString (af "" I.nm i)) np] E pos) :=
 fun H₀ ρ L o H l Q kn kb kc hx hI hL h=>bL (Z.loc i hi).1 hs (EV.mono (he H₀ ρ L o H l Q _ hx hI hL h) fun v H₁ q_=>q_.el fun u L₁ o₁ ρ₁ le₁ vu hI₁ hL₁ h₁=>⟨_,o₁,ρ₁,le₁,hI₁,hL₁.set Z.nd hi vu,h₁⟩)
theorem yg (G:Gd S){e v:XE}{a:Nat}{E F:PE'}{ap pos:Pos}(hs:∀ env,swapsWith F (some (.Attribute E (Str.ofString (S.an a)) ap)) pos.line env=pure false) (he:al S cx X XX I n dd (sem S.tb e) E) (hv:al S cx X XX I n dd (sem S.tb v) F) :
  cy S cx X XX I n dd (rB S.tb cx e a v) (.Assign [.Attribute E (Str.ofString (S.an a)) ap] F pos) :=
 fun H₀ ρ L o H l Q kn kb kc hx hI hL h=>ti hs (EV.mono (hv H₀ ρ L o H l Q _ hx hI hL h) fun v H₁ q_=>q_.el fun u L₁ o₁ ρ₁ le₁ vu hI₁ hL₁ h₁=>EV.mono (he H₀ ρ₁ L₁ o₁ H₁ l Q _ hx hI₁ hL₁ h₁) fun v' H₂ q_=>q_.el fun u' L₂ o₂ ρ₂ le₂ vu' hI₂ hL₂ h₂=>by
  cb_eq;rcases mD G hI₂ vu' (vu.mono le₂) h₂ with ⟨y,C,ks,vs,o₃,e1,e2,e3,e4,hI₃,h₃⟩;by_in;exact ⟨y,C,ks,vs,e1,e2,e3,e4,L₂,o₃,ρ₂,le₁.trans le₂,hI₃,hL₂,h₃⟩)
set_option tactic.hygienic true in
theorem nU {op:Operator}{u v w:U}{ρ : Rh}{a b:V}(hu:VU S cx ρ u a) (hv:VU S cx ρ v b) (e:xd op u v=some w){d:Dx}{l:Loc}{H:MH}{cs:Scope}{Q:V→MH→Prop}(hq:∀ c,VU S cx ρ w c→Q c H):T2 S.W d cs l H a b (inplaceOp op) Q:=by
 cases u<;>first | (cases e;done) | skip
 case int i =>
  rw [ao hu]
  cases op<;>first | (cases e;done) | skip
  ·refine cZ (show inK v (fun j=>l0 .Add i j)=some w from e) fun j e1 e=>?_
   cases e
   rw [e1] at hv;rw [ao hv];exact ir (hq _ (bM rfl))
  ·refine cZ (show inK v (fun j=>l0 .Sub i j)=some w from e) fun j e1 e=>?_
   cases e
   rw [e1] at hv;rw [ao hv];exact kQ (hq _ (bM rfl))
 case pos r k o =>
  obtain ⟨hr,hi,ev⟩:=bx hu;rw [ev]
  cases op<;>first | (cases e;done) | skip
  ·refine cZ (show inK v (fun j=>o0 .Add r k o j)=some w from e) fun j e1 e=>?_
   cases e
   rw [e1] at hv;rw [ao hv];exact ir (hq _ (gC hr hi (Int.add_assoc _ _ _)))
  ·refine cZ (show inK v (fun j=>o0 .Sub r k o j)=some w from e) fun j e1 e=>?_
   cases e
   rw [e1] at hv;rw [ao hv];exact kQ (hq _ (gC hr hi (Int.add_sub_assoc _ _ _)))
 case ln k =>
  rw [cM hu]
  cases op<;>first | (cases e;done) | skip
  ·refine cZ (show inK v (fun j=>sz .Add k j)=some w from e) fun j e1 e=>?_
   cases e
   rw [e1] at hv;rw [ao hv];exact ir (hq _ (n8 (Int.add_assoc _ _ _)))
  ·exact cZ (show inK v (fun j=>sz .Sub k j)=some w from e) fun j e1 e=>by cases e
theorem yd (Z:bP S I){i:Nat}(hi:i<I.nm.length){op:Operator}{e:XE}{E:PE'}{np pos:Pos}(he:al S cx X XX I n dd (sem S.tb e) E):cy S cx X XX I n dd (ry S.tb i op e) (.AugAssign (.Name (Str.ofString (af "" I.nm i)) np) op E pos) :=
 fun H₀ ρ L o H l Q kn kb kc hx hI hL h=>by
  obtain ⟨hu,h⟩:=h.unb;obtain ⟨v,hv,vu⟩:=hL.get i _ rfl (fun e=>by rw [e] at hu;exact nomatch hu);exact EX_augname hv (Z.loc i hi).1 (EV.mono (he H₀ ρ L o H l Q _ hx hI hL h) fun v' H₁ q_=>q_.el fun u' L₁ o₁ ρ₁ le₁ vu' hI₁ hL₁ h₁ =>
   let ⟨w,hw,h₂⟩:=h₁.oget
   nU (vu.mono le₁) vu' hw fun c vc=>⟨_,o₁,ρ₁,le₁,hI₁,hL₁.set Z.nd hi vc,h₂⟩)
set_option tactic.hygienic true in
theorem ye (G:Gd S){e v:XE}{a:Nat}{op:Operator}{E F:PE'}{ap pos:Pos}(he:al S cx X XX I n dd (sem S.tb e) E) (hv:al S cx X XX I n dd (sem S.tb v) F):cy S cx X XX I n dd (rz S.tb cx e a op v) (.AugAssign (.Attribute E (Str.ofString (S.an a)) ap) op F pos) :=
 fun H₀ ρ L o H l Q kn kb kc hx hI hL h=>tm (EV.mono (he H₀ ρ L o H l Q _ hx hI hL h) fun w₀ H₁ q_=>q_.el fun u L₁ o₁ ρ₁ le₁ vu hI₁ hL₁ h₁=>by
  obtain ⟨hr,h₁⟩:=h₁.IF
  cases u
  case ref a =>
   have vu₀:=vu;cb_eq;rcases aC vu with ⟨y,hy,rfl⟩;rcases h₁.oget with ⟨x,hx',h₂⟩;by_in;refine ⟨y,rfl,rm G hI₁ vu₀ hx' fun c vc=>EV.mono (hv H₀ ρ₁ L₁ o₁ H₁ l Q _ hx hI₁ hL₁ h₂) fun v' H₂ q_=>q_.el fun u' L₂ o₂ ρ₂ le₂ vu' hI₂ hL₂ h₃=>?_⟩;obtain ⟨w,hw,h₄⟩:=h₃.oget;refine nU (vc.mono le₂) vu' hw fun c' vc'=>?_;cb_eq;rcases mD G hI₂ (vu₀.mono le₂) vc' h₄ with ⟨y',C,ks,vs,o₃,e1,e2,e3,e4,hI₃,h₅⟩;by_in
   cases e1
   exact ⟨C,ks,vs,e2,e3,e4,L₂,o₃,ρ₂,le₁.trans le₂,hI₃,hL₂,h₅⟩
  all_goals cases hr)
theorem Az {e:XE}{E:PE'}{pos:Pos}(he:al S cx X XX I n dd (sem S.tb e) E):cy S cx X XX I n dd (vJ S.tb e) (.Return (some E) pos) :=
 fun H₀ ρ L o H l Q kn kb kc hx hI hL h=>dF (EV.mono (he H₀ ρ L o H l Q _ hx hI hL h) fun v H₁ q_=>q_.el fun u L₁ o₁ ρ₁ le₁ vu hI₁ hL₁ h₁=>⟨u,o₁,ρ₁,le₁,vu,hI₁,h₁.ok⟩)
theorem x9 {pos:Pos}:cy S cx X XX I n dd (fun ε o ε ε ε =>.ok .none o) (.Return none pos) :=
 fun H₀ ρ L o H l Q kn kb kc hx hI hL h=>tj ⟨_,o,ρ,Rle.refl _,j0,hI,h.ok⟩
theorem AA {t:XE}{T:PE'}{b e:SX}{B E:List PS'}{pos:Pos}(ht:cu S cx X XX I n dd (sem S.tb t) T) (hb:fN S cx X XX I n dd b B) (he:fN S cx X XX I n dd e E):cy S cx X XX I n dd (vK S.tb t b e) (.If T B E pos) :=
 fun H₀ ρ L o H l Q kn kb kc hx hI hL h=>kC (ET.mono (ht H₀ ρ L o H l Q _ _ hx hI hL h) fun c H₁ q_=>q_.el fun L₁ o₁ ρ₁ le₁ hI₁ hL₁ h₁=>by
  cases c with
  | true=>exact EXS.mono (hb H₀ ρ₁ L₁ o₁ H₁ l Q kn kb kc hx hI₁ hL₁ h₁) fun f l' H' q=>PX.le le₁ q
  | false=>exact EXS.mono (he H₀ ρ₁ L₁ o₁ H₁ l Q kn kb kc hx hI₁ hL₁ h₁) fun f l' H' q=>PX.le le₁ q)
theorem yc (Z:bP S I){e:XE}{E:PE'}{pos:Pos}(hs:∀ env,swapsWith E none pos.line env=pure false) (he:al S cx X XX I n dd (sem S.tb e) E):cy S cx X XX I n dd (rv S.tb e) (.Expr E pos) :=
 fun H₀ ρ L o H l Q kn kb kc hx hI hL h=>ro (fun env hk=>by unfold interactive;rw [hk];rfl) hs (EV.mono (he H₀ ρ L o H l Q _ hx hI hL h) fun v H₁ q_=>q_.el fun u L₁ o₁ ρ₁ le₁ vu hI₁ hL₁ h₁=>⟨L₁,o₁,ρ₁,le₁,hI₁,hL₁,h₁⟩)
theorem AD {pos:Pos}:cy S cx X XX I n dd (fun L o ε kb ε =>kb L o) (.Break pos):=fun H₀ ρ L o H l Q kn kb kc hx hI hL h=>xq ⟨L,o,ρ,Rle.refl _,hI,hL,h⟩
theorem AC {pos:Pos}:cy S cx X XX I n dd (fun L o ε ε kc=>kc L o) (.Continue pos):=fun H₀ ρ L o H l Q kn kb kc hx hI hL h=>qr ⟨L,o,ρ,Rle.refl _,hI,hL,h⟩
theorem ya {pos:Pos}:cy S cx X XX I n dd (fun L o kn ε ε =>kn L o) (.Pass pos):=fun H₀ ρ L o H l Q kn kb kc hx hI hL h=>Ai ⟨L,o,ρ,Rle.refl _,hI,hL,h⟩
theorem AF:fN S cx X XX I n dd (fun L o kn ε ε =>kn L o) []:=fun H₀ ρ L o H l Q kn kb kc hx hI hL h=>dP ⟨L,o,ρ,Rle.refl _,hI,hL,h⟩
theorem yh {s b:SX}{St:PS'}{B:List PS'}(hs:cy S cx X XX I n dd s St) (hb:fN S cx X XX I n dd b B):fN S cx X XX I n dd (fun L o kn kb kc=>s L o (fun L o=>b L o kn kb kc) kb kc) (St::B) :=
 fun H₀ ρ L o H l Q kn kb kc hx hI hL h=>az (EX.mono (hs H₀ ρ L o H l Q _ kb kc hx hI hL h) fun f l' H' q=>by
  cases f with
  | next =>
   cb_eq;rcases q with ⟨L₁,o₁,ρ₁,le₁,hI₁,hL₁,h₁⟩;by_in;exact EXS.mono (hb H₀ ρ₁ L₁ o₁ H' l' Q kn kb kc hx hI₁ hL₁ h₁) fun f l'' H'' q=>PX.le le₁ q
  | brk=>exact q
  | cont=>exact q
  | ret v=>exact q)
set_option tactic.hygienic true in
theorem DP {P:Rs→Prop}{us:List U}{G:Prop}(hP:¬P .out) (h:P (xr us)) (k:∀ u n,us=[u,.ln (.ofNat n)]→P (.fail n)→G):G:=by
 cases us with
 | nil=>exact (hP h).elim
 | cons u us =>
 cases us with
 | nil=>exact (hP h).elim
 | cons w us =>
 cases us with
 | cons _ _=>cases w<;>first | exact (hP h).elim | (rename_i z;cases z<;>exact (hP h).elim)
 | nil =>
 cases w<;>first | exact (hP h).elim | skip
 rename_i z
 cases z with
 | ofNat n=>exact k u n rfl h
 | negSucc _=>exact (hP h).elim
theorem vG (F:Gf S mt) (Z:bP S I) (hex:I.ex=true){es:XL}{Es:List PE'}{np cpos pos:Pos}(hp:Es.all aE=true) (hr:dD S cx X XX I n dd (jC S.tb es) Es):cy S cx X XX I n dd (oE S.tb es) (.Raise (some (.Call (.Name (Str.ofString "SyntaxFail") np) Es [] cpos)) none pos) :=
 fun H₀ ρ L o H l Q kn kb kc hx hI hL h=>by
  cb_eq;rcases F.xc with ⟨fI,ib,isc,hX⟩;rcases Z.exc hex with ⟨z1,z2,z3,z4⟩;by_in;refine xp hX z1 z2 z3 z4 hp (EA.mono (hr H₀ ρ L o H l Q _ hx hI hL h) fun vs H₁ q_=>q_.el fun us L₁ o₁ ρ₁ hm le₁ vus hI₁ hL₁ h₁=>?_);refine DP (P:=fun r=>Ask S cx X n Q r) (fun z=>z.out) h₁ fun u k e h₁=>?_
  ·subst e;cb_eq;rcases ae vus with ⟨v,r,rfl,v1,v2⟩;rcases ae v2 with ⟨v',r',rfl,v3,v4⟩;by_in
   cases am v4
   cases cM v3
   exact ⟨v,cx.lam+k,rfl,fun H' hH=>hx k H' h₁.fail fun b x hb=>hH b x (hI₁.base b x hb)⟩
end
end Mine
end
section
open PySem PySem.W PySem.Calls PyProof.Rows
noncomputable section
namespace Mine
theorem oR:∀ {vs:List PE'},vs.all aE=true→(vs.any fun | .Starred ..=>true | _=>false)=false
 | [],_=>rfl
 | e::r,h=>by
  obtain ⟨a,b⟩:=Bool.and_eq_true_iff.mp (List.all_cons▸h);rw [List.any_cons,oR b]
  cases e<;>first | rfl | cases a
set_option tactic.hygienic true in
theorem xA {ts vs:List PE'}{k k':Nat}{p p':Pos}{cs:Scope}{r:Option (List Str)}{cn:Str}{L a:Addr}{cd:Value}(hp:vs.all aE=true) (hk:cs.kind=.function) (h:swR ts vs cs=some r) :
  swappedStores [.Tuple ts k p] (.Tuple vs k' p') (envOf cn cs L a cd)=pure r:=by
 have hb:(envOf cn cs L a cd).blockKind=.function:=by
  unfold Env.blockKind;show (if cs.kind.isAnnotationScope then ScopeKind.function else cs.kind)=_;rw [hk];rfl
 unfold swR at h
 by_cases c1:(!(ts.length==2||ts.length==3)||vs.length != ts.length)=true
 ·rw [if_pos c1] at h
  cases h
  unfold swappedStores
  dsimp only
  exact if_pos (by rw [c1];rfl)
 ·rw [if_neg c1] at h;rw [Bool.not_eq_true] at c1;unfold swappedStores
  dsimp only
  refine (if_neg (by rw [c1,hb];decide)).trans ?_;refine (if_neg (fun z=>Bool.false_ne_true ((oR hp).symm.trans z))).trans ?_
  dsimp only at h
  split at h
  ·rename_i c2
   cases h
   exact if_pos c2
  ·rename_i c2;refine (if_neg c2).trans ?_
   split at h
   ·rename_i c3
    cases h
    exact if_pos c3
   ·rename_i c3;refine (if_neg c3).trans ?_
    split at h
    ·cases h
    ·rename_i c4
     cases h
     exact if_neg c4
section
variable {S:Sd}{cx:Cx}{X:Nat→Prop}{XX:Nat→MH→Prop}{I:FnI}{n dd:Nat}{mt:Nat→Pth→Bool}
theorem qK {x:List Nat}{u:U}{v:V}{ρ : Rh}{P:Rs→Prop}(hP:¬P .out) (vu:VU S cx ρ u v):∀ {ks:List (List Nat)}{us:List U}{vs:List V}{k:List (List Nat)→List U→Rs},VUs S cx ρ us vs→P (wz x u ks us k) →
  ∃ ks' us',P (k ks' us')∧(fF (ks.map SS) vs (SS x) v).1=ks'.map SS∧VUs S cx ρ us' (fF (ks.map SS) vs (SS x) v).2
 | [],us,vs,k,h,e=>by
  refine ⟨[x],[u],e,?_,?_⟩
  ·rfl
  ·exact aq vu aH
 | c::ks,[],vs,k,h,e=>absurd e hP
 | c::ks,w::us,vs,k,h,e=>by
  cb_eq;rcases ae h with ⟨y,r,rfl,h1,h2⟩;by_in;have e':P (IF (aN c x) (k (c::ks) (u::us)) (wz x u ks us fun a b=>k (c::a) (w::b))):=e;rw [List.map_cons];rw [tX];rw [b9] at e'
  by_cases q:c=x
  ·rw [decide_eq_true q] at e';rw [if_pos (by rw [q];simp)];exact ⟨c::ks,u::us,e',rfl,aq vu h2⟩
  ·rw [decide_eq_false q] at e';rw [if_neg (fun z=>oa q (eq_of_beq z))];cb_eq;rcases qK hP vu h2 e' with ⟨ks',us',a1,a2,a3⟩;by_in;exact ⟨c::ks',w::us',a1,by rw [a2];rfl,aq h1 a3⟩
set_option tactic.hygienic true in
theorem rN {H₀ H:MH}{ρ : Rh}{o:O}{d i u:U}{vd vi v:V}{Q:U→O→Prop}{k:O→Rs}(hI:Inv S cx H₀ ρ o H) (hd:VU S cx ρ d vd) (hi:VU S cx ρ i vi) (hv:VU S cx ρ u v) (h:Ask S cx X n Q (mC d i u o k)) :
  (∃ a vs m o',vd=.ref a∧vi=.int m∧H a=some (.list vs)∧0≤m∧m<vs.length∧vs.length<1000000∧Inv S cx H₀ ρ o' (H.put a (.list (vs.set m.toNat v)))∧Ask S cx X n Q (k o')) ∨
  (∃ a ks vs x o',vd=.ref a∧vi=.str x∧H a=some (.dic ks vs)∧ks.length<1000∧Inv S cx H₀ ρ o' (H.put a (.dic (fF ks vs x v).1 (fF ks vs x v).2))∧Ask S cx X n Q (k o')):=by
 cases d
 case ref a =>
  cb_eq;rcases aC hd with ⟨y,hy,rfl⟩;by_in
  delta mC at h
  dsimp only at h
  generalize hat:o.at a=m at h
  cases m
  case dic ks us =>
   cases i
   case str x =>
    cases ay hi
    have hd:o.at a≠.dead:=by rw [hat];exact fun z=>nomatch z
    cb_eq;rcases hI.get hd hy with ⟨m,hm,mu,_⟩;by_in;rw [hat] at mu;cb_eq;rcases mu with ⟨vs,rfl,hvs⟩;rcases h.IF with ⟨hl,h₄⟩;rcases qK (P:=fun r=>Ask S cx X n Q r) (fun z=>z.out) hv hvs h₄ with ⟨ks',us',a1,a2,a3⟩;by_in;have hlen:=Nat.le_of_ble_eq_true hl;rw [aA] at hlen;refine .inr ⟨y,_,_,_,_,rfl,rfl,hm,by rw [List.length_map];omega,?_,a1⟩;exact hI.put hd hy ⟨_,by rw [←a2],a3⟩
   all_goals exact h.out.elim
  case lst us =>
   cases i
   case int i =>
    cases ao hi
    cases i with
    | ofNat k =>
     have hd:o.at a≠.dead:=by rw [hat];exact fun z=>nomatch z
     cb_eq;rcases ck hI hat hy with ⟨vs,hm,hvs⟩;rcases h.IF with ⟨hk,h₄⟩;rcases h₄.IF with ⟨hs',h₅⟩;by_in;have hk':=Nat.le_of_ble_eq_true hk;have hz:=bQ hs';rw [aA,hvs.length] at hk' hz;refine .inl ⟨y,vs,k,_,rfl,rfl,hm,Int.natCast_nonneg _,by omega,hz,?_,h₅⟩;refine hI.put (b:=.lst _) hd hy ⟨_,rfl,?_⟩;rw [cU,Int.toNat_natCast];exact hvs.set hv
    | negSucc k=>exact h.out.elim
   all_goals exact h.out.elim
  all_goals exact h.out.elim
 all_goals exact h.out.elim
theorem yf {e i v:XE}{E J F:PE'}{ap pos:Pos}(hs:∀ env,swapsWith F (some (.Subscript E J ap)) pos.line env=pure false) (he:al S cx X XX I n dd (sem S.tb e) E) (hi:al S cx X XX I n dd (sem S.tb i) J) (hv:al S cx X XX I n dd (sem S.tb v) F) :
  cy S cx X XX I n dd (rA S.tb e i v) (.Assign [.Subscript E J ap] F pos) :=
 fun H₀ ρ L o H l Q kn kb kc hx hI hL h=>vB hs (EV.mono (hv H₀ ρ L o H l Q _ hx hI hL h) fun v₁ H₁ q_=>q_.el fun u₁ L₁ o₁ ρ₁ le₁ vu₁ hI₁ hL₁ h₁=>EV.mono (he H₀ ρ₁ L₁ o₁ H₁ l Q _ hx hI₁ hL₁ h₁) fun v₂ H₂ q_=>q_.el fun u₂ L₂ o₂ ρ₂ le₂ vu₂ hI₂ hL₂ h₂ =>
  EV.mono (hi H₀ ρ₂ L₂ o₂ H₂ l Q _ hx hI₂ hL₂ h₂) fun v₃ H₃ q_=>q_.el fun u₃ L₃ o₃ ρ₃ le₃ vu₃ hI₃ hL₃ h₃=>by
  have le:=le₁.trans (le₂.trans le₃);rcases rN hI₃ (vu₂.mono le₃) vu₃ (vu₁.mono (le₂.trans le₃)) h₃ with q | q
  ·cb_eq;rcases q with ⟨a,vs,m,o',e1,e2,e3,e4,e5,e6,e7,e8⟩;by_in;exact .inl ⟨a,vs,m,e1,e2,e3,e4,e5,e6,L₃,o',ρ₃,le,e7,hL₃,e8⟩
  ·cb_eq;rcases q with ⟨a,ks,vs,x,o',e1,e2,e3,e4,e5,e6⟩;by_in;exact .inr ⟨a,ks,vs,x,e1,e2,e3,e4,L₃,o',ρ₃,le,e5,hL₃,e6⟩)
noncomputable def tg1 (S:Sd) (I:FnI) (e:XE) (E:PE'):Tg:=match e with
 | .loc i=>.nm (af "" I.nm i) E.pos
 | .attr e a=>.at' (aG S I e (k1 E)) (S.an a) E.pos
 | _=>.nm "" E.pos
noncomputable def tgL (S:Sd) (I:FnI):List XE→List PE'→List Tg
 | [],_=>[]
 | e::es,Es=>tg1 S I e (hdE Es)::tgL S I es (tlE Es)
theorem tL {e:XE}{es:List XE}:gD (e::es)=(match e with | .loc _=>gD es | .attr _ _=>gD es | _=>false):=rfl
theorem qA:∀ {ts:List XE}{Es:List PE'},(tgL S I ts Es).length=ts.length
 | [],_=>rfl
 | _::ts,Es=>congrArg Nat.succ (qA (ts:=ts) (Es:=tlE Es))
set_option tactic.hygienic true in
theorem nb:∀ {es:XL}{Es:List PE'},gD (xls es)=true→ba S I es Es=(tgL S I (xls es) Es).map Tg.ex
 | .nil,_,_=>rfl
 | .cons e es,Es,h=>by
  show aG S I e (hdE Es)::ba S I es (tlE Es)=(tg1 S I e (hdE Es)).ex::(tgL S I (xls es) (tlE Es)).map Tg.ex;have h':gD (e::xls es)=true:=h;rw [tL] at h'
  cases e
  case loc i=>rw [nb (es:=es) (Es:=tlE Es) h'];rfl
  case attr e a=>rw [nb (es:=es) (Es:=tlE Es) h'];rfl
  all_goals cases h'
theorem iW {e:XE}{es:XL}{Es:List PE'}(h:okL S mt I (.cons e es) Es=true):okE S mt I e (hdE Es)=true∧okL S mt I es (tlE Es)=true:=aa h
theorem vQ {e:XE}{es:List XE}(h:gD (e::es)=true):gD es=true∧((∃ i,e=.loc i)∨∃ e' a,e=.attr e' a):=by
 cases e<;>first | exact ⟨h,.inl ⟨_,rfl⟩⟩ | exact ⟨h,.inr ⟨_,_,rfl⟩⟩ | cases h
set_option tactic.hygienic true in
theorem jA (F:Gf S mt) (Z:bP S I) (hE:∀ e E,okE S mt I e E=true→EOk S cx X XX I n dd e E){H₀:MH}{Q:U→O→Prop}{kn:K0}{Qx:Fl→Loc→MH→Prop}(hx:XOK cx X XX H₀):∀ {es:XL}{Es:List PE'}{us:List U}{vs:List V}{ρ : Rh}{L:Lc}{o:O}{H:MH}{l:Loc},
  okL S mt I es Es=true→gD (xls es)=true→VUs S cx ρ us vs→Inv S cx H₀ ρ o H→bu S cx ρ I.nm L l→Ask S cx X n Q (jB S.tb cx (xls es) us L o kn) →
  (∀ l' H' L' o' ρ',Rle ρ ρ'→Inv S cx H₀ ρ' o' H'→bu S cx ρ' I.nm L' l'→Ask S cx X n Q (kn L' o')→Qx .next l' H')→gS S.W ⟨dd,XX⟩ I.cs (tgL S I (xls es) Es) vs l H Qx
 | .nil,Es,us,vs,ρ,L,o,H,l,_,_,vus,hI,hL,h,fin=>by
  cases us with
  | nil=>cases am vus;exact fin l H L o ρ (Rle.refl _) hI hL h
  | cons u us=>exact (Ask.out h).elim
 | .cons e es,Es,us,vs,ρ,L,o,H,l,hok,ht,vus,hI,hL,h,fin=>by
  obtain ⟨ok1,ok2⟩:=iW hok;obtain ⟨ht',he⟩:=vQ (show gD (e::xls es)=true from ht)
  cases us with
  | nil=>exact (Ask.out h).elim
  | cons u us =>
   cb_eq;rcases ae vus with ⟨v,r,rfl,v1,v2⟩;by_in;have h':Ask S cx X n Q (xB S.tb cx e u L o fun L o=>jB S.tb cx (xls es) us L o kn):=h;rcases he with ⟨i,rfl⟩ | ⟨e,a,rfl⟩
   ·have hi:=cH (show bU I i=true from ok1);exact ⟨(Z.loc i hi).1,jA F Z hE hx ok2 ht' v2 hI (hL.set Z.nd hi v1) h' fin⟩
   ·have ok3:=(aa (show AND (gZ e) (okE S mt I e (k1 (hdE Es)))=true from ok1)).2;refine EV.mono ((hE _ _ ok3).ev H₀ ρ L o H l Q _ hx hI hL h') fun v' H₂ q_=>q_.el fun u' L₂ o₂ ρ₂ le₂ vu' hI₂ hL₂ h₂=>?_;cb_eq;rcases mD F.toGd hI₂ vu' (v1.mono le₂) h₂ with ⟨y,C,ks,ws,o₃,e1,e2,e3,e4,hI₃,h₃⟩;by_in;exact ⟨y,C,ks,ws,e1,e2,e3,e4,jA F Z hE hx ok2 ht' (v2.mono le₂) hI₃ hL₂ h₃ fun l' H' L' o' ρ' le=>fin l' H' L' o' ρ' (le₂.trans le)⟩
theorem wU {e:XE}{E:PE'}(h:pr e=false){ts:List PE'}{k:Nat}{p:Pos}{env:Env}:swappedStores [.Tuple ts k p] (aG S I e E) env=pure none:=by
 cases e<;>first | rfl | cases h
theorem tN {e:XE}{E:PE'}(h:cY e=true){t:PE'}{m:Nat}{env:Env}:swapsWithSole [t] (aG S I e E) m env=pure false:=fZ h
noncomputable def swF (cs:Scope) (line:Nat):PE'→Option Str
 | .Name id pos=>if cs.names.lookup id==some .local&&pos.line==line then some id else none
 | _=>none
theorem zn {f:PE'→Option Str}:∀ ts:List PE',(ts.filterMap f).length≤ts.length:=fun ts=>List.length_filterMap_le ..
set_option tactic.hygienic true in
theorem ma {cs:Scope}{line:Nat}:∀ {es:XL}{Es:List PE'},(bT (xls es)).length=bg es→((ba S I es Es).filterMap (swF cs line)).length=(ba S I es Es).length →
  (ba S I es Es).filterMap (swF cs line)=((bT (xls es)).map (af "" I.nm)).map Str.ofString∧xls es=(bT (xls es)).map XE.loc
 | .nil,_,_,_=>⟨rfl,rfl⟩
 | .cons e es,Es,hl,h=>by
  have le:∀ ts:List XE,(bT ts).length≤ts.length:=by
   intro ts
   induction ts with
   | nil=>exact Nat.le_refl _
   | cons t ts ih=>cases t<;>first | exact Nat.succ_le_succ ih | exact Nat.le_succ_of_le ih
  have lx:bg (.cons e es)=(xls es).length+1:=by unfold bg;rw [aA];rfl
  have lx':bg es=(xls es).length:=by unfold bg;rw [aA]
  rw [lx] at hl;have l2:=le (xls es);have no:¬(bT (xls es)).length=(xls es).length+1:=fun z=>absurd (z▸l2) (Nat.not_succ_le_self _)
  cases e
  case loc i =>
   have hl':(bT (xls es)).length+1=(xls es).length+1:=hl;have h':((dNm (af "" I.nm i) (hdE Es)::ba S I es (tlE Es)).filterMap (swF cs line)).length=(ba S I es (tlE Es)).length+1:=h;rw [List.filterMap_cons] at h';have fl:=zn (f:=swF cs line) (ba S I es (tlE Es))
   split at h'
   ·omega
   ·rename_i b hb;have hb':b=Str.ofString (af "" I.nm i):=by
     have:(if cs.names.lookup (Str.ofString (af "" I.nm i))==some .local&&(hdE Es).pos.line==line then some (Str.ofString (af "" I.nm i)) else none)=some b:=hb
     split at this
     ·cases this;rfl
     ·cases this
    rw [List.length_cons] at h';obtain ⟨a1,a2⟩:=ma (es:=es) (Es:=tlE Es) (cs:=cs) (line:=line) (by rw [lx'];omega) (by omega)
    constructor
    ·show (dNm (af "" I.nm i) (hdE Es)::ba S I es (tlE Es)).filterMap (swF cs line)=_;rw [List.filterMap_cons,hb];show b::(ba S I es (tlE Es)).filterMap (swF cs line)=_;rw [a1,hb'];rfl
    ·show XE.loc i::xls es=XE.loc i::(bT (xls es)).map XE.loc;rw [←a2]
  all_goals exact absurd hl (show ¬(bT (xls es)).length=(xls es).length+1 from no)
noncomputable def iT:Lc→List Nat→List U→Lc
 | L,i::is,u::us=>iT (a9 L i u) is us
 | L,_,_=>L
theorem kM {tb:Tb}{o:O}{kn:K0}:∀ {is:List Nat}{us:List U}{L:Lc},jB tb cx (is.map XE.loc) us L o kn=(if is.length=us.length then kn (iT L is us) o else .out)
 | [],[],_=>rfl
 | [],_::_,_=>rfl
 | _::_,[],_=>rfl
 | i::is,u::us,L=>by
  show jB tb cx (is.map XE.loc) us (a9 L i u) o kn=_;rw [kM];simp only [List.length_cons,Nat.add_right_cancel_iff];rfl
theorem pf (Z:bP S I){ρ : Rh}:∀ {is:List Nat}{us:List U}{vs:List V}{L:Lc}{l:Loc},(∀ i∈is,i<I.nm.length)→VUs S cx ρ us vs→bu S cx ρ I.nm L l→bu S cx ρ I.nm (iT L is us) (i4 l (is.map (af "" I.nm)) vs)
 | [],us,vs,_,_,_,_,hL=>by cases us<;>cases vs<;>exact hL
 | i::is,[],_,_,_,_,h,hL=>by rw [am h];exact hL
 | i::is,u::us,_,L,_,hi,h,hL=>by
  cb_eq;rcases ae h with ⟨v,r,rfl,h1,h2⟩;by_in;show bu S cx ρ I.nm (iT (a9 L i u) is us) _;rw [List.map_cons];rw [y9];exact pf Z (fun j hj=>hi j (.tail _ hj)) h2 (hL.set Z.nd (hi i (.head _)) h1)
theorem VUs.reverse {ρ : Rh}:∀ {us:List U}{vs:List V},VUs S cx ρ us vs→VUs S cx ρ us.reverse vs.reverse
 | [],_,h=>by rw [am h];exact aH
 | u::us,_,h=>by
  cb_eq;rcases ae h with ⟨v,r,rfl,h1,h2⟩;by_in;rw [List.reverse_cons,List.reverse_cons];exact (VUs.reverse h2).append (aq h1 aH)
theorem qP {a:Nat}:∀ {l:List Nat},bo l a=false→a∉l
 | [],_=>List.not_mem_nil
 | b::l,h=>by
  have h':IF (Nat.beq b a) true (bo l a)=false:=h
  cases q:Nat.beq b a with
  | true=>rw [q] at h';cases h'
  | false =>
   rw [q] at h';intro hm;rcases List.mem_cons.mp hm with e | e
   ·rw [e,Nat.beq_refl] at q;cases q
   ·exact qP h' e
theorem xF:∀ {l:List Nat},ndB l=true→l.Nodup
 | [],_=>List.nodup_nil
 | a::l,h=>by
  obtain ⟨h1,h2⟩:=aa (show AND (!bo l a) (ndB l)=true from h);exact List.nodup_cons.mpr ⟨qP (lO h1),xF h2⟩
theorem v7 {L:Lc}:∀ {is:List Nat}{us:List U},is.Nodup→is.length=us.length→is.length=2∨is.length=3→iT L is.reverse us.reverse=iT L is us
 | [i,j],[u,v],nd,_,_=>by
  simp only [List.nodup_cons,List.mem_cons,List.not_mem_nil,or_false,not_false_eq_true,List.nodup_nil,and_true] at nd;show a9 (a9 L j v) i u=a9 (a9 L i u) j v;simp only [cU];exact List.set_comm _ _ (Ne.symm nd)
 | [i,j,k],[u,v,w],nd,_,_=>by
  simp only [List.nodup_cons,List.mem_cons,List.not_mem_nil,or_false,not_false_eq_true,List.nodup_nil,and_true,not_or] at nd;show a9 (a9 (a9 L k w) j v) i u=a9 (a9 (a9 L i u) j v) k w;simp only [cU];rw [List.set_comm (l:=L) _ _ (Ne.symm nd.2),List.set_comm (l:=L.set j v) _ _ (Ne.symm nd.1.2),List.set_comm (l:=L) _ _ (Ne.symm nd.1.1)]
 | [],_,_,_,h=>by simp at h
 | [_],_,_,_,h=>by simp at h
 | _::_::_::_::_,_,_,_,h=>by simp at h
 | [_,_],[],_,h,_=>by simp at h
 | [_,_],[_],_,h,_=>by simp at h
 | [_,_],_::_::_::_,_,h,_=>by simp at h
 | [_,_,_],[],_,h,_=>by simp at h
 | [_,_,_],[_],_,h,_=>by simp at h
 | [_,_,_],[_,_],_,h,_=>by simp at h
 | [_,_,_],_::_::_::_::_,_,h,_=>by simp at h
end
end Mine
end
section
open PySem PySem.W PySem.Calls PyProof.Rows
noncomputable section
namespace Mine
set_option tactic.hygienic true in
theorem vR {ts vs:List PE'}{cs:Scope}{names:List Str}(h:swR ts vs cs=some (some names)):(ts.length=2∨ts.length=3)∧∃ line,names=ts.filterMap (swF cs line)∧(ts.filterMap (swF cs line)).length=ts.length:=by
 unfold swR at h
 split at h
 ·cases h
 ·rename_i c1
  dsimp only at h
  split at h
  ·cases h
  ·rename_i c2
   split at h
   ·cases h
   ·split at h
    ·cases h
    ·have e:=Option.some.inj (Option.some.inj h);rw [Bool.not_eq_true,Bool.or_eq_false_iff] at c1 c2;have c3:=c1.1;have c4:=c2.1;rw [Bool.not_eq_false',Bool.or_eq_true,beq_iff_eq,beq_iff_eq] at c3;refine ⟨c3,_,e.symm,?_⟩;have c5:¬((ts.filterMap (swF cs ((ts.head?.map (·.pos.line)).getD 0))).length != ts.length)=true:=fun z=>by
      rw [show ((ts.filterMap (swF cs ((ts.head?.map (·.pos.line)).getD 0))).length != ts.length)=false from c4] at z;cases z
     exact Decidable.not_not.mp fun z=>c5 (bne_iff_ne.mpr z)
section
variable {S:Sd}{cx:Cx}{X:Nat→Prop}{XX:Nat→MH→Prop}{I:FnI}{n dd:Nat}{mt:Nat→Pth→Bool}
set_option tactic.hygienic true in
theorem qu (F:Gf S mt) (Z:bP S I) (hE:∀ e E,okE S mt I e E=true→EOk S cx X XX I n dd e E){ts:XL}{T:List PE'}{kx:Nat}{tp pos:Pos}{e:XE}{E:PE'}(hok:okL S mt I ts T=true) (ht:gD (xls ts)=true)
  (hsw:∀ env,swapsWithSole [.Tuple (ba S I ts T) kx tp] E pos.line env=pure false) (hw:∀ cn L a cd,swappedStores [.Tuple (ba S I ts T) kx tp] E (envOf cn I.cs L a cd)=pure none) (he:al S cx X XX I n dd (sem S.tb e) E) :
  cy S cx X XX I n dd (oB S.tb cx ts e) (.Assign [.Tuple (ba S I ts T) kx tp] E pos) :=
 fun H₀ ρ L o H l Q kn kb kc hx hI hL h=>by
  rw [nb ht] at hsw hw ⊢;refine tg hsw hw (EV.mono (he H₀ ρ L o H l Q _ hx hI hL h) fun v H₁ P=>?_);cb_eq;rcases P with ⟨u,L₁,o₁,ρ₁,le₁,vu,hI₁,hL₁,h₁⟩;by_in
  cases u
  case tup us =>
   cb_eq;rcases bS vu with ⟨vs,rfl,vus⟩;rcases h₁.IF with ⟨hl,h₂⟩;by_in;have hl':=Nat.eq_of_beq_eq_true hl;unfold ud at hl';rw [aA,aA,vus.length] at hl';exact ⟨vs,rfl,by rw [qA,hl'],jA F Z hE hx hok ht vus hI₁ hL₁ h₂ fun l' H' L' o' ρ' le hI' hL' h'=>⟨L',o',ρ',le₁.trans le,hI',hL',h'⟩⟩
  all_goals exact h₁.out.elim
set_option tactic.hygienic true in
theorem lg:∀ {es:XL}{Es:List PE'},okL S mt I es Es=true→∀ i∈bT (xls es),i<I.nm.length
 | .nil,_,_,i,hi=>by cases hi
 | .cons e es,Es,h,i,hi=>by
  obtain ⟨h1,h2⟩:=iW h
  cases e
  case loc j =>
   rcases List.mem_cons.mp (show i∈j::bT (xls es) from hi) with e | e
   ·rw [e];exact cH (show bU I j=true from h1)
   ·exact lg h2 i e
  all_goals exact lg h2 i hi
set_option tactic.hygienic true in
theorem x8 (Z:bP S I){ts:XL}{T:List PE'}{kx:Nat}{tp pos:Pos}{e:XE}{E:PE'}(hok:okL S mt I ts T=true){names:List Str}
  (hsw:∀ env,swapsWithSole [.Tuple (ba S I ts T) kx tp] E pos.line env=pure false) (hw:∀ cn L a cd,swappedStores [.Tuple (ba S I ts T) kx tp] E (envOf cn I.cs L a cd)=pure (some names))
  {vs:List PE'}(hsr:swR (ba S I ts T) vs I.cs=some (some names)) (hlen:(bT (xls ts)).length=bg ts) (hnd:(bT (xls ts)).Nodup) (he:al S cx X XX I n dd (sem S.tb e) E) :
  cy S cx X XX I n dd (oB S.tb cx ts e) (.Assign [.Tuple (ba S I ts T) kx tp] E pos) :=
 fun H₀ ρ L o H l Q kn kb kc hx hI hL h=>by
  cb_eq;rcases vR hsr with ⟨h23,line,hn,hnl⟩;rcases ma (S:=S) (I:=I) (es:=ts) (Es:=T) (cs:=I.cs) (line:=line) hlen hnl with ⟨f1,f2⟩;by_in;rw [dt,←hlen] at h23;rw [f1] at hn;subst hn;have hlt:=lg hok;refine jo hsw hw (fun x hx=>?_) (EV.mono (he H₀ ρ L o H l Q _ hx hI hL h) fun v H₁ P=>?_)
  ·cb_eq;rcases List.mem_map.mp hx with ⟨i,hi,rfl⟩;by_in;exact (Z.loc i (hlt i hi)).1
  ·cb_eq;rcases P with ⟨u,L₁,o₁,ρ₁,le₁,vu,hI₁,hL₁,h₁⟩;by_in
   cases u
   case tup us =>
    cb_eq;rcases bS vu with ⟨vs,rfl,vus⟩;rcases h₁.IF with ⟨_,h₂⟩;by_in;rw [f2,kM] at h₂
    split at h₂
    ·rename_i hul;refine ⟨vs,rfl,by rw [List.length_map,←vus.length,hul],iT L₁ (bT (xls ts)) us,o₁,ρ₁,le₁,hI₁,?_,h₂⟩;rw [←v7 hnd hul h23,←List.map_reverse];exact pf Z (fun i hi=>hlt i (List.mem_reverse.mp hi)) vus.reverse hL₁
    ·exact h₂.out.elim
   all_goals exact h₁.out.elim
set_option tactic.hygienic true in
theorem Ay (F:Gf S mt) (Z:bP S I) (hE:∀ e E,okE S mt I e E=true→EOk S cx X XX I n dd e E){ts:XL}{T:List PE'}{kx:Nat}{tp pos:Pos}{e:XE}{E:PE'}(hok:okL S mt I ts T=true) (hnc:cY e=true)
  (he:al S cx X XX I n dd (sem S.tb e) (aG S I e E)) (hu:vN S I ts T e E=true):cy S cx X XX I n dd (oB S.tb cx ts e) (.Assign [.Tuple (ba S I ts T) kx tp] (aG S I e E) pos):=by
 have hq:=aa hu
 clear hu
 obtain ⟨ht,hu⟩:=hq;have hsw:∀ env,swapsWithSole [.Tuple (ba S I ts T) kx tp] (aG S I e E) pos.line env=pure false:=fun env=>tN hnc
 cases q:pr e with
 | false=>exact qu F Z hE hok ht hsw (fun ε ε ε ε =>wU q) he
 | true =>
  rw [q] at hu
  cases e
  case tup es =>
   have hu':(match swR (ba S I ts T) (ba S I es (kl E)) I.cs with
    | some none=>true
    | some (some _)=>AND (Nat.beq (aF (bT (xls ts))) (bg ts)) (ndB (bT (xls ts)))
    | none=>false)=true:=hu
   clear hu
   split at hu'
   ·rename_i hs;exact qu F Z hE hok ht hsw (fun ε ε ε ε =>xA bE Z.kind hs) he
   ·rename_i names hs;obtain ⟨a,b⟩:=aa hu';have a':=Nat.eq_of_beq_eq_true a;rw [aA] at a';exact x8 Z hok hsw (fun ε ε ε ε =>xA bE Z.kind hs) hs a' (xF b) he
   ·cases hu'
  all_goals cases q
theorem Ax {t:XE}{T:PE'}{b:SX}{B:List PS'}{pos:Pos}(ht:cu S cx X XX I n dd (sem S.tb t) T) (hb:fN S cx X XX I n dd b B):cy S cx X XX I n dd (vI S.tb t b) (.While T B [] pos) :=
 fun H₀ ρ L o H l Q kn kb kc hx hI hL h=>by
  refine xo (fun m l H=>PN S cx I H₀ ρ (fun L o=>Ask S cx X n Q (lB (sem S.tb t) b kn m L o)) l H) 4000 ⟨L,o,ρ,Rle.refl _,hI,hL,h⟩ ?_;intro m l₁ H₁ zz;cb_eq;rcases zz with ⟨L₁,o₁,ρ₁,le₁,hI₁,hL₁,h₁⟩;by_in
  cases m with
  | zero=>exact (Ask.out h₁).elim
  | succ m =>
   have h₂:Ask S cx X n Q (sem S.tb t L₁ o₁ fun u L o=>truth u (b L o (lB (sem S.tb t) b kn m) kn (lB (sem S.tb t) b kn m)) (kn L o)):=h₁;refine ET.mono (ht H₀ ρ₁ L₁ o₁ H₁ l₁ Q _ _ hx hI₁ hL₁ h₂) fun c H₂ P=>?_;cb_eq;rcases P with ⟨L₂,o₂,ρ₂,le₂,hI₂,hL₂,h₃⟩;by_in;have le:=le₁.trans le₂
   cases c with
   | true =>
    refine EXS.mono (hb H₀ ρ₂ L₂ o₂ H₂ l₁ Q _ _ _ hx hI₂ hL₂ h₃) fun f l' H' q=>?_
    cases f with
    | next=>exact ⟨m,Nat.lt_succ_self m,PN.le le q⟩
    | cont=>exact ⟨m,Nat.lt_succ_self m,PN.le le q⟩
    | brk=>exact PN.le le q
    | ret v=>exact PC.le le q
   | false=>exact ⟨L₂,o₂,ρ₂,le,hI₂,hL₂,h₃⟩
theorem uI {α : Type}{l:List α}{i:Nat}{a : α}(h:l[i]? = some a):l.drop i=a::l.drop (i+1):=by
 obtain ⟨hi,rfl⟩:=List.getElem?_eq_some_iff.mp h;exact List.drop_eq_getElem_cons hi
theorem VUs.getV {ρ : Rh}:∀ {us:List U}{vs:List V}{i:Nat}{v:V},VUs S cx ρ us vs→vs[i]? = some v→∃ u,us[i]? = some u∧VU S cx ρ u v:=by
 intro us vs i v h e;obtain ⟨hi,_⟩:=List.getElem?_eq_some_iff.mp e;rw [←h.length] at hi;obtain ⟨v',e',vu⟩:=h.get (List.getElem?_eq_getElem hi);rw [e] at e'
 cases e'
 exact ⟨_,List.getElem?_eq_getElem hi,vu⟩
theorem wJ {b:SX}{B:List PS'}(Z:bP S I){x:Nat}(hxi:x<I.nm.length) (hb:fN S cx X XX I n dd b B){H₀:MH}{ρ : Rh}{Q:U→O→Prop}{kn:K0}{us:List U}(hx:XOK cx X XX H₀){i:Nat}{u:U}{v:V}{l:Loc}{H:MH}{it:Addr}{o:Obj}
  (hu:us[i]? = some u) (vu:∀ ρ',Rle ρ ρ'→VU S cx ρ' u v) (h:PN S cx I H₀ ρ (fun L o=>Ask S cx X n Q (gM x b kn (us.drop i) L o)) l H) (hn:H it=none) :
  EXS S.W ⟨dd,XX⟩ I.cs B (ci l (af "" I.nm x) v) (H.put it (.raw o)) (ja (fun i l H=>PN S cx I H₀ ρ (fun L o=>Ask S cx X n Q (gM x b kn (us.drop i) L o)) l H) i it o
   (PX S cx X I n H₀ ρ Q kn (fun ε ε =>.out) (fun ε ε =>.out))):=by
 cb_eq;rcases h with ⟨L₁,o₁,ρ₁,le₁,hI₁,hL₁,h₁⟩;by_in;rw [uI hu] at h₁;have h₂:Ask S cx X n Q (b (a9 L₁ x u) o₁ (gM x b kn (us.drop (i+1))) kn (gM x b kn (us.drop (i+1)))):=h₁;have h0:H₀ it=none:=by
  cases q:H₀ it with
  | none=>rfl
  | some y=>rw [hI₁.base _ _ q] at hn;cases hn
 have hx':XOK cx X XX (H₀.put it (.raw o)):=fun k H' xk hH=>hx k H' xk fun b y e=>hH b y (by
  unfold MH.put;rw [if_neg (fun z=>by rw [z,h0] at e;cases e)];exact e)
 refine EXS.mono (hb _ ρ₁ _ o₁ _ _ Q _ _ _ hx' (hI₁.beside hn) (hL₁.set Z.nd hxi (vu ρ₁ le₁)) h₂) fun f l' H' q=>?_
 cases f with
 | next=>obtain ⟨L₂,o₂,ρ₂,le₂,hI₂,hL₂,h₃⟩:=q;obtain ⟨a,c⟩:=hI₂.unbeside h0;exact ⟨a,L₂,o₂,ρ₂,le₁.trans le₂,c,hL₂,h₃⟩
 | cont=>obtain ⟨L₂,o₂,ρ₂,le₂,hI₂,hL₂,h₃⟩:=q;obtain ⟨a,c⟩:=hI₂.unbeside h0;exact ⟨a,L₂,o₂,ρ₂,le₁.trans le₂,c,hL₂,h₃⟩
 | brk=>obtain ⟨L₂,o₂,ρ₂,le₂,hI₂,hL₂,h₃⟩:=q;obtain ⟨a,c⟩:=hI₂.unbeside h0;exact ⟨a,L₂,o₂,ρ₂,le₁.trans le₂,c,hL₂,h₃⟩
 | ret v=>obtain ⟨u',o₂,ρ₂,le₂,vu',hI₂,h₃⟩:=q;obtain ⟨a,c⟩:=hI₂.unbeside h0;exact ⟨a,u',o₂,ρ₂,le₁.trans le₂,vu',c,h₃⟩
theorem zi {b:SX}{x:Nat}{H₀:MH}{ρ : Rh}{Q:U→O→Prop}{kn:K0}{us:List U}{i:Nat}(hi:us.length≤i){l:Loc}{H:MH}(h:PN S cx I H₀ ρ (fun L o=>Ask S cx X n Q (gM x b kn (us.drop i) L o)) l H) :
  PN S cx I H₀ ρ (fun L o=>Ask S cx X n Q (kn L o)) l H:=by
 rw [List.drop_eq_nil_of_le hi] at h;exact h
theorem zj {H₀:MH}{ρ ρ':Rh}{Q:U→O→Prop}{kn kb kc:K0}{J:Nat→Loc→MH→Prop}{i:Nat}{it:Addr}{o:Obj}{f:Fl}{l':Loc}{H':MH}(le:Rle ρ ρ')
  (h:ja J i it o (PX S cx X I n H₀ ρ' Q kn (fun ε ε =>.out) (fun ε ε =>.out)) f l' H'):ja J i it o (PX S cx X I n H₀ ρ Q kn kb kc) f l' H':=by
 cases f with
 | next=>exact h
 | cont=>exact h
 | brk=>exact ⟨h.1,PN.le le h.2⟩
 | ret v=>exact ⟨h.1,PC.le le h.2⟩
set_option tactic.hygienic true in
theorem i9 (Z:bP S I){x:Nat}(hxi:x<I.nm.length){b:SX}{B:List PS'}(hb:fN S cx X XX I n dd b B){H₀ H₁:MH}{ρ ρ₁:Rh}{L₁:Lc}{o₁:O}{l:Loc}{Q:U→O→Prop}{kn kb kc:K0}{us:List U}{vs:List V}(hx:XOK cx X XX H₀)
  (vus:VUs S cx ρ₁ us vs) (le₁:Rle ρ ρ₁) (hI₁:Inv S cx H₀ ρ₁ o₁ H₁) (hL₁:bu S cx ρ₁ I.nm L₁ l) (h₁:Ask S cx X n Q (gM x b kn us L₁ o₁)) :
  ∃ J:Nat→Loc→MH→Prop,J 0 l H₁∧(∀ i u l H it o,vs[i]? = some u→J i l H→H it=none→EXS S.W ⟨dd,XX⟩ I.cs B (ci l (af "" I.nm x) u) (H.put it (.raw o)) (ja J i it o (PX S cx X I n H₀ ρ Q kn kb kc))) ∧
   (∀ l H,J vs.length l H→PX S cx X I n H₀ ρ Q kn kb kc .next l H):=by
 refine ⟨fun i l H=>PN S cx I H₀ ρ₁ (fun L o=>Ask S cx X n Q (gM x b kn (us.drop i) L o)) l H,⟨L₁,o₁,ρ₁,Rle.refl _,hI₁,hL₁,h₁⟩,?_,?_⟩
 ·intro i u l H it o hu hJ hn;obtain ⟨u',hu',vu⟩:=vus.getV hu;exact EXS.mono (wJ Z hxi hb hx hu' (fun ρ' le=>vu.mono le) hJ hn) fun f l' H' q=>zj le₁ q
 ·intro l H hJ;exact PN.le le₁ (zi (Nat.le_of_eq vus.length) hJ)
set_option tactic.hygienic true in
theorem AB (Z:bP S I){x:Nat}(hxi:x<I.nm.length){e:XE}{E:PE'}{b:SX}{B:List PS'}{px pos:Pos}(hf:∀ env y,foldedSetIterable E env y=pure y) (he:al S cx X XX I n dd (sem S.tb e) E) (hb:fN S cx X XX I n dd b B) :
  cy S cx X XX I n dd (vL S.tb x e b) (.For (.Name (Str.ofString (af "" I.nm x)) px) E B [] pos) :=
 fun H₀ ρ L o H l Q kn kb kc hx hI hL h=>vC hf (Z.loc x hxi).1 (EV.mono (he H₀ ρ L o H l Q _ hx hI hL h) fun v H₁ P=>by
  cb_eq;rcases P with ⟨u,L₁,o₁,ρ₁,le₁,vu,hI₁,hL₁,h₁⟩;by_in
  cases u
  case lst us=>obtain ⟨vs,rfl,vus⟩:=bH vu;exact ⟨vs,.inl rfl,i9 Z hxi hb hx vus le₁ hI₁ hL₁ h₁⟩
  case tup us=>obtain ⟨vs,rfl,vus⟩:=bS vu;exact ⟨vs,.inr rfl,i9 Z hxi hb hx vus le₁ hI₁ hL₁ h₁⟩
  all_goals exact h₁.out.elim)
theorem nL {ρ : Rh}:∀ {m:Nat}{a:Int},VUs S cx ρ (oY m a) ((List.range m).map fun (i:Nat)=>.int (a+(i:Int))):=by
 intro m
 induction m with
 | zero=>intro a;exact aH
 | succ m ih =>
  intro a;rw [List.range_succ_eq_map,List.map_cons,List.map_map];refine aq (bM (by simp)) ?_;have:=ih (a:=a+1);have e:((fun (i:Nat)=>V.int (a+(i:Int)))∘Nat.succ)=fun (i:Nat)=>V.int (a+1+(i:Int)):=by
   funext i
   show V.int (a+((i+1:Nat):Int))=_
   congr 1;omega
  rw [e];exact this
set_option tactic.hygienic true in
theorem yb (Z:bP S I) (hrg:I.rg=true){x:Nat}(hxi:x<I.nm.length){e:XE}{E:PE'}{b:SX}{B:List PS'}{px rp cp pos:Pos}(hp:aE E=true) (he:al S cx X XX I n dd (sem S.tb e) E) (hb:fN S cx X XX I n dd b B) :
  cy S cx X XX I n dd (ru S.tb x e b) (.For (.Name (Str.ofString (af "" I.nm x)) px) (.Call (.Name (Str.ofString "range") rp) [E] [] cp) B [] pos) :=
 fun H₀ ρ L o H l Q kn kb kc hx hI hL h=>jX (Z.rng hrg) hp (Z.loc x hxi).1 (EV.mono (he H₀ ρ L o H l Q _ hx hI hL h) fun v H₁ P=>by
  cb_eq;rcases P with ⟨u,L₁,o₁,ρ₁,le₁,vu,hI₁,hL₁,h₁⟩;by_in
  cases u
  case int i =>
   cases ao vu
   cases i with
   | ofNat k =>
    cb_eq;rcases h₁.IF with ⟨hs,h₁⟩;rcases i9 (ρ := ρ) (kb:=kb) (kc:=kc) Z hxi hb hx (nL (m:=k) (a:=.ofNat 0)) le₁ hI₁ hL₁ h₁ with ⟨J,j1,j2,j3⟩;by_in;have:=bQ hs;refine ⟨k,rfl,by omega,J,j1,fun i l H it o hi hJ hn=>j2 i _ l H it o ?_ hJ hn,fun l H hJ=>j3 l H (by simpa using hJ)⟩;rw [List.getElem?_map,List.getElem?_range hi];simp
   | negSucc k=>exact h₁.out.elim
  all_goals exact h₁.out.elim)
set_option tactic.hygienic true in
theorem vH (Z:bP S I) (hrg:I.rg=true){x:Nat}(hxi:x<I.nm.length){e f:XE}{E F:PE'}{b:SX}{B:List PS'}{px rp cp pos:Pos}(hp:aE E=true) (hp':aE F=true) (he:al S cx X XX I n dd (sem S.tb e) E) (hf:al S cx X XX I n dd (sem S.tb f) F) (hb:fN S cx X XX I n dd b B) :
  cy S cx X XX I n dd (oG S.tb x e f b) (.For (.Name (Str.ofString (af "" I.nm x)) px) (.Call (.Name (Str.ofString "range") rp) [E,F] [] cp) B [] pos) :=
 fun H₀ ρ L o H l Q kn kb kc hx hI hL h=>n7 (Z.rng hrg) hp hp' (Z.loc x hxi).1 (EV.mono (he H₀ ρ L o H l Q _ hx hI hL h) fun v H₁ P=>by
  cb_eq;rcases P with ⟨u,L₁,o₁,ρ₁,le₁,vu,hI₁,hL₁,h₁⟩;by_in;refine EV.mono (hf H₀ ρ₁ L₁ o₁ H₁ l Q _ hx hI₁ hL₁ h₁) fun v' H₂ P=>?_;cb_eq;rcases P with ⟨u',L₂,o₂,ρ₂,le₂,vu',hI₂,hL₂,h₂⟩;by_in
  cases u
  case int i =>
   cases u'
   case int j =>
    cases ao vu
    cases ao vu'
    cases i with
    | ofNat a =>
     cases j with
     | ofNat k =>
      cb_eq;rcases h₂.IF with ⟨hs,h₂'⟩;rcases h₂'.IF with ⟨hs',h₃⟩;rcases i9 (ρ := ρ) (kb:=kb) (kc:=kc) Z hxi hb hx (nL (m:=k - a) (a:=.ofNat a)) (le₁.trans le₂) hI₂ hL₂ h₃ with ⟨J,j1,j2,j3⟩;by_in;have:=bQ hs;have:=bQ hs';refine ⟨a,k,rfl,rfl,by omega,by omega,J,j1,fun i l H it o hi hJ hn=>j2 i _ l H it o ?_ hJ hn,fun l H hJ=>j3 l H (by simpa using hJ)⟩;rw [List.getElem?_map,List.getElem?_range hi];simp
     | negSucc k=>exact h₂.out.elim
    | negSucc k=>exact h₂.out.elim
   all_goals exact (show False from by cases i<;>exact h₂.out).elim
  all_goals exact h₂.out.elim)
end
end Mine
end
section
open PySem PySem.W PySem.Calls PyProof.Rows
noncomputable section
namespace Mine
section
variable {S:Sd}{cx:Cx}{X:Nat→Prop}{XX:Nat→MH→Prop}{I:FnI}{n dd:Nat}{mt:Nat→Pth→Bool}
theorem yE (F:Gf S mt) (Z:bP S I) (hT:cx.T.length<60000) (hC:jq S cx X XX n dd) (hN:bo I.cl 0=true∨bo I.cl 1=true→iN S cx X XX dd) :
  ∀ (b:XB) (B:List PS'),okB S I mt b B=true→fN S cx X XX I n dd (exec S.tb cx b) (sP S I b B):=by
 have hE:∀ e E,okE S mt I e E=true→EOk S cx X XX I n dd e E:=yD F Z hT hC hN;have hL:∀ es Es,okL S mt I es Es=true→dD S cx X XX I n dd (jC S.tb es) (ba S I es Es):=by
  intro es
  induction es using XL.rec (motive_1:=fun ε =>True) with
  | nil=>exact fun Es h=>uH
  | cons e es _ ih=>exact fun Es h=>rc eF (hE e _ (iW h).1).ev (ih _ (iW h).2)
  | _=>trivial
 intro b;refine @XB.rec (fun s=>∀ St,okS S I mt s St=true→cy S cx X XX I n dd (xP S.tb cx s) (Fa S I s St)) (fun b=>∀ B,okB S I mt b B=true→fN S cx X XX I n dd (exec S.tb cx b) (sP S I b B))
  ?asg ?asga ?asgs ?unp ?augn ?auga ?ret ?ret0 ?ifs ?whl ?for_ ?forr ?forr2 ?expr ?raise_ ?brk ?cnt ?pass ?bnil ?bcons b
 case asg=>exact fun i e St h=>AE Z (cH (aa h).1) (fun env=>fZ (aa (aa h).2).1) (hE _ _ (aa (aa h).2).2).ev
 case asga=>exact fun e a v St h=>yg F.toGd (fun env=>fZ (aa (aa h).2).1) (hE _ _ (aa h).1).ev (hE _ _ (aa (aa h).2).2).ev
 case asgs=>exact fun e i v St h=>yf (fun env=>fZ (aa (aa (aa h).2).2).1) (hE _ _ (aa h).1).ev (hE _ _ (aa (aa h).2).1).ev (hE _ _ (aa (aa (aa h).2).2).2).ev
 case unp=>exact fun sw ts e St h=>Ay F Z hE (aa h).1 (aa (aa h).2).1 (hE _ _ (aa (aa (aa h).2).2).1).ev (aa (aa (aa h).2).2).2
 case augn=>exact fun i op e St h=>yd Z (cH (aa h).1) (hE _ _ (aa h).2).ev
 case auga=>exact fun e a op v St h=>ye F.toGd (hE _ _ (aa h).1).ev (hE _ _ (aa h).2).ev
 case ret=>exact fun e St h=>Az (hE _ _ h).ev
 case ret0=>exact fun St h=>x9
 case ifs=>exact fun t b o ih1 ih2 St h=>AA (hE _ _ (aa h).1).et (ih1 _ (aa (aa h).2).1) (ih2 _ (aa (aa h).2).2)
 case whl=>exact fun t b ih St h=>Ax (hE _ _ (aa h).1).et (ih _ (aa h).2)
 case for_=>exact fun i e b ih St h=>AB Z (cH (aa h).1) (fun env y=>jb) (hE _ _ (aa (aa h).2).1).ev (ih _ (aa (aa h).2).2)
 case forr=>exact fun i e b ih St h=>yb Z (aa h).1 (cH (aa (aa h).2).1) eF (hE _ _ (aa (aa (aa h).2).2).1).ev (ih _ (aa (aa (aa h).2).2).2)
 case forr2=>exact fun i e f b ih St h=>vH Z (aa h).1 (cH (aa (aa h).2).1) eF eF (hE _ _ (aa (aa (aa h).2).2).1).ev (hE _ _ (aa (aa (aa (aa h).2).2).2).1).ev (ih _ (aa (aa (aa (aa h).2).2).2).2)
 case expr=>exact fun e St h=>yc Z (fun env=>fZ (aa h).1) (hE _ _ (aa h).2).ev
 case raise_=>exact fun es St h=>vG F Z (aa h).1 bE (hL _ _ (aa h).2)
 case brk=>exact fun St h=>AD
 case cnt=>exact fun St h=>AC
 case pass=>exact fun St h=>ya
 case bnil=>exact fun B h=>AF
 case bcons=>exact fun s b ih1 ih2 B h=>yh (s:=xP S.tb cx s) (b:=exec S.tb cx b) (ih1 _ (aa h).1) (ih2 _ (aa h).2)
end
noncomputable def te (S:Sd) (mt:Nat→Pth→Bool) (f:Pth) (b:Fn):Prop:=b.body=rD∨∃ (I:FnI) (names:List String) (body:List PS'),iu S.W (S.fad f) names body I.cs∧bP S I∧b.ar=names.length∧(∃ r,I.nm=names++r∧b.pads=List.replicate r.length .unb) ∧
 sP S I b.body body=body∧okB S I mt b.body body=true∧((bo I.cl 0=true∨bo I.cl 1=true)→∀ c,c<2→f≠S.ini c)
theorem nP:∀ {names:List String}{vs:List V}{i:Nat}{x:String}{v:V},names.Nodup→names[i]? = some x→vs[i]? = some v→dR (names.zip vs) x=some v
 | [],_,_,_,_,_,h,_=>by simp at h
 | _::_,[],_,_,_,_,_,h=>by simp at h
 | y::names,w::vs,0,x,v,nd,h,h'=>by
  simp at h h';subst h h';rw [List.zip_cons_cons];rw [f6];rw [if_pos (by simp)]
 | y::names,w::vs,i+1,x,v,nd,h,h'=>by
  simp at h h';rw [List.zip_cons_cons];rw [f6];obtain ⟨n1,n2⟩:=List.nodup_cons.mp nd;rw [if_neg (fun z=>n1 (by rw [eq_of_beq z];exact List.mem_of_getElem? h))];exact nP n2 h h'
section
variable {S:Sd}{cx:Cx}{X:Nat→Prop}{XX:Nat→MH→Prop}{mt:Nat→Pth→Bool}
theorem Inv.forget {H₀ H:MH}{ρ : Rh}{o:O}(h:Inv S cx H₀ ρ o H){i:Nat}:Inv S cx H₀ ρ (o.tdel i) H:=by
 have e1:(o.tdel i).at (.t i)=.dead:=gd h.ids;have e2:∀ c,c≠.t i→(o.tdel i).at c=o.at c:=fun c q=>by
  cases c with
  | o j=>rfl
  | t j=>exact ij (fun e=>q (by rw [e]))
 have k:∀ c,(o.tdel i).at c≠.dead→o.at c≠.dead∧(o.tdel i).at c=o.at c:=fun c hc=>by
  have q:c≠.t i:=fun z=>by rw [z] at hc;exact hc e1
  exact ⟨by rw [e2 c q] at hc;exact hc,e2 c q⟩
 refine ⟨h.base,fun c hc=>?_,fun c c' y h1 h2=>h.inj c c' y (k c h1).1 (k c' h2).1,fun c y e=>?_,h.ids.del⟩
 ·obtain ⟨hc',e⟩:=k c hc;rw [e];exact h.live c hc'
 ·have:=h.dom c y e
  cases c with
  | o j=>exact this
  | t j=>exact this
set_option tactic.hygienic true in
theorem Inv.free {H₀ H:MH}{ρ : Rh}{o:O}{L:Lc}(h:Inv S cx H₀ ρ o H):∀ fr:List Nat,Inv S cx H₀ ρ (kq fr L o) H
 | []=>h
 | i::fr=>by
  show Inv S cx H₀ ρ (match af .unb L i with | .ref (.t j)=>(kq fr L o).tdel j | _=>kq fr L o) H
  cases af .unb L i
  case ref a =>
   cases a with
   | o _=>exact Inv.free h fr
   | t _=>exact (Inv.free h fr).forget
  all_goals exact Inv.free h fr
theorem nh (F:Gf S mt) (hT:cx.T.length<60000){m e:Nat}{f:Pth}{b:Fn}(hf:te S mt f b) (hb:S.ft.get f=some b) (hC:jq S cx X XX m e) (hN:(∀ c,c<2→f≠S.ini c)→iN S cx X XX e):nE S cx X XX (e+1) m f b:=by
 intro H₀ ρ us vs o H l Q hx hI vus hlen h;rcases hf with hv | ⟨I,names,body,fa,Z,har,⟨r,hnm,hpads⟩,hdec,hok,hin⟩
 ·unfold bA at h;rw [hb] at h;have h':Ask S cx X m Q (exec S.tb cx b.body (us++b.pads) o (fun L o=>.ok .none (kq b.fr L o)) (fun ε ε =>.out) (fun ε ε =>.out)):=h;rw [hv] at h';exact (Ask.out (show Ask S cx X m Q .out from h')).elim
 unfold bA at h;rw [hb] at h;have h':Ask S cx X m Q (exec S.tb cx b.body (us++b.pads) o (fun L o=>.ok .none (kq b.fr L o)) (fun ε ε =>.out) (fun ε ε =>.out)):=h;have hul:us.length=names.length:=hlen.trans har;refine jZ fa (by rw [←vus.length,hul]) ?_;have hLoc:bu S cx ρ I.nm (us++b.pads) (names.zip vs):=by
  refine ⟨by rw [List.length_append,hpads,List.length_replicate,hnm,List.length_append,hul],fun i u hu hne=>?_⟩;rw [bz] at hu
  by_cases hi:i<us.length
  ·rw [List.getElem?_append_left hi,List.getElem?_eq_getElem hi] at hu;have hu':us[i]? = some u:=by rw [List.getElem?_eq_getElem hi];exact congrArg some hu
   obtain ⟨v,hv,vu⟩:=vus.get hu';have hin:i<names.length:=by rw [←hul];exact hi
   refine ⟨v,nP fa.nd ?_ hv,vu⟩;rw [bz,hnm,List.getElem?_append_left hin,List.getElem?_eq_getElem hin];rfl
  ·exfalso
   rw [List.getElem?_append_right (Nat.le_of_not_lt hi),hpads,List.getElem?_replicate] at hu
   split at hu<;>exact hne hu.symm
 have main:=yE F Z hT hC (fun z=>hN (hin z)) b.body body hok H₀ ρ _ o H _ Q _ _ _ hx hI hLoc h';rw [hdec] at main;refine EXS.mono main fun fl l' H' q=>?_
 cases fl with
 | next =>
  cb_eq;rcases q with ⟨L',o',ρ',le,hI',hL',h₁⟩;by_in;exact ⟨_,_,ρ',le,j0,hI'.free _,h₁.ok⟩
 | brk=>obtain ⟨L',o',ρ',le,hI',hL',h₁⟩:=q;exact h₁.out.elim
 | cont=>obtain ⟨L',o',ρ',le,hI',hL',h₁⟩:=q;exact h₁.out.elim
 | ret v=>exact q
theorem lw {n dd:Nat}(hA:∀ m,n=m+1→vE S cx X XX dd m) (hK:S.nd<n→ig S cx X XX dd):jq S cx X XX n dd:=fun f b hb H₀ ρ us vs o H l Q k hx hI vus hlen h=>by
 rcases h.call with ⟨m,e,_,h₁⟩ | ⟨r,hr,hn,h₁⟩
 ·exact hA m e f b hb H₀ ρ us vs o H l _ hx hI vus hlen h₁
 ·exact hK hn f b hb H₀ ρ us vs o H l _ r hx hI vus hlen hr h₁
theorem lH (F:Gf S mt) (hF:∀ f b,S.ft.get f=some b→te S mt f b) (hT:cx.T.length<60000) (hNat:∀ dd,S.nd+2≤dd→ig S cx X XX dd):∀ m dd,m+2≤dd→vE S cx X XX dd m:=by
 have init:∀ e,iN S cx X XX (e+1):=fun e c b hc hb=>nh F hT (hF _ b hb) hb (lw (fun k z=>nomatch z) fun z=>absurd z (Nat.not_lt_zero _)) fun z=>absurd rfl (z c hc);intro m
 induction m with
 | zero =>
  intro dd hd f b hb;obtain ⟨e,rfl⟩:∃ e,dd=e+1+1:=⟨dd - 2,(Nat.sub_add_cancel (Nat.le_trans (Nat.le_add_left 2 _) hd)).symm⟩;exact nh F hT (hF f b hb) hb (lw (fun k z=>nomatch z) fun z=>absurd z (Nat.not_lt_zero _)) fun ε =>init e
 | succ m ih =>
  intro dd hd f b hb;obtain ⟨e,rfl⟩:∃ e,dd=e+1+1:=⟨dd - 2,(Nat.sub_add_cancel (Nat.le_trans (Nat.le_add_left 2 _) hd)).symm⟩;exact nh F hT (hF f b hb) hb (lw (fun k z=>by cases z;exact ih _ (Nat.le_of_succ_le_succ hd)) fun z=>hNat _ (Nat.le_trans (Nat.succ_le_succ z) (Nat.le_of_succ_le_succ hd))) fun ε =>init e
end
section
variable {S:Sd}{cx:Cx}{X:Nat→Prop}{n:Nat}
theorem Ask.okI' {Q:U→O→Prop}{u:U}{o:O}(h:Q u o):Ask S cx X n Q (.ok u o):=by cases n<;>exact h
theorem Ask.failI {Q:U→O→Prop}{k:Nat}(h:X k):Ask S cx X n Q (.fail k):=by cases n<;>exact h
noncomputable def dH (S:Sd) (cx:Cx) (X:Nat→Prop) (Q:U→O→Prop):Nat→List (U→O→Rs)→Rs→Prop
 | d,[],r=>Ask S cx X d Q r
 | d,k::ks,r=>Ask S cx X d (fun u o=>dH S cx X Q (d+1) ks (k u o)) r
theorem dH.failI {Q:U→O→Prop}{d:Nat}{ks:List (U→O→Rs)}{k:Nat}(h:X k):dH S cx X Q d ks (.fail k):=by
 cases ks<;>exact Ask.failI h
theorem dH.callI {Q:U→O→Prop}{d:Nat}{ks:List (U→O→Rs)}{f:Pth}{us:List U}{o:O}{k:U→O→Rs}(hn:S.nat f us o=none) (h:dH S cx X Q d (k::ks) (bA S.tb cx S.ft f us o)):dH S cx X Q (d+1) ks (.call f us o k):=by
 have key:∀ (Q':U→O→Prop),Ask S cx X d (fun u o=>Ask S cx X (d+1) Q' (k u o)) (bA S.tb cx S.ft f us o)→Ask S cx X (d+1) Q' (.call f us o k):=fun Q' h=>by
  show @Option.rec Rs (fun ε =>Prop) (Ask S cx X d (fun u o=>Ask S cx X (d+1) Q' (k u o)) (bA S.tb cx S.ft f us o)) _ (S.nat f us o);rw [hn];exact h
 cases ks with
 | nil=>exact key _ h
 | cons k' ks=>exact key _ h
theorem dH.natI {Q:U→O→Prop}{d:Nat}{ks:List (U→O→Rs)}{f:Pth}{us:List U}{o:O}{k:U→O→Rs}{r:Rs}(hn:S.nat f us o=some r) (hd:S.nd<d) (h:cc X (fun u o=>dH S cx X Q d ks (k u o)) r):dH S cx X Q d ks (.call f us o k):=by
 have key:∀ (Q':U→O→Prop),cc X (fun u o=>Ask S cx X d Q' (k u o)) r→Ask S cx X d Q' (.call f us o k):=fun Q' h=>by
  cases d with
  | zero=>omega
  | succ d =>
   show @Option.rec Rs (fun ε =>Prop) _ (fun r=>S.nd<d+1∧cc X (fun u o=>Ask S cx X (d+1) Q' (k u o)) r) (S.nat f us o);rw [hn];exact ⟨hd,h⟩
 cases ks with
 | nil=>exact key _ h
 | cons k' ks=>exact key _ h
theorem dH.retI {Q:U→O→Prop}{d:Nat}{ks:List (U→O→Rs)}{u:U}{o:O}{k:U→O→Rs}(h:dH S cx X Q (d+1) ks (k u o)):dH S cx X Q d (k::ks) (.ok u o):=Ask.okI' h
noncomputable def Fin (X:Nat→Prop) (Q:U→O→Prop) (r:Rs):Prop:=cc X Q r
theorem gE {Q:U→O→Prop}:∀ {m:Nat}{r:Rs}{ks:List (U→O→Rs)}{d:Nat},Fin X Q (run S.tb cx S.ft S.nat S.nd m r ks d)→dH S cx X Q d ks r
 | 0,r,ks,d,h=>h.elim
 | m+1,r,ks,d,h=>by
  cases r with
  | ok u o=>cases ks with
   | nil=>exact Ask.okI' h
   | cons k ks=>exact dH.retI (gE (m:=m) h)
  | fail k=>exact dH.failI h
  | out=>exact h.elim
  | call f us o k =>
   have h':Fin X Q (@Option.rec Rs (fun ε =>Rs) (@Nat.rec (fun ε =>Rs) .out (fun d ε =>run S.tb cx S.ft S.nat S.nd m (bA S.tb cx S.ft f us o) (k::ks) d) d)
    (fun r=>IF (Nat.ble (Nat.succ S.nd) d) (@Rs.rec (fun ε =>Rs) (fun u o=>run S.tb cx S.ft S.nat S.nd m (k u o) ks d) .fail .out (fun ε ε ε ε ε =>.out) r) .out) (S.nat f us o)):=h
   cases q:S.nat f us o with
   | none =>
    rw [q] at h'
    cases d with
    | zero=>exact h'.elim
    | succ d=>exact dH.callI q (gE (m:=m) h')
   | some r =>
    rw [q] at h';have h'':Fin X Q (IF (Nat.ble (Nat.succ S.nd) d) (@Rs.rec (fun ε =>Rs) (fun u o=>run S.tb cx S.ft S.nat S.nd m (k u o) ks d) .fail .out (fun ε ε ε ε ε =>.out) r) .out):=h'
    cases w:Nat.ble (Nat.succ S.nd) d with
    | false=>rw [w] at h'';exact h''.elim
    | true =>
     rw [w] at h'';refine dH.natI q (Nat.le_of_ble_eq_true w) ?_
     cases r with
     | ok u o=>exact gE (m:=m) h''
     | fail k=>exact h''
     | out=>exact h''.elim
     | call _ _ _ _=>exact h''.elim
end
end Mine
end
section
open PySem PySem.W PySem.Calls PyProof.Rows
noncomputable section
namespace Mine
noncomputable def cs' (x:Str):List Nat:=x.cps.toList
theorem rM {x:Str}:SS (cs' x)=x:=rfl
noncomputable def so (x:String):List Nat:=cs' (Str.ofString x)
theorem rL {x:String}:SS (so x)=Str.ofString x:=rfl
theorem c9 {a b:List Nat}(h:aN a b=true):a=b:=by rw [b9] at h;exact of_decide_eq_true h
theorem eS (a:List Nat):aN a a=true:=by rw [b9];exact decide_eq_true rfl
theorem xb {a b:List Nat}:aN a b=true↔a=b:=⟨c9,fun e=>e▸eS a⟩
theorem mn {a b:List Nat}:(SS a==SS b)=aN a b:=by
 rw [Bool.eq_iff_iff,xb,beq_iff_eq];exact ⟨fun e=>by simpa using congrArg (fun s:Str=>s.cps.toList) e,fun e=>e▸rfl⟩
noncomputable def kdN (k:NameKind):Nat:=match k with | .local=>0 | .globalImplicit=>1 | .cell=>2 | _=>3
noncomputable def lkN (x:List Nat) (l:List (Str×NameKind)):Nat:=@List.rec (Str×NameKind) (fun ε =>Nat) 9 (fun p ε ih=>IF (aN (cs' p.1) x) (kdN p.2) ih) l
theorem pg {x:List Nat}:∀ {l:List (Str×NameKind)}{n:Nat},n<9→lkN x l=n→∃ k,l.lookup (SS x)=some k∧kdN k=n
 | [],n,h,e=>by rw [show lkN x []=9 from rfl] at e;omega
 | (a,k)::r,n,h,e=>by
  have e':IF (aN (cs' a) x) (kdN k) (lkN x r)=n:=e;rw [List.lookup_cons]
  cases q:aN (cs' a) x with
  | true =>
   rw [q] at e';have:(SS x==a)=true:=by rw [←rM (x:=a),mn,←c9 q,eS]
   rw [this];exact ⟨k,rfl,e'⟩
  | false =>
   rw [q] at e';have:(SS x==a)=false:=by
    rw [←rM (x:=a),mn]
    cases w:aN x (cs' a) with
    | false=>rfl
    | true=>rw [c9 w,eS] at q;cases q
   rw [this];exact pg h e'
theorem uc {x:String}{l:List (Str×NameKind)}(h:Nat.beq (lkN (so x) l) 0=true):l.lookup (Str.ofString x)=some .local:=by
 obtain ⟨k,e,q⟩:=pg (n:=0) (by decide) (Nat.eq_of_beq_eq_true h);rw [←rL,e];cases k<;>first | rfl | cases q
theorem za {x:String}{l:List (Str×NameKind)}(h:Nat.beq (lkN (so x) l) 1=true):l.lookup (Str.ofString x)=some .globalImplicit:=by
 obtain ⟨k,e,q⟩:=pg (n:=1) (by decide) (Nat.eq_of_beq_eq_true h);rw [←rL,e];cases k<;>first | rfl | cases q
noncomputable def wX:List Nat:=[95,95,100,101,98,117,103,95,95]
noncomputable def lN (x:String):Bool:=Bool.not (aN (so x) wX)
theorem pa {x:String}(h:lN x=true):(Str.ofString x==("__debug__" : Str))=false:=by
 have e:("__debug__" : Str)=SS wX:=by decide +kernel
 rw [e,←rL,mn];unfold lN at h
 cases q:aN (so x) wX with
 | false=>rfl
 | true=>rw [q] at h;cases h
noncomputable def lk (x:List Nat) (l:List (List Nat)):Bool:=@List.rec (List Nat) (fun ε =>Bool) false (fun y ε ih=>IF (aN y x) true ih) l
noncomputable def ndS (l:List String):Bool:=@List.rec String (fun ε =>Bool) true (fun x r ih=>IF (lk (so x) (r.map so)) false ih) l
theorem mR {x:List Nat}:∀ {l:List (List Nat)},x∈l→lk x l=true
 | y::r,h=>by
  show IF (aN y x) true (lk x r)=true;rcases List.mem_cons.mp h with rfl | h
  ·rw [eS]
  ·cases aN y x with
   | true=>rfl
   | false=>exact mR h
theorem pd:∀ {l:List String},ndS l=true→l.Nodup
 | [],_=>List.nodup_nil
 | x::r,h=>by
  have h':IF (lk (so x) (r.map so)) false (ndS r)=true:=h
  cases q:lk (so x) (r.map so) with
  | true=>rw [q] at h';cases h'
  | false =>
   rw [q] at h';refine List.nodup_cons.mpr ⟨fun m=>?_,pd h'⟩;rw [mR (List.mem_map_of_mem m)] at q;cases q
theorem bC {α : Type}{l:List α}{p : α→Bool}(h:l.all p=true):∀ x∈l,p x=true:=List.all_eq_true.mp h
theorem i3 {n:Nat}:∀ {l:List Nat},bo l n=true→n∈l
 | m::r,h=>by
  have h':IF (Nat.beq m n) true (bo r n)=true:=h
  cases q:Nat.beq m n with
  | true=>rw [Nat.eq_of_beq_eq_true q];exact .head _
  | false=>rw [q] at h';exact .tail _ (i3 h')
theorem Pth.beq_eq:∀ {a b:Pth},Pth.beq a b=true→a=b
 | .e,.e,_=>rfl
 | .e,.l _,h=>by cases h
 | .e,.r _,h=>by cases h
 | .l _,.e,h=>by cases h
 | .r _,.e,h=>by cases h
 | .l a,.l b,h=>congrArg Pth.l (Pth.beq_eq (show Pth.beq a b=true from h))
 | .r a,.r b,h=>congrArg Pth.r (Pth.beq_eq (show Pth.beq a b=true from h))
 | .l _,.r _,h=>by cases h
 | .r _,.l _,h=>by cases h
theorem i2 {n:Pth}:∀ {l:List Pth},jG l n=true→n∈l
 | m::r,h=>by
  have h':IF (Pth.beq m n) true (jG r n)=true:=h
  cases q:Pth.beq m n with
  | true=>rw [Pth.beq_eq q];exact .head _
  | false=>rw [q] at h';exact .tail _ (i2 h')
noncomputable def sA (v:Value):List Nat:=match v with | .str s _=>cs' s | _=>[]
noncomputable def lW (v:Value):Bool:=match v with | .str _ _=>true | _=>false
noncomputable def kf (es:List DictEntry):Bool:=@List.rec DictEntry (fun ε =>Bool) true (fun e ε ih=>IF (lW e.key) ih false) es
noncomputable def cF (es:List DictEntry) (x:List Nat):Option Value:=@List.rec DictEntry (fun ε =>Option Value) none (fun e ε ih=>IF (aN (sA e.key) x) (some e.val) ih) es
set_option tactic.hygienic true in
theorem wC {v:Value}{x:List Nat}(h:lW v=true):v.isStr (SS x)=aN (sA v) x:=by
 cases v<;>first | cases h | skip
 rename_i s t;show (s==SS x)=aN (cs' s) x;rw [←rM (x:=s),mn];rfl
theorem jR {x:List Nat}:∀ {es:List DictEntry},kf es=true→(es.find? fun e=>e.key.isStr (SS x)).map (·.val)=cF es x
 | [],_=>rfl
 | e::es,h=>by
  have h':IF (lW e.key) (kf es) false=true:=h;obtain ⟨a,b⟩:=ai h';rw [List.find?_cons,wC a];show _=IF (aN (sA e.key) x) (some e.val) (cF es x)
  cases aN (sA e.key) x with
  | true=>rfl
  | false=>exact jR b
theorem pc:∀ {es:List DictEntry},kf es=true→es.any (·.refKey)=false
 | [],_=>rfl
 | e::es,h=>by
  have h':IF (lW e.key) (kf es) false=true:=h;obtain ⟨a,b⟩:=ai h';rw [List.any_cons,pc b,Bool.or_false];unfold DictEntry.refKey
  cases q:e.key<;>rw [q] at a<;>first | rfl | cases a
noncomputable def nsE (K:Frag) (ns:Addr):Option (List DictEntry):=match K.lookup ns with
 | some ⟨_,_,.dict es _,_⟩=>some es.toList
 | _=>none
noncomputable def nsL (K:Frag) (ns:Addr):List DictEntry:=(nsE K ns).getD []
noncomputable def nsB (K:Frag) (ns:Addr):Bool:=match nsE K ns with
 | some es=>kf es
 | none=>false
theorem B7 {K:Frag}{ns:Addr}{es:List DictEntry}(h:nsE K ns=some es):∃ c d arr n sl,K.lookup ns=some ⟨c,d,.dict arr n,sl⟩∧es=arr.toList:=by
 delta nsE at h
 generalize K.lookup ns=o at h ⊢
 cases o with
 | none=>cases h
 | some o =>
  cb_eq;rcases o with ⟨c,d,da,sl⟩;by_in
  cases da<;>first | (cases h;done) | (cases h;exact ⟨_,_,_,_,_,rfl,rfl⟩)
theorem tY {K:Frag}{ns:Addr}(h:nsB K ns=true) (x:List Nat):nsIn K ns (SS x)=some (cF (nsL K ns) x):=by
 unfold nsB at h;unfold nsL
 cases e:nsE K ns with
 | none=>rw [e] at h;cases h
 | some es =>
  rw [e] at h;unfold nsIn;cb_eq;rcases B7 e with ⟨c,d,arr,n,sl,hk,q⟩;by_in
  ·cases q
   rw [hk];have f:=jR (x:=x) h;show (match arr.toList.find? fun e=>e.key.isStr (SS x) with | some e=>some (some e.val) | none=>if arr.toList.any (·.refKey) then none else some none)=_
   cases q:arr.toList.find? fun e=>e.key.isStr (SS x) with
   | some e=>rw [q] at f;show some (some e.val)=some (cF _ x);rw [Option.getD_some,←f];rfl
   | none=>rw [q] at f;show (if _ then none else some none)=some (cF _ x);rw [pc h,Option.getD_some,←f];rfl
noncomputable def cw (K:Frag) (C:Addr):List Value:=match K.lookup C with
 | some ⟨_,_,.cls cd,_⟩=>cd.mro
 | _=>[]
noncomputable def fc (K:Frag) (C:Addr):Addr:=match K.lookup C with
 | some ⟨_,_,.cls cd,_⟩=>cd.ns
 | _=>0
noncomputable def gI (K:Frag) (C:Addr):Bool:=match K.lookup C with
 | some ⟨_,_,.cls _,_⟩=>true
 | _=>false
noncomputable def mj (K:Frag) (v:Value):Bool:=match v with
 | .ref D=>gI K D&&nsB K (fc K D)
 | _=>true
noncomputable def ip (K:Frag) (C:Addr):Bool:=gI K C&&(cw K C).all (mj K)
noncomputable def iK (K:Frag) (x:List Nat) (l:List Value):Option Value:=@List.rec Value (fun ε =>Option Value) none (fun v ε ih=>match v with
 | .ref D=>@Option.rec Value (fun ε =>Option Value) ih some (cF (nsL K (fc K D)) x)
 | _=>none) l
set_option tactic.hygienic true in
theorem mK {K:Frag}{D:Addr}{x:List Nat}(h:mj K (.ref D)=true):ownIn K (SS x) (.ref D)=some (cF (nsL K (fc K D)) x):=by
 obtain ⟨h1,h2⟩:=Bool.and_eq_true_iff.mp (show (gI K D&&nsB K (fc K D))=true from h);unfold gI at h1;show (match K.lookup D with | some ⟨_,_,.cls cd,_⟩=>nsIn K cd.ns (SS x) | _=>none)=_
 split at h1
 ·rename_i c d cd sl hk;have e:fc K D=cd.ns:=by unfold fc;rw [hk]
  rw [←e];exact tY h2 x
 ·cases h1
set_option tactic.hygienic true in
theorem nV {K:Frag}{x:List Nat}{v:Value}:∀ {l:List Value},l.all (mj K)=true→iK K x l=some v→alongIn K (SS x) l=some (some v)
 | [],_,e=>by cases e
 | c::r,h,e=>by
  rw [List.all_cons,Bool.and_eq_true] at h;unfold alongIn
  cases c<;>try (exfalso;exact absurd (show (none:Option Value)=some v from e) (by intro z;cases z))
  rename_i D;rw [mK h.1];have e':@Option.rec Value (fun ε =>Option Value) (iK K x r) some (cF (nsL K (fc K D)) x)=some v:=e
  cases q:cF (nsL K (fc K D)) x with
  | some u=>rw [q] at e';cases e';rfl
  | none=>rw [q] at e';exact nV h.2 e'
theorem rd {K:Frag}{C:Addr}(h:gI K C=true):∃ c d cd sl,K.lookup C=some ⟨c,d,.cls cd,sl⟩:=by
 delta gI at h
 generalize K.lookup C=o at h ⊢
 cases o with
 | none=>cases h
 | some o =>
  cb_eq;rcases o with ⟨c,d,da,sl⟩;by_in
  cases da<;>first | (cases h;done) | exact ⟨_,_,_,_,rfl⟩
theorem lq {K:Frag}{C:Addr}{x:List Nat}{v:Value}(h:ip K C=true) (e:iK K x (cw K C)=some v):findIn K (.ref C) (SS x)=some (some v):=by
 cb_eq;rcases Bool.and_eq_true_iff.mp h with ⟨h1,h2⟩;rcases rd h1 with ⟨c,d,cd,sl,hk⟩;by_in;show (match K.lookup C with | some ⟨_,_,.cls cd,_⟩=>alongIn K (SS x) cd.mro | _=>none)=_
 ·have e1:cw K C=cd.mro:=by unfold cw;rw [hk]
  rw [e1] at e h2;rw [hk];exact nV h2 e
noncomputable def i1 (K:Frag) (x:List Nat) (l:List Value):Bool:=@List.rec Value (fun ε =>Bool) true (fun v ε ih=>match v with
 | .ref D=>@Option.rec Value (fun ε =>Bool) ih (fun ε =>false) (cF (nsL K (fc K D)) x)
 | .type n=>@Option.rec Value (fun ε =>Bool) ih (fun ε =>false) (fastBuiltinOwn n (SS x))
 | _=>false) l
set_option tactic.hygienic true in
theorem jg {K:Frag}{x:List Nat}:∀ {l:List Value},l.all (mj K)=true→i1 K x l=true→alongIn K (SS x) l=some none
 | [],_,_=>rfl
 | c::r,h,e=>by
  rw [List.all_cons,Bool.and_eq_true] at h;unfold alongIn
  cases c<;>try (exfalso;exact absurd (show false=true from e) (by decide))
  ·rename_i n;have e':@Option.rec Value (fun ε =>Bool) (i1 K x r) (fun ε =>false) (fastBuiltinOwn n (SS x))=true:=e;show (match some (fastBuiltinOwn n (SS x)) with | some (some v)=>some (some v) | some none=>alongIn K (SS x) r | none=>none)=some none
   cases q:fastBuiltinOwn n (SS x) with
   | some u=>rw [q] at e';cases e'
   | none=>rw [q] at e';exact jg h.2 e'
  ·rename_i D;rw [mK h.1];have e':@Option.rec Value (fun ε =>Bool) (i1 K x r) (fun ε =>false) (cF (nsL K (fc K D)) x)=true:=e
   cases q:cF (nsL K (fc K D)) x with
   | some u=>rw [q] at e';cases e'
   | none=>rw [q] at e';exact jg h.2 e'
theorem jQ {K:Frag}{C:Addr}{x:List Nat}(h:ip K C=true) (e:i1 K x (cw K C)=true):findIn K (.ref C) (SS x)=some none:=by
 cb_eq;rcases Bool.and_eq_true_iff.mp h with ⟨h1,h2⟩;rcases rd h1 with ⟨c,d,cd,sl,hk⟩;by_in;show (match K.lookup C with | some ⟨_,_,.cls cd,_⟩=>alongIn K (SS x) cd.mro | _=>none)=_
 ·have e1:cw K C=cd.mro:=by unfold cw;rw [hk]
  rw [e1] at e h2;rw [hk];exact jg h2 e
theorem kW {K:Frag}{C:Addr}{x:Str}(h:findIn K (.ref C) x=some none):takerIn K C x=some none:=by unfold takerIn;rw [h];rfl
noncomputable def fnD (K:Frag) (a:Addr):Option FuncData:=match K.lookup a with
 | some ⟨_,_,.func F,_⟩=>some F
 | _=>none
noncomputable def c8 (K:Frag) (a:Addr):List PS':=match fnD K a with
 | some F=>(match F.body with | .stmts B=>B | _=>[])
 | none=>[]
noncomputable def cV (K:Frag) (a:Addr):Scope:=match fnD K a with
 | some F=>F.scope
 | none=>default
noncomputable def i7 (v:Value):Bool:=match v with | .none=>true | _=>false
noncomputable def mW (b:FuncBody):Bool:=match b with | .stmts _=>true | _=>false
noncomputable def wq (p:Arguments):Bool:=match p with
 | ⟨[],_,none,[],_,none,_⟩=>true
 | _=>false
noncomputable def m8 (a:List (List Nat)):List (List Nat)→Bool:=@List.rec (List Nat) (fun ε =>List (List Nat)→Bool) (fun b=>br b) (fun x ε ih b=>@List.rec (List Nat) (fun ε =>Bool) false (fun y s ε =>IF (aN x y) (ih s) false) b) a
theorem m7:∀ {a b:List (List Nat)},m8 a b=true→a=b
 | [],[],_=>rfl
 | [],_::_,h=>by cases h
 | _::_,[],h=>by cases h
 | x::a,y::b,h=>by
  obtain ⟨h1,h2⟩:=ai (show IF (aN x y) (m8 a b) false=true from h);rw [c9 h1,m7 h2]
noncomputable def lm (k:NameKind):Bool:=match k with | .cell=>false | _=>true
noncomputable def fdB (K:Frag) (names:List String) (F:FuncData):Bool :=
 mW F.body&&wq F.params&&Nat.beq F.globals mainGlobals&&br F.closure&&i7 F.defaults&&i7 F.kwdefaults&&F.annotations.isNone&&i7 F.closureTuple&&Nat.beq F.builtins builtinsNs &&
  codeIn K F.code F.qualname&&m8 (F.params.args.map fun a=>cs' a.arg) (names.map so)&&lZ F.scope.kind&&Bool.not F.scope.isGenerator&&Bool.not F.scope.isCoroutine&&F.scope.names.all (fun x=>lm x.2) &&
  ndS names&&names.all (fun x=>Nat.beq (lkN (so x) F.scope.names) 0)
noncomputable def fnB (K:Frag) (a:Addr) (names:List String):Bool:=match fnD K a with
 | some F=>fdB K names F
 | none=>false
theorem pF {α β : Type}{f g : α→Option β}:∀ {l:List α},(∀ x∈l,f x=g x)→l.filterMap f=l.filterMap g
 | [],_=>rfl
 | x::r,h=>by rw [List.filterMap_cons,List.filterMap_cons,h x (.head _),pF fun y hy=>h y (.tail _ hy)]
theorem nM {α β : Type}{f : α→β}:∀ {l:List α},(l.map f).Nodup→l.Nodup
 | [],_=>List.nodup_nil
 | x::r,h=>by
  obtain ⟨h1,h2⟩:=List.nodup_cons.mp h;exact List.nodup_cons.mpr ⟨fun m=>h1 (List.mem_map_of_mem m),nM h2⟩
theorem ub {n:Str}:∀ {l:List Str}{vs:List Value},l.length≤vs.length→n∈l→((l.zip vs).lookup n).isNone=false
 | x::r,[],hv,_=>absurd hv (Nat.not_succ_le_zero _)
 | x::r,v::vs,hv,h=>by
  rw [List.zip_cons_cons,List.lookup_cons]
  cases q:(n==x) with
  | true=>rfl
  | false =>
   rcases List.mem_cons.mp h with rfl | h
   ·rw [beq_self_eq_true] at q;cases q
   ·exact ub (Nat.le_of_succ_le_succ hv) h
theorem uy:∀ {l:List Str}{Us:List Value},l.Nodup→Us.length=l.length→(l.filterMap fun n=>((l.zip Us).lookup n).map fun x=>(n,x))=l.zip Us
 | [],_,_,_=>rfl
 | x::r,[],_,h=>nomatch h
 | x::r,v::vs,hn,hl=>by
  obtain ⟨n1,n2⟩:=List.nodup_cons.mp hn;rw [List.filterMap_cons,List.zip_cons_cons,List.lookup_cons,beq_self_eq_true];refine congrArg ((x,v) :: ·) (Eq.trans (pF fun y hy=>?_) (uy n2 (Nat.succ.inj hl)));have q:(y==x)=false:=beq_eq_false_iff_ne.mpr fun z=>n1 (z▸hy);rw [List.lookup_cons,q]
theorem sW {fd:FuncData}{as:List Arg}{kd:List (Option Expr)}{ds:List Expr}{Us:List Value}(h1:fd.params=⟨[],as,none,[],kd,none,ds⟩) (h2:fd.defaults=.none) (hn:(as.map (·.arg)).Nodup) (hl:Us.length=as.length) :
  PySem.bindArgs fd ⟨Us,[]⟩=pure ((as.map (·.arg)).zip Us):=by
 have e:(as.map (·.arg)).filter (fun n=>(((as.map (·.arg)).zip Us).lookup n).isNone)=[] :=
  List.filter_eq_nil_iff.mpr fun n hm=>by rw [ub (by rw [hl,List.length_map];exact Nat.le_refl _) hm];exact Bool.false_ne_true
 have e4:=uy hn (hl.trans (List.length_map _).symm);have hd:=hl.trans (List.length_map (f:=fun x:Arg=>x.arg) (as:=as)).symm;unfold PySem.bindArgs;rw [h1,h2]
 dsimp only
 generalize as.map (·.arg)=l at e e4 hd
 simp [hd,show seqItems? Value.none=pure none from rfl,e,e4]
theorem Cj {K:Frag}{a:Addr}{F:FuncData}(h:fnD K a=some F):∃ c d sl,K.lookup a=some ⟨c,d,.func F,sl⟩:=by
 delta fnD at h
 generalize K.lookup a=o at h ⊢
 cases o with
 | none=>cases h
 | some o =>
  cb_eq;rcases o with ⟨c,d,da,sl⟩;by_in
  cases da<;>first | (cases h;done) | (cases h;exact ⟨_,_,_,rfl⟩)
theorem ag {a b:Bool}(h:(a&&b)=true):a=true:=(Bool.and_eq_true_iff.mp h).1
theorem dW {a b:Bool}(h:(a&&b)=true):b=true:=(Bool.and_eq_true_iff.mp h).2
theorem pb {v:Value}(h:i7 v=true):v=.none:=by cases v<;>first | rfl | cases h
theorem yY {p:Arguments}(h:wq p=true):∃ as kd ds,p=⟨[],as,none,[],kd,none,ds⟩:=by
 cb_eq;rcases p with ⟨p1,p2,p3,p4,p5,p6,p7⟩;by_in
 cases p1 with
 | cons _ _=>cases h
 | nil =>
 cases p3 with
 | some _=>cases h
 | none =>
 cases p4 with
 | cons _ _=>cases h
 | nil =>
 cases p6 with
 | some _=>cases h
 | none=>exact ⟨_,_,_,rfl⟩
theorem Dj {b:FuncBody}(h:mW b=true):∃ B,b=.stmts B:=by cases b<;>first | exact ⟨_,rfl⟩ | cases h
theorem C8 {l:List (Str×Addr)}(h:br l=true):l=[]:=by cases l<;>first | rfl | cases h
theorem Ex {n q:Str}{p p':Arguments}{b b':FuncBody}{s:Scope}{g g':Addr}{c c':List (Str×Addr)}{d d' k k' o m:Value}{a a':Option Addr}{co t t':Value}{i i':Addr}(e1:p=p') (e2:b=b') (e3:g=g') (e4:c=c') (e5:d=d') (e6:k=k') (e7:a=a') (e8:t=t') (e9:i=i') :
  FuncData.mk n q p b s g c d k o m a co t i=FuncData.mk n q p' b' s g' c' d' k' o m a' co t' i':=by subst e1 e2 e3 e4 e5 e6 e7 e8 e9;rfl
theorem Fe {F:FuncData}{p:Arguments}{B:List PS'}(e1:F.body=.stmts B) (e2:F.params=p) (e3:F.globals=mainGlobals) (e4:F.closure=[]) (e5:F.defaults=.none) (e6:F.kwdefaults=.none) (e7:F.annotations=none) (e8:F.closureTuple=.none) (e9:F.builtins=builtinsNs) :
  F=fnOf F.name F.qualname p B F.scope .none .none F.doc F.pyModule none F.code .none:=by
 exact Ex e2 e1 e3 e4 e5 e6 e7 e8 e9
theorem zk {W:Wd}{a:Addr}{names:List String}{F:FuncData}{c:Value}{d:Option Addr}{sl:Array (Option Value)}{as:List Arg}{kd:List (Option Expr)}{ds:List Expr}{B:List PS'}
  (hk:W.K.lookup a=some ⟨c,d,.func (fnOf F.name F.qualname ⟨[],as,none,[],kd,none,ds⟩ B F.scope .none .none F.doc F.pyModule none F.code .none),sl⟩) (h10:codeIn W.K F.code F.qualname=true) (h11:m8 (as.map fun a=>cs' a.arg) (names.map so)=true) (h12:lZ F.scope.kind=true)
  (h13:Bool.not F.scope.isGenerator=true) (h14:Bool.not F.scope.isCoroutine=true) (h15:F.scope.names.all (fun x=>lm x.2)=true) (h16:ndS names=true) (h17:names.all (fun x=>Nat.beq (lkN (so x) F.scope.names) 0)=true) :
  iu W a names B F.scope:=by
 have nd:=pd h16;have e11:as.map (·.arg)=names.map Str.ofString:=by
  have:=m7 h11;have:=congrArg (List.map SS) this;rw [List.map_map,List.map_map] at this;exact this
 have hk2:F.scope.kind=.function:=by cases q:F.scope.kind<;>rw [q] at h12<;>first | rfl | cases h12
 have nd':(as.map (·.arg)).Nodup:=by
  rw [e11];have:(names.map Str.ofString).map cs'=names.map so:=by rw [List.map_map];rfl
  refine nM (f:=cs') ?_;rw [this];have:∀ {l:List String},ndS l=true→(l.map so).Nodup:=by
   intro l
   induction l with
   | nil=>intro _;exact List.nodup_nil
   | cons x r ih =>
    intro h;have h':IF (lk (so x) (r.map so)) false (ndS r)=true:=h
    cases q:lk (so x) (r.map so) with
    | true=>rw [q] at h';cases h'
    | false =>
     rw [q] at h';exact List.nodup_cons.mpr ⟨fun m=>(by rw [mR m] at q;cases q),ih h'⟩
  exact this h16
 refine ⟨⟨c,d,sl,F.name,F.qualname,_,F.doc,F.pyModule,F.code,hk,h10,fun Us hl=>?_⟩,fun x hx=>uc (bC h17 x hx),nd,?_,?_,hk2,fun x hx e=>?_⟩
 ·rw [sW rfl rfl nd' (by rw [hl];have:=congrArg List.length e11;simpa using this.symm),e11]
 ·cases q:F.scope.isCoroutine<;>first | rfl | (rw [q] at h14;cases h14)
 ·cases q:F.scope.isGenerator<;>first | rfl | (rw [q] at h13;cases h13)
 ·have:=bC h15 x hx;rw [e] at this;cases this
theorem ux {W:Wd}{a:Addr}{names:List String}{F:FuncData}(hk:∃ c d sl,W.K.lookup a=some ⟨c,d,.func F,sl⟩) (h1:mW F.body=true) (h2:wq F.params=true) (h3:Nat.beq F.globals mainGlobals=true) (h4:br F.closure=true) (h5:i7 F.defaults=true) (h6:i7 F.kwdefaults=true)
  (h7:F.annotations.isNone=true) (h8:i7 F.closureTuple=true) (h9:Nat.beq F.builtins builtinsNs=true) (h10:codeIn W.K F.code F.qualname=true) (h11:m8 (F.params.args.map fun a=>cs' a.arg) (names.map so)=true) (h12:lZ F.scope.kind=true) (h13:Bool.not F.scope.isGenerator=true) (h14:Bool.not F.scope.isCoroutine=true)
  (h15:F.scope.names.all (fun x=>lm x.2)=true) (h16:ndS names=true) (h17:names.all (fun x=>Nat.beq (lkN (so x) F.scope.names) 0)=true):iu W a names (match F.body with | .stmts B=>B | _=>[]) F.scope:=by
 cb_eq;rcases hk with ⟨c,d,sl,hk⟩;rcases yY h2 with ⟨as,kd,ds,e2⟩;rcases Dj h1 with ⟨B,e1⟩;by_in;have e:=Fe e1 e2 (Nat.eq_of_beq_eq_true h3) (C8 h4) (pb h5) (pb h6) (Option.isNone_iff_eq_none.mp h7) (pb h8) (Nat.eq_of_beq_eq_true h9);rw [e2] at h11;rw [e1];exact zk (hk.trans (congrArg (fun F=>some (Obj.mk c d (.func F) sl)) e)) h10 h11 h12 h13 h14 h15 h16 h17
theorem gA {W:Wd}{a:Addr}{names:List String}(h:fnB W.K a names=true):iu W a names (c8 W.K a) (cV W.K a):=by
 unfold fnB at h;unfold c8 cV
 cases hf:fnD W.K a with
 | none=>rw [hf] at h;cases h
 | some F =>
  rw [hf] at h;exact ux (Cj hf) (ag (ag (ag (ag (ag (ag (ag (ag (ag (ag (ag (ag (ag (ag (ag (ag h)))))))))))))))) (dW (ag (ag (ag (ag (ag (ag (ag (ag (ag (ag (ag (ag (ag (ag (ag h)))))))))))))))) (dW (ag (ag (ag (ag (ag (ag (ag (ag (ag (ag (ag (ag (ag (ag h))))))))))))))) (dW (ag (ag (ag (ag (ag (ag (ag (ag (ag (ag (ag (ag (ag h)))))))))))))) (dW (ag (ag (ag (ag (ag (ag (ag (ag (ag (ag (ag (ag h))))))))))))) (dW (ag (ag (ag (ag (ag (ag (ag (ag (ag (ag (ag h)))))))))))) (dW (ag (ag (ag (ag (ag (ag (ag (ag (ag (ag h))))))))))) (dW (ag (ag (ag (ag (ag (ag (ag (ag (ag h)))))))))) (dW (ag (ag (ag (ag (ag (ag (ag (ag h))))))))) (dW (ag (ag (ag (ag (ag (ag (ag h)))))))) (dW (ag (ag (ag (ag (ag (ag h))))))) (dW (ag (ag (ag (ag (ag h)))))) (dW (ag (ag (ag (ag h))))) (dW (ag (ag (ag h)))) (dW (ag (ag h))) (dW (ag h)) (dW h)
end Mine
end
end
section
open PySem PySem.W PySem.Calls PyProof.Rows Hd
noncomputable section
namespace Mine
noncomputable def km (P:Params):List DictEntry:=[Hd.E P "__name__" 165 (Hd.T "law_nt0400_02" 2143),Hd.E P "__doc__" 166 .none,Hd.E P "__package__" 167 .none,Hd.E P "__loader__" 168 (.builtin "__main__.__loader__#opaque"),Hd.E P "__spec__" 169 .none,Hd.E P "__annotations__" 170 (Hd.R 6),Hd.E P "__builtins__" 171 (Hd.R 4),Hd.E P "__file__" 173 (Hd.T "/claim/cut.py" 172),Hd.E P "__cached__" 174 .none,Hd.E P "Node" 222 (Hd.R 31),Hd.E P "SIGN_BIT" 228 (Hd.I 9223372036854775808 227),Hd.E P "FRACTION_BITS" 230 (Hd.I 52 229),Hd.E P "FRACTION_MASK" 236 (Hd.I 4503599627370495 235),Hd.E P "HIDDEN_BIT_dbits" 240 (Hd.I 4503599627370496 239),Hd.E P "EXPONENT_MASK" 242 (Hd.I 2047 241),Hd.E P "EXPONENT_SHIFT" 244 (Hd.I 1075 243),Hd.E P "LEAST_POWER_dbits" 247 (I (-1074) 246),Hd.E P "ZERO" 249 (Hd.I 0 248),Hd.E P "INF" 253 (Hd.I 9218868437227405312 252),Hd.E P "width" 262 (Hd.R 42),Hd.E P "pack" 271 (Hd.R 49),Hd.E P "is_negative" 278 (Hd.R 56),Hd.E P "is_nan" 285 (Hd.R 63),Hd.E P "is_inf" 292 (Hd.R 70),Hd.E P "is_zero" 299 (Hd.R 77),Hd.E P "signed" 307 (Hd.R 84),Hd.E P "parts" 317 (Hd.R 91),Hd.E P "quotient" 326 (Hd.R 98),Hd.E P "round_ratio" 339 (Hd.R 105),Hd.E P "assembled" 349 (Hd.R 112),Hd.E P "from_int" 356 (Hd.R 119),Hd.E P "LEAST_POWER_numshow" 361 (I (-1074) 360),Hd.E P "HIDDEN_BIT_numshow" 365 (Hd.I 4503599627370496 364),Hd.E P "scaled" 376 (Hd.R 126),Hd.E P "decimal_place" 385 (Hd.R 133),Hd.E P "first_place" 398 (Hd.R 140),Hd.E P "shortest" 419 (Hd.R 147),Hd.E P "last_figure" 430 (Hd.R 154),Hd.E P "signed_exponent" 437 (Hd.R 161),Hd.E P "with_exponent" 446 (Hd.R 168),Hd.E P "laid_out" 455 (Hd.R 175),Hd.E P "without_figures" 462 (Hd.R 182),Hd.E P "show" 472 (Hd.R 189),Hd.E P "BLANKS" 486 (Hd.R 190),Hd.E P "LINE_ENDS" 491 (Hd.R 191),Hd.E P "LETTERS" 556 (Hd.R 224),Hd.E P "PARTS" 569 (Hd.R 231),Hd.E P "is_among" 579 (Hd.R 238),Hd.E P "is_white" 586 (Hd.R 245),Hd.E P "is_line_end" 593 (Hd.R 252),Hd.E P "is_digit" 600 (Hd.R 259),Hd.E P "is_octal_digit" 607 (Hd.R 266),Hd.E P "hex_value" 614 (Hd.R 273),Hd.E P "is_id_start" 621 (Hd.R 280),Hd.E P "is_id_part" 628 (Hd.R 287),Hd.E P "SINGLE" 649 (Hd.R 288),Hd.E P "code_at" 657 (Hd.R 295),Hd.E P "hex_at" 669 (Hd.R 302),Hd.E P "line_end_size" 677 (Hd.R 309),Hd.E P "octal_escape" 688 (Hd.R 316),Hd.E P "read_escape" 701 (Hd.R 323),Hd.E P "FARTHEST" 705 (Hd.I 400 704),Hd.E P "figure_of" 712 (Hd.R 330),Hd.E P "worth" 724 (Hd.R 337),Hd.E P "from_decimal" 735 (Hd.R 344),Hd.E P "KEYWORDS" 774 (Hd.R 345),Hd.E P "PUNCTS" 823 (Hd.R 346),Hd.E P "PUNCT_TABLE" 923 (Hd.R 400),Hd.E P "Token" 964 (Hd.R 422),Hd.E P "is_keyword" 971 (Hd.R 433),Hd.E P "punct_at" 981 (Hd.R 440),Hd.E P "SyntaxFail" 1014 (Hd.R 457),Hd.E P "Lexer" 1217 (Hd.R 603),Hd.E P "STRICT_WORDS" 1229 (Hd.R 608),Hd.E P "RESTRICTED" 1232 (Hd.R 609),Hd.E P "TARGETS" 1236 (Hd.R 610),Hd.E P "name_fault" 1244 (Hd.R 617),Hd.E P "binding_fault" 1252 (Hd.R 624),Hd.E P "first_twice" 1261 (Hd.R 631),Hd.E P "params_fault" 1273 (Hd.R 638),Hd.E P "target_fault" 1282 (Hd.R 645),Hd.E P "delete_fault" 1290 (Hd.R 652),Hd.E P "octal_fault" 1298 (Hd.R 659),Hd.E P "entry_fault" 1309 (Hd.R 666),Hd.E P "accessor_fault" 1318 (Hd.R 673),Hd.E P "Jumps" 1366 (Hd.R 705),Hd.E P "TokenTaker" 1516 (Hd.R 831),Hd.E P "PRIORITY" 1588 (Hd.R 836),Hd.E P "ASSIGNING" 1601 (Hd.R 838),Hd.E P "UNARY_SIGNS" 1606 (Hd.R 839),Hd.E P "UNARY_WORDS" 1610 (Hd.R 840),Hd.E P "STEPS" 1613 (Hd.R 841),Hd.E P "ExprParser" 1784 (Hd.R 970),Hd.E P "SimpleParser" 1922 (Hd.R 1066),Hd.E P "LiteralParser" 2004 (Hd.R 1120),Hd.E P "LOOP_WORDS" 2010 (Hd.R 1123),Hd.E P "StmtParser" 2131 (Hd.R 1203),Hd.E P "parse" 2142 (Hd.R 1212),Hd.E P "_law_take" 2152 (Hd.R 1219),Hd.E P "_law_values" 2159 (Hd.R 1226),Hd.E P "_law_rows" 2166 (Hd.R 1233),Hd.E P "_law_strict" 2174 (Hd.R 1240),Hd.E P "_law_line" 2182 (Hd.R 1247),Hd.E P "_law_heads" 2189 (Hd.R 1254),Hd.E P "_law_rule_right" 2201 (Hd.R 1261),Hd.E P "_law_strict_right" 2217 (Hd.R 1268),Hd.E P "law" 2235 (Hd.R 1275)]
noncomputable def Ed (l:List Obj):Nat→Obj:=@List.rec Obj (fun ε =>Nat→Obj) (fun ε =>oT []) (fun a ε ih n=>@Nat.rec (fun ε =>Obj) a (fun m ε =>ih m) n) l
noncomputable def zz (d:List Obj) (s:Nat) (l:List Nat):Frag:=l.map fun a=>(a,Ed d (a - s))
noncomputable def KK (P:Params):Frag:=(3,oD (km P) 107)::([(831,(⟨(.type "type"),none,(.cls ⟨Str.ofString "TokenTaker",[(.type "object")],[(Hd.R 831),(.type "object")],830,Str.ofString "TokenTaker",true,[],[(Hd.R 970)],false,none,false⟩),L [none,none,(some (Hd.T "TokenTaker" 1369)),(some (Hd.T "TokenTaker" 1377)),(some (.builtin "object.__new__")),(some (.bool true))]⟩))]++([(970,(⟨(.type "type"),none,(.cls ⟨Str.ofString "ExprParser",[(Hd.R 831)],[(Hd.R 970),(Hd.R 831),(.type "object")],969,Str.ofString "ExprParser",true,[],[(Hd.R 1066)],false,none,false⟩),L [(some (Hd.R 842)),none,(some (Hd.T "ExprParser" 1614)),(some (Hd.T "ExprParser" 1622)),(some (.builtin "object.__new__")),(some (.bool true))]⟩))]++([(1120,(⟨(.type "type"),none,(.cls ⟨Str.ofString "LiteralParser",[(Hd.R 1066)],[(Hd.R 1120),(Hd.R 1066),(Hd.R 970),(Hd.R 831),(.type "object")],1119,Str.ofString "LiteralParser",true,[],[(Hd.R 1203)],false,none,false⟩),L [(some (Hd.R 1069)),none,(some (Hd.T "LiteralParser" 1925)),(some (Hd.T "LiteralParser" 1933)),(some (.builtin "object.__new__")),(some (.bool true))]⟩))]++(zz (d1 P) 15 [27,28,30,31,41,42,48,49,55,56,62,63,69,70,76,77,83,84,90,91,97,98,104,105,111,112,118,119,125,126,132,133,139,140,146,147,153,154,160,161,167,168,174,175,181,182,188,189,190,191]++(zz (d2 P) 192 [192,193,194,195,196,197,198,199,200,201,202,203,204,205,206,207,208,209,210,211,212,213,214,215,216,217,218,219,220,221,222,223,224,225,226,227,228,229,230,231,237,238,244,245,251,252,258,259,265,266,272,273,279,280,286,287]++(zz (d3 P) 288 [288]++(zz (d4 P) 289 [294,295,301,302,308,309,315,316,322,323,329,330,336,337,343,344,345]++(zz (d5 P) 347 [400]++(zz (d6 P) 406 [418,419,421,422,432,433,439,440,453,454,456,457]++(zz (d7 P) 461 [473,474,480,481,487,488,494,495,501,502,508,509,515,516,522,523,529,530,536,537,543,544,550,551,557,558,564,565,571,572,578,579,585,586,592,593,599,600,602,603,608,609,610,616,617,623,624,630,631,637,638,644,645,651,652,658,659,665,666,672,673]++(zz (d8 P) 674 [686,687,691,692,696,697,701,702,704,705,722,723,729,730,736,737,743,744,750,751,757,758,764,765,771,772,778,779,785,786,792,793,799,800,806,807,813,814,820,821,827,828,830]++(zz (d9 P) 836 [836]++(zz (d10 P) 838 [838,839,840,841,854,855,861,862,868,869,875,876,882,883,889,890,896,897,903,904,910,911,917,918,924,925,931,932,938,939,945,946,952,953,959,960,966,967,969]++(zz (d11 P) 973 [985,986,992,993,999,1000,1006,1007,1013,1014,1020,1021,1027,1028,1034,1035,1041,1042,1048,1049,1055,1056,1062,1063,1065,1066,1081,1082,1088,1089,1095,1096,1102,1103,1109,1110,1116,1117,1119,1123]++(zz (d12 P) 1124 [1136,1137,1143,1144,1150,1151,1157,1158,1164,1165,1171,1172,1178,1179,1185,1186,1192,1193,1199,1200,1202,1203,1211,1212,1218,1219,1225,1226,1232,1233,1239,1240,1246,1247,1253,1254,1260,1261,1267,1268,1274,1275])))))))))))))))
structure FE where
 id:Nat
 a:Addr
 nm:List String
 gl:List Nat
 fl:List Nat
 cl:List Nat
 bl:List Nat
 ex:Bool
 rg:Bool
noncomputable def fts:List FE:=[⟨0,28,["self","kind","line","parts"],[],[],[],[],false,false⟩,
 ⟨1,42,["n","many","step"],[],[],[],[],false,false⟩,
 ⟨2,49,["sign","exponent","fraction"],[1],[],[],[],false,false⟩,
 ⟨3,56,["bits"],[],[],[],[],false,false⟩,
 ⟨4,63,["bits"],[0,8],[],[],[],false,false⟩,
 ⟨5,70,["bits"],[0,8],[],[],[],false,false⟩,
 ⟨6,77,["bits"],[0],[],[],[],false,false⟩,
 ⟨7,84,["sign","bits"],[0],[],[],[],false,false⟩,
 ⟨8,91,["bits","sign","exponent","fraction"],[1,2,3,4,5,6],[],[],[],false,false⟩,
 ⟨9,98,["top","bottom","power"],[],[],[],[],false,false⟩,
 ⟨10,105,["sign","top","bottom","power","whole","rest","unit"],[3,6],[1,9,11],[],[6],false,false⟩,
 ⟨11,112,["sign","whole","power","exponent"],[3,4,5,8],[2,7],[],[],false,false⟩,
 ⟨12,119,["n"],[],[10],[],[5],false,false⟩,
 ⟨13,126,["mantissa","power","is_edge","factor","above"],[9,10],[],[],[],false,false⟩,
 ⟨14,133,["top","bottom","found"],[],[],[],[0,3],false,false⟩,
 ⟨15,140,["number","above","unit","is_even","found","edge","limit"],[],[14],[],[],false,false⟩,
 ⟨16,147,["bits","sign","mantissa","power","is_even","number","above","below","unit","place","factor","found","figure","is_low","is_high"],[],[8,13,15,17],[],[3],false,false⟩,
 ⟨17,154,["figure","rest","unit","is_low","is_high"],[],[],[],[4],false,false⟩,
 ⟨18,161,["exponent"],[],[],[],[3,5],false,false⟩,
 ⟨19,168,["figures","exponent","rest"],[],[18],[],[0],false,false⟩,
 ⟨20,175,["figures","place","size"],[],[19],[],[0],false,false⟩,
 ⟨21,182,["bits"],[],[3,4,5],[],[],false,false⟩,
 ⟨22,189,["bits","told","figures","place"],[],[3,6,16,20,21],[],[],false,false⟩,
 ⟨23,238,[],[],[],[],[],false,false⟩,
 ⟨24,245,["code"],[11],[],[],[],false,false⟩,
 ⟨25,252,["code"],[12],[],[],[],false,false⟩,
 ⟨26,259,["code"],[],[],[],[],false,false⟩,
 ⟨27,266,["code"],[],[],[],[],false,false⟩,
 ⟨28,273,["code"],[],[],[],[],false,false⟩,
 ⟨29,280,["code"],[13],[23],[],[],false,false⟩,
 ⟨30,287,["code"],[14],[23,26,29],[],[],false,false⟩,
 ⟨31,295,["text","at"],[],[],[],[0,1],false,false⟩,
 ⟨32,302,["text","at","many","value","step","figure"],[],[28,31],[],[],false,true⟩,
 ⟨33,309,["text","at"],[],[31],[],[],false,false⟩,
 ⟨34,316,["text","at","most","many","value"],[],[26,27,31],[],[],false,false⟩,
 ⟨35,323,["text","at","code","many","value","found","sign"],[15],[25,26,27,31,32,33,34],[],[2],false,false⟩,
 ⟨36,330,["sign"],[],[],[],[1],false,false⟩,
 ⟨37,337,["text","begin","end","radix","found","at"],[],[36],[],[],false,true⟩,
 ⟨38,344,["figures","exponent","told","place","number"],[7,8,16],[10,37],[],[0],false,false⟩,
 ⟨39,419,["self","kind","value","line","is_behind_line","start","end"],[],[],[],[],false,false⟩,
 ⟨40,433,["word"],[17],[],[],[],false,false⟩,
 ⟨41,440,["text","at","size","piece"],[19],[],[],[],false,false⟩,
 ⟨42,454,["self","text","line"],[],[],[],[],false,false⟩,
 ⟨43,474,["self","text"],[],[],[],[],false,false⟩,
 ⟨44,481,["self","is_behind_line","start","code","token"],[],[26,29,31],[1],[],false,false⟩,
 ⟨45,488,["self","text"],[],[],[],[],true,false⟩,
 ⟨46,495,["self"],[],[33],[],[],false,false⟩,
 ⟨47,502,["self","line","code"],[],[24,25,31],[],[0],false,false⟩,
 ⟨48,509,["self"],[],[25,31],[],[0],false,false⟩,
 ⟨49,516,["self","is_first","code","behind","is_escape","is_right"],[],[29,30,31,32],[],[2],false,false⟩,
 ⟨50,523,["self","token","found","told"],[],[40],[],[],false,false⟩,
 ⟨51,530,["self","start"],[],[26,31],[],[],false,false⟩,
 ⟨52,537,["self","token","ahead","sign","code"],[],[12,26,27,29,31],[],[],false,false⟩,
 ⟨53,544,["self","value","many"],[],[28,31],[],[],false,false⟩,
 ⟨54,551,["self","value"],[],[27,31],[],[],false,false⟩,
 ⟨55,558,["self","whole","part"],[],[31,38],[],[0],false,false⟩,
 ⟨56,565,["self","sign","figures","shown","power"],[],[31],[],[0,4],false,false⟩,
 ⟨57,572,["self","token","body","start","found"],[],[30,31],[1],[],false,false⟩,
 ⟨58,579,["self","start","is_class","code"],[],[25,31],[],[],false,false⟩,
 ⟨59,586,["self","token","quote","found","code"],[],[25,31],[],[],false,false⟩,
 ⟨60,593,["self","token","told"],[],[25,31,35],[],[],false,false⟩,
 ⟨61,600,["self","token","punct"],[],[41],[],[0],false,false⟩,
 ⟨62,617,["name","is_strict"],[20],[],[],[],false,false⟩,
 ⟨63,624,["name","is_strict"],[21],[62],[],[],false,false⟩,
 ⟨64,631,["names","seen","name"],[],[],[],[],false,false⟩,
 ⟨65,638,["name","params","is_strict","word","fault","twice"],[],[63,64],[],[7],false,false⟩,
 ⟨66,645,["kind","name","is_strict"],[22],[63],[],[],false,false⟩,
 ⟨67,652,["kind","is_strict"],[],[],[],[],false,false⟩,
 ⟨68,659,["is_octal","is_strict"],[],[],[],[],false,false⟩,
 ⟨69,666,["known","sort","key","is_strict","sorts"],[],[],[],[],false,false⟩,
 ⟨70,673,["sort","params","wanted"],[],[],[],[0],false,false⟩,
 ⟨71,687,["self"],[],[],[],[],false,false⟩,
 ⟨72,692,["self","name"],[],[],[],[],false,false⟩,
 ⟨73,697,["self","name"],[],[],[],[],false,false⟩,
 ⟨74,702,["self","name"],[],[],[],[],false,false⟩,
 ⟨75,723,["self","text"],[],[],[2,3],[],false,false⟩,
 ⟨76,730,["self","taken"],[],[],[],[],false,false⟩,
 ⟨77,737,["self"],[],[],[],[],false,false⟩,
 ⟨78,744,["self","sign"],[],[],[],[],false,false⟩,
 ⟨79,751,["self","word"],[],[],[],[],false,false⟩,
 ⟨80,758,["self","sign"],[],[],[],[],false,false⟩,
 ⟨81,765,["self","sign"],[],[],[],[],false,false⟩,
 ⟨82,772,["self","word"],[],[],[],[],false,false⟩,
 ⟨83,779,["self","text"],[],[],[],[],true,false⟩,
 ⟨84,786,["self","fault"],[],[],[],[],false,false⟩,
 ⟨85,793,["self"],[],[],[],[3],false,false⟩,
 ⟨86,800,["self"],[],[62],[],[],false,false⟩,
 ⟨87,807,["self"],[],[63],[],[],false,false⟩,
 ⟨88,814,["self"],[],[],[],[],false,false⟩,
 ⟨89,821,["self"],[],[],[],[],false,false⟩,
 ⟨90,828,["self"],[],[],[],[],false,false⟩,
 ⟨91,855,["self","sort"],[],[],[],[],false,false⟩,
 ⟨92,862,["self","can_in","first","found"],[],[],[0],[],false,false⟩,
 ⟨93,869,["self","can_in","left","op"],[24],[],[0],[],false,false⟩,
 ⟨94,876,["self","node"],[],[66],[],[],false,false⟩,
 ⟨95,883,["self","can_in","test","then"],[],[],[0],[],false,false⟩,
 ⟨96,890,["self","can_in"],[23],[],[],[],false,false⟩,
 ⟨97,897,["self","least","can_in","left","strength","op","right"],[],[],[0],[],false,false⟩,
 ⟨98,904,["self","token","target","is_sign","is_word","operand"],[25,26,27],[67],[0],[],false,false⟩,
 ⟨99,911,["self","node"],[27],[],[0],[],false,false⟩,
 ⟨100,918,["self","node"],[],[],[0],[],false,false⟩,
 ⟨101,925,["self","node","key"],[],[],[0],[],false,false⟩,
 ⟨102,932,["self","line","made"],[],[],[0],[],false,false⟩,
 ⟨103,939,["self","found"],[],[],[],[],false,false⟩,
 ⟨104,946,["self","token","found"],[],[68],[0],[7],false,false⟩,
 ⟨105,953,["self","token"],[],[],[0],[],false,false⟩,
 ⟨106,960,["self","line","found"],[],[],[0],[],false,false⟩,
 ⟨107,967,["self"],[],[],[],[],false,false⟩,
 ⟨108,986,["self","is_end","found","has_octal","is_ahead","is_plain","made"],[],[68],[],[],false,false⟩,
 ⟨109,993,["self","is_end"],[],[],[],[],false,false⟩,
 ⟨110,1000,["self"],[],[],[],[],false,false⟩,
 ⟨111,1007,["self","token","pending","later"],[],[],[0],[],false,false⟩,
 ⟨112,1014,["self","line","found"],[],[],[0],[],false,false⟩,
 ⟨113,1021,["self","word","pending","line","found"],[],[],[0],[],false,false⟩,
 ⟨114,1028,["self","word","line","pending"],[],[],[],[],false,false⟩,
 ⟨115,1035,["self","found"],[],[],[],[],false,false⟩,
 ⟨116,1042,["self","can_in","found","name"],[],[],[],[],false,false⟩,
 ⟨117,1049,["self","pending","line","name","label","found"],[],[],[0],[],false,false⟩,
 ⟨118,1056,["self","word","line","name"],[],[],[0],[],false,false⟩,
 ⟨119,1063,["self","word","line","found"],[],[],[0],[],false,false⟩,
 ⟨120,1082,["self","line","found","known","entry"],[],[69],[0],[],false,false⟩,
 ⟨121,1089,["self","word","later","key","made"],[],[70],[],[],false,false⟩,
 ⟨122,1096,["self","token"],[],[22,68],[],[],false,false⟩,
 ⟨123,1103,["self","sort","line","is_strict","jumps","name","params","found","made"],[],[65],[0,3],[],false,false⟩,
 ⟨124,1110,["self","sort"],[],[],[],[],false,false⟩,
 ⟨125,1117,["self","found"],[],[],[],[],false,false⟩,
 ⟨126,1137,["self","word","line","pending"],[28],[],[],[],false,false⟩,
 ⟨127,1144,["self","found"],[],[],[],[],false,false⟩,
 ⟨128,1151,["self","line","test","then","other"],[],[],[0],[],false,false⟩,
 ⟨129,1158,["self","word","line","pending","label","test","body"],[],[],[0],[],false,false⟩,
 ⟨130,1165,["self","found"],[],[],[],[],false,false⟩,
 ⟨131,1172,["self","line","first","begin","name","test","step"],[],[66],[0],[0],false,false⟩,
 ⟨132,1179,["self","line","target","walked"],[],[],[0],[],false,false⟩,
 ⟨133,1186,["self","line","value","found","has_default","test"],[],[],[0],[],false,false⟩,
 ⟨134,1193,["self","found"],[],[],[],[],false,false⟩,
 ⟨135,1200,["self","line","block","name","caught","last"],[],[],[0],[],false,false⟩,
 ⟨136,1212,["text","reader","body"],[],[],[0,4],[],false,false⟩,
 ⟨138,1226,["found"],[],[],[],[],false,false⟩,
 ⟨139,1233,["found"],[],[],[],[],false,false⟩,
 ⟨140,1240,["word","found"],[],[],[],[],false,false⟩,
 ⟨142,1254,["found"],[],[],[],[],false,false⟩]
noncomputable def lQ (c:Nat):List Nat:=match c with
 | 2=>[44,45,46,47,48,49,50,51,52,53,54,55,56,57,58,59,60,61]
 | 3=>[72,73,74]
 | 4=>[76,77,78,79,80,81,82,83,84,85,86,87,88,89,90,92,93,94,95,96,97,98,99,100,101,102,103,104,105,106,108,109,110,111,112,113,115,116,117,118,119,120,121,122,123,124,125,126,127,128,129,130,131,132,133,134,135]
 | _=>[]
noncomputable def pU:List Addr:=[31,422,603,705,1203]
noncomputable def anL:List String:=["kind","line","parts","scope","value","is_behind_line","start","end","is_octal","is_plain","text","at","lexer","token","later","is_strict","depth","jumps","pending","labels","loops","switches"]
noncomputable def bnL:List String:=["len","ord","chr","str","int","abs","max","list"]
noncomputable def cnL:List String:=["Node","Token","Lexer","Jumps","StmtParser"]
noncomputable def Ce:Nat×Nat:=(0,39)
noncomputable def pW:List (String×Nat×Value):=[(">>>=",775,(.bool true)),("===",776,(.bool true)),("!==",777,(.bool true)),(">>>",778,(.bool true)),("<<=",779,(.bool true)),(">>=",780,(.bool true)),("<=",781,(.bool true)),(">=",782,(.bool true)),("==",783,(.bool true)),("!=",784,(.bool true)),("++",785,(.bool true)),("--",786,(.bool true)),("<<",787,(.bool true)),(">>",788,(.bool true)),("&&",789,(.bool true)),("||",790,(.bool true)),("+=",791,(.bool true)),("-=",792,(.bool true)),("*=",793,(.bool true)),("%=",794,(.bool true)),("&=",795,(.bool true)),("|=",796,(.bool true)),("^=",797,(.bool true)),("/=",798,(.bool true)),("{",799,(.bool true)),("}",800,(.bool true)),("(",801,(.bool true)),(")",802,(.bool true)),("[",803,(.bool true)),("]",804,(.bool true)),(".",805,(.bool true)),(";",806,(.bool true)),(",",807,(.bool true)),("<",808,(.bool true)),(">",809,(.bool true)),("+",810,(.bool true)),("-",811,(.bool true)),("*",812,(.bool true)),("%",813,(.bool true)),("&",814,(.bool true)),("|",815,(.bool true)),("^",816,(.bool true)),("!",817,(.bool true)),("~",818,(.bool true)),("?",819,(.bool true)),(":",820,(.bool true)),("=",821,(.bool true)),("/",822,(.bool true))]
noncomputable def pX:Addr×Nat:=(400,48)
noncomputable def vn:List (String×Nat×Value):=[("||",1519,(Hd.I 1 1520)),("&&",1522,(Hd.I 2 1523)),("|",1525,(Hd.I 3 1526)),("^",1528,(Hd.I 4 1529)),("&",1531,(Hd.I 5 1532)),("==",1534,(Hd.I 6 1535)),("!=",1537,(Hd.I 6 1538)),("===",1540,(Hd.I 6 1541)),("!==",1543,(Hd.I 6 1544)),("<",1546,(Hd.I 7 1547)),(">",1549,(Hd.I 7 1550)),("<=",1552,(Hd.I 7 1553)),(">=",1555,(Hd.I 7 1556)),("instanceof",1558,(Hd.I 7 1559)),("in",1561,(Hd.I 7 1562)),("<<",1564,(Hd.I 8 1565)),(">>",1567,(Hd.I 8 1568)),(">>>",1570,(Hd.I 8 1571)),("+",1572,(Hd.I 9 1573)),("-",1574,(Hd.I 9 1575)),("*",1576,(Hd.I 10 1577)),("/",1578,(Hd.I 10 1579)),("%",1580,(Hd.I 10 1581))]
noncomputable def vo:Addr×Nat:=(836,23)
noncomputable def Aa:List (String×Nat×Value):=[("b",631,(Hd.I 8 632)),("t",633,(Hd.I 9 634)),("n",635,(Hd.I 10 636)),("v",637,(Hd.I 11 638)),("f",639,(Hd.I 12 640)),("r",641,(Hd.I 13 642))]
noncomputable def Ab:Addr×Nat:=(288,6)
end Mine
end
end
section
open PySem PySem.W PySem.Calls PyProof.Rows Hd
noncomputable section
namespace Mine
noncomputable def pz (P:Params) (x:Str):Option Value:=nsFind (km P).toArray x
noncomputable def W0 (w:World) (mb:Str→Option Value) (mean:ExcName→Option Value) (xt:Led):Wd:=⟨PW,w,KK w.params,qv,looseW qv loose,pz w.params,mb,mean,xt,457⟩
noncomputable def E3 (f:Nat):Nat→Pth:=@Nat.rec (fun ε =>Nat→Pth) (fun ε =>.e) (fun ε ih n=>IF (Nat.beq n 0) .e (IF (Nat.beq (Nat.mod n 2) 1) (.l (ih (Nat.div n 2))) (.r (ih (Nat.sub (Nat.div n 2) 1))))) f
noncomputable def bp (n:Nat):Pth:=E3 12 n
noncomputable def gv (p:Pth):Nat:=@Pth.rec (fun ε =>Nat) 0 (fun ε ih=>Nat.succ (Nat.mul 2 ih)) (fun ε ih=>Nat.add 2 (Nat.mul 2 ih)) p
noncomputable def jk (l:List FE) (n:Nat):Addr:=@List.rec FE (fun ε =>Addr) 0 (fun e ε ih=>IF (Nat.beq e.id n) e.a ih) l
noncomputable def dE (g:Nat):List (String×Nat×Value):=af [] [pW,vn,Aa] g
noncomputable def dA (g:Nat):Addr×Nat:=af (0,0) [pX,vo,Ab] g
noncomputable def uV1 (u:U):V:=match u with | .bool b=>.bool b | .int i=>.int i | _=>.none
noncomputable def sN (g:Nat):V:=.dct ((dE g).map (·.1)) ((tb.dvs g).map uV1)
noncomputable def eq (c:Nat):Pth:=match c with | 0=>bp Ce.1 | 1=>bp Ce.2 | c=>tb.init c
noncomputable abbrev Lxs:=List Nat→Int→U→List Nat→Int→Prop
noncomputable def SD (w:World) (mb:Str→Option Value) (mean:ExcName→Option Value) (xt:Led) (nat:Nt) (nd:Nat) (lx:Lxs) (ap:Nat→V→Prop):Sd where
 W:=W0 w mb mean xt
 tb:=tb
 ft:=ft
 cad:=fun c=>af 0 pU c
 fad:=fun f=>jk fts (gv f)
 an:=fun a=>af "" anL a
 dv:=sN
 gn:=fun g=>af "" pR g
 bn:=fun b=>af "" bnL b
 cn:=fun c=>af "" cnL c
 ini:=eq
 nat:=nat
 nd:=nd
 lx:=lx
 ap:=ap
noncomputable def zh {K:Frag}{t:BT}{n:Nat}(h1:(K.all fun p=>Nat.blt p.1 n)=true) (h2:K.map (fun p=>t.get p.1)=K.map fun p=>some p.2) (h3:K.map (fun p=>alive p.2)=K.map fun p=>some p.2):K.In (absHeap t n {}):=by
 refine Frag.in_of (as:=K.map (·.1)) rfl ?_;rw [List.map_map]
 apply List.map_congr_left
 intro p hp;have a1:=List.all_eq_true.mp h1 p hp;have a2:t.get p.1=some p.2:=by
  have:=List.map_inj_left.mp h2;exact this p hp
 have a3:alive p.2=some p.2:=List.map_inj_left.mp h3 p hp;show (absHeap t n {}).get? p.1=some p.2;rw [abs_get (Nat.blt_eq.mp a1) a2,a3]
theorem EN (P:Params):(KK P).In (fq P):=zh (by kernel_rfl) (by kernel_rfl) (by kernel_rfl)
variable {w:World}{mb:Str→Option Value}{mean:ExcName→Option Value}{xt:Led}{nat:Nt}{nd:Nat}{lx:Lxs}{ap:Nat→V→Prop}
theorem Ch (P:Params):kf (km P)=true:=by kernel_rfl
theorem uu (P:Params) (x:List Nat):pz P (SS x)=cF (km P) x:=by
 rw [←jR (x:=x) (Ch P)];unfold pz nsFind findBy;rw [List.find?_toArray]
noncomputable def gl (P:Params) (x:String):Option Value:=cF (km P) (so x)
theorem hZ {P:Params}{x:String}:pz P (Str.ofString x)=gl P x:=uu P (so x)
noncomputable def kr (a b:String):Bool:=@Decidable.rec (a=b) (fun ε =>Bool) (fun ε =>false) (fun ε =>true) (instDecidableEqString a b)
theorem lu {a b:String}(h:kr a b=true):a=b:=by
 unfold kr at h
 cases q:instDecidableEqString a b with
 | isTrue e=>exact e
 | isFalse e=>rw [q] at h;cases h
noncomputable def gV (K:Frag) (ty:String) (a:Addr):Option (List Value×Nat):=match K.lookup a with
 | some ⟨.type t,none,.seq vs n,sl⟩=>IF (kr t ty) (IF (Nat.beq sl.size 0) (some (vs.toList,n)) none) none
 | _=>none
noncomputable def jj (f:U→Value→Bool) (us:List U):List Value→Bool:=@List.rec U (fun ε =>List Value→Bool) (fun b=>br b) (fun x ε ih b=>@List.rec Value (fun ε =>Bool) false (fun y s ε =>IF (f x y) (ih s) false) b) us
noncomputable def cvB (K:Frag) (n:Nat):U→Value→Bool:=@Nat.rec (fun ε =>U→Value→Bool) (fun ε ε =>false) (fun ε ih u U=>match u with
 | .int i=>(match U with | .int j _=>eqI i j | _=>false)
 | .bool b=>(match U with | .bool c=>IF b c (Bool.not c) | _=>false)
 | .str x=>(match U with | .str s _=>aN x (cs' s) | _=>false)
 | .tup us=>(match U with | .ref a=>(match gV K "tuple" a with | some (vs,n)=>IF (Nat.beq n 0) (jj ih us vs) false | none=>false) | _=>false)
 | .lst us=>(match U with | .ref a=>(match gV K "list" a with | some (vs,_)=>jj ih us vs | none=>false) | _=>false)
 | _=>false) n
set_option tactic.hygienic true in
theorem oU {K:Frag}{ty:String}{a:Addr}{vs:List Value}{n:Nat}(h:gV K ty a=some (vs,n)):K.lookup a=some { cls:=.type ty,data:=.seq vs.toArray n}:=by
 delta gV at h
 generalize hk:K.lookup a=o at h
 cases o with
 | none=>cases h
 | some o =>
  cb_eq;rcases o with ⟨c,d,da,sl⟩;by_in
  cases c<;>first | (cases h;done) | skip
  rename_i t
  cases d with
  | some _=>cases h
  | none =>
  cases da<;>first | (cases h;done) | skip
  rename_i arr m
  dsimp only at h
  cases q1:kr t ty with
  | false=>rw [q1] at h;cases h
  | true =>
   rw [q1] at h
   cases q2:Nat.beq sl.size 0 with
   | false=>rw [q2] at h;cases h
   | true =>
    rw [q2] at h
    cases h
    have e:sl = #[]:=Array.eq_empty_of_size_eq_zero (Nat.eq_of_beq_eq_true q2);rw [lu q1,e]
theorem ng {S:Sd}{P:Params}{fz:Fz}{f:U→Value→Bool}(hf:∀ u U,f u U=true→∃ v,VR P fz v U∧∀ cx ρ,VU S cx ρ u v):∀ {us:List U}{Us:List Value},jj f us Us=true→∃ vs,VRs P fz vs Us∧∀ cx ρ,VUs S cx ρ us vs
 | [],[],_=>⟨[],trivial,fun ε ε =>aH⟩
 | [],_::_,h=>by cases h
 | _::_,[],h=>by cases h
 | u::us,U::Us,h=>by
  cb_eq;rcases ai (show IF (f u U) (jj f us Us) false=true from h) with ⟨h1,h2⟩;rcases hf u U h1 with ⟨v,a,b⟩;rcases ng hf h2 with ⟨vs,c,d⟩;by_in;exact ⟨v::vs,⟨a,c⟩,fun cx ρ =>aq (b cx ρ) (d cx ρ)⟩
set_option tactic.hygienic true in
theorem uL {S:Sd}{P:Params}{K:Frag}:∀ {n:Nat}{u:U}{U:Value},cvB K n u U=true→∃ v,VR P (fun a o=>K.lookup a=some o) v U∧∀ cx ρ,VU S cx ρ u v
 | 0,_,_,h=>by cases h
 | n+1,u,U,h=>by
  have ih:=@uL S P K n
  cases u<;>try (exact absurd (show false=true from h) (by decide))
  case int i =>
   cases U<;>try (exact absurd (show false=true from h) (by decide))
   rename_i j t;have:i=j:=cI h;subst this;exact ⟨.int i,aZ,fun ε ε =>rfl⟩
  case bool b =>
   cases U<;>try (exact absurd (show false=true from h) (by decide))
   rename_i c;have:b=c:=by cases b<;>cases c<;>first | rfl | cases h
   subst this;exact ⟨.bool b,aM,fun ε ε =>rfl⟩
  case str x =>
   cases U<;>try (exact absurd (show false=true from h) (by decide))
   rename_i s t;have:x=cs' s:=c9 h;subst this;exact ⟨.str s,bN,fun ε ε =>rfl⟩
  case tup us =>
   cases U<;>try (exact absurd (show false=true from h) (by decide))
   rename_i a;have h':(match gV K "tuple" a with | some (vs,n')=>IF (Nat.beq n' 0) (jj (cvB K n) us vs) false | none=>false)=true:=h
   cases q:gV K "tuple" a with
   | none=>rw [q] at h';cases h'
   | some r =>
    obtain ⟨vs,m⟩:=r;rw [q] at h';cb_eq;rcases ai h' with ⟨h1,h2⟩;rcases ng (fun u U=>ih) h2 with ⟨ws,c,d⟩;by_in;have e:=oU q;rw [Nat.eq_of_beq_eq_true h1] at e;refine ⟨.tup ws,?_,fun cx ρ =>?_⟩
    ·exact Exists.intro a ⟨vs,rfl,e,c⟩
    ·exact Exists.intro ws ⟨rfl,d cx ρ⟩
  case lst us =>
   cases U<;>try (exact absurd (show false=true from h) (by decide))
   rename_i a;have h':(match gV K "list" a with | some (vs,_)=>jj (cvB K n) us vs | none=>false)=true:=h
   cases q:gV K "list" a with
   | none=>rw [q] at h';cases h'
   | some r =>
    obtain ⟨vs,m⟩:=r;rw [q] at h';obtain ⟨ws,c,d⟩:=ng (fun u U=>ih) h';refine ⟨.lst ws,?_,fun cx ρ =>?_⟩
    ·exact Exists.intro a ⟨m,vs,rfl,oU q,c⟩
    ·exact Exists.intro ws ⟨rfl,d cx ρ⟩
noncomputable def Eof (P:Params) (l:List (String×Nat×Value)):List DictEntry:=l.map fun q=>Hd.E P q.1 q.2.1 q.2.2
theorem qU {P:Params}:∀ l:List (String×Nat×Value),fo P (l.map (·.1)) (Eof P l)
 | []=>trivial
 | q::r=>⟨⟨_,rfl⟩,rfl,qU r⟩
noncomputable def sF (u:U) (U:Value):Bool:=match u with
 | .int i=>(match U with | .int j _=>eqI i j | _=>false)
 | .bool b=>(match U with | .bool c=>IF b c (Bool.not c) | _=>false)
 | _=>false
set_option tactic.hygienic true in
theorem qN {P:Params}{fz:Fz}:∀ {us:List U}{Us:List Value},jj sF us Us=true→VRs P fz (us.map uV1) Us
 | [],[],_=>trivial
 | [],_::_,h=>by cases h
 | _::_,[],h=>by cases h
 | u::us,U::Us,h=>by
  obtain ⟨h1,h2⟩:=ai (show IF (sF u U) (jj sF us Us) false=true from h);refine ⟨?_,qN h2⟩
  cases u<;>try (exact absurd (show false=true from h1) (by decide))
  case int i =>
   cases U<;>try (exact absurd (show false=true from h1) (by decide))
   rename_i j t;have:i=j:=cI h1;subst this;exact aZ
  case bool b =>
   cases U<;>try (exact absurd (show false=true from h1) (by decide))
   rename_i c;have:b=c:=by cases b<;>cases c<;>first | rfl | cases h1
   subst this;exact aM
noncomputable def xK (u:U):Bool:=match u with | .int _=>true | .bool _=>true | _=>false
theorem tH {S:Sd}{cx:Cx}{ρ : Rh}:∀ {us:List U},us.all xK=true→VUs S cx ρ us (us.map uV1)
 | [],_=>aH
 | u::us,h=>by
  rw [List.all_cons,Bool.and_eq_true] at h;refine aq ?_ (tH h.2)
  cases u<;>try (exact absurd (show false=true from h.1) (by decide))
  ·exact rfl
  ·exact rfl
noncomputable def nf (g:Nat):Bool:=(tb.dvs g).all xK&&m8 ((dE g).map fun q=>so q.1) (tb.dks g)&&jj sF (tb.dvs g) ((dE g).map fun q=>q.2.2)&&Bool.not (Nat.beq (dA g).1 sysModules)
theorem w7:(nf 0&&nf 1&&nf 2)=true:=by kernel_rfl
theorem CU:∀ g,nf g=true:=fun g=>by
 have h:=w7;rw [Bool.and_eq_true,Bool.and_eq_true] at h
 match g with
 | 0=>exact h.1.1
 | 1=>exact h.1.2
 | 2=>exact h.2
 | g+3=>kernel_rfl
theorem Fb:Dcts (SD w mb mean xt nat nd lx ap):=⟨fun g=>by
 have h:=CU g;unfold nf at h;rw [Bool.and_eq_true,Bool.and_eq_true,Bool.and_eq_true] at h;refine ⟨_,_,rfl,?_,fun cx ρ =>tH h.1.1.1⟩;have:=congrArg (List.map SS) (m7 h.1.1.2);rw [List.map_map] at this;rw [List.map_map];exact this⟩
theorem CW (P:Params):∀ g,g<3→(KK P).lookup (dA g).1=some (dictOf (Eof P (dE g)) (dA g).2)
 | 0,_=>by kernel_rfl
 | 1,_=>by kernel_rfl
 | 2,_=>by kernel_rfl
theorem zE {P:Params}(l:List (String×Nat×Value)):(Eof P l).map (·.val)=l.map fun q=>q.2.2:=by
 unfold Eof;rw [List.map_map];rfl
theorem CS (P:Params) (g:Nat) (hg:g<3):VR P (fun a o=>(KK P).lookup a=some o) (sN g) (.ref (dA g).1):=by
 have h:=CU g;unfold nf at h;rw [Bool.and_eq_true,Bool.and_eq_true,Bool.and_eq_true] at h;unfold sN;refine Exists.intro _ ⟨_,_,rfl,?_,CW P g hg,qU _,?_⟩
 ·have:=h.2
  cases q:Nat.beq (dA g).1 sysModules with
  | true=>rw [q] at this;cases this
  | false =>
   rw [beq_eq_false_iff_ne];intro z;rw [z,Nat.beq_refl] at q;cases q
 ·rw [zE];exact qN h.1.2
end Mine
end
end
section
open PySem PySem.W PySem.Calls PyProof.Rows Hd
noncomputable section
namespace Mine
variable {w:World}{mb:Str→Option Value}{mean:ExcName→Option Value}{xt:Led}{nat:Nt}{nd:Nat}{lx:Lxs}{ap:Nat→V→Prop}
noncomputable def isG (l:List (Str×NameKind)) (x:String):Bool:=IF (Nat.beq (lkN (so x) l) 1) (lN x) false
noncomputable def eO (v:Option Value) (a:Addr):Bool:=match v with | some (.ref b)=>Nat.beq b a | _=>false
theorem ez {v:Option Value}{a:Addr}(h:eO v a=true):v=some (.ref a):=by
 cases v with
 | none=>cases h
 | some v=>cases v<;>first | (cases h;done) | exact congrArg (fun s=>some (Value.ref s)) (Nat.eq_of_beq_eq_true h)
noncomputable def kg {α : Type}(o:Option α):Bool:=@Option.rec α (fun ε =>Bool) true (fun ε =>false) o
theorem lY {α : Type}{o:Option α}(h:kg o=true):o=none:=by cases o<;>first | rfl | cases h
section
variable (P:Params)
noncomputable def gB (g:Nat):Bool:=match gl P (af "" pR g) with
 | some U=>(match af .unb tb.consts g with
  | .dct d=>IF (Nat.ble (Nat.succ d) 3) (eO (some U) (dA d).1) false
  | u=>cvB (KK P) 5 u U)
 | none=>false
noncomputable def fB (f:Pth):Bool:=match ft.get f with
 | some b=>IF (eO (gl P b.nm) (jk fts (gv f))) (IF (lN b.nm) (keepIn (KK P) (.ref (jk fts (gv f)))) false) false
 | none=>false
noncomputable def B8 (f:Pth):String:=match ft.get f with | some b=>b.nm | none=>""
noncomputable def oo:List Nat:=so "__init__"
noncomputable def sK (v:Option Value):Bool:=match v with | some (.type t)=>kr t "function" | _=>false
theorem m5 {v:Option Value}(h:sK v=true):v=some (.type "function"):=by
 cases v with
 | none=>cases h
 | some v=>cases v<;>first | (cases h;done) | exact congrArg (fun s=>some (Value.type s)) (lu h)
noncomputable def xR (C fI:Addr):Bool:=IF (ip (KK P) C) (IF (makesIn (KK P) C) (IF (eO (iK (KK P) oo (cw (KK P) C)) fI) (sK (typeIn (KK P) (.ref fI))) false) false) false
noncomputable def cB (c:Nat):Bool:=IF (eO (gl P (af "" cnL c)) (af 0 pU c)) (IF (keepIn (KK P) (.ref (af 0 pU c))) (IF (xR P (af 0 pU c) (jk fts (gv (eq c)))) (Bool.not (kg (ft.get (eq c)))) false) false) false
noncomputable def bB (b:Nat):Bool:=IF (Nat.ble (Nat.succ b) 8) (kg (gl P (af "" bnL b))) false
noncomputable def v8 (sc:Scope) (e:FE):Bool :=
 ndS e.nm&&lZ sc.kind&&e.nm.all (fun x=>IF (Nat.beq (lkN (so x) sc.names) 0) (lN x) false) &&
 e.gl.all (fun g=>IF (isG sc.names (af "" pR g)) (gB P g) false) &&
 e.fl.all (fun i=>IF (isG sc.names (B8 (bp i))) (fB P (bp i)) false) &&
 e.cl.all (fun c=>IF (isG sc.names (af "" cnL c)) (cB P c) false) &&
 e.bl.all (fun b=>IF (isG sc.names (af "" bnL b)) (bB P b) false) &&
 IF e.ex (isG sc.names "SyntaxFail") true&&IF e.rg (isG sc.names "range") true
noncomputable def feI (e:FE):FnI:=⟨cV (KK P) e.a,e.nm,e.gl,e.fl.map bp,e.cl,e.bl,e.ex,e.rg⟩
end
noncomputable def sy (c:Nat) (f:Pth):Bool:=jG ((lQ c).map bp) f
noncomputable def xN (s:XS):Bool:=match s with | .brk=>true | _=>false
noncomputable def qW (b:XB):Bool:=match b with | .nil=>true | .cons _ _=>false
noncomputable def jJ (b:XB):Bool:=match b with | .cons s r=>IF (xN s) (qW r) false | .nil=>false
theorem ul {b:XB}(h:jJ b=true):b=rD:=by
 cases b with
 | nil=>cases h
 | cons s r =>
  obtain ⟨h1,h2⟩:=ai (show IF (xN s) (qW r) false=true from h)
  cases s<;>first | (cases h1;done) | skip
  cases r with
  | nil=>rfl
  | cons _ _=>cases h2
noncomputable def BZ (l:List U) (n:Nat):Bool:=IF (Nat.beq (aF l) n) (l.all cG) false
theorem yZ {l:List U}{n:Nat}(h:BZ l n=true):l=List.replicate n .unb:=by
 obtain ⟨h1,h2⟩:=ai h;have e:=Nat.eq_of_beq_eq_true h1;rw [aA] at e;rw [List.eq_replicate_iff];refine ⟨e,fun u hu=>?_⟩;have:=List.all_eq_true.mp h2 u hu
 cases u<;>first | rfl | cases this
noncomputable def feB (P:Params) (S:Sd) (e:FE):Bool:=match ft.get (bp e.id) with
 | some b=>IF (jJ b.body) true (IF (Nat.ble b.ar (aF e.nm)) (IF (BZ b.pads (Nat.sub (aF e.nm) b.ar)) (IF (fnB (KK P) e.a (e.nm.take b.ar)) (IF (v8 P (cV (KK P) e.a) e) (IF (okB S (feI P e) sy b.body (c8 (KK P) e.a)) (IF (IF (bo e.cl 0) true (bo e.cl 1)) (IF (Pth.beq (bp e.id) (eq 0)) false (Bool.not (Pth.beq (bp e.id) (eq 1)))) true) false) false) false) false) false)
 | none=>false
noncomputable def ou (e:FE):XB:=match ft.get (bp e.id) with | some b=>b.body | none=>.nil
end Mine
end
end
section
open PySem PySem.W PySem.Calls PyProof.Rows Hd
noncomputable section
namespace Mine
variable {w:World}{mb:Str→Option Value}{mean:ExcName→Option Value}{xt:Led}{nat:Nt}{nd:Nat}{lx:Lxs}{ap:Nat→V→Prop}
noncomputable abbrev Hb (mb:Str→Option Value):Prop:=∀ x:Str,x≠"__name__"→mb x=bootBuiltins x
theorem iG {l:List (Str×NameKind)}{x:String}(h:isG l x=true):l.lookup (Str.ofString x)=some .globalImplicit∧(Str.ofString x==("__debug__" : Str))=false:=by
 obtain ⟨a,b⟩:=ai h;exact ⟨za a,pa b⟩
theorem x7 {b:Bool}{e:Bool}(h:IF b e true=true) (hb:b=true):e=true:=by rw [hb] at h;exact h
theorem EK:∀ b,b<8→bootBuiltins (Str.ofString (af "" bnL b))=some (biV b)∧Str.ofString (af "" bnL b)≠"__name__" :=
 fun b h=>(show ∀ b∈[0,1,2,3,4,5,6,7],bootBuiltins (Str.ofString (af "" bnL b))=some (biV b)∧Str.ofString (af "" bnL b)≠"__name__" from
  List.forall_mem_cons.mpr ⟨⟨by kernel_rfl,by decide +kernel⟩,List.forall_mem_cons.mpr ⟨⟨by kernel_rfl,by decide +kernel⟩,List.forall_mem_cons.mpr ⟨⟨by kernel_rfl,by decide +kernel⟩,List.forall_mem_cons.mpr ⟨⟨by kernel_rfl,by decide +kernel⟩,
  List.forall_mem_cons.mpr ⟨⟨by kernel_rfl,by decide +kernel⟩,List.forall_mem_cons.mpr ⟨⟨by kernel_rfl,by decide +kernel⟩,List.forall_mem_cons.mpr ⟨⟨by kernel_rfl,by decide +kernel⟩,List.forall_mem_cons.mpr ⟨⟨by kernel_rfl,by decide +kernel⟩,fun ε h=>nomatch h⟩⟩⟩⟩⟩⟩⟩⟩) b (List.mem_range.mpr h)
theorem C7 {P:Params}{C fI:Addr}{W:Wd}(hK:W.K=KK P) (h:xR P C fI=true):qe W C fI:=by
 cb_eq;rcases ai h with ⟨h1,h⟩;rcases ai h with ⟨h2,h⟩;rcases ai h with ⟨h3,h4⟩;by_in;refine ⟨by rw [hK];exact h2,?_,by rw [hK];exact m5 h4⟩;rw [hK];exact lq (x:=oo) h1 (ez h3)
theorem tM:gl w.params "SyntaxFail" = some (.ref 457)∧keepIn (KK w.params) (.ref 457)=true:=⟨by kernel_rfl,by kernel_rfl⟩
theorem BV:gl w.params "range" = none∧bootBuiltins (Str.ofString "range")=some (.type "range")∧Str.ofString "range" ≠ "__name__" :=⟨by kernel_rfl,by kernel_rfl,by decide +kernel⟩
theorem xG {x:String}:(SD w mb mean xt nat nd lx ap).W.mg (Str.ofString x)=gl w.params x:=hZ
set_option tactic.hygienic true in
theorem Bw (hb:Hb mb){e:FE}(h:v8 w.params (cV (KK w.params) e.a) e=true):bP (SD w mb mean xt nat nd lx ap) (feI w.params e):=by
 unfold v8 at h;simp only [Bool.and_eq_true] at h;cb_eq;rcases h with ⟨⟨⟨⟨⟨⟨⟨⟨h1,h2⟩,h3⟩,h4⟩,h5⟩,h6⟩,h7⟩,h8⟩,h9⟩;by_in
 generalize hsc:cV (KK w.params) e.a=sc at *
 refine ⟨pd h1,?_,fun i hi=>?_,fun g hg=>?_,fun f hf=>?_,fun c hc=>?_,fun b hb'=>?_,fun hx=>?_,fun hr=>?_⟩
 ·show (cV (KK w.params) e.a).kind=_;rw [hsc]
  cases q:sc.kind<;>rw [q] at h2<;>first | rfl | cases h2
 ·show (cV (KK w.params) e.a).names.lookup _=_∧_;rw [hsc];have hm:af "" e.nm i∈e.nm:=by rw [bz,List.getElem?_eq_getElem (show i<e.nm.length from hi)];exact List.getElem_mem _
  obtain ⟨a,b⟩:=ai (bC h3 _ hm);exact ⟨uc a,pa b⟩
 ·show (cV (KK w.params) e.a).names.lookup _=_∧_;rw [hsc];obtain ⟨a,b⟩:=ai (bC h4 _ (i3 hg));obtain ⟨a1,a2⟩:=iG a;refine ⟨a1,a2,?_⟩;unfold gB at b
  split at b
  ·rename_i U hU
   split at b
   ·rename_i d hd;obtain ⟨b1,b2⟩:=ai b;have b2:=ez b2;refine ⟨U,sN d,hZ.trans hU,?_,fun cx ρ =>?_⟩
    ·cases b2
     exact CS w.params d (Nat.le_of_ble_eq_true b1)
    ·rw [show af Mine.U.unb (SD w mb mean xt nat nd lx ap).tb.consts g=Mine.U.dct d from hd];exact rfl
   ·obtain ⟨v,a,c⟩:=uL (S:=SD w mb mean xt nat nd lx ap) (P:=w.params) b;exact ⟨U,v,hZ.trans hU,a,c⟩
  ·cases b
 ·show ∃ b,_∧(cV (KK w.params) e.a).names.lookup _=_∧_;rw [hsc];cb_eq;rcases List.mem_map.mp (i2 hf) with ⟨i,hi,rfl⟩;rcases ai (bC h5 _ hi) with ⟨a,b⟩;rcases iG a with ⟨a1,a2⟩;by_in;unfold fB at b;unfold B8 at a1
  cases q:ft.get (bp i) with
  | none=>rw [q] at b;cases b
  | some fb =>
   rw [q] at b a1;obtain ⟨b1,b⟩:=ai b;obtain ⟨b2,b3⟩:=ai b;exact ⟨fb,q,a1,hZ.trans (ez b1),pa b2,b3⟩
 ·show (cV (KK w.params) e.a).names.lookup _=_∧_;rw [hsc];cb_eq;rcases ai (bC h6 _ (i3 hc)) with ⟨a,b⟩;rcases iG a with ⟨a1,a2⟩;rcases ai b with ⟨b1,b⟩;rcases ai b with ⟨b2,b⟩;rcases ai b with ⟨b3,b4⟩;by_in;refine ⟨a1,hZ.trans (ez b1),a2,b2,C7 rfl b3,?_⟩
  cases q:ft.get (eq c) with
  | none=>rw [q] at b4;cases b4
  | some fb=>exact ⟨fb,q⟩
 ·cb_eq;rcases ai (bC h7 _ (i3 hb')) with ⟨a,b'⟩;rcases iG a with ⟨a1,a2⟩;rcases ai b' with ⟨b1,b2⟩;rcases EK b (Nat.le_of_ble_eq_true b1) with ⟨c1,c2⟩;by_in;refine ⟨?_,hZ.trans (lY b2),(hb _ c2).trans c1,a2⟩;show (cV (KK w.params) e.a).names.lookup _=_;rw [hsc];exact a1
 ·obtain ⟨a1,a2⟩:=iG (x7 h8 hx);refine ⟨?_,xG.trans tM.1,a2,tM.2⟩;show (cV (KK w.params) e.a).names.lookup _=_;rw [hsc];exact a1
 ·cb_eq;rcases iG (x7 h9 hr) with ⟨a1,a2⟩;rcases BV (w:=w) with ⟨c1,c2,c3⟩;by_in;refine ⟨?_,xG.trans c1,(hb _ c3).trans c2,a2⟩;show (cV (KK w.params) e.a).names.lookup _=_;rw [hsc];exact a1
noncomputable def wW (P:Params) (S:Sd) (e:FE):List PS':=IF (jJ (ou e)) [] (sP S (feI P e) (ou e) (c8 (KK P) e.a))
noncomputable def wV (P:Params) (e:FE):List PS':=IF (jJ (ou e)) [] (c8 (KK P) e.a)
theorem Cn:fts.all (feB w.params (SD w mb mean xt nat nd lx ap))=true:=by kernel_rfl
theorem Cm:fts.map (wW w.params (SD w mb mean xt nat nd lx ap))=fts.map (wV w.params):=by kernel_rfl
theorem zo:fts.all (fun e=>Nat.beq (jk fts (gv (bp e.id))) e.a)=true:=by kernel_rfl
theorem Ew (hb:Hb mb){e:FE}(he:e∈fts){b:Fn}(hf:ft.get (bp e.id)=some b):te (SD w mb mean xt nat nd lx ap) sy (bp e.id) b:=by
 have h:=bC (Cn (w:=w) (mb:=mb) (mean:=mean) (xt:=xt) (nat:=nat) (nd:=nd) (lx:=lx) (ap:=ap)) e he;have hd:wW w.params (SD w mb mean xt nat nd lx ap) e=wV w.params e:=List.map_inj_left.mp Cm e he;unfold feB at h;unfold wW wV ou at hd;rw [hf] at h hd
 dsimp only at h hd
 cases q:jJ b.body with
 | true=>exact .inl (ul q)
 | false =>
  rw [q] at h hd;cb_eq;rcases ai h with ⟨h1,h⟩;rcases ai h with ⟨h2,h⟩;rcases ai h with ⟨h3,h⟩;rcases ai h with ⟨h4,h⟩;rcases ai h with ⟨h5,h6⟩;by_in;have hl:=Nat.le_of_ble_eq_true h1;rw [aA] at hl;have ha:(SD w mb mean xt nat nd lx ap).fad (bp e.id)=e.a:=Nat.eq_of_beq_eq_true (bC zo e he);refine .inr ⟨feI w.params e,e.nm.take b.ar,c8 (KK w.params) e.a,?_,Bw hb h4,by rw [List.length_take];omega,⟨e.nm.drop b.ar,(List.take_append_drop _ _).symm,?_⟩,hd,h5,fun hc c hc2=>?_⟩
  ·rw [ha];exact gA (W:=W0 w mb mean xt) h3
  ·rw [yZ h2,List.length_drop,aA];rfl
  ·have h7:IF (bo e.cl 0) true (bo e.cl 1)=true:=by
    rcases hc with hc | hc
    ·rw [show bo e.cl 0=true from hc]
    ·cases bo e.cl 0 with
     | true=>rfl
     | false=>exact hc
   rw [h7] at h6;have h6':IF (Pth.beq (bp e.id) (eq 0)) false (Bool.not (Pth.beq (bp e.id) (eq 1)))=true:=h6;intro z;have rf:∀ p:Pth,Pth.beq p p=true:=fun p=>by induction p with
    | e=>rfl
    | l p ih=>exact ih
    | r p ih=>exact ih
   match c,hc2 with
   | 0,_ =>
    have z':bp e.id=eq 0:=z;rw [z',rf] at h6';cases h6'
   | 1,_ =>
    have z':bp e.id=eq 1:=z;rw [z',rf] at h6'
    cases q:Pth.beq (eq 1) (eq 0)<;>rw [q] at h6'<;>cases h6'
noncomputable def FT.lst (t:FT):List Pth:=@FT.rec (fun ε =>List Pth) [] (fun ε b ε l r=>l.map Pth.l++(@Option.rec Fn (fun ε =>List Pth) [] (fun ε =>[.e]) b++r.map Pth.r)) t
theorem pC:∀ {t:FT}{p:Pth}{b:Fn},t.get p=some b→p∈t.lst
 | .leaf,p,b,h=>by cases h
 | .node l c r,.e,b,h=>by
  have:c=some b:=h;subst this;exact List.mem_append_right _ (List.mem_append_left _ (.head _))
 | .node l c r,.l p,b,h=>List.mem_append_left _ (List.mem_map_of_mem (pC (t:=l) h))
 | .node l c r,.r p,b,h=>List.mem_append_right _ (List.mem_append_right _ (List.mem_map_of_mem (pC (t:=r) h)))
theorem Ci:ft.lst.all (fun p=>jG (fts.map fun e=>bp e.id) p)=true:=by kernel_rfl
theorem l9 (hb:Hb mb):∀ f b,(SD w mb mean xt nat nd lx ap).ft.get f=some b→te (SD w mb mean xt nat nd lx ap) sy f b:=fun f b h=>by
 cb_eq;rcases List.mem_map.mp (i2 (bC Ci f (pC h))) with ⟨e,he,rfl⟩;by_in;exact Ew hb he h
end Mine
end
end
section
open PySem PySem.W PySem.Calls PyProof.Rows Hd
noncomputable section
namespace Mine
variable {w:World}{mb:Str→Option Value}{mean:ExcName→Option Value}{xt:Led}{nat:Nt}{nd:Nat}{lx:Lxs}{ap:Nat→V→Prop}
noncomputable def jf (a:Nat):String:=af "" anL a
noncomputable def jc (c:Nat):Addr:=af 0 pU c
noncomputable def EL (P:Params) (C:Addr) (x:List Nat):Bool:=i1 (KK P) x (cw (KK P) C)
noncomputable def lJ:List Nat:=so "__setattr__"
noncomputable def sI:List Nat:=so "__getattribute__"
noncomputable def sJ:List Nat:=so "__getattr__"
noncomputable def jL (v:Option (Option Value)) (s:String):Bool:=match v with | some (some (.builtin b))=>kr b s | _=>false
theorem kh {v:Option (Option Value)}{s:String}(h:jL v s=true):v=some (some (.builtin s)):=by
 cases v with
 | none=>cases h
 | some v =>
 cases v with
 | none=>cases h
 | some v=>cases v<;>first | (cases h;done) | exact congrArg (fun s=>some (some (Value.builtin s))) (lu h)
noncomputable def fV (K:Frag) (x:List Nat) (l:List Value):Option (Option Value):=@List.rec Value (fun ε =>Option (Option Value)) (some none) (fun v ε ih=>match v with
 | .ref D=>@Option.rec Value (fun ε =>Option (Option Value)) ih (fun v=>some (some v)) (cF (nsL K (fc K D)) x)
 | .type n=>@Option.rec Value (fun ε =>Option (Option Value)) ih (fun v=>some (some v)) (fastBuiltinOwn n (SS x))
 | _=>none) l
set_option tactic.hygienic true in
theorem jh {K:Frag}{x:List Nat}{r:Option (Option Value)}:∀ {l:List Value},l.all (mj K)=true→fV K x l=r→r≠none→alongIn K (SS x) l=r
 | [],_,e,_=>e
 | c::l,h,e,hn=>by
  rw [List.all_cons,Bool.and_eq_true] at h;unfold alongIn
  cases c<;>try (exfalso;exact hn ((show r=none from e.symm)))
  ·rename_i n;have e':@Option.rec Value (fun ε =>Option (Option Value)) (fV K x l) (fun v=>some (some v)) (fastBuiltinOwn n (SS x))=r:=e;show (match some (fastBuiltinOwn n (SS x)) with | some (some v)=>some (some v) | some none=>alongIn K (SS x) l | none=>none)=r
   cases q:fastBuiltinOwn n (SS x) with
   | some u=>rw [q] at e';exact e'
   | none=>rw [q] at e';exact jh h.2 e' hn
  ·rename_i D;rw [mK h.1];have e':@Option.rec Value (fun ε =>Option (Option Value)) (fV K x l) (fun v=>some (some v)) (cF (nsL K (fc K D)) x)=r:=e
   cases q:cF (nsL K (fc K D)) x with
   | some u=>rw [q] at e';exact e'
   | none=>rw [q] at e';exact jh h.2 e' hn
set_option tactic.hygienic true in
theorem eR {K:Frag}{C:Addr}{x:List Nat}{r:Option (Option Value)}(h:ip K C=true) (e:fV K x (cw K C)=r) (hn:r≠none):findIn K (.ref C) (SS x)=r:=by
 obtain ⟨h1,h2⟩:=Bool.and_eq_true_iff.mp h;unfold gI at h1;show (match K.lookup C with | some ⟨_,_,.cls cd,_⟩=>alongIn K (SS x) cd.mro | _=>none)=_
 cases hk:K.lookup C with
 | none=>rw [hk] at h1;cases h1
 | some o =>
  rw [hk] at h1;cb_eq;rcases o with ⟨c,d,da,sl⟩;by_in
  cases da<;>first | cases h1 | skip
  rename_i cd;have e1:cw K C=cd.mro:=by unfold cw;rw [hk]
  rw [e1] at e h2;exact jh h2 e hn
noncomputable def su (v:Option (Option Value)):Bool:=match v with | some none=>true | _=>false
theorem o9 {v:Option (Option Value)}(h:su v=true):v=some none:=by
 cases v with
 | none=>cases h
 | some v =>
 cases v with
 | none=>rfl
 | some _=>cases h
noncomputable def clB (P:Params) (C:Addr):Bool:=ip (KK P) C&&jL (fV (KK P) sI (cw (KK P) C)) "object.__getattribute__" && su (fV (KK P) sJ (cw (KK P) C))&&hasDictIn (KK P) C&&jL (fV (KK P) lJ (cw (KK P) C)) "object.__setattr__" && plainOver (KK P) C
noncomputable def atB (P:Params) (c:Nat):Bool:=clB P (jc c)&&(fks c).all fun a=>EL P (jc c) (so (jf a))
theorem zP:([0,1,2,3,4].all (atB w.params))=true:=by kernel_rfl
theorem wL {c a:Nat}(h:a∈fks c):c∈[0,1,2,3,4]:=by
 match c with
 | 0=>decide
 | 1=>decide
 | 2=>decide
 | 3=>decide
 | 4=>decide
 | c+5=>exact absurd h (by show ¬a∈([]:List Nat);simp)
structure xw (P:Params) (C:Addr):Prop where
 b:ip (KK P) C=true
 plain:∀ x,plainGet (KK P) C x=true
 dict:hasDictIn (KK P) C=true
 seta:findIn (KK P) (.ref C) "__setattr__" = some (some (.builtin "object.__setattr__"))
 over:plainOver (KK P) C=true
theorem ml {P:Params}{C:Addr}(h:clB P C=true):xw P C:=by
 unfold clB at h;simp only [Bool.and_eq_true] at h;cb_eq;rcases h with ⟨⟨⟨⟨⟨h1,h2⟩,h3⟩,h4⟩,h5⟩,h6⟩;by_in;have e1:findIn (KK P) (.ref C) "__getattribute__" = some (some (.builtin "object.__getattribute__")):=eR (x:=sI) h1 (kh h2) (by intro z;cases z);have e2:findIn (KK P) (.ref C) "__getattr__" = some none:=eR (x:=sJ) h1 (o9 h3) (by intro z;cases z);refine ⟨h1,fun x=>?_,h4,eR (x:=lJ) h1 (kh h5) (by intro z;cases z),h6⟩;unfold plainGet;rw [e1,e2];rfl
theorem jd {c a:Nat}(h:a∈fks c):xw w.params (jc c)∧findIn (KK w.params) (.ref (jc c)) (Str.ofString (jf a))=some none:=by
 have:=bC (zP (w:=w)) c (wL h);unfold atB at this;rw [Bool.and_eq_true] at this;have k:=ml this.1;exact ⟨k,jQ (x:=so (jf a)) k.b (bC this.2 a h)⟩
noncomputable def meB (P:Params) (c i:Nat):Bool:=match ft.get (bp i) with
 | some b=>IF (eO (iK (KK P) (so b.nm) (cw (KK P) (jc c))) (jk fts (gv (bp i)))) (IF (sK (typeIn (KK P) (.ref (jk fts (gv (bp i)))))) (IF (keepIn (KK P) (.ref (jk fts (gv (bp i))))) ((fks c).all fun a=>Bool.not (aN (so (jf a)) (so b.nm))) false) false) false
 | none=>false
theorem me2:(lQ 2).all (meB w.params 2)=true:=by kernel_rfl
theorem me3:(lQ 3).all (meB w.params 3)=true:=by kernel_rfl
theorem me4:(lQ 4).all (meB w.params 4)=true:=by kernel_rfl
theorem Eg:(clB w.params (jc 2)&&clB w.params (jc 3)&&clB w.params (jc 4))=true:=by kernel_rfl
theorem Ef {c i:Nat}(hi:i∈lQ c):xw w.params (jc c)∧meB w.params c i=true:=by
 have k:=Eg (w:=w);rw [Bool.and_eq_true,Bool.and_eq_true] at k
 match c,hi with
 | 0,h=>cases h
 | 1,h=>cases h
 | 2,h=>exact ⟨ml k.1.1,bC me2 i h⟩
 | 3,h=>exact ⟨ml k.1.2,bC me3 i h⟩
 | 4,h=>exact ⟨ml k.2,bC me4 i h⟩
 | c+5,h=>cases h
noncomputable def E7 (c:Nat):Bool:=(fks c).all fun a=>(fks c).all fun b=>IF (aN (so (jf a)) (so (jf b))) (Nat.beq a b) true
theorem ze:([0,1,2,3,4].all E7)=true:=by kernel_rfl
theorem zb:([0,1,2,3,4].all fun c=>Nat.ble (Nat.succ (fks c).length) 1000)=true:=by kernel_rfl
noncomputable def DQ (P:Params):Obj:=excClassObj (Str.ofString "SyntaxFail") (Str.ofString "SyntaxFail") 457 456 [.type "Exception"] pJ true [] [] false none none (some (Hd.R 441)) none (some (Hd.T "SyntaxFail" 984)) (some (Hd.T "SyntaxFail" 992)) (some (.bool true)) "Exception.__new__"
theorem tB (P:Params):(KK P).lookup 457=some (DQ P):=by kernel_rfl
noncomputable def xcB (P:Params):Bool:=ip (KK P) 457&&jL (fV (KK P) lJ (cw (KK P) 457)) "object.__setattr__" && eO (iK (KK P) oo (cw (KK P) 457)) 454&&sK (typeIn (KK P) (.ref 454))&&i1 (KK P) (so "text") (cw (KK P) 457)&&i1 (KK P) (so "line") (cw (KK P) 457) &&
 jL (fV (KK P) sI (cw (KK P) 457)) "BaseException.__getattribute__" && su (fV (KK P) sJ (cw (KK P) 457))&&fnB (KK P) 454 ["self","text","line"]
theorem tC (P:Params):xcB P=true:=by kernel_rfl
structure EM (P:Params):Prop where
 b:ip (KK P) 457=true
 seta:findIn (KK P) (.ref 457) "__setattr__" = some (some (.builtin "object.__setattr__"))
 init:findIn (KK P) (.ref 457) "__init__" = some (some (.ref 454))
 fn:typeIn (KK P) (.ref 454)=some (.type "function")
 text:findIn (KK P) (.ref 457) (Str.ofString "text")=some none
 line:findIn (KK P) (.ref 457) (Str.ofString "line")=some none
 ga:findIn (KK P) (.ref 457) "__getattribute__" = some (some (.builtin "BaseException.__getattribute__"))
 gh:findIn (KK P) (.ref 457) "__getattr__" = some none
 code:fnB (KK P) 454 ["self","text","line"]=true
theorem eV (P:Params):EM P:=by
 have h:=tC P;unfold xcB at h;simp only [Bool.and_eq_true] at h;cb_eq;rcases h with ⟨⟨⟨⟨⟨⟨⟨⟨h1,h2⟩,h3⟩,h4⟩,h5⟩,h6⟩,h7⟩,h8⟩,h9⟩;by_in;exact ⟨h1,eR (x:=lJ) h1 (kh h2) (by intro z;cases z),lq (x:=oo) h1 (ez h3),m5 h4,jQ (x:=so "text") h1 h5,jQ (x:=so "line") h1 h6,
  eR (x:=sI) h1 (kh h7) (by intro z;cases z),eR (x:=sJ) h1 (o9 h8) (by intro z;cases z),h9⟩
theorem qZ (P:Params):p9 (KK P) 457 where
 cls:=⟨_,(by unfold clsIn;rw [tB];rfl),rfl,rfl⟩
 seta:=(eV P).seta
 ga:=(eV P).ga
 gh:=(eV P).gh
theorem uB:nl (W0 w mb mean xt) 454 (c8 (KK w.params) 454) (cV (KK w.params) 454) where
 obj:=⟨_,_,_,_,_,_,_,_,_,_,_,_,_,_,tB w.params⟩
 cls:=(qZ w.params).toExcCls
 init:=(eV w.params).init
 fn:=(eV w.params).fn
 text:=kW (eV w.params).text
 line:=kW (eV w.params).line
 code:=gA (W:=W0 w mb mean xt) (eV w.params).code
 body:=⟨_,_,_,_,_,_,_,_,(by kernel_rfl:c8 (KK w.params) 454=[.Assign [.Attribute (.Name (Str.ofString "self") ⟨275,8,275,12⟩) (Str.ofString "text") ⟨275,8,275,17⟩] (.Name (Str.ofString "text") ⟨275,20,275,24⟩) ⟨275,8,275,24⟩,.Assign [.Attribute (.Name (Str.ofString "self") ⟨276,8,276,12⟩) (Str.ofString "line") ⟨276,8,276,17⟩] (.Name (Str.ofString "line") ⟨276,20,276,24⟩) ⟨276,8,276,24⟩])⟩
theorem gf:Gf (SD w mb mean xt nat nd lx ap) sy where
 dct:=Fb.dct
 attr:=fun c a h=>⟨(jd (w:=w) h).1.plain _,(jd (w:=w) h).1.dict,none,(jd (w:=w) h).2,rfl⟩
 sett:=fun c a h=>⟨(jd (w:=w) h).1.seta,(jd (w:=w) h).1.over,kW (jd (w:=w) h).2,(jd (w:=w) h).1.dict⟩
 anI:=fun c a ha b hb e=>by
  have h:=bC (bC (bC ze c (wL ha)) a ha) b hb;have e':so (jf a)=so (jf b):=congrArg so e;rw [e',eS] at h;exact Nat.eq_of_beq_eq_true h
 flen:=fun c=>by
  by_cases h:∃ a,a∈fks c
  ·obtain ⟨a,ha⟩:=h;exact Nat.le_of_ble_eq_true (bC zb c (wL ha))
  ·cases q:fks c with
   | nil=>decide
   | cons a r=>exact absurd ⟨a,by rw [q];exact .head _⟩ h
 node:=⟨"__init__",by kernel_rfl⟩
 tok:=⟨"__init__",by kernel_rfl⟩
 xc:=⟨454,c8 (KK w.params) 454,cV (KK w.params) 454,uB⟩
 inis:=fun c=>rfl
 meth:=fun c f h=>by
  cb_eq;rcases List.mem_map.mp (i2 h) with ⟨i,hi,rfl⟩;rcases Ef (w:=w) hi with ⟨k,m⟩;by_in;unfold meB at m
  cases q:ft.get (bp i) with
  | none=>rw [q] at m;cases m
  | some b =>
   rw [q] at m;cb_eq;rcases ai m with ⟨m1,m⟩;rcases ai m with ⟨m2,m⟩;rcases ai m with ⟨m3,m4⟩;by_in;refine ⟨b,q,⟨k.plain _,lq (x:=so b.nm) k.b (ez m1),?_,m3⟩,fun a ha e=>?_⟩
   ·unfold isFn;rw [show typeIn (SD w mb mean xt nat nd lx ap).W.K (.ref ((SD w mb mean xt nat nd lx ap).fad (bp i)))=_ from m5 m2]
    decide
   ·have:=bC m4 a ha;have e':so (jf a)=so b.nm:=congrArg so e;rw [e',eS] at this;cases this
end Mine
end
end
section
open PySem
noncomputable section
namespace Mine
noncomputable def eZ:Pth:=.r (.l (.r (.r (.l (.e)))))
noncomputable def iA:Pth:=.l (.l (.r (.r (.l (.e)))))
noncomputable def f5:Pth:=.r (.r (.r (.r (.l (.r (.e))))))
noncomputable def fG (a:Pth):Pth→Bool:=@Pth.rec (fun ε =>Pth→Bool) (fun b=>@Pth.rec (fun ε =>Bool) true (fun ε ε =>false) (fun ε ε =>false) b)
 (fun ε ih b=>@Pth.rec (fun ε =>Bool) false (fun p ε =>ih p) (fun ε ε =>false) b) (fun ε ih b=>@Pth.rec (fun ε =>Bool) false (fun ε ε =>false) (fun p ε =>ih p) b) a
noncomputable def hdK {α β : Type}(l:List α) (c : α→List α→Option β):Option β :=match l with
 | a::r=>c a r
 | []=>none
noncomputable def ki {β : Type}(i:Nat) (m:MOb) (c:List U→Option β):Option β :=match m with
 | .inst j us=>chK (Nat.beq j i) (c us)
 | _=>none
noncomputable def vlK {β : Type}(m:MOb) (c:List U→Option β):Option β :=match m with
 | .vlex ts=>c ts
 | _=>none
noncomputable def obK {β : Type}(u:U) (c:List U→Option β):Option β :=match u with
 | .obj j us=>chK (Nat.beq j 1) (c us)
 | _=>none
noncomputable def blK {β : Type}(u:U) (c:Bool→Option β):Option β :=match u with
 | .bool b=>c b
 | _=>none
noncomputable def oK {β : Type}(a:Ad) (c:Nat→Option β):Option β :=match a with
 | .o i=>c i
 | _=>none
noncomputable def tK {β : Type}(a:Ad) (c:Nat→Option β):Option β :=match a with
 | .t i=>c i
 | _=>none
noncomputable def xL (u:U):Bool:=match u with
 | .lst x=>br x
 | _=>false
noncomputable def sD (u:U):Bool:=match u with
 | .txt=>true
 | _=>false
noncomputable def isO (n:Nat) (u:U):Bool:=match u with
 | .ref (.o m)=>Nat.beq m n
 | _=>false
noncomputable def sG (i:Int) (u:U):Bool:=match u with
 | .int j=>eqI j i
 | _=>false
noncomputable def emB (m:MOb):Bool:=match m with
 | .lst x=>br x
 | _=>false
noncomputable def i0 (us:List U) (o:O):Option Rs:=hdK us fun u r=>chK (isO 1 u) (chK (br r) (hdK o.objs fun p r=>hdK r fun v rs=>vlK v fun ts=>hdK ts fun t ts=>obK t fun fs=>some (.ok (.obj 1 fs) ⟨p::.vlex ts::rs,o.nt,o.tmp⟩)))
noncomputable def lP (ts:List U) (us:List U) (o:O):Option Rs:=hdK us fun u r=>chK (isO 1 u) (hdK r fun v r=>chK (sD v) (chK (br r) (hdK o.objs fun p r=>ki 4 p fun a=>chK (br a) (hdK r fun q r=>ki 2 q fun b=>chK (br b) (chK (br r)
 (some (.ok .none ⟨[.inst 4 [],.vlex ts],o.nt,o.tmp⟩)))))))
noncomputable def gH:Nt:=fun ε ε ε =>none
noncomputable def ff:Nt:=fun f us o=>IF (fG f eZ) (i0 us o) none
noncomputable def jF (ts:List U):Nt:=fun f us o=>IF (fG f eZ) (i0 us o) (IF (fG f iA) (lP ts us o) none)
noncomputable def dT (a b:U):Bool:=match a,b with
 | .str x,.str y=>aN x y
 | .int i,.int j=>eqI i j
 | .ln i,.ln j=>eqI i j
 | .bool x,.bool y=>IF x y (Bool.not y)
 | .any i,.any j=>Nat.beq i j
 | _,_=>false
noncomputable def dS (a:List U):List U→Bool:=@List.rec U (fun ε =>List U→Bool) (fun b=>br b) (fun x ε ih b=>@List.rec U (fun ε =>Bool) false (fun y s ε =>IF (dT x y) (ih s) false) b) a
noncomputable def Eo (u:U) (fs:List U):Bool:=match u with
 | .obj 1 gs=>dS gs fs
 | _=>false
noncomputable def cdK (n:Nat) (c d:Option Rs):Option Rs:=IF (Nat.beq n 0) c (IF (Nat.beq n 2) d none)
noncomputable def wp {β : Type}(m:MOb) (c:List U→Bool→Int→Nat→Option β):Option β :=ki 4 m fun us=>hdK us fun a us=>chK (isO 1 a) (hdK us fun t us=>obK t fun tk=>hdK us fun n us=>chK (iF n) (hdK us fun s us=>blK s fun b=>hdK us fun d us=>inK d fun d =>
 hdK us fun j us=>rfK j fun j=>oK j fun j=>hdK us fun p us=>chK (xL p) (chK (br us) (c tk b d j))))
noncomputable def wB {β : Type}(m:MOb) (c:Nat→Option β):Option β :=ki 3 m fun us=>hdK us fun a us=>rfK a fun a=>tK a fun a=>hdK us fun x us=>chK (sG (.ofNat 0) x) (hdK us fun y us=>chK (sG (.ofNat 0) y) (chK (br us) (c a)))
noncomputable def df (tk:List U) (b:Bool) (d:Int) (j:Nat):MOb:=.inst 4 [.ref (.o 1),.obj 1 tk,.none,.bool b,.int d,.ref (.o j),.lst []]
noncomputable def sx (mk:List U) (tab:Bool→Int→U→Nat) (us:List U) (o:O):Option Rs:=hdK us fun u r=>chK (isO 0 u) (chK (br r) (hdK o.objs fun p r=>wp p fun tk b d j=>chK (dS tk mk) (hdK r fun v rs=>vlK v fun ts=>hdK ts fun m ts=>chK (dT m (.any 9)) (hdK ts fun f ts=>obK f fun f =>
 chK (dS f f) (chK (Nat.ble 2 j) (wB (af .dead rs (Nat.sub j 2)) fun a=>chK (emB (o.tmp.get a)) (cdK (tab b d (.obj 1 f)) (some (.ok (.any 0) ⟨df f b d j::.vlex ts::rs,o.nt,o.tmp⟩)) (some (.fail 0)))))))))
noncomputable def mP (mk:List U) (tab:Bool→Int→U→Nat) (ts:List U):Nt:=fun f us o=>IF (fG f f5) (sx mk tab us o) (jF ts f us o)
noncomputable def wkB (au:Nat→Option U) (u t:U):Bool:=match t with
 | .any i=>@Option.rec U (fun ε =>Bool) true (fun w=>dT u w) (au i)
 | t=>dT u t
noncomputable def wkL (au:Nat→Option U) (a:List U):List U→Bool:=@List.rec U (fun ε =>List U→Bool) (fun b=>br b) (fun x ε ih b=>@List.rec U (fun ε =>Bool) false (fun y s ε =>IF (wkB au x y) (ih s) false) b) a
noncomputable def mX (u:U):Bool:=match u with | .str _=>true | .bool _=>true | .int _=>true | _=>false
noncomputable def stB (au:Nat→Option U) (a b:U):Bool:=match b with
 | .any 0=>true
 | b=>match a with
  | .any i=>@Option.rec U (fun ε =>Bool) false (fun w=>IF (mX w) (dT w b) false) (au i)
  | a=>dT a b
noncomputable def stL (au:Nat→Option U) (a:List U):List U→Bool:=@List.rec U (fun ε =>List U→Bool) (fun b=>br b) (fun x ε ih b=>@List.rec U (fun ε =>Bool) false (fun y s ε =>IF (stB au x y) (ih s) false) b) a
noncomputable def lD (cx:Cx) (r:List Nat) (k:Int):Rs:=run tb cx ft gH 0 3000 (bA tb cx ft eZ [.ref (.o 0)] ⟨[.inst 2 [.txt,.pos r (.ofNat 0) (.ofNat 0),.ln k]],0,.nil⟩) [] 9
noncomputable def cX (cx:Cx) (nat:Nt) (nd:Nat):Rs:=run tb cx ft nat nd 6000 (bA tb cx ft mI [.txt] ⟨[],0,.nil⟩) [] 250
noncomputable def wT (t0:List U) (b:Bool) (d:Int) (ts:List U):O:=⟨[.inst 4 [.ref (.o 1),.obj 1 t0,.none,.bool b,.int d,.ref (.o 2),.lst []],.vlex ts,.inst 3 [.ref (.t 0),.int (.ofNat 0),.int (.ofNat 0)]],1,.cons 0 (.lst []) .nil⟩
noncomputable def na (cx:Cx) (t0:List U) (b:Bool) (d:Int) (ts:List U):Rs:=run tb cx ft ff 20 4000 (bA tb cx ft f5 [.ref (.o 0)] (wT t0 b d ts)) [] 90
noncomputable def gk (r:Rs):Nat:=@Rs.rec (fun ε =>Nat) (fun ε ε =>0) (fun n=>Nat.add n (Nat.add n 2)) 1 (fun ε ε ε ε ε =>1) r
noncomputable def m9 (b:Bool) (d:Int) (f:List U) (o:O):Option Nat:=hdK o.objs fun p r=>wp p fun f' b' d' j=>chK (dS f' f) (chK (IF b b' (Bool.not b')) (chK (eqI d d') (chK (Nat.beq j 2) (hdK r fun v r=>vlK v fun ts=>chK (dS ts [.any 8]) (hdK r fun q ε =>wB q fun a =>
 chK (Nat.beq a 0) (chK (emB (o.tmp.get 0)) (some 0)))))))
noncomputable def nk (b:Bool) (d:Int) (f:List U) (r:Rs):Nat:=@Rs.rec (fun ε =>Nat) (fun ε o=>@Option.rec Nat (fun ε =>Nat) 1 (fun n=>n) (m9 b d f o)) (fun n=>Nat.add n (Nat.add n 2)) 1 (fun ε ε ε ε ε =>1) r
end Mine
end
section
open PySem PySem.W PySem.Calls PyProof.Rows Hd
noncomputable section
namespace Mine
theorem eI:∀ {a b:Pth},fG a b=true→a=b
 | .e,.e,_=>rfl
 | .e,.l _,h=>by cases h
 | .e,.r _,h=>by cases h
 | .l _,.e,h=>by cases h
 | .r _,.e,h=>by cases h
 | .l a,.l b,h=>congrArg Pth.l (eI (show fG a b=true from h))
 | .r a,.r b,h=>congrArg Pth.r (eI (show fG a b=true from h))
 | .l _,.r _,h=>by cases h
 | .r _,.l _,h=>by cases h
theorem EI {x y:Bool}(h:IF x y (Bool.not y)=true):x=y:=by cases x<;>cases y<;>first | rfl | cases h
theorem fL {a b:U}(h:dT a b=true):a=b:=by
 cases a<;>first | (injection h;done) | (cases b<;>first | exact congrArg U.str (c9 h) | exact congrArg U.int (cI h) | exact congrArg U.ln (cI h) | exact congrArg U.any (Nat.eq_of_beq_eq_true h) | exact congrArg U.bool (EI h) | injection h)
theorem iJ:∀ {a b:List U},dS a b=true→a=b
 | [],[],_=>rfl
 | [],_::_,h=>by cases h
 | _::_,[],h=>by cases h
 | x::a,y::b,h=>by
  obtain ⟨h1,h2⟩:=ai (show IF (dT x y) (dS a b) false=true from h);rw [fL h1,iJ h2]
section
variable {β : Type}{r : β}{P:Prop}
theorem aJ {α : Type}{l:List α}{c : α→List α→Option β}(h:hdK l c=some r) (k:∀ a s,l=a::s→c a s=some r→P):P:=by
 cases l with
 | nil=>cases h
 | cons a s=>exact k a s rfl h
theorem gJ {i:Nat}{m:MOb}{c:List U→Option β}(h:ki i m c=some r) (k:∀ us,m=.inst i us→c us=some r→P):P:=by
 cases m with
 | inst j us=>exact ax h fun a b=>k us (by rw [Nat.eq_of_beq_eq_true a]) b
 | _=>cases h
theorem oM {m:MOb}{c:List U→Option β}(h:vlK m c=some r) (k:∀ ts,m=.vlex ts→c ts=some r→P):P:=by
 cases m with
 | vlex ts=>exact k ts rfl h
 | _=>cases h
theorem lM {u:U}{c:List U→Option β}(h:obK u c=some r) (k:∀ us,u=.obj 1 us→c us=some r→P):P:=by
 cases u with
 | obj j us=>exact ax h fun a b=>k us (by rw [Nat.eq_of_beq_eq_true a]) b
 | _=>cases h
theorem Di {u:U}{c:Bool→Option β}(h:blK u c=some r) (k:∀ b,u=.bool b→c b=some r→P):P:=by
 cases u with
 | bool b=>exact k b rfl h
 | _=>cases h
theorem Ec {a:Ad}{c:Nat→Option β}(h:oK a c=some r) (k:∀ b,a=.o b→c b=some r→P):P:=by
 cases a with
 | o b=>exact k b rfl h
 | t b=>cases h
theorem DU {a:Ad}{c:Nat→Option β}(h:tK a c=some r) (k:∀ b,a=.t b→c b=some r→P):P:=by
 cases a with
 | t b=>exact k b rfl h
 | o b=>cases h
end
theorem cq {α : Type}{l s s':List α}{a a' : α}(h:l=a::s) (e:a=a') (f:s=s'):l=a'::s':=by rw [h,e,f]
theorem bY {α : Type}{l:List α}(h:br l=true):l=[]:=by cases l<;>first | rfl | cases h
set_option tactic.hygienic true in
theorem lX {n:Nat}{u:U}(h:isO n u=true):u=.ref (.o n):=by
 cases u<;>first | (cases h;done) | skip
 rename_i a
 cases a<;>first | (cases h;done) | skip
 rw [Nat.eq_of_beq_eq_true (show Nat.beq _ n=true from h)]
theorem pq {u:U}(h:sD u=true):u=.txt:=by cases u<;>first | rfl | cases h
theorem uo {u:U}(h:iF u=true):u=.none:=by cases u<;>first | rfl | cases h
theorem wD {u:U}(h:xL u=true):u=.lst []:=by
 cases u<;>first | (cases h;done) | skip
 rw [bY (show br _=true from h)]
theorem pt {i:Int}{u:U}(h:sG i u=true):u=.int i:=by
 cases u<;>first | (cases h;done) | skip
 rw [cI (show eqI _ i=true from h)]
theorem uG {m:MOb}(h:emB m=true):m=.lst []:=by
 cases m<;>first | (cases h;done) | skip
 rw [bY (show br _=true from h)]
theorem qO {β : Type}{r : β}{P:Prop}{m:MOb}{c:List U→Bool→Int→Nat→Option β}(h:wp m c=some r) (k:∀ tk b d j,m=df tk b d j→c tk b d j=some r→P):P :=
 gJ h fun us e0 h=>aJ h fun a us1 e1 h=>ax h fun z1 h=>aJ h fun t us2 e2 h=>lM h fun tk e3 h=>aJ h fun n us3 e4 h=>ax h fun z2 h=>aJ h fun s us4 e5 h=>Di h fun b e6 h=>aJ h fun d us5 e7 h=>cZ h fun d' e8 h =>
 aJ h fun j us6 e9 h=>ix h fun j' e10 h=>Ec h fun j'' e11 h=>aJ h fun p us7 e12 h=>ax h fun z3 h=>ax h fun z4 h =>
 k tk b d' j'' (e0.trans (congrArg (MOb.inst 4) (cq e1 (lX z1) (cq e2 e3 (cq e4 (uo z2) (cq e5 e6 (cq e7 e8 (cq e9 (e10.trans (congrArg U.ref e11)) (cq e12 (wD z3) (bY z4)))))))))) h
noncomputable def gj (a:Nat):MOb:=.inst 3 [.ref (.t a),.int (.ofNat 0),.int (.ofNat 0)]
theorem qV {β : Type}{r : β}{P:Prop}{m:MOb}{c:Nat→Option β}(h:wB m c=some r) (k:∀ a,m=gj a→c a=some r→P):P :=
 gJ h fun us e0 h=>aJ h fun a us1 e1 h=>ix h fun a' e2 h=>DU h fun a'' e3 h=>aJ h fun x us2 e4 h=>ax h fun z1 h=>aJ h fun y us3 e5 h=>ax h fun z2 h=>ax h fun z3 h =>
 k a'' (e0.trans (congrArg (MOb.inst 3) (cq e1 (e2.trans (congrArg U.ref e3)) (cq e4 (pt z1) (cq e5 (pt z2) (bY z3)))))) h
noncomputable def vOf (u:U):V:=match u with | .str x=>.str (SS x) | .bool b=>.bool b | .int i=>.int i | _=>.none
noncomputable def dU (au:Nat→Option U):Nat→V→Prop:=fun i v=>∀ w,au i=some w→mX w=true→v=vOf w
section
variable {S S':Sd}{cx cx':Cx}{ρ ρ':Rh}{au:Nat→Option U}
noncomputable def sZ (u:U):Bool:=match u with | .str _=>true | .bool _=>true | .int _=>true | .ln _=>true | .any _=>true | .none=>true | _=>false
theorem jU {a b:U}(h:dT a b=true):sZ a=true∧sZ b=true:=by
 cases a<;>first | (injection h;done) | (cases b<;>first | exact ⟨rfl,rfl⟩ | injection h)
theorem mz (ha:S'.ap=S.ap) (hl:cx'.lam=cx.lam){u:U}{v:V}(h:sZ u=true) (x:VU S cx ρ u v):VU S' cx' ρ' u v:=by
 cases u<;>first | (exfalso;cases h;done) | skip
 ·exact x
 ·exact x
 ·exact x
 ·exact x
 ·obtain rfl:=cM x;exact n8 (by rw [hl])
 ·exact And.intro (gX x).1 (by rw [ha];exact (gX x).2)
theorem tI {u:U}{v:V}(h:mX u=true):VU S cx ρ u v↔v=vOf u:=by
 cases u<;>first | (exfalso;cases h;done) | exact Iff.rfl
set_option tactic.hygienic true in
theorem tE (D:Dcts S') (ha':S.ap=dU au) (hap:S'.ap=S.ap) (hl:cx.lam=cx'.lam):∀ {us ts:List U}{vs:List V},wkL au us ts=true→VUs S' cx' ρ' us vs→VUs S cx ρ ts vs
 | [],[],vs,_,x=>by rw [am x];exact aH
 | [],_::_,vs,h,x=>by cases h
 | _::_,[],vs,h,x=>by cases h
 | u::us,t::ts,vs,h,x=>by
  cb_eq;rcases ai (show IF (wkB au u t) (wkL au us ts) false=true from h) with ⟨h1,h2⟩;rcases ae x with ⟨v,r,rfl,x1,x2⟩;by_in;refine aq ?_ (tE D ha' hap hl h2 x2);have key:dT u t=true→VU S cx ρ t v:=fun e=>by
   obtain rfl:=fL e;exact mz hap.symm hl (jU e).1 x1
  unfold wkB at h1
  split at h1
  ·rename_i i;refine And.intro (f4 D x1) ?_;rw [ha'];intro w hw hat;rw [hw] at h1;have h1':dT u w=true:=h1;obtain rfl:=fL h1';exact (tI hat).mp x1
  ·exact key h1
set_option tactic.hygienic true in
theorem tF (D:Dcts S) (ha':S.ap=dU au) (hap:S'.ap=S.ap) (h0:au 0=none) (hl:cx'.lam=cx.lam):∀ {ts us:List U}{vs:List V},stL au ts us=true→VUs S cx ρ ts vs→VUs S' cx' ρ' us vs
 | [],[],vs,_,x=>by rw [am x];exact aH
 | [],_::_,vs,h,x=>by cases h
 | _::_,[],vs,h,x=>by cases h
 | t::ts,u::us,vs,h,x=>by
  cb_eq;rcases ai (show IF (stB au t u) (stL au ts us) false=true from h) with ⟨h1,h2⟩;rcases ae x with ⟨v,r,rfl,x1,x2⟩;by_in;refine aq ?_ (tF D ha' hap h0 hl h2 x2);unfold stB at h1
  split at h1
  ·refine And.intro (f4 D x1) ?_;rw [hap,ha'];intro w hw;rw [h0] at hw;cases hw
  ·split at h1
   ·rename_i i
    cases q:au i with
    | none=>rw [q] at h1;cases h1
    | some w =>
     rw [q] at h1;obtain ⟨hw,h1'⟩:=ai (show IF (mX w) (dT w u) false=true from h1);obtain rfl:=fL h1';obtain ⟨p1,p2⟩:=gX x1;rw [ha'] at p2;exact (tI hw).mpr (p2 w q hw)
   ·obtain rfl:=fL h1;exact mz hap hl (jU h1).1 x1
end
end Mine
end
end
section
open PySem PySem.W PySem.Calls PyProof.Rows Hd
noncomputable section
namespace Mine
noncomputable def fk (au:Nat→Option U) (r:List Nat) (k:Int) (fs:List U) (r':List Nat) (k':Int):Prop :=
 r'<:+r∧∀ cx:Cx,∃ us j nt tmp,lD cx r k=.ok (.obj 1 us) ⟨[.inst 2 [.txt,.pos r' j (.ofNat 0),.ln k']],nt,tmp⟩∧wkL au us fs=true
section
variable {w:World}{mb:Str→Option Value}{mean:ExcName→Option Value}{xt:Led}{nat nat':Nt}{nd nd':Nat}{lx lx':Lxs}{ap:Nat→V→Prop}{cx:Cx}{X:Nat→Prop}{XX:Nat→MH→Prop}{H₀ H:MH}{ρ : Rh}{o:O}{au:Nat→Option U}
theorem Inv.repl {S:Sd}(h:Inv S cx H₀ ρ o H){o':O}{H':MH}(hd:∀ a,o'.at a≠.dead→o.at a≠.dead) (hh:∀ a,o.has a→o'.has a) (hi:TL.Ok 0 o'.nt o'.tmp)
  (hl:∀ a x,o'.at a≠.dead→ρ a=some x→∃ m,H' x=some m∧MU S cx ρ (o'.at a) m) (hb:∀ b y,H₀ b=some y→H' b=some y):Inv S cx H₀ ρ o' H' where
 base:=hb
 live:=fun a ha=>by
  cb_eq;rcases h.live a (hd a ha) with ⟨x,m,e,_,_,f⟩;rcases hl a x ha e with ⟨m',hm,mu⟩;by_in;exact ⟨x,m',e,hm,mu,f⟩
 inj:=fun a a' x h1 h2=>h.inj a a' x (hd a h1) (hd a' h2)
 dom:=fun a x e=>hh a (h.dom a x e)
 ids:=hi
theorem t2 {us:List U}{o:O}{r:Rs}(h:i0 us o=some r):us=[.ref (.o 1)]∧∃ p fs ts rs,o.objs=p::.vlex (.obj 1 fs::ts)::rs∧r=.ok (.obj 1 fs) ⟨p::.vlex ts::rs,o.nt,o.tmp⟩ :=
 aJ h fun u q e0 h=>ax h fun z1 h=>ax h fun z2 h=>aJ h fun p q2 e1 h=>aJ h fun v rs e2 h=>oM h fun ts e3 h=>aJ h fun t ts' e4 h=>lM h fun fs e5 h =>
 ⟨cq e0 (lX z1) (bY z2),p,fs,ts',rs,cq e1 rfl (cq e2 (e3.trans (congrArg MOb.vlex (cq e4 e5 rfl))) rfl),(Option.some.inj h).symm⟩
theorem j9 {S:Sd}(h:S.nat=gH){dd:Nat}:ig S cx X XX dd:=fun f b hb H₀ ρ us vs o H l Q r ε ε ε ε e=>by
 rw [h] at e;cases e
noncomputable abbrev S0 (w:World) (mb:Str→Option Value) (mean:ExcName→Option Value) (xt:Led) (ap:Nat→V→Prop):Sd:=SD w mb mean xt gH 0 (fun ε ε ε ε ε =>False) ap
theorem mO (hb:Hb mb) (hT:cx.T.length<60000) (hap:ap=dU au) (hlx:∀ r k fs r' k',lx r k (.obj 1 fs) r' k'→fk au r k fs r' k'){dd:Nat}(hd:11≤dd){b:Fn}(hbn:ft.get eZ=some b)
  {us:List U}{vs:List V}{l:Loc}{Q:U→O→Prop}{r:Rs}(hx:XOK cx X XX H₀) (hI:Inv (SD w mb mean xt nat nd lx ap) cx H₀ ρ o H) (hv:VUs (SD w mb mean xt nat nd lx ap) cx ρ us vs) (hlen:us.length=b.ar)
  (hn:i0 us o=some r) (hQ:cc X Q r):CL (SD w mb mean xt nat nd lx ap).W ⟨dd,XX⟩ l H ((SD w mb mean xt nat nd lx ap).fad eZ) vs (PC (SD w mb mean xt nat nd lx ap) cx H₀ ρ Q):=by
 cb_eq;rcases t2 hn with ⟨rfl,p,fs,ts,rs,ho,rfl⟩;by_in;have hQ':Q (.obj 1 fs) ⟨p::.vlex ts::rs,o.nt,o.tmp⟩:=hQ;have at1:o.at (.o 1)=.vlex (.obj 1 fs::ts):=by show af .dead o.objs 1=_;rw [ho];rfl
 obtain ⟨x,m,hρ,hm,mu,f0⟩:=hI.live (.o 1) (by rw [at1];intro z;cases z);rw [at1] at mu;cb_eq;rcases mu with ⟨r,k,rfl,hr,r',k',hl,hr',hL⟩;rcases hlx _ _ _ _ _ hl with ⟨hsuf,htk⟩;rcases htk ⟨cx.T,cx.lam,aT cx.T r⟩ with ⟨ua,j,nt,tmp,hrun,hwk⟩;rcases ae hv with ⟨v,vr,rfl,hv1,hv2⟩;by_in;obtain rfl:=am hv2;cb_eq;rcases aC hv1 with ⟨x',hx',rfl⟩;by_in;rw [hρ] at hx';obtain rfl:x=x':=Option.some.inj hx';have D0:Dcts (S0 w mb mean xt ap):=(gf (w:=w) (mb:=mb) (mean:=mean) (xt:=xt) (nat:=gH) (nd:=0) (lx:=fun ε ε ε ε ε =>False) (ap:=ap)).toDcts
 let H1:MH:=fun a=>if a=x then none else H a
 let ρ1:Rh:=fun a=>match a with | .o 0=>some x | _=>none
 have hI1:Inv (S0 w mb mean xt ap) ⟨cx.T,cx.lam,aT cx.T r⟩ H1 ρ1 ⟨[.inst 2 [.txt,.pos r (.ofNat 0) (.ofNat 0),.ln k]],0,.nil⟩ H:=by
  refine ⟨fun a y e=>?_,fun a ha=>?_,fun a a' y h1 h2 e1 e2=>?_,fun a y e=>?_,Nat.le_refl 0⟩
  ·show H a=some y;have e':(if a=x then none else H a)=some y:=e
   by_cases q:a=x
   ·rw [if_pos q] at e';cases e'
   ·rw [if_neg q] at e';exact e'
  ·match a with
   | .o 0 =>
    refine ⟨x,_,rfl,hm,⟨_,rfl,Nat.le_of_ble_eq_true rfl,aq (rfl) (aq ?_ (aq (rfl) aH))⟩,if_pos rfl⟩;exact And.intro hr ⟨(Int.add_zero _).symm,by show V.int _=V.int (aT cx.T r+0+0);rw [Int.add_zero,Int.add_zero]⟩
   | .o (n+1)=>exact absurd rfl ha
   | .t n=>exact absurd rfl ha
  ·match a,a' with
   | .o 0,.o 0=>rfl
   | .o (n+1),_=>exact absurd rfl h1
   | .t n,_=>exact absurd rfl h1
   | _,.o (n+1)=>exact absurd rfl h2
   | _,.t n=>exact absurd rfl h2
  ·match a with
   | .o 0=>exact Nat.zero_lt_one
   | .o (n+1)=>cases e
   | .t n=>cases e
 have hx1:XOK (⟨cx.T,cx.lam,aT cx.T r⟩:Cx) X XX H1:=fun k H' hk hH=>hx k H' hk fun b y e=>hH b y (by
  show (if b=x then none else H b)=some y;rw [if_neg (fun z=>by rw [z,f0] at e;cases e)];exact hI.base b y e)
 have C:=lH (S:=S0 w mb mean xt ap) (cx:=⟨cx.T,cx.lam,aT cx.T r⟩) (X:=X) (XX:=XX) gf (l9 hb) hT (fun ε ε =>j9 rfl) 9 dd hd eZ b hbn H1 ρ1 [.ref (.o 0)] [.ref x] _ H l
  (fun u o'=>u=.obj 1 ua∧o'=⟨[.inst 2 [.txt,.pos r' j (.ofNat 0),.ln k']],nt,tmp⟩) hx1 hI1 (aq (dp rfl) aH) hlen
  (gE (S:=S0 w mb mean xt ap) (ks:=[]) (m:=3000) (by
   show cc X _ (lD ⟨cx.T,cx.lam,aT cx.T r⟩ r k);rw [hrun];exact ⟨rfl,rfl⟩))
 refine CL.mono C fun v H' q=>?_;cb_eq;rcases q with ⟨u',o',ρ',le,vu,hI',rfl,rfl⟩;by_in;have hρ' : ρ' (.o 0)=some x:=le _ _ rfl;obtain ⟨x2,m2,e2,hm2,mu2,_⟩:=hI'.live (.o 0) (by intro z;cases z);rw [hρ'] at e2;obtain rfl:x=x2:=Option.some.inj e2;cb_eq;rcases mu2 with ⟨ms,rfl,_,hms⟩;rcases ae hms with ⟨a1,as,rfl,b1,hms⟩;rcases ae hms with ⟨a2,as,rfl,b2,hms⟩;rcases ae hms with ⟨a3,as,rfl,b3,hms⟩;by_in;obtain rfl:=am hms;obtain rfl:=cA b1;cb_eq;rcases bx b2 with ⟨_,c2,rfl⟩;by_in;obtain rfl:=cM b3;have oth:∀ y m,H y=some m→y≠x→H' y=some m:=fun y m e ne=>hI'.base y m (by show (if y=x then none else H y)=some m;rw [if_neg ne];exact e);refine ⟨.obj 1 fs,⟨p::.vlex ts::rs,o.nt,o.tmp⟩,ρ,Rle.refl ρ,?_,?_,hQ'⟩
 ·cb_eq;rcases eJ vu with ⟨vs',rfl,hl',hvs'⟩;by_in;have e:∀ {us ts:List U},wkL au us ts=true→us.length=ts.length:=fun {us}=>by
   induction us with
   | nil=>intro ts h;cases ts with
    | nil=>rfl
    | cons a r=>cases h
   | cons a r ih=>intro ts h;cases ts with
    | nil=>cases h
    | cons b s=>rw [List.length_cons,List.length_cons,ih (ai (show IF (wkB au a b) (wkL au r s) false=true from h)).2]
  have el:=e hwk;refine Exists.intro vs' ⟨by rw [←el];rfl,by rw [←el];exact hl',?_⟩;exact tE (S:=SD w mb mean xt nat nd lx ap) (S':=S0 w mb mean xt ap) (cx:=cx) (cx':=⟨cx.T,cx.lam,aT cx.T r⟩) D0 hap rfl rfl hwk hvs'
 ·have eo:(⟨p::.vlex ts::rs,o.nt,o.tmp⟩:O)=o.put (.o 1) (.vlex ts):=by
   show _=(⟨a9 o.objs 1 (.vlex ts),o.nt,o.tmp⟩:O);rw [ho];rfl
  have dd1:o.at (.o 1)≠.dead:=by rw [at1];intro z;cases z
  rw [eo];refine hI.repl (fun a ha=>?_) (fun a=>iH) hI.ids (fun a y ha e=>?_) (fun b y e=>oth b y (hI.base b y e) (fun z=>by rw [z,f0] at e;cases e))
  ·by_cases q:a=.o 1
   ·rw [q];exact dd1
   ·rw [cf q] at ha;exact ha
  ·by_cases q:a=.o 1
   ·subst q;rw [hρ] at e;obtain rfl:=Option.some.inj e;rw [ek dd1];refine ⟨_,hm2,r',k',?_,hr',hL⟩;have c2':aT cx.T r'=aT cx.T r+j:=c2;show MO.inst _ _ [_,V.int (aT cx.T r+j+0),_]=MO.inst _ _ [_,V.int (aT cx.T r'),_];rw [c2',Int.add_zero];rfl
   ·rw [cf q] at ha ⊢;cb_eq;rcases hI.get ha e with ⟨m',hm',mu',_⟩;by_in;exact ⟨m',oth y m' hm' (fun z=>q (hI.inj a (.o 1) x ha dd1 (by rw [e,z]) hρ)),mu'⟩
end
end Mine
end
end
section
open PySem PySem.W PySem.Calls PyProof.Rows Hd
noncomputable section
namespace Mine
section
variable {w:World}{mb:Str→Option Value}{mean:ExcName→Option Value}{xt:Led}{nat nat':Nt}{nd nd':Nat}{lx lx':Lxs}{ap:Nat→V→Prop}{cx:Cx}{X:Nat→Prop}{XX:Nat→MH→Prop}{H₀ H:MH}{ρ : Rh}{o:O}{au:Nat→Option U}
mutual
theorem xy:∀ {u:U}{v:V},VU (SD w mb mean xt nat nd lx ap) cx ρ u v→VU (SD w mb mean xt nat' nd' lx' ap) cx ρ u v
 | .none,_,x=>x
 | .bool _,_,x=>x
 | .int _,_,x=>x
 | .str _,_,x=>x
 | .tup us,_,x=>by obtain ⟨vs,e,y⟩:=x;exact ⟨vs,e,fW y⟩
 | .lst us,_,x=>by obtain ⟨vs,e,y⟩:=x;exact ⟨vs,e,fW y⟩
 | .obj c us,_,x=>by obtain ⟨vs,e,n,y⟩:=x;exact ⟨vs,e,n,fW y⟩
 | .ref a,_,x=>x
 | .txt,_,x=>x
 | .pos _ _ _,_,x=>x
 | .tlen,_,x=>x
 | .any _,_,x=>x
 | .ln _,_,x=>x
 | .dct _,_,x=>x
 | .unb,_,x=>by exact x.elim
theorem fW:∀ {us:List U}{vs:List V},VUs (SD w mb mean xt nat nd lx ap) cx ρ us vs→VUs (SD w mb mean xt nat' nd' lx' ap) cx ρ us vs
 | [],_,x=>x
 | u::us,_,x=>by obtain ⟨v,r,e,a,b⟩:=x;exact ⟨v,r,e,xy a,fW b⟩
end
theorem pi {T:List Nat}:∀ {ts:List U}{r:List Nat}{k:Int},cK (SD w mb mean xt nat nd lx ap) T r k ts→cK (SD w mb mean xt nat' nd' lx ap) T r k ts
 | [],_,_,_=>trivial
 | _::_,_,_,⟨r',k',a,b,c⟩=>⟨r',k',a,b,pi c⟩
theorem Ee {b:MOb}{m:MO}(x:MU (SD w mb mean xt nat nd lx ap) cx ρ b m):MU (SD w mb mean xt nat' nd' lx ap) cx ρ b m:=by
 cases b with
 | inst c us=>obtain ⟨vs,e,n,y⟩:=x;exact ⟨vs,e,n,fW y⟩
 | lst us=>obtain ⟨vs,e,y⟩:=x;exact ⟨vs,e,fW y⟩
 | dic ks us=>obtain ⟨vs,e,y⟩:=x;exact ⟨vs,e,fW y⟩
 | dead=>exact x
 | vlex ts=>obtain ⟨r,k,e,a,b⟩:=x;exact ⟨r,k,e,a,pi b⟩
theorem qX (h:Inv (SD w mb mean xt nat nd lx ap) cx H₀ ρ o H):Inv (SD w mb mean xt nat' nd' lx ap) cx H₀ ρ o H:=⟨h.base,fun a ha=>let ⟨x,m,e,hm,mu,f⟩:=h.live a ha;⟨x,m,e,hm,Ee mu,f⟩,h.inj,h.dom,h.ids⟩
theorem yj {us:List U}{vs:List V}(h:VUs (SD w mb mean xt nat nd lx ap) cx ρ us vs):VUs (SD w mb mean xt nat' nd' lx ap) cx ρ us vs:=fW h
theorem t4 {ts us:List U}{o:O}{r:Rs}(h:lP ts us o=some r):us=[.ref (.o 1),.txt]∧o.objs=[.inst 4 [],.inst 2 []]∧r=.ok .none ⟨[.inst 4 [],.vlex ts],o.nt,o.tmp⟩ :=
 aJ h fun u q e0 h=>ax h fun z1 h=>aJ h fun v q2 e1 h=>ax h fun z2 h=>ax h fun z3 h=>aJ h fun p q3 e2 h=>gJ h fun a e3 h=>ax h fun z4 h=>aJ h fun x q4 e4 h=>gJ h fun b e5 h=>ax h fun z5 h=>ax h fun z6 h =>
 ⟨cq e0 (lX z1) (cq e1 (pq z2) (bY z3)),cq e2 (e3.trans (congrArg (MOb.inst 4) (bY z4))) (cq e4 (e5.trans (congrArg (MOb.inst 2) (bY z5))) (bY z6)),(Option.some.inj h).symm⟩
theorem qR (hb:Hb mb) (hT:cx.T.length<60000){ts:List U}(hL:cK (SD w mb mean xt nat nd lx ap) cx.T cx.T (1 - (cx.lam:Int)) ts){dd:Nat}(hd:11≤dd){b:Fn}(hbn:ft.get iA=some b)
  {us:List U}{vs:List V}{l:Loc}{Q:U→O→Prop}{r:Rs}(hx:XOK cx X XX H₀) (hI:Inv (SD w mb mean xt nat nd lx ap) cx H₀ ρ o H) (hv:VUs (SD w mb mean xt nat nd lx ap) cx ρ us vs) (hlen:us.length=b.ar)
  (hn:lP ts us o=some r) (hQ:cc X Q r):CL (SD w mb mean xt nat nd lx ap).W ⟨dd,XX⟩ l H ((SD w mb mean xt nat nd lx ap).fad iA) vs (PC (SD w mb mean xt nat nd lx ap) cx H₀ ρ Q):=by
 cb_eq;rcases t4 hn with ⟨rfl,ho,rfl⟩;have hQ':Q .none ⟨[.inst 4 [],.vlex ts],o.nt,o.tmp⟩:=hQ;rcases o with ⟨os,nt,tmp⟩;by_in
 dsimp only at ho
 subst ho;have C:=lH (S:=SD w mb mean xt gH 0 lx ap) (cx:=cx) (X:=X) (XX:=XX) gf (l9 hb) hT (fun ε ε =>j9 rfl) 9 dd hd iA b hbn H₀ ρ [.ref (.o 1),.txt] vs _ H l
  (fun u o'=>u=.none∧o'=⟨[.inst 4 [],.inst 2 [.txt,.pos cx.T (Int.neg cx.off) (.ofNat 0),.ln (Int.sub 1 (.ofNat cx.lam))]],nt,tmp⟩) hx (qX hI) (yj hv) hlen
  (show _∧_ from ⟨rfl,rfl⟩)
 refine CL.mono C fun v H' q=>?_;cb_eq;rcases q with ⟨u',o',ρ',le,vu,hI',rfl,rfl⟩;by_in;refine ⟨.none,_,ρ',le,xy vu,?_,hQ'⟩;have hI2:Inv (SD w mb mean xt nat nd lx ap) cx H₀ ρ' ⟨[.inst 4 [],.inst 2 [.txt,.pos cx.T (Int.neg cx.off) (.ofNat 0),.ln (Int.sub 1 (.ofNat cx.lam))]],nt,tmp⟩ H':=qX hI';have d1:(⟨[.inst 4 [],.inst 2 [.txt,.pos cx.T (Int.neg cx.off) (.ofNat 0),.ln (Int.sub 1 (.ofNat cx.lam))]],nt,tmp⟩:O).at (.o 1)≠.dead:=by intro z;cases z
 have e1:(⟨[.inst 4 [],.vlex ts],nt,tmp⟩:O)=(⟨[.inst 4 [],.inst 2 [.txt,.pos cx.T (Int.neg cx.off) (.ofNat 0),.ln (Int.sub 1 (.ofNat cx.lam))]],nt,tmp⟩:O).put (.o 1) (.vlex ts):=rfl;rw [e1];refine hI2.repl (fun a ha=>?_) (fun a=>iH) hI2.ids (fun a y ha e=>?_) hI2.base
 ·by_cases q:a=.o 1
  ·rw [q];exact d1
  ·rw [cf q] at ha;exact ha
 ·by_cases q:a=.o 1
  ·subst q;rw [ek d1];cb_eq;rcases hI2.get d1 e with ⟨m,hm,mu,_⟩;rcases mu with ⟨ms,rfl,_,hms⟩;rcases ae hms with ⟨a1,as,rfl,b1,hms⟩;rcases ae hms with ⟨a2,as,rfl,b2,hms⟩;rcases ae hms with ⟨a3,as,rfl,b3,hms⟩;by_in;obtain rfl:=am hms;obtain rfl:=cA b1;cb_eq;rcases bx b2 with ⟨_,c2,rfl⟩;by_in;obtain rfl:=cM b3;refine ⟨_,hm,cx.T,1 - (cx.lam:Int),?_,List.suffix_refl _,hL⟩;have c2':aT cx.T cx.T=cx.off+Int.neg cx.off:=c2;show MO.inst _ _ [_,V.int (cx.off+Int.neg cx.off+0),_]=MO.inst _ _ [_,V.int (aT cx.T cx.T),_];rw [c2',Int.add_zero];rfl
  ·rw [cf q] at ha ⊢;cb_eq;rcases hI2.get ha e with ⟨m',hm',mu',_⟩;by_in;exact ⟨m',hm',mu'⟩
end
theorem IFo {α : Type}{b:Bool}{x y:Option α}{r : α}(h:IF b x y=some r):(b=true∧x=some r)∨(b=false∧y=some r):=by
 cases b with
 | true=>exact .inl ⟨rfl,h⟩
 | false=>exact .inr ⟨rfl,h⟩
section
variable {w:World}{mb:Str→Option Value}{mean:ExcName→Option Value}{xt:Led}{nd:Nat}{lx:Lxs}{ap:Nat→V→Prop}{cx:Cx}{X:Nat→Prop}{XX:Nat→MH→Prop}{au:Nat→Option U}
theorem y6 (hb:Hb mb) (hT:cx.T.length<60000) (hap:ap=dU au) (hlx:∀ r k fs r' k',lx r k (.obj 1 fs) r' k'→fk au r k fs r' k'){dd:Nat}(hd:11≤dd):ig (SD w mb mean xt ff nd lx ap) cx X XX dd:=by
 intro f b hf H₀ ρ us vs o H l Q r hx hI hv hlen hn hQ;rcases IFo (show IF (fG f eZ) (i0 us o) none=some r from hn) with ⟨e,h⟩ | ⟨_,h⟩
 ·obtain rfl:=eI e;exact mO hb hT hap hlx hd hf hx hI hv hlen h hQ
 ·cases h
theorem y5 (hb:Hb mb) (hT:cx.T.length<60000) (hap:ap=dU au) (hlx:∀ r k fs r' k',lx r k (.obj 1 fs) r' k'→fk au r k fs r' k'){ts:List U}
  (hL:cK (SD w mb mean xt (jF ts) nd lx ap) cx.T cx.T (1 - (cx.lam:Int)) ts){dd:Nat}(hd:11≤dd):ig (SD w mb mean xt (jF ts) nd lx ap) cx X XX dd:=by
 intro f b hf H₀ ρ us vs o H l Q r hx hI hv hlen hn hQ;rcases IFo (show IF (fG f eZ) (i0 us o) (IF (fG f iA) (lP ts us o) none)=some r from hn) with ⟨e,h⟩ | ⟨_,h⟩
 ·obtain rfl:=eI e;exact mO hb hT hap hlx hd hf hx hI hv hlen h hQ
 ·rcases IFo h with ⟨e,h⟩ | ⟨_,h⟩
  ·obtain rfl:=eI e;exact qR hb hT hL hd hf hx hI hv hlen h hQ
  ·cases h
end
end Mine
end
end
section
open PySem PySem.W PySem.Calls PyProof.Rows Hd
noncomputable section
namespace Mine
noncomputable abbrev sq:=df
theorem zJ {n:Nat}{c d:Option Rs}{r:Rs}(h:cdK n c d=some r):(n=0∧c=some r)∨(n=2∧d=some r):=by
 rcases IFo (show IF (Nat.beq n 0) c (IF (Nat.beq n 2) d none)=some r from h) with ⟨e,h1⟩ | ⟨_,h1⟩
 ·exact .inl ⟨Nat.eq_of_beq_eq_true e,h1⟩
 ·rcases IFo h1 with ⟨e,h2⟩ | ⟨_,h2⟩
  ·exact .inr ⟨Nat.eq_of_beq_eq_true e,h2⟩
  ·cases h2
theorem wx {mk:List U}{tab:Bool→Int→U→Nat}{us:List U}{o:O}{r:Rs}(h:sx mk tab us o=some r):us=[.ref (.o 0)]∧∃ b d j f ts rs a,o.objs=sq mk b d j::.vlex (.any 9::.obj 1 f::ts)::rs∧2≤j∧af .dead rs (j - 2)=gj a∧o.tmp.get a=.lst []∧dS f f=true ∧
  ((tab b d (.obj 1 f)=2∧r=.fail 0)∨(tab b d (.obj 1 f)=0∧r=.ok (.any 0) ⟨sq f b d j::.vlex ts::rs,o.nt,o.tmp⟩)) :=
 aJ h fun u q e0 h=>ax h fun z1 h=>ax h fun z2 h=>aJ h fun p q2 e1 h=>qO h fun tk b d j e2 h=>ax h fun z3 h=>aJ h fun v rs e3 h=>oM h fun ts e4 h=>aJ h fun m ts' e5 h=>ax h fun z4 h=>aJ h fun f ts2 e6 h=>lM h fun f' e7 h =>
 ax h fun z5 h=>ax h fun z6 h=>qV h fun a e8 h=>ax h fun z7 h =>
 ⟨cq e0 (lX z1) (bY z2),b,d,j,f',ts2,rs,a,cq e1 (e2.trans (by rw [iJ z3])) (cq e3 (e4.trans (congrArg MOb.vlex (cq e5 (fL z4) (cq e6 e7 rfl)))) rfl),Nat.le_of_ble_eq_true z6,e8,uG z7,z5,
  (zJ h).elim (fun t=>.inr ⟨t.1,(Option.some.inj t.2).symm⟩) (fun t=>.inl ⟨t.1,(Option.some.inj t.2).symm⟩)⟩
theorem nj {b b':Bool}(h:IF b b' (Bool.not b')=true):b'=b:=by cases b<;>cases b'<;>first | rfl | cases h
theorem ra {b:Bool}{d:Int}{f:List U}{o:O}{n:Nat}(h:m9 b d f o=some n):n=0∧∃ rs,o.objs=sq f b d 2::.vlex [.any 8]::gj 0::rs∧o.tmp.get 0=.lst [] :=
 aJ h fun p q2 e0 h=>qO h fun tk b' d' j e1 h=>ax h fun z1 h=>ax h fun z2 h=>ax h fun z3 h=>ax h fun z4 h=>aJ h fun v q3 e2 h=>oM h fun ts e3 h=>ax h fun z5 h=>aJ h fun x rs e4 h=>qV h fun a e5 h=>ax h fun z6 h=>ax h fun z7 h =>
 ⟨(Option.some.inj h).symm,rs,cq e0 (e1.trans (by rw [iJ z1,nj z2,←cI z3,Nat.eq_of_beq_eq_true z4])) (cq e2 (e3.trans (congrArg MOb.vlex (iJ z5))) (cq e4 (e5.trans (congrArg gj (Nat.eq_of_beq_eq_true z6))) rfl)),uG z7⟩
theorem zR {b:Bool}{d:Int}{f:List U}{r:Rs}(h:nk b d f r=0):∃ u rs nt tmp,r=.ok u ⟨sq f b d 2::.vlex [.any 8]::gj 0::rs,nt,tmp⟩∧tmp.get 0=.lst []:=by
 cases r with
 | ok u o =>
  have h':@Option.rec Nat (fun ε =>Nat) 1 (fun n=>n) (m9 b d f o)=0:=h
  cases q:m9 b d f o with
  | none=>rw [q] at h';cases h'
  | some n =>
   cb_eq;rcases ra q with ⟨_,rs,e1,e2⟩;rcases o with ⟨os,nt,tmp⟩;by_in
   dsimp only at e1 e2
   subst e1;exact ⟨u,rs,nt,tmp,rfl,e2⟩
 | fail n=>exact absurd (show n+(n+2)=0 from h) (by omega)
 | out=>cases h
 | call _ _ _ _=>cases h
theorem uS {b:Bool}{d:Int}{f:List U}{r:Rs}(h:nk b d f r=2):r=.fail 0:=by
 cases r with
 | ok u o =>
  have h':@Option.rec Nat (fun ε =>Nat) 1 (fun n=>n) (m9 b d f o)=2:=h
  cases q:m9 b d f o with
  | none=>rw [q] at h';cases h'
  | some n =>
   rw [q] at h';obtain ⟨z,_⟩:=ra q;have h2:n=2:=h';rw [z] at h2;cases h2
 | fail n =>
  have h':n+(n+2)=2:=h;have:n=0:=by omega
  rw [this]
 | out=>cases h
 | call _ _ _ _=>cases h
theorem zQ {r:Rs}(h:gk r=0):∃ u o,r=.ok u o:=by
 cases r with
 | ok u o=>exact ⟨u,o,rfl⟩
 | fail n=>exact absurd (show n+(n+2)=0 from h) (by omega)
 | out=>cases h
 | call _ _ _ _=>cases h
theorem uR {r:Rs}{n:Nat}(h:gk r=n+(n+2)):r=.fail n:=by
 cases r with
 | ok u o=>exact absurd (show 0=n+(n+2) from h) (by omega)
 | fail m =>
  have h':m+(m+2)=n+(n+2):=h;have:m=n:=by omega
  rw [this]
 | out=>exact absurd (show 1=n+(n+2) from h) (by omega)
 | call _ _ _ _=>exact absurd (show 1=n+(n+2) from h) (by omega)
theorem oH {S S':Sd}{cx cx':Cx}{ρ ρ':Rh}(ha:S'.ap=S.ap) (hl:cx'.lam=cx.lam):∀ {us:List U}{vs:List V},dS us us=true→VUs S cx ρ us vs→VUs S' cx' ρ' us vs
 | [],_,_,x=>by rw [am x];exact aH
 | u::us,_,h,x=>by
  cb_eq;rcases ai (show IF (dT u u) (dS us us) false=true from h) with ⟨h1,h2⟩;rcases ae x with ⟨v,r,rfl,x1,x2⟩;by_in;exact aq (mz ha hl (jU h1).1 x1) (oH ha hl h2 x2)
noncomputable def cJ (au:Nat→Option U):List Nat→Int→List (List U)→List Nat→Int→Prop
 | r,k,[],r',k'=>r'=r∧k'=k
 | r,k,t::ts,r',k'=>∃ r₁ k₁,fk au r k t r₁ k₁∧cJ au r₁ k₁ ts r' k'
noncomputable def lxS (au:Nat→Option U) (R:List Nat→Int→Prop):Lxs:=fun r k t r' k'=>match t with
 | .obj 1 fs=>fk au r k fs r' k'
 | .any 8=>r'=r∧k'=k∧R r k
 | _=>False
section
variable {w:World}{mb:Str→Option Value}{mean:ExcName→Option Value}{xt:Led}{nat nat':Nt}{nd nd':Nat}{lx lx':Lxs}{ap:Nat→V→Prop}{cx:Cx}{X:Nat→Prop}{XX:Nat→MH→Prop}{H₀ H:MH}{ρ : Rh}{o:O}{au:Nat→Option U}
theorem nQ {nat:Nt}{nd:Nat}{R:List Nat→Int→Prop}{T:List Nat}{us:List U}:∀ {ts:List (List U)}{r:List Nat}{k:Int}{r':List Nat}{k':Int},r<:+T→cJ au r k ts r' k' →
  (r'<:+T→cK (SD w mb mean xt nat nd (lxS au R) ap) T r' k' us)→cK (SD w mb mean xt nat nd (lxS au R) ap) T r k (ts.map (U.obj 1)++us)
 | [],r,k,r',k',hr,h,hu=>by obtain ⟨rfl,rfl⟩:=h;exact hu hr
 | t::ts,r,k,r',k',hr,h,hu=>by
  cb_eq;rcases h with ⟨r₁,k₁,h1,h2⟩;by_in;have hr1:r₁<:+T:=h1.1.trans hr;exact ⟨r₁,k₁,h1,hr1,nQ hr1 h2 hu⟩
theorem rb (hb:Hb mb) (hT:cx.T.length<60000) (hap:ap=dU au) (hlx:∀ r k fs r' k',lx r k (.obj 1 fs) r' k'→fk au r k fs r' k'){t0:List U}{bb:Bool}{d:Int}{ts:List U}
  {dd:Nat}(hd:92≤dd){b:Fn}(hbn:ft.get f5=some b){H1:MH}{ρ1:Rh}{x0:Addr}{l:Loc}{Q':U→O→Prop}(hlen:[U.ref (.o 0)].length=b.ar) (hx1:XOK cx X XX H1) (hI1:Inv (SD w mb mean xt ff 20 lx ap) cx H1 ρ1 (wT t0 bb d ts) H) (hρ : ρ1 (.o 0)=some x0)
  {rr:Rs}(hrun:na cx t0 bb d ts=rr) (hQ':cc X Q' rr):CL (SD w mb mean xt ff 20 lx ap).W ⟨dd,XX⟩ l H ((SD w mb mean xt ff 20 lx ap).fad f5) [.ref x0] (PC (SD w mb mean xt ff 20 lx ap) cx H1 ρ1 Q') :=
 lH (S:=SD w mb mean xt ff 20 lx ap) (cx:=cx) (X:=X) (XX:=XX) gf (l9 hb) hT (fun dd h=>y6 (au:=au) hb hT hap hlx (by have:20+2≤dd:=h;omega)) 90 dd hd f5 b hbn H1 ρ1 [.ref (.o 0)] [.ref x0] _ H l
  Q' hx1 hI1 (aq (dp hρ) aH) hlen (gE (S:=SD w mb mean xt ff 20 lx ap) (ks:=[]) (m:=4000) (by
   show cc X _ (na cx t0 bb d ts);rw [hrun];exact hQ'))
noncomputable def o4 (S:Sd) (x1:Addr) (v:V) (b:Bool) (d:Int) (x2:Addr):MO:=.inst (S.cad 4) (dK S 4 7) [.ref x1,v,.none,.bool b,.int d,.ref x2,.lst []]
noncomputable def pp (S:Sd) (x3:Addr):MO:=.inst (S.cad 3) (dK S 3 3) [.ref x3,.int 0,.int 0]
section
variable {S:Sd}
theorem t5 {tk:List U}{b:Bool}{d:Int}{j:Nat}{m:MO}(x:MU S cx ρ (df tk b d j) m):∃ x1 x2 v,ρ (.o 1)=some x1∧ρ (.o j)=some x2∧VU S cx ρ (.obj 1 tk) v∧m=o4 S x1 v b d x2:=by
 cb_eq;rcases x with ⟨ms,e,_,h0⟩;rcases ae h0 with ⟨p1,a1,e1,b1,h1⟩;rcases ae h1 with ⟨p2,a2,e2,b2,h2⟩;rcases ae h2 with ⟨p3,a3,e3,b3,h3⟩;rcases ae h3 with ⟨p4,a4,e4,b4,h4⟩;rcases ae h4 with ⟨p5,a5,e5,b5,h5⟩;rcases ae h5 with ⟨p6,a6,e6,b6,h6⟩;rcases ae h6 with ⟨p7,a7,e7,b7,h7⟩;rcases aC b1 with ⟨x1,r1,f1⟩;rcases aC b6 with ⟨x2,r2,f2⟩;rcases bH b7 with ⟨w,f7,b8⟩;by_in;refine ⟨x1,x2,p2,r1,r2,b2,?_⟩;rw [e,e1,e2,e3,e4,e5,e6,e7,am h7,f1,dg b3,bR b4,ao b5,f2,f7,am b8];rfl
theorem nN {tk:List U}{b:Bool}{d:Int}{j:Nat}{x1 x2:Addr}{v:V}(h1 : ρ (.o 1)=some x1) (h2 : ρ (.o j)=some x2) (hv:VU S cx ρ (.obj 1 tk) v):MU S cx ρ (df tk b d j) (o4 S x1 v b d x2) :=
 ⟨_,rfl,Nat.le_of_ble_eq_true rfl,aq (dp h1) (aq hv (aq (rfl) (aq (rfl) (aq (rfl) (aq (dp h2) (aq (fX aH) aH))))))⟩
theorem t6 {a:Nat}{m:MO}(x:MU S cx ρ (gj a) m):∃ x3,ρ (.t a)=some x3∧m=pp S x3:=by
 cb_eq;rcases x with ⟨ms,e,_,h0⟩;rcases ae h0 with ⟨p1,a1,e1,b1,h1⟩;rcases ae h1 with ⟨p2,a2,e2,b2,h2⟩;rcases ae h2 with ⟨p3,a3,e3,b3,h3⟩;rcases aC b1 with ⟨x3,r3,f3⟩;by_in;refine ⟨x3,r3,?_⟩;rw [e,e1,e2,e3,am h3,f3,ao b2,ao b3];rfl
theorem nO {a:Nat}{x3:Addr}(h : ρ (.t a)=some x3):MU S cx ρ (gj a) (pp S x3) :=
 ⟨_,rfl,Nat.le_of_ble_eq_true rfl,aq (dp h) (aq (rfl) (aq (rfl) aH))⟩
theorem t7 {m:MO}(x:MU S cx ρ (.lst []) m):m=.list []:=by
 obtain ⟨ms,e,h⟩:=x;rw [e,am h]
structure Pl where
 a:Addr
 b:Addr
 c:Addr
 d:Addr
noncomputable def Pl.has (p:Pl) (y:Addr):Prop:=y=p.a∨y=p.b∨y=p.c∨y=p.d
structure Pl.Ok (p:Pl):Prop where
 ab:p.a≠p.b
 ac:p.a≠p.c
 ad:p.a≠p.d
 bc:p.b≠p.c
 bd:p.b≠p.d
 cd:p.c≠p.d
noncomputable def ly (H:MH) (p:Pl):MH:=fun y=>open Classical in if p.has y then none else H y
noncomputable def kZ (p:Pl):Rh:=fun a=>match a with | .o 0=>some p.a | .o 1=>some p.b | .o 2=>some p.c | .t 0=>some p.d | _=>none
theorem zK {p:Pl}{y:Addr}{m:MO}(h:ly H p y=some m):H y=some m:=by
 unfold ly at h
 split at h
 ·cases h
 ·exact h
theorem rh {p:Pl}{y:Addr}(h:¬p.has y):ly H p y=H y:=if_neg h
theorem kt {p:Pl}{y:Addr}(h:p.has y):ly H p y=none:=if_pos h
theorem wl {p:Pl}(k:p.Ok){y:Addr}:∀ a a',kZ p a=some y→kZ p a'=some y→a=a'
 | .o 0,.o 0,_,_=>rfl
 | .o 1,.o 1,_,_=>rfl
 | .o 2,.o 2,_,_=>rfl
 | .t 0,.t 0,_,_=>rfl
 | .o 0,.o 1,e,f=>absurd ((Option.some.inj e).trans (Option.some.inj f).symm) k.ab
 | .o 0,.o 2,e,f=>absurd ((Option.some.inj e).trans (Option.some.inj f).symm) k.ac
 | .o 0,.t 0,e,f=>absurd ((Option.some.inj e).trans (Option.some.inj f).symm) k.ad
 | .o 1,.o 2,e,f=>absurd ((Option.some.inj e).trans (Option.some.inj f).symm) k.bc
 | .o 1,.t 0,e,f=>absurd ((Option.some.inj e).trans (Option.some.inj f).symm) k.bd
 | .o 2,.t 0,e,f=>absurd ((Option.some.inj e).trans (Option.some.inj f).symm) k.cd
 | .o 1,.o 0,f,e=>absurd ((Option.some.inj e).trans (Option.some.inj f).symm) k.ab
 | .o 2,.o 0,f,e=>absurd ((Option.some.inj e).trans (Option.some.inj f).symm) k.ac
 | .t 0,.o 0,f,e=>absurd ((Option.some.inj e).trans (Option.some.inj f).symm) k.ad
 | .o 2,.o 1,f,e=>absurd ((Option.some.inj e).trans (Option.some.inj f).symm) k.bc
 | .t 0,.o 1,f,e=>absurd ((Option.some.inj e).trans (Option.some.inj f).symm) k.bd
 | .t 0,.o 2,f,e=>absurd ((Option.some.inj e).trans (Option.some.inj f).symm) k.cd
 | .o (_+3),_,e,_=>nomatch e
 | .t (_+1),_,e,_=>nomatch e
 | _,.o (_+3),_,e=>nomatch e
 | _,.t (_+1),_,e=>nomatch e
theorem vY {p:Pl}(k:p.Ok){t0 ts:List U}{v:V}{b:Bool}{d:Int}{m1:MO}(h0:H p.a=some (o4 S p.b v b d p.c)) (hv:VU S cx (kZ p) (.obj 1 t0) v) (h1:H p.b=some m1) (u1:MU S cx (kZ p) (.vlex ts) m1) (h2:H p.c=some (pp S p.d)) (h3:H p.d=some (.list [])) :
  Inv S cx (ly H p) (kZ p) (wT t0 b d ts) H where
 base:=fun ε ε e=>zK e
 live:=fun a ha=>match a,ha with
  | .o 0,_=>⟨p.a,_,rfl,h0,nN rfl rfl hv,kt (.inl rfl)⟩
  | .o 1,_=>⟨p.b,m1,rfl,h1,u1,kt (.inr (.inl rfl))⟩
  | .o 2,_=>⟨p.c,_,rfl,h2,nO rfl,kt (.inr (.inr (.inl rfl)))⟩
  | .o (_+3),h=>absurd rfl h
  | .t 0,_=>⟨p.d,_,rfl,h3,⟨[],rfl,aH⟩,kt (.inr (.inr (.inr rfl)))⟩
  | .t (_+1),h=>absurd rfl h
 inj:=fun a a' y ε ε e f=>wl k a a' e f
 dom:=fun a y e=>match a,e with
  | .o 0,_=>Nat.lt_of_sub_eq_succ rfl
  | .o 1,_=>Nat.lt_of_sub_eq_succ rfl
  | .o 2,_=>Nat.lt_of_sub_eq_succ rfl
  | .o (_+3),e=>nomatch e
  | .t 0,_=>Nat.zero_lt_one
  | .t (_+1),e=>nomatch e
 ids:=⟨Nat.le_refl 0,Nat.le_refl 1⟩
structure Du (S:Sd) (cx:Cx) (ρ':Rh) (H H':MH) (p:Pl) (f:List U) (b:Bool) (d:Int) (v1:V) (r:List Nat) (k:Int):Prop where
 h0:H' p.a=some (o4 S p.b v1 b d p.c)
 v0:VU S cx ρ' (.obj 1 f) v1
 h1:H' p.b=some (.inst (S.cad 2) (dK S 2 3) [.str (SS cx.T),.int (aT cx.T r),.int ((cx.lam:Int)+k)])
 hr:r<:+cx.T
 hL:cK S cx.T r k [.any 8]
 h2:H' p.c=some (pp S p.d)
 h3:H' p.d=some (.list [])
 hk:∀ y m,H y=some m→¬p.has y→H' y=some m
theorem tS {p:Pl}{f:List U}{b:Bool}{d:Int}{rs:List MOb}{nt:Nat}{tmp:TL}{H':MH}{ρ':Rh}(le:Rle (kZ p) ρ') (hI:Inv S cx (ly H p) ρ' ⟨df f b d 2::.vlex [.any 8]::gj 0::rs,nt,tmp⟩ H') (ht:tmp.get 0=.lst []) :
  ∃ v1 r k,Du S cx ρ' H H' p f b d v1 r k:=by
 have g0 : ρ' (.o 0)=some p.a:=le _ _ rfl;have g1 : ρ' (.o 1)=some p.b:=le _ _ rfl;have g2 : ρ' (.o 2)=some p.c:=le _ _ rfl;have g3 : ρ' (.t 0)=some p.d:=le _ _ rfl;obtain ⟨m0,hm0,mu0,_⟩:=hI.get (a:=.o 0) (by intro z;cases z) g0;obtain ⟨m1,hm1,mu1,_⟩:=hI.get (a:=.o 1) (by intro z;cases z) g1;obtain ⟨m2,hm2,mu2,_⟩:=hI.get (a:=.o 2) (by intro z;cases z) g2;have ht':(⟨df f b d 2::.vlex [.any 8]::gj 0::rs,nt,tmp⟩:O).at (.t 0)=.lst []:=ht;obtain ⟨m3,hm3,mu3,_⟩:=hI.get (a:=.t 0) (by rw [ht'];intro z;cases z) g3;rw [ht'] at mu3;cb_eq;rcases t5 mu0 with ⟨x1,x2,v,e1,e2,hv,e3⟩;rcases t6 mu2 with ⟨x3,e4,e5⟩;rcases mu1 with ⟨r,k,e6,hr,hL⟩;by_in;refine ⟨v,r,k,?_,hv,by rw [hm1,e6],hr,hL,?_,by rw [hm3,t7 mu3],fun y m e n=>hI.base y m (by rw [rh n];exact e)⟩
 ·rw [hm0,e3,←Option.some.inj (g1.symm.trans e1),←Option.some.inj (g2.symm.trans e2)]
 ·rw [hm2,e5,←Option.some.inj (g3.symm.trans e4)]
end
theorem wS {S:Sd}(hI:Inv S cx H₀ ρ o H){mk f:List U}{b:Bool}{d:Int}{j a:Nat}{m t:U}{ts:List U}{rs:List MOb}(ho:o.objs=df mk b d j::.vlex (m::t::ts)::rs) (at2:o.at (.o j)=gj a) (at3:o.at (.t a)=.lst []){p:Pl}
  (e0 : ρ (.o 0)=some p.a) (e1 : ρ (.o 1)=some p.b) (e2 : ρ (.o j)=some p.c) (e3 : ρ (.t a)=some p.d) (fr:∀ y m,H₀ y=some m→¬p.has y){H':MH}{v1:V}{r:List Nat}{k:Int}
  (h0:H' p.a=some (o4 S p.b v1 b d p.c)) (v0:VU S cx ρ (.obj 1 f) v1) (h1:H' p.b=some (.inst (S.cad 2) (dK S 2 3) [.str (SS cx.T),.int (aT cx.T r),.int ((cx.lam:Int)+k)])) (hr:r<:+cx.T) (hL:cK S cx.T r k ts)
  (h2:H' p.c=some (pp S p.d)) (h3:H' p.d=some (.list [])) (hk:∀ y m,H y=some m→¬p.has y→H' y=some m):Inv S cx H₀ ρ ⟨df f b d j::.vlex ts::rs,o.nt,o.tmp⟩ H':=by
 have d0:o.at (.o 0)≠.dead:=by show af .dead o.objs 0≠_;rw [ho];intro z;cases z
 have d1:o.at (.o 1)≠.dead:=by show af .dead o.objs 1≠_;rw [ho];intro z;cases z
 have d2:o.at (.o j)≠.dead:=by rw [at2];intro z;cases z
 have d3:o.at (.t a)≠.dead:=by rw [at3];intro z;cases z
 have eo:(⟨df f b d j::.vlex ts::rs,o.nt,o.tmp⟩:O)=(o.put (.o 0) (df f b d j)).put (.o 1) (.vlex ts):=by
  show _=(⟨a9 (a9 o.objs 0 (df f b d j)) 1 (.vlex ts),o.nt,o.tmp⟩:O);rw [ho];rfl
 have t1:((o.put (.o 0) (df f b d j)).put (.o 1) (.vlex ts)).at (.o 1)=.vlex ts:=ek (by rw [cf (by intro z;cases z)];exact d1);have t0:((o.put (.o 0) (df f b d j)).put (.o 1) (.vlex ts)).at (.o 0)=df f b d j:=by rw [cf (by intro z;cases z)];exact ek d0
 have tn:∀ c,c≠.o 0→c≠.o 1→((o.put (.o 0) (df f b d j)).put (.o 1) (.vlex ts)).at c=o.at c:=fun c a b=>by rw [cf b,cf a]
 rw [eo];refine hI.repl (fun c hc=>?_) (fun c h=>iH (iH h)) hI.ids (fun c y hc e=>?_) (fun y m e=>hk y m (hI.base y m e) (fr y m e))
 ·by_cases q0:c=.o 0
  ·rw [q0];exact d0
  ·by_cases q1:c=.o 1
   ·rw [q1];exact d1
   ·rw [tn c q0 q1] at hc;exact hc
 ·by_cases q0:c=.o 0
  ·rw [q0] at e ⊢;rw [t0,←Option.some.inj (e0.symm.trans e)];exact ⟨_,h0,nN e1 e2 v0⟩
  ·by_cases q1:c=.o 1
   ·rw [q1] at e ⊢;rw [t1,←Option.some.inj (e1.symm.trans e)];exact ⟨_,h1,r,k,rfl,hr,hL⟩
   ·rw [tn c q0 q1] at hc ⊢
    by_cases q2:c=.o j
    ·rw [q2] at e ⊢;rw [at2,←Option.some.inj (e2.symm.trans e)];exact ⟨_,h2,nO e3⟩
    ·by_cases q3:c=.t a
     ·rw [q3] at e ⊢;rw [at3,←Option.some.inj (e3.symm.trans e)];exact ⟨_,h3,[],rfl,aH⟩
     ·cb_eq;rcases hI.get hc e with ⟨m',hm',mu',_⟩;by_in;refine ⟨m',hk y m' hm' ?_,mu'⟩;rintro (z | z | z | z)
      ·exact q0 (hI.inj c _ p.a hc d0 (by rw [e,z]) e0)
      ·exact q1 (hI.inj c _ p.b hc d1 (by rw [e,z]) e1)
      ·exact q2 (hI.inj c _ p.c hc d2 (by rw [e,z]) e2)
      ·exact q3 (hI.inj c _ p.d hc d3 (by rw [e,z]) e3)
theorem qD {au:Nat→Option U}:∀ {us ts:List U},stL au us ts=true→us.length=ts.length
 | [],[],_=>rfl
 | [],_::_,h=>by cases h
 | _::_,[],h=>by cases h
 | a::r,b::s,h=>congrArg Nat.succ (qD (ai (show IF (stB au a b) (stL au r s) false=true from h)).2)
theorem CO (hb:Hb mb) (hT:cx.T.length<60000) (hap:ap=dU au) (h0:au 0=none){mk t0:List U}{rest:List (List U)}{tab:Bool→Int→U→Nat}
  (hlx:∀ r k fs r' k',lx r k (.obj 1 fs) r' k'→fk au r k fs r' k') (hlx9:∀ r k r' k',lx r k (.any 9) r' k'→cJ au r k rest r' k') (hst:stL au mk t0=true)
  (helt:∀ b d f n,tab b d (.obj 1 f)=n→n=0∨n=2→∀ cx,nk b d f (na cx t0 b d (rest.map (U.obj 1)++[.obj 1 f,.any 8]))=n)
  {dd:Nat}(hd:92≤dd){b:Fn}(hbn:ft.get f5=some b)
  {us:List U}{vs:List V}{l:Loc}{Q:U→O→Prop}{r:Rs}(hx:XOK cx X XX H₀) (hI:Inv (SD w mb mean xt nat nd lx ap) cx H₀ ρ o H) (hv:VUs (SD w mb mean xt nat nd lx ap) cx ρ us vs) (hlen:us.length=b.ar)
  (hn:sx mk tab us o=some r) (hQ:cc X Q r):CL (SD w mb mean xt nat nd lx ap).W ⟨dd,XX⟩ l H ((SD w mb mean xt nat nd lx ap).fad f5) vs (PC (SD w mb mean xt nat nd lx ap) cx H₀ ρ Q):=by
 cb_eq;rcases wx hn with ⟨rfl,bb,d,j,f,ts,rs,a,ho,hj2,hjo,hao,hff,hr⟩;by_in;have at0:o.at (.o 0)=df mk bb d j:=by show af .dead o.objs 0=_;rw [ho];rfl
 have at1:o.at (.o 1)=.vlex (.any 9::.obj 1 f::ts):=by show af .dead o.objs 1=_;rw [ho];rfl
 have at2:o.at (.o j)=gj a:=by
  obtain ⟨i,rfl⟩:∃ i,j=i+2:=⟨j - 2,by omega⟩;show af .dead o.objs (i+2)=_;rw [ho];exact hjo
 have at3:o.at (.t a)=.lst []:=hao;have d0:o.at (.o 0)≠.dead:=by rw [at0];intro z;cases z
 have d1:o.at (.o 1)≠.dead:=by rw [at1];intro z;cases z
 have d2:o.at (.o j)≠.dead:=by rw [at2];intro z;cases z
 have d3:o.at (.t a)≠.dead:=by rw [at3];intro z;cases z
 cb_eq;rcases hI.live _ d0 with ⟨x0,m0,e0,hm0,mu0,f0⟩;rcases hI.live _ d1 with ⟨x1,m1,e1,hm1,mu1,f1⟩;rcases hI.live _ d2 with ⟨x2,m2,e2,hm2,mu2,f2⟩;rcases hI.live _ d3 with ⟨x3,m3,e3,hm3,mu3,f3⟩;by_in;have k:(⟨x0,x1,x2,x3⟩:Pl).Ok:=⟨fun z=>(nomatch hI.inj _ _ x0 d0 d1 e0 (e1.trans (congrArg some (Eq.symm z)))),fun z=>(by have:=hI.inj _ _ x0 d0 d2 e0 (e2.trans (congrArg some (Eq.symm z)));cases this;omega),fun z=>(nomatch hI.inj _ _ x0 d0 d3 e0 (e3.trans (congrArg some (Eq.symm z)))),
  fun z=>(by have:=hI.inj _ _ x1 d1 d2 e1 (e2.trans (congrArg some (Eq.symm z)));cases this;omega),fun z=>(nomatch hI.inj _ _ x1 d1 d3 e1 (e3.trans (congrArg some (Eq.symm z)))),fun z=>(nomatch hI.inj _ _ x2 d2 d3 e2 (e3.trans (congrArg some (Eq.symm z))))⟩
 have fr:∀ y m,H₀ y=some m→¬(⟨x0,x1,x2,x3⟩:Pl).has y:=fun y m e z=>by
  rcases z with z | z | z | z
  ·rw [z,f0] at e;cases e
  ·rw [z,f1] at e;cases e
  ·rw [z,f2] at e;cases e
  ·rw [z,f3] at e;cases e
 clear f0 f1 f2 f3 d0 d1 d2 d3
 rw [at0] at mu0;rw [at1] at mu1;rw [at2] at mu2;rw [at3] at mu3;cb_eq;rcases t5 mu0 with ⟨y1,y2,v,g1,g2,hv0,em0⟩;rcases t6 mu2 with ⟨y3,g3,em2⟩;by_in;rw [em0,←Option.some.inj (e1.symm.trans g1),←Option.some.inj (e2.symm.trans g2)] at hm0;rw [em2,←Option.some.inj (e3.symm.trans g3)] at hm2;rw [t7 mu3] at hm3
 clear mu0 mu2 mu3 em0 em2 g1 g2 g3
 cb_eq;rcases ae hv with ⟨w0,vr,ew,hv1,hv2⟩;rcases aC hv1 with ⟨z0,hz0,ez0⟩;by_in;have evs:vs=[.ref x0]:=by rw [ew,ez0,am hv2,←Option.some.inj (e0.symm.trans hz0)]
 clear hv hv1 hv2 hz0 ez0 ew
 subst evs;cb_eq;rcases mu1 with ⟨r,k',em1,hr',r1,k1,hl9,hr1,r2,k2,hlf,hr2,hLts⟩;by_in
 generalize hR:(fun (r:List Nat) (k:Int)=>r<:+cx.T∧cK (SD w mb mean xt nat nd lx ap) cx.T r k ts)=R
 have lex1:cK (SD w mb mean xt ff 20 (lxS au R) ap) cx.T r k' (rest.map (U.obj 1)++[.obj 1 f,.any 8]):=nQ hr' (hlx9 _ _ _ _ hl9) fun ε =>⟨r2,k2,hlx _ _ _ _ _ hlf,hr2,⟨r2,k2,⟨rfl,rfl,by rw [←hR];exact ⟨hr2,hLts⟩⟩,hr2,trivial⟩⟩;have vt0:VU (SD w mb mean xt ff 20 (lxS au R) ap) cx (kZ ⟨x0,x1,x2,x3⟩) (.obj 1 t0) v:=by
  cb_eq;rcases eJ hv0 with ⟨vs',ev,hl',hvs'⟩;by_in;have el:=qD hst;refine Exists.intro vs' ⟨by rw [←el];exact ev,by rw [←el];exact hl',?_⟩;exact tF (S:=SD w mb mean xt nat nd lx ap) (S':=SD w mb mean xt ff 20 (lxS au R) ap) (cx:=cx) (cx':=cx) (gf (w:=w) (mb:=mb) (mean:=mean) (xt:=xt) (nat:=nat) (nd:=nd) (lx:=lx) (ap:=ap)).toDcts hap rfl h0 rfl hst hvs'
 have hI1:=vY (S:=SD w mb mean xt ff 20 (lxS au R) ap) (cx:=cx) k hm0 vt0 hm1 ⟨r,k',em1,hr',lex1⟩ hm2 hm3
 clear vt0 lex1 hv0
 have hx1:XOK cx X XX (ly H ⟨x0,x1,x2,x3⟩):=fun k H' hk hH=>hx k H' hk fun y m e=>hH y m (by rw [rh (fr y m e)];exact hI.base y m e);rcases hr with ⟨ht,rfl⟩ | ⟨ht,rfl⟩
 ·have hrun:=uS (helt bb d f 2 ht (.inr rfl) cx);exact CL.mono (rb (au:=au) (Q':=fun ε ε =>False) hb hT hap (fun ε ε ε ε ε h=>h) hd hbn hlen hx1 hI1 rfl hrun hQ) fun v H' q=>q.el fun ε ε ε ε ε ε z=>z.elim
 ·cb_eq;rcases zR (helt bb d f 0 ht (.inl rfl) cx) with ⟨u,rs',nt',tmp',hrun,htmp⟩;by_in;have hQ':Q (.any 0) ⟨df f bb d j::.vlex ts::rs,o.nt,o.tmp⟩:=hQ;refine CL.mono (rb (au:=au) (Q':=fun u' o'=>u'=u∧o'=⟨df f bb d 2::.vlex [.any 8]::gj 0::rs',nt',tmp'⟩) hb hT hap (fun ε ε ε ε ε h=>h) hd hbn hlen hx1 hI1 rfl hrun ⟨rfl,rfl⟩) fun v H' q=>q.el fun u' o' ρ' le vu hI' q2=>?_
  clear hx1 hI1 hx hrun helt
  rw [q2.2] at hI';cb_eq;rcases tS le hI' htmp with ⟨v1,r3,k3,q⟩;rcases q.hL with ⟨r4,k4,⟨_,_,hLR⟩,_,_⟩;by_in;rw [←hR] at hLR;refine ⟨.any 0,_,ρ,Rle.refl ρ,?_,wS hI ho at2 at3 e0 e1 e2 e3 fr q.h0 ?_ q.h1 hLR.1 hLR.2 q.h2 q.h3 q.hk,hQ'⟩
  ·refine And.intro (f4 (gf (w:=w) (mb:=mb) (mean:=mean) (xt:=xt) (nat:=ff) (nd:=20) (lx:=lxS au R) (ap:=ap)).toDcts vu) ?_;show ap 0 v;rw [hap];intro w' hw';rw [h0] at hw';cases hw'
  ·cb_eq;rcases eJ q.v0 with ⟨vs',ev,hl',hvs'⟩;by_in;exact Exists.intro vs' ⟨ev,hl',oH (S:=SD w mb mean xt ff 20 (lxS au R) ap) (S':=SD w mb mean xt nat nd lx ap) rfl rfl hff hvs'⟩
end
end Mine
end
end
section
open PySem PySem.W PySem.Calls PyProof.Rows Hd
noncomputable section
namespace Mine
noncomputable def lxT (au:Nat→Option U):Lxs:=fun r k t r' k'=>match t with
 | .obj 1 fs=>fk au r k fs r' k'
 | _=>False
noncomputable def lxC (au:Nat→Option U) (rest:List (List U)):Lxs:=fun r k t r' k'=>match t with
 | .obj 1 fs=>fk au r k fs r' k'
 | .any 9=>cJ au r k rest r' k'
 | _=>False
noncomputable def au0:Nat→Option U:=fun ε =>none
section
variable {w:World}{mb:Str→Option Value}{mean:ExcName→Option Value}{xt:Led}{nat:Nt}{nd:Nat}{lx:Lxs}{ap:Nat→V→Prop}{cx:Cx}{X:Nat→Prop}{XX:Nat→MH→Prop}{au:Nat→Option U}{H:MH}{l:Loc}
theorem y7 (hb:Hb mb) (hT:cx.T.length<60000) (h0:au 0=none){mk t0:List U}{rest:List (List U)}{tab:Bool→Int→U→Nat}(hst:stL au mk t0=true)
  (helt:∀ b d f n,tab b d (.obj 1 f)=n→n=0∨n=2→∀ cx,nk b d f (na cx t0 b d (rest.map (U.obj 1)++[.obj 1 f,.any 8]))=n){ts:List U}
  (hL:cK (SD w mb mean xt (mP mk tab ts) 100 (lxC au rest) (dU au)) cx.T cx.T (1 - (cx.lam:Int)) ts){dd:Nat}(hd:92≤dd):ig (SD w mb mean xt (mP mk tab ts) 100 (lxC au rest) (dU au)) cx X XX dd:=by
 intro f b hf H₀ ρ us vs o H l Q r hx hI hv hlen hn hQ;rcases IFo (show IF (fG f f5) (sx mk tab us o) (jF ts f us o)=some r from hn) with ⟨e,h⟩ | ⟨_,h⟩
 ·obtain rfl:=eI e;exact CO (au:=au) hb hT rfl h0 (fun ε ε ε ε ε h=>h) (fun ε ε ε ε h=>h) hst helt hd hf hx hI hv hlen h hQ
 ·rcases IFo (show IF (fG f eZ) (i0 us o) (IF (fG f iA) (lP ts us o) none)=some r from h) with ⟨e,h2⟩ | ⟨_,h2⟩
  ·obtain rfl:=eI e;exact mO (au:=au) hb hT rfl (fun ε ε ε ε ε h=>h) (by omega) hf hx hI hv hlen h2 hQ
  ·rcases IFo h2 with ⟨e,h3⟩ | ⟨_,h3⟩
   ·obtain rfl:=eI e;exact qR hb hT hL (by omega) hf hx hI hv hlen h3 hQ
   ·cases h3
theorem wo (hb:Hb mb) (hT:cx.T.length<60000) (hNat:∀ dd,nd+2≤dd→ig (SD w mb mean xt nat nd lx ap) cx X XX dd){ok:Prop}{r:Rs}(hr:cX cx nat nd=r) (he:cc X (fun ε ε =>ok) r){dd:Nat}(hd:252≤dd)
  (hx:XOK cx X XX H):CL (W0 w mb mean xt) ⟨dd,XX⟩ l H 1212 [.str (SS cx.T)] (fun ε H'=>ok∧∀ b y,H b=some y→H' b=some y):=by
 obtain ⟨b,hbn,har⟩:∃ b,ft.get mI=some b∧1=b.ar:=⟨_,rfl,rfl⟩;have C:=lH (S:=SD w mb mean xt nat nd lx ap) (cx:=cx) (X:=X) (XX:=XX) gf (l9 hb) hT hNat 250 dd hd mI b hbn H (fun ε =>none) [.txt] [.str (SS cx.T)] ⟨[],0,.nil⟩ H l (fun ε ε =>ok) hx
  ⟨fun ε ε e=>e,fun a ha=>absurd (by cases a<;>rfl) ha,fun ε ε ε ε ε e=>(by cases e),fun ε ε e=>(by cases e),Nat.le_refl 0⟩ (aq (rfl) aH) har
  (gE (S:=SD w mb mean xt nat nd lx ap) (ks:=[]) (m:=6000) (by
   show cc X _ (cX cx nat nd);rw [hr];exact he))
 refine CL.mono C fun v H' q=>?_;cb_eq;rcases q with ⟨u,o',ρ',le,vu,hI,hok⟩;by_in;exact ⟨hok,hI.base⟩
theorem DB:iu (W0 w mb mean xt) 1247 ["text"] (fU (fT 110)) (ef (fT 110)):=by
 have h:=gA (W:=W0 w mb mean xt) (a:=1247) (names:=["text"]) (by kernel_rfl);rw [show c8 (W0 w mb mean xt).K 1247=fU (fT 110) by kernel_rfl,show cV (W0 w mb mean xt).K 1247=ef (fT 110) by kernel_rfl] at h;exact h
theorem dM {x:String}{a:Addr}(h:eO (gl w.params x) a=true):(W0 w mb mean xt).mg (Str.ofString x)=some (.ref a):=hZ.trans (ez h)
theorem Ag:(W0 w mb mean xt).mg (Str.ofString "parse")=some (.ref 1212):=dM (by kernel_rfl)
theorem xj:keepIn (W0 w mb mean xt).K (.ref 1212)=true:=by kernel_rfl
noncomputable def dq (lam c:Nat):Int:=IF (Nat.beq c 0) 0 (Int.add lam (Int.ofNat (Nat.div (Nat.sub c 2) 2)))
theorem mS {c:Nat}(hb:Hb mb) (hT:cx.T.length<60000) (hNat:∀ XX' dd,nd+2≤dd→ig (SD w mb mean xt nat nd lx ap) cx (fun k=>c=k+(k+2)) XX' dd) (hr:gk (cX cx nat nd)=c) (hc:c=0∨∃ k,c=k+(k+2)){dd:Nat}(hd:252≤dd)
  {Q:V→MH→Prop}(hq:∀ H',(∀ b y,H b=some y→H' b=some y)→Q (.int (dq cx.lam c)) H'):CL (W0 w mb mean xt) ⟨dd+1,XX⟩ l H 1247 [.str (SS cx.T)] Q:=by
 refine jZ DB rfl ?_;refine az ?_;refine qp (X':=fun n H'=>(n:Int)=dq cx.lam c∧∀ b y,H b=some y→H' b=some y) uB (qZ _) (eV _).line (by kernel_rfl) (by kernel_rfl) (by kernel_rfl) (by kernel_rfl) (by kernel_rfl) ?_ ?_
 ·refine az ?_;refine ro (fun env hk=>by unfold interactive;rw [hk];rfl) (fun ε =>rfl) ?_;refine aO (by kernel_rfl) Ag (by kernel_rfl) xj rfl ?_;refine ah rfl ?_;refine aj rfl ?_ (by kernel_rfl) (by kernel_rfl);refine aB ?_;refine aS ?_;refine CL.mono (wo (ok:=c=0) (r:=cX cx nat nd) hb hT (hNat _) rfl ?_ hd ?_) fun v H' q=>?_
  ·rcases hc with rfl | ⟨k,rfl⟩
   ·obtain ⟨u,o,e⟩:=zQ hr;rw [e];rfl
   ·rw [uR hr];rfl
  ·intro k H' hk hH;refine ⟨?_,hH⟩;have hk:c=k+(k+2):=hk;subst hk;unfold dq;rw [bW (show k+(k+2)≠0 by omega)];have:(k+(k+2)).sub 2=k+k:=rfl;rw [this];show ((cx.lam+k:Nat):Int)=(cx.lam:Int)+((k+k) / 2:Nat);omega
  ·refine dP ?_;refine az ?_;refine dF ?_;refine aL ?_;obtain ⟨h0,h1⟩:=q;subst h0;exact hq H' h1
 ·intro n H' hx;have:=hq H' hx.2;rw [←hx.1] at this;exact this
end
end Mine
end
end
section
open PySem PySem.W PySem.Calls PyProof.Rows Hd
noncomputable section
namespace Mine
structure En where
 pre:List Nat
 nx:Nat
 k:Int
 fs:List U
 k':Int
noncomputable def iV (e:En) (tl:List Nat):List Nat:=@Nat.rec (fun ε =>List Nat) [] (fun ε ε =>e.nx::tl) e.nx
noncomputable def xg (fs:List U) (o:O):Option (List U×List Nat×Int):=hdK fs fun a r=>hdK r fun b r=>hdK r fun l r=>hdK r fun h r=>hdK r fun ε r=>hdK r fun ε r=>hdK r fun c r=>hdK r fun p r=>chK (br r) (hdK o.objs fun m r=>chK (br r) (ki 2 m fun ms =>
 hdK ms fun x ms=>chK (sD x) (hdK ms fun y ms=>poK y fun r' i=>hdK ms fun z ms=>lnK z fun k'=>chK (br ms) (chK (eqI i (.ofNat 0)) (some ([a,b,l,h,.any 0,.any 0,c,p],r',k'))))))
noncomputable def xf (r:Rs):Option (List U×List Nat×Int):=@Rs.rec (fun ε =>Option (List U×List Nat×Int)) (fun u o=>obK u fun fs=>xg fs o) (fun ε =>none) none (fun ε ε ε ε ε =>none) r
noncomputable def dO (e:En):Prop:=∀ cx tl,xf (lD cx (e.pre++iV e tl) e.k)=some (e.fs,iV e tl,e.k')
noncomputable def jw (au:Nat→Option U) (a:List (List U)):List (List U)→Bool:=@List.rec (List U) (fun ε =>List (List U)→Bool) (fun b=>@List.rec (List U) (fun ε =>Bool) true (fun ε ε ε =>false) b)
 (fun x ε ih b=>@List.rec (List U) (fun ε =>Bool) false (fun y s ε =>IF (wkL au x y) (ih s) false) b) a
noncomputable def dZ (p:List Nat):List Nat→Option (List Nat):=@List.rec Nat (fun ε =>List Nat→Option (List Nat)) (fun r=>some r)
 (fun x ε ih r=>@List.rec Nat (fun ε =>Option (List Nat)) none (fun y s ε =>IF (Nat.beq x y) (ih s) none) r) p
noncomputable def nxB (n:Nat) (r:List Nat):Bool:=@Nat.rec (fun ε =>Bool) (br r) (fun ε ε =>@List.rec Nat (fun ε =>Bool) false (fun a ε ε =>Nat.beq a n) r) n
noncomputable def apL {α : Type}(a b:List α):List α :=@List.rec α (fun ε =>List α) b (fun x ε ih=>x::ih) a
noncomputable def mpL {α β : Type}(f : α→β) (l:List α):List β :=@List.rec α (fun ε =>List β) [] (fun x ε ih=>f x::ih) l
theorem aW {α : Type}:∀ (a b:List α),apL a b=a++b
 | [],_=>rfl
 | x::a,b=>congrArg (x :: ·) (aW a b)
theorem t8 {α β : Type}(f : α→β):∀ (l:List α),mpL f l=l.map f
 | []=>rfl
 | x::l=>congrArg (f x :: ·) (t8 f l)
noncomputable def fsE (es:List En):List (List U):=mpL (·.fs) es
noncomputable def chn (es:List En):List Nat→Int→Bool:=@List.rec En (fun ε =>List Nat→Int→Bool) (fun ε ε =>true)
 (fun e ε ih r k=>@Option.rec (List Nat) (fun ε =>Bool) false (fun r'=>IF (nxB e.nx r') (IF (eqI k e.k) (ih r' e.k') false) false) (dZ e.pre r)) es
noncomputable def HAu (au:Nat→Option U):Prop:=∀ i w,au i=some w→mX w=true
noncomputable def Ff (fs:List U) (o:O) (t:List U×List Nat×Int):Prop:=∃ a b l h p q c d j,fs=[a,b,l,h,p,q,c,d]∧o.objs=[.inst 2 [.txt,.pos t.2.1 j (.ofNat 0),.ln t.2.2]]∧t.1=[a,b,l,h,.any 0,.any 0,c,d]
theorem zU {fs:List U}{o:O}{t:List U×List Nat×Int}(h:xg fs o=some t):Ff fs o t :=
 aJ h fun a r1 e1 h=>aJ h fun b r2 e2 h=>aJ h fun l r3 e3 h=>aJ h fun g r4 e4 h=>aJ h fun p r5 e5 h=>aJ h fun q r6 e6 h=>aJ h fun c r7 e7 h=>aJ h fun d r8 e8 h=>ax h fun z1 h=>aJ h fun m r9 e9 h=>ax h fun z2 h=>gJ h fun ms e10 h =>
 aJ h fun x m1 e11 h=>ax h fun z3 h=>aJ h fun y m2 e12 h=>o3 h fun r' j i e13 h=>aJ h fun z m3 e14 h=>t9 h fun k' e15 h=>ax h fun z4 h=>ax h fun z5 h =>
 (Option.some.inj h)▸⟨a,b,l,g,p,q,c,d,j,cq e1 rfl (cq e2 rfl (cq e3 rfl (cq e4 rfl (cq e5 rfl (cq e6 rfl (cq e7 rfl (cq e8 rfl (bY z1)))))))),
  cq e9 (e10.trans (congrArg (MOb.inst 2) (cq e11 (pq z3) (cq e12 (e13.trans (congrArg (U.pos r' j) (cI z5))) (cq e14 e15 (bY z4)))))) (bY z2),rfl⟩
theorem zT {r:Rs}{fs:List U}{r':List Nat}{k':Int}(h:xf r=some (fs,r',k')):∃ a b l h p q c d j nt tmp,r=.ok (.obj 1 [a,b,l,h,p,q,c,d]) ⟨[.inst 2 [.txt,.pos r' j (.ofNat 0),.ln k']],nt,tmp⟩∧fs=[a,b,l,h,.any 0,.any 0,c,d]:=by
 cases r with
 | ok u o =>
  refine lM (show obK u (fun fs=>xg fs o)=_ from h) fun fs' e0 h0=>?_;cb_eq;rcases zU h0 with ⟨a,b,l,g,p,q,c,d,j,e1,e2,e3⟩;rcases o with ⟨os,nt,tmp⟩;by_in;exact ⟨a,b,l,g,p,q,c,d,j,nt,tmp,by rw [e0,e1,show os=_ from e2],e3⟩
 | fail _=>cases h
 | out=>cases h
 | call _ _ _ _=>cases h
set_option tactic.hygienic true in
theorem tD {au:Nat→Option U}(hau:HAu au){u g:U}(h:wkB au (.any 0) g=true):wkB au u g=true:=by
 cases g
 case any i =>
  show @Option.rec U (fun ε =>Bool) true (fun w=>dT u w) (au i)=true;have h':@Option.rec U (fun ε =>Bool) true (fun w=>dT (.any 0) w) (au i)=true:=h
  cases q:au i with
  | none=>rfl
  | some w =>
   rw [q] at h';have:=hau i w q;rw [←fL (show dT (.any 0) w=true from h')] at this
   cases this
 all_goals cases h
theorem fC {au:Nat→Option U}{u:U}{us gs:List U}(h:wkL au (u::us) gs=true):∃ g r,gs=g::r∧wkB au u g=true∧wkL au us r=true:=by
 cases gs with
 | nil=>cases h
 | cons g r=>exact ⟨g,r,rfl,ai (show IF (wkB au u g) (wkL au us r) false=true from h)⟩
theorem iw {au:Nat→Option U}{u g:U}{us gs:List U}(h1:wkB au u g=true) (h2:wkL au us gs=true):wkL au (u::us) (g::gs)=true:=by
 show IF (wkB au u g) (wkL au us gs) false=true;rw [h1];exact h2
theorem AG {au:Nat→Option U}(hau:HAu au){a b l h p q c d:U}{gs:List U}(hw:wkL au [a,b,l,h,.any 0,.any 0,c,d] gs=true):wkL au [a,b,l,h,p,q,c,d] gs=true:=by
 cb_eq;rcases fC hw with ⟨g1,r1,rfl,w1,hw⟩;rcases fC hw with ⟨g2,r2,rfl,w2,hw⟩;rcases fC hw with ⟨g3,r3,rfl,w3,hw⟩;rcases fC hw with ⟨g4,r4,rfl,w4,hw⟩;rcases fC hw with ⟨g5,r5,rfl,w5,hw⟩;rcases fC hw with ⟨g6,r6,rfl,w6,hw⟩;by_in;exact iw w1 (iw w2 (iw w3 (iw w4 (iw (tD hau w5) (iw (tD hau w6) hw)))))
theorem oO {au:Nat→Option U}(hau:HAu au){e:En}(he:dO e){gs:List U}(hw:wkL au e.fs gs=true) (tl:List Nat):fk au (e.pre++iV e tl) e.k gs (iV e tl) e.k':=by
 refine ⟨List.suffix_append _ _,fun cx=>?_⟩;cb_eq;rcases zT (he cx tl) with ⟨a,b,l,h,p,q,c,d,j,nt,tmp,hr,hf⟩;by_in;rw [hf] at hw;exact ⟨_,j,nt,tmp,hr,AG hau hw⟩
theorem iS:∀ {p r r':List Nat},dZ p r=some r'→r=p++r'
 | [],r,r',h=>Option.some.inj h
 | x::p,[],r',h=>by cases h
 | x::p,y::s,r',h=>by
  rcases IFo (show IF (Nat.beq x y) (dZ p s) none=some r' from h) with ⟨e,h2⟩ | ⟨_,h2⟩
  ·rw [Nat.eq_of_beq_eq_true e,iS h2];rfl
  ·cases h2
theorem xE {e:En}{r:List Nat}(h:nxB e.nx r=true):∃ tl,r=iV e tl:=by
 cb_eq;rcases e with ⟨pre,nx,k,fs,k'⟩;by_in
 cases nx with
 | zero =>
  cases r with
  | nil=>exact ⟨[],rfl⟩
  | cons a s=>cases h
 | succ n =>
  cases r with
  | nil=>cases h
  | cons a s=>exact ⟨s,by rw [Nat.eq_of_beq_eq_true (show Nat.beq a (n+1)=true from h)];rfl⟩
theorem pS {au:Nat→Option U}(hau:HAu au):∀ {es:List En}{gs:List (List U)}{r:List Nat}{k:Int},(∀ e∈es,dO e)→chn es r k=true→jw au (fsE es) gs=true→∃ r' k',cJ au r k gs r' k'
 | [],[],r,k,_,_,_=>⟨r,k,rfl,rfl⟩
 | [],_::_,_,_,_,_,h=>by cases h
 | _::_,[],_,_,_,_,h=>by cases h
 | e::es,g::gs,r,k,he,hc,hw=>by
  obtain ⟨w1,w2⟩:=ai (show IF (wkL au e.fs g) (jw au (fsE es) gs) false=true from hw);have hc':@Option.rec (List Nat) (fun ε =>Bool) false (fun r'=>IF (nxB e.nx r') (IF (eqI k e.k) (chn es r' e.k') false) false) (dZ e.pre r)=true:=hc
  cases q:dZ e.pre r with
  | none=>rw [q] at hc';cases hc'
  | some r1 =>
   rw [q] at hc';cb_eq;rcases ai (show IF (nxB e.nx r1) (IF (eqI k e.k) (chn es r1 e.k') false) false=true from hc') with ⟨c1,c2⟩;rcases ai c2 with ⟨c3,c4⟩;rcases xE c1 with ⟨tl,rfl⟩;by_in;obtain rfl:=cI c3;obtain rfl:=iS q;obtain ⟨r',k',s⟩:=pS hau (fun x hx=>he x (.tail _ hx)) c4 w2;exact ⟨r',k',_,_,oO hau (he e (.head _)) w1 tl,s⟩
theorem j6 {au:Nat→Option U}:∀ {a b:List (List U)}{r:List Nat}{k:Int}{r':List Nat}{k':Int},cJ au r k (a++b) r' k'→∃ r₁ k₁,cJ au r k a r₁ k₁∧cJ au r₁ k₁ b r' k'
 | [],b,r,k,r',k',h=>⟨r,k,⟨rfl,rfl⟩,h⟩
 | t::a,b,r,k,r',k',⟨r₂,k₂,h1,h2⟩=>by
  cb_eq;rcases j6 h2 with ⟨r₁,k₁,h3,h4⟩;by_in;exact ⟨r₁,k₁,⟨r₂,k₂,h1,h3⟩,h4⟩
theorem qF {au:Nat→Option U}:∀ {a:List (List U)}{r:List Nat}{k:Int}{r':List Nat}{k':Int},cJ au r k a r' k'→r'<:+r
 | [],r,k,r',k',h=>by rw [h.1];exact List.suffix_refl _
 | t::a,r,k,r',k',⟨r₂,k₂,h1,h2⟩=>(qF h2).trans h1.1
noncomputable def kOf (a:Nat):Int:=@Nat.rec (fun ε =>Int) (.ofNat 0) (fun n ε =>.negSucc n) a
theorem uh (a:Nat):(1:Int) - ((a+1:Nat):Int)=kOf a:=by
 cases a with
 | zero=>rfl
 | succ n =>
  show (1:Int) - ((n+1+1:Nat):Int)=Int.negSucc n;omega
section
variable {w:World}{mb:Str→Option Value}{mean:ExcName→Option Value}{xt:Led}{nat:Nt}{nd:Nat}{ap:Nat→V→Prop}{au:Nat→Option U}
theorem i5 {lx:Lxs}(h1:∀ r k fs r' k',fk au r k fs r' k'→lx r k (.obj 1 fs) r' k'){T:List Nat}{us:List U}:∀ {ts:List (List U)}{r:List Nat}{k:Int}{r':List Nat}{k':Int},r<:+T→cJ au r k ts r' k' →
  (r'<:+T→cK (SD w mb mean xt nat nd lx ap) T r' k' us)→cK (SD w mb mean xt nat nd lx ap) T r k (ts.map (U.obj 1)++us)
 | [],r,k,r',k',hr,h,hu=>by obtain ⟨rfl,rfl⟩:=h;exact hu hr
 | t::ts,r,k,r',k',hr,h,hu=>by
  cb_eq;rcases h with ⟨r₁,k₁,h2,h3⟩;by_in;have hr1:r₁<:+T:=h2.1.trans hr;exact ⟨r₁,k₁,h1 _ _ _ _ _ h2,hr1,i5 h1 hr1 h3 hu⟩
end
noncomputable def bj (T:List Nat) (n:Int):Prop:=∀ (w:World) (mb:Str→Option Value) (mean:ExcName→Option Value) (xt:Led) (hb:Hb mb) (dd:Nat) (XX:Nat→MH→Prop) (H:MH) (l:Loc) (Q:V→MH→Prop),252≤dd →
 (∀ H',(∀ b y,H b=some y→H' b=some y)→Q (.int n) H')→CL (W0 w mb mean xt) ⟨dd+1,XX⟩ l H 1247 [.str (SS T)] Q
noncomputable def cdB (c:Nat):Bool:=Nat.beq (Nat.mod c 2) 0
theorem sR {c:Nat}(h:cdB c=true):c=0∨∃ k,c=k+(k+2):=by
 have h':c % 2=0:=Nat.eq_of_beq_eq_true h
 by_cases q:c=0
 ·exact .inl q
 ·have e:2*(c / 2)=c:=Nat.mul_div_cancel' (Nat.dvd_of_mod_eq_zero h');obtain ⟨k,hk⟩:=Nat.exists_eq_succ_of_ne_zero (n:=c / 2) (fun z=>q (e.symm.trans (by rw [z])));exact .inr ⟨k,by rw [←e,hk,Nat.two_mul];exact (Nat.add_assoc k 1 (k+1)).trans (congrArg (k + ·) (Nat.add_comm 1 (k+1)))⟩
theorem Cf:HAu au0:=fun i w h=>by cases h
theorem xH {T:List Nat}{a c:Nat}{gs:List (List U)}(hs:∃ r k,cJ au0 T (kOf a) gs r k) (hT:T.length<60000)
  (hr:∀ cx,gk (cX cx (jF (gs.map (U.obj 1))) 20)=c) (hcd:cdB c=true):bj T (dq (a+1) c):=by
 intro w mb mean xt hb dd XX H l Q hd hq;obtain ⟨r',k',hs⟩:=hs;have hL:cK (SD w mb mean xt (jF (gs.map (U.obj 1))) 20 (lxT au0) (dU au0)) T T (1 - ((a+1:Nat):Int)) (gs.map (U.obj 1)):=by
  rw [uh];have:=i5 (w:=w) (mb:=mb) (mean:=mean) (xt:=xt) (nat:=jF (gs.map (U.obj 1))) (nd:=20) (ap:=dU au0) (lx:=lxT au0) (T:=T) (us:=[]) (fun ε ε ε ε ε h=>h) (List.suffix_refl T) hs (fun ε =>trivial);rw [List.append_nil] at this;exact this
 exact mS (cx:=⟨T,a+1,0⟩) (lx:=lxT au0) (ap:=dU au0) hb hT (fun XX' dd h=>y5 (au:=au0) hb hT rfl (fun ε ε ε ε ε h=>h) hL (by omega)) (hr _) (sR hcd) hd hq
theorem xI {T:List Nat}{c:Nat}(hT:T.length<60000) (hr:gk (cX ⟨T,1,0⟩ gH 0)=c) (hcd:cdB c=true):bj T (dq 1 c):=by
 intro w mb mean xt hb dd XX H l Q hd hq;exact mS (cx:=⟨T,1,0⟩) (lx:=lxT au0) (ap:=dU au0) hb hT (fun XX' dd h=>j9 rfl) hr (sR hcd) hd hq
theorem Em {au:Nat→Option U}(h0:au 0=none){T:List Nat}{a c:Nat}{gp gq rest:List (List U)}{mk t0:List U}{tab:Bool→Int→U→Nat}(hs:∃ r k,cJ au T (kOf a) (gp++([mk]++(rest++gq))) r k) (hT:T.length<60000) (hst:stL au mk t0=true)
  (helt:∀ b d f n,tab b d (.obj 1 f)=n→n=0∨n=2→∀ cx,nk b d f (na cx t0 b d (rest.map (U.obj 1)++[.obj 1 f,.any 8]))=n)
  (hr:∀ cx,gk (cX cx (mP mk tab (gp.map (U.obj 1)++(.obj 1 mk::.any 9::gq.map (U.obj 1)))) 100)=c) (hcd:cdB c=true):bj T (dq (a+1) c):=by
 intro w mb mean xt hb dd XX H l Q hd hq;cb_eq;rcases hs with ⟨r',k',hs⟩;rcases j6 hs with ⟨r1,k1,s1,s2⟩;rcases j6 s2 with ⟨r2,k2,s3,s4⟩;rcases j6 s4 with ⟨r3,k3,s5,s6⟩;by_in;have hL:cK (SD w mb mean xt (mP mk tab (gp.map (U.obj 1)++(.obj 1 mk::.any 9::gq.map (U.obj 1)))) 100 (lxC au rest) (dU au)) T T (1 - ((a+1:Nat):Int)) (gp.map (U.obj 1)++(.obj 1 mk::.any 9::gq.map (U.obj 1))):=by
  rw [uh];refine i5 (fun ε ε ε ε ε h=>h) (List.suffix_refl T) s1 fun q1=>?_;cb_eq;rcases s3 with ⟨r4,k4,s7,e1,e2⟩;by_in;subst e1 e2;have q2:r2<:+T:=s7.1.trans q1;have q3:r3<:+T:=(qF s5).trans q2;refine ⟨_,_,s7,q2,_,_,s5,q3,?_⟩;have:=i5 (w:=w) (mb:=mb) (mean:=mean) (xt:=xt) (nat:=mP mk tab (gp.map (U.obj 1)++(.obj 1 mk::.any 9::gq.map (U.obj 1)))) (nd:=100) (ap:=dU au) (lx:=lxC au rest) (T:=T) (us:=[]) (fun ε ε ε ε ε h=>h) q3 s6 (fun ε =>trivial);rw [List.append_nil] at this;exact this
 exact mS (cx:=⟨T,a+1,0⟩) (lx:=lxC au rest) (ap:=dU au) hb hT (fun XX' dd h=>y7 (au:=au) hb hT h0 hst helt hL (by omega)) (hr _) (sR hcd) hd hq
end Mine
end
end
section
open PySem PySem.W PySem.Calls PyProof.Rows Hd
noncomputable section
namespace Mine
noncomputable abbrev sU:List Nat:=[101,110,100]
noncomputable abbrev av:List Nat:=[110,97,109,101]
noncomputable abbrev ak:List Nat:=[107,101,121,119,111,114,100]
noncomputable abbrev aV:List Nat:=[112,117,110,99,116]
noncomputable abbrev aQ:List Nat:=[116,101,120,116]
noncomputable abbrev aR:List Nat:=[110,117,109,98,101,114]
noncomputable def ED (x:List Nat):List Nat:=@List.rec Nat (fun ε =>List Nat) [] (fun c r ih=>IF (Nat.beq c 32) ih (c::r)) x
noncomputable def mkE (kd pre:List Nat) (nx:Nat):En:=⟨pre,nx,.ofNat 0,[.str kd,.str (ED pre),.ln (.ofNat 0),.bool false,.any 0,.any 0,.bool false,.bool true],.ofNat 0⟩
noncomputable def eX (p:List Nat) (n:Nat) (k:Int) (d:List Nat) (u:U) (l:Int) (b:Bool) (k2:Int):En:=⟨p,n,k,[.str d,u,.ln l,.bool b,.any 0,.any 0,.bool false,.bool true],k2⟩
noncomputable def eY (p:List Nat) (n:Nat) (d:List Nat) (u:U) (b:Bool):En:=eX p n (.ofNat 0) d u (.ofNat 0) b (.ofNat 0)
noncomputable abbrev kz0:Int:=.ofNat 0
noncomputable abbrev kz1:Int:=.ofNat 1
noncomputable abbrev kz2:Int:=.ofNat 2
noncomputable abbrev kn1:Int:=.negSucc 0
noncomputable abbrev kn2:Int:=.negSucc 1
noncomputable def eN:=mkE av
noncomputable def eK:=mkE ak
noncomputable def eP:=mkE aV
noncomputable def eE:=mkE sU
noncomputable def bO (t:List En):Prop:=∀ cx tl,t.map (fun e=>xf (lD cx (e.pre++iV e tl) e.k))=t.map (fun e=>some (e.fs,iV e tl,e.k'))
theorem CM {t:List En}(h:bO t):∀ e∈t,dO e:=fun e he cx tl=>List.map_inj_left.mp (h cx tl) e he
noncomputable def tb0:List En:=[eN [97] 32,eN [32,98] 59,eP [59] 32,eP [32,59] 0,eE [] 0,eN [97] 59,eP [59] 0,eP [32,59] 10,eX [10] 0 kz0 sU (.str []) kz1 true kz1,eP [59] 10,eX [10,59] 0 kz0 aV (.str [59]) kz1 true kz1,eX [] 0 kz1 sU (.str []) kz1 false kz1,eX [10,97] 32 kn1 av (.str [97]) kz0 true kz0,eX [10,97] 59 kn1 av (.str [97]) kz0 true kz0,eX [10,10,97] 32 kn2 av (.str [97]) kz0 true kz0,eX [10,10,97] 59 kn2 av (.str [97]) kz0 true kz0,eP [32,43] 59,eP [32,43] 32,eP [40] 97,eN [97] 41,eP [41] 59,eX [10,40] 97 kn1 aV (.str [40]) kz0 true kz0,eX [10,10,40] 97 kn2 aV (.str [40]) kz0 true kz0,eP [91] 97,eN [97] 44]
theorem Bb:bO tb0:=fun cx tl=>by kernel_rfl
noncomputable def tb1:List En:=[eP [44] 32,eP [32,44] 32,eN [32,98] 93,eP [93] 59,eX [10,91] 97 kn1 aV (.str [91]) kz0 true kz0,eX [10,10,91] 97 kn2 aV (.str [91]) kz0 true kz0,eN [120] 32,eP [32,61] 32,eP [32,123] 97,eN [97] 125,eP [125] 59,eN [97] 58,eP [58] 32,eY [32,49] 44 aR (.int 4607182418800017408) false,eP [44] 125,eX [10,120] 32 kn1 av (.str [120]) kz0 true kz0,eX [10,10,120] 32 kn2 av (.str [120]) kz0 true kz0,eY [32,49] 125 aR (.int 4607182418800017408) false,eP [32,123] 39,eY [39,97,39] 58 aQ (.str [97]) false,eY [32,50] 58 aR (.int 4611686018427387904) false,eY [32,51] 44 aR (.int 4613937818241073152) false,eK [32,105,102] 58,eY [32,52] 125 aR (.int 4616189618054758400) false,eY [32,49] 32 aR (.int 4607182418800017408) false]
theorem A0:bO tb1:=fun cx tl=>by kernel_rfl
noncomputable def tb2:List En:=[eN [32,98] 58,eY [32,50] 125 aR (.int 4611686018427387904) false,eN [97] 46,eP [46] 59,eP [46] 105,eK [105,102] 59,eX [10,97] 46 kn1 av (.str [97]) kz0 true kz0,eX [10,10,97] 46 kn2 av (.str [97]) kz0 true kz0,eN [97] 91,eP [91] 93,eP [91] 98,eN [98] 93,eX [10,97] 91 kn1 av (.str [97]) kz0 true kz0,eX [10,10,97] 91 kn2 av (.str [97]) kz0 true kz0,eN [102] 40,eP [40] 44,eP [44] 41,eP [40] 41,eX [10,102] 40 kn1 av (.str [102]) kz0 true kz0,eX [10,10,102] 40 kn2 av (.str [102]) kz0 true kz0,eN [32,98] 41,eP [41] 40,eP [40] 98,eN [98] 41,eK [110,101,119] 59]
theorem AV:bO tb2:=fun cx tl=>by kernel_rfl
noncomputable def tb3:List En:=[eK [110,101,119] 32,eN [32,97] 59,eX [10,110,101,119] 59 kn1 ak (.str [110,101,119]) kz0 true kz0,eX [10,110,101,119] 32 kn1 ak (.str [110,101,119]) kz0 true kz0,eX [10,10,110,101,119] 59 kn2 ak (.str [110,101,119]) kz0 true kz0,eX [10,10,110,101,119] 32 kn2 ak (.str [110,101,119]) kz0 true kz0,eN [32,97] 46,eP [46] 98,eN [98] 40,eP [40] 99,eN [99] 41,eP [41] 46,eP [46] 100,eN [100] 59,eP [32,63] 32,eN [32,98] 32,eP [32,58] 32,eN [32,99] 59,eP [32,59] 32,eP [32,40] 98,eN [98] 44,eY [32,49] 41 aR (.int 4607182418800017408) false,eP [41] 32,eN [32,98] 44,eN [32,99] 32]
theorem AU:bO tb3:=fun cx tl=>by kernel_rfl
noncomputable def tb4:List En:=[eN [32,100] 59,eN [32,99] 44,eY [49] 32 aR (.int 4607182418800017408) false,eY [32,49] 59 aR (.int 4607182418800017408) false,eX [10,49] 32 kn1 aR (.int 4607182418800017408) kz0 true kz0,eX [10,10,49] 32 kn2 aR (.int 4607182418800017408) kz0 true kz0,eN [32,100] 32,eY [32,50] 59 aR (.int 4611686018427387904) false,eP [43,43] 49,eY [49] 59 aR (.int 4607182418800017408) false,eP [43,43] 97,eX [10,43,43] 49 kn1 aV (.str [43,43]) kz0 true kz0,eX [10,43,43] 97 kn1 aV (.str [43,43]) kz0 true kz0,eX [10,10,43,43] 49 kn2 aV (.str [43,43]) kz0 true kz0,eX [10,10,43,43] 97 kn2 aV (.str [43,43]) kz0 true kz0,eN [97] 43,eP [43,43] 32,eP [32,43,43] 59,eP [32,43] 97,eX [10,97] 43 kn1 av (.str [97]) kz0 true kz0,eX [10,10,97] 43 kn2 av (.str [97]) kz0 true kz0,eP [45,45] 97,eN [97] 45,eP [45,45] 59,eP [45] 32]
theorem AT:bO tb4:=fun cx tl=>by kernel_rfl
noncomputable def tb5:List En:=[eP [32,45] 97,eX [10,45,45] 97 kn1 aV (.str [45,45]) kz0 true kz0,eX [10,45] 32 kn1 aV (.str [45]) kz0 true kz0,eX [10,10,45,45] 97 kn2 aV (.str [45,45]) kz0 true kz0,eX [10,10,45] 32 kn2 aV (.str [45]) kz0 true kz0,eN [98] 43,eP [43,43] 59,eK [116,121,112,101,111,102] 59,eK [116,121,112,101,111,102] 32,eK [32,116,121,112,101,111,102] 32,eX [10,116,121,112,101,111,102] 59 kn1 ak (.str [116,121,112,101,111,102]) kz0 true kz0,eX [10,116,121,112,101,111,102] 32 kn1 ak (.str [116,121,112,101,111,102]) kz0 true kz0,eX [10,10,116,121,112,101,111,102] 59 kn2 ak (.str [116,121,112,101,111,102]) kz0 true kz0,eX [10,10,116,121,112,101,111,102] 32 kn2 ak (.str [116,121,112,101,111,102]) kz0 true kz0,eK [116,104,105,115] 32,eK [116,104,105,115] 46,eP [46] 97,eX [10,116,104,105,115] 32 kn1 ak (.str [116,104,105,115]) kz0 true kz0,eX [10,116,104,105,115] 46 kn1 ak (.str [116,104,105,115]) kz0 true kz0,eX [10,10,116,104,105,115] 32 kn2 ak (.str [116,104,105,115]) kz0 true kz0,eX [10,10,116,104,105,115] 46 kn2 ak (.str [116,104,105,115]) kz0 true kz0,eK [110,117,108,108] 32,eK [32,110,117,108,108] 59,eX [10,110,117,108,108] 32 kn1 ak (.str [110,117,108,108]) kz0 true kz0,eX [10,10,110,117,108,108] 32 kn2 ak (.str [110,117,108,108]) kz0 true kz0]
theorem AS:bO tb5:=fun cx tl=>by kernel_rfl
noncomputable def tb6:List En:=[eK [105,102] 32,eX [10,105,102] 32 kn1 ak (.str [105,102]) kz0 true kz0,eX [10,10,105,102] 32 kn2 ak (.str [105,102]) kz0 true kz0,eK [99,108,97,115,115] 59,eN [107,108,97,115,115] 59,eX [10,99,108,97,115,115] 59 kn1 ak (.str [99,108,97,115,115]) kz0 true kz0,eX [10,107,108,97,115,115] 59 kn1 av (.str [107,108,97,115,115]) kz0 true kz0,eX [10,10,99,108,97,115,115] 59 kn2 ak (.str [99,108,97,115,115]) kz0 true kz0,eX [10,10,107,108,97,115,115] 59 kn2 av (.str [107,108,97,115,115]) kz0 true kz0,eK [32,105,110] 59,eK [32,105,110] 32,eP [32,123] 103,eN [103,101,116] 32,eN [32,97] 58,eN [103,101,116] 58,eN [32,115,101,116] 58,eN [32,97] 40,eP [32,123] 125,eP [125] 125,eP [32,123] 115,eN [115,101,116] 32,eN [32,99] 41,eK [32,105,102] 40,eP [125] 44,eN [32,115,101,116] 32]
theorem AR:bO tb6:=fun cx tl=>by kernel_rfl
noncomputable def tb7:List En:=[eY [32,49] 40 aR (.int 4607182418800017408) false,eN [32,103,101,116] 32,eN [32,98] 40,eY [32,39,49,39] 58 aQ (.str [49]) false,eY [32,39,48,49,39] 58 aQ (.str [48,49]) false,eP [40] 102,eK [102,117,110,99,116,105,111,110] 32,eN [32,97] 32,eP [125] 41,eX [10,40] 102 kn1 aV (.str [40]) kz0 true kz0,eX [10,10,40] 102 kn2 aV (.str [40]) kz0 true kz0,eX [10,97] 44 kn1 av (.str [97]) kz0 true kz0,eX [10,10,97] 44 kn2 av (.str [97]) kz0 true kz0,eK [118,97,114] 32,eN [32,97,49] 59,eX [10,118,97,114] 32 kn1 ak (.str [118,97,114]) kz0 true kz0,eX [10,10,118,97,114] 32 kn2 ak (.str [118,97,114]) kz0 true kz0,eN [32,97] 44,eK [32,105,102] 59,eN [32,105,102,102] 59,eP [125] 32,eP [123] 125,eP [125] 0,eP [125] 10,eX [10,125] 32 kn1 aV (.str [125]) kz0 true kz0]
theorem AQ:bO tb7:=fun cx tl=>by kernel_rfl
noncomputable def tb8:List En:=[eX [10,123] 125 kn1 aV (.str [123]) kz0 true kz0,eX [10,10,125] 32 kn2 aV (.str [125]) kz0 true kz0,eX [10,10,123] 125 kn2 aV (.str [123]) kz0 true kz0,eP [123] 97,eP [32,41] 32,eP [32,125] 32,eP [59] 125,eX [10,123] 97 kn1 aV (.str [123]) kz0 true kz0,eX [10,10,123] 97 kn2 aV (.str [123]) kz0 true kz0,eK [102,111,114] 32,eP [32,40] 59,eP [59] 41,eP [59] 59,eK [32,98,114,101,97,107] 59,eX [10,102,111,114] 32 kn1 ak (.str [102,111,114]) kz0 true kz0,eX [10,10,102,111,114] 32 kn2 ak (.str [102,111,114]) kz0 true kz0,eP [32,40] 118,eP [32,40] 97,eN [98] 32,eP [32,40] 40,eK [119,104,105,108,101] 32,eX [10,119,104,105,108,101] 32 kn1 ak (.str [119,104,105,108,101]) kz0 true kz0,eX [10,10,119,104,105,108,101] 32 kn2 ak (.str [119,104,105,108,101]) kz0 true kz0,eK [100,111] 32,eK [32,119,104,105,108,101] 32]
theorem AP:bO tb8:=fun cx tl=>by kernel_rfl
noncomputable def tb9:List En:=[eX [10,100,111] 32 kn1 ak (.str [100,111]) kz0 true kz0,eX [10,10,100,111] 32 kn2 ak (.str [100,111]) kz0 true kz0,eN [32,117,110,116,105,108] 32,eK [32,101,108,115,101] 32,eK [101,108,115,101] 32,eX [10,101,108,115,101] 32 kn1 ak (.str [101,108,115,101]) kz0 true kz0,eX [10,10,101,108,115,101] 32 kn2 ak (.str [101,108,115,101]) kz0 true kz0,eK [115,119,105,116,99,104] 32,eP [32,123] 98,eN [98] 59,eP [32,123] 99,eK [99,97,115,101] 32,eX [10,115,119,105,116,99,104] 32 kn1 ak (.str [115,119,105,116,99,104]) kz0 true kz0,eX [10,10,115,119,105,116,99,104] 32 kn2 ak (.str [115,119,105,116,99,104]) kz0 true kz0,eP [32,123] 100,eK [100,101,102,97,117,108,116] 58,eK [32,100,101,102,97,117,108,116] 58,eP [58] 125,eK [32,99,97,115,101] 32,eY [32,49] 58 aR (.int 4607182418800017408) false,eK [99,97,115,101] 58,eK [116,114,121] 32,eK [32,102,105,110,97,108,108,121] 32,eX [10,116,114,121] 32 kn1 ak (.str [116,114,121]) kz0 true kz0,eX [10,10,116,114,121] 32 kn2 ak (.str [116,114,121]) kz0 true kz0]
theorem AO:bO tb9:=fun cx tl=>by kernel_rfl
noncomputable def Ba:List En:=[eK [32,99,97,116,99,104] 32,eP [32,40] 101,eN [101] 41,eK [116,104,114,111,119] 59,eK [116,104,114,111,119] 32,eX [10,116,104,114,111,119] 59 kn1 ak (.str [116,104,114,111,119]) kz0 true kz0,eX [10,116,104,114,111,119] 32 kn1 ak (.str [116,104,114,111,119]) kz0 true kz0,eX [10,10,116,104,114,111,119] 59 kn2 ak (.str [116,104,114,111,119]) kz0 true kz0,eX [10,10,116,104,114,111,119] 32 kn2 ak (.str [116,104,114,111,119]) kz0 true kz0,eK [114,101,116,117,114,110] 59,eP [32,40] 41,eP [32,123] 32,eK [32,114,101,116,117,114,110] 59,eP [32,125] 41,eX [10,114,101,116,117,114,110] 59 kn1 ak (.str [114,101,116,117,114,110]) kz0 true kz0,eX [10,10,114,101,116,117,114,110] 59 kn2 ak (.str [114,101,116,117,114,110]) kz0 true kz0,eK [114,101,116,117,114,110] 32,eK [32,114,101,116,117,114,110] 32,eX [10,114,101,116,117,114,110] 32 kn1 ak (.str [114,101,116,117,114,110]) kz0 true kz0,eX [10,10,114,101,116,117,114,110] 32 kn2 ak (.str [114,101,116,117,114,110]) kz0 true kz0,eK [98,114,101,97,107] 59,eX [10,98,114,101,97,107] 59 kn1 ak (.str [98,114,101,97,107]) kz0 true kz0,eX [10,10,98,114,101,97,107] 59 kn2 ak (.str [98,114,101,97,107]) kz0 true kz0,eK [32,99,111,110,116,105,110,117,101] 59,eK [99,111,110,116,105,110,117,101] 59]
theorem yz:bO Ba:=fun cx tl=>by kernel_rfl
noncomputable def A9:List En:=[eX [10,99,111,110,116,105,110,117,101] 59 kn1 ak (.str [99,111,110,116,105,110,117,101]) kz0 true kz0,eX [10,10,99,111,110,116,105,110,117,101] 59 kn2 ak (.str [99,111,110,116,105,110,117,101]) kz0 true kz0,eK [32,98,114,101,97,107] 32,eX [10,97] 58 kn1 av (.str [97]) kz0 true kz0,eX [10,10,97] 58 kn2 av (.str [97]) kz0 true kz0,eK [32,99,111,110,116,105,110,117,101] 32,eK [32,102,111,114] 32,eP [32,125] 0,eP [32,125] 10,eP [32,40] 102,eK [32,115,119,105,116,99,104] 32,eX [10,102,117,110,99,116,105,111,110] 32 kn1 ak (.str [102,117,110,99,116,105,111,110]) kz0 true kz0,eX [10,10,102,117,110,99,116,105,111,110] 32 kn2 ak (.str [102,117,110,99,116,105,111,110]) kz0 true kz0,eP [40] 49,eY [49] 41 aR (.int 4607182418800017408) false,eK [32,102,117,110,99,116,105,111,110] 32,eP [123] 32,eX [10,123] 32 kn1 aV (.str [123]) kz0 true kz0,eX [10,10,123] 32 kn2 aV (.str [123]) kz0 true kz0,eK [119,105,116,104] 32,eX [10,119,105,116,104] 32 kn1 ak (.str [119,105,116,104]) kz0 true kz0,eX [10,10,119,105,116,104] 32 kn2 ak (.str [119,105,116,104]) kz0 true kz0,eK [100,101,98,117,103,103,101,114] 32,eK [100,101,98,117,103,103,101,114] 59,eX [10,100,101,98,117,103,103,101,114] 32 kn1 ak (.str [100,101,98,117,103,103,101,114]) kz0 true kz0]
theorem yy:bO A9:=fun cx tl=>by kernel_rfl
noncomputable def A8:List En:=[eX [10,100,101,98,117,103,103,101,114] 59 kn1 ak (.str [100,101,98,117,103,103,101,114]) kz0 true kz0,eX [10,10,100,101,98,117,103,103,101,114] 32 kn2 ak (.str [100,101,98,117,103,103,101,114]) kz0 true kz0,eX [10,10,100,101,98,117,103,103,101,114] 59 kn2 ak (.str [100,101,98,117,103,103,101,114]) kz0 true kz0,eN [32,99] 58,eP [32,40] 100,eN [100] 41,eP [32,125] 59,eY [39,117,115,101,32,115,116,114,105,99,116,39] 59 aQ (.str [117,115,101,32,115,116,114,105,99,116]) false,eK [32,118,97,114] 32,eN [32,101,118,97,108] 59,eX [10,39,117,115,101,32,115,116,114,105,99,116,39] 59 kn1 aQ (.str [117,115,101,32,115,116,114,105,99,116]) kz0 true kz0,eX [10,10,39,117,115,101,32,115,116,114,105,99,116,39] 59 kn2 aQ (.str [117,115,101,32,115,116,114,105,99,116]) kz0 true kz0,eN [32,101,118,105,108] 59,eN [32,103] 40,eY [32,39,117,115,101,32,115,116,114,105,99,116,39] 59 aQ (.str [117,115,101,32,115,116,114,105,99,116]) false,eN [32,104] 40,eY [39,97,39] 59 aQ (.str [97]) false,eY [32,34,117,115,101,32,115,116,114,105,99,116,34] 59 aQ (.str [117,115,101,32,115,116,114,105,99,116]) false,eX [10,39,97,39] 59 kn1 aQ (.str [97]) kz0 true kz0,eX [10,10,39,97,39] 59 kn2 aQ (.str [97]) kz0 true kz0,eY [32,39,97,39] 59 aQ (.str [97]) false,eP [40] 39,eY [39,117,115,101,32,115,116,114,105,99,116,39] 41 aQ (.str [117,115,101,32,115,116,114,105,99,116]) false,eX [10,40] 39 kn1 aV (.str [40]) kz0 true kz0,eX [10,10,40] 39 kn2 aV (.str [40]) kz0 true kz0]
theorem yx:bO A8:=fun cx tl=>by kernel_rfl
noncomputable def A7:List En:=[eP [32,40] 39,⟨[39,117,115,101,92,120,50,48,115,116,114,105,99,116,39],59,(.ofNat 0),[.str aQ,.str [117,115,101,32,115,116,114,105,99,116],.ln (.ofNat 0),.bool false,.any 0,.any 0,.bool false,.bool false],(.ofNat 0)⟩,⟨[10,39,117,115,101,92,120,50,48,115,116,114,105,99,116,39],59,(.negSucc 0),[.str aQ,.str [117,115,101,32,115,116,114,105,99,116],.ln (.ofNat 0),.bool true,.any 0,.any 0,.bool false,.bool false],(.ofNat 0)⟩,⟨[10,10,39,117,115,101,92,120,50,48,115,116,114,105,99,116,39],59,(.negSucc 1),[.str aQ,.str [117,115,101,32,115,116,114,105,99,116],.ln (.ofNat 0),.bool true,.any 0,.any 0,.bool false,.bool false],(.ofNat 0)⟩,⟨[32,39,117,115,101,92,120,50,48,115,116,114,105,99,116,39],59,(.ofNat 0),[.str aQ,.str [117,115,101,32,115,116,114,105,99,116],.ln (.ofNat 0),.bool false,.any 0,.any 0,.bool false,.bool false],(.ofNat 0)⟩,eY [39,117,115,101,32,115,116,114,105,99,116,39] 32 aQ (.str [117,115,101,32,115,116,114,105,99,116]) false,eX [10,39,117,115,101,32,115,116,114,105,99,116,39] 32 kn1 aQ (.str [117,115,101,32,115,116,114,105,99,116]) kz0 true kz0,eX [10,10,39,117,115,101,32,115,116,114,105,99,116,39] 32 kn2 aQ (.str [117,115,101,32,115,116,114,105,99,116]) kz0 true kz0,eY [32,39,117,115,101,32,115,116,114,105,99,116,39] 32 aQ (.str [117,115,101,32,115,116,114,105,99,116]) false,eN [32,102] 40,eY [39,117,115,101,32,115,116,114,105,99,116,39] 46 aQ (.str [117,115,101,32,115,116,114,105,99,116]) false,eX [10,39,117,115,101,32,115,116,114,105,99,116,39] 46 kn1 aQ (.str [117,115,101,32,115,116,114,105,99,116]) kz0 true kz0,eX [10,10,39,117,115,101,32,115,116,114,105,99,116,39] 46 kn2 aQ (.str [117,115,101,32,115,116,114,105,99,116]) kz0 true kz0,eY [32,39,117,115,101,32,115,116,114,105,99,116,39] 46 aQ (.str [117,115,101,32,115,116,114,105,99,116]) false,eP [32,59] 118,eP [32,59] 102,eP [32,59] 125,eN [32,101,118,97,108] 32,eN [32,101,118,97,108] 46,eN [101,118,97,108] 32,eX [10,101,118,97,108] 32 kn1 av (.str [101,118,97,108]) kz0 true kz0,eX [10,10,101,118,97,108] 32 kn2 av (.str [101,118,97,108]) kz0 true kz0,eN [101,118,97,108] 46,eP [32,59] 101,eN [32,97,114,103,117,109,101,110,116,115] 43]
theorem yw:bO A7:=fun cx tl=>by kernel_rfl
noncomputable def A6:List En:=[eN [32,97,114,103,117,109,101,110,116,115] 91,eP [91] 48,eY [48] 93 aR (.int 0) false,eP [93] 43,eN [97,114,103,117,109,101,110,116,115] 43,eX [10,97,114,103,117,109,101,110,116,115] 43 kn1 av (.str [97,114,103,117,109,101,110,116,115]) kz0 true kz0,eX [10,10,97,114,103,117,109,101,110,116,115] 43 kn2 av (.str [97,114,103,117,109,101,110,116,115]) kz0 true kz0,eN [97,114,103,117,109,101,110,116,115] 91,eP [32,59] 97,eP [32,45,45] 101,eN [101,118,97,108] 59,eP [32,45] 32,eP [32,45] 101,eP [45,45] 101,eX [10,45,45] 101 kn1 aV (.str [45,45]) kz0 true kz0,eX [10,10,45,45] 101 kn2 aV (.str [45,45]) kz0 true kz0,eP [32,59] 45,eP [32,43,61] 32,eN [32,97] 41,eN [32,101,118,97,108] 41,eN [32,97,114,103,117,109,101,110,116,115] 32,eK [32,116,114,121] 32,eN [101,118,97,108] 41,eP [32,59] 116,eN [32,101,118,97,108] 40]
theorem yv:bO A6:=fun cx tl=>by kernel_rfl
noncomputable def A5:List En:=[eN [32,101,118,105,108] 40,eN [32,97,114,103,117,109,101,110,116,115] 40,eP [32,59] 40,eP [40] 101,eN [32,120] 32,eP [32,59] 120,eK [32,100,101,108,101,116,101] 32,eK [100,101,108,101,116,101] 32,eX [10,100,101,108,101,116,101] 32 kn1 ak (.str [100,101,108,101,116,101]) kz0 true kz0,eX [10,10,100,101,108,101,116,101] 32 kn2 ak (.str [100,101,108,101,116,101]) kz0 true kz0,eP [32,59] 100,⟨[32,48,49,48],59,(.ofNat 0),[.str aR,.int 4620693217682128896,.ln (.ofNat 0),.bool false,.any 0,.any 0,.bool true,.bool true],(.ofNat 0)⟩,eY [32,49,48] 59 aR (.int 4621819117588971520) false,⟨[48,49,48],59,(.ofNat 0),[.str aR,.int 4620693217682128896,.ln (.ofNat 0),.bool false,.any 0,.any 0,.bool true,.bool true],(.ofNat 0)⟩,⟨[10,48,49,48],59,(.negSucc 0),[.str aR,.int 4620693217682128896,.ln (.ofNat 0),.bool true,.any 0,.any 0,.bool true,.bool true],(.ofNat 0)⟩,⟨[10,10,48,49,48],59,(.negSucc 1),[.str aR,.int 4620693217682128896,.ln (.ofNat 0),.bool true,.any 0,.any 0,.bool true,.bool true],(.ofNat 0)⟩,eY [49,48] 59 aR (.int 4621819117588971520) false,eP [32,59] 48,eP [32,59] 49,⟨[32,39,92,48,49,39],59,(.ofNat 0),[.str aQ,.str [1],.ln (.ofNat 0),.bool false,.any 0,.any 0,.bool true,.bool false],(.ofNat 0)⟩,⟨[32,39,92,48,39],59,(.ofNat 0),[.str aQ,.str [0],.ln (.ofNat 0),.bool false,.any 0,.any 0,.bool false,.bool false],(.ofNat 0)⟩,⟨[39,92,48,49,39],59,(.ofNat 0),[.str aQ,.str [1],.ln (.ofNat 0),.bool false,.any 0,.any 0,.bool true,.bool false],(.ofNat 0)⟩,⟨[10,39,92,48,49,39],59,(.negSucc 0),[.str aQ,.str [1],.ln (.ofNat 0),.bool true,.any 0,.any 0,.bool true,.bool false],(.ofNat 0)⟩,⟨[10,10,39,92,48,49,39],59,(.negSucc 1),[.str aQ,.str [1],.ln (.ofNat 0),.bool true,.any 0,.any 0,.bool true,.bool false],(.ofNat 0)⟩,⟨[39,92,48,39],59,(.ofNat 0),[.str aQ,.str [0],.ln (.ofNat 0),.bool false,.any 0,.any 0,.bool false,.bool false],(.ofNat 0)⟩]
theorem yu:bO A5:=fun cx tl=>by kernel_rfl
noncomputable def A4:List En:=[eP [32,59] 39,eP [32,123] 48,⟨[48,49,48],58,(.ofNat 0),[.str aR,.int 4620693217682128896,.ln (.ofNat 0),.bool false,.any 0,.any 0,.bool true,.bool true],(.ofNat 0)⟩,eP [32,123] 56,eY [56] 58 aR (.int 4620693217682128896) false,eP [32,123] 49,eY [49] 58 aR (.int 4607182418800017408) false,eN [32,108,101,116] 59,eP [46] 108,eN [108,101,116] 59,eN [32,108,101,116] 32,eP [32,123] 108,eN [108,101,116] 58,eN [108,101,116] 32,eX [10,108,101,116] 32 kn1 av (.str [108,101,116]) kz0 true kz0,eX [10,10,108,101,116] 32 kn2 av (.str [108,101,116]) kz0 true kz0,eP [32,59] 108,eN [32,108,101,116] 40,eP [40] 108,eN [108,101,116] 41,eY [39,108,101,116,39] 41 aQ (.str [108,101,116]) false,eN [32,108,101,116] 58,eN [32,108,101,116,115] 58,eX [10,108,101,116] 58 kn1 av (.str [108,101,116]) kz0 true kz0,eX [10,10,108,101,116] 58 kn2 av (.str [108,101,116]) kz0 true kz0]
theorem yt:bO A4:=fun cx tl=>by kernel_rfl
noncomputable def A3:List En:=[eN [108,101,116,115] 58,eN [32,102] 91,eP [91] 108,eN [108,101,116] 93,eN [32,102] 46,eN [108,101,116] 40,eN [102] 91,eX [10,102] 91 kn1 av (.str [102]) kz0 true kz0,eX [10,10,102] 91 kn2 av (.str [102]) kz0 true kz0,eN [102] 46,eN [32,115,116,97,116,105,99] 59,eP [46] 115,eN [115,116,97,116,105,99] 59,eN [32,115,116,97,116,105,99] 32,eN [115,116,97,116,105,99] 58,eN [115,116,97,116,105,99] 32,eX [10,115,116,97,116,105,99] 32 kn1 av (.str [115,116,97,116,105,99]) kz0 true kz0,eX [10,10,115,116,97,116,105,99] 32 kn2 av (.str [115,116,97,116,105,99]) kz0 true kz0,eP [32,59] 115,eN [32,115,116,97,116,105,99] 40,eP [40] 115,eN [115,116,97,116,105,99] 41,eY [39,115,116,97,116,105,99,39] 41 aQ (.str [115,116,97,116,105,99]) false,eN [32,115,116,97,116,105,99] 58,eN [32,115,116,97,116,105,99,115] 58]
theorem yr:bO A3:=fun cx tl=>by kernel_rfl
noncomputable def A2:List En:=[eX [10,115,116,97,116,105,99] 58 kn1 av (.str [115,116,97,116,105,99]) kz0 true kz0,eX [10,10,115,116,97,116,105,99] 58 kn2 av (.str [115,116,97,116,105,99]) kz0 true kz0,eN [115,116,97,116,105,99,115] 58,eP [91] 115,eN [115,116,97,116,105,99] 93,eN [115,116,97,116,105,99] 40,eN [32,121,105,101,108,100] 59,eP [46] 121,eN [121,105,101,108,100] 59,eN [32,121,105,101,108,100] 32,eP [32,123] 121,eN [121,105,101,108,100] 58,eN [121,105,101,108,100] 32,eX [10,121,105,101,108,100] 32 kn1 av (.str [121,105,101,108,100]) kz0 true kz0,eX [10,10,121,105,101,108,100] 32 kn2 av (.str [121,105,101,108,100]) kz0 true kz0,eP [32,59] 121,eN [32,121,105,101,108,100] 40,eP [40] 121,eN [121,105,101,108,100] 41,eY [39,121,105,101,108,100,39] 41 aQ (.str [121,105,101,108,100]) false,eN [32,121,105,101,108,100] 58,eN [32,121,105,101,108,100,115] 58,eX [10,121,105,101,108,100] 58 kn1 av (.str [121,105,101,108,100]) kz0 true kz0,eX [10,10,121,105,101,108,100] 58 kn2 av (.str [121,105,101,108,100]) kz0 true kz0,eN [121,105,101,108,100,115] 58]
theorem yq:bO A2:=fun cx tl=>by kernel_rfl
noncomputable def A1:List En:=[eP [91] 121,eN [121,105,101,108,100] 93,eN [121,105,101,108,100] 40,eN [32,112,117,98,108,105,99] 59,eP [46] 112,eN [112,117,98,108,105,99] 59,eN [32,112,117,98,108,105,99] 32,eP [32,123] 112,eN [112,117,98,108,105,99] 58,eN [112,117,98,108,105,99] 32,eX [10,112,117,98,108,105,99] 32 kn1 av (.str [112,117,98,108,105,99]) kz0 true kz0,eX [10,10,112,117,98,108,105,99] 32 kn2 av (.str [112,117,98,108,105,99]) kz0 true kz0,eP [32,59] 112,eN [32,112,117,98,108,105,99] 40,eP [40] 112,eN [112,117,98,108,105,99] 41,eY [39,112,117,98,108,105,99,39] 41 aQ (.str [112,117,98,108,105,99]) false,eN [32,112,117,98,108,105,99] 58,eN [32,112,117,98,108,105,99,115] 58,eX [10,112,117,98,108,105,99] 58 kn1 av (.str [112,117,98,108,105,99]) kz0 true kz0,eX [10,10,112,117,98,108,105,99] 58 kn2 av (.str [112,117,98,108,105,99]) kz0 true kz0,eN [112,117,98,108,105,99,115] 58,eP [91] 112,eN [112,117,98,108,105,99] 93,eN [112,117,98,108,105,99] 40]
theorem yp:bO A1:=fun cx tl=>by kernel_rfl
noncomputable def AZ:List En:=[eN [32,105,110,116,101,114,102,97,99,101] 59,eN [105,110,116,101,114,102,97,99,101] 59,eN [32,105,110,116,101,114,102,97,99,101] 32,eP [32,123] 105,eN [105,110,116,101,114,102,97,99,101] 58,eN [105,110,116,101,114,102,97,99,101] 32,eX [10,105,110,116,101,114,102,97,99,101] 32 kn1 av (.str [105,110,116,101,114,102,97,99,101]) kz0 true kz0,eX [10,10,105,110,116,101,114,102,97,99,101] 32 kn2 av (.str [105,110,116,101,114,102,97,99,101]) kz0 true kz0,eP [32,59] 105,eN [32,105,110,116,101,114,102,97,99,101] 40,eP [40] 105,eN [105,110,116,101,114,102,97,99,101] 41,eY [39,105,110,116,101,114,102,97,99,101,39] 41 aQ (.str [105,110,116,101,114,102,97,99,101]) false,eN [32,105,110,116,101,114,102,97,99,101] 58,eN [32,105,110,116,101,114,102,97,99,101,115] 58,eX [10,105,110,116,101,114,102,97,99,101] 58 kn1 av (.str [105,110,116,101,114,102,97,99,101]) kz0 true kz0,eX [10,10,105,110,116,101,114,102,97,99,101] 58 kn2 av (.str [105,110,116,101,114,102,97,99,101]) kz0 true kz0,eN [105,110,116,101,114,102,97,99,101,115] 58,eP [91] 105,eN [105,110,116,101,114,102,97,99,101] 93,eN [105,110,116,101,114,102,97,99,101] 40,eN [32,105,109,112,108,101,109,101,110,116,115] 59,eN [105,109,112,108,101,109,101,110,116,115] 59,eN [32,105,109,112,108,101,109,101,110,116,115] 32,eN [105,109,112,108,101,109,101,110,116,115] 58]
theorem yo:bO AZ:=fun cx tl=>by kernel_rfl
noncomputable def AY:List En:=[eN [105,109,112,108,101,109,101,110,116,115] 32,eX [10,105,109,112,108,101,109,101,110,116,115] 32 kn1 av (.str [105,109,112,108,101,109,101,110,116,115]) kz0 true kz0,eX [10,10,105,109,112,108,101,109,101,110,116,115] 32 kn2 av (.str [105,109,112,108,101,109,101,110,116,115]) kz0 true kz0,eN [32,105,109,112,108,101,109,101,110,116,115] 40,eN [105,109,112,108,101,109,101,110,116,115] 41,eY [39,105,109,112,108,101,109,101,110,116,115,39] 41 aQ (.str [105,109,112,108,101,109,101,110,116,115]) false,eN [32,105,109,112,108,101,109,101,110,116,115] 58,eN [32,105,109,112,108,101,109,101,110,116,115,115] 58,eX [10,105,109,112,108,101,109,101,110,116,115] 58 kn1 av (.str [105,109,112,108,101,109,101,110,116,115]) kz0 true kz0,eX [10,10,105,109,112,108,101,109,101,110,116,115] 58 kn2 av (.str [105,109,112,108,101,109,101,110,116,115]) kz0 true kz0,eN [105,109,112,108,101,109,101,110,116,115,115] 58,eN [105,109,112,108,101,109,101,110,116,115] 93,eN [105,109,112,108,101,109,101,110,116,115] 40,eN [32,112,97,99,107,97,103,101] 59,eN [112,97,99,107,97,103,101] 59,eN [32,112,97,99,107,97,103,101] 32,eN [112,97,99,107,97,103,101] 58,eN [112,97,99,107,97,103,101] 32,eX [10,112,97,99,107,97,103,101] 32 kn1 av (.str [112,97,99,107,97,103,101]) kz0 true kz0,eX [10,10,112,97,99,107,97,103,101] 32 kn2 av (.str [112,97,99,107,97,103,101]) kz0 true kz0,eN [32,112,97,99,107,97,103,101] 40,eN [112,97,99,107,97,103,101] 41,eY [39,112,97,99,107,97,103,101,39] 41 aQ (.str [112,97,99,107,97,103,101]) false,eN [32,112,97,99,107,97,103,101] 58,eN [32,112,97,99,107,97,103,101,115] 58]
theorem yn:bO AY:=fun cx tl=>by kernel_rfl
noncomputable def AX:List En:=[eX [10,112,97,99,107,97,103,101] 58 kn1 av (.str [112,97,99,107,97,103,101]) kz0 true kz0,eX [10,10,112,97,99,107,97,103,101] 58 kn2 av (.str [112,97,99,107,97,103,101]) kz0 true kz0,eN [112,97,99,107,97,103,101,115] 58,eN [112,97,99,107,97,103,101] 93,eN [112,97,99,107,97,103,101] 40,eN [32,112,114,105,118,97,116,101] 59,eN [112,114,105,118,97,116,101] 59,eN [32,112,114,105,118,97,116,101] 32,eN [112,114,105,118,97,116,101] 58,eN [112,114,105,118,97,116,101] 32,eX [10,112,114,105,118,97,116,101] 32 kn1 av (.str [112,114,105,118,97,116,101]) kz0 true kz0,eX [10,10,112,114,105,118,97,116,101] 32 kn2 av (.str [112,114,105,118,97,116,101]) kz0 true kz0,eN [32,112,114,105,118,97,116,101] 40,eN [112,114,105,118,97,116,101] 41,eY [39,112,114,105,118,97,116,101,39] 41 aQ (.str [112,114,105,118,97,116,101]) false,eN [32,112,114,105,118,97,116,101] 58,eN [32,112,114,105,118,97,116,101,115] 58,eX [10,112,114,105,118,97,116,101] 58 kn1 av (.str [112,114,105,118,97,116,101]) kz0 true kz0,eX [10,10,112,114,105,118,97,116,101] 58 kn2 av (.str [112,114,105,118,97,116,101]) kz0 true kz0,eN [112,114,105,118,97,116,101,115] 58,eN [112,114,105,118,97,116,101] 93,eN [112,114,105,118,97,116,101] 40,eN [32,112,114,111,116,101,99,116,101,100] 59,eN [112,114,111,116,101,99,116,101,100] 59,eN [32,112,114,111,116,101,99,116,101,100] 32]
theorem ym:bO AX:=fun cx tl=>by kernel_rfl
noncomputable def AW:List En:=[eN [112,114,111,116,101,99,116,101,100] 58,eN [112,114,111,116,101,99,116,101,100] 32,eX [10,112,114,111,116,101,99,116,101,100] 32 kn1 av (.str [112,114,111,116,101,99,116,101,100]) kz0 true kz0,eX [10,10,112,114,111,116,101,99,116,101,100] 32 kn2 av (.str [112,114,111,116,101,99,116,101,100]) kz0 true kz0,eN [32,112,114,111,116,101,99,116,101,100] 40,eN [112,114,111,116,101,99,116,101,100] 41,eY [39,112,114,111,116,101,99,116,101,100,39] 41 aQ (.str [112,114,111,116,101,99,116,101,100]) false,eN [32,112,114,111,116,101,99,116,101,100] 58,eN [32,112,114,111,116,101,99,116,101,100,115] 58,eX [10,112,114,111,116,101,99,116,101,100] 58 kn1 av (.str [112,114,111,116,101,99,116,101,100]) kz0 true kz0,eX [10,10,112,114,111,116,101,99,116,101,100] 58 kn2 av (.str [112,114,111,116,101,99,116,101,100]) kz0 true kz0,eN [112,114,111,116,101,99,116,101,100,115] 58,eN [112,114,111,116,101,99,116,101,100] 93,eN [112,114,111,116,101,99,116,101,100] 40,eK [116,104,114,111,119] 10,eX [10,49] 59 kz0 aR (.int 4607182418800017408) kz1 true kz1,eX [59] 0 kz1 aV (.str [59]) kz1 false kz1]
theorem yl:bO AW:=fun cx tl=>by kernel_rfl
noncomputable def tbs:List (List En):=[tb0,tb1,tb2,tb3,tb4,tb5,tb6,tb7,tb8,tb9,Ba,A9,A8,A7,A6,A5,A4,A3,A2,A1,AZ,AY,AX,AW]
noncomputable def ent (i:Nat):En:=af (eE [] 0) (af [] tbs (Nat.div i 25)) (Nat.mod i 25)
theorem EC:dO (eE [] 0):=fun cx tl=>by kernel_rfl
theorem iD {α : Type}{d : α}{P : α→Prop}(hd:P d):∀ {l:List α}{i:Nat},(∀ x∈l,P x)→P (af d l i)
 | [],_,_=>hd
 | _::_,0,h=>h _ (.head _)
 | _::_,i+1,h=>iD (i:=i) hd fun x hx=>h x (.tail _ hx)
theorem AN:∀ t∈tbs,bO t:=by
 intro t ht;rcases List.mem_cons.mp ht with rfl | ht;exact Bb
 rcases List.mem_cons.mp ht with rfl | ht;exact A0
 rcases List.mem_cons.mp ht with rfl | ht;exact AV
 rcases List.mem_cons.mp ht with rfl | ht;exact AU
 rcases List.mem_cons.mp ht with rfl | ht;exact AT
 rcases List.mem_cons.mp ht with rfl | ht;exact AS
 rcases List.mem_cons.mp ht with rfl | ht;exact AR
 rcases List.mem_cons.mp ht with rfl | ht;exact AQ
 rcases List.mem_cons.mp ht with rfl | ht;exact AP
 rcases List.mem_cons.mp ht with rfl | ht;exact AO
 rcases List.mem_cons.mp ht with rfl | ht;exact yz
 rcases List.mem_cons.mp ht with rfl | ht;exact yy
 rcases List.mem_cons.mp ht with rfl | ht;exact yx
 rcases List.mem_cons.mp ht with rfl | ht;exact yw
 rcases List.mem_cons.mp ht with rfl | ht;exact yv
 rcases List.mem_cons.mp ht with rfl | ht;exact yu
 rcases List.mem_cons.mp ht with rfl | ht;exact yt
 rcases List.mem_cons.mp ht with rfl | ht;exact yr
 rcases List.mem_cons.mp ht with rfl | ht;exact yq
 rcases List.mem_cons.mp ht with rfl | ht;exact yp
 rcases List.mem_cons.mp ht with rfl | ht;exact yo
 rcases List.mem_cons.mp ht with rfl | ht;exact yn
 rcases List.mem_cons.mp ht with rfl | ht;exact ym
 rcases List.mem_cons.mp ht with rfl | ht;exact yl
 cases ht
theorem c6 (i:Nat):dO (ent i):=by
 have h:bO (af [] tbs (Nat.div i 25)):=iD (fun ε ε =>rfl) AN;exact iD EC (CM h)
end Mine
end
end
section
open PySem PySem.W PySem.Calls PyProof.Rows Hd
noncomputable section
namespace Mine
noncomputable def w9 (es:List En):List Nat:=@List.rec En (fun ε =>List Nat) [] (fun e ε ih=>apL e.pre ih) es
noncomputable def pV (fs:List U):List U:=match fs with
 | a::b::c::_::r=>a::b::c::.any 0::r
 | fs=>fs
noncomputable def gR (a:Nat):List Nat:=@Nat.rec (fun ε =>List Nat) [] (fun ε ih=>10::ih) a
noncomputable def ri (b:Nat):List Nat:=af [] [[],[10],[10,59]] b
structure Ru where
 b:List Nat
 bm:List Nat
 g:List Nat
 gm:List Nat
 gl:List Nat
noncomputable def bV (l:List Nat) (a:Nat):En:=ent (af 0 l a)
noncomputable def nbq (a b:Nat):Bool:=Nat.beq a b
theorem gG {a b:Nat}(h:nbq a b=true):a=b:=Nat.eq_of_beq_eq_true h
noncomputable def Ru.bt (r:Ru):List Nat:=w9 (bV r.b 0::mpL ent r.bm)
noncomputable def Ru.gt (r:Ru):List Nat:=w9 (bV r.g 0::apL (mpL ent r.gm) [bV r.gl 0])
noncomputable def oh (b:Nat):En:=IF (Nat.beq b 0) (ent 3) (ent 7)
noncomputable def n9 (b:Nat):List En:=af [] [[ent 4],[ent 8],[ent 10,ent 11]] b
noncomputable def esB (r:Ru) (a b:Nat):List En:=bV r.b a::apL (mpL ent r.bm) [oh b]
noncomputable def gsB (r:Ru):List (List U):=pV (bV r.b 0).fs::apL (fsE (mpL ent r.bm)) [(oh 0).fs]
noncomputable def esG (r:Ru) (a b:Nat):List En:=bV r.g a::apL (mpL ent r.gm) (bV r.gl b::n9 b)
noncomputable def gsG (r:Ru) (b:Nat):List (List U):=pV (bV r.g 0).fs::apL (fsE (mpL ent r.gm)) ((bV r.gl b).fs::fsE (n9 b))
noncomputable def txB (r:Ru) (a b:Nat):List Nat:=apL (gR a) (apL r.bt (apL [32,59] (ri b)))
noncomputable def txG (r:Ru) (a b:Nat):List Nat:=apL (gR a) (apL r.gt (ri b))
noncomputable def im (cx:Cx) (gs:List (List U)):Nat:=gk (cX cx (jF (gs.map (U.obj 1))) 20)
noncomputable def mL (T:List Nat) (a:Nat) (es:List En) (gs:List (List U)):Bool:=IF (Nat.ble (aF T) 59999) (IF (chn es T (kOf a)) (jw au0 (fsE es) gs) false) false
noncomputable def ab9:List (Nat×Nat):=(List.range 3).flatMap fun a=>(List.range 3).map fun b=>(a,b)
theorem x5 {a b:Nat}(ha:a<3) (hb:b<3):(a,b)∈ab9:=List.mem_flatMap.mpr ⟨a,List.mem_range.mpr ha,List.mem_map.mpr ⟨b,List.mem_range.mpr hb,rfl⟩⟩
noncomputable def EW (r:Ru):Bool:=ab9.all fun q=>IF (mL (txB r q.1 q.2) q.1 (esB r q.1 q.2) (gsB r)) (mL (txG r q.1 q.2) q.1 (esG r q.1 q.2) (gsG r q.2)) false
noncomputable def BN (cx:Cx) (r:Ru):Bool:=IF (nbq (im cx (gsB r)) 2) ((List.range 3).all fun b=>nbq (im cx (gsG r b)) 0) false
noncomputable def dX (t:List Ru):Prop:=t.all EW=true∧∀ cx,t.all (BN cx)=true
noncomputable def ru0:List Ru:=[⟨[0,12,14],[1,2],[5,13,15],[2,1],[6,9,9]⟩,⟨[0,12,14],[16,2],[0,12,14],[17,1],[6,9,9]⟩,⟨[18,21,22],[5,2],[18,21,22],[19,20],[6,9,9]⟩,⟨[23,29,30],[24,25,1,2],[23,29,30],[24,25,26,27,28],[6,9,9]⟩,⟨[31,40,41],[32,33,34,35,2],[31,40,41],[32,33,36,37,38,39,35],[6,9,9]⟩,⟨[31,40,41],[32,33,0,42,35,2],[31,40,41],[32,43,44,37,38,25,45,37,46,25,47,37,48,35],[6,9,9]⟩,⟨[31,40,41],[32,33,36,37,49,50,37,51,35,2],[31,40,41],[32,33,36,37,38,25,50,37,51,35],[6,9,9]⟩,⟨[52,56,57],[53,2],[52,56,57],[54,55],[6,9,9]⟩,⟨[58,62,63],[59,28,2],[58,62,63],[60,61,28],[6,9,9]⟩,⟨[64,68,69],[65,66,20,2],[64,68,69],[67,20],[6,9,9]⟩,⟨[64,68,69],[18,24,66,20,2],[64,68,69],[18,24,25,70,20],[6,9,9]⟩,⟨[64,68,69],[18,0,70,20,2],[64,68,69],[18,19,71,72,73,20],[6,9,9]⟩,⟨[74,77,79],[2],[75,78,80],[76],[6,9,9]⟩,⟨[75,78,80],[81,53,2],[75,78,80],[81,82,83,84,85,86,87,88],[6,9,9]⟩,⟨[0,12,14],[89,1,2],[0,12,14],[89,90,91,92],[6,9,9]⟩]
theorem BU:dX ru0:=⟨by kernel_rfl,fun cx=>by kernel_rfl⟩
noncomputable def ru1:List Ru:=[⟨[0,12,14],[89,90,91,93],[0,12,14],[89,94,95,25,96,97,91,92],[6,9,9]⟩,⟨[0,12,14],[89,98,25,99,91,100,2],[0,12,14],[89,90,91,101,25,100],[6,9,9]⟩,⟨[102,104,105],[32,76,2],[0,12,14],[32,103],[6,9,9]⟩,⟨[0,12,14],[17,90,32,92,2],[0,12,14],[32,90,17,92],[6,9,9]⟩,⟨[0,12,14],[89,90,91,99,32,106,32,49,32,107,2],[0,12,14],[89,90,91,99,32,106,32,103],[6,9,9]⟩,⟨[108,111,113],[109,2],[110,112,114],[5],[6,9,9]⟩,⟨[115,119,120],[116,117,2],[115,119,120],[116,17,118,5],[6,9,9]⟩,⟨[121,126,128],[122,123,2],[124,127,129],[125,5],[6,9,9]⟩,⟨[115,119,120],[116,32,103,2],[52,56,57],[82,130,131],[6,9,9]⟩,⟨[132,135,137],[2],[133,136,138],[134,76],[6,9,9]⟩,⟨[139,142,144],[32,103,2],[140,143,145],[141,0,32,103],[6,9,9]⟩,⟨[146,148,149],[32,103,2],[0,12,14],[32,147],[6,9,9]⟩,⟨[150,151,152],[32,103,2],[52,56,57],[54,150,32,103],[6,9,9]⟩,⟨[153,155,157],[2],[154,156,158],[],[6,9,9]⟩,⟨[0,12,14],[159,2],[0,12,14],[160,1],[6,9,9]⟩]
theorem BS:dX ru1:=⟨by kernel_rfl,fun cx=>by kernel_rfl⟩
noncomputable def ru2:List Ru:=[⟨[31,40,41],[32,161,162,163,37,42,35,2],[31,40,41],[32,161,164,37,38,25,165,37,51,35],[6,9,9]⟩,⟨[31,40,41],[32,161,162,166,72,73,97,167,168,35,2],[31,40,41],[32,161,162,166,67,97,167,168,35],[6,9,9]⟩,⟨[31,40,41],[32,169,170,166,67,97,167,168,35,2],[31,40,41],[32,169,170,166,72,73,97,167,168,35],[6,9,9]⟩,⟨[31,40,41],[32,169,170,166,72,95,25,171,97,167,168,35,2],[31,40,41],[32,161,162,172,67,97,167,173,25,174,175,72,73,97,167,168,35],[6,9,9]⟩,⟨[31,40,41],[32,33,36,37,38,25,176,166,67,97,167,168,35,2],[31,40,41],[32,33,36,37,38,25,176,177,67,97,167,168,35],[6,9,9]⟩,⟨[31,40,41],[32,161,162,166,67,97,167,173,25,163,37,42,35,2],[31,40,41],[32,161,162,166,67,97,167,173,25,174,166,72,73,97,167,168,35],[6,9,9]⟩,⟨[31,40,41],[32,169,170,166,72,73,97,167,173,25,174,166,72,73,97,167,168,35,2],[31,40,41],[32,33,36,37,38,25,163,37,51,35],[6,9,9]⟩,⟨[31,40,41],[32,161,162,175,67,97,167,173,25,178,37,42,35,2],[31,40,41],[32,161,162,175,67,97,167,173,25,179,37,42,35],[6,9,9]⟩,⟨[180,184,185],[181,182,167,183,20,2],[180,184,185],[181,166,67,97,167,183,20],[6,9,9]⟩,⟨[24,186,187],[25,93],[24,186,187],[25,1],[6,9,9]⟩,⟨[188,190,191],[103,2],[188,190,191],[189],[6,9,9]⟩,⟨[188,190,191],[182,1,2],[188,190,191],[192,25,90,32,103],[6,9,9]⟩,⟨[188,190,191],[193,2],[188,190,191],[194],[6,9,9]⟩,⟨[195,199,201],[],[196,200,202],[],[197,198,198]⟩,⟨[203,207,208],[5,2,204,205],[203,207,208],[5,206],[197,198,198]⟩]
theorem BR:dX ru2:=⟨by kernel_rfl,fun cx=>by kernel_rfl⟩
noncomputable def ru3:List Ru:=[⟨[209,214,215],[210,211,97,93],[209,214,215],[210,212,211,97,213],[6,9,9]⟩,⟨[209,214,215],[216,188,192,25,90,160,171,97,93],[209,214,215],[216,188,182,160,171,97],[3,7,7]⟩,⟨[209,214,215],[217,0,17,49,160,171,97,93],[209,214,215],[217,52,82,218,160,171,97],[3,7,7]⟩,⟨[209,214,215],[217,0,160,1,2,92,211,97,93],[209,214,215],[219,18,0,160,70,20,2,92,211,97,213],[6,9,9]⟩,⟨[209,214,215],[217,0,70,97,93],[209,214,215],[217,0,160,98,25,171,97],[3,7,7]⟩,⟨[209,214,215],[216,188,182,32,49,171,97,93],[209,214,215],[216,188,182,32,49,160,171,97],[3,7,7]⟩,⟨[220,221,222],[76,2],[220,221,222],[217,19,97,213],[6,9,9]⟩,⟨[223,225,226],[182,224,94,73,20,2],[223,225,226],[76,2,224,94,73,20],[6,9,9]⟩,⟨[223,225,226],[76,2,227,94,73,20,2],[223,225,226],[167,195,224,94,73,20],[6,9,9]⟩,⟨[150,151,152],[217,19,97,228,1,2],[150,151,152],[217,19,97,93,228,1],[6,9,9]⟩,⟨[229,230,231],[76,2],[150,151,152],[217,19,97,1],[6,9,9]⟩,⟨[232,237,238],[217,19,97,233,234,206,195],[232,237,238],[217,19,97,235,236,50,37,92,206],[197,198,198]⟩,⟨[232,237,238],[217,19,97,239,240,37,241,242,195],[232,237,238],[217,19,97,239,240,37,243,244,242],[197,198,198]⟩,⟨[232,237,238],[217,19,97,235,245,37,205],[232,237,238],[217,19,97,167],[197,198,198]⟩,⟨[246,248,249],[167,195,93],[246,248,249],[167,195,247,167],[197,198,198]⟩]
theorem BQ:dX ru3:=⟨by kernel_rfl,fun cx=>by kernel_rfl⟩
noncomputable def ru4:List Ru:=[⟨[246,248,249],[167,195,250,167,195],[246,248,249],[167,195,250,251,252,97,167],[197,198,198]⟩,⟨[246,248,249],[167,195,247,167,195,250,251,252,97,167,195],[246,248,249],[167,195,250,251,252,97,167,195,247,167],[197,198,198]⟩,⟨[246,248,249],[76,2,250,251,252,97,167,195],[246,248,249],[33,34,195,250,251,252,97,167],[197,198,198]⟩,⟨[253,255,257],[2],[254,256,258],[76],[6,9,9]⟩,⟨[259,264,265],[2],[180,184,185],[181,260,97,261,262,2,263,20],[6,9,9]⟩,⟨[266,268,269],[76,2],[180,184,185],[181,260,97,261,267,182,263,20],[6,9,9]⟩,⟨[270,271,272],[2],[220,221,222],[217,19,97,213],[6,9,9]⟩,⟨[232,237,238],[217,19,97,235,236,244,37,273,206,195],[232,237,238],[217,19,97,235,236,244,37,213,206],[197,198,198]⟩,⟨[274,275,276],[2],[223,225,226],[273,2,224,217,19,20],[6,9,9]⟩,⟨[36,278,279],[37,277,1,2],[36,278,279],[37,277,76],[6,9,9]⟩,⟨[36,278,279],[37,280,76,2],[36,278,279],[37,224,94,73,97,280,76],[6,9,9]⟩,⟨[36,278,279],[37,261,280,76,2,205],[36,278,279],[37,50,37,281,210,212,211,97,261,280,76,2],[282,283,283]⟩,⟨[36,278,279],[37,163,37,93],[36,278,279],[37,93,163,37],[3,7,7]⟩,⟨[220,221,222],[217,19,97,284,181,260,97,261,213,2,263,20,2],[180,184,185],[181,260,97,261,224,217,19,97,213,2,263,20],[6,9,9]⟩,⟨[220,221,222],[217,19,97,284,181,260,97,261,273,2,263,20,2],[220,221,222],[217,19,97,261,284,181,260,97,167,183,20,2,273,2],[282,283,283]⟩]
theorem BP:dX ru4:=⟨by kernel_rfl,fun cx=>by kernel_rfl⟩
noncomputable def ru5:List Ru:=[⟨[36,278,279],[37,284,181,260,97,261,277,76,2,263,20,2],[36,278,279],[37,284,181,260,97,261,163,37,277,76,2,263,20],[6,9,9]⟩,⟨[220,221,222],[217,19,97,93,213,2],[220,221,222],[217,19,97,261,224,94,73,97,93,213,2],[282,283,283]⟩,⟨[232,237,238],[217,19,97,167,195,213,2],[220,221,222],[94,73,97,261,285,217,19,97,167,195,273,2],[282,283,283]⟩,⟨[36,278,279],[37,93,224,94,73,97,277,76,2],[36,278,279],[37,224,94,73,97,277,76],[6,9,9]⟩,⟨[181,286,287],[217,19,97,167,195],[181,286,287],[166,67,97,167],[197,198,198]⟩,⟨[181,286,287],[166,72,95,66,97,167,195],[181,286,287],[166,72,95,25,171,97,167],[197,198,198]⟩,⟨[181,286,287],[166,288,289,97,167,195],[181,286,287],[166,18,19,97,167],[197,198,198]⟩,⟨[150,151,152],[217,19,97,290,177,67,97,167,195],[181,286,287],[177,67,97,167],[197,198,198]⟩,⟨[291,292,293],[290,177,67,97,167,195,205],[180,184,185],[181,260,97,261,290,177,67,97,167,195,263,20],[6,9,9]⟩,⟨[294,295,296],[217,19,97,1,2],[52,56,57],[82,234],[6,9,9]⟩,⟨[297,299,301],[76,2],[298,300,302],[],[6,9,9]⟩,⟨[180,184,185],[181,260,97,167,183,97,262,2],[180,184,185],[181,260,97,167,183,20],[6,9,9]⟩,⟨[36,278,279],[37,261,224,94,73,97,93,205,280,76,2],[36,278,279],[37,224,94,73,97,261,303,37,224,304,305,97,280,76,2],[282,283,283]⟩,⟨[180,184,185],[181,260,97,261,267,263,97,93,262,2],[188,190,191],[182,32,290,260,97,261,267,306],[6,9,9]⟩]
theorem BO:dX ru5:=⟨by kernel_rfl,fun cx=>by kernel_rfl⟩
noncomputable def rus:List Ru:=ru0++(ru1++(ru2++(ru3++(ru4++(ru5)))))
theorem dX.app {a b:List Ru}(h:dX a) (k:dX b):dX (a++b):=⟨by rw [List.all_append,h.1,k.1];rfl,fun cx=>by rw [List.all_append,h.2,k.2];rfl⟩
theorem tV:dX rus:=(dX.app BU (dX.app BS (dX.app BR (dX.app BQ (dX.app BP BO)))))
theorem gW {T:List Nat}{a c:Nat}{es:List En}{gs:List (List U)}(hes:∀ e∈es,dO e) (h:mL T a es gs=true) (hr:∀ cx,im cx gs=c) (hc:cdB c=true):bj T (dq (a+1) c):=by
 obtain ⟨h1,h2⟩:=ai h;obtain ⟨h3,h4⟩:=ai h2;have:=Nat.le_of_ble_eq_true h1;rw [aA] at this;exact xH (pS Cf hes h3 h4) (by omega) hr hc
theorem eB (l:List Nat):∀ e∈mpL ent l,dO e:=fun e he=>by
 rw [t8] at he;cb_eq;rcases List.mem_map.mp he with ⟨i,_,rfl⟩;by_in;exact c6 i
theorem bK {P:En→Prop}{e:En}{es:List En}(h:P e) (k:∀ x∈es,P x):∀ x∈e::es,P x:=fun x hx=>by
 rcases List.mem_cons.mp hx with rfl | hx
 ·exact h
 ·exact k x hx
theorem fe {P:En→Prop}:∀ x∈([]:List En),P x:=fun x h=>nomatch h
theorem ji {P:En→Prop}{a b:List En}(h:∀ x∈a,P x) (k:∀ x∈b,P x):∀ x∈apL a b,P x:=fun x hx=>(List.mem_append.mp (aW a b▸hx)).elim (h x) (k x)
theorem yH (b:Nat):dO (oh b):=by unfold oh;cases Nat.beq b 0<;>exact c6 _
theorem yA (b:Nat):∀ e∈n9 b,dO e:=by
 unfold n9;refine iD (P:=fun (l:List En)=>∀ e∈l,dO e) fe fun l hl=>?_;rcases List.mem_cons.mp hl with rfl | hl
 ·exact bK (c6 _) fe
 rcases List.mem_cons.mp hl with rfl | hl
 ·exact bK (c6 _) fe
 rcases List.mem_cons.mp hl with rfl | hl
 ·exact bK (c6 _) (bK (c6 _) fe)
 ·cases hl
theorem se {r:Ru}(hr:r∈rus){a b:Nat}(ha:a<3) (hb:b<3):bj (txB r a b) (dq (a+1) 2)∧bj (txG r a b) (dq (a+1) 0):=by
 have h1:=List.all_eq_true.mp tV.1 r hr;have h2:=fun cx=>ai (show IF (nbq (im cx (gsB r)) 2) ((List.range 3).all fun b=>nbq (im cx (gsG r b)) 0) false=true from List.all_eq_true.mp (tV.2 cx) r hr);have hm:=x5 ha hb;obtain ⟨k1,k2⟩:=ai (show IF (mL (txB r a b) a (esB r a b) (gsB r)) (mL (txG r a b) a (esG r a b) (gsG r b)) false=true from List.all_eq_true.mp h1 _ hm);refine ⟨gW (bK (c6 _) (ji (eB _) (bK (yH _) fe))) k1 (fun cx=>gG (h2 cx).1) rfl,gW (bK (c6 _) (ji (eB _) (bK (c6 _) (yA b)))) k2 (fun cx=>gG (List.all_eq_true.mp (h2 cx).2 b (List.mem_range.mpr hb))) rfl⟩
end Mine
end
end
section
open PySem PySem.W PySem.Calls PyProof.Rows Hd
noncomputable section
namespace Mine
structure Ct where
 P:List Nat
 Q:List Nat
 p3:List Nat
 pm:List Nat
 q:List Nat
 c:Nat
 t:Nat
structure Sr where
 f:List Nat
 m:List Nat
 l:List Nat
 w:Nat
 z:Nat
noncomputable def Sr.st (s:Sr):List Nat:=w9 (bV s.f 0::apL (mpL ent s.m) [bV s.l 0])
noncomputable def t0S (s:Sr):List U:=pV (bV s.f 0).fs
noncomputable def j8 (s:Sr):List (List U):=fsE (apL (mpL ent s.m) [bV s.l 0])
noncomputable def nB (l:List Nat) (x y:Nat):Nat:=@List.rec Nat (fun ε =>Nat) x (fun ε ε ε =>y) l
noncomputable def gp0 (c:Ct):List (List U):=@List.rec Nat (fun ε =>List (List U)) [] (fun ε ε ε =>pV (bV c.p3 0).fs::fsE (mpL ent c.pm)) c.p3
noncomputable def gzT (b:Bool):List (List U):=IF b [(eP [59] 0).fs] []
noncomputable def gpC (c:Ct):List (List U):=apL (gp0 c) (gzT (Nat.beq c.t 1))
noncomputable def gqC (c:Ct):List (List U):=fsE (mpL ent c.q)
noncomputable def pe0 (c:Ct) (a:Nat):List En:=@List.rec Nat (fun ε =>List En) [] (fun ε ε ε =>bV c.p3 a::mpL ent c.pm) c.p3
noncomputable def iC (c:Ct) (a:Nat):Nat:=IF (Nat.beq c.t 1) 4 (nB c.p3 a 3)
noncomputable def wI (i:Nat):List Nat:=af [] [[],[10],[10,10],[32],[32,59]] i
noncomputable def kI (i:Nat):Int:=af (.ofNat 0) [.ofNat 0,.negSucc 0,.negSucc 1] i
noncomputable def jI (i:Nat):Nat:=af 0 [0,1,2,3] i
noncomputable def tQ (z:Bool):List Nat:=IF z [] [32]
noncomputable def txC (c:Ct) (s:Sr) (a:Nat):List Nat:=apL (gR a) (apL c.P (apL s.st c.Q))
noncomputable def mkS (w:Nat):List U:=[.str (IF (Nat.beq w 1) av ak),.any 1,.ln (.ofNat 0),.any 0,.any 7,.any 0,.bool false,.bool true]
noncomputable def auV (v:Option U):Nat→Option U:=fun i=>IF (Nat.beq i 1) v none
noncomputable def pw (s:Sr):List U:=IF (Nat.beq s.w 0) (t0S s) (mkS s.w)
noncomputable def vS (s:Sr):Option U:=IF (Nat.beq s.w 0) none (some (af .unb (t0S s) 1))
noncomputable def B5 (s:Sr):Bool:=IF (Nat.beq s.w 0) true (IF (IF (Nat.beq s.w 1) true (Nat.beq s.w 2)) (IF (mX (af .unb (t0S s) 1)) (stL (auV (some (af .unb (t0S s) 1))) (mkS s.w) (t0S s)) false) false)
noncomputable def nxZ (z:Bool) (n:Nat) (r:List Nat):Bool:=IF (nxB n r) (IF (Nat.beq n 0) z true) false
noncomputable def chR (z:Bool) (w:List Nat) (k1:Int) (es:List En):List Nat→Int→Bool:=@List.rec En (fun ε =>List Nat→Int→Bool) (fun r k=>IF (aN r w) (eqI k k1) false)
 (fun e ε ih r k=>@Option.rec (List Nat) (fun ε =>Bool) false (fun r'=>IF (nxZ z e.nx r') (IF (eqI k e.k) (ih r' e.k') false) false) (dZ e.pre r)) es
noncomputable def esS (s:Sr) (z:Bool) (i:Nat):List En:=apL (IF (Nat.beq i 4) [ent s.z] []) (bV s.f (jI i)::apL (mpL ent s.m) [bV s.l (IF z 0 1)])
noncomputable def smB (s:Sr) (z:Bool) (i:Nat):Bool:=IF (chR z (tQ z) (.ofNat 0) (esS s z i) (apL (wI i) (apL s.st (tQ z))) (kI i)) (jw (auV (vS s)) (fsE (esS s z i)) (apL (gzT (Nat.beq i 4)) (pw s::j8 s))) false
noncomputable def iL (bad:Bool):List Nat:=IF bad [0,1,2,3,4] [0,3,4]
noncomputable def ctB (bad:Bool) (v:Option U) (c:Ct) (a:Nat):Bool:=IF (Nat.ble (aF (apL (gR a) c.P)) 9999) (IF (Nat.ble (aF c.Q) 9999) (IF ((iL bad).any (Nat.beq (iC c a))) (IF (IF (Nat.beq (iC c a) 4) (Nat.beq c.t 1) (Bool.not (Nat.beq c.t 1)))
 (IF (chR false (wI (iC c a)) (kI (iC c a)) (pe0 c a) (apL (gR a) c.P) (kOf a)) (IF (jw (auV v) (fsE (pe0 c a)) (gp0 c)) (IF (chn (mpL ent c.q) c.Q (.ofNat 0)) (IF (jw (auV v) (gqC c) (gqC c)) (@Option.rec (List Nat) (fun ε =>Bool) false (fun ε =>true) (dZ (tQ (br c.Q)) c.Q)) false) false) false) false) false) false) false) false
noncomputable abbrev Ek:=Bool×Int×List U×Nat
noncomputable def gi (l:List Ek) (b:Bool) (d:Int) (f:U):Nat:=@List.rec Ek (fun ε =>Nat) 1 (fun e ε ih=>IF (IF b e.1 (Bool.not e.1)) (IF (eqI d e.2.1) (IF (Eo f e.2.2.1) e.2.2.2 ih) ih) ih) l
theorem qB {b:Bool}{d:Int}{f:List U}{n:Nat}(hn:n=0∨n=2):∀ {l:List Ek},gi l b d (.obj 1 f)=n→(b,d,f,n)∈l
 | [],h=>by
  have h':1=n:=h;omega
 | (b',d',f',n')::l,h=>by
  have h':IF (IF b b' (Bool.not b')) (IF (eqI d d') (IF (dS f f') n' (gi l b d (.obj 1 f))) (gi l b d (.obj 1 f))) (gi l b d (.obj 1 f))=n:=h;have ih:=qB (b:=b) (d:=d) (f:=f) hn (l:=l)
  cases q1:IF b b' (Bool.not b') with
  | false=>rw [q1] at h';exact .tail _ (ih h')
  | true =>
   rw [q1] at h'
   cases q2:eqI d d' with
   | false =>
    have h2:IF (eqI d d') (IF (dS f f') n' (gi l b d (.obj 1 f))) (gi l b d (.obj 1 f))=n:=h';rw [q2] at h2;exact .tail _ (ih h2)
   | true =>
    have h2:IF (eqI d d') (IF (dS f f') n' (gi l b d (.obj 1 f))) (gi l b d (.obj 1 f))=n:=h';rw [q2] at h2
    cases q3:dS f f' with
    | false =>
     have h3:IF (dS f f') n' (gi l b d (.obj 1 f))=n:=h2;rw [q3] at h3;exact .tail _ (ih h3)
    | true =>
     have h3:IF (dS f f') n' (gi l b d (.obj 1 f))=n:=h2;rw [q3] at h3;have h4:n'=n:=h3;obtain rfl:=nj q1;obtain rfl:=cI q2;obtain rfl:=iJ q3;rw [h4];exact .head _
noncomputable def tRB:List U:=[.str aV,.str [125],.ln (.ofNat 0),.bool false,.any 0,.any 0,.bool false,.bool true]
noncomputable def tEN:List U:=[.str sU,.str [],.ln (.ofNat 0),.bool false,.any 0,.any 0,.bool false,.bool true]
noncomputable def Fc:List Ek:=[(true,.ofNat 0,tEN,2),(true,.ofNat 1,tRB,2),(true,.ofNat 2,tRB,2),(false,.ofNat 0,tEN,0),(false,.ofNat 1,tRB,0),(false,.ofNat 2,tRB,0)]
noncomputable def Et:List Ek:=[(true,.ofNat 0,tEN,0),(true,.ofNat 1,tRB,0),(false,.ofNat 0,tEN,0),(false,.ofNat 1,tRB,0)]
noncomputable def sC (bad:Bool):List Ek:=IF bad Fc Et
noncomputable def CP (cx:Cx) (s:Sr) (e:Ek):Nat:=nk e.1 e.2.1 e.2.2.1 (na cx (t0S s) e.1 e.2.1 ((j8 s).map (U.obj 1)++[.obj 1 e.2.2.1,.any 8]))
noncomputable def mF (cx:Cx) (bad:Bool) (w:Nat) (c:Ct):Nat:=gk (cX cx (mP (mkS w) (gi (sC bad)) ((gpC c).map (U.obj 1)++(.obj 1 (mkS w)::.any 9::(gqC c).map (U.obj 1)))) 100)
noncomputable def BK (cx:Cx) (s:Sr) (c:Ct):Nat:=im cx (apL (gpC c) (apL [t0S s] (apL (j8 s) (gqC c))))
noncomputable def cOf (bad:Bool) (c:Ct):Nat:=IF bad c.c 0
noncomputable def cT:List Ct:=[⟨[39,117,115,101,32,115,116,114,105,99,116,39,59,32],[],[307,310,311],[2],[4],2,0⟩,⟨[102,117,110,99,116,105,111,110,32,103,40,41,32,123,32,39,117,115,101,32,115,116,114,105,99,116,39,59,32],[32,125],[181,286,287],[313,67,97,261,314,2],[282,4],2,0⟩,⟨[40,102,117,110,99,116,105,111,110,32,40,41,32,123,32,39,117,115,101,32,115,116,114,105,99,116,39,59,32],[32,125,41,59],[180,184,185],[181,260,97,261,314,2],[263,20,6,4],2,0⟩,⟨[],[],[],[],[4],0,0⟩,⟨[102,117,110,99,116,105,111,110,32,103,40,41,32,123,32],[32,125],[181,286,287],[313,67,97,261],[282,4],0,0⟩,⟨[40,102,117,110,99,116,105,111,110,32,40,41,32,123,32],[32,125,41,59],[180,184,185],[181,260,97,261],[263,20,6,4],0,0⟩,⟨[39,97,39,59,32,34,117,115,101,32,115,116,114,105,99,116,34,59,32],[],[316,318,319],[2,317,2],[4],2,0⟩,⟨[102,117,110,99,116,105,111,110,32,103,40,41,32,123,32,39,97,39,59,32,34,117,115,101,32,115,116,114,105,99,116,34,59,32],[32,125],[181,286,287],[313,67,97,261,320,2,317,2],[282,4],2,0⟩,⟨[40,102,117,110,99,116,105,111,110,32,40,41,32,123,32,39,97,39,59,32,34,117,115,101,32,115,116,114,105,99,116,34,59,32],[32,125,41,59],[180,184,185],[181,260,97,261,320,2,317,2],[263,20,6,4],2,0⟩,⟨[40,39,117,115,101,32,115,116,114,105,99,116,39,41,59,32],[],[321,323,324],[322,20,2],[4],0,0⟩,⟨[102,117,110,99,116,105,111,110,32,103,40,41,32,123,32,40,39,117,115,101,32,115,116,114,105,99,116,39,41,59,32],[32,125],[181,286,287],[313,67,97,261,325,322,20,2],[282,4],0,0⟩,⟨[40,102,117,110,99,116,105,111,110,32,40,41,32,123,32,40,39,117,115,101,32,115,116,114,105,99,116,39,41,59,32],[32,125,41,59],[180,184,185],[181,260,97,261,325,322,20,2],[263,20,6,4],0,0⟩,⟨[39,117,115,101,92,120,50,48,115,116,114,105,99,116,39,59,32],[],[326,327,328],[2],[4],0,0⟩,⟨[102,117,110,99,116,105,111,110,32,103,40,41,32,123,32,39,117,115,101,92,120,50,48,115,116,114,105,99,116,39,59,32],[32,125],[181,286,287],[313,67,97,261,329,2],[282,4],0,0⟩,⟨[40,102,117,110,99,116,105,111,110,32,40,41,32,123,32,39,117,115,101,92,120,50,48,115,116,114,105,99,116,39,59,32],[32,125,41,59],[180,184,185],[181,260,97,261,329,2],[263,20,6,4],0,0⟩,⟨[39,117,115,101,32,115,116,114,105,99,116,39,32,43,32,49,59,32],[],[330,331,332],[17,103,2],[4],0,0⟩,⟨[102,117,110,99,116,105,111,110,32,103,40,41,32,123,32,39,117,115,101,32,115,116,114,105,99,116,39,32,43,32,49,59,32],[32,125],[181,286,287],[313,67,97,261,333,17,103,2],[282,4],0,0⟩,⟨[40,102,117,110,99,116,105,111,110,32,40,41,32,123,32,39,117,115,101,32,115,116,114,105,99,116,39,32,43,32,49,59,32],[32,125,41,59],[180,184,185],[181,260,97,261,333,17,103,2],[263,20,6,4],0,0⟩,⟨[102,40,41,59,32,39,117,115,101,32,115,116,114,105,99,116,39,59,32],[],[64,68,69],[67,20,2,314,2],[4],0,0⟩,⟨[102,117,110,99,116,105,111,110,32,103,40,41,32,123,32,102,40,41,59,32,39,117,115,101,32,115,116,114,105,99,116,39,59,32],[32,125],[181,286,287],[313,67,97,261,334,67,20,2,314,2],[282,4],0,0⟩,⟨[40,102,117,110,99,116,105,111,110,32,40,41,32,123,32,102,40,41,59,32,39,117,115,101,32,115,116,114,105,99,116,39,59,32],[32,125,41,59],[180,184,185],[181,260,97,261,334,67,20,2,314,2],[263,20,6,4],0,0⟩,⟨[39,117,115,101,32,115,116,114,105,99,116,39,46,97,59,32],[],[335,336,337],[141,5,2],[4],0,0⟩,⟨[102,117,110,99,116,105,111,110,32,103,40,41,32,123,32,39,117,115,101,32,115,116,114,105,99,116,39,46,97,59,32],[32,125],[181,286,287],[313,67,97,261,338,141,5,2],[282,4],0,0⟩,⟨[40,102,117,110,99,116,105,111,110,32,40,41,32,123,32,39,117,115,101,32,115,116,114,105,99,116,39,46,97,59,32],[32,125,41,59],[180,184,185],[181,260,97,261,338,141,5,2],[263,20,6,4],0,0⟩,⟨[39,117,115,101,32,115,116,114,105,99,116,39,32,59,32,59],[],[330,331,332],[93],[4],2,1⟩,⟨[102,117,110,99,116,105,111,110,32,103,40,41,32,123,32,39,117,115,101,32,115,116,114,105,99,116,39,32,59,32,59],[32,125],[181,286,287],[313,67,97,261,333,93],[282,4],2,1⟩,⟨[40,102,117,110,99,116,105,111,110,32,40,41,32,123,32,39,117,115,101,32,115,116,114,105,99,116,39,32,59,32,59],[32,125,41,59],[180,184,185],[181,260,97,261,333,93],[263,20,6,4],2,1⟩]
noncomputable def cN:List Ct:=[⟨[39,117,115,101,32,115,116,114,105,99,116,39,59,32,102,117,110,99,116,105,111,110,32,103,40,41,32,123,32,102,117,110,99,116,105,111,110,32,104,40,41,32,123,32],[32,125,32,125],[307,310,311],[2,290,313,67,97,261,290,315,67,97,261],[205,282,4],2,0⟩,⟨[102,117,110,99,116,105,111,110,32,103,40,41,32,123,32,102,117,110,99,116,105,111,110,32,104,40,41,32,123,32],[32,125,32,125],[181,286,287],[313,67,97,261,290,315,67,97,261],[205,282,4],0,0⟩,⟨[39,97,39,59,32,34,117,115,101,32,115,116,114,105,99,116,34,59,32,102,117,110,99,116,105,111,110,32,103,40,41,32,123,32,102,117,110,99,116,105,111,110,32,104,40,41,32,123,32],[32,125,32,125],[316,318,319],[2,317,2,290,313,67,97,261,290,315,67,97,261],[205,282,4],2,0⟩,⟨[40,39,117,115,101,32,115,116,114,105,99,116,39,41,59,32,102,117,110,99,116,105,111,110,32,103,40,41,32,123,32,102,117,110,99,116,105,111,110,32,104,40,41,32,123,32],[32,125,32,125],[321,323,324],[322,20,2,290,313,67,97,261,290,315,67,97,261],[205,282,4],0,0⟩,⟨[39,117,115,101,92,120,50,48,115,116,114,105,99,116,39,59,32,102,117,110,99,116,105,111,110,32,103,40,41,32,123,32,102,117,110,99,116,105,111,110,32,104,40,41,32,123,32],[32,125,32,125],[326,327,328],[2,290,313,67,97,261,290,315,67,97,261],[205,282,4],0,0⟩,⟨[39,117,115,101,32,115,116,114,105,99,116,39,32,43,32,49,59,32,102,117,110,99,116,105,111,110,32,103,40,41,32,123,32,102,117,110,99,116,105,111,110,32,104,40,41,32,123,32],[32,125,32,125],[330,331,332],[17,103,2,290,313,67,97,261,290,315,67,97,261],[205,282,4],0,0⟩,⟨[102,40,41,59,32,39,117,115,101,32,115,116,114,105,99,116,39,59,32,102,117,110,99,116,105,111,110,32,103,40,41,32,123,32,102,117,110,99,116,105,111,110,32,104,40,41,32,123,32],[32,125,32,125],[64,68,69],[67,20,2,314,2,290,313,67,97,261,290,315,67,97,261],[205,282,4],0,0⟩,⟨[39,117,115,101,32,115,116,114,105,99,116,39,46,97,59,32,102,117,110,99,116,105,111,110,32,103,40,41,32,123,32,102,117,110,99,116,105,111,110,32,104,40,41,32,123,32],[32,125,32,125],[335,336,337],[141,5,2,290,313,67,97,261,290,315,67,97,261],[205,282,4],0,0⟩,⟨[39,117,115,101,32,115,116,114,105,99,116,39,32,59,32,59,102,117,110,99,116,105,111,110,32,103,40,41,32,123,32,102,117,110,99,116,105,111,110,32,104,40,41,32,123,32],[32,125,32,125],[330,331,332],[93,340,181,313,67,97,261,290,315,67,97,261],[205,282,4],2,0⟩]
noncomputable def cL:List Ct:=[⟨[102,117,110,99,116,105,111,110,32,103,40,41,32,123,32,39,117,115,101,32,115,116,114,105,99,116,39,59,32,125,32],[],[181,286,287],[313,67,97,261,314,2,205],[4],0,0⟩,⟨[102,117,110,99,116,105,111,110,32,103,40,41,32,123,32,125,32],[],[181,286,287],[313,67,97,261,205],[4],0,0⟩,⟨[102,117,110,99,116,105,111,110,32,103,40,41,32,123,32,39,97,39,59,32,34,117,115,101,32,115,116,114,105,99,116,34,59,32,125,32],[],[181,286,287],[313,67,97,261,320,2,317,2,205],[4],0,0⟩,⟨[102,117,110,99,116,105,111,110,32,103,40,41,32,123,32,40,39,117,115,101,32,115,116,114,105,99,116,39,41,59,32,125,32],[],[181,286,287],[313,67,97,261,325,322,20,2,205],[4],0,0⟩,⟨[102,117,110,99,116,105,111,110,32,103,40,41,32,123,32,39,117,115,101,92,120,50,48,115,116,114,105,99,116,39,59,32,125,32],[],[181,286,287],[313,67,97,261,329,2,205],[4],0,0⟩,⟨[102,117,110,99,116,105,111,110,32,103,40,41,32,123,32,39,117,115,101,32,115,116,114,105,99,116,39,32,43,32,49,59,32,125,32],[],[181,286,287],[313,67,97,261,333,17,103,2,205],[4],0,0⟩,⟨[102,117,110,99,116,105,111,110,32,103,40,41,32,123,32,102,40,41,59,32,39,117,115,101,32,115,116,114,105,99,116,39,59,32,125,32],[],[181,286,287],[313,67,97,261,334,67,20,2,314,2,205],[4],0,0⟩,⟨[102,117,110,99,116,105,111,110,32,103,40,41,32,123,32,39,117,115,101,32,115,116,114,105,99,116,39,46,97,59,32,125,32],[],[181,286,287],[313,67,97,261,338,141,5,2,205],[4],0,0⟩,⟨[102,117,110,99,116,105,111,110,32,103,40,41,32,123,32,39,117,115,101,32,115,116,114,105,99,116,39,32,59,32,59,125,32],[],[181,286,287],[313,67,97,261,333,93,341,195],[4],0,0⟩]
noncomputable def cxs (bad:Bool):List Ct:=IF bad (cT++(cN++cL)) cT
theorem BD:∀ cx,(cxs true).all (fun c=>nbq (mF cx true 1 c) (cOf true c))=true:=fun cx=>by kernel_rfl
theorem BE:∀ cx,(cxs true).all (fun c=>nbq (mF cx true 2 c) (cOf true c))=true:=fun cx=>by kernel_rfl
theorem BB:∀ cx,(cxs false).all (fun c=>nbq (mF cx false 1 c) (cOf false c))=true:=fun cx=>by kernel_rfl
theorem BC:∀ cx,(cxs false).all (fun c=>nbq (mF cx false 2 c) (cOf false c))=true:=fun cx=>by kernel_rfl
noncomputable def ca (bad:Bool):List (Ct×Nat):=IF bad (cT.map (·,0)++(cT.map (·,1)++(cT.map (·,2)++(cN++cL).map (·,0)))) (cT.map (·,0))
noncomputable def rnS (cx:Cx) (bad:Bool) (s:Sr):List Nat:=IF (Nat.beq s.w 0) ((cxs bad).map (BK cx s)) ((sC bad).map (CP cx s))
noncomputable def exS (bad:Bool) (s:Sr):List Nat:=IF (Nat.beq s.w 0) ((cxs bad).map (cOf bad)) ((sC bad).map (·.2.2.2))
noncomputable def SrB (bad:Bool) (s:Sr):Bool:=IF (B5 s) (IF (Nat.ble (aF s.st) 999) ((iL bad).all fun i=>IF (smB s true i) (smB s false i) false) false) false
noncomputable def dY (l:List (Sr×Sr)):Prop:=l.all (fun p=>IF (SrB true p.1) (SrB false p.2) false)=true∧∀ cx,l.all (fun p=>IF (aN (rnS cx true p.1) (exS true p.1)) (aN (rnS cx false p.2) (exS false p.2)) false)=true
theorem sS {bad:Bool}{q:Ct×Nat}(h:q∈ca bad):q.1∈cxs bad:=by
 have k:∀ {l:List Ct}{n:Nat},q∈l.map (·,n)→q.1∈l:=fun h=>by
  cb_eq;rcases List.mem_map.mp h with ⟨c,hc,rfl⟩;by_in;exact hc
 cases bad with
 | false=>exact k h
 | true =>
  rcases List.mem_append.mp (show q∈cT.map (·,0)++(cT.map (·,1)++(cT.map (·,2)++(cN++cL).map (·,0))) from h) with h | h
  ·exact List.mem_append_left _ (k h)
  rcases List.mem_append.mp h with h | h
  ·exact List.mem_append_left _ (k h)
  rcases List.mem_append.mp h with h | h
  ·exact List.mem_append_left _ (k h)
  ·exact List.mem_append_right _ (k h)
theorem Da (bad:Bool):(cxs bad).all (fun c=>cdB (cOf bad c))=true:=by cases bad<;>kernel_rfl
theorem DX {bad:Bool}{w:Nat}(hw:w=1∨w=2) (cx:Cx):(cxs bad).all (fun c=>nbq (mF cx bad w c) (cOf bad c))=true:=by
 rcases hw with rfl | rfl<;>cases bad
 ·exact BB cx
 ·exact BD cx
 ·exact BC cx
 ·exact BE cx
theorem C6 (bad:Bool):∀ v,(ca bad).all (fun q=>ctB bad v q.1 q.2)=true:=fun v=>by cases bad<;>kernel_rfl
theorem B6 {z:Bool}{X:List Nat}(hz:z=true→X=[]){n:Nat}{r:List Nat}(h:nxZ z n r=true):nxB n (r++X)=true:=by
 obtain ⟨h1,h2⟩:=ai h
 cases n with
 | zero=>rw [hz h2,List.append_nil];exact h1
 | succ n =>
  cases r with
  | nil=>cases h1
  | cons a s=>exact h1
theorem pT {au:Nat→Option U}(hau:HAu au){z:Bool}{w X:List Nat}{k1:Int}(hz:z=true→X=[]):∀ {es:List En}{gs:List (List U)}{r:List Nat}{k:Int},(∀ e∈es,dO e)→chR z w k1 es r k=true→jw au (fsE es) gs=true→cJ au (r++X) k gs (w++X) k1
 | [],[],r,k,_,h,_=>by
  obtain ⟨h1,h2⟩:=ai (show IF (aN r w) (eqI k k1) false=true from h);exact ⟨congrArg (· ++ X) (c9 h1).symm,(cI h2).symm⟩
 | [],_::_,_,_,_,_,h=>by cases h
 | _::_,[],_,_,_,_,h=>by cases h
 | e::es,g::gs,r,k,he,hc,hw=>by
  obtain ⟨w1,w2⟩:=ai (show IF (wkL au e.fs g) (jw au (fsE es) gs) false=true from hw);have hc':@Option.rec (List Nat) (fun ε =>Bool) false (fun r'=>IF (nxZ z e.nx r') (IF (eqI k e.k) (chR z w k1 es r' e.k') false) false) (dZ e.pre r)=true:=hc
  cases q:dZ e.pre r with
  | none=>rw [q] at hc';cases hc'
  | some r1 =>
   rw [q] at hc';cb_eq;rcases ai (show IF (nxZ z e.nx r1) (IF (eqI k e.k) (chR z w k1 es r1 e.k') false) false=true from hc') with ⟨c1,c2⟩;rcases ai c2 with ⟨c3,c4⟩;rcases xE (B6 hz c1) with ⟨tl,e1⟩;by_in;obtain rfl:=cI c3;obtain rfl:=iS q;have t:=oO hau (he e (.head _)) w1 tl;rw [←e1,←List.append_assoc] at t;exact ⟨_,_,t,pT hau hz (fun x hx=>he x (.tail _ hx)) c4 w2⟩
theorem mE {au:Nat→Option U}:∀ {a b:List (List U)}{r:List Nat}{k:Int}{r1:List Nat}{k1:Int}{r2:List Nat}{k2:Int},cJ au r k a r1 k1→cJ au r1 k1 b r2 k2→cJ au r k (a++b) r2 k2
 | [],_,_,_,_,_,_,_,h,h2=>by obtain ⟨rfl,rfl⟩:=h;exact h2
 | _::_,_,_,_,_,_,_,_,⟨x,y,h1,h3⟩,h2=>⟨x,y,h1,mE h3 h2⟩
theorem Ea (c:Ct) (a:Nat):∀ e∈pe0 c a,dO e:=by
 unfold pe0
 cases c.p3 with
 | nil=>exact fe
 | cons _ _=>exact bK (c6 _) (eB _)
theorem EB (s:Sr) (z:Bool) (i:Nat):∀ e∈esS s z i,dO e:=by
 refine ji ?_ (bK (c6 _) (ji (eB _) (bK (c6 _) fe)))
 cases Nat.beq i 4 with
 | true=>exact bK (c6 _) fe
 | false=>exact fe
theorem rI {bad:Bool}{s:Sr}(hb:SrB bad s=true){c:Ct}{a:Nat}(hq:(c,a)∈ca bad) (hau:HAu (auV (vS s))):(∃ r k,cJ (auV (vS s)) (txC c s a) (kOf a) (gpC c++([pw s]++(j8 s++gqC c))) r k)∧(txC c s a).length<60000:=by
 cb_eq;rcases ai (show ctB bad (vS s) c a=true from List.all_eq_true.mp (C6 bad (vS s)) _ hq) with ⟨g1,g⟩;rcases ai g with ⟨g2,g⟩;rcases ai g with ⟨g3,g⟩;rcases ai g with ⟨g4,g⟩;rcases ai g with ⟨g5,g⟩;rcases ai g with ⟨g6,g⟩;rcases ai g with ⟨g7,g⟩;rcases ai g with ⟨g8,g9⟩;rcases ai hb with ⟨_,h⟩;rcases ai h with ⟨h1,h2⟩;by_in;have g1:=Nat.le_of_ble_eq_true g1;have g2:=Nat.le_of_ble_eq_true g2;have h1:=Nat.le_of_ble_eq_true h1;rw [aA] at g1 g2 h1;have eT:txC c s a=apL (gR a) c.P++(s.st++c.Q):=by unfold txC;rw [aW,aW,aW,aW,List.append_assoc]
 rw [eT];refine ⟨?_,by rw [List.length_append,List.length_append];omega⟩;obtain ⟨i,hi,e⟩:=List.any_eq_true.mp g3;have e:=Nat.eq_of_beq_eq_true e;rw [e] at g4 g5;have h3:=List.all_eq_true.mp h2 i hi;obtain ⟨m1,m2⟩:=ai (show smB s (br c.Q) i=true from by cases br c.Q with | true=>exact (ai h3).1 | false=>exact (ai h3).2)
 cases q:dZ (tQ (br c.Q)) c.Q with
 | none=>rw [q] at g9;cases g9
 | some Q' =>
  have eQ:=iS q;have p1:=pT hau (X:=s.st++c.Q) (z:=false) (fun z=>by cases z) (Ea c a) g5 g6;have p2:=pT hau (X:=Q') (fun z=>by rw [z] at eQ;exact eQ.symm.trans (bY z)) (EB s _ i) m1 m2;obtain ⟨r,k,p3⟩:=pS hau (eB c.q) g7 g8;rw [aW,aW,List.append_assoc,List.append_assoc,←eQ] at p2;have p4:=mE p1 (mE p2 p3);have eG:gpC c++([pw s]++(j8 s++gqC c))=gp0 c++((apL (gzT (Nat.beq i 4)) (pw s::j8 s))++gqC c):=by
   unfold gpC;rw [nj g4,aW,aW,List.append_assoc,List.append_assoc];rfl
  rw [eG];exact ⟨r,k,p4⟩
theorem fS {bad:Bool}{s:Sr}(hb:SrB bad s=true) (hr:∀ cx,rnS cx bad s=exS bad s){q:Ct×Nat}(hq:q∈ca bad):bj (txC q.1 s q.2) (dq (q.2+1) (cOf bad q.1)):=by
 have h0:=(ai hb).1;have hc:=List.all_eq_true.mp (Da bad) q.1 (sS hq);have key:=rI hb (c:=q.1) (a:=q.2) hq;unfold B5 at h0;unfold vS pw at key;unfold rnS exS at hr
 cases w0:Nat.beq s.w 0 with
 | true =>
  rw [w0] at key hr;have e:auV (IF true none (some (af .unb (t0S s) 1)))=au0:=funext fun i=>by show IF (Nat.beq i 1) none none=none;cases Nat.beq i 1<;>rfl
  rw [e] at key;obtain ⟨k1,k2⟩:=key Cf;refine xH k1 k2 (fun cx=>?_) hc;have k:=List.map_inj_left.mp (hr cx) q.1 (sS hq);unfold BK at k;rw [aW,aW,aW] at k;exact k
 | false =>
  rw [w0] at h0 key hr;obtain ⟨a1,a2⟩:=ai h0;obtain ⟨a3,a4⟩:=ai a2;have hw:s.w=1∨s.w=2:=by
   cases z:Nat.beq s.w 1 with
   | true=>exact .inl (Nat.eq_of_beq_eq_true z)
   | false=>rw [z] at a1;exact .inr (Nat.eq_of_beq_eq_true a1)
  have hrun:∀ cx,mF cx bad s.w q.1=cOf bad q.1:=fun cx=>gG (List.all_eq_true.mp (DX hw cx) q.1 (sS hq));obtain ⟨k1,k2⟩:=key (fun i w e=>by
   rcases IFo (show IF (Nat.beq i 1) (some (af .unb (t0S s) 1)) none=some w from e) with ⟨_,e⟩ | ⟨_,e⟩
   ·rw [←Option.some.inj e];exact a3
   ·cases e)
  refine Em (tab:=gi (sC bad)) rfl k1 k2 a4 (fun b d f n ht hn cx=>?_) hrun hc;have k:CP cx s (b,d,f,n)=n:=List.map_inj_left.mp (hr cx) (b,d,f,n) (qB hn ht);exact k
end Mine
end
end
section
open PySem PySem.W PySem.Calls PyProof.Rows Hd
noncomputable section
namespace Mine
noncomputable def sf0:List (Sr×Sr):=[(⟨[188,190,191,308],[309],[6,2],2,339⟩,⟨[188,0,0,308],[312],[6,2],2,339⟩),(⟨[344,345,346,342],[32,103],[6,2],1,348⟩,⟨[347,0,0,343],[141,0,32,103],[6,2],1,348⟩),(⟨[354,355,356,349],[131],[6,2],1,358⟩,⟨[357,0,0,350],[351,352,353,131],[6,2],1,358⟩),(⟨[363,364,365,359],[360],[6,2],0,366⟩,⟨[124,0,0,361],[362,360],[6,2],0,366⟩),(⟨[344,345,346,342],[367,103],[6,2],1,348⟩,⟨[0,0,0,182],[32,309],[6,2],1,358⟩)]
theorem Bu:dY sf0:=⟨by kernel_rfl,fun cx=>by kernel_rfl⟩
noncomputable def sf1:List (Sr×Sr):=[(⟨[209,214,215,281],[251,344,160,368,97],[3,93],2,340⟩,⟨[209,0,0,281],[217,0,160,369,97],[3,93],2,340⟩),(⟨[209,214,215,281],[216,188,370,160,368,97],[3,93],2,340⟩,⟨[209,0,0,281],[216,188,90,160,368,97],[3,93],2,340⟩),(⟨[246,248,249,371],[167,195,250,251,372,97,167],[197,195],2,373⟩,⟨[246,0,0,371],[167,195,250,251,252,97,167],[197,195],2,373⟩),(⟨[181,286,287,290],[374,67,97,167],[197,195],2,340⟩,⟨[181,0,0,290],[375,67,97,167],[197,195],2,340⟩),(⟨[180,184,185,284],[181,376,67,97,167,183,20],[6,2],0,377⟩,⟨[180,0,0,284],[181,260,97,167,183,20],[6,2],0,377⟩)]
theorem Bt:dY sf1:=⟨by kernel_rfl,fun cx=>by kernel_rfl⟩
noncomputable def sf2:List (Sr×Sr):=[(⟨[181,286,287,290],[166,378,372,97,167],[197,195],2,340⟩,⟨[181,0,0,290],[166,72,73,97,167],[197,195],2,340⟩),(⟨[181,286,287,290],[166,72,95,25,70,97,167],[197,195],2,340⟩,⟨[181,0,0,290],[166,72,95,25,171,97,167],[197,195],2,340⟩),(⟨[31,40,41,379],[32,169,170,166,378,372,97,167,168,35],[6,2],1,380⟩,⟨[31,0,0,379],[32,169,170,166,72,73,97,167,168,35],[6,2],1,380⟩),(⟨[382,383,384,381],[76],[6,2],2,385⟩,⟨[382,0,0,381],[81,82,234],[6,2],2,385⟩),(⟨[388,389,390,386],[],[6,2],0,392⟩,⟨[391,0,0,387],[],[6,2],0,393⟩)]
theorem Bs:dY sf2:=⟨by kernel_rfl,fun cx=>by kernel_rfl⟩
noncomputable def sf3:List (Sr×Sr):=[(⟨[396,397,398,394],[],[6,2],0,400⟩,⟨[399,0,0,395],[],[6,2],0,400⟩),(⟨[31,40,41,379],[32,33,36,37,38,25,163,37,51,35],[6,2],1,380⟩,⟨[31,0,0,379],[32,33,36,37,38,25,50,37,51,35],[6,2],1,380⟩),(⟨[31,40,41,379],[32,401,402,37,42,35],[6,2],1,380⟩,⟨[31,0,0,379],[32,403,404,37,42,35],[6,2],1,380⟩),(⟨[31,40,41,379],[32,405,406,37,38,25,178,37,51,35],[6,2],1,380⟩,⟨[31,0,0,379],[32,405,406,37,38,25,179,37,51,35],[6,2],1,380⟩)]
theorem Br:dY sf3:=⟨by kernel_rfl,fun cx=>by kernel_rfl⟩
noncomputable def sw0:List (Sr×Sr):=[(⟨[188,190,191,308],[407],[6,2],2,339⟩,⟨[52,0,0,81],[408,409],[6,2],1,358⟩),(⟨[413,414,415,410],[32,103],[6,2],1,416⟩,⟨[31,0,0,379],[32,411,412,37,42,35],[6,2],1,380⟩),(⟨[181,286,287,290],[417,67,97,167],[197,195],2,340⟩,⟨[31,0,0,379],[32,161,162,417,67,97,167,168,35],[6,2],1,380⟩),(⟨[181,286,287,290],[166,418,419,97,167],[197,195],2,340⟩,⟨[181,0,0,290],[166,67,97,167],[197,195],2,340⟩),(⟨[64,68,69,334],[418,419,20],[6,2],1,340⟩,⟨[64,0,0,334],[321,420,20],[6,2],1,340⟩),(⟨[412,423,424,421],[37],[3,93],1,416⟩,⟨[425,0,0,422],[37],[3,93],1,416⟩),(⟨[431,432,433,426],[427,428,28],[6,2],1,340⟩,⟨[434,0,0,429],[141,52,408,430,67,20],[6,2],1,340⟩),(⟨[412,423,424,421],[37,224,94,73,97,261,277,407,2],[282,205],1,416⟩,⟨[36,0,0,163],[37,224,94,73,97,261,277,76,2],[282,205],1,358⟩)]
theorem Bl:dY sw0:=⟨by kernel_rfl,fun cx=>by kernel_rfl⟩
noncomputable def sw1:List (Sr×Sr):=[(⟨[188,190,191,308],[435],[6,2],2,339⟩,⟨[52,0,0,81],[436,437],[6,2],1,358⟩),(⟨[440,441,442,438],[32,103],[6,2],1,443⟩,⟨[31,0,0,379],[32,169,439,37,42,35],[6,2],1,380⟩),(⟨[181,286,287,290],[444,67,97,167],[197,195],2,340⟩,⟨[31,0,0,379],[32,161,162,444,67,97,167,168,35],[6,2],1,380⟩),(⟨[181,286,287,290],[166,445,446,97,167],[197,195],2,340⟩,⟨[181,0,0,290],[166,67,97,167],[197,195],2,340⟩),(⟨[64,68,69,334],[445,446,20],[6,2],1,340⟩,⟨[64,0,0,334],[321,447,20],[6,2],1,340⟩),(⟨[439,450,451,448],[37],[3,93],1,443⟩,⟨[452,0,0,449],[37],[3,93],1,443⟩),(⟨[431,432,433,426],[453,454,28],[6,2],1,340⟩,⟨[434,0,0,429],[141,52,436,455,67,20],[6,2],1,340⟩),(⟨[439,450,451,448],[37,224,94,73,97,261,277,435,2],[282,205],1,443⟩,⟨[36,0,0,163],[37,224,94,73,97,261,277,76,2],[282,205],1,358⟩)]
theorem Bk:dY sw1:=⟨by kernel_rfl,fun cx=>by kernel_rfl⟩
noncomputable def sw2:List (Sr×Sr):=[(⟨[188,190,191,308],[456],[6,2],2,339⟩,⟨[52,0,0,81],[457,458],[6,2],1,358⟩),(⟨[462,463,464,459],[32,103],[6,2],1,465⟩,⟨[31,0,0,379],[32,460,461,37,42,35],[6,2],1,380⟩),(⟨[181,286,287,290],[466,67,97,167],[197,195],2,340⟩,⟨[31,0,0,379],[32,161,162,466,67,97,167,168,35],[6,2],1,380⟩),(⟨[181,286,287,290],[166,467,468,97,167],[197,195],2,340⟩,⟨[181,0,0,290],[166,67,97,167],[197,195],2,340⟩),(⟨[64,68,69,334],[467,468,20],[6,2],1,340⟩,⟨[64,0,0,334],[321,469,20],[6,2],1,340⟩),(⟨[461,472,473,470],[37],[3,93],1,465⟩,⟨[474,0,0,471],[37],[3,93],1,465⟩),(⟨[431,432,433,426],[475,476,28],[6,2],1,340⟩,⟨[434,0,0,429],[141,52,457,477,67,20],[6,2],1,340⟩),(⟨[461,472,473,470],[37,224,94,73,97,261,277,456,2],[282,205],1,465⟩,⟨[36,0,0,163],[37,224,94,73,97,261,277,76,2],[282,205],1,358⟩)]
theorem Bj:dY sw2:=⟨by kernel_rfl,fun cx=>by kernel_rfl⟩
noncomputable def sw3:List (Sr×Sr):=[(⟨[188,190,191,308],[478],[6,2],2,339⟩,⟨[52,0,0,81],[479,480],[6,2],1,358⟩),(⟨[484,485,486,481],[32,103],[6,2],1,487⟩,⟨[31,0,0,379],[32,482,483,37,42,35],[6,2],1,380⟩),(⟨[181,286,287,290],[488,67,97,167],[197,195],2,340⟩,⟨[31,0,0,379],[32,161,162,488,67,97,167,168,35],[6,2],1,380⟩),(⟨[181,286,287,290],[166,489,490,97,167],[197,195],2,340⟩,⟨[181,0,0,290],[166,67,97,167],[197,195],2,340⟩),(⟨[64,68,69,334],[489,490,20],[6,2],1,340⟩,⟨[64,0,0,334],[321,491,20],[6,2],1,340⟩),(⟨[483,494,495,492],[37],[3,93],1,487⟩,⟨[496,0,0,493],[37],[3,93],1,487⟩),(⟨[431,432,433,426],[497,498,28],[6,2],1,340⟩,⟨[434,0,0,429],[141,52,479,499,67,20],[6,2],1,340⟩),(⟨[483,494,495,492],[37,224,94,73,97,261,277,478,2],[282,205],1,487⟩,⟨[36,0,0,163],[37,224,94,73,97,261,277,76,2],[282,205],1,358⟩)]
theorem Bi:dY sw3:=⟨by kernel_rfl,fun cx=>by kernel_rfl⟩
noncomputable def sw4:List (Sr×Sr):=[(⟨[188,190,191,308],[500],[6,2],2,339⟩,⟨[52,0,0,81],[54,501],[6,2],1,358⟩),(⟨[505,506,507,502],[32,103],[6,2],1,508⟩,⟨[31,0,0,379],[32,503,504,37,42,35],[6,2],1,380⟩),(⟨[181,286,287,290],[509,67,97,167],[197,195],2,340⟩,⟨[31,0,0,379],[32,161,162,509,67,97,167,168,35],[6,2],1,380⟩),(⟨[181,286,287,290],[166,510,511,97,167],[197,195],2,340⟩,⟨[181,0,0,290],[166,67,97,167],[197,195],2,340⟩),(⟨[64,68,69,334],[510,511,20],[6,2],1,340⟩,⟨[64,0,0,334],[321,512,20],[6,2],1,340⟩),(⟨[504,515,516,513],[37],[3,93],1,508⟩,⟨[517,0,0,514],[37],[3,93],1,508⟩),(⟨[431,432,433,426],[518,519,28],[6,2],1,340⟩,⟨[434,0,0,429],[141,52,54,520,67,20],[6,2],1,340⟩),(⟨[504,515,516,513],[37,224,94,73,97,261,277,500,2],[282,205],1,508⟩,⟨[36,0,0,163],[37,224,94,73,97,261,277,76,2],[282,205],1,358⟩)]
theorem Bh:dY sw4:=⟨by kernel_rfl,fun cx=>by kernel_rfl⟩
noncomputable def sw5:List (Sr×Sr):=[(⟨[188,190,191,308],[521],[6,2],2,339⟩,⟨[52,0,0,81],[54,522],[6,2],1,358⟩),(⟨[525,526,527,523],[32,103],[6,2],1,508⟩,⟨[31,0,0,379],[32,503,524,37,42,35],[6,2],1,380⟩),(⟨[181,286,287,290],[528,67,97,167],[197,195],2,340⟩,⟨[31,0,0,379],[32,161,162,528,67,97,167,168,35],[6,2],1,380⟩),(⟨[181,286,287,290],[166,510,529,97,167],[197,195],2,340⟩,⟨[181,0,0,290],[166,67,97,167],[197,195],2,340⟩),(⟨[64,68,69,334],[510,529,20],[6,2],1,340⟩,⟨[64,0,0,334],[321,530,20],[6,2],1,340⟩),(⟨[524,533,534,531],[37],[3,93],1,508⟩,⟨[535,0,0,532],[37],[3,93],1,508⟩),(⟨[431,432,433,426],[518,536,28],[6,2],1,340⟩,⟨[434,0,0,429],[141,52,54,537,67,20],[6,2],1,340⟩),(⟨[524,533,534,531],[37,224,94,73,97,261,277,521,2],[282,205],1,508⟩,⟨[36,0,0,163],[37,224,94,73,97,261,277,76,2],[282,205],1,358⟩)]
theorem Bg:dY sw5:=⟨by kernel_rfl,fun cx=>by kernel_rfl⟩
noncomputable def sw6:List (Sr×Sr):=[(⟨[188,190,191,308],[538],[6,2],2,339⟩,⟨[52,0,0,81],[479,539],[6,2],1,358⟩),(⟨[542,543,544,540],[32,103],[6,2],1,487⟩,⟨[31,0,0,379],[32,482,541,37,42,35],[6,2],1,380⟩),(⟨[181,286,287,290],[545,67,97,167],[197,195],2,340⟩,⟨[31,0,0,379],[32,161,162,545,67,97,167,168,35],[6,2],1,380⟩),(⟨[181,286,287,290],[166,489,546,97,167],[197,195],2,340⟩,⟨[181,0,0,290],[166,67,97,167],[197,195],2,340⟩),(⟨[64,68,69,334],[489,546,20],[6,2],1,340⟩,⟨[64,0,0,334],[321,547,20],[6,2],1,340⟩),(⟨[541,550,551,548],[37],[3,93],1,487⟩,⟨[552,0,0,549],[37],[3,93],1,487⟩),(⟨[431,432,433,426],[497,553,28],[6,2],1,340⟩,⟨[434,0,0,429],[141,52,479,554,67,20],[6,2],1,340⟩),(⟨[541,550,551,548],[37,224,94,73,97,261,277,538,2],[282,205],1,487⟩,⟨[36,0,0,163],[37,224,94,73,97,261,277,76,2],[282,205],1,358⟩)]
theorem Bf:dY sw6:=⟨by kernel_rfl,fun cx=>by kernel_rfl⟩
noncomputable def sw7:List (Sr×Sr):=[(⟨[188,190,191,308],[555],[6,2],2,339⟩,⟨[52,0,0,81],[479,556],[6,2],1,358⟩),(⟨[559,560,561,557],[32,103],[6,2],1,487⟩,⟨[31,0,0,379],[32,482,558,37,42,35],[6,2],1,380⟩),(⟨[181,286,287,290],[562,67,97,167],[197,195],2,340⟩,⟨[31,0,0,379],[32,161,162,562,67,97,167,168,35],[6,2],1,380⟩),(⟨[181,286,287,290],[166,489,563,97,167],[197,195],2,340⟩,⟨[181,0,0,290],[166,67,97,167],[197,195],2,340⟩),(⟨[64,68,69,334],[489,563,20],[6,2],1,340⟩,⟨[64,0,0,334],[321,564,20],[6,2],1,340⟩),(⟨[558,567,568,565],[37],[3,93],1,487⟩,⟨[569,0,0,566],[37],[3,93],1,487⟩),(⟨[431,432,433,426],[497,570,28],[6,2],1,340⟩,⟨[434,0,0,429],[141,52,479,571,67,20],[6,2],1,340⟩),(⟨[558,567,568,565],[37,224,94,73,97,261,277,555,2],[282,205],1,487⟩,⟨[36,0,0,163],[37,224,94,73,97,261,277,76,2],[282,205],1,358⟩)]
theorem Be:dY sw7:=⟨by kernel_rfl,fun cx=>by kernel_rfl⟩
noncomputable def sw8:List (Sr×Sr):=[(⟨[188,190,191,308],[572],[6,2],2,339⟩,⟨[52,0,0,81],[479,573],[6,2],1,358⟩),(⟨[576,577,578,574],[32,103],[6,2],1,487⟩,⟨[31,0,0,379],[32,482,575,37,42,35],[6,2],1,380⟩),(⟨[181,286,287,290],[579,67,97,167],[197,195],2,340⟩,⟨[31,0,0,379],[32,161,162,579,67,97,167,168,35],[6,2],1,380⟩),(⟨[181,286,287,290],[166,489,580,97,167],[197,195],2,340⟩,⟨[181,0,0,290],[166,67,97,167],[197,195],2,340⟩),(⟨[64,68,69,334],[489,580,20],[6,2],1,340⟩,⟨[64,0,0,334],[321,581,20],[6,2],1,340⟩),(⟨[575,584,585,582],[37],[3,93],1,487⟩,⟨[586,0,0,583],[37],[3,93],1,487⟩),(⟨[431,432,433,426],[497,587,28],[6,2],1,340⟩,⟨[434,0,0,429],[141,52,479,588,67,20],[6,2],1,340⟩),(⟨[575,584,585,582],[37,224,94,73,97,261,277,572,2],[282,205],1,487⟩,⟨[36,0,0,163],[37,224,94,73,97,261,277,76,2],[282,205],1,358⟩)]
theorem Bd:dY sw8:=⟨by kernel_rfl,fun cx=>by kernel_rfl⟩
end Mine
end
end
section
open PySem PySem.W PySem.Calls PyProof.Rows Hd
noncomputable section
namespace Mine
theorem eW {H:MH}{a b:Addr}{o:MO}(h:b≠a):H.put a o b=H b:=if_neg h
theorem eu {H:MH}{a:Addr}{o:MO}:H.put a o a=some o:=if_pos rfl
theorem uk {b:Bool}{A B:Prop}(t:b=true→A) (f:b=false→B):if b=true then A else B:=by
 cases b
 ·rw [if_neg Bool.false_ne_true];exact f rfl
 ·rw [if_pos rfl];exact t rfl
structure bG (box b0:Addr) (K H:MH):Prop where
 ne:box≠b0
 kb:K box=none
 k0:K b0=none
 keep:∀ b o,K b=some o→H b=some o
 ex:∃ (ns:List Int) (seed:Int),H box=some (.list [.ref b0,.int seed])∧H b0=some (.list (ns.map .int))∧0≤seed∧seed<2147483647∧ns.length<1000
theorem bG.le {box b0:Addr}{K H H':MH}(h:bG box b0 K H) (k:∀ b y,H b=some y→H' b=some y):bG box b0 K H':=by
 cb_eq;rcases h with ⟨ne,kb,k0,kp,ns,seed,a,b,c,d,e⟩;by_in;exact ⟨ne,kb,k0,fun b o e=>k _ _ (kp b o e),ns,seed,k _ _ a,k _ _ b,c,d,e⟩
theorem dz {i j:Int}(h:0<j):0≤i.fmod j∧i.fmod j<j:=by
 rw [Int.fmod_eq_emod_of_nonneg _ (Int.le_of_lt h)];exact ⟨Int.emod_nonneg _ (Int.ne_of_gt h),Int.emod_lt_of_pos _ h⟩
noncomputable def gu (l' l:Loc):Prop:=∀ x v,dR l' x=some v→dR l x=some v
theorem gT {l:Loc}:gu [] l:=fun ε ε h=>by cases h
theorem bf {k:String}{v:V}{l' l:Loc}(h:dR l k=some v) (r:gu l' l):gu ((k,v)::l') l:=fun x u e=>by
 rw [f6] at e
 by_cases q:(k==x)=true
 ·rw [if_pos q] at e;have:k=x:=by simpa using q
  subst this
  cases e;exact h
 ·rw [if_neg q] at e;exact r x u e
theorem gu.set {x:String}{v:V}{l' l:Loc}(h:gu l' l):gu (ci l' x v) (ci l x v):=fun y u e=>by
 rw [hY] at e ⊢
 by_cases q:(x==y)=true
 ·rw [if_pos q] at e ⊢;exact e
 ·rw [if_neg q] at e ⊢;exact h y u e
theorem fO.sub {P:Params}{fz:Fz}{l' l:Loc}{m:Str→Option Value}(h:fO P fz l m) (s:gu l' l):fO P fz l' m:=fun x v e=>h x v (s x v e)
theorem iO {W:Wd}{d:Dx}{cs:Scope}{l l':Loc}{H:MH}{b:List Stmt}{Q:Fl→Loc→MH→Prop}(s:gu l' l) (h:EXS W d cs b l' H Q):EXS W d cs b l H Q :=
 Box.mk fun C news ow sh Qr hc ho hs hk=>h.go C news ow sh Qr hc ho ⟨jO hs.fr (fun ε G=>G) fun ε lr=>lr.sub s,hs.hr,hs.nd,hs.gens,hs.le0,hs.os0⟩ hk
section
variable {w:World}{mb:Str→Option Value}{mean:ExcName→Option Value}{xt:Led}
theorem DA:iu (W0 w mb mean xt) 1219 ["box","wide"] (fU (fT 106)) (ef (fT 106)):=by
 have h:=gA (W:=W0 w mb mean xt) (a:=1219) (names:=["box","wide"]) (by kernel_rfl);rw [show c8 (W0 w mb mean xt).K 1219=fU (fT 106) by kernel_rfl,show cV (W0 w mb mean xt).K 1219=ef (fT 106) by kernel_rfl] at h;exact h
theorem gc:(W0 w mb mean xt).mg (Str.ofString "_law_take")=some (.ref 1219):=dM (by kernel_rfl)
theorem eU:keepIn (W0 w mb mean xt).K (.ref 1219)=true:=by kernel_rfl
theorem gU:(W0 w mb mean xt).mg (Str.ofString "_law_line")=some (.ref 1247):=dM (by kernel_rfl)
theorem fP:keepIn (W0 w mb mean xt).K (.ref 1247)=true:=by kernel_rfl
theorem p0:iu (W0 w mb mean xt) 1261 ["box","bad","good"] (fU (fT 112)) (ef (fT 112)):=by
 have h:=gA (W:=W0 w mb mean xt) (a:=1261) (names:=["box","bad","good"]) (by kernel_rfl);rw [show c8 (W0 w mb mean xt).K 1261=fU (fT 112) by kernel_rfl,show cV (W0 w mb mean xt).K 1261=ef (fT 112) by kernel_rfl] at h;exact h
theorem pZ:(W0 w mb mean xt).mg (Str.ofString "_law_rule_right")=some (.ref 1261):=dM (by kernel_rfl)
theorem n5:keepIn (W0 w mb mean xt).K (.ref 1261)=true:=by kernel_rfl
theorem nA:iu (W0 w mb mean xt) 1268 ["box","bad","good"] (fU (fT 113)) (ef (fT 113)):=by
 have h:=gA (W:=W0 w mb mean xt) (a:=1268) (names:=["box","bad","good"]) (by kernel_rfl);rw [show c8 (W0 w mb mean xt).K 1268=fU (fT 113) by kernel_rfl,show cV (W0 w mb mean xt).K 1268=ef (fT 113) by kernel_rfl] at h;exact h
theorem nz:(W0 w mb mean xt).mg (Str.ofString "_law_strict_right")=some (.ref 1268):=dM (by kernel_rfl)
theorem mx:keepIn (W0 w mb mean xt).K (.ref 1268)=true:=by kernel_rfl
theorem xm:(W0 w mb mean xt).mg (Str.ofString "_law_values")=some (.ref 1226):=dM (by kernel_rfl)
theorem vz:keepIn (W0 w mb mean xt).K (.ref 1226)=true:=by kernel_rfl
theorem Dz:(W0 w mb mean xt).mg (Str.ofString "_law_rows")=some (.ref 1233):=dM (by kernel_rfl)
theorem Af:keepIn (W0 w mb mean xt).K (.ref 1233)=true:=by kernel_rfl
theorem xn:(W0 w mb mean xt).mg (Str.ofString "_law_strict")=some (.ref 1240):=dM (by kernel_rfl)
theorem vA:keepIn (W0 w mb mean xt).K (.ref 1240)=true:=by kernel_rfl
theorem Ah:(W0 w mb mean xt).mg (Str.ofString "_law_heads")=some (.ref 1254):=dM (by kernel_rfl)
theorem xl:keepIn (W0 w mb mean xt).K (.ref 1254)=true:=by kernel_rfl
theorem mN {x:String}(h:kg (gl w.params x)=true):(W0 w mb mean xt).mg (Str.ofString x)=none:=hZ.trans (lY h)
theorem kD (hb:Hb mb){cs:Scope}(k:cs.names.lookup (Str.ofString "len")=some .globalImplicit):fA (W0 w mb mean xt) cs (Str.ofString "len") (.builtin "len"):=⟨k,mN (by kernel_rfl),(hb _ (by decide +kernel)).trans (by kernel_rfl),by kernel_rfl⟩
theorem DO (hb:Hb mb){cs:Scope}(k:cs.names.lookup (Str.ofString "list")=some .globalImplicit):fA (W0 w mb mean xt) cs (Str.ofString "list") (.type "list"):=⟨k,mN (by kernel_rfl),(hb _ (by decide +kernel)).trans (by kernel_rfl),by kernel_rfl⟩
theorem Aw (hb:Hb mb){cs:Scope}(k:cs.names.lookup (Str.ofString "range")=some .globalImplicit):fA (W0 w mb mean xt) cs (Str.ofString "range") (.type "range"):=⟨k,mN (by kernel_rfl),(hb _ (by decide +kernel)).trans (by kernel_rfl),by kernel_rfl⟩
variable {n:Nat}{X:Nat→MH→Prop}{l:Loc}{K H H₀:MH}(hb:Hb mb){box b0:Addr}
include hb
theorem db (hB:bG box b0 K H){wide:Int}(hw:0<wide){Q:V→MH→Prop}(hq:∀ r H',0≤r→r<wide→bG box b0 K H'→Q (.int r) H'):CL (W0 w mb mean xt) ⟨n+1,X⟩ l H 1219 [.ref box,.int wide] Q:=by
 cb_eq;rcases hB with ⟨hne,kb,k0,keep,ns,seed,hbox,hb0,hs0,hs1,hns⟩;by_in;have hlen:(ns.map V.int).length<2 ^ 60:=by rw [List.length_map];omega
 refine jZ DA rfl ?_;refine az ?_;refine kC ?_;refine iQ rfl ?_;refine eC (kD hb (by kernel_rfl)) rfl ?_;refine ah rfl ?_;refine dl ?_;refine aj rfl ?_ (by kernel_rfl) (by kernel_rfl);refine aL ?_;refine dB rfl hbox (by decide) (by decide) rfl ?_;refine aB ?_;refine kT hb0 hlen ?_;refine aL ?_;refine gb ?_;refine ⟨_,rfl,?_⟩;refine uk (fun hb=>?_) (fun hb=>?_)
 ·cases ns with
  | nil=>exact absurd (of_decide_eq_true hb) (by decide)
  | cons k ns =>
  refine az ?_;refine dF ?_;refine aK ?_;refine nC _ (fun ε =>rfl) ?_;refine dl ?_;refine aj rfl ?_ (by kernel_rfl) (by kernel_rfl);refine aL ?_;refine dB rfl hbox (by decide) (by decide) rfl ?_;refine ny hb0 PySem.F.slot_list_pop PySem.F.type_list_pop rfl ?_;refine ah rfl ?_;refine aL ?_;refine aB ?_;refine At hb0 (by rw [List.length_map];simp at hns;omega) ?_;refine aj rfl ?_ (by kernel_rfl) (by kernel_rfl);refine dN (Int.ne_of_gt hw) ?_;refine hq _ _ (dz hw).1 (dz hw).2 ⟨hne,kb,k0,fun b o e=>(eW (fun z=>by rw [z,k0] at e;cases e)).trans (keep b o e),ns,seed,(eW hne).trans hbox,eu,hs0,hs1,by simp at hns;omega⟩
 ·refine dP ?_;refine az ?_;refine th (fun ε =>rfl) ?_;refine aK ?_;refine aK ?_;refine aK ?_;refine dl ?_;refine aj rfl ?_ (by kernel_rfl) (by kernel_rfl);refine aL ?_;refine dB rfl hbox (by decide) (by decide) rfl ?_;refine aL ?_;refine jm (IntMulOk.of_right (by decide +kernel)) ?_;refine aL ?_;refine dh ?_;refine aL ?_;refine dN (by decide) ?_;refine aj rfl ?_ (by kernel_rfl) (by kernel_rfl);refine aL ?_;refine ⟨box,_,1,rfl,rfl,hbox,by decide,by simp,by simp,?_⟩;have hs:=dz (i:=seed*48271+11) (j:=2147483647) (by decide)
  generalize (seed*48271+11).fmod 2147483647=s2 at hs ⊢
  show EXS _ _ _ _ _ (H.put box (.list [.ref b0,.int s2])) _;have hbox2:H.put box (.list [.ref b0,.int s2]) box=some (.list [.ref b0,.int s2]):=eu;have hb02:H.put box (.list [.ref b0,.int s2]) b0=some (.list (ns.map .int)):=(eW hne.symm).trans hb0;have keep2:∀ b o,K b=some o→(H.put box (.list [.ref b0,.int s2])) b=some o:=fun b o e=>(eW (fun z=>by rw [z,kb] at e;cases e)).trans (keep b o e)
  generalize H.put box _=H2 at keep2 hbox2 hb02 ⊢
  refine az ?_;refine dF ?_;refine aK ?_;refine aK ?_;refine dl ?_;refine aj rfl ?_ (by kernel_rfl) (by kernel_rfl);refine aL ?_;refine dB rfl hbox2 (by decide) (by decide) rfl ?_;refine aL ?_;refine kR (by decide) (PyProof.noPylong_small (by decide)) ?_;refine aj rfl ?_ (by kernel_rfl) (by kernel_rfl);refine dN (Int.ne_of_gt hw) ?_;exact hq _ _ (dz hw).1 (dz hw).2 ⟨hne,kb,k0,keep2,ns,s2,hbox2,hb02,hs.1,hs.2,hns⟩
end
end Mine
end
end
section
open PySem PySem.W PySem.Calls PyProof.Rows Hd
noncomputable section
namespace Mine
noncomputable abbrev sv (x:List Nat):V:=.str (SS x)
theorem lU (x:List Nat):(SS x).length=x.length:=by show x.toArray.size=_;simp
theorem k6:∀ n:Nat,(cv [10] n).length=n
 | 0=>rfl
 | n+1=>by show (10::cv [10] n).length=_;rw [List.length_cons,k6 n]
section
variable {W:Wd}{d:Dx}{cs:Scope}{l:Loc}{H:MH}{Q:V→MH→Prop}
theorem aI {x:Str}{k:Nat}{pos:Pos}(c:List Nat) (h:x=SS c) (hq:Q (sv c) H):EV W d cs (.Constant (.str x) k pos) l H Q:=by subst h;exact vD hq
theorem vm {x y:List Nat}(hz:x.length+y.length<1000000) (hq:Q (sv (x++y)) H):T2 W d cs l H (sv x) (sv y) (binaryOp .Add) Q:=by
 refine mv (by rw [lU,lU];exact hz) ?_;have:SS x++SS y=SS (x++y):=by show Str.mk (x.toArray++y.toArray)=_;simp
 rw [this];exact hq
theorem la_ {x y:List Nat}{a b:Nat}(h:x.length≤a) (k:y.length≤b):(x++y).length≤a+b:=by rw [List.length_append];exact Nat.add_le_add h k
theorem aU {x y:List Nat}{a b:Nat}(h:x.length≤a) (k:y.length≤b) (hq:Q (sv (x++y)) H) (e:Nat.ble (a+b) 999999=true):T2 W d cs l H (sv x) (sv y) (binaryOp .Add) Q :=
 vm (Nat.lt_succ_of_le (Nat.le_trans (Nat.add_le_add h k) (Nat.le_of_ble_eq_true e))) hq
theorem nX {x:List Nat}(hz:x.length<1000000) (hq:Q (.int x.length) H):CV W d cs l H (.builtin "len") [sv x] Q:=jr (by rw [lU];omega) (by rw [lU];exact hq)
end
theorem i60 {i k:Int}(h:i<k) (hk:k≤1000):i<2 ^ 60:=Int.lt_of_lt_of_le h (Int.le_trans hk (by decide))
theorem n6 {a:Nat}(h:a<3):a<1000000:=Nat.lt_trans h (by decide)
theorem n61 {a:Nat}(h:a<3):([10]:List Nat).length*a<1000000:=by rw [List.length_singleton,Nat.one_mul];exact n6 h
noncomputable def iq (b:Nat):List Nat:=af [] [[],[10],[10,59]] b
theorem zO {b:Nat}(h:b<3):[sv [],sv [10],sv [10,59]][b]? = some (sv (iq b)):=by
 match b,h with
 | 0,_=>rfl
 | 1,_=>rfl
 | 2,_=>rfl
theorem zN {b:Nat}(h:b<3):(iq b).length<3:=by
 match b,h with
 | 0,_=>decide
 | 1,_=>decide
 | 2,_=>decide
section
variable {w:World}{mb:Str→Option Value}{mean:ExcName→Option Value}{xt:Led}{n:Nat}{X:Nat→MH→Prop}{l:Loc}{K H:MH}(hb:Hb mb){box b0:Addr}
include hb
theorem qj (hn:252≤n){bt gt:List Nat}(hbt:bt.length<1000) (hgt:gt.length<1000) (hl:∀ a b,a<3→b<3→bj (cv [10] a++(bt++([32,59]++iq b))) (a+1:Nat)∧bj (cv [10] a++(gt++iq b)) 0)
  (hB:bG box b0 K H){Q:V→MH→Prop}(hq:∀ H',bG box b0 K H'→Q (.bool true) H'):CL (W0 w mb mean xt) ⟨n+2,X⟩ l H 1261 [.ref box,sv bt,sv gt] Q:=by
 refine jZ p0 rfl ?_;refine az ?_;refine jo (xs:=["ahead","behind"]) (fun ε =>rfl) (by intros;kernel_rfl) (by decide +kernel) ?_;refine fQ ?_;refine ah rfl ?_;refine aK ?_;refine aI [10] (by kernel_rfl) ?_;refine aO (by kernel_rfl) gc (by kernel_rfl) eU rfl ?_;refine ah rfl ?_;refine aj rfl ?_ (by kernel_rfl) (by kernel_rfl);refine ah rfl ?_;refine aL ?_;refine aB ?_;refine aS ?_;refine db hb hB (by decide) fun r H r0 r1 hB=>?_;obtain ⟨a,rfl⟩:=Int.eq_ofNat_of_zero_le r0;have ha:a<3:=Int.ofNat_lt.mp r1;refine jl (n61 ha) (n6 ha) ?_;have la:=k6 a;have lA:(cv [10] a).length≤2:=by rw [la];exact Nat.le_of_lt_succ ha
 generalize hA:cv [10] a=A at la lA ⊢
 refine ah rfl ?_;refine dl ?_;refine fR ?_;refine ah rfl ?_;refine aI [] (by kernel_rfl) ?_;refine ah rfl ?_;refine aI [10] (by kernel_rfl) ?_;refine ah rfl ?_;refine aI [10,59] (by kernel_rfl) ?_;refine aB ?_;refine ⟨Nat.le_of_ble_eq_true rfl,?_⟩;refine aO (by kernel_rfl) gc (by kernel_rfl) eU rfl ?_;refine ah rfl ?_;refine aj rfl ?_ (by kernel_rfl) (by kernel_rfl);refine ah rfl ?_;refine aL ?_;refine aB ?_;refine aS ?_;refine db hb hB (by decide) fun r H r0 r1 hB=>?_;obtain ⟨b,rfl⟩:=Int.eq_ofNat_of_zero_le r0;have hb3:b<3:=Int.ofNat_lt.mp r1;refine cg (v:=sv (iq b)) rfl r0 (i60 r1 (by decide)) (by rw [Int.toNat_natCast];exact zO hb3) ?_;have lb:=Nat.le_of_lt_succ (zN hb3);have lbt:=Nat.le_of_lt_succ hbt;have lgt:=Nat.le_of_lt_succ hgt;obtain ⟨l1,l2⟩:=hl a b ha hb3;rw [hA] at l1 l2
 generalize iq b=B at lb l1 l2 ⊢
 refine aB ?_;refine ⟨Nat.le_of_ble_eq_true rfl,?_⟩;refine ⟨_,rfl,rfl,?_⟩;refine az ?_;refine bL (by kernel_rfl) (fun ε =>rfl) ?_;refine aK ?_;refine eC (kD hb (by kernel_rfl)) rfl ?_;refine ah rfl ?_;refine aj rfl ?_ (by kernel_rfl) (by kernel_rfl);refine aB ?_;refine nX (Nat.lt_of_le_of_lt lA (Nat.le_of_ble_eq_true rfl)) ?_;refine aL ?_;refine dh ?_;refine az ?_;refine dF ?_;refine rt ?_;refine iP rfl ?_;refine aO (by kernel_rfl) gU (by kernel_rfl) fP rfl ?_;refine ah rfl ?_;refine aK ?_;refine aK ?_;refine aK ?_;refine aj rfl ?_ (by kernel_rfl) (by kernel_rfl);refine aj rfl ?_ (by kernel_rfl) (by kernel_rfl);refine aU lA lbt ?_ rfl;refine aI [32,59] (by kernel_rfl) ?_;refine aU (b:=2) (la_ lA lbt) (Nat.le_refl _) ?_ rfl;refine aj rfl ?_ (by kernel_rfl) (by kernel_rfl);refine aU (la_ (b:=2) (la_ lA lbt) (Nat.le_refl _)) lb ?_ rfl;refine aB ?_;refine aS ?_;rw [List.append_assoc,List.append_assoc];refine l1 w mb mean xt hb n X H _ _ hn fun H' hH=>?_;have hB:=hB.le hH;refine aj rfl ?_ (by kernel_rfl) (by kernel_rfl);refine dC ?_;have e:((((a+1:Nat):Int)==(A.length:Int)+1))=true:=by rw [la];simp
 rw [e];refine ⟨true,rfl,?_⟩;rw [if_pos rfl];refine nD ?_;refine iP rfl ?_;refine aO (by kernel_rfl) gU (by kernel_rfl) fP rfl ?_;refine ah rfl ?_;refine aK ?_;refine aK ?_;refine aj rfl ?_ (by kernel_rfl) (by kernel_rfl);refine aj rfl ?_ (by kernel_rfl) (by kernel_rfl);refine aU lA lgt ?_ rfl;refine aj rfl ?_ (by kernel_rfl) (by kernel_rfl);refine aU (la_ lA lgt) lb ?_ rfl;refine aB ?_;refine aS ?_;rw [List.append_assoc];refine l2 w mb mean xt hb n X H' _ _ hn fun H'' hH=>?_;refine aL ?_;refine dC ?_;exact hq _ (hB.le hH)
end
end Mine
end
end
section
open PySem PySem.W PySem.Calls PyProof.Rows Hd
noncomputable section
namespace Mine
theorem s9 {W:Wd}{d:Dx}{cs:Scope}{l:Loc}{H:MH}{Q:V→MH→Prop}{a b:Bool}(hq:Q (.bool (a != b)) H):T2 W d cs l H (.bool a) (.bool b) (compareOp .NotEq) Q:=by
 refine Box.mk ?_;intro C news ow s Qr U U' hc ho hs v1 v2 hk;obtain rfl:=bk v1;obtain rfl:=bk v2;exact ne_bool (hk _ _ H news ow _ hs (Le.refl _) rfl aM hq)
noncomputable def hdV (p:List Nat×Bool):V:=.tup [sv p.1,.bool p.2]
noncomputable def opC:List (List Nat×List Nat):=[([],[]),([102,117,110,99,116,105,111,110,32,103,40,41,32,123,32],[32,125]),([40,102,117,110,99,116,105,111,110,32,40,41,32,123,32],[32,125,41,59])]
noncomputable def fgT:List Nat:=[102,117,110,99,116,105,111,110,32,103,40,41,32,123,32]
noncomputable def fhT:List Nat:=[102,117,110,99,116,105,111,110,32,103,40,41,32,123,32,102,117,110,99,116,105,111,110,32,104,40,41,32,123,32]
noncomputable def opV (p:List Nat×List Nat):V:=.tup [sv p.1,sv p.2]
theorem B4 {j:Nat}(h:j<3):∃ p,opC[j]? = some p∧(opC.map opV)[j]? = some (opV p)∧p.1.length<20∧p.2.length<20:=by
 match j,h with
 | 0,_=>exact ⟨_,rfl,rfl,by decide,by decide⟩
 | 1,_=>exact ⟨_,rfl,rfl,by decide,by decide⟩
 | 2,_=>exact ⟨_,rfl,rfl,by decide,by decide⟩
section
variable {w:World}{mb:Str→Option Value}{mean:ExcName→Option Value}{xt:Led}{n:Nat}{X:Nat→MH→Prop}{l:Loc}{K H:MH}(hb:Hb mb){box b0:Addr}
include hb
theorem nY (hn:252≤n){hds:List (List Nat×Bool)}(h9:hds.length=9) (hhl:∀ p∈hds,p.1.length<100) (hheads:∀ (l:Loc) (H:MH) (Q:V→MH→Prop),(∀ H',(∀ b y,H b=some y→H' b=some y)→Q (.lst (hds.map hdV)) H')→CL (W0 w mb mean xt) ⟨n+1,X⟩ l H 1254 [] Q)
  {bt gt:List Nat}(hbt:bt.length<1000) (hgt:gt.length<1000)
  (hT:∀ h∈hds,∀ p∈opC,∀ a,a<3→bj (cv [10] a++(p.1++(h.1++(bt++p.2)))) (if h.2 then (a:Int)+1 else 0)) (hG:∀ h∈hds,∀ p∈opC,bj (p.1++(h.1++(gt++p.2))) 0)
  (hN:∀ h∈hds,bj (h.1++(fhT++(bt++[32,125,32,125]))) (if h.2 then 1 else 0)) (hL:∀ h∈hds,bj (fgT++(h.1++([125,32]++bt))) 0)
  (hB:bG box b0 K H){Q:V→MH→Prop}(hq:∀ H',bG box b0 K H'→Q (.bool true) H'):CL (W0 w mb mean xt) ⟨n+2,X⟩ l H 1268 [.ref box,sv bt,sv gt] Q:=by
 refine jZ nA rfl ?_;refine az ?_;refine ii (xs:=["head","is_strict"]) (fun ε =>rfl) (by intros;kernel_rfl) (fun ε =>⟨fun ε ε ε ε ε ε h=>wpAny_assign_Name h,fun ε ε ε ε ε ε h=>wpAny_assign_Name h,trivial⟩) (fun ε =>rfl) (by decide +kernel) ?_;refine dl ?_;refine aO (by kernel_rfl) Ah (by kernel_rfl) xl rfl ?_;refine aB ?_;refine aS ?_;refine hheads _ _ _ fun H hH=>?_;have hB:=hB.le hH;refine aO (by kernel_rfl) gc (by kernel_rfl) eU rfl ?_;refine ah rfl ?_;refine aj rfl ?_ (by kernel_rfl) (by kernel_rfl);refine ah rfl ?_;refine aL ?_;refine aB ?_;refine aS ?_;refine db hb hB (by decide) fun r H r0 r1 hB=>?_;obtain ⟨i,rfl⟩:=Int.eq_ofNat_of_zero_le r0;have hi:i<hds.length:=h9▸Int.ofNat_lt.mp r1;have hm:hds[i]∈hds:=List.getElem_mem hi;have hg:(hds.map hdV)[(i:Int).toNat]? = some (hdV hds[i]):=by rw [Int.toNat_natCast,List.getElem?_map,List.getElem?_eq_getElem hi];rfl
 generalize hds[i]=h at hm hg
 have hT:=hT h hm;have hG:=hG h hm;have hN:=hN h hm;have hL:=hL h hm;have lh:=Nat.le_of_lt_succ (hhl h hm);have lbt:=Nat.le_of_lt_succ hbt;have lgt:=Nat.le_of_lt_succ hgt;obtain ⟨h,st⟩:=h
 dsimp only at hT hG hN hL lh
 refine cg (v:=hdV (h,st)) rfl r0 (i60 r1 (by decide)) hg ?_;refine ⟨[sv h,.bool st],rfl,rfl,?_⟩;refine az ?_;refine ii (xs:=["opener","closer"]) (fun ε =>rfl) (by intros;kernel_rfl) (fun ε =>⟨fun ε ε ε ε ε ε h=>wpAny_assign_Name h,fun ε ε ε ε ε ε h=>wpAny_assign_Name h,trivial⟩) (fun ε =>rfl) (by decide +kernel) ?_;refine dl ?_;refine fR ?_;refine ah rfl ?_;refine fQ ?_;refine ah rfl ?_;refine aI [] (by kernel_rfl) ?_;refine ah rfl ?_;refine aI [] (by kernel_rfl) ?_;refine aB ?_;refine ⟨Nat.le_of_ble_eq_true rfl,?_⟩;refine ah rfl ?_;refine fQ ?_;refine ah rfl ?_;refine aI [102,117,110,99,116,105,111,110,32,103,40,41,32,123,32] (by kernel_rfl) ?_;refine ah rfl ?_;refine aI [32,125] (by kernel_rfl) ?_;refine aB ?_;refine ⟨Nat.le_of_ble_eq_true rfl,?_⟩;refine ah rfl ?_;refine fQ ?_;refine ah rfl ?_;refine aI [40,102,117,110,99,116,105,111,110,32,40,41,32,123,32] (by kernel_rfl) ?_;refine ah rfl ?_;refine aI [32,125,41,59] (by kernel_rfl) ?_;refine aB ?_;refine ⟨Nat.le_of_ble_eq_true rfl,?_⟩;refine aB ?_;refine ⟨Nat.le_of_ble_eq_true rfl,?_⟩;refine aO (by kernel_rfl) gc (by kernel_rfl) eU rfl ?_;refine ah rfl ?_;refine aj rfl ?_ (by kernel_rfl) (by kernel_rfl);refine ah rfl ?_;refine aL ?_;refine aB ?_;refine aS ?_;refine db hb hB (by decide) fun r H r0 r1 hB=>?_;cb_eq;rcases Int.eq_ofNat_of_zero_le r0 with ⟨j,rfl⟩;rcases B4 (j:=j) (Int.ofNat_lt.mp r1) with ⟨⟨op,cl⟩,hj,hjv,lo,lc⟩;by_in;have hpm:(op,cl)∈opC:=List.mem_of_getElem? hj;have hT:=hT _ hpm;have hG:=hG _ hpm
 dsimp only at hT hG lo lc
 replace lo:=Nat.le_of_lt_succ lo
 replace lc:=Nat.le_of_lt_succ lc
 refine cg (v:=opV (op,cl)) rfl r0 (i60 r1 (by decide)) (by rw [Int.toNat_natCast];exact hjv) ?_;refine ⟨[sv op,sv cl],rfl,rfl,?_⟩;refine az ?_;refine bL (by kernel_rfl) (fun ε =>rfl) ?_;refine aK ?_;refine aI [10] (by kernel_rfl) ?_;refine aO (by kernel_rfl) gc (by kernel_rfl) eU rfl ?_;refine ah rfl ?_;refine aj rfl ?_ (by kernel_rfl) (by kernel_rfl);refine ah rfl ?_;refine aL ?_;refine aB ?_;refine aS ?_;refine db hb hB (by decide) fun r H r0 r1 hB=>?_;obtain ⟨a,rfl⟩:=Int.eq_ofNat_of_zero_le r0;have ha:a<3:=Int.ofNat_lt.mp r1;refine jl (n61 ha) (n6 ha) ?_;have la:=k6 a;have lA:(cv [10] a).length≤2:=by rw [la];exact Nat.le_of_lt_succ ha
 have hT:=hT a ha
 generalize hA:cv [10] a=A at la lA hT ⊢
 refine az ?_;refine bL (by kernel_rfl) (fun ε =>rfl) ?_;refine aO (by kernel_rfl) gU (by kernel_rfl) fP rfl ?_;refine ah rfl ?_;refine aK ?_;refine aK ?_;refine aK ?_;refine aK ?_;refine aj rfl ?_ (by kernel_rfl) (by kernel_rfl);refine aj rfl ?_ (by kernel_rfl) (by kernel_rfl);refine aU lA lo ?_ rfl;refine aj rfl ?_ (by kernel_rfl) (by kernel_rfl);refine aU (la_ lA lo) lh ?_ rfl;refine aj rfl ?_ (by kernel_rfl) (by kernel_rfl);refine aU (la_ (la_ lA lo) lh) lbt ?_ rfl;refine aj rfl ?_ (by kernel_rfl) (by kernel_rfl);refine aU (la_ (la_ (la_ lA lo) lh) lbt) lc ?_ rfl;refine aB ?_;refine aS ?_;rw [List.append_assoc,List.append_assoc,List.append_assoc];refine hT w mb mean xt hb n X H _ _ hn fun H hH=>?_;have hB:=hB.le hH;refine az ?_;refine kC ?_;refine tu ?_;refine ET.mono (Q:=fun b H'=>b=false∧H'=H) ?_ fun b H' hh=>?_
 ·refine iQ rfl ?_;refine aj rfl ?_ (by kernel_rfl) (by kernel_rfl);refine tt ?_;refine my (fun ε ε =>rfl) ?_;refine aj rfl ?_ (by kernel_rfl) (by kernel_rfl);refine ⟨st,rfl,?_⟩;refine uk (fun e=>?_) (fun e=>?_)
  ·subst e;refine aK ?_;refine eC (kD hb (by kernel_rfl)) rfl ?_;refine ah rfl ?_;refine aj rfl ?_ (by kernel_rfl) (by kernel_rfl);refine aB ?_;refine nX (Nat.lt_of_le_of_lt lA (Nat.le_of_ble_eq_true rfl)) ?_;refine aL ?_;refine dh ?_;refine ie ?_;refine ⟨_,rfl,?_,rfl⟩;rw [la,if_pos rfl];simp
  ·subst e;refine aL ?_;refine ie ?_;exact ⟨_,rfl,rfl,rfl⟩
 cb_eq;rcases hh with ⟨rfl,rfl⟩;by_in;rw [if_neg Bool.false_ne_true];refine tu ?_;refine iQ rfl ?_;refine aO (by kernel_rfl) gU (by kernel_rfl) fP rfl ?_;refine ah rfl ?_;refine aK ?_;refine aK ?_;refine aK ?_;refine aj rfl ?_ (by kernel_rfl) (by kernel_rfl);refine aj rfl ?_ (by kernel_rfl) (by kernel_rfl);refine aU lo lh ?_ rfl;refine aj rfl ?_ (by kernel_rfl) (by kernel_rfl);refine aU (la_ lo lh) lgt ?_ rfl;refine aj rfl ?_ (by kernel_rfl) (by kernel_rfl);refine aU (la_ (la_ lo lh) lgt) lc ?_ rfl;refine aB ?_;refine aS ?_;rw [List.append_assoc,List.append_assoc];refine hG w mb mean xt hb n X _ _ _ hn fun H hH=>?_;have hB:=hB.le hH;refine aL ?_;refine ie ?_;refine ⟨false,rfl,?_⟩;rw [if_neg Bool.false_ne_true];refine nW ?_;rw [if_neg Bool.false_ne_true];refine dP ?_;refine az ?_;refine bL (by kernel_rfl) (fun ε =>rfl) ?_;refine aK ?_;refine aK ?_;refine aK ?_;refine aj rfl ?_ (by kernel_rfl) (by kernel_rfl);refine aI fhT (by kernel_rfl) ?_;refine aU (b:=30) lh (Nat.le_refl _) ?_ rfl;refine aj rfl ?_ (by kernel_rfl) (by kernel_rfl);refine aU (la_ (b:=30) lh (Nat.le_refl _)) lbt ?_ rfl;refine aI [32,125,32,125] (by kernel_rfl) ?_;refine aU (b:=4) (la_ (la_ (b:=30) lh (Nat.le_refl _)) lbt) (Nat.le_refl _) ?_ rfl;rw [List.append_assoc,List.append_assoc];refine az ?_;refine kC ?_;refine iQ rfl ?_;refine iP rfl ?_;refine aO (by kernel_rfl) gU (by kernel_rfl) fP rfl ?_;refine ah rfl ?_;refine aj rfl ?_ (by kernel_rfl) (by kernel_rfl);refine aB ?_;refine aS ?_;refine hN w mb mean xt hb n X _ _ _ hn fun H hH=>?_;have hB:=hB.le hH;refine aL ?_;refine gb ?_;refine aj rfl ?_ (by kernel_rfl) (by kernel_rfl);refine s9 ?_;have e:(decide ((0:Int)<if st=true then 1 else 0) != st)=false:=by cases st<;>rfl
 rw [e];refine ⟨false,rfl,?_⟩;rw [if_neg Bool.false_ne_true];refine dP ?_;refine az ?_;refine dF ?_;refine iP rfl ?_;refine aO (by kernel_rfl) gU (by kernel_rfl) fP rfl ?_;refine ah rfl ?_;refine aK ?_;refine aK ?_;refine aK ?_;refine aI fgT (by kernel_rfl) ?_;refine aj rfl ?_ (by kernel_rfl) (by kernel_rfl);refine aU (a:=15) (Nat.le_refl _) lh ?_ rfl;refine aI [125,32] (by kernel_rfl) ?_;refine aU (b:=2) (la_ (a:=15) (Nat.le_refl _) lh) (Nat.le_refl _) ?_ rfl;refine aj rfl ?_ (by kernel_rfl) (by kernel_rfl);refine aU (la_ (b:=2) (la_ (a:=15) (Nat.le_refl _) lh) (Nat.le_refl _)) lbt ?_ rfl;refine aB ?_;refine aS ?_;rw [List.append_assoc,List.append_assoc];refine hL w mb mean xt hb n X _ _ _ hn fun H hH=>?_;refine aL ?_;refine dC ?_;exact hq _ (hB.le hH)
end
end Mine
end
end
section
open PySem PySem.W PySem.Calls PyProof.Rows Hd
noncomputable section
namespace Mine
noncomputable abbrev Pr:=List Nat×List Nat
noncomputable def prV (p:Pr):V:=.tup [sv p.1,sv p.2]
noncomputable def wdL:List (List Nat):=[[108,101,116],[115,116,97,116,105,99],[121,105,101,108,100],[112,117,98,108,105,99],[105,110,116,101,114,102,97,99,101],[105,109,112,108,101,109,101,110,116,115],[112,97,99,107,97,103,101],[112,114,105,118,97,116,101],[112,114,111,116,101,99,116,101,100]]
noncomputable def ftx (wd:List Nat):List (List Nat):=[[102,117,110,99,116,105,111,110,32,97,40,101,118,97,108,41,32,123,32,39,117,115,101,32,115,116,114,105,99,116,39,59,32,125],[102,117,110,99,116,105,111,110,32,101,118,97,108,40,41,32,123,32,39,117,115,101,32,115,116,114,105,99,116,39,59,32,125],[102,117,110,99,116,105,111,110,32,97,40,98,44,32,98,41,32,123,32,39,117,115,101,32,115,116,114,105,99,116,39,59,32,125],[102,117,110,99,116,105,111,110,32,97,40,41,32,123,32,39,92,48,49,39,59,32,39,117,115,101,32,115,116,114,105,99,116,39,59,32,125],[40,102,117,110,99,116,105,111,110,32,97,114,103,117,109,101,110,116,115,40,41,32,123,32,39,117,115,101,32,115,116,114,105,99,116,39,59,32,125,41,59],[116,104,114,111,119,10,49,59],[102,40,102,117,110,99,116,105,111,110,32]++(wd++[40,41,32,123,32,39,117,115,101,32,115,116,114,105,99,116,39,59,32,125,41,59])]
noncomputable def kA (p:Pr):Prop:=p.1.length<1000∧p.2.length<1000∧∀ a b,a<3→b<3→bj (cv [10] a++(p.1++([32,59]++iq b))) (a+1:Nat)∧bj (cv [10] a++(p.2++iq b)) 0
structure Dr (hds:List (List Nat×Bool)) (p:Pr):Prop where
 hb:p.1.length<1000
 hg:p.2.length<1000
 hT:∀ h∈hds,∀ q∈opC,∀ a,a<3→bj (cv [10] a++(q.1++(h.1++(p.1++q.2)))) (if h.2 then (a:Int)+1 else 0)
 hG:∀ h∈hds,∀ q∈opC,bj (q.1++(h.1++(p.2++q.2))) 0
 hN:∀ h∈hds,bj (h.1++(fhT++(p.1++[32,125,32,125]))) (if h.2 then 1 else 0)
 hL:∀ h∈hds,bj (fgT++(h.1++([125,32]++p.1))) 0
theorem bG.ni {box b0:Addr}{K H:MH}(h:bG box b0 K H){a:Addr}(ha:H a=none):box≠a∧b0≠a:=by
 cb_eq;rcases h with ⟨_,_,_,_,ns,seed,h1,h2,_⟩;by_in;exact ⟨fun z=>by { rw [z,ha] at h1;cases h1},fun z=>by { rw [z,ha] at h2;cases h2}⟩
theorem bG.beside {box b0:Addr}{H:MH}(h:bG box b0 (fun ε =>none) H){a:Addr}{o:MO}(n:box≠a∧b0≠a):bG box b0 (MH.put (fun ε =>none) a o) (H.put a o):=by
 cb_eq;rcases h with ⟨ne,_,_,_,ns,seed,h1,h2,r⟩;by_in;refine ⟨ne,eW n.1,eW n.2,fun b y e=>?_,ns,seed,(eW n.1).trans h1,(eW n.2).trans h2,r⟩;unfold MH.put at e ⊢
 by_cases q:b=a
 ·rw [if_pos q] at e ⊢;exact e
 ·rw [if_neg q] at e;cases e
theorem bG.gone {box b0:Addr}{K H:MH}(h:bG box b0 K H){a:Addr}(n:box≠a∧b0≠a):bG box b0 (fun ε =>none) (H.drop a):=by
 cb_eq;rcases h with ⟨ne,_,_,_,ns,seed,h1,h2,r⟩;by_in;exact ⟨ne,rfl,rfl,fun ε ε e=>(nomatch e),ns,seed,(if_neg n.1).trans h1,(if_neg n.2).trans h2,r⟩
theorem o7:∀ {l:List (List Nat)}{i:Nat},i<l.length→(l.map sv)[(i:Int).toNat]? = some (sv (af [] l i)):=by
 intro l
 induction l with
 | nil=>intro i h;cases h
 | cons a r ih =>
  intro i h
  cases i with
  | zero=>rfl
  | succ n=>exact ih (Nat.lt_of_succ_lt_succ h)
theorem yi:(List.range 9).all (fun k=>Nat.ble (aF (af [] wdL k)) 19)=true:=by decide
theorem AH {k:Nat}(h:k<9):(af [] wdL k).length<20:=by
 have:=Nat.le_of_ble_eq_true (List.all_eq_true.mp yi k (List.mem_range.mpr h));rw [aA] at this;exact Nat.lt_succ_of_le this
section
variable {w:World}{mb:Str→Option Value}{mean:ExcName→Option Value}{xt:Led}{n:Nat}{X:Nat→MH→Prop}{l:Loc}{H:MH}(hb:Hb mb)
noncomputable def fu (w:World) (mb:Str→Option Value) (mean:ExcName→Option Value) (xt:Led) (X:Nat→MH→Prop) (f:Addr) (as vs:List V):Prop:=∀ (dd:Nat) (l:Loc) (H:MH) (Q:V→MH→Prop),200≤dd→(∀ H',(∀ b y,H b=some y→H' b=some y)→Q (.lst vs) H')→CL (W0 w mb mean xt) ⟨dd,X⟩ l H f as Q
include hb
theorem ue (hn:252≤n){ns:List Int}(hns:ns.length<1000000){vv rr:List Pr}{ss:Nat→List Pr}{hds:List (List Nat×Bool)}(hv:fu w mb mean xt X 1226 [] (vv.map prV)) (hr:fu w mb mean xt X 1233 [] (rr.map prV))
  (hs:∀ k,k<9→fu w mb mean xt X 1240 [sv (af [] wdL k)] ((ss k).map prV)) (hh:fu w mb mean xt X 1254 [] (hds.map hdV)) (h9:hds.length=9) (hhl:∀ p∈hds,p.1.length<100)
  (hvl:0<(vv++rr).length∧(vv++rr).length<1000) (hsl:∀ k,k<9→0<(ss k).length∧(ss k).length<1000) (hR:∀ p∈vv++rr,kA p) (hS:∀ k,k<9→∀ p∈ss k,Dr hds p)
  (hF:∀ k,k<9→∀ t,t<7→bj (af [] (ftx (af [] wdL k)) t) (if t=5 then 2 else 1)):EXS (W0 w mb mean xt) ⟨n+2,X⟩ cO.scope cO.body [("script",.lst (ns.map .int))] H (fun f ε ε =>f=.ret (.bool true)):=by
 have h200:200≤n+2:=Nat.le_trans (Nat.le_of_ble_eq_true rfl) (Nat.le_trans hn (Nat.le_add_right _ _));have hl24:(ns.map V.int).length<1000000:=by rw [List.length_map];exact hns
 refine az ?_;refine bL (by kernel_rfl) (fun ε =>rfl) ?_;refine aL ?_;refine az ?_;refine vC (fun ε ε =>rfl) (by kernel_rfl) ?_;refine kS ?_;refine aj rfl ?_ (by kernel_rfl) (by kernel_rfl);refine aL ?_;refine ⟨_,24,rfl,rfl,hl24,?_⟩;refine ⟨_,.inl rfl,fun i l' H'=>∃ sd:Int,gu (["script","seed"].zip [.lst (ns.map .int),.int sd]) l'∧0≤sd∧sd<2147483647,⟨19,bf rfl (bf rfl gT),by decide,by decide⟩,?_,?_⟩
 ·intro i u l H it o hu zz hit;cb_eq;rcases zz with ⟨sd,hsub,s0,s1⟩;by_in;obtain ⟨one,rfl⟩:∃ one,u=.int one:=by
   rw [←List.map_take,List.getElem?_map] at hu;cb_eq;rcases Option.map_eq_some_iff.mp hu with ⟨t,_,rfl⟩;by_in;exact ⟨t,rfl⟩
  refine iO (gu.set hsub) ?_;refine az ?_;refine bL (by kernel_rfl) (fun ε =>rfl) ?_;refine aK ?_;refine aK ?_;refine aK ?_;refine aj rfl ?_ (by kernel_rfl) (by kernel_rfl);refine aL ?_;refine jm (IntMulOk.of_right (by decide +kernel)) ?_;refine aj rfl ?_ (by kernel_rfl) (by kernel_rfl);refine dh ?_;refine aL ?_;refine dN (by decide) ?_;refine dP ?_;exact ⟨eu,_,bf rfl (bf rfl gT),(dz (by decide)).1,(dz (by decide)).2⟩
 intro l H zz;cb_eq;rcases zz with ⟨sd,hsub,s0,s1⟩;by_in;refine iO hsub ?_;refine az ?_;refine bL (by kernel_rfl) (fun ε =>rfl) ?_;refine qa ?_;refine ah rfl ?_;refine qb (DO hb (by kernel_rfl)) rfl ?_;refine ah rfl ?_;refine kS ?_;refine aj rfl ?_ (by kernel_rfl) (by kernel_rfl);refine aL ?_;refine ⟨_,24,rfl,rfl,hl24,?_⟩;refine aB ?_;refine xx rfl (by rw [List.length_take];exact Nat.lt_of_le_of_lt (Nat.min_le_left _ _) (by decide)) fun b0 hb0=>?_;refine ah rfl ?_;refine aj rfl ?_ (by kernel_rfl) (by kernel_rfl);refine aB ?_;refine ⟨Nat.le_of_ble_eq_true rfl,fun box hbox=>?_⟩;have hB:bG box b0 (fun ε =>none) ((H.put b0 (.list ((ns.map .int).take 24))).put box (.list [.ref b0,.int sd])):=by
  have ne:box≠b0:=fun z=>by rw [z,eu] at hbox;cases hbox
  refine ⟨ne,rfl,rfl,fun ε ε e=>(nomatch e),ns.take 24,sd,eu,?_,s0,s1,by rw [List.length_take];exact Nat.lt_of_le_of_lt (Nat.min_le_left _ _) (by decide)⟩;rw [eW (Ne.symm ne),eu,List.map_take]
 generalize (H.put b0 (.list ((ns.map .int).take 24))).put box (.list [.ref b0,.int sd])=H at hB ⊢
 refine az ?_;refine bL (by kernel_rfl) (fun ε =>rfl) ?_;refine dl ?_;refine fR ?_;refine ah rfl ?_;refine aI [108,101,116] (by kernel_rfl) ?_;refine ah rfl ?_;refine aI [115,116,97,116,105,99] (by kernel_rfl) ?_;refine ah rfl ?_;refine aI [121,105,101,108,100] (by kernel_rfl) ?_;refine ah rfl ?_;refine aI [112,117,98,108,105,99] (by kernel_rfl) ?_;refine ah rfl ?_;refine aI [105,110,116,101,114,102,97,99,101] (by kernel_rfl) ?_;refine ah rfl ?_;refine aI [105,109,112,108,101,109,101,110,116,115] (by kernel_rfl) ?_;refine ah rfl ?_;refine aI [112,97,99,107,97,103,101] (by kernel_rfl) ?_;refine ah rfl ?_;refine aI [112,114,105,118,97,116,101] (by kernel_rfl) ?_;refine ah rfl ?_;refine aI [112,114,111,116,101,99,116,101,100] (by kernel_rfl) ?_;refine aB ?_;refine ⟨Nat.le_of_ble_eq_true rfl,?_⟩;refine aK ?_;refine eC (kD hb (by kernel_rfl)) rfl ?_;refine ah rfl ?_;refine aj rfl ?_ (by kernel_rfl) (by kernel_rfl);refine aB ?_;refine gz (Nat.lt_trans hl24 (by decide)) ?_;refine aL ?_;refine dN (by decide) ?_;obtain ⟨k0,k1⟩:=dz (i:=((ns.map V.int).length:Int)) (j:=9) (by decide)
 generalize ((ns.map V.int).length:Int).fmod 9=kk at k0 k1 ⊢
 obtain ⟨k,rfl⟩:=Int.eq_ofNat_of_zero_le k0;have hk:k<9:=Int.ofNat_lt.mp k1;refine cg (v:=sv (af [] wdL k)) rfl k0 (i60 k1 (by decide)) (o7 (l:=wdL) hk) ?_;have hs:=hs k hk;have hsl:=hsl k hk;have hS:=hS k hk;have hF:=hF k hk;have hw:=AH hk
 generalize af [] wdL k=wd at hs hF hw ⊢
 generalize ss k=sk at hs hsl hS
 refine az ?_;refine jo (xs:=["rules","strict"]) (fun ε =>rfl) (by intros;kernel_rfl) (by decide +kernel) ?_;refine fQ ?_;refine ah rfl ?_;refine aK ?_;refine aO (by kernel_rfl) xm (by kernel_rfl) vz rfl ?_;refine aB ?_;refine aS ?_;refine hv _ _ _ _ h200 fun H hH=>?_;have hB:=hB.le hH;refine aO (by kernel_rfl) Dz (by kernel_rfl) Af rfl ?_;refine aB ?_;refine aS ?_;refine hr _ _ _ _ h200 fun H hH=>?_;have hB:=hB.le hH;refine jn (by rw [List.length_map,List.length_map,←List.length_append];exact Nat.lt_trans hvl.2 (by decide)) ?_;rw [←List.map_append]
 generalize vv++rr=rl at hvl hR ⊢
 refine ah rfl ?_;refine aO (by kernel_rfl) xn (by kernel_rfl) vA rfl ?_;refine ah rfl ?_;refine aj rfl ?_ (by kernel_rfl) (by kernel_rfl);refine aB ?_;refine aS ?_;refine hs _ _ _ _ h200 fun H hH=>?_;have hB:=hB.le hH;refine aB ?_;refine ⟨Nat.le_of_ble_eq_true rfl,?_⟩;refine ⟨_,rfl,rfl,?_⟩;refine iO (l':=["box","word","rules","strict"].zip [.ref box,sv wd,.lst (rl.map prV),.lst (sk.map prV)]) (bf rfl (bf rfl (bf rfl (bf rfl gT)))) ?_;refine az ?_;refine jX (Aw hb (by kernel_rfl)) rfl (by kernel_rfl) ?_;refine aL ?_;refine ⟨3,rfl,by decide,fun i l' H'=>gu (["box","word","rules","strict"].zip [.ref box,sv wd,.lst (rl.map prV),.lst (sk.map prV)]) l'∧bG box b0 (fun ε =>none) H',⟨bf rfl (bf rfl (bf rfl (bf rfl gT))),hB⟩,?_,?_⟩
 ·intro i l H it o hi zz hit;obtain ⟨hsub,hB⟩:=zz;have ni:=hB.ni hit;have hB:=hB.beside (o:=.raw o) ni;refine iO (gu.set hsub) ?_;refine az ?_;refine ii (xs:=["bad","good"]) (fun ε =>rfl) (by intros;kernel_rfl) (fun ε =>⟨fun ε ε ε ε ε ε h=>wpAny_assign_Name h,fun ε ε ε ε ε ε h=>wpAny_assign_Name h,trivial⟩) (fun ε =>rfl) (by decide +kernel) ?_;refine dl ?_;refine aj rfl ?_ (by kernel_rfl) (by kernel_rfl);refine aO (by kernel_rfl) gc (by kernel_rfl) eU rfl ?_;refine ah rfl ?_;refine aj rfl ?_ (by kernel_rfl) (by kernel_rfl);refine ah rfl ?_;refine eC (kD hb (by kernel_rfl)) rfl ?_;refine ah rfl ?_;refine aj rfl ?_ (by kernel_rfl) (by kernel_rfl);refine aB ?_;refine gz (by rw [List.length_map];exact Nat.lt_trans hvl.2 (by decide)) ?_;rw [List.length_map];refine aB ?_;refine aS ?_;refine db hb hB (Int.ofNat_lt.mpr hvl.1) fun r H r0 r1 hB=>?_;obtain ⟨i,rfl⟩:=Int.eq_ofNat_of_zero_le r0;have hi:i<rl.length:=Int.ofNat_lt.mp r1;have hR:=hR _ (List.getElem_mem hi);have hg:(rl.map prV)[(i:Int).toNat]? = some (prV rl[i]):=by rw [Int.toNat_natCast,List.getElem?_map,List.getElem?_eq_getElem hi];rfl
  generalize rl[i]=p at hR hg
  refine cg (v:=prV p) rfl r0 (i60 r1 (Int.ofNat_le.mpr (Nat.le_of_lt hvl.2))) hg ?_;cb_eq;rcases p with ⟨bt,gt⟩;rcases hR with ⟨l1,l2,l3⟩;by_in;refine ⟨[sv bt,sv gt],rfl,rfl,?_⟩;refine az ?_;refine kC ?_;refine qd ?_;refine my (fun ε ε =>rfl) ?_;refine aO (by kernel_rfl) pZ (by kernel_rfl) n5 rfl ?_;refine ah rfl ?_;refine aj rfl ?_ (by kernel_rfl) (by kernel_rfl);refine ah rfl ?_;refine aj rfl ?_ (by kernel_rfl) (by kernel_rfl);refine ah rfl ?_;refine aj rfl ?_ (by kernel_rfl) (by kernel_rfl);refine aB ?_;refine aS ?_;refine qj hb hn l1 l2 l3 hB fun H hB=>?_;refine ⟨true,rfl,?_⟩;rw [if_neg (by decide)];refine dP ?_;refine dP ?_;exact ⟨hB.keep it _ eu,bf rfl (bf rfl (bf rfl (bf rfl gT))),hB.gone ni⟩
 rintro l H ⟨hsub,hB⟩;refine iO hsub ?_;refine az ?_;refine ii (xs:=["bad","good"]) (fun ε =>rfl) (by intros;kernel_rfl) (fun ε =>⟨fun ε ε ε ε ε ε h=>wpAny_assign_Name h,fun ε ε ε ε ε ε h=>wpAny_assign_Name h,trivial⟩) (fun ε =>rfl) (by decide +kernel) ?_;refine dl ?_;refine aj rfl ?_ (by kernel_rfl) (by kernel_rfl);refine aO (by kernel_rfl) gc (by kernel_rfl) eU rfl ?_;refine ah rfl ?_;refine aj rfl ?_ (by kernel_rfl) (by kernel_rfl);refine ah rfl ?_;refine eC (kD hb (by kernel_rfl)) rfl ?_;refine ah rfl ?_;refine aj rfl ?_ (by kernel_rfl) (by kernel_rfl);refine aB ?_;refine gz (by rw [List.length_map];exact Nat.lt_trans hsl.2 (by decide)) ?_;rw [List.length_map];refine aB ?_;refine aS ?_;refine db hb hB (Int.ofNat_lt.mpr hsl.1) fun r H r0 r1 hB=>?_;obtain ⟨i,rfl⟩:=Int.eq_ofNat_of_zero_le r0;have hi:i<sk.length:=Int.ofNat_lt.mp r1;have hS:=hS _ (List.getElem_mem hi);have hg:(sk.map prV)[(i:Int).toNat]? = some (prV sk[i]):=by rw [Int.toNat_natCast,List.getElem?_map,List.getElem?_eq_getElem hi];rfl
 generalize sk[i]=p at hS hg
 refine cg (v:=prV p) rfl r0 (i60 r1 (Int.ofNat_le.mpr (Nat.le_of_lt hsl.2))) hg ?_;cb_eq;rcases p with ⟨bt,gt⟩;rcases hS with ⟨l1,l2,l3,l4,l5,l6⟩;by_in;refine ⟨[sv bt,sv gt],rfl,rfl,?_⟩;refine az ?_;refine kC ?_;refine qd ?_;refine my (fun ε ε =>rfl) ?_;refine aO (by kernel_rfl) nz (by kernel_rfl) mx rfl ?_;refine ah rfl ?_;refine aj rfl ?_ (by kernel_rfl) (by kernel_rfl);refine ah rfl ?_;refine aj rfl ?_ (by kernel_rfl) (by kernel_rfl);refine ah rfl ?_;refine aj rfl ?_ (by kernel_rfl) (by kernel_rfl);refine aB ?_;refine aS ?_;refine nY hb hn h9 hhl (fun l H Q hq=>hh _ _ _ _ (Nat.le_trans (Nat.le_of_ble_eq_true rfl) (Nat.le_trans hn (Nat.le_add_right _ _))) hq) l1 l2 l3 l4 l5 l6 hB fun H hB=>?_;refine ⟨true,rfl,?_⟩;rw [if_neg (by decide)];refine dP ?_;refine az ?_;refine bL (by kernel_rfl) (fun ε =>rfl) ?_;refine fR ?_;refine ah rfl ?_;refine aI [102,117,110,99,116,105,111,110,32,97,40,101,118,97,108,41,32,123,32,39,117,115,101,32,115,116,114,105,99,116,39,59,32,125] (by kernel_rfl) ?_;refine ah rfl ?_;refine aI [102,117,110,99,116,105,111,110,32,101,118,97,108,40,41,32,123,32,39,117,115,101,32,115,116,114,105,99,116,39,59,32,125] (by kernel_rfl) ?_;refine ah rfl ?_;refine aI [102,117,110,99,116,105,111,110,32,97,40,98,44,32,98,41,32,123,32,39,117,115,101,32,115,116,114,105,99,116,39,59,32,125] (by kernel_rfl) ?_;refine aB ?_;refine ⟨Nat.le_of_ble_eq_true rfl,?_⟩;refine az ?_;refine bL (by kernel_rfl) (fun ε =>rfl) ?_;refine aK ?_;refine aj rfl ?_ (by kernel_rfl) (by kernel_rfl);refine fR ?_;refine ah rfl ?_;refine aI [102,117,110,99,116,105,111,110,32,97,40,41,32,123,32,39,92,48,49,39,59,32,39,117,115,101,32,115,116,114,105,99,116,39,59,32,125] (by kernel_rfl) ?_;refine ah rfl ?_;refine aI [40,102,117,110,99,116,105,111,110,32,97,114,103,117,109,101,110,116,115,40,41,32,123,32,39,117,115,101,32,115,116,114,105,99,116,39,59,32,125,41,59] (by kernel_rfl) ?_;refine ah rfl ?_;refine aI [116,104,114,111,119,10,49,59] (by kernel_rfl) ?_;refine ah rfl ?_;refine aK ?_;refine aK ?_;refine aI [102,40,102,117,110,99,116,105,111,110,32] (by kernel_rfl) ?_;refine aj rfl ?_ (by kernel_rfl) (by kernel_rfl);refine aU (a:=11) (Nat.le_refl _) (Nat.le_of_lt_succ hw) ?_ rfl;refine aI [40,41,32,123,32,39,117,115,101,32,115,116,114,105,99,116,39,59,32,125,41,59] (by kernel_rfl) ?_;refine aU (b:=22) (la_ (a:=11) (Nat.le_refl _) (Nat.le_of_lt_succ hw)) (Nat.le_refl _) ?_ rfl;rw [List.append_assoc];refine aB ?_;refine ⟨Nat.le_of_ble_eq_true rfl,?_⟩;refine jn (by simp only [List.length_cons,List.length_nil];omega) ?_;refine az ?_;refine bL (by kernel_rfl) (fun ε =>rfl) ?_;refine aO (by kernel_rfl) gc (by kernel_rfl) eU rfl ?_;refine ah rfl ?_;refine aj rfl ?_ (by kernel_rfl) (by kernel_rfl);refine ah rfl ?_;refine aL ?_;refine aB ?_;refine aS ?_;refine db hb hB (by decide) fun r H r0 r1 hB=>?_;obtain ⟨t,rfl⟩:=Int.eq_ofNat_of_zero_le r0;have ht:t<7:=Int.ofNat_lt.mp r1;have hF:=hF t ht;refine az ?_;refine dF ?_;refine iP rfl ?_;refine aO (by kernel_rfl) gU (by kernel_rfl) fP rfl ?_;refine ah rfl ?_;refine dl ?_;refine aj rfl ?_ (by kernel_rfl) (by kernel_rfl);refine aj rfl ?_ (by kernel_rfl) (by kernel_rfl);refine cg (v:=sv (af [] (ftx wd) t)) rfl r0 (i60 r1 (by decide)) (o7 (l:=ftx wd) ht) ?_;refine aB ?_;refine aS ?_;refine hF w mb mean xt hb (n+1) X H _ _ (Nat.le_succ_of_le hn) fun H hH=>?_;refine tt ?_;refine iQ rfl ?_;refine aj rfl ?_ (by kernel_rfl) (by kernel_rfl);refine aL ?_;refine dC ?_;refine ⟨_,rfl,?_⟩;have e:((t:Int)==5)=decide (t=5):=by
  by_cases q:t=5
  ·rw [q];rfl
  ·rw [decide_eq_false q];simp;omega
 rw [e]
 by_cases q:t=5
 ·rw [decide_eq_true q,if_pos rfl,if_pos q];refine aL ?_;refine dC ?_;rfl
 ·rw [decide_eq_false q,if_neg Bool.false_ne_true,if_neg q];refine aL ?_;refine dC ?_;rfl
end
end Mine
end
end
section
open PySem PySem.W PySem.Calls PyProof.Rows Hd
noncomputable section
namespace Mine
noncomputable def prU (p:Pr):U:=.tup [.str p.1,.str p.2]
noncomputable def ruP (r:Ru):Pr:=(r.bt,r.gt)
noncomputable def spP (p:Sr×Sr):Pr:=(p.1.st,p.2.st)
noncomputable def rx:Pr:=([97,32,61,32,47,98,59],[97,32,61,32,47,98,47,103,59])
noncomputable def rE:List Pr:=(rus.take 29).map ruP++(rx::((rus.drop 29).take 11).map ruP)
noncomputable def sf:List Pr:=(rus.drop 40).map ruP
noncomputable def swL:List (List (Sr×Sr)):=[sw0,sw1,sw2,sw3,sw4,sw5,sw6,sw7,sw8]
noncomputable def ik (k:Nat):List (Sr×Sr):=sf0++(sf1++(sf2++(sf3++af [] swL k)))
noncomputable def mY:List (List Nat×Bool):=[([39,117,115,101,32,115,116,114,105,99,116,39,59,32],true),([],false),([39,97,39,59,32,34,117,115,101,32,115,116,114,105,99,116,34,59,32],true),([40,39,117,115,101,32,115,116,114,105,99,116,39,41,59,32],false),([39,117,115,101,92,120,50,48,115,116,114,105,99,116,39,59,32],false),([39,117,115,101,32,115,116,114,105,99,116,39,32,43,32,49,59,32],false),([102,40,41,59,32,39,117,115,101,32,115,116,114,105,99,116,39,59,32],false),([39,117,115,101,32,115,116,114,105,99,116,39,46,97,59,32],false),([39,117,115,101,32,115,116,114,105,99,116,39,32,59,32,59],true)]
noncomputable def hdU (p:List Nat×Bool):U:=.tup [.str p.1,.bool p.2]
noncomputable def k9:Pth:=.r (.r (.l (.r (.l (.l (.l (.e)))))))
noncomputable def o5:Pth:=.l (.l (.r (.r (.l (.l (.l (.e)))))))
noncomputable def lf:Pth:=.r (.l (.r (.r (.l (.l (.l (.e)))))))
noncomputable def mJ:Pth:=.r (.r (.r (.r (.l (.l (.l (.e)))))))
noncomputable def mG (r:Rs):Option U:=@Rs.rec (fun ε =>Option U) (fun u ε =>some u) (fun ε =>none) none (fun ε ε ε ε ε =>none) r
noncomputable def nc (f:Pth) (us:List U):Rs:=run tb ⟨[],1,0⟩ ft gH 0 3000 (bA tb ⟨[],1,0⟩ ft f us ⟨[],0,.nil⟩) [] 90
theorem wY:mG (nc k9 [])=some (.lst (rE.map prU)):=by kernel_rfl
theorem CT:mG (nc o5 [])=some (.lst (sf.map prU)):=by kernel_rfl
theorem zG:mG (nc mJ [])=some (.lst (mY.map hdU)):=by kernel_rfl
theorem wZ:(List.range 9).map (fun k=>mG (nc lf [.str (af [] wdL k)]))=(List.range 9).map fun k=>some (.lst (((ik k).map spP).map prU)):=by kernel_rfl
noncomputable def sL:List (List Nat):=[[181,166,378,372,97,261,314,2,282,4],[181,374,67,97,261,314,2,282,4],[181,166,72,95,25,70,97,261,314,2,282,4],[181,166,67,97,261,394,2,314,2,282,4],[180,181,376,67,97,261,314,2,263,20,6,4],[589,590,591,11]]
noncomputable def Ck:List (List Nat):=[[64,180,181,417,67,97,261,314,2,263,20,6,4],[64,180,181,444,67,97,261,314,2,263,20,6,4],[64,180,181,466,67,97,261,314,2,263,20,6,4],[64,180,181,488,67,97,261,314,2,263,20,6,4],[64,180,181,509,67,97,261,314,2,263,20,6,4],[64,180,181,528,67,97,261,314,2,263,20,6,4],[64,180,181,545,67,97,261,314,2,263,20,6,4],[64,180,181,562,67,97,261,314,2,263,20,6,4],[64,180,181,579,67,97,261,314,2,263,20,6,4]]
noncomputable def pG (k t:Nat):List Nat:=IF (Nat.beq t 6) (af [] Ck k) (af [] sL t)
noncomputable def pH (l:List Nat):List (List U):=@List.rec Nat (fun ε =>List (List U)) [] (fun i l ε =>pV (ent i).fs::fsE (mpL ent l)) l
noncomputable def Cd:List (Nat×Nat):=(List.range 9).flatMap fun k=>(List.range 7).map fun t=>(k,t)
noncomputable def ls (t:Nat):Nat:=IF (Nat.beq t 5) 4 2
theorem zm:Cd.all (fun q=>mL (af [] (ftx (af [] wdL q.1)) q.2) 0 (mpL ent (pG q.1 q.2)) (pH (pG q.1 q.2)))=true:=by kernel_rfl
theorem wN:∀ cx,(List.range 6).all (fun t=>nbq (im cx (pH (af [] sL t))) (ls t))=true:=fun cx=>by kernel_rfl
theorem wM:∀ cx,Ck.all (fun l=>nbq (im cx (pH l)) 2)=true:=fun cx=>by kernel_rfl
noncomputable def rxT (a b:Nat):List Nat:=cv [10] a++(rx.1++([32,59]++iq b))
noncomputable def rxG (a b:Nat):List Nat:=cv [10] a++(rx.2++iq b)
theorem By:ab9.all (fun q=>IF (nbq (gk (cX ⟨rxT q.1 q.2,1,0⟩ gH 0)) (Nat.add q.1 (Nat.add q.1 2))) (nbq (gk (cX ⟨rxG q.1 q.2,1,0⟩ gH 0)) 0) false)=true:=by kernel_rfl
theorem Bz:ab9.all (fun q=>IF (Nat.ble (aF (rxT q.1 q.2)) 59999) (Nat.ble (aF (rxG q.1 q.2)) 59999) false)=true:=by kernel_rfl
theorem BM:rus.all (fun r=>IF (Nat.ble (aF r.bt) 999) (Nat.ble (aF r.gt) 999) false)=true:=by kernel_rfl
theorem yC:swL.all (fun l=>(sf0++(sf1++(sf2++(sf3++l)))).all fun p=>IF (Nat.ble (aF p.1.st) 999) (Nat.ble (aF p.2.st) 999) false)=true:=by kernel_rfl
theorem yB:(List.range 9).all (fun k=>IF (Nat.ble 1 (aF (ik k))) (Nat.ble (aF (ik k)) 999) false)=true:=by kernel_rfl
theorem BA:(List.range 3).all (fun a=>IF (cdB (Nat.add a (Nat.add a 2))) (eqI (dq 1 (Nat.add a (Nat.add a 2))) (Int.ofNat (Nat.succ a))) false)=true:=by kernel_rfl
theorem uN:mY.all (fun h=>opC.all fun q=>cT.any fun c=>IF (aN c.P (q.1++h.1)) (IF (aN c.Q q.2) (Nat.beq c.c (IF h.2 2 0)) false) false)=true:=by kernel_rfl
theorem Db:mY.all (fun h=>cN.any fun c=>IF (aN c.P (h.1++fhT)) (IF (aN c.Q [32,125,32,125]) (Nat.beq c.c (IF h.2 2 0)) false) false)=true:=by kernel_rfl
theorem Dc:mY.all (fun h=>cL.any fun c=>IF (aN c.P (fgT++(h.1++[125,32]))) (IF (aN c.Q []) (Nat.beq c.c 0) false) false)=true:=by kernel_rfl
end Mine
end
end
section
open PySem PySem.W PySem.Calls PyProof.Rows Hd
noncomputable section
namespace Mine
section
variable {S:Sd}{cx:Cx}{ρ : Rh}
theorem tG {α : Type}{f : α→U}{g : α→V}(h:∀ a v,VU S cx ρ (f a) v→v=g a):∀ {ps:List α}{vs:List V},VUs S cx ρ (ps.map f) vs→vs=ps.map g
 | [],vs,x=>am x
 | p::ps,vs,x=>by
  cb_eq;rcases ae x with ⟨v,r,rfl,a,b⟩;by_in;rw [h p v a,tG h b];rfl
theorem rC (p:Pr) (v:V) (h:VU S cx ρ (prU p) v):v=prV p:=by
 cb_eq;rcases bS h with ⟨vs,rfl,k1⟩;rcases ae k1 with ⟨a,r,rfl,h1,k2⟩;rcases ae k2 with ⟨b,r,rfl,h2,k3⟩;by_in;obtain rfl:=am k3;rw [ay h1,ay h2];rfl
theorem DR (p:List Nat×Bool) (v:V) (h:VU S cx ρ (hdU p) v):v=hdV p:=by
 cb_eq;rcases bS h with ⟨vs,rfl,k1⟩;rcases ae k1 with ⟨a,r,rfl,h1,k2⟩;rcases ae k2 with ⟨b,r,rfl,h2,k3⟩;by_in;obtain rfl:=am k3;rw [ay h1,bR h2];rfl
end
theorem yX {r:Rs}{u:U}(h:mG r=some u):∃ o,r=.ok u o:=by
 cases r with
 | ok u' o=>exact ⟨o,by rw [Option.some.inj (show some u'=some u from h)]⟩
 | fail _=>cases h
 | out=>cases h
 | call _ _ _ _=>cases h
section
variable {w:World}{mb:Str→Option Value}{mean:ExcName→Option Value}{xt:Led}{X:Nat→MH→Prop}(hb:Hb mb)
include hb
theorem me {α : Type}{f : α→U}{g : α→V}(hfg:∀ S cx ρ a v,VU S cx ρ (f a) v→v=g a){p:Pth}{a:Addr}{b:Fn}(hf:ft.get p=some b) (ha:jk fts (gv p)=a){us:List U}{vs:List V}(hl:us.length=b.ar) (hu:∀ S cx ρ,VUs S cx ρ us vs)
  {ps:List α}(hr:mG (nc p us)=some (.lst (ps.map f))):fu w mb mean xt X a vs (ps.map g):=by
 intro dd l H Q hd hq;obtain ⟨o,ho⟩:=yX hr;have C:=lH (S:=S0 w mb mean xt (fun ε ε =>True)) (cx:=⟨[],1,0⟩) (X:=fun ε =>False) (XX:=X) gf (l9 hb) (Nat.le_of_ble_eq_true rfl) (fun ε ε =>j9 rfl) 90 dd (by omega) p b hf H (fun ε =>none) us vs ⟨[],0,.nil⟩ H l (fun u ε =>u=.lst (ps.map f)) (fun ε ε h=>h.elim)
  ⟨fun ε ε e=>e,fun a ha=>absurd (by cases a<;>rfl) ha,fun ε ε ε ε ε e=>(by cases e),fun ε ε e=>(by cases e),Nat.le_refl 0⟩ (hu _ _ _) hl
  (gE (S:=S0 w mb mean xt (fun ε ε =>True)) (ks:=[]) (m:=3000) (by
   show cc (fun ε =>False) _ (nc p us);rw [ho];exact rfl))
 rw [←ha];refine CL.mono C fun v H' q=>?_;cb_eq;rcases q with ⟨u,o',ρ',le,vu,hI,rfl⟩;rcases bH vu with ⟨ws,rfl,hws⟩;by_in;rw [tG (hfg _ _ _) hws];exact hq H' hI.base
end
theorem uT (a:Nat):gR a=cv [10] a:=rfl
theorem xz (n:Nat):dq n 2=(n:Int):=by show (n:Int)+((0:Nat):Int)=n;omega
theorem DS (n:Nat):dq n 0=0:=rfl
theorem qG {a b:Nat}(hm:(a,b)∈ab9):gk (cX ⟨rxT a b,1,0⟩ gH 0)=Nat.add a (Nat.add a 2)∧gk (cX ⟨rxG a b,1,0⟩ gH 0)=0:=by
 have h:=ai (List.all_eq_true.mp By _ hm);exact ⟨gG h.1,gG h.2⟩
theorem qH {a b:Nat}(hm:(a,b)∈ab9):(rxT a b).length<60000∧(rxG a b).length<60000:=by
 obtain ⟨l1,l2⟩:=ai (List.all_eq_true.mp Bz _ hm);have l1:=Nat.le_of_ble_eq_true l1;have l2:=Nat.le_of_ble_eq_true l2;rw [aA] at l1 l2;exact ⟨by have:(rxT a b).length≤59999:=l1;omega,by have:(rxG a b).length≤59999:=l2;omega⟩
theorem xD {a:Nat}(ha:a<3):cdB (Nat.add a (Nat.add a 2))=true∧dq 1 (Nat.add a (Nat.add a 2))=((a+1:Nat):Int):=by
 obtain ⟨h1,h2⟩:=ai (List.all_eq_true.mp BA a (List.mem_range.mpr ha));exact ⟨h1,cI h2⟩
theorem wk {a b:Nat}(ha:a<3) (hm:(a,b)∈ab9):bj (rxT a b) ((a+1:Nat):Int)∧bj (rxG a b) 0 :=
 ⟨(xD ha).2▸xI (qH hm).1 (qG hm).1 (xD ha).1,xI (qH hm).2 (qG hm).2 rfl⟩
theorem BL:∀ p∈rE++sf,kA p:=by
 have hru:∀ r∈rus,kA (ruP r):=fun r hr=>by
  obtain ⟨h1,h2⟩:=ai (List.all_eq_true.mp BM r hr);have h1:=Nat.le_of_ble_eq_true h1;have h2:=Nat.le_of_ble_eq_true h2;rw [aA] at h1 h2;have h1:(ruP r).1.length<1000:=Nat.lt_succ_of_le h1;have h2:(ruP r).2.length<1000:=Nat.lt_succ_of_le h2;unfold kA;refine And.intro h1 (And.intro h2 ?_);intro a b ha hb;obtain ⟨k1,k2⟩:=se hr ha hb;unfold txB at k1;unfold txG at k2;rw [aW,aW,aW] at k1;rw [aW,aW] at k2;rw [xz] at k1;rw [DS] at k2;exact ⟨k1,k2⟩
 have hrx:kA rx:=by
  have h1:rx.1.length<1000:=Nat.le_of_ble_eq_true (by kernel_rfl);have h2:rx.2.length<1000:=Nat.le_of_ble_eq_true (by kernel_rfl);exact And.intro h1 (And.intro h2 fun a b ha hb=>wk ha (x5 ha hb))
 intro p hp;have key:∀ {l:List Ru},(∀ r∈l,r∈rus)→p∈l.map ruP→kA p:=fun hl h=>by
  cb_eq;rcases List.mem_map.mp h with ⟨r,hr,rfl⟩;by_in;exact hru r (hl r hr)
 rcases List.mem_append.mp hp with hp | hp
 ·rcases List.mem_append.mp (show p∈(rus.take 29).map ruP++(rx::((rus.drop 29).take 11).map ruP) from hp) with hp | hp
  ·exact key (fun r hr=>List.mem_of_mem_take hr) hp
  rcases List.mem_cons.mp hp with rfl | hp
  ·exact hrx
  ·exact key (fun r hr=>List.mem_of_mem_drop (List.mem_of_mem_take hr)) hp
 ·exact key (l:=rus.drop 40) (fun r hr=>List.mem_of_mem_drop hr) hp
structure x6 (p:Sr×Sr):Prop where
 a:SrB true p.1=true
 b:SrB false p.2=true
 c:∀ cx,rnS cx true p.1=exS true p.1
 d:∀ cx,rnS cx false p.2=exS false p.2
theorem iI {l:List (Sr×Sr)}(h:dY l):∀ p∈l,x6 p:=fun p hp=>by
 obtain ⟨h1,h2⟩:=ai (List.all_eq_true.mp h.1 p hp);have k:=fun cx=>ai (List.all_eq_true.mp (h.2 cx) p hp);exact ⟨h1,h2,fun cx=>c9 (k cx).1,fun cx=>c9 (k cx).2⟩
theorem Bc:∀ l∈swL,dY l:=by
 intro t ht;rcases List.mem_cons.mp ht with rfl | ht;exact Bl
 rcases List.mem_cons.mp ht with rfl | ht;exact Bk
 rcases List.mem_cons.mp ht with rfl | ht;exact Bj
 rcases List.mem_cons.mp ht with rfl | ht;exact Bi
 rcases List.mem_cons.mp ht with rfl | ht;exact Bh
 rcases List.mem_cons.mp ht with rfl | ht;exact Bg
 rcases List.mem_cons.mp ht with rfl | ht;exact Bf
 rcases List.mem_cons.mp ht with rfl | ht;exact Be
 rcases List.mem_cons.mp ht with rfl | ht;exact Bd
 cases ht
theorem vW (k:Nat):∀ p∈ik k,x6 p:=fun p hp=>by
 rcases List.mem_append.mp (show p∈sf0++(sf1++(sf2++(sf3++af [] swL k))) from hp) with hp | hp
 ·exact iI Bu p hp
 rcases List.mem_append.mp hp with hp | hp
 ·exact iI Bt p hp
 rcases List.mem_append.mp hp with hp | hp
 ·exact iI Bs p hp
 rcases List.mem_append.mp hp with hp | hp
 ·exact iI Br p hp
 ·exact iI (iD (P:=dY) ⟨rfl,fun ε =>rfl⟩ Bc) p hp
theorem li {α : Type}{d : α}:∀ {l:List α}{i:Nat},i<l.length→af d l i∈l
 | _::_,0,_=>.head _
 | _::r,i+1,h=>.tail _ (li (l:=r) (Nat.lt_of_succ_lt_succ h))
theorem mf {l:List Ct}{P Q:List Nat}{n:Nat}(h:(l.any fun c=>IF (aN c.P P) (IF (aN c.Q Q) (Nat.beq c.c n) false) false)=true):∃ c∈l,c.P=P∧c.Q=Q∧c.c=n:=by
 cb_eq;rcases List.any_eq_true.mp h with ⟨c,hc,h⟩;rcases ai h with ⟨h1,h⟩;rcases ai h with ⟨h2,h3⟩;by_in;exact ⟨c,hc,c9 h1,c9 h2,Nat.eq_of_beq_eq_true h3⟩
theorem oq (c:Ct):(c∈cT→∀ a,a<3→(c,a)∈ca true)∧(c∈cN++cL→(c,0)∈ca true)∧(c∈cT→(c,0)∈ca false):=by
 refine ⟨fun h a ha=>?_,fun h=>?_,fun h=>?_⟩
 ·show (c,a)∈cT.map (·,0)++(cT.map (·,1)++(cT.map (·,2)++(cN++cL).map (·,0)))
  match a,ha with
  | 0,_=>exact List.mem_append_left _ (List.mem_map_of_mem h)
  | 1,_=>exact List.mem_append_right _ (List.mem_append_left _ (List.mem_map_of_mem h))
  | 2,_=>exact List.mem_append_right _ (List.mem_append_right _ (List.mem_append_left _ (List.mem_map_of_mem h)))
 ·show (c,0)∈cT.map (·,0)++(cT.map (·,1)++(cT.map (·,2)++(cN++cL).map (·,0)));exact List.mem_append_right _ (List.mem_append_right _ (List.mem_append_right _ (List.mem_map_of_mem h)))
 ·show (c,0)∈cT.map (·,0);exact List.mem_map_of_mem h
theorem qy (b:Bool) (a:Nat):dq (a+1) (IF b 2 0)=if b then (a:Int)+1 else 0:=by
 cases b with
 | true=>exact xz (a+1)
 | false=>rfl
theorem DV {k:Nat}(hk:k<9):∀ p∈(ik k).map spP,Dr mY p:=by
 intro p hp;cb_eq;rcases List.mem_map.mp hp with ⟨q,hq,rfl⟩;have F:=vW k q hq;have hlen:q∈sf0++(sf1++(sf2++(sf3++af [] swL k))):=hq;rcases ai (List.all_eq_true.mp (List.all_eq_true.mp yC (af [] swL k) (li hk)) q hlen) with ⟨h1,h2⟩;by_in;have h1:=Nat.le_of_ble_eq_true h1;have h2:=Nat.le_of_ble_eq_true h2;rw [aA] at h1 h2;have h1:(spP q).1.length<1000:=Nat.lt_succ_of_le h1;have h2:(spP q).2.length<1000:=Nat.lt_succ_of_le h2;refine ⟨h1,h2,fun h hh o ho a ha=>?_,fun h hh o ho=>?_,fun h hh=>?_,fun h hh=>?_⟩
 ·cb_eq;rcases mf (List.all_eq_true.mp (List.all_eq_true.mp uN h hh) o ho) with ⟨c,hc,e1,e2,e3⟩;by_in;have:=fS F.a F.c ((oq c).1 hc a ha);have e:txC c q.1 a=cv [10] a++(o.1++(h.1++(q.1.st++o.2))):=by
   unfold txC;rw [aW,aW,aW,e1,e2,uT,List.append_assoc]
  rw [e,show cOf true c=c.c from rfl,e3,qy] at this;exact this
 ·cb_eq;rcases mf (List.all_eq_true.mp (List.all_eq_true.mp uN h hh) o ho) with ⟨c,hc,e1,e2,e3⟩;by_in;have:=fS F.b F.d ((oq c).2.2 hc);have e:txC c q.2 0=o.1++(h.1++(q.2.st++o.2)):=by
   unfold txC;rw [aW,aW,aW,e1,e2,List.append_assoc];rfl
  rw [e] at this;exact this
 ·cb_eq;rcases mf (List.all_eq_true.mp Db h hh) with ⟨c,hc,e1,e2,e3⟩;by_in;have:=fS F.a F.c ((oq c).2.1 (List.mem_append_left _ hc));have e:txC c q.1 0=h.1++(fhT++(q.1.st++[32,125,32,125])):=by
   unfold txC;rw [aW,aW,aW,e1,e2,List.append_assoc];rfl
  rw [e,show cOf true c=c.c from rfl,e3,qy] at this;exact this
 ·cb_eq;rcases mf (List.all_eq_true.mp Dc h hh) with ⟨c,hc,e1,e2,e3⟩;by_in;have:=fS F.a F.c ((oq c).2.1 (List.mem_append_right _ hc));have e:txC c q.1 0=fgT++(h.1++([125,32]++q.1.st)):=by
   unfold txC;rw [aW,aW,aW,e1,e2,List.append_assoc,List.append_assoc,List.append_nil];rfl
  rw [e,show cOf true c=c.c from rfl,e3] at this;exact this
theorem Ev {k:Nat}(hk:k<9){t:Nat}(ht:t<7):bj (af [] (ftx (af [] wdL k)) t) (if t=5 then 2 else 1):=by
 have hm:(k,t)∈Cd:=List.mem_flatMap.mpr ⟨k,List.mem_range.mpr hk,List.mem_map.mpr ⟨t,List.mem_range.mpr ht,rfl⟩⟩;have hc:=List.all_eq_true.mp zm _ hm
 by_cases q:t=6
 ·subst q;exact gW (c:=2) (eB _) hc (fun cx=>gG (List.all_eq_true.mp (wM cx) _ (li hk))) rfl
 ·have hr:∀ cx,im cx (pH (af [] sL t))=ls t:=fun cx=>gG (List.all_eq_true.mp (wN cx) t (List.mem_range.mpr (Nat.lt_of_le_of_ne (Nat.le_of_lt_succ ht) q)));have e:pG k t=af [] sL t:=by unfold pG;rw [bW q]
  have:=gW (c:=ls t) (eB _) hc (fun cx=>by show im cx (pH (pG k t))=_;rw [e];exact hr cx) (by unfold ls;cases Nat.beq t 5<;>rfl);have e2:dq 1 (ls t)=if t=5 then 2 else 1:=by
   by_cases z:t=5
   ·rw [z];rfl
   ·rw [if_neg z];unfold ls;rw [bW z];rfl
  have this':bj (af [] (ftx (af [] wdL k)) t) (dq 1 (ls t)):=this;rw [e2] at this';exact this'
section
variable {w:World}{mb:Str→Option Value}{mean:ExcName→Option Value}{xt:Led}{X:Nat→MH→Prop}{H:MH}(hb:Hb mb)
include hb
theorem wG:fu w mb mean xt X 1226 [] (rE.map prV):=by
 obtain ⟨b,h1,h2⟩:∃ b,ft.get k9=some b∧0=b.ar:=⟨_,rfl,rfl⟩;exact me hb (us:=[]) (p:=k9) (fun ε ε ε =>rC) h1 (by kernel_rfl) h2 (fun ε ε ε =>aH) wY
theorem Cg:fu w mb mean xt X 1233 [] (sf.map prV):=by
 obtain ⟨b,h1,h2⟩:∃ b,ft.get o5=some b∧0=b.ar:=⟨_,rfl,rfl⟩;exact me hb (us:=[]) (p:=o5) (fun ε ε ε =>rC) h1 (by kernel_rfl) h2 (fun ε ε ε =>aH) CT
theorem zg:fu w mb mean xt X 1254 [] (mY.map hdV):=by
 obtain ⟨b,h1,h2⟩:∃ b,ft.get mJ=some b∧0=b.ar:=⟨_,rfl,rfl⟩;exact me hb (us:=[]) (p:=mJ) (fun ε ε ε =>DR) h1 (by kernel_rfl) h2 (fun ε ε ε =>aH) zG
theorem wH {k:Nat}(hk:k<9):fu w mb mean xt X 1240 [sv (af [] wdL k)] (((ik k).map spP).map prV):=by
 obtain ⟨b,h1,h2⟩:∃ b,ft.get lf=some b∧1=b.ar:=⟨_,rfl,rfl⟩;have w1:∀ S cx ρ,VUs S cx ρ [.str (af [] wdL k)] [sv (af [] wdL k)]:=fun S cx ρ =>aq (rfl) aH;refine me hb (f:=prU) (g:=prV) (ps:=(ik k).map spP) (p:=lf) (us:=[.str (af [] wdL k)]) (fun ε ε ε =>rC) h1 (by kernel_rfl) h2 (fun S cx ρ =>w1 S cx ρ) ?_;have hm:=List.mem_range.mpr hk;exact List.map_inj_left.mp wZ k hm
omit hb in
theorem DW {k:Nat}(hk:k<9):0<((ik k).map spP).length∧((ik k).map spP).length<1000:=by
 obtain ⟨h1,h2⟩:=ai (List.all_eq_true.mp yB k (List.mem_range.mpr hk));have h1:=Nat.le_of_ble_eq_true h1;have h2:=Nat.le_of_ble_eq_true h2;rw [List.length_map];rw [aA] at h1 h2;exact ⟨h1,Nat.lt_succ_of_le h2⟩
theorem zd {ns:List Int}(hns:ns.length<1000000):EXS (W0 w mb mean xt) ⟨254,X⟩ cO.scope cO.body [("script",.lst (ns.map .int))] H (fun f ε ε =>f=.ret (.bool true)) :=
 ue (n:=252) (ss:=fun k=>(ik k).map spP) hb (Nat.le_refl _) hns (wG hb) (Cg hb) (fun k hk=>wH hb hk) (zg hb) rfl (by decide) ⟨Nat.le_of_ble_eq_true (by kernel_rfl),Nat.le_of_ble_eq_true (by kernel_rfl)⟩ (fun k hk=>DW hk) BL (fun k hk=>DV hk) (fun k hk t ht=>Ev hk ht)
end
end Mine
end
end
section
open PySem PySem.W PySem.Calls PyProof.Rows Hd
noncomputable section
namespace Mine
theorem nG {P:Params}{fz:Fz}{h:Heap}:∀ (ns:List Int) (vs:List Value),WellAll P h vs (ofPys (ns.map .int))→VRs P fz (ns.map .int) vs
 | [],_,w=>by cases w;trivial
 | n::ns,_,w=>by
  cases w with
  | cons a b =>
   cases a
   exact ⟨aZ,nG ns _ b⟩
set_option tactic.hygienic true in
theorem entry {w:World}{s₁:Shared}{mean:ExcName→Option Value}{mg mb:Str→Option Value}{fa sa:Addr}{cd:Value}{ns:List Int}{h₁:Heap}{m:Str→Option Value}{tk:Nat}(Y:YP w s₁.heap) (T:Top qv (looseW qv loose) mean mg mb s₁.heap) (hg:s₁.gens = #[])
  (F:Fr s₁.heap s₁.heap.objs.size h₁ m) (hm:m (Str.ofString "script")=some (.ref sa)) (WL:Well w.params s₁.heap (.ref sa) (ofPy (.list (ns.map .int)))) (hl:¬((63:Int)<(ns.length:Int))){Q:Flow→Shared→Prop}{E:Value→Shared→Prop}
  (hq:∀ s',(∀ b o,s₁.heap.get? b=some o→s'.heap.get? b=some o)→s'.os=s₁.os→s'.gens = #[]→Q (.ret (.bool true)) s') :
  wpAny (model RW.row.prog w) (callerA.deeper (envOf cO.name cO.scope s₁.heap.objs.size fa cd)) (execs cO.body (envOf cO.name cO.scope s₁.heap.objs.size fa cd)) Q E { heap:=h₁,gens:=s₁.gens,drawn:=s₁.drawn,toks:=tk,os:=s₁.os}:=by
 have hN:ns.length<1000000:=by omega
 have kin:(KK w.params).In s₁.heap:=fun a o e=>Y a o (EN w.params a o e);have hmg:mg=pz w.params:=by
  cb_eq;rcases T.g with ⟨o,es,ep,ho,hd,_,hf⟩;by_in;have k3:s₁.heap.get? mainGlobals=some (oD (km w.params) 107):=kin 3 _ rfl;rw [k3] at ho
  cases ho
  cases hd
  exact funext fun x=>(hf x).symm
 subst hmg
 cases WL with
 | list hget hw =>
  rename_i vs;have hV:VRs w.params (gL (W0 w mb mean [(sa,bq vs 0)]).B [] (fun ε =>none)) (ns.map V.int) vs:=nG ns vs hw;refine (zd (w:=w) (mb:=mb) (mean:=mean) (xt:=[(sa,bq vs 0)]) (X:=fun ε ε =>False) (H:=fun ε =>none) T.builtins hN).go ⟨callerA,callerA.deeper (envOf cO.name cO.scope s₁.heap.objs.size fa cd),s₁.heap,s₁.heap,[],s₁.heap.objs.size,fa,cO.name,cO.scope,cd,E,gL (W0 w mb mean [(sa,bq vs 0)]).B [] (fun ε =>none),s₁.os⟩ [] (fun ε =>none) _ Q rfl ?_ ?_ ?_
  ·refine ⟨rfl,rfl,kin,fun p hp=>?_,T,rfl,Nat.le_of_ble_eq_true rfl,Nat.le_of_ble_eq_true rfl,fun e s hr=>?_⟩
   ·obtain rfl:=List.mem_singleton.mp hp;exact hget
   ·cb_eq;rcases hr with ⟨B,t,dx,T',n,H,news,ow,r⟩;by_in;exact r.x.elim
  ·refine ⟨⟨s₁.heap,m,⟨KtsTurn.refl,below_caller _,ktsDicts_nil⟩,F,(fun p hp=>nomatch hp),fun x v e=>?_⟩,(fun a o e=>nomatch e),List.nodup_nil,hg,Le.refl _,rfl⟩
   by_cases hx:x="script"
   ·subst hx;have e':V.lst (ns.map .int)=v:=by
     have:dR [("script",V.lst (ns.map .int))] "script" = some (V.lst (ns.map .int)):=rfl;rw [this] at e;exact Option.some.inj e
    subst e';refine ⟨_,hm,?_⟩;exact Exists.intro sa ⟨0,vs,rfl,.inl (.inr (.head _)),hV⟩
   ·have:dR [("script",V.lst (ns.map .int))] x=none:=by
     rw [f6];rw [if_neg (by rw [beq_iff_eq];exact fun z=>hx z.symm)];rfl
    rw [this] at e
    cases e
  ·intro f Fl l' H' news' ow' s' hs le os fr q;subst q;cb_eq;rcases fr with ⟨U,rfl,vr⟩;by_in;have vr:=bk vr;subst vr;cb_eq;rcases hs.fr with ⟨g,m',G,F',_,_⟩;by_in;exact hq s' (fun b o e=>F'.keep b o (G.turn.other b o e (fun z=>nomatch z))) hs.os0 hs.gens
theorem AI:Hd.Walk:=by
 intro w s₀ s₁ mg mb G Y fa o pm cd doc dV kV ho hd hcd hD hmg hg args vals as hpre hlay hrd hwl hlo;refine Ground.open G ?_;intro T B D TE TW
 try (refine guard_noD D (by decide +kernel) ?_;clear D)
 obtain ⟨_,_,M⟩:=bmod_of_top T;have TA:=at_of_top T
 try (obtain ⟨_,_,he,B0⟩:=based_of_top T rfl hmg ho hd;have he':cd=_:=he;subst he';clear he)
 clear hmg
 wrow_args hpre hlay hrd hwl hlo
 refine enter_call ?_
 w_top on
 try refine codeAny_mono ?_ (fun ε ε g=>GoodW.toG g)
 have K0:=below_caller (Top.heap T)
 w_call any ho hd hcd hD T F
 refine entry Y T hg F rfl (by assumption) (by assumption) ?_;intro s' kp ho' hg';refine ⟨.inl ⟨.bool true,.bool true,[],rfl,raisesW_false (by wrow_none_raised),.bool true,?_,?_⟩,kp,ho',hg'⟩
 ·exact postW_of (by wrow_shape) (by wtm_val) rfl
 ·intro _;exact ⟨List.nodup_nil,fun ε h=>nomatch h⟩
theorem holds02:RW.Holds:=Hd.head AI
end Mine
end
end
theorem PySem.Challenge.cw_nt0400_02_holds : PySem.Challenge.rw_nt0400_02.Holds :=
 Mine.holds02
