import PyProof.Rows.All
import OpenK.KLine
import OpenK.AllK
import Wide.All
import PySem.Challenge.RW_nt0400_01
set_option Elab.async false
set_option maxRecDepth 100000
set_option maxHeartbeats 0
set_option linter.unusedVariables false
set_option linter.unusedSectionVars false
set_option linter.unusedSimpArgs false
section
open PySem PySem.W PyProof.Rows
noncomputable section
namespace Hd
noncomputable abbrev PW : Program := PySem.Challenge.pw_nt0400_01
noncomputable abbrev RW : OpenLaw := PySem.Challenge.rw_nt0400_01
noncomputable def nthS : List Stmt→Nat→Stmt
  | [],_ => .Pass ⟨0,0,0,0⟩
  | a :: _,0 => a
  | _ :: r,n + 1 => nthS r n
noncomputable def fT (i : Nat) : Stmt := nthS PW.main.body i
noncomputable def clsB : Stmt→List Stmt
  | .ClassDef _ _ _ b _ _ _ _ _ _ _ => b
  | _ => []
noncomputable def fM (i j : Nat) : Stmt := nthS (clsB (fT i)) j
noncomputable def sPar : Stmt→Arguments
  | .FunctionDef _ a _ _ _ _ _ _ _ _ => a
  | _ => ⟨[],[],none,[],[],none,[]⟩
noncomputable def sBody : Stmt→List Stmt
  | .FunctionDef _ _ b _ _ _ _ _ _ _ => b
  | _ => []
noncomputable def sScope : Stmt→Scope
  | .FunctionDef _ _ _ _ _ _ s _ _ _ => s
  | _ => default
noncomputable abbrev I (i : Int) (t : Nat) : Value := .int i t
noncomputable abbrev T (x : String) (t : Nat) : Value := .str (Str.ofString x) t
noncomputable abbrev R (a : Nat) : Value := .ref a
noncomputable abbrev L {α : Type} (l : List α) : Array α := l.toArray
noncomputable abbrev E (P : Params) (x : String) (t : Nat) (v : Value) : DictEntry := ⟨PyData.keyHash P (Str.ofString x),.str (Str.ofString x) t,v⟩
noncomputable abbrev oT (vs : List Value) : Obj := ⟨.type "tuple",none,.seq vs.toArray 0,#[]⟩
noncomputable abbrev oF (vs : List Value) : Obj := ⟨.none,none,.fields vs.toArray,#[]⟩
noncomputable abbrev oC (vs : List Value) : Obj := ⟨.type "code",none,.fields vs.toArray,#[]⟩
noncomputable abbrev oD (es : List DictEntry) (n : Nat) : Obj := ⟨.type "dict",none,.dict es.toArray n,#[]⟩
noncomputable abbrev fd (st : Stmt) (name qual : String) (globals : Addr) (dV kV doc pm : Value) (an : Option Addr) (cd ct : Value) (b : Addr) : FuncData :=
  { name := Str.ofString name,qualname := Str.ofString qual,params := sPar st,body := .stmts (sBody st),scope := sScope st,globals := globals,closure := [],defaults := dV,kwdefaults := kV,doc := doc,pyModule := pm,annotations := an,code := cd,closureTuple := ct,builtins := b }
noncomputable def strsAt : List String→Nat→List Value
  | [],_ => []
  | x :: r,t => T x t :: strsAt r (t + 1)
noncomputable def fp (b : Nat) (st : Stmt) (name qual : String) (t line argc c7 fut : Nat) (vars : List String) (pm : Value) : List Obj :=
  [oT [],oF [],oT (strsAt vars (t + 3)),oT [],
   ⟨.none,none,.func (fd st name qual 0 .none .none .none .none none .none .none 0),#[]⟩,
   oC [T name t,T qual (t + 1),T "/claim/cut.py" (t + 2),I line 0,I argc 0,I 0 0,I 0 0,I c7 0,R b,.bool true,I fut 0,R (b + 1),.none,R (b + 2),R (b + 3),R (b + 4),I (t + 3 + vars.length : Nat) 0,I line 0,T "/claim/cut.py" (t + 3 + vars.length + 1)],
   ⟨.type "function",none,.func (fd st name qual 3 .none .none .none pm none (R (b + 5)) .none 0),#[]⟩]
noncomputable def uD (es : List DictEntry) (n : Nat) : Obj→Obj
  | ⟨c,d,.dict e _,s⟩ => ⟨c,d,.dict (e.toList ++ es).toArray n,s⟩
  | o => o
noncomputable def uF (vs : List Value) : Obj→Obj
  | ⟨c,d,.fields v,s⟩ => ⟨c,d,.fields (v.toList ++ vs).toArray,s⟩
  | o => o
noncomputable def uW (o : Obj) : Obj→Obj := fun _ => o
noncomputable def addN : BT→Nat→List Obj→BT
  | t,_,[] => t
  | t,n,o :: r => addN (t.ins n o) (n + 1) r
noncomputable def setN : BT→List (Nat × (Obj→Obj))→BT
  | t,[] => t
  | t,(a,f) :: r => setN (t.set a f) r
noncomputable def d0 (P : Params) : List Obj := [oT []] ++
  [oF []] ++
  [oC [(T "<module>" 182),(T "<module>" 183),(T "/claim/cut.py" 184),(I 1 0),(I 0 0),(I 0 0),(I 0 0),(I 0 0),(R 11),(.bool false),(I 181 0),(R 12),.none,.none,.none,.none,(I 185 0),(I 1 0),(T "/claim/cut.py" 186)]] ++
  [⟨(.type "frame"),none,.plain,L [(some (R 13)),(some (R 3)),(some (R 3)),none,(some (T "__main__" 164)),none,(some (R 0))]⟩]
noncomputable def u1 (P : Params) : List (Nat × (Obj→Obj)) := [(3,uW (oD [E P "__name__" 165 (T "js.chars" 473),E P "__doc__" 166 .none,E P "__package__" 167 .none,E P "__loader__" 168 (.builtin "__main__.__loader__#opaque"),E P "__spec__" 169 .none,E P "__annotations__" 170 (R 6),E P "__builtins__" 171 (R 4),E P "__file__" 173 (T "/claim/cut.py" 172),E P "__cached__" 174 .none,E P "Node" 222 (R 31),E P "SIGN_BIT" 228 (I 9223372036854775808 227),E P "FRACTION_BITS" 230 (I 52 229),E P "FRACTION_MASK" 236 (I 4503599627370495 235),E P "HIDDEN_BIT_dbits" 240 (I 4503599627370496 239),E P "EXPONENT_MASK" 242 (I 2047 241),E P "EXPONENT_SHIFT" 244 (I 1075 243),E P "LEAST_POWER_dbits" 247 (I (-1074) 246),E P "ZERO" 249 (I 0 248),E P "INF" 253 (I 9218868437227405312 252),E P "width" 262 (R 42),E P "pack" 271 (R 49),E P "is_negative" 278 (R 56),E P "is_nan" 285 (R 63),E P "is_inf" 292 (R 70),E P "is_zero" 299 (R 77),E P "signed" 307 (R 84),E P "parts" 317 (R 91),E P "quotient" 326 (R 98),E P "round_ratio" 339 (R 105),E P "assembled" 349 (R 112),E P "from_int" 356 (R 119),E P "LEAST_POWER_numshow" 361 (I (-1074) 360),E P "HIDDEN_BIT_numshow" 365 (I 4503599627370496 364),E P "scaled" 376 (R 126),E P "decimal_place" 385 (R 133),E P "first_place" 398 (R 140),E P "shortest" 419 (R 147),E P "last_figure" 430 (R 154),E P "signed_exponent" 437 (R 161),E P "with_exponent" 446 (R 168),E P "laid_out" 455 (R 175),E P "without_figures" 462 (R 182),E P "show" 472 (R 189),E P "BLANKS" 486 (R 190),E P "LINE_ENDS" 491 (R 191)] 45)),
  (12,uF [(I 2 0),(I 0 0),(R 20),(I 19 0),(I 0 0),(R 41),(I 29 0),(I 0 0),(R 48),(I 31 0),(I 0 0),(R 55),(I 33 0),(I 0 0),(R 62),(I 35 0),(I 0 0),(R 69),(I 37 0),(I 0 0),(R 76),(I 39 0),(I 0 0),(R 83),(I 41 0),(I 0 0),(R 90),(I 46 0),(I 0 0),(R 97),(I 52 0),(I 0 0),(R 104),(I 63 0),(I 0 0),(R 111),(I 72 0),(I 0 0),(R 118),(I 77 0),(I 0 0),(R 125),(I 84 0),(I 0 0),(R 132),(I 89 0),(I 0 0),(R 139),(I 97 0),(I 0 0),(R 146),(I 118 0),(I 0 0),(R 153),(I 124 0),(I 0 0),(R 160),(I 126 0),(I 0 0),(R 167),(I 129 0),(I 0 0),(R 174),(I 138 0),(I 0 0),(R 181),(I 144 0),(I 0 0),(R 188)])]
noncomputable def d1 (P : Params) : List Obj := [oT []] ++
  [⟨(.type "builtin_function_or_method"),none,(.fields (L [(.builtin "type.__prepare__"),(.type "type")])),L []⟩] ++
  [oD [E P "__module__" 196 (T "js.nodes" 187),E P "__qualname__" 198 (T "Node" 197),E P "__firstlineno__" 200 (I 2 199),E P "__init__" 210 (R 28),E P "__static_attributes__" 215 (R 29)] 5] ++
  [oT []] ++
  [oF [(I 4 0),(I 4 0),(R 27)]] ++
  [oC [(T "Node" 191),(T "Node" 192),(T "/claim/cut.py" 193),(I 2 0),(I 0 0),(I 0 0),(I 0 0),(I 0 0),(R 18),(.bool false),(I 181 0),(R 19),.none,.none,.none,.none,(I 194 0),(I 2 0),(T "/claim/cut.py" 195)]] ++
  [⟨(.type "frame"),none,.plain,L [(some (R 20)),(some (R 3)),(some (R 17)),none,(some (T "js.nodes" 187)),none,(some (R 0))]⟩] ++
  fp 22 (fM 1 0) "__init__" "Node.__init__" 201 4 4 3 181 ["self","kind","line","parts"] (T "js.nodes" 187) ++
  [oT [(T "kind" 211),(T "line" 212),(T "parts" 213),(T "scope" 214)]] ++
  [oD [E P "__module__" 196 (T "js.nodes" 187),E P "__firstlineno__" 200 (I 2 199),E P "__init__" 210 (R 28),E P "__static_attributes__" 215 (R 29),E P "__dict__" 217 (R 32),E P "__weakref__" 219 (R 33),E P "__doc__" 220 .none] 4] ++
  [⟨(.type "type"),none,(.cls ⟨Str.ofString "Node",[(.type "object")],[(R 31),(.type "object")],30,Str.ofString "Node",true,[],[],false,none,false⟩),L [none,none,(some (T "Node" 189)),(some (T "Node" 197)),(some (.builtin "object.__new__")),(some (.bool true))]⟩] ++
  [⟨(.type "getset_descriptor"),none,(.fields (L [(T "__dict__" 216),(R 31),(.builtin "function.__dict__"),(.builtin "function.__dict__#set")])),L []⟩] ++
  [⟨(.type "getset_descriptor"),none,(.fields (L [(T "__weakref__" 218),(R 31),(.builtin "ExceptionGroup.__weakref__"),.none])),L []⟩] ++
  [⟨(.type "super"),none,(.fields (L [(R 31),(R 31),(R 31)])),L []⟩] ++
  [⟨(.type "builtin_function_or_method"),none,(.fields (L [(.builtin "object.__init_subclass__"),(R 31)])),L []⟩] ++
  fp 36 (fT 12) "width" "width" 254 19 1 3 181 ["n","many","step"] (T "js.dbits" 223) ++
  fp 43 (fT 13) "pack" "pack" 263 29 3 3 181 ["sign","exponent","fraction"] (T "js.dbits" 223) ++
  fp 50 (fT 14) "is_negative" "is_negative" 272 31 1 3 181 ["bits"] (T "js.dbits" 223) ++
  fp 57 (fT 15) "is_nan" "is_nan" 279 33 1 3 181 ["bits"] (T "js.dbits" 223) ++
  fp 64 (fT 16) "is_inf" "is_inf" 286 35 1 3 181 ["bits"] (T "js.dbits" 223) ++
  fp 71 (fT 17) "is_zero" "is_zero" 293 37 1 3 181 ["bits"] (T "js.dbits" 223) ++
  fp 78 (fT 18) "signed" "signed" 300 39 2 3 181 ["sign","bits"] (T "js.dbits" 223) ++
  fp 85 (fT 19) "parts" "parts" 308 41 1 3 181 ["bits","sign","exponent","fraction"] (T "js.dbits" 223) ++
  fp 92 (fT 20) "quotient" "quotient" 318 46 3 3 181 ["top","bottom","power"] (T "js.dbits" 223) ++
  fp 99 (fT 21) "round_ratio" "round_ratio" 327 52 3 3 181 ["sign","top","bottom","power","whole","rest","unit"] (T "js.dbits" 223) ++
  fp 106 (fT 22) "assembled" "assembled" 340 63 3 3 181 ["sign","whole","power","exponent"] (T "js.dbits" 223) ++
  fp 113 (fT 23) "from_int" "from_int" 350 72 1 3 181 ["n"] (T "js.dbits" 223) ++
  fp 120 (fT 27) "scaled" "scaled" 366 77 2 3 181 ["mantissa","power","is_edge","factor","above"] (T "js.numshow" 357) ++
  fp 127 (fT 28) "decimal_place" "decimal_place" 377 84 2 3 181 ["top","bottom","found"] (T "js.numshow" 357) ++
  fp 134 (fT 29) "first_place" "first_place" 386 89 4 3 181 ["number","above","unit","is_even","found","edge","limit"] (T "js.numshow" 357) ++
  fp 141 (fT 30) "shortest" "shortest" 399 97 1 3 181 ["bits","sign","mantissa","power","is_even","number","above","below","unit","place","factor","found","figure","is_low","is_high"] (T "js.numshow" 357) ++
  fp 148 (fT 31) "last_figure" "last_figure" 420 118 5 3 181 ["figure","rest","unit","is_low","is_high"] (T "js.numshow" 357) ++
  fp 155 (fT 32) "signed_exponent" "signed_exponent" 431 124 1 3 181 ["exponent"] (T "js.numshow" 357) ++
  fp 162 (fT 33) "with_exponent" "with_exponent" 438 126 2 3 181 ["figures","exponent","rest"] (T "js.numshow" 357) ++
  fp 169 (fT 34) "laid_out" "laid_out" 447 129 2 3 181 ["figures","place","size"] (T "js.numshow" 357) ++
  fp 176 (fT 35) "without_figures" "without_figures" 456 138 1 3 181 ["bits"] (T "js.numshow" 357) ++
  fp 183 (fT 36) "show" "show" 463 144 1 3 181 ["bits","told","figures","place"] (T "js.numshow" 357) ++
  [⟨(.type "list"),none,(.seq (L [(I 9 475),(I 11 476),(I 12 477),(I 32 478),(I 160 479),(I 5760 480),(I 6158 481),(I 8239 482),(I 8287 483),(I 12288 484),(I 65279 485)]) 0),L []⟩] ++
  [⟨(.type "list"),none,(.seq (L [(I 10 487),(I 13 488),(I 8232 489),(I 8233 490)]) 0),L []⟩]
noncomputable def u2 (P : Params) : List (Nat × (Obj→Obj)) := [(3,uW (oD [E P "__name__" 165 (T "js.escapes" 629),E P "__doc__" 166 .none,E P "__package__" 167 .none,E P "__loader__" 168 (.builtin "__main__.__loader__#opaque"),E P "__spec__" 169 .none,E P "__annotations__" 170 (R 6),E P "__builtins__" 171 (R 4),E P "__file__" 173 (T "/claim/cut.py" 172),E P "__cached__" 174 .none,E P "Node" 222 (R 31),E P "SIGN_BIT" 228 (I 9223372036854775808 227),E P "FRACTION_BITS" 230 (I 52 229),E P "FRACTION_MASK" 236 (I 4503599627370495 235),E P "HIDDEN_BIT_dbits" 240 (I 4503599627370496 239),E P "EXPONENT_MASK" 242 (I 2047 241),E P "EXPONENT_SHIFT" 244 (I 1075 243),E P "LEAST_POWER_dbits" 247 (I (-1074) 246),E P "ZERO" 249 (I 0 248),E P "INF" 253 (I 9218868437227405312 252),E P "width" 262 (R 42),E P "pack" 271 (R 49),E P "is_negative" 278 (R 56),E P "is_nan" 285 (R 63),E P "is_inf" 292 (R 70),E P "is_zero" 299 (R 77),E P "signed" 307 (R 84),E P "parts" 317 (R 91),E P "quotient" 326 (R 98),E P "round_ratio" 339 (R 105),E P "assembled" 349 (R 112),E P "from_int" 356 (R 119),E P "LEAST_POWER_numshow" 361 (I (-1074) 360),E P "HIDDEN_BIT_numshow" 365 (I 4503599627370496 364),E P "scaled" 376 (R 126),E P "decimal_place" 385 (R 133),E P "first_place" 398 (R 140),E P "shortest" 419 (R 147),E P "last_figure" 430 (R 154),E P "signed_exponent" 437 (R 161),E P "with_exponent" 446 (R 168),E P "laid_out" 455 (R 175),E P "without_figures" 462 (R 182),E P "show" 472 (R 189),E P "BLANKS" 486 (R 190),E P "LINE_ENDS" 491 (R 191),E P "LETTERS" 556 (R 224),E P "PARTS" 569 (R 231),E P "is_among" 579 (R 238),E P "is_white" 586 (R 245),E P "is_line_end" 593 (R 252),E P "is_digit" 600 (R 259),E P "is_octal_digit" 607 (R 266),E P "hex_value" 614 (R 273),E P "is_id_start" 621 (R 280),E P "is_id_part" 628 (R 287)] 55)),
  (12,uF [(I 157 0),(I 0 0),(R 237),(I 162 0),(I 0 0),(R 244),(I 164 0),(I 0 0),(R 251),(I 166 0),(I 0 0),(R 258),(I 168 0),(I 0 0),(R 265),(I 170 0),(I 0 0),(R 272),(I 176 0),(I 0 0),(R 279),(I 180 0),(I 0 0),(R 286)])]
noncomputable def d2 (P : Params) : List Obj := [oT [(I 170 492),(I 170 493)]] ++
  [oT [(I 181 494),(I 181 495)]] ++
  [oT [(I 186 496),(I 186 497)]] ++
  [oT [(I 192 498),(I 214 499)]] ++
  [oT [(I 216 500),(I 246 501)]] ++
  [oT [(I 248 502),(I 705 503)]] ++
  [oT [(I 880 504),(I 883 505)]] ++
  [oT [(I 886 506),(I 887 507)]] ++
  [oT [(I 891 508),(I 893 509)]] ++
  [oT [(I 902 510),(I 902 511)]] ++
  [oT [(I 904 512),(I 906 513)]] ++
  [oT [(I 908 514),(I 908 515)]] ++
  [oT [(I 910 516),(I 929 517)]] ++
  [oT [(I 931 518),(I 1013 519)]] ++
  [oT [(I 1015 520),(I 1153 521)]] ++
  [oT [(I 1162 522),(I 1315 523)]] ++
  [oT [(I 1329 524),(I 1366 525)]] ++
  [oT [(I 1377 526),(I 1415 527)]] ++
  [oT [(I 1488 528),(I 1514 529)]] ++
  [oT [(I 1569 530),(I 1594 531)]] ++
  [oT [(I 1601 532),(I 1610 533)]] ++
  [oT [(I 2308 534),(I 2361 535)]] ++
  [oT [(I 4256 536),(I 4293 537)]] ++
  [oT [(I 4304 538),(I 4346 539)]] ++
  [oT [(I 7680 540),(I 7835 541)]] ++
  [oT [(I 7840 542),(I 7929 543)]] ++
  [oT [(I 8544 544),(I 8578 545)]] ++
  [oT [(I 12353 546),(I 12438 547)]] ++
  [oT [(I 12449 548),(I 12538 549)]] ++
  [oT [(I 12549 550),(I 12588 551)]] ++
  [oT [(I 19968 552),(I 40891 553)]] ++
  [oT [(I 44032 554),(I 55203 555)]] ++
  [⟨(.type "list"),none,(.seq (L [(R 192),(R 193),(R 194),(R 195),(R 196),(R 197),(R 198),(R 199),(R 200),(R 201),(R 202),(R 203),(R 204),(R 205),(R 206),(R 207),(R 208),(R 209),(R 210),(R 211),(R 212),(R 213),(R 214),(R 215),(R 216),(R 217),(R 218),(R 219),(R 220),(R 221),(R 222),(R 223)]) 0),L []⟩] ++
  [oT [(I 768 557),(I 879 558)]] ++
  [oT [(I 1632 559),(I 1641 560)]] ++
  [oT [(I 2406 561),(I 2415 562)]] ++
  [oT [(I 8204 563),(I 8205 564)]] ++
  [oT [(I 8255 565),(I 8256 566)]] ++
  [oT [(I 8276 567),(I 8276 568)]] ++
  [⟨(.type "list"),none,(.seq (L [(R 225),(R 226),(R 227),(R 228),(R 229),(R 230)]) 0),L []⟩] ++
  fp 232 (fT 42) "is_among" "is_among" 570 157 2 3 181 ["code","ranges","first","last"] (T "js.chars" 473) ++
  fp 239 (fT 43) "is_white" "is_white" 580 162 1 3 181 ["code"] (T "js.chars" 473) ++
  fp 246 (fT 44) "is_line_end" "is_line_end" 587 164 1 3 181 ["code"] (T "js.chars" 473) ++
  fp 253 (fT 45) "is_digit" "is_digit" 594 166 1 3 181 ["code"] (T "js.chars" 473) ++
  fp 260 (fT 46) "is_octal_digit" "is_octal_digit" 601 168 1 3 181 ["code"] (T "js.chars" 473) ++
  fp 267 (fT 47) "hex_value" "hex_value" 608 170 1 3 181 ["code"] (T "js.chars" 473) ++
  fp 274 (fT 48) "is_id_start" "is_id_start" 615 176 1 3 181 ["code"] (T "js.chars" 473) ++
  fp 281 (fT 49) "is_id_part" "is_id_part" 622 180 1 3 181 ["code"] (T "js.chars" 473)
noncomputable def u3 (P : Params) : List (Nat × (Obj→Obj)) := [(3,uD [E P "SINGLE" 649 (R 288)] 56)]
noncomputable def d3 (P : Params) : List Obj := [oD [E P "b" 631 (I 8 632),E P "t" 633 (I 9 634),E P "n" 635 (I 10 636),E P "v" 637 (I 11 638),E P "f" 639 (I 12 640),E P "r" 641 (I 13 642)] 6]
noncomputable def u4 (P : Params) : List (Nat × (Obj→Obj)) := [(3,uW (oD [E P "__name__" 165 (T "js.tokens" 736),E P "__doc__" 166 .none,E P "__package__" 167 .none,E P "__loader__" 168 (.builtin "__main__.__loader__#opaque"),E P "__spec__" 169 .none,E P "__annotations__" 170 (R 6),E P "__builtins__" 171 (R 4),E P "__file__" 173 (T "/claim/cut.py" 172),E P "__cached__" 174 .none,E P "Node" 222 (R 31),E P "SIGN_BIT" 228 (I 9223372036854775808 227),E P "FRACTION_BITS" 230 (I 52 229),E P "FRACTION_MASK" 236 (I 4503599627370495 235),E P "HIDDEN_BIT_dbits" 240 (I 4503599627370496 239),E P "EXPONENT_MASK" 242 (I 2047 241),E P "EXPONENT_SHIFT" 244 (I 1075 243),E P "LEAST_POWER_dbits" 247 (I (-1074) 246),E P "ZERO" 249 (I 0 248),E P "INF" 253 (I 9218868437227405312 252),E P "width" 262 (R 42),E P "pack" 271 (R 49),E P "is_negative" 278 (R 56),E P "is_nan" 285 (R 63),E P "is_inf" 292 (R 70),E P "is_zero" 299 (R 77),E P "signed" 307 (R 84),E P "parts" 317 (R 91),E P "quotient" 326 (R 98),E P "round_ratio" 339 (R 105),E P "assembled" 349 (R 112),E P "from_int" 356 (R 119),E P "LEAST_POWER_numshow" 361 (I (-1074) 360),E P "HIDDEN_BIT_numshow" 365 (I 4503599627370496 364),E P "scaled" 376 (R 126),E P "decimal_place" 385 (R 133),E P "first_place" 398 (R 140),E P "shortest" 419 (R 147),E P "last_figure" 430 (R 154),E P "signed_exponent" 437 (R 161),E P "with_exponent" 446 (R 168),E P "laid_out" 455 (R 175),E P "without_figures" 462 (R 182),E P "show" 472 (R 189),E P "BLANKS" 486 (R 190),E P "LINE_ENDS" 491 (R 191),E P "LETTERS" 556 (R 224),E P "PARTS" 569 (R 231),E P "is_among" 579 (R 238),E P "is_white" 586 (R 245),E P "is_line_end" 593 (R 252),E P "is_digit" 600 (R 259),E P "is_octal_digit" 607 (R 266),E P "hex_value" 614 (R 273),E P "is_id_start" 621 (R 280),E P "is_id_part" 628 (R 287),E P "SINGLE" 649 (R 288),E P "code_at" 657 (R 295),E P "hex_at" 669 (R 302),E P "line_end_size" 677 (R 309),E P "octal_escape" 688 (R 316),E P "read_escape" 701 (R 323),E P "FARTHEST" 705 (I 400 704),E P "figure_of" 712 (R 330),E P "worth" 724 (R 337),E P "from_decimal" 735 (R 344),E P "KEYWORDS" 774 (R 345),E P "PUNCTS" 823 (R 346)] 67)),
  (12,uF [(I 184 0),(I 0 0),(R 294),(I 186 0),(I 0 0),(R 301),(I 194 0),(I 0 0),(R 308),(I 196 0),(I 0 0),(R 315),(I 205 0),(I 0 0),(R 322),(I 226 0),(I 0 0),(R 329),(I 232 0),(I 0 0),(R 336),(I 237 0),(I 0 0),(R 343)])]
noncomputable def d4 (P : Params) : List Obj := fp 289 (fT 52) "code_at" "code_at" 650 184 2 3 181 ["text","at"] (T "js.escapes" 629) ++
  fp 296 (fT 53) "hex_at" "hex_at" 658 186 3 3 181 ["text","at","many","value","step","figure"] (T "js.escapes" 629) ++
  fp 303 (fT 54) "line_end_size" "line_end_size" 670 194 2 3 181 ["text","at"] (T "js.escapes" 629) ++
  fp 310 (fT 55) "octal_escape" "octal_escape" 678 196 2 3 181 ["text","at","most","many","value"] (T "js.escapes" 629) ++
  fp 317 (fT 56) "read_escape" "read_escape" 689 205 2 3 181 ["text","at","code","many","value","found","sign"] (T "js.escapes" 629) ++
  fp 324 (fT 59) "figure_of" "figure_of" 706 226 1 3 181 ["sign"] (T "js.numparse" 702) ++
  fp 331 (fT 60) "worth" "worth" 713 232 4 3 181 ["text","begin","end","radix","found","at"] (T "js.numparse" 702) ++
  fp 338 (fT 61) "from_decimal" "from_decimal" 725 237 2 3 181 ["figures","exponent","told","place","number"] (T "js.numparse" 702) ++
  [⟨(.type "list"),none,(.seq (L [(T "break" 738),(T "case" 739),(T "catch" 740),(T "continue" 741),(T "debugger" 742),(T "default" 743),(T "delete" 744),(T "do" 745),(T "else" 746),(T "finally" 747),(T "for" 748),(T "function" 749),(T "if" 750),(T "in" 751),(T "instanceof" 752),(T "new" 753),(T "return" 754),(T "switch" 755),(T "this" 756),(T "throw" 757),(T "try" 758),(T "typeof" 759),(T "var" 760),(T "void" 761),(T "while" 762),(T "with" 763),(T "class" 764),(T "const" 765),(T "enum" 766),(T "export" 767),(T "extends" 768),(T "\x69mport" 769),(T "super" 770),(T "null" 771),(T "true" 772),(T "false" 773)]) 0),L []⟩] ++
  [⟨(.type "list"),none,(.seq (L [(T ">>>=" 775),(T "===" 776),(T "!==" 777),(T ">>>" 778),(T "<<=" 779),(T ">>=" 780),(T "<=" 781),(T ">=" 782),(T "==" 783),(T "!=" 784),(T "++" 785),(T "--" 786),(T "<<" 787),(T ">>" 788),(T "&&" 789),(T "||" 790),(T "+=" 791),(T "-=" 792),(T "*=" 793),(T "%=" 794),(T "&=" 795),(T "|=" 796),(T "^=" 797),(T "/=" 798),(T "{" 799),(T "}" 800),(T "(" 801),(T ")" 802),(T "[" 803),(T "]" 804),(T "." 805),(T ";" 806),(T "," 807),(T "<" 808),(T ">" 809),(T "+" 810),(T "-" 811),(T "*" 812),(T "%" 813),(T "&" 814),(T "|" 815),(T "^" 816),(T "!" 817),(T "~" 818),(T "?" 819),(T ":" 820),(T "=" 821),(T "/" 822)]) 0),L []⟩]
noncomputable def u5 (P : Params) : List (Nat × (Obj→Obj)) := [(3,uD [E P "PUNCT_TABLE" 923 (R 400)] 68)]
noncomputable def d5 (P : Params) : List Obj := [⟨(.type "list_iterator"),none,(.fields (L [.none,(I 48 0)])),L []⟩] ++
  [⟨(.type "list"),none,(.seq (L [(R 350),(R 351),(R 352),(R 353),(R 354),(R 355),(R 356),(R 357),(R 358),(R 359),(R 360),(R 361),(R 362),(R 363),(R 364),(R 365),(R 366),(R 367),(R 368),(R 369),(R 370),(R 371),(R 372),(R 373),(R 374),(R 375),(R 376),(R 377),(R 378),(R 379),(R 380),(R 381),(R 382),(R 383),(R 384),(R 385),(R 386),(R 387),(R 388),(R 389),(R 390),(R 391),(R 392),(R 393),(R 394),(R 395),(R 396),(R 397)]) 48),L []⟩] ++
  [oD [] 2] ++
  [oT [(T ">>>=" 775),(.bool true)]] ++
  [oT [(T "===" 776),(.bool true)]] ++
  [oT [(T "!==" 777),(.bool true)]] ++
  [oT [(T ">>>" 778),(.bool true)]] ++
  [oT [(T "<<=" 779),(.bool true)]] ++
  [oT [(T ">>=" 780),(.bool true)]] ++
  [oT [(T "<=" 781),(.bool true)]] ++
  [oT [(T ">=" 782),(.bool true)]] ++
  [oT [(T "==" 783),(.bool true)]] ++
  [oT [(T "!=" 784),(.bool true)]] ++
  [oT [(T "++" 785),(.bool true)]] ++
  [oT [(T "--" 786),(.bool true)]] ++
  [oT [(T "<<" 787),(.bool true)]] ++
  [oT [(T ">>" 788),(.bool true)]] ++
  [oT [(T "&&" 789),(.bool true)]] ++
  [oT [(T "||" 790),(.bool true)]] ++
  [oT [(T "+=" 791),(.bool true)]] ++
  [oT [(T "-=" 792),(.bool true)]] ++
  [oT [(T "*=" 793),(.bool true)]] ++
  [oT [(T "%=" 794),(.bool true)]] ++
  [oT [(T "&=" 795),(.bool true)]] ++
  [oT [(T "|=" 796),(.bool true)]] ++
  [oT [(T "^=" 797),(.bool true)]] ++
  [oT [(T "/=" 798),(.bool true)]] ++
  [oT [(T "{" 799),(.bool true)]] ++
  [oT [(T "}" 800),(.bool true)]] ++
  [oT [(T "(" 801),(.bool true)]] ++
  [oT [(T ")" 802),(.bool true)]] ++
  [oT [(T "[" 803),(.bool true)]] ++
  [oT [(T "]" 804),(.bool true)]] ++
  [oT [(T "." 805),(.bool true)]] ++
  [oT [(T ";" 806),(.bool true)]] ++
  [oT [(T "," 807),(.bool true)]] ++
  [oT [(T "<" 808),(.bool true)]] ++
  [oT [(T ">" 809),(.bool true)]] ++
  [oT [(T "+" 810),(.bool true)]] ++
  [oT [(T "-" 811),(.bool true)]] ++
  [oT [(T "*" 812),(.bool true)]] ++
  [oT [(T "%" 813),(.bool true)]] ++
  [oT [(T "&" 814),(.bool true)]] ++
  [oT [(T "|" 815),(.bool true)]] ++
  [oT [(T "^" 816),(.bool true)]] ++
  [oT [(T "!" 817),(.bool true)]] ++
  [oT [(T "~" 818),(.bool true)]] ++
  [oT [(T "?" 819),(.bool true)]] ++
  [oT [(T ":" 820),(.bool true)]] ++
  [oT [(T "=" 821),(.bool true)]] ++
  [oT [(T "/" 822),(.bool true)]] ++
  [oT []] ++
  [⟨(.type "StopIteration"),none,(.fields (L [(R 398),.none,.none,.none,(.bool false),.none])),L []⟩] ++
  [oD [E P ">>>=" 775 (.bool true),E P "===" 776 (.bool true),E P "!==" 777 (.bool true),E P ">>>" 778 (.bool true),E P "<<=" 779 (.bool true),E P ">>=" 780 (.bool true),E P "<=" 781 (.bool true),E P ">=" 782 (.bool true),E P "==" 783 (.bool true),E P "!=" 784 (.bool true),E P "++" 785 (.bool true),E P "--" 786 (.bool true),E P "<<" 787 (.bool true),E P ">>" 788 (.bool true),E P "&&" 789 (.bool true),E P "||" 790 (.bool true),E P "+=" 791 (.bool true),E P "-=" 792 (.bool true),E P "*=" 793 (.bool true),E P "%=" 794 (.bool true),E P "&=" 795 (.bool true),E P "|=" 796 (.bool true),E P "^=" 797 (.bool true),E P "/=" 798 (.bool true),E P "{" 799 (.bool true),E P "}" 800 (.bool true),E P "(" 801 (.bool true),E P ")" 802 (.bool true),E P "[" 803 (.bool true),E P "]" 804 (.bool true),E P "." 805 (.bool true),E P ";" 806 (.bool true),E P "," 807 (.bool true),E P "<" 808 (.bool true),E P ">" 809 (.bool true),E P "+" 810 (.bool true),E P "-" 811 (.bool true),E P "*" 812 (.bool true),E P "%" 813 (.bool true),E P "&" 814 (.bool true),E P "|" 815 (.bool true),E P "^" 816 (.bool true),E P "!" 817 (.bool true),E P "~" 818 (.bool true),E P "?" 819 (.bool true),E P ":" 820 (.bool true),E P "=" 821 (.bool true),E P "/" 822 (.bool true)] 48] ++
  [oT [(T "'list' object has no attribute 'keys'" 873)]] ++
  [⟨(.type "AttributeError"),none,(.fields (L [(R 401),.none,.none,.none,(.bool false),.none,(T "keys" 874),(R 348)])),L []⟩] ++
  [⟨(.type "list_iterator"),none,(.fields (L [.none,(I 48 0)])),L []⟩] ++
  [oT []] ++
  [⟨(.type "StopIteration"),none,(.fields (L [(R 404),.none,.none,.none,(.bool false),.none])),L []⟩]
noncomputable def u6 (P : Params) : List (Nat × (Obj→Obj)) := [(2,uD [E P "type.__subclasses__.Exception.0" 1011 (I 457 0),E P "type.__subclasses__.Exception.n" 1012 (I 1 0)] 2),
  (3,uW (oD [E P "__name__" 165 (T "js.lexer" 1015),E P "__doc__" 166 .none,E P "__package__" 167 .none,E P "__loader__" 168 (.builtin "__main__.__loader__#opaque"),E P "__spec__" 169 .none,E P "__annotations__" 170 (R 6),E P "__builtins__" 171 (R 4),E P "__file__" 173 (T "/claim/cut.py" 172),E P "__cached__" 174 .none,E P "Node" 222 (R 31),E P "SIGN_BIT" 228 (I 9223372036854775808 227),E P "FRACTION_BITS" 230 (I 52 229),E P "FRACTION_MASK" 236 (I 4503599627370495 235),E P "HIDDEN_BIT_dbits" 240 (I 4503599627370496 239),E P "EXPONENT_MASK" 242 (I 2047 241),E P "EXPONENT_SHIFT" 244 (I 1075 243),E P "LEAST_POWER_dbits" 247 (I (-1074) 246),E P "ZERO" 249 (I 0 248),E P "INF" 253 (I 9218868437227405312 252),E P "width" 262 (R 42),E P "pack" 271 (R 49),E P "is_negative" 278 (R 56),E P "is_nan" 285 (R 63),E P "is_inf" 292 (R 70),E P "is_zero" 299 (R 77),E P "signed" 307 (R 84),E P "parts" 317 (R 91),E P "quotient" 326 (R 98),E P "round_ratio" 339 (R 105),E P "assembled" 349 (R 112),E P "from_int" 356 (R 119),E P "LEAST_POWER_numshow" 361 (I (-1074) 360),E P "HIDDEN_BIT_numshow" 365 (I 4503599627370496 364),E P "scaled" 376 (R 126),E P "decimal_place" 385 (R 133),E P "first_place" 398 (R 140),E P "shortest" 419 (R 147),E P "last_figure" 430 (R 154),E P "signed_exponent" 437 (R 161),E P "with_exponent" 446 (R 168),E P "laid_out" 455 (R 175),E P "without_figures" 462 (R 182),E P "show" 472 (R 189),E P "BLANKS" 486 (R 190),E P "LINE_ENDS" 491 (R 191),E P "LETTERS" 556 (R 224),E P "PARTS" 569 (R 231),E P "is_among" 579 (R 238),E P "is_white" 586 (R 245),E P "is_line_end" 593 (R 252),E P "is_digit" 600 (R 259),E P "is_octal_digit" 607 (R 266),E P "hex_value" 614 (R 273),E P "is_id_start" 621 (R 280),E P "is_id_part" 628 (R 287),E P "SINGLE" 649 (R 288),E P "code_at" 657 (R 295),E P "hex_at" 669 (R 302),E P "line_end_size" 677 (R 309),E P "octal_escape" 688 (R 316),E P "read_escape" 701 (R 323),E P "FARTHEST" 705 (I 400 704),E P "figure_of" 712 (R 330),E P "worth" 724 (R 337),E P "from_decimal" 735 (R 344),E P "KEYWORDS" 774 (R 345),E P "PUNCTS" 823 (R 346),E P "PUNCT_TABLE" 923 (R 400),E P "Token" 964 (R 422),E P "is_keyword" 971 (R 433),E P "punct_at" 981 (R 440),E P "SyntaxFail" 1014 (R 457)] 72)),
  (12,uF [(I 252 0),(I 0 0),(R 411),(I 263 0),(I 0 0),(R 432),(I 265 0),(I 0 0),(R 439),(I 272 0),(I 0 0),(R 446)])]
noncomputable def d6 (P : Params) : List Obj := [oT []] ++
  [⟨(.type "builtin_function_or_method"),none,(.fields (L [(.builtin "type.__prepare__"),(.type "type")])),L []⟩] ++
  [oD [E P "__module__" 931 (T "js.tokens" 736),E P "__qualname__" 933 (T "Token" 932),E P "__firstlineno__" 935 (I 252 934),E P "__init__" 948 (R 419),E P "__static_attributes__" 957 (R 420)] 5] ++
  [oT []] ++
  [oF [(I 254 0),(I 4 0),(R 418)]] ++
  [oC [(T "Token" 926),(T "Token" 927),(T "/claim/cut.py" 928),(I 252 0),(I 0 0),(I 0 0),(I 0 0),(I 0 0),(R 409),(.bool false),(I 181 0),(R 410),.none,.none,.none,.none,(I 929 0),(I 252 0),(T "/claim/cut.py" 930)]] ++
  [⟨(.type "frame"),none,.plain,L [(some (R 411)),(some (R 3)),(some (R 408)),none,(some (T "js.tokens" 736)),none,(some (R 0))]⟩] ++
  fp 413 (fM 66 0) "__init__" "Token.__init__" 936 254 7 3 181 ["self","kind","value","line","is_behind_line","start","end"] (T "js.tokens" 736) ++
  [oT [(T "end" 949),(T "is_behind_line" 950),(T "is_octal" 951),(T "is_plain" 952),(T "kind" 953),(T "line" 954),(T "start" 955),(T "value" 956)]] ++
  [oD [E P "__module__" 931 (T "js.tokens" 736),E P "__firstlineno__" 935 (I 252 934),E P "__init__" 948 (R 419),E P "__static_attributes__" 957 (R 420),E P "__dict__" 959 (R 423),E P "__weakref__" 961 (R 424),E P "__doc__" 962 .none] 4] ++
  [⟨(.type "type"),none,(.cls ⟨Str.ofString "Token",[(.type "object")],[(R 422),(.type "object")],421,Str.ofString "Token",true,[],[],false,none,false⟩),L [none,none,(some (T "Token" 924)),(some (T "Token" 932)),(some (.builtin "object.__new__")),(some (.bool true))]⟩] ++
  [⟨(.type "getset_descriptor"),none,(.fields (L [(T "__dict__" 958),(R 422),(.builtin "function.__dict__"),(.builtin "function.__dict__#set")])),L []⟩] ++
  [⟨(.type "getset_descriptor"),none,(.fields (L [(T "__weakref__" 960),(R 422),(.builtin "ExceptionGroup.__weakref__"),.none])),L []⟩] ++
  [⟨(.type "super"),none,(.fields (L [(R 422),(R 422),(R 422)])),L []⟩] ++
  [⟨(.type "builtin_function_or_method"),none,(.fields (L [(.builtin "object.__init_subclass__"),(R 422)])),L []⟩] ++
  fp 427 (fT 67) "is_keyword" "is_keyword" 965 263 1 3 181 ["word"] (T "js.tokens" 736) ++
  fp 434 (fT 68) "punct_at" "punct_at" 972 265 2 3 181 ["text","at","size","piece"] (T "js.tokens" 736) ++
  [oT [(.type "Exception")]] ++
  [⟨(.type "builtin_function_or_method"),none,(.fields (L [(.builtin "type.__prepare__"),(.type "type")])),L []⟩] ++
  [oD [E P "__module__" 991 (T "js.values" 982),E P "__qualname__" 993 (T "SyntaxFail" 992),E P "__firstlineno__" 995 (I 272 994),E P "__init__" 1004 (R 454),E P "__static_attributes__" 1007 (R 455)] 5] ++
  [oT []] ++
  [oF [(I 274 0),(I 4 0),(R 453)]] ++
  [oC [(T "SyntaxFail" 986),(T "SyntaxFail" 987),(T "/claim/cut.py" 988),(I 272 0),(I 0 0),(I 0 0),(I 0 0),(I 0 0),(R 444),(.bool false),(I 181 0),(R 445),.none,.none,.none,.none,(I 989 0),(I 272 0),(T "/claim/cut.py" 990)]] ++
  [⟨(.type "frame"),none,.plain,L [(some (R 446)),(some (R 3)),(some (R 443)),none,(some (T "js.values" 982)),none,(some (R 0))]⟩] ++
  fp 448 (fM 70 0) "__init__" "SyntaxFail.__init__" 996 274 3 3 181 ["self","text","line"] (T "js.values" 982) ++
  [oT [(T "line" 1005),(T "text" 1006)]] ++
  [oD [E P "__module__" 991 (T "js.values" 982),E P "__firstlineno__" 995 (I 272 994),E P "__init__" 1004 (R 454),E P "__static_attributes__" 1007 (R 455),E P "__weakref__" 1009 (R 458),E P "__doc__" 1010 .none] 3] ++
  [⟨(.type "type"),none,(.cls ⟨Str.ofString "SyntaxFail",[(.type "Exception")],[(R 457),(.type "Exception"),(.type "BaseException"),(.type "object")],456,Str.ofString "SyntaxFail",true,[],[],false,none,false⟩),L [(some (R 441)),none,(some (T "SyntaxFail" 984)),(some (T "SyntaxFail" 992)),(some (.builtin "Exception.__new__")),(some (.bool true))]⟩] ++
  [⟨(.type "getset_descriptor"),none,(.fields (L [(T "__weakref__" 1008),(R 457),(.builtin "ExceptionGroup.__weakref__"),.none])),L []⟩] ++
  [⟨(.type "super"),none,(.fields (L [(R 457),(R 457),(R 457)])),L []⟩] ++
  [⟨(.type "builtin_function_or_method"),none,(.fields (L [(.builtin "object.__init_subclass__"),(R 457)])),L []⟩]
noncomputable def u7 (P : Params) : List (Nat × (Obj→Obj)) := [(3,uW (oD [E P "__name__" 165 (T "js.strictness" 1218),E P "__doc__" 166 .none,E P "__package__" 167 .none,E P "__loader__" 168 (.builtin "__main__.__loader__#opaque"),E P "__spec__" 169 .none,E P "__annotations__" 170 (R 6),E P "__builtins__" 171 (R 4),E P "__file__" 173 (T "/claim/cut.py" 172),E P "__cached__" 174 .none,E P "Node" 222 (R 31),E P "SIGN_BIT" 228 (I 9223372036854775808 227),E P "FRACTION_BITS" 230 (I 52 229),E P "FRACTION_MASK" 236 (I 4503599627370495 235),E P "HIDDEN_BIT_dbits" 240 (I 4503599627370496 239),E P "EXPONENT_MASK" 242 (I 2047 241),E P "EXPONENT_SHIFT" 244 (I 1075 243),E P "LEAST_POWER_dbits" 247 (I (-1074) 246),E P "ZERO" 249 (I 0 248),E P "INF" 253 (I 9218868437227405312 252),E P "width" 262 (R 42),E P "pack" 271 (R 49),E P "is_negative" 278 (R 56),E P "is_nan" 285 (R 63),E P "is_inf" 292 (R 70),E P "is_zero" 299 (R 77),E P "signed" 307 (R 84),E P "parts" 317 (R 91),E P "quotient" 326 (R 98),E P "round_ratio" 339 (R 105),E P "assembled" 349 (R 112),E P "from_int" 356 (R 119),E P "LEAST_POWER_numshow" 361 (I (-1074) 360),E P "HIDDEN_BIT_numshow" 365 (I 4503599627370496 364),E P "scaled" 376 (R 126),E P "decimal_place" 385 (R 133),E P "first_place" 398 (R 140),E P "shortest" 419 (R 147),E P "last_figure" 430 (R 154),E P "signed_exponent" 437 (R 161),E P "with_exponent" 446 (R 168),E P "laid_out" 455 (R 175),E P "without_figures" 462 (R 182),E P "show" 472 (R 189),E P "BLANKS" 486 (R 190),E P "LINE_ENDS" 491 (R 191),E P "LETTERS" 556 (R 224),E P "PARTS" 569 (R 231),E P "is_among" 579 (R 238),E P "is_white" 586 (R 245),E P "is_line_end" 593 (R 252),E P "is_digit" 600 (R 259),E P "is_octal_digit" 607 (R 266),E P "hex_value" 614 (R 273),E P "is_id_start" 621 (R 280),E P "is_id_part" 628 (R 287),E P "SINGLE" 649 (R 288),E P "code_at" 657 (R 295),E P "hex_at" 669 (R 302),E P "line_end_size" 677 (R 309),E P "octal_escape" 688 (R 316),E P "read_escape" 701 (R 323),E P "FARTHEST" 705 (I 400 704),E P "figure_of" 712 (R 330),E P "worth" 724 (R 337),E P "from_decimal" 735 (R 344),E P "KEYWORDS" 774 (R 345),E P "PUNCTS" 823 (R 346),E P "PUNCT_TABLE" 923 (R 400),E P "Token" 964 (R 422),E P "is_keyword" 971 (R 433),E P "punct_at" 981 (R 440),E P "SyntaxFail" 1014 (R 457),E P "Lexer" 1217 (R 603),E P "STRICT_WORDS" 1229 (R 608),E P "RESTRICTED" 1232 (R 609),E P "TARGETS" 1236 (R 610),E P "name_fault" 1244 (R 617),E P "binding_fault" 1252 (R 624),E P "first_twice" 1261 (R 631),E P "params_fault" 1273 (R 638),E P "target_fault" 1282 (R 645),E P "delete_fault" 1290 (R 652),E P "octal_fault" 1298 (R 659),E P "entry_fault" 1309 (R 666),E P "accessor_fault" 1318 (R 673)] 85)),
  (12,uF [(I 278 0),(I 0 0),(R 466),(I 487 0),(I 0 0),(R 616),(I 491 0),(I 0 0),(R 623),(I 495 0),(I 0 0),(R 630),(I 502 0),(I 0 0),(R 637),(I 511 0),(I 0 0),(R 644),(I 515 0),(I 0 0),(R 651),(I 517 0),(I 0 0),(R 658),(I 519 0),(I 0 0),(R 665),(I 529 0),(I 0 0),(R 672)])]
noncomputable def d7 (P : Params) : List Obj := [oT []] ++
  [⟨(.type "builtin_function_or_method"),none,(.fields (L [(.builtin "type.__prepare__"),(.type "type")])),L []⟩] ++
  [oD [E P "__module__" 1024 (T "js.lexer" 1015),E P "__qualname__" 1026 (T "Lexer" 1025),E P "__firstlineno__" 1028 (I 278 1027),E P "__init__" 1036 (R 474),E P "next" 1047 (R 481),E P "fail" 1055 (R 488),E P "end_line" 1062 (R 495),E P "skip_blanks" 1071 (R 502),E P "skip_comment" 1078 (R 509),E P "name_sign" 1090 (R 516),E P "read_name" 1100 (R 523),E P "skip_digits" 1108 (R 530),E P "read_number" 1119 (R 537),E P "read_hex" 1128 (R 544),E P "read_octal" 1136 (R 551),E P "read_decimal" 1145 (R 558),E P "read_exponent" 1156 (R 565),E P "regex" 1167 (R 572),E P "regex_body" 1177 (R 579),E P "read_text" 1188 (R 586),E P "escaped" 1197 (R 593),E P "read_punct" 1206 (R 600),E P "__static_attributes__" 1210 (R 601)] 23] ++
  [oT []] ++
  [oF [(I 280 0),(I 4 0),(R 473),(I 285 0),(I 4 0),(R 480),(I 302 0),(I 4 0),(R 487),(I 305 0),(I 4 0),(R 494),(I 309 0),(I 4 0),(R 501),(I 325 0),(I 4 0),(R 508),(I 336 0),(I 4 0),(R 515),(I 347 0),(I 4 0),(R 522),(I 358 0),(I 4 0),(R 529),(I 364 0),(I 4 0),(R 536),(I 378 0),(I 4 0),(R 543),(I 389 0),(I 4 0),(R 550),(I 396 0),(I 4 0),(R 557),(I 408 0),(I 4 0),(R 564),(I 422 0),(I 4 0),(R 571),(I 433 0),(I 4 0),(R 578),(I 449 0),(I 4 0),(R 585),(I 465 0),(I 4 0),(R 592),(I 476 0),(I 4 0),(R 599)]] ++
  [oC [(T "Lexer" 1019),(T "Lexer" 1020),(T "/claim/cut.py" 1021),(I 278 0),(I 0 0),(I 0 0),(I 0 0),(I 0 0),(R 464),(.bool false),(I 181 0),(R 465),.none,.none,.none,.none,(I 1022 0),(I 278 0),(T "/claim/cut.py" 1023)]] ++
  [⟨(.type "frame"),none,.plain,L [(some (R 466)),(some (R 3)),(some (R 463)),none,(some (T "js.lexer" 1015)),none,(some (R 0))]⟩] ++
  fp 468 (fM 72 0) "__init__" "Lexer.__init__" 1029 280 2 3 181 ["self","text"] (T "js.lexer" 1015) ++
  fp 475 (fM 72 1) "next" "Lexer.next" 1037 285 1 3 181 ["self","is_behind_line","start","code","token"] (T "js.lexer" 1015) ++
  fp 482 (fM 72 2) "fail" "Lexer.fail" 1048 302 2 3 181 ["self","text"] (T "js.lexer" 1015) ++
  fp 489 (fM 72 3) "end_line" "Lexer.end_line" 1056 305 1 3 181 ["self"] (T "js.lexer" 1015) ++
  fp 496 (fM 72 4) "skip_blanks" "Lexer.skip_blanks" 1063 309 1 3 181 ["self","line","code"] (T "js.lexer" 1015) ++
  fp 503 (fM 72 5) "skip_comment" "Lexer.skip_comment" 1072 325 1 3 181 ["self"] (T "js.lexer" 1015) ++
  fp 510 (fM 72 6) "name_sign" "Lexer.name_sign" 1079 336 2 3 181 ["self","is_first","code","behind","is_escape","is_right"] (T "js.lexer" 1015) ++
  fp 517 (fM 72 7) "read_name" "Lexer.read_name" 1091 347 2 3 181 ["self","token","found","told"] (T "js.lexer" 1015) ++
  fp 524 (fM 72 8) "skip_digits" "Lexer.skip_digits" 1101 358 1 3 181 ["self","start"] (T "js.lexer" 1015) ++
  fp 531 (fM 72 9) "read_number" "Lexer.read_number" 1109 364 2 3 181 ["self","token","ahead","sign","code"] (T "js.lexer" 1015) ++
  fp 538 (fM 72 10) "read_hex" "Lexer.read_hex" 1120 378 1 3 181 ["self","value","many"] (T "js.lexer" 1015) ++
  fp 545 (fM 72 11) "read_octal" "Lexer.read_octal" 1129 389 1 3 181 ["self","value"] (T "js.lexer" 1015) ++
  fp 552 (fM 72 12) "read_decimal" "Lexer.read_decimal" 1137 396 1 3 181 ["self","whole","part"] (T "js.lexer" 1015) ++
  fp 559 (fM 72 13) "read_exponent" "Lexer.read_exponent" 1146 408 1 3 181 ["self","sign","figures","shown","power"] (T "js.lexer" 1015) ++
  fp 566 (fM 72 14) "regex" "Lexer.regex" 1157 422 2 3 181 ["self","token","body","start","found"] (T "js.lexer" 1015) ++
  fp 573 (fM 72 15) "regex_body" "Lexer.regex_body" 1168 433 1 3 181 ["self","start","is_class","code"] (T "js.lexer" 1015) ++
  fp 580 (fM 72 16) "read_text" "Lexer.read_text" 1178 449 3 3 181 ["self","token","quote","found","code"] (T "js.lexer" 1015) ++
  fp 587 (fM 72 17) "escaped" "Lexer.escaped" 1189 465 2 3 181 ["self","token","told"] (T "js.lexer" 1015) ++
  fp 594 (fM 72 18) "read_punct" "Lexer.read_punct" 1198 476 2 3 181 ["self","token","punct"] (T "js.lexer" 1015) ++
  [oT [(T "at" 1207),(T "line" 1208),(T "text" 1209)]] ++
  [oD [E P "__module__" 1024 (T "js.lexer" 1015),E P "__firstlineno__" 1028 (I 278 1027),E P "__init__" 1036 (R 474),E P "next" 1047 (R 481),E P "fail" 1055 (R 488),E P "end_line" 1062 (R 495),E P "skip_blanks" 1071 (R 502),E P "skip_comment" 1078 (R 509),E P "name_sign" 1090 (R 516),E P "read_name" 1100 (R 523),E P "skip_digits" 1108 (R 530),E P "read_number" 1119 (R 537),E P "read_hex" 1128 (R 544),E P "read_octal" 1136 (R 551),E P "read_decimal" 1145 (R 558),E P "read_exponent" 1156 (R 565),E P "regex" 1167 (R 572),E P "regex_body" 1177 (R 579),E P "read_text" 1188 (R 586),E P "escaped" 1197 (R 593),E P "read_punct" 1206 (R 600),E P "__static_attributes__" 1210 (R 601),E P "__dict__" 1212 (R 604),E P "__weakref__" 1214 (R 605),E P "__doc__" 1215 .none] 4] ++
  [⟨(.type "type"),none,(.cls ⟨Str.ofString "Lexer",[(.type "object")],[(R 603),(.type "object")],602,Str.ofString "Lexer",true,[],[],false,none,false⟩),L [none,none,(some (T "Lexer" 1017)),(some (T "Lexer" 1025)),(some (.builtin "object.__new__")),(some (.bool true))]⟩] ++
  [⟨(.type "getset_descriptor"),none,(.fields (L [(T "__dict__" 1211),(R 603),(.builtin "function.__dict__"),(.builtin "function.__dict__#set")])),L []⟩] ++
  [⟨(.type "getset_descriptor"),none,(.fields (L [(T "__weakref__" 1213),(R 603),(.builtin "ExceptionGroup.__weakref__"),.none])),L []⟩] ++
  [⟨(.type "super"),none,(.fields (L [(R 603),(R 603),(R 603)])),L []⟩] ++
  [⟨(.type "builtin_function_or_method"),none,(.fields (L [(.builtin "object.__init_subclass__"),(R 603)])),L []⟩] ++
  [oT [(T "implements" 1220),(T "interface" 1221),(T "let" 1222),(T "package" 1223),(T "private" 1224),(T "protected" 1225),(T "public" 1226),(T "static" 1227),(T "yield" 1228)]] ++
  [oT [(T "arguments" 1230),(T "eval" 1231)]] ++
  [oT [(T "Name" 1233),(T "Member" 1234),(T "Index" 1235)]] ++
  fp 611 (fT 77) "name_fault" "name_fault" 1237 487 2 3 181 ["name","is_strict"] (T "js.strictness" 1218) ++
  fp 618 (fT 78) "binding_fault" "binding_fault" 1245 491 2 3 181 ["name","is_strict"] (T "js.strictness" 1218) ++
  fp 625 (fT 79) "first_twice" "first_twice" 1253 495 1 3 181 ["names","seen","name"] (T "js.strictness" 1218) ++
  fp 632 (fT 80) "params_fault" "params_fault" 1262 502 3 3 181 ["name","params","is_strict","word","fault","twice"] (T "js.strictness" 1218) ++
  fp 639 (fT 81) "target_fault" "target_fault" 1274 511 3 3 181 ["kind","name","is_strict"] (T "js.strictness" 1218) ++
  fp 646 (fT 82) "delete_fault" "delete_fault" 1283 515 2 3 181 ["kind","is_strict"] (T "js.strictness" 1218) ++
  fp 653 (fT 83) "octal_fault" "octal_fault" 1291 517 2 3 181 ["is_octal","is_strict"] (T "js.strictness" 1218) ++
  fp 660 (fT 84) "entry_fault" "entry_fault" 1299 519 4 3 181 ["known","sort","key","is_strict","sorts"] (T "js.strictness" 1218) ++
  fp 667 (fT 85) "accessor_fault" "accessor_fault" 1310 529 2 3 181 ["sort","params","wanted"] (T "js.strictness" 1218)
noncomputable def u8 (P : Params) : List (Nat × (Obj→Obj)) := [(3,uW (oD [E P "__name__" 165 (T "js.parse_expr" 1517),E P "__doc__" 166 .none,E P "__package__" 167 .none,E P "__loader__" 168 (.builtin "__main__.__loader__#opaque"),E P "__spec__" 169 .none,E P "__annotations__" 170 (R 6),E P "__builtins__" 171 (R 4),E P "__file__" 173 (T "/claim/cut.py" 172),E P "__cached__" 174 .none,E P "Node" 222 (R 31),E P "SIGN_BIT" 228 (I 9223372036854775808 227),E P "FRACTION_BITS" 230 (I 52 229),E P "FRACTION_MASK" 236 (I 4503599627370495 235),E P "HIDDEN_BIT_dbits" 240 (I 4503599627370496 239),E P "EXPONENT_MASK" 242 (I 2047 241),E P "EXPONENT_SHIFT" 244 (I 1075 243),E P "LEAST_POWER_dbits" 247 (I (-1074) 246),E P "ZERO" 249 (I 0 248),E P "INF" 253 (I 9218868437227405312 252),E P "width" 262 (R 42),E P "pack" 271 (R 49),E P "is_negative" 278 (R 56),E P "is_nan" 285 (R 63),E P "is_inf" 292 (R 70),E P "is_zero" 299 (R 77),E P "signed" 307 (R 84),E P "parts" 317 (R 91),E P "quotient" 326 (R 98),E P "round_ratio" 339 (R 105),E P "assembled" 349 (R 112),E P "from_int" 356 (R 119),E P "LEAST_POWER_numshow" 361 (I (-1074) 360),E P "HIDDEN_BIT_numshow" 365 (I 4503599627370496 364),E P "scaled" 376 (R 126),E P "decimal_place" 385 (R 133),E P "first_place" 398 (R 140),E P "shortest" 419 (R 147),E P "last_figure" 430 (R 154),E P "signed_exponent" 437 (R 161),E P "with_exponent" 446 (R 168),E P "laid_out" 455 (R 175),E P "without_figures" 462 (R 182),E P "show" 472 (R 189),E P "BLANKS" 486 (R 190),E P "LINE_ENDS" 491 (R 191),E P "LETTERS" 556 (R 224),E P "PARTS" 569 (R 231),E P "is_among" 579 (R 238),E P "is_white" 586 (R 245),E P "is_line_end" 593 (R 252),E P "is_digit" 600 (R 259),E P "is_octal_digit" 607 (R 266),E P "hex_value" 614 (R 273),E P "is_id_start" 621 (R 280),E P "is_id_part" 628 (R 287),E P "SINGLE" 649 (R 288),E P "code_at" 657 (R 295),E P "hex_at" 669 (R 302),E P "line_end_size" 677 (R 309),E P "octal_escape" 688 (R 316),E P "read_escape" 701 (R 323),E P "FARTHEST" 705 (I 400 704),E P "figure_of" 712 (R 330),E P "worth" 724 (R 337),E P "from_decimal" 735 (R 344),E P "KEYWORDS" 774 (R 345),E P "PUNCTS" 823 (R 346),E P "PUNCT_TABLE" 923 (R 400),E P "Token" 964 (R 422),E P "is_keyword" 971 (R 433),E P "punct_at" 981 (R 440),E P "SyntaxFail" 1014 (R 457),E P "Lexer" 1217 (R 603),E P "STRICT_WORDS" 1229 (R 608),E P "RESTRICTED" 1232 (R 609),E P "TARGETS" 1236 (R 610),E P "name_fault" 1244 (R 617),E P "binding_fault" 1252 (R 624),E P "first_twice" 1261 (R 631),E P "params_fault" 1273 (R 638),E P "target_fault" 1282 (R 645),E P "delete_fault" 1290 (R 652),E P "octal_fault" 1298 (R 659),E P "entry_fault" 1309 (R 666),E P "accessor_fault" 1318 (R 673),E P "Jumps" 1366 (R 705),E P "TokenTaker" 1516 (R 831)] 87)),
  (12,uF [(I 532 0),(I 0 0),(R 679),(I 554 0),(I 0 0),(R 715)])]
noncomputable def d8 (P : Params) : List Obj := [oT []] ++
  [⟨(.type "builtin_function_or_method"),none,(.fields (L [(.builtin "type.__prepare__"),(.type "type")])),L []⟩] ++
  [oD [E P "__module__" 1326 (T "js.strictness" 1218),E P "__qualname__" 1328 (T "Jumps" 1327),E P "__firstlineno__" 1330 (I 532 1329),E P "__init__" 1337 (R 687),E P "label_fault" 1343 (R 692),E P "break_fault" 1349 (R 697),E P "continue_fault" 1355 (R 702),E P "__static_attributes__" 1359 (R 703)] 8] ++
  [oT []] ++
  [oF [(I 534 0),(I 4 0),(R 686),(I 539 0),(I 4 0),(R 691),(I 542 0),(I 4 0),(R 696),(I 547 0),(I 4 0),(R 701)]] ++
  [oC [(T "Jumps" 1321),(T "Jumps" 1322),(T "/claim/cut.py" 1323),(I 532 0),(I 0 0),(I 0 0),(I 0 0),(I 0 0),(R 677),(.bool false),(I 181 0),(R 678),.none,.none,.none,.none,(I 1324 0),(I 532 0),(T "/claim/cut.py" 1325)]] ++
  [⟨(.type "frame"),none,.plain,L [(some (R 679)),(some (R 3)),(some (R 676)),none,(some (T "js.strictness" 1218)),none,(some (R 0))]⟩] ++
  fp 681 (fM 86 0) "__init__" "Jumps.__init__" 1331 534 1 3 181 ["self"] (T "js.strictness" 1218) ++
  [oT []] ++
  [oF []] ++
  [⟨.none,none,(.func (fd (fM 86 1) "label_fault" "Jumps.label_fault" 0 .none .none .none .none none .none .none 0)),L []⟩] ++
  [oC [(T "label_fault" 1338),(T "Jumps.label_fault" 1339),(T "/claim/cut.py" 1340),(I 539 0),(I 2 0),(I 0 0),(I 0 0),(I 3 0),(R 688),(.bool true),(I 181 0),(R 689),.none,.none,.none,(R 690),(I 1341 0),(I 539 0),(T "/claim/cut.py" 1342)]] ++
  [⟨(.type "function"),none,(.func (fd (fM 86 1) "label_fault" "Jumps.label_fault" 3 .none .none .none (T "js.strictness" 1218) none (R 691) .none 0)),L []⟩] ++
  [oT []] ++
  [oF []] ++
  [⟨.none,none,(.func (fd (fM 86 2) "break_fault" "Jumps.break_fault" 0 .none .none .none .none none .none .none 0)),L []⟩] ++
  [oC [(T "break_fault" 1344),(T "Jumps.break_fault" 1345),(T "/claim/cut.py" 1346),(I 542 0),(I 2 0),(I 0 0),(I 0 0),(I 3 0),(R 693),(.bool true),(I 181 0),(R 694),.none,.none,.none,(R 695),(I 1347 0),(I 542 0),(T "/claim/cut.py" 1348)]] ++
  [⟨(.type "function"),none,(.func (fd (fM 86 2) "break_fault" "Jumps.break_fault" 3 .none .none .none (T "js.strictness" 1218) none (R 696) .none 0)),L []⟩] ++
  [oT []] ++
  [oF []] ++
  [⟨.none,none,(.func (fd (fM 86 3) "continue_fault" "Jumps.continue_fault" 0 .none .none .none .none none .none .none 0)),L []⟩] ++
  [oC [(T "continue_fault" 1350),(T "Jumps.continue_fault" 1351),(T "/claim/cut.py" 1352),(I 547 0),(I 2 0),(I 0 0),(I 0 0),(I 3 0),(R 698),(.bool true),(I 181 0),(R 699),.none,.none,.none,(R 700),(I 1353 0),(I 547 0),(T "/claim/cut.py" 1354)]] ++
  [⟨(.type "function"),none,(.func (fd (fM 86 3) "continue_fault" "Jumps.continue_fault" 3 .none .none .none (T "js.strictness" 1218) none (R 701) .none 0)),L []⟩] ++
  [oT [(T "labels" 1356),(T "loops" 1357),(T "switches" 1358)]] ++
  [oD [E P "__module__" 1326 (T "js.strictness" 1218),E P "__firstlineno__" 1330 (I 532 1329),E P "__init__" 1337 (R 687),E P "label_fault" 1343 (R 692),E P "break_fault" 1349 (R 697),E P "continue_fault" 1355 (R 702),E P "__static_attributes__" 1359 (R 703),E P "__dict__" 1361 (R 706),E P "__weakref__" 1363 (R 707),E P "__doc__" 1364 .none] 4] ++
  [⟨(.type "type"),none,(.cls ⟨Str.ofString "Jumps",[(.type "object")],[(R 705),(.type "object")],704,Str.ofString "Jumps",true,[],[],false,none,false⟩),L [none,none,(some (T "Jumps" 1319)),(some (T "Jumps" 1327)),(some (.builtin "object.__new__")),(some (.bool true))]⟩] ++
  [⟨(.type "getset_descriptor"),none,(.fields (L [(T "__dict__" 1360),(R 705),(.builtin "function.__dict__"),(.builtin "function.__dict__#set")])),L []⟩] ++
  [⟨(.type "getset_descriptor"),none,(.fields (L [(T "__weakref__" 1362),(R 705),(.builtin "ExceptionGroup.__weakref__"),.none])),L []⟩] ++
  [⟨(.type "super"),none,(.fields (L [(R 705),(R 705),(R 705)])),L []⟩] ++
  [⟨(.type "builtin_function_or_method"),none,(.fields (L [(.builtin "object.__init_subclass__"),(R 705)])),L []⟩] ++
  [oT []] ++
  [⟨(.type "builtin_function_or_method"),none,(.fields (L [(.builtin "type.__prepare__"),(.type "type")])),L []⟩] ++
  [oD [E P "__module__" 1376 (T "js.parse_base" 1367),E P "__qualname__" 1378 (T "TokenTaker" 1377),E P "__firstlineno__" 1380 (I 554 1379),E P "__init__" 1388 (R 723),E P "take" 1396 (R 730),E P "peek" 1403 (R 737),E P "is_sign" 1411 (R 744),E P "is_word" 1419 (R 751),E P "eat" 1427 (R 758),E P "need" 1435 (R 765),E P "need_word" 1443 (R 772),E P "fail" 1451 (R 779),E P "fail_for" 1459 (R 786),E P "unexpected" 1466 (R 793),E P "need_name" 1473 (R 800),E P "need_binding" 1480 (R 807),E P "property_name" 1487 (R 814),E P "can_end" 1494 (R 821),E P "end_statement" 1501 (R 828),E P "__static_attributes__" 1509 (R 829)] 20] ++
  [oT []] ++
  [oF [(I 556 0),(I 4 0),(R 722),(I 565 0),(I 4 0),(R 729),(I 574 0),(I 4 0),(R 736),(I 579 0),(I 4 0),(R 743),(I 582 0),(I 4 0),(R 750),(I 585 0),(I 4 0),(R 757),(I 591 0),(I 4 0),(R 764),(I 595 0),(I 4 0),(R 771),(I 600 0),(I 4 0),(R 778),(I 603 0),(I 4 0),(R 785),(I 607 0),(I 4 0),(R 792),(I 610 0),(I 4 0),(R 799),(I 616 0),(I 4 0),(R 806),(I 622 0),(I 4 0),(R 813),(I 627 0),(I 4 0),(R 820),(I 630 0),(I 4 0),(R 827)]] ++
  [oC [(T "TokenTaker" 1371),(T "TokenTaker" 1372),(T "/claim/cut.py" 1373),(I 554 0),(I 0 0),(I 0 0),(I 0 0),(I 0 0),(R 713),(.bool false),(I 181 0),(R 714),.none,.none,.none,.none,(I 1374 0),(I 554 0),(T "/claim/cut.py" 1375)]] ++
  [⟨(.type "frame"),none,.plain,L [(some (R 715)),(some (R 3)),(some (R 712)),none,(some (T "js.parse_base" 1367)),none,(some (R 0))]⟩] ++
  fp 717 (fM 88 0) "__init__" "TokenTaker.__init__" 1381 556 2 3 181 ["self","text"] (T "js.parse_base" 1367) ++
  fp 724 (fM 88 1) "take" "TokenTaker.take" 1389 565 1 3 181 ["self","taken"] (T "js.parse_base" 1367) ++
  fp 731 (fM 88 2) "peek" "TokenTaker.peek" 1397 574 1 3 181 ["self"] (T "js.parse_base" 1367) ++
  fp 738 (fM 88 3) "is_sign" "TokenTaker.is_sign" 1404 579 2 3 181 ["self","sign"] (T "js.parse_base" 1367) ++
  fp 745 (fM 88 4) "is_word" "TokenTaker.is_word" 1412 582 2 3 181 ["self","word"] (T "js.parse_base" 1367) ++
  fp 752 (fM 88 5) "eat" "TokenTaker.eat" 1420 585 2 3 181 ["self","sign"] (T "js.parse_base" 1367) ++
  fp 759 (fM 88 6) "need" "TokenTaker.need" 1428 591 2 3 181 ["self","sign"] (T "js.parse_base" 1367) ++
  fp 766 (fM 88 7) "need_word" "TokenTaker.need_word" 1436 595 2 3 181 ["self","word"] (T "js.parse_base" 1367) ++
  fp 773 (fM 88 8) "fail" "TokenTaker.fail" 1444 600 2 3 181 ["self","text"] (T "js.parse_base" 1367) ++
  fp 780 (fM 88 9) "fail_for" "TokenTaker.fail_for" 1452 603 2 3 181 ["self","fault"] (T "js.parse_base" 1367) ++
  fp 787 (fM 88 10) "unexpected" "TokenTaker.unexpected" 1460 607 1 3 181 ["self"] (T "js.parse_base" 1367) ++
  fp 794 (fM 88 11) "need_name" "TokenTaker.need_name" 1467 610 1 3 181 ["self"] (T "js.parse_base" 1367) ++
  fp 801 (fM 88 12) "need_binding" "TokenTaker.need_binding" 1474 616 1 3 181 ["self"] (T "js.parse_base" 1367) ++
  fp 808 (fM 88 13) "property_name" "TokenTaker.property_name" 1481 622 1 3 181 ["self"] (T "js.parse_base" 1367) ++
  fp 815 (fM 88 14) "can_end" "TokenTaker.can_end" 1488 627 1 3 181 ["self"] (T "js.parse_base" 1367) ++
  fp 822 (fM 88 15) "end_statement" "TokenTaker.end_statement" 1495 630 1 3 181 ["self"] (T "js.parse_base" 1367) ++
  [oT [(T "depth" 1502),(T "is_strict" 1503),(T "jumps" 1504),(T "later" 1505),(T "lexer" 1506),(T "pending" 1507),(T "token" 1508)]] ++
  [oD [E P "__module__" 1376 (T "js.parse_base" 1367),E P "__firstlineno__" 1380 (I 554 1379),E P "__init__" 1388 (R 723),E P "take" 1396 (R 730),E P "peek" 1403 (R 737),E P "is_sign" 1411 (R 744),E P "is_word" 1419 (R 751),E P "eat" 1427 (R 758),E P "need" 1435 (R 765),E P "need_word" 1443 (R 772),E P "fail" 1451 (R 779),E P "fail_for" 1459 (R 786),E P "unexpected" 1466 (R 793),E P "need_name" 1473 (R 800),E P "need_binding" 1480 (R 807),E P "property_name" 1487 (R 814),E P "can_end" 1494 (R 821),E P "end_statement" 1501 (R 828),E P "__static_attributes__" 1509 (R 829),E P "__dict__" 1511 (R 832),E P "__weakref__" 1513 (R 833),E P "__doc__" 1514 .none] 4] ++
  [⟨(.type "type"),none,(.cls ⟨Str.ofString "TokenTaker",[(.type "object")],[(R 831),(.type "object")],830,Str.ofString "TokenTaker",true,[],[],false,none,false⟩),L [none,none,(some (T "TokenTaker" 1369)),(some (T "TokenTaker" 1377)),(some (.builtin "object.__new__")),(some (.bool true))]⟩] ++
  [⟨(.type "getset_descriptor"),none,(.fields (L [(T "__dict__" 1510),(R 831),(.builtin "function.__dict__"),(.builtin "function.__dict__#set")])),L []⟩] ++
  [⟨(.type "getset_descriptor"),none,(.fields (L [(T "__weakref__" 1512),(R 831),(.builtin "ExceptionGroup.__weakref__"),.none])),L []⟩] ++
  [⟨(.type "super"),none,(.fields (L [(R 831),(R 831),(R 831)])),L []⟩] ++
  [⟨(.type "builtin_function_or_method"),none,(.fields (L [(.builtin "object.__init_subclass__"),(R 831)])),L []⟩]
noncomputable def u9 (P : Params) : List (Nat × (Obj→Obj)) := [(3,uD [E P "PRIORITY" 1588 (R 836)] 88)]
noncomputable def d9 (P : Params) : List Obj := [oD [E P "||" 1519 (I 1 1520),E P "&&" 1522 (I 2 1523),E P "|" 1525 (I 3 1526),E P "^" 1528 (I 4 1529),E P "&" 1531 (I 5 1532),E P "==" 1534 (I 6 1535),E P "!=" 1537 (I 6 1538),E P "===" 1540 (I 6 1541),E P "!==" 1543 (I 6 1544),E P "<" 1546 (I 7 1547),E P ">" 1549 (I 7 1550),E P "<=" 1552 (I 7 1553),E P ">=" 1555 (I 7 1556),E P "instanceof" 1558 (I 7 1559),E P "in" 1561 (I 7 1562),E P "<<" 1564 (I 8 1565),E P ">>" 1567 (I 8 1568),E P ">>>" 1570 (I 8 1571),E P "+" 1572 (I 9 1573),E P "-" 1574 (I 9 1575),E P "*" 1576 (I 10 1577),E P "/" 1578 (I 10 1579),E P "%" 1580 (I 10 1581)] 23] ++
  [oD [E P ">>>" 1570 (I 8 1571),E P "+" 1572 (I 9 1573),E P "-" 1574 (I 9 1575),E P "*" 1576 (I 10 1577),E P "/" 1578 (I 10 1579),E P "%" 1580 (I 10 1581)] 6]
noncomputable def u10 (P : Params) : List (Nat × (Obj→Obj)) := [(3,uW (oD [E P "__name__" 165 (T "js.parse_simple" 1785),E P "__doc__" 166 .none,E P "__package__" 167 .none,E P "__loader__" 168 (.builtin "__main__.__loader__#opaque"),E P "__spec__" 169 .none,E P "__annotations__" 170 (R 6),E P "__builtins__" 171 (R 4),E P "__file__" 173 (T "/claim/cut.py" 172),E P "__cached__" 174 .none,E P "Node" 222 (R 31),E P "SIGN_BIT" 228 (I 9223372036854775808 227),E P "FRACTION_BITS" 230 (I 52 229),E P "FRACTION_MASK" 236 (I 4503599627370495 235),E P "HIDDEN_BIT_dbits" 240 (I 4503599627370496 239),E P "EXPONENT_MASK" 242 (I 2047 241),E P "EXPONENT_SHIFT" 244 (I 1075 243),E P "LEAST_POWER_dbits" 247 (I (-1074) 246),E P "ZERO" 249 (I 0 248),E P "INF" 253 (I 9218868437227405312 252),E P "width" 262 (R 42),E P "pack" 271 (R 49),E P "is_negative" 278 (R 56),E P "is_nan" 285 (R 63),E P "is_inf" 292 (R 70),E P "is_zero" 299 (R 77),E P "signed" 307 (R 84),E P "parts" 317 (R 91),E P "quotient" 326 (R 98),E P "round_ratio" 339 (R 105),E P "assembled" 349 (R 112),E P "from_int" 356 (R 119),E P "LEAST_POWER_numshow" 361 (I (-1074) 360),E P "HIDDEN_BIT_numshow" 365 (I 4503599627370496 364),E P "scaled" 376 (R 126),E P "decimal_place" 385 (R 133),E P "first_place" 398 (R 140),E P "shortest" 419 (R 147),E P "last_figure" 430 (R 154),E P "signed_exponent" 437 (R 161),E P "with_exponent" 446 (R 168),E P "laid_out" 455 (R 175),E P "without_figures" 462 (R 182),E P "show" 472 (R 189),E P "BLANKS" 486 (R 190),E P "LINE_ENDS" 491 (R 191),E P "LETTERS" 556 (R 224),E P "PARTS" 569 (R 231),E P "is_among" 579 (R 238),E P "is_white" 586 (R 245),E P "is_line_end" 593 (R 252),E P "is_digit" 600 (R 259),E P "is_octal_digit" 607 (R 266),E P "hex_value" 614 (R 273),E P "is_id_start" 621 (R 280),E P "is_id_part" 628 (R 287),E P "SINGLE" 649 (R 288),E P "code_at" 657 (R 295),E P "hex_at" 669 (R 302),E P "line_end_size" 677 (R 309),E P "octal_escape" 688 (R 316),E P "read_escape" 701 (R 323),E P "FARTHEST" 705 (I 400 704),E P "figure_of" 712 (R 330),E P "worth" 724 (R 337),E P "from_decimal" 735 (R 344),E P "KEYWORDS" 774 (R 345),E P "PUNCTS" 823 (R 346),E P "PUNCT_TABLE" 923 (R 400),E P "Token" 964 (R 422),E P "is_keyword" 971 (R 433),E P "punct_at" 981 (R 440),E P "SyntaxFail" 1014 (R 457),E P "Lexer" 1217 (R 603),E P "STRICT_WORDS" 1229 (R 608),E P "RESTRICTED" 1232 (R 609),E P "TARGETS" 1236 (R 610),E P "name_fault" 1244 (R 617),E P "binding_fault" 1252 (R 624),E P "first_twice" 1261 (R 631),E P "params_fault" 1273 (R 638),E P "target_fault" 1282 (R 645),E P "delete_fault" 1290 (R 652),E P "octal_fault" 1298 (R 659),E P "entry_fault" 1309 (R 666),E P "accessor_fault" 1318 (R 673),E P "Jumps" 1366 (R 705),E P "TokenTaker" 1516 (R 831),E P "PRIORITY" 1588 (R 836),E P "ASSIGNING" 1601 (R 838),E P "UNARY_SIGNS" 1606 (R 839),E P "UNARY_WORDS" 1610 (R 840),E P "STEPS" 1613 (R 841),E P "ExprParser" 1784 (R 970)] 93)),
  (12,uF [(I 639 0),(I 0 0),(R 847)]),
  (831,uW (⟨(.type "type"),none,(.cls ⟨Str.ofString "TokenTaker",[(.type "object")],[(R 831),(.type "object")],830,Str.ofString "TokenTaker",true,[],[(R 970)],false,none,false⟩),L [none,none,(some (T "TokenTaker" 1369)),(some (T "TokenTaker" 1377)),(some (.builtin "object.__new__")),(some (.bool true))]⟩))]
noncomputable def d10 (P : Params) : List Obj := [oT [(T "=" 1589),(T "+=" 1590),(T "-=" 1591),(T "*=" 1592),(T "/=" 1593),(T "%=" 1594),(T "<<=" 1595),(T ">>=" 1596),(T ">>>=" 1597),(T "&=" 1598),(T "^=" 1599),(T "|=" 1600)]] ++
  [oT [(T "-" 1602),(T "+" 1603),(T "!" 1604),(T "~" 1605)]] ++
  [oT [(T "typeof" 1607),(T "void" 1608),(T "delete" 1609)]] ++
  [oT [(T "++" 1611),(T "--" 1612)]] ++
  [oT [(R 831)]] ++
  [⟨(.type "builtin_function_or_method"),none,(.fields (L [(.builtin "type.__prepare__"),(.type "type")])),L []⟩] ++
  [oD [E P "__module__" 1621 (T "js.parse_expr" 1517),E P "__qualname__" 1623 (T "ExprParser" 1622),E P "__firstlineno__" 1625 (I 639 1624),E P "function" 1633 (R 855),E P "expression" 1643 (R 862),E P "assignment" 1653 (R 869),E P "need_target" 1661 (R 876),E P "conditional" 1671 (R 883),E P "priority" 1679 (R 890),E P "binary" 1692 (R 897),E P "unary" 1704 (R 904),E P "postfix" 1712 (R 911),E P "left_hand" 1720 (R 918),E P "with_members" 1729 (R 925),E P "creation" 1738 (R 932),E P "arguments" 1746 (R 939),E P "primary" 1755 (R 946),E P "word_operand" 1763 (R 953),E P "array" 1772 (R 960),E P "object" 1779 (R 967),E P "__static_attributes__" 1781 (R 968)] 21] ++
  [oT []] ++
  [oF [(I 641 0),(I 4 0),(R 854),(I 644 0),(I 4 0),(R 861),(I 653 0),(I 4 0),(R 868),(I 661 0),(I 4 0),(R 875),(I 664 0),(I 4 0),(R 882),(I 672 0),(I 4 0),(R 889),(I 679 0),(I 4 0),(R 896),(I 688 0),(I 4 0),(R 903),(I 705 0),(I 4 0),(R 910),(I 712 0),(I 4 0),(R 917),(I 718 0),(I 4 0),(R 924),(I 728 0),(I 4 0),(R 931),(I 733 0),(I 4 0),(R 938),(I 745 0),(I 4 0),(R 945),(I 768 0),(I 4 0),(R 952),(I 782 0),(I 4 0),(R 959),(I 795 0),(I 4 0),(R 966)]] ++
  [oC [(T "ExprParser" 1616),(T "ExprParser" 1617),(T "/claim/cut.py" 1618),(I 639 0),(I 0 0),(I 0 0),(I 0 0),(I 0 0),(R 845),(.bool false),(I 181 0),(R 846),.none,.none,.none,.none,(I 1619 0),(I 639 0),(T "/claim/cut.py" 1620)]] ++
  [⟨(.type "frame"),none,.plain,L [(some (R 847)),(some (R 3)),(some (R 844)),none,(some (T "js.parse_expr" 1517)),none,(some (R 0))]⟩] ++
  fp 849 (fM 95 0) "function" "ExprParser.function" 1626 641 2 3 181 ["self","sort"] (T "js.parse_expr" 1517) ++
  fp 856 (fM 95 1) "expression" "ExprParser.expression" 1634 644 2 3 181 ["self","can_in","first","found"] (T "js.parse_expr" 1517) ++
  fp 863 (fM 95 2) "assignment" "ExprParser.assignment" 1644 653 2 3 181 ["self","can_in","left","op"] (T "js.parse_expr" 1517) ++
  fp 870 (fM 95 3) "need_target" "ExprParser.need_target" 1654 661 2 3 181 ["self","node"] (T "js.parse_expr" 1517) ++
  fp 877 (fM 95 4) "conditional" "ExprParser.conditional" 1662 664 2 3 181 ["self","can_in","test","then"] (T "js.parse_expr" 1517) ++
  fp 884 (fM 95 5) "priority" "ExprParser.priority" 1672 672 2 3 181 ["self","can_in"] (T "js.parse_expr" 1517) ++
  fp 891 (fM 95 6) "binary" "ExprParser.binary" 1680 679 3 3 181 ["self","least","can_in","left","strength","op","right"] (T "js.parse_expr" 1517) ++
  fp 898 (fM 95 7) "unary" "ExprParser.unary" 1693 688 1 3 181 ["self","token","target","is_sign","is_word","operand"] (T "js.parse_expr" 1517) ++
  fp 905 (fM 95 8) "postfix" "ExprParser.postfix" 1705 705 1 3 181 ["self","node"] (T "js.parse_expr" 1517) ++
  fp 912 (fM 95 9) "left_hand" "ExprParser.left_hand" 1713 712 1 3 181 ["self","node"] (T "js.parse_expr" 1517) ++
  fp 919 (fM 95 10) "with_members" "ExprParser.with_members" 1721 718 2 3 181 ["self","node","key"] (T "js.parse_expr" 1517) ++
  fp 926 (fM 95 11) "creation" "ExprParser.creation" 1730 728 1 3 181 ["self","line","made"] (T "js.parse_expr" 1517) ++
  fp 933 (fM 95 12) "arguments" "ExprParser.arguments" 1739 733 1 3 181 ["self","found"] (T "js.parse_expr" 1517) ++
  fp 940 (fM 95 13) "primary" "ExprParser.primary" 1747 745 1 3 181 ["self","token","found"] (T "js.parse_expr" 1517) ++
  fp 947 (fM 95 14) "word_operand" "ExprParser.word_operand" 1756 768 1 3 181 ["self","token"] (T "js.parse_expr" 1517) ++
  fp 954 (fM 95 15) "array" "ExprParser.array" 1764 782 1 3 181 ["self","line","found"] (T "js.parse_expr" 1517) ++
  fp 961 (fM 95 16) "object" "ExprParser.object" 1773 795 1 3 181 ["self"] (T "js.parse_expr" 1517) ++
  [oT [(T "token" 1780)]] ++
  [oD [E P "__module__" 1621 (T "js.parse_expr" 1517),E P "__firstlineno__" 1625 (I 639 1624),E P "function" 1633 (R 855),E P "expression" 1643 (R 862),E P "assignment" 1653 (R 869),E P "need_target" 1661 (R 876),E P "conditional" 1671 (R 883),E P "priority" 1679 (R 890),E P "binary" 1692 (R 897),E P "unary" 1704 (R 904),E P "postfix" 1712 (R 911),E P "left_hand" 1720 (R 918),E P "with_members" 1729 (R 925),E P "creation" 1738 (R 932),E P "arguments" 1746 (R 939),E P "primary" 1755 (R 946),E P "word_operand" 1763 (R 953),E P "array" 1772 (R 960),E P "object" 1779 (R 967),E P "__static_attributes__" 1781 (R 968),E P "__doc__" 1782 .none] 2] ++
  [⟨(.type "type"),none,(.cls ⟨Str.ofString "ExprParser",[(R 831)],[(R 970),(R 831),(.type "object")],969,Str.ofString "ExprParser",true,[],[],false,none,false⟩),L [(some (R 842)),none,(some (T "ExprParser" 1614)),(some (T "ExprParser" 1622)),(some (.builtin "object.__new__")),(some (.bool true))]⟩] ++
  [⟨(.type "super"),none,(.fields (L [(R 970),(R 970),(R 970)])),L []⟩] ++
  [⟨(.type "builtin_function_or_method"),none,(.fields (L [(.builtin "object.__init_subclass__"),(R 970)])),L []⟩]
noncomputable def u11 (P : Params) : List (Nat × (Obj→Obj)) := [(3,uW (oD [E P "__name__" 165 (T "js.parse_stmt" 2005),E P "__doc__" 166 .none,E P "__package__" 167 .none,E P "__loader__" 168 (.builtin "__main__.__loader__#opaque"),E P "__spec__" 169 .none,E P "__annotations__" 170 (R 6),E P "__builtins__" 171 (R 4),E P "__file__" 173 (T "/claim/cut.py" 172),E P "__cached__" 174 .none,E P "Node" 222 (R 31),E P "SIGN_BIT" 228 (I 9223372036854775808 227),E P "FRACTION_BITS" 230 (I 52 229),E P "FRACTION_MASK" 236 (I 4503599627370495 235),E P "HIDDEN_BIT_dbits" 240 (I 4503599627370496 239),E P "EXPONENT_MASK" 242 (I 2047 241),E P "EXPONENT_SHIFT" 244 (I 1075 243),E P "LEAST_POWER_dbits" 247 (I (-1074) 246),E P "ZERO" 249 (I 0 248),E P "INF" 253 (I 9218868437227405312 252),E P "width" 262 (R 42),E P "pack" 271 (R 49),E P "is_negative" 278 (R 56),E P "is_nan" 285 (R 63),E P "is_inf" 292 (R 70),E P "is_zero" 299 (R 77),E P "signed" 307 (R 84),E P "parts" 317 (R 91),E P "quotient" 326 (R 98),E P "round_ratio" 339 (R 105),E P "assembled" 349 (R 112),E P "from_int" 356 (R 119),E P "LEAST_POWER_numshow" 361 (I (-1074) 360),E P "HIDDEN_BIT_numshow" 365 (I 4503599627370496 364),E P "scaled" 376 (R 126),E P "decimal_place" 385 (R 133),E P "first_place" 398 (R 140),E P "shortest" 419 (R 147),E P "last_figure" 430 (R 154),E P "signed_exponent" 437 (R 161),E P "with_exponent" 446 (R 168),E P "laid_out" 455 (R 175),E P "without_figures" 462 (R 182),E P "show" 472 (R 189),E P "BLANKS" 486 (R 190),E P "LINE_ENDS" 491 (R 191),E P "LETTERS" 556 (R 224),E P "PARTS" 569 (R 231),E P "is_among" 579 (R 238),E P "is_white" 586 (R 245),E P "is_line_end" 593 (R 252),E P "is_digit" 600 (R 259),E P "is_octal_digit" 607 (R 266),E P "hex_value" 614 (R 273),E P "is_id_start" 621 (R 280),E P "is_id_part" 628 (R 287),E P "SINGLE" 649 (R 288),E P "code_at" 657 (R 295),E P "hex_at" 669 (R 302),E P "line_end_size" 677 (R 309),E P "octal_escape" 688 (R 316),E P "read_escape" 701 (R 323),E P "FARTHEST" 705 (I 400 704),E P "figure_of" 712 (R 330),E P "worth" 724 (R 337),E P "from_decimal" 735 (R 344),E P "KEYWORDS" 774 (R 345),E P "PUNCTS" 823 (R 346),E P "PUNCT_TABLE" 923 (R 400),E P "Token" 964 (R 422),E P "is_keyword" 971 (R 433),E P "punct_at" 981 (R 440),E P "SyntaxFail" 1014 (R 457),E P "Lexer" 1217 (R 603),E P "STRICT_WORDS" 1229 (R 608),E P "RESTRICTED" 1232 (R 609),E P "TARGETS" 1236 (R 610),E P "name_fault" 1244 (R 617),E P "binding_fault" 1252 (R 624),E P "first_twice" 1261 (R 631),E P "params_fault" 1273 (R 638),E P "target_fault" 1282 (R 645),E P "delete_fault" 1290 (R 652),E P "octal_fault" 1298 (R 659),E P "entry_fault" 1309 (R 666),E P "accessor_fault" 1318 (R 673),E P "Jumps" 1366 (R 705),E P "TokenTaker" 1516 (R 831),E P "PRIORITY" 1588 (R 836),E P "ASSIGNING" 1601 (R 838),E P "UNARY_SIGNS" 1606 (R 839),E P "UNARY_WORDS" 1610 (R 840),E P "STEPS" 1613 (R 841),E P "ExprParser" 1784 (R 970),E P "SimpleParser" 1922 (R 1066),E P "LiteralParser" 2004 (R 1120),E P "LOOP_WORDS" 2010 (R 1123)] 96)),
  (12,uF [(I 798 0),(I 0 0),(R 978),(I 921 0),(I 0 0),(R 1074)]),
  (970,uW (⟨(.type "type"),none,(.cls ⟨Str.ofString "ExprParser",[(R 831)],[(R 970),(R 831),(.type "object")],969,Str.ofString "ExprParser",true,[],[(R 1066)],false,none,false⟩),L [(some (R 842)),none,(some (T "ExprParser" 1614)),(some (T "ExprParser" 1622)),(some (.builtin "object.__new__")),(some (.bool true))]⟩))]
noncomputable def d11 (P : Params) : List Obj := [oT [(R 970)]] ++
  [⟨(.type "builtin_function_or_method"),none,(.fields (L [(.builtin "type.__prepare__"),(.type "type")])),L []⟩] ++
  [oD [E P "__module__" 1794 (T "js.parse_simple" 1785),E P "__qualname__" 1796 (T "SimpleParser" 1795),E P "__firstlineno__" 1798 (I 798 1797),E P "body" 1811 (R 986),E P "at_end" 1819 (R 993),E P "element" 1826 (R 1000),E P "statement" 1836 (R 1007),E P "plain_expression" 1845 (R 1014),E P "word_statement" 1856 (R 1021),E P "large_statement" 1866 (R 1028),E P "block" 1874 (R 1035),E P "variables" 1884 (R 1042),E P "labelled" 1896 (R 1049),E P "jump" 1906 (R 1056),E P "leaving" 1916 (R 1063),E P "__static_attributes__" 1919 (R 1064)] 16] ++
  [oT []] ++
  [oF [(I 800 0),(I 4 0),(R 985),(I 817 0),(I 4 0),(R 992),(I 820 0),(I 4 0),(R 999),(I 826 0),(I 4 0),(R 1006),(I 841 0),(I 4 0),(R 1013),(I 847 0),(I 4 0),(R 1020),(I 868 0),(I 4 0),(R 1027),(I 871 0),(I 4 0),(R 1034),(I 879 0),(I 4 0),(R 1041),(I 887 0),(I 4 0),(R 1048),(I 899 0),(I 4 0),(R 1055),(I 908 0),(I 4 0),(R 1062)]] ++
  [oC [(T "SimpleParser" 1789),(T "SimpleParser" 1790),(T "/claim/cut.py" 1791),(I 798 0),(I 0 0),(I 0 0),(I 0 0),(I 0 0),(R 976),(.bool false),(I 181 0),(R 977),.none,.none,.none,.none,(I 1792 0),(I 798 0),(T "/claim/cut.py" 1793)]] ++
  [⟨(.type "frame"),none,.plain,L [(some (R 978)),(some (R 3)),(some (R 975)),none,(some (T "js.parse_simple" 1785)),none,(some (R 0))]⟩] ++
  fp 980 (fM 97 0) "body" "SimpleParser.body" 1799 800 2 3 181 ["self","is_end","found","has_octal","is_ahead","is_plain","made"] (T "js.parse_simple" 1785) ++
  fp 987 (fM 97 1) "at_end" "SimpleParser.at_end" 1812 817 2 3 181 ["self","is_end"] (T "js.parse_simple" 1785) ++
  fp 994 (fM 97 2) "element" "SimpleParser.element" 1820 820 1 3 181 ["self"] (T "js.parse_simple" 1785) ++
  fp 1001 (fM 97 3) "statement" "SimpleParser.statement" 1827 826 1 3 181 ["self","token","pending","later"] (T "js.parse_simple" 1785) ++
  fp 1008 (fM 97 4) "plain_expression" "SimpleParser.plain_expression" 1837 841 1 3 181 ["self","line","found"] (T "js.parse_simple" 1785) ++
  fp 1015 (fM 97 5) "word_statement" "SimpleParser.word_statement" 1846 847 3 3 181 ["self","word","pending","line","found"] (T "js.parse_simple" 1785) ++
  fp 1022 (fM 97 6) "large_statement" "SimpleParser.large_statement" 1857 868 4 3 181 ["self","word","line","pending"] (T "js.parse_simple" 1785) ++
  fp 1029 (fM 97 7) "block" "SimpleParser.block" 1867 871 1 3 181 ["self","found"] (T "js.parse_simple" 1785) ++
  fp 1036 (fM 97 8) "variables" "SimpleParser.variables" 1875 879 2 3 181 ["self","can_in","found","name"] (T "js.parse_simple" 1785) ++
  fp 1043 (fM 97 9) "labelled" "SimpleParser.labelled" 1885 887 2 3 181 ["self","pending","line","name","label","found"] (T "js.parse_simple" 1785) ++
  fp 1050 (fM 97 10) "jump" "SimpleParser.jump" 1897 899 3 3 181 ["self","word","line","name"] (T "js.parse_simple" 1785) ++
  fp 1057 (fM 97 11) "leaving" "SimpleParser.leaving" 1907 908 3 3 181 ["self","word","line","found"] (T "js.parse_simple" 1785) ++
  [oT [(T "is_strict" 1917),(T "pending" 1918)]] ++
  [oD [E P "__module__" 1794 (T "js.parse_simple" 1785),E P "__firstlineno__" 1798 (I 798 1797),E P "body" 1811 (R 986),E P "at_end" 1819 (R 993),E P "element" 1826 (R 1000),E P "statement" 1836 (R 1007),E P "plain_expression" 1845 (R 1014),E P "word_statement" 1856 (R 1021),E P "large_statement" 1866 (R 1028),E P "block" 1874 (R 1035),E P "variables" 1884 (R 1042),E P "labelled" 1896 (R 1049),E P "jump" 1906 (R 1056),E P "leaving" 1916 (R 1063),E P "__static_attributes__" 1919 (R 1064),E P "__doc__" 1920 .none] 2] ++
  [⟨(.type "type"),none,(.cls ⟨Str.ofString "SimpleParser",[(R 970)],[(R 1066),(R 970),(R 831),(.type "object")],1065,Str.ofString "SimpleParser",true,[],[(R 1120)],false,none,false⟩),L [(some (R 973)),none,(some (T "SimpleParser" 1787)),(some (T "SimpleParser" 1795)),(some (.builtin "object.__new__")),(some (.bool true))]⟩] ++
  [⟨(.type "super"),none,(.fields (L [(R 1066),(R 1066),(R 1066)])),L []⟩] ++
  [⟨(.type "builtin_function_or_method"),none,(.fields (L [(.builtin "object.__init_subclass__"),(R 1066)])),L []⟩] ++
  [oT [(R 1066)]] ++
  [⟨(.type "builtin_function_or_method"),none,(.fields (L [(.builtin "type.__prepare__"),(.type "type")])),L []⟩] ++
  [oD [E P "__module__" 1932 (T "js.parse_literal" 1923),E P "__qualname__" 1934 (T "LiteralParser" 1933),E P "__firstlineno__" 1936 (I 921 1935),E P "object" 1947 (R 1082),E P "entry" 1958 (R 1089),E P "entry_key" 1966 (R 1096),E P "function" 1981 (R 1103),E P "function_name" 1989 (R 1110),E P "parameters" 1997 (R 1117),E P "__static_attributes__" 2001 (R 1118)] 10] ++
  [oT []] ++
  [oF [(I 923 0),(I 4 0),(R 1081),(I 935 0),(I 4 0),(R 1088),(I 949 0),(I 4 0),(R 1095),(I 957 0),(I 4 0),(R 1102),(I 971 0),(I 4 0),(R 1109),(I 976 0),(I 4 0),(R 1116)]] ++
  [oC [(T "LiteralParser" 1927),(T "LiteralParser" 1928),(T "/claim/cut.py" 1929),(I 921 0),(I 0 0),(I 0 0),(I 0 0),(I 0 0),(R 1072),(.bool false),(I 181 0),(R 1073),.none,.none,.none,.none,(I 1930 0),(I 921 0),(T "/claim/cut.py" 1931)]] ++
  [⟨(.type "frame"),none,.plain,L [(some (R 1074)),(some (R 3)),(some (R 1071)),none,(some (T "js.parse_literal" 1923)),none,(some (R 0))]⟩] ++
  fp 1076 (fM 99 0) "object" "LiteralParser.object" 1937 923 1 3 181 ["self","line","found","known","entry"] (T "js.parse_literal" 1923) ++
  fp 1083 (fM 99 1) "entry" "LiteralParser.entry" 1948 935 1 3 181 ["self","word","later","key","made"] (T "js.parse_literal" 1923) ++
  fp 1090 (fM 99 2) "entry_key" "LiteralParser.entry_key" 1959 949 1 3 181 ["self","token"] (T "js.parse_literal" 1923) ++
  fp 1097 (fM 99 3) "function" "LiteralParser.function" 1967 957 2 3 181 ["self","sort","line","is_strict","jumps","name","params","found","made"] (T "js.parse_literal" 1923) ++
  fp 1104 (fM 99 4) "function_name" "LiteralParser.function_name" 1982 971 2 3 181 ["self","sort"] (T "js.parse_literal" 1923) ++
  fp 1111 (fM 99 5) "parameters" "LiteralParser.parameters" 1990 976 1 3 181 ["self","found"] (T "js.parse_literal" 1923) ++
  [oT [(T "depth" 1998),(T "is_strict" 1999),(T "jumps" 2000)]] ++
  [oD [E P "__module__" 1932 (T "js.parse_literal" 1923),E P "__firstlineno__" 1936 (I 921 1935),E P "object" 1947 (R 1082),E P "entry" 1958 (R 1089),E P "entry_key" 1966 (R 1096),E P "function" 1981 (R 1103),E P "function_name" 1989 (R 1110),E P "parameters" 1997 (R 1117),E P "__static_attributes__" 2001 (R 1118),E P "__doc__" 2002 .none] 2] ++
  [⟨(.type "type"),none,(.cls ⟨Str.ofString "LiteralParser",[(R 1066)],[(R 1120),(R 1066),(R 970),(R 831),(.type "object")],1119,Str.ofString "LiteralParser",true,[],[],false,none,false⟩),L [(some (R 1069)),none,(some (T "LiteralParser" 1925)),(some (T "LiteralParser" 1933)),(some (.builtin "object.__new__")),(some (.bool true))]⟩] ++
  [⟨(.type "super"),none,(.fields (L [(R 1120),(R 1120),(R 1120)])),L []⟩] ++
  [⟨(.type "builtin_function_or_method"),none,(.fields (L [(.builtin "object.__init_subclass__"),(R 1120)])),L []⟩] ++
  [oT [(T "do" 2007),(T "while" 2008),(T "for" 2009)]]
noncomputable def u12 (P : Params) : List (Nat × (Obj→Obj)) := [(3,uW (oD [E P "__name__" 165 (T "law_nt0400_01" 2143),E P "__doc__" 166 .none,E P "__package__" 167 .none,E P "__loader__" 168 (.builtin "__main__.__loader__#opaque"),E P "__spec__" 169 .none,E P "__annotations__" 170 (R 6),E P "__builtins__" 171 (R 4),E P "__file__" 173 (T "/claim/cut.py" 172),E P "__cached__" 174 .none,E P "Node" 222 (R 31),E P "SIGN_BIT" 228 (I 9223372036854775808 227),E P "FRACTION_BITS" 230 (I 52 229),E P "FRACTION_MASK" 236 (I 4503599627370495 235),E P "HIDDEN_BIT_dbits" 240 (I 4503599627370496 239),E P "EXPONENT_MASK" 242 (I 2047 241),E P "EXPONENT_SHIFT" 244 (I 1075 243),E P "LEAST_POWER_dbits" 247 (I (-1074) 246),E P "ZERO" 249 (I 0 248),E P "INF" 253 (I 9218868437227405312 252),E P "width" 262 (R 42),E P "pack" 271 (R 49),E P "is_negative" 278 (R 56),E P "is_nan" 285 (R 63),E P "is_inf" 292 (R 70),E P "is_zero" 299 (R 77),E P "signed" 307 (R 84),E P "parts" 317 (R 91),E P "quotient" 326 (R 98),E P "round_ratio" 339 (R 105),E P "assembled" 349 (R 112),E P "from_int" 356 (R 119),E P "LEAST_POWER_numshow" 361 (I (-1074) 360),E P "HIDDEN_BIT_numshow" 365 (I 4503599627370496 364),E P "scaled" 376 (R 126),E P "decimal_place" 385 (R 133),E P "first_place" 398 (R 140),E P "shortest" 419 (R 147),E P "last_figure" 430 (R 154),E P "signed_exponent" 437 (R 161),E P "with_exponent" 446 (R 168),E P "laid_out" 455 (R 175),E P "without_figures" 462 (R 182),E P "show" 472 (R 189),E P "BLANKS" 486 (R 190),E P "LINE_ENDS" 491 (R 191),E P "LETTERS" 556 (R 224),E P "PARTS" 569 (R 231),E P "is_among" 579 (R 238),E P "is_white" 586 (R 245),E P "is_line_end" 593 (R 252),E P "is_digit" 600 (R 259),E P "is_octal_digit" 607 (R 266),E P "hex_value" 614 (R 273),E P "is_id_start" 621 (R 280),E P "is_id_part" 628 (R 287),E P "SINGLE" 649 (R 288),E P "code_at" 657 (R 295),E P "hex_at" 669 (R 302),E P "line_end_size" 677 (R 309),E P "octal_escape" 688 (R 316),E P "read_escape" 701 (R 323),E P "FARTHEST" 705 (I 400 704),E P "figure_of" 712 (R 330),E P "worth" 724 (R 337),E P "from_decimal" 735 (R 344),E P "KEYWORDS" 774 (R 345),E P "PUNCTS" 823 (R 346),E P "PUNCT_TABLE" 923 (R 400),E P "Token" 964 (R 422),E P "is_keyword" 971 (R 433),E P "punct_at" 981 (R 440),E P "SyntaxFail" 1014 (R 457),E P "Lexer" 1217 (R 603),E P "STRICT_WORDS" 1229 (R 608),E P "RESTRICTED" 1232 (R 609),E P "TARGETS" 1236 (R 610),E P "name_fault" 1244 (R 617),E P "binding_fault" 1252 (R 624),E P "first_twice" 1261 (R 631),E P "params_fault" 1273 (R 638),E P "target_fault" 1282 (R 645),E P "delete_fault" 1290 (R 652),E P "octal_fault" 1298 (R 659),E P "entry_fault" 1309 (R 666),E P "accessor_fault" 1318 (R 673),E P "Jumps" 1366 (R 705),E P "TokenTaker" 1516 (R 831),E P "PRIORITY" 1588 (R 836),E P "ASSIGNING" 1601 (R 838),E P "UNARY_SIGNS" 1606 (R 839),E P "UNARY_WORDS" 1610 (R 840),E P "STEPS" 1613 (R 841),E P "ExprParser" 1784 (R 970),E P "SimpleParser" 1922 (R 1066),E P "LiteralParser" 2004 (R 1120),E P "LOOP_WORDS" 2010 (R 1123),E P "StmtParser" 2131 (R 1203),E P "parse" 2142 (R 1212),E P "_law_take" 2152 (R 1219),E P "_law_pick" 2160 (R 1226),E P "_law_regex" 2169 (R 1233),E P "_law_operand" 2180 (R 1240),E P "_law_chain" 2193 (R 1247),E P "_law_row" 2207 (R 1254),E P "_law_told" 2213 (R 1259),E P "law" 2228 (R 1266)] 106)),
  (12,uF [(I 987 0),(I 0 0),(R 1129),(I 1106 0),(I 0 0),(R 1211),(I 1111 0),(I 0 0),(R 1218),(I 1116 0),(I 0 0),(R 1225),(I 1118 0),(I 0 0),(R 1232),(I 1122 0),(I 0 0),(R 1239),(I 1143 0),(I 0 0),(R 1246),(I 1150 0),(I 0 0),(R 1253),(I 1169 0),(I 0 0),(R 1258),(I 1175 0),(I 0 0),(R 1265)]),
  (1120,uW (⟨(.type "type"),none,(.cls ⟨Str.ofString "LiteralParser",[(R 1066)],[(R 1120),(R 1066),(R 970),(R 831),(.type "object")],1119,Str.ofString "LiteralParser",true,[],[(R 1203)],false,none,false⟩),L [(some (R 1069)),none,(some (T "LiteralParser" 1925)),(some (T "LiteralParser" 1933)),(some (.builtin "object.__new__")),(some (.bool true))]⟩))]
noncomputable def d12 (P : Params) : List Obj := [oT [(R 1120)]] ++
  [⟨(.type "builtin_function_or_method"),none,(.fields (L [(.builtin "type.__prepare__"),(.type "type")])),L []⟩] ++
  [oD [E P "__module__" 2018 (T "js.parse_stmt" 2005),E P "__qualname__" 2020 (T "StmtParser" 2019),E P "__firstlineno__" 2022 (I 987 2021),E P "large_statement" 2032 (R 1137),E P "condition" 2040 (R 1144),E P "choice" 2051 (R 1151),E P "loop" 2064 (R 1158),E P "loop_body" 2072 (R 1165),E P "for_loop" 2085 (R 1172),E P "key_loop" 2095 (R 1179),E P "switch" 2107 (R 1186),E P "case_body" 2115 (R 1193),E P "attempt" 2127 (R 1200),E P "__static_attributes__" 2128 (R 1201)] 14] ++
  [oT []] ++
  [oF [(I 989 0),(I 4 0),(R 1136),(I 998 0),(I 4 0),(R 1143),(I 1004 0),(I 4 0),(R 1150),(I 1013 0),(I 4 0),(R 1157),(I 1028 0),(I 4 0),(R 1164),(I 1034 0),(I 4 0),(R 1171),(I 1055 0),(I 4 0),(R 1178),(I 1061 0),(I 4 0),(R 1185),(I 1083 0),(I 4 0),(R 1192),(I 1089 0),(I 4 0),(R 1199)]] ++
  [oC [(T "StmtParser" 2013),(T "StmtParser" 2014),(T "/claim/cut.py" 2015),(I 987 0),(I 0 0),(I 0 0),(I 0 0),(I 0 0),(R 1127),(.bool false),(I 181 0),(R 1128),.none,.none,.none,.none,(I 2016 0),(I 987 0),(T "/claim/cut.py" 2017)]] ++
  [⟨(.type "frame"),none,.plain,L [(some (R 1129)),(some (R 3)),(some (R 1126)),none,(some (T "js.parse_stmt" 2005)),none,(some (R 0))]⟩] ++
  fp 1131 (fM 102 0) "large_statement" "StmtParser.large_statement" 2023 989 4 3 181 ["self","word","line","pending"] (T "js.parse_stmt" 2005) ++
  fp 1138 (fM 102 1) "condition" "StmtParser.condition" 2033 998 1 3 181 ["self","found"] (T "js.parse_stmt" 2005) ++
  fp 1145 (fM 102 2) "choice" "StmtParser.choice" 2041 1004 2 3 181 ["self","line","test","then","other"] (T "js.parse_stmt" 2005) ++
  fp 1152 (fM 102 3) "loop" "StmtParser.loop" 2052 1013 4 3 181 ["self","word","line","pending","label","test","body"] (T "js.parse_stmt" 2005) ++
  fp 1159 (fM 102 4) "loop_body" "StmtParser.loop_body" 2065 1028 1 3 181 ["self","found"] (T "js.parse_stmt" 2005) ++
  fp 1166 (fM 102 5) "for_loop" "StmtParser.for_loop" 2073 1034 2 3 181 ["self","line","first","begin","name","test","step"] (T "js.parse_stmt" 2005) ++
  fp 1173 (fM 102 6) "key_loop" "StmtParser.key_loop" 2086 1055 3 3 181 ["self","line","target","walked"] (T "js.parse_stmt" 2005) ++
  fp 1180 (fM 102 7) "switch" "StmtParser.switch" 2096 1061 2 3 181 ["self","line","value","found","has_default","test"] (T "js.parse_stmt" 2005) ++
  fp 1187 (fM 102 8) "case_body" "StmtParser.case_body" 2108 1083 1 3 181 ["self","found"] (T "js.parse_stmt" 2005) ++
  fp 1194 (fM 102 9) "attempt" "StmtParser.attempt" 2116 1089 2 3 181 ["self","line","block","name","caught","last"] (T "js.parse_stmt" 2005) ++
  [oT []] ++
  [oD [E P "__module__" 2018 (T "js.parse_stmt" 2005),E P "__firstlineno__" 2022 (I 987 2021),E P "large_statement" 2032 (R 1137),E P "condition" 2040 (R 1144),E P "choice" 2051 (R 1151),E P "loop" 2064 (R 1158),E P "loop_body" 2072 (R 1165),E P "for_loop" 2085 (R 1172),E P "key_loop" 2095 (R 1179),E P "switch" 2107 (R 1186),E P "case_body" 2115 (R 1193),E P "attempt" 2127 (R 1200),E P "__static_attributes__" 2128 (R 1201),E P "__doc__" 2129 .none] 2] ++
  [⟨(.type "type"),none,(.cls ⟨Str.ofString "StmtParser",[(R 1120)],[(R 1203),(R 1120),(R 1066),(R 970),(R 831),(.type "object")],1202,Str.ofString "StmtParser",true,[],[],false,none,false⟩),L [(some (R 1124)),none,(some (T "StmtParser" 2011)),(some (T "StmtParser" 2019)),(some (.builtin "object.__new__")),(some (.bool true))]⟩] ++
  [⟨(.type "super"),none,(.fields (L [(R 1203),(R 1203),(R 1203)])),L []⟩] ++
  [⟨(.type "builtin_function_or_method"),none,(.fields (L [(.builtin "object.__init_subclass__"),(R 1203)])),L []⟩] ++
  fp 1206 (fT 104) "parse" "parse" 2134 1106 1 3 181 ["text","reader","body"] (T "js.parser" 2132) ++
  fp 1213 (fT 106) "_law_take" "_law_take" 2145 1111 2 3 181 ["box","wide"] (T "law_nt0400_01" 2143) ++
  fp 1220 (fT 107) "_law_pick" "_law_pick" 2153 1116 2 3 181 ["box","row"] (T "law_nt0400_01" 2143) ++
  fp 1227 (fT 108) "_law_regex" "_law_regex" 2161 1118 1 3 181 ["box","body","flags"] (T "law_nt0400_01" 2143) ++
  fp 1234 (fT 109) "_law_operand" "_law_operand" 2170 1122 2 3 181 ["box","deep","form","text","tree"] (T "law_nt0400_01" 2143) ++
  fp 1241 (fT 110) "_law_chain" "_law_chain" 2181 1143 2 3 181 ["box","deep","text","tree","turn","more","other"] (T "law_nt0400_01" 2143) ++
  fp 1248 (fT 111) "_law_row" "_law_row" 2194 1150 1 3 181 ["box","form","text","tree","head","test","word","kind"] (T "law_nt0400_01" 2143) ++
  [oT []] ++
  [oF []] ++
  [⟨.none,none,(.func (fd (fT 112) "_law_told" "_law_told" 0 .none .none .none .none none .none .none 0)),L []⟩] ++
  [oC [(T "_law_told" 2208),(T "_law_told" 2209),(T "/claim/cut.py" 2210),(I 1169 0),(I 1 0),(I 0 0),(I 0 0),(I 3 0),(R 1255),(.bool true),(I 181 0),(R 1256),.none,.none,.none,(R 1257),(I 2211 0),(I 1169 0),(T "/claim/cut.py" 2212)]] ++
  [⟨(.type "function"),none,(.func (fd (fT 112) "_law_told" "_law_told" 3 .none .none .none (T "law_nt0400_01" 2143) none (R 1258) .none 0)),L []⟩] ++
  fp 1260 (fT 113) "law" "law" 2214 1175 1 3 181 ["script","seed","one","box","text","due","turn","told","trees"] (T "law_nt0400_01" 2143)
noncomputable def boots (P : Params) : List Obj := [PySem.W.boot_o_0 P,PySem.W.boot_o_1 P,PySem.W.boot_o_2 P,PySem.W.boot_o_3 P,PySem.W.boot_o_4 P,PySem.W.boot_o_5 P,PySem.W.boot_o_6 P,PySem.W.boot_o_7 P,PySem.W.boot_o_8 P,PySem.W.boot_o_9 P,PySem.W.boot_o_10 P]
noncomputable def T0 (P : Params) : BT := addN .nil 0 (boots P ++ d0 P)
noncomputable def T1 (P : Params) : BT := addN (setN (T0 P) (u1 P)) 15 (d1 P)
noncomputable def T2 (P : Params) : BT := addN (setN (T1 P) (u2 P)) 192 (d2 P)
noncomputable def T3 (P : Params) : BT := addN (setN (T2 P) (u3 P)) 288 (d3 P)
noncomputable def T4 (P : Params) : BT := addN (setN (T3 P) (u4 P)) 289 (d4 P)
noncomputable def T5 (P : Params) : BT := addN (setN (T4 P) (u5 P)) 347 (d5 P)
noncomputable def T6 (P : Params) : BT := addN (setN (T5 P) (u6 P)) 406 (d6 P)
noncomputable def T7 (P : Params) : BT := addN (setN (T6 P) (u7 P)) 461 (d7 P)
noncomputable def T8 (P : Params) : BT := addN (setN (T7 P) (u8 P)) 674 (d8 P)
noncomputable def T9 (P : Params) : BT := addN (setN (T8 P) (u9 P)) 836 (d9 P)
noncomputable def T10 (P : Params) : BT := addN (setN (T9 P) (u10 P)) 838 (d10 P)
noncomputable def T11 (P : Params) : BT := addN (setN (T10 P) (u11 P)) 973 (d11 P)
noncomputable def T12 (P : Params) : BT := addN (setN (T11 P) (u12 P)) 1124 (d12 P)
noncomputable def EV : Env := { scope := PW.main.scope,locals := mainNs,globals := mainNs,cells := [],code := .ref 13,frame := some 14 }
noncomputable abbrev CD : Code := .body (behindTheImports PW) EV
noncomputable abbrev BF : List Frame := [topFrame ⟨0,0,0,0⟩]
noncomputable def stsOf : Nat→Nat→List Stmt→List Stmt
  | 0,0,_ => []
  | 0,m + 1,a :: r => a :: stsOf 0 m r
  | 0,_ + 1,[] => []
  | n + 1,m,_ :: r => stsOf n m r
  | _ + 1,_,[] => []
noncomputable def stsFrom : Nat→List Stmt→List Stmt
  | 0,l => l
  | n + 1,_ :: r => stsFrom n r
  | _ + 1,[] => []
noncomputable abbrev sts (a m : Nat) : List Stmt := stsOf a m PW.main.body
noncomputable abbrev ann : Option Value := some (.ref 6)
theorem seg_eq : @segRunT = @PySem.W.Fast.tw10110043849684766642 := PySem.W.Fast.te10110043849684766642
theorem tree_eq : @treeTable = @PySem.W.Fast.tw14364793385576792824 := PySem.W.Fast.te14364793385576792824
noncomputable abbrev segQ := @PySem.W.Fast.tw10110043849684766642 (@PySem.W.Fast.tw14364793385576792824)
noncomputable def S0 (P : Params) (os : OsState) : SharedT := ⟨T0 P,15,{},#[],{},187,os⟩
noncomputable def S1 (P : Params) (os : OsState) : SharedT := ⟨T1 P,192,{},#[],{},492,os⟩
noncomputable def S2 (P : Params) (os : OsState) : SharedT := ⟨T2 P,288,{},#[],{},631,os⟩
noncomputable def S3 (P : Params) (os : OsState) : SharedT := ⟨T3 P,289,{},#[],{},650,os⟩
noncomputable def S4 (P : Params) (os : OsState) : SharedT := ⟨T4 P,347,{},#[],{},824,os⟩
noncomputable def S5 (P : Params) (os : OsState) : SharedT := ⟨T5 P,406,{},#[],{},924,os⟩
noncomputable def S6 (P : Params) (os : OsState) : SharedT := ⟨T6 P,461,{},#[],{},1017,os⟩
noncomputable def S7 (P : Params) (os : OsState) : SharedT := ⟨T7 P,674,{},#[],{},1319,os⟩
noncomputable def S8 (P : Params) (os : OsState) : SharedT := ⟨T8 P,836,{},#[],{},1519,os⟩
noncomputable def S9 (P : Params) (os : OsState) : SharedT := ⟨T9 P,838,{},#[],{},1589,os⟩
noncomputable def S10 (P : Params) (os : OsState) : SharedT := ⟨T10 P,973,{},#[],{},1787,os⟩
noncomputable def S11 (P : Params) (os : OsState) : SharedT := ⟨T11 P,1124,{},#[],{},2011,os⟩
noncomputable def S12 (P : Params) (os : OsState) : SharedT := ⟨T12 P,1267,{},#[],{},2229,os⟩
theorem q1 (w : World) (os : OsState) : segQ PW w 11 ann 1 1138 (S0 w.params os) (piecesOf (sts 0 40) EV CD ⟨0,0,0,0⟩ BF) = some (.next,S1 w.params os,CD,⟨154,0,154,9⟩) := by kernel_rfl
theorem q2 (w : World) (os : OsState) : segQ PW w 11 ann 1 417 (S1 w.params os) (piecesOf (sts 40 11) EV CD ⟨154,0,154,9⟩ BF) = some (.next,S2 w.params os,CD,⟨182,0,182,8⟩) := by kernel_rfl
noncomputable abbrev Q3 (w : World) : Prop := ∀ os,segQ PW w 11 ann 1 101 (S2 w.params os) (piecesOf (sts 51 1) EV CD ⟨182,0,182,8⟩ BF) = some (.next,S3 w.params os,CD,⟨183,0,183,6⟩)
theorem q3_0 (w : World) (os : OsState) : segQ PW (World.withFollow w "special-get-raises" false) 11 ann 1 101 (S2 (World.withFollow w "special-get-raises" false).params os) (piecesOf (sts 51 1) EV CD ⟨182,0,182,8⟩ BF) = some (.next,S3 (World.withFollow w "special-get-raises" false).params os,CD,⟨183,0,183,6⟩) := by kernel_rfl
theorem q3_1 (w : World) (os : OsState) : segQ PW (World.withFollow w "special-get-raises" true) 11 ann 1 101 (S2 (World.withFollow w "special-get-raises" true).params os) (piecesOf (sts 51 1) EV CD ⟨182,0,182,8⟩ BF) = some (.next,S3 (World.withFollow w "special-get-raises" true).params os,CD,⟨183,0,183,6⟩) := by kernel_rfl
theorem q3 (w : World) (os : OsState) : segQ PW w 11 ann 1 101 (S2 w.params os) (piecesOf (sts 51 1) EV CD ⟨182,0,182,8⟩ BF) = some (.next,S3 w.params os,CD,⟨183,0,183,6⟩) := byRow2 "special-get-raises" (P := Q3) (fun w os => q3_0 w os) (fun w os => q3_1 w os) w os
theorem q4 (w : World) (os : OsState) : segQ PW w 11 ann 1 390 (S3 w.params os) (piecesOf (sts 52 13) EV CD ⟨183,0,183,6⟩ BF) = some (.next,S4 w.params os,CD,⟨250,0,250,6⟩) := by kernel_rfl
noncomputable abbrev Q5 (w : World) : Prop := ∀ os,segQ PW w 11 ann 1 2768 (S4 w.params os) (piecesOf (sts 65 1) EV CD ⟨250,0,250,6⟩ BF) = some (.next,S5 w.params os,CD,⟨251,0,251,11⟩)
theorem q5_0 (w : World) (os : OsState) : segQ PW (World.withFollow (World.withFollow w "comprehension-iter-twice" false) "special-get-raises" false) 11 ann 1 2768 (S4 (World.withFollow (World.withFollow w "comprehension-iter-twice" false) "special-get-raises" false).params os) (piecesOf (sts 65 1) EV CD ⟨250,0,250,6⟩ BF) = some (.next,S5 (World.withFollow (World.withFollow w "comprehension-iter-twice" false) "special-get-raises" false).params os,CD,⟨251,0,251,11⟩) := by kernel_rfl
theorem q5_1 (w : World) (os : OsState) : segQ PW (World.withFollow (World.withFollow w "comprehension-iter-twice" false) "special-get-raises" true) 11 ann 1 2768 (S4 (World.withFollow (World.withFollow w "comprehension-iter-twice" false) "special-get-raises" true).params os) (piecesOf (sts 65 1) EV CD ⟨250,0,250,6⟩ BF) = some (.next,S5 (World.withFollow (World.withFollow w "comprehension-iter-twice" false) "special-get-raises" true).params os,CD,⟨251,0,251,11⟩) := by kernel_rfl
theorem q5_2 (w : World) (os : OsState) : segQ PW (World.withFollow (World.withFollow w "comprehension-iter-twice" true) "special-get-raises" false) 11 ann 1 2768 (S4 (World.withFollow (World.withFollow w "comprehension-iter-twice" true) "special-get-raises" false).params os) (piecesOf (sts 65 1) EV CD ⟨250,0,250,6⟩ BF) = some (.next,S5 (World.withFollow (World.withFollow w "comprehension-iter-twice" true) "special-get-raises" false).params os,CD,⟨251,0,251,11⟩) := by kernel_rfl
theorem q5_3 (w : World) (os : OsState) : segQ PW (World.withFollow (World.withFollow w "comprehension-iter-twice" true) "special-get-raises" true) 11 ann 1 2768 (S4 (World.withFollow (World.withFollow w "comprehension-iter-twice" true) "special-get-raises" true).params os) (piecesOf (sts 65 1) EV CD ⟨250,0,250,6⟩ BF) = some (.next,S5 (World.withFollow (World.withFollow w "comprehension-iter-twice" true) "special-get-raises" true).params os,CD,⟨251,0,251,11⟩) := by kernel_rfl
theorem q5 (w : World) (os : OsState) : segQ PW w 11 ann 1 2768 (S4 w.params os) (piecesOf (sts 65 1) EV CD ⟨250,0,250,6⟩ BF) = some (.next,S5 w.params os,CD,⟨251,0,251,11⟩) := byRow2 "special-get-raises" (P := Q5) (byRow2 "comprehension-iter-twice" (P := fun w => Q5 (World.withFollow w "special-get-raises" false)) (fun w os => q5_0 w os) (fun w os => q5_2 w os)) (byRow2 "comprehension-iter-twice" (P := fun w => Q5 (World.withFollow w "special-get-raises" true)) (fun w os => q5_1 w os) (fun w os => q5_3 w os)) w os
theorem q6 (w : World) (os : OsState) : segQ PW w 11 ann 1 544 (S5 w.params os) (piecesOf (sts 66 6) EV CD ⟨251,0,251,11⟩ BF) = some (.next,S6 w.params os,CD,⟨277,0,277,8⟩) := by kernel_rfl
theorem q7 (w : World) (os : OsState) : segQ PW w 11 ann 1 1160 (S6 w.params os) (piecesOf (sts 72 14) EV CD ⟨277,0,277,8⟩ BF) = some (.next,S7 w.params os,CD,⟨529,0,531,89⟩) := by kernel_rfl
theorem q8 (w : World) (os : OsState) : segQ PW w 11 ann 1 1027 (S7 w.params os) (piecesOf (sts 86 4) EV CD ⟨529,0,531,89⟩ BF) = some (.next,S8 w.params os,CD,⟨633,0,633,8⟩) := by kernel_rfl
noncomputable abbrev Q9 (w : World) : Prop := ∀ os,segQ PW w 11 ann 1 399 (S8 w.params os) (piecesOf (sts 90 1) EV CD ⟨633,0,633,8⟩ BF) = some (.next,S9 w.params os,CD,⟨634,0,634,8⟩)
theorem q9_0 (w : World) (os : OsState) : segQ PW (World.withFollow w "special-get-raises" false) 11 ann 1 399 (S8 (World.withFollow w "special-get-raises" false).params os) (piecesOf (sts 90 1) EV CD ⟨633,0,633,8⟩ BF) = some (.next,S9 (World.withFollow w "special-get-raises" false).params os,CD,⟨634,0,634,8⟩) := by kernel_rfl
theorem q9_1 (w : World) (os : OsState) : segQ PW (World.withFollow w "special-get-raises" true) 11 ann 1 399 (S8 (World.withFollow w "special-get-raises" true).params os) (piecesOf (sts 90 1) EV CD ⟨633,0,633,8⟩ BF) = some (.next,S9 (World.withFollow w "special-get-raises" true).params os,CD,⟨634,0,634,8⟩) := by kernel_rfl
theorem q9 (w : World) (os : OsState) : segQ PW w 11 ann 1 399 (S8 w.params os) (piecesOf (sts 90 1) EV CD ⟨633,0,633,8⟩ BF) = some (.next,S9 w.params os,CD,⟨634,0,634,8⟩) := byRow2 "special-get-raises" (P := Q9) (fun w os => q9_0 w os) (fun w os => q9_1 w os) w os
theorem q10 (w : World) (os : OsState) : segQ PW w 11 ann 1 846 (S9 w.params os) (piecesOf (sts 91 6) EV CD ⟨634,0,634,8⟩ BF) = some (.next,S10 w.params os,CD,⟨797,0,797,8⟩) := by kernel_rfl
theorem q11 (w : World) (os : OsState) : segQ PW w 11 ann 1 1114 (S10 w.params os) (piecesOf (sts 97 5) EV CD ⟨797,0,797,8⟩ BF) = some (.next,S11 w.params os,CD,⟨986,0,986,10⟩) := by kernel_rfl
theorem q12 (w : World) (os : OsState) : segQ PW w 11 ann 1 907 (S11 w.params os) (piecesOf (sts 102 12) EV CD ⟨986,0,986,10⟩ BF) = some (.next,S12 w.params os,CD,⟨1175,0,1183,72⟩) := by kernel_rfl
end Hd
end
end
section
open PySem PySem.W PyProof.Rows
noncomputable section
namespace Hd
theorem go_eq : @topGo = @PySem.W.Fast.tw15667345088766844465 := PySem.W.Fast.te15667345088766844465
theorem qpre (w : World) (os : OsState) : @PySem.W.Fast.tw15667345088766844465 (@PySem.W.Fast.tw14364793385576792824) PW w 11 ann 12 ⟨boot_heap w.params,Array.mk [],boot_drawn,boot_toks,os⟩ (topStub PW) = some ((S0 w.params os).abs,⟨@PySem.W.Fast.tw11892475500146522536 (@PySem.W.Fast.tw14364793385576792824) CD,CD,⟨0,0,0,0⟩,BF⟩) := by kernel_rfl
theorem den_eq : @denote = @PySem.W.Fast.tw11892475500146522536 := PySem.W.Fast.te11892475500146522536
theorem qpre2 (w : World) (os : OsState) : topGo treeTable PW w 11 ann 12 ⟨boot_heap w.params,Array.mk [],boot_drawn,boot_toks,os⟩ (topStub PW) = some ((S0 w.params os).abs,⟨denote treeTable CD,CD,⟨0,0,0,0⟩,BF⟩) := by rw [go_eq,den_eq,tree_eq]; exact qpre w os
theorem qblock (w : World) (os : OsState) : segRun treeTable PW w 11 ann 1 1 (S0 w.params os).abs (blockOf (behindTheImports PW) EV CD ⟨0,0,0,0⟩ BF) = some (.next,(S0 w.params os).abs,CD,⟨0,0,0,0⟩) := by kernel_rfl
theorem qfin (w : World) (os : OsState) : topRun treeTable PW w 11 ann 2 (S12 w.params os).abs ⟨doneF .next,CD,⟨1175,0,1183,72⟩,BF⟩ = some (S12 w.params os).abs := by kernel_rfl
theorem more {n N M : Nat} {w : World} {s s' r : SharedT} {l rest all : List Stmt} {pos p' : Pos} (h : segQ PW w 11 ann 1 n s (piecesOf l EV CD pos BF) = some (.next,s',CD,p')) (e : all = l ++ rest) (hM : M = n + N)
    (k : topRun treeTable PW w 11 ann N s'.abs (restOf rest EV CD p' BF) = some r.abs) : topRun treeTable PW w 11 ann M s.abs (restOf all EV CD pos BF) = some r.abs := by
  subst e;subst hM;exact piece_app (segRun_of (by rw [seg_eq,tree_eq]; exact h)) k
theorem run_13 (w : World) (os : OsState) : topRun treeTable PW w 11 ann 2 (S12 w.params os).abs (restOf [] EV CD ⟨1175,0,1183,72⟩ BF) = some (S12 w.params os).abs := piece_nil (qfin w os)
theorem run_12 (w : World) (os : OsState) : topRun treeTable PW w 11 ann 909 (S11 w.params os).abs (restOf (stsFrom 102 PW.main.body) EV CD ⟨986,0,986,10⟩ BF) = some (S12 w.params os).abs := more (n := 907) (N := 2) (q12 w os) (rest := []) (by kernel_rfl) (by decide) (run_13 w os)
theorem run_11 (w : World) (os : OsState) : topRun treeTable PW w 11 ann 2023 (S10 w.params os).abs (restOf (stsFrom 97 PW.main.body) EV CD ⟨797,0,797,8⟩ BF) = some (S12 w.params os).abs := more (n := 1114) (N := 909) (q11 w os) (rest := stsFrom 102 PW.main.body) (by kernel_rfl) (by decide) (run_12 w os)
theorem run_10 (w : World) (os : OsState) : topRun treeTable PW w 11 ann 2869 (S9 w.params os).abs (restOf (stsFrom 91 PW.main.body) EV CD ⟨634,0,634,8⟩ BF) = some (S12 w.params os).abs := more (n := 846) (N := 2023) (q10 w os) (rest := stsFrom 97 PW.main.body) (by kernel_rfl) (by decide) (run_11 w os)
theorem run_9 (w : World) (os : OsState) : topRun treeTable PW w 11 ann 3268 (S8 w.params os).abs (restOf (stsFrom 90 PW.main.body) EV CD ⟨633,0,633,8⟩ BF) = some (S12 w.params os).abs := more (n := 399) (N := 2869) (q9 w os) (rest := stsFrom 91 PW.main.body) (by kernel_rfl) (by decide) (run_10 w os)
theorem run_8 (w : World) (os : OsState) : topRun treeTable PW w 11 ann 4295 (S7 w.params os).abs (restOf (stsFrom 86 PW.main.body) EV CD ⟨529,0,531,89⟩ BF) = some (S12 w.params os).abs := more (n := 1027) (N := 3268) (q8 w os) (rest := stsFrom 90 PW.main.body) (by kernel_rfl) (by decide) (run_9 w os)
theorem run_7 (w : World) (os : OsState) : topRun treeTable PW w 11 ann 5455 (S6 w.params os).abs (restOf (stsFrom 72 PW.main.body) EV CD ⟨277,0,277,8⟩ BF) = some (S12 w.params os).abs := more (n := 1160) (N := 4295) (q7 w os) (rest := stsFrom 86 PW.main.body) (by kernel_rfl) (by decide) (run_8 w os)
theorem run_6 (w : World) (os : OsState) : topRun treeTable PW w 11 ann 5999 (S5 w.params os).abs (restOf (stsFrom 66 PW.main.body) EV CD ⟨251,0,251,11⟩ BF) = some (S12 w.params os).abs := more (n := 544) (N := 5455) (q6 w os) (rest := stsFrom 72 PW.main.body) (by kernel_rfl) (by decide) (run_7 w os)
theorem run_5 (w : World) (os : OsState) : topRun treeTable PW w 11 ann 8767 (S4 w.params os).abs (restOf (stsFrom 65 PW.main.body) EV CD ⟨250,0,250,6⟩ BF) = some (S12 w.params os).abs := more (n := 2768) (N := 5999) (q5 w os) (rest := stsFrom 66 PW.main.body) (by kernel_rfl) (by decide) (run_6 w os)
theorem run_4 (w : World) (os : OsState) : topRun treeTable PW w 11 ann 9157 (S3 w.params os).abs (restOf (stsFrom 52 PW.main.body) EV CD ⟨183,0,183,6⟩ BF) = some (S12 w.params os).abs := more (n := 390) (N := 8767) (q4 w os) (rest := stsFrom 65 PW.main.body) (by kernel_rfl) (by decide) (run_5 w os)
theorem run_3 (w : World) (os : OsState) : topRun treeTable PW w 11 ann 9258 (S2 w.params os).abs (restOf (stsFrom 51 PW.main.body) EV CD ⟨182,0,182,8⟩ BF) = some (S12 w.params os).abs := more (n := 101) (N := 9157) (q3 w os) (rest := stsFrom 52 PW.main.body) (by kernel_rfl) (by decide) (run_4 w os)
theorem run_2 (w : World) (os : OsState) : topRun treeTable PW w 11 ann 9675 (S1 w.params os).abs (restOf (stsFrom 40 PW.main.body) EV CD ⟨154,0,154,9⟩ BF) = some (S12 w.params os).abs := more (n := 417) (N := 9258) (q2 w os) (rest := stsFrom 51 PW.main.body) (by kernel_rfl) (by decide) (run_3 w os)
theorem run_1 (w : World) (os : OsState) : topRun treeTable PW w 11 ann 10813 (S0 w.params os).abs (restOf (stsFrom 0 PW.main.body) EV CD ⟨0,0,0,0⟩ BF) = some (S12 w.params os).abs := more (n := 1138) (N := 9675) (q1 w os) (rest := stsFrom 40 PW.main.body) (by kernel_rfl) (by decide) (run_2 w os)
theorem body_is : behindTheImports PW = stsFrom 0 PW.main.body := by kernel_rfl
theorem runX (w : World) (os : OsState) : topRun treeTable PW w 11 ann 10826 ⟨boot_heap w.params,Array.mk [],boot_drawn,boot_toks,os⟩ (topStub PW) = some (S12 w.params os).abs := by
  have h := run_1 w os;rw [← body_is] at h;have h2 := piece_block (qblock w os) h;rw [show 1 + 10813 = 10814 from by decide] at h2;have h3 := go_top (qpre2 w os) h2;rw [show 12 + 10814 = 10826 from by decide] at h3;exact h3
noncomputable def Tfin (P : Params) : BT := T12 P
noncomputable def Hfin (P : Params) : Heap := absHeap (Tfin P) 1267 {}
noncomputable def topNames : Stmt→List Str
  | .FunctionDef n _ _ _ _ _ _ _ _ _ => [n]
  | .ClassDef n _ _ _ _ _ _ _ _ _ _ => [n]
  | .Assign [.Name n _] _ _ => [n]
  | _ => []
noncomputable def inS (l : List Str) (x : Str) : Bool := l.any fun y => decide (y = x)
noncomputable def uniqS : List Str→List Str
  | [] => []
  | x :: r => if inS r x then uniqS r else x :: uniqS r
noncomputable def lawSt : Stmt := fT 113
noncomputable def qv : Program := { PW with main := { PW.main with body := [lawSt] } }
noncomputable def loose : List Str := (uniqS (PW.main.body.flatMap topNames)).filter fun n => !decide (n = Str.ofString "law") && !decide (n = Str.ofString "__name__")
theorem look1 (w : World) (os : OsState) : (staticsOk (importedModules PW.main.body) (boot_heap w.params) (Hfin w.params) && namesBound PW (Hfin w.params) && gensDone ⟨Hfin w.params,#[],{},2229,os⟩ && laidKept (boot_heap w.params) (Hfin w.params)) = true := by kernel_rfl
theorem seen_eq : @openSeen = @PySem.W.Fast.tw4187177175401517315 := PySem.W.Fast.te4187177175401517315
theorem look2q (w : World) (os : OsState) : PySem.W.Fast.tw4187177175401517315 qv loose (importedModules PW.main.body) (fun _ => true) true ⟨Hfin w.params,#[],{},2229,os⟩ = openGood qv loose := by kernel_rfl
theorem look2 (w : World) (os : OsState) : openSeen qv loose (importedModules PW.main.body) (fun _ => true) true ⟨Hfin w.params,#[],{},2229,os⟩ = openGood qv loose := by rw [seen_eq]; exact look2q w os
theorem size (w : World) : ((boot_heap w.params).isNs mainGlobals && (Array.mk [] : Array GenState).size == 0,(boot_heap w.params).objs.size,(boot_heap w.params).nsMap mainGlobals "__annotations__") = (true,11,ann) := by kernel_rfl
theorem opens3 (w : World) : (importEnds treeTable (opening PW) w 600 (start (opening PW)).1 (start (opening PW)).2).map (fun s => (s.heap,s.gens,s.drawn,s.toks)) = some (boot_heap w.params,Array.mk [],boot_drawn,boot_toks) := by kernel_rfl
theorem fences (s : Shared) : fenceModules? PW s = some s := by kernel_rfl
theorem opens (w : World) : (fencedOpening treeTable PW w (600 + 29400)).map (fun s => (s.heap,s.gens,s.drawn,s.toks)) = some (boot_heap w.params,Array.mk [],boot_drawn,boot_toks) := by
  obtain ⟨s,hs,hv⟩ := Option.map_eq_some_iff.mp (opens3 w);have m := importEnds_mono 29400 _ _ _ _ hs;unfold fencedOpening;rw [m];show ((fenceModules? PW s)).map _ = _;rw [fences s];exact congrArg some hv
theorem abs_is (P : Params) (os : OsState) : (S12 P os).abs = ⟨Hfin P,#[],{},2229,os⟩ := by kernel_rfl
theorem runY (w : World) (os : OsState) : topRun treeTable PW w 11 ann 10826 ⟨boot_heap w.params,Array.mk [],boot_drawn,boot_toks,os⟩ (topStub PW) = some ⟨Hfin w.params,#[],{},2229,os⟩ := by rw [runX w os,abs_is]
theorem left : LeftO PW qv loose (fun _ => true) (fun s => s.heap) (fun w => Hfin w.params) (600 + 29400) true :=
  LeftO.of_pieces (H₀ := boot_heap) (H₁ := Hfin) (gs₀ := Array.mk []) (gs₁ := #[]) (d₀ := boot_drawn) (d₁ := {}) (k₀ := boot_toks) (k₁ := 2229) (m₀ := 11) (ann := ann) (M := 10826)
    opens size runY (by kernel_rfl) (fun w => funext fun os => by rw [look1 w os,look2 w os])
end Hd
end
end
section
open PySem PySem.W PyProof.Rows
noncomputable section
namespace Hd
noncomputable def lawD : DefRec := ⟨Str.ofString "law",sPar lawSt,sBody lawSt,sScope lawSt,match lawSt with | .FunctionDef _ _ _ _ _ _ _ _ _ p => p | _ => ⟨0,0,0,0⟩⟩
noncomputable def YP (w : World) (h : Heap) : Prop := ∀ b o,(Hfin w.params).get? b = some o→h.get? b = some o
theorem said_a2 : ((moduleNames RW.row.prog.main.body).isEmpty || lookedIntoSs (moduleNames RW.row.prog.main.body) RW.row.prog.main.body) = true := by kernel_rfl
theorem said_a3 : namesResolve RW.row.prog = true := by kernel_rfl
theorem said_v (n : Str) (h : readsOut RW.row.prog RW.row.prog.main.body n = false) (l : List Str) : List.filter (readsOut RW.row.prog RW.row.prog.main.body) (n :: l) = List.filter (readsOut RW.row.prog RW.row.prog.main.body) l := List.filter_cons_of_neg (by rw [h]; exact Bool.false_ne_true)
theorem said_v0 : readsOut RW.row.prog RW.row.prog.main.body (Str.ofString "vars") = false := by kernel_rfl
theorem said_v1 : readsOut RW.row.prog RW.row.prog.main.body (Str.ofString "dir") = false := by kernel_rfl
theorem said_v2 : readsOut RW.row.prog RW.row.prog.main.body (Str.ofString "locals") = false := by kernel_rfl
theorem said_st : (!(importedModules RW.row.prog.main.body).all cThrough.contains) = false := by kernel_rfl
theorem said_nr : noRoadLSs { strict := false, foot := none, bare := [] } RW.row.prog.main.body = true := by kernel_rfl
theorem said_a5 : noRoadLSs { strict := !(importedModules RW.row.prog.main.body).all cThrough.contains,foot := none,bare := List.filter (readsOut RW.row.prog RW.row.prog.main.body) [Str.ofString "vars",Str.ofString "dir",Str.ofString "locals"] } RW.row.prog.main.body = true := by rw [said_st, said_v _ said_v0, said_v _ said_v1, said_v _ said_v2]; exact said_nr
theorem said_a6 : (namesMeet RW.row.prog RW.row.prog.main.body fun x n => attrL n) = true := by kernel_rfl
theorem said_b1 : noClassBlock RW.prog RW.footing = true := by kernel_rfl
theorem said_b2 : noRoadLSs { strict := true,foot := some RW.bound',writes := RW.writes,may := RW.may } RW.footing = true := by kernel_rfl
theorem said_b4 : RW.namesIt = true := by kernel_rfl
theorem said_b5 : (namesMeet RW.prog RW.above fun x n => !RW.own.contains n) = true := by kernel_rfl
theorem said_b7 : (RW.bound'.all fun n => !builtinNamed n || RW.about == [n] || !RW.reads n) = true := by kernel_rfl
theorem said : RW.wellSaid = true := by
  unfold OpenLaw.wellSaid OpenRow.wellSaid OpenRow.partSaid looksOpen;simp only [Bool.and_eq_true]
  repeat' (with_reducible apply And.intro)
  all_goals (with_reducible first | exact said_a2 | exact said_a3 | exact said_a5 | exact said_a6 | exact said_b1 | exact said_b2 | exact said_b4 | exact said_b5 | exact said_b7 | kernel_rfl)
theorem hdef : defOf qv RW.row.name = some (lawD,[]) := by kernel_rfl
theorem hp : RW.row.prog.theDef RW.row.name = some (lawD.params,lawD.body,lawD.scope) := by kernel_rfl
theorem hk : kwWritten? lawD.params.kwonlyargs lawD.params.kw_defaults = some [] := by kernel_rfl
theorem hok : (chainsOk qv && opensWell RW.row.prog && (frees RW.row.toRowW && RW.row.within.isEmpty)) = true := by kernel_rfl
theorem hbare : RW.row.prog.bare := ⟨rfl,rfl,rfl,rfl,rfl,by decide +kernel⟩
theorem hwit : RW.row.toRowW.promised := ⟨[.list []],by decide +kernel,by decide +kernel⟩
noncomputable abbrev Walk : Prop := WalkO qv loose (fun _ _ => True) YP RW.row.toRowW lawD [] fun f vs => PySem.call f vs
theorem head (walk : Walk) : RW.Holds :=
  holds_law said fun k1 => holds_open (r := RW.row) (q := qv) (loose := loose) (Xt := fun _ => true) (XP := fun _ _ => True) (Yf := fun s => s.heap) (Ya := fun w => Hfin w.params) (YP := YP) (d := lawD) (kwd := []) (N := 600 + 29400)
    left (fun w s e b o h => by rw [show s.heap = Hfin w.params from e]; exact h) (fun w h h' y k b o e => k b o (y b o e)) (fun _ _ => trivial) (fun _ _ _ _ _ => trivial)
    hdef hp hk (fun s _ => recFacts_nil rfl) (by decide +kernel) k1 hok hbare hwit walk
end Hd
end
end
section
open PySem PySem.W PySem.Calls PyProof.Rows
namespace Mine
inductive V where
  | none | bool (b : Bool) | int (i : Int) | str (x : Str) | ref (a : Addr) | bi (id : String) | ty (n : String)
  | lst (vs : List V) | tup (vs : List V) | dct (ks : List String) (vs : List V) | obj (C : Addr) (ks : List String) (vs : List V)
  deriving Inhabited
inductive MO where
  | list (vs : List V)
  | inst (C : Addr) (ks : List String) (vs : List V)
  | raw (o : Obj)
noncomputable abbrev MH := Addr→Option MO
noncomputable def MH.put (H : MH) (a : Addr) (o : MO) : MH := fun b => if b = a then some o else H b
noncomputable def MH.drop (H : MH) (a : Addr) : MH := fun b => if b = a then Option.none else H b
structure Box (p : Prop) : Prop where
  go : p
structure Dx where
  n : Nat
  X : Nat→MH→Prop
noncomputable abbrev Fz := Addr→Obj→Prop
noncomputable abbrev listO (Vs : List Value) (n : Nat) : Obj := { cls := .type "list",data := .seq Vs.toArray n }
noncomputable abbrev tupO (Vs : List Value) : Obj := { cls := .type "tuple",data := .seq Vs.toArray 0 }
noncomputable def Keys (P : Params) : List String→List DictEntry→Prop
  | [],[] => True
  | k :: ks,e :: es => (∃ t,e.key = .str (Str.ofString k) t)∧e.hash = PyData.keyHash P (Str.ofString k)∧Keys P ks es
  | _,_ => False
mutual
noncomputable def VR (P : Params) (fz : Fz) : V→Value→Prop
  | .none,v => v = .none
  | .bool b,v => v = .bool b
  | .int i,v => ∃ t,v = .int i t
  | .str x,v => ∃ t,v = .str x t
  | .ref a,v => v = .ref a
  | .bi id,v => v = .builtin id
  | .ty n,v => v = .type n
  | .lst vs,v => ∃ a n Vs,v = .ref a∧fz a (listO Vs n)∧VRs P fz vs Vs
  | .tup vs,v => ∃ a Vs,v = .ref a∧fz a (tupO Vs)∧VRs P fz vs Vs
  | .dct ks vs,v => ∃ a n Es,v = .ref a∧(a == sysModules) = false∧fz a (dictOf Es n)∧Keys P ks Es∧VRs P fz vs (Es.map (·.val))
  | .obj C ks vs,v => ∃ x dx n Es,v = .ref x∧fz x (instObj C dx)∧fz dx (dictOf Es n)∧Keys P ks Es∧VRs P fz vs (Es.map (·.val))
noncomputable def VRs (P : Params) (fz : Fz) : List V→List Value→Prop
  | [],[] => True
  | v :: vs,U :: Us => VR P fz v U∧VRs P fz vs Us
  | _,_ => False
end
noncomputable abbrev Le (fz fz' : Fz) : Prop := ∀ a o,fz a o→fz' a o
mutual
theorem VR.mono {P : Params} {fz fz' : Fz} (h : Le fz fz') : ∀ {v : V} {U : Value},VR P fz v U→VR P fz' v U
  | .none,_,x => x
  | .bool _,_,x => x
  | .int _,_,x => x
  | .str _,_,x => x
  | .ref _,_,x => x
  | .bi _,_,x => x
  | .ty _,_,x => x
  | .lst vs,_,⟨a,n,Vs,e,f,x⟩ => ⟨a,n,Vs,e,h _ _ f,VRs.mono h x⟩
  | .tup vs,_,⟨a,Vs,e,f,x⟩ => ⟨a,Vs,e,h _ _ f,VRs.mono h x⟩
  | .dct ks vs,_,⟨a,n,Es,e,z,f,k,x⟩ => ⟨a,n,Es,e,z,h _ _ f,k,VRs.mono h x⟩
  | .obj C ks vs,_,⟨a,dx,n,Es,e,f,g,k,x⟩ => ⟨a,dx,n,Es,e,h _ _ f,h _ _ g,k,VRs.mono h x⟩
theorem VRs.mono {P : Params} {fz fz' : Fz} (h : Le fz fz') : ∀ {vs : List V} {Us : List Value},VRs P fz vs Us→VRs P fz' vs Us
  | [],[],x => x
  | v :: vs,U :: Us,⟨x,y⟩ => ⟨VR.mono h x,VRs.mono h y⟩
  | [],_ :: _,x => x
  | _ :: _,[],x => x
end
theorem VRs.length {P : Params} {fz : Fz} : ∀ {vs : List V} {Us : List Value},VRs P fz vs Us→vs.length = Us.length
  | [],[],_ => rfl
  | _ :: vs,_ :: Us,x => by simp [VRs.length x.2]
  | [],_ :: _,x => x.elim
  | _ :: _,[],x => x.elim
theorem VRs.append {P : Params} {fz : Fz} : ∀ {vs vs' : List V} {Us Us' : List Value},VRs P fz vs Us→VRs P fz vs' Us'→VRs P fz (vs ++ vs') (Us ++ Us')
  | [],_,[],_,_,y => y
  | _ :: vs,_,_ :: Us,_,x,y => ⟨x.1,x.2.append y⟩
  | [],_,_ :: _,_,x,_ => x.elim
  | _ :: _,_,[],_,x,_ => x.elim
theorem VRs.get {P : Params} {fz : Fz} : ∀ {vs : List V} {Us : List Value} {i : Nat} {v : V},VRs P fz vs Us→vs[i]? = some v→∃ U,Us[i]? = some U∧VR P fz v U
  | [],[],_,_,_,e => by simp at e
  | v :: vs,U :: Us,0,_,x,e => by simp at e; subst e; exact ⟨U,rfl,x.1⟩
  | v :: vs,U :: Us,i + 1,_,x,e => by
    simp at e;obtain ⟨U',a,b⟩ := VRs.get x.2 e;exact ⟨U',by simpa using a,b⟩
  | [],_ :: _,_,_,x,_ => x.elim
  | _ :: _,[],_,_,x,_ => x.elim
noncomputable abbrev Led := List (Addr × Obj)
noncomputable abbrev Own := Addr→Option Addr
noncomputable def fzOf (B : Fz) (news : Led) (ow : Own) : Fz := fun a o => B a o ∨ ((a,o)∈news∧ow a = none)
noncomputable def MRel (P : Params) (fz : Fz) (news : Led) (ow : Own) (a : Addr) : MO→Prop
  | .list vs => ow a = some a∧∃ n Vs,(a,listO Vs n)∈news∧VRs P fz vs Vs
  | .inst C ks vs => ow a = some a∧∃ dx n Es,ow dx = some a∧(a,instObj C dx)∈news∧(dx,dictOf Es n)∈news∧Keys P ks Es∧VRs P fz vs (Es.map (·.val))
  | .raw o => ow a = some a∧(a,o)∈news
noncomputable def HRel (P : Params) (B : Fz) (news : Led) (ow : Own) (H : MH) : Prop := ∀ a o,H a = some o→MRel P (fzOf B news ow) news ow a o
noncomputable abbrev Loc := List (String × V)
noncomputable def lget : Loc→String→Option V
  | [],_ => Option.none
  | (k,v) :: r,x => if k == x then some v else lget r x
noncomputable def lset : Loc→String→V→Loc
  | [],x,v => [(x,v)]
  | (k,u) :: r,x,v => if k == x then (k,v) :: r else (k,u) :: lset r x v
noncomputable def LRel (P : Params) (fz : Fz) (l : Loc) (m : Str→Option Value) : Prop := ∀ x v,lget l x = some v→∃ U,m (Str.ofString x) = some U∧VR P fz v U
structure Wd where
  prog : Program
  w : World
  K : Frag
  p : Program
  loose : List Str
  mg : Str→Option Value
  mb : Str→Option Value
  /-- what lies at the base besides: the script -/
  ext : Led
noncomputable def Wd.B (W : Wd) : Fz := fun a o => W.K.lookup a = some o ∨ (a,o)∈W.ext
structure FC where
  A₀ : Around
  A : Around
  base : Heap
  h₀ : Heap
  outer : List Env
  L : Addr
  a : Addr
  cn : Str
  cs : Scope
  cd : Value
noncomputable abbrev FC.env (C : FC) : Env := envOf C.cn C.cs C.L C.a C.cd
structure FC.Ok (W : Wd) (C : FC) (d : Dx) : Prop where
  below : Below C.A₀ C.base C.outer C.h₀
  frames : C.A.frames = some (C.env :: C.outer)
  handled : C.A.handled = none
  kin : W.K.In C.h₀
  ext : ∀ p∈W.ext,C.h₀.get? p.1 = some p.2
  top : TopRead W.p W.loose W.mg W.mb C.h₀
  fn : C.cs.kind = .function
  room : C.A.depth + 2 * d.n + 20 ≤ 1000
  units : C.A.units + 20 * d.n + 60 ≤ 9900
  noX : ∀ n H,¬ d.X n H
structure St (W : Wd) (C : FC) (l : Loc) (H : MH) (news : Led) (ow : Own) (s : Shared) : Prop where
  fr : ∃ m,Fr C.h₀ C.L s.heap m∧LRel W.w.params (fzOf W.B news ow) l m
  nw : News C.h₀ C.L s.heap news
  hr : HRel W.w.params W.B news ow H
  nd : (news.map (·.1)).Nodup
  gens : s.gens = #[]
noncomputable abbrev Md (W : Wd) : Model := model W.prog W.w
noncomputable abbrev fzS (W : Wd) (news : Led) (ow : Own) : Fz := fzOf W.B news ow
noncomputable abbrev VRw (W : Wd) (fz : Fz) (v : V) (U : Value) : Prop := VR W.w.params fz v U
noncomputable abbrev VRsw (W : Wd) (fz : Fz) (v : List V) (U : List Value) : Prop := VRs W.w.params fz v U
noncomputable abbrev Cont (W : Wd) (C : FC) (l : Loc) (fz : Fz) (os : OsState) (Q : V→MH→Prop) (Qr : Value→Shared→Prop) : Prop :=
  ∀ v U H' news' ow' s',St W C l H' news' ow' s'→Le fz (fzS W news' ow')→s'.os = os→VRw W (fzS W news' ow') v U→Q v H'→Qr U s'
noncomputable def EV (W : Wd) (d : Dx) (cs : Scope) (e : Expr) (l : Loc) (H : MH) (Q : V→MH→Prop) : Prop :=
  Box (∀ (C : FC) (news : Led) (ow : Own) (s : Shared) (Qr : Value→Shared→Prop) (E : Value→Shared→Prop),C.cs = cs→C.Ok W d→St W C l H news ow s →
    Cont W C l (fzS W news ow) s.os Q Qr→wpAny (Md W) C.A (eval e C.env) Qr E s)
noncomputable def T1 (W : Wd) (d : Dx) (cs : Scope) (l : Loc) (H : MH) (a : V) (t : Value→Sem Value) (Q : V→MH→Prop) : Prop :=
  Box (∀ (C : FC) (news : Led) (ow : Own) (s : Shared) (Qr : Value→Shared→Prop) (E : Value→Shared→Prop) (U : Value),C.cs = cs→C.Ok W d→St W C l H news ow s→VRw W (fzS W news ow) a U →
    Cont W C l (fzS W news ow) s.os Q Qr→wpAny (Md W) C.A (t U) Qr E s)
noncomputable def T2 (W : Wd) (d : Dx) (cs : Scope) (l : Loc) (H : MH) (a b : V) (t : Value→Value→Sem Value) (Q : V→MH→Prop) : Prop :=
  Box (∀ (C : FC) (news : Led) (ow : Own) (s : Shared) (Qr : Value→Shared→Prop) (E : Value→Shared→Prop) (U U' : Value),C.cs = cs→C.Ok W d→St W C l H news ow s→VRw W (fzS W news ow) a U→VRw W (fzS W news ow) b U' →
    Cont W C l (fzS W news ow) s.os Q Qr→wpAny (Md W) C.A (t U U') Qr E s)
noncomputable def ET (W : Wd) (d : Dx) (cs : Scope) (e : Expr) (l : Loc) (H : MH) (Q : Bool→MH→Prop) : Prop :=
  Box (∀ (C : FC) (news : Led) (ow : Own) (s : Shared) (Qr : Bool→Shared→Prop) (E : Value→Shared→Prop),C.cs = cs→C.Ok W d→St W C l H news ow s →
    (∀ b H' news' ow' s',St W C l H' news' ow' s'→Le (fzS W news ow) (fzS W news' ow')→s'.os = s.os→Q b H'→Qr b s')→wpAny (Md W) C.A (isTrue e C.env (eval e C.env)) Qr E s)
inductive Fl where
  | next | brk | cont
  | ret (v : V)
noncomputable def FlR (W : Wd) (fz : Fz) : Fl→Flow→Prop
  | .next,f => f = .next
  | .brk,f => f = .brk
  | .cont,f => f = .cont
  | .ret v,f => ∃ U,f = .ret U∧VRw W fz v U
noncomputable abbrev ContF (W : Wd) (C : FC) (fz : Fz) (os : OsState) (Q : Fl→Loc→MH→Prop) (Qr : Flow→Shared→Prop) : Prop :=
  ∀ f F l' H' news' ow' s',St W C l' H' news' ow' s'→Le fz (fzS W news' ow')→s'.os = os→FlR W (fzS W news' ow') f F→Q f l' H'→Qr F s'
noncomputable def EX (W : Wd) (d : Dx) (cs : Scope) (st : Stmt) (l : Loc) (H : MH) (Q : Fl→Loc→MH→Prop) : Prop :=
  Box (∀ (C : FC) (news : Led) (ow : Own) (s : Shared) (Qr : Flow→Shared→Prop) (E : Value→Shared→Prop),C.cs = cs→C.Ok W d→St W C l H news ow s →
    ContF W C (fzS W news ow) s.os Q Qr→wpAny (Md W) C.A (exec st C.env) Qr E s)
noncomputable def EXS (W : Wd) (d : Dx) (cs : Scope) (b : List Stmt) (l : Loc) (H : MH) (Q : Fl→Loc→MH→Prop) : Prop :=
  Box (∀ (C : FC) (news : Led) (ow : Own) (s : Shared) (Qr : Flow→Shared→Prop) (E : Value→Shared→Prop),C.cs = cs→C.Ok W d→St W C l H news ow s →
    ContF W C (fzS W news ow) s.os Q Qr→wpAny (Md W) C.A (execs b C.env) Qr E s)
theorem Le.refl (fz : Fz) : Le fz fz := fun _ _ h => h
theorem Le.trans {a b c : Fz} (x : Le a b) (y : Le b c) : Le a c := fun _ _ h => y _ _ (x _ _ h)
theorem vr_none {P : Params} {fz : Fz} : VR P fz .none .none := by unfold VR; rfl
theorem vr_bool {P : Params} {fz : Fz} {b : Bool} : VR P fz (.bool b) (.bool b) := by unfold VR; rfl
theorem vr_int {P : Params} {fz : Fz} {i : Int} {t : Nat} : VR P fz (.int i) (.int i t) := by unfold VR; exact ⟨_,rfl⟩
theorem vr_str {P : Params} {fz : Fz} {x : Str} {t : Nat} : VR P fz (.str x) (.str x t) := by unfold VR; exact ⟨_,rfl⟩
theorem vr_ref {P : Params} {fz : Fz} {a : Addr} : VR P fz (.ref a) (.ref a) := by unfold VR; rfl
theorem of_vr_none {P : Params} {fz : Fz} {U : Value} (h : VR P fz .none U) : U = .none := by unfold VR at h; exact h
theorem of_vr_bool {P : Params} {fz : Fz} {b : Bool} {U : Value} (h : VR P fz (.bool b) U) : U = .bool b := by unfold VR at h; exact h
theorem of_vr_int {P : Params} {fz : Fz} {i : Int} {U : Value} (h : VR P fz (.int i) U) : ∃ t,U = .int i t := by unfold VR at h; exact h
theorem of_vr_str {P : Params} {fz : Fz} {x : Str} {U : Value} (h : VR P fz (.str x) U) : ∃ t,U = .str x t := by unfold VR at h; exact h
theorem of_vr_ref {P : Params} {fz : Fz} {a : Addr} {U : Value} (h : VR P fz (.ref a) U) : U = .ref a := by unfold VR at h; exact h
theorem of_vr_ty {P : Params} {fz : Fz} {a : String} {U : Value} (h : VR P fz (.ty a) U) : U = .type a := by unfold VR at h; exact h
section
variable {W : Wd} {d : Dx} {cs : Scope} {l : Loc} {H : MH}
theorem St.toks {C : FC} {news : Led} {ow : Own} {s : Shared} (h : St W C l H news ow s) {t : Nat} : St W C l H news ow { s with toks := t } := ⟨h.fr,h.nw,h.hr,h.nd,h.gens⟩
theorem EV.mono {e : Expr} {Q Q' : V→MH→Prop} (h : EV W d cs e l H Q) (k : ∀ v H',Q v H'→Q' v H') : EV W d cs e l H Q' :=
  Box.mk fun C news ow s Qr E hc ho hs hk => h.go C news ow s Qr E hc ho hs fun v U H' news' ow' s' a b c d q => hk v U H' news' ow' s' a b c d (k v H' q)
theorem EV_name {x : String} {pos : Pos} {v : V} {Q : V→MH→Prop} (hv : lget l x = some v) (hq : Q v H) (hl : cs.names.lookup (Str.ofString x) = some .local := by kernel_rfl) (hd : (Str.ofString x == ("__debug__" : Str)) = false := by kernel_rfl) :
    EV W d cs (.Name (Str.ofString x) pos) l H Q := by
  refine Box.mk ?_;intro C news ow s Qr E hc ho hs hk;subst hc;obtain ⟨m,F,lr⟩ := hs.fr;obtain ⟨U,hm,vr⟩ := lr x v hv;exact ld F hm (hk v U H news ow s hs (Le.refl _) rfl vr hq) ho.fn hl hd
theorem EV_int {i : Int} {k : Nat} {pos : Pos} {Q : V→MH→Prop} (hq : Q (.int i) H) : EV W d cs (.Constant (.int i) k pos) l H Q := by
  refine Box.mk ?_;intro C news ow s Qr E hc ho hs hk;exact wpAny_Constant_int (hk _ _ H news ow _ hs.toks (Le.refl _) rfl vr_int hq)
theorem EV_str {x : Str} {k : Nat} {pos : Pos} {Q : V→MH→Prop} (hq : Q (.str x) H) : EV W d cs (.Constant (.str x) k pos) l H Q := by
  refine Box.mk ?_;intro C news ow s Qr E hc ho hs hk;show wpAny _ _ (mkText x) _ _ _;exact wpAny_mkText (hk _ _ H news ow _ hs.toks (Le.refl _) rfl vr_str hq)
theorem EV_none {k : Nat} {pos : Pos} {Q : V→MH→Prop} (hq : Q .none H) : EV W d cs (.Constant .none k pos) l H Q := by
  refine Box.mk ?_;intro C news ow s Qr E hc ho hs hk;exact wpAny_pure (hk _ _ H news ow _ hs (Le.refl _) rfl vr_none hq)
theorem EV_bool {b : Bool} {k : Nat} {pos : Pos} {Q : V→MH→Prop} (hq : Q (.bool b) H) : EV W d cs (.Constant (.bool b) k pos) l H Q := by
  refine Box.mk ?_;intro C news ow s Qr E hc ho hs hk;exact wpAny_pure (hk _ _ H news ow _ hs (Le.refl _) rfl vr_bool hq)
theorem EV_bin {op : Operator} {e f : Expr} {pos : Pos} {Q : V→MH→Prop}
    (h : EV W d cs e l H fun a H₁ => EV W d cs f l H₁ fun b H₂ => T2 W d cs l H₂ a b (binaryOp op) Q) : EV W d cs (.BinOp e op f pos) l H Q := by
  refine Box.mk ?_;intro C news ow s Qr E hc ho hs hk;refine wpAny_BinOp (h.go C news ow s _ E hc ho hs ?_);intro a U₁ H₁ n₁ o₁ s₁ hs₁ le₁ os₁ vr₁ h₁;refine h₁.go C n₁ o₁ s₁ _ E hc ho hs₁ ?_;intro b U₂ H₂ n₂ o₂ s₂ hs₂ le₂ os₂ vr₂ h₂;exact h₂.go C n₂ o₂ s₂ Qr E U₁ U₂ hc ho hs₂ (vr₁.mono le₂) vr₂ fun v U H' n' o' s' a b c d q => hk v U H' n' o' s' a (Le.trans le₁ (Le.trans le₂ b)) (c.trans (os₂.trans os₁)) d q
theorem EV_cmp {op : CmpOp} {e f : Expr} {pos : Pos} {Q : V→MH→Prop} (hm : behindInMarks op f = false)
    (h : EV W d cs e l H fun a H₁ => EV W d cs f l H₁ fun b H₂ => T2 W d cs l H₂ a b (compareOp op) Q) : EV W d cs (.Compare e [op] [f] pos) l H Q := by
  refine Box.mk ?_;intro C news ow s Qr E hc ho hs hk;refine wpAny_Compare1 (h.go C news ow s _ E hc ho hs ?_) hm;intro a U₁ H₁ n₁ o₁ s₁ hs₁ le₁ os₁ vr₁ h₁;refine h₁.go C n₁ o₁ s₁ _ E hc ho hs₁ ?_;intro b U₂ H₂ n₂ o₂ s₂ hs₂ le₂ os₂ vr₂ h₂;exact h₂.go C n₂ o₂ s₂ Qr E U₁ U₂ hc ho hs₂ (vr₁.mono le₂) vr₂ fun v U H' n' o' s' a b c d q => hk v U H' n' o' s' a (Le.trans le₁ (Le.trans le₂ b)) (c.trans (os₂.trans os₁)) d q
theorem EV_attr {e : Expr} {x : Str} {pos : Pos} {Q : V→MH→Prop} (he : ∀ env,attributeBase e x env (eval e env) = eval e env)
    (h : EV W d cs e l H fun a H₁ => T1 W d cs l H₁ a (fun U => getAttr U x true) Q) : EV W d cs (.Attribute e x pos) l H Q := by
  refine Box.mk ?_;intro C news ow s Qr E hc ho hs hk;refine Attribute_any_ (h.go C news ow s _ E hc ho hs ?_) ?_
  · intro a U₁ H₁ n₁ o₁ s₁ hs₁ le₁ os₁ vr₁ h₁;exact h₁.go C n₁ o₁ s₁ Qr E U₁ hc ho hs₁ vr₁ fun v U H' n' o' s' a b c d q => hk v U H' n' o' s' a (Le.trans le₁ b) (c.trans os₁) d q
  · show (do let o ← attributeBase e x C.env (eval e C.env); standAt pos.atName; let r ← holding [o] (getAttr o x true); letTemporaryGo e o r; pure r) = _;rw [he]
theorem EXS_nil {Q : Fl→Loc→MH→Prop} (hq : Q .next l H) : EXS W d cs [] l H Q := by
  refine Box.mk ?_;intro C news ow s Qr E hc ho hs hk;exact wpAny_execs_nil (hk .next .next l H news ow s hs (Le.refl _) rfl rfl hq)
noncomputable abbrev thenQ (W : Wd) (d : Dx) (cs : Scope) (r : List Stmt) (Q : Fl→Loc→MH→Prop) : Fl→Loc→MH→Prop
  | .next,l',H' => EXS W d cs r l' H' Q
  | f,l',H' => Q f l' H'
theorem EXS_cons {st : Stmt} {r : List Stmt} {Q : Fl→Loc→MH→Prop}
    (h : EX W d cs st l H (thenQ W d cs r Q)) : EXS W d cs (st :: r) l H Q := by
  refine Box.mk ?_;intro C news ow s Qr E hc ho hs hk;refine wpAny_execs_cons (h.go C news ow s _ E hc ho hs ?_);intro f F l' H' n' o' s' hs' le os fr q
  cases f with
  | next =>
    have : F = .next := fr;subst this;exact q.go C n' o' s' Qr E hc ho hs' fun f F l'' H'' n'' o'' s'' a b c d q => hk f F l'' H'' n'' o'' s'' a (Le.trans le b) (c.trans os) d q
  | brk => have : F = .brk := fr; subst this; exact hk .brk .brk l' H' n' o' s' hs' le os rfl q
  | cont => have : F = .cont := fr; subst this; exact hk .cont .cont l' H' n' o' s' hs' le os rfl q
  | ret v => obtain ⟨U,rfl,vr⟩ := fr; exact hk (.ret v) (.ret U) l' H' n' o' s' hs' le os ⟨U,rfl,vr⟩ q
theorem EX_return {e : Expr} {pos : Pos} {Q : Fl→Loc→MH→Prop} (h : EV W d cs e l H fun v H' => Q (.ret v) l H') : EX W d cs (.Return (some e) pos) l H Q := by
  refine Box.mk ?_;intro C news ow s Qr E hc ho hs hk;refine wpAny_Return_some (h.go C news ow s _ E hc ho hs ?_);intro a U₁ H₁ n₁ o₁ s₁ hs₁ le₁ os₁ vr₁ h₁;exact hk (.ret a) (.ret U₁) l H₁ n₁ o₁ s₁ hs₁ le₁ os₁ ⟨_,rfl,vr₁⟩ h₁
theorem EX_if {t : Expr} {b o : List Stmt} {pos : Pos} {Q : Fl→Loc→MH→Prop}
    (h : ET W d cs t l H fun c H' => if c then EXS W d cs b l H' Q else EXS W d cs o l H' Q) : EX W d cs (.If t b o pos) l H Q := by
  refine Box.mk ?_;intro C news ow s Qr E hc ho hs hk;refine wpAny_If (h.go C news ow s _ E hc ho hs ?_);intro c H₁ n₁ o₁ s₁ hs₁ le₁ os₁ q
  cases c with
  | true => exact q.go C n₁ o₁ s₁ Qr E hc ho hs₁ fun f F l'' H'' n'' o'' s'' a b c d q => hk f F l'' H'' n'' o'' s'' a (Le.trans le₁ b) (c.trans os₁) d q
  | false => exact q.go C n₁ o₁ s₁ Qr E hc ho hs₁ fun f F l'' H'' n'' o'' s'' a b c d q => hk f F l'' H'' n'' o'' s'' a (Le.trans le₁ b) (c.trans os₁) d q
theorem T2_add_int {i j : Int} {Q : V→MH→Prop} (hq : Q (.int (i + j)) H) : T2 W d cs l H (.int i) (.int j) (binaryOp .Add) Q := by
  refine Box.mk ?_;intro C news ow s Qr E U U' hc ho hs v1 v2 hk;obtain ⟨t,rfl⟩ := of_vr_int v1;obtain ⟨t',rfl⟩ := of_vr_int v2;exact add_int (hk _ _ H news ow _ hs.toks (Le.refl _) rfl vr_int hq)
end
end Mine
end
section
open PySem PySem.W PySem.Calls PyProof.Rows
namespace Mine
theorem ofString_inj {x y : String} (h : Str.ofString x = Str.ofString y) : x = y := by
  rw [Str.ofString_eq_toList,Str.ofString_eq_toList] at h;have h2 : x.toList.map Char.toNat = y.toList.map Char.toNat := by
    have := congrArg (fun s : Str => s.cps.toList) h
    simpa using this
  have inj : ∀ (a b : List Char),a.map Char.toNat = b.map Char.toNat→a = b := by
    intro a
    induction a with
    | nil => intro b h; cases b with | nil => rfl | cons _ _ => cases h
    | cons c r ih => intro b h; cases b with
      | nil => cases h
      | cons c' r' =>
        simp only [List.map_cons,List.cons.injEq] at h;rw [ih _ h.2,show c = c' from Char.toNat_inj.mp h.1]
  exact String.toList_inj.mp (inj _ _ h2)
theorem lget_zip {P : Params} {fz : Fz} : ∀ {names : List String} {vs : List V} {Us : List Value},names.Nodup→VRs P fz vs Us→LRel P fz (names.zip vs) fun y => ((names.map Str.ofString).zip Us).reverse.lookup y
  | [],vs,Us,_,_ => fun x v h => by simp [lget] at h
  | n :: ns,[],[],_,_ => fun x v h => by simp [lget] at h
  | n :: ns,[],_ :: _,_,h => h.elim
  | n :: ns,_ :: _,[],_,h => h.elim
  | n :: ns,v :: vs,U :: Us,nd,h => by
    intro x w hx;have nd' := List.nodup_cons.mp nd;simp only [List.zip_cons_cons,lget] at hx;simp only [List.map_cons,List.zip_cons_cons,List.reverse_cons,List.lookup_append]
    by_cases e : (n == x) = true
    · rw [if_pos e] at hx
      cases hx
      have e' : n = x := by simpa using e
      subst e';refine ⟨U,?_,h.1⟩;have : (((ns.map Str.ofString).zip Us).reverse).lookup (Str.ofString n) = none := by
        rw [List.lookup_eq_none_iff];intro p hp;have hp' := List.mem_reverse.mp hp;have := (List.of_mem_zip hp').1;obtain ⟨y,hy,hye⟩ := List.mem_map.mp this;rw [bne_iff_ne];intro q
        apply nd'.1
        rw [ofString_inj (q.trans hye.symm)]; exact hy
      rw [this];simp
    · rw [if_neg e] at hx;obtain ⟨U',hU,vr⟩ := lget_zip nd'.2 h.2 x w hx;have hU' : List.lookup (Str.ofString x) ((ns.map Str.ofString).zip Us).reverse = some U' := hU;exact ⟨U',by rw [hU']; rfl,vr⟩
structure FnAt (W : Wd) (f : Addr) (names : List String) (body : List Stmt) (scope : Scope) : Prop where
  ho : ∃ oc od osl name qual params doc pm cdv,W.K.lookup f = some ⟨oc,od,.func (fnOf name qual params body scope .none .none doc pm none cdv .none),osl⟩∧codeIn W.K cdv qual = true ∧
    ∀ Us : List Value,Us.length = names.length→bindArgs (fnOf name qual params body scope .none .none doc pm none cdv .none) ⟨Us,[]⟩ = pure ((names.map Str.ofString).zip Us)
  loc : ∀ x∈names,scope.names.lookup (Str.ofString x) = some .local
  nd : names.Nodup
  co : scope.isCoroutine = false
  gen : scope.isGenerator = false
  kind : scope.kind = .function
  cell : ∀ x∈scope.names,x.2 ≠ .cell
noncomputable abbrev retQ (Q : V→MH→Prop) : Fl→Loc→MH→Prop
  | .ret v,_,H' => Q v H'
  | .next,_,H' => Q .none H'
  | _,_,_ => False
noncomputable def CL (W : Wd) (d : Dx) (l : Loc) (H : MH) (f : Addr) (vs : List V) (Q : V→MH→Prop) : Prop :=
  Box (∀ (C : FC) (news : Led) (ow : Own) (s : Shared) (A : Around) (R : Result→Shared→Prop) (Us : List Value),C.Ok W d→St W C l H news ow s→VRsw W (fzS W news ow) vs Us →
    A.depth ≤ C.A.depth + 1→A.units ≤ C.A.units + 10→A.frames = C.A.frames→A.handled = C.A.handled →
    (∀ v U H' news' ow' s',St W C l H' news' ow' s'→Le (fzS W news ow) (fzS W news' ow')→s'.os = s.os→VRw W (fzS W news' ow') v U→Q v H'→R (.ok (.ret U)) s')→codeAny (Md W) A (.call (.ref f) ⟨Us,[]⟩) R s)
section
variable {W : Wd} {d : Dx} {cs : Scope} {l : Loc} {H : MH}
theorem CL_def {n : Nat} {X : Nat→MH→Prop} {f : Addr} {names : List String} {body : List Stmt} {scope : Scope} {vs : List V} {Q : V→MH→Prop} (hf : FnAt W f names body scope) (hn : vs.length = names.length)
    (h : EXS W ⟨n,X⟩ scope body (names.zip vs) H (retQ Q)) : CL W ⟨n + 1,X⟩ l H f vs Q := by
  refine Box.mk ?_;intro C news ow s A R Us ho hs vr hdp hun hfr hhd hk;obtain ⟨m,F,lr⟩ := hs.fr;obtain ⟨oc,od,osl,name,qual,params,doc,pm,cdv,hK,hcd,hb⟩ := hf.ho;have hroom : A.depth < recursionLimit := by have := ho.room; unfold recursionLimit; omega
  have hlen : Us.length = names.length := by rw [← VRs.length vr,hn]
  refine call_K (A₀ := C.A₀) (base := C.base) (h₀ := C.h₀) (outer := C.outer) (L := C.L) (a := C.a) (m := m) (cn := C.cn) (cs := C.cs) (ccd := C.cd) (news := news) (K := W.K)
    ho.below F hs.nw (ho.kin.keeps F.keep) ho.top.nolimit (hfr.trans ho.frames) hK hcd hroom (BindsTo.of_eq (hb Us hlen)) ?_ ?_ ho.fn hf.co hf.gen hf.kind hf.cell
  · intro y hy;obtain ⟨x,hx,e⟩ := List.mem_map.mp (List.of_mem_zip (a := y.1) (b := y.2) hy).1;rw [← e]; exact hf.loc x hx
  · intro g L' h₁ FG F' N' B' st;have ho' : FC.Ok W ⟨A,A.deeper (envOf qual scope L' f cdv),C.base,g,C.env :: C.outer,L',f,qual,scope,cdv⟩ ⟨n,X⟩ :=
      ⟨B',by show (A.frames.map _) = _; rw [hfr,ho.frames]; rfl,hhd.trans ho.handled,ho.kin.keeps st,(fun p hp => st _ _ (ho.ext p hp)),ho.top.keeps st,hf.kind,by
        have : C.A.depth + 2 * (n + 1) + 20 ≤ 1000 := ho.room;show A.depth + 1 + 2 * n + 20 ≤ 1000;omega,by
        have : C.A.units + 20 * (n + 1) + 60 ≤ 9900 := ho.units;show A.units + 3 + 20 * n + 60 ≤ 9900;omega,ho.noX⟩
    have hs' : St W ⟨A,A.deeper (envOf qual scope L' f cdv),C.base,g,C.env :: C.outer,L',f,qual,scope,cdv⟩ (names.zip vs) H news ow { s with heap := h₁,toks := s.toks + ((names.map Str.ofString).zip Us).length } :=
      ⟨⟨_,F',lget_zip hf.nd vr⟩,N',hs.hr,hs.nd,hs.gens⟩
    refine h.go _ news ow _ _ _ rfl ho' hs' ?_;intro fl Fl l' H' n' o' s' hs'' le os fr q;obtain ⟨m',F'',lr'⟩ := hs''.fr;have fin : ∀ v U,VRw W (fzS W n' o') v U→Q v H'→LeaveK C.h₀ C.L m g R U s' := fun v U vr' q' =>
      ⟨L',m',n',F'',hs''.nw,fun F3 N3 => hk v U H' n' o' s' ⟨⟨m,F3,fun x v' hx => let ⟨U',a,b⟩ := lr x v' hx; ⟨U',a,b.mono le⟩⟩,N3,hs''.hr,hs''.nd,hs''.gens⟩ le os vr' q'⟩
    cases fl with
    | next => have : Fl = .next := fr; subst this; exact fin .none .none vr_none q
    | brk => exact q.elim
    | cont => exact q.elim
    | ret v => obtain ⟨U,rfl,vr'⟩ := fr; exact fin v U vr' q
end
end Mine
end
section
open PySem PySem.W PySem.Calls PyProof.Rows
namespace Mine
section
variable {W : Wd} {d : Dx} {cs : Scope} {l : Loc} {H : MH}
noncomputable def EA (W : Wd) (d : Dx) (cs : Scope) (es : List Expr) (l : Loc) (H : MH) (Q : List V→MH→Prop) : Prop :=
  Box (∀ (C : FC) (news : Led) (ow : Own) (s : Shared) (Qr : List Value→Shared→Prop) (E : Value→Shared→Prop) (pos : Pos),C.cs = cs→C.Ok W d→St W C l H news ow s →
    (∀ vs Us H' news' ow' s',St W C l H' news' ow' s'→Le (fzS W news ow) (fzS W news' ow')→s'.os = s.os→VRsw W (fzS W news' ow') vs Us→Q vs H'→Qr Us s') →
    wpAny (Md W) C.A (spliced (backTo pos (starEach es C.env))) Qr E s)
theorem vrs_nil {P : Params} {fz : Fz} : VRs P fz [] [] := by unfold VRs; trivial
theorem vrs_cons {P : Params} {fz : Fz} {v : V} {U : Value} {vs : List V} {Us : List Value} (a : VR P fz v U) (b : VRs P fz vs Us) : VRs P fz (v :: vs) (U :: Us) := by unfold VRs; exact ⟨a,b⟩
theorem EA_nil {Q : List V→MH→Prop} (hq : Q [] H) : EA W d cs [] l H Q := by
  refine Box.mk ?_;intro C news ow s Qr E pos hc ho hs hk;exact args_nil (hk [] [] H news ow s hs (Le.refl _) rfl vrs_nil hq)
noncomputable def plainE : Expr→Bool
  | .Starred _ _ => false
  | _ => true
theorem starEach_plain {e : Expr} {r : List Expr} {env : Env} (h : plainE e = true) : starEach (e :: r) env = (false,eval e env) :: starEach r env := by
  cases e <;> first | rfl | cases h
theorem EA_cons {e : Expr} {r : List Expr} {Q : List V→MH→Prop} (hp : plainE e = true)
    (h : EV W d cs e l H fun v H₁ => EA W d cs r l H₁ fun vs H₂ => Q (v :: vs) H₂) : EA W d cs (e :: r) l H Q := by
  refine Box.mk ?_;intro C news ow s Qr E pos hc ho hs hk;refine args_cons (h.go C news ow s _ E hc ho hs ?_) (starEach_plain hp);intro a U₁ H₁ n₁ o₁ s₁ hs₁ le₁ os₁ vr₁ h₁;refine h₁.go C n₁ o₁ s₁ _ E pos hc ho hs₁ ?_;intro vs Us H₂ n₂ o₂ s₂ hs₂ le₂ os₂ vr₂ h₂;exact hk (a :: vs) (U₁ :: Us) H₂ n₂ o₂ s₂ hs₂ (Le.trans le₁ le₂) (os₂.trans os₁) (vrs_cons (vr₁.mono le₂) vr₂) h₂
theorem starEach_any : ∀ {es : List Expr} {env : Env} {pos : Pos},es.all plainE = true→(backTo pos (starEach es env)).any (·.1) = false
  | [],_,_,_ => rfl
  | e :: r,env,pos,h => by
    obtain ⟨a,b⟩ := Bool.and_eq_true_iff.mp (List.all_cons ▸ h);rw [starEach_plain a];show (false || (backTo pos (starEach r env)).any (·.1)) = false;rw [starEach_any b]; rfl
noncomputable def CV (W : Wd) (d : Dx) (cs : Scope) (l : Loc) (H : MH) (f : Value) (vs : List V) (Q : V→MH→Prop) : Prop :=
  Box (∀ (C : FC) (news : Led) (ow : Own) (s : Shared) (Qr : Value→Shared→Prop) (E : Value→Shared→Prop) (Us : List Value),C.cs = cs→C.Ok W d→St W C l H news ow s→VRsw W (fzS W news ow) vs Us →
    Cont W C l (fzS W news ow) s.os Q Qr→wpAny (Md W) C.A (call f Us) Qr E s)
theorem CV_of_CL {f : Addr} {vs : List V} {Q : V→MH→Prop} (h : CL W d l H f vs Q) : CV W d cs l H (.ref f) vs Q := by
  refine Box.mk ?_;intro C news ow s Qr E Us hc ho hs vr hk;refine wpAny_call (h.go C news ow s C.A _ Us ho hs vr (by omega) (by omega) rfl rfl ?_);intro v U H' n' o' s' a b c d q;exact hk v U H' n' o' s' a b c d q
theorem callWith_base {C : FC} {f : Addr} {news : Led} {ow : Own} {s : Shared} {first : List V} {Fs : List Value} {es : List Expr} {pos : Pos} {Q : V→MH→Prop} {Qr : Value→Shared→Prop} {E : Value→Shared→Prop}
    (hc : C.cs = cs) (ho : C.Ok W d) (hs : St W C l H news ow s) (hkeep : keepIn W.K (.ref f) = true) (hp : es.all plainE = true) (vf : VRsw W (fzS W news ow) first Fs)
    (h : EA W d cs es l H fun vs H₁ => CV W d cs l H₁ (.ref f) (first ++ vs) Q) (hk : Cont W C l (fzS W news ow) s.os Q Qr) :
    wpAny (Md W) C.A (callWith pos (.ref f) Fs (backTo pos (starEach es C.env)) []) Qr E s := by
  have hX : ∀ {s' : Shared} {H' : MH} {n' : Led} {o' : Own},St W C l H' n' o' s'→W.K.In s'.heap := fun hs' => let ⟨m,F,_⟩ := hs'.fr; ho.kin.keeps F.keep
  have main : wpAny (Md W) C.A (spliced (backTo pos (starEach es C.env))) (fun vs s₁ => W.K.In s₁.heap∧wpAny (Md W) C.A (call (.ref f) (Fs ++ vs)) Qr E s₁) E s := by
    refine h.go C news ow s _ E pos hc ho hs ?_;intro vs Us H₁ n₁ o₁ s₁ hs₁ le₁ os₁ vr₁ h₁;refine ⟨hX hs₁,h₁.go C n₁ o₁ s₁ Qr E _ hc ho hs₁ ((VRs.mono le₁ vf).append vr₁) ?_⟩;intro v U H' n' o' s' a b c d q;exact hk v U H' n' o' s' a (Le.trans le₁ b) (c.trans os₁) d q
  cases es with
  | nil =>
    have : W.K.In s.heap∧wpAny (Md W) C.A (call (.ref f) (Fs ++ [])) Qr E s := by
      have h0 := h.go C news ow s (fun vs s₁ => vs = []∧s₁ = s→(W.K.In s₁.heap∧wpAny (Md W) C.A (call (.ref f) (Fs ++ vs)) Qr E s₁)) E pos hc ho hs (by
        intro vs Us H₁ n₁ o₁ s₁ hs₁ le₁ os₁ vr₁ h₁ _;refine ⟨hX hs₁,h₁.go C n₁ o₁ s₁ Qr E _ hc ho hs₁ ((VRs.mono le₁ vf).append vr₁) ?_⟩;intro v U H' n' o' s' a b c d q;exact hk v U H' n' o' s' a (Le.trans le₁ b) (c.trans os₁) d q)
      refine ⟨hX hs,?_⟩;intro Γ p hΓ;have := h0 Γ p hΓ;exact (this ⟨rfl,rfl⟩).2 Γ p hΓ
    exact callWith_K0 this.1 hkeep this.2
  | cons e r =>
    obtain ⟨a,b⟩ := Bool.and_eq_true_iff.mp (List.all_cons ▸ hp);exact callWith_K ho.kin hkeep main (starEach_plain a) (starEach_any b)
theorem EV_callg {x : Str} {np pos : Pos} {f : Addr} {es : List Expr} {Q : V→MH→Prop} (hl : cs.names.lookup x = some .globalImplicit) (hg : W.mg x = some (.ref f)) (hd : (x == ("__debug__" : Str)) = false)
    (hkeep : keepIn W.K (.ref f) = true) (hp : es.all plainE = true)
    (h : EA W d cs es l H fun vs H₁ => CV W d cs l H₁ (.ref f) vs Q) : EV W d cs (.Call (.Name x np) es [] pos) l H Q := by
  refine Box.mk ?_;intro C news ow s Qr E hc ho hs hk;obtain ⟨m,F,lr⟩ := hs.fr;refine Call_ ?_ (by rfl);refine ld_global_at F ho.top.g hg ?_ ho.fn (by subst hc; exact hl) hd;exact callWith_base (first := []) hc ho hs hkeep hp vrs_nil h hk
end
end Mine
end
section
open PySem PySem.W PySem.Calls PyProof.Rows
namespace Mine
noncomputable def getF : List String→List V→String→Option V
  | k :: ks,v :: vs,x => if k == x then some v else getF ks vs x
  | _,_,_ => none
noncomputable def setF : List String→List V→String→V→List String × List V
  | k :: ks,v :: vs,x,u => if k == x then (k :: ks,u :: vs) else (k :: (setF ks vs x u).1,v :: (setF ks vs x u).2)
  | _,_,x,u => ([x],[u])
theorem isStr_str (k : Str) (t : Nat) (x : Str) : (Value.str k t).isStr x = (k == x) := rfl
theorem beq_ofString (k x : String) : (Str.ofString k == Str.ofString x) = (k == x) := by
  rw [Bool.eq_iff_iff,beq_iff_eq,beq_iff_eq];exact ⟨ofString_inj,fun h => by rw [h]⟩
theorem getL_some {P : Params} {fz : Fz} {x : String} {v : V} : ∀ {ks : List String} {vs : List V} {Es : List DictEntry},Keys P ks Es→VRs P fz vs (Es.map (·.val))→getF ks vs x = some v→∃ U,getL (Str.ofString x) Es = some (some U)∧VR P fz v U
  | [],_,_,_,_,h => by simp [getF] at h
  | k :: ks,[],_,_,_,h => by simp [getF] at h
  | k :: ks,u :: vs,[],hk,_,_ => hk.elim
  | k :: ks,u :: vs,e :: es,⟨⟨t,hk⟩,hh,hr⟩,hv,h => by
    rw [List.map_cons] at hv;unfold VRs at hv;unfold getL;rw [List.find?_cons,hk,isStr_str,beq_ofString];unfold getF at h
    by_cases q : (k == x) = true
    · rw [if_pos q] at h
      cases h
      rw [q];exact ⟨_,rfl,hv.1⟩
    · rw [if_neg q] at h;rw [Bool.not_eq_true] at q;rw [q];obtain ⟨U,a,b⟩ := getL_some hr hv.2 h;refine ⟨U,?_,b⟩;unfold getL at a;have nr : (e :: es).any (·.refKey) = es.any (·.refKey) := by
        rw [List.any_cons]; unfold DictEntry.refKey; rw [hk]; rfl
      rw [nr];exact a
theorem getL_none {P : Params} {fz : Fz} {x : String} : ∀ {ks : List String} {vs : List V} {Es : List DictEntry},Keys P ks Es→VRs P fz vs (Es.map (·.val))→getF ks vs x = none→getL (Str.ofString x) Es = some none
  | [],_,[],_,_,_ => rfl
  | [],_,_ :: _,hk,_,_ => hk.elim
  | _ :: _,_,[],hk,_,_ => hk.elim
  | k :: ks,[],e :: es,_,hv,_ => by unfold VRs at hv; exact hv.elim
  | k :: ks,u :: vs,e :: es,⟨⟨t,hk⟩,hh,hr⟩,hv,h => by
    rw [List.map_cons] at hv;unfold VRs at hv;unfold getF at h
    by_cases q : (k == x) = true
    · rw [if_pos q] at h; cases h
    · rw [if_neg q] at h;rw [Bool.not_eq_true] at q;have a := getL_none hr hv.2 h;unfold getL at a ⊢;rw [List.find?_cons,hk,isStr_str,beq_ofString,q];have nr : (e :: es).any (·.refKey) = es.any (·.refKey) := by
        rw [List.any_cons]; unfold DictEntry.refKey; rw [hk]; rfl
      rw [nr];exact a
noncomputable def plainV : V→Bool
  | .bi _ => false
  | _ => true
theorem handed_of {P : Params} {fz : Fz} {v : V} {U : Value} (h : VR P fz v U) (p : plainV v = true) : handedIn U = true := by
  cases v <;> unfold VR at h
  case none => subst h; rfl
  case bool => subst h; rfl
  case int => obtain ⟨t,rfl⟩ := h; rfl
  case str => obtain ⟨t,rfl⟩ := h; rfl
  case ref => subst h; rfl
  case bi => cases p
  case ty => subst h; rfl
  case lst => obtain ⟨_,_,_,rfl,_⟩ := h; rfl
  case tup => obtain ⟨_,_,rfl,_⟩ := h; rfl
  case dct => obtain ⟨_,_,_,rfl,_⟩ := h; rfl
  case obj => obtain ⟨_,_,_,_,rfl,_⟩ := h; rfl
section
variable {W : Wd} {d : Dx} {cs : Scope} {l : Loc} {H : MH}
structure AttrAt (W : Wd) (C : Addr) (x : String) : Prop where
  plain : plainGet W.K C (Str.ofString x) = true
  dict : hasDictIn W.K C = true
  find : ∃ attr,findIn W.K (.ref C) (Str.ofString x) = some attr∧noGet W.K attr = true
theorem fz_at {C : FC} {news : Led} {ow : Own} {s : Shared} (ho : C.Ok W d) (hs : St W C l H news ow s) {a : Addr} {o : Obj} (h : fzS W news ow a o) : s.heap.get? a = some o := by
  obtain ⟨m,F,_⟩ := hs.fr
  rcases h with (h | h) | h
  · exact (ho.kin.keeps F.keep) _ _ h
  · exact F.keep _ _ (ho.ext _ h)
  · exact (hs.nw _ h.1).1
theorem T1_attr {a C : Addr} {ks : List String} {vs : List V} {x : String} {v : V} {Q : V→MH→Prop} (hH : H a = some (.inst C ks vs)) (hv : getF ks vs x = some v) (hp : plainV v = true) (hc : AttrAt W C x) (hq : Q v H) :
    T1 W d cs l H (.ref a) (fun U => getAttr U (Str.ofString x) true) Q := by
  refine Box.mk ?_;intro C' news ow s Qr E U hcs ho hs vr hk;obtain rfl := of_vr_ref vr;obtain ⟨m,F,lr⟩ := hs.fr;obtain ⟨_,dx,n,Es,_,h1,h2,hkeys,hvs⟩ := hs.hr a _ hH;obtain ⟨attr,hf,hn⟩ := hc.find;obtain ⟨U,hl,vr'⟩ := getL_some hkeys hvs hv;exact get_own F ho.kin (InstAt.of_news hs.nw h1 h2) hc.plain hc.dict hf hn hl (handed_of vr' hp) (hk v U H news ow _ hs.toks (Le.refl _) rfl vr' hq)
theorem T1_attrF {C : Addr} {ks : List String} {vs : List V} {x : String} {v : V} {Q : V→MH→Prop} (hv : getF ks vs x = some v) (hp : plainV v = true) (hc : AttrAt W C x) (hq : Q v H) :
    T1 W d cs l H (.obj C ks vs) (fun U => getAttr U (Str.ofString x) true) Q := by
  refine Box.mk ?_;intro C' news ow s Qr E U hcs ho hs vr hk;unfold VRw VR at vr;obtain ⟨y,dx,n,Es,rfl,h1,h2,hkeys,hvs⟩ := vr;obtain ⟨m,F,lr⟩ := hs.fr;obtain ⟨attr,hf,hn⟩ := hc.find;obtain ⟨U,hl,vr'⟩ := getL_some hkeys hvs hv;exact get_own F ho.kin ⟨fz_at ho hs h1,rfl,rfl,fz_at ho hs h2⟩ hc.plain hc.dict hf hn hl (handed_of vr' hp) (hk v U H news ow _ hs.toks (Le.refl _) rfl vr' hq)
structure MethAt (W : Wd) (C : Addr) (x : String) (f : Addr) : Prop where
  plain : plainGet W.K C (Str.ofString x) = true
  find : findIn W.K (.ref C) (Str.ofString x) = some (some (.ref f))
  fn : isFn W.K (.ref f) = true
  keep : keepIn W.K (.ref f) = true
noncomputable def MC (W : Wd) (d : Dx) (cs : Scope) (l : Loc) (H : MH) (v : V) (x : Str) (es : List Expr) (Q : V→MH→Prop) : Prop :=
  Box (∀ (C : FC) (news : Led) (ow : Own) (s : Shared) (Qr : Value→Shared→Prop) (E : Value→Shared→Prop) (U : Value) (pl : Sem Bool) (pos : Pos),C.cs = cs→C.Ok W d→St W C l H news ow s→VRw W (fzS W news ow) v U →
    Cont W C l (fzS W news ow) s.os Q Qr→wpAny (Md W) C.A (getMethod U x pl) (fun fx s₂ => wpAny (Md W) C.A (callWith pos fx.1 fx.2 (backTo pos (starEach es C.env)) []) Qr E s₂) E s)
theorem EV_meth {o : Expr} {x : Str} {apos pos : Pos} {es : List Expr} {Q : V→MH→Prop} (pl : Env→Sem Bool)
    (he : ∀ env,eval (.Call (.Attribute o x apos) es [] pos) env = (do
      let ov ← eval o env
      standAt apos.atName
      let (f,first) ← holding [ov] (getMethod ov x (pl env))
      callWith pos f first (backTo pos (starEach es env)) []))
    (h : EV W d cs o l H fun v H₁ => MC W d cs l H₁ v x es Q) : EV W d cs (.Call (.Attribute o x apos) es [] pos) l H Q := by
  refine Box.mk ?_;intro C news ow s Qr E hc ho hs hk;refine MethodCall_ (h.go C news ow s _ E hc ho hs ?_) (he _);intro v U H₁ n₁ o₁ s₁ hs₁ le₁ os₁ vr₁ h₁;exact h₁.go C n₁ o₁ s₁ Qr E U _ pos hc ho hs₁ vr₁ fun v U H' n' o' s' a b c d q => hk v U H' n' o' s' a (Le.trans le₁ b) (c.trans os₁) d q
theorem MC_inst {a C : Addr} {ks : List String} {vs : List V} {x : String} {f : Addr} {es : List Expr} {Q : V→MH→Prop} (hH : H a = some (.inst C ks vs)) (hx : getF ks vs x = none) (hm : MethAt W C x f) (hp : es.all plainE = true)
    (h : EA W d cs es l H fun us H₂ => CV W d cs l H₂ (.ref f) (.ref a :: us) Q) : MC W d cs l H (.ref a) (Str.ofString x) es Q := by
  refine Box.mk ?_;intro C' news ow s Qr E U pl pos hcs ho hs vr hk;obtain rfl := of_vr_ref vr;obtain ⟨m,F,lr⟩ := hs.fr;obtain ⟨_,dx,n,Es,_,h1,h2,hkeys,hvs⟩ := hs.hr a _ hH;exact method_inst F ho.kin (InstAt.of_news hs.nw h1 h2) hm.plain hm.find hm.fn (getL_none hkeys hvs hx) (callWith_base (first := [.ref a]) hcs ho hs hm.keep hp (vrs_cons vr_ref vrs_nil) h hk)
end
end Mine
end
section
open PySem PySem.W PySem.Calls PyProof.Rows
namespace Mine
theorem lget_lset (x : String) (v : V) (y : String) : ∀ l : Loc,lget (lset l x v) y = if (x == y) = true then some v else lget l y
  | [] => by simp [lset,lget]
  | (k,u) :: r => by
    unfold lset
    by_cases h : (k == x) = true
    · rw [if_pos h];have e : k = x := by simpa using h
      subst e;unfold lget
      by_cases q : (k == y) = true
      · simp [q]
      · simp [q]
    · rw [if_neg h];unfold lget;rw [lget_lset x v y r]
      by_cases q : (k == y) = true
      · have e : k = y := by simpa using q
        subst e;have : (x == k) = false := by
          rw [beq_eq_false_iff_ne]; intro z; apply h; rw [z]; simp
        simp [this]
      · simp [q]
theorem upd_ex {dx : Addr} {o o' : Obj} : ∀ {news : Led},(news.map (·.1)).Nodup→(dx,o)∈news→∃ news',Upd dx o o' news news'∧news'.map (·.1) = news.map (·.1)∧(dx,o')∈news' ∧
    (∀ p∈news',p = (dx,o') ∨ (p∈news∧p.1 ≠ dx))∧(∀ p∈news,p.1 ≠ dx→p∈news')
  | [],_,h => by cases h
  | p :: r,nd,h => by
    rw [List.map_cons,List.nodup_cons] at nd
    by_cases e : p.1 = dx
    · have hp : p = (dx,o) := by
        rcases List.mem_cons.mp h with q | q
        · exact q.symm
        · exact absurd (List.mem_map_of_mem (f := (·.1)) q) (by rw [← e]; exact nd.1)
      subst hp;have hn : ∀ q∈r,q.1 ≠ dx := fun q hq z => nd.1 (by have := List.mem_map_of_mem (f := (·.1)) hq; rwa [z] at this);refine ⟨(dx,o') :: r,.head hn,rfl,.head _,fun q hq => ?_,fun q hq z => ?_⟩
      · rcases List.mem_cons.mp hq with rfl | hq
        · exact .inl rfl
        · exact .inr ⟨.tail _ hq,hn q hq⟩
      · rcases List.mem_cons.mp hq with rfl | hq
        · exact absurd rfl z
        · exact .tail _ hq
    · have h' : (dx,o)∈r := by
        rcases List.mem_cons.mp h with q | q
        · exact absurd (congrArg (·.1) q).symm e
        · exact q
      obtain ⟨r',U,m,i,a,b⟩ := upd_ex nd.2 h';refine ⟨p :: r',.tail e U,by rw [List.map_cons,List.map_cons,m],.tail _ i,fun q hq => ?_,fun q hq z => ?_⟩
      · rcases List.mem_cons.mp hq with rfl | hq
        · exact .inr ⟨.head _,e⟩
        · rcases a q hq with rfl | ⟨y,z⟩
          · exact .inl rfl
          · exact .inr ⟨.tail _ y,z⟩
      · rcases List.mem_cons.mp hq with rfl | hq
        · exact .head _
        · exact .tail _ (b q hq z)
theorem news_fun {news : Led} (nd : (news.map (·.1)).Nodup) {a : Addr} {o o' : Obj} (h : (a,o)∈news) (h' : (a,o')∈news) : o = o' := by
  induction news with
  | nil => cases h
  | cons p r ih =>
    rw [List.map_cons,List.nodup_cons] at nd
    rcases List.mem_cons.mp h with q | q <;> rcases List.mem_cons.mp h' with q' | q'
    · rw [← q] at q'; exact (congrArg (·.2) q').symm
    · exact absurd (List.mem_map_of_mem (f := (·.1)) q') (by rw [← q] at nd; exact nd.1)
    · exact absurd (List.mem_map_of_mem (f := (·.1)) q) (by rw [← q'] at nd; exact nd.1)
    · exact ih nd.2 q q'
theorem le_upd {W : Wd} {news news' : Led} {ow : Own} {dx a : Addr} (hw : ow dx = some a) (b : ∀ p∈news,p.1 ≠ dx→p∈news') : Le (fzS W news ow) (fzS W news' ow) := by
  intro x o h
  rcases h with h | ⟨h,e⟩
  · exact .inl h
  · exact .inr ⟨b _ h (fun (z : x = dx) => by rw [z,hw] at e; cases e),e⟩
theorem MRel.upd {P : Params} {fz fz' : Fz} {news news' : Led} {ow : Own} {dx a b : Addr} {o : MO} (le : Le fz fz') (hw : ow dx = some a) (ne : b ≠ a) (k : ∀ p∈news,p.1 ≠ dx→p∈news') (h : MRel P fz news ow b o) : MRel P fz' news' ow b o := by
  have ne' : ∀ {x : Addr},ow x = some b→x ≠ dx := fun hx z => by rw [z,hw] at hx; exact ne (Option.some.inj hx).symm
  cases o with
  | list vs =>
    obtain ⟨h0,n,Vs,h1,h2⟩ := h;exact ⟨h0,n,Vs,k _ h1 (ne' h0),h2.mono le⟩
  | inst C ks vs =>
    obtain ⟨h0,dy,n,Es,h1,h2,h3,h4,h5⟩ := h;exact ⟨h0,dy,n,Es,h1,k _ h2 (ne' h0),k _ h3 (ne' h1),h4,h5.mono le⟩
  | raw x => exact ⟨h.1,k _ h.2 (ne' h.1)⟩
theorem keys_len {P : Params} : ∀ {ks : List String} {Es : List DictEntry},Keys P ks Es→Es.length = ks.length
  | [],[],_ => rfl
  | _ :: _,_ :: _,h => by simp [keys_len h.2.2]
  | [],_ :: _,h => h.elim
  | _ :: _,[],h => h.elim
theorem putL_set {P : Params} {fz : Fz} {x : String} {v : V} {U : Value} {t : Nat} (hv : VR P fz v U) : ∀ {ks : List String} {vs : List V} {Es : List DictEntry},Keys P ks Es→VRs P fz vs (Es.map (·.val)) →
    Keys P (setF ks vs x v).1 (putL (Str.ofString x) (PyData.keyHash P (Str.ofString x)) (.str (Str.ofString x) t) U Es) ∧
    VRs P fz (setF ks vs x v).2 ((putL (Str.ofString x) (PyData.keyHash P (Str.ofString x)) (.str (Str.ofString x) t) U Es).map (·.val))∧(putL (Str.ofString x) (PyData.keyHash P (Str.ofString x)) (.str (Str.ofString x) t) U Es).length ≤ ks.length + 1
  | [],[],[],_,_ => ⟨⟨⟨t,rfl⟩,rfl,trivial⟩,vrs_cons hv vrs_nil,Nat.le_refl _⟩
  | [],_ :: _,[],_,h => by unfold VRs at h; exact h.elim
  | [],_,_ :: _,h,_ => h.elim
  | _ :: _,_,[],h,_ => h.elim
  | _ :: _,[],_ :: _,_,h => by unfold VRs at h; exact h.elim
  | k :: ks,u :: vs,e :: es,⟨⟨t',hk⟩,hh,hr⟩,h => by
    rw [List.map_cons] at h;unfold VRs at h;unfold putL setF;rw [hk,isStr_str,beq_ofString]
    by_cases q : (k == x) = true
    · have e' : k = x := by simpa using q
      subst e';rw [if_pos q,if_pos q];refine ⟨⟨⟨t',by first | exact hk | rfl⟩,hh,hr⟩,vrs_cons hv h.2,?_⟩;have := keys_len hr;simp [this]
    · rw [if_neg q,if_neg q];obtain ⟨a,b,c⟩ := putL_set hv (t := t) hr h.2;exact ⟨⟨⟨t',hk⟩,hh,a⟩,vrs_cons h.1 b,by simpa using c⟩
section
variable {W : Wd} {d : Dx} {cs : Scope} {l : Loc} {H : MH}
theorem LRel.set {P : Params} {fz : Fz} {m : Str→Option Value} {x : String} {v : V} {U : Value} (h : LRel P fz l m) (vr : VR P fz v U) : LRel P fz (lset l x v) fun y => if y = Str.ofString x then some U else m y := by
  intro y w hy;rw [lget_lset] at hy
  by_cases q : (x == y) = true
  · rw [if_pos q] at hy;have e : x = y := by simpa using q
    subst e
    cases hy
    exact ⟨U,if_pos rfl,vr⟩
  · rw [if_neg q] at hy;obtain ⟨U',a,b⟩ := h y w hy;refine ⟨U',?_,b⟩;show (if Str.ofString y = Str.ofString x then some U else m (Str.ofString y)) = _;rw [if_neg (fun z => q (by rw [ofString_inj z]; simp))];exact a
theorem LRel.mono {P : Params} {fz fz' : Fz} {m : Str→Option Value} (h : LRel P fz l m) (le : Le fz fz') : LRel P fz' l m := fun x v hx => let ⟨U,a,b⟩ := h x v hx; ⟨U,a,b.mono le⟩
theorem store_local {C : FC} {news : Led} {ow : Own} {s : Shared} {x : String} {v : V} {U : Value} {Qr : Unit→Shared→Prop} {E : Value→Shared→Prop} (hc : C.cs = cs) (ho : C.Ok W d) (hs : St W C l H news ow s)
    (vr : VRw W (fzS W news ow) v U) (hl : cs.names.lookup (Str.ofString x) = some .local) (hk : ∀ s',St W C (lset l x v) H news ow s'→s'.os = s.os→Qr () s') : wpAny (Md W) C.A (storeName C.env (Str.ofString x) U) Qr E s := by
  obtain ⟨m,F,lr⟩ := hs.fr;refine stN F hs.nw (fun h' F' N' => hk _ ⟨⟨_,F',lr.set vr⟩,N',hs.hr,hs.nd,hs.gens⟩ rfl) ho.fn ?_;subst hc; exact hl
theorem EX_assign {x : String} {np pos : Pos} {e : Expr} {Q : Fl→Loc→MH→Prop} (hl : cs.names.lookup (Str.ofString x) = some .local) (hsw : ∀ env,swapsWith e (some (.Name (Str.ofString x) np)) pos.line env = pure false)
    (h : EV W d cs e l H fun v H' => Q .next (lset l x v) H') : EX W d cs (.Assign [.Name (Str.ofString x) np] e pos) l H Q := by
  refine Box.mk ?_;intro C news ow s Qr E hc ho hs hk;refine wpAny_Assign_Name (h.go C news ow s _ E hc ho hs ?_) (hsw _);intro v U H₁ n₁ o₁ s₁ hs₁ le₁ os₁ vr₁ h₁;exact store_local hc ho hs₁ vr₁ hl fun s' hs' os' => hk .next .next _ H₁ n₁ o₁ s' hs' le₁ (os'.trans os₁) rfl h₁
structure SetAt (W : Wd) (C : Addr) (x : String) : Prop where
  seta : findIn W.K (.ref C) "__setattr__" = some (some (.builtin "object.__setattr__"))
  over : plainOver W.K C = true
  taker : takerIn W.K C (Str.ofString x) = some none
  dict : hasDictIn W.K C = true
theorem set_attr {C : FC} {news : Led} {ow : Own} {s : Shared} {a K : Addr} {ks : List String} {vs : List V} {x : String} {v : V} {U : Value} {Qr : Unit→Shared→Prop} {E : Value→Shared→Prop} (ho : C.Ok W d) (hs : St W C l H news ow s)
    (hH : H a = some (.inst K ks vs)) (hc : SetAt W K x) (hz : ks.length < 1000) (vr : VRw W (fzS W news ow) v U)
    (hk : ∀ news' s',St W C l (H.put a (.inst K (setF ks vs x v).1 (setF ks vs x v).2)) news' ow s'→Le (fzS W news ow) (fzS W news' ow)→s'.os = s.os→Qr () s') : wpAny (Md W) C.A (setAttr (.ref a) (Str.ofString x) U) Qr E s := by
  obtain ⟨m,F,lr⟩ := hs.fr;obtain ⟨h0,dx,n,Es,hw,h1,h2,hkeys,hvs⟩ := hs.hr a _ hH;have hl : (getL (Str.ofString x) Es).isSome = true := by
    cases q : getF ks vs x with
    | none => rw [getL_none hkeys hvs q]; rfl
    | some w => obtain ⟨U',e,_⟩ := getL_some hkeys hvs q; rw [e]; rfl
  obtain ⟨pk,pv,pl⟩ := putL_set (x := x) (t := s.toks + 1) vr hkeys hvs
  generalize hes : putL (Str.ofString x) (PyData.keyHash W.w.params (Str.ofString x)) (.str (Str.ofString x) (s.toks + 1)) U Es = Es' at pk pv pl
  generalize hn' : putN (Str.ofString x) Es n = n'
  obtain ⟨news',Up,mp,hin,hback,hon⟩ := upd_ex (o' := dictOf Es' n') hs.nd h2;have le : Le (fzS W news ow) (fzS W news' ow) := le_upd hw hon;have dne : dx ≠ a := fun z => by
    subst z;have := news_fun hs.nd h1 h2;have := congrArg Obj.cls this
    cases this
  refine set_dict F ho.kin hs.nw (InstAt.of_news hs.nw h1 h2) rfl hc.seta hc.over hc.taker hc.dict hl (by rw [hes,hn']) Up (by omega) fun h' F' N' => hk news' _ ⟨⟨m,F',lr.mono le⟩,N',?_,by rw [mp]; exact hs.nd,hs.gens⟩ le rfl;intro b o hb;unfold MH.put at hb
  by_cases e : b = a
  · subst e;rw [if_pos rfl] at hb
    cases hb
    exact ⟨h0,dx,n',Es',hw,hon _ h1 (Ne.symm dne),hin,pk,pv.mono le⟩
  · rw [if_neg e] at hb;exact MRel.upd le hw e hon (hs.hr b o hb)
end
end Mine
end
section
open PySem PySem.W PySem.Calls PyProof.Rows
namespace Mine
section
variable {W : Wd} {d : Dx} {cs : Scope} {l : Loc} {H : MH}
theorem EX_setattr {o e : Expr} {x : String} {ap pos : Pos} {Q : Fl→Loc→MH→Prop} (hsw : ∀ env,swapsWith e (some (.Attribute o (Str.ofString x) ap)) pos.line env = pure false)
    (h : EV W d cs e l H fun v H₁ => EV W d cs o l H₁ fun ov H₂ => ∃ a C ks vs,ov = .ref a∧H₂ a = some (.inst C ks vs)∧SetAt W C x∧ks.length < 1000∧Q .next l (H₂.put a (.inst C (setF ks vs x v).1 (setF ks vs x v).2))) :
    EX W d cs (.Assign [.Attribute o (Str.ofString x) ap] e pos) l H Q := by
  refine Box.mk ?_;intro C news ow s Qr E hc ho hs hk;refine plainObj_wpAny_Assign_Attribute (h.go C news ow s _ E hc ho hs ?_) (hsw _);intro v U H₁ n₁ o₁ s₁ hs₁ le₁ os₁ vr₁ h₁;refine h₁.go C n₁ o₁ s₁ _ E hc ho hs₁ ?_;intro ov U₂ H₂ n₂ o₂ s₂ hs₂ le₂ os₂ vr₂ h₂;obtain ⟨a,K,ks,vs,rfl,hH,hset,hz,hq⟩ := h₂;obtain rfl := of_vr_ref vr₂;exact set_attr ho hs₂ hH hset hz (vr₁.mono le₂) fun n₃ s₃ hs₃ le₃ os₃ => hk .next .next l _ n₃ o₂ s₃ hs₃ (Le.trans le₁ (Le.trans le₂ le₃)) (os₃.trans (os₂.trans os₁)) rfl hq
theorem EX_augattr {o e : Expr} {x : String} {ap pos : Pos} {op : Operator} {Q : Fl→Loc→MH→Prop}
    (h : EV W d cs o l H fun ov H₁ => ∃ a,ov = .ref a∧T1 W d cs l H₁ (.ref a) (fun U => getAttr U (Str.ofString x) true) fun old H₂ => EV W d cs e l H₂ fun v H₃ => T2 W d cs l H₃ old v (inplaceOp op) fun new H₄ =>
      ∃ C ks vs,H₄ a = some (.inst C ks vs)∧SetAt W C x∧ks.length < 1000∧Q .next l (H₄.put a (.inst C (setF ks vs x new).1 (setF ks vs x new).2))) :
    EX W d cs (.AugAssign (.Attribute o (Str.ofString x) ap) op e pos) l H Q := by
  refine Box.mk ?_;intro C news ow s Qr E hc ho hs hk;refine wpAny_AugAssign_AttributeAny (h.go C news ow s _ E hc ho hs ?_);intro v U H₁ n₁ o₁ s₁ hs₁ le₁ os₁ vr₁ h₁;obtain ⟨a,rfl,h₁⟩ := h₁;obtain rfl := of_vr_ref vr₁;refine h₁.go C n₁ o₁ s₁ _ E _ hc ho hs₁ vr_ref ?_;intro old U₂ H₂ n₂ o₂ s₂ hs₂ le₂ os₂ vr₂ h₂;refine h₂.go C n₂ o₂ s₂ _ E hc ho hs₂ ?_;intro v U₃ H₃ n₃ o₃ s₃ hs₃ le₃ os₃ vr₃ h₃;refine h₃.go C n₃ o₃ s₃ _ E _ _ hc ho hs₃ (vr₂.mono le₃) vr₃ ?_;intro new U₄ H₄ n₄ o₄ s₄ hs₄ le₄ os₄ vr₄ h₄;obtain ⟨K,ks,vs,hH,hset,hz,hq⟩ := h₄;exact set_attr ho hs₄ hH hset hz vr₄ fun n₅ s₅ hs₅ le₅ os₅ => hk .next .next l _ n₅ o₄ s₅ hs₅ (Le.trans le₁ (Le.trans le₂ (Le.trans le₃ (Le.trans le₄ le₅)))) (os₅.trans (os₄.trans (os₃.trans (os₂.trans os₁)))) rfl hq
theorem led_lt {C : FC} {news : Led} {ow : Own} {s : Shared} (hs : St W C l H news ow s) {p : Addr × Obj} (hp : p∈news) : p.1 < s.heap.objs.size := Heap.lt_size (hs.nw p hp).1
theorem MRel.own {P : Params} {fz fz' : Fz} {news news' : Led} {ow ow' : Own} {b : Addr} {o : MO} (le : Le fz fz') (sub : ∀ p∈news,p∈news') (oe : ∀ p∈news,ow' p.1 = ow p.1) (h : MRel P fz news ow b o) : MRel P fz' news' ow' b o := by
  cases o with
  | list vs =>
    obtain ⟨h0,n,Vs,h1,h2⟩ := h;exact ⟨(oe _ h1).trans h0,n,Vs,sub _ h1,h2.mono le⟩
  | inst C ks vs =>
    obtain ⟨h0,dy,n,Es,h1,h2,h3,h4,h5⟩ := h;exact ⟨(oe _ h2).trans h0,dy,n,Es,(oe _ h3).trans h1,sub _ h2,sub _ h3,h4,h5.mono le⟩
  | raw x => exact ⟨(oe _ h.2).trans h.1,sub _ h.2⟩
noncomputable def owPut (ow : Own) (a : Addr) (b : Option Addr) : Own := fun x => if x = a then b else ow x
theorem le_new {news : Led} {ow : Own} {n : Addr} {o : Obj} {b : Option Addr} (lt : ∀ p∈news,p.1 < n) : Le (fzS W news ow) (fzS W ((n,o) :: news) (owPut ow n b)) := by
  intro x y h
  rcases h with h | ⟨h,e⟩
  · exact .inl h
  · refine .inr ⟨.tail _ h,?_⟩;unfold owPut;rw [if_neg (Nat.ne_of_lt (lt _ h))]; exact e
theorem fresh_none {C : FC} {news : Led} {ow : Own} {s : Shared} (hs : St W C l H news ow s) {a : Addr} (ha : s.heap.objs.size ≤ a) : H a = none := by
  cases q : H a with
  | none => rfl
  | some o =>
    have := hs.hr a o q
    cases o with
    | list vs => obtain ⟨_,n,Vs,h1,_⟩ := this; exact absurd (led_lt hs h1) (Nat.not_lt.mpr ha)
    | inst K ks vs => obtain ⟨_,_,n,Vs,_,h1,_⟩ := this; exact absurd (led_lt hs h1) (Nat.not_lt.mpr ha)
    | raw x => exact absurd (led_lt hs this.2) (Nat.not_lt.mpr ha)
theorem St.push {C : FC} {news : Led} {ow : Own} {s : Shared} {h' : Heap} {o : Obj} {m : Str→Option Value} (hs : St W C l H news ow s) (lr : LRel W.w.params (fzOf W.B news ow) l m) (F' : Fr C.h₀ C.L h' m)
    (N' : News C.h₀ C.L h' ((s.heap.objs.size,o) :: news)) (b : Option Addr) : St W C l H ((s.heap.objs.size,o) :: news) (owPut ow s.heap.objs.size b) { s with heap := h' } := by
  have lt : ∀ p∈news,p.1 < s.heap.objs.size := fun p hp => led_lt hs hp;have le := le_new (W := W) (ow := ow) (o := o) (b := b) lt;refine ⟨⟨m,F',lr.mono le⟩,N',fun a x hx => MRel.own le (fun p hp => .tail _ hp) (fun p hp => by unfold owPut; rw [if_neg (Nat.ne_of_lt (lt p hp))]) (hs.hr a x hx),?_,hs.gens⟩;rw [List.map_cons,List.nodup_cons];refine ⟨fun z => ?_,hs.nd⟩;obtain ⟨p,hp,e⟩ := List.mem_map.mp z;exact absurd (lt p hp) (by rw [e]; exact Nat.lt_irrefl _)
theorem St.name {C : FC} {news : Led} {ow : Own} {s : Shared} {a : Addr} {o : MO} (hs : St W C l H news ow s) (h : MRel W.w.params (fzS W news ow) news ow a o) : St W C l (H.put a o) news ow s :=
  ⟨hs.fr,hs.nw,fun b x hb => by
    unfold MH.put at hb
    by_cases e : b = a
    · rw [if_pos e] at hb; cases hb; rw [e]; exact h
    · rw [if_neg e] at hb; exact hs.hr b x hb,hs.nd,hs.gens⟩
theorem EV_tuple {es : List Expr} {k : Nat} {pos : Pos} {Q : V→MH→Prop} (h : EA W d cs es l H fun vs H' => vs.length < 1000000∧Q (.tup vs) H') : EV W d cs (.Tuple es k pos) l H Q := by
  refine Box.mk ?_;intro C news ow s Qr E hc ho hs hk;refine Tuple_ (h.go C news ow s _ E pos hc ho hs ?_);intro vs Us H₁ n₁ o₁ s₁ hs₁ le₁ os₁ vr₁ h₁;obtain ⟨m,F,lr⟩ := hs₁.fr;have le := le_new (W := W) (ow := o₁) (o := tupO Us) (b := none) (fun p hp => led_lt hs₁ hp);refine newTuple_N F hs₁.nw (fun h' F' N' => ?_) (by rw [← VRs.length vr₁,sizeLine_eq]; omega);refine hk (.tup vs) _ H₁ _ (owPut o₁ s₁.heap.objs.size none) _ (hs₁.push lr F' N' none) (Le.trans le₁ le) os₁ ?_ h₁.2;unfold VRw VR;exact ⟨_,Us,rfl,.inr ⟨.head _,by unfold owPut; exact if_pos rfl⟩,vr₁.mono le⟩
theorem EV_listF {es : List Expr} {pos : Pos} {Q : V→MH→Prop} (h : EA W d cs es l H fun vs H' => vs.length < 1000000∧Q (.lst vs) H') : EV W d cs (.List es pos) l H Q := by
  refine Box.mk ?_;intro C news ow s Qr E hc ho hs hk;refine List_ (h.go C news ow s _ E pos hc ho hs ?_);intro vs Us H₁ n₁ o₁ s₁ hs₁ le₁ os₁ vr₁ h₁;obtain ⟨m,F,lr⟩ := hs₁.fr;have le := le_new (W := W) (ow := o₁) (o := listO Us 0) (b := none) (fun p hp => led_lt hs₁ hp);refine newList_N F hs₁.nw (fun h' F' N' => ?_) (by rw [← VRs.length vr₁,sizeLine_eq]; omega);refine hk (.lst vs) _ H₁ _ (owPut o₁ s₁.heap.objs.size none) _ (hs₁.push lr F' N' none) (Le.trans le₁ le) os₁ ?_ h₁.2;unfold VRw VR;exact ⟨_,0,Us,rfl,.inr ⟨.head _,by unfold owPut; exact if_pos rfl⟩,vr₁.mono le⟩
theorem EV_listM {es : List Expr} {pos : Pos} {Q : V→MH→Prop} (h : EA W d cs es l H fun vs H' => vs.length < 1000000∧∀ a,H' a = none→Q (.ref a) (H'.put a (.list vs))) : EV W d cs (.List es pos) l H Q := by
  refine Box.mk ?_;intro C news ow s Qr E hc ho hs hk;refine List_ (h.go C news ow s _ E pos hc ho hs ?_);intro vs Us H₁ n₁ o₁ s₁ hs₁ le₁ os₁ vr₁ h₁;obtain ⟨m,F,lr⟩ := hs₁.fr;have le := le_new (W := W) (ow := o₁) (o := listO Us 0) (b := some s₁.heap.objs.size) (fun p hp => led_lt hs₁ hp);refine newList_N F hs₁.nw (fun h' F' N' => ?_) (by rw [← VRs.length vr₁,sizeLine_eq]; omega);refine hk (.ref s₁.heap.objs.size) _ _ _ (owPut o₁ s₁.heap.objs.size (some s₁.heap.objs.size)) _ ((hs₁.push lr F' N' _).name ?_) (Le.trans le₁ le) os₁ vr_ref (h₁.2 _ (fresh_none hs₁ (Nat.le_refl _)));exact ⟨if_pos rfl,0,Us,.head _,vr₁.mono le⟩
theorem St.drop {C : FC} {news : Led} {ow : Own} {s : Shared} (a : Addr) (hs : St W C l H news ow s) : St W C l (H.drop a) news ow s :=
  ⟨hs.fr,hs.nw,fun b x hb => by
    unfold MH.drop at hb
    by_cases e : b = a
    · rw [if_pos e] at hb; cases hb
    · rw [if_neg e] at hb; exact hs.hr b x hb,hs.nd,hs.gens⟩
noncomputable def owFree (ow : Own) (a : Addr) : Own := fun x => if ow x = some a then none else ow x
theorem le_free {news : Led} {ow : Own} {a : Addr} : Le (fzS W news ow) (fzS W news (owFree ow a)) := by
  intro x y h
  rcases h with h | ⟨h,e⟩
  · exact .inl h
  · refine .inr ⟨h,?_⟩;unfold owFree
    by_cases q : ow x = some a
    · rw [if_pos q]
    · rw [if_neg q]; exact e
theorem MRel.free {P : Params} {fz fz' : Fz} {news : Led} {ow : Own} {a b : Addr} {o : MO} (le : Le fz fz') (ne : b ≠ a) (h : MRel P fz news ow b o) : MRel P fz' news (owFree ow a) b o := by
  have k : ∀ {x : Addr},ow x = some b→owFree ow a x = some b := fun hx => by
    unfold owFree;rw [if_neg (fun z => ne (Option.some.inj (hx.symm.trans z)))]; exact hx
  cases o with
  | list vs =>
    obtain ⟨h0,n,Vs,h1,h2⟩ := h;exact ⟨k h0,n,Vs,h1,h2.mono le⟩
  | inst C ks vs =>
    obtain ⟨h0,dy,n,Es,h1,h2,h3,h4,h5⟩ := h;exact ⟨k h0,dy,n,Es,k h1,h2,h3,h4,h5.mono le⟩
  | raw x => exact ⟨k h.1,h.2⟩
noncomputable def frozen : Addr→MO→V
  | _,.list vs => .lst vs
  | _,.inst C ks vs => .obj C ks vs
  | a,.raw _ => .ref a
theorem St.freeze {C : FC} {news : Led} {ow : Own} {s : Shared} {a : Addr} {o : MO} (hs : St W C l H news ow s) (ha : H a = some o) :
    St W C l (H.drop a) news (owFree ow a) s∧Le (fzS W news ow) (fzS W news (owFree ow a))∧VRw W (fzS W news (owFree ow a)) (frozen a o) (.ref a) := by
  have le := le_free (W := W) (news := news) (ow := ow) (a := a);obtain ⟨m,F,lr⟩ := hs.fr;refine ⟨⟨⟨m,F,lr.mono le⟩,hs.nw,fun b x hb => ?_,hs.nd,hs.gens⟩,le,?_⟩
  · unfold MH.drop at hb
    by_cases e : b = a
    · rw [if_pos e] at hb; cases hb
    · rw [if_neg e] at hb; exact MRel.free le e (hs.hr b x hb)
  · have h := hs.hr a o ha;have k : ∀ {x : Addr},ow x = some a→owFree ow a x = none := fun hx => by unfold owFree; rw [if_pos hx]
    cases o with
    | list vs =>
      obtain ⟨h0,n,Vs,h1,h2⟩ := h;unfold VRw frozen VR;exact ⟨a,n,Vs,rfl,.inr ⟨h1,k h0⟩,h2.mono le⟩
    | inst K ks vs =>
      obtain ⟨h0,dy,n,Es,h1,h2,h3,h4,h5⟩ := h;unfold VRw frozen VR;exact ⟨a,dy,n,Es,rfl,.inr ⟨h2,k h0⟩,.inr ⟨h3,k h1⟩,h4,h5.mono le⟩
    | raw x => exact vr_ref
theorem EXS_freeze {b : List Stmt} {x : String} {a : Addr} {o : MO} {Q : Fl→Loc→MH→Prop} (hx : lget l x = some (.ref a)) (ha : H a = some o)
    (h : EXS W d cs b (lset l x (frozen a o)) (H.drop a) Q) : EXS W d cs b l H Q := by
  refine Box.mk ?_;intro C news ow s Qr E hc ho hs hk;obtain ⟨hs',le,vr⟩ := hs.freeze ha;obtain ⟨m,F,lr⟩ := hs'.fr;refine h.go C news (owFree ow a) s Qr E hc ho ⟨⟨m,F,?_⟩,hs'.nw,hs'.hr,hs'.nd,hs'.gens⟩ ?_
  · intro y w hy;rw [lget_lset] at hy
    by_cases q : (x == y) = true
    · rw [if_pos q] at hy
      cases hy
      have e : x = y := by simpa using q
      subst e;obtain ⟨U,a1,a2⟩ := lr x _ hx;obtain rfl := of_vr_ref a2;exact ⟨_,a1,vr⟩
    · rw [if_neg q] at hy; exact lr y w hy
  · intro f F' l' H' n' o' s' a1 a2 a3 a4 a5;exact hk f F' l' H' n' o' s' a1 (Le.trans le a2) a3 a4 a5
theorem EV_freeze {e : Expr} {Q : V→MH→Prop} (h : EV W d cs e l H fun v H' => ∃ a o,v = .ref a∧H' a = some o∧Q (frozen a o) (H'.drop a)) : EV W d cs e l H Q := by
  refine Box.mk ?_;intro C news ow s Qr E hc ho hs hk;refine h.go C news ow s Qr E hc ho hs ?_;intro v U H' n' o' s' a b c dd q;obtain ⟨x,o,rfl,hx,hq⟩ := q;obtain ⟨hs',le,vr⟩ := a.freeze hx;obtain rfl := of_vr_ref dd;exact hk _ _ _ n' _ s' hs' (Le.trans b le) c vr hq
end
end Mine
end
section
open PySem PySem.W PySem.Calls PyProof.Rows
namespace Mine
section
variable {W : Wd} {d : Dx} {cs : Scope} {l : Loc} {H : MH}
structure ClsAtW (W : Wd) (C fI : Addr) : Prop where
  makes : makesIn W.K C = true
  init : findIn W.K (.ref C) "__init__" = some (some (.ref fI))
  fn : typeIn W.K (.ref fI) = some (.type "function")
theorem CV_new {K fI : Addr} {vs : List V} {Q : V→MH→Prop} (hc : ClsAtW W K fI)
    (h : ∀ x,H x = none→CL W d l (H.put x (.inst K [] [])) fI (.ref x :: vs) fun r H' => r = .none∧Q (.ref x) H') : CV W d cs l H (.ref K) vs Q := by
  refine Box.mk ?_;intro C news ow s Qr E Us hcs ho hs vr hk;obtain ⟨m,F,lr⟩ := hs.fr;refine wpAny_call (make_K F hs.nw (ho.kin.keeps F.keep) hc.makes hc.init hc.fn ?_);intro x dx h' F' N' lt dlt;have xlt : ∀ p∈news,p.1 ≠ dx∧p.1 ≠ x := fun p hp => ⟨Nat.ne_of_lt (lt p hp),Nat.ne_of_lt (Nat.lt_trans (lt p hp) dlt)⟩
  -- the new ledger
  have le : Le (fzS W news ow) (fzS W ((x,instObj K dx) :: (dx,emptyDict) :: news) (owPut (owPut ow dx (some x)) x (some x))) := by
    intro a o h
    rcases h with h | ⟨h,e⟩
    · exact .inl h
    · refine .inr ⟨.tail _ (.tail _ h),?_⟩;unfold owPut;rw [if_neg (xlt _ h).2,if_neg (xlt _ h).1]; exact e
  have hx : H x = none := by
    cases q : H x with
    | none => rfl
    | some o =>
      have := hs.hr x o q
      cases o with
      | list vs => obtain ⟨_,n,Vs,h1,_⟩ := this; exact absurd rfl (xlt _ h1).2
      | inst K ks vs => obtain ⟨_,_,n,Vs,_,h1,_⟩ := this; exact absurd rfl (xlt _ h1).2
      | raw z => exact absurd rfl (xlt _ this.2).2
  have hs' : St W C l (H.put x (.inst K [] [])) ((x,instObj K dx) :: (dx,emptyDict) :: news) (owPut (owPut ow dx (some x)) x (some x)) { s with heap := h' } := by
    refine ⟨⟨m,F',lr.mono le⟩,N',?_,?_,hs.gens⟩
    · intro b o hb;unfold MH.put at hb
      by_cases e : b = x
      · rw [if_pos e] at hb
        cases hb
        subst e;refine ⟨if_pos rfl,dx,0,[],?_,.head _,.tail _ (.head _),trivial,by unfold VRs; trivial⟩;unfold owPut;rw [if_neg (Nat.ne_of_lt dlt),if_pos rfl]
      · rw [if_neg e] at hb;exact MRel.own le (fun p hp => .tail _ (.tail _ hp)) (fun p hp => by unfold owPut; rw [if_neg (xlt p hp).2,if_neg (xlt p hp).1]) (hs.hr b o hb)
    · rw [List.map_cons,List.nodup_cons,List.map_cons,List.nodup_cons];refine ⟨fun z => ?_,fun z => ?_,hs.nd⟩
      · rcases List.mem_cons.mp z with z | z
        · exact absurd z (Nat.ne_of_gt dlt)
        · obtain ⟨p,hp,e⟩ := List.mem_map.mp z;exact absurd e (xlt p hp).2
      · obtain ⟨p,hp,e⟩ := List.mem_map.mp z;exact absurd e (xlt p hp).1
  refine (h x hx).go C _ _ _ _ _ (.ref x :: Us) ho hs' (vrs_cons vr_ref (VRs.mono le vr)) ?_ ?_ ?_ ?_ ?_
  · show C.A.depth + _ ≤ _;simp [Code.weight,Code.frames,Code.isFrame,Code.isCreation,Code.isGuard,Code.isCaller,guardIds]
  · show C.A.units + _ ≤ _;simp [Code.cUnits,Code.frames,Code.isFrame]
  · simp [Around.under,Code.envs,Code.isFrame,pushEnvs]
  · rfl
  · intro v U H' n' o' s' a b c dd q;obtain ⟨rfl,q⟩ := q;obtain rfl := of_vr_none dd;exact ⟨rfl,hk _ _ H' n' o' s' a (Le.trans le b) c vr_ref q⟩
end
end Mine
end
section
open PySem PySem.W PySem.Calls PyProof.Rows
namespace Mine
section
variable {W : Wd} {d : Dx} {cs : Scope} {l : Loc} {H : MH}
noncomputable abbrev ContB (W : Wd) (C : FC) (l : Loc) (fz : Fz) (os : OsState) (Q : Bool→MH→Prop) (Qr : Bool→Shared→Prop) : Prop :=
  ∀ b H' news' ow' s',St W C l H' news' ow' s'→Le fz (fzS W news' ow')→s'.os = os→Q b H'→Qr b s'
theorem Cont.le {C : FC} {fz fz' : Fz} {os os' : OsState} {Q : V→MH→Prop} {Qr : Value→Shared→Prop} (hk : Cont W C l fz os Q Qr) (le : Le fz fz') (e : os' = os) : Cont W C l fz' os' Q Qr :=
  fun v U H' n' o' s' a b c dd q => hk v U H' n' o' s' a (Le.trans le b) (c.trans e) dd q
theorem ContB.le {C : FC} {fz fz' : Fz} {os os' : OsState} {Q : Bool→MH→Prop} {Qr : Bool→Shared→Prop} (hk : ContB W C l fz os Q Qr) (le : Le fz fz') (e : os' = os) : ContB W C l fz' os' Q Qr :=
  fun v H' n' o' s' a b c q => hk v H' n' o' s' a (Le.trans le b) (c.trans e) q
theorem ET_val {e : Expr} {Q : Bool→MH→Prop} (he : ∀ env whole,isTrue e env whole = (do let v ← whole; standAt e.pos; holding [v] (truthy v)))
    (h : EV W d cs e l H fun v H' => ∃ b,v = .bool b∧Q b H') : ET W d cs e l H Q := by
  refine Box.mk ?_;intro C news ow s Qr E hc ho hs hk;refine isTrue_plain (h.go C news ow s _ E hc ho hs ?_) (he _ _);intro v U H' n' o' s' a b c dd q;obtain ⟨t,rfl,q⟩ := q;obtain rfl := of_vr_bool dd;exact wpAny_truthy_bool (hk t H' n' o' s' a b c q)
theorem ET_cmp {op : CmpOp} {e f : Expr} {pos : Pos} {Q : Bool→MH→Prop} (hm : behindInMarks op f = false)
    (h : EV W d cs e l H fun a H₁ => EV W d cs f l H₁ fun b H₂ => T2 W d cs l H₂ a b (compareOp op) fun c H₃ => ∃ t,c = .bool t∧Q t H₃) : ET W d cs (.Compare e [op] [f] pos) l H Q := by
  refine Box.mk ?_;intro C news ow s Qr E hc ho hs hk;refine wpAny_isTrue_Compare1 (h.go C news ow s _ E hc ho hs ?_) hm;intro a U₁ H₁ n₁ o₁ s₁ hs₁ le₁ os₁ vr₁ h₁;refine h₁.go C n₁ o₁ s₁ _ E hc ho hs₁ ?_;intro b U₂ H₂ n₂ o₂ s₂ hs₂ le₂ os₂ vr₂ h₂;refine h₂.go C n₂ o₂ s₂ _ E U₁ U₂ hc ho hs₂ (vr₁.mono le₂) vr₂ ?_;intro c U₃ H₃ n₃ o₃ s₃ hs₃ le₃ os₃ vr₃ h₃;obtain ⟨t,rfl,q⟩ := h₃;obtain rfl := of_vr_bool vr₃;exact wpAny_truthy_bool (hk t H₃ n₃ o₃ s₃ hs₃ (Le.trans le₁ (Le.trans le₂ le₃)) (os₃.trans (os₂.trans os₁)) q)
theorem EV_cmp2 {op op' : CmpOp} {e f g : Expr} {pos : Pos} {Q : V→MH→Prop} (hm : lastMarks [op,op'] [f,g] = false)
    (h : EV W d cs e l H fun a H₁ => EV W d cs f l H₁ fun b H₂ => T2 W d cs l H₂ a b (compareOp op) fun c H₃ => ∃ t,c = .bool t ∧
      if t then EV W d cs g l H₃ (fun b' H₄ => T2 W d cs l H₄ b b' (compareOp op') Q) else Q (.bool false) H₃) : EV W d cs (.Compare e [op,op'] [f,g] pos) l H Q := by
  refine Box.mk ?_;intro C news ow s Qr E hc ho hs hk;refine Compare_chain (ops := []) (rs := []) (h.go C news ow s _ E hc ho hs ?_) hm;intro a U₁ H₁ n₁ o₁ s₁ hs₁ le₁ os₁ vr₁ h₁;refine chain_link (h₁.go C n₁ o₁ s₁ _ E hc ho hs₁ ?_);intro b U₂ H₂ n₂ o₂ s₂ hs₂ le₂ os₂ vr₂ h₂;refine h₂.go C n₂ o₂ s₂ _ E U₁ U₂ hc ho hs₂ (vr₁.mono le₂) vr₂ ?_;intro c U₃ H₃ n₃ o₃ s₃ hs₃ le₃ os₃ vr₃ h₃;obtain ⟨t,rfl,q⟩ := h₃;obtain rfl := of_vr_bool vr₃;refine wpAny_truthy_bool ?_
  cases t with
  | false => exact hk _ _ H₃ n₃ o₃ s₃ hs₃ (Le.trans le₁ (Le.trans le₂ le₃)) (os₃.trans (os₂.trans os₁)) vr_bool q
  | true =>
    refine chain_last (q.go C n₃ o₃ s₃ _ E hc ho hs₃ ?_);intro b' U₄ H₄ n₄ o₄ s₄ hs₄ le₄ os₄ vr₄ h₄;exact h₄.go C n₄ o₄ s₄ _ E U₂ U₄ hc ho hs₄ (vr₂.mono (Le.trans le₃ le₄)) vr₄ (Cont.le hk (Le.trans le₁ (Le.trans le₂ (Le.trans le₃ le₄))) (os₄.trans (os₃.trans (os₂.trans os₁))))
theorem ET_not {e : Expr} {pos : Pos} {Q : Bool→MH→Prop} (h : ET W d cs e l H fun b H' => Q (!b) H') : ET W d cs (.UnaryOp .Not e pos) l H Q := by
  refine Box.mk ?_;intro C news ow s Qr E hc ho hs hk;refine isTrue_not (h.go C news ow s _ E hc ho hs ?_);intro b H' n' o' s' a b' c q;exact hk _ H' n' o' s' a b' c q
theorem ET_and_nil {pos : Pos} {Q : Bool→MH→Prop} (h : Q true H) : ET W d cs (.BoolOp .And [] pos) l H Q := by
  refine Box.mk ?_;intro C news ow s Qr E hc ho hs hk;exact isTrue_and_nil (hk true H news ow s hs (Le.refl _) rfl h)
theorem ET_or_nil {pos : Pos} {Q : Bool→MH→Prop} (h : Q false H) : ET W d cs (.BoolOp .Or [] pos) l H Q := by
  refine Box.mk ?_;intro C news ow s Qr E hc ho hs hk;exact isTrue_or_nil (hk false H news ow s hs (Le.refl _) rfl h)
theorem ET_and {e : Expr} {r : List Expr} {pos : Pos} {Q : Bool→MH→Prop} (h : ET W d cs e l H fun b H' => if b then ET W d cs (.BoolOp .And r pos) l H' Q else Q false H') : ET W d cs (.BoolOp .And (e :: r) pos) l H Q := by
  refine Box.mk ?_;intro C news ow s Qr E hc ho hs hk;refine isTrue_and (h.go C news ow s _ E hc ho hs ?_);intro b H' n' o' s' a le os q
  cases b with
  | false => exact hk false H' n' o' s' a le os q
  | true => exact q.go C n' o' s' Qr E hc ho a (ContB.le hk le os)
theorem ET_or {e : Expr} {r : List Expr} {pos : Pos} {Q : Bool→MH→Prop} (h : ET W d cs e l H fun b H' => if b then Q true H' else ET W d cs (.BoolOp .Or r pos) l H' Q) : ET W d cs (.BoolOp .Or (e :: r) pos) l H Q := by
  refine Box.mk ?_;intro C news ow s Qr E hc ho hs hk;refine isTrue_or (h.go C news ow s _ E hc ho hs ?_);intro b H' n' o' s' a le os q
  cases b with
  | true => exact hk true H' n' o' s' a le os q
  | false => exact q.go C n' o' s' Qr E hc ho a (ContB.le hk le os)
theorem EV_if {t e f : Expr} {pos : Pos} {Q : V→MH→Prop} (h : ET W d cs t l H fun b H' => if b then EV W d cs e l H' Q else EV W d cs f l H' Q) : EV W d cs (.IfExp t e f pos) l H Q := by
  refine Box.mk ?_;intro C news ow s Qr E hc ho hs hk;refine IfExp_ (h.go C news ow s _ E hc ho hs ?_);intro b H' n' o' s' a le os q
  cases b with
  | true => exact q.go C n' o' s' Qr E hc ho a (Cont.le hk le os)
  | false => exact q.go C n' o' s' Qr E hc ho a (Cont.le hk le os)
theorem EV_bone {op : BoolOp} {e : Expr} {pos : Pos} {Q : V→MH→Prop} (h : EV W d cs e l H Q) : EV W d cs (.BoolOp op [e] pos) l H Q := by
  refine Box.mk ?_;intro C news ow s Qr E hc ho hs hk;exact BoolOp_one (h.go C news ow s Qr E hc ho hs hk)
theorem EV_band {e f : Expr} {r : List Expr} {pos : Pos} {Q : V→MH→Prop} (h : EV W d cs e l H fun v H' => ∃ b,v = .bool b∧if b then EV W d cs (.BoolOp .And (f :: r) pos) l H' Q else Q (.bool false) H') : EV W d cs (.BoolOp .And (e :: f :: r) pos) l H Q := by
  refine Box.mk ?_;intro C news ow s Qr E hc ho hs hk;refine BoolOp_and (h.go C news ow s _ E hc ho hs ?_);intro v U H' n' o' s' a le os vr q;obtain ⟨b,rfl,q⟩ := q;obtain rfl := of_vr_bool vr;refine wpAny_truthy_bool ?_
  cases b with
  | true => exact q.go C n' o' s' Qr E hc ho a (Cont.le hk le os)
  | false => exact hk _ _ H' n' o' s' a le os vr_bool q
theorem EV_bor {e f : Expr} {r : List Expr} {pos : Pos} {Q : V→MH→Prop} (h : EV W d cs e l H fun v H' => ∃ b,v = .bool b∧if b then Q (.bool true) H' else EV W d cs (.BoolOp .Or (f :: r) pos) l H' Q) : EV W d cs (.BoolOp .Or (e :: f :: r) pos) l H Q := by
  refine Box.mk ?_;intro C news ow s Qr E hc ho hs hk;refine BoolOp_or (h.go C news ow s _ E hc ho hs ?_);intro v U H' n' o' s' a le os vr q;obtain ⟨b,rfl,q⟩ := q;obtain rfl := of_vr_bool vr;refine wpAny_truthy_bool ?_
  cases b with
  | false => exact q.go C n' o' s' Qr E hc ho a (Cont.le hk le os)
  | true => exact hk _ _ H' n' o' s' a le os vr_bool q
theorem EX_expr {e : Expr} {pos : Pos} {Q : Fl→Loc→MH→Prop} (hi : ∀ env : Env,env.scope.kind = .function→interactive env = false) (hs' : ∀ env,swapsWith e none pos.line env = pure false)
    (h : EV W d cs e l H fun v H' => Q .next l H') : EX W d cs (.Expr e pos) l H Q := by
  refine Box.mk ?_;intro C news ow s Qr E hc ho hs hk;refine wpAny_Expr_any (h.go C news ow s _ E hc ho hs ?_) (hi _ ho.fn) (hs' _);intro v U H' n' o' s' a le os vr q;exact hk .next .next l H' n' o' s' a le os rfl q
theorem EX_break {pos : Pos} {Q : Fl→Loc→MH→Prop} (h : Q .brk l H) : EX W d cs (.Break pos) l H Q := by
  refine Box.mk ?_;intro C news ow s Qr E hc ho hs hk;show wpAny _ _ (do standAt pos; pure Flow.brk) _ _ _;exact wpAny_bind (wpAny_standAt (wpAny_pure (hk .brk .brk l H news ow s hs (Le.refl _) rfl rfl h)))
theorem EX_continue {pos : Pos} {Q : Fl→Loc→MH→Prop} (h : Q .cont l H) : EX W d cs (.Continue pos) l H Q := by
  refine Box.mk ?_;intro C news ow s Qr E hc ho hs hk;show wpAny _ _ (do standAt pos; pure Flow.cont) _ _ _;exact wpAny_bind (wpAny_standAt (wpAny_pure (hk .cont .cont l H news ow s hs (Le.refl _) rfl rfl h)))
end
end Mine
end
section
open PySem PySem.W PySem.Calls PyProof.Rows
namespace Mine
section
variable {W : Wd} {d : Dx} {cs : Scope} {l : Loc} {H : MH} {i j : Int} {Q : V→MH→Prop}
theorem T2_ints {t : Value→Value→Sem Value} {r : V} (h : ∀ (A : Around) (E : Value→Shared→Prop) (s : Shared) (a b : Nat) (Qr : Value→Shared→Prop),(∀ U k,VR W.w.params (fun _ _ => False) r U→Qr U { s with toks := k })→wpAny (Md W) A (t (.int i a) (.int j b)) Qr E s) (hq : Q r H) :
    T2 W d cs l H (.int i) (.int j) t Q := by
  refine Box.mk ?_;intro C news ow s Qr E U U' hc ho hs v1 v2 hk;obtain ⟨a,rfl⟩ := of_vr_int v1;obtain ⟨b,rfl⟩ := of_vr_int v2;exact h _ _ _ _ _ _ fun U k hU => hk r U H news ow _ hs.toks (Le.refl _) rfl (VR.mono (fun _ _ z => z.elim) hU) hq
theorem T2_sub_int (hq : Q (.int (i - j)) H) : T2 W d cs l H (.int i) (.int j) (binaryOp .Sub) Q := T2_ints (fun _ _ _ _ _ _ h => sub_int (h _ _ vr_int)) hq
theorem T2_iadd_int (hq : Q (.int (i + j)) H) : T2 W d cs l H (.int i) (.int j) (inplaceOp .Add) Q := T2_ints (fun _ _ _ _ _ _ h => iadd_int (h _ _ vr_int)) hq
theorem T2_isub_int (hq : Q (.int (i - j)) H) : T2 W d cs l H (.int i) (.int j) (inplaceOp .Sub) Q := T2_ints (fun _ _ _ _ _ _ h => P.isub_int (h _ _ vr_int)) hq
theorem T2_mod_int (hb : j ≠ 0) (hq : Q (.int (i.fmod j)) H) : T2 W d cs l H (.int i) (.int j) (binaryOp .Mod) Q := T2_ints (fun _ _ _ _ _ _ h => mod_int hb (h _ _ vr_int)) hq
theorem T2_mul_int (hm : PySem.IntMulOk i j) (hq : Q (.int (i * j)) H) : T2 W d cs l H (.int i) (.int j) (binaryOp .Mult) Q := T2_ints (fun _ _ _ _ _ _ h => P.mul_int (h _ _ vr_int) hm) hq
theorem T2_fdiv_int (hb : j ≠ 0) (hp : Builtin.divisionGoesByPylong i j = false) (hq : Q (.int (i.fdiv j)) H) : T2 W d cs l H (.int i) (.int j) (binaryOp .FloorDiv) Q := T2_ints (fun _ _ _ _ _ _ h => floordiv_int hb (h _ _ vr_int) (.inl hp)) hq
theorem T2_lt_int (hq : Q (.bool (decide (i < j))) H) : T2 W d cs l H (.int i) (.int j) (compareOp .Lt) Q := T2_ints (fun _ _ s _ _ _ h => lt_int (h _ s.toks vr_bool)) hq
theorem T2_le_int (hq : Q (.bool (decide (i ≤ j))) H) : T2 W d cs l H (.int i) (.int j) (compareOp .LtE) Q := T2_ints (fun _ _ s _ _ _ h => P.le_int (h _ s.toks vr_bool)) hq
theorem T2_gt_int (hq : Q (.bool (decide (j < i))) H) : T2 W d cs l H (.int i) (.int j) (compareOp .Gt) Q := T2_ints (fun _ _ s _ _ _ h => gt_int (h _ s.toks vr_bool)) hq
theorem T2_ge_int (hq : Q (.bool (decide (j ≤ i))) H) : T2 W d cs l H (.int i) (.int j) (compareOp .GtE) Q := T2_ints (fun _ _ s _ _ _ h => P.ge_int (h _ s.toks vr_bool)) hq
theorem T2_eq_int (hq : Q (.bool (i == j)) H) : T2 W d cs l H (.int i) (.int j) (compareOp .Eq) Q := T2_ints (fun _ _ s _ _ _ h => eq_int (h _ s.toks vr_bool)) hq
theorem EV_neg {k : Nat} {p pos : Pos} (hq : Q (.int (-i)) H) : EV W d cs (.UnaryOp .USub (.Constant (.int i) k p) pos) l H Q := by
  refine Box.mk ?_;intro C news ow s Qr E hc ho hs hk;exact UnaryOp_ (wpAny_Constant_int (P.neg_int (hk _ _ H news ow _ hs.toks (Le.refl _) rfl vr_int hq)))
theorem T2_strs {x y : Str} {t : Value→Value→Sem Value} {r : V} (h : ∀ (A : Around) (E : Value→Shared→Prop) (s : Shared) (a b : Nat) (Qr : Value→Shared→Prop),(∀ U k,VR W.w.params (fun _ _ => False) r U→Qr U { s with toks := k })→wpAny (Md W) A (t (.str x a) (.str y b)) Qr E s) (hq : Q r H) :
    T2 W d cs l H (.str x) (.str y) t Q := by
  refine Box.mk ?_;intro C news ow s Qr E U U' hc ho hs v1 v2 hk;obtain ⟨a,rfl⟩ := of_vr_str v1;obtain ⟨b,rfl⟩ := of_vr_str v2;exact h _ _ _ _ _ _ fun U k hU => hk r U H news ow _ hs.toks (Le.refl _) rfl (VR.mono (fun _ _ z => z.elim) hU) hq
theorem str_eq_iff {x y : Str} : (x.cps.toList == y.cps.toList) = decide (x = y) := by
  rw [Bool.eq_iff_iff,beq_iff_eq,decide_eq_true_iff]
  constructor
  · intro h; cases x; cases y; simp only [Str.mk.injEq]; exact Array.toList_inj.mp h
  · rintro rfl; rfl
theorem T2_eq_str {x y : Str} (hq : Q (.bool (decide (x = y))) H) : T2 W d cs l H (.str x) (.str y) (compareOp .Eq) Q := T2_strs (fun _ _ s _ _ _ h => P.eq_str (by rw [str_eq_iff]; exact h _ s.toks vr_bool)) hq
theorem T2_ne_str {x y : Str} (hq : Q (.bool (!decide (x = y))) H) : T2 W d cs l H (.str x) (.str y) (compareOp .NotEq) Q := T2_strs (fun _ _ s _ _ _ h => P.ne_str (by rw [bne,str_eq_iff]; exact h _ s.toks vr_bool)) hq
noncomputable def isNoneV : V→Bool
  | .none => true
  | _ => false
theorem vr_isNone {P : Params} {fz : Fz} {v : V} {U : Value} (h : VR P fz v U) : (U == .none) = isNoneV v := by
  cases v <;> unfold VR at h
  case none => subst h; rfl
  case bool => subst h; rfl
  case int => obtain ⟨t,rfl⟩ := h; rfl
  case str => obtain ⟨t,rfl⟩ := h; rfl
  case ref => subst h; rfl
  case bi => subst h; rfl
  case ty => subst h; rfl
  case lst => obtain ⟨_,_,_,rfl,_⟩ := h; rfl
  case tup => obtain ⟨_,_,rfl,_⟩ := h; rfl
  case dct => obtain ⟨_,_,_,rfl,_⟩ := h; rfl
  case obj => obtain ⟨_,_,_,_,rfl,_⟩ := h; rfl
theorem T2_is_none {v : V} (hq : Q (.bool (isNoneV v)) H) : T2 W d cs l H v .none (compareOp .Is) Q := by
  refine Box.mk ?_;intro C news ow s Qr E U U' hc ho hs v1 v2 hk;obtain rfl := of_vr_none v2;exact is_none_gen (by rw [vr_isNone v1]; exact hk _ _ H news ow s hs (Le.refl _) rfl vr_bool hq)
theorem T2_isnot_none {v : V} (hq : Q (.bool (!isNoneV v)) H) : T2 W d cs l H v .none (compareOp .IsNot) Q := by
  refine Box.mk ?_;intro C news ow s Qr E U U' hc ho hs v1 v2 hk;obtain rfl := of_vr_none v2;exact isnot_none_gen (by rw [vr_isNone v1]; exact hk _ _ H news ow s hs (Le.refl _) rfl vr_bool hq)
end
end Mine
end
section
open PySem PySem.W PySem.Calls PyProof.Rows
namespace Mine
section
variable {W : Wd} {d : Dx} {cs : Scope} {l : Loc} {H : MH}
theorem EV_sub {e f : Expr} {pos : Pos} {Q : V→MH→Prop}
    (h : EV W d cs e l H fun a H₁ => EV W d cs f l H₁ fun b H₂ => T2 W d cs l H₂ a b (subscriptTail e f) Q) : EV W d cs (.Subscript e f pos) l H Q := by
  refine Box.mk ?_;intro C news ow s Qr E hc ho hs hk;refine Subscript_ (h.go C news ow s _ E hc ho hs ?_);intro a U₁ H₁ n₁ o₁ s₁ hs₁ le₁ os₁ vr₁ h₁;refine h₁.go C n₁ o₁ s₁ _ E hc ho hs₁ ?_;intro b U₂ H₂ n₂ o₂ s₂ hs₂ le₂ os₂ vr₂ h₂;exact h₂.go C n₂ o₂ s₂ Qr E U₁ U₂ hc ho hs₂ (vr₁.mono le₂) vr₂ fun v U H' n' o' s' a b c d q => hk v U H' n' o' s' a (Le.trans le₁ (Le.trans le₂ b)) (c.trans (os₂.trans os₁)) d q
noncomputable def plainS : Expr→Bool
  | .Slice _ _ _ _ => false
  | _ => true
theorem subscripted_plain {f : Expr} {o i : Value} (h : plainS f = true) : subscripted f false o i = operate [o,i] (getItem o i) := by
  cases f <;> first | rfl | cases h
theorem T2_item_str {e f : Expr} {x : Str} {i : Int} {c : Nat} {Q : V→MH→Prop} (hp : plainS f = true) (h0 : 0 ≤ i) (h1 : i < 2 ^ 60) (hx : x.cps[i.toNat]? = some c) (hq : Q (.str ⟨#[c]⟩) H) :
    T2 W d cs l H (.str x) (.int i) (subscriptTail e f) Q := by
  refine Box.mk ?_;intro C news ow s Qr E U U' hc ho hs v1 v2 hk;obtain ⟨a,rfl⟩ := of_vr_str v1;obtain ⟨b,rfl⟩ := of_vr_int v2;have hlt : i.toNat < x.cps.size := by
    rcases Nat.lt_or_ge i.toNat x.cps.size with z | z
    · exact z
    · rw [Array.getElem?_eq_none z] at hx; cases hx
  refine tail_any (typeIs_str s x a) slot_str_getitem.lookup (P.getItem_str (c := c) ?_ ?_ ?_) (subscripted_plain hp)
  · have : ¬ i < -(2 ^ 63 : Int) := by omega
    have h2 : ¬ i ≥ 2 ^ 63 := by omega
    rw [decide_eq_false this,decide_eq_false h2]; rfl
  · rw [seqIndex_of h0 (by show i < ((x.cps.size : Nat) : Int); omega)];exact hx
  · exact hk _ _ H news ow _ hs.toks (Le.refl _) rfl vr_str hq
theorem of_vr_tup {P : Params} {fz : Fz} {vs : List V} {U : Value} (h : VR P fz (.tup vs) U) : ∃ a Vs,U = .ref a∧fz a (tupO Vs)∧VRs P fz vs Vs := by unfold VR at h; exact h
theorem of_vr_lst {P : Params} {fz : Fz} {vs : List V} {U : Value} (h : VR P fz (.lst vs) U) : ∃ a n Vs,U = .ref a∧fz a (listO Vs n)∧VRs P fz vs Vs := by unfold VR at h; exact h
theorem of_vr_dct {P : Params} {fz : Fz} {ks : List String} {vs : List V} {U : Value} (h : VR P fz (.dct ks vs) U) : ∃ a n Es,U = .ref a∧(a == sysModules) = false∧fz a (dictOf Es n)∧Keys P ks Es∧VRs P fz vs (Es.map (·.val)) := by unfold VR at h; exact h
theorem of_vr_obj {P : Params} {fz : Fz} {K : Addr} {ks : List String} {vs : List V} {U : Value} (h : VR P fz (.obj K ks vs) U) : ∃ x dx n Es,U = .ref x∧fz x (instObj K dx)∧fz dx (dictOf Es n)∧Keys P ks Es∧VRs P fz vs (Es.map (·.val)) := by unfold VR at h; exact h
theorem T2_item_tup {e f : Expr} {vs : List V} {i : Int} {v : V} {Q : V→MH→Prop} (hp : plainS f = true) (h0 : 0 ≤ i) (h1 : i < 2 ^ 60) (hx : vs[i.toNat]? = some v) (hq : Q v H) :
    T2 W d cs l H (.tup vs) (.int i) (subscriptTail e f) Q := by
  refine Box.mk ?_;intro C news ow s Qr E U U' hc ho hs v1 v2 hk;obtain ⟨a,Vs,rfl,fa,vr⟩ := of_vr_tup v1;obtain ⟨b,rfl⟩ := of_vr_int v2;obtain ⟨U,hU,vU⟩ := vr.get hx;have hlt : i.toNat < Vs.length := by
    rcases Nat.lt_or_ge i.toNat Vs.length with z | z
    · exact z
    · rw [List.getElem?_eq_none z] at hU; cases hU
  exact item_tupleT ⟨_,fz_at ho hs fa,rfl,0,rfl⟩ (by omega) (by omega) (seqIndex_of h0 (by omega)) hU (hk _ _ H news ow _ hs (Le.refl _) rfl vU hq) (subscripted_plain hp)
theorem T2_item_lst {e f : Expr} {vs : List V} {i : Int} {v : V} {Q : V→MH→Prop} (hp : plainS f = true) (h0 : 0 ≤ i) (h1 : i < 2 ^ 60) (hx : vs[i.toNat]? = some v) (hq : Q v H) :
    T2 W d cs l H (.lst vs) (.int i) (subscriptTail e f) Q := by
  refine Box.mk ?_;intro C news ow s Qr E U U' hc ho hs v1 v2 hk;obtain ⟨a,n,Vs,rfl,fa,vr⟩ := of_vr_lst v1;obtain ⟨b,rfl⟩ := of_vr_int v2;obtain ⟨U,hU,vU⟩ := vr.get hx;have hl : s.heap.IsList a Vs.toArray := ⟨_,fz_at ho hs fa,rfl,n,rfl⟩;exact tail_any hl.typeIs slot_list_getitem.lookup (wpAny_getItem_list hl h0 (by omega) (by simpa using hU) (hk _ _ H news ow _ hs (Le.refl _) rfl vU hq)) (subscripted_plain hp)
theorem T2_item_list {e f : Expr} {a : Addr} {vs : List V} {i : Int} {v : V} {Q : V→MH→Prop} (hp : plainS f = true) (hH : H a = some (.list vs)) (h0 : 0 ≤ i) (h1 : i < 2 ^ 60) (hx : vs[i.toNat]? = some v) (hq : Q v H) :
    T2 W d cs l H (.ref a) (.int i) (subscriptTail e f) Q := by
  refine Box.mk ?_;intro C news ow s Qr E U U' hc ho hs v1 v2 hk;obtain rfl := of_vr_ref v1;obtain ⟨b,rfl⟩ := of_vr_int v2;obtain ⟨ho',n,Vs,hm,vr⟩ := hs.hr a _ hH;obtain ⟨U,hU,vU⟩ := vr.get hx;have hl : s.heap.IsList a Vs.toArray := ⟨_,(hs.nw _ hm).1,rfl,n,rfl⟩;exact tail_any hl.typeIs slot_list_getitem.lookup (wpAny_getItem_list hl h0 (by omega) (by simpa using hU) (hk _ _ H news ow _ hs (Le.refl _) rfl vU hq)) (subscripted_plain hp)
theorem EV_slice_ss {e lo hi : Expr} {pos sp : Pos} {Q : V→MH→Prop}
    (h : EV W d cs e l H fun a H₁ => EV W d cs lo l H₁ fun b H₂ => EV W d cs hi l H₂ fun c H₃ => ∃ x i j,a = .str x∧b = .int i∧c = .int j∧x.length ≤ sizeLine∧Q (.str (Txt.slice x (some i) (some j))) H₃) :
    EV W d cs (.Subscript e (.Slice (some lo) (some hi) none sp) pos) l H Q := by
  refine Box.mk ?_;intro C news ow s Qr E hc ho hs hk;refine Subscript_ (h.go C news ow s _ E hc ho hs ?_);intro a U₁ H₁ n₁ o₁ s₁ hs₁ le₁ os₁ vr₁ h₁;refine wpAny_Slice ?_;refine h₁.go C n₁ o₁ s₁ _ E hc ho hs₁ ?_;intro b U₂ H₂ n₂ o₂ s₂ hs₂ le₂ os₂ vr₂ h₂;refine h₂.go C n₂ o₂ s₂ _ E hc ho hs₂ ?_;intro c U₃ H₃ n₃ o₃ s₃ hs₃ le₃ os₃ vr₃ h₃;obtain ⟨x,i,j,rfl,rfl,rfl,hsz,hq⟩ := h₃;obtain ⟨t,rfl⟩ := of_vr_str vr₁;obtain ⟨t₂,rfl⟩ := of_vr_int vr₂;obtain ⟨t₃,rfl⟩ := of_vr_int vr₃;obtain ⟨m,F,lr⟩ := hs₃.fr;have it := SBH.sliceItem_ss (prog := W.prog) (w := W.w) (A := C.A) (E := E) (t := t) (ui := t₂) (uj := t₃) (Q := Qr) keptFrN (⟨F,hs₃.nw⟩ : Fr C.h₀ C.L s₃.heap m∧News C.h₀ C.L s₃.heap n₃) (fun h' t' k z => hk (.str (Txt.slice x (some i) (some j))) (.str (Txt.slice x (some i) (some j)) t') H₃ n₃ o₃ { s₃ with heap := h',toks := k } ⟨⟨m,z.1,lr⟩,z.2,hs₃.hr,hs₃.nd,hs₃.gens⟩ (Le.trans le₁ (Le.trans le₂ le₃)) (os₃.trans (os₂.trans os₁)) vr_str hq) hsz;obtain ⟨T,id,hl,hT,hg⟩ := it;exact wpAny_pure (tail_any hT hl hg rfl)
end
end Mine
end
section
open PySem PySem.W PySem.Calls PyProof.Rows
namespace Mine
section
variable {W : Wd} {d : Dx} {cs : Scope} {l : Loc} {H : MH}
theorem callWith_bi {C : FC} {id : String} {news : Led} {ow : Own} {s : Shared} {first : List V} {Fs : List Value} {es : List Expr} {pos : Pos} {Q : V→MH→Prop} {Qr : Value→Shared→Prop} {E : Value→Shared→Prop}
    (hc : C.cs = cs) (ho : C.Ok W d) (hs : St W C l H news ow s) (hp : es.all plainE = true) (vf : VRsw W (fzS W news ow) first Fs)
    (h : EA W d cs es l H fun vs H₁ => CV W d cs l H₁ (.builtin id) (first ++ vs) Q) (hk : Cont W C l (fzS W news ow) s.os Q Qr) :
    wpAny (Md W) C.A (callWith pos (.builtin id) Fs (backTo pos (starEach es C.env)) []) Qr E s := by
  have main : ∀ pos,wpAny (Md W) C.A (spliced (backTo pos (starEach es C.env))) (fun vs s₁ => wpAny (Md W) C.A (call (.builtin id) (Fs ++ vs)) Qr E s₁) E s := by
    intro pos;refine h.go C news ow s _ E pos hc ho hs ?_;intro vs Us H₁ n₁ o₁ s₁ hs₁ le₁ os₁ vr₁ h₁;exact h₁.go C n₁ o₁ s₁ Qr E _ hc ho hs₁ ((VRs.mono le₁ vf).append vr₁) fun v U H' n' o' s' a b c d q => hk v U H' n' o' s' a (Le.trans le₁ b) (c.trans os₁) d q
  cases es with
  | nil =>
    refine callWith_builtin (args := []) rfl ?_;have : wpAny (Md W) C.A (spliced []) (fun vs s₁ => wpAny (Md W) C.A (call (.builtin id) (Fs ++ vs)) Qr E s₁) E s := main pos;refine evalArgs_nil3 ?_;intro Γ p hΓ;have z := this Γ p hΓ;unfold spliced at z;exact z Γ p hΓ
  | cons e r =>
    obtain ⟨a,b⟩ := Bool.and_eq_true_iff.mp (List.all_cons ▸ hp);exact callWith_method1 (main pos) (starEach_plain a) (starEach_any b)
theorem callWith_ty {C : FC} {T : String} {news : Led} {ow : Own} {s : Shared} {e : Expr} {es : List Expr} {pos : Pos} {Q : V→MH→Prop} {Qr : Value→Shared→Prop} {E : Value→Shared→Prop}
    (hc : C.cs = cs) (ho : C.Ok W d) (hs : St W C l H news ow s) (hp : (e :: es).all plainE = true)
    (h : EA W d cs (e :: es) l H fun vs H₁ => CV W d cs l H₁ (.type T) vs Q) (hk : Cont W C l (fzS W news ow) s.os Q Qr) :
    wpAny (Md W) C.A (callWith pos (.type T) [] (backTo pos (starEach (e :: es) C.env)) []) Qr E s := by
  obtain ⟨a,b⟩ := Bool.and_eq_true_iff.mp (List.all_cons ▸ hp);refine PyProof.Rows.callWith_type1 ?_ (starEach_plain a) (starEach_any b);refine h.go C news ow s _ E pos hc ho hs ?_;intro vs Us H₁ n₁ o₁ s₁ hs₁ le₁ os₁ vr₁ h₁;exact h₁.go C n₁ o₁ s₁ Qr E _ hc ho hs₁ vr₁ fun v U H' n' o' s' a b c d q => hk v U H' n' o' s' a (Le.trans le₁ b) (c.trans os₁) d q
structure BiName (W : Wd) (cs : Scope) (x : Str) (v : Value) : Prop where
  kind : cs.names.lookup x = some .globalImplicit
  miss : W.mg x = none
  at' : W.mb x = some v
  ok : (x == ("__debug__" : Str)) = false
theorem EV_callb {x : Str} {np pos : Pos} {id : String} {es : List Expr} {Q : V→MH→Prop} (hn : BiName W cs x (.builtin id)) (hp : es.all plainE = true)
    (h : EA W d cs es l H fun vs H₁ => CV W d cs l H₁ (.builtin id) vs Q) : EV W d cs (.Call (.Name x np) es [] pos) l H Q := by
  refine Box.mk ?_;intro C news ow s Qr E hc ho hs hk;obtain ⟨m,F,lr⟩ := hs.fr;refine Call_ ?_ (by rfl);refine ld_builtin_at F ho.top.g hn.miss ho.top.b hn.at' ?_ ho.fn (by subst hc; exact hn.kind) hn.ok;exact callWith_bi (first := []) hc ho hs hp vrs_nil h hk
theorem EV_callt {x : Str} {np pos : Pos} {T : String} {e : Expr} {es : List Expr} {Q : V→MH→Prop} (hn : BiName W cs x (.type T)) (hp : (e :: es).all plainE = true)
    (h : EA W d cs (e :: es) l H fun vs H₁ => CV W d cs l H₁ (.type T) vs Q) : EV W d cs (.Call (.Name x np) (e :: es) [] pos) l H Q := by
  refine Box.mk ?_;intro C news ow s Qr E hc ho hs hk;obtain ⟨m,F,lr⟩ := hs.fr;refine Call_ ?_ (by rfl);refine ld_builtin_at F ho.top.g hn.miss ho.top.b hn.at' ?_ ho.fn (by subst hc; exact hn.kind) hn.ok;exact callWith_ty hc ho hs hp h hk
theorem EV_bname {x : Str} {np : Pos} {T : String} {Q : V→MH→Prop} (hn : BiName W cs x (.type T)) (hq : Q (.ty T) H) : EV W d cs (.Name x np) l H Q := by
  refine Box.mk ?_;intro C news ow s Qr E hc ho hs hk;obtain ⟨m,F,lr⟩ := hs.fr;exact ld_builtin_at F ho.top.g hn.miss ho.top.b hn.at' (hk (.ty T) (.type T) H news ow s hs (Le.refl _) rfl (by unfold VRw VR; rfl) hq) ho.fn (by subst hc; exact hn.kind) hn.ok
theorem EV_glob {x : Str} {np : Pos} {v : V} {U : Value} {Q : V→MH→Prop} (hl : cs.names.lookup x = some .globalImplicit) (hg : W.mg x = some U) (hd : (x == ("__debug__" : Str)) = false)
    (hv : VR W.w.params (fun a o => W.K.lookup a = some o) v U) (hq : Q v H) : EV W d cs (.Name x np) l H Q := by
  refine Box.mk ?_;intro C news ow s Qr E hc ho hs hk;obtain ⟨m,F,lr⟩ := hs.fr;exact ld_global_at F ho.top.g hg (hk v U H news ow s hs (Le.refl _) rfl (VR.mono (fun _ _ z => .inl (.inl z)) hv) hq) ho.fn (by subst hc; exact hl) hd
theorem vrs_one {P : Params} {fz : Fz} {v : V} {Us : List Value} (h : VRs P fz [v] Us) : ∃ U,Us = [U]∧VR P fz v U := by
  cases Us with
  | nil => exact h.elim
  | cons U r => cases r with
    | nil => exact ⟨U,rfl,h.1⟩
    | cons _ _ => exact h.2.elim
theorem vrs_two {P : Params} {fz : Fz} {v v' : V} {Us : List Value} (h : VRs P fz [v,v'] Us) : ∃ U U',Us = [U,U']∧VR P fz v U∧VR P fz v' U' := by
  cases Us with
  | nil => exact h.elim
  | cons U r =>
    obtain ⟨U',rfl,h'⟩ := vrs_one (v := v') h.2;exact ⟨U,U',rfl,h.1,h'⟩
theorem vrs_three {P : Params} {fz : Fz} {v v' v'' : V} {Us : List Value} (h : VRs P fz [v,v',v''] Us) : ∃ U U' U'',Us = [U,U',U'']∧VR P fz v U∧VR P fz v' U'∧VR P fz v'' U'' := by
  cases Us with
  | nil => exact h.elim
  | cons U r =>
    obtain ⟨U',U'',rfl,h',h''⟩ := vrs_two (v := v') h.2;exact ⟨U,U',U'',rfl,h.1,h',h''⟩
theorem CV_len_str {x : Str} {Q : V→MH→Prop} (hz : x.length < 2 ^ 60) (hq : Q (.int (x.length : Int)) H) : CV W d cs l H (.builtin "len") [.str x] Q := by
  refine Box.mk ?_;intro C news ow s Qr E Us hc ho hs vr hk;obtain ⟨U,rfl,v1⟩ := vrs_one vr;obtain ⟨t,rfl⟩ := of_vr_str v1;exact PySem.P.len_str (by omega) (hk _ _ H news ow _ hs.toks (Le.refl _) rfl vr_int hq)
theorem CV_len_list {a : Addr} {vs : List V} {Q : V→MH→Prop} (hH : H a = some (.list vs)) (hz : vs.length < 2 ^ 60) (hq : Q (.int (vs.length : Int)) H) : CV W d cs l H (.builtin "len") [.ref a] Q := by
  refine Box.mk ?_;intro C news ow s Qr E Us hc ho hs vr hk;obtain ⟨U,rfl,v1⟩ := vrs_one vr;obtain rfl := of_vr_ref v1;obtain ⟨ho',n,Vs,hm,vr⟩ := hs.hr a _ hH;have hl : s.heap.IsList a Vs.toArray := ⟨_,(hs.nw _ hm).1,rfl,n,rfl⟩;have e : Vs.toArray.size = vs.length := by simp [VRs.length vr]
  exact len_list hl (by rw [e]; omega) (by rw [e]; exact hk _ _ H news ow _ hs.toks (Le.refl _) rfl vr_int hq)
theorem CV_len_lst {vs : List V} {Q : V→MH→Prop} (hz : vs.length < 2 ^ 60) (hq : Q (.int (vs.length : Int)) H) : CV W d cs l H (.builtin "len") [.lst vs] Q := by
  refine Box.mk ?_;intro C news ow s Qr E Us hc ho hs vr hk;obtain ⟨U,rfl,v1⟩ := vrs_one vr;obtain ⟨a,n,Vs,rfl,fa,vr⟩ := of_vr_lst v1;have hl : s.heap.IsList a Vs.toArray := ⟨_,fz_at ho hs fa,rfl,n,rfl⟩;have e : Vs.toArray.size = vs.length := by simp [VRs.length vr]
  exact len_list hl (by rw [e]; omega) (by rw [e]; exact hk _ _ H news ow _ hs.toks (Le.refl _) rfl vr_int hq)
theorem CV_ord {c : Nat} {Q : V→MH→Prop} (hq : Q (.int (c : Int)) H) : CV W d cs l H (.builtin "ord") [.str ⟨#[c]⟩] Q := by
  refine Box.mk ?_;intro C news ow s Qr E Us hc ho hs vr hk;obtain ⟨U,rfl,v1⟩ := vrs_one vr;obtain ⟨t,rfl⟩ := of_vr_str v1;exact PySem.P.ord_of_char (hk _ _ H news ow _ hs.toks (Le.refl _) rfl vr_int hq)
theorem CV_chr {i : Int} {Q : V→MH→Prop} (h0 : 0 ≤ i) (h1 : i ≤ 0x10FFFF) (hq : Q (.str ⟨#[i.toNat]⟩) H) : CV W d cs l H (.builtin "chr") [.int i] Q := by
  refine Box.mk ?_;intro C news ow s Qr E Us hc ho hs vr hk;obtain ⟨U,rfl,v1⟩ := vrs_one vr;obtain ⟨t,rfl⟩ := of_vr_int v1;exact PySem.P.chr_of_int (by rw [decide_eq_false (Int.not_lt.mpr h0),decide_eq_false (by omega)]; rfl) (hk _ _ H news ow _ hs.toks (Le.refl _) rfl vr_str hq)
end
end Mine
end
section
open PySem PySem.W PySem.Calls PyProof.Rows
namespace Mine
section
variable {W : Wd} {d : Dx} {cs : Scope} {l : Loc} {H : MH}
theorem list_upd {C : FC} {news : Led} {ow : Own} {s : Shared} {a : Addr} {vs : List V} (hs : St W C l H news ow s) (hH : H a = some (.list vs)) :
    ∃ n Vs,s.heap.get? a = some (listO Vs n)∧(a,listO Vs n)∈news∧VRsw W (fzS W news ow) vs Vs ∧
      ∀ n' Vs' vs' h',VRsw W (fzS W news ow) vs' Vs'→Heap.SameBut a s.heap h'→h'.get? a = some (listO Vs' n') →
        ∃ news',St W C l (H.put a (.list vs')) news' ow { s with heap := h' }∧Le (fzS W news ow) (fzS W news' ow) := by
  obtain ⟨m,F,lr⟩ := hs.fr;obtain ⟨hw,n,Vs,h1,hvs⟩ := hs.hr a _ hH;have g := hs.nw _ h1;refine ⟨n,Vs,g.1,h1,hvs,?_⟩;intro n' Vs' vs' h' vr' hsb hg;obtain ⟨news',Up,mp,hin,hback,hon⟩ := upd_ex (o' := listO Vs' n') hs.nd h1;have le : Le (fzS W news ow) (fzS W news' ow) := le_upd hw hon;refine ⟨news',⟨⟨m,F.change hsb g.2.1 g.2.2,lr.mono le⟩,?_,?_,by rw [mp]; exact hs.nd,hs.gens⟩,le⟩
  · obtain ⟨pre,post,e1,e2,p1,p2⟩ := Up.split;rw [e2];have N := hs.nw;rw [e1] at N;exact news_set N p1 p2 hsb hg
  · intro b o hb;unfold MH.put at hb
    by_cases e : b = a
    · subst e;rw [if_pos rfl] at hb
      cases hb
      exact ⟨hw,n',Vs',hin,vr'.mono le⟩
    · rw [if_neg e] at hb;exact MRel.upd le hw e hon (hs.hr b o hb)
theorem vrs_take {P : Params} {fz : Fz} : ∀ {vs : List V} {Us : List Value} (n : Nat),VRs P fz vs Us→VRs P fz (vs.take n) (Us.take n)
  | _,_,0,_ => by simp; exact vrs_nil
  | [],[],n + 1,_ => by simp; exact vrs_nil
  | v :: vs,U :: Us,n + 1,h => by simp only [List.take_succ_cons]; exact vrs_cons h.1 (vrs_take n h.2)
  | [],_ :: _,_ + 1,h => h.elim
  | _ :: _,[],_ + 1,h => h.elim
theorem CV_append {a : Addr} {vs : List V} {v : V} {Q : V→MH→Prop} (hH : H a = some (.list vs)) (hz : vs.length < 1000000) (hq : Q .none (H.put a (.list (vs ++ [v])))) : CV W d cs l H (.builtin "list.append") [.ref a,v] Q := by
  refine Box.mk ?_;intro C news ow s Qr E Us hc ho hs vr hk;obtain ⟨U,U',rfl,v1,v2⟩ := vrs_two vr;obtain rfl := of_vr_ref v1;obtain ⟨n,Vs,g,hm,vrs,k⟩ := list_upd hs hH;refine append_at g (fun h' hsb hg => ?_) (by rw [List.size_toArray,← VRs.length vrs,sizeLine_eq]; omega);rw [List.push_toArray] at hg;obtain ⟨news',st,le⟩ := k _ _ _ h' (vrs.append (vrs_cons v2 vrs_nil)) hsb hg;exact hk .none .none _ _ _ _ st le rfl vr_none hq
theorem CV_pop {a : Addr} {vs : List V} {v : V} {Q : V→MH→Prop} (hH : H a = some (.list (vs ++ [v]))) (hz : vs.length < 1000000) (hq : Q v (H.put a (.list vs))) : CV W d cs l H (.builtin "list.pop") [.ref a] Q := by
  refine Box.mk ?_;intro C news ow s Qr E Us hc ho hs vr hk;obtain ⟨U,rfl,v1⟩ := vrs_one vr;obtain rfl := of_vr_ref v1;obtain ⟨n,Vs,g,hm,vrs,k⟩ := list_upd hs hH;have e : Vs.length = vs.length + 1 := by rw [← VRs.length vrs]; simp
  obtain ⟨U,hU,vU⟩ := vrs.get (i := vs.length) (v := v) (by simp);refine Copied.pop_at (y := U) g ?_ (fun h' hsb hg => ?_) (by rw [List.size_toArray,e,sizeLine_eq]; omega)
  · simpa [e] using hU
  · rw [List.pop_toArray] at hg;have vd : VRs W.w.params (fzS W news ow) vs (Vs.take vs.length) := by
      have := vrs_take vs.length vrs
      simpa using this
    have ed : Vs.dropLast = Vs.take vs.length := by rw [List.dropLast_eq_take,e]; rfl
    rw [ed] at hg;obtain ⟨news',st,le⟩ := k _ _ _ h' vd hsb hg;exact hk v U _ _ _ _ st le rfl (vU.mono le) hq
theorem MC_list {a : Addr} {vs : List V} {x : Str} {id : String} {es : List Expr} {Q : V→MH→Prop} (hH : H a = some (.list vs)) (slot : Slot "list" x id) (hty : typeOf (.builtin id) = pure (.type "method_descriptor")) (hp : es.all plainE = true)
    (h : EA W d cs es l H fun us H₂ => CV W d cs l H₂ (.builtin id) (.ref a :: us) Q) : MC W d cs l H (.ref a) x es Q := by
  refine Box.mk ?_;intro C' news ow s Qr E U pl pos hcs ho hs vr hk;obtain rfl := of_vr_ref vr;obtain ⟨n,Vs,g,hm,vrs,k⟩ := list_upd hs hH;exact listMethod_K hs.nw hm slot hty (callWith_bi (first := [.ref a]) hcs ho hs hp (vrs_cons vr_ref vrs_nil) h hk)
theorem MC_append {a : Addr} {vs : List V} {e : Expr} {Q : V→MH→Prop} (hH : H a = some (.list vs)) (hp : plainE e = true)
    (h : EV W d cs e l H fun u H₂ => ∃ vs',H₂ a = some (.list vs')∧vs'.length < 1000000∧Q .none (H₂.put a (.list (vs' ++ [u])))) : MC W d cs l H (.ref a) "append" [e] Q :=
  MC_list hH F.slot_list_append F.type_list_append (by simp [hp]) (EA_cons hp (h.mono fun u H₂ ⟨vs',a1,a2,a3⟩ => EA_nil (CV_append a1 a2 a3)))
theorem MC_pop {a : Addr} {vs : List V} {v : V} {Q : V→MH→Prop} (hH : H a = some (.list (vs ++ [v]))) (hz : vs.length < 1000000) (hq : Q v (H.put a (.list vs))) : MC W d cs l H (.ref a) "pop" [] Q :=
  MC_list hH F.slot_list_pop F.type_list_pop rfl (EA_nil (CV_pop hH hz hq))
theorem MC_str {x nm : Str} {id : String} {es : List Expr} {Q : V→MH→Prop} (slot : Slot "str" nm id) (hty : typeOf (.builtin id) = pure (.type "method_descriptor")) (hp : es.all plainE = true)
    (h : EA W d cs es l H fun us H₂ => CV W d cs l H₂ (.builtin id) (.str x :: us) Q) : MC W d cs l H (.str x) nm es Q := by
  refine Box.mk ?_;intro C' news ow s Qr E U pl pos hcs ho hs vr hk;obtain ⟨t,rfl⟩ := of_vr_str vr;have key : wpAny (Md W) C'.A (callWith pos (.builtin id) [.str x t] (backTo pos (starEach es C'.env)) []) Qr E s := callWith_bi (first := [.str x]) hcs ho hs hp (vrs_cons vr_str vrs_nil) h hk
  with_reducible exact GM.of (.str x t) (typeIs_str s x t) slot hty GM.noRef key
theorem CV_startswith3 {x y : Str} {i : Int} {Q : V→MH→Prop} (hq : Q (.bool (Txt.startswith3 x y i)) H) : CV W d cs l H (.builtin "str.startswith") [.str x,.str y,.int i] Q := by
  refine Box.mk ?_;intro C n o s Qr E Us hc ho hs vr hk;obtain ⟨U₁,U₂,U₃,rfl,v1,v2,v3⟩ := vrs_three vr;obtain ⟨t₁,rfl⟩ := of_vr_str v1;obtain ⟨t₂,rfl⟩ := of_vr_str v2;obtain ⟨t₃,rfl⟩ := of_vr_int v3;exact SC.startswith3 (hk _ _ H n o s hs (Le.refl _) rfl vr_bool hq)
theorem MC_startswith {x : Str} {e f : Expr} {Q : V→MH→Prop} (he : plainE e = true) (hf : plainE f = true)
    (h : EV W d cs e l H fun y H₁ => EV W d cs f l H₁ fun i H₂ => ∃ y' i',y = .str y'∧i = .int i'∧Q (.bool (Txt.startswith3 x y' i')) H₂) : MC W d cs l H (.str x) "startswith" [e,f] Q :=
  MC_str F.slot_str_startswith F.type_str_startswith (by simp [he,hf]) (EA_cons he (h.mono fun y H₁ h₁ => EA_cons hf (h₁.mono fun i H₂ ⟨y',i',e1,e2,hq⟩ => EA_nil (by subst e1 e2; exact CV_startswith3 hq))))
theorem strsAre {P : Params} {fz : Fz} : ∀ {xs : List Str} {Us : List Value},VRs P fz (xs.map .str) Us→StrsAre Us xs
  | [],[],_ => .nil
  | x :: xs,U :: Us,h => by
    obtain ⟨t,rfl⟩ := of_vr_str h.1;exact .cons _ _ (strsAre h.2)
  | [],_ :: _,h => h.elim
  | _ :: _,[],h => h.elim
theorem intsAre {P : Params} {fz : Fz} : ∀ {xs : List Int} {Us : List Value},VRs P fz (xs.map .int) Us→IntsAre Us xs
  | [],[],_ => .nil
  | x :: xs,U :: Us,h => by
    obtain ⟨t,rfl⟩ := of_vr_int h.1;exact .cons _ _ (intsAre h.2)
  | [],_ :: _,h => h.elim
  | _ :: _,[],h => h.elim
theorem CV_join {a : Addr} {x : Str} {ys : List Str} {Q : V→MH→Prop} (hH : H a = some (.list (ys.map .str))) (hok : (ys.map (·.length)).sum + ys.length * x.length ≤ 16777216) (hq : Q (.str (Txt.join x ys)) H) : CV W d cs l H (.builtin "str.join") [.str x,.ref a] Q := by
  refine Box.mk ?_;intro C news ow s Qr E Us hc ho hs vr hk;obtain ⟨U₁,U₂,rfl,v1,v2⟩ := vrs_two vr;obtain ⟨t,rfl⟩ := of_vr_str v1;obtain rfl := of_vr_ref v2;obtain ⟨n,Vs,g,hm,vrs,k⟩ := list_upd hs hH;exact join_list ⟨_,g,rfl,n,rfl⟩ (strsAre vrs) hok fun t' k => hk _ _ H news ow _ hs.toks (Le.refl _) rfl vr_str hq
theorem MC_join {x : Str} {e : Expr} {Q : V→MH→Prop} (hp : plainE e = true) (h : EV W d cs e l H fun u H₂ => ∃ a ys,u = .ref a∧H₂ a = some (.list (ys.map .str))∧(ys.map (·.length)).sum + ys.length * x.length ≤ 16777216∧Q (.str (Txt.join x ys)) H₂) : MC W d cs l H (.str x) "join" [e] Q :=
  MC_str F.slot_str_join F.type_str_join (by simp [hp]) (EA_cons hp (h.mono fun u H₂ ⟨a,ys,e1,e2,e3,e4⟩ => EA_nil (by subst e1; exact CV_join e2 e3 e4)))
theorem T2_in_strs_tup {k : Str} {ys : List Str} {Q : V→MH→Prop} (hq : Q (.bool (ys.any (· == k))) H) : T2 W d cs l H (.str k) (.tup (ys.map .str)) (compareOp .In) Q := by
  refine Box.mk ?_;intro C news ow s Qr E U U' hc ho hs v1 v2 hk;obtain ⟨t,rfl⟩ := of_vr_str v1;obtain ⟨a,Vs,rfl,fa,vr⟩ := of_vr_tup v2;refine SeqAt.in_tupleAt (isStrOf k) ⟨_,fz_at ho hs fa,rfl,0,rfl⟩ (fun y hy => (eq_isStrOf k t (strsAre vr) y (by simpa using hy)).at _ _) ?_;rw [← Array.any_toList,show Vs.toArray.toList = Vs from rfl,any_isStrOf k (strsAre vr)];exact hk _ _ H news ow s hs (Le.refl _) rfl vr_bool hq
theorem T2_notin_strs_tup {k : Str} {ys : List Str} {Q : V→MH→Prop} (hq : Q (.bool (!ys.any (· == k))) H) : T2 W d cs l H (.str k) (.tup (ys.map .str)) (compareOp .NotIn) Q := by
  refine Box.mk ?_;intro C news ow s Qr E U U' hc ho hs v1 v2 hk;obtain ⟨t,rfl⟩ := of_vr_str v1;obtain ⟨a,Vs,rfl,fa,vr⟩ := of_vr_tup v2;refine SeqAt.notIn_tupleAt (isStrOf k) ⟨_,fz_at ho hs fa,rfl,0,rfl⟩ (fun y hy => (eq_isStrOf k t (strsAre vr) y (by simpa using hy)).at _ _) ?_;rw [← Array.any_toList,show Vs.toArray.toList = Vs from rfl,any_isStrOf k (strsAre vr)];exact hk _ _ H news ow s hs (Le.refl _) rfl vr_bool hq
theorem T2_in_strs_lst {k : Str} {ys : List Str} {Q : V→MH→Prop} (hq : Q (.bool (ys.any (· == k))) H) : T2 W d cs l H (.str k) (.lst (ys.map .str)) (compareOp .In) Q := by
  refine Box.mk ?_;intro C news ow s Qr E U U' hc ho hs v1 v2 hk;obtain ⟨t,rfl⟩ := of_vr_str v1;obtain ⟨a,n,Vs,rfl,fa,vr⟩ := of_vr_lst v2;exact in_list_strs ⟨_,fz_at ho hs fa,rfl,n,rfl⟩ (strsAre vr) (hk _ _ H news ow s hs (Le.refl _) rfl vr_bool hq)
theorem T2_in_ints_lst {k : Int} {ys : List Int} {Q : V→MH→Prop} (hq : Q (.bool (ys.any (· == k))) H) : T2 W d cs l H (.int k) (.lst (ys.map .int)) (compareOp .In) Q := by
  refine Box.mk ?_;intro C news ow s Qr E U U' hc ho hs v1 v2 hk;obtain ⟨t,rfl⟩ := of_vr_int v1;obtain ⟨a,n,Vs,rfl,fa,vr⟩ := of_vr_lst v2;refine in_list_ints ⟨_,fz_at ho hs fa,rfl,n,rfl⟩ (intsAre vr) ?_;exact hk _ _ H news ow s hs (Le.refl _) rfl vr_bool hq
theorem T2_add_str {x y : Str} {Q : V→MH→Prop} (hz : x.length + y.length < 1000000) (hq : Q (.str (x ++ y)) H) : T2 W d cs l H (.str x) (.str y) (binaryOp .Add) Q := by
  refine T2_strs (r := .str (x ++ y)) (fun A E s a b Qr h => P.add_str ?_) hq;have e : ∀ z : Str,(z.length == 0) = true→z.cps = #[] := fun z h => Array.size_eq_zero_iff.mp (by have := eq_of_beq h; exact this)
  by_cases hx : (x.length == 0) = true
  · rw [if_pos hx];have : x ++ y = y := by cases x; cases y; have := e _ hx; simp only at this; subst this; show Str.mk (#[] ++ _) = _; simp
    rw [this] at h;exact h _ s.toks vr_str
  · rw [if_neg hx]
    by_cases hy : (y.length == 0) = true
    · rw [if_pos hy];have : x ++ y = x := by cases x; cases y; have := e _ hy; simp only at this; subst this; show Str.mk (_ ++ #[]) = _; simp
      rw [this] at h;exact h _ s.toks vr_str
    · rw [if_neg hy];refine ⟨?_,h _ _ vr_str⟩;show (x.cps ++ y.cps).size ≤ _;rw [Array.size_append,sizeLine_eq];have : x.cps.size + y.cps.size < 1000000 := hz;omega
end
end Mine
end
section
open PySem PySem.W PySem.Calls PyProof.Rows
namespace Mine
noncomputable def lsets : Loc→List String→List V→Loc
  | l,x :: xs,v :: vs => lsets (lset l x v) xs vs
  | l,_,_ => l
section
variable {W : Wd} {d : Dx} {cs : Scope} {l : Loc} {H : MH}
theorem St.extBut {C : FC} {news : Led} {ow : Own} {s : Shared} {h' : Heap} {b : Addr} (hs : St W C l H news ow s) (he : Heap.ExtBut b s.heap h') (hb : s.heap.objs.size ≤ b) : St W C l H news ow { s with heap := h' } := by
  obtain ⟨m,F,lr⟩ := hs.fr;refine ⟨⟨m,F.extBut he hb,lr⟩,fun p hp => ?_,hs.hr,hs.nd,hs.gens⟩;obtain ⟨a,b',c⟩ := hs.nw p hp;exact ⟨he _ _ (Nat.ne_of_lt (Nat.lt_of_lt_of_le (Heap.lt_size a) hb)) a,b',c⟩
noncomputable def StoresAre (env : Env) : List String→List (Value→Sem Unit)→Prop
  | [],[] => True
  | x :: xs,f :: fs => (∀ (M : Model) (A : Around) (E : Value→Shared→Prop) (s : Shared) (v : Value) (Q : Unit→Shared→Prop),wpAny M A (storeName env (Str.ofString x) v) Q E s→wpAny M A (f v) Q E s)∧StoresAre env xs fs
  | _,_ => False
theorem StoresAre.length {env : Env} : ∀ {xs : List String} {fs : List (Value→Sem Unit)},StoresAre env xs fs→fs.length = xs.length
  | [],[],_ => rfl
  | _ :: xs,_ :: fs,h => by simp [StoresAre.length h.2]
  | [],_ :: _,h => h.elim
  | _ :: _,[],h => h.elim
theorem assign_names {C : FC} (hc : C.cs = cs) (ho : C.Ok W d) : ∀ {xs : List String} {fs : List (Value→Sem Unit)} {vs : List V} {Us : List Value} {l : Loc} {news : Led} {ow : Own} {s : Shared} {Qr : Unit→Shared→Prop} {E : Value→Shared→Prop},
    (∀ x∈xs,cs.names.lookup (Str.ofString x) = some .local)→StoresAre C.env xs fs→xs.length = vs.length→St W C l H news ow s→VRsw W (fzS W news ow) vs Us→(∀ s',St W C (lsets l xs vs) H news ow s'→s'.os = s.os→Qr () s') →
    wpAny (Md W) C.A (assignInOrder fs Us) Qr E s
  | [],[],[],[],l,news,ow,s,Qr,E,_,_,_,hs,_,hk => wpAny_pure (hk s hs rfl)
  | x :: xs,f :: fs,v :: vs,U :: Us,l,news,ow,s,Qr,E,hl,hf,hn,hs,vr,hk => by
    show wpAny _ _ (do holding Us (f U); assignInOrder fs Us) _ _ _;refine wpAny_bind (wpAny_holding (hf.1 _ _ _ _ _ _ (store_local hc ho hs vr.1 (hl x (.head _)) fun s' hs' os' => ?_)));exact assign_names hc ho (fun y hy => hl y (.tail _ hy)) hf.2 (by simpa using hn) hs' vr.2 fun s'' a b => hk s'' a (b.trans os')
  | [],_ :: _,_,_,_,_,_,_,_,_,_,h,_,_,_,_ => h.elim
  | _ :: _,[],_,_,_,_,_,_,_,_,_,h,_,_,_,_ => h.elim
  | [],_,_ :: _,_,_,_,_,_,_,_,_,_,hn,_,_,_ => by simp at hn
  | _ :: _,_,[],_,_,_,_,_,_,_,_,_,hn,_,_,_ => by simp at hn
  | [],_,[],_ :: _,_,_,_,_,_,_,_,_,_,_,vr,_ => vr.elim
  | _ :: _,_,_ :: _,[],_,_,_,_,_,_,_,_,_,_,vr,_ => vr.elim
theorem EX_unpack {elts : List Expr} {k : Nat} {tpos pos : Pos} {e : Expr} {xs : List String} {Q : Fl→Loc→MH→Prop}
    (hsw : ∀ env,swapsWithSole [.Tuple elts k tpos] e pos.line env = pure false) (hw : ∀ cn L a cd,swappedStores [.Tuple elts k tpos] e (envOf cn cs L a cd) = pure none)
    (hst : ∀ env,StoresAre env xs ((assignEach elts env).map (·.2))) (hstar : ∀ env,(assignEach elts env).findIdx? (·.1) = none) (hl : ∀ x∈xs,cs.names.lookup (Str.ofString x) = some .local)
    (h : EV W d cs e l H fun v H' => ∃ vs,v = .tup vs∧vs.length = xs.length∧Q .next (lsets l xs vs) H') : EX W d cs (.Assign [.Tuple elts k tpos] e pos) l H Q := by
  refine Box.mk ?_;intro C news ow s Qr E hc ho hs hk;refine Assign_Tuple (h.go C news ow s _ E hc ho hs ?_) (hsw _) (by have := hw C.cn C.L C.a C.cd; rw [← hc] at this; exact this);intro v U H₁ n₁ o₁ s₁ hs₁ le₁ os₁ vr₁ h₁;obtain ⟨vs,rfl,hn,hq⟩ := h₁;obtain ⟨a,Vs,rfl,fa,vr⟩ := of_vr_tup vr₁;have ht : IsTup s₁.heap a Vs.toArray := ⟨_,fz_at ho hs₁ fa,rfl,0,rfl⟩;have hlen : (assignEach elts C.env).length = Vs.toArray.size := by
    have := StoresAre.length (hst C.env);rw [List.length_map] at this;rw [this,List.size_toArray,← VRs.length vr,hn]
  refine assign_Tuple_tuple ho.handled ht hlen (hstar _) fun h' he => ?_;refine assign_names hc ho hl (hst _) hn.symm (hs₁.extBut he (Nat.le_refl _)) vr fun s' a b => ?_;exact hk .next .next _ H₁ n₁ o₁ s' a le₁ (b.trans os₁) rfl hq
theorem storesAre_rev {env : Env} {xs : List String} : ∀ {ys : List String},ys = xs→StoresAre env ys ((ys.map Str.ofString).map fun n => bindName env n)
  | [],_ => trivial
  | y :: ys,_ => ⟨fun M A E s v Q h => wpAny_bindName h,storesAre_rev (xs := ys) rfl⟩
theorem vrs_reverse {P : Params} {fz : Fz} : ∀ {vs : List V} {Us : List Value},VRs P fz vs Us→VRs P fz vs.reverse Us.reverse
  | [],[],h => h
  | v :: vs,U :: Us,h => by rw [List.reverse_cons,List.reverse_cons]; exact (vrs_reverse h.2).append (vrs_cons h.1 vrs_nil)
  | [],_ :: _,h => h.elim
  | _ :: _,[],h => h.elim
theorem EX_unpackS {elts : List Expr} {k : Nat} {tpos pos : Pos} {e : Expr} {xs : List String} {Q : Fl→Loc→MH→Prop}
    (hsw : ∀ env,swapsWithSole [.Tuple elts k tpos] e pos.line env = pure false) (hw : ∀ cn L a cd,swappedStores [.Tuple elts k tpos] e (envOf cn cs L a cd) = pure (some (xs.map Str.ofString)))
    (hl : ∀ x∈xs,cs.names.lookup (Str.ofString x) = some .local)
    (h : EV W d cs e l H fun v H' => ∃ vs,v = .tup vs∧vs.length = xs.length∧Q .next (lsets l xs.reverse vs.reverse) H') : EX W d cs (.Assign [.Tuple elts k tpos] e pos) l H Q := by
  refine Box.mk ?_;intro C news ow s Qr E hc ho hs hk;refine Assign_Tuple_swapped (names := xs.map Str.ofString) (h.go C news ow s _ E hc ho hs ?_) (hsw _) (by have := hw C.cn C.L C.a C.cd; rw [← hc] at this; exact this);intro v U H₁ n₁ o₁ s₁ hs₁ le₁ os₁ vr₁ h₁;obtain ⟨vs,rfl,hn,hq⟩ := h₁;obtain ⟨a,Vs,rfl,fa,vr⟩ := of_vr_tup vr₁;have ht : IsTup s₁.heap a Vs.toArray := ⟨_,fz_at ho hs₁ fa,rfl,0,rfl⟩;have hlen : (xs.map Str.ofString).length = Vs.toArray.size := by rw [List.length_map,List.size_toArray,← VRs.length vr,hn]
  rw [hlen];refine unpackItems_tuple ho.handled ht fun h' he => ?_;rw [← List.map_reverse];refine assign_names hc ho (fun x hx => hl x (List.mem_reverse.mp hx)) (storesAre_rev rfl) (by simp [hn]) (hs₁.extBut he (Nat.le_refl _)) (vrs_reverse vr) fun s' a b => ?_;exact hk .next .next _ H₁ n₁ o₁ s' a le₁ (b.trans os₁) rfl hq
end
end Mine
end
section
open PySem PySem.W PySem.Calls PyProof.Rows
namespace Mine
theorem put_drop {H : MH} {a : Addr} {o : MO} (h : H a = none) : (H.put a o).drop a = H := by
  funext b
  unfold MH.drop MH.put
  by_cases e : b = a
  · rw [if_pos e,e]; exact h.symm
  · rw [if_neg e,if_neg e]
section
variable {W : Wd} {d : Dx} {cs : Scope} {l : Loc} {H : MH}
theorem St.pushRaw {C : FC} {news : Led} {ow : Own} {s : Shared} (o : Obj) (hf : o.isFreed = false) (hs : St W C l H news ow s) :
    H s.heap.objs.size = none∧∃ news' ow',St W C l (H.put s.heap.objs.size (.raw o)) news' ow' { s with heap := s.heap.push o }∧Le (fzS W news ow) (fzS W news' ow') := by
  obtain ⟨m,F,lr⟩ := hs.fr;refine ⟨fresh_none hs (Nat.le_refl _),_,_,(hs.push (o := o) lr (F.push _) (News.push F hs.nw _ hf) (some s.heap.objs.size)).name ⟨if_pos rfl,.head _⟩,le_new fun p hp => led_lt hs hp⟩
theorem raw_get {C : FC} {news : Led} {ow : Own} {s : Shared} {it : Addr} {o : Obj} (hs : St W C l H news ow s) (h : H it = some (.raw o)) : s.heap.get? it = some o := (hs.nw _ (hs.hr _ _ h).2).1
theorem raw_step {C : FC} {news : Led} {ow : Own} {s : Shared} {it : Addr} {o o' : Obj} {h' : Heap} (hs : St W C l (H.put it (.raw o)) news ow s) (hsb : Heap.SameBut it s.heap h') (hg : h'.get? it = some o') :
    ∃ news',St W C l (H.put it (.raw o')) news' ow { s with heap := h' }∧Le (fzS W news ow) (fzS W news' ow) := by
  obtain ⟨m,F,lr⟩ := hs.fr;obtain ⟨hw,h1⟩ := hs.hr it (.raw o) (if_pos rfl);have g := hs.nw _ h1;obtain ⟨news',Up,mp,hin,hback,hon⟩ := upd_ex (o' := o') hs.nd h1;have le : Le (fzS W news ow) (fzS W news' ow) := le_upd hw hon;refine ⟨news',⟨⟨m,F.change hsb g.2.1 g.2.2,lr.mono le⟩,?_,?_,by rw [mp]; exact hs.nd,hs.gens⟩,le⟩
  · obtain ⟨pre,post,e1,e2,p1,p2⟩ := Up.split;rw [e2];have N := hs.nw;rw [e1] at N;exact news_set N p1 p2 hsb hg
  · intro b x hb;unfold MH.put at hb
    by_cases e : b = it
    · subst e;rw [if_pos rfl] at hb
      cases hb
      exact ⟨hw,hin⟩
    · rw [if_neg e] at hb;exact MRel.upd le hw e hon (hs.hr b x (by unfold MH.put; rw [if_neg e]; exact hb))
theorem raw_end {C : FC} {news : Led} {ow : Own} {s : Shared} {it : Addr} {o : Obj} {h' : Heap} (hs : St W C l (H.put it (.raw o)) news ow s) (hn : H it = none) (he : Heap.ExtBut it s.heap h') :
    ∃ news',St W C l H news' ow { s with heap := h' }∧Le (fzS W news ow) (fzS W news' ow) := by
  obtain ⟨m,F,lr⟩ := hs.fr;obtain ⟨hw,h1⟩ := hs.hr it (.raw o) (if_pos rfl);have g := hs.nw _ h1;have hon : ∀ p∈news,p.1 ≠ it→p∈news.filter (fun p => p.1 != it) := fun p hp ne => List.mem_filter.mpr ⟨hp,by simpa using ne⟩;have le : Le (fzS W news ow) (fzS W (news.filter fun p => p.1 != it) ow) := le_upd hw hon;refine ⟨news.filter fun p => p.1 != it,⟨⟨m,⟨F.ns.extBut he (Ne.symm g.2.1),fun b x e => he b x (fun z => by rw [z,g.2.2] at e; cases e) (F.keep b x e),F.above⟩,lr.mono le⟩,?_,?_,?_,hs.gens⟩,le⟩
  · intro p hp;obtain ⟨hp,ne⟩ := List.mem_filter.mp hp;obtain ⟨a,b,c⟩ := hs.nw p hp;exact ⟨he _ _ (by simpa using ne) a,b,c⟩
  · intro b x hb;have ne : b ≠ it := fun z => by rw [z,hn] at hb; cases hb
    exact MRel.upd le hw ne hon (hs.hr b x (by unfold MH.put; rw [if_neg ne]; exact hb))
  · exact List.Nodup.sublist (List.Sublist.map _ List.filter_sublist) hs.nd
structure Gives (W : Wd) (fz : Fz) (it : Addr) (vs : List V) (R : Nat→Obj→Prop) : Prop where
  item : ∀ (A : Around) (i : Nat) (v : V),vs[i]? = some v→∀ (s : Shared) (E : Value→Shared→Prop) (Qr : Option Value→Shared→Prop) (o : Obj),(∀ a o,fz a o→s.heap.get? a = some o)→s.heap.get? it = some o→R i o →
    (∀ U h' tk o',VR W.w.params fz v U→h'.get? it = some o'→R (i + 1) o'→Heap.SameBut it s.heap h'→Qr (some U) { s with heap := h',toks := tk })→wpAny (Md W) A (pyNext (.ref it)) Qr E s
  last : ∀ (A : Around),A.handled = none→∀ (s : Shared) (E : Value→Shared→Prop) (Qr : Option Value→Shared→Prop) (o : Obj),(∀ a o,fz a o→s.heap.get? a = some o)→s.heap.get? it = some o→R vs.length o →
    (∀ h',Heap.ExtBut it s.heap h'→Qr none { s with heap := h' })→wpAny (Md W) A (pyNext (.ref it)) Qr E s
theorem for_engine {C : FC} {x : String} {px : Pos} {body : List Stmt} {it : Addr} {vs : List V} {R : Nat→Obj→Prop} {I : Nat→Loc→MH→Prop} {Q : Fl→Loc→MH→Prop} {news : Led} {ow : Own} {s : Shared} {o : Obj} {Qr : Flow→Shared→Prop} {E : Value→Shared→Prop} {fz : Fz} {os : OsState}
    (hc : C.cs = cs) (ho : C.Ok W d) (hl : cs.names.lookup (Str.ofString x) = some .local) (G : Gives W fz it vs R) (hs : St W C l (H.put it (.raw o)) news ow s) (hn : H it = none) (hR : R 0 o) (hle : Le fz (fzS W news ow)) (hos : s.os = os) (h0 : I 0 l H)
    (step : ∀ i v l H o,vs[i]? = some v→I i l H→H it = none→EXS W d cs body (lset l x v) (H.put it (.raw o)) fun f l' H' => ∃ H'',H' = H''.put it (.raw o)∧H'' it = none∧match f with
      | .next | .cont => I (i + 1) l' H'' | .brk => Q .next l' H'' | .ret v => Q (.ret v) l' H'')
    (done : ∀ l H,I vs.length l H→Q .next l H)
    (hk : ContF W C fz os Q Qr) :
    codeAny (Md W) C.A (.forLoop (.Name (Str.ofString x) px) (.ref it) body [] C.env) (fun r s' => match r with | .ok f => Qr f s' | .error e => cameBackBy (Md W) C.A C.env E e s') s := by
  refine codeAny_forLoop (fun k s' => ∃ i l' H' news' ow' o,k = vs.length - i∧i ≤ vs.length∧I i l' H'∧H' it = none∧R i o∧St W C l' (H'.put it (.raw o)) news' ow' s'∧Le fz (fzS W news' ow')∧s'.os = os) ?_ vs.length
    ⟨0,l,H,news,ow,o,rfl,Nat.zero_le _,h0,hn,hR,hs,hle,hos⟩
  rintro k s' ⟨i,l',H',news',ow',o',rfl,hi,hI,hn',hR',hs',le',os'⟩;have hfz : ∀ a o,fz a o→s'.heap.get? a = some o := fun a o z => fz_at ho hs' (le' _ _ z);have hg : s'.heap.get? it = some o' := raw_get hs' (if_pos rfl)
  by_cases hlt : i < vs.length
  · have hv : vs[i]? = some vs[i] := List.getElem?_eq_getElem hlt;refine G.item C.A i vs[i] hv s' _ _ o' hfz hg hR' fun U h' tk o₂ vU hg₂ hR₂ hsb => ?_;obtain ⟨n₂,hs₂,le₂⟩ := raw_step hs' hsb hg₂;refine wpAny_assign_Name (store_local hc ho (hs₂.toks (t := tk)) (VR.mono (Le.trans le' le₂) vU) hl fun s₃ hs₃ os₃ => ?_);refine (step i vs[i] l' H' o₂ hv hI hn').go C n₂ ow' s₃ _ _ hc ho hs₃ ?_;intro f F l₄ H₄ n₄ o₄ s₄ hs₄ le₄ os₄ fr q;obtain ⟨H'',rfl,hn'',q⟩ := q;have le5 : Le fz (fzS W n₄ o₄) := Le.trans le' (Le.trans le₂ le₄);have os5 : s₄.os = os := os₄.trans (os₃.trans os');have hd : St W C l₄ H'' n₄ o₄ s₄ := by have := hs₄.drop it; rw [put_drop hn''] at this; exact this
    cases f with
    | next =>
      have : F = .next := fr;subst this;exact ⟨vs.length - (i + 1),by omega,i + 1,l₄,H'',n₄,o₄,o₂,rfl,hlt,q,hn'',hR₂,hs₄,le5,os5⟩
    | cont =>
      have : F = .cont := fr;subst this;exact ⟨vs.length - (i + 1),by omega,i + 1,l₄,H'',n₄,o₄,o₂,rfl,hlt,q,hn'',hR₂,hs₄,le5,os5⟩
    | brk =>
      have : F = .brk := fr;subst this;exact hk .next .next l₄ H'' n₄ o₄ s₄ hd le5 os5 rfl q
    | ret v =>
      obtain ⟨U',rfl,vr'⟩ := fr;exact hk (.ret v) (.ret U') l₄ H'' n₄ o₄ s₄ hd le5 os5 ⟨_,rfl,vr'⟩ q
  · have hin : i = vs.length := by omega
    subst hin;refine G.last C.A ho.handled s' _ _ o' hfz hg hR' fun h' he => ?_;obtain ⟨n₂,hs₂,le₂⟩ := raw_end hs' hn' he;exact wpAny_execs_nil (hk .next .next l' H' n₂ ow' _ hs₂ (Le.trans le' le₂) os' rfl (done _ _ hI))
end
end Mine
end
section
open PySem PySem.W PySem.Calls PyProof.Rows
namespace Mine
theorem put_of {H : MH} {a : Addr} {o : MO} (h : H a = some o) : H = (H.drop a).put a o := by
  funext b
  unfold MH.drop MH.put;show H b = if b = a then some o else if b = a then none else H b
  by_cases e : b = a
  · rw [if_pos e,e]; exact h
  · rw [if_neg e,if_neg e]
theorem drop_self {H : MH} {a : Addr} : H.drop a a = none := by unfold MH.drop; exact if_pos rfl
section
variable {W : Wd} {d : Dx} {cs : Scope} {l : Loc} {H : MH}
noncomputable def listItO (a : Addr) (i : Nat) : Obj := { cls := .type "list_iterator",data := .fields #[.ref a,.int i 0] }
noncomputable def tupItO (a : Addr) (i : Nat) : Obj := { cls := .type "tuple_iterator",data := .fields #[.ref a,.int i 0] }
noncomputable def rangeItO (x left step : Int) : Obj := { cls := .type "range_iterator",data := .fields #[rawInt x,rawInt left,rawInt step] }
theorem gives_lst {fz : Fz} {it a : Addr} {n : Nat} {vs : List V} {Vs : List Value} (fa : fz a (listO Vs n)) (vr : VRs W.w.params fz vs Vs) : Gives W fz it vs fun i o => o.cls = .type "list_iterator"∧o.data = .fields #[.ref a,.int i 0] := by
  constructor
  · intro A i v hv s E Qr o hfz ho hR hk;obtain ⟨U,hU,vU⟩ := vr.get hv;refine wpAny_pyNext_list_item (i := i) (items := Vs.toArray) ⟨o,ho,hR⟩ ⟨_,hfz _ _ fa,rfl,n,rfl⟩ (by simpa using hU) fun h' hit' hsb => ?_;obtain ⟨o',ho',hR'⟩ := hit';exact hk U h' s.toks o' vU ho' (by simpa using hR') hsb
  · intro A hh s E Qr o hfz ho hR hk;exact wpAny_pyNext_list_end hh (i := vs.length) (items := Vs.toArray) ⟨o,ho,hR⟩ ⟨_,hfz _ _ fa,rfl,n,rfl⟩ (by simp [VRs.length vr]) hk
theorem gives_tup {fz : Fz} {it a : Addr} {vs : List V} {Vs : List Value} (fa : fz a (tupO Vs)) (vr : VRs W.w.params fz vs Vs) : Gives W fz it vs fun i o => o.cls = .type "tuple_iterator"∧o.data = .fields #[.ref a,.int i 0] := by
  constructor
  · intro A i v hv s E Qr o hfz ho hR hk;obtain ⟨U,hU,vU⟩ := vr.get hv;refine wpAny_pyNext_tuple_item (i := i) (items := Vs.toArray) ⟨o,ho,hR⟩ ⟨_,hfz _ _ fa,rfl,0,rfl⟩ (by simpa using hU) fun h' hit' hsb => ?_;obtain ⟨o',ho',hR'⟩ := hit';exact hk U h' s.toks o' vU ho' (by simpa using hR') hsb
  · intro A hh s E Qr o hfz ho hR hk;exact wpAny_pyNext_tuple_end hh (i := vs.length) (items := Vs.toArray) ⟨o,ho,hR⟩ ⟨_,hfz _ _ fa,rfl,0,rfl⟩ (by simp [VRs.length vr]) hk
theorem gives_range {fz : Fz} {it : Addr} {a : Int} {n : Nat} : Gives W fz it ((List.range n).map fun (i : Nat) => .int (a + (i : Int))) fun i o => i ≤ n∧o = rangeItO (a + i) (n - i) 1 := by
  constructor
  · intro A i v hv s E Qr o hfz ho hR hk;obtain ⟨hle,rfl⟩ := hR;rw [List.getElem?_map] at hv;obtain ⟨j,hj,rfl⟩ := Option.map_eq_some_iff.mp hv;have hi : i < n := by
      rcases Nat.lt_or_ge i n with z | z
      · exact z
      · rw [List.getElem?_eq_none (by simpa using z)] at hj; cases hj
    rw [List.getElem?_range hi] at hj
    cases hj
    refine wpAny_pyNext_range_item (x := a + i) (left := n - i) (step := 1) ho (by omega) fun h' hit' hsb => ?_;refine hk _ h' _ _ vr_int hit' ⟨hi,?_⟩ hsb;have e1 : a + ((i + 1 : Nat) : Int) = a + i + 1 := by omega
    have e2 : (n : Int) - ((i + 1 : Nat) : Int) = n - i - 1 := by omega
    rw [e1,e2]; rfl
  · intro A hh s E Qr o hfz ho hR hk;obtain ⟨hle,rfl⟩ := hR;refine wpAny_pyNext_range_end hh (x := a + _) (left := n - _) (step := 1) ho (by simp) hk
noncomputable abbrev forQ (I : Nat→Loc→MH→Prop) (i : Nat) (it : Addr) (o : Obj) (Q : Fl→Loc→MH→Prop) (f : Fl) (l' : Loc) (H' : MH) : Prop := H' it = some (.raw o)∧match f with
  | .next | .cont => I (i + 1) l' (H'.drop it) | .brk => Q .next l' (H'.drop it) | .ret v => Q (.ret v) l' (H'.drop it)
noncomputable def Srcs (v : V) (vs : List V) : Prop := v = .lst vs ∨ v = .tup vs
theorem EX_for {x : String} {px pos : Pos} {iter : Expr} {body : List Stmt} {Q : Fl→Loc→MH→Prop} (I : Nat→Loc→MH→Prop) (hfs : ∀ env x,foldedSetIterable iter env x = pure x) (hl : cs.names.lookup (Str.ofString x) = some .local)
    (h : EV W d cs iter l H fun v H₁ => ∃ vs,Srcs v vs∧I 0 l H₁ ∧
      (∀ i u l H it o,vs[i]? = some u→I i l H→H it = none→EXS W d cs body (lset l x u) (H.put it (.raw o)) (forQ I i it o Q)) ∧
      (∀ l H,I vs.length l H→Q .next l H)) : EX W d cs (.For (.Name (Str.ofString x) px) iter body [] pos) l H Q := by
  refine Box.mk ?_;intro C news ow s Qr E hc ho hs hk;refine wpAny_For (h.go C news ow s _ E hc ho hs ?_) (hfs _);intro v U H₁ n₁ o₁ s₁ hs₁ le₁ os₁ vr₁ h₁;obtain ⟨vs,hv,h0,step,done⟩ := h₁;have step' : ∀ it i v l H o,vs[i]? = some v→I i l H→H it = none→EXS W d cs body (lset l x v) (H.put it (.raw o)) fun f l' H' => ∃ H'',H' = H''.put it (.raw o)∧H'' it = none∧match f with
      | .next | .cont => I (i + 1) l' H'' | .brk => Q .next l' H'' | .ret v => Q (.ret v) l' H'' := by
    intro it i v l H o hv hI hn;refine Box.mk ?_;intro C' news' ow' s' Qr' E' hc' ho' hs' hk';refine (step i v l H it o hv hI hn).go C' news' ow' s' Qr' E' hc' ho' hs' ?_;intro f F l' H' n' o' s' a b c dd q;refine hk' f F l' H' n' o' s' a b c dd ⟨H'.drop it,put_of q.1,drop_self,?_⟩
    cases f <;> exact q.2
  rcases hv with rfl | rfl
  · obtain ⟨a,n,Vs,rfl,fa,vr⟩ := of_vr_lst vr₁;refine wpAny_pyIter_list (items := Vs.toArray) ⟨_,fz_at ho hs₁ fa,rfl,n,rfl⟩ ?_;obtain ⟨hn,n₂,o₂,hs₂,le₂⟩ := hs₁.pushRaw (listItO a 0) rfl;exact for_engine (fz := fzS W n₁ o₁) hc ho hl (gives_lst fa vr) hs₂ hn ⟨rfl,rfl⟩ le₂ rfl h0 (step' _) done fun f F l' H' n' o' s' a b c dd q => hk f F l' H' n' o' s' a (Le.trans le₁ b) (c.trans os₁) dd q
  · obtain ⟨a,Vs,rfl,fa,vr⟩ := of_vr_tup vr₁;refine wpAny_pyIter_tuple (items := Vs.toArray) ⟨_,fz_at ho hs₁ fa,rfl,0,rfl⟩ ?_;obtain ⟨hn,n₂,o₂,hs₂,le₂⟩ := hs₁.pushRaw (tupItO a 0) rfl;exact for_engine (fz := fzS W n₁ o₁) hc ho hl (gives_tup fa vr) hs₂ hn ⟨rfl,rfl⟩ le₂ rfl h0 (step' _) done fun f F l' H' n' o' s' a b c dd q => hk f F l' H' n' o' s' a (Le.trans le₁ b) (c.trans os₁) dd q
theorem EX_for_range {x rn : String} {px rp cp pos : Pos} {e : Expr} {body : List Stmt} {Q : Fl→Loc→MH→Prop} (I : Nat→Loc→MH→Prop) (hn : BiName W cs (Str.ofString rn) (.type "range")) (hp : plainE e = true) (hl : cs.names.lookup (Str.ofString x) = some .local)
    (h : EV W d cs e l H fun v H₁ => ∃ k : Nat,v = .int k∧k < 2 ^ 60∧I 0 l H₁ ∧
      (∀ i l H it o,i < k→I i l H→H it = none→EXS W d cs body (lset l x (.int (i : Nat))) (H.put it (.raw o)) (forQ I i it o Q)) ∧
      (∀ l H,I k l H→Q .next l H)) : EX W d cs (.For (.Name (Str.ofString x) px) (.Call (.Name (Str.ofString rn) rp) [e] [] cp) body [] pos) l H Q := by
  refine Box.mk ?_;intro C news ow s Qr E hc ho hs hk;refine wpAny_For ?_;obtain ⟨m,F,lr⟩ := hs.fr;refine Call_ ?_ (by rfl);refine ld_builtin_at F ho.top.g hn.miss ho.top.b hn.at' ?_ ho.fn (by subst hc; exact hn.kind) hn.ok;refine PyProof.Rows.callWith_type1 ?_ (starEach_plain hp) (starEach_any (es := []) rfl);have hA : EA W d cs [e] l H fun vs H₁ => ∃ k : Nat,vs = [.int k]∧k < 2 ^ 60∧I 0 l H₁ ∧
      (∀ i l H it o,i < k→I i l H→H it = none→EXS W d cs body (lset l x (.int (i : Nat))) (H.put it (.raw o)) (forQ I i it o Q)) ∧
      (∀ l H,I k l H→Q .next l H) := EA_cons hp (h.mono fun v H₁ z => EA_nil (by obtain ⟨k,rfl,z⟩ := z; exact ⟨k,rfl,z⟩))
  refine hA.go C news ow s _ E _ hc ho hs ?_;intro vs Us H₁ n₁ o₁ s₁ hs₁ le₁ os₁ vr₁ h₁;obtain ⟨k,rfl,hk60,h0,step,done⟩ := h₁;obtain ⟨U,rfl,v1⟩ := vrs_one vr₁;obtain ⟨t,rfl⟩ := of_vr_int v1;refine call_range_1 ?_;obtain ⟨hn₂,n₂,o₂,hs₂,le₂⟩ := hs₁.pushRaw { cls := .type "range",data := .fields #[.int 0 s₁.toks,.int k t,.int 1 (s₁.toks + 1)] } rfl;have hs₂' := (hs₂.drop s₁.heap.objs.size).toks (t := s₁.toks + 1 + 1);rw [put_drop hn₂] at hs₂';refine wpAny_pyIter_range (a := 0) (b := k) (c := 1) (IsRange.new ..) (small_one (by decide) (by decide) (by omega) (by omega)) ?_;obtain ⟨hn₃,n₃,o₃,hs₃,le₃⟩ := hs₂'.pushRaw (rangeItO 0 (Builtin.Range.rangeSize 0 k 1) 1) rfl;refine for_engine (fz := fzS W n₁ o₁) (vs := (List.range k).map fun (i : Nat) => .int (0 + (i : Int))) (Q := Q) (I := I) hc ho hl (gives_range (a := 0) (n := k)) hs₃ hn₃ ⟨Nat.zero_le _,?_⟩ (Le.trans le₂ le₃) rfl h0 ?_ ?_ fun f F l' H' n' o' s' a b c dd q => hk f F l' H' n' o' s' a (Le.trans le₁ b) (c.trans os₁) dd q
  · rw [rangeSize_one]
    by_cases z : (0 : Int) < k
    · rw [if_pos z]; simp
    · have : k = 0 := by omega
      subst this;simp
  · intro i v l H o hv hI hn;refine Box.mk ?_;intro C' news' ow' s' Qr' E' hc' ho' hs' hk';have hi : i < k := by
      rcases Nat.lt_or_ge i k with z | z
      · exact z
      · rw [List.getElem?_eq_none (by simpa using z)] at hv; cases hv
    rw [List.getElem?_map,List.getElem?_range hi] at hv;simp only [Option.map_some,Option.some.injEq,Int.zero_add] at hv;subst hv;refine (step i l H _ o hi hI hn).go C' news' ow' s' Qr' E' hc' ho' hs' ?_;intro f F l' H' n' o' s' a b c dd q;refine hk' f F l' H' n' o' s' a b c dd ⟨_,put_of q.1,drop_self,?_⟩
    cases f <;> exact q.2
  · intro l H hI;refine done l H ?_
    simpa using hI
end
end Mine
end
section
open PySem PySem.W PySem.Calls PyProof.Rows
namespace Mine
noncomputable def getS : List String→List V→Str→Option V
  | k :: ks,v :: vs,x => if Str.ofString k = x then some v else getS ks vs x
  | _,_,_ => none
theorem keysOf {prog : Program} {w : World} : ∀ {ks : List String} {Es : List DictEntry},Keys w.params ks Es→KeysOf (strKind prog w) Es.toArray
  | [],[],_ => fun e he => by simp at he
  | k :: ks,e :: es,⟨⟨t,hk⟩,hh,hr⟩ => fun e' he' => by
    rcases List.mem_cons.mp (by simpa using he') with rfl | he''
    · exact ⟨Str.ofString k,by rw [hk]; exact strKind_is prog w _ _,hh⟩
    · exact keysOf hr e' (by simpa using he'')
  | [],_ :: _,h => h.elim
  | _ :: _,[],h => h.elim
theorem findS {prog : Program} {w : World} {fz : Fz} {x : Str} : ∀ {ks : List String} {vs : List V} {Es : List DictEntry},Keys w.params ks Es→VRs w.params fz vs (Es.map (·.val)) →
    match getS ks vs x,findBy (strKind prog w).is Es.toArray x with
    | some v,some U => VR w.params fz v U
    | none,none => True
    | _,_ => False
  | [],[],[],_,_ => by simp [getS,findBy]
  | [],_ :: _,[],_,h => by unfold VRs at h; exact h.elim
  | [],_,_ :: _,h,_ => h.elim
  | _ :: _,_,[],h,_ => h.elim
  | _ :: _,[],_ :: _,_,h => by unfold VRs at h; exact h.elim
  | k :: ks,u :: vs,e :: es,⟨⟨t,hk⟩,hh,hr⟩,h => by
    rw [List.map_cons] at h;unfold VRs at h;have ih := findS (prog := prog) (x := x) hr h.2;have e1 : (strKind prog w).is x e.key = decide (Str.ofString k = x) := by
      rw [hk];have := KeyKind.is_eq_decide (strKind_is prog w (Str.ofString k) t) x;rw [this,Bool.eq_iff_iff,decide_eq_true_iff,decide_eq_true_iff];exact eq_comm
    unfold getS findBy;rw [List.find?_toArray,List.find?_cons,e1]
    by_cases q : Str.ofString k = x
    · rw [if_pos q,decide_eq_true q];exact h.1
    · rw [if_neg q,decide_eq_false q];unfold findBy at ih;rw [List.find?_toArray] at ih;exact ih
section
variable {W : Wd} {d : Dx} {cs : Scope} {l : Loc} {H : MH}
theorem mapOf_dct {h : Heap} {a : Addr} {n : Nat} {Es : List DictEntry} {ks : List String} (hg : h.get? a = some (dictOf Es n)) (hk : Keys W.w.params ks Es) : h.MapOf (strKind W.prog W.w) a (fun k => findBy (strKind W.prog W.w).is Es.toArray k) :=
  ⟨_,Es.toArray,n,hg,⟨rfl,rfl,rfl⟩,rfl,keysOf hk,fun _ => rfl⟩
theorem T2_in_dct {ks : List String} {vs : List V} {x : Str} {Q : V→MH→Prop} (hq : Q (.bool (getS ks vs x).isSome) H) : T2 W d cs l H (.str x) (.dct ks vs) (compareOp .In) Q := by
  refine Box.mk ?_;intro C news ow s Qr E U U' hc ho hs v1 v2 hk;obtain ⟨t,rfl⟩ := of_vr_str v1;obtain ⟨a,n,Es,rfl,lo,fa,hkeys,hvs⟩ := of_vr_dct v2;have e := findS (prog := W.prog) (x := x) hkeys hvs;refine wpAny_in_of (strKind_is W.prog W.w x t) lo (mapOf_dct (W := W) (fz_at ho hs fa) hkeys) ?_;have e2 : (findBy (strKind W.prog W.w).is Es.toArray x).isSome = (getS ks vs x).isSome := by
    revert e
    cases getS ks vs x <;> cases findBy (strKind W.prog W.w).is Es.toArray x <;> simp
  rw [e2];exact hk _ _ H news ow _ hs.toks (Le.refl _) rfl vr_bool hq
theorem CV_get {ks : List String} {vs : List V} {x : Str} {dv : V} {Q : V→MH→Prop} (hq : Q ((getS ks vs x).getD dv) H) : CV W d cs l H (.builtin "dict.get") [.dct ks vs,.str x,dv] Q := by
  refine Box.mk ?_;intro C news ow s Qr E Us hc ho hs vr hk;obtain ⟨U₁,U₂,U₃,rfl,v1,v2,v3⟩ := vrs_three vr;obtain ⟨a,n,Es,rfl,lo,fa,hkeys,hvs⟩ := of_vr_dct v1;obtain ⟨t,rfl⟩ := of_vr_str v2;have e := findS (prog := W.prog) (x := x) hkeys hvs;have hm := mapOf_dct (W := W) (fz_at ho hs fa) hkeys;refine call_meetsIn PySem.F.slot_dict_get hm.typeIs PySem.F.entry_dict_get (PySem.F.args_dict_get_3 _ _ _) (meets_dict_get_default (strKind W.prog W.w) a (strKind_is W.prog W.w x t) lo U₃) ⟨_,hm,?_⟩;refine hk ((getS ks vs x).getD dv) _ H news ow _ hs.toks (Le.refl _) rfl ?_ hq
  revert e
  cases getS ks vs x <;> cases findBy (strKind W.prog W.w).is Es.toArray x <;> intro e
  · exact v3
  · exact e.elim
  · exact e.elim
  · exact e
theorem MC_get {ks : List String} {vs : List V} {e f : Expr} {Q : V→MH→Prop} (he : plainE e = true) (hf : plainE f = true)
    (h : EV W d cs e l H fun u H₁ => EV W d cs f l H₁ fun dv H₂ => ∃ x,u = .str x∧Q ((getS ks vs x).getD dv) H₂) : MC W d cs l H (.dct ks vs) "get" [e,f] Q := by
  refine Box.mk ?_;intro C' news ow s Qr E U pl pos hcs ho hs vr hk;obtain ⟨a,n,Es,rfl,lo,fa,hkeys,hvs⟩ := of_vr_dct vr;have hm := mapOf_dct (W := W) (fz_at ho hs fa) hkeys;have key : wpAny (Md W) C'.A (callWith pos (.builtin "dict.get") [.ref a] (backTo pos (starEach [e,f] C'.env)) []) Qr E s :=
    callWith_bi (first := [.dct ks vs]) hcs ho hs (by simp [he,hf]) (vrs_cons vr vrs_nil) (EA_cons he (h.mono fun u H₁ z => EA_cons hf (EV.mono z fun dv H₂ ⟨x,e,q⟩ => EA_nil (by subst e; exact CV_get q)))) hk
  exact getMethod_builtin hm.typeIs PySem.F.plainAttrs_dict PySem.F.slot_dict_get PySem.F.type_dict_get hm.noDict key
theorem CV_listF {v : V} {vs : List V} {Q : V→MH→Prop} (hv : Srcs v vs) (hz : vs.length < 1000000) (hq : Q (.lst vs) H) : CV W d cs l H (.type "list") [v] Q := by
  refine Box.mk ?_;intro C news ow s Qr E Us hc ho hs vr hk;obtain ⟨U,rfl,v1⟩ := vrs_one vr;obtain ⟨m,F,lr⟩ := hs.fr;have main : ∀ (a : Addr) (T : String) (o : Obj) (Vs : List Value) (n : Nat),(T = "list" ∨ T = "tuple")→s.heap.get? a = some o→o.cls = .type T→o.data = .seq Vs.toArray n→VRs W.w.params (fzS W news ow) vs Vs→wpAny (Md W) C.A (call (.type "list") [.ref a]) Qr E s := by
    intro a T o Vs n hT ho' hcl hd vrs;refine call_list_seq a hT ho' hcl hd (fun h' c' hkp hD => ?_) (by rw [List.size_toArray,← VRs.length vrs,sizeLine_eq]; omega);have le := le_new (W := W) (ow := ow) (o := listO Vs c') (b := none) (fun p hp => led_lt hs hp);refine hk (.lst vs) _ H _ (owPut ow s.heap.objs.size none) _ (hs.push (o := listO Vs c') lr (F.keeps hkp) (news_pushed F hs.nw hkp hD rfl) none) le rfl ?_ hq;unfold VRw VR;exact ⟨_,c',Vs,rfl,.inr ⟨.head _,by unfold owPut; exact if_pos rfl⟩,vrs.mono le⟩
  rcases hv with rfl | rfl
  · obtain ⟨a,n,Vs,rfl,fa,vrs⟩ := of_vr_lst v1;exact main a "list" _ Vs n (.inl rfl) (fz_at ho hs fa) rfl rfl vrs
  · obtain ⟨a,Vs,rfl,fa,vrs⟩ := of_vr_tup v1;exact main a "tuple" _ Vs 0 (.inr rfl) (fz_at ho hs fa) rfl rfl vrs
end
end Mine
end
section
open PySem PySem.W PySem.Calls PyProof.Rows
namespace Mine
section
variable {W : Wd} {d : Dx} {cs : Scope} {l : Loc} {H : MH}
theorem St.grow' {C : FC} {news : Led} {ow : Own} {s : Shared} {h' : Heap} {D : Addr} {o : Obj} {m : Str→Option Value} {tk : Nat} (hs : St W C l H news ow s) (lr : LRel W.w.params (fzOf W.B news ow) l m) (F' : Fr C.h₀ C.L h' m)
    (N' : News C.h₀ C.L h' ((D,o) :: news)) (off : ∀ p∈news,p.1 ≠ D) : St W C l H ((D,o) :: news) (owPut ow D none) { s with heap := h',toks := tk }∧Le (fzS W news ow) (fzS W ((D,o) :: news) (owPut ow D none)) := by
  have le : Le (fzS W news ow) (fzS W ((D,o) :: news) (owPut ow D none)) := by
    intro x y h
    rcases h with h | ⟨h,e⟩
    · exact .inl h
    · refine .inr ⟨.tail _ h,?_⟩;unfold owPut;rw [if_neg (off _ h)]; exact e
  refine ⟨⟨⟨m,F',lr.mono le⟩,N',fun a x hx => MRel.own le (fun p hp => .tail _ hp) (fun p hp => by unfold owPut; rw [if_neg (off p hp)]) (hs.hr a x hx),?_,hs.gens⟩,le⟩;rw [List.map_cons,List.nodup_cons];refine ⟨fun z => ?_,hs.nd⟩;obtain ⟨p,hp,e⟩ := List.mem_map.mp z;exact off p hp e
theorem CV_pop0 {a : Addr} {vs : List V} {v : V} {Q : V→MH→Prop} (hH : H a = some (.list (v :: vs))) (hz : vs.length < 1000000) (hq : Q v (H.put a (.list vs))) : CV W d cs l H (.builtin "list.pop") [.ref a,.int 0] Q := by
  refine Box.mk ?_;intro C news ow s Qr E Us hc ho hs vr hk;obtain ⟨U,U2,rfl,v1,v2⟩ := vrs_two vr;obtain rfl := of_vr_ref v1;obtain ⟨t,rfl⟩ := of_vr_int v2;obtain ⟨n,Vs,g,hm,vrs,k⟩ := list_upd hs hH
  cases Vs with
  | nil => exact vrs.elim
  | cons U Us =>
  have hT : s.TypeIs (.ref a) "list" := ⟨_,g,rfl⟩;have e1 : (U :: Us).toArray.eraseIdxIfInBounds 0 = Us.toArray := by
    apply Array.toList_inj.mp; simp
  refine call_meets PySem.F.slot_list_pop hT PySem.F.entry_list_pop (PySem.F.args_list_pop_2 _ _) (PySem.MeetsSeq.list_pop_at a _ n 0 t 0 U (by decide) ?_ (by simp) (by rw [List.size_toArray]; have := VRs.length vrs.2; simp; rw [sizeLine_eq]; omega)) ⟨g,?_⟩
  · exact seqIndex_of (by decide) (by simp)
  obtain ⟨n',hg'⟩ : ∃ n',(s.heap.update a (Obj.mapSeq fun xs => xs.eraseIdxIfInBounds 0)).get? a = some (listO Us n') := by
    have q := PySem.IsL.update g (fun xs => xs.eraseIdxIfInBounds 0);rw [e1] at q;exact ⟨_,q⟩
  obtain ⟨news',st,le⟩ := k n' Us vs _ vrs.2 (Heap.SameBut.update ..) hg';exact hk v U _ _ _ _ st le rfl (VR.mono le vrs.1) hq
theorem EX_setitem {o i e : Expr} {ps pos : Pos} {Q : Fl→Loc→MH→Prop} (hsw : ∀ env,swapsWith e (some (.Subscript o i ps)) pos.line env = pure false)
    (h : EV W d cs e l H fun v H₁ => EV W d cs o l H₁ fun ov H₂ => EV W d cs i l H₂ fun iv H₃ => ∃ a vs k,ov = .ref a∧iv = .int k∧H₃ a = some (.list vs)∧0 ≤ k∧k < vs.length∧vs.length < 1000000∧Q .next l (H₃.put a (.list (vs.set k.toNat v)))) :
    EX W d cs (.Assign [.Subscript o i ps] e pos) l H Q := by
  refine Box.mk ?_;intro C news ow s Qr E hc ho hs hk;refine wpAny_Assign_Subscript (h.go C news ow s _ E hc ho hs ?_) (hsw _);intro v U H₁ n₁ o₁ s₁ hs₁ le₁ os₁ vr₁ h₁;refine h₁.go C n₁ o₁ s₁ _ E hc ho hs₁ ?_;intro ov U₂ H₂ n₂ o₂ s₂ hs₂ le₂ os₂ vr₂ h₂;refine h₂.go C n₂ o₂ s₂ _ E hc ho hs₂ ?_;intro iv U₃ H₃ n₃ o₃ s₃ hs₃ le₃ os₃ vr₃ h₃;obtain ⟨a,vs,k,rfl,rfl,hH,hk0,hk1,hz,hq⟩ := h₃;obtain rfl := of_vr_ref vr₂;obtain ⟨t,rfl⟩ := of_vr_int vr₃;obtain ⟨n,Vs,g,hm,vrs,K⟩ := list_upd hs₃ hH;have hlen := VRs.length vrs;refine PySem.W.ki_setAt (n := n) g hk0 (by omega) (by rw [List.size_toArray,← hlen]; exact hk1) ?_;obtain ⟨n',hg'⟩ : ∃ n',(s₃.heap.update a (Obj.mapSeq (·.setIfInBounds k.toNat U))).get? a = some (listO (Vs.set k.toNat U) n') := by
    have q := PySem.IsL.update g (fun xs => xs.setIfInBounds k.toNat U);rw [show (Vs.toArray.setIfInBounds k.toNat U) = (Vs.set k.toNat U).toArray from by apply Array.toList_inj.mp; simp] at q;exact ⟨_,q⟩
  have vset : ∀ {vs : List V} {Vs : List Value} (j : Nat),VRs W.w.params (fzS W n₃ o₃) vs Vs→VRs W.w.params (fzS W n₃ o₃) (vs.set j v) (Vs.set j U) := by
    intro vs
    induction vs with
    | nil => intro Vs j h; cases Vs with
      | nil => exact h
      | cons _ _ => exact h.elim
    | cons x r ih => intro Vs j h; cases Vs with
      | nil => exact h.elim
      | cons y q => cases j with
        | zero => exact vrs_cons (VR.mono (Le.trans le₂ le₃) vr₁) h.2
        | succ j => exact vrs_cons h.1 (ih j h.2)
  obtain ⟨news',st,le⟩ := K n' _ _ _ (vset k.toNat vrs) (Heap.SameBut.update ..) hg';exact hk .next .next l _ _ _ _ st (Le.trans le₁ (Le.trans le₂ (Le.trans le₃ le))) (os₃.trans (os₂.trans os₁)) rfl hq
theorem EV_slice_to {x : String} {np pos sp : Pos} {hi : Expr} {Q : V→MH→Prop} (h : EV W d cs (.Name (Str.ofString x) np) l H fun a H₁ => EV W d cs hi l H₁ fun b H₂ => ∃ vs,∃ j : Nat,a = .lst vs∧b = .int (j : Int)∧vs.length < 1000000∧Q (.lst (vs.take j)) H₂) :
    EV W d cs (.Subscript (.Name (Str.ofString x) np) (.Slice none (some hi) none sp) pos) l H Q := by
  refine Box.mk ?_;intro C news ow s Qr E hc ho hs hk;refine Subscript_ (h.go C news ow s _ E hc ho hs ?_);intro a U₁ H₁ n₁ o₁ s₁ hs₁ le₁ os₁ vr₁ h₁;refine wpAny_Slice (wpAny_pure ?_);refine h₁.go C n₁ o₁ s₁ _ E hc ho hs₁ ?_;intro b U₂ H₂ n₂ o₂ s₂ hs₂ le₂ os₂ vr₂ h₂;obtain ⟨vs,j,rfl,rfl,hz,hq⟩ := h₂;obtain ⟨t,rfl⟩ := of_vr_int vr₂;obtain ⟨a,n,Vs,rfl,fa,vr⟩ := of_vr_lst (VR.mono le₂ vr₁);obtain ⟨m,F,lr⟩ := hs₂.fr;have hlen := VRs.length vr;refine wpAny_pure (slice_list F hs₂.nw ⟨_,fz_at ho hs₂ fa,rfl,n,rfl⟩ .none (.int (j : Int) t) (fun h' F' N' => ?_) (by rfl) (by intro _; rfl) (by rw [List.size_toArray,← hlen,sizeLine_eq]; omega));rw [slicePick_upto'] at N';obtain ⟨st,le⟩ := hs₂.grow' (o := listO (Vs.take j) 0) (tk := s₂.toks) lr F' N' (fun p hp => Nat.ne_of_lt (Nat.lt_succ_of_lt (led_lt hs₂ hp)));refine hk (.lst (vs.take j)) _ H₂ _ _ _ st (Le.trans le₁ (Le.trans le₂ le)) (os₂.trans os₁) ?_ hq;unfold VRw VR;exact ⟨_,0,Vs.take j,rfl,.inr ⟨.head _,by unfold owPut; exact if_pos rfl⟩,(vrs_take j vr).mono le⟩
theorem CV_listM {v : V} {vs : List V} {Q : V→MH→Prop} (hv : v = .lst vs) (hz : vs.length < 1000000) (hq : ∀ a,H a = none→Q (.ref a) (H.put a (.list vs))) : CV W d cs l H (.type "list") [v] Q := by
  subst hv;refine Box.mk ?_;intro C news ow s Qr E Us hc ho hs vr hk;obtain ⟨U,rfl,v1⟩ := vrs_one vr;obtain ⟨m,F,lr⟩ := hs.fr;obtain ⟨a,n,Vs,rfl,fa,vrs⟩ := of_vr_lst v1;refine call_list_seq a (.inl rfl) (fz_at ho hs fa) rfl rfl (fun h' c' hkp hD => ?_) (by rw [List.size_toArray,← VRs.length vrs,sizeLine_eq]; omega);have le := le_new (W := W) (ow := ow) (o := listO Vs c') (b := some s.heap.objs.size) (fun p hp => led_lt hs hp);refine hk (.ref s.heap.objs.size) _ _ _ (owPut ow s.heap.objs.size (some s.heap.objs.size)) _ ((hs.push (o := listO Vs c') lr (F.keeps hkp) (news_pushed F hs.nw hkp hD rfl) _).name ?_) le rfl vr_ref (hq _ (fresh_none hs (Nat.le_refl _)));exact ⟨if_pos rfl,c',Vs,.head _,vrs.mono le⟩
end
end Mine
end
section
open PySem PySem.W PySem.Calls PyProof.Rows
namespace Mine
theorem lb {a b : Nat} {q : Prop} (h : q) (e : Nat.ble a b = true := by kernel_rfl) : a ≤ b∧q := ⟨Nat.le_of_ble_eq_true e,h⟩
variable {W : Wd} {d : Dx} {cs : Scope} {l : Loc} {H : MH}
theorem EXa {x : String} {np pos : Pos} {e : Expr} {Q : Fl→Loc→MH→Prop} (h : EV W d cs e l H fun v H' => Q .next (lset l x v) H') (hl : cs.names.lookup (Str.ofString x) = some .local := by kernel_rfl) (hsw : ∀ env,swapsWith e (some (.Name (Str.ofString x) np)) pos.line env = pure false := by exact fun _ => rfl) :
    EX W d cs (.Assign [.Name (Str.ofString x) np] e pos) l H Q := EX_assign hl hsw h
theorem EXx {e : Expr} {pos : Pos} {Q : Fl→Loc→MH→Prop} (h : EV W d cs e l H fun v H' => Q .next l H') (hs' : ∀ env,swapsWith e none pos.line env = pure false := by exact fun _ => rfl) : EX W d cs (.Expr e pos) l H Q :=
  EX_expr (fun _ h => by unfold interactive; rw [h]; rfl) hs' h
end Mine
end
section
open PySem PySem.W PySem.Calls PyProof.Rows Hd
noncomputable section
namespace Mine
noncomputable def nthO : List Obj→Nat→Obj
  | [],_ => oT []
  | a :: _,0 => a
  | _ :: r,n + 1 => nthO r n
noncomputable def gents (P : Params) : List DictEntry := [E P "__name__" 165 (T "law_nt0400_01" 2143),E P "__doc__" 166 .none,E P "__package__" 167 .none,E P "__loader__" 168 (.builtin "__main__.__loader__#opaque"),E P "__spec__" 169 .none,E P "__annotations__" 170 (R 6),E P "__builtins__" 171 (R 4),E P "__file__" 173 (T "/claim/cut.py" 172),E P "__cached__" 174 .none,E P "Node" 222 (R 31),E P "SIGN_BIT" 228 (I 9223372036854775808 227),E P "FRACTION_BITS" 230 (I 52 229),E P "FRACTION_MASK" 236 (I 4503599627370495 235),E P "HIDDEN_BIT_dbits" 240 (I 4503599627370496 239),E P "EXPONENT_MASK" 242 (I 2047 241),E P "EXPONENT_SHIFT" 244 (I 1075 243),E P "LEAST_POWER_dbits" 247 (I (-1074) 246),E P "ZERO" 249 (I 0 248),E P "INF" 253 (I 9218868437227405312 252),E P "width" 262 (R 42),E P "pack" 271 (R 49),E P "is_negative" 278 (R 56),E P "is_nan" 285 (R 63),E P "is_inf" 292 (R 70),E P "is_zero" 299 (R 77),E P "signed" 307 (R 84),E P "parts" 317 (R 91),E P "quotient" 326 (R 98),E P "round_ratio" 339 (R 105),E P "assembled" 349 (R 112),E P "from_int" 356 (R 119),E P "LEAST_POWER_numshow" 361 (I (-1074) 360),E P "HIDDEN_BIT_numshow" 365 (I 4503599627370496 364),E P "scaled" 376 (R 126),E P "decimal_place" 385 (R 133),E P "first_place" 398 (R 140),E P "shortest" 419 (R 147),E P "last_figure" 430 (R 154),E P "signed_exponent" 437 (R 161),E P "with_exponent" 446 (R 168),E P "laid_out" 455 (R 175),E P "without_figures" 462 (R 182),E P "show" 472 (R 189),E P "BLANKS" 486 (R 190),E P "LINE_ENDS" 491 (R 191),E P "LETTERS" 556 (R 224),E P "PARTS" 569 (R 231),E P "is_among" 579 (R 238),E P "is_white" 586 (R 245),E P "is_line_end" 593 (R 252),E P "is_digit" 600 (R 259),E P "is_octal_digit" 607 (R 266),E P "hex_value" 614 (R 273),E P "is_id_start" 621 (R 280),E P "is_id_part" 628 (R 287),E P "SINGLE" 649 (R 288),E P "code_at" 657 (R 295),E P "hex_at" 669 (R 302),E P "line_end_size" 677 (R 309),E P "octal_escape" 688 (R 316),E P "read_escape" 701 (R 323),E P "FARTHEST" 705 (I 400 704),E P "figure_of" 712 (R 330),E P "worth" 724 (R 337),E P "from_decimal" 735 (R 344),E P "KEYWORDS" 774 (R 345),E P "PUNCTS" 823 (R 346),E P "PUNCT_TABLE" 923 (R 400),E P "Token" 964 (R 422),E P "is_keyword" 971 (R 433),E P "punct_at" 981 (R 440),E P "SyntaxFail" 1014 (R 457),E P "Lexer" 1217 (R 603),E P "STRICT_WORDS" 1229 (R 608),E P "RESTRICTED" 1232 (R 609),E P "TARGETS" 1236 (R 610),E P "name_fault" 1244 (R 617),E P "binding_fault" 1252 (R 624),E P "first_twice" 1261 (R 631),E P "params_fault" 1273 (R 638),E P "target_fault" 1282 (R 645),E P "delete_fault" 1290 (R 652),E P "octal_fault" 1298 (R 659),E P "entry_fault" 1309 (R 666),E P "accessor_fault" 1318 (R 673),E P "Jumps" 1366 (R 705),E P "TokenTaker" 1516 (R 831),E P "PRIORITY" 1588 (R 836),E P "ASSIGNING" 1601 (R 838),E P "UNARY_SIGNS" 1606 (R 839),E P "UNARY_WORDS" 1610 (R 840),E P "STEPS" 1613 (R 841),E P "ExprParser" 1784 (R 970),E P "SimpleParser" 1922 (R 1066),E P "LiteralParser" 2004 (R 1120),E P "LOOP_WORDS" 2010 (R 1123),E P "StmtParser" 2131 (R 1203),E P "parse" 2142 (R 1212),E P "_law_take" 2152 (R 1219),E P "_law_pick" 2160 (R 1226),E P "_law_regex" 2169 (R 1233),E P "_law_operand" 2180 (R 1240),E P "_law_chain" 2193 (R 1247),E P "_law_row" 2207 (R 1254),E P "_law_told" 2213 (R 1259),E P "law" 2228 (R 1266)]
noncomputable def KK (P : Params) : Frag := [(3,oD (gents P) 106),
  (27,nthO (d1 P) 12),
  (28,nthO (d1 P) 13),
  (30,nthO (d1 P) 15),
  (31,nthO (d1 P) 16),
  (41,nthO (d1 P) 26),
  (42,nthO (d1 P) 27),
  (48,nthO (d1 P) 33),
  (49,nthO (d1 P) 34),
  (55,nthO (d1 P) 40),
  (56,nthO (d1 P) 41),
  (62,nthO (d1 P) 47),
  (63,nthO (d1 P) 48),
  (69,nthO (d1 P) 54),
  (70,nthO (d1 P) 55),
  (76,nthO (d1 P) 61),
  (77,nthO (d1 P) 62),
  (83,nthO (d1 P) 68),
  (84,nthO (d1 P) 69),
  (90,nthO (d1 P) 75),
  (91,nthO (d1 P) 76),
  (97,nthO (d1 P) 82),
  (98,nthO (d1 P) 83),
  (104,nthO (d1 P) 89),
  (105,nthO (d1 P) 90),
  (111,nthO (d1 P) 96),
  (112,nthO (d1 P) 97),
  (118,nthO (d1 P) 103),
  (119,nthO (d1 P) 104),
  (125,nthO (d1 P) 110),
  (126,nthO (d1 P) 111),
  (132,nthO (d1 P) 117),
  (133,nthO (d1 P) 118),
  (139,nthO (d1 P) 124),
  (140,nthO (d1 P) 125),
  (146,nthO (d1 P) 131),
  (147,nthO (d1 P) 132),
  (153,nthO (d1 P) 138),
  (154,nthO (d1 P) 139),
  (160,nthO (d1 P) 145),
  (161,nthO (d1 P) 146),
  (167,nthO (d1 P) 152),
  (168,nthO (d1 P) 153),
  (174,nthO (d1 P) 159),
  (175,nthO (d1 P) 160),
  (181,nthO (d1 P) 166),
  (182,nthO (d1 P) 167),
  (188,nthO (d1 P) 173),
  (189,nthO (d1 P) 174),
  (190,nthO (d1 P) 175),
  (191,nthO (d1 P) 176),
  (237,nthO (d2 P) 45),
  (238,nthO (d2 P) 46),
  (244,nthO (d2 P) 52),
  (245,nthO (d2 P) 53),
  (251,nthO (d2 P) 59),
  (252,nthO (d2 P) 60),
  (258,nthO (d2 P) 66),
  (259,nthO (d2 P) 67),
  (265,nthO (d2 P) 73),
  (266,nthO (d2 P) 74),
  (272,nthO (d2 P) 80),
  (273,nthO (d2 P) 81),
  (279,nthO (d2 P) 87),
  (280,nthO (d2 P) 88),
  (286,nthO (d2 P) 94),
  (287,nthO (d2 P) 95),
  (288,nthO (d3 P) 0),
  (294,nthO (d4 P) 5),
  (295,nthO (d4 P) 6),
  (301,nthO (d4 P) 12),
  (302,nthO (d4 P) 13),
  (308,nthO (d4 P) 19),
  (309,nthO (d4 P) 20),
  (315,nthO (d4 P) 26),
  (316,nthO (d4 P) 27),
  (322,nthO (d4 P) 33),
  (323,nthO (d4 P) 34),
  (329,nthO (d4 P) 40),
  (330,nthO (d4 P) 41),
  (336,nthO (d4 P) 47),
  (337,nthO (d4 P) 48),
  (343,nthO (d4 P) 54),
  (344,nthO (d4 P) 55),
  (345,nthO (d4 P) 56),
  (346,nthO (d4 P) 57),
  (400,nthO (d5 P) 53),
  (418,nthO (d6 P) 12),
  (419,nthO (d6 P) 13),
  (421,nthO (d6 P) 15),
  (422,nthO (d6 P) 16),
  (432,nthO (d6 P) 26),
  (433,nthO (d6 P) 27),
  (439,nthO (d6 P) 33),
  (440,nthO (d6 P) 34),
  (453,nthO (d6 P) 47),
  (454,nthO (d6 P) 48),
  (456,nthO (d6 P) 50),
  (457,nthO (d6 P) 51),
  (473,nthO (d7 P) 12),
  (474,nthO (d7 P) 13),
  (480,nthO (d7 P) 19),
  (481,nthO (d7 P) 20),
  (487,nthO (d7 P) 26),
  (488,nthO (d7 P) 27),
  (494,nthO (d7 P) 33),
  (495,nthO (d7 P) 34),
  (501,nthO (d7 P) 40),
  (502,nthO (d7 P) 41),
  (508,nthO (d7 P) 47),
  (509,nthO (d7 P) 48),
  (515,nthO (d7 P) 54),
  (516,nthO (d7 P) 55),
  (522,nthO (d7 P) 61),
  (523,nthO (d7 P) 62),
  (529,nthO (d7 P) 68),
  (530,nthO (d7 P) 69),
  (536,nthO (d7 P) 75),
  (537,nthO (d7 P) 76),
  (543,nthO (d7 P) 82),
  (544,nthO (d7 P) 83),
  (550,nthO (d7 P) 89),
  (551,nthO (d7 P) 90),
  (557,nthO (d7 P) 96),
  (558,nthO (d7 P) 97),
  (564,nthO (d7 P) 103),
  (565,nthO (d7 P) 104),
  (571,nthO (d7 P) 110),
  (572,nthO (d7 P) 111),
  (578,nthO (d7 P) 117),
  (579,nthO (d7 P) 118),
  (585,nthO (d7 P) 124),
  (586,nthO (d7 P) 125),
  (592,nthO (d7 P) 131),
  (593,nthO (d7 P) 132),
  (599,nthO (d7 P) 138),
  (600,nthO (d7 P) 139),
  (602,nthO (d7 P) 141),
  (603,nthO (d7 P) 142),
  (608,nthO (d7 P) 147),
  (609,nthO (d7 P) 148),
  (610,nthO (d7 P) 149),
  (616,nthO (d7 P) 155),
  (617,nthO (d7 P) 156),
  (623,nthO (d7 P) 162),
  (624,nthO (d7 P) 163),
  (630,nthO (d7 P) 169),
  (631,nthO (d7 P) 170),
  (637,nthO (d7 P) 176),
  (638,nthO (d7 P) 177),
  (644,nthO (d7 P) 183),
  (645,nthO (d7 P) 184),
  (651,nthO (d7 P) 190),
  (652,nthO (d7 P) 191),
  (658,nthO (d7 P) 197),
  (659,nthO (d7 P) 198),
  (665,nthO (d7 P) 204),
  (666,nthO (d7 P) 205),
  (672,nthO (d7 P) 211),
  (673,nthO (d7 P) 212),
  (686,nthO (d8 P) 12),
  (687,nthO (d8 P) 13),
  (691,nthO (d8 P) 17),
  (692,nthO (d8 P) 18),
  (696,nthO (d8 P) 22),
  (697,nthO (d8 P) 23),
  (701,nthO (d8 P) 27),
  (702,nthO (d8 P) 28),
  (704,nthO (d8 P) 30),
  (705,nthO (d8 P) 31),
  (722,nthO (d8 P) 48),
  (723,nthO (d8 P) 49),
  (729,nthO (d8 P) 55),
  (730,nthO (d8 P) 56),
  (736,nthO (d8 P) 62),
  (737,nthO (d8 P) 63),
  (743,nthO (d8 P) 69),
  (744,nthO (d8 P) 70),
  (750,nthO (d8 P) 76),
  (751,nthO (d8 P) 77),
  (757,nthO (d8 P) 83),
  (758,nthO (d8 P) 84),
  (764,nthO (d8 P) 90),
  (765,nthO (d8 P) 91),
  (771,nthO (d8 P) 97),
  (772,nthO (d8 P) 98),
  (778,nthO (d8 P) 104),
  (779,nthO (d8 P) 105),
  (785,nthO (d8 P) 111),
  (786,nthO (d8 P) 112),
  (792,nthO (d8 P) 118),
  (793,nthO (d8 P) 119),
  (799,nthO (d8 P) 125),
  (800,nthO (d8 P) 126),
  (806,nthO (d8 P) 132),
  (807,nthO (d8 P) 133),
  (813,nthO (d8 P) 139),
  (814,nthO (d8 P) 140),
  (820,nthO (d8 P) 146),
  (821,nthO (d8 P) 147),
  (827,nthO (d8 P) 153),
  (828,nthO (d8 P) 154),
  (830,nthO (d8 P) 156),
  (831,(⟨(.type "type"),none,(.cls ⟨Str.ofString "TokenTaker",[(.type "object")],[(R 831),(.type "object")],830,Str.ofString "TokenTaker",true,[],[(R 970)],false,none,false⟩),L [none,none,(some (T "TokenTaker" 1369)),(some (T "TokenTaker" 1377)),(some (.builtin "object.__new__")),(some (.bool true))]⟩)),
  (836,nthO (d9 P) 0),
  (838,nthO (d10 P) 0),
  (839,nthO (d10 P) 1),
  (840,nthO (d10 P) 2),
  (841,nthO (d10 P) 3),
  (854,nthO (d10 P) 16),
  (855,nthO (d10 P) 17),
  (861,nthO (d10 P) 23),
  (862,nthO (d10 P) 24),
  (868,nthO (d10 P) 30),
  (869,nthO (d10 P) 31),
  (875,nthO (d10 P) 37),
  (876,nthO (d10 P) 38),
  (882,nthO (d10 P) 44),
  (883,nthO (d10 P) 45),
  (889,nthO (d10 P) 51),
  (890,nthO (d10 P) 52),
  (896,nthO (d10 P) 58),
  (897,nthO (d10 P) 59),
  (903,nthO (d10 P) 65),
  (904,nthO (d10 P) 66),
  (910,nthO (d10 P) 72),
  (911,nthO (d10 P) 73),
  (917,nthO (d10 P) 79),
  (918,nthO (d10 P) 80),
  (924,nthO (d10 P) 86),
  (925,nthO (d10 P) 87),
  (931,nthO (d10 P) 93),
  (932,nthO (d10 P) 94),
  (938,nthO (d10 P) 100),
  (939,nthO (d10 P) 101),
  (945,nthO (d10 P) 107),
  (946,nthO (d10 P) 108),
  (952,nthO (d10 P) 114),
  (953,nthO (d10 P) 115),
  (959,nthO (d10 P) 121),
  (960,nthO (d10 P) 122),
  (966,nthO (d10 P) 128),
  (967,nthO (d10 P) 129),
  (969,nthO (d10 P) 131),
  (970,(⟨(.type "type"),none,(.cls ⟨Str.ofString "ExprParser",[(R 831)],[(R 970),(R 831),(.type "object")],969,Str.ofString "ExprParser",true,[],[(R 1066)],false,none,false⟩),L [(some (R 842)),none,(some (T "ExprParser" 1614)),(some (T "ExprParser" 1622)),(some (.builtin "object.__new__")),(some (.bool true))]⟩)),
  (985,nthO (d11 P) 12),
  (986,nthO (d11 P) 13),
  (992,nthO (d11 P) 19),
  (993,nthO (d11 P) 20),
  (999,nthO (d11 P) 26),
  (1000,nthO (d11 P) 27),
  (1006,nthO (d11 P) 33),
  (1007,nthO (d11 P) 34),
  (1013,nthO (d11 P) 40),
  (1014,nthO (d11 P) 41),
  (1020,nthO (d11 P) 47),
  (1021,nthO (d11 P) 48),
  (1027,nthO (d11 P) 54),
  (1028,nthO (d11 P) 55),
  (1034,nthO (d11 P) 61),
  (1035,nthO (d11 P) 62),
  (1041,nthO (d11 P) 68),
  (1042,nthO (d11 P) 69),
  (1048,nthO (d11 P) 75),
  (1049,nthO (d11 P) 76),
  (1055,nthO (d11 P) 82),
  (1056,nthO (d11 P) 83),
  (1062,nthO (d11 P) 89),
  (1063,nthO (d11 P) 90),
  (1065,nthO (d11 P) 92),
  (1066,nthO (d11 P) 93),
  (1081,nthO (d11 P) 108),
  (1082,nthO (d11 P) 109),
  (1088,nthO (d11 P) 115),
  (1089,nthO (d11 P) 116),
  (1095,nthO (d11 P) 122),
  (1096,nthO (d11 P) 123),
  (1102,nthO (d11 P) 129),
  (1103,nthO (d11 P) 130),
  (1109,nthO (d11 P) 136),
  (1110,nthO (d11 P) 137),
  (1116,nthO (d11 P) 143),
  (1117,nthO (d11 P) 144),
  (1119,nthO (d11 P) 146),
  (1120,(⟨(.type "type"),none,(.cls ⟨Str.ofString "LiteralParser",[(R 1066)],[(R 1120),(R 1066),(R 970),(R 831),(.type "object")],1119,Str.ofString "LiteralParser",true,[],[(R 1203)],false,none,false⟩),L [(some (R 1069)),none,(some (T "LiteralParser" 1925)),(some (T "LiteralParser" 1933)),(some (.builtin "object.__new__")),(some (.bool true))]⟩)),
  (1123,nthO (d11 P) 150),
  (1136,nthO (d12 P) 12),
  (1137,nthO (d12 P) 13),
  (1143,nthO (d12 P) 19),
  (1144,nthO (d12 P) 20),
  (1150,nthO (d12 P) 26),
  (1151,nthO (d12 P) 27),
  (1157,nthO (d12 P) 33),
  (1158,nthO (d12 P) 34),
  (1164,nthO (d12 P) 40),
  (1165,nthO (d12 P) 41),
  (1171,nthO (d12 P) 47),
  (1172,nthO (d12 P) 48),
  (1178,nthO (d12 P) 54),
  (1179,nthO (d12 P) 55),
  (1185,nthO (d12 P) 61),
  (1186,nthO (d12 P) 62),
  (1192,nthO (d12 P) 68),
  (1193,nthO (d12 P) 69),
  (1199,nthO (d12 P) 75),
  (1200,nthO (d12 P) 76),
  (1202,nthO (d12 P) 78),
  (1203,nthO (d12 P) 79),
  (1211,nthO (d12 P) 87),
  (1212,nthO (d12 P) 88),
  (1218,nthO (d12 P) 94),
  (1219,nthO (d12 P) 95),
  (1225,nthO (d12 P) 101),
  (1226,nthO (d12 P) 102),
  (1232,nthO (d12 P) 108),
  (1233,nthO (d12 P) 109),
  (1239,nthO (d12 P) 115),
  (1240,nthO (d12 P) 116),
  (1246,nthO (d12 P) 122),
  (1247,nthO (d12 P) 123),
  (1253,nthO (d12 P) 129),
  (1254,nthO (d12 P) 130),
  (1258,nthO (d12 P) 134),
  (1259,nthO (d12 P) 135),
  (1265,nthO (d12 P) 141),
  (1266,nthO (d12 P) 142)]
theorem frag_in {K : Frag} {t : BT} {n : Nat} (h1 : (K.all fun p => Nat.blt p.1 n) = true) (h2 : K.map (fun p => t.get p.1) = K.map fun p => some p.2) (h3 : K.map (fun p => alive p.2) = K.map fun p => some p.2) : K.In (absHeap t n {}) := by
  refine Frag.in_of (as := K.map (·.1)) rfl ?_;rw [List.map_map]
  apply List.map_congr_left
  intro p hp;have a1 := List.all_eq_true.mp h1 p hp;have a2 : t.get p.1 = some p.2 := by
    have := List.map_inj_left.mp h2;exact this p hp
  have a3 : alive p.2 = some p.2 := List.map_inj_left.mp h3 p hp;show (absHeap t n {}).get? p.1 = some p.2;rw [abs_get (Nat.blt_eq.mp a1) a2,a3]
theorem KK_h1 (P : Params) : ((KK P).all fun p => Nat.blt p.1 1267) = true := by kernel_rfl
theorem KK_h2 (P : Params) : (KK P).map (fun p => (Tfin P).get p.1) = (KK P).map fun p => some p.2 := by kernel_rfl
theorem KK_h3 (P : Params) : (KK P).map (fun p => alive p.2) = (KK P).map fun p => some p.2 := by kernel_rfl
theorem KK_in (P : Params) : (KK P).In (Hfin P) := frag_in (KK_h1 P) (KK_h2 P) (KK_h3 P)
noncomputable def gmap (P : Params) (x : Str) : Option Value := nsFind (gents P).toArray x
noncomputable def W0 (w : World) (mb : Str→Option Value) (xt : Led) : Wd := ⟨PW,w,KK w.params,qv,looseW qv loose,gmap w.params,mb,xt⟩
theorem len1 {Us : List Value} (h : Us.length = 1) : ∃ a,Us = [a] := List.length_eq_one_iff.mp h
theorem len2 {Us : List Value} (h : Us.length = 2) : ∃ a b,Us = [a,b] := by
  obtain ⟨a,r,rfl⟩ := List.exists_cons_of_length_eq_add_one h;obtain ⟨b,rfl⟩ := len1 (Us := r) (by simpa using h);exact ⟨a,b,rfl⟩
theorem len3 {Us : List Value} (h : Us.length = 3) : ∃ a b c,Us = [a,b,c] := by
  obtain ⟨a,r,rfl⟩ := List.exists_cons_of_length_eq_add_one h;obtain ⟨b,c,rfl⟩ := len2 (Us := r) (by simpa using h);exact ⟨a,b,c,rfl⟩
theorem len4 {Us : List Value} (h : Us.length = 4) : ∃ a b c d,Us = [a,b,c,d] := by
  obtain ⟨a,r,rfl⟩ := List.exists_cons_of_length_eq_add_one h;obtain ⟨b,c,d,rfl⟩ := len3 (Us := r) (by simpa using h);exact ⟨a,b,c,d,rfl⟩
theorem len5 {Us : List Value} (h : Us.length = 5) : ∃ a b c d e,Us = [a,b,c,d,e] := by
  obtain ⟨a,r,rfl⟩ := List.exists_cons_of_length_eq_add_one h;obtain ⟨b,c,d,e,rfl⟩ := len4 (Us := r) (by simpa using h);exact ⟨a,b,c,d,e,rfl⟩
theorem len7 {Us : List Value} (h : Us.length = 7) : ∃ a b c d e f g,Us = [a,b,c,d,e,f,g] := by
  obtain ⟨a,r,rfl⟩ := List.exists_cons_of_length_eq_add_one h;obtain ⟨b,r,rfl⟩ := List.exists_cons_of_length_eq_add_one (show r.length = 5 + 1 by simpa using h);obtain ⟨c,d,e,f,g,rfl⟩ := len5 (Us := r) (by simpa using h);exact ⟨a,b,c,d,e,f,g,rfl⟩
noncomputable def lookE : List DictEntry→List (List Nat)→List Nat→Option Value
  | e :: es,k :: ks,x => if k == x then some e.val else lookE es ks x
  | _,_,_ => none
noncomputable def keyIs (v : Value) (k : List Nat) : Bool := match v with
  | .str s _ => s == ⟨k.toArray⟩
  | _ => false
noncomputable def keysOk : List DictEntry→List (List Nat)→Bool
  | [],[] => true
  | e :: es,k :: ks => keyIs e.key k && keysOk es ks
  | _,_ => false
theorem key_look {e : DictEntry} {k x : List Nat} (h : keyIs e.key k = true) : e.key.isStr ⟨x.toArray⟩ = (k == x) := by
  unfold keyIs at h
  split at h
  · rename_i s t he;rw [he];show (s == _) = _;rw [beq_iff_eq.mp h,Bool.eq_iff_iff,beq_iff_eq,beq_iff_eq]
    constructor
    · intro z; have := congrArg (fun s : Str => s.cps.toList) z; simpa using this
    · rintro rfl; rfl
  · cases h
theorem find_look {x : List Nat} : ∀ {es : List DictEntry} {ks : List (List Nat)},keysOk es ks = true→(es.find? fun e => e.key.isStr ⟨x.toArray⟩).map (·.val) = lookE es ks x
  | [],[],_ => rfl
  | e :: es,k :: ks,h => by
    obtain ⟨a,b⟩ := Bool.and_eq_true_iff.mp h;rw [List.find?_cons,key_look a];unfold lookE
    cases k == x
    · exact find_look b
    · rfl
  | [],_ :: _,h => by cases h
  | _ :: _,[],h => by cases h
theorem noRef_of : ∀ {es : List DictEntry} {ks : List (List Nat)},keysOk es ks = true→es.any (·.refKey) = false
  | [],[],_ => rfl
  | e :: es,k :: ks,h => by
    obtain ⟨a,b⟩ := Bool.and_eq_true_iff.mp h;rw [List.any_cons,noRef_of b,Bool.or_false];unfold DictEntry.refKey;unfold keyIs at a
    split at a
    · rename_i s t he; rw [he]
    · cases a
  | [],_ :: _,h => by cases h
  | _ :: _,[],h => by cases h
theorem nsIn_look {K : Frag} {ns n : Nat} {es : List DictEntry} {ks : List (List Nat)} (h : K.lookup ns = some (oD es n)) (hk : keysOk es ks = true) (x : List Nat) : nsIn K ns ⟨x.toArray⟩ = some (lookE es ks x) := by
  unfold nsIn;rw [h];have f := find_look (x := x) hk;show (match es.find? fun e => e.key.isStr ⟨x.toArray⟩ with | some e => some (some e.val) | none => if es.any (·.refKey) then none else some none) = _
  cases q : es.find? fun e => e.key.isStr ⟨x.toArray⟩ with
  | some e => rw [q] at f; rw [← f]; rfl
  | none => rw [q] at f; rw [← f,noRef_of hk]; rfl
theorem along_hit {K : Frag} {name : Str} {c v : Value} {r : List Value} (h : ownIn K name c = some (some v)) : alongIn K name (c :: r) = some (some v) := by unfold alongIn; rw [h]
theorem along_miss {K : Frag} {name : Str} {c : Value} {r : List Value} {z : Option (Option Value)} (h : ownIn K name c = some none) (h2 : alongIn K name r = z) : alongIn K name (c :: r) = z := by unfold alongIn; rw [h]; exact h2
theorem taker_of {K : Frag} {C : Addr} {x : Str} (h : findIn K (.ref C) x = some none) : takerIn K C x = some none := by unfold takerIn; rw [h]; rfl
variable {w : World} {mb : Str→Option Value} {xt : Led}
noncomputable abbrev f_Node_init : Addr := 28
theorem mkF {w : World} {mb : Str→Option Value} {xt : Led} {f : Addr} {names : List String} {body : List Stmt} {scope : Scope}
    (ho : ∃ oc od osl name qual params doc pm cdv,(W0 w mb xt).K.lookup f = some ⟨oc,od,.func (fnOf name qual params body scope .none .none doc pm none cdv .none),osl⟩∧codeIn (W0 w mb xt).K cdv qual = true ∧
      ∀ Us : List Value,Us.length = names.length→bindArgs (fnOf name qual params body scope .none .none doc pm none cdv .none) ⟨Us,[]⟩ = pure ((names.map Str.ofString).zip Us))
    (loc : ∀ x∈names,scope.names.lookup (Str.ofString x) = some .local := by decide +kernel) (nd : names.Nodup := by decide +kernel) (co : scope.isCoroutine = false := by kernel_rfl) (gen : scope.isGenerator = false := by kernel_rfl) (kind : scope.kind = .function := by kernel_rfl)
    (cell : ∀ x∈scope.names,x.2 ≠ .cell := by decide +kernel) : FnAt (W0 w mb xt) f names body scope := ⟨ho,loc,nd,co,gen,kind,cell⟩
theorem F_Node_init : FnAt (W0 w mb xt) 28 ["self","kind","line","parts"] (sBody (fM 1 0)) (sScope (fM 1 0)) := mkF ⟨.type "function",none,#[],Str.ofString "__init__",Str.ofString "Node.__init__",sPar (fM 1 0),.none,(T "js.nodes" 187),R 27,by kernel_rfl,by kernel_rfl,fun Us h => by obtain ⟨a0,a1,a2,a3,rfl⟩ := len4 h; kernel_rfl⟩
noncomputable abbrev f_is_white : Addr := 245
theorem F_is_white : FnAt (W0 w mb xt) 245 ["code"] (sBody (fT 43)) (sScope (fT 43)) := mkF ⟨.type "function",none,#[],Str.ofString "is_white",Str.ofString "is_white",sPar (fT 43),.none,(T "js.chars" 473),R 244,by kernel_rfl,by kernel_rfl,fun Us h => by obtain ⟨a0,rfl⟩ := len1 h; kernel_rfl⟩
noncomputable abbrev f_is_line_end : Addr := 252
theorem F_is_line_end : FnAt (W0 w mb xt) 252 ["code"] (sBody (fT 44)) (sScope (fT 44)) := mkF ⟨.type "function",none,#[],Str.ofString "is_line_end",Str.ofString "is_line_end",sPar (fT 44),.none,(T "js.chars" 473),R 251,by kernel_rfl,by kernel_rfl,fun Us h => by obtain ⟨a0,rfl⟩ := len1 h; kernel_rfl⟩
noncomputable abbrev f_is_digit : Addr := 259
theorem F_is_digit : FnAt (W0 w mb xt) 259 ["code"] (sBody (fT 45)) (sScope (fT 45)) := mkF ⟨.type "function",none,#[],Str.ofString "is_digit",Str.ofString "is_digit",sPar (fT 45),.none,(T "js.chars" 473),R 258,by kernel_rfl,by kernel_rfl,fun Us h => by obtain ⟨a0,rfl⟩ := len1 h; kernel_rfl⟩
noncomputable abbrev f_is_id_start : Addr := 280
theorem F_is_id_start : FnAt (W0 w mb xt) 280 ["code"] (sBody (fT 48)) (sScope (fT 48)) := mkF ⟨.type "function",none,#[],Str.ofString "is_id_start",Str.ofString "is_id_start",sPar (fT 48),.none,(T "js.chars" 473),R 279,by kernel_rfl,by kernel_rfl,fun Us h => by obtain ⟨a0,rfl⟩ := len1 h; kernel_rfl⟩
noncomputable abbrev f_is_id_part : Addr := 287
theorem F_is_id_part : FnAt (W0 w mb xt) 287 ["code"] (sBody (fT 49)) (sScope (fT 49)) := mkF ⟨.type "function",none,#[],Str.ofString "is_id_part",Str.ofString "is_id_part",sPar (fT 49),.none,(T "js.chars" 473),R 286,by kernel_rfl,by kernel_rfl,fun Us h => by obtain ⟨a0,rfl⟩ := len1 h; kernel_rfl⟩
noncomputable abbrev f_code_at : Addr := 295
theorem F_code_at : FnAt (W0 w mb xt) 295 ["text","at"] (sBody (fT 52)) (sScope (fT 52)) := mkF ⟨.type "function",none,#[],Str.ofString "code_at",Str.ofString "code_at",sPar (fT 52),.none,(T "js.escapes" 629),R 294,by kernel_rfl,by kernel_rfl,fun Us h => by obtain ⟨a0,a1,rfl⟩ := len2 h; kernel_rfl⟩
noncomputable abbrev f_line_end_size : Addr := 309
theorem F_line_end_size : FnAt (W0 w mb xt) 309 ["text","at"] (sBody (fT 54)) (sScope (fT 54)) := mkF ⟨.type "function",none,#[],Str.ofString "line_end_size",Str.ofString "line_end_size",sPar (fT 54),.none,(T "js.escapes" 629),R 308,by kernel_rfl,by kernel_rfl,fun Us h => by obtain ⟨a0,a1,rfl⟩ := len2 h; kernel_rfl⟩
noncomputable abbrev f_Token_init : Addr := 419
theorem F_Token_init : FnAt (W0 w mb xt) 419 ["self","kind","value","line","is_behind_line","start","end"] (sBody (fM 66 0)) (sScope (fM 66 0)) := mkF ⟨.type "function",none,#[],Str.ofString "__init__",Str.ofString "Token.__init__",sPar (fM 66 0),.none,(T "js.tokens" 736),R 418,by kernel_rfl,by kernel_rfl,fun Us h => by obtain ⟨a0,a1,a2,a3,a4,a5,a6,rfl⟩ := len7 h; kernel_rfl⟩
noncomputable abbrev f_is_keyword : Addr := 433
theorem F_is_keyword : FnAt (W0 w mb xt) 433 ["word"] (sBody (fT 67)) (sScope (fT 67)) := mkF ⟨.type "function",none,#[],Str.ofString "is_keyword",Str.ofString "is_keyword",sPar (fT 67),.none,(T "js.tokens" 736),R 432,by kernel_rfl,by kernel_rfl,fun Us h => by obtain ⟨a0,rfl⟩ := len1 h; kernel_rfl⟩
noncomputable abbrev f_punct_at : Addr := 440
theorem F_punct_at : FnAt (W0 w mb xt) 440 ["text","at"] (sBody (fT 68)) (sScope (fT 68)) := mkF ⟨.type "function",none,#[],Str.ofString "punct_at",Str.ofString "punct_at",sPar (fT 68),.none,(T "js.tokens" 736),R 439,by kernel_rfl,by kernel_rfl,fun Us h => by obtain ⟨a0,a1,rfl⟩ := len2 h; kernel_rfl⟩
noncomputable abbrev f_Lexer_init : Addr := 474
theorem F_Lexer_init : FnAt (W0 w mb xt) 474 ["self","text"] (sBody (fM 72 0)) (sScope (fM 72 0)) := mkF ⟨.type "function",none,#[],Str.ofString "__init__",Str.ofString "Lexer.__init__",sPar (fM 72 0),.none,(T "js.lexer" 1015),R 473,by kernel_rfl,by kernel_rfl,fun Us h => by obtain ⟨a0,a1,rfl⟩ := len2 h; kernel_rfl⟩
noncomputable abbrev f_Lexer_next : Addr := 481
theorem F_Lexer_next : FnAt (W0 w mb xt) 481 ["self"] (sBody (fM 72 1)) (sScope (fM 72 1)) := mkF ⟨.type "function",none,#[],Str.ofString "next",Str.ofString "Lexer.next",sPar (fM 72 1),.none,(T "js.lexer" 1015),R 480,by kernel_rfl,by kernel_rfl,fun Us h => by obtain ⟨a0,rfl⟩ := len1 h; kernel_rfl⟩
noncomputable abbrev f_Lexer_end_line : Addr := 495
theorem F_Lexer_end_line : FnAt (W0 w mb xt) 495 ["self"] (sBody (fM 72 3)) (sScope (fM 72 3)) := mkF ⟨.type "function",none,#[],Str.ofString "end_line",Str.ofString "Lexer.end_line",sPar (fM 72 3),.none,(T "js.lexer" 1015),R 494,by kernel_rfl,by kernel_rfl,fun Us h => by obtain ⟨a0,rfl⟩ := len1 h; kernel_rfl⟩
noncomputable abbrev f_Lexer_skip_blanks : Addr := 502
theorem F_Lexer_skip_blanks : FnAt (W0 w mb xt) 502 ["self"] (sBody (fM 72 4)) (sScope (fM 72 4)) := mkF ⟨.type "function",none,#[],Str.ofString "skip_blanks",Str.ofString "Lexer.skip_blanks",sPar (fM 72 4),.none,(T "js.lexer" 1015),R 501,by kernel_rfl,by kernel_rfl,fun Us h => by obtain ⟨a0,rfl⟩ := len1 h; kernel_rfl⟩
noncomputable abbrev f_Lexer_name_sign : Addr := 516
theorem F_Lexer_name_sign : FnAt (W0 w mb xt) 516 ["self","is_first"] (sBody (fM 72 6)) (sScope (fM 72 6)) := mkF ⟨.type "function",none,#[],Str.ofString "name_sign",Str.ofString "Lexer.name_sign",sPar (fM 72 6),.none,(T "js.lexer" 1015),R 515,by kernel_rfl,by kernel_rfl,fun Us h => by obtain ⟨a0,a1,rfl⟩ := len2 h; kernel_rfl⟩
noncomputable abbrev f_Lexer_read_name : Addr := 523
theorem F_Lexer_read_name : FnAt (W0 w mb xt) 523 ["self","token"] (sBody (fM 72 7)) (sScope (fM 72 7)) := mkF ⟨.type "function",none,#[],Str.ofString "read_name",Str.ofString "Lexer.read_name",sPar (fM 72 7),.none,(T "js.lexer" 1015),R 522,by kernel_rfl,by kernel_rfl,fun Us h => by obtain ⟨a0,a1,rfl⟩ := len2 h; kernel_rfl⟩
noncomputable abbrev f_Lexer_regex : Addr := 572
theorem F_Lexer_regex : FnAt (W0 w mb xt) 572 ["self","token"] (sBody (fM 72 14)) (sScope (fM 72 14)) := mkF ⟨.type "function",none,#[],Str.ofString "regex",Str.ofString "Lexer.regex",sPar (fM 72 14),.none,(T "js.lexer" 1015),R 571,by kernel_rfl,by kernel_rfl,fun Us h => by obtain ⟨a0,a1,rfl⟩ := len2 h; kernel_rfl⟩
noncomputable abbrev f_Lexer_regex_body : Addr := 579
theorem F_Lexer_regex_body : FnAt (W0 w mb xt) 579 ["self"] (sBody (fM 72 15)) (sScope (fM 72 15)) := mkF ⟨.type "function",none,#[],Str.ofString "regex_body",Str.ofString "Lexer.regex_body",sPar (fM 72 15),.none,(T "js.lexer" 1015),R 578,by kernel_rfl,by kernel_rfl,fun Us h => by obtain ⟨a0,rfl⟩ := len1 h; kernel_rfl⟩
noncomputable abbrev f_Lexer_read_punct : Addr := 600
theorem F_Lexer_read_punct : FnAt (W0 w mb xt) 600 ["self","token"] (sBody (fM 72 18)) (sScope (fM 72 18)) := mkF ⟨.type "function",none,#[],Str.ofString "read_punct",Str.ofString "Lexer.read_punct",sPar (fM 72 18),.none,(T "js.lexer" 1015),R 599,by kernel_rfl,by kernel_rfl,fun Us h => by obtain ⟨a0,a1,rfl⟩ := len2 h; kernel_rfl⟩
noncomputable abbrev f_name_fault : Addr := 617
theorem F_name_fault : FnAt (W0 w mb xt) 617 ["name","is_strict"] (sBody (fT 77)) (sScope (fT 77)) := mkF ⟨.type "function",none,#[],Str.ofString "name_fault",Str.ofString "name_fault",sPar (fT 77),.none,(T "js.strictness" 1218),R 616,by kernel_rfl,by kernel_rfl,fun Us h => by obtain ⟨a0,a1,rfl⟩ := len2 h; kernel_rfl⟩
noncomputable abbrev f_binding_fault : Addr := 624
theorem F_binding_fault : FnAt (W0 w mb xt) 624 ["name","is_strict"] (sBody (fT 78)) (sScope (fT 78)) := mkF ⟨.type "function",none,#[],Str.ofString "binding_fault",Str.ofString "binding_fault",sPar (fT 78),.none,(T "js.strictness" 1218),R 623,by kernel_rfl,by kernel_rfl,fun Us h => by obtain ⟨a0,a1,rfl⟩ := len2 h; kernel_rfl⟩
noncomputable abbrev f_target_fault : Addr := 645
theorem F_target_fault : FnAt (W0 w mb xt) 645 ["kind","name","is_strict"] (sBody (fT 81)) (sScope (fT 81)) := mkF ⟨.type "function",none,#[],Str.ofString "target_fault",Str.ofString "target_fault",sPar (fT 81),.none,(T "js.strictness" 1218),R 644,by kernel_rfl,by kernel_rfl,fun Us h => by obtain ⟨a0,a1,a2,rfl⟩ := len3 h; kernel_rfl⟩
noncomputable abbrev f_delete_fault : Addr := 652
theorem F_delete_fault : FnAt (W0 w mb xt) 652 ["kind","is_strict"] (sBody (fT 82)) (sScope (fT 82)) := mkF ⟨.type "function",none,#[],Str.ofString "delete_fault",Str.ofString "delete_fault",sPar (fT 82),.none,(T "js.strictness" 1218),R 651,by kernel_rfl,by kernel_rfl,fun Us h => by obtain ⟨a0,a1,rfl⟩ := len2 h; kernel_rfl⟩
noncomputable abbrev f_Jumps_init : Addr := 687
theorem F_Jumps_init : FnAt (W0 w mb xt) 687 ["self"] (sBody (fM 86 0)) (sScope (fM 86 0)) := mkF ⟨.type "function",none,#[],Str.ofString "__init__",Str.ofString "Jumps.__init__",sPar (fM 86 0),.none,(T "js.strictness" 1218),R 686,by kernel_rfl,by kernel_rfl,fun Us h => by obtain ⟨a0,rfl⟩ := len1 h; kernel_rfl⟩
noncomputable abbrev f_Jumps_label_fault : Addr := 692
theorem F_Jumps_label_fault : FnAt (W0 w mb xt) 692 ["self","name"] (sBody (fM 86 1)) (sScope (fM 86 1)) := mkF ⟨.type "function",none,#[],Str.ofString "label_fault",Str.ofString "Jumps.label_fault",sPar (fM 86 1),.none,(T "js.strictness" 1218),R 691,by kernel_rfl,by kernel_rfl,fun Us h => by obtain ⟨a0,a1,rfl⟩ := len2 h; kernel_rfl⟩
theorem F_TokenTaker_init : FnAt (W0 w mb xt) 723 ["self","text"] (sBody (fM 88 0)) (sScope (fM 88 0)) := mkF ⟨.type "function",none,#[],Str.ofString "__init__",Str.ofString "TokenTaker.__init__",sPar (fM 88 0),.none,(T "js.parse_base" 1367),R 722,by kernel_rfl,by kernel_rfl,fun Us h => by obtain ⟨a0,a1,rfl⟩ := len2 h; kernel_rfl⟩
noncomputable abbrev f_TokenTaker_take : Addr := 730
theorem F_TokenTaker_take : FnAt (W0 w mb xt) 730 ["self"] (sBody (fM 88 1)) (sScope (fM 88 1)) := mkF ⟨.type "function",none,#[],Str.ofString "take",Str.ofString "TokenTaker.take",sPar (fM 88 1),.none,(T "js.parse_base" 1367),R 729,by kernel_rfl,by kernel_rfl,fun Us h => by obtain ⟨a0,rfl⟩ := len1 h; kernel_rfl⟩
noncomputable abbrev f_TokenTaker_peek : Addr := 737
theorem F_TokenTaker_peek : FnAt (W0 w mb xt) 737 ["self"] (sBody (fM 88 2)) (sScope (fM 88 2)) := mkF ⟨.type "function",none,#[],Str.ofString "peek",Str.ofString "TokenTaker.peek",sPar (fM 88 2),.none,(T "js.parse_base" 1367),R 736,by kernel_rfl,by kernel_rfl,fun Us h => by obtain ⟨a0,rfl⟩ := len1 h; kernel_rfl⟩
noncomputable abbrev f_TokenTaker_is_sign : Addr := 744
theorem F_TokenTaker_is_sign : FnAt (W0 w mb xt) 744 ["self","sign"] (sBody (fM 88 3)) (sScope (fM 88 3)) := mkF ⟨.type "function",none,#[],Str.ofString "is_sign",Str.ofString "TokenTaker.is_sign",sPar (fM 88 3),.none,(T "js.parse_base" 1367),R 743,by kernel_rfl,by kernel_rfl,fun Us h => by obtain ⟨a0,a1,rfl⟩ := len2 h; kernel_rfl⟩
noncomputable abbrev f_TokenTaker_is_word : Addr := 751
theorem F_TokenTaker_is_word : FnAt (W0 w mb xt) 751 ["self","word"] (sBody (fM 88 4)) (sScope (fM 88 4)) := mkF ⟨.type "function",none,#[],Str.ofString "is_word",Str.ofString "TokenTaker.is_word",sPar (fM 88 4),.none,(T "js.parse_base" 1367),R 750,by kernel_rfl,by kernel_rfl,fun Us h => by obtain ⟨a0,a1,rfl⟩ := len2 h; kernel_rfl⟩
noncomputable abbrev f_TokenTaker_eat : Addr := 758
theorem F_TokenTaker_eat : FnAt (W0 w mb xt) 758 ["self","sign"] (sBody (fM 88 5)) (sScope (fM 88 5)) := mkF ⟨.type "function",none,#[],Str.ofString "eat",Str.ofString "TokenTaker.eat",sPar (fM 88 5),.none,(T "js.parse_base" 1367),R 757,by kernel_rfl,by kernel_rfl,fun Us h => by obtain ⟨a0,a1,rfl⟩ := len2 h; kernel_rfl⟩
noncomputable abbrev f_TokenTaker_need : Addr := 765
theorem F_TokenTaker_need : FnAt (W0 w mb xt) 765 ["self","sign"] (sBody (fM 88 6)) (sScope (fM 88 6)) := mkF ⟨.type "function",none,#[],Str.ofString "need",Str.ofString "TokenTaker.need",sPar (fM 88 6),.none,(T "js.parse_base" 1367),R 764,by kernel_rfl,by kernel_rfl,fun Us h => by obtain ⟨a0,a1,rfl⟩ := len2 h; kernel_rfl⟩
noncomputable abbrev f_TokenTaker_fail_for : Addr := 786
theorem F_TokenTaker_fail_for : FnAt (W0 w mb xt) 786 ["self","fault"] (sBody (fM 88 9)) (sScope (fM 88 9)) := mkF ⟨.type "function",none,#[],Str.ofString "fail_for",Str.ofString "TokenTaker.fail_for",sPar (fM 88 9),.none,(T "js.parse_base" 1367),R 785,by kernel_rfl,by kernel_rfl,fun Us h => by obtain ⟨a0,a1,rfl⟩ := len2 h; kernel_rfl⟩
noncomputable abbrev f_TokenTaker_need_name : Addr := 800
theorem F_TokenTaker_need_name : FnAt (W0 w mb xt) 800 ["self"] (sBody (fM 88 11)) (sScope (fM 88 11)) := mkF ⟨.type "function",none,#[],Str.ofString "need_name",Str.ofString "TokenTaker.need_name",sPar (fM 88 11),.none,(T "js.parse_base" 1367),R 799,by kernel_rfl,by kernel_rfl,fun Us h => by obtain ⟨a0,rfl⟩ := len1 h; kernel_rfl⟩
noncomputable abbrev f_TokenTaker_need_binding : Addr := 807
theorem F_TokenTaker_need_binding : FnAt (W0 w mb xt) 807 ["self"] (sBody (fM 88 12)) (sScope (fM 88 12)) := mkF ⟨.type "function",none,#[],Str.ofString "need_binding",Str.ofString "TokenTaker.need_binding",sPar (fM 88 12),.none,(T "js.parse_base" 1367),R 806,by kernel_rfl,by kernel_rfl,fun Us h => by obtain ⟨a0,rfl⟩ := len1 h; kernel_rfl⟩
noncomputable abbrev f_TokenTaker_can_end : Addr := 821
theorem F_TokenTaker_can_end : FnAt (W0 w mb xt) 821 ["self"] (sBody (fM 88 14)) (sScope (fM 88 14)) := mkF ⟨.type "function",none,#[],Str.ofString "can_end",Str.ofString "TokenTaker.can_end",sPar (fM 88 14),.none,(T "js.parse_base" 1367),R 820,by kernel_rfl,by kernel_rfl,fun Us h => by obtain ⟨a0,rfl⟩ := len1 h; kernel_rfl⟩
noncomputable abbrev f_TokenTaker_end_statement : Addr := 828
theorem F_TokenTaker_end_statement : FnAt (W0 w mb xt) 828 ["self"] (sBody (fM 88 15)) (sScope (fM 88 15)) := mkF ⟨.type "function",none,#[],Str.ofString "end_statement",Str.ofString "TokenTaker.end_statement",sPar (fM 88 15),.none,(T "js.parse_base" 1367),R 827,by kernel_rfl,by kernel_rfl,fun Us h => by obtain ⟨a0,rfl⟩ := len1 h; kernel_rfl⟩
noncomputable abbrev f_ExprParser_expression : Addr := 862
theorem F_ExprParser_expression : FnAt (W0 w mb xt) 862 ["self","can_in"] (sBody (fM 95 1)) (sScope (fM 95 1)) := mkF ⟨.type "function",none,#[],Str.ofString "expression",Str.ofString "ExprParser.expression",sPar (fM 95 1),.none,(T "js.parse_expr" 1517),R 861,by kernel_rfl,by kernel_rfl,fun Us h => by obtain ⟨a0,a1,rfl⟩ := len2 h; kernel_rfl⟩
noncomputable abbrev f_ExprParser_assignment : Addr := 869
theorem F_ExprParser_assignment : FnAt (W0 w mb xt) 869 ["self","can_in"] (sBody (fM 95 2)) (sScope (fM 95 2)) := mkF ⟨.type "function",none,#[],Str.ofString "assignment",Str.ofString "ExprParser.assignment",sPar (fM 95 2),.none,(T "js.parse_expr" 1517),R 868,by kernel_rfl,by kernel_rfl,fun Us h => by obtain ⟨a0,a1,rfl⟩ := len2 h; kernel_rfl⟩
noncomputable abbrev f_ExprParser_need_target : Addr := 876
theorem F_ExprParser_need_target : FnAt (W0 w mb xt) 876 ["self","node"] (sBody (fM 95 3)) (sScope (fM 95 3)) := mkF ⟨.type "function",none,#[],Str.ofString "need_target",Str.ofString "ExprParser.need_target",sPar (fM 95 3),.none,(T "js.parse_expr" 1517),R 875,by kernel_rfl,by kernel_rfl,fun Us h => by obtain ⟨a0,a1,rfl⟩ := len2 h; kernel_rfl⟩
noncomputable abbrev f_ExprParser_conditional : Addr := 883
theorem F_ExprParser_conditional : FnAt (W0 w mb xt) 883 ["self","can_in"] (sBody (fM 95 4)) (sScope (fM 95 4)) := mkF ⟨.type "function",none,#[],Str.ofString "conditional",Str.ofString "ExprParser.conditional",sPar (fM 95 4),.none,(T "js.parse_expr" 1517),R 882,by kernel_rfl,by kernel_rfl,fun Us h => by obtain ⟨a0,a1,rfl⟩ := len2 h; kernel_rfl⟩
noncomputable abbrev f_ExprParser_priority : Addr := 890
theorem F_ExprParser_priority : FnAt (W0 w mb xt) 890 ["self","can_in"] (sBody (fM 95 5)) (sScope (fM 95 5)) := mkF ⟨.type "function",none,#[],Str.ofString "priority",Str.ofString "ExprParser.priority",sPar (fM 95 5),.none,(T "js.parse_expr" 1517),R 889,by kernel_rfl,by kernel_rfl,fun Us h => by obtain ⟨a0,a1,rfl⟩ := len2 h; kernel_rfl⟩
noncomputable abbrev f_ExprParser_binary : Addr := 897
theorem F_ExprParser_binary : FnAt (W0 w mb xt) 897 ["self","least","can_in"] (sBody (fM 95 6)) (sScope (fM 95 6)) := mkF ⟨.type "function",none,#[],Str.ofString "binary",Str.ofString "ExprParser.binary",sPar (fM 95 6),.none,(T "js.parse_expr" 1517),R 896,by kernel_rfl,by kernel_rfl,fun Us h => by obtain ⟨a0,a1,a2,rfl⟩ := len3 h; kernel_rfl⟩
noncomputable abbrev f_ExprParser_unary : Addr := 904
theorem F_ExprParser_unary : FnAt (W0 w mb xt) 904 ["self"] (sBody (fM 95 7)) (sScope (fM 95 7)) := mkF ⟨.type "function",none,#[],Str.ofString "unary",Str.ofString "ExprParser.unary",sPar (fM 95 7),.none,(T "js.parse_expr" 1517),R 903,by kernel_rfl,by kernel_rfl,fun Us h => by obtain ⟨a0,rfl⟩ := len1 h; kernel_rfl⟩
noncomputable abbrev f_ExprParser_postfix : Addr := 911
theorem F_ExprParser_postfix : FnAt (W0 w mb xt) 911 ["self"] (sBody (fM 95 8)) (sScope (fM 95 8)) := mkF ⟨.type "function",none,#[],Str.ofString "postfix",Str.ofString "ExprParser.postfix",sPar (fM 95 8),.none,(T "js.parse_expr" 1517),R 910,by kernel_rfl,by kernel_rfl,fun Us h => by obtain ⟨a0,rfl⟩ := len1 h; kernel_rfl⟩
noncomputable abbrev f_ExprParser_left_hand : Addr := 918
theorem F_ExprParser_left_hand : FnAt (W0 w mb xt) 918 ["self"] (sBody (fM 95 9)) (sScope (fM 95 9)) := mkF ⟨.type "function",none,#[],Str.ofString "left_hand",Str.ofString "ExprParser.left_hand",sPar (fM 95 9),.none,(T "js.parse_expr" 1517),R 917,by kernel_rfl,by kernel_rfl,fun Us h => by obtain ⟨a0,rfl⟩ := len1 h; kernel_rfl⟩
noncomputable abbrev f_ExprParser_with_members : Addr := 925
theorem F_ExprParser_with_members : FnAt (W0 w mb xt) 925 ["self","node"] (sBody (fM 95 10)) (sScope (fM 95 10)) := mkF ⟨.type "function",none,#[],Str.ofString "with_members",Str.ofString "ExprParser.with_members",sPar (fM 95 10),.none,(T "js.parse_expr" 1517),R 924,by kernel_rfl,by kernel_rfl,fun Us h => by obtain ⟨a0,a1,rfl⟩ := len2 h; kernel_rfl⟩
noncomputable abbrev f_ExprParser_arguments : Addr := 939
theorem F_ExprParser_arguments : FnAt (W0 w mb xt) 939 ["self"] (sBody (fM 95 12)) (sScope (fM 95 12)) := mkF ⟨.type "function",none,#[],Str.ofString "arguments",Str.ofString "ExprParser.arguments",sPar (fM 95 12),.none,(T "js.parse_expr" 1517),R 938,by kernel_rfl,by kernel_rfl,fun Us h => by obtain ⟨a0,rfl⟩ := len1 h; kernel_rfl⟩
noncomputable abbrev f_ExprParser_primary : Addr := 946
theorem F_ExprParser_primary : FnAt (W0 w mb xt) 946 ["self"] (sBody (fM 95 13)) (sScope (fM 95 13)) := mkF ⟨.type "function",none,#[],Str.ofString "primary",Str.ofString "ExprParser.primary",sPar (fM 95 13),.none,(T "js.parse_expr" 1517),R 945,by kernel_rfl,by kernel_rfl,fun Us h => by obtain ⟨a0,rfl⟩ := len1 h; kernel_rfl⟩
noncomputable abbrev f_ExprParser_array : Addr := 960
theorem F_ExprParser_array : FnAt (W0 w mb xt) 960 ["self"] (sBody (fM 95 15)) (sScope (fM 95 15)) := mkF ⟨.type "function",none,#[],Str.ofString "array",Str.ofString "ExprParser.array",sPar (fM 95 15),.none,(T "js.parse_expr" 1517),R 959,by kernel_rfl,by kernel_rfl,fun Us h => by obtain ⟨a0,rfl⟩ := len1 h; kernel_rfl⟩
noncomputable abbrev f_SimpleParser_body : Addr := 986
theorem F_SimpleParser_body : FnAt (W0 w mb xt) 986 ["self","is_end"] (sBody (fM 97 0)) (sScope (fM 97 0)) := mkF ⟨.type "function",none,#[],Str.ofString "body",Str.ofString "SimpleParser.body",sPar (fM 97 0),.none,(T "js.parse_simple" 1785),R 985,by kernel_rfl,by kernel_rfl,fun Us h => by obtain ⟨a0,a1,rfl⟩ := len2 h; kernel_rfl⟩
noncomputable abbrev f_SimpleParser_at_end : Addr := 993
theorem F_SimpleParser_at_end : FnAt (W0 w mb xt) 993 ["self","is_end"] (sBody (fM 97 1)) (sScope (fM 97 1)) := mkF ⟨.type "function",none,#[],Str.ofString "at_end",Str.ofString "SimpleParser.at_end",sPar (fM 97 1),.none,(T "js.parse_simple" 1785),R 992,by kernel_rfl,by kernel_rfl,fun Us h => by obtain ⟨a0,a1,rfl⟩ := len2 h; kernel_rfl⟩
noncomputable abbrev f_SimpleParser_element : Addr := 1000
theorem F_SimpleParser_element : FnAt (W0 w mb xt) 1000 ["self"] (sBody (fM 97 2)) (sScope (fM 97 2)) := mkF ⟨.type "function",none,#[],Str.ofString "element",Str.ofString "SimpleParser.element",sPar (fM 97 2),.none,(T "js.parse_simple" 1785),R 999,by kernel_rfl,by kernel_rfl,fun Us h => by obtain ⟨a0,rfl⟩ := len1 h; kernel_rfl⟩
noncomputable abbrev f_SimpleParser_statement : Addr := 1007
theorem F_SimpleParser_statement : FnAt (W0 w mb xt) 1007 ["self"] (sBody (fM 97 3)) (sScope (fM 97 3)) := mkF ⟨.type "function",none,#[],Str.ofString "statement",Str.ofString "SimpleParser.statement",sPar (fM 97 3),.none,(T "js.parse_simple" 1785),R 1006,by kernel_rfl,by kernel_rfl,fun Us h => by obtain ⟨a0,rfl⟩ := len1 h; kernel_rfl⟩
noncomputable abbrev f_SimpleParser_plain_expression : Addr := 1014
theorem F_SimpleParser_plain_expression : FnAt (W0 w mb xt) 1014 ["self"] (sBody (fM 97 4)) (sScope (fM 97 4)) := mkF ⟨.type "function",none,#[],Str.ofString "plain_expression",Str.ofString "SimpleParser.plain_expression",sPar (fM 97 4),.none,(T "js.parse_simple" 1785),R 1013,by kernel_rfl,by kernel_rfl,fun Us h => by obtain ⟨a0,rfl⟩ := len1 h; kernel_rfl⟩
noncomputable abbrev f_SimpleParser_word_statement : Addr := 1021
theorem F_SimpleParser_word_statement : FnAt (W0 w mb xt) 1021 ["self","word","pending"] (sBody (fM 97 5)) (sScope (fM 97 5)) := mkF ⟨.type "function",none,#[],Str.ofString "word_statement",Str.ofString "SimpleParser.word_statement",sPar (fM 97 5),.none,(T "js.parse_simple" 1785),R 1020,by kernel_rfl,by kernel_rfl,fun Us h => by obtain ⟨a0,a1,a2,rfl⟩ := len3 h; kernel_rfl⟩
noncomputable abbrev f_SimpleParser_block : Addr := 1035
theorem F_SimpleParser_block : FnAt (W0 w mb xt) 1035 ["self"] (sBody (fM 97 7)) (sScope (fM 97 7)) := mkF ⟨.type "function",none,#[],Str.ofString "block",Str.ofString "SimpleParser.block",sPar (fM 97 7),.none,(T "js.parse_simple" 1785),R 1034,by kernel_rfl,by kernel_rfl,fun Us h => by obtain ⟨a0,rfl⟩ := len1 h; kernel_rfl⟩
noncomputable abbrev f_SimpleParser_variables : Addr := 1042
theorem F_SimpleParser_variables : FnAt (W0 w mb xt) 1042 ["self","can_in"] (sBody (fM 97 8)) (sScope (fM 97 8)) := mkF ⟨.type "function",none,#[],Str.ofString "variables",Str.ofString "SimpleParser.variables",sPar (fM 97 8),.none,(T "js.parse_simple" 1785),R 1041,by kernel_rfl,by kernel_rfl,fun Us h => by obtain ⟨a0,a1,rfl⟩ := len2 h; kernel_rfl⟩
noncomputable abbrev f_SimpleParser_labelled : Addr := 1049
theorem F_SimpleParser_labelled : FnAt (W0 w mb xt) 1049 ["self","pending"] (sBody (fM 97 9)) (sScope (fM 97 9)) := mkF ⟨.type "function",none,#[],Str.ofString "labelled",Str.ofString "SimpleParser.labelled",sPar (fM 97 9),.none,(T "js.parse_simple" 1785),R 1048,by kernel_rfl,by kernel_rfl,fun Us h => by obtain ⟨a0,a1,rfl⟩ := len2 h; kernel_rfl⟩
noncomputable abbrev f_SimpleParser_leaving : Addr := 1063
theorem F_SimpleParser_leaving : FnAt (W0 w mb xt) 1063 ["self","word","line"] (sBody (fM 97 11)) (sScope (fM 97 11)) := mkF ⟨.type "function",none,#[],Str.ofString "leaving",Str.ofString "SimpleParser.leaving",sPar (fM 97 11),.none,(T "js.parse_simple" 1785),R 1062,by kernel_rfl,by kernel_rfl,fun Us h => by obtain ⟨a0,a1,a2,rfl⟩ := len3 h; kernel_rfl⟩
noncomputable abbrev f_StmtParser_large_statement : Addr := 1137
theorem F_StmtParser_large_statement : FnAt (W0 w mb xt) 1137 ["self","word","line","pending"] (sBody (fM 102 0)) (sScope (fM 102 0)) := mkF ⟨.type "function",none,#[],Str.ofString "large_statement",Str.ofString "StmtParser.large_statement",sPar (fM 102 0),.none,(T "js.parse_stmt" 2005),R 1136,by kernel_rfl,by kernel_rfl,fun Us h => by obtain ⟨a0,a1,a2,a3,rfl⟩ := len4 h; kernel_rfl⟩
noncomputable abbrev f_StmtParser_condition : Addr := 1144
theorem F_StmtParser_condition : FnAt (W0 w mb xt) 1144 ["self"] (sBody (fM 102 1)) (sScope (fM 102 1)) := mkF ⟨.type "function",none,#[],Str.ofString "condition",Str.ofString "StmtParser.condition",sPar (fM 102 1),.none,(T "js.parse_stmt" 2005),R 1143,by kernel_rfl,by kernel_rfl,fun Us h => by obtain ⟨a0,rfl⟩ := len1 h; kernel_rfl⟩
noncomputable abbrev f_StmtParser_choice : Addr := 1151
theorem F_StmtParser_choice : FnAt (W0 w mb xt) 1151 ["self","line"] (sBody (fM 102 2)) (sScope (fM 102 2)) := mkF ⟨.type "function",none,#[],Str.ofString "choice",Str.ofString "StmtParser.choice",sPar (fM 102 2),.none,(T "js.parse_stmt" 2005),R 1150,by kernel_rfl,by kernel_rfl,fun Us h => by obtain ⟨a0,a1,rfl⟩ := len2 h; kernel_rfl⟩
noncomputable abbrev f_StmtParser_loop : Addr := 1158
theorem F_StmtParser_loop : FnAt (W0 w mb xt) 1158 ["self","word","line","pending"] (sBody (fM 102 3)) (sScope (fM 102 3)) := mkF ⟨.type "function",none,#[],Str.ofString "loop",Str.ofString "StmtParser.loop",sPar (fM 102 3),.none,(T "js.parse_stmt" 2005),R 1157,by kernel_rfl,by kernel_rfl,fun Us h => by obtain ⟨a0,a1,a2,a3,rfl⟩ := len4 h; kernel_rfl⟩
noncomputable abbrev f_StmtParser_loop_body : Addr := 1165
theorem F_StmtParser_loop_body : FnAt (W0 w mb xt) 1165 ["self"] (sBody (fM 102 4)) (sScope (fM 102 4)) := mkF ⟨.type "function",none,#[],Str.ofString "loop_body",Str.ofString "StmtParser.loop_body",sPar (fM 102 4),.none,(T "js.parse_stmt" 2005),R 1164,by kernel_rfl,by kernel_rfl,fun Us h => by obtain ⟨a0,rfl⟩ := len1 h; kernel_rfl⟩
noncomputable abbrev f_parse : Addr := 1212
theorem F_parse : FnAt (W0 w mb xt) 1212 ["text"] (sBody (fT 104)) (sScope (fT 104)) := mkF ⟨.type "function",none,#[],Str.ofString "parse",Str.ofString "parse",sPar (fT 104),.none,(T "js.parser" 2132),R 1211,by kernel_rfl,by kernel_rfl,fun Us h => by obtain ⟨a0,rfl⟩ := len1 h; kernel_rfl⟩
noncomputable abbrev f_law_take : Addr := 1219
theorem F_law_take : FnAt (W0 w mb xt) 1219 ["box","wide"] (sBody (fT 106)) (sScope (fT 106)) := mkF ⟨.type "function",none,#[],Str.ofString "_law_take",Str.ofString "_law_take",sPar (fT 106),.none,(T "law_nt0400_01" 2143),R 1218,by kernel_rfl,by kernel_rfl,fun Us h => by obtain ⟨a0,a1,rfl⟩ := len2 h; kernel_rfl⟩
noncomputable abbrev f_law_pick : Addr := 1226
theorem F_law_pick : FnAt (W0 w mb xt) 1226 ["box","row"] (sBody (fT 107)) (sScope (fT 107)) := mkF ⟨.type "function",none,#[],Str.ofString "_law_pick",Str.ofString "_law_pick",sPar (fT 107),.none,(T "law_nt0400_01" 2143),R 1225,by kernel_rfl,by kernel_rfl,fun Us h => by obtain ⟨a0,a1,rfl⟩ := len2 h; kernel_rfl⟩
noncomputable abbrev f_law_regex : Addr := 1233
theorem F_law_regex : FnAt (W0 w mb xt) 1233 ["box"] (sBody (fT 108)) (sScope (fT 108)) := mkF ⟨.type "function",none,#[],Str.ofString "_law_regex",Str.ofString "_law_regex",sPar (fT 108),.none,(T "law_nt0400_01" 2143),R 1232,by kernel_rfl,by kernel_rfl,fun Us h => by obtain ⟨a0,rfl⟩ := len1 h; kernel_rfl⟩
noncomputable abbrev f_law_operand : Addr := 1240
theorem F_law_operand : FnAt (W0 w mb xt) 1240 ["box","deep"] (sBody (fT 109)) (sScope (fT 109)) := mkF ⟨.type "function",none,#[],Str.ofString "_law_operand",Str.ofString "_law_operand",sPar (fT 109),.none,(T "law_nt0400_01" 2143),R 1239,by kernel_rfl,by kernel_rfl,fun Us h => by obtain ⟨a0,a1,rfl⟩ := len2 h; kernel_rfl⟩
noncomputable abbrev f_law_chain : Addr := 1247
theorem F_law_chain : FnAt (W0 w mb xt) 1247 ["box","deep"] (sBody (fT 110)) (sScope (fT 110)) := mkF ⟨.type "function",none,#[],Str.ofString "_law_chain",Str.ofString "_law_chain",sPar (fT 110),.none,(T "law_nt0400_01" 2143),R 1246,by kernel_rfl,by kernel_rfl,fun Us h => by obtain ⟨a0,a1,rfl⟩ := len2 h; kernel_rfl⟩
noncomputable abbrev f_law_row : Addr := 1254
theorem F_law_row : FnAt (W0 w mb xt) 1254 ["box"] (sBody (fT 111)) (sScope (fT 111)) := mkF ⟨.type "function",none,#[],Str.ofString "_law_row",Str.ofString "_law_row",sPar (fT 111),.none,(T "law_nt0400_01" 2143),R 1253,by kernel_rfl,by kernel_rfl,fun Us h => by obtain ⟨a0,rfl⟩ := len1 h; kernel_rfl⟩
noncomputable abbrev f_law_told : Addr := 1259
theorem F_law_told : FnAt (W0 w mb xt) 1259 ["value"] (sBody (fT 112)) (sScope (fT 112)) := mkF ⟨.type "function",none,#[],Str.ofString "_law_told",Str.ofString "_law_told",sPar (fT 112),.none,(T "law_nt0400_01" 2143),R 1258,by kernel_rfl,by kernel_rfl,fun Us h => by obtain ⟨a0,rfl⟩ := len1 h; kernel_rfl⟩
noncomputable def gKeys : List (List Nat) := [[95,95,110,97,109,101,95,95],[95,95,100,111,99,95,95],[95,95,112,97,99,107,97,103,101,95,95],[95,95,108,111,97,100,101,114,95,95],[95,95,115,112,101,99,95,95],[95,95,97,110,110,111,116,97,116,105,111,110,115,95,95],[95,95,98,117,105,108,116,105,110,115,95,95],[95,95,102,105,108,101,95,95],[95,95,99,97,99,104,101,100,95,95],[78,111,100,101],[83,73,71,78,95,66,73,84],[70,82,65,67,84,73,79,78,95,66,73,84,83],[70,82,65,67,84,73,79,78,95,77,65,83,75],[72,73,68,68,69,78,95,66,73,84,95,100,98,105,116,115],[69,88,80,79,78,69,78,84,95,77,65,83,75],[69,88,80,79,78,69,78,84,95,83,72,73,70,84],[76,69,65,83,84,95,80,79,87,69,82,95,100,98,105,116,115],[90,69,82,79],[73,78,70],[119,105,100,116,104],[112,97,99,107],[105,115,95,110,101,103,97,116,105,118,101],[105,115,95,110,97,110],[105,115,95,105,110,102],[105,115,95,122,101,114,111],[115,105,103,110,101,100],[112,97,114,116,115],[113,117,111,116,105,101,110,116],[114,111,117,110,100,95,114,97,116,105,111],[97,115,115,101,109,98,108,101,100],[102,114,111,109,95,105,110,116],[76,69,65,83,84,95,80,79,87,69,82,95,110,117,109,115,104,111,119],[72,73,68,68,69,78,95,66,73,84,95,110,117,109,115,104,111,119],[115,99,97,108,101,100],[100,101,99,105,109,97,108,95,112,108,97,99,101],[102,105,114,115,116,95,112,108,97,99,101],[115,104,111,114,116,101,115,116],[108,97,115,116,95,102,105,103,117,114,101],[115,105,103,110,101,100,95,101,120,112,111,110,101,110,116],[119,105,116,104,95,101,120,112,111,110,101,110,116],[108,97,105,100,95,111,117,116],[119,105,116,104,111,117,116,95,102,105,103,117,114,101,115],[115,104,111,119],[66,76,65,78,75,83],[76,73,78,69,95,69,78,68,83],[76,69,84,84,69,82,83],[80,65,82,84,83],[105,115,95,97,109,111,110,103],[105,115,95,119,104,105,116,101],[105,115,95,108,105,110,101,95,101,110,100],[105,115,95,100,105,103,105,116],[105,115,95,111,99,116,97,108,95,100,105,103,105,116],[104,101,120,95,118,97,108,117,101],[105,115,95,105,100,95,115,116,97,114,116],[105,115,95,105,100,95,112,97,114,116],[83,73,78,71,76,69],[99,111,100,101,95,97,116],[104,101,120,95,97,116],[108,105,110,101,95,101,110,100,95,115,105,122,101],[111,99,116,97,108,95,101,115,99,97,112,101],[114,101,97,100,95,101,115,99,97,112,101],[70,65,82,84,72,69,83,84],[102,105,103,117,114,101,95,111,102],[119,111,114,116,104],[102,114,111,109,95,100,101,99,105,109,97,108],[75,69,89,87,79,82,68,83],[80,85,78,67,84,83],[80,85,78,67,84,95,84,65,66,76,69],[84,111,107,101,110],[105,115,95,107,101,121,119,111,114,100],[112,117,110,99,116,95,97,116],[83,121,110,116,97,120,70,97,105,108],[76,101,120,101,114],[83,84,82,73,67,84,95,87,79,82,68,83],[82,69,83,84,82,73,67,84,69,68],[84,65,82,71,69,84,83],[110,97,109,101,95,102,97,117,108,116],[98,105,110,100,105,110,103,95,102,97,117,108,116],[102,105,114,115,116,95,116,119,105,99,101],[112,97,114,97,109,115,95,102,97,117,108,116],[116,97,114,103,101,116,95,102,97,117,108,116],[100,101,108,101,116,101,95,102,97,117,108,116],[111,99,116,97,108,95,102,97,117,108,116],[101,110,116,114,121,95,102,97,117,108,116],[97,99,99,101,115,115,111,114,95,102,97,117,108,116],[74,117,109,112,115],[84,111,107,101,110,84,97,107,101,114],[80,82,73,79,82,73,84,89],[65,83,83,73,71,78,73,78,71],[85,78,65,82,89,95,83,73,71,78,83],[85,78,65,82,89,95,87,79,82,68,83],[83,84,69,80,83],[69,120,112,114,80,97,114,115,101,114],[83,105,109,112,108,101,80,97,114,115,101,114],[76,105,116,101,114,97,108,80,97,114,115,101,114],[76,79,79,80,95,87,79,82,68,83],[83,116,109,116,80,97,114,115,101,114],[112,97,114,115,101],[95,108,97,119,95,116,97,107,101],[95,108,97,119,95,112,105,99,107],[95,108,97,119,95,114,101,103,101,120],[95,108,97,119,95,111,112,101,114,97,110,100],[95,108,97,119,95,99,104,97,105,110],[95,108,97,119,95,114,111,119],[95,108,97,119,95,116,111,108,100],[108,97,119]]
theorem gOk : keysOk (gents w.params) gKeys = true := by kernel_rfl
theorem gmap_look (x : List Nat) : gmap w.params ⟨x.toArray⟩ = lookE (gents w.params) gKeys x := by
  rw [← find_look (x := x) gOk];unfold gmap nsFind findBy;rw [List.find?_toArray]
theorem glob_of {x : String} {c : List Nat} {v : Value} (e : Str.ofString x = ⟨c.toArray⟩) (h : lookE (gents w.params) gKeys c = some v) : (W0 w mb xt).mg (Str.ofString x) = some v := by
  rw [e]; exact (gmap_look c).trans h
theorem G_Node : (W0 w mb xt).mg (Str.ofString "Node") = some (.ref 31) := glob_of (c := [78,111,100,101]) (by kernel_rfl) (by kernel_rfl)
theorem Gk_Node : keepIn (W0 w mb xt).K (.ref 31) = true := by kernel_rfl
theorem G_BLANKS : (W0 w mb xt).mg (Str.ofString "BLANKS") = some (.ref 190) := glob_of (c := [66,76,65,78,75,83]) (by kernel_rfl) (by kernel_rfl)
theorem G_LINE_ENDS : (W0 w mb xt).mg (Str.ofString "LINE_ENDS") = some (.ref 191) := glob_of (c := [76,73,78,69,95,69,78,68,83]) (by kernel_rfl) (by kernel_rfl)
theorem G_is_white : (W0 w mb xt).mg (Str.ofString "is_white") = some (.ref 245) := glob_of (c := [105,115,95,119,104,105,116,101]) (by kernel_rfl) (by kernel_rfl)
theorem Gk_is_white : keepIn (W0 w mb xt).K (.ref 245) = true := by kernel_rfl
theorem G_is_line_end : (W0 w mb xt).mg (Str.ofString "is_line_end") = some (.ref 252) := glob_of (c := [105,115,95,108,105,110,101,95,101,110,100]) (by kernel_rfl) (by kernel_rfl)
theorem Gk_is_line_end : keepIn (W0 w mb xt).K (.ref 252) = true := by kernel_rfl
theorem G_is_digit : (W0 w mb xt).mg (Str.ofString "is_digit") = some (.ref 259) := glob_of (c := [105,115,95,100,105,103,105,116]) (by kernel_rfl) (by kernel_rfl)
theorem Gk_is_digit : keepIn (W0 w mb xt).K (.ref 259) = true := by kernel_rfl
theorem G_is_id_start : (W0 w mb xt).mg (Str.ofString "is_id_start") = some (.ref 280) := glob_of (c := [105,115,95,105,100,95,115,116,97,114,116]) (by kernel_rfl) (by kernel_rfl)
theorem Gk_is_id_start : keepIn (W0 w mb xt).K (.ref 280) = true := by kernel_rfl
theorem G_is_id_part : (W0 w mb xt).mg (Str.ofString "is_id_part") = some (.ref 287) := glob_of (c := [105,115,95,105,100,95,112,97,114,116]) (by kernel_rfl) (by kernel_rfl)
theorem Gk_is_id_part : keepIn (W0 w mb xt).K (.ref 287) = true := by kernel_rfl
theorem G_code_at : (W0 w mb xt).mg (Str.ofString "code_at") = some (.ref 295) := glob_of (c := [99,111,100,101,95,97,116]) (by kernel_rfl) (by kernel_rfl)
theorem Gk_code_at : keepIn (W0 w mb xt).K (.ref 295) = true := by kernel_rfl
theorem G_line_end_size : (W0 w mb xt).mg (Str.ofString "line_end_size") = some (.ref 309) := glob_of (c := [108,105,110,101,95,101,110,100,95,115,105,122,101]) (by kernel_rfl) (by kernel_rfl)
theorem Gk_line_end_size : keepIn (W0 w mb xt).K (.ref 309) = true := by kernel_rfl
theorem G_KEYWORDS : (W0 w mb xt).mg (Str.ofString "KEYWORDS") = some (.ref 345) := glob_of (c := [75,69,89,87,79,82,68,83]) (by kernel_rfl) (by kernel_rfl)
theorem G_PUNCT_TABLE : (W0 w mb xt).mg (Str.ofString "PUNCT_TABLE") = some (.ref 400) := glob_of (c := [80,85,78,67,84,95,84,65,66,76,69]) (by kernel_rfl) (by kernel_rfl)
theorem G_Token : (W0 w mb xt).mg (Str.ofString "Token") = some (.ref 422) := glob_of (c := [84,111,107,101,110]) (by kernel_rfl) (by kernel_rfl)
theorem Gk_Token : keepIn (W0 w mb xt).K (.ref 422) = true := by kernel_rfl
theorem G_is_keyword : (W0 w mb xt).mg (Str.ofString "is_keyword") = some (.ref 433) := glob_of (c := [105,115,95,107,101,121,119,111,114,100]) (by kernel_rfl) (by kernel_rfl)
theorem Gk_is_keyword : keepIn (W0 w mb xt).K (.ref 433) = true := by kernel_rfl
theorem G_punct_at : (W0 w mb xt).mg (Str.ofString "punct_at") = some (.ref 440) := glob_of (c := [112,117,110,99,116,95,97,116]) (by kernel_rfl) (by kernel_rfl)
theorem Gk_punct_at : keepIn (W0 w mb xt).K (.ref 440) = true := by kernel_rfl
theorem G_Lexer : (W0 w mb xt).mg (Str.ofString "Lexer") = some (.ref 603) := glob_of (c := [76,101,120,101,114]) (by kernel_rfl) (by kernel_rfl)
theorem Gk_Lexer : keepIn (W0 w mb xt).K (.ref 603) = true := by kernel_rfl
theorem G_STRICT_WORDS : (W0 w mb xt).mg (Str.ofString "STRICT_WORDS") = some (.ref 608) := glob_of (c := [83,84,82,73,67,84,95,87,79,82,68,83]) (by kernel_rfl) (by kernel_rfl)
theorem G_RESTRICTED : (W0 w mb xt).mg (Str.ofString "RESTRICTED") = some (.ref 609) := glob_of (c := [82,69,83,84,82,73,67,84,69,68]) (by kernel_rfl) (by kernel_rfl)
theorem G_TARGETS : (W0 w mb xt).mg (Str.ofString "TARGETS") = some (.ref 610) := glob_of (c := [84,65,82,71,69,84,83]) (by kernel_rfl) (by kernel_rfl)
theorem G_name_fault : (W0 w mb xt).mg (Str.ofString "name_fault") = some (.ref 617) := glob_of (c := [110,97,109,101,95,102,97,117,108,116]) (by kernel_rfl) (by kernel_rfl)
theorem Gk_name_fault : keepIn (W0 w mb xt).K (.ref 617) = true := by kernel_rfl
theorem G_binding_fault : (W0 w mb xt).mg (Str.ofString "binding_fault") = some (.ref 624) := glob_of (c := [98,105,110,100,105,110,103,95,102,97,117,108,116]) (by kernel_rfl) (by kernel_rfl)
theorem Gk_binding_fault : keepIn (W0 w mb xt).K (.ref 624) = true := by kernel_rfl
theorem G_target_fault : (W0 w mb xt).mg (Str.ofString "target_fault") = some (.ref 645) := glob_of (c := [116,97,114,103,101,116,95,102,97,117,108,116]) (by kernel_rfl) (by kernel_rfl)
theorem Gk_target_fault : keepIn (W0 w mb xt).K (.ref 645) = true := by kernel_rfl
theorem G_delete_fault : (W0 w mb xt).mg (Str.ofString "delete_fault") = some (.ref 652) := glob_of (c := [100,101,108,101,116,101,95,102,97,117,108,116]) (by kernel_rfl) (by kernel_rfl)
theorem Gk_delete_fault : keepIn (W0 w mb xt).K (.ref 652) = true := by kernel_rfl
theorem G_Jumps : (W0 w mb xt).mg (Str.ofString "Jumps") = some (.ref 705) := glob_of (c := [74,117,109,112,115]) (by kernel_rfl) (by kernel_rfl)
theorem Gk_Jumps : keepIn (W0 w mb xt).K (.ref 705) = true := by kernel_rfl
theorem G_PRIORITY : (W0 w mb xt).mg (Str.ofString "PRIORITY") = some (.ref 836) := glob_of (c := [80,82,73,79,82,73,84,89]) (by kernel_rfl) (by kernel_rfl)
theorem G_ASSIGNING : (W0 w mb xt).mg (Str.ofString "ASSIGNING") = some (.ref 838) := glob_of (c := [65,83,83,73,71,78,73,78,71]) (by kernel_rfl) (by kernel_rfl)
theorem G_UNARY_SIGNS : (W0 w mb xt).mg (Str.ofString "UNARY_SIGNS") = some (.ref 839) := glob_of (c := [85,78,65,82,89,95,83,73,71,78,83]) (by kernel_rfl) (by kernel_rfl)
theorem G_UNARY_WORDS : (W0 w mb xt).mg (Str.ofString "UNARY_WORDS") = some (.ref 840) := glob_of (c := [85,78,65,82,89,95,87,79,82,68,83]) (by kernel_rfl) (by kernel_rfl)
theorem G_STEPS : (W0 w mb xt).mg (Str.ofString "STEPS") = some (.ref 841) := glob_of (c := [83,84,69,80,83]) (by kernel_rfl) (by kernel_rfl)
theorem G_LOOP_WORDS : (W0 w mb xt).mg (Str.ofString "LOOP_WORDS") = some (.ref 1123) := glob_of (c := [76,79,79,80,95,87,79,82,68,83]) (by kernel_rfl) (by kernel_rfl)
theorem G_StmtParser : (W0 w mb xt).mg (Str.ofString "StmtParser") = some (.ref 1203) := glob_of (c := [83,116,109,116,80,97,114,115,101,114]) (by kernel_rfl) (by kernel_rfl)
theorem Gk_StmtParser : keepIn (W0 w mb xt).K (.ref 1203) = true := by kernel_rfl
theorem G_parse : (W0 w mb xt).mg (Str.ofString "parse") = some (.ref 1212) := glob_of (c := [112,97,114,115,101]) (by kernel_rfl) (by kernel_rfl)
theorem Gk_parse : keepIn (W0 w mb xt).K (.ref 1212) = true := by kernel_rfl
theorem G_law_take : (W0 w mb xt).mg (Str.ofString "_law_take") = some (.ref 1219) := glob_of (c := [95,108,97,119,95,116,97,107,101]) (by kernel_rfl) (by kernel_rfl)
theorem Gk_law_take : keepIn (W0 w mb xt).K (.ref 1219) = true := by kernel_rfl
theorem G_law_pick : (W0 w mb xt).mg (Str.ofString "_law_pick") = some (.ref 1226) := glob_of (c := [95,108,97,119,95,112,105,99,107]) (by kernel_rfl) (by kernel_rfl)
theorem Gk_law_pick : keepIn (W0 w mb xt).K (.ref 1226) = true := by kernel_rfl
theorem G_law_regex : (W0 w mb xt).mg (Str.ofString "_law_regex") = some (.ref 1233) := glob_of (c := [95,108,97,119,95,114,101,103,101,120]) (by kernel_rfl) (by kernel_rfl)
theorem Gk_law_regex : keepIn (W0 w mb xt).K (.ref 1233) = true := by kernel_rfl
theorem G_law_operand : (W0 w mb xt).mg (Str.ofString "_law_operand") = some (.ref 1240) := glob_of (c := [95,108,97,119,95,111,112,101,114,97,110,100]) (by kernel_rfl) (by kernel_rfl)
theorem Gk_law_operand : keepIn (W0 w mb xt).K (.ref 1240) = true := by kernel_rfl
theorem G_law_chain : (W0 w mb xt).mg (Str.ofString "_law_chain") = some (.ref 1247) := glob_of (c := [95,108,97,119,95,99,104,97,105,110]) (by kernel_rfl) (by kernel_rfl)
theorem Gk_law_chain : keepIn (W0 w mb xt).K (.ref 1247) = true := by kernel_rfl
theorem G_law_row : (W0 w mb xt).mg (Str.ofString "_law_row") = some (.ref 1254) := glob_of (c := [95,108,97,119,95,114,111,119]) (by kernel_rfl) (by kernel_rfl)
theorem Gk_law_row : keepIn (W0 w mb xt).K (.ref 1254) = true := by kernel_rfl
theorem G_law_told : (W0 w mb xt).mg (Str.ofString "_law_told") = some (.ref 1259) := glob_of (c := [95,108,97,119,95,116,111,108,100]) (by kernel_rfl) (by kernel_rfl)
theorem Gk_law_told : keepIn (W0 w mb xt).K (.ref 1259) = true := by kernel_rfl
noncomputable def nE_31 (P : Params) : List DictEntry := [E P "__module__" 196 (T "js.nodes" 187),E P "__firstlineno__" 200 (I 2 199),E P "__init__" 210 (R 28),E P "__static_attributes__" 215 (R 29),E P "__dict__" 217 (R 32),E P "__weakref__" 219 (R 33),E P "__doc__" 220 .none]
noncomputable def nK_31 : List (List Nat) := [[95,95,109,111,100,117,108,101,95,95],[95,95,102,105,114,115,116,108,105,110,101,110,111,95,95],[95,95,105,110,105,116,95,95],[95,95,115,116,97,116,105,99,95,97,116,116,114,105,98,117,116,101,115,95,95],[95,95,100,105,99,116,95,95],[95,95,119,101,97,107,114,101,102,95,95],[95,95,100,111,99,95,95]]
theorem own_31 (x : List Nat) : ownIn (KK w.params) ⟨x.toArray⟩ (.ref 31) = some (lookE (nE_31 w.params) nK_31 x) := (show ownIn (KK w.params) ⟨x.toArray⟩ (.ref 31) = nsIn (KK w.params) 30 ⟨x.toArray⟩ from by kernel_rfl).trans (nsIn_look (n := 4) (by kernel_rfl) (by kernel_rfl) x)
theorem hit_31 {c : List Nat} {v : Value} {r : List Value} (h : lookE (nE_31 w.params) nK_31 c = some v) : alongIn (KK w.params) ⟨c.toArray⟩ (.ref 31 :: r) = some (some v) := along_hit (by rw [own_31,h])
theorem miss_31 {c : List Nat} {r : List Value} {z : Option (Option Value)} (h : lookE (nE_31 w.params) nK_31 c = none) (h2 : alongIn (KK w.params) ⟨c.toArray⟩ r = z) : alongIn (KK w.params) ⟨c.toArray⟩ (.ref 31 :: r) = z := along_miss (by rw [own_31,h]) h2
noncomputable def nE_422 (P : Params) : List DictEntry := [E P "__module__" 931 (T "js.tokens" 736),E P "__firstlineno__" 935 (I 252 934),E P "__init__" 948 (R 419),E P "__static_attributes__" 957 (R 420),E P "__dict__" 959 (R 423),E P "__weakref__" 961 (R 424),E P "__doc__" 962 .none]
noncomputable def nK_422 : List (List Nat) := [[95,95,109,111,100,117,108,101,95,95],[95,95,102,105,114,115,116,108,105,110,101,110,111,95,95],[95,95,105,110,105,116,95,95],[95,95,115,116,97,116,105,99,95,97,116,116,114,105,98,117,116,101,115,95,95],[95,95,100,105,99,116,95,95],[95,95,119,101,97,107,114,101,102,95,95],[95,95,100,111,99,95,95]]
theorem own_422 (x : List Nat) : ownIn (KK w.params) ⟨x.toArray⟩ (.ref 422) = some (lookE (nE_422 w.params) nK_422 x) := (show ownIn (KK w.params) ⟨x.toArray⟩ (.ref 422) = nsIn (KK w.params) 421 ⟨x.toArray⟩ from by kernel_rfl).trans (nsIn_look (n := 4) (by kernel_rfl) (by kernel_rfl) x)
theorem hit_422 {c : List Nat} {v : Value} {r : List Value} (h : lookE (nE_422 w.params) nK_422 c = some v) : alongIn (KK w.params) ⟨c.toArray⟩ (.ref 422 :: r) = some (some v) := along_hit (by rw [own_422,h])
theorem miss_422 {c : List Nat} {r : List Value} {z : Option (Option Value)} (h : lookE (nE_422 w.params) nK_422 c = none) (h2 : alongIn (KK w.params) ⟨c.toArray⟩ r = z) : alongIn (KK w.params) ⟨c.toArray⟩ (.ref 422 :: r) = z := along_miss (by rw [own_422,h]) h2
noncomputable def nE_603 (P : Params) : List DictEntry := [E P "__module__" 1024 (T "js.lexer" 1015),E P "__firstlineno__" 1028 (I 278 1027),E P "__init__" 1036 (R 474),E P "next" 1047 (R 481),E P "fail" 1055 (R 488),E P "end_line" 1062 (R 495),E P "skip_blanks" 1071 (R 502),E P "skip_comment" 1078 (R 509),E P "name_sign" 1090 (R 516),E P "read_name" 1100 (R 523),E P "skip_digits" 1108 (R 530),E P "read_number" 1119 (R 537),E P "read_hex" 1128 (R 544),E P "read_octal" 1136 (R 551),E P "read_decimal" 1145 (R 558),E P "read_exponent" 1156 (R 565),E P "regex" 1167 (R 572),E P "regex_body" 1177 (R 579),E P "read_text" 1188 (R 586),E P "escaped" 1197 (R 593),E P "read_punct" 1206 (R 600),E P "__static_attributes__" 1210 (R 601),E P "__dict__" 1212 (R 604),E P "__weakref__" 1214 (R 605),E P "__doc__" 1215 .none]
noncomputable def nK_603 : List (List Nat) := [[95,95,109,111,100,117,108,101,95,95],[95,95,102,105,114,115,116,108,105,110,101,110,111,95,95],[95,95,105,110,105,116,95,95],[110,101,120,116],[102,97,105,108],[101,110,100,95,108,105,110,101],[115,107,105,112,95,98,108,97,110,107,115],[115,107,105,112,95,99,111,109,109,101,110,116],[110,97,109,101,95,115,105,103,110],[114,101,97,100,95,110,97,109,101],[115,107,105,112,95,100,105,103,105,116,115],[114,101,97,100,95,110,117,109,98,101,114],[114,101,97,100,95,104,101,120],[114,101,97,100,95,111,99,116,97,108],[114,101,97,100,95,100,101,99,105,109,97,108],[114,101,97,100,95,101,120,112,111,110,101,110,116],[114,101,103,101,120],[114,101,103,101,120,95,98,111,100,121],[114,101,97,100,95,116,101,120,116],[101,115,99,97,112,101,100],[114,101,97,100,95,112,117,110,99,116],[95,95,115,116,97,116,105,99,95,97,116,116,114,105,98,117,116,101,115,95,95],[95,95,100,105,99,116,95,95],[95,95,119,101,97,107,114,101,102,95,95],[95,95,100,111,99,95,95]]
theorem own_603 (x : List Nat) : ownIn (KK w.params) ⟨x.toArray⟩ (.ref 603) = some (lookE (nE_603 w.params) nK_603 x) := (show ownIn (KK w.params) ⟨x.toArray⟩ (.ref 603) = nsIn (KK w.params) 602 ⟨x.toArray⟩ from by kernel_rfl).trans (nsIn_look (n := 4) (by kernel_rfl) (by kernel_rfl) x)
theorem hit_603 {c : List Nat} {v : Value} {r : List Value} (h : lookE (nE_603 w.params) nK_603 c = some v) : alongIn (KK w.params) ⟨c.toArray⟩ (.ref 603 :: r) = some (some v) := along_hit (by rw [own_603,h])
theorem miss_603 {c : List Nat} {r : List Value} {z : Option (Option Value)} (h : lookE (nE_603 w.params) nK_603 c = none) (h2 : alongIn (KK w.params) ⟨c.toArray⟩ r = z) : alongIn (KK w.params) ⟨c.toArray⟩ (.ref 603 :: r) = z := along_miss (by rw [own_603,h]) h2
noncomputable def nE_705 (P : Params) : List DictEntry := [E P "__module__" 1326 (T "js.strictness" 1218),E P "__firstlineno__" 1330 (I 532 1329),E P "__init__" 1337 (R 687),E P "label_fault" 1343 (R 692),E P "break_fault" 1349 (R 697),E P "continue_fault" 1355 (R 702),E P "__static_attributes__" 1359 (R 703),E P "__dict__" 1361 (R 706),E P "__weakref__" 1363 (R 707),E P "__doc__" 1364 .none]
noncomputable def nK_705 : List (List Nat) := [[95,95,109,111,100,117,108,101,95,95],[95,95,102,105,114,115,116,108,105,110,101,110,111,95,95],[95,95,105,110,105,116,95,95],[108,97,98,101,108,95,102,97,117,108,116],[98,114,101,97,107,95,102,97,117,108,116],[99,111,110,116,105,110,117,101,95,102,97,117,108,116],[95,95,115,116,97,116,105,99,95,97,116,116,114,105,98,117,116,101,115,95,95],[95,95,100,105,99,116,95,95],[95,95,119,101,97,107,114,101,102,95,95],[95,95,100,111,99,95,95]]
theorem own_705 (x : List Nat) : ownIn (KK w.params) ⟨x.toArray⟩ (.ref 705) = some (lookE (nE_705 w.params) nK_705 x) := (show ownIn (KK w.params) ⟨x.toArray⟩ (.ref 705) = nsIn (KK w.params) 704 ⟨x.toArray⟩ from by kernel_rfl).trans (nsIn_look (n := 4) (by kernel_rfl) (by kernel_rfl) x)
theorem hit_705 {c : List Nat} {v : Value} {r : List Value} (h : lookE (nE_705 w.params) nK_705 c = some v) : alongIn (KK w.params) ⟨c.toArray⟩ (.ref 705 :: r) = some (some v) := along_hit (by rw [own_705,h])
theorem miss_705 {c : List Nat} {r : List Value} {z : Option (Option Value)} (h : lookE (nE_705 w.params) nK_705 c = none) (h2 : alongIn (KK w.params) ⟨c.toArray⟩ r = z) : alongIn (KK w.params) ⟨c.toArray⟩ (.ref 705 :: r) = z := along_miss (by rw [own_705,h]) h2
noncomputable def nE_831 (P : Params) : List DictEntry := [E P "__module__" 1376 (T "js.parse_base" 1367),E P "__firstlineno__" 1380 (I 554 1379),E P "__init__" 1388 (R 723),E P "take" 1396 (R 730),E P "peek" 1403 (R 737),E P "is_sign" 1411 (R 744),E P "is_word" 1419 (R 751),E P "eat" 1427 (R 758),E P "need" 1435 (R 765),E P "need_word" 1443 (R 772),E P "fail" 1451 (R 779),E P "fail_for" 1459 (R 786),E P "unexpected" 1466 (R 793),E P "need_name" 1473 (R 800),E P "need_binding" 1480 (R 807),E P "property_name" 1487 (R 814),E P "can_end" 1494 (R 821),E P "end_statement" 1501 (R 828),E P "__static_attributes__" 1509 (R 829),E P "__dict__" 1511 (R 832),E P "__weakref__" 1513 (R 833),E P "__doc__" 1514 .none]
noncomputable def nK_831 : List (List Nat) := [[95,95,109,111,100,117,108,101,95,95],[95,95,102,105,114,115,116,108,105,110,101,110,111,95,95],[95,95,105,110,105,116,95,95],[116,97,107,101],[112,101,101,107],[105,115,95,115,105,103,110],[105,115,95,119,111,114,100],[101,97,116],[110,101,101,100],[110,101,101,100,95,119,111,114,100],[102,97,105,108],[102,97,105,108,95,102,111,114],[117,110,101,120,112,101,99,116,101,100],[110,101,101,100,95,110,97,109,101],[110,101,101,100,95,98,105,110,100,105,110,103],[112,114,111,112,101,114,116,121,95,110,97,109,101],[99,97,110,95,101,110,100],[101,110,100,95,115,116,97,116,101,109,101,110,116],[95,95,115,116,97,116,105,99,95,97,116,116,114,105,98,117,116,101,115,95,95],[95,95,100,105,99,116,95,95],[95,95,119,101,97,107,114,101,102,95,95],[95,95,100,111,99,95,95]]
theorem own_831 (x : List Nat) : ownIn (KK w.params) ⟨x.toArray⟩ (.ref 831) = some (lookE (nE_831 w.params) nK_831 x) := (show ownIn (KK w.params) ⟨x.toArray⟩ (.ref 831) = nsIn (KK w.params) 830 ⟨x.toArray⟩ from by kernel_rfl).trans (nsIn_look (n := 4) (by kernel_rfl) (by kernel_rfl) x)
theorem hit_831 {c : List Nat} {v : Value} {r : List Value} (h : lookE (nE_831 w.params) nK_831 c = some v) : alongIn (KK w.params) ⟨c.toArray⟩ (.ref 831 :: r) = some (some v) := along_hit (by rw [own_831,h])
theorem miss_831 {c : List Nat} {r : List Value} {z : Option (Option Value)} (h : lookE (nE_831 w.params) nK_831 c = none) (h2 : alongIn (KK w.params) ⟨c.toArray⟩ r = z) : alongIn (KK w.params) ⟨c.toArray⟩ (.ref 831 :: r) = z := along_miss (by rw [own_831,h]) h2
noncomputable def nE_970 (P : Params) : List DictEntry := [E P "__module__" 1621 (T "js.parse_expr" 1517),E P "__firstlineno__" 1625 (I 639 1624),E P "function" 1633 (R 855),E P "expression" 1643 (R 862),E P "assignment" 1653 (R 869),E P "need_target" 1661 (R 876),E P "conditional" 1671 (R 883),E P "priority" 1679 (R 890),E P "binary" 1692 (R 897),E P "unary" 1704 (R 904),E P "postfix" 1712 (R 911),E P "left_hand" 1720 (R 918),E P "with_members" 1729 (R 925),E P "creation" 1738 (R 932),E P "arguments" 1746 (R 939),E P "primary" 1755 (R 946),E P "word_operand" 1763 (R 953),E P "array" 1772 (R 960),E P "object" 1779 (R 967),E P "__static_attributes__" 1781 (R 968),E P "__doc__" 1782 .none]
noncomputable def nK_970 : List (List Nat) := [[95,95,109,111,100,117,108,101,95,95],[95,95,102,105,114,115,116,108,105,110,101,110,111,95,95],[102,117,110,99,116,105,111,110],[101,120,112,114,101,115,115,105,111,110],[97,115,115,105,103,110,109,101,110,116],[110,101,101,100,95,116,97,114,103,101,116],[99,111,110,100,105,116,105,111,110,97,108],[112,114,105,111,114,105,116,121],[98,105,110,97,114,121],[117,110,97,114,121],[112,111,115,116,102,105,120],[108,101,102,116,95,104,97,110,100],[119,105,116,104,95,109,101,109,98,101,114,115],[99,114,101,97,116,105,111,110],[97,114,103,117,109,101,110,116,115],[112,114,105,109,97,114,121],[119,111,114,100,95,111,112,101,114,97,110,100],[97,114,114,97,121],[111,98,106,101,99,116],[95,95,115,116,97,116,105,99,95,97,116,116,114,105,98,117,116,101,115,95,95],[95,95,100,111,99,95,95]]
theorem own_970 (x : List Nat) : ownIn (KK w.params) ⟨x.toArray⟩ (.ref 970) = some (lookE (nE_970 w.params) nK_970 x) := (show ownIn (KK w.params) ⟨x.toArray⟩ (.ref 970) = nsIn (KK w.params) 969 ⟨x.toArray⟩ from by kernel_rfl).trans (nsIn_look (n := 2) (by kernel_rfl) (by kernel_rfl) x)
theorem hit_970 {c : List Nat} {v : Value} {r : List Value} (h : lookE (nE_970 w.params) nK_970 c = some v) : alongIn (KK w.params) ⟨c.toArray⟩ (.ref 970 :: r) = some (some v) := along_hit (by rw [own_970,h])
theorem miss_970 {c : List Nat} {r : List Value} {z : Option (Option Value)} (h : lookE (nE_970 w.params) nK_970 c = none) (h2 : alongIn (KK w.params) ⟨c.toArray⟩ r = z) : alongIn (KK w.params) ⟨c.toArray⟩ (.ref 970 :: r) = z := along_miss (by rw [own_970,h]) h2
noncomputable def nE_1066 (P : Params) : List DictEntry := [E P "__module__" 1794 (T "js.parse_simple" 1785),E P "__firstlineno__" 1798 (I 798 1797),E P "body" 1811 (R 986),E P "at_end" 1819 (R 993),E P "element" 1826 (R 1000),E P "statement" 1836 (R 1007),E P "plain_expression" 1845 (R 1014),E P "word_statement" 1856 (R 1021),E P "large_statement" 1866 (R 1028),E P "block" 1874 (R 1035),E P "variables" 1884 (R 1042),E P "labelled" 1896 (R 1049),E P "jump" 1906 (R 1056),E P "leaving" 1916 (R 1063),E P "__static_attributes__" 1919 (R 1064),E P "__doc__" 1920 .none]
noncomputable def nK_1066 : List (List Nat) := [[95,95,109,111,100,117,108,101,95,95],[95,95,102,105,114,115,116,108,105,110,101,110,111,95,95],[98,111,100,121],[97,116,95,101,110,100],[101,108,101,109,101,110,116],[115,116,97,116,101,109,101,110,116],[112,108,97,105,110,95,101,120,112,114,101,115,115,105,111,110],[119,111,114,100,95,115,116,97,116,101,109,101,110,116],[108,97,114,103,101,95,115,116,97,116,101,109,101,110,116],[98,108,111,99,107],[118,97,114,105,97,98,108,101,115],[108,97,98,101,108,108,101,100],[106,117,109,112],[108,101,97,118,105,110,103],[95,95,115,116,97,116,105,99,95,97,116,116,114,105,98,117,116,101,115,95,95],[95,95,100,111,99,95,95]]
theorem own_1066 (x : List Nat) : ownIn (KK w.params) ⟨x.toArray⟩ (.ref 1066) = some (lookE (nE_1066 w.params) nK_1066 x) := (show ownIn (KK w.params) ⟨x.toArray⟩ (.ref 1066) = nsIn (KK w.params) 1065 ⟨x.toArray⟩ from by kernel_rfl).trans (nsIn_look (n := 2) (by kernel_rfl) (by kernel_rfl) x)
theorem hit_1066 {c : List Nat} {v : Value} {r : List Value} (h : lookE (nE_1066 w.params) nK_1066 c = some v) : alongIn (KK w.params) ⟨c.toArray⟩ (.ref 1066 :: r) = some (some v) := along_hit (by rw [own_1066,h])
theorem miss_1066 {c : List Nat} {r : List Value} {z : Option (Option Value)} (h : lookE (nE_1066 w.params) nK_1066 c = none) (h2 : alongIn (KK w.params) ⟨c.toArray⟩ r = z) : alongIn (KK w.params) ⟨c.toArray⟩ (.ref 1066 :: r) = z := along_miss (by rw [own_1066,h]) h2
noncomputable def nE_1120 (P : Params) : List DictEntry := [E P "__module__" 1932 (T "js.parse_literal" 1923),E P "__firstlineno__" 1936 (I 921 1935),E P "object" 1947 (R 1082),E P "entry" 1958 (R 1089),E P "entry_key" 1966 (R 1096),E P "function" 1981 (R 1103),E P "function_name" 1989 (R 1110),E P "parameters" 1997 (R 1117),E P "__static_attributes__" 2001 (R 1118),E P "__doc__" 2002 .none]
noncomputable def nK_1120 : List (List Nat) := [[95,95,109,111,100,117,108,101,95,95],[95,95,102,105,114,115,116,108,105,110,101,110,111,95,95],[111,98,106,101,99,116],[101,110,116,114,121],[101,110,116,114,121,95,107,101,121],[102,117,110,99,116,105,111,110],[102,117,110,99,116,105,111,110,95,110,97,109,101],[112,97,114,97,109,101,116,101,114,115],[95,95,115,116,97,116,105,99,95,97,116,116,114,105,98,117,116,101,115,95,95],[95,95,100,111,99,95,95]]
theorem own_1120 (x : List Nat) : ownIn (KK w.params) ⟨x.toArray⟩ (.ref 1120) = some (lookE (nE_1120 w.params) nK_1120 x) := (show ownIn (KK w.params) ⟨x.toArray⟩ (.ref 1120) = nsIn (KK w.params) 1119 ⟨x.toArray⟩ from by kernel_rfl).trans (nsIn_look (n := 2) (by kernel_rfl) (by kernel_rfl) x)
theorem miss_1120 {c : List Nat} {r : List Value} {z : Option (Option Value)} (h : lookE (nE_1120 w.params) nK_1120 c = none) (h2 : alongIn (KK w.params) ⟨c.toArray⟩ r = z) : alongIn (KK w.params) ⟨c.toArray⟩ (.ref 1120 :: r) = z := along_miss (by rw [own_1120,h]) h2
noncomputable def nE_1203 (P : Params) : List DictEntry := [E P "__module__" 2018 (T "js.parse_stmt" 2005),E P "__firstlineno__" 2022 (I 987 2021),E P "large_statement" 2032 (R 1137),E P "condition" 2040 (R 1144),E P "choice" 2051 (R 1151),E P "loop" 2064 (R 1158),E P "loop_body" 2072 (R 1165),E P "for_loop" 2085 (R 1172),E P "key_loop" 2095 (R 1179),E P "switch" 2107 (R 1186),E P "case_body" 2115 (R 1193),E P "attempt" 2127 (R 1200),E P "__static_attributes__" 2128 (R 1201),E P "__doc__" 2129 .none]
noncomputable def nK_1203 : List (List Nat) := [[95,95,109,111,100,117,108,101,95,95],[95,95,102,105,114,115,116,108,105,110,101,110,111,95,95],[108,97,114,103,101,95,115,116,97,116,101,109,101,110,116],[99,111,110,100,105,116,105,111,110],[99,104,111,105,99,101],[108,111,111,112],[108,111,111,112,95,98,111,100,121],[102,111,114,95,108,111,111,112],[107,101,121,95,108,111,111,112],[115,119,105,116,99,104],[99,97,115,101,95,98,111,100,121],[97,116,116,101,109,112,116],[95,95,115,116,97,116,105,99,95,97,116,116,114,105,98,117,116,101,115,95,95],[95,95,100,111,99,95,95]]
theorem own_1203 (x : List Nat) : ownIn (KK w.params) ⟨x.toArray⟩ (.ref 1203) = some (lookE (nE_1203 w.params) nK_1203 x) := (show ownIn (KK w.params) ⟨x.toArray⟩ (.ref 1203) = nsIn (KK w.params) 1202 ⟨x.toArray⟩ from by kernel_rfl).trans (nsIn_look (n := 2) (by kernel_rfl) (by kernel_rfl) x)
theorem hit_1203 {c : List Nat} {v : Value} {r : List Value} (h : lookE (nE_1203 w.params) nK_1203 c = some v) : alongIn (KK w.params) ⟨c.toArray⟩ (.ref 1203 :: r) = some (some v) := along_hit (by rw [own_1203,h])
theorem miss_1203 {c : List Nat} {r : List Value} {z : Option (Option Value)} (h : lookE (nE_1203 w.params) nK_1203 c = none) (h2 : alongIn (KK w.params) ⟨c.toArray⟩ r = z) : alongIn (KK w.params) ⟨c.toArray⟩ (.ref 1203 :: r) = z := along_miss (by rw [own_1203,h]) h2
theorem find_31 (x : Str) : findIn (KK w.params) (.ref 31) x = alongIn (KK w.params) x [.ref 31,.type "object"] := by kernel_rfl
theorem findof_31 {x : String} {c : List Nat} {r : Option (Option Value)} (e : Str.ofString x = ⟨c.toArray⟩) (h : alongIn (KK w.params) ⟨c.toArray⟩ [.ref 31,.type "object"] = r) : findIn (W0 w mb xt).K (.ref 31) (Str.ofString x) = r := by
  rw [e]; exact (find_31 _).trans h
theorem plain_Node : plainGet (W0 w mb xt).K 31 (Str.ofString "x") = true := by kernel_rfl
theorem dict_Node : hasDictIn (W0 w mb xt).K 31 = true := by kernel_rfl
theorem over_Node : plainOver (W0 w mb xt).K 31 = true := by kernel_rfl
theorem seta_Node : findIn (W0 w mb xt).K (.ref 31) (Str.ofString "__setattr__") = some (some (.builtin "object.__setattr__")) := findof_31 (c := [95,95,115,101,116,97,116,116,114,95,95]) (by kernel_rfl) (miss_31 (by kernel_rfl) (along_hit (by kernel_rfl)))
theorem f_Node_kind : findIn (W0 w mb xt).K (.ref 31) (Str.ofString "kind") = some none := findof_31 (c := [107,105,110,100]) (by kernel_rfl) (miss_31 (by kernel_rfl) (along_miss (by kernel_rfl) rfl))
theorem A_Node_kind : AttrAt (W0 w mb xt) 31 "kind" := ⟨plain_Node,dict_Node,none,f_Node_kind,rfl⟩
theorem S_Node_kind : SetAt (W0 w mb xt) 31 "kind" := ⟨seta_Node,over_Node,taker_of f_Node_kind,dict_Node⟩
theorem f_Node_line : findIn (W0 w mb xt).K (.ref 31) (Str.ofString "line") = some none := findof_31 (c := [108,105,110,101]) (by kernel_rfl) (miss_31 (by kernel_rfl) (along_miss (by kernel_rfl) rfl))
theorem A_Node_line : AttrAt (W0 w mb xt) 31 "line" := ⟨plain_Node,dict_Node,none,f_Node_line,rfl⟩
theorem S_Node_line : SetAt (W0 w mb xt) 31 "line" := ⟨seta_Node,over_Node,taker_of f_Node_line,dict_Node⟩
theorem f_Node_parts : findIn (W0 w mb xt).K (.ref 31) (Str.ofString "parts") = some none := findof_31 (c := [112,97,114,116,115]) (by kernel_rfl) (miss_31 (by kernel_rfl) (along_miss (by kernel_rfl) rfl))
theorem A_Node_parts : AttrAt (W0 w mb xt) 31 "parts" := ⟨plain_Node,dict_Node,none,f_Node_parts,rfl⟩
theorem S_Node_parts : SetAt (W0 w mb xt) 31 "parts" := ⟨seta_Node,over_Node,taker_of f_Node_parts,dict_Node⟩
theorem f_Node_scope : findIn (W0 w mb xt).K (.ref 31) (Str.ofString "scope") = some none := findof_31 (c := [115,99,111,112,101]) (by kernel_rfl) (miss_31 (by kernel_rfl) (along_miss (by kernel_rfl) rfl))
theorem S_Node_scope : SetAt (W0 w mb xt) 31 "scope" := ⟨seta_Node,over_Node,taker_of f_Node_scope,dict_Node⟩
theorem N_Node : ClsAtW (W0 w mb xt) 31 28 := ⟨by kernel_rfl,findof_31 (c := [95,95,105,110,105,116,95,95]) (by kernel_rfl) (hit_31 (by kernel_rfl)),by kernel_rfl⟩
theorem find_422 (x : Str) : findIn (KK w.params) (.ref 422) x = alongIn (KK w.params) x [.ref 422,.type "object"] := by kernel_rfl
theorem findof_422 {x : String} {c : List Nat} {r : Option (Option Value)} (e : Str.ofString x = ⟨c.toArray⟩) (h : alongIn (KK w.params) ⟨c.toArray⟩ [.ref 422,.type "object"] = r) : findIn (W0 w mb xt).K (.ref 422) (Str.ofString x) = r := by
  rw [e]; exact (find_422 _).trans h
theorem plain_Token : plainGet (W0 w mb xt).K 422 (Str.ofString "x") = true := by kernel_rfl
theorem dict_Token : hasDictIn (W0 w mb xt).K 422 = true := by kernel_rfl
theorem over_Token : plainOver (W0 w mb xt).K 422 = true := by kernel_rfl
theorem seta_Token : findIn (W0 w mb xt).K (.ref 422) (Str.ofString "__setattr__") = some (some (.builtin "object.__setattr__")) := findof_422 (c := [95,95,115,101,116,97,116,116,114,95,95]) (by kernel_rfl) (miss_422 (by kernel_rfl) (along_hit (by kernel_rfl)))
theorem f_Token_kind : findIn (W0 w mb xt).K (.ref 422) (Str.ofString "kind") = some none := findof_422 (c := [107,105,110,100]) (by kernel_rfl) (miss_422 (by kernel_rfl) (along_miss (by kernel_rfl) rfl))
theorem A_Token_kind : AttrAt (W0 w mb xt) 422 "kind" := ⟨plain_Token,dict_Token,none,f_Token_kind,rfl⟩
theorem S_Token_kind : SetAt (W0 w mb xt) 422 "kind" := ⟨seta_Token,over_Token,taker_of f_Token_kind,dict_Token⟩
theorem f_Token_value : findIn (W0 w mb xt).K (.ref 422) (Str.ofString "value") = some none := findof_422 (c := [118,97,108,117,101]) (by kernel_rfl) (miss_422 (by kernel_rfl) (along_miss (by kernel_rfl) rfl))
theorem A_Token_value : AttrAt (W0 w mb xt) 422 "value" := ⟨plain_Token,dict_Token,none,f_Token_value,rfl⟩
theorem S_Token_value : SetAt (W0 w mb xt) 422 "value" := ⟨seta_Token,over_Token,taker_of f_Token_value,dict_Token⟩
theorem f_Token_line : findIn (W0 w mb xt).K (.ref 422) (Str.ofString "line") = some none := findof_422 (c := [108,105,110,101]) (by kernel_rfl) (miss_422 (by kernel_rfl) (along_miss (by kernel_rfl) rfl))
theorem A_Token_line : AttrAt (W0 w mb xt) 422 "line" := ⟨plain_Token,dict_Token,none,f_Token_line,rfl⟩
theorem S_Token_line : SetAt (W0 w mb xt) 422 "line" := ⟨seta_Token,over_Token,taker_of f_Token_line,dict_Token⟩
theorem f_Token_is_behind_line : findIn (W0 w mb xt).K (.ref 422) (Str.ofString "is_behind_line") = some none := findof_422 (c := [105,115,95,98,101,104,105,110,100,95,108,105,110,101]) (by kernel_rfl) (miss_422 (by kernel_rfl) (along_miss (by kernel_rfl) rfl))
theorem A_Token_is_behind_line : AttrAt (W0 w mb xt) 422 "is_behind_line" := ⟨plain_Token,dict_Token,none,f_Token_is_behind_line,rfl⟩
theorem S_Token_is_behind_line : SetAt (W0 w mb xt) 422 "is_behind_line" := ⟨seta_Token,over_Token,taker_of f_Token_is_behind_line,dict_Token⟩
theorem f_Token_start : findIn (W0 w mb xt).K (.ref 422) (Str.ofString "start") = some none := findof_422 (c := [115,116,97,114,116]) (by kernel_rfl) (miss_422 (by kernel_rfl) (along_miss (by kernel_rfl) rfl))
theorem A_Token_start : AttrAt (W0 w mb xt) 422 "start" := ⟨plain_Token,dict_Token,none,f_Token_start,rfl⟩
theorem S_Token_start : SetAt (W0 w mb xt) 422 "start" := ⟨seta_Token,over_Token,taker_of f_Token_start,dict_Token⟩
theorem f_Token_end : findIn (W0 w mb xt).K (.ref 422) (Str.ofString "end") = some none := findof_422 (c := [101,110,100]) (by kernel_rfl) (miss_422 (by kernel_rfl) (along_miss (by kernel_rfl) rfl))
theorem S_Token_end : SetAt (W0 w mb xt) 422 "end" := ⟨seta_Token,over_Token,taker_of f_Token_end,dict_Token⟩
theorem f_Token_is_octal : findIn (W0 w mb xt).K (.ref 422) (Str.ofString "is_octal") = some none := findof_422 (c := [105,115,95,111,99,116,97,108]) (by kernel_rfl) (miss_422 (by kernel_rfl) (along_miss (by kernel_rfl) rfl))
theorem S_Token_is_octal : SetAt (W0 w mb xt) 422 "is_octal" := ⟨seta_Token,over_Token,taker_of f_Token_is_octal,dict_Token⟩
theorem f_Token_is_plain : findIn (W0 w mb xt).K (.ref 422) (Str.ofString "is_plain") = some none := findof_422 (c := [105,115,95,112,108,97,105,110]) (by kernel_rfl) (miss_422 (by kernel_rfl) (along_miss (by kernel_rfl) rfl))
theorem A_Token_is_plain : AttrAt (W0 w mb xt) 422 "is_plain" := ⟨plain_Token,dict_Token,none,f_Token_is_plain,rfl⟩
theorem S_Token_is_plain : SetAt (W0 w mb xt) 422 "is_plain" := ⟨seta_Token,over_Token,taker_of f_Token_is_plain,dict_Token⟩
theorem N_Token : ClsAtW (W0 w mb xt) 422 419 := ⟨by kernel_rfl,findof_422 (c := [95,95,105,110,105,116,95,95]) (by kernel_rfl) (hit_422 (by kernel_rfl)),by kernel_rfl⟩
theorem find_603 (x : Str) : findIn (KK w.params) (.ref 603) x = alongIn (KK w.params) x [.ref 603,.type "object"] := by kernel_rfl
theorem findof_603 {x : String} {c : List Nat} {r : Option (Option Value)} (e : Str.ofString x = ⟨c.toArray⟩) (h : alongIn (KK w.params) ⟨c.toArray⟩ [.ref 603,.type "object"] = r) : findIn (W0 w mb xt).K (.ref 603) (Str.ofString x) = r := by
  rw [e]; exact (find_603 _).trans h
theorem plain_Lexer : plainGet (W0 w mb xt).K 603 (Str.ofString "x") = true := by kernel_rfl
theorem dict_Lexer : hasDictIn (W0 w mb xt).K 603 = true := by kernel_rfl
theorem over_Lexer : plainOver (W0 w mb xt).K 603 = true := by kernel_rfl
theorem seta_Lexer : findIn (W0 w mb xt).K (.ref 603) (Str.ofString "__setattr__") = some (some (.builtin "object.__setattr__")) := findof_603 (c := [95,95,115,101,116,97,116,116,114,95,95]) (by kernel_rfl) (miss_603 (by kernel_rfl) (along_hit (by kernel_rfl)))
theorem f_Lexer_text : findIn (W0 w mb xt).K (.ref 603) (Str.ofString "text") = some none := findof_603 (c := [116,101,120,116]) (by kernel_rfl) (miss_603 (by kernel_rfl) (along_miss (by kernel_rfl) rfl))
theorem A_Lexer_text : AttrAt (W0 w mb xt) 603 "text" := ⟨plain_Lexer,dict_Lexer,none,f_Lexer_text,rfl⟩
theorem S_Lexer_text : SetAt (W0 w mb xt) 603 "text" := ⟨seta_Lexer,over_Lexer,taker_of f_Lexer_text,dict_Lexer⟩
theorem f_Lexer_at : findIn (W0 w mb xt).K (.ref 603) (Str.ofString "at") = some none := findof_603 (c := [97,116]) (by kernel_rfl) (miss_603 (by kernel_rfl) (along_miss (by kernel_rfl) rfl))
theorem A_Lexer_at : AttrAt (W0 w mb xt) 603 "at" := ⟨plain_Lexer,dict_Lexer,none,f_Lexer_at,rfl⟩
theorem S_Lexer_at : SetAt (W0 w mb xt) 603 "at" := ⟨seta_Lexer,over_Lexer,taker_of f_Lexer_at,dict_Lexer⟩
theorem f_Lexer_line : findIn (W0 w mb xt).K (.ref 603) (Str.ofString "line") = some none := findof_603 (c := [108,105,110,101]) (by kernel_rfl) (miss_603 (by kernel_rfl) (along_miss (by kernel_rfl) rfl))
theorem A_Lexer_line : AttrAt (W0 w mb xt) 603 "line" := ⟨plain_Lexer,dict_Lexer,none,f_Lexer_line,rfl⟩
theorem S_Lexer_line : SetAt (W0 w mb xt) 603 "line" := ⟨seta_Lexer,over_Lexer,taker_of f_Lexer_line,dict_Lexer⟩
theorem N_Lexer : ClsAtW (W0 w mb xt) 603 474 := ⟨by kernel_rfl,findof_603 (c := [95,95,105,110,105,116,95,95]) (by kernel_rfl) (hit_603 (by kernel_rfl)),by kernel_rfl⟩
theorem M_Lexer_next : MethAt (W0 w mb xt) 603 "next" 481 := ⟨plain_Lexer,findof_603 (c := [110,101,120,116]) (by kernel_rfl) (hit_603 (by kernel_rfl)),by kernel_rfl,by kernel_rfl⟩
theorem M_Lexer_fail : MethAt (W0 w mb xt) 603 "fail" 488 := ⟨plain_Lexer,findof_603 (c := [102,97,105,108]) (by kernel_rfl) (hit_603 (by kernel_rfl)),by kernel_rfl,by kernel_rfl⟩
theorem M_Lexer_end_line : MethAt (W0 w mb xt) 603 "end_line" 495 := ⟨plain_Lexer,findof_603 (c := [101,110,100,95,108,105,110,101]) (by kernel_rfl) (hit_603 (by kernel_rfl)),by kernel_rfl,by kernel_rfl⟩
theorem M_Lexer_skip_blanks : MethAt (W0 w mb xt) 603 "skip_blanks" 502 := ⟨plain_Lexer,findof_603 (c := [115,107,105,112,95,98,108,97,110,107,115]) (by kernel_rfl) (hit_603 (by kernel_rfl)),by kernel_rfl,by kernel_rfl⟩
theorem M_Lexer_name_sign : MethAt (W0 w mb xt) 603 "name_sign" 516 := ⟨plain_Lexer,findof_603 (c := [110,97,109,101,95,115,105,103,110]) (by kernel_rfl) (hit_603 (by kernel_rfl)),by kernel_rfl,by kernel_rfl⟩
theorem M_Lexer_read_name : MethAt (W0 w mb xt) 603 "read_name" 523 := ⟨plain_Lexer,findof_603 (c := [114,101,97,100,95,110,97,109,101]) (by kernel_rfl) (hit_603 (by kernel_rfl)),by kernel_rfl,by kernel_rfl⟩
theorem M_Lexer_regex : MethAt (W0 w mb xt) 603 "regex" 572 := ⟨plain_Lexer,findof_603 (c := [114,101,103,101,120]) (by kernel_rfl) (hit_603 (by kernel_rfl)),by kernel_rfl,by kernel_rfl⟩
theorem M_Lexer_regex_body : MethAt (W0 w mb xt) 603 "regex_body" 579 := ⟨plain_Lexer,findof_603 (c := [114,101,103,101,120,95,98,111,100,121]) (by kernel_rfl) (hit_603 (by kernel_rfl)),by kernel_rfl,by kernel_rfl⟩
theorem M_Lexer_read_punct : MethAt (W0 w mb xt) 603 "read_punct" 600 := ⟨plain_Lexer,findof_603 (c := [114,101,97,100,95,112,117,110,99,116]) (by kernel_rfl) (hit_603 (by kernel_rfl)),by kernel_rfl,by kernel_rfl⟩
theorem find_705 (x : Str) : findIn (KK w.params) (.ref 705) x = alongIn (KK w.params) x [.ref 705,.type "object"] := by kernel_rfl
theorem findof_705 {x : String} {c : List Nat} {r : Option (Option Value)} (e : Str.ofString x = ⟨c.toArray⟩) (h : alongIn (KK w.params) ⟨c.toArray⟩ [.ref 705,.type "object"] = r) : findIn (W0 w mb xt).K (.ref 705) (Str.ofString x) = r := by
  rw [e]; exact (find_705 _).trans h
theorem plain_Jumps : plainGet (W0 w mb xt).K 705 (Str.ofString "x") = true := by kernel_rfl
theorem dict_Jumps : hasDictIn (W0 w mb xt).K 705 = true := by kernel_rfl
theorem over_Jumps : plainOver (W0 w mb xt).K 705 = true := by kernel_rfl
theorem seta_Jumps : findIn (W0 w mb xt).K (.ref 705) (Str.ofString "__setattr__") = some (some (.builtin "object.__setattr__")) := findof_705 (c := [95,95,115,101,116,97,116,116,114,95,95]) (by kernel_rfl) (miss_705 (by kernel_rfl) (along_hit (by kernel_rfl)))
theorem f_Jumps_labels : findIn (W0 w mb xt).K (.ref 705) (Str.ofString "labels") = some none := findof_705 (c := [108,97,98,101,108,115]) (by kernel_rfl) (miss_705 (by kernel_rfl) (along_miss (by kernel_rfl) rfl))
theorem A_Jumps_labels : AttrAt (W0 w mb xt) 705 "labels" := ⟨plain_Jumps,dict_Jumps,none,f_Jumps_labels,rfl⟩
theorem S_Jumps_labels : SetAt (W0 w mb xt) 705 "labels" := ⟨seta_Jumps,over_Jumps,taker_of f_Jumps_labels,dict_Jumps⟩
theorem f_Jumps_loops : findIn (W0 w mb xt).K (.ref 705) (Str.ofString "loops") = some none := findof_705 (c := [108,111,111,112,115]) (by kernel_rfl) (miss_705 (by kernel_rfl) (along_miss (by kernel_rfl) rfl))
theorem A_Jumps_loops : AttrAt (W0 w mb xt) 705 "loops" := ⟨plain_Jumps,dict_Jumps,none,f_Jumps_loops,rfl⟩
theorem S_Jumps_loops : SetAt (W0 w mb xt) 705 "loops" := ⟨seta_Jumps,over_Jumps,taker_of f_Jumps_loops,dict_Jumps⟩
theorem f_Jumps_switches : findIn (W0 w mb xt).K (.ref 705) (Str.ofString "switches") = some none := findof_705 (c := [115,119,105,116,99,104,101,115]) (by kernel_rfl) (miss_705 (by kernel_rfl) (along_miss (by kernel_rfl) rfl))
theorem S_Jumps_switches : SetAt (W0 w mb xt) 705 "switches" := ⟨seta_Jumps,over_Jumps,taker_of f_Jumps_switches,dict_Jumps⟩
theorem N_Jumps : ClsAtW (W0 w mb xt) 705 687 := ⟨by kernel_rfl,findof_705 (c := [95,95,105,110,105,116,95,95]) (by kernel_rfl) (hit_705 (by kernel_rfl)),by kernel_rfl⟩
theorem M_Jumps_label_fault : MethAt (W0 w mb xt) 705 "label_fault" 692 := ⟨plain_Jumps,findof_705 (c := [108,97,98,101,108,95,102,97,117,108,116]) (by kernel_rfl) (hit_705 (by kernel_rfl)),by kernel_rfl,by kernel_rfl⟩
theorem find_1203 (x : Str) : findIn (KK w.params) (.ref 1203) x = alongIn (KK w.params) x [.ref 1203,.ref 1120,.ref 1066,.ref 970,.ref 831,.type "object"] := by kernel_rfl
theorem findof_1203 {x : String} {c : List Nat} {r : Option (Option Value)} (e : Str.ofString x = ⟨c.toArray⟩) (h : alongIn (KK w.params) ⟨c.toArray⟩ [.ref 1203,.ref 1120,.ref 1066,.ref 970,.ref 831,.type "object"] = r) : findIn (W0 w mb xt).K (.ref 1203) (Str.ofString x) = r := by
  rw [e]; exact (find_1203 _).trans h
theorem plain_StmtParser : plainGet (W0 w mb xt).K 1203 (Str.ofString "x") = true := by kernel_rfl
theorem dict_StmtParser : hasDictIn (W0 w mb xt).K 1203 = true := by kernel_rfl
theorem over_StmtParser : plainOver (W0 w mb xt).K 1203 = true := by kernel_rfl
theorem seta_StmtParser : findIn (W0 w mb xt).K (.ref 1203) (Str.ofString "__setattr__") = some (some (.builtin "object.__setattr__")) := findof_1203 (c := [95,95,115,101,116,97,116,116,114,95,95]) (by kernel_rfl) (miss_1203 (by kernel_rfl) (miss_1120 (by kernel_rfl) (miss_1066 (by kernel_rfl) (miss_970 (by kernel_rfl) (miss_831 (by kernel_rfl) (along_hit (by kernel_rfl)))))))
theorem f_StmtParser_lexer : findIn (W0 w mb xt).K (.ref 1203) (Str.ofString "lexer") = some none := findof_1203 (c := [108,101,120,101,114]) (by kernel_rfl) (miss_1203 (by kernel_rfl) (miss_1120 (by kernel_rfl) (miss_1066 (by kernel_rfl) (miss_970 (by kernel_rfl) (miss_831 (by kernel_rfl) (along_miss (by kernel_rfl) rfl))))))
theorem A_StmtParser_lexer : AttrAt (W0 w mb xt) 1203 "lexer" := ⟨plain_StmtParser,dict_StmtParser,none,f_StmtParser_lexer,rfl⟩
theorem S_StmtParser_lexer : SetAt (W0 w mb xt) 1203 "lexer" := ⟨seta_StmtParser,over_StmtParser,taker_of f_StmtParser_lexer,dict_StmtParser⟩
theorem f_StmtParser_token : findIn (W0 w mb xt).K (.ref 1203) (Str.ofString "token") = some none := findof_1203 (c := [116,111,107,101,110]) (by kernel_rfl) (miss_1203 (by kernel_rfl) (miss_1120 (by kernel_rfl) (miss_1066 (by kernel_rfl) (miss_970 (by kernel_rfl) (miss_831 (by kernel_rfl) (along_miss (by kernel_rfl) rfl))))))
theorem A_StmtParser_token : AttrAt (W0 w mb xt) 1203 "token" := ⟨plain_StmtParser,dict_StmtParser,none,f_StmtParser_token,rfl⟩
theorem S_StmtParser_token : SetAt (W0 w mb xt) 1203 "token" := ⟨seta_StmtParser,over_StmtParser,taker_of f_StmtParser_token,dict_StmtParser⟩
theorem f_StmtParser_later : findIn (W0 w mb xt).K (.ref 1203) (Str.ofString "later") = some none := findof_1203 (c := [108,97,116,101,114]) (by kernel_rfl) (miss_1203 (by kernel_rfl) (miss_1120 (by kernel_rfl) (miss_1066 (by kernel_rfl) (miss_970 (by kernel_rfl) (miss_831 (by kernel_rfl) (along_miss (by kernel_rfl) rfl))))))
theorem A_StmtParser_later : AttrAt (W0 w mb xt) 1203 "later" := ⟨plain_StmtParser,dict_StmtParser,none,f_StmtParser_later,rfl⟩
theorem S_StmtParser_later : SetAt (W0 w mb xt) 1203 "later" := ⟨seta_StmtParser,over_StmtParser,taker_of f_StmtParser_later,dict_StmtParser⟩
theorem f_StmtParser_is_strict : findIn (W0 w mb xt).K (.ref 1203) (Str.ofString "is_strict") = some none := findof_1203 (c := [105,115,95,115,116,114,105,99,116]) (by kernel_rfl) (miss_1203 (by kernel_rfl) (miss_1120 (by kernel_rfl) (miss_1066 (by kernel_rfl) (miss_970 (by kernel_rfl) (miss_831 (by kernel_rfl) (along_miss (by kernel_rfl) rfl))))))
theorem A_StmtParser_is_strict : AttrAt (W0 w mb xt) 1203 "is_strict" := ⟨plain_StmtParser,dict_StmtParser,none,f_StmtParser_is_strict,rfl⟩
theorem S_StmtParser_is_strict : SetAt (W0 w mb xt) 1203 "is_strict" := ⟨seta_StmtParser,over_StmtParser,taker_of f_StmtParser_is_strict,dict_StmtParser⟩
theorem f_StmtParser_depth : findIn (W0 w mb xt).K (.ref 1203) (Str.ofString "depth") = some none := findof_1203 (c := [100,101,112,116,104]) (by kernel_rfl) (miss_1203 (by kernel_rfl) (miss_1120 (by kernel_rfl) (miss_1066 (by kernel_rfl) (miss_970 (by kernel_rfl) (miss_831 (by kernel_rfl) (along_miss (by kernel_rfl) rfl))))))
theorem S_StmtParser_depth : SetAt (W0 w mb xt) 1203 "depth" := ⟨seta_StmtParser,over_StmtParser,taker_of f_StmtParser_depth,dict_StmtParser⟩
theorem f_StmtParser_jumps : findIn (W0 w mb xt).K (.ref 1203) (Str.ofString "jumps") = some none := findof_1203 (c := [106,117,109,112,115]) (by kernel_rfl) (miss_1203 (by kernel_rfl) (miss_1120 (by kernel_rfl) (miss_1066 (by kernel_rfl) (miss_970 (by kernel_rfl) (miss_831 (by kernel_rfl) (along_miss (by kernel_rfl) rfl))))))
theorem A_StmtParser_jumps : AttrAt (W0 w mb xt) 1203 "jumps" := ⟨plain_StmtParser,dict_StmtParser,none,f_StmtParser_jumps,rfl⟩
theorem S_StmtParser_jumps : SetAt (W0 w mb xt) 1203 "jumps" := ⟨seta_StmtParser,over_StmtParser,taker_of f_StmtParser_jumps,dict_StmtParser⟩
theorem f_StmtParser_pending : findIn (W0 w mb xt).K (.ref 1203) (Str.ofString "pending") = some none := findof_1203 (c := [112,101,110,100,105,110,103]) (by kernel_rfl) (miss_1203 (by kernel_rfl) (miss_1120 (by kernel_rfl) (miss_1066 (by kernel_rfl) (miss_970 (by kernel_rfl) (miss_831 (by kernel_rfl) (along_miss (by kernel_rfl) rfl))))))
theorem A_StmtParser_pending : AttrAt (W0 w mb xt) 1203 "pending" := ⟨plain_StmtParser,dict_StmtParser,none,f_StmtParser_pending,rfl⟩
theorem S_StmtParser_pending : SetAt (W0 w mb xt) 1203 "pending" := ⟨seta_StmtParser,over_StmtParser,taker_of f_StmtParser_pending,dict_StmtParser⟩
theorem M_StmtParser_large_statement : MethAt (W0 w mb xt) 1203 "large_statement" 1137 := ⟨plain_StmtParser,findof_1203 (c := [108,97,114,103,101,95,115,116,97,116,101,109,101,110,116]) (by kernel_rfl) (hit_1203 (by kernel_rfl)),by kernel_rfl,by kernel_rfl⟩
theorem M_StmtParser_condition : MethAt (W0 w mb xt) 1203 "condition" 1144 := ⟨plain_StmtParser,findof_1203 (c := [99,111,110,100,105,116,105,111,110]) (by kernel_rfl) (hit_1203 (by kernel_rfl)),by kernel_rfl,by kernel_rfl⟩
theorem M_StmtParser_choice : MethAt (W0 w mb xt) 1203 "choice" 1151 := ⟨plain_StmtParser,findof_1203 (c := [99,104,111,105,99,101]) (by kernel_rfl) (hit_1203 (by kernel_rfl)),by kernel_rfl,by kernel_rfl⟩
theorem M_StmtParser_loop : MethAt (W0 w mb xt) 1203 "loop" 1158 := ⟨plain_StmtParser,findof_1203 (c := [108,111,111,112]) (by kernel_rfl) (hit_1203 (by kernel_rfl)),by kernel_rfl,by kernel_rfl⟩
theorem M_StmtParser_loop_body : MethAt (W0 w mb xt) 1203 "loop_body" 1165 := ⟨plain_StmtParser,findof_1203 (c := [108,111,111,112,95,98,111,100,121]) (by kernel_rfl) (hit_1203 (by kernel_rfl)),by kernel_rfl,by kernel_rfl⟩
theorem M_StmtParser_body : MethAt (W0 w mb xt) 1203 "body" 986 := ⟨plain_StmtParser,findof_1203 (c := [98,111,100,121]) (by kernel_rfl) (miss_1203 (by kernel_rfl) (miss_1120 (by kernel_rfl) (hit_1066 (by kernel_rfl)))),by kernel_rfl,by kernel_rfl⟩
theorem M_StmtParser_at_end : MethAt (W0 w mb xt) 1203 "at_end" 993 := ⟨plain_StmtParser,findof_1203 (c := [97,116,95,101,110,100]) (by kernel_rfl) (miss_1203 (by kernel_rfl) (miss_1120 (by kernel_rfl) (hit_1066 (by kernel_rfl)))),by kernel_rfl,by kernel_rfl⟩
theorem M_StmtParser_element : MethAt (W0 w mb xt) 1203 "element" 1000 := ⟨plain_StmtParser,findof_1203 (c := [101,108,101,109,101,110,116]) (by kernel_rfl) (miss_1203 (by kernel_rfl) (miss_1120 (by kernel_rfl) (hit_1066 (by kernel_rfl)))),by kernel_rfl,by kernel_rfl⟩
theorem M_StmtParser_statement : MethAt (W0 w mb xt) 1203 "statement" 1007 := ⟨plain_StmtParser,findof_1203 (c := [115,116,97,116,101,109,101,110,116]) (by kernel_rfl) (miss_1203 (by kernel_rfl) (miss_1120 (by kernel_rfl) (hit_1066 (by kernel_rfl)))),by kernel_rfl,by kernel_rfl⟩
theorem M_StmtParser_plain_expression : MethAt (W0 w mb xt) 1203 "plain_expression" 1014 := ⟨plain_StmtParser,findof_1203 (c := [112,108,97,105,110,95,101,120,112,114,101,115,115,105,111,110]) (by kernel_rfl) (miss_1203 (by kernel_rfl) (miss_1120 (by kernel_rfl) (hit_1066 (by kernel_rfl)))),by kernel_rfl,by kernel_rfl⟩
theorem M_StmtParser_word_statement : MethAt (W0 w mb xt) 1203 "word_statement" 1021 := ⟨plain_StmtParser,findof_1203 (c := [119,111,114,100,95,115,116,97,116,101,109,101,110,116]) (by kernel_rfl) (miss_1203 (by kernel_rfl) (miss_1120 (by kernel_rfl) (hit_1066 (by kernel_rfl)))),by kernel_rfl,by kernel_rfl⟩
theorem M_StmtParser_block : MethAt (W0 w mb xt) 1203 "block" 1035 := ⟨plain_StmtParser,findof_1203 (c := [98,108,111,99,107]) (by kernel_rfl) (miss_1203 (by kernel_rfl) (miss_1120 (by kernel_rfl) (hit_1066 (by kernel_rfl)))),by kernel_rfl,by kernel_rfl⟩
theorem M_StmtParser_variables : MethAt (W0 w mb xt) 1203 "variables" 1042 := ⟨plain_StmtParser,findof_1203 (c := [118,97,114,105,97,98,108,101,115]) (by kernel_rfl) (miss_1203 (by kernel_rfl) (miss_1120 (by kernel_rfl) (hit_1066 (by kernel_rfl)))),by kernel_rfl,by kernel_rfl⟩
theorem M_StmtParser_labelled : MethAt (W0 w mb xt) 1203 "labelled" 1049 := ⟨plain_StmtParser,findof_1203 (c := [108,97,98,101,108,108,101,100]) (by kernel_rfl) (miss_1203 (by kernel_rfl) (miss_1120 (by kernel_rfl) (hit_1066 (by kernel_rfl)))),by kernel_rfl,by kernel_rfl⟩
theorem M_StmtParser_leaving : MethAt (W0 w mb xt) 1203 "leaving" 1063 := ⟨plain_StmtParser,findof_1203 (c := [108,101,97,118,105,110,103]) (by kernel_rfl) (miss_1203 (by kernel_rfl) (miss_1120 (by kernel_rfl) (hit_1066 (by kernel_rfl)))),by kernel_rfl,by kernel_rfl⟩
theorem M_StmtParser_expression : MethAt (W0 w mb xt) 1203 "expression" 862 := ⟨plain_StmtParser,findof_1203 (c := [101,120,112,114,101,115,115,105,111,110]) (by kernel_rfl) (miss_1203 (by kernel_rfl) (miss_1120 (by kernel_rfl) (miss_1066 (by kernel_rfl) (hit_970 (by kernel_rfl))))),by kernel_rfl,by kernel_rfl⟩
theorem M_StmtParser_assignment : MethAt (W0 w mb xt) 1203 "assignment" 869 := ⟨plain_StmtParser,findof_1203 (c := [97,115,115,105,103,110,109,101,110,116]) (by kernel_rfl) (miss_1203 (by kernel_rfl) (miss_1120 (by kernel_rfl) (miss_1066 (by kernel_rfl) (hit_970 (by kernel_rfl))))),by kernel_rfl,by kernel_rfl⟩
theorem M_StmtParser_need_target : MethAt (W0 w mb xt) 1203 "need_target" 876 := ⟨plain_StmtParser,findof_1203 (c := [110,101,101,100,95,116,97,114,103,101,116]) (by kernel_rfl) (miss_1203 (by kernel_rfl) (miss_1120 (by kernel_rfl) (miss_1066 (by kernel_rfl) (hit_970 (by kernel_rfl))))),by kernel_rfl,by kernel_rfl⟩
theorem M_StmtParser_conditional : MethAt (W0 w mb xt) 1203 "conditional" 883 := ⟨plain_StmtParser,findof_1203 (c := [99,111,110,100,105,116,105,111,110,97,108]) (by kernel_rfl) (miss_1203 (by kernel_rfl) (miss_1120 (by kernel_rfl) (miss_1066 (by kernel_rfl) (hit_970 (by kernel_rfl))))),by kernel_rfl,by kernel_rfl⟩
theorem M_StmtParser_priority : MethAt (W0 w mb xt) 1203 "priority" 890 := ⟨plain_StmtParser,findof_1203 (c := [112,114,105,111,114,105,116,121]) (by kernel_rfl) (miss_1203 (by kernel_rfl) (miss_1120 (by kernel_rfl) (miss_1066 (by kernel_rfl) (hit_970 (by kernel_rfl))))),by kernel_rfl,by kernel_rfl⟩
theorem M_StmtParser_binary : MethAt (W0 w mb xt) 1203 "binary" 897 := ⟨plain_StmtParser,findof_1203 (c := [98,105,110,97,114,121]) (by kernel_rfl) (miss_1203 (by kernel_rfl) (miss_1120 (by kernel_rfl) (miss_1066 (by kernel_rfl) (hit_970 (by kernel_rfl))))),by kernel_rfl,by kernel_rfl⟩
theorem M_StmtParser_unary : MethAt (W0 w mb xt) 1203 "unary" 904 := ⟨plain_StmtParser,findof_1203 (c := [117,110,97,114,121]) (by kernel_rfl) (miss_1203 (by kernel_rfl) (miss_1120 (by kernel_rfl) (miss_1066 (by kernel_rfl) (hit_970 (by kernel_rfl))))),by kernel_rfl,by kernel_rfl⟩
theorem M_StmtParser_postfix : MethAt (W0 w mb xt) 1203 "postfix" 911 := ⟨plain_StmtParser,findof_1203 (c := [112,111,115,116,102,105,120]) (by kernel_rfl) (miss_1203 (by kernel_rfl) (miss_1120 (by kernel_rfl) (miss_1066 (by kernel_rfl) (hit_970 (by kernel_rfl))))),by kernel_rfl,by kernel_rfl⟩
theorem M_StmtParser_left_hand : MethAt (W0 w mb xt) 1203 "left_hand" 918 := ⟨plain_StmtParser,findof_1203 (c := [108,101,102,116,95,104,97,110,100]) (by kernel_rfl) (miss_1203 (by kernel_rfl) (miss_1120 (by kernel_rfl) (miss_1066 (by kernel_rfl) (hit_970 (by kernel_rfl))))),by kernel_rfl,by kernel_rfl⟩
theorem M_StmtParser_with_members : MethAt (W0 w mb xt) 1203 "with_members" 925 := ⟨plain_StmtParser,findof_1203 (c := [119,105,116,104,95,109,101,109,98,101,114,115]) (by kernel_rfl) (miss_1203 (by kernel_rfl) (miss_1120 (by kernel_rfl) (miss_1066 (by kernel_rfl) (hit_970 (by kernel_rfl))))),by kernel_rfl,by kernel_rfl⟩
theorem M_StmtParser_arguments : MethAt (W0 w mb xt) 1203 "arguments" 939 := ⟨plain_StmtParser,findof_1203 (c := [97,114,103,117,109,101,110,116,115]) (by kernel_rfl) (miss_1203 (by kernel_rfl) (miss_1120 (by kernel_rfl) (miss_1066 (by kernel_rfl) (hit_970 (by kernel_rfl))))),by kernel_rfl,by kernel_rfl⟩
theorem M_StmtParser_primary : MethAt (W0 w mb xt) 1203 "primary" 946 := ⟨plain_StmtParser,findof_1203 (c := [112,114,105,109,97,114,121]) (by kernel_rfl) (miss_1203 (by kernel_rfl) (miss_1120 (by kernel_rfl) (miss_1066 (by kernel_rfl) (hit_970 (by kernel_rfl))))),by kernel_rfl,by kernel_rfl⟩
theorem M_StmtParser_word_operand : MethAt (W0 w mb xt) 1203 "word_operand" 953 := ⟨plain_StmtParser,findof_1203 (c := [119,111,114,100,95,111,112,101,114,97,110,100]) (by kernel_rfl) (miss_1203 (by kernel_rfl) (miss_1120 (by kernel_rfl) (miss_1066 (by kernel_rfl) (hit_970 (by kernel_rfl))))),by kernel_rfl,by kernel_rfl⟩
theorem M_StmtParser_array : MethAt (W0 w mb xt) 1203 "array" 960 := ⟨plain_StmtParser,findof_1203 (c := [97,114,114,97,121]) (by kernel_rfl) (miss_1203 (by kernel_rfl) (miss_1120 (by kernel_rfl) (miss_1066 (by kernel_rfl) (hit_970 (by kernel_rfl))))),by kernel_rfl,by kernel_rfl⟩
theorem N_StmtParser : ClsAtW (W0 w mb xt) 1203 723 := ⟨by kernel_rfl,findof_1203 (c := [95,95,105,110,105,116,95,95]) (by kernel_rfl) (miss_1203 (by kernel_rfl) (miss_1120 (by kernel_rfl) (miss_1066 (by kernel_rfl) (miss_970 (by kernel_rfl) (hit_831 (by kernel_rfl)))))),by kernel_rfl⟩
theorem M_StmtParser_take : MethAt (W0 w mb xt) 1203 "take" 730 := ⟨plain_StmtParser,findof_1203 (c := [116,97,107,101]) (by kernel_rfl) (miss_1203 (by kernel_rfl) (miss_1120 (by kernel_rfl) (miss_1066 (by kernel_rfl) (miss_970 (by kernel_rfl) (hit_831 (by kernel_rfl)))))),by kernel_rfl,by kernel_rfl⟩
theorem M_StmtParser_peek : MethAt (W0 w mb xt) 1203 "peek" 737 := ⟨plain_StmtParser,findof_1203 (c := [112,101,101,107]) (by kernel_rfl) (miss_1203 (by kernel_rfl) (miss_1120 (by kernel_rfl) (miss_1066 (by kernel_rfl) (miss_970 (by kernel_rfl) (hit_831 (by kernel_rfl)))))),by kernel_rfl,by kernel_rfl⟩
theorem M_StmtParser_is_sign : MethAt (W0 w mb xt) 1203 "is_sign" 744 := ⟨plain_StmtParser,findof_1203 (c := [105,115,95,115,105,103,110]) (by kernel_rfl) (miss_1203 (by kernel_rfl) (miss_1120 (by kernel_rfl) (miss_1066 (by kernel_rfl) (miss_970 (by kernel_rfl) (hit_831 (by kernel_rfl)))))),by kernel_rfl,by kernel_rfl⟩
theorem M_StmtParser_is_word : MethAt (W0 w mb xt) 1203 "is_word" 751 := ⟨plain_StmtParser,findof_1203 (c := [105,115,95,119,111,114,100]) (by kernel_rfl) (miss_1203 (by kernel_rfl) (miss_1120 (by kernel_rfl) (miss_1066 (by kernel_rfl) (miss_970 (by kernel_rfl) (hit_831 (by kernel_rfl)))))),by kernel_rfl,by kernel_rfl⟩
theorem M_StmtParser_eat : MethAt (W0 w mb xt) 1203 "eat" 758 := ⟨plain_StmtParser,findof_1203 (c := [101,97,116]) (by kernel_rfl) (miss_1203 (by kernel_rfl) (miss_1120 (by kernel_rfl) (miss_1066 (by kernel_rfl) (miss_970 (by kernel_rfl) (hit_831 (by kernel_rfl)))))),by kernel_rfl,by kernel_rfl⟩
theorem M_StmtParser_need : MethAt (W0 w mb xt) 1203 "need" 765 := ⟨plain_StmtParser,findof_1203 (c := [110,101,101,100]) (by kernel_rfl) (miss_1203 (by kernel_rfl) (miss_1120 (by kernel_rfl) (miss_1066 (by kernel_rfl) (miss_970 (by kernel_rfl) (hit_831 (by kernel_rfl)))))),by kernel_rfl,by kernel_rfl⟩
theorem M_StmtParser_fail : MethAt (W0 w mb xt) 1203 "fail" 779 := ⟨plain_StmtParser,findof_1203 (c := [102,97,105,108]) (by kernel_rfl) (miss_1203 (by kernel_rfl) (miss_1120 (by kernel_rfl) (miss_1066 (by kernel_rfl) (miss_970 (by kernel_rfl) (hit_831 (by kernel_rfl)))))),by kernel_rfl,by kernel_rfl⟩
theorem M_StmtParser_fail_for : MethAt (W0 w mb xt) 1203 "fail_for" 786 := ⟨plain_StmtParser,findof_1203 (c := [102,97,105,108,95,102,111,114]) (by kernel_rfl) (miss_1203 (by kernel_rfl) (miss_1120 (by kernel_rfl) (miss_1066 (by kernel_rfl) (miss_970 (by kernel_rfl) (hit_831 (by kernel_rfl)))))),by kernel_rfl,by kernel_rfl⟩
theorem M_StmtParser_unexpected : MethAt (W0 w mb xt) 1203 "unexpected" 793 := ⟨plain_StmtParser,findof_1203 (c := [117,110,101,120,112,101,99,116,101,100]) (by kernel_rfl) (miss_1203 (by kernel_rfl) (miss_1120 (by kernel_rfl) (miss_1066 (by kernel_rfl) (miss_970 (by kernel_rfl) (hit_831 (by kernel_rfl)))))),by kernel_rfl,by kernel_rfl⟩
theorem M_StmtParser_need_name : MethAt (W0 w mb xt) 1203 "need_name" 800 := ⟨plain_StmtParser,findof_1203 (c := [110,101,101,100,95,110,97,109,101]) (by kernel_rfl) (miss_1203 (by kernel_rfl) (miss_1120 (by kernel_rfl) (miss_1066 (by kernel_rfl) (miss_970 (by kernel_rfl) (hit_831 (by kernel_rfl)))))),by kernel_rfl,by kernel_rfl⟩
theorem M_StmtParser_need_binding : MethAt (W0 w mb xt) 1203 "need_binding" 807 := ⟨plain_StmtParser,findof_1203 (c := [110,101,101,100,95,98,105,110,100,105,110,103]) (by kernel_rfl) (miss_1203 (by kernel_rfl) (miss_1120 (by kernel_rfl) (miss_1066 (by kernel_rfl) (miss_970 (by kernel_rfl) (hit_831 (by kernel_rfl)))))),by kernel_rfl,by kernel_rfl⟩
theorem M_StmtParser_can_end : MethAt (W0 w mb xt) 1203 "can_end" 821 := ⟨plain_StmtParser,findof_1203 (c := [99,97,110,95,101,110,100]) (by kernel_rfl) (miss_1203 (by kernel_rfl) (miss_1120 (by kernel_rfl) (miss_1066 (by kernel_rfl) (miss_970 (by kernel_rfl) (hit_831 (by kernel_rfl)))))),by kernel_rfl,by kernel_rfl⟩
theorem M_StmtParser_end_statement : MethAt (W0 w mb xt) 1203 "end_statement" 828 := ⟨plain_StmtParser,findof_1203 (c := [101,110,100,95,115,116,97,116,101,109,101,110,116]) (by kernel_rfl) (miss_1203 (by kernel_rfl) (miss_1120 (by kernel_rfl) (miss_1066 (by kernel_rfl) (miss_970 (by kernel_rfl) (hit_831 (by kernel_rfl)))))),by kernel_rfl,by kernel_rfl⟩
end Mine
end
end
section
namespace Mine
inductive Res (α : Type) where
  | ok (a : α)
  | fail (line : Nat)
  | out
noncomputable def Res.bind {α β : Type} : Res α→(α→Res β)→Res β
  | .ok a,k => k a
  | .fail n,_ => .fail n
  | .out,_ => .out
inductive KD where
  | end_ | name | keyword | number | text | punct | regex
  deriving DecidableEq
noncomputable def KD.str : KD→List Nat
  | .end_ => [101,110,100]
  | .name => [110,97,109,101]
  | .keyword => [107,101,121,119,111,114,100]
  | .number => [110,117,109,98,101,114]
  | .text => [116,101,120,116]
  | .punct => [112,117,110,99,116]
  | .regex => [114,101,103,101,120]
structure Lx where
  rest : List Nat
  line : Nat
structure Tk where
  k : KD
  v : List Nat
  v2 : List Nat
  n : Nat
  line : Nat
  bl : Bool
  st : List Nat
  en : List Nat
  oct : Bool
  pl : Bool
structure PS where
  lx : Lx
  tok : Tk
  later : Option Tk
  strict : Bool
  dep : Nat
  labels : List (List Nat × Bool)
  loops : Nat
  switches : Nat
  pend : Nat
inductive T where
  | none | bool (b : Bool) | int (n : Nat) | str (l : List Nat) | lst (ts : List T) | tup (ts : List T) | node (kind : List Nat) (line : Nat) (parts : List T)
  deriving Inhabited
namespace P
noncomputable def code : List Nat→Int
  | [] => -1
  | c :: _ => (c : Int)
noncomputable def blanks : List Int := [9,11,12,32,160,5760,6158,8239,8287,12288,65279]
noncomputable def lineEnds : List Int := [10,13,8232,8233]
noncomputable def isWhite (c : Int) : Bool := blanks.any (· == c) || (decide (8192 ≤ c) && decide (c ≤ 8202))
noncomputable def isLineEnd (c : Int) : Bool := lineEnds.any (· == c)
noncomputable def isDigit (c : Int) : Bool := decide (48 ≤ c) && decide (c ≤ 57)
noncomputable def isIdStart (c : Int) : Bool := (decide (65 ≤ c) && decide (c ≤ 90)) || ((decide (97 ≤ c) && decide (c ≤ 122)) || (c == 36 || c == 95))
noncomputable def isIdPart (c : Int) : Bool := isIdStart c || isDigit c
noncomputable def lineEndSize (r : List Nat) : Nat := if code r == 13 && code (r.drop 1) == 10 then 2 else 1
noncomputable def keywords : List (List Nat) := [[98,114,101,97,107],[99,97,115,101],[99,97,116,99,104],[99,111,110,116,105,110,117,101],[100,101,98,117,103,103,101,114],[100,101,102,97,117,108,116],[100,101,108,101,116,101],[100,111],[101,108,115,101],[102,105,110,97,108,108,121],[102,111,114],[102,117,110,99,116,105,111,110],[105,102],[105,110],[105,110,115,116,97,110,99,101,111,102],[110,101,119],[114,101,116,117,114,110],[115,119,105,116,99,104],[116,104,105,115],[116,104,114,111,119],[116,114,121],[116,121,112,101,111,102],[118,97,114],[118,111,105,100],[119,104,105,108,101],[119,105,116,104],[99,108,97,115,115],[99,111,110,115,116],[101,110,117,109],[101,120,112,111,114,116],[101,120,116,101,110,100,115],[105,109,112,111,114,116],[115,117,112,101,114],[110,117,108,108],[116,114,117,101],[102,97,108,115,101]]
noncomputable def puncts : List (List Nat) := [[62,62,62,61],[61,61,61],[33,61,61],[62,62,62],[60,60,61],[62,62,61],[60,61],[62,61],[61,61],[33,61],[43,43],[45,45],[60,60],[62,62],[38,38],[124,124],[43,61],[45,61],[42,61],[37,61],[38,61],[124,61],[94,61],[47,61],[123],[125],[40],[41],[91],[93],[46],[59],[44],[60],[62],[43],[45],[42],[37],[38],[124],[94],[33],[126],[63],[58],[61],[47]]
noncomputable def isIn (x : List Nat) (l : List (List Nat)) : Bool := l.any (· == x)
noncomputable def punctFind : List Nat→List Nat→Option (List Nat)
  | [],_ => none
  | k :: ks,r => if isIn (r.take k) puncts then some (r.take k) else punctFind ks r
noncomputable def punctAt (r : List Nat) : Option (List Nat) := punctFind [4,3,2,1] r
noncomputable def endLine (s : Lx) : Lx := ⟨s.rest.drop (lineEndSize s.rest),s.line + 1⟩
noncomputable def toLineEnd : List Nat→List Nat
  | [] => []
  | c :: r => if isLineEnd (c : Int) then c :: r else toLineEnd r
noncomputable def skipB : Nat→Lx→Res Lx
  | 0,_ => .out
  | n + 1,s =>
    if isLineEnd (code s.rest) then skipB n (endLine s)
    else if isWhite (code s.rest) then skipB n ⟨s.rest.drop 1,s.line⟩
    else if s.rest.take 2 == [47,47] then skipB n ⟨toLineEnd s.rest,s.line⟩
    else if s.rest.take 2 == [47,42] then .out
    else .ok s
noncomputable def idPart : List Nat→List Nat × List Nat
  | [] => ([],[])
  | c :: r => if isIdPart (c : Int) then (c :: (idPart r).1,(idPart r).2) else ([],c :: r)
noncomputable def tk0 (line : Nat) (bl : Bool) (st : List Nat) : Tk := ⟨.end_,[],[],0,line,bl,st,st,false,true⟩
noncomputable def skip (s₀ : Lx) : Res (Bool × Lx) := (skipB (s₀.rest.length + 1) s₀).bind fun s => .ok (decide (s₀.line < s.line),s)
noncomputable def readName (s : Lx) (t : Tk) : Res (Unit × (Lx × Tk)) :=
  if code s.rest == 92 then .out else if code (idPart s.rest).2 == 92 then .out
  else .ok ((),(⟨(idPart s.rest).2,s.line⟩,{ t with k := if isIn (idPart s.rest).1 keywords then .keyword else .name,v := (idPart s.rest).1 }))
noncomputable def readPunct (s : Lx) (t : Tk) : Res (Unit × (Lx × Tk)) := match punctAt s.rest with
  | none => .fail s.line
  | some p => .ok ((),(⟨s.rest.drop p.length,s.line⟩,{ t with k := .punct,v := p }))
noncomputable def fin (p : Unit × (Lx × Tk)) : Res (Tk × Lx) := .ok ({ p.2.2 with en := p.2.1.rest },p.2.1)
noncomputable def nextAt (s : Lx) (t : Tk) : Res (Tk × Lx) :=
  if decide (code s.rest < 0) then .ok (t,s)
  else if isIdStart (code s.rest) || code s.rest == 92 then (readName s t).bind fin
  else if isDigit (code s.rest) || (code s.rest == 46 && isDigit (code (s.rest.drop 1))) then .out
  else if code s.rest == 34 || code s.rest == 39 then .out
  else (readPunct s t).bind fin
noncomputable def next (s₀ : Lx) : Res (Tk × Lx) := (skip s₀).bind fun p => nextAt p.2 (tk0 p.2.line p.1 p.2.rest)
noncomputable def rxBody : Nat→Nat→Bool→List Nat→Res (List Nat × List Nat)
  | 0,_,_,_ => .out
  | n + 1,line,cls,r =>
    let c := code r
    if c == 92 then
      let c' := code (r.drop 1)
      if c' < 0 || isLineEnd c' then .fail line
      else (rxBody n line cls (r.drop 2)).bind fun p => .ok (r.take 2 ++ p.1,p.2)
    else if c == 47 && !cls then .ok ([],r.drop 1)
    else if c < 0 || isLineEnd c then .fail line
    else (rxBody n line (if c == 91 || c == 93 then c == 91 else cls) (r.drop 1)).bind fun p => .ok (r.take 1 ++ p.1,p.2)
noncomputable def regexEnd (t : Tk) (b : List Nat) (s : Lx) : Res (Tk × Lx) :=
  if code (idPart s.rest).2 == 92 then .fail s.line
  else .ok (⟨.regex,b,(idPart s.rest).1,0,t.line,t.bl,t.st,(idPart s.rest).2,false,true⟩,⟨(idPart s.rest).2,s.line⟩)
noncomputable def regex (s : Lx) (t : Tk) : Res (Tk × Lx) :=
  ((rxBody (t.st.length + 1) s.line false (t.st.drop 1)).bind fun p => .ok (p.1,⟨p.2,s.line⟩)).bind fun p => regexEnd t p.1 p.2
noncomputable abbrev M (α : Type) := PS→Res (α × PS)
noncomputable def ret {α : Type} (a : α) : M α := fun s => .ok (a,s)
noncomputable def bnd {α β : Type} (m : M α) (k : α→M β) : M β := fun s => (m s).bind fun p => k p.1 p.2
noncomputable def out {α : Type} : M α := fun _ => .out
noncomputable def fail {α : Type} : M α := fun s => .fail s.tok.line
noncomputable def mod (f : PS→PS) : M Unit := fun s => .ok ((),f s)
noncomputable def isSign (s : PS) (x : List Nat) : Bool := s.tok.k == .punct && s.tok.v == x
noncomputable def isWord (s : PS) (x : List Nat) : Bool := s.tok.k == .keyword && s.tok.v == x && s.tok.pl
noncomputable def take : M Tk := fun s => match s.later with
  | none => (next s.lx).bind fun p => .ok (s.tok,{ s with tok := p.1,lx := p.2 })
  | some t => .ok (s.tok,{ s with tok := t,later := none })
noncomputable def peek : M Tk := fun s => match s.later with
  | none => (next s.lx).bind fun p => .ok (p.1,{ s with later := some p.1,lx := p.2 })
  | some t => .ok (t,s)
noncomputable def eat (x : List Nat) : M Bool := fun s => if isSign s x then bnd take (fun _ => ret true) s else .ok (false,s)
noncomputable def need (x : List Nat) : M Unit := bnd (eat x) fun b => if b then ret () else fail
noncomputable def strictWords : List (List Nat) := [[105,109,112,108,101,109,101,110,116,115],[105,110,116,101,114,102,97,99,101],[108,101,116],[112,97,99,107,97,103,101],[112,114,105,118,97,116,101],[112,114,111,116,101,99,116,101,100],[112,117,98,108,105,99],[115,116,97,116,105,99],[121,105,101,108,100]]
noncomputable def nameFault (x : List Nat) (st : Bool) : Bool := st && isIn x strictWords
noncomputable def restricted : List (List Nat) := [[97,114,103,117,109,101,110,116,115],[101,118,97,108]]
noncomputable def loopWords : List (List Nat) := [[100,111],[119,104,105,108,101],[102,111,114]]
noncomputable def bindFault (x : List Nat) (st : Bool) : Bool := (st && isIn x restricted) || nameFault x st
noncomputable def targets : List (List Nat) := [[78,97,109,101],[77,101,109,98,101,114],[73,110,100,101,120]]
noncomputable def needName : M (List Nat) := fun s => if s.tok.k == .name then (if nameFault s.tok.v s.strict then fail s else bnd take (fun t => ret t.v) s) else fail s
noncomputable def needBinding : M (List Nat) := fun s => if s.tok.k == .name then (if bindFault s.tok.v s.strict then fail s else bnd take (fun t => ret t.v) s) else fail s
noncomputable def canEnd (s : PS) : Bool := isSign s [59] || isSign s [125] || s.tok.k == .end_ || s.tok.bl
noncomputable def endStatement : M Unit := bnd (eat [59]) fun b => if b then ret () else fun s => if canEnd s then .ok ((),s) else fail s
noncomputable def prios : List (List Nat × Nat) := [([124,124],1),([38,38],2),([124],3),([94],4),([38],5),([61,61],6),([33,61],6),([61,61,61],6),([33,61,61],6),([60],7),([62],7),([60,61],7),([62,61],7),([105,110,115,116,97,110,99,101,111,102],7),([105,110],7),([60,60],8),([62,62],8),([62,62,62],8),([43],9),([45],9),([42],10),([47],10),([37],10)]
noncomputable def prioOf : List (List Nat × Nat)→List Nat→Nat
  | [],_ => 0
  | (k,n) :: r,x => if k == x then n else prioOf r x
noncomputable def priority (s : PS) (canIn : Bool) : Nat :=
  if s.tok.k == .punct then prioOf prios s.tok.v else if isWord s [105,110] then (if canIn then 7 else 0) else if isWord s [105,110,115,116,97,110,99,101,111,102] then 7 else 0
noncomputable def assigning : List (List Nat) := [[61],[43,61],[45,61],[42,61],[47,61],[37,61],[60,60,61],[62,62,61],[62,62,62,61],[38,61],[94,61],[124,61]]
noncomputable def unarySigns : List (List Nat) := [[45],[43],[33],[126]]
noncomputable def unaryWords : List (List Nat) := [[116,121,112,101,111,102],[118,111,105,100],[100,101,108,101,116,101]]
noncomputable def steps : List (List Nat) := [[43,43],[45,45]]
noncomputable def kindOf : T→List Nat
  | .node k _ _ => k
  | _ => []
noncomputable def lineOf : T→Nat
  | .node _ n _ => n
  | _ => 0
noncomputable def partsOf : T→List T
  | .node _ _ p => p
  | _ => []
noncomputable def strOf : T→List Nat
  | .str x => x
  | _ => []
noncomputable def targetFault (kind name : List Nat) (st : Bool) : Bool := if isIn kind targets then (kind == [78,97,109,101] && bindFault name st) else true
noncomputable def headStr (p : List T) : List Nat := strOf (p.headD .none)
noncomputable def needTarget (t : T) : M Unit := fun s => if targetFault (kindOf t) (headStr (partsOf t)) s.strict then fail s else .ok ((),s)
inductive Call where
  | expression (i : Bool) | assignment (i : Bool) | conditional (i : Bool) | binary (n : Nat) (i : Bool) | unary | postf | leftHand | withMembers (t : T) | arguments | primary | wordOperand | array
  | body | element | statement | plainExpr | wordStatement (x : List Nat) (k : Nat) | large (x : List Nat) (k : Nat) | block | variables (i : Bool) | labelled (k : Nat) | leaving (x : List Nat)
  | condition | choice | loop (x : List Nat) (k : Nat) | loopBody
noncomputable def loopM {σ β : Type} : Nat→(σ→M (σ ⊕ β))→σ→M β
  | 0,_,_ => out
  | n + 1,f,a => bnd (f a) fun r => match r with | .inl b => loopM n f b | .inr v => ret v
noncomputable def LN : Nat := 4000
noncomputable abbrev Rec := Call→M T
section
variable (R : Rec)
noncomputable def commaTurn (i : Bool) (first : T) (acc : List T) : M (List T ⊕ T) := bnd (eat [44]) fun b => if b then bnd (R (.assignment i)) fun t => ret (.inl (acc ++ [t])) else ret (.inr (T.node [67,111,109,109,97] (lineOf first) [.lst acc]))
noncomputable def expression (i : Bool) : M T := bnd (R (.assignment i)) fun first => fun s =>
  if isSign s [44] then loopM LN (commaTurn R i first) [first] s else .ok (first,s)
noncomputable def assignment (i : Bool) : M T := bnd (R (.conditional i)) fun left => fun s =>
  if s.tok.k == .punct && isIn s.tok.v assigning then
    (bnd (needTarget left) fun _ => bnd take fun t => bnd (R (.assignment i)) fun v => ret (.node [65,115,115,105,103,110] (lineOf left) [.str t.v,left,v])) s
  else .ok (left,s)
noncomputable def conditional (i : Bool) : M T := bnd (R (.binary 1 i)) fun test => bnd (eat [63]) fun b =>
  if b then bnd (R (.assignment true)) fun then_ => bnd (need [58]) fun _ => bnd (R (.assignment i)) fun e => ret (.node [67,111,110,100] (lineOf test) [test,then_,e]) else ret test
noncomputable def binTurn (least : Nat) (i : Bool) (left : T) : M (T ⊕ T) := fun s => if least ≤ priority s i then
    (bnd take fun t => bnd (R (.binary (priority s i + 1) i)) fun right => ret (.inl (T.node (if priority s i < 3 then [76,111,103,105,99,97,108] else [66,105,110,97,114,121]) (lineOf left) [.str t.v,left,right]))) s else .ok (.inr left,s)
noncomputable def binary (least : Nat) (i : Bool) : M T := bnd (R .unary) fun left => loopM LN (binTurn R least i) left
noncomputable def unary : M T := fun s =>
  if s.tok.k == .punct && isIn s.tok.v steps then
    (bnd take fun _ => bnd (R .unary) fun t => bnd (needTarget t) fun _ => ret (.node [85,112,100,97,116,101] s.tok.line [.str s.tok.v,.bool true,t])) s
  else if (s.tok.k == .punct && isIn s.tok.v unarySigns) || (s.tok.k == .keyword && (isIn s.tok.v unaryWords && s.tok.pl)) then
    (bnd take fun _ => bnd (R .unary) fun t => fun s' => if s.tok.v == [100,101,108,101,116,101] && (s'.strict && kindOf t == [78,97,109,101]) then fail s' else .ok (.node [85,110,97,114,121] s.tok.line [.str s.tok.v,t],s')) s
  else R .postf s
noncomputable def postf : M T := bnd (R .leftHand) fun t => fun s =>
  if s.tok.k == .punct && (isIn s.tok.v steps && !s.tok.bl) then (bnd (needTarget t) fun _ => bnd take fun k => ret (.node [85,112,100,97,116,101] (lineOf t) [.str k.v,.bool false,t])) s else .ok (t,s)
noncomputable def callTurn (t : T) : M (T ⊕ T) := fun s => if isSign s [40] then (bnd (R .arguments) fun a => bnd (R (.withMembers (.node [67,97,108,108] (lineOf t) [t,a]))) fun t => ret (.inl t)) s else .ok (.inr t,s)
noncomputable def leftHand : M T := fun s => if isWord s [110,101,119] then .out else
  (bnd (R .primary) fun t => bnd (R (.withMembers t)) fun t => loopM LN (callTurn R) t) s
noncomputable def withMembers (t : T) : M T := fun s => if isSign s [46] || isSign s [91] then .out else .ok (t,s)
noncomputable def argTurn (acc : List T) : M (List T ⊕ T) := fun s => if isSign s [41] then (bnd (need [41]) fun _ => ret (.inr (T.lst acc))) s else
    (bnd (R (.assignment true)) fun t => bnd (eat [44]) fun b => if b then fun s => (if isSign s [41] then fail s else .ok (.inl (acc ++ [t]),s)) else bnd (need [41]) fun _ => ret (.inr (T.lst (acc ++ [t])))) s
noncomputable def arguments : M T := bnd (need [40]) fun _ => loopM LN (argTurn R) []
noncomputable def primary : M T := fun s =>
  if s.tok.k == .name then (bnd needName fun x => ret (.node [78,97,109,101] s.tok.line [.str x])) s
  else if s.tok.k == .number || s.tok.k == .text then .out
  else if s.tok.k == .keyword then R .wordOperand s
  else (bnd (eat [40]) fun b => if b then bnd (R (.expression true)) fun t => bnd (need [41]) fun _ => ret t else fun s =>
    if isSign s [91] then R .array s else if isSign s [123] then .out
    else if isSign s [47] || isSign s [47,61] then
      (regex s.lx s.tok).bind fun p => (bnd take fun k => ret (.node [82,101,103,101,120] s.tok.line [.str k.v,.str k.v2])) { s with tok := p.1,lx := p.2 }
    else fail s) s
noncomputable def wordOperand : M T := fun s => .out
noncomputable def arrTurn (line : Nat) (acc : List T) : M (List T ⊕ T) := fun s => if isSign s [93] then (bnd (need [93]) fun _ => ret (.inr (T.node [65,114,114,97,121] line [.lst acc]))) s else
    (bnd (eat [44]) fun b => if b then ret (.inl (acc ++ [T.none])) else bnd (R (.assignment true)) fun t => fun s =>
      if isSign s [93] then .ok (.inl (acc ++ [t]),s) else (bnd (need [44]) fun _ => ret (.inl (acc ++ [t]))) s) s
noncomputable def array : M T := bnd take fun k => loopM LN (arrTurn R k.line) []
noncomputable def bodyTurn (acc : List T) : M (List T ⊕ T) := fun s => if s.tok.k == .end_ then .ok (.inr (T.lst acc),s) else if s.tok.k == .text then .out else (bnd (R .element) fun t => ret (.inl (acc ++ [t]))) s
noncomputable def body : M T := loopM LN (bodyTurn R) []
noncomputable def element : M T := fun s => if isWord s [102,117,110,99,116,105,111,110] then .out else R .statement s
noncomputable def stGo (s : PS) : M T := fun s' =>
      if s.tok.k == .keyword && s.tok.pl then R (.wordStatement s.tok.v s.pend) s'
      else if isSign s' [123] then (bnd (R .block) fun b => ret (.node [66,108,111,99,107] s.tok.line [b])) s'
      else (bnd (eat [59]) fun b => if b then ret (.node [69,109,112,116,121] s.tok.line []) else R .plainExpr) s'
noncomputable def statement : M T := fun s =>
  (bnd (mod fun s => { s with pend := 0 }) fun _ =>
    if s.tok.k == .name then bnd peek fun k => if k.k == .punct && k.v == [58] then R (.labelled s.pend) else stGo R s else stGo R s) s
noncomputable def plainExpr : M T := fun s => (bnd (R (.expression true)) fun t => bnd endStatement fun _ => ret (.node [69,120,112,114] s.tok.line [t])) s
noncomputable def wordStatement (x : List Nat) (k : Nat) : M T := fun s =>
  if x == [118,97,114] then (bnd take fun _ => bnd (R (.variables true)) fun v => bnd endStatement fun _ => ret (.node [86,97,114] s.tok.line [v])) s
  else if isIn x [[98,114,101,97,107],[99,111,110,116,105,110,117,101]] then .out
  else if isIn x [[114,101,116,117,114,110],[116,104,114,111,119]] then R (.leaving x) s
  else if x == [100,101,98,117,103,103,101,114] then .out
  else if x == [102,117,110,99,116,105,111,110] then fail s
  else if x == [119,105,116,104] then fail s
  else R (.large x k) s
noncomputable def large (x : List Nat) (k : Nat) : M T := fun s =>
  if isIn x loopWords then R (.loop x k) s else if x == [105,102] then R .choice s else if x == [115,119,105,116,99,104] then .out else if x == [116,114,121] then .out else R .plainExpr s
noncomputable def blockTurn (acc : List T) : M (List T ⊕ T) := fun s => if isSign s [125] then (bnd (need [125]) fun _ => ret (.inr (T.lst acc))) s else (bnd (R .statement) fun t => ret (.inl (acc ++ [t]))) s
noncomputable def block : M T := bnd (need [123]) fun _ => loopM LN (blockTurn R) []
noncomputable def varTurn (i : Bool) (acc : List T) : M (List T ⊕ T) := bnd needBinding fun x => bnd (eat [61]) fun b => bnd (if b then R (.assignment i) else ret .none) fun v => bnd (eat [44]) fun c =>
    if c then ret (.inl (acc ++ [T.tup [.str x,v]])) else ret (.inr (T.lst (acc ++ [T.tup [.str x,v]])))
noncomputable def variables (i : Bool) : M T := loopM LN (varTurn R i) []
noncomputable def labelled (k : Nat) : M T := fun s => (bnd needName fun x => bnd take fun _ => fun s' =>
  if !s'.labels.isEmpty then .out else
    (bnd (mod fun s => { s with labels := [(x,false)],pend := k + 1 }) fun _ => bnd (R .statement) fun t => fun s4 => if s4.pend == 0 then .ok (.node [76,97,98,101,108,108,101,100] s.tok.line [.str x,t],{ s4 with labels := s4.labels.dropLast }) else .out) s') s
noncomputable def leaving (x : List Nat) : M T := fun s => (bnd take fun _ => fun s' =>
  if x == [114,101,116,117,114,110] then .out
  else if s'.tok.bl then fail s' else (bnd (R (.expression true)) fun t => bnd endStatement fun _ => ret (.node [84,104,114,111,119] s.tok.line [t])) s') s
noncomputable def condition : M T := bnd (need [40]) fun _ => bnd (R (.expression true)) fun t => bnd (need [41]) fun _ => ret t
noncomputable def choice : M T := fun s => (bnd take fun _ => bnd (R .condition) fun c => bnd (R .statement) fun t => fun s' =>
  if isWord s' [101,108,115,101] then .out else .ok (.node [73,102] s.tok.line [c,t,.none],s')) s
noncomputable def loop (x : List Nat) (k : Nat) : M T := fun s => if k == 0 then
  (bnd take fun _ => if x == [119,104,105,108,101] then bnd (R .condition) fun c => bnd (R .loopBody) fun b => ret (.node [87,104,105,108,101] s.tok.line [c,b]) else out) s else .out
noncomputable def loopBody : M T := bnd (mod fun s => { s with loops := s.loops + 1 }) fun _ => bnd (R .statement) fun t => fun s => if s.loops == 0 then .out else .ok (t,{ s with loops := s.loops - 1 })
noncomputable def step : Call→M T
  | .expression i => expression R i
  | .assignment i => assignment R i
  | .conditional i => conditional R i
  | .binary n i => binary R n i
  | .unary => unary R
  | .postf => postf R
  | .leftHand => leftHand R
  | .withMembers t => withMembers t
  | .arguments => arguments R
  | .primary => primary R
  | .wordOperand => wordOperand
  | .array => array R
  | .body => body R
  | .element => element R
  | .statement => statement R
  | .plainExpr => plainExpr R
  | .wordStatement x k => wordStatement R x k
  | .large x k => large R x k
  | .block => block R
  | .variables i => variables R i
  | .labelled k => labelled R k
  | .leaving x => leaving R x
  | .condition => condition R
  | .choice => choice R
  | .loop x k => loop R x k
  | .loopBody => loopBody R
end
noncomputable def run : Nat→Rec
  | 0 => fun _ => out
  | n + 1 => step (run n)
noncomputable def begin (t : List Nat) : Res PS := (next ⟨t,1⟩).bind fun p => .ok ⟨p.2,p.1,none,false,0,[],0,0,0⟩
noncomputable def parse (n : Nat) (t : List Nat) : Res T := (begin t).bind fun s => (run n .body s).bind fun p => .ok (.node [80,114,111,103,114,97,109] 1 [p.1,.bool p.2.strict])
end P
end Mine
end
section
open PySem PySem.W PySem.Calls PyProof.Rows
namespace Mine
noncomputable abbrev SS (l : List Nat) : Str := ⟨l.toArray⟩
noncomputable def Ext (A : List Addr) (H H' : MH) : Prop := ∀ b o,b ∉ A→H b = some o→H' b = some o
theorem Ext.refl {A : List Addr} {H : MH} : Ext A H H := fun _ _ _ h => h
theorem Ext.trans {A : List Addr} {H H' H'' : MH} (x : Ext A H H') (y : Ext A H' H'') : Ext A H H'' := fun b o n h => y b o n (x b o n h)
theorem Ext.sub {A A' : List Addr} {H H' : MH} (x : Ext A H H') (s : ∀ a∈A,a∈A') : Ext A' H H' := fun b o n h => x b o (fun z => n (s b z)) h
theorem Ext.put {A : List Addr} {H H' : MH} {a : Addr} {o : MO} (x : Ext A H H') (h : a∈A) : Ext A H (H'.put a o) := fun b o' n e => by
  unfold MH.put;rw [if_neg (fun z => n (by rw [z]; exact h))]; exact x b o' n e
theorem Ext.dropped {A : List Addr} {H H' : MH} {a : Addr} (h : H a = none) (x : Ext A H H') : Ext A H (H'.drop a) := fun b o' n e => by
  unfold MH.drop;rw [if_neg (fun z => by rw [z,h] at e; cases e)]; exact x b o' n e
theorem put_ne {H : MH} {a b : Addr} {o : MO} (h : b ≠ a) : H.put a o b = H b := if_neg h
theorem put_self {H : MH} {a : Addr} {o : MO} : H.put a o a = some o := if_pos rfl
theorem drop_ne {H : MH} {a b : Addr} (h : b ≠ a) : H.drop a b = H b := if_neg h
theorem put_put {H : MH} {a : Addr} {o o' : MO} : (H.put a o).put a o' = H.put a o' := by
  funext b
  unfold MH.put
  by_cases e : b = a
  · rw [if_pos e,if_pos e]
  · rw [if_neg e,if_neg e,if_neg e]
noncomputable def RQ {σ α : Type} (I : σ→MH→Prop) (A : List Addr) (X : Nat→MH→Prop) (H : MH) (r : Res (α × σ)) (Q : α→σ→MH→Prop) : Prop := match r with
  | .ok p => ∀ H',I p.2 H'→Ext A H H'→Q p.1 p.2 H'
  | .fail n => ∀ H',Ext A H H'→X n H'
  | .out => False
section
variable {σ τ α β : Type} {I : σ→MH→Prop} {J : τ→MH→Prop} {A B : List Addr} {X : Nat→MH→Prop} {H H' : MH}
theorem RQ.mono {r : Res (α × σ)} {Q Q' : α→σ→MH→Prop} (h : RQ I A X H r Q) (g : ∀ a s H',I s H'→Ext A H H'→Q a s H'→Q' a s H') : RQ I A X H r Q' := by
  cases r with
  | ok p => exact fun H' i x => g p.1 p.2 H' i x (h H' i x)
  | fail n => exact h
  | out => exact h
end
structure TxtOk (T : List Nat) : Prop where
  len : T.length < 60000
  asc : ∀ c∈T,c < 128
noncomputable def posOf (T r : List Nat) : Int := ((T.length - r.length : Nat) : Int)
structure LInv (T : List Nat) (lx : Addr) (s : Lx) (H : MH) : Prop where
  at' : H lx = some (.inst 603 ["text","at","line"] [.str (SS T),.int (posOf T s.rest),.int s.line])
  suf : s.rest <:+ T
noncomputable def tokVal (t : Tk) : V := match t.k with
  | .number => .int t.n
  | .regex => .tup [.str (SS t.v),.str (SS t.v2)]
  | _ => .str (SS t.v)
noncomputable def tokV (T : List Nat) (t : Tk) : V := .obj 422 ["kind","value","line","is_behind_line","start","end","is_octal","is_plain"] [.str (SS t.k.str),tokVal t,.int t.line,.bool t.bl,.int (posOf T t.st),.int (posOf T t.en),.bool t.oct,.bool t.pl]
structure TokOk (T : List Nat) (t : Tk) : Prop where
  st : t.st <:+ T
  len : t.v.length ≤ T.length
  ne : (t.k == .punct) = true→1 ≤ t.st.length
mutual
noncomputable def toV : T→V
  | .none => .none
  | .bool b => .bool b
  | .int n => .int n
  | .str l => .str (SS l)
  | .lst ts => .lst (toVs ts)
  | .tup ts => .tup (toVs ts)
  | .node k n ps => .obj 31 ["kind","line","parts","scope"] [.str (SS k),.int n,.lst (toVs ps),.none]
noncomputable def toVs : List T→List V
  | [] => []
  | t :: ts => toV t :: toVs ts
end
theorem toVs_map : ∀ ts : List T,toVs ts = ts.map toV
  | [] => rfl
  | t :: ts => by rw [toVs,toVs_map ts]; rfl
structure Js where
  p : Addr
  lx : Addr
  jp : Addr
  ls : Addr
  lbs : List Addr
noncomputable def Js.A (js : Js) : List Addr := js.p :: js.lx :: js.jp :: js.ls :: js.lbs
noncomputable def laterV (T : List Nat) : Option Tk→V
  | none => .none
  | some t => tokV T t
noncomputable def pendV (js : Js) (k : Nat) : V := .lst ((js.lbs.drop (js.lbs.length - k)).map .ref)
noncomputable def labsAt (H : MH) : List Addr→List (List Nat × Bool)→Prop
  | [],[] => True
  | a :: as,p :: ps => H a = some (.list [.str (SS p.1),.bool p.2])∧labsAt H as ps
  | _,_ => False
structure PInv (T : List Nat) (js : Js) (ps : PS) (H : MH) : Prop where
  p : H js.p = some (.inst 1203 ["lexer","token","later","is_strict","depth","jumps","pending"] [.ref js.lx,tokV T ps.tok,laterV T ps.later,.bool ps.strict,.int ps.dep,.ref js.jp,pendV js ps.pend])
  lx : LInv T js.lx ps.lx H
  jp : H js.jp = some (.inst 705 ["labels","loops","switches"] [.ref js.ls,.int ps.loops,.int ps.switches])
  ls : H js.ls = some (.list (js.lbs.map .ref))
  lb : labsAt H js.lbs ps.labels
  nd : js.A.Nodup
  tk : TokOk T ps.tok
  lt : ∀ t,ps.later = some t→TokOk T t
  many : js.lbs.length < 1000
theorem code_get {T r : List Nat} (h : r <:+ T) (k : Nat) : (SS T).cps[(T.length - r.length) + k]? = r[k]? := by
  obtain ⟨a,rfl⟩ := h;show ((a ++ r).toArray)[_]? = _;rw [List.getElem?_toArray,List.length_append,Nat.add_sub_cancel,List.getElem?_append_right (Nat.le_add_right _ _),Nat.add_sub_cancel_left]
theorem suf_len {T r : List Nat} (h : r <:+ T) : r.length ≤ T.length := h.length_le
theorem posOf_drop {T r : List Nat} {k : Nat} (h : r <:+ T) (hk : k ≤ r.length) : posOf T (r.drop k) = posOf T r + k := by
  have := suf_len h;unfold posOf;rw [List.length_drop];omega
theorem suf_drop {T r : List Nat} (k : Nat) (h : r <:+ T) : r.drop k <:+ T := (List.drop_suffix k r).trans h
end Mine
end
section
open PySem PySem.W PySem.Calls PyProof.Rows
namespace Mine
noncomputable def LSub (l' l : Loc) : Prop := ∀ x v,lget l' x = some v→lget l x = some v
theorem LSub.refl {l : Loc} : LSub l l := fun _ _ h => h
theorem LSub_nil {l : Loc} : LSub [] l := fun _ _ h => by cases h
theorem LSub_cons {k : String} {v : V} {l' l : Loc} (h : lget l k = some v) (r : LSub l' l) : LSub ((k,v) :: l') l := fun x u e => by
  unfold lget at e
  by_cases q : (k == x) = true
  · rw [if_pos q] at e;have : k = x := by simpa using q
    subst this
    cases e; exact h
  · rw [if_neg q] at e; exact r x u e
theorem LSub.set {x : String} {v : V} {l' l : Loc} (h : LSub l' l) : LSub (lset l' x v) (lset l x v) := fun y u e => by
  rw [lget_lset] at e ⊢
  by_cases q : (x == y) = true
  · rw [if_pos q] at e ⊢; exact e
  · rw [if_neg q] at e ⊢; exact h y u e
theorem LRel.sub {P : Params} {fz : Fz} {l' l : Loc} {m : Str→Option Value} (h : LRel P fz l m) (s : LSub l' l) : LRel P fz l' m := fun x v e => h x v (s x v e)
section
variable {W : Wd} {d : Dx} {cs : Scope} {l : Loc} {H : MH}
theorem St.loc {C : FC} {l' l : Loc} {news : Led} {ow : Own} {s : Shared} (s' : LSub l' l) (h : St W C l H news ow s) : St W C l' H news ow s :=
  ⟨let ⟨m,F,lr⟩ := h.fr; ⟨m,F,lr.sub s'⟩,h.nw,h.hr,h.nd,h.gens⟩
theorem EXS_loc {l' : Loc} {b : List Stmt} {Q : Fl→Loc→MH→Prop} (s : LSub l' l) (h : EXS W d cs b l' H Q) : EXS W d cs b l H Q :=
  Box.mk fun C news ow sh Qr E hc ho hs hk => h.go C news ow sh Qr E hc ho (hs.loc s) hk
noncomputable abbrev whileQ (I : Nat→Loc→MH→Prop) (n : Nat) (Q : Fl→Loc→MH→Prop) : Fl→Loc→MH→Prop
  | .next,l',H'' => ∃ m l₁,m < n∧LSub l₁ l'∧I m l₁ H''
  | .cont,l',H'' => ∃ m l₁,m < n∧LSub l₁ l'∧I m l₁ H''
  | .brk,l',H'' => Q .next l' H''
  | .ret v,l',H'' => Q (.ret v) l' H''
theorem EX_while' {t : Expr} {b o : List Stmt} {pos : Pos} {Q : Fl→Loc→MH→Prop} (I : Nat→Loc→MH→Prop) (n : Nat) {l₀ : Loc} (s0 : LSub l₀ l) (h0 : I n l₀ H)
    (turn : ∀ n l H,I n l H→ET W d cs t l H fun c H' => if c then EXS W d cs b l H' (whileQ I n Q) else EXS W d cs o l H' Q) : EX W d cs (.While t b o pos) l H Q := by
  refine Box.mk ?_;intro C news ow s Qr E hc ho hs hk;refine wpAny_While (codeAny_whileLoop (fun n s' => ∃ l' H' news' ow',St W C l' H' news' ow' s'∧Le (fzS W news ow) (fzS W news' ow')∧s'.os = s.os∧I n l' H') ?_ n ⟨l₀,H,news,ow,hs.loc s0,Le.refl _,rfl,h0⟩);rintro n s' ⟨l',H',n',o',hs',le',os',hI⟩;refine (turn n l' H' hI).go C n' o' s' _ _ hc ho hs' ?_;intro c H₁ n₁ o₁ s₁ hs₁ le₁ os₁ q
  cases c with
  | true =>
    simp only [if_true] at q ⊢;refine q.go C n₁ o₁ s₁ _ _ hc ho hs₁ ?_;intro f F l₂ H₂ n₂ o₂ s₂ hs₂ le₂ os₂ fr q₂;have le := Le.trans le' (Le.trans le₁ le₂);have os := os₂.trans (os₁.trans os')
    cases f with
    | next => have : F = .next := fr; subst this; obtain ⟨m,l₁,hm,hl,hq⟩ := q₂; exact ⟨m,hm,l₁,H₂,n₂,o₂,hs₂.loc hl,le,os,hq⟩
    | cont => have : F = .cont := fr; subst this; obtain ⟨m,l₁,hm,hl,hq⟩ := q₂; exact ⟨m,hm,l₁,H₂,n₂,o₂,hs₂.loc hl,le,os,hq⟩
    | brk => have : F = .brk := fr; subst this; exact hk .next .next l₂ H₂ n₂ o₂ s₂ hs₂ le os rfl q₂
    | ret v => obtain ⟨U,rfl,vr⟩ := fr; exact hk (.ret v) (.ret U) l₂ H₂ n₂ o₂ s₂ hs₂ le os ⟨U,rfl,vr⟩ q₂
  | false =>
    simp only [Bool.false_eq_true,if_false] at q ⊢;refine q.go C n₁ o₁ s₁ _ _ hc ho hs₁ ?_;intro f F l₂ H₂ n₂ o₂ s₂ hs₂ le₂ os₂ fr q₂;exact hk f F l₂ H₂ n₂ o₂ s₂ hs₂ (Le.trans le' (Le.trans le₁ le₂)) (os₂.trans (os₁.trans os')) fr q₂
end
theorem EX_whileA {t : Expr} {b o : List Stmt} {pos : Pos} {Q : Fl→Loc→MH→Prop} (I₀ : Nat→Loc→MH→Prop) (n : Nat) {l₀ : Loc} (s0 : LSub l₀ l) (h0 : I₀ n l₀ H)
    (turn : ∀ (I : Nat→Loc→MH→Prop),(∀ n l H,I₀ n l H→I n l H)→∀ n l H,I₀ n l H→ET W d cs t l H fun c H' => if c then EXS W d cs b l H' (whileQ I n Q) else EXS W d cs o l H' Q) : EX W d cs (.While t b o pos) l H Q :=
  EX_while' I₀ n s0 h0 (turn I₀ fun _ _ _ h => h)
theorem CL.mono {W : Wd} {d : Dx} {l : Loc} {H : MH} {f : Addr} {vs : List V} {Q Q' : V→MH→Prop} (h : CL W d l H f vs Q) (k : ∀ v H',Q v H'→Q' v H') : CL W d l H f vs Q' :=
  Box.mk fun C news ow s A R Us ho hs vr a b c e hk => h.go C news ow s A R Us ho hs vr a b c e fun v U H' n' o' s' a b c dd q => hk v U H' n' o' s' a b c dd (k v H' q)
section
variable {σ τ α β : Type} {I : σ→MH→Prop} {J : τ→MH→Prop} {A B : List Addr} {X : Nat→MH→Prop} {H₀ H H' : MH}
theorem RQ.call {r : Res (α × σ)} {k : α × σ→Res (β × τ)} {Q : β→τ→MH→Prop} {G : α→σ→MH→Prop} (h : RQ J B X H₀ (r.bind k) Q) (x : Ext B H₀ H) (sub : ∀ a∈A,a∈B)
    (g : ∀ a s H',r = .ok (a,s)→I s H'→Ext B H₀ H'→Ext A H H'→RQ J B X H₀ (k (a,s)) Q→G a s H') : RQ I A X H r G := by
  cases r with
  | ok p => exact fun H' i y => g p.1 p.2 H' rfl i (x.trans (y.sub sub)) y h
  | fail n => exact fun H'' y => h H'' (x.trans (y.sub sub))
  | out => exact h
theorem Ext.callF (x : Ext B H₀ H) (sub : ∀ a∈A,a∈B ∨ H₀ a = none) (y : Ext A H H') : Ext B H₀ H' := fun b o n e => y b o (fun z => by
  rcases sub b z with q | q
  · exact n q
  · rw [q] at e; cases e) (x b o n e)
theorem RQ.callF {r : Res (α × σ)} {k : α × σ→Res (β × τ)} {Q : β→τ→MH→Prop} {G : α→σ→MH→Prop} (h : RQ J B X H₀ (r.bind k) Q) (x : Ext B H₀ H) (sub : ∀ a∈A,a∈B ∨ H₀ a = none)
    (g : ∀ a s H',r = .ok (a,s)→I s H'→Ext B H₀ H'→Ext A H H'→RQ J B X H₀ (k (a,s)) Q→G a s H') : RQ I A X H r G := by
  cases r with
  | ok p => exact fun H' i y => g p.1 p.2 H' rfl i (x.callF sub y) y h
  | fail n => exact fun H'' y => h H'' (x.callF sub y)
  | out => exact h
theorem Ext.noneB (x : Ext A H₀ H) {a : Addr} (h : H a = none) (n : a ∉ A) : H₀ a = none := by
  cases q : H₀ a with
  | none => rfl
  | some o => rw [x a o n q] at h; cases h
theorem RQ.tail {r : Res (α × σ)} {Q : α→σ→MH→Prop} {G : α→σ→MH→Prop} (h : RQ I A X H₀ r Q) (x : Ext A H₀ H) (g : ∀ a s H',I s H'→Ext A H₀ H'→Ext A H H'→Q a s H'→G a s H') : RQ I A X H r G := by
  cases r with
  | ok p => exact fun H' i y => g p.1 p.2 H' i (x.trans y) y (h H' i (x.trans y))
  | fail n => exact fun H'' y => h H'' (x.trans y)
  | out => exact h
theorem RQ.unbind {r : Res (α × σ)} {k : α × σ→Res (β × τ)} {Q : β→τ→MH→Prop} (h : RQ J A X H₀ (r.bind k) Q) : RQ I A X H₀ r fun a s H' => RQ J A X H₀ (k (a,s)) Q := by
  cases r with
  | ok p => exact fun H' i y => h
  | fail n => exact fun H'' y => h H'' y
  | out => exact h
theorem RQ.done {a : α} {s : σ} {Q : α→σ→MH→Prop} (h : RQ I A X H₀ (.ok (a,s)) Q) (i : I s H) (x : Ext A H₀ H) : Q a s H := h H i x
theorem RQ.failed {n : Nat} {Q : α→σ→MH→Prop} (h : RQ I A X H₀ (.fail n) Q) (x : Ext A H₀ H) : X n H := h H x
theorem RQ.pos {c : Prop} [Decidable c] {m k : Res (α × σ)} {Q : α→σ→MH→Prop} (h : RQ I A X H₀ (if c then m else k) Q) (hc : c) : RQ I A X H₀ m Q := by rw [if_pos hc] at h; exact h
theorem RQ.neg {c : Prop} [Decidable c] {m k : Res (α × σ)} {Q : α→σ→MH→Prop} (h : RQ I A X H₀ (if c then m else k) Q) (hc : ¬ c) : RQ I A X H₀ k Q := by rw [if_neg hc] at h; exact h
theorem RQ.posM {c : Prop} [Decidable c] {m k : τ→Res (α × σ)} {s : τ} {Q : α→σ→MH→Prop} (h : RQ I A X H₀ ((if c then m else k) s) Q) (hc : c) : RQ I A X H₀ (m s) Q := by rw [if_pos hc] at h; exact h
theorem RQ.negM {c : Prop} [Decidable c] {m k : τ→Res (α × σ)} {s : τ} {Q : α→σ→MH→Prop} (h : RQ I A X H₀ ((if c then m else k) s) Q) (hc : ¬ c) : RQ I A X H₀ (k s) Q := by rw [if_neg hc] at h; exact h
theorem RQ.posB {γ : Type} {c : Prop} [Decidable c] {m k : Res γ} {K : γ→Res (α × σ)} {Q : α→σ→MH→Prop} (h : RQ I A X H₀ ((if c then m else k).bind K) Q) (hc : c) : RQ I A X H₀ (m.bind K) Q := by rw [if_pos hc] at h; exact h
theorem RQ.negB {γ : Type} {c : Prop} [Decidable c] {m k : Res γ} {K : γ→Res (α × σ)} {Q : α→σ→MH→Prop} (h : RQ I A X H₀ ((if c then m else k).bind K) Q) (hc : ¬ c) : RQ I A X H₀ (k.bind K) Q := by rw [if_neg hc] at h; exact h
theorem nf {b : Bool} (h : b = false) : ¬ (b = true) := by rw [h]; exact Bool.false_ne_true
theorem Ext.loc {o : MO} {a : Addr} (x : Ext A H₀ H) (h : H₀ a = none) : Ext A H₀ (H.put a o) := fun b o' n e => by
  unfold MH.put;rw [if_neg (fun z => by rw [z,h] at e; cases e)]; exact x b o' n e
theorem Ext.own {o : MO} {a : Addr} (x : Ext A H₀ H) (h : a∈A) : Ext A H₀ (H.put a o) := x.put h
end
end Mine
end
section
open PySem PySem.W PySem.Calls PyProof.Rows PySem.Builtin PySem.Builtin.Str
namespace Mine
theorem slice_ss {T : List Nat} {i j : Nat} (hi : i ≤ T.length) : Txt.slice (SS T) (some (i : Int)) (some (j : Int)) = SS ((T.drop i).take (j - i)) := by
  have key : ((strSliceIndices (some (i : Int)) (some (j : Int)) 1 (SS T).length).filterMap ((SS T).cps[·]?)) = (T.drop i).take (j - i) := by
    have hl : (SS T).length = T.length := by show T.toArray.size = _; simp
    unfold strSliceIndices sliceRange;rw [hl];simp only [show (1 : Int) > 0 by decide,if_true,Int.one_mul,Int.ediv_one];have a1 : (max 0 (min (if (i : Int) < 0 then (i : Int) + T.length else i) T.length)) = (i : Int) := by
      rw [if_neg (by omega)]; omega
    have a2 : (max 0 (min (if (j : Int) < 0 then (j : Int) + T.length else j) T.length)) = ((min j T.length : Nat) : Int) := by
      rw [if_neg (by omega)]; omega
    rw [a1,a2];have a3 : (if (i : Int) < ((min j T.length : Nat) : Int) then ((min j T.length : Nat) : Int) - i + 1 - 1 else 0).toNat = min j T.length - i := by
      split <;> omega
    rw [a3,List.filterMap_map]
    apply List.ext_getElem?
    intro k;have : ∀ (m : Nat),i + m ≤ T.length→(List.filterMap ((fun x => (SS T).cps[x]?) ∘ fun (k : Nat) => ((i : Int) + (k : Int)).toNat) (List.range m)) = (T.drop i).take m := by
      intro m
      induction m with
      | zero => intro _; simp
      | succ m ih =>
        intro hm;rw [List.range_succ,List.filterMap_append,ih (by omega)];have e : (SS T).cps[((i : Int) + (m : Int)).toNat]? = some T[i + m] := by
          have : ((i : Int) + (m : Int)).toNat = i + m := by omega
          rw [this];show (T.toArray)[i + m]? = _;rw [List.getElem?_toArray,List.getElem?_eq_getElem (by omega)]
        simp only [List.filterMap_cons,List.filterMap_nil,Function.comp,e];rw [List.take_succ,List.getElem?_drop,List.getElem?_eq_getElem (by omega)];rfl
    rw [this _ (by omega)]
    by_cases hj : j ≤ T.length
    · rw [Nat.min_eq_left hj]
    · rw [Nat.min_eq_right (by omega),List.take_of_length_le (by simp),List.take_of_length_le (by simp; omega)]
  unfold Txt.slice
  split
  · rename_i h;have hl : (SS T).length = T.length := by show T.toArray.size = _; simp
    have h2 : (strSliceIndices (some (i : Int)) (some (j : Int)) 1 (SS T).length).length = (SS T).length := by simpa using h
    have h3 : ((T.drop i).take (j - i)).length = T.length := by
      rw [← key];have : (strSliceIndices (some (i : Int)) (some (j : Int)) 1 (SS T).length).filterMap ((SS T).cps[·]?) = (strSliceIndices (some (i : Int)) (some (j : Int)) 1 (SS T).length).filterMap ((SS T).cps[·]?) := rfl;rw [key];have l1 : (strSliceIndices (some (i : Int)) (some (j : Int)) 1 (SS T).length).length ≤ T.length - i := by
        unfold strSliceIndices sliceRange;rw [hl];simp only [show (1 : Int) > 0 by decide,if_true,List.length_map,List.length_range,Int.ediv_one]
        split <;> omega
      have l2 : (strSliceIndices (some (i : Int)) (some (j : Int)) 1 (SS T).length).length ≤ j - i := by
        unfold strSliceIndices sliceRange;rw [hl];simp only [show (1 : Int) > 0 by decide,if_true,List.length_map,List.length_range,Int.ediv_one]
        split <;> omega
      rw [List.length_take,List.length_drop];omega
    have h4 : (T.drop i).take (j - i) = T := by
      rw [List.length_take,List.length_drop] at h3
      rcases Nat.eq_zero_or_pos T.length with z | z
      · rw [List.length_eq_zero_iff] at z; subst z; simp
      · have : i = 0 := by omega
        subst this;rw [List.drop_zero,List.take_of_length_le (by omega)]
    rw [h4]
  · rw [key]
theorem suf_cut {T r : List Nat} (h : r <:+ T) : T.drop (T.length - r.length) = r := by
  obtain ⟨a,rfl⟩ := h;rw [List.length_append,Nat.add_sub_cancel,List.drop_left]
theorem slice_at {T r : List Nat} {k : Nat} (h : r <:+ T) : Txt.slice (SS T) (some (posOf T r)) (some (posOf T r + (k : Int))) = SS (r.take k) := by
  have := suf_len h;unfold posOf;have e : ((T.length - r.length : Nat) : Int) + (k : Int) = ((T.length - r.length + k : Nat) : Int) := by omega
  rw [e,slice_ss (by omega),suf_cut h]
  congr 3
  omega
theorem slice_to {T r q : List Nat} {a : List Nat} (h : r <:+ T) (e : r = a ++ q) : Txt.slice (SS T) (some (posOf T r)) (some (posOf T q)) = SS a := by
  have l1 := suf_len h;have l2 : r.length = a.length + q.length := by rw [e,List.length_append]
  have e1 : posOf T q = posOf T r + (a.length : Int) := by unfold posOf; omega
  rw [e1,slice_at h,e,List.take_left]
theorem starts_at {T r y : List Nat} (h : r <:+ T) : Txt.startswith3 (SS T) (SS y) (posOf T r) = (r.take y.length == y) := by
  have l1 := suf_len h;have hl : (SS T).length = T.length := by show T.toArray.size = _; simp
  have hy : (SS y).length = y.length := by show y.toArray.size = _; simp
  have e0 : fromIndex (SS T).length (posOf T r) = T.length - r.length := by
    unfold PySem.fromIndex posOf;rw [if_neg (by omega)]; omega
  unfold Txt.startswith3;rw [e0,hl,hy];unfold subAt;rw [hy];have e1 : (SS T).cps.extract (T.length - r.length) (T.length - r.length + y.length) = (r.take y.length).toArray := by
    show (T.toArray).extract _ _ = _;rw [List.extract_toArray,List.extract_eq_take_drop,suf_cut h,Nat.add_sub_cancel_left]
  rw [e1];show (decide (T.length - r.length + y.length ≤ T.length) && ((r.take y.length).toArray == y.toArray)) = _;have e2 : ((r.take y.length).toArray == y.toArray) = (r.take y.length == y) := by
    rw [Bool.eq_iff_iff,beq_iff_eq,beq_iff_eq]
    constructor
    · intro z; simpa using z
    · intro z; rw [z]
  rw [e2]
  by_cases q : T.length - r.length + y.length ≤ T.length
  · rw [decide_eq_true q,Bool.true_and]
  · rw [decide_eq_false q,Bool.false_and]
    symm
    rw [beq_eq_false_iff_ne];intro z;have := congrArg List.length z;rw [List.length_take] at this;omega
theorem join_singles : ∀ l : List Nat,Txt.join (SS []) (l.map fun c => SS [c]) = SS l := by
  intro l;show glued _ _ = _;rw [StrLaws.glued_eq_join]
  induction l with
  | nil => rfl
  | cons c r ih =>
    cases r with
    | nil => rfl
    | cons c' r' =>
      show SS [c] ++ SS [] ++ Str.join (SS []) ((c' :: r').map fun c => SS [c]) = _;rw [ih];show Str.mk (([c].toArray ++ [].toArray) ++ (c' :: r').toArray) = _;simp
end Mine
end
section
open PySem PySem.W PySem.Calls PyProof.Rows Hd
namespace Mine
theorem ite_go {b : Bool} {A B : Prop} (t : b = true→A) (f : b = false→B) : if b = true then A else B := by
  cases b
  · rw [if_neg Bool.false_ne_true]; exact f rfl
  · rw [if_pos rfl]; exact t rfl
theorem ss_inj {a b : List Nat} : (SS a = SS b) ↔ a = b := by
  constructor
  · intro h;have := congrArg (fun s : Str => s.cps.toList) h
    simpa using this
  · rintro rfl; rfl
theorem ss_eq {a b : List Nat} : decide (SS a = SS b) = (a == b) := by
  rw [Bool.eq_iff_iff,decide_eq_true_iff,beq_iff_eq]; exact ss_inj
theorem ss_beq {a b : List Nat} : (SS a == SS b) = (a == b) := by
  rw [Bool.eq_iff_iff,beq_iff_eq,beq_iff_eq]; exact ss_inj
theorem ss_any {x : List Nat} {l : List (List Nat)} : (l.map SS).any (· == SS x) = P.isIn x l := by
  unfold P.isIn;rw [List.any_map]
  congr 1
  funext y
  exact ss_beq
theorem kd_inj : ∀ k k' : KD,(k.str == k'.str) = (k == k') := by
  intro k k'; cases k <;> cases k' <;> decide
section
variable {W : Wd} {d : Dx} {cs : Scope} {l : Loc} {H : MH}
theorem EV_strS {x : Str} {c : List Nat} {k : Nat} {pos : Pos} {Q : V→MH→Prop} (e : x = SS c) (hq : Q (.str (SS c)) H) : EV W d cs (.Constant (.str x) k pos) l H Q := by
  subst e; exact EV_str hq
theorem T2_eq_l {a b : List Nat} {Q : V→MH→Prop} (hq : Q (.bool (a == b)) H) : T2 W d cs l H (.str (SS a)) (.str (SS b)) (compareOp .Eq) Q := T2_eq_str (by rw [ss_eq]; exact hq)
theorem T2_ne_l {a b : List Nat} {Q : V→MH→Prop} (hq : Q (.bool (!(a == b))) H) : T2 W d cs l H (.str (SS a)) (.str (SS b)) (compareOp .NotEq) Q := T2_ne_str (by rw [ss_eq]; exact hq)
theorem T2_eq_k {a b : KD} {Q : V→MH→Prop} (hq : Q (.bool (a == b)) H) : T2 W d cs l H (.str (SS a.str)) (.str (SS b.str)) (compareOp .Eq) Q := T2_eq_l (by rw [kd_inj]; exact hq)
theorem T2_ne_k {a b : KD} {Q : V→MH→Prop} (hq : Q (.bool (!(a == b))) H) : T2 W d cs l H (.str (SS a.str)) (.str (SS b.str)) (compareOp .NotEq) Q := T2_ne_l (by rw [kd_inj]; exact hq)
theorem map_strs {l : List (List Nat)} : l.map (fun x => V.str (SS x)) = (l.map SS).map V.str := by rw [List.map_map]; rfl
theorem T2_in_tl {x : List Nat} {L : List (List Nat)} {Q : V→MH→Prop} (hq : Q (.bool (P.isIn x L)) H) : T2 W d cs l H (.str (SS x)) (.tup (L.map fun x => .str (SS x))) (compareOp .In) Q := by
  rw [map_strs]; exact T2_in_strs_tup (by rw [ss_any]; exact hq)
theorem T2_notin_tl {x : List Nat} {L : List (List Nat)} {Q : V→MH→Prop} (hq : Q (.bool (!P.isIn x L)) H) : T2 W d cs l H (.str (SS x)) (.tup (L.map fun x => .str (SS x))) (compareOp .NotIn) Q := by
  rw [map_strs]; exact T2_notin_strs_tup (by rw [ss_any]; exact hq)
theorem T2_in_ll {x : List Nat} {L : List (List Nat)} {Q : V→MH→Prop} (hq : Q (.bool (P.isIn x L)) H) : T2 W d cs l H (.str (SS x)) (.lst (L.map fun x => .str (SS x))) (compareOp .In) Q := by
  rw [map_strs]; exact T2_in_strs_lst (by rw [ss_any]; exact hq)
theorem T2_in_il {x : Int} {L : List Int} {Q : V→MH→Prop} (hq : Q (.bool (L.any (· == x))) H) : T2 W d cs l H (.int x) (.lst (L.map .int)) (compareOp .In) Q := T2_in_ints_lst hq
theorem T2_is_n {v : V} {b : Bool} {Q : V→MH→Prop} (e : isNoneV v = b) (hq : Q (.bool b) H) : T2 W d cs l H v .none (compareOp .Is) Q := T2_is_none (by rw [e]; exact hq)
theorem T2_isnot_n {v : V} {b : Bool} {Q : V→MH→Prop} (e : isNoneV v = b) (hq : Q (.bool (!b)) H) : T2 W d cs l H v .none (compareOp .IsNot) Q := T2_isnot_none (by rw [e]; exact hq)
theorem ET_andP {e : Expr} {r : List Expr} {pos : Pos} {b1 b2 : Bool} {Q : Bool→MH→Prop} (h1 : ET W d cs e l H fun b H' => b = b1∧H' = H) (h2 : b1 = true→ET W d cs (.BoolOp .And r pos) l H fun b H' => b = b2∧H' = H) (hq : Q (b1 && b2) H) : ET W d cs (.BoolOp .And (e :: r) pos) l H Q := by
  refine ET_and ?_;refine Box.mk ?_;intro C news ow s Qr E hc ho hs hk;refine h1.go C news ow s Qr E hc ho hs fun b H' n' o' s' a le os q => hk b H' n' o' s' a le os ?_;obtain ⟨rfl,rfl⟩ := q
  cases b with
  | false => exact hq
  | true =>
    rw [if_pos rfl];refine Box.mk ?_;intro C news ow s Qr E hc ho hs hk;refine (h2 rfl).go C news ow s Qr E hc ho hs fun b H' n' o' s' a le os q => hk b H' n' o' s' a le os ?_;obtain ⟨rfl,rfl⟩ := q
    simpa using hq
theorem ET_orP {e : Expr} {r : List Expr} {pos : Pos} {b1 b2 : Bool} {Q : Bool→MH→Prop} (h1 : ET W d cs e l H fun b H' => b = b1∧H' = H) (h2 : b1 = false→ET W d cs (.BoolOp .Or r pos) l H fun b H' => b = b2∧H' = H) (hq : Q (b1 || b2) H) : ET W d cs (.BoolOp .Or (e :: r) pos) l H Q := by
  refine ET_or ?_;refine Box.mk ?_;intro C news ow s Qr E hc ho hs hk;refine h1.go C news ow s Qr E hc ho hs fun b H' n' o' s' a le os q => hk b H' n' o' s' a le os ?_;obtain ⟨rfl,rfl⟩ := q
  cases b with
  | true => exact hq
  | false =>
    rw [if_neg Bool.false_ne_true];refine Box.mk ?_;intro C news ow s Qr E hc ho hs hk;refine (h2 rfl).go C news ow s Qr E hc ho hs fun b H' n' o' s' a le os q => hk b H' n' o' s' a le os ?_;obtain ⟨rfl,rfl⟩ := q
    simpa using hq
theorem EV_bandP {e f : Expr} {r : List Expr} {pos : Pos} {b1 b2 : Bool} {Q : V→MH→Prop} (h1 : EV W d cs e l H fun v H' => v = .bool b1∧H' = H) (h2 : b1 = true→EV W d cs (.BoolOp .And (f :: r) pos) l H fun v H' => v = .bool b2∧H' = H) (hq : Q (.bool (b1 && b2)) H) : EV W d cs (.BoolOp .And (e :: f :: r) pos) l H Q := by
  refine EV_band (h1.mono fun v H' z => ⟨b1,z.1,?_⟩);obtain ⟨rfl,rfl⟩ := z
  cases b1 with
  | false => exact hq
  | true =>
    rw [if_pos rfl];refine (h2 rfl).mono fun v H' z => ?_;obtain ⟨rfl,rfl⟩ := z
    simpa using hq
theorem EV_borP {e f : Expr} {r : List Expr} {pos : Pos} {b1 b2 : Bool} {Q : V→MH→Prop} (h1 : EV W d cs e l H fun v H' => v = .bool b1∧H' = H) (h2 : b1 = false→EV W d cs (.BoolOp .Or (f :: r) pos) l H fun v H' => v = .bool b2∧H' = H) (hq : Q (.bool (b1 || b2)) H) : EV W d cs (.BoolOp .Or (e :: f :: r) pos) l H Q := by
  refine EV_bor (h1.mono fun v H' z => ⟨b1,z.1,?_⟩);obtain ⟨rfl,rfl⟩ := z
  cases b1 with
  | true => exact hq
  | false =>
    rw [if_neg Bool.false_ne_true];refine (h2 rfl).mono fun v H' z => ?_;obtain ⟨rfl,rfl⟩ := z
    simpa using hq
theorem ET_and1 {e : Expr} {pos : Pos} {Q : Bool→MH→Prop} (h : ET W d cs e l H Q) : ET W d cs (.BoolOp .And [e] pos) l H Q := by
  refine ET_and ?_;refine Box.mk ?_;intro C news ow s Qr E hc ho hs hk;refine h.go C news ow s Qr E hc ho hs fun b H' n' o' s' a le os q => hk b H' n' o' s' a le os ?_
  cases b with
  | false => exact q
  | true => rw [if_pos rfl]; exact ET_and_nil q
theorem ET_or1 {e : Expr} {pos : Pos} {Q : Bool→MH→Prop} (h : ET W d cs e l H Q) : ET W d cs (.BoolOp .Or [e] pos) l H Q := by
  refine ET_or ?_;refine Box.mk ?_;intro C news ow s Qr E hc ho hs hk;refine h.go C news ow s Qr E hc ho hs fun b H' n' o' s' a le os q => hk b H' n' o' s' a le os ?_
  cases b with
  | true => exact q
  | false => rw [if_neg Bool.false_ne_true]; exact ET_or_nil q
theorem EV_cmp2P {op op' : CmpOp} {e f g : Expr} {pos : Pos} {b1 b2 : Bool} {Q : V→MH→Prop} (hm : lastMarks [op,op'] [f,g] = false)
    (h : EV W d cs e l H fun a H₁ => EV W d cs f l H₁ fun b H₂ => T2 W d cs l H₂ a b (compareOp op) (fun c H₃ => c = .bool b1∧H₃ = H∧EV W d cs g l H (fun b' H₄ => T2 W d cs l H₄ b b' (compareOp op') fun c H' => c = .bool b2∧H' = H)))
    (hq : Q (.bool (b1 && b2)) H) : EV W d cs (.Compare e [op,op'] [f,g] pos) l H Q := by
  refine EV_cmp2 hm (h.mono fun a H₁ z => EV.mono z fun b H₂ z => ?_);refine Box.mk ?_;intro C news ow s Qr E U U' hc ho hs v1 v2 hk;refine z.go C news ow s Qr E U U' hc ho hs v1 v2 fun v U H' n' o' s' a b c dd q => hk v U H' n' o' s' a b c dd ?_;obtain ⟨rfl,rfl,q⟩ := q;refine ⟨_,rfl,?_⟩
  cases b1 with
  | false => exact hq
  | true =>
    rw [if_pos rfl];refine q.mono fun b' H₄ z => ?_;refine Box.mk ?_;intro C news ow s Qr E U U' hc ho hs v1 v2 hk;refine z.go C news ow s Qr E U U' hc ho hs v1 v2 fun v U H' n' o' s' a b c dd q => hk v U H' n' o' s' a b c dd ?_;obtain ⟨rfl,rfl⟩ := q
    simpa using hq
end
noncomputable def strsOk : List (List Nat)→List Value→Bool
  | [],[] => true
  | x :: xs,.str y _ :: ys => (y == SS x) && strsOk xs ys
  | _,_ => false
theorem strsOk_vr {P : Params} {fz : Fz} : ∀ {xs : List (List Nat)} {ys : List Value},strsOk xs ys = true→VRs P fz (xs.map fun x => .str (SS x)) ys
  | [],[],_ => vrs_nil
  | x :: xs,.str y t :: ys,h => by
    obtain ⟨a,b⟩ := Bool.and_eq_true_iff.mp h;rw [beq_iff_eq.mp a];exact vrs_cons vr_str (strsOk_vr b)
  | [],_ :: _,h => by simp [strsOk] at h
  | _ :: _,[],h => by simp [strsOk] at h
  | _ :: _,.none :: _,h => by simp [strsOk] at h
  | _ :: _,.bool _ :: _,h => by simp [strsOk] at h
  | _ :: _,.int _ _ :: _,h => by simp [strsOk] at h
  | _ :: _,.float _ _ :: _,h => by simp [strsOk] at h
  | _ :: _,.bytes _ _ :: _,h => by simp [strsOk] at h
  | _ :: _,.ref _ :: _,h => by simp [strsOk] at h
  | _ :: _,.type _ :: _,h => by simp [strsOk] at h
  | _ :: _,.builtin _ :: _,h => by simp [strsOk] at h
  | _ :: _,.notImplemented :: _,h => by simp [strsOk] at h
  | _ :: _,.ellipsis :: _,h => by simp [strsOk] at h
noncomputable def PE (cs : Scope) (l : Loc) (e : Expr) (v : V) : Prop := Box (∀ (W : Wd) (d : Dx) (H : MH) (Q : V→MH→Prop),Q v H→EV W d cs e l H Q)
noncomputable def PEs (cs : Scope) (l : Loc) (es : List Expr) (vs : List V) : Prop := Box (∀ (W : Wd) (d : Dx) (H : MH) (Q : List V→MH→Prop),Q vs H→EA W d cs es l H Q)
section
variable {W : Wd} {d : Dx} {cs : Scope} {l : Loc} {H : MH}
theorem EV_pe {e : Expr} {v : V} {Q : V→MH→Prop} (h : PE cs l e v) (hq : Q v H) : EV W d cs e l H Q := h.go W d H Q hq
theorem EA_pe {es : List Expr} {vs : List V} {Q : List V→MH→Prop} (h : PEs cs l es vs) (hq : Q vs H) : EA W d cs es l H Q := h.go W d H Q hq
theorem PE_name {x : String} {pos : Pos} {v : V} (hv : lget l x = some v := by rfl) (hl : cs.names.lookup (Str.ofString x) = some .local := by kernel_rfl) (hd : (Str.ofString x == ("__debug__" : Str)) = false := by kernel_rfl) : PE cs l (.Name (Str.ofString x) pos) v := Box.mk fun _ _ _ _ hq => EV_name hv hq hl hd
theorem PE_str {x : Str} {c : List Nat} {k : Nat} {pos : Pos} (e : x = SS c) : PE cs l (.Constant (.str x) k pos) (.str (SS c)) := Box.mk fun _ _ _ _ hq => EV_strS e hq
theorem PE_int {i : Int} {k : Nat} {pos : Pos} : PE cs l (.Constant (.int i) k pos) (.int i) := Box.mk fun _ _ _ _ hq => EV_int hq
theorem PE_none {k : Nat} {pos : Pos} : PE cs l (.Constant .none k pos) .none := Box.mk fun _ _ _ _ hq => EV_none hq
theorem PE_bool {b : Bool} {k : Nat} {pos : Pos} : PE cs l (.Constant (.bool b) k pos) (.bool b) := Box.mk fun _ _ _ _ hq => EV_bool hq
theorem PE_list {es : List Expr} {vs : List V} {pos : Pos} (h : PEs cs l es vs) (hl : Nat.ble (vs.length + 1) 1000000 = true := by kernel_rfl) : PE cs l (.List es pos) (.lst vs) := Box.mk fun _ _ _ _ hq => EV_listF (EA_pe h ⟨Nat.le_of_ble_eq_true hl,hq⟩)
theorem PE_tup {es : List Expr} {vs : List V} {k : Nat} {pos : Pos} (h : PEs cs l es vs) (hl : Nat.ble (vs.length + 1) 1000000 = true := by kernel_rfl) : PE cs l (.Tuple es k pos) (.tup vs) := Box.mk fun _ _ _ _ hq => EV_tuple (EA_pe h ⟨Nat.le_of_ble_eq_true hl,hq⟩)
theorem PEs_nil : PEs cs l [] [] := Box.mk fun _ _ _ _ hq => EA_nil hq
theorem PEs_cons {e : Expr} {r : List Expr} {v : V} {vs : List V} (h : PE cs l e v) (hr : PEs cs l r vs) (hp : plainE e = true := by rfl) : PEs cs l (e :: r) (v :: vs) := Box.mk fun _ _ _ _ hq => EA_cons hp (EV_pe h (EA_pe hr hq))
end
end Mine
end
section
open PySem PySem.W PySem.Calls PyProof.Rows Hd
noncomputable section
namespace Mine
variable {w : World} {mb : Str→Option Value} {xt : Led}
noncomputable def lookL {α : Type} : List (List Nat × α)→List Nat→Option α
  | [],_ => none
  | (k,v) :: r,x => if k == x then some v else lookL r x
theorem getS_codes {x : List Nat} : ∀ {ks : List String} {vs : List V} {tab : List (List Nat × V)},ks.map Str.ofString = tab.map (fun p => SS p.1)→vs = tab.map (·.2)→getS ks vs (SS x) = lookL tab x
  | [],vs,[],_,e => by subst e; rfl
  | [],_,_ :: _,e,_ => by cases e
  | _ :: _,_,[],e,_ => by cases e
  | k :: ks,vs,(c,v) :: r,e,e2 => by
    subst e2;rw [List.map_cons,List.map_cons,List.cons.injEq] at e;show (if Str.ofString k = SS x then some v else getS ks (r.map (·.2)) (SS x)) = if c == x then some v else lookL r x;rw [getS_codes e.2 rfl,e.1]
    by_cases q : c = x
    · rw [if_pos (ss_inj.mpr q),if_pos (by simp [q])]
    · rw [if_neg (fun z => q (ss_inj.mp z)),if_neg (by simpa using q)]
noncomputable abbrev FK (w : World) : Fz := fun a o => (KK w.params).lookup a = some o
theorem V_BLANKS : VR w.params (FK w) (.lst (P.blanks.map .int)) (.ref 190) := by
  unfold VR;exact ⟨190,0,[(Hd.I 9 475),(Hd.I 11 476),(Hd.I 12 477),(Hd.I 32 478),(Hd.I 160 479),(Hd.I 5760 480),(Hd.I 6158 481),(Hd.I 8239 482),(Hd.I 8287 483),(Hd.I 12288 484),(Hd.I 65279 485)],rfl,by kernel_rfl,vrs_cons vr_int (vrs_cons vr_int (vrs_cons vr_int (vrs_cons vr_int (vrs_cons vr_int (vrs_cons vr_int (vrs_cons vr_int (vrs_cons vr_int (vrs_cons vr_int (vrs_cons vr_int (vrs_cons vr_int (vrs_nil)))))))))))⟩
theorem V_LINE_ENDS : VR w.params (FK w) (.lst (P.lineEnds.map .int)) (.ref 191) := by
  unfold VR;exact ⟨191,0,[(Hd.I 10 487),(Hd.I 13 488),(Hd.I 8232 489),(Hd.I 8233 490)],rfl,by kernel_rfl,vrs_cons vr_int (vrs_cons vr_int (vrs_cons vr_int (vrs_cons vr_int (vrs_nil))))⟩
theorem V_KEYWORDS : VR w.params (FK w) (.lst (P.keywords.map fun x => .str (SS x))) (.ref 345) := by
  unfold VR;exact ⟨345,0,[(Hd.T "break" 738),(Hd.T "case" 739),(Hd.T "catch" 740),(Hd.T "continue" 741),(Hd.T "debugger" 742),(Hd.T "default" 743),(Hd.T "delete" 744),(Hd.T "do" 745),(Hd.T "else" 746),(Hd.T "finally" 747),(Hd.T "for" 748),(Hd.T "function" 749),(Hd.T "if" 750),(Hd.T "in" 751),(Hd.T "instanceof" 752),(Hd.T "new" 753),(Hd.T "return" 754),(Hd.T "switch" 755),(Hd.T "this" 756),(Hd.T "throw" 757),(Hd.T "try" 758),(Hd.T "typeof" 759),(Hd.T "var" 760),(Hd.T "void" 761),(Hd.T "while" 762),(Hd.T "with" 763),(Hd.T "class" 764),(Hd.T "const" 765),(Hd.T "enum" 766),(Hd.T "export" 767),(Hd.T "extends" 768),(Hd.T "\x69mport" 769),(Hd.T "super" 770),(Hd.T "null" 771),(Hd.T "true" 772),(Hd.T "false" 773)],rfl,by kernel_rfl,strsOk_vr (by kernel_rfl)⟩
theorem V_STRICT_WORDS : VR w.params (FK w) (.tup (P.strictWords.map fun x => .str (SS x))) (.ref 608) := by
  unfold VR;exact ⟨608,[(Hd.T "implements" 1220),(Hd.T "interface" 1221),(Hd.T "let" 1222),(Hd.T "package" 1223),(Hd.T "private" 1224),(Hd.T "protected" 1225),(Hd.T "public" 1226),(Hd.T "static" 1227),(Hd.T "yield" 1228)],rfl,by kernel_rfl,strsOk_vr (by kernel_rfl)⟩
theorem V_RESTRICTED : VR w.params (FK w) (.tup (P.restricted.map fun x => .str (SS x))) (.ref 609) := by
  unfold VR;exact ⟨609,[(Hd.T "arguments" 1230),(Hd.T "eval" 1231)],rfl,by kernel_rfl,strsOk_vr (by kernel_rfl)⟩
theorem V_TARGETS : VR w.params (FK w) (.tup (P.targets.map fun x => .str (SS x))) (.ref 610) := by
  unfold VR;exact ⟨610,[(Hd.T "Name" 1233),(Hd.T "Member" 1234),(Hd.T "Index" 1235)],rfl,by kernel_rfl,strsOk_vr (by kernel_rfl)⟩
theorem V_ASSIGNING : VR w.params (FK w) (.tup (P.assigning.map fun x => .str (SS x))) (.ref 838) := by
  unfold VR;exact ⟨838,[(Hd.T "=" 1589),(Hd.T "+=" 1590),(Hd.T "-=" 1591),(Hd.T "*=" 1592),(Hd.T "/=" 1593),(Hd.T "%=" 1594),(Hd.T "<<=" 1595),(Hd.T ">>=" 1596),(Hd.T ">>>=" 1597),(Hd.T "&=" 1598),(Hd.T "^=" 1599),(Hd.T "|=" 1600)],rfl,by kernel_rfl,strsOk_vr (by kernel_rfl)⟩
theorem V_UNARY_SIGNS : VR w.params (FK w) (.tup (P.unarySigns.map fun x => .str (SS x))) (.ref 839) := by
  unfold VR;exact ⟨839,[(Hd.T "-" 1602),(Hd.T "+" 1603),(Hd.T "!" 1604),(Hd.T "~" 1605)],rfl,by kernel_rfl,strsOk_vr (by kernel_rfl)⟩
theorem V_UNARY_WORDS : VR w.params (FK w) (.tup (P.unaryWords.map fun x => .str (SS x))) (.ref 840) := by
  unfold VR;exact ⟨840,[(Hd.T "typeof" 1607),(Hd.T "void" 1608),(Hd.T "delete" 1609)],rfl,by kernel_rfl,strsOk_vr (by kernel_rfl)⟩
theorem V_STEPS : VR w.params (FK w) (.tup (P.steps.map fun x => .str (SS x))) (.ref 841) := by
  unfold VR;exact ⟨841,[(Hd.T "++" 1611),(Hd.T "--" 1612)],rfl,by kernel_rfl,strsOk_vr (by kernel_rfl)⟩
theorem V_LOOP_WORDS : VR w.params (FK w) (.tup (P.loopWords.map fun x => .str (SS x))) (.ref 1123) := by
  unfold VR;exact ⟨1123,[(Hd.T "do" 2007),(Hd.T "while" 2008),(Hd.T "for" 2009)],rfl,by kernel_rfl,strsOk_vr (by kernel_rfl)⟩
noncomputable def PUNCT_TABLEK : List String := [">>>=","===","!==",">>>","<<=",">>=","<=",">=","==","!=","++","--","<<",">>","&&","||","+=","-=","*=","%=","&=","|=","^=","/=","{","}","(",")","[","]",".",";",",","<",">","+","-","*","%","&","|","^","!","~","?",":","=","/"]
noncomputable def PUNCT_TABLEV : List V := [.bool true,.bool true,.bool true,.bool true,.bool true,.bool true,.bool true,.bool true,.bool true,.bool true,.bool true,.bool true,.bool true,.bool true,.bool true,.bool true,.bool true,.bool true,.bool true,.bool true,.bool true,.bool true,.bool true,.bool true,.bool true,.bool true,.bool true,.bool true,.bool true,.bool true,.bool true,.bool true,.bool true,.bool true,.bool true,.bool true,.bool true,.bool true,.bool true,.bool true,.bool true,.bool true,.bool true,.bool true,.bool true,.bool true,.bool true,.bool true]
theorem V_PUNCT_TABLE : VR w.params (FK w) (.dct PUNCT_TABLEK PUNCT_TABLEV) (.ref 400) := by
  unfold VR;exact ⟨400,48,[Hd.E w.params ">>>=" 775 (.bool true),Hd.E w.params "===" 776 (.bool true),Hd.E w.params "!==" 777 (.bool true),Hd.E w.params ">>>" 778 (.bool true),Hd.E w.params "<<=" 779 (.bool true),Hd.E w.params ">>=" 780 (.bool true),Hd.E w.params "<=" 781 (.bool true),Hd.E w.params ">=" 782 (.bool true),Hd.E w.params "==" 783 (.bool true),Hd.E w.params "!=" 784 (.bool true),Hd.E w.params "++" 785 (.bool true),Hd.E w.params "--" 786 (.bool true),Hd.E w.params "<<" 787 (.bool true),Hd.E w.params ">>" 788 (.bool true),Hd.E w.params "&&" 789 (.bool true),Hd.E w.params "||" 790 (.bool true),Hd.E w.params "+=" 791 (.bool true),Hd.E w.params "-=" 792 (.bool true),Hd.E w.params "*=" 793 (.bool true),Hd.E w.params "%=" 794 (.bool true),Hd.E w.params "&=" 795 (.bool true),Hd.E w.params "|=" 796 (.bool true),Hd.E w.params "^=" 797 (.bool true),Hd.E w.params "/=" 798 (.bool true),Hd.E w.params "{" 799 (.bool true),Hd.E w.params "}" 800 (.bool true),Hd.E w.params "(" 801 (.bool true),Hd.E w.params ")" 802 (.bool true),Hd.E w.params "[" 803 (.bool true),Hd.E w.params "]" 804 (.bool true),Hd.E w.params "." 805 (.bool true),Hd.E w.params ";" 806 (.bool true),Hd.E w.params "," 807 (.bool true),Hd.E w.params "<" 808 (.bool true),Hd.E w.params ">" 809 (.bool true),Hd.E w.params "+" 810 (.bool true),Hd.E w.params "-" 811 (.bool true),Hd.E w.params "*" 812 (.bool true),Hd.E w.params "%" 813 (.bool true),Hd.E w.params "&" 814 (.bool true),Hd.E w.params "|" 815 (.bool true),Hd.E w.params "^" 816 (.bool true),Hd.E w.params "!" 817 (.bool true),Hd.E w.params "~" 818 (.bool true),Hd.E w.params "?" 819 (.bool true),Hd.E w.params ":" 820 (.bool true),Hd.E w.params "=" 821 (.bool true),Hd.E w.params "/" 822 (.bool true)],rfl,by kernel_rfl,by kernel_rfl,by unfold PUNCT_TABLEK; repeat (first | exact trivial | refine ⟨⟨_,rfl⟩,rfl,?_⟩),vrs_cons vr_bool (vrs_cons vr_bool (vrs_cons vr_bool (vrs_cons vr_bool (vrs_cons vr_bool (vrs_cons vr_bool (vrs_cons vr_bool (vrs_cons vr_bool (vrs_cons vr_bool (vrs_cons vr_bool (vrs_cons vr_bool (vrs_cons vr_bool (vrs_cons vr_bool (vrs_cons vr_bool (vrs_cons vr_bool (vrs_cons vr_bool (vrs_cons vr_bool (vrs_cons vr_bool (vrs_cons vr_bool (vrs_cons vr_bool (vrs_cons vr_bool (vrs_cons vr_bool (vrs_cons vr_bool (vrs_cons vr_bool (vrs_cons vr_bool (vrs_cons vr_bool (vrs_cons vr_bool (vrs_cons vr_bool (vrs_cons vr_bool (vrs_cons vr_bool (vrs_cons vr_bool (vrs_cons vr_bool (vrs_cons vr_bool (vrs_cons vr_bool (vrs_cons vr_bool (vrs_cons vr_bool (vrs_cons vr_bool (vrs_cons vr_bool (vrs_cons vr_bool (vrs_cons vr_bool (vrs_cons vr_bool (vrs_cons vr_bool (vrs_cons vr_bool (vrs_cons vr_bool (vrs_cons vr_bool (vrs_cons vr_bool (vrs_cons vr_bool (vrs_cons vr_bool (vrs_nil))))))))))))))))))))))))))))))))))))))))))))))))⟩
noncomputable def PRIORITYK : List String := ["||","&&","|","^","&","==","!=","===","!==","<",">","<=",">=","instanceof","in","<<",">>",">>>","+","-","*","/","%"]
noncomputable def PRIORITYV : List V := [.int 1,.int 2,.int 3,.int 4,.int 5,.int 6,.int 6,.int 6,.int 6,.int 7,.int 7,.int 7,.int 7,.int 7,.int 7,.int 8,.int 8,.int 8,.int 9,.int 9,.int 10,.int 10,.int 10]
theorem V_PRIORITY : VR w.params (FK w) (.dct PRIORITYK PRIORITYV) (.ref 836) := by
  unfold VR;exact ⟨836,23,[Hd.E w.params "||" 1519 (Hd.I 1 1520),Hd.E w.params "&&" 1522 (Hd.I 2 1523),Hd.E w.params "|" 1525 (Hd.I 3 1526),Hd.E w.params "^" 1528 (Hd.I 4 1529),Hd.E w.params "&" 1531 (Hd.I 5 1532),Hd.E w.params "==" 1534 (Hd.I 6 1535),Hd.E w.params "!=" 1537 (Hd.I 6 1538),Hd.E w.params "===" 1540 (Hd.I 6 1541),Hd.E w.params "!==" 1543 (Hd.I 6 1544),Hd.E w.params "<" 1546 (Hd.I 7 1547),Hd.E w.params ">" 1549 (Hd.I 7 1550),Hd.E w.params "<=" 1552 (Hd.I 7 1553),Hd.E w.params ">=" 1555 (Hd.I 7 1556),Hd.E w.params "instanceof" 1558 (Hd.I 7 1559),Hd.E w.params "in" 1561 (Hd.I 7 1562),Hd.E w.params "<<" 1564 (Hd.I 8 1565),Hd.E w.params ">>" 1567 (Hd.I 8 1568),Hd.E w.params ">>>" 1570 (Hd.I 8 1571),Hd.E w.params "+" 1572 (Hd.I 9 1573),Hd.E w.params "-" 1574 (Hd.I 9 1575),Hd.E w.params "*" 1576 (Hd.I 10 1577),Hd.E w.params "/" 1578 (Hd.I 10 1579),Hd.E w.params "%" 1580 (Hd.I 10 1581)],rfl,by kernel_rfl,by kernel_rfl,by unfold PRIORITYK; repeat (first | exact trivial | refine ⟨⟨_,rfl⟩,rfl,?_⟩),vrs_cons vr_int (vrs_cons vr_int (vrs_cons vr_int (vrs_cons vr_int (vrs_cons vr_int (vrs_cons vr_int (vrs_cons vr_int (vrs_cons vr_int (vrs_cons vr_int (vrs_cons vr_int (vrs_cons vr_int (vrs_cons vr_int (vrs_cons vr_int (vrs_cons vr_int (vrs_cons vr_int (vrs_cons vr_int (vrs_cons vr_int (vrs_cons vr_int (vrs_cons vr_int (vrs_cons vr_int (vrs_cons vr_int (vrs_cons vr_int (vrs_cons vr_int (vrs_nil)))))))))))))))))))))))⟩
theorem punct_look {x : List Nat} : (getS PUNCT_TABLEK PUNCT_TABLEV (SS x)).isSome = P.isIn x P.puncts := by
  rw [getS_codes (tab := P.puncts.map fun c => (c,.bool true)) (by kernel_rfl) (by kernel_rfl)];have : ∀ l : List (List Nat),(lookL (l.map fun c => (c,V.bool true)) x).isSome = P.isIn x l := by
    intro l
    induction l with
    | nil => rfl
    | cons c r ih =>
      show (if c == x then some (V.bool true) else lookL (r.map fun c => (c,V.bool true)) x).isSome = ((c == x) || r.any (· == x))
      cases c == x
      · exact ih
      · rfl
  exact this _
theorem prio_look {x : List Nat} : (getS PRIORITYK PRIORITYV (SS x)).getD (.int 0) = .int (P.prioOf P.prios x) := by
  rw [getS_codes (tab := P.prios.map fun c => (c.1,.int c.2)) (by kernel_rfl) (by kernel_rfl)];have : ∀ l : List (List Nat × Nat),(lookL (l.map fun c => (c.1,V.int c.2)) x).getD (.int 0) = .int (P.prioOf l x) := by
    intro l
    induction l with
    | nil => rfl
    | cons c r ih =>
      show (if c.1 == x then some (V.int c.2) else lookL (r.map fun c => (c.1,V.int c.2)) x).getD (.int 0) = .int ((if c.1 == x then c.2 else P.prioOf r x : Nat) : Int)
      cases c.1 == x
      · exact ih
      · rfl
  exact this _
theorem B_len (hb : ∀ x : Str,x ≠ "__name__"→mb x = bootBuiltins x) {cs : Scope} (k : cs.names.lookup (Str.ofString "len") = some .globalImplicit) : BiName (W0 w mb xt) cs (Str.ofString "len") (.builtin "len") := ⟨k,by kernel_rfl,(hb _ (by decide +kernel)).trans (by kernel_rfl),by kernel_rfl⟩
theorem B_ord (hb : ∀ x : Str,x ≠ "__name__"→mb x = bootBuiltins x) {cs : Scope} (k : cs.names.lookup (Str.ofString "ord") = some .globalImplicit) : BiName (W0 w mb xt) cs (Str.ofString "ord") (.builtin "ord") := ⟨k,by kernel_rfl,(hb _ (by decide +kernel)).trans (by kernel_rfl),by kernel_rfl⟩
theorem B_chr (hb : ∀ x : Str,x ≠ "__name__"→mb x = bootBuiltins x) {cs : Scope} (k : cs.names.lookup (Str.ofString "chr") = some .globalImplicit) : BiName (W0 w mb xt) cs (Str.ofString "chr") (.builtin "chr") := ⟨k,by kernel_rfl,(hb _ (by decide +kernel)).trans (by kernel_rfl),by kernel_rfl⟩
theorem B_isinstance (hb : ∀ x : Str,x ≠ "__name__"→mb x = bootBuiltins x) {cs : Scope} (k : cs.names.lookup (Str.ofString "isinstance") = some .globalImplicit) : BiName (W0 w mb xt) cs (Str.ofString "isinstance") (.builtin "isinstance") := ⟨k,by kernel_rfl,(hb _ (by decide +kernel)).trans (by kernel_rfl),by kernel_rfl⟩
theorem B_list (hb : ∀ x : Str,x ≠ "__name__"→mb x = bootBuiltins x) {cs : Scope} (k : cs.names.lookup (Str.ofString "list") = some .globalImplicit) : BiName (W0 w mb xt) cs (Str.ofString "list") (.type "list") := ⟨k,by kernel_rfl,(hb _ (by decide +kernel)).trans (by kernel_rfl),by kernel_rfl⟩
theorem B_range (hb : ∀ x : Str,x ≠ "__name__"→mb x = bootBuiltins x) {cs : Scope} (k : cs.names.lookup (Str.ofString "range") = some .globalImplicit) : BiName (W0 w mb xt) cs (Str.ofString "range") (.type "range") := ⟨k,by kernel_rfl,(hb _ (by decide +kernel)).trans (by kernel_rfl),by kernel_rfl⟩
theorem B_bool (hb : ∀ x : Str,x ≠ "__name__"→mb x = bootBuiltins x) {cs : Scope} (k : cs.names.lookup (Str.ofString "bool") = some .globalImplicit) : BiName (W0 w mb xt) cs (Str.ofString "bool") (.type "bool") := ⟨k,by kernel_rfl,(hb _ (by decide +kernel)).trans (by kernel_rfl),by kernel_rfl⟩
theorem B_tuple (hb : ∀ x : Str,x ≠ "__name__"→mb x = bootBuiltins x) {cs : Scope} (k : cs.names.lookup (Str.ofString "tuple") = some .globalImplicit) : BiName (W0 w mb xt) cs (Str.ofString "tuple") (.type "tuple") := ⟨k,by kernel_rfl,(hb _ (by decide +kernel)).trans (by kernel_rfl),by kernel_rfl⟩
end Mine
end
end
section
open PySem PySem.W PySem.Calls PyProof.Rows Hd
namespace Mine
section
variable {w : World} {mb : Str→Option Value} {xt : Led} {n : Nat} {X : Nat→MH→Prop} {l : Loc} {H : MH} (hb_ : ∀ x : Str,x ≠ "__name__"→mb x = bootBuiltins x)
include hb_
theorem is_digit_ {c : Int} {Q : V→MH→Prop} (hq : Q (.bool (P.isDigit c)) H) : CL (W0 w mb xt) ⟨n + 1,X⟩ l H f_is_digit [.int c] Q := by
  refine CL_def F_is_digit rfl ?_;refine EXS_cons ?_;refine EX_return ?_
  apply EV_cmp2P rfl
  · refine EV_int ?_;refine EV_name rfl ?_;refine T2_le_int ?_;refine ⟨rfl,rfl,?_⟩;refine EV_int ?_;refine T2_le_int ?_;exact ⟨rfl,rfl⟩
  exact hq
theorem is_line_end_ {c : Int} {Q : V→MH→Prop} (hq : Q (.bool (P.isLineEnd c)) H) : CL (W0 w mb xt) ⟨n + 1,X⟩ l H f_is_line_end [.int c] Q := by
  refine CL_def F_is_line_end rfl ?_;refine EXS_cons ?_;refine EX_return ?_;refine EV_cmp rfl ?_;refine EV_name rfl ?_;refine EV_glob (by kernel_rfl) G_LINE_ENDS (by kernel_rfl) V_LINE_ENDS ?_;refine T2_in_il ?_;exact hq
theorem is_white_ {c : Int} {Q : V→MH→Prop} (hq : Q (.bool (P.isWhite c)) H) : CL (W0 w mb xt) ⟨n + 1,X⟩ l H f_is_white [.int c] Q := by
  refine CL_def F_is_white rfl ?_;refine EXS_cons ?_;refine EX_return ?_
  apply EV_borP
  · refine EV_cmp rfl ?_;refine EV_name rfl ?_;refine EV_glob (by kernel_rfl) G_BLANKS (by kernel_rfl) V_BLANKS ?_;refine T2_in_il ?_;exact ⟨rfl,rfl⟩
  · intro hb;refine EV_bone ?_
    apply EV_cmp2P rfl
    · refine EV_int ?_;refine EV_name rfl ?_;refine T2_le_int ?_;refine ⟨rfl,rfl,?_⟩;refine EV_int ?_;refine T2_le_int ?_;exact ⟨rfl,rfl⟩
    exact ⟨rfl,rfl⟩
  exact hq
theorem is_id_start_ {c : Int} (hc : c < 128) {Q : V→MH→Prop} (hq : Q (.bool (P.isIdStart c)) H) : CL (W0 w mb xt) ⟨n + 1,X⟩ l H f_is_id_start [.int c] Q := by
  refine CL_def F_is_id_start rfl ?_;refine EXS_cons ?_;refine EX_if ?_;refine ET_cmp rfl ?_;refine EV_name rfl ?_;refine EV_int ?_;refine T2_lt_int ?_;refine ⟨_,rfl,?_⟩;refine ite_go (fun hb => ?_) (fun hb => ?_)
  · refine EXS_cons ?_;refine EX_return ?_
    apply EV_borP
    · apply EV_cmp2P rfl
      · refine EV_int ?_;refine EV_name rfl ?_;refine T2_le_int ?_;refine ⟨rfl,rfl,?_⟩;refine EV_int ?_;refine T2_le_int ?_;exact ⟨rfl,rfl⟩
      exact ⟨rfl,rfl⟩
    · intro hb
      apply EV_borP
      · apply EV_cmp2P rfl
        · refine EV_int ?_;refine EV_name rfl ?_;refine T2_le_int ?_;refine ⟨rfl,rfl,?_⟩;refine EV_int ?_;refine T2_le_int ?_;exact ⟨rfl,rfl⟩
        exact ⟨rfl,rfl⟩
      · intro hb
        apply EV_borP
        · refine EV_cmp rfl ?_;refine EV_name rfl ?_;refine EV_int ?_;refine T2_eq_int ?_;exact ⟨rfl,rfl⟩
        · intro hb;refine EV_bone ?_;refine EV_cmp rfl ?_;refine EV_name rfl ?_;refine EV_int ?_;refine T2_eq_int ?_;exact ⟨rfl,rfl⟩
        exact ⟨rfl,rfl⟩
      exact ⟨rfl,rfl⟩
    exact hq
  · exact absurd hc (by simpa using hb)
theorem is_id_part_ {c : Int} (hc : c < 128) {Q : V→MH→Prop} (hq : Q (.bool (P.isIdPart c)) H) : CL (W0 w mb xt) ⟨n + 2,X⟩ l H f_is_id_part [.int c] Q := by
  refine CL_def F_is_id_part rfl ?_;refine EXS_cons ?_;refine EX_return ?_
  apply EV_borP
  · skip
    refine EV_callg (by kernel_rfl) G_is_id_start (by kernel_rfl) Gk_is_id_start rfl ?_;refine EA_pe (PEs_cons PE_name PEs_nil) ?_;refine CV_of_CL ?_;refine is_id_start_ hb_ hc ?_;exact ⟨rfl,rfl⟩
  · intro hb
    apply EV_borP
    · refine EV_callg (by kernel_rfl) G_is_digit (by kernel_rfl) Gk_is_digit rfl ?_;refine EA_pe (PEs_cons PE_name PEs_nil) ?_;refine CV_of_CL ?_;refine is_digit_ hb_ ?_;exact ⟨rfl,rfl⟩
    · intro hb2;refine EV_bone ?_
      apply EV_bandP (b2 := false)
      · refine EV_cmp rfl ?_;refine EV_name rfl ?_;refine EV_int ?_;refine T2_gt_int ?_;exact ⟨rfl,rfl⟩
      · intro hb3;have : 127 < c := by simpa using hb3
        exact absurd hc (by omega)
      · exact ⟨rfl,rfl⟩
    · exact ⟨rfl,rfl⟩
  · have e : (P.isIdStart c || (P.isDigit c || (decide (127 < c) && false))) = P.isIdPart c := by simp [P.isIdPart]
    rw [e]; exact hq
theorem code_at_ {T r : List Nat} (hT : TxtOk T) (hr : r <:+ T) (k : Nat) {Q : V→MH→Prop} (hq : Q (.int (P.code (r.drop k))) H) : CL (W0 w mb xt) ⟨n + 1,X⟩ l H f_code_at [.str (SS T),.int (posOf T r + (k : Int))] Q := by
  have hl : (SS T).length = T.length := by show T.toArray.size = _; simp
  have l1 := suf_len hr;have l2 := hT.len;refine CL_def F_code_at rfl ?_;refine EXS_cons ?_;refine EX_return ?_;refine EV_if ?_;have hsz : (SS T).length < 2 ^ 60 := by rw [hl]; omega
  refine ET_cmp rfl ?_;refine EV_name rfl ?_;refine EV_callb (B_len hb_ (by kernel_rfl)) rfl ?_;refine EA_pe (PEs_cons PE_name PEs_nil) ?_;refine CV_len_str hsz ?_;refine T2_lt_int ?_;refine ⟨_,rfl,?_⟩;refine ite_go (fun hb => ?_) (fun hb => ?_)
  · have hk : k < r.length := by
      rw [hl] at hb;have hb : posOf T r + (k : Int) < (T.length : Int) := of_decide_eq_true hb;unfold posOf at hb;omega
    refine EV_callb (B_ord hb_ (by kernel_rfl)) rfl ?_;refine EA_cons rfl ?_;refine EV_sub ?_;refine EV_name rfl ?_;refine EV_name rfl ?_;have e := code_get hr k;refine T2_item_str (c := r[k]) rfl (by unfold posOf; omega) (by unfold posOf; omega) ?_ ?_
    · have : (posOf T r + (k : Int)).toNat = T.length - r.length + k := by unfold posOf; omega
      rw [this,e,List.getElem?_eq_getElem hk]
    · refine EA_nil ?_;refine CV_ord ?_;have : r.drop k = r[k] :: r.drop (k + 1) := List.drop_eq_getElem_cons hk;rw [this] at hq;exact hq
  · have hk : r.drop k = [] := by
      rw [hl] at hb;have hb : ¬ posOf T r + (k : Int) < (T.length : Int) := of_decide_eq_false hb;unfold posOf at hb;exact List.drop_of_length_le (by omega)
    rw [hk] at hq;refine EV_neg ?_;exact hq
theorem code_at0 {T r : List Nat} (hT : TxtOk T) (hr : r <:+ T) {Q : V→MH→Prop} (hq : Q (.int (P.code r)) H) : CL (W0 w mb xt) ⟨n + 1,X⟩ l H f_code_at [.str (SS T),.int (posOf T r)] Q := by
  have h := code_at_ (w := w) (mb := mb) (xt := xt) (n := n) (X := X) (l := l) hb_ hT hr 0 (Q := Q) (H := H) hq;rw [show posOf T r + ((0 : Nat) : Int) = posOf T r by omega] at h;exact h
theorem line_end_size_ {T r : List Nat} (hT : TxtOk T) (hr : r <:+ T) {Q : V→MH→Prop} (hq : Q (.int (P.lineEndSize r)) H) : CL (W0 w mb xt) ⟨n + 2,X⟩ l H f_line_end_size [.str (SS T),.int (posOf T r)] Q := by
  refine CL_def F_line_end_size rfl ?_;refine EXS_cons ?_;refine EX_return ?_;refine EV_if ?_
  apply ET_andP
  · skip
    refine ET_cmp rfl ?_;refine EV_callg (by kernel_rfl) G_code_at (by kernel_rfl) Gk_code_at rfl ?_;refine EA_pe (PEs_cons PE_name (PEs_cons PE_name PEs_nil)) ?_;refine CV_of_CL ?_;refine code_at0 hb_ hT hr ?_;refine EV_int ?_;refine T2_eq_int ?_;refine ⟨_,rfl,?_⟩;exact ⟨rfl,rfl⟩
  · intro hb;refine ET_and1 ?_;refine ET_cmp rfl ?_;refine EV_callg (by kernel_rfl) G_code_at (by kernel_rfl) Gk_code_at rfl ?_;refine EA_cons rfl ?_;refine EV_name rfl ?_;refine EA_cons rfl ?_;refine EV_bin ?_;refine EV_name rfl ?_;refine EV_int ?_;refine T2_add_int ?_;refine EA_nil ?_;refine CV_of_CL ?_;refine code_at_ hb_ hT hr 1 ?_;refine EV_int ?_;refine T2_eq_int ?_;refine ⟨_,rfl,?_⟩;exact ⟨rfl,rfl⟩
  · refine ite_go (fun hb => ?_) (fun hb => ?_)
    · refine EV_int ?_;have e : P.lineEndSize r = 2 := by unfold P.lineEndSize; rw [if_pos hb]
      rw [e] at hq; exact hq
    · refine EV_int ?_;have e : P.lineEndSize r = 1 := by unfold P.lineEndSize; rw [if_neg (by rw [hb]; exact Bool.false_ne_true)]
      rw [e] at hq; exact hq
theorem is_keyword_ {x : List Nat} {Q : V→MH→Prop} (hq : Q (.bool (P.isIn x P.keywords)) H) : CL (W0 w mb xt) ⟨n + 1,X⟩ l H f_is_keyword [.str (SS x)] Q := by
  refine CL_def F_is_keyword rfl ?_;refine EXS_cons ?_;refine EX_return ?_;refine EV_cmp rfl ?_;refine EV_name rfl ?_;refine EV_glob (by kernel_rfl) G_KEYWORDS (by kernel_rfl) V_KEYWORDS ?_;refine T2_in_ll ?_;exact hq
noncomputable def optV : Option (List Nat)→V
  | none => .none
  | some p => .str (SS p)
theorem punct_at_ {T r : List Nat} (hT : TxtOk T) (hr : r <:+ T) {Q : V→MH→Prop} (hq : Q (optV (P.punctAt r)) H) : CL (W0 w mb xt) ⟨n + 1,X⟩ l H f_punct_at [.str (SS T),.int (posOf T r)] Q := by
  have l2 := hT.len;have hsz : (SS T).length ≤ sizeLine := by rw [sizeLine_eq]; show T.toArray.size ≤ _; simp; omega
  refine CL_def F_punct_at rfl ?_;refine EXS_cons ?_;refine EX_for (fun i l H' => H' = H∧lget l "text" = some (.str (SS T))∧lget l "at" = some (.int (posOf T r))∧P.punctFind ([4,3,2,1].drop i) r = P.punctAt r) (fun _ _ => rfl) (by kernel_rfl) ?_;refine EV_pe (PE_tup (PEs_cons PE_int (PEs_cons PE_int (PEs_cons PE_int (PEs_cons PE_int PEs_nil))))) ?_;refine ⟨_,.inr rfl,⟨rfl,rfl,rfl,rfl⟩,?_,?_⟩
  · rintro i u l H₁ it o hu ⟨rfl,h1,h2,h3⟩ hn;obtain ⟨k,rfl,hk⟩ : ∃ k : Nat,u = .int (k : Int)∧([4,3,2,1].drop i) = k :: [4,3,2,1].drop (i + 1) := by
      match i,hu with
      | 0,e => exact ⟨4,by cases e; rfl,rfl⟩
      | 1,e => exact ⟨3,by cases e; rfl,rfl⟩
      | 2,e => exact ⟨2,by cases e; rfl,rfl⟩
      | 3,e => exact ⟨1,by cases e; rfl,rfl⟩
      | i + 4,e => cases e
    have g1 : lget (lset l "size" (.int (k : Int))) "text" = some (.str (SS T)) := (lget_lset _ _ _ _).trans h1;have g2 : lget (lset l "size" (.int (k : Int))) "at" = some (.int (posOf T r)) := (lget_lset _ _ _ _).trans h2;have g3 : lget (lset l "size" (.int (k : Int))) "size" = some (.int (k : Int)) := lget_lset _ _ _ _;rw [hk] at h3;refine EXS_cons ?_;refine EXa ?_;refine EV_slice_ss ?_;refine EV_name g1 ?_ (by kernel_rfl) (by kernel_rfl);refine EV_name g2 ?_ (by kernel_rfl) (by kernel_rfl);refine EV_bin ?_;refine EV_name g2 ?_ (by kernel_rfl) (by kernel_rfl);refine EV_name g3 ?_ (by kernel_rfl) (by kernel_rfl);refine T2_add_int ?_;refine ⟨_,_,_,rfl,rfl,rfl,hsz,?_⟩;rw [slice_at hr];have g4 : lget (lset (lset l "size" (.int (k : Int))) "piece" (.str (SS (r.take k)))) "piece" = some (.str (SS (r.take k))) := lget_lset _ _ _ _;refine EXS_cons ?_;refine EX_if ?_;refine ET_cmp rfl ?_;refine EV_name g4 ?_ (by kernel_rfl) (by kernel_rfl);refine EV_glob (by kernel_rfl) G_PUNCT_TABLE (by kernel_rfl) V_PUNCT_TABLE ?_;refine T2_in_dct ?_;refine ⟨_,rfl,?_⟩;rw [punct_look];refine ite_go (fun hb => ?_) (fun hb => ?_)
    · refine EXS_cons ?_;refine EX_return ?_;refine EV_name g4 ?_ (by kernel_rfl) (by kernel_rfl);refine ⟨put_self,?_⟩;rw [put_drop hn];have : P.punctAt r = some (r.take k) := by rw [← h3,P.punctFind,if_pos hb]
      rw [this] at hq;exact hq
    · refine EXS_nil ?_;refine EXS_nil ?_;refine ⟨put_self,?_⟩;rw [put_drop hn];refine ⟨rfl,?_,?_,?_⟩
      · exact (lget_lset _ _ _ _).trans g1
      · exact (lget_lset _ _ _ _).trans g2
      · rw [← h3,P.punctFind,if_neg (by rw [hb]; exact Bool.false_ne_true)]
  · rintro l H₁ ⟨rfl,h1,h2,h3⟩;refine EXS_cons ?_;refine EX_return ?_;refine EV_none ?_;have : P.punctAt r = none := h3.symm;rw [this] at hq;exact hq
end
end Mine
end
section
open PySem PySem.W PySem.Calls PyProof.Rows Hd
namespace Mine
theorem CL_fail {W : Wd} {n k : Nat} {X : Nat→MH→Prop} {l : Loc} {H : MH} {f : Addr} {vs : List V} {Q : V→MH→Prop} (hx : X k H) : CL W ⟨n,X⟩ l H f vs Q :=
  Box.mk fun C _ _ _ _ _ _ ho _ _ _ _ _ _ _ => (ho.noX _ _ hx).elim
theorem interactive_fn {env : Env} (h : env.scope.kind = .function) : interactive env = false := by unfold interactive; rw [h]; rfl
theorem LInv.set_at {T : List Nat} {lx : Addr} {s : Lx} {H : MH} {p : Int} {r : List Nat} (hp : p = posOf T r) (hr : r <:+ T) :
    LInv T lx ⟨r,s.line⟩ (H.put lx (.inst 603 (setF ["text","at","line"] [.str (SS T),.int (posOf T s.rest),.int s.line] "at" (.int p)).1 (setF ["text","at","line"] [.str (SS T),.int (posOf T s.rest),.int s.line] "at" (.int p)).2)) := by
  subst hp;exact ⟨put_self,hr⟩
theorem LInv.set_line {T : List Nat} {lx : Addr} {s : Lx} {H : MH} {p : Int} {k : Nat} (hp : p = k) (hr : s.rest <:+ T) :
    LInv T lx ⟨s.rest,k⟩ (H.put lx (.inst 603 (setF ["text","at","line"] [.str (SS T),.int (posOf T s.rest),.int s.line] "line" (.int p)).1 (setF ["text","at","line"] [.str (SS T),.int (posOf T s.rest),.int s.line] "line" (.int p)).2)) := by
  subst hp;exact ⟨put_self,hr⟩
theorem LInv.put {T : List Nat} {lx a : Addr} {s : Lx} {H : MH} {o : MO} (h : LInv T lx s H) (n : a ≠ lx) : LInv T lx s (H.put a o) := ⟨(put_ne n.symm).trans h.at',h.suf⟩
theorem code_lt {T r : List Nat} (hT : TxtOk T) (hr : r <:+ T) : P.code r < 128 := by
  cases r with
  | nil => decide
  | cons c r =>
    have := hT.asc c (hr.subset (.head _));show (c : Int) < 128;omega
theorem les_le {r : List Nat} (h : P.isLineEnd (P.code r) = true) : P.lineEndSize r ≤ r.length∧1 ≤ P.lineEndSize r := by
  unfold P.lineEndSize
  cases r with
  | nil => exact absurd h (by decide)
  | cons c r =>
    split
    · rename_i q
      cases r with
      | nil => simp [P.code] at q
      | cons d r => simp
    · simp
theorem LInv.atx {T : List Nat} {lx : Addr} {s : Lx} {H H₀ : MH} {A : List Addr} {p : Int} {r : List Nat} (hp : p = posOf T r) (hr : r <:+ T) (hx : Ext A H₀ H) (hm : lx∈A) :
    LInv T lx ⟨r,s.line⟩ (H.put lx (.inst 603 (setF ["text","at","line"] [.str (SS T),.int (posOf T s.rest),.int s.line] "at" (.int p)).1 (setF ["text","at","line"] [.str (SS T),.int (posOf T s.rest),.int s.line] "at" (.int p)).2)) ∧
    Ext A H₀ (H.put lx (.inst 603 (setF ["text","at","line"] [.str (SS T),.int (posOf T s.rest),.int s.line] "at" (.int p)).1 (setF ["text","at","line"] [.str (SS T),.int (posOf T s.rest),.int s.line] "at" (.int p)).2)) ∧
    (∀ b,b ≠ lx→(H.put lx (.inst 603 (setF ["text","at","line"] [.str (SS T),.int (posOf T s.rest),.int s.line] "at" (.int p)).1 (setF ["text","at","line"] [.str (SS T),.int (posOf T s.rest),.int s.line] "at" (.int p)).2)) b = H b) := ⟨LInv.set_at hp hr,hx.own hm,fun b n => put_ne n⟩
theorem code_ge {r : List Nat} (h : P.code r ≠ -1) : 1 ≤ r.length := by
  cases r with
  | nil => exact absurd rfl h
  | cons c r => simp
theorem white_ge {r : List Nat} (h : P.isWhite (P.code r) = true) : 1 ≤ r.length := code_ge fun z => by rw [z] at h; exact absurd h (by decide)
section
variable {w : World} {mb : Str→Option Value} {xt : Led} {n : Nat} {X : Nat→MH→Prop} {l : Loc} {H H₀ : MH} (hb_ : ∀ x : Str,x ≠ "__name__"→mb x = bootBuiltins x) {T : List Nat} (hT : TxtOk T) {lx tk : Addr}
include hb_ hT
theorem end_line_ {s : Lx} (hI : LInv T lx s H) (he : P.isLineEnd (P.code s.rest) = true) {Q : V→MH→Prop} (hq : ∀ H',LInv T lx (P.endLine s) H'→Ext [lx] H H'→Q .none H') : CL (W0 w mb xt) ⟨n + 3,X⟩ l H f_Lexer_end_line [.ref lx] Q := by
  refine CL_def F_Lexer_end_line rfl ?_;obtain ⟨h1,h2⟩ := les_le he;refine EXS_cons ?_;refine EX_augattr ?_;refine EV_name rfl ?_;refine ⟨_,rfl,?_⟩;refine T1_attr hI.at' rfl rfl A_Lexer_at ?_;refine EV_callg (by kernel_rfl) G_line_end_size (by kernel_rfl) Gk_line_end_size rfl ?_;refine EA_cons rfl ?_;refine EV_attr (fun _ => rfl) ?_;refine EV_name rfl ?_;refine T1_attr hI.at' rfl rfl A_Lexer_text ?_;refine EA_cons rfl ?_;refine EV_attr (fun _ => rfl) ?_;refine EV_name rfl ?_;refine T1_attr hI.at' rfl rfl A_Lexer_at ?_;refine EA_nil ?_;refine CV_of_CL ?_;refine line_end_size_ hb_ hT hI.suf ?_;refine T2_iadd_int ?_;refine ⟨_,_,_,hI.at',S_Lexer_at,by decide,?_⟩;have hI2 := LInv.set_at (H := H) (lx := lx) (s := s) (T := T) (posOf_drop hI.suf h1).symm (suf_drop (P.lineEndSize s.rest) hI.suf);have hx2 := Ext.own (o := (.inst 603 (setF ["text","at","line"] [.str (SS T),.int (posOf T s.rest),.int s.line] "at" (.int (posOf T s.rest + P.lineEndSize s.rest))).1 (setF ["text","at","line"] [.str (SS T),.int (posOf T s.rest),.int s.line] "at" (.int (posOf T s.rest + P.lineEndSize s.rest))).2)) (Ext.refl (A := [lx]) (H := H)) (.head _)
  generalize H.put lx _ = H2 at hI2 hx2 ⊢
  refine EXS_cons ?_;refine EX_augattr ?_;refine EV_name rfl ?_;refine ⟨_,rfl,?_⟩;refine T1_attr hI2.at' rfl rfl A_Lexer_line ?_;refine EV_int ?_;refine T2_iadd_int ?_;refine ⟨_,_,_,hI2.at',S_Lexer_line,by decide,?_⟩;refine EXS_nil ?_;refine hq _ (LInv.set_line (k := s.line + 1) (by show (s.line : Int) + 1 = _; omega) hI2.suf) (hx2.own (.head _))
theorem skip_blanks_ {s₀ : Lx} (hI : LInv T lx s₀ H) {Q : V→Lx→MH→Prop} (h : RQ (LInv T lx) [lx] X H (P.skip s₀) fun b s H' => Q (.bool b) s H') {Q' : V→MH→Prop} (hq : ∀ v s H',Q v s H'→Q' v H') : CL (W0 w mb xt) ⟨n + 4,X⟩ l H f_Lexer_skip_blanks [.ref lx] Q' := by
  have hl : (SS T).length = T.length := by show T.toArray.size = _; simp
  have l2 := hT.len;have hsz : (SS T).length < 2 ^ 60 := by rw [hl]; omega
  refine CL_def F_Lexer_skip_blanks rfl ?_;refine EXS_cons ?_;refine EXa ?_;refine EV_attr (fun _ => rfl) ?_;refine EV_name rfl ?_;refine T1_attr hI.at' rfl rfl A_Lexer_line ?_;refine EXS_cons ?_;refine EX_whileA (fun k l H' => ∃ s,l = [("self",.ref lx),("line",.int s₀.line)]∧LInv T lx s H'∧Ext [lx] H H'∧RQ (LInv T lx) [lx] X H ((P.skipB k s).bind fun s => .ok (decide (s₀.line < s.line),s)) fun b s H' => Q (.bool b) s H')
    (s₀.rest.length + 1) LSub.refl ⟨s₀,rfl,hI,Ext.refl,h⟩ ?_
  rintro Iv up k l H₁ ⟨s,rfl,hI,hx,h⟩
  cases k with
  | zero => exact h.elim
  | succ k =>
  refine ET_val (fun _ _ => rfl) ?_;refine EV_bool ?_;refine ⟨_,rfl,?_⟩;refine ite_go (fun _ => ?_) (fun z => nomatch z);refine EXS_cons ?_;refine EXa ?_;refine EV_callg (by kernel_rfl) G_code_at (by kernel_rfl) Gk_code_at rfl ?_;refine EA_cons rfl ?_;refine EV_attr (fun _ => rfl) ?_;refine EV_name rfl ?_;refine T1_attr hI.at' rfl rfl A_Lexer_text ?_;refine EA_cons rfl ?_;refine EV_attr (fun _ => rfl) ?_;refine EV_name rfl ?_;refine T1_attr hI.at' rfl rfl A_Lexer_at ?_;refine EA_nil ?_;refine CV_of_CL ?_;refine code_at0 hb_ hT hI.suf ?_;refine EXS_cons ?_;refine EX_if ?_;refine ET_val (fun _ _ => rfl) ?_;refine EV_callg (by kernel_rfl) G_is_line_end (by kernel_rfl) Gk_is_line_end rfl ?_;refine EA_pe (PEs_cons PE_name PEs_nil) ?_;refine CV_of_CL ?_;refine is_line_end_ hb_ ?_;refine ⟨_,rfl,?_⟩;refine ite_go (fun hb => ?_) (fun hb => ?_)
  · have h := RQ.posB h hb;refine EXS_cons ?_;refine EXx ?_;refine EV_meth _ (fun _ => rfl) ?_;refine EV_name rfl ?_;refine MC_inst hI.at' rfl M_Lexer_end_line rfl ?_;refine EA_nil ?_;refine CV_of_CL ?_;refine end_line_ hb_ hT hI hb (fun H₂ hI hx2 => ?_);refine EXS_nil ?_;refine EXS_nil ?_;exact ⟨k,_,Nat.lt_succ_self _,LSub_cons rfl (LSub_cons rfl LSub_nil),up _ _ _ ⟨_,rfl,hI,hx.trans hx2,h⟩⟩
  have h := RQ.negB h (nf hb);refine EXS_cons ?_;refine EX_if ?_;refine ET_val (fun _ _ => rfl) ?_;refine EV_callg (by kernel_rfl) G_is_white (by kernel_rfl) Gk_is_white rfl ?_;refine EA_pe (PEs_cons PE_name PEs_nil) ?_;refine CV_of_CL ?_;refine is_white_ hb_ ?_;refine ⟨_,rfl,?_⟩;refine ite_go (fun hb2 => ?_) (fun hb2 => ?_)
  · have h := RQ.posB h hb2;refine EXS_cons ?_;refine EX_augattr ?_;refine EV_name rfl ?_;refine ⟨_,rfl,?_⟩;refine T1_attr hI.at' rfl rfl A_Lexer_at ?_;refine EV_int ?_;refine T2_iadd_int ?_;refine ⟨_,_,_,hI.at',S_Lexer_at,by decide,?_⟩;obtain ⟨hI,hx,hk⟩ := LInv.atx (s := s) (posOf_drop hI.suf (white_ge hb2)).symm (suf_drop 1 hI.suf) hx (.head _)
    generalize H₁.put lx _ = H₂ at hI hx hk ⊢
    refine EXS_nil ?_;refine EXS_nil ?_;refine EXS_nil ?_;exact ⟨k,_,Nat.lt_succ_self _,LSub_cons rfl (LSub_cons rfl LSub_nil),up _ _ _ ⟨_,rfl,hI,hx,h⟩⟩
  have h := RQ.negB h (nf hb2);refine EXS_cons ?_;refine EX_if ?_;refine ET_val (fun _ _ => rfl) ?_;refine EV_meth _ (fun _ => rfl) ?_;refine EV_attr (fun _ => rfl) ?_;refine EV_name rfl ?_;refine T1_attr hI.at' rfl rfl A_Lexer_text ?_;refine MC_startswith rfl rfl ?_;refine EV_strS (c := [47,47]) (by kernel_rfl) ?_;refine EV_attr (fun _ => rfl) ?_;refine EV_name rfl ?_;refine T1_attr hI.at' rfl rfl A_Lexer_at ?_;refine ⟨_,_,rfl,rfl,?_⟩;refine ⟨_,rfl,?_⟩;rw [starts_at hI.suf];refine ite_go (fun hb3 => ?_) (fun hb3 => ?_)
  · have h := RQ.posB h hb3;refine EXS_cons ?_;refine EX_whileA (fun k l H' => ∃ r,k = r.length∧l = [("self",.ref lx),("line",.int s₀.line)]∧LInv T lx ⟨r,s.line⟩ H'∧Ext [lx] H H'∧P.toLineEnd r = P.toLineEnd s.rest)
      s.rest.length (LSub_cons rfl (LSub_cons rfl LSub_nil)) ⟨s.rest,rfl,rfl,hI,hx,rfl⟩ ?_
    rintro Iv2 up2 k' l H₂ ⟨r,rfl,rfl,hI,hx,he⟩
    apply ET_andP
    · skip
      refine ET_cmp rfl ?_;refine EV_attr (fun _ => rfl) ?_;refine EV_name rfl ?_;refine T1_attr hI.at' rfl rfl A_Lexer_at ?_;refine EV_callb (B_len hb_ (by kernel_rfl)) rfl ?_;refine EA_cons rfl ?_;refine EV_attr (fun _ => rfl) ?_;refine EV_name rfl ?_;refine T1_attr hI.at' rfl rfl A_Lexer_text ?_;refine EA_nil ?_;refine CV_len_str hsz ?_;refine T2_lt_int ?_;refine ⟨_,rfl,?_⟩;exact ⟨rfl,rfl⟩
    · intro hb4;refine ET_and1 ?_;refine ET_not ?_;refine ET_val (fun _ _ => rfl) ?_;refine EV_callg (by kernel_rfl) G_is_line_end (by kernel_rfl) Gk_is_line_end rfl ?_;refine EA_cons rfl ?_;refine EV_callg (by kernel_rfl) G_code_at (by kernel_rfl) Gk_code_at rfl ?_;refine EA_cons rfl ?_;refine EV_attr (fun _ => rfl) ?_;refine EV_name rfl ?_;refine T1_attr hI.at' rfl rfl A_Lexer_text ?_;refine EA_cons rfl ?_;refine EV_attr (fun _ => rfl) ?_;refine EV_name rfl ?_;refine T1_attr hI.at' rfl rfl A_Lexer_at ?_;refine EA_nil ?_;refine CV_of_CL ?_;refine code_at0 hb_ hT hI.suf ?_;refine EA_nil ?_;refine CV_of_CL ?_;refine is_line_end_ hb_ ?_;refine ⟨_,rfl,?_⟩;exact ⟨rfl,rfl⟩
    · refine ite_go (fun hb5 => ?_) (fun hb5 => ?_)
      · obtain ⟨b1,b2⟩ := Bool.and_eq_true_iff.mp hb5;have b2 : P.isLineEnd (P.code r) = false := by simpa using b2
        rw [hl] at b1;have b1 : posOf T r < (T.length : Int) := of_decide_eq_true b1
        cases r with
        | nil => exact absurd b1 (by unfold posOf; simp)
        | cons c r =>
        refine EXS_cons ?_;refine EX_augattr ?_;refine EV_name rfl ?_;refine ⟨_,rfl,?_⟩;refine T1_attr hI.at' rfl rfl A_Lexer_at ?_;refine EV_int ?_;refine T2_iadd_int ?_;refine ⟨_,_,_,hI.at',S_Lexer_at,by decide,?_⟩;obtain ⟨hI,hx,hk⟩ := LInv.atx (s := ⟨c :: r,s.line⟩) (posOf_drop (k := 1) hI.suf (by simp)).symm (suf_drop 1 hI.suf) hx (.head _)
        generalize H₂.put lx _ = H₃ at hI hx hk ⊢
        refine EXS_nil ?_;refine ⟨r.length,_,by simp,LSub.refl,up2 _ _ _ ⟨r,rfl,rfl,hI,hx,?_⟩⟩;have b3 : P.isLineEnd (c : Int) = false := b2;rw [← he,P.toLineEnd,if_neg (nf b3)]
      · refine EXS_nil ?_;refine EXS_nil ?_;refine EXS_nil ?_;refine EXS_nil ?_;refine EXS_nil ?_;have : P.toLineEnd s.rest = r := by
          rw [← he]
          cases r with
          | nil => rfl
          | cons c r =>
            have l1 := suf_len hI.suf;have : decide (posOf T (c :: r) < ((SS T).length : Int)) = true := by
              rw [hl]; apply decide_eq_true; unfold posOf; simp at l1 ⊢; omega
            rw [this,Bool.true_and] at hb5;have z : P.isLineEnd (P.code (c :: r)) = true := by simpa using hb5
            have : P.isLineEnd (c : Int) = true := z;rw [P.toLineEnd,if_pos this]
        rw [this] at h;exact ⟨k,_,Nat.lt_succ_self _,LSub.refl,up _ _ _ ⟨_,rfl,hI,hx,h⟩⟩
  have h := RQ.negB h (nf hb3);refine EXS_cons ?_;refine EX_if ?_;refine ET_val (fun _ _ => rfl) ?_;refine EV_meth _ (fun _ => rfl) ?_;refine EV_attr (fun _ => rfl) ?_;refine EV_name rfl ?_;refine T1_attr hI.at' rfl rfl A_Lexer_text ?_;refine MC_startswith rfl rfl ?_;refine EV_strS (c := [47,42]) (by kernel_rfl) ?_;refine EV_attr (fun _ => rfl) ?_;refine EV_name rfl ?_;refine T1_attr hI.at' rfl rfl A_Lexer_at ?_;refine ⟨_,_,rfl,rfl,?_⟩;refine ⟨_,rfl,?_⟩;rw [starts_at hI.suf];refine ite_go (fun hb4 => ?_) (fun hb4 => ?_)
  · exact (RQ.posB h hb4).elim
  have h := RQ.negB h (nf hb4);refine EXS_cons ?_;refine EX_return ?_;refine EV_cmp rfl ?_;refine EV_attr (fun _ => rfl) ?_;refine EV_name rfl ?_;refine T1_attr hI.at' rfl rfl A_Lexer_line ?_;refine EV_name rfl ?_;refine T2_gt_int ?_;refine hq _ s _ ?_;have := RQ.done h hI hx;rw [show decide ((s₀.line : Int) < (s.line : Int)) = decide (s₀.line < s.line) from by simp];exact this
end
end Mine
end
section
open PySem PySem.W PySem.Calls PyProof.Rows Hd
namespace Mine
noncomputable def isRight (first : Bool) (r : List Nat) : Bool := decide (0 ≤ P.code r) && (if first then P.isIdStart (P.code r) else P.isIdPart (P.code r))
noncomputable def signV (T : List Nat) (first : Bool) (r : List Nat) : V := if isRight first r then .tup [.str (SS [(P.code r).toNat]),.int (posOf T r + 1)] else .none
noncomputable abbrev tokFields (T : List Nat) (t : Tk) : List V := [.str (SS t.k.str),tokVal t,.int t.line,.bool t.bl,.int (posOf T t.st),.int (posOf T t.en),.bool t.oct,.bool t.pl]
noncomputable def tInst (T : List Nat) (t : Tk) : MO := .inst 422 ["kind","value","line","is_behind_line","start","end","is_octal","is_plain"] [.str (SS t.k.str),tokVal t,.int t.line,.bool t.bl,.int (posOf T t.st),.int (posOf T t.en),.bool t.oct,.bool t.pl]
noncomputable abbrev NInv (T : List Nat) (lx tk : Addr) (p : Lx × Tk) (H : MH) : Prop := LInv T lx p.1 H∧H tk = some (tInst T p.2)
theorem start_part {c : Int} (h : P.isIdStart c = true) : P.isIdPart c = true := by unfold P.isIdPart; rw [h]; rfl
theorem idPart_cons {c : Nat} {r : List Nat} (h : P.isIdPart (c : Int) = true) : P.idPart (c :: r) = (c :: (P.idPart r).1,(P.idPart r).2) := by
  rw [P.idPart,if_pos h]
theorem idPart_stop {r : List Nat} (h : P.isIdPart (P.code r) = false) : P.idPart r = ([],r) := by
  cases r with
  | nil => rfl
  | cons c r => have h : P.isIdPart (c : Int) = false := h; rw [P.idPart,if_neg (nf h)]
theorem idPart_app : ∀ r : List Nat,(P.idPart r).1 ++ (P.idPart r).2 = r
  | [] => rfl
  | c :: r => by
    unfold P.idPart
    split
    · show c :: ((P.idPart r).1 ++ (P.idPart r).2) = _; rw [idPart_app r]
    · rfl
theorem ones : ∀ l : List Nat,((l.map fun c => SS [c]).map (·.length)).sum = l.length
  | [] => rfl
  | c :: r => by
    rw [List.map_cons,List.map_cons,List.sum_cons,ones r]; show 1 + r.length = r.length + 1; omega
section
variable {w : World} {mb : Str→Option Value} {xt : Led} {n : Nat} {X : Nat→MH→Prop} {l : Loc} {H H₀ : MH} (hb_ : ∀ x : Str,x ≠ "__name__"→mb x = bootBuiltins x) {T : List Nat} (hT : TxtOk T) {lx tk : Addr}
include hb_ hT
theorem name_sign_ {s : Lx} (hI : LInv T lx s H) (first : Bool) (hn : P.code s.rest ≠ 92) {Q : V→MH→Prop} (hq : Q (signV T first s.rest) H) : CL (W0 w mb xt) ⟨n + 3,X⟩ l H f_Lexer_name_sign [.ref lx,.bool first] Q := by
  have hc := code_lt hT hI.suf;refine CL_def F_Lexer_name_sign rfl ?_;refine EXS_cons ?_;refine EX_unpackS (xs := ["code","behind","is_escape"]) (fun _ => rfl) (by intros; kernel_rfl) (by decide +kernel) ?_;refine EV_tuple ?_;refine EA_cons rfl ?_;refine EV_callg (by kernel_rfl) G_code_at (by kernel_rfl) Gk_code_at rfl ?_;refine EA_cons rfl ?_;refine EV_attr (fun _ => rfl) ?_;refine EV_name rfl ?_;refine T1_attr hI.at' rfl rfl A_Lexer_text ?_;refine EA_cons rfl ?_;refine EV_attr (fun _ => rfl) ?_;refine EV_name rfl ?_;refine T1_attr hI.at' rfl rfl A_Lexer_at ?_;refine EA_nil ?_;refine CV_of_CL ?_;refine code_at0 hb_ hT hI.suf ?_;refine EA_cons rfl ?_;refine EV_bin ?_;refine EV_attr (fun _ => rfl) ?_;refine EV_name rfl ?_;refine T1_attr hI.at' rfl rfl A_Lexer_at ?_;refine EV_int ?_;refine T2_add_int ?_;refine EA_cons rfl ?_;refine EV_bool ?_;refine EA_nil ?_;refine lb ?_;refine ⟨_,rfl,rfl,?_⟩;refine EXS_cons ?_;refine EX_if ?_;refine ET_cmp rfl ?_;refine EV_name rfl ?_;refine EV_int ?_;refine T2_eq_int ?_;refine ⟨_,rfl,?_⟩;refine ite_go (fun hb => absurd (by simpa using hb) hn) (fun _ => ?_);refine EXS_nil ?_;refine EXS_cons ?_;refine EXa ?_
  apply EV_bandP (b2 := if first then P.isIdStart (P.code s.rest) else P.isIdPart (P.code s.rest))
  · skip
    refine EV_cmp rfl ?_;refine EV_name rfl ?_;refine EV_int ?_;refine T2_ge_int ?_;exact ⟨rfl,rfl⟩
  · intro hb;refine EV_bone ?_;refine EV_if ?_;refine ET_val (fun _ _ => rfl) ?_;refine EV_name rfl ?_;refine ⟨_,rfl,?_⟩;refine ite_go (fun hf => ?_) (fun hf => ?_)
    · subst hf;refine EV_callg (by kernel_rfl) G_is_id_start (by kernel_rfl) Gk_is_id_start rfl ?_;refine EA_pe (PEs_cons PE_name PEs_nil) ?_;refine CV_of_CL ?_;refine is_id_start_ hb_ hc ?_;exact ⟨rfl,rfl⟩
    · subst hf;refine EV_callg (by kernel_rfl) G_is_id_part (by kernel_rfl) Gk_is_id_part rfl ?_;refine EA_pe (PEs_cons PE_name PEs_nil) ?_;refine CV_of_CL ?_;refine is_id_part_ hb_ hc ?_;exact ⟨rfl,rfl⟩
  refine EXS_cons ?_;refine EX_if ?_
  apply ET_andP (b1 := false) (b2 := false)
  · skip
    refine ET_val (fun _ _ => rfl) ?_;refine EV_name rfl ?_;refine ⟨_,rfl,?_⟩;exact ⟨rfl,rfl⟩
  · intro z; cases z
  refine ite_go (fun z => nomatch z) (fun _ => ?_);refine EXS_nil ?_;refine EXS_cons ?_;refine EX_return ?_;refine EV_if ?_;refine ET_val (fun _ _ => rfl) ?_;refine EV_name rfl ?_;refine ⟨_,rfl,?_⟩;unfold signV at hq;refine ite_go (fun hb => ?_) (fun hb => ?_)
  · rw [show isRight first s.rest = true from hb,if_pos rfl] at hq;have hlo : 0 ≤ P.code s.rest := of_decide_eq_true (Bool.and_eq_true_iff.mp hb).1;have hhi : P.code s.rest ≤ 0x10FFFF := by omega
    refine EV_tuple ?_;refine EA_cons rfl ?_;refine EV_callb (B_chr hb_ (by kernel_rfl)) rfl ?_;refine EA_pe (PEs_cons PE_name PEs_nil) ?_;refine CV_chr hlo hhi ?_;refine EA_cons rfl ?_;refine EV_name rfl ?_;refine EA_nil ?_;refine lb ?_;exact hq
  · rw [show isRight first s.rest = false from hb,if_neg Bool.false_ne_true] at hq;refine EV_none ?_;exact hq
theorem Token_ {x : Addr} {k v li b st en : V} : CL (W0 w mb xt) ⟨n + 1,X⟩ l (H.put x (.inst 422 [] [])) f_Token_init [.ref x,k,v,li,b,st,en] fun r H' => r = .none∧H' = H.put x (.inst 422 ["kind","value","line","is_behind_line","start","end","is_octal","is_plain"] [k,v,li,b,st,en,.bool false,.bool true]) := by
  refine CL_def F_Token_init rfl ?_;refine EXS_cons ?_;refine EX_setattr (fun _ => rfl) ?_;refine EV_name rfl ?_;refine EV_name rfl ?_;refine ⟨_,_,_,_,rfl,put_self,S_Token_kind,Nat.le_of_ble_eq_true (by kernel_rfl),?_⟩;refine EXS_cons ?_;refine EX_setattr (fun _ => rfl) ?_;refine EV_name rfl ?_;refine EV_name rfl ?_;refine ⟨_,_,_,_,rfl,put_self,S_Token_value,Nat.le_of_ble_eq_true (by kernel_rfl),?_⟩;refine EXS_cons ?_;refine EX_setattr (fun _ => rfl) ?_;refine EV_name rfl ?_;refine EV_name rfl ?_;refine ⟨_,_,_,_,rfl,put_self,S_Token_line,Nat.le_of_ble_eq_true (by kernel_rfl),?_⟩;refine EXS_cons ?_;refine EX_setattr (fun _ => rfl) ?_;refine EV_name rfl ?_;refine EV_name rfl ?_;refine ⟨_,_,_,_,rfl,put_self,S_Token_is_behind_line,Nat.le_of_ble_eq_true (by kernel_rfl),?_⟩;refine EXS_cons ?_;refine EX_setattr (fun _ => rfl) ?_;refine EV_name rfl ?_;refine EV_name rfl ?_;refine ⟨_,_,_,_,rfl,put_self,S_Token_start,Nat.le_of_ble_eq_true (by kernel_rfl),?_⟩;refine EXS_cons ?_;refine EX_setattr (fun _ => rfl) ?_;refine EV_name rfl ?_;refine EV_name rfl ?_;refine ⟨_,_,_,_,rfl,put_self,S_Token_end,Nat.le_of_ble_eq_true (by kernel_rfl),?_⟩;refine EXS_cons ?_;refine EX_setattr (fun _ => rfl) ?_;refine EV_bool ?_;refine EV_name rfl ?_;refine ⟨_,_,_,_,rfl,put_self,S_Token_is_octal,Nat.le_of_ble_eq_true (by kernel_rfl),?_⟩;refine EXS_cons ?_;refine EX_setattr (fun _ => rfl) ?_;refine EV_bool ?_;refine EV_name rfl ?_;refine ⟨_,_,_,_,rfl,put_self,S_Token_is_plain,Nat.le_of_ble_eq_true (by kernel_rfl),?_⟩;refine EXS_nil ?_;refine ⟨rfl,?_⟩;rw [put_put,put_put,put_put,put_put,put_put,put_put,put_put,put_put];rfl
theorem Node_ {x : Addr} {k li ps : V} : CL (W0 w mb xt) ⟨n + 1,X⟩ l (H.put x (.inst 31 [] [])) f_Node_init [.ref x,k,li,ps] fun r H' => r = .none∧H' = H.put x (.inst 31 ["kind","line","parts","scope"] [k,li,ps,.none]) := by
  refine CL_def F_Node_init rfl ?_;refine EXS_cons ?_;refine EX_setattr (fun _ => rfl) ?_;refine EV_name rfl ?_;refine EV_name rfl ?_;refine ⟨_,_,_,_,rfl,put_self,S_Node_kind,Nat.le_of_ble_eq_true (by kernel_rfl),?_⟩;refine EXS_cons ?_;refine EX_setattr (fun _ => rfl) ?_;refine EV_name rfl ?_;refine EV_name rfl ?_;refine ⟨_,_,_,_,rfl,put_self,S_Node_line,Nat.le_of_ble_eq_true (by kernel_rfl),?_⟩;refine EXS_cons ?_;refine EX_setattr (fun _ => rfl) ?_;refine EV_name rfl ?_;refine EV_name rfl ?_;refine ⟨_,_,_,_,rfl,put_self,S_Node_parts,Nat.le_of_ble_eq_true (by kernel_rfl),?_⟩;refine EXS_cons ?_;refine EX_setattr (fun _ => rfl) ?_;refine EV_none ?_;refine EV_name rfl ?_;refine ⟨_,_,_,_,rfl,put_self,S_Node_scope,Nat.le_of_ble_eq_true (by kernel_rfl),?_⟩;refine EXS_nil ?_;refine ⟨rfl,?_⟩;rw [put_put,put_put,put_put,put_put];rfl
theorem read_name_ {s : Lx} {t : Tk} (hI : LInv T lx s H) (ht : H tk = some (tInst T t)) (hne : tk ≠ lx) (hst : (P.isIdStart (P.code s.rest) || P.code s.rest == 92) = true) {Q : Lx × Tk→MH→Prop}
    (h : RQ (NInv T lx tk) [lx,tk] X H (P.readName s t) fun _ p H' => Q p H') {Q' : V→MH→Prop} (hq : ∀ p H',Q p H'→Q' .none H') : CL (W0 w mb xt) ⟨n + 4,X⟩ l H f_Lexer_read_name [.ref lx,.ref tk] Q' := by
  have lT := hT.len;unfold P.readName at h
  cases h92 : (P.code s.rest == 92) with
  | true => exact (RQ.pos h h92).elim
  | false =>
  have h := RQ.neg h (nf h92)
  cases h92' : (P.code (P.idPart s.rest).2 == 92) with
  | true => exact (RQ.pos h h92').elim
  | false =>
  have h := RQ.neg h (nf h92');rw [h92,Bool.or_false] at hst;have n92 : P.code s.rest ≠ 92 := by simpa using h92
  have n92' : P.code (P.idPart s.rest).2 ≠ 92 := by simpa using h92'
  refine CL_def F_Lexer_read_name rfl ?_;refine EXS_cons ?_;refine EX_unpackS (xs := ["found","told"]) (fun _ => rfl) (by intros; kernel_rfl) (by decide +kernel) ?_;refine EV_tuple ?_;refine EA_cons rfl ?_;refine EV_listM ?_;refine EA_nil ?_;refine ⟨by decide,fun a ha => ?_⟩;have hax : a ≠ lx := fun z => by rw [z,hI.at'] at ha; cases ha
  have hat : a ≠ tk := fun z => by rw [z,ht] at ha; cases ha
  have hI1 : LInv T lx s (H.put a (.list [])) := hI.put hax;have hx1 : Ext [lx,tk] H (H.put a (.list [])) := Ext.refl.loc ha;have ht1 : H.put a (.list []) tk = some (tInst T t) := (put_ne hat.symm).trans ht;have hf1 : H.put a (.list []) a = some (.list []) := put_self
  generalize H.put a (.list []) = H1 at hI1 hx1 ht1 hf1 ⊢
  have hI := hI1;refine EA_cons rfl ?_;refine EV_meth _ (fun _ => rfl) ?_;refine EV_name rfl ?_;refine MC_inst hI.at' rfl M_Lexer_name_sign rfl ?_;refine EA_pe (PEs_cons PE_bool PEs_nil) ?_;refine CV_of_CL ?_;refine name_sign_ hb_ hT hI true n92 ?_;refine EA_nil ?_;refine lb ?_;refine ⟨_,rfl,rfl,?_⟩;have hv : signV T true s.rest = signV T false s.rest := by
    unfold signV isRight;rw [if_pos rfl,if_neg Bool.false_ne_true,hst,start_part hst]
  rw [hv];refine EXS_cons ?_;refine EX_whileA (fun k l H' => ∃ acc r,k = r.length∧l = [("self",.ref lx),("token",.ref tk),("found",.ref a),("told",signV T false r)]∧LInv T lx ⟨r,s.line⟩ H'∧Ext [lx,tk] H H'∧H' tk = some (tInst T t)∧H' a = some (.list (acc.map fun c => .str (SS [c]))) ∧
      acc ++ (P.idPart r).1 = (P.idPart s.rest).1∧(P.idPart r).2 = (P.idPart s.rest).2) s.rest.length (LSub_cons rfl (LSub_cons rfl (LSub_cons rfl (LSub_cons rfl LSub_nil)))) ⟨[],s.rest,rfl,rfl,hI1,hx1,ht1,hf1,rfl,rfl⟩ ?_
  rintro Iv up k l H₁ ⟨acc,r,rfl,rfl,hI,hx,ht,hf,e1,e2⟩;have hlen : acc.length ≤ T.length := by
    have z := congrArg List.length e1;rw [List.length_append] at z;have z2 := congrArg List.length (idPart_app s.rest);rw [List.length_append] at z2;have z3 := suf_len hI1.suf;omega
  cases hr : isRight false r with
  | false =>
    rw [show signV T false r = .none from by unfold signV; rw [hr]; rfl];refine ET_cmp rfl ?_;refine EV_name rfl ?_;refine EV_none ?_;refine T2_isnot_n rfl ?_;refine ⟨_,rfl,?_⟩;refine ite_go (fun z => nomatch z) (fun _ => ?_);have hst2 : P.isIdPart (P.code r) = false := by
      unfold isRight at hr;rw [if_neg Bool.false_ne_true] at hr
      cases r with
      | nil => decide
      | cons c r => 
        have : decide (0 ≤ P.code (c :: r)) = true := decide_eq_true (by show (0 : Int) ≤ (c : Int); omega);rw [this,Bool.true_and] at hr; exact hr
    rw [idPart_stop hst2] at e1 e2;rw [List.append_nil] at e1;refine EXS_nil ?_;refine EXS_cons ?_;refine EX_setattr (fun _ => rfl) ?_;refine EV_meth _ (fun _ => rfl) ?_;refine EV_strS (c := []) (by kernel_rfl) ?_;refine MC_join rfl ?_;refine EV_name rfl ?_;refine ⟨a,acc.map fun c => SS [c],rfl,by rw [hf,List.map_map]; rfl,?_,?_⟩
    · rw [ones,List.length_map,show (SS []).length = 0 from rfl]; omega
    rw [join_singles,e1];refine EV_name rfl ?_;refine ⟨_,_,_,_,rfl,ht,S_Token_value,by decide,?_⟩;have hI2 := hI.put (a := tk) (o := (.inst 422 (setF ["kind","value","line","is_behind_line","start","end","is_octal","is_plain"] (tokFields T t) "value" (.str (SS (P.idPart s.rest).1))).1 (setF ["kind","value","line","is_behind_line","start","end","is_octal","is_plain"] (tokFields T t) "value" (.str (SS (P.idPart s.rest).1))).2)) hne;have hx2 := hx.own (a := tk) (o := (.inst 422 (setF ["kind","value","line","is_behind_line","start","end","is_octal","is_plain"] (tokFields T t) "value" (.str (SS (P.idPart s.rest).1))).1 (setF ["kind","value","line","is_behind_line","start","end","is_octal","is_plain"] (tokFields T t) "value" (.str (SS (P.idPart s.rest).1))).2)) (.tail _ (.head _));have ht2 : (H₁.put tk (.inst 422 (setF ["kind","value","line","is_behind_line","start","end","is_octal","is_plain"] (tokFields T t) "value" (.str (SS (P.idPart s.rest).1))).1 (setF ["kind","value","line","is_behind_line","start","end","is_octal","is_plain"] (tokFields T t) "value" (.str (SS (P.idPart s.rest).1))).2)) tk = some (.inst 422 ["kind","value","line","is_behind_line","start","end","is_octal","is_plain"] [.str (SS t.k.str),.str (SS (P.idPart s.rest).1),.int t.line,.bool t.bl,.int (posOf T t.st),.int (posOf T t.en),.bool t.oct,.bool t.pl]) := put_self
    generalize H₁.put tk _ = H₂ at hI2 hx2 ht2 ⊢
    have ht := ht2;refine EXS_cons ?_;refine EX_setattr (fun _ => rfl) ?_;refine EV_if ?_;refine ET_val (fun _ _ => rfl) ?_;refine EV_callg (by kernel_rfl) G_is_keyword (by kernel_rfl) Gk_is_keyword rfl ?_;refine EA_cons rfl ?_;refine EV_attr (fun _ => rfl) ?_;refine EV_name rfl ?_;refine T1_attr ht rfl rfl A_Token_value ?_;refine EA_nil ?_;refine CV_of_CL ?_;refine is_keyword_ hb_ ?_;refine ⟨_,rfl,?_⟩;refine ite_go (fun hb => ?_) (fun hb => ?_)
    · refine EV_strS (c := KD.keyword.str) (by kernel_rfl) ?_;refine EV_name rfl ?_;refine ⟨_,_,_,_,rfl,ht,S_Token_kind,by decide,?_⟩;refine EXS_nil ?_;rw [if_pos hb] at h;refine hq _ _ (RQ.done h ⟨?_,?_⟩ (hx2.own (.tail _ (.head _))))
      · exact LInv.put (by rw [← e2]; exact hI2) hne
      · exact put_self
    · refine EV_strS (c := KD.name.str) (by kernel_rfl) ?_;refine EV_name rfl ?_;refine ⟨_,_,_,_,rfl,ht,S_Token_kind,by decide,?_⟩;refine EXS_nil ?_;rw [if_neg (nf hb)] at h;refine hq _ _ (RQ.done h ⟨?_,?_⟩ (hx2.own (.tail _ (.head _))))
      · exact LInv.put (by rw [← e2]; exact hI2) hne
      · exact put_self
  | true =>
    cases r with
    | nil => exact absurd hr (by decide)
    | cons c r =>
    rw [show signV T false (c :: r) = .tup [.str (SS [c]),.int (posOf T (c :: r) + 1)] from by unfold signV; rw [hr]; rfl];have hp : P.isIdPart (c : Int) = true := (Bool.and_eq_true_iff.mp hr).2;rw [idPart_cons hp] at e1 e2;refine ET_cmp rfl ?_;refine EV_name rfl ?_;refine EV_none ?_;refine T2_isnot_n rfl ?_;refine ⟨_,rfl,?_⟩;refine ite_go (fun _ => ?_) (fun z => nomatch z);refine EXS_cons ?_;refine EX_if ?_;refine ET_cmp rfl ?_;refine EV_sub ?_;refine EV_name rfl ?_;refine EV_int ?_;refine T2_item_tup rfl (by decide) (by decide) rfl ?_;refine EV_bin ?_;refine EV_attr (fun _ => rfl) ?_;refine EV_name rfl ?_;refine T1_attr hI.at' rfl rfl A_Lexer_at ?_;refine EV_int ?_;refine T2_add_int ?_;refine T2_gt_int ?_;refine ⟨_,rfl,?_⟩;refine ite_go (fun z => absurd (of_decide_eq_true z) (Int.lt_irrefl _)) (fun _ => ?_);refine EXS_nil ?_;have hsz : (acc.map fun c => V.str (SS [c])).length < 1000000 := by rw [List.length_map]; omega
    refine EXS_cons ?_;refine EXx ?_;refine EV_meth _ (fun _ => rfl) ?_;refine EV_name rfl ?_;refine MC_append hf rfl ?_;refine EV_sub ?_;refine EV_name rfl ?_;refine EV_int ?_;refine T2_item_tup rfl (by decide) (by decide) rfl ?_;refine ⟨_,hf,hsz,?_⟩;have hI2 := hI.put (a := a) (o := (.list ((acc.map fun c => V.str (SS [c])) ++ [.str (SS [c])]))) hax;have hx2 := hx.loc (o := (.list ((acc.map fun c => V.str (SS [c])) ++ [.str (SS [c])]))) ha;have ht2 : H₁.put a (.list ((acc.map fun c => V.str (SS [c])) ++ [.str (SS [c])])) tk = some (tInst T t) := (put_ne hat.symm).trans ht;have hf2 : H₁.put a (.list ((acc.map fun c => V.str (SS [c])) ++ [.str (SS [c])])) a = some (.list ((acc ++ [c]).map fun c => V.str (SS [c]))) := by rw [put_self,List.map_append]; rfl
    generalize H₁.put a _ = H₂ at hI2 hx2 ht2 hf2 ⊢
    have hI := hI2;refine EXS_cons ?_;refine EX_setattr (fun _ => rfl) ?_;refine EV_sub ?_;refine EV_name rfl ?_;refine EV_int ?_;refine T2_item_tup rfl (by decide) (by decide) rfl ?_;refine EV_name rfl ?_;refine ⟨_,_,_,_,rfl,hI.at',S_Lexer_at,Nat.le_of_ble_eq_true (by kernel_rfl),?_⟩;obtain ⟨hI,hx,hk⟩ := LInv.atx (s := ⟨c :: r,s.line⟩) (posOf_drop (k := 1) hI.suf (by simp)).symm (suf_drop 1 hI.suf) hx2 (.head _)
    generalize H₂.put lx _ = H₃ at hI hx hk ⊢
    have n92r : P.code r ≠ 92 := fun z => by
      rw [idPart_stop (r := r) (by rw [z]; decide)] at e2;rw [← e2] at n92'; exact n92' z
    refine EXS_cons ?_;refine EXa ?_;refine EV_meth _ (fun _ => rfl) ?_;refine EV_name rfl ?_;refine MC_inst hI.at' rfl M_Lexer_name_sign rfl ?_;refine EA_pe (PEs_cons PE_bool PEs_nil) ?_;refine CV_of_CL ?_;refine name_sign_ hb_ hT hI false n92r ?_;refine EXS_nil ?_;exact ⟨r.length,_,by simp,LSub_cons rfl (LSub_cons rfl (LSub_cons rfl (LSub_cons rfl LSub_nil))),up _ _ _ ⟨acc ++ [c],r,rfl,rfl,hI,hx,(hk _ hne).trans ht2,(hk _ hax).trans hf2,by rw [List.append_assoc]; exact e1,e2⟩⟩
end
end Mine
end
section
open PySem PySem.W PySem.Calls PyProof.Rows Hd
namespace Mine
theorem LInv.drop {T : List Nat} {lx a : Addr} {s : Lx} {H : MH} (h : LInv T lx s H) (n : a ≠ lx) : LInv T lx s (H.drop a) := ⟨(drop_ne n.symm).trans h.at',h.suf⟩
theorem punctFind_len : ∀ {ks : List Nat} {r p : List Nat},P.punctFind ks r = some p→∃ k,p = r.take k∧p ≠ []
  | [],_,_,h => by cases h
  | k :: ks,r,p,h => by
    unfold P.punctFind at h
    split at h
    · rename_i q
      cases h
      refine ⟨k,rfl,fun z => ?_⟩;rw [z] at q; exact absurd q (by decide)
    · exact punctFind_len h
theorem readName_ok {s : Lx} {t : Tk} {u : Unit} {p : Lx × Tk} (h : P.readName s t = .ok (u,p)) : p.2.st = t.st∧p.2.v.length ≤ s.rest.length∧((p.2.k == .punct) = true→1 ≤ s.rest.length) := by
  unfold P.readName at h
  split at h
  · cases h
  · split at h
    · cases h
    · cases h
      refine ⟨rfl,?_⟩;have := congrArg List.length (idPart_app s.rest);rw [List.length_append] at this;refine ⟨by show (P.idPart s.rest).1.length ≤ _; omega,?_⟩;show ((if P.isIn (P.idPart s.rest).1 P.keywords = true then KD.keyword else KD.name) == KD.punct) = true→_
      split <;> intro z <;> cases z
theorem readPunct_ok {s : Lx} {t : Tk} {u : Unit} {p : Lx × Tk} (h : P.readPunct s t = .ok (u,p)) : p.2.st = t.st∧p.2.v.length ≤ s.rest.length∧((p.2.k == .punct) = true→1 ≤ s.rest.length) := by
  unfold P.readPunct at h
  split at h
  · cases h
  · rename_i q hq
    cases h
    obtain ⟨k,hk,hq0⟩ := punctFind_len hq;have hl : q.length ≤ s.rest.length := by rw [hk,List.length_take]; omega
    have : 1 ≤ q.length := List.length_pos_iff.mpr hq0;exact ⟨rfl,hl,fun _ => by omega⟩
section
variable {w : World} {mb : Str→Option Value} {xt : Led} {n : Nat} {X : Nat→MH→Prop} {l : Loc} {H H₀ : MH} (hb_ : ∀ x : Str,x ≠ "__name__"→mb x = bootBuiltins x) {T : List Nat} (hT : TxtOk T) {lx tk : Addr}
include hb_ hT
theorem read_punct_ {s : Lx} {t : Tk} (hI : LInv T lx s H) (ht : H tk = some (tInst T t)) (hne : tk ≠ lx) {Q : Lx × Tk→MH→Prop}
    (h : RQ (NInv T lx tk) [lx,tk] X H (P.readPunct s t) fun _ p H' => Q p H') {Q' : V→MH→Prop} (hq : ∀ p H',Q p H'→Q' .none H') : CL (W0 w mb xt) ⟨n + 4,X⟩ l H f_Lexer_read_punct [.ref lx,.ref tk] Q' := by
  have lT := hT.len;refine CL_def F_Lexer_read_punct rfl ?_;refine EXS_cons ?_;refine EXa ?_;refine EV_callg (by kernel_rfl) G_punct_at (by kernel_rfl) Gk_punct_at rfl ?_;refine EA_cons rfl ?_;refine EV_attr (fun _ => rfl) ?_;refine EV_name rfl ?_;refine T1_attr hI.at' rfl rfl A_Lexer_text ?_;refine EA_cons rfl ?_;refine EV_attr (fun _ => rfl) ?_;refine EV_name rfl ?_;refine T1_attr hI.at' rfl rfl A_Lexer_at ?_;refine EA_nil ?_;refine CV_of_CL ?_;refine punct_at_ hb_ hT hI.suf ?_;unfold P.readPunct at h
  cases hp : P.punctAt s.rest with
  | none =>
    rw [hp] at h;refine EXS_cons ?_;refine EX_if ?_;refine ET_cmp rfl ?_;refine EV_name rfl ?_;refine EV_none ?_;refine T2_is_n rfl ?_;refine ⟨_,rfl,?_⟩;refine ite_go (fun _ => ?_) (fun z => nomatch z);refine EXS_cons ?_;refine EXx ?_;refine EV_meth _ (fun _ => rfl) ?_;refine EV_name rfl ?_;refine MC_inst hI.at' rfl M_Lexer_fail rfl ?_;refine EA_pe (PEs_cons (PE_str (c := [97,32,115,105,103,110,32,116,104,97,116,32,110,111,116,104,105,110,103,32,98,101,103,105,110,115,32,119,105,116,104]) (by kernel_rfl)) PEs_nil) ?_;refine CV_of_CL ?_;exact CL_fail (RQ.failed h Ext.refl)
  | some p =>
    rw [hp] at h;obtain ⟨k,hk,hp0⟩ := punctFind_len hp;have hlen : p.length ≤ s.rest.length := by rw [hk,List.length_take]; omega
    have l2 := suf_len hI.suf;refine EXS_cons ?_;refine EX_if ?_;refine ET_cmp rfl ?_;refine EV_name rfl ?_;refine EV_none ?_;refine T2_is_n rfl ?_;refine ⟨_,rfl,?_⟩;refine ite_go (fun z => nomatch z) (fun _ => ?_);refine EXS_nil ?_;refine EXS_cons ?_;refine EX_setattr (fun _ => rfl) ?_;refine EV_strS (c := KD.punct.str) (by kernel_rfl) ?_;refine EV_name rfl ?_;refine ⟨_,_,_,_,rfl,ht,S_Token_kind,by decide,?_⟩;refine EXS_cons ?_;refine EX_setattr (fun _ => rfl) ?_;refine EV_name rfl ?_;refine EV_name rfl ?_;refine ⟨_,_,_,_,rfl,put_self,S_Token_value,Nat.le_of_ble_eq_true (by kernel_rfl),?_⟩;rw [put_put];show EXS _ _ _ _ _ (H.put tk (tInst T { t with k := .punct,v := p })) _;have ht : H.put tk (tInst T { t with k := .punct,v := p }) tk = some (tInst T { t with k := .punct,v := p }) := put_self;have hI : LInv T lx s (H.put tk (tInst T { t with k := .punct,v := p })) := hI.put hne;have hx : Ext [lx,tk] H (H.put tk (tInst T { t with k := .punct,v := p })) := Ext.refl.own (.tail _ (.head _))
    generalize H.put tk _ = H₁ at hI hx ht ⊢
    have hl : (SS p).length = p.length := by show p.toArray.size = _; simp
    have hsz : (SS p).length < 2 ^ 60 := by rw [hl]; omega
    refine EXS_cons ?_;refine EX_augattr ?_;refine EV_name rfl ?_;refine ⟨_,rfl,?_⟩;refine T1_attr hI.at' rfl rfl A_Lexer_at ?_;refine EV_callb (B_len hb_ (by kernel_rfl)) rfl ?_;refine EA_pe (PEs_cons PE_name PEs_nil) ?_;refine CV_len_str hsz ?_;refine T2_iadd_int ?_;refine ⟨_,_,_,hI.at',S_Lexer_at,by decide,?_⟩;rw [hl];obtain ⟨hI,hx,hk⟩ := LInv.atx (s := s) (posOf_drop hI.suf hlen).symm (suf_drop p.length hI.suf) hx (.head _)
    generalize H₁.put lx _ = H₂ at hI hx hk ⊢
    refine EXS_nil ?_;exact hq _ _ (RQ.done h ⟨hI,(hk _ hne).trans ht⟩ hx)
theorem next_ {s₀ : Lx} (hI : LInv T lx s₀ H) {Q : Tk→Lx→MH→Prop} (h : RQ (LInv T lx) [lx] X H (P.next s₀) Q) {Q' : V→MH→Prop} (hq : ∀ t s H',TokOk T t→Q t s H'→Q' (tokV T t) H') : CL (W0 w mb xt) ⟨n + 5,X⟩ l H f_Lexer_next [.ref lx] Q' := by
  have lT := hT.len;refine CL_def F_Lexer_next rfl ?_;refine EXS_cons ?_;refine EXa ?_;refine EV_meth _ (fun _ => rfl) ?_;refine EV_name rfl ?_;refine MC_inst hI.at' rfl M_Lexer_skip_blanks rfl ?_;refine EA_nil ?_;refine CV_of_CL ?_;refine skip_blanks_ hb_ hT hI (Q := fun v s H' => ∃ b,v = .bool b∧LInv T lx s H'∧Ext [lx] H H'∧RQ (LInv T lx) [lx] X H (P.nextAt s (P.tk0 s.line b s.rest)) Q) (RQ.call h Ext.refl (fun _ z => z) fun b s H' _ hI hx _ h => ⟨b,rfl,hI,hx,h⟩) ?_;rintro v s H₁ ⟨b,rfl,hI,hx,h⟩;have hc := code_lt hT hI.suf;have l2 := suf_len hI.suf;refine EXS_cons ?_;refine EX_unpackS (xs := ["start","code"]) (fun _ => rfl) (by intros; kernel_rfl) (by decide +kernel) ?_;refine EV_tuple ?_;refine EA_cons rfl ?_;refine EV_attr (fun _ => rfl) ?_;refine EV_name rfl ?_;refine T1_attr hI.at' rfl rfl A_Lexer_at ?_;refine EA_cons rfl ?_;refine EV_callg (by kernel_rfl) G_code_at (by kernel_rfl) Gk_code_at rfl ?_;refine EA_cons rfl ?_;refine EV_attr (fun _ => rfl) ?_;refine EV_name rfl ?_;refine T1_attr hI.at' rfl rfl A_Lexer_text ?_;refine EA_cons rfl ?_;refine EV_attr (fun _ => rfl) ?_;refine EV_name rfl ?_;refine T1_attr hI.at' rfl rfl A_Lexer_at ?_;refine EA_nil ?_;refine CV_of_CL ?_;refine code_at0 hb_ hT hI.suf ?_;refine EA_nil ?_;refine lb ?_;refine ⟨_,rfl,rfl,?_⟩;refine EXS_cons ?_;refine EXa ?_;refine EV_callg (by kernel_rfl) G_Token (by kernel_rfl) Gk_Token rfl ?_;refine EA_cons rfl ?_;refine EV_strS (c := KD.end_.str) (by kernel_rfl) ?_;refine EA_cons rfl ?_;refine EV_strS (c := []) (by kernel_rfl) ?_;refine EA_cons rfl ?_;refine EV_attr (fun _ => rfl) ?_;refine EV_name rfl ?_;refine T1_attr hI.at' rfl rfl A_Lexer_line ?_;refine EA_cons rfl ?_;refine EV_name rfl ?_;refine EA_cons rfl ?_;refine EV_name rfl ?_;refine EA_cons rfl ?_;refine EV_name rfl ?_;refine EA_nil ?_;refine CV_new N_Token fun x hx0 => (Token_ hb_ hT).mono fun r H' z => ?_;obtain ⟨rfl,rfl⟩ := z;refine ⟨rfl,?_⟩;have hne : x ≠ lx := fun z => by rw [z,hI.at'] at hx0; cases hx0
  have hH0 : H x = none := hx.noneB hx0 (by simpa using hne);have F : ∀ o,LInv T lx s (H₁.put x o)∧Ext [lx] H (H₁.put x o)∧H₁.put x o x = some o := fun o => ⟨hI.put hne,hx.loc hH0,put_self⟩;show EXS _ _ _ _ _ (H₁.put x (tInst T (P.tk0 s.line b s.rest))) _;obtain ⟨hI,hx,ht⟩ := F (tInst T (P.tk0 s.line b s.rest))
  generalize H₁.put x _ = H₂ at hI hx ht ⊢
  have okt : ∀ t' : Tk,t'.st = s.rest→t'.v.length ≤ T.length→((t'.k == .punct) = true→1 ≤ s.rest.length)→TokOk T t' := fun t' e e2 e3 => ⟨by rw [e]; exact hI.suf,e2,by rw [e]; exact e3⟩;have fin : ∀ (t' : Tk) (s' : Lx) (H₃ : MH),t'.st = s.rest→t'.v.length ≤ T.length→((t'.k == .punct) = true→1 ≤ s.rest.length)→LInv T lx s' H₃→Ext [lx] H H₃→H₃ x = some (tInst T t')→RQ (LInv T lx) [lx] X H (.ok (t',s')) Q→Q' (frozen x (tInst T t')) (H₃.drop x) :=
    fun t' s' H₃ e1 e2 e3 hI hx ht h => hq t' s' _ (okt t' e1 e2 e3) (RQ.done h (hI.drop hne) (hx.dropped hH0))
  refine EXS_cons ?_;refine EX_if ?_;refine ET_cmp rfl ?_;refine EV_name rfl ?_;refine EV_int ?_;refine T2_lt_int ?_;refine ⟨_,rfl,?_⟩;refine ite_go (fun hb => ?_) (fun hb => ?_)
  · refine EXS_cons ?_;refine EX_return ?_;refine EV_freeze ?_;refine EV_name rfl ?_;refine ⟨x,_,rfl,ht,?_⟩;exact fin (P.tk0 s.line b s.rest) s H₂ rfl (Nat.zero_le _) (fun z => nomatch z) hI hx ht (RQ.pos h hb)
  have h := RQ.neg h (nf hb);refine EXS_nil ?_;refine EXS_cons ?_;refine EX_if ?_;have setEnd : ∀ (t' : Tk) (s' : Lx) (H₃ : MH),tInst T { t' with en := s'.rest } = .inst 422 (setF ["kind","value","line","is_behind_line","start","end","is_octal","is_plain"] (tokFields T t') "end" (.int (posOf T s'.rest))).1 (setF ["kind","value","line","is_behind_line","start","end","is_octal","is_plain"] (tokFields T t') "end" (.int (posOf T s'.rest))).2 := fun t' s' H₃ => rfl
  apply ET_orP
  · skip
    refine ET_val (fun _ _ => rfl) ?_;refine EV_callg (by kernel_rfl) G_is_id_start (by kernel_rfl) Gk_is_id_start rfl ?_;refine EA_pe (PEs_cons PE_name PEs_nil) ?_;refine CV_of_CL ?_;refine is_id_start_ hb_ hc ?_;refine ⟨_,rfl,?_⟩;exact ⟨rfl,rfl⟩
  · intro _;refine ET_or1 ?_;refine ET_cmp rfl ?_;refine EV_name rfl ?_;refine EV_int ?_;refine T2_eq_int ?_;refine ⟨_,rfl,?_⟩;exact ⟨rfl,rfl⟩
  refine ite_go (fun hb => ?_) (fun hb => ?_)
  · have h := RQ.pos h hb;refine EXS_cons ?_;refine EXx ?_;refine EV_meth _ (fun _ => rfl) ?_;refine EV_name rfl ?_;refine MC_inst hI.at' rfl M_Lexer_read_name rfl ?_;refine EA_pe (PEs_cons PE_name PEs_nil) ?_;refine CV_of_CL ?_;refine read_name_ hb_ hT hI ht hne hb (Q := fun p H' => NInv T lx x p H'∧Ext [lx] H H'∧p.2.st = s.rest∧p.2.v.length ≤ T.length∧((p.2.k == .punct) = true→1 ≤ s.rest.length)∧RQ (LInv T lx) [lx] X H (P.fin ((),p)) Q) ?_ ?_
    · refine RQ.callF h hx (fun a z => ?_) ?_
      · rcases List.mem_cons.mp z with rfl | z
        · exact .inl (.head _)
        · rw [List.mem_singleton.mp z]; exact .inr hH0
      · intro _ p H' e hN hx _ h;obtain ⟨e1,e2,e3⟩ := readName_ok e;exact ⟨hN,hx,e1,Nat.le_trans e2 l2,e3,h⟩
    rintro ⟨s',t'⟩ H₃ ⟨⟨hI,ht⟩,hx,e1,e2,e3,h⟩;refine EXS_nil ?_;refine EXS_cons ?_;refine EX_setattr (fun _ => rfl) ?_;refine EV_attr (fun _ => rfl) ?_;refine EV_name rfl ?_;refine T1_attr hI.at' rfl rfl A_Lexer_at ?_;refine EV_name rfl ?_;refine ⟨_,_,_,_,rfl,ht,S_Token_end,by decide,?_⟩;rw [← setEnd t' s' H₃];refine EXS_cons ?_;refine EX_return ?_;refine EV_freeze ?_;refine EV_name rfl ?_;refine ⟨x,_,rfl,put_self,?_⟩;exact fin { t' with en := s'.rest } s' _ e1 e2 e3 (hI.put hne) (hx.loc hH0) put_self h
  have h := RQ.neg h (nf hb);refine EXS_cons ?_;refine EX_if ?_
  apply ET_orP
  · skip
    refine ET_val (fun _ _ => rfl) ?_;refine EV_callg (by kernel_rfl) G_is_digit (by kernel_rfl) Gk_is_digit rfl ?_;refine EA_pe (PEs_cons PE_name PEs_nil) ?_;refine CV_of_CL ?_;refine is_digit_ hb_ ?_;refine ⟨_,rfl,?_⟩;exact ⟨rfl,rfl⟩
  · intro _;refine ET_or1 ?_
    apply ET_andP
    · skip
      refine ET_cmp rfl ?_;refine EV_name rfl ?_;refine EV_int ?_;refine T2_eq_int ?_;refine ⟨_,rfl,?_⟩;exact ⟨rfl,rfl⟩
    · intro _;refine ET_and1 ?_;refine ET_val (fun _ _ => rfl) ?_;refine EV_callg (by kernel_rfl) G_is_digit (by kernel_rfl) Gk_is_digit rfl ?_;refine EA_cons rfl ?_;refine EV_callg (by kernel_rfl) G_code_at (by kernel_rfl) Gk_code_at rfl ?_;refine EA_cons rfl ?_;refine EV_attr (fun _ => rfl) ?_;refine EV_name rfl ?_;refine T1_attr hI.at' rfl rfl A_Lexer_text ?_;refine EA_cons rfl ?_;refine EV_bin ?_;refine EV_name rfl ?_;refine EV_int ?_;refine T2_add_int ?_;refine EA_nil ?_;refine CV_of_CL ?_;refine code_at_ hb_ hT hI.suf 1 ?_;refine EA_nil ?_;refine CV_of_CL ?_;refine is_digit_ hb_ ?_;refine ⟨_,rfl,?_⟩;exact ⟨rfl,rfl⟩
    exact ⟨rfl,rfl⟩
  refine ite_go (fun hb => ?_) (fun hb => ?_)
  · exact (RQ.pos h hb).elim
  have h := RQ.neg h (nf hb);refine EXS_cons ?_;refine EX_if ?_
  apply ET_orP
  · skip
    refine ET_cmp rfl ?_;refine EV_name rfl ?_;refine EV_int ?_;refine T2_eq_int ?_;refine ⟨_,rfl,?_⟩;exact ⟨rfl,rfl⟩
  · intro _;refine ET_or1 ?_;refine ET_cmp rfl ?_;refine EV_name rfl ?_;refine EV_int ?_;refine T2_eq_int ?_;refine ⟨_,rfl,?_⟩;exact ⟨rfl,rfl⟩
  refine ite_go (fun hb => ?_) (fun hb => ?_)
  · exact (RQ.pos h hb).elim
  have h := RQ.neg h (nf hb);refine EXS_cons ?_;refine EXx ?_;refine EV_meth _ (fun _ => rfl) ?_;refine EV_name rfl ?_;refine MC_inst hI.at' rfl M_Lexer_read_punct rfl ?_;refine EA_pe (PEs_cons PE_name PEs_nil) ?_;refine CV_of_CL ?_;refine read_punct_ hb_ hT hI ht hne (Q := fun p H' => NInv T lx x p H'∧Ext [lx] H H'∧p.2.st = s.rest∧p.2.v.length ≤ T.length∧((p.2.k == .punct) = true→1 ≤ s.rest.length)∧RQ (LInv T lx) [lx] X H (P.fin ((),p)) Q) ?_ ?_
  · refine RQ.callF h hx (fun a z => ?_) ?_
    · rcases List.mem_cons.mp z with rfl | z
      · exact .inl (.head _)
      · rw [List.mem_singleton.mp z]; exact .inr hH0
    · intro _ p H' e hN hx _ h;obtain ⟨e1,e2,e3⟩ := readPunct_ok e;exact ⟨hN,hx,e1,Nat.le_trans e2 l2,e3,h⟩
  rintro ⟨s',t'⟩ H₃ ⟨⟨hI,ht⟩,hx,e1,e2,e3,h⟩;refine EXS_nil ?_;refine EXS_nil ?_;refine EXS_nil ?_;refine EXS_cons ?_;refine EX_setattr (fun _ => rfl) ?_;refine EV_attr (fun _ => rfl) ?_;refine EV_name rfl ?_;refine T1_attr hI.at' rfl rfl A_Lexer_at ?_;refine EV_name rfl ?_;refine ⟨_,_,_,_,rfl,ht,S_Token_end,by decide,?_⟩;rw [← setEnd t' s' H₃];refine EXS_cons ?_;refine EX_return ?_;refine EV_freeze ?_;refine EV_name rfl ?_;refine ⟨x,_,rfl,put_self,?_⟩;exact fin { t' with en := s'.rest } s' _ e1 e2 e3 (hI.put hne) (hx.loc hH0) put_self h
theorem rx_suf : ∀ {n li : Nat} {cls : Bool} {r : List Nat} {p : List Nat × List Nat},P.rxBody n li cls r = .ok p→∃ c,r = p.1 ++ c :: p.2
  | 0,_,_,_,_,h => by cases h
  | n + 1,li,cls,r,p,h => by
    unfold P.rxBody at h;simp only at h
    split at h
    · rename_i h1
      split at h
      · cases h
      · rename_i h2
        cases r with
        | nil => exact absurd h1 (by decide)
        | cons a r => cases r with
          | nil => exact (h2 rfl).elim
          | cons b r =>
            cases q : P.rxBody n li cls ((a :: b :: r).drop 2) with
            | ok p' => rw [q] at h; cases h; obtain ⟨c,e⟩ := rx_suf q; exact ⟨c,by show a :: b :: r = a :: b :: (p'.1 ++ c :: p'.2); rw [← e]; rfl⟩
            | fail _ => rw [q] at h; cases h
            | out => rw [q] at h; cases h
    · split at h
      · rename_i h1
        cases h
        cases r with
        | nil => exact absurd (Bool.and_eq_true_iff.mp h1).1 (by decide)
        | cons a r => exact ⟨a,rfl⟩
      · split at h
        · cases h
        · rename_i h2
          cases r with
          | nil => exact (h2 rfl).elim
          | cons a r =>
            cases q : P.rxBody n li (if (P.code (a :: r) == 91 || P.code (a :: r) == 93) = true then P.code (a :: r) == 91 else cls) ((a :: r).drop 1) with
            | ok p' => rw [q] at h; cases h; obtain ⟨c,e⟩ := rx_suf q; exact ⟨c,by show a :: r = a :: (p'.1 ++ c :: p'.2); rw [← e]; rfl⟩
            | fail _ => rw [q] at h; cases h
            | out => rw [q] at h; cases h
theorem regex_body_ {s : Lx} {k : Nat} (hI : LInv T lx s H) {Q : List Nat→Lx→MH→Prop} (h : RQ (LInv T lx) [lx] X H ((P.rxBody k s.line false s.rest).bind fun p => .ok (p.1,⟨p.2,s.line⟩)) Q) {Q' : V→MH→Prop} (hq : ∀ b s H',Q b s H'→Q' (.str (SS b)) H') : CL (W0 w mb xt) ⟨n + 3,X⟩ l H f_Lexer_regex_body [.ref lx] Q' := by
  have lT := hT.len;have hI0 := hI;refine CL_def F_Lexer_regex_body rfl ?_;refine EXS_cons ?_;refine EX_unpackS (xs := ["start","is_class"]) (fun _ => rfl) (by intros; kernel_rfl) (by decide +kernel) ?_;refine EV_tuple ?_;refine EA_cons rfl ?_;refine EV_attr (fun _ => rfl) ?_;refine EV_name rfl ?_;refine T1_attr hI.at' rfl rfl A_Lexer_at ?_;refine EA_cons rfl ?_;refine EV_bool ?_;refine EA_nil ?_;refine lb ?_;refine ⟨_,rfl,rfl,?_⟩;refine EXS_cons ?_;refine EX_whileA (fun k l H' => ∃ acc r cls,acc ++ r = s.rest∧l = [("self",.ref lx),("start",.int (posOf T s.rest)),("is_class",.bool cls)]∧LInv T lx ⟨r,s.line⟩ H'∧Ext [lx] H H'∧RQ (LInv T lx) [lx] X H ((P.rxBody k s.line cls r).bind fun p => .ok (acc ++ p.1,⟨p.2,s.line⟩)) Q)
    k (LSub_cons rfl (LSub_cons rfl (LSub_cons rfl LSub_nil))) ⟨[],s.rest,false,rfl,rfl,hI,Ext.refl,h⟩ ?_
  rintro Iv up k l H₁ ⟨acc,r,cls,er,rfl,hI,hx,h⟩
  cases k with
  | zero => exact h.elim
  | succ k =>
  refine ET_val (fun _ _ => rfl) ?_;refine EV_bool ?_;refine ⟨_,rfl,?_⟩;refine ite_go (fun _ => ?_) (fun z => nomatch z);refine EXS_cons ?_;refine EXa ?_;refine EV_callg (by kernel_rfl) G_code_at (by kernel_rfl) Gk_code_at rfl ?_;refine EA_cons rfl ?_;refine EV_attr (fun _ => rfl) ?_;refine EV_name rfl ?_;refine T1_attr hI.at' rfl rfl A_Lexer_text ?_;refine EA_cons rfl ?_;refine EV_attr (fun _ => rfl) ?_;refine EV_name rfl ?_;refine T1_attr hI.at' rfl rfl A_Lexer_at ?_;refine EA_nil ?_;refine CV_of_CL ?_;refine code_at0 hb_ hT hI.suf ?_;refine EXS_cons ?_;refine EX_if ?_;refine ET_cmp rfl ?_;refine EV_name rfl ?_;refine EV_int ?_;refine T2_eq_int ?_;refine ⟨_,rfl,?_⟩;refine ite_go (fun hb => ?_) (fun hb => ?_)
  · have h := RQ.posB h hb
    cases r with
    | nil => exact absurd (show (P.code [] == 92) = true from hb) (by decide)
    | cons c r =>
    refine EXS_cons ?_;refine EX_augattr ?_;refine EV_name rfl ?_;refine ⟨_,rfl,?_⟩;refine T1_attr hI.at' rfl rfl A_Lexer_at ?_;refine EV_int ?_;refine T2_iadd_int ?_;refine ⟨_,_,_,hI.at',S_Lexer_at,by decide,?_⟩;obtain ⟨hI,hx,hk⟩ := LInv.atx (s := ⟨c :: r,s.line⟩) (posOf_drop (k := 1) hI.suf (by simp)).symm (suf_drop 1 hI.suf) hx (.head _)
    generalize H₁.put lx _ = H₂ at hI hx hk ⊢
    have hI : LInv T lx ⟨r,s.line⟩ H₂ := hI;refine EXS_cons ?_;refine EXa ?_;refine EV_callg (by kernel_rfl) G_code_at (by kernel_rfl) Gk_code_at rfl ?_;refine EA_cons rfl ?_;refine EV_attr (fun _ => rfl) ?_;refine EV_name rfl ?_;refine T1_attr hI.at' rfl rfl A_Lexer_text ?_;refine EA_cons rfl ?_;refine EV_attr (fun _ => rfl) ?_;refine EV_name rfl ?_;refine T1_attr hI.at' rfl rfl A_Lexer_at ?_;refine EA_nil ?_;refine CV_of_CL ?_;refine code_at0 hb_ hT hI.suf ?_;refine EXS_nil ?_;refine EXS_cons ?_;refine EX_if ?_
    apply ET_orP
    · skip
      refine ET_cmp rfl ?_;refine EV_name rfl ?_;refine EV_int ?_;refine T2_lt_int ?_;refine ⟨_,rfl,?_⟩;exact ⟨rfl,rfl⟩
    · intro _;refine ET_or1 ?_;refine ET_val (fun _ _ => rfl) ?_;refine EV_callg (by kernel_rfl) G_is_line_end (by kernel_rfl) Gk_is_line_end rfl ?_;refine EA_pe (PEs_cons PE_name PEs_nil) ?_;refine CV_of_CL ?_;refine is_line_end_ hb_ ?_;refine ⟨_,rfl,?_⟩;exact ⟨rfl,rfl⟩
    refine ite_go (fun hb2 => ?_) (fun hb2 => ?_)
    · have h := RQ.posB h hb2;refine EXS_cons ?_;refine EXx ?_;refine EV_meth _ (fun _ => rfl) ?_;refine EV_name rfl ?_;refine MC_inst hI.at' rfl M_Lexer_fail rfl ?_;refine EA_pe (PEs_cons (PE_str (c := [97,32,114,101,103,117,108,97,114,32,101,120,112,114,101,115,115,105,111,110,32,104,97,115,32,110,111,32,101,110,100]) (by kernel_rfl)) PEs_nil) ?_;refine CV_of_CL ?_;exact CL_fail (RQ.failed h hx)
    have h := RQ.negB h (nf hb2);refine EXS_nil ?_
    cases r with
    | nil => exact absurd (show (decide (P.code [] < 0) || P.isLineEnd (P.code [])) = false from hb2) (by decide)
    | cons d r =>
    refine EXS_cons ?_;refine EX_augattr ?_;refine EV_name rfl ?_;refine ⟨_,rfl,?_⟩;refine T1_attr hI.at' rfl rfl A_Lexer_at ?_;refine EV_int ?_;refine T2_iadd_int ?_;refine ⟨_,_,_,hI.at',S_Lexer_at,by decide,?_⟩;obtain ⟨hI,hx,hk⟩ := LInv.atx (s := ⟨d :: r,s.line⟩) (posOf_drop (k := 1) hI.suf (by simp)).symm (suf_drop 1 hI.suf) hx (.head _)
    generalize H₂.put lx _ = H₃ at hI hx hk ⊢
    refine EXS_nil ?_;refine ⟨k,_,Nat.lt_succ_self _,LSub_cons rfl (LSub_cons rfl (LSub_cons rfl LSub_nil)),up _ _ _ ⟨acc ++ [c,d],r,cls,by rw [← er]; simp,rfl,hI,hx,?_⟩⟩;have e : ((P.rxBody k s.line cls r).bind fun p => Res.ok (acc ++ [c,d] ++ p.1,(⟨p.2,s.line⟩ : Lx))) = (((P.rxBody k s.line cls ((c :: d :: r).drop 2)).bind fun p => Res.ok ((c :: d :: r).take 2 ++ p.1,p.2)).bind fun p => Res.ok (acc ++ p.1,(⟨p.2,s.line⟩ : Lx))) := by
      show _ = ((P.rxBody k s.line cls r).bind fun p => Res.ok ([c,d] ++ p.1,p.2)).bind _
      cases P.rxBody k s.line cls r with
      | ok p => show Res.ok _ = Res.ok _; rw [List.append_assoc]
      | fail _ => rfl
      | out => rfl
    rw [e]; exact h
  have h := RQ.negB h (nf hb);refine EXS_cons ?_;refine EX_if ?_
  apply ET_andP
  · skip
    refine ET_cmp rfl ?_;refine EV_name rfl ?_;refine EV_int ?_;refine T2_eq_int ?_;refine ⟨_,rfl,?_⟩;exact ⟨rfl,rfl⟩
  · intro _;refine ET_and1 ?_;refine ET_not ?_;refine ET_val (fun _ _ => rfl) ?_;refine EV_name rfl ?_;refine ⟨_,rfl,?_⟩;exact ⟨rfl,rfl⟩
  refine ite_go (fun hb2 => ?_) (fun hb2 => ?_)
  · have h := RQ.posB h hb2;have h1 : 1 ≤ r.length := code_ge fun z => by
      have := (Bool.and_eq_true_iff.mp hb2).1;rw [show P.code (Lx.mk r s.line).rest = -1 from z] at this;exact absurd this (by decide)
    refine EXS_cons ?_;refine EX_augattr ?_;refine EV_name rfl ?_;refine ⟨_,rfl,?_⟩;refine T1_attr hI.at' rfl rfl A_Lexer_at ?_;refine EV_int ?_;refine T2_iadd_int ?_;refine ⟨_,_,_,hI.at',S_Lexer_at,by decide,?_⟩;obtain ⟨hI2,hx,hk⟩ := LInv.atx (s := ⟨r,s.line⟩) (posOf_drop (k := 1) hI.suf h1).symm (suf_drop 1 hI.suf) hx (.head _)
    generalize H₁.put lx _ = H₂ at hI2 hx hk ⊢
    have hsuf := hI.suf;have hI := hI2;have hsz : (SS T).length ≤ sizeLine := by rw [sizeLine_eq]; show T.toArray.size ≤ _; simp; omega
    refine EXS_cons ?_;refine EX_return ?_;refine EV_slice_ss ?_;refine EV_attr (fun _ => rfl) ?_;refine EV_name rfl ?_;refine T1_attr hI.at' rfl rfl A_Lexer_text ?_;refine EV_name rfl ?_;refine EV_bin ?_;refine EV_attr (fun _ => rfl) ?_;refine EV_name rfl ?_;refine T1_attr hI.at' rfl rfl A_Lexer_at ?_;refine EV_int ?_;refine T2_sub_int ?_;refine ⟨_,_,_,rfl,rfl,rfl,hsz,?_⟩;have e1 : posOf T ((Lx.mk r s.line).rest.drop 1) - 1 = posOf T r := by
      rw [posOf_drop (k := 1) hsuf h1]; show posOf T r + 1 - 1 = _; omega
    rw [e1,slice_to hI0.suf er.symm];have := RQ.done h hI hx;rw [List.append_nil] at this;exact hq _ _ _ this
  have h := RQ.negB h (nf hb2);refine EXS_cons ?_;refine EX_if ?_
  apply ET_orP
  · skip
    refine ET_cmp rfl ?_;refine EV_name rfl ?_;refine EV_int ?_;refine T2_eq_int ?_;refine ⟨_,rfl,?_⟩;exact ⟨rfl,rfl⟩
  · intro _;refine ET_or1 ?_;refine ET_cmp rfl ?_;refine EV_name rfl ?_;refine EV_int ?_;refine T2_eq_int ?_;refine ⟨_,rfl,?_⟩;exact ⟨rfl,rfl⟩
  generalize hcl : (if (P.code r == 91 || P.code r == 93) = true then P.code r == 91 else cls) = cls' at h
  have hcl2 : (if (P.code (Lx.mk r s.line).rest == 91 || P.code (Lx.mk r s.line).rest == 93) = true then P.code (Lx.mk r s.line).rest == 91 else cls) = cls' := hcl;refine ite_go (fun hb3 => ?_) (fun hb3 => ?_)
  · rw [if_pos hb3] at hcl2;refine EXS_cons ?_;refine EXa ?_;refine EV_cmp rfl ?_;refine EV_name rfl ?_;refine EV_int ?_;refine T2_eq_int ?_;rw [hcl2];refine EXS_nil ?_;refine EXS_nil ?_;refine EXS_nil ?_;refine EXS_loc (l' := [("self",.ref lx),("start",.int (posOf T s.rest)),("is_class",.bool cls'),("code",.int (P.code r))]) (LSub_cons rfl (LSub_cons rfl (LSub_cons rfl (LSub_cons rfl LSub_nil)))) ?_;refine EXS_cons ?_;refine EX_if ?_
    apply ET_orP
    · skip
      refine ET_cmp rfl ?_;refine EV_name rfl ?_;refine EV_int ?_;refine T2_lt_int ?_;refine ⟨_,rfl,?_⟩;exact ⟨rfl,rfl⟩
    · intro _;refine ET_or1 ?_;refine ET_val (fun _ _ => rfl) ?_;refine EV_callg (by kernel_rfl) G_is_line_end (by kernel_rfl) Gk_is_line_end rfl ?_;refine EA_pe (PEs_cons PE_name PEs_nil) ?_;refine CV_of_CL ?_;refine is_line_end_ hb_ ?_;refine ⟨_,rfl,?_⟩;exact ⟨rfl,rfl⟩
    refine ite_go (fun hb2 => ?_) (fun hb2 => ?_)
    · have h := RQ.posB h hb2;refine EXS_cons ?_;refine EXx ?_;refine EV_meth _ (fun _ => rfl) ?_;refine EV_name rfl ?_;refine MC_inst hI.at' rfl M_Lexer_fail rfl ?_;refine EA_pe (PEs_cons (PE_str (c := [97,32,114,101,103,117,108,97,114,32,101,120,112,114,101,115,115,105,111,110,32,104,97,115,32,110,111,32,101,110,100]) (by kernel_rfl)) PEs_nil) ?_;refine CV_of_CL ?_;exact CL_fail (RQ.failed h hx)
    have h := RQ.negB h (nf hb2);refine EXS_nil ?_
    cases r with
    | nil => exact absurd (show (decide (P.code [] < 0) || P.isLineEnd (P.code [])) = false from hb2) (by decide)
    | cons c r =>
    refine EXS_cons ?_;refine EX_augattr ?_;refine EV_name rfl ?_;refine ⟨_,rfl,?_⟩;refine T1_attr hI.at' rfl rfl A_Lexer_at ?_;refine EV_int ?_;refine T2_iadd_int ?_;refine ⟨_,_,_,hI.at',S_Lexer_at,by decide,?_⟩;obtain ⟨hI,hx,hk⟩ := LInv.atx (s := ⟨c :: r,s.line⟩) (posOf_drop (k := 1) hI.suf (by simp)).symm (suf_drop 1 hI.suf) hx (.head _)
    generalize H₁.put lx _ = H₃ at hI hx hk ⊢
    refine EXS_nil ?_;refine ⟨k,_,Nat.lt_succ_self _,LSub_cons rfl (LSub_cons rfl (LSub_cons rfl LSub_nil)),up _ _ _ ⟨acc ++ [c],r,cls',by rw [← er]; simp,rfl,hI,hx,?_⟩⟩;have e : ((P.rxBody k s.line cls' r).bind fun p => Res.ok (acc ++ [c] ++ p.1,(⟨p.2,s.line⟩ : Lx))) = (((P.rxBody k s.line cls' ((c :: r).drop 1)).bind fun p => Res.ok ((c :: r).take 1 ++ p.1,p.2)).bind fun p => Res.ok (acc ++ p.1,(⟨p.2,s.line⟩ : Lx))) := by
      show _ = ((P.rxBody k s.line cls' r).bind fun p => Res.ok ([c] ++ p.1,p.2)).bind _
      cases P.rxBody k s.line cls' r with
      | ok p => show Res.ok _ = Res.ok _; rw [List.append_assoc]
      | fail _ => rfl
      | out => rfl
    rw [e]; exact h
  · rw [if_neg (nf hb3)] at hcl2;rw [hcl2];refine EXS_nil ?_;refine EXS_nil ?_;refine EXS_nil ?_;refine EXS_loc (l' := [("self",.ref lx),("start",.int (posOf T s.rest)),("is_class",.bool cls'),("code",.int (P.code r))]) (LSub_cons rfl (LSub_cons rfl (LSub_cons rfl (LSub_cons rfl LSub_nil)))) ?_;refine EXS_cons ?_;refine EX_if ?_
    apply ET_orP
    · skip
      refine ET_cmp rfl ?_;refine EV_name rfl ?_;refine EV_int ?_;refine T2_lt_int ?_;refine ⟨_,rfl,?_⟩;exact ⟨rfl,rfl⟩
    · intro _;refine ET_or1 ?_;refine ET_val (fun _ _ => rfl) ?_;refine EV_callg (by kernel_rfl) G_is_line_end (by kernel_rfl) Gk_is_line_end rfl ?_;refine EA_pe (PEs_cons PE_name PEs_nil) ?_;refine CV_of_CL ?_;refine is_line_end_ hb_ ?_;refine ⟨_,rfl,?_⟩;exact ⟨rfl,rfl⟩
    refine ite_go (fun hb2 => ?_) (fun hb2 => ?_)
    · have h := RQ.posB h hb2;refine EXS_cons ?_;refine EXx ?_;refine EV_meth _ (fun _ => rfl) ?_;refine EV_name rfl ?_;refine MC_inst hI.at' rfl M_Lexer_fail rfl ?_;refine EA_pe (PEs_cons (PE_str (c := [97,32,114,101,103,117,108,97,114,32,101,120,112,114,101,115,115,105,111,110,32,104,97,115,32,110,111,32,101,110,100]) (by kernel_rfl)) PEs_nil) ?_;refine CV_of_CL ?_;exact CL_fail (RQ.failed h hx)
    have h := RQ.negB h (nf hb2);refine EXS_nil ?_
    cases r with
    | nil => exact absurd (show (decide (P.code [] < 0) || P.isLineEnd (P.code [])) = false from hb2) (by decide)
    | cons c r =>
    refine EXS_cons ?_;refine EX_augattr ?_;refine EV_name rfl ?_;refine ⟨_,rfl,?_⟩;refine T1_attr hI.at' rfl rfl A_Lexer_at ?_;refine EV_int ?_;refine T2_iadd_int ?_;refine ⟨_,_,_,hI.at',S_Lexer_at,by decide,?_⟩;obtain ⟨hI,hx,hk⟩ := LInv.atx (s := ⟨c :: r,s.line⟩) (posOf_drop (k := 1) hI.suf (by simp)).symm (suf_drop 1 hI.suf) hx (.head _)
    generalize H₁.put lx _ = H₃ at hI hx hk ⊢
    refine EXS_nil ?_;refine ⟨k,_,Nat.lt_succ_self _,LSub_cons rfl (LSub_cons rfl (LSub_cons rfl LSub_nil)),up _ _ _ ⟨acc ++ [c],r,cls',by rw [← er]; simp,rfl,hI,hx,?_⟩⟩;have e : ((P.rxBody k s.line cls' r).bind fun p => Res.ok (acc ++ [c] ++ p.1,(⟨p.2,s.line⟩ : Lx))) = (((P.rxBody k s.line cls' ((c :: r).drop 1)).bind fun p => Res.ok ((c :: r).take 1 ++ p.1,p.2)).bind fun p => Res.ok (acc ++ p.1,(⟨p.2,s.line⟩ : Lx))) := by
      show _ = ((P.rxBody k s.line cls' r).bind fun p => Res.ok ([c] ++ p.1,p.2)).bind _
      cases P.rxBody k s.line cls' r with
      | ok p => show Res.ok _ = Res.ok _; rw [List.append_assoc]
      | fail _ => rfl
      | out => rfl
    rw [e]; exact h
theorem regex_ {s : Lx} {t : Tk} (hI : LInv T lx s H) (hk : TokOk T t) (h1 : 1 ≤ t.st.length) {Q : Tk→Lx→MH→Prop} (h : RQ (LInv T lx) [lx] X H (P.regex s t) Q) {Q' : V→MH→Prop} (hq : ∀ t s H',TokOk T t→t.k = .regex→Q t s H'→Q' (tokV T t) H') : CL (W0 w mb xt) ⟨n + 4,X⟩ l H f_Lexer_regex [.ref lx,tokV T t] Q' := by
  have lT := hT.len;refine CL_def F_Lexer_regex rfl ?_;refine EXS_cons ?_;refine EX_setattr (fun _ => rfl) ?_;refine EV_bin ?_;refine EV_attr (fun _ => rfl) ?_;refine EV_name rfl ?_;refine T1_attrF rfl rfl A_Token_start ?_;refine EV_int ?_;refine T2_add_int ?_;refine EV_name rfl ?_;refine ⟨_,_,_,_,rfl,hI.at',S_Lexer_at,Nat.le_of_ble_eq_true (by kernel_rfl),?_⟩;obtain ⟨hI,hx,_⟩ := LInv.atx (s := s) (posOf_drop (k := 1) hk.st h1).symm (suf_drop 1 hk.st) (Ext.refl (A := [lx]) (H := H)) (.head _)
  generalize H.put lx _ = H₁ at hI hx ⊢
  refine EXS_cons ?_;refine EXa ?_;refine EV_meth _ (fun _ => rfl) ?_;refine EV_name rfl ?_;refine MC_inst hI.at' rfl M_Lexer_regex_body rfl ?_;refine EA_nil ?_;refine CV_of_CL ?_;refine regex_body_ hb_ hT hI (k := t.st.length + 1) (Q := fun b s' H' => LInv T lx s' H'∧Ext [lx] H H'∧b.length ≤ T.length∧RQ (LInv T lx) [lx] X H (P.regexEnd t b s') Q) ?_ ?_
  · refine RQ.call h hx (fun _ z => z) ?_;intro b s' H' e hI hx _ h;refine ⟨hI,hx,?_,h⟩
    cases q : P.rxBody (t.st.length + 1) s.line false (t.st.drop 1) with
    | ok p =>
      rw [q] at e
      cases e
      obtain ⟨c,e⟩ := rx_suf hb_ hT q;have := congrArg List.length e;have l2 := suf_len hk.st;rw [List.length_drop,List.length_append] at this;omega
    | fail _ => rw [q] at e; cases e
    | out => rw [q] at e; cases e
  rintro b s' H₂ ⟨hI,hx,hlen,h⟩;have hI0 := hI;unfold P.regexEnd at h;refine EXS_cons ?_;refine EXa ?_;refine EV_attr (fun _ => rfl) ?_;refine EV_name rfl ?_;refine T1_attr hI.at' rfl rfl A_Lexer_at ?_;refine EXS_cons ?_;refine EX_whileA (fun k l H' => ∃ r,k = r.length∧l = [("self",.ref lx),("token",tokV T t),("body",.str (SS b)),("start",.int (posOf T s'.rest))]∧LInv T lx ⟨r,s'.line⟩ H'∧Ext [lx] H H'∧(P.idPart r).2 = (P.idPart s'.rest).2)
    s'.rest.length (LSub_cons rfl (LSub_cons rfl (LSub_cons rfl (LSub_cons rfl LSub_nil)))) ⟨s'.rest,rfl,rfl,hI,hx,rfl⟩ ?_
  rintro Iv up k l H₃ ⟨r,rfl,rfl,hI,hx,e2⟩;have hc : P.code r < 128 := code_lt hT hI.suf;refine ET_val (fun _ _ => rfl) ?_;refine EV_callg (by kernel_rfl) G_is_id_part (by kernel_rfl) Gk_is_id_part rfl ?_;refine EA_cons rfl ?_;refine EV_callg (by kernel_rfl) G_code_at (by kernel_rfl) Gk_code_at rfl ?_;refine EA_cons rfl ?_;refine EV_attr (fun _ => rfl) ?_;refine EV_name rfl ?_;refine T1_attr hI.at' rfl rfl A_Lexer_text ?_;refine EA_cons rfl ?_;refine EV_attr (fun _ => rfl) ?_;refine EV_name rfl ?_;refine T1_attr hI.at' rfl rfl A_Lexer_at ?_;refine EA_nil ?_;refine CV_of_CL ?_;refine code_at0 hb_ hT hI.suf ?_;refine EA_nil ?_;refine CV_of_CL ?_;refine is_id_part_ hb_ hc ?_;refine ⟨_,rfl,?_⟩;refine ite_go (fun hb => ?_) (fun hb => ?_)
  · cases r with
    | nil => exact absurd (show P.isIdPart (P.code []) = true from hb) (by decide)
    | cons c r =>
    refine EXS_cons ?_;refine EX_augattr ?_;refine EV_name rfl ?_;refine ⟨_,rfl,?_⟩;refine T1_attr hI.at' rfl rfl A_Lexer_at ?_;refine EV_int ?_;refine T2_iadd_int ?_;refine ⟨_,_,_,hI.at',S_Lexer_at,by decide,?_⟩;obtain ⟨hI,hx,_⟩ := LInv.atx (s := ⟨c :: r,s'.line⟩) (posOf_drop (k := 1) hI.suf (by simp)).symm (suf_drop 1 hI.suf) hx (.head _)
    generalize H₃.put lx _ = H₄ at hI hx ⊢
    refine EXS_nil ?_;refine ⟨r.length,_,by simp,LSub.refl,up _ _ _ ⟨r,rfl,rfl,hI,hx,?_⟩⟩;rw [← e2,idPart_cons (show P.isIdPart (c : Int) = true from hb)]
  rw [idPart_stop (show P.isIdPart (P.code r) = false from hb)] at e2;have e2 : r = (P.idPart s'.rest).2 := e2;refine EXS_nil ?_;refine EXS_cons ?_;refine EX_if ?_;refine ET_cmp rfl ?_;refine EV_callg (by kernel_rfl) G_code_at (by kernel_rfl) Gk_code_at rfl ?_;refine EA_cons rfl ?_;refine EV_attr (fun _ => rfl) ?_;refine EV_name rfl ?_;refine T1_attr hI.at' rfl rfl A_Lexer_text ?_;refine EA_cons rfl ?_;refine EV_attr (fun _ => rfl) ?_;refine EV_name rfl ?_;refine T1_attr hI.at' rfl rfl A_Lexer_at ?_;refine EA_nil ?_;refine CV_of_CL ?_;refine code_at0 hb_ hT hI.suf ?_;refine EV_int ?_;refine T2_eq_int ?_;refine ⟨_,rfl,?_⟩;refine ite_go (fun hb => ?_) (fun hb => ?_)
  · rw [← e2] at h;have h := RQ.pos h hb;refine EXS_cons ?_;refine EXx ?_;refine EV_meth _ (fun _ => rfl) ?_;refine EV_name rfl ?_;refine MC_inst hI.at' rfl M_Lexer_fail rfl ?_;refine EA_pe (PEs_cons (PE_str (c := [102,108,97,103,115,32,104,97,118,101,32,97,110,32,101,115,99,97,112,101]) (by kernel_rfl)) PEs_nil) ?_;refine CV_of_CL ?_;exact CL_fail (RQ.failed h hx)
  rw [← e2] at h;have h := RQ.neg h (nf hb);refine EXS_nil ?_;have hsz : (SS T).length ≤ sizeLine := by rw [sizeLine_eq]; show T.toArray.size ≤ _; simp; omega
  refine EXS_cons ?_;refine EXa ?_;refine EV_callg (by kernel_rfl) G_Token (by kernel_rfl) Gk_Token rfl ?_;refine EA_cons rfl ?_;refine EV_strS (c := KD.regex.str) (by kernel_rfl) ?_;refine EA_cons rfl ?_;refine EV_tuple ?_;refine EA_cons rfl ?_;refine EV_name rfl ?_;refine EA_cons rfl ?_;refine EV_slice_ss ?_;refine EV_attr (fun _ => rfl) ?_;refine EV_name rfl ?_;refine T1_attr hI.at' rfl rfl A_Lexer_text ?_;refine EV_name rfl ?_;refine EV_attr (fun _ => rfl) ?_;refine EV_name rfl ?_;refine T1_attr hI.at' rfl rfl A_Lexer_at ?_;refine ⟨_,_,_,rfl,rfl,rfl,hsz,?_⟩;rw [slice_to (a := (P.idPart s'.rest).1) hI0.suf (by rw [e2]; exact (idPart_app _).symm)];refine EA_nil ?_;refine lb ?_;refine EA_cons rfl ?_;refine EV_attr (fun _ => rfl) ?_;refine EV_name rfl ?_;refine T1_attrF rfl rfl A_Token_line ?_;refine EA_cons rfl ?_;refine EV_attr (fun _ => rfl) ?_;refine EV_name rfl ?_;refine T1_attrF rfl rfl A_Token_is_behind_line ?_;refine EA_cons rfl ?_;refine EV_attr (fun _ => rfl) ?_;refine EV_name rfl ?_;refine T1_attrF rfl rfl A_Token_start ?_;refine EA_cons rfl ?_;refine EV_attr (fun _ => rfl) ?_;refine EV_name rfl ?_;refine T1_attr hI.at' rfl rfl A_Lexer_at ?_;refine EA_nil ?_;refine CV_new N_Token fun x hx0 => (Token_ hb_ hT).mono fun r' H' z => ?_;obtain ⟨rfl,rfl⟩ := z;refine ⟨rfl,?_⟩;have hne : x ≠ lx := fun z => by rw [z,hI.at'] at hx0; cases hx0
  have hH0 : H x = none := hx.noneB hx0 (by simpa using hne);show EXS _ _ _ _ _ (H₃.put x (tInst T ⟨.regex,b,(P.idPart s'.rest).1,0,t.line,t.bl,t.st,r,false,true⟩)) _;refine EXS_cons ?_;refine EX_return ?_;refine EV_freeze ?_;refine EV_name rfl ?_;refine ⟨x,_,rfl,put_self,?_⟩;refine hq ⟨.regex,b,(P.idPart s'.rest).1,0,t.line,t.bl,t.st,r,false,true⟩ ⟨r,s'.line⟩ _ ⟨hk.st,hlen,fun z => nomatch z⟩ rfl ?_;exact (RQ.done h ((hI.put hne).drop hne) ((hx.loc hH0).dropped hH0) :)
end
end Mine
end
section
open PySem PySem.W PySem.Calls PyProof.Rows Hd
namespace Mine
theorem T2_item_dct {W : Wd} {d : Dx} {cs : Scope} {l : Loc} {H : MH} {e f : Expr} {ks : List String} {vs : List V} {x : Str} {v : V} {Q : V→MH→Prop} (hp : plainS f = true) (hv : getS ks vs x = some v) (hq : Q v H) :
    T2 W d cs l H (.dct ks vs) (.str x) (subscriptTail e f) Q := by
  refine Box.mk ?_;intro C news ow s Qr E U U' hc ho hs v1 v2 hk;obtain ⟨a,n,Es,rfl,lo,fa,hkeys,hvs⟩ := of_vr_dct v1;obtain ⟨t,rfl⟩ := of_vr_str v2;have e := findS (prog := W.prog) (x := x) hkeys hvs;rw [hv] at e;have hm := mapOf_dct (W := W) (fz_at ho hs fa) hkeys
  cases q : findBy (strKind W.prog W.w).is Es.toArray x with
  | none => rw [q] at e; exact e.elim
  | some U =>
    rw [q] at e;exact tail_any hm.typeIs slot_dict_getitem.lookup (wpAny_getItem_of (strKind_is W.prog W.w x t) hm q (hk v U H news ow _ hs.toks (Le.refl _) rfl e hq)) (subscripted_plain hp)
theorem laterV_plain {T : List Nat} {o : Option Tk} : plainV (laterV T o) = true := by cases o <;> rfl
theorem tokv_of {t : Tk} {k : KD} (h : (t.k == k) = true) (h1 : (k == .number) = false := by rfl) (h2 : (k == .regex) = false := by rfl) : tokVal t = .str (SS t.v) := by
  have e : t.k = k := by simpa using h
  unfold tokVal;rw [e]
  cases k <;> first | rfl | exact absurd h1 (by decide) | exact absurd h2 (by decide)
theorem of_bne {a b : KD} (h : (!(a == b)) = false) : (a == b) = true := by simpa using h
theorem T1_tokv {d : Dx} {cs : Scope} {l : Loc} {H : MH} {w : World} {mb : Str→Option Value} {xt : Led} {T : List Nat} {t : Tk} {Q : V→MH→Prop} (hv : tokVal t = .str (SS t.v)) (hq : Q (.str (SS t.v)) H) :
    T1 (W0 w mb xt) d cs l H (tokV T t) (fun U => getAttr U (Str.ofString "value") true) Q := T1_attrF (v := .str (SS t.v)) (by show some (tokVal t) = _; rw [hv]) rfl A_Token_value hq
noncomputable def pObj (T : List Nat) (js : Js) (ps : PS) : MO := .inst 1203 ["lexer","token","later","is_strict","depth","jumps","pending"] [.ref js.lx,tokV T ps.tok,laterV T ps.later,.bool ps.strict,.int ps.dep,.ref js.jp,pendV js ps.pend]
theorem labsAt.keep {H H' : MH} : ∀ {as : List Addr} {ps : List (List Nat × Bool)},labsAt H as ps→(∀ a∈as,H' a = H a)→labsAt H' as ps
  | [],[],_,_ => trivial
  | a :: as,p :: ps,h,k => ⟨(k a (.head _)).trans h.1,labsAt.keep h.2 fun b hb => k b (.tail _ hb)⟩
  | [],_ :: _,h,_ => h.elim
  | _ :: _,[],h,_ => h.elim
theorem labsAt.ext {H H' : MH} {A : List Addr} : ∀ {as : List Addr} {ps : List (List Nat × Bool)},labsAt H as ps→Ext A H H'→(∀ a∈as,a ∉ A)→labsAt H' as ps
  | [],[],_,_,_ => trivial
  | a :: as,p :: ps,h,k,n => ⟨k _ _ (n a (.head _)) h.1,labsAt.ext h.2 k fun b hb => n b (.tail _ hb)⟩
  | [],_ :: _,h,_,_ => h.elim
  | _ :: _,[],h,_,_ => h.elim
section
variable {T : List Nat} {js : Js} {ps : PS} {H H' : MH}
theorem PInv.keep (h : PInv T js ps H) (k : ∀ a∈js.A,H' a = H a) : PInv T js ps H' :=
  ⟨(k _ (.head _)).trans h.p,⟨(k _ (.tail _ (.head _))).trans h.lx.at',h.lx.suf⟩,(k _ (.tail _ (.tail _ (.head _)))).trans h.jp,(k _ (.tail _ (.tail _ (.tail _ (.head _))))).trans h.ls,h.lb.keep fun a ha => k a (.tail _ (.tail _ (.tail _ (.tail _ ha)))),h.nd,h.tk,h.lt,h.many⟩
theorem PInv.put (h : PInv T js ps H) {a : Addr} {o : MO} (n : a ∉ js.A) : PInv T js ps (H.put a o) := h.keep fun b hb => put_ne fun z => n (by rw [← z]; exact hb)
theorem PInv.drop (h : PInv T js ps H) {a : Addr} (n : a ∉ js.A) : PInv T js ps (H.drop a) := h.keep fun b hb => drop_ne fun z => n (by rw [← z]; exact hb)
theorem labsAt.mem {H : MH} : ∀ {as : List Addr} {ps : List (List Nat × Bool)},labsAt H as ps→∀ a∈as,∃ o,H a = some o
  | a :: as,p :: ps,h,b,hb => by
    rcases List.mem_cons.mp hb with rfl | hb
    · exact ⟨_,h.1⟩
    · exact labsAt.mem h.2 b hb
  | [],_,_,b,hb => by cases hb
  | _ :: _,[],h,_,_ => h.elim
theorem PInv.fresh (h : PInv T js ps H) {a : Addr} (n : H a = none) : a ∉ js.A := fun z => by
  have : ∃ o,H a = some o := by
    rcases List.mem_cons.mp z with rfl | z
    · exact ⟨_,h.p⟩
    rcases List.mem_cons.mp z with rfl | z
    · exact ⟨_,h.lx.at'⟩
    rcases List.mem_cons.mp z with rfl | z
    · exact ⟨_,h.jp⟩
    rcases List.mem_cons.mp z with rfl | z
    · exact ⟨_,h.ls⟩
    exact h.lb.mem a z
  obtain ⟨o,e⟩ := this;rw [n] at e; cases e
theorem nd4 {a b c d : Addr} {r : List Addr} (h : (a :: b :: c :: d :: r).Nodup) : a ≠ b∧a ≠ c∧a ≠ d∧b ≠ c∧b ≠ d∧c ≠ d∧(∀ x∈r,x ≠ a∧x ≠ b∧x ≠ c∧x ≠ d)∧r.Nodup := by
  simp only [List.nodup_cons,List.mem_cons,not_or] at h;obtain ⟨⟨h1,h2,h3,h4⟩,⟨h5,h6,h7⟩,⟨h8,h9⟩,h10,h11⟩ := h;exact ⟨h1,h2,h3,h5,h6,h8,fun x hx => ⟨fun z => h4 (z ▸ hx),fun z => h7 (z ▸ hx),fun z => h9 (z ▸ hx),fun z => h10 (z ▸ hx)⟩,h11⟩
theorem PInv.lexed {s' : Lx} (h : PInv T js ps H) (hl : LInv T js.lx s' H') (x : Ext [js.lx] H H') : PInv T js { ps with lx := s' } H' := by
  obtain ⟨n1,n2,n3,n4,n5,n6,n7,n8⟩ := nd4 h.nd;refine ⟨x _ _ (by simpa using n1) h.p,hl,x _ _ (by simpa using n4.symm) h.jp,x _ _ (by simpa using n5.symm) h.ls,h.lb.ext x fun a ha => by simpa using (n7 a ha).2.1,h.nd,h.tk,h.lt,h.many⟩
theorem PInv.set_p (h : PInv T js ps H) {ps' : PS} (e1 : ps'.lx = ps.lx) (e2 : ps'.labels = ps.labels) (e3 : ps'.loops = ps.loops) (e4 : ps'.switches = ps.switches) (ht : TokOk T ps'.tok) (hl : ∀ t,ps'.later = some t→TokOk T t) : PInv T js ps' (H.put js.p (pObj T js ps')) := by
  obtain ⟨n1,n2,n3,n4,n5,n6,n7,n8⟩ := nd4 h.nd;refine ⟨put_self,by rw [e1]; exact ⟨(put_ne n1.symm).trans h.lx.at',h.lx.suf⟩,by rw [e3,e4]; exact (put_ne n2.symm).trans h.jp,(put_ne n3.symm).trans h.ls,by rw [e2]; exact h.lb.keep fun a ha => put_ne (n7 a ha).1,h.nd,ht,hl,h.many⟩
end
theorem lx_mem {js : Js} : ∀ a∈[js.lx],a∈js.A := fun a z => by rw [List.mem_singleton.mp z]; exact .tail _ (.head _)
section
variable {w : World} {mb : Str→Option Value} {xt : Led} {n : Nat} {X : Nat→MH→Prop} {l : Loc} {H H₀ : MH} (hb_ : ∀ x : Str,x ≠ "__name__"→mb x = bootBuiltins x) {T : List Nat} (hT : TxtOk T) {js : Js} {ps : PS}
include hb_ hT
theorem is_sign_ (hI : PInv T js ps H) {x : List Nat} {Q : V→MH→Prop} (hq : Q (.bool (P.isSign ps x)) H) : CL (W0 w mb xt) ⟨n + 1,X⟩ l H f_TokenTaker_is_sign [.ref js.p,.str (SS x)] Q := by
  refine CL_def F_TokenTaker_is_sign rfl ?_;refine EXS_cons ?_;refine EX_return ?_
  apply EV_bandP
  · refine EV_cmp rfl ?_;refine EV_attr (fun _ => rfl) ?_;refine EV_attr (fun _ => rfl) ?_;refine EV_name rfl ?_;refine T1_attr hI.p rfl rfl A_StmtParser_token ?_;refine T1_attrF rfl rfl A_Token_kind ?_;refine EV_strS (c := KD.punct.str) (by kernel_rfl) ?_;refine T2_eq_k ?_;exact ⟨rfl,rfl⟩
  · intro hb;have hv := tokv_of hb;refine EV_bone ?_;refine EV_cmp rfl ?_;refine EV_attr (fun _ => rfl) ?_;refine EV_attr (fun _ => rfl) ?_;refine EV_name rfl ?_;refine T1_attr hI.p rfl rfl A_StmtParser_token ?_;refine T1_tokv hv ?_;refine EV_name rfl ?_;refine T2_eq_l ?_;exact ⟨rfl,rfl⟩
  exact hq
theorem is_word_ (hI : PInv T js ps H) {x : List Nat} {Q : V→MH→Prop} (hq : Q (.bool (P.isWord ps x)) H) : CL (W0 w mb xt) ⟨n + 1,X⟩ l H f_TokenTaker_is_word [.ref js.p,.str (SS x)] Q := by
  refine CL_def F_TokenTaker_is_word rfl ?_;refine EXS_cons ?_;refine EX_return ?_
  apply EV_bandP
  · refine EV_cmp rfl ?_;refine EV_attr (fun _ => rfl) ?_;refine EV_attr (fun _ => rfl) ?_;refine EV_name rfl ?_;refine T1_attr hI.p rfl rfl A_StmtParser_token ?_;refine T1_attrF rfl rfl A_Token_kind ?_;refine EV_strS (c := KD.keyword.str) (by kernel_rfl) ?_;refine T2_eq_k ?_;exact ⟨rfl,rfl⟩
  · intro hb;have hv := tokv_of hb
    apply EV_bandP
    · refine EV_cmp rfl ?_;refine EV_attr (fun _ => rfl) ?_;refine EV_attr (fun _ => rfl) ?_;refine EV_name rfl ?_;refine T1_attr hI.p rfl rfl A_StmtParser_token ?_;refine T1_tokv hv ?_;refine EV_name rfl ?_;refine T2_eq_l ?_;exact ⟨rfl,rfl⟩
    · intro hb;refine EV_bone ?_;refine EV_attr (fun _ => rfl) ?_;refine EV_attr (fun _ => rfl) ?_;refine EV_name rfl ?_;refine T1_attr hI.p rfl rfl A_StmtParser_token ?_;refine T1_attrF rfl rfl A_Token_is_plain ?_;exact ⟨rfl,rfl⟩
    exact ⟨rfl,rfl⟩
  unfold P.isWord at hq;rw [Bool.and_assoc] at hq;exact hq
theorem take_ (hI : PInv T js ps H) {Q : V→MH→Prop} (h : RQ (PInv T js) js.A X H (P.take ps) fun t _ H' => Q (tokV T t) H') : CL (W0 w mb xt) ⟨n + 6,X⟩ l H f_TokenTaker_take [.ref js.p] Q := by
  refine CL_def F_TokenTaker_take rfl ?_;refine EXS_cons ?_;refine EXa ?_;refine EV_attr (fun _ => rfl) ?_;refine EV_name rfl ?_;refine T1_attr hI.p rfl rfl A_StmtParser_token ?_;unfold P.take at h
  cases hl : ps.later with
  | none =>
    rw [hl] at h;refine EXS_cons ?_;refine EX_if ?_;refine ET_cmp rfl ?_;refine EV_attr (fun _ => rfl) ?_;refine EV_name rfl ?_;refine T1_attr hI.p rfl laterV_plain A_StmtParser_later ?_;refine EV_none ?_;refine T2_is_n (b := true) (by rw [hl]; rfl) ?_;refine ⟨_,rfl,?_⟩;refine ite_go (fun _ => ?_) (fun z => nomatch z);refine EXS_cons ?_;refine EX_setattr (fun _ => rfl) ?_;refine EV_meth _ (fun _ => rfl) ?_;refine EV_attr (fun _ => rfl) ?_;refine EV_name rfl ?_;refine T1_attr hI.p rfl rfl A_StmtParser_lexer ?_;refine MC_inst hI.lx.at' rfl M_Lexer_next rfl ?_;refine EA_nil ?_;refine CV_of_CL ?_;refine next_ hb_ hT hI.lx (Q := fun t s H' => LInv T js.lx s H'∧Ext [js.lx] H H'∧Ext js.A H H'∧RQ (PInv T js) js.A X H (.ok (ps.tok,{ ps with tok := t,lx := s,later := none })) fun t _ H' => Q (tokV T t) H') (RQ.call h Ext.refl lx_mem fun t s H' _ hI hx hx2 h => ⟨hI,hx2,hx,h⟩) ?_;rintro t s H₁ hk ⟨hl1,hx2,hx,h⟩;have hI := hI.lexed hl1 hx2;refine EV_name rfl ?_;refine ⟨_,_,_,_,rfl,hI.p,S_StmtParser_token,Nat.le_of_ble_eq_true (by kernel_rfl),?_⟩;have hI := hI.set_p (ps' := { ps with tok := t,lx := s,later := none }) rfl rfl rfl rfl hk (fun _ z => nomatch z);have hx := hx.own (a := js.p) (o := pObj T js { ps with tok := t,lx := s,later := none }) (.head _);refine EXS_nil ?_;have e : H₁.put js.p (pObj T js { ps with tok := t,lx := s,later := none }) = H₁.put js.p (.inst 1203 (setF ["lexer","token","later","is_strict","depth","jumps","pending"] [.ref js.lx,tokV T ps.tok,laterV T ps.later,.bool ps.strict,.int ps.dep,.ref js.jp,pendV js ps.pend] "token" (tokV T t)).1 (setF ["lexer","token","later","is_strict","depth","jumps","pending"] [.ref js.lx,tokV T ps.tok,laterV T ps.later,.bool ps.strict,.int ps.dep,.ref js.jp,pendV js ps.pend] "token" (tokV T t)).2) := by
      unfold pObj; rw [hl]; rfl
    show EXS _ _ _ _ _ (H₁.put js.p _) _;rw [← e];refine EXS_cons ?_;refine EX_return ?_;refine EV_name rfl ?_;exact (RQ.done h hI hx :)
  | some t =>
    rw [hl] at h;refine EXS_cons ?_;refine EX_if ?_;refine ET_cmp rfl ?_;refine EV_attr (fun _ => rfl) ?_;refine EV_name rfl ?_;refine T1_attr hI.p rfl laterV_plain A_StmtParser_later ?_;refine EV_none ?_;refine T2_is_n (b := false) (by rw [hl]; rfl) ?_;refine ⟨_,rfl,?_⟩;refine ite_go (fun z => nomatch z) (fun _ => ?_);refine EXS_cons ?_;refine EX_setattr (fun _ => rfl) ?_;refine EV_attr (fun _ => rfl) ?_;refine EV_name rfl ?_;refine T1_attr hI.p rfl laterV_plain A_StmtParser_later ?_;refine EV_name rfl ?_;refine ⟨_,_,_,_,rfl,hI.p,S_StmtParser_token,Nat.le_of_ble_eq_true (by kernel_rfl),?_⟩;have hI := hI.set_p (ps' := { ps with tok := t }) rfl rfl rfl rfl (hI.lt t hl) hI.lt;have hx := (Ext.refl (A := js.A) (H := H)).own (a := js.p) (o := pObj T js { ps with tok := t }) (.head _);have e : H.put js.p (pObj T js { ps with tok := t }) = H.put js.p (.inst 1203 (setF ["lexer","token","later","is_strict","depth","jumps","pending"] [.ref js.lx,tokV T ps.tok,laterV T ps.later,.bool ps.strict,.int ps.dep,.ref js.jp,pendV js ps.pend] "token" (laterV T ps.later)).1 (setF ["lexer","token","later","is_strict","depth","jumps","pending"] [.ref js.lx,tokV T ps.tok,laterV T ps.later,.bool ps.strict,.int ps.dep,.ref js.jp,pendV js ps.pend] "token" (laterV T ps.later)).2) := by
      unfold pObj; rw [show laterV T ps.later = tokV T t by rw [hl]; rfl]; rfl
    rw [← e]
    generalize H.put js.p _ = H₁ at hI hx ⊢
    refine EXS_cons ?_;refine EX_setattr (fun _ => rfl) ?_;refine EV_none ?_;refine EV_name rfl ?_;refine ⟨_,_,_,_,rfl,hI.p,S_StmtParser_later,Nat.le_of_ble_eq_true (by kernel_rfl),?_⟩;have hI := hI.set_p (ps' := { ps with tok := t,later := none }) rfl rfl rfl rfl hI.tk (fun _ z => nomatch z);have hx := hx.own (a := js.p) (o := pObj T js { ps with tok := t,later := none }) (.head _);refine EXS_nil ?_;show EXS _ _ _ _ _ (H₁.put js.p (pObj T js { ps with tok := t,later := none })) _;refine EXS_cons ?_;refine EX_return ?_;refine EV_name rfl ?_;exact (RQ.done h hI hx :)
theorem peek_ (hI : PInv T js ps H) {Q : V→MH→Prop} (h : RQ (PInv T js) js.A X H (P.peek ps) fun t _ H' => Q (tokV T t) H') : CL (W0 w mb xt) ⟨n + 6,X⟩ l H f_TokenTaker_peek [.ref js.p] Q := by
  refine CL_def F_TokenTaker_peek rfl ?_;unfold P.peek at h
  cases hl : ps.later with
  | none =>
    rw [hl] at h;refine EXS_cons ?_;refine EX_if ?_;refine ET_cmp rfl ?_;refine EV_attr (fun _ => rfl) ?_;refine EV_name rfl ?_;refine T1_attr hI.p rfl laterV_plain A_StmtParser_later ?_;refine EV_none ?_;refine T2_is_n (b := true) (by rw [hl]; rfl) ?_;refine ⟨_,rfl,?_⟩;refine ite_go (fun _ => ?_) (fun z => nomatch z);refine EXS_cons ?_;refine EX_setattr (fun _ => rfl) ?_;refine EV_meth _ (fun _ => rfl) ?_;refine EV_attr (fun _ => rfl) ?_;refine EV_name rfl ?_;refine T1_attr hI.p rfl rfl A_StmtParser_lexer ?_;refine MC_inst hI.lx.at' rfl M_Lexer_next rfl ?_;refine EA_nil ?_;refine CV_of_CL ?_;refine next_ hb_ hT hI.lx (Q := fun t s H' => LInv T js.lx s H'∧Ext [js.lx] H H'∧Ext js.A H H'∧RQ (PInv T js) js.A X H (.ok (t,{ ps with lx := s,later := some t })) fun t _ H' => Q (tokV T t) H') (RQ.call h Ext.refl lx_mem fun t s H' _ hI hx hx2 h => ⟨hI,hx2,hx,h⟩) ?_;rintro t s H₁ hk ⟨hl1,hx2,hx,h⟩;have hI := hI.lexed hl1 hx2;refine EV_name rfl ?_;refine ⟨_,_,_,_,rfl,hI.p,S_StmtParser_later,Nat.le_of_ble_eq_true (by kernel_rfl),?_⟩;have hI := hI.set_p (ps' := { ps with lx := s,later := some t }) rfl rfl rfl rfl hI.tk (fun _ z => by cases z; exact hk);have hx := hx.own (a := js.p) (o := pObj T js { ps with lx := s,later := some t }) (.head _);refine EXS_nil ?_;show EXS _ _ _ _ _ (H₁.put js.p (pObj T js { ps with lx := s,later := some t })) _;refine EXS_cons ?_;refine EX_return ?_;refine EV_attr (fun _ => rfl) ?_;refine EV_name rfl ?_;refine T1_attr hI.p rfl laterV_plain A_StmtParser_later ?_;exact (RQ.done h hI hx :)
  | some t =>
    rw [hl] at h;refine EXS_cons ?_;refine EX_if ?_;refine ET_cmp rfl ?_;refine EV_attr (fun _ => rfl) ?_;refine EV_name rfl ?_;refine T1_attr hI.p rfl laterV_plain A_StmtParser_later ?_;refine EV_none ?_;refine T2_is_n (b := false) (by rw [hl]; rfl) ?_;refine ⟨_,rfl,?_⟩;refine ite_go (fun z => nomatch z) (fun _ => ?_);refine EXS_nil ?_;refine EXS_cons ?_;refine EX_return ?_;refine EV_attr (fun _ => rfl) ?_;refine EV_name rfl ?_;refine T1_attr hI.p rfl laterV_plain A_StmtParser_later ?_;rw [hl];have h : RQ (PInv T js) js.A X H (.ok (t,ps)) fun t _ H' => Q (tokV T t) H' := h;exact (RQ.done h hI Ext.refl :)
theorem eat_ (hI : PInv T js ps H) {x : List Nat} {Q : V→MH→Prop} (h : RQ (PInv T js) js.A X H (P.eat x ps) fun b _ H' => Q (.bool b) H') : CL (W0 w mb xt) ⟨n + 7,X⟩ l H f_TokenTaker_eat [.ref js.p,.str (SS x)] Q := by
  refine CL_def F_TokenTaker_eat rfl ?_;unfold P.eat at h;refine EXS_cons ?_;refine EX_if ?_;refine ET_not ?_;refine ET_val (fun _ _ => rfl) ?_;refine EV_meth _ (fun _ => rfl) ?_;refine EV_name rfl ?_;refine MC_inst hI.p rfl M_StmtParser_is_sign rfl ?_;refine EA_pe (PEs_cons PE_name PEs_nil) ?_;refine CV_of_CL ?_;refine is_sign_ hb_ hT hI ?_;refine ⟨_,rfl,?_⟩;refine ite_go (fun hb => ?_) (fun hb => ?_)
  · have h := RQ.neg h (nf (by simpa using hb));refine EXS_cons ?_;refine EX_return ?_;refine EV_bool ?_;exact (RQ.done h hI Ext.refl :)
  · have h := RQ.pos h (by simpa using hb);refine EXS_nil ?_;refine EXS_cons ?_;refine EXx ?_;refine EV_meth _ (fun _ => rfl) ?_;refine EV_name rfl ?_;refine MC_inst hI.p rfl M_StmtParser_take rfl ?_;refine EA_nil ?_;refine CV_of_CL ?_;refine take_ hb_ hT hI (RQ.call h Ext.refl (fun _ z => z) fun t ps₁ H₁ e hI hx hx2 h => ?_);refine EXS_cons ?_;refine EX_return ?_;refine EV_bool ?_;exact (RQ.done h hI hx :)
theorem need_ (hI : PInv T js ps H) {x : List Nat} {Q : V→MH→Prop} (h : RQ (PInv T js) js.A X H (P.need x ps) fun _ _ H' => Q .none H') : CL (W0 w mb xt) ⟨n + 8,X⟩ l H f_TokenTaker_need [.ref js.p,.str (SS x)] Q := by
  refine CL_def F_TokenTaker_need rfl ?_;refine EXS_cons ?_;refine EX_if ?_;refine ET_not ?_;refine ET_val (fun _ _ => rfl) ?_;refine EV_meth _ (fun _ => rfl) ?_;refine EV_name rfl ?_;refine MC_inst hI.p rfl M_StmtParser_eat rfl ?_;refine EA_pe (PEs_cons PE_name PEs_nil) ?_;refine CV_of_CL ?_;refine eat_ hb_ hT hI (RQ.call h Ext.refl (fun _ z => z) fun b ps₁ H₁ e hI hx hx2 h => ?_);refine ⟨_,rfl,?_⟩
  cases b with
  | true =>
    refine ite_go (fun z => nomatch z) (fun _ => ?_);refine EXS_nil ?_;refine EXS_nil ?_;exact (RQ.done h hI hx :)
  | false =>
    refine ite_go (fun _ => ?_) (fun z => nomatch z);refine EXS_cons ?_;refine EXx ?_;refine EV_meth _ (fun _ => rfl) ?_;refine EV_name rfl ?_;refine MC_inst hI.p rfl M_StmtParser_unexpected rfl ?_;refine EA_nil ?_;refine CV_of_CL ?_;exact CL_fail (RQ.failed (show RQ (PInv T js) js.A X H (.fail ps₁.tok.line) _ from h) hx)
theorem name_fault_ {x : List Nat} {st : Bool} (hx : x.length < 60000) {Q : V→MH→Prop} (h1 : P.nameFault x st = false→Q .none H) (h2 : P.nameFault x st = true→∀ m,Q (.str m) H) : CL (W0 w mb xt) ⟨n + 1,X⟩ l H f_name_fault [.str (SS x),.bool st] Q := by
  refine CL_def F_name_fault rfl ?_;refine EXS_cons ?_;refine EX_if ?_
  apply ET_andP
  · skip
    refine ET_val (fun _ _ => rfl) ?_;refine EV_name rfl ?_;refine ⟨_,rfl,?_⟩;exact ⟨rfl,rfl⟩
  · intro _;refine ET_and1 ?_;refine ET_cmp rfl ?_;refine EV_name rfl ?_;refine EV_glob (by kernel_rfl) G_STRICT_WORDS (by kernel_rfl) V_STRICT_WORDS ?_;refine T2_in_tl ?_;refine ⟨_,rfl,?_⟩;exact ⟨rfl,rfl⟩
  refine ite_go (fun hb => ?_) (fun hb => ?_)
  · have hsz : (SS [114,101,115,101,114,118,101,100,32,119,111,114,100,32]).length + (SS x).length < 1000000 := by
      rw [show (SS x).length = x.length from by show x.toArray.size = _; simp];show 14 + x.length < _; omega
    refine EXS_cons ?_;refine EX_return ?_;refine EV_bin ?_;refine EV_strS (c := [114,101,115,101,114,118,101,100,32,119,111,114,100,32]) (by kernel_rfl) ?_;refine EV_name rfl ?_;refine T2_add_str hsz ?_;exact h2 hb _
  · refine EXS_nil ?_;refine EXS_cons ?_;refine EX_return ?_;refine EV_none ?_;exact h1 hb
theorem binding_fault_ {x : List Nat} {st : Bool} (hx : x.length < 60000) {Q : V→MH→Prop} (h1 : P.bindFault x st = false→Q .none H) (h2 : P.bindFault x st = true→∀ m,Q (.str m) H) : CL (W0 w mb xt) ⟨n + 2,X⟩ l H f_binding_fault [.str (SS x),.bool st] Q := by
  refine CL_def F_binding_fault rfl ?_;refine EXS_cons ?_;refine EX_if ?_
  apply ET_andP
  · skip
    refine ET_val (fun _ _ => rfl) ?_;refine EV_name rfl ?_;refine ⟨_,rfl,?_⟩;exact ⟨rfl,rfl⟩
  · intro _;refine ET_and1 ?_;refine ET_cmp rfl ?_;refine EV_name rfl ?_;refine EV_glob (by kernel_rfl) G_RESTRICTED (by kernel_rfl) V_RESTRICTED ?_;refine T2_in_tl ?_;refine ⟨_,rfl,?_⟩;exact ⟨rfl,rfl⟩
  refine ite_go (fun hb => ?_) (fun hb => ?_)
  · have hsz : (SS x).length + (SS [32,99,97,110,32,110,111,116,32,98,101,32,98,111,117,110,100,32,105,110,32,115,116,114,105,99,116,32,99,111,100,101]).length < 1000000 := by
      rw [show (SS x).length = x.length from by show x.toArray.size = _; simp];show x.length + 32 < _; omega
    refine EXS_cons ?_;refine EX_return ?_;refine EV_bin ?_;refine EV_name rfl ?_;refine EV_strS (c := [32,99,97,110,32,110,111,116,32,98,101,32,98,111,117,110,100,32,105,110,32,115,116,114,105,99,116,32,99,111,100,101]) (by kernel_rfl) ?_;refine T2_add_str hsz ?_;exact h2 (by unfold P.bindFault; rw [hb]; rfl) _
  · refine EXS_nil ?_;refine EXS_cons ?_;refine EX_return ?_;refine EV_callg (by kernel_rfl) G_name_fault (by kernel_rfl) Gk_name_fault rfl ?_;refine EA_pe (PEs_cons PE_name (PEs_cons PE_name PEs_nil)) ?_;refine CV_of_CL ?_;refine name_fault_ hb_ hT hx (fun hb2 => ?_) (fun hb2 m => ?_)
    · exact h1 (by unfold P.bindFault; rw [hb,hb2]; rfl)
    · exact h2 (by unfold P.bindFault; rw [hb,hb2]; rfl) _
theorem fail_for_none {Q : V→MH→Prop} (hq : Q .none H) : CL (W0 w mb xt) ⟨n + 1,X⟩ l H f_TokenTaker_fail_for [.ref js.p,.none] Q := by
  refine CL_def F_TokenTaker_fail_for rfl ?_;refine EXS_cons ?_;refine EX_if ?_;refine ET_cmp rfl ?_;refine EV_name rfl ?_;refine EV_none ?_;refine T2_isnot_n rfl ?_;refine ⟨_,rfl,?_⟩;refine ite_go (fun z => nomatch z) (fun _ => ?_);refine EXS_nil ?_;refine EXS_nil ?_;exact hq
theorem take_tok {ps ps' : PS} {t : Tk} (e : P.take ps = .ok (t,ps')) : t = ps.tok := by
  unfold P.take at e
  cases hl : ps.later with
  | none =>
    rw [hl] at e
    cases q : P.next ps.lx with
    | ok p => rw [q] at e; cases e; rfl
    | fail _ => rw [q] at e; cases e
    | out => rw [q] at e; cases e
  | some t => rw [hl] at e; cases e; rfl
theorem need_name_ (hI : PInv T js ps H) {Q : V→MH→Prop} (h : RQ (PInv T js) js.A X H (P.needName ps) fun x _ H' => x.length < 60000→Q (.str (SS x)) H') : CL (W0 w mb xt) ⟨n + 8,X⟩ l H f_TokenTaker_need_name [.ref js.p] Q := by
  refine CL_def F_TokenTaker_need_name rfl ?_;unfold P.needName at h;have hlen : ps.tok.v.length < 60000 := Nat.lt_of_le_of_lt hI.tk.len hT.len;refine EXS_cons ?_;refine EX_if ?_;refine ET_cmp rfl ?_;refine EV_attr (fun _ => rfl) ?_;refine EV_attr (fun _ => rfl) ?_;refine EV_name rfl ?_;refine T1_attr hI.p rfl rfl A_StmtParser_token ?_;refine T1_attrF rfl rfl A_Token_kind ?_;refine EV_strS (c := KD.name.str) (by kernel_rfl) ?_;refine T2_ne_k ?_;refine ⟨_,rfl,?_⟩;refine ite_go (fun hb => ?_) (fun hb => ?_)
  · have h := RQ.neg h (nf (by simpa using hb));refine EXS_cons ?_;refine EXx ?_;refine EV_meth _ (fun _ => rfl) ?_;refine EV_name rfl ?_;refine MC_inst hI.p rfl M_StmtParser_unexpected rfl ?_;refine EA_nil ?_;refine CV_of_CL ?_;exact CL_fail (RQ.failed (show RQ (PInv T js) js.A X H (.fail ps.tok.line) _ from h) Ext.refl)
  have hv := tokv_of (of_bne hb);have h := RQ.pos h (of_bne hb);refine EXS_nil ?_;refine EXS_cons ?_;refine EXx ?_;refine EV_meth _ (fun _ => rfl) ?_;refine EV_name rfl ?_;refine MC_inst hI.p rfl M_StmtParser_fail_for rfl ?_;refine EA_cons rfl ?_;refine EV_callg (by kernel_rfl) G_name_fault (by kernel_rfl) Gk_name_fault rfl ?_;refine EA_cons rfl ?_;refine EV_attr (fun _ => rfl) ?_;refine EV_attr (fun _ => rfl) ?_;refine EV_name rfl ?_;refine T1_attr hI.p rfl rfl A_StmtParser_token ?_;refine T1_tokv hv ?_;refine EA_cons rfl ?_;refine EV_attr (fun _ => rfl) ?_;refine EV_name rfl ?_;refine T1_attr hI.p rfl rfl A_StmtParser_is_strict ?_;refine EA_nil ?_;refine CV_of_CL ?_;refine name_fault_ hb_ hT hlen (fun hb2 => ?_) (fun hb2 m => ?_)
  · refine EA_nil ?_;refine CV_of_CL ?_;refine fail_for_none hb_ hT ?_;have h := RQ.neg h (nf hb2);refine EXS_cons ?_;refine EX_return ?_;refine EV_attr (fun _ => rfl) ?_;refine EV_meth _ (fun _ => rfl) ?_;refine EV_name rfl ?_;refine MC_inst hI.p rfl M_StmtParser_take rfl ?_;refine EA_nil ?_;refine CV_of_CL ?_;refine take_ hb_ hT hI (RQ.call h Ext.refl (fun _ z => z) fun t ps₁ H₁ e hI hx hx2 h => ?_);obtain rfl := take_tok hb_ hT e;refine T1_tokv hv ?_;exact (RQ.done h hI hx hlen :)
  · refine EA_nil ?_;refine CV_of_CL ?_;have h := RQ.pos h hb2;exact CL_fail (RQ.failed (show RQ (PInv T js) js.A X H (.fail ps.tok.line) _ from h) Ext.refl)
theorem need_binding_ (hI : PInv T js ps H) {Q : V→MH→Prop} (h : RQ (PInv T js) js.A X H (P.needBinding ps) fun x _ H' => x.length < 60000→Q (.str (SS x)) H') : CL (W0 w mb xt) ⟨n + 8,X⟩ l H f_TokenTaker_need_binding [.ref js.p] Q := by
  refine CL_def F_TokenTaker_need_binding rfl ?_;unfold P.needBinding at h;have hlen : ps.tok.v.length < 60000 := Nat.lt_of_le_of_lt hI.tk.len hT.len;refine EXS_cons ?_;refine EX_if ?_;refine ET_cmp rfl ?_;refine EV_attr (fun _ => rfl) ?_;refine EV_attr (fun _ => rfl) ?_;refine EV_name rfl ?_;refine T1_attr hI.p rfl rfl A_StmtParser_token ?_;refine T1_attrF rfl rfl A_Token_kind ?_;refine EV_strS (c := KD.name.str) (by kernel_rfl) ?_;refine T2_ne_k ?_;refine ⟨_,rfl,?_⟩;refine ite_go (fun hb => ?_) (fun hb => ?_)
  · have h := RQ.neg h (nf (by simpa using hb));refine EXS_cons ?_;refine EXx ?_;refine EV_meth _ (fun _ => rfl) ?_;refine EV_name rfl ?_;refine MC_inst hI.p rfl M_StmtParser_unexpected rfl ?_;refine EA_nil ?_;refine CV_of_CL ?_;exact CL_fail (RQ.failed (show RQ (PInv T js) js.A X H (.fail ps.tok.line) _ from h) Ext.refl)
  have hv := tokv_of (of_bne hb);have h := RQ.pos h (of_bne hb);refine EXS_nil ?_;refine EXS_cons ?_;refine EXx ?_;refine EV_meth _ (fun _ => rfl) ?_;refine EV_name rfl ?_;refine MC_inst hI.p rfl M_StmtParser_fail_for rfl ?_;refine EA_cons rfl ?_;refine EV_callg (by kernel_rfl) G_binding_fault (by kernel_rfl) Gk_binding_fault rfl ?_;refine EA_cons rfl ?_;refine EV_attr (fun _ => rfl) ?_;refine EV_attr (fun _ => rfl) ?_;refine EV_name rfl ?_;refine T1_attr hI.p rfl rfl A_StmtParser_token ?_;refine T1_tokv hv ?_;refine EA_cons rfl ?_;refine EV_attr (fun _ => rfl) ?_;refine EV_name rfl ?_;refine T1_attr hI.p rfl rfl A_StmtParser_is_strict ?_;refine EA_nil ?_;refine CV_of_CL ?_;refine binding_fault_ hb_ hT hlen (fun hb2 => ?_) (fun hb2 m => ?_)
  · refine EA_nil ?_;refine CV_of_CL ?_;refine fail_for_none hb_ hT ?_;have h := RQ.neg h (nf hb2);refine EXS_cons ?_;refine EX_return ?_;refine EV_attr (fun _ => rfl) ?_;refine EV_meth _ (fun _ => rfl) ?_;refine EV_name rfl ?_;refine MC_inst hI.p rfl M_StmtParser_take rfl ?_;refine EA_nil ?_;refine CV_of_CL ?_;refine take_ hb_ hT hI (RQ.call h Ext.refl (fun _ z => z) fun t ps₁ H₁ e hI hx hx2 h => ?_);obtain rfl := take_tok hb_ hT e;refine T1_tokv hv ?_;exact (RQ.done h hI hx hlen :)
  · refine EA_nil ?_;refine CV_of_CL ?_;have h := RQ.pos h hb2;exact CL_fail (RQ.failed (show RQ (PInv T js) js.A X H (.fail ps.tok.line) _ from h) Ext.refl)
theorem can_end_ (hI : PInv T js ps H) {Q : V→MH→Prop} (hq : Q (.bool (P.canEnd ps)) H) : CL (W0 w mb xt) ⟨n + 2,X⟩ l H f_TokenTaker_can_end [.ref js.p] Q := by
  refine CL_def F_TokenTaker_can_end rfl ?_;refine EXS_cons ?_;refine EX_return ?_
  apply EV_borP
  · refine EV_meth _ (fun _ => rfl) ?_;refine EV_name rfl ?_;refine MC_inst hI.p rfl M_StmtParser_is_sign rfl ?_;refine EA_pe (PEs_cons (PE_str (c := [59]) (by kernel_rfl)) PEs_nil) ?_;refine CV_of_CL ?_;refine is_sign_ hb_ hT hI ?_;exact ⟨rfl,rfl⟩
  · intro hb
    apply EV_borP
    · refine EV_meth _ (fun _ => rfl) ?_;refine EV_name rfl ?_;refine MC_inst hI.p rfl M_StmtParser_is_sign rfl ?_;refine EA_pe (PEs_cons (PE_str (c := [125]) (by kernel_rfl)) PEs_nil) ?_;refine CV_of_CL ?_;refine is_sign_ hb_ hT hI ?_;exact ⟨rfl,rfl⟩
    · intro hb
      apply EV_borP
      · refine EV_cmp rfl ?_;refine EV_attr (fun _ => rfl) ?_;refine EV_attr (fun _ => rfl) ?_;refine EV_name rfl ?_;refine T1_attr hI.p rfl rfl A_StmtParser_token ?_;refine T1_attrF rfl rfl A_Token_kind ?_;refine EV_strS (c := KD.end_.str) (by kernel_rfl) ?_;refine T2_eq_k ?_;exact ⟨rfl,rfl⟩
      · intro hb;refine EV_bone ?_;refine EV_attr (fun _ => rfl) ?_;refine EV_attr (fun _ => rfl) ?_;refine EV_name rfl ?_;refine T1_attr hI.p rfl rfl A_StmtParser_token ?_;refine T1_attrF rfl rfl A_Token_is_behind_line ?_;exact ⟨rfl,rfl⟩
      exact ⟨rfl,rfl⟩
    exact ⟨rfl,rfl⟩
  unfold P.canEnd at hq;rw [Bool.or_assoc,Bool.or_assoc] at hq;exact hq
theorem end_statement_ (hI : PInv T js ps H) {Q : V→MH→Prop} (h : RQ (PInv T js) js.A X H (P.endStatement ps) fun _ _ H' => Q .none H') : CL (W0 w mb xt) ⟨n + 8,X⟩ l H f_TokenTaker_end_statement [.ref js.p] Q := by
  refine CL_def F_TokenTaker_end_statement rfl ?_;unfold P.endStatement at h;refine EXS_cons ?_;refine EX_if ?_;refine ET_and ?_;refine ET_not ?_;refine ET_val (fun _ _ => rfl) ?_;refine EV_meth _ (fun _ => rfl) ?_;refine EV_name rfl ?_;refine MC_inst hI.p rfl M_StmtParser_eat rfl ?_;refine EA_pe (PEs_cons (PE_str (c := [59]) (by kernel_rfl)) PEs_nil) ?_;refine CV_of_CL ?_;refine eat_ hb_ hT hI (RQ.call h Ext.refl (fun _ z => z) fun b ps₁ H₁ e hI hx hx2 h => ?_);refine ⟨_,rfl,?_⟩
  cases b with
  | true =>
    refine ite_go (fun z => nomatch z) (fun _ => ?_);refine ite_go (fun z => nomatch z) (fun _ => ?_);refine EXS_nil ?_;refine EXS_nil ?_;exact (RQ.done h hI hx :)
  | false =>
    refine ite_go (fun _ => ?_) (fun z => nomatch z);refine ET_and1 ?_;refine ET_not ?_;refine ET_val (fun _ _ => rfl) ?_;refine EV_meth _ (fun _ => rfl) ?_;refine EV_name rfl ?_;refine MC_inst hI.p rfl M_StmtParser_can_end rfl ?_;refine EA_nil ?_;refine CV_of_CL ?_;refine can_end_ hb_ hT hI ?_;refine ⟨_,rfl,?_⟩;refine ite_go (fun hb => ?_) (fun hb => ?_)
    · have h := RQ.neg h (nf (by simpa using hb));refine EXS_cons ?_;refine EXx ?_;refine EV_meth _ (fun _ => rfl) ?_;refine EV_name rfl ?_;refine MC_inst hI.p rfl M_StmtParser_unexpected rfl ?_;refine EA_nil ?_;refine CV_of_CL ?_;exact CL_fail (RQ.failed (show RQ (PInv T js) js.A X H (.fail ps₁.tok.line) _ from h) hx)
    · have h := RQ.pos h (by simpa using hb);refine EXS_nil ?_;refine EXS_nil ?_;exact (RQ.done h hI hx :)
end
end Mine
end
section
open PySem PySem.W PySem.Calls PyProof.Rows Hd
namespace Mine
theorem EA.mono {W : Wd} {d : Dx} {cs : Scope} {l : Loc} {H : MH} {es : List Expr} {Q Q' : List V→MH→Prop} (h : EA W d cs es l H Q) (k : ∀ v H',Q v H'→Q' v H') : EA W d cs es l H Q' :=
  Box.mk fun C news ow s Qr E pos hc ho hs hk => h.go C news ow s Qr E pos hc ho hs fun v U H' n' o' s' a b c dd q => hk v U H' n' o' s' a b c dd (k v H' q)
noncomputable def NodeOk (t : T) : Prop := ∃ k ln ps,t = .node k ln ps∧(k = [78,97,109,101]→∃ x,ps = [T.str x]∧x.length < 60000)
noncomputable def nodeLike : P.Call→Bool
  | .arguments => false
  | .block => false
  | .variables _ => false
  | .body => false
  | _ => true
noncomputable def fnAddr : P.Call→Addr
  | .expression _ => 862
  | .assignment _ => 869
  | .conditional _ => 883
  | .binary _ _ => 897
  | .unary => 904
  | .postf => 911
  | .leftHand => 918
  | .withMembers _ => 925
  | .arguments => 939
  | .primary => 946
  | .wordOperand => 953
  | .array => 960
  | .body => 986
  | .element => 1000
  | .statement => 1007
  | .plainExpr => 1014
  | .wordStatement _ _ => 1021
  | .large _ _ => 1137
  | .block => 1035
  | .variables _ => 1042
  | .labelled _ => 1049
  | .leaving _ => 1063
  | .condition => 1144
  | .choice => 1151
  | .loop _ _ => 1158
  | .loopBody => 1165
noncomputable def argsV (js : Js) (ps : PS) : P.Call→List V
  | .expression i => [.ref js.p,.bool i]
  | .assignment i => [.ref js.p,.bool i]
  | .conditional i => [.ref js.p,.bool i]
  | .binary k i => [.ref js.p,.int k,.bool i]
  | .withMembers t => [.ref js.p,toV t]
  | .body => [.ref js.p,.bool true]
  | .wordStatement x k => [.ref js.p,.str (SS x),pendV js k]
  | .large x k => [.ref js.p,.str (SS x),.int ps.tok.line,pendV js k]
  | .variables i => [.ref js.p,.bool i]
  | .labelled k => [.ref js.p,pendV js k]
  | .leaving x => [.ref js.p,.str (SS x),.int ps.tok.line]
  | .choice => [.ref js.p,.int ps.tok.line]
  | .loop x k => [.ref js.p,.str (SS x),.int ps.tok.line,pendV js k]
  | _ => [.ref js.p]
noncomputable def wfCall (js : Js) : P.Call→Prop
  | .withMembers t => NodeOk t
  | .binary k _ => 1 ≤ k
  | _ => True
noncomputable def SPEC (w : World) (mb : Str→Option Value) (xt : Led) (T : List Nat) (n : Nat) : Prop :=
  ∀ (c : P.Call) (js : Js) (ps : PS) (H : MH) (l : Loc) (X : Nat→MH→Prop) (Q : V→MH→Prop),wfCall js c→PInv T js ps H →
    RQ (PInv T js) js.A X H (P.run n c ps) (fun t _ H' => (nodeLike c = true→NodeOk t)→Q (toV t) H')→CL (W0 w mb xt) ⟨n + 12,X⟩ l H (fnAddr c) (argsV js ps c) Q
theorem or_not {a b : Bool} (h : (!a || !b) = true) : (a && b) = false := by cases a <;> cases b <;> simp at h ⊢
theorem or_not' {a b : Bool} (h : (!a || !b) = false) : (a && b) = true := by cases a <;> cases b <;> simp at h ⊢
theorem not_name {k : List Nat} {ps : List T} (h : (k == [78,97,109,101]) = false) : k = [78,97,109,101]→∃ x,ps = [T.str x]∧x.length < 60000 := fun e => by rw [e] at h; exact absurd h (by decide)
section
variable {w : World} {mb : Str→Option Value} {xt : Led} {n : Nat} {X : Nat→MH→Prop} {l : Loc} {H H₀ : MH} (hb_ : ∀ x : Str,x ≠ "__name__"→mb x = bootBuiltins x) {T : List Nat} (hT : TxtOk T) {js : Js} {ps : PS}
include hb_ hT
theorem EV_Node {cs : Scope} {np pos : Pos} {es : List Expr} {Q : V→MH→Prop} (hl : cs.names.lookup (Str.ofString "Node") = some .globalImplicit) (hp : es.all plainE = true)
    (h : EA (W0 w mb xt) ⟨n + 1,X⟩ cs es l H fun vs H₁ => ∃ k li ps,vs = [k,li,ps]∧Q (.obj 31 ["kind","line","parts","scope"] [k,li,ps,.none]) H₁) : EV (W0 w mb xt) ⟨n + 1,X⟩ cs (.Call (.Name (Str.ofString "Node") np) es [] pos) l H Q := by
  refine EV_freeze ?_;refine EV_callg hl G_Node (by kernel_rfl) Gk_Node hp ?_;refine EA.mono h fun vs H₁ z => ?_;obtain ⟨k,li,ps,rfl,hq⟩ := z;refine CV_new N_Node fun x hx => (Node_ hb_ hT).mono fun r H' z => ?_;obtain ⟨rfl,rfl⟩ := z;refine ⟨rfl,x,_,rfl,put_self,?_⟩;rw [put_drop hx];exact hq
theorem target_fault_ {k x : List Nat} {st : Bool} {v : V} (hv : v = if (k == [78,97,109,101]) = true then .str (SS x) else .none) (hx : x.length < 60000) {Q : V→MH→Prop} (h1 : P.targetFault k x st = false→Q .none H) (h2 : P.targetFault k x st = true→∀ m,Q (.str m) H) :
    CL (W0 w mb xt) ⟨n + 3,X⟩ l H f_target_fault [.str (SS k),v,.bool st] Q := by
  subst hv;refine CL_def F_target_fault rfl ?_;refine EXS_cons ?_;refine EX_if ?_;refine ET_cmp rfl ?_;refine EV_name rfl ?_;refine EV_glob (by kernel_rfl) G_TARGETS (by kernel_rfl) V_TARGETS ?_;refine T2_notin_tl ?_;refine ⟨_,rfl,?_⟩;refine ite_go (fun hb => ?_) (fun hb => ?_)
  · refine EXS_cons ?_;refine EX_return ?_;refine EV_strS (c := [105,110,118,97,108,105,100,32,116,97,114,103,101,116,32,111,102,32,97,110,32,97,115,115,105,103,110,109,101,110,116]) (by kernel_rfl) ?_;exact h2 (by unfold P.targetFault; rw [if_neg (by simpa using hb)]) _
  have ht : P.isIn k P.targets = true := by simpa using hb
  refine EXS_nil ?_;refine EXS_cons ?_;refine EX_return ?_;refine EV_if ?_;refine ET_cmp rfl ?_;refine EV_name rfl ?_;refine EV_strS (c := [78,97,109,101]) (by kernel_rfl) ?_;refine T2_eq_l ?_;refine ⟨_,rfl,?_⟩;refine ite_go (fun hb2 => ?_) (fun hb2 => ?_)
  · rw [if_pos hb2];refine EV_callg (by kernel_rfl) G_binding_fault (by kernel_rfl) Gk_binding_fault rfl ?_;refine EA_pe (PEs_cons PE_name (PEs_cons PE_name PEs_nil)) ?_;refine CV_of_CL ?_;refine binding_fault_ hb_ hT hx (fun hb3 => ?_) (fun hb3 m => ?_)
    · exact h1 (by unfold P.targetFault; rw [if_pos ht,hb2,hb3]; rfl)
    · exact h2 (by unfold P.targetFault; rw [if_pos ht,hb2,hb3]; rfl) _
  · refine EV_none ?_;exact h1 (by unfold P.targetFault; rw [if_pos ht,hb2]; rfl)
theorem toV_node {k : List Nat} {m : Nat} {q : List Mine.T} : toV (.node k m q) = .obj 31 ["kind","line","parts","scope"] [.str (SS k),.int m,.lst (toVs q),.none] := by rw [toV]
theorem need_target_ (hI : PInv T js ps H) {t : Mine.T} (hN : NodeOk t) {Q : V→MH→Prop} (h : RQ (PInv T js) js.A X H (P.needTarget t ps) fun _ _ H' => Q .none H') : CL (W0 w mb xt) ⟨n + 4,X⟩ l H f_ExprParser_need_target [.ref js.p,toV t] Q := by
  obtain ⟨k,m,q,rfl,hnm⟩ := hN;unfold P.needTarget at h;rw [toV_node hb_ hT];refine CL_def F_ExprParser_need_target rfl ?_;refine EXS_cons ?_;refine EXx ?_;refine EV_meth _ (fun _ => rfl) ?_;refine EV_name rfl ?_;refine MC_inst hI.p rfl M_StmtParser_fail_for rfl ?_;refine EA_cons rfl ?_;refine EV_callg (by kernel_rfl) G_target_fault (by kernel_rfl) Gk_target_fault rfl ?_;refine EA_cons rfl ?_;refine EV_attr (fun _ => rfl) ?_;refine EV_name rfl ?_;refine T1_attrF rfl rfl A_Node_kind ?_;refine EA_cons rfl ?_;have fin : ∀ x : List Nat,P.headStr q = x ∨ (k == [78,97,109,101]) = false→x.length < 60000→∀ v,v = (if (k == [78,97,109,101]) = true then V.str (SS x) else .none)→CL (W0 w mb xt) ⟨n + 3,X⟩ (["self","node"].zip [.ref js.p,.obj 31 ["kind","line","parts","scope"] [.str (SS k),.int m,.lst (toVs q),.none]]) H f_target_fault [.str (SS k),v,.bool ps.strict]
      fun u H' => EA (W0 w mb xt) ⟨n + 3,X⟩ (sScope (fM 95 3)) [] (["self","node"].zip [.ref js.p,.obj 31 ["kind","line","parts","scope"] [.str (SS k),.int m,.lst (toVs q),.none]]) H' fun us H' => CV (W0 w mb xt) ⟨n + 3,X⟩ (sScope (fM 95 3)) (["self","node"].zip [.ref js.p,.obj 31 ["kind","line","parts","scope"] [.str (SS k),.int m,.lst (toVs q),.none]]) H' (.ref 786) (.ref js.p :: u :: us) fun _ H' => Q .none H' := by
    intro x hx hlen v hv;have e : P.targetFault k (P.headStr q) ps.strict = P.targetFault k x ps.strict := by
      rcases hx with e | e
      · rw [e]
      · unfold P.targetFault; rw [e]; rfl
    refine target_fault_ hb_ hT hv hlen (fun hb => ?_) (fun hb m => ?_)
    · rw [← e] at hb;have h := RQ.neg h (nf hb);refine EA_nil ?_;refine CV_of_CL ?_;exact fail_for_none hb_ hT (RQ.done h hI Ext.refl)
    · rw [← e] at hb;have h := RQ.pos h hb;refine EA_nil ?_;refine CV_of_CL ?_;exact CL_fail (RQ.failed (show RQ (PInv T js) js.A X H (.fail ps.tok.line) _ from h) Ext.refl)
  refine EV_if ?_;refine ET_cmp rfl ?_;refine EV_attr (fun _ => rfl) ?_;refine EV_name rfl ?_;refine T1_attrF rfl rfl A_Node_kind ?_;refine EV_strS (c := [78,97,109,101]) (by kernel_rfl) ?_;refine T2_eq_l ?_;refine ⟨_,rfl,?_⟩;refine ite_go (fun hb => ?_) (fun hb => ?_)
  · obtain ⟨x,rfl,hlen⟩ := hnm (by simpa using hb);refine EV_sub ?_;refine EV_attr (fun _ => rfl) ?_;refine EV_name rfl ?_;refine T1_attrF rfl rfl A_Node_parts ?_;refine EV_int ?_;refine T2_item_lst rfl (by decide) (by decide) (v := .str (SS x)) (by rw [toVs,toV]; rfl) ?_;refine EA_cons rfl ?_;refine EV_attr (fun _ => rfl) ?_;refine EV_name rfl ?_;refine T1_attr hI.p rfl rfl A_StmtParser_is_strict ?_;refine EA_nil ?_;refine CV_of_CL ?_;refine (fin x (.inl rfl) hlen _ (by rw [if_pos hb])).mono fun u H' z => EA.mono z fun us H'' z => ?_;refine Box.mk fun C news ow s Qr E Us hc ho hs vr hk => z.go C news ow s Qr E Us hc ho hs vr fun v U H' n' o' s' a b c dd q => hk v U H' n' o' s' a b c dd ?_;exact EXS_nil q
  · refine EV_none ?_;refine EA_cons rfl ?_;refine EV_attr (fun _ => rfl) ?_;refine EV_name rfl ?_;refine T1_attr hI.p rfl rfl A_StmtParser_is_strict ?_;refine EA_nil ?_;refine CV_of_CL ?_;refine (fin [] (.inr hb) (by decide) _ (by rw [if_neg (nf hb)])).mono fun u H' z => EA.mono z fun us H'' z => ?_;refine Box.mk fun C news ow s Qr E Us hc ho hs vr hk => z.go C news ow s Qr E Us hc ho hs vr fun v U H' n' o' s' a b c dd q => hk v U H' n' o' s' a b c dd ?_;exact EXS_nil q
theorem priority_ (hI : PInv T js ps H) {i : Bool} {Q : V→MH→Prop} (hq : Q (.int (P.priority ps i)) H) : CL (W0 w mb xt) ⟨n + 2,X⟩ l H f_ExprParser_priority [.ref js.p,.bool i] Q := by
  refine CL_def F_ExprParser_priority rfl ?_;unfold P.priority at hq;refine EXS_cons ?_;refine EX_if ?_;refine ET_cmp rfl ?_;refine EV_attr (fun _ => rfl) ?_;refine EV_attr (fun _ => rfl) ?_;refine EV_name rfl ?_;refine T1_attr hI.p rfl rfl A_StmtParser_token ?_;refine T1_attrF rfl rfl A_Token_kind ?_;refine EV_strS (c := KD.punct.str) (by kernel_rfl) ?_;refine T2_eq_k ?_;refine ⟨_,rfl,?_⟩;refine ite_go (fun hb => ?_) (fun hb => ?_)
  · rw [if_pos hb] at hq;have hv := tokv_of hb;refine EXS_cons ?_;refine EX_return ?_;refine EV_meth _ (fun _ => rfl) ?_;refine EV_glob (by kernel_rfl) G_PRIORITY (by kernel_rfl) V_PRIORITY ?_;refine MC_get rfl rfl ?_;refine EV_attr (fun _ => rfl) ?_;refine EV_attr (fun _ => rfl) ?_;refine EV_name rfl ?_;refine T1_attr hI.p rfl rfl A_StmtParser_token ?_;refine T1_tokv hv ?_;refine EV_int ?_;refine ⟨_,rfl,?_⟩;rw [prio_look];exact hq
  rw [if_neg (nf hb)] at hq;refine EXS_nil ?_;refine EXS_cons ?_;refine EX_if ?_;refine ET_val (fun _ _ => rfl) ?_;refine EV_meth _ (fun _ => rfl) ?_;refine EV_name rfl ?_;refine MC_inst hI.p rfl M_StmtParser_is_word rfl ?_;refine EA_pe (PEs_cons (PE_str (c := [105,110]) (by kernel_rfl)) PEs_nil) ?_;refine CV_of_CL ?_;refine is_word_ hb_ hT hI ?_;refine ⟨_,rfl,?_⟩;refine ite_go (fun hb => ?_) (fun hb => ?_)
  · rw [if_pos hb] at hq;refine EXS_cons ?_;refine EX_return ?_;refine EV_if ?_;refine ET_val (fun _ _ => rfl) ?_;refine EV_name rfl ?_;refine ⟨_,rfl,?_⟩;refine ite_go (fun hc => ?_) (fun hc => ?_)
    · subst hc;refine EV_sub ?_;refine EV_glob (by kernel_rfl) G_PRIORITY (by kernel_rfl) V_PRIORITY ?_;refine EV_strS (c := [105,110]) (by kernel_rfl) ?_;refine T2_item_dct rfl (v := .int 7) (by kernel_rfl) ?_;exact hq
    · subst hc;refine EV_int ?_;exact hq
  rw [if_neg (nf hb)] at hq;refine EXS_nil ?_;refine EXS_cons ?_;refine EX_return ?_;refine EV_if ?_;refine ET_val (fun _ _ => rfl) ?_;refine EV_meth _ (fun _ => rfl) ?_;refine EV_name rfl ?_;refine MC_inst hI.p rfl M_StmtParser_is_word rfl ?_;refine EA_pe (PEs_cons (PE_str (c := [105,110,115,116,97,110,99,101,111,102]) (by kernel_rfl)) PEs_nil) ?_;refine CV_of_CL ?_;refine is_word_ hb_ hT hI ?_;refine ⟨_,rfl,?_⟩;refine ite_go (fun hb => ?_) (fun hb => ?_)
  · rw [if_pos hb] at hq;refine EV_sub ?_;refine EV_glob (by kernel_rfl) G_PRIORITY (by kernel_rfl) V_PRIORITY ?_;refine EV_strS (c := [105,110,115,116,97,110,99,101,111,102]) (by kernel_rfl) ?_;refine T2_item_dct rfl (v := .int 7) (by kernel_rfl) ?_;exact hq
  · rw [if_neg (nf hb)] at hq;refine EV_int ?_;exact hq
theorem need_tgt {t : Mine.T} {u : Unit} {ps ps' : PS} (e : P.needTarget t ps = .ok (u,ps')) : ps = ps' := by
  unfold P.needTarget at e
  split at e <;> cases e
  rfl
variable (hS : SPEC w mb xt T n)
include hS
theorem assignment_ (hI : PInv T js ps H) {i : Bool} {Q : V→MH→Prop} (h : RQ (PInv T js) js.A X H (P.assignment (P.run n) i ps) fun t _ H' => NodeOk t→Q (toV t) H') : CL (W0 w mb xt) ⟨n + 13,X⟩ l H f_ExprParser_assignment [.ref js.p,.bool i] Q := by
  refine CL_def F_ExprParser_assignment rfl ?_;refine EXS_cons ?_;refine EXa ?_;refine EV_meth _ (fun _ => rfl) ?_;refine EV_name rfl ?_;refine MC_inst hI.p rfl M_StmtParser_conditional rfl ?_;refine EA_pe (PEs_cons PE_name PEs_nil) ?_;refine CV_of_CL ?_;refine hS (.conditional i) _ _ _ _ _ _ trivial hI (RQ.call h Ext.refl (fun _ z => z) fun t ps H e hI hx hx2 h hN => ?_);obtain ⟨k,m,q,rfl,hnm⟩ := hN rfl;have h : RQ (PInv T js) js.A X _ (if (ps.tok.k == .punct && P.isIn ps.tok.v P.assigning) = true then _ else Res.ok (Mine.T.node k m q,ps)) _ := h;rw [toV_node hb_ hT];refine EXS_cons ?_;refine EX_if ?_
  apply ET_orP
  · skip
    refine ET_cmp rfl ?_;refine EV_attr (fun _ => rfl) ?_;refine EV_attr (fun _ => rfl) ?_;refine EV_name rfl ?_;refine T1_attr hI.p rfl rfl A_StmtParser_token ?_;refine T1_attrF rfl rfl A_Token_kind ?_;refine EV_strS (c := KD.punct.str) (by kernel_rfl) ?_;refine T2_ne_k ?_;refine ⟨_,rfl,?_⟩;exact ⟨rfl,rfl⟩
  · intro hb;have hv := tokv_of (of_bne hb);refine ET_or1 ?_;refine ET_cmp rfl ?_;refine EV_attr (fun _ => rfl) ?_;refine EV_attr (fun _ => rfl) ?_;refine EV_name rfl ?_;refine T1_attr hI.p rfl rfl A_StmtParser_token ?_;refine T1_tokv hv ?_;refine EV_glob (by kernel_rfl) G_ASSIGNING (by kernel_rfl) V_ASSIGNING ?_;refine T2_notin_tl ?_;refine ⟨_,rfl,?_⟩;exact ⟨rfl,rfl⟩
  refine ite_go (fun hb => ?_) (fun hb => ?_)
  · have h := RQ.neg h (nf (or_not hb));refine EXS_cons ?_;refine EX_return ?_;refine EV_name rfl ?_;rw [← toV_node hb_ hT];exact RQ.done h hI hx ⟨_,_,_,rfl,hnm⟩
  have h := RQ.pos h (or_not' hb);have hv := tokv_of (Bool.and_eq_true_iff.mp (or_not' hb)).1;refine EXS_nil ?_;refine EXS_cons ?_;refine EXx ?_;refine EV_meth _ (fun _ => rfl) ?_;refine EV_name rfl ?_;refine MC_inst hI.p rfl M_StmtParser_need_target rfl ?_;refine EA_pe (PEs_cons PE_name PEs_nil) ?_;refine CV_of_CL ?_;rw [← toV_node hb_ hT];refine need_target_ hb_ hT hI ⟨_,_,_,rfl,hnm⟩ (RQ.call h hx (fun _ z => z) fun u ps₂ H e2 hI hx hx2 h => ?_);have e3 := need_tgt hb_ hT e2;subst e3;refine EXS_cons ?_;refine EXa ?_;refine EV_attr (fun _ => rfl) ?_;refine EV_meth _ (fun _ => rfl) ?_;refine EV_name rfl ?_;refine MC_inst hI.p rfl M_StmtParser_take rfl ?_;refine EA_nil ?_;refine CV_of_CL ?_;refine take_ hb_ hT hI (RQ.call h hx (fun _ z => z) fun t ps₃ H e hI hx hx2 h => ?_);obtain rfl := take_tok hb_ hT e;refine T1_tokv hv ?_;refine EXS_cons ?_;refine EX_return ?_;refine EV_Node hb_ hT (by kernel_rfl) rfl ?_;refine EA_cons rfl ?_;refine EV_strS (c := [65,115,115,105,103,110]) (by kernel_rfl) ?_;refine EA_cons rfl ?_;refine EV_attr (fun _ => rfl) ?_;refine EV_name rfl ?_;refine T1_attrF rfl rfl A_Node_line ?_;refine EA_cons rfl ?_;refine EV_listF ?_;refine EA_cons rfl ?_;refine EV_name rfl ?_;refine EA_cons rfl ?_;refine EV_name rfl ?_;refine EA_cons rfl ?_;refine EV_meth _ (fun _ => rfl) ?_;refine EV_name rfl ?_;refine MC_inst hI.p rfl M_StmtParser_assignment rfl ?_;refine EA_pe (PEs_cons PE_name PEs_nil) ?_;refine CV_of_CL ?_;refine hS (.assignment i) _ _ _ _ _ _ trivial hI (RQ.call h hx (fun _ z => z) fun t ps H e hI hx hx2 h hN => ?_);refine EA_nil ?_;refine lb ?_;refine EA_nil ?_;refine ⟨_,_,_,rfl,?_⟩;have := RQ.done h hI hx ⟨_,_,_,rfl,not_name rfl⟩;rw [toV_node hb_ hT,toVs,toVs,toVs,toVs,toV,toV_node hb_ hT] at this;exact this
theorem conditional_ (hI : PInv T js ps H) {i : Bool} {Q : V→MH→Prop} (h : RQ (PInv T js) js.A X H (P.conditional (P.run n) i ps) fun t _ H' => NodeOk t→Q (toV t) H') : CL (W0 w mb xt) ⟨n + 13,X⟩ l H f_ExprParser_conditional [.ref js.p,.bool i] Q := by
  have hx : Ext js.A H H := Ext.refl;refine CL_def F_ExprParser_conditional rfl ?_;refine EXS_cons ?_;refine EXa ?_;refine EV_meth _ (fun _ => rfl) ?_;refine EV_name rfl ?_;refine MC_inst hI.p rfl M_StmtParser_binary rfl ?_;refine EA_pe (PEs_cons PE_int (PEs_cons PE_name PEs_nil)) ?_;refine CV_of_CL ?_;refine hS (.binary 1 i) _ _ _ _ _ _ (Nat.le_refl _) hI (RQ.call h hx (fun _ z => z) fun t ps H e hI hx hx2 h hN => ?_);obtain ⟨k,m,q,rfl,hnm⟩ := hN rfl;rw [toV_node hb_ hT];refine EXS_cons ?_;refine EX_if ?_;refine ET_not ?_;refine ET_val (fun _ _ => rfl) ?_;refine EV_meth _ (fun _ => rfl) ?_;refine EV_name rfl ?_;refine MC_inst hI.p rfl M_StmtParser_eat rfl ?_;refine EA_pe (PEs_cons (PE_str (c := [63]) (by kernel_rfl)) PEs_nil) ?_;refine CV_of_CL ?_;refine eat_ hb_ hT hI (RQ.call h hx (fun _ z => z) fun b ps H e hI hx hx2 h => ?_);refine ⟨_,rfl,?_⟩
  cases b with
  | false =>
    refine ite_go (fun _ => ?_) (fun z => nomatch z);have h := RQ.negM h Bool.false_ne_true;refine EXS_cons ?_;refine EX_return ?_;refine EV_name rfl ?_;rw [← toV_node hb_ hT];exact RQ.done h hI hx ⟨_,_,_,rfl,hnm⟩
  | true =>
    refine ite_go (fun z => nomatch z) (fun _ => ?_);have h := RQ.posM h rfl;refine EXS_nil ?_;refine EXS_cons ?_;refine EXa ?_;refine EV_meth _ (fun _ => rfl) ?_;refine EV_name rfl ?_;refine MC_inst hI.p rfl M_StmtParser_assignment rfl ?_;refine EA_pe (PEs_cons PE_bool PEs_nil) ?_;refine CV_of_CL ?_;refine hS (.assignment true) _ _ _ _ _ _ trivial hI (RQ.call h hx (fun _ z => z) fun t2 ps H e hI hx hx2 h _ => ?_);refine EXS_cons ?_;refine EXx ?_;refine EV_meth _ (fun _ => rfl) ?_;refine EV_name rfl ?_;refine MC_inst hI.p rfl M_StmtParser_need rfl ?_;refine EA_pe (PEs_cons (PE_str (c := [58]) (by kernel_rfl)) PEs_nil) ?_;refine CV_of_CL ?_;refine need_ hb_ hT hI (RQ.call h hx (fun _ z => z) fun u ps H e hI hx hx2 h => ?_);refine EXS_cons ?_;refine EX_return ?_;refine EV_Node hb_ hT (by kernel_rfl) rfl ?_;refine EA_cons rfl ?_;refine EV_strS (c := [67,111,110,100]) (by kernel_rfl) ?_;refine EA_cons rfl ?_;refine EV_attr (fun _ => rfl) ?_;refine EV_name rfl ?_;refine T1_attrF rfl rfl A_Node_line ?_;refine EA_cons rfl ?_;refine EV_listF ?_;refine EA_cons rfl ?_;refine EV_name rfl ?_;refine EA_cons rfl ?_;refine EV_name rfl ?_;refine EA_cons rfl ?_;refine EV_meth _ (fun _ => rfl) ?_;refine EV_name rfl ?_;refine MC_inst hI.p rfl M_StmtParser_assignment rfl ?_;refine EA_pe (PEs_cons PE_name PEs_nil) ?_;refine CV_of_CL ?_;refine hS (.assignment i) _ _ _ _ _ _ trivial hI (RQ.call h hx (fun _ z => z) fun t3 ps H e hI hx hx2 h _ => ?_);refine EA_nil ?_;refine lb ?_;refine EA_nil ?_;refine ⟨_,_,_,rfl,?_⟩;have := RQ.done h hI hx ⟨_,_,_,rfl,not_name rfl⟩;rw [toV_node hb_ hT,toVs,toVs,toVs,toVs,toV_node hb_ hT] at this;exact this
theorem prio_hv {ps : PS} {i : Bool} (h : 1 ≤ P.priority ps i) : tokVal ps.tok = .str (SS ps.tok.v) := by
  unfold P.priority P.isWord at h
  cases hk : ps.tok.k <;> rw [hk] at h <;> first | (unfold tokVal; rw [hk]; done) | exact (Nat.not_succ_le_zero 0 h).elim
theorem binary_ (hI : PInv T js ps H) {least : Nat} (hl1 : 1 ≤ least) {i : Bool} {Q : V→MH→Prop} (h : RQ (PInv T js) js.A X H (P.binary (P.run n) least i ps) fun t _ H' => NodeOk t→Q (toV t) H') : CL (W0 w mb xt) ⟨n + 13,X⟩ l H f_ExprParser_binary [.ref js.p,.int least,.bool i] Q := by
  have hx : Ext js.A H H := Ext.refl;refine CL_def F_ExprParser_binary rfl ?_;refine EXS_cons ?_;refine EXa ?_;refine EV_meth _ (fun _ => rfl) ?_;refine EV_name rfl ?_;refine MC_inst hI.p rfl M_StmtParser_unary rfl ?_;refine EA_nil ?_;refine CV_of_CL ?_;refine hS (.unary) _ _ _ _ _ _ trivial hI (RQ.call h hx (fun _ z => z) fun t ps H e hI hx hx2 h hN => ?_);obtain ⟨k,m,q,rfl,hnm⟩ := hN rfl;refine EXS_cons ?_;refine EX_whileA (fun j l H' => ∃ k m q ps,l = [("self",.ref js.p),("least",.int least),("can_in",.bool i),("left",toV (.node k m q))]∧PInv T js ps H'∧Ext js.A _ H'∧(k = [78,97,109,101]→∃ x,q = [Mine.T.str x]∧x.length < 60000) ∧
      RQ (PInv T js) js.A X _ (P.loopM j (P.binTurn (P.run n) least i) (.node k m q) ps) fun t _ H' => NodeOk t→Q (toV t) H') P.LN (LSub_cons rfl (LSub_cons rfl (LSub_cons rfl (LSub_cons rfl LSub_nil)))) ⟨k,m,q,ps,rfl,hI,hx,hnm,h⟩ ?_
  rintro Iv up j l H ⟨k,m,q,ps0,rfl,hI,hx,hnm,h⟩;rw [toV_node hb_ hT]
  cases j with
  | zero => exact h.elim
  | succ j =>
  refine ET_cmp rfl ?_;refine EV_meth _ (fun _ => rfl) ?_;refine EV_name rfl ?_;refine MC_inst hI.p rfl M_StmtParser_priority rfl ?_;refine EA_pe (PEs_cons PE_name PEs_nil) ?_;refine CV_of_CL ?_;refine priority_ hb_ hT hI ?_;refine EV_name rfl ?_;refine T2_ge_int ?_;refine ⟨_,rfl,?_⟩;refine ite_go (fun hb => ?_) (fun hb => ?_)
  · have hle : least ≤ P.priority ps0 i := by have := of_decide_eq_true hb; omega
    have h := RQ.posB h hle;have hv := prio_hv hb_ hT hS (Nat.le_trans hl1 hle);refine EXS_cons ?_;refine EXa ?_;refine EV_meth _ (fun _ => rfl) ?_;refine EV_name rfl ?_;refine MC_inst hI.p rfl M_StmtParser_priority rfl ?_;refine EA_pe (PEs_cons PE_name PEs_nil) ?_;refine CV_of_CL ?_;refine priority_ hb_ hT hI ?_
    generalize P.priority ps0 i = pr at h hle ⊢
    have h := RQ.unbind (I := PInv T js) h;refine EXS_cons ?_;refine EXa ?_;refine EV_attr (fun _ => rfl) ?_;refine EV_meth _ (fun _ => rfl) ?_;refine EV_name rfl ?_;refine MC_inst hI.p rfl M_StmtParser_take rfl ?_;refine EA_nil ?_;refine CV_of_CL ?_;refine take_ hb_ hT hI (RQ.call h hx (fun _ z => z) fun t ps H e hI hx hx2 h => ?_);obtain rfl := take_tok hb_ hT e;refine T1_tokv hv ?_;refine EXS_cons ?_;refine EXa ?_;refine EV_meth _ (fun _ => rfl) ?_;refine EV_name rfl ?_;refine MC_inst hI.p rfl M_StmtParser_binary rfl ?_;refine EA_cons rfl ?_;refine EV_bin ?_;refine EV_name rfl ?_;refine EV_int ?_;refine T2_add_int ?_;refine EA_cons rfl ?_;refine EV_name rfl ?_;refine EA_nil ?_;refine CV_of_CL ?_;refine hS (.binary (pr + 1) i) _ _ _ _ _ _ (Nat.le_add_left 1 _) hI (RQ.call h hx (fun _ z => z) fun t2 ps H e hI hx hx2 h _ => ?_);have h := RQ.done h hI hx;refine EXS_cons ?_;refine EXa ?_;refine EV_Node hb_ hT (by kernel_rfl) rfl ?_;refine EA_cons rfl ?_;refine EV_if ?_;refine ET_cmp rfl ?_;refine EV_name rfl ?_;refine EV_int ?_;refine T2_lt_int ?_;refine ⟨_,rfl,?_⟩;refine ite_go (fun hc => ?_) (fun hc => ?_)
    · have hc : pr < 3 := by have := of_decide_eq_true hc; omega
      refine EV_strS (c := [76,111,103,105,99,97,108]) (by kernel_rfl) ?_;refine EA_cons rfl ?_;refine EV_attr (fun _ => rfl) ?_;refine EV_name rfl ?_;refine T1_attrF rfl rfl A_Node_line ?_;refine EA_cons rfl ?_;refine EV_listF ?_;refine EA_cons rfl ?_;refine EV_name rfl ?_;refine EA_cons rfl ?_;refine EV_name rfl ?_;refine EA_cons rfl ?_;refine EV_name rfl ?_;refine EA_nil ?_;refine lb ?_;refine EA_nil ?_;refine ⟨_,_,_,rfl,?_⟩;refine EXS_nil ?_;refine ⟨j,[("self",.ref js.p),("least",.int least),("can_in",.bool i),("left",toV (.node [76,111,103,105,99,97,108] m [.str ps0.tok.v,.node k m q,t2]))],Nat.lt_succ_self _,LSub_cons rfl (LSub_cons rfl (LSub_cons rfl (LSub_cons ?_ LSub_nil))),up _ _ _ ⟨[76,111,103,105,99,97,108],m,[.str ps0.tok.v,.node k m q,t2],ps,rfl,hI,hx,not_name rfl,?_⟩⟩
      · rw [toV_node hb_ hT,toVs,toVs,toVs,toVs,toV,toV_node hb_ hT]; rfl
      · rw [if_pos hc] at h; exact h
    · have hc : ¬ pr < 3 := by have := of_decide_eq_false hc; omega
      refine EV_strS (c := [66,105,110,97,114,121]) (by kernel_rfl) ?_;refine EA_cons rfl ?_;refine EV_attr (fun _ => rfl) ?_;refine EV_name rfl ?_;refine T1_attrF rfl rfl A_Node_line ?_;refine EA_cons rfl ?_;refine EV_listF ?_;refine EA_cons rfl ?_;refine EV_name rfl ?_;refine EA_cons rfl ?_;refine EV_name rfl ?_;refine EA_cons rfl ?_;refine EV_name rfl ?_;refine EA_nil ?_;refine lb ?_;refine EA_nil ?_;refine ⟨_,_,_,rfl,?_⟩;refine EXS_nil ?_;refine ⟨j,[("self",.ref js.p),("least",.int least),("can_in",.bool i),("left",toV (.node [66,105,110,97,114,121] m [.str ps0.tok.v,.node k m q,t2]))],Nat.lt_succ_self _,LSub_cons rfl (LSub_cons rfl (LSub_cons rfl (LSub_cons ?_ LSub_nil))),up _ _ _ ⟨[66,105,110,97,114,121],m,[.str ps0.tok.v,.node k m q,t2],ps,rfl,hI,hx,not_name rfl,?_⟩⟩
      · rw [toV_node hb_ hT,toVs,toVs,toVs,toVs,toV,toV_node hb_ hT]; rfl
      · rw [if_neg hc] at h; exact h
  · have hle : ¬ least ≤ P.priority ps0 i := by have := of_decide_eq_false hb; omega
    have h := RQ.negB h hle;have h := RQ.done (RQ.unbind (I := PInv T js) h) hI hx;have h := RQ.done h hI hx ⟨_,_,_,rfl,hnm⟩;refine EXS_nil ?_;refine EXS_cons ?_;refine EX_return ?_;refine EV_name rfl ?_;rw [← toV_node hb_ hT];exact h
end
end Mine
end
section
open PySem PySem.W PySem.Calls PyProof.Rows Hd
namespace Mine
theorem or_not3 {a b c : Bool} (h : (!a || (!b || c)) = true) : (a && (b && !c)) = false := by cases a <;> cases b <;> cases c <;> simp at h ⊢
theorem or_not3' {a b c : Bool} (h : (!a || (!b || c)) = false) : (a && (b && !c)) = true := by cases a <;> cases b <;> cases c <;> simp at h ⊢
theorem and_not2 {a b : Bool} (h : (!a && !b) = true) : (a || b) = false := by cases a <;> cases b <;> simp at h ⊢
theorem and_not2' {a b : Bool} (h : (!a && !b) = false) : (a || b) = true := by cases a <;> cases b <;> simp at h ⊢
theorem eat_false {x : List Nat} {ps ps' : PS} (e : P.eat x ps = .ok (false,ps')) : ps = ps' := by
  unfold P.eat at e
  split at e
  · unfold P.bnd P.ret at e
    cases q : P.take ps with
    | ok p => rw [q] at e; cases e
    | fail _ => rw [q] at e; cases e
    | out => rw [q] at e; cases e
  · cases e; rfl
theorem toVs_snoc (acc : List Mine.T) (t : Mine.T) : toVs (acc ++ [t]) = toVs acc ++ [toV t] := by rw [toVs_map,toVs_map,List.map_append]; rfl
theorem toVs_len (acc : List Mine.T) : (toVs acc).length = acc.length := by rw [toVs_map,List.length_map]
section
variable {w : World} {mb : Str→Option Value} {xt : Led} {n : Nat} {X : Nat→MH→Prop} {l : Loc} {H H₀ : MH} (hb_ : ∀ x : Str,x ≠ "__name__"→mb x = bootBuiltins x) {T : List Nat} (hT : TxtOk T) {js : Js} {ps : PS}
include hb_ hT
theorem delete_fault_ {k : List Nat} {st : Bool} {Q : V→MH→Prop} (h1 : (st && k == [78,97,109,101]) = false→Q .none H) (h2 : (st && k == [78,97,109,101]) = true→∀ m,Q (.str m) H) : CL (W0 w mb xt) ⟨n + 1,X⟩ l H f_delete_fault [.str (SS k),.bool st] Q := by
  refine CL_def F_delete_fault rfl ?_;refine EXS_cons ?_;refine EX_return ?_;refine EV_if ?_
  apply ET_andP
  · skip
    refine ET_val (fun _ _ => rfl) ?_;refine EV_name rfl ?_;refine ⟨_,rfl,?_⟩;exact ⟨rfl,rfl⟩
  · intro _;refine ET_and1 ?_;refine ET_cmp rfl ?_;refine EV_name rfl ?_;refine EV_strS (c := [78,97,109,101]) (by kernel_rfl) ?_;refine T2_eq_l ?_;refine ⟨_,rfl,?_⟩;exact ⟨rfl,rfl⟩
  refine ite_go (fun hb => ?_) (fun hb => ?_)
  · refine EV_strS (c := [100,101,108,101,116,101,32,111,102,32,97,32,110,97,109,101,32,105,110,32,115,116,114,105,99,116,32,99,111,100,101]) (by kernel_rfl) ?_;exact h2 hb _
  · refine EV_none ?_;exact h1 hb
variable (hS : SPEC w mb xt T n)
include hS
theorem with_members_ (hI : PInv T js ps H) {t : Mine.T} (hN : NodeOk t) {Q : V→MH→Prop} (h : RQ (PInv T js) js.A X H (P.withMembers t ps) fun t _ H' => NodeOk t→Q (toV t) H') : CL (W0 w mb xt) ⟨n + 13,X⟩ l H f_ExprParser_with_members [.ref js.p,toV t] Q := by
  have hx : Ext js.A H H := Ext.refl;refine CL_def F_ExprParser_with_members rfl ?_;unfold P.withMembers at h;refine EXS_cons ?_;refine EX_while' (fun j l' H' => j = 0∧l' = [("self",.ref js.p),("node",toV t)]∧H' = H) 0 LSub.refl ⟨rfl,rfl,rfl⟩ ?_;rintro j l' H' ⟨rfl,rfl,rfl⟩
  apply ET_orP
  · skip
    refine ET_val (fun _ _ => rfl) ?_;refine EV_meth _ (fun _ => rfl) ?_;refine EV_name rfl ?_;refine MC_inst hI.p rfl M_StmtParser_is_sign rfl ?_;refine EA_pe (PEs_cons (PE_str (c := [46]) (by kernel_rfl)) PEs_nil) ?_;refine CV_of_CL ?_;refine is_sign_ hb_ hT hI ?_;refine ⟨_,rfl,?_⟩;exact ⟨rfl,rfl⟩
  · intro _;refine ET_or1 ?_;refine ET_val (fun _ _ => rfl) ?_;refine EV_meth _ (fun _ => rfl) ?_;refine EV_name rfl ?_;refine MC_inst hI.p rfl M_StmtParser_is_sign rfl ?_;refine EA_pe (PEs_cons (PE_str (c := [91]) (by kernel_rfl)) PEs_nil) ?_;refine CV_of_CL ?_;refine is_sign_ hb_ hT hI ?_;refine ⟨_,rfl,?_⟩;exact ⟨rfl,rfl⟩
  refine ite_go (fun hb => ?_) (fun hb => ?_)
  · exact (RQ.pos h hb).elim
  have h := RQ.neg h (nf hb);refine EXS_nil ?_;refine EXS_cons ?_;refine EX_return ?_;refine EV_name rfl ?_;exact (RQ.done h hI hx hN :)
theorem condition_ (hI : PInv T js ps H) {Q : V→MH→Prop} (h : RQ (PInv T js) js.A X H (P.condition (P.run n) ps) fun t _ H' => NodeOk t→Q (toV t) H') : CL (W0 w mb xt) ⟨n + 13,X⟩ l H f_StmtParser_condition [.ref js.p] Q := by
  have hx : Ext js.A H H := Ext.refl;refine CL_def F_StmtParser_condition rfl ?_;refine EXS_cons ?_;refine EXx ?_;refine EV_meth _ (fun _ => rfl) ?_;refine EV_name rfl ?_;refine MC_inst hI.p rfl M_StmtParser_need rfl ?_;refine EA_pe (PEs_cons (PE_str (c := [40]) (by kernel_rfl)) PEs_nil) ?_;refine CV_of_CL ?_;refine need_ hb_ hT hI (RQ.call h hx (fun _ z => z) fun u ps H e hI hx hx2 h => ?_);refine EXS_cons ?_;refine EXa ?_;refine EV_meth _ (fun _ => rfl) ?_;refine EV_name rfl ?_;refine MC_inst hI.p rfl M_StmtParser_expression rfl ?_;refine EA_pe (PEs_cons PE_bool PEs_nil) ?_;refine CV_of_CL ?_;refine hS (.expression true) _ _ _ _ _ _ trivial hI (RQ.call h hx (fun _ z => z) fun t ps H e hI hx hx2 h hN => ?_);refine EXS_cons ?_;refine EXx ?_;refine EV_meth _ (fun _ => rfl) ?_;refine EV_name rfl ?_;refine MC_inst hI.p rfl M_StmtParser_need rfl ?_;refine EA_pe (PEs_cons (PE_str (c := [41]) (by kernel_rfl)) PEs_nil) ?_;refine CV_of_CL ?_;refine need_ hb_ hT hI (RQ.call h hx (fun _ z => z) fun u ps H e hI hx hx2 h => ?_);refine EXS_cons ?_;refine EX_return ?_;refine EV_name rfl ?_;exact (RQ.done h hI hx (hN rfl) :)
theorem unary_ (hI : PInv T js ps H₀) {Q : V→MH→Prop} (h : RQ (PInv T js) js.A X H₀ (P.unary (P.run n) ps) fun t _ H' => NodeOk t→Q (toV t) H') : CL (W0 w mb xt) ⟨n + 13,X⟩ l H₀ f_ExprParser_unary [.ref js.p] Q := by
  have hx : Ext js.A H₀ H₀ := Ext.refl;refine CL_def F_ExprParser_unary rfl ?_;refine EXS_cons ?_;refine EXa ?_;refine EV_attr (fun _ => rfl) ?_;refine EV_name rfl ?_;refine T1_attr hI.p rfl rfl A_StmtParser_token ?_;refine EXS_cons ?_;refine EX_if ?_
  apply ET_andP
  · skip
    refine ET_cmp rfl ?_;refine EV_attr (fun _ => rfl) ?_;refine EV_name rfl ?_;refine T1_attrF rfl rfl A_Token_kind ?_;refine EV_strS (c := KD.punct.str) (by kernel_rfl) ?_;refine T2_eq_k ?_;refine ⟨_,rfl,?_⟩;exact ⟨rfl,rfl⟩
  · intro hb;have hv := tokv_of hb;refine ET_and1 ?_;refine ET_cmp rfl ?_;refine EV_attr (fun _ => rfl) ?_;refine EV_name rfl ?_;refine T1_tokv hv ?_;refine EV_glob (by kernel_rfl) G_STEPS (by kernel_rfl) V_STEPS ?_;refine T2_in_tl ?_;refine ⟨_,rfl,?_⟩;exact ⟨rfl,rfl⟩
  refine ite_go (fun hb => ?_) (fun hb => ?_)
  · have h := RQ.pos h hb;have hv := tokv_of (Bool.and_eq_true_iff.mp hb).1;refine EXS_cons ?_;refine EXx ?_;refine EV_meth _ (fun _ => rfl) ?_;refine EV_name rfl ?_;refine MC_inst hI.p rfl M_StmtParser_take rfl ?_;refine EA_nil ?_;refine CV_of_CL ?_;refine take_ hb_ hT hI (RQ.call h hx (fun _ z => z) fun t ps' H e hI hx hx2 h => ?_);refine EXS_cons ?_;refine EXa ?_;refine EV_meth _ (fun _ => rfl) ?_;refine EV_name rfl ?_;refine MC_inst hI.p rfl M_StmtParser_unary rfl ?_;refine EA_nil ?_;refine CV_of_CL ?_;refine hS (.unary) _ _ _ _ _ _ trivial hI (RQ.call h hx (fun _ z => z) fun t ps H e hI hx hx2 h hN => ?_);obtain ⟨k,m,q,rfl,hnm⟩ := hN rfl;rw [toV_node hb_ hT];refine EXS_cons ?_;refine EXx ?_;refine EV_meth _ (fun _ => rfl) ?_;refine EV_name rfl ?_;refine MC_inst hI.p rfl M_StmtParser_need_target rfl ?_;refine EA_pe (PEs_cons PE_name PEs_nil) ?_;refine CV_of_CL ?_;rw [← toV_node hb_ hT];refine need_target_ hb_ hT hI ⟨_,_,_,rfl,hnm⟩ (RQ.call h hx (fun _ z => z) fun u ps₂ H e2 hI hx hx2 h => ?_);rw [toV_node hb_ hT];refine EXS_cons ?_;refine EX_return ?_;refine EV_Node hb_ hT (by kernel_rfl) rfl ?_;refine EA_cons rfl ?_;refine EV_strS (c := [85,112,100,97,116,101]) (by kernel_rfl) ?_;refine EA_cons rfl ?_;refine EV_attr (fun _ => rfl) ?_;refine EV_name rfl ?_;refine T1_attrF rfl rfl A_Token_line ?_;refine EA_cons rfl ?_;refine EV_listF ?_;refine EA_cons rfl ?_;refine EV_attr (fun _ => rfl) ?_;refine EV_name rfl ?_;refine T1_tokv hv ?_;refine EA_cons rfl ?_;refine EV_bool ?_;refine EA_cons rfl ?_;refine EV_name rfl ?_;refine EA_nil ?_;refine lb ?_;refine EA_nil ?_;refine ⟨_,_,_,rfl,?_⟩;have := RQ.done h hI hx ⟨_,_,_,rfl,not_name rfl⟩;rw [toV_node hb_ hT,toVs,toVs,toVs,toVs,toV,toV,toV_node hb_ hT] at this;exact this
  have h := RQ.neg h (nf hb);refine EXS_nil ?_;refine EXS_cons ?_;refine EXa ?_
  apply EV_bandP
  · refine EV_cmp rfl ?_;refine EV_attr (fun _ => rfl) ?_;refine EV_name rfl ?_;refine T1_attrF rfl rfl A_Token_kind ?_;refine EV_strS (c := KD.punct.str) (by kernel_rfl) ?_;refine T2_eq_k ?_;exact ⟨rfl,rfl⟩
  · intro hb;have hv := tokv_of hb;refine EV_bone ?_;refine EV_cmp rfl ?_;refine EV_attr (fun _ => rfl) ?_;refine EV_name rfl ?_;refine T1_tokv hv ?_;refine EV_glob (by kernel_rfl) G_UNARY_SIGNS (by kernel_rfl) V_UNARY_SIGNS ?_;refine T2_in_tl ?_;exact ⟨rfl,rfl⟩
  refine EXS_cons ?_;refine EXa ?_
  apply EV_bandP
  · refine EV_cmp rfl ?_;refine EV_attr (fun _ => rfl) ?_;refine EV_name rfl ?_;refine T1_attrF rfl rfl A_Token_kind ?_;refine EV_strS (c := KD.keyword.str) (by kernel_rfl) ?_;refine T2_eq_k ?_;exact ⟨rfl,rfl⟩
  · intro hb;have hv := tokv_of hb
    apply EV_bandP
    · refine EV_cmp rfl ?_;refine EV_attr (fun _ => rfl) ?_;refine EV_name rfl ?_;refine T1_tokv hv ?_;refine EV_glob (by kernel_rfl) G_UNARY_WORDS (by kernel_rfl) V_UNARY_WORDS ?_;refine T2_in_tl ?_;exact ⟨rfl,rfl⟩
    · intro hb;refine EV_bone ?_;refine EV_attr (fun _ => rfl) ?_;refine EV_name rfl ?_;refine T1_attrF rfl rfl A_Token_is_plain ?_;exact ⟨rfl,rfl⟩
    exact ⟨rfl,rfl⟩
  refine EXS_cons ?_;refine EX_if ?_
  apply ET_andP
  · skip
    refine ET_not ?_;refine ET_val (fun _ _ => rfl) ?_;refine EV_name rfl ?_;refine ⟨_,rfl,?_⟩;exact ⟨rfl,rfl⟩
  · intro _;refine ET_and1 ?_;refine ET_not ?_;refine ET_val (fun _ _ => rfl) ?_;refine EV_name rfl ?_;refine ⟨_,rfl,?_⟩;exact ⟨rfl,rfl⟩
  refine ite_go (fun hb => ?_) (fun hb => ?_)
  · have h := RQ.neg h (nf (and_not2 hb));refine EXS_cons ?_;refine EX_return ?_;refine EV_meth _ (fun _ => rfl) ?_;refine EV_name rfl ?_;refine MC_inst hI.p rfl M_StmtParser_postfix rfl ?_;refine EA_nil ?_;refine CV_of_CL ?_;refine hS .postf _ _ _ _ _ _ trivial hI (RQ.tail h hx fun t ps H hI hx hx2 h hN => ?_);exact h (hN rfl)
  have hbb := and_not2' hb;have h := RQ.pos h hbb;have hv : tokVal ps.tok = .str (SS ps.tok.v) := by
    rcases Bool.or_eq_true_iff.mp hbb with z | z
    · exact tokv_of (Bool.and_eq_true_iff.mp z).1
    · exact tokv_of (Bool.and_eq_true_iff.mp z).1
  refine EXS_nil ?_;refine EXS_cons ?_;refine EXx ?_;refine EV_meth _ (fun _ => rfl) ?_;refine EV_name rfl ?_;refine MC_inst hI.p rfl M_StmtParser_take rfl ?_;refine EA_nil ?_;refine CV_of_CL ?_;refine take_ hb_ hT hI (RQ.call h hx (fun _ z => z) fun t ps' H e hI hx hx2 h => ?_);refine EXS_cons ?_;refine EXa ?_;refine EV_meth _ (fun _ => rfl) ?_;refine EV_name rfl ?_;refine MC_inst hI.p rfl M_StmtParser_unary rfl ?_;refine EA_nil ?_;refine CV_of_CL ?_;refine hS .unary _ _ _ _ _ _ trivial hI (RQ.call h hx (fun _ z => z) fun t ps₂ H e hI hx hx2 h hN => ?_);obtain ⟨k,m,q,rfl,hnm⟩ := hN rfl;rw [toV_node hb_ hT];refine EXS_cons ?_;refine EX_if ?_;refine ET_cmp rfl ?_;refine EV_attr (fun _ => rfl) ?_;refine EV_name rfl ?_;refine T1_tokv hv ?_;refine EV_strS (c := [100,101,108,101,116,101]) (by kernel_rfl) ?_;refine T2_eq_l ?_;refine ⟨_,rfl,?_⟩;have fin : ∀ (H₃ : MH),H₃ = H→RQ (PInv T js) js.A X H₀ (.ok (Mine.T.node [85,110,97,114,121] ps.tok.line [.str ps.tok.v,.node k m q],ps₂)) (fun t _ H' => NodeOk t→Q (toV t) H')→Q (V.obj 31 ["kind","line","parts","scope"] [.str (SS [85,110,97,114,121]),.int ps.tok.line,.lst [.str (SS ps.tok.v),.obj 31 ["kind","line","parts","scope"] [.str (SS k),.int m,.lst (toVs q),.none]],.none]) H := by
    intro _ _ h;have := RQ.done h hI hx ⟨_,_,_,rfl,not_name rfl⟩;rw [toV_node hb_ hT,toVs,toVs,toVs,toV,toV_node hb_ hT] at this;exact this
  refine ite_go (fun hb2 => ?_) (fun hb2 => ?_)
  · refine EXS_cons ?_;refine EXx ?_;refine EV_meth _ (fun _ => rfl) ?_;refine EV_name rfl ?_;refine MC_inst hI.p rfl M_StmtParser_fail_for rfl ?_;refine EA_cons rfl ?_;refine EV_callg (by kernel_rfl) G_delete_fault (by kernel_rfl) Gk_delete_fault rfl ?_;refine EA_cons rfl ?_;refine EV_attr (fun _ => rfl) ?_;refine EV_name rfl ?_;refine T1_attrF rfl rfl A_Node_kind ?_;refine EA_cons rfl ?_;refine EV_attr (fun _ => rfl) ?_;refine EV_name rfl ?_;refine T1_attr hI.p rfl rfl A_StmtParser_is_strict ?_;refine EA_nil ?_;refine CV_of_CL ?_;refine delete_fault_ hb_ hT (fun hb3 => ?_) (fun hb3 m => ?_)
    · refine EA_nil ?_;refine CV_of_CL ?_;refine fail_for_none hb_ hT ?_;have h := RQ.neg h (by show ¬ ((ps.tok.v == [100,101,108,101,116,101]) && (ps₂.strict && k == [78,97,109,101])) = true; rw [hb3,Bool.and_false]; exact Bool.false_ne_true);refine EXS_nil ?_;refine EXS_cons ?_;refine EX_return ?_;refine EV_Node hb_ hT (by kernel_rfl) rfl ?_;refine EA_cons rfl ?_;refine EV_strS (c := [85,110,97,114,121]) (by kernel_rfl) ?_;refine EA_cons rfl ?_;refine EV_attr (fun _ => rfl) ?_;refine EV_name rfl ?_;refine T1_attrF rfl rfl A_Token_line ?_;refine EA_cons rfl ?_;refine EV_listF ?_;refine EA_cons rfl ?_;refine EV_attr (fun _ => rfl) ?_;refine EV_name rfl ?_;refine T1_tokv hv ?_;refine EA_cons rfl ?_;refine EV_name rfl ?_;refine EA_nil ?_;refine lb ?_;refine EA_nil ?_;refine ⟨_,_,_,rfl,?_⟩;exact fin _ rfl h
    · refine EA_nil ?_;refine CV_of_CL ?_;have h := RQ.pos h (by show ((ps.tok.v == [100,101,108,101,116,101]) && (ps₂.strict && k == [78,97,109,101])) = true; rw [hb2,hb3]; rfl);exact CL_fail (RQ.failed (show RQ (PInv T js) js.A X H₀ (.fail ps₂.tok.line) _ from h) hx)
  · have h := RQ.neg h (by show ¬ ((ps.tok.v == [100,101,108,101,116,101]) && (ps₂.strict && k == [78,97,109,101])) = true; rw [hb2]; exact Bool.false_ne_true);refine EXS_nil ?_;refine EXS_cons ?_;refine EX_return ?_;refine EV_Node hb_ hT (by kernel_rfl) rfl ?_;refine EA_cons rfl ?_;refine EV_strS (c := [85,110,97,114,121]) (by kernel_rfl) ?_;refine EA_cons rfl ?_;refine EV_attr (fun _ => rfl) ?_;refine EV_name rfl ?_;refine T1_attrF rfl rfl A_Token_line ?_;refine EA_cons rfl ?_;refine EV_listF ?_;refine EA_cons rfl ?_;refine EV_attr (fun _ => rfl) ?_;refine EV_name rfl ?_;refine T1_tokv hv ?_;refine EA_cons rfl ?_;refine EV_name rfl ?_;refine EA_nil ?_;refine lb ?_;refine EA_nil ?_;refine ⟨_,_,_,rfl,?_⟩;exact fin _ rfl h
theorem postf_ (hI : PInv T js ps H) {Q : V→MH→Prop} (h : RQ (PInv T js) js.A X H (P.postf (P.run n) ps) fun t _ H' => NodeOk t→Q (toV t) H') : CL (W0 w mb xt) ⟨n + 13,X⟩ l H f_ExprParser_postfix [.ref js.p] Q := by
  have hx : Ext js.A H H := Ext.refl;refine CL_def F_ExprParser_postfix rfl ?_;refine EXS_cons ?_;refine EXa ?_;refine EV_meth _ (fun _ => rfl) ?_;refine EV_name rfl ?_;refine MC_inst hI.p rfl M_StmtParser_left_hand rfl ?_;refine EA_nil ?_;refine CV_of_CL ?_;refine hS (.leftHand) _ _ _ _ _ _ trivial hI (RQ.call h hx (fun _ z => z) fun t ps H e hI hx hx2 h hN => ?_);obtain ⟨k,m,q,rfl,hnm⟩ := hN rfl;rw [toV_node hb_ hT];refine EXS_cons ?_;refine EX_if ?_
  apply ET_orP
  · skip
    refine ET_cmp rfl ?_;refine EV_attr (fun _ => rfl) ?_;refine EV_attr (fun _ => rfl) ?_;refine EV_name rfl ?_;refine T1_attr hI.p rfl rfl A_StmtParser_token ?_;refine T1_attrF rfl rfl A_Token_kind ?_;refine EV_strS (c := KD.punct.str) (by kernel_rfl) ?_;refine T2_ne_k ?_;refine ⟨_,rfl,?_⟩;exact ⟨rfl,rfl⟩
  · intro hb;have hv := tokv_of (of_bne hb)
    apply ET_orP
    · skip
      refine ET_cmp rfl ?_;refine EV_attr (fun _ => rfl) ?_;refine EV_attr (fun _ => rfl) ?_;refine EV_name rfl ?_;refine T1_attr hI.p rfl rfl A_StmtParser_token ?_;refine T1_tokv hv ?_;refine EV_glob (by kernel_rfl) G_STEPS (by kernel_rfl) V_STEPS ?_;refine T2_notin_tl ?_;refine ⟨_,rfl,?_⟩;exact ⟨rfl,rfl⟩
    · intro _;refine ET_or1 ?_;refine ET_val (fun _ _ => rfl) ?_;refine EV_attr (fun _ => rfl) ?_;refine EV_attr (fun _ => rfl) ?_;refine EV_name rfl ?_;refine T1_attr hI.p rfl rfl A_StmtParser_token ?_;refine T1_attrF rfl rfl A_Token_is_behind_line ?_;refine ⟨_,rfl,?_⟩;exact ⟨rfl,rfl⟩
    exact ⟨rfl,rfl⟩
  refine ite_go (fun hb => ?_) (fun hb => ?_)
  · have h := RQ.neg h (nf (or_not3 hb));refine EXS_cons ?_;refine EX_return ?_;refine EV_name rfl ?_;rw [← toV_node hb_ hT];exact RQ.done h hI hx ⟨_,_,_,rfl,hnm⟩
  have h := RQ.pos h (or_not3' hb);have hv := tokv_of (Bool.and_eq_true_iff.mp (or_not3' hb)).1;refine EXS_nil ?_;refine EXS_cons ?_;refine EXx ?_;refine EV_meth _ (fun _ => rfl) ?_;refine EV_name rfl ?_;refine MC_inst hI.p rfl M_StmtParser_need_target rfl ?_;refine EA_pe (PEs_cons PE_name PEs_nil) ?_;refine CV_of_CL ?_;rw [← toV_node hb_ hT];refine need_target_ hb_ hT hI ⟨_,_,_,rfl,hnm⟩ (RQ.call h hx (fun _ z => z) fun u ps₂ H e2 hI hx hx2 h => ?_);have e3 := need_tgt hb_ hT e2;subst e3;rw [toV_node hb_ hT];refine EXS_cons ?_;refine EX_return ?_;refine EV_Node hb_ hT (by kernel_rfl) rfl ?_;refine EA_cons rfl ?_;refine EV_strS (c := [85,112,100,97,116,101]) (by kernel_rfl) ?_;refine EA_cons rfl ?_;refine EV_attr (fun _ => rfl) ?_;refine EV_name rfl ?_;refine T1_attrF rfl rfl A_Node_line ?_;refine EA_cons rfl ?_;refine EV_listF ?_;refine EA_cons rfl ?_;refine EV_attr (fun _ => rfl) ?_;refine EV_meth _ (fun _ => rfl) ?_;refine EV_name rfl ?_;refine MC_inst hI.p rfl M_StmtParser_take rfl ?_;refine EA_nil ?_;refine CV_of_CL ?_;refine take_ hb_ hT hI (RQ.call h hx (fun _ z => z) fun t ps H e hI hx hx2 h => ?_);obtain rfl := take_tok hb_ hT e;refine T1_tokv hv ?_;refine EA_cons rfl ?_;refine EV_bool ?_;refine EA_cons rfl ?_;refine EV_name rfl ?_;refine EA_nil ?_;refine lb ?_;refine EA_nil ?_;refine ⟨_,_,_,rfl,?_⟩;have := RQ.done h hI hx ⟨_,_,_,rfl,not_name rfl⟩;rw [toV_node hb_ hT,toVs,toVs,toVs,toVs,toV,toV,toV_node hb_ hT] at this;exact this
theorem left_hand_ (hI : PInv T js ps H) {Q : V→MH→Prop} (h : RQ (PInv T js) js.A X H (P.leftHand (P.run n) ps) fun t _ H' => NodeOk t→Q (toV t) H') : CL (W0 w mb xt) ⟨n + 13,X⟩ l H f_ExprParser_left_hand [.ref js.p] Q := by
  have hx : Ext js.A H H := Ext.refl;refine CL_def F_ExprParser_left_hand rfl ?_;unfold P.leftHand at h;refine EXS_cons ?_;refine EXa ?_;refine EV_meth _ (fun _ => rfl) ?_;refine EV_name rfl ?_;refine MC_inst hI.p rfl M_StmtParser_with_members rfl ?_;refine EA_cons rfl ?_;refine EV_if ?_;refine ET_val (fun _ _ => rfl) ?_;refine EV_meth _ (fun _ => rfl) ?_;refine EV_name rfl ?_;refine MC_inst hI.p rfl M_StmtParser_is_word rfl ?_;refine EA_pe (PEs_cons (PE_str (c := [110,101,119]) (by kernel_rfl)) PEs_nil) ?_;refine CV_of_CL ?_;refine is_word_ hb_ hT hI ?_;refine ⟨_,rfl,?_⟩;refine ite_go (fun hb => ?_) (fun hb => ?_)
  · exact (RQ.pos h hb).elim
  have h := RQ.neg h (nf hb);refine EV_meth _ (fun _ => rfl) ?_;refine EV_name rfl ?_;refine MC_inst hI.p rfl M_StmtParser_primary rfl ?_;refine EA_nil ?_;refine CV_of_CL ?_;refine hS .primary _ _ _ _ _ _ trivial hI (RQ.call h hx (fun _ z => z) fun t ps H e hI hx hx2 h hN => ?_);refine EA_nil ?_;refine CV_of_CL ?_;refine hS (.withMembers t) _ _ _ _ _ _ (hN rfl) hI (RQ.call h hx (fun _ z => z) fun t ps H e hI hx hx2 h hN => ?_);obtain ⟨k,m,q,rfl,hnm⟩ := hN rfl;refine EXS_cons ?_;refine EX_whileA (fun j l H' => ∃ k m q ps,l = [("self",.ref js.p),("node",toV (.node k m q))]∧PInv T js ps H'∧Ext js.A _ H'∧(k = [78,97,109,101]→∃ x,q = [Mine.T.str x]∧x.length < 60000) ∧
      RQ (PInv T js) js.A X _ (P.loopM j (P.callTurn (P.run n)) (.node k m q) ps) fun t _ H' => NodeOk t→Q (toV t) H') P.LN (LSub_cons rfl (LSub_cons rfl LSub_nil)) ⟨k,m,q,ps,rfl,hI,hx,hnm,h⟩ ?_
  rintro Iv up j l H ⟨k,m,q,ps0,rfl,hI,hx,hnm,h⟩
  cases j with
  | zero => exact h.elim
  | succ j =>
  refine ET_val (fun _ _ => rfl) ?_;refine EV_meth _ (fun _ => rfl) ?_;refine EV_name rfl ?_;refine MC_inst hI.p rfl M_StmtParser_is_sign rfl ?_;refine EA_pe (PEs_cons (PE_str (c := [40]) (by kernel_rfl)) PEs_nil) ?_;refine CV_of_CL ?_;refine is_sign_ hb_ hT hI ?_;refine ⟨_,rfl,?_⟩;refine ite_go (fun hb => ?_) (fun hb => ?_)
  · have h := RQ.unbind (I := PInv T js) (RQ.posB h hb);rw [toV_node hb_ hT];refine EXS_cons ?_;refine EXa ?_;refine EV_meth _ (fun _ => rfl) ?_;refine EV_name rfl ?_;refine MC_inst hI.p rfl M_StmtParser_with_members rfl ?_;refine EA_cons rfl ?_;refine EV_Node hb_ hT (by kernel_rfl) rfl ?_;refine EA_cons rfl ?_;refine EV_strS (c := [67,97,108,108]) (by kernel_rfl) ?_;refine EA_cons rfl ?_;refine EV_attr (fun _ => rfl) ?_;refine EV_name rfl ?_;refine T1_attrF rfl rfl A_Node_line ?_;refine EA_cons rfl ?_;refine EV_listF ?_;refine EA_cons rfl ?_;refine EV_name rfl ?_;refine EA_cons rfl ?_;refine EV_meth _ (fun _ => rfl) ?_;refine EV_name rfl ?_;refine MC_inst hI.p rfl M_StmtParser_arguments rfl ?_;refine EA_nil ?_;refine CV_of_CL ?_;refine hS .arguments _ _ _ _ _ _ trivial hI (RQ.call h hx (fun _ z => z) fun a ps H e hI hx hx2 h _ => ?_);refine EA_nil ?_;refine lb ?_;refine EA_nil ?_;refine ⟨_,_,_,rfl,?_⟩;refine EA_nil ?_;refine CV_of_CL ?_;have e : V.obj 31 ["kind","line","parts","scope"] [.str (SS [67,97,108,108]),.int m,.lst [.obj 31 ["kind","line","parts","scope"] [.str (SS k),.int m,.lst (toVs q),.none],toV a],.none] = toV (.node [67,97,108,108] m [.node k m q,a]) := by
      rw [toV_node hb_ hT,toVs,toVs,toVs,toV_node hb_ hT]
    rw [e];refine hS (.withMembers (.node [67,97,108,108] m [.node k m q,a])) _ _ _ _ _ _ ⟨_,_,_,rfl,not_name rfl⟩ hI (RQ.call h hx (fun _ z => z) fun t ps H e hI hx hx2 h hN => ?_);obtain ⟨k2,m2,q2,rfl,hnm2⟩ := hN rfl;have h := RQ.done h hI hx;refine EXS_nil ?_;exact ⟨j,[("self",.ref js.p),("node",toV (.node k2 m2 q2))],Nat.lt_succ_self _,LSub_cons rfl (LSub_cons rfl LSub_nil),up _ _ _ ⟨k2,m2,q2,ps,rfl,hI,hx,hnm2,h⟩⟩
  · have h := RQ.done (RQ.unbind (I := PInv T js) (RQ.negB h (nf hb))) hI hx;have h := RQ.done h hI hx ⟨_,_,_,rfl,hnm⟩;refine EXS_nil ?_;refine EXS_cons ?_;refine EX_return ?_;refine EV_name rfl ?_;exact h
end
end Mine
end
section
open PySem PySem.W PySem.Calls PyProof.Rows Hd
namespace Mine
section
variable {w : World} {mb : Str→Option Value} {xt : Led} {n : Nat} {X : Nat→MH→Prop} {l : Loc} {H H₀ : MH} (hb_ : ∀ x : Str,x ≠ "__name__"→mb x = bootBuiltins x) {T : List Nat} (hT : TxtOk T) {js : Js} {ps : PS}
include hb_ hT
variable (hS : SPEC w mb xt T n)
include hS
theorem array_ {ps9 : PS} (hI : PInv T js ps9 H₀) {Q : V→MH→Prop} (h : RQ (PInv T js) js.A X H₀ (P.array (P.run n) ps9) fun t _ H' => NodeOk t→Q (toV t) H') : CL (W0 w mb xt) ⟨n + 13,X⟩ l H₀ f_ExprParser_array [.ref js.p] Q := by
  have hx : Ext js.A H₀ H₀ := Ext.refl;refine CL_def F_ExprParser_array rfl ?_;refine EXS_cons ?_;refine EXa ?_;refine EV_attr (fun _ => rfl) ?_;refine EV_meth _ (fun _ => rfl) ?_;refine EV_name rfl ?_;refine MC_inst hI.p rfl M_StmtParser_take rfl ?_;refine EA_nil ?_;refine CV_of_CL ?_;refine take_ hb_ hT hI (RQ.call h hx (fun _ z => z) fun t ps H e hI hx hx2 h => ?_);obtain rfl := take_tok hb_ hT e;refine T1_attrF rfl rfl A_Token_line ?_;have h : RQ (PInv T js) js.A X H₀ (P.loopM P.LN (P.arrTurn (P.run n) ps9.tok.line) [] ps) _ := h
  generalize ps9.tok.line = ln at h ⊢
  refine EXS_cons ?_;refine EXa ?_;refine EV_listM ?_;refine EA_nil ?_;refine ⟨by decide,fun afound ha => ?_⟩;have hA := hI.fresh ha;have hH0 := hx.noneB ha hA;have hI := hI.put (o := .list []) hA;have hx := hx.loc (o := .list []) hH0;have hf : MH.put H afound (.list []) afound = some (.list (toVs [])) := put_self
  generalize MH.put H afound _ = H at hI hx hf ⊢
  refine EXS_cons ?_;refine EX_whileA (fun j l H' => ∃ acc ps,l = [("self",.ref js.p),("line",.int ln),("found",.ref afound)]∧PInv T js ps H'∧Ext js.A H₀ H'∧H' afound = some (.list (toVs acc))∧acc.length + j ≤ P.LN ∧
      RQ (PInv T js) js.A X H₀ (P.loopM j (P.arrTurn (P.run n) ln) acc ps) fun t _ H' => NodeOk t→Q (toV t) H') P.LN (LSub_cons rfl (LSub_cons rfl (LSub_cons rfl LSub_nil))) ⟨[],_,rfl,hI,hx,hf,Nat.le_of_eq (Nat.zero_add _),h⟩ ?_
  rintro Iv up j l H ⟨acc,ps0,rfl,hI,hx,hf,hj,h⟩
  cases j with
  | zero => exact h.elim
  | succ j =>
  have hsz : (toVs acc).length < 1000000 := by rw [toVs_len]; unfold P.LN at hj; omega
  refine ET_not ?_;refine ET_val (fun _ _ => rfl) ?_;refine EV_meth _ (fun _ => rfl) ?_;refine EV_name rfl ?_;refine MC_inst hI.p rfl M_StmtParser_is_sign rfl ?_;refine EA_pe (PEs_cons (PE_str (c := [93]) (by kernel_rfl)) PEs_nil) ?_;refine CV_of_CL ?_;refine is_sign_ hb_ hT hI ?_;refine ⟨_,rfl,?_⟩;refine ite_go (fun hb => ?_) (fun hb => ?_)
  · have h := RQ.unbind (I := PInv T js) (RQ.negB h (nf (by simpa using hb)));refine EXS_cons ?_;refine EX_if ?_;refine ET_val (fun _ _ => rfl) ?_;refine EV_meth _ (fun _ => rfl) ?_;refine EV_name rfl ?_;refine MC_inst hI.p rfl M_StmtParser_eat rfl ?_;refine EA_pe (PEs_cons (PE_str (c := [44]) (by kernel_rfl)) PEs_nil) ?_;refine CV_of_CL ?_;refine eat_ hb_ hT hI (RQ.call h hx (fun _ z => z) fun b ps H e hI hx hx2 h => ?_);refine ⟨_,rfl,?_⟩
    cases b with
    | true =>
      refine ite_go (fun _ => ?_) (fun z => nomatch z);have h := RQ.posM h rfl;have h := RQ.done h hI hx;have hf := hx2 _ _ hA hf;refine EXS_cons ?_;refine EXx ?_;refine EV_meth _ (fun _ => rfl) ?_;refine EV_name rfl ?_;refine MC_append hf rfl ?_;refine EV_none ?_;refine ⟨_,hf,hsz,?_⟩;rw [show toVs acc ++ [V.none] = toVs acc ++ [toV .none] from by rw [toV]];rw [show toVs acc ++ [_] = toVs (acc ++ [.none]) from (toVs_snoc acc .none).symm];have hI := hI.put (o := .list (toVs (acc ++ [.none]))) hA;have hx := hx.loc (o := .list (toVs (acc ++ [.none]))) hH0;have hf : MH.put H afound (.list (toVs (acc ++ [.none]))) afound = some (.list (toVs (acc ++ [.none]))) := put_self
      generalize MH.put H afound _ = H at hI hx hf ⊢
      refine EXS_cons ?_;refine EX_continue ?_;exact ⟨j,_,Nat.lt_succ_self _,LSub_cons rfl (LSub_cons rfl (LSub_cons rfl LSub_nil)),up _ _ _ ⟨acc ++ [.none],ps,rfl,hI,hx,hf,by rw [List.length_append]; simp; omega,h⟩⟩
    | false =>
      refine ite_go (fun z => nomatch z) (fun _ => ?_);have h := RQ.negM h Bool.false_ne_true;have hf := hx2 _ _ hA hf;refine EXS_nil ?_;refine EXS_cons ?_;refine EXx ?_;refine EV_meth _ (fun _ => rfl) ?_;refine EV_name rfl ?_;refine MC_append hf rfl ?_;refine EV_meth _ (fun _ => rfl) ?_;refine EV_name rfl ?_;refine MC_inst hI.p rfl M_StmtParser_assignment rfl ?_;refine EA_pe (PEs_cons PE_bool PEs_nil) ?_;refine CV_of_CL ?_;refine hS (.assignment true) _ _ _ _ _ _ trivial hI (RQ.call h hx (fun _ z => z) fun t ps H e hI hx hx2 h _ => ?_);have hf := hx2 _ _ hA hf;refine ⟨_,hf,hsz,?_⟩;rw [show toVs acc ++ [_] = toVs (acc ++ [t]) from (toVs_snoc acc t).symm];have hI := hI.put (o := .list (toVs (acc ++ [t]))) hA;have hx := hx.loc (o := .list (toVs (acc ++ [t]))) hH0;have hf : MH.put H afound (.list (toVs (acc ++ [t]))) afound = some (.list (toVs (acc ++ [t]))) := put_self
      generalize MH.put H afound _ = H at hI hx hf ⊢
      refine EXS_cons ?_;refine EX_if ?_;refine ET_not ?_;refine ET_val (fun _ _ => rfl) ?_;refine EV_meth _ (fun _ => rfl) ?_;refine EV_name rfl ?_;refine MC_inst hI.p rfl M_StmtParser_is_sign rfl ?_;refine EA_pe (PEs_cons (PE_str (c := [93]) (by kernel_rfl)) PEs_nil) ?_;refine CV_of_CL ?_;refine is_sign_ hb_ hT hI ?_;refine ⟨_,rfl,?_⟩;refine ite_go (fun hb => ?_) (fun hb => ?_)
      · have h := RQ.neg h (nf (by simpa using hb));refine EXS_cons ?_;refine EXx ?_;refine EV_meth _ (fun _ => rfl) ?_;refine EV_name rfl ?_;refine MC_inst hI.p rfl M_StmtParser_need rfl ?_;refine EA_pe (PEs_cons (PE_str (c := [44]) (by kernel_rfl)) PEs_nil) ?_;refine CV_of_CL ?_;refine need_ hb_ hT hI (RQ.call h hx (fun _ z => z) fun u ps H e hI hx hx2 h => ?_);have h := RQ.done h hI hx;have hf := hx2 _ _ hA hf;refine EXS_nil ?_;refine EXS_nil ?_;exact ⟨j,_,Nat.lt_succ_self _,LSub_cons rfl (LSub_cons rfl (LSub_cons rfl LSub_nil)),up _ _ _ ⟨acc ++ [t],_,rfl,hI,hx,hf,by rw [List.length_append]; simp; omega,h⟩⟩
      · have h := RQ.done (RQ.pos h (by simpa using hb)) hI hx;refine EXS_nil ?_;refine EXS_nil ?_;exact ⟨j,_,Nat.lt_succ_self _,LSub_cons rfl (LSub_cons rfl (LSub_cons rfl LSub_nil)),up _ _ _ ⟨acc ++ [t],_,rfl,hI,hx,hf,by rw [List.length_append]; simp; omega,h⟩⟩
  · have h := RQ.unbind (I := PInv T js) (RQ.posB h (by simpa using hb));refine EXS_nil ?_;refine EXS_cons ?_;refine EXx ?_;refine EV_meth _ (fun _ => rfl) ?_;refine EV_name rfl ?_;refine MC_inst hI.p rfl M_StmtParser_need rfl ?_;refine EA_pe (PEs_cons (PE_str (c := [93]) (by kernel_rfl)) PEs_nil) ?_;refine CV_of_CL ?_;refine need_ hb_ hT hI (RQ.call h hx (fun _ z => z) fun u ps H e hI hx hx2 h => ?_);have hf := hx2 _ _ hA hf;have h := RQ.done h hI hx;refine EXS_freeze (x := "found") rfl hf ?_;refine EXS_cons ?_;refine EX_return ?_;refine EV_Node hb_ hT (by kernel_rfl) rfl ?_;refine EA_pe (PEs_cons (PE_str (c := [65,114,114,97,121]) (by kernel_rfl)) (PEs_cons PE_name (PEs_cons (PE_list (PEs_cons PE_name PEs_nil)) PEs_nil))) ?_;refine ⟨_,_,_,rfl,?_⟩;have := RQ.done h (hI.drop hA) (hx.dropped hH0) ⟨_,_,_,rfl,not_name rfl⟩;rw [toV_node hb_ hT,toVs,toVs,toV] at this;exact this
theorem arguments_ (hI : PInv T js ps H₀) {Q : V→MH→Prop} (h : RQ (PInv T js) js.A X H₀ (P.arguments (P.run n) ps) fun t _ H' => Q (toV t) H') : CL (W0 w mb xt) ⟨n + 13,X⟩ l H₀ f_ExprParser_arguments [.ref js.p] Q := by
  have hx : Ext js.A H₀ H₀ := Ext.refl;refine CL_def F_ExprParser_arguments rfl ?_;refine EXS_cons ?_;refine EXx ?_;refine EV_meth _ (fun _ => rfl) ?_;refine EV_name rfl ?_;refine MC_inst hI.p rfl M_StmtParser_need rfl ?_;refine EA_pe (PEs_cons (PE_str (c := [40]) (by kernel_rfl)) PEs_nil) ?_;refine CV_of_CL ?_;refine need_ hb_ hT hI (RQ.call h hx (fun _ z => z) fun u ps H e hI hx hx2 h => ?_);refine EXS_cons ?_;refine EXa ?_;refine EV_listM ?_;refine EA_nil ?_;refine ⟨by decide,fun afound ha => ?_⟩;have hA := hI.fresh ha;have hH0 := hx.noneB ha hA;have hI := hI.put (o := .list []) hA;have hx := hx.loc (o := .list []) hH0;have hf : MH.put H afound (.list []) afound = some (.list (toVs [])) := put_self
  generalize MH.put H afound _ = H at hI hx hf ⊢
  refine EXS_cons ?_;refine EX_whileA (fun j l H' => ∃ acc ps,l = [("self",.ref js.p),("found",.ref afound)]∧PInv T js ps H'∧Ext js.A H₀ H'∧H' afound = some (.list (toVs acc))∧acc.length + j ≤ P.LN ∧
      RQ (PInv T js) js.A X H₀ (P.loopM j (P.argTurn (P.run n)) acc ps) fun t _ H' => Q (toV t) H') P.LN (LSub_cons rfl (LSub_cons rfl LSub_nil)) ⟨[],_,rfl,hI,hx,hf,Nat.le_of_eq (Nat.zero_add _),h⟩ ?_
  rintro Iv up j l H ⟨acc,ps0,rfl,hI,hx,hf,hj,h⟩
  cases j with
  | zero => exact h.elim
  | succ j =>
  have hsz : (toVs acc).length < 1000000 := by rw [toVs_len]; unfold P.LN at hj; omega
  refine ET_not ?_;refine ET_val (fun _ _ => rfl) ?_;refine EV_meth _ (fun _ => rfl) ?_;refine EV_name rfl ?_;refine MC_inst hI.p rfl M_StmtParser_is_sign rfl ?_;refine EA_pe (PEs_cons (PE_str (c := [41]) (by kernel_rfl)) PEs_nil) ?_;refine CV_of_CL ?_;refine is_sign_ hb_ hT hI ?_;refine ⟨_,rfl,?_⟩;refine ite_go (fun hb => ?_) (fun hb => ?_)
  · have h := RQ.unbind (I := PInv T js) (RQ.negB h (nf (by simpa using hb)));refine EXS_cons ?_;refine EXx ?_;refine EV_meth _ (fun _ => rfl) ?_;refine EV_name rfl ?_;refine MC_append hf rfl ?_;refine EV_meth _ (fun _ => rfl) ?_;refine EV_name rfl ?_;refine MC_inst hI.p rfl M_StmtParser_assignment rfl ?_;refine EA_pe (PEs_cons PE_bool PEs_nil) ?_;refine CV_of_CL ?_;refine hS (.assignment true) _ _ _ _ _ _ trivial hI (RQ.call h hx (fun _ z => z) fun t ps H e hI hx hx2 h _ => ?_);have hf := hx2 _ _ hA hf;refine ⟨_,hf,hsz,?_⟩;rw [show toVs acc ++ [_] = toVs (acc ++ [t]) from (toVs_snoc acc t).symm];have hI := hI.put (o := .list (toVs (acc ++ [t]))) hA;have hx := hx.loc (o := .list (toVs (acc ++ [t]))) hH0;have hf : MH.put H afound (.list (toVs (acc ++ [t]))) afound = some (.list (toVs (acc ++ [t]))) := put_self
    generalize MH.put H afound _ = H at hI hx hf ⊢
    refine EXS_cons ?_;refine EX_if ?_;refine ET_not ?_;refine ET_val (fun _ _ => rfl) ?_;refine EV_meth _ (fun _ => rfl) ?_;refine EV_name rfl ?_;refine MC_inst hI.p rfl M_StmtParser_eat rfl ?_;refine EA_pe (PEs_cons (PE_str (c := [44]) (by kernel_rfl)) PEs_nil) ?_;refine CV_of_CL ?_;refine eat_ hb_ hT hI (RQ.call h hx (fun _ z => z) fun b ps H e hI hx hx2 h => ?_);refine ⟨_,rfl,?_⟩;have hf := hx2 _ _ hA hf
    cases b with
    | true =>
      refine ite_go (fun z => nomatch z) (fun _ => ?_);have h := RQ.posM h rfl;refine EXS_nil ?_;refine EXS_cons ?_;refine EX_if ?_;refine ET_val (fun _ _ => rfl) ?_;refine EV_meth _ (fun _ => rfl) ?_;refine EV_name rfl ?_;refine MC_inst hI.p rfl M_StmtParser_is_sign rfl ?_;refine EA_pe (PEs_cons (PE_str (c := [41]) (by kernel_rfl)) PEs_nil) ?_;refine CV_of_CL ?_;refine is_sign_ hb_ hT hI ?_;refine ⟨_,rfl,?_⟩;refine ite_go (fun hb => ?_) (fun hb => ?_)
      · have h := RQ.pos h hb;refine EXS_cons ?_;refine EXx ?_;refine EV_meth _ (fun _ => rfl) ?_;refine EV_name rfl ?_;refine MC_inst hI.p rfl M_StmtParser_unexpected rfl ?_;refine EA_nil ?_;refine CV_of_CL ?_;exact CL_fail (RQ.failed (show RQ (PInv T js) js.A X H₀ (.fail ps.tok.line) _ from h) hx)
      · have h := RQ.done (RQ.neg h (nf hb)) hI hx;refine EXS_nil ?_;refine EXS_nil ?_;exact ⟨j,_,Nat.lt_succ_self _,LSub_cons rfl (LSub_cons rfl LSub_nil),up _ _ _ ⟨acc ++ [t],ps,rfl,hI,hx,hf,by rw [List.length_append]; simp; omega,h⟩⟩
    | false =>
      refine ite_go (fun _ => ?_) (fun z => nomatch z);have h := RQ.negM h Bool.false_ne_true;refine EXS_cons ?_;refine EX_break ?_;refine EXS_cons ?_;refine EXx ?_;refine EV_meth _ (fun _ => rfl) ?_;refine EV_name rfl ?_;refine MC_inst hI.p rfl M_StmtParser_need rfl ?_;refine EA_pe (PEs_cons (PE_str (c := [41]) (by kernel_rfl)) PEs_nil) ?_;refine CV_of_CL ?_;refine need_ hb_ hT hI (RQ.call h hx (fun _ z => z) fun u ps H e hI hx hx2 h => ?_);have hf := hx2 _ _ hA hf;have h := RQ.done h hI hx;refine EXS_cons ?_;refine EX_return ?_;refine EV_freeze ?_;refine EV_name rfl ?_;refine ⟨afound,_,rfl,hf,?_⟩;have := RQ.done h (hI.drop hA) (hx.dropped hH0);rw [toV] at this;exact this
  · have h := RQ.unbind (I := PInv T js) (RQ.posB h (by simpa using hb));refine EXS_nil ?_;refine EXS_cons ?_;refine EXx ?_;refine EV_meth _ (fun _ => rfl) ?_;refine EV_name rfl ?_;refine MC_inst hI.p rfl M_StmtParser_need rfl ?_;refine EA_pe (PEs_cons (PE_str (c := [41]) (by kernel_rfl)) PEs_nil) ?_;refine CV_of_CL ?_;refine need_ hb_ hT hI (RQ.call h hx (fun _ z => z) fun u ps H e hI hx hx2 h => ?_);have hf := hx2 _ _ hA hf;have h := RQ.done h hI hx;refine EXS_cons ?_;refine EX_return ?_;refine EV_freeze ?_;refine EV_name rfl ?_;refine ⟨afound,_,rfl,hf,?_⟩;have := RQ.done h (hI.drop hA) (hx.dropped hH0);rw [toV] at this;exact this
theorem expression_ (hI : PInv T js ps H₀) {i : Bool} {Q : V→MH→Prop} (h : RQ (PInv T js) js.A X H₀ (P.expression (P.run n) i ps) fun t _ H' => NodeOk t→Q (toV t) H') : CL (W0 w mb xt) ⟨n + 13,X⟩ l H₀ f_ExprParser_expression [.ref js.p,.bool i] Q := by
  have hx : Ext js.A H₀ H₀ := Ext.refl;refine CL_def F_ExprParser_expression rfl ?_;refine EXS_cons ?_;refine EXa ?_;refine EV_meth _ (fun _ => rfl) ?_;refine EV_name rfl ?_;refine MC_inst hI.p rfl M_StmtParser_assignment rfl ?_;refine EA_pe (PEs_cons PE_name PEs_nil) ?_;refine CV_of_CL ?_;refine hS ((.assignment i)) _ _ _ _ _ _ trivial hI (RQ.call h hx (fun _ z => z) fun t ps H e hI hx hx2 h hN => ?_);obtain ⟨k,m,q,rfl,hnm⟩ := hN rfl;rw [toV_node hb_ hT];refine EXS_cons ?_;refine EX_if ?_;refine ET_not ?_;refine ET_val (fun _ _ => rfl) ?_;refine EV_meth _ (fun _ => rfl) ?_;refine EV_name rfl ?_;refine MC_inst hI.p rfl M_StmtParser_is_sign rfl ?_;refine EA_pe (PEs_cons (PE_str (c := [44]) (by kernel_rfl)) PEs_nil) ?_;refine CV_of_CL ?_;refine is_sign_ hb_ hT hI ?_;refine ⟨_,rfl,?_⟩;refine ite_go (fun hb => ?_) (fun hb => ?_)
  · have h := RQ.neg h (nf (by simpa using hb));refine EXS_cons ?_;refine EX_return ?_;refine EV_name rfl ?_;rw [← toV_node hb_ hT];exact RQ.done h hI hx ⟨_,_,_,rfl,hnm⟩
  have h := RQ.pos h (by simpa using hb);refine EXS_nil ?_;refine EXS_cons ?_;refine EXa ?_;refine EV_listM ?_;refine EA_cons rfl ?_;refine EV_name rfl ?_;refine EA_nil ?_;refine ⟨Nat.le_of_ble_eq_true (by kernel_rfl),fun afound ha => ?_⟩;have hA := hI.fresh ha;have hH0 := hx.noneB ha hA;have e1 : [V.obj 31 ["kind","line","parts","scope"] [.str (SS k),.int m,.lst (toVs q),.none]] = toVs [.node k m q] := by rw [toVs,toVs,toV_node hb_ hT]
  rw [e1];have hI := hI.put (o := .list (toVs [.node k m q])) hA;have hx := hx.loc (o := .list (toVs [.node k m q])) hH0;have hf : MH.put H afound (.list (toVs [.node k m q])) afound = some (.list (toVs [.node k m q])) := put_self
  generalize MH.put H afound _ = H at hI hx hf ⊢
  have h : RQ (PInv T js) js.A X H₀ (P.loopM P.LN (P.commaTurn (P.run n) i (.node k m q)) [.node k m q] ps) _ := h;refine EXS_cons ?_;refine EX_whileA (fun j l H' => ∃ acc ps,l = [("self",.ref js.p),("can_in",.bool i),("first",.obj 31 ["kind","line","parts","scope"] [.str (SS k),.int m,.lst (toVs q),.none]),("found",.ref afound)]∧PInv T js ps H'∧Ext js.A H₀ H'∧H' afound = some (.list (toVs acc))∧acc.length + j ≤ P.LN + 1 ∧
      RQ (PInv T js) js.A X H₀ (P.loopM j (P.commaTurn (P.run n) i (.node k m q)) acc ps) fun t _ H' => NodeOk t→Q (toV t) H') P.LN (LSub_cons rfl (LSub_cons rfl (LSub_cons rfl (LSub_cons rfl LSub_nil)))) ⟨[.node k m q],_,rfl,hI,hx,hf,by simp; omega,h⟩ ?_
  rintro Iv up j l H ⟨acc,ps0,rfl,hI,hx,hf,hj,h⟩
  cases j with
  | zero => exact h.elim
  | succ j =>
  have hsz : (toVs acc).length < 1000000 := by rw [toVs_len]; unfold P.LN at hj; omega
  have h := RQ.unbind (I := PInv T js) h;refine ET_val (fun _ _ => rfl) ?_;refine EV_meth _ (fun _ => rfl) ?_;refine EV_name rfl ?_;refine MC_inst hI.p rfl M_StmtParser_eat rfl ?_;refine EA_pe (PEs_cons (PE_str (c := [44]) (by kernel_rfl)) PEs_nil) ?_;refine CV_of_CL ?_;refine eat_ hb_ hT hI (RQ.call h hx (fun _ z => z) fun b ps H e hI hx hx2 h => ?_);refine ⟨_,rfl,?_⟩;have hf := hx2 _ _ hA hf
  cases b with
  | true =>
    refine ite_go (fun _ => ?_) (fun z => nomatch z);have h := RQ.posM h rfl;refine EXS_cons ?_;refine EXx ?_;refine EV_meth _ (fun _ => rfl) ?_;refine EV_name rfl ?_;refine MC_append hf rfl ?_;refine EV_meth _ (fun _ => rfl) ?_;refine EV_name rfl ?_;refine MC_inst hI.p rfl M_StmtParser_assignment rfl ?_;refine EA_pe (PEs_cons PE_name PEs_nil) ?_;refine CV_of_CL ?_;refine hS (.assignment i) _ _ _ _ _ _ trivial hI (RQ.call h hx (fun _ z => z) fun t ps H e hI hx hx2 h _ => ?_);have hf := hx2 _ _ hA hf;refine ⟨_,hf,hsz,?_⟩;rw [show toVs acc ++ [_] = toVs (acc ++ [t]) from (toVs_snoc acc t).symm];have hI := hI.put (o := .list (toVs (acc ++ [t]))) hA;have hx := hx.loc (o := .list (toVs (acc ++ [t]))) hH0;have hf : MH.put H afound (.list (toVs (acc ++ [t]))) afound = some (.list (toVs (acc ++ [t]))) := put_self
    generalize MH.put H afound _ = H at hI hx hf ⊢
    have h := RQ.done h hI hx;refine EXS_nil ?_;exact ⟨j,_,Nat.lt_succ_self _,LSub_cons rfl (LSub_cons rfl (LSub_cons rfl (LSub_cons rfl LSub_nil))),up _ _ _ ⟨acc ++ [t],_,rfl,hI,hx,hf,by rw [List.length_append]; simp; omega,h⟩⟩
  | false =>
    refine ite_go (fun z => nomatch z) (fun _ => ?_);have h := RQ.negM h Bool.false_ne_true;have h := RQ.done h hI hx;refine EXS_nil ?_;refine EXS_freeze (x := "found") rfl hf ?_;refine EXS_cons ?_;refine EX_return ?_;refine EV_Node hb_ hT (by kernel_rfl) rfl ?_;refine EA_cons rfl ?_;refine EV_strS (c := [67,111,109,109,97]) (by kernel_rfl) ?_;refine EA_cons rfl ?_;refine EV_attr (fun _ => rfl) ?_;refine EV_name rfl ?_;refine T1_attrF rfl rfl A_Node_line ?_;refine EA_cons rfl ?_;refine EV_pe (PE_list (PEs_cons PE_name PEs_nil)) ?_;refine EA_nil ?_;refine ⟨_,_,_,rfl,?_⟩;have := RQ.done h (hI.drop hA) (hx.dropped hH0) ⟨_,_,_,rfl,not_name rfl⟩;rw [toV_node hb_ hT,toVs,toVs,toV] at this;exact this
end
end Mine
end
section
open PySem PySem.W PySem.Calls PyProof.Rows Hd
namespace Mine
theorem kind_in {k : KD} : P.isIn k.str [KD.number.str,KD.text.str] = (k == .number || k == .text) := by cases k <;> decide
section
variable {σ τ α β : Type} {I : σ→MH→Prop} {A : List Addr} {X : Nat→MH→Prop} {H₀ : MH}
theorem RQ.posMB {γ : Type} {c : Prop} [Decidable c] {m k : PS→Res (γ × PS)} {K : γ × PS→Res (α × σ)} {s : PS} {Q : α→σ→MH→Prop} (h : RQ I A X H₀ (((if c then m else k) s).bind K) Q) (hc : c) : RQ I A X H₀ ((m s).bind K) Q := by rw [if_pos hc] at h; exact h
theorem RQ.negMB {γ : Type} {c : Prop} [Decidable c] {m k : PS→Res (γ × PS)} {K : γ × PS→Res (α × σ)} {s : PS} {Q : α→σ→MH→Prop} (h : RQ I A X H₀ (((if c then m else k) s).bind K) Q) (hc : ¬ c) : RQ I A X H₀ ((k s).bind K) Q := by rw [if_neg hc] at h; exact h
end
section
variable {w : World} {mb : Str→Option Value} {xt : Led} {n : Nat} {X : Nat→MH→Prop} {l : Loc} {H H₀ : MH} (hb_ : ∀ x : Str,x ≠ "__name__"→mb x = bootBuiltins x) {T : List Nat} (hT : TxtOk T) {js : Js} {ps : PS}
include hb_ hT
theorem at_end_ (hI : PInv T js ps H) {Q : V→MH→Prop} (hq : Q (.bool (ps.tok.k == .end_)) H) : CL (W0 w mb xt) ⟨n + 1,X⟩ l H f_SimpleParser_at_end [.ref js.p,.bool true] Q := by
  refine CL_def F_SimpleParser_at_end rfl ?_;refine EXS_cons ?_;refine EX_return ?_;refine EV_if ?_;refine ET_val (fun _ _ => rfl) ?_;refine EV_name rfl ?_;refine ⟨_,rfl,?_⟩;refine ite_go (fun _ => ?_) (fun z => nomatch z);refine EV_cmp rfl ?_;refine EV_attr (fun _ => rfl) ?_;refine EV_attr (fun _ => rfl) ?_;refine EV_name rfl ?_;refine T1_attr hI.p rfl rfl A_StmtParser_token ?_;refine T1_attrF rfl rfl A_Token_kind ?_;refine EV_strS (c := KD.end_.str) (by kernel_rfl) ?_;refine T2_eq_k ?_;exact hq
variable (hS : SPEC w mb xt T n)
include hS
theorem primary_ (hI : PInv T js ps H₀) {Q : V→MH→Prop} (h : RQ (PInv T js) js.A X H₀ (P.primary (P.run n) ps) fun t _ H' => NodeOk t→Q (toV t) H') : CL (W0 w mb xt) ⟨n + 13,X⟩ l H₀ f_ExprParser_primary [.ref js.p] Q := by
  have hx : Ext js.A H₀ H₀ := Ext.refl;refine CL_def F_ExprParser_primary rfl ?_;unfold P.primary at h;refine EXS_cons ?_;refine EXa ?_;refine EV_attr (fun _ => rfl) ?_;refine EV_name rfl ?_;refine T1_attr hI.p rfl rfl A_StmtParser_token ?_;refine EXS_cons ?_;refine EX_if ?_;refine ET_cmp rfl ?_;refine EV_attr (fun _ => rfl) ?_;refine EV_name rfl ?_;refine T1_attrF rfl rfl A_Token_kind ?_;refine EV_strS (c := KD.name.str) (by kernel_rfl) ?_;refine T2_eq_k ?_;refine ⟨_,rfl,?_⟩;refine ite_go (fun hb => ?_) (fun hb => ?_)
  · have h := RQ.pos h hb;refine EXS_cons ?_;refine EX_return ?_;refine EV_Node hb_ hT (by kernel_rfl) rfl ?_;refine EA_cons rfl ?_;refine EV_strS (c := [78,97,109,101]) (by kernel_rfl) ?_;refine EA_cons rfl ?_;refine EV_attr (fun _ => rfl) ?_;refine EV_name rfl ?_;refine T1_attrF rfl rfl A_Token_line ?_;refine EA_cons rfl ?_;refine EV_listF ?_;refine EA_cons rfl ?_;refine EV_meth _ (fun _ => rfl) ?_;refine EV_name rfl ?_;refine MC_inst hI.p rfl M_StmtParser_need_name rfl ?_;refine EA_nil ?_;refine CV_of_CL ?_;refine need_name_ hb_ hT hI (RQ.call h hx (fun _ z => z) fun x ps' H e hI hx hx2 h hxl => ?_);refine EA_nil ?_;refine lb ?_;refine EA_nil ?_;refine ⟨_,_,_,rfl,?_⟩;have := RQ.done h hI hx ⟨_,_,_,rfl,fun _ => ⟨x,rfl,hxl⟩⟩;rw [toV_node hb_ hT,toVs,toVs,toV] at this;exact this
  have h := RQ.neg h (nf hb);refine EXS_nil ?_;refine EXS_cons ?_;refine EX_if ?_;refine ET_cmp rfl ?_;refine EV_attr (fun _ => rfl) ?_;refine EV_name rfl ?_;refine T1_attrF rfl rfl A_Token_kind ?_;refine EV_tuple ?_;refine EA_cons rfl ?_;refine EV_strS (c := KD.number.str) (by kernel_rfl) ?_;refine EA_cons rfl ?_;refine EV_strS (c := KD.text.str) (by kernel_rfl) ?_;refine EA_nil ?_;refine ⟨by decide,?_⟩;refine T2_in_tl (L := [KD.number.str,KD.text.str]) ?_;rw [kind_in];refine ⟨_,rfl,?_⟩;refine ite_go (fun hb => ?_) (fun hb => ?_)
  · exact (RQ.pos h hb).elim
  have h := RQ.neg h (nf hb);refine EXS_nil ?_;refine EXS_cons ?_;refine EX_if ?_;refine ET_cmp rfl ?_;refine EV_attr (fun _ => rfl) ?_;refine EV_name rfl ?_;refine T1_attrF rfl rfl A_Token_kind ?_;refine EV_strS (c := KD.keyword.str) (by kernel_rfl) ?_;refine T2_eq_k ?_;refine ⟨_,rfl,?_⟩;refine ite_go (fun hb => ?_) (fun hb => ?_)
  · have h := RQ.pos h hb;refine EXS_cons ?_;refine EX_return ?_;refine EV_meth _ (fun _ => rfl) ?_;refine EV_name rfl ?_;refine MC_inst hI.p rfl M_StmtParser_word_operand rfl ?_;refine EA_nil ?_;refine CV_of_CL ?_;refine hS .wordOperand _ _ _ _ _ _ trivial hI (RQ.tail h hx fun t ps H hI hx hx2 h hN => ?_);exact h (hN rfl)
  have h := RQ.neg h (nf hb);refine EXS_nil ?_;refine EXS_cons ?_;refine EX_if ?_;refine ET_val (fun _ _ => rfl) ?_;refine EV_meth _ (fun _ => rfl) ?_;refine EV_name rfl ?_;refine MC_inst hI.p rfl M_StmtParser_eat rfl ?_;refine EA_pe (PEs_cons (PE_str (c := [40]) (by kernel_rfl)) PEs_nil) ?_;refine CV_of_CL ?_;refine eat_ hb_ hT hI (RQ.call h hx (fun _ z => z) fun b ps' H e hI hx hx2 h => ?_);refine ⟨_,rfl,?_⟩
  cases b with
  | true =>
    refine ite_go (fun _ => ?_) (fun z => nomatch z);have h := RQ.posM h rfl;refine EXS_cons ?_;refine EXa ?_;refine EV_meth _ (fun _ => rfl) ?_;refine EV_name rfl ?_;refine MC_inst hI.p rfl M_StmtParser_expression rfl ?_;refine EA_pe (PEs_cons PE_bool PEs_nil) ?_;refine CV_of_CL ?_;refine hS (.expression true) _ _ _ _ _ _ trivial hI (RQ.call h hx (fun _ z => z) fun t ps H e hI hx hx2 h hN => ?_);refine EXS_cons ?_;refine EXx ?_;refine EV_meth _ (fun _ => rfl) ?_;refine EV_name rfl ?_;refine MC_inst hI.p rfl M_StmtParser_need rfl ?_;refine EA_pe (PEs_cons (PE_str (c := [41]) (by kernel_rfl)) PEs_nil) ?_;refine CV_of_CL ?_;refine need_ hb_ hT hI (RQ.call h hx (fun _ z => z) fun u ps H e hI hx hx2 h => ?_);refine EXS_cons ?_;refine EX_return ?_;refine EV_name rfl ?_;exact (RQ.done h hI hx (hN rfl) :)
  | false =>
    refine ite_go (fun z => nomatch z) (fun _ => ?_);have h := RQ.negM h Bool.false_ne_true;have e3 := eat_false e;subst e3;refine EXS_nil ?_;refine EXS_cons ?_;refine EX_if ?_;refine ET_val (fun _ _ => rfl) ?_;refine EV_meth _ (fun _ => rfl) ?_;refine EV_name rfl ?_;refine MC_inst hI.p rfl M_StmtParser_is_sign rfl ?_;refine EA_pe (PEs_cons (PE_str (c := [91]) (by kernel_rfl)) PEs_nil) ?_;refine CV_of_CL ?_;refine is_sign_ hb_ hT hI ?_;refine ⟨_,rfl,?_⟩;refine ite_go (fun hb => ?_) (fun hb => ?_)
    · have h := RQ.pos h hb;refine EXS_cons ?_;refine EX_return ?_;refine EV_meth _ (fun _ => rfl) ?_;refine EV_name rfl ?_;refine MC_inst hI.p rfl M_StmtParser_array rfl ?_;refine EA_nil ?_;refine CV_of_CL ?_;refine hS .array _ _ _ _ _ _ trivial hI (RQ.tail h hx fun t ps H hI hx hx2 h hN => ?_);exact h (hN rfl)
    have h := RQ.neg h (nf hb);refine EXS_nil ?_;refine EXS_cons ?_;refine EX_if ?_;refine ET_val (fun _ _ => rfl) ?_;refine EV_meth _ (fun _ => rfl) ?_;refine EV_name rfl ?_;refine MC_inst hI.p rfl M_StmtParser_is_sign rfl ?_;refine EA_pe (PEs_cons (PE_str (c := [123]) (by kernel_rfl)) PEs_nil) ?_;refine CV_of_CL ?_;refine is_sign_ hb_ hT hI ?_;refine ⟨_,rfl,?_⟩;refine ite_go (fun hb => ?_) (fun hb => ?_)
    · exact (RQ.pos h hb).elim
    have h := RQ.neg h (nf hb);refine EXS_nil ?_;refine EXS_cons ?_;refine EX_if ?_
    apply ET_orP
    · skip
      refine ET_val (fun _ _ => rfl) ?_;refine EV_meth _ (fun _ => rfl) ?_;refine EV_name rfl ?_;refine MC_inst hI.p rfl M_StmtParser_is_sign rfl ?_;refine EA_pe (PEs_cons (PE_str (c := [47]) (by kernel_rfl)) PEs_nil) ?_;refine CV_of_CL ?_;refine is_sign_ hb_ hT hI ?_;refine ⟨_,rfl,?_⟩;exact ⟨rfl,rfl⟩
    · intro _;refine ET_or1 ?_;refine ET_val (fun _ _ => rfl) ?_;refine EV_meth _ (fun _ => rfl) ?_;refine EV_name rfl ?_;refine MC_inst hI.p rfl M_StmtParser_is_sign rfl ?_;refine EA_pe (PEs_cons (PE_str (c := [47,61]) (by kernel_rfl)) PEs_nil) ?_;refine CV_of_CL ?_;refine is_sign_ hb_ hT hI ?_;refine ⟨_,rfl,?_⟩;exact ⟨rfl,rfl⟩
    refine ite_go (fun hb => ?_) (fun hb => ?_)
    · have h := RQ.pos h hb;have hpk : (ps.tok.k == .punct) = true := by
        rcases Bool.or_eq_true_iff.mp hb with z | z <;> exact (Bool.and_eq_true_iff.mp z).1
      refine EXS_cons ?_;refine EX_setattr (fun _ => rfl) ?_;refine EV_meth _ (fun _ => rfl) ?_;refine EV_attr (fun _ => rfl) ?_;refine EV_name rfl ?_;refine T1_attr hI.p rfl rfl A_StmtParser_lexer ?_;refine MC_inst hI.lx.at' rfl M_Lexer_regex rfl ?_;refine EA_pe (PEs_cons PE_name PEs_nil) ?_;refine CV_of_CL ?_;refine regex_ hb_ hT hI.lx hI.tk (hI.tk.ne hpk) (Q := fun t s H' => LInv T js.lx s H'∧Ext [js.lx] H H'∧Ext js.A H₀ H'∧RQ (PInv T js) js.A X H₀ (P.bnd P.take (fun k => P.ret (Mine.T.node [82,101,103,101,120] ps.tok.line [.str k.v,.str k.v2])) { ps with tok := t,lx := s }) fun t _ H' => NodeOk t→Q (toV t) H') (RQ.call h hx lx_mem fun t s H' _ hI hx hx2 h => ⟨hI,hx2,hx,h⟩) ?_;rintro t s H₁ hk hrx ⟨hl1,hx2,hx,h⟩;have hI := hI.lexed hl1 hx2;refine EV_name rfl ?_;refine ⟨_,_,_,_,rfl,hI.p,S_StmtParser_token,Nat.le_of_ble_eq_true (by kernel_rfl),?_⟩;have hI := hI.set_p (ps' := { ps with tok := t,lx := s }) rfl rfl rfl rfl hk hI.lt;have hx := hx.own (a := js.p) (o := pObj T js { ps with tok := t,lx := s }) (.head _);show EXS _ _ _ _ _ (H₁.put js.p (pObj T js { ps with tok := t,lx := s })) _
      generalize H₁.put js.p _ = H₂ at hI hx ⊢
      refine EXS_cons ?_;refine EX_return ?_;refine EV_Node hb_ hT (by kernel_rfl) rfl ?_;refine EA_cons rfl ?_;refine EV_strS (c := [82,101,103,101,120]) (by kernel_rfl) ?_;refine EA_cons rfl ?_;refine EV_attr (fun _ => rfl) ?_;refine EV_name rfl ?_;refine T1_attrF rfl rfl A_Token_line ?_;refine EA_cons rfl ?_;refine EV_callt (B_list hb_ (by kernel_rfl)) rfl ?_;refine EA_cons rfl ?_;refine EV_attr (fun _ => rfl) ?_;refine EV_meth _ (fun _ => rfl) ?_;refine EV_name rfl ?_;refine MC_inst hI.p rfl M_StmtParser_take rfl ?_;refine EA_nil ?_;refine CV_of_CL ?_;refine take_ hb_ hT hI (RQ.call h hx (fun _ z => z) fun t' ps' H e hI hx hx2 h => ?_);have e4 : t = t' := (take_tok hb_ hT e).symm;subst e4;refine T1_attrF (v := .tup [.str (SS t.v),.str (SS t.v2)]) (by show some (tokVal t) = _; unfold tokVal; rw [hrx]) rfl A_Token_value ?_;refine EA_nil ?_;refine CV_listF (.inr rfl) (Nat.le_of_ble_eq_true rfl) ?_;refine EA_nil ?_;refine ⟨_,_,_,rfl,?_⟩;have := RQ.done h hI hx ⟨_,_,_,rfl,not_name rfl⟩;rw [toV_node hb_ hT,toVs,toVs,toVs,toV,toV] at this;exact this
    · have h := RQ.neg h (nf hb);refine EXS_nil ?_;refine EXS_cons ?_;refine EX_return ?_;refine EV_meth _ (fun _ => rfl) ?_;refine EV_name rfl ?_;refine MC_inst hI.p rfl M_StmtParser_unexpected rfl ?_;refine EA_nil ?_;refine CV_of_CL ?_;exact CL_fail (RQ.failed (show RQ (PInv T js) js.A X H₀ (.fail ps.tok.line) _ from h) hx)
theorem plain_expression_ (hI : PInv T js ps H₀) {Q : V→MH→Prop} (h : RQ (PInv T js) js.A X H₀ (P.plainExpr (P.run n) ps) fun t _ H' => NodeOk t→Q (toV t) H') : CL (W0 w mb xt) ⟨n + 13,X⟩ l H₀ f_SimpleParser_plain_expression [.ref js.p] Q := by
  have hx : Ext js.A H₀ H₀ := Ext.refl;refine CL_def F_SimpleParser_plain_expression rfl ?_;unfold P.plainExpr at h;refine EXS_cons ?_;refine EXa ?_;refine EV_attr (fun _ => rfl) ?_;refine EV_attr (fun _ => rfl) ?_;refine EV_name rfl ?_;refine T1_attr hI.p rfl rfl A_StmtParser_token ?_;refine T1_attrF rfl rfl A_Token_line ?_;refine EXS_cons ?_;refine EXa ?_;refine EV_meth _ (fun _ => rfl) ?_;refine EV_name rfl ?_;refine MC_inst hI.p rfl M_StmtParser_expression rfl ?_;refine EA_pe (PEs_cons PE_bool PEs_nil) ?_;refine CV_of_CL ?_;refine hS (.expression true) _ _ _ _ _ _ trivial hI (RQ.call h hx (fun _ z => z) fun t ps' H e hI hx hx2 h hN => ?_);refine EXS_cons ?_;refine EXx ?_;refine EV_meth _ (fun _ => rfl) ?_;refine EV_name rfl ?_;refine MC_inst hI.p rfl M_StmtParser_end_statement rfl ?_;refine EA_nil ?_;refine CV_of_CL ?_;refine end_statement_ hb_ hT hI (RQ.call h hx (fun _ z => z) fun u ps H e hI hx hx2 h => ?_);refine EXS_cons ?_;refine EX_return ?_;refine EV_Node hb_ hT (by kernel_rfl) rfl ?_;refine EA_pe (PEs_cons (PE_str (c := [69,120,112,114]) (by kernel_rfl)) (PEs_cons PE_name (PEs_cons (PE_list (PEs_cons PE_name PEs_nil)) PEs_nil))) ?_;refine ⟨_,_,_,rfl,?_⟩;have := RQ.done h hI hx ⟨_,_,_,rfl,not_name rfl⟩;rw [toV_node hb_ hT,toVs,toVs] at this;exact this
theorem block_ (hI : PInv T js ps H₀) {Q : V→MH→Prop} (h : RQ (PInv T js) js.A X H₀ (P.block (P.run n) ps) fun t _ H' => Q (toV t) H') : CL (W0 w mb xt) ⟨n + 13,X⟩ l H₀ f_SimpleParser_block [.ref js.p] Q := by
  have hx : Ext js.A H₀ H₀ := Ext.refl;refine CL_def F_SimpleParser_block rfl ?_;refine EXS_cons ?_;refine EXx ?_;refine EV_meth _ (fun _ => rfl) ?_;refine EV_name rfl ?_;refine MC_inst hI.p rfl M_StmtParser_need rfl ?_;refine EA_pe (PEs_cons (PE_str (c := [123]) (by kernel_rfl)) PEs_nil) ?_;refine CV_of_CL ?_;refine need_ hb_ hT hI (RQ.call h hx (fun _ z => z) fun u ps H e hI hx hx2 h => ?_);refine EXS_cons ?_;refine EXa ?_;refine EV_listM ?_;refine EA_nil ?_;refine ⟨by decide,fun afound ha => ?_⟩;have hA := hI.fresh ha;have hH0 := hx.noneB ha hA;have hI := hI.put (o := .list []) hA;have hx := hx.loc (o := .list []) hH0;have hf : MH.put H afound (.list []) afound = some (.list (toVs [])) := put_self
  generalize MH.put H afound _ = H at hI hx hf ⊢
  refine EXS_cons ?_;refine EX_whileA (fun j l H' => ∃ acc ps,l = [("self",.ref js.p),("found",.ref afound)]∧PInv T js ps H'∧Ext js.A H₀ H'∧H' afound = some (.list (toVs acc))∧acc.length + j ≤ P.LN ∧
      RQ (PInv T js) js.A X H₀ (P.loopM j (P.blockTurn (P.run n)) acc ps) fun t _ H' => Q (toV t) H') P.LN (LSub_cons rfl (LSub_cons rfl LSub_nil)) ⟨[],_,rfl,hI,hx,hf,Nat.le_of_eq (Nat.zero_add _),h⟩ ?_
  rintro Iv up j l H ⟨acc,ps0,rfl,hI,hx,hf,hj,h⟩
  cases j with
  | zero => exact h.elim
  | succ j =>
  have hsz : (toVs acc).length < 1000000 := by rw [toVs_len]; unfold P.LN at hj; omega
  refine ET_not ?_;refine ET_val (fun _ _ => rfl) ?_;refine EV_meth _ (fun _ => rfl) ?_;refine EV_name rfl ?_;refine MC_inst hI.p rfl M_StmtParser_is_sign rfl ?_;refine EA_pe (PEs_cons (PE_str (c := [125]) (by kernel_rfl)) PEs_nil) ?_;refine CV_of_CL ?_;refine is_sign_ hb_ hT hI ?_;refine ⟨_,rfl,?_⟩;refine ite_go (fun hb => ?_) (fun hb => ?_)
  · have h := RQ.unbind (I := PInv T js) (RQ.negB h (nf (by simpa using hb)));refine EXS_cons ?_;refine EXx ?_;refine EV_meth _ (fun _ => rfl) ?_;refine EV_name rfl ?_;refine MC_append hf rfl ?_;refine EV_meth _ (fun _ => rfl) ?_;refine EV_name rfl ?_;refine MC_inst hI.p rfl M_StmtParser_statement rfl ?_;refine EA_nil ?_;refine CV_of_CL ?_;refine hS .statement _ _ _ _ _ _ trivial hI (RQ.call h hx (fun _ z => z) fun t ps H e hI hx hx2 h _ => ?_);have hf := hx2 _ _ hA hf;refine ⟨_,hf,hsz,?_⟩;rw [show toVs acc ++ [_] = toVs (acc ++ [t]) from (toVs_snoc acc t).symm];have hI := hI.put (o := .list (toVs (acc ++ [t]))) hA;have hx := hx.loc (o := .list (toVs (acc ++ [t]))) hH0;have hf : MH.put H afound (.list (toVs (acc ++ [t]))) afound = some (.list (toVs (acc ++ [t]))) := put_self
    generalize MH.put H afound _ = H at hI hx hf ⊢
    have h := RQ.done h hI hx;refine EXS_nil ?_;exact ⟨j,_,Nat.lt_succ_self _,LSub_cons rfl (LSub_cons rfl LSub_nil),up _ _ _ ⟨acc ++ [t],_,rfl,hI,hx,hf,by rw [List.length_append]; simp; omega,h⟩⟩
  · have h := RQ.unbind (I := PInv T js) (RQ.posB h (by simpa using hb));refine EXS_nil ?_;refine EXS_cons ?_;refine EXx ?_;refine EV_meth _ (fun _ => rfl) ?_;refine EV_name rfl ?_;refine MC_inst hI.p rfl M_StmtParser_need rfl ?_;refine EA_pe (PEs_cons (PE_str (c := [125]) (by kernel_rfl)) PEs_nil) ?_;refine CV_of_CL ?_;refine need_ hb_ hT hI (RQ.call h hx (fun _ z => z) fun u ps H e hI hx hx2 h => ?_);have hf := hx2 _ _ hA hf;have h := RQ.done h hI hx;refine EXS_cons ?_;refine EX_return ?_;refine EV_freeze ?_;refine EV_name rfl ?_;refine ⟨afound,_,rfl,hf,?_⟩;have := RQ.done h (hI.drop hA) (hx.dropped hH0);rw [toV] at this;exact this
theorem variables_ (hI : PInv T js ps H₀) {i : Bool} {Q : V→MH→Prop} (h : RQ (PInv T js) js.A X H₀ (P.variables (P.run n) i ps) fun t _ H' => Q (toV t) H') : CL (W0 w mb xt) ⟨n + 13,X⟩ l H₀ f_SimpleParser_variables [.ref js.p,.bool i] Q := by
  have hx : Ext js.A H₀ H₀ := Ext.refl;refine CL_def F_SimpleParser_variables rfl ?_;refine EXS_cons ?_;refine EXa ?_;refine EV_listM ?_;refine EA_nil ?_;refine ⟨by decide,fun afound ha => ?_⟩;have hA := hI.fresh ha;have hH0 := hx.noneB ha hA;have hI := hI.put (o := .list []) hA;have hx := hx.loc (o := .list []) hH0;have hf : MH.put H₀ afound (.list []) afound = some (.list (toVs [])) := put_self
  generalize MH.put H₀ afound _ = H at hI hx hf ⊢
  refine EXS_cons ?_;refine EX_whileA (fun j l H' => ∃ acc ps,l = [("self",.ref js.p),("can_in",.bool i),("found",.ref afound)]∧PInv T js ps H'∧Ext js.A H₀ H'∧H' afound = some (.list (toVs acc))∧acc.length + j ≤ P.LN ∧
      RQ (PInv T js) js.A X H₀ (P.loopM j (P.varTurn (P.run n) i) acc ps) fun t _ H' => Q (toV t) H') P.LN (LSub_cons rfl (LSub_cons rfl (LSub_cons rfl LSub_nil))) ⟨[],_,rfl,hI,hx,hf,Nat.le_of_eq (Nat.zero_add _),h⟩ ?_
  rintro Iv up j l H ⟨acc,ps0,rfl,hI,hx,hf,hj,h⟩
  cases j with
  | zero => exact h.elim
  | succ j =>
  have hsz : (toVs acc).length < 1000000 := by rw [toVs_len]; unfold P.LN at hj; omega
  refine ET_val (fun _ _ => rfl) ?_;refine EV_bool ?_;refine ⟨_,rfl,?_⟩;refine ite_go (fun _ => ?_) (fun z => nomatch z);have h := RQ.unbind (I := PInv T js) h;refine EXS_cons ?_;refine EXa ?_;refine EV_meth _ (fun _ => rfl) ?_;refine EV_name rfl ?_;refine MC_inst hI.p rfl M_StmtParser_need_binding rfl ?_;refine EA_nil ?_;refine CV_of_CL ?_;refine need_binding_ hb_ hT hI (RQ.call h hx (fun _ z => z) fun x ps H e hI hx hx2 h hxl => ?_);have hf := hx2 _ _ hA hf;refine EXS_cons ?_;refine EXx ?_;refine EV_meth _ (fun _ => rfl) ?_;refine EV_name rfl ?_;refine MC_append hf rfl ?_;refine EV_tuple ?_;refine EA_cons rfl ?_;refine EV_name rfl ?_;refine EA_cons rfl ?_;refine EV_if ?_;refine ET_val (fun _ _ => rfl) ?_;refine EV_meth _ (fun _ => rfl) ?_;refine EV_name rfl ?_;refine MC_inst hI.p rfl M_StmtParser_eat rfl ?_;refine EA_pe (PEs_cons (PE_str (c := [61]) (by kernel_rfl)) PEs_nil) ?_;refine CV_of_CL ?_;refine eat_ hb_ hT hI (RQ.call h hx (fun _ z => z) fun b ps H e hI hx hx2 h => ?_);refine ⟨_,rfl,?_⟩;have hf := hx2 _ _ hA hf
  cases b with
  | true =>
    refine ite_go (fun _ => ?_) (fun z => nomatch z);have h := RQ.posMB h rfl;refine EV_meth _ (fun _ => rfl) ?_;refine EV_name rfl ?_;refine MC_inst hI.p rfl M_StmtParser_assignment rfl ?_;refine EA_pe (PEs_cons PE_name PEs_nil) ?_;refine CV_of_CL ?_;refine hS (.assignment i) _ _ _ _ _ _ trivial hI (RQ.call h hx (fun _ z => z) fun t ps H e hI hx hx2 h _ => ?_);have hf := hx2 _ _ hA hf;refine EA_nil ?_;refine lb ?_;refine ⟨_,hf,hsz,?_⟩;have e5 : V.tup [.str (SS x),toV t] = toV (.tup [.str x,t]) := by rw [toV,toVs,toVs,toVs,toV]
    rw [e5];rw [show toVs acc ++ [_] = toVs (acc ++ [(.tup [.str x,t])]) from (toVs_snoc acc (.tup [.str x,t])).symm];have hI := hI.put (o := .list (toVs (acc ++ [(.tup [.str x,t])]))) hA;have hx := hx.loc (o := .list (toVs (acc ++ [(.tup [.str x,t])]))) hH0;have hf : MH.put H afound (.list (toVs (acc ++ [(.tup [.str x,t])]))) afound = some (.list (toVs (acc ++ [(.tup [.str x,t])]))) := put_self
    generalize MH.put H afound _ = H at hI hx hf ⊢
    refine EXS_cons ?_;refine EX_if ?_;refine ET_not ?_;refine ET_val (fun _ _ => rfl) ?_;refine EV_meth _ (fun _ => rfl) ?_;refine EV_name rfl ?_;refine MC_inst hI.p rfl M_StmtParser_eat rfl ?_;refine EA_pe (PEs_cons (PE_str (c := [44]) (by kernel_rfl)) PEs_nil) ?_;refine CV_of_CL ?_;refine eat_ hb_ hT hI (RQ.call h hx (fun _ z => z) fun b ps H e hI hx hx2 h => ?_);refine ⟨_,rfl,?_⟩;have hf := hx2 _ _ hA hf
    cases b with
    | true =>
      refine ite_go (fun z => nomatch z) (fun _ => ?_);have h := RQ.posM h rfl;have h := RQ.done h hI hx;refine EXS_nil ?_;refine EXS_nil ?_;exact ⟨j,_,Nat.lt_succ_self _,LSub_cons rfl (LSub_cons rfl (LSub_cons rfl LSub_nil)),up _ _ _ ⟨acc ++ [.tup [.str x,t]],_,rfl,hI,hx,hf,by rw [List.length_append]; simp; omega,h⟩⟩
    | false =>
      refine ite_go (fun _ => ?_) (fun z => nomatch z);have h := RQ.negM h Bool.false_ne_true;have h := RQ.done h hI hx;refine EXS_cons ?_;refine EX_return ?_;refine EV_freeze ?_;refine EV_name rfl ?_;refine ⟨afound,_,rfl,hf,?_⟩;have := RQ.done h (hI.drop hA) (hx.dropped hH0);rw [toV] at this;exact this
  | false =>
    refine ite_go (fun z => nomatch z) (fun _ => ?_);have h := RQ.done (RQ.unbind (I := PInv T js) (RQ.negMB h Bool.false_ne_true)) hI hx;refine EV_none ?_;rw [show V.none = toV .none from by rw [toV]]
    generalize Mine.T.none = t at h ⊢
    refine EA_nil ?_;refine lb ?_;refine ⟨_,hf,hsz,?_⟩;have e5 : V.tup [.str (SS x),toV t] = toV (.tup [.str x,t]) := by rw [toV,toVs,toVs,toVs,toV]
    rw [e5];rw [show toVs acc ++ [_] = toVs (acc ++ [(.tup [.str x,t])]) from (toVs_snoc acc (.tup [.str x,t])).symm];have hI := hI.put (o := .list (toVs (acc ++ [(.tup [.str x,t])]))) hA;have hx := hx.loc (o := .list (toVs (acc ++ [(.tup [.str x,t])]))) hH0;have hf : MH.put H afound (.list (toVs (acc ++ [(.tup [.str x,t])]))) afound = some (.list (toVs (acc ++ [(.tup [.str x,t])]))) := put_self
    generalize MH.put H afound _ = H at hI hx hf ⊢
    refine EXS_cons ?_;refine EX_if ?_;refine ET_not ?_;refine ET_val (fun _ _ => rfl) ?_;refine EV_meth _ (fun _ => rfl) ?_;refine EV_name rfl ?_;refine MC_inst hI.p rfl M_StmtParser_eat rfl ?_;refine EA_pe (PEs_cons (PE_str (c := [44]) (by kernel_rfl)) PEs_nil) ?_;refine CV_of_CL ?_;refine eat_ hb_ hT hI (RQ.call h hx (fun _ z => z) fun b ps H e hI hx hx2 h => ?_);refine ⟨_,rfl,?_⟩;have hf := hx2 _ _ hA hf
    cases b with
    | true =>
      refine ite_go (fun z => nomatch z) (fun _ => ?_);have h := RQ.posM h rfl;have h := RQ.done h hI hx;refine EXS_nil ?_;refine EXS_nil ?_;exact ⟨j,_,Nat.lt_succ_self _,LSub_cons rfl (LSub_cons rfl (LSub_cons rfl LSub_nil)),up _ _ _ ⟨acc ++ [.tup [.str x,t]],_,rfl,hI,hx,hf,by rw [List.length_append]; simp; omega,h⟩⟩
    | false =>
      refine ite_go (fun _ => ?_) (fun z => nomatch z);have h := RQ.negM h Bool.false_ne_true;have h := RQ.done h hI hx;refine EXS_cons ?_;refine EX_return ?_;refine EV_freeze ?_;refine EV_name rfl ?_;refine ⟨afound,_,rfl,hf,?_⟩;have := RQ.done h (hI.drop hA) (hx.dropped hH0);rw [toV] at this;exact this
theorem body_ (hI : PInv T js ps H₀) {Q : V→MH→Prop} (h : RQ (PInv T js) js.A X H₀ (P.body (P.run n) ps) fun t _ H' => Q (toV t) H') : CL (W0 w mb xt) ⟨n + 13,X⟩ l H₀ f_SimpleParser_body [.ref js.p,.bool true] Q := by
  have hx : Ext js.A H₀ H₀ := Ext.refl;refine CL_def F_SimpleParser_body rfl ?_;refine EXS_cons ?_;refine EX_unpackS (xs := ["found","has_octal"]) (fun _ => rfl) (by intros; kernel_rfl) (by decide +kernel) ?_;refine EV_tuple ?_;refine EA_cons rfl ?_;refine EV_listM ?_;refine EA_nil ?_;refine ⟨by decide,fun afound ha => ?_⟩;have hA := hI.fresh ha;have hH0 := hx.noneB ha hA;have hI := hI.put (o := .list []) hA;have hx := hx.loc (o := .list []) hH0;have hf : MH.put H₀ afound (.list []) afound = some (.list (toVs [])) := put_self
  generalize MH.put H₀ afound _ = H at hI hx hf ⊢
  refine EA_cons rfl ?_;refine EV_bool ?_;refine EA_nil ?_;refine lb ?_;refine ⟨_,rfl,rfl,?_⟩;refine EXS_cons ?_;refine EXa ?_;refine EV_bool ?_;refine EXS_cons ?_;refine EX_whileA (fun j l H' => ∃ acc ps ia,l = [("self",.ref js.p),("is_end",.bool true),("found",.ref afound),("is_ahead",.bool ia)]∧PInv T js ps H'∧Ext js.A H₀ H'∧H' afound = some (.list (toVs acc))∧acc.length + j ≤ P.LN ∧
      RQ (PInv T js) js.A X H₀ (P.loopM j (P.bodyTurn (P.run n)) acc ps) fun t _ H' => Q (toV t) H') P.LN (LSub_cons rfl (LSub_cons rfl (LSub_cons rfl (LSub_cons rfl LSub_nil)))) ⟨[],_,true,rfl,hI,hx,hf,Nat.le_of_eq (Nat.zero_add _),h⟩ ?_
  rintro Iv up j l H ⟨acc,ps0,ia,rfl,hI,hx,hf,hj,h⟩
  cases j with
  | zero => exact h.elim
  | succ j =>
  have hsz : (toVs acc).length < 1000000 := by rw [toVs_len]; unfold P.LN at hj; omega
  refine ET_not ?_;refine ET_val (fun _ _ => rfl) ?_;refine EV_meth _ (fun _ => rfl) ?_;refine EV_name rfl ?_;refine MC_inst hI.p rfl M_StmtParser_at_end rfl ?_;refine EA_pe (PEs_cons PE_name PEs_nil) ?_;refine CV_of_CL ?_;refine at_end_ hb_ hT hI ?_;refine ⟨_,rfl,?_⟩;refine ite_go (fun hb => ?_) (fun hb => ?_)
  · have h := RQ.unbind (I := PInv T js) (RQ.negB h (nf (by simpa using hb)))
    cases ht : (ps0.tok.k == .text) with
    | true => exact (RQ.pos h ht).elim
    | false =>
    have h := RQ.neg h (nf ht);refine EXS_cons ?_;refine EXa ?_
    apply EV_bandP
    · refine EV_name rfl ?_;exact ⟨rfl,rfl⟩
    · intro hb;refine EV_bone ?_;refine EV_cmp rfl ?_;refine EV_attr (fun _ => rfl) ?_;refine EV_attr (fun _ => rfl) ?_;refine EV_name rfl ?_;refine T1_attr hI.p rfl rfl A_StmtParser_token ?_;refine T1_attrF rfl rfl A_Token_kind ?_;refine EV_strS (c := KD.text.str) (by kernel_rfl) ?_;refine T2_eq_k ?_;exact ⟨rfl,rfl⟩
    rw [ht,Bool.and_false];refine EXS_cons ?_;refine EX_if ?_;refine ET_not ?_;refine ET_val (fun _ _ => rfl) ?_;refine EV_name rfl ?_;refine ⟨_,rfl,?_⟩;refine ite_go (fun _ => ?_) (fun z => nomatch z);refine EXS_cons ?_;refine EXx ?_;refine EV_meth _ (fun _ => rfl) ?_;refine EV_name rfl ?_;refine MC_append hf rfl ?_;refine EV_meth _ (fun _ => rfl) ?_;refine EV_name rfl ?_;refine MC_inst hI.p rfl M_StmtParser_element rfl ?_;refine EA_nil ?_;refine CV_of_CL ?_;refine hS .element _ _ _ _ _ _ trivial hI (RQ.call h hx (fun _ z => z) fun t ps H e hI hx hx2 h _ => ?_);have hf := hx2 _ _ hA hf;refine ⟨_,hf,hsz,?_⟩;rw [show toVs acc ++ [_] = toVs (acc ++ [t]) from (toVs_snoc acc t).symm];have hI := hI.put (o := .list (toVs (acc ++ [t]))) hA;have hx := hx.loc (o := .list (toVs (acc ++ [t]))) hH0;have hf : MH.put H afound (.list (toVs (acc ++ [t]))) afound = some (.list (toVs (acc ++ [t]))) := put_self
    generalize MH.put H afound _ = H at hI hx hf ⊢
    have h := RQ.done h hI hx;refine EXS_cons ?_;refine EX_continue ?_;exact ⟨j,_,Nat.lt_succ_self _,LSub_cons rfl (LSub_cons rfl (LSub_cons rfl (LSub_cons rfl LSub_nil))),up _ _ _ ⟨acc ++ [t],_,false,rfl,hI,hx,hf,by rw [List.length_append]; simp; omega,h⟩⟩
  · have h := RQ.done (RQ.unbind (I := PInv T js) (RQ.posB h (by simpa using hb))) hI hx;refine EXS_nil ?_;refine EXS_cons ?_;refine EX_return ?_;refine EV_freeze ?_;refine EV_name rfl ?_;refine ⟨afound,_,rfl,hf,?_⟩;have := RQ.done h (hI.drop hA) (hx.dropped hH0);rw [toV] at this;exact this
theorem element_ (hI : PInv T js ps H₀) {Q : V→MH→Prop} (h : RQ (PInv T js) js.A X H₀ (P.element (P.run n) ps) fun t _ H' => NodeOk t→Q (toV t) H') : CL (W0 w mb xt) ⟨n + 13,X⟩ l H₀ f_SimpleParser_element [.ref js.p] Q := by
  have hx : Ext js.A H₀ H₀ := Ext.refl;refine CL_def F_SimpleParser_element rfl ?_;unfold P.element at h;refine EXS_cons ?_;refine EX_if ?_;refine ET_not ?_;refine ET_val (fun _ _ => rfl) ?_;refine EV_meth _ (fun _ => rfl) ?_;refine EV_name rfl ?_;refine MC_inst hI.p rfl M_StmtParser_is_word rfl ?_;refine EA_pe (PEs_cons (PE_str (c := [102,117,110,99,116,105,111,110]) (by kernel_rfl)) PEs_nil) ?_;refine CV_of_CL ?_;refine is_word_ hb_ hT hI ?_;refine ⟨_,rfl,?_⟩;refine ite_go (fun hb => ?_) (fun hb => ?_)
  · have h := RQ.neg h (nf (by simpa using hb));refine EXS_cons ?_;refine EX_return ?_;refine EV_meth _ (fun _ => rfl) ?_;refine EV_name rfl ?_;refine MC_inst hI.p rfl M_StmtParser_statement rfl ?_;refine EA_nil ?_;refine CV_of_CL ?_;refine hS .statement _ _ _ _ _ _ trivial hI (RQ.tail h hx fun t ps H hI hx hx2 h hN => ?_);exact h (hN rfl)
  · exact (RQ.pos h (by simpa using hb)).elim
theorem choice_ (hI : PInv T js ps H₀) {Q : V→MH→Prop} (h : RQ (PInv T js) js.A X H₀ (P.choice (P.run n) ps) fun t _ H' => NodeOk t→Q (toV t) H') : CL (W0 w mb xt) ⟨n + 13,X⟩ l H₀ f_StmtParser_choice [.ref js.p,.int ps.tok.line] Q := by
  have hx : Ext js.A H₀ H₀ := Ext.refl;refine CL_def F_StmtParser_choice rfl ?_;unfold P.choice at h;refine EXS_cons ?_;refine EXx ?_;refine EV_meth _ (fun _ => rfl) ?_;refine EV_name rfl ?_;refine MC_inst hI.p rfl M_StmtParser_take rfl ?_;refine EA_nil ?_;refine CV_of_CL ?_;refine take_ hb_ hT hI (RQ.call h hx (fun _ z => z) fun t ps' H e hI hx hx2 h => ?_);refine EXS_cons ?_;refine EXa ?_;refine EV_meth _ (fun _ => rfl) ?_;refine EV_name rfl ?_;refine MC_inst hI.p rfl M_StmtParser_condition rfl ?_;refine EA_nil ?_;refine CV_of_CL ?_;refine hS .condition _ _ _ _ _ _ trivial hI (RQ.call h hx (fun _ z => z) fun t1 ps' H e hI hx hx2 h _ => ?_);refine EXS_cons ?_;refine EX_unpackS (xs := ["then","other"]) (fun _ => rfl) (by intros; kernel_rfl) (by decide +kernel) ?_;refine EV_tuple ?_;refine EA_cons rfl ?_;refine EV_meth _ (fun _ => rfl) ?_;refine EV_name rfl ?_;refine MC_inst hI.p rfl M_StmtParser_statement rfl ?_;refine EA_nil ?_;refine CV_of_CL ?_;refine hS .statement _ _ _ _ _ _ trivial hI (RQ.call h hx (fun _ z => z) fun t2 ps' H e hI hx hx2 h _ => ?_);refine EA_cons rfl ?_;refine EV_none ?_;refine EA_nil ?_;refine lb ?_;refine ⟨_,rfl,rfl,?_⟩;refine EXS_cons ?_;refine EX_if ?_;refine ET_val (fun _ _ => rfl) ?_;refine EV_meth _ (fun _ => rfl) ?_;refine EV_name rfl ?_;refine MC_inst hI.p rfl M_StmtParser_is_word rfl ?_;refine EA_pe (PEs_cons (PE_str (c := [101,108,115,101]) (by kernel_rfl)) PEs_nil) ?_;refine CV_of_CL ?_;refine is_word_ hb_ hT hI ?_;refine ⟨_,rfl,?_⟩;refine ite_go (fun hb => ?_) (fun hb => ?_)
  · exact (RQ.pos h hb).elim
  have h := RQ.neg h (nf hb);refine EXS_nil ?_;refine EXS_cons ?_;refine EX_return ?_;refine EV_Node hb_ hT (by kernel_rfl) rfl ?_;refine EA_pe (PEs_cons (PE_str (c := [73,102]) (by kernel_rfl)) (PEs_cons PE_name (PEs_cons (PE_list (PEs_cons PE_name (PEs_cons PE_name (PEs_cons PE_name PEs_nil)))) PEs_nil))) ?_;refine ⟨_,_,_,rfl,?_⟩;have := RQ.done h hI hx ⟨_,_,_,rfl,not_name rfl⟩;rw [toV_node hb_ hT,toVs,toVs,toVs,toVs,toV] at this;exact this
theorem leaving_ (hI : PInv T js ps H₀) {x : List Nat} {Q : V→MH→Prop} (h : RQ (PInv T js) js.A X H₀ (P.leaving (P.run n) x ps) fun t _ H' => NodeOk t→Q (toV t) H') : CL (W0 w mb xt) ⟨n + 13,X⟩ l H₀ f_SimpleParser_leaving [.ref js.p,.str (SS x),.int ps.tok.line] Q := by
  have hx : Ext js.A H₀ H₀ := Ext.refl;refine CL_def F_SimpleParser_leaving rfl ?_;unfold P.leaving at h;refine EXS_cons ?_;refine EXx ?_;refine EV_meth _ (fun _ => rfl) ?_;refine EV_name rfl ?_;refine MC_inst hI.p rfl M_StmtParser_take rfl ?_;refine EA_nil ?_;refine CV_of_CL ?_;refine take_ hb_ hT hI (RQ.call h hx (fun _ z => z) fun t ps' H e hI hx hx2 h => ?_);refine EXS_cons ?_;refine EX_if ?_;refine ET_cmp rfl ?_;refine EV_name rfl ?_;refine EV_strS (c := [114,101,116,117,114,110]) (by kernel_rfl) ?_;refine T2_eq_l ?_;refine ⟨_,rfl,?_⟩;refine ite_go (fun hb => ?_) (fun hb => ?_)
  · exact (RQ.pos h hb).elim
  have h := RQ.neg h (nf hb);refine EXS_cons ?_;refine EX_if ?_;refine ET_val (fun _ _ => rfl) ?_;refine EV_attr (fun _ => rfl) ?_;refine EV_attr (fun _ => rfl) ?_;refine EV_name rfl ?_;refine T1_attr hI.p rfl rfl A_StmtParser_token ?_;refine T1_attrF rfl rfl A_Token_is_behind_line ?_;refine ⟨_,rfl,?_⟩;refine ite_go (fun hb2 => ?_) (fun hb2 => ?_)
  · have h := RQ.pos h hb2;refine EXS_cons ?_;refine EXx ?_;refine EV_meth _ (fun _ => rfl) ?_;refine EV_name rfl ?_;refine MC_inst hI.p rfl M_StmtParser_fail rfl ?_;refine EA_pe (PEs_cons (PE_str (c := [97,110,32,101,110,100,32,111,102,32,116,104,101,32,108,105,110,101,32,98,101,104,105,110,100,32,116,104,114,111,119]) (by kernel_rfl)) PEs_nil) ?_;refine CV_of_CL ?_;exact CL_fail (RQ.failed (show RQ (PInv T js) js.A X H₀ (.fail ps'.tok.line) _ from h) hx)
  have h := RQ.neg h (nf hb2);refine EXS_nil ?_;refine EXS_cons ?_;refine EXa ?_;refine EV_meth _ (fun _ => rfl) ?_;refine EV_name rfl ?_;refine MC_inst hI.p rfl M_StmtParser_expression rfl ?_;refine EA_pe (PEs_cons PE_bool PEs_nil) ?_;refine CV_of_CL ?_;refine hS (.expression true) _ _ _ _ _ _ trivial hI (RQ.call h hx (fun _ z => z) fun t2 ps' H e hI hx hx2 h hN => ?_);refine EXS_nil ?_;refine EXS_cons ?_;refine EXx ?_;refine EV_meth _ (fun _ => rfl) ?_;refine EV_name rfl ?_;refine MC_inst hI.p rfl M_StmtParser_end_statement rfl ?_;refine EA_nil ?_;refine CV_of_CL ?_;refine end_statement_ hb_ hT hI (RQ.call h hx (fun _ z => z) fun u ps H e hI hx hx2 h => ?_);refine EXS_cons ?_;refine EX_return ?_;refine EV_Node hb_ hT (by kernel_rfl) rfl ?_;refine EA_cons rfl ?_;refine EV_if ?_;refine ET_cmp rfl ?_;refine EV_name rfl ?_;refine EV_strS (c := [114,101,116,117,114,110]) (by kernel_rfl) ?_;refine T2_eq_l ?_;refine ⟨_,rfl,?_⟩;rw [hb];refine ite_go (fun z => nomatch z) (fun _ => ?_);refine EV_strS (c := [84,104,114,111,119]) (by kernel_rfl) ?_;refine EA_cons rfl ?_;refine EV_name rfl ?_;refine EA_cons rfl ?_;refine EV_listF ?_;refine EA_cons rfl ?_;refine EV_name rfl ?_;refine EA_nil ?_;refine lb ?_;refine EA_nil ?_;refine ⟨_,_,_,rfl,?_⟩;have := RQ.done h hI hx ⟨_,_,_,rfl,not_name rfl⟩;rw [toV_node hb_ hT,toVs,toVs] at this;exact this
end
end Mine
end
section
open PySem PySem.W PySem.Calls PyProof.Rows Hd
namespace Mine
theorem pend0 {js : Js} : pendV js 0 = .lst [] := by unfold pendV; rw [Nat.sub_zero,List.drop_length]; rfl
noncomputable def jObj (js : Js) (ps : PS) : MO := .inst 705 ["labels","loops","switches"] [.ref js.ls,.int ps.loops,.int ps.switches]
theorem PInv.set_j {T : List Nat} {js : Js} {ps : PS} {H : MH} (h : PInv T js ps H) (k : Nat) : PInv T js { ps with loops := k } (H.put js.jp (jObj js { ps with loops := k })) := by
  obtain ⟨n1,n2,n3,n4,n5,n6,n7,n8⟩ := nd4 h.nd;exact ⟨(put_ne n2).trans h.p,⟨(put_ne n4).trans h.lx.at',h.lx.suf⟩,put_self,(put_ne n6.symm).trans h.ls,h.lb.keep fun a ha => put_ne (n7 a ha).2.2.1,h.nd,h.tk,h.lt,h.many⟩
theorem RQ.modded {α : Type} {I : PS→MH→Prop} {A : List Addr} {X : Nat→MH→Prop} {H₀ : MH} {f : PS→PS} {k : Unit→P.M α} {s : PS} {Q : α→PS→MH→Prop} (h : RQ I A X H₀ (P.bnd (P.mod f) k s) Q) : RQ I A X H₀ (k () (f s)) Q := h
theorem jp_mem {js : Js} : js.jp∈js.A := .tail _ (.tail _ (.head _))
section
variable {w : World} {mb : Str→Option Value} {xt : Led} {n : Nat} {X : Nat→MH→Prop} {l : Loc} {H H₀ : MH} (hb_ : ∀ x : Str,x ≠ "__name__"→mb x = bootBuiltins x) {T : List Nat} (hT : TxtOk T) {js : Js} {ps : PS}
include hb_ hT
variable (hS : SPEC w mb xt T n)
include hS
theorem loop_body_ (hI : PInv T js ps H₀) {Q : V→MH→Prop} (h : RQ (PInv T js) js.A X H₀ (P.loopBody (P.run n) ps) fun t _ H' => NodeOk t→Q (toV t) H') : CL (W0 w mb xt) ⟨n + 13,X⟩ l H₀ f_StmtParser_loop_body [.ref js.p] Q := by
  have hx : Ext js.A H₀ H₀ := Ext.refl;refine CL_def F_StmtParser_loop_body rfl ?_;refine EXS_cons ?_;refine EX_augattr ?_;refine EV_attr (fun _ => rfl) ?_;refine EV_name rfl ?_;refine T1_attr hI.p rfl rfl A_StmtParser_jumps ?_;refine ⟨_,rfl,?_⟩;refine T1_attr hI.jp rfl rfl A_Jumps_loops ?_;refine EV_int ?_;refine T2_iadd_int ?_;refine ⟨_,_,_,hI.jp,S_Jumps_loops,by decide,?_⟩;rw [show (ps.loops : Int) + 1 = ((ps.loops + 1 : Nat) : Int) by omega];have hI := hI.set_j (ps.loops + 1);have hx := hx.own (o := jObj js { ps with loops := ps.loops + 1 }) jp_mem;show EXS _ _ _ _ _ (H₀.put js.jp (jObj js { ps with loops := ps.loops + 1 })) _
  generalize H₀.put js.jp _ = H at hI hx ⊢
  have h := RQ.modded h;refine EXS_cons ?_;refine EXa ?_;refine EV_meth _ (fun _ => rfl) ?_;refine EV_name rfl ?_;refine MC_inst hI.p rfl M_StmtParser_statement rfl ?_;refine EA_nil ?_;refine CV_of_CL ?_;refine hS .statement _ _ _ _ _ _ trivial hI (RQ.call h hx (fun _ z => z) fun t ps2 H e hI hx hx2 h hN => ?_)
  cases hz : (ps2.loops == 0) with
  | true => exact (RQ.pos h hz).elim
  | false =>
  have h := RQ.neg h (nf hz);have hz : ps2.loops ≠ 0 := by simpa using hz
  refine EXS_cons ?_;refine EX_augattr ?_;refine EV_attr (fun _ => rfl) ?_;refine EV_name rfl ?_;refine T1_attr hI.p rfl rfl A_StmtParser_jumps ?_;refine ⟨_,rfl,?_⟩;refine T1_attr hI.jp rfl rfl A_Jumps_loops ?_;refine EV_int ?_;refine T2_isub_int ?_;refine ⟨_,_,_,hI.jp,S_Jumps_loops,by decide,?_⟩;rw [show (ps2.loops : Int) - 1 = ((ps2.loops - 1 : Nat) : Int) by omega];have hI := hI.set_j (ps2.loops - 1);have hx := hx.own (o := jObj js { ps2 with loops := ps2.loops - 1 }) jp_mem;show EXS _ _ _ _ _ (H.put js.jp (jObj js { ps2 with loops := ps2.loops - 1 })) _;refine EXS_cons ?_;refine EX_return ?_;refine EV_name rfl ?_;exact (RQ.done h hI hx (hN rfl) :)
theorem large_ (hI : PInv T js ps H₀) {x : List Nat} {k : Nat} {Q : V→MH→Prop} (h : RQ (PInv T js) js.A X H₀ (P.large (P.run n) x k ps) fun t _ H' => NodeOk t→Q (toV t) H') : CL (W0 w mb xt) ⟨n + 13,X⟩ l H₀ f_StmtParser_large_statement [.ref js.p,.str (SS x),.int ps.tok.line,pendV js k] Q := by
  have hx : Ext js.A H₀ H₀ := Ext.refl;refine CL_def F_StmtParser_large_statement rfl ?_;unfold P.large at h;refine EXS_cons ?_;refine EX_if ?_;refine ET_cmp rfl ?_;refine EV_name rfl ?_;refine EV_glob (by kernel_rfl) G_LOOP_WORDS (by kernel_rfl) V_LOOP_WORDS ?_;refine T2_in_tl ?_;refine ⟨_,rfl,?_⟩;refine ite_go (fun hb => ?_) (fun hb => ?_)
  · have h := RQ.pos h hb;refine EXS_cons ?_;refine EX_return ?_;refine EV_meth _ (fun _ => rfl) ?_;refine EV_name rfl ?_;refine MC_inst hI.p rfl M_StmtParser_loop rfl ?_;refine EA_pe (PEs_cons PE_name (PEs_cons PE_name (PEs_cons PE_name PEs_nil))) ?_;refine CV_of_CL ?_;refine hS (.loop x k) _ _ _ _ _ _ trivial hI (RQ.tail h hx fun t ps H hI hx hx2 h hN => ?_);exact h (hN rfl)
  have h := RQ.neg h (nf hb);refine EXS_nil ?_;refine EXS_cons ?_;refine EX_if ?_;refine ET_cmp rfl ?_;refine EV_name rfl ?_;refine EV_strS (c := [105,102]) (by kernel_rfl) ?_;refine T2_eq_l ?_;refine ⟨_,rfl,?_⟩;refine ite_go (fun hb => ?_) (fun hb => ?_)
  · have h := RQ.pos h hb;refine EXS_cons ?_;refine EX_return ?_;refine EV_meth _ (fun _ => rfl) ?_;refine EV_name rfl ?_;refine MC_inst hI.p rfl M_StmtParser_choice rfl ?_;refine EA_pe (PEs_cons PE_name PEs_nil) ?_;refine CV_of_CL ?_;refine hS .choice _ _ _ _ _ _ trivial hI (RQ.tail h hx fun t ps H hI hx hx2 h hN => ?_);exact h (hN rfl)
  have h := RQ.neg h (nf hb);refine EXS_nil ?_;refine EXS_cons ?_;refine EX_if ?_;refine ET_cmp rfl ?_;refine EV_name rfl ?_;refine EV_strS (c := [115,119,105,116,99,104]) (by kernel_rfl) ?_;refine T2_eq_l ?_;refine ⟨_,rfl,?_⟩;refine ite_go (fun hb => ?_) (fun hb => ?_)
  · exact (RQ.pos h hb).elim
  have h := RQ.neg h (nf hb);refine EXS_nil ?_;refine EXS_cons ?_;refine EX_return ?_;refine EV_if ?_;refine ET_cmp rfl ?_;refine EV_name rfl ?_;refine EV_strS (c := [116,114,121]) (by kernel_rfl) ?_;refine T2_eq_l ?_;refine ⟨_,rfl,?_⟩;refine ite_go (fun hb => ?_) (fun hb => ?_)
  · exact (RQ.pos h hb).elim
  have h := RQ.neg h (nf hb);refine EV_meth _ (fun _ => rfl) ?_;refine EV_name rfl ?_;refine MC_inst hI.p rfl M_StmtParser_plain_expression rfl ?_;refine EA_nil ?_;refine CV_of_CL ?_;refine hS .plainExpr _ _ _ _ _ _ trivial hI (RQ.tail h hx fun t ps H hI hx hx2 h hN => ?_);exact h (hN rfl)
theorem word_statement_ (hI : PInv T js ps H₀) {x : List Nat} {k : Nat} {Q : V→MH→Prop} (h : RQ (PInv T js) js.A X H₀ (P.wordStatement (P.run n) x k ps) fun t _ H' => NodeOk t→Q (toV t) H') : CL (W0 w mb xt) ⟨n + 13,X⟩ l H₀ f_SimpleParser_word_statement [.ref js.p,.str (SS x),pendV js k] Q := by
  have hx : Ext js.A H₀ H₀ := Ext.refl;refine CL_def F_SimpleParser_word_statement rfl ?_;unfold P.wordStatement at h;refine EXS_cons ?_;refine EXa ?_;refine EV_attr (fun _ => rfl) ?_;refine EV_attr (fun _ => rfl) ?_;refine EV_name rfl ?_;refine T1_attr hI.p rfl rfl A_StmtParser_token ?_;refine T1_attrF rfl rfl A_Token_line ?_;refine EXS_cons ?_;refine EX_if ?_;refine ET_cmp rfl ?_;refine EV_name rfl ?_;refine EV_strS (c := [118,97,114]) (by kernel_rfl) ?_;refine T2_eq_l ?_;refine ⟨_,rfl,?_⟩;refine ite_go (fun hb => ?_) (fun hb => ?_)
  · have h := RQ.pos h hb;refine EXS_cons ?_;refine EXx ?_;refine EV_meth _ (fun _ => rfl) ?_;refine EV_name rfl ?_;refine MC_inst hI.p rfl M_StmtParser_take rfl ?_;refine EA_nil ?_;refine CV_of_CL ?_;refine take_ hb_ hT hI (RQ.call h hx (fun _ z => z) fun t ps' H e hI hx hx2 h => ?_);refine EXS_cons ?_;refine EXa ?_;refine EV_Node hb_ hT (by kernel_rfl) rfl ?_;refine EA_cons rfl ?_;refine EV_strS (c := [86,97,114]) (by kernel_rfl) ?_;refine EA_cons rfl ?_;refine EV_name rfl ?_;refine EA_cons rfl ?_;refine EV_listF ?_;refine EA_cons rfl ?_;refine EV_meth _ (fun _ => rfl) ?_;refine EV_name rfl ?_;refine MC_inst hI.p rfl M_StmtParser_variables rfl ?_;refine EA_pe (PEs_cons PE_bool PEs_nil) ?_;refine CV_of_CL ?_;refine hS (.variables true) _ _ _ _ _ _ trivial hI (RQ.call h hx (fun _ z => z) fun t ps' H e hI hx hx2 h _ => ?_);refine EA_nil ?_;refine lb ?_;refine EA_nil ?_;refine ⟨_,_,_,rfl,?_⟩;refine EXS_cons ?_;refine EXx ?_;refine EV_meth _ (fun _ => rfl) ?_;refine EV_name rfl ?_;refine MC_inst hI.p rfl M_StmtParser_end_statement rfl ?_;refine EA_nil ?_;refine CV_of_CL ?_;refine end_statement_ hb_ hT hI (RQ.call h hx (fun _ z => z) fun u ps H e hI hx hx2 h => ?_);refine EXS_cons ?_;refine EX_return ?_;refine EV_name rfl ?_;have := RQ.done h hI hx ⟨_,_,_,rfl,not_name rfl⟩;rw [toV_node hb_ hT,toVs,toVs] at this;exact this
  have h := RQ.neg h (nf hb);refine EXS_nil ?_;refine EXS_cons ?_;refine EX_if ?_;refine ET_cmp rfl ?_;refine EV_name rfl ?_;refine EV_tuple ?_;refine EA_cons rfl ?_;refine EV_strS (c := [98,114,101,97,107]) (by kernel_rfl) ?_;refine EA_cons rfl ?_;refine EV_strS (c := [99,111,110,116,105,110,117,101]) (by kernel_rfl) ?_;refine EA_nil ?_;refine ⟨by decide,?_⟩;refine T2_in_tl (L := [[98,114,101,97,107],[99,111,110,116,105,110,117,101]]) ?_;refine ⟨_,rfl,?_⟩;refine ite_go (fun hb => ?_) (fun hb => ?_)
  · exact (RQ.pos h hb).elim
  have h := RQ.neg h (nf hb);refine EXS_nil ?_;refine EXS_cons ?_;refine EX_if ?_;refine ET_cmp rfl ?_;refine EV_name rfl ?_;refine EV_tuple ?_;refine EA_cons rfl ?_;refine EV_strS (c := [114,101,116,117,114,110]) (by kernel_rfl) ?_;refine EA_cons rfl ?_;refine EV_strS (c := [116,104,114,111,119]) (by kernel_rfl) ?_;refine EA_nil ?_;refine ⟨by decide,?_⟩;refine T2_in_tl (L := [[114,101,116,117,114,110],[116,104,114,111,119]]) ?_;refine ⟨_,rfl,?_⟩;refine ite_go (fun hb => ?_) (fun hb => ?_)
  · have h := RQ.pos h hb;refine EXS_cons ?_;refine EX_return ?_;refine EV_meth _ (fun _ => rfl) ?_;refine EV_name rfl ?_;refine MC_inst hI.p rfl M_StmtParser_leaving rfl ?_;refine EA_pe (PEs_cons PE_name (PEs_cons PE_name PEs_nil)) ?_;refine CV_of_CL ?_;refine hS (.leaving x) _ _ _ _ _ _ trivial hI (RQ.tail h hx fun t ps H hI hx hx2 h hN => ?_);exact h (hN rfl)
  have h := RQ.neg h (nf hb);refine EXS_nil ?_;refine EXS_cons ?_;refine EX_if ?_;refine ET_cmp rfl ?_;refine EV_name rfl ?_;refine EV_strS (c := [100,101,98,117,103,103,101,114]) (by kernel_rfl) ?_;refine T2_eq_l ?_;refine ⟨_,rfl,?_⟩;refine ite_go (fun hb => ?_) (fun hb => ?_)
  · exact (RQ.pos h hb).elim
  have h := RQ.neg h (nf hb);refine EXS_nil ?_;refine EXS_cons ?_;refine EX_if ?_;refine ET_cmp rfl ?_;refine EV_name rfl ?_;refine EV_strS (c := [102,117,110,99,116,105,111,110]) (by kernel_rfl) ?_;refine T2_eq_l ?_;refine ⟨_,rfl,?_⟩;refine ite_go (fun hb => ?_) (fun hb => ?_)
  · have h := RQ.pos h hb;refine EXS_cons ?_;refine EXx ?_;refine EV_meth _ (fun _ => rfl) ?_;refine EV_name rfl ?_;refine MC_inst hI.p rfl M_StmtParser_fail rfl ?_;refine EA_pe (PEs_cons (PE_str (c := [97,32,102,117,110,99,116,105,111,110,32,115,116,97,110,100,115,32,119,104,101,114,101,32,97,32,115,116,97,116,101,109,101,110,116,32,105,115,32,119,97,110,116,101,100]) (by kernel_rfl)) PEs_nil) ?_;refine CV_of_CL ?_;exact CL_fail (RQ.failed (show RQ (PInv T js) js.A X H₀ (.fail ps.tok.line) _ from h) hx)
  have h := RQ.neg h (nf hb);refine EXS_nil ?_;refine EXS_cons ?_;refine EX_if ?_;refine ET_cmp rfl ?_;refine EV_name rfl ?_;refine EV_strS (c := [119,105,116,104]) (by kernel_rfl) ?_;refine T2_eq_l ?_;refine ⟨_,rfl,?_⟩;refine ite_go (fun hb => ?_) (fun hb => ?_)
  · have h := RQ.pos h hb;refine EXS_cons ?_;refine EXx ?_;refine EV_meth _ (fun _ => rfl) ?_;refine EV_name rfl ?_;refine MC_inst hI.p rfl M_StmtParser_fail rfl ?_;refine EA_pe (PEs_cons (PE_str (c := [119,105,116,104,32,105,115,32,108,101,102,116,32,111,117,116]) (by kernel_rfl)) PEs_nil) ?_;refine CV_of_CL ?_;exact CL_fail (RQ.failed (show RQ (PInv T js) js.A X H₀ (.fail ps.tok.line) _ from h) hx)
  have h := RQ.neg h (nf hb);refine EXS_nil ?_;refine EXS_cons ?_;refine EX_return ?_;refine EV_meth _ (fun _ => rfl) ?_;refine EV_name rfl ?_;refine MC_inst hI.p rfl M_StmtParser_large_statement rfl ?_;refine EA_pe (PEs_cons PE_name (PEs_cons PE_name (PEs_cons PE_name PEs_nil))) ?_;refine CV_of_CL ?_;refine hS (.large x k) _ _ _ _ _ _ trivial hI (RQ.tail h hx fun t ps H hI hx hx2 h hN => ?_);exact h (hN rfl)
theorem loop_ (hI : PInv T js ps H₀) {x : List Nat} {k : Nat} {Q : V→MH→Prop} (h : RQ (PInv T js) js.A X H₀ (P.loop (P.run n) x k ps) fun t _ H' => NodeOk t→Q (toV t) H') : CL (W0 w mb xt) ⟨n + 13,X⟩ l H₀ f_StmtParser_loop [.ref js.p,.str (SS x),.int ps.tok.line,pendV js k] Q := by
  have hx : Ext js.A H₀ H₀ := Ext.refl;unfold P.loop at h
  cases hk : (k == 0) with
  | false => exact (RQ.neg h (nf hk)).elim
  | true =>
  have h := RQ.pos h hk;have hk : k = 0 := by simpa using hk
  subst hk;rw [pend0];refine CL_def F_StmtParser_loop rfl ?_;refine EXS_cons ?_;refine EX_for (fun j l' H' => H' = H₀∧LSub (["self","word","line","pending"].zip [.ref js.p,.str (SS x),.int ps.tok.line,.lst []]) l') (fun _ _ => rfl) (by kernel_rfl) ?_;refine EV_name rfl ?_;refine ⟨[],.inl rfl,⟨rfl,LSub.refl⟩,?_,?_⟩
  · intro i u l H it o hu; cases hu
  rintro l H ⟨rfl,hsub⟩;refine EXS_loc hsub ?_;refine EXS_cons ?_;refine EXx ?_;refine EV_meth _ (fun _ => rfl) ?_;refine EV_name rfl ?_;refine MC_inst hI.p rfl M_StmtParser_take rfl ?_;refine EA_nil ?_;refine CV_of_CL ?_;refine take_ hb_ hT hI (RQ.call h hx (fun _ z => z) fun t ps' H e hI hx hx2 h => ?_)
  cases hw : (x == [119,104,105,108,101]) with
  | false => exact (RQ.negM h (nf hw)).elim
  | true =>
  have h := RQ.posM h hw;have hw : x = [119,104,105,108,101] := by simpa using hw
  subst hw;refine EXS_cons ?_;refine EX_if ?_;refine ET_cmp rfl ?_;refine EV_name rfl ?_;refine EV_strS (c := [102,111,114]) (by kernel_rfl) ?_;refine T2_eq_l ?_;refine ⟨_,rfl,?_⟩;refine ite_go (fun z => nomatch z) (fun _ => ?_);refine EXS_nil ?_;refine EXS_cons ?_;refine EX_if ?_;refine ET_cmp rfl ?_;refine EV_name rfl ?_;refine EV_strS (c := [119,104,105,108,101]) (by kernel_rfl) ?_;refine T2_eq_l ?_;refine ⟨_,rfl,?_⟩;refine ite_go (fun _ => ?_) (fun z => nomatch z);refine EXS_cons ?_;refine EXa ?_;refine EV_meth _ (fun _ => rfl) ?_;refine EV_name rfl ?_;refine MC_inst hI.p rfl M_StmtParser_condition rfl ?_;refine EA_nil ?_;refine CV_of_CL ?_;refine hS .condition _ _ _ _ _ _ trivial hI (RQ.call h hx (fun _ z => z) fun t1 ps' H e hI hx hx2 h _ => ?_);refine EXS_cons ?_;refine EX_return ?_;refine EV_Node hb_ hT (by kernel_rfl) rfl ?_;refine EA_cons rfl ?_;refine EV_strS (c := [87,104,105,108,101]) (by kernel_rfl) ?_;refine EA_cons rfl ?_;refine EV_name rfl ?_;refine EA_cons rfl ?_;refine EV_listF ?_;refine EA_cons rfl ?_;refine EV_name rfl ?_;refine EA_cons rfl ?_;refine EV_meth _ (fun _ => rfl) ?_;refine EV_name rfl ?_;refine MC_inst hI.p rfl M_StmtParser_loop_body rfl ?_;refine EA_nil ?_;refine CV_of_CL ?_;refine hS .loopBody _ _ _ _ _ _ trivial hI (RQ.call h hx (fun _ z => z) fun t2 ps' H e hI hx hx2 h _ => ?_);refine EA_nil ?_;refine lb ?_;refine EA_nil ?_;refine ⟨_,_,_,rfl,?_⟩;have := RQ.done h hI hx ⟨_,_,_,rfl,not_name rfl⟩;rw [toV_node hb_ hT,toVs,toVs,toVs] at this;exact this
theorem statement_ {ps9 : PS} (hI : PInv T js ps9 H₀) {Q : V→MH→Prop} (h : RQ (PInv T js) js.A X H₀ (P.statement (P.run n) ps9) fun t _ H' => NodeOk t→Q (toV t) H') : CL (W0 w mb xt) ⟨n + 13,X⟩ l H₀ f_SimpleParser_statement [.ref js.p] Q := by
  have hx : Ext js.A H₀ H₀ := Ext.refl;unfold P.statement at h;have h := RQ.modded h;refine CL_def F_SimpleParser_statement rfl ?_;refine EXS_cons ?_;refine EX_unpackS (xs := ["token","pending"]) (fun _ => rfl) (by intros; kernel_rfl) (by decide +kernel) ?_;refine EV_tuple ?_;refine EA_cons rfl ?_;refine EV_attr (fun _ => rfl) ?_;refine EV_name rfl ?_;refine T1_attr hI.p rfl rfl A_StmtParser_token ?_;refine EA_cons rfl ?_;refine EV_attr (fun _ => rfl) ?_;refine EV_name rfl ?_;refine T1_attr hI.p rfl rfl A_StmtParser_pending ?_;refine EA_nil ?_;refine lb ?_;refine ⟨_,rfl,rfl,?_⟩;refine EXS_cons ?_;refine EX_setattr (fun _ => rfl) ?_;refine EV_listF ?_;refine EA_nil ?_;refine ⟨by decide,?_⟩;refine EV_name rfl ?_;refine ⟨_,_,_,_,rfl,hI.p,S_StmtParser_pending,by decide,?_⟩;have e : H₀.put js.p (pObj T js { ps9 with pend := 0 }) = H₀.put js.p (.inst 1203 (setF ["lexer","token","later","is_strict","depth","jumps","pending"] [.ref js.lx,tokV T ps9.tok,laterV T ps9.later,.bool ps9.strict,.int ps9.dep,.ref js.jp,pendV js ps9.pend] "pending" (.lst [])).1 (setF ["lexer","token","later","is_strict","depth","jumps","pending"] [.ref js.lx,tokV T ps9.tok,laterV T ps9.later,.bool ps9.strict,.int ps9.dep,.ref js.jp,pendV js ps9.pend] "pending" (.lst [])).2) := by
    unfold pObj; rw [pend0]; rfl
  show EXS _ _ _ _ _ (H₀.put js.p _) _;rw [← e];have htk := hI.tk;have hI := hI.set_p (ps' := { ps9 with pend := 0 }) rfl rfl rfl rfl hI.tk hI.lt;have hx := hx.own (a := js.p) (o := pObj T js { ps9 with pend := 0 }) (.head _)
  generalize H₀.put js.p _ = H at hI hx ⊢
  generalize hp0 : ({ ps9 with pend := 0 } : PS) = ps at h hI
  have GO : ∀ (ps : PS) (H : MH) (l' : Loc),LSub [("self",.ref js.p),("token",tokV T ps9.tok),("pending",pendV js ps9.pend)] l'→PInv T js ps H→Ext js.A H₀ H→RQ (PInv T js) js.A X H₀ (P.stGo (P.run n) ps9 ps) (fun t _ H' => NodeOk t→Q (toV t) H') →
      EXS (W0 w mb xt) ⟨n + 12,X⟩ (sScope (fM 97 3)) ((sBody (fM 97 3)).drop 3) l' H (retQ Q) := by
    intro ps H l' hsub hI hx h;refine EXS_loc hsub ?_;unfold P.stGo at h;refine EXS_cons ?_;refine EX_if ?_
    apply ET_andP
    · skip
      refine ET_cmp rfl ?_;refine EV_attr (fun _ => rfl) ?_;refine EV_name rfl ?_;refine T1_attrF rfl rfl A_Token_kind ?_;refine EV_strS (c := KD.keyword.str) (by kernel_rfl) ?_;refine T2_eq_k ?_;refine ⟨_,rfl,?_⟩;exact ⟨rfl,rfl⟩
    · intro _;refine ET_and1 ?_;refine ET_val (fun _ _ => rfl) ?_;refine EV_attr (fun _ => rfl) ?_;refine EV_name rfl ?_;refine T1_attrF rfl rfl A_Token_is_plain ?_;refine ⟨_,rfl,?_⟩;exact ⟨rfl,rfl⟩
    refine ite_go (fun hb => ?_) (fun hb => ?_)
    · have h := RQ.pos h hb;have hv := tokv_of (Bool.and_eq_true_iff.mp hb).1;refine EXS_cons ?_;refine EX_return ?_;refine EV_meth _ (fun _ => rfl) ?_;refine EV_name rfl ?_;refine MC_inst hI.p rfl M_StmtParser_word_statement rfl ?_;refine EA_cons rfl ?_;refine EV_attr (fun _ => rfl) ?_;refine EV_name rfl ?_;refine T1_tokv hv ?_;refine EA_cons rfl ?_;refine EV_name rfl ?_;refine EA_nil ?_;refine CV_of_CL ?_;refine hS (.wordStatement ps9.tok.v ps9.pend) _ _ _ _ _ _ trivial hI (RQ.tail h hx fun t ps H hI hx hx2 h hN => ?_);exact h (hN rfl)
    have h := RQ.neg h (nf hb);refine EXS_nil ?_;refine EXS_cons ?_;refine EX_if ?_;refine ET_val (fun _ _ => rfl) ?_;refine EV_meth _ (fun _ => rfl) ?_;refine EV_name rfl ?_;refine MC_inst hI.p rfl M_StmtParser_is_sign rfl ?_;refine EA_pe (PEs_cons (PE_str (c := [123]) (by kernel_rfl)) PEs_nil) ?_;refine CV_of_CL ?_;refine is_sign_ hb_ hT hI ?_;refine ⟨_,rfl,?_⟩;refine ite_go (fun hb => ?_) (fun hb => ?_)
    · have h := RQ.pos h hb;refine EXS_cons ?_;refine EX_return ?_;refine EV_Node hb_ hT (by kernel_rfl) rfl ?_;refine EA_cons rfl ?_;refine EV_strS (c := [66,108,111,99,107]) (by kernel_rfl) ?_;refine EA_cons rfl ?_;refine EV_attr (fun _ => rfl) ?_;refine EV_name rfl ?_;refine T1_attrF rfl rfl A_Token_line ?_;refine EA_cons rfl ?_;refine EV_listF ?_;refine EA_cons rfl ?_;refine EV_meth _ (fun _ => rfl) ?_;refine EV_name rfl ?_;refine MC_inst hI.p rfl M_StmtParser_block rfl ?_;refine EA_nil ?_;refine CV_of_CL ?_;refine hS .block _ _ _ _ _ _ trivial hI (RQ.call h hx (fun _ z => z) fun t ps H e hI hx hx2 h _ => ?_);refine EA_nil ?_;refine lb ?_;refine EA_nil ?_;refine ⟨_,_,_,rfl,?_⟩;have := RQ.done h hI hx ⟨_,_,_,rfl,not_name rfl⟩;rw [toV_node hb_ hT,toVs,toVs] at this;exact this
    have h := RQ.neg h (nf hb);refine EXS_nil ?_;refine EXS_cons ?_;refine EX_if ?_;refine ET_val (fun _ _ => rfl) ?_;refine EV_meth _ (fun _ => rfl) ?_;refine EV_name rfl ?_;refine MC_inst hI.p rfl M_StmtParser_eat rfl ?_;refine EA_pe (PEs_cons (PE_str (c := [59]) (by kernel_rfl)) PEs_nil) ?_;refine CV_of_CL ?_;refine eat_ hb_ hT hI (RQ.call h hx (fun _ z => z) fun b ps H e hI hx hx2 h => ?_);refine ⟨_,rfl,?_⟩
    cases b with
    | true =>
      refine ite_go (fun _ => ?_) (fun z => nomatch z);have h := RQ.posM h rfl;refine EXS_cons ?_;refine EX_return ?_;refine EV_Node hb_ hT (by kernel_rfl) rfl ?_;refine EA_cons rfl ?_;refine EV_strS (c := [69,109,112,116,121]) (by kernel_rfl) ?_;refine EA_cons rfl ?_;refine EV_attr (fun _ => rfl) ?_;refine EV_name rfl ?_;refine T1_attrF rfl rfl A_Token_line ?_;refine EA_cons rfl ?_;refine EV_pe (PE_list PEs_nil) ?_;refine EA_nil ?_;refine ⟨_,_,_,rfl,?_⟩;have := RQ.done h hI hx ⟨_,_,_,rfl,not_name rfl⟩;rw [toV_node hb_ hT,toVs] at this;exact this
    | false =>
      refine ite_go (fun z => nomatch z) (fun _ => ?_);have h := RQ.negM h Bool.false_ne_true;refine EXS_nil ?_;refine EXS_cons ?_;refine EX_return ?_;refine EV_meth _ (fun _ => rfl) ?_;refine EV_name rfl ?_;refine MC_inst hI.p rfl M_StmtParser_plain_expression rfl ?_;refine EA_nil ?_;refine CV_of_CL ?_;refine hS .plainExpr _ _ _ _ _ _ trivial hI (RQ.tail h hx fun t ps H hI hx hx2 h hN => ?_);exact h (hN rfl)
  refine EXS_cons ?_;refine EX_if ?_;refine ET_cmp rfl ?_;refine EV_attr (fun _ => rfl) ?_;refine EV_name rfl ?_;refine T1_attrF rfl rfl A_Token_kind ?_;refine EV_strS (c := KD.name.str) (by kernel_rfl) ?_;refine T2_eq_k ?_;refine ⟨_,rfl,?_⟩;refine ite_go (fun hb => ?_) (fun hb => ?_)
  · have h := RQ.posM h hb;refine EXS_cons ?_;refine EXa ?_;refine EV_meth _ (fun _ => rfl) ?_;refine EV_name rfl ?_;refine MC_inst hI.p rfl M_StmtParser_peek rfl ?_;refine EA_nil ?_;refine CV_of_CL ?_;refine peek_ hb_ hT hI (RQ.call h hx (fun _ z => z) fun t2 ps H e2 hI hx hx2 h => ?_);refine EXS_cons ?_;refine EX_if ?_
    apply ET_andP
    · skip
      refine ET_cmp rfl ?_;refine EV_attr (fun _ => rfl) ?_;refine EV_name rfl ?_;refine T1_attrF rfl rfl A_Token_kind ?_;refine EV_strS (c := KD.punct.str) (by kernel_rfl) ?_;refine T2_eq_k ?_;refine ⟨_,rfl,?_⟩;exact ⟨rfl,rfl⟩
    · intro hb;have hv := tokv_of hb;refine ET_and1 ?_;refine ET_cmp rfl ?_;refine EV_attr (fun _ => rfl) ?_;refine EV_name rfl ?_;refine T1_tokv hv ?_;refine EV_strS (c := [58]) (by kernel_rfl) ?_;refine T2_eq_l ?_;refine ⟨_,rfl,?_⟩;exact ⟨rfl,rfl⟩
    refine ite_go (fun hb => ?_) (fun hb => ?_)
    · have h := RQ.posM h hb;refine EXS_cons ?_;refine EX_return ?_;refine EV_meth _ (fun _ => rfl) ?_;refine EV_name rfl ?_;refine MC_inst hI.p rfl M_StmtParser_labelled rfl ?_;refine EA_pe (PEs_cons PE_name PEs_nil) ?_;refine CV_of_CL ?_;refine hS (.labelled ps9.pend) _ _ _ _ _ _ trivial hI (RQ.tail h hx fun t ps H hI hx hx2 h hN => ?_);exact h (hN rfl)
    · have h := RQ.negM h (nf hb);refine EXS_nil ?_;refine EXS_nil ?_;exact GO _ _ _ (LSub_cons rfl (LSub_cons rfl (LSub_cons rfl LSub_nil))) hI hx h
  · have h := RQ.negM h (nf hb);refine EXS_nil ?_;exact GO _ _ _ (LSub_cons rfl (LSub_cons rfl (LSub_cons rfl LSub_nil))) hI hx h
end
end Mine
end
section
open PySem PySem.W PySem.Calls PyProof.Rows Hd
namespace Mine
section
variable {W : Wd} {d : Dx} {cs : Scope} {l : Loc} {H : MH}
theorem T2_add_lst {vs us : List V} {Q : V→MH→Prop} (hz : vs.length + us.length < 1000000) (hq : Q (.lst (vs ++ us)) H) : T2 W d cs l H (.lst vs) (.lst us) (binaryOp .Add) Q := by
  refine Box.mk ?_;intro C news ow s Qr E U U' hc ho hs v1 v2 hk;obtain ⟨a,n,Vs,rfl,fa,vr⟩ := of_vr_lst v1;obtain ⟨b,k,Us,rfl,fb,ur⟩ := of_vr_lst v2;obtain ⟨m,F,lr⟩ := hs.fr;have le := le_new (W := W) (ow := ow) (o := listO (Vs ++ Us) 0) (b := none) (fun p hp => led_lt hs hp);refine add_lists (vs := Vs) (ws := Us) F hs.nw ⟨_,fz_at ho hs fa,rfl,n,rfl⟩ ⟨_,fz_at ho hs fb,rfl,k,rfl⟩ (fun h' F' N' => ?_) (by rw [← VRs.length vr,← VRs.length ur,sizeLine_eq]; omega);refine hk (.lst (vs ++ us)) _ H _ (owPut ow s.heap.objs.size none) _ (hs.push (o := listO (Vs ++ Us) 0) lr F' N' none) le rfl ?_ hq;unfold VRw VR;exact ⟨_,0,Vs ++ Us,rfl,.inr ⟨.head _,by unfold owPut; exact if_pos rfl⟩,(vr.append ur).mono le⟩
theorem St.grow {C : FC} {news : Led} {ow : Own} {s : Shared} {h' : Heap} {D : Addr} {o : Obj} {m : Str→Option Value} {tk : Nat} (hs : St W C l H news ow s) (lr : LRel W.w.params (fzOf W.B news ow) l m) (F' : Fr C.h₀ C.L h' m)
    (N' : News C.h₀ C.L h' ((D,o) :: news)) (off : ∀ p∈news,p.1 ≠ D) : St W C l H ((D,o) :: news) (owPut ow D none) { s with heap := h',toks := tk }∧Le (fzS W news ow) (fzS W ((D,o) :: news) (owPut ow D none)) := by
  have le : Le (fzS W news ow) (fzS W ((D,o) :: news) (owPut ow D none)) := by
    intro x y h
    rcases h with h | ⟨h,e⟩
    · exact .inl h
    · refine .inr ⟨.tail _ h,?_⟩;unfold owPut;rw [if_neg (off _ h)]; exact e
  refine ⟨⟨⟨m,F',lr.mono le⟩,N',fun a x hx => MRel.own le (fun p hp => .tail _ hp) (fun p hp => by unfold owPut; rw [if_neg (off p hp)]) (hs.hr a x hx),?_,hs.gens⟩,le⟩;rw [List.map_cons,List.nodup_cons];refine ⟨fun z => ?_,hs.nd⟩;obtain ⟨p,hp,e⟩ := List.mem_map.mp z;exact off p hp e
theorem off1_mem {D : Addr} : ∀ {l : List (Addr × Obj)},LCg.Off1 D l→∀ p∈l,p.1 ≠ D
  | [],_,_,h => nomatch h
  | _ :: _,x,p,h => by
    rcases List.mem_cons.mp h with rfl | h
    · exact x.1
    · exact off1_mem x.2 p h
noncomputable def EVP (W : Wd) (d : Dx) (cs : Scope) (e : Expr) (l : Loc) (H : MH) (v : V) : Prop :=
  Box (∀ (C : FC) (news : Led) (ow : Own) (s : Shared) (Qr : Value→Shared→Prop) (E : Value→Shared→Prop),C.cs = cs→C.Ok W d→St W C l H news ow s→(∀ U k,VRw W (fzS W news ow) v U→Qr U { s with toks := k })→wpAny (Md W) C.A (eval e C.env) Qr E s)
theorem EVP_name {x : String} {pos : Pos} {v : V} (hv : lget l x = some v) (hl : cs.names.lookup (Str.ofString x) = some .local) (hd : (Str.ofString x == ("__debug__" : Str)) = false) : EVP W d cs (.Name (Str.ofString x) pos) l H v := by
  refine Box.mk ?_;intro C news ow s Qr E hc ho hs hk;subst hc;obtain ⟨m,F,lr⟩ := hs.fr;obtain ⟨U,hm,vr⟩ := lr x v hv;exact ld F hm (hk U s.toks vr) ho.fn hl hd
theorem EVP_attr {e : Expr} {a K : Addr} {ks : List String} {vs : List V} {x : String} {v : V} {pos : Pos} (he : ∀ env,attributeBase e (Str.ofString x) env (eval e env) = eval e env) (h : EVP W d cs e l H (.ref a)) (hH : H a = some (.inst K ks vs)) (hv : getF ks vs x = some v) (hp : plainV v = true) (hc : AttrAt W K x) :
    EVP W d cs (.Attribute e (Str.ofString x) pos) l H v := by
  refine Box.mk ?_;intro C news ow s Qr E hcs ho hs hk;refine Attribute_any_ (h.go C news ow s _ E hcs ho hs fun U k vr => ?_) ?_
  · obtain rfl := of_vr_ref vr;have hs := hs.toks (t := k);obtain ⟨m,F,lr⟩ := hs.fr;obtain ⟨_,dx,n,Es,_,h1,h2,hkeys,hvs⟩ := hs.hr a _ hH;obtain ⟨attr,hf,hn⟩ := hc.find;obtain ⟨U,hl,vr'⟩ := getL_some hkeys hvs hv;exact get_own F ho.kin (InstAt.of_news hs.nw h1 h2) hc.plain hc.dict hf hn hl (handed_of vr' hp) (hk U _ vr')
  · show (do let o ← attributeBase e (Str.ofString x) C.env (eval e C.env); standAt pos.atName; let r ← holding [o] (getAttr o (Str.ofString x) true); letTemporaryGo e o r; pure r) = _;rw [he]
theorem EVP_attrF {e : Expr} {K : Addr} {ks : List String} {vs : List V} {x : String} {v : V} {pos : Pos} (he : ∀ env,attributeBase e (Str.ofString x) env (eval e env) = eval e env) (h : EVP W d cs e l H (.obj K ks vs)) (hv : getF ks vs x = some v) (hp : plainV v = true) (hc : AttrAt W K x) :
    EVP W d cs (.Attribute e (Str.ofString x) pos) l H v := by
  refine Box.mk ?_;intro C news ow s Qr E hcs ho hs hk;refine Attribute_any_ (h.go C news ow s _ E hcs ho hs fun U k vr => ?_) ?_
  · obtain ⟨y,dx,n,Es,rfl,h1,h2,hkeys,hvs⟩ := of_vr_obj vr;have hs := hs.toks (t := k);obtain ⟨m,F,lr⟩ := hs.fr;obtain ⟨attr,hf,hn⟩ := hc.find;obtain ⟨U,hl,vr'⟩ := getL_some hkeys hvs hv;exact get_own F ho.kin ⟨fz_at ho hs h1,rfl,rfl,fz_at ho hs h2⟩ hc.plain hc.dict hf hn hl (handed_of vr' hp) (hk U _ vr')
  · show (do let o ← attributeBase e (Str.ofString x) C.env (eval e C.env); standAt pos.atName; let r ← holding [o] (getAttr o (Str.ofString x) true); letTemporaryGo e o r; pure r) = _;rw [he]
theorem EV_comp_nil {elt iter : Expr} {x : Str} {px pos : Pos} {scope : Scope} {Q : V→MH→Prop} (hclos : ∀ env,closureFor scope env = pure []) (hcell : ∀ y∈scope.names,y.2 ≠ .cell) (hkind : scope.kind = .function)
    (hnames : ∀ y∈scope.names,y.2 = .local→scope.names.lookup y.1 = some .local) (hx : scope.names.lookup x = some .local) (hfs : ∀ env v,foldedSetIterable iter env v = pure v)
    {a : Addr} (h : EVP W d cs iter l H (.ref a)) (hH : H a = some (.list [])) (hq : Q (.lst []) H) : EV W d cs (.ListComp elt [⟨.Name x px,iter,[],0⟩] scope pos) l H Q := by
  refine Box.mk ?_;intro C news ow s Qr E hc ho hs hk;obtain ⟨m,F,lr⟩ := hs.fr;refine LCg.ListComp_U F (hclos _) hcell hkind hnames hx (h.go C news ow s _ E hc ho hs fun U k vr => ?_) (hfs _);obtain rfl := of_vr_ref vr;obtain ⟨_,n,Vs,hm,vrs⟩ := hs.hr a _ hH;have hV : Vs = [] := by cases Vs with
    | nil => rfl
    | cons _ _ => exact vrs.elim
  subst hV;refine LCg.CompSrc.ledger (k := n) ho.handled F hs.nw hm (Nat.zero_le _) fun g => LCg.CompRest.zero ?_;intro D h' tk F' N' off;obtain ⟨st,le⟩ := hs.grow (tk := tk) lr F' N' (off1_mem off);refine hk (.lst []) _ H _ _ _ st le rfl ?_ hq;unfold VRw VR;exact ⟨D,0,[],rfl,.inr ⟨.head _,by unfold owPut; exact if_pos rfl⟩,vrs_nil⟩
end
section
variable {w : World} {mb : Str→Option Value} {xt : Led} {n : Nat} {X : Nat→MH→Prop} {l : Loc} {H H₀ : MH} (hb_ : ∀ x : Str,x ≠ "__name__"→mb x = bootBuiltins x) {T : List Nat} (hT : TxtOk T) {js : Js} {ps : PS}
include hb_ hT
theorem label_fault_ {jp ls : Addr} {a b : V} {x : List Nat} (hJ : H jp = some (.inst 705 ["labels","loops","switches"] [.ref ls,a,b])) (hL : H ls = some (.list [])) {Q : V→MH→Prop} (hq : Q .none H) : CL (W0 w mb xt) ⟨n + 1,X⟩ l H f_Jumps_label_fault [.ref jp,.str (SS x)] Q := by
  refine CL_def F_Jumps_label_fault rfl ?_;refine EXS_cons ?_;refine EX_return ?_;refine EV_if ?_;refine ET_cmp rfl ?_;refine EV_name rfl ?_;refine EV_comp_nil (fun _ => rfl) (by decide +kernel) (by kernel_rfl) (by decide +kernel) (by kernel_rfl) (fun _ _ => rfl) (EVP_attr (fun _ => rfl) (EVP_name rfl (by kernel_rfl) (by kernel_rfl)) hJ rfl rfl A_Jumps_labels) hL ?_;refine T2_in_strs_lst (ys := []) ?_;refine ⟨_,rfl,?_⟩;refine ite_go (fun z => nomatch z) (fun _ => ?_);refine EV_none ?_;exact hq
theorem labs_nil {H : MH} {as : List Addr} (h : labsAt H as []) : as = [] := by cases as with
  | nil => rfl
  | cons _ _ => exact h.elim
theorem labs_one {H : MH} {a : Addr} {ps : List (List Nat × Bool)} (h : labsAt H [a] ps) : ps.dropLast = [] := by
  match ps,h with
  | [_],_ => rfl
variable (hS : SPEC w mb xt T n)
include hS
theorem labelled_ {ps9 : PS} (hI : PInv T js ps9 H₀) {k : Nat} {Q : V→MH→Prop} (h : RQ (PInv T js) js.A X H₀ (P.labelled (P.run n) k ps9) fun t _ H' => NodeOk t→Q (toV t) H') : CL (W0 w mb xt) ⟨n + 13,X⟩ l H₀ f_SimpleParser_labelled [.ref js.p,pendV js k] Q := by
  have hx : Ext js.A H₀ H₀ := Ext.refl;refine CL_def F_SimpleParser_labelled rfl ?_;unfold P.labelled at h;refine EXS_cons ?_;refine EXa ?_;refine EV_attr (fun _ => rfl) ?_;refine EV_attr (fun _ => rfl) ?_;refine EV_name rfl ?_;refine T1_attr hI.p rfl rfl A_StmtParser_token ?_;refine T1_attrF rfl rfl A_Token_line ?_;refine EXS_cons ?_;refine EXa ?_;refine EV_meth _ (fun _ => rfl) ?_;refine EV_name rfl ?_;refine MC_inst hI.p rfl M_StmtParser_need_name rfl ?_;refine EA_nil ?_;refine CV_of_CL ?_;refine need_name_ hb_ hT hI (RQ.call h hx (fun _ z => z) fun x ps' H e hI hx hx2 h hxl => ?_);refine EXS_cons ?_;refine EXx ?_;refine EV_meth _ (fun _ => rfl) ?_;refine EV_name rfl ?_;refine MC_inst hI.p rfl M_StmtParser_take rfl ?_;refine EA_nil ?_;refine CV_of_CL ?_;refine take_ hb_ hT hI (RQ.call h hx (fun _ z => z) fun t ps H e hI hx hx2 h => ?_)
  cases hle : (!ps.labels.isEmpty) with
  | true => exact (RQ.pos h hle).elim
  | false =>
  have h := RQ.modded (RQ.neg h (nf hle));have hl0 : ps.labels = [] := by simpa using hle
  have hlb0 : js.lbs = [] := labs_nil hb_ hT (H := H) (by have := hI.lb; rw [hl0] at this; exact this);have hLs : H js.ls = some (.list []) := by have := hI.ls; rw [hlb0] at this; exact this
  refine EXS_cons ?_;refine EXx ?_;refine EV_meth _ (fun _ => rfl) ?_;refine EV_name rfl ?_;refine MC_inst hI.p rfl M_StmtParser_fail_for rfl ?_;refine EA_cons rfl ?_;refine EV_meth _ (fun _ => rfl) ?_;refine EV_attr (fun _ => rfl) ?_;refine EV_name rfl ?_;refine T1_attr hI.p rfl rfl A_StmtParser_jumps ?_;refine MC_inst hI.jp rfl M_Jumps_label_fault rfl ?_;refine EA_pe (PEs_cons PE_name PEs_nil) ?_;refine CV_of_CL ?_;refine label_fault_ hb_ hT hI.jp hLs ?_;refine EA_nil ?_;refine CV_of_CL ?_;refine fail_for_none hb_ hT ?_;refine EXS_cons ?_;refine EXa ?_;refine EV_listM ?_;refine EA_cons rfl ?_;refine EV_name rfl ?_;refine EA_cons rfl ?_;refine EV_bool ?_;refine EA_nil ?_;refine ⟨Nat.le_of_ble_eq_true (by kernel_rfl),fun a ha => ?_⟩;have hA := hI.fresh ha;have hH0 := hx.noneB ha hA;obtain ⟨n1,n2,n3,n4,n5,n6,n7,n8⟩ := nd4 hI.nd;have hal : a ≠ js.ls := fun z => hA (z ▸ .tail _ (.tail _ (.tail _ (.head _))));have hap : a ≠ js.p := fun z => hA (z ▸ .head _);have hI1 := hI.put (o := .list [.str (SS x),.bool false]) hA;have hx1 := hx.loc (o := .list [.str (SS x),.bool false]) hH0;have hf1 : MH.put H a (.list [.str (SS x),.bool false]) a = some (.list [.str (SS x),.bool false]) := put_self;have hLs1 : MH.put H a (.list [.str (SS x),.bool false]) js.ls = some (.list []) := (put_ne hal.symm).trans hLs
  generalize MH.put H a _ = H1 at hI1 hx1 hf1 hLs1 ⊢
  have hI := hI1;refine EXS_cons ?_;refine EXx ?_;refine EV_meth _ (fun _ => rfl) ?_;refine EV_attr (fun _ => rfl) ?_;refine EV_attr (fun _ => rfl) ?_;refine EV_name rfl ?_;refine T1_attr hI.p rfl rfl A_StmtParser_jumps ?_;refine T1_attr hI.jp rfl rfl A_Jumps_labels ?_;refine MC_append hLs1 rfl ?_;refine EV_name rfl ?_;refine ⟨_,hLs1,by decide,?_⟩;show EXS _ _ _ _ _ (H1.put js.ls (.list [.ref a])) _;have hp2 : H1.put js.ls (.list [.ref a]) js.p = some (.inst 1203 ["lexer","token","later","is_strict","depth","jumps","pending"] [.ref js.lx,tokV T ps.tok,laterV T ps.later,.bool ps.strict,.int ps.dep,.ref js.jp,pendV js ps.pend]) := (put_ne n3).trans hI.p;have hl2 : LInv T js.lx ps.lx (H1.put js.ls (.list [.ref a])) := hI.lx.put n5.symm;have hj2 : H1.put js.ls (.list [.ref a]) js.jp = some (.inst 705 ["labels","loops","switches"] [.ref js.ls,.int ps.loops,.int ps.switches]) := (put_ne n6).trans hI.jp;have hs2 : H1.put js.ls (.list [.ref a]) js.ls = some (.list [.ref a]) := put_self;have hf2 : H1.put js.ls (.list [.ref a]) a = some (.list [.str (SS x),.bool false]) := (put_ne hal).trans hf1;have hx2 := hx1.own (o := .list [.ref a]) (show js.ls∈js.A from .tail _ (.tail _ (.tail _ (.head _))))
  generalize H1.put js.ls _ = H2 at hp2 hl2 hj2 hs2 hf2 hx2 ⊢
  refine EXS_cons ?_;refine EX_setattr (fun _ => rfl) ?_;refine EV_bin ?_;refine EV_name rfl ?_;refine EV_listF ?_;refine EA_cons rfl ?_;refine EV_name rfl ?_;refine EA_nil ?_;refine lb ?_;refine T2_add_lst (by rw [hlb0]; simp) ?_;refine EV_name rfl ?_;refine ⟨_,_,_,_,rfl,hp2,S_StmtParser_pending,by decide,?_⟩;have e9 : (js.lbs.drop (js.lbs.length - k)).map V.ref ++ [V.ref a] = [.ref a] := by rw [hlb0]; simp
  rw [e9];have hpend : pendV { js with lbs := [a] } (k + 1) = .lst [.ref a] := by
    unfold pendV;show V.lst (([a].drop (1 - (k + 1))).map V.ref) = _;rw [show 1 - (k + 1) = 0 by omega]; rfl
  have e : H2.put js.p (pObj T { js with lbs := [a] } { ps with labels := [(x,false)],pend := k + 1 }) = H2.put js.p (.inst 1203 (setF ["lexer","token","later","is_strict","depth","jumps","pending"] [.ref js.lx,tokV T ps.tok,laterV T ps.later,.bool ps.strict,.int ps.dep,.ref js.jp,pendV js ps.pend] "pending" (.lst [.ref a])).1 (setF ["lexer","token","later","is_strict","depth","jumps","pending"] [.ref js.lx,tokV T ps.tok,laterV T ps.later,.bool ps.strict,.int ps.dep,.ref js.jp,pendV js ps.pend] "pending" (.lst [.ref a])).2) := by
    unfold pObj; rw [hpend]; rfl
  show EXS _ _ _ _ _ (H2.put js.p _) _;rw [← e];have hI3 : PInv T { js with lbs := [a] } { ps with labels := [(x,false)],pend := k + 1 } (H2.put js.p (pObj T { js with lbs := [a] } { ps with labels := [(x,false)],pend := k + 1 })) := by
    refine ⟨put_self,⟨(put_ne n1.symm).trans hl2.at',hl2.suf⟩,(put_ne n2.symm).trans hj2,(put_ne n3.symm).trans hs2,⟨(put_ne hap).trans hf2,trivial⟩,?_,hI.tk,hI.lt,by show 1 < 1000; decide⟩;have nd := hI.nd;unfold Js.A at nd hA ⊢;rw [hlb0] at nd hA;simp only [List.nodup_cons,List.mem_cons,List.not_mem_nil,or_false,not_or,not_false_eq_true,List.nodup_nil,and_true] at nd hA ⊢;exact ⟨⟨nd.1.1,nd.1.2.1,nd.1.2.2,fun z => hA.1 z.symm⟩,⟨nd.2.1.1,nd.2.1.2,fun z => hA.2.1 z.symm⟩,⟨nd.2.2,fun z => hA.2.2.1 z.symm⟩,fun z => hA.2.2.2 z.symm⟩
  have hx3 := hx2.own (o := pObj T { js with lbs := [a] } { ps with labels := [(x,false)],pend := k + 1 }) (show js.p∈js.A from .head _)
  generalize H2.put js.p _ = H3 at hI3 hx3 ⊢
  have hI := hI3;have hx := hx3;have hsub : ∀ b∈Js.A { js with lbs := [a] },b∈js.A ∨ H₀ b = none := by
    intro b hb;unfold Js.A at hb ⊢;simp only [List.mem_cons,List.not_mem_nil,or_false] at hb ⊢
    rcases hb with z | z | z | z | z
    · exact .inl (.inl z)
    · exact .inl (.inr (.inl z))
    · exact .inl (.inr (.inr (.inl z)))
    · exact .inl (.inr (.inr (.inr (.inl z))))
    · exact .inr (z ▸ hH0)
  refine EXS_cons ?_;refine EXa ?_;refine EV_meth _ (fun _ => rfl) ?_;refine EV_name rfl ?_;refine MC_inst hI.p rfl M_StmtParser_statement rfl ?_;refine EA_nil ?_;refine CV_of_CL ?_;refine hS .statement { js with lbs := [a] } _ _ _ _ _ trivial hI (RQ.callF h hx hsub fun t ps4 H e hI hx hx2 h _ => ?_)
  cases hp4 : (ps4.pend == 0) with
  | false => exact (RQ.neg h (nf hp4)).elim
  | true =>
  have h := RQ.pos h hp4;have hp4 : ps4.pend = 0 := by simpa using hp4
  refine EXS_cons ?_;refine EXx ?_;refine EV_meth _ (fun _ => rfl) ?_;refine EV_attr (fun _ => rfl) ?_;refine EV_attr (fun _ => rfl) ?_;refine EV_name rfl ?_;refine T1_attr hI.p rfl rfl A_StmtParser_jumps ?_;refine T1_attr hI.jp rfl rfl A_Jumps_labels ?_;refine MC_pop (vs := []) hI.ls (by decide) ?_;have hI5 : PInv T js { ps4 with labels := ps4.labels.dropLast } (H.put js.ls (.list [])) := by
    refine ⟨?_,hI.lx.put n5.symm,(put_ne n6).trans hI.jp,by rw [hlb0]; exact put_self,by rw [hlb0]; show labsAt _ [] _; rw [labs_one hb_ hT hI.lb]; trivial,by
      have := nd4 hI.nd;rw [show js.A = [js.p,js.lx,js.jp,js.ls] from by unfold Js.A; rw [hlb0]];simp [n1,n2,n3,n4,n5,n6],hI.tk,hI.lt,by rw [hlb0]; decide⟩
    have := (put_ne (H := H) (o := .list []) n3).trans hI.p;rw [this];show some (MO.inst _ _ _) = some (MO.inst _ _ _);rw [show pendV js ps4.pend = pendV { js with lbs := [a] } ps4.pend from by rw [hp4,pend0,pend0]]
  have hx5 := hx.own (o := .list []) (show js.ls∈js.A from .tail _ (.tail _ (.tail _ (.head _))));refine EXS_cons ?_;refine EX_return ?_;refine EV_Node hb_ hT (by kernel_rfl) rfl ?_;refine EA_pe (PEs_cons (PE_str (c := [76,97,98,101,108,108,101,100]) (by kernel_rfl)) (PEs_cons PE_name (PEs_cons (PE_list (PEs_cons PE_name (PEs_cons PE_name PEs_nil))) PEs_nil))) ?_;refine ⟨_,_,_,rfl,?_⟩;have := RQ.done h hI5 hx5 ⟨_,_,_,rfl,not_name rfl⟩;rw [toV_node hb_ hT,toVs,toVs,toVs,toV] at this;exact this
omit hS in
theorem spec_all : ∀ n,SPEC w mb xt T n
  | 0 => fun c js ps H l X Q _ _ h => h.elim
  | n + 1 => by
    have hS := spec_all n;intro c js ps H l X Q hw hI h;have h1 : ∀ G : V→MH→Prop,RQ (PInv T js) js.A X H (P.run (n + 1) c ps) (fun t _ H' => (nodeLike c = true→NodeOk t)→Q (toV t) H')→nodeLike c = true→RQ (PInv T js) js.A X H (P.step (P.run n) c ps) (fun t _ H' => NodeOk t→Q (toV t) H') :=
      fun _ h hn => RQ.mono h fun a s H' _ _ q hN => q fun _ => hN
    have h2 : nodeLike c = false→RQ (PInv T js) js.A X H (P.step (P.run n) c ps) (fun t _ H' => Q (toV t) H') :=
      fun hn => RQ.mono (show RQ (PInv T js) js.A X H (P.step (P.run n) c ps) _ from h) fun a s H' _ _ q => q fun z => by rw [hn] at z; cases z
    cases c with
    | expression i => exact expression_ hb_ hT hS hI (h1 Q h rfl)
    | assignment i => exact assignment_ hb_ hT hS hI (h1 Q h rfl)
    | conditional i => exact conditional_ hb_ hT hS hI (h1 Q h rfl)
    | binary k i => exact binary_ hb_ hT hS hI hw (h1 Q h rfl)
    | unary => exact unary_ hb_ hT hS hI (h1 Q h rfl)
    | postf => exact postf_ hb_ hT hS hI (h1 Q h rfl)
    | leftHand => exact left_hand_ hb_ hT hS hI (h1 Q h rfl)
    | withMembers t => exact with_members_ hb_ hT hS hI hw (h1 Q h rfl)
    | arguments => exact arguments_ hb_ hT hS hI (h2 rfl)
    | primary => exact primary_ hb_ hT hS hI (h1 Q h rfl)
    | wordOperand => exact (h1 Q h rfl).elim
    | array => exact array_ hb_ hT hS hI (h1 Q h rfl)
    | body => exact body_ hb_ hT hS hI (h2 rfl)
    | element => exact element_ hb_ hT hS hI (h1 Q h rfl)
    | statement => exact statement_ hb_ hT hS hI (h1 Q h rfl)
    | plainExpr => exact plain_expression_ hb_ hT hS hI (h1 Q h rfl)
    | wordStatement x k => exact word_statement_ hb_ hT hS hI (h1 Q h rfl)
    | large x k => exact large_ hb_ hT hS hI (h1 Q h rfl)
    | block => exact block_ hb_ hT hS hI (h2 rfl)
    | variables i => exact variables_ hb_ hT hS hI (h2 rfl)
    | labelled k => exact labelled_ hb_ hT hS hI (h1 Q h rfl)
    | leaving x => exact leaving_ hb_ hT hS hI (h1 Q h rfl)
    | condition => exact condition_ hb_ hT hS hI (h1 Q h rfl)
    | choice => exact choice_ hb_ hT hS hI (h1 Q h rfl)
    | loop x k => exact loop_ hb_ hT hS hI (h1 Q h rfl)
    | loopBody => exact loop_body_ hb_ hT hS hI (h1 Q h rfl)
end
end Mine
end
section
open PySem PySem.W PySem.Calls PyProof.Rows Hd
namespace Mine
section
variable {w : World} {mb : Str→Option Value} {xt : Led} {n : Nat} {X : Nat→MH→Prop} {l : Loc} {H H₀ : MH} (hb_ : ∀ x : Str,x ≠ "__name__"→mb x = bootBuiltins x) {T : List Nat} (hT : TxtOk T) {js : Js} {ps : PS}
include hb_ hT
theorem Lexer_ {x : Addr} {v : V} : CL (W0 w mb xt) ⟨n + 1,X⟩ l (H.put x (.inst 603 [] [])) f_Lexer_init [.ref x,v] fun r H' => r = .none∧H' = H.put x (.inst 603 ["text","at","line"] [v,.int 0,.int 1]) := by
  refine CL_def F_Lexer_init rfl ?_;refine EXS_cons ?_;refine EX_setattr (fun _ => rfl) ?_;refine EV_name rfl ?_;refine EV_name rfl ?_;refine ⟨_,_,_,_,rfl,put_self,S_Lexer_text,Nat.le_of_ble_eq_true (by kernel_rfl),?_⟩;refine EXS_cons ?_;refine EX_setattr (fun _ => rfl) ?_;refine EV_int ?_;refine EV_name rfl ?_;refine ⟨_,_,_,_,rfl,put_self,S_Lexer_at,Nat.le_of_ble_eq_true (by kernel_rfl),?_⟩;refine EXS_cons ?_;refine EX_setattr (fun _ => rfl) ?_;refine EV_int ?_;refine EV_name rfl ?_;refine ⟨_,_,_,_,rfl,put_self,S_Lexer_line,Nat.le_of_ble_eq_true (by kernel_rfl),?_⟩;refine EXS_nil ?_;refine ⟨rfl,?_⟩;rw [put_put,put_put,put_put];rfl
theorem Jumps_ {x : Addr} (hx0 : H x = none) : CL (W0 w mb xt) ⟨n + 1,X⟩ l (H.put x (.inst 705 [] [])) f_Jumps_init [.ref x] fun r H' => r = .none∧∃ ls,ls ≠ x∧H ls = none∧H' x = some (.inst 705 ["labels","loops","switches"] [.ref ls,.int 0,.int 0])∧H' ls = some (.list [])∧∀ b,b ≠ x→b ≠ ls→H' b = H b := by
  refine CL_def F_Jumps_init rfl ?_;refine EXS_cons ?_;refine EX_setattr (fun _ => rfl) ?_;refine EV_listM ?_;refine EA_nil ?_;refine ⟨by decide,fun ls hls => ?_⟩;have hne : ls ≠ x := fun z => by rw [z,put_self] at hls; cases hls
  have hn : H ls = none := by rw [← hls]; exact (put_ne hne).symm
  refine EV_name rfl ?_;refine ⟨_,_,_,_,rfl,(put_ne hne.symm).trans put_self,S_Jumps_labels,Nat.le_of_ble_eq_true (by kernel_rfl),?_⟩;refine EXS_cons ?_;refine EX_setattr (fun _ => rfl) ?_;refine EV_int ?_;refine EV_name rfl ?_;refine ⟨_,_,_,_,rfl,put_self,S_Jumps_loops,Nat.le_of_ble_eq_true (by kernel_rfl),?_⟩;refine EXS_cons ?_;refine EX_setattr (fun _ => rfl) ?_;refine EV_int ?_;refine EV_name rfl ?_;refine ⟨_,_,_,_,rfl,put_self,S_Jumps_switches,Nat.le_of_ble_eq_true (by kernel_rfl),?_⟩;refine EXS_nil ?_;refine ⟨rfl,ls,hne,hn,put_self,?_,?_⟩
  · rw [put_ne hne,put_ne hne,put_ne hne]; exact put_self
  · intro b h1 h2;rw [put_ne h1,put_ne h1,put_ne h1,put_ne h2,put_ne h1]
theorem parse_ {Q : V→MH→Prop} (h : RQ (fun (_ : Unit) (_ : MH) => True) [] X H₀ ((P.parse n T).bind fun t => .ok (t,())) fun t _ H' => Q (toV t) H') : CL (W0 w mb xt) ⟨n + 13,X⟩ l H₀ f_parse [.str (SS T)] Q := by
  have hS := spec_all (w := w) (mb := mb) (xt := xt) hb_ hT n;have hx : Ext [] H₀ H₀ := Ext.refl;refine CL_def F_parse rfl ?_;refine EXS_cons ?_;refine EXa ?_;refine EV_callg (by kernel_rfl) G_StmtParser (by kernel_rfl) Gk_StmtParser rfl ?_;refine EA_cons rfl ?_;refine EV_name rfl ?_;refine EA_nil ?_;refine CV_new N_StmtParser fun x hx0 => ?_;have hx1 := hx.loc (o := .inst 1203 [] []) hx0;have hp1 : H₀.put x (.inst 1203 [] []) x = some (.inst 1203 [] []) := put_self
  generalize H₀.put x _ = H1 at hx1 hp1 ⊢
  refine CL_def F_TokenTaker_init rfl ?_;refine EXS_cons ?_;refine EX_setattr (fun _ => rfl) ?_;refine EV_callg (by kernel_rfl) G_Lexer (by kernel_rfl) Gk_Lexer rfl ?_;refine EA_cons rfl ?_;refine EV_name rfl ?_;refine EA_nil ?_;refine CV_new N_Lexer fun lx hl0 => (Lexer_ hb_ hT).mono fun r H' z => ?_;obtain ⟨rfl,rfl⟩ := z;refine ⟨rfl,?_⟩;have hxl : x ≠ lx := fun z => by rw [z,hl0] at hp1; cases hp1
  have hl00 : H₀ lx = none := hx1.noneB hl0 (by simp);have hx2 := hx1.loc (o := .inst 603 ["text","at","line"] [.str (SS T),.int 0,.int 1]) hl00;have hI2 : LInv T lx ⟨T,1⟩ (H1.put lx (.inst 603 ["text","at","line"] [.str (SS T),.int 0,.int 1])) := by
    refine ⟨?_,List.suffix_refl _⟩;rw [put_self];show some (MO.inst _ _ [_,V.int 0,_]) = some (MO.inst _ _ [_,V.int (posOf T T),_]);rw [show posOf T T = 0 from by unfold posOf; omega]; rfl
  have hp2 : H1.put lx (.inst 603 ["text","at","line"] [.str (SS T),.int 0,.int 1]) x = some (.inst 1203 [] []) := (put_ne hxl).trans hp1
  generalize H1.put lx _ = H2 at hx2 hI2 hp2 ⊢
  refine EV_name rfl ?_;refine ⟨_,_,_,_,rfl,hp2,S_StmtParser_lexer,by decide,?_⟩;show EXS _ _ _ _ _ (H2.put x (.inst 1203 ["lexer"] [.ref lx])) _;have hx3 := hx2.loc (o := .inst 1203 ["lexer"] [.ref lx]) hx0;have hI3 := hI2.put (o := .inst 1203 ["lexer"] [.ref lx]) hxl;have hp3 : H2.put x (.inst 1203 ["lexer"] [.ref lx]) x = some (.inst 1203 ["lexer"] [.ref lx]) := put_self
  generalize H2.put x _ = H3 at hx3 hI3 hp3 ⊢
  have hI := hI3;unfold P.parse P.begin at h;refine EXS_cons ?_;refine EX_setattr (fun _ => rfl) ?_;refine EV_meth _ (fun _ => rfl) ?_;refine EV_attr (fun _ => rfl) ?_;refine EV_name rfl ?_;refine T1_attr hp3 rfl rfl A_StmtParser_lexer ?_;refine MC_inst hI3.at' rfl M_Lexer_next rfl ?_;refine EA_nil ?_;refine CV_of_CL ?_;have hA : ∀ {α β γ δ : Type} (m : Res α) (k : α→Res β) (g : β→Res γ) (f : γ→Res δ),(((m.bind k).bind g).bind f) = m.bind fun a => ((k a).bind g).bind f := fun m k g f => by cases m <;> rfl
  rw [hA] at h;refine next_ hb_ hT hI3 (Q := fun t s H' => LInv T lx s H'∧Ext [] H₀ H'∧Ext [lx] H3 H'∧RQ (fun (_ : Unit) (_ : MH) => True) [] X H₀ (((P.run n .body ⟨s,t,none,false,0,[],0,0,0⟩).bind fun p => Res.ok (Mine.T.node [80,114,111,103,114,97,109] 1 [p.1,.bool p.2.strict])).bind fun t => .ok (t,())) fun t _ H' => Q (toV t) H')
    (RQ.callF h hx3 (fun a z => by rw [List.mem_singleton.mp z]; exact .inr hl00) fun t s H' _ hI hx hx2 h => ⟨hI,hx,hx2,h⟩) ?_
  rintro t s H4 hk ⟨hI4,hx4,hx34,h⟩;have hp4 : H4 x = some (.inst 1203 ["lexer"] [.ref lx]) := hx34 _ _ (by simpa using hxl) hp3;refine EV_name rfl ?_;refine ⟨_,_,_,_,rfl,hp4,S_StmtParser_token,by decide,?_⟩;refine EXS_cons ?_;refine EX_setattr (fun _ => rfl) ?_;refine EV_none ?_;refine EV_name rfl ?_;refine ⟨_,_,_,_,rfl,put_self,S_StmtParser_later,Nat.le_of_ble_eq_true (by kernel_rfl),?_⟩;refine EXS_cons ?_;refine EX_setattr (fun _ => rfl) ?_;refine EV_bool ?_;refine EV_name rfl ?_;refine ⟨_,_,_,_,rfl,put_self,S_StmtParser_is_strict,Nat.le_of_ble_eq_true (by kernel_rfl),?_⟩;refine EXS_cons ?_;refine EX_setattr (fun _ => rfl) ?_;refine EV_int ?_;refine EV_name rfl ?_;refine ⟨_,_,_,_,rfl,put_self,S_StmtParser_depth,Nat.le_of_ble_eq_true (by kernel_rfl),?_⟩;rw [put_put,put_put,put_put];show EXS _ _ _ _ _ (H4.put x (.inst 1203 ["lexer","token","later","is_strict","depth"] [.ref lx,tokV T t,.none,.bool false,.int 0])) _;have hx5 := hx4.loc (o := .inst 1203 ["lexer","token","later","is_strict","depth"] [.ref lx,tokV T t,.none,.bool false,.int 0]) hx0;have hI5 := hI4.put (o := .inst 1203 ["lexer","token","later","is_strict","depth"] [.ref lx,tokV T t,.none,.bool false,.int 0]) hxl;have hp5 : H4.put x (.inst 1203 ["lexer","token","later","is_strict","depth"] [.ref lx,tokV T t,.none,.bool false,.int 0]) x = some (.inst 1203 ["lexer","token","later","is_strict","depth"] [.ref lx,tokV T t,.none,.bool false,.int 0]) := put_self
  generalize H4.put x _ = H5 at hx5 hI5 hp5 ⊢
  refine EXS_cons ?_;refine EX_setattr (fun _ => rfl) ?_;refine EV_callg (by kernel_rfl) G_Jumps (by kernel_rfl) Gk_Jumps rfl ?_;refine EA_nil ?_;refine CV_new N_Jumps fun jp hj0 => (Jumps_ hb_ hT hj0).mono fun r H6 z => ?_;obtain ⟨rfl,ls,hlj,hls0,hj6,hls6,hk6⟩ := z;refine ⟨rfl,?_⟩;have hxj : x ≠ jp := fun z => by rw [z,hj0] at hp5; cases hp5
  have hxs : x ≠ ls := fun z => by rw [z,hls0] at hp5; cases hp5
  have hlxj : lx ≠ jp := fun z => by have := hI5.at'; rw [z,hj0] at this; cases this
  have hlxs : lx ≠ ls := fun z => by have := hI5.at'; rw [z,hls0] at this; cases this
  have hp6 : H6 x = some (.inst 1203 ["lexer","token","later","is_strict","depth"] [.ref lx,tokV T t,.none,.bool false,.int 0]) := (hk6 x hxj hxs).trans hp5;have hI6 : LInv T lx s H6 := ⟨(hk6 lx hlxj hlxs).trans hI5.at',hI5.suf⟩;have hx6 : Ext [] H₀ H6 := fun b o nb e => by
    have := hx5 b o nb e;rw [hk6 b (fun z => by rw [z,hj0] at this; cases this) (fun z => by rw [z,hls0] at this; cases this)]; exact this
  have hjp0 : H₀ jp = none := hx5.noneB hj0 (by simp);have hls00 : H₀ ls = none := hx5.noneB hls0 (by simp);refine EV_name rfl ?_;refine ⟨_,_,_,_,rfl,hp6,S_StmtParser_jumps,by decide,?_⟩;refine EXS_cons ?_;refine EX_setattr (fun _ => rfl) ?_;refine EV_listF ?_;refine EA_nil ?_;refine ⟨by decide,?_⟩;refine EV_name rfl ?_;refine ⟨_,_,_,_,rfl,put_self,S_StmtParser_pending,Nat.le_of_ble_eq_true (by kernel_rfl),?_⟩;refine EXS_nil ?_;refine ⟨rfl,?_⟩;rw [put_put];have hI : PInv T ⟨x,lx,jp,ls,[]⟩ ⟨s,t,none,false,0,[],0,0,0⟩ (H6.put x (pObj T ⟨x,lx,jp,ls,[]⟩ ⟨s,t,none,false,0,[],0,0,0⟩)) := by
    refine ⟨put_self,hI6.put hxl,(put_ne hxj.symm).trans hj6,(put_ne hxs.symm).trans hls6,trivial,?_,hk,(fun _ z => nomatch z),by show 0 < 1000; decide⟩;show [x,lx,jp,ls].Nodup;simp [hxl,hxj,hxs,hlxj,hlxs,hlj.symm]
  have hx := hx6.loc (o := pObj T ⟨x,lx,jp,ls,[]⟩ ⟨s,t,none,false,0,[],0,0,0⟩) hx0;show EXS _ _ _ _ _ (H6.put x (pObj T ⟨x,lx,jp,ls,[]⟩ ⟨s,t,none,false,0,[],0,0,0⟩)) _
  generalize H6.put x _ = H at hI hx ⊢
  have hB : ∀ {α β γ : Type} (m : Res α) (k : α→Res β) (g : β→Res γ),(m.bind k).bind g = m.bind fun a => (k a).bind g := fun m k g => by cases m <;> rfl
  rw [hB] at h;have hsub : ∀ b∈Js.A ⟨x,lx,jp,ls,[]⟩,b∈([] : List Addr) ∨ H₀ b = none := by
    intro b hb;unfold Js.A at hb;simp only [List.mem_cons,List.not_mem_nil,or_false] at hb
    rcases hb with z | z | z | z
    · exact .inr (z ▸ hx0)
    · exact .inr (z ▸ hl00)
    · exact .inr (z ▸ hjp0)
    · exact .inr (z ▸ hls00)
  refine EXS_cons ?_;refine EXa ?_;refine EV_meth _ (fun _ => rfl) ?_;refine EV_name rfl ?_;refine MC_inst hI.p rfl M_StmtParser_body rfl ?_;refine EA_pe (PEs_cons PE_bool PEs_nil) ?_;refine CV_of_CL ?_;refine hS .body ⟨x,lx,jp,ls,[]⟩ _ _ _ _ _ trivial hI (RQ.callF h hx hsub fun t ps H e hI hx hx2 h _ => ?_);refine EXS_cons ?_;refine EX_return ?_;refine EV_Node hb_ hT (by kernel_rfl) rfl ?_;refine EA_cons rfl ?_;refine EV_strS (c := [80,114,111,103,114,97,109]) (by kernel_rfl) ?_;refine EA_cons rfl ?_;refine EV_int ?_;refine EA_cons rfl ?_;refine EV_listF ?_;refine EA_cons rfl ?_;refine EV_name rfl ?_;refine EA_cons rfl ?_;refine EV_attr (fun _ => rfl) ?_;refine EV_name rfl ?_;refine T1_attr hI.p rfl rfl A_StmtParser_is_strict ?_;refine EA_nil ?_;refine lb ?_;refine EA_nil ?_;refine ⟨_,_,_,rfl,?_⟩;have := RQ.done h trivial hx;rw [toV_node hb_ hT,toVs,toVs,toVs,toV] at this;exact this
end
end Mine
end
section
open PySem PySem.W PySem.Calls PyProof.Rows Hd
namespace Mine
structure BoxInv (box b0 : Addr) (H : MH) : Prop where
  ne : box ≠ b0
  ex : ∃ (ns : List Int) (seed : Int),H box = some (.list [.ref b0,.int seed])∧H b0 = some (.list (ns.map .int))∧0 ≤ seed∧seed < 2147483647∧ns.length < 1000
theorem fmod_pos {i j : Int} (h : 0 < j) : 0 ≤ i.fmod j∧i.fmod j < j := by
  rw [Int.fmod_eq_emod_of_nonneg _ (Int.le_of_lt h)];exact ⟨Int.emod_nonneg _ (Int.ne_of_gt h),Int.emod_lt_of_pos _ h⟩
section
variable {w : World} {mb : Str→Option Value} {xt : Led} {n : Nat} {X : Nat→MH→Prop} {l : Loc} {H H₀ : MH} (hb_ : ∀ x : Str,x ≠ "__name__"→mb x = bootBuiltins x) {box b0 : Addr}
include hb_
theorem law_take_ (hB : BoxInv box b0 H) {wide : Int} (hw : 0 < wide) {Q : V→MH→Prop} (hq : ∀ r H',0 ≤ r→r < wide→BoxInv box b0 H'→Ext [box,b0] H H'→Q (.int r) H') : CL (W0 w mb xt) ⟨n + 1,X⟩ l H f_law_take [.ref box,.int wide] Q := by
  obtain ⟨hne,ns,seed,hbox,hb0,hs0,hs1,hns⟩ := hB;have hlen : (ns.map V.int).length < 2 ^ 60 := by rw [List.length_map]; omega
  refine CL_def F_law_take rfl ?_;refine EXS_cons ?_;refine EX_if ?_;refine ET_cmp rfl ?_;refine EV_callb (B_len hb_ (by kernel_rfl)) rfl ?_;refine EA_cons rfl ?_;refine EV_sub ?_;refine EV_name rfl ?_;refine EV_int ?_;refine T2_item_list rfl hbox (by decide) (by decide) rfl ?_;refine EA_nil ?_;refine CV_len_list hb0 hlen ?_;refine EV_int ?_;refine T2_gt_int ?_;refine ⟨_,rfl,?_⟩;refine ite_go (fun hb => ?_) (fun hb => ?_)
  · cases ns with
    | nil => exact absurd (of_decide_eq_true hb) (by decide)
    | cons k ns =>
    refine EXS_cons ?_;refine EX_return ?_;refine EV_bin ?_;refine EV_meth _ (fun _ => rfl) ?_;refine EV_sub ?_;refine EV_name rfl ?_;refine EV_int ?_;refine T2_item_list rfl hbox (by decide) (by decide) rfl ?_;refine MC_list hb0 PySem.F.slot_list_pop PySem.F.type_list_pop rfl ?_;refine EA_cons rfl ?_;refine EV_int ?_;refine EA_nil ?_;refine CV_pop0 hb0 (by rw [List.length_map]; simp at hns; omega) ?_;refine EV_name rfl ?_;refine T2_mod_int (Int.ne_of_gt hw) ?_;refine hq _ _ (fmod_pos hw).1 (fmod_pos hw).2 ⟨hne,ns,seed,(put_ne hne).trans hbox,put_self,hs0,hs1,by simp at hns; omega⟩ (Ext.refl.own (.tail _ (.head _)))
  · refine EXS_nil ?_;refine EXS_cons ?_;refine EX_setitem (fun _ => rfl) ?_;refine EV_bin ?_;refine EV_bin ?_;refine EV_bin ?_;refine EV_sub ?_;refine EV_name rfl ?_;refine EV_int ?_;refine T2_item_list rfl hbox (by decide) (by decide) rfl ?_;refine EV_int ?_;refine T2_mul_int (IntMulOk.of_right (by decide +kernel)) ?_;refine EV_int ?_;refine T2_add_int ?_;refine EV_int ?_;refine T2_mod_int (by decide) ?_;refine EV_name rfl ?_;refine EV_int ?_;refine ⟨box,_,1,rfl,rfl,hbox,by decide,by simp,by simp,?_⟩;have hs := fmod_pos (i := seed * 48271 + 11) (j := 2147483647) (by decide)
    generalize (seed * 48271 + 11).fmod 2147483647 = s2 at hs ⊢
    show EXS _ _ _ _ _ (H.put box (.list [.ref b0,.int s2])) _;have hbox2 : H.put box (.list [.ref b0,.int s2]) box = some (.list [.ref b0,.int s2]) := put_self;have hb02 : H.put box (.list [.ref b0,.int s2]) b0 = some (.list (ns.map .int)) := (put_ne hne.symm).trans hb0;have hx : Ext [box,b0] H (H.put box (.list [.ref b0,.int s2])) := Ext.refl.own (.head _)
    generalize H.put box _ = H2 at hbox2 hb02 hx ⊢
    refine EXS_cons ?_;refine EX_return ?_;refine EV_bin ?_;refine EV_bin ?_;refine EV_sub ?_;refine EV_name rfl ?_;refine EV_int ?_;refine T2_item_list rfl hbox2 (by decide) (by decide) rfl ?_;refine EV_int ?_;refine T2_fdiv_int (by decide) (PyProof.noPylong_small (by decide)) ?_;refine EV_name rfl ?_;refine T2_mod_int (Int.ne_of_gt hw) ?_;exact hq _ _ (fmod_pos hw).1 (fmod_pos hw).2 ⟨hne,ns,s2,hbox2,hb02,hs.1,hs.2,hns⟩ hx
theorem law_pick_ (hB : BoxInv box b0 H) {vs : List V} (h1 : 0 < vs.length) (h2 : vs.length < 1000) {Q : V→MH→Prop} (hq : ∀ v H',v∈vs→BoxInv box b0 H'→Ext [box,b0] H H'→Q v H') : CL (W0 w mb xt) ⟨n + 2,X⟩ l H f_law_pick [.ref box,.lst vs] Q := by
  refine CL_def F_law_pick rfl ?_;refine EXS_cons ?_;refine EX_return ?_;refine EV_sub ?_;refine EV_name rfl ?_;refine EV_callg (by kernel_rfl) G_law_take (by kernel_rfl) Gk_law_take rfl ?_;refine EA_cons rfl ?_;refine EV_name rfl ?_;refine EA_cons rfl ?_;refine EV_callb (B_len hb_ (by kernel_rfl)) rfl ?_;refine EA_cons rfl ?_;refine EV_name rfl ?_;refine EA_nil ?_;refine CV_len_lst (by omega) ?_;refine EA_nil ?_;refine CV_of_CL ?_;refine law_take_ hb_ hB (by omega) fun r H' r0 r1 hB' hx => ?_;have hr : r.toNat < vs.length := by omega
  refine T2_item_lst rfl r0 (by omega) (List.getElem?_eq_getElem hr) ?_;exact hq _ _ (List.getElem_mem hr) hB' hx
end
end Mine
end
section
open PySem PySem.W PySem.Calls PyProof.Rows Hd
namespace Mine
noncomputable abbrev sv (c : List Nat) : V := .str (SS c)
noncomputable abbrev nd (k : List Nat) (ps : List V) : V := .lst [sv k,.lst ps]
noncomputable abbrev nm (c : List Nat) : V := nd [78,97,109,101] [sv c]
noncomputable def rxBodies : List (List Nat) := [[120],[61,49],[91,47,93],[97,92,47,98],[91,92,93,47,93,103],[40,63,58,91,47,93,41,63],[92,92],[91,94,47,61,93,42],[32,98]]
noncomputable def rxFlags : List (List Nat) := [[],[103],[105],[103,105,109]]
noncomputable def seps : List (List Nat) := [[32,47,32],[10,47,32],[32,47,10],[47,32]]
noncomputable def tys : List (List Nat) := [[116,121,112,101,111,102,32],[116,121,112,101,111,102] ++ [10]]
noncomputable def ups : List (List Nat) := [[97,43,43],[97,32,43,43]]
inductive Leaf : List Nat→V→Prop
  | a : Leaf [97] (nm [97])
  | b : Leaf [98] (nm [98])
  | rx {p f : List Nat} (hp : p∈rxBodies) (hf : f∈rxFlags) : Leaf ([47] ++ p ++ [47] ++ f) (nd [82,101,103,101,120] [sv p,sv f])
inductive ChS (O : List Nat→V→Prop) : Nat→List Nat→V→Prop
  | one {t : List Nat} {v : V} (h : O t v) : ChS O 0 t v
  | more {k : Nat} {t t' s : List Nat} {v v' : V} (h : ChS O k t v) (h' : O t' v') (hs : s∈seps) : ChS O (k + 1) (t ++ s ++ t') (nd [66,105,110,97,114,121] [sv [47],v,v'])
inductive OpN (C : List Nat→V→Prop) : List Nat→V→Prop
  | leaf {t : List Nat} {v : V} (h : Leaf t v) : OpN C t v
  | paren {t : List Nat} {v : V} (h : C t v) : OpN C ([40] ++ t ++ [41]) v
  | call {t : List Nat} {v : V} (h : C t v) : OpN C ([102,40] ++ t ++ [44,32] ++ t ++ [41]) (nd [67,97,108,108] [nm [102],.lst [v,v]])
  | upd {t : List Nat} (h : t∈ups) : OpN C t (nd [85,112,100,97,116,101] [sv [43,43],.lst [sv [98,111,111,108],.bool false],nm [97]])
  | ty {s t : List Nat} {v : V} (hs : s∈tys) (h : Leaf t v) : OpN C (s ++ t) (nd [85,110,97,114,121] [sv [116,121,112,101,111,102],v])
  | arr {t : List Nat} {v : V} (h : C t v) : OpN C ([91] ++ t ++ [93]) (nd [65,114,114,97,121] [.lst [v]])
noncomputable def OpR : Nat→List Nat→V→Prop
  | 0 => Leaf
  | d + 1 => OpN fun t v => ∃ k,k ≤ 2∧ChS (OpR d) k t v
noncomputable def ChR (d : Nat) (t : List Nat) (v : V) : Prop := ∃ k,k ≤ 2∧ChS (OpR d) k t v
theorem mem_len {l : List (List Nat)} {m : Nat} (h : l.all (fun x => Nat.ble x.length m) = true) {x : List Nat} (hx : x∈l) : x.length ≤ m := Nat.ble_eq.mp (List.all_eq_true.mp h x hx)
theorem Leaf.len {t : List Nat} {v : V} (h : Leaf t v) : t.length ≤ 20 := by
  cases h with
  | a => decide
  | b => decide
  | rx hp hf =>
    have := mem_len (m := 8) (by decide +kernel) hp;have := mem_len (m := 3) (by decide +kernel) hf;simp only [List.length_append,List.length_cons,List.length_nil]; omega
theorem ChS.len {O : List Nat→V→Prop} {M : Nat} (hO : ∀ t v,O t v→t.length ≤ M) : ∀ {k : Nat} {t : List Nat} {v : V},ChS O k t v→t.length ≤ (k + 1) * (M + 3)
  | _,_,_,.one h => by have := hO _ _ h; omega
  | k + 1,_,_,.more h h' hs => by
    have a1 := ChS.len hO h;have a2 := hO _ _ h';have a3 := mem_len (m := 3) (by decide +kernel) hs;simp only [List.length_append];rw [Nat.succ_mul (k + 1)];omega
theorem OpR.len : ∀ (d : Nat) {t : List Nat} {v : V},OpR d t v→t.length ≤ 30 * 10 ^ d
  | 0,_,_,h => by have := Leaf.len h; omega
  | d + 1,t,v,h => by
    have key : ∀ {t : List Nat} {v : V},(∃ k,k ≤ 2∧ChS (OpR d) k t v)→t.length ≤ 3 * (30 * 10 ^ d + 3) := by
      rintro t v ⟨k,hk,h⟩;have a := ChS.len (fun t v h => OpR.len d h) h;exact Nat.le_trans a (Nat.mul_le_mul_right _ (by omega))
    have h1 : 1 ≤ 10 ^ d := Nat.one_le_pow _ _ (by decide);rw [Nat.pow_succ]
    cases h with
    | leaf h => have := Leaf.len h; omega
    | paren h => have := key h; simp only [List.length_append,List.length_cons,List.length_nil]; omega
    | call h => have := key h; simp only [List.length_append,List.length_cons,List.length_nil]; omega
    | upd h => have := mem_len (m := 4) (by decide +kernel) h; omega
    | ty hs h => have := mem_len (m := 7) (by decide +kernel) hs; have := Leaf.len h; simp only [List.length_append]; omega
    | arr h => have := key h; simp only [List.length_append,List.length_cons,List.length_nil]; omega
theorem ChR.len {d : Nat} (hd : d ≤ 2) {t : List Nat} {v : V} (h : ChR d t v) : t.length ≤ 10000 := by
  obtain ⟨k,hk,h⟩ := h;have a := ChS.len (fun t v h => OpR.len d h) h;have : (30 * 10 ^ d + 3) ≤ 3003 := (by decide : ∀ d < 3,30 * 10 ^ d + 3 ≤ 3003) d (by omega);have := Nat.mul_le_mul (show k + 1 ≤ 3 by omega) this;omega
theorem OpR.len' {d : Nat} (hd : d ≤ 2) {t : List Nat} {v : V} (h : OpR d t v) : t.length ≤ 3000 := by
  have a := OpR.len d h;have : (30 * 10 ^ d) ≤ 3000 := (by decide : ∀ d < 3,30 * 10 ^ d ≤ 3000) d (by omega);omega
theorem ss_app {a b : List Nat} : SS a ++ SS b = SS (a ++ b) := by
  show Str.mk (a.toArray ++ b.toArray) = _;simp
theorem T2_add_ll {W : Wd} {d : Dx} {cs : Scope} {l : Loc} {H : MH} {a b : List Nat} {Q : V→MH→Prop} (hz : a.length + b.length < 1000000) (hq : Q (.str (SS (a ++ b))) H) : T2 W d cs l H (.str (SS a)) (.str (SS b)) (binaryOp .Add) Q :=
  T2_add_str (by show a.toArray.size + b.toArray.size < _; simpa using hz) (by rw [ss_app]; exact hq)
theorem Tll {W : Wd} {d : Dx} {cs : Scope} {l : Loc} {H : MH} {a b : List Nat} {Q : V→MH→Prop} (hq : Q (.str (SS (a ++ b))) H) (hz : a.length + b.length < 1000000 := by first | omega | (simp only [List.length_append,List.length_cons,List.length_nil]; omega)) : T2 W d cs l H (.str (SS a)) (.str (SS b)) (binaryOp .Add) Q := T2_add_ll hz hq
section
variable {w : World} {mb : Str→Option Value} {xt : Led} {n : Nat} {X : Nat→MH→Prop} {l : Loc} {H H₀ : MH} (hb_ : ∀ x : Str,x ≠ "__name__"→mb x = bootBuiltins x) {box b0 : Addr}
include hb_
theorem law_regex_ (hB : BoxInv box b0 H) {Q : V→MH→Prop} (hq : ∀ t v H',Leaf t v→BoxInv box b0 H'→Ext [box,b0] H H'→Q (.tup [sv t,v]) H') : CL (W0 w mb xt) ⟨n + 3,X⟩ l H f_law_regex [.ref box] Q := by
  refine CL_def F_law_regex rfl ?_;refine EXS_cons ?_;refine EXa ?_;refine EV_callg (by kernel_rfl) G_law_pick (by kernel_rfl) Gk_law_pick rfl ?_;refine EA_pe (PEs_cons PE_name (PEs_cons (PE_list (PEs_cons (PE_str (c := [120]) (by kernel_rfl)) (PEs_cons (PE_str (c := [61,49]) (by kernel_rfl)) (PEs_cons (PE_str (c := [91,47,93]) (by kernel_rfl)) (PEs_cons (PE_str (c := [97,92,47,98]) (by kernel_rfl)) (PEs_cons (PE_str (c := [91,92,93,47,93,103]) (by kernel_rfl)) (PEs_cons (PE_str (c := [40,63,58,91,47,93,41,63]) (by kernel_rfl)) (PEs_cons (PE_str (c := [92,92]) (by kernel_rfl)) (PEs_cons (PE_str (c := [91,94,47,61,93,42]) (by kernel_rfl)) (PEs_cons (PE_str (c := [32,98]) (by kernel_rfl)) PEs_nil)))))))))) PEs_nil)) ?_;refine CV_of_CL ?_;refine law_pick_ hb_ hB (vs := rxBodies.map sv) (by decide +kernel) (by decide +kernel) fun v H hv hB hx => ?_;obtain ⟨p,hp,rfl⟩ := List.mem_map.mp hv;refine EXS_cons ?_;refine EXa ?_;refine EV_callg (by kernel_rfl) G_law_pick (by kernel_rfl) Gk_law_pick rfl ?_;refine EA_pe (PEs_cons PE_name (PEs_cons (PE_list (PEs_cons (PE_str (c := []) (by kernel_rfl)) (PEs_cons (PE_str (c := [103]) (by kernel_rfl)) (PEs_cons (PE_str (c := [105]) (by kernel_rfl)) (PEs_cons (PE_str (c := [103,105,109]) (by kernel_rfl)) PEs_nil))))) PEs_nil)) ?_;refine CV_of_CL ?_;refine law_pick_ hb_ hB (vs := rxFlags.map sv) (by decide +kernel) (by decide +kernel) fun v H hv2 hB hx2 => ?_;obtain ⟨f,hf,rfl⟩ := List.mem_map.mp hv2;have l1 := mem_len (m := 8) (by decide +kernel) hp;have l2 := mem_len (m := 3) (by decide +kernel) hf;refine EXS_cons ?_;refine EX_return ?_;refine EV_tuple ?_;refine EA_cons rfl ?_;refine EV_bin ?_;refine EV_bin ?_;refine EV_bin ?_;refine EV_strS (c := [47]) (by kernel_rfl) ?_;refine EV_name rfl ?_;refine Tll ?_;refine EV_strS (c := [47]) (by kernel_rfl) ?_;refine Tll ?_;refine EV_name rfl ?_;refine Tll ?_;refine EA_cons rfl ?_;refine EV_pe (PE_list (PEs_cons (PE_str (c := [82,101,103,101,120]) (by kernel_rfl)) (PEs_cons (PE_list (PEs_cons PE_name (PEs_cons PE_name PEs_nil))) PEs_nil))) ?_;refine EA_nil ?_;refine lb ?_;exact hq _ _ _ (.rx hp hf) hB (hx.trans hx2)
end
end Mine
end
section
open PySem PySem.W PySem.Calls PyProof.Rows Hd
namespace Mine
theorem BoxInv.ni {box b0 : Addr} {H : MH} (h : BoxInv box b0 H) {a : Addr} (ha : H a = none) : a ∉ [box,b0] := by
  obtain ⟨_,ns,seed,h1,h2,_⟩ := h;intro z
  rcases List.mem_cons.mp z with rfl | z
  · rw [h1] at ha; cases ha
  · rw [List.mem_singleton.mp z,h2] at ha; cases ha
theorem BoxInv.put {box b0 : Addr} {H : MH} (h : BoxInv box b0 H) {a : Addr} {o : MO} (n : a ∉ [box,b0]) : BoxInv box b0 (H.put a o) := by
  obtain ⟨ne,ns,seed,h1,h2,r⟩ := h;exact ⟨ne,ns,seed,(put_ne (by rintro rfl; exact n (.head _))).trans h1,(put_ne (by rintro rfl; exact n (.tail _ (.head _)))).trans h2,r⟩
theorem BoxInv.drop {box b0 : Addr} {H : MH} (h : BoxInv box b0 H) {a : Addr} (n : a ∉ [box,b0]) : BoxInv box b0 (H.drop a) := by
  obtain ⟨ne,ns,seed,h1,h2,r⟩ := h;exact ⟨ne,ns,seed,(drop_ne (by rintro rfl; exact n (.head _))).trans h1,(drop_ne (by rintro rfl; exact n (.tail _ (.head _)))).trans h2,r⟩
section
variable {w : World} {mb : Str→Option Value} {xt : Led} {n : Nat} {X : Nat→MH→Prop} {l : Loc} {H H₀ : MH} (hb_ : ∀ x : Str,x ≠ "__name__"→mb x = bootBuiltins x) {box b0 : Addr}
noncomputable def DrSpec (w : World) (mb : Str→Option Value) (xt : Led) (X : Nat→MH→Prop) (box b0 : Addr) (f : Addr) (k : Nat) (vs : List V) (R : List Nat→V→Prop) : Prop :=
  ∀ (l : Loc) (H : MH) (Q : V→MH→Prop),BoxInv box b0 H→(∀ t v H',R t v→BoxInv box b0 H'→Ext [box,b0] H H'→Q (.tup [sv t,v]) H')→CL (W0 w mb xt) ⟨k,X⟩ l H f vs Q
include hb_
theorem op_zero : DrSpec w mb xt X box b0 f_law_operand (n + 4) [.ref box,.int 0] Leaf := by
  intro l H Q hB hq;refine CL_def F_law_operand rfl ?_;refine EXS_cons ?_;refine EXa ?_;refine EV_callg (by kernel_rfl) G_law_take (by kernel_rfl) Gk_law_take rfl ?_;refine EA_cons rfl ?_;refine EV_name rfl ?_;refine EA_cons rfl ?_;refine EV_if ?_;refine ET_cmp rfl ?_;refine EV_name rfl ?_;refine EV_int ?_;refine T2_gt_int ?_;refine ⟨_,rfl,?_⟩;refine ite_go (fun z => nomatch z) (fun _ => ?_);refine EV_int ?_;refine EA_nil ?_;refine CV_of_CL ?_;refine law_take_ hb_ hB (by decide) fun r H r0 r1 hB hx => ?_;refine EXS_cons ?_;refine EX_if ?_;refine ET_cmp rfl ?_;refine EV_name rfl ?_;refine EV_int ?_;refine T2_eq_int ?_;refine ⟨_,rfl,?_⟩;refine ite_go (fun hb => ?_) (fun hb => ?_)
  · refine EXS_cons ?_;refine EX_return ?_;refine EV_pe (PE_tup (PEs_cons (PE_str (c := [97]) (by kernel_rfl)) (PEs_cons (PE_list (PEs_cons (PE_str (c := [78,97,109,101]) (by kernel_rfl)) (PEs_cons (PE_list (PEs_cons (PE_str (c := [97]) (by kernel_rfl)) PEs_nil)) PEs_nil))) PEs_nil))) ?_;exact hq _ _ _ .a hB hx
  refine EXS_nil ?_;refine EXS_cons ?_;refine EX_if ?_;refine ET_cmp rfl ?_;refine EV_name rfl ?_;refine EV_int ?_;refine T2_eq_int ?_;refine ⟨_,rfl,?_⟩;refine ite_go (fun hb => ?_) (fun hb => ?_)
  · refine EXS_cons ?_;refine EX_return ?_;refine EV_pe (PE_tup (PEs_cons (PE_str (c := [98]) (by kernel_rfl)) (PEs_cons (PE_list (PEs_cons (PE_str (c := [78,97,109,101]) (by kernel_rfl)) (PEs_cons (PE_list (PEs_cons (PE_str (c := [98]) (by kernel_rfl)) PEs_nil)) PEs_nil))) PEs_nil))) ?_;exact hq _ _ _ .b hB hx
  refine EXS_nil ?_;refine EXS_cons ?_;refine EX_if ?_;refine ET_cmp rfl ?_;refine EV_name rfl ?_;refine EV_int ?_;refine T2_lt_int ?_;refine ⟨_,rfl,?_⟩;refine ite_go (fun hb => ?_) (fun hb => absurd (of_decide_eq_false hb) (by omega));refine EXS_cons ?_;refine EX_return ?_;refine EV_callg (by kernel_rfl) G_law_regex (by kernel_rfl) Gk_law_regex rfl ?_;refine EA_pe (PEs_cons PE_name PEs_nil) ?_;refine CV_of_CL ?_;refine law_regex_ hb_ hB fun t v H h hB hx2 => ?_;exact hq _ _ _ h hB (hx.trans hx2)
theorem op_step {dd : Int} {C : List Nat→V→Prop} {k : Nat} (hd : 0 < dd) (hlen : ∀ t v,C t v→t.length ≤ 10000) (hC : DrSpec w mb xt X box b0 f_law_chain (k + 4) [.ref box,.int (dd - 1)] C) : DrSpec w mb xt X box b0 f_law_operand (k + 5) [.ref box,.int dd] (OpN C) := by
  intro l H Q hB hq;refine CL_def F_law_operand rfl ?_;refine EXS_cons ?_;refine EXa ?_;refine EV_callg (by kernel_rfl) G_law_take (by kernel_rfl) Gk_law_take rfl ?_;refine EA_cons rfl ?_;refine EV_name rfl ?_;refine EA_cons rfl ?_;refine EV_if ?_;refine ET_cmp rfl ?_;refine EV_name rfl ?_;refine EV_int ?_;refine T2_gt_int ?_;refine ⟨_,rfl,?_⟩;refine ite_go (fun _ => ?_) (fun z => absurd (of_decide_eq_false z) (fun z => z hd));refine EV_int ?_;refine EA_nil ?_;refine CV_of_CL ?_;refine law_take_ hb_ hB (by decide) fun r H r0 r1 hB hx => ?_;refine EXS_cons ?_;refine EX_if ?_;refine ET_cmp rfl ?_;refine EV_name rfl ?_;refine EV_int ?_;refine T2_eq_int ?_;refine ⟨_,rfl,?_⟩;refine ite_go (fun hb => ?_) (fun hb => ?_)
  · refine EXS_cons ?_;refine EX_return ?_;refine EV_pe (PE_tup (PEs_cons (PE_str (c := [97]) (by kernel_rfl)) (PEs_cons (PE_list (PEs_cons (PE_str (c := [78,97,109,101]) (by kernel_rfl)) (PEs_cons (PE_list (PEs_cons (PE_str (c := [97]) (by kernel_rfl)) PEs_nil)) PEs_nil))) PEs_nil))) ?_;exact hq _ _ _ (.leaf .a) hB hx
  refine EXS_nil ?_;refine EXS_cons ?_;refine EX_if ?_;refine ET_cmp rfl ?_;refine EV_name rfl ?_;refine EV_int ?_;refine T2_eq_int ?_;refine ⟨_,rfl,?_⟩;refine ite_go (fun hb => ?_) (fun hb => ?_)
  · refine EXS_cons ?_;refine EX_return ?_;refine EV_pe (PE_tup (PEs_cons (PE_str (c := [98]) (by kernel_rfl)) (PEs_cons (PE_list (PEs_cons (PE_str (c := [78,97,109,101]) (by kernel_rfl)) (PEs_cons (PE_list (PEs_cons (PE_str (c := [98]) (by kernel_rfl)) PEs_nil)) PEs_nil))) PEs_nil))) ?_;exact hq _ _ _ (.leaf .b) hB hx
  refine EXS_nil ?_;refine EXS_cons ?_;refine EX_if ?_;refine ET_cmp rfl ?_;refine EV_name rfl ?_;refine EV_int ?_;refine T2_lt_int ?_;refine ⟨_,rfl,?_⟩;refine ite_go (fun hb => ?_) (fun hb => ?_)
  · refine EXS_cons ?_;refine EX_return ?_;refine EV_callg (by kernel_rfl) G_law_regex (by kernel_rfl) Gk_law_regex rfl ?_;refine EA_pe (PEs_cons PE_name PEs_nil) ?_;refine CV_of_CL ?_;refine law_regex_ hb_ hB fun t v H h hB hx2 => ?_;exact hq _ _ _ (.leaf h) hB (hx.trans hx2)
  refine EXS_nil ?_;refine EXS_cons ?_;refine EX_if ?_;refine ET_cmp rfl ?_;refine EV_name rfl ?_;refine EV_int ?_;refine T2_eq_int ?_;refine ⟨_,rfl,?_⟩;refine ite_go (fun hb => ?_) (fun hb => ?_)
  · refine EXS_cons ?_;refine EX_unpack (xs := ["text","tree"]) (fun _ => rfl) (by intros; kernel_rfl) (fun _ => ⟨fun _ _ _ _ _ _ h => wpAny_assign_Name h,fun _ _ _ _ _ _ h => wpAny_assign_Name h,trivial⟩) (fun _ => rfl) (by decide +kernel) ?_;refine EV_callg (by kernel_rfl) G_law_chain (by kernel_rfl) Gk_law_chain rfl ?_;refine EA_cons rfl ?_;refine EV_name rfl ?_;refine EA_cons rfl ?_;refine EV_bin ?_;refine EV_name rfl ?_;refine EV_int ?_;refine T2_sub_int ?_;refine EA_nil ?_;refine CV_of_CL ?_;refine hC _ _ _ hB fun t v H h hB hx2 => ?_;refine ⟨_,rfl,rfl,?_⟩;have hl := hlen _ _ h;refine EXS_cons ?_;refine EX_return ?_;refine EV_tuple ?_;refine EA_cons rfl ?_;refine EV_bin ?_;refine EV_bin ?_;refine EV_strS (c := [40]) (by kernel_rfl) ?_;refine EV_name rfl ?_;refine Tll ?_;refine EV_strS (c := [41]) (by kernel_rfl) ?_;refine Tll ?_;refine EA_cons rfl ?_;refine EV_name rfl ?_;refine EA_nil ?_;refine lb ?_;exact hq _ _ _ (.paren h) hB (hx.trans hx2)
  refine EXS_nil ?_;refine EXS_cons ?_;refine EX_if ?_;refine ET_cmp rfl ?_;refine EV_name rfl ?_;refine EV_int ?_;refine T2_eq_int ?_;refine ⟨_,rfl,?_⟩;refine ite_go (fun hb => ?_) (fun hb => ?_)
  · refine EXS_cons ?_;refine EX_unpack (xs := ["text","tree"]) (fun _ => rfl) (by intros; kernel_rfl) (fun _ => ⟨fun _ _ _ _ _ _ h => wpAny_assign_Name h,fun _ _ _ _ _ _ h => wpAny_assign_Name h,trivial⟩) (fun _ => rfl) (by decide +kernel) ?_;refine EV_callg (by kernel_rfl) G_law_chain (by kernel_rfl) Gk_law_chain rfl ?_;refine EA_cons rfl ?_;refine EV_name rfl ?_;refine EA_cons rfl ?_;refine EV_bin ?_;refine EV_name rfl ?_;refine EV_int ?_;refine T2_sub_int ?_;refine EA_nil ?_;refine CV_of_CL ?_;refine hC _ _ _ hB fun t v H h hB hx2 => ?_;refine ⟨_,rfl,rfl,?_⟩;have hl := hlen _ _ h;refine EXS_cons ?_;refine EX_return ?_;refine EV_tuple ?_;refine EA_cons rfl ?_;refine EV_bin ?_;refine EV_bin ?_;refine EV_bin ?_;refine EV_bin ?_;refine EV_strS (c := [102,40]) (by kernel_rfl) ?_;refine EV_name rfl ?_;refine Tll ?_;refine EV_strS (c := [44,32]) (by kernel_rfl) ?_;refine Tll ?_;refine EV_name rfl ?_;refine Tll ?_;refine EV_strS (c := [41]) (by kernel_rfl) ?_;refine Tll ?_;refine EA_cons rfl ?_;refine EV_pe (PE_list (PEs_cons (PE_str (c := [67,97,108,108]) (by kernel_rfl)) (PEs_cons (PE_list (PEs_cons (PE_list (PEs_cons (PE_str (c := [78,97,109,101]) (by kernel_rfl)) (PEs_cons (PE_list (PEs_cons (PE_str (c := [102]) (by kernel_rfl)) PEs_nil)) PEs_nil))) (PEs_cons (PE_list (PEs_cons PE_name (PEs_cons PE_name PEs_nil))) PEs_nil))) PEs_nil))) ?_;refine EA_nil ?_;refine lb ?_;exact hq _ _ _ (.call h) hB (hx.trans hx2)
  refine EXS_nil ?_;refine EXS_cons ?_;refine EX_if ?_;refine ET_cmp rfl ?_;refine EV_name rfl ?_;refine EV_int ?_;refine T2_eq_int ?_;refine ⟨_,rfl,?_⟩;refine ite_go (fun hb => ?_) (fun hb => ?_)
  · refine EXS_cons ?_;refine EX_return ?_;refine EV_tuple ?_;refine EA_cons rfl ?_;refine EV_callg (by kernel_rfl) G_law_pick (by kernel_rfl) Gk_law_pick rfl ?_;refine EA_pe (PEs_cons PE_name (PEs_cons (PE_list (PEs_cons (PE_str (c := [97,43,43]) (by kernel_rfl)) (PEs_cons (PE_str (c := [97,32,43,43]) (by kernel_rfl)) PEs_nil))) PEs_nil)) ?_;refine CV_of_CL ?_;refine law_pick_ hb_ hB (vs := ups.map sv) (by decide +kernel) (by decide +kernel) fun v H hv hB hx2 => ?_;obtain ⟨s,hs,rfl⟩ := List.mem_map.mp hv;refine EA_cons rfl ?_;refine EV_pe (PE_list (PEs_cons (PE_str (c := [85,112,100,97,116,101]) (by kernel_rfl)) (PEs_cons (PE_list (PEs_cons (PE_str (c := [43,43]) (by kernel_rfl)) (PEs_cons (PE_list (PEs_cons (PE_str (c := [98,111,111,108]) (by kernel_rfl)) (PEs_cons PE_bool PEs_nil))) (PEs_cons (PE_list (PEs_cons (PE_str (c := [78,97,109,101]) (by kernel_rfl)) (PEs_cons (PE_list (PEs_cons (PE_str (c := [97]) (by kernel_rfl)) PEs_nil)) PEs_nil))) PEs_nil)))) PEs_nil))) ?_;refine EA_nil ?_;refine lb ?_;exact hq _ _ _ (.upd hs) hB (hx.trans hx2)
  refine EXS_nil ?_;refine EXS_cons ?_;refine EX_if ?_;refine ET_cmp rfl ?_;refine EV_name rfl ?_;refine EV_int ?_;refine T2_eq_int ?_;refine ⟨_,rfl,?_⟩;refine ite_go (fun hb => ?_) (fun hb => ?_)
  · refine EXS_cons ?_;refine EX_unpack (xs := ["text","tree"]) (fun _ => rfl) (by intros; kernel_rfl) (fun _ => ⟨fun _ _ _ _ _ _ h => wpAny_assign_Name h,fun _ _ _ _ _ _ h => wpAny_assign_Name h,trivial⟩) (fun _ => rfl) (by decide +kernel) ?_;refine EV_callg (by kernel_rfl) G_law_operand (by kernel_rfl) Gk_law_operand rfl ?_;refine EA_pe (PEs_cons PE_name (PEs_cons PE_int PEs_nil)) ?_;refine CV_of_CL ?_;refine op_zero hb_ _ _ _ hB fun t v H h hB hx2 => ?_;refine ⟨_,rfl,rfl,?_⟩;have hl := h.len;refine EXS_cons ?_;refine EX_return ?_;refine EV_tuple ?_;refine EA_cons rfl ?_;refine EV_bin ?_;refine EV_callg (by kernel_rfl) G_law_pick (by kernel_rfl) Gk_law_pick rfl ?_;refine EA_pe (PEs_cons PE_name (PEs_cons (PE_list (PEs_cons (PE_str (c := [116,121,112,101,111,102,32]) (by kernel_rfl)) (PEs_cons (PE_str (c := [116,121,112,101,111,102,10]) (by kernel_rfl)) PEs_nil))) PEs_nil)) ?_;refine CV_of_CL ?_;refine law_pick_ hb_ hB (vs := tys.map sv) (by decide +kernel) (by decide +kernel) fun v H hv hB hx3 => ?_;obtain ⟨s,hs,rfl⟩ := List.mem_map.mp hv;have ls := mem_len (m := 7) (by decide +kernel) hs;refine EV_name rfl ?_;refine Tll ?_;refine EA_cons rfl ?_;refine EV_pe (PE_list (PEs_cons (PE_str (c := [85,110,97,114,121]) (by kernel_rfl)) (PEs_cons (PE_list (PEs_cons (PE_str (c := [116,121,112,101,111,102]) (by kernel_rfl)) (PEs_cons PE_name PEs_nil))) PEs_nil))) ?_;refine EA_nil ?_;refine lb ?_;exact hq _ _ _ (.ty hs h) hB ((hx.trans hx2).trans hx3)
  refine EXS_nil ?_;refine EXS_cons ?_;refine EX_unpack (xs := ["text","tree"]) (fun _ => rfl) (by intros; kernel_rfl) (fun _ => ⟨fun _ _ _ _ _ _ h => wpAny_assign_Name h,fun _ _ _ _ _ _ h => wpAny_assign_Name h,trivial⟩) (fun _ => rfl) (by decide +kernel) ?_;refine EV_callg (by kernel_rfl) G_law_chain (by kernel_rfl) Gk_law_chain rfl ?_;refine EA_cons rfl ?_;refine EV_name rfl ?_;refine EA_cons rfl ?_;refine EV_bin ?_;refine EV_name rfl ?_;refine EV_int ?_;refine T2_sub_int ?_;refine EA_nil ?_;refine CV_of_CL ?_;refine hC _ _ _ hB fun t v H h hB hx2 => ?_;refine ⟨_,rfl,rfl,?_⟩;have hl := hlen _ _ h;refine EXS_cons ?_;refine EX_return ?_;refine EV_tuple ?_;refine EA_cons rfl ?_;refine EV_bin ?_;refine EV_bin ?_;refine EV_strS (c := [91]) (by kernel_rfl) ?_;refine EV_name rfl ?_;refine Tll ?_;refine EV_strS (c := [93]) (by kernel_rfl) ?_;refine Tll ?_;refine EA_cons rfl ?_;refine EV_pe (PE_list (PEs_cons (PE_str (c := [65,114,114,97,121]) (by kernel_rfl)) (PEs_cons (PE_list (PEs_cons (PE_list (PEs_cons PE_name PEs_nil)) PEs_nil)) PEs_nil))) ?_;refine EA_nil ?_;refine lb ?_;exact hq _ _ _ (.arr h) hB (hx.trans hx2)
theorem ch_step {dd : Int} {O : List Nat→V→Prop} {k : Nat} (hlen : ∀ t v,O t v→t.length ≤ 3000) (hO : DrSpec w mb xt X box b0 f_law_operand (k + 4) [.ref box,.int dd] O) : DrSpec w mb xt X box b0 f_law_chain (k + 5) [.ref box,.int dd] (fun t v => ∃ k,k ≤ 2∧ChS O k t v) := by
  intro l H₀ Q hB hq;refine CL_def F_law_chain rfl ?_;refine EXS_cons ?_;refine EX_unpack (xs := ["text","tree"]) (fun _ => rfl) (by intros; kernel_rfl) (fun _ => ⟨fun _ _ _ _ _ _ h => wpAny_assign_Name h,fun _ _ _ _ _ _ h => wpAny_assign_Name h,trivial⟩) (fun _ => rfl) (by decide +kernel) ?_;refine EV_callg (by kernel_rfl) G_law_operand (by kernel_rfl) Gk_law_operand rfl ?_;refine EA_pe (PEs_cons PE_name (PEs_cons PE_name PEs_nil)) ?_;refine CV_of_CL ?_;refine hO _ _ _ hB fun t v H h hB hx => ?_;refine ⟨_,rfl,rfl,?_⟩;refine EXS_cons ?_;refine EX_for_range (fun i l' H' => ∃ t v,LSub (["box","deep","text","tree"].zip [.ref box,.int dd,sv t,v]) l'∧ChS O i t v∧BoxInv box b0 H'∧Ext [box,b0] H₀ H') (B_range hb_ (by kernel_rfl)) rfl (by kernel_rfl) ?_;refine EV_callg (by kernel_rfl) G_law_take (by kernel_rfl) Gk_law_take rfl ?_;refine EA_pe (PEs_cons PE_name (PEs_cons PE_int PEs_nil)) ?_;refine CV_of_CL ?_;refine law_take_ hb_ hB (by decide) fun r H r0 r1 hB hx2 => ?_;refine ⟨r.toNat,by rw [Int.toNat_of_nonneg r0],by omega,⟨t,v,LSub_cons rfl (LSub_cons rfl (LSub_cons rfl (LSub_cons rfl LSub_nil))),.one h,hB,hx.trans hx2⟩,?_,?_⟩
  · rintro i l H it o hi ⟨t,v,hsub,hc,hB,hx⟩ hit;have ni := hB.ni hit;have h0 := hx.noneB hit ni;have hB := hB.put (o := .raw o) ni;have hx := hx.loc (o := .raw o) h0;have hs : H.put it (.raw o) it = some (.raw o) := put_self;have lt := hc.len hlen
    generalize H.put it (.raw o) = H at hB hx hs ⊢
    refine EXS_loc (LSub.set hsub) ?_;refine EXS_cons ?_;refine EX_unpack (xs := ["more","other"]) (fun _ => rfl) (by intros; kernel_rfl) (fun _ => ⟨fun _ _ _ _ _ _ h => wpAny_assign_Name h,fun _ _ _ _ _ _ h => wpAny_assign_Name h,trivial⟩) (fun _ => rfl) (by decide +kernel) ?_;refine EV_callg (by kernel_rfl) G_law_operand (by kernel_rfl) Gk_law_operand rfl ?_;refine EA_pe (PEs_cons PE_name (PEs_cons PE_name PEs_nil)) ?_;refine CV_of_CL ?_;refine hO _ _ _ hB fun t' v' H h hB hx2 => ?_;refine ⟨_,rfl,rfl,?_⟩;have hx := hx.trans hx2;have hs := hx2 _ _ ni hs;have lt' := hlen _ _ h;refine EXS_cons ?_;refine EXa ?_;refine EV_bin ?_;refine EV_bin ?_;refine EV_name rfl ?_;refine EV_callg (by kernel_rfl) G_law_pick (by kernel_rfl) Gk_law_pick rfl ?_;refine EA_pe (PEs_cons PE_name (PEs_cons (PE_list (PEs_cons (PE_str (c := [32,47,32]) (by kernel_rfl)) (PEs_cons (PE_str (c := [10,47,32]) (by kernel_rfl)) (PEs_cons (PE_str (c := [32,47,10]) (by kernel_rfl)) (PEs_cons (PE_str (c := [47,32]) (by kernel_rfl)) PEs_nil))))) PEs_nil)) ?_;refine CV_of_CL ?_;refine law_pick_ hb_ hB (vs := seps.map sv) (by decide +kernel) (by decide +kernel) fun v2 H hv hB hx2 => ?_;obtain ⟨s,hsep,rfl⟩ := List.mem_map.mp hv;have ls := mem_len (m := 3) (by decide +kernel) hsep;have hx := hx.trans hx2;have hs := hx2 _ _ ni hs;refine Tll ?_;refine EV_name rfl ?_;refine Tll ?_;refine EXS_cons ?_;refine EXa ?_;refine EV_pe (PE_list (PEs_cons (PE_str (c := [66,105,110,97,114,121]) (by kernel_rfl)) (PEs_cons (PE_list (PEs_cons (PE_str (c := [47]) (by kernel_rfl)) (PEs_cons PE_name (PEs_cons PE_name PEs_nil)))) PEs_nil))) ?_;refine EXS_nil ?_;exact ⟨hs,_,_,LSub_cons rfl (LSub_cons rfl (LSub_cons rfl (LSub_cons rfl LSub_nil))),.more hc h hsep,hB.drop ni,hx.dropped h0⟩
  · rintro l H ⟨t,v,hsub,hc,hB,hx⟩;refine EXS_loc hsub ?_;refine EXS_cons ?_;refine EX_return ?_;refine EV_pe (PE_tup (PEs_cons PE_name (PEs_cons PE_name PEs_nil))) ?_;exact hq _ _ _ ⟨_,by omega,hc⟩ hB hx
theorem ch0 : DrSpec w mb xt X box b0 f_law_chain (n + 5) [.ref box,.int 0] (ChR 0) := ch_step hb_ (fun t v h => OpR.len' (d := 0) (by decide) h) (op_zero hb_)
theorem op1 : DrSpec w mb xt X box b0 f_law_operand (n + 6) [.ref box,.int 1] (OpR 1) := op_step (dd := 1) (k := n + 1) hb_ (by decide) (fun t v h => ChR.len (d := 0) (by decide) h) (ch0 hb_)
theorem ch1 : DrSpec w mb xt X box b0 f_law_chain (n + 7) [.ref box,.int 1] (ChR 1) := ch_step (k := n + 2) hb_ (fun t v h => OpR.len' (d := 1) (by decide) h) (op1 hb_)
theorem op2 : DrSpec w mb xt X box b0 f_law_operand (n + 8) [.ref box,.int 2] (OpR 2) := op_step (dd := 2) (k := n + 3) hb_ (by decide) (fun t v h => ChR.len (d := 1) (by decide) h) (ch1 hb_)
theorem ch2 : DrSpec w mb xt X box b0 f_law_chain (n + 9) [.ref box,.int 2] (ChR 2) := ch_step (k := n + 4) hb_ (fun t v h => OpR.len' (d := 2) (by decide) h) (op2 hb_)
end
end Mine
end
section
open PySem PySem.W PySem.Calls PyProof.Rows Hd
namespace Mine
noncomputable def asgs : List (List Nat) := [[61],[47,61]]
noncomputable def ends : List (List Nat) := [[10],[32],[32,47,47,32,47,120,47] ++ [10]]
inductive RowR : List Nat→List V→Prop
  | if_ {h t : List Nat} {u v : V} (hu : ChR 1 h u) (hv : ChR 2 t v) : RowR ([105,102,32,40] ++ h ++ [41,32] ++ t ++ [59]) [nd [73,102] [u,nd [69,120,112,114] [v],.none]]
  | while_ {h t : List Nat} {u v : V} (hu : ChR 1 h u) (hv : ChR 2 t v) : RowR ([119,104,105,108,101,32,40] ++ h ++ [41,32] ++ t ++ [59]) [nd [87,104,105,108,101] [u,nd [69,120,112,114] [v]]]
  | asg {w t : List Nat} {v : V} (hw : w∈asgs) (hv : ChR 2 t v) : RowR ([97,32] ++ w ++ [32] ++ t ++ [59]) [nd [69,120,112,114] [nd [65,115,115,105,103,110] [sv w,nm [97],v]]]
  | blk {t : List Nat} {v : V} (hv : ChR 2 t v) : RowR ([123,97,10,125,32] ++ t ++ [59]) [nd [66,108,111,99,107] [.lst [nd [69,120,112,114] [nm [97]]]],nd [69,120,112,114] [v]]
  | lab {t : List Nat} {v : V} (hv : ChR 2 t v) : RowR ([108,58,32] ++ t ++ [59]) [nd [76,97,98,101,108,108,101,100] [sv [108],nd [69,120,112,114] [v]]]
  | thr {t : List Nat} {v : V} (hv : ChR 2 t v) : RowR ([116,104,114,111,119,32] ++ t ++ [59]) [nd [84,104,114,111,119] [v]]
  | var {t : List Nat} {v : V} (hv : ChR 2 t v) : RowR ([118,97,114,32,118,32,61,32] ++ t ++ [59]) [nd [86,97,114] [.lst [.lst [sv [118],v]]]]
  | expr {t : List Nat} {v : V} (hv : ChR 2 t v) : RowR (t ++ [59]) [nd [69,120,112,114] [v]]
inductive RowsR : Nat→List Nat→List V→Prop
  | nil : RowsR 0 [] []
  | snoc {i : Nat} {t s e : List Nat} {us vs : List V} (h : RowsR i t us) (hr : RowR s vs) (he : e∈ends) : RowsR (i + 1) (t ++ s ++ e) (us ++ vs)
theorem RowR.len {t : List Nat} {vs : List V} (h : RowR t vs) : t.length ≤ 20100∧vs.length ≤ 2 := by
  cases h with
  | if_ hu hv => have := ChR.len (by decide) hu; have := ChR.len (by decide) hv; simp only [List.length_append,List.length_cons,List.length_nil]; omega
  | while_ hu hv => have := ChR.len (by decide) hu; have := ChR.len (by decide) hv; simp only [List.length_append,List.length_cons,List.length_nil]; omega
  | asg hw hv => have := mem_len (m := 2) (by decide +kernel) hw; have := ChR.len (by decide) hv; simp only [List.length_append,List.length_cons,List.length_nil]; omega
  | blk hv => have := ChR.len (by decide) hv; simp only [List.length_append,List.length_cons,List.length_nil]; omega
  | lab hv => have := ChR.len (by decide) hv; simp only [List.length_append,List.length_cons,List.length_nil]; omega
  | thr hv => have := ChR.len (by decide) hv; simp only [List.length_append,List.length_cons,List.length_nil]; omega
  | var hv => have := ChR.len (by decide) hv; simp only [List.length_append,List.length_cons,List.length_nil]; omega
  | expr hv => have := ChR.len (by decide) hv; simp only [List.length_append,List.length_cons,List.length_nil]; omega
theorem RowsR.len {i : Nat} {t : List Nat} {vs : List V} (h : RowsR i t vs) : t.length ≤ i * 20120∧vs.length ≤ i * 2 := by
  induction h with
  | nil => exact ⟨Nat.zero_le _,Nat.zero_le _⟩
  | snoc h hr he ih =>
    have := hr.len; have := mem_len (m := 9) (by decide +kernel) he;simp only [List.length_append]; omega
section
variable {w : World} {mb : Str→Option Value} {xt : Led} {n : Nat} {X : Nat→MH→Prop} {l : Loc} {H H₀ : MH} (hb_ : ∀ x : Str,x ≠ "__name__"→mb x = bootBuiltins x) {box b0 : Addr}
include hb_
theorem law_row_ (hB : BoxInv box b0 H) {Q : V→MH→Prop} (hq : ∀ t vs H',RowR t vs→BoxInv box b0 H'→Ext [box,b0] H H'→Q (.tup [sv t,.lst vs]) H') : CL (W0 w mb xt) ⟨n + 10,X⟩ l H f_law_row [.ref box] Q := by
  refine CL_def F_law_row rfl ?_;refine EXS_cons ?_;refine EXa ?_;refine EV_callg (by kernel_rfl) G_law_take (by kernel_rfl) Gk_law_take rfl ?_;refine EA_pe (PEs_cons PE_name (PEs_cons PE_int PEs_nil)) ?_;refine CV_of_CL ?_;refine law_take_ hb_ hB (by decide) fun r H r0 r1 hB hx => ?_;refine EXS_cons ?_;refine EX_unpack (xs := ["text","tree"]) (fun _ => rfl) (by intros; kernel_rfl) (fun _ => ⟨fun _ _ _ _ _ _ h => wpAny_assign_Name h,fun _ _ _ _ _ _ h => wpAny_assign_Name h,trivial⟩) (fun _ => rfl) (by decide +kernel) ?_;refine EV_callg (by kernel_rfl) G_law_chain (by kernel_rfl) Gk_law_chain rfl ?_;refine EA_pe (PEs_cons PE_name (PEs_cons PE_int PEs_nil)) ?_;refine CV_of_CL ?_;refine ch2 hb_ _ _ _ hB fun t v H hv hB hx2 => ?_;have hx := hx.trans hx2;refine ⟨_,rfl,rfl,?_⟩;have hl := ChR.len (by decide) hv;refine EXS_cons ?_;refine EX_if ?_;refine ET_cmp rfl ?_;refine EV_name rfl ?_;refine EV_int ?_;refine T2_eq_int ?_;refine ⟨_,rfl,?_⟩;refine ite_go (fun hb => ?_) (fun hb => ?_)
  · refine EXS_cons ?_;refine EX_unpack (xs := ["head","test"]) (fun _ => rfl) (by intros; kernel_rfl) (fun _ => ⟨fun _ _ _ _ _ _ h => wpAny_assign_Name h,fun _ _ _ _ _ _ h => wpAny_assign_Name h,trivial⟩) (fun _ => rfl) (by decide +kernel) ?_;refine EV_callg (by kernel_rfl) G_law_chain (by kernel_rfl) Gk_law_chain rfl ?_;refine EA_pe (PEs_cons PE_name (PEs_cons PE_int PEs_nil)) ?_;refine CV_of_CL ?_;refine ch1 hb_ _ _ _ hB fun th vh H hu hB hx2 => ?_;have hx := hx.trans hx2;refine ⟨_,rfl,rfl,?_⟩;have hl2 := ChR.len (by decide) hu;refine EXS_cons ?_;refine EX_unpack (xs := ["word","kind"]) (fun _ => rfl) (by intros; kernel_rfl) (fun _ => ⟨fun _ _ _ _ _ _ h => wpAny_assign_Name h,fun _ _ _ _ _ _ h => wpAny_assign_Name h,trivial⟩) (fun _ => rfl) (by decide +kernel) ?_;refine EV_callg (by kernel_rfl) G_law_pick (by kernel_rfl) Gk_law_pick rfl ?_;refine EA_pe (PEs_cons PE_name (PEs_cons (PE_list (PEs_cons (PE_tup (PEs_cons (PE_str (c := [105,102,32,40]) (by kernel_rfl)) (PEs_cons (PE_str (c := [73,102]) (by kernel_rfl)) PEs_nil))) (PEs_cons (PE_tup (PEs_cons (PE_str (c := [119,104,105,108,101,32,40]) (by kernel_rfl)) (PEs_cons (PE_str (c := [87,104,105,108,101]) (by kernel_rfl)) PEs_nil))) PEs_nil))) PEs_nil)) ?_;refine CV_of_CL ?_;refine law_pick_ hb_ hB (vs := [.tup [sv [105,102,32,40],sv [73,102]],.tup [sv [119,104,105,108,101,32,40],sv [87,104,105,108,101]]]) (by decide) (by decide) fun p H hp hB hx2 => ?_;have hx := hx.trans hx2
    rcases List.mem_cons.mp hp with rfl | hp
    · refine ⟨_,rfl,rfl,?_⟩;refine EXS_cons ?_;refine EX_return ?_;refine EV_tuple ?_;refine EA_cons rfl ?_;refine EV_bin ?_;refine EV_bin ?_;refine EV_bin ?_;refine EV_bin ?_;refine EV_name rfl ?_;refine EV_name rfl ?_;refine Tll ?_;refine EV_strS (c := [41,32]) (by kernel_rfl) ?_;refine Tll ?_;refine EV_name rfl ?_;refine Tll ?_;refine EV_strS (c := [59]) (by kernel_rfl) ?_;refine Tll ?_;refine EA_cons rfl ?_;refine EV_listF ?_;refine EA_cons rfl ?_;refine EV_listF ?_;refine EA_cons rfl ?_;refine EV_name rfl ?_;refine EA_cons rfl ?_;refine EV_bin ?_;refine EV_pe (PE_list (PEs_cons PE_name (PEs_cons (PE_list (PEs_cons (PE_str (c := [69,120,112,114]) (by kernel_rfl)) (PEs_cons (PE_list (PEs_cons PE_name PEs_nil)) PEs_nil))) PEs_nil))) ?_;refine EV_if ?_;refine ET_cmp rfl ?_;refine EV_name rfl ?_;refine EV_strS (c := [73,102]) (by kernel_rfl) ?_;refine T2_eq_l ?_;refine ⟨_,rfl,?_⟩;refine ite_go (fun _ => ?_) (fun z => nomatch z);refine EV_pe (PE_list (PEs_cons PE_none PEs_nil)) ?_;refine T2_add_lst (by first | omega | (simp only [List.length_append,List.length_cons,List.length_nil]; omega)) ?_;refine EA_nil ?_;refine lb ?_;refine EA_nil ?_;refine lb ?_;refine EA_nil ?_;refine lb ?_;exact hq _ _ _ (.if_ hu hv) hB hx
    · obtain rfl := List.mem_singleton.mp hp;refine ⟨_,rfl,rfl,?_⟩;refine EXS_cons ?_;refine EX_return ?_;refine EV_tuple ?_;refine EA_cons rfl ?_;refine EV_bin ?_;refine EV_bin ?_;refine EV_bin ?_;refine EV_bin ?_;refine EV_name rfl ?_;refine EV_name rfl ?_;refine Tll ?_;refine EV_strS (c := [41,32]) (by kernel_rfl) ?_;refine Tll ?_;refine EV_name rfl ?_;refine Tll ?_;refine EV_strS (c := [59]) (by kernel_rfl) ?_;refine Tll ?_;refine EA_cons rfl ?_;refine EV_listF ?_;refine EA_cons rfl ?_;refine EV_listF ?_;refine EA_cons rfl ?_;refine EV_name rfl ?_;refine EA_cons rfl ?_;refine EV_bin ?_;refine EV_pe (PE_list (PEs_cons PE_name (PEs_cons (PE_list (PEs_cons (PE_str (c := [69,120,112,114]) (by kernel_rfl)) (PEs_cons (PE_list (PEs_cons PE_name PEs_nil)) PEs_nil))) PEs_nil))) ?_;refine EV_if ?_;refine ET_cmp rfl ?_;refine EV_name rfl ?_;refine EV_strS (c := [73,102]) (by kernel_rfl) ?_;refine T2_eq_l ?_;refine ⟨_,rfl,?_⟩;refine ite_go (fun z => nomatch z) (fun _ => ?_);refine EV_pe (PE_list PEs_nil) ?_;refine T2_add_lst (by first | omega | (simp only [List.length_append,List.length_cons,List.length_nil]; omega)) ?_;refine EA_nil ?_;refine lb ?_;refine EA_nil ?_;refine lb ?_;refine EA_nil ?_;refine lb ?_;exact hq _ _ _ (.while_ hu hv) hB hx
  refine EXS_nil ?_;refine EXS_cons ?_;refine EX_if ?_;refine ET_cmp rfl ?_;refine EV_name rfl ?_;refine EV_int ?_;refine T2_eq_int ?_;refine ⟨_,rfl,?_⟩;refine ite_go (fun hb => ?_) (fun hb => ?_)
  · refine EXS_cons ?_;refine EXa ?_;refine EV_callg (by kernel_rfl) G_law_pick (by kernel_rfl) Gk_law_pick rfl ?_;refine EA_pe (PEs_cons PE_name (PEs_cons (PE_list (PEs_cons (PE_str (c := [61]) (by kernel_rfl)) (PEs_cons (PE_str (c := [47,61]) (by kernel_rfl)) PEs_nil))) PEs_nil)) ?_;refine CV_of_CL ?_;refine law_pick_ hb_ hB (vs := asgs.map sv) (by decide +kernel) (by decide +kernel) fun p H hp hB hx2 => ?_;have hx := hx.trans hx2;obtain ⟨s,hs,rfl⟩ := List.mem_map.mp hp;have ls := mem_len (m := 2) (by decide +kernel) hs;refine EXS_cons ?_;refine EX_return ?_;refine EV_tuple ?_;refine EA_cons rfl ?_;refine EV_bin ?_;refine EV_bin ?_;refine EV_bin ?_;refine EV_bin ?_;refine EV_strS (c := [97,32]) (by kernel_rfl) ?_;refine EV_name rfl ?_;refine Tll ?_;refine EV_strS (c := [32]) (by kernel_rfl) ?_;refine Tll ?_;refine EV_name rfl ?_;refine Tll ?_;refine EV_strS (c := [59]) (by kernel_rfl) ?_;refine Tll ?_;refine EA_cons rfl ?_;refine EV_pe (PE_list (PEs_cons (PE_list (PEs_cons (PE_str (c := [69,120,112,114]) (by kernel_rfl)) (PEs_cons (PE_list (PEs_cons (PE_list (PEs_cons (PE_str (c := [65,115,115,105,103,110]) (by kernel_rfl)) (PEs_cons (PE_list (PEs_cons PE_name (PEs_cons (PE_list (PEs_cons (PE_str (c := [78,97,109,101]) (by kernel_rfl)) (PEs_cons (PE_list (PEs_cons (PE_str (c := [97]) (by kernel_rfl)) PEs_nil)) PEs_nil))) (PEs_cons PE_name PEs_nil)))) PEs_nil))) PEs_nil)) PEs_nil))) PEs_nil)) ?_;refine EA_nil ?_;refine lb ?_;exact hq _ _ _ (.asg hs hv) hB hx
  refine EXS_nil ?_;refine EXS_cons ?_;refine EX_if ?_;refine ET_cmp rfl ?_;refine EV_name rfl ?_;refine EV_int ?_;refine T2_eq_int ?_;refine ⟨_,rfl,?_⟩;refine ite_go (fun hb => ?_) (fun hb => ?_)
  · refine EXS_cons ?_;refine EX_return ?_;refine EV_tuple ?_;refine EA_cons rfl ?_;refine EV_bin ?_;refine EV_bin ?_;refine EV_strS (c := [123,97,10,125,32]) (by kernel_rfl) ?_;refine EV_name rfl ?_;refine Tll ?_;refine EV_strS (c := [59]) (by kernel_rfl) ?_;refine Tll ?_;refine EA_cons rfl ?_;refine EV_pe (PE_list (PEs_cons (PE_list (PEs_cons (PE_str (c := [66,108,111,99,107]) (by kernel_rfl)) (PEs_cons (PE_list (PEs_cons (PE_list (PEs_cons (PE_list (PEs_cons (PE_str (c := [69,120,112,114]) (by kernel_rfl)) (PEs_cons (PE_list (PEs_cons (PE_list (PEs_cons (PE_str (c := [78,97,109,101]) (by kernel_rfl)) (PEs_cons (PE_list (PEs_cons (PE_str (c := [97]) (by kernel_rfl)) PEs_nil)) PEs_nil))) PEs_nil)) PEs_nil))) PEs_nil)) PEs_nil)) PEs_nil))) (PEs_cons (PE_list (PEs_cons (PE_str (c := [69,120,112,114]) (by kernel_rfl)) (PEs_cons (PE_list (PEs_cons PE_name PEs_nil)) PEs_nil))) PEs_nil))) ?_;refine EA_nil ?_;refine lb ?_;exact hq _ _ _ (.blk hv) hB hx
  refine EXS_nil ?_;refine EXS_cons ?_;refine EX_if ?_;refine ET_cmp rfl ?_;refine EV_name rfl ?_;refine EV_int ?_;refine T2_eq_int ?_;refine ⟨_,rfl,?_⟩;refine ite_go (fun hb => ?_) (fun hb => ?_)
  · refine EXS_cons ?_;refine EX_return ?_;refine EV_tuple ?_;refine EA_cons rfl ?_;refine EV_bin ?_;refine EV_bin ?_;refine EV_strS (c := [108,58,32]) (by kernel_rfl) ?_;refine EV_name rfl ?_;refine Tll ?_;refine EV_strS (c := [59]) (by kernel_rfl) ?_;refine Tll ?_;refine EA_cons rfl ?_;refine EV_pe (PE_list (PEs_cons (PE_list (PEs_cons (PE_str (c := [76,97,98,101,108,108,101,100]) (by kernel_rfl)) (PEs_cons (PE_list (PEs_cons (PE_str (c := [108]) (by kernel_rfl)) (PEs_cons (PE_list (PEs_cons (PE_str (c := [69,120,112,114]) (by kernel_rfl)) (PEs_cons (PE_list (PEs_cons PE_name PEs_nil)) PEs_nil))) PEs_nil))) PEs_nil))) PEs_nil)) ?_;refine EA_nil ?_;refine lb ?_;exact hq _ _ _ (.lab hv) hB hx
  refine EXS_nil ?_;refine EXS_cons ?_;refine EX_if ?_;refine ET_cmp rfl ?_;refine EV_name rfl ?_;refine EV_int ?_;refine T2_eq_int ?_;refine ⟨_,rfl,?_⟩;refine ite_go (fun hb => ?_) (fun hb => ?_)
  · refine EXS_cons ?_;refine EX_return ?_;refine EV_tuple ?_;refine EA_cons rfl ?_;refine EV_bin ?_;refine EV_bin ?_;refine EV_strS (c := [116,104,114,111,119,32]) (by kernel_rfl) ?_;refine EV_name rfl ?_;refine Tll ?_;refine EV_strS (c := [59]) (by kernel_rfl) ?_;refine Tll ?_;refine EA_cons rfl ?_;refine EV_pe (PE_list (PEs_cons (PE_list (PEs_cons (PE_str (c := [84,104,114,111,119]) (by kernel_rfl)) (PEs_cons (PE_list (PEs_cons PE_name PEs_nil)) PEs_nil))) PEs_nil)) ?_;refine EA_nil ?_;refine lb ?_;exact hq _ _ _ (.thr hv) hB hx
  refine EXS_nil ?_;refine EXS_cons ?_;refine EX_if ?_;refine ET_cmp rfl ?_;refine EV_name rfl ?_;refine EV_int ?_;refine T2_eq_int ?_;refine ⟨_,rfl,?_⟩;refine ite_go (fun hb => ?_) (fun hb => ?_)
  · refine EXS_cons ?_;refine EX_return ?_;refine EV_tuple ?_;refine EA_cons rfl ?_;refine EV_bin ?_;refine EV_bin ?_;refine EV_strS (c := [118,97,114,32,118,32,61,32]) (by kernel_rfl) ?_;refine EV_name rfl ?_;refine Tll ?_;refine EV_strS (c := [59]) (by kernel_rfl) ?_;refine Tll ?_;refine EA_cons rfl ?_;refine EV_pe (PE_list (PEs_cons (PE_list (PEs_cons (PE_str (c := [86,97,114]) (by kernel_rfl)) (PEs_cons (PE_list (PEs_cons (PE_list (PEs_cons (PE_list (PEs_cons (PE_str (c := [118]) (by kernel_rfl)) (PEs_cons PE_name PEs_nil))) PEs_nil)) PEs_nil)) PEs_nil))) PEs_nil)) ?_;refine EA_nil ?_;refine lb ?_;exact hq _ _ _ (.var hv) hB hx
  refine EXS_nil ?_;refine EXS_cons ?_;refine EX_return ?_;refine EV_tuple ?_;refine EA_cons rfl ?_;refine EV_bin ?_;refine EV_name rfl ?_;refine EV_strS (c := [59]) (by kernel_rfl) ?_;refine Tll ?_;refine EA_cons rfl ?_;refine EV_pe (PE_list (PEs_cons (PE_list (PEs_cons (PE_str (c := [69,120,112,114]) (by kernel_rfl)) (PEs_cons (PE_list (PEs_cons PE_name PEs_nil)) PEs_nil))) PEs_nil)) ?_;refine EA_nil ?_;refine lb ?_;exact hq _ _ _ (.expr hv) hB hx
end
end Mine
end
section
open PySem PySem.W PySem.Calls PyProof.Rows
namespace Mine
section
variable {W : Wd} {d : Dx} {cs : Scope} {l : Loc} {H : MH}
theorem raw_put {C : FC} {news : Led} {ow : Own} {s : Shared} {it : Addr} {o o' : Obj} {h' : Heap} (hs : St W C l H news ow s) (h : H it = some (.raw o)) (hsb : Heap.SameBut it s.heap h') (hg : h'.get? it = some o') :
    ∃ news',St W C l (H.put it (.raw o')) news' ow { s with heap := h' }∧Le (fzS W news ow) (fzS W news' ow) := by
  rw [put_of h] at hs;obtain ⟨n',a,b⟩ := raw_step hs hsb hg;refine ⟨n',?_,b⟩;have : H.put it (.raw o') = (H.drop it).put it (.raw o') := by
    funext b; unfold MH.put MH.drop
    by_cases e : b = it
    · rw [if_pos e,if_pos e]
    · rw [if_neg e,if_neg e,if_neg e]
  rw [this]; exact a
theorem raw_out {C : FC} {news : Led} {ow : Own} {s : Shared} {it : Addr} {o : Obj} {h' : Heap} (hs : St W C l H news ow s) (h : H it = some (.raw o)) (he : Heap.ExtBut it s.heap h') :
    ∃ news',St W C l (H.drop it) news' ow { s with heap := h' }∧Le (fzS W news ow) (fzS W news' ow) := by
  rw [put_of h] at hs;exact raw_end hs drop_self he
structure CompH (H Hc : MH) (it D CC : Addr) (oI oC : Obj) (us : List V) : Prop where
  i : Hc it = some (.raw oI)
  d : Hc D = some (.list us)
  c : Hc CC = some (.raw oC)
  o : ∀ b,b ≠ it→b ≠ D→b ≠ CC→Hc b = H b
theorem CompH.putI {H Hc : MH} {it D CC : Addr} {oI oC o : Obj} {us : List V} (h : CompH H Hc it D CC oI oC us) (n1 : it ≠ D) (n2 : it ≠ CC) : CompH H (Hc.put it (.raw o)) it D CC o oC us :=
  ⟨if_pos rfl,(if_neg (Ne.symm n1)).trans h.d,(if_neg (Ne.symm n2)).trans h.c,fun b a1 a2 a3 => (if_neg a1).trans (h.o b a1 a2 a3)⟩
theorem CompH.putD {H Hc : MH} {it D CC : Addr} {oI oC : Obj} {us us' : List V} (h : CompH H Hc it D CC oI oC us) (n1 : it ≠ D) (n2 : D ≠ CC) : CompH H (Hc.put D (.list us')) it D CC oI oC us' :=
  ⟨(if_neg n1).trans h.i,if_pos rfl,(if_neg (Ne.symm n2)).trans h.c,fun b a1 a2 a3 => (if_neg a2).trans (h.o b a1 a2 a3)⟩
theorem CompH.putC {H Hc : MH} {it D CC : Addr} {oI oC o : Obj} {us : List V} (h : CompH H Hc it D CC oI oC us) (n1 : it ≠ CC) (n2 : D ≠ CC) : CompH H (Hc.put CC (.raw o)) it D CC oI o us :=
  ⟨(if_neg n1).trans h.i,(if_neg n2).trans h.d,if_pos rfl,fun b a1 a2 a3 => (if_neg a3).trans (h.o b a1 a2 a3)⟩
theorem comp_engine {C : FC} {fn x : String} {np xp px cp pos : Pos} {iter : Expr} {scope : Scope} {f : Addr} {us vs : List V} {it : Addr} {R : Nat→Obj→Prop} {news : Led} {ow : Own} {s : Shared} {o : Obj} {Q : V→MH→Prop} {Qr : Value→Shared→Prop} {E : Value→Shared→Prop} {fz : Fz} {os : OsState}
    (hc : C.cs = cs) (ho : C.Ok W d) (hcell : ∀ y∈scope.names,y.2 ≠ .cell) (hkind : scope.kind = .function) (hx : scope.names.lookup (Str.ofString x) = some .local)
    (hfk : ∀ CC,(compEnvC scope [] CC C.env).kindOf (Str.ofString fn) = some .globalImplicit) (hxk : ∀ CC,(compEnvC scope [] CC C.env).kindOf (Str.ofString x) = some .local)
    (hg : W.mg (Str.ofString fn) = some (.ref f)) (hd : (Str.ofString fn == ("__debug__" : Str)) = false) (hxd : (Str.ofString x == ("__debug__" : Str)) = false) (hkeep : keepIn W.K (.ref f) = true)
    (G : Gives W fz it vs R) (hself : ∀ (A : Around) (s : Shared) (E : Value→Shared→Prop) (Qr : Value→Shared→Prop) (oI : Obj) (i : Nat),s.heap.get? it = some oI→R i oI→Qr (.ref it) s→wpAny (Md W) A (pyIter (.ref it)) Qr E s)
    (hz : vs.length < 1000000) (hs : St W C l (H.put it (.raw o)) news ow s) (hn : H it = none) (hR : R 0 o) (hle : Le fz (fzS W news ow)) (hos : s.os = os)
    (hul : us.length = vs.length) (step : ∀ (i : Nat) (u r : V),vs[i]? = some u→us[i]? = some r→∀ (H' : MH) (Q : V→MH→Prop),Q r H'→CL W d l H' f [u] Q) (hq : Q (.lst us) H) (hk : Cont W C l fz os Q Qr) :
    wpAny (Md W) C.A (newList []) (fun acc s₃ => wpAny (Md W) C.A (newFunctionEnv scope C.env.globals [] [] C.env.qual none .none (some C.env)) (fun cenv s₄ =>
      codeAny (Md W) C.A (.compStart (.ListComp (.Call (.Name (Str.ofString fn) np) [.Name (Str.ofString x) xp] [] cp) [⟨.Name (Str.ofString x) px,iter,[],0⟩] scope pos) 0 (.ref it) acc { cenv with scope := relabel scope C.env }) (compPost (Md W) C.A E none Qr acc cenv.locals) s₄) E s₃) E s := by
  obtain ⟨m,F,lr⟩ := hs.fr;have leD := le_new (W := W) (ow := ow) (o := listO [] 0) (b := some s.heap.objs.size) (fun p hp => led_lt hs hp);refine newList_N F hs.nw (fun h' F' N' => ?_) (by rw [sizeLine_eq]; simp);have hsD := (hs.push (o := listO [] 0) lr F' N' (some s.heap.objs.size)).name (a := s.heap.objs.size) (o := .list []) ⟨if_pos rfl,0,[],.head _,vrs_nil⟩;have hnD : (H.put it (.raw o)) s.heap.objs.size = none := fresh_none hs (Nat.le_refl _)
  generalize s.heap.objs.size = D at *
  have hneD : it ≠ D := fun z => by rw [z] at hnD; unfold MH.put at hnD; rw [if_pos rfl] at hnD; cases hnD
  refine wpAny_newFunctionEnv hcell (by intro y hy; simp at hy) (fun h₁ hns₁ hsb₁ => ?_) hkind;obtain ⟨hnC,n₁,o₁,hsC0,le1⟩ := hsD.pushRaw { cls := .type "dict",data := .dict #[] } rfl
  dsimp only at hns₁ hsb₁ hnC hsC0 ⊢
  generalize h'.objs.size = CC at *
  have hneDC : D ≠ CC := fun z => by rw [← z] at hnC; unfold MH.put at hnC; rw [if_pos rfl] at hnC; cases hnC
  have hneC : it ≠ CC := fun z => by rw [← z] at hnC; unfold MH.put at hnC; rw [if_neg hneD,if_pos rfl] at hnC; cases hnC
  obtain ⟨oC,heC,hoC⟩ := LCg.ns_obj hns₁;obtain ⟨n₂,hs₂,le2⟩ := raw_put hsC0 (if_pos rfl) hsb₁ heC;have c0 : CompH H (((((H.put it (.raw o)).put D (.list [])).put CC (.raw { cls := .type "dict",data := .dict #[] })).put CC (.raw oC))) it D CC o oC [] := by
    refine ⟨?_,?_,?_,fun b a1 a2 a3 => ?_⟩ <;> unfold MH.put
    · rw [if_neg hneC,if_neg hneC,if_neg hneD,if_pos rfl]
    · rw [if_neg hneDC,if_neg hneDC,if_pos rfl]
    · rw [if_pos rfl]
    · rw [if_neg a3,if_neg a3,if_neg a2,if_neg a1]
  have hnD' : H D = none := by unfold MH.put at hnD; rw [if_neg (Ne.symm hneD)] at hnD; exact hnD
  have hnC' : H CC = none := by unfold MH.put at hnC; rw [if_neg (Ne.symm hneDC),if_neg (Ne.symm hneC)] at hnC; exact hnC
  generalize ((((H.put it (.raw o)).put D (.list [])).put CC (.raw { cls := .type "dict",data := .dict #[] })).put CC (.raw oC)) = Hc at hs₂ c0
  have loop : ∀ t,codeAny (Md W) C.A (.compLoop (.ListComp (.Call (.Name (Str.ofString fn) np) [.Name (Str.ofString x) xp] [] cp) [⟨.Name (Str.ofString x) px,iter,[],0⟩] scope pos) 0 (.ref it) (.ref D) (compEnvC scope [] CC C.env))
      (compPost (Md W) C.A E none Qr (.ref D) CC) { s with heap := h₁,toks := t } := by
    intro t;refine codeAny_compLoop_tests (fun k s' => ∃ i Hc news' ow' oI oC m',k = vs.length + 1 - i∧i ≤ vs.length∧CompH H Hc it D CC oI oC (us.take i)∧R i oI∧LCg.NsObj oC m'∧St W C l Hc news' ow' s'∧Le fz (fzS W news' ow')∧s'.os = os) ?_ (vs.length + 1)
      ⟨0,Hc,_,_,o,oC,_,rfl,Nat.zero_le _,c0,hR,hoC,hs₂.toks,Le.trans hle (Le.trans leD (Le.trans le1 le2)),hos⟩
    rintro k s' ⟨i,Hc,news',ow',oI,oC',m',rfl,hi,hc',hR',hoC',hs',le',os'⟩;have hfz : ∀ a o,fz a o→s'.heap.get? a = some o := fun a o z => fz_at ho hs' (le' _ _ z)
    by_cases hlt : i < vs.length
    · have hv : vs[i]? = some vs[i] := List.getElem?_eq_getElem hlt;have hlu : i < us.length := by omega
      have hr : us[i]? = some us[i] := List.getElem?_eq_getElem hlu;refine G.item C.A i vs[i] hv s' _ _ oI hfz (raw_get hs' hc'.i) hR' fun U h₂ tk oI₂ vU hg₂ hR₂ hsb => ?_;obtain ⟨n₂,hs₂,le₂⟩ := raw_put hs' hc'.i hsb hg₂;have c₂ := hc'.putI (o := oI₂) hneD hneC
      generalize Hc.put it (.raw oI₂) = Hc₂ at hs₂ c₂
      have hns : h₂.Ns CC m' := hoC'.ns (raw_get hs₂ c₂.c);refine wpAny_assign_Name (wpAny_storeName_local (lookup_relabel_local hx) hns (fun h₃ hn₃ hs₃b => ?_) (by simp [compEnvC,relabel,hkind]));obtain ⟨oC₃,heC₃,hoC₃⟩ := LCg.ns_obj hn₃;obtain ⟨n₃,hs₃,le₃⟩ := raw_put (hs₂.toks (t := tk)) c₂.c hs₃b heC₃;have hs₃ := hs₃.toks (t := tk + 1);have c₃ := c₂.putC (o := oC₃) hneC hneDC
      generalize Hc₂.put CC (.raw oC₃) = Hc₃ at hs₃ c₃
      refine wpAny_tests_nil ?_;simp only [if_true];refine Call_ ?_ (by rfl);obtain ⟨m3,F3,lr3⟩ := hs₃.fr;refine Name_function_global hkind (hfk CC) (loadGlobal_global (env := compEnvC scope [] CC C.env) (show Heap.Ns _ C.env.globals W.mg from ho.top.g.at' fun o e => F3.keep _ o e) hg ?_) hd;refine callWith_K ho.kin hkeep (args_cons (ldVarK (v := U) (hoC₃.ns (raw_get hs₃ c₃.c)) (by simp) ?_ hkind (hxk CC) hxd) (starEach_plain rfl)) (starEach_plain rfl) (starEach_any rfl);refine args_nil ?_;refine ⟨ho.kin.keeps F3.keep,?_⟩;refine wpAny_call ((step i vs[i] us[i] hv hr Hc₃ (fun v H' => v = us[i]∧H' = Hc₃) ⟨rfl,rfl⟩).go C n₃ ow' _ C.A _ _ ho (hs₃.toks) (vrs_cons (VR.mono (Le.trans le' (Le.trans le₂ le₃)) vU) vrs_nil) (by omega) (by omega) rfl rfl ?_);rintro v Uv H₄ n₄ o₄ s₄ hs₄ le₄ os₄ vr₄ ⟨rfl,rfl⟩;refine (CV_append (d := d) (cs := cs) c₃.d (by rw [List.length_take]; omega) (Q := fun v H' => H' = H₄.put D (.list (us.take i ++ [us[i]]))) rfl).go C n₄ o₄ s₄ _ _ _ hc ho hs₄ (vrs_cons vr_ref (vrs_cons vr₄ vrs_nil)) ?_;rintro _ U₅ H₅ n₅ o₅ s₅ hs₅ le₅ os₅ _ rfl;have e : us.take i ++ [us[i]] = us.take (i + 1) := by
        rw [List.take_add_one,hr]; rfl
      rw [e] at hs₅;refine ⟨vs.length + 1 - (i + 1),by omega,i + 1,_,n₅,o₅,oI₂,oC₃,_,rfl,hlt,c₃.putD hneD hneDC,hR₂,hoC₃,hs₅,Le.trans le' (Le.trans le₂ (Le.trans le₃ (Le.trans le₄ le₅))),os₅.trans (os₄.trans os')⟩
    · obtain rfl : i = vs.length := by omega
      refine G.last C.A ho.handled s' _ _ oI hfz (raw_get hs' hc'.i) hR' fun h₂ he => ?_;obtain ⟨n₂,hs₂,le₂⟩ := raw_out hs' hc'.i he;have cD : Hc.drop it D = some (.list (us.take vs.length)) := (if_neg (Ne.symm hneD)).trans hc'.d;have cC : Hc.drop it CC = some (.raw oC') := (if_neg (Ne.symm hneC)).trans hc'.c;refine ⟨m',hoC'.ns (raw_get hs₂ cC),fun h₃ hsb => ?_⟩;obtain ⟨n₃,hs₃,le₃⟩ := raw_out hs₂ cC hsb.extBut;have cD' : (Hc.drop it).drop CC D = some (.list (us.take vs.length)) := (if_neg hneDC).trans cD;obtain ⟨hs₄,le₄,vr₄⟩ := hs₃.freeze cD';have eH : ((Hc.drop it).drop CC).drop D = H := by
        funext b; unfold MH.drop
        by_cases e1 : b = D
        · rw [if_pos e1,e1,hnD']
        · rw [if_neg e1]
          by_cases e2 : b = CC
          · rw [if_pos e2,e2,hnC']
          · rw [if_neg e2]
            by_cases e3 : b = it
            · rw [if_pos e3,e3,hn]
            · rw [if_neg e3]; exact hc'.o b e3 e1 e2
      rw [eH] at hs₄;rw [← hul,List.take_length] at vr₄;exact hk _ _ _ _ _ _ hs₄ (Le.trans le' (Le.trans le₂ (Le.trans le₃ le₄))) os' vr₄ hq
  exact codeAny_compStart_list (loop _) (hself _ _ _ _ o 0 (raw_get hs₂ c0.i) hR (loop _))
theorem EV_comp_call {fn x : String} {np xp px cp pos : Pos} {iter : Expr} {scope : Scope} {f : Addr} {Q : V→MH→Prop}
    (hclos : ∀ env,closureFor scope env = pure []) (hcell : ∀ y∈scope.names,y.2 ≠ .cell) (hkind : scope.kind = .function)
    (hnames : ∀ y∈scope.names,y.2 = .local→scope.names.lookup y.1 = some .local) (hx : scope.names.lookup (Str.ofString x) = some .local) (hfs : ∀ env v,foldedSetIterable iter env v = pure v)
    (hfk : ∀ CC env,(compEnvC scope [] CC env).kindOf (Str.ofString fn) = some .globalImplicit) (hxk : ∀ CC env,(compEnvC scope [] CC env).kindOf (Str.ofString x) = some .local)
    (hg : W.mg (Str.ofString fn) = some (.ref f)) (hd : (Str.ofString fn == ("__debug__" : Str)) = false) (hxd : (Str.ofString x == ("__debug__" : Str)) = false) (hkeep : keepIn W.K (.ref f) = true)
    {v : V} {us vs : List V} (hv : Srcs v vs) (hz : vs.length < 1000000) (h : EVP W d cs iter l H v)
    (hul : us.length = vs.length) (step : ∀ (i : Nat) (u r : V),vs[i]? = some u→us[i]? = some r→∀ (H' : MH) (Q : V→MH→Prop),Q r H'→CL W d l H' f [u] Q) (hq : Q (.lst us) H) :
    EV W d cs (.ListComp (.Call (.Name (Str.ofString fn) np) [.Name (Str.ofString x) xp] [] cp) [⟨.Name (Str.ofString x) px,iter,[],0⟩] scope pos) l H Q := by
  refine Box.mk ?_;intro C news ow s Qr E hc ho hs hk;rw [eval_ListComp];refine wpAny_comprehension_free (use := none) rfl (hfs _) (hclos _) hkind hnames (h.go C news ow s _ E hc ho hs fun U k vr => ?_);have hs := hs.toks (t := k)
  rcases hv with rfl | rfl
  · obtain ⟨a,n,Vs,rfl,fa,vr⟩ := of_vr_lst vr;refine wpAny_pyIter_list (items := Vs.toArray) ⟨_,fz_at ho hs fa,rfl,n,rfl⟩ ?_;obtain ⟨hn,n₂,o₂,hs₂,le₂⟩ := hs.pushRaw (listItO a 0) rfl;exact comp_engine hc ho hcell hkind hx (hfk · _) (hxk · _) hg hd hxd hkeep (gives_lst (fz := fzS W news ow) fa vr) (fun A s E Qr oI i g hR hq => wpAny_pyIter_listiter ⟨oI,g,hR⟩ hq) hz hs₂ hn ⟨rfl,rfl⟩ le₂ rfl hul step hq hk
  · obtain ⟨a,Vs,rfl,fa,vr⟩ := of_vr_tup vr;refine wpAny_pyIter_tuple (items := Vs.toArray) ⟨_,fz_at ho hs fa,rfl,0,rfl⟩ ?_;obtain ⟨hn,n₂,o₂,hs₂,le₂⟩ := hs.pushRaw (tupItO a 0) rfl;exact comp_engine hc ho hcell hkind hx (hfk · _) (hxk · _) hg hd hxd hkeep (gives_tup (fz := fzS W news ow) fa vr) (fun A s E Qr oI i g hR hq => wpAny_pyIter_tupleiter ⟨oI,g,hR⟩ hq) hz hs₂ hn ⟨rfl,rfl⟩ le₂ rfl hul step hq hk
end
end Mine
end
section
open PySem PySem.W PySem.Calls PyProof.Rows Hd
namespace Mine
structure OwnCls (K : Frag) (D : Addr) : Prop where
  hg : plainGet K D "__class__" = true
  hdct : hasDictIn K D = true
  ha : findIn K (.ref D) "__class__" = some (some (.builtin "object.__class__"))
  hn : specialIn K (.builtin "object.__class__") "__get__" = some (some (.builtin "getset_descriptor.__get__"))
  htk : takesIn K (.builtin "object.__class__") = some true
  hm : mroIn K D (.type "object") = some true
noncomputable def Kinded (W : Wd) : V→Value→Prop
  | .lst _,t => t = .type "list"
  | .tup _,t => t = .type "tuple"
  | .str _,t => t = .type "str"
  | .bool _,t => t = .type "bool"
  | .none,t => t = .type "NoneType"
  | .obj D _ _,t => t = .ref D∧OwnCls W.K D
  | _,_ => False
section
variable {W : Wd} {d : Dx} {cs : Scope} {l : Loc} {H : MH}
theorem kit_of {C : FC} {news : Led} {ow : Own} {s : Shared} {v : V} {U t : Value} (ho : C.Ok W d) (hs : St W C l H news ow s) (vr : VRw W (fzS W news ow) v U) (h : Kinded W v t) :
    ∃ Hp,KitX W.K U t Hp∧Hp s.heap∧U ≠ .builtin "__main__.__loader__#opaque" := by
  cases v with
  | lst vs => obtain ⟨a,n,Vs,rfl,fa,vr⟩ := of_vr_lst vr; cases h; exact ⟨_,kitx_list,⟨_,fz_at ho hs fa,rfl⟩,nofun⟩
  | tup vs => obtain ⟨a,Vs,rfl,fa,vr⟩ := of_vr_tup vr; cases h; exact ⟨_,kitx_tuple,⟨_,fz_at ho hs fa,rfl⟩,nofun⟩
  | str x => obtain ⟨t',rfl⟩ := of_vr_str vr; cases h; exact ⟨_,kitx_str,trivial,nofun⟩
  | bool b => obtain rfl := of_vr_bool vr; cases h; exact ⟨_,kitx_bool,trivial,nofun⟩
  | none => obtain rfl := of_vr_none vr; cases h; exact ⟨_,kitx_none,trivial,nofun⟩
  | obj D ks vs =>
    obtain ⟨y,dx,n,Es,rfl,h1,h2,hkeys,hvs⟩ := of_vr_obj vr;obtain ⟨rfl,o⟩ := h;exact ⟨_,kitx_own o.hg o.hdct o.ha o.hn o.htk o.hm,⟨fz_at ho hs h1,rfl,rfl,fz_at ho hs h2⟩,nofun⟩
  | _ => exact h.elim
theorem CV_isiT {v : V} {t : Value} {T : String} {b : Bool} {Q : V→MH→Prop} (hv : Kinded W v t) (e : kitOne W.K t (.type T) = some b) (hq : Q (.bool b) H) : CV W d cs l H (.builtin "isinstance") [v,.ty T] Q := by
  refine Box.mk ?_;intro C news ow s Qr E Us hc ho hs vr hk;obtain ⟨U,U',rfl,v1,v2⟩ := vrs_two vr;obtain rfl := of_vr_ty v2;obtain ⟨m,F,lr⟩ := hs.fr;obtain ⟨Hp,Z,p,hx⟩ := kit_of ho hs v1 hv;exact kia_one Z (ho.kin.keeps F.keep) p e hx fun tk => hk _ _ H news ow _ hs.toks (Le.refl _) rfl vr_bool hq
theorem CV_isiC {v : V} {t : Value} {D : Addr} {b : Bool} {Q : V→MH→Prop} (hv : Kinded W v t) (e : kitOne W.K t (.ref D) = some b) (hq : Q (.bool b) H) : CV W d cs l H (.builtin "isinstance") [v,.ref D] Q := by
  refine Box.mk ?_;intro C news ow s Qr E Us hc ho hs vr hk;obtain ⟨U,U',rfl,v1,v2⟩ := vrs_two vr;obtain rfl := of_vr_ref v2;obtain ⟨m,F,lr⟩ := hs.fr;obtain ⟨Hp,Z,p,hx⟩ := kit_of ho hs v1 hv;exact kia_one Z (ho.kin.keeps F.keep) p e hx fun tk => hk _ _ H news ow _ hs.toks (Le.refl _) rfl vr_bool hq
theorem CV_isi2 {v : V} {t : Value} {T T' : String} {b : Bool} {Q : V→MH→Prop} (hv : Kinded W v t) (e : kitAny W.K t [.type T,.type T'] = some b) (hq : Q (.bool b) H) : CV W d cs l H (.builtin "isinstance") [v,.tup [.ty T,.ty T']] Q := by
  refine Box.mk ?_;intro C news ow s Qr E Us hc ho hs vr hk;obtain ⟨U,U',rfl,v1,v2⟩ := vrs_two vr;obtain ⟨a,Vs,rfl,fa,vs⟩ := of_vr_tup v2;obtain ⟨X1,X2,rfl,w1,w2⟩ := vrs_two vs;obtain rfl := of_vr_ty w1;obtain rfl := of_vr_ty w2;obtain ⟨m,F,lr⟩ := hs.fr;obtain ⟨Hp,Z,p,hx⟩ := kit_of ho hs v1 hv;exact kia_tup (its := [.type T,.type T']) Z (ho.kin.keeps F.keep) p (fz_at ho hs fa) e hx fun tk => hk _ _ H news ow _ hs.toks (Le.refl _) rfl vr_bool hq
end
mutual
noncomputable def told : T→V
  | .none => .none
  | .bool b => .lst [sv [98,111,111,108],.bool b]
  | .int n => .int n
  | .str x => sv x
  | .lst ts => .lst (tolds ts)
  | .tup ts => .lst (tolds ts)
  | .node k _ ps => .lst [sv k,.lst (tolds ps)]
noncomputable def tolds : List T→List V
  | [] => []
  | t :: ts => told t :: tolds ts
end
theorem tolds_map : ∀ ts : List T,tolds ts = ts.map told
  | [] => rfl
  | t :: ts => by rw [tolds,tolds_map ts]; rfl
noncomputable def T.fits : Nat→T→Prop
  | _,.none => True
  | _,.bool _ => True
  | _,.int _ => False
  | _,.str _ => True
  | k + 1,.lst ts => ts.length < 1000000∧∀ t∈ts,T.fits k t
  | k + 1,.tup ts => ts.length < 1000000∧∀ t∈ts,T.fits k t
  | k + 1,.node _ _ ts => ts.length < 1000000∧∀ t∈ts,T.fits k t
  | _,_ => False
section
variable {w : World} {mb : Str→Option Value} {xt : Led} {n : Nat} {X : Nat→MH→Prop} {l : Loc} {H H₀ : MH} (hb_ : ∀ x : Str,x ≠ "__name__"→mb x = bootBuiltins x)
theorem own31 : OwnCls (W0 w mb xt).K 31 := ⟨by kernel_rfl,by kernel_rfl,by kernel_rfl,by kernel_rfl,by kernel_rfl,by kernel_rfl⟩
theorem k_node : kitOne (W0 w mb xt).K (.ref 31) (.ref 31) = some true := by kernel_rfl
theorem k_lst : kitOne (W0 w mb xt).K (.type "list") (.ref 31) = some false := by kernel_rfl
theorem k_tup : kitOne (W0 w mb xt).K (.type "tuple") (.ref 31) = some false := by kernel_rfl
theorem k_str : kitOne (W0 w mb xt).K (.type "str") (.ref 31) = some false := by kernel_rfl
theorem k_bool : kitOne (W0 w mb xt).K (.type "bool") (.ref 31) = some false := by kernel_rfl
theorem k_none : kitOne (W0 w mb xt).K (.type "NoneType") (.ref 31) = some false := by kernel_rfl
theorem s_lst : kitAny (W0 w mb xt).K (.type "list") [.type "list",.type "tuple"] = some true := by kernel_rfl
theorem s_tup : kitAny (W0 w mb xt).K (.type "tuple") [.type "list",.type "tuple"] = some true := by kernel_rfl
theorem s_str : kitAny (W0 w mb xt).K (.type "str") [.type "list",.type "tuple"] = some false := by kernel_rfl
theorem s_bool : kitAny (W0 w mb xt).K (.type "bool") [.type "list",.type "tuple"] = some false := by kernel_rfl
theorem s_none : kitAny (W0 w mb xt).K (.type "NoneType") [.type "list",.type "tuple"] = some false := by kernel_rfl
theorem b_bool : kitOne (W0 w mb xt).K (.type "bool") (.type "bool") = some true := by kernel_rfl
theorem b_str : kitOne (W0 w mb xt).K (.type "str") (.type "bool") = some false := by kernel_rfl
theorem b_none : kitOne (W0 w mb xt).K (.type "NoneType") (.type "bool") = some false := by kernel_rfl
end
end Mine
end
section
open PySem PySem.W PySem.Calls PyProof.Rows Hd
namespace Mine
section
variable {w : World} {mb : Str→Option Value} {xt : Led} {n : Nat} {X : Nat→MH→Prop} {l : Loc} {H H₀ : MH} (hb_ : ∀ x : Str,x ≠ "__name__"→mb x = bootBuiltins x)
include hb_
theorem told_step {ts : List T} {k : Nat} {ll : Loc} (ih : ∀ t∈ts,∀ (l : Loc) (H : MH) (Q : V→MH→Prop),Q (told t) H→CL (W0 w mb xt) ⟨n + k + 1,X⟩ l H f_law_told [toV t] Q) :
    ∀ (i : Nat) (u r : V),(toVs ts)[i]? = some u→(tolds ts)[i]? = some r→∀ (H' : MH) (Q : V→MH→Prop),Q r H'→CL (W0 w mb xt) ⟨n + k + 1,X⟩ ll H' f_law_told [u] Q := by
  intro i u r h1 h2 H' Q hq;rw [toVs_map,List.getElem?_map] at h1;rw [tolds_map,List.getElem?_map] at h2;obtain ⟨t,ht,rfl⟩ := Option.map_eq_some_iff.mp h1;rw [ht] at h2
  cases h2
  exact ih t (List.mem_of_getElem? ht) _ _ _ hq
theorem told_none {l : Loc} {H : MH} {Q : V→MH→Prop} (hq : Q (told .none) H) : CL (W0 w mb xt) ⟨n + 1,X⟩ l H f_law_told [toV .none] Q := by
  refine CL_def F_law_told rfl ?_;refine EXS_cons ?_;refine EX_if ?_;refine ET_val (fun _ _ => rfl) ?_;refine EV_callb (B_isinstance hb_ (by kernel_rfl)) rfl ?_;refine EA_cons rfl ?_;refine EV_name rfl ?_;refine EA_cons rfl ?_;refine EV_glob (by kernel_rfl) G_Node (by kernel_rfl) vr_ref ?_;refine EA_nil ?_;refine CV_isiC (t := .type "NoneType") rfl k_none ?_;refine ⟨_,rfl,?_⟩;refine ite_go (fun z => nomatch z) (fun _ => ?_);refine EXS_nil ?_;refine EXS_cons ?_;refine EX_if ?_;refine ET_val (fun _ _ => rfl) ?_;refine EV_callb (B_isinstance hb_ (by kernel_rfl)) rfl ?_;refine EA_cons rfl ?_;refine EV_name rfl ?_;refine EA_cons rfl ?_;refine EV_tuple ?_;refine EA_cons rfl ?_;refine EV_bname (B_list hb_ (by kernel_rfl)) ?_;refine EA_cons rfl ?_;refine EV_bname (B_tuple hb_ (by kernel_rfl)) ?_;refine EA_nil ?_;refine lb ?_;refine EA_nil ?_;refine CV_isi2 (t := .type "NoneType") rfl s_none ?_;refine ⟨_,rfl,?_⟩;refine ite_go (fun z => nomatch z) (fun _ => ?_);refine EXS_nil ?_;refine EXS_cons ?_;refine EX_return ?_;refine EV_if ?_;refine ET_val (fun _ _ => rfl) ?_;refine EV_callb (B_isinstance hb_ (by kernel_rfl)) rfl ?_;refine EA_cons rfl ?_;refine EV_name rfl ?_;refine EA_cons rfl ?_;refine EV_bname (B_bool hb_ (by kernel_rfl)) ?_;refine EA_nil ?_;refine CV_isiT (t := .type "NoneType") rfl b_none ?_;refine ⟨_,rfl,?_⟩;refine ite_go (fun z => nomatch z) (fun _ => ?_);refine EV_name rfl ?_;exact hq
theorem told_bool {b : Bool} {l : Loc} {H : MH} {Q : V→MH→Prop} (hq : Q (told (.bool b)) H) : CL (W0 w mb xt) ⟨n + 1,X⟩ l H f_law_told [toV (.bool b)] Q := by
  refine CL_def F_law_told rfl ?_;refine EXS_cons ?_;refine EX_if ?_;refine ET_val (fun _ _ => rfl) ?_;refine EV_callb (B_isinstance hb_ (by kernel_rfl)) rfl ?_;refine EA_cons rfl ?_;refine EV_name rfl ?_;refine EA_cons rfl ?_;refine EV_glob (by kernel_rfl) G_Node (by kernel_rfl) vr_ref ?_;refine EA_nil ?_;refine CV_isiC (t := .type "bool") rfl k_bool ?_;refine ⟨_,rfl,?_⟩;refine ite_go (fun z => nomatch z) (fun _ => ?_);refine EXS_nil ?_;refine EXS_cons ?_;refine EX_if ?_;refine ET_val (fun _ _ => rfl) ?_;refine EV_callb (B_isinstance hb_ (by kernel_rfl)) rfl ?_;refine EA_cons rfl ?_;refine EV_name rfl ?_;refine EA_cons rfl ?_;refine EV_tuple ?_;refine EA_cons rfl ?_;refine EV_bname (B_list hb_ (by kernel_rfl)) ?_;refine EA_cons rfl ?_;refine EV_bname (B_tuple hb_ (by kernel_rfl)) ?_;refine EA_nil ?_;refine lb ?_;refine EA_nil ?_;refine CV_isi2 (t := .type "bool") rfl s_bool ?_;refine ⟨_,rfl,?_⟩;refine ite_go (fun z => nomatch z) (fun _ => ?_);refine EXS_nil ?_;refine EXS_cons ?_;refine EX_return ?_;refine EV_if ?_;refine ET_val (fun _ _ => rfl) ?_;refine EV_callb (B_isinstance hb_ (by kernel_rfl)) rfl ?_;refine EA_cons rfl ?_;refine EV_name rfl ?_;refine EA_cons rfl ?_;refine EV_bname (B_bool hb_ (by kernel_rfl)) ?_;refine EA_nil ?_;refine CV_isiT (t := .type "bool") rfl b_bool ?_;refine ⟨_,rfl,?_⟩;refine ite_go (fun _ => ?_) (fun z => nomatch z);refine EV_listF ?_;refine EA_cons rfl ?_;refine EV_strS (c := [98,111,111,108]) (by kernel_rfl) ?_;refine EA_cons rfl ?_;refine EV_name rfl ?_;refine EA_nil ?_;refine lb ?_;exact hq
theorem told_str {x : List Nat} {l : Loc} {H : MH} {Q : V→MH→Prop} (hq : Q (told (.str x)) H) : CL (W0 w mb xt) ⟨n + 1,X⟩ l H f_law_told [toV (.str x)] Q := by
  refine CL_def F_law_told rfl ?_;refine EXS_cons ?_;refine EX_if ?_;refine ET_val (fun _ _ => rfl) ?_;refine EV_callb (B_isinstance hb_ (by kernel_rfl)) rfl ?_;refine EA_cons rfl ?_;refine EV_name rfl ?_;refine EA_cons rfl ?_;refine EV_glob (by kernel_rfl) G_Node (by kernel_rfl) vr_ref ?_;refine EA_nil ?_;refine CV_isiC (t := .type "str") rfl k_str ?_;refine ⟨_,rfl,?_⟩;refine ite_go (fun z => nomatch z) (fun _ => ?_);refine EXS_nil ?_;refine EXS_cons ?_;refine EX_if ?_;refine ET_val (fun _ _ => rfl) ?_;refine EV_callb (B_isinstance hb_ (by kernel_rfl)) rfl ?_;refine EA_cons rfl ?_;refine EV_name rfl ?_;refine EA_cons rfl ?_;refine EV_tuple ?_;refine EA_cons rfl ?_;refine EV_bname (B_list hb_ (by kernel_rfl)) ?_;refine EA_cons rfl ?_;refine EV_bname (B_tuple hb_ (by kernel_rfl)) ?_;refine EA_nil ?_;refine lb ?_;refine EA_nil ?_;refine CV_isi2 (t := .type "str") rfl s_str ?_;refine ⟨_,rfl,?_⟩;refine ite_go (fun z => nomatch z) (fun _ => ?_);refine EXS_nil ?_;refine EXS_cons ?_;refine EX_return ?_;refine EV_if ?_;refine ET_val (fun _ _ => rfl) ?_;refine EV_callb (B_isinstance hb_ (by kernel_rfl)) rfl ?_;refine EA_cons rfl ?_;refine EV_name rfl ?_;refine EA_cons rfl ?_;refine EV_bname (B_bool hb_ (by kernel_rfl)) ?_;refine EA_nil ?_;refine CV_isiT (t := .type "str") rfl b_str ?_;refine ⟨_,rfl,?_⟩;refine ite_go (fun z => nomatch z) (fun _ => ?_);refine EV_name rfl ?_;exact hq
theorem told_lst {ts : List T} {k : Nat} (ht : ts.length < 1000000∧∀ t∈ts,T.fits k t) (ih : ∀ (t : T),T.fits k t→∀ (l : Loc) (H : MH) (Q : V→MH→Prop),Q (told t) H→CL (W0 w mb xt) ⟨n + k + 1,X⟩ l H f_law_told [toV t] Q) {l : Loc} {H : MH} {Q : V→MH→Prop} (hq : Q (told (.lst ts)) H) : CL (W0 w mb xt) ⟨n + k + 2,X⟩ l H f_law_told [toV (.lst ts)] Q := by
  refine CL_def F_law_told rfl ?_;refine EXS_cons ?_;refine EX_if ?_;refine ET_val (fun _ _ => rfl) ?_;refine EV_callb (B_isinstance hb_ (by kernel_rfl)) rfl ?_;refine EA_cons rfl ?_;refine EV_name rfl ?_;refine EA_cons rfl ?_;refine EV_glob (by kernel_rfl) G_Node (by kernel_rfl) vr_ref ?_;refine EA_nil ?_;refine CV_isiC (t := .type "list") rfl k_lst ?_;refine ⟨_,rfl,?_⟩;refine ite_go (fun z => nomatch z) (fun _ => ?_);refine EXS_nil ?_;refine EXS_cons ?_;refine EX_if ?_;refine ET_val (fun _ _ => rfl) ?_;refine EV_callb (B_isinstance hb_ (by kernel_rfl)) rfl ?_;refine EA_cons rfl ?_;refine EV_name rfl ?_;refine EA_cons rfl ?_;refine EV_tuple ?_;refine EA_cons rfl ?_;refine EV_bname (B_list hb_ (by kernel_rfl)) ?_;refine EA_cons rfl ?_;refine EV_bname (B_tuple hb_ (by kernel_rfl)) ?_;refine EA_nil ?_;refine lb ?_;refine EA_nil ?_;refine CV_isi2 (t := .type "list") rfl s_lst ?_;refine ⟨_,rfl,?_⟩;refine ite_go (fun _ => ?_) (fun z => nomatch z);refine EXS_cons ?_;refine EX_return ?_;refine EV_comp_call (us := tolds ts) (vs := toVs ts) (fun _ => rfl) (by decide +kernel) (by kernel_rfl) (by decide +kernel) (by kernel_rfl) (fun _ _ => rfl) (fun _ _ => rfl) (fun _ _ => rfl) G_law_told (by kernel_rfl) (by kernel_rfl) Gk_law_told (.inl rfl) (by rw [toVs_map,List.length_map]; exact ht.1) (EVP_name rfl (by kernel_rfl) (by kernel_rfl)) (by rw [tolds_map,toVs_map,List.length_map,List.length_map]) (told_step hb_ fun t h => ih t (ht.2 t h)) ?_;exact hq
theorem told_tup {ts : List T} {k : Nat} (ht : ts.length < 1000000∧∀ t∈ts,T.fits k t) (ih : ∀ (t : T),T.fits k t→∀ (l : Loc) (H : MH) (Q : V→MH→Prop),Q (told t) H→CL (W0 w mb xt) ⟨n + k + 1,X⟩ l H f_law_told [toV t] Q) {l : Loc} {H : MH} {Q : V→MH→Prop} (hq : Q (told (.tup ts)) H) : CL (W0 w mb xt) ⟨n + k + 2,X⟩ l H f_law_told [toV (.tup ts)] Q := by
  refine CL_def F_law_told rfl ?_;refine EXS_cons ?_;refine EX_if ?_;refine ET_val (fun _ _ => rfl) ?_;refine EV_callb (B_isinstance hb_ (by kernel_rfl)) rfl ?_;refine EA_cons rfl ?_;refine EV_name rfl ?_;refine EA_cons rfl ?_;refine EV_glob (by kernel_rfl) G_Node (by kernel_rfl) vr_ref ?_;refine EA_nil ?_;refine CV_isiC (t := .type "tuple") rfl k_tup ?_;refine ⟨_,rfl,?_⟩;refine ite_go (fun z => nomatch z) (fun _ => ?_);refine EXS_nil ?_;refine EXS_cons ?_;refine EX_if ?_;refine ET_val (fun _ _ => rfl) ?_;refine EV_callb (B_isinstance hb_ (by kernel_rfl)) rfl ?_;refine EA_cons rfl ?_;refine EV_name rfl ?_;refine EA_cons rfl ?_;refine EV_tuple ?_;refine EA_cons rfl ?_;refine EV_bname (B_list hb_ (by kernel_rfl)) ?_;refine EA_cons rfl ?_;refine EV_bname (B_tuple hb_ (by kernel_rfl)) ?_;refine EA_nil ?_;refine lb ?_;refine EA_nil ?_;refine CV_isi2 (t := .type "tuple") rfl s_tup ?_;refine ⟨_,rfl,?_⟩;refine ite_go (fun _ => ?_) (fun z => nomatch z);refine EXS_cons ?_;refine EX_return ?_;refine EV_comp_call (us := tolds ts) (vs := toVs ts) (fun _ => rfl) (by decide +kernel) (by kernel_rfl) (by decide +kernel) (by kernel_rfl) (fun _ _ => rfl) (fun _ _ => rfl) (fun _ _ => rfl) G_law_told (by kernel_rfl) (by kernel_rfl) Gk_law_told (.inr rfl) (by rw [toVs_map,List.length_map]; exact ht.1) (EVP_name rfl (by kernel_rfl) (by kernel_rfl)) (by rw [tolds_map,toVs_map,List.length_map,List.length_map]) (told_step hb_ fun t h => ih t (ht.2 t h)) ?_;exact hq
theorem told_node {ts : List T} {k : Nat} (ht : ts.length < 1000000∧∀ t∈ts,T.fits k t) (ih : ∀ (t : T),T.fits k t→∀ (l : Loc) (H : MH) (Q : V→MH→Prop),Q (told t) H→CL (W0 w mb xt) ⟨n + k + 1,X⟩ l H f_law_told [toV t] Q) {kd : List Nat} {m : Nat} {l : Loc} {H : MH} {Q : V→MH→Prop} (hq : Q (told (.node kd m ts)) H) : CL (W0 w mb xt) ⟨n + k + 2,X⟩ l H f_law_told [toV (.node kd m ts)] Q := by
  refine CL_def F_law_told rfl ?_;refine EXS_cons ?_;refine EX_if ?_;refine ET_val (fun _ _ => rfl) ?_;refine EV_callb (B_isinstance hb_ (by kernel_rfl)) rfl ?_;refine EA_cons rfl ?_;refine EV_name rfl ?_;refine EA_cons rfl ?_;refine EV_glob (by kernel_rfl) G_Node (by kernel_rfl) vr_ref ?_;refine EA_nil ?_;refine CV_isiC (t := .ref 31) ⟨rfl,own31⟩ k_node ?_;refine ⟨_,rfl,?_⟩;refine ite_go (fun _ => ?_) (fun z => nomatch z);refine EXS_cons ?_;refine EX_return ?_;refine EV_listF ?_;refine EA_cons rfl ?_;refine EV_attr (fun _ => rfl) ?_;refine EV_name rfl ?_;refine T1_attrF rfl rfl A_Node_kind ?_;refine EA_cons rfl ?_;refine EV_comp_call (us := tolds ts) (vs := toVs ts) (fun _ => rfl) (by decide +kernel) (by kernel_rfl) (by decide +kernel) (by kernel_rfl) (fun _ _ => rfl) (fun _ _ => rfl) (fun _ _ => rfl) G_law_told (by kernel_rfl) (by kernel_rfl) Gk_law_told (.inl rfl) (by rw [toVs_map,List.length_map]; exact ht.1) (EVP_attrF (fun _ => rfl) (EVP_name rfl (by kernel_rfl) (by kernel_rfl)) rfl rfl A_Node_parts) (by rw [tolds_map,toVs_map,List.length_map,List.length_map]) (told_step hb_ fun t h => ih t (ht.2 t h)) ?_;refine EA_nil ?_;refine lb ?_;exact hq
theorem told_ : ∀ (k : Nat) (t : T),T.fits k t→∀ (l : Loc) (H : MH) (Q : V→MH→Prop),Q (told t) H→CL (W0 w mb xt) ⟨n + k + 1,X⟩ l H f_law_told [toV t] Q
  | k,.none,_,l,H,Q,hq => told_none (n := n + k) hb_ hq
  | k,.bool b,_,l,H,Q,hq => told_bool (n := n + k) hb_ hq
  | k,.str x,_,l,H,Q,hq => told_str (n := n + k) hb_ hq
  | k,.int x,h,l,H,Q,hq => by unfold T.fits at h; exact h.elim
  | 0,.lst ts,h,l,H,Q,hq => h.elim
  | 0,.tup ts,h,l,H,Q,hq => h.elim
  | 0,.node _ _ ts,h,l,H,Q,hq => h.elim
  | k + 1,.lst ts,h,l,H,Q,hq => told_lst hb_ h (fun t h l H Q hq => told_ k t h l H Q hq) hq
  | k + 1,.tup ts,h,l,H,Q,hq => told_tup hb_ h (fun t h l H Q hq => told_ k t h l H Q hq) hq
  | k + 1,.node _ _ ts,h,l,H,Q,hq => told_node hb_ h (fun t h l H Q hq => told_ k t h l H Q hq) hq
end
end Mine
end
section
open PySem PySem.W PySem.Calls PyProof.Rows Hd
namespace Mine
mutual
noncomputable def toP : V→PyData
  | .bool b => .bool b
  | .int i => .int i
  | .str x => .str x
  | .lst vs => .list (toPs vs)
  | .tup vs => .tuple (toPs vs)
  | _ => .none
noncomputable def toPs : List V→List PyData
  | [] => []
  | v :: vs => toP v :: toPs vs
end
noncomputable def V.eqok : Nat→V→Prop
  | _,.none => True
  | _,.bool _ => True
  | _,.int _ => True
  | _,.str x => PyData.strOk x = true
  | k + 1,.lst vs => ∀ v∈vs,V.eqok k v
  | k + 1,.tup vs => ∀ v∈vs,V.eqok k v
  | _,_ => False
theorem reads_list {P : Params} {fz : Fz} {h : Heap} {q : V→Prop} (ih : ∀ (v : V) (U : Value),q v→VR P fz v U→∃ as,Reads h U (toP v) as) : ∀ (vs : List V) (Us : List Value),(∀ v∈vs,q v)→VRs P fz vs Us→∃ as,ReadsAll h Us (toPs vs) as
  | [],[],_,_ => ⟨_,.nil⟩
  | v :: vs,U :: Us,hq,vr => by
    obtain ⟨as,a⟩ := ih v U (hq v (.head _)) vr.1;obtain ⟨bs,b⟩ := reads_list ih vs Us (fun x hx => hq x (.tail _ hx)) vr.2;exact ⟨_,.cons a b⟩
  | [],_ :: _,_,vr => vr.elim
  | _ :: _,[],_,vr => vr.elim
theorem eqok_reads {P : Params} {fz : Fz} {h : Heap} (hf : ∀ a o,fz a o→h.get? a = some o) : ∀ (k : Nat) (v : V) (U : Value),V.eqok k v→VR P fz v U→∃ as,Reads h U (toP v) as
  | k,.none,U,_,vr => by obtain rfl := of_vr_none vr; exact ⟨_,.none⟩
  | k,.bool b,U,_,vr => by obtain rfl := of_vr_bool vr; exact ⟨_,.bool b⟩
  | k,.int i,U,_,vr => by obtain ⟨t,rfl⟩ := of_vr_int vr; exact ⟨_,.int i t⟩
  | k,.str x,U,_,vr => by obtain ⟨t,rfl⟩ := of_vr_str vr; exact ⟨_,.str x t⟩
  | k + 1,.lst vs,U,hq,vr => by
    obtain ⟨a,n,Vs,rfl,fa,vr⟩ := of_vr_lst vr;obtain ⟨as,r⟩ := reads_list (q := V.eqok k) (fun v U => eqok_reads hf k v U) vs Vs hq vr;exact ⟨_,reads_list_at (hf _ _ fa) rfl rfl (by simpa using r)⟩
  | k + 1,.tup vs,U,hq,vr => by
    obtain ⟨a,Vs,rfl,fa,vr⟩ := of_vr_tup vr;obtain ⟨as,r⟩ := reads_list (q := V.eqok k) (fun v U => eqok_reads hf k v U) vs Vs hq vr;exact ⟨_,reads_tuple_at (hf _ _ fa) rfl rfl (by simpa using r)⟩
  | 0,.lst vs,U,hq,vr => hq.elim
  | 0,.tup vs,U,hq,vr => hq.elim
  | k,.ref a,U,hq,vr => by simp [V.eqok] at hq
  | k,.bi a,U,hq,vr => by simp [V.eqok] at hq
  | k,.ty a,U,hq,vr => by simp [V.eqok] at hq
  | k,.dct ks vs,U,hq,vr => by simp [V.eqok] at hq
  | k,.obj C ks vs,U,hq,vr => by simp [V.eqok] at hq
theorem lay_list {k : Nat} {q : V→Prop} (ih : ∀ v : V,q v→(toP v).canLay0 = true∧(toP v).depth ≤ k∧PyData.eqv (toP v) (toP v) = true) : ∀ vs : List V,(∀ v∈vs,q v)→PyData.canLayAll0 (toPs vs) = true∧PyData.depthAll (toPs vs) ≤ k∧PyData.eqvAll (toPs vs) (toPs vs) = true
  | [],_ => by unfold toPs PyData.canLayAll0 PyData.depthAll PyData.eqvAll; exact ⟨rfl,Nat.zero_le _,rfl⟩
  | v :: vs,hq => by
    obtain ⟨a1,a2,a3⟩ := ih v (hq v (.head _));obtain ⟨b1,b2,b3⟩ := lay_list ih vs (fun x hx => hq x (.tail _ hx));unfold toPs PyData.canLayAll0 PyData.depthAll PyData.eqvAll;rw [a1,b1,a3,b3];exact ⟨rfl,Nat.max_le.mpr ⟨a2,b2⟩,rfl⟩
theorem eqok_lay : ∀ (k : Nat) (v : V),V.eqok k v→(toP v).canLay0 = true∧(toP v).depth ≤ k∧PyData.eqv (toP v) (toP v) = true
  | k,.none,_ => by simp [toP,PyData.canLay0,PyData.depth,PyData.eqv]
  | k,.bool b,_ => by simp [toP,PyData.canLay0,PyData.depth,PyData.eqv]
  | k,.int i,_ => by simp [toP,PyData.canLay0,PyData.depth,PyData.eqv]
  | k,.str x,h => by
    unfold V.eqok at h;simp [toP,PyData.canLay0,PyData.depth,PyData.eqv,h]
  | k + 1,.lst vs,hq => by
    obtain ⟨a,b,c⟩ := lay_list (q := V.eqok k) (fun v => eqok_lay k v) vs hq;unfold toP PyData.canLay0 PyData.depth PyData.eqv;exact ⟨a,Nat.succ_le_succ b,c⟩
  | k + 1,.tup vs,hq => by
    obtain ⟨a,b,c⟩ := lay_list (q := V.eqok k) (fun v => eqok_lay k v) vs hq;unfold toP PyData.canLay0 PyData.depth PyData.eqv;exact ⟨a,Nat.succ_le_succ b,c⟩
  | 0,.lst vs,hq => hq.elim
  | 0,.tup vs,hq => hq.elim
  | k,.ref a,hq => by simp [V.eqok] at hq
  | k,.bi a,hq => by simp [V.eqok] at hq
  | k,.ty a,hq => by simp [V.eqok] at hq
  | k,.dct ks vs,hq => by simp [V.eqok] at hq
  | k,.obj C ks vs,hq => by simp [V.eqok] at hq
section
variable {W : Wd} {cs : Scope} {l : Loc} {H : MH} {n : Nat} {X : Nat→MH→Prop}
theorem T2_eq_same {v v' : V} {k : Nat} {Q : V→MH→Prop} (e : v = v') (hv : V.eqok k v) (hk : k ≤ 64) (hq : Q (.bool true) H) : T2 W ⟨n + 1,X⟩ cs l H v v' (compareOp .Eq) Q := by
  subst e;refine Box.mk ?_;intro C news ow s Qr E U U' hc ho hs v1 v2 hk';obtain ⟨as,ra⟩ := eqok_reads (fun a o z => fz_at ho hs z) k v U hv v1;obtain ⟨bs,rb⟩ := eqok_reads (fun a o z => fz_at ho hs z) k v U' hv v2;obtain ⟨a,b,c⟩ := eqok_lay k v hv;have sh : SeqAt.shaped (toP v) = true := by
    unfold SeqAt.shaped;rw [a,Bool.true_and,decide_eq_true_iff]; omega
  refine eq_dataH ra rb sh sh (by have : C.A.units + 20 * (n + 1) + 60 ≤ 9900 := ho.units; show _ < 9900; omega) ?_;rw [c];exact hk' _ _ H news ow _ hs (Le.refl _) rfl vr_bool hq
end
noncomputable def PlainLaw : Prop := ∀ (text : List Nat) (due : List V),RowsR 2 text due→TxtOk text∧∃ t,P.parse 100 text = .ok t∧T.fits 60 t∧told t = nd [80,114,111,103,114,97,109] [.lst due,.lst [sv [98,111,111,108],.bool false]]∧(told t).eqok 64
section
variable {w : World} {mb : Str→Option Value} {xt : Led} {n : Nat} {X : Nat→MH→Prop} {l : Loc} {H H₀ : MH} (hb_ : ∀ x : Str,x ≠ "__name__"→mb x = bootBuiltins x)
include hb_
theorem law_body_ (hL : PlainLaw) {ns : List Int} (hns : ns.length < 1000000) : EXS (W0 w mb xt) ⟨113,X⟩ lawD.scope lawD.body [("script",.lst (ns.map .int))] H (fun f _ _ => f = .ret (.bool true)) := by
  have hl24 : (ns.map V.int).length < 1000000 := by rw [List.length_map]; exact hns
  refine EXS_cons ?_;refine EXa ?_;refine EV_int ?_;refine EXS_cons ?_;refine EX_for (fun i l' H' => ∃ sd : Int,LSub (["script","seed"].zip [.lst (ns.map .int),.int sd]) l'∧0 ≤ sd∧sd < 2147483647) (fun _ _ => rfl) (by kernel_rfl) ?_;refine EV_slice_to ?_;refine EV_name rfl ?_;refine EV_int ?_;refine ⟨_,24,rfl,rfl,hl24,?_⟩;refine ⟨_,.inl rfl,⟨77,LSub_cons rfl (LSub_cons rfl LSub_nil),by decide,by decide⟩,?_,?_⟩
  · rintro i u l H it o hu ⟨sd,hsub,s0,s1⟩ hit;obtain ⟨one,rfl⟩ : ∃ one,u = .int one := by
      rw [← List.map_take,List.getElem?_map] at hu;obtain ⟨t,_,rfl⟩ := Option.map_eq_some_iff.mp hu;exact ⟨t,rfl⟩
    refine EXS_loc (LSub.set hsub) ?_;refine EXS_cons ?_;refine EXa ?_;refine EV_bin ?_;refine EV_bin ?_;refine EV_bin ?_;refine EV_name rfl ?_;refine EV_int ?_;refine T2_mul_int (IntMulOk.of_right (by decide +kernel)) ?_;refine EV_name rfl ?_;refine T2_add_int ?_;refine EV_int ?_;refine T2_mod_int (by decide) ?_;refine EXS_nil ?_;exact ⟨put_self,_,LSub_cons rfl (LSub_cons rfl LSub_nil),(fmod_pos (by decide)).1,(fmod_pos (by decide)).2⟩
  rintro l H ⟨sd,hsub,s0,s1⟩;refine EXS_loc hsub ?_;refine EXS_cons ?_;refine EX_unpackS (xs := ["box","text","due"]) (fun _ => rfl) (by intros; kernel_rfl) (by decide +kernel) ?_;refine EV_tuple ?_;refine EA_cons rfl ?_;refine EV_listM ?_;refine EA_cons rfl ?_;refine EV_callt (B_list hb_ (by kernel_rfl)) rfl ?_;refine EA_cons rfl ?_;refine EV_slice_to ?_;refine EV_name rfl ?_;refine EV_int ?_;refine ⟨_,24,rfl,rfl,hl24,?_⟩;refine EA_nil ?_;refine CV_listM rfl (by rw [List.length_take]; omega) fun b0 hb0 => ?_;refine EA_cons rfl ?_;refine EV_name rfl ?_;refine EA_nil ?_;refine ⟨Nat.le_of_ble_eq_true (by kernel_rfl),fun box hbox => ?_⟩;have hB : BoxInv box b0 ((H.put b0 (.list ((ns.map .int).take 24))).put box (.list [.ref b0,.int sd])) := by
    have ne : box ≠ b0 := fun z => by rw [z,put_self] at hbox; cases hbox
    refine ⟨ne,ns.take 24,sd,put_self,?_,s0,s1,by rw [List.length_take]; omega⟩;rw [put_ne (Ne.symm ne),put_self,List.map_take]
  generalize (H.put b0 (.list ((ns.map .int).take 24))).put box (.list [.ref b0,.int sd]) = H at hB ⊢
  refine EA_cons rfl ?_;refine EV_strS (c := []) (by kernel_rfl) ?_;refine EA_cons rfl ?_;refine EV_listF ?_;refine EA_nil ?_;refine lb ?_;refine EA_nil ?_;refine lb ?_;refine ⟨_,rfl,rfl,?_⟩;refine EXS_cons ?_;refine EX_for_range (fun i l' H' => ∃ t us,LSub (["box","text","due"].zip [.ref box,sv t,.lst us]) l'∧RowsR i t us∧BoxInv box b0 H') (B_range hb_ (by kernel_rfl)) rfl (by kernel_rfl) ?_;refine EV_int ?_;refine ⟨2,rfl,by decide,⟨[],[],LSub_cons rfl (LSub_cons rfl (LSub_cons rfl LSub_nil)),.nil,hB⟩,?_,?_⟩
  · rintro i l H it o hi ⟨t,us,hsub,hR,hB⟩ hit;have ni := hB.ni hit;have hB := hB.put (o := .raw o) ni;have hs : H.put it (.raw o) it = some (.raw o) := put_self;have lt := hR.len
    generalize H.put it (.raw o) = H at hB hs ⊢
    refine EXS_loc (LSub.set hsub) ?_;refine EXS_cons ?_;refine EX_unpack (xs := ["told","trees"]) (fun _ => rfl) (by intros; kernel_rfl) (fun _ => ⟨fun _ _ _ _ _ _ h => wpAny_assign_Name h,fun _ _ _ _ _ _ h => wpAny_assign_Name h,trivial⟩) (fun _ => rfl) (by decide +kernel) ?_;refine EV_callg (by kernel_rfl) G_law_row (by kernel_rfl) Gk_law_row rfl ?_;refine EA_pe (PEs_cons PE_name PEs_nil) ?_;refine CV_of_CL ?_;refine law_row_ (n := 103) hb_ hB fun t2 vs H hr hB hx => ?_;refine ⟨_,rfl,rfl,?_⟩;have lr := hr.len;have hs := hx _ _ ni hs;refine EXS_cons ?_;refine EX_unpackS (xs := ["text","due"]) (fun _ => rfl) (by intros; kernel_rfl) (by decide +kernel) ?_;refine EV_tuple ?_;refine EA_cons rfl ?_;refine EV_bin ?_;refine EV_bin ?_;refine EV_name rfl ?_;refine EV_name rfl ?_;refine Tll ?_;refine EV_callg (by kernel_rfl) G_law_pick (by kernel_rfl) Gk_law_pick rfl ?_;refine EA_pe (PEs_cons PE_name (PEs_cons (PE_list (PEs_cons (PE_str (c := [10]) (by kernel_rfl)) (PEs_cons (PE_str (c := [32]) (by kernel_rfl)) (PEs_cons (PE_str (c := [32,47,47,32,47,120,47,10]) (by kernel_rfl)) PEs_nil)))) PEs_nil)) ?_;refine CV_of_CL ?_;refine law_pick_ (n := 111) hb_ hB (vs := ends.map sv) (by decide +kernel) (by decide +kernel) fun v2 H hv hB hx => ?_;obtain ⟨e,he,rfl⟩ := List.mem_map.mp hv;have le := mem_len (m := 9) (by decide +kernel) he;have hs := hx _ _ ni hs;refine Tll ?_;refine EA_cons rfl ?_;refine EV_bin ?_;refine EV_name rfl ?_;refine EV_name rfl ?_;refine T2_add_lst (by first | omega | (simp only [List.length_append,List.length_cons,List.length_nil]; omega)) ?_;refine EA_nil ?_;refine lb ?_;refine ⟨_,rfl,rfl,?_⟩;refine EXS_nil ?_;exact ⟨hs,_,_,LSub_cons rfl (LSub_cons rfl (LSub_cons rfl LSub_nil)),.snoc hR hr he,hB.drop ni⟩
  rintro l H ⟨text,due,hsub,hR,hB⟩;obtain ⟨hT,t,hp,hf,ht,hq⟩ := hL _ _ hR;refine EXS_loc hsub ?_;refine EXS_cons ?_;refine EX_return ?_;refine EV_cmp rfl ?_;refine EV_callg (by kernel_rfl) G_law_told (by kernel_rfl) Gk_law_told rfl ?_;refine EA_cons rfl ?_;refine EV_callg (by kernel_rfl) G_parse (by kernel_rfl) Gk_parse rfl ?_;refine EA_pe (PEs_cons PE_name PEs_nil) ?_;refine CV_of_CL ?_;refine parse_ (n := 100) hb_ hT ?_;rw [hp];intro H' _ _;refine EA_nil ?_;refine CV_of_CL ?_;refine told_ (n := 52) hb_ 60 t hf _ _ _ ?_;refine EV_pe (PE_list (PEs_cons (PE_str (c := [80,114,111,103,114,97,109]) (by kernel_rfl)) (PEs_cons (PE_list (PEs_cons PE_name (PEs_cons (PE_list (PEs_cons (PE_str (c := [98,111,111,108]) (by kernel_rfl)) (PEs_cons PE_bool PEs_nil))) PEs_nil))) PEs_nil))) ?_;refine T2_eq_same ht hq (by decide) ?_;rfl
end
end Mine
end
section
open PySem PySem.W PySem.Calls PyProof.Rows Hd
namespace Mine
theorem skipB_line : ∀ (n : Nat) (s s' : Lx),P.skipB n s = .ok s'→s.line ≤ s'.line
  | 0,_,_,h => by cases h
  | n + 1,s,s',h => by
    unfold P.skipB at h
    split at h
    · exact Nat.le_trans (Nat.le_succ _) (skipB_line n _ _ h)
    · split at h
      · have := skipB_line n _ _ h; exact this
      · split at h
        · have := skipB_line n _ _ h; exact this
        · split at h
          · cases h
          · cases h; exact Nat.le_refl _
noncomputable def TokAt (r : List Nat) (k : KD) (v st r' : List Nat) (bl : Bool) : Prop :=
  ∀ line,∃ line',P.next ⟨r,line⟩ = .ok (⟨k,v,[],0,line',bl,st,r',false,true⟩,⟨r',line'⟩)
theorem TokAt.blank {r : List Nat} {k : KD} {v st r' : List Nat} {bl : Bool} (h : TokAt r k v st r' bl) : TokAt (32 :: r) k v st r' bl := h
theorem ite_map {α β : Type} {c : Prop} {ic : Decidable c} {a b : Res α} {f : α→Res β} {a' b' : Res β} (h : a.bind f = a') (h' : b.bind f = b') : (if c then a else b).bind f = if c then a' else b' := by
  by_cases z : c
  · rw [if_pos z,if_pos z]; exact h
  · rw [if_neg z,if_neg z]; exact h'
theorem bind_map {α β γ : Type} {m m' : Res α} {k : α→Res β} {f : β→Res γ} {g : α→Res α} {k' : α→Res γ} (h : m.bind g = m') (e : ∀ a,(k a).bind f = (g a).bind k') : (m.bind k).bind f = m'.bind k' := by
  subst h
  cases m with
  | ok a => exact e a
  | fail n => rfl
  | out => rfl
theorem nextAt_map (s : Lx) (line : Nat) (b : Bool) (st : List Nat) : P.nextAt s (P.tk0 line b st) = (P.nextAt s (P.tk0 line false st)).bind fun p => .ok ({ p.1 with bl := b },p.2) := by
  unfold P.nextAt;refine Eq.symm (ite_map ?_ ?_)
  · rfl
  refine ite_map ?_ ?_
  · unfold P.readName;refine bind_map (g := fun p => .ok (p.1,(p.2.1,{ p.2.2 with bl := b }))) (ite_map ?_ (ite_map ?_ ?_)) fun a => ?_ <;> rfl
  refine ite_map ?_ ?_
  · rfl
  refine ite_map ?_ ?_
  · rfl
  unfold P.readPunct
  cases P.punctAt s.rest <;> rfl
theorem TokAt.nl {r : List Nat} {k : KD} {v st r' : List Nat} {bl : Bool} (h : TokAt r k v st r' bl) : TokAt (10 :: r) k v st r' true := by
  intro line;obtain ⟨l',h⟩ := h (line + 1);refine ⟨l',?_⟩;have e : P.skip ⟨10 :: r,line⟩ = (P.skipB (r.length + 1) ⟨r,line + 1⟩).bind fun s => .ok (decide (line < s.line),s) := rfl;have e' : P.skip ⟨r,line + 1⟩ = (P.skipB (r.length + 1) ⟨r,line + 1⟩).bind fun s => .ok (decide (line + 1 < s.line),s) := rfl;unfold P.next at h ⊢;rw [e];rw [e'] at h
  cases q : P.skipB (r.length + 1) ⟨r,line + 1⟩ with
  | fail n => rw [q] at h; cases h
  | out => rw [q] at h; cases h
  | ok s =>
    rw [q] at h;have hl : line + 1 ≤ s.line := skipB_line _ _ _ q;have hb : decide (line < s.line) = true := decide_eq_true (by omega);show P.nextAt s (P.tk0 s.line (decide (line < s.line)) s.rest) = _;rw [hb,nextAt_map];have h : P.nextAt s (P.tk0 s.line (decide (line + 1 < s.line)) s.rest) = _ := h;rw [nextAt_map] at h
    cases q2 : P.nextAt s (P.tk0 s.line false s.rest) with
    | fail n => rw [q2] at h; cases h
    | out => rw [q2] at h; cases h
    | ok p =>
      rw [q2] at h;exact congrArg (fun z : Tk × Lx => Res.ok ({ z.1 with bl := true },z.2)) (Res.ok.inj h)
noncomputable def NoId (r : List Nat) : Prop := P.isIdPart (P.code r) = false∧P.code r ≠ 92
theorem idPart_no {r : List Nat} (h : NoId r) : P.idPart r = ([],r) := by
  cases r with
  | nil => rfl
  | cons c r =>
    unfold P.idPart;rw [if_neg (by have : P.isIdPart (c : Int) = false := h.1; rw [this]; exact Bool.false_ne_true)]
theorem idPart_ap : ∀ (x : List Nat) {r : List Nat},x.all (fun c => P.isIdPart (c : Int)) = true→NoId r→P.idPart (x ++ r) = (x,r)
  | [],r,_,h => idPart_no h
  | c :: x,r,hx,h => by
    rw [List.all_cons,Bool.and_eq_true] at hx;show P.idPart (c :: (x ++ r)) = _;unfold P.idPart;rw [if_pos hx.1,idPart_ap x hx.2 h]
theorem tok_word {c : Nat} {x r : List Nat} (hc : P.isIdStart (c : Int) = true) (hx : x.all (fun c => P.isIdPart (c : Int)) = true) (hr : NoId r) : TokAt (c :: (x ++ r)) (if P.isIn (c :: x) P.keywords then .keyword else .name) (c :: x) (c :: (x ++ r)) r false := by
  intro line;refine ⟨line,?_⟩;have hi : P.isIdPart (c : Int) = true := by unfold P.isIdPart; rw [hc]; rfl
  have hid : P.idPart (c :: (x ++ r)) = (c :: x,r) := idPart_ap (c :: x) (by rw [List.all_cons,hi,hx]; rfl) hr;have hc' : (65 ≤ c∧c ≤ 122) ∨ c = 36 := by
    unfold P.isIdStart at hc;simp only [Bool.or_eq_true,Bool.and_eq_true,decide_eq_true_eq,beq_iff_eq] at hc;omega
  have s12 : P.isLineEnd (c : Int) = false∧P.isWhite (c : Int) = false := by
    have key : ∀ c : Nat,c < 123→(65 ≤ c ∨ c = 36)→P.isLineEnd (c : Int) = false∧P.isWhite (c : Int) = false := by decide +kernel
    exact key c (by omega) (by omega)
  obtain ⟨s1,s2⟩ := s12;have s3 : ((c :: (x ++ r)).take 2 == [47,47]) = false := by
    rw [beq_eq_false_iff_ne];intro z;have := congrArg (List.head? ·) z;simp at this;omega
  have s4 : ((c :: (x ++ r)).take 2 == [47,42]) = false := by
    rw [beq_eq_false_iff_ne];intro z;have := congrArg (List.head? ·) z;simp at this;omega
  have hs : P.skip ⟨c :: (x ++ r),line⟩ = .ok (false,⟨c :: (x ++ r),line⟩) := by
    unfold P.skip;show (P.skipB ((x ++ r).length + 1 + 1) ⟨c :: (x ++ r),line⟩).bind _ = _;unfold P.skipB;show Res.bind (if P.isLineEnd (c : Int) = true then _ else if P.isWhite (c : Int) = true then _ else if ((c :: (x ++ r)).take 2 == [47,47]) = true then _ else if ((c :: (x ++ r)).take 2 == [47,42]) = true then _ else _) _ = _;rw [s1,s2,s3,s4];show Res.ok (decide (line < line),_) = _;rw [decide_eq_false (Nat.lt_irrefl _)]
  unfold P.next;rw [hs];show P.nextAt ⟨c :: (x ++ r),line⟩ (P.tk0 line false (c :: (x ++ r))) = _;unfold P.nextAt;have n1 : ¬ (decide (P.code (c :: (x ++ r)) < 0) = true) := by
    rw [decide_eq_true_iff]; show ¬ ((c : Int) < 0); omega
  show (if decide (P.code (c :: (x ++ r)) < 0) = true then _ else if (P.isIdStart (c : Int) || _) = true then _ else _) = _;rw [if_neg n1,hc,Bool.true_or,if_pos rfl];unfold P.readName;have n2 : ¬ ((P.code (c :: (x ++ r)) == 92) = true) := by
    rw [beq_iff_eq];show ¬ ((c : Int) = 92);unfold P.isIdStart at hc;simp only [Bool.or_eq_true,Bool.and_eq_true,decide_eq_true_eq,beq_iff_eq] at hc;omega
  show Res.bind (if (P.code (c :: (x ++ r)) == 92) = true then _ else if (P.code (P.idPart (c :: (x ++ r))).2 == 92) = true then _ else _) _ = _;rw [if_neg n2,hid,if_neg (by rw [beq_iff_eq]; exact hr.2)];rfl
end Mine
end
section
open PySem PySem.W PySem.Calls PyProof.Rows Hd
namespace Mine
theorem tok_punct {c : Nat} {r p q : List Nat} (hp : P.punctAt (c :: r) = some p) (hd : (c :: r).drop p.length = q) (h1 : P.isLineEnd (c : Int) = false) (h2 : P.isWhite (c : Int) = false)
    (h3 : ((c :: r).take 2 == [47,47]) = false) (h4 : ((c :: r).take 2 == [47,42]) = false) (h5 : (P.isIdStart (c : Int) || (c : Int) == 92) = false) (h6 : (P.isDigit (c : Int) || ((c : Int) == 46 && P.isDigit (P.code r))) = false)
    (h7 : ((c : Int) == 34 || (c : Int) == 39) = false) : TokAt (c :: r) .punct p (c :: r) q false := by
  intro line;refine ⟨line,?_⟩;have hs : P.skip ⟨c :: r,line⟩ = .ok (false,⟨c :: r,line⟩) := by
    unfold P.skip;show (P.skipB (r.length + 1 + 1) ⟨c :: r,line⟩).bind _ = _;unfold P.skipB;show Res.bind (if P.isLineEnd (c : Int) = true then _ else if P.isWhite (c : Int) = true then _ else if ((c :: r).take 2 == [47,47]) = true then _ else if ((c :: r).take 2 == [47,42]) = true then _ else _) _ = _;rw [h1,h2,h3,h4];show Res.ok (decide (line < line),_) = _;rw [decide_eq_false (Nat.lt_irrefl _)]
  unfold P.next;rw [hs];show P.nextAt ⟨c :: r,line⟩ (P.tk0 line false (c :: r)) = _;unfold P.nextAt;have n1 : ¬ (decide (P.code (c :: r) < 0) = true) := by
    rw [decide_eq_true_iff]; show ¬ ((c : Int) < 0); omega
  show (if decide (P.code (c :: r) < 0) = true then _ else if (P.isIdStart (c : Int) || (c : Int) == 92) = true then _ else if (P.isDigit (c : Int) || ((c : Int) == 46 && P.isDigit (P.code r))) = true then _ else if ((c : Int) == 34 || (c : Int) == 39) = true then _ else _) = _;rw [if_neg n1,h5,h6,h7];show Res.bind (P.readPunct ⟨c :: r,line⟩ (P.tk0 line false (c :: r))) P.fin = _;unfold P.readPunct;show Res.bind (match P.punctAt (c :: r) with | none => _ | some p => _) P.fin = _;rw [hp];show Res.ok _ = _;rw [← hd];rfl
theorem tok_lpar {r : List Nat} : TokAt (40 :: r) .punct [40] (40 :: r) r false := tok_punct (by cases r <;> rfl) rfl rfl rfl rfl rfl rfl rfl rfl
theorem tok_rpar {r : List Nat} : TokAt (41 :: r) .punct [41] (41 :: r) r false := tok_punct (by cases r <;> rfl) rfl rfl rfl rfl rfl rfl rfl rfl
theorem tok_comma {r : List Nat} : TokAt (44 :: r) .punct [44] (44 :: r) r false := tok_punct (by cases r <;> rfl) rfl rfl rfl rfl rfl rfl rfl rfl
theorem tok_lbr {r : List Nat} : TokAt (91 :: r) .punct [91] (91 :: r) r false := tok_punct (by cases r <;> rfl) rfl rfl rfl rfl rfl rfl rfl rfl
theorem tok_rbr {r : List Nat} : TokAt (93 :: r) .punct [93] (93 :: r) r false := tok_punct (by cases r <;> rfl) rfl rfl rfl rfl rfl rfl rfl rfl
theorem tok_semi {r : List Nat} : TokAt (59 :: r) .punct [59] (59 :: r) r false := tok_punct (by cases r <;> rfl) rfl rfl rfl rfl rfl rfl rfl rfl
theorem tok_colon {r : List Nat} : TokAt (58 :: r) .punct [58] (58 :: r) r false := tok_punct (by cases r <;> rfl) rfl rfl rfl rfl rfl rfl rfl rfl
theorem tok_lcur {r : List Nat} : TokAt (123 :: r) .punct [123] (123 :: r) r false := tok_punct (by cases r <;> rfl) rfl rfl rfl rfl rfl rfl rfl rfl
theorem tok_rcur {r : List Nat} : TokAt (125 :: r) .punct [125] (125 :: r) r false := tok_punct (by cases r <;> rfl) rfl rfl rfl rfl rfl rfl rfl rfl
theorem tok_inc {r : List Nat} : TokAt (43 :: 43 :: r) .punct [43,43] (43 :: 43 :: r) r false := tok_punct (by cases r <;> rfl) rfl rfl rfl rfl rfl rfl rfl rfl
theorem tok_eq {r : List Nat} : TokAt (61 :: 32 :: r) .punct [61] (61 :: 32 :: r) (32 :: r) false := tok_punct rfl rfl rfl rfl rfl rfl rfl rfl rfl
theorem tok_dveq {r : List Nat} : TokAt (47 :: 61 :: 32 :: r) .punct [47,61] (47 :: 61 :: 32 :: r) (32 :: r) false := tok_punct rfl rfl rfl rfl rfl rfl rfl rfl rfl
theorem tok_div {r : List Nat} : TokAt (47 :: 32 :: r) .punct [47] (47 :: 32 :: r) (32 :: r) false := tok_punct rfl rfl rfl rfl rfl rfl rfl rfl rfl
theorem tok_divn {r : List Nat} : TokAt (47 :: 10 :: r) .punct [47] (47 :: 10 :: r) (10 :: r) false := tok_punct rfl rfl rfl rfl rfl rfl rfl rfl rfl
noncomputable def At (E : PS) (r : List Nat) (s : PS) : Prop := ∃ line t x,P.next ⟨r,line⟩ = .ok (t,x)∧s = { E with tok := t,lx := x,later := none }
noncomputable def stT (E : PS) (k : KD) (v st r' : List Nat) (bl : Bool) (line : Nat) : PS := { E with tok := ⟨k,v,[],0,line,bl,st,r',false,true⟩,lx := ⟨r',line⟩,later := none }
theorem At.tok {E s : PS} {r : List Nat} {k : KD} {v st r' : List Nat} {bl : Bool} (h : At E r s) (ht : TokAt r k v st r' bl) : ∃ line,s = stT E k v st r' bl line := by
  obtain ⟨line,t,x,e,rfl⟩ := h;obtain ⟨l',e'⟩ := ht line;rw [e'] at e
  cases e
  exact ⟨l',rfl⟩
noncomputable def Go {α : Type} (m : Res (α × PS)) (Q : α→PS→Prop) : Prop := ∃ a s,m = .ok (a,s)∧Q a s
theorem Go.ok {α : Type} {a : α} {s : PS} {Q : α→PS→Prop} (h : Q a s) : Go (.ok (a,s)) Q := ⟨a,s,rfl,h⟩
theorem Go.bind {α β : Type} {m : Res (α × PS)} {k : α × PS→Res (β × PS)} {Q : β→PS→Prop} (h : Go m fun a s => Go (k (a,s)) Q) : Go (m.bind k) Q := by
  obtain ⟨a,s,rfl,h⟩ := h;exact h
theorem Go.bnd {α β : Type} {m : P.M α} {k : α→P.M β} {s : PS} {Q : β→PS→Prop} (h : Go (m s) fun a s' => Go (k a s') Q) : Go (P.bnd m k s) Q := Go.bind h
theorem Go.mono {α : Type} {m : Res (α × PS)} {Q Q' : α→PS→Prop} (h : Go m Q) (k : ∀ a s,Q a s→Q' a s) : Go m Q' := by
  obtain ⟨a,s,e,h⟩ := h;exact ⟨a,s,e,k _ _ h⟩
noncomputable def HasTok (r : List Nat) : Prop := ∃ k v st r' bl,TokAt r k v st r' bl
theorem go_take {E : PS} {k : KD} {v st r' : List Nat} {bl : Bool} {line : Nat} {Q : Tk→PS→Prop} (ht : HasTok r') (h : ∀ s',At E r' s'→Q ⟨k,v,[],0,line,bl,st,r',false,true⟩ s') : Go (P.take (stT E k v st r' bl line)) Q := by
  obtain ⟨k',v',st',r'',bl',ht⟩ := ht;obtain ⟨l',e⟩ := ht line;refine ⟨_,{ E with tok := ⟨k',v',[],0,l',bl',st',r'',false,true⟩,lx := ⟨r'',l'⟩,later := none },?_,h _ ⟨line,_,_,e,rfl⟩⟩;show (P.next ⟨r',line⟩).bind _ = _;rw [e];rfl
noncomputable def stP (E : PS) (v st r' : List Nat) (bl : Bool) (line : Nat) (t' : Tk) (x' : Lx) : PS := { E with tok := ⟨.name,v,[],0,line,bl,st,r',false,true⟩,lx := x',later := some t' }
noncomputable def AtP (E : PS) (r : List Nat) (s : PS) : Prop := ∃ v st r' bl bl' line t' x',TokAt r .name v st r' bl∧P.next ⟨r',line⟩ = .ok (t',x')∧s = stP E v st r' bl' line t' x'
noncomputable def AtF (E : PS) (r : List Nat) (s : PS) : Prop := At E r s ∨ At E (10 :: r) s ∨ AtP E r s
theorem TokAt.same {r : List Nat} {k k' : KD} {v v' st st' r' r'' : List Nat} {bl bl' : Bool} (h : TokAt r k v st r' bl) (h' : TokAt r k' v' st' r'' bl') : k = k'∧v = v'∧r' = r'' := by
  obtain ⟨l,h⟩ := h 0;obtain ⟨l',h'⟩ := h' 0;rw [h] at h'
  cases h'
  exact ⟨rfl,rfl,rfl⟩
theorem AtF.tok {E s : PS} {r : List Nat} {k : KD} {v st r' : List Nat} {bl : Bool} (h : AtF E r s) (ht : TokAt r k v st r' bl) (hk : k ≠ .name) : ∃ line bl',s = stT E k v st r' bl' line := by
  rcases h with h | h | ⟨v',st',r'',b,b',line,t',x',h,_⟩
  · obtain ⟨line,e⟩ := h.tok ht; exact ⟨line,_,e⟩
  · obtain ⟨line,e⟩ := h.tok ht.nl; exact ⟨line,_,e⟩
  · exact absurd (ht.same h).1 hk
structure NameSt (E : PS) (v r' : List Nat) (s : PS) : Prop where
  k : s.tok.k = .name
  v : s.tok.v = v
  str : s.strict = E.strict
  take : HasTok r'→∃ s',P.take s = .ok (s.tok,s')∧At E r' s'
theorem nameSt_T {E : PS} {v st r' : List Nat} {bl : Bool} {line : Nat} : NameSt E v r' (stT E .name v st r' bl line) :=
  ⟨rfl,rfl,rfl,fun ht => by
    obtain ⟨a,s,e,h⟩ := go_take (Q := fun t s' => t = (stT E .name v st r' bl line).tok∧At E r' s') ht fun s' a => ⟨rfl,a⟩;obtain ⟨rfl,h⟩ := h;exact ⟨s,e,h⟩⟩
theorem AtF.name {E s : PS} {r : List Nat} {v st r' : List Nat} {bl : Bool} (h : AtF E r s) (ht : TokAt r .name v st r' bl) : NameSt E v r' s := by
  rcases h with h | h | ⟨v',st',r'',b,b',line,t',x',h,hn,rfl⟩
  · obtain ⟨line,rfl⟩ := h.tok ht; exact nameSt_T
  · obtain ⟨line,rfl⟩ := h.tok ht.nl; exact nameSt_T
  · obtain ⟨_,rfl,rfl⟩ := ht.same h;exact ⟨rfl,rfl,rfl,fun _ => ⟨_,rfl,line,t',x',hn,rfl⟩⟩
theorem go_takeN {E s : PS} {v r' : List Nat} {Q : Tk→PS→Prop} (n : NameSt E v r' s) (ht : HasTok r') (h : ∀ s',At E r' s'→Q s.tok s') : Go (P.take s) Q := by
  obtain ⟨s',e,a⟩ := n.take ht;exact ⟨_,s',e,h s' a⟩
theorem isSign_st {E : PS} {k : KD} {v st r' x : List Nat} {bl : Bool} {line : Nat} : P.isSign (stT E k v st r' bl line) x = (k == .punct && v == x) := rfl
theorem go_eat_no {E : PS} {k : KD} {v st r' x : List Nat} {bl : Bool} {line : Nat} {Q : Bool→PS→Prop} (e : (k == .punct && v == x) = false) (h : Q false (stT E k v st r' bl line)) : Go (P.eat x (stT E k v st r' bl line)) Q := by
  unfold P.eat;rw [isSign_st,e];exact .ok h
theorem go_eat {E : PS} {v st r' : List Nat} {bl : Bool} {line : Nat} {Q : Bool→PS→Prop} (ht : HasTok r') (h : ∀ s',At E r' s'→Q true s') : Go (P.eat v (stT E .punct v st r' bl line)) Q := by
  unfold P.eat;rw [isSign_st,show ((KD.punct == KD.punct) && (v == v)) = true by simp,if_pos rfl];exact Go.bnd (go_take ht fun s' a => .ok (h s' a))
theorem go_need {E : PS} {v st r' : List Nat} {bl : Bool} {line : Nat} {Q : Unit→PS→Prop} (ht : HasTok r') (h : ∀ s',At E r' s'→Q () s') : Go (P.need v (stT E .punct v st r' bl line)) Q :=
  Go.bnd (go_eat ht fun s' a => .ok (h s' a))
end Mine
end
section
open PySem PySem.W PySem.Calls PyProof.Rows Hd
namespace Mine
noncomputable def folls : List (List Nat) := [[47],[41],[44],[93],[59],[125],[61],[47,61]]
noncomputable def follC : List (List Nat) := [[41],[44],[93],[59],[125],[61],[47,61]]
noncomputable def follE : List (List Nat) := [[41],[44],[93],[59],[125]]
structure Foll (L : List (List Nat)) (r : List Nat) : Prop where
  no : NoId r
  tok : ∃ v st r' bl,v∈L∧TokAt r .punct v st r' bl
theorem Foll.has {L : List (List Nat)} {r : List Nat} (h : Foll L r) : HasTok r := by
  obtain ⟨v,st,r',bl,_,t⟩ := h.tok;exact ⟨_,v,st,r',bl,t⟩
theorem Foll.upL {L L' : List (List Nat)} {r : List Nat} (h : Foll L r) (hL : ∀ v∈L,v∈L') : Foll L' r := by
  obtain ⟨v,st,r',bl,hv,t⟩ := h.tok;exact ⟨h.no,v,st,r',bl,hL v hv,t⟩
theorem Foll.up {r : List Nat} (h : Foll follE r) : Foll folls r := h.upL (by decide)
theorem Foll.upC {r : List Nat} (h : Foll follE r) : Foll follC r := h.upL (by decide)
theorem Foll.upF {r : List Nat} (h : Foll follC r) : Foll folls r := h.upL (by decide)
noncomputable def charsOk (x : List Nat) : Prop := ∀ c∈x,c < 1114112
noncomputable def T.good : Nat→T→Prop
  | _,.none => True
  | _,.bool _ => True
  | _,.int _ => False
  | _,.str x => charsOk x
  | k + 1,.lst ts => ts.length < 1000000∧∀ t∈ts,T.good k t
  | k + 1,.tup ts => ts.length < 1000000∧∀ t∈ts,T.good k t
  | k + 1,.node kd _ ts => charsOk kd∧ts.length < 1000000∧∀ t∈ts,T.good k t
  | _,_ => False
theorem T.good.up : ∀ {k : Nat} {t : T},T.good k t→T.good (k + 1) t
  | _,.none,_ => by unfold T.good; trivial
  | _,.bool _,_ => by unfold T.good; trivial
  | _,.int _,h => by unfold T.good at h; exact h.elim
  | _,.str x,h => by unfold T.good at h ⊢; exact h
  | k + 1,.lst ts,h => by unfold T.good at h ⊢; exact ⟨h.1,fun t ht => (h.2 t ht).up⟩
  | k + 1,.tup ts,h => by unfold T.good at h ⊢; exact ⟨h.1,fun t ht => (h.2 t ht).up⟩
  | k + 1,.node kd m ts,h => by unfold T.good at h ⊢; exact ⟨h.1,h.2.1,fun t ht => (h.2.2 t ht).up⟩
  | 0,.lst ts,h => h.elim
  | 0,.tup ts,h => h.elim
  | 0,.node kd m ts,h => h.elim
theorem T.good.le {k k' : Nat} {t : T} (h : T.good k t) (hk : k ≤ k') : T.good k' t := by
  induction hk with
  | refl => exact h
  | step _ ih => exact ih.up
noncomputable def PX (c : P.Call) (L : List (List Nat)) (N K : Nat) (x : List Nat) (v : V) : Prop :=
  ∀ n,N ≤ n→∀ (E : PS),E.strict = false→∀ r,Foll L r→∀ s,AtF E (x ++ r) s→Go (P.run n c s) fun t s' => (told t = v∧T.good K t)∧At E r s'
theorem go_take2 {E : PS} {t : Tk} {r' : List Nat} {line : Nat} {Q : Tk→PS→Prop} (ht : HasTok r') (h : ∀ s',At E r' s'→Q t s') : Go (P.take { E with tok := t,lx := ⟨r',line⟩,later := none }) Q := by
  obtain ⟨k',v',st',r'',bl',ht⟩ := ht;obtain ⟨l',e⟩ := ht line;refine ⟨_,{ E with tok := ⟨k',v',[],0,l',bl',st',r'',false,true⟩,lx := ⟨r'',l'⟩,later := none },?_,h _ ⟨line,_,_,e,rfl⟩⟩;show (P.next ⟨r',line⟩).bind _ = _;rw [e];rfl
theorem go_needName {E s : PS} {v r' : List Nat} {Q : List Nat→PS→Prop} (hE : E.strict = false) (n : NameSt E v r' s) (ht : HasTok r') (h : ∀ s',At E r' s'→Q v s') : Go (P.needName s) Q := by
  unfold P.needName;rw [n.k,n.str,hE,if_pos (by decide),if_neg (by unfold P.nameFault; exact Bool.false_ne_true)];exact Go.bnd (go_takeN n ht fun s' a => .ok (by rw [n.v]; exact h s' a))
theorem unary_name {R : P.Rec} {s : PS} (h : s.tok.k = .name) : P.unary R s = R .postf s := by
  unfold P.unary;rw [h];rfl
theorem word_name {s : PS} {x : List Nat} (h : s.tok.k = .name) : P.isWord s x = false := by
  unfold P.isWord;rw [h];rfl
theorem foll_facts : ∀ v∈folls,(v == [46]) = false∧(v == [91]) = false∧(v == [40]) = false∧P.isIn v P.steps = false∧(v == [63]) = false := by decide
theorem go_left {m : Nat} {E s : PS} {r : List Nat} {G : T→Prop} (hw : P.isWord s [110,101,119] = false) (h : Go (P.run (m + 1) .primary s) fun t s' => G t∧At E r s') (hf : Foll folls r) : Go (P.run (m + 2) .leftHand s) fun t s' => G t∧At E r s' := by
  show Go (if P.isWord s [110,101,119] = true then _ else _) _;rw [hw,if_neg Bool.false_ne_true];refine Go.bnd (h.mono fun t s' ⟨g,a⟩ => ?_);obtain ⟨v,st,r',bl,hv,ht⟩ := hf.tok;obtain ⟨f1,f2,f3,f4,f6⟩ := foll_facts v hv;have a' := a;obtain ⟨line,rfl⟩ := a.tok ht;refine Go.bnd ?_;show Go (if (((KD.punct == KD.punct) && (v == [46])) || ((KD.punct == KD.punct) && (v == [91]))) = true then _ else _) _;rw [f1,f2,if_neg (by decide)];refine Go.ok ?_;show Go (P.bnd (P.callTurn (P.run (m + 1)) t) _ (stT E .punct v st r' bl line)) _;refine Go.bnd ?_;show Go (if ((KD.punct == KD.punct) && (v == [40])) = true then _ else _) _;rw [f3,if_neg (by decide)];exact Go.ok (Go.ok ⟨g,a'⟩)
theorem go_postf {m : Nat} {E s : PS} {r : List Nat} {G : T→Prop} (hw : P.isWord s [110,101,119] = false) (h : Go (P.run (m + 1) .primary s) fun t s' => G t∧At E r s') (hf : Foll folls r) : Go (P.run (m + 3) .postf s) fun t s' => G t∧At E r s' := by
  show Go (P.postf (P.run (m + 2)) s) _;unfold P.postf;refine Go.bnd ((go_left hw h hf).mono fun t s' ⟨g,a⟩ => ?_);obtain ⟨v,st,r',bl,hv,ht⟩ := hf.tok;obtain ⟨f1,f2,f3,f4,f6⟩ := foll_facts v hv;have a' := a;obtain ⟨line,rfl⟩ := a.tok ht;show Go (if ((KD.punct == KD.punct) && (P.isIn v P.steps && !bl)) = true then _ else _) _;rw [f4,if_neg (by simp)];exact Go.ok ⟨g,a'⟩
theorem primary_name {R : P.Rec} {s : PS} (h : (s.tok.k == KD.name) = true) : P.primary R s = P.bnd P.needName (fun x => P.ret (.node [78,97,109,101] s.tok.line [.str x])) s := by
  unfold P.primary;rw [if_pos h]
theorem px_name {c : Nat} (hc : P.isIdStart (c : Int) = true) (hk : P.isIn [c] P.keywords = false) (hz : c < 1114112) : PX .unary folls 4 1 [c] (nm [c]) := by
  intro n hn E hE r hf s a;obtain ⟨m,rfl⟩ : ∃ m,n = m + 4 := ⟨n - 4,by omega⟩;have ht := tok_word (c := c) (x := []) (r := r) hc rfl hf.no;rw [hk] at ht;have ns := a.name ht;show Go (P.unary (P.run (m + 3)) s) _;rw [unary_name ns.k];refine go_postf (word_name ns.k) ?_ hf;show Go (P.primary (P.run m) s) _;rw [primary_name (by rw [ns.k]; rfl)];refine Go.bnd (go_needName hE ns hf.has fun s' a => .ok ⟨⟨rfl,?_⟩,a⟩);refine ⟨?_,Nat.le_of_ble_eq_true rfl,fun t ht => ?_⟩
  · show charsOk [78,97,109,101]; unfold charsOk; decide
  · obtain rfl := List.mem_singleton.mp ht;intro d hd;obtain rfl := List.mem_singleton.mp hd;exact hz
theorem rx_body {p : List Nat} (hp : p∈rxBodies) (line : Nat) (q : List Nat) : P.rxBody ((47 :: (p ++ 47 :: q)).length + 1) line false (p ++ 47 :: q) = .ok (p,q) := by
  simp only [rxBodies,List.mem_cons,List.not_mem_nil,or_false] at hp
  rcases hp with rfl | rfl | rfl | rfl | rfl | rfl | rfl | rfl | rfl <;> rfl
theorem rx_tok {p : List Nat} (hp : p∈rxBodies) (q : List Nat) : ∃ v r',(v = [47] ∨ v = [47,61])∧TokAt (47 :: (p ++ 47 :: q)) .punct v (47 :: (p ++ 47 :: q)) r' false := by
  simp only [rxBodies,List.mem_cons,List.not_mem_nil,or_false] at hp
  rcases hp with rfl | rfl | rfl | rfl | rfl | rfl | rfl | rfl | rfl
  · exact ⟨[47],_,.inl rfl,tok_punct rfl rfl rfl rfl rfl rfl rfl rfl rfl⟩
  · exact ⟨[47,61],_,.inr rfl,tok_punct rfl rfl rfl rfl rfl rfl rfl rfl rfl⟩
  · exact ⟨[47],_,.inl rfl,tok_punct rfl rfl rfl rfl rfl rfl rfl rfl rfl⟩
  · exact ⟨[47],_,.inl rfl,tok_punct rfl rfl rfl rfl rfl rfl rfl rfl rfl⟩
  · exact ⟨[47],_,.inl rfl,tok_punct rfl rfl rfl rfl rfl rfl rfl rfl rfl⟩
  · exact ⟨[47],_,.inl rfl,tok_punct rfl rfl rfl rfl rfl rfl rfl rfl rfl⟩
  · exact ⟨[47],_,.inl rfl,tok_punct rfl rfl rfl rfl rfl rfl rfl rfl rfl⟩
  · exact ⟨[47],_,.inl rfl,tok_punct rfl rfl rfl rfl rfl rfl rfl rfl rfl⟩
  · exact ⟨[47],_,.inl rfl,tok_punct rfl rfl rfl rfl rfl rfl rfl rfl rfl⟩
theorem primary_rx {R : P.Rec} {E : PS} {v st r' : List Nat} {bl : Bool} {line : Nat} (hv : v = [47] ∨ v = [47,61]) : P.primary R (stT E .punct v st r' bl line) =
    (P.regex ⟨r',line⟩ ⟨.punct,v,[],0,line,bl,st,r',false,true⟩).bind fun p => (P.bnd P.take fun k => P.ret (.node [82,101,103,101,120] line [.str k.v,.str k.v2])) { E with tok := p.1,lx := p.2,later := none } := by
  rcases hv with rfl | rfl <;> rfl
theorem regex_eq {p f r r' v : List Nat} {line : Nat} {bl : Bool} (hp : p∈rxBodies) (hf : f.all (fun c => P.isIdPart (c : Int)) = true) (hr : NoId r) :
    P.regex ⟨r',line⟩ ⟨.punct,v,[],0,line,bl,47 :: (p ++ 47 :: (f ++ r)),r',false,true⟩ = .ok (⟨.regex,p,f,0,line,bl,47 :: (p ++ 47 :: (f ++ r)),r,false,true⟩,⟨r,line⟩) := by
  unfold P.regex;show Res.bind (Res.bind (P.rxBody ((47 :: (p ++ 47 :: (f ++ r))).length + 1) line false (p ++ 47 :: (f ++ r))) _) _ = _;rw [rx_body hp];show P.regexEnd _ p ⟨f ++ r,line⟩ = _;unfold P.regexEnd;show (if (P.code (P.idPart (f ++ r)).2 == 92) = true then _ else _) = _;rw [idPart_ap f hf hr,if_neg (by rw [beq_iff_eq]; exact hr.2)]
theorem rx_flags : ∀ f∈rxFlags,f.all (fun c => P.isIdPart (c : Int)) = true := by decide +kernel
theorem px_rx {p f : List Nat} (hp : p∈rxBodies) (hf : f∈rxFlags) : PX .unary folls 4 1 ([47] ++ p ++ [47] ++ f) (nd [82,101,103,101,120] [sv p,sv f]) := by
  intro n hn E hE r hF s a;obtain ⟨m,rfl⟩ : ∃ m,n = m + 4 := ⟨n - 4,by omega⟩;obtain ⟨v,r',hv,ht⟩ := rx_tok hp (f ++ r);have e : ([47] ++ p ++ [47] ++ f) ++ r = 47 :: (p ++ 47 :: (f ++ r)) := by simp
  rw [e] at a;obtain ⟨line,bl,rfl⟩ := a.tok ht (by decide);have hu : P.unary (P.run (m + 3)) (stT E .punct v (47 :: (p ++ 47 :: (f ++ r))) r' bl line) = P.run (m + 3) .postf (stT E .punct v (47 :: (p ++ 47 :: (f ++ r))) r' bl line) := by
    rcases hv with rfl | rfl <;> rfl
  show Go (P.unary (P.run (m + 3)) _) _;rw [hu];refine go_postf rfl ?_ hF;show Go (P.primary (P.run m) (stT E .punct v _ r' bl line)) _;rw [primary_rx hv,regex_eq hp (rx_flags f hf) hF.no];show Go (P.bnd P.take (fun k => P.ret (T.node [82,101,103,101,120] line [.str k.v,.str k.v2])) { E with tok := ⟨.regex,p,f,0,line,bl,47 :: (p ++ 47 :: (f ++ r)),r,false,true⟩,lx := ⟨r,line⟩,later := none }) _;refine Go.bnd (go_take2 hF.has fun s' a => .ok ⟨⟨rfl,?_⟩,a⟩);refine ⟨by unfold charsOk; decide,Nat.le_of_ble_eq_true rfl,fun t ht => ?_⟩;have key1 : ∀ p∈rxBodies,∀ c∈p,c < 1114112 := by decide +kernel
  have key2 : ∀ p∈rxFlags,∀ c∈p,c < 1114112 := by decide +kernel
  rcases List.mem_cons.mp ht with rfl | ht
  · exact key1 p hp
  · obtain rfl := List.mem_singleton.mp ht;exact key2 f hf
theorem px_leaf {x : List Nat} {v : V} (h : Leaf x v) : PX .unary folls 4 1 x v := by
  cases h with
  | a => exact px_name (by decide) (by decide) (by decide)
  | b => exact px_name (by decide) (by decide) (by decide)
  | rx hp hf => exact px_rx hp hf
end Mine
end
section
open PySem PySem.W PySem.Calls PyProof.Rows Hd
namespace Mine
theorem good_str {k : Nat} {x : List Nat} (h : charsOk x) : T.good k (.str x) := by cases k <;> exact h
theorem good_none {k : Nat} : T.good k .none := by cases k <;> trivial
theorem good_bool {k : Nat} {b : Bool} : T.good k (.bool b) := by cases k <;> trivial
noncomputable def okTok (k : KD) (v : List Nat) : Bool := !(k == .punct && P.isIn v [[41],[93],[44],[123],[59],[125]]) && ((k == .name || k == .punct) || (k == .keyword && v == [116,121,112,101,111,102]))
noncomputable def Starts (x : List Nat) : Prop := ∀ r,Foll folls r→∃ k v st r',TokAt (x ++ r) k v st r' false∧okTok k v = true∧(k = .name→∃ k2 v2 st2 r2 bl2,TokAt r' k2 v2 st2 r2 bl2∧(k2 == .punct && v2 == [58]) = false)
theorem Starts.app {x : List Nat} (h : Starts x) {y : List Nat} (hy : ∀ r,Foll folls r→Foll folls (y ++ r)) : Starts (x ++ y) := by
  intro r hr;rw [List.append_assoc];exact h _ (hy r hr)
theorem noId_of {c : Nat} (h : P.isIdPart (c : Int) = false) (h2 : (c : Int) ≠ 92) {r : List Nat} : NoId (c :: r) := ⟨h,h2⟩
theorem sep_no : ∀ s∈seps,∀ r,NoId (s ++ r) := by
  intro s hs r;simp only [seps,List.mem_cons,List.not_mem_nil,or_false] at hs
  rcases hs with rfl | rfl | rfl | rfl <;> exact noId_of (by decide) (by decide)
theorem sep_tok {s : List Nat} (hs : s∈seps) (r : List Nat) : ∃ st r' bl,TokAt (s ++ r) .punct [47] st r' bl∧(r' = 32 :: r ∨ r' = r∧False ∨ r' = 10 :: r) := by
  simp only [seps,List.mem_cons,List.not_mem_nil,or_false] at hs
  rcases hs with rfl | rfl | rfl | rfl
  · exact ⟨_,_,_,TokAt.blank tok_div,.inl rfl⟩
  · exact ⟨_,_,_,TokAt.nl tok_div,.inl rfl⟩
  · exact ⟨_,_,_,TokAt.blank tok_divn,.inr (.inr rfl)⟩
  · exact ⟨_,_,_,tok_div,.inl rfl⟩
theorem sep_foll {s : List Nat} (hs : s∈seps) (r : List Nat) : Foll folls (s ++ r) := by
  obtain ⟨st,r',bl,ht,_⟩ := sep_tok hs r;exact ⟨sep_no s hs r,_,st,r',bl,.head _,ht⟩
theorem sep_at {r' r : List Nat} (h : r' = 32 :: r ∨ r' = r∧False ∨ r' = 10 :: r) {E s : PS} (a : At E r' s) : AtF E r s := by
  rcases h with rfl | ⟨_,h⟩ | rfl
  · exact .inl a
  · exact h.elim
  · exact .inr (.inl a)
theorem sep_has {r' r x : List Nat} (h : r' = 32 :: (x ++ r) ∨ r' = x ++ r∧False ∨ r' = 10 :: (x ++ r)) (hx : Starts x) (hr : Foll folls r) : HasTok r' := by
  obtain ⟨k,v,st,r'',a,_⟩ := hx r hr
  rcases h with rfl | ⟨_,h⟩ | rfl
  · exact ⟨k,v,st,r'',_,a.blank⟩
  · exact h.elim
  · exact ⟨k,v,st,r'',_,a.nl⟩
theorem prio_folls : ∀ v∈folls,P.prioOf P.prios v ≤ 10 := by decide
theorem prio_follC : ∀ v∈follC,P.prioOf P.prios v = 0 := by decide
theorem follC_facts : ∀ v∈follC,(v == [63]) = false := by decide
theorem follE_facts : ∀ v∈follE,P.isIn v P.assigning = false∧(v == [63]) = false∧v∈folls := by decide
theorem px_right {N K : Nat} {x : List Nat} {v : V} {i : Bool} (h : PX .unary folls N K x v) : PX (.binary 11 i) folls (N + 1) K x v := by
  intro n hn E hE r hF s a;obtain ⟨m,rfl⟩ : ∃ m,n = m + 1 := ⟨n - 1,by omega⟩;show Go (P.bnd (P.run m .unary) (fun left => P.loopM P.LN (P.binTurn (P.run m) 11 i) left) s) _;refine Go.bnd ((h m (by omega) E hE r hF s a).mono fun t s' ⟨g,a⟩ => ?_);obtain ⟨w,st,r',bl,hw,ht⟩ := hF.tok;have a' := a;obtain ⟨line,rfl⟩ := a.tok ht;show Go (P.bnd (P.binTurn (P.run m) 11 i t) _ (stT E .punct w st r' bl line)) _;refine Go.bnd ?_;show Go (if 11 ≤ P.prioOf P.prios w then _ else _) _;rw [if_neg (by have := prio_folls w hw; omega)];exact Go.ok (Go.ok ⟨g,a'⟩)
theorem binTurn_div {R : P.Rec} {i : Bool} {t : T} {E : PS} {st r' : List Nat} {bl : Bool} {line : Nat} : P.binTurn R 1 i t (stT E .punct [47] st r' bl line) =
    P.bnd P.take (fun tk => P.bnd (R (.binary 11 i)) fun right => P.ret (Sum.inl (T.node [66,105,110,97,114,121] (P.lineOf t) [.str tk.v,t,right]))) (stT E .punct [47] st r' bl line) := rfl
section
variable {O : List Nat→V→Prop} {N K : Nat} (hO : ∀ x v,O x v→PX .unary folls N K x v) (hS : ∀ x v,O x v→Starts x)
include hS
theorem ch_starts : ∀ {k : Nat} {x : List Nat} {v : V},ChS O k x v→Starts x
  | _,_,_,.one h => hS _ _ h
  | _,_,_,.more h h' hs => by
    rw [List.append_assoc];exact (ch_starts h).app fun r hr => by rw [List.append_assoc]; exact sep_foll hs _
include hO
theorem chain_run {n : Nat} (hn : N < n) {i : Bool} {E : PS} (hE : E.strict = false) {Q : T→PS→Prop} : ∀ {k : Nat} {x : List Nat} {v : V},ChS O k x v→∀ (j : Nat) (r : List Nat) (s : PS),Foll folls r→AtF E (x ++ r) s →
    (∀ t s',told t = v→T.good (K + k) t→At E r s'→Go (P.loopM j (P.binTurn (P.run n) 1 i) t s') Q)→Go (P.bnd (P.run n .unary) (fun left => P.loopM (j + k) (P.binTurn (P.run n) 1 i) left) s) Q
  | _,_,_,.one h,j,r,s,hF,a,hk => by
    refine Go.bnd ((hO _ _ h n (by omega) E hE r hF s a).mono fun t s' ⟨g,a⟩ => ?_);exact hk t s' g.1 g.2 a
  | k + 1,_,_,.more (t := x) (v := v) (t' := x') (s := sp) (v' := v') h h' hs,j,r,s,hF,a,hk => by
    have e : (x ++ sp ++ x') ++ r = x ++ (sp ++ (x' ++ r)) := by simp
    rw [e] at a;have hj : j + (k + 1) = (j + 1) + k := by omega
    rw [hj];refine chain_run hn hE h (j + 1) _ s (sep_foll hs _) a fun t s' ht hg a => ?_;obtain ⟨st,r',bl,htok,hr'⟩ := sep_tok hs (x' ++ r);obtain ⟨line,rfl⟩ := a.tok htok;show Go (P.bnd (P.binTurn (P.run n) 1 i t) _ (stT E .punct [47] st r' bl line)) _;refine Go.bnd ?_;rw [binTurn_div];refine Go.bnd (go_take (sep_has hr' (hS _ _ h') hF) fun s' a => ?_);refine Go.bnd ((px_right (hO _ _ h') n (by omega) E hE r hF s' (sep_at hr' a)).mono fun t' s'' ⟨g,a⟩ => ?_);refine Go.ok (hk _ s'' ?_ ?_ a)
    · show V.lst [sv [66,105,110,97,114,121],.lst [sv [47],told t,told t']] = _;rw [ht,g.1]
    · refine ⟨by unfold charsOk; decide,Nat.le_of_ble_eq_true rfl,fun u hu => ?_⟩
      rcases List.mem_cons.mp hu with rfl | hu
      · exact good_str (x := [47]) (by unfold charsOk; decide)
      rcases List.mem_cons.mp hu with rfl | hu
      · exact hg
      · obtain rfl := List.mem_singleton.mp hu;exact g.2.le (Nat.le_add_right K k)
theorem px_bin {k : Nat} (hk : k ≤ 2) {x : List Nat} {v : V} (h : ChS O k x v) {i : Bool} : PX (.binary 1 i) follC (N + 2) (K + 2) x v := by
  intro n hn E hE r hF s a;obtain ⟨m,rfl⟩ : ∃ m,n = m + 1 := ⟨n - 1,by omega⟩;show Go (P.bnd (P.run m .unary) (fun left => P.loopM P.LN (P.binTurn (P.run m) 1 i) left) s) _;have e : P.LN = (3999 - k + 1) + k := by show 4000 = _; omega
  rw [e];refine chain_run hO hS (by omega) hE h _ r s hF.upF a fun t s' ht hg a => ?_;obtain ⟨w,st,r',bl,hw,htok⟩ := hF.tok;have a' := a;obtain ⟨line,rfl⟩ := a.tok htok;show Go (P.bnd (P.binTurn (P.run m) 1 i t) _ (stT E .punct w st r' bl line)) _;refine Go.bnd ?_;show Go (if 1 ≤ P.prioOf P.prios w then _ else _) _;rw [if_neg (by have := prio_follC w hw; omega)];exact Go.ok (Go.ok ⟨⟨ht,hg.le (by omega)⟩,a'⟩)
theorem px_cond {k : Nat} (hk : k ≤ 2) {x : List Nat} {v : V} (h : ChS O k x v) {i : Bool} : PX (.conditional i) follC (N + 3) (K + 2) x v := by
  intro n hn E hE r hF s a;obtain ⟨m,rfl⟩ : ∃ m,n = m + 1 := ⟨n - 1,by omega⟩;show Go (P.conditional (P.run m) i s) _;unfold P.conditional;refine Go.bnd ((px_bin hO hS hk h m (by omega) E hE r hF s a).mono fun t s' ⟨g,a⟩ => ?_);obtain ⟨w,st,r',bl,hw,htok⟩ := hF.tok;have f2 := follC_facts w hw;have a' := a;obtain ⟨line,rfl⟩ := a.tok htok;refine Go.bnd (go_eat_no (by rw [f2]; rfl) ?_);exact Go.ok ⟨g,a'⟩
theorem px_assign {k : Nat} (hk : k ≤ 2) {x : List Nat} {v : V} (h : ChS O k x v) {i : Bool} : PX (.assignment i) follE (N + 4) (K + 2) x v := by
  intro n hn E hE r hF s a;obtain ⟨m,rfl⟩ : ∃ m,n = m + 1 := ⟨n - 1,by omega⟩;show Go (P.assignment (P.run m) i s) _;unfold P.assignment;refine Go.bnd ((px_cond hO hS hk h m (by omega) E hE r hF.upC s a).mono fun t s' ⟨g,a⟩ => ?_);obtain ⟨w,st,r',bl,hw,htok⟩ := hF.tok;obtain ⟨f1,f2,f3⟩ := follE_facts w hw;have a' := a;obtain ⟨line,rfl⟩ := a.tok htok;show Go (if ((KD.punct == KD.punct) && P.isIn w P.assigning) = true then _ else _) _;rw [f1,if_neg (by decide)];exact Go.ok ⟨g,a'⟩
theorem px_expr {k : Nat} (hk : k ≤ 2) {x : List Nat} {v : V} (h : ChS O k x v) {i : Bool} : PX (.expression i) [[41],[59],[125]] (N + 5) (K + 2) x v := by
  intro n hn E hE r hF s a;obtain ⟨m,rfl⟩ : ∃ m,n = m + 1 := ⟨n - 1,by omega⟩;obtain ⟨w,st,r',bl,hw,htok⟩ := hF.tok;have hw2 : w∈follE∧(w == [44]) = false := by
    have : ∀ w∈[[41],[59],[125]],w∈follE∧(w == [44]) = false := by decide
    exact this w hw
  show Go (P.expression (P.run m) i s) _;unfold P.expression;refine Go.bnd ((px_assign hO hS hk h m (by omega) E hE r ⟨hF.no,_,st,r',bl,hw2.1,htok⟩ s a).mono fun t s' ⟨g,a⟩ => ?_);have a' := a;obtain ⟨line,rfl⟩ := a.tok htok;show Go (if ((KD.punct == KD.punct) && (w == [44])) = true then _ else _) _;rw [hw2.2,if_neg (by decide)];exact Go.ok ⟨g,a'⟩
end
end Mine
end
section
open PySem PySem.W PySem.Calls PyProof.Rows Hd
namespace Mine
theorem PX.le {c : P.Call} {L : List (List Nat)} {N N' K K' : Nat} {x : List Nat} {v : V} (h : PX c L N K x v) (hn : N ≤ N') (hk : K ≤ K') : PX c L N' K' x v := fun n hN E hE r hF s a =>
  (h n (Nat.le_trans hn hN) E hE r hF s a).mono fun t s' ⟨g,a⟩ => ⟨⟨g.1,g.2.le hk⟩,a⟩
theorem okTok_no {k : KD} {v : List Nat} (h : okTok k v = true) : ∀ x∈[[41],[93],[44],[123],[59],[125]],(k == KD.punct && v == x) = false := by
  intro x hx
  cases q : (k == KD.punct && v == x) with
  | false => rfl
  | true =>
    rw [Bool.and_eq_true,beq_iff_eq,beq_iff_eq] at q;obtain ⟨rfl,rfl⟩ := q;have : ∀ v∈[[41],[93],[44],[123],[59],[125]],okTok .punct v = false := by decide
    rw [this v hx] at h
    cases h
theorem go_postfL {m : Nat} {E s : PS} {r : List Nat} {G : T→Prop} (h : Go (P.run (m + 2) .leftHand s) fun t s' => G t∧At E r s') (hf : Foll folls r) : Go (P.run (m + 3) .postf s) fun t s' => G t∧At E r s' := by
  show Go (P.postf (P.run (m + 2)) s) _;unfold P.postf;refine Go.bnd (h.mono fun t s' ⟨g,a⟩ => ?_);obtain ⟨v,st,r',bl,hv,ht⟩ := hf.tok;obtain ⟨f1,f2,f3,f4,f6⟩ := foll_facts v hv;have a' := a;obtain ⟨line,rfl⟩ := a.tok ht;show Go (if ((KD.punct == KD.punct) && (P.isIn v P.steps && !bl)) = true then _ else _) _;rw [f4,if_neg (by simp)];exact Go.ok ⟨g,a'⟩
theorem foll_rpar {r : List Nat} : Foll [[41],[59],[125]] (41 :: r) := ⟨noId_of (by decide) (by decide),_,_,_,_,.head _,tok_rpar⟩
theorem follE_rpar {r : List Nat} : Foll follE (41 :: r) := ⟨noId_of (by decide) (by decide),_,_,_,_,.head _,tok_rpar⟩
theorem follE_comma {r : List Nat} : Foll follE (44 :: r) := ⟨noId_of (by decide) (by decide),_,_,_,_,.tail _ (.head _),tok_comma⟩
theorem follE_rbr {r : List Nat} : Foll follE (93 :: r) := ⟨noId_of (by decide) (by decide),_,_,_,_,.tail _ (.tail _ (.head _)),tok_rbr⟩
theorem Starts.has {x r : List Nat} (h : Starts x) (hr : Foll folls r) : HasTok (x ++ r) := by
  obtain ⟨k,v,st,r',ht,_⟩ := h r hr;exact ⟨k,v,st,r',_,ht⟩
theorem go_primary_lpar {R : P.Rec} {E : PS} {st r' : List Nat} {bl : Bool} {line : Nat} {Q : T→PS→Prop} (ht : HasTok r') (h : ∀ s',At E r' s'→Go (P.bnd (R (.expression true)) (fun t => P.bnd (P.need [41]) fun _ => P.ret t) s') Q) :
    Go (P.primary R (stT E .punct [40] st r' bl line)) Q := by
  unfold P.primary;rw [if_neg nofun,if_neg nofun,if_neg nofun];refine Go.bnd (go_eat ht fun s' a => ?_);rw [if_pos rfl];exact h s' a
theorem go_primary_lbr {R : P.Rec} {E : PS} {st r' : List Nat} {bl : Bool} {line : Nat} : P.primary R (stT E .punct [91] st r' bl line) = R .array (stT E .punct [91] st r' bl line) := rfl
section
variable {C : List Nat→V→Prop} {N K : Nat} (hA : ∀ x v,C x v→∀ i,PX (.assignment i) follE N K x v) (hX : ∀ x v,C x v→∀ i,PX (.expression i) [[41],[59],[125]] N K x v) (hS : ∀ x v,C x v→Starts x)
include hA hX hS
theorem px_paren {x : List Nat} {v : V} (h : C x v) : PX .unary folls (N + 4) K ([40] ++ x ++ [41]) v := by
  intro n hn E hE r hF s a;obtain ⟨m,rfl⟩ : ∃ m,n = m + 4 := ⟨n - 4,by omega⟩;have e : ([40] ++ x ++ [41]) ++ r = 40 :: (x ++ 41 :: r) := by simp
  rw [e] at a;obtain ⟨line,bl,rfl⟩ := a.tok tok_lpar (by decide);show Go (P.run (m + 3) .postf _) _;refine go_postf rfl ?_ hF;refine go_primary_lpar ((hS _ _ h).has follE_rpar.up) fun s' a => Go.bnd ((hX _ _ h true m (by omega) E hE _ foll_rpar s' (.inl a)).mono fun t s' ⟨g,a⟩ => ?_);obtain ⟨line,rfl⟩ := a.tok tok_rpar;exact Go.bnd (go_need hF.has fun s' a => Go.ok ⟨g,a⟩)
theorem px_arr {x : List Nat} {v : V} (h : C x v) : PX .unary folls (N + 5) (K + 2) ([91] ++ x ++ [93]) (nd [65,114,114,97,121] [.lst [v]]) := by
  intro n hn E hE r hF s a;obtain ⟨m,rfl⟩ : ∃ m,n = m + 5 := ⟨n - 5,by omega⟩;have e : ([91] ++ x ++ [93]) ++ r = 91 :: (x ++ 93 :: r) := by simp
  rw [e] at a;obtain ⟨line,bl,rfl⟩ := a.tok tok_lbr (by decide);show Go (P.run (m + 4) .postf _) _;refine go_postf (m := m + 1) rfl ?_ hF;show Go (P.primary (P.run (m + 1)) (stT E .punct [91] (91 :: (x ++ 93 :: r)) (x ++ 93 :: r) bl line)) _;rw [go_primary_lbr];show Go (P.bnd P.take (fun k => P.loopM P.LN (P.arrTurn (P.run m) k.line) []) (stT E .punct [91] (91 :: (x ++ 93 :: r)) (x ++ 93 :: r) bl line)) _;refine Go.bnd (go_take ((hS _ _ h).has follE_rbr.up) fun s' a => ?_);obtain ⟨k,w,st,r',ht,ok,_⟩ := hS _ _ h _ follE_rbr.up;have a' := a;obtain ⟨line2,rfl⟩ := a.tok ht;show Go (P.bnd (P.arrTurn (P.run m) line []) _ _) _;refine Go.bnd ?_;unfold P.arrTurn;rw [isSign_st,okTok_no ok [93] (by decide),if_neg Bool.false_ne_true];refine Go.bnd (go_eat_no (okTok_no ok [44] (by decide)) ?_);rw [if_neg Bool.false_ne_true];refine Go.bnd ((hA _ _ h true m (by omega) E hE _ follE_rbr _ (.inl a')).mono fun t s' ⟨g,a⟩ => ?_);have a' := a;obtain ⟨line3,rfl⟩ := a.tok tok_rbr;rw [isSign_st,if_pos (by decide)];refine Go.ok ?_;show Go (P.bnd (P.arrTurn (P.run m) line [t]) _ _) _;refine Go.bnd ?_;unfold P.arrTurn;rw [isSign_st,if_pos (by decide)];refine Go.bnd (go_need hF.has fun s' a => Go.ok (Go.ok ⟨⟨?_,?_⟩,a⟩))
  · show V.lst [sv [65,114,114,97,121],.lst [.lst [told t]]] = _;rw [g.1]
  · refine ⟨by unfold charsOk; decide,Nat.le_of_ble_eq_true rfl,fun u hu => ?_⟩;obtain rfl := List.mem_singleton.mp hu;refine ⟨Nat.le_of_ble_eq_true rfl,fun u hu => ?_⟩;obtain rfl := List.mem_singleton.mp hu;exact g.2
end
end Mine
end
section
open PySem PySem.W PySem.Calls PyProof.Rows Hd
namespace Mine
theorem good_nm {k : Nat} {x : List Nat} {line : Nat} (h : charsOk x) : T.good (k + 1) (.node [78,97,109,101] line [.str x]) :=
  ⟨by unfold charsOk; decide,Nat.le_of_ble_eq_true rfl,fun u hu => by obtain rfl := List.mem_singleton.mp hu; exact good_str h⟩
theorem px_upd {x : List Nat} (h : x∈ups) : PX .unary folls 4 2 x (nd [85,112,100,97,116,101] [sv [43,43],.lst [sv [98,111,111,108],.bool false],nm [97]]) := by
  intro n hn E hE r hF s a;obtain ⟨m,rfl⟩ : ∃ m,n = m + 4 := ⟨n - 4,by omega⟩;obtain ⟨q,hq,ns,st1,ht1⟩ : ∃ q,(x ++ r = 97 :: ([] ++ q))∧NoId q∧∃ st1,TokAt q .punct [43,43] st1 r false := by
    simp only [ups,List.mem_cons,List.not_mem_nil,or_false] at h
    rcases h with rfl | rfl
    · exact ⟨43 :: 43 :: r,rfl,noId_of (by decide) (by decide),_,tok_inc⟩
    · exact ⟨32 :: 43 :: 43 :: r,rfl,noId_of (by decide) (by decide),_,tok_inc.blank⟩
  rw [hq] at a;have ht := tok_word (c := 97) (x := []) (r := q) (by decide) rfl ns;have ns := a.name ht;show Go (P.unary (P.run (m + 3)) s) _;rw [unary_name ns.k];show Go (P.postf (P.run (m + 2)) s) _;unfold P.postf;refine Go.bnd ?_;show Go (P.leftHand (P.run (m + 1)) s) _;unfold P.leftHand;rw [word_name ns.k,if_neg Bool.false_ne_true];refine Go.bnd ?_;show Go (P.primary (P.run m) s) _;rw [primary_name (by rw [ns.k]; rfl)];refine Go.bnd (go_needName hE ns ⟨_,_,_,_,_,ht1⟩ fun s' a => Go.ok ?_);obtain ⟨line,rfl⟩ := a.tok ht1;refine Go.bnd (Go.ok ?_);show Go (P.bnd (P.callTurn (P.run (m + 1)) _) _ (stT E .punct [43,43] st1 r false line)) _;refine Go.bnd (Go.ok (Go.ok ?_));show Go (if ((KD.punct == KD.punct) && (P.isIn [43,43] P.steps && !false)) = true then _ else _) _;rw [if_pos (by decide)];refine Go.bnd ?_;unfold P.needTarget;rw [if_neg (by show ¬ (P.targetFault [78,97,109,101] [97] E.strict = true); rw [hE]; decide)];refine Go.ok ?_;refine Go.bnd (go_take hF.has fun s' a => Go.ok ⟨⟨rfl,?_⟩,a⟩);refine ⟨by unfold charsOk; decide,Nat.le_of_ble_eq_true rfl,fun u hu => ?_⟩
  rcases List.mem_cons.mp hu with rfl | hu
  · exact good_str (x := [43,43]) (by unfold charsOk; decide)
  rcases List.mem_cons.mp hu with rfl | hu
  · exact good_bool
  · obtain rfl := List.mem_singleton.mp hu;exact good_nm (by unfold charsOk; decide)
theorem px_ty {sp x : List Nat} {v : V} (hs : sp∈tys) (h : Leaf x v) (hst : Starts x) : PX .unary folls 5 2 (sp ++ x) (nd [85,110,97,114,121] [sv [116,121,112,101,111,102],v]) := by
  intro n hn E hE r hF s a;obtain ⟨m,rfl⟩ : ∃ m,n = m + 1 := ⟨n - 1,by omega⟩;obtain ⟨q,hq,ns,hat,hhas⟩ : ∃ q,((sp ++ x) ++ r = 116 :: ([121,112,101,111,102] ++ q))∧NoId q∧(∀ s,At E q s→AtF E (x ++ r) s)∧HasTok q := by
    obtain ⟨k,w,st,r',ht,_⟩ := hst r hF;simp only [tys,List.mem_cons,List.not_mem_nil,or_false] at hs
    rcases hs with rfl | rfl
    · exact ⟨32 :: (x ++ r),by simp,noId_of (by decide) (by decide),fun s a => .inl a,_,_,_,_,_,ht.blank⟩
    · exact ⟨10 :: (x ++ r),by simp,noId_of (by decide) (by decide),fun s a => .inr (.inl a),_,_,_,_,_,ht.nl⟩
  rw [hq] at a;have ht := tok_word (c := 116) (x := [121,112,101,111,102]) (r := q) (by decide) (by decide) ns;rw [show P.isIn (116 :: [121,112,101,111,102]) P.keywords = true by decide] at ht;obtain ⟨line,bl,rfl⟩ := a.tok ht (by decide);show Go (P.unary (P.run m) (stT E .keyword [116,121,112,101,111,102] _ q bl line)) _;have e : P.unary (P.run m) (stT E .keyword [116,121,112,101,111,102] (116 :: ([121,112,101,111,102] ++ q)) q bl line) =
    P.bnd P.take (fun _ => P.bnd (P.run m .unary) fun t => fun s' => if [116,121,112,101,111,102] == [100,101,108,101,116,101] && (s'.strict && P.kindOf t == [78,97,109,101]) then P.fail s' else .ok (.node [85,110,97,114,121] line [.str [116,121,112,101,111,102],t],s')) (stT E .keyword [116,121,112,101,111,102] (116 :: ([121,112,101,111,102] ++ q)) q bl line) := rfl
  rw [e];refine Go.bnd (go_take hhas fun s' a => ?_);refine Go.bnd ((px_leaf h m (by omega) E hE r hF s' (hat _ a)).mono fun t s' ⟨g,a⟩ => ?_);refine Go.ok ⟨⟨?_,?_⟩,a⟩
  · show V.lst [sv [85,110,97,114,121],.lst [sv [116,121,112,101,111,102],told t]] = _;rw [g.1]
  · refine ⟨by unfold charsOk; decide,Nat.le_of_ble_eq_true rfl,fun u hu => ?_⟩
    rcases List.mem_cons.mp hu with rfl | hu
    · exact good_str (x := [116,121,112,101,111,102]) (by unfold charsOk; decide)
    · obtain rfl := List.mem_singleton.mp hu;exact g.2
end Mine
end
section
open PySem PySem.W PySem.Calls PyProof.Rows Hd
namespace Mine
theorem withMembers_punct {t : T} {E : PS} {v st r' : List Nat} {bl : Bool} {line : Nat} (h1 : (v == [46]) = false) (h2 : (v == [91]) = false) : P.withMembers t (stT E .punct v st r' bl line) = .ok (t,stT E .punct v st r' bl line) := by
  unfold P.withMembers;rw [isSign_st,isSign_st,h1,h2,if_neg (by decide)]
theorem run_withMembers {m : Nat} {t : T} {s : PS} : P.run (m + 1) (.withMembers t) s = P.withMembers t s := rfl
theorem run_args {m : Nat} {s : PS} : P.run (m + 1) .arguments s = P.arguments (P.run m) s := rfl
section
variable {C : List Nat→V→Prop} {N K : Nat} (hA : ∀ x v,C x v→∀ i,PX (.assignment i) follE N K x v) (hX : ∀ x v,C x v→∀ i,PX (.expression i) [[41],[59],[125]] N K x v) (hS : ∀ x v,C x v→Starts x)
include hA hS
theorem go_args {x : List Nat} {v : V} (h : C x v) {m : Nat} (hm : N ≤ m) {E : PS} (hE : E.strict = false) {r st : List Nat} {bl : Bool} {line : Nat} (hF : HasTok r) {Q : T→PS→Prop}
    (hQ : ∀ t1 t2 s',told t1 = v→told t2 = v→T.good K t1→T.good K t2→At E r s'→Q (.lst [t1,t2]) s') : Go (P.arguments (P.run m) (stT E .punct [40] st (x ++ 44 :: 32 :: (x ++ 41 :: r)) bl line)) Q := by
  unfold P.arguments;refine Go.bnd (go_need ((hS _ _ h).has follE_comma.up) fun s' a => ?_);obtain ⟨k,w,st,r',ht,ok,_⟩ := hS _ _ h _ (follE_comma (r := 32 :: (x ++ 41 :: r))).up;have a' := a;obtain ⟨line2,rfl⟩ := a.tok ht;show Go (P.bnd (P.argTurn (P.run m) []) _ _) _;refine Go.bnd ?_;unfold P.argTurn;rw [isSign_st,okTok_no ok [41] (by decide),if_neg Bool.false_ne_true];refine Go.bnd ((hA _ _ h true m (by omega) E hE _ follE_comma _ (.inl a')).mono fun t1 s' ⟨g1,a⟩ => ?_);obtain ⟨line3,rfl⟩ := a.tok tok_comma;obtain ⟨k,w,st,r',ht,ok,_⟩ := hS _ _ h _ (follE_rpar (r := r)).up;refine Go.bnd (go_eat ⟨_,_,_,_,_,ht.blank⟩ fun s' a => ?_);rw [if_pos rfl];have a' : At E (x ++ 41 :: r) s' := a;obtain ⟨line4,rfl⟩ := At.tok a' ht;rw [isSign_st,okTok_no ok [41] (by decide),if_neg Bool.false_ne_true];refine Go.ok ?_;show Go (P.bnd (P.argTurn (P.run m) [t1]) _ _) _;refine Go.bnd ?_;unfold P.argTurn;rw [isSign_st,okTok_no ok [41] (by decide),if_neg Bool.false_ne_true];refine Go.bnd ((hA _ _ h true m (by omega) E hE _ follE_rpar _ (.inl a')).mono fun t2 s' ⟨g2,a⟩ => ?_);obtain ⟨line5,rfl⟩ := a.tok tok_rpar;refine Go.bnd (go_eat_no (by decide) ?_);rw [if_neg Bool.false_ne_true];refine Go.bnd (go_need hF fun s' a => Go.ok (Go.ok (hQ _ _ _ g1.1 g2.1 g1.2 g2.2 a)))
theorem px_call {x : List Nat} {v : V} (h : C x v) : PX .unary folls (N + 4) (K + 2) ([102,40] ++ x ++ [44,32] ++ x ++ [41]) (nd [67,97,108,108] [nm [102],.lst [v,v]]) := by
  intro n hn E hE r hF s a;obtain ⟨m,rfl⟩ : ∃ m,n = m + 4 := ⟨n - 4,by omega⟩;have e : ([102,40] ++ x ++ [44,32] ++ x ++ [41]) ++ r = 102 :: ([] ++ 40 :: (x ++ 44 :: 32 :: (x ++ 41 :: r))) := by simp
  rw [e] at a;have ht := tok_word (c := 102) (x := []) (r := 40 :: (x ++ 44 :: 32 :: (x ++ 41 :: r))) (by decide) rfl (noId_of (by decide) (by decide));have ns := a.name ht;show Go (P.unary (P.run (m + 3)) s) _;rw [unary_name ns.k];refine go_postfL ?_ hF;show Go (P.leftHand (P.run (m + 1)) s) _;unfold P.leftHand;rw [word_name ns.k,if_neg Bool.false_ne_true];refine Go.bnd ?_;show Go (P.primary (P.run m) s) _;rw [primary_name (by rw [ns.k]; rfl)];refine Go.bnd (go_needName hE ns ⟨_,_,_,_,_,tok_lpar⟩ fun s' a => Go.ok ?_);obtain ⟨line,rfl⟩ := a.tok tok_lpar;refine Go.bnd ?_;rw [run_withMembers,withMembers_punct (by decide) (by decide)];refine Go.ok ?_;refine Go.bnd ?_;unfold P.callTurn;rw [isSign_st,if_pos (by decide)];refine Go.bnd ?_;rw [run_args];refine go_args hA hS h (by omega) hE hF.has fun t1 t2 s' h1 h2 g1 g2 a => ?_;obtain ⟨w,st,r',bl,hw,htok⟩ := hF.tok;obtain ⟨f1,f2,f3,f4,f6⟩ := foll_facts w hw;have a' := a;obtain ⟨line2,rfl⟩ := a.tok htok;refine Go.bnd ?_;rw [run_withMembers,withMembers_punct f1 f2];refine Go.ok (Go.ok ?_);refine Go.bnd ?_;show Go (if ((KD.punct == KD.punct) && (w == [40])) = true then _ else _) _;rw [f3,if_neg (by decide)];refine Go.ok (Go.ok ⟨⟨?_,?_⟩,a'⟩)
  · show V.lst [sv [67,97,108,108],.lst [nm [102],.lst [told t1,told t2]]] = _;rw [h1,h2]
  · refine ⟨by unfold charsOk; decide,Nat.le_of_ble_eq_true rfl,fun u hu => ?_⟩
    rcases List.mem_cons.mp hu with rfl | hu
    · exact good_nm (by unfold charsOk; decide)
    obtain rfl := List.mem_singleton.mp hu;refine ⟨Nat.le_of_ble_eq_true rfl,fun u hu => ?_⟩
    rcases List.mem_cons.mp hu with rfl | hu
    · exact g1
    obtain rfl := List.mem_singleton.mp hu;exact g2
end
end Mine
end
section
open PySem PySem.W PySem.Calls PyProof.Rows Hd
namespace Mine
theorem folls_colon : ∀ v∈folls,(KD.punct == KD.punct && v == [58]) = false := by decide
theorem starts_leaf {x : List Nat} {v : V} (h : Leaf x v) : Starts x := by
  intro r hr;obtain ⟨w,st,r',bl,hw,htok⟩ := hr.tok
  cases h with
  | a => exact ⟨_,_,_,_,tok_word (c := 97) (x := []) (by decide) rfl hr.no,by decide,fun _ => ⟨_,_,_,_,_,htok,folls_colon w hw⟩⟩
  | b => exact ⟨_,_,_,_,tok_word (c := 98) (x := []) (by decide) rfl hr.no,by decide,fun _ => ⟨_,_,_,_,_,htok,folls_colon w hw⟩⟩
  | rx hp hf =>
    rename_i p f;obtain ⟨v,r',hv,ht⟩ := rx_tok hp (f ++ r);have e : ([47] ++ p ++ [47] ++ f) ++ r = 47 :: (p ++ 47 :: (f ++ r)) := by simp
    rw [e];exact ⟨_,_,_,_,ht,by rcases hv with rfl | rfl <;> decide,nofun⟩
theorem starts_opn {C : List Nat→V→Prop} {x : List Nat} {v : V} (h : OpN C x v) : Starts x := by
  intro r hr
  cases h with
  | leaf h => exact starts_leaf h r hr
  | paren h =>
    rename_i t;have e : ([40] ++ t ++ [41]) ++ r = 40 :: (t ++ 41 :: r) := by simp
    rw [e];exact ⟨_,_,_,_,tok_lpar,by decide,nofun⟩
  | arr h =>
    rename_i t v;have e : ([91] ++ t ++ [93]) ++ r = 91 :: (t ++ 93 :: r) := by simp
    rw [e];exact ⟨_,_,_,_,tok_lbr,by decide,nofun⟩
  | call h =>
    rename_i t v;have e : ([102,40] ++ t ++ [44,32] ++ t ++ [41]) ++ r = 102 :: ([] ++ 40 :: (t ++ 44 :: 32 :: (t ++ 41 :: r))) := by simp
    rw [e];exact ⟨_,_,_,_,tok_word (by decide) rfl (noId_of (by decide) (by decide)),by decide,fun _ => ⟨_,_,_,_,_,tok_lpar,by decide⟩⟩
  | upd h =>
    simp only [ups,List.mem_cons,List.not_mem_nil,or_false] at h
    rcases h with rfl | rfl
    · exact ⟨_,_,_,_,tok_word (c := 97) (x := []) (r := 43 :: 43 :: r) (by decide) rfl (noId_of (by decide) (by decide)),by decide,fun _ => ⟨_,_,_,_,_,tok_inc,by decide⟩⟩
    · exact ⟨_,_,_,_,tok_word (c := 97) (x := []) (r := 32 :: 43 :: 43 :: r) (by decide) rfl (noId_of (by decide) (by decide)),by decide,fun _ => ⟨_,_,_,_,_,tok_inc.blank,by decide⟩⟩
  | ty hs h =>
    rename_i sp t v;obtain ⟨q,hq,ns⟩ : ∃ q,((sp ++ t) ++ r = 116 :: ([121,112,101,111,102] ++ q))∧NoId q := by
      simp only [tys,List.mem_cons,List.not_mem_nil,or_false] at hs
      rcases hs with rfl | rfl
      · exact ⟨32 :: (t ++ r),by simp,noId_of (by decide) (by decide)⟩
      · exact ⟨10 :: (t ++ r),by simp,noId_of (by decide) (by decide)⟩
    rw [hq];exact ⟨_,_,_,_,tok_word (c := 116) (x := [121,112,101,111,102]) (by decide) (by decide) ns,by decide,nofun⟩
theorem starts_opr : ∀ (d : Nat) {x : List Nat} {v : V},OpR d x v→Starts x
  | 0,_,_,h => starts_leaf h
  | d + 1,_,_,h => starts_opn h
theorem starts_chr {d : Nat} {x : List Nat} {v : V} (h : ChR d x v) : Starts x := by
  obtain ⟨k,hk,h⟩ := h;exact ch_starts (fun _ _ h => starts_opr d h) h
theorem px_opn {C : List Nat→V→Prop} {N K : Nat} (h5 : 5 ≤ N) (hA : ∀ x v,C x v→∀ i,PX (.assignment i) follE N K x v) (hX : ∀ x v,C x v→∀ i,PX (.expression i) [[41],[59],[125]] N K x v) (hS : ∀ x v,C x v→Starts x)
    {x : List Nat} {v : V} (h : OpN C x v) : PX .unary folls (N + 5) (K + 2) x v := by
  cases h with
  | leaf h => exact (px_leaf h).le (by omega) (by omega)
  | paren h => exact (px_paren hA hX hS h).le (by omega) (by omega)
  | call h => exact (px_call hA hS h).le (by omega) (by omega)
  | upd h => exact (px_upd h).le (by omega) (by omega)
  | ty hs h => exact (px_ty hs h (starts_leaf h)).le (by omega) (by omega)
  | arr h => exact px_arr hA hX hS h
theorem px_opr : ∀ (d : Nat) {x : List Nat} {v : V},OpR d x v→PX .unary folls (4 + 10 * d) (1 + 4 * d) x v
  | 0,_,_,h => px_leaf h
  | d + 1,_,_,h => by
    have hO : ∀ x v,OpR d x v→PX .unary folls (4 + 10 * d) (1 + 4 * d) x v := fun x v h => px_opr d h;have hS : ∀ x v,OpR d x v→Starts x := fun x v h => starts_opr d h;have := px_opn (C := ChR d) (N := 4 + 10 * d + 5) (K := 1 + 4 * d + 2) (by omega) (fun x v ⟨k,hk,h⟩ i => (px_assign hO hS hk h).le (by omega) (Nat.le_refl _)) (fun x v ⟨k,hk,h⟩ i => px_expr hO hS hk h) (fun x v h => starts_chr h) h;exact this.le (by omega) (by omega)
theorem px_chr {d : Nat} (hd : d ≤ 2) {x : List Nat} {v : V} (h : ChR d x v) (i : Bool) : PX (.expression i) [[41],[59],[125]] 30 12 x v := by
  obtain ⟨k,hk,h⟩ := h;exact (px_expr (fun x v h => px_opr d h) (fun x v h => starts_opr d h) hk h).le (by omega) (by omega)
theorem px_cha {d : Nat} (hd : d ≤ 2) {x : List Nat} {v : V} (h : ChR d x v) (i : Bool) : PX (.assignment i) follE 30 12 x v := by
  obtain ⟨k,hk,h⟩ := h;exact (px_assign (fun x v h => px_opr d h) (fun x v h => starts_opr d h) hk h).le (by omega) (by omega)
end Mine
end
section
open PySem PySem.W PySem.Calls PyProof.Rows Hd
namespace Mine
theorem foll_semi {r : List Nat} : Foll [[41],[59],[125]] (59 :: r) := ⟨noId_of (by decide) (by decide),_,_,_,_,.tail _ (.head _),tok_semi⟩
theorem folls_semi {r : List Nat} : Foll folls (59 :: r) := ⟨noId_of (by decide) (by decide),_,_,_,_,by decide,tok_semi⟩
theorem go_ee {d : Nat} (hd : d ≤ 2) {x : List Nat} {v : V} (h : ChR d x v) {m : Nat} (hm : 30 ≤ m) {E s : PS} (hE : E.strict = false) {r : List Nat} (hr : HasTok r) (a : AtF E (x ++ 59 :: r) s) {f : T→T} {Q : T→PS→Prop}
    (hQ : ∀ t s',told t = v→T.good 12 t→At E r s'→Q (f t) s') : Go (P.bnd (P.run m (.expression true)) (fun t => P.bnd P.endStatement fun _ => P.ret (f t)) s) Q := by
  refine Go.bnd ((px_chr hd h true m hm E hE _ foll_semi s a).mono fun t s' ⟨g,a⟩ => ?_);obtain ⟨line,rfl⟩ := a.tok tok_semi;refine Go.bnd ?_;unfold P.endStatement;refine Go.bnd (go_eat hr fun s' a => ?_);rw [if_pos rfl];exact Go.ok (Go.ok (hQ t s' g.1 g.2 a))
theorem good_one {k : Nat} {kd : List Nat} {line : Nat} {t : T} (hk : charsOk kd) (h : T.good k t) : T.good (k + 1) (.node kd line [t]) :=
  ⟨hk,Nat.le_of_ble_eq_true rfl,fun u hu => by obtain rfl := List.mem_singleton.mp hu; exact h⟩
theorem go_plain {d : Nat} (hd : d ≤ 2) {x : List Nat} {v : V} (h : ChR d x v) {m : Nat} (hm : 30 ≤ m) {E s : PS} (hE : E.strict = false) {r : List Nat} (hr : HasTok r) (a : AtF E (x ++ 59 :: r) s) :
    Go (P.plainExpr (P.run m) s) fun t s' => (told t = nd [69,120,112,114] [v]∧T.good 13 t)∧At E r s' := by
  unfold P.plainExpr;refine go_ee hd h hm hE hr a fun t s' ht hg a => ⟨⟨?_,?_⟩,a⟩
  · show V.lst [sv [69,120,112,114],.lst [told t]] = _;rw [ht]
  · exact good_one (by unfold charsOk; decide) hg
end Mine
end
section
open PySem PySem.W PySem.Calls PyProof.Rows Hd
namespace Mine
structure EOk (E : PS) : Prop where
  st : E.strict = false
  pe : E.pend = 0
  la : E.labels = []
noncomputable def unp (E : PS) : PS := { E with pend := 0 }
theorem unp_same {E : PS} (h : E.pend = 0) : unp E = E := by cases E; cases h; rfl
noncomputable def AtS (E : PS) (r : List Nat) (s : PS) : Prop := At E r s ∨ At E (10 :: r) s
theorem AtS.tok {E s : PS} {r : List Nat} {k : KD} {v st r' : List Nat} {bl : Bool} (h : AtS E r s) (ht : TokAt r k v st r' bl) : ∃ line bl',s = stT E k v st r' bl' line := by
  rcases h with h | h
  · obtain ⟨line,e⟩ := h.tok ht; exact ⟨line,_,e⟩
  · obtain ⟨line,e⟩ := h.tok ht.nl; exact ⟨line,_,e⟩
theorem AtS.f {E s : PS} {r : List Nat} (h : AtS E r s) : AtF E r s := by
  rcases h with h | h
  · exact .inl h
  · exact .inr (.inl h)
theorem At.unp {E s : PS} {r : List Nat} (h : At E r s) : At (unp E) r (unp s) := by
  obtain ⟨line,t,x,e,rfl⟩ := h;exact ⟨line,t,x,e,rfl⟩
theorem AtS.unp {E s : PS} {r : List Nat} (h : AtS E r s) : AtS (unp E) r (unp s) := by
  rcases h with h | h
  · exact .inl h.unp
  · exact .inr h.unp
theorem stm_other {R : P.Rec} {E : PS} {k : KD} {v st r' : List Nat} {bl : Bool} {line : Nat} (hk : (k == KD.name) = false) : P.statement R (stT E k v st r' bl line) = P.stGo R (stT E k v st r' bl line) (stT (unp E) k v st r' bl line) := by
  unfold P.statement;show (if (k == KD.name) = true then (_ : PS→Res (T × PS)) else _) _ = _;rw [if_neg (by rw [hk]; exact Bool.false_ne_true)];rfl
theorem statement_name {R : P.Rec} {s : PS} (hk : s.tok.k = .name) : P.statement R s = P.bnd P.peek (fun k => if (k.k == .punct && k.v == [58]) = true then R (.labelled s.pend) else P.stGo R s) (unp s) := by
  have e : P.statement R s = (if (s.tok.k == KD.name) = true then P.bnd P.peek (fun k => if (k.k == .punct && k.v == [58]) = true then R (.labelled s.pend) else P.stGo R s) else P.stGo R s) (unp s) := rfl;rw [e,if_pos (by rw [hk]; decide)]
theorem go_peek {E : PS} {v st r' r k2 : List Nat} {kk : KD} {bl bl' : Bool} {line : Nat} {Q : Tk→PS→Prop} (h0 : TokAt r .name v st r' bl) {v2 st2 r2 : List Nat} {bl2 : Bool} (ht : TokAt r' kk v2 st2 r2 bl2)
    (hq : ∀ t s',t.k = kk→t.v = v2→AtP E r s'→Q t s') : Go (P.peek (stT E .name v st r' bl' line)) Q := by
  obtain ⟨l2,e⟩ := ht line;refine ⟨⟨kk,v2,[],0,l2,bl2,st2,r2,false,true⟩,stP E v st r' bl' line ⟨kk,v2,[],0,l2,bl2,st2,r2,false,true⟩ ⟨r2,l2⟩,?_,?_⟩
  · show (P.next ⟨r',line⟩).bind _ = _;rw [e];rfl
  · exact hq _ _ rfl rfl ⟨v,st,r',bl,bl',line,_,_,h0,e,rfl⟩
theorem go_stm_name {R : P.Rec} {E : PS} {v st r' r : List Nat} {bl bl' : Bool} {line : Nat} {Q : T→PS→Prop} (h0 : TokAt r .name v st r' bl) (h : ∃ k2 v2 st2 r2 bl2,TokAt r' k2 v2 st2 r2 bl2∧(k2 == .punct && v2 == [58]) = false)
    (hq : ∀ s',AtP (unp E) r s'→Go (P.stGo R (stT E .name v st r' bl' line) s') Q) : Go (P.statement R (stT E .name v st r' bl' line)) Q := by
  obtain ⟨k2,v2,st2,r2,bl2,ht,hc⟩ := h;rw [statement_name rfl];refine Go.bnd (go_peek (E := unp E) (k2 := []) h0 ht fun t s' e1 e2 ap => ?_);rw [e1,e2,hc,if_neg Bool.false_ne_true];exact hq _ ap
end Mine
end
section
open PySem PySem.W PySem.Calls PyProof.Rows Hd
namespace Mine
noncomputable def Nxt (r : List Nat) : Prop := ∃ k v st r' bl,TokAt r k v st r' bl∧(k == .keyword && v == [101,108,115,101]) = false
theorem Nxt.has {r : List Nat} (h : Nxt r) : HasTok r := by
  obtain ⟨k,v,st,r',bl,t,_⟩ := h;exact ⟨k,v,st,r',bl,t⟩
noncomputable def PStm (x : List Nat) (v : V) (N K : Nat) : Prop :=
  ∀ n,N ≤ n→∀ E : PS,EOk E→∀ r,Nxt r→∀ s,AtS E (x ++ r) s→Go (P.run n .statement s) fun t s' => (told t = v∧T.good K t)∧At E r s'
theorem run_statement {m : Nat} {s : PS} : P.run (m + 1) .statement s = P.statement (P.run m) s := rfl
theorem stGo_plain {R : P.Rec} {s s' : PS} (h1 : (s.tok.k == KD.keyword) = false) (h2 : P.isSign s' [123] = false) (h3 : P.isSign s' [59] = false) : P.stGo R s s' = R .plainExpr s' := by
  unfold P.stGo;rw [h1,Bool.false_and,if_neg Bool.false_ne_true,h2,if_neg Bool.false_ne_true];unfold P.bnd P.eat;rw [h3];rfl
theorem isSign_name {s : PS} {x : List Nat} (h : s.tok.k = .name) : P.isSign s x = false := by
  unfold P.isSign;rw [h];rfl
theorem atP_name {E s : PS} {r : List Nat} (h : AtP E r s) : s.tok.k = .name := by
  obtain ⟨v,st,r',b,b',line,t',x',h,hn,rfl⟩ := h;rfl
theorem stm_exprG {d : Nat} (hd : d ≤ 2) {x : List Nat} {v : V} (h : ChR d x v) {n : Nat} (hn : 40 ≤ n) {E : PS} (hE : E.strict = false) {r : List Nat} (hr : HasTok r) {s : PS} (a : AtS E (x ++ 59 :: r) s) : Go (P.run n .statement s) fun t s' => (told t = nd [69,120,112,114] [v]∧T.good 13 t)∧At (unp E) r s' := by
  obtain ⟨m,rfl⟩ : ∃ m,n = m + 4 := ⟨n - 4,by omega⟩;have a0 := a.unp;obtain ⟨k,w,st,r',ht,ok,hn2⟩ := starts_chr h _ (folls_semi (r := r));obtain ⟨line,bl,rfl⟩ := a.tok ht;show Go (P.statement (P.run (m + 3)) (stT E k w st r' bl line)) _
  cases hk : (k == KD.name) with
  | true =>
    have hk : k = .name := by cases k <;> first | rfl | cases hk
    subst hk;refine go_stm_name ht (hn2 rfl) fun s' ap => ?_;rw [stGo_plain rfl (isSign_name (atP_name ap)) (isSign_name (atP_name ap))];show Go (P.plainExpr (P.run (m + 2)) s') _;exact go_plain hd h (m := m + 2) (by omega) (E := unp E) hE hr (.inr (.inr ap))
  | false =>
    rw [stm_other hk]
    cases hk2 : (k == KD.keyword) with
    | false =>
      rw [stGo_plain hk2 (by rw [isSign_st]; exact okTok_no ok _ (by decide)) (by rw [isSign_st]; exact okTok_no ok _ (by decide))];show Go (P.plainExpr (P.run (m + 2)) _) _;exact go_plain hd h (m := m + 2) (by omega) (E := unp E) hE hr a0.f
    | true =>
      have hk : k = .keyword := by cases k <;> first | rfl | cases hk2
      subst hk;have hw : w = [116,121,112,101,111,102] := by
        unfold okTok at ok
        simpa using ok
      subst hw;show Go (P.plainExpr (P.run m) (stT (unp E) .keyword [116,121,112,101,111,102] st r' bl line)) _;exact go_plain hd h (m := m) (by omega) (E := unp E) hE hr a0.f
theorem stm_expr {d : Nat} (hd : d ≤ 2) {x : List Nat} {v : V} (h : ChR d x v) : PStm (x ++ [59]) (nd [69,120,112,114] [v]) 40 13 := by
  intro n hn E hE r hr s a;have e : (x ++ [59]) ++ r = x ++ 59 :: r := by simp
  rw [e] at a;have := stm_exprG hd h hn hE.st hr.has a
  rwa [unp_same hE.pe] at this
end Mine
end
section
open PySem PySem.W PySem.Calls PyProof.Rows Hd
namespace Mine
theorem stm_throw {d : Nat} (hd : d ≤ 2) {x : List Nat} {v : V} (h : ChR d x v) : PStm ([116,104,114,111,119,32] ++ x ++ [59]) (nd [84,104,114,111,119] [v]) 40 13 := by
  intro n hn E hE r hr s a;obtain ⟨m,rfl⟩ : ∃ m,n = m + 4 := ⟨n - 4,by omega⟩;have e : ([116,104,114,111,119,32] ++ x ++ [59]) ++ r = 116 :: ([104,114,111,119] ++ 32 :: (x ++ 59 :: r)) := by simp
  rw [e] at a;have ht := tok_word (c := 116) (x := [104,114,111,119]) (r := 32 :: (x ++ 59 :: r)) (by decide) (by decide) (noId_of (by decide) (by decide));rw [show P.isIn (116 :: [104,114,111,119]) P.keywords = true by decide] at ht;obtain ⟨line,bl,rfl⟩ := a.tok ht;show Go (P.statement (P.run (m + 3)) (stT E .keyword [116,104,114,111,119] _ _ bl line)) _;rw [stm_other (by decide),unp_same hE.pe];show Go (P.leaving (P.run (m + 1)) [116,104,114,111,119] (stT E .keyword [116,104,114,111,119] _ _ bl line)) _;obtain ⟨k,w,st,r',ht2,ok,hn2⟩ := starts_chr h _ (folls_semi (r := r));unfold P.leaving;refine Go.bnd (go_take ⟨_,_,_,_,_,ht2.blank⟩ fun s' a => ?_);rw [if_neg (by decide)];have a' : At E (x ++ 59 :: r) s' := a;obtain ⟨line2,rfl⟩ := At.tok a' ht2;show Go (P.bnd (P.run (m + 1) (.expression true)) (fun t => P.bnd P.endStatement fun _ => P.ret (T.node [84,104,114,111,119] line [t])) (stT E k w st r' false line2)) _;refine go_ee hd h (by omega) hE.st hr.has (.inl a') fun t s' ht hg a => ⟨⟨?_,?_⟩,a⟩
  · show V.lst [sv [84,104,114,111,119],.lst [told t]] = _;rw [ht]
  · exact good_one (by unfold charsOk; decide) hg
end Mine
end
section
open PySem PySem.W PySem.Calls PyProof.Rows Hd
namespace Mine
theorem go_needBinding {E s : PS} {v r' : List Nat} {Q : List Nat→PS→Prop} (hE : E.strict = false) (n : NameSt E v r' s) (ht : HasTok r') (h : ∀ s',At E r' s'→Q v s') : Go (P.needBinding s) Q := by
  unfold P.needBinding;rw [n.k,n.str,hE,if_pos (by decide),if_neg (by unfold P.bindFault P.nameFault; exact Bool.false_ne_true)];exact Go.bnd (go_takeN n ht fun s' a => .ok (by rw [n.v]; exact h s' a))
theorem stGo_var {m : Nat} {E : PS} {st r' : List Nat} {bl : Bool} {line : Nat} : P.stGo (P.run (m + 3)) (stT E .keyword [118,97,114] st r' bl line) (stT E .keyword [118,97,114] st r' bl line) = P.bnd P.take (fun _ => P.bnd (P.run (m + 2) (.variables true)) fun v => P.bnd P.endStatement fun _ => P.ret (T.node [86,97,114] line [v])) (stT E .keyword [118,97,114] st r' bl line) := rfl
theorem run_vars {m : Nat} {i : Bool} {s : PS} : P.run (m + 1) (.variables i) s = P.loopM P.LN (P.varTurn (P.run m) i) [] s := rfl
theorem follE_semi {r : List Nat} : Foll follE (59 :: r) := ⟨noId_of (by decide) (by decide),_,_,_,_,by decide,tok_semi⟩
theorem stm_var {d : Nat} (hd : d ≤ 2) {x : List Nat} {v : V} (h : ChR d x v) : PStm ([118,97,114,32,118,32,61,32] ++ x ++ [59]) (nd [86,97,114] [.lst [.lst [sv [118],v]]]) 40 15 := by
  intro n hn E hE r hr s a;obtain ⟨m,rfl⟩ : ∃ m,n = m + 4 := ⟨n - 4,by omega⟩;have e : ([118,97,114,32,118,32,61,32] ++ x ++ [59]) ++ r = 118 :: ([97,114] ++ 32 :: (118 :: ([] ++ 32 :: 61 :: 32 :: (x ++ 59 :: r)))) := by simp
  rw [e] at a;have ht := tok_word (c := 118) (x := [97,114]) (r := 32 :: (118 :: ([] ++ 32 :: 61 :: 32 :: (x ++ 59 :: r)))) (by decide) (by decide) (noId_of (by decide) (by decide));rw [show P.isIn (118 :: [97,114]) P.keywords = true by decide,if_pos rfl] at ht;have ht3 := tok_word (c := 118) (x := []) (r := 32 :: 61 :: 32 :: (x ++ 59 :: r)) (by decide) rfl (noId_of (by decide) (by decide));obtain ⟨line,bl,rfl⟩ := a.tok ht;obtain ⟨k,w,st,r',ht2,ok,hn2⟩ := starts_chr h _ (folls_semi (r := r));rw [run_statement,stm_other (by decide),unp_same hE.pe];rw [stGo_var];refine Go.bnd (go_take ⟨_,_,_,_,_,ht3.blank⟩ fun s' a => ?_);have a : At E (118 :: ([] ++ 32 :: 61 :: 32 :: (x ++ 59 :: r))) s' := a;refine Go.bnd ?_;rw [run_vars];show Go (P.bnd (P.varTurn (P.run (m + 1)) true []) _ s') _;refine Go.bnd ?_;unfold P.varTurn;refine Go.bnd (go_needBinding hE.st (AtF.name (.inl a) ht3) ⟨_,_,_,_,_,tok_eq.blank⟩ fun s' a => ?_);obtain ⟨line2,rfl⟩ := a.tok tok_eq.blank;refine Go.bnd (go_eat ⟨_,_,_,_,_,ht2.blank⟩ fun s' a => ?_);refine Go.bnd ?_;rw [if_pos rfl];refine (px_cha hd h true (m + 1) (by omega) E hE.st _ follE_semi s' (.inl a)).mono fun t s' ⟨g,a⟩ => ?_;obtain ⟨line3,rfl⟩ := a.tok tok_semi;refine Go.bnd (go_eat_no (by decide) ?_);rw [if_neg Bool.false_ne_true];refine Go.ok (Go.ok ?_);refine Go.bnd ?_;unfold P.endStatement;refine Go.bnd (go_eat hr.has fun s' a => ?_);rw [if_pos rfl];refine Go.ok (Go.ok ⟨⟨?_,?_⟩,a⟩)
  · show V.lst [sv [86,97,114],.lst [.lst [.lst [sv [118],told t]]]] = _;rw [g.1]
  · refine good_one (by unfold charsOk; decide) ?_;refine ⟨Nat.le_of_ble_eq_true rfl,fun u hu => ?_⟩;obtain rfl := List.mem_singleton.mp hu;refine ⟨Nat.le_of_ble_eq_true rfl,fun u hu => ?_⟩
    rcases List.mem_cons.mp hu with rfl | hu
    · exact good_str (by unfold charsOk; decide)
    obtain rfl := List.mem_singleton.mp hu;exact g.2
end Mine
end
section
open PySem PySem.W PySem.Calls PyProof.Rows Hd
namespace Mine
theorem asg_tok {w : List Nat} (hw : w∈asgs) (r : List Nat) : ∃ st,TokAt (32 :: (w ++ 32 :: r)) .punct w st (32 :: r) false := by
  simp only [asgs,List.mem_cons,List.not_mem_nil,or_false] at hw
  rcases hw with rfl | rfl
  · exact ⟨_,tok_eq.blank⟩
  · exact ⟨_,tok_dveq.blank⟩
theorem asg_facts : ∀ w∈asgs,w∈follC∧P.isIn w P.assigning = true∧charsOk w∧(KD.punct == KD.punct && w == [58]) = false := by unfold charsOk; decide
theorem foll_asg {w : List Nat} (hw : w∈asgs) (r : List Nat) : Foll follC (32 :: (w ++ 32 :: r)) := by
  obtain ⟨st,h⟩ := asg_tok hw r;exact ⟨noId_of (by decide) (by decide),_,_,_,_,(asg_facts w hw).1,h⟩
theorem go_bin1 {m : Nat} {i : Bool} {E s : PS} {r : List Nat} {G : T→Prop} (h : Go (P.run m .unary s) fun t s' => G t∧At E r s') (hF : Foll follC r) : Go (P.run (m + 1) (.binary 1 i) s) fun t s' => G t∧At E r s' := by
  show Go (P.bnd (P.run m .unary) (fun left => P.loopM P.LN (P.binTurn (P.run m) 1 i) left) s) _;refine Go.bnd (h.mono fun t s' ⟨g,a⟩ => ?_);obtain ⟨w,st,r',bl,hw,ht⟩ := hF.tok;have a' := a;obtain ⟨line,rfl⟩ := a.tok ht;show Go (P.bnd (P.binTurn (P.run m) 1 i t) _ (stT E .punct w st r' bl line)) _;refine Go.bnd ?_;show Go (if 1 ≤ P.prioOf P.prios w then _ else _) _;rw [if_neg (by have := prio_follC w hw; omega)];exact Go.ok (Go.ok ⟨g,a'⟩)
theorem go_cond1 {m : Nat} {i : Bool} {E s : PS} {r : List Nat} {G : T→Prop} (h : Go (P.run m .unary s) fun t s' => G t∧At E r s') (hF : Foll follC r) : Go (P.run (m + 2) (.conditional i) s) fun t s' => G t∧At E r s' := by
  show Go (P.conditional (P.run (m + 1)) i s) _;unfold P.conditional;refine Go.bnd ((go_bin1 h hF).mono fun t s' ⟨g,a⟩ => ?_);obtain ⟨w,st,r',bl,hw,htok⟩ := hF.tok;have f2 := follC_facts w hw;have a' := a;obtain ⟨line,rfl⟩ := a.tok htok;refine Go.bnd (go_eat_no (by rw [f2]; rfl) ?_);exact Go.ok ⟨g,a'⟩
theorem go_nameU {c : Nat} (hc : P.isIdStart (c : Int) = true) (hk : P.isIn [c] P.keywords = false) {m : Nat} {E s : PS} {r : List Nat} (hE : E.strict = false) (hf : Foll folls r) (a : AtF E ([c] ++ r) s) : Go (P.run (m + 4) .unary s) fun t s' => (∃ line,t = .node [78,97,109,101] line [.str [c]])∧At E r s' := by
  have ht := tok_word (c := c) (x := []) (r := r) hc rfl hf.no;rw [hk] at ht;have ns := a.name ht;show Go (P.unary (P.run (m + 3)) s) _;rw [unary_name ns.k];refine go_postf (word_name ns.k) ?_ hf;show Go (P.primary (P.run m) s) _;rw [primary_name (by rw [ns.k]; rfl)];exact Go.bnd (go_needName hE ns hf.has fun s' a => .ok ⟨⟨_,rfl⟩,a⟩)
theorem px_asg {w : List Nat} (hw : w∈asgs) {d : Nat} (hd : d ≤ 2) {x : List Nat} {v : V} (h : ChR d x v) {i : Bool} : PX (.assignment i) follE 40 14 ([97,32] ++ w ++ [32] ++ x) (nd [65,115,115,105,103,110] [sv w,nm [97],v]) := by
  intro n hn E hE r hF s a;obtain ⟨m,rfl⟩ : ∃ m,n = m + 7 := ⟨n - 7,by omega⟩;have e : ([97,32] ++ w ++ [32] ++ x) ++ r = [97] ++ (32 :: (w ++ 32 :: (x ++ r))) := by simp
  rw [e] at a;obtain ⟨f1,f2,f3,f4⟩ := asg_facts w hw;obtain ⟨st,ht⟩ := asg_tok hw (x ++ r);obtain ⟨k,w2,st2,r',ht2,ok,hn2⟩ := starts_chr h r hF.up;show Go (P.assignment (P.run (m + 6)) i s) _;unfold P.assignment;refine Go.bnd ((go_cond1 (go_nameU (by decide) (by decide) hE (foll_asg hw _).upF a) (foll_asg hw _)).mono fun t s' ⟨⟨ln,g⟩,a⟩ => ?_);subst g;obtain ⟨line,rfl⟩ := a.tok ht;show Go (if ((KD.punct == KD.punct) && P.isIn w P.assigning) = true then _ else _) _;rw [f2,if_pos (by decide)];refine Go.bnd ?_;unfold P.needTarget;rw [if_neg (by show ¬ (P.targetFault [78,97,109,101] [97] E.strict = true); rw [hE]; decide)];refine Go.ok ?_;refine Go.bnd (go_take ⟨_,_,_,_,_,ht2.blank⟩ fun s' a => ?_);refine Go.bnd ((px_cha hd h i (m + 6) (by omega) E hE r hF s' (.inl a)).mono fun t s' ⟨g,a⟩ => ?_);refine Go.ok ⟨⟨?_,?_⟩,a⟩
  · show V.lst [sv [65,115,115,105,103,110],.lst [sv w,nm [97],told t]] = _;rw [g.1]
  · refine ⟨by unfold charsOk; decide,Nat.le_of_ble_eq_true rfl,fun u hu => ?_⟩
    rcases List.mem_cons.mp hu with rfl | hu
    · exact good_str f3
    rcases List.mem_cons.mp hu with rfl | hu
    · exact good_nm (by unfold charsOk; decide)
    · obtain rfl := List.mem_singleton.mp hu;exact g.2.le (Nat.le_of_ble_eq_true rfl)
theorem px_ex1 {N K : Nat} {x : List Nat} {v : V} {i : Bool} (h : PX (.assignment i) follE N K x v) : PX (.expression i) [[41],[59],[125]] (N + 1) K x v := by
  intro n hn E hE r hF s a;obtain ⟨m,rfl⟩ : ∃ m,n = m + 1 := ⟨n - 1,by omega⟩;obtain ⟨w,st,r',bl,hw,htok⟩ := hF.tok;have hw2 : w∈follE∧(w == [44]) = false := by
    have : ∀ w∈[[41],[59],[125]],w∈follE∧(w == [44]) = false := by decide
    exact this w hw
  show Go (P.expression (P.run m) i s) _;unfold P.expression;refine Go.bnd ((h m (by omega) E hE r ⟨hF.no,_,st,r',bl,hw2.1,htok⟩ s a).mono fun t s' ⟨g,a⟩ => ?_);have a' := a;obtain ⟨line,rfl⟩ := a.tok htok;show Go (if ((KD.punct == KD.punct) && (w == [44])) = true then _ else _) _;rw [hw2.2,if_neg (by decide)];exact Go.ok ⟨g,a'⟩
theorem stm_asg {w : List Nat} (hw : w∈asgs) {d : Nat} (hd : d ≤ 2) {x : List Nat} {v : V} (h : ChR d x v) : PStm ([97,32] ++ w ++ [32] ++ x ++ [59]) (nd [69,120,112,114] [nd [65,115,115,105,103,110] [sv w,nm [97],v]]) 50 15 := by
  intro n hn E hE r hr s a;obtain ⟨m,rfl⟩ : ∃ m,n = m + 4 := ⟨n - 4,by omega⟩;have e : ([97,32] ++ w ++ [32] ++ x ++ [59]) ++ r = ([97,32] ++ w ++ [32] ++ x) ++ 59 :: r := by simp
  have e2 : ([97,32] ++ w ++ [32] ++ x) ++ 59 :: r = 97 :: ([] ++ 32 :: (w ++ 32 :: (x ++ 59 :: r))) := by simp
  rw [e,e2] at a;have ht := tok_word (c := 97) (x := []) (r := 32 :: (w ++ 32 :: (x ++ 59 :: r))) (by decide) rfl (noId_of (by decide) (by decide));obtain ⟨f1,f2,f3,f4⟩ := asg_facts w hw;obtain ⟨st,ht2⟩ := asg_tok hw (x ++ 59 :: r);obtain ⟨line,bl,rfl⟩ := a.tok ht;rw [run_statement];refine go_stm_name ht ⟨_,_,_,_,_,ht2,f4⟩ fun s' ap => ?_;rw [unp_same hE.pe,← e2] at ap;rw [stGo_plain rfl (isSign_name (atP_name ap)) (isSign_name (atP_name ap))];show Go (P.plainExpr (P.run (m + 2)) s') _;unfold P.plainExpr;refine Go.bnd ((px_ex1 (px_asg hw hd h) (m + 2) (by omega) E hE.st _ foll_semi s' (.inr (.inr ap))).mono fun t s' ⟨g,a⟩ => ?_);obtain ⟨line,rfl⟩ := a.tok tok_semi;refine Go.bnd ?_;unfold P.endStatement;refine Go.bnd (go_eat hr.has fun s' a => ?_);rw [if_pos rfl];refine Go.ok (Go.ok ⟨⟨?_,?_⟩,a⟩)
  · show V.lst [sv [69,120,112,114],.lst [told t]] = _;rw [g.1]
  · exact good_one (by unfold charsOk; decide) g.2
end Mine
end
section
open PySem PySem.W PySem.Calls PyProof.Rows Hd
namespace Mine
theorem foll_rcur {r : List Nat} : Foll [[41],[59],[125]] (10 :: 125 :: r) := ⟨noId_of (by decide) (by decide),_,_,_,_,by decide,tok_rcur.nl⟩
theorem go_plain_a {m : Nat} (hm : 30 ≤ m) {E s : PS} (hE : E.strict = false) {r : List Nat} (a : AtF E ([97] ++ 10 :: 125 :: r) s) :
    Go (P.plainExpr (P.run m) s) fun t s' => (told t = nd [69,120,112,114] [nm [97]]∧T.good 13 t)∧At E (10 :: 125 :: r) s' := by
  unfold P.plainExpr;refine Go.bnd ((px_expr (O := Leaf) (N := 4) (K := 1) (fun _ _ h => px_leaf h) (fun _ _ h => starts_leaf h) (k := 0) (by omega) (.one .a) m (by omega) E hE _ foll_rcur s a).mono fun t s' ⟨g,a⟩ => ?_);have a' := a;obtain ⟨line,rfl⟩ := a.tok tok_rcur.nl;refine Go.bnd ?_;unfold P.endStatement;refine Go.bnd (go_eat_no (by decide) ?_);rw [if_neg Bool.false_ne_true];refine Go.ok (Go.ok ⟨⟨?_,?_⟩,a'⟩)
  · show V.lst [sv [69,120,112,114],.lst [told t]] = _;rw [g.1]
  · exact good_one (by unfold charsOk; decide) (g.2.le (by omega))
theorem stGo_blk {R : P.Rec} {E : PS} {st r' : List Nat} {bl : Bool} {line : Nat} : P.stGo R (stT E .punct [123] st r' bl line) (stT E .punct [123] st r' bl line) = P.bnd (R .block) (fun b => P.ret (T.node [66,108,111,99,107] line [b])) (stT E .punct [123] st r' bl line) := rfl
theorem run_block {m : Nat} {s : PS} : P.run (m + 1) .block s = P.bnd (P.need [123]) (fun _ => P.loopM P.LN (P.blockTurn (P.run m)) []) s := rfl
theorem stm_blk : PStm [123,97,10,125] (nd [66,108,111,99,107] [.lst [nd [69,120,112,114] [nm [97]]]]) 50 15 := by
  intro n hn E hE r hr s a;obtain ⟨m,rfl⟩ : ∃ m,n = m + 6 := ⟨n - 6,by omega⟩;have a : AtS E (123 :: (97 :: ([] ++ 10 :: 125 :: r))) s := a;have ht := tok_word (c := 97) (x := []) (r := 10 :: 125 :: r) (by decide) rfl (noId_of (by decide) (by decide));obtain ⟨line,bl,rfl⟩ := a.tok tok_lcur;rw [run_statement,stm_other (by decide),unp_same hE.pe,stGo_blk];refine Go.bnd ?_;rw [run_block];refine Go.bnd (go_need ⟨_,_,_,_,_,ht⟩ fun s' a => ?_);obtain ⟨line2,rfl⟩ := a.tok ht;show Go (P.bnd (P.blockTurn (P.run (m + 4)) []) _ _) _;refine Go.bnd ?_;unfold P.blockTurn;rw [isSign_st,if_neg (by decide)];refine Go.bnd ?_;rw [run_statement];refine go_stm_name ht ⟨_,_,_,_,_,tok_rcur.nl,by decide⟩ fun s' ap => ?_;rw [unp_same hE.pe] at ap;rw [stGo_plain rfl (isSign_name (atP_name ap)) (isSign_name (atP_name ap))];show Go (P.plainExpr (P.run (m + 2)) s') _;refine (go_plain_a (by omega) hE.st (.inr (.inr ap))).mono fun t s' ⟨g,a⟩ => ?_;refine Go.ok ?_;obtain ⟨line3,rfl⟩ := a.tok tok_rcur.nl;show Go (P.bnd (P.blockTurn (P.run (m + 4)) [t]) _ _) _;refine Go.bnd ?_;unfold P.blockTurn;rw [isSign_st,if_pos (by decide)];refine Go.bnd (go_need hr.has fun s' a => Go.ok (Go.ok (Go.ok ⟨⟨?_,?_⟩,a⟩)))
  · show V.lst [sv [66,108,111,99,107],.lst [.lst [told t]]] = _;rw [g.1]
  · refine good_one (by unfold charsOk; decide) ?_;refine ⟨Nat.le_of_ble_eq_true rfl,fun u hu => ?_⟩;obtain rfl := List.mem_singleton.mp hu;exact g.2
theorem run_lab {m k : Nat} {s : PS} : P.run (m + 1) (.labelled k) s = P.labelled (P.run m) k s := rfl
theorem stm_lab {d : Nat} (hd : d ≤ 2) {x : List Nat} {v : V} (h : ChR d x v) : PStm ([108,58,32] ++ x ++ [59]) (nd [76,97,98,101,108,108,101,100] [sv [108],nd [69,120,112,114] [v]]) 50 15 := by
  intro n hn E hE r hr s a;obtain ⟨m,rfl⟩ : ∃ m,n = m + 2 := ⟨n - 2,by omega⟩;have e : ([108,58,32] ++ x ++ [59]) ++ r = 108 :: ([] ++ 58 :: 32 :: (x ++ 59 :: r)) := by simp
  rw [e] at a;have ht := tok_word (c := 108) (x := []) (r := 58 :: 32 :: (x ++ 59 :: r)) (by decide) rfl (noId_of (by decide) (by decide));have htc := tok_colon (r := 32 :: (x ++ 59 :: r));obtain ⟨k,w,st,r',ht2,ok,hn2⟩ := starts_chr h _ (folls_semi (r := r));obtain ⟨line,bl,rfl⟩ := a.tok ht;rw [run_statement,statement_name rfl];refine Go.bnd (go_peek (E := unp E) (k2 := []) ht htc fun t s' e1 e2 ap => ?_);rw [e1,e2,if_pos (by decide),run_lab];rw [unp_same hE.pe] at ap;unfold P.labelled;refine Go.bnd (go_needName hE.st (AtF.name (.inr (.inr ap)) ht) ⟨_,_,_,_,_,htc⟩ fun s' a => ?_);obtain ⟨line2,rfl⟩ := a.tok htc;refine Go.bnd (go_take ⟨_,_,_,_,_,ht2.blank⟩ fun s' a => ?_);have a : At E (x ++ 59 :: r) s' := a;have hl : s'.labels = [] := by obtain ⟨_,_,_,_,rfl⟩ := a; exact hE.la
  rw [hl,if_neg (by decide)];refine Go.bnd ?_;unfold P.mod;refine Go.ok ?_;have a2 : At { E with labels := [([108],false)],pend := E.pend + 1 } (x ++ 59 :: r) { s' with labels := [([108],false)],pend := E.pend + 1 } := by
    obtain ⟨ln,t,x,e,rfl⟩ := a;exact ⟨ln,t,x,e,rfl⟩
  refine Go.bnd ((stm_exprG hd h (n := m) (by omega) (E := { E with labels := [([108],false)],pend := E.pend + 1 }) hE.st hr.has (.inl a2)).mono fun t s4 ⟨g,a⟩ => ?_);obtain ⟨ln,tk,lx,e,rfl⟩ := a;rw [if_pos (show ((_ : Nat) == 0) = true from rfl)];refine Go.ok ⟨⟨?_,?_⟩,ln,tk,lx,e,?_⟩
  · show V.lst [sv [76,97,98,101,108,108,101,100],.lst [sv [108],told t]] = _;rw [g.1]
  · refine ⟨by unfold charsOk; decide,Nat.le_of_ble_eq_true rfl,fun u hu => ?_⟩
    rcases List.mem_cons.mp hu with rfl | hu
    · exact good_str (by unfold charsOk; decide)
    · obtain rfl := List.mem_singleton.mp hu;exact g.2.le (Nat.le_of_ble_eq_true rfl)
  · obtain ⟨e1,e2,e3⟩ := hE
    cases E
    cases e2
    cases e3
    rfl
end Mine
end
section
open PySem PySem.W PySem.Calls PyProof.Rows Hd
namespace Mine
theorem run_condition {m : Nat} {s : PS} : P.run (m + 1) .condition s = P.condition (P.run m) s := rfl
theorem go_condition {h : List Nat} {u : V} (hu : ChR 1 h u) {m : Nat} (hm : 30 ≤ m) {E s : PS} (hE : E.strict = false) {q : List Nat} (hq : HasTok q) (a : At E (40 :: (h ++ 41 :: q)) s) :
    Go (P.run (m + 1) .condition s) fun t s' => (told t = u∧T.good 12 t)∧At E q s' := by
  rw [run_condition];unfold P.condition;obtain ⟨line,rfl⟩ := a.tok tok_lpar;refine Go.bnd (go_need ((starts_chr hu).has follE_rpar.up) fun s' a => ?_);refine Go.bnd ((px_chr (by decide) hu true m hm E hE _ foll_rpar s' (.inl a)).mono fun t s' ⟨g,a⟩ => ?_);obtain ⟨line,rfl⟩ := a.tok tok_rpar;exact Go.bnd (go_need hq fun s' a => Go.ok ⟨g,a⟩)
theorem nxt_word {k : KD} {v st r' : List Nat} {bl : Bool} {E : PS} {line : Nat} (h : (k == .keyword && v == [101,108,115,101]) = false) : P.isWord (stT E k v st r' bl line) [101,108,115,101] = false := by
  show ((k == .keyword && v == [101,108,115,101]) && true) = false;rw [h];rfl
theorem stm_if {h x : List Nat} {u v : V} (hu : ChR 1 h u) (hv : ChR 2 x v) : PStm ([105,102,32,40] ++ h ++ [41,32] ++ x ++ [59]) (nd [73,102] [u,nd [69,120,112,114] [v],.none]) 60 15 := by
  intro n hn E hE r hr s a;obtain ⟨m,rfl⟩ : ∃ m,n = m + 6 := ⟨n - 6,by omega⟩;have e : ([105,102,32,40] ++ h ++ [41,32] ++ x ++ [59]) ++ r = 105 :: ([102] ++ 32 :: 40 :: (h ++ 41 :: 32 :: (x ++ 59 :: r))) := by simp
  rw [e] at a;have ht := tok_word (c := 105) (x := [102]) (r := 32 :: 40 :: (h ++ 41 :: 32 :: (x ++ 59 :: r))) (by decide) (by decide) (noId_of (by decide) (by decide));rw [show P.isIn (105 :: [102]) P.keywords = true by decide] at ht;obtain ⟨line,bl,rfl⟩ := a.tok ht;obtain ⟨k,w,st,r',ht2,ok,hn2⟩ := starts_chr hv _ (folls_semi (r := r));rw [run_statement];show Go (P.statement (P.run (m + 5)) (stT E .keyword [105,102] _ _ bl line)) _;rw [stm_other (by decide),unp_same hE.pe];show Go (P.choice (P.run (m + 2)) (stT E .keyword [105,102] _ _ bl line)) _;unfold P.choice;refine Go.bnd (go_take ⟨_,_,_,_,_,tok_lpar.blank⟩ fun s' a => ?_);refine Go.bnd ((go_condition hu (m := m + 1) (by omega) hE.st (q := 32 :: (x ++ 59 :: r)) ⟨_,_,_,_,_,ht2.blank⟩ a).mono fun tu s' ⟨gu,a⟩ => ?_);have a : At E (x ++ 59 :: r) s' := a;refine Go.bnd ((stm_exprG (by decide) hv (n := m + 2) (by omega) hE.st hr.has (.inl a)).mono fun tv s' ⟨gv,a⟩ => ?_);rw [unp_same hE.pe] at a;obtain ⟨k,w,st,r',bl2,ht3,hne⟩ := hr;have a' := a;obtain ⟨line2,rfl⟩ := a.tok ht3;rw [nxt_word hne,if_neg Bool.false_ne_true];refine Go.ok ⟨⟨?_,?_⟩,a'⟩
  · show V.lst [sv [73,102],.lst [told tu,told tv,.none]] = _;rw [gu.1,gv.1]
  · refine ⟨by unfold charsOk; decide,Nat.le_of_ble_eq_true rfl,fun u hu => ?_⟩
    rcases List.mem_cons.mp hu with rfl | hu
    · exact gu.2.le (Nat.le_of_ble_eq_true rfl)
    rcases List.mem_cons.mp hu with rfl | hu
    · exact gv.2.le (Nat.le_of_ble_eq_true rfl)
    · obtain rfl := List.mem_singleton.mp hu;exact good_none
theorem run_loopBody {m : Nat} {s : PS} : P.run (m + 1) .loopBody s = P.loopBody (P.run m) s := rfl
theorem go_loopBody {x : List Nat} {v : V} (hv : ChR 2 x v) {m : Nat} (hm : 40 ≤ m) {E s : PS} (hE : EOk E) {r : List Nat} (hr : HasTok r) (a : At E (x ++ 59 :: r) s) :
    Go (P.run (m + 1) .loopBody s) fun t s' => (told t = nd [69,120,112,114] [v]∧T.good 13 t)∧At E r s' := by
  rw [run_loopBody];unfold P.loopBody;refine Go.bnd ?_;unfold P.mod;refine Go.ok ?_;have a2 : At { E with loops := s.loops + 1 } (x ++ 59 :: r) { s with loops := s.loops + 1 } := by
    obtain ⟨ln,t,x,e,rfl⟩ := a;exact ⟨ln,t,x,e,rfl⟩
  have hl : s.loops = E.loops := by obtain ⟨_,_,_,_,rfl⟩ := a; rfl
  refine Go.bnd ((stm_exprG (by decide) hv (n := m) hm (E := { E with loops := s.loops + 1 }) hE.st hr (.inl a2)).mono fun t s4 ⟨g,a⟩ => ?_);obtain ⟨ln,tk,lx,e,rfl⟩ := a;rw [if_neg (by show ¬ ((s.loops + 1 == 0) = true); rw [beq_iff_eq]; omega)];refine Go.ok ⟨g,ln,tk,lx,e,?_⟩;obtain ⟨e1,e2,e3⟩ := hE;rw [hl]
  cases E
  cases e2
  rfl
theorem stm_while {h x : List Nat} {u v : V} (hu : ChR 1 h u) (hv : ChR 2 x v) : PStm ([119,104,105,108,101,32,40] ++ h ++ [41,32] ++ x ++ [59]) (nd [87,104,105,108,101] [u,nd [69,120,112,114] [v]]) 60 15 := by
  intro n hn E hE r hr s a;obtain ⟨m,rfl⟩ : ∃ m,n = m + 6 := ⟨n - 6,by omega⟩;have e : ([119,104,105,108,101,32,40] ++ h ++ [41,32] ++ x ++ [59]) ++ r = 119 :: ([104,105,108,101] ++ 32 :: 40 :: (h ++ 41 :: 32 :: (x ++ 59 :: r))) := by simp
  rw [e] at a;have ht := tok_word (c := 119) (x := [104,105,108,101]) (r := 32 :: 40 :: (h ++ 41 :: 32 :: (x ++ 59 :: r))) (by decide) (by decide) (noId_of (by decide) (by decide));rw [show P.isIn (119 :: [104,105,108,101]) P.keywords = true by decide] at ht;obtain ⟨line,bl,rfl⟩ := a.tok ht;obtain ⟨k,w,st,r',ht2,ok,hn2⟩ := starts_chr hv _ (folls_semi (r := r));rw [run_statement];show Go (P.statement (P.run (m + 5)) (stT E .keyword [119,104,105,108,101] _ _ bl line)) _;rw [stm_other (by decide),unp_same hE.pe];show Go (P.loop (P.run (m + 2)) [119,104,105,108,101] E.pend (stT E .keyword [119,104,105,108,101] _ _ bl line)) _;rw [hE.pe];unfold P.loop;rw [if_pos (by decide)];refine Go.bnd (go_take ⟨_,_,_,_,_,tok_lpar.blank⟩ fun s' a => ?_);rw [if_pos (by decide)];refine Go.bnd ((go_condition hu (m := m + 1) (by omega) hE.st (q := 32 :: (x ++ 59 :: r)) ⟨_,_,_,_,_,ht2.blank⟩ a).mono fun tu s' ⟨gu,a⟩ => ?_);have a : At E (x ++ 59 :: r) s' := a;refine Go.bnd ((go_loopBody hv (m := m + 1) (by omega) hE hr.has a).mono fun tv s' ⟨gv,a⟩ => ?_);refine Go.ok ⟨⟨?_,?_⟩,a⟩
  · show V.lst [sv [87,104,105,108,101],.lst [told tu,told tv]] = _;rw [gu.1,gv.1]
  · refine ⟨by unfold charsOk; decide,Nat.le_of_ble_eq_true rfl,fun u hu => ?_⟩
    rcases List.mem_cons.mp hu with rfl | hu
    · exact gu.2.le (Nat.le_of_ble_eq_true rfl)
    · obtain rfl := List.mem_singleton.mp hu;exact gv.2.le (Nat.le_of_ble_eq_true rfl)
end Mine
end
section
open PySem PySem.W PySem.Calls PyProof.Rows Hd
namespace Mine
noncomputable def rowWords : List (List Nat) := [[105,102],[119,104,105,108,101],[116,104,114,111,119],[118,97,114],[116,121,112,101,111,102]]
noncomputable def okRow (k : KD) (v : List Nat) : Bool := (k == .name || k == .punct) || (k == .keyword && P.isIn v rowWords)
noncomputable def RowTok (x : List Nat) : Prop := ∀ r,∃ k v st r',TokAt (x ++ r) k v st r' false∧okRow k v = true
theorem okRow_facts {k : KD} {v : List Nat} (h : okRow k v = true) : (k == KD.end_) = false∧(k == KD.text) = false∧(k == .keyword && v == [102,117,110,99,116,105,111,110]) = false∧(k == .keyword && v == [101,108,115,101]) = false := by
  have key : ∀ v∈rowWords,(v == [102,117,110,99,116,105,111,110]) = false∧(v == [101,108,115,101]) = false := by decide
  cases k with
  | keyword =>
    have h : P.isIn v rowWords = true := h;obtain ⟨w,hw,e⟩ := List.any_eq_true.mp h;obtain rfl := beq_iff_eq.mp e;obtain ⟨a,b⟩ := key w hw;rw [a,b];exact ⟨rfl,rfl,rfl,rfl⟩
  | name => exact ⟨rfl,rfl,rfl,rfl⟩
  | punct => exact ⟨rfl,rfl,rfl,rfl⟩
  | _ => cases h
theorem Nxt.row {x r : List Nat} (h : RowTok x) : Nxt (x ++ r) := by
  obtain ⟨k,v,st,r',t,ok⟩ := h r;exact ⟨k,v,st,r',_,t,(okRow_facts ok).2.2.2⟩
noncomputable def PRow (x : List Nat) (vs : List V) : Prop :=
  ∀ n,70 ≤ n→∀ E : PS,EOk E→∀ r,Nxt r→∀ s,AtS E (x ++ r) s→∀ (j : Nat) (acc : List T) (Q : T→PS→Prop),
    (∀ ts s',ts.map told = vs→(∀ t∈ts,T.good 15 t)→At E r s'→Go (P.loopM j (P.bodyTurn (P.run n)) (acc ++ ts) s') Q)→Go (P.loopM (j + vs.length) (P.bodyTurn (P.run n)) acc s) Q
theorem one_row {x : List Nat} {v : V} {N K : Nat} (h : PStm x v N K) (hN : N ≤ 60) (hK : K ≤ 15) (hx : RowTok x) : PRow x [v] := by
  intro n hn E hE r hr s a j acc Q hq;obtain ⟨m,rfl⟩ : ∃ m,n = m + 1 := ⟨n - 1,by omega⟩;obtain ⟨k,w,st,r',ht,ok⟩ := hx r;obtain ⟨f1,f2,f3,f4⟩ := okRow_facts ok;show Go (P.bnd (P.bodyTurn (P.run (m + 1)) acc) _ s) _;refine Go.bnd ?_;have a0 := a;obtain ⟨line,bl,rfl⟩ := a.tok ht;show Go (if (k == KD.end_) = true then _ else if (k == KD.text) = true then _ else _) _;rw [f1,f2,if_neg Bool.false_ne_true,if_neg Bool.false_ne_true];refine Go.bnd ?_;show Go (if ((k == .keyword && w == [102,117,110,99,116,105,111,110]) && true) = true then _ else P.run m .statement (stT E k w st r' bl line)) _;rw [f3,Bool.false_and,if_neg Bool.false_ne_true];refine (h m (by omega) E hE r hr _ a0).mono fun t s' ⟨g,a⟩ => ?_;refine Go.ok ?_;exact hq [t] s' (by rw [List.map_cons,g.1]; rfl) (fun u hu => by obtain rfl := List.mem_singleton.mp hu; exact g.2.le hK) a
theorem skipB_up : ∀ (n : Nat) (s s' : Lx),P.skipB n s = .ok s'→P.skipB (n + 1) s = .ok s'
  | 0,_,_,h => by cases h
  | n + 1,s,s',h => by
    unfold P.skipB at h ⊢
    split at h
    · rename_i c; rw [if_pos c]; exact skipB_up n _ _ h
    · rename_i c; rw [if_neg c]
      split at h
      · rename_i c; rw [if_pos c]; exact skipB_up n _ _ h
      · rename_i c; rw [if_neg c]
        split at h
        · rename_i c; rw [if_pos c]; exact skipB_up n _ _ h
        · rename_i c; rw [if_neg c]
          split at h
          · cases h
          · rename_i c; rw [if_neg c]; exact h
theorem skipB_up5 {n : Nat} {s s' : Lx} (h : P.skipB n s = .ok s') : P.skipB (n + 5) s = .ok s' := skipB_up _ _ _ (skipB_up _ _ _ (skipB_up _ _ _ (skipB_up _ _ _ (skipB_up _ _ _ h))))
noncomputable def cmt (r : List Nat) : List Nat := 32 :: 47 :: 47 :: 32 :: 47 :: 120 :: 47 :: 10 :: r
theorem cmt_next {r : List Nat} {line : Nat} {p : Tk × Lx} (h : P.next ⟨10 :: r,line⟩ = .ok p) : P.next ⟨cmt r,line⟩ = .ok p := by
  unfold P.next P.skip at h ⊢;have e1 : P.skipB ((⟨cmt r,line⟩ : Lx).rest.length + 1) ⟨cmt r,line⟩ = P.skipB ((⟨10 :: r,line⟩ : Lx).rest.length + 1 + 5) ⟨10 :: r,line⟩ := rfl;rw [e1]
  cases q : P.skipB ((⟨10 :: r,line⟩ : Lx).rest.length + 1) ⟨10 :: r,line⟩ with
  | ok s => rw [q] at h; rw [skipB_up5 q]; exact h
  | fail n => rw [q] at h; cases h
  | out => rw [q] at h; cases h
theorem tok_end : TokAt [] .end_ [] [] [] false := by
  intro line;refine ⟨line,?_⟩;show P.nextAt ⟨[],line⟩ (P.tk0 line (decide (line < line)) []) = _;rw [decide_eq_false (Nat.lt_irrefl _)];rfl
theorem TokAt.cmt {r : List Nat} {k : KD} {v st r' : List Nat} {bl : Bool} (h : TokAt r k v st r' bl) : TokAt (cmt r) k v st r' true := by
  intro line;obtain ⟨l',h⟩ := h.nl line;exact ⟨l',cmt_next h⟩
theorem ends_cases {e : List Nat} (he : e∈ends) : e = [10] ∨ e = [32] ∨ e = cmt [] := by
  simp only [ends,List.mem_cons,List.not_mem_nil,or_false] at he;exact he
theorem ends_tok {e : List Nat} (he : e∈ends) {r : List Nat} {k : KD} {v st r' : List Nat} {bl : Bool} (h : TokAt r k v st r' bl) : ∃ bl2,TokAt (e ++ r) k v st r' bl2 := by
  rcases ends_cases he with rfl | rfl | rfl
  · exact ⟨_,h.nl⟩
  · exact ⟨_,h.blank⟩
  · exact ⟨_,h.cmt⟩
theorem ends_at {e : List Nat} (he : e∈ends) {E s : PS} {r : List Nat} (h : HasTok r) (a : At E (e ++ r) s) : AtS E r s := by
  rcases ends_cases he with rfl | rfl | rfl
  · exact .inr a
  · exact .inl a
  · obtain ⟨k,v,st,r',bl,ht⟩ := h;obtain ⟨line,t,x,e,rfl⟩ := a;obtain ⟨l',e'⟩ := ht.nl line;have e2 : P.next ⟨Mine.cmt r,line⟩ = .ok (t,x) := e;rw [cmt_next e'] at e2
    cases e2
    exact .inr ⟨line,_,_,e',rfl⟩
theorem two_rows {x y e : List Nat} {vs ws : List V} (h : PRow x vs) (h' : PRow y ws) (hy : RowTok y) (he : e∈ends) : PRow (x ++ e ++ y) (vs ++ ws) := by
  intro n hn E hE r hr s a j acc Q hq;have e1 : (x ++ e ++ y) ++ r = x ++ (e ++ (y ++ r)) := by simp
  rw [e1] at a;have e2 : j + (vs ++ ws).length = (j + ws.length) + vs.length := by rw [List.length_append]; omega
  rw [e2];have hn2 : Nxt (e ++ (y ++ r)) := by
    obtain ⟨k,v,st,r',bl,t,ne⟩ := Nxt.row (r := r) hy;obtain ⟨bl2,t⟩ := ends_tok he t;exact ⟨k,v,st,r',bl2,t,ne⟩
  refine h n hn E hE _ hn2 s a _ acc Q fun ts s' e3 g a => ?_;refine h' n hn E hE r hr s' (ends_at he (Nxt.row hy).has a) _ _ Q fun us s' e4 g' a => ?_;rw [List.append_assoc];refine hq (ts ++ us) s' (by rw [List.map_append,e3,e4]) (fun t ht => ?_) a
  rcases List.mem_append.mp ht with ht | ht
  · exact g t ht
  · exact g' t ht
theorem rowTok_word {c : Nat} {x y : List Nat} (hc : P.isIdStart (c : Int) = true) (hx : x.all (fun c => P.isIdPart (c : Int)) = true) (hk : okRow (if P.isIn (c :: x) P.keywords then .keyword else .name) (c :: x) = true) (hy : ∀ r,NoId (y ++ r)) : RowTok (c :: (x ++ y)) := by
  intro r;have e : (c :: (x ++ y)) ++ r = c :: (x ++ (y ++ r)) := by simp
  rw [e];exact ⟨_,_,_,_,tok_word hc hx (hy r),hk⟩
theorem rowTok_app {x y z : List Nat} (h : RowTok x) (e : z = x ++ y) : RowTok z := by
  subst e;intro r;rw [List.append_assoc];exact h _
theorem RowTok.app {x y : List Nat} (h : RowTok x) : RowTok (x ++ y) := rowTok_app h rfl
theorem rowTok_expr {d : Nat} {x : List Nat} {v : V} (h : ChR d x v) : RowTok (x ++ [59]) := by
  intro r;obtain ⟨k,w,st,r',ht,ok,_⟩ := starts_chr h _ (folls_semi (r := r));have e : (x ++ [59]) ++ r = x ++ 59 :: r := by simp
  rw [e];refine ⟨_,_,_,_,ht,?_⟩
  cases k with
  | keyword =>
    have hw : w = [116,121,112,101,111,102] := by
      unfold okTok at ok
      simpa using ok
    subst hw
    decide
  | name => rfl
  | punct => rfl
  | _ => cases ok
theorem row_ {x : List Nat} {vs : List V} (h : RowR x vs) : PRow x vs∧RowTok x := by
  cases h with
  | if_ hu hv =>
    have t : RowTok [105,102,32,40] := rowTok_word (c := 105) (x := [102]) (y := [32,40]) (by decide) (by decide) (by decide) fun r => noId_of (by decide) (by decide);exact ⟨one_row (stm_if hu hv) (by omega) (by omega) t.app.app.app.app,t.app.app.app.app⟩
  | while_ hu hv =>
    have t : RowTok [119,104,105,108,101,32,40] := rowTok_word (c := 119) (x := [104,105,108,101]) (y := [32,40]) (by decide) (by decide) (by decide) fun r => noId_of (by decide) (by decide);exact ⟨one_row (stm_while hu hv) (by omega) (by omega) t.app.app.app.app,t.app.app.app.app⟩
  | asg hw hv =>
    have t : RowTok [97,32] := rowTok_word (c := 97) (x := []) (y := [32]) (by decide) (by decide) (by decide) fun r => noId_of (by decide) (by decide);exact ⟨one_row (stm_asg hw (by decide) hv) (by omega) (by omega) t.app.app.app.app,t.app.app.app.app⟩
  | blk hv =>
    rename_i t v;have h1 : RowTok [123,97,10,125] := fun r => ⟨_,_,_,_,tok_lcur,by decide⟩;have e : [123,97,10,125,32] ++ t ++ [59] = [123,97,10,125] ++ [32] ++ (t ++ [59]) := by simp
    rw [e];refine ⟨two_rows (one_row stm_blk (by omega) (by omega) h1) (one_row (stm_expr (by decide) hv) (by omega) (by omega) (rowTok_expr hv)) (rowTok_expr hv) (by decide),?_⟩;exact rowTok_app h1 (List.append_assoc _ _ _)
  | lab hv =>
    have t : RowTok [108,58,32] := rowTok_word (c := 108) (x := []) (y := [58,32]) (by decide) (by decide) (by decide) fun r => noId_of (by decide) (by decide);exact ⟨one_row (stm_lab (by decide) hv) (by omega) (by omega) t.app.app,t.app.app⟩
  | thr hv =>
    have t : RowTok [116,104,114,111,119,32] := rowTok_word (c := 116) (x := [104,114,111,119]) (y := [32]) (by decide) (by decide) (by decide) fun r => noId_of (by decide) (by decide);exact ⟨one_row (stm_throw (by decide) hv) (by omega) (by omega) t.app.app,t.app.app⟩
  | var hv =>
    have t : RowTok [118,97,114,32,118,32,61,32] := rowTok_word (c := 118) (x := [97,114]) (y := [32,118,32,61,32]) (by decide) (by decide) (by decide) fun r => noId_of (by decide) (by decide);exact ⟨one_row (stm_var (by decide) hv) (by omega) (by omega) t.app.app,t.app.app⟩
  | expr hv => exact ⟨one_row (stm_expr (by decide) hv) (by omega) (by omega) (rowTok_expr hv),rowTok_expr hv⟩
end Mine
end
section
open PySem PySem.W PySem.Calls PyProof.Rows Hd
namespace Mine
noncomputable def asc (x : List Nat) : Bool := x.all fun c => decide (c < 128)
theorem asc_app {x y : List Nat} (h : asc x = true) (h' : asc y = true) : asc (x ++ y) = true := by
  unfold asc at *;rw [List.all_append,h,h'];rfl
theorem asc_mem {l : List (List Nat)} (h : l.all asc = true) {x : List Nat} (hx : x∈l) : asc x = true := List.all_eq_true.mp h x hx
theorem asc_leaf {x : List Nat} {v : V} (h : Leaf x v) : asc x = true := by
  cases h with
  | a => decide
  | b => decide
  | rx hp hf => exact asc_app (asc_app (asc_app (by decide) (asc_mem (by decide +kernel) hp)) (by decide)) (asc_mem (by decide +kernel) hf)
theorem asc_chs {O : List Nat→V→Prop} (hO : ∀ t v,O t v→asc t = true) : ∀ {k : Nat} {t : List Nat} {v : V},ChS O k t v→asc t = true
  | _,_,_,.one h => hO _ _ h
  | _,_,_,.more h h' hs => asc_app (asc_app (asc_chs hO h) (asc_mem (by decide +kernel) hs)) (hO _ _ h')
theorem asc_opn {C : List Nat→V→Prop} (hC : ∀ t v,C t v→asc t = true) {t : List Nat} {v : V} (h : OpN C t v) : asc t = true := by
  cases h with
  | leaf h => exact asc_leaf h
  | paren h => exact asc_app (asc_app (by decide) (hC _ _ h)) (by decide)
  | call h => exact asc_app (asc_app (asc_app (asc_app (by decide) (hC _ _ h)) (by decide)) (hC _ _ h)) (by decide)
  | upd h => exact asc_mem (by decide +kernel) h
  | ty hs h => exact asc_app (asc_mem (by decide +kernel) hs) (asc_leaf h)
  | arr h => exact asc_app (asc_app (by decide) (hC _ _ h)) (by decide)
theorem asc_opr : ∀ (d : Nat) {t : List Nat} {v : V},OpR d t v→asc t = true
  | 0,_,_,h => asc_leaf h
  | d + 1,_,_,h => asc_opn (fun t v ⟨k,hk,h⟩ => asc_chs (fun t v h => asc_opr d h) h) h
theorem asc_chr {d : Nat} {t : List Nat} {v : V} (h : ChR d t v) : asc t = true := by
  obtain ⟨k,hk,h⟩ := h;exact asc_chs (fun t v h => asc_opr d h) h
theorem asc_row {t : List Nat} {vs : List V} (h : RowR t vs) : asc t = true := by
  cases h with
  | if_ hu hv => exact asc_app (asc_app (asc_app (asc_app (by decide) (asc_chr hu)) (by decide)) (asc_chr hv)) (by decide)
  | while_ hu hv => exact asc_app (asc_app (asc_app (asc_app (by decide) (asc_chr hu)) (by decide)) (asc_chr hv)) (by decide)
  | asg hw hv => exact asc_app (asc_app (asc_app (asc_app (by decide) (asc_mem (by decide +kernel) hw)) (by decide)) (asc_chr hv)) (by decide)
  | blk hv => exact asc_app (asc_app (by decide) (asc_chr hv)) (by decide)
  | lab hv => exact asc_app (asc_app (by decide) (asc_chr hv)) (by decide)
  | thr hv => exact asc_app (asc_app (by decide) (asc_chr hv)) (by decide)
  | var hv => exact asc_app (asc_app (by decide) (asc_chr hv)) (by decide)
  | expr hv => exact asc_app (asc_chr hv) (by decide)
theorem asc_rows {i : Nat} {t : List Nat} {vs : List V} (h : RowsR i t vs) : asc t = true := by
  induction h with
  | nil => rfl
  | snoc h hr he ih => exact asc_app (asc_app ih (asc_row hr)) (asc_mem (by decide +kernel) he)
theorem txt_ok {t : List Nat} {vs : List V} (h : RowsR 2 t vs) : TxtOk t := by
  refine ⟨by have := h.len; omega,fun c hc => ?_⟩;have := List.all_eq_true.mp (asc_rows h) c hc;exact of_decide_eq_true this
theorem good_fits : ∀ {k : Nat} {t : T},T.good k t→T.fits k t
  | _,.none,_ => by unfold T.fits; trivial
  | _,.bool _,_ => by unfold T.fits; trivial
  | _,.int _,h => by unfold T.good at h; exact h.elim
  | _,.str x,_ => by unfold T.fits; trivial
  | k + 1,.lst ts,h => by unfold T.good at h; unfold T.fits; exact ⟨h.1,fun t ht => good_fits (h.2 t ht)⟩
  | k + 1,.tup ts,h => by unfold T.good at h; unfold T.fits; exact ⟨h.1,fun t ht => good_fits (h.2 t ht)⟩
  | k + 1,.node kd m ts,h => by unfold T.good at h; unfold T.fits; exact ⟨h.2.1,fun t ht => good_fits (h.2.2 t ht)⟩
  | 0,.lst ts,h => h.elim
  | 0,.tup ts,h => h.elim
  | 0,.node kd m ts,h => h.elim
theorem eqok_sv {k : Nat} {x : List Nat} (h : charsOk x) : V.eqok k (sv x) := by
  have e : PyData.strOk (SS x) = true := by
    unfold PyData.strOk;show (x.toArray.all _) = true;rw [List.all_toArray];exact List.all_eq_true.mpr fun c hc => decide_eq_true (h c hc)
  show V.eqok k (.str (SS x));unfold V.eqok;exact e
theorem eqok_bool {k : Nat} {b : Bool} : V.eqok k (.bool b) := by unfold V.eqok; trivial
theorem eqok_up : ∀ {k : Nat} {v : V},V.eqok k v→V.eqok (k + 1) v
  | _,.none,_ => by unfold V.eqok; trivial
  | _,.bool _,_ => by unfold V.eqok; trivial
  | _,.int _,_ => by unfold V.eqok; trivial
  | _,.str x,h => by unfold V.eqok at h ⊢; exact h
  | k + 1,.lst ts,h => by unfold V.eqok at h ⊢; exact fun t ht => eqok_up (h t ht)
  | k + 1,.tup ts,h => by unfold V.eqok at h ⊢; exact fun t ht => eqok_up (h t ht)
  | 0,.lst ts,h => h.elim
  | 0,.tup ts,h => h.elim
  | k,.ref a,hq => by simp [V.eqok] at hq
  | k,.bi a,hq => by simp [V.eqok] at hq
  | k,.ty a,hq => by simp [V.eqok] at hq
  | k,.dct ks vs,hq => by simp [V.eqok] at hq
  | k,.obj C ks vs,hq => by simp [V.eqok] at hq
theorem eqok_le {k k' : Nat} {v : V} (h : V.eqok k v) (hk : k ≤ k') : V.eqok k' v := by
  induction hk with
  | refl => exact h
  | step _ ih => exact eqok_up ih
theorem good_eqok : ∀ {k : Nat} {t : T},T.good k t→V.eqok (2 * k + 1) (told t)
  | _,.none,_ => by show V.eqok _ .none; unfold V.eqok; trivial
  | k,.bool b,_ => by
    show V.eqok (2 * k + 1) (.lst [sv [98,111,111,108],.bool b]);intro v hv
    rcases List.mem_cons.mp hv with rfl | hv
    · exact eqok_sv (by unfold charsOk; decide)
    · obtain rfl := List.mem_singleton.mp hv;exact eqok_bool
  | _,.int _,h => by unfold T.good at h; exact h.elim
  | _,.str x,h => by unfold T.good at h; exact eqok_sv h
  | k + 1,.lst ts,h => by
    unfold T.good at h;show V.eqok (2 * k + 2 + 1) (.lst (tolds ts));rw [tolds_map];intro v hv;obtain ⟨t,ht,rfl⟩ := List.mem_map.mp hv;exact eqok_up (good_eqok (h.2 t ht))
  | k + 1,.tup ts,h => by
    unfold T.good at h;show V.eqok (2 * k + 2 + 1) (.lst (tolds ts));rw [tolds_map];intro v hv;obtain ⟨t,ht,rfl⟩ := List.mem_map.mp hv;exact eqok_up (good_eqok (h.2 t ht))
  | k + 1,.node kd m ts,h => by
    unfold T.good at h;show V.eqok (2 * k + 2 + 1) (.lst [sv kd,.lst (tolds ts)]);intro v hv
    rcases List.mem_cons.mp hv with rfl | hv
    · exact eqok_sv h.1
    obtain rfl := List.mem_singleton.mp hv;show V.eqok (2 * k + 1 + 1) (.lst (tolds ts));rw [tolds_map];intro v hv;obtain ⟨t,ht,rfl⟩ := List.mem_map.mp hv;exact good_eqok (h.2.2 t ht)
  | 0,.lst ts,h => h.elim
  | 0,.tup ts,h => h.elim
  | 0,.node kd m ts,h => h.elim
theorem plain_law : PlainLaw := by
  intro text due h;refine ⟨txt_ok h,?_⟩;obtain ⟨s1,e1,s2,e2,vs1,vs2,r1,r2,h1,h2,rfl,rfl⟩ : ∃ s1 e1 s2 e2 vs1 vs2,RowR s1 vs1∧RowR s2 vs2∧e1∈ends∧e2∈ends∧text = (s1 ++ e1 ++ s2) ++ e2∧due = vs1 ++ vs2 := by
    cases h with
    | snoc h hr he =>
      cases h with
      | snoc h hr' he' =>
        cases h with
        | nil => exact ⟨_,_,_,_,_,_,hr',hr,he',he,by simp,by simp⟩
  obtain ⟨p1,t1⟩ := row_ r1;obtain ⟨p2,t2⟩ := row_ r2;have p := two_rows p1 p2 t2 h1;have t : RowTok (s1 ++ e1 ++ s2) := rowTok_app t1 (List.append_assoc _ _ _);obtain ⟨bl,te⟩ := ends_tok h2 tok_end;rw [List.append_nil] at te;obtain ⟨k,v,st,r',ht,ok⟩ := t e2;obtain ⟨line,en⟩ := ht 1
  generalize hE : (⟨⟨r',line⟩,⟨k,v,[],0,line,false,st,r',false,true⟩,none,false,0,[],0,0,0⟩ : PS) = E
  have hb : P.begin ((s1 ++ e1 ++ s2) ++ e2) = .ok E := by
    unfold P.begin;rw [en,← hE];rfl
  have hA : At E ((s1 ++ e1 ++ s2) ++ e2) E := ⟨1,_,_,en,by rw [← hE]⟩;have hO : EOk E := by rw [← hE]; exact ⟨rfl,rfl,rfl⟩
  have hl : (vs1 ++ vs2).length ≤ 4 := by have := r1.len; have := r2.len; rw [List.length_append]; omega
  have go : Go (P.run 100 .body E) fun t s' => (∃ ts,t = .lst ts∧ts.map told = vs1 ++ vs2∧∀ t∈ts,T.good 15 t)∧s'.strict = false := by
    show Go (P.loopM P.LN (P.bodyTurn (P.run 99)) [] E) _;have e : P.LN = ((3999 - (vs1 ++ vs2).length) + 1) + (vs1 ++ vs2).length := by show 4000 = _; omega
    rw [e];refine p 99 (by omega) E hO e2 ⟨_,_,_,_,_,te,by decide⟩ E (.inl hA) _ [] _ fun ts s' e3 g a => ?_;show Go (P.bnd (P.bodyTurn (P.run 99) ([] ++ ts)) _ s') _;refine Go.bnd ?_;obtain ⟨line2,rfl⟩ := a.tok te;unfold P.bodyTurn;rw [if_pos (show ((stT E KD.end_ [] [] [] bl line2).tok.k == KD.end_) = true from rfl)];exact Go.ok (Go.ok ⟨⟨ts,rfl,e3,g⟩,hO.st⟩)
  obtain ⟨t,s',er,⟨ts,rfl,e3,g⟩,hs⟩ := go;have gt : T.good 17 (.node [80,114,111,103,114,97,109] 1 [.lst ts,.bool false]) := by
    refine ⟨by unfold charsOk; decide,Nat.le_of_ble_eq_true rfl,fun u hu => ?_⟩
    rcases List.mem_cons.mp hu with rfl | hu
    · refine ⟨?_,g⟩;have := congrArg List.length e3;rw [List.length_map] at this;omega
    · obtain rfl := List.mem_singleton.mp hu;exact good_bool
  refine ⟨.node [80,114,111,103,114,97,109] 1 [.lst ts,.bool false],?_,good_fits (gt.le (Nat.le_of_ble_eq_true rfl)),?_,?_⟩
  · unfold P.parse;rw [hb];show Res.bind (P.run 100 .body E) _ = _;rw [er];show Res.ok (T.node [80,114,111,103,114,97,109] 1 [.lst ts,.bool s'.strict]) = _;rw [hs]
  · show V.lst [sv [80,114,111,103,114,97,109],.lst [.lst (tolds ts),.lst [sv [98,111,111,108],.bool false]]] = _;rw [tolds_map,e3]
  · exact eqok_le (good_eqok gt) (Nat.le_of_ble_eq_true rfl)
end Mine
end
section
open PySem PySem.W PySem.Calls PyProof.Rows Hd
namespace Mine
theorem well_ints {P : Params} {fz : Fz} {h : Heap} : ∀ (ns : List Int) (vs : List Value),WellAll P h vs (ofPys (ns.map .int))→VRs P fz (ns.map .int) vs
  | [],_,w => by cases w; trivial
  | n :: ns,_,w => by
    cases w with
    | cons a b =>
      cases a
      exact ⟨vr_int,well_ints ns _ b⟩
theorem entry {w : World} {s₁ : Shared} {mean : ExcName→Option Value} {mg mb : Str→Option Value} {fa sa : Addr} {cd : Value} {ns : List Int} {h₁ : Heap} {m : Str→Option Value} {tk : Nat} (Y : YP w s₁.heap) (T : Top qv (looseW qv loose) mean mg mb s₁.heap) (hg : s₁.gens = #[])
    (F : Fr s₁.heap s₁.heap.objs.size h₁ m) (hm : m (Str.ofString "script") = some (.ref sa)) (WL : Well w.params s₁.heap (.ref sa) (ofPy (.list (ns.map .int)))) (hl : ¬ ((63 : Int) < (ns.length : Int))) {Q : Flow→Shared→Prop} {E : Value→Shared→Prop}
    (hq : ∀ s',(∀ b o,s₁.heap.get? b = some o→s'.heap.get? b = some o)→s'.os = s₁.os→s'.gens = #[]→Q (.ret (.bool true)) s') :
    wpAny (model RW.row.prog w) (callerA.deeper (envOf lawD.name lawD.scope s₁.heap.objs.size fa cd)) (execs lawD.body (envOf lawD.name lawD.scope s₁.heap.objs.size fa cd)) Q E { heap := h₁,gens := s₁.gens,drawn := s₁.drawn,toks := tk,os := s₁.os } := by
  have hN : ns.length < 1000000 := by omega
  have kin : (KK w.params).In s₁.heap := fun a o e => Y a o (KK_in w.params a o e);have hmg : mg = gmap w.params := by
    obtain ⟨o,es,ep,ho,hd,_,hf⟩ := T.g;have k3 : s₁.heap.get? mainGlobals = some (oD (gents w.params) 106) := kin 3 _ rfl;rw [k3] at ho
    cases ho
    cases hd
    exact funext fun x => (hf x).symm
  subst hmg
  cases WL with
  | list hget hw =>
    rename_i vs;have hV : VRs w.params (fzOf (W0 w mb [(sa,listO vs 0)]).B [] (fun _ => none)) (ns.map V.int) vs := well_ints ns vs hw;refine (law_body_ (w := w) (mb := mb) (xt := [(sa,listO vs 0)]) (X := fun _ _ => False) (H := fun _ => none) T.builtins plain_law hN).go ⟨callerA,callerA.deeper (envOf lawD.name lawD.scope s₁.heap.objs.size fa cd),s₁.heap,s₁.heap,[],s₁.heap.objs.size,fa,lawD.name,lawD.scope,cd⟩ [] (fun _ => none) _ Q E rfl ?_ ?_ ?_
    · refine ⟨below_caller _,rfl,rfl,kin,fun p hp => ?_,topRead_of T,rfl,Nat.le_of_ble_eq_true rfl,Nat.le_of_ble_eq_true rfl,fun _ _ x => x⟩;obtain rfl := List.mem_singleton.mp hp;exact hget
    · refine ⟨⟨m,F,fun x v e => ?_⟩,(fun p hp => nomatch hp),(fun a o e => nomatch e),List.nodup_nil,hg⟩
      by_cases hx : x = "script"
      · subst hx;have e' : V.lst (ns.map .int) = v := by
          have : lget [("script",V.lst (ns.map .int))] "script" = some (V.lst (ns.map .int)) := rfl;rw [this] at e;exact Option.some.inj e
        subst e';refine ⟨_,hm,?_⟩;unfold VR;exact ⟨sa,0,vs,rfl,.inl (.inr (.head _)),hV⟩
      · have : lget [("script",V.lst (ns.map .int))] x = none := by
          unfold lget;rw [if_neg (by rw [beq_iff_eq]; exact fun z => hx z.symm)];rfl
        rw [this] at e
        cases e
    · intro f Fl l' H' news' ow' s' hs le os fr q;subst q;obtain ⟨U,rfl,vr⟩ := fr;have vr := of_vr_bool vr;subst vr;obtain ⟨m',F',_⟩ := hs.fr;exact hq s' F'.keep os hs.gens
theorem walk01 : Hd.Walk := by
  intro w s₀ s₁ mg mb G Y fa o pm cd doc dV kV ho hd hcd hD hmg hg args vals as hpre hlay hrd hwl hlo;refine Ground.open G ?_;intro T B D TE TW
  try (refine guard_noD D (by decide +kernel) ?_; clear D)
  obtain ⟨_,_,M⟩ := bmod_of_top T;have TA := at_of_top T
  try (obtain ⟨_,_,he,B0⟩ := based_of_top T rfl hmg ho hd; have he' : cd = _ := he; subst he'; clear he)
  clear hmg
  wrow_args hpre hlay hrd hwl hlo
  refine enter_call ?_
  w_top on
  try refine codeAny_mono ?_ (fun _ _ g => GoodW.toG g)
  have K0 := below_caller (Top.heap T)
  w_call any ho hd hcd hD T F
  refine entry Y T hg F rfl (by assumption) (by assumption) ?_;intro s' kp ho' hg';refine ⟨.inl ⟨.bool true,.bool true,[],rfl,raisesW_false (by wrow_none_raised),.bool true,?_,?_⟩,kp,ho',hg'⟩
  · exact postW_of (by wrow_shape) (by wtm_val) rfl
  · intro _;exact ⟨List.nodup_nil,fun _ h => nomatch h⟩
theorem holds01 : RW.Holds := Hd.head walk01
end Mine
end
theorem PySem.Challenge.cw_nt0400_01_holds : PySem.Challenge.rw_nt0400_01.Holds :=
  Mine.holds01
