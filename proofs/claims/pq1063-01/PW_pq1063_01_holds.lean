import PyProof.Rows.All
import Wide.All
import OpenK.AllK
import Wide.FinOn
import Lean
import PySem.Challenge.RW_pq1063_01
set_option Elab.async false
set_option maxRecDepth 100000
set_option maxHeartbeats 0
set_option bootstrap.genMatcherCode false
set_option genSizeOf false
set_option linter.all false
namespace Mine
open PySem PySem.W PySem.Calls PyProof.Rows
noncomputable abbrev pw : Program := PySem.Challenge.pw_pq1063_01
noncomputable def F (i : Nat) : Stmt := match pw.main.body[i]? with
  | some s => s
  | none => .Pass ⟨0,0,0,0⟩
noncomputable def M (i j : Nat) : Stmt := match F i with
  | .ClassDef _ _ _ b _ _ _ _ _ _ _ => (match b[j]? with | some s => s | none => .Pass ⟨0,0,0,0⟩)
  | s => s
noncomputable def fN : Stmt -> Str
  | .FunctionDef n _ _ _ _ _ _ _ _ _ => n
  | _ => Str.empty
noncomputable def fA : Stmt -> Arguments
  | .FunctionDef _ a _ _ _ _ _ _ _ _ => a
  | _ => default
noncomputable def fB : Stmt -> List Stmt
  | .FunctionDef _ _ b _ _ _ _ _ _ _ => b
  | _ => []
noncomputable def fS : Stmt -> Scope
  | .FunctionDef _ _ _ _ _ _ s _ _ _ => s
  | _ => default
noncomputable abbrev S_ (x : String) : Str := Str.ofString x
noncomputable abbrev iV (n : Int) : Value := .int n 0
noncomputable abbrev sV (x : String) (t : Nat) : Value := .str (Str.ofString x) t
noncomputable abbrev rV (a : Nat) : Value := .ref a
noncomputable abbrev oS (c : Value) (l : List Value) : Obj := { cls := c,data := .seq ⟨l⟩ }
noncomputable abbrev oF (c : Value) (l : List Value) : Obj := { cls := c,data := .fields ⟨l⟩ }
noncomputable abbrev cO (x : String) (t : Nat) (y : String) (u v : Nat) (a b c : Int) (d : Nat) (e : Bool) (f g h k : Nat) (l m : Int) (z : Nat) : Obj := oF (.type "code") [sV x t,sV y u,sV "/claim/cut.py" v,iV a,iV b,iV 0,iV 0,iV c,rV d,.bool e,iV 181,rV f,.none,rV g,rV h,rV k,iV l,iV m,sV "/claim/cut.py" z]
noncomputable abbrev oU (c : Value) (f : FuncData) : Obj := { cls := c,data := .func f }
noncomputable abbrev eD (P : Params) (x : String) (t : Nat) (v : Value) : DictEntry := { hash := PyData.keyHash P (Str.ofString x),key := .str (Str.ofString x) t,val := v }
noncomputable abbrev f0 (s : Stmt) (q : String) : FuncData := { name := fN s,qualname := Str.ofString q,params := fA s,body := .stmts (fB s),scope := fS s,globals := 0,closure := [],defaults := .none,kwdefaults := .none }
noncomputable abbrev f1 (s : Stmt) (q : String) (d m c : Value) : FuncData := { name := fN s,qualname := Str.ofString q,params := fA s,body := .stmts (fB s),scope := fS s,globals := 3,closure := [],defaults := d,kwdefaults := .none,pyModule := m,code := c }
noncomputable def a11 (P : Params) : Obj := oS (.type "tuple") []
noncomputable def a12 (P : Params) : Obj := oF .none []
noncomputable def a13 (P : Params) : Obj := oF (.type "code") [(sV "<module>" 182),(sV "<module>" 183),(sV "/claim/cut.py" 184),(iV 1),(iV 0),(iV 0),(iV 0),(iV 0),(rV 11),(.bool false),(iV 181),(rV 12),.none,.none,.none,.none,(iV 185),(iV 1),(sV "/claim/cut.py" 186)]
noncomputable def a14 (P : Params) : Obj := { cls := (.type "frame"),slots := ⟨[some (rV 13),some (rV 3),some (rV 3),none,some (sV "__main__" 164),none,some (rV 0)]⟩ }
noncomputable def a2_1 (P : Params) : Obj := { cls := .none,data := .dict ⟨[eD P "type.__subclasses__.Exception.0" 215 (iV 31),eD P "type.__subclasses__.Exception.n" 216 (iV 1)]⟩ 2 }
noncomputable def a3_1 (P : Params) : Obj := { cls := (.type "dict"),data := .dict ⟨[eD P "__name__" 165 (sV "siftwall.tokens" 265),eD P "__doc__" 166 .none,eD P "__package__" 167 .none,eD P "__loader__" 168 (.builtin "__main__.__loader__#opaque"),eD P "__spec__" 169 .none,eD P "__annotations__" 170 (rV 6),eD P "__builtins__" 171 (rV 4),eD P "__file__" 173 (sV "/claim/cut.py" 172),eD P "__cached__" 174 .none,eD P "WallFault" 218 (rV 31),eD P "Misused" 234 (rV 44),eD P "BadText" 264 (rV 64),eD P "is_word_sign" 273 (rV 73),eD P "run_end" 281 (rV 80),eD P "string_end" 292 (rV 87),eD P "put_run" 303 (rV 94),eD P "read_tokens" 317 (rV 101),eD P "token_words" 324 (rV 108),eD P "unexpected" 333 (rV 115)]⟩ 19 }
noncomputable def a12_1 (P : Params) : Obj := oF .none [(iV 2),(iV 0),(rV 20),(iV 8),(iV 0),(rV 40),(iV 10),(iV 0),(rV 52),(iV 17),(iV 0),(rV 72),(iV 19),(iV 0),(rV 79),(iV 23),(iV 0),(rV 86),(iV 30),(iV 0),(rV 93),(iV 44),(iV 0),(rV 100),(iV 82),(iV 0),(rV 107),(iV 90),(iV 0),(rV 114)]
noncomputable def a15 (P : Params) : Obj := oS (.type "tuple") [(.type "Exception")]
noncomputable def a16 (P : Params) : Obj := oF (.type "builtin_function_or_method") [(.builtin "type.__prepare__"),(.type "type")]
noncomputable def a17 (P : Params) : Obj := { cls := (.type "dict"),data := .dict ⟨[eD P "__module__" 196 (sV "siftwall.faults" 187),eD P "__qualname__" 198 (sV "WallFault" 197),eD P "__firstlineno__" 200 (.int (2) 199),eD P "__init__" 208 (rV 28),eD P "__static_attributes__" 211 (rV 29)]⟩ 5 }
noncomputable def a19 (P : Params) : Obj := oF .none [(iV 4),(iV 4),(rV 27)]
noncomputable def a20 (P : Params) : Obj := oF (.type "code") [(sV "WallFault" 191),(sV "WallFault" 192),(sV "/claim/cut.py" 193),(iV 2),(iV 0),(iV 0),(iV 0),(iV 0),(rV 18),(.bool false),(iV 181),(rV 19),.none,.none,.none,.none,(iV 194),(iV 2),(sV "/claim/cut.py" 195)]
noncomputable def a21 (P : Params) : Obj := { cls := (.type "frame"),slots := ⟨[some (rV 20),some (rV 3),some (rV 17),none,some (sV "siftwall.faults" 187),none,some (rV 0)]⟩ }
noncomputable def a24 (P : Params) : Obj := oS (.type "tuple") [(sV "self" 204),(sV "why" 205)]
noncomputable def a26 (P : Params) : Obj := oU .none (f0 (M 1 0) "WallFault.__init__")
noncomputable def a27 (P : Params) : Obj := cO "__init__" 201 "WallFault.__init__" 202 203 4 2 3 22 true 23 24 25 26 206 4 207
noncomputable def a28 (P : Params) : Obj := oU (.type "function") (f1 (M 1 0) "WallFault.__init__" .none (sV "siftwall.faults" 187) (rV 27))
noncomputable def a29 (P : Params) : Obj := oS (.type "tuple") [(sV "at" 209),(sV "why" 210)]
noncomputable def a30 (P : Params) : Obj := { cls := (.type "dict"),data := .dict ⟨[eD P "__module__" 196 (sV "siftwall.faults" 187),eD P "__firstlineno__" 200 (.int (2) 199),eD P "__init__" 208 (rV 28),eD P "__static_attributes__" 211 (rV 29),eD P "__weakref__" 213 (rV 32),eD P "__doc__" 214 .none]⟩ 3 }
noncomputable def a31 (P : Params) : Obj := { cls := (.type "type"),data := .cls { name := S_ "WallFault",bases := [(.type "Exception")],mro := [(rV 31),(.type "Exception"),(.type "BaseException"),(.type "object")],ns := 30,qualname := S_ "WallFault",subclasses := [(rV 44),(rV 64)] },slots := ⟨[some (rV 15),none,some (sV "WallFault" 189),some (sV "WallFault" 197),some (.builtin "Exception.__new__"),some (.bool true)]⟩ }
noncomputable def a32 (P : Params) : Obj := oF (.type "getset_descriptor") [(sV "__weakref__" 212),(rV 31),(.builtin "ExceptionGroup.__weakref__"),.none]
noncomputable def a33 (P : Params) : Obj := oF (.type "super") [(rV 31),(rV 31),(rV 31)]
noncomputable def a34 (P : Params) : Obj := oF (.type "builtin_function_or_method") [(.builtin "object.__init_subclass__"),(rV 31)]
noncomputable def a35 (P : Params) : Obj := oS (.type "tuple") [(rV 31)]
noncomputable def a37 (P : Params) : Obj := { cls := (.type "dict"),data := .dict ⟨[eD P "__module__" 226 (sV "siftwall.faults" 187),eD P "__qualname__" 228 (sV "Misused" 227),eD P "__firstlineno__" 230 (.int (8) 229),eD P "__static_attributes__" 231 (rV 42)]⟩ 4 }
noncomputable def a40 (P : Params) : Obj := oF (.type "code") [(sV "Misused" 221),(sV "Misused" 222),(sV "/claim/cut.py" 223),(iV 8),(iV 0),(iV 0),(iV 0),(iV 0),(rV 38),(.bool false),(iV 181),(rV 39),.none,.none,.none,.none,(iV 224),(iV 8),(sV "/claim/cut.py" 225)]
noncomputable def a41 (P : Params) : Obj := { cls := (.type "frame"),slots := ⟨[some (rV 40),some (rV 3),some (rV 37),none,some (sV "siftwall.faults" 187),none,some (rV 0)]⟩ }
noncomputable def a43 (P : Params) : Obj := { cls := (.type "dict"),data := .dict ⟨[eD P "__module__" 226 (sV "siftwall.faults" 187),eD P "__firstlineno__" 230 (.int (8) 229),eD P "__static_attributes__" 231 (rV 42),eD P "__doc__" 232 .none]⟩ 2 }
noncomputable def a44 (P : Params) : Obj := { cls := (.type "type"),data := .cls { name := S_ "Misused",bases := [(rV 31)],mro := [(rV 44),(rV 31),(.type "Exception"),(.type "BaseException"),(.type "object")],ns := 43,qualname := S_ "Misused" },slots := ⟨[some (rV 35),none,some (sV "Misused" 219),some (sV "Misused" 227),some (.builtin "Exception.__new__"),some (.bool true)]⟩ }
noncomputable def a45 (P : Params) : Obj := oF (.type "super") [(rV 44),(rV 44),(rV 44)]
noncomputable def a46 (P : Params) : Obj := oF (.type "builtin_function_or_method") [(.builtin "object.__init_subclass__"),(rV 44)]
noncomputable def a49 (P : Params) : Obj := { cls := (.type "dict"),data := .dict ⟨[eD P "__module__" 242 (sV "siftwall.faults" 187),eD P "__qualname__" 244 (sV "BadText" 243),eD P "__firstlineno__" 246 (.int (10) 245),eD P "__init__" 258 (rV 61),eD P "__static_attributes__" 261 (rV 62)]⟩ 5 }
noncomputable def a51 (P : Params) : Obj := oF .none [(iV 12),(iV 4),(rV 60)]
noncomputable def a52 (P : Params) : Obj := oF (.type "code") [(sV "BadText" 237),(sV "BadText" 238),(sV "/claim/cut.py" 239),(iV 10),(iV 0),(iV 0),(iV 0),(iV 0),(rV 50),(.bool false),(iV 181),(rV 51),.none,.none,.none,.none,(iV 240),(iV 10),(sV "/claim/cut.py" 241)]
noncomputable def a53 (P : Params) : Obj := { cls := (.type "frame"),slots := ⟨[some (rV 52),some (rV 3),some (rV 49),none,some (sV "siftwall.faults" 187),none,some (rV 0)]⟩ }
noncomputable def a54 (P : Params) : Obj := oS (.type "tuple") [(.int (0) 247),(.int (0) 248)]
noncomputable def a57 (P : Params) : Obj := oS (.type "tuple") [(sV "self" 252),(sV "why" 253),(sV "row" 254),(sV "column" 255)]
noncomputable def a59 (P : Params) : Obj := oU .none (f0 (M 3 0) "BadText.__init__")
noncomputable def a60 (P : Params) : Obj := cO "__init__" 249 "BadText.__init__" 250 251 12 4 3 55 true 56 57 58 59 256 12 257
noncomputable def a61 (P : Params) : Obj := oU (.type "function") (f1 (M 3 0) "BadText.__init__" (rV 54) (sV "siftwall.faults" 187) (rV 60))
noncomputable def a62 (P : Params) : Obj := oS (.type "tuple") [(sV "column" 259),(sV "row" 260)]
noncomputable def a63 (P : Params) : Obj := { cls := (.type "dict"),data := .dict ⟨[eD P "__module__" 242 (sV "siftwall.faults" 187),eD P "__firstlineno__" 246 (.int (10) 245),eD P "__init__" 258 (rV 61),eD P "__static_attributes__" 261 (rV 62),eD P "__doc__" 262 .none]⟩ 2 }
noncomputable def a64 (P : Params) : Obj := { cls := (.type "type"),data := .cls { name := S_ "BadText",bases := [(rV 31)],mro := [(rV 64),(rV 31),(.type "Exception"),(.type "BaseException"),(.type "object")],ns := 63,qualname := S_ "BadText" },slots := ⟨[some (rV 47),none,some (sV "BadText" 235),some (sV "BadText" 243),some (.builtin "Exception.__new__"),some (.bool true)]⟩ }
noncomputable def a65 (P : Params) : Obj := oF (.type "super") [(rV 64),(rV 64),(rV 64)]
noncomputable def a66 (P : Params) : Obj := oF (.type "builtin_function_or_method") [(.builtin "object.__init_subclass__"),(rV 64)]
noncomputable def a69 (P : Params) : Obj := oS (.type "tuple") [(sV "sign" 270)]
noncomputable def a71 (P : Params) : Obj := oU .none (f0 (F 5) "is_word_sign")
noncomputable def a72 (P : Params) : Obj := cO "is_word_sign" 267 "is_word_sign" 268 269 17 1 3 67 true 68 69 70 71 271 17 272
noncomputable def a73 (P : Params) : Obj := oU (.type "function") (f1 (F 5) "is_word_sign" .none (sV "siftwall.tokens" 265) (rV 72))
noncomputable def a76 (P : Params) : Obj := oS (.type "tuple") [(sV "text" 277),(sV "at" 278)]
noncomputable def a78 (P : Params) : Obj := oU .none (f0 (F 6) "run_end")
noncomputable def a79 (P : Params) : Obj := cO "run_end" 274 "run_end" 275 276 19 2 3 74 true 75 76 77 78 279 19 280
noncomputable def a80 (P : Params) : Obj := oU (.type "function") (f1 (F 6) "run_end" .none (sV "siftwall.tokens" 265) (rV 79))
noncomputable def a83 (P : Params) : Obj := oS (.type "tuple") [(sV "text" 285),(sV "at" 286),(sV "row" 287),(sV "column" 288),(sV "behind" 289)]
noncomputable def a85 (P : Params) : Obj := oU .none (f0 (F 7) "string_end")
noncomputable def a86 (P : Params) : Obj := cO "string_end" 282 "string_end" 283 284 23 4 3 81 true 82 83 84 85 290 23 291
noncomputable def a87 (P : Params) : Obj := oU (.type "function") (f1 (F 7) "string_end" .none (sV "siftwall.tokens" 265) (rV 86))
noncomputable def a90 (P : Params) : Obj := oS (.type "tuple") [(sV "tokens" 296),(sV "run" 297),(sV "row" 298),(sV "column" 299),(sV "is_cut" 300)]
noncomputable def a92 (P : Params) : Obj := oU .none (f0 (F 8) "put_run")
noncomputable def a93 (P : Params) : Obj := cO "put_run" 293 "put_run" 294 295 30 4 3 88 true 89 90 91 92 301 30 302
noncomputable def a94 (P : Params) : Obj := oU (.type "function") (f1 (F 8) "put_run" .none (sV "siftwall.tokens" 265) (rV 93))
noncomputable def a97 (P : Params) : Obj := oS (.type "tuple") [(sV "text" 307),(sV "tokens" 308),(sV "at" 309),(sV "row" 310),(sV "begin" 311),(sV "sign" 312),(sV "column" 313),(sV "behind" 314)]
noncomputable def a99 (P : Params) : Obj := oU .none (f0 (F 9) "read_tokens")
noncomputable def a100 (P : Params) : Obj := cO "read_tokens" 304 "read_tokens" 305 306 44 1 3 95 true 96 97 98 99 315 44 316
noncomputable def a101 (P : Params) : Obj := oU (.type "function") (f1 (F 9) "read_tokens" .none (sV "siftwall.tokens" 265) (rV 100))
noncomputable def a104 (P : Params) : Obj := oS (.type "tuple") [(sV "token" 321)]
noncomputable def a106 (P : Params) : Obj := oU .none (f0 (F 10) "token_words")
noncomputable def a107 (P : Params) : Obj := cO "token_words" 318 "token_words" 319 320 82 1 3 102 true 103 104 105 106 322 82 323
noncomputable def a108 (P : Params) : Obj := oU (.type "function") (f1 (F 10) "token_words" .none (sV "siftwall.tokens" 265) (rV 107))
noncomputable def a111 (P : Params) : Obj := oS (.type "tuple") [(sV "token" 328),(sV "what" 329),(sV "why" 330)]
noncomputable def a113 (P : Params) : Obj := oU .none (f0 (F 11) "unexpected")
noncomputable def a114 (P : Params) : Obj := cO "unexpected" 325 "unexpected" 326 327 90 2 3 109 true 110 111 112 113 331 90 332
noncomputable def a115 (P : Params) : Obj := oU (.type "function") (f1 (F 11) "unexpected" .none (sV "siftwall.tokens" 265) (rV 114))
noncomputable def a3_2 (P : Params) : Obj := { cls := (.type "dict"),data := .dict ⟨[eD P "__name__" 165 (sV "siftwall.types" 564),eD P "__doc__" 166 .none,eD P "__package__" 167 .none,eD P "__loader__" 168 (.builtin "__main__.__loader__#opaque"),eD P "__spec__" 169 .none,eD P "__annotations__" 170 (rV 6),eD P "__builtins__" 171 (rV 4),eD P "__file__" 173 (sV "/claim/cut.py" 172),eD P "__cached__" 174 .none,eD P "WallFault" 218 (rV 31),eD P "Misused" 234 (rV 44),eD P "BadText" 264 (rV 64),eD P "is_word_sign" 273 (rV 73),eD P "run_end" 281 (rV 80),eD P "string_end" 292 (rV 87),eD P "put_run" 303 (rV 94),eD P "read_tokens" 317 (rV 101),eD P "token_words" 324 (rV 108),eD P "unexpected" 333 (rV 115),eD P "Reader" 443 (rV 196),eD P "expected" 451 (rV 207),eD P "decimal_of" 463 (rV 214),eD P "hex_of" 474 (rV 221),eD P "ip4_of" 485 (rV 228),eD P "groups_of" 499 (rV 235),eD P "ip6_of" 511 (rV 242),eD P "mac_of" 522 (rV 249),eD P "mask_of" 530 (rV 256),eD P "prefix_span" 540 (rV 263),eD P "prefix_of" 552 (rV 270),eD P "name_number" 563 (rV 277),eD P "based_number" 576 (rV 284),eD P "number_word" 583 (rV 291),eD P "time_units" 589 (rV 298),eD P "part_end" 598 (rV 305),eD P "time_word" 615 (rV 312),eD P "unquoted" 622 (rV 319),eD P "name_word" 630 (rV 326),eD P "name_span" 640 (rV 333),eD P "mask_word" 651 (rV 340),eD P "value_of_word" 662 (rV 347),eD P "address_span" 672 (rV 354),eD P "ends_span" 684 (rV 361)]⟩ 43 }
noncomputable def a12_2 (P : Params) : Obj := oF .none [(iV 2),(iV 0),(rV 20),(iV 8),(iV 0),(rV 40),(iV 10),(iV 0),(rV 52),(iV 17),(iV 0),(rV 72),(iV 19),(iV 0),(rV 79),(iV 23),(iV 0),(rV 86),(iV 30),(iV 0),(rV 93),(iV 44),(iV 0),(rV 100),(iV 82),(iV 0),(rV 107),(iV 90),(iV 0),(rV 114),(iV 93),(iV 0),(rV 121),(iV 144),(iV 0),(rV 206),(iV 147),(iV 0),(rV 213),(iV 156),(iV 0),(rV 220),(iV 166),(iV 0),(rV 227),(iV 177),(iV 0),(rV 234),(iV 195),(iV 0),(rV 241),(iV 213),(iV 0),(rV 248),(iV 224),(iV 0),(rV 255),(iV 226),(iV 0),(rV 262),(iV 229),(iV 0),(rV 269),(iV 245),(iV 0),(rV 276),(iV 255),(iV 0),(rV 283),(iV 265),(iV 0),(rV 290),(iV 269),(iV 0),(rV 297),(iV 271),(iV 0),(rV 304),(iV 275),(iV 0),(rV 311),(iV 299),(iV 0),(rV 318),(iV 303),(iV 0),(rV 325),(iV 310),(iV 0),(rV 332),(iV 321),(iV 0),(rV 339),(iV 331),(iV 0),(rV 346),(iV 352),(iV 0),(rV 353),(iV 357),(iV 0),(rV 360)]
noncomputable def a118 (P : Params) : Obj := { cls := (.type "dict"),data := .dict ⟨[eD P "__module__" 341 (sV "siftwall.tokens" 265),eD P "__qualname__" 343 (sV "Reader" 342),eD P "__firstlineno__" 345 (.int (93) 344),eD P "__init__" 354 (rV 129),eD P "look" 364 (rV 137),eD P "take" 372 (rV 144),eD P "is_sign" 381 (rV 151),eD P "is_word" 390 (rV 158),eD P "skip_sign" 398 (rV 165),eD P "want_sign" 406 (rV 172),eD P "want_word" 413 (rV 179),eD P "skip_rows" 420 (rV 186),eD P "fault" 429 (rV 193),eD P "__static_attributes__" 436 (rV 194)]⟩ 14 }
noncomputable def a120 (P : Params) : Obj := oF .none [(iV 95),(iV 4),(rV 128),(iV 103),(iV 4),(rV 136),(iV 109),(iV 4),(rV 143),(iV 114),(iV 4),(rV 150),(iV 118),(iV 4),(rV 157),(iV 122),(iV 4),(rV 164),(iV 128),(iV 4),(rV 171),(iV 132),(iV 4),(rV 178),(iV 137),(iV 4),(rV 185),(iV 141),(iV 4),(rV 192)]
noncomputable def a121 (P : Params) : Obj := oF (.type "code") [(sV "Reader" 336),(sV "Reader" 337),(sV "/claim/cut.py" 338),(iV 93),(iV 0),(iV 0),(iV 0),(iV 0),(rV 119),(.bool false),(iV 181),(rV 120),.none,.none,.none,.none,(iV 339),(iV 93),(sV "/claim/cut.py" 340)]
noncomputable def a122 (P : Params) : Obj := { cls := (.type "frame"),slots := ⟨[some (rV 121),some (rV 3),some (rV 118),none,some (sV "siftwall.tokens" 265),none,some (rV 0)]⟩ }
noncomputable def a125 (P : Params) : Obj := oS (.type "tuple") [(sV "self" 349),(sV "tokens" 350),(sV "tongue" 351)]
noncomputable def a127 (P : Params) : Obj := oU .none (f0 (M 12 0) "Reader.__init__")
noncomputable def a128 (P : Params) : Obj := cO "__init__" 346 "Reader.__init__" 347 348 95 3 3 123 true 124 125 126 127 352 95 353
noncomputable def a129 (P : Params) : Obj := oU (.type "function") (f1 (M 12 0) "Reader.__init__" .none (sV "siftwall.tokens" 265) (rV 128))
noncomputable def a130 (P : Params) : Obj := oS (.type "tuple") [(.int (0) 355)]
noncomputable def a133 (P : Params) : Obj := oS (.type "tuple") [(sV "self" 359),(sV "ahead" 360),(sV "place" 361)]
noncomputable def a135 (P : Params) : Obj := oU .none (f0 (M 12 1) "Reader.look")
noncomputable def a136 (P : Params) : Obj := cO "look" 356 "Reader.look" 357 358 103 2 3 131 true 132 133 134 135 362 103 363
noncomputable def a137 (P : Params) : Obj := oU (.type "function") (f1 (M 12 1) "Reader.look" (rV 130) (sV "siftwall.tokens" 265) (rV 136))
noncomputable def a140 (P : Params) : Obj := oS (.type "tuple") [(sV "self" 368),(sV "token" 369)]
noncomputable def a142 (P : Params) : Obj := oU .none (f0 (M 12 2) "Reader.take")
noncomputable def a143 (P : Params) : Obj := cO "take" 365 "Reader.take" 366 367 109 1 3 138 true 139 140 141 142 370 109 371
noncomputable def a144 (P : Params) : Obj := oU (.type "function") (f1 (M 12 2) "Reader.take" .none (sV "siftwall.tokens" 265) (rV 143))
noncomputable def a147 (P : Params) : Obj := oS (.type "tuple") [(sV "self" 376),(sV "text" 377),(sV "token" 378)]
noncomputable def a149 (P : Params) : Obj := oU .none (f0 (M 12 3) "Reader.is_sign")
noncomputable def a150 (P : Params) : Obj := cO "is_sign" 373 "Reader.is_sign" 374 375 114 2 3 145 true 146 147 148 149 379 114 380
noncomputable def a151 (P : Params) : Obj := oU (.type "function") (f1 (M 12 3) "Reader.is_sign" .none (sV "siftwall.tokens" 265) (rV 150))
noncomputable def a154 (P : Params) : Obj := oS (.type "tuple") [(sV "self" 385),(sV "text" 386),(sV "token" 387)]
noncomputable def a156 (P : Params) : Obj := oU .none (f0 (M 12 4) "Reader.is_word")
noncomputable def a157 (P : Params) : Obj := cO "is_word" 382 "Reader.is_word" 383 384 118 2 3 152 true 153 154 155 156 388 118 389
noncomputable def a158 (P : Params) : Obj := oU (.type "function") (f1 (M 12 4) "Reader.is_word" .none (sV "siftwall.tokens" 265) (rV 157))
noncomputable def a161 (P : Params) : Obj := oS (.type "tuple") [(sV "self" 394),(sV "text" 395)]
noncomputable def a163 (P : Params) : Obj := oU .none (f0 (M 12 5) "Reader.skip_sign")
noncomputable def a164 (P : Params) : Obj := cO "skip_sign" 391 "Reader.skip_sign" 392 393 122 2 3 159 true 160 161 162 163 396 122 397
noncomputable def a165 (P : Params) : Obj := oU (.type "function") (f1 (M 12 5) "Reader.skip_sign" .none (sV "siftwall.tokens" 265) (rV 164))
noncomputable def a168 (P : Params) : Obj := oS (.type "tuple") [(sV "self" 402),(sV "text" 403)]
noncomputable def a170 (P : Params) : Obj := oU .none (f0 (M 12 6) "Reader.want_sign")
noncomputable def a171 (P : Params) : Obj := cO "want_sign" 399 "Reader.want_sign" 400 401 128 2 3 166 true 167 168 169 170 404 128 405
noncomputable def a172 (P : Params) : Obj := oU (.type "function") (f1 (M 12 6) "Reader.want_sign" .none (sV "siftwall.tokens" 265) (rV 171))
noncomputable def a175 (P : Params) : Obj := oS (.type "tuple") [(sV "self" 410)]
noncomputable def a177 (P : Params) : Obj := oU .none (f0 (M 12 7) "Reader.want_word")
noncomputable def a178 (P : Params) : Obj := cO "want_word" 407 "Reader.want_word" 408 409 132 1 3 173 true 174 175 176 177 411 132 412
noncomputable def a179 (P : Params) : Obj := oU (.type "function") (f1 (M 12 7) "Reader.want_word" .none (sV "siftwall.tokens" 265) (rV 178))
noncomputable def a182 (P : Params) : Obj := oS (.type "tuple") [(sV "self" 417)]
noncomputable def a184 (P : Params) : Obj := oU .none (f0 (M 12 8) "Reader.skip_rows")
noncomputable def a185 (P : Params) : Obj := cO "skip_rows" 414 "Reader.skip_rows" 415 416 137 1 3 180 true 181 182 183 184 418 137 419
noncomputable def a186 (P : Params) : Obj := oU (.type "function") (f1 (M 12 8) "Reader.skip_rows" .none (sV "siftwall.tokens" 265) (rV 185))
noncomputable def a189 (P : Params) : Obj := oS (.type "tuple") [(sV "self" 424),(sV "why" 425),(sV "token" 426)]
noncomputable def a191 (P : Params) : Obj := oU .none (f0 (M 12 9) "Reader.fault")
noncomputable def a192 (P : Params) : Obj := cO "fault" 421 "Reader.fault" 422 423 141 2 3 187 true 188 189 190 191 427 141 428
noncomputable def a193 (P : Params) : Obj := oU (.type "function") (f1 (M 12 9) "Reader.fault" .none (sV "siftwall.tokens" 265) (rV 192))
noncomputable def a194 (P : Params) : Obj := oS (.type "tuple") [(sV "at" 430),(sV "family" 431),(sV "known" 432),(sV "table" 433),(sV "tokens" 434),(sV "tongue" 435)]
noncomputable def a195 (P : Params) : Obj := { cls := (.type "dict"),data := .dict ⟨[eD P "__module__" 341 (sV "siftwall.tokens" 265),eD P "__firstlineno__" 345 (.int (93) 344),eD P "__init__" 354 (rV 129),eD P "look" 364 (rV 137),eD P "take" 372 (rV 144),eD P "is_sign" 381 (rV 151),eD P "is_word" 390 (rV 158),eD P "skip_sign" 398 (rV 165),eD P "want_sign" 406 (rV 172),eD P "want_word" 413 (rV 179),eD P "skip_rows" 420 (rV 186),eD P "fault" 429 (rV 193),eD P "__static_attributes__" 436 (rV 194),eD P "__dict__" 438 (rV 197),eD P "__weakref__" 440 (rV 198),eD P "__doc__" 441 .none]⟩ 4 }
noncomputable def a196 (P : Params) : Obj := { cls := (.type "type"),data := .cls { name := S_ "Reader",bases := [(.type "object")],mro := [(rV 196),(.type "object")],ns := 195,qualname := S_ "Reader" },slots := ⟨[none,none,some (sV "Reader" 334),some (sV "Reader" 342),some (.builtin "object.__new__"),some (.bool true)]⟩ }
noncomputable def a197 (P : Params) : Obj := oF (.type "getset_descriptor") [(sV "__dict__" 437),(rV 196),(.builtin "function.__dict__"),(.builtin "function.__dict__#set")]
noncomputable def a198 (P : Params) : Obj := oF (.type "getset_descriptor") [(sV "__weakref__" 439),(rV 196),(.builtin "ExceptionGroup.__weakref__"),.none]
noncomputable def a199 (P : Params) : Obj := oF (.type "super") [(rV 196),(rV 196),(rV 196)]
noncomputable def a200 (P : Params) : Obj := oF (.type "builtin_function_or_method") [(.builtin "object.__init_subclass__"),(rV 196)]
noncomputable def a203 (P : Params) : Obj := oS (.type "tuple") [(sV "reader" 447),(sV "what" 448)]
noncomputable def a205 (P : Params) : Obj := oU .none (f0 (F 13) "expected")
noncomputable def a206 (P : Params) : Obj := cO "expected" 444 "expected" 445 446 144 2 3 201 true 202 203 204 205 449 144 450
noncomputable def a207 (P : Params) : Obj := oU (.type "function") (f1 (F 13) "expected" .none (sV "siftwall.tokens" 265) (rV 206))
noncomputable def a210 (P : Params) : Obj := oS (.type "tuple") [(sV "text" 457),(sV "most" 458),(sV "number" 459),(sV "sign" 460)]
noncomputable def a212 (P : Params) : Obj := oU .none (f0 (F 15) "decimal_of")
noncomputable def a213 (P : Params) : Obj := cO "decimal_of" 454 "decimal_of" 455 456 147 2 3 208 true 209 210 211 212 461 147 462
noncomputable def a214 (P : Params) : Obj := oU (.type "function") (f1 (F 15) "decimal_of" .none (sV "siftwall.addresses" 452) (rV 213))
noncomputable def a217 (P : Params) : Obj := oS (.type "tuple") [(sV "text" 467),(sV "most" 468),(sV "number" 469),(sV "sign" 470),(sV "place" 471)]
noncomputable def a219 (P : Params) : Obj := oU .none (f0 (F 16) "hex_of")
noncomputable def a220 (P : Params) : Obj := cO "hex_of" 464 "hex_of" 465 466 156 2 3 215 true 216 217 218 219 472 156 473
noncomputable def a221 (P : Params) : Obj := oU (.type "function") (f1 (F 16) "hex_of" .none (sV "siftwall.addresses" 452) (rV 220))
noncomputable def a224 (P : Params) : Obj := oS (.type "tuple") [(sV "text" 478),(sV "parts" 479),(sV "number" 480),(sV "part" 481),(sV "octet" 482)]
noncomputable def a226 (P : Params) : Obj := oU .none (f0 (F 17) "ip4_of")
noncomputable def a227 (P : Params) : Obj := cO "ip4_of" 475 "ip4_of" 476 477 166 1 3 222 true 223 224 225 226 483 166 484
noncomputable def a228 (P : Params) : Obj := oU (.type "function") (f1 (F 17) "ip4_of" .none (sV "siftwall.addresses" 452) (rV 227))
noncomputable def a231 (P : Params) : Obj := oS (.type "tuple") [(sV "text" 489),(sV "is_end" 490),(sV "groups" 491),(sV "parts" 492),(sV "place" 493),(sV "part" 494),(sV "tail" 495),(sV "group" 496)]
noncomputable def a233 (P : Params) : Obj := oU .none (f0 (F 18) "groups_of")
noncomputable def a234 (P : Params) : Obj := cO "groups_of" 486 "groups_of" 487 488 177 2 3 229 true 230 231 232 233 497 177 498
noncomputable def a235 (P : Params) : Obj := oU (.type "function") (f1 (F 18) "groups_of" .none (sV "siftwall.addresses" 452) (rV 234))
noncomputable def a238 (P : Params) : Obj := oS (.type "tuple") [(sV "text" 503),(sV "halves" 504),(sV "groups" 505),(sV "behind" 506),(sV "number" 507),(sV "group" 508)]
noncomputable def a240 (P : Params) : Obj := oU .none (f0 (F 19) "ip6_of")
noncomputable def a241 (P : Params) : Obj := cO "ip6_of" 500 "ip6_of" 501 502 195 1 3 236 true 237 238 239 240 509 195 510
noncomputable def a242 (P : Params) : Obj := oU (.type "function") (f1 (F 19) "ip6_of" .none (sV "siftwall.addresses" 452) (rV 241))
noncomputable def a245 (P : Params) : Obj := oS (.type "tuple") [(sV "text" 515),(sV "parts" 516),(sV "number" 517),(sV "part" 518),(sV "octet" 519)]
noncomputable def a247 (P : Params) : Obj := oU .none (f0 (F 20) "mac_of")
noncomputable def a248 (P : Params) : Obj := cO "mac_of" 512 "mac_of" 513 514 213 1 3 243 true 244 245 246 247 520 213 521
noncomputable def a249 (P : Params) : Obj := oU (.type "function") (f1 (F 20) "mac_of" .none (sV "siftwall.addresses" 452) (rV 248))
noncomputable def a252 (P : Params) : Obj := oS (.type "tuple") [(sV "length" 526),(sV "bits" 527)]
noncomputable def a254 (P : Params) : Obj := oU .none (f0 (F 21) "mask_of")
noncomputable def a255 (P : Params) : Obj := cO "mask_of" 523 "mask_of" 524 525 224 2 3 250 true 251 252 253 254 528 224 529
noncomputable def a256 (P : Params) : Obj := oU (.type "function") (f1 (F 21) "mask_of" .none (sV "siftwall.addresses" 452) (rV 255))
noncomputable def a259 (P : Params) : Obj := oS (.type "tuple") [(sV "base" 534),(sV "length" 535),(sV "bits" 536),(sV "low" 537)]
noncomputable def a261 (P : Params) : Obj := oU .none (f0 (F 22) "prefix_span")
noncomputable def a262 (P : Params) : Obj := cO "prefix_span" 531 "prefix_span" 532 533 226 3 3 257 true 258 259 260 261 538 226 539
noncomputable def a263 (P : Params) : Obj := oU (.type "function") (f1 (F 22) "prefix_span" .none (sV "siftwall.addresses" 452) (rV 262))
noncomputable def a266 (P : Params) : Obj := oS (.type "tuple") [(sV "text" 544),(sV "parts" 545),(sV "nfproto" 546),(sV "bits" 547),(sV "base" 548),(sV "length" 549)]
noncomputable def a268 (P : Params) : Obj := oU .none (f0 (F 23) "prefix_of")
noncomputable def a269 (P : Params) : Obj := cO "prefix_of" 541 "prefix_of" 542 543 229 1 3 264 true 265 266 267 268 550 229 551
noncomputable def a270 (P : Params) : Obj := oU (.type "function") (f1 (F 23) "prefix_of" .none (sV "siftwall.addresses" 452) (rV 269))
noncomputable def a273 (P : Params) : Obj := oS (.type "tuple") [(sV "text" 558),(sV "number" 559),(sV "sign" 560)]
noncomputable def a275 (P : Params) : Obj := oU .none (f0 (F 25) "name_number")
noncomputable def a276 (P : Params) : Obj := cO "name_number" 555 "name_number" 556 557 245 1 3 271 true 272 273 274 275 561 245 562
noncomputable def a277 (P : Params) : Obj := oU (.type "function") (f1 (F 25) "name_number" .none (sV "siftwall.octets" 553) (rV 276))
noncomputable def a280 (P : Params) : Obj := oS (.type "tuple") [(sV "digits" 569),(sV "base" 570),(sV "number" 571),(sV "sign" 572),(sV "digit" 573)]
noncomputable def a282 (P : Params) : Obj := oU .none (f0 (F 27) "based_number")
noncomputable def a283 (P : Params) : Obj := cO "based_number" 566 "based_number" 567 568 255 2 3 278 true 279 280 281 282 574 255 575
noncomputable def a284 (P : Params) : Obj := oU (.type "function") (f1 (F 27) "based_number" .none (sV "siftwall.types" 564) (rV 283))
noncomputable def a287 (P : Params) : Obj := oS (.type "tuple") [(sV "word" 580)]
noncomputable def a289 (P : Params) : Obj := oU .none (f0 (F 28) "number_word")
noncomputable def a290 (P : Params) : Obj := cO "number_word" 577 "number_word" 578 579 265 1 3 285 true 286 287 288 289 581 265 582
noncomputable def a291 (P : Params) : Obj := oU (.type "function") (f1 (F 28) "number_word" .none (sV "siftwall.types" 564) (rV 290))
noncomputable def a296 (P : Params) : Obj := oU .none (f0 (F 29) "time_units")
noncomputable def a297 (P : Params) : Obj := cO "time_units" 584 "time_units" 585 586 269 0 3 292 true 293 294 295 296 587 269 588
noncomputable def a298 (P : Params) : Obj := oU (.type "function") (f1 (F 29) "time_units" .none (sV "siftwall.types" 564) (rV 297))
noncomputable def a301 (P : Params) : Obj := oS (.type "tuple") [(sV "word" 593),(sV "at" 594),(sV "is_digits" 595)]
noncomputable def a303 (P : Params) : Obj := oU .none (f0 (F 30) "part_end")
noncomputable def a304 (P : Params) : Obj := cO "part_end" 590 "part_end" 591 592 271 3 3 299 true 300 301 302 303 596 271 597
noncomputable def a305 (P : Params) : Obj := oU (.type "function") (f1 (F 30) "part_end" .none (sV "siftwall.types" 564) (rV 304))
noncomputable def a308 (P : Params) : Obj := oS (.type "tuple") [(sV "word" 602),(sV "seconds" 603),(sV "units" 604),(sV "total" 605),(sV "first" 606),(sV "at" 607),(sV "middle" 608),(sV "behind" 609),(sV "number" 610),(sV "found" 611),(sV "place" 612)]
noncomputable def a310 (P : Params) : Obj := oU .none (f0 (F 31) "time_word")
noncomputable def a311 (P : Params) : Obj := cO "time_word" 599 "time_word" 600 601 275 1 3 306 true 307 308 309 310 613 275 614
noncomputable def a312 (P : Params) : Obj := oU (.type "function") (f1 (F 31) "time_word" .none (sV "siftwall.types" 564) (rV 311))
noncomputable def a315 (P : Params) : Obj := oS (.type "tuple") [(sV "word" 619)]
noncomputable def a317 (P : Params) : Obj := oU .none (f0 (F 32) "unquoted")
noncomputable def a318 (P : Params) : Obj := cO "unquoted" 616 "unquoted" 617 618 299 1 3 313 true 314 315 316 317 620 299 621
noncomputable def a319 (P : Params) : Obj := oU (.type "function") (f1 (F 32) "unquoted" .none (sV "siftwall.types" 564) (rV 318))
noncomputable def a322 (P : Params) : Obj := oS (.type "tuple") [(sV "word" 626),(sV "name" 627)]
noncomputable def a324 (P : Params) : Obj := oU .none (f0 (F 33) "name_word")
noncomputable def a325 (P : Params) : Obj := cO "name_word" 623 "name_word" 624 625 303 1 3 320 true 321 322 323 324 628 303 629
noncomputable def a326 (P : Params) : Obj := oU (.type "function") (f1 (F 33) "name_word" .none (sV "siftwall.types" 564) (rV 325))
noncomputable def a329 (P : Params) : Obj := oS (.type "tuple") [(sV "word" 634),(sV "name" 635),(sV "begin" 636),(sV "low" 637)]
noncomputable def a331 (P : Params) : Obj := oU .none (f0 (F 34) "name_span")
noncomputable def a332 (P : Params) : Obj := cO "name_span" 631 "name_span" 632 633 310 1 3 327 true 328 329 330 331 638 310 639
noncomputable def a333 (P : Params) : Obj := oU (.type "function") (f1 (F 34) "name_span" .none (sV "siftwall.types" 564) (rV 332))
noncomputable def a336 (P : Params) : Obj := oS (.type "tuple") [(sV "symbols" 644),(sV "word" 645),(sV "total" 646),(sV "part" 647),(sV "number" 648)]
noncomputable def a338 (P : Params) : Obj := oU .none (f0 (F 35) "mask_word")
noncomputable def a339 (P : Params) : Obj := cO "mask_word" 641 "mask_word" 642 643 321 2 3 334 true 335 336 337 338 649 321 650
noncomputable def a340 (P : Params) : Obj := oU (.type "function") (f1 (F 35) "mask_word" .none (sV "siftwall.types" 564) (rV 339))
noncomputable def a343 (P : Params) : Obj := oS (.type "tuple") [(sV "a_type" 655),(sV "bits" 656),(sV "word" 657),(sV "sort" 658),(sV "number" 659)]
noncomputable def a345 (P : Params) : Obj := oU .none (f0 (F 36) "value_of_word")
noncomputable def a346 (P : Params) : Obj := cO "value_of_word" 652 "value_of_word" 653 654 331 3 3 341 true 342 343 344 345 660 331 661
noncomputable def a347 (P : Params) : Obj := oU (.type "function") (f1 (F 36) "value_of_word" .none (sV "siftwall.types" 564) (rV 346))
noncomputable def a350 (P : Params) : Obj := oS (.type "tuple") [(sV "sort" 666),(sV "bits" 667),(sV "word" 668),(sV "prefix" 669)]
noncomputable def a352 (P : Params) : Obj := oU .none (f0 (F 37) "address_span")
noncomputable def a353 (P : Params) : Obj := cO "address_span" 663 "address_span" 664 665 352 3 3 348 true 349 350 351 352 670 352 671
noncomputable def a354 (P : Params) : Obj := oU (.type "function") (f1 (F 37) "address_span" .none (sV "siftwall.types" 564) (rV 353))
noncomputable def a357 (P : Params) : Obj := oS (.type "tuple") [(sV "a_type" 676),(sV "bits" 677),(sV "word" 678),(sV "place" 679),(sV "low" 680),(sV "high" 681)]
noncomputable def a359 (P : Params) : Obj := oU .none (f0 (F 38) "ends_span")
noncomputable def a360 (P : Params) : Obj := cO "ends_span" 673 "ends_span" 674 675 357 3 3 355 true 356 357 358 359 682 357 683
noncomputable def a361 (P : Params) : Obj := oU (.type "function") (f1 (F 38) "ends_span" .none (sV "siftwall.types" 564) (rV 360))
noncomputable def a3_3 (P : Params) : Obj := { cls := (.type "dict"),data := .dict ⟨[eD P "__name__" 165 (sV "law_pq1063_01" 913),eD P "__doc__" 166 .none,eD P "__package__" 167 .none,eD P "__loader__" 168 (.builtin "__main__.__loader__#opaque"),eD P "__spec__" 169 .none,eD P "__annotations__" 170 (rV 6),eD P "__builtins__" 171 (rV 4),eD P "__file__" 173 (sV "/claim/cut.py" 172),eD P "__cached__" 174 .none,eD P "WallFault" 218 (rV 31),eD P "Misused" 234 (rV 44),eD P "BadText" 264 (rV 64),eD P "is_word_sign" 273 (rV 73),eD P "run_end" 281 (rV 80),eD P "string_end" 292 (rV 87),eD P "put_run" 303 (rV 94),eD P "read_tokens" 317 (rV 101),eD P "token_words" 324 (rV 108),eD P "unexpected" 333 (rV 115),eD P "Reader" 443 (rV 196),eD P "expected" 451 (rV 207),eD P "decimal_of" 463 (rV 214),eD P "hex_of" 474 (rV 221),eD P "ip4_of" 485 (rV 228),eD P "groups_of" 499 (rV 235),eD P "ip6_of" 511 (rV 242),eD P "mac_of" 522 (rV 249),eD P "mask_of" 530 (rV 256),eD P "prefix_span" 540 (rV 263),eD P "prefix_of" 552 (rV 270),eD P "name_number" 563 (rV 277),eD P "based_number" 576 (rV 284),eD P "number_word" 583 (rV 291),eD P "time_units" 589 (rV 298),eD P "part_end" 598 (rV 305),eD P "time_word" 615 (rV 312),eD P "unquoted" 622 (rV 319),eD P "name_word" 630 (rV 326),eD P "name_span" 640 (rV 333),eD P "mask_word" 651 (rV 340),eD P "value_of_word" 662 (rV 347),eD P "address_span" 672 (rV 354),eD P "ends_span" 684 (rV 361),eD P "span_of_word" 696 (rV 368),eD P "out_of_range" 707 (rV 375),eD P "read_text" 714 (rV 382),eD P "read_comment" 721 (rV 389),eD P "read_time" 730 (rV 396),eD P "type_here" 738 (rV 403),eD P "is_mask_kind" 746 (rV 410),eD P "resolved" 756 (rV 417),eD P "span_of_text" 765 (rV 424),eD P "value_of_text" 774 (rV 431),eD P "read_from" 785 (rV 438),eD P "read_value" 793 (rV 445),eD P "read_span" 805 (rV 452),eD P "barred" 814 (rV 459),eD P "read_verdict" 822 (rV 466),eD P "read_box" 834 (rV 473),eD P "read_datum" 846 (rV 480),eD P "read_literal" 859 (rV 487),eD P "read_braces" 870 (rV 494),eD P "read_literals" 879 (rV 501),eD P "Tongue" 912 (rV 518),eD P "_law_types" 939 (rV 523),eD P "_law_keys" 945 (rV 536),eD P "_law_gaps" 956 (rV 545),eD P "_law_draw" 966 (rV 552),eD P "_law_told" 972 (rV 557),eD P "_law_key" 987 (rV 564),eD P "_law_element" 993 (rV 569),eD P "_law_braces" 999 (rV 574),eD P "_law_place" 1007 (rV 581),eD P "_law_written" 1024 (rV 588)]⟩ 74 }
noncomputable def a12_3 (P : Params) : Obj := oF .none [(iV 2),(iV 0),(rV 20),(iV 8),(iV 0),(rV 40),(iV 10),(iV 0),(rV 52),(iV 17),(iV 0),(rV 72),(iV 19),(iV 0),(rV 79),(iV 23),(iV 0),(rV 86),(iV 30),(iV 0),(rV 93),(iV 44),(iV 0),(rV 100),(iV 82),(iV 0),(rV 107),(iV 90),(iV 0),(rV 114),(iV 93),(iV 0),(rV 121),(iV 144),(iV 0),(rV 206),(iV 147),(iV 0),(rV 213),(iV 156),(iV 0),(rV 220),(iV 166),(iV 0),(rV 227),(iV 177),(iV 0),(rV 234),(iV 195),(iV 0),(rV 241),(iV 213),(iV 0),(rV 248),(iV 224),(iV 0),(rV 255),(iV 226),(iV 0),(rV 262),(iV 229),(iV 0),(rV 269),(iV 245),(iV 0),(rV 276),(iV 255),(iV 0),(rV 283),(iV 265),(iV 0),(rV 290),(iV 269),(iV 0),(rV 297),(iV 271),(iV 0),(rV 304),(iV 275),(iV 0),(rV 311),(iV 299),(iV 0),(rV 318),(iV 303),(iV 0),(rV 325),(iV 310),(iV 0),(rV 332),(iV 321),(iV 0),(rV 339),(iV 331),(iV 0),(rV 346),(iV 352),(iV 0),(rV 353),(iV 357),(iV 0),(rV 360),(iV 369),(iV 0),(rV 367),(iV 385),(iV 0),(rV 374),(iV 387),(iV 0),(rV 381),(iV 391),(iV 0),(rV 388),(iV 396),(iV 0),(rV 395),(iV 403),(iV 0),(rV 402),(iV 407),(iV 0),(rV 409),(iV 409),(iV 0),(rV 416),(iV 415),(iV 0),(rV 423),(iV 417),(iV 0),(rV 430),(iV 419),(iV 0),(rV 437),(iV 428),(iV 0),(rV 444),(iV 430),(iV 0),(rV 451),(iV 445),(iV 0),(rV 458),(iV 450),(iV 0),(rV 465),(iV 461),(iV 0),(rV 472),(iV 472),(iV 0),(rV 479),(iV 486),(iV 0),(rV 486),(iV 499),(iV 0),(rV 493),(iV 514),(iV 0),(rV 500),(iV 517),(iV 0),(rV 507),(iV 524),(iV 0),(rV 535),(iV 527),(iV 0),(rV 551),(iV 532),(iV 0),(rV 556),(iV 534),(iV 0),(rV 563),(iV 544),(iV 0),(rV 568),(iV 561),(iV 0),(rV 573),(iV 580),(iV 0),(rV 580),(iV 583),(iV 0),(rV 587)]
noncomputable def a364 (P : Params) : Obj := oS (.type "tuple") [(sV "a_type" 688),(sV "bits" 689),(sV "word" 690),(sV "sort" 691),(sV "span" 692),(sV "number" 693)]
noncomputable def a366 (P : Params) : Obj := oU .none (f0 (F 39) "span_of_word")
noncomputable def a367 (P : Params) : Obj := cO "span_of_word" 685 "span_of_word" 686 687 369 3 3 362 true 363 364 365 366 694 369 695
noncomputable def a368 (P : Params) : Obj := oU (.type "function") (f1 (F 39) "span_of_word" .none (sV "siftwall.types" 564) (rV 367))
noncomputable def a371 (P : Params) : Obj := oS (.type "tuple") [(sV "reader" 702),(sV "text" 703),(sV "top" 704)]
noncomputable def a373 (P : Params) : Obj := oU .none (f0 (F 41) "out_of_range")
noncomputable def a374 (P : Params) : Obj := cO "out_of_range" 699 "out_of_range" 700 701 385 3 3 369 true 370 371 372 373 705 385 706
noncomputable def a375 (P : Params) : Obj := oU (.type "function") (f1 (F 41) "out_of_range" .none (sV "siftwall.readexpr" 697) (rV 374))
noncomputable def a378 (P : Params) : Obj := oS (.type "tuple") [(sV "reader" 711)]
noncomputable def a380 (P : Params) : Obj := oU .none (f0 (F 42) "read_text")
noncomputable def a381 (P : Params) : Obj := cO "read_text" 708 "read_text" 709 710 387 1 3 376 true 377 378 379 380 712 387 713
noncomputable def a382 (P : Params) : Obj := oU (.type "function") (f1 (F 42) "read_text" .none (sV "siftwall.readexpr" 697) (rV 381))
noncomputable def a385 (P : Params) : Obj := oS (.type "tuple") [(sV "reader" 718)]
noncomputable def a387 (P : Params) : Obj := oU .none (f0 (F 43) "read_comment")
noncomputable def a388 (P : Params) : Obj := cO "read_comment" 715 "read_comment" 716 717 391 1 3 383 true 384 385 386 387 719 391 720
noncomputable def a389 (P : Params) : Obj := oU (.type "function") (f1 (F 43) "read_comment" .none (sV "siftwall.readexpr" 697) (rV 388))
noncomputable def a392 (P : Params) : Obj := oS (.type "tuple") [(sV "reader" 725),(sV "token" 726),(sV "ms" 727)]
noncomputable def a394 (P : Params) : Obj := oU .none (f0 (F 44) "read_time")
noncomputable def a395 (P : Params) : Obj := cO "read_time" 722 "read_time" 723 724 396 1 3 390 true 391 392 393 394 728 396 729
noncomputable def a396 (P : Params) : Obj := oU (.type "function") (f1 (F 44) "read_time" .none (sV "siftwall.readexpr" 697) (rV 395))
noncomputable def a399 (P : Params) : Obj := oS (.type "tuple") [(sV "reader" 734),(sV "name" 735)]
noncomputable def a401 (P : Params) : Obj := oU .none (f0 (F 45) "type_here")
noncomputable def a402 (P : Params) : Obj := cO "type_here" 731 "type_here" 732 733 403 2 3 397 true 398 399 400 401 736 403 737
noncomputable def a403 (P : Params) : Obj := oU (.type "function") (f1 (F 45) "type_here" .none (sV "siftwall.readexpr" 697) (rV 402))
noncomputable def a406 (P : Params) : Obj := oS (.type "tuple") [(sV "reader" 742),(sV "kind" 743)]
noncomputable def a408 (P : Params) : Obj := oU .none (f0 (F 46) "is_mask_kind")
noncomputable def a409 (P : Params) : Obj := cO "is_mask_kind" 739 "is_mask_kind" 740 741 407 2 3 404 true 405 406 407 408 744 407 745
noncomputable def a410 (P : Params) : Obj := oU (.type "function") (f1 (F 46) "is_mask_kind" .none (sV "siftwall.readexpr" 697) (rV 409))
noncomputable def a413 (P : Params) : Obj := oS (.type "tuple") [(sV "reader" 750),(sV "kind" 751),(sV "text" 752),(sV "answer" 753)]
noncomputable def a415 (P : Params) : Obj := oU .none (f0 (F 47) "resolved")
noncomputable def a416 (P : Params) : Obj := cO "resolved" 747 "resolved" 748 749 409 4 3 411 true 412 413 414 415 754 409 755
noncomputable def a417 (P : Params) : Obj := oU (.type "function") (f1 (F 47) "resolved" .none (sV "siftwall.readexpr" 697) (rV 416))
noncomputable def a420 (P : Params) : Obj := oS (.type "tuple") [(sV "reader" 760),(sV "kind" 761),(sV "text" 762)]
noncomputable def a422 (P : Params) : Obj := oU .none (f0 (F 48) "span_of_text")
noncomputable def a423 (P : Params) : Obj := cO "span_of_text" 757 "span_of_text" 758 759 415 3 3 418 true 419 420 421 422 763 415 764
noncomputable def a424 (P : Params) : Obj := oU (.type "function") (f1 (F 48) "span_of_text" .none (sV "siftwall.readexpr" 697) (rV 423))
noncomputable def a427 (P : Params) : Obj := oS (.type "tuple") [(sV "reader" 769),(sV "kind" 770),(sV "text" 771)]
noncomputable def a429 (P : Params) : Obj := oU .none (f0 (F 49) "value_of_text")
noncomputable def a430 (P : Params) : Obj := cO "value_of_text" 766 "value_of_text" 767 768 417 3 3 425 true 426 427 428 429 772 417 773
noncomputable def a431 (P : Params) : Obj := oU (.type "function") (f1 (F 49) "value_of_text" .none (sV "siftwall.readexpr" 697) (rV 430))
noncomputable def a434 (P : Params) : Obj := oS (.type "tuple") [(sV "reader" 778),(sV "kind" 779),(sV "least" 780),(sV "token" 781),(sV "n" 782)]
noncomputable def a436 (P : Params) : Obj := oU .none (f0 (F 50) "read_from")
noncomputable def a437 (P : Params) : Obj := cO "read_from" 775 "read_from" 776 777 419 3 3 432 true 433 434 435 436 783 419 784
noncomputable def a438 (P : Params) : Obj := oU (.type "function") (f1 (F 50) "read_from" .none (sV "siftwall.readexpr" 697) (rV 437))
noncomputable def a441 (P : Params) : Obj := oS (.type "tuple") [(sV "reader" 789),(sV "kind" 790)]
noncomputable def a443 (P : Params) : Obj := oU .none (f0 (F 51) "read_value")
noncomputable def a444 (P : Params) : Obj := cO "read_value" 786 "read_value" 787 788 428 2 3 439 true 440 441 442 443 791 428 792
noncomputable def a445 (P : Params) : Obj := oU (.type "function") (f1 (F 51) "read_value" .none (sV "siftwall.readexpr" 697) (rV 444))
noncomputable def a448 (P : Params) : Obj := oS (.type "tuple") [(sV "reader" 797),(sV "kind" 798),(sV "token" 799),(sV "is_star" 800),(sV "span" 801),(sV "n" 802)]
noncomputable def a450 (P : Params) : Obj := oU .none (f0 (F 52) "read_span")
noncomputable def a451 (P : Params) : Obj := cO "read_span" 794 "read_span" 795 796 430 2 3 446 true 447 448 449 450 803 430 804
noncomputable def a452 (P : Params) : Obj := oU (.type "function") (f1 (F 52) "read_span" .none (sV "siftwall.readexpr" 697) (rV 451))
noncomputable def a455 (P : Params) : Obj := oS (.type "tuple") [(sV "reader" 809),(sV "kind" 810),(sV "n" 811)]
noncomputable def a457 (P : Params) : Obj := oU .none (f0 (F 53) "barred")
noncomputable def a458 (P : Params) : Obj := cO "barred" 806 "barred" 807 808 445 3 3 453 true 454 455 456 457 812 445 813
noncomputable def a459 (P : Params) : Obj := oU (.type "function") (f1 (F 53) "barred" .none (sV "siftwall.readexpr" 697) (rV 458))
noncomputable def a462 (P : Params) : Obj := oS (.type "tuple") [(sV "reader" 818),(sV "token" 819)]
noncomputable def a464 (P : Params) : Obj := oU .none (f0 (F 54) "read_verdict")
noncomputable def a465 (P : Params) : Obj := cO "read_verdict" 815 "read_verdict" 816 817 450 1 3 460 true 461 462 463 464 820 450 821
noncomputable def a466 (P : Params) : Obj := oU (.type "function") (f1 (F 54) "read_verdict" .none (sV "siftwall.readexpr" 697) (rV 465))
noncomputable def a469 (P : Params) : Obj := oS (.type "tuple") [(sV "reader" 826),(sV "kinds" 827),(sV "box" 828),(sV "kind" 829),(sV "low" 830),(sV "high" 831)]
noncomputable def a471 (P : Params) : Obj := oU .none (f0 (F 55) "read_box")
noncomputable def a472 (P : Params) : Obj := cO "read_box" 823 "read_box" 824 825 461 2 3 467 true 468 469 470 471 832 461 833
noncomputable def a473 (P : Params) : Obj := oU (.type "function") (f1 (F 55) "read_box" .none (sV "siftwall.readexpr" 697) (rV 472))
noncomputable def a476 (P : Params) : Obj := oS (.type "tuple") [(sV "reader" 838),(sV "data" 839),(sV "is_whole" 840),(sV "verdict" 841),(sV "key" 842),(sV "kind" 843)]
noncomputable def a478 (P : Params) : Obj := oU .none (f0 (F 56) "read_datum")
noncomputable def a479 (P : Params) : Obj := cO "read_datum" 835 "read_datum" 836 837 472 3 3 474 true 475 476 477 478 844 472 845
noncomputable def a480 (P : Params) : Obj := oU (.type "function") (f1 (F 56) "read_datum" .none (sV "siftwall.readexpr" 697) (rV 479))
noncomputable def a483 (P : Params) : Obj := oS (.type "tuple") [(sV "reader" 850),(sV "kinds" 851),(sV "data" 852),(sV "is_whole" 853),(sV "box" 854),(sV "timeout" 855),(sV "comment" 856)]
noncomputable def a485 (P : Params) : Obj := oU .none (f0 (F 57) "read_literal")
noncomputable def a486 (P : Params) : Obj := cO "read_literal" 847 "read_literal" 848 849 486 4 3 481 true 482 483 484 485 857 486 858
noncomputable def a487 (P : Params) : Obj := oU (.type "function") (f1 (F 57) "read_literal" .none (sV "siftwall.readexpr" 697) (rV 486))
noncomputable def a490 (P : Params) : Obj := oS (.type "tuple") [(sV "reader" 863),(sV "kinds" 864),(sV "data" 865),(sV "is_whole" 866),(sV "found" 867)]
noncomputable def a492 (P : Params) : Obj := oU .none (f0 (F 58) "read_braces")
noncomputable def a493 (P : Params) : Obj := cO "read_braces" 860 "read_braces" 861 862 499 4 3 488 true 489 490 491 492 868 499 869
noncomputable def a494 (P : Params) : Obj := oU (.type "function") (f1 (F 58) "read_braces" .none (sV "siftwall.readexpr" 697) (rV 493))
noncomputable def a497 (P : Params) : Obj := oS (.type "tuple") [(sV "reader" 874),(sV "kinds" 875),(sV "data" 876)]
noncomputable def a499 (P : Params) : Obj := oU .none (f0 (F 59) "read_literals")
noncomputable def a500 (P : Params) : Obj := cO "read_literals" 871 "read_literals" 872 873 514 3 3 495 true 496 497 498 499 877 514 878
noncomputable def a501 (P : Params) : Obj := oU (.type "function") (f1 (F 59) "read_literals" .none (sV "siftwall.readexpr" 697) (rV 500))
noncomputable def a504 (P : Params) : Obj := { cls := (.type "dict"),data := .dict ⟨[eD P "__module__" 889 (sV "siftwall.fields" 880),eD P "__qualname__" 891 (sV "Tongue" 890),eD P "__firstlineno__" 893 (.int (517) 892),eD P "__init__" 902 (rV 515),eD P "__static_attributes__" 905 (rV 516)]⟩ 5 }
noncomputable def a506 (P : Params) : Obj := oF .none [(iV 519),(iV 4),(rV 514)]
noncomputable def a507 (P : Params) : Obj := oF (.type "code") [(sV "Tongue" 884),(sV "Tongue" 885),(sV "/claim/cut.py" 886),(iV 517),(iV 0),(iV 0),(iV 0),(iV 0),(rV 505),(.bool false),(iV 181),(rV 506),.none,.none,.none,.none,(iV 887),(iV 517),(sV "/claim/cut.py" 888)]
noncomputable def a508 (P : Params) : Obj := { cls := (.type "frame"),slots := ⟨[some (rV 507),some (rV 3),some (rV 504),none,some (sV "siftwall.fields" 880),none,some (rV 0)]⟩ }
noncomputable def a511 (P : Params) : Obj := oS (.type "tuple") [(sV "self" 897),(sV "fields" 898),(sV "types" 899)]
noncomputable def a513 (P : Params) : Obj := oU .none (f0 (M 61 0) "Tongue.__init__")
noncomputable def a514 (P : Params) : Obj := cO "__init__" 894 "Tongue.__init__" 895 896 519 3 3 509 true 510 511 512 513 900 519 901
noncomputable def a515 (P : Params) : Obj := oU (.type "function") (f1 (M 61 0) "Tongue.__init__" .none (sV "siftwall.fields" 880) (rV 514))
noncomputable def a516 (P : Params) : Obj := oS (.type "tuple") [(sV "fields" 903),(sV "types" 904)]
noncomputable def a517 (P : Params) : Obj := { cls := (.type "dict"),data := .dict ⟨[eD P "__module__" 889 (sV "siftwall.fields" 880),eD P "__firstlineno__" 893 (.int (517) 892),eD P "__init__" 902 (rV 515),eD P "__static_attributes__" 905 (rV 516),eD P "__dict__" 907 (rV 519),eD P "__weakref__" 909 (rV 520),eD P "__doc__" 910 .none]⟩ 4 }
noncomputable def a518 (P : Params) : Obj := { cls := (.type "type"),data := .cls { name := S_ "Tongue",bases := [(.type "object")],mro := [(rV 518),(.type "object")],ns := 517,qualname := S_ "Tongue" },slots := ⟨[none,none,some (sV "Tongue" 882),some (sV "Tongue" 890),some (.builtin "object.__new__"),some (.bool true)]⟩ }
noncomputable def a519 (P : Params) : Obj := oF (.type "getset_descriptor") [(sV "__dict__" 906),(rV 518),(.builtin "function.__dict__"),(.builtin "function.__dict__#set")]
noncomputable def a520 (P : Params) : Obj := oF (.type "getset_descriptor") [(sV "__weakref__" 908),(rV 518),(.builtin "ExceptionGroup.__weakref__"),.none]
noncomputable def a521 (P : Params) : Obj := oF (.type "super") [(rV 518),(rV 518),(rV 518)]
noncomputable def a522 (P : Params) : Obj := oF (.type "builtin_function_or_method") [(.builtin "object.__init_subclass__"),(rV 518)]
noncomputable def a523 (P : Params) : Obj := { cls := (.type "dict"),data := .dict ⟨[eD P "ipv4_addr" 915 (rV 525),eD P "inet_service" 919 (rV 527),eD P "tcp_flag" 926 (rV 529)]⟩ 3 }
noncomputable def a524 (P : Params) : Obj := { cls := (.type "dict"),data := .dict ⟨[]⟩ 0 }
noncomputable def a525 (P : Params) : Obj := oS (.type "tuple") [(.int (32) 916),(sV "big" 917),(sV "ip4" 918),(rV 524)]
noncomputable def a526 (P : Params) : Obj := { cls := (.type "dict"),data := .dict ⟨[eD P "ssh" 923 (.int (22) 924)]⟩ 1 }
noncomputable def a527 (P : Params) : Obj := oS (.type "tuple") [(.int (16) 920),(sV "big" 921),(sV "number" 922),(rV 526)]
noncomputable def a528 (P : Params) : Obj := { cls := (.type "dict"),data := .dict ⟨[eD P "syn" 930 (.int (2) 931),eD P "ack" 932 (.int (16) 933)]⟩ 2 }
noncomputable def a529 (P : Params) : Obj := oS (.type "tuple") [(.int (8) 927),(sV "big" 928),(sV "mask" 929),(rV 528)]
noncomputable def a534 (P : Params) : Obj := oU .none (f0 (F 64) "_law_keys")
noncomputable def a535 (P : Params) : Obj := cO "_law_keys" 940 "_law_keys" 941 942 524 0 3 530 true 531 532 533 534 943 524 944
noncomputable def a536 (P : Params) : Obj := oU (.type "function") (f1 (F 64) "_law_keys" .none (sV "law_pq1063_01" 913) (rV 535))
noncomputable def a538 (P : Params) : Obj := oS (.type "tuple") [(sV " " 946)]
noncomputable def a539 (P : Params) : Obj := oS (.type "tuple") [(sV "\\\n" 947)]
noncomputable def a540 (P : Params) : Obj := oS (.type "tuple") [(sV "\x0d\t" 948)]
noncomputable def a541 (P : Params) : Obj := oS (.type "tuple") [(sV "\n" 949)]
noncomputable def a542 (P : Params) : Obj := oS (.type "tuple") [(sV " # a, } \"" 950), (sV "\n" 951)]
noncomputable def a543 (P : Params) : Obj := oS (.type "tuple") [(sV "#\\" 952), (sV "\n" 953)]
noncomputable def a544 (P : Params) : Obj := oS (.type "tuple") [(sV "\n" 954),(sV "\n" 955)]
noncomputable def a545 (P : Params) : Obj := oS (.type "tuple") [(rV 537),(rV 538),(rV 539),(rV 540),(rV 541),(rV 542),(rV 543),(rV 544)]
noncomputable def a548 (P : Params) : Obj := oS (.type "tuple") [(sV "pen" 960),(sV "many" 961),(sV "at" 962),(sV "number" 963)]
noncomputable def a550 (P : Params) : Obj := oU .none (f0 (F 66) "_law_draw")
noncomputable def a551 (P : Params) : Obj := cO "_law_draw" 957 "_law_draw" 958 959 527 2 3 546 true 547 548 549 550 964 527 965
noncomputable def a552 (P : Params) : Obj := oU (.type "function") (f1 (F 66) "_law_draw" .none (sV "law_pq1063_01" 913) (rV 551))
noncomputable def a555 (P : Params) : Obj := oU .none (f0 (F 67) "_law_told")
noncomputable def a556 (P : Params) : Obj := oF (.type "code") [(sV "_law_told" 967),(sV "_law_told" 968),(sV "/claim/cut.py" 969),(iV 532),(iV 1),(iV 0),(iV 0),(iV 3),(rV 553),(.bool true),(iV 181),(rV 554),.none,.none,.none,(rV 555),(iV 970),(iV 532),(sV "/claim/cut.py" 971)]
noncomputable def a557 (P : Params) : Obj := oU (.type "function") (f1 (F 67) "_law_told" .none (sV "law_pq1063_01" 913) (rV 556))
noncomputable def a560 (P : Params) : Obj := oS (.type "tuple") [(sV "pen" 976),(sV "names" 977),(sV "many" 978),(sV "tokens" 979),(sV "box" 980),(sV "name" 981),(sV "text" 982),(sV "low" 983),(sV "high" 984)]
noncomputable def a562 (P : Params) : Obj := oU .none (f0 (F 68) "_law_key")
noncomputable def a563 (P : Params) : Obj := cO "_law_key" 973 "_law_key" 974 975 534 3 3 558 true 559 560 561 562 985 534 986
noncomputable def a564 (P : Params) : Obj := oU (.type "function") (f1 (F 68) "_law_key" .none (sV "law_pq1063_01" 913) (rV 563))
noncomputable def a567 (P : Params) : Obj := oU .none (f0 (F 69) "_law_element")
noncomputable def a568 (P : Params) : Obj := oF (.type "code") [(sV "_law_element" 988),(sV "_law_element" 989),(sV "/claim/cut.py" 990),(iV 544),(iV 3),(iV 0),(iV 0),(iV 3),(rV 565),(.bool true),(iV 181),(rV 566),.none,.none,.none,(rV 567),(iV 991),(iV 544),(sV "/claim/cut.py" 992)]
noncomputable def a569 (P : Params) : Obj := oU (.type "function") (f1 (F 69) "_law_element" .none (sV "law_pq1063_01" 913) (rV 568))
noncomputable def a572 (P : Params) : Obj := oU .none (f0 (F 70) "_law_braces")
noncomputable def a573 (P : Params) : Obj := oF (.type "code") [(sV "_law_braces" 994),(sV "_law_braces" 995),(sV "/claim/cut.py" 996),(iV 561),(iV 4),(iV 0),(iV 0),(iV 3),(rV 570),(.bool true),(iV 181),(rV 571),.none,.none,.none,(rV 572),(iV 997),(iV 561),(sV "/claim/cut.py" 998)]
noncomputable def a574 (P : Params) : Obj := oU (.type "function") (f1 (F 70) "_law_braces" .none (sV "law_pq1063_01" 913) (rV 573))
noncomputable def a577 (P : Params) : Obj := oS (.type "tuple") [(sV "text" 1003),(sV "lines" 1004)]
noncomputable def a579 (P : Params) : Obj := oU .none (f0 (F 71) "_law_place")
noncomputable def a580 (P : Params) : Obj := cO "_law_place" 1000 "_law_place" 1001 1002 580 1 3 575 true 576 577 578 579 1005 580 1006
noncomputable def a581 (P : Params) : Obj := oU (.type "function") (f1 (F 71) "_law_place" .none (sV "law_pq1063_01" 913) (rV 580))
noncomputable def a584 (P : Params) : Obj := oS (.type "tuple") [(sV "pen" 1011),(sV "tokens" 1012),(sV "text" 1013),(sV "due" 1014),(sV "run" 1015),(sV "sort" 1016),(sV "word" 1017),(sV "is_free" 1018),(sV "gap" 1019),(sV "is_run" 1020),(sV "piece" 1021)]
noncomputable def a586 (P : Params) : Obj := oU .none (f0 (F 72) "_law_written")
noncomputable def a587 (P : Params) : Obj := cO "_law_written" 1008 "_law_written" 1009 1010 583 2 3 582 true 583 584 585 586 1022 583 1023
noncomputable def a588 (P : Params) : Obj := oU (.type "function") (f1 (F 72) "_law_written" .none (sV "law_pq1063_01" 913) (rV 587))
noncomputable def a3_4 (P : Params) : Obj := { cls := (.type "dict"),data := .dict ⟨[eD P "__name__" 165 (sV "law_pq1063_01" 913),eD P "__doc__" 166 .none,eD P "__package__" 167 .none,eD P "__loader__" 168 (.builtin "__main__.__loader__#opaque"),eD P "__spec__" 169 .none,eD P "__annotations__" 170 (rV 6),eD P "__builtins__" 171 (rV 4),eD P "__file__" 173 (sV "/claim/cut.py" 172),eD P "__cached__" 174 .none,eD P "WallFault" 218 (rV 31),eD P "Misused" 234 (rV 44),eD P "BadText" 264 (rV 64),eD P "is_word_sign" 273 (rV 73),eD P "run_end" 281 (rV 80),eD P "string_end" 292 (rV 87),eD P "put_run" 303 (rV 94),eD P "read_tokens" 317 (rV 101),eD P "token_words" 324 (rV 108),eD P "unexpected" 333 (rV 115),eD P "Reader" 443 (rV 196),eD P "expected" 451 (rV 207),eD P "decimal_of" 463 (rV 214),eD P "hex_of" 474 (rV 221),eD P "ip4_of" 485 (rV 228),eD P "groups_of" 499 (rV 235),eD P "ip6_of" 511 (rV 242),eD P "mac_of" 522 (rV 249),eD P "mask_of" 530 (rV 256),eD P "prefix_span" 540 (rV 263),eD P "prefix_of" 552 (rV 270),eD P "name_number" 563 (rV 277),eD P "based_number" 576 (rV 284),eD P "number_word" 583 (rV 291),eD P "time_units" 589 (rV 298),eD P "part_end" 598 (rV 305),eD P "time_word" 615 (rV 312),eD P "unquoted" 622 (rV 319),eD P "name_word" 630 (rV 326),eD P "name_span" 640 (rV 333),eD P "mask_word" 651 (rV 340),eD P "value_of_word" 662 (rV 347),eD P "address_span" 672 (rV 354),eD P "ends_span" 684 (rV 361),eD P "span_of_word" 696 (rV 368),eD P "out_of_range" 707 (rV 375),eD P "read_text" 714 (rV 382),eD P "read_comment" 721 (rV 389),eD P "read_time" 730 (rV 396),eD P "type_here" 738 (rV 403),eD P "is_mask_kind" 746 (rV 410),eD P "resolved" 756 (rV 417),eD P "span_of_text" 765 (rV 424),eD P "value_of_text" 774 (rV 431),eD P "read_from" 785 (rV 438),eD P "read_value" 793 (rV 445),eD P "read_span" 805 (rV 452),eD P "barred" 814 (rV 459),eD P "read_verdict" 822 (rV 466),eD P "read_box" 834 (rV 473),eD P "read_datum" 846 (rV 480),eD P "read_literal" 859 (rV 487),eD P "read_braces" 870 (rV 494),eD P "read_literals" 879 (rV 501),eD P "Tongue" 912 (rV 518),eD P "_law_types" 939 (rV 523),eD P "_law_keys" 945 (rV 536),eD P "_law_gaps" 956 (rV 545),eD P "_law_draw" 966 (rV 552),eD P "_law_told" 972 (rV 557),eD P "_law_key" 987 (rV 564),eD P "_law_element" 993 (rV 569),eD P "_law_braces" 999 (rV 574),eD P "_law_place" 1007 (rV 581),eD P "_law_written" 1024 (rV 588),eD P "_law_kinds" 1030 (rV 593),eD P "law" 1047 (rV 600)]⟩ 76 }
noncomputable def a12_4 (P : Params) : Obj := oF .none [(iV 2),(iV 0),(rV 20),(iV 8),(iV 0),(rV 40),(iV 10),(iV 0),(rV 52),(iV 17),(iV 0),(rV 72),(iV 19),(iV 0),(rV 79),(iV 23),(iV 0),(rV 86),(iV 30),(iV 0),(rV 93),(iV 44),(iV 0),(rV 100),(iV 82),(iV 0),(rV 107),(iV 90),(iV 0),(rV 114),(iV 93),(iV 0),(rV 121),(iV 144),(iV 0),(rV 206),(iV 147),(iV 0),(rV 213),(iV 156),(iV 0),(rV 220),(iV 166),(iV 0),(rV 227),(iV 177),(iV 0),(rV 234),(iV 195),(iV 0),(rV 241),(iV 213),(iV 0),(rV 248),(iV 224),(iV 0),(rV 255),(iV 226),(iV 0),(rV 262),(iV 229),(iV 0),(rV 269),(iV 245),(iV 0),(rV 276),(iV 255),(iV 0),(rV 283),(iV 265),(iV 0),(rV 290),(iV 269),(iV 0),(rV 297),(iV 271),(iV 0),(rV 304),(iV 275),(iV 0),(rV 311),(iV 299),(iV 0),(rV 318),(iV 303),(iV 0),(rV 325),(iV 310),(iV 0),(rV 332),(iV 321),(iV 0),(rV 339),(iV 331),(iV 0),(rV 346),(iV 352),(iV 0),(rV 353),(iV 357),(iV 0),(rV 360),(iV 369),(iV 0),(rV 367),(iV 385),(iV 0),(rV 374),(iV 387),(iV 0),(rV 381),(iV 391),(iV 0),(rV 388),(iV 396),(iV 0),(rV 395),(iV 403),(iV 0),(rV 402),(iV 407),(iV 0),(rV 409),(iV 409),(iV 0),(rV 416),(iV 415),(iV 0),(rV 423),(iV 417),(iV 0),(rV 430),(iV 419),(iV 0),(rV 437),(iV 428),(iV 0),(rV 444),(iV 430),(iV 0),(rV 451),(iV 445),(iV 0),(rV 458),(iV 450),(iV 0),(rV 465),(iV 461),(iV 0),(rV 472),(iV 472),(iV 0),(rV 479),(iV 486),(iV 0),(rV 486),(iV 499),(iV 0),(rV 493),(iV 514),(iV 0),(rV 500),(iV 517),(iV 0),(rV 507),(iV 524),(iV 0),(rV 535),(iV 527),(iV 0),(rV 551),(iV 532),(iV 0),(rV 556),(iV 534),(iV 0),(rV 563),(iV 544),(iV 0),(rV 568),(iV 561),(iV 0),(rV 573),(iV 580),(iV 0),(rV 580),(iV 583),(iV 0),(rV 587),(iV 603),(iV 0),(rV 592),(iV 607),(iV 0),(rV 599)]
noncomputable def a591 (P : Params) : Obj := oU .none (f0 (F 73) "_law_kinds")
noncomputable def a592 (P : Params) : Obj := oF (.type "code") [(sV "_law_kinds" 1025),(sV "_law_kinds" 1026),(sV "/claim/cut.py" 1027),(iV 603),(iV 1),(iV 0),(iV 0),(iV 3),(rV 589),(.bool true),(iV 181),(rV 590),.none,.none,.none,(rV 591),(iV 1028),(iV 603),(sV "/claim/cut.py" 1029)]
noncomputable def a593 (P : Params) : Obj := oU (.type "function") (f1 (F 73) "_law_kinds" .none (sV "law_pq1063_01" 913) (rV 592))
noncomputable def a596 (P : Params) : Obj := oS (.type "tuple") [(sV "script" 1034),(sV "pen" 1035),(sV "names" 1036),(sV "data" 1037),(sV "tokens" 1038),(sV "literals" 1039),(sV "rest" 1040),(sV "text" 1041),(sV "due" 1042),(sV "reader" 1043),(sV "told" 1044)]
noncomputable def a598 (P : Params) : Obj := oU .none (f0 (F 74) "law")
noncomputable def a599 (P : Params) : Obj := cO "law" 1031 "law" 1032 1033 607 1 3 594 true 595 596 597 598 1045 607 1046
noncomputable def a600 (P : Params) : Obj := oU (.type "function") (f1 (F 74) "law" .none (sV "law_pq1063_01" 913) (rV 599))
noncomputable def N1 (P : Params) : List Obj := [a15 P,a16 P,a17 P,a11 P,a19 P,a20 P,a21 P,a11 P,a12 P,a24 P,a11 P,a26 P,a27 P,a28 P,a29 P,a30 P,a31 P,a32 P,a33 P,a34 P,a35 P,a16 P,a37 P,a11 P,a12 P,a40 P,a41 P,a11 P,a43 P,a44 P,a45 P,a46 P,a35 P,a16 P,a49 P,a11 P,a51 P,a52 P,a53 P,a54 P,a11 P,a12 P,a57 P,a11 P,a59 P,a60 P,a61 P,a62 P,a63 P,a64 P,a65 P,a66 P,a11 P,a12 P,a69 P,a11 P,a71 P,a72 P,a73 P,a11 P,a12 P,a76 P,a11 P,a78 P,a79 P,a80 P,a11 P,a12 P,a83 P,a11 P,a85 P,a86 P,a87 P,a11 P,a12 P,a90 P,a11 P,a92 P,a93 P,a94 P,a11 P,a12 P,a97 P,a11 P,a99 P,a100 P,a101 P,a11 P,a12 P,a104 P,a11 P,a106 P,a107 P,a108 P,a11 P,a12 P,a111 P,a11 P,a113 P,a114 P,a115 P]
noncomputable def N2 (P : Params) : List Obj := [a11 P,a16 P,a118 P,a11 P,a120 P,a121 P,a122 P,a11 P,a12 P,a125 P,a11 P,a127 P,a128 P,a129 P,a130 P,a11 P,a12 P,a133 P,a11 P,a135 P,a136 P,a137 P,a11 P,a12 P,a140 P,a11 P,a142 P,a143 P,a144 P,a11 P,a12 P,a147 P,a11 P,a149 P,a150 P,a151 P,a11 P,a12 P,a154 P,a11 P,a156 P,a157 P,a158 P,a11 P,a12 P,a161 P,a11 P,a163 P,a164 P,a165 P,a11 P,a12 P,a168 P,a11 P,a170 P,a171 P,a172 P,a11 P,a12 P,a175 P,a11 P,a177 P,a178 P,a179 P,a11 P,a12 P,a182 P,a11 P,a184 P,a185 P,a186 P,a11 P,a12 P,a189 P,a11 P,a191 P,a192 P,a193 P,a194 P,a195 P,a196 P,a197 P,a198 P,a199 P,a200 P,a11 P,a12 P,a203 P,a11 P,a205 P,a206 P,a207 P,a11 P,a12 P,a210 P,a11 P,a212 P,a213 P,a214 P,a11 P,a12 P,a217 P,a11 P,a219 P,a220 P,a221 P,a11 P,a12 P,a224 P,a11 P,a226 P,a227 P,a228 P,a11 P,a12 P,a231 P,a11 P,a233 P,a234 P,a235 P,a11 P,a12 P,a238 P,a11 P,a240 P,a241 P,a242 P,a11 P,a12 P,a245 P,a11 P,a247 P,a248 P,a249 P,a11 P,a12 P,a252 P,a11 P,a254 P,a255 P,a256 P,a11 P,a12 P,a259 P,a11 P,a261 P,a262 P,a263 P,a11 P,a12 P,a266 P,a11 P,a268 P,a269 P,a270 P,a11 P,a12 P,a273 P,a11 P,a275 P,a276 P,a277 P,a11 P,a12 P,a280 P,a11 P,a282 P,a283 P,a284 P,a11 P,a12 P,a287 P,a11 P,a289 P,a290 P,a291 P,a11 P,a12 P,a11 P,a11 P,a296 P,a297 P,a298 P,a11 P,a12 P,a301 P,a11 P,a303 P,a304 P,a305 P,a11 P,a12 P,a308 P,a11 P,a310 P,a311 P,a312 P,a11 P,a12 P,a315 P,a11 P,a317 P,a318 P,a319 P,a11 P,a12 P,a322 P,a11 P,a324 P,a325 P,a326 P,a11 P,a12 P,a329 P,a11 P,a331 P,a332 P,a333 P,a11 P,a12 P,a336 P,a11 P,a338 P,a339 P,a340 P,a11 P,a12 P,a343 P,a11 P,a345 P,a346 P,a347 P,a11 P,a12 P,a350 P,a11 P,a352 P,a353 P,a354 P,a11 P,a12 P,a357 P,a11 P,a359 P,a360 P,a361 P]
noncomputable def N3 (P : Params) : List Obj := [a11 P,a12 P,a364 P,a11 P,a366 P,a367 P,a368 P,a11 P,a12 P,a371 P,a11 P,a373 P,a374 P,a375 P,a11 P,a12 P,a378 P,a11 P,a380 P,a381 P,a382 P,a11 P,a12 P,a385 P,a11 P,a387 P,a388 P,a389 P,a11 P,a12 P,a392 P,a11 P,a394 P,a395 P,a396 P,a11 P,a12 P,a399 P,a11 P,a401 P,a402 P,a403 P,a11 P,a12 P,a406 P,a11 P,a408 P,a409 P,a410 P,a11 P,a12 P,a413 P,a11 P,a415 P,a416 P,a417 P,a11 P,a12 P,a420 P,a11 P,a422 P,a423 P,a424 P,a11 P,a12 P,a427 P,a11 P,a429 P,a430 P,a431 P,a11 P,a12 P,a434 P,a11 P,a436 P,a437 P,a438 P,a11 P,a12 P,a441 P,a11 P,a443 P,a444 P,a445 P,a11 P,a12 P,a448 P,a11 P,a450 P,a451 P,a452 P,a11 P,a12 P,a455 P,a11 P,a457 P,a458 P,a459 P,a11 P,a12 P,a462 P,a11 P,a464 P,a465 P,a466 P,a11 P,a12 P,a469 P,a11 P,a471 P,a472 P,a473 P,a11 P,a12 P,a476 P,a11 P,a478 P,a479 P,a480 P,a11 P,a12 P,a483 P,a11 P,a485 P,a486 P,a487 P,a11 P,a12 P,a490 P,a11 P,a492 P,a493 P,a494 P,a11 P,a12 P,a497 P,a11 P,a499 P,a500 P,a501 P,a11 P,a16 P,a504 P,a11 P,a506 P,a507 P,a508 P,a11 P,a12 P,a511 P,a11 P,a513 P,a514 P,a515 P,a516 P,a517 P,a518 P,a519 P,a520 P,a521 P,a522 P,a523 P,a524 P,a525 P,a526 P,a527 P,a528 P,a529 P,a11 P,a12 P,a11 P,a11 P,a534 P,a535 P,a536 P,a11 P,a538 P,a539 P,a540 P,a541 P,a542 P,a543 P,a544 P,a545 P,a11 P,a12 P,a548 P,a11 P,a550 P,a551 P,a552 P,a11 P,a12 P,a555 P,a556 P,a557 P,a11 P,a12 P,a560 P,a11 P,a562 P,a563 P,a564 P,a11 P,a12 P,a567 P,a568 P,a569 P,a11 P,a12 P,a572 P,a573 P,a574 P,a11 P,a12 P,a577 P,a11 P,a579 P,a580 P,a581 P,a11 P,a12 P,a584 P,a11 P,a586 P,a587 P,a588 P]
noncomputable def N4 (P : Params) : List Obj := [a11 P,a12 P,a591 P,a592 P,a593 P,a11 P,a12 P,a596 P,a11 P,a598 P,a599 P,a600 P]
noncomputable def L0 (P : Params) : List Obj := [boot_o_0 P,boot_o_1 P,boot_o_2 P,boot_o_3 P,boot_o_4 P,boot_o_5 P,boot_o_6 P,boot_o_7 P,boot_o_8 P,boot_o_9 P,boot_o_10 P,a11 P,a12 P,a13 P,a14 P]
noncomputable def L1 (P : Params) : List Obj := [boot_o_0 P,boot_o_1 P,a2_1 P,a3_1 P,boot_o_4 P,boot_o_5 P,boot_o_6 P,boot_o_7 P,boot_o_8 P,boot_o_9 P,boot_o_10 P,a11 P,a12_1 P,a13 P,a14 P] ++ N1 P
noncomputable def L2 (P : Params) : List Obj := [boot_o_0 P,boot_o_1 P,a2_1 P,a3_2 P,boot_o_4 P,boot_o_5 P,boot_o_6 P,boot_o_7 P,boot_o_8 P,boot_o_9 P,boot_o_10 P,a11 P,a12_2 P,a13 P,a14 P] ++ N1 P ++ N2 P
noncomputable def L3 (P : Params) : List Obj := [boot_o_0 P,boot_o_1 P,a2_1 P,a3_3 P,boot_o_4 P,boot_o_5 P,boot_o_6 P,boot_o_7 P,boot_o_8 P,boot_o_9 P,boot_o_10 P,a11 P,a12_3 P,a13 P,a14 P] ++ N1 P ++ N2 P ++ N3 P
noncomputable def L4 (P : Params) : List Obj := [boot_o_0 P,boot_o_1 P,a2_1 P,a3_4 P,boot_o_4 P,boot_o_5 P,boot_o_6 P,boot_o_7 P,boot_o_8 P,boot_o_9 P,boot_o_10 P,a11 P,a12_4 P,a13 P,a14 P] ++ N1 P ++ N2 P ++ N3 P ++ N4 P
noncomputable def odds : List Obj -> List Obj
  | a :: _ :: r => a :: odds r
  | [a] => [a]
  | [] => []
noncomputable def tre : Nat -> List Obj -> BT
  | 0,_ => .nil
  | _,[] => .nil
  | n + 1,o :: r => .node o (tre n (odds r)) (tre n (odds r.tail))
noncomputable abbrev bd : List Stmt := behindTheImports pw
noncomputable def env : Env := { scope := pw.main.scope,locals := mainNs,globals := mainNs,cells := [],code := .ref 13,frame := some 14 }
noncomputable abbrev q0 : Pos := ⟨0,0,0,0⟩
noncomputable abbrev B1 : List Frame := [topFrame q0]
noncomputable abbrev cE : Code := .body bd env
noncomputable def sts (a n : Nat) : List Stmt := (bd.drop a).take n
noncomputable def T (k : Nat) (P : Params) : BT := match k with
  | 0 => tre 12 (L0 P)
  | 1 => tre 12 (L1 P)
  | 2 => tre 12 (L2 P)
  | 3 => tre 12 (L3 P)
  | _ => tre 12 (L4 P)
noncomputable abbrev Z0 (w : World) (os : OsState) : SharedT := ⟨T 0 w.params,15,{},⟨[]⟩,{},187,os⟩
noncomputable abbrev p0 : Pos := ⟨0,0,0,0⟩
noncomputable abbrev Z1 (w : World) (os : OsState) : SharedT := ⟨T 1 w.params,116,{},⟨[]⟩,{},334,os⟩
noncomputable abbrev p1 : Pos := ⟨90,0,92,43⟩
noncomputable abbrev Z2 (w : World) (os : OsState) : SharedT := ⟨T 2 w.params,362,{},⟨[]⟩,{},685,os⟩
noncomputable abbrev p2 : Pos := ⟨357,0,368,15⟩
noncomputable abbrev Z3 (w : World) (os : OsState) : SharedT := ⟨T 3 w.params,589,{},⟨[]⟩,{},1025,os⟩
noncomputable abbrev p3 : Pos := ⟨583,0,602,22⟩
noncomputable abbrev Z4 (w : World) (os : OsState) : SharedT := ⟨T 4 w.params,601,{},⟨[]⟩,{},1048,os⟩
noncomputable abbrev p4 : Pos := ⟨607,0,621,76⟩
noncomputable abbrev l0 : List Stmt := sts 0 12
noncomputable abbrev l1 : List Stmt := sts 12 27
noncomputable abbrev l2 : List Stmt := sts 39 34
noncomputable abbrev l3 : List Stmt := sts 73 2
theorem g0 (w : World) : (fun os => segRunT treeTable pw w 11 (some (.ref 6)) 1 933 (Z0 w os) (piecesOf l0 env cE p0 B1)) = fun os => some (.next,Z1 w os,cE,p1) := by
  rw [PySem.W.Fast.te10110043849684766642]
  kernel_rfl
theorem g1 (w : World) : (fun os => segRunT treeTable pw w 11 (some (.ref 6)) 1 1289 (Z1 w os) (piecesOf l1 env cE p1 B1)) = fun os => some (.next,Z2 w os,cE,p2) := by
  rw [PySem.W.Fast.te10110043849684766642]
  kernel_rfl
theorem g2 (w : World) : (fun os => segRunT treeTable pw w 11 (some (.ref 6)) 1 1283 (Z2 w os) (piecesOf l2 env cE p2 B1)) = fun os => some (.next,Z3 w os,cE,p3) := by
  refine byRow2 "special-get-raises" (P := fun w => (fun os => segRunT treeTable pw w 11 (some (.ref 6)) 1 1283 (Z2 w os) (piecesOf l2 env cE p2 B1)) = fun os => some (.next,Z3 w os,cE,p3)) (fun w => ?_) (fun w => ?_) w
  · rw [PySem.W.Fast.te10110043849684766642]
    kernel_rfl
  · rw [PySem.W.Fast.te10110043849684766642]
    kernel_rfl
theorem g3 (w : World) : (fun os => segRunT treeTable pw w 11 (some (.ref 6)) 1 66 (Z3 w os) (piecesOf l3 env cE p3 B1)) = fun os => some (.next,Z4 w os,cE,p4) := by
  rw [PySem.W.Fast.te10110043849684766642]
  kernel_rfl
noncomputable abbrev Sa (w : World) (os : OsState) : Shared := ⟨⟨⟨L0 w.params⟩,{}⟩,⟨[]⟩,{},187,os⟩
theorem pre_ (w : World) (os : OsState) : topGo treeTable pw w 11 (some (.ref 6)) 12 ⟨boot_heap w.params,⟨[]⟩,boot_drawn,boot_toks,os⟩ (topStub pw) = some (Sa w os,⟨denote treeTable cE,cE,q0,B1⟩) := by
  kernel_rfl
theorem block_ (w : World) (os : OsState) : segRun treeTable pw w 11 (some (.ref 6)) 1 1 (Sa w os) (blockOf bd env cE q0 B1) = some (.next,(Z0 w os).abs,cE,p0) := by
  kernel_rfl
theorem fin_ (w : World) (os : OsState) : topRun treeTable pw w 11 (some (.ref 6)) 2 (Z4 w os).abs ⟨doneF .next,cE,p4,B1⟩ = some (Z4 w os).abs := by
  kernel_rfl
theorem parts : l0 ++ (l1 ++ (l2 ++ (l3 ++ []))) = bd := by kernel_rfl
end Mine
namespace Mine
open PySem PySem.W PySem.Calls PyProof.Rows
theorem run_ (w : World) (os : OsState) : topRun treeTable pw w 11 (some (.ref 6)) (12 + (1 + (933 + (1289 + (1283 + (66 + 2)))))) ⟨boot_heap w.params,⟨[]⟩,boot_drawn,boot_toks,os⟩ (topStub pw) = some (Z4 w os).abs := by
  have k3 := piece_app (rest := []) (segRun_of (congrFun (g3 w) os)) (fin_ w os)
  have k2 := piece_app (segRun_of (congrFun (g2 w) os)) k3
  have k1 := piece_app (segRun_of (congrFun (g1 w) os)) k2
  have k0 := piece_app (segRun_of (congrFun (g0 w) os)) k1
  rw [parts] at k0
  exact go_top (pre_ w os) (piece_block (block_ w os) k0)
theorem size_ (w : World) : ((boot_heap w.params).isNs mainGlobals && (⟨[]⟩ : Array GenState).size == 0,(boot_heap w.params).objs.size,(boot_heap w.params).nsMap mainGlobals "__annotations__") = (true,11,some (.ref 6)) := by
  kernel_rfl
theorem open_ (w : World) : (fencedOpening treeTable pw w 9000).map (fun s => (s.heap,s.gens,s.drawn,s.toks)) = some (boot_heap w.params,Array.mk [],boot_drawn,boot_toks) :=
  boot_open (by kernel_rfl) (by decide) (fun s => rfl) w
noncomputable def idx : Nat -> List Obj -> Frag
  | _,[] => []
  | n,o :: r => (n,o) :: idx (n + 1) r
noncomputable def K (P : Params) : Frag := idx 0 (L4 P)
noncomputable def as' : List Addr := List.range 601
theorem K_as (P : Params) : as' = (K P).map (·.1) := by kernel_rfl
noncomputable def vw : Program := { pw with main := { pw.main with body := [F 74] } }
noncomputable def loose : List Str := (["WallFault","Misused","BadText","is_word_sign","run_end","string_end","put_run","read_tokens","token_words","unexpected","Reader","expected","decimal_of","hex_of","ip4_of","groups_of","ip6_of","mac_of","mask_of","prefix_span","prefix_of","name_number","based_number","number_word","time_units","part_end","time_word","unquoted","name_word","name_span","mask_word","value_of_word","address_span","ends_span","span_of_word","out_of_range","read_text","read_comment","read_time","type_here","is_mask_kind","resolved","span_of_text","value_of_text","read_from","read_value","read_span","barred","read_verdict","read_box","read_datum","read_literal","read_braces","read_literals","Tongue","_law_types","_law_keys","_law_gaps","_law_draw","_law_told","_law_key","_law_element","_law_braces","_law_place","_law_written","_law_kinds"].map Str.ofString)
theorem heap_ (w : World) (os : OsState) : as'.map (Z4 w os).abs.heap.get? = (K w.params).map fun p => some p.2 := by kernel_rfl
noncomputable abbrev Sz (w : World) (os : OsState) : Shared := (Z4 w os).abs
noncomputable def H : Hook := kHook K as' K_as
noncomputable def Xt : Shared -> Bool := fun s => xlAt vw [] s && recOk [] s
theorem lk0 (w : World) (os : OsState) : (staticsOk (importedModules pw.main.body) (boot_heap w.params) (Sz w os).heap && namesBound pw (Sz w os).heap && gensDone (Sz w os) && laidKept (boot_heap w.params) (Sz w os).heap) = true := by kernel_rfl
theorem lk1 (w : World) (os : OsState) : openSeen vw loose (importedModules pw.main.body) Xt true (Sz w os) = openGood vw loose := by
  rw [PySem.W.Fast.te4187177175401517315]
  kernel_rfl
theorem looks_ (w : World) : (fun os => ((staticsOk (importedModules pw.main.body) (boot_heap w.params) (Sz w os).heap && namesBound pw (Sz w os).heap && gensDone (Sz w os) && laidKept (boot_heap w.params) (Sz w os).heap),
    openSeen vw loose (importedModules pw.main.body) Xt true (Sz w os),H.obs (Sz w os))) = fun _ => (true,openGood vw loose,H.val w) := by
  funext os
  exact Prod.ext (lk0 w os) (Prod.ext (lk1 w os) (heap_ w os))
theorem left_ : LeftO pw vw loose Xt H.obs H.val 9000 :=
  LeftO.of_pieces (H₀ := boot_heap) (H₁ := fun P => absHeap (T 4 P) 601 {}) (gs₀ := ⟨[]⟩) (gs₁ := ⟨[]⟩) (d₀ := boot_drawn) (d₁ := {}) (k₀ := boot_toks) (k₁ := 1048) (m₀ := 11) (ann := some (.ref 6)) (M := 12 + (1 + (933 + (1289 + (1283 + (66 + 2))))))
    open_ size_ run_ (by decide) looks_
theorem sd1 : (sreFenced pw.main && ((moduleNames pw.main.body).isEmpty || lookedIntoSs (moduleNames pw.main.body) pw.main.body)) = true := by
  rw [PySem.W.Fast.te12862048085361865435,PySem.W.Fast.te11788848310118352699]
  kernel_rfl
theorem sd2 : namesResolve pw = true := by
  rw [PySem.W.Fast.te8377067652309620493]
  kernel_rfl
theorem sd3 : pw.boundNames.all (fun n => !worldNames.contains n) = true := by
  rw [PySem.W.Fast.te18344453789297297638]
  kernel_rfl
theorem sd4 : noRoadLSs { strict := !(importedModules pw.main.body).all cThrough.contains,foot := none,bare := (["vars","dir","locals"] : List Str).filter (readsOut pw pw.main.body) } pw.main.body = true := by
  rw [PySem.W.Fast.te8326940854005059898,PySem.W.Fast.te13343964577679436407]
  kernel_rfl
theorem sd5 : (namesMeet pw pw.main.body fun _ n => attrL n) = true := by
  rw [PySem.W.Fast.te17119622794617984870]
  kernel_rfl
theorem sd6 : looksOpen pw = true := look_both (look_both (look_both (look_both sd1 sd2) sd3) sd4) sd5
theorem sd7 : PySem.Challenge.rw_pq1063_01.row.partSaid = true := by
  iterate 13 refine look_both ?_ (by kernel_rfl)
  exact sd6
theorem sd8 : PySem.Challenge.rw_pq1063_01.row.wellSaid = true := look_both (look_both sd7 (by kernel_rfl)) (by kernel_rfl)
theorem said_ : PySem.Challenge.rw_pq1063_01.wellSaid = true := by
  iterate 18 refine look_both ?_ (by kernel_rfl)
  exact sd8
noncomputable abbrev rw' : OpenRow := PySem.Challenge.rw_pq1063_01.row
noncomputable def fP : Stmt -> Pos
  | .FunctionDef _ _ _ _ _ _ _ _ _ p => p
  | _ => default
noncomputable abbrev dr : DefRec := ⟨fN (F 74),fA (F 74),fB (F 74),fS (F 74),fP (F 74)⟩
theorem top_ (hc : WalkO vw loose (XL vw []) H.says rw'.toRowW dr [] fun f vs => PySem.call f vs) : PySem.Challenge.rw_pq1063_01.Holds := by
  refine holds_law said_ fun said => ?_
  refine holds_open (q := vw) (loose := loose) (Xt := Xt) (XP := XL vw []) (Yf := H.obs) (Ya := H.val) (YP := H.says) (N := 9000) left_ H.of H.keeps (fun s e => xl_of s (Bool.and_eq_true_iff.mp e).1) XL.keeps ?_ ?_ ?_ (fun s e => recFacts_of (Bool.and_eq_true_iff.mp e).2) ?_ said ?_ ?_ ?_ hc
  · kernel_rfl
  · kernel_rfl
  · kernel_rfl
  · kernel_rfl
  · kernel_rfl
  · exact ⟨rfl,rfl,rfl,rfl,rfl,by decide +kernel⟩
  · exact ⟨[.list []],by decide +kernel,by decide +kernel⟩
end Mine
local macro_rules | `(tactic| omega) => `(tactic| lia)
set_option tactic.hygienic false
namespace Mine
inductive V where
  | undef
  | none
  | bool (b : Bool)
  | int (i : Int)
  | str (s : List Nat)
  | tup (xs : List V)
  | lst (xs : List V)
  | dct (xs : List (List Nat × V))
  | ref (i : Nat)
  | inst (c i : Nat)
inductive O where
  | list (xs : List V)
  | ns (fs : List (List Nat × V))
set_option genInjectivity false in
inductive BOp where
  | add | sub | mul | mod | shl | shr | band | bor
  deriving DecidableEq
set_option genInjectivity false in
inductive COp where
  | eq | ne | lt | le | gt | ge | isin | notin | is | isnot
  deriving DecidableEq
inductive It where
  | vals (xs : List V)
  | ref (i k : Nat)
set_option genInjectivity false in
inductive X where
  | cNone
  | cBool (b : Bool)
  | cInt (i : Int)
  | cStr (s : List Nat)
  | loc (i : Nat)
  | glob (g : Nat)
  | nil
  | cons (h t : X)
  | tup (es : X)
  | lst (es : X)
  | dct (ks : List (List Nat)) (es : X)
  | attr (e : X) (a : List Nat)
  | idx (e i : X)
  | slice (e lo hi : X)
  | bin (op : BOp) (a b : X)
  | neg (e : X)
  | not (e : X)
  | and (a b : X)
  | or (a b : X)
  | cmp (op : COp) (a b : X)
  | cmp2 (op1 op2 : COp) (a b c : X)
  | ite (t a b : X)
  | call (f : Nat) (args : X)
  | meth (o : X) (m : List Nat) (args : X)
  | mk (c : Nat) (args : X)
  | len (e : X)
  | ord (e : X)
  | tupleOf (e : X)
  | append (l e : X)
  | extend (l e : X)
  | split (e s : X)
  | find (e s : X)
  | lower (e : X)
  | comp (n : Nat) (tg : List Nat) (it elt cond : X)
  | compE (n : Nat) (tg : List Nat) (it elt cond : X)
set_option genInjectivity false in
inductive S where
  | skip
  | seq (a b : S)
  | asg (i : Nat) (e : X)
  | asgT (is : List Nat) (e : X)
  | asgNew (i : Nat) (es : X)
  | aug (i : Nat) (op : BOp) (e : X)
  | setA (o : X) (a : List Nat) (e : X)
  | augA (o : X) (a : List Nat) (op : BOp) (e : X)
  | setI (o i e : X)
  | ex (e : X)
  | iff (t : X) (a b : S)
  | whl (t : X) (b : S)
  | forr (tg : List Nat) (it : X) (b : S)
  | forR (tg : List Nat) (lo hi : X) (b : S)
  | ret (e : X)
  | brk
  | tr (b : S)
  | bad
structure FnCode where
  npar : Nat
  nloc : Nat
  dflt : List V
  body : S
set_option genInjectivity false in
inductive Fl where
  | nxt | brk | ret
set_option genInjectivity false in
inductive Cmd where
  | call (f : Nat) (args : List V)
  | loop (t : X) (b : S)
  | iter (tg : List Nat) (it : It) (b : S)
  | comp (en : Option Nat) (tg : List Nat) (it : It) (elt cond : X) (acc : List V)
structure Res where
  v : V
  fl : Fl
  ρ : List V
  σ : List O
noncomputable def maxLen : Nat := 16777216
structure Prog where
  glob : Nat -> Option V
  fn : Nat -> Option FnCode
  meth : Nat -> List Nat -> Option Nat
  init : Nat -> Option Nat
  attr : Nat -> List Nat -> Bool
  run : Cmd -> Nat -> List V -> List O -> Option Res
noncomputable def Prog.on (P : Prog) (f : Cmd -> Nat -> List V -> List O -> Option Res) : Prog := ⟨P.glob,P.fn,P.meth,P.init,P.attr,f⟩
noncomputable def tupK {α : Type} (v : V) (k : List V -> Option α) : Option α := match v with
  | .tup vs => k vs
  | _ => none
noncomputable def lstK {α : Type} (v : V) (k : List V -> Option α) : Option α := match v with
  | .lst vs => k vs
  | _ => none
noncomputable def refK {α : Type} (v : V) (k : Nat -> Option α) : Option α := match v with
  | .ref i => k i
  | _ => none
noncomputable def instK {α : Type} (v : V) (k : Nat -> Nat -> Option α) : Option α := match v with
  | .inst c i => k c i
  | _ => none
noncomputable def intK {α : Type} (v : V) (k : Int -> Option α) : Option α := match v with
  | .int i => k i
  | _ => none
noncomputable def strK {α : Type} (v : V) (k : List Nat -> Option α) : Option α := match v with
  | .str i => k i
  | _ => none
noncomputable def oneK {α : Type} (v : List Nat) (k : Nat -> Option α) : Option α := match v with
  | [c] => k c
  | _ => none
noncomputable def nilK {α : Type} (v : V) (k : Option α) : Option α := match v with
  | .none => k
  | _ => none
noncomputable def nsK {α : Type} (o : Option O) (k : List (List Nat × V) -> Option α) : Option α := match o with
  | some (.ns fs) => k fs
  | _ => none
noncomputable def listK {α : Type} (o : Option O) (k : List V -> Option α) : Option α := match o with
  | some (.list fs) => k fs
  | _ => none
noncomputable def noK {α : Type} (o : Option V) (k : Option α) : Option α := match o with
  | none => k
  | some _ => none
noncomputable def plainK {α : Type} (v : V) (k : Option α) : Option α := match v with
  | .none => k
  | .bool _ => k
  | .int _ => k
  | .str _ => k
  | .tup _ => k
  | _ => none
noncomputable def boolK {α : Type} (v : V) (k : Bool -> Option α) : Option α := match v with
  | .bool i => k i
  | _ => none
noncomputable def deref (σ : List O) : V -> Option V
  | .ref i => match σ[i]? with
    | some (.list xs) => some (.lst xs)
    | _ => none
  | v => some v
noncomputable def isStr : V -> Bool
  | .str _ => true
  | _ => false
mutual
noncomputable def dataOk : Nat -> V -> Bool
  | _,.none => true
  | _,.int _ => true
  | _,.str s => s.all (· < 1114112)
  | 0,.tup _ => false
  | n + 1,.tup xs => dataOks n xs
  | 0,.lst _ => false
  | n + 1,.lst xs => dataOks n xs
  | _,_ => false
noncomputable def dataOks : Nat -> List V -> Bool
  | _,[] => true
  | n,x :: xs => dataOk n x && dataOks n xs
end
noncomputable def seqEq (a b : List V) : Option Bool := if dataOks 8 a = true then (match b with
  | [] => some a.isEmpty
  | y :: r => @ite _ (a = y :: r) (Classical.propDecidable _) (some true) none) else none
noncomputable def veq (x y : V) : Option Bool := match x with
  | .bool a => boolK y fun b => some (a == b)
  | .int a => intK y fun b => some (a == b)
  | .str a => strK y fun b => some (a == b)
  | .tup a => (match y with
    | .str _ => some false
    | .int _ => some false
    | .tup b => seqEq a b
    | _ => none)
  | .lst a => lstK y (seqEq a)
  | _ => none
noncomputable def lookupD (k : List Nat) : List (List Nat × V) -> Option V
  | [] => none
  | (a,v) :: r => if a = k then some v else lookupD k r
noncomputable def putD (k : List Nat) (v : V) : List (List Nat × V) -> List (List Nat × V)
  | [] => [(k,v)]
  | (a,u) :: r => if a = k then (a,v) :: r else (a,u) :: putD k v r
noncomputable def small (i : Int) : Bool := decide (i.natAbs < 4611686018427387904)
noncomputable def int2 {α : Type} (x y : V) (f : Int -> Int -> Option α) : Option α := intK x fun a => intK y (f a)
noncomputable def addV (x y : V) : Option V := match x with
  | .int a => intK y fun b => some (.int (a + b))
  | .str a => strK y fun b => if a.length + b.length <= maxLen then some (.str (a ++ b)) else none
  | .tup a => tupK y fun b => if a.length + b.length <= maxLen then some (.tup (a ++ b)) else none
  | .lst a => lstK y fun b => if a.length + b.length <= maxLen then some (.lst (a ++ b)) else none
  | _ => none
noncomputable def binop (o : BOp) (x y : V) : Option V := match o with
  | .add => addV x y
  | .sub => int2 x y fun a b => some (.int (a - b))
  | .mul => int2 x y fun a b => if small a && small b then some (.int (a * b)) else none
  | .mod => int2 x y fun a b => if b ≠ 0 then some (.int (a.fmod b)) else none
  | .shl => int2 x y fun a b => if 0 <= b /\ b <= 1000 /\ small a then some (.int (a * 2 ^ b.toNat)) else none
  | .shr => int2 x y fun a b => if 0 <= b /\ b <= 1000 then some (.int (a.fdiv (2 ^ b.toNat))) else none
  | .band => int2 x y fun a b => if 0 <= a /\ 0 <= b then some (.int ((a.toNat &&& b.toNat : Nat) : Int)) else none
  | .bor => int2 x y fun a b => if 0 <= a /\ 0 <= b then some (.int ((a.toNat ||| b.toNat : Nat) : Int)) else none
noncomputable def strIs (x : List Nat) : V -> Bool
  | .str y => y == x
  | _ => false
noncomputable def memV (x : List Nat) (l : List V) : Option Bool := if l.all isStr then some (l.any (strIs x)) else none
noncomputable def leS (a b : List Nat) : Option Bool := oneK a fun x => oneK b fun y => some (decide (x <= y))
noncomputable def leV (x y : V) : Option Bool := match x with
  | .int a => intK y fun b => some (decide (a <= b))
  | .str a => strK y (leS a)
  | _ => none
noncomputable def oneIn (a b : List Nat) : Option Bool := oneK a fun x => some (b.contains x)
noncomputable def inV (x y : V) : Option Bool := strK x fun a => match y with
  | .str b => oneIn a b
  | .tup b => memV a b
  | .dct b => some (lookupD a b).isSome
  | _ => none
noncomputable def isN (x : V) : Option Bool := match x with
  | .undef => none
  | .none => some true
  | _ => some false
noncomputable def isV (x y : V) : Option Bool := nilK y (isN x)
noncomputable def cmpop (o : COp) (a b : V) : Option Bool := match o with
  | .eq => veq a b
  | .ne => (veq a b).map (!·)
  | .lt => int2 a b fun a b => some (decide (a < b))
  | .le => leV a b
  | .gt => int2 a b fun a b => some (decide (b < a))
  | .ge => int2 a b fun a b => some (decide (b <= a))
  | .isin => inV a b
  | .notin => (inV a b).map (!·)
  | .is => isV a b
  | .isnot => (isV a b).map (!·)
noncomputable def truth (v : V) : Option Bool := boolK v some
noncomputable def place (n : Nat) (k : Int) : Option Nat :=
  if 0 <= k then (if k < n then some k.toNat else none) else (if 0 <= k + n then some (k + n).toNat else none)
noncomputable def item (v i : V) : Option V := match v with
  | .tup xs => intK i fun k => (place xs.length k).bind (xs[·]?)
  | .lst xs => intK i fun k => (place xs.length k).bind (xs[·]?)
  | .str s => intK i fun k => (place s.length k).bind fun j => s[j]?.map fun c => .str [c]
  | .dct d => strK i fun k => lookupD k d
  | _ => none
noncomputable def clamp (n : Nat) (k : Int) : Nat := if 0 <= k then min k.toNat n else (k + n).toNat
noncomputable def bound (n : Nat) (dflt : Nat) : V -> Option Nat
  | .none => some dflt
  | .int k => if small k then some (clamp n k) else none
  | _ => none
noncomputable def cut {α : Type} (xs : List α) (lo hi : Nat) : List α := (xs.take hi).drop lo
noncomputable def sliced (v lo hi : V) : Option V := match v with
  | .str s => (bound s.length 0 lo).bind fun a => (bound s.length s.length hi).map fun b => .str (cut s a b)
  | .lst s => (bound s.length 0 lo).bind fun a => (bound s.length s.length hi).map fun b => .lst (cut s a b)
  | _ => none
noncomputable def splitAt (c : Nat) : List Nat -> List Nat -> List (List Nat)
  | acc,[] => [acc]
  | acc,x :: r => if x = c then acc :: splitAt c [] r else splitAt c (acc ++ [x]) r
noncomputable def lenV : V -> Option V
  | .str s => some (.int s.length)
  | .tup s => some (.int s.length)
  | .lst s => some (.int s.length)
  | _ => none
noncomputable def itOf (σ : List O) : V -> Option It
  | .str s => some (.vals (s.map fun c => .str [c]))
  | .tup xs => some (.vals xs)
  | .lst xs => some (.vals xs)
  | .ref i => match σ[i]? with
    | some (.list _) => some (.ref i 0)
    | _ => none
  | _ => none
noncomputable def isSeq : V -> Bool
  | .lst _ => true
  | .ref _ => true
  | _ => false
noncomputable def It.next (σ : List O) : It -> Option (Option (V × It))
  | .vals [] => some none
  | .vals (v :: r) => some (some (v,.vals r))
  | .ref i k => match σ[i]? with
    | some (.list xs) => match xs[k]? with
      | some v => some (some (v,.ref i (k + 1)))
      | none => if k = xs.length then some none else none
    | _ => none
noncomputable def isSome' : V -> Bool
  | .undef => false
  | _ => true
noncomputable def lowerC (c : Nat) : Nat := if 65 <= c /\ c <= 90 then c + 32 else c
noncomputable def findC (c : Nat) : List Nat -> Int -> Int
  | [],_ => -1
  | x :: r,k => if x = c then k else findC c r (k + 1)
noncomputable def rangeV (lo hi : Int) : List V := (List.range (hi - lo).toNat).map fun (k : Nat) => V.int (lo + k)
noncomputable def enumV (en : Option Nat) (v : V) : V := match en with
  | none => v
  | some k => .tup [.int k,v]
noncomputable def maxDepth : Nat := 60
end Mine
open Lean.Order
namespace Mine
noncomputable def ev (P : Prog) (c : Cmd) (d : Nat) (ρ : List V) (σ : List O) : Option Res := P.run c d ρ σ
noncomputable def chk (v : V) : Option V := V.rec (motive_1 := fun _ => Option V) (motive_2 := fun _ => Unit) (motive_3 := fun _ => Unit) (motive_4 := fun _ => Unit) none (some .none) (fun b => some (.bool b)) (fun i => some (.int i)) (fun s => some (.str s)) (fun xs _ => some (.tup xs)) (fun xs _ => some (.lst xs)) (fun xs _ => some (.dct xs)) (fun i => some (.ref i)) (fun c i => some (.inst c i)) () (fun _ _ _ _ => ()) () (fun _ _ _ _ => ()) (fun _ _ _ => ()) v
noncomputable def getLoc (ρ : List V) : Nat -> Option V := @List.rec V (fun _ => Nat -> Option V) (fun _ => none) (fun a _ ih n => @Nat.rec (fun _ => Option V) (chk a) (fun n _ => ih n) n) ρ
noncomputable def setLoc (ρ : List V) : Nat -> V -> Option (List V) := @List.rec V (fun _ => Nat -> V -> Option (List V)) (fun _ _ => none) (fun a r ih n v => @Nat.rec (fun _ => Option (List V)) (cond (isSome' v) (some (v :: r)) none) (fun n _ => (ih n v).bind fun r' => some (a :: r')) n) ρ
noncomputable def nth (ρ : List V) : Nat -> Option V := @List.rec V (fun _ => Nat -> Option V) (fun _ => none) (fun a _ ih n => @Nat.rec (fun _ => Option V) (some a) (fun n _ => ih n) n) ρ
noncomputable def leLen (l : List V) : Bool := Nat.ble l.length 16777216
noncomputable def flK (f : Fl) (k : Option Res) (r : Res) : Option Res := match f with
  | .nxt => k
  | _ => some r
noncomputable def flL (f : Fl) (k n r : Option Res) : Option Res := match f with
  | .nxt => k
  | .brk => n
  | .ret => r
noncomputable def addK (op : BOp) (k : Option Res) : Option Res := match op with
  | .add => k
  | _ => none
noncomputable def extK (xs : List V) (y : V) (ρ : List V) (σ : List O) (i : Nat) : Option Res := match y with
  | .lst ys => if xs.length + ys.length < maxLen then some ⟨.none,.nxt,ρ,σ.set i (.list (xs ++ ys))⟩ else none
  | .tup ys => if xs.length + ys.length < maxLen then some ⟨.none,.nxt,ρ,σ.set i (.list (xs ++ ys))⟩ else none
  | _ => none
noncomputable def stGo (ρ : List V) (is : List Nat) : List V -> Option (List V) := @List.rec Nat (fun _ => List V -> List V -> Option (List V)) (fun ρ vs => @List.rec V (fun _ => Option (List V)) (some ρ) (fun _ _ _ => none) vs)
  (fun i _ ih ρ vs => @List.rec V (fun _ => Option (List V)) none (fun v vs _ => (setLoc ρ i v).bind fun ρ' => ih ρ' vs) vs) is ρ
noncomputable def stOne (ρ : List V) (is : List Nat) (v : V) : Option (List V) := @List.rec Nat (fun _ => Option (List V)) (tupK v (stGo ρ [])) (fun i r _ => @List.rec Nat (fun _ => Option (List V)) (setLoc ρ i v) (fun j s _ => tupK v (stGo ρ (i :: j :: s))) r) is
section
variable (P : Prog)
noncomputable def evX (e : X) : Nat -> List V -> List O -> Option Res := X.rec (motive := fun _ => Nat -> List V -> List O -> Option Res)
  (cNone := fun d ρ σ => some ⟨.none,.nxt,ρ,σ⟩)
  (cBool := fun b d ρ σ => some ⟨.bool b,.nxt,ρ,σ⟩)
  (cInt := fun i d ρ σ => some ⟨.int i,.nxt,ρ,σ⟩)
  (cStr := fun s d ρ σ => some ⟨.str s,.nxt,ρ,σ⟩)
  (loc := fun i d ρ σ => (getLoc ρ i).bind fun v => some ⟨v,.nxt,ρ,σ⟩)
  (glob := fun g d ρ σ => (P.glob g).bind fun v => some ⟨v,.nxt,ρ,σ⟩)
  (nil := fun d ρ σ => some ⟨.tup [],.nxt,ρ,σ⟩)
  (cons := fun h t ih it d ρ σ => (ih d ρ σ).bind fun r1 => (it d ρ r1.σ).bind fun r2 => tupK r2.v fun vs => some ⟨.tup (r1.v :: vs),.nxt,ρ,r2.σ⟩)
  (tup := fun es ie d ρ σ => (ie d ρ σ).bind fun r => tupK r.v fun vs => cond (leLen vs) (some ⟨.tup vs,.nxt,ρ,r.σ⟩) none)
  (lst := fun es ie d ρ σ => (ie d ρ σ).bind fun r => tupK r.v fun vs => cond (leLen vs) (some ⟨.lst vs,.nxt,ρ,r.σ⟩) none)
  (dct := fun ks es ie d ρ σ => match ks with
    | [] => some ⟨.dct [],.nxt,ρ,σ⟩
    | k :: ks => (ie d ρ σ).bind fun r => tupK r.v fun vs => if vs.length = (k :: ks).length /\ (k :: ks).Nodup /\ (k :: ks).length <= 15 then some ⟨.dct ((k :: ks).zip vs),.nxt,ρ,r.σ⟩ else none)
  (attr := fun e a ie d ρ σ => (ie d ρ σ).bind fun r => instK r.v fun c i => nsK (r.σ[i]?) fun fs => (lookupD a fs).bind fun v => cond (P.attr c a) (some ⟨v,.nxt,ρ,r.σ⟩) none)
  (idx := fun e i ie ii d ρ σ => (ie d ρ σ).bind fun r1 => (ii d ρ r1.σ).bind fun r2 => (deref r2.σ r1.v).bind fun o => (item o r2.v).bind fun v => some ⟨v,.nxt,ρ,r2.σ⟩)
  (slice := fun e lo hi ie il ih d ρ σ => (ie d ρ σ).bind fun r1 => (il d ρ r1.σ).bind fun r2 => (ih d ρ r2.σ).bind fun r3 => (sliced r1.v r2.v r3.v).bind fun v => some ⟨v,.nxt,ρ,r3.σ⟩)
  (bin := fun op a b ia ib d ρ σ => (ia d ρ σ).bind fun r1 => (ib d ρ r1.σ).bind fun r2 => (deref r2.σ r1.v).bind fun x => (deref r2.σ r2.v).bind fun y => (binop op x y).bind fun v => some ⟨v,.nxt,ρ,r2.σ⟩)
  (neg := fun e ie d ρ σ => (ie d ρ σ).bind fun r => intK r.v fun i => some ⟨.int (-i),.nxt,ρ,r.σ⟩)
  (not := fun e ie d ρ σ => (ie d ρ σ).bind fun r => (truth r.v).bind fun b => some ⟨.bool (!b),.nxt,ρ,r.σ⟩)
  (and := fun a b ia ib d ρ σ => (ia d ρ σ).bind fun r => (truth r.v).bind fun t => cond t (ib d ρ r.σ) (some ⟨r.v,.nxt,ρ,r.σ⟩))
  (or := fun a b ia ib d ρ σ => (ia d ρ σ).bind fun r => (truth r.v).bind fun t => cond t (some ⟨r.v,.nxt,ρ,r.σ⟩) (ib d ρ r.σ))
  (cmp := fun op a b ia ib d ρ σ => (ia d ρ σ).bind fun r1 => (ib d ρ r1.σ).bind fun r2 => (deref r2.σ r1.v).bind fun x => (deref r2.σ r2.v).bind fun y => (cmpop op x y).bind fun v => some ⟨.bool v,.nxt,ρ,r2.σ⟩)
  (cmp2 := fun op1 op2 a b c ia ib ic d ρ σ => (ia d ρ σ).bind fun r1 => (ib d ρ r1.σ).bind fun r2 => (cmpop op1 r1.v r2.v).bind fun v => cond v ((ic d ρ r2.σ).bind fun r3 => (cmpop op2 r2.v r3.v).bind fun u => some ⟨.bool u,.nxt,ρ,r3.σ⟩) (some ⟨.bool false,.nxt,ρ,r2.σ⟩))
  (ite := fun t a b it ia ib d ρ σ => (it d ρ σ).bind fun r => (truth r.v).bind fun c => cond c (ia d ρ r.σ) (ib d ρ r.σ))
  (call := fun f args ia d ρ σ => (ia d ρ σ).bind fun r => tupK r.v fun vs => (ev P (.call f vs) d ρ r.σ).bind fun q => some ⟨q.v,.nxt,ρ,q.σ⟩)
  (meth := fun o m args io ia d ρ σ => (io d ρ σ).bind fun r1 => instK r1.v fun c i => nsK (r1.σ[i]?) fun fs => noK (lookupD m fs) ((ia d ρ r1.σ).bind fun r2 => tupK r2.v fun vs => (P.meth c m).bind fun f => (ev P (.call f (.inst c i :: vs)) d ρ r2.σ).bind fun q => some ⟨q.v,.nxt,ρ,q.σ⟩))
  (mk := fun c args ia d ρ σ => (ia d ρ σ).bind fun r => tupK r.v fun vs => (P.init c).bind fun f => (ev P (.call f (.inst c r.σ.length :: vs)) (d + 1) ρ (r.σ ++ [.ns []])).bind fun q => nilK q.v (some ⟨.inst c r.σ.length,.nxt,ρ,q.σ⟩))
  (len := fun e ie d ρ σ => (ie d ρ σ).bind fun r => (deref r.σ r.v).bind fun x => (lenV x).bind fun v => some ⟨v,.nxt,ρ,r.σ⟩)
  (ord := fun e ie d ρ σ => (ie d ρ σ).bind fun r => strK r.v fun s => oneK s fun c => some ⟨.int c,.nxt,ρ,r.σ⟩)
  (tupleOf := fun e ie d ρ σ => (ie d ρ σ).bind fun r => (deref r.σ r.v).bind fun x => lstK x fun xs => some ⟨.tup xs,.nxt,ρ,r.σ⟩)
  (append := fun l e il ie d ρ σ => (il d ρ σ).bind fun r1 => refK r1.v fun i => listK (r1.σ[i]?) fun _ => (ie d ρ r1.σ).bind fun r2 => listK (r2.σ[i]?) fun xs => cond (isSome' r2.v) (if xs.length < maxLen then some ⟨.none,.nxt,ρ,r2.σ.set i (.list (xs ++ [r2.v]))⟩ else none) none)
  (extend := fun l e il ie d ρ σ => (il d ρ σ).bind fun r1 => refK r1.v fun i => listK (r1.σ[i]?) fun _ => (ie d ρ r1.σ).bind fun r2 => (deref r2.σ r2.v).bind fun y => listK (r2.σ[i]?) fun xs => extK xs y ρ r2.σ i)
  (split := fun e s ie is d ρ σ => (ie d ρ σ).bind fun r1 => (is d ρ r1.σ).bind fun r2 => strK r1.v fun t => strK r2.v fun u => oneK u fun c => if t.length + 2 <= maxLen then some ⟨.lst ((splitAt c [] t).map .str),.nxt,ρ,r2.σ⟩ else none)
  (find := fun e s ie is d ρ σ => (ie d ρ σ).bind fun r1 => (is d ρ r1.σ).bind fun r2 => strK r1.v fun t => strK r2.v fun u => oneK u fun c => some ⟨.int (findC c t 0),.nxt,ρ,r2.σ⟩)
  (lower := fun e ie d ρ σ => (ie d ρ σ).bind fun r => strK r.v fun u => oneK u fun c => if c < 128 then some ⟨.str [lowerC c],.nxt,ρ,r.σ⟩ else none)
  (comp := fun n tg it elt cnd ii _ _ d ρ σ => (ii d ρ σ).bind fun r => (itOf r.σ r.v).bind fun i => (ev P (.comp none tg i elt cnd []) d (List.replicate n .undef) r.σ).bind fun q => some ⟨q.v,.nxt,ρ,q.σ⟩)
  (compE := fun n tg it elt cnd ii _ _ d ρ σ => (ii d ρ σ).bind fun r => cond (isSeq r.v) ((itOf r.σ r.v).bind fun i => (ev P (.comp (some 0) tg i elt cnd []) d (List.replicate n .undef) r.σ).bind fun q => some ⟨q.v,.nxt,ρ,q.σ⟩) none)
  e
noncomputable def evS (c : S) : Nat -> List V -> List O -> Option Res := S.rec (motive := fun _ => Nat -> List V -> List O -> Option Res)
  (skip := fun d ρ σ => some ⟨.none,.nxt,ρ,σ⟩)
  (seq := fun a b ia ib d ρ σ => (ia d ρ σ).bind fun r => flK r.fl (ib d r.ρ r.σ) r)
  (asg := fun i e d ρ σ => (evX P e d ρ σ).bind fun r => (setLoc ρ i r.v).bind fun ρ' => some ⟨.none,.nxt,ρ',r.σ⟩)
  (asgT := fun is e d ρ σ => (evX P e d ρ σ).bind fun r => (tupK r.v (stGo ρ is)).bind fun ρ' => some ⟨.none,.nxt,ρ',r.σ⟩)
  (asgNew := fun i es d ρ σ => (evX P es d ρ σ).bind fun r => tupK r.v fun vs => cond (leLen vs) ((setLoc ρ i (.ref r.σ.length)).bind fun ρ' => some ⟨.none,.nxt,ρ',r.σ ++ [.list vs]⟩) none)
  (aug := fun i op e d ρ σ => (nth ρ i).bind fun old => (evX P e d ρ σ).bind fun r => addK op (intK old fun a => intK r.v fun b => (setLoc ρ i (.int (a + b))).bind fun ρ' => some ⟨.none,.nxt,ρ',r.σ⟩))
  (setA := fun o a e d ρ σ => (evX P e d ρ σ).bind fun r2 => (evX P o d ρ r2.σ).bind fun r1 => instK r1.v fun c i => nsK (r1.σ[i]?) fun fs => if fs.length < 500 /\ isSome' r2.v /\ P.attr c a then some ⟨.none,.nxt,ρ,r1.σ.set i (.ns (putD a r2.v fs))⟩ else none)
  (augA := fun o a op e d ρ σ => (evX P o d ρ σ).bind fun r1 => instK r1.v fun c i => nsK (r1.σ[i]?) fun fs => (lookupD a fs).bind fun old => intK old fun x => (evX P e d ρ r1.σ).bind fun r2 => addK op (intK r2.v fun y => nsK (r2.σ[i]?) fun fs' => if fs'.length < 500 /\ P.attr c a then some ⟨.none,.nxt,ρ,r2.σ.set i (.ns (putD a (.int (x + y)) fs'))⟩ else none))
  (setI := fun o i e d ρ σ => (evX P e d ρ σ).bind fun r3 => (evX P o d ρ r3.σ).bind fun r1 => (evX P i d ρ r1.σ).bind fun r2 => refK r1.v fun j => intK r2.v fun k => listK (r2.σ[j]?) fun xs => if 0 <= k /\ k.toNat < xs.length /\ isSome' r3.v then some ⟨.none,.nxt,ρ,r2.σ.set j (.list (xs.set k.toNat r3.v))⟩ else none)
  (ex := fun e d ρ σ => (evX P e d ρ σ).bind fun r => plainK r.v (some ⟨.none,.nxt,ρ,r.σ⟩))
  (iff := fun t a b ia ib d ρ σ => (evX P t d ρ σ).bind fun r => (truth r.v).bind fun c => cond c (ia d ρ r.σ) (ib d ρ r.σ))
  (whl := fun t b _ d ρ σ => ev P (.loop t b) d ρ σ)
  (forr := fun tg it b _ d ρ σ => (evX P it d ρ σ).bind fun r => (itOf r.σ r.v).bind fun i => ev P (.iter tg i b) d ρ r.σ)
  (forR := fun tg lo hi b _ d ρ σ => (evX P lo d ρ σ).bind fun r1 => (evX P hi d ρ r1.σ).bind fun r2 => intK r1.v fun a => intK r2.v fun b' => if small a && small b' then ev P (.iter tg (.vals (rangeV a b')) b) d ρ r2.σ else none)
  (ret := fun e d ρ σ => (evX P e d ρ σ).bind fun r => some ⟨r.v,.ret,ρ,r.σ⟩)
  (brk := fun d ρ σ => some ⟨.none,.brk,ρ,σ⟩)
  (tr := fun b ib d ρ σ => ib d ρ σ)
  (bad := fun d ρ σ => none)
  c
end
noncomputable def K1 (ρ : List V) (σ : List O) (v : V) : Option Res := some ⟨v,.nxt,ρ,σ⟩
noncomputable def K2 (ρ : List V) (σ : List O) (v : V) : Option Res := some ⟨v,.nxt,ρ,σ⟩
noncomputable def K5 (ρ : List V) (r1v : V) (r2s : List O) (vs : List V) : Option Res := some ⟨.tup (r1v :: vs),.nxt,ρ,r2s⟩
noncomputable def K4 (ρ : List V) (r1v : V) (r2 : Res) : Option Res := tupK r2.v (K5 ρ r1v r2.σ)
noncomputable def K3 (P : Prog) (t : X) (d : Nat) (ρ : List V) (r1 : Res) : Option Res := (evX P t d ρ r1.σ).bind (K4 ρ r1.v)
noncomputable def K7 (ρ : List V) (rs : List O) (vs : List V) : Option Res := cond (leLen vs) (some ⟨.tup vs,.nxt,ρ,rs⟩) none
noncomputable def K6 (ρ : List V) (r : Res) : Option Res := tupK r.v (K7 ρ r.σ)
noncomputable def K9 (ρ : List V) (rs : List O) (vs : List V) : Option Res := cond (leLen vs) (some ⟨.lst vs,.nxt,ρ,rs⟩) none
noncomputable def K8 (ρ : List V) (r : Res) : Option Res := tupK r.v (K9 ρ r.σ)
noncomputable def K13 (P : Prog) (a : List Nat) (ρ : List V) (rs : List O) (c : Nat) (v : V) : Option Res := cond (P.attr c a) (some ⟨v,.nxt,ρ,rs⟩) none
noncomputable def K12 (P : Prog) (a : List Nat) (ρ : List V) (rs : List O) (c : Nat) (fs : List (List Nat × V)) : Option Res := (lookupD a fs).bind (K13 P a ρ rs c)
noncomputable def K11 (P : Prog) (a : List Nat) (ρ : List V) (rs : List O) (c i : Nat) : Option Res := nsK (rs[i]?) (K12 P a ρ rs c)
noncomputable def K10 (P : Prog) (a : List Nat) (ρ : List V) (r : Res) : Option Res := instK r.v (K11 P a ρ r.σ)
noncomputable def K17 (ρ : List V) (r2s : List O) (v : V) : Option Res := some ⟨v,.nxt,ρ,r2s⟩
noncomputable def K16 (ρ : List V) (r2v : V) (r2s : List O) (o : V) : Option Res := (item o r2v).bind (K17 ρ r2s)
noncomputable def K15 (ρ : List V) (r1v : V) (r2 : Res) : Option Res := (deref r2.σ r1v).bind (K16 ρ r2.v r2.σ)
noncomputable def K14 (P : Prog) (i : X) (d : Nat) (ρ : List V) (r1 : Res) : Option Res := (evX P i d ρ r1.σ).bind (K15 ρ r1.v)
noncomputable def K21 (ρ : List V) (r3s : List O) (v : V) : Option Res := some ⟨v,.nxt,ρ,r3s⟩
noncomputable def K20 (ρ : List V) (r1v r2v : V) (r3 : Res) : Option Res := (sliced r1v r2v r3.v).bind (K21 ρ r3.σ)
noncomputable def K19 (P : Prog) (hi : X) (d : Nat) (ρ : List V) (r1v : V) (r2 : Res) : Option Res := (evX P hi d ρ r2.σ).bind (K20 ρ r1v r2.v)
noncomputable def K18 (P : Prog) (lo hi : X) (d : Nat) (ρ : List V) (r1 : Res) : Option Res := (evX P lo d ρ r1.σ).bind (K19 P hi d ρ r1.v)
noncomputable def K26 (ρ : List V) (r2s : List O) (v : V) : Option Res := some ⟨v,.nxt,ρ,r2s⟩
noncomputable def K25 (op : BOp) (ρ : List V) (r2s : List O) (x y : V) : Option Res := (binop op x y).bind (K26 ρ r2s)
noncomputable def K24 (op : BOp) (ρ : List V) (r2v : V) (r2s : List O) (x : V) : Option Res := (deref r2s r2v).bind (K25 op ρ r2s x)
noncomputable def K23 (op : BOp) (ρ : List V) (r1v : V) (r2 : Res) : Option Res := (deref r2.σ r1v).bind (K24 op ρ r2.v r2.σ)
noncomputable def K22 (P : Prog) (op : BOp) (b : X) (d : Nat) (ρ : List V) (r1 : Res) : Option Res := (evX P b d ρ r1.σ).bind (K23 op ρ r1.v)
noncomputable def K28 (ρ : List V) (rs : List O) (i : Int) : Option Res := some ⟨.int (-i),.nxt,ρ,rs⟩
noncomputable def K27 (ρ : List V) (r : Res) : Option Res := intK r.v (K28 ρ r.σ)
noncomputable def K30 (ρ : List V) (rs : List O) (b : Bool) : Option Res := some ⟨.bool (!b),.nxt,ρ,rs⟩
noncomputable def K29 (ρ : List V) (r : Res) : Option Res := (truth r.v).bind (K30 ρ r.σ)
noncomputable def K32 (P : Prog) (b : X) (d : Nat) (ρ : List V) (rv : V) (rs : List O) (t : Bool) : Option Res := cond t (evX P b d ρ rs) (some ⟨rv,.nxt,ρ,rs⟩)
noncomputable def K31 (P : Prog) (b : X) (d : Nat) (ρ : List V) (r : Res) : Option Res := (truth r.v).bind (K32 P b d ρ r.v r.σ)
noncomputable def K34 (P : Prog) (b : X) (d : Nat) (ρ : List V) (rv : V) (rs : List O) (t : Bool) : Option Res := cond t (some ⟨rv,.nxt,ρ,rs⟩) (evX P b d ρ rs)
noncomputable def K33 (P : Prog) (b : X) (d : Nat) (ρ : List V) (r : Res) : Option Res := (truth r.v).bind (K34 P b d ρ r.v r.σ)
noncomputable def K39 (ρ : List V) (r2s : List O) (v : Bool) : Option Res := some ⟨.bool v,.nxt,ρ,r2s⟩
noncomputable def K38 (op : COp) (ρ : List V) (r2s : List O) (x y : V) : Option Res := (cmpop op x y).bind (K39 ρ r2s)
noncomputable def K37 (op : COp) (ρ : List V) (r2v : V) (r2s : List O) (x : V) : Option Res := (deref r2s r2v).bind (K38 op ρ r2s x)
noncomputable def K36 (op : COp) (ρ : List V) (r1v : V) (r2 : Res) : Option Res := (deref r2.σ r1v).bind (K37 op ρ r2.v r2.σ)
noncomputable def K35 (P : Prog) (op : COp) (b : X) (d : Nat) (ρ : List V) (r1 : Res) : Option Res := (evX P b d ρ r1.σ).bind (K36 op ρ r1.v)
noncomputable def K41 (P : Prog) (a b : X) (d : Nat) (ρ : List V) (rs : List O) (c : Bool) : Option Res := cond c (evX P a d ρ rs) (evX P b d ρ rs)
noncomputable def K40 (P : Prog) (a b : X) (d : Nat) (ρ : List V) (r : Res) : Option Res := (truth r.v).bind (K41 P a b d ρ r.σ)
noncomputable def K44 (ρ : List V) (q : Res) : Option Res := some ⟨q.v,.nxt,ρ,q.σ⟩
noncomputable def K43 (P : Prog) (f d : Nat) (ρ : List V) (rs : List O) (vs : List V) : Option Res := (ev P (.call f vs) d ρ rs).bind (K44 ρ)
noncomputable def K42 (P : Prog) (f d : Nat) (ρ : List V) (r : Res) : Option Res := tupK r.v (K43 P f d ρ r.σ)
noncomputable def K51 (ρ : List V) (q : Res) : Option Res := some ⟨q.v,.nxt,ρ,q.σ⟩
noncomputable def K50 (P : Prog) (d : Nat) (ρ : List V) (c i : Nat) (r2s : List O) (vs : List V) (f : Nat) : Option Res := (ev P (.call f (.inst c i :: vs)) d ρ r2s).bind (K51 ρ)
noncomputable def K49 (P : Prog) (m : List Nat) (d : Nat) (ρ : List V) (c i : Nat) (r2s : List O) (vs : List V) : Option Res := (P.meth c m).bind (K50 P d ρ c i r2s vs)
noncomputable def K48 (P : Prog) (m : List Nat) (d : Nat) (ρ : List V) (c i : Nat) (r2 : Res) : Option Res := tupK r2.v (K49 P m d ρ c i r2.σ)
noncomputable def K47 (P : Prog) (m : List Nat) (args : X) (d : Nat) (ρ : List V) (r1s : List O) (c i : Nat) (fs : List (List Nat × V)) : Option Res := noK (lookupD m fs) ((evX P args d ρ r1s).bind (K48 P m d ρ c i))
noncomputable def K46 (P : Prog) (m : List Nat) (args : X) (d : Nat) (ρ : List V) (r1s : List O) (c i : Nat) : Option Res := nsK (r1s[i]?) (K47 P m args d ρ r1s c i)
noncomputable def K45 (P : Prog) (m : List Nat) (args : X) (d : Nat) (ρ : List V) (r1 : Res) : Option Res := instK r1.v (K46 P m args d ρ r1.σ)
noncomputable def K55 (c : Nat) (ρ : List V) (rs : List O) (q : Res) : Option Res := nilK q.v (some ⟨.inst c rs.length,.nxt,ρ,q.σ⟩)
noncomputable def K54 (P : Prog) (c d : Nat) (ρ : List V) (rs : List O) (vs : List V) (f : Nat) : Option Res := (ev P (.call f (.inst c rs.length :: vs)) (d + 1) ρ (rs ++ [.ns []])).bind (K55 c ρ rs)
noncomputable def K53 (P : Prog) (c d : Nat) (ρ : List V) (rs : List O) (vs : List V) : Option Res := (P.init c).bind (K54 P c d ρ rs vs)
noncomputable def K52 (P : Prog) (c d : Nat) (ρ : List V) (r : Res) : Option Res := tupK r.v (K53 P c d ρ r.σ)
noncomputable def K58 (ρ : List V) (rs : List O) (v : V) : Option Res := some ⟨v,.nxt,ρ,rs⟩
noncomputable def K57 (ρ : List V) (rs : List O) (x : V) : Option Res := (lenV x).bind (K58 ρ rs)
noncomputable def K56 (ρ : List V) (r : Res) : Option Res := (deref r.σ r.v).bind (K57 ρ r.σ)
noncomputable def K61 (ρ : List V) (rs : List O) (xs : List V) : Option Res := some ⟨.tup xs,.nxt,ρ,rs⟩
noncomputable def K60 (ρ : List V) (rs : List O) (x : V) : Option Res := lstK x (K61 ρ rs)
noncomputable def K59 (ρ : List V) (r : Res) : Option Res := (deref r.σ r.v).bind (K60 ρ r.σ)
noncomputable def K66 (ρ : List V) (i : Nat) (r2v : V) (r2s : List O) (xs : List V) : Option Res := cond (isSome' r2v) (if xs.length < maxLen then some ⟨.none,.nxt,ρ,r2s.set i (.list (xs ++ [r2v]))⟩ else none) none
noncomputable def K65 (ρ : List V) (i : Nat) (r2 : Res) : Option Res := listK (r2.σ[i]?) (K66 ρ i r2.v r2.σ)
noncomputable def K64 (P : Prog) (e : X) (d : Nat) (ρ : List V) (r1s : List O) (i : Nat) (z_ : List V) : Option Res := (evX P e d ρ r1s).bind (K65 ρ i)
noncomputable def K63 (P : Prog) (e : X) (d : Nat) (ρ : List V) (r1s : List O) (i : Nat) : Option Res := listK (r1s[i]?) (K64 P e d ρ r1s i)
noncomputable def K62 (P : Prog) (e : X) (d : Nat) (ρ : List V) (r1 : Res) : Option Res := refK r1.v (K63 P e d ρ r1.σ)
noncomputable def K72 (ρ : List V) (i : Nat) (r2s : List O) (y : V) (xs : List V) : Option Res := extK xs y ρ r2s i
noncomputable def K71 (ρ : List V) (i : Nat) (r2s : List O) (y : V) : Option Res := listK (r2s[i]?) (K72 ρ i r2s y)
noncomputable def K70 (ρ : List V) (i : Nat) (r2 : Res) : Option Res := (deref r2.σ r2.v).bind (K71 ρ i r2.σ)
noncomputable def K69 (P : Prog) (e : X) (d : Nat) (ρ : List V) (r1s : List O) (i : Nat) (z_ : List V) : Option Res := (evX P e d ρ r1s).bind (K70 ρ i)
noncomputable def K68 (P : Prog) (e : X) (d : Nat) (ρ : List V) (r1s : List O) (i : Nat) : Option Res := listK (r1s[i]?) (K69 P e d ρ r1s i)
noncomputable def K67 (P : Prog) (e : X) (d : Nat) (ρ : List V) (r1 : Res) : Option Res := refK r1.v (K68 P e d ρ r1.σ)
noncomputable def K77 (ρ : List V) (r2s : List O) (t : List Nat) (c : Nat) : Option Res := if t.length + 2 <= maxLen then some ⟨.lst ((splitAt c [] t).map .str),.nxt,ρ,r2s⟩ else none
noncomputable def K76 (ρ : List V) (r2s : List O) (t u : List Nat) : Option Res := oneK u (K77 ρ r2s t)
noncomputable def K75 (ρ : List V) (r2v : V) (r2s : List O) (t : List Nat) : Option Res := strK r2v (K76 ρ r2s t)
noncomputable def K74 (ρ : List V) (r1v : V) (r2 : Res) : Option Res := strK r1v (K75 ρ r2.v r2.σ)
noncomputable def K73 (P : Prog) (s : X) (d : Nat) (ρ : List V) (r1 : Res) : Option Res := (evX P s d ρ r1.σ).bind (K74 ρ r1.v)
noncomputable def K80 (ρ : List V) (q : Res) : Option Res := some ⟨q.v,.nxt,ρ,q.σ⟩
noncomputable def K79 (P : Prog) (n : Nat) (tg : List Nat) (elt cnd : X) (d : Nat) (ρ : List V) (rs : List O) (i : It) : Option Res := (ev P (.comp none tg i elt cnd []) d (List.replicate n .undef) rs).bind (K80 ρ)
noncomputable def K78 (P : Prog) (n : Nat) (tg : List Nat) (elt cnd : X) (d : Nat) (ρ : List V) (r : Res) : Option Res := (itOf r.σ r.v).bind (K79 P n tg elt cnd d ρ r.σ)
noncomputable def K83 (ρ : List V) (q : Res) : Option Res := some ⟨q.v,.nxt,ρ,q.σ⟩
noncomputable def K82 (P : Prog) (n : Nat) (tg : List Nat) (elt cnd : X) (d : Nat) (ρ : List V) (rs : List O) (i : It) : Option Res := (ev P (.comp (some 0) tg i elt cnd []) d (List.replicate n .undef) rs).bind (K83 ρ)
noncomputable def K81 (P : Prog) (n : Nat) (tg : List Nat) (elt cnd : X) (d : Nat) (ρ : List V) (r : Res) : Option Res := cond (isSeq r.v) ((itOf r.σ r.v).bind (K82 P n tg elt cnd d ρ r.σ)) none
noncomputable def seqK (P : Prog) (b : S) (d : Nat) (r : Res) : Option Res := flK r.fl (evS P b d r.ρ r.σ) r
noncomputable def K85 (rs : List O) (ρ' : List V) : Option Res := some ⟨.none,.nxt,ρ',rs⟩
noncomputable def K84 (i : Nat) (ρ : List V) (r : Res) : Option Res := (setLoc ρ i r.v).bind (K85 r.σ)
noncomputable def K87 (rs : List O) (ρ' : List V) : Option Res := some ⟨.none,.nxt,ρ',rs⟩
noncomputable def K86 (is : List Nat) (ρ : List V) (r : Res) : Option Res := (tupK r.v (stGo ρ is)).bind (K87 r.σ)
noncomputable def K90 (rs : List O) (vs ρ' : List V) : Option Res := some ⟨.none,.nxt,ρ',rs ++ [.list vs]⟩
noncomputable def K89 (i : Nat) (ρ : List V) (rs : List O) (vs : List V) : Option Res := cond (leLen vs) ((setLoc ρ i (.ref rs.length)).bind (K90 rs vs)) none
noncomputable def K88 (i : Nat) (ρ : List V) (r : Res) : Option Res := tupK r.v (K89 i ρ r.σ)
noncomputable def K95 (rs : List O) (ρ' : List V) : Option Res := some ⟨.none,.nxt,ρ',rs⟩
noncomputable def K94 (i : Nat) (ρ : List V) (rs : List O) (a b : Int) : Option Res := (setLoc ρ i (.int (a + b))).bind (K95 rs)
noncomputable def K93 (i : Nat) (ρ : List V) (rv : V) (rs : List O) (a : Int) : Option Res := intK rv (K94 i ρ rs a)
noncomputable def K92 (i : Nat) (op : BOp) (ρ : List V) (old : V) (r : Res) : Option Res := addK op (intK old (K93 i ρ r.v r.σ))
noncomputable def K91 (P : Prog) (i : Nat) (op : BOp) (e : X) (d : Nat) (ρ : List V) (σ : List O) (old : V) : Option Res := (evX P e d ρ σ).bind (K92 i op ρ old)
noncomputable def K99 (P : Prog) (a : List Nat) (ρ : List V) (r2v : V) (r1s : List O) (c i : Nat) (fs : List (List Nat × V)) : Option Res := if fs.length < 500 /\ isSome' r2v /\ P.attr c a then some ⟨.none,.nxt,ρ,r1s.set i (.ns (putD a r2v fs))⟩ else none
noncomputable def K98 (P : Prog) (a : List Nat) (ρ : List V) (r2v : V) (r1s : List O) (c i : Nat) : Option Res := nsK (r1s[i]?) (K99 P a ρ r2v r1s c i)
noncomputable def K97 (P : Prog) (a : List Nat) (ρ : List V) (r2v : V) (r1 : Res) : Option Res := instK r1.v (K98 P a ρ r2v r1.σ)
noncomputable def K96 (P : Prog) (o : X) (a : List Nat) (d : Nat) (ρ : List V) (r2 : Res) : Option Res := (evX P o d ρ r2.σ).bind (K97 P a ρ r2.v)
noncomputable def K107 (P : Prog) (a : List Nat) (ρ : List V) (c i : Nat) (x : Int) (r2s : List O) (y : Int) (fs' : List (List Nat × V)) : Option Res := if fs'.length < 500 /\ P.attr c a then some ⟨.none,.nxt,ρ,r2s.set i (.ns (putD a (.int (x + y)) fs'))⟩ else none
noncomputable def K106 (P : Prog) (a : List Nat) (ρ : List V) (c i : Nat) (x : Int) (r2s : List O) (y : Int) : Option Res := nsK (r2s[i]?) (K107 P a ρ c i x r2s y)
noncomputable def K105 (P : Prog) (a : List Nat) (op : BOp) (ρ : List V) (c i : Nat) (x : Int) (r2 : Res) : Option Res := addK op (intK r2.v (K106 P a ρ c i x r2.σ))
noncomputable def K104 (P : Prog) (a : List Nat) (op : BOp) (e : X) (d : Nat) (ρ : List V) (r1s : List O) (c i : Nat) (x : Int) : Option Res := (evX P e d ρ r1s).bind (K105 P a op ρ c i x)
noncomputable def K103 (P : Prog) (a : List Nat) (op : BOp) (e : X) (d : Nat) (ρ : List V) (r1s : List O) (c i : Nat) (old : V) : Option Res := intK old (K104 P a op e d ρ r1s c i)
noncomputable def K102 (P : Prog) (a : List Nat) (op : BOp) (e : X) (d : Nat) (ρ : List V) (r1s : List O) (c i : Nat) (fs : List (List Nat × V)) : Option Res := (lookupD a fs).bind (K103 P a op e d ρ r1s c i)
noncomputable def K101 (P : Prog) (a : List Nat) (op : BOp) (e : X) (d : Nat) (ρ : List V) (r1s : List O) (c i : Nat) : Option Res := nsK (r1s[i]?) (K102 P a op e d ρ r1s c i)
noncomputable def K100 (P : Prog) (a : List Nat) (op : BOp) (e : X) (d : Nat) (ρ : List V) (r1 : Res) : Option Res := instK r1.v (K101 P a op e d ρ r1.σ)
noncomputable def K113 (ρ : List V) (r3v : V) (r2s : List O) (j : Nat) (k : Int) (xs : List V) : Option Res := if 0 <= k /\ k.toNat < xs.length /\ isSome' r3v then some ⟨.none,.nxt,ρ,r2s.set j (.list (xs.set k.toNat r3v))⟩ else none
noncomputable def K112 (ρ : List V) (r3v : V) (r2s : List O) (j : Nat) (k : Int) : Option Res := listK (r2s[j]?) (K113 ρ r3v r2s j k)
noncomputable def K111 (ρ : List V) (r3v r2v : V) (r2s : List O) (j : Nat) : Option Res := intK r2v (K112 ρ r3v r2s j)
noncomputable def K110 (ρ : List V) (r3v r1v : V) (r2 : Res) : Option Res := refK r1v (K111 ρ r3v r2.v r2.σ)
noncomputable def K109 (P : Prog) (i : X) (d : Nat) (ρ : List V) (r3v : V) (r1 : Res) : Option Res := (evX P i d ρ r1.σ).bind (K110 ρ r3v r1.v)
noncomputable def K108 (P : Prog) (o i : X) (d : Nat) (ρ : List V) (r3 : Res) : Option Res := (evX P o d ρ r3.σ).bind (K109 P i d ρ r3.v)
noncomputable def K114 (ρ : List V) (r : Res) : Option Res := plainK r.v (some ⟨.none,.nxt,ρ,r.σ⟩)
noncomputable def K116 (P : Prog) (a b : S) (d : Nat) (ρ : List V) (rs : List O) (c : Bool) : Option Res := cond c (evS P a d ρ rs) (evS P b d ρ rs)
noncomputable def K115 (P : Prog) (a b : S) (d : Nat) (ρ : List V) (r : Res) : Option Res := (truth r.v).bind (K116 P a b d ρ r.σ)
noncomputable def K118 (P : Prog) (tg : List Nat) (b : S) (d : Nat) (ρ : List V) (rs : List O) (i : It) : Option Res := ev P (.iter tg i b) d ρ rs
noncomputable def K117 (P : Prog) (tg : List Nat) (b : S) (d : Nat) (ρ : List V) (r : Res) : Option Res := (itOf r.σ r.v).bind (K118 P tg b d ρ r.σ)
noncomputable def K122 (P : Prog) (tg : List Nat) (b : S) (d : Nat) (ρ : List V) (r2s : List O) (a b' : Int) : Option Res := if small a && small b' then ev P (.iter tg (.vals (rangeV a b')) b) d ρ r2s else none
noncomputable def K121 (P : Prog) (tg : List Nat) (b : S) (d : Nat) (ρ : List V) (r2v : V) (r2s : List O) (a : Int) : Option Res := intK r2v (K122 P tg b d ρ r2s a)
noncomputable def K120 (P : Prog) (tg : List Nat) (b : S) (d : Nat) (ρ : List V) (r1v : V) (r2 : Res) : Option Res := intK r1v (K121 P tg b d ρ r2.v r2.σ)
noncomputable def K119 (P : Prog) (tg : List Nat) (hi : X) (b : S) (d : Nat) (ρ : List V) (r1 : Res) : Option Res := (evX P hi d ρ r1.σ).bind (K120 P tg b d ρ r1.v)
noncomputable def K123 (ρ : List V) (r : Res) : Option Res := some ⟨r.v,.ret,ρ,r.σ⟩
noncomputable def callEnd (ρ : List V) (r : Res) : Option Res := flL r.fl (some ⟨.none,.nxt,ρ,r.σ⟩) none (some ⟨r.v,.nxt,ρ,r.σ⟩)
noncomputable def argsOk (c : FnCode) (args : List V) : Bool := Nat.ble args.length c.npar && Nat.ble c.npar (args.length + c.dflt.length) && args.all isSome'
noncomputable def frameOf (c : FnCode) (args : List V) : List V := (args ++ c.dflt.drop (c.dflt.length - (c.npar - args.length))) ++ List.replicate (c.nloc - c.npar) .undef
noncomputable def lpK (P : Prog) (t : X) (b : S) (d : Nat) (q : Res) : Option Res := flL q.fl (ev P (.loop t b) d q.ρ q.σ) (some ⟨.none,.nxt,q.ρ,q.σ⟩) (some q)
noncomputable def lpB (P : Prog) (t : X) (b : S) (d : Nat) (ρ : List V) (σ : List O) (c : Bool) : Option Res := cond c ((evS P b d ρ σ).bind (lpK P t b d)) (some ⟨.none,.nxt,ρ,σ⟩)
noncomputable def lpT (P : Prog) (t : X) (b : S) (d : Nat) (ρ : List V) (r : Res) : Option Res := (truth r.v).bind (lpB P t b d ρ r.σ)
noncomputable def ntK (P : Prog) (d : Nat) (tg : List Nat) (b : S) (it' : It) (q : Res) : Option Res := flL q.fl (ev P (.iter tg it' b) d q.ρ q.σ) (some ⟨.none,.nxt,q.ρ,q.σ⟩) (some q)
noncomputable def ntB (P : Prog) (d : Nat) (σ : List O) (tg : List Nat) (b : S) (it' : It) (ρ : List V) : Option Res := (evS P b d ρ σ).bind (ntK P d tg b it')
noncomputable def nextK (P : Prog) (d : Nat) (ρ : List V) (σ : List O) (tg : List Nat) (b : S) (n : Option (V × It)) : Option Res := match n with
  | none => some ⟨.none,.nxt,ρ,σ⟩
  | some (v,it') => (stOne ρ tg v).bind (ntB P d σ tg b it')
noncomputable def ncE (P : Prog) (d : Nat) (en : Option Nat) (tg : List Nat) (elt cnd : X) (acc : List V) (it' : It) (ρ : List V) (q : Res) : Option Res := cond (isSome' q.v) (if acc.length < maxLen then ev P (.comp (en.map (· + 1)) tg it' elt cnd (acc ++ [q.v])) d ρ q.σ else none) none
noncomputable def ncD (P : Prog) (d : Nat) (en : Option Nat) (tg : List Nat) (elt cnd : X) (acc : List V) (it' : It) (ρ : List V) (σ : List O) (c : Bool) : Option Res := cond c ((evX P elt d ρ σ).bind (ncE P d en tg elt cnd acc it' ρ)) (ev P (.comp (en.map (· + 1)) tg it' elt cnd acc) d ρ σ)
noncomputable def ncC (P : Prog) (d : Nat) (en : Option Nat) (tg : List Nat) (elt cnd : X) (acc : List V) (it' : It) (ρ : List V) (r : Res) : Option Res := (truth r.v).bind (ncD P d en tg elt cnd acc it' ρ r.σ)
noncomputable def ncB (P : Prog) (d : Nat) (en : Option Nat) (tg : List Nat) (elt cnd : X) (acc : List V) (it' : It) (σ : List O) (ρ : List V) : Option Res := (evX P cnd d ρ σ).bind (ncC P d en tg elt cnd acc it' ρ)
noncomputable def nextC (P : Prog) (d : Nat) (ρ : List V) (σ : List O) (en : Option Nat) (tg : List Nat) (elt cnd : X) (acc : List V) (n : Option (V × It)) : Option Res := match n with
  | none => some ⟨.lst acc,.nxt,ρ,σ⟩
  | some (v,it') => (stOne ρ tg (enumV en v)).bind (ncB P d en tg elt cnd acc it' σ)
noncomputable def K_dct (k : List Nat) (ks : List (List Nat)) (ρ : List V) (rs : List O) (vs : List V) : Option Res := if vs.length = (k :: ks).length /\ (k :: ks).Nodup /\ (k :: ks).length <= 15 then some ⟨.dct ((k :: ks).zip vs),.nxt,ρ,rs⟩ else none
noncomputable def K0 (k : List Nat) (ks : List (List Nat)) (ρ : List V) (r : Res) : Option Res := tupK r.v (K_dct k ks ρ r.σ)
noncomputable def Ka_ord (ρ : List V) (rs : List O) (c : Nat) : Option Res := some ⟨.int c,.nxt,ρ,rs⟩
noncomputable def Kb_ord (ρ : List V) (rs : List O) (s : List Nat) : Option Res := oneK s (Ka_ord ρ rs)
noncomputable def Kc_ord (ρ : List V) (r : Res) : Option Res := strK r.v (Kb_ord ρ r.σ)
noncomputable def Ka_lower (ρ : List V) (rs : List O) (c : Nat) : Option Res := if c < 128 then some ⟨.str [lowerC c],.nxt,ρ,rs⟩ else none
noncomputable def Kb_lower (ρ : List V) (rs : List O) (s : List Nat) : Option Res := oneK s (Ka_lower ρ rs)
noncomputable def Kc_lower (ρ : List V) (r : Res) : Option Res := strK r.v (Kb_lower ρ r.σ)
noncomputable def Ka_find (ρ : List V) (rs : List O) (t : List Nat) (c : Nat) : Option Res := some ⟨.int (findC c t 0),.nxt,ρ,rs⟩
noncomputable def Kb_find (ρ : List V) (rs : List O) (t u : List Nat) : Option Res := oneK u (Ka_find ρ rs t)
noncomputable def Kc_find (ρ : List V) (r2v : V) (r2s : List O) (t : List Nat) : Option Res := strK r2v (Kb_find ρ r2s t)
noncomputable def Kd_find (ρ : List V) (r1v : V) (r2 : Res) : Option Res := strK r1v (Kc_find ρ r2.v r2.σ)
noncomputable def Ke_find (P : Prog) (s : X) (d : Nat) (ρ : List V) (r1 : Res) : Option Res := (evX P s d ρ r1.σ).bind (Kd_find ρ r1.v)
noncomputable def Ka_cmp2 (ρ : List V) (rs : List O) (u : Bool) : Option Res := some ⟨.bool u,.nxt,ρ,rs⟩
noncomputable def Kb_cmp2 (op2 : COp) (ρ : List V) (r2v : V) (r3 : Res) : Option Res := (cmpop op2 r2v r3.v).bind (Ka_cmp2 ρ r3.σ)
noncomputable def Kc_cmp2 (P : Prog) (op2 : COp) (c : X) (d : Nat) (ρ : List V) (r2v : V) (r2s : List O) (v : Bool) : Option Res := cond v ((evX P c d ρ r2s).bind (Kb_cmp2 op2 ρ r2v)) (some ⟨.bool false,.nxt,ρ,r2s⟩)
noncomputable def Kd_cmp2 (P : Prog) (op1 op2 : COp) (c : X) (d : Nat) (ρ : List V) (r1v : V) (r2 : Res) : Option Res := (cmpop op1 r1v r2.v).bind (Kc_cmp2 P op2 c d ρ r2.v r2.σ)
noncomputable def Ke_cmp2 (P : Prog) (op1 op2 : COp) (b c : X) (d : Nat) (ρ : List V) (r1 : Res) : Option Res := (evX P b d ρ r1.σ).bind (Kd_cmp2 P op1 op2 c d ρ r1.v)
theorem nth_eq : ∀ (ρ : List V) (i : Nat),nth ρ i = ρ[i]?
  | [],i => by simp; rfl
  | a :: r,0 => rfl
  | a :: r,n + 1 => (nth_eq r n).trans (by simp)
theorem setLoc_eq : ∀ (ρ : List V) (i : Nat) (v : V),setLoc ρ i v = if i < ρ.length /\ isSome' v = true then some (ρ.set i v) else none
  | [],i,v => by simp; rfl
  | a :: r,0,v => by
    show cond (isSome' v) _ _ = _
    cases isSome' v <;> simp
  | a :: r,n + 1,v => by
    show (setLoc r n v).bind _ = _
    rw [setLoc_eq r n v]
    by_cases h : n < r.length /\ isSome' v = true
    · rw [if_pos h,if_pos ⟨by simp; exact h.1,h.2⟩]; rfl
    · rw [if_neg h,if_neg (fun q => h ⟨by simpa using q.1,q.2⟩)]; rfl
noncomputable def evF (P : Prog) (c : Cmd) (d : Nat) (ρ : List V) (σ : List O) : Option Res := match c with
  | .call f args => (P.fn f).bind fun c => cond (Nat.blt d maxDepth && argsOk c args) ((evS P c.body (d + 1) (frameOf c args) σ).bind (callEnd ρ)) none
  | .loop t b => (evX P t d ρ σ).bind (lpT P t b d ρ)
  | .iter tg it b => (it.next σ).bind (nextK P d ρ σ tg b)
  | .comp en tg it elt cnd acc => (it.next σ).bind (nextC P d ρ σ en tg elt cnd acc)
noncomputable def Le {α : Type} (x y : Option α) : Prop := ∀ r,x = some r -> y = some r
theorem Le.refl {α : Type} (x : Option α) : Le x x := fun _ h => h
theorem Le.bind {α β : Type} {x y : Option α} {f g : α -> Option β} (h : Le x y) (k : ∀ a,Le (f a) (g a)) : Le (x.bind f) (y.bind g) := fun r e => by
  cases x with
  | none => cases e
  | some a => rw [h a rfl]; exact k a r e
theorem Le.b {α β : Type} {x y : Option α} {f : α -> Option β} (h : Le x y) : Le (x.bind f) (y.bind f) := h.bind fun a => .refl (f a)
theorem Le.k {α β : Type} {x : Option α} {f g : α -> Option β} (h : ∀ a,Le (f a) (g a)) : Le (x.bind f) (x.bind g) := (Le.refl x).bind h
theorem Le.cond {α : Type} {b : Bool} {x y z w : Option α} (h : Le x y) (k : Le z w) : Le (cond b x z) (cond b y w) := by cases b; exact k; exact h
theorem Le.ite {α : Type} {b : Prop} [Decidable b] {x y z : Option α} (h : Le x y) : Le (if b then x else z) (if b then y else z) := by
  by_cases q : b
  · rw [if_pos q,if_pos q]; exact h
  · rw [if_neg q,if_neg q]; exact .refl z
theorem andE {a b : Bool} {C : Prop} (h : (a && b) = true) (f : a = true -> b = true -> C) : C := f (Bool.and_eq_true_iff.mp h).1 (Bool.and_eq_true_iff.mp h).2
theorem ns_ {α : Type} {b : α} {C : Prop} (h : none = some b) : C := by cases h
theorem bool_e {α : Type} {v : V} {k : Bool -> Option α} {r : α} {C : Prop} (h : boolK v k = some r) (f : ∀ xs,v = .bool xs -> k xs = some r -> C) : C := by cases v <;> first | exact f _ rfl h | exact ns_ h
theorem tup_e {α : Type} {v : V} {k : List V -> Option α} {r : α} {C : Prop} (h : tupK v k = some r) (f : ∀ xs,v = .tup xs -> k xs = some r -> C) : C := by cases v <;> first | exact f _ rfl h | exact ns_ h
theorem lst_e {α : Type} {v : V} {k : List V -> Option α} {r : α} {C : Prop} (h : lstK v k = some r) (f : ∀ xs,v = .lst xs -> k xs = some r -> C) : C := by cases v <;> first | exact f _ rfl h | exact ns_ h
theorem ref_e {α : Type} {v : V} {k : Nat -> Option α} {r : α} {C : Prop} (h : refK v k = some r) (f : ∀ xs,v = .ref xs -> k xs = some r -> C) : C := by cases v <;> first | exact f _ rfl h | exact ns_ h
theorem int_e {α : Type} {v : V} {k : Int -> Option α} {r : α} {C : Prop} (h : intK v k = some r) (f : ∀ xs,v = .int xs -> k xs = some r -> C) : C := by cases v <;> first | exact f _ rfl h | exact ns_ h
theorem str_e {α : Type} {v : V} {k : List Nat -> Option α} {r : α} {C : Prop} (h : strK v k = some r) (f : ∀ xs,v = .str xs -> k xs = some r -> C) : C := by cases v <;> first | exact f _ rfl h | exact ns_ h
theorem inst_e {α : Type} {v : V} {k : Nat -> Nat -> Option α} {r : α} {C : Prop} (h : instK v k = some r) (f : ∀ c i,v = .inst c i -> k c i = some r -> C) : C := by cases v <;> first | exact f _ _ rfl h | exact ns_ h
theorem nil_e {α : Type} {v : V} {k : Option α} {r : α} {C : Prop} (h : nilK v k = some r) (f : v = .none -> k = some r -> C) : C := by cases v <;> first | exact f rfl h | exact ns_ h
theorem ns_e {α : Type} {o : Option O} {k : List (List Nat × V) -> Option α} {r : α} {C : Prop} (h : nsK o k = some r) (f : ∀ xs,o = some (.ns xs) -> k xs = some r -> C) : C := by
  cases o with
  | none => cases h
  | some o => cases o; cases h; exact f _ rfl h
theorem list_e {α : Type} {o : Option O} {k : List V -> Option α} {r : α} {C : Prop} (h : listK o k = some r) (f : ∀ xs,o = some (.list xs) -> k xs = some r -> C) : C := by
  cases o with
  | none => cases h
  | some o => cases o; exact f _ rfl h; cases h
theorem one_e {α : Type} {l : List Nat} {k : Nat -> Option α} {r : α} {C : Prop} (h : oneK l k = some r) (f : ∀ c,l = [c] -> k c = some r -> C) : C := by
  cases l with
  | nil => cases h
  | cons a t => cases t; exact f _ rfl h; cases h
theorem no_e {α : Type} {o : Option V} {k : Option α} {r : α} {C : Prop} (h : noK o k = some r) (f : o = none -> k = some r -> C) : C := by cases o; exact f rfl h; cases h
theorem add_e {op : BOp} {k : Option Res} {r : Res} {C : Prop} (h : addK op k = some r) (f : op = .add -> k = some r -> C) : C := by cases op <;> first | exact f rfl h | exact ns_ h
theorem cond_e {α : Type} {b : Bool} {x : Option α} {r : α} {C : Prop} (h : cond b x none = some r) (f : b = true -> x = some r -> C) : C := by cases b; cases h; exact f rfl h
theorem cond_E {α : Type} {b : Bool} {x y : Option α} {r : α} {C : Prop} (h : cond b x y = some r) (f : b = true -> x = some r -> C) (g : b = false -> y = some r -> C) : C := by cases b; exact g rfl h; exact f rfl h
theorem ite_e {α : Type} {b : Prop} [Decidable b] {x : Option α} {r : α} {C : Prop} (h : (if b then x else none) = some r) (f : b -> x = some r -> C) : C := by
  by_cases q : b
  · rw [if_pos q] at h; exact f q h
  · rw [if_neg q] at h; cases h
theorem bnd_e {α β : Type} {m : Option α} {f : α -> Option β} {r : β} {C : Prop} (h : m.bind f = some r) (k : ∀ a,m = some a -> f a = some r -> C) : C := by
  cases m with
  | none => cases h
  | some a => exact k a rfl h
@[elab_as_elim] theorem some_e {α : Type} {a b : α} {motive : α -> Prop} (h : some a = some b) (f : motive a) : motive b := Option.some.inj h ▸ f
theorem fl_e {f : Fl} {k : Option Res} {q r : Res} {C : Prop} (h : flK f k q = some r) (x : f = .nxt -> k = some r -> C) (y : f ≠ .nxt -> q = r -> C) : C := by
  cases f
  · exact x rfl h
  · exact y Fl.noConfusion (Option.some.inj h)
  · exact y Fl.noConfusion (Option.some.inj h)
theorem flL_e {f : Fl} {k n q : Option Res} {r : Res} {C : Prop} (h : flL f k n q = some r) (x : f = .nxt -> k = some r -> C) (y : f = .brk -> n = some r -> C) (z : f = .ret -> q = some r -> C) : C := by
  cases f
  · exact x rfl h
  · exact y rfl h
  · exact z rfl h
theorem plain_e {v : V} {k : Option Res} {r : Res} {C : Prop} (h : plainK v k = some r) (f : k = some r -> C) : C := by cases v <;> first | exact f h | exact ns_ h
theorem ext_e {xs ρ : List V} {y : V} {σ : List O} {i : Nat} {r : Res} {C : Prop} (h : extK xs y ρ σ i = some r) (f : ∀ ys,(y = .lst ys \/ y = .tup ys) -> (if xs.length + ys.length < maxLen then some ⟨.none,.nxt,ρ,σ.set i (.list (xs ++ ys))⟩ else none) = some r -> C) : C := by
  cases y <;> first | exact f _ (.inl rfl) h | exact f _ (.inr rfl) h | cases h
theorem chk_some {a v : V} (h : chk a = some v) : a = v /\ v ≠ .undef := by cases a <;> first | (cases h; done) | exact some_e h ⟨rfl,V.noConfusion⟩
theorem getLoc_some : ∀ (ρ : List V) (i : Nat) (v : V),getLoc ρ i = some v -> ρ[i]? = some v /\ v ≠ .undef
  | [],_,_,h => by cases h
  | a :: r,0,v,h => by
    have q := chk_some h
    exact ⟨congrArg some q.1,q.2⟩
  | a :: r,n + 1,v,h => getLoc_some r n v h
theorem setLoc_some {ρ ρ' : List V} {i : Nat} {v : V} (h : setLoc ρ i v = some ρ') : ρ.set i v = ρ' := by
  rw [setLoc_eq] at h
  exact ite_e h fun _ h => Option.some.inj h
theorem Le.tup {α : Type} {v : V} {k l : List V -> Option α} (h : ∀ vs,Le (k vs) (l vs)) : Le (tupK v k) (tupK v l) := fun r e => tup_e e fun xs q e => q.symm ▸ h xs r e
theorem Le.ref {α : Type} {v : V} {k l : Nat -> Option α} (h : ∀ vs,Le (k vs) (l vs)) : Le (refK v k) (refK v l) := fun r e => ref_e e fun xs q e => q.symm ▸ h xs r e
theorem Le.int {α : Type} {v : V} {k l : Int -> Option α} (h : ∀ vs,Le (k vs) (l vs)) : Le (intK v k) (intK v l) := fun r e => int_e e fun xs q e => q.symm ▸ h xs r e
theorem Le.inst {α : Type} {v : V} {k l : Nat -> Nat -> Option α} (h : ∀ c i,Le (k c i) (l c i)) : Le (instK v k) (instK v l) := fun r e => inst_e e fun c i q e => q.symm ▸ h c i r e
theorem Le.ns {α : Type} {v : Option O} {k l : List (List Nat × V) -> Option α} (h : ∀ vs,Le (k vs) (l vs)) : Le (nsK v k) (nsK v l) := fun r e => ns_e e fun xs q e => q.symm ▸ h xs r e
theorem Le.list {α : Type} {v : Option O} {k l : List V -> Option α} (h : ∀ vs,Le (k vs) (l vs)) : Le (listK v k) (listK v l) := fun r e => list_e e fun xs q e => q.symm ▸ h xs r e
theorem Le.no {α : Type} {o : Option V} {k l : Option α} (h : Le k l) : Le (noK o k) (noK o l) := fun r e => no_e e fun q e => q.symm ▸ h r e
theorem Le.fl {f : Fl} {k l : Option Res} {r : Res} (h : Le k l) : Le (flK f k r) (flK f l r) := by cases f <;> first | exact h | exact .refl _
theorem Le.flL {f : Fl} {k l n r : Option Res} (h : Le k l) : Le (flL f k n r) (flL f l n r) := by cases f <;> first | exact h | exact .refl _
section
variable {P : Prog} {f g : Cmd -> Nat -> List V -> List O -> Option Res} {R : Nat -> Nat -> Prop} (hs : ∀ a b,R a b -> R (a + 1) (b + 1)) (hl : ∀ a b,R a b -> b <= a) (h : ∀ c a b ρ σ,R a b -> Le (f c a ρ σ) (g c b ρ σ))
include hs hl h
theorem evX_le : ∀ e a b ρ σ,R a b -> Le (evX (P.on f) e a ρ σ) (evX (P.on g) e b ρ σ) := by
  intro e
  induction e with
  | cNone | cBool | cInt | cStr | nil | loc | glob => exact fun a b ρ σ q => .refl _
  | cons x y ix iy => exact fun a b ρ σ q => .bind (f := K3 (P.on f) y a ρ) (g := K3 (P.on g) y b ρ) (ix a b ρ σ q) fun r => .b (iy a b ρ r.σ q)
  | tup e ie => exact fun a b ρ σ q => .b (f := K6 ρ) (ie a b ρ σ q)
  | lst e ie => exact fun a b ρ σ q => .b (f := K8 ρ) (ie a b ρ σ q)
  | dct ks e ie => cases ks with
    | nil => exact fun a b ρ σ q => .refl _
    | cons k ks => exact fun a b ρ σ q => .b (f := K0 k ks ρ) (ie a b ρ σ q)
  | attr e m ie => exact fun a b ρ σ q => .b (f := K10 P m ρ) (ie a b ρ σ q)
  | idx x y ix iy => exact fun a b ρ σ q => .bind (f := K14 (P.on f) y a ρ) (g := K14 (P.on g) y b ρ) (ix a b ρ σ q) fun r => .b (iy a b ρ r.σ q)
  | slice x y z ix iy iz => exact fun a b ρ σ q => .bind (f := K18 (P.on f) y z a ρ) (g := K18 (P.on g) y z b ρ) (ix a b ρ σ q) fun r => .bind (iy a b ρ r.σ q) fun r2 => .b (iz a b ρ r2.σ q)
  | bin o x y ix iy => exact fun a b ρ σ q => .bind (f := K22 (P.on f) o y a ρ) (g := K22 (P.on g) o y b ρ) (ix a b ρ σ q) fun r => .b (iy a b ρ r.σ q)
  | neg e ie => exact fun a b ρ σ q => .b (f := K27 ρ) (ie a b ρ σ q)
  | not e ie => exact fun a b ρ σ q => .b (f := K29 ρ) (ie a b ρ σ q)
  | and x y ix iy => exact fun a b ρ σ q => .bind (f := K31 (P.on f) y a ρ) (g := K31 (P.on g) y b ρ) (ix a b ρ σ q) fun r => .k fun t => .cond (iy a b ρ r.σ q) (.refl _)
  | or x y ix iy => exact fun a b ρ σ q => .bind (f := K33 (P.on f) y a ρ) (g := K33 (P.on g) y b ρ) (ix a b ρ σ q) fun r => .k fun t => .cond (.refl _) (iy a b ρ r.σ q)
  | cmp o x y ix iy => exact fun a b ρ σ q => .bind (f := K35 (P.on f) o y a ρ) (g := K35 (P.on g) o y b ρ) (ix a b ρ σ q) fun r => .b (iy a b ρ r.σ q)
  | cmp2 o u x y z ix iy iz => exact fun a b ρ σ q => .bind (f := Ke_cmp2 (P.on f) o u y z a ρ) (g := Ke_cmp2 (P.on g) o u y z b ρ) (ix a b ρ σ q) fun r => .bind (iy a b ρ r.σ q) fun r2 => .k fun t => .cond (.b (iz a b ρ r2.σ q)) (.refl _)
  | ite t x y it ix iy => exact fun a b ρ σ q => .bind (f := K40 (P.on f) x y a ρ) (g := K40 (P.on g) x y b ρ) (it a b ρ σ q) fun r => .k fun t => .cond (ix a b ρ r.σ q) (iy a b ρ r.σ q)
  | call n e ie => exact fun a b ρ σ q => .bind (f := K42 (P.on f) n a ρ) (g := K42 (P.on g) n b ρ) (ie a b ρ σ q) fun r => .tup fun vs => .b (h (.call n vs) a b ρ r.σ q)
  | meth o m e io ie => exact fun a b ρ σ q => .bind (f := K45 (P.on f) m e a ρ) (g := K45 (P.on g) m e b ρ) (io a b ρ σ q) fun r => .inst fun c i => .ns fun fs => .no (.bind (ie a b ρ r.σ q) fun r2 => .tup fun vs => .k fun n => .b (h (.call n (.inst c i :: vs)) a b ρ r2.σ q))
  | mk c e ie => exact fun a b ρ σ q => .bind (f := K52 (P.on f) c a ρ) (g := K52 (P.on g) c b ρ) (ie a b ρ σ q) fun r => .tup fun vs => .k fun n => .b (h (.call n (.inst c r.σ.length :: vs)) (a + 1) (b + 1) ρ (r.σ ++ [O.ns []]) (hs a b q))
  | len e ie => exact fun a b ρ σ q => .b (f := K56 ρ) (ie a b ρ σ q)
  | ord e ie => exact fun a b ρ σ q => .b (f := Kc_ord ρ) (ie a b ρ σ q)
  | tupleOf e ie => exact fun a b ρ σ q => .b (f := K59 ρ) (ie a b ρ σ q)
  | append x y ix iy => exact fun a b ρ σ q => .bind (f := K62 (P.on f) y a ρ) (g := K62 (P.on g) y b ρ) (ix a b ρ σ q) fun r => .ref fun i => .list fun _ => .b (iy a b ρ r.σ q)
  | extend x y ix iy => exact fun a b ρ σ q => .bind (f := K67 (P.on f) y a ρ) (g := K67 (P.on g) y b ρ) (ix a b ρ σ q) fun r => .ref fun i => .list fun _ => .b (iy a b ρ r.σ q)
  | split x y ix iy => exact fun a b ρ σ q => .bind (f := K73 (P.on f) y a ρ) (g := K73 (P.on g) y b ρ) (ix a b ρ σ q) fun r => .b (iy a b ρ r.σ q)
  | find x y ix iy => exact fun a b ρ σ q => .bind (f := Ke_find (P.on f) y a ρ) (g := Ke_find (P.on g) y b ρ) (ix a b ρ σ q) fun r => .b (iy a b ρ r.σ q)
  | lower e ie => exact fun a b ρ σ q => .b (f := Kc_lower ρ) (ie a b ρ σ q)
  | comp n tg it x y ii _ _ => exact fun a b ρ σ q => .bind (f := K78 (P.on f) n tg x y a ρ) (g := K78 (P.on g) n tg x y b ρ) (ii a b ρ σ q) fun r => .k fun i => .b (h (.comp none tg i x y []) a b _ r.σ q)
  | compE n tg it x y ii _ _ => exact fun a b ρ σ q => .bind (f := K81 (P.on f) n tg x y a ρ) (g := K81 (P.on g) n tg x y b ρ) (ii a b ρ σ q) fun r => .cond (.k fun i => .b (h (.comp (some 0) tg i x y []) a b _ r.σ q)) (.refl _)
theorem evS_le : ∀ c a b ρ σ,R a b -> Le (evS (P.on f) c a ρ σ) (evS (P.on g) c b ρ σ) := by
  have X := evX_le (P := P) hs hl h
  intro c
  induction c with
  | skip | brk | bad => exact fun a b ρ σ q => .refl _
  | seq x y ix iy => exact fun a b ρ σ q => .bind (f := seqK (P.on f) y a) (g := seqK (P.on g) y b) (ix a b ρ σ q) fun r => .fl (iy a b r.ρ r.σ q)
  | asg i e => exact fun a b ρ σ q => .b (f := K84 i ρ) (X e a b ρ σ q)
  | asgT i e => exact fun a b ρ σ q => .b (f := K86 i ρ) (X e a b ρ σ q)
  | asgNew i e => exact fun a b ρ σ q => .b (f := K88 i ρ) (X e a b ρ σ q)
  | aug i o e => exact fun a b ρ σ q => .k (f := K91 (P.on f) i o e a ρ σ) (g := K91 (P.on g) i o e b ρ σ) fun v => .b (X e a b ρ σ q)
  | setA o m e => exact fun a b ρ σ q => .bind (f := K96 (P.on f) o m a ρ) (g := K96 (P.on g) o m b ρ) (X e a b ρ σ q) fun r => .b (X o a b ρ r.σ q)
  | augA o m u e => exact fun a b ρ σ q => .bind (f := K100 (P.on f) m u e a ρ) (g := K100 (P.on g) m u e b ρ) (X o a b ρ σ q) fun r => .inst fun c i => .ns fun fs => .k fun old => .int fun x => .b (X e a b ρ r.σ q)
  | setI o i e => exact fun a b ρ σ q => .bind (f := K108 (P.on f) o i a ρ) (g := K108 (P.on g) o i b ρ) (X e a b ρ σ q) fun r => .bind (X o a b ρ r.σ q) fun r2 => .b (X i a b ρ r2.σ q)
  | ex e => exact fun a b ρ σ q => .b (f := K114 ρ) (X e a b ρ σ q)
  | iff t x y ix iy => exact fun a b ρ σ q => .bind (f := K115 (P.on f) x y a ρ) (g := K115 (P.on g) x y b ρ) (X t a b ρ σ q) fun r => .k fun t => .cond (ix a b ρ r.σ q) (iy a b ρ r.σ q)
  | whl t x _ => exact fun a b ρ σ q => h (.loop t x) a b ρ σ q
  | forr tg it x _ => exact fun a b ρ σ q => .bind (f := K117 (P.on f) tg x a ρ) (g := K117 (P.on g) tg x b ρ) (X it a b ρ σ q) fun r => .k fun i => h (.iter tg i x) a b ρ r.σ q
  | forR tg lo hi x _ => exact fun a b ρ σ q => .bind (f := K119 (P.on f) tg hi x a ρ) (g := K119 (P.on g) tg hi x b ρ) (X lo a b ρ σ q) fun r => .bind (X hi a b ρ r.σ q) fun r2 => .int fun i => .int fun j => .ite (h (.iter tg (.vals (rangeV i j)) x) a b ρ r2.σ q)
  | ret e => exact fun a b ρ σ q => .b (f := K123 ρ) (X e a b ρ σ q)
  | tr x ix => exact fun a b ρ σ q => ix a b ρ σ q
theorem evF_le : ∀ c a b ρ σ,R a b -> Le (evF (P.on f) c a ρ σ) (evF (P.on g) c b ρ σ) := by
  have X := evX_le (P := P) hs hl h
  have Y := evS_le (P := P) hs hl h
  intro c
  cases c with
  | call n vs =>
      refine fun a b ρ σ q => .k fun c => fun r e => ?_
      refine cond_e e fun e1 e => ?_
      rw [Bool.and_eq_true] at e1
      have e2 : Nat.blt b maxDepth = true := Nat.blt_eq.mpr (Nat.lt_of_le_of_lt (hl a b q) (Nat.blt_eq.mp e1.1))
      rw [e2,e1.2]
      exact Le.b (Y c.body (a + 1) (b + 1) _ σ (hs a b q)) r e
  | loop t x => exact fun a b ρ σ q => .bind (f := lpT (P.on f) t x a ρ) (g := lpT (P.on g) t x b ρ) (X t a b ρ σ q) fun r => .k fun t => .cond (.bind (Y x a b ρ r.σ q) fun r2 => .flL (h (.loop _ x) a b r2.ρ r2.σ q)) (.refl _)
  | iter tg it x => exact fun a b ρ σ q => .k (f := nextK (P.on f) a ρ σ tg x) (g := nextK (P.on g) b ρ σ tg x) fun n => match n with
      | none => .refl _
      | some (v,it') => .k fun ρ' => .bind (Y x a b ρ' σ q) fun r2 => .flL (h (.iter tg it' x) a b r2.ρ r2.σ q)
  | comp en tg it x y acc => exact fun a b ρ σ q => .k (f := nextC (P.on f) a ρ σ en tg x y acc) (g := nextC (P.on g) b ρ σ en tg x y acc) fun n => match n with
      | none => .refl _
      | some (v,it') => .k fun ρ' => .bind (X y a b ρ' σ q) fun r => .k fun t => .cond (.bind (X x a b ρ' r.σ q) fun r2 => .cond (.ite (h (.comp (en.map (· + 1)) tg it' x y (acc ++ [r2.v])) a b ρ' r2.σ q)) (.refl _)) (h (.comp (en.map (· + 1)) tg it' x y acc) a b ρ' r.σ q)
end
theorem evF_mono (P : Prog) : Lean.Order.monotone (fun f : Cmd -> Nat -> List V -> List O -> Option Res => evF (P.on f)) := by
  intro f g h c d ρ σ
  have L := evF_le (P := P) (f := f) (g := g) (R := Eq) (fun a b q => by rw [q]) (fun a b q => Nat.le_of_eq q.symm) (fun c a b ρ σ q r e => by
    cases q
    have := h c a ρ σ
    rw [e] at this
    generalize g c a ρ σ = y at this
    cases this
    rfl) c d d ρ σ rfl
  show @FlatOrder.rel _ none (evF (P.on f) c d ρ σ) (evF (P.on g) c d ρ σ)
  cases e : evF (P.on f) c d ρ σ with
  | none => exact .bot
  | some r => rw [L r e]; exact .refl
noncomputable def evR (P : Prog) (c : Cmd) (d : Nat) (ρ : List V) (σ : List O) : Option Res := evF (P.on (fun c d ρ σ => evR P c d ρ σ)) c d ρ σ
partial_fixpoint monotonicity evF_mono P
theorem evR_eq (P : Prog) (c : Cmd) (d : Nat) (ρ : List V) (σ : List O) : evR P c d ρ σ = evF (P.on (evR P)) c d ρ σ := by rw [evR]
noncomputable def evN (P : Prog) : Nat -> Cmd -> Nat -> List V -> List O -> Option Res
  | 0 => fun _ _ _ _ => none
  | n + 1 => evF (P.on (evN P n))
theorem evN_ev (P : Prog) : ∀ (n : Nat) (c : Cmd) (a b : Nat) (ρ : List V) (σ : List O),b <= a -> Le (evN P n c a ρ σ) (evR P c b ρ σ)
  | 0,_,_,_,_,_,_ => fun r h => by cases h
  | n + 1,c,a,b,ρ,σ,q => by
    rw [evR_eq]
    exact evF_le (R := fun a b => b <= a) (fun _ _ => Nat.succ_le_succ) (fun _ _ q => q) (evN_ev P n) c a b ρ σ q
theorem ev_ind (P : Prog) (motive : Cmd -> Nat -> List V -> List O -> Res -> Prop)
    (h : ∀ f : Cmd -> Nat -> List V -> List O -> Option Res,(∀ c d ρ σ r,f c d ρ σ = some r -> motive c d ρ σ r) -> ∀ c d ρ σ r,evF (P.on f) c d ρ σ = some r -> motive c d ρ σ r) :
    ∀ c d ρ σ r,evR P c d ρ σ = some r -> motive c d ρ σ r := evR.partial_correctness P motive h
end Mine
namespace Mine
open PySem
structure Sc where
  scope : Scope
  locs : List Str
  fns : List (Str × Nat)
  clss : List (Str × Nat)
  globs : List (Str × Nat)
noncomputable def Sc.loc (sc : Sc) (x : Str) : Option Nat := sc.locs.idxOf? x
noncomputable def Sc.isGlob (sc : Sc) (x : Str) : Bool := sc.scope.names.lookup x == some .globalImplicit
noncomputable def Sc.isBlt (sc : Sc) (x : Str) : Bool := sc.isGlob x && (sc.fns.lookup x).isNone && (sc.clss.lookup x).isNone && (sc.globs.lookup x).isNone
noncomputable def dbg : Str := "__debug__"
noncomputable def nLen : Str := "len"
noncomputable def nOrd : Str := "ord"
noncomputable def nTuple : Str := "tuple"
noncomputable def nRange : Str := "range"
noncomputable def nEnum : Str := "enumerate"
noncomputable def nAppend : Str := "append"
noncomputable def nExtend : Str := "extend"
noncomputable def nSplit : Str := "split"
noncomputable def nFind : Str := "find"
noncomputable def nLower : Str := "lower"
noncomputable def bopOf : Operator -> Option BOp
  | .Add => some .add
  | .Sub => some .sub
  | .Mult => some .mul
  | .Mod => some .mod
  | .LShift => some .shl
  | .RShift => some .shr
  | .BitAnd => some .band
  | .BitOr => some .bor
  | _ => none
noncomputable def copOf : CmpOp -> COp
  | .Eq => .eq
  | .NotEq => .ne
  | .Lt => .lt
  | .LtE => .le
  | .Gt => .gt
  | .GtE => .ge
  | .In => .isin
  | .NotIn => .notin
  | .Is => .is
  | .IsNot => .isnot
noncomputable def notStarred (e : PySem.Expr) : Bool := !Nat.beq e.ctorIdx 22
noncomputable def isSet (e : PySem.Expr) : Bool := Nat.beq e.ctorIdx 7
noncomputable def isSlice (e : PySem.Expr) : Bool := Nat.beq e.ctorIdx 26
noncomputable def isCall (e : PySem.Expr) : Bool := Nat.beq e.ctorIdx 16
noncomputable def isComp (e : PySem.Expr) : Bool := Nat.beq e.ctorIdx 8 || Nat.beq e.ctorIdx 9 || Nat.beq e.ctorIdx 10
noncomputable def isTup (e : PySem.Expr) : Bool := Nat.beq e.ctorIdx 25
noncomputable def isName (e : PySem.Expr) : Bool := Nat.beq e.ctorIdx 23
noncomputable def isList (e : PySem.Expr) : Bool := Nat.beq e.ctorIdx 24
theorem dnot {c : Prop} [Decidable c] {t : c -> Bool} (q : (if h : c then t h else false) = true) : c := by
  by_cases h : c
  · exact h
  · rw [dif_neg h] at q; cases q
theorem empE {α : Type} {l : List α} {m : List α -> Prop} (h : l.isEmpty = true) (f : m []) : m l := by cases l; exact f; cases h
noncomputable def lcs {α : Type} (l : List α) (k : α -> List α -> Bool) : Bool := List.casesOn l false k
noncomputable def lone {α : Type} (l : List α) (k : α -> Bool) : Bool := lcs l fun a r => List.casesOn r (k a) fun _ _ => false
theorem lcsE {α : Type} {l : List α} {k : α -> List α -> Bool} {m : List α -> Prop} (h : lcs l k = true) (f : ∀ a r,k a r = true -> m (a :: r)) : m l := by cases l; cases h; exact f _ _ h
theorem loneE {α : Type} {l : List α} {k : α -> Bool} {m : List α -> Prop} (h : lone l k = true) (f : ∀ a,k a = true -> m [a]) : m l := lcsE h fun a r h => by cases r; exact f a h; cases h
noncomputable def eBool (e : PySem.Expr) (k : PySem.BoolOp -> List PySem.Expr -> Pos -> Bool) : Bool := if h : e.ctorIdx = 0 then PySem.Expr.BoolOp.elim (motive_1 := fun _ => Bool) e h k else false
theorem eBoolE {e : PySem.Expr} {k : PySem.BoolOp -> List PySem.Expr -> Pos -> Bool} {m : PySem.Expr -> Prop} (q : eBool e k = true) (f : ∀ o l p,k o l p = true -> m (.BoolOp o l p)) : m e := PySem.Expr.BoolOp.elim (motive_1 := fun e => eBool e k = true -> m e) e (dnot q) f q
noncomputable def eBin (e : PySem.Expr) (k : PySem.Expr -> Operator -> PySem.Expr -> Pos -> Bool) : Bool := if h : e.ctorIdx = 2 then PySem.Expr.BinOp.elim (motive_1 := fun _ => Bool) e h k else false
theorem eBinE {e : PySem.Expr} {k : PySem.Expr -> Operator -> PySem.Expr -> Pos -> Bool} {m : PySem.Expr -> Prop} (q : eBin e k = true) (f : ∀ l o r p,k l o r p = true -> m (.BinOp l o r p)) : m e := PySem.Expr.BinOp.elim (motive_1 := fun e => eBin e k = true -> m e) e (dnot q) f q
noncomputable def eUn (e : PySem.Expr) (k : PySem.UnaryOp -> PySem.Expr -> Pos -> Bool) : Bool := if h : e.ctorIdx = 3 then PySem.Expr.UnaryOp.elim (motive_1 := fun _ => Bool) e h k else false
theorem eUnE {e : PySem.Expr} {k : PySem.UnaryOp -> PySem.Expr -> Pos -> Bool} {m : PySem.Expr -> Prop} (q : eUn e k = true) (f : ∀ o a p,k o a p = true -> m (.UnaryOp o a p)) : m e := PySem.Expr.UnaryOp.elim (motive_1 := fun e => eUn e k = true -> m e) e (dnot q) f q
noncomputable def eIf (e : PySem.Expr) (k : PySem.Expr -> PySem.Expr -> PySem.Expr -> Pos -> Bool) : Bool := if h : e.ctorIdx = 5 then PySem.Expr.IfExp.elim (motive_1 := fun _ => Bool) e h k else false
theorem eIfE {e : PySem.Expr} {k : PySem.Expr -> PySem.Expr -> PySem.Expr -> Pos -> Bool} {m : PySem.Expr -> Prop} (q : eIf e k = true) (f : ∀ t a b p,k t a b p = true -> m (.IfExp t a b p)) : m e := PySem.Expr.IfExp.elim (motive_1 := fun e => eIf e k = true -> m e) e (dnot q) f q
noncomputable def eDict (e : PySem.Expr) (k : List (Option PySem.Expr) -> List PySem.Expr -> Pos -> Bool) : Bool := if h : e.ctorIdx = 6 then PySem.Expr.Dict.elim (motive_1 := fun _ => Bool) e h k else false
theorem eDictE {e : PySem.Expr} {k : List (Option PySem.Expr) -> List PySem.Expr -> Pos -> Bool} {m : PySem.Expr -> Prop} (q : eDict e k = true) (f : ∀ l v p,k l v p = true -> m (.Dict l v p)) : m e := PySem.Expr.Dict.elim (motive_1 := fun e => eDict e k = true -> m e) e (dnot q) f q
noncomputable def eLC (e : PySem.Expr) (k : PySem.Expr -> List Comprehension -> Scope -> Pos -> Bool) : Bool := if h : e.ctorIdx = 8 then PySem.Expr.ListComp.elim (motive_1 := fun _ => Bool) e h k else false
theorem eLCE {e : PySem.Expr} {k : PySem.Expr -> List Comprehension -> Scope -> Pos -> Bool} {m : PySem.Expr -> Prop} (q : eLC e k = true) (f : ∀ a l s p,k a l s p = true -> m (.ListComp a l s p)) : m e := PySem.Expr.ListComp.elim (motive_1 := fun e => eLC e k = true -> m e) e (dnot q) f q
noncomputable def eCmp (e : PySem.Expr) (k : PySem.Expr -> List CmpOp -> List PySem.Expr -> Pos -> Bool) : Bool := if h : e.ctorIdx = 15 then PySem.Expr.Compare.elim (motive_1 := fun _ => Bool) e h k else false
theorem eCmpE {e : PySem.Expr} {k : PySem.Expr -> List CmpOp -> List PySem.Expr -> Pos -> Bool} {m : PySem.Expr -> Prop} (q : eCmp e k = true) (f : ∀ a o l p,k a o l p = true -> m (.Compare a o l p)) : m e := PySem.Expr.Compare.elim (motive_1 := fun e => eCmp e k = true -> m e) e (dnot q) f q
noncomputable def eCall (e : PySem.Expr) (k : PySem.Expr -> List PySem.Expr -> List Keyword -> Pos -> Bool) : Bool := if h : e.ctorIdx = 16 then PySem.Expr.Call.elim (motive_1 := fun _ => Bool) e h k else false
theorem eCallE {e : PySem.Expr} {k : PySem.Expr -> List PySem.Expr -> List Keyword -> Pos -> Bool} {m : PySem.Expr -> Prop} (q : eCall e k = true) (f : ∀ a l w p,k a l w p = true -> m (.Call a l w p)) : m e := PySem.Expr.Call.elim (motive_1 := fun e => eCall e k = true -> m e) e (dnot q) f q
noncomputable def eConst (e : PySem.Expr) (k : Const -> Nat -> Pos -> Bool) : Bool := if h : e.ctorIdx = 19 then PySem.Expr.Constant.elim (motive_1 := fun _ => Bool) e h k else false
theorem eConstE {e : PySem.Expr} {k : Const -> Nat -> Pos -> Bool} {m : PySem.Expr -> Prop} (q : eConst e k = true) (f : ∀ c n p,k c n p = true -> m (.Constant c n p)) : m e := PySem.Expr.Constant.elim (motive_1 := fun e => eConst e k = true -> m e) e (dnot q) f q
noncomputable def eAttr (e : PySem.Expr) (k : PySem.Expr -> Str -> Pos -> Bool) : Bool := if h : e.ctorIdx = 20 then PySem.Expr.Attribute.elim (motive_1 := fun _ => Bool) e h k else false
theorem eAttrE {e : PySem.Expr} {k : PySem.Expr -> Str -> Pos -> Bool} {m : PySem.Expr -> Prop} (q : eAttr e k = true) (f : ∀ a s p,k a s p = true -> m (.Attribute a s p)) : m e := PySem.Expr.Attribute.elim (motive_1 := fun e => eAttr e k = true -> m e) e (dnot q) f q
noncomputable def eSub (e : PySem.Expr) (k : PySem.Expr -> PySem.Expr -> Pos -> Bool) : Bool := if h : e.ctorIdx = 21 then PySem.Expr.Subscript.elim (motive_1 := fun _ => Bool) e h k else false
theorem eSubE {e : PySem.Expr} {k : PySem.Expr -> PySem.Expr -> Pos -> Bool} {m : PySem.Expr -> Prop} (q : eSub e k = true) (f : ∀ a b p,k a b p = true -> m (.Subscript a b p)) : m e := PySem.Expr.Subscript.elim (motive_1 := fun e => eSub e k = true -> m e) e (dnot q) f q
noncomputable def eName (e : PySem.Expr) (k : Str -> Pos -> Bool) : Bool := if h : e.ctorIdx = 23 then PySem.Expr.Name.elim (motive_1 := fun _ => Bool) e h k else false
theorem eNameE {e : PySem.Expr} {k : Str -> Pos -> Bool} {m : PySem.Expr -> Prop} (q : eName e k = true) (f : ∀ s p,k s p = true -> m (.Name s p)) : m e := PySem.Expr.Name.elim (motive_1 := fun e => eName e k = true -> m e) e (dnot q) f q
noncomputable def eList (e : PySem.Expr) (k : List PySem.Expr -> Pos -> Bool) : Bool := if h : e.ctorIdx = 24 then PySem.Expr.List.elim (motive_1 := fun _ => Bool) e h k else false
theorem eListE {e : PySem.Expr} {k : List PySem.Expr -> Pos -> Bool} {m : PySem.Expr -> Prop} (q : eList e k = true) (f : ∀ l p,k l p = true -> m (.List l p)) : m e := PySem.Expr.List.elim (motive_1 := fun e => eList e k = true -> m e) e (dnot q) f q
noncomputable def eTup (e : PySem.Expr) (k : List PySem.Expr -> Nat -> Pos -> Bool) : Bool := if h : e.ctorIdx = 25 then PySem.Expr.Tuple.elim (motive_1 := fun _ => Bool) e h k else false
theorem eTupE {e : PySem.Expr} {k : List PySem.Expr -> Nat -> Pos -> Bool} {m : PySem.Expr -> Prop} (q : eTup e k = true) (f : ∀ l n p,k l n p = true -> m (.Tuple l n p)) : m e := PySem.Expr.Tuple.elim (motive_1 := fun e => eTup e k = true -> m e) e (dnot q) f q
noncomputable def eSlice (e : PySem.Expr) (k : Option PySem.Expr -> Option PySem.Expr -> Option PySem.Expr -> Pos -> Bool) : Bool := if h : e.ctorIdx = 26 then PySem.Expr.Slice.elim (motive_1 := fun _ => Bool) e h k else false
theorem eSliceE {e : PySem.Expr} {k : Option PySem.Expr -> Option PySem.Expr -> Option PySem.Expr -> Pos -> Bool} {m : PySem.Expr -> Prop} (q : eSlice e k = true) (f : ∀ a b c p,k a b c p = true -> m (.Slice a b c p)) : m e := PySem.Expr.Slice.elim (motive_1 := fun e => eSlice e k = true -> m e) e (dnot q) f q
noncomputable def cB (e : Const) (k : Bool -> Bool) : Bool := if h : e.ctorIdx = 1 then PySem.Const.bool.elim (motive := fun _ => Bool) e h k else false
theorem cBE {e : Const} {k : Bool -> Bool} {m : Const -> Prop} (q : cB e k = true) (f : ∀ b,k b = true -> m (.bool b)) : m e := PySem.Const.bool.elim (motive := fun e => cB e k = true -> m e) e (dnot q) f q
noncomputable def cI (e : Const) (k : Int -> Bool) : Bool := if h : e.ctorIdx = 2 then PySem.Const.int.elim (motive := fun _ => Bool) e h k else false
theorem cIE {e : Const} {k : Int -> Bool} {m : Const -> Prop} (q : cI e k = true) (f : ∀ i,k i = true -> m (.int i)) : m e := PySem.Const.int.elim (motive := fun e => cI e k = true -> m e) e (dnot q) f q
noncomputable def cS (e : Const) (k : Str -> Bool) : Bool := if h : e.ctorIdx = 5 then PySem.Const.str.elim (motive := fun _ => Bool) e h k else false
theorem cSE {e : Const} {k : Str -> Bool} {m : Const -> Prop} (q : cS e k = true) (f : ∀ s,k s = true -> m (.str s)) : m e := PySem.Const.str.elim (motive := fun e => cS e k = true -> m e) e (dnot q) f q
noncomputable def sRet (e : Stmt) (k : Option PySem.Expr -> Pos -> Bool) : Bool := if h : e.ctorIdx = 3 then PySem.Stmt.Return.elim (motive_2 := fun _ => Bool) e h k else false
theorem sRetE {e : Stmt} {k : Option PySem.Expr -> Pos -> Bool} {m : Stmt -> Prop} (q : sRet e k = true) (f : ∀ v p,k v p = true -> m (.Return v p)) : m e := PySem.Stmt.Return.elim (motive_2 := fun e => sRet e k = true -> m e) e (dnot q) f q
noncomputable def sAsg (e : Stmt) (k : List PySem.Expr -> PySem.Expr -> Pos -> Bool) : Bool := if h : e.ctorIdx = 5 then PySem.Stmt.Assign.elim (motive_2 := fun _ => Bool) e h k else false
theorem sAsgE {e : Stmt} {k : List PySem.Expr -> PySem.Expr -> Pos -> Bool} {m : Stmt -> Prop} (q : sAsg e k = true) (f : ∀ l e' p,k l e' p = true -> m (.Assign l e' p)) : m e := PySem.Stmt.Assign.elim (motive_2 := fun e => sAsg e k = true -> m e) e (dnot q) f q
noncomputable def sAug (e : Stmt) (k : PySem.Expr -> Operator -> PySem.Expr -> Pos -> Bool) : Bool := if h : e.ctorIdx = 7 then PySem.Stmt.AugAssign.elim (motive_2 := fun _ => Bool) e h k else false
theorem sAugE {e : Stmt} {k : PySem.Expr -> Operator -> PySem.Expr -> Pos -> Bool} {m : Stmt -> Prop} (q : sAug e k = true) (f : ∀ t o e' p,k t o e' p = true -> m (.AugAssign t o e' p)) : m e := PySem.Stmt.AugAssign.elim (motive_2 := fun e => sAug e k = true -> m e) e (dnot q) f q
noncomputable def sFor (e : Stmt) (k : PySem.Expr -> PySem.Expr -> List Stmt -> List Stmt -> Pos -> Bool) : Bool := if h : e.ctorIdx = 9 then PySem.Stmt.For.elim (motive_2 := fun _ => Bool) e h k else false
theorem sForE {e : Stmt} {k : PySem.Expr -> PySem.Expr -> List Stmt -> List Stmt -> Pos -> Bool} {m : Stmt -> Prop} (q : sFor e k = true) (f : ∀ t i b r p,k t i b r p = true -> m (.For t i b r p)) : m e := PySem.Stmt.For.elim (motive_2 := fun e => sFor e k = true -> m e) e (dnot q) f q
noncomputable def sWhl (e : Stmt) (k : PySem.Expr -> List Stmt -> List Stmt -> Pos -> Bool) : Bool := if h : e.ctorIdx = 11 then PySem.Stmt.While.elim (motive_2 := fun _ => Bool) e h k else false
theorem sWhlE {e : Stmt} {k : PySem.Expr -> List Stmt -> List Stmt -> Pos -> Bool} {m : Stmt -> Prop} (q : sWhl e k = true) (f : ∀ t b r p,k t b r p = true -> m (.While t b r p)) : m e := PySem.Stmt.While.elim (motive_2 := fun e => sWhl e k = true -> m e) e (dnot q) f q
noncomputable def sIf (e : Stmt) (k : PySem.Expr -> List Stmt -> List Stmt -> Pos -> Bool) : Bool := if h : e.ctorIdx = 12 then PySem.Stmt.If.elim (motive_2 := fun _ => Bool) e h k else false
theorem sIfE {e : Stmt} {k : PySem.Expr -> List Stmt -> List Stmt -> Pos -> Bool} {m : Stmt -> Prop} (q : sIf e k = true) (f : ∀ t a b p,k t a b p = true -> m (.If t a b p)) : m e := PySem.Stmt.If.elim (motive_2 := fun e => sIf e k = true -> m e) e (dnot q) f q
noncomputable def sTry (e : Stmt) (k : List Stmt -> List ExceptHandler -> List Stmt -> List Stmt -> Pos -> Bool) : Bool := if h : e.ctorIdx = 17 then PySem.Stmt.Try.elim (motive_2 := fun _ => Bool) e h k else false
theorem sTryE {e : Stmt} {k : List Stmt -> List ExceptHandler -> List Stmt -> List Stmt -> Pos -> Bool} {m : Stmt -> Prop} (q : sTry e k = true) (f : ∀ b hs r s p,k b hs r s p = true -> m (.Try b hs r s p)) : m e := PySem.Stmt.Try.elim (motive_2 := fun e => sTry e k = true -> m e) e (dnot q) f q
noncomputable def sEx (e : Stmt) (k : PySem.Expr -> Pos -> Bool) : Bool := if h : e.ctorIdx = 24 then PySem.Stmt.Expr.elim (motive_2 := fun _ => Bool) e h k else false
theorem sExE {e : Stmt} {k : PySem.Expr -> Pos -> Bool} {m : Stmt -> Prop} (q : sEx e k = true) (f : ∀ e' p,k e' p = true -> m (.Expr e' p)) : m e := PySem.Stmt.Expr.elim (motive_2 := fun e => sEx e k = true -> m e) e (dnot q) f q
noncomputable def sBrk (e : Stmt) (k : Pos -> Bool) : Bool := if h : e.ctorIdx = 26 then PySem.Stmt.Break.elim (motive_2 := fun _ => Bool) e h k else false
theorem sBrkE {e : Stmt} {k : Pos -> Bool} {m : Stmt -> Prop} (q : sBrk e k = true) (f : ∀ p,k p = true -> m (.Break p)) : m e := PySem.Stmt.Break.elim (motive_2 := fun e => sBrk e k = true -> m e) e (dnot q) f q
noncomputable def tgName (sc : Sc) (t : PySem.Expr) (i : Nat) : Bool := eName t fun x _ => decide (sc.loc x = some i)
noncomputable def tgNames (sc : Sc) (ts : List PySem.Expr) (is : List Nat) : Bool := List.rec (motive := fun _ => List PySem.Expr -> Bool) (fun l => l.isEmpty) (fun i _ ih l => lcs l fun t r => tgName sc t i && ih r) is ts
noncomputable def tgOf (sc : Sc) (t : PySem.Expr) (tg : List Nat) : Bool := List.casesOn tg false (fun i r => r.isEmpty && tgName sc t i) || eTup t fun es _ _ => decide (2 <= es.length) && tgNames sc es tg
noncomputable def keyOf (k : Option PySem.Expr) (a : List Nat) : Bool := Option.casesOn k false fun e => eConst e fun c _ _ => cS c fun s => decide (a = s.cps.toList)
noncomputable def keysOf (ks : List (Option PySem.Expr)) (as : List (List Nat)) : Bool := List.rec (motive := fun _ => List (Option PySem.Expr) -> Bool) (fun l => l.isEmpty) (fun a _ ih l => lcs l fun k r => keyOf k a && ih r) as ks
noncomputable def dot0 : Str := ".0"
noncomputable def Sc.inner (sc : Sc) (s : Scope) : Sc := { sc with scope := s,locs := (s.names.filter fun x => x.2 == .local && x.1 != dot0).map (·.1) }
noncomputable def innerOk (s : Scope) : Bool := s.kind == .function && s.names.all (fun x => x.2 == .local || x.2 == .globalImplicit) && decide ((s.names.map (·.1)).Nodup)
structure Rels where
  cx : Sc -> PySem.Expr -> Bool
  cand : Sc -> List PySem.Expr -> Bool
  cor : Sc -> List PySem.Expr -> Bool
  cxs : Sc -> List PySem.Expr -> Bool
  n : Bool
  t : Bool
  z : Bool
noncomputable def Rels.mk1 (f : Sc -> PySem.Expr -> Bool) (n t z : Bool := false) : Rels := ⟨f,fun sc l => lone l (f sc),fun sc l => lone l (f sc),fun _ _ => false,n,t,z⟩
noncomputable def Rels.co (x : Rels) (sc : Sc) (o : Option PySem.Expr) : Bool := Option.casesOn o x.n (x.cx sc)
noncomputable def Rels.args (x : Rels) (sc : Sc) (l : List PySem.Expr) : Bool := l.all notStarred && x.cxs sc l
noncomputable def Rels.cif (x : Rels) (sc : Sc) (l : List PySem.Expr) : Bool := List.casesOn l x.t fun a r => List.casesOn r (x.cx sc a) fun _ _ => false
noncomputable def more (f : Sc -> PySem.Expr -> Bool) (g : Sc -> List PySem.Expr -> Bool) (sc : Sc) (l : List PySem.Expr) : Bool := lcs l fun a r => lcs r fun b t => f sc a && g sc (b :: t)
noncomputable def chain (k : Nat) (g : Sc -> List PySem.Expr -> Bool) (sc : Sc) (e : PySem.Expr) : Bool := eBool e fun o l _ => decide (o.ctorIdx = k) && g sc l
noncomputable def bltCk (b : Str) (f : Sc -> PySem.Expr -> Bool) (sc : Sc) (e : PySem.Expr) : Bool := eCall e fun g l w _ => w.isEmpty && eName g fun x _ => decide (x = b /\ sc.isBlt b = true) && lone l fun a => notStarred a && f sc a
noncomputable def methCk (m : Str) (f g : Sc -> PySem.Expr -> Bool) (sc : Sc) (e : PySem.Expr) : Bool := eCall e fun h l w p => w.isEmpty && eAttr h fun o a p' => decide (a = m /\ isCall o = false /\ p'.endLine = p.line) && lone l fun b => notStarred b && (f sc o && g sc b)
noncomputable def rels (x : X) : Rels := X.rec (motive := fun _ => Rels)
  (cNone := .mk1 (fun _ e => eConst e fun c _ _ => decide (c.ctorIdx = 0)) true)
  (cBool := fun b => .mk1 (fun _ e => eConst e fun c _ _ => cB c fun b' => decide (b' = b)) false b)
  (cInt := fun i => .mk1 (fun _ e => eConst e fun c _ _ => cI c fun j => decide (j = i)) false false (decide (i = 0)))
  (cStr := fun w => .mk1 fun _ e => eConst e fun c _ _ => cS c fun s => decide (s.length <= maxLen /\ w = s.cps.toList))
  (loc := fun i => .mk1 fun sc e => eName e fun x _ => decide (sc.loc x = some i /\ sc.scope.names.lookup x = some .local /\ (x == dbg) = false))
  (glob := fun g => .mk1 fun sc e => eName e fun x _ => decide (sc.globs.lookup x = some g /\ sc.isGlob x = true /\ (x == dbg) = false))
  (nil := ⟨fun _ _ => false,fun _ _ => false,fun _ _ => false,fun _ l => l.isEmpty,false,false,false⟩)
  (cons := fun _ _ i j => ⟨fun _ _ => false,fun _ _ => false,fun _ _ => false,fun sc l => lcs l fun a r => i.cx sc a && j.cxs sc r,false,false,false⟩)
  (tup := fun _ i => .mk1 fun sc e => eTup e fun l _ _ => i.args sc l)
  (lst := fun _ i => .mk1 fun sc e => eList e fun l _ => i.args sc l)
  (dct := fun ks _ i => .mk1 fun sc e => eDict e fun l v _ => decide (keysOf l ks = true /\ l.length = v.length) && i.args sc v)
  (attr := fun _ a i => .mk1 fun sc e => eAttr e fun o s _ => decide (isCall o = false /\ a = s.cps.toList) && i.cx sc o)
  (idx := fun _ _ i j => .mk1 fun sc e => eSub e fun a b _ => decide (isSlice b = false) && (i.cx sc a && j.cx sc b))
  (slice := fun _ _ _ i j k => .mk1 fun sc e => eSub e fun a b _ => eSlice b fun lo hi st _ => st.isNone && (i.cx sc a && (j.co sc lo && k.co sc hi)))
  (bin := fun o _ _ i j => .mk1 fun sc e => eBin e fun l op r _ => decide (bopOf op = some o) && (i.cx sc l && j.cx sc r))
  (neg := fun _ i => .mk1 fun sc e => eUn e fun o a _ => decide (o.ctorIdx = 3) && i.cx sc a)
  (not := fun _ i => .mk1 fun sc e => eUn e fun o a _ => decide (o.ctorIdx = 1) && i.cx sc a)
  (and := fun _ _ i j => ⟨chain 0 (more i.cx j.cand),fun sc l => lone l (chain 0 (more i.cx j.cand) sc) || more i.cx j.cand sc l,fun sc l => lone l (chain 0 (more i.cx j.cand) sc),fun _ _ => false,false,false,false⟩)
  (or := fun _ _ i j => ⟨chain 1 (more i.cx j.cor),fun sc l => lone l (chain 1 (more i.cx j.cor) sc),fun sc l => lone l (chain 1 (more i.cx j.cor) sc) || more i.cx j.cor sc l,fun _ _ => false,false,false,false⟩)
  (cmp := fun o _ _ i j => .mk1 fun sc e => eCmp e fun a ops l _ => lone ops fun op => lone l fun b => decide (isSet b = false /\ o = copOf op) && (i.cx sc a && j.cx sc b))
  (cmp2 := fun o u _ _ _ i j k => .mk1 fun sc e => eCmp e fun a ops l _ => lcs ops fun op r => lone r fun op2 => lcs l fun b r2 => lone r2 fun c => decide (isSet b = false /\ isSet c = false /\ o = copOf op /\ u = copOf op2) && (i.cx sc a && (j.cx sc b && k.cx sc c)))
  (ite := fun _ _ _ i j k => .mk1 fun sc e => eIf e fun t a b _ => i.cx sc t && (j.cx sc a && k.cx sc b))
  (call := fun g _ i => .mk1 fun sc e => eCall e fun f l w _ => w.isEmpty && eName f fun n _ => decide (sc.fns.lookup n = some g /\ sc.isGlob n = true /\ (n == dbg) = false /\ l.length <= 20) && i.args sc l)
  (meth := fun _ m _ i j => .mk1 fun sc e => eCall e fun f l w p => w.isEmpty && eAttr f fun o s p' => decide (isCall o = false /\ p'.endLine = p.line /\ l.length <= 20 /\ m = s.cps.toList) && (i.cx sc o && j.args sc l))
  (mk := fun g _ i => .mk1 fun sc e => eCall e fun f l w _ => w.isEmpty && eName f fun n _ => decide (sc.clss.lookup n = some g /\ sc.isGlob n = true /\ (n == dbg) = false /\ l.length <= 20 /\ l.isEmpty = false) && i.args sc l)
  (len := fun _ i => .mk1 (bltCk nLen i.cx))
  (ord := fun _ i => .mk1 (bltCk nOrd i.cx))
  (tupleOf := fun _ i => .mk1 (bltCk nTuple i.cx))
  (append := fun _ _ i j => .mk1 (methCk nAppend i.cx j.cx))
  (extend := fun _ _ i j => .mk1 (methCk nExtend i.cx j.cx))
  (split := fun _ _ i j => .mk1 (methCk nSplit i.cx j.cx))
  (find := fun _ _ i j => .mk1 (methCk nFind i.cx j.cx))
  (lower := fun _ i => .mk1 fun sc e => eCall e fun f l w p => w.isEmpty && eAttr f fun o s p' => decide (s = nLower /\ isCall o = false /\ p'.endLine = p.line /\ l.isEmpty = true) && i.cx sc o)
  (comp := fun n tg _ _ _ i j k => .mk1 fun sc e => eLC e fun a l s _ => lone l fun g => decide (g.is_async = 0 /\ isSet g.iter = false /\ innerOk s = true /\ tgOf (sc.inner s) g.target tg = true /\ n = (sc.inner s).locs.length) && (i.cx sc g.iter && (j.cx (sc.inner s) a && k.cif (sc.inner s) g.ifs)))
  (compE := fun n tg _ _ _ i j k => .mk1 fun sc e => eLC e fun a l s _ => lone l fun g => decide (g.is_async = 0 /\ isTup g.target = true /\ innerOk s = true /\ tgOf (sc.inner s) g.target tg = true /\ n = (sc.inner s).locs.length) && (bltCk nEnum i.cx sc g.iter && (j.cx (sc.inner s) a && k.cif (sc.inner s) g.ifs)))
  x
noncomputable def Cx (sc : Sc) (e : PySem.Expr) (x : X) : Prop := (rels x).cx sc e = true
noncomputable def Cand (sc : Sc) (l : List PySem.Expr) (x : X) : Prop := (rels x).cand sc l = true
noncomputable def Cor (sc : Sc) (l : List PySem.Expr) (x : X) : Prop := (rels x).cor sc l = true
noncomputable def Cxs (sc : Sc) (l : List PySem.Expr) (x : X) : Prop := (rels x).args sc l = true
noncomputable def Co (sc : Sc) (o : Option PySem.Expr) (x : X) : Prop := (rels x).co sc o = true
noncomputable def Cif (sc : Sc) (l : List PySem.Expr) (x : X) : Prop := (rels x).cif sc l = true
structure Sels where
  cs : Sc -> Stmt -> Bool
  css : Sc -> List Stmt -> Bool
noncomputable def Sels.mk1 (f : Sc -> Stmt -> Bool) : Sels := ⟨f,fun sc l => lone l (f sc)⟩
noncomputable def rngCk (w x : Rels) (sc : Sc) (e : PySem.Expr) : Bool := eCall e fun f l k _ => k.isEmpty && eName f fun n _ => decide (n = nRange /\ sc.isBlt nRange = true) &&
  (lone l (fun b => notStarred b && (w.z && x.cx sc b)) || lcs l fun a r => lone r fun b => notStarred a && (notStarred b && (w.cx sc a && x.cx sc b)))
noncomputable def sels (c : S) : Sels := S.rec (motive := fun _ => Sels)
  (skip := ⟨fun _ _ => false,fun _ l => l.isEmpty⟩)
  (seq := fun _ _ i j => ⟨fun _ _ => false,fun sc l => lcs l fun a r => i.cs sc a && j.css sc r⟩)
  (asg := fun i x => .mk1 fun sc s => sAsg s fun l e _ => lone l fun t => eName t fun y _ => decide (sc.loc y = some i /\ sc.scope.names.lookup y = some .local /\ isList e = false /\ isComp e = false) && (rels x).cx sc e)
  (asgT := fun is x => .mk1 fun sc s => sAsg s fun l e _ => lone l fun t => eTup t fun us _ _ => decide (tgNames sc us is = true /\ 2 <= us.length /\ (isTup e = false \/ foldedForSure 9 e = true) /\ isComp e = false) && (rels x).cx sc e)
  (asgNew := fun i x => .mk1 fun sc s => sAsg s fun l e _ => lone l fun t => eName t fun y _ => eList e fun es _ => decide (sc.loc y = some i /\ sc.scope.names.lookup y = some .local) && (rels x).args sc es)
  (aug := fun i o x => .mk1 fun sc s => sAug s fun t op e _ => eName t fun y _ => decide (sc.loc y = some i /\ sc.scope.names.lookup y = some .local /\ bopOf op = some o) && (rels x).cx sc e)
  (setA := fun x a y => .mk1 fun sc s => sAsg s fun l e _ => lone l fun t => eAttr t fun o b _ => decide (isComp e = false /\ a = b.cps.toList) && ((rels x).cx sc o && (rels y).cx sc e))
  (augA := fun x a b y => .mk1 fun sc s => sAug s fun t op e _ => eAttr t fun o n _ => decide (bopOf op = some b /\ a = n.cps.toList) && ((rels x).cx sc o && (rels y).cx sc e))
  (setI := fun x y z => .mk1 fun sc s => sAsg s fun l e _ => lone l fun t => eSub t fun o i _ => decide (isSlice i = false /\ isComp e = false) && ((rels x).cx sc o && ((rels y).cx sc i && (rels z).cx sc e)))
  (ex := fun x => .mk1 fun sc s => sEx s fun e _ => decide (isComp e = false) && (rels x).cx sc e)
  (iff := fun x _ _ i j => .mk1 fun sc s => sIf s fun t a b _ => (rels x).cx sc t && (i.css sc a && j.css sc b))
  (whl := fun x _ i => .mk1 fun sc s => sWhl s fun t b r _ => r.isEmpty && ((rels x).cx sc t && i.css sc b))
  (forr := fun tg x _ i => .mk1 fun sc s => sFor s fun t e b r _ => r.isEmpty && (decide (tgOf sc t tg = true /\ isSet e = false) && ((rels x).cx sc e && i.css sc b)))
  (forR := fun tg w x _ i => .mk1 fun sc s => sFor s fun t e b r _ => r.isEmpty && (decide (tgOf sc t tg = true /\ isName t = true) && (rngCk (rels w) (rels x) sc e && i.css sc b)))
  (ret := fun x => .mk1 fun sc s => sRet s fun v _ => Option.casesOn v false ((rels x).cx sc))
  (brk := .mk1 fun _ s => sBrk s fun _ => true)
  (tr := fun _ i => .mk1 fun sc s => sTry s fun b _ r1 r2 _ => r1.isEmpty && (r2.isEmpty && i.css sc b))
  (bad := .mk1 fun _ _ => true)
  c
noncomputable def Cs (sc : Sc) (s : Stmt) (c : S) : Prop := (sels c).cs sc s = true
noncomputable def Css (sc : Sc) (l : List Stmt) (c : S) : Prop := (sels c).css sc l = true
theorem ite_some {α : Type} {c : Prop} [Decidable c] {a : Option α} {r : α} (h : (if c then a else none) = some r) : c /\ a = some r := by
  by_cases q : c
  · rw [if_pos q] at h; exact ⟨q,h⟩
  · rw [if_neg q] at h; cases h
theorem bind_some {α β : Type} {m : Option α} {f : α -> Option β} {r : β} (h : (m >>= f) = some r) : ∃ a,m = some a /\ f a = some r := Option.bind_eq_some_iff.mp h
theorem map_some {α β : Type} {m : Option α} {f : α -> β} {r : β} (h : m.map f = some r) : ∃ a,m = some a /\ f a = r := Option.map_eq_some_iff.mp h
theorem moreE {f : Sc -> PySem.Expr -> Bool} {g : Sc -> List PySem.Expr -> Bool} {sc : Sc} {l : List PySem.Expr} {m : List PySem.Expr -> Prop} (q : more f g sc l = true) (k : ∀ a b r,f sc a = true -> g sc (b :: r) = true -> m (a :: b :: r)) : m l :=
  lcsE q fun a r h => lcsE (m := fun r => m (a :: r)) h fun b r h => andE h fun h h' => k a b r h h'
theorem bltE {b : Str} {f : Sc -> PySem.Expr -> Bool} {sc : Sc} {e : PySem.Expr} {m : PySem.Expr -> Prop} (q : bltCk b f sc e = true) (k : ∀ {a p p'},sc.isBlt b = true -> f sc a = true -> notStarred a = true -> m (.Call (.Name b p') [a] [] p)) : m e :=
  eCallE q fun g l w p h => andE h fun h c => empE (m := fun w => m (.Call g l w p)) h (eNameE (m := fun g => m (.Call g l [] p)) c fun n p' h => andE h fun h c => loneE (m := fun l => m (.Call (.Name n p') l [] p)) c fun a c => andE c fun c d => (of_decide_eq_true h).1 ▸ k (of_decide_eq_true h).2 d c)
theorem methE {b : Str} {f g : Sc -> PySem.Expr -> Bool} {sc : Sc} {e : PySem.Expr} {m : PySem.Expr -> Prop} (q : methCk b f g sc e = true) (k : ∀ {o a p p'},f sc o = true -> g sc a = true -> notStarred a = true -> isCall o = false -> p'.endLine = p.line -> m (.Call (.Attribute o b p') [a] [] p)) : m e :=
  eCallE q fun g l w p h => andE h fun h c => empE (m := fun w => m (.Call g l w p)) h (eAttrE (m := fun g => m (.Call g l [] p)) c fun o n p' h => andE h fun h c => loneE (m := fun l => m (.Call (.Attribute o n p') l [] p)) c fun a c => andE c fun c d => andE d fun d e => (of_decide_eq_true h).1 ▸ k d e c (of_decide_eq_true h).2.1 (of_decide_eq_true h).2.2)
@[elab_as_elim] theorem i_cNone {sc : Sc} {ee : PySem.Expr} {motive : PySem.Expr -> Prop} (q : Cx sc ee (.cNone )) (f : ∀ {k p},motive (.Constant .none k p)) : motive ee := eConstE q fun c k p h => Const.none.elim (motive := fun c => motive (.Constant c k p)) c (of_decide_eq_true h) f
@[elab_as_elim] theorem i_cBool {sc : Sc} {ee : PySem.Expr} {b} {motive : PySem.Expr -> Prop} (q : Cx sc ee (.cBool b)) (f : ∀ {k p},motive (.Constant (.bool b) k p)) : motive ee := eConstE q fun c k p h => cBE (m := fun c => motive (.Constant c k p)) h fun b' h => of_decide_eq_true h ▸ f
@[elab_as_elim] theorem i_cInt {sc : Sc} {ee : PySem.Expr} {i} {motive : PySem.Expr -> Prop} (q : Cx sc ee (.cInt i)) (f : ∀ {k p},motive (.Constant (.int i) k p)) : motive ee := eConstE q fun c k p h => cIE (m := fun c => motive (.Constant c k p)) h fun b' h => of_decide_eq_true h ▸ f
@[elab_as_elim] theorem i_cStr {sc : Sc} {ee : PySem.Expr} {ww0} {motive : PySem.Expr -> Prop} (q : Cx sc ee (.cStr ww0)) (f : ∀ {s k p},s.length <= maxLen -> ww0 = s.cps.toList -> motive (.Constant (.str s) k p)) : motive ee := eConstE q fun c k p h => cSE (m := fun c => motive (.Constant c k p)) h fun s h => f (of_decide_eq_true h).1 (of_decide_eq_true h).2
@[elab_as_elim] theorem i_loc {sc : Sc} {ee : PySem.Expr} {i} {motive : PySem.Expr -> Prop} (q : Cx sc ee (.loc i)) (f : ∀ {x p},sc.loc x = some i -> sc.scope.names.lookup x = some .local -> (x == dbg) = false -> motive (.Name x p)) : motive ee := eNameE q fun x p h => f (of_decide_eq_true h).1 (of_decide_eq_true h).2.1 (of_decide_eq_true h).2.2
@[elab_as_elim] theorem i_glob {sc : Sc} {ee : PySem.Expr} {g} {motive : PySem.Expr -> Prop} (q : Cx sc ee (.glob g)) (f : ∀ {x p},sc.globs.lookup x = some g -> sc.isGlob x = true -> (x == dbg) = false -> motive (.Name x p)) : motive ee := eNameE q fun x p h => f (of_decide_eq_true h).1 (of_decide_eq_true h).2.1 (of_decide_eq_true h).2.2
@[elab_as_elim] theorem i_and {sc : Sc} {ee : PySem.Expr} {x y} {motive : PySem.Expr -> Prop} (q : Cx sc ee (.and x y)) (f : ∀ {a b r p},Cx sc a x -> Cand sc (b :: r) y -> motive (.BoolOp .And (a :: b :: r) p)) : motive ee := eBoolE q fun o l p h => andE h fun h k => PySem.BoolOp.And.elim (motive := fun o => motive (.BoolOp o l p)) o (of_decide_eq_true h) (moreE (m := fun l => motive (.BoolOp .And l p)) k fun a b r k l => f k l)
@[elab_as_elim] theorem i_or {sc : Sc} {ee : PySem.Expr} {x y} {motive : PySem.Expr -> Prop} (q : Cx sc ee (.or x y)) (f : ∀ {a b r p},Cx sc a x -> Cor sc (b :: r) y -> motive (.BoolOp .Or (a :: b :: r) p)) : motive ee := eBoolE q fun o l p h => andE h fun h k => PySem.BoolOp.Or.elim (motive := fun o => motive (.BoolOp o l p)) o (of_decide_eq_true h) (moreE (m := fun l => motive (.BoolOp .Or l p)) k fun a b r k l => f k l)
@[elab_as_elim] theorem i_bin {sc : Sc} {ee : PySem.Expr} {o x y} {motive : PySem.Expr -> Prop} (q : Cx sc ee (.bin o x y)) (f : ∀ {l op r p},bopOf op = some o -> Cx sc l x -> Cx sc r y -> motive (.BinOp l op r p)) : motive ee := eBinE q fun l o r p h => andE h fun h k => andE k fun k l => f (of_decide_eq_true h) k l
@[elab_as_elim] theorem i_not {sc : Sc} {ee : PySem.Expr} {x} {motive : PySem.Expr -> Prop} (q : Cx sc ee (.not x)) (f : ∀ {e p},Cx sc e x -> motive (.UnaryOp .Not e p)) : motive ee := eUnE q fun o a p h => andE h fun h k => PySem.UnaryOp.Not.elim (motive := fun o => motive (.UnaryOp o a p)) o (of_decide_eq_true h) (f k)
@[elab_as_elim] theorem i_neg {sc : Sc} {ee : PySem.Expr} {x} {motive : PySem.Expr -> Prop} (q : Cx sc ee (.neg x)) (f : ∀ {e p},Cx sc e x -> motive (.UnaryOp .USub e p)) : motive ee := eUnE q fun o a p h => andE h fun h k => PySem.UnaryOp.USub.elim (motive := fun o => motive (.UnaryOp o a p)) o (of_decide_eq_true h) (f k)
@[elab_as_elim] theorem i_ite {sc : Sc} {ee : PySem.Expr} {x y z} {motive : PySem.Expr -> Prop} (q : Cx sc ee (.ite x y z)) (f : ∀ {t a b p},Cx sc t x -> Cx sc a y -> Cx sc b z -> motive (.IfExp t a b p)) : motive ee := eIfE q fun t a b p h => andE h fun h k => andE k fun k l => f h k l
@[elab_as_elim] theorem i_dct {sc : Sc} {ee : PySem.Expr} {kk xs} {motive : PySem.Expr -> Prop} (q : Cx sc ee (.dct kk xs)) (f : ∀ {ks vs p},keysOf ks kk = true -> Cxs sc vs xs -> ks.length = vs.length -> motive (.Dict ks vs p)) : motive ee := eDictE q fun l v p h => andE h fun h k => f (of_decide_eq_true h).1 k (of_decide_eq_true h).2
@[elab_as_elim] theorem i_lst {sc : Sc} {ee : PySem.Expr} {xs} {motive : PySem.Expr -> Prop} (q : Cx sc ee (.lst xs)) (f : ∀ {es p},Cxs sc es xs -> motive (.List es p)) : motive ee := eListE q fun l p h => f h
@[elab_as_elim] theorem i_tup {sc : Sc} {ee : PySem.Expr} {xs} {motive : PySem.Expr -> Prop} (q : Cx sc ee (.tup xs)) (f : ∀ {es k p},Cxs sc es xs -> motive (.Tuple es k p)) : motive ee := eTupE q fun l n p h => f h
@[elab_as_elim] theorem i_cmp {sc : Sc} {ee : PySem.Expr} {ww0 x y} {motive : PySem.Expr -> Prop} (q : Cx sc ee (.cmp ww0 x y)) (f : ∀ {l op r p},Cx sc l x -> Cx sc r y -> isSet r = false -> ww0 = (copOf op) -> motive (.Compare l [op] [r] p)) : motive ee := eCmpE q fun a o l p h => loneE (m := fun o => motive (.Compare a o l p)) h fun op h => loneE (m := fun l => motive (.Compare a [op] l p)) h fun b h => andE h fun h k => andE k fun k l => f k l (of_decide_eq_true h).1 (of_decide_eq_true h).2
@[elab_as_elim] theorem i_cmp2 {sc : Sc} {ee : PySem.Expr} {ww0 ww1 x y z} {motive : PySem.Expr -> Prop} (q : Cx sc ee (.cmp2 ww0 ww1 x y z)) (f : ∀ {l op1 op2 m r p},Cx sc l x -> Cx sc m y -> Cx sc r z -> isSet m = false -> isSet r = false -> ww0 = (copOf op1) -> ww1 = (copOf op2) -> motive (.Compare l [op1,op2] [m,r] p)) : motive ee := eCmpE q fun a o l p h => lcsE (m := fun o => motive (.Compare a o l p)) h fun op r h => loneE (m := fun r => motive (.Compare a (op :: r) l p)) h fun op2 h => lcsE (m := fun l => motive (.Compare a [op,op2] l p)) h fun b r h => loneE (m := fun r => motive (.Compare a [op,op2] (b :: r) p)) h fun c h => andE h fun h k => andE k fun k l => andE l fun l m => have d := of_decide_eq_true h; f k l m d.1 d.2.1 d.2.2.1 d.2.2.2
@[elab_as_elim] theorem i_call {sc : Sc} {ee : PySem.Expr} {g xs} {motive : PySem.Expr -> Prop} (q : Cx sc ee (.call g xs)) (f : ∀ {f args p p'},sc.fns.lookup f = some g -> sc.isGlob f = true -> (f == dbg) = false -> args.length <= 20 -> Cxs sc args xs -> motive (.Call (.Name f p') args [] p)) : motive ee := eCallE q fun g l w p h => andE h fun h k => empE (m := fun w => motive (.Call g l w p)) h (eNameE (m := fun g => motive (.Call g l [] p)) k fun n p' h => andE h fun h k => have d := of_decide_eq_true h; f d.1 d.2.1 d.2.2.1 d.2.2.2 k)
@[elab_as_elim] theorem i_mk {sc : Sc} {ee : PySem.Expr} {g xs} {motive : PySem.Expr -> Prop} (q : Cx sc ee (.mk g xs)) (f : ∀ {f args p p'},sc.clss.lookup f = some g -> sc.isGlob f = true -> (f == dbg) = false -> args.length <= 20 -> args ≠ [] -> Cxs sc args xs -> motive (.Call (.Name f p') args [] p)) : motive ee := eCallE q fun g l w p h => andE h fun h k => empE (m := fun w => motive (.Call g l w p)) h (eNameE (m := fun g => motive (.Call g l [] p)) k fun n p' h => andE h fun h k => have d := of_decide_eq_true h; f d.1 d.2.1 d.2.2.1 d.2.2.2.1 (fun z => by rw [z] at d; cases d.2.2.2.2) k)
@[elab_as_elim] theorem i_len {sc : Sc} {ee : PySem.Expr} {x} {motive : PySem.Expr -> Prop} (q : Cx sc ee (.len x)) (f : ∀ {e p p'},sc.isBlt nLen = true -> Cx sc e x -> notStarred e = true -> motive (.Call (.Name nLen p') [e] [] p)) : motive ee := bltE q f
@[elab_as_elim] theorem i_ord {sc : Sc} {ee : PySem.Expr} {x} {motive : PySem.Expr -> Prop} (q : Cx sc ee (.ord x)) (f : ∀ {e p p'},sc.isBlt nOrd = true -> Cx sc e x -> notStarred e = true -> motive (.Call (.Name nOrd p') [e] [] p)) : motive ee := bltE q f
@[elab_as_elim] theorem i_tupleOf {sc : Sc} {ee : PySem.Expr} {x} {motive : PySem.Expr -> Prop} (q : Cx sc ee (.tupleOf x)) (f : ∀ {e p p'},sc.isBlt nTuple = true -> Cx sc e x -> notStarred e = true -> motive (.Call (.Name nTuple p') [e] [] p)) : motive ee := bltE q f
@[elab_as_elim] theorem i_append {sc : Sc} {ee : PySem.Expr} {x y} {motive : PySem.Expr -> Prop} (q : Cx sc ee (.append x y)) (f : ∀ {o e p p'},Cx sc o x -> Cx sc e y -> notStarred e = true -> isCall o = false -> p'.endLine = p.line -> motive (.Call (.Attribute o nAppend p') [e] [] p)) : motive ee := methE q f
@[elab_as_elim] theorem i_extend {sc : Sc} {ee : PySem.Expr} {x y} {motive : PySem.Expr -> Prop} (q : Cx sc ee (.extend x y)) (f : ∀ {o e p p'},Cx sc o x -> Cx sc e y -> notStarred e = true -> isCall o = false -> p'.endLine = p.line -> motive (.Call (.Attribute o nExtend p') [e] [] p)) : motive ee := methE q f
@[elab_as_elim] theorem i_split {sc : Sc} {ee : PySem.Expr} {x y} {motive : PySem.Expr -> Prop} (q : Cx sc ee (.split x y)) (f : ∀ {o e p p'},Cx sc o x -> Cx sc e y -> notStarred e = true -> isCall o = false -> p'.endLine = p.line -> motive (.Call (.Attribute o nSplit p') [e] [] p)) : motive ee := methE q f
@[elab_as_elim] theorem i_find {sc : Sc} {ee : PySem.Expr} {x y} {motive : PySem.Expr -> Prop} (q : Cx sc ee (.find x y)) (f : ∀ {o e p p'},Cx sc o x -> Cx sc e y -> notStarred e = true -> isCall o = false -> p'.endLine = p.line -> motive (.Call (.Attribute o nFind p') [e] [] p)) : motive ee := methE q f
@[elab_as_elim] theorem i_lower {sc : Sc} {ee : PySem.Expr} {x} {motive : PySem.Expr -> Prop} (q : Cx sc ee (.lower x)) (f : ∀ {o p p'},Cx sc o x -> isCall o = false -> p'.endLine = p.line -> motive (.Call (.Attribute o nLower p') [] [] p)) : motive ee := eCallE q fun g l w p h => andE h fun h k => empE (m := fun w => motive (.Call g l w p)) h (eAttrE (m := fun g => motive (.Call g l [] p)) k fun o s p' h => andE h fun h k => have d := of_decide_eq_true h; empE (m := fun l => motive (.Call (.Attribute o s p') l [] p)) d.2.2.2 (d.1 ▸ f k d.2.1 d.2.2.1))
@[elab_as_elim] theorem i_meth {sc : Sc} {ee : PySem.Expr} {x ww1 xs} {motive : PySem.Expr -> Prop} (q : Cx sc ee (.meth x ww1 xs)) (f : ∀ {o m args p p'},Cx sc o x -> Cxs sc args xs -> isCall o = false -> p'.endLine = p.line -> args.length <= 20 -> ww1 = m.cps.toList -> motive (.Call (.Attribute o m p') args [] p)) : motive ee := eCallE q fun g l w p h => andE h fun h k => empE (m := fun w => motive (.Call g l w p)) h (eAttrE (m := fun g => motive (.Call g l [] p)) k fun o s p' h => andE h fun h k => andE k fun k l => have d := of_decide_eq_true h; f k l d.1 d.2.1 d.2.2.1 d.2.2.2)
@[elab_as_elim] theorem i_attr {sc : Sc} {ee : PySem.Expr} {x ww1} {motive : PySem.Expr -> Prop} (q : Cx sc ee (.attr x ww1)) (f : ∀ {o a p},Cx sc o x -> isCall o = false -> ww1 = a.cps.toList -> motive (.Attribute o a p)) : motive ee := eAttrE q fun o s p h => andE h fun h k => f k (of_decide_eq_true h).1 (of_decide_eq_true h).2
@[elab_as_elim] theorem i_idx {sc : Sc} {ee : PySem.Expr} {x y} {motive : PySem.Expr -> Prop} (q : Cx sc ee (.idx x y)) (f : ∀ {e i p},Cx sc e x -> Cx sc i y -> isSlice i = false -> motive (.Subscript e i p)) : motive ee := eSubE q fun a b p h => andE h fun h k => andE k fun k l => f k l (of_decide_eq_true h)
@[elab_as_elim] theorem i_slice {sc : Sc} {ee : PySem.Expr} {x y z} {motive : PySem.Expr -> Prop} (q : Cx sc ee (.slice x y z)) (f : ∀ {e lo hi p p'},Cx sc e x -> Co sc lo y -> Co sc hi z -> motive (.Subscript e (.Slice lo hi none p') p)) : motive ee := eSubE q fun a b p h => eSliceE (m := fun b => motive (.Subscript a b p)) h fun lo hi st p' h => andE h fun h k => andE k fun k l => andE l fun l m => by cases st; exact f k l m; cases h
@[elab_as_elim] theorem i_comp {sc : Sc} {ee : PySem.Expr} {ww0 tgs x y z} {motive : PySem.Expr -> Prop} (q : Cx sc ee (.comp ww0 tgs x y z)) (f : ∀ {elt tg it ifs s p},Cx sc it x -> isSet it = false -> innerOk s = true -> tgOf (sc.inner s) tg tgs = true -> Cx (sc.inner s) elt y -> Cif (sc.inner s) ifs z -> ww0 = (sc.inner s).locs.length -> motive (.ListComp elt [⟨tg,it,ifs,0⟩] s p)) : motive ee := eLCE q fun a l s p h => loneE (m := fun l => motive (.ListComp a l s p)) h fun g h => andE h fun h k => andE k fun k1 k2 => andE k2 fun k3 k4 => by
  obtain ⟨t,i,ifs,as⟩ := g
  have d := of_decide_eq_true h
  obtain rfl : as = 0 := d.1
  exact f k1 d.2.1 d.2.2.1 d.2.2.2.1 k3 k4 d.2.2.2.2
@[elab_as_elim] theorem i_compE {sc : Sc} {ee : PySem.Expr} {ww0 tgs x y z} {motive : PySem.Expr -> Prop} (q : Cx sc ee (.compE ww0 tgs x y z)) (f : ∀ {elt tg a ifs s p p' p''},sc.isBlt nEnum = true -> Cx sc a x -> notStarred a = true -> innerOk s = true -> isTup tg = true -> tgOf (sc.inner s) tg tgs = true -> Cx (sc.inner s) elt y -> Cif (sc.inner s) ifs z -> ww0 = (sc.inner s).locs.length -> motive (.ListComp elt [⟨tg,.Call (.Name nEnum p') [a] [] p'',ifs,0⟩] s p)) : motive ee := eLCE q fun a l s p h => loneE (m := fun l => motive (.ListComp a l s p)) h fun g h => andE h fun h k => andE k fun k1 k2 => andE k2 fun k3 k4 => by
  obtain ⟨t,i,ifs,as⟩ := g
  have d := of_decide_eq_true h
  obtain rfl : as = 0 := d.1
  exact bltE (m := fun i => motive (.ListComp a [⟨t,i,ifs,0⟩] s p)) k1 fun h1 h2 h3 => f h1 h2 h3 d.2.2.1 d.2.1 d.2.2.2.1 k3 k4 d.2.2.2.2
@[elab_as_elim] theorem i_asg {sc : Sc} {ee : Stmt} {i x} {motive : Stmt -> Prop} (q : Cs sc ee (.asg i x)) (f : ∀ {y p' e p},sc.loc y = some i -> sc.scope.names.lookup y = some .local -> (∀ es q,e ≠ .List es q) -> isComp e = false -> Cx sc e x -> motive (.Assign [.Name y p'] e p)) : motive ee := sAsgE q fun l e p h => loneE (m := fun l => motive (.Assign l e p)) h fun t h => eNameE (m := fun t => motive (.Assign [t] e p)) h fun y p' h => andE h fun h k => have d := of_decide_eq_true h; f d.1 d.2.1 (fun es q z => by rw [z] at d; cases d.2.2.1) d.2.2.2 k
@[elab_as_elim] theorem i_asgNew {sc : Sc} {ee : Stmt} {i xs} {motive : Stmt -> Prop} (q : Cs sc ee (.asgNew i xs)) (f : ∀ {y p' es q p},sc.loc y = some i -> sc.scope.names.lookup y = some .local -> Cxs sc es xs -> motive (.Assign [.Name y p'] (.List es q) p)) : motive ee := sAsgE q fun l e p h => loneE (m := fun l => motive (.Assign l e p)) h fun t h => eNameE (m := fun t => motive (.Assign [t] e p)) h fun y p' h => eListE (m := fun e => motive (.Assign [.Name y p'] e p)) h fun es p'' h => andE h fun h k => have d := of_decide_eq_true h; f d.1 d.2 k
@[elab_as_elim] theorem i_asgT {sc : Sc} {ee : Stmt} {is x} {motive : Stmt -> Prop} (q : Cs sc ee (.asgT is x)) (f : ∀ {ts k p' e p},tgNames sc ts is = true -> 2 <= ts.length -> (isTup e = false \/ foldedForSure 9 e = true) -> isComp e = false -> Cx sc e x -> motive (.Assign [.Tuple ts k p'] e p)) : motive ee := sAsgE q fun l e p h => loneE (m := fun l => motive (.Assign l e p)) h fun t h => eTupE (m := fun t => motive (.Assign [t] e p)) h fun y n p' h => andE h fun h k => have d := of_decide_eq_true h; f d.1 d.2.1 d.2.2.1 d.2.2.2 k
@[elab_as_elim] theorem i_aug {sc : Sc} {ee : Stmt} {i o x} {motive : Stmt -> Prop} (q : Cs sc ee (.aug i o x)) (f : ∀ {y p' op e p},sc.loc y = some i -> sc.scope.names.lookup y = some .local -> bopOf op = some o -> Cx sc e x -> motive (.AugAssign (.Name y p') op e p)) : motive ee := sAugE q fun t o e p h => eNameE (m := fun t => motive (.AugAssign t o e p)) h fun y p' h => andE h fun h k => have d := of_decide_eq_true h; f d.1 d.2.1 d.2.2 k
@[elab_as_elim] theorem i_setA {sc : Sc} {ee : Stmt} {x ww1 y} {motive : Stmt -> Prop} (q : Cs sc ee (.setA x ww1 y)) (f : ∀ {o a p' e p},Cx sc o x -> Cx sc e y -> isComp e = false -> ww1 = a.cps.toList -> motive (.Assign [.Attribute o a p'] e p)) : motive ee := sAsgE q fun l e p h => loneE (m := fun l => motive (.Assign l e p)) h fun t h => eAttrE (m := fun t => motive (.Assign [t] e p)) h fun o a p' h => andE h fun h k => andE k fun k l => f k l (of_decide_eq_true h).1 (of_decide_eq_true h).2
@[elab_as_elim] theorem i_augA {sc : Sc} {ee : Stmt} {x ww1 b y} {motive : Stmt -> Prop} (q : Cs sc ee (.augA x ww1 b y)) (f : ∀ {o a p' op e p},Cx sc o x -> Cx sc e y -> bopOf op = some b -> ww1 = a.cps.toList -> motive (.AugAssign (.Attribute o a p') op e p)) : motive ee := sAugE q fun t o e p h => eAttrE (m := fun t => motive (.AugAssign t o e p)) h fun o a p' h => andE h fun h k => andE k fun k l => f k l (of_decide_eq_true h).1 (of_decide_eq_true h).2
@[elab_as_elim] theorem i_setI {sc : Sc} {ee : Stmt} {x y z} {motive : Stmt -> Prop} (q : Cs sc ee (.setI x y z)) (f : ∀ {o i p' e p},Cx sc o x -> Cx sc i y -> Cx sc e z -> isSlice i = false -> isComp e = false -> motive (.Assign [.Subscript o i p'] e p)) : motive ee := sAsgE q fun l e p h => loneE (m := fun l => motive (.Assign l e p)) h fun t h => eSubE (m := fun t => motive (.Assign [t] e p)) h fun o i p' h => andE h fun h k => andE k fun k l => andE l fun l m => f k l m (of_decide_eq_true h).1 (of_decide_eq_true h).2
@[elab_as_elim] theorem i_ex {sc : Sc} {ee : Stmt} {x} {motive : Stmt -> Prop} (q : Cs sc ee (.ex x)) (f : ∀ {e p},Cx sc e x -> isComp e = false -> motive (.Expr e p)) : motive ee := sExE q fun e p h => andE h fun h k => f k (of_decide_eq_true h)
@[elab_as_elim] theorem i_iff {sc : Sc} {ee : Stmt} {x y z} {motive : Stmt -> Prop} (q : Cs sc ee (.iff x y z)) (f : ∀ {t a b p},Cx sc t x -> Css sc a y -> Css sc b z -> motive (.If t a b p)) : motive ee := sIfE q fun t a b p h => andE h fun h k => andE k fun k l => f h k l
@[elab_as_elim] theorem i_whl {sc : Sc} {ee : Stmt} {x y} {motive : Stmt -> Prop} (q : Cs sc ee (.whl x y)) (f : ∀ {t b p},Cx sc t x -> Css sc b y -> motive (.While t b [] p)) : motive ee := sWhlE q fun t b r p h => andE h fun h k => empE (m := fun r => motive (.While t b r p)) h (andE k fun k l => f k l)
@[elab_as_elim] theorem i_forr {sc : Sc} {ee : Stmt} {tgs x y} {motive : Stmt -> Prop} (q : Cs sc ee (.forr tgs x y)) (f : ∀ {tg it b p},tgOf sc tg tgs = true -> Cx sc it x -> isSet it = false -> Css sc b y -> motive (.For tg it b [] p)) : motive ee := sForE q fun t e b r p h => andE h fun h k => empE (m := fun r => motive (.For t e b r p)) h (andE k fun h k => andE k fun k l => f (of_decide_eq_true h).1 k (of_decide_eq_true h).2 l)
@[elab_as_elim] theorem i_ret {sc : Sc} {ee : Stmt} {x} {motive : Stmt -> Prop} (q : Cs sc ee (.ret x)) (f : ∀ {e p},Cx sc e x -> motive (.Return (some e) p)) : motive ee := sRetE q fun v p h => by cases v; cases h; exact f h
@[elab_as_elim] theorem i_brk {sc : Sc} {ee : Stmt} {motive : Stmt -> Prop} (q : Cs sc ee (.brk )) (f : ∀ {p},motive (.Break p)) : motive ee := sBrkE q fun p h => f
@[elab_as_elim] theorem i_tr {sc : Sc} {ee : Stmt} {x} {motive : Stmt -> Prop} (q : Cs sc ee (.tr x)) (f : ∀ {b hs p},Css sc b x -> motive (.Try b hs [] [] p)) : motive ee := sTryE q fun b hs r s p h => andE h fun h k => andE k fun k l => empE (m := fun r => motive (.Try b hs r s p)) h (empE (m := fun s => motive (.Try b hs [] s p)) k (f l))
@[elab_as_elim] theorem i_forR {sc : Sc} {ee : Stmt} {tgs w x y} {motive : Stmt -> Prop} (q : Cs sc ee (.forR tgs w x y)) (f : ∀ {tg hi b p p' p''},sc.isBlt nRange = true -> tgOf sc tg tgs = true -> isName tg = true -> Cx sc hi x -> notStarred hi = true -> Css sc b y -> (rels w).z = true -> motive (.For tg (.Call (.Name nRange p') [hi] [] p'') b [] p))
    (g : ∀ {tg lo hi b p p' p''},sc.isBlt nRange = true -> tgOf sc tg tgs = true -> isName tg = true -> Cx sc lo w -> Cx sc hi x -> notStarred lo = true -> notStarred hi = true -> Css sc b y -> motive (.For tg (.Call (.Name nRange p') [lo,hi] [] p'') b [] p)) : motive ee :=
  sForE q fun t e b r p h => andE h fun h k => empE (m := fun r => motive (.For t e b r p)) h (andE k fun h k => andE k fun k l => have d := of_decide_eq_true h
    eCallE (m := fun e => motive (.For t e b [] p)) k fun c l' w' p'' h => andE h fun h k => empE (m := fun w' => motive (.For t (.Call c l' w' p'') b [] p)) h (eNameE (m := fun c => motive (.For t (.Call c l' [] p'') b [] p)) k fun n p' h => andE h fun h k => by
      have e := of_decide_eq_true h
      obtain rfl := e.1
      refine (Bool.or_eq_true_iff.mp k).elim (fun k => loneE (m := fun l' => motive (.For t (.Call (.Name nRange p') l' [] p'') b [] p)) k fun u k => andE k fun k k' => andE k' fun k' k'' => f e.2 d.1 d.2 k'' k l k') fun k => ?_
      exact lcsE (m := fun l' => motive (.For t (.Call (.Name nRange p') l' [] p'') b [] p)) k fun u r k => loneE (m := fun r => motive (.For t (.Call (.Name nRange p') (u :: r) [] p'') b [] p)) k fun v k => andE k fun k1 k => andE k fun k2 k => andE k fun k3 k4 => g e.2 d.1 d.2 k3 k4 k1 k2 l))
theorem n_of {x : X} : (rels x).n = true -> x = .cNone := by cases x <;> first | exact fun _ => rfl | exact fun h => absurd h Bool.false_ne_true
theorem t_of {x : X} : (rels x).t = true -> x = .cBool true := by cases x <;> first | exact fun h => congrArg X.cBool h | exact fun h => absurd h Bool.false_ne_true
theorem z_of {x : X} : (rels x).z = true -> x = .cInt 0 := by cases x <;> first | exact fun h => congrArg X.cInt (of_decide_eq_true h) | exact fun h => absurd h Bool.false_ne_true
theorem Cxs.all {sc : Sc} {l : List PySem.Expr} {x : X} (q : Cxs sc l x) : l.all notStarred = true := (Bool.and_eq_true_iff.mp q).1
@[elab_as_elim] theorem i_nil {sc : Sc} {l : List PySem.Expr} {m : List PySem.Expr -> Prop} (q : Cxs sc l .nil) (f : m []) : m l := andE q fun _ h => empE h f
@[elab_as_elim] theorem i_cons {sc : Sc} {l : List PySem.Expr} {x y : X} {m : List PySem.Expr -> Prop} (q : Cxs sc l (.cons x y)) (f : ∀ {e r},Cx sc e x -> notStarred e = true -> Cxs sc r y -> m (e :: r)) : m l := by
  cases l with
  | nil => cases q
  | cons e r => exact andE q fun h k => andE h fun h1 h2 => andE k fun k l => f k h1 (Bool.and_eq_true_iff.mpr ⟨h2,l⟩)
@[elab_as_elim] theorem i_co {sc : Sc} {o : Option PySem.Expr} {x : X} {m : Option PySem.Expr -> Prop} (q : Co sc o x) (f : x = .cNone -> m none) (g : ∀ e,Cx sc e x -> m (some e)) : m o := by
  cases o with
  | none => exact f (n_of q)
  | some e => exact g e q
@[elab_as_elim] theorem i_cif {sc : Sc} {o : List PySem.Expr} {x : X} {m : List PySem.Expr -> Prop} (q : Cif sc o x) (f : x = .cBool true -> m []) (g : ∀ e,Cx sc e x -> m [e]) : m o := by
  cases o with
  | nil => exact f (t_of q)
  | cons e r => cases r; exact g e q; cases q
@[elab_as_elim] theorem i_candA {sc : Sc} {l : List PySem.Expr} {x y : X} {m : List PySem.Expr -> Prop} (q : Cand sc l (.and x y)) (f : ∀ a,Cx sc a (.and x y) -> m [a]) (g : ∀ a b r,Cx sc a x -> Cand sc (b :: r) y -> m (a :: b :: r)) : m l :=
  (Bool.or_eq_true_iff.mp q).elim (fun q => loneE q f) fun q => moreE q g
@[elab_as_elim] theorem i_corO {sc : Sc} {l : List PySem.Expr} {x y : X} {m : List PySem.Expr -> Prop} (q : Cor sc l (.or x y)) (f : ∀ a,Cx sc a (.or x y) -> m [a]) (g : ∀ a b r,Cx sc a x -> Cor sc (b :: r) y -> m (a :: b :: r)) : m l :=
  (Bool.or_eq_true_iff.mp q).elim (fun q => loneE q f) fun q => moreE q g
noncomputable def ordX (x : X) : Bool := !(Nat.beq x.ctorIdx 0 || Nat.beq x.ctorIdx 1 || Nat.beq x.ctorIdx 2 || Nat.beq x.ctorIdx 6 || Nat.beq x.ctorIdx 7 || Nat.beq x.ctorIdx 17 || Nat.beq x.ctorIdx 18)
theorem no_cxs {sc : Sc} {l : List PySem.Expr} {x : X} (q : Cxs sc l x) (f : ordX x = true) : False := by
  refine andE q fun _ => ?_
  clear q
  revert f
  cases x <;> first | exact fun _ h => absurd h Bool.false_ne_true | exact fun h _ => absurd h Bool.false_ne_true
@[elab_as_elim] theorem i_cand {sc : Sc} {l : List PySem.Expr} {x : X} {m : List PySem.Expr -> Prop} : Cand sc l x -> (∀ a b,x ≠ .and a b) -> (∀ a,Cx sc a x -> m [a]) -> m l := by
  cases x <;> first | exact fun q _ f => loneE q f | exact fun _ h _ => absurd rfl (h _ _) | exact fun h _ _ => absurd h Bool.false_ne_true
@[elab_as_elim] theorem i_cor {sc : Sc} {l : List PySem.Expr} {x : X} {m : List PySem.Expr -> Prop} : Cor sc l x -> (∀ a b,x ≠ .or a b) -> (∀ a,Cx sc a x -> m [a]) -> m l := by
  cases x <;> first | exact fun q _ f => loneE q f | exact fun _ h _ => absurd rfl (h _ _) | exact fun h _ _ => absurd h Bool.false_ne_true
noncomputable def ordS (x : S) : Bool := !(Nat.beq x.ctorIdx 0 || Nat.beq x.ctorIdx 1)
@[elab_as_elim] theorem i_css {sc : Sc} {l : List Stmt} {x : S} {m : List Stmt -> Prop} : Css sc l x -> ordS x = true -> (∀ a,Cs sc a x -> m [a]) -> m l := by
  cases x <;> first | exact fun q _ f => loneE q f | exact fun _ h _ => absurd h Bool.false_ne_true
@[elab_as_elim] theorem i_skip {sc : Sc} {l : List Stmt} {m : List Stmt -> Prop} (q : Css sc l .skip) (f : m []) : m l := empE q f
@[elab_as_elim] theorem i_seq {sc : Sc} {l : List Stmt} {x y : S} {m : List Stmt -> Prop} (q : Css sc l (.seq x y)) (f : ∀ a r,Cs sc a x -> Css sc r y -> m (a :: r)) : m l := lcsE q fun a r h => andE h fun h k => f a r h k
end Mine
set_option tactic.hygienic true
namespace Mine
open PySem PySem.W PyProof.Rows
structure Wd where
  C : Nat -> Addr
  P : Params
  h₀ : Heap
mutual
inductive Rep (W : Wd) (fr μ : List Addr) (h : Heap) : Value -> V -> Prop
  | none : Rep W fr μ h .none .none
  | bool (b : Bool) : Rep W fr μ h (.bool b) (.bool b)
  | int (i : Int) (t : Tok) : Rep W fr μ h (.int i t) (.int i)
  | str (x : Str) (t : Tok) : x.length <= maxLen -> Rep W fr μ h (.str x t) (.str x.cps.toList)
  | tup {a : Addr} {o : Obj} {items : Array Value} {n : Nat} {xs : List V} : h.get? a = some o -> (o.cls = .type "tuple" /\ o.dict = none /\ o.slots = #[]) -> o.data = .seq items n -> a ∉ fr -> a ∉ μ -> items.size <= maxLen →
      Reps W fr μ h items.toList xs -> Rep W fr μ h (.ref a) (.tup xs)
  | lst {a : Addr} {o : Obj} {items : Array Value} {n : Nat} {xs : List V} : h.get? a = some o -> (o.cls = .type "list" /\ o.dict = none /\ o.slots = #[]) -> o.data = .seq items n -> a ∉ fr -> a ∉ μ -> items.size <= maxLen →
      Reps W fr μ h items.toList xs -> Rep W fr μ h (.ref a) (.lst xs)
  | dct {a : Addr} {es : List DictEntry} {n : Nat} {kvs : List (List Nat × V)} : h.get? a = some (dictOf es n) -> a ∉ fr -> a ∉ μ -> (a == sysModules) = false -> es.length <= 1000 -> RepD W fr μ h es kvs -> Rep W fr μ h (.ref a) (.dct kvs)
  | ref {a : Addr} {i : Nat} : μ[i]? = some a -> Rep W fr μ h (.ref a) (.ref i)
  | inst {x dx : Addr} {c i : Nat} : h.get? x = some (instObj (W.C c) dx) -> x ∉ fr -> x ∉ μ -> μ[i]? = some dx -> Rep W fr μ h (.ref x) (.inst c i)
inductive Reps (W : Wd) (fr μ : List Addr) (h : Heap) : List Value -> List V -> Prop
  | nil : Reps W fr μ h [] []
  | cons {v : Value} {x : V} {vs : List Value} {xs : List V} : Rep W fr μ h v x -> Reps W fr μ h vs xs -> Reps W fr μ h (v :: vs) (x :: xs)
inductive RepD (W : Wd) (fr μ : List Addr) (h : Heap) : List DictEntry -> List (List Nat × V) -> Prop
  | nil : RepD W fr μ h [] []
  | cons {k : Str} {t : Tok} {v : Value} {x : V} {es : List DictEntry} {kvs : List (List Nat × V)} : Rep W fr μ h v x -> RepD W fr μ h es kvs →
      RepD W fr μ h (⟨PyData.keyHash W.P k,.str k t,v⟩ :: es) ((k.cps.toList,x) :: kvs)
end
inductive ORep (W : Wd) (fr μ : List Addr) (h : Heap) (a : Addr) : O -> Prop
  | list {items : Array Value} {n : Nat} {xs : List V} : h.get? a = some (listOf items n) -> items.size <= maxLen -> Reps W fr μ h items.toList xs -> ORep W fr μ h a (.list xs)
  | ns {es : List DictEntry} {n : Nat} {fs : List (List Nat × V)} : h.get? a = some (dictOf es n) -> es.length <= 1000 -> RepD W fr μ h es fs -> ORep W fr μ h a (.ns fs)
noncomputable def RepI (W : Wd) (fr μ : List Addr) (h : Heap) (v : Value) (x : V) : Prop := match x with
  | .none => ∀ m : Value -> Prop,m .none -> m v
  | .bool b => ∀ m : Value -> Prop,m (.bool b) -> m v
  | .int i => ∀ m : Value -> Prop,(∀ t,m (.int i t)) -> m v
  | .str l => ∀ m : Value -> Prop,(∀ t x,x.cps.toList = l -> x.length <= maxLen -> m (.str x t)) -> m v
  | .tup xs => ∀ m : Value -> Prop,(∀ a o items n,h.get? a = some o -> (o.cls = .type "tuple" /\ o.dict = none /\ o.slots = #[]) -> o.data = .seq items n -> a ∉ fr -> a ∉ μ -> items.size <= maxLen -> Reps W fr μ h items.toList xs -> m (.ref a)) -> m v
  | .lst xs => ∀ m : Value -> Prop,(∀ a o items n,h.get? a = some o -> (o.cls = .type "list" /\ o.dict = none /\ o.slots = #[]) -> o.data = .seq items n -> a ∉ fr -> a ∉ μ -> items.size <= maxLen -> Reps W fr μ h items.toList xs -> m (.ref a)) -> m v
  | .dct kvs => ∀ m : Value -> Prop,(∀ a es n,h.get? a = some (dictOf es n) -> a ∉ fr -> a ∉ μ -> (a == sysModules) = false -> es.length <= 1000 -> RepD W fr μ h es kvs -> m (.ref a)) -> m v
  | .ref i => ∀ m : Value -> Prop,(∀ a,μ[i]? = some a -> m (.ref a)) -> m v
  | .inst c i => ∀ m : Value -> Prop,(∀ x dx,h.get? x = some (instObj (W.C c) dx) -> x ∉ fr -> x ∉ μ -> μ[i]? = some dx -> m (.ref x)) -> m v
  | .undef => False
theorem Rep.inv {W : Wd} {fr μ : List Addr} {h : Heap} {v : Value} {x : V} (r : Rep W fr μ h v x) : RepI W fr μ h v x := by
  cases r with
  | none => exact fun _ f => f
  | bool => exact fun _ f => f
  | int _ t => exact fun _ f => f t
  | str x t q => exact fun _ f => f t x rfl q
  | tup a b c d e f g => exact fun _ k => k _ _ _ _ a b c d e f g
  | lst a b c d e f g => exact fun _ k => k _ _ _ _ a b c d e f g
  | dct a b c d e f => exact fun _ k => k _ _ _ a b c d e f
  | ref a => exact fun _ k => k _ a
  | inst a b c d => exact fun _ k => k _ _ a b c d
noncomputable def RepsI (W : Wd) (fr μ : List Addr) (h : Heap) (vs : List Value) (xs : List V) : Prop := match xs with
  | [] => ∀ m : List Value -> Prop,m [] -> m vs
  | x :: xs => ∀ m : List Value -> Prop,(∀ v vs,Rep W fr μ h v x -> Reps W fr μ h vs xs -> m (v :: vs)) -> m vs
theorem Reps.inv {W : Wd} {fr μ : List Addr} {h : Heap} {v : List Value} {x : List V} (r : Reps W fr μ h v x) : RepsI W fr μ h v x := by
  cases r with
  | nil => exact fun _ f => f
  | cons a b => exact fun _ f => f _ _ a b
noncomputable def RepDI (W : Wd) (fr μ : List Addr) (h : Heap) (es : List DictEntry) (kvs : List (List Nat × V)) : Prop := match kvs with
  | [] => ∀ m : List DictEntry -> Prop,m [] -> m es
  | p :: kvs => ∀ m : List DictEntry -> Prop,(∀ k t v es,k.cps.toList = p.1 -> Rep W fr μ h v p.2 -> RepD W fr μ h es kvs -> m (⟨PyData.keyHash W.P k,.str k t,v⟩ :: es)) -> m es
theorem RepD.inv {W : Wd} {fr μ : List Addr} {h : Heap} {v : List DictEntry} {x : List (List Nat × V)} (r : RepD W fr μ h v x) : RepDI W fr μ h v x := by
  cases r with
  | nil => exact fun _ f => f
  | cons a b => exact fun _ f => f _ _ _ _ rfl a b
theorem RepD.con {W : Wd} {fr μ : List Addr} {h : Heap} {k : Str} {t : Tok} {v : Value} {es : List DictEntry} {p : List Nat × V} {kvs : List (List Nat × V)} (e : k.cps.toList = p.1) (r : Rep W fr μ h v p.2) (rs : RepD W fr μ h es kvs) :
    RepD W fr μ h (⟨PyData.keyHash W.P k,.str k t,v⟩ :: es) (p :: kvs) := by
  obtain ⟨a,b⟩ := p
  cases e
  exact .cons r rs
structure Hp (W : Wd) (fr μ : List Addr) (σ : List O) (h : Heap) : Prop where
  keep : ∀ b o,W.h₀.get? b = some o -> h.get? b = some o
  len : μ.length = σ.length
  obj : ∀ (i : Nat) a o,μ[i]? = some a -> σ[i]? = some o -> ORep W fr μ h a o
  base : ∀ a ∈ μ,W.h₀.get? a = none
  frb : ∀ a ∈ fr,W.h₀.get? a = none
  nodup : μ.Nodup
  apart : ∀ a ∈ fr,a ∉ μ
  frin : ∀ a ∈ fr,∃ o,h.get? a = some o
structure Lc (W : Wd) (fr μ : List Addr) (sc : Sc) (env : Env) (ρ : List V) (h : Heap) : Prop where
  ns : ∃ m,h.Ns env.locals m /\ ∀ (i : Nat) x v,sc.locs[i]? = some x -> ρ[i]? = some v -> v ≠ .undef -> ∃ u,m x = some u /\ Rep W fr μ h u v
  len : ρ.length = sc.locs.length
structure Go (fr μ μ' ch : List Addr) (h h' : Heap) : Prop where
  pre : μ <+: μ'
  kept : ∀ b o,h.get? b = some o -> b ∉ fr -> b ∉ μ -> h'.get? b = some o
  fresh : ∀ a ∈ μ',a ∉ μ -> h.get? a = none
  frs : ∀ b ∈ fr,b ∉ ch -> ∀ o,h.get? b = some o -> h'.get? b = some o
  alive : ∀ b o,h.get? b = some o -> ∃ o',h'.get? b = some o'
section
variable {W : Wd} {fr μ μ' ch : List Addr} {h h' : Heap}
theorem get_app (p : μ <+: μ') {i : Nat} {a : Addr} (e : μ[i]? = some a) : μ'[i]? = some a := by
  obtain ⟨ν,rfl⟩ := p
  rw [List.getElem?_append_left]
  · exact e
  · exact (List.getElem?_eq_some_iff.mp e).1
theorem notin_app {a : Addr} {o : Obj} (O : Go fr μ μ' ch h h') (e : h.get? a = some o) (n : a ∉ μ) : a ∉ μ' := fun q => by
  rw [O.fresh a q n] at e; cases e
structure Mp (fr μ : List Addr) (h : Heap) (fr' μ' : List Addr) (h' : Heap) : Prop where
  k : ∀ a o,h.get? a = some o -> a ∉ fr -> a ∉ μ -> h'.get? a = some o /\ a ∉ fr' /\ a ∉ μ'
  i : ∀ (i : Nat) a,μ[i]? = some a -> μ'[i]? = some a
section
variable {fr' : List Addr} (M : Mp fr μ h fr' μ' h')
include M
theorem Rep.map {v : Value} {x : V} (r : Rep W fr μ h v x) : Rep W fr' μ' h' v x :=
  Rep.rec (motive_1 := fun v x _ => Rep W fr' μ' h' v x) (motive_2 := fun v x _ => Reps W fr' μ' h' v x) (motive_3 := fun v x _ => RepD W fr' μ' h' v x)
    .none .bool .int .str (fun e c d n1 n2 l _ r => have q := M.k _ _ e n1 n2; .tup q.1 c d q.2.1 q.2.2 l r) (fun e c d n1 n2 l _ r => have q := M.k _ _ e n1 n2; .lst q.1 c d q.2.1 q.2.2 l r)
    (fun e n1 n2 s l _ r => have q := M.k _ _ e n1 n2; .dct q.1 q.2.1 q.2.2 s l r) (fun e => .ref (M.i _ _ e)) (fun e n1 n2 i => have q := M.k _ _ e n1 n2; .inst q.1 q.2.1 q.2.2 (M.i _ _ i))
    .nil (fun _ _ a b => .cons a b) .nil (fun _ _ a b => .cons a b) r
theorem Reps.map {v : List Value} {x : List V} (r : Reps W fr μ h v x) : Reps W fr' μ' h' v x :=
  Reps.rec (motive_1 := fun v x _ => Rep W fr' μ' h' v x) (motive_2 := fun v x _ => Reps W fr' μ' h' v x) (motive_3 := fun v x _ => RepD W fr' μ' h' v x)
    .none .bool .int .str (fun e c d n1 n2 l _ r => have q := M.k _ _ e n1 n2; .tup q.1 c d q.2.1 q.2.2 l r) (fun e c d n1 n2 l _ r => have q := M.k _ _ e n1 n2; .lst q.1 c d q.2.1 q.2.2 l r)
    (fun e n1 n2 s l _ r => have q := M.k _ _ e n1 n2; .dct q.1 q.2.1 q.2.2 s l r) (fun e => .ref (M.i _ _ e)) (fun e n1 n2 i => have q := M.k _ _ e n1 n2; .inst q.1 q.2.1 q.2.2 (M.i _ _ i))
    .nil (fun _ _ a b => .cons a b) .nil (fun _ _ a b => .cons a b) r
theorem RepD.map {v : List DictEntry} {x : List (List Nat × V)} (r : RepD W fr μ h v x) : RepD W fr' μ' h' v x :=
  RepD.rec (motive_1 := fun v x _ => Rep W fr' μ' h' v x) (motive_2 := fun v x _ => Reps W fr' μ' h' v x) (motive_3 := fun v x _ => RepD W fr' μ' h' v x)
    .none .bool .int .str (fun e c d n1 n2 l _ r => have q := M.k _ _ e n1 n2; .tup q.1 c d q.2.1 q.2.2 l r) (fun e c d n1 n2 l _ r => have q := M.k _ _ e n1 n2; .lst q.1 c d q.2.1 q.2.2 l r)
    (fun e n1 n2 s l _ r => have q := M.k _ _ e n1 n2; .dct q.1 q.2.1 q.2.2 s l r) (fun e => .ref (M.i _ _ e)) (fun e n1 n2 i => have q := M.k _ _ e n1 n2; .inst q.1 q.2.1 q.2.2 (M.i _ _ i))
    .nil (fun _ _ a b => .cons a b) .nil (fun _ _ a b => .cons a b) r
end
theorem Go.mp (O : Go fr μ μ' ch h h') : Mp fr μ h fr μ' h' := ⟨fun _ _ e n1 n2 => ⟨O.kept _ _ e n1 n2,n1,notin_app O e n2⟩,fun _ _ e => get_app O.pre e⟩
theorem Rep.on (O : Go fr μ μ' ch h h') {v : Value} {x : V} (r : Rep W fr μ h v x) : Rep W fr μ' h' v x := r.map O.mp
theorem Reps.on (O : Go fr μ μ' ch h h') {v : List Value} {x : List V} (r : Reps W fr μ h v x) : Reps W fr μ' h' v x := r.map O.mp
theorem RepD.on (O : Go fr μ μ' ch h h') {v : List DictEntry} {x : List (List Nat × V)} (r : RepD W fr μ h v x) : RepD W fr μ' h' v x := r.map O.mp
theorem Go.refl : Go fr μ μ ch h h := ⟨List.prefix_refl _,fun _ _ e _ _ => e,fun _ q n => absurd q n,fun _ _ _ _ e => e,fun _ _ e => ⟨_,e⟩⟩
theorem Go.trans {μ'' : List Addr} {h'' : Heap} (O : Go fr μ μ' ch h h') (O' : Go fr μ' μ'' ch h' h'') : Go fr μ μ'' ch h h'' := by
  refine ⟨O.pre.trans O'.pre,fun b o e n1 n2 => O'.kept _ _ (O.kept _ _ e n1 n2) n1 (notin_app O e n2),fun a ha n => ?_,fun b hb n o e => O'.frs b hb n o (O.frs b hb n o e),fun b o e => ?_⟩
  · by_cases q : a ∈ μ'
    · exact O.fresh a q n
    · cases e : h.get? a with
      | none => rfl
      | some o =>
        obtain ⟨o',e'⟩ := O.alive a o e
        rw [O'.fresh a ha q] at e'; cases e'
  · obtain ⟨o',e'⟩ := O.alive b o e
    exact O'.alive b o' e'
theorem Go.wide {ch' : List Addr} (O : Go fr μ μ' ch h h') (hs : ∀ a ∈ ch,a ∈ ch') : Go fr μ μ' ch' h h' :=
  ⟨O.pre,O.kept,O.fresh,fun b hb n => O.frs b hb fun q => n (hs b q),O.alive⟩
theorem Go.wide0 {ch' : List Addr} (O : Go fr μ μ' [] h h') : Go fr μ μ' ch' h h' := O.wide fun _ q => nomatch q
theorem Go.ext (e : ∀ b o,h.get? b = some o -> h'.get? b = some o) : Go fr μ μ ch h h' :=
  ⟨List.prefix_refl _,fun b o q _ _ => e b o q,fun _ q n => absurd q n,fun b _ _ o q => e b o q,fun b o q => ⟨o,e b o q⟩⟩
theorem Lc.on {sc : Sc} {env : Env} {ρ : List V} (l : Lc W fr μ sc env ρ h) (O : Go fr μ μ' ch h h') (hf : env.locals ∈ fr) (hc : env.locals ∉ ch) : Lc W fr μ' sc env ρ h' := by
  obtain ⟨⟨m,⟨o,es,ep,q1,q2,q3,q4⟩,hm⟩,hl⟩ := l
  exact ⟨⟨m,⟨o,es,ep,O.frs _ hf hc _ q1,q2,q3,q4⟩,fun i x v a b c => let ⟨u,e,r⟩ := hm i x v a b c; ⟨u,e,r.on O⟩⟩,hl⟩
theorem ORep.on {a : Addr} {o : O} (O : Go fr μ μ' ch h h') (e : ∀ o,h.get? a = some o -> h'.get? a = some o) (r : ORep W fr μ h a o) : ORep W fr μ' h' a o := by
  cases r with
  | list q l r => exact .list (e _ q) l (r.on O)
  | ns q l r => exact .ns (e _ q) l (r.on O)
theorem Hp.ext {σ : List O} (H : Hp W fr μ σ h) (e : ∀ b o,h.get? b = some o -> h'.get? b = some o) : Hp W fr μ σ h' :=
  ⟨fun b o q => e b o (H.keep b o q),H.len,fun i a o q1 q2 => (H.obj i a o q1 q2).on (ch := []) (.ext e) (e a),H.base,H.frb,H.nodup,H.apart,fun a q => let ⟨o,x⟩ := H.frin a q; ⟨o,e a o x⟩⟩
theorem Hp.size_not {σ : List O} (H : Hp W fr μ σ h) {a : Addr} (ha : a ∈ μ) : ∃ o,h.get? a = some o := by
  obtain ⟨i,hi,rfl⟩ := List.getElem_of_mem ha
  have hs : i < σ.length := H.len ▸ hi
  have := H.obj i _ _ (List.getElem?_eq_getElem hi) (List.getElem?_eq_getElem hs)
  generalize σ[i] = o at this
  cases this with
  | list q => exact ⟨_,q⟩
  | ns q => exact ⟨_,q⟩
theorem none_of_size {a : Addr} (ha : h.objs.size <= a) : h.get? a = none := by
  cases e : h.get? a with
  | none => rfl
  | some o => exact absurd (Heap.lt_size e) (Nat.not_lt.mpr ha)
theorem nodup_inj {l : List Nat} (h : l.Nodup) {i j : Nat} (hi : i < l.length) (hj : j < l.length) (e : l[i] = l[j]) : i = j := by
  rw [List.nodup_iff_pairwise_ne,List.pairwise_iff_getElem] at h
  rcases Nat.lt_trichotomy i j with q | q | q
  · exact absurd e (h i j hi hj q)
  · exact q
  · exact absurd e.symm (h j i hj hi q)
theorem Hp.push {σ : List O} (H : Hp W fr μ σ h) {ob : Obj} {o : O} (hf : ob.isFreed = false) (r : ∀ h',(∀ b o,h.get? b = some o -> h'.get? b = some o) -> h'.get? h.objs.size = some ob -> ORep W fr (μ ++ [h.objs.size]) h' h.objs.size o) :
    Hp W fr (μ ++ [h.objs.size]) (σ ++ [o]) (h.push ob) /\ Go fr μ (μ ++ [h.objs.size]) ch h (h.push ob) := by
  have e : ∀ b o,h.get? b = some o -> (h.push ob).get? b = some o := fun b o q => Heap.get?_push_of_some _ q
  have nn : h.get? h.objs.size = none := none_of_size (Nat.le_refl _)
  have G : Go fr μ (μ ++ [h.objs.size]) ch h (h.push ob) := by
    refine ⟨List.prefix_append _ _,fun b o q _ _ => e b o q,fun a ha n => ?_,fun b _ _ o q => e b o q,fun b o q => ⟨o,e b o q⟩⟩
    rcases List.mem_append.mp ha with q | q
    · exact absurd q n
    · rw [List.mem_singleton.mp q]; exact nn
  refine ⟨⟨fun b o q => e b o (H.keep b o q),by simp [H.len],fun i a o' q1 q2 => ?_,fun a ha => ?_,H.frb,?_,fun a ha q => ?_,fun a q => let ⟨o,x⟩ := H.frin a q; ⟨o,e a o x⟩⟩,G⟩
  · by_cases hi : i < μ.length
    · rw [List.getElem?_append_left hi] at q1
      rw [List.getElem?_append_left (H.len ▸ hi)] at q2
      exact (H.obj i a o' q1 q2).on G (e a)
    · have hi : μ.length <= i := Nat.le_of_not_lt hi
      rw [List.getElem?_append_right hi] at q1
      rw [List.getElem?_append_right (H.len ▸ hi)] at q2
      have h0 : i - μ.length = 0 := by
        have := (List.getElem?_eq_some_iff.mp q1).1
        simpa using this
      rw [h0] at q1
      rw [← H.len,h0] at q2
      simp only [List.getElem?_cons_zero,Option.some.injEq] at q1 q2
      subst q1 q2
      exact r _ e (Heap.get?_push_size _ hf)
  · rcases List.mem_append.mp ha with q | q
    · exact H.base a q
    · rw [List.mem_singleton.mp q]
      cases e0 : W.h₀.get? h.objs.size with
      | none => rfl
      | some o => rw [H.keep _ _ e0] at nn; cases nn
  · rw [List.nodup_append]
    refine ⟨H.nodup,by simp,fun a ha b hb q => ?_⟩
    rw [List.mem_singleton.mp hb] at q
    obtain ⟨o,x⟩ := H.size_not ha
    rw [q,nn] at x; cases x
  · rcases List.mem_append.mp q with q | q
    · exact H.apart a ha q
    · rw [List.mem_singleton.mp q] at ha
      obtain ⟨o,x⟩ := H.frin _ ha
      rw [nn] at x; cases x
theorem Hp.turn {σ : List O} (H : Hp W fr μ σ h) {i : Nat} {a : Addr} {o : O} (hi : μ[i]? = some a) (ha : ∀ b,b ≠ a -> h'.get? b = h.get? b) (hs : ∃ ob,h'.get? a = some ob) (r : ORep W fr μ h' a o) :
    Hp W fr μ (σ.set i o) h' /\ Go fr μ μ ch h h' := by
  have am : a ∈ μ := List.mem_of_getElem? hi
  have G : Go fr μ μ ch h h' := by
    refine ⟨List.prefix_refl _,fun b o q _ n => ?_,fun _ q n => absurd q n,fun b hb _ o q => ?_,fun b o q => ?_⟩
    · rw [ha b fun e => n (e ▸ am)]; exact q
    · rw [ha b fun e => H.apart b hb (e ▸ am)]; exact q
    · by_cases e : b = a
      · subst e; exact hs
      · exact ⟨o,(ha b e).trans q⟩
  refine ⟨⟨fun b o q => ?_,by simp [H.len],fun j b o' q1 q2 => ?_,H.base,H.frb,H.nodup,H.apart,fun b hb => ?_⟩,G⟩
  · have : b ≠ a := fun e => by have := H.base a am; rw [← e,q] at this; cases this
    rw [ha b this]; exact H.keep b o q
  · rw [List.getElem?_set] at q2
    by_cases e : i = j
    · subst e
      rw [hi] at q1
      cases q1
      rw [if_pos rfl] at q2
      split at q2
      · cases q2; exact r
      · cases q2
    · rw [if_neg e] at q2
      have : b ≠ a := fun q => by
        subst q
        obtain ⟨h1,x1⟩ := List.getElem?_eq_some_iff.mp q1
        obtain ⟨h2,x2⟩ := List.getElem?_eq_some_iff.mp hi
        exact e (nodup_inj H.nodup h2 h1 (x2.trans x1.symm))
      exact (H.obj j b o' q1 q2).on G fun o q => (ha b this).trans q
  · obtain ⟨o,x⟩ := H.frin b hb
    exact ⟨o,(ha b fun e => H.apart b hb (e ▸ am)).trans x⟩
theorem Hp.mp {σ : List O} (H : Hp W fr μ σ h) : Mp [] [] W.h₀ fr μ h := ⟨fun a o e _ _ => ⟨H.keep _ _ e,fun q => (by rw [H.frb _ q] at e; cases e),fun q => (by rw [H.base _ q] at e; cases e)⟩,fun _ _ e => nomatch e⟩
theorem Rep.base {σ : List O} (H : Hp W fr μ σ h) {v : Value} {x : V} (r : Rep W [] [] W.h₀ v x) : Rep W fr μ h v x := r.map H.mp
theorem Reps.base {σ : List O} (H : Hp W fr μ σ h) {v : List Value} {x : List V} (r : Reps W [] [] W.h₀ v x) : Reps W fr μ h v x := r.map H.mp
theorem mp_more {L : Addr} (hL : h.get? L = Option.none) : Mp fr μ h (L :: fr) μ h :=
  ⟨fun a o e n1 n2 => ⟨e,fun q => by rcases List.mem_cons.mp q with q | q; (rw [q,hL] at e; cases e); exact n1 q,n2⟩,fun _ _ e => e⟩
theorem Rep.more {L : Addr} (hL : h.get? L = Option.none) {v : Value} {x : V} (r : Rep W fr μ h v x) : Rep W (L :: fr) μ h v x := r.map (mp_more hL)
theorem Reps.more {L : Addr} (hL : h.get? L = Option.none) {v : List Value} {x : List V} (r : Reps W fr μ h v x) : Reps W (L :: fr) μ h v x := r.map (mp_more hL)
theorem RepD.more {L : Addr} (hL : h.get? L = Option.none) {v : List DictEntry} {x : List (List Nat × V)} (r : RepD W fr μ h v x) : RepD W (L :: fr) μ h v x := r.map (mp_more hL)
theorem mp_less {L : Addr} : Mp (L :: fr) μ h fr μ h := ⟨fun _ _ e n1 n2 => ⟨e,fun q => n1 (.tail _ q),n2⟩,fun _ _ e => e⟩
theorem Rep.less {L : Addr} {v : Value} {x : V} (r : Rep W (L :: fr) μ h v x) : Rep W fr μ h v x := r.map mp_less
theorem Reps.less {L : Addr} {v : List Value} {x : List V} (r : Reps W (L :: fr) μ h v x) : Reps W fr μ h v x := r.map mp_less
theorem RepD.less {L : Addr} {v : List DictEntry} {x : List (List Nat × V)} (r : RepD W (L :: fr) μ h v x) : RepD W fr μ h v x := r.map mp_less
end
abbrev Fa : Value -> Shared -> Prop := fun _ _ => False
noncomputable def St (W : Wd) (fr μ ch : List Addr) (s : Shared) (σ' : List O) (R : List Addr -> Heap -> Prop) (s' : Shared) : Prop :=
  ∃ h' t' μ',s' = { s with heap := h',toks := t' } /\ Hp W fr μ' σ' h' /\ Go fr μ μ' ch s.heap h' /\ R μ' h'
@[elab_as_elim] theorem St.elim {W : Wd} {fr μ ch : List Addr} {s : Shared} {σ' : List O} {R : List Addr -> Heap -> Prop} {s' : Shared} {motive : Shared -> Prop} (q : St W fr μ ch s σ' R s')
    (f : ∀ h' t' μ',Hp W fr μ' σ' h' -> Go fr μ μ' ch s.heap h' -> R μ' h' -> motive { s with heap := h',toks := t' }) : motive s' := by
  obtain ⟨h',t',μ',rfl,H,G,r⟩ := q
  exact f h' t' μ' H G r
theorem St.from {W : Wd} {fr μ μ1 ch : List Addr} {s : Shared} {σ' : List O} {R : List Addr -> Heap -> Prop} {s' : Shared} {h1 : Heap} {t1 : Nat} (G : Go fr μ μ1 ch s.heap h1)
    (x : St W fr μ1 ch { s with heap := h1,toks := t1 } σ' R s') : St W fr μ ch s σ' R s' := by
  refine St.elim x fun h' t' μ' H G' r => ?_
  exact ⟨h',t',μ',rfl,H,G.trans G',r⟩
theorem St.mono {W : Wd} {fr μ ch ch' : List Addr} {s : Shared} {σ' : List O} {R R' : List Addr -> Heap -> Prop} {s' : Shared} (x : St W fr μ ch s σ' R s') (hc : ∀ a ∈ ch,a ∈ ch')
    (hr : ∀ μ' h',R μ' h' -> R' μ' h') : St W fr μ ch' s σ' R' s' := by
  refine St.elim x fun h' t' μ' H G' r => ?_
  exact ⟨h',t',μ',rfl,H,G'.wide hc,hr _ _ r⟩
abbrev PE (W : Wd) (fr μ : List Addr) (s : Shared) (x : V) (σ' : List O) (v : Value) (s' : Shared) : Prop := St W fr μ [] s σ' (fun μ' h' => Rep W fr μ' h' v x) s'
abbrev PL (W : Wd) (fr μ : List Addr) (s : Shared) (xs : List V) (σ' : List O) (vs : List Value) (s' : Shared) : Prop := St W fr μ [] s σ' (fun μ' h' => Reps W fr μ' h' vs xs) s'
abbrev PB (W : Wd) (fr μ : List Addr) (s : Shared) (b : Bool) (σ' : List O) (c : Bool) (s' : Shared) : Prop := St W fr μ [] s σ' (fun _ _ => c = b) s'
theorem St.ext {W : Wd} {fr μ ch : List Addr} {s : Shared} {σ : List O} {R : List Addr -> Heap -> Prop} {h' : Heap} {t' : Nat} (H : Hp W fr μ σ s.heap) (e : ∀ b o,s.heap.get? b = some o -> h'.get? b = some o) (r : R μ h') :
    St W fr μ ch s σ R { s with heap := h',toks := t' } := ⟨h',t',μ,rfl,H.ext e,.ext e,r⟩
theorem St.same {W : Wd} {fr μ ch : List Addr} {s : Shared} {σ : List O} {R : List Addr -> Heap -> Prop} {t' : Nat} (H : Hp W fr μ σ s.heap) (r : R μ s.heap) :
    St W fr μ ch s σ R { s with toks := t' } := ⟨s.heap,t',μ,rfl,H,.refl,r⟩
theorem St.here {W : Wd} {fr μ ch : List Addr} {s : Shared} {σ : List O} {R : List Addr -> Heap -> Prop} (H : Hp W fr μ σ s.heap) (r : R μ s.heap) :
    St W fr μ ch s σ R s := ⟨s.heap,s.toks,μ,rfl,H,.refl,r⟩
structure Tb where
  fns : List (Str × Nat)
  clss : List (Str × Nat)
  globs : List (Str × Nat)
  fa : Nat -> Addr
structure EnvOk (T : Tb) (sc : Sc) (env : Env) : Prop where
  scope : env.scope = sc.scope
  kind : sc.scope.kind = .function
  globals : env.globals = mainGlobals
  builtins : env.builtins = builtinsNs
  local_ : ∀ x ∈ sc.locs,sc.scope.names.lookup x = some .local
  nodup : sc.locs.Nodup
  fns : sc.fns = T.fns
  clss : sc.clss = T.clss
  globs : sc.globs = T.globs
structure AOk (A : Around) (d : Nat) : Prop where
  handled : A.handled = none
  depth : A.depth <= 301 + 2 * d
  units : A.units <= 4 + 20 * d
theorem AOk.room {A : Around} {d : Nat} (h : AOk A d) (hd : d <= 61) : A.depth < recursionLimit := by
  have := h.depth
  show A.depth < 1000
  omega
theorem AOk.cl {A : Around} {d : Nat} (h : AOk A d) (hd : d <= 61) : A.units + 100 < cLine := by
  have := h.units
  have e := cLine_is
  omega
inductive FnOk (W : Wd) (T : Tb) (K : Frag) (a : Addr) (c : FnCode) : Prop
  | mk (oc : Value) (od : Option Addr) (osl : Array (Option Value)) (name qual : Str) (params : Arguments) (body : List Stmt) (scope : Scope) (dV kV doc pm : Value) (an : Option Addr) (cdv ct : Value)
    (h1 : K.lookup a = some ⟨oc,od,.func (fnOf name qual params body scope dV kV doc pm an cdv ct),osl⟩) (h2 : codeIn K cdv qual = true)
    (p1 : params.posonlyargs = []) (p2 : params.vararg = none) (p3 : params.kwonlyargs = []) (p4 : params.kwarg = none) (g1 : scope.isCoroutine = false) (g2 : scope.isGenerator = false) (g3 : scope.kind = .function) (g4 : ∀ x ∈ scope.names,x.2 ≠ .cell)
    (sc : Sc) (s1 : sc.scope = scope) (s2 : sc.fns = T.fns) (s3 : sc.clss = T.clss) (s4 : sc.globs = T.globs) (s5 : Css sc body c.body) (s6 : ∃ more,sc.locs = params.args.map (·.arg) ++ more) (s7 : sc.locs.length = c.nloc) (s8 : sc.locs.Nodup)
    (s9 : ∀ x ∈ sc.locs,sc.scope.names.lookup x = some .local) (s10 : params.args.length = c.npar) (s11 : c.dflt.length <= c.npar)
    (hD : (dV = .none /\ c.dflt = []) \/ ∃ D o items n,dV = .ref D /\ W.h₀.get? D = some o /\ o.data = .seq items n /\ Reps W [] [] W.h₀ items.toList c.dflt) : FnOk W T K a c
structure Amb (w : World) (W : Wd) (T : Tb) (P : Prog) (K : Frag) (mg mb : Str -> Option Value) : Prop where
  wP : W.P = w.params
  g : W.h₀.Ns mainGlobals mg
  b : W.h₀.Ns builtinsNs mb
  lim : W.h₀.NoLimit
  X : K.In W.h₀
  bLen : mg nLen = none /\ mb nLen = some (.builtin "len")
  bOrd : mg nOrd = none /\ mb nOrd = some (.builtin "ord")
  bTuple : mg nTuple = none /\ mb nTuple = some (.type "tuple")
  bRange : mg nRange = none /\ mb nRange = some (.type "range")
  bEnum : mg nEnum = none /\ mb nEnum = some (.type "enumerate")
  glob : ∀ x g v,T.globs.lookup x = some g -> P.glob g = some v -> ∃ u,mg x = some u /\ Rep W [] [] W.h₀ u v
  fnName : ∀ f g,T.fns.lookup f = some g -> mg f = some (.ref (T.fa g)) /\ keepIn K (.ref (T.fa g)) = true
  fn : ∀ g c,P.fn g = some c -> FnOk W T K (T.fa g) c
  clsName : ∀ f c,T.clss.lookup f = some c -> mg f = some (.ref (W.C c)) /\ keepIn K (.ref (W.C c)) = true
  init : ∀ c g,P.init c = some g -> makesIn K (W.C c) = true /\ findIn K (.ref (W.C c)) "__init__" = some (some (.ref (T.fa g))) /\ isFn K (.ref (T.fa g)) = true
  meth : ∀ c m g,P.meth c m = some g -> findIn K (.ref (W.C c)) ⟨m.toArray⟩ = some (some (.ref (T.fa g))) /\ isFn K (.ref (T.fa g)) = true /\ keepIn K (.ref (T.fa g)) = true /\ plainGet K (W.C c) ⟨m.toArray⟩ = true
  attr : ∀ c a,P.attr c a = true -> plainGet K (W.C c) ⟨a.toArray⟩ = true /\ hasDictIn K (W.C c) = true /\ (∃ at_,findIn K (.ref (W.C c)) ⟨a.toArray⟩ = some at_ /\ noGet K at_ = true) /\
    findIn K (.ref (W.C c)) "__setattr__" = some (some (.builtin "object.__setattr__")) /\ plainOver K (W.C c) = true /\ takerIn K (W.C c) ⟨a.toArray⟩ = some none
structure Here (T : Tb) (sc : Sc) (env : Env) (A : Around) (d : Nat) (fr : List Addr) : Prop where
  e : EnvOk T sc env
  a : AOk A d
  dl : d <= 60
  f : env.locals ∈ fr
section
variable {T : Tb} {sc : Sc} {env : Env} {A : Around} {d : Nat} {fr : List Addr}
theorem EnvOk.fk (E : EnvOk T sc env) : env.scope.kind = .function := E.scope ▸ E.kind
theorem EnvOk.kof (E : EnvOk T sc env) {x : Str} : env.kindOf x = sc.scope.names.lookup x := by unfold Env.kindOf; rw [E.scope]
theorem EnvOk.glob (E : EnvOk T sc env) {x : Str} (h : sc.isGlob x = true) : env.kindOf x = some .globalImplicit := by rw [E.kof]; exact beq_iff_eq.mp h
theorem idx_some {α : Type} [BEq α] [LawfulBEq α] {x : α} : ∀ {l : List α} {i : Nat},l.idxOf? x = some i -> l[i]? = some x := by
  intro l i h
  rw [List.idxOf?,List.findIdx?_eq_some_iff_getElem] at h
  obtain ⟨h1,h2,_⟩ := h
  rw [List.getElem?_eq_getElem h1,beq_iff_eq.mp h2]
theorem Sc.at_loc {x : Str} {i : Nat} (h : sc.loc x = some i) : sc.locs[i]? = some x := idx_some h
theorem EnvOk.notMod (E : EnvOk T sc env) : (env.scope.kind == .class || (env.scope.kind == .module && env.locals != env.globals)) = false := by rw [E.fk]; rfl
end
structure At (W : Wd) (T : Tb) (sc : Sc) (env : Env) (A : Around) (d : Nat) (fr μ : List Addr) (ρ : List V) (σ : List O) (s : Shared) : Prop where
  here : Here T sc env A d fr
  hp : Hp W fr μ σ s.heap
  lc : Lc W fr μ sc env ρ s.heap
inductive RepP (W : Wd) (fr μ : List Addr) (h : Heap) : List (Value × Value) -> List (List Nat) -> List V -> Prop
  | nil : RepP W fr μ h [] [] []
  | cons {k : Str} {t : Tok} {v : Value} {x : V} {vs : List (Value × Value)} {ks : List (List Nat)} {xs : List V} : Rep W fr μ h v x -> RepP W fr μ h vs ks xs -> RepP W fr μ h ((.str k t,v) :: vs) (k.cps.toList :: ks) (x :: xs)
structure SX (prog : Program) (w : World) (W : Wd) (T : Tb) (e : X) (d : Nat) (ρ : List V) (σ : List O) (x : V) (σ' : List O) : Prop where
  one : ∀ sc env A fr μ s,At W T sc env A d fr μ ρ σ s -> ∀ ex,Cx sc ex e -> wpAny (model prog w) A (eval ex env) (PE W fr μ s x σ') Fa s
  test : ∀ sc env A fr μ s,At W T sc env A d fr μ ρ σ s -> ∀ ex,Cx sc ex e -> ∀ b,truth x = some b -> wpAny (model prog w) A (isTrue ex env (eval ex env)) (PB W fr μ s b σ') Fa s
  all : ∀ sc env A fr μ s,At W T sc env A d fr μ ρ σ s -> ∀ exs,Cxs sc exs e -> ∀ pos,∃ xs,x = .tup xs /\ wpAny (model prog w) A (spliced (backTo pos (starEach exs env))) (PL W fr μ s xs σ') Fa s
  pairs : ∀ sc env A fr μ s,At W T sc env A d fr μ ρ σ s -> ∀ exs,Cxs sc exs e -> ∀ ks kk pos,keysOf ks kk = true -> ks.length = exs.length -> ∃ xs,x = .tup xs /\
    wpAny (model prog w) A (evalPairs (pairTrees ks exs env pos)) (fun vs s' => St W fr μ [] s σ' (fun μ' h' => RepP W fr μ' h' vs kk xs) s') Fa s
  ands : ∀ sc env A fr μ s,At W T sc env A d fr μ ρ σ s -> ∀ exs,Cand sc exs e -> ∀ pos,wpAny (model prog w) A (eval (.BoolOp .And exs pos) env) (PE W fr μ s x σ') Fa s
  andt : ∀ sc env A fr μ s,At W T sc env A d fr μ ρ σ s -> ∀ exs,Cand sc exs e -> ∀ pos whole b,truth x = some b -> wpAny (model prog w) A (isTrue (.BoolOp .And exs pos) env whole) (PB W fr μ s b σ') Fa s
  ors : ∀ sc env A fr μ s,At W T sc env A d fr μ ρ σ s -> ∀ exs,Cor sc exs e -> ∀ pos,wpAny (model prog w) A (eval (.BoolOp .Or exs pos) env) (PE W fr μ s x σ') Fa s
  ort : ∀ sc env A fr μ s,At W T sc env A d fr μ ρ σ s -> ∀ exs,Cor sc exs e -> ∀ pos whole b,truth x = some b -> wpAny (model prog w) A (isTrue (.BoolOp .Or exs pos) env whole) (PB W fr μ s b σ') Fa s
  cn : e = .cNone -> x = .none /\ σ' = σ
  cb : ∀ b,e = .cBool b -> x = .bool b /\ σ' = σ
  ci : ∀ i,e = .cInt i -> x = .int i /\ σ' = σ
section
variable {prog : Program} {w : World} {W : Wd} {T : Tb} {P : Prog} {K : Frag} {mg mb : Str -> Option Value} {d : Nat} {ρ : List V} {σ σ' : List O} {x : V}
theorem rep_bool {fr μ : List Addr} {h : Heap} {v : Value} {b : Bool} (r : Rep W fr μ h v (.bool b)) : v = .bool b := r.inv (fun v => v = .bool b) rfl
theorem truth_bool {x : V} {b : Bool} (h : truth x = some b) : x = .bool b := bool_e h fun c hc h => by rw [hc,Option.some.inj h]
theorem test_of {A : Around} {env : Env} {ex : PySem.Expr} {s : Shared} {fr μ : List Addr} {b : Bool} (h : wpAny (model prog w) A (eval ex env) (PE W fr μ s x σ') Fa s) (hb : truth x = some b)
    (he : isTrue ex env (eval ex env) = (do let v ← eval ex env; standAt ex.pos; holding [v] (truthy v))) : wpAny (model prog w) A (isTrue ex env (eval ex env)) (PB W fr μ s b σ') Fa s := by
  refine isTrue_plain (wpAny_mono h (fun v s1 q => ?_) fun _ _ q => q) he
  obtain rfl := truth_bool hb
  refine St.elim q fun h' t' μ' H G r => ?_
  obtain rfl := rep_bool r
  exact wpAny_truthy_bool ⟨h',t',μ',rfl,H,G,rfl⟩
theorem no_nil {sc : Sc} {ex : PySem.Expr} : ¬ Cx sc ex .nil := Bool.false_ne_true
theorem no_cons {sc : Sc} {ex : PySem.Expr} {a b : X} : ¬ Cx sc ex (.cons a b) := Bool.false_ne_true
theorem no_and {sc : Sc} {exs : List PySem.Expr} {a b : X} : ¬ Cxs sc exs (.and a b) := fun q => andE q fun _ h => absurd h Bool.false_ne_true
theorem no_or {sc : Sc} {exs : List PySem.Expr} {a b : X} : ¬ Cxs sc exs (.or a b) := fun q => andE q fun _ h => absurd h Bool.false_ne_true
noncomputable def plainTest (e : PySem.Expr) : Bool := !(Nat.beq e.ctorIdx 0 || Nat.beq e.ctorIdx 5 || Nat.beq e.ctorIdx 15 || eUn e fun o _ _ => Nat.beq o.ctorIdx 1)
theorem isTrue_of_plain {ex : PySem.Expr} : plainTest ex = true -> ∀ (env : Env) (whole : Sem Value),isTrue ex env whole = (do let v ← whole; standAt ex.pos; holding [v] (truthy v)) := by
  cases ex <;> first | exact fun _ _ _ => rfl | exact fun h => absurd h Bool.false_ne_true | skip
  rename_i op _ _
  cases op <;> first | exact fun _ _ _ => rfl | exact fun h => absurd h Bool.false_ne_true
theorem PB.is {fr μ : List Addr} {s s' : Shared} {b c : Bool} (q : PB W fr μ s b σ' c s') : c = b := by obtain ⟨_,_,_,_,_,_,q⟩ := q; exact q
section
variable {env : Env} {A : Around} {fr μ : List Addr} {s : Shared} {ex : PySem.Expr} {b : Bool} (h : wpAny (model prog w) A (isTrue ex env (eval ex env)) (PB W fr μ s b σ') Fa s) (pos : Pos) (whole : Sem Value)
include h
theorem single_and : wpAny (model prog w) A (isTrue (.BoolOp .And [ex] pos) env whole) (PB W fr μ s b σ') Fa s := by
  refine isTrue_and (wpAny_mono h (fun c s1 q => ?_) fun _ _ q => q)
  have hc := q.is
  cases c
  · exact q
  · exact isTrue_and_nil q
theorem single_or : wpAny (model prog w) A (isTrue (.BoolOp .Or [ex] pos) env whole) (PB W fr μ s b σ') Fa s := by
  refine isTrue_or (wpAny_mono h (fun c s1 q => ?_) fun _ _ q => q)
  have hc := q.is
  cases c
  · exact isTrue_or_nil q
  · exact q
end
theorem SX.mk2 {e : X} (h1 : ∀ sc env A fr μ s,At W T sc env A d fr μ ρ σ s -> ∀ ex,Cx sc ex e -> wpAny (model prog w) A (eval ex env) (PE W fr μ s x σ') Fa s)
    (h2 : ∀ sc env A fr μ s,At W T sc env A d fr μ ρ σ s -> ∀ ex,Cx sc ex e -> ∀ b,truth x = some b -> wpAny (model prog w) A (isTrue ex env (eval ex env)) (PB W fr μ s b σ') Fa s)
    (h3 : ∀ sc exs,¬ Cxs sc exs e) (h4 : ∀ a b,e ≠ .and a b) (h5 : ∀ a b,e ≠ .or a b) (h6 : e = .cNone -> x = .none /\ σ' = σ) (h7 : ∀ b,e = .cBool b -> x = .bool b /\ σ' = σ) (h8 : ∀ i,e = .cInt i -> x = .int i /\ σ' = σ) : SX prog w W T e d ρ σ x σ' :=
  ⟨h1,h2,fun _ _ _ _ _ _ _ exs q => absurd q (h3 _ exs),fun _ _ _ _ _ _ _ exs q => absurd q (h3 _ exs),fun sc env A fr μ s a exs q pos => i_cand q h4 fun _ c => BoolOp_one (h1 _ _ _ _ _ _ a _ c),fun sc env A fr μ s a exs q pos whole b hb => i_cand q h4 fun _ c => single_and (h2 _ _ _ _ _ _ a _ c b hb) pos whole,
    fun sc env A fr μ s a exs q pos => i_cor q h5 fun _ c => BoolOp_one (h1 _ _ _ _ _ _ a _ c),fun sc env A fr μ s a exs q pos whole b hb => i_cor q h5 fun _ c => single_or (h2 _ _ _ _ _ _ a _ c b hb) pos whole,h6,h7,h8⟩
theorem SX.mkA {e1 e2 : X} (key : ∀ sc env A fr μ s,At W T sc env A d fr μ ρ σ s -> ∀ a0 b r,Cx sc a0 e1 -> Cand sc (b :: r) e2 -> ∀ pos,wpAny (model prog w) A (eval (.BoolOp .And (a0 :: b :: r) pos) env) (PE W fr μ s x σ') Fa s)
    (keyt : ∀ sc env A fr μ s,At W T sc env A d fr μ ρ σ s -> ∀ a0 b r,Cx sc a0 e1 -> Cand sc (b :: r) e2 -> ∀ pos whole t,truth x = some t -> wpAny (model prog w) A (isTrue (.BoolOp .And (a0 :: b :: r) pos) env whole) (PB W fr μ s t σ') Fa s) : SX prog w W T (.and e1 e2) d ρ σ x σ' := by
  have h1 : ∀ sc env A fr μ s,At W T sc env A d fr μ ρ σ s -> ∀ ex,Cx sc ex (.and e1 e2) -> wpAny (model prog w) A (eval ex env) (PE W fr μ s x σ') Fa s := fun sc env A fr μ s a ex c => i_and c fun {a0 b r p} c1 c2 => key sc env A fr μ s a a0 b r c1 c2 p
  have h2 : ∀ sc env A fr μ s,At W T sc env A d fr μ ρ σ s -> ∀ ex,Cx sc ex (.and e1 e2) -> ∀ b,truth x = some b -> wpAny (model prog w) A (isTrue ex env (eval ex env)) (PB W fr μ s b σ') Fa s := fun sc env A fr μ s a ex c t ht => i_and c fun {a0 b r p} c1 c2 => keyt sc env A fr μ s a a0 b r c1 c2 p _ t ht
  exact ⟨h1,h2,fun _ _ _ _ _ _ _ exs q => absurd q no_and,fun _ _ _ _ _ _ _ exs q => absurd q no_and,fun sc env A fr μ s a exs q pos => i_candA q (fun _ c => BoolOp_one (h1 _ _ _ _ _ _ a _ c)) fun _ _ _ c1 c2 => key _ _ _ _ _ _ a _ _ _ c1 c2 pos,
    fun sc env A fr μ s a exs q pos whole b hb => i_candA q (fun _ c => single_and (h2 _ _ _ _ _ _ a _ c b hb) pos whole) fun _ _ _ c1 c2 => keyt _ _ _ _ _ _ a _ _ _ c1 c2 pos whole b hb,fun sc env A fr μ s a exs q pos => i_cor q (fun _ _ => X.noConfusion) fun _ c => BoolOp_one (h1 _ _ _ _ _ _ a _ c),
    fun sc env A fr μ s a exs q pos whole b hb => i_cor q (fun _ _ => X.noConfusion) fun _ c => single_or (h2 _ _ _ _ _ _ a _ c b hb) pos whole,X.noConfusion,fun _ => X.noConfusion,fun _ => X.noConfusion⟩
theorem SX.mkO {e1 e2 : X} (key : ∀ sc env A fr μ s,At W T sc env A d fr μ ρ σ s -> ∀ a0 b r,Cx sc a0 e1 -> Cor sc (b :: r) e2 -> ∀ pos,wpAny (model prog w) A (eval (.BoolOp .Or (a0 :: b :: r) pos) env) (PE W fr μ s x σ') Fa s)
    (keyt : ∀ sc env A fr μ s,At W T sc env A d fr μ ρ σ s -> ∀ a0 b r,Cx sc a0 e1 -> Cor sc (b :: r) e2 -> ∀ pos whole t,truth x = some t -> wpAny (model prog w) A (isTrue (.BoolOp .Or (a0 :: b :: r) pos) env whole) (PB W fr μ s t σ') Fa s) : SX prog w W T (.or e1 e2) d ρ σ x σ' := by
  have h1 : ∀ sc env A fr μ s,At W T sc env A d fr μ ρ σ s -> ∀ ex,Cx sc ex (.or e1 e2) -> wpAny (model prog w) A (eval ex env) (PE W fr μ s x σ') Fa s := fun sc env A fr μ s a ex c => i_or c fun {a0 b r p} c1 c2 => key sc env A fr μ s a a0 b r c1 c2 p
  have h2 : ∀ sc env A fr μ s,At W T sc env A d fr μ ρ σ s -> ∀ ex,Cx sc ex (.or e1 e2) -> ∀ b,truth x = some b -> wpAny (model prog w) A (isTrue ex env (eval ex env)) (PB W fr μ s b σ') Fa s := fun sc env A fr μ s a ex c t ht => i_or c fun {a0 b r p} c1 c2 => keyt sc env A fr μ s a a0 b r c1 c2 p _ t ht
  exact ⟨h1,h2,fun _ _ _ _ _ _ _ exs q => absurd q no_or,fun _ _ _ _ _ _ _ exs q => absurd q no_or,fun sc env A fr μ s a exs q pos => i_cand q (fun _ _ => X.noConfusion) fun _ c => BoolOp_one (h1 _ _ _ _ _ _ a _ c),
    fun sc env A fr μ s a exs q pos whole b hb => i_cand q (fun _ _ => X.noConfusion) fun _ c => single_and (h2 _ _ _ _ _ _ a _ c b hb) pos whole,fun sc env A fr μ s a exs q pos => i_corO q (fun _ c => BoolOp_one (h1 _ _ _ _ _ _ a _ c)) fun _ _ _ c1 c2 => key _ _ _ _ _ _ a _ _ _ c1 c2 pos,
    fun sc env A fr μ s a exs q pos whole b hb => i_corO q (fun _ c => single_or (h2 _ _ _ _ _ _ a _ c b hb) pos whole) fun _ _ _ c1 c2 => keyt _ _ _ _ _ _ a _ _ _ c1 c2 pos whole b hb,X.noConfusion,fun _ => X.noConfusion,fun _ => X.noConfusion⟩
theorem SX.mk1 {e : X} (h1 : ∀ sc env A fr μ s,At W T sc env A d fr μ ρ σ s -> ∀ ex,Cx sc ex e -> wpAny (model prog w) A (eval ex env) (PE W fr μ s x σ') Fa s)
    (h2 : ∀ sc ex,Cx sc ex e -> plainTest ex = true)
    (h3 : ∀ sc exs,¬ Cxs sc exs e) (h4 : ∀ a b,e ≠ .and a b) (h5 : ∀ a b,e ≠ .or a b) (h6 : e = .cNone -> x = .none /\ σ' = σ) (h7 : ∀ b,e = .cBool b -> x = .bool b /\ σ' = σ) (h8 : ∀ i,e = .cInt i -> x = .int i /\ σ' = σ) : SX prog w W T e d ρ σ x σ' :=
  .mk2 h1 (fun sc env A fr μ s a ex q _ hb => test_of (h1 sc env A fr μ s a ex q) hb (isTrue_of_plain (h2 sc ex q) _ _)) h3 h4 h5 h6 h7 h8
end
section
variable {prog : Program} {w : World} {A : Around} {W : Wd} {fr μ : List Addr} {s : Shared} {σ : List O} {h : Heap}
theorem Reps.length {xs : List V} : ∀ {vs : List Value},Reps W fr μ h vs xs -> vs.length = xs.length := by
  induction xs with
  | nil => exact fun r => r.inv (fun vs => vs.length = 0) rfl
  | cons x xs ih => exact fun r => r.inv (fun vs => vs.length = xs.length + 1) fun _ _ _ r => congrArg (· + 1) (ih r)
theorem Reps.get {xs : List V} : ∀ {vs : List Value} (_ : Reps W fr μ h vs xs) {i : Nat} {x : V},xs[i]? = some x -> ∃ v,vs[i]? = some v /\ Rep W fr μ h v x := by
  induction xs with
  | nil => exact fun {_} _ {_ _} e => ns_ e
  | cons x xs ih =>
    refine fun {vs} r {i y} e => r.inv (fun vs => ∃ v,vs[i]? = some v /\ Rep W fr μ h v y) fun v vs r rs => ?_
    cases i with
    | zero => exact ⟨v,rfl,Option.some.inj e ▸ r⟩
    | succ i => exact ih rs (i := i) e
theorem Reps.append {xs : List V} : ∀ {vs : List Value} {vs' : List Value} {xs' : List V},Reps W fr μ h vs xs -> Reps W fr μ h vs' xs' -> Reps W fr μ h (vs ++ vs') (xs ++ xs') := by
  induction xs with
  | nil => exact fun {_ vs' xs'} r r' => r.inv (fun vs => Reps W fr μ h (vs ++ vs') xs') r'
  | cons x xs ih => exact fun {_ vs' xs'} r r' => r.inv (fun vs => Reps W fr μ h (vs ++ vs') (x :: (xs ++ xs'))) fun _ _ a b => .cons a (ih b r')
theorem Reps.set {xs : List V} {v : Value} {x : V} : ∀ {vs : List Value} (_ : Reps W fr μ h vs xs) (_ : Rep W fr μ h v x) (i : Nat),Reps W fr μ h (vs.set i v) (xs.set i x) := by
  induction xs with
  | nil => exact fun r q i => r.inv (fun vs => Reps W fr μ h (vs.set i v) []) .nil
  | cons y xs ih =>
    refine fun r q i => r.inv (fun vs => Reps W fr μ h (vs.set i v) ((y :: xs).set i x)) fun _ _ a b => ?_
    cases i with
    | zero => exact .cons q b
    | succ i => exact .cons a (ih b q i)
theorem rep_int {v : Value} {i : Int} (r : Rep W fr μ h v (.int i)) : ∃ t,v = .int i t := r.inv (fun v => ∃ t,v = .int i t) fun t => ⟨t,rfl⟩
noncomputable def isL : V -> Bool
  | .lst _ => true
  | _ => false
theorem nl {y : V} (h : isL y = false) (xs : List V) : y ≠ .lst xs := by rintro rfl; cases h
@[elab_as_elim] theorem rp_int {v : Value} {i : Int} {motive : Value -> Prop} (r : Rep W fr μ h v (.int i)) (f : ∀ t,motive (.int i t)) : motive v := r.inv motive f
@[elab_as_elim] theorem rp_none {v : Value} {motive : Value -> Prop} (r : Rep W fr μ h v .none) (f : motive .none) : motive v := r.inv motive f
@[elab_as_elim] theorem rp_bool {v : Value} {b : Bool} {motive : Value -> Prop} (r : Rep W fr μ h v (.bool b)) (f : motive (.bool b)) : motive v := r.inv motive f
@[elab_as_elim] theorem rp_ref {v : Value} {i : Nat} {motive : Value -> Prop} (r : Rep W fr μ h v (.ref i)) (f : ∀ a,μ[i]? = some a -> motive (.ref a)) : motive v := r.inv motive f
theorem o_list {a : Addr} {xs : List V} {motive : Prop} (r : ORep W fr μ h a (.list xs)) (f : ∀ items n,h.get? a = some (listOf items n) -> items.size <= maxLen -> Reps W fr μ h items.toList xs -> motive) : motive := by
  cases r with | list g sz rs => exact f _ _ g sz rs
@[elab_as_elim] theorem rp_str {v : Value} {l : List Nat} {motive : Value -> Prop} (r : Rep W fr μ h v (.str l)) (f : ∀ t x,x.cps.toList = l -> x.length <= maxLen -> motive (.str x t)) : motive v := r.inv motive f
theorem Rep.ofStr {x : Str} {t : Tok} {l : List Nat} (e : x.cps.toList = l) (q : x.length <= maxLen) : Rep W fr μ h (.str x t) (.str l) := e ▸ .str x t q
theorem str_len {x : Str} {l : List Nat} (e : x.cps.toList = l) : x.length = l.length := by subst e; simp [Str.length]
theorem obj_ext {o : Obj} {cl : Value} {dt : Data} (c : o.cls = cl /\ o.dict = none /\ o.slots = #[]) (d : o.data = dt) : o = { cls := cl,dict := none,data := dt,slots := #[] } := by
  obtain ⟨a,b,e,f⟩ := o
  obtain ⟨rfl,rfl,rfl⟩ := c
  cases d; rfl
structure TupAt (W : Wd) (fr μ : List Addr) (h : Heap) (v : Value) (xs : List V) : Prop where
  at_ : ∃ a o items n,v = .ref a /\ h.get? a = some o /\ o.cls = .type "tuple" /\ o.data = .seq items n /\ items.size <= maxLen /\ Reps W fr μ h items.toList xs
  ex : ∃ a items n,v = .ref a /\ h.get? a = some { cls := .type "tuple",dict := none,data := .seq items n,slots := #[] } /\ items.size <= maxLen /\ Reps W fr μ h items.toList xs
theorem rep_tup {v : Value} {xs : List V} (r : Rep W fr μ h v (.tup xs)) : TupAt W fr μ h v xs :=
  r.inv (fun v => TupAt W fr μ h v xs) fun _ _ _ _ e c d _ _ l r => ⟨⟨_,_,_,_,rfl,e,c.1,d,l,r⟩,_,_,_,rfl,e.trans (congrArg some (obj_ext c d)),l,r⟩
structure LstAt (W : Wd) (fr μ : List Addr) (h : Heap) (v : Value) (xs : List V) : Prop where
  at_ : ∃ a o items n,v = .ref a /\ h.get? a = some o /\ o.cls = .type "list" /\ o.data = .seq items n /\ items.size <= maxLen /\ Reps W fr μ h items.toList xs
  ex : ∃ a items n,v = .ref a /\ h.get? a = some { cls := .type "list",dict := none,data := .seq items n,slots := #[] } /\ items.size <= maxLen /\ Reps W fr μ h items.toList xs
theorem rep_lst {v : Value} {xs : List V} (r : Rep W fr μ h v (.lst xs)) : LstAt W fr μ h v xs :=
  r.inv (fun v => LstAt W fr μ h v xs) fun _ _ _ _ e c d _ _ l r => ⟨⟨_,_,_,_,rfl,e,c.1,d,l,r⟩,_,_,_,rfl,e.trans (congrArg some (obj_ext c d)),l,r⟩
@[elab_as_elim] theorem rp_tup {v : Value} {xs : List V} {motive : Value -> Prop} (r : TupAt W fr μ h v xs)
    (f : ∀ a o items n,h.get? a = some o -> o.cls = .type "tuple" -> o.data = .seq items n -> items.size <= maxLen -> Reps W fr μ h items.toList xs -> motive (.ref a)) : motive v := by
  obtain ⟨a,o,items,n,rfl,g,c,d,l,r⟩ := r.at_
  exact f a o items n g c d l r
@[elab_as_elim] theorem rp_lst {v : Value} {xs : List V} {motive : Value -> Prop} (r : LstAt W fr μ h v xs)
    (f : ∀ a o items n,h.get? a = some o -> o.cls = .type "list" -> o.data = .seq items n -> items.size <= maxLen -> Reps W fr μ h items.toList xs -> motive (.ref a)) : motive v := by
  obtain ⟨a,o,items,n,rfl,g,c,d,l,r⟩ := r.at_
  exact f a o items n g c d l r
theorem deref_ref {i : Nat} {x : V} (e : deref σ (.ref i) = some x) : ∃ xs,σ[i]? = some (.list xs) /\ x = .lst xs := by
  unfold deref at e
  split at e
  · rename_i j q
    cases q
    split at e
    · rename_i xs q; cases e; exact ⟨xs,q,rfl⟩
    · cases e
  · rename_i q; exact absurd rfl (q i)
theorem deref_rep (H : Hp W fr μ σ h) {v : Value} {x y : V} (r : Rep W fr μ h v x) (e : deref σ x = some y) : (∃ xs,y = .lst xs /\ LstAt W fr μ h v xs) \/ ((∀ xs,y ≠ .lst xs) /\ y = x /\ Rep W fr μ h v y) := by
  cases x with
  | ref i =>
    revert e
    refine rp_ref r fun a q e => ?_
    obtain ⟨xs,q2,rfl⟩ := deref_ref e
    exact o_list (H.obj _ _ _ q q2) fun items n q3 l r => .inl ⟨xs,rfl,⟨_,_,_,_,rfl,q3,rfl,rfl,l,r⟩,⟨_,_,_,rfl,q3,l,r⟩⟩
  | lst xs => exact some_e e (.inl ⟨_,rfl,rep_lst r⟩)
  | _ => exact some_e e (.inr ⟨fun _ => V.noConfusion,rfl,r⟩)
theorem new_seq {cls : String} (H : Hp W fr μ σ s.heap) (items : Array Value) :
    (∀ b o,s.heap.get? b = some o -> (s.heap.push { cls := .type cls,data := .seq items }).get? b = some o) /\
    (s.heap.push { cls := .type cls,data := .seq items }).get? s.heap.objs.size = some { cls := .type cls,data := .seq items } /\ s.heap.objs.size ∉ fr /\ s.heap.objs.size ∉ μ := by
  have nn : s.heap.get? s.heap.objs.size = none := none_of_size (Nat.le_refl _)
  refine ⟨fun b o q => Heap.get?_push_of_some _ q,Heap.get?_push_size _ rfl,fun q => ?_,fun q => ?_⟩
  · obtain ⟨o,x⟩ := H.frin _ q; rw [nn] at x; cases x
  · obtain ⟨o,x⟩ := H.size_not q; rw [nn] at x; cases x
theorem St.newTup {xs : List V} {items : Array Value} (H : Hp W fr μ σ s.heap) (r : Reps W fr μ s.heap items.toList xs) (l : items.size <= maxLen) {t' : Nat} :
    PE W fr μ s (.tup xs) σ (.ref s.heap.objs.size) { s with heap := s.heap.push { cls := .type "tuple",data := .seq items },toks := t' } := by
  obtain ⟨e,g,n1,n2⟩ := new_seq (cls := "tuple") H items
  exact St.ext H e (.tup g ⟨rfl,rfl,rfl⟩ rfl n1 n2 l (r.on (ch := []) (.ext e)))
theorem St.newLst {xs : List V} {items : Array Value} (H : Hp W fr μ σ s.heap) (r : Reps W fr μ s.heap items.toList xs) (l : items.size <= maxLen) {t' : Nat} :
    PE W fr μ s (.lst xs) σ (.ref s.heap.objs.size) { s with heap := s.heap.push { cls := .type "list",data := .seq items },toks := t' } := by
  obtain ⟨e,g,n1,n2⟩ := new_seq (cls := "list") H items
  exact St.ext H e (.lst g ⟨rfl,rfl,rfl⟩ rfl n1 n2 l (r.on (ch := []) (.ext e)))
theorem small_fits {a b : Int} (ha : small a = true) (hb : small b = true) : IntMulOk a b := by
  have ha : a.natAbs < 4611686018427387904 := of_decide_eq_true ha
  have hb : b.natAbs < 4611686018427387904 := of_decide_eq_true hb
  unfold IntMulOk
  have e : decide (Builtin.Int.intBits a > shortFactorBits) = false := by
    unfold Builtin.Int.intBits shortFactorBits
    refine decide_eq_false (Nat.not_lt.mpr ?_)
    split
    · omega
    · rename_i h
      have : a.natAbs.log2 < 62 := (Nat.log2_lt (by intro q; exact absurd (Int.natAbs_eq_zero.mp q) (by simpa using h))).mpr (by omega)
      omega
  rw [e]; simp
theorem bitNot_not (a : Int) : Builtin.bitNot (Builtin.bitNot a) = a := by unfold Builtin.bitNot; omega
theorem bitOr_pos {a b : Int} (ha : 0 <= a) (hb : 0 <= b) : Builtin.bitOr a b = ((a.toNat ||| b.toNat : Nat) : Int) := by
  unfold Builtin.bitOr Builtin.bitAnd
  have h1 : decide (0 <= Builtin.bitNot a) = false := decide_eq_false (by unfold Builtin.bitNot; omega)
  have h2 : decide (0 <= Builtin.bitNot b) = false := decide_eq_false (by unfold Builtin.bitNot; omega)
  rw [h1,h2]
  simp only [bitNot_not]
theorem der_rep (H : Hp W fr μ σ h) {v : Value} {x y : V} (r : Rep W fr μ h v x) (e : deref σ x = some y) (hn : isL y = false) : Rep W fr μ h v y := by
  rcases deref_rep H r e with ⟨xs,rfl,_⟩ | ⟨_,_,r⟩
  · cases hn
  · exact r
theorem der_lst (H : Hp W fr μ σ h) {v : Value} {x : V} {xs : List V} (r : Rep W fr μ h v x) (e : deref σ x = some (.lst xs)) : LstAt W fr μ h v xs := by
  rcases deref_rep H r e with ⟨xs,q,r⟩ | ⟨q,_⟩
  · cases q; exact r
  · exact absurd rfl (q _)
theorem int2_some {α : Type} {x y : V} {f : Int -> Int -> Option α} {z : α} {C : Prop} (e : int2 x y f = some z) (k : ∀ a b,x = .int a -> y = .int b -> f a b = some z -> C) : C := int_e e fun a ha e => int_e e fun b hb e => k a b ha hb e
theorem bin_int {op : Operator} (H : Hp W fr μ σ s.heap) {u v : Value} {x y x' y' z : V} (ru : Rep W fr μ s.heap u x) (rv : Rep W fr μ s.heap v y)
    (hx : deref σ x = some x') (hy : deref σ y = some y') {f : Int -> Int -> Option V} (hz : int2 x' y' f = some z)
    (k : ∀ a b t t',f a b = some z -> wpAny (model prog w) A (binaryOp op (.int a t) (.int b t')) (PE W fr μ s z σ) Fa s) : wpAny (model prog w) A (binaryOp op u v) (PE W fr μ s z σ) Fa s := by
  refine int2_some hz fun a b ha hb hz => ?_
  refine rp_int (der_rep H ru (ha ▸ hx) rfl) fun t => ?_
  refine rp_int (der_rep H rv (hb ▸ hy) rfl) fun t' => ?_
  exact k a b t t' hz
theorem seq_hl {a b : List V} {it1 it2 : Array Value} (q1 : Reps W fr μ h it1.toList a) (q2 : Reps W fr μ h it2.toList b) (c : a.length + b.length <= maxLen) : it1.size + it2.size <= sizeLine := by
  have h1 := q1.length; have h2 := q2.length
  rw [Array.length_toList] at h1 h2
  rw [h1,h2]; exact c
theorem no_items {a : List V} {it : Array Value} (q : Reps W fr μ h it.toList a) (h0 : it.isEmpty = true) : a = [] := by
  have := q.length
  rw [Array.isEmpty_iff.mp h0] at this
  exact List.length_eq_zero_iff.mp this.symm
theorem add_tup (H : Hp W fr μ σ s.heap) {u v : Value} {a b : List V} (r1 : Rep W fr μ s.heap u (.tup a)) (r2 : Rep W fr μ s.heap v (.tup b)) (c : a.length + b.length <= maxLen) :
    wpAny (model prog w) A (binaryOp .Add u v) (PE W fr μ s (.tup (a ++ b)) σ) Fa s := by
  obtain ⟨l,it1,n1,rfl,g1,s1,q1⟩ := (rep_tup r1).ex
  obtain ⟨l',it2,n2,rfl,g2,s2,q2⟩ := (rep_tup r2).ex
  have hl := seq_hl q1 q2 c
  by_cases h0 : it1.isEmpty = true
  · refine concat_meets ⟨_,g1,rfl⟩ ⟨_,g2,rfl⟩ noFill_tuple_add seq_tuple_add PySem.F.slot_tuple_add PySem.F.entry_tuple_add (PySem.F.args_tuple_add_2 _ _) (tuple_addW0 l l' it1 it2 n1 n2 none none #[] #[] h0) ⟨g1,g2,?_⟩
    rw [no_items q1 h0]
    exact St.here H r2
  · by_cases h1 : it2.isEmpty = true
    · refine concat_meets ⟨_,g1,rfl⟩ ⟨_,g2,rfl⟩ noFill_tuple_add seq_tuple_add PySem.F.slot_tuple_add PySem.F.entry_tuple_add (PySem.F.args_tuple_add_2 _ _) (tuple_addW1 l l' it1 it2 n1 n2 none none #[] #[] h0 h1) ⟨g1,g2,?_⟩
      rw [no_items q2 h1,List.append_nil]
      exact St.here H r1
    · refine concat_meets ⟨_,g1,rfl⟩ ⟨_,g2,rfl⟩ noFill_tuple_add seq_tuple_add PySem.F.slot_tuple_add PySem.F.entry_tuple_add (PySem.F.args_tuple_add_2 _ _) (tuple_addW2 l l' it1 it2 n1 n2 none none #[] #[] h0 h1 hl) ⟨g1,g2,?_⟩
      exact St.newTup H (by rw [Array.toList_append]; exact q1.append q2) (by rw [Array.size_append]; exact hl)
theorem add_lst (H : Hp W fr μ σ s.heap) {u v : Value} {a b : List V} (r1 : LstAt W fr μ s.heap u a) (r2 : LstAt W fr μ s.heap v b) (c : a.length + b.length <= maxLen) :
    wpAny (model prog w) A (binaryOp .Add u v) (PE W fr μ s (.lst (a ++ b)) σ) Fa s := by
  obtain ⟨l,it1,n1,rfl,g1,s1,q1⟩ := r1.ex
  obtain ⟨l',it2,n2,rfl,g2,s2,q2⟩ := r2.ex
  have hl := seq_hl q1 q2 c
  refine concat_meets ⟨_,g1,rfl⟩ ⟨_,g2,rfl⟩ noFill_list_add seq_list_add PySem.F.slot_list_add PySem.F.entry_list_add (PySem.F.args_list_add_2 _ _) (list_addW l l' it1 it2 n1 n2 none none #[] #[] hl) ⟨g1,g2,?_⟩
  exact St.newLst H (by rw [Array.toList_append]; exact q1.append q2) (by rw [Array.size_append]; exact hl)
theorem prim_add (H : Hp W fr μ σ s.heap) {u v : Value} {x y x' y' z : V} (ru : Rep W fr μ s.heap u x) (rv : Rep W fr μ s.heap v y)
    (hx : deref σ x = some x') (hy : deref σ y = some y') (hz : addV x' y' = some z) : wpAny (model prog w) A (binaryOp .Add u v) (PE W fr μ s z σ) Fa s := by
  cases x' with
  | int a =>
    refine int_e hz fun b hb hz => some_e hz ?_
    refine rp_int (der_rep H ru hx rfl) fun t => ?_
    refine rp_int (der_rep H rv (hb ▸ hy) rfl) fun t' => ?_
    exact add_int (St.same H (.int _ _))
  | str a =>
    refine str_e hz fun b hb hz => ite_e hz fun c hz => some_e hz ?_
    refine rp_str (der_rep H ru hx rfl) fun t x1 e1 l1 => ?_
    refine rp_str (der_rep H rv (hb ▸ hy) rfl) fun t' x2 e2 l2 => ?_
    have hl : x1.length + x2.length <= sizeLine := by rw [str_len e1,str_len e2]; exact c
    refine add_str (fun t' tk => St.same H (.ofStr ?_ ?_)) hl
    · rw [Str.cps_append,Array.toList_append,e1,e2]
    · rw [Str.length_append]; exact hl
  | tup a => exact tup_e hz fun b hb hz => ite_e hz fun c hz => some_e hz (add_tup H (der_rep H ru hx rfl) (der_rep H rv (hb ▸ hy) rfl) c)
  | lst a => exact lst_e hz fun b hb hz => ite_e hz fun c hz => some_e hz (add_lst H (der_lst H ru hx) (der_lst H rv (hb ▸ hy)) c)
  | _ => exact ns_ hz
theorem prim_bin {op : Operator} {o : BOp} (ho : bopOf op = some o) (H : Hp W fr μ σ s.heap) (hA : A.handled = none) {u v : Value} {x y x' y' z : V} (ru : Rep W fr μ s.heap u x) (rv : Rep W fr μ s.heap v y)
    (hx : deref σ x = some x') (hy : deref σ y = some y') (hz : binop o x' y' = some z) : wpAny (model prog w) A (binaryOp op u v) (PE W fr μ s z σ) Fa s := by
  cases op with
  | Add => cases ho; exact prim_add H ru rv hx hy hz
  | Sub => cases ho; exact bin_int H ru rv hx hy hz fun a b t t' e => by cases e; exact sub_int (St.same H (.int _ _))
  | Mult =>
    cases ho
    exact bin_int H ru rv hx hy hz fun a b t t' e => by
      obtain ⟨c,e⟩ := ite_some e; cases e
      have c := Bool.and_eq_true_iff.mp c
      exact mul_int (St.same H (.int _ _)) (small_fits c.1 c.2)
  | Mod =>
    cases ho
    exact bin_int H ru rv hx hy hz fun a b t t' e => by
      obtain ⟨c,e⟩ := ite_some e; cases e
      exact mod_int' c (St.same H (.int _ _))
  | LShift =>
    cases ho
    exact bin_int H ru rv hx hy hz fun a b t t' e => by
      obtain ⟨c,e⟩ := ite_some e; cases e
      have ha : a.natAbs < 4611686018427387904 := of_decide_eq_true c.2.2
      exact lshift_int_small c.1 (by omega) (by omega) (St.same H (.int _ _))
  | RShift =>
    cases ho
    exact bin_int H ru rv hx hy hz fun a b t t' e => by
      obtain ⟨c,e⟩ := ite_some e; cases e
      exact rshift_int c.1 (St.same H (.int _ _))
  | BitAnd =>
    cases ho
    exact bin_int H ru rv hx hy hz fun a b t t' e => by
      obtain ⟨c,e⟩ := ite_some e; cases e
      refine and_int (St.same H ?_)
      have : Builtin.bitAnd a b = ((a.toNat &&& b.toNat : Nat) : Int) := by unfold Builtin.bitAnd; rw [decide_eq_true c.1,decide_eq_true c.2]
      rw [this]; exact .int _ _
  | BitOr =>
    cases ho
    exact bin_int H ru rv hx hy hz fun a b t t' e => by
      obtain ⟨c,e⟩ := ite_some e; cases e
      refine or_int (St.same H ?_)
      rw [bitOr_pos c.1 c.2]; exact .int _ _
  | _ => exact ns_ ho
end
section
variable {prog : Program} {w : World} {A : Around} {W : Wd} {fr μ : List Addr} {s : Shared} {σ : List O} {h : Heap}
theorem beq_str (x y : Str) : (x == y) = (x.cps.toList == y.cps.toList) := by
  rw [Bool.eq_iff_iff,beq_iff_eq,beq_iff_eq]
  constructor
  · rintro rfl; rfl
  · intro e; cases x; cases y; simp only [Str.mk.injEq]; exact Array.toList_inj.mp e
mutual
noncomputable def toP : V -> PyData
  | .none => .none
  | .bool b => .bool b
  | .int i => .int i
  | .str s => .str ⟨s.toArray⟩
  | .tup xs => .tuple (toPs xs)
  | .lst xs => .list (toPs xs)
  | _ => .none
noncomputable def toPs : List V -> List PyData
  | [] => []
  | x :: xs => toP x :: toPs xs
end
mutual
theorem reads_of : ∀ (n : Nat) (x : V) (v : Value),dataOk n x = true -> Rep W fr μ h v x -> ∃ as,Reads h v (toP x) as /\ (toP x).canLay0 = true /\ (toP x).depth <= n
  | n,.none,v,_,r => by cases r; exact ⟨_,.none,rfl,by simp [toP,PyData.depth]⟩
  | n,.int i,v,_,r => by cases r; exact ⟨_,.int _ _,rfl,by simp [toP,PyData.depth]⟩
  | n,.str l,v,ok,r => by
    refine rp_str r fun t x e _ => ?_
    have ex : x = ⟨l.toArray⟩ := by cases x; subst e; rfl
    subst ex
    refine ⟨_,.str _ _,?_,by simp [toP,PyData.depth]⟩
    simp only [dataOk] at ok
    simp only [toP,PyData.canLay0,PyData.strOk]
    simpa using ok
  | 0,.tup xs,v,ok,r => by simp [dataOk] at ok
  | n + 1,.tup xs,v,ok,r => by
    simp only [dataOk] at ok
    cases r with
    | tup e c d n1 n2 l rs =>
      obtain ⟨as,q,q2,q3⟩ := readss_of n xs _ ok rs
      exact ⟨_,.tuple e c.1 d q,by simpa [toP,PyData.canLay0] using q2,by simp only [toP,PyData.depth]; omega⟩
  | 0,.lst xs,v,ok,r => by simp [dataOk] at ok
  | n + 1,.lst xs,v,ok,r => by
    simp only [dataOk] at ok
    cases r with
    | lst e c d n1 n2 l rs =>
      obtain ⟨as,q,q2,q3⟩ := readss_of n xs _ ok rs
      exact ⟨_,.list e c.1 d q,by simpa [toP,PyData.canLay0] using q2,by simp only [toP,PyData.depth]; omega⟩
  | n,.undef,v,ok,r => by cases r
  | n,.bool b,v,ok,r => by simp [dataOk] at ok
  | n,.dct _,v,ok,r => by simp [dataOk] at ok
  | n,.ref _,v,ok,r => by simp [dataOk] at ok
  | n,.inst _ _,v,ok,r => by simp [dataOk] at ok
theorem readss_of : ∀ (n : Nat) (xs : List V) (vs : List Value),dataOks n xs = true -> Reps W fr μ h vs xs -> ∃ as,ReadsAll h vs (toPs xs) as /\ PyData.canLayAll0 (toPs xs) = true /\ PyData.depthAll (toPs xs) <= n
  | n,[],_,_,.nil => ⟨_,.nil,rfl,by simp [toPs,PyData.depthAll]⟩
  | n,x :: xs,_,ok,.cons r rs => by
    simp only [dataOks,Bool.and_eq_true] at ok
    obtain ⟨as,q,q2,q3⟩ := reads_of n x _ ok.1 r
    obtain ⟨bs,p,p2,p3⟩ := readss_of n xs _ ok.2 rs
    refine ⟨_,.cons q p,?_,?_⟩
    · simp [toPs,PyData.canLayAll0,q2,p2]
    · simp only [toPs,PyData.depthAll]; omega
end
theorem seqEq_some {a b : List V} {c : Bool} (e : seqEq a b = some c) : dataOks 8 a = true /\ dataOks 8 b = true /\ (PyData.canLayAll0 (toPs a) = true -> PyData.eqvAll (toPs a) (toPs b) = c) := by
  obtain ⟨ok,e⟩ := ite_some e
  cases b with
  | nil => cases e; exact ⟨ok,rfl,fun _ => by cases a <;> rfl⟩
  | cons y r =>
    have q := (@ite_some _ _ (Classical.propDecidable _) _ _ e).1
    have e := (@ite_some _ _ (Classical.propDecidable _) _ _ e).2
    cases e
    subst q
    exact ⟨ok,ok,SeqAt.eqvAll_refl _⟩
theorem lst_reads {v : Value} {xs : List V} {n : Nat} (L : LstAt W fr μ h v xs) (ok : dataOks n xs = true) : ∃ as,Reads h v (.list (toPs xs)) as /\ (PyData.list (toPs xs)).canLay0 = true /\ (PyData.list (toPs xs)).depth <= n + 1 := by
  refine rp_lst L fun a o items k g c d l r => ?_
  obtain ⟨as,q,q2,q3⟩ := readss_of n xs _ ok r
  exact ⟨_,.list g c d q,by simpa [PyData.canLay0] using q2,by simp only [PyData.depth]; omega⟩
theorem tup_reads {v : Value} {xs : List V} {n : Nat} (L : TupAt W fr μ h v xs) (ok : dataOks n xs = true) : ∃ as,Reads h v (.tuple (toPs xs)) as /\ (PyData.tuple (toPs xs)).canLay0 = true /\ (PyData.tuple (toPs xs)).depth <= n + 1 := by
  refine rp_tup L fun a o items k g c d l r => ?_
  obtain ⟨as,q,q2,q3⟩ := readss_of n xs _ ok r
  exact ⟨_,.tuple g c d q,by simpa [PyData.canLay0] using q2,by simp only [PyData.depth]; omega⟩
inductive Two (W : Wd) (fr μ : List Addr) (h : Heap) (v : Value) : V -> Prop
  | lst {xs : List V} : LstAt W fr μ h v xs -> Two W fr μ h v (.lst xs)
  | other {x : V} : (∀ xs,x ≠ .lst xs) -> Rep W fr μ h v x -> Two W fr μ h v x
theorem two_of (H : Hp W fr μ σ h) {v : Value} {x y : V} (r : Rep W fr μ h v x) (e : deref σ x = some y) : Two W fr μ h v y := by
  rcases deref_rep H r e with ⟨xs,rfl,q⟩ | ⟨q,_,q2⟩
  · exact .lst q
  · exact .other q q2
theorem Two.rep {v : Value} {x : V} (t : Two W fr μ h v x) (hx : ∀ xs,x ≠ .lst xs) : Rep W fr μ h v x := by
  cases t with
  | lst _ => exact absurd rfl (hx _)
  | other _ q => exact q
theorem Two.lstAt {v : Value} {xs : List V} (t : Two W fr μ h v (.lst xs)) : LstAt W fr μ h v xs := by
  cases t with
  | lst q => exact q
  | other q _ => exact absurd rfl (q _)
noncomputable def eqOp (neg : Bool) : CmpOp := cond neg .NotEq .Eq
theorem rc_eqn (neg : Bool) {a b : Value} {c : Bool} {Q : Value -> Shared -> Prop} (e : SeqAt.RcAt A s a b c) (e' : SeqAt.RcNeAt A s a b (!c)) (h : Q (.bool (cond neg (!c) c)) s) : wpAny (model prog w) A (compareOp (eqOp neg) a b) Q Fa s := by
  cases neg
  · exact e prog w Fa Q h
  · exact e' prog w Fa Q h
theorem prim_eqn (neg : Bool) {u v : Value} {x y : V} {b : Bool} (hu : A.units + 100 < cLine) (ru : Two W fr μ s.heap u x) (rv : Two W fr μ s.heap v y) (hb : veq x y = some b) {Q : Value -> Shared -> Prop} (h : Q (.bool (cond neg (!b) b)) s) :
    wpAny (model prog w) A (compareOp (eqOp neg) u v) Q Fa s := by
  cases x with
  | bool a =>
    refine bool_e hb fun a' ha hb => ?_
    subst ha
    refine rp_bool (ru.rep (nl rfl)) ?_
    refine rp_bool (rv.rep (nl rfl)) ?_
    have hb := Option.some.inj hb
    subst hb
    exact rc_eqn neg (.bool_bool _ _) (.bool_bool _ _) h
  | int a =>
    refine int_e hb fun a' ha hb => ?_
    subst ha
    cases hb
    refine rp_int (ru.rep (nl rfl)) fun t => ?_
    refine rp_int (rv.rep (nl rfl)) fun t' => ?_
    cases neg
    · exact eq_int h
    · exact ne_int h
  | str a =>
    refine str_e hb fun a' ha hb => ?_
    subst ha
    cases hb
    refine rp_str (ru.rep (nl rfl)) fun t x e _ => ?_
    refine rp_str (rv.rep (nl rfl)) fun t' x' e' _ => ?_
    cases neg
    · exact eq_str (by rw [beq_str,e,e']; exact h)
    · exact ne_str (by rw [bne,beq_str,e,e']; exact h)
  | tup l => cases y with
    | str _ =>
      cases hb
      refine rp_tup (rep_tup (ru.rep (nl rfl))) fun a o items k g c d _ _ => ?_
      refine rp_str (rv.rep (nl rfl)) fun t' x' e' _ => ?_
      exact rc_eqn neg (.tuple_str _ _ ⟨o,g,c,k,d⟩ (by omega)) (.tuple_str _ _ ⟨o,g,c,k,d⟩ (by omega)) h
    | int _ =>
      cases hb
      refine rp_tup (rep_tup (ru.rep (nl rfl))) fun a o items k g c d _ _ => ?_
      refine rp_int (rv.rep (nl rfl)) fun t' => ?_
      exact rc_eqn neg (.tuple_int _ _ ⟨o,g,c,k,d⟩ (by omega)) (.tuple_int _ _ ⟨o,g,c,k,d⟩ (by omega)) h
    | tup l' =>
      obtain ⟨c1,c2,c3⟩ := seqEq_some hb
      obtain ⟨as,q1,q2,q3⟩ := tup_reads (rep_tup (ru.rep (nl rfl))) c1
      obtain ⟨bs,p1,p2,p3⟩ := tup_reads (rep_tup (rv.rep (nl rfl))) c2
      have e : PyData.eqv (.tuple (toPs l)) (.tuple (toPs l')) = b := c3 (by simpa [PyData.canLay0] using q2)
      rw [← e] at h
      cases neg
      · exact SeqAt.compareEq_reads q1 p1 q2 p2 (by omega) h
      · exact SeqAt.compareNe_reads q1 p1 q2 p2 (by omega) h
    | _ => exact ns_ hb
  | lst l =>
      refine lst_e hb fun l' hl hb => ?_
      subst hl
      obtain ⟨c1,c2,c3⟩ := seqEq_some hb
      obtain ⟨as,q1,q2,q3⟩ := lst_reads ru.lstAt c1
      obtain ⟨bs,p1,p2,p3⟩ := lst_reads rv.lstAt c2
      have e : PyData.eqv (.list (toPs l)) (.list (toPs l')) = b := c3 (by simpa [PyData.canLay0] using q2)
      rw [← e] at h
      cases neg
      · exact SeqAt.compareEq_reads q1 p1 q2 p2 (by omega) h
      · exact SeqAt.compareNe_reads q1 p1 q2 p2 (by omega) h
  | _ => exact ns_ hb
end
section
variable {prog : Program} {w : World} {A : Around} {W : Wd} {fr μ : List Addr} {s : Shared} {σ : List O} {h : Heap}
theorem two_rep {v : Value} {x : V} (r : Rep W fr μ h v x) : Two W fr μ h v x := by
  by_cases q : ∃ xs,x = .lst xs
  · obtain ⟨xs,rfl⟩ := q
    exact .lst (rep_lst r)
  · exact .other (fun xs e => q ⟨xs,e⟩) r
theorem strOf_eq {x : Str} {k : List Nat} (e : x.cps.toList = k) : x = ⟨k.toArray⟩ := by cases x; subst e; rfl
theorem findBy_rep (k : List Nat) {kvs : List (List Nat × V)} : ∀ {es : List DictEntry},RepD W fr μ h es kvs →
    match lookupD k kvs with
    | some x => ∃ v,findBy Value.isStrOf es.toArray (⟨k.toArray⟩ : Str) = some v /\ Rep W fr μ h v x
    | none => findBy Value.isStrOf es.toArray (⟨k.toArray⟩ : Str) = none := by
  induction kvs with
  | nil => exact fun r => r.inv (fun es => findBy Value.isStrOf es.toArray (⟨k.toArray⟩ : Str) = none) rfl
  | cons p kvs ih =>
    obtain ⟨a,x⟩ := p
    refine fun {es} r => r.inv (fun es => match lookupD k ((a,x) :: kvs) with
      | some x => ∃ v,findBy Value.isStrOf es.toArray (⟨k.toArray⟩ : Str) = some v /\ Rep W fr μ h v x
      | none => findBy Value.isStrOf es.toArray (⟨k.toArray⟩ : Str) = none) fun k' t v es ek r rs => ?_
    have ih := ih rs
    have e0 : findBy Value.isStrOf ((⟨PyData.keyHash W.P k',.str k' t,v⟩ :: es : List DictEntry)).toArray (⟨k.toArray⟩ : Str) = if k' = ⟨k.toArray⟩ then some v else findBy Value.isStrOf es.toArray (⟨k.toArray⟩ : Str) := by
      unfold findBy
      rw [← Array.find?_toList,← Array.find?_toList]
      simp only [List.find?_cons,Value.isStrOf]
      by_cases q : k' = ⟨k.toArray⟩
      · subst q; simp
      · have : (k' == (⟨k.toArray⟩ : Str)) = false := by simpa using q
        rw [this,if_neg q]
    rw [e0]
    show match (if a = k then some x else lookupD k kvs) with
      | some x => ∃ v',(if k' = ⟨k.toArray⟩ then some v else findBy Value.isStrOf es.toArray (⟨k.toArray⟩ : Str)) = some v' /\ Rep W fr μ h v' x
      | none => (if k' = ⟨k.toArray⟩ then some v else findBy Value.isStrOf es.toArray (⟨k.toArray⟩ : Str)) = none
    by_cases q : a = k
    · rw [if_pos q,if_pos (strOf_eq (ek.trans q))]
      exact ⟨v,rfl,r⟩
    · have : ¬ k' = ⟨k.toArray⟩ := fun e => q (ek.symm.trans (by rw [e]))
      rw [if_neg q,if_neg this]
      exact ih
theorem keysOf_rep {kvs : List (List Nat × V)} : ∀ {es : List DictEntry} (_ : RepD W fr μ h es kvs),∀ e ∈ es,∃ k,Value.isStrOf k e.key = true /\ e.hash = PyData.keyHash W.P k := by
  induction kvs with
  | nil => exact fun r => r.inv (fun es => ∀ e ∈ es,∃ k,Value.isStrOf k e.key = true /\ e.hash = PyData.keyHash W.P k) fun e he => absurd he List.not_mem_nil
  | cons p kvs ih =>
    refine fun r => r.inv (fun es => ∀ e ∈ es,∃ k,Value.isStrOf k e.key = true /\ e.hash = PyData.keyHash W.P k) fun k' t v es _ r rs e he => ?_
    rcases List.mem_cons.mp he with rfl | he
    · exact ⟨k',by simp [Value.isStrOf],rfl⟩
    · exact ih rs e he
theorem mapOf_rep (hw : W.P = w.params) {a : Addr} {es : List DictEntry} {n : Nat} {kvs : List (List Nat × V)} (g : h.get? a = some (dictOf es n)) (r : RepD W fr μ h es kvs) :
    h.MapOf (PySem.strKind prog w) a (fun k => findBy Value.isStrOf es.toArray k) := by
  refine ⟨_,_,_,g,⟨rfl,rfl,rfl⟩,rfl,fun e he => ?_,fun k => rfl⟩
  obtain ⟨k,q1,q2⟩ := keysOf_rep r e (by simpa using he)
  refine ⟨k,q1,q2.trans ?_⟩
  rw [hw]; rfl
theorem isStr_e {x : V} (h : isStr x = true) : ∃ l,x = .str l := by cases x <;> first | exact ⟨_,rfl⟩ | exact absurd h Bool.false_ne_true
theorem all_isStr {xs : List V} : xs.all isStr = true -> ∀ {vs : List Value},Reps W fr μ h vs xs -> ∀ v ∈ vs,∃ x t,v = .str x t := by
  induction xs with
  | nil => exact fun _ {vs} r => r.inv (fun vs => ∀ v ∈ vs,∃ x t,v = .str x t) fun v hv => absurd hv List.not_mem_nil
  | cons x xs ih =>
    refine fun ok {vs} r => r.inv (fun vs => ∀ v ∈ vs,∃ x t,v = .str x t) fun u us r rs v hv => andE ok fun ok1 ok2 => ?_
    rcases List.mem_cons.mp hv with rfl | hv
    · obtain ⟨l,rfl⟩ := isStr_e ok1
      exact rp_str r fun t x _ _ => ⟨x,t,rfl⟩
    · exact ih ok2 rs v hv
noncomputable def vIs (x : Str) : Value -> Bool
  | .str y _ => y == x
  | _ => false
theorem any_is {x : Str} {l : List Nat} (e : x.cps.toList = l) {xs : List V} : xs.all isStr = true -> ∀ {vs : List Value},Reps W fr μ h vs xs -> vs.any (vIs x) = xs.any (strIs l) := by
  induction xs with
  | nil => exact fun _ {vs} r => r.inv (fun vs => vs.any (vIs x) = false) rfl
  | cons y xs ih =>
    refine fun ok {vs} r => r.inv (fun vs => vs.any (vIs x) = (y :: xs).any (strIs l)) fun u us r rs => andE ok fun ok1 ok2 => ?_
    rw [List.any_cons,List.any_cons,ih ok2 rs]
    obtain ⟨l',rfl⟩ := isStr_e ok1
    refine rp_str r fun t y e' _ => ?_
    show (y == x || _) = (l' == l || _)
    rw [beq_str,e,e']
theorem leS_some {a b : List Nat} {c : Bool} {C : Prop} (e : leS a b = some c) (f : ∀ x y,a = [x] -> b = [y] -> decide (x <= y) = c -> C) : C := one_e e fun x hx e => one_e e fun y hy e => f x y hx hy (Option.some.inj e)
theorem oneIn_some {a b : List Nat} {c : Bool} {C : Prop} (e : oneIn a b = some c) (f : ∀ x,a = [x] -> b.contains x = c -> C) : C := one_e e fun x hx e => f x hx (Option.some.inj e)
theorem found_is {x1 x2 : Str} {a : Nat} {l : List Nat} (e1 : x1.cps.toList = [a]) (e2 : x2.cps.toList = l) : (!(Builtin.Str.occurrences x2 x1 0 x2.length 1).isEmpty) = l.contains a := by
  obtain rfl := strOf_eq e1
  rw [show (⟨[a].toArray⟩ : Str) = ⟨#[a]⟩ from rfl,StrLaws.found_one,e2,Bool.eq_iff_iff,decide_eq_true_eq,List.contains_iff_mem]
@[elab_as_elim] theorem key_in (hw : W.P = w.params) {v : Value} {kvs : List (List Nat × V)} (r : Rep W fr μ s.heap v (.dct kvs)) (x1 : Str) {motive : Value -> Prop}
    (f : ∀ a m,(a == sysModules) = false -> s.heap.MapOf (PySem.strKind prog w) a m -> (m x1).isSome = (lookupD x1.cps.toList kvs).isSome -> motive (.ref a)) : motive v := by
  cases r with
  | dct g n1 n2 sm l rs =>
    refine f _ _ sm (mapOf_rep hw g rs) ?_
    have := findBy_rep x1.cps.toList rs
    rw [show (⟨x1.cps.toList.toArray⟩ : Str) = x1 from (strOf_eq rfl).symm] at this
    cases q : lookupD x1.cps.toList kvs with
    | none => rw [q] at this; rw [this]; rfl
    | some y => rw [q] at this; obtain ⟨z,z1,_⟩ := this; rw [z1]; rfl
theorem prim_in (neg : Bool) (hw : W.P = w.params) (H : Hp W fr μ σ s.heap) {u v : Value} {x y : V} {b : Bool} (ru : Two W fr μ s.heap u x) (rv : Two W fr μ s.heap v y)
    (hb : inV x y = some b) : wpAny (model prog w) A (compareOp (cond neg .NotIn .In) u v) (PE W fr μ s (.bool (cond neg (!b) b)) σ) Fa s := by
  refine str_e hb fun a ha hb => ?_
  · subst ha
    refine rp_str (ru.rep (nl rfl)) fun t x1 e1 _ => ?_
    cases y with
    | str l =>
      refine oneIn_some hb fun c hc hb2 => ?_
      subst hb2
      subst hc
      refine rp_str (rv.rep (nl rfl)) fun t' x2 e2 _ => ?_
      rw [← found_is e1 e2]
      cases neg
      · exact in_str (St.here H (.bool _))
      · exact notIn_str (by rw [Bool.not_not]; exact St.here H (.bool _))
    | tup l =>
      obtain ⟨ok,hb⟩ := ite_some hb
      cases hb
      refine rp_tup (rep_tup (rv.rep (nl rfl))) fun d o items k g c dd _ rs => ?_
      have hy : ∀ y,y ∈ items -> SeqAt.EqAt A.in1 s y (.str x1 t) (vIs x1 y) := fun y hy => by
        obtain ⟨y',t',rfl⟩ := all_isStr ok rs y (by simpa using hy)
        exact SeqAt.EqAt.str_str _ _ _ _
      rw [← any_is e1 ok rs,Array.any_toList]
      cases neg
      · exact SeqAt.in_tupleAt (vIs x1) ⟨o,g,c,k,dd⟩ hy (St.here H (.bool _))
      · exact SeqAt.notIn_tupleAt (vIs x1) ⟨o,g,c,k,dd⟩ hy (St.here H (.bool _))
    | dct l =>
      cases hb
      refine key_in (prog := prog) hw (rv.rep (nl rfl)) x1 fun a' m sm hm e => ?_
      rw [← e1,← e]
      cases neg
      · exact wpAny_in_of (knd := PySem.strKind prog w) (k := x1) (by simp [PySem.strKind,Value.isStrOf]) sm hm (St.same H (.bool _))
      · exact wpAny_notIn_of (knd := PySem.strKind prog w) (k := x1) (by simp [PySem.strKind,Value.isStrOf]) sm hm (St.same H (.bool _))
    | _ => exact ns_ hb
theorem prim_is (neg : Bool) (H : Hp W fr μ σ s.heap) {u v : Value} {x y : V} {b : Bool} (ru : Two W fr μ s.heap u x) (rv : Two W fr μ s.heap v y)
    (hb : isV x y = some b) : wpAny (model prog w) A (compareOp (cond neg .IsNot .Is) u v) (PE W fr μ s (.bool (cond neg (!b) b)) σ) Fa s := by
  refine nil_e hb fun hy hb => ?_
  subst hy
  refine rp_none (rv.rep (nl rfl)) ?_
  have e : (u == Value.none) = b := by
    cases ru with
    | lst L => exact rp_lst L fun _ _ _ _ _ _ _ _ _ => Option.some.inj hb
    | other _ r => cases r <;> exact Option.some.inj hb
  subst e
  cases neg
  · exact is_none (St.here H (.bool _))
  · exact isNot_none (St.here H (.bool _))
theorem prim_lt {op : CmpOp} {u v : Value} {x y : V} {b : Bool} (ru : Two W fr μ s.heap u x) (rv : Two W fr μ s.heap v y) {f : Int -> Int -> Bool} (hb : int2 x y (fun a b => some (f a b)) = some b)
    (k : ∀ a c t t',wpAny (model prog w) A (compareOp op (.int a t) (.int c t')) (PE W fr μ s (.bool (f a c)) σ) Fa s) : wpAny (model prog w) A (compareOp op u v) (PE W fr μ s (.bool b) σ) Fa s := by
  refine int2_some hb fun a c ha hc hb => some_e hb ?_
  subst ha hc
  refine rp_int (ru.rep (nl rfl)) fun t => ?_
  refine rp_int (rv.rep (nl rfl)) fun t' => ?_
  exact k a c t t'
theorem prim_le (H : Hp W fr μ σ s.heap) {u v : Value} {x y : V} {b : Bool} (ru : Two W fr μ s.heap u x) (rv : Two W fr μ s.heap v y)
    (hb : leV x y = some b) : wpAny (model prog w) A (compareOp .LtE u v) (PE W fr μ s (.bool b) σ) Fa s := by
  cases x with
  | int a =>
    refine int_e hb fun c hc hb => some_e hb ?_
    subst hc
    refine rp_int (ru.rep (nl rfl)) fun t => ?_
    refine rp_int (rv.rep (nl rfl)) fun t' => ?_
    exact le_int (St.here H (.bool _))
  | str a =>
    refine str_e hb fun c hc hb => leS_some hb fun a c ha hc' hb2 => ?_
    subst hb2
    subst hc ha hc'
    refine rp_str (ru.rep (nl rfl)) fun t x1 e1 _ => ?_
    refine rp_str (rv.rep (nl rfl)) fun t' x2 e2 _ => ?_
    refine P.le_str ?_
    rw [e1,e2]
    have : (!decide ([c] < [a])) = decide (a <= c) := by
      rw [Bool.eq_iff_iff]
      simp only [Bool.not_eq_true',decide_eq_false_iff_not,decide_eq_true_eq,List.cons_lt_cons_iff,List.not_lt_nil,and_false,or_false]
      omega
    rw [this]; exact St.here H (.bool _)
  | _ => exact ns_ hb
theorem prim_cmp {op : CmpOp} (hw : W.P = w.params) (H : Hp W fr μ σ s.heap) (hu : A.units + 100 < cLine) {u v : Value} {x y : V} {b : Bool} (ru : Two W fr μ s.heap u x) (rv : Two W fr μ s.heap v y)
    (hb : cmpop (copOf op) x y = some b) : wpAny (model prog w) A (compareOp op u v) (PE W fr μ s (.bool b) σ) Fa s := by
  have done : PE W fr μ s (.bool b) σ (.bool b) s := St.here H (.bool b)
  cases op with
  | Eq => exact prim_eqn false hu ru rv hb done
  | NotEq =>
    obtain ⟨c,hc,rfl⟩ := map_some hb
    exact prim_eqn true hu ru rv hc done
  | Lt => exact prim_lt ru rv hb fun _ _ _ _ => lt_int (St.here H (.bool _))
  | LtE => exact prim_le H ru rv hb
  | Gt => exact prim_lt ru rv hb fun _ _ _ _ => gt_int (St.here H (.bool _))
  | GtE => exact prim_lt ru rv hb fun _ _ _ _ => ge_int (St.here H (.bool _))
  | In => exact prim_in false hw H ru rv hb
  | NotIn =>
    obtain ⟨c,hc,rfl⟩ := map_some hb
    exact prim_in true hw H ru rv hc
  | Is => exact prim_is false H ru rv hb
  | IsNot =>
    obtain ⟨c,hc,rfl⟩ := map_some hb
    exact prim_is true H ru rv hc
end
section
variable {prog : Program} {w : World} {A : Around} {W : Wd} {fr μ : List Addr} {s : Shared} {σ : List O} {h : Heap}
set_option tactic.hygienic false in
theorem subscripted_plain {slice : PySem.Expr} (hs : isSlice slice = false) (o i : Value) : subscripted slice false o i = operate [o,i] (getItem o i) := by
  cases slice <;> first | rfl | (cases hs)
theorem place_some {n : Nat} {k : Int} {j : Nat} (e : place n k = some j) : j < n /\ ((0 <= k /\ k = j) \/ (k < 0 /\ k + n = j)) := by
  unfold place at e
  split at e
  · split at e
    · cases e; omega
    · cases e
  · split at e
    · cases e; omega
    · cases e
theorem place_seq {n : Nat} {k : Int} {j : Nat} (e : place n k = some j) : seqIndex? k n = some j := by
  obtain ⟨h1,h2⟩ := place_some e
  rcases h2 with ⟨h2,h3⟩ | ⟨h2,h3⟩
  · rw [seqIndex_of h2 (by omega)]; congr 1; omega
  · rw [seqIndex_neg h2 (by omega)]; congr 1; omega
theorem prim_item {value slice : PySem.Expr} (hs : isSlice slice = false) (hw : W.P = w.params) (H : Hp W fr μ σ s.heap) {u v : Value} {x y z : V} (ru : Two W fr μ s.heap u x) (rv : Rep W fr μ s.heap v y) (hz : item x y = some z) :
    wpAny (model prog w) A (subscriptTail value slice u v) (PE W fr μ s z σ) Fa s := by
  cases x with
  | tup xs =>
    refine int_e hz fun k hk hz => bnd_e hz fun j hj hx => ?_
    subst hk
    refine rp_int rv fun t => ?_
    refine rp_tup (rep_tup (ru.rep (nl rfl))) fun a o items n g c d l r => ?_
    have hs1 := place_some hj
    have len := r.length
    obtain ⟨v,hv,rv⟩ := r.get hx
    have ht : IsTup s.heap a items := ⟨o,g,c,n,d⟩
    have e : maxLen = 16777216 := rfl
    simp only [Array.length_toList] at len
    refine tail_any ht.typeIs slot_tuple_getitem.lookup (PyProof.Rows.getItem_tuple ht (by omega) (by omega) (by rw [len]; exact place_seq hj) (by simpa using hv) (St.here H rv)) (subscripted_plain hs _ _)
  | lst xs =>
    refine int_e hz fun k hk hz => bnd_e hz fun j hj hx => ?_
    subst hk
    refine rp_int rv fun t => ?_
    refine rp_lst ru.lstAt fun a o items n g c d l r => ?_
    have hs1 := place_some hj
    have len := r.length
    obtain ⟨v,hv,rv⟩ := r.get hx
    have ht : s.heap.IsList a items := ⟨o,g,c,n,d⟩
    have e : maxLen = 16777216 := rfl
    simp only [Array.length_toList] at len
    refine tail_any ht.typeIs slot_list_getitem.lookup ?_ (subscripted_plain hs _ _)
    rcases hs1 with ⟨h1,⟨h2,h3⟩ | ⟨h2,h3⟩⟩
    · refine wpAny_getItem_list ht h2 (by omega) ?_ (St.here H rv)
      rw [show Int.toNat _ = j from by rw [h3]; rfl]; simpa using hv
    · refine wpAny_getItem_list_neg ht h2 (by omega) (by omega) ?_ (St.here H rv)
      rw [len,h3]; simpa using hv
  | str xs =>
    refine int_e hz fun k hk hz => bnd_e hz fun j hj hx => ?_
    subst hk
    obtain ⟨c,hc,rfl⟩ := map_some hx
    refine rp_int rv fun t => ?_
    refine rp_str (ru.rep (nl rfl)) fun t' x e l => ?_
    have hs1 := place_some hj
    have len := str_len e
    have e0 : maxLen = 16777216 := rfl
    refine tail_any (typeIs_str _ _ _) slot_str_getitem.lookup (PyProof.Rows.getItem_str (c := c) ?_ ?_ ?_) (subscripted_plain hs _ _)
    · simp only [Bool.or_eq_false_iff,decide_eq_false_iff_not]; omega
    · rw [len,place_seq hj]
      show x.cps[j]? = some c
      rw [← Array.getElem?_toList,e]; exact hc
    · exact St.same H (.ofStr rfl (by show 1 <= maxLen; decide))
  | dct xs =>
    refine str_e hz fun k0 hk hz => ?_
    subst hk
    refine rp_str rv fun t k e l => ?_
    have rd := ru.rep (nl rfl)
    cases rd with
    | dct g n1 n2 sm l rs =>
      have := findBy_rep k.cps.toList rs
      rw [e,show lookupD _ _ = some z from hz] at this
      obtain ⟨v,hv,rv⟩ := this
      rw [← strOf_eq e] at hv
      have m := mapOf_rep (prog := prog) (w := w) hw g rs
      exact tail_any m.typeIs slot_dict_getitem.lookup (wpAny_getItem_of (knd := PySem.strKind prog w) (k := k) (by simp [PySem.strKind,Value.isStrOf]) m hv (St.same H rv)) (subscripted_plain hs _ _)
  | _ => exact ns_ hz
theorem range_cut {α : Type} (xs : Array α) (a b : Nat) (_ : b <= xs.size) : ((sliceRange a b 1).filterMap (xs[·]?)) = cut xs.toList a b := by
  by_cases hab : a <= b
  · rw [sliceRange_one,pick_run]
    unfold cut
    rw [List.drop_take]
  · have : (sliceRange a b 1) = [] := by
      unfold sliceRange
      have : ¬ (a : Int) < b := by omega
      simp [this]
    rw [this]
    unfold cut
    rw [List.filterMap_nil,List.drop_eq_nil_of_le]
    rw [List.length_take]; omega
inductive PartOf : Value -> V -> Option Int -> Prop
  | none : PartOf .none .none none
  | int (i : Int) (t : Tok) : PartOf (.int i t) (.int i) (some i)
theorem part_of {v : Value} {x : V} {n d a : Nat} (r : Rep W fr μ h v x) (e : bound n d x = some a) : ∃ k,PartOf v x k := by
  cases r <;> first | exact ⟨_,.none⟩ | exact ⟨_,.int _ _⟩ | (simp [bound] at e)
theorem clamp_is (n : Nat) (i : Int) : max 0 (min (if i < 0 then i + n else i) n) = (clamp n i : Int) := by
  unfold clamp
  by_cases q : 0 <= i
  · rw [if_neg (by omega),if_pos q]; omega
  · rw [if_pos (by omega),if_neg q]; omega
theorem clamp_le (n : Nat) (i : Int) : clamp n i <= n := by
  unfold clamp; split <;> omega
theorem str_bounds {vl vh : Value} {lo hi : V} {kl kh : Option Int} {n a b : Nat} (pl : PartOf vl lo kl) (ph : PartOf vh hi kh) (ha : bound n 0 lo = some a) (hb : bound n n hi = some b) :
    Builtin.Str.strSliceIndices kl kh 1 n = sliceRange a b 1 /\ b <= n /\ sliceBounds kl kh none n = ((a : Int),(b : Int),1) := by
  have h1 : (1 : Int) > 0 := by decide
  cases pl <;> cases ph <;> simp only [bound,Option.some.injEq] at ha hb
  · subst ha hb; exact ⟨by simp [Builtin.Str.strSliceIndices],by omega,by simp [sliceBounds]⟩
  · obtain ⟨_,hb⟩ := ite_some hb; cases hb; subst ha
    exact ⟨by simp only [Builtin.Str.strSliceIndices,h1,if_true,clamp_is]; rfl,clamp_le _ _,by simp only [sliceBounds,Option.getD_none,h1,if_true,clamp_is]; rfl⟩
  · obtain ⟨_,ha⟩ := ite_some ha; cases ha; subst hb
    exact ⟨by simp only [Builtin.Str.strSliceIndices,h1,if_true,clamp_is],by omega,by simp only [sliceBounds,Option.getD_none,h1,if_true,clamp_is]⟩
  · obtain ⟨_,ha⟩ := ite_some ha; cases ha
    obtain ⟨_,hb⟩ := ite_some hb; cases hb
    exact ⟨by simp only [Builtin.Str.strSliceIndices,h1,if_true,clamp_is],clamp_le _ _,by simp only [sliceBounds,Option.getD_none,h1,if_true,clamp_is]⟩
theorem slice_cut {x : Str} {kl kh : Option Int} {a b : Nat} (e : Builtin.Str.strSliceIndices kl kh 1 x.length = sliceRange a b 1) (hb : b <= x.length) : (Txt.slice x kl kh).cps.toList = cut x.cps.toList a b := by
  unfold Txt.slice
  rw [e]
  have r := range_cut x.cps a b hb
  split
  · rename_i q
    have hl : (sliceRange a b 1).length = x.length := by simpa using q
    rw [← r]
    by_cases hab : a <= b
    · rw [sliceRange_one] at hl
      simp only [List.length_map,List.length_range] at hl
      have ha : a = 0 := by omega
      have hb' : b = x.length := by omega
      subst ha
      rw [r]
      unfold cut
      rw [List.drop_zero,List.take_of_length_le]
      rw [hb']; exact Nat.le_refl _
    · have e0 : (sliceRange a b 1) = [] := by
        unfold sliceRange
        have : ¬ (a : Int) < b := by omega
        simp [this]
      rw [e0] at hl ⊢
      simp only [List.length_nil] at hl
      have : x.cps.toList = [] := List.length_eq_zero_iff.mp (by simpa [Str.length] using hl.symm)
      rw [this]; rfl
  · rw [r]
theorem Reps.take {xs : List V} : ∀ {vs : List Value} (_ : Reps W fr μ h vs xs) (n : Nat),Reps W fr μ h (vs.take n) (xs.take n) := by
  induction xs with
  | nil => exact fun r n => r.inv (fun vs => Reps W fr μ h (vs.take n) (List.take n [])) (by rw [List.take_nil,List.take_nil]; exact .nil)
  | cons x xs ih =>
    refine fun r n => r.inv (fun vs => Reps W fr μ h (vs.take n) ((x :: xs).take n)) fun _ _ a b => ?_
    cases n with
    | zero => exact .nil
    | succ n => exact .cons a (ih b n)
theorem Reps.drop {xs : List V} : ∀ {vs : List Value} (_ : Reps W fr μ h vs xs) (n : Nat),Reps W fr μ h (vs.drop n) (xs.drop n) := by
  induction xs with
  | nil => exact fun r n => r.inv (fun vs => Reps W fr μ h (vs.drop n) (List.drop n [])) (by rw [List.drop_nil,List.drop_nil]; exact .nil)
  | cons x xs ih =>
    refine fun r n => r.inv (fun vs => Reps W fr μ h (vs.drop n) ((x :: xs).drop n)) fun _ _ a b => ?_
    cases n with
    | zero => exact .cons a b
    | succ n => exact ih b n
theorem Reps.cut {vs : List Value} {xs : List V} (r : Reps W fr μ h vs xs) (a b : Nat) : Reps W fr μ h (Mine.cut vs a b) (Mine.cut xs a b) := (r.take b).drop a
theorem prim_slice {value : PySem.Expr} {lo hi : Option PySem.Expr} {p : Pos} (H : Hp W fr μ σ s.heap) {u vl vu : Value} {x y y' z : V} (ru : Rep W fr μ s.heap u x) (rl : Rep W fr μ s.heap vl y) (rh : Rep W fr μ s.heap vu y')
    (hz : sliced x y y' = some z) :
    wpAny (model prog w) A (subscriptTail value (.Slice lo hi none p) u (.ref s.heap.objs.size)) (PE W fr μ s z σ) Fa { s with heap := s.heap.push { cls := .type "slice",data := .fields #[vl,vu,.none] } } := by
  unfold sliced at hz
  split at hz
  · obtain ⟨a,ha,hz⟩ := bind_some hz
    obtain ⟨b,hb,rfl⟩ := map_some hz
    refine rp_str ru fun t x e l => ?_
    have len := str_len e
    obtain ⟨kl,pl⟩ := part_of rl ha
    obtain ⟨kh,ph⟩ := part_of rh hb
    rw [← len] at ha hb
    obtain ⟨e1,hb',_⟩ := str_bounds pl ph ha hb
    have ec := slice_cut e1 hb'
    have fin : ∀ h' t' k,(∀ b o,s.heap.get? b = some o -> h'.get? b = some o) -> PE W fr μ s (.str (Mine.cut _ a b)) σ (.str (Txt.slice x kl kh) t') { s with heap := h',toks := k } := fun h' t' k q =>
      St.ext H q (.ofStr (by rw [ec,e]) (Nat.le_trans (Txt.slice_le x _ _) l))
    have kp : KeptH fun h' => ∀ b o,s.heap.get? b = some o -> h'.get? b = some o := fun h' ob q b o e => Heap.get?_push_of_some _ (q b o e)
    cases pl <;> cases ph
    · obtain ⟨T,id,hl,hT,hg⟩ := SBH.sliceItem_nn (prog := prog) (w := w) (A := A) (E := Fa) (t := t) kp (fun _ _ e => e) fin l
      exact tail_any hT hl hg rfl
    · obtain ⟨T,id,hl,hT,hg⟩ := SBH.sliceItem_ns (prog := prog) (w := w) (A := A) (E := Fa) (t := t) kp (fun _ _ e => e) fin l
      exact tail_any hT hl hg rfl
    · obtain ⟨T,id,hl,hT,hg⟩ := SBH.sliceItem_sn (prog := prog) (w := w) (A := A) (E := Fa) (t := t) kp (fun _ _ e => e) fin l
      exact tail_any hT hl hg rfl
    · obtain ⟨T,id,hl,hT,hg⟩ := SBH.sliceItem_ss (prog := prog) (w := w) (A := A) (E := Fa) (t := t) kp (fun _ _ e => e) fin l
      exact tail_any hT hl hg rfl
  · obtain ⟨a,ha,hz⟩ := bind_some hz
    obtain ⟨b,hb,rfl⟩ := map_some hz
    refine rp_lst (rep_lst ru) fun l o items n g c d sz r => ?_
    have hl : s.heap.IsList l items := ⟨o,g,c,n,d⟩
    have len := r.length
    simp only [Array.length_toList] at len
    obtain ⟨kl,pl⟩ := part_of rl ha
    obtain ⟨kh,ph⟩ := part_of rh hb
    rw [← len] at ha hb
    obtain ⟨_,hb',e2⟩ := str_bounds pl ph ha hb
    have ep : slicePick items kl kh none = (Mine.cut items.toList a b).toArray := by
      unfold slicePick
      rw [e2,range_cut items a b hb']
    have p1 : IsPart vl kl := by cases pl <;> constructor
    have p2 : IsPart vu kh := by cases ph <;> constructor
    refine tail_any (Heap.IsList.typeIs (s := { s with heap := s.heap.push { cls := .type "slice",data := .fields #[vl,vu,.none] } }) (hl.push _)) list_getitem_lookup
      (wpAny_getItem_list_slice (hl.push _) (Heap.IsSliceOf.new ..) p1 p2 .none (by simp) ?_ sz) rfl
    have ex : ∀ b o,s.heap.get? b = some o -> (s.heap.push { cls := .type "slice",data := .fields #[vl,vu,.none] }).get? b = some o := fun _ _ q => Heap.get?_push_of_some _ q
    refine St.from (.ext ex) (t1 := s.toks) (St.newLst (H.ext ex) ?_ (Nat.le_trans (slicePick_size_le _ _ _ _) sz))
    rw [ep]
    exact (r.on (ch := []) (.ext ex)).cut a b
  · cases hz
theorem prim_len (H : Hp W fr μ σ s.heap) {u : Value} {x z : V} (ru : Two W fr μ s.heap u x) (hz : lenV x = some z) : wpAny (model prog w) A (call (.builtin "len") [u]) (PE W fr μ s z σ) Fa s := by
  have e0 : maxLen = 16777216 := rfl
  unfold lenV at hz
  split at hz
  · cases hz
    refine rp_str (ru.rep (nl rfl)) fun t x e l => ?_
    rw [← str_len e]
    exact PyProof.Rows.len_str (by omega) (St.same H (.int _ _))
  · cases hz
    refine rp_tup (rep_tup (ru.rep (nl rfl))) fun a o items n g c d l r => ?_
    have len := r.length
    simp only [Array.length_toList] at len
    rw [← len]
    exact PyProof.Rows.len_tuple ⟨o,g,c,n,d⟩ (by omega) (St.same H (.int _ _))
  · cases hz
    refine rp_lst ru.lstAt fun a o items n g c d l r => ?_
    have len := r.length
    simp only [Array.length_toList] at len
    rw [← len]
    exact Calls.call_len_list ⟨o,g,c,n,d⟩ (by omega) (St.same H (.int _ _))
  · cases hz
theorem prim_ord (H : Hp W fr μ σ s.heap) {u : Value} {c : Nat} (ru : Rep W fr μ s.heap u (.str [c])) : wpAny (model prog w) A (call (.builtin "ord") [u]) (PE W fr μ s (.int c) σ) Fa s := by
  refine rp_str ru fun t x e l => ?_
  obtain rfl := strOf_eq e
  exact P.ord_of_char (St.same H (.int _ _))
theorem prim_tuple (H : Hp W fr μ σ s.heap) {u : Value} {xs : List V} (ru : LstAt W fr μ s.heap u xs) : wpAny (model prog w) A (call (.type "tuple") [u]) (PE W fr μ s (.tup xs) σ) Fa s := by
  refine rp_lst ru fun a o items n g c d l r => ?_
  refine call_tuple_list ⟨o,g,c,n,d⟩ (fun h' hk => ?_) l
  exact St.from (.ext hk) (t1 := s.toks) (St.newTup (s := { s with heap := h',toks := s.toks }) (H.ext hk) (r.on (ch := []) (.ext hk)) l)
theorem findC_none {c : Nat} : ∀ {l : List Nat} {k : Int},c ∉ l -> findC c l k = -1
  | [],_,_ => rfl
  | x :: r,k,h => by
    rw [List.mem_cons,not_or] at h
    unfold findC
    rw [if_neg (Ne.symm h.1),findC_none h.2]
theorem findC_at {c : Nat} : ∀ {l : List Nat} {i : Nat} {k : Int},l[i]? = some c -> (∀ j,j < i -> l[j]? ≠ some c) -> findC c l k = k + i
  | [],i,_,h,_ => by simp at h
  | x :: r,0,k,h,_ => by
    simp only [List.getElem?_cons_zero,Option.some.injEq] at h
    unfold findC
    rw [if_pos h]; simp
  | x :: r,i + 1,k,h,hn => by
    have h0 := hn 0 (by omega)
    simp only [List.getElem?_cons_zero,ne_eq,Option.some.injEq] at h0
    unfold findC
    rw [if_neg h0,findC_at (i := i) (by simpa using h) (fun j hj => by simpa using hn (j + 1) (by omega))]
    push_cast; omega
theorem find_is (x : Str) (c : Nat) : Txt.find x ⟨#[c]⟩ = findC c x.cps.toList 0 := by
  unfold Txt.find
  rcases StrLaws.occ_head x ⟨#[c]⟩ 1 (Nat.le_refl 1) with ⟨h,hn⟩ | ⟨i,r,h,ha,hn⟩
  · rw [h]
    refine (findC_none fun q => ?_).symm
    obtain ⟨i,hi⟩ := List.mem_iff_getElem?.mp q
    exact hn i ((StrLaws.subAt_one x c i).mpr hi)
  · rw [h]
    refine ((findC_at (i := i) ((StrLaws.subAt_one x c i).mp ha) fun j hj q => hn j hj ((StrLaws.subAt_one x c j).mpr q)).trans ?_).symm
    simp
theorem splitAt_app (c : Nat) : ∀ (p acc r : List Nat),c ∉ p -> splitAt c acc (p ++ c :: r) = (acc ++ p) :: splitAt c [] r
  | [],acc,r,_ => by simp [splitAt]
  | x :: p,acc,r,h => by
    rw [List.mem_cons,not_or] at h
    simp only [List.cons_append,splitAt]
    rw [if_neg (Ne.symm h.1),splitAt_app c p _ r h.2]; simp
theorem splitAt_end (c : Nat) : ∀ (p acc : List Nat),c ∉ p -> splitAt c acc p = [acc ++ p]
  | [],acc,_ => by simp [splitAt]
  | x :: p,acc,h => by
    rw [List.mem_cons,not_or] at h
    simp only [splitAt]
    rw [if_neg (Ne.symm h.1),splitAt_end c p _ h.2]; simp
theorem splitAt_join (c : Nat) : ∀ (ps : List Str),ps ≠ [] -> (∀ p ∈ ps,c ∉ p.cps.toList) -> splitAt c [] (Str.join ⟨#[c]⟩ ps).cps.toList = ps.map (·.cps.toList)
  | [],h,_ => absurd rfl h
  | [p],_,h => by
    show splitAt c [] p.cps.toList = _
    rw [splitAt_end c _ _ (h p (List.mem_singleton.mpr rfl))]; simp
  | p :: q :: r,_,h => by
    have : (Str.join ⟨#[c]⟩ (p :: q :: r)).cps.toList = p.cps.toList ++ c :: (Str.join ⟨#[c]⟩ (q :: r)).cps.toList := by
      show (p ++ ⟨#[c]⟩ ++ Str.join ⟨#[c]⟩ (q :: r)).cps.toList = _
      rw [Str.cps_append,Str.cps_append]; simp
    rw [this,splitAt_app c _ _ _ (h p (.head _)),splitAt_join c (q :: r) (by simp) fun p hp => h p (.tail _ hp)]
    simp
theorem split_is (x : Str) (c : Nat) : (Txt.split x ⟨#[c]⟩).map (·.cps.toList) = splitAt c [] x.cps.toList := by
  rw [← splitAt_join c _ (fun q => by have := split_pos x ⟨#[c]⟩; rw [q] at this; simp at this) (StrLaws.split_free x c),StrLaws.join_split]
theorem reps_strs {B : Nat} : ∀ (l : List (Str × Tok)),(∀ p ∈ l,p.1.length <= maxLen) -> Reps W fr μ h (strValues l) ((l.map (·.1.cps.toList)).map .str)
  | [],_ => .nil
  | p :: r,q => .cons (.str _ _ (q p (.head _))) (reps_strs (B := B) r fun p hp => q p (.tail _ hp))
theorem join_mem_len (sep : Str) : ∀ (ps : List Str) (p : Str),p ∈ ps -> p.length <= (Str.join sep ps).length
  | [],_,h => nomatch h
  | [q],p,h => by rw [List.mem_singleton.mp h]; exact Nat.le_refl _
  | q :: r :: t,p,h => by
    have e : (Str.join sep (q :: r :: t)).length = q.length + sep.length + (Str.join sep (r :: t)).length := by
      show (q ++ sep ++ Str.join sep (r :: t)).length = _
      rw [Str.length_append,Str.length_append]
    rw [e]
    rcases List.mem_cons.mp h with rfl | h
    · omega
    · have := join_mem_len sep (r :: t) p h; omega
theorem split_mem_len (x y : Str) (p : Str) (h : p ∈ Txt.split x y) : p.length <= x.length := by
  have := join_mem_len y (Txt.split x y) p h
  rwa [StrLaws.join_split] at this
theorem meth_find {μ1 : List Addr} {pos : Pos} {a : Sem Value} {σ' : List O} {u : Value} {t : List Nat} {c : Nat} (ru : Rep W fr μ1 h u (.str t)) (ha : wpAny (model prog w) A a (PE W fr μ s (.str [c]) σ') Fa s) :
    MethodOnS prog w A Fa "find" u pos [(false,a)] (PE W fr μ s (.int (findC c t 0)) σ') s := by
  refine rp_str ru fun t1 x e l => ?_
  refine SB.find (wpAny_mono ha (fun v s1 q => ?_) fun _ _ q => q)
  refine St.elim q fun h1 t1 μ1 H G r => ?_
  refine rp_str r fun t2 y e' l' => ?_
  obtain rfl := strOf_eq e'
  refine ⟨_,_,rfl,St.from G (t1 := t1) (St.same (s := { s with heap := h1,toks := t1 }) H ?_)⟩
  rw [show (⟨[c].toArray⟩ : Str) = ⟨#[c]⟩ from rfl,find_is,e]
  exact .int _ _
theorem meth_lower {μ1 : List Addr} {pos : Pos} (H : Hp W fr μ σ s.heap) {u : Value} {c : Nat} (hc : c < 128) (ru : Rep W fr μ1 h u (.str [c])) :
    MethodOnS prog w A Fa "lower" u pos [] (PE W fr μ s (.str [lowerC c]) σ) s := by
  refine rp_str ru fun t1 x e l => ?_
  have el : Txt.lower x = ⟨x.cps.map lo1⟩ := lower_ascii (by rw [e]; simpa using hc)
  refine SB.lower ?_ ?_
  · rw [el]
    have : (⟨x.cps.map lo1⟩ : Str).length = 1 := by simp [Str.length]; have := congrArg List.length e; simpa using this
    rw [this]; decide
  · rw [el]
    refine St.same H (.ofStr ?_ ?_)
    · simp only [Array.toList_map,e]; rfl
    · have : (⟨x.cps.map lo1⟩ : Str).length = 1 := by simp [Str.length]; have := congrArg List.length e; simpa using this
      rw [this]; decide
theorem meth_split {μ1 : List Addr} {pos : Pos} {a : Sem Value} {σ' : List O} {u : Value} {t : List Nat} {c : Nat} (hl : t.length + 2 <= maxLen) (ru : Rep W fr μ1 h u (.str t)) (ha : wpAny (model prog w) A a (PE W fr μ s (.str [c]) σ') Fa s) :
    MethodOnS prog w A Fa "split" u pos [(false,a)] (PE W fr μ s (.lst ((splitAt c [] t).map .str)) σ') s := by
  refine rp_str ru fun t0 x e l => ?_
  have len := str_len e
  refine ⟨"str",_,F.plainAttrs_str,F.slot_str_split,F.type_str_split,typeIs_str _ _ _,(fun _ e => nomatch e),
    method1_meets F.slot_str_split F.entry_str_split (wpAny_mono ha (fun v s₁ h₁ => ?_) fun _ _ e => e)⟩
  refine St.elim h₁ fun h1 t1 μ1 H G r => ?_
  refine rp_str r fun u y e' l' => ?_
  obtain rfl := strOf_eq e'
  refine ⟨typeIs_str _ _ _,F.args_str_split_2 _ _,?_⟩
  have fin : ∀ (l : List (Str × Tok)) k,l.map (·.1) = Txt.split x ⟨[c].toArray⟩ -> PE W fr μ s (.lst ((splitAt c [] t).map .str)) σ' (.ref h1.objs.size) { s with heap := h1.push { cls := .type "list",data := .seq (strValues l).toArray },toks := k } := fun l k q => by
    refine St.from G (t1 := t1) (St.newLst (s := { s with heap := h1,toks := t1 }) (t' := k) H ?_ ?_)
    · have hm : ((splitAt c [] t).map V.str) = (l.map (·.1.cps.toList)).map .str := by
        rw [← e,← split_is,← show _ = Txt.split x ⟨#[c]⟩ from q]; simp [Function.comp_def]
      rw [hm]
      refine reps_strs (B := 0) l fun p hp => ?_
      have := split_mem_len x ⟨[c].toArray⟩ p.1 (q ▸ List.mem_map_of_mem hp)
      omega
    · have := split_le x ⟨[c].toArray⟩
      rw [← q,List.length_map] at this
      simp only [strValues,List.size_toArray,List.length_map]
      omega
  have hy : ((⟨[c].toArray⟩ : Str).length == 0) = false := rfl
  cases h1' : (decide (x.length < (⟨[c].toArray⟩ : Str).length) || decide (Builtin.Str.strKind x < Builtin.Str.strKind ⟨[c].toArray⟩))
  · cases hf : (Builtin.Str.occurrences x ⟨[c].toArray⟩ 0 x.length (x.length + 1)).isEmpty
    · refine ⟨_,meets_str_split_sep x ⟨[c].toArray⟩ t0 u h1' hy hf (by show _ <= maxLen; omega) ?_,?_⟩
      · rw [len_partsBetween]
        have := StrLaws.occ_length_le x ⟨[c].toArray⟩ 0 x.length (x.length + 1)
        show _ <= maxLen; omega
      · show wants _ _ _ { s with toks := _,heap := h1.push { cls := .type "list",data := .seq (strsFrom t1 (Builtin.Str.partsBetween x (Builtin.Str.occurrences x ⟨[c].toArray⟩ 0 x.length (x.length + 1)) (⟨[c].toArray⟩ : Str).length)).toArray } }
        rw [strsFrom_eq]
        exact fin (numbered t1 _) _ ((numbered_texts _ _).trans ((if_neg (ne_true_of_eq_false h1')).trans (if_neg (ne_true_of_eq_false hf))).symm)
    · exact ⟨_,meets_str_split_not_found x ⟨[c].toArray⟩ _ u h1' hy hf,fin [(x,_)] _ ((if_neg (ne_true_of_eq_false h1')).trans (if_pos hf)).symm⟩
  · exact ⟨_,meets_str_split_cannot_occur x ⟨[c].toArray⟩ _ u h1',fin [(x,_)] _ (if_pos h1').symm⟩
end
section
variable {prog : Program} {w : World} {W : Wd} {T : Tb} {P : Prog} {K : Frag} {mg mb : Str -> Option Value} {d : Nat} {ρ : List V} {σ σ' : List O} {x : V}
noncomputable def plainX (x : X) : Bool := !(Nat.beq x.ctorIdx 16 || Nat.beq x.ctorIdx 21 || Nat.beq x.ctorIdx 19 || Nat.beq x.ctorIdx 20 || Nat.beq x.ctorIdx 17 || Nat.beq x.ctorIdx 18)
theorem plain_of {e : X} : plainX e = true -> ∀ sc ex,Cx sc ex e -> plainTest ex = true := by
  intro h sc ex
  revert h
  cases e with
  | cNone => exact fun _ q => i_cNone q rfl
  | cBool => exact fun _ q => i_cBool q rfl
  | cInt => exact fun _ q => i_cInt q rfl
  | cStr => exact fun _ q => i_cStr q fun _ _ => rfl
  | loc => exact fun _ q => i_loc q fun _ _ _ => rfl
  | glob => exact fun _ q => i_glob q fun _ _ _ => rfl
  | nil => exact fun _ q => absurd q no_nil
  | cons => exact fun _ q => absurd q no_cons
  | tup => exact fun _ q => i_tup q fun _ => rfl
  | lst => exact fun _ q => i_lst q fun _ => rfl
  | dct => exact fun _ q => i_dct q fun _ _ _ => rfl
  | attr => exact fun _ q => i_attr q fun _ _ _ => rfl
  | idx => exact fun _ q => i_idx q fun _ _ _ => rfl
  | slice => exact fun _ q => i_slice q fun _ _ _ => rfl
  | bin => exact fun _ q => i_bin q fun _ _ _ => rfl
  | neg => exact fun _ q => i_neg q fun _ => rfl
  | call => exact fun _ q => i_call q fun _ _ _ _ _ => rfl
  | meth => exact fun _ q => i_meth q fun _ _ _ _ _ _ => rfl
  | mk => exact fun _ q => i_mk q fun _ _ _ _ _ _ => rfl
  | len => exact fun _ q => i_len q fun _ _ _ => rfl
  | ord => exact fun _ q => i_ord q fun _ _ _ => rfl
  | tupleOf => exact fun _ q => i_tupleOf q fun _ _ _ => rfl
  | append => exact fun _ q => i_append q fun _ _ _ _ _ => rfl
  | extend => exact fun _ q => i_extend q fun _ _ _ _ _ => rfl
  | split => exact fun _ q => i_split q fun _ _ _ _ _ => rfl
  | find => exact fun _ q => i_find q fun _ _ _ _ _ => rfl
  | lower => exact fun _ q => i_lower q fun _ _ _ => rfl
  | comp => exact fun _ q => i_comp q fun _ _ _ _ _ _ _ => rfl
  | compE => exact fun _ q => i_compE q fun _ _ _ _ _ _ _ _ _ => rfl
  | _ => exact fun h _ => absurd h Bool.false_ne_true
theorem SX.mk3 {e : X} (h1 : ∀ sc env A fr μ s,At W T sc env A d fr μ ρ σ s -> ∀ ex,Cx sc ex e -> wpAny (model prog w) A (eval ex env) (PE W fr μ s x σ') Fa s)
    (h2 : ∀ sc env A fr μ s,At W T sc env A d fr μ ρ σ s -> ∀ ex,Cx sc ex e -> ∀ b,truth x = some b -> wpAny (model prog w) A (isTrue ex env (eval ex env)) (PB W fr μ s b σ') Fa s)
    (ho : ordX e = true := by rfl) : SX prog w W T e d ρ σ x σ' := by
  refine .mk2 h1 h2 (fun _ _ q => no_cxs q ho) ?_ ?_ ?_ ?_ ?_
  · rintro _ _ rfl; exact absurd ho Bool.false_ne_true
  · rintro _ _ rfl; exact absurd ho Bool.false_ne_true
  · rintro rfl; exact absurd ho Bool.false_ne_true
  · rintro _ rfl; exact absurd ho Bool.false_ne_true
  · rintro _ rfl; exact absurd ho Bool.false_ne_true
theorem SX.mk0 {e : X} (h1 : ∀ sc env A fr μ s,At W T sc env A d fr μ ρ σ s -> ∀ ex,Cx sc ex e -> wpAny (model prog w) A (eval ex env) (PE W fr μ s x σ') Fa s)
    (ho : ordX e = true := by rfl) (hp : plainX e = true := by rfl) : SX prog w W T e d ρ σ x σ' :=
  .mk3 h1 (fun sc env A fr μ s a ex q _ hb => test_of (h1 sc env A fr μ s a ex q) hb (isTrue_of_plain (plain_of hp sc ex q) _ _)) ho
section
variable {sc : Sc} {env : Env} {A : Around} {fr μ μ1 : List Addr} {s : Shared} {σ1 : List O}
theorem At.on {h1 : Heap} {t1 : Nat} (a : At W T sc env A d fr μ ρ σ s) (H : Hp W fr μ1 σ1 h1) (G : Go fr μ μ1 [] s.heap h1) : At W T sc env A d fr μ1 ρ σ1 { s with heap := h1,toks := t1 } :=
  ⟨a.here,H,a.lc.on G a.here.f (fun q => nomatch q)⟩
theorem SX.step {e : X} {ex : PySem.Expr} (S : SX prog w W T e d ρ σ x σ1) (a : At W T sc env A d fr μ ρ σ s) (c : Cx sc ex e) {β : Type} {k : Value -> Sem β} {ch : List Addr} {R : β -> List Addr -> Heap -> Prop}
    (h : ∀ v h1 t1 μ1,At W T sc env A d fr μ1 ρ σ1 { s with heap := h1,toks := t1 } -> Go fr μ μ1 [] s.heap h1 -> Rep W fr μ1 h1 v x →
      wpAny (model prog w) A (k v) (fun b s' => St W fr μ1 ch { s with heap := h1,toks := t1 } σ' (R b) s') Fa { s with heap := h1,toks := t1 }) :
    wpAny (model prog w) A (eval ex env) (fun v s1 => wpAny (model prog w) A (k v) (fun b s' => St W fr μ ch s σ' (R b) s') Fa s1) Fa s := by
  refine wpAny_mono (S.one _ _ _ _ _ _ a _ c) (fun v s1 q => ?_) fun _ _ q => q
  refine St.elim q fun h1 t1 μ1 H G r => ?_
  exact wpAny_mono (h v h1 t1 μ1 (a.on H G) G r) (fun b s' q => q.from G.wide0) fun _ _ q => q
theorem SX.steps {e : X} {exs : List PySem.Expr} (S : SX prog w W T e d ρ σ x σ1) (a : At W T sc env A d fr μ ρ σ s) (c : Cxs sc exs e) {β : Type} {k : List Value -> Sem β} {ch : List Addr} {R : β -> List Addr -> Heap -> Prop} {pos : Pos}
    (h : ∀ xs vs h1 t1 μ1,x = .tup xs -> At W T sc env A d fr μ1 ρ σ1 { s with heap := h1,toks := t1 } -> Go fr μ μ1 [] s.heap h1 -> Reps W fr μ1 h1 vs xs →
      wpAny (model prog w) A (k vs) (fun b s' => St W fr μ1 ch { s with heap := h1,toks := t1 } σ' (R b) s') Fa { s with heap := h1,toks := t1 }) :
    wpAny (model prog w) A (spliced (backTo pos (starEach exs env))) (fun v s1 => wpAny (model prog w) A (k v) (fun b s' => St W fr μ ch s σ' (R b) s') Fa s1) Fa s := by
  obtain ⟨xs,e1,q⟩ := S.all _ _ _ _ _ _ a _ c pos
  refine wpAny_mono q (fun v s1 q => ?_) fun _ _ q => q
  refine St.elim q fun h1 t1 μ1 H G r => ?_
  exact wpAny_mono (h xs v h1 t1 μ1 e1 (a.on H G) G r) (fun b s' q => q.from G.wide0) fun _ _ q => q
end
section
variable {sc : Sc} {env : Env} {A : Around} {fr μ μ1 : List Addr} {s : Shared} {σ1 σ2 : List O} {y : V}
theorem SX.step2 {e e2 : X} {ex ex2 : PySem.Expr} (S : SX prog w W T e d ρ σ x σ1) (S2 : SX prog w W T e2 d ρ σ1 y σ2) (a : At W T sc env A d fr μ ρ σ s) (c : Cx sc ex e) (c2 : Cx sc ex2 e2) {β : Type} {k : Value -> Value -> Sem β}
    {ch : List Addr} {R : β -> List Addr -> Heap -> Prop}
    (h : ∀ v v2 h2 t2 μ2,At W T sc env A d fr μ2 ρ σ2 { s with heap := h2,toks := t2 } -> Go fr μ μ2 [] s.heap h2 -> Rep W fr μ2 h2 v x -> Rep W fr μ2 h2 v2 y →
      wpAny (model prog w) A (k v v2) (fun b s' => St W fr μ2 ch { s with heap := h2,toks := t2 } σ' (R b) s') Fa { s with heap := h2,toks := t2 }) :
    wpAny (model prog w) A (eval ex env) (fun v s1 => wpAny (model prog w) A (eval ex2 env) (fun v2 s2 => wpAny (model prog w) A (k v v2) (fun b s' => St W fr μ ch s σ' (R b) s') Fa s2) Fa s1) Fa s := by
  refine wpAny_mono (S.one _ _ _ _ _ _ a _ c) (fun v s1 q => ?_) fun _ _ q => q
  refine St.elim q fun h1 t1 μ1 H G r => ?_
  refine wpAny_mono (S2.step (a.on (t1 := t1) H G) c2 (σ' := σ') (k := k v) (ch := ch) (R := R) fun v2 h2 t2 μ2 a2 G2 r2 => ?_) (fun v2 s2 q => ?_) fun _ _ q => q
  · exact h v v2 h2 t2 μ2 a2 (G.trans G2) (r.on G2) r2
  · exact wpAny_mono q (fun b s' q => q.from G.wide0) fun _ _ q => q
end
theorem sx_cNone : SX prog w W T .cNone d ρ σ .none σ := by
  refine .mk1 (fun sc env A fr μ s a ex c => ?_) (plain_of rfl) (fun _ _ q => andE q fun _ h => absurd h Bool.false_ne_true) (fun _ _ => X.noConfusion) (fun _ _ => X.noConfusion) (fun _ => ⟨rfl,rfl⟩) (fun _ => X.noConfusion) (fun _ => X.noConfusion)
  refine i_cNone c ?_; exact fun _ _ _ => St.here a.hp .none
theorem sx_cBool (b : Bool) : SX prog w W T (.cBool b) d ρ σ (.bool b) σ := by
  refine .mk1 (fun sc env A fr μ s a ex c => ?_) (plain_of rfl) (fun _ _ q => andE q fun _ h => absurd h Bool.false_ne_true) (fun _ _ => X.noConfusion) (fun _ _ => X.noConfusion) X.noConfusion (fun b' e => by cases e; exact ⟨rfl,rfl⟩) (fun _ => X.noConfusion)
  refine i_cBool c ?_; exact fun _ _ _ => St.here a.hp (.bool b)
theorem sx_cInt (i : Int) : SX prog w W T (.cInt i) d ρ σ (.int i) σ := by
  refine .mk1 (fun sc env A fr μ s a ex c => ?_) (plain_of rfl) (fun _ _ q => andE q fun _ h => absurd h Bool.false_ne_true) (fun _ _ => X.noConfusion) (fun _ _ => X.noConfusion) X.noConfusion (fun _ => X.noConfusion) (fun b' e => by cases e; exact ⟨rfl,rfl⟩)
  refine i_cInt c ?_; exact fun _ _ _ => St.same a.hp (.int i _)
theorem sx_cStr (l : List Nat) : SX prog w W T (.cStr l) d ρ σ (.str l) σ := by
  refine .mk0 (fun sc env A fr μ s a ex c => ?_)
  refine i_cStr c fun hl ee0 => ?_
  subst ee0
  exact fun _ _ _ => St.same a.hp (.str _ _ hl)
theorem sx_loc {i : Nat} (hv : ρ[i]? = some x) (hn : x ≠ .undef) : SX prog w W T (.loc i) d ρ σ x σ := by
  refine .mk0 (fun sc env A fr μ s a ex c => ?_)
  refine i_loc c fun h1 h2 h3 => ?_
  obtain ⟨m,ns,hm⟩ := a.lc.ns
  obtain ⟨u,e,r⟩ := hm i _ _ (Sc.at_loc h1) hv hn
  exact wpAny_Name (wpAny_loadName_local a.here.e.fk (a.here.e.kof.trans h2) ns e (St.here a.hp r)) h3
theorem sx_glob (B : Amb w W T P K mg mb) {g : Nat} (hv : P.glob g = some x) : SX prog w W T (.glob g) d ρ σ x σ := by
  refine .mk0 (fun sc env A fr μ s a ex c => ?_)
  refine i_glob c fun h1 h2 h3 => ?_
  obtain ⟨u,e,r⟩ := B.glob _ _ _ (a.here.e.globs ▸ h1) hv
  have gn : s.heap.Ns env.globals mg := by
    rw [a.here.e.globals]
    obtain ⟨o,es,ep,q,r⟩ := B.g
    exact ⟨o,es,ep,a.hp.keep _ _ q,r⟩
  exact Calls.Name_function_global a.here.e.fk (a.here.e.glob h2) (Calls.loadGlobal_global gn e (St.here a.hp (r.base a.hp))) h3
theorem sx_nil : SX prog w W T .nil d ρ σ (.tup []) σ := by
  refine ⟨(fun _ _ _ _ _ _ _ _ q => absurd q no_nil),(fun _ _ _ _ _ _ _ _ q => absurd q no_nil),fun sc env A fr μ s a exs c pos => ?_,fun sc env A fr μ s a exs c ks kk pos hk hl => ?_,fun _ _ _ _ _ _ _ _ q => absurd q Bool.false_ne_true,fun _ _ _ _ _ _ _ _ q => absurd q Bool.false_ne_true,fun _ _ _ _ _ _ _ _ q => absurd q Bool.false_ne_true,fun _ _ _ _ _ _ _ _ q => absurd q Bool.false_ne_true,X.noConfusion,fun _ => X.noConfusion,fun _ => X.noConfusion⟩
  · refine i_nil c ?_; exact ⟨[],rfl,Calls.spliced_nil (St.here a.hp .nil)⟩
  · revert hl; refine i_nil c fun hl => ?_
    cases ks with
    | nil => cases kk with
      | nil => exact ⟨[],rfl,evalPairs_nil (St.here a.hp .nil)⟩
      | cons => exact absurd hk Bool.false_ne_true
    | cons => cases hl
set_option tactic.hygienic false in
theorem starEach_cons {e : PySem.Expr} (h : notStarred e = true) (r : List PySem.Expr) (env : Env) : starEach (e :: r) env = (false,eval e env) :: starEach r env := by
  cases e <;> first | rfl | (cases h)
theorem key_eval {k : Option PySem.Expr} {kk : List Nat} (h : keyOf k kk = true) : ∃ s a p,k = some (.Constant (.str s) a p) /\ kk = s.cps.toList := by
  cases k with
  | none => cases h
  | some e => exact eConstE (m := fun e => ∃ s a p,some e = some (.Constant (.str s) a p) /\ kk = s.cps.toList) h fun c a p h => cSE (m := fun c => ∃ s a' p',some (Expr.Constant c a p) = some (.Constant (.str s) a' p') /\ kk = s.cps.toList) h fun s h => ⟨s,a,p,rfl,of_decide_eq_true h⟩
theorem sx_cons {hd tl : X} {y : V} {vs : List V} {σ1 σ2 : List O} (S1 : SX prog w W T hd d ρ σ y σ1) (S2 : SX prog w W T tl d ρ σ1 (.tup vs) σ2) : SX prog w W T (.cons hd tl) d ρ σ (.tup (y :: vs)) σ2 := by
  refine ⟨(fun _ _ _ _ _ _ _ _ q => absurd q no_cons),(fun _ _ _ _ _ _ _ _ q => absurd q no_cons),fun sc env A fr μ s a exs c pos => ⟨_,rfl,?_⟩,fun sc env A fr μ s a exs c ks kk pos hk hl => ⟨_,rfl,?_⟩,fun _ _ _ _ _ _ _ _ q => absurd q Bool.false_ne_true,fun _ _ _ _ _ _ _ _ q => absurd q Bool.false_ne_true,fun _ _ _ _ _ _ _ _ q => absurd q Bool.false_ne_true,fun _ _ _ _ _ _ _ _ q => absurd q Bool.false_ne_true,X.noConfusion,fun _ => X.noConfusion,fun _ => X.noConfusion⟩
  · refine i_cons c fun c1 hn c2 => ?_
    · rw [starEach_cons hn]
      show wpAny (model prog w) A (spliced ((false,_) :: backTo pos (starEach _ env))) _ _ _
      refine Calls.spliced_cons (wpAny_mono (S1.one _ _ _ _ _ _ a _ c1) (fun v s1 q => ?_) fun _ _ q => q)
      refine St.elim q fun h1 t1 μ1 H G r => ?_
      obtain ⟨xs,e,q2⟩ := S2.all _ _ _ _ _ _ (a.on (t1 := t1) H G) _ c2 pos
      cases e
      refine wpAny_mono q2 (fun vs s2 q => ?_) fun _ _ q => q
      refine St.elim q fun h2 t2 μ2 H2 G2 r2 => ?_
      exact ⟨h2,t2,μ2,rfl,H2,G.trans G2,.cons (r.on G2) r2⟩
  · revert hl
    refine i_cons c fun c1 hn c2 hl => ?_
    · cases ks with
      | nil => cases hl
      | cons k ks =>
        revert hk
        cases kk with
        | nil => exact fun hk => absurd hk Bool.false_ne_true
        | cons k1 k2 =>
        refine fun hk => andE hk fun hk1 hk2 => ?_
        obtain ⟨ks',ka,kp,rfl,rfl⟩ := key_eval hk1
        refine pairTrees_cons_walk (Calls.Constant_str ?_)
        have a1 : At W T sc env A d fr μ ρ σ { s with toks := s.toks + 1 } := ⟨a.here,a.hp,a.lc⟩
        refine wpAny_mono (S1.one _ _ _ _ _ _ a1 _ c1) (fun v s1 q => ?_) fun _ _ q => q
        refine St.elim q fun h1 t1 μ1 H G r => ?_
        obtain ⟨xs,e,q2⟩ := S2.pairs _ _ _ _ _ _ (a1.on (t1 := t1) H G) _ c2 ks k2 pos hk2 (by simpa using hl)
        cases e
        refine wpAny_mono q2 (fun vs s2 q => ?_) fun _ _ q => q
        refine St.elim q fun h2 t2 μ2 H2 G2 r2 => ?_
        exact ⟨h2,t2,μ2,rfl,H2,Go.trans (h := s.heap) G G2,.cons (r.on G2) r2⟩
theorem sx_tup {es : X} {vs : List V} {σ1 : List O} (S : SX prog w W T es d ρ σ (.tup vs) σ1) (hl : vs.length <= maxLen) : SX prog w W T (.tup es) d ρ σ (.tup vs) σ1 := by
  refine .mk0 (fun sc env A fr μ s a ex c => ?_)
  refine i_tup c fun c => ?_
  refine Tuple_ (S.steps a c fun xs us h1 t1 μ1 e a1 G r => ?_)
  cases e
  have len := r.length
  exact wpAny_newTuple (St.newTup (s := { s with heap := h1,toks := t1 }) a1.hp (by simpa using r) (by simp; omega)) (by show _ <= maxLen; omega)
theorem sx_lst {es : X} {vs : List V} {σ1 : List O} (S : SX prog w W T es d ρ σ (.tup vs) σ1) (hl : vs.length <= maxLen) : SX prog w W T (.lst es) d ρ σ (.lst vs) σ1 := by
  refine .mk0 (fun sc env A fr μ s a ex c => ?_)
  refine i_lst c fun c => ?_
  refine List_ (S.steps a c fun xs us h1 t1 μ1 e a1 G r => ?_)
  cases e
  have len := r.length
  exact wpAny_newList (St.newLst (s := { s with heap := h1,toks := t1 }) a1.hp (by simpa using r) (by simp; omega)) (by show _ <= maxLen; omega)
theorem sx_bin {o : BOp} {e1 e2 : X} {x1 x2 y1 y2 z : V} {σ1 σ2 : List O} (S1 : SX prog w W T e1 d ρ σ x1 σ1) (S2 : SX prog w W T e2 d ρ σ1 x2 σ2) (h1 : deref σ2 x1 = some y1) (h2 : deref σ2 x2 = some y2) (hz : binop o y1 y2 = some z) :
    SX prog w W T (.bin o e1 e2) d ρ σ z σ2 := by
  refine .mk0 (fun sc env A fr μ s a ex c => ?_)
  refine i_bin c fun ho c1 c2 => ?_
  exact wpAny_BinOp (S1.step2 S2 a c1 c2 fun v v2 h2' t2 μ2 a2 G2 r1 r2 => prim_bin ho a2.hp a2.here.a.handled r1 r2 h1 h2 hz)
theorem sx_neg {e : X} {i : Int} {σ1 : List O} (S : SX prog w W T e d ρ σ (.int i) σ1) : SX prog w W T (.neg e) d ρ σ (.int (-i)) σ1 := by
  refine .mk0 (fun sc env A fr μ s a ex c => ?_)
  refine i_neg c fun c => ?_
  refine UnaryOp_ (S.step a c fun v h1 t1 μ1 a1 G1 r1 => ?_)
  refine rp_int r1 fun t => ?_
  exact P.neg_int (St.same (s := { s with heap := h1,toks := t1 }) a1.hp (.int _ _))
theorem sx_not {e : X} {b : Bool} {σ1 : List O} {y : V} (S : SX prog w W T e d ρ σ y σ1) (hb : truth y = some b) : SX prog w W T (.not e) d ρ σ (.bool (!b)) σ1 := by
  refine .mk3 (fun sc env A fr μ s a ex c => ?_) (fun sc env A fr μ s a ex c b' hb' => ?_)
  · refine i_not c fun c => ?_
    refine UnaryOp_ (S.step a c fun v h1 t1 μ1 a1 G1 r1 => ?_)
    obtain rfl := truth_bool hb
    refine rp_bool r1 ?_
    exact not_of (wpAny_truthy_bool (St.here (s := { s with heap := h1,toks := t1 }) a1.hp (.bool _)))
  · refine i_not c fun c => ?_
    cases hb'
    refine isTrue_not (wpAny_mono (S.test _ _ _ _ _ _ a _ c b hb) (fun c s1 q => ?_) fun _ _ q => q)
    exact q.mono (fun _ q => q) fun _ _ e => by rw [e]
theorem sx_andT {e1 e2 : X} {y : V} {σ1 σ2 : List O} {z : V} (S1 : SX prog w W T e1 d ρ σ y σ1) (h1 : truth y = some true) (S2 : SX prog w W T e2 d ρ σ1 z σ2) : SX prog w W T (.and e1 e2) d ρ σ z σ2 := by
  have key : ∀ sc env A fr μ s,At W T sc env A d fr μ ρ σ s -> ∀ a0 b r,Cx sc a0 e1 -> Cand sc (b :: r) e2 -> ∀ pos,wpAny (model prog w) A (eval (.BoolOp .And (a0 :: b :: r) pos) env) (PE W fr μ s z σ2) Fa s := by
    intro sc env A fr μ s a a0 b r c1 c2 pos
    refine BoolOp_and (wpAny_mono (S1.one _ _ _ _ _ _ a _ c1) (fun v s1 q => ?_) fun _ _ q => q)
    refine St.elim q fun h1' t1 μ1 H G r => ?_
    obtain rfl := truth_bool h1
    refine rp_bool r ?_
    refine wpAny_truthy_bool ?_
    exact wpAny_mono (S2.ands _ _ _ _ _ _ (a.on (t1 := t1) H G) _ c2 pos) (fun _ _ q => q.from G) fun _ _ q => q
  have keyt : ∀ sc env A fr μ s,At W T sc env A d fr μ ρ σ s -> ∀ a0 b r,Cx sc a0 e1 -> Cand sc (b :: r) e2 -> ∀ pos whole t,truth z = some t -> wpAny (model prog w) A (isTrue (.BoolOp .And (a0 :: b :: r) pos) env whole) (PB W fr μ s t σ2) Fa s := by
    intro sc env A fr μ s a a0 b r c1 c2 pos whole t ht
    refine isTrue_and (wpAny_mono (S1.test _ _ _ _ _ _ a _ c1 true h1) (fun v s1 q => ?_) fun _ _ q => q)
    obtain rfl := q.is
    refine St.elim q fun h1 t1 μ1 H G r => ?_
    exact wpAny_mono (S2.andt _ _ _ _ _ _ (a.on (t1 := t1) H G) _ c2 pos whole t ht) (fun _ _ q => q.from G) fun _ _ q => q
  exact .mkA key keyt
end
section
variable {prog : Program} {w : World} {W : Wd} {T : Tb} {P : Prog} {K : Frag} {mg mb : Str -> Option Value} {d : Nat} {ρ : List V} {σ σ' : List O} {x : V}
theorem sx_andF {e1 e2 : X} {y : V} {σ1 : List O} (S1 : SX prog w W T e1 d ρ σ y σ1) (h1 : truth y = some false) : SX prog w W T (.and e1 e2) d ρ σ y σ1 := by
  have key : ∀ sc env A fr μ s,At W T sc env A d fr μ ρ σ s -> ∀ a0 b r,Cx sc a0 e1 -> Cand sc (b :: r) e2 -> ∀ pos,wpAny (model prog w) A (eval (.BoolOp .And (a0 :: b :: r) pos) env) (PE W fr μ s y σ1) Fa s := by
    intro sc env A fr μ s a a0 b r c1 _ pos
    refine BoolOp_and (wpAny_mono (S1.one _ _ _ _ _ _ a _ c1) (fun v s1 q => ?_) fun _ _ q => q)
    refine St.elim q fun h1' t1 μ1 H G r => ?_
    obtain rfl := truth_bool h1
    refine rp_bool r ?_
    exact wpAny_truthy_bool ⟨h1',t1,μ1,rfl,H,G,.bool _⟩
  have keyt : ∀ sc env A fr μ s,At W T sc env A d fr μ ρ σ s -> ∀ a0 b r,Cx sc a0 e1 -> Cand sc (b :: r) e2 -> ∀ pos whole t,truth y = some t -> wpAny (model prog w) A (isTrue (.BoolOp .And (a0 :: b :: r) pos) env whole) (PB W fr μ s t σ1) Fa s := by
    intro sc env A fr μ s a a0 b r c1 _ pos whole t ht
    rw [h1] at ht; cases ht
    refine isTrue_and (wpAny_mono (S1.test _ _ _ _ _ _ a _ c1 false h1) (fun v s1 q => ?_) fun _ _ q => q)
    obtain rfl := q.is
    exact q
  exact .mkA key keyt
theorem sx_orF {e1 e2 : X} {y : V} {σ1 σ2 : List O} {z : V} (S1 : SX prog w W T e1 d ρ σ y σ1) (h1 : truth y = some false) (S2 : SX prog w W T e2 d ρ σ1 z σ2) : SX prog w W T (.or e1 e2) d ρ σ z σ2 := by
  have key : ∀ sc env A fr μ s,At W T sc env A d fr μ ρ σ s -> ∀ a0 b r,Cx sc a0 e1 -> Cor sc (b :: r) e2 -> ∀ pos,wpAny (model prog w) A (eval (.BoolOp .Or (a0 :: b :: r) pos) env) (PE W fr μ s z σ2) Fa s := by
    intro sc env A fr μ s a a0 b r c1 c2 pos
    refine BoolOp_or (wpAny_mono (S1.one _ _ _ _ _ _ a _ c1) (fun v s1 q => ?_) fun _ _ q => q)
    refine St.elim q fun h1' t1 μ1 H G r => ?_
    obtain rfl := truth_bool h1
    refine rp_bool r ?_
    refine wpAny_truthy_bool ?_
    exact wpAny_mono (S2.ors _ _ _ _ _ _ (a.on (t1 := t1) H G) _ c2 pos) (fun _ _ q => q.from G) fun _ _ q => q
  have keyt : ∀ sc env A fr μ s,At W T sc env A d fr μ ρ σ s -> ∀ a0 b r,Cx sc a0 e1 -> Cor sc (b :: r) e2 -> ∀ pos whole t,truth z = some t -> wpAny (model prog w) A (isTrue (.BoolOp .Or (a0 :: b :: r) pos) env whole) (PB W fr μ s t σ2) Fa s := by
    intro sc env A fr μ s a a0 b r c1 c2 pos whole t ht
    refine isTrue_or (wpAny_mono (S1.test _ _ _ _ _ _ a _ c1 false h1) (fun v s1 q => ?_) fun _ _ q => q)
    obtain rfl := q.is
    refine St.elim q fun h1' t1 μ1 H G r => ?_
    exact wpAny_mono (S2.ort _ _ _ _ _ _ (a.on (t1 := t1) H G) _ c2 pos whole t ht) (fun _ _ q => q.from G) fun _ _ q => q
  exact .mkO key keyt
theorem sx_orT {e1 e2 : X} {y : V} {σ1 : List O} (S1 : SX prog w W T e1 d ρ σ y σ1) (h1 : truth y = some true) : SX prog w W T (.or e1 e2) d ρ σ y σ1 := by
  have key : ∀ sc env A fr μ s,At W T sc env A d fr μ ρ σ s -> ∀ a0 b r,Cx sc a0 e1 -> Cor sc (b :: r) e2 -> ∀ pos,wpAny (model prog w) A (eval (.BoolOp .Or (a0 :: b :: r) pos) env) (PE W fr μ s y σ1) Fa s := by
    intro sc env A fr μ s a a0 b r c1 _ pos
    refine BoolOp_or (wpAny_mono (S1.one _ _ _ _ _ _ a _ c1) (fun v s1 q => ?_) fun _ _ q => q)
    refine St.elim q fun h1' t1 μ1 H G r => ?_
    obtain rfl := truth_bool h1
    refine rp_bool r ?_
    exact wpAny_truthy_bool ⟨h1',t1,μ1,rfl,H,G,.bool _⟩
  have keyt : ∀ sc env A fr μ s,At W T sc env A d fr μ ρ σ s -> ∀ a0 b r,Cx sc a0 e1 -> Cor sc (b :: r) e2 -> ∀ pos whole t,truth y = some t -> wpAny (model prog w) A (isTrue (.BoolOp .Or (a0 :: b :: r) pos) env whole) (PB W fr μ s t σ1) Fa s := by
    intro sc env A fr μ s a a0 b r c1 _ pos whole t ht
    rw [h1] at ht; cases ht
    refine isTrue_or (wpAny_mono (S1.test _ _ _ _ _ _ a _ c1 true h1) (fun v s1 q => ?_) fun _ _ q => q)
    obtain rfl := q.is
    exact q
  exact .mkO key keyt
theorem sx_iteT {t e1 e2 : X} {y : V} {σ1 σ2 : List O} {z : V} (S1 : SX prog w W T t d ρ σ y σ1) (h1 : truth y = some true) (S2 : SX prog w W T e1 d ρ σ1 z σ2) : SX prog w W T (.ite t e1 e2) d ρ σ z σ2 := by
  refine .mk3 (fun sc env A fr μ s a ex c => ?_) (fun sc env A fr μ s a ex c b' hb' => ?_)
  · refine i_ite c fun c1 c2 c3 => ?_
    refine IfExp_ (wpAny_mono (S1.test _ _ _ _ _ _ a _ c1 true h1) (fun v s1 q => ?_) fun _ _ q => q)
    obtain rfl := q.is
    refine St.elim q fun h1' t1 μ1 H G r => ?_
    exact wpAny_mono (S2.one _ _ _ _ _ _ (a.on (t1 := t1) H G) _ c2) (fun _ _ q => q.from G) fun _ _ q => q
  · refine i_ite c fun c1 c2 c3 => ?_
    refine isTrue_IfExp (wpAny_mono (S1.test _ _ _ _ _ _ a _ c1 true h1) (fun v s1 q => ?_) fun _ _ q => q)
    obtain rfl := q.is
    refine St.elim q fun h1' t1 μ1 H G r => ?_
    exact wpAny_mono (S2.test _ _ _ _ _ _ (a.on (t1 := t1) H G) _ c2 b' hb') (fun _ _ q => q.from G) fun _ _ q => q
theorem sx_iteF {t e1 e2 : X} {y : V} {σ1 σ2 : List O} {z : V} (S1 : SX prog w W T t d ρ σ y σ1) (h1 : truth y = some false) (S2 : SX prog w W T e2 d ρ σ1 z σ2) : SX prog w W T (.ite t e1 e2) d ρ σ z σ2 := by
  refine .mk3 (fun sc env A fr μ s a ex c => ?_) (fun sc env A fr μ s a ex c b' hb' => ?_)
  · refine i_ite c fun c1 c2 c3 => ?_
    refine IfExp_ (wpAny_mono (S1.test _ _ _ _ _ _ a _ c1 false h1) (fun v s1 q => ?_) fun _ _ q => q)
    obtain rfl := q.is
    refine St.elim q fun h1' t1 μ1 H G r => ?_
    exact wpAny_mono (S2.one _ _ _ _ _ _ (a.on (t1 := t1) H G) _ c3) (fun _ _ q => q.from G) fun _ _ q => q
  · refine i_ite c fun c1 c2 c3 => ?_
    refine isTrue_IfExp (wpAny_mono (S1.test _ _ _ _ _ _ a _ c1 false h1) (fun v s1 q => ?_) fun _ _ q => q)
    obtain rfl := q.is
    refine St.elim q fun h1' t1 μ1 H G r => ?_
    exact wpAny_mono (S2.test _ _ _ _ _ _ (a.on (t1 := t1) H G) _ c3 b' hb') (fun _ _ q => q.from G) fun _ _ q => q
set_option tactic.hygienic false in
theorem notMarks {op : CmpOp} {r : PySem.Expr} (h : isSet r = false) : behindInMarks op r = false := by
  cases r <;> first | rfl | (cases h)
theorem sx_cmp (hw : W.P = w.params) {o : COp} {e1 e2 : X} {x1 x2 y1 y2 : V} {b : Bool} {σ1 σ2 : List O} (S1 : SX prog w W T e1 d ρ σ x1 σ1) (S2 : SX prog w W T e2 d ρ σ1 x2 σ2) (h1 : deref σ2 x1 = some y1) (h2 : deref σ2 x2 = some y2)
    (hz : cmpop o y1 y2 = some b) : SX prog w W T (.cmp o e1 e2) d ρ σ (.bool b) σ2 := by
  refine .mk3 (fun sc env A fr μ s a ex c => ?_) (fun sc env A fr μ s a ex c b' hb' => ?_)
  · revert c; intro cq; refine i_cmp cq fun c1 c2 hs ee0 => ?_
    clear cq; subst ee0
    exact wpAny_Compare1 (S1.step2 S2 a c1 c2 fun v v2 h2' t2 μ2 a2 G2 r1 r2 => prim_cmp hw a2.hp (a2.here.a.cl (by have := a2.here.dl; omega)) (two_of a2.hp r1 h1) (two_of a2.hp r2 h2) hz) (notMarks hs)
  · revert c; intro cq; refine i_cmp cq fun c1 c2 hs ee0 => ?_
    clear cq; subst ee0
    cases hb'
    refine wpAny_isTrue_Compare1 (wpAny_mono (S1.one _ _ _ _ _ _ a _ c1) (fun v s1 q => ?_) fun _ _ q => q) (notMarks hs)
    refine St.elim q fun h1' t1 μ1 H G r1 => ?_
    have a1 := a.on (t1 := t1) H G
    refine wpAny_mono (S2.one _ _ _ _ _ _ a1 _ c2) (fun v2 s2 q => ?_) fun _ _ q => q
    refine St.elim q fun h2' t2 μ2 H2 G2 r2 => ?_
    have a2 := a1.on (t1 := t2) H2 G2
    refine wpAny_mono (prim_cmp hw a2.hp (a2.here.a.cl (by have := a2.here.dl; omega)) (two_of a2.hp (r1.on G2) h1) (two_of a2.hp r2 h2) hz) (fun v3 s3 q => ?_) fun _ _ q => q
    refine St.elim q fun h3' t3 μ3 H3 G3 r3 => ?_
    refine rp_bool r3 ?_
    exact wpAny_truthy_bool ⟨h3',t3,μ3,rfl,H3,(G.trans G2).trans G3,rfl⟩
theorem chain_last {A : Around} {env : Env} {s : Shared} {pos : Pos} {a : Value} {op : CmpOp} {r : PySem.Expr} {Q : Value -> Shared -> Prop} (h : wpAny (model prog w) A (eval r env) (fun b s1 => wpAny (model prog w) A (compareOp op a b) Q Fa s1) Fa s) :
    wpAny (model prog w) A (compareChain pos a [op] (evalEach [r] env)) Q Fa s := by
  show wpAny (model prog w) A (do
    let rv ← holding [a] (eval r env)
    standAt pos
    operate [a,rv] (compareOp op a rv)) Q Fa s
  exact wpAny_bind (wpAny_holding (wpAny_mono h (fun b s1 q => wpAny_bind (wpAny_standAt (wpAny_operating q))) fun _ _ q => q))
theorem chain_more {A : Around} {env : Env} {s : Shared} {pos : Pos} {a : Value} {op op2 : CmpOp} {r r2 : PySem.Expr} {Q : Value -> Shared -> Prop}
    (h : wpAny (model prog w) A (eval r env) (fun b s1 => wpAny (model prog w) A (compareOp op a b) (fun c s2 => wpAny (model prog w) A (truthy c) (fun t s3 => if t then wpAny (model prog w) A (compareChain pos b [op2] (evalEach [r2] env)) Q Fa s3 else Q c s3) Fa s2) Fa s1) Fa s) :
    wpAny (model prog w) A (compareChain pos a [op,op2] (eval r env :: eval r2 env :: evalEach [] env)) Q Fa s := by
  show wpAny (model prog w) A (do
    let rv ← holding [a] (eval r env)
    standAt pos
    let c ← holding [a,rv] (compareOp op a rv)
    release [a,rv] [c]
    if ← holding [c,rv] (truthy c) then compareChain pos rv [op2] (evalEach [r2] env) else pure c) Q Fa s
  refine wpAny_bind (wpAny_holding (wpAny_mono h (fun b s1 q => wpAny_bind (wpAny_standAt (wpAny_bind (wpAny_holding (wpAny_mono q (fun c s2 q => wpAny_bind (wpAny_release' (wpAny_bind (wpAny_holding (wpAny_mono q (fun t s3 q => ?_) fun _ _ q => q))))) fun _ _ q => q))))) fun _ _ q => q))
  cases t
  · exact wpAny_pure q
  · exact q
theorem test_last {A : Around} {env : Env} {s : Shared} {pos : Pos} {a : Value} {op : CmpOp} {r : PySem.Expr} {Q : Bool -> Shared -> Prop} (h : wpAny (model prog w) A (eval r env) (fun b s1 => wpAny (model prog w) A (compareOp op a b) (fun c s2 => wpAny (model prog w) A (truthy c) Q Fa s2) Fa s1) Fa s) :
    wpAny (model prog w) A (testChain pos a [op] (evalEach [r] env)) Q Fa s := by
  show wpAny (model prog w) A (do
    let rv ← holding [a] (eval r env)
    standAt pos
    let c ← operate [a,rv] (compareOp op a rv)
    holding [c] (truthy c)) Q Fa s
  exact wpAny_bind (wpAny_holding (wpAny_mono h (fun b s1 q => wpAny_bind (wpAny_standAt (wpAny_bind (wpAny_operating (wpAny_mono q (fun c s2 q => wpAny_holding q) fun _ _ q => q))))) fun _ _ q => q))
theorem test_more {A : Around} {env : Env} {s : Shared} {pos : Pos} {a : Value} {op op2 : CmpOp} {r r2 : PySem.Expr} {Q : Bool -> Shared -> Prop}
    (h : wpAny (model prog w) A (eval r env) (fun b s1 => wpAny (model prog w) A (compareOp op a b) (fun c s2 => wpAny (model prog w) A (truthy c) (fun t s3 => if t then wpAny (model prog w) A (testChain pos b [op2] (evalEach [r2] env)) Q Fa s3 else Q false s3) Fa s2) Fa s1) Fa s) :
    wpAny (model prog w) A (testChain pos a [op,op2] (eval r env :: eval r2 env :: evalEach [] env)) Q Fa s := by
  show wpAny (model prog w) A (do
    let rv ← holding [a] (eval r env)
    standAt pos
    let c ← holding [a,rv] (compareOp op a rv)
    release [a,rv] [c]
    if ← holding [c,rv] (truthy c) then testChain pos rv [op2] (evalEach [r2] env) else pure false) Q Fa s
  refine wpAny_bind (wpAny_holding (wpAny_mono h (fun b s1 q => wpAny_bind (wpAny_standAt (wpAny_bind (wpAny_holding (wpAny_mono q (fun c s2 q => wpAny_bind (wpAny_release' (wpAny_bind (wpAny_holding (wpAny_mono q (fun t s3 q => ?_) fun _ _ q => q))))) fun _ _ q => q))))) fun _ _ q => q))
  cases t
  · exact wpAny_pure q
  · exact q
theorem notMarks2 {op1 op2 : CmpOp} {m r : PySem.Expr} (h : isSet r = false) : lastMarks [op1,op2] [m,r] = false := notMarks h
theorem sx_cmp2T (hw : W.P = w.params) {o1 o2 : COp} {e1 e2 e3 : X} {x1 x2 x3 : V} {b : Bool} {σ1 σ2 σ3 : List O} (S1 : SX prog w W T e1 d ρ σ x1 σ1) (S2 : SX prog w W T e2 d ρ σ1 x2 σ2) (hz : cmpop o1 x1 x2 = some true)
    (S3 : SX prog w W T e3 d ρ σ2 x3 σ3) (hz2 : cmpop o2 x2 x3 = some b) : SX prog w W T (.cmp2 o1 o2 e1 e2 e3) d ρ σ (.bool b) σ3 := by
  refine .mk3 (fun sc env A fr μ s a ex c => ?_) (fun sc env A fr μ s a ex c b' hb' => ?_)
  · revert c; intro cq; refine i_cmp2 cq fun c1 c2 c3 hs1 hs2 ee0 ee1 => ?_
    clear cq; subst ee0 ee1
    refine Compare_chain (wpAny_mono (S1.one _ _ _ _ _ _ a _ c1) (fun v s1 q => ?_) fun _ _ q => q) (notMarks2 hs2)
    refine St.elim q fun h1' t1 μ1 H G r1 => ?_
    have a1 := a.on (t1 := t1) H G
    refine chain_more (wpAny_mono (S2.one _ _ _ _ _ _ a1 _ c2) (fun v2 s2 q => ?_) fun _ _ q => q)
    refine St.elim q fun h2' t2 μ2 H2 G2 r2 => ?_
    have a2 := a1.on (t1 := t2) H2 G2
    refine wpAny_mono (prim_cmp hw a2.hp (a2.here.a.cl (by have := a2.here.dl; omega)) (two_rep (r1.on G2)) (two_rep r2) hz) (fun v3 s3 q => ?_) fun _ _ q => q
    refine St.elim q fun h3' t3 μ3 H3 G3 r3 => ?_
    refine rp_bool r3 ?_
    refine wpAny_truthy_bool ?_
    have a3 := a2.on (t1 := t3) H3 G3
    refine chain_last (wpAny_mono (S3.one _ _ _ _ _ _ a3 _ c3) (fun v4 s4 q => ?_) fun _ _ q => q)
    refine St.elim q fun h4' t4 μ4 H4 G4 r4 => ?_
    have a4 := a3.on (t1 := t4) H4 G4
    exact wpAny_mono (prim_cmp hw a4.hp (a4.here.a.cl (by have := a4.here.dl; omega)) (two_rep ((r2.on G3).on G4)) (two_rep r4) hz2) (fun v5 s5 q => St.from (((G.trans G2).trans G3).trans G4) q) fun _ _ q => q
  · revert c; intro cq; refine i_cmp2 cq fun c1 c2 c3 hs1 hs2 ee0 ee1 => ?_
    clear cq; subst ee0 ee1
    cases hb'
    refine isTrue_chain (wpAny_mono (S1.one _ _ _ _ _ _ a _ c1) (fun v s1 q => ?_) fun _ _ q => q) (notMarks2 hs2)
    refine St.elim q fun h1' t1 μ1 H G r1 => ?_
    have a1 := a.on (t1 := t1) H G
    refine test_more (wpAny_mono (S2.one _ _ _ _ _ _ a1 _ c2) (fun v2 s2 q => ?_) fun _ _ q => q)
    refine St.elim q fun h2' t2 μ2 H2 G2 r2 => ?_
    have a2 := a1.on (t1 := t2) H2 G2
    refine wpAny_mono (prim_cmp hw a2.hp (a2.here.a.cl (by have := a2.here.dl; omega)) (two_rep (r1.on G2)) (two_rep r2) hz) (fun v3 s3 q => ?_) fun _ _ q => q
    refine St.elim q fun h3' t3 μ3 H3 G3 r3 => ?_
    refine rp_bool r3 ?_
    refine wpAny_truthy_bool ?_
    have a3 := a2.on (t1 := t3) H3 G3
    refine test_last (wpAny_mono (S3.one _ _ _ _ _ _ a3 _ c3) (fun v4 s4 q => ?_) fun _ _ q => q)
    refine St.elim q fun h4' t4 μ4 H4 G4 r4 => ?_
    have a4 := a3.on (t1 := t4) H4 G4
    refine wpAny_mono (prim_cmp hw a4.hp (a4.here.a.cl (by have := a4.here.dl; omega)) (two_rep ((r2.on G3).on G4)) (two_rep r4) hz2) (fun v5 s5 q => ?_) fun _ _ q => q
    refine St.elim q fun h5' t5 μ5 H5 G5 r5 => ?_
    refine rp_bool r5 ?_
    exact wpAny_truthy_bool ⟨h5',t5,μ5,rfl,H5,(((G.trans G2).trans G3).trans G4).trans G5,rfl⟩
theorem sx_cmp2F (hw : W.P = w.params) {o1 o2 : COp} {e1 e2 e3 : X} {x1 x2 : V} {σ1 σ2 : List O} (S1 : SX prog w W T e1 d ρ σ x1 σ1) (S2 : SX prog w W T e2 d ρ σ1 x2 σ2) (hz : cmpop o1 x1 x2 = some false) :
    SX prog w W T (.cmp2 o1 o2 e1 e2 e3) d ρ σ (.bool false) σ2 := by
  refine .mk3 (fun sc env A fr μ s a ex c => ?_) (fun sc env A fr μ s a ex c b' hb' => ?_)
  · revert c; intro cq; refine i_cmp2 cq fun c1 c2 c3 hs1 hs2 ee0 ee1 => ?_
    clear cq; subst ee0 ee1
    refine Compare_chain (wpAny_mono (S1.one _ _ _ _ _ _ a _ c1) (fun v s1 q => ?_) fun _ _ q => q) (notMarks2 hs2)
    refine St.elim q fun h1' t1 μ1 H G r1 => ?_
    have a1 := a.on (t1 := t1) H G
    refine chain_more (wpAny_mono (S2.one _ _ _ _ _ _ a1 _ c2) (fun v2 s2 q => ?_) fun _ _ q => q)
    refine St.elim q fun h2' t2 μ2 H2 G2 r2 => ?_
    have a2 := a1.on (t1 := t2) H2 G2
    refine wpAny_mono (prim_cmp hw a2.hp (a2.here.a.cl (by have := a2.here.dl; omega)) (two_rep (r1.on G2)) (two_rep r2) hz) (fun v3 s3 q => ?_) fun _ _ q => q
    refine St.elim q fun h3' t3 μ3 H3 G3 r3 => ?_
    refine rp_bool r3 ?_
    exact wpAny_truthy_bool ⟨h3',t3,μ3,rfl,H3,(G.trans G2).trans G3,.bool _⟩
  · revert c; intro cq; refine i_cmp2 cq fun c1 c2 c3 hs1 hs2 ee0 ee1 => ?_
    clear cq; subst ee0 ee1
    cases hb'
    refine isTrue_chain (wpAny_mono (S1.one _ _ _ _ _ _ a _ c1) (fun v s1 q => ?_) fun _ _ q => q) (notMarks2 hs2)
    refine St.elim q fun h1' t1 μ1 H G r1 => ?_
    have a1 := a.on (t1 := t1) H G
    refine test_more (wpAny_mono (S2.one _ _ _ _ _ _ a1 _ c2) (fun v2 s2 q => ?_) fun _ _ q => q)
    refine St.elim q fun h2' t2 μ2 H2 G2 r2 => ?_
    have a2 := a1.on (t1 := t2) H2 G2
    refine wpAny_mono (prim_cmp hw a2.hp (a2.here.a.cl (by have := a2.here.dl; omega)) (two_rep (r1.on G2)) (two_rep r2) hz) (fun v3 s3 q => ?_) fun _ _ q => q
    refine St.elim q fun h3' t3 μ3 H3 G3 r3 => ?_
    refine rp_bool r3 ?_
    exact wpAny_truthy_bool ⟨h3',t3,μ3,rfl,H3,(G.trans G2).trans G3,rfl⟩
theorem sx_idx (hw : W.P = w.params) {e1 e2 : X} {x1 x2 y1 z : V} {σ1 σ2 : List O} (S1 : SX prog w W T e1 d ρ σ x1 σ1) (S2 : SX prog w W T e2 d ρ σ1 x2 σ2) (h1 : deref σ2 x1 = some y1) (hz : item y1 x2 = some z) :
    SX prog w W T (.idx e1 e2) d ρ σ z σ2 := by
  refine .mk0 (fun sc env A fr μ s a ex c => ?_)
  refine i_idx c fun c1 c2 hs => ?_
  exact Subscript_ (S1.step2 S2 a c1 c2 fun v v2 h2' t2 μ2 a2 G2 r1 r2 => prim_item hs hw a2.hp (two_of a2.hp r1 h1) r2 hz)
theorem part_eval {e : X} {σ1 : List O} {sc : Sc} {env : Env} {A : Around} {fr μ : List Addr} {s : Shared} (S : SX prog w W T e d ρ σ x σ1) (a : At W T sc env A d fr μ ρ σ s) {o : Option PySem.Expr} (c : Co sc o e) :
    wpAny (model prog w) A (evalPart o env) (PE W fr μ s x σ1) Fa s := by
  refine i_co c (fun z => ?_) fun _ c => S.one _ _ _ _ _ _ a _ c
  obtain ⟨rfl,rfl⟩ := S.cn z
  exact wpAny_pure (St.here a.hp .none)
theorem sx_slice {e1 e2 e3 : X} {x1 x2 x3 z : V} {σ1 σ2 σ3 : List O} (S1 : SX prog w W T e1 d ρ σ x1 σ1) (S2 : SX prog w W T e2 d ρ σ1 x2 σ2) (S3 : SX prog w W T e3 d ρ σ2 x3 σ3) (hz : sliced x1 x2 x3 = some z) :
    SX prog w W T (.slice e1 e2 e3) d ρ σ z σ3 := by
  refine .mk0 (fun sc env A fr μ s a ex c => ?_)
  refine i_slice c fun c1 c2 c3 => ?_
  refine Subscript_ (wpAny_mono (S1.one _ _ _ _ _ _ a _ c1) (fun v s1 q => ?_) fun _ _ q => q)
  refine St.elim q fun h1' t1 μ1 H G r1 => ?_
  have a1 := a.on (t1 := t1) H G
  refine wpAny_Slice (wpAny_mono (part_eval S2 a1 c2) (fun v2 s2 q => ?_) fun _ _ q => q)
  refine St.elim q fun h2' t2 μ2 H2 G2 r2 => ?_
  have a2 := a1.on (t1 := t2) H2 G2
  refine wpAny_mono (part_eval S3 a2 c3) (fun v3 s3 q => ?_) fun _ _ q => q
  refine St.elim q fun h3' t3 μ3 H3 G3 r3 => ?_
  refine evalPart_none_step ?_
  exact wpAny_mono (prim_slice (s := { s with heap := h3',toks := t3 }) H3 ((r1.on G2).on G3) (r2.on G3) r3 hz) (fun v5 s5 q => St.from ((G.trans G2).trans G3) q) fun _ _ q => q
end
section
variable {W : Wd} {fr μ μ' ch : List Addr} {h h' : Heap} {σ : List O}
theorem Go.turn (H : Hp W fr μ σ h) {i : Nat} {a : Addr} (hi : μ[i]? = some a) (ha : ∀ b,b ≠ a -> h'.get? b = h.get? b) (hs : ∃ ob,h'.get? a = some ob) : Go fr μ μ ch h h' := by
  have am : a ∈ μ := List.mem_of_getElem? hi
  refine ⟨List.prefix_refl _,fun b o q _ n => ?_,fun _ q n => absurd q n,fun b hb _ o q => ?_,fun b o q => ?_⟩
  · rw [ha b fun e => n (e ▸ am)]; exact q
  · rw [ha b fun e => H.apart b hb (e ▸ am)]; exact q
  · by_cases e : b = a
    · subst e; exact hs
    · exact ⟨o,(ha b e).trans q⟩
theorem isStr_name {k : Str} {l : List Nat} {t : Tok} : (Value.str k t).isStr (⟨l.toArray⟩ : Str) = decide (k.cps.toList = l) := by
  show (k == (⟨l.toArray⟩ : Str)) = _
  rw [beq_str,Bool.eq_iff_iff,beq_iff_eq,decide_eq_true_eq]
theorem getL_rep : ∀ {es : List DictEntry} {kvs : List (List Nat × V)} (_ : RepD W fr μ h es kvs) (k : List Nat),
    match lookupD k kvs with
    | some x => ∃ v,getL (⟨k.toArray⟩ : Str) es = some (some v) /\ Rep W fr μ h v x
    | none => getL (⟨k.toArray⟩ : Str) es = some none
  | _,_,.nil,k => by simp [lookupD,getL]
  | _,_,.cons (k := k') (t := t) (v := v) (x := x) (es := es) (kvs := kvs) r rs,k => by
    have ih := getL_rep rs k
    unfold lookupD
    by_cases q : k'.cps.toList = k
    · rw [if_pos q]
      refine ⟨v,?_,r⟩
      unfold getL
      rw [List.find?_cons]
      have : (Value.str k' t).isStr (⟨k.toArray⟩ : Str) = true := by rw [isStr_name,decide_eq_true q]
      rw [this]
    · rw [if_neg q]
      have e : getL (⟨k.toArray⟩ : Str) (⟨PyData.keyHash W.P k',.str k' t,v⟩ :: es) = getL (⟨k.toArray⟩ : Str) es := by
        unfold getL
        rw [List.find?_cons]
        have : (Value.str k' t).isStr (⟨k.toArray⟩ : Str) = false := by rw [isStr_name,decide_eq_false q]
        rw [this,List.any_cons]
        rfl
      rw [e]; exact ih
theorem rep_handed {v : Value} {x : V} (r : Rep W fr μ h v x) : handedIn v = true := by cases r <;> rfl
theorem inst_at (H : Hp W fr μ σ h) {v : Value} {c i : Nat} (r : Rep W fr μ h v (.inst c i)) {fs : List (List Nat × V)} (e : σ[i]? = some (.ns fs)) :
    ∃ x dx es n,v = .ref x /\ μ[i]? = some dx /\ h.get? x = some (instObj (W.C c) dx) /\ h.get? dx = some (dictOf es n) /\ es.length <= 1000 /\ RepD W fr μ h es fs /\ InstAt h x (instObj (W.C c) dx) (W.C c) (some (dictOf es n)) := by
  cases r with
  | inst g n1 n2 hi =>
    have o := H.obj _ _ _ hi e
    cases o with
    | ns q l rd => exact ⟨_,_,_,_,rfl,hi,g,q,l,rd,g,rfl,rfl,q⟩
end
section
variable {prog : Program} {w : World} {W : Wd} {T : Tb} {P : Prog} {K : Frag} {mg mb : Str -> Option Value} {d : Nat} {ρ : List V} {σ σ' : List O} {x : V}
section
variable {sc : Sc} {env : Env} {A : Around} {fr μ μ1 : List Addr} {s : Shared} {σ1 : List O}
theorem At.kin (a : At W T sc env A d fr μ ρ σ s) (B : Amb w W T P K mg mb) : K.In s.heap := B.X.keeps a.hp.keep
theorem At.gns (a : At W T sc env A d fr μ ρ σ s) (B : Amb w W T P K mg mb) : s.heap.Ns env.globals mg := by
  rw [a.here.e.globals]
  obtain ⟨o,es,ep,q,r⟩ := B.g
  exact ⟨o,es,ep,a.hp.keep _ _ q,r⟩
theorem At.bns (a : At W T sc env A d fr μ ρ σ s) (B : Amb w W T P K mg mb) : s.heap.Ns env.builtins mb := by
  rw [a.here.e.builtins]
  obtain ⟨o,es,ep,q,r⟩ := B.b
  exact ⟨o,es,ep,a.hp.keep _ _ q,r⟩
theorem At.name_b (a : At W T sc env A d fr μ ρ σ s) (B : Amb w W T P K mg mb) {n : Str} {v : Value} (h : mg n = none /\ mb n = some v) (hb : sc.isBlt n = true) (hd : (n == ("__debug__" : Str)) = false) {pos : Pos} {Q : Value -> Shared -> Prop} (q : Q v s) :
    wpAny (model prog w) A (eval (.Name n pos) env) Q Fa s := by
  unfold Sc.isBlt at hb
  simp only [Bool.and_eq_true] at hb
  exact Calls.Name_function_global a.here.e.fk (a.here.e.glob hb.1.1.1) (Calls.loadGlobal_builtin (a.gns B) h.1 (a.bns B) h.2 q) hd
end
theorem sx_len (B : Amb w W T P K mg mb) {e : X} {x y z : V} {σ1 : List O} (S : SX prog w W T e d ρ σ x σ1) (hy : deref σ1 x = some y) (hz : lenV y = some z) : SX prog w W T (.len e) d ρ σ z σ1 := by
  refine .mk0 (fun sc env A fr μ s a ex c => ?_)
  refine i_len c fun hb c hn => ?_
  refine Call_ (a.name_b B B.bLen hb (by decide) ?_)
  rw [starEach_cons hn]
  refine Calls.callWith_builtin rfl (Calls.evalArgs_plain (Calls.spliced_cons (wpAny_mono (S.one _ _ _ _ _ _ a _ c) (fun v s1 q => Calls.spliced_nil ?_) fun _ _ q => q)))
  refine St.elim q fun h1 t1 μ1 H G r => ?_
  exact wpAny_mono (prim_len (s := { s with heap := h1,toks := t1 }) H (two_of H r hy) hz) (fun _ _ q => q.from G) fun _ _ q => q
theorem sx_ord (B : Amb w W T P K mg mb) {e : X} {c0 : Nat} {σ1 : List O} (S : SX prog w W T e d ρ σ (.str [c0]) σ1) : SX prog w W T (.ord e) d ρ σ (.int c0) σ1 := by
  refine .mk0 (fun sc env A fr μ s a ex c => ?_)
  refine i_ord c fun hb c hn => ?_
  refine Call_ (a.name_b B B.bOrd hb (by decide) ?_)
  rw [starEach_cons hn]
  refine Calls.callWith_builtin rfl (Calls.evalArgs_plain (Calls.spliced_cons (wpAny_mono (S.one _ _ _ _ _ _ a _ c) (fun v s1 q => Calls.spliced_nil ?_) fun _ _ q => q)))
  refine St.elim q fun h1 t1 μ1 H G r => ?_
  exact wpAny_mono (prim_ord (s := { s with heap := h1,toks := t1 }) H r) (fun _ _ q => q.from G) fun _ _ q => q
theorem sx_tupleOf (B : Amb w W T P K mg mb) {e : X} {x : V} {xs : List V} {σ1 : List O} (S : SX prog w W T e d ρ σ x σ1) (hy : deref σ1 x = some (.lst xs)) : SX prog w W T (.tupleOf e) d ρ σ (.tup xs) σ1 := by
  refine .mk0 (fun sc env A fr μ s a ex c => ?_)
  refine i_tupleOf c fun hb c hn => ?_
  refine Call_ (a.name_b B B.bTuple hb (by decide) ?_)
  rw [starEach_cons hn]
  refine callWith_type1 (wpAny_mono (S.one _ _ _ _ _ _ a _ c) (fun v s1 q => ?_) fun _ _ q => q)
  refine St.elim q fun h1 t1 μ1 H G r => ?_
  exact wpAny_mono (prim_tuple (s := { s with heap := h1,toks := t1 }) H (two_of H r hy).lstAt) (fun _ _ q => q.from G) fun _ _ q => q
set_option tactic.hygienic false in
theorem base_plain {o : PySem.Expr} (h : isCall o = false) (m : Str) (env : Env) (t : Sem Value) : attributeBase o m env t = t := by
  cases o <;> first | rfl | (cases h)
theorem line_ok {a b : Nat} (h : a = b) : (a == b) = true := by simp [h]
theorem sx_find {e1 e2 : X} {t : List Nat} {c0 : Nat} {σ1 σ2 : List O} (S1 : SX prog w W T e1 d ρ σ (.str t) σ1) (S2 : SX prog w W T e2 d ρ σ1 (.str [c0]) σ2) : SX prog w W T (.find e1 e2) d ρ σ (.int (findC c0 t 0)) σ2 := by
  refine .mk0 (fun sc env A fr μ s a ex c => ?_)
  refine i_find c fun c1 c2 hn hc hl => ?_
  refine Call_method1 (base_plain hc _ _ _) (starEach_cons hn [] env) (line_ok hl) (wpAny_mono (S1.one _ _ _ _ _ _ a _ c1) (fun v s1 q => ?_) fun _ _ q => q)
  refine St.elim q fun h1 t1 μ1 H G r => ?_
  obtain ⟨T',id,x1,x2,x3,x4,x5,x6⟩ := meth_find (pos := _) r (S2.one _ _ _ _ _ _ (a.on (t1 := t1) H G) _ c2)
  exact ⟨T',id,x1,x2,x3,x4,x5,wpAny_mono x6 (fun _ _ q => q.from G) fun _ _ q => q⟩
theorem sx_split {e1 e2 : X} {t : List Nat} {c0 : Nat} {σ1 σ2 : List O} (S1 : SX prog w W T e1 d ρ σ (.str t) σ1) (S2 : SX prog w W T e2 d ρ σ1 (.str [c0]) σ2) (hl : t.length + 2 <= maxLen) : SX prog w W T (.split e1 e2) d ρ σ (.lst ((splitAt c0 [] t).map .str)) σ2 := by
  refine .mk0 (fun sc env A fr μ s a ex c => ?_)
  refine i_split c fun c1 c2 hn hc hl' => ?_
  refine Call_method1 (base_plain hc _ _ _) (starEach_cons hn [] env) (line_ok hl') (wpAny_mono (S1.one _ _ _ _ _ _ a _ c1) (fun v s1 q => ?_) fun _ _ q => q)
  refine St.elim q fun h1 t1 μ1 H G r => ?_
  obtain ⟨T',id,x1,x2,x3,x4,x5,x6⟩ := meth_split (pos := _) hl r (S2.one _ _ _ _ _ _ (a.on (t1 := t1) H G) _ c2)
  exact ⟨T',id,x1,x2,x3,x4,x5,wpAny_mono x6 (fun _ _ q => q.from G) fun _ _ q => q⟩
theorem sx_lower {e1 : X} {c0 : Nat} {σ1 : List O} (S1 : SX prog w W T e1 d ρ σ (.str [c0]) σ1) (hl : c0 < 128) : SX prog w W T (.lower e1) d ρ σ (.str [lowerC c0]) σ1 := by
  refine .mk0 (fun sc env A fr μ s a ex c => ?_)
  refine i_lower c fun c1 hc hl' => ?_
  refine Call_method0 (base_plain hc _ _ _) (line_ok hl') (wpAny_mono (S1.one _ _ _ _ _ _ a _ c1) (fun v s1 q => ?_) fun _ _ q => q)
  refine St.elim q fun h1 t1 μ1 H G r => ?_
  obtain ⟨T',id,x1,x2,x3,x4,x5,x6⟩ := meth_lower (s := { s with heap := h1,toks := t1 }) (pos := _) H hl r
  exact ⟨T',id,x1,x2,x3,x4,x5,wpAny_mono x6 (fun _ _ q => q.from G) fun _ _ q => q⟩
theorem sx_append {e1 e2 : X} {i : Nat} {y : V} {xs xs1 : List V} {σ1 σ2 : List O} (S1 : SX prog w W T e1 d ρ σ (.ref i) σ1) (hx1 : σ1[i]? = some (.list xs1)) (S2 : SX prog w W T e2 d ρ σ1 y σ2) (hx : σ2[i]? = some (.list xs)) (hl : xs.length < maxLen) :
    SX prog w W T (.append e1 e2) d ρ σ .none (σ2.set i (.list (xs ++ [y]))) := by
  refine .mk0 (fun sc env A fr μ s a ex c => ?_)
  refine i_append c fun c1 c2 hn hc hl' => ?_
  refine Call_method1 (base_plain hc _ _ _) (starEach_cons hn [] env) (line_ok hl') (wpAny_mono (S1.one _ _ _ _ _ _ a _ c1) (fun v s1 q => ?_) fun _ _ q => q)
  refine St.elim q fun h1 t1 μ1 H G r => ?_
  refine rp_ref (r) fun l hi => ?_
  have am : l ∈ μ1 := List.mem_of_getElem? hi
  refine ⟨"list",_,F.plainAttrs_list,F.slot_list_append,F.type_list_append,?_,?_,P.append_list (wpAny_mono (S2.one _ _ _ _ _ _ (a.on (t1 := t1) H G) _ c2) (fun v2 s2 q => ?_) fun _ _ q => q)⟩
  · refine o_list (H.obj _ _ _ hi hx1) fun _ _ g sz rs => ?_; exact ⟨_,g,rfl⟩
  · intro a' e; cases e; refine o_list (H.obj _ _ _ hi hx1) fun _ _ g sz rs => ?_; exact ⟨_,g,rfl⟩
  · refine St.elim q fun h2 t2 μ2 H2 G2 r2 => ?_
    have hi2 := get_app G2.pre hi
    have o := H2.obj _ _ _ hi2 hx
    refine o_list (o) fun items n g sz rs => ?_
    refine ⟨items,n,sz,g,?_⟩
    have g' := IsL.update (n := n) g (fun xs => xs.push v2)
    have ne : ∀ b,b ≠ l -> (h2.update l (Obj.mapSeq fun xs => xs.push v2)).get? b = h2.get? b := fun b q => Heap.get?_update_ne _ _ _ _ q
    have Gt : Go fr μ2 μ2 [] h2 (h2.update l (Obj.mapSeq fun xs => xs.push v2)) := .turn H2 hi2 ne ⟨_,g'⟩
    have len := rs.length
    simp only [Array.length_toList] at len
    obtain ⟨H3,G3⟩ := H2.turn (ch := []) (o := .list (xs ++ [y])) hi2 ne ⟨_,g'⟩ (.list g' (by rw [Array.size_push]; omega) (by rw [Array.toList_push]; exact (rs.on Gt).append (.cons (r2.on Gt) .nil)))
    exact ⟨_,t2,μ2,rfl,H3,(G.trans G2).trans G3,.none⟩
theorem sx_extend {e1 e2 : X} {i : Nat} {y y' : V} {xs xs1 ys : List V} {σ1 σ2 : List O} (S1 : SX prog w W T e1 d ρ σ (.ref i) σ1) (hx1 : σ1[i]? = some (.list xs1)) (S2 : SX prog w W T e2 d ρ σ1 y σ2) (hy : deref σ2 y = some y') (hy' : y' = .lst ys \/ y' = .tup ys)
    (hx : σ2[i]? = some (.list xs)) (hl : xs.length + ys.length < maxLen) :
    SX prog w W T (.extend e1 e2) d ρ σ .none (σ2.set i (.list (xs ++ ys))) := by
  refine .mk0 (fun sc env A fr μ s a ex c => ?_)
  refine i_extend c fun c1 c2 hn hc hl' => ?_
  refine Call_method1 (base_plain hc _ _ _) (starEach_cons hn [] env) (line_ok hl') (wpAny_mono (S1.one _ _ _ _ _ _ a _ c1) (fun v s1 q => ?_) fun _ _ q => q)
  refine St.elim q fun h1 t1 μ1 H G r => ?_
  refine rp_ref (r) fun l hi => ?_
  have am : l ∈ μ1 := List.mem_of_getElem? hi
  refine ⟨"list",_,F.plainAttrs_list,F.slot_list_extend,F.type_list_extend,?_,?_,seqMethod1_meets F.slot_list_extend F.entry_list_extend (wpAny_mono (S2.one _ _ _ _ _ _ (a.on (t1 := t1) H G) _ c2) (fun v2 s2 q => ?_) fun _ _ q => q)⟩
  · refine o_list (H.obj _ _ _ hi hx1) fun _ _ g sz rs => ?_; exact ⟨_,g,rfl⟩
  · intro a' e; cases e; refine o_list (H.obj _ _ _ hi hx1) fun _ _ g sz rs => ?_; exact ⟨_,g,rfl⟩
  · refine St.elim q fun h2 t2 μ2 H2 G2 r2 => ?_
    have hi2 := get_app G2.pre hi
    have o := H2.obj _ _ _ hi2 hx
    refine o_list (o) fun items n g sz rs => ?_
    have e0 : maxLen = sizeLine := rfl
    have len := rs.length
    simp only [Array.length_toList] at len
    have fin : ∀ items2 : Array Value,Reps W fr μ2 h2 items2.toList ys -> PE W fr μ s .none (σ2.set i (.list (xs ++ ys))) .none { s with heap := h2.update l (Obj.mapSeq fun x => x ++ items2),toks := t2 } := fun items2 rs2 => by
      have len2 := rs2.length
      simp only [Array.length_toList] at len2
      have g' := IsL.update (n := n) g (fun xs => xs ++ items2)
      have ne : ∀ b,b ≠ l -> (h2.update l (Obj.mapSeq fun xs => xs ++ items2)).get? b = h2.get? b := fun b q => Heap.get?_update_ne _ _ _ _ q
      have Gt : Go fr μ2 μ2 [] h2 (h2.update l (Obj.mapSeq fun xs => xs ++ items2)) := .turn H2 hi2 ne ⟨_,g'⟩
      obtain ⟨H3,G3⟩ := H2.turn (ch := []) (o := .list (xs ++ ys)) hi2 ne ⟨_,g'⟩ (.list g' (by rw [Array.size_append]; omega) (by rw [Array.toList_append]; exact (rs.on Gt).append (rs2.on Gt)))
      exact ⟨_,t2,μ2,rfl,H3,(G.trans G2).trans G3,.none⟩
    have t := two_of H2 r2 hy
    rcases hy' with rfl | rfl
    · obtain ⟨b,items2,n2,rfl,g2,sz2,rs2⟩ := t.lstAt.ex
      have len2 := rs2.length
      simp only [Array.length_toList] at len2
      exact ⟨⟨_,g,rfl⟩,F.args_list_extend_2 _ _,_,AutoSeq1.list_extend_list_list_0 l items n b items2 n2 (extend_door (by omega)) (by omega) (by omega),g,g2,fin items2 rs2⟩
    · obtain ⟨b,items2,n2,rfl,g2,sz2,rs2⟩ := (rep_tup (t.rep fun _ q => by cases q)).ex
      have len2 := rs2.length
      simp only [Array.length_toList] at len2
      exact ⟨⟨_,g,rfl⟩,F.args_list_extend_2 _ _,_,AutoSeq1.list_extend_list_tuple_0 l items n b items2 n2 (extend_door (by omega)) (by omega) (by omega),g,g2,fin items2 rs2⟩
theorem str_eta (x : Str) : (⟨x.cps.toList.toArray⟩ : Str) = x := by cases x; simp
theorem sx_attr (B : Amb w W T P K mg mb) {e : X} {a0 : List Nat} {c0 i : Nat} {fs : List (List Nat × V)} {y : V} {σ1 : List O} (S : SX prog w W T e d ρ σ (.inst c0 i) σ1) (hf : σ1[i]? = some (.ns fs)) (hl : lookupD a0 fs = some y) (hp : P.attr c0 a0 = true) :
    SX prog w W T (.attr e a0) d ρ σ y σ1 := by
  refine .mk0 (fun sc env A fr μ s a ex c => ?_)
  revert c; intro cq; refine i_attr cq fun c hc ee0 => ?_
  clear cq; subst ee0
  rename_i oe an ap
  refine Attribute_any_ (S.step a c fun v h1 t1 μ1 a1 G r => ?_) ?_
  · obtain ⟨x,dx,es,n,rfl,hi,gx,gd,le,rd,I⟩ := inst_at a1.hp r hf
    obtain ⟨b1,b2,⟨at_,b3,b4⟩,b5⟩ := B.attr _ _ hp
    have q := getL_rep rd an.cps.toList
    rw [hl] at q
    rw [str_eta] at b1 b3 q
    obtain ⟨v,q1,q2⟩ := q
    exact get_value (K := K) (a1.kin B) I (plainGet_of b1).1 (findObj_own b2 b3 b4 q1) (rep_handed q2) (St.same (s := { s with heap := h1,toks := t1 }) a1.hp q2)
  · rw [arm_eval_Attribute,base_plain hc]
end
section
variable {W : Wd} {fr μ μ' ch : List Addr} {h h1 h' : Heap} {σ σ' : List O} {D : Addr}
theorem Rep.hot (e : ∀ b o,h.get? b = some o -> h1.get? b = some o) (n : h.get? D = Option.none) {v : Value} {x : V} (r : Rep W fr μ h v x) : Rep W (D :: fr) μ h1 v x := (r.more n).on (ch := []) (.ext e)
theorem Reps.hot (e : ∀ b o,h.get? b = some o -> h1.get? b = some o) (n : h.get? D = none) {v : List Value} {x : List V} (r : Reps W fr μ h v x) : Reps W (D :: fr) μ h1 v x := (r.more n).on (ch := []) (.ext e)
theorem Hp.hot (H : Hp W fr μ σ h) (e : ∀ b o,h.get? b = some o -> h1.get? b = some o) (n : h.get? D = none) (a : ∃ o,h1.get? D = some o) : Hp W (D :: fr) μ σ h1 := by
  refine ⟨fun b o q => e b o (H.keep b o q),H.len,fun i a o q1 q2 => ?_,H.base,fun b hb => ?_,H.nodup,fun b hb => ?_,fun b hb => ?_⟩
  · have r := H.obj i a o q1 q2
    cases r with
    | list q l r => exact .list (e _ _ q) l (r.hot e n)
    | ns q l r => exact .ns (e _ _ q) l ((r.more n).on (ch := []) (.ext e))
  · rcases List.mem_cons.mp hb with rfl | hb
    · cases q : W.h₀.get? b with
      | none => rfl
      | some o => rw [H.keep _ _ q] at n; cases n
    · exact H.frb b hb
  · rcases List.mem_cons.mp hb with rfl | hb
    · intro q; obtain ⟨o,x⟩ := H.size_not q; rw [n] at x; cases x
    · exact H.apart b hb
  · rcases List.mem_cons.mp hb with rfl | hb
    · exact a
    · obtain ⟨o,x⟩ := H.frin b hb; exact ⟨o,e _ _ x⟩
theorem Hp.cool (H : Hp W (D :: fr) μ σ h) : Hp W fr μ σ h := by
  refine ⟨H.keep,H.len,fun i a o q1 q2 => ?_,H.base,fun b hb => H.frb b (.tail _ hb),H.nodup,fun b hb => H.apart b (.tail _ hb),fun b hb => H.frin b (.tail _ hb)⟩
  have r := H.obj i a o q1 q2
  cases r with
  | list q l r => exact .list q l r.less
  | ns q l r => exact .ns q l r.less
theorem Go.cool (e : ∀ b o,h.get? b = some o -> h1.get? b = some o) (n : h.get? D = none) (G : Go (D :: fr) μ μ' (D :: ch) h1 h') : Go fr μ μ' ch h h' := by
  have nD : ∀ b o,h.get? b = some o -> b ≠ D := fun b o q z => by rw [z,n] at q; cases q
  refine ⟨G.pre,fun b o q n1 n2 => G.kept b o (e b o q) (fun z => ?_) n2,fun a ha n => ?_,fun b hb nb o q => G.frs b (.tail _ hb) (fun z => ?_) o (e b o q),fun b o q => G.alive b o (e b o q)⟩
  · rcases List.mem_cons.mp z with z | z
    · exact nD b o q z
    · exact n1 z
  · cases q : h.get? a with
    | none => rfl
    | some o => have := G.fresh a ha n; rw [e a o q] at this; cases this
  · rcases List.mem_cons.mp z with z | z
    · exact nD b o q z
    · exact nb z
theorem Lc.hot {sc : Sc} {env : Env} {ρ : List V} (l : Lc W fr μ sc env ρ h) (e : ∀ b o,h.get? b = some o -> h1.get? b = some o) (n : h.get? D = none) : Lc W (D :: fr) μ sc env ρ h1 := by
  obtain ⟨⟨m,⟨o,es,ep,q1,q2,q3,q4⟩,hm⟩,hl⟩ := l
  exact ⟨⟨m,⟨o,es,ep,e _ _ q1,q2,q3,q4⟩,fun i x v a b c => let ⟨u,e1,r⟩ := hm i x v a b c; ⟨u,e1,r.hot e n⟩⟩,hl⟩
theorem Lc.cool {sc : Sc} {env : Env} {ρ : List V} (l : Lc W (D :: fr) μ sc env ρ h) : Lc W fr μ sc env ρ h := by
  obtain ⟨⟨m,ns,hm⟩,hl⟩ := l
  exact ⟨⟨m,ns,fun i x v a b c => let ⟨u,e1,r⟩ := hm i x v a b c; ⟨u,e1,r.less⟩⟩,hl⟩
theorem St.cool {s s' : Shared} {t1 : Nat} {R R' : List Addr -> Heap -> Prop} (e : ∀ b o,s.heap.get? b = some o -> h1.get? b = some o) (n : s.heap.get? D = none)
    (q : St W (D :: fr) μ (D :: ch) { s with heap := h1,toks := t1 } σ' R s') (hr : ∀ μ' h',R μ' h' -> R' μ' h') : St W fr μ ch s σ' R' s' := by
  refine St.elim q fun h' t' μ' H G r => ?_
  exact ⟨h',t',μ',rfl,H.cool,G.cool e n,hr _ _ r⟩
theorem At.hot {T : Tb} {sc : Sc} {env : Env} {A : Around} {d : Nat} {ρ : List V} {s : Shared} {t1 : Nat} (a : At W T sc env A d fr μ ρ σ s) (e : ∀ b o,s.heap.get? b = some o -> h1.get? b = some o) (n : s.heap.get? D = none) (x : ∃ o,h1.get? D = some o) :
    At W T sc env A d (D :: fr) μ ρ σ { s with heap := h1,toks := t1 } :=
  ⟨⟨a.here.e,a.here.a,a.here.dl,.tail _ a.here.f⟩,a.hp.hot e n x,a.lc.hot e n⟩
theorem Go.hotTurn (hs : ∀ b,b ≠ D -> h1.get? b = h.get? b) (hD : ∃ o,h1.get? D = some o) : Go (D :: fr) μ μ (D :: ch) h h1 := by
  refine ⟨List.prefix_refl _,fun b o q n1 _ => ?_,fun _ q n => absurd q n,fun b hb nb o q => ?_,fun b o q => ?_⟩
  · rw [hs b fun z => n1 (z ▸ .head _)]; exact q
  · rw [hs b fun z => nb (z ▸ .head _)]; exact q
  · by_cases z : b = D
    · subst z; exact hD
    · rw [hs b z]; exact ⟨o,q⟩
theorem Hp.hotTurn (H : Hp W (D :: fr) μ σ h) (hs : ∀ b,b ≠ D -> h1.get? b = h.get? b) (hD : ∃ o,h1.get? D = some o) : Hp W (D :: fr) μ σ h1 := by
  have nD : D ∉ μ := H.apart D (.head _)
  refine ⟨fun b o q => ?_,H.len,fun i a o q1 q2 => ?_,H.base,H.frb,H.nodup,H.apart,fun b hb => ?_⟩
  · rw [hs b fun z => ?_]
    · exact H.keep b o q
    · have := H.frb D (.head _); rw [← z,q] at this; cases this
  · refine (H.obj i a o q1 q2).on (ch := [D]) (.hotTurn hs hD) fun o q => ?_
    rw [hs a fun z => nD (z ▸ List.mem_of_getElem? q1)]; exact q
  · obtain ⟨o,x⟩ := H.frin b hb
    by_cases z : b = D
    · subst z; exact hD
    · rw [hs b z]; exact ⟨o,x⟩
end
section
variable {prog : Program} {w : World} {W : Wd} {T : Tb} {P : Prog} {K : Frag} {mg mb : Str -> Option Value} {d : Nat} {ρ : List V} {σ σ' : List O} {x : V}
theorem keysOf_some {kk : List (List Nat)} : ∀ {ks : List (Option PySem.Expr)},keysOf ks kk = true -> ks.all (·.isSome) = true /\ kk.length = ks.length := by
  induction kk with
  | nil => exact fun h => empE (m := fun ks => ks.all (·.isSome) = true /\ 0 = ks.length) h ⟨rfl,rfl⟩
  | cons a kk ih =>
    refine fun h => lcsE (m := fun ks => ks.all (·.isSome) = true /\ kk.length + 1 = ks.length) h fun k ks h => andE h fun h1 h2 => ?_
    obtain ⟨_,_,_,rfl,_⟩ := key_eval h1
    exact ⟨(ih h2).1,congrArg (· + 1) (ih h2).2⟩
noncomputable def kvOf : List (Value × Value) -> List (Str × Value)
  | [] => []
  | (.str k _,v) :: r => (k,v) :: kvOf r
  | _ :: r => kvOf r
section
variable {fr μ : List Addr} {h : Heap}
theorem carries_of : ∀ {vs kk xs},RepP W fr μ h vs kk xs -> Carries (PySem.strKind prog w) vs (kvOf vs) /\ (kvOf vs).map (fun p => p.1.cps.toList) = kk
  | _,_,_,.nil => ⟨trivial,rfl⟩
  | _,_,_,.cons r rs => ⟨⟨by simp [PySem.strKind,Value.isStrOf],rfl,(carries_of rs).1⟩,by simp [kvOf,(carries_of rs).2]⟩
theorem merged_nodup {K : Type} [DecidableEq K] : ∀ (more kvs : List (K × Value)),((kvs ++ more).map (·.1)).Nodup -> merged kvs more = kvs ++ more
  | [],kvs,_ => by simp [merged]
  | kv :: more,kvs,h => by
    have hn : kvs.any (fun p => p.1 = kv.1) = false := by
      rw [List.any_eq_false]
      intro p hp
      simp only [decide_eq_true_eq]
      intro q
      rw [List.map_append,List.nodup_append] at h
      exact h.2.2 p.1 (List.mem_map_of_mem hp) kv.1 (by simp) q
    show merged (stored kvs kv.1 kv.2) more = _
    have e : stored kvs kv.1 kv.2 = kvs ++ [kv] := by unfold stored; rw [hn]; rfl
    rw [e,merged_nodup more (kvs ++ [kv]) (by simpa using h)]
    simp
theorem repD_of {vs : List (Value × Value)} {kk : List (List Nat)} {xs : List V} (r : RepP W fr μ h vs kk xs) : ∀ {es : List DictEntry} (_ : Pairs (PySem.strKind prog w) es (kvOf vs)) (_ : W.P = w.params) (_ : ∀ e ∈ es,∃ k,Value.isStrOf k e.key = true /\ e.hash = PyData.keyHash w.params k),RepD W fr μ h es (kk.zip xs) := by
  induction r with
  | nil => intro es q _ _; cases q; exact .nil
  | cons r rs ih =>
    intro es q hw hk
    cases q with
    | cons q1 q2 q3 =>
      rename_i e es
      obtain ⟨hs,ky,vl⟩ := e
      obtain ⟨t,q4⟩ := Value.isStrOf_shape q1
      simp only at q4 q2
      subst q4 q2
      obtain ⟨k',e1,e2⟩ := hk _ (.head _)
      obtain ⟨t',e3⟩ := Value.isStrOf_shape e1
      simp only at e2 e3
      cases e3
      subst e2
      rw [← hw]
      exact .cons r (ih q3 hw fun e he => hk e (.tail _ he))
end
theorem nodup_of_map {α β : Type} {f : α -> β} {l : List α} (h : (l.map f).Nodup) : l.Nodup := by
  rw [List.nodup_iff_pairwise_ne] at h ⊢
  rw [List.pairwise_map] at h
  exact h.imp fun q e => q (congrArg f e)
theorem not_modules {mg : Str -> Option Value} {h : Heap} (g : h.Ns mainGlobals mg) : (h.objs.size == sysModules) = false := by
  have := g.lt
  have e : sysModules = 1 := rfl
  have e2 : 1 <= mainGlobals := by decide
  have e3 : (1 : Nat) < h.objs.size := Nat.lt_of_le_of_lt e2 this
  exact beq_false_of_ne (Nat.ne_of_gt e3)
theorem sx_dct0 (B : Amb w W T P K mg mb) {es : X} : SX prog w W T (.dct [] es) d ρ σ (.dct []) σ := by
  refine .mk0 (fun sc env A fr μ s a ex c => ?_)
  refine i_dct c fun hk c hlen => ?_
  rename_i ks' vs' p
  obtain ⟨k1,k2⟩ := keysOf_some hk
  have gm : s.heap.Ns mainGlobals mg := by have := a.gns B; rwa [a.here.e.globals] at this
  have nm := not_modules gm
  obtain rfl : ks' = [] := List.length_eq_zero_iff.mp k2.symm
  obtain rfl : vs' = [] := List.length_eq_zero_iff.mp hlen.symm
  refine wpAny_Dict_empty ?_
  have n : s.heap.get? s.heap.objs.size = none := none_of_size (Nat.le_refl _)
  have ex : ∀ b o,s.heap.get? b = some o -> (s.heap.push { cls := .type "dict",data := .dict #[] }).get? b = some o := fun _ _ q => Heap.get?_push_of_some _ q
  have gD : (s.heap.push { cls := .type "dict",data := .dict #[] }).get? s.heap.objs.size = some { cls := .type "dict",data := .dict #[] } := Heap.get?_push_size _ rfl
  have nfr : s.heap.objs.size ∉ fr := fun q => by obtain ⟨o,x⟩ := a.hp.frin _ q; rw [n] at x; cases x
  have nμ : s.heap.objs.size ∉ μ := fun q => by obtain ⟨o,x⟩ := a.hp.size_not q; rw [n] at x; cases x
  exact St.ext a.hp ex (.dct (es := []) (n := 0) gD nfr nμ nm (by simp) .nil)
theorem sx_dct (B : Amb w W T P K mg mb) {ks : List (List Nat)} {es : X} {vs : List V} {σ1 : List O} (S : SX prog w W T es d ρ σ (.tup vs) σ1) (h1 : ks ≠ []) (hl : vs.length = ks.length) (hn : ks.Nodup) (h15 : ks.length <= 15) : SX prog w W T (.dct ks es) d ρ σ (.dct (ks.zip vs)) σ1 := by
  refine .mk0 (fun sc env A fr μ s a ex c => ?_)
  refine i_dct c fun hk c hlen => ?_
  rename_i ks' vs' p
  obtain ⟨k1,k2⟩ := keysOf_some hk
  have gm : s.heap.Ns mainGlobals mg := by have := a.gns B; rwa [a.here.e.globals] at this
  have nm := not_modules gm
  have h0 : ks' ≠ [] := fun q => by subst q; exact h1 (List.length_eq_zero_iff.mp k2)
  have n : s.heap.get? s.heap.objs.size = none := none_of_size (Nat.le_refl _)
  have ex : ∀ b o,s.heap.get? b = some o -> (s.heap.push { cls := .type "dict",data := .dict #[] }).get? b = some o := fun _ _ q => Heap.get?_push_of_some _ q
  have gD : (s.heap.push { cls := .type "dict",data := .dict #[] }).get? s.heap.objs.size = some { cls := .type "dict",data := .dict #[] } := Heap.get?_push_size _ rfl
  have a1 : At W T sc env A d (s.heap.objs.size :: fr) μ ρ σ { s with heap := s.heap.push { cls := .type "dict",data := .dict #[] },toks := s.toks } := a.hot ex n ⟨_,gD⟩
  refine wpAny_Dict_walk (knd := PySem.strKind prog w) k1 hlen h0 (by omega) ?_
  obtain ⟨xs,e,q⟩ := S.pairs _ _ _ _ _ _ a1 _ c ks' ks p hk hlen
  cases e
  refine wpAny_mono q (fun us s1 q => ?_) fun _ _ q => q
  refine St.elim q fun h1 t1 μ1 H G r => ?_
  obtain ⟨c1,c2⟩ := carries_of (prog := prog) (w := w) r
  refine ⟨kvOf us,c1,?_,fun h2 hd hs => ?_⟩
  · have g1 := G.frs _ (.head _) (fun q => nomatch q) _ gD
    exact ⟨_,_,_,g1,⟨rfl,rfl,rfl⟩,rfl,(fun e he => by simp at he),.nil,by simp⟩
  · obtain ⟨o,es2,ep,q1,⟨q2,q2',q2''⟩,q3,q4,q5,q6⟩ := hd
    have nd : (kvOf us).map (·.1) |>.Nodup := by
      have : ((kvOf us).map (fun p => p.1.cps.toList)).Nodup := c2 ▸ hn
      have e2 : (kvOf us).map (fun p => p.1.cps.toList) = ((kvOf us).map (·.1)).map (fun k => k.cps.toList) := by simp
      rw [e2] at this
      exact nodup_of_map this
    rw [merged_nodup _ _ (by simpa using nd)] at q5
    have oe : o = dictOf es2.toList ep := by
      obtain ⟨c,dd,dt,sl⟩ := o
      simp only at q2 q2' q2'' q3
      subst q2 q2' q2'' q3
      simp
    subst oe
    have hD : ∃ o,h2.get? s.heap.objs.size = some o := ⟨_,q1⟩
    have Ht := H.hotTurn hs.2 hD
    have Gt : Go (s.heap.objs.size :: fr) μ1 μ1 (s.heap.objs.size :: []) h1 h2 := .hotTurn hs.2 hD
    have rd := repD_of r (es := es2.toList) (by simpa using q5) B.wP (fun e he => q4 e (by simpa using he))
    have rd2 : RepD W fr μ1 h2 es2.toList (ks.zip vs) := (rd.on Gt).less
    have Gc := ((G.wide0).trans Gt).cool ex n
    have nfr : s.heap.objs.size ∉ fr := fun q => by obtain ⟨o,x⟩ := a.hp.frin _ q; rw [n] at x; cases x
    have nμ : s.heap.objs.size ∉ μ1 := Ht.apart _ (.head _)
    refine ⟨h2,_,μ1,rfl,Ht.cool,Gc,.dct q1 nfr nμ nm ?_ rd2⟩
    have l1 := q5.length
    have l2 := congrArg List.length c2
    simp only [List.length_map,Array.length_toList,List.nil_append] at l1 l2 ⊢
    omega
end
section
theorem lookup_zip {names : List Str} {vs : List Value} : ∀ {i : Nat} {n : Str} {v : Value},names.Nodup -> names[i]? = some n -> vs[i]? = some v -> (names.zip vs).lookup n = some v := by
  induction names generalizing vs with
  | nil => intro i n v _ h _; simp at h
  | cons a names ih =>
    intro i n v nd h1 h2
    cases vs with
    | nil => simp at h2
    | cons b vs =>
      rw [List.zip_cons_cons,List.lookup_cons]
      cases i with
      | zero =>
        simp only [List.getElem?_cons_zero,Option.some.injEq] at h1 h2
        subst h1 h2; simp
      | succ i =>
        simp only [List.getElem?_cons_succ] at h1 h2
        have : n ≠ a := fun q => by
          subst q
          exact (List.nodup_cons.mp nd).1 (List.mem_of_getElem? h1)
        have : (n == a) = false := by simpa using this
        rw [this]
        exact ih (List.nodup_cons.mp nd).2 h1 h2
theorem lookup_zip_none {names : List Str} {vs : List Value} {i : Nat} {n : Str} : names.Nodup -> names[i]? = some n -> vs.length <= i -> (names.zip vs).lookup n = none := by
  induction names generalizing vs i with
  | nil => intro _ h _; simp at h
  | cons a names ih =>
    intro nd h1 h2
    cases vs with
    | nil => simp
    | cons b vs =>
      rw [List.zip_cons_cons,List.lookup_cons]
      cases i with
      | zero => simp at h2
      | succ i =>
        simp only [List.getElem?_cons_succ] at h1
        have : n ≠ a := fun q => by
          subst q
          exact (List.nodup_cons.mp nd).1 (List.mem_of_getElem? h1)
        have : (n == a) = false := by simpa using this
        rw [this]
        exact ih (List.nodup_cons.mp nd).2 h1 (by simpa using h2)
theorem filterMap_at {β : Type} {f : Str -> Option (Str × β)} : ∀ (ns : List Str) (us : List β),us.length = ns.length -> (∀ (i : Nat) n v,ns[i]? = some n -> us[i]? = some v -> f n = some (n,v)) -> ns.filterMap f = ns.zip us
  | [],us,_,_ => by simp
  | n :: ns,[],h,_ => by simp at h
  | n :: ns,u :: us,h,q => by
    rw [List.filterMap_cons,q 0 n u rfl rfl,List.zip_cons_cons,filterMap_at ns us (by simpa using h) fun i n v a b => q (i + 1) n v (by simpa using a) (by simpa using b)]
theorem lookup_filter {f : Str -> Bool} {n : Str} (h : f n = true) : ∀ ps : List (Str × Value),(ps.filter fun p => f p.1).lookup n = ps.lookup n
  | [] => rfl
  | (a,b) :: ps => by
    have ih := lookup_filter h ps
    rw [List.filter_cons,List.lookup_cons]
    cases q : n == a with
    | true =>
      have : n = a := by simpa using q
      subst this
      simp [h]
    | false =>
      cases q2 : f a with
      | true => simp only [q2,if_true,List.lookup_cons,q]; exact ih
      | false => simp only [q2,Bool.false_eq_true,if_false]; exact ih
theorem dflt_loop : ∀ (ps : List (Str × Value)) (slots : List (Str × Value)),(ps.map (·.1)).Nodup →
    (forIn ps slots (fun (x : Str × Value) (r : List (Str × Value)) => if (r.lookup x.1).isNone = true then (pure (ForInStep.yield (r ++ [(x.1,x.2)])) : Sem _) else pure (ForInStep.yield r)) : Sem (List (Str × Value))) =
      pure (slots ++ ps.filter fun p => (slots.lookup p.1).isNone)
  | [],slots,_ => by simp
  | p :: ps,slots,nd => by
    rw [List.forIn_cons,List.filter_cons]
    cases q : (slots.lookup p.1).isNone with
    | false =>
      simp only [q,Bool.false_eq_true,if_false,pure_bind]
      exact dflt_loop ps slots (List.nodup_cons.mp nd).2
    | true =>
      simp only [q,if_true,pure_bind]
      rw [dflt_loop ps (slots ++ [(p.1,p.2)]) (List.nodup_cons.mp nd).2]
      have e : ps.filter (fun q => ((slots ++ [(p.1,p.2)]).lookup q.1).isNone) = ps.filter fun q => (slots.lookup q.1).isNone := by
        apply List.filter_congr
        intro q hq
        have h3 : (q.1 == p.1) = false := by
          have : q.1 ≠ p.1 := fun e => (List.nodup_cons.mp nd).1 (by show p.1 ∈ _; rw [← e]; exact List.mem_map_of_mem hq)
          simpa using this
        rw [List.lookup_append]
        simp only [List.lookup_cons,List.lookup_nil,h3,Option.or_none]
      rw [e]; simp
theorem bind_plain {fd : FuncData} {names : List Str} {vs D : List Value} {s : Shared} (h1 : fd.params.posonlyargs = []) (h2 : fd.params.args.map (·.arg) = names) (h3 : fd.params.kwonlyargs = []) (h4 : fd.params.vararg = none) (h5 : fd.params.kwarg = none)
    (nd : names.Nodup) (hp : vs.length <= names.length) (hD : names.length <= vs.length + D.length) (hDn : D.length <= names.length)
    (hd : ∀ (M : Model) (A : Around) (E : Value -> Shared -> Prop) (Q : Option (Array Value) -> Shared -> Prop),(∀ r,(r.getD #[]).toList = D -> Q r s) -> wpAny M A (seqItems? fd.defaults) Q E s) :
    BindsTo s fd ⟨vs,[]⟩ (names.zip (vs ++ D.drop (D.length - (names.length - vs.length)))) := by
  intro M A E Q hq
  unfold bindArgs
  simp only [h1,h2,h3,h4,h5,List.map_nil,List.nil_append,List.append_nil,List.forIn_nil,pure_bind]
  refine wpAny_bind (hd M A E _ fun r hr => ?_)
  rw [hr]
  have c1 : decide (vs.length > names.length) = false := decide_eq_false (by omega)
  have c2 : D.length - names.length = 0 := by omega
  have c3 : (List.filter (fun n => (List.lookup n (names.zip vs)).isNone) (List.take (names.length - D.length) names)).isEmpty = true := by
    rw [List.isEmpty_iff,List.filter_eq_nil_iff]
    intro n hn
    obtain ⟨i,hi,rfl⟩ := List.getElem_of_mem hn
    simp only [List.length_take] at hi
    rw [List.getElem_take,lookup_zip nd (i := i) (List.getElem?_eq_getElem (by omega)) (List.getElem?_eq_getElem (by omega))]
    simp
  simp only [c1,Bool.false_and,Bool.false_eq_true,if_false,c2,List.drop_zero,c3,Bool.not_true]
  have nd2 : (((List.drop (names.length - D.length) names).zip D).map (·.1)).Nodup := by
    have e : ((List.drop (names.length - D.length) names).zip D).map (·.1) = List.drop (names.length - D.length) names := List.map_fst_zip (by rw [List.length_drop]; omega)
    rw [e]
    exact nd.sublist (List.drop_sublist _ _)
  have lp := dflt_loop ((List.drop (names.length - D.length) names).zip D) (names.zip vs) nd2
  rw [lp]
  simp only [pure_bind,List.isEmpty_nil,Bool.not_true,Bool.false_eq_true,if_false]
  refine wpAny_pure ?_
  have key : List.filterMap (fun n => Option.map (fun x => (n,x)) (List.lookup n (names.zip vs ++ List.filter (fun p => (List.lookup p.1 (names.zip vs)).isNone) ((List.drop (names.length - D.length) names).zip D)))) names
      = names.zip (vs ++ D.drop (D.length - (names.length - vs.length))) := by
    refine filterMap_at names _ (by rw [List.length_append,List.length_drop]; omega) fun i n v a b => ?_
    have hi : i < names.length := (List.getElem?_eq_some_iff.mp a).1
    rw [List.lookup_append]
    by_cases q : i < vs.length
    · rw [List.getElem?_append_left q] at b
      rw [lookup_zip nd a b]; rfl
    · have q : vs.length <= i := Nat.le_of_not_lt q
      have ln := lookup_zip_none nd a q
      rw [ln,Option.none_or,lookup_filter (f := fun k => (List.lookup k (names.zip vs)).isNone) (by rw [ln]; rfl)]
      rw [List.getElem?_append_right q,List.getElem?_drop] at b
      have hm : names.length - D.length <= i := by omega
      rw [lookup_zip (i := i - (names.length - D.length)) (v := v) (nd.sublist (List.drop_sublist _ _)) (by rw [List.getElem?_drop,Nat.add_sub_cancel' hm]; exact a) (by rw [← b]; congr 1; omega)]
      rfl
  exact key ▸ hq
end
noncomputable def FlR (W : Wd) (fr μ : List Addr) (h : Heap) (fl : Fl) (x : V) (f : Flow) : Prop := match fl with
  | .nxt => f = .next
  | .brk => f = .brk
  | .ret => ∃ v,f = .ret v /\ Rep W fr μ h v x
abbrev PS (W : Wd) (fr μ : List Addr) (sc : Sc) (env : Env) (s : Shared) (r : Res) (f : Flow) (s' : Shared) : Prop :=
  St W fr μ [env.locals] s r.σ (fun μ' h' => Lc W fr μ' sc env r.ρ h' /\ FlR W fr μ' h' r.fl r.v f) s'
structure SS (prog : Program) (w : World) (W : Wd) (T : Tb) (c : S) (d : Nat) (ρ : List V) (σ : List O) (r : Res) : Prop where
  one : ∀ sc env A fr μ s,At W T sc env A d fr μ ρ σ s -> ∀ st,Cs sc st c -> wpAny (model prog w) A (exec st env) (PS W fr μ sc env s r) Fa s
  all : ∀ sc env A fr μ s,At W T sc env A d fr μ ρ σ s -> ∀ sts,Css sc sts c -> wpAny (model prog w) A (execs sts env) (PS W fr μ sc env s r) Fa s
structure SC (prog : Program) (w : World) (W : Wd) (T : Tb) (f d : Nat) (args : List V) (σ : List O) (x : V) (σ' : List O) : Prop where
  run : ∀ A fr μ s,AOk A d -> Hp W fr μ σ s.heap -> ∀ vs,Reps W fr μ s.heap vs args -> codeAny (model prog w) A (.call (.ref (T.fa f)) ⟨vs,[]⟩) (fun r s' => ∃ v,r = .ok (.ret v) /\ PE W fr μ s x σ' v s') s
theorem AOk.deeper {A : Around} {d : Nat} (a : AOk A d) (env : Env) : AOk (A.deeper env) (d + 1) := ⟨a.handled,by have := a.depth; show A.depth + 1 <= _; omega,by have := a.units; show A.units + 3 <= _; omega⟩
theorem AOk.make {A : Around} {d : Nat} (a : AOk A d) (C : Addr) (rest : List Value) : AOk (A.under (.builtin "type.__call__" ⟨.ref C :: rest,[]⟩)) (d + 1) := by
  refine ⟨a.handled,?_,?_⟩
  · have := a.depth
    have e : (Code.builtin "type.__call__" ⟨.ref C :: rest,[]⟩).weight = 1 := by kernel_rfl
    show A.depth + _ <= _; omega
  · have := a.units
    have e : Code.cUnits (Code.builtin "type.__call__" ⟨.ref C :: rest,[]⟩) = 1 := by kernel_rfl
    show A.units + _ <= _; omega
section
variable {prog : Program} {w : World} {W : Wd} {T : Tb} {P : Prog} {K : Frag} {mg mb : Str -> Option Value} {d : Nat} {ρ : List V} {σ σ' : List O} {x : V}
theorem lookup_rev {l : List (Str × Value)} (nd : (l.map (·.1)).Nodup) (x : Str) : l.reverse.lookup x = l.lookup x := by
  induction l with
  | nil => rfl
  | cons p l ih =>
    obtain ⟨a,v⟩ := p
    rw [List.reverse_cons,List.lookup_append,ih (List.nodup_cons.mp nd).2]
    rw [List.lookup_cons]
    cases q : x == a with
    | true =>
      have e : x = a := by simpa using q
      have : l.lookup x = none := by
        rw [List.lookup_eq_none_iff]
        intro b hb
        have : b.1 ≠ a := fun e => (List.nodup_cons.mp nd).1 (by show a ∈ _; rw [← e]; exact List.mem_map_of_mem hb)
        rw [e]; simpa using this.symm
      rw [this]
      simp [List.lookup_cons,q]
    | false =>
      simp [List.lookup_cons,q]
theorem sc_call (B : Amb w W T P K mg mb) {f : Nat} {c : FnCode} (hf : P.fn f = some c) {args : List V} (hd : d < maxDepth) (ha : args.length <= c.npar) (hb : c.npar <= args.length + c.dflt.length) (hs : args.all isSome' = true) {r : Res}
    (S : SS prog w W T c.body (d + 1) ((args ++ c.dflt.drop (c.dflt.length - (c.npar - args.length))) ++ List.replicate (c.nloc - c.npar) .undef) σ r) (hr : (r.fl = .ret /\ x = r.v) \/ (r.fl = .nxt /\ x = .none)) : SC prog w W T f d args σ x r.σ := by
  refine ⟨fun A fr μ s aok H vs rv => ?_⟩
  obtain ⟨oc,od,osl,name,qual,params,body,scope,dV,kV,doc,pm,an,cdv,ct,ho,hcd,p1,p2,p3,p4,g1,g2,g3,g4,sc,s1,s2,s3,s4,s5,⟨more,s6⟩,s7,s8,s9,s10,s11,hD⟩ := B.fn f c hf
  have X : K.In s.heap := B.X.keeps H.keep
  have e0 : maxDepth = 60 := rfl
  have lv := rv.length
  have D0 : ∃ D : List Value,Reps W fr μ s.heap D c.dflt /\ ∀ (M : Model) (A : Around) (E : Value -> Shared -> Prop) (Q : Option (Array Value) -> Shared -> Prop),(∀ r,(r.getD #[]).toList = D -> Q r s) -> wpAny M A (seqItems? dV) Q E s := by
    rcases hD with ⟨rfl,e⟩ | ⟨D,o,items,n,rfl,q1,q2,q3⟩
    · rw [e]
      exact ⟨[],.nil,fun M A E Q h => wpAny_pure (h _ rfl)⟩
    · exact ⟨items.toList,q3.base H,fun M A E Q h => wpAny_seqItems (H.keep _ _ q1) q2 (h _ rfl)⟩
  obtain ⟨D,rD,hD'⟩ := D0
  have lD := rD.length
  have lnames : (params.args.map (·.arg)).length = c.npar := by rw [List.length_map,s10]
  have ndn : (params.args.map (·.arg)).Nodup := by rw [s6] at s8; exact (List.nodup_append.mp s8).1
  have bnd := bind_plain (fd := fnOf name qual params body scope dV kV doc pm an cdv ct) (vs := vs) (D := D) (s := s) p1 rfl p3 p2 p4 ndn (by rw [lnames]; omega) (by rw [lnames]; omega) (by rw [lnames]; omega) hD'
  have all : Reps W fr μ s.heap (vs ++ D.drop (D.length - ((params.args.map (·.arg)).length - vs.length))) (args ++ c.dflt.drop (c.dflt.length - (c.npar - args.length))) := by
    rw [lnames,lv,lD]
    exact rv.append (rD.drop _)
  generalize hus : vs ++ D.drop (D.length - ((params.args.map (·.arg)).length - vs.length)) = us at bnd all
  generalize hxs : args ++ c.dflt.drop (c.dflt.length - (c.npar - args.length)) = xs at S all
  have lus : us.length = c.npar := by rw [← hus,List.length_append,List.length_drop,lnames]; omega
  have lxs : xs.length = c.npar := by rw [← all.length]; exact lus
  have npl : c.npar <= c.nloc := by rw [← s7,s6,List.length_append,lnames]; omega
  have bfst : ((params.args.map (·.arg)).zip us).map (·.1) = params.args.map (·.arg) := List.map_fst_zip (by rw [lnames,lus]; exact Nat.le_refl _)
  refine codeAny_call_def (fd := fnOf name qual params body scope dV kV doc pm an cdv ct) (body := body) (binds := (params.args.map (·.arg)).zip us) (aok.room (by omega)) (X _ _ ho) rfl (B.lim.keeps H.keep) (codeRec_of X hcd) rfl bnd g4 (fun y hy => ?_) (fun h₀ ns ext => ?_) g1 g2 g3
  · have : y.1 ∈ params.args.map (·.arg) := by rw [← bfst]; exact List.mem_map_of_mem hy
    rw [← s1]
    exact s9 _ (by rw [s6]; exact List.mem_append_left _ this)
  · have n : s.heap.get? s.heap.objs.size = none := none_of_size (Nat.le_refl _)
    have aL : ∃ o,h₀.get? s.heap.objs.size = some o := by obtain ⟨o,_,_,q,_⟩ := ns; exact ⟨o,q⟩
    have E : EnvOk T sc (callEnv (fnOf name qual params body scope dV kV doc pm an cdv ct) s.heap.objs.size (T.fa f)) := ⟨s1.symm,by rw [s1]; exact g3,rfl,rfl,s9,s8,s2,s3,s4⟩
    have Lc0 : Lc W (s.heap.objs.size :: fr) μ sc (callEnv (fnOf name qual params body scope dV kV doc pm an cdv ct) s.heap.objs.size (T.fa f)) (xs ++ List.replicate (c.nloc - c.npar) .undef) h₀ := by
      refine ⟨⟨_,ns,fun i y v e1 e2 e3 => ?_⟩,by rw [List.length_append,List.length_replicate,lxs,s7]; omega⟩
      by_cases q : i < xs.length
      · rw [List.getElem?_append_left q] at e2
        rw [s6,List.getElem?_append_left (by rw [lnames]; omega)] at e1
        obtain ⟨u,hu,ru⟩ := all.get e2
        refine ⟨u,?_,ru.hot ext n⟩
        rw [lookup_rev (by rw [bfst]; exact ndn)]
        exact lookup_zip ndn e1 hu
      · rw [List.getElem?_append_right (Nat.le_of_not_lt q)] at e2
        have := List.mem_of_getElem? e2
        exact absurd (List.eq_of_mem_replicate this) e3
    have a1 : At W T sc (callEnv (fnOf name qual params body scope dV kV doc pm an cdv ct) s.heap.objs.size (T.fa f)) (A.deeper (callEnv (fnOf name qual params body scope dV kV doc pm an cdv ct) s.heap.objs.size (T.fa f))) (d + 1) (s.heap.objs.size :: fr) μ (xs ++ List.replicate (c.nloc - c.npar) .undef) σ
        { s with heap := h₀,toks := s.toks + ((params.args.map (·.arg)).zip us).length } :=
      ⟨⟨E,aok.deeper _,by omega,.head _⟩,H.hot ext n aL,Lc0⟩
    refine wpAny_mono (S.all _ _ _ _ _ _ a1 _ s5) (fun fl s2 q => ?_) fun _ _ q => q.elim
    rcases hr with ⟨hr,rfl⟩ | ⟨hr,rfl⟩
    · refine St.elim q fun h' t' μ' H' G' zz => ?_
      obtain ⟨L',q⟩ := zz
      rw [hr] at q
      obtain ⟨v,rfl,rv⟩ := q
      exact ⟨v,rfl,St.cool (h1 := h₀) (R := fun μ' h' => Rep W (s.heap.objs.size :: fr) μ' h' v r.v) ext n ⟨h',t',μ',rfl,H',G',rv⟩ fun _ _ q => q.less⟩
    · refine St.elim q fun h' t' μ' H' G' zz => ?_
      obtain ⟨L',q⟩ := zz
      rw [hr] at q
      cases q
      exact ⟨.none,rfl,St.cool (h1 := h₀) (R := fun μ' h' => True) ext n ⟨h',t',μ',rfl,H',G',trivial⟩ fun _ _ q => .none⟩
theorem plain_args : ∀ {args : List PySem.Expr},args.all notStarred = true -> ∀ (pos : Pos) (env : Env),(backTo pos (starEach args env)).any (·.1) = false
  | [],_,_,_ => rfl
  | e :: r,h,pos,env => by
    refine andE h fun hn c => ?_
    rw [starEach_cons hn]
    exact plain_args c pos env
theorem plain_notStar : ∀ {args : List PySem.Expr},args.all notStarred = true -> ∀ (pos : Pos) (env : Env),(backTo pos (starEach args env)).all (fun x => !x.1) = true
  | [],_,_,_ => rfl
  | e :: r,h,pos,env => by
    refine andE h fun hn c => ?_
    rw [starEach_cons hn]
    exact plain_notStar c pos env
section
variable {sc : Sc} {env : Env} {A : Around} {fr μ μ1 : List Addr} {s : Shared} {σ1 : List O}
theorem call_args (B : Amb w W T P K mg mb) {args : List PySem.Expr} {xs : X} {vs : List V} (S : SX prog w W T xs d ρ σ (.tup vs) σ1) (a : At W T sc env A d fr μ ρ σ s) (c : Cxs sc args xs) {f : Value} {first : List Value} (hk : keepIn K f = true) {pos : Pos} {ch : List Addr}
    {R : Value -> List Addr -> Heap -> Prop}
    (h : ∀ us h1 t1 μ1,At W T sc env A d fr μ1 ρ σ1 { s with heap := h1,toks := t1 } -> Go fr μ μ1 [] s.heap h1 -> Reps W fr μ1 h1 us vs →
      wpAny (model prog w) A (call f (first ++ us)) (fun b s' => St W fr μ1 ch { s with heap := h1,toks := t1 } σ' (R b) s') Fa { s with heap := h1,toks := t1 }) :
    wpAny (model prog w) A (callWith pos f first (backTo pos (starEach args env)) []) (fun b s' => St W fr μ ch s σ' (R b) s') Fa s := by
  cases args with
  | nil =>
    refine callWith_K0 (a.kin B) hk ?_
    obtain ⟨ys,e,q⟩ := S.all _ _ _ _ _ _ a [] c pos
    cases e
    have q0 := q
    refine (?_ : wpAny (model prog w) A (call f (first ++ [])) _ Fa s)
    have key : wpAny (model prog w) A (spliced (backTo pos (starEach [] env)) >>= fun us => call f (first ++ us)) (fun b s' => St W fr μ ch s σ' (R b) s') Fa s := by
      refine wpAny_bind (wpAny_mono q (fun us s1 q => ?_) fun _ _ q => q)
      refine St.elim q fun h1 t1 μ1 H G r => ?_
      exact wpAny_mono (h us h1 t1 μ1 (a.on H G) G r) (fun _ _ q => q.from G.wide0) fun _ _ q => q
    exact key
  | cons e rest =>
    refine andE c.all fun hn c2 => ?_
    · refine callWith_K (a.kin B) hk ?_ (starEach_cons hn _ _) (plain_args c2 _ _)
      obtain ⟨ys,e,q⟩ := S.all _ _ _ _ _ _ a _ c pos
      cases e
      refine wpAny_mono q (fun us s1 q => ?_) fun _ _ q => q
      refine St.elim q fun h1 t1 μ1 H G r => ?_
      exact ⟨(a.on (t1 := t1) H G).kin B,wpAny_mono (h us h1 t1 μ1 (a.on H G) G r) (fun _ _ q => q.from G.wide0) fun _ _ q => q⟩
end
theorem sx_call (B : Amb w W T P K mg mb) {f : Nat} {xs : X} {vs : List V} {y : V} {σ1 σ2 : List O} (S : SX prog w W T xs d ρ σ (.tup vs) σ1) (C : SC prog w W T f d vs σ1 y σ2) : SX prog w W T (.call f xs) d ρ σ y σ2 := by
  refine .mk0 (fun sc env A fr μ s a ex c => ?_)
  refine i_call c fun h1 h2 h3 h4 c => ?_
  obtain ⟨n1,n2⟩ := B.fnName _ _ (a.here.e.fns ▸ h1)
  refine Call_ (Calls.Name_function_global a.here.e.fk (a.here.e.glob h2) (Calls.loadGlobal_global (a.gns B) n1 ?_) h3)
  refine call_args B S a c n2 fun us h1 t1 μ1 a1 G r => ?_
  refine wpAny_call (codeAny_mono (C.run _ _ _ _ a1.here.a a1.hp _ r) fun r s' q => ?_)
  obtain ⟨v,rfl,q⟩ := q
  exact q
theorem method_call {o : PySem.Expr} {name : Str} {apos pos : Pos} {args : List PySem.Expr} {A : Around} {env : Env} {s : Shared} {Q : Value -> Shared -> Prop} (hc : isCall o = false) (hl : apos.endLine = pos.line) (h20 : args.length <= 20)
    (hs : (backTo pos (starEach args env)).all (fun x => !x.1) = true)
    (h : wpAny (model prog w) A (eval o env) (fun ov s1 => wpAny (model prog w) A (getMethod ov name (do return (← importBound o env).getD true)) (fun fx s2 => wpAny (model prog w) A (callWith pos fx.1 fx.2 (backTo pos (starEach args env)) []) Q Fa s2) Fa s1) Fa s) :
    wpAny (model prog w) A (eval (.Call (.Attribute o name apos) args [] pos) env) Q Fa s := by
  have hform : methodCallForm (args.length + ([] : List Keyword).length) (backTo pos (starEach args env)) (backToKw pos (keywordEach [] env)) = true := by
    unfold methodCallForm
    rw [hs]
    show (true && true && decide (args.length + 0 + 0 < 30)) = true
    rw [decide_eq_true (by omega)]; rfl
  have hpos : methodCallPos true o env apos pos = pure pos := by unfold methodCallPos; simp [hl]
  rw [arm_eval_Call,base_plain hc]
  refine wpAny_bind (wpAny_mono h (fun ov s1 q => wpAny_bind (wpAny_standAt ?_)) fun _ _ q => q)
  unfold methodCall
  rw [hform]
  refine wpAny_bind (wpAny_holding ?_)
  show wpAny (model prog w) A (getMethod ov name (do return (← importBound o env).getD true)) _ Fa s1
  refine wpAny_mono q (fun fx s2 q => ?_) fun _ _ q => q
  rw [hpos]
  exact wpAny_bind (wpAny_pure q)
theorem getL_none {fr μ : List Addr} {h : Heap} {es : List DictEntry} {fs : List (List Nat × V)} (rd : RepD W fr μ h es fs) {n : Str} (hn : lookupD n.cps.toList fs = none) : getL n es = some none := by
  have q := getL_rep rd n.cps.toList
  rw [hn,str_eta] at q
  exact q
theorem sx_meth (B : Amb w W T P K mg mb) {e xs : X} {m : List Nat} {c0 i f : Nat} {fs : List (List Nat × V)} {vs : List V} {y : V} {σ1 σ2 σ3 : List O} (S1 : SX prog w W T e d ρ σ (.inst c0 i) σ1) (hf : σ1[i]? = some (.ns fs)) (hn : lookupD m fs = none)
    (S2 : SX prog w W T xs d ρ σ1 (.tup vs) σ2) (hm : P.meth c0 m = some f) (C : SC prog w W T f d (.inst c0 i :: vs) σ2 y σ3) : SX prog w W T (.meth e m xs) d ρ σ y σ3 := by
  refine .mk0 (fun sc env A fr μ s a ex c => ?_)
  revert c; intro cq; refine i_meth cq fun c1 c2 hc hl h20 ee0 => ?_
  clear cq; subst ee0
  rename_i oe mm args p p'
  obtain ⟨b1,b2,b3,b4⟩ := B.meth _ _ _ hm
  rw [str_eta] at b1 b4
  refine method_call hc hl h20 (plain_notStar c2.all _ _) (wpAny_mono (S1.one _ _ _ _ _ _ a _ c1) (fun v s1 q => ?_) fun _ _ q => q)
  refine St.elim q fun h1 t1 μ1 H G r => ?_
  have a1 := a.on (t1 := t1) H G
  obtain ⟨x,dx,es,n,rfl,hi,gx,gd,le,rd,I⟩ := inst_at a1.hp r hf
  refine method_fn (K := K) (a1.kin B) I (plainGet_of b4).1 (plainGet_of b4).2 b1 (beq_iff_eq.mp b2) (by show (lookIn mm (dictOf es n)).map _ = _; rw [lookIn_dict,getL_none rd hn]; rfl) ?_
  refine wpAny_mono (call_args B S2 a1 c2 b3 (first := [.ref x]) (σ' := σ3) (R := fun v μ' h' => Rep W fr μ' h' v y) (ch := []) fun us h2 t2 μ2 a2 G2 rs => ?_) (fun _ _ q => q.from G) fun _ _ q => q
  refine wpAny_call (codeAny_mono (C.run _ _ _ _ a2.here.a a2.hp _ (.cons (r.on G2) rs)) fun r s' q => ?_)
  obtain ⟨v,rfl,q⟩ := q
  exact q
theorem sx_mk (B : Amb w W T P K mg mb) {xs : X} {c0 f : Nat} {vs : List V} {σ1 σ2 : List O} (S : SX prog w W T xs d ρ σ (.tup vs) σ1) (hi : P.init c0 = some f) (C : SC prog w W T f (d + 1) (.inst c0 σ1.length :: vs) (σ1 ++ [.ns []]) .none σ2) :
    SX prog w W T (.mk c0 xs) d ρ σ (.inst c0 σ1.length) σ2 := by
  refine .mk0 (fun sc env A fr μ s a ex c => ?_)
  refine i_mk c fun h1 h2 h3 h4 h5 c => ?_
  obtain ⟨n1,n2⟩ := B.clsName _ _ (a.here.e.clss ▸ h1)
  obtain ⟨m1,m2,m3⟩ := B.init _ _ hi
  refine Call_ (Calls.Name_function_global a.here.e.fk (a.here.e.glob h2) (Calls.loadGlobal_global (a.gns B) n1 ?_) h3)
  refine call_args B S a c n2 fun us h1 t1 μ1 a1 G r => ?_
  have X : K.In h1 := a1.kin B
  obtain ⟨H2,G2⟩ := a1.hp.push (ch := []) (ob := emptyDict) (o := .ns []) rfl fun h' e g => .ns (es := []) (n := 0) g (by simp) .nil
  have e3 : ∀ b o,(h1.push emptyDict).get? b = some o -> ((h1.push emptyDict).push (instObj (W.C c0) h1.objs.size)).get? b = some o := fun _ _ q => Heap.get?_push_of_some _ q
  have H3 := H2.ext e3
  have G3 : Go fr μ1 (μ1 ++ [h1.objs.size]) [] h1 ((h1.push emptyDict).push (instObj (W.C c0) h1.objs.size)) := G2.trans (.ext e3)
  have sz : (h1.push emptyDict).objs.size = h1.objs.size + 1 := Heap.size_push _ _
  have gx : ((h1.push emptyDict).push (instObj (W.C c0) h1.objs.size)).get? (h1.objs.size + 1) = some (instObj (W.C c0) h1.objs.size) := by rw [← sz]; exact Heap.get?_push_size _ rfl
  have nx : (h1.push emptyDict).get? (h1.objs.size + 1) = none := none_of_size (by rw [sz]; exact Nat.le_refl _)
  have rx : Rep W fr (μ1 ++ [h1.objs.size]) ((h1.push emptyDict).push (instObj (W.C c0) h1.objs.size)) (.ref (h1.objs.size + 1)) (.inst c0 σ1.length) := by
    refine .inst gx (fun q => ?_) (fun q => ?_) ?_
    · obtain ⟨o,z⟩ := H2.frin _ q; rw [nx] at z; cases z
    · obtain ⟨o,z⟩ := H2.size_not q; rw [nx] at z; cases z
    · rw [← a1.hp.len,List.getElem?_append_right (Nat.le_refl _)]; simp
  refine wpAny_call (make_core (makes_of X m1) (looks_findIn X m2) (fun self => bind_fn X self (beq_iff_eq.mp m3)) (.inl rfl) ?_)
  refine codeAny_mono (C.run _ fr (μ1 ++ [h1.objs.size]) ⟨(h1.push emptyDict).push (instObj (W.C c0) h1.objs.size),s.gens,s.drawn,t1,s.os⟩ (a1.here.a.make _ _) H3 (.ref (h1.objs.size + 1) :: us) (.cons rx (r.on G3))) fun r s' q => ?_
  obtain ⟨v,rfl,h',t',μ',rfl,H',G',r'⟩ := q
  refine rp_none r' ?_
  exact ⟨rfl,h',t',μ',rfl,H',G3.trans G',rx.on G'⟩
end
section
variable {W : Wd} {fr μ μ' ch : List Addr} {h h1 h' : Heap} {σ σ' : List O} {L : Addr}
theorem Go.frTurn (hc : L ∈ ch) (hL : L ∈ fr) (hs : ∀ b,b ≠ L -> h1.get? b = h.get? b) (hD : ∃ o,h1.get? L = some o) : Go fr μ μ ch h h1 := by
  refine ⟨List.prefix_refl _,fun b o q n1 _ => ?_,fun _ q n => absurd q n,fun b hb nb o q => ?_,fun b o q => ?_⟩
  · rw [hs b fun z => n1 (z ▸ hL)]; exact q
  · rw [hs b fun z => nb (z ▸ hc)]; exact q
  · by_cases z : b = L
    · subst z; exact hD
    · rw [hs b z]; exact ⟨o,q⟩
theorem Hp.frTurn (H : Hp W fr μ σ h) (hL : L ∈ fr) (hs : ∀ b,b ≠ L -> h1.get? b = h.get? b) (hD : ∃ o,h1.get? L = some o) : Hp W fr μ σ h1 := by
  have nD : L ∉ μ := H.apart L hL
  refine ⟨fun b o q => ?_,H.len,fun i a o q1 q2 => ?_,H.base,H.frb,H.nodup,H.apart,fun b hb => ?_⟩
  · rw [hs b fun z => ?_]
    · exact H.keep b o q
    · have := H.frb L hL; rw [← z,q] at this; cases this
  · refine (H.obj i a o q1 q2).on (ch := [L]) (.frTurn (.head _) hL hs hD) fun o q => ?_
    rw [hs a fun z => nD (z ▸ List.mem_of_getElem? q1)]; exact q
  · obtain ⟨o,x⟩ := H.frin b hb
    by_cases z : b = L
    · subst z; exact hD
    · rw [hs b z]; exact ⟨o,x⟩
end
section
variable {prog : Program} {w : World} {W : Wd} {T : Tb} {P : Prog} {K : Frag} {mg mb : Str -> Option Value} {d : Nat} {ρ : List V} {σ σ' : List O} {x : V}
section
variable {sc : Sc} {env : Env} {A : Around} {fr μ μ1 : List Addr} {s : Shared} {σ1 : List O}
theorem store_ok (a : At W T sc env A d fr μ ρ σ s) {y : Str} {i : Nat} (hi : sc.loc y = some i) {v : Value} (rv : Rep W fr μ s.heap v x) :
    wpAny (model prog w) A (storeName env y v) (fun _ s' => St W fr μ [env.locals] s σ (fun μ' h' => Lc W fr μ' sc env (ρ.set i x) h') s') Fa s := by
  have at_ := Sc.at_loc hi
  obtain ⟨⟨m,ns,hm⟩,hl⟩ := a.lc
  have lk : env.kindOf y = some .local := a.here.e.kof.trans (a.here.e.local_ y (List.mem_of_getElem? at_))
  refine wpAny_storeName_local lk ns (fun h' ns' sb => ?_) a.here.e.notMod
  have hD : ∃ o,h'.get? env.locals = some o := by obtain ⟨o,_,_,q,_⟩ := ns'; exact ⟨o,q⟩
  have H' := a.hp.frTurn a.here.f sb.2 hD
  have G' : Go fr μ μ [env.locals] s.heap h' := .frTurn (.head _) a.here.f sb.2 hD
  refine ⟨h',_,μ,rfl,H',G',⟨⟨_,ns',fun j z u e1 e2 e3 => ?_⟩,by rw [List.length_set]; exact hl⟩⟩
  by_cases q : i = j
  · subst q
    rw [at_] at e1; cases e1
    have hlt : i < ρ.length := by rw [hl]; exact (List.getElem?_eq_some_iff.mp at_).1
    rw [List.getElem?_set_self hlt] at e2
    cases e2
    exact ⟨v,by simp,rv.on G'⟩
  · rw [List.getElem?_set_ne q] at e2
    obtain ⟨u',e4,r⟩ := hm j z u e1 e2 e3
    have : z ≠ y := fun e => by
      subst e
      obtain ⟨l1,x1⟩ := List.getElem?_eq_some_iff.mp at_
      obtain ⟨l2,x2⟩ := List.getElem?_eq_some_iff.mp e1
      have nd := a.here.e.nodup
      rw [List.nodup_iff_pairwise_ne,List.pairwise_iff_getElem] at nd
      rcases Nat.lt_trichotomy i j with k | k | k
      · exact nd i j l1 l2 k (x1.trans x2.symm)
      · exact q k
      · exact nd j i l2 l1 k (x2.trans x1.symm)
    exact ⟨u',by simp [this,e4],r.on G'⟩
theorem assign_ok (a : At W T sc env A d fr μ ρ σ s) {t : PySem.Expr} {i : Nat} (hi : tgName sc t i = true) {v : Value} (rv : Rep W fr μ s.heap v x) :
    wpAny (model prog w) A (assign t env v) (fun _ s' => St W fr μ [env.locals] s σ (fun μ' h' => Lc W fr μ' sc env (ρ.set i x) h') s') Fa s := by
  exact eNameE (m := fun t => wpAny (model prog w) A (assign t env v) (fun _ s' => St W fr μ [env.locals] s σ (fun μ' h' => Lc W fr μ' sc env (ρ.set i x) h') s') Fa s) hi fun _ _ h => assign_Name (store_ok a (of_decide_eq_true h) rv)
theorem At.go {h1 : Heap} {t1 : Nat} {ρ1 : List V} (a : At W T sc env A d fr μ ρ σ s) (H : Hp W fr μ1 σ1 h1) (L : Lc W fr μ1 sc env ρ1 h1) : At W T sc env A d fr μ1 ρ1 σ1 { s with heap := h1,toks := t1 } := ⟨a.here,H,L⟩
theorem tgNames_plain (env : Env) : ∀ {is : List Nat} {ts : List PySem.Expr},tgNames sc ts is = true -> assignEach ts env = ts.map (fun t => (false,assign t env)) /\ is.length = ts.length := by
  intro is
  induction is with
  | nil => exact fun h => empE (m := fun ts => assignEach ts env = ts.map (fun t => (false,assign t env)) /\ 0 = ts.length) h ⟨rfl,rfl⟩
  | cons i js ih =>
    refine fun h => lcsE (m := fun ts => assignEach ts env = ts.map (fun t => (false,assign t env)) /\ js.length + 1 = ts.length) h fun t ts h => andE h fun h1 h2 => ?_
    have ih := ih h2
    refine ⟨?_,congrArg (· + 1) ih.2⟩
    refine eNameE (m := fun t => assignEach (t :: ts) env = (t :: ts).map (fun t => (false,assign t env))) h1 fun _ _ _ => ?_
    show (false,assign _ env) :: assignEach ts env = _
    rw [ih.1]; rfl
theorem assigns_ok : ∀ {is : List Nat} {ts : List PySem.Expr} {items : List Value} {vs : List V} {ρ ρ' : List V} {μ : List Addr} {s : Shared},tgNames sc ts is = true -> stGo ρ is vs = some ρ' -> At W T sc env A d fr μ ρ σ s -> Reps W fr μ s.heap items vs →
    wpAny (model prog w) A (assignInOrder (ts.map (fun t => assign t env)) items) (fun _ s' => St W fr μ [env.locals] s σ (fun μ' h' => Lc W fr μ' sc env ρ' h') s') Fa s := by
  intro is
  induction is with
  | nil =>
    intro ts items vs ρ ρ' μ s h hg a r
    cases vs with
    | cons => cases hg
    | nil =>
      cases hg
      refine empE (m := fun ts => wpAny (model prog w) A (assignInOrder (ts.map (fun t => assign t env)) items) (fun _ s' => St W fr μ [env.locals] s σ (fun μ' h' => Lc W fr μ' sc env ρ h') s') Fa s) h ?_
      cases r
      exact wpAny_pure (St.here a.hp a.lc)
  | cons i js ih =>
    intro ts items vs ρ ρ' μ s h hg a r
    cases vs with
    | nil => cases hg
    | cons v vs =>
      refine lcsE (m := fun ts => wpAny (model prog w) A (assignInOrder (ts.map (fun t => assign t env)) items) (fun _ s' => St W fr μ [env.locals] s σ (fun μ' h' => Lc W fr μ' sc env ρ' h') s') Fa s) h fun t ts h => andE h fun h1 h2 => ?_
      refine bnd_e (m := setLoc ρ i v) (f := fun ρ1 => stGo ρ1 js vs) hg fun ρ1 h3 hg => ?_
      cases r with
      | cons r rs =>
        rename_i u us
        show wpAny (model prog w) A (do holding us (assign t env u); assignInOrder (ts.map (fun t => assign t env)) us) _ Fa s
        refine wpAny_bind (wpAny_holding (wpAny_mono (assign_ok a h1 r) (fun _ s1 q => ?_) fun _ _ q => q))
        rw [setLoc_some h3] at q
        refine St.elim q fun h1' t1 μ1 H G L => ?_
        exact wpAny_mono (ih h2 hg (a.go (t1 := t1) H L) (rs.on G)) (fun _ _ q => q.from G) fun _ _ q => q
theorem stGo_len : ∀ (is : List Nat) (vs ρ ρ' : List V),stGo ρ is vs = some ρ' -> is.length = vs.length := by
  intro is
  induction is with
  | nil => intro vs ρ ρ' h; cases vs with | nil => rfl | cons => cases h
  | cons i is ih =>
    intro vs ρ ρ' h
    cases vs with
    | nil => cases h
    | cons v vs => exact bnd_e (m := setLoc ρ i v) (f := fun ρ1 => stGo ρ1 is vs) h fun ρ1 _ h => congrArg (· + 1) (ih _ _ _ h)
theorem unpack_ok (a : At W T sc env A d fr μ ρ σ s) {ts : List PySem.Expr} {k : Nat} {p : Pos} {is : List Nat} (ht : tgNames sc ts is = true) {v : Value} {ρ' : List V} (rv : Rep W fr μ s.heap v x) (hs : tupK x (stGo ρ is) = some ρ') :
    wpAny (model prog w) A (assign (.Tuple ts k p) env v) (fun _ s' => St W fr μ [env.locals] s σ (fun μ' h' => Lc W fr μ' sc env ρ' h') s') Fa s := by
  refine tup_e hs fun vs hx hs => ?_
  · subst hx
    refine rp_tup (rep_tup rv) fun l o items n g c d sz r => ?_
    obtain ⟨e1,e2⟩ := tgNames_plain env ht
    have len := r.length
    have gl := stGo_len _ _ _ _ hs
    refine assign_Tuple_tuple a.here.a.handled ⟨o,g,c,n,d⟩ ?_ ?_ fun h' he => ?_
    · rw [e1,List.length_map]; simp only [Array.length_toList] at len; omega
    · rw [e1,List.findIdx?_eq_none_iff]; intro q hq; obtain ⟨t,_,rfl⟩ := List.mem_map.mp hq; rfl
    · rw [e1,List.map_map]
      have ext : ∀ b o,s.heap.get? b = some o -> h'.get? b = some o := fun b o q => he b o (Nat.ne_of_lt (Heap.lt_size q)) q
      have a1 : At W T sc env A _ fr μ ρ σ { s with heap := h',toks := s.toks } := a.on (a.hp.ext ext) (.ext ext)
      exact wpAny_mono (assigns_ok ht hs a1 (r.on (ch := []) (.ext ext))) (fun _ _ q => q.from (.ext ext)) fun _ _ q => q
theorem target_ok (a : At W T sc env A d fr μ ρ σ s) {t : PySem.Expr} {tg : List Nat} (ht : tgOf sc t tg = true) {v : Value} {ρ' : List V} (rv : Rep W fr μ s.heap v x) (hs : stOne ρ tg x = some ρ') :
    wpAny (model prog w) A (assign t env v) (fun _ s' => St W fr μ [env.locals] s σ (fun μ' h' => Lc W fr μ' sc env ρ' h') s') Fa s := by
  refine (Bool.or_eq_true_iff.mp ht).elim (fun h => ?_) fun h => ?_
  · cases tg with
    | nil => cases h
    | cons i r =>
      refine andE h fun h1 h2 => ?_
      cases r with
      | cons => cases h1
      | nil => exact setLoc_some (show setLoc ρ i x = some ρ' from hs) ▸ assign_ok a h2 rv
  · revert rv
    refine eTupE (m := fun t => Rep W fr μ s.heap v x -> wpAny (model prog w) A (assign t env v) (fun _ s' => St W fr μ [env.locals] s σ (fun μ' h' => Lc W fr μ' sc env ρ' h') s') Fa s) h fun es n p h rv => andE h fun c h => ?_
    have e2 := (tgNames_plain env h).2
    have c := of_decide_eq_true c
    refine unpack_ok a h rv ?_
    match tg,e2 with
    | [],e2 => rw [← e2] at c; cases c
    | [_],e2 => rw [← e2] at c; exact absurd c (Nat.not_succ_le_self 1)
    | _ :: _ :: _,_ => exact hs
end
end
section
variable {prog : Program} {w : World} {W : Wd} {T : Tb} {P : Prog} {K : Frag} {mg mb : Str -> Option Value} {d : Nat} {ρ : List V} {σ σ' : List O} {x : V}
theorem PS.from {W : Wd} {fr μ μ1 : List Addr} {sc : Sc} {env : Env} {s : Shared} {r : Res} {f : Flow} {s' : Shared} {h1 : Heap} {t1 : Nat} (q : PS W fr μ1 sc env { s with heap := h1,toks := t1 } r f s') (G : Go fr μ μ1 [env.locals] s.heap h1) : PS W fr μ sc env s r f s' := St.from G q
theorem execs_one {A : Around} {env : Env} {s : Shared} {st : Stmt} {Q : Flow -> Shared -> Prop} (h : wpAny (model prog w) A (exec st env) Q Fa s) : wpAny (model prog w) A (execs [st] env) Q Fa s := by
  refine wpAny_execs_cons (wpAny_mono h (fun f s1 q => ?_) fun _ _ q => q)
  cases f <;> first | exact q | exact wpAny_execs_nil q
theorem SS.mk0 {c : S} {r : Res} (h : ∀ sc env A fr μ s,At W T sc env A d fr μ ρ σ s -> ∀ st,Cs sc st c -> wpAny (model prog w) A (exec st env) (PS W fr μ sc env s r) Fa s) (ho : ordS c = true := by rfl) : SS prog w W T c d ρ σ r := by
  refine ⟨h,fun sc env A fr μ s a sts q => ?_⟩
  exact i_css q ho fun _ q => execs_one (h _ _ _ _ _ _ a _ q)
theorem ss_skip : SS prog w W T .skip d ρ σ ⟨.none,.nxt,ρ,σ⟩ := by
  exact ⟨fun sc env A fr μ s a st q => absurd q Bool.false_ne_true,fun sc env A fr μ s a sts q => i_skip q (wpAny_execs_nil (St.here a.hp ⟨a.lc,rfl⟩))⟩
theorem ss_seqN {c1 c2 : S} {r1 r2 : Res} (S1 : SS prog w W T c1 d ρ σ r1) (h1 : r1.fl = .nxt) (S2 : SS prog w W T c2 d r1.ρ r1.σ r2) : SS prog w W T (.seq c1 c2) d ρ σ r2 := by
  refine ⟨fun sc env A fr μ s a st q => absurd q Bool.false_ne_true,fun sc env A fr μ s a sts q => ?_⟩
  refine i_seq q fun _ _ q1 q2 => ?_
  · refine wpAny_execs_cons (wpAny_mono (S1.one _ _ _ _ _ _ a _ q1) (fun f s1 q => ?_) fun _ _ q => q)
    refine St.elim q fun h1' t1 μ1 H G zz => ?_
    obtain ⟨L,q⟩ := zz
    rw [h1] at q
    cases q
    exact wpAny_mono (S2.all _ _ _ _ _ _ (a.go (t1 := t1) H L) _ q2) (fun _ _ q => q.from G) fun _ _ q => q
theorem ss_seqX {c1 c2 : S} {r1 : Res} (S1 : SS prog w W T c1 d ρ σ r1) (h1 : r1.fl ≠ .nxt) : SS prog w W T (.seq c1 c2) d ρ σ r1 := by
  refine ⟨fun sc env A fr μ s a st q => absurd q Bool.false_ne_true,fun sc env A fr μ s a sts q => ?_⟩
  refine i_seq q fun _ _ q1 q2 => ?_
  · refine wpAny_execs_cons (wpAny_mono (S1.one _ _ _ _ _ _ a _ q1) (fun f s1 q => ?_) fun _ _ q => q)
    have q' := q
    obtain ⟨h1',t1,μ1,rfl,H,G,L,fl⟩ := q
    cases f with
    | next =>
      exfalso
      unfold FlR at fl
      split at fl
      · rename_i e; exact h1 e
      · cases fl
      · obtain ⟨_,q,_⟩ := fl; cases q
    | _ => exact q'
set_option tactic.hygienic false in
theorem noSwap {e : PySem.Expr} (h : isComp e = false) (t : Option PySem.Expr) (n : Nat) (env : Env) : swapsWith e t n env = pure false := by
  cases e <;> first | rfl | (cases h)
theorem ss_asg {i : Nat} {e : X} {σ1 : List O} (S : SX prog w W T e d ρ σ x σ1) : SS prog w W T (.asg i e) d ρ σ ⟨.none,.nxt,ρ.set i x,σ1⟩ := by
  refine .mk0 (fun sc env A fr μ s a st c => ?_)
  refine i_asg c fun h1 h2 h3 h4 c => ?_
  refine wpAny_Assign_Name (wpAny_mono (S.one _ _ _ _ _ _ a _ c) (fun v s1 q => ?_) fun _ _ q => q) (noSwap h4 _ _ _)
  refine St.elim q fun h1' t1 μ1 H G r => ?_
  refine wpAny_mono (store_ok (a.on (t1 := t1) H G) h1 r) (fun _ s2 q => ?_) fun _ _ q => q
  exact St.from G.wide0 (q.mono (fun _ q => q) fun _ _ L => ⟨L,rfl⟩)
theorem ss_asgNew {i : Nat} {es : X} {vs : List V} {σ1 : List O} (S : SX prog w W T es d ρ σ (.tup vs) σ1) (hl : vs.length <= maxLen) : SS prog w W T (.asgNew i es) d ρ σ ⟨.none,.nxt,ρ.set i (.ref σ1.length),σ1 ++ [.list vs]⟩ := by
  refine .mk0 (fun sc env A fr μ s a st c => ?_)
  refine i_asgNew c fun h1 h2 c => ?_
  refine wpAny_Assign_Name (List_ ?_) (noSwap rfl _ _ _)
  obtain ⟨ys,e,q⟩ := S.all _ _ _ _ _ _ a _ c _
  cases e
  refine wpAny_mono q (fun us s1 q => ?_) fun _ _ q => q
  refine St.elim q fun h1' t1 μ1 H G r => ?_
  have len := r.length
  have e0 : sizeLine = maxLen := rfl
  refine wpAny_newList ?_ (by omega)
  obtain ⟨H2,G2⟩ := H.push (ch := []) (ob := { cls := .type "list",data := .seq us.toArray }) (o := .list vs) rfl fun h' e g => .list (n := 0) g (by simp; omega) (by simpa using r.on (ch := []) ⟨List.prefix_append _ _,fun b o q _ _ => e b o q,fun b hb nb => by
    rcases List.mem_append.mp hb with q | q
    · exact absurd q nb
    · rw [List.mem_singleton.mp q]; exact none_of_size (Nat.le_refl _),fun b _ _ o q => e b o q,fun b o q => ⟨o,e b o q⟩⟩)
  have a2 : At W T sc env A d fr (μ1 ++ [h1'.objs.size]) ρ (σ1 ++ [.list vs]) { s with heap := h1'.push { cls := .type "list",data := .seq us.toArray },toks := t1 } := (a.on (t1 := t1) H G).on H2 G2
  have rv : Rep W fr (μ1 ++ [h1'.objs.size]) (h1'.push { cls := .type "list",data := .seq us.toArray }) (.ref h1'.objs.size) (.ref σ1.length) := .ref (by rw [← H.len,List.getElem?_append_right (Nat.le_refl _)]; simp)
  refine wpAny_mono (store_ok a2 h1 rv) (fun _ s2 q => ?_) fun _ _ q => q
  exact St.from (G.trans G2).wide0 (q.mono (fun _ q => q) fun _ _ L => ⟨L,rfl⟩)
set_option tactic.hygienic false in
theorem noSwapT {e : PySem.Expr} (h : isComp e = false) (ts : List PySem.Expr) (k : Nat) (p : Pos) (n : Nat) (env : Env) : swapsWithSole [.Tuple ts k p] e n env = pure false := by
  cases e <;> first | rfl | (cases h)
theorem noSwapS {e : PySem.Expr} (h : isTup e = false \/ foldedForSure 9 e = true) (ts : List PySem.Expr) (k : Nat) (p : Pos) (env : Env) : swappedStores [.Tuple ts k p] e env = pure none := by
  by_cases q : isTup e = false
  · cases e <;> first | rfl | (cases q)
  · have h : foldedForSure 9 e = true := h.resolve_left q
    cases e with
    | Tuple es k' p' =>
      have h : es.all (foldedForSure 8) = true := h
      unfold swappedStores
      dsimp only
      split
      · rfl
      · split
        · rfl
        · split
          · rfl
          · first | rfl | (rw [h]; rfl)
    | _ => rfl
theorem ss_asgT {is : List Nat} {e : X} {ρ' : List V} {σ1 : List O} (S : SX prog w W T e d ρ σ x σ1) (hs : tupK x (stGo ρ is) = some ρ') : SS prog w W T (.asgT is e) d ρ σ ⟨.none,.nxt,ρ',σ1⟩ := by
  refine .mk0 (fun sc env A fr μ s a st c => ?_)
  refine i_asgT c fun h1 h2 h3 h4 c => ?_
  refine Assign_Tuple (wpAny_mono (S.one _ _ _ _ _ _ a _ c) (fun v s1 q => ?_) fun _ _ q => q) (noSwapT h4 _ _ _ _ _) (noSwapS h3 _ _ _ _)
  refine St.elim q fun h1' t1 μ1 H G r => ?_
  refine wpAny_mono (unpack_ok (a.on (t1 := t1) H G) h1 r hs) (fun _ s2 q => ?_) fun _ _ q => q
  exact St.from G.wide0 (q.mono (fun _ q => q) fun _ _ L => ⟨L,rfl⟩)
theorem iadd {A : Around} {s : Shared} {a b : Int} {t u : Tok} {Q : Value -> Shared -> Prop} (h : Q (.int (a + b) s.toks) { s with toks := s.toks + 1 }) : wpAny (model prog w) A (inplaceOp .Add (.int a t) (.int b u)) Q Fa s := PySem.AutoIntOps.iadd_0 h
theorem ss_aug {i : Nat} {e : X} {p q : Int} {σ1 : List O} (hp : ρ[i]? = some (.int p)) (S : SX prog w W T e d ρ σ (.int q) σ1) : SS prog w W T (.aug i .add e) d ρ σ ⟨.none,.nxt,ρ.set i (.int (p + q)),σ1⟩ := by
  refine .mk0 (fun sc env A fr μ s a st c => ?_)
  refine i_aug c fun h1 h2 h3 c => ?_
  rename_i y p' op e' p''
  have hop : op = .Add := by cases op <;> first | rfl | (cases h3)
  subst hop
  obtain ⟨m,ns,hm⟩ := a.lc.ns
  obtain ⟨u,e,r⟩ := hm i _ _ (Sc.at_loc h1) hp (by intro q; cases q)
  obtain ⟨t,rfl⟩ := rep_int r
  refine wpAny_AugAssign_Name (wpAny_loadName_local a.here.e.fk (a.here.e.kof.trans h2) ns e (wpAny_mono (S.one _ _ _ _ _ _ a _ c) (fun v s1 qq => ?_) fun _ _ q => q))
  refine St.elim qq fun h1' t1 μ1 H G r => ?_
  refine rp_int r fun t' => ?_
  refine iadd ?_
  have a1 : At W T sc env A d fr μ1 ρ σ1 { s with heap := h1',toks := t1 + 1 } := a.on H G
  refine wpAny_mono (store_ok a1 h1 (.int (p + q) t1)) (fun _ s2 q => ?_) fun _ _ q => q
  exact St.from G.wide0 (q.mono (fun _ q => q) fun _ _ L => ⟨L,rfl⟩)
theorem ss_iffT {t : X} {c1 c2 : S} {y : V} {σ1 : List O} {r : Res} (S : SX prog w W T t d ρ σ y σ1) (h : truth y = some true) (S1 : SS prog w W T c1 d ρ σ1 r) : SS prog w W T (.iff t c1 c2) d ρ σ r := by
  refine .mk0 (fun sc env A fr μ s a st c => ?_)
  refine i_iff c fun q1 q2 q3 => ?_
  refine wpAny_If (wpAny_mono (S.test _ _ _ _ _ _ a _ q1 true h) (fun v s1 q => ?_) fun _ _ q => q)
  obtain rfl := q.is
  refine St.elim q fun h1' t1 μ1 H G _ => ?_
  exact wpAny_mono (S1.all _ _ _ _ _ _ (a.on (t1 := t1) H G) _ q2) (fun _ _ q => q.from G.wide0) fun _ _ q => q
theorem ss_iffF {t : X} {c1 c2 : S} {y : V} {σ1 : List O} {r : Res} (S : SX prog w W T t d ρ σ y σ1) (h : truth y = some false) (S2 : SS prog w W T c2 d ρ σ1 r) : SS prog w W T (.iff t c1 c2) d ρ σ r := by
  refine .mk0 (fun sc env A fr μ s a st c => ?_)
  refine i_iff c fun q1 q2 q3 => ?_
  refine wpAny_If (wpAny_mono (S.test _ _ _ _ _ _ a _ q1 false h) (fun v s1 q => ?_) fun _ _ q => q)
  obtain rfl := q.is
  refine St.elim q fun h1' t1 μ1 H G _ => ?_
  exact wpAny_mono (S2.all _ _ _ _ _ _ (a.on (t1 := t1) H G) _ q3) (fun _ _ q => q.from G.wide0) fun _ _ q => q
theorem ss_ret {e : X} {σ1 : List O} (S : SX prog w W T e d ρ σ x σ1) : SS prog w W T (.ret e) d ρ σ ⟨x,.ret,ρ,σ1⟩ := by
  refine .mk0 (fun sc env A fr μ s a st c => ?_)
  refine i_ret c fun c => ?_
  refine wpAny_Return_some (wpAny_mono (S.one _ _ _ _ _ _ a _ c) (fun v s1 q => ?_) fun _ _ q => q)
  refine St.elim q fun h1' t1 μ1 H G r => ?_
  exact ⟨h1',t1,μ1,rfl,H,G.wide0,(a.on (t1 := t1) H G).lc,v,rfl,r⟩
theorem ss_brk : SS prog w W T .brk d ρ σ ⟨.none,.brk,ρ,σ⟩ := by
  refine .mk0 (fun sc env A fr μ s a st c => ?_)
  refine i_brk c ?_
  exact wpAny_Break (St.here a.hp ⟨a.lc,rfl⟩)
theorem ss_tr {c : S} {r : Res} (S : SS prog w W T c d ρ σ r) : SS prog w W T (.tr c) d ρ σ r := by
  refine .mk0 (fun sc env A fr μ s a st q => ?_)
  refine i_tr q fun q => ?_
  rename_i b hs p
  rw [arm_exec_Try]
  refine wpAny_bind (wpAny_standAt ?_)
  unfold tryStmt
  simp only [List.isEmpty_nil,if_true]
  refine wpAny_bind (wpAny_attempt (wpAny_mono (S.all _ _ _ _ _ _ a _ q) (fun f s1 q => ?_) fun _ _ q => q.elim))
  cases f with
  | next => exact wpAny_execs_nil q
  | _ => exact wpAny_pure q
theorem drop_any {A : Around} {s : Shared} {e : PySem.Expr} {pos : Pos} {v : Value} {Q : Flow -> Shared -> Prop} (h : Q .next s) : wpAny (model prog w) A (dropValue e pos v) Q Fa s := by
  unfold dropValue
  split
  · exact wpAny_pure h
  · refine wpAny_bind (wpAny_standAt (wpAny_bind (wpAny_runValue (codeAny_builtin entry_let_go (show wpAny _ _ (ret .none) _ _ s from wpAny_pure (wpAny_pure h))))))
  · exact wpAny_pure h
theorem ss_ex {e : X} {σ1 : List O} (S : SX prog w W T e d ρ σ x σ1) : SS prog w W T (.ex e) d ρ σ ⟨.none,.nxt,ρ,σ1⟩ := by
  refine .mk0 (fun sc env A fr μ s a st c => ?_)
  refine i_ex c fun c hc => ?_
  rename_i ex p
  have hi : interactive env = false := by unfold interactive; rw [a.here.e.fk]; rfl
  rw [exec_Expr env ex p hi (noSwap hc _ _ _)]
  refine wpAny_bind (wpAny_standAt (wpAny_bind (wpAny_mono (S.one _ _ _ _ _ _ a _ c) (fun v s1 q => drop_any ?_) fun _ _ q => q)))
  refine St.elim q fun h1' t1 μ1 H G r => ?_
  exact ⟨h1',t1,μ1,rfl,H,G.wide0,(a.on (t1 := t1) H G).lc,rfl⟩
end
section
variable {prog : Program} {w : World} {A : Around} {s : Shared} {K : Frag} {x C dx : Addr} {es : List DictEntry} {n : Nat} {name : Str} {v : Value}
theorem osa_exact {tk : Tok} {R : Result -> Shared -> Prop} (X : K.In s.heap) (gx : s.heap.get? x = some (instObj C dx)) (gd : s.heap.get? dx = some (dictOf es n)) (I : PySem.W.InstAt s.heap x (instObj C dx) C (some (dictOf es n)))
    (hp : plainOver K C = true) (ht : takerIn K C name = some none) (hh : hasDictIn K C = true) (hl : (getL name es).isSome = true)
    (hz : (putL name (PyData.keyHash w.params name) (.str name s.toks) v es).length <= 1000)
    (h : ∀ h',(∀ b,b ≠ dx -> h'.get? b = s.heap.get? b) -> h'.get? dx = some (dictOf (putL name (PyData.keyHash w.params name) (.str name s.toks) v es) (putN name es n)) -> R (.ok (.ret .none)) { s with heap := h',toks := s.toks + 1 }) :
    codeAny (model prog w) A (.call (.builtin "object.__setattr__") ⟨[.ref x,.str name tk,v],[]⟩) R s := by
  refine osa_open X I hp ht fun b => ?_
  obtain ⟨cd,hc,hd'⟩ := any_some hh
  have e := putName_dict name (PyData.keyHash w.params name) (.str name s.toks) v es n
  have D' : (s.heap.update dx (Obj.putName name (PyData.keyHash w.params name) (.str name s.toks) v)).get? dx = some (dictOf (putL name (PyData.keyHash w.params name) (.str name s.toks) v es) (putN name es n)) := by
    rw [← e]
    refine Heap.get?_update_self _ gd ?_
    rw [e]; rfl
  refine wpAny_bind (wpAny_pure (wpAny_bind (wpAny_bind (wpAny_loadPart gx (wpAny_bind ((looks_clsIn X hc).here ?_))))))
  rw [hd']
  refine wpAny_pure (a := some dx) (wpAny_bind (wpAny_pure (wpAny_bind ?_)))
  unfold nsSet
  refine wpAny_bind (wpAny_bind (wpAny_askSetting (wpAny_pure (wpAny_bind (wpAny_mkText (wpAny_bind (wpAny_loadPart gd ?_)))))))
  dsimp only
  have c : (!es.toArray.any (·.key.isStr name) && es.toArray.any (·.refKey)) = false := by
    rw [← Array.any_toList,← Array.any_toList]
    unfold getL at hl
    split at hl
    · rename_i en he
      rw [show (es.toArray.toList) = es from rfl,List.any_eq_true.mpr ⟨en,List.mem_of_find?_eq_some he,List.find?_some he⟩]; rfl
    · split at hl
      · cases hl
      · rename_i z; rw [Bool.not_eq_true] at z; rw [show (es.toArray.toList) = es from rfl,z,Bool.and_false]
  rw [aRefKeyMayBeTheName_at,c]
  refine wpAny_updatePart gd ?_
  refine wpAny_bind (wpAny_lookBehind D' (by exact pastItsLine_dict (by rw [List.size_toArray,sizeLine_eq]; omega)) ?_)
  exact wpAny_pure (h _ (fun b q => Heap.get?_update_ne _ _ _ _ q) D')
theorem set_exact {Q : Unit -> Shared -> Prop} (X : K.In s.heap) (gx : s.heap.get? x = some (instObj C dx)) (gd : s.heap.get? dx = some (dictOf es n)) (I : PySem.W.InstAt s.heap x (instObj C dx) C (some (dictOf es n)))
    (hs : findIn K (.ref C) "__setattr__" = some (some (.builtin "object.__setattr__"))) (hp : plainOver K C = true) (ht : takerIn K C name = some none) (hh : hasDictIn K C = true) (hl : (getL name es).isSome = true)
    (hz : (putL name (PyData.keyHash w.params name) (.str name (s.toks + 1)) v es).length <= 1000)
    (h : ∀ h',(∀ b,b ≠ dx -> h'.get? b = s.heap.get? b) -> h'.get? dx = some (dictOf (putL name (PyData.keyHash w.params name) (.str name (s.toks + 1)) v es) (putN name es n)) -> Q () { s with heap := h',toks := s.toks + 2 }) :
    wpAny (model prog w) A (setAttr (.ref x) name v) Q Fa s :=
  set_plain X I hs (osa_exact (s := { s with toks := s.toks + 1 }) X gx gd I hp ht hh hl hz fun h' a b => h h' a b)
theorem setItem_exact {l : Addr} {items : Array Value} {n : Nat} {k : Int} {t : Tok} {Q : Unit -> Shared -> Prop} (ho : s.heap.get? l = some (listOf items n)) (h0 : 0 <= k) (hfit : k < 2 ^ 63) (hn : k < items.size)
    (hQ : ∀ h',(∀ b,b ≠ l -> h'.get? b = s.heap.get? b) -> h'.get? l = some (listOf (items.setIfInBounds k.toNat v) n) -> Q () { s with heap := h' }) :
    wpAny (model prog w) A (setItem (.ref l) (.int k t) v) Q Fa s := by
  have hl : s.heap.IsList l items := ⟨_,ho,rfl,n,rfl⟩
  have g : (s.heap.update l (Obj.mapSeq (·.setIfInBounds k.toNat v))).get? l = some (listOf (items.setIfInBounds k.toNat v) n) := by
    have := IsL.update (n := n) ho (·.setIfInBounds k.toNat v)
    simpa using this
  unfold setItem
  try with_reducible refine wpAny_holding ?_
  first | refine wpAny_bind (wpAny_pure ?_) | skip
  refine wpAny_bind (wpAny_sequenceKey hl.typeIs (by decide) ?_)
  refine wpAny_bind (wpAny_callSpecial?_slot (name := Str.ofString "__setitem__") hl.typeIs slot_list_setitem
    (wpAny_call_entry slot_list_setitem hl.typeIs entry_list_setitem ?_ (args_list_setitem _ _ _)))
  show wpAny _ _ (Builtin.List.listSubscript? (.int k t) >>= _) _ _ s
  refine wpAny_bind (wpAny_listSubscript_int (fitsIndex_of h0 hfit) ?_)
  clear hfit
  obtain ⟨j,rfl⟩ := Int.eq_ofNat_of_zero_le h0
  have hj : j < items.size := by omega
  have hx' : items[j]? = some items[j] := Array.getElem?_eq_getElem hj
  show wpAny _ _ ((seqItemAt l j >>= fun r => pure (r.map (j,·))) >>= _) _ _ s
  refine wpAny_bind (wpAny_bind (wpAny_seqItemAt ho rfl (wpAny_pure ?_)))
  rw [hx']
  show wpAny _ _ (setSeqItemAt l j v >>= _) _ _ s
  refine wpAny_bind (wpAny_setSeqItemAt ho rfl ?_)
  have fin := hQ (s.heap.update l (Obj.mapSeq (·.setIfInBounds j v))) (fun b q => Heap.get?_update_ne _ _ _ _ q) g
  first
    | exact wpAny_bind (wpAny_pure (wpAny_pure ⟨.none,rfl,wpAny_pure fin⟩))
    | exact wpAny_pure ⟨.none,rfl,wpAny_pure fin⟩
end
section
variable {prog : Program} {w : World} {W : Wd} {T : Tb} {P : Prog} {K : Frag} {mg mb : Str -> Option Value} {d : Nat} {ρ : List V} {σ σ' : List O} {x : V}
theorem putL_rep {fr μ : List Addr} {h : Heap} {v : Value} {y : V} (r : Rep W fr μ h v y) (name : Str) (t : Tok) {fs : List (List Nat × V)} : ∀ {es : List DictEntry},RepD W fr μ h es fs →
    RepD W fr μ h (putL name (PyData.keyHash W.P name) (.str name t) v es) (putD name.cps.toList y fs) /\ (putL name (PyData.keyHash W.P name) (.str name t) v es).length <= es.length + 1 := by
  induction fs with
  | nil => exact fun q => q.inv (fun es => RepD W fr μ h (putL name (PyData.keyHash W.P name) (.str name t) v es) [(name.cps.toList,y)] /\ (putL name (PyData.keyHash W.P name) (.str name t) v es).length <= es.length + 1) ⟨.cons r .nil,Nat.le_refl _⟩
  | cons p fs ih =>
    obtain ⟨a,x⟩ := p
    refine fun q => q.inv (fun es => RepD W fr μ h (putL name (PyData.keyHash W.P name) (.str name t) v es) (putD name.cps.toList y ((a,x) :: fs)) /\ (putL name (PyData.keyHash W.P name) (.str name t) v es).length <= es.length + 1) fun k t' v' es ek r' rs => ?_
    have ih := ih rs
    unfold putL putD
    have e : (Value.str k t').isStr name = decide (k.cps.toList = name.cps.toList) := by rw [← str_eta name,isStr_name,str_eta]
    have ek : k.cps.toList = a := ek
    rw [e,ek]
    by_cases q : a = name.cps.toList
    · rw [decide_eq_true q,if_pos rfl,if_pos q]
      exact ⟨.con ek r rs,Nat.le_succ _⟩
    · rw [decide_eq_false q,if_neg Bool.false_ne_true,if_neg q]
      exact ⟨.con ek r' ih.1,Nat.succ_le_succ ih.2⟩
theorem repD_len {fr μ : List Addr} {h : Heap} {fs : List (List Nat × V)} : ∀ {es : List DictEntry},RepD W fr μ h es fs -> es.length = fs.length := by
  induction fs with
  | nil => exact fun q => q.inv (fun es => es.length = 0) rfl
  | cons p fs ih => exact fun q => q.inv (fun es => es.length = fs.length + 1) fun _ _ _ _ _ _ rs => congrArg (· + 1) (ih rs)
theorem getL_some {fr μ : List Addr} {h : Heap} {es : List DictEntry} {fs : List (List Nat × V)} (rd : RepD W fr μ h es fs) (n : Str) : (getL n es).isSome = true := by
  have q := getL_rep rd n.cps.toList
  rw [str_eta] at q
  split at q
  · obtain ⟨v,q,_⟩ := q; rw [q]; rfl
  · rw [q]; rfl
theorem attr_ok (B : Amb w W T P K mg mb) {sc : Sc} {env : Env} {A : Around} {fr μ : List Addr} {s : Shared} (a : At W T sc env A d fr μ ρ σ s) {c0 i : Nat} {fs : List (List Nat × V)} {name : Str} {u v : Value} {y : V}
    (ru : Rep W fr μ s.heap u (.inst c0 i)) (hf : σ[i]? = some (.ns fs)) (hl : fs.length < 500) (rv : Rep W fr μ s.heap v y) (hp : P.attr c0 name.cps.toList = true) :
    wpAny (model prog w) A (setAttr u name v) (fun _ s' => St W fr μ [] s (σ.set i (.ns (putD name.cps.toList y fs))) (fun _ _ => True) s') Fa s := by
  obtain ⟨x,dx,es,n,rfl,hi,gx,gd,le,rd,I⟩ := inst_at a.hp ru hf
  obtain ⟨b1,b2,⟨at_,b3,b4⟩,b5,b6,b7⟩ := B.attr _ _ hp
  rw [str_eta] at b1 b3 b7
  have len := repD_len rd
  have hz := fun t => (putL_rep rv name t rd).2
  have hz1 := hz (s.toks + 1)
  rw [B.wP] at hz1
  refine set_exact (K := K) (a.kin B) gx gd I b5 b6 b7 b2 (getL_some rd name) (by omega) fun h' e1 e2 => ?_
  have am : dx ∈ μ := List.mem_of_getElem? hi
  have Gt : Go fr μ μ [] s.heap h' := .turn a.hp hi e1 ⟨_,e2⟩
  obtain ⟨H',G'⟩ := a.hp.turn (ch := []) (o := .ns (putD name.cps.toList y fs)) hi e1 ⟨_,e2⟩ (.ns e2 (by omega) (by rw [← B.wP]; exact (putL_rep (rv.on Gt) name _ (rd.on Gt)).1))
  exact ⟨h',_,μ,rfl,H',G',trivial⟩
theorem ss_setA (B : Amb w W T P K mg mb) {o e : X} {at_ : List Nat} {c0 i : Nat} {fs : List (List Nat × V)} {y : V} {σ1 σ2 : List O} (S2 : SX prog w W T e d ρ σ y σ1) (S1 : SX prog w W T o d ρ σ1 (.inst c0 i) σ2) (hf : σ2[i]? = some (.ns fs)) (hl : fs.length < 500) (hp : P.attr c0 at_ = true) :
    SS prog w W T (.setA o at_ e) d ρ σ ⟨.none,.nxt,ρ,σ2.set i (.ns (putD at_ y fs))⟩ := by
  refine .mk0 (fun sc env A fr μ s a st c => ?_)
  revert c; intro cq; refine i_setA cq fun c1 c2 hc ee0 => ?_
  clear cq; subst ee0
  refine plainObj_wpAny_Assign_Attribute (wpAny_mono (S2.one _ _ _ _ _ _ a _ c2) (fun v s1 q => ?_) fun _ _ q => q) (noSwap hc _ _ _)
  refine St.elim q fun h1 t1 μ1 H G r => ?_
  have a1 := a.on (t1 := t1) H G
  refine wpAny_mono (S1.one _ _ _ _ _ _ a1 _ c1) (fun u s2 q => ?_) fun _ _ q => q
  refine St.elim q fun h2 t2 μ2 H2 G2 r2 => ?_
  have a2 := a1.on (t1 := t2) H2 G2
  refine wpAny_mono (attr_ok B a2 r2 hf hl (r.on G2) hp) (fun _ s3 q => ?_) fun _ _ q => q
  refine St.elim q fun h3 t3 μ3 H3 G3 _ => ?_
  exact ⟨h3,t3,μ3,rfl,H3,((G.trans G2).trans G3).wide0,(a2.on (t1 := t3) H3 G3).lc,rfl⟩
theorem ss_augA (B : Amb w W T P K mg mb) {o e : X} {at_ : List Nat} {c0 i : Nat} {fs fs' : List (List Nat × V)} {p q : Int} {σ1 σ2 : List O} (S1 : SX prog w W T o d ρ σ (.inst c0 i) σ1) (hf : σ1[i]? = some (.ns fs)) (hx : lookupD at_ fs = some (.int p)) (S2 : SX prog w W T e d ρ σ1 (.int q) σ2) (hf' : σ2[i]? = some (.ns fs')) (hl : fs'.length < 500) (hp : P.attr c0 at_ = true) :
    SS prog w W T (.augA o at_ .add e) d ρ σ ⟨.none,.nxt,ρ,σ2.set i (.ns (putD at_ (.int (p + q)) fs'))⟩ := by
  refine .mk0 (fun sc env A fr μ s a st c => ?_)
  revert c; intro cq; refine i_augA cq fun c1 c2 ho ee0 => ?_
  clear cq; subst ee0
  rename_i oe an p' op be pos
  have hop : op = .Add := by cases op <;> first | rfl | (cases ho)
  subst hop
  refine wpAny_AugAssign_AttributeAny (wpAny_mono (S1.one _ _ _ _ _ _ a _ c1) (fun u s1 q => ?_) fun _ _ q => q)
  refine St.elim q fun h1 t1 μ1 H G r => ?_
  have a1 := a.on (t1 := t1) H G
  obtain ⟨x,dx,es,n,rfl,hi,gx,gd,le,rd,I⟩ := inst_at a1.hp r hf
  obtain ⟨b1,b2,⟨at_,b3,b4⟩,b5⟩ := B.attr _ _ hp
  have q := getL_rep rd an.cps.toList
  rw [hx] at q
  rw [str_eta] at b1 b3 q
  obtain ⟨v,q1,q2⟩ := q
  obtain ⟨t,rfl⟩ := rep_int q2
  refine get_value (K := K) (a1.kin B) I (plainGet_of b1).1 (findObj_own b2 b3 b4 q1) (rep_handed q2) ?_
  have a1' : At W T sc env A d fr μ1 ρ σ1 { s with heap := h1,toks := t1 + 1 } := a1.on (t1 := t1 + 1) a1.hp .refl
  refine wpAny_mono (S2.one _ _ _ _ _ _ a1' _ c2) (fun v2 s2 q => ?_) fun _ _ q => q
  refine St.elim q fun h2 t2 μ2 H2 G2 r2 => ?_
  refine rp_int r2 fun t' => ?_
  refine iadd ?_
  have a2 : At W T sc env A d fr μ2 ρ σ2 { s with heap := h2,toks := t2 + 1 } := a1'.on H2 G2
  refine wpAny_mono (attr_ok B a2 (r.on G2) hf' hl (.int _ t2) hp) (fun _ s3 q => ?_) fun _ _ q => q
  refine St.elim q fun h3 t3 μ3 H3 G3 _ => ?_
  exact ⟨h3,t3,μ3,rfl,H3,((G.trans G2).trans G3).wide0,(a2.on (t1 := t3) H3 G3).lc,rfl⟩
theorem ss_setI {o j e : X} {i k : Nat} {y : V} {xs : List V} {σ1 σ2 σ3 : List O} (S3 : SX prog w W T e d ρ σ y σ1) (S1 : SX prog w W T o d ρ σ1 (.ref i) σ2) (S2 : SX prog w W T j d ρ σ2 (.int k) σ3) (hx : σ3[i]? = some (.list xs)) (hk : k < xs.length) :
    SS prog w W T (.setI o j e) d ρ σ ⟨.none,.nxt,ρ,σ3.set i (.list (xs.set k y))⟩ := by
  refine .mk0 (fun sc env A fr μ s a st c => ?_)
  refine i_setI c fun c1 c2 c3 hs hc => ?_
  refine wpAny_Assign_Subscript (wpAny_mono (S3.one _ _ _ _ _ _ a _ c3) (fun v s1 q => ?_) fun _ _ q => q) (noSwap hc _ _ _)
  refine St.elim q fun h1 t1 μ1 H G r => ?_
  have a1 := a.on (t1 := t1) H G
  refine wpAny_mono (S1.one _ _ _ _ _ _ a1 _ c1) (fun u s2 q => ?_) fun _ _ q => q
  refine St.elim q fun h2 t2 μ2 H2 G2 r2 => ?_
  have a2 := a1.on (t1 := t2) H2 G2
  refine wpAny_mono (S2.one _ _ _ _ _ _ a2 _ c2) (fun u3 s3 q => ?_) fun _ _ q => q
  refine St.elim q fun h3 t3 μ3 H3 G3 r3 => ?_
  have a3 := a2.on (t1 := t3) H3 G3
  refine rp_int r3 fun t => ?_
  refine rp_ref (r2) fun ra hi => ?_
  have hi3 := get_app G3.pre hi
  have ob := H3.obj _ _ _ hi3 hx
  refine o_list (ob) fun oi on g sz rs => ?_
  have len := rs.length
  simp only [Array.length_toList] at len
  have e0 : maxLen = 16777216 := rfl
  refine setItem_exact g (by omega) (by omega) (by omega) fun h' e1 e2 => ?_
  have Gt : Go fr μ3 μ3 [] h3 h' := .turn H3 hi3 e1 ⟨_,e2⟩
  obtain ⟨H',G'⟩ := H3.turn (ch := []) (o := .list (xs.set k y)) hi3 e1 ⟨_,e2⟩ (.list e2 (by rw [Array.size_setIfInBounds]; exact sz) (by rw [Array.toList_setIfInBounds]; exact (rs.on Gt).set (((r.on G2).on G3).on Gt) k))
  exact ⟨h',t3,μ3,rfl,H',(((G.trans G2).trans G3).trans G').wide0,(a3.on (t1 := t3) H' G').lc,rfl⟩
end
section
variable {W : Wd} {fr μ μ' μ0 ch : List Addr} {h h0 h1 h' : Heap} {σ σ' : List O} {I : Addr}
theorem mp_gone (k : ∀ b o,b ≠ I -> h.get? b = some o -> h'.get? b = some o) : Mp (I :: fr) μ h fr μ h' := ⟨fun b o e n1 n2 => ⟨k b o (fun q => n1 (q ▸ .head _)) e,fun q => n1 (.tail _ q),n2⟩,fun _ _ e => e⟩
theorem Rep.gone (k : ∀ b o,b ≠ I -> h.get? b = some o -> h'.get? b = some o) {v : Value} {x : V} (r : Rep W (I :: fr) μ h v x) : Rep W fr μ h' v x := r.map (mp_gone k)
theorem Reps.gone (k : ∀ b o,b ≠ I -> h.get? b = some o -> h'.get? b = some o) {v : List Value} {x : List V} (r : Reps W (I :: fr) μ h v x) : Reps W fr μ h' v x := r.map (mp_gone k)
theorem RepD.gone (k : ∀ b o,b ≠ I -> h.get? b = some o -> h'.get? b = some o) {v : List DictEntry} {x : List (List Nat × V)} (r : RepD W (I :: fr) μ h v x) : RepD W fr μ h' v x := r.map (mp_gone k)
theorem Hp.drop (H : Hp W (I :: fr) μ σ h) (nf : I ∉ fr) (k : ∀ b o,b ≠ I -> h.get? b = some o -> h'.get? b = some o) : Hp W fr μ σ h' := by
  refine ⟨fun b o q => k b o (fun z => ?_) (H.keep b o q),H.len,fun i a o q1 q2 => ?_,H.base,fun b hb => H.frb b (.tail _ hb),H.nodup,fun b hb => H.apart b (.tail _ hb),fun b hb => ?_⟩
  · have := H.frb I (.head _); rw [← z,q] at this; cases this
  · have r := H.obj i a o q1 q2
    have na : a ≠ I := fun z => H.apart I (.head _) (z ▸ List.mem_of_getElem? q1)
    cases r with
    | list q l r => exact .list (k _ _ na q) l (r.gone k)
    | ns q l r => exact .ns (k _ _ na q) l (r.gone k)
  · obtain ⟨o,x⟩ := H.frin b (.tail _ hb)
    exact ⟨o,k b o (fun z => nf (z ▸ hb)) x⟩
theorem Lc.drop {sc : Sc} {env : Env} {ρ : List V} (l : Lc W (I :: fr) μ sc env ρ h) (nl : env.locals ≠ I) (k : ∀ b o,b ≠ I -> h.get? b = some o -> h'.get? b = some o) : Lc W fr μ sc env ρ h' := by
  obtain ⟨⟨m,⟨o,es,ep,q1,q2,q3,q4⟩,hm⟩,hl⟩ := l
  exact ⟨⟨m,⟨o,es,ep,k _ _ nl q1,q2,q3,q4⟩,fun i x v a b c => let ⟨u,e1,r⟩ := hm i x v a b c; ⟨u,e1,r.gone k⟩⟩,hl⟩
theorem Go.drop (e : ∀ b o,h0.get? b = some o -> h1.get? b = some o) (n : h0.get? I = none) (G : Go (I :: fr) μ μ' (I :: ch) h1 h) (k : ∀ b o,b ≠ I -> h.get? b = some o -> h'.get? b = some o) : Go fr μ μ' ch h0 h' := by
  have G' := G.cool e n
  have nD : ∀ b o,h0.get? b = some o -> b ≠ I := fun b o q z => by rw [z,n] at q; cases q
  exact ⟨G'.pre,fun b o q n1 n2 => k _ _ (nD b o q) (G'.kept b o q n1 n2),G'.fresh,fun b hb nb o q => k _ _ (nD b o q) (G'.frs b hb nb o q),fun b o q => by
    obtain ⟨o',q'⟩ := G'.alive b o q; exact ⟨o',k _ _ (nD b o q) q'⟩⟩
theorem Go.hotOn (hc : I ∈ ch) (hI : I ∈ fr) (k : ∀ b o,b ≠ I -> h.get? b = some o -> h'.get? b = some o) (a : ∃ o,h'.get? I = some o) : Go fr μ μ ch h h' := by
  refine ⟨List.prefix_refl _,fun b o q n1 _ => k b o (fun z => n1 (z ▸ hI)) q,fun _ q n => absurd q n,fun b hb nb o q => k b o (fun z => nb (z ▸ hc)) q,fun b o q => ?_⟩
  by_cases z : b = I
  · subst z; exact a
  · exact ⟨o,k b o z q⟩
theorem Hp.hotOn (H : Hp W fr μ σ h) (hI : I ∈ fr) (k : ∀ b o,b ≠ I -> h.get? b = some o -> h'.get? b = some o) (a : ∃ o,h'.get? I = some o) : Hp W fr μ σ h' := by
  refine ⟨fun b o q => k b o (fun z => ?_) (H.keep b o q),H.len,fun i a o q1 q2 => ?_,H.base,H.frb,H.nodup,H.apart,fun b hb => ?_⟩
  · have := H.frb I hI; rw [← z,q] at this; cases this
  · refine (H.obj i a o q1 q2).on (ch := [I]) (.hotOn (.head _) hI k (by assumption)) fun o q => k _ _ (fun z => H.apart I hI (z ▸ List.mem_of_getElem? q1)) q
  · by_cases z : b = I
    · subst z; exact a
    · obtain ⟨o,x⟩ := H.frin b hb; exact ⟨o,k b o z x⟩
end
noncomputable def plainIt (T : String) : Bool := !["enumerate","zip","dict_itemiterator","dict_reverseitemiterator","odict_iterator","itertools.zip_longest","itertools.pairwise"].contains T
inductive ItAt (prog : Program) (w : World) (W : Wd) (fr μ : List Addr) (h : Heap) (I : Addr) : It -> Prop
  | vals {xs : List V} {fp : List Addr} {n i : Nat} {Pv : Nat -> Value -> Prop} {St : Nat -> Heap -> Prop} : (∀ A : Around,A.handled = none -> Walks prog w A I fp [I] n Pv St) -> St i h -> i + xs.length = n -> (∀ b ∈ fp,b = I \/ (b ∉ fr /\ b ∉ μ /\ ∃ o,h.get? b = some o)) →
      (∀ i h,St i h -> ∃ o T vs,h.get? I = some o /\ o.cls = .type T /\ o.data = .fields vs /\ plainIt T = true) -> (∀ (j : Nat) x,xs[j]? = some x -> ∀ v,Pv (i + j) v -> Rep W fr μ h v x) -> ItAt prog w W fr μ h I (.vals xs)
  | ref {j k : Nat} {l : Addr} : μ[j]? = some l -> h.IsListIter I l k -> ItAt prog w W fr μ h I (.ref j k)
section
variable {prog : Program} {w : World} {W : Wd} {fr μ μ' ch : List Addr} {h h' : Heap} {σ : List O} {I : Addr} {it : It}
theorem ItAt.on (x : ItAt prog w W fr μ h I it) (hI : I ∈ fr) (nc : I ∉ ch) (G : Go fr μ μ' ch h h') : ItAt prog w W fr μ' h' I it := by
  cases x with
  | vals Wk st hn hf hc hr =>
    have hfp : ∀ b ∈ _,∀ o,h.get? b = some o -> h'.get? b = some o := fun b hb o q => by
      rcases hf b hb with rfl | ⟨n1,n2,_⟩
      · exact G.frs _ hI nc o q
      · exact G.kept _ _ q n1 n2
    refine .vals Wk ((Wk {} rfl).frame _ _ _ st hfp) hn (fun b hb => ?_) hc fun j x e v p => (hr j x e v p).on G
    rcases hf b hb with rfl | ⟨n1,n2,o,q⟩
    · exact .inl rfl
    · exact .inr ⟨n1,notin_app G q n2,o,G.kept _ _ q n1 n2⟩
  | ref e li =>
    obtain ⟨o,q,r⟩ := li
    exact .ref (get_app G.pre e) ⟨o,G.frs _ hI nc o q,r⟩
theorem ItAt.cell (x : ItAt prog w W fr μ h I it) : ∃ o T vs,h.get? I = some o /\ o.cls = .type T /\ o.data = .fields vs /\ plainIt T = true := by
  cases x with
  | vals Wk st hn hf hc hr => exact hc _ _ st
  | ref e li => obtain ⟨o,q,r1,r2⟩ := li; exact ⟨o,_,_,q,r1,r2,by decide⟩
end
section
variable {prog : Program} {w : World} {W : Wd} {T : Tb} {P : Prog} {K : Frag} {mg mb : Str -> Option Value} {d : Nat} {ρ : List V} {σ σ' : List O} {x : V}
variable {A : Around} {fr μ : List Addr} {s : Shared} {I : Addr} {it it' : It}
theorem next_done (hA : A.handled = none) (hI : I ∈ fr) (H : Hp W fr μ σ s.heap) (x : ItAt prog w W fr μ s.heap I it) (e : it.next σ = some none) :
    wpAny (model prog w) A (pyNext (.ref I)) (fun r s' => r = none /\ ∃ h' t',s' = { s with heap := h',toks := t' } /\ ∀ b o,b ≠ I -> s.heap.get? b = some o -> h'.get? b = some o) Fa s := by
  cases x with
  | vals Wk st hn hf hc hr =>
    rename_i xs fp n i Pv St
    cases xs with
    | cons => cases e
    | nil =>
      simp only [List.length_nil,Nat.add_zero] at hn
      subst hn
      exact (Wk A hA).done s _ _ st fun h' tk k => ⟨rfl,h',tk,rfl,fun b o nb q => k b o (by simpa using nb) q⟩
  | ref ei li =>
    rename_i j k l
    simp only [It.next] at e
    split at e
    · rename_i xs hx
      split at e
      · cases e
      · rename_i hk
        obtain ⟨hk',_⟩ := ite_some e
        refine o_list (H.obj _ _ _ ei hx) fun items n g sz rs => ?_
        have len := rs.length
        simp only [Array.length_toList] at len
        have hl : s.heap.IsList l items := ⟨_,g,rfl,n,rfl⟩
        have ne : l ≠ I := fun q => H.apart I hI (q ▸ List.mem_of_getElem? ei)
        refine (Walks.list (prog := prog) (w := w) (A := A) hA I l ne items).done s _ _ ⟨by rw [len,← hk']; exact li,hl⟩ fun h' tk kk => ?_
        exact ⟨rfl,h',tk,rfl,fun b o nb q => kk b o (by simpa using nb) q⟩
    · cases e
theorem next_item (hA : A.handled = none) (hI : I ∈ fr) (H : Hp W fr μ σ s.heap) (x : ItAt prog w W fr μ s.heap I it) {y : V} (e : it.next σ = some (some (y,it'))) :
    wpAny (model prog w) A (pyNext (.ref I)) (fun r s' => ∃ v h' t',r = some v /\ s' = { s with heap := h',toks := t' } /\ Hp W fr μ σ h' /\ Go fr μ μ [I] s.heap h' /\ Rep W fr μ h' v y /\ ItAt prog w W fr μ h' I it') Fa s := by
  cases x with
  | vals Wk st hn hf hc hr =>
    rename_i xs fp n i Pv St
    cases xs with
    | nil => cases e
    | cons z r =>
      cases e
      simp only [List.length_cons] at hn
      refine (Wk A hA).item i s _ _ (by omega) st fun v h' tk p st' k => ?_
      have k' : ∀ b o,b ≠ I -> s.heap.get? b = some o -> h'.get? b = some o := fun b o nb q => k b o (by simpa using nb) q
      have al : ∃ o,h'.get? I = some o := by obtain ⟨o,_,_,q,_⟩ := hc _ _ st'; exact ⟨o,q⟩
      have G : Go fr μ μ [I] s.heap h' := .hotOn (.head _) hI k' al
      refine ⟨v,h',tk,rfl,rfl,H.hotOn hI k' al,G,(hr 0 y rfl v p).on G,.vals Wk st' (by omega) (fun b hb => ?_) hc fun j x q u pu => ?_⟩
      · rcases hf b hb with q | ⟨n1,n2,o,q⟩
        · exact .inl q
        · exact .inr ⟨n1,n2,o,k' b o (fun z => n1 (z ▸ hI)) q⟩
      · exact (hr (j + 1) x (by simpa using q) u (by rw [Nat.add_comm j 1,← Nat.add_assoc]; exact pu)).on G
  | ref ei li =>
    rename_i j k l
    simp only [It.next] at e
    split at e
    · rename_i xs hx
      split at e
      · rename_i z hk
        cases e
        refine o_list (H.obj _ _ _ ei hx) fun items n g sz rs => ?_
        obtain ⟨v,hv,rv⟩ := rs.get hk
        have hl : s.heap.IsList l items := ⟨_,g,rfl,n,rfl⟩
        have ne : l ≠ I := fun q => H.apart I hI (q ▸ List.mem_of_getElem? ei)
        have lt : k < items.size := by
          have := (List.getElem?_eq_some_iff.mp hv).1; simpa using this
        refine (Walks.list (prog := prog) (w := w) (A := A) hA I l ne items).item k s _ _ lt ⟨li,hl⟩ fun v' h' tk p st' kk => ?_
        have k' : ∀ b o,b ≠ I -> s.heap.get? b = some o -> h'.get? b = some o := fun b o nb q => kk b o (by simpa using nb) q
        have al : ∃ o,h'.get? I = some o := by obtain ⟨⟨o,q,_⟩,_⟩ := st'; exact ⟨o,q⟩
        have G : Go fr μ μ [I] s.heap h' := .hotOn (.head _) hI k' al
        have hv' : items[k]? = some v := by simpa using hv
        rw [hv'] at p
        cases p
        exact ⟨_,h',tk,rfl,rfl,H.hotOn hI k' al,G,rv.on G,.ref ei st'.1⟩
      · obtain ⟨_,e⟩ := ite_some e; cases e
    · cases e
end
section
variable {prog : Program} {w : World} {W : Wd} {T : Tb} {P : Prog} {K : Frag} {mg mb : Str -> Option Value} {d : Nat} {ρ : List V} {σ σ' : List O} {x : V}
section
variable {A : Around} {fr μ : List Addr} {s : Shared} {I : Addr} {it it' : It}
theorem iter_ok (H : Hp W fr μ σ s.heap) {v : Value} (rv : Rep W fr μ s.heap v x) (e : itOf σ x = some it) :
    wpAny (model prog w) A (pyIter v) (fun u s' => ∃ ob,u = .ref s.heap.objs.size /\ s' = { s with heap := s.heap.push ob } /\ ob.isFreed = false /\ ItAt prog w W (s.heap.objs.size :: fr) μ (s.heap.push ob) s.heap.objs.size it) Fa s := by
  have n : s.heap.get? s.heap.objs.size = none := none_of_size (Nat.le_refl _)
  have ext : ∀ ob b o,s.heap.get? b = some o -> (s.heap.push ob).get? b = some o := fun ob b o q => Heap.get?_push_of_some _ q
  cases rv with
  | none => cases e
  | bool => cases e
  | int => cases e
  | dct => cases e
  | inst => cases e
  | str y t l =>
    cases e
    have key : ∀ T' : String,plainIt T' = true -> (∀ A : Around,A.handled = none -> Walks prog w A s.heap.objs.size [s.heap.objs.size] [s.heap.objs.size] y.cps.size (SignAt y) (fun i h => h.IsStrIter s.heap.objs.size T' y t i)) →
        ∃ ob,(Value.ref s.heap.objs.size) = .ref s.heap.objs.size /\ ({ s with heap := s.heap.push { cls := .type T',data := .fields #[.str y t,.int 0 0] } } : Shared) = { s with heap := s.heap.push ob } /\ ob.isFreed = false /\
          ItAt prog w W (s.heap.objs.size :: fr) μ (s.heap.push ob) s.heap.objs.size (.vals (y.cps.toList.map fun c => .str [c])) := fun T' hT Wk =>
      ⟨_,rfl,rfl,rfl,.vals (i := 0) Wk ⟨_,Heap.get?_push_size _ rfl,rfl,rfl⟩ (by simp) (fun b hb => .inl (by simpa using hb)) (fun i h ⟨o,q1,q2,q3⟩ => ⟨o,_,_,q1,q2,q3,hT⟩) fun j x q v p => by
        obtain ⟨c,u,p1,rfl⟩ := p
        rw [Nat.zero_add] at p1
        rw [List.getElem?_map] at q
        obtain ⟨c',q1,rfl⟩ := Option.map_eq_some_iff.mp q
        rw [Array.getElem?_toList,p1] at q1
        cases q1
        exact .ofStr rfl (by show 1 <= maxLen; decide)⟩
    cases ha : y.cps.all (· < 128)
    · exact wpAny_pyIter_wide ha (key "str_iterator" (by decide) fun A hA => Walks.strWide hA _ y t)
    · exact wpAny_pyIter_ascii ha (key "str_ascii_iterator" (by decide) fun A hA => Walks.strAscii hA _ y t)
  | tup g c d n1 n2 l rs =>
    cases e
    rename_i a o items k xs
    have ne : a ≠ s.heap.objs.size := Nat.ne_of_lt (Heap.lt_size g)
    have ht : s.heap.IsTuple a items := ⟨o,g,c.1,k,d⟩
    refine wpAny_pyIter_tuple ht ⟨_,rfl,rfl,rfl,.vals (i := 0) (fun A hA => Walks.tuple hA _ a ne items) ⟨⟨_,Heap.get?_push_size _ rfl,rfl,rfl⟩,⟨o,ext _ _ _ g,c.1,k,d⟩⟩ ?_ (fun b hb => ?_) (fun i h st => ?_) fun j x q v p => ?_⟩
    · rw [Nat.zero_add,← rs.length]; simp
    · simp only [List.mem_cons,List.not_mem_nil,or_false] at hb
      rcases hb with rfl | rfl
      · exact .inl rfl
      · refine .inr ⟨fun q => ?_,n2,o,ext _ _ _ g⟩
        rcases List.mem_cons.mp q with q | q
        · exact ne q
        · exact n1 q
    · obtain ⟨⟨o,q1,q2,q3⟩,_⟩ := st; exact ⟨o,_,_,q1,q2,q3,by decide⟩
    · rw [Nat.zero_add] at p
      obtain ⟨u,q1,q2⟩ := rs.get q
      rw [Array.getElem?_toList,p] at q1
      cases q1
      exact q2.hot (ext _) n
  | lst g c d n1 n2 l rs =>
    cases e
    rename_i a o items k xs
    have ne : a ≠ s.heap.objs.size := Nat.ne_of_lt (Heap.lt_size g)
    have ht : s.heap.IsList a items := ⟨o,g,c.1,k,d⟩
    refine wpAny_pyIter_list ht ⟨_,rfl,rfl,rfl,.vals (i := 0) (fun A hA => Walks.list hA _ a ne items) ⟨⟨_,Heap.get?_push_size _ rfl,rfl,rfl⟩,⟨o,ext _ _ _ g,c.1,k,d⟩⟩ ?_ (fun b hb => ?_) (fun i h st => ?_) fun j x q v p => ?_⟩
    · rw [Nat.zero_add,← rs.length]; simp
    · simp only [List.mem_cons,List.not_mem_nil,or_false] at hb
      rcases hb with rfl | rfl
      · exact .inl rfl
      · refine .inr ⟨fun q => ?_,n2,o,ext _ _ _ g⟩
        rcases List.mem_cons.mp q with q | q
        · exact ne q
        · exact n1 q
    · obtain ⟨⟨o,q1,q2,q3⟩,_⟩ := st; exact ⟨o,_,_,q1,q2,q3,by decide⟩
    · rw [Nat.zero_add] at p
      obtain ⟨u,q1,q2⟩ := rs.get q
      rw [Array.getElem?_toList,p] at q1
      cases q1
      exact q2.hot (ext _) n
  | ref hi =>
    rename_i a i
    simp only [itOf] at e
    split at e
    · rename_i xs hx
      cases e
      have ob := H.obj _ _ _ hi hx
      cases ob with
      | list g sz rs => exact wpAny_pyIter_list ⟨_,g,rfl,_,rfl⟩ ⟨_,rfl,rfl,rfl,.ref hi ⟨_,Heap.get?_push_size _ rfl,rfl,rfl⟩⟩
    · cases e
end
theorem while_once {A : Around} {env : Env} {s : Shared} {test : PySem.Expr} {body : List Stmt} {R : Result -> Shared -> Prop}
    (h : wpAny (model prog w) A (isTrue test env (eval test env)) (fun b s2 => if b = true then wpAny (model prog w) A (execs body env) (fun f s3 => match f with
        | .next | .cont => codeAny (model prog w) A (.whileLoop test body [] env) R s3
        | .brk => R (.ok .next) s3
        | .ret v => R (.ok (.ret v)) s3) Fa s2 else R (.ok .next) s2) Fa s) : codeAny (model prog w) A (.whileLoop test body [] env) R s := by
  refine codeAny_of_tree ?_
  show wpAny _ A ((whileTurn test body [] env).onRaise (fun x => do noteFrame x env; theTreesLotGoes x)) _ _ s
  refine wpAny_noted ?_
  simp only [whileTurn]
  refine wpAny_bind (wpAny_mono h (fun b s2 h2 => ?_) fun _ _ q => q.elim)
  cases b with
  | false =>
    simp only [Bool.false_eq_true,if_false] at h2 ⊢
    exact wpAny_bind (wpAny_execs_nil (wpAny_pure h2))
  | true =>
    simp only [if_true] at h2 ⊢
    refine wpAny_bind (wpAny_mono h2 (fun f s3 h3 => ?_) fun _ _ q => q.elim)
    cases f with
    | next => exact wpAny_pure ⟨rfl,h3⟩
    | cont => exact wpAny_pure ⟨rfl,h3⟩
    | brk => exact wpAny_pure h3
    | ret v => exact wpAny_pure h3
theorem for_once {A : Around} {env : Env} {s : Shared} {target : PySem.Expr} {it : Value} {body : List Stmt} {R : Result -> Shared -> Prop}
    (h : wpAny (model prog w) A (pyNext it) (fun r s1 => match r with
      | none => R (.ok .next) s1
      | some v => wpAny (model prog w) A (letOwnedTupleGo target it v) (fun _ s1' => wpAny (model prog w) A (assign target env v) (fun _ s2 => wpAny (model prog w) A (execs body env) (fun f s3 => match f with
        | .next | .cont => codeAny (model prog w) A (.forLoop target it body [] env) R s3
        | .brk => R (.ok .next) s3
        | .ret v => R (.ok (.ret v)) s3) Fa s2) Fa s1') Fa s1) Fa s) : codeAny (model prog w) A (.forLoop target it body [] env) R s := by
  refine codeAny_of_tree ?_
  show wpAny _ A ((forTurn target it body [] env).onRaise (fun x => do noteFrame x env; theTreesLotGoes x)) _ _ s
  refine wpAny_noted ?_
  simp only [forTurn]
  refine wpAny_bind (wpAny_standAt (wpAny_bind (wpAny_onRaise (wpAny_mono h (fun r s1 h1 => ?_) fun _ _ q => q.elim))))
  cases r with
  | none => exact wpAny_pure ⟨rfl,codeAny_block (wpAny_execs_nil h1)⟩
  | some v =>
    refine wpAny_bind (wpAny_mono h1 (fun _ s1' h1' => ?_) fun _ _ q => q.elim)
    refine wpAny_bind (wpAny_mono h1' (fun _ s2 h2 => wpAny_bind (wpAny_mono h2 (fun f s3 h3 => ?_) fun _ _ q => q.elim)) fun _ _ q => q.elim)
    cases f with
    | next => exact wpAny_pure ⟨rfl,h3⟩
    | cont => exact wpAny_pure ⟨rfl,h3⟩
    | brk => exact wpAny_pure h3
    | ret v => exact wpAny_pure h3
structure SL (prog : Program) (w : World) (W : Wd) (T : Tb) (t : X) (b : S) (d : Nat) (ρ : List V) (σ : List O) (r : Res) : Prop where
  run : ∀ sc env A fr μ s,At W T sc env A d fr μ ρ σ s -> ∀ test body,Cx sc test t -> Css sc body b →
    codeAny (model prog w) A (.whileLoop test body [] env) (fun q s' => ∃ f,q = .ok f /\ PS W fr μ sc env s r f s') s
structure SI (prog : Program) (w : World) (W : Wd) (T : Tb) (tg : List Nat) (it : It) (b : S) (d : Nat) (ρ : List V) (σ : List O) (r : Res) : Prop where
  run : ∀ sc env A fr μ0 μ (s0 : Shared) h1 h t I,(∀ b o,s0.heap.get? b = some o -> h1.get? b = some o) -> s0.heap.get? I = none -> Go (I :: fr) μ0 μ (I :: [env.locals]) h1 h -> At W T sc env A d (I :: fr) μ ρ σ { s0 with heap := h,toks := t } →
    env.locals ∈ fr -> I ∉ fr -> ItAt prog w W (I :: fr) μ h I it -> ∀ target body,tgOf sc target tg = true -> Css sc body b →
    codeAny (model prog w) A (.forLoop target (.ref I) body [] env) (fun q s' => ∃ f,q = .ok f /\ PS W fr μ0 sc env s0 r f s') { s0 with heap := h,toks := t }
theorem sl_stop {t : X} {b : S} {y : V} {σ1 : List O} (S1 : SX prog w W T t d ρ σ y σ1) (hy : truth y = some false) : SL prog w W T t b d ρ σ ⟨.none,.nxt,ρ,σ1⟩ := by
  refine ⟨fun sc env A fr μ s a test body ct cb => while_once (wpAny_mono (S1.test _ _ _ _ _ _ a _ ct false hy) (fun c s1 q => ?_) fun _ _ q => q)⟩
  obtain rfl := q.is
  refine St.elim q fun h1 t1 μ1 H G _ => ?_
  exact ⟨.next,rfl,h1,t1,μ1,rfl,H,G.wide0,(a.on (t1 := t1) H G).lc,rfl⟩
theorem sl_next {t : X} {b : S} {y : V} {σ1 : List O} {q r : Res} (S1 : SX prog w W T t d ρ σ y σ1) (hy : truth y = some true) (S2 : SS prog w W T b d ρ σ1 q) (hq : q.fl = .nxt) (S3 : SL prog w W T t b d q.ρ q.σ r) : SL prog w W T t b d ρ σ r := by
  refine ⟨fun sc env A fr μ s a test body ct cb => while_once (wpAny_mono (S1.test _ _ _ _ _ _ a _ ct true hy) (fun c s1 q => ?_) fun _ _ q => q)⟩
  obtain rfl := q.is
  refine St.elim q fun h1 t1 μ1 H G _ => ?_
  rw [if_pos rfl]
  refine wpAny_mono (S2.all _ _ _ _ _ _ (a.on (t1 := t1) H G) _ cb) (fun f s2 q => ?_) fun _ _ q => q
  refine St.elim q fun h2 t2 μ2 H2 G2 zz => ?_
  obtain ⟨L2,fl⟩ := zz
  rw [hq] at fl
  cases fl
  refine codeAny_mono (S3.run _ _ _ _ _ _ ((a.on (t1 := t1) H G).go (t1 := t2) H2 L2) _ _ ct cb) fun r' s' q => ?_
  obtain ⟨f,rfl,q⟩ := q
  exact ⟨f,rfl,PS.from (PS.from q G2) G.wide0⟩
theorem sl_brk {t : X} {b : S} {y : V} {σ1 : List O} {q : Res} (S1 : SX prog w W T t d ρ σ y σ1) (hy : truth y = some true) (S2 : SS prog w W T b d ρ σ1 q) (hq : q.fl = .brk) : SL prog w W T t b d ρ σ ⟨.none,.nxt,q.ρ,q.σ⟩ := by
  refine ⟨fun sc env A fr μ s a test body ct cb => while_once (wpAny_mono (S1.test _ _ _ _ _ _ a _ ct true hy) (fun c s1 q => ?_) fun _ _ q => q)⟩
  obtain rfl := q.is
  refine St.elim q fun h1 t1 μ1 H G _ => ?_
  rw [if_pos rfl]
  refine wpAny_mono (S2.all _ _ _ _ _ _ (a.on (t1 := t1) H G) _ cb) (fun f s2 q => ?_) fun _ _ q => q
  refine St.elim q fun h2 t2 μ2 H2 G2 zz => ?_
  obtain ⟨L2,fl⟩ := zz
  rw [hq] at fl
  cases fl
  exact ⟨.next,rfl,h2,t2,μ2,rfl,H2,(G.wide0).trans G2,L2,rfl⟩
theorem sl_ret {t : X} {b : S} {y : V} {σ1 : List O} {q : Res} (S1 : SX prog w W T t d ρ σ y σ1) (hy : truth y = some true) (S2 : SS prog w W T b d ρ σ1 q) (hq : q.fl = .ret) : SL prog w W T t b d ρ σ q := by
  refine ⟨fun sc env A fr μ s a test body ct cb => while_once (wpAny_mono (S1.test _ _ _ _ _ _ a _ ct true hy) (fun c s1 q => ?_) fun _ _ q => q)⟩
  obtain rfl := q.is
  refine St.elim q fun h1 t1 μ1 H G _ => ?_
  rw [if_pos rfl]
  refine wpAny_mono (S2.all _ _ _ _ _ _ (a.on (t1 := t1) H G) _ cb) (fun f s2 q => ?_) fun _ _ q => q
  refine St.elim q fun h2 t2 μ2 H2 G2 zz => ?_
  obtain ⟨L2,fl⟩ := zz
  have fl' := fl
  rw [hq] at fl
  obtain ⟨v,rfl,rv⟩ := fl
  exact ⟨.ret v,rfl,h2,t2,μ2,rfl,H2,(G.wide0).trans G2,L2,fl'⟩
theorem ss_whl {t : X} {b : S} {r : Res} (S : SL prog w W T t b d ρ σ r) : SS prog w W T (.whl t b) d ρ σ r := by
  refine .mk0 (fun sc env A fr μ s a st c => ?_)
  refine i_whl c fun ct cb => ?_
  refine wpAny_While (codeAny_mono (S.run _ _ _ _ _ _ a _ _ ct cb) fun r' s' q => ?_)
  obtain ⟨f,rfl,q⟩ := q
  exact q
theorem letgo_ok {A : Around} {s : Shared} {I : Addr} {v : Value} (target : PySem.Expr) (hc : ∃ o T vs,s.heap.get? I = some o /\ o.cls = .type T /\ o.data = .fields vs /\ plainIt T = true) {Q : Unit -> Shared -> Prop} (h : Q () s) :
    wpAny (model prog w) A (letOwnedTupleGo target (.ref I) v) Q Fa s := by
  obtain ⟨o,T',vs,g,c,dd,p⟩ := hc
  unfold plainIt at p
  rw [Bool.not_eq_true'] at p
  have key : wpAny (model prog w) A (do
      let (.ref r,.ref a) := ((Value.ref I),v) | return
      let o ← load r
      match o.cls,o.data with
      | .type n,.fields vs =>
        if ["enumerate","zip","dict_itemiterator","dict_reverseitemiterator","odict_iterator","itertools.zip_longest","itertools.pairwise"].contains n && vs[0]? == some (rawInt a) then
          rule "for.unpacks-the-owned-tuple"
          updateField r 0 .none
      | _,_ => pure () : Sem Unit) Q Fa s := by
    cases v <;> first | exact wpAny_pure h | skip
    refine wpAny_bind (wpAny_load g ?_)
    rw [c,dd]
    dsimp only
    rw [p]
    exact wpAny_pure h
  cases target <;> first | exact wpAny_pure h | exact key
end
section
variable {prog : Program} {w : World} {W : Wd} {T : Tb} {P : Prog} {K : Frag} {mg mb : Str -> Option Value} {d : Nat} {ρ : List V} {σ σ' : List O} {x : V}
theorem si_done {tg : List Nat} {it : It} {b : S} (e : it.next σ = some none) : SI prog w W T tg it b d ρ σ ⟨.none,.nxt,ρ,σ⟩ := by
  refine ⟨fun sc env A fr μ0 μ s0 h1 h t I ext n G0 a hf nI iv target body ht cb => for_once (wpAny_mono (next_done a.here.a.handled (.head _) a.hp iv e) (fun r s1 q => ?_) fun _ _ q => q)⟩
  obtain ⟨rfl,h',t',rfl,k⟩ := q
  have nl : env.locals ≠ I := fun z => nI (z ▸ hf)
  exact ⟨.next,rfl,h',t',μ,rfl,a.hp.drop nI k,G0.drop ext n k,a.lc.drop nl k,rfl⟩
theorem si_turn {tg : List Nat} {it it' : It} {b : S} {y : V} {ρ' : List V} {q : Res} (e : it.next σ = some (some (y,it'))) (hs : stOne ρ tg y = some ρ') (S2 : SS prog w W T b d ρ' σ q)
    {sc : Sc} {env : Env} {A : Around} {fr μ0 μ : List Addr} {s0 : Shared} {h1 h : Heap} {t : Nat} {I : Addr} (G0 : Go (I :: fr) μ0 μ (I :: [env.locals]) h1 h) (a : At W T sc env A d (I :: fr) μ ρ σ { s0 with heap := h,toks := t })
    (hf : env.locals ∈ fr) (nI : I ∉ fr) (iv : ItAt prog w W (I :: fr) μ h I it) {target : PySem.Expr} {body : List Stmt} (ht : tgOf sc target tg = true) (cb : Css sc body b) {R : Result -> Shared -> Prop}
    (k : ∀ f h3 t3 μ3,Hp W (I :: fr) μ3 q.σ h3 -> Go (I :: fr) μ0 μ3 (I :: [env.locals]) h1 h3 -> Lc W (I :: fr) μ3 sc env q.ρ h3 -> FlR W (I :: fr) μ3 h3 q.fl q.v f -> ItAt prog w W (I :: fr) μ3 h3 I it' -> match (motive := Flow -> Prop) f with
        | .next | .cont => codeAny (model prog w) A (.forLoop target (.ref I) body [] env) R { s0 with heap := h3,toks := t3 }
        | .brk => R (.ok .next) { s0 with heap := h3,toks := t3 }
        | .ret v => R (.ok (.ret v)) { s0 with heap := h3,toks := t3 }) :
    codeAny (model prog w) A (.forLoop target (.ref I) body [] env) R { s0 with heap := h,toks := t } := by
  have nl : I ≠ env.locals := fun z => nI (z ▸ hf)
  have nc : I ∉ [env.locals] := by simpa using nl
  refine for_once (wpAny_mono (next_item a.here.a.handled (.head _) a.hp iv e) (fun r s1 q => ?_) fun _ _ q => q)
  obtain ⟨v,h2,t2,rfl,rfl,H2,G2,rv,iv2⟩ := q
  have a2 : At W T sc env A d (I :: fr) μ ρ σ { s0 with heap := h2,toks := t2 } := ⟨a.here,H2,a.lc.on G2 (.tail _ hf) (by simpa using nl.symm)⟩
  refine letgo_ok target iv2.cell ?_
  refine wpAny_mono (target_ok a2 ht rv hs) (fun _ s3 q => ?_) fun _ _ q => q
  refine St.elim q fun h3 t3 μ3 H3 G3 L3 => ?_
  have iv3 := iv2.on (.head _) nc G3
  refine wpAny_mono (S2.all _ _ _ _ _ _ (a2.go (t1 := t3) H3 L3) _ cb) (fun f s4 q => ?_) fun _ _ q => q
  refine St.elim q fun h4 t4 μ4 H4 G4 zz => ?_
  obtain ⟨L4,fl⟩ := zz
  have w1 : ∀ a ∈ [I],a ∈ I :: [env.locals] := fun a ha => by simp at ha; simp [ha]
  have w2 : ∀ a ∈ [env.locals],a ∈ I :: [env.locals] := fun a ha => by simp at ha; simp [ha]
  exact k f h4 t4 μ4 H4 (((G0.trans (G2.wide w1)).trans (G3.wide w2)).trans (G4.wide w2)) L4 fl (iv3.on (.head _) nc G4)
theorem si_next {tg : List Nat} {it it' : It} {b : S} {y : V} {ρ' : List V} {q r : Res} (e : it.next σ = some (some (y,it'))) (hs : stOne ρ tg y = some ρ') (S2 : SS prog w W T b d ρ' σ q) (hq : q.fl = .nxt) (S3 : SI prog w W T tg it' b d q.ρ q.σ r) :
    SI prog w W T tg it b d ρ σ r := by
  refine ⟨fun sc env A fr μ0 μ s0 h1 h t I ext n G0 a hf nI iv target body ht cb => si_turn e hs S2 G0 a hf nI iv ht cb fun f h3 t3 μ3 H3 G3 L3 fl iv3 => ?_⟩
  rw [hq] at fl
  cases fl
  exact S3.run _ _ _ _ _ _ _ _ _ _ _ ext n G3 ⟨a.here,H3,L3⟩ hf nI iv3 _ _ ht cb
theorem si_brk {tg : List Nat} {it it' : It} {b : S} {y : V} {ρ' : List V} {q : Res} (e : it.next σ = some (some (y,it'))) (hs : stOne ρ tg y = some ρ') (S2 : SS prog w W T b d ρ' σ q) (hq : q.fl = .brk) :
    SI prog w W T tg it b d ρ σ ⟨.none,.nxt,q.ρ,q.σ⟩ := by
  refine ⟨fun sc env A fr μ0 μ s0 h1 h t I ext n G0 a hf nI iv target body ht cb => si_turn e hs S2 G0 a hf nI iv ht cb fun f h3 t3 μ3 H3 G3 L3 fl iv3 => ?_⟩
  rw [hq] at fl
  cases fl
  exact ⟨.next,rfl,h3,t3,μ3,rfl,H3.cool,G3.cool ext n,L3.cool,rfl⟩
theorem si_ret {tg : List Nat} {it it' : It} {b : S} {y : V} {ρ' : List V} {q : Res} (e : it.next σ = some (some (y,it'))) (hs : stOne ρ tg y = some ρ') (S2 : SS prog w W T b d ρ' σ q) (hq : q.fl = .ret) :
    SI prog w W T tg it b d ρ σ q := by
  refine ⟨fun sc env A fr μ0 μ s0 h1 h t I ext n G0 a hf nI iv target body ht cb => si_turn e hs S2 G0 a hf nI iv ht cb fun f h3 t3 μ3 H3 G3 L3 fl iv3 => ?_⟩
  rw [hq] at fl
  obtain ⟨v,rfl,rv⟩ := fl
  exact ⟨.ret v,rfl,h3,t3,μ3,rfl,H3.cool,G3.cool ext n,L3.cool,by rw [hq]; exact ⟨v,rfl,rv.less⟩⟩
set_option tactic.hygienic false in
theorem noFold {e : PySem.Expr} (h : isSet e = false) (env : Env) (x : Value) : foldedSetIterable e env x = pure x := by
  cases e <;> first | rfl | (cases h)
theorem ss_forr {tg : List Nat} {e : X} {b : S} {it : It} {σ1 : List O} {r : Res} (S : SX prog w W T e d ρ σ x σ1) (hi : itOf σ1 x = some it) (S2 : SI prog w W T tg it b d ρ σ1 r) : SS prog w W T (.forr tg e b) d ρ σ r := by
  refine .mk0 (fun sc env A fr μ s a st c => ?_)
  refine i_forr c fun ht ci hs cb => ?_
  refine wpAny_For (wpAny_mono (S.one _ _ _ _ _ _ a _ ci) (fun v s1 q => ?_) fun _ _ q => q) (fun x => noFold hs _ _)
  refine St.elim q fun h1 t1 μ1 H G rv => ?_
  have a1 := a.on (t1 := t1) H G
  refine wpAny_mono (iter_ok a1.hp rv hi) (fun u s2 q => ?_) fun _ _ q => q
  obtain ⟨ob,rfl,rfl,hfr,iv⟩ := q
  have ext : ∀ b o,h1.get? b = some o -> (h1.push ob).get? b = some o := fun _ _ q => Heap.get?_push_of_some _ q
  have n : h1.get? h1.objs.size = none := none_of_size (Nat.le_refl _)
  have nI : h1.objs.size ∉ fr := fun q => by obtain ⟨o,x⟩ := a1.hp.frin _ q; rw [n] at x; cases x
  have g : (h1.push ob).get? h1.objs.size = some ob := Heap.get?_push_size _ hfr
  have a2 : At W T sc env A d (h1.objs.size :: fr) μ1 ρ σ1 { s with heap := h1.push ob,toks := t1 } := a1.hot (t1 := t1) ext n ⟨_,g⟩
  refine codeAny_mono (S2.run sc env A fr μ1 μ1 { s with heap := h1,toks := t1 } (h1.push ob) (h1.push ob) t1 h1.objs.size ext n .refl a2 a.here.f nI iv _ _ ht cb) fun r' s' q => ?_
  obtain ⟨f,rfl,q⟩ := q
  exact PS.from q G.wide0
theorem small_bounds {i : Int} (h : small i = true) : -(2 ^ 62) <= i /\ i < 2 ^ 62 := by
  have h : i.natAbs < 4611686018427387904 := of_decide_eq_true h
  omega
theorem range_iter {A : Around} {fr μ : List Addr} {s : Shared} {a b : Int} {t u v : Tok} {r : Addr} (ha : small a = true) (hb : small b = true) (hr : IsRange s.heap r a b 1 t u v) :
    wpAny (model prog w) A (pyIter (.ref r)) (fun u s' => ∃ ob,u = .ref s.heap.objs.size /\ s' = { s with heap := s.heap.push ob } /\ ob.isFreed = false /\ ItAt prog w W (s.heap.objs.size :: fr) μ (s.heap.push ob) s.heap.objs.size (.vals (rangeV a b))) Fa s := by
  obtain ⟨a1,a2⟩ := small_bounds ha
  obtain ⟨b1,b2⟩ := small_bounds hb
  have hn : Builtin.Range.rangeSize a b 1 = (((b - a).toNat : Nat) : Int) := by rw [rangeSize_one]; split <;> omega
  refine wpAny_pyIter_range hr (small_one a1 a2 b1 b2) ⟨_,rfl,rfl,rfl,.vals (i := 0) (fun A hA => Walks.range hA s.heap.objs.size a 1 (b - a).toNat) ?_ ?_ (fun b hb => .inl (by simpa using hb)) (fun i h st => ⟨_,_,_,st,rfl,rfl,by decide⟩) fun j x q v p => ?_⟩
  · rw [hn]
    show (s.heap.push _).get? _ = _
    rw [Heap.get?_push_size _ rfl]
    simp [rawInt]
  · simp [rangeV]
  · obtain ⟨t,rfl⟩ := p
    rw [rangeV,List.getElem?_map] at q
    obtain ⟨k,q1,rfl⟩ := Option.map_eq_some_iff.mp q
    have : k = j := by
      obtain ⟨l1,l2⟩ := List.getElem?_eq_some_iff.mp q1
      simpa using l2.symm
    subst this
    have e : a + ((0 + k : Nat) : Int) * 1 = a + k := by push_cast; omega
    rw [e]; exact .int _ _
theorem range_call1 {A : Around} {fr μ : List Addr} {s : Shared} {b : Int} {u : Tok} (H : Hp W fr μ σ s.heap) (hb : small b = true) {Q : Value -> Shared -> Prop}
    (k : ∀ (h1 : Heap) (t1 : Nat) (I : Addr) (ob : Obj),(∀ b o,s.heap.get? b = some o -> h1.get? b = some o) -> h1.get? I = none -> ob.isFreed = false -> I = h1.objs.size -> ItAt prog w W (I :: fr) μ (h1.push ob) I (.vals (rangeV 0 b)) -> Q (.ref I) { s with heap := h1.push ob,toks := t1 }) :
    wpAny (model prog w) A (call (.type "range") [.int b u]) (fun r s1 => wpAny (model prog w) A (pyIter r) Q Fa s1) Fa s := by
  refine call_range_1 ?_
  refine wpAny_mono (range_iter (W := W) (fr := fr) (μ := μ) (s := { s with heap := _,toks := _ }) (a := 0) (b := b) rfl hb (IsRange.new s.heap 0 b 1 s.toks u (s.toks + 1))) (fun u s2 q => ?_) fun _ _ q => q
  obtain ⟨ob,rfl,rfl,hfr,iv⟩ := q
  exact k _ _ _ ob (fun _ _ q => Heap.get?_push_of_some _ q) (none_of_size (Nat.le_refl _)) hfr rfl iv
theorem range_call2 {A : Around} {fr μ : List Addr} {s : Shared} {a b : Int} {t u : Tok} (H : Hp W fr μ σ s.heap) (ha : small a = true) (hb : small b = true) {Q : Value -> Shared -> Prop}
    (k : ∀ (h1 : Heap) (t1 : Nat) (I : Addr) (ob : Obj),(∀ b o,s.heap.get? b = some o -> h1.get? b = some o) -> h1.get? I = none -> ob.isFreed = false -> I = h1.objs.size -> ItAt prog w W (I :: fr) μ (h1.push ob) I (.vals (rangeV a b)) -> Q (.ref I) { s with heap := h1.push ob,toks := t1 }) :
    wpAny (model prog w) A (call (.type "range") [.int a t,.int b u]) (fun r s1 => wpAny (model prog w) A (pyIter r) Q Fa s1) Fa s := by
  refine call_range_2 ?_
  refine wpAny_mono (range_iter (W := W) (fr := fr) (μ := μ) (s := { s with heap := _,toks := _ }) (a := a) (b := b) ha hb (IsRange.new s.heap a b 1 t u s.toks)) (fun u s2 q => ?_) fun _ _ q => q
  obtain ⟨ob,rfl,rfl,hfr,iv⟩ := q
  exact k _ _ _ ob (fun _ _ q => Heap.get?_push_of_some _ q) (none_of_size (Nat.le_refl _)) hfr rfl iv
theorem ss_forR (B : Amb w W T P K mg mb) {tg : List Nat} {e1 e2 : X} {b : S} {p q : Int} {σ1 σ2 : List O} {r : Res} (S1 : SX prog w W T e1 d ρ σ (.int p) σ1) (S2 : SX prog w W T e2 d ρ σ1 (.int q) σ2) (hp : small p = true) (hq : small q = true)
    (S3 : SI prog w W T tg (.vals (rangeV p q)) b d ρ σ2 r) : SS prog w W T (.forR tg e1 e2 b) d ρ σ r := by
  have fin : ∀ {sc : Sc} {env : Env} {A : Around} {fr μ μ2 : List Addr} {s : Shared} {h2 : Heap} {t2 : Nat},At W T sc env A d fr μ2 ρ σ2 { s with heap := h2,toks := t2 } -> Go fr μ μ2 [] s.heap h2 -> ∀ {target : PySem.Expr} {body : List Stmt},tgOf sc target tg = true -> Css sc body b →
      ∀ (h1 : Heap) (t1 : Nat) (I : Addr) (ob : Obj),(∀ b o,h2.get? b = some o -> h1.get? b = some o) -> h1.get? I = none -> ob.isFreed = false -> I = h1.objs.size -> ItAt prog w W (I :: fr) μ2 (h1.push ob) I (.vals (rangeV p q)) →
      codeAny (model prog w) A (.forLoop target (.ref I) body [] env) (fun r' s' => match r' with | .ok f => PS W fr μ sc env s r f s' | .error e => cameBackBy (model prog w) A env Fa e s') { s with heap := h1.push ob,toks := t1 } := by
    intro sc env A fr μ μ2 s h2 t2 a2 G target body ht cb h1 t1 I ob ext n hfr hI iv
    have ext2 : ∀ b o,h2.get? b = some o -> (h1.push ob).get? b = some o := fun _ _ q => Heap.get?_push_of_some _ (ext _ _ q)
    have n2 : h2.get? I = none := by
      cases q : h2.get? I with
      | none => rfl
      | some o => rw [ext _ _ q] at n; cases n
    have nI : I ∉ fr := fun q => by obtain ⟨o,x⟩ := a2.hp.frin _ q; rw [n2] at x; cases x
    have g : (h1.push ob).get? I = some ob := by rw [hI]; exact Heap.get?_push_size _ hfr
    have a3 : At W T sc env A d (I :: fr) μ2 ρ σ2 { s with heap := h1.push ob,toks := t1 } := a2.hot (t1 := t1) ext2 n2 ⟨_,g⟩
    refine codeAny_mono (S3.run sc env A fr μ2 μ2 { s with heap := h2,toks := t2 } (h1.push ob) (h1.push ob) t1 I ext2 n2 .refl a3 a2.here.f nI iv _ _ ht cb) fun r' s' q => ?_
    obtain ⟨f,rfl,q⟩ := q
    exact PS.from q G.wide0
  refine .mk0 (fun sc env A fr μ s a st c => ?_)
  refine i_forR c (fun hb ht hn c2 hst cb hz => ?_) fun hb ht hn c1 c2 hst1 hst2 cb => ?_
  · obtain ⟨e,rfl⟩ := S1.ci 0 (z_of hz)
    cases e
    refine wpAny_For (Call_ (a.name_b B B.bRange hb (by decide) ?_)) (fun x => noFold rfl _ _)
    rw [starEach_cons hst]
    refine callWith_type1 (wpAny_mono (S2.one _ _ _ _ _ _ a _ c2) (fun v s1 q => ?_) fun _ _ q => q)
    refine St.elim q fun h1 t1 μ1 H G rv => ?_
    refine rp_int rv fun u => ?_
    have a1 := a.on (t1 := t1) H G
    exact range_call1 (s := { s with heap := h1,toks := t1 }) (fr := fr) (μ := μ1) H hq fun h2 t2 I ob ext n hfr hI iv => fin a1 G ht cb h2 t2 I ob ext n hfr hI iv
  · refine wpAny_For (Call_ (a.name_b B B.bRange hb (by decide) ?_)) (fun x => noFold rfl _ _)
    rw [starEach_cons hst1,starEach_cons hst2]
    refine PyProof.Rows.callWith_type rfl (Calls.evalArgs_plain (Calls.spliced_cons (wpAny_mono (S1.one _ _ _ _ _ _ a _ c1) (fun v s1 q => ?_) fun _ _ q => q)))
    refine St.elim q fun h1 t1 μ1 H G rv => ?_
    refine rp_int rv fun u => ?_
    have a1 := a.on (t1 := t1) H G
    refine Calls.spliced_cons (wpAny_mono (S2.one _ _ _ _ _ _ a1 _ c2) (fun v s1 q => Calls.spliced_nil ?_) fun _ _ q => q)
    refine St.elim q fun h2 t2 μ2 H2 G2 rv2 => ?_
    refine rp_int rv2 fun u2 => ?_
    have a2 := a1.on (t1 := t2) H2 G2
    exact range_call2 (s := { s with heap := h2,toks := t2 }) (fr := fr) (μ := μ2) H2 hp hq fun h3 t3 I ob ext n hfr hI iv => fin (s := s) (h2 := h2) (t2 := t2) a2 (G.trans G2) ht cb h3 t3 I ob ext n hfr hI iv
end
section
variable {W : Wd} {fr big μ μ' ch ch' : List Addr} {h h0 h1 h' : Heap} {σ σ' : List O}
theorem mp_shrink (sub : ∀ a ∈ fr,a ∈ big) (k : ∀ b o,b ∉ big -> h.get? b = some o -> h'.get? b = some o) : Mp big μ h fr μ h' := ⟨fun b o e n1 n2 => ⟨k b o n1 e,fun q => n1 (sub _ q),n2⟩,fun _ _ e => e⟩
theorem Reps.shrink (sub : ∀ a ∈ fr,a ∈ big) (k : ∀ b o,b ∉ big -> h.get? b = some o -> h'.get? b = some o) {v : List Value} {x : List V} (r : Reps W big μ h v x) : Reps W fr μ h' v x := r.map (mp_shrink sub k)
theorem RepD.shrink (sub : ∀ a ∈ fr,a ∈ big) (k : ∀ b o,b ∉ big -> h.get? b = some o -> h'.get? b = some o) {v : List DictEntry} {x : List (List Nat × V)} (r : RepD W big μ h v x) : RepD W fr μ h' v x := r.map (mp_shrink sub k)
theorem Hp.shrink (H : Hp W big μ σ h) (sub : ∀ a ∈ fr,a ∈ big) (k : ∀ b o,(b ∉ big \/ b ∈ fr) -> h.get? b = some o -> h'.get? b = some o) : Hp W fr μ σ h' := by
  refine ⟨fun b o q => k b o (.inl fun z => ?_) (H.keep b o q),H.len,fun i a o q1 q2 => ?_,H.base,fun b hb => H.frb b (sub b hb),H.nodup,fun b hb => H.apart b (sub b hb),fun b hb => ?_⟩
  · have := H.frb b z; rw [q] at this; cases this
  · have r := H.obj i a o q1 q2
    have na : a ∉ big := fun z => H.apart a z (List.mem_of_getElem? q1)
    cases r with
    | list q l r => exact .list (k _ _ (.inl na) q) l (r.shrink sub fun b o n => k b o (.inl n))
    | ns q l r => exact .ns (k _ _ (.inl na) q) l (r.shrink sub fun b o n => k b o (.inl n))
  · obtain ⟨o,x⟩ := H.frin b (sub b hb)
    exact ⟨o,k b o (.inr hb) x⟩
theorem Go.shrink (G : Go big μ μ' ch' h1 h) (e : ∀ b o,h0.get? b = some o -> h1.get? b = some o) (sub : ∀ a ∈ fr,a ∈ big) (n : ∀ b ∈ big,b ∉ fr -> h0.get? b = none) (hc : ∀ a ∈ ch',a ∈ fr -> a ∈ ch)
    (k : ∀ b o,(b ∉ big \/ b ∈ fr) -> h.get? b = some o -> h'.get? b = some o) : Go fr μ μ' ch h0 h' := by
  have nb : ∀ b o,h0.get? b = some o -> b ∉ big \/ b ∈ fr := fun b o q => by
    by_cases z : b ∈ fr
    · exact .inr z
    · exact .inl fun y => by rw [n b y z] at q; cases q
  refine ⟨G.pre,fun b o q n1 n2 => k _ _ (nb b o q) (G.kept b o (e b o q) (fun z => ?_) n2),fun a ha na => ?_,fun b hb nbc o q => k _ _ (.inr hb) (G.frs b (sub b hb) (fun z => nbc (hc b z hb)) o (e b o q)),fun b o q => ?_⟩
  · rcases nb b o q with y | y
    · exact y z
    · exact n1 y
  · cases q : h0.get? a with
    | none => rfl
    | some o => have := G.fresh a ha na; rw [e a o q] at this; cases this
  · obtain ⟨o',q'⟩ := G.alive b o (e b o q)
    exact ⟨o',k _ _ (nb b o q) q'⟩
theorem Go.wrOn {wr : List Addr} (hw : ∀ a ∈ wr,a ∈ fr) (k : ∀ b o,b ∉ wr -> h.get? b = some o -> h'.get? b = some o) (al : ∀ b ∈ wr,∃ o,h'.get? b = some o) : Go fr μ μ wr h h' := by
  refine ⟨List.prefix_refl _,fun b o q n1 _ => k b o (fun z => n1 (hw b z)) q,fun _ q n => absurd q n,fun b hb nb o q => k b o nb q,fun b o q => ?_⟩
  by_cases z : b ∈ wr
  · exact al b z
  · exact ⟨o,k b o z q⟩
theorem Hp.wrOn {wr : List Addr} (H : Hp W fr μ σ h) (hw : ∀ a ∈ wr,a ∈ fr) (k : ∀ b o,b ∉ wr -> h.get? b = some o -> h'.get? b = some o) (al : ∀ b ∈ wr,∃ o,h'.get? b = some o) : Hp W fr μ σ h' := by
  refine ⟨fun b o q => k b o (fun z => ?_) (H.keep b o q),H.len,fun i a o q1 q2 => ?_,H.base,H.frb,H.nodup,H.apart,fun b hb => ?_⟩
  · have := H.frb b (hw b z); rw [q] at this; cases this
  · refine (H.obj i a o q1 q2).on (ch := wr) (.wrOn hw k al) fun o q => k _ _ (fun z => H.apart a (hw a z) (List.mem_of_getElem? q1)) q
  · by_cases z : b ∈ wr
    · exact al b z
    · obtain ⟨o,x⟩ := H.frin b hb; exact ⟨o,k b o z x⟩
end
inductive SrcAt (prog : Program) (w : World) (W : Wd) (fr μ : List Addr) (h : Heap) (I : Addr) : List Addr -> Option Nat -> It -> Prop
  | plain {it : It} : ItAt prog w W fr μ h I it -> SrcAt prog w W fr μ h I [I] none it
  | enumL {J l : Addr} {items : Array Value} {k : Nat} {xs : List V} : (∃ old,IsEnum h I J k old) -> h.IsListIter J l k -> h.IsList l items -> I ≠ J -> l ∉ fr -> l ∉ μ -> l ≠ I -> l ≠ J -> Reps W fr μ h (items.toList.drop k) xs -> k <= items.size →
      SrcAt prog w W fr μ h I [I,J] (some k) (.vals xs)
  | enumR {J l : Addr} {k j : Nat} : (∃ old,IsEnum h I J k old) -> h.IsListIter J l k -> I ≠ J -> μ[j]? = some l -> SrcAt prog w W fr μ h I [I,J] (some k) (.ref j k)
section
variable {prog : Program} {w : World} {W : Wd} {fr μ μ' ch wr : List Addr} {h h' : Heap} {σ : List O} {I : Addr} {it : It} {en : Option Nat}
theorem SrcAt.on (x : SrcAt prog w W fr μ h I wr en it) (hw : ∀ a ∈ wr,a ∈ fr) (nc : ∀ a ∈ wr,a ∉ ch) (G : Go fr μ μ' ch h h') : SrcAt prog w W fr μ' h' I wr en it := by
  cases x with
  | plain x => exact .plain (x.on (hw _ (.head _)) (nc _ (.head _)) G)
  | enumL e li l ne n1 n2 n3 n4 rs hk =>
    obtain ⟨old,e⟩ := e
    obtain ⟨o,q,r⟩ := li
    obtain ⟨ol,ql,rl⟩ := l
    exact .enumL ⟨old,G.frs _ (hw _ (.head _)) (nc _ (.head _)) _ e⟩ ⟨o,G.frs _ (hw _ (.tail _ (.head _))) (nc _ (.tail _ (.head _))) o q,r⟩ ⟨ol,G.kept _ _ ql n1 n2,rl⟩ ne n1 (notin_app G ql n2) n3 n4 (rs.on G) hk
  | enumR e li ne hj =>
    obtain ⟨old,e⟩ := e
    obtain ⟨o,q,r⟩ := li
    exact .enumR ⟨old,G.frs _ (hw _ (.head _)) (nc _ (.head _)) _ e⟩ ⟨o,G.frs _ (hw _ (.tail _ (.head _))) (nc _ (.tail _ (.head _))) o q,r⟩ ne (get_app G.pre hj)
end
section
variable {prog : Program} {w : World} {W : Wd} {T : Tb} {P : Prog} {K : Frag} {mg mb : Str -> Option Value} {d : Nat} {ρ : List V} {σ σ' : List O} {x : V}
variable {A : Around} {fr μ wr : List Addr} {s : Shared} {I : Addr} {it it' : It} {en : Option Nat}
theorem src_done (hA : A.handled = none) (hw : ∀ a ∈ wr,a ∈ fr) (H : Hp W fr μ σ s.heap) (x : SrcAt prog w W fr μ s.heap I wr en it) (e : it.next σ = some none) :
    wpAny (model prog w) A (pyNext (.ref I)) (fun r s' => r = none /\ ∃ h' t',s' = { s with heap := h',toks := t' } /\ ∀ b o,b ∉ wr -> s.heap.get? b = some o -> h'.get? b = some o) Fa s := by
  cases x with
  | plain x =>
    refine wpAny_mono (next_done hA (hw _ (.head _)) H x e) (fun r s1 q => ?_) fun _ _ q => q
    obtain ⟨rfl,h',t',rfl,k⟩ := q
    exact ⟨rfl,h',t',rfl,fun b o nb q => k b o (by simpa using nb) q⟩
  | enumL en li ll ne n1 n2 n3 n4 rs hk =>
    rename_i J l items k xs
    cases xs with
    | cons => cases e
    | nil =>
      have len := rs.length
      simp only [List.length_drop,Array.length_toList,List.length_nil] at len
      have hk' : k = items.size := by omega
      subst hk'
      exact (WalksT.enumerate (prog := prog) (w := w) hA I J l ne n3 n4 items).done s _ _ ⟨en,li,ll⟩ fun h' tk kk => ⟨rfl,h',tk,rfl,kk⟩
  | enumR en li ne hj =>
    rename_i J l k j
    simp only [It.next] at e
    split at e
    · rename_i xs hx
      split at e
      · cases e
      · obtain ⟨hk',_⟩ := ite_some e
        refine o_list (H.obj _ _ _ hj hx) fun items n g sz rs => ?_
        have len := rs.length
        simp only [Array.length_toList] at len
        have hl : s.heap.IsList l items := ⟨_,g,rfl,n,rfl⟩
        have am := List.mem_of_getElem? hj
        have n3 : l ≠ I := fun q => H.apart I (hw _ (.head _)) (q ▸ am)
        have n4 : l ≠ J := fun q => H.apart J (hw _ (.tail _ (.head _))) (q ▸ am)
        have hk2 : k = items.size := by omega
        subst hk2
        exact (WalksT.enumerate (prog := prog) (w := w) hA I J l ne n3 n4 items).done s _ _ ⟨en,li,hl⟩ fun h' tk kk => ⟨rfl,h',tk,rfl,kk⟩
    · cases e
theorem drop_some {xs : List Value} {k : Nat} {v : Value} {r : List Value} (h : xs.drop k = v :: r) : xs[k]? = some v /\ xs.drop (k + 1) = r := by
  constructor
  · have := congrArg (·[0]?) h
    simpa using this
  · rw [← List.drop_drop,h]; rfl
theorem enum_item {J l : Addr} {items : Array Value} {k : Nat} {old v : Value} {y : V} (H : Hp W fr μ σ s.heap) (hI : I ∈ fr) (hJ : J ∈ fr) (he : IsEnum s.heap I J k old) (li : s.heap.IsListIter J l k) (hl : s.heap.IsList l items) (ne : I ≠ J) (hv : items[k]? = some v)
    (rv : Rep W fr μ s.heap v y) {target : PySem.Expr} (ht : isTup target = true) :
    wpAny (model prog w) A (pyNext (.ref I)) (fun r s1 => ∃ u,r = some u /\ wpAny (model prog w) A (letOwnedTupleGo target (.ref I) u) (fun _ s' => ∃ h' t',s' = { s with heap := h',toks := t' } /\ Hp W fr μ σ h' /\ Go fr μ μ [I,J] s.heap h' /\ Rep W fr μ h' u (.tup [.int k,y]) /\
      (∃ old,IsEnum h' I J ((k + 1 : Nat) : Int) old) /\ h'.IsListIter J l (k + 1)) Fa s1) Fa s := by
  have n : s.heap.get? s.heap.objs.size = none := none_of_size (Nat.le_refl _)
  have nfr : s.heap.objs.size ∉ fr := fun q => by obtain ⟨o,x⟩ := H.frin _ q; rw [n] at x; cases x
  have nμ : s.heap.objs.size ∉ μ := fun q => by obtain ⟨o,x⟩ := H.size_not q; rw [n] at x; cases x
  refine wpAny_pyNext_enum_item he li hl hv ne fun h1 eo li1 gt sz kk => ⟨_,rfl,?_⟩
  cases target <;> first | (cases ht) | skip
  refine wpAny_letOwnedTupleGo_enum eo fun h2 e2 sb => ?_
  have k2 : ∀ b o,b ∉ [I,J] -> s.heap.get? b = some o -> h2.get? b = some o := fun b o nb q => by
    simp only [List.mem_cons,List.not_mem_nil,or_false,not_or] at nb
    exact (sb.2 b nb.1).trans (kk b o nb.1 nb.2 q)
  have hw : ∀ a ∈ [I,J],a ∈ fr := fun a ha => by
    simp only [List.mem_cons,List.not_mem_nil,or_false] at ha
    rcases ha with rfl | rfl <;> assumption
  obtain ⟨oj,qj,rj⟩ := li1
  have qj2 : h2.get? J = some oj := (sb.2 J (Ne.symm ne)).trans qj
  have al : ∀ b ∈ [I,J],∃ o,h2.get? b = some o := fun b hb => by
    simp only [List.mem_cons,List.not_mem_nil,or_false] at hb
    rcases hb with rfl | rfl
    · exact ⟨_,e2⟩
    · exact ⟨_,qj2⟩
  have G : Go fr μ μ [I,J] s.heap h2 := .wrOn hw k2 al
  have nI : s.heap.objs.size ≠ I := fun q => nfr (q ▸ hI)
  have g2 : h2.get? s.heap.objs.size = some { cls := .type "tuple",data := .seq #[.int k s.toks,v] } := (sb.2 _ nI).trans gt
  refine ⟨h2,_,rfl,H.wrOn hw k2 al,G,.tup g2 ⟨rfl,rfl,rfl⟩ rfl nfr nμ (by show 2 <= maxLen; decide) (.cons (.int _ _) (.cons (rv.on G) .nil)),⟨v,?_⟩,⟨oj,qj2,rj⟩⟩
  have : ((k + 1 : Nat) : Int) = (k : Int) + 1 := by push_cast; rfl
  rw [this]; exact e2
theorem src_item (hA : A.handled = none) (hw : ∀ a ∈ wr,a ∈ fr) (H : Hp W fr μ σ s.heap) (x : SrcAt prog w W fr μ s.heap I wr en it) {y : V} (e : it.next σ = some (some (y,it'))) {target : PySem.Expr} (ht : en.isSome = true -> isTup target = true) :
    wpAny (model prog w) A (pyNext (.ref I)) (fun r s1 => ∃ u,r = some u /\ wpAny (model prog w) A (letOwnedTupleGo target (.ref I) u) (fun _ s' => ∃ h' t',s' = { s with heap := h',toks := t' } /\ Hp W fr μ σ h' /\ Go fr μ μ wr s.heap h' /\ Rep W fr μ h' u (enumV en y) /\
      SrcAt prog w W fr μ h' I wr (en.map (· + 1)) it') Fa s1) Fa s := by
  cases x with
  | plain x =>
    refine wpAny_mono (next_item hA (hw _ (.head _)) H x e) (fun r s1 q => ?_) fun _ _ q => q
    obtain ⟨v,h',t',rfl,rfl,H',G',r,x'⟩ := q
    exact ⟨v,rfl,letgo_ok target x'.cell ⟨h',t',rfl,H',G',r,.plain x'⟩⟩
  | enumL en li ll ne n1 n2 n3 n4 rs hk =>
    rename_i J l items k xs
    obtain ⟨old,en⟩ := en
    cases xs with
    | nil => cases e
    | cons z zs =>
      cases e
      have q0 := rs
      generalize hd : items.toList.drop k = vs at rs
      cases rs with
      | cons rv rs =>
        rename_i v vs
        obtain ⟨d1,d2⟩ := drop_some hd
        have lt : k < items.size := by
          have := (List.getElem?_eq_some_iff.mp d1).1; simpa using this
        refine wpAny_mono (enum_item H (hw _ (.head _)) (hw _ (.tail _ (.head _))) en li ll ne (by simpa using d1) rv (ht rfl)) (fun r s1 q => ?_) fun _ _ q => q
        obtain ⟨u,rfl,q⟩ := q
        refine ⟨u,rfl,wpAny_mono q (fun _ s2 q => ?_) fun _ _ q => q⟩
        obtain ⟨h',t',rfl,H',G',r,e',li'⟩ := q
        obtain ⟨ol,ql,rl⟩ := ll
        exact ⟨h',t',rfl,H',G',r,.enumL e' li' ⟨ol,G'.kept _ _ ql n1 n2,rl⟩ ne n1 n2 n3 n4 (by rw [d2]; exact rs.on G') lt⟩
  | enumR en li ne hj =>
    rename_i J l k j
    obtain ⟨old,en⟩ := en
    simp only [It.next] at e
    split at e
    · rename_i xs hx
      split at e
      · rename_i z hk
        cases e
        refine o_list (H.obj _ _ _ hj hx) fun items n g sz rs => ?_
        obtain ⟨v,hv,rv⟩ := rs.get hk
        have hl : s.heap.IsList l items := ⟨_,g,rfl,n,rfl⟩
        refine wpAny_mono (enum_item H (hw _ (.head _)) (hw _ (.tail _ (.head _))) en li hl ne (by simpa using hv) rv (ht rfl)) (fun r s1 q => ?_) fun _ _ q => q
        obtain ⟨u,rfl,q⟩ := q
        refine ⟨u,rfl,wpAny_mono q (fun _ s2 q => ?_) fun _ _ q => q⟩
        obtain ⟨h',t',rfl,H',G',r,e',li'⟩ := q
        exact ⟨h',t',rfl,H',G',r,.enumR e' li' ne hj⟩
      · obtain ⟨_,e⟩ := ite_some e; cases e
    · cases e
theorem src_self (x : SrcAt prog w W fr μ s.heap I wr en it) (hA : A.handled = none) {Q : Value -> Shared -> Prop} (h : Q (.ref I) s) : wpAny (model prog w) A (pyIter (.ref I)) Q Fa s := by
  cases x with
  | plain x =>
    cases x with
    | vals Wk st hn hf hc hr => exact (Wk A hA).self _ s _ _ st h
    | ref e li => exact wpAny_pyIter_listiter li h
  | enumL en li ll ne n1 n2 n3 n4 rs hk => obtain ⟨old,en⟩ := en; exact wpAny_pyIter_enum en h
  | enumR en li ne hj => obtain ⟨old,en⟩ := en; exact wpAny_pyIter_enum en h
end
section
variable {prog : Program} {w : World} {W : Wd} {T : Tb} {P : Prog} {K : Frag} {mg mb : Str -> Option Value} {d : Nat} {ρ : List V} {σ σ' : List O} {x : V}
theorem comp_once {A : Around} {env : Env} {s : Shared} {elt target iter : PySem.Expr} {ifs : List PySem.Expr} {scope : Scope} {pos : Pos} {it acc : Value} {R : Result -> Shared -> Prop}
    (h : wpAny (model prog w) A (pyNext it) (fun r s1 => match r with
      | none => R (.ok .next) s1
      | some v => wpAny (model prog w) A (letOwnedTupleGo target it v) (fun _ s1' => wpAny (model prog w) A (assign target env v) (fun _ s2 =>
          wpAny (model prog w) A (forIn ifs true fun c r => if r = true then do let ok ← isTrue c env (eval c env); pure (ForInStep.yield ok) else pure (ForInStep.yield r)) (fun ok s3 =>
            if ok = true then wpAny (model prog w) A (eval elt env) (fun x s4 => wpAny (model prog w) A (call (.builtin "list.append") [acc,x]) (fun _ s5 =>
              codeAny (model prog w) A (.compLoop (.ListComp elt [⟨target,iter,ifs,0⟩] scope pos) 0 it acc env) R s5) Fa s4) Fa s3
            else codeAny (model prog w) A (.compLoop (.ListComp elt [⟨target,iter,ifs,0⟩] scope pos) 0 it acc env) R s3) Fa s2) Fa s1') Fa s1) Fa s) :
    codeAny (model prog w) A (.compLoop (.ListComp elt [⟨target,iter,ifs,0⟩] scope pos) 0 it acc env) R s := by
  refine codeAny_of_tree ?_
  show wpAny _ A ((compTurn (.ListComp elt [⟨target,iter,ifs,0⟩] scope pos) 0 it acc env).onRaise (fun x => do noteFrame x env; theTreesLotGoes x)) _ _ s
  refine wpAny_noted ?_
  rw [compTurn_list]
  refine wpAny_bind (wpAny_standAt (wpAny_bind (wpAny_mono h (fun r s1 h1 => ?_) fun _ _ q => q.elim)))
  cases r with
  | none => exact wpAny_pure h1
  | some v =>
    refine wpAny_bind (wpAny_mono h1 (fun _ s1' h1' => ?_) fun _ _ q => q.elim)
    refine wpAny_bind (wpAny_mono h1' (fun _ s2 h2 => wpAny_bind (wpAny_mono h2 (fun ok s3 h3 => ?_) fun _ _ q => q.elim)) fun _ _ q => q.elim)
    cases ok with
    | false => exact wpAny_pure ⟨rfl,h3⟩
    | true =>
      exact wpAny_bind (wpAny_bind (wpAny_mono h3 (fun x s4 h4 => wpAny_bind (wpAny_mono h4 (fun _ s5 h5 => wpAny_pure (wpAny_pure ⟨rfl,h5⟩)) fun _ _ q => q.elim)) fun _ _ q => q.elim))
theorem cif_ok {c : X} {b : Bool} {σ1 : List O} {sc : Sc} {env : Env} {A : Around} {fr μ : List Addr} {s : Shared} (S : SX prog w W T c d ρ σ x σ1) (hb : truth x = some b) (a : At W T sc env A d fr μ ρ σ s) {ifs : List PySem.Expr} (cc : Cif sc ifs c) :
    wpAny (model prog w) A (forIn ifs true fun c r => if r = true then do let ok ← isTrue c env (eval c env); pure (ForInStep.yield ok) else pure (ForInStep.yield r)) (PB W fr μ s b σ1) Fa s := by
  refine i_cif cc (fun z => ?_) fun _ c => ?_
  · obtain ⟨rfl,rfl⟩ := S.cb true z
    cases hb
    rw [List.forIn_nil]
    exact wpAny_pure (St.here a.hp rfl)
  · rw [List.forIn_cons]
    simp only [if_true]
    refine wpAny_bind (wpAny_bind (wpAny_mono (S.test _ _ _ _ _ _ a _ c b hb) (fun ok s1 q => wpAny_pure ?_) fun _ _ q => q))
    simp only [List.forIn_nil]
    exact wpAny_pure q
theorem append_exact {A : Around} {s : Shared} {D : Addr} {items : Array Value} {n : Nat} {v : Value} {Q : Value -> Shared -> Prop} (g : s.heap.get? D = some (listOf items n)) (sz : items.size <= maxLen) (h : Q .none { s with heap := s.heap.update D (Obj.mapSeq fun xs => xs.push v) }) :
    wpAny (model prog w) A (call (.builtin "list.append") [.ref D,v]) Q Fa s :=
  call_meets F.slot_list_append (⟨_,g,rfl⟩ : s.TypeIs (.ref D) "list") F.entry_list_append (F.args_list_append_2 _ _) (list_append D items n v sz) ⟨g,h⟩
structure SK (prog : Program) (w : World) (W : Wd) (T : Tb) (en : Option Nat) (tg : List Nat) (it : It) (elt cond : X) (acc : List V) (d : Nat) (ρ : List V) (σ : List O) (x : V) (σ' : List O) : Prop where
  run : ∀ sc env A big μ0 μ (s0 : Shared) h1 h t I D wr items n,Go big μ0 μ (env.locals :: D :: wr) h1 h -> At W T sc env A d big μ ρ σ { s0 with heap := h,toks := t } -> (∀ a ∈ wr,a ∈ big) -> D ∈ big -> D ∉ wr -> env.locals ∉ wr -> env.locals ≠ D →
    SrcAt prog w W big μ h I wr en it -> h.get? D = some (listOf items n) -> items.size <= maxLen -> Reps W big μ h items.toList acc →
    ∀ target elte ifs iterE scope pos,tgOf sc target tg = true -> (en.isSome = true -> isTup target = true) -> Cx sc elte elt -> Cif sc ifs cond →
    codeAny (model prog w) A (.compLoop (.ListComp elte [⟨target,iterE,ifs,0⟩] scope pos) 0 (.ref I) (.ref D) env)
      (fun q s' => q = .ok .next /\ ∃ xs,x = .lst xs /\ ∃ h2 h' t' μ' items' n',s' = { s0 with heap := h',toks := t' } /\ Hp W big μ' σ' h2 /\ Go big μ0 μ' (env.locals :: D :: wr) h1 h2 /\ (∃ m,h2.Ns env.locals m) /\ h2.get? D = some (listOf items' n') /\ items'.size <= maxLen /\
        Reps W big μ' h2 items'.toList xs /\ (∀ b o,b ∉ wr -> h2.get? b = some o -> h'.get? b = some o)) { s0 with heap := h,toks := t }
variable {en : Option Nat} {tg : List Nat} {it it' : It} {elt cond : X} {acc : List V}
theorem sk_done (e : it.next σ = some none) : SK prog w W T en tg it elt cond acc d ρ σ (.lst acc) σ := by
  refine ⟨fun sc env A big μ0 μ s0 h1 h t I D wr items n G a hw hD nD nl nlD iv g sz rs target elte ifs iterE scope pos ht hen ce ci => comp_once (wpAny_mono (src_done a.here.a.handled hw a.hp iv e) (fun r s1 q => ?_) fun _ _ q => q)⟩
  obtain ⟨rfl,h',t',rfl,k⟩ := q
  obtain ⟨m,ns,_⟩ := a.lc.ns
  exact ⟨rfl,acc,rfl,h,h',t',μ,items,n,rfl,a.hp,G,⟨m,ns⟩,g,sz,rs,k⟩
theorem sk_turn {y : V} {ρ' : List V} {b : Bool} {z : V} {σ1 : List O} (e : it.next σ = some (some (y,it'))) (hs : stOne ρ tg (enumV en y) = some ρ') (S1 : SX prog w W T cond d ρ' σ z σ1) (hz : truth z = some b)
    {sc : Sc} {env : Env} {A : Around} {big μ0 μ : List Addr} {s0 : Shared} {h1 h : Heap} {t : Nat} {I D : Addr} {wr : List Addr} {items : Array Value} {n : Nat} (G : Go big μ0 μ (env.locals :: D :: wr) h1 h) (a : At W T sc env A d big μ ρ σ { s0 with heap := h,toks := t })
    (hw : ∀ a ∈ wr,a ∈ big) (hD : D ∈ big) (nD : D ∉ wr) (nl : env.locals ∉ wr) (nlD : env.locals ≠ D) (iv : SrcAt prog w W big μ h I wr en it) (g : h.get? D = some (listOf items n)) (rs : Reps W big μ h items.toList acc)
    {target elte iterE : PySem.Expr} {ifs : List PySem.Expr} {scope : Scope} {pos : Pos} (ht : tgOf sc target tg = true) (hen : en.isSome = true -> isTup target = true) (ci : Cif sc ifs cond) {R : Result -> Shared -> Prop}
    (k : ∀ h3 t3 μ3,Go big μ0 μ3 (env.locals :: D :: wr) h1 h3 -> At W T sc env A d big μ3 ρ' σ1 { s0 with heap := h3,toks := t3 } -> SrcAt prog w W big μ3 h3 I wr (en.map (· + 1)) it' -> h3.get? D = some (listOf items n) -> Reps W big μ3 h3 items.toList acc →
      if b = true then wpAny (model prog w) A (eval elte env) (fun x s4 => wpAny (model prog w) A (call (.builtin "list.append") [.ref D,x]) (fun _ s5 =>
              codeAny (model prog w) A (.compLoop (.ListComp elte [⟨target,iterE,ifs,0⟩] scope pos) 0 (.ref I) (.ref D) env) R s5) Fa s4) Fa { s0 with heap := h3,toks := t3 }
            else codeAny (model prog w) A (.compLoop (.ListComp elte [⟨target,iterE,ifs,0⟩] scope pos) 0 (.ref I) (.ref D) env) R { s0 with heap := h3,toks := t3 }) :
    codeAny (model prog w) A (.compLoop (.ListComp elte [⟨target,iterE,ifs,0⟩] scope pos) 0 (.ref I) (.ref D) env) R { s0 with heap := h,toks := t } := by
  have hl := a.here.f
  have w1 : ∀ a ∈ wr,a ∈ env.locals :: D :: wr := fun a ha => by simp [ha]
  have w2 : ∀ a ∈ [env.locals],a ∈ env.locals :: D :: wr := fun a ha => by simp at ha; simp [ha]
  have nc : ∀ a ∈ wr,a ∉ [env.locals] := fun a ha q => by simp at q; subst q; exact nl ha
  refine comp_once (wpAny_mono (src_item a.here.a.handled hw a.hp iv e hen) (fun r s1 q => ?_) fun _ _ q => q)
  obtain ⟨u,rfl,q⟩ := q
  refine wpAny_mono q (fun _ s2 q => ?_) fun _ _ q => q
  obtain ⟨h2,t2,rfl,H2,G2,ru,iv2⟩ := q
  have a2 : At W T sc env A d big μ ρ σ { s0 with heap := h2,toks := t2 } := ⟨a.here,H2,a.lc.on G2 hl nl⟩
  have g2 := G2.frs D hD nD _ g
  refine wpAny_mono (target_ok a2 ht ru hs) (fun _ s3 q => ?_) fun _ _ q => q
  refine St.elim q fun h3 t3 μ3 H3 G3 L3 => ?_
  have a3 := a2.go (t1 := t3) H3 L3
  have g3 := G3.frs D hD (by simpa using nlD.symm) _ g2
  have iv3 := iv2.on hw nc G3
  refine wpAny_mono (cif_ok S1 hz a3 ci) (fun ok s4 q => ?_) fun _ _ q => q
  obtain rfl := q.is
  refine St.elim q fun h4 t4 μ4 H4 G4 _ => ?_
  exact k h4 t4 μ4 (((G.trans (G2.wide w1)).trans (G3.wide w2)).trans G4.wide0) (a3.on (t1 := t4) H4 G4) (iv3.on hw (fun _ _ q => absurd q List.not_mem_nil) G4) (G4.frs D hD (fun q => nomatch q) _ g3) (((rs.on G2).on G3).on G4)
theorem sk_skip {y : V} {ρ' : List V} {z : V} {σ1 : List O} (e : it.next σ = some (some (y,it'))) (hs : stOne ρ tg (enumV en y) = some ρ') (S1 : SX prog w W T cond d ρ' σ z σ1) (hz : truth z = some false) (S3 : SK prog w W T (en.map (· + 1)) tg it' elt cond acc d ρ' σ1 x σ') :
    SK prog w W T en tg it elt cond acc d ρ σ x σ' := by
  refine ⟨fun sc env A big μ0 μ s0 h1 h t I D wr items n G a hw hD nD nl nlD iv g sz rs target elte ifs iterE scope pos ht hen ce ci => sk_turn e hs S1 hz G a hw hD nD nl nlD iv g rs ht hen ci fun h3 t3 μ3 G3 a3 iv3 g3 rs3 => ?_⟩
  rw [if_neg Bool.false_ne_true]
  exact S3.run _ _ _ _ _ _ _ _ _ _ _ _ _ _ _ G3 a3 hw hD nD nl nlD iv3 g3 sz rs3 _ _ _ _ _ _ ht (fun q => hen (by cases en <;> simp_all)) ce ci
theorem sk_take {y v : V} {ρ' : List V} {z : V} {σ1 σ2 : List O} (e : it.next σ = some (some (y,it'))) (hs : stOne ρ tg (enumV en y) = some ρ') (S1 : SX prog w W T cond d ρ' σ z σ1) (hz : truth z = some true) (S2 : SX prog w W T elt d ρ' σ1 v σ2) (hl : acc.length < maxLen)
    (S3 : SK prog w W T (en.map (· + 1)) tg it' elt cond (acc ++ [v]) d ρ' σ2 x σ') :
    SK prog w W T en tg it elt cond acc d ρ σ x σ' := by
  refine ⟨fun sc env A big μ0 μ s0 h1 h t I D wr items n G a hw hD nD nl nlD iv g sz rs target elte ifs iterE scope pos ht hen ce ci => sk_turn e hs S1 hz G a hw hD nD nl nlD iv g rs ht hen ci fun h3 t3 μ3 G3 a3 iv3 g3 rs3 => ?_⟩
  rw [if_pos rfl]
  refine wpAny_mono (S2.one _ _ _ _ _ _ a3 _ ce) (fun u s4 q => ?_) fun _ _ q => q
  refine St.elim q fun h4 t4 μ4 H4 G4 ru => ?_
  have a4 := a3.on (t1 := t4) H4 G4
  have g4 := G4.frs D hD (fun q => nomatch q) _ g3
  have iv4 := iv3.on hw (fun _ _ q => absurd q List.not_mem_nil) G4
  have rs4 := rs3.on G4
  have len := rs4.length
  simp only [Array.length_toList] at len
  refine append_exact (s := { s0 with heap := h4,toks := t4 }) g4 sz ?_
  have g5 := IsL.update (n := n) g4 (fun xs => xs.push u)
  have ne : ∀ b,b ≠ D -> (h4.update D (Obj.mapSeq fun xs => xs.push u)).get? b = h4.get? b := fun b q => Heap.get?_update_ne _ _ _ _ q
  have G5 : Go big μ4 μ4 [D] h4 (h4.update D (Obj.mapSeq fun xs => xs.push u)) := .frTurn (.head _) hD ne ⟨_,g5⟩
  have H5 := H4.frTurn hD ne ⟨_,g5⟩
  have w3 : ∀ a ∈ [D],a ∈ env.locals :: D :: wr := fun a ha => by simp at ha; simp [ha]
  have a5 : At W T sc env A _ big μ4 ρ' σ2 { s0 with heap := h4.update D (Obj.mapSeq fun xs => xs.push u),toks := t4 } := ⟨a.here,H5,a4.lc.on G5 a.here.f (by simpa using nlD)⟩
  refine S3.run _ _ _ _ _ _ _ _ _ _ _ _ _ _ _ ((G3.trans G4.wide0).trans (G5.wide w3)) a5 hw hD nD nl nlD (iv4.on hw (fun b hb q => by simp at q; subst q; exact nD hb) G5) g5 (by rw [Array.size_push]; omega) (by rw [Array.toList_push]; exact (rs4.on G5).append (.cons (ru.on G5) .nil)) _ _ _ _ _ _ ht (fun q => hen (by cases en <;> simp_all)) ce ci
end
section
variable {prog : Program} {w : World} {W : Wd} {fr μ μ' wr : List Addr} {h h1 : Heap} {σ : List O} {I D : Addr} {it : It} {en : Option Nat}
theorem ItAt.hot (x : ItAt prog w W fr μ h I it) (e : ∀ b o,h.get? b = some o -> h1.get? b = some o) (n : h.get? D = none) (hI : I ∈ fr) : ItAt prog w W (D :: fr) μ h1 I it := by
  cases x with
  | vals Wk st hn hf hc hr =>
    have ne : I ≠ D := fun z => by obtain ⟨o,_,_,q,_⟩ := hc _ _ st; rw [z,n] at q; cases q
    refine .vals Wk ((Wk {} rfl).frame _ _ _ st fun b hb o q => e b o q) hn (fun b hb => ?_) hc fun j x q v p => (hr j x q v p).hot e n
    rcases hf b hb with q | ⟨n1,n2,o,q⟩
    · exact .inl q
    · refine .inr ⟨fun z => ?_,n2,o,e _ _ q⟩
      rcases List.mem_cons.mp z with z | z
      · rw [z,n] at q; cases q
      · exact n1 z
  | ref ei li =>
    obtain ⟨o,q,r⟩ := li
    exact .ref ei ⟨o,e _ _ q,r⟩
theorem SrcAt.hot (x : SrcAt prog w W fr μ h I wr en it) (e : ∀ b o,h.get? b = some o -> h1.get? b = some o) (n : h.get? D = none) (hw : ∀ a ∈ wr,a ∈ fr) : SrcAt prog w W (D :: fr) μ h1 I wr en it := by
  cases x with
  | plain x => exact .plain (x.hot e n (hw _ (.head _)))
  | enumL en li ll ne n1 n2 n3 n4 rs hk =>
    obtain ⟨old,en⟩ := en
    obtain ⟨o,q,r⟩ := li
    obtain ⟨ol,ql,rl⟩ := ll
    refine .enumL ⟨old,e _ _ en⟩ ⟨o,e _ _ q,r⟩ ⟨ol,e _ _ ql,rl⟩ ne (fun z => ?_) n2 n3 n4 (rs.hot e n) hk
    rcases List.mem_cons.mp z with z | z
    · rw [z,n] at ql; cases ql
    · exact n1 z
  | enumR en li ne hj =>
    obtain ⟨old,en⟩ := en
    obtain ⟨o,q,r⟩ := li
    exact .enumR ⟨old,e _ _ en⟩ ⟨o,e _ _ q,r⟩ ne hj
end
section
variable {prog : Program} {w : World} {W : Wd} {T : Tb} {P : Prog} {K : Frag} {mg mb : Str -> Option Value} {d : Nat} {ρ : List V} {σ σ' : List O} {x : V}
theorem inner_ok {s : Scope} (h : innerOk s = true) : s.kind = .function /\ (∀ x ∈ s.names,x.2 = .local \/ x.2 = .globalImplicit) /\ (s.names.map (·.1)).Nodup := by
  unfold innerOk at h
  simp only [Bool.and_eq_true,beq_iff_eq,List.all_eq_true,Bool.or_eq_true,decide_eq_true_eq] at h
  exact ⟨h.1.1,h.1.2,h.2⟩
theorem lookup_nodup {l : List (Str × NameKind)} (nd : (l.map (·.1)).Nodup) {p : Str × NameKind} (hp : p ∈ l) : l.lookup p.1 = some p.2 := by
  induction l with
  | nil => cases hp
  | cons q l ih =>
    obtain ⟨a,b⟩ := q
    rw [List.lookup_cons]
    rcases List.mem_cons.mp hp with rfl | hp
    · simp
    · have : p.1 ≠ a := fun z => (List.nodup_cons.mp nd).1 (by show a ∈ _; rw [← z]; exact List.mem_map_of_mem hp)
      have : (p.1 == a) = false := by simpa using this
      rw [this]
      exact ih (List.nodup_cons.mp nd).2 hp
theorem inner_env {sc : Sc} {env : Env} (E : EnvOk T sc env) {s : Scope} (hin : innerOk s = true) {C : Addr} {q : Str} {cells : List (Str × Addr)} {f : Option Addr} {cd : Value} {fm : Option Addr} :
    EnvOk T (sc.inner s) { scope := s,locals := C,globals := env.globals,cells := cells,qual := q,func := f,code := cd,frame := fm,builtins := env.builtins } := by
  obtain ⟨h1,h2,h3⟩ := inner_ok hin
  refine ⟨rfl,h1,E.globals,E.builtins,fun x hx => ?_,?_,E.fns,E.clss,E.globs⟩
  · obtain ⟨p,hp,rfl⟩ := List.mem_map.mp hx
    obtain ⟨hp,hk⟩ := List.mem_filter.mp hp
    simp only [Bool.and_eq_true,beq_iff_eq] at hk
    have := lookup_nodup h3 hp
    rw [hk.1] at this
    exact this
  · exact h3.sublist ((List.filter_sublist).map _)
theorem comp_tail {en : Option Nat} {tg : List Nat} {it : It} {elt cond : X} {n0 : Nat} (K : SK prog w W T en tg it elt cond [] d (List.replicate n0 .undef) σ x σ') {sc : Sc} {env : Env} {A : Around} {fr μ wr : List Addr} {s : Shared} {hs : Heap} {ts : Nat} {I : Addr}
    (a : At W T sc env A d fr μ ρ σ s) (ext : ∀ b o,s.heap.get? b = some o -> hs.get? b = some o) (hw : ∀ a ∈ wr,s.heap.get? a = none) (iv : SrcAt prog w W (wr ++ fr) μ hs I wr en it) (Hs : Hp W (wr ++ fr) μ σ hs)
    {sco : Scope} (hin : innerOk sco = true) (hn0 : n0 = (sc.inner sco).locs.length) {target elte iterE : PySem.Expr} {ifs : List PySem.Expr} {pos : Pos} (ht : tgOf (sc.inner sco) target tg = true) (hen : en.isSome = true -> isTup target = true) (ce : Cx (sc.inner sco) elte elt) (ci : Cif (sc.inner sco) ifs cond) :
    wpAny (model prog w) A (newList []) (fun acc s3 => wpAny (model prog w) A (newFunctionEnv sco env.globals [] [] env.qual none .none (some env)) (fun cenv s4 =>
      codeAny (model prog w) A (.compStart (.ListComp elte [⟨target,iterE,ifs,0⟩] sco pos) 0 (.ref I) acc { cenv with scope := sco }) (fun r s' => ∃ m,s'.heap.Ns cenv.locals m /\ ∀ h',Heap.SameBut cenv.locals s'.heap h' →
          match r with | .ok _ => PE W fr μ s x σ' acc { s' with heap := h' } | .error xe => wpAny (model prog w) A (passOn "comprehension.variables-let-go" xe { cenv with scope := sco }) (PE W fr μ s x σ') Fa { s' with heap := h' }) s4) Fa s3) Fa { s with heap := hs,toks := ts } := by
  obtain ⟨hk,hnm,hnd⟩ := inner_ok hin
  refine wpAny_newList ?_ (by show 0 <= _; exact Nat.zero_le _)
  refine wpAny_newFunctionEnv (fun y hy q => ?_) (fun y hy => nomatch hy) (fun h3 ns sb => ?_) hk
  · rcases hnm y hy with z | z <;> rw [z] at q <;> cases q
  generalize hh2 : hs.push { cls := .type "list",data := .seq ([] : List Value).toArray } = h2 at ns sb
  have extD : ∀ b o,hs.get? b = some o -> h2.get? b = some o := fun b o q => hh2 ▸ Heap.get?_push_of_some _ q
  have nD : hs.get? hs.objs.size = none := none_of_size (Nat.le_refl _)
  have gD : h2.get? hs.objs.size = some (listOf #[] 0) := hh2 ▸ Heap.get?_push_size _ rfl
  have nC : h2.get? h2.objs.size = none := none_of_size (Nat.le_refl _)
  have extC : ∀ b o,h2.get? b = some o -> h3.get? b = some o := fun b o q => by
    have nb : b ≠ h2.objs.size := fun z => by rw [z,nC] at q; cases q
    exact (sb.2 b nb).trans (Heap.get?_push_of_some _ q)
  have aC : ∃ o,h3.get? h2.objs.size = some o := by obtain ⟨o,_,_,q,_⟩ := ns; exact ⟨o,q⟩
  have H2 : Hp W (hs.objs.size :: (wr ++ fr)) μ σ h2 := Hs.hot extD nD ⟨_,gD⟩
  have H3 : Hp W (h2.objs.size :: hs.objs.size :: (wr ++ fr)) μ σ h3 := H2.hot extC nC aC
  have sub0 : ∀ a ∈ wr,a ∈ wr ++ fr := fun a ha => List.mem_append_left _ ha
  have iv3 := (iv.hot extD nD sub0).hot extC nC fun a ha => .tail _ (sub0 a ha)
  have gD3 := extC _ _ gD
  have nDC : h2.objs.size ≠ hs.objs.size := fun z => by rw [← z,nC] at gD; cases gD
  have exw : ∀ a ∈ wr,∃ o,hs.get? a = some o := fun a ha => Hs.frin a (sub0 a ha)
  have nDw : hs.objs.size ∉ wr := fun z => by obtain ⟨o,q⟩ := exw _ z; rw [nD] at q; cases q
  have nCw : h2.objs.size ∉ wr := fun z => by obtain ⟨o,q⟩ := exw _ z; rw [extD _ _ q] at nC; cases nC
  have E3 := inner_env (C := h2.objs.size) (q := env.qual) (cells := []) (f := none) (cd := env.code) (fm := env.frame) a.here.e hin
  have a3 : At W T (sc.inner sco) { scope := sco,locals := h2.objs.size,globals := env.globals,cells := [],qual := env.qual,func := none,code := env.code,frame := env.frame,builtins := env.builtins } A d (h2.objs.size :: hs.objs.size :: (wr ++ fr)) μ (List.replicate n0 .undef) σ { s with heap := h3,toks := ts + 0 } :=
    ⟨⟨E3,a.here.a,a.here.dl,.head _⟩,H3,⟨⟨_,ns,fun i y v e1 e2 e3 => absurd (List.eq_of_mem_replicate (List.mem_of_getElem? e2)) e3⟩,by rw [List.length_replicate]; exact hn0⟩⟩
  have run := K.run _ _ _ _ _ _ s h3 h3 (ts + 0) I hs.objs.size wr #[] 0 .refl a3 (fun a ha => .tail _ (.tail _ (sub0 a ha))) (.tail _ (.head _)) nDw nCw nDC iv3 gD3 (Nat.zero_le _) .nil target elte ifs iterE sco pos ht hen ce ci
  have e1 : ∀ b o,s.heap.get? b = some o -> h3.get? b = some o := fun b o q => extC _ _ (extD _ _ (ext _ _ q))
  have nCs : s.heap.get? h2.objs.size = none := by
    cases q : s.heap.get? h2.objs.size with
    | none => rfl
    | some o => rw [extD _ _ (ext _ _ q)] at nC; cases nC
  have nDs : s.heap.get? hs.objs.size = none := by
    cases q : s.heap.get? hs.objs.size with
    | none => rfl
    | some o => rw [ext _ _ q] at nD; cases nD
  have sub : ∀ a ∈ fr,a ∈ h2.objs.size :: hs.objs.size :: (wr ++ fr) := fun a ha => .tail _ (.tail _ (List.mem_append_right _ ha))
  have ex : ∀ a ∈ fr,∃ o,s.heap.get? a = some o := a.hp.frin
  have nCf : h2.objs.size ∉ fr := fun z => by obtain ⟨o,q⟩ := ex _ z; rw [nCs] at q; cases q
  have nDf : hs.objs.size ∉ fr := fun z => by obtain ⟨o,q⟩ := ex _ z; rw [nDs] at q; cases q
  have nwf : ∀ a ∈ wr,a ∉ fr := fun a ha z => by obtain ⟨o,q⟩ := ex _ z; rw [hw a ha] at q; cases q
  have whole : codeAny (model prog w) A (.compLoop (.ListComp elte [⟨target,iterE,ifs,0⟩] sco pos) 0 (.ref I) (.ref hs.objs.size) { scope := sco,locals := h2.objs.size,globals := env.globals,cells := [],qual := env.qual,func := none,code := env.code,frame := env.frame,builtins := env.builtins })
      (fun r s' => ∃ m,s'.heap.Ns h2.objs.size m /\ ∀ h',Heap.SameBut h2.objs.size s'.heap h' →
          match r with | .ok _ => PE W fr μ s x σ' (.ref hs.objs.size) { s' with heap := h' } | .error xe => wpAny (model prog w) A (passOn "comprehension.variables-let-go" xe { scope := sco,locals := h2.objs.size,globals := env.globals,cells := [],qual := env.qual,func := none,code := env.code,frame := env.frame,builtins := env.builtins }) (PE W fr μ s x σ') Fa { s' with heap := h' }) { s with heap := h3,toks := ts + 0 } := by
    refine codeAny_mono run fun r s' q => ?_
    obtain ⟨rfl,xs,rfl,h4,h',t',μ',items',n',rfl,H4,G4,⟨m,o,es,ep,q1,q2⟩,g4,sz,rs,k⟩ := q
    refine ⟨m,⟨o,es,ep,k _ _ nCw q1,q2⟩,fun h5 sb5 => ?_⟩
    have kk : ∀ b o,b ∉ wr -> b ≠ h2.objs.size -> h4.get? b = some o -> h5.get? b = some o := fun b o n1 n2 q => (sb5.2 b n2).trans (k b o n1 q)
    have kf : ∀ b o,(b ∉ h2.objs.size :: hs.objs.size :: (wr ++ fr) \/ b ∈ fr) -> h4.get? b = some o -> h5.get? b = some o := fun b o z q => by
      rcases z with z | z
      · exact kk b o (fun y => z (.tail _ (.tail _ (sub0 b y)))) (fun y => z (y ▸ .head _)) q
      · exact kk b o (fun y => nwf b y z) (fun y => nCf (y ▸ z)) q
    refine ⟨h5,t',μ',rfl,H4.shrink sub kf,G4.shrink e1 sub (fun b hb nb => ?_) (fun b hb z => ?_) kf,.lst (kk _ _ nDw (Ne.symm nDC) g4) ⟨rfl,rfl,rfl⟩ rfl nDf (H4.apart _ (.tail _ (.head _))) sz (rs.shrink sub fun b o n => kf b o (.inl n))⟩
    · simp only [List.mem_cons,List.mem_append] at hb
      rcases hb with rfl | rfl | hb | hb
      · exact nCs
      · exact nDs
      · exact hw b hb
      · exact absurd hb nb
    · simp only [List.mem_cons] at hb
      rcases hb with rfl | rfl | hb
      · exact absurd z nCf
      · exact absurd z nDf
      · exact absurd z (nwf b hb)
  exact codeAny_compStart_list whole (src_self iv3 a.here.a.handled whole |> fun q => wpAny_mono q (fun _ _ q => q) fun _ _ q => q.elim)
theorem comp_tail2 {en : Option Nat} {tg : List Nat} {it : It} {elt cond : X} {n0 : Nat} (K : SK prog w W T en tg it elt cond [] d (List.replicate n0 .undef) σ x σ') {sc : Sc} {env : Env} {A : Around} {fr μ μ0 wr : List Addr} {s : Shared} {h1 hs : Heap} {t1 ts : Nat} {I : Addr}
    (G : Go fr μ0 μ [] s.heap h1) (a : At W T sc env A d fr μ ρ σ { s with heap := h1,toks := t1 }) (ext : ∀ b o,h1.get? b = some o -> hs.get? b = some o) (hw : ∀ a ∈ wr,h1.get? a = none) (iv : SrcAt prog w W (wr ++ fr) μ hs I wr en it) (Hs : Hp W (wr ++ fr) μ σ hs)
    {sco : Scope} (hin : innerOk sco = true) (hn0 : n0 = (sc.inner sco).locs.length) {target elte : PySem.Expr} (iterE : PySem.Expr) {ifs : List PySem.Expr} (pos : Pos) (ht : tgOf (sc.inner sco) target tg = true) (hen : en.isSome = true -> isTup target = true) (ce : Cx (sc.inner sco) elte elt) (ci : Cif (sc.inner sco) ifs cond) :
    wpAny (model prog w) A (newList []) (fun acc s3 => wpAny (model prog w) A (newFunctionEnv sco env.globals [] [] env.qual none .none (some env)) (fun cenv s4 =>
      codeAny (model prog w) A (.compStart (.ListComp elte [⟨target,iterE,ifs,0⟩] sco pos) 0 (.ref I) acc { cenv with scope := sco }) (fun r s' => ∃ m,s'.heap.Ns cenv.locals m /\ ∀ h',Heap.SameBut cenv.locals s'.heap h' →
          match r with | .ok _ => PE W fr μ0 s x σ' acc { s' with heap := h' } | .error xe => wpAny (model prog w) A (passOn "comprehension.variables-let-go" xe { cenv with scope := sco }) (PE W fr μ0 s x σ') Fa { s' with heap := h' }) s4) Fa s3) Fa { s with heap := hs,toks := ts } := by
  refine wpAny_mono (comp_tail K a (hs := hs) (ts := ts) ext hw iv Hs hin hn0 (iterE := iterE) (pos := pos) ht hen ce ci) (fun acc s3 q => ?_) fun _ _ q => q
  refine wpAny_mono q (fun cenv s4 q => ?_) fun _ _ q => q
  refine codeAny_mono q fun r s' q => ?_
  obtain ⟨m,ns,q⟩ := q
  refine ⟨m,ns,fun h' sb => ?_⟩
  have q := q h' sb
  cases r with
  | ok _ => exact St.from G q
  | error xe => exact wpAny_mono q (fun _ _ q => St.from G q) fun _ _ q => q
theorem Reps.grow {fr μ : List Addr} {h : Heap} {v : List Value} {x : List V} (r : Reps W fr μ h v x) : ∀ wr : List Addr,(∀ a ∈ wr,h.get? a = none) -> Reps W (wr ++ fr) μ h v x
  | [],_ => r
  | a :: wr,n => (Reps.grow r wr fun b hb => n b (.tail _ hb)).more (n a (.head _))
theorem RepD.grow {fr μ : List Addr} {h : Heap} {v : List DictEntry} {x : List (List Nat × V)} (r : RepD W fr μ h v x) : ∀ wr : List Addr,(∀ a ∈ wr,h.get? a = none) -> RepD W (wr ++ fr) μ h v x
  | [],_ => r
  | a :: wr,n => (RepD.grow r wr fun b hb => n b (.tail _ hb)).more (n a (.head _))
theorem Hp.grow {fr μ : List Addr} {h h1 : Heap} (H : Hp W fr μ σ h) (e : ∀ b o,h.get? b = some o -> h1.get? b = some o) (wr : List Addr) (n : ∀ a ∈ wr,h.get? a = none) (al : ∀ a ∈ wr,∃ o,h1.get? a = some o) : Hp W (wr ++ fr) μ σ h1 := by
  refine ⟨fun b o q => e b o (H.keep b o q),H.len,fun i a o q1 q2 => ?_,H.base,fun b hb => ?_,H.nodup,fun b hb => ?_,fun b hb => ?_⟩
  · have r := H.obj i a o q1 q2
    cases r with
    | list q l r => exact .list (e _ _ q) l ((r.grow wr n).on (ch := []) (.ext e))
    | ns q l r => exact .ns (e _ _ q) l ((r.grow wr n).on (ch := []) (.ext e))
  · rcases List.mem_append.mp hb with hb | hb
    · cases q : W.h₀.get? b with
      | none => rfl
      | some o => have := n b hb; rw [H.keep _ _ q] at this; cases this
    · exact H.frb b hb
  · rcases List.mem_append.mp hb with hb | hb
    · intro q; obtain ⟨o,x⟩ := H.size_not q; rw [n b hb] at x; cases x
    · exact H.apart b hb
  · rcases List.mem_append.mp hb with hb | hb
    · exact al b hb
    · obtain ⟨o,x⟩ := H.frin b hb; exact ⟨o,e _ _ x⟩
theorem sx_comp {n0 : Nat} {tg : List Nat} {e elt cond : X} {y : V} {it : It} {σ1 : List O} (S : SX prog w W T e d ρ σ y σ1) (hi : itOf σ1 y = some it) (K : SK prog w W T none tg it elt cond [] d (List.replicate n0 .undef) σ1 x σ') :
    SX prog w W T (.comp n0 tg e elt cond) d ρ σ x σ' := by
  refine .mk0 (fun sc env A fr μ s a ex c => ?_)
  revert c; intro cq; refine i_comp cq fun ci hset hin ht ce cc ee0 => ?_
  clear cq; subst ee0
  obtain ⟨hk,hnm,hnd⟩ := inner_ok hin
  refine wpAny_comprehension rfl (fun x => noFold hset _ _) (fun y hy q => by rcases hnm y hy with z | z <;> rw [z] at q <;> cases q) hk (fun y hy q => by rw [lookup_nodup hnd hy,q]) ?_
  refine wpAny_mono (S.one _ _ _ _ _ _ a _ ci) (fun v s1 q => ?_) fun _ _ q => q
  refine St.elim q fun h1 t1 μ1 H G rv => ?_
  have a1 := a.on (t1 := t1) H G
  refine wpAny_mono (iter_ok a1.hp rv hi) (fun u s2 q => ?_) fun _ _ q => q
  obtain ⟨ob,rfl,rfl,hfr,iv⟩ := q
  have n : h1.get? h1.objs.size = none := none_of_size (Nat.le_refl _)
  have exI : ∀ b o,h1.get? b = some o -> (h1.push ob).get? b = some o := fun _ _ q => Heap.get?_push_of_some _ q
  have g : (h1.push ob).get? h1.objs.size = some ob := Heap.get?_push_size _ hfr
  exact comp_tail2 K G a1 (hs := h1.push ob) (ts := t1) (wr := [h1.objs.size]) exI (fun a ha => by simp at ha; rw [ha]; exact n) (.plain iv) (a1.hp.hot exI n ⟨_,g⟩) hin rfl _ _ ht (fun q => by cases q) ce cc
theorem sx_compE (B : Amb w W T P K mg mb) {n0 : Nat} {tg : List Nat} {e elt cond : X} {y : V} {it : It} {σ1 : List O} (S : SX prog w W T e d ρ σ y σ1) (hq : isSeq y = true) (hi : itOf σ1 y = some it) (K : SK prog w W T (some 0) tg it elt cond [] d (List.replicate n0 .undef) σ1 x σ') :
    SX prog w W T (.compE n0 tg e elt cond) d ρ σ x σ' := by
  refine .mk0 (fun sc env A fr μ s a ex c => ?_)
  revert c; intro cq; refine i_compE cq fun hb ci hst hin hit ht ce cc ee0 => ?_
  clear cq; subst ee0
  obtain ⟨hk,hnm,hnd⟩ := inner_ok hin
  refine wpAny_comprehension rfl (fun x => noFold rfl _ _) (fun y hy q => by rcases hnm y hy with z | z <;> rw [z] at q <;> cases q) hk (fun y hy q => by rw [lookup_nodup hnd hy,q]) ?_
  refine Call_ (a.name_b B B.bEnum hb (by decide) ?_)
  rw [starEach_cons hst]
  refine callWith_type1 (wpAny_mono (S.one _ _ _ _ _ _ a _ ci) (fun v s1 q => ?_) fun _ _ q => q)
  refine St.elim q fun h1 t1 μ1 H G rv => ?_
  have a1 := a.on (t1 := t1) H G
  have nJ : h1.get? h1.objs.size = none := none_of_size (Nat.le_refl _)
  have nE : h1.get? (h1.objs.size + 1) = none := none_of_size (Nat.le_succ _)
  have nw : ∀ a ∈ [h1.objs.size + 1,h1.objs.size],h1.get? a = none := fun a ha => by
    simp only [List.mem_cons,List.not_mem_nil,or_false] at ha
    rcases ha with rfl | rfl
    · exact nE
    · exact nJ
  have key : ∃ l items,v = .ref l /\ h1.IsList l items /\ (∀ hs : Heap,(∀ b o,h1.get? b = some o -> hs.get? b = some o) -> IsEnum hs (h1.objs.size + 1) h1.objs.size 0 .none -> hs.IsListIter h1.objs.size l 0 →
      SrcAt prog w W ([h1.objs.size + 1,h1.objs.size] ++ fr) μ1 hs (h1.objs.size + 1) [h1.objs.size + 1,h1.objs.size] (some 0) it) := by
    cases rv with
    | lst g c dd n1 n2 l rs =>
      cases hi
      rename_i a0 o items k xs
      refine ⟨a0,items,rfl,⟨o,g,c.1,k,dd⟩,fun hs exs en li => ?_⟩
      have ne1 : a0 ≠ h1.objs.size := fun z => by rw [z,nJ] at g; cases g
      have ne2 : a0 ≠ h1.objs.size + 1 := fun z => by rw [z,nE] at g; cases g
      refine .enumL (k := 0) ⟨_,en⟩ li ⟨o,exs _ _ g,c.1,k,dd⟩ (Nat.succ_ne_self _) (fun z => ?_) n2 ne2 ne1 ((rs.grow _ nw).on (ch := []) (.ext exs)) (Nat.zero_le _)
      simp only [List.cons_append,List.nil_append,List.mem_cons] at z
      rcases z with z | z | z
      · exact ne2 z
      · exact ne1 z
      · exact n1 z
    | ref hi' =>
      rename_i a0 i
      simp only [itOf] at hi
      split at hi
      · rename_i xs hx
        cases hi
        cases a1.hp.obj _ _ _ hi' hx with
        | list g sz rs => exact ⟨a0,_,rfl,⟨_,g,rfl,_,rfl⟩,fun hs exs en li => .enumR (k := 0) ⟨_,en⟩ li (Nat.succ_ne_self _) hi'⟩
      · cases hi
    | _ => cases hq
  obtain ⟨l,items,rfl,hl,src⟩ := key
  refine call_enumerate_list hl fun hs en li sz exs => wpAny_pyIter_enum en ?_
  have H3 : Hp W ([h1.objs.size + 1,h1.objs.size] ++ fr) μ1 σ1 hs := a1.hp.grow exs _ nw fun a ha => by
    simp only [List.mem_cons,List.not_mem_nil,or_false] at ha
    rcases ha with rfl | rfl
    · exact ⟨_,en⟩
    · obtain ⟨o,q,_⟩ := li; exact ⟨o,q⟩
  exact comp_tail2 K G a1 (hs := hs) (ts := t1) (wr := [h1.objs.size + 1,h1.objs.size]) exs nw (src hs exs en li) H3 hin rfl _ _ ht (fun _ => hit) ce cc
end
section
variable {prog : Program} {w : World} {W : Wd} {T : Tb} {P : Prog} {K : Frag} {mg mb : Str -> Option Value}
noncomputable def Mot (prog : Program) (w : World) (W : Wd) (T : Tb) (c : Cmd) (d : Nat) (ρ : List V) (σ : List O) (r : Res) : Prop := match c with
  | .call f args => SC prog w W T f d args σ r.v r.σ
  | .loop t b => SL prog w W T t b d ρ σ r
  | .iter tg it b => SI prog w W T tg it b d ρ σ r
  | .comp en tg it elt cond acc => SK prog w W T en tg it elt cond acc d ρ σ r.v r.σ
theorem Amb.on (B : Amb w W T P K mg mb) (f : Cmd -> Nat -> List V -> List O -> Option Res) : Amb w W T (P.on f) K mg mb :=
  ⟨B.wP,B.g,B.b,B.lim,B.X,B.bLen,B.bOrd,B.bTuple,B.bRange,B.bEnum,B.glob,B.fnName,B.fn,B.clsName,B.init,B.meth,B.attr⟩
theorem mot_x (B : Amb w W T P K mg mb) (ih : ∀ c d ρ σ r,ev P c d ρ σ = some r -> Mot prog w W T c d ρ σ r) (e : X) : ∀ d ρ σ r,evX P e d ρ σ = some r -> SX prog w W T e d ρ σ r.v r.σ := by
  induction e with
  | cNone => exact fun d ρ σ r h => some_e h sx_cNone
  | cBool b => exact fun d ρ σ r h => some_e h (sx_cBool b)
  | cInt i => exact fun d ρ σ r h => some_e h (sx_cInt i)
  | cStr l => exact fun d ρ σ r h => some_e h (sx_cStr l)
  | loc i =>
    refine fun d ρ σ r h => bnd_e (m := getLoc ρ i) (f := K1 ρ σ) h fun v h1 h => some_e h ?_
    have q := getLoc_some _ _ _ h1
    exact sx_loc q.1 q.2
  | glob g => exact fun d ρ σ r h => bnd_e (m := P.glob g) (f := K2 ρ σ) h fun v h1 h => some_e h (sx_glob B h1)
  | nil => exact fun d ρ σ r h => some_e h sx_nil
  | cons x y ix iy => exact fun d ρ σ r h => bnd_e (m := evX P x d ρ σ) (f := K3 P y d ρ) h fun r1 h1 h => bnd_e h fun r2 h2 h => tup_e h fun vs hv h => some_e h (sx_cons (ix _ _ _ _ h1 :) (hv ▸ iy _ _ _ _ h2))
  | tup e ie => exact fun d ρ σ r h => bnd_e (m := evX P e d ρ σ) (f := K6 ρ) h fun r1 h1 h => tup_e h fun vs hv h => cond_e h fun c h => some_e h (sx_tup (hv ▸ ie _ _ _ _ h1) (Nat.le_of_ble_eq_true c))
  | lst e ie => exact fun d ρ σ r h => bnd_e (m := evX P e d ρ σ) (f := K8 ρ) h fun r1 h1 h => tup_e h fun vs hv h => cond_e h fun c h => some_e h (sx_lst (hv ▸ ie _ _ _ _ h1) (Nat.le_of_ble_eq_true c))
  | dct ks e ie => cases ks with
    | nil => exact fun d ρ σ r h => some_e h (sx_dct0 B)
    | cons k ks => exact fun d ρ σ r h => bnd_e (m := evX P e d ρ σ) (f := K0 k ks ρ) h fun r1 h1 h => tup_e h fun vs hv h => ite_e h fun c h => some_e h (sx_dct B (hv ▸ ie _ _ _ _ h1) (List.cons_ne_nil _ _) c.1 c.2.1 c.2.2)
  | attr e a ie => exact fun d ρ σ r h => bnd_e (m := evX P e d ρ σ) (f := K10 P a ρ) h fun r1 h1 h => inst_e h fun c i hv h => ns_e h fun fs hf h => bnd_e h fun v hl h => cond_e h fun c h => some_e h (sx_attr B (hv ▸ ie _ _ _ _ h1) hf hl c)
  | idx x y ix iy => exact fun d ρ σ r h => bnd_e (m := evX P x d ρ σ) (f := K14 P y d ρ) h fun r1 h1 h => bnd_e h fun r2 h2 h => bnd_e h fun o h3 h => bnd_e h fun v h4 h => some_e h (sx_idx B.wP (ix _ _ _ _ h1 :) (iy _ _ _ _ h2 :) h3 h4)
  | slice x y z ix iy iz => exact fun d ρ σ r h => bnd_e (m := evX P x d ρ σ) (f := K18 P y z d ρ) h fun r1 h1 h => bnd_e h fun r2 h2 h => bnd_e h fun r3 h3 h => bnd_e h fun v h4 h => some_e h (sx_slice (ix _ _ _ _ h1 :) (iy _ _ _ _ h2 :) (iz _ _ _ _ h3 :) h4)
  | bin op x y ix iy => exact fun d ρ σ r h => bnd_e (m := evX P x d ρ σ) (f := K22 P op y d ρ) h fun r1 h1 h => bnd_e h fun r2 h2 h => bnd_e h fun o h3 h => bnd_e h fun o2 h4 h => bnd_e h fun v h5 h => some_e h (sx_bin (ix _ _ _ _ h1 :) (iy _ _ _ _ h2 :) h3 h4 h5)
  | neg e ie => exact fun d ρ σ r h => bnd_e (m := evX P e d ρ σ) (f := K27 ρ) h fun r1 h1 h => int_e h fun i hv h => some_e h (sx_neg (hv ▸ ie _ _ _ _ h1))
  | not e ie => exact fun d ρ σ r h => bnd_e (m := evX P e d ρ σ) (f := K29 ρ) h fun r1 h1 h => bnd_e h fun b h2 h => some_e h (sx_not (ie _ _ _ _ h1 :) h2)
  | and x y ix iy => exact fun d ρ σ r h => bnd_e (m := evX P x d ρ σ) (f := K31 P y d ρ) h fun r1 h1 h => bnd_e h fun t h2 h => cond_E h (fun q h => sx_andT (ix _ _ _ _ h1 :) (q ▸ h2) (iy _ _ _ _ h :)) fun q h => some_e h (sx_andF (ix _ _ _ _ h1 :) (q ▸ h2))
  | or x y ix iy => exact fun d ρ σ r h => bnd_e (m := evX P x d ρ σ) (f := K33 P y d ρ) h fun r1 h1 h => bnd_e h fun t h2 h => cond_E h (fun q h => some_e h (sx_orT (ix _ _ _ _ h1 :) (q ▸ h2))) fun q h => sx_orF (ix _ _ _ _ h1 :) (q ▸ h2) (iy _ _ _ _ h :)
  | cmp op x y ix iy => exact fun d ρ σ r h => bnd_e (m := evX P x d ρ σ) (f := K35 P op y d ρ) h fun r1 h1 h => bnd_e h fun r2 h2 h => bnd_e h fun o h3 h => bnd_e h fun o2 h4 h => bnd_e h fun v h5 h => some_e h (sx_cmp B.wP (ix _ _ _ _ h1 :) (iy _ _ _ _ h2 :) h3 h4 h5)
  | cmp2 op u x y z ix iy iz => exact fun d ρ σ r h => bnd_e (m := evX P x d ρ σ) (f := Ke_cmp2 P op u y z d ρ) h fun r1 h1 h => bnd_e h fun r2 h2 h => bnd_e h fun v h3 h => cond_E h (fun q h => bnd_e h fun r3 h4 h => bnd_e h fun v h5 h => some_e h (sx_cmp2T B.wP (ix _ _ _ _ h1 :) (iy _ _ _ _ h2 :) (q ▸ h3) (iz _ _ _ _ h4 :) h5)) fun q h => some_e h (sx_cmp2F B.wP (ix _ _ _ _ h1 :) (iy _ _ _ _ h2 :) (q ▸ h3))
  | ite t x y it ix iy => exact fun d ρ σ r h => bnd_e (m := evX P t d ρ σ) (f := K40 P x y d ρ) h fun r1 h1 h => bnd_e h fun t h2 h => cond_E h (fun q h => sx_iteT (it _ _ _ _ h1 :) (q ▸ h2) (ix _ _ _ _ h :)) fun q h => sx_iteF (it _ _ _ _ h1 :) (q ▸ h2) (iy _ _ _ _ h :)
  | call g e ie => exact fun d ρ σ r h => bnd_e (m := evX P e d ρ σ) (f := K42 P g d ρ) h fun r1 h1 h => tup_e h fun vs hv h => bnd_e h fun q h2 h => some_e h (sx_call B (hv ▸ ie _ _ _ _ h1) (ih _ _ _ _ _ h2))
  | meth o m e io ie => exact fun d ρ σ r h => bnd_e (m := evX P o d ρ σ) (f := K45 P m e d ρ) h fun r1 h1 h => inst_e h fun c i hv h => ns_e h fun fs hf h => no_e h fun hl h => bnd_e h fun r2 h2 h => tup_e h fun vs hv2 h => bnd_e h fun g h3 h => bnd_e h fun q h4 h => some_e h (sx_meth B (hv ▸ io _ _ _ _ h1) hf hl (hv2 ▸ ie _ _ _ _ h2) h3 (ih _ _ _ _ _ h4))
  | mk c e ie => exact fun d ρ σ r h => bnd_e (m := evX P e d ρ σ) (f := K52 P c d ρ) h fun r1 h1 h => tup_e h fun vs hv h => bnd_e h fun g h2 h => bnd_e h fun q h3 h => nil_e h fun hq h => some_e h (sx_mk B (hv ▸ ie _ _ _ _ h1) h2 (hq ▸ (ih _ _ _ _ _ h3 : SC prog w W T _ _ _ _ q.v q.σ)))
  | len e ie => exact fun d ρ σ r h => bnd_e (m := evX P e d ρ σ) (f := K56 ρ) h fun r1 h1 h => bnd_e h fun y h2 h => bnd_e h fun v h3 h => some_e h (sx_len B (y := y) (ie _ _ _ _ h1 :) h2 h3)
  | ord e ie => exact fun d ρ σ r h => bnd_e (m := evX P e d ρ σ) (f := Kc_ord ρ) h fun r1 h1 h => str_e h fun s hv h => one_e h fun c hc h => some_e h (sx_ord B (hc ▸ hv ▸ ie _ _ _ _ h1))
  | tupleOf e ie => exact fun d ρ σ r h => bnd_e (m := evX P e d ρ σ) (f := K59 ρ) h fun r1 h1 h => bnd_e h fun y h2 h => lst_e h fun xs hx h => some_e h (sx_tupleOf B (ie _ _ _ _ h1 :) (hx ▸ h2))
  | append x y ix iy => exact fun d ρ σ r h => bnd_e (m := evX P x d ρ σ) (f := K62 P y d ρ) h fun r1 h1 h => ref_e h fun i hv h => list_e h fun xs1 hx1 h => bnd_e h fun r2 h2 h => list_e h fun xs hx h => cond_e h fun _ h => ite_e h fun c h => some_e h (sx_append (hv ▸ ix _ _ _ _ h1) hx1 (iy _ _ _ _ h2 :) hx c)
  | extend x y ix iy => exact fun d ρ σ r h => bnd_e (m := evX P x d ρ σ) (f := K67 P y d ρ) h fun r1 h1 h => ref_e h fun i hv h => list_e h fun xs1 hx1 h => bnd_e h fun r2 h2 h => bnd_e h fun y h3 h => list_e h fun xs hx h => ext_e h fun ys hy h => ite_e h fun c h => some_e h (sx_extend (hv ▸ ix _ _ _ _ h1) hx1 (iy _ _ _ _ h2 :) h3 hy hx c)
  | split x y ix iy => exact fun d ρ σ r h => bnd_e (m := evX P x d ρ σ) (f := K73 P y d ρ) h fun r1 h1 h => bnd_e h fun r2 h2 h => str_e h fun t hv h => str_e h fun u hv2 h => one_e h fun c hc h => ite_e h fun cc h => some_e h (sx_split (hv ▸ ix _ _ _ _ h1) (hc ▸ hv2 ▸ iy _ _ _ _ h2) cc)
  | find x y ix iy => exact fun d ρ σ r h => bnd_e (m := evX P x d ρ σ) (f := Ke_find P y d ρ) h fun r1 h1 h => bnd_e h fun r2 h2 h => str_e h fun t hv h => str_e h fun u hv2 h => one_e h fun c hc h => some_e h (sx_find (hv ▸ ix _ _ _ _ h1) (hc ▸ hv2 ▸ iy _ _ _ _ h2))
  | lower e ie => exact fun d ρ σ r h => bnd_e (m := evX P e d ρ σ) (f := Kc_lower ρ) h fun r1 h1 h => str_e h fun s hv h => one_e h fun c hc h => ite_e h fun cc h => some_e h (sx_lower (hc ▸ hv ▸ ie _ _ _ _ h1) cc)
  | comp n tg it x y ii _ _ => exact fun d ρ σ r h => bnd_e (m := evX P it d ρ σ) (f := K78 P n tg x y d ρ) h fun r1 h1 h => bnd_e h fun i h2 h => bnd_e h fun q h3 h => some_e h (sx_comp (ii _ _ _ _ h1) h2 (ih _ _ _ _ _ h3))
  | compE n tg it x y ii _ _ => exact fun d ρ σ r h => bnd_e (m := evX P it d ρ σ) (f := K81 P n tg x y d ρ) h fun r1 h1 h => cond_e h fun c h => bnd_e h fun i h2 h => bnd_e h fun q h3 h => some_e h (sx_compE B (ii _ _ _ _ h1) c h2 (ih _ _ _ _ _ h3))
theorem mot_s (B : Amb w W T P K mg mb) (ih : ∀ c d ρ σ r,ev P c d ρ σ = some r -> Mot prog w W T c d ρ σ r) (c : S) : ∀ d ρ σ r,evS P c d ρ σ = some r -> SS prog w W T c d ρ σ r := by
  have ix := mot_x B ih
  induction c with
  | skip => exact fun d ρ σ r h => some_e h ss_skip
  | seq x y i1 i2 => exact fun d ρ σ r h => bnd_e (m := evS P x d ρ σ) (f := seqK P y d) h fun r1 h1 h => fl_e h (fun q h => ss_seqN (i1 _ _ _ _ h1 :) q (i2 _ _ _ _ h :)) fun q h => h ▸ ss_seqX (i1 _ _ _ _ h1 :) q
  | asg i e =>
    refine fun d ρ σ r h => bnd_e (m := evX P e d ρ σ) (f := K84 i ρ) h fun r1 h1 h => bnd_e h fun ρ' h2 h => some_e h ?_
    exact setLoc_some h2 ▸ ss_asg (ix _ _ _ _ _ h1 :)
  | asgT js e =>
    refine fun d ρ σ r h => bnd_e (m := evX P e d ρ σ) (f := K86 js ρ) h fun r1 h1 h => bnd_e h fun ρ' h2 h => some_e h ?_
    exact ss_asgT (ix _ _ _ _ _ h1 :) h2
  | asgNew i e =>
    refine fun d ρ σ r h => bnd_e (m := evX P e d ρ σ) (f := K88 i ρ) h fun r1 h1 h => tup_e h fun vs hv h => cond_e h fun c h => bnd_e h fun ρ' h2 h => some_e h ?_
    exact setLoc_some h2 ▸ ss_asgNew (hv ▸ ix _ _ _ _ _ h1) (Nat.le_of_ble_eq_true c)
  | aug i op e =>
    refine fun d ρ σ r h => bnd_e (m := nth ρ i) (f := K91 P i op e d ρ σ) h fun old h0 h => bnd_e h fun r1 h1 h => add_e h fun ho h => int_e h fun a ha h => int_e h fun b hv h => bnd_e h fun ρ' h2 h => some_e h ?_
    refine setLoc_some h2 ▸ ?_
    subst ho
    exact ss_aug (ha ▸ nth_eq ρ i ▸ h0) (hv ▸ ix _ _ _ _ _ h1)
  | setA o a e => exact fun d ρ σ r h => bnd_e (m := evX P e d ρ σ) (f := K96 P o a d ρ) h fun r2 h2 h => bnd_e h fun r1 h1 h => inst_e h fun c i hv h => ns_e h fun fs hf h => ite_e h fun c h => some_e h (ss_setA B (ix _ _ _ _ _ h2 :) (hv ▸ ix _ _ _ _ _ h1) hf c.1 c.2.2)
  | augA o a op e =>
    refine fun d ρ σ r h => bnd_e (m := evX P o d ρ σ) (f := K100 P a op e d ρ) h fun r1 h1 h => inst_e h fun c i hv h => ns_e h fun fs hf h => bnd_e h fun old hl h => int_e h fun x hx h => bnd_e h fun r2 h2 h => add_e h fun ho h => int_e h fun y hv2 h => ns_e h fun fs' hf2 h => ite_e h fun c h => some_e h ?_
    subst ho
    exact ss_augA B (hv ▸ ix _ _ _ _ _ h1) hf (hx ▸ hl) (hv2 ▸ ix _ _ _ _ _ h2) hf2 c.1 c.2
  | setI o i e =>
    refine fun d ρ σ r h => bnd_e (m := evX P e d ρ σ) (f := K108 P o i d ρ) h fun r3 h3 h => bnd_e h fun r1 h1 h => bnd_e h fun r2 h2 h => ref_e h fun j hv h => int_e h fun k hv2 h => list_e h fun xs hx h => ite_e h fun c h => some_e h ?_
    obtain ⟨n,rfl⟩ := Int.eq_ofNat_of_zero_le c.1
    exact ss_setI (ix _ _ _ _ _ h3 :) (hv ▸ ix _ _ _ _ _ h1) (hv2 ▸ ix _ _ _ _ _ h2) hx c.2.1
  | ex e => exact fun d ρ σ r h => bnd_e (m := evX P e d ρ σ) (f := K114 ρ) h fun r1 h1 h => plain_e h fun h => some_e h (ss_ex (ix _ _ _ _ _ h1 :))
  | iff t x y i1 i2 => exact fun d ρ σ r h => bnd_e (m := evX P t d ρ σ) (f := K115 P x y d ρ) h fun r1 h1 h => bnd_e h fun t h2 h => cond_E h (fun q h => ss_iffT (ix _ _ _ _ _ h1 :) (q ▸ h2) (i1 _ _ _ _ h :)) fun q h => ss_iffF (ix _ _ _ _ _ h1 :) (q ▸ h2) (i2 _ _ _ _ h :)
  | whl t x _ => exact fun d ρ σ r h => ss_whl (ih (.loop t x) _ _ _ _ h)
  | forr tg it x _ => exact fun d ρ σ r h => bnd_e (m := evX P it d ρ σ) (f := K117 P tg x d ρ) h fun r1 h1 h => bnd_e h fun i h2 h => ss_forr (ix _ _ _ _ _ h1 :) h2 (ih (.iter tg i x) _ _ _ _ h)
  | forR tg lo hi x _ => exact fun d ρ σ r h => bnd_e (m := evX P lo d ρ σ) (f := K119 P tg hi x d ρ) h fun r1 h1 h => bnd_e h fun r2 h2 h => int_e h fun p hv h => int_e h fun q hv2 h => ite_e h fun c h => ss_forR B (hv ▸ ix _ _ _ _ _ h1) (hv2 ▸ ix _ _ _ _ _ h2) (Bool.and_eq_true_iff.mp c).1 (Bool.and_eq_true_iff.mp c).2 (ih (.iter tg _ x) _ _ _ _ h)
  | ret e => exact fun d ρ σ r h => bnd_e (m := evX P e d ρ σ) (f := K123 ρ) h fun r1 h1 h => some_e h (ss_ret (ix _ _ _ _ _ h1 :))
  | brk => exact fun d ρ σ r h => some_e h ss_brk
  | tr x i1 => exact fun d ρ σ r h => ss_tr (i1 _ _ _ _ h :)
  | bad => exact fun d ρ σ r h => nomatch h
theorem mot_c (B : Amb w W T P K mg mb) (ih : ∀ c d ρ σ r,ev P c d ρ σ = some r -> Mot prog w W T c d ρ σ r) : ∀ c d ρ σ r,evF P c d ρ σ = some r -> Mot prog w W T c d ρ σ r := by
  have ix := mot_x B ih
  have is := mot_s B ih
  intro c
  cases c with
  | call g args =>
    refine fun d ρ σ r h => ?_
    show SC prog w W T g d args σ r.v r.σ
    refine bnd_e (m := P.fn g) h fun c h1 h => cond_e h fun c1 h => bnd_e h fun q h2 h => ?_
    have c1 := Bool.and_eq_true_iff.mp c1
    have c2 := Bool.and_eq_true_iff.mp c1.2
    have c3 := Bool.and_eq_true_iff.mp c2.1
    have S := fun {x} => sc_call (x := x) (r := q) B h1 (Nat.blt_eq.mp c1.1) (Nat.le_of_ble_eq_true c3.1) (Nat.le_of_ble_eq_true c3.2) c2.2 (is _ _ _ _ _ h2)
    exact flL_e h (fun hf h => some_e h (S (.inr ⟨hf,rfl⟩))) (fun hf h => nomatch h) (fun hf h => some_e h (S (.inl ⟨hf,rfl⟩)))
  | loop t b =>
    refine fun d ρ σ r h => ?_
    show SL prog w W T t b d ρ σ r
    exact bnd_e (m := evX P t d ρ σ) (f := lpT P t b d ρ) h fun r1 h1 h => bnd_e h fun v h2 h => cond_E h (fun e h => bnd_e h fun q h3 h => flL_e h (fun hf h => sl_next (ix _ _ _ _ _ h1 :) (e ▸ h2) (is _ _ _ _ _ h3 :) hf (ih (.loop _ b) _ _ _ _ h)) (fun hf h => some_e h (sl_brk (ix _ _ _ _ _ h1 :) (e ▸ h2) (is _ _ _ _ _ h3 :) hf)) fun hf h => some_e h (sl_ret (ix _ _ _ _ _ h1 :) (e ▸ h2) (is _ _ _ _ _ h3 :) hf)) fun e h => some_e h (sl_stop (ix _ _ _ _ _ h1 :) (e ▸ h2))
  | iter tg it b =>
    refine fun d ρ σ r h => ?_
    show SI prog w W T tg it b d ρ σ r
    refine bnd_e (m := it.next σ) (f := nextK P d ρ σ tg b) h fun n h1 h => ?_
    cases n with
    | none => exact some_e h (si_done h1)
    | some n => exact bnd_e (m := stOne ρ tg n.1) (f := ntB P d σ tg b n.2) h fun ρ' h2 h => bnd_e h fun q h3 h => flL_e h (fun hf h => si_next h1 h2 (is _ _ _ _ _ h3 :) hf (ih (.iter tg _ b) _ _ _ _ h)) (fun hf h => some_e h (si_brk h1 h2 (is _ _ _ _ _ h3 :) hf)) fun hf h => some_e h (si_ret h1 h2 (is _ _ _ _ _ h3 :) hf)
  | comp en tg it elt cond acc =>
    refine fun d ρ σ r h => ?_
    show SK prog w W T en tg it elt cond acc d ρ σ r.v r.σ
    refine bnd_e (m := it.next σ) (f := nextC P d ρ σ en tg elt cond acc) h fun n h1 h => ?_
    cases n with
    | none => exact some_e h (sk_done h1)
    | some n => exact bnd_e (m := stOne ρ tg (enumV en n.1)) (f := ncB P d en tg elt cond acc n.2 σ) h fun ρ' h2 h => bnd_e h fun rc h3 h => bnd_e h fun c h4 h => cond_E h (fun e h => bnd_e h fun q h5 h => cond_e h fun _ h => ite_e h fun c1 h => sk_take h1 h2 (ix _ _ _ _ _ h3 :) (e ▸ h4) (ix _ _ _ _ _ h5 :) c1 (ih (.comp _ tg _ elt cond _) _ _ _ _ h)) fun e h => sk_skip h1 h2 (ix _ _ _ _ _ h3 :) (e ▸ h4) (ih (.comp _ tg _ elt cond acc) _ _ _ _ h)
theorem sound (B : Amb w W T P K mg mb) : ∀ c d ρ σ r,evR P c d ρ σ = some r -> Mot prog w W T c d ρ σ r :=
  ev_ind P (Mot prog w W T) fun f ih c d ρ σ r h => mot_c (B.on f) ih c d ρ σ r h
end
end Mine
namespace Mine
noncomputable def c_is_word_sign : S := (.ret (.cmp .isin (.loc 0) (.cStr [97,98,99,100,101,102,103,104,105,106,107,108,109,110,111,112,113,114,115,116,117,118,119,120,121,122,65,66,67,68,69,70,71,72,73,74,75,76,77,78,79,80,81,82,83,84,85,86,87,88,89,90,48,49,50,51,52,53,54,55,56,57,95,46,58,42,43,45,47])))
noncomputable def c_run_end : S := (.seq (.whl (.and (.cmp .lt (.loc 1) (.len (.loc 0))) (.call 0 (.cons (.idx (.loc 0) (.loc 1)) .nil))) (.aug 1 .add (.cInt (1)))) (.ret (.loc 1)))
noncomputable def c_string_end : S := (.seq (.asg 4 (.bin .add (.loc 1) (.cInt (1)))) (.seq (.whl (.and (.cmp .lt (.loc 4) (.len (.loc 0))) (.cmp .ne (.idx (.loc 0) (.loc 4)) (.cStr [10]))) (.seq (.iff (.cmp .eq (.idx (.loc 0) (.loc 4)) (.cStr [34])) (.ret (.bin .add (.loc 4) (.cInt (1)))) .skip) (.aug 4 .add (.cInt (1))))) .bad))
noncomputable def c_put_run : S := (.seq (.iff (.and (.cmp .eq (.idx (.loc 1) (.cInt (0))) (.cStr [58])) (.cmp .ne (.slice (.loc 1) .cNone (.cInt (2))) (.cStr [58,58]))) (.seq (.ex (.append (.loc 0) (.tup (.cons (.cStr [115,105,103,110]) (.cons (.cStr [58]) (.cons (.loc 2) (.cons (.loc 3) .nil))))))) (.seq (.asg 1 (.slice (.loc 1) (.cInt (1)) .cNone)) (.aug 3 .add (.cInt (1))))) .skip) (.seq (.asg 4 (.and (.cmp .eq (.slice (.loc 1) (.neg (.cInt (1))) .cNone) (.cStr [58])) (.cmp .ne (.slice (.loc 1) (.neg (.cInt (2))) .cNone) (.cStr [58,58])))) (.seq (.iff (.loc 4) (.asg 1 (.slice (.loc 1) .cNone (.neg (.cInt (1))))) .skip) (.seq (.iff (.or (.cmp .eq (.loc 1) (.cStr [46])) (.cmp .eq (.loc 1) (.cStr [47]))) (.ex (.append (.loc 0) (.tup (.cons (.cStr [115,105,103,110]) (.cons (.loc 1) (.cons (.loc 2) (.cons (.loc 3) .nil))))))) (.iff (.cmp .ne (.loc 1) (.cStr [])) (.ex (.append (.loc 0) (.tup (.cons (.cStr [119,111,114,100]) (.cons (.loc 1) (.cons (.loc 2) (.cons (.loc 3) .nil))))))) .skip)) (.iff (.loc 4) (.ex (.append (.loc 0) (.tup (.cons (.cStr [115,105,103,110]) (.cons (.cStr [58]) (.cons (.loc 2) (.cons (.bin .add (.loc 3) (.len (.loc 1))) .nil))))))) .skip)))))
noncomputable def c_read_tokens : S := (.seq (.asgNew 1 .nil) (.seq (.asg 2 (.cInt (0))) (.seq (.asg 3 (.cInt (1))) (.seq (.asg 4 (.cInt (0))) (.seq (.whl (.cmp .lt (.loc 2) (.len (.loc 0))) (.seq (.asg 5 (.idx (.loc 0) (.loc 2))) (.seq (.asg 6 (.bin .add (.bin .sub (.loc 2) (.loc 4)) (.cInt (1)))) (.seq (.asg 7 (.bin .add (.loc 2) (.cInt (1)))) (.seq (.iff (.cmp .eq (.loc 5) (.cStr [10])) (.seq (.ex (.append (.loc 1) (.tup (.cons (.cStr [101,110,100]) (.cons (.loc 5) (.cons (.loc 3) (.cons (.loc 6) .nil))))))) (.seq (.aug 3 .add (.cInt (1))) (.asg 4 (.loc 7)))) (.iff (.cmp .eq (.loc 5) (.cStr [59])) (.ex (.append (.loc 1) (.tup (.cons (.cStr [101,110,100]) (.cons (.loc 5) (.cons (.loc 3) (.cons (.loc 6) .nil))))))) (.iff (.cmp .eq (.loc 5) (.cStr [35])) (.whl (.and (.cmp .lt (.loc 7) (.len (.loc 0))) (.cmp .ne (.idx (.loc 0) (.loc 7)) (.cStr [10]))) (.aug 7 .add (.cInt (1)))) (.iff (.and (.cmp .eq (.loc 5) (.cStr [92])) (.cmp .eq (.slice (.loc 0) (.loc 7) (.bin .add (.loc 7) (.cInt (1)))) (.cStr [10]))) (.seq (.aug 7 .add (.cInt (1))) (.seq (.aug 3 .add (.cInt (1))) (.asg 4 (.loc 7)))) (.iff (.cmp .eq (.loc 5) (.cStr [34])) (.seq (.asg 7 (.call 2 (.cons (.loc 0) (.cons (.loc 2) (.cons (.loc 3) (.cons (.loc 6) .nil)))))) (.ex (.append (.loc 1) (.tup (.cons (.cStr [115,116,114,105,110,103]) (.cons (.slice (.loc 0) (.bin .add (.loc 2) (.cInt (1))) (.bin .sub (.loc 7) (.cInt (1)))) (.cons (.loc 3) (.cons (.loc 6) .nil)))))))) (.iff (.call 0 (.cons (.loc 5) .nil)) (.seq (.asg 7 (.call 1 (.cons (.loc 0) (.cons (.loc 2) .nil)))) (.ex (.call 3 (.cons (.loc 1) (.cons (.slice (.loc 0) (.loc 2) (.loc 7)) (.cons (.loc 3) (.cons (.loc 6) .nil))))))) (.iff (.cmp .isin (.slice (.loc 0) (.loc 2) (.bin .add (.loc 2) (.cInt (2)))) (.tup (.cons (.cStr [61,61]) (.cons (.cStr [33,61]) (.cons (.cStr [60,61]) (.cons (.cStr [62,61]) (.cons (.cStr [60,60]) (.cons (.cStr [62,62]) .nil)))))))) (.seq (.asg 7 (.bin .add (.loc 2) (.cInt (2)))) (.ex (.append (.loc 1) (.tup (.cons (.cStr [115,105,103,110]) (.cons (.slice (.loc 0) (.loc 2) (.loc 7)) (.cons (.loc 3) (.cons (.loc 6) .nil)))))))) (.iff (.cmp .isin (.loc 5) (.cStr [123,125,40,41,91,93,44,61,60,62,38,124,94,33,64,36])) (.ex (.append (.loc 1) (.tup (.cons (.cStr [115,105,103,110]) (.cons (.loc 5) (.cons (.loc 3) (.cons (.loc 6) .nil))))))) (.iff (.cmp .notin (.loc 5) (.cStr [32,9,13])) .bad .skip))))))))) (.asg 2 (.loc 7))))))) (.seq (.ex (.append (.loc 1) (.tup (.cons (.cStr [101,111,102]) (.cons (.cStr []) (.cons (.loc 3) (.cons (.bin .add (.bin .sub (.loc 2) (.loc 4)) (.cInt (1))) .nil))))))) (.ret (.loc 1))))))))
noncomputable def c_decimal_of : S := (.seq (.iff (.or (.cmp .eq (.loc 0) (.cStr [])) (.or (.cmp .gt (.len (.loc 0)) (.cInt (3))) (.and (.cmp .eq (.idx (.loc 0) (.cInt (0))) (.cStr [48])) (.cmp .ne (.loc 0) (.cStr [48]))))) (.ret .cNone) .skip) (.seq (.asg 2 (.cInt (0))) (.seq (.forr [3] (.loc 0) (.seq (.iff (.not (.cmp2 .le .le (.cStr [48]) (.loc 3) (.cStr [57]))) (.ret .cNone) .skip) (.asg 2 (.bin .sub (.bin .add (.bin .mul (.loc 2) (.cInt (10))) (.ord (.loc 3))) (.ord (.cStr [48])))))) (.ret (.ite (.cmp .le (.loc 2) (.loc 1)) (.loc 2) .cNone)))))
noncomputable def c_ip4_of : S := (.seq (.asg 1 (.split (.loc 0) (.cStr [46]))) (.seq (.iff (.cmp .ne (.len (.loc 1)) (.cInt (4))) (.ret .cNone) .skip) (.seq (.asg 2 (.cInt (0))) (.seq (.forr [3] (.loc 1) (.seq (.asg 4 (.call 8 (.cons (.loc 3) (.cons (.cInt (255)) .nil)))) (.seq (.iff (.cmp .is (.loc 4) .cNone) (.ret .cNone) .skip) (.asg 2 (.bin .add (.bin .mul (.loc 2) (.cInt (256))) (.loc 4)))))) (.ret (.loc 2))))))
noncomputable def c_mask_of : S := (.ret (.bin .sub (.bin .shl (.cInt (1)) (.loc 1)) (.bin .shl (.cInt (1)) (.bin .sub (.loc 1) (.loc 0)))))
noncomputable def c_prefix_span : S := (.seq (.asg 3 (.bin .band (.loc 0) (.call 14 (.cons (.loc 1) (.cons (.loc 2) .nil))))) (.ret (.tup (.cons (.loc 3) (.cons (.bin .sub (.bin .add (.loc 3) (.bin .shl (.cInt (1)) (.bin .sub (.loc 2) (.loc 1)))) (.cInt (1))) .nil)))))
noncomputable def c_prefix_of : S := (.seq (.asg 1 (.split (.loc 0) (.cStr [47]))) (.seq (.iff (.cmp .gt (.len (.loc 1)) (.cInt (2))) (.ret .cNone) .skip) (.seq (.asgT [2,3] (.tup (.cons (.cInt (2)) (.cons (.cInt (32)) .nil)))) (.seq (.asg 4 (.call 10 (.cons (.idx (.loc 1) (.cInt (0))) .nil))) (.seq (.iff (.cmp .is (.loc 4) .cNone) (.seq (.asgT [2,3] (.tup (.cons (.cInt (10)) (.cons (.cInt (128)) .nil)))) (.asg 4 (.call 12 (.cons (.idx (.loc 1) (.cInt (0))) .nil)))) .skip) (.seq (.iff (.cmp .is (.loc 4) .cNone) (.ret .cNone) .skip) (.seq (.asg 5 (.ite (.cmp .eq (.len (.loc 1)) (.cInt (1))) (.loc 3) (.call 8 (.cons (.idx (.loc 1) (.cInt (1))) (.cons (.loc 3) .nil))))) (.seq (.iff (.cmp .is (.loc 5) .cNone) (.ret .cNone) .skip) (.ret (.tup (.cons (.loc 2) (.cons (.bin .band (.loc 4) (.call 14 (.cons (.loc 5) (.cons (.loc 3) .nil)))) (.cons (.loc 5) .nil)))))))))))))
noncomputable def c_based_number : S := (.seq (.iff (.cmp .eq (.loc 0) (.cStr [])) (.ret .cNone) .skip) (.seq (.asg 2 (.cInt (0))) (.seq (.forr [3] (.loc 0) (.seq (.asg 4 (.find (.cStr [48,49,50,51,52,53,54,55,56,57,97,98,99,100,101,102]) (.lower (.loc 3)))) (.seq (.iff (.or (.cmp .lt (.loc 4) (.cInt (0))) (.cmp .ge (.loc 4) (.loc 1))) (.ret .cNone) .skip) (.asg 2 (.bin .add (.bin .mul (.loc 2) (.loc 1)) (.loc 4)))))) (.ret (.loc 2)))))
noncomputable def c_number_word : S := (.seq (.iff (.cmp .eq (.slice (.loc 0) .cNone (.cInt (2))) (.cStr [48,120])) (.ret (.call 18 (.cons (.slice (.loc 0) (.cInt (2)) .cNone) (.cons (.cInt (16)) .nil)))) .skip) (.ret (.call 18 (.cons (.loc 0) (.cons (.cInt (10)) .nil)))))
noncomputable def c_time_units : S := (.ret (.tup (.cons (.tup (.cons (.cStr [100]) (.cons (.cInt (86400000)) .nil))) (.cons (.tup (.cons (.cStr [104]) (.cons (.cInt (3600000)) .nil))) (.cons (.tup (.cons (.cStr [109]) (.cons (.cInt (60000)) .nil))) (.cons (.tup (.cons (.cStr [115]) (.cons (.cInt (1000)) .nil))) (.cons (.tup (.cons (.cStr [109,115]) (.cons (.cInt (1)) .nil))) .nil)))))))
noncomputable def c_part_end : S := (.seq (.whl (.and (.cmp .lt (.loc 1) (.len (.loc 0))) (.cmp .eq (.cmp .isin (.idx (.loc 0) (.loc 1)) (.cStr [48,49,50,51,52,53,54,55,56,57])) (.loc 2))) (.aug 1 .add (.cInt (1)))) (.ret (.loc 1)))
noncomputable def c_time_word : S := (.seq (.asg 1 (.call 18 (.cons (.loc 0) (.cons (.cInt (10)) .nil)))) (.seq (.iff (.cmp .isnot (.loc 1) .cNone) (.ret (.bin .mul (.loc 1) (.cInt (1000)))) .skip) (.seq (.iff (.cmp .eq (.loc 0) (.cStr [])) (.ret .cNone) .skip) (.seq (.asg 2 (.call 20 .nil)) (.seq (.asg 3 (.cInt (0))) (.seq (.asg 4 (.cInt (0))) (.seq (.asg 5 (.cInt (0))) (.seq (.whl (.cmp .lt (.loc 5) (.len (.loc 0))) (.seq (.asg 6 (.call 21 (.cons (.loc 0) (.cons (.loc 5) (.cons (.cBool true) .nil))))) (.seq (.asg 7 (.call 21 (.cons (.loc 0) (.cons (.loc 6) (.cons (.cBool false) .nil))))) (.seq (.asg 8 (.call 18 (.cons (.slice (.loc 0) (.loc 5) (.loc 6)) (.cons (.cInt (10)) .nil)))) (.seq (.asg 9 (.neg (.cInt (1)))) (.seq (.forR [10] (.loc 4) (.len (.loc 2)) (.iff (.cmp .eq (.idx (.idx (.loc 2) (.loc 10)) (.cInt (0))) (.slice (.loc 0) (.loc 6) (.loc 7))) (.asg 9 (.loc 10)) .skip)) (.seq (.iff (.or (.cmp .is (.loc 8) .cNone) (.cmp .lt (.loc 9) (.cInt (0)))) (.ret .cNone) .skip) (.seq (.aug 3 .add (.bin .mul (.loc 8) (.idx (.idx (.loc 2) (.loc 9)) (.cInt (1))))) (.seq (.asg 4 (.bin .add (.loc 9) (.cInt (1)))) (.asg 5 (.loc 7))))))))))) (.ret (.loc 3))))))))))
noncomputable def c_mask_word : S := (.seq (.asg 2 (.cInt (0))) (.seq (.forr [3] (.split (.loc 1) (.cStr [44])) (.seq (.asg 4 (.call 19 (.cons (.loc 3) .nil))) (.seq (.iff (.cmp .isin (.loc 3) (.loc 0)) (.asg 4 (.idx (.loc 0) (.loc 3))) .skip) (.seq (.iff (.cmp .is (.loc 4) .cNone) (.ret .cNone) .skip) (.asg 2 (.bin .bor (.loc 2) (.loc 4))))))) (.ret (.loc 2))))
noncomputable def c_value_of_word : S := (.seq (.asg 3 (.idx (.loc 0) (.cInt (2)))) (.seq (.iff (.cmp .isin (.loc 2) (.idx (.loc 0) (.cInt (3)))) (.asg 4 (.idx (.idx (.loc 0) (.cInt (3))) (.loc 2))) (.iff (.cmp .eq (.loc 3) (.cStr [105,112,52])) (.asg 4 (.call 10 (.cons (.loc 2) .nil))) (.iff (.cmp .eq (.loc 3) (.cStr [105,112,54])) (.asg 4 (.call 12 (.cons (.loc 2) .nil))) (.iff (.cmp .eq (.loc 3) (.cStr [109,97,99])) (.asg 4 (.call 13 (.cons (.loc 2) .nil))) (.iff (.cmp .eq (.loc 3) (.cStr [110,97,109,101])) (.asg 4 (.call 24 (.cons (.loc 2) .nil))) (.iff (.cmp .eq (.loc 3) (.cStr [116,105,109,101])) (.asg 4 (.call 22 (.cons (.loc 2) .nil))) (.iff (.cmp .eq (.loc 3) (.cStr [109,97,115,107])) (.asg 4 (.call 26 (.cons (.idx (.loc 0) (.cInt (3))) (.cons (.loc 2) .nil)))) (.asg 4 (.call 19 (.cons (.loc 2) .nil)))))))))) (.seq (.iff (.and (.cmp .isnot (.loc 4) .cNone) (.cmp .ne (.bin .shr (.loc 4) (.loc 1)) (.cInt (0)))) (.ret (.neg (.cInt (1)))) .skip) (.ret (.loc 4)))))
noncomputable def c_address_span : S := (.seq (.asg 3 (.call 16 (.cons (.loc 2) .nil))) (.seq (.iff (.or (.cmp .is (.loc 3) .cNone) (.cmp .ne (.cmp .eq (.idx (.loc 3) (.cInt (0))) (.cInt (2))) (.cmp .eq (.loc 0) (.cStr [105,112,52])))) (.ret .cNone) .skip) (.ret (.call 15 (.cons (.idx (.loc 3) (.cInt (1))) (.cons (.idx (.loc 3) (.cInt (2))) (.cons (.loc 1) .nil)))))))
noncomputable def c_ends_span : S := (.seq (.forR [3] (.cInt (0)) (.len (.loc 2)) (.iff (.cmp .eq (.idx (.loc 2) (.loc 3)) (.cStr [45])) (.seq (.asg 4 (.call 27 (.cons (.loc 0) (.cons (.loc 1) (.cons (.slice (.loc 2) .cNone (.loc 3)) .nil))))) (.seq (.asg 5 (.call 27 (.cons (.loc 0) (.cons (.loc 1) (.cons (.slice (.loc 2) (.bin .add (.loc 3) (.cInt (1))) .cNone) .nil))))) (.iff (.and (.cmp .isnot (.loc 4) .cNone) (.cmp .isnot (.loc 5) .cNone)) (.seq (.iff (.or (.cmp .lt (.loc 4) (.cInt (0))) (.cmp .lt (.loc 5) (.cInt (0)))) (.ret (.neg (.cInt (1)))) .skip) (.seq (.iff (.cmp .gt (.loc 4) (.loc 5)) (.ret .cNone) .skip) (.ret (.tup (.cons (.loc 4) (.cons (.loc 5) .nil)))))) .skip))) .skip)) (.ret .cNone))
noncomputable def c_span_of_word : S := (.seq (.asg 3 (.idx (.loc 0) (.cInt (2)))) (.seq (.asg 4 .cNone) (.seq (.iff (.cmp .eq (.loc 3) (.cStr [110,97,109,101])) (.asg 4 (.call 25 (.cons (.loc 2) .nil))) (.iff (.and (.cmp .isin (.cStr [47]) (.loc 2)) (.or (.cmp .eq (.loc 3) (.cStr [105,112,52])) (.cmp .eq (.loc 3) (.cStr [105,112,54])))) (.asg 4 (.call 28 (.cons (.loc 3) (.cons (.loc 1) (.cons (.loc 2) .nil))))) .skip)) (.seq (.iff (.cmp .isnot (.loc 4) .cNone) (.ret (.loc 4)) .skip) (.seq (.asg 5 (.call 27 (.cons (.loc 0) (.cons (.loc 1) (.cons (.loc 2) .nil))))) (.seq (.iff (.cmp .is (.loc 5) .cNone) (.ret (.call 29 (.cons (.loc 0) (.cons (.loc 1) (.cons (.loc 2) .nil))))) .skip) (.seq (.iff (.cmp .lt (.loc 5) (.cInt (0))) (.ret (.neg (.cInt (1)))) .skip) (.ret (.tup (.cons (.loc 5) (.cons (.loc 5) .nil)))))))))))
noncomputable def c_read_text : S := (.seq (.iff (.cmp .notin (.idx (.meth (.loc 0) [108,111,111,107] .nil) (.cInt (0))) (.tup (.cons (.cStr [115,116,114,105,110,103]) (.cons (.cStr [119,111,114,100]) .nil)))) .bad .skip) (.ret (.idx (.meth (.loc 0) [116,97,107,101] .nil) (.cInt (1)))))
noncomputable def c_read_comment : S := (.seq (.ex (.meth (.loc 0) [116,97,107,101] .nil)) (.seq (.iff (.cmp .gt (.len (.idx (.meth (.loc 0) [108,111,111,107] .nil) (.cInt (1)))) (.cInt (128))) .bad .skip) (.ret (.call 32 (.cons (.loc 0) .nil)))))
noncomputable def c_read_time : S := (.seq (.asg 1 (.meth (.loc 0) [108,111,111,107] .nil)) (.seq (.asg 2 (.ite (.cmp .eq (.idx (.loc 1) (.cInt (0))) (.cStr [119,111,114,100])) (.call 22 (.cons (.idx (.loc 1) (.cInt (1))) .nil)) .cNone)) (.seq (.iff (.cmp .is (.loc 2) .cNone) .bad .skip) (.seq (.ex (.meth (.loc 0) [116,97,107,101] .nil)) (.ret (.loc 2))))))
noncomputable def c_type_here : S := (.seq (.iff (.cmp .notin (.loc 1) (.attr (.attr (.loc 0) [116,111,110,103,117,101]) [116,121,112,101,115])) .bad .skip) (.ret (.idx (.attr (.attr (.loc 0) [116,111,110,103,117,101]) [116,121,112,101,115]) (.loc 1))))
noncomputable def c_is_mask_kind : S := (.ret (.cmp .eq (.idx (.call 35 (.cons (.loc 0) (.cons (.idx (.loc 1) (.cInt (0))) .nil))) (.cInt (2))) (.cStr [109,97,115,107])))
noncomputable def c_resolved : S := (.seq (.iff (.cmp .is (.loc 3) .cNone) .bad .skip) (.seq (.iff (.cmp .eq (.loc 3) (.neg (.cInt (1)))) .bad .skip) (.ret (.loc 3))))
noncomputable def c_span_of_text : S := (.ret (.call 37 (.cons (.loc 0) (.cons (.loc 1) (.cons (.loc 2) (.cons (.call 30 (.cons (.call 35 (.cons (.loc 0) (.cons (.idx (.loc 1) (.cInt (0))) .nil))) (.cons (.idx (.loc 1) (.cInt (1))) (.cons (.loc 2) .nil)))) .nil))))))
noncomputable def c_value_of_text : S := (.ret (.call 37 (.cons (.loc 0) (.cons (.loc 1) (.cons (.loc 2) (.cons (.call 27 (.cons (.call 35 (.cons (.loc 0) (.cons (.idx (.loc 1) (.cInt (0))) .nil))) (.cons (.idx (.loc 1) (.cInt (1))) (.cons (.loc 2) .nil)))) .nil))))))
noncomputable def c_read_from : S := (.seq (.asg 3 (.meth (.loc 0) [108,111,111,107] .nil)) (.seq (.iff (.cmp .notin (.idx (.loc 3) (.cInt (0))) (.tup (.cons (.cStr [119,111,114,100]) (.cons (.cStr [115,116,114,105,110,103]) .nil)))) .bad .skip) (.seq (.asg 4 (.call 39 (.cons (.loc 0) (.cons (.loc 1) (.cons (.idx (.loc 3) (.cInt (1))) .nil))))) (.seq (.iff (.cmp .lt (.loc 4) (.loc 2)) .bad .skip) (.seq (.ex (.meth (.loc 0) [116,97,107,101] .nil)) (.ret (.loc 4)))))))
noncomputable def c_read_value : S := (.ret (.call 40 (.cons (.loc 0) (.cons (.loc 1) (.cons (.cInt (0)) .nil)))))
noncomputable def c_read_span : S := (.seq (.asg 2 (.meth (.loc 0) [108,111,111,107] .nil)) (.seq (.iff (.cmp .notin (.idx (.loc 2) (.cInt (0))) (.tup (.cons (.cStr [119,111,114,100]) (.cons (.cStr [115,116,114,105,110,103]) .nil)))) .bad .skip) (.seq (.asg 3 (.and (.cmp .eq (.idx (.call 35 (.cons (.loc 0) (.cons (.idx (.loc 1) (.cInt (0))) .nil))) (.cInt (2))) (.cStr [110,97,109,101])) (.cmp .eq (.slice (.idx (.loc 2) (.cInt (1))) (.neg (.cInt (1))) .cNone) (.cStr [42])))) (.seq (.iff (.or (.cmp .eq (.idx (.loc 2) (.cInt (0))) (.cStr [119,111,114,100])) (.loc 3)) (.asg 4 (.call 38 (.cons (.loc 0) (.cons (.loc 1) (.cons (.idx (.loc 2) (.cInt (1))) .nil))))) (.seq (.asg 5 (.call 39 (.cons (.loc 0) (.cons (.loc 1) (.cons (.idx (.loc 2) (.cInt (1))) .nil))))) (.asg 4 (.tup (.cons (.loc 5) (.cons (.loc 5) .nil)))))) (.seq (.ex (.meth (.loc 0) [116,97,107,101] .nil)) (.seq (.iff (.and (.cmp .eq (.idx (.loc 2) (.cInt (0))) (.cStr [115,116,114,105,110,103])) (.and (.not (.loc 3)) (.and (.meth (.loc 0) [105,115,95,119,111,114,100] (.cons (.cStr [45]) .nil)) (.cmp .eq (.idx (.meth (.loc 0) [108,111,111,107] (.cons (.cInt (1)) .nil)) (.cInt (0))) (.cStr [115,116,114,105,110,103]))))) (.seq (.ex (.meth (.loc 0) [116,97,107,101] .nil)) (.asg 4 (.tup (.cons (.idx (.loc 4) (.cInt (0))) (.cons (.call 40 (.cons (.loc 0) (.cons (.loc 1) (.cons (.idx (.loc 4) (.cInt (0))) .nil)))) .nil))))) .skip) (.ret (.loc 4))))))))
noncomputable def c_barred : S := (.seq (.iff (.call 36 (.cons (.loc 0) (.cons (.loc 1) .nil))) (.whl (.meth (.loc 0) [115,107,105,112,95,115,105,103,110] (.cons (.cStr [124]) .nil)) (.asg 2 (.bin .bor (.loc 2) (.call 41 (.cons (.loc 0) (.cons (.loc 1) .nil)))))) .skip) (.ret (.loc 2)))
noncomputable def c_read_verdict : S := (.seq (.asg 1 (.meth (.loc 0) [108,111,111,107] .nil)) (.seq (.iff (.cmp .ne (.idx (.loc 1) (.cInt (0))) (.cStr [119,111,114,100])) (.ret .cNone) .skip) (.seq (.iff (.cmp .isin (.idx (.loc 1) (.cInt (1))) (.tup (.cons (.cStr [97,99,99,101,112,116]) (.cons (.cStr [100,114,111,112]) (.cons (.cStr [99,111,110,116,105,110,117,101]) (.cons (.cStr [114,101,116,117,114,110]) .nil)))))) (.seq (.ex (.meth (.loc 0) [116,97,107,101] .nil)) (.ret (.tup (.cons (.idx (.loc 1) (.cInt (1))) (.cons (.cStr []) .nil))))) .skip) (.seq (.iff (.cmp .isin (.idx (.loc 1) (.cInt (1))) (.tup (.cons (.cStr [106,117,109,112]) (.cons (.cStr [103,111,116,111]) .nil)))) (.seq (.ex (.meth (.loc 0) [116,97,107,101] .nil)) (.ret (.tup (.cons (.idx (.loc 1) (.cInt (1))) (.cons (.meth (.loc 0) [119,97,110,116,95,119,111,114,100] .nil) .nil))))) .skip) (.ret .cNone)))))
noncomputable def c_read_box : S := (.seq (.asgNew 2 .nil) (.seq (.forr [3] (.loc 1) (.seq (.iff (.cmp .gt (.len (.loc 2)) (.cInt (0))) (.ex (.meth (.loc 0) [119,97,110,116,95,115,105,103,110] (.cons (.cStr [46]) .nil))) .skip) (.seq (.asgT [4,5] (.call 42 (.cons (.loc 0) (.cons (.loc 3) .nil)))) (.seq (.iff (.cmp .eq (.loc 4) (.loc 5)) (.seq (.asg 4 (.call 43 (.cons (.loc 0) (.cons (.loc 3) (.cons (.loc 4) .nil))))) (.asg 5 (.loc 4))) .skip) (.ex (.append (.loc 2) (.tup (.cons (.loc 4) (.cons (.loc 5) .nil))))))))) (.ret (.tupleOf (.loc 2)))))
noncomputable def c_read_datum : S := (.seq (.iff (.cmp .eq (.loc 1) (.cStr [118,101,114,100,105,99,116])) (.seq (.asg 3 (.call 44 (.cons (.loc 0) .nil))) (.seq (.iff (.cmp .is (.loc 3) .cNone) .bad .skip) (.ret (.loc 3)))) .skip) (.seq (.asgNew 4 .nil) (.seq (.forr [5] (.loc 1) (.seq (.iff (.and (.cmp .gt (.len (.loc 4)) (.cInt (0))) (.and (.not (.loc 2)) (.not (.meth (.loc 0) [105,115,95,115,105,103,110] (.cons (.cStr [46]) .nil))))) .brk .skip) (.seq (.iff (.cmp .gt (.len (.loc 4)) (.cInt (0))) (.ex (.meth (.loc 0) [119,97,110,116,95,115,105,103,110] (.cons (.cStr [46]) .nil))) .skip) (.ex (.append (.loc 4) (.call 43 (.cons (.loc 0) (.cons (.loc 5) (.cons (.call 41 (.cons (.loc 0) (.cons (.loc 5) .nil))) .nil))))))))) (.ret (.tupleOf (.loc 4))))))
noncomputable def c_read_literal : S := (.seq (.asg 4 (.call 45 (.cons (.loc 0) (.cons (.loc 1) .nil)))) (.seq (.asg 5 (.cInt (0))) (.seq (.asg 6 (.cStr [])) (.seq (.iff (.meth (.loc 0) [105,115,95,119,111,114,100] (.cons (.cStr [116,105,109,101,111,117,116]) .nil)) (.seq (.ex (.meth (.loc 0) [116,97,107,101] .nil)) (.asg 5 (.call 34 (.cons (.loc 0) .nil)))) .skip) (.seq (.iff (.meth (.loc 0) [105,115,95,119,111,114,100] (.cons (.cStr [99,111,109,109,101,110,116]) .nil)) (.asg 6 (.call 33 (.cons (.loc 0) .nil))) .skip) (.seq (.iff (.cmp .is (.loc 2) .cNone) (.ret (.tup (.cons (.loc 4) (.cons .cNone (.cons (.loc 5) (.cons (.loc 6) .nil)))))) .skip) (.seq (.ex (.meth (.loc 0) [119,97,110,116,95,115,105,103,110] (.cons (.cStr [58]) .nil))) (.ret (.tup (.cons (.loc 4) (.cons (.call 46 (.cons (.loc 0) (.cons (.loc 2) (.cons (.loc 3) .nil)))) (.cons (.loc 5) (.cons (.loc 6) .nil)))))))))))))
noncomputable def c_read_braces : S := (.seq (.ex (.meth (.loc 0) [119,97,110,116,95,115,105,103,110] (.cons (.cStr [123]) .nil))) (.seq (.ex (.meth (.loc 0) [115,107,105,112,95,114,111,119,115] .nil)) (.seq (.asgNew 4 .nil) (.seq (.whl (.not (.meth (.loc 0) [105,115,95,115,105,103,110] (.cons (.cStr [125]) .nil))) (.seq (.iff (.meth (.loc 0) [105,115,95,115,105,103,110] (.cons (.cStr [123]) .nil)) (.ex (.extend (.loc 4) (.call 48 (.cons (.loc 0) (.cons (.loc 1) (.cons (.loc 2) (.cons (.loc 3) .nil))))))) (.ex (.append (.loc 4) (.call 47 (.cons (.loc 0) (.cons (.loc 1) (.cons (.loc 2) (.cons (.loc 3) .nil)))))))) (.seq (.ex (.meth (.loc 0) [115,107,105,112,95,114,111,119,115] .nil)) (.seq (.iff (.not (.meth (.loc 0) [115,107,105,112,95,115,105,103,110] (.cons (.cStr [44]) .nil))) .brk .skip) (.ex (.meth (.loc 0) [115,107,105,112,95,114,111,119,115] .nil)))))) (.seq (.ex (.meth (.loc 0) [119,97,110,116,95,115,105,103,110] (.cons (.cStr [125]) .nil))) (.ret (.tupleOf (.loc 4))))))))
noncomputable def c_read_literals : S := (.ret (.call 48 (.cons (.loc 0) (.cons (.loc 1) (.cons (.loc 2) (.cons (.cBool true) .nil))))))
noncomputable def c_law_keys : S := (.ret (.dct [[105,112,118,52,95,97,100,100,114],[105,110,101,116,95,115,101,114,118,105,99,101],[116,99,112,95,102,108,97,103]] (.cons (.tup (.cons (.tup (.cons (.cStr [49,48,46,48,46,48,46,49]) (.cons (.cInt (167772161)) (.cons (.cInt (167772161)) .nil)))) (.cons (.tup (.cons (.cStr [48,46,48,46,48,46,48]) (.cons (.cInt (0)) (.cons (.cInt (0)) .nil)))) (.cons (.tup (.cons (.cStr [49,48,46,48,46,48,46,57,47,51,48]) (.cons (.cInt (167772168)) (.cons (.cInt (167772171)) .nil)))) (.cons (.tup (.cons (.cStr [49,48,46,48,46,48,46,49,45,49,48,46,48,46,48,46,53]) (.cons (.cInt (167772161)) (.cons (.cInt (167772165)) .nil)))) .nil))))) (.cons (.tup (.cons (.tup (.cons (.cStr [115,115,104]) (.cons (.cInt (22)) (.cons (.cInt (22)) .nil)))) (.cons (.tup (.cons (.cStr [48,120,53,48]) (.cons (.cInt (80)) (.cons (.cInt (80)) .nil)))) (.cons (.tup (.cons (.cStr [56,48,45,52,52,51]) (.cons (.cInt (80)) (.cons (.cInt (443)) .nil)))) (.cons (.tup (.cons (.cStr [50,50,45,48,50,50]) (.cons (.cInt (22)) (.cons (.cInt (22)) .nil)))) .nil))))) (.cons (.tup (.cons (.tup (.cons (.cStr [97,99,107]) (.cons (.cInt (16)) (.cons (.cInt (16)) .nil)))) (.cons (.tup (.cons (.cStr [115,121,110,32,124,32,48,120,49,48,32,124,32,49]) (.cons (.cInt (19)) (.cons (.cInt (19)) .nil)))) (.cons (.tup (.cons (.cStr [49,56]) (.cons (.cInt (18)) (.cons (.cInt (18)) .nil)))) (.cons (.tup (.cons (.cStr [48,32,124,32,115,121,110]) (.cons (.cInt (2)) (.cons (.cInt (2)) .nil)))) .nil))))) .nil)))))
noncomputable def c_law_draw : S := (.seq (.asg 2 (.idx (.loc 0) (.cInt (1)))) (.seq (.setI (.loc 0) (.cInt (1)) (.bin .add (.loc 2) (.cInt (1)))) (.seq (.asg 3 (.ite (.cmp .ne (.idx (.loc 0) (.cInt (0))) (.lst .nil)) (.idx (.idx (.loc 0) (.cInt (0))) (.bin .mod (.loc 2) (.len (.idx (.loc 0) (.cInt (0)))))) (.cInt (0)))) (.ret (.bin .mod (.bin .add (.loc 3) (.bin .mod (.bin .mul (.cInt (29)) (.loc 2)) (.cInt (71)))) (.loc 1))))))
noncomputable def c_law_told : S := (.ret (.comp 1 [0] (.split (.loc 0) (.cStr [32])) (.tup (.cons (.ite (.cmp .isin (.loc 0) (.tup (.cons (.cStr [46]) (.cons (.cStr [124]) .nil)))) (.cStr [115,105,103,110]) (.cStr [119,111,114,100])) (.cons (.loc 0) .nil))) (.cBool true)))
noncomputable def c_law_key : S := (.seq (.asgNew 3 .nil) (.seq (.asgNew 4 .nil) (.seq (.forr [5] (.loc 1) (.seq (.iff (.cmp .ne (.loc 4) (.lst .nil)) (.ex (.append (.loc 3) (.tup (.cons (.cStr [115,105,103,110]) (.cons (.cStr [46]) .nil))))) .skip) (.seq (.asgT [6,7,8] (.idx (.idx (.call 50 .nil) (.loc 5)) (.call 51 (.cons (.loc 0) (.cons (.loc 2) .nil))))) (.seq (.ex (.extend (.loc 3) (.call 52 (.cons (.loc 6) .nil)))) (.ex (.append (.loc 4) (.tup (.cons (.loc 7) (.cons (.loc 8) .nil))))))))) (.ret (.tup (.cons (.loc 3) (.cons (.loc 4) .nil)))))))
noncomputable def c_law_element : S := (.seq (.asgT [3,4] (.call 53 (.cons (.loc 0) (.cons (.loc 1) (.cons (.cInt (4)) .nil))))) (.seq (.asg 5 (.idx (.tup (.cons (.cInt (0)) (.cons (.cInt (61000)) (.cons (.cInt (5500)) .nil)))) (.call 51 (.cons (.loc 0) (.cons (.cInt (3)) .nil))))) (.seq (.iff (.cmp .gt (.loc 5) (.cInt (0))) (.ex (.extend (.loc 3) (.lst (.cons (.tup (.cons (.cStr [119,111,114,100]) (.cons (.cStr [116,105,109,101,111,117,116]) .nil))) (.cons (.tup (.cons (.cStr [119,111,114,100]) (.cons (.ite (.cmp .eq (.loc 5) (.cInt (61000))) (.cStr [49,109,49,115]) (.cStr [53,115,53,48,48,109,115])) .nil))) .nil))))) .skip) (.seq (.asgT [6,7] (.idx (.tup (.cons (.tup (.cons (.cStr []) (.cons (.cStr []) .nil))) (.cons (.tup (.cons (.cStr [115,116,114,105,110,103]) (.cons (.cStr [97,44,32,125,32,35,32,98]) .nil))) (.cons (.tup (.cons (.cStr [119,111,114,100]) (.cons (.cStr [120,46,121]) .nil))) (.cons (.tup (.cons (.cStr [115,116,114,105,110,103]) (.cons (.cStr []) .nil))) .nil))))) (.call 51 (.cons (.loc 0) (.cons (.cInt (4)) .nil))))) (.seq (.iff (.cmp .ne (.loc 6) (.cStr [])) (.ex (.extend (.loc 3) (.lst (.cons (.tup (.cons (.cStr [119,111,114,100]) (.cons (.cStr [99,111,109,109,101,110,116]) .nil))) (.cons (.tup (.cons (.loc 6) (.cons (.loc 7) .nil))) .nil))))) .skip) (.seq (.iff (.cmp .is (.loc 2) .cNone) (.ret (.tup (.cons (.loc 3) (.cons (.tup (.cons (.tupleOf (.loc 4)) (.cons .cNone (.cons (.loc 5) (.cons (.loc 7) .nil))))) .nil)))) .skip) (.seq (.ex (.append (.loc 3) (.tup (.cons (.cStr [115,105,103,110]) (.cons (.cStr [58]) .nil))))) (.seq (.iff (.cmp .eq (.loc 2) (.cStr [118,101,114,100,105,99,116])) (.seq (.asg 8 (.idx (.tup (.cons (.tup (.cons (.cStr [100,114,111,112]) (.cons (.cStr []) .nil))) (.cons (.tup (.cons (.cStr [103,111,116,111]) (.cons (.cStr [99,50]) .nil))) (.cons (.tup (.cons (.cStr [99,111,110,116,105,110,117,101]) (.cons (.cStr []) .nil))) .nil)))) (.call 51 (.cons (.loc 0) (.cons (.cInt (3)) .nil))))) (.seq (.ex (.extend (.loc 3) (.comp 1 [0] (.loc 8) (.tup (.cons (.cStr [119,111,114,100]) (.cons (.loc 0) .nil))) (.cmp .ne (.loc 0) (.cStr []))))) (.ret (.tup (.cons (.loc 3) (.cons (.tup (.cons (.tupleOf (.loc 4)) (.cons (.loc 8) (.cons (.loc 5) (.cons (.loc 7) .nil))))) .nil)))))) .skip) (.seq (.asgT [9,10] (.call 53 (.cons (.loc 0) (.cons (.loc 2) (.cons (.cInt (2)) .nil))))) (.ret (.tup (.cons (.bin .add (.loc 3) (.loc 9)) (.cons (.tup (.cons (.tupleOf (.loc 4)) (.cons (.tupleOf (.comp 2 [0,1] (.loc 10) (.loc 0) (.cBool true))) (.cons (.loc 5) (.cons (.loc 7) .nil))))) .nil)))))))))))))
noncomputable def c_law_braces : S := (.seq (.asgNew 4 (.cons (.tup (.cons (.cStr [115,105,103,110]) (.cons (.cStr [123]) (.cons (.cmp .gt (.loc 3) (.cInt (0))) .nil)))) .nil)) (.seq (.asgNew 5 .nil) (.seq (.asg 6 (.ite (.cmp .eq (.loc 3) (.cInt (0))) (.bin .sub (.cInt (3)) (.call 51 (.cons (.loc 0) (.cons (.cInt (2)) .nil)))) (.call 51 (.cons (.loc 0) (.cons (.bin .sub (.cInt (4)) (.loc 3)) .nil))))) (.seq (.forR [7] (.cInt (0)) (.loc 6) (.seq (.iff (.cmp .gt (.loc 7) (.cInt (0))) (.ex (.append (.loc 4) (.tup (.cons (.cStr [115,105,103,110]) (.cons (.cStr [44]) (.cons (.cBool true) .nil)))))) .skip) (.iff (.and (.cmp .lt (.loc 3) (.cInt (2))) (.cmp .eq (.call 51 (.cons (.loc 0) (.cons (.cInt (3)) .nil))) (.cInt (0)))) (.seq (.asgT [8,9] (.call 55 (.cons (.loc 0) (.cons (.loc 1) (.cons (.loc 2) (.cons (.bin .add (.loc 3) (.cInt (1))) .nil)))))) (.seq (.ex (.extend (.loc 4) (.loc 8))) (.ex (.extend (.loc 5) (.loc 9))))) (.seq (.asgT [10,11] (.call 54 (.cons (.loc 0) (.cons (.loc 1) (.cons (.loc 2) .nil))))) (.seq (.ex (.extend (.loc 4) (.compE 2 [0,1] (.loc 10) (.tup (.cons (.idx (.loc 1) (.cInt (0))) (.cons (.idx (.loc 1) (.cInt (1))) (.cons (.cmp .eq (.loc 0) (.cInt (0))) .nil)))) (.cBool true)))) (.ex (.append (.loc 5) (.loc 11)))))))) (.seq (.iff (.and (.cmp .gt (.loc 6) (.cInt (0))) (.cmp .eq (.call 51 (.cons (.loc 0) (.cons (.cInt (2)) .nil))) (.cInt (0)))) (.ex (.append (.loc 4) (.tup (.cons (.cStr [115,105,103,110]) (.cons (.cStr [44]) (.cons (.cBool true) .nil)))))) .skip) (.seq (.ex (.append (.loc 4) (.tup (.cons (.cStr [115,105,103,110]) (.cons (.cStr [125]) (.cons (.cBool true) .nil)))))) (.ret (.tup (.cons (.loc 4) (.cons (.loc 5) .nil))))))))))
noncomputable def c_law_place : S := (.seq (.asg 1 (.split (.loc 0) (.cStr [10]))) (.ret (.tup (.cons (.len (.loc 1)) (.cons (.bin .add (.len (.idx (.loc 1) (.neg (.cInt (1))))) (.cInt (1))) .nil)))))
noncomputable def c_law_written : S := (.seq (.asg 2 (.cStr [])) (.seq (.asgNew 3 .nil) (.seq (.asg 4 (.cStr [])) (.seq (.forr [5,6,7] (.loc 1) (.seq (.asg 8 (.idx (.glob 1) (.call 51 (.cons (.loc 0) (.cons (.ite (.loc 7) (.cInt (8)) (.cInt (4))) .nil))))) (.seq (.asg 9 (.or (.cmp .eq (.loc 5) (.cStr [119,111,114,100])) (.cmp .isin (.loc 6) (.tup (.cons (.cStr [46]) (.cons (.cStr [58]) .nil)))))) (.seq (.iff (.and (.cmp .eq (.loc 8) (.tup .nil)) (.and (.loc 9) (.and (.cmp .notin (.loc 4) (.tup (.cons (.cStr []) (.cons (.cStr [58]) .nil)))) (.cmp .ne (.loc 6) (.cStr [58]))))) (.asg 8 (.tup (.cons (.cStr [32]) .nil))) .skip) (.seq (.forr [10] (.loc 8) (.seq (.iff (.cmp .eq (.loc 10) (.cStr [10])) (.ex (.append (.loc 3) (.bin .add (.tup (.cons (.cStr [101,110,100]) (.cons (.cStr [10]) .nil))) (.call 56 (.cons (.loc 2) .nil))))) .skip) (.asg 2 (.bin .add (.loc 2) (.loc 10))))) (.seq (.iff (.cmp .ne (.loc 8) (.tup .nil)) (.asg 4 (.cStr [])) .skip) (.seq (.asg 4 (.ite (.loc 9) (.bin .add (.loc 4) (.loc 6)) (.cStr []))) (.seq (.ex (.append (.loc 3) (.bin .add (.tup (.cons (.loc 5) (.cons (.loc 6) .nil))) (.call 56 (.cons (.loc 2) .nil))))) (.asg 2 (.bin .add (.loc 2) (.ite (.cmp .eq (.loc 5) (.cStr [115,116,114,105,110,103])) (.bin .add (.bin .add (.cStr [34]) (.loc 6)) (.cStr [34])) (.loc 6)))))))))))) (.seq (.ex (.append (.loc 3) (.bin .add (.tup (.cons (.cStr [101,111,102]) (.cons (.cStr []) .nil))) (.call 56 (.cons (.loc 2) .nil))))) (.ret (.tup (.cons (.loc 2) (.cons (.loc 3) .nil)))))))))
noncomputable def c_law_kinds : S := (.seq (.iff (.or (.cmp .is (.loc 0) .cNone) (.cmp .eq (.loc 0) (.cStr [118,101,114,100,105,99,116]))) (.ret (.loc 0)) .skip) (.ret (.tupleOf (.comp 1 [0] (.loc 0) (.tup (.cons (.loc 0) (.cons (.idx (.idx (.glob 0) (.loc 0)) (.cInt (0))) .nil))) (.cBool true)))))
noncomputable def c_law : S := (.seq (.asgNew 1 (.cons (.slice (.loc 0) .cNone (.cInt (63))) (.cons (.cInt (0)) .nil))) (.seq (.asg 2 (.idx (.tup (.cons (.tup (.cons (.cStr [105,110,101,116,95,115,101,114,118,105,99,101]) (.cons (.cStr [116,99,112,95,102,108,97,103]) .nil))) (.cons (.tup (.cons (.cStr [105,112,118,52,95,97,100,100,114]) .nil)) (.cons (.tup (.cons (.cStr [116,99,112,95,102,108,97,103]) .nil)) (.cons (.tup (.cons (.cStr [105,112,118,52,95,97,100,100,114]) (.cons (.cStr [105,110,101,116,95,115,101,114,118,105,99,101]) .nil))) .nil))))) (.call 51 (.cons (.loc 1) (.cons (.cInt (4)) .nil))))) (.seq (.asg 3 (.idx (.tup (.cons (.cStr [118,101,114,100,105,99,116]) (.cons (.tup (.cons (.cStr [116,99,112,95,102,108,97,103]) (.cons (.cStr [105,112,118,52,95,97,100,100,114]) .nil))) (.cons .cNone (.cons (.tup (.cons (.cStr [105,110,101,116,95,115,101,114,118,105,99,101]) .nil)) .nil))))) (.call 51 (.cons (.loc 1) (.cons (.cInt (4)) .nil))))) (.seq (.asgT [4,5] (.call 55 (.cons (.loc 1) (.cons (.loc 2) (.cons (.loc 3) (.cons (.cInt (0)) .nil)))))) (.seq (.asg 6 (.idx (.tup (.cons (.lst .nil) (.cons (.lst (.cons (.tup (.cons (.cStr [119,111,114,100]) (.cons (.cStr [120]) (.cons (.cBool false) .nil)))) .nil)) (.cons (.lst (.cons (.tup (.cons (.cStr [101,110,100]) (.cons (.cStr [59]) (.cons (.cBool false) .nil)))) .nil)) (.cons (.lst (.cons (.tup (.cons (.cStr [115,105,103,110]) (.cons (.cStr [125]) (.cons (.cBool false) .nil)))) .nil)) .nil))))) (.call 51 (.cons (.loc 1) (.cons (.cInt (4)) .nil))))) (.seq (.asgT [7,8] (.call 57 (.cons (.loc 1) (.cons (.bin .add (.loc 4) (.loc 6)) .nil)))) (.seq (.tr (.seq (.asg 9 (.mk 0 (.cons (.call 4 (.cons (.loc 7) .nil)) (.cons (.mk 1 (.cons (.dct [] .nil) (.cons (.glob 0) .nil))) .nil)))) (.seq (.iff (.cmp .ne (.attr (.loc 9) [116,111,107,101,110,115]) (.loc 8)) (.ret (.cBool false)) .skip) (.asg 10 (.call 49 (.cons (.loc 9) (.cons (.call 58 (.cons (.loc 2) .nil)) (.cons (.call 58 (.cons (.loc 3) .nil)) .nil)))))))) (.ret (.and (.cmp .eq (.loc 10) (.tupleOf (.loc 5))) (.cmp .eq (.attr (.loc 9) [97,116]) (.bin .sub (.bin .sub (.len (.loc 8)) (.cInt (1))) (.len (.loc 6)))))))))))))
noncomputable def c_R_init : S := (.seq (.setA (.loc 0) [116,111,107,101,110,115] (.loc 1)) (.seq (.setA (.loc 0) [97,116] (.cInt (0))) (.seq (.setA (.loc 0) [116,111,110,103,117,101] (.loc 2)) (.seq (.setA (.loc 0) [107,110,111,119,110] (.dct [] .nil)) (.seq (.setA (.loc 0) [102,97,109,105,108,121] (.cStr [])) (.setA (.loc 0) [116,97,98,108,101] (.cStr [])))))))
noncomputable def c_R_look : S := (.seq (.asg 2 (.bin .add (.attr (.loc 0) [97,116]) (.loc 1))) (.seq (.iff (.cmp .ge (.loc 2) (.len (.attr (.loc 0) [116,111,107,101,110,115]))) (.asg 2 (.bin .sub (.len (.attr (.loc 0) [116,111,107,101,110,115])) (.cInt (1)))) .skip) (.ret (.idx (.attr (.loc 0) [116,111,107,101,110,115]) (.loc 2)))))
noncomputable def c_R_take : S := (.seq (.asg 1 (.meth (.loc 0) [108,111,111,107] .nil)) (.seq (.augA (.loc 0) [97,116] .add (.cInt (1))) (.ret (.loc 1))))
noncomputable def c_R_is_sign : S := (.seq (.asg 2 (.meth (.loc 0) [108,111,111,107] .nil)) (.ret (.and (.cmp .eq (.idx (.loc 2) (.cInt (0))) (.cStr [115,105,103,110])) (.cmp .eq (.idx (.loc 2) (.cInt (1))) (.loc 1)))))
noncomputable def c_R_is_word : S := (.seq (.asg 2 (.meth (.loc 0) [108,111,111,107] .nil)) (.ret (.and (.cmp .eq (.idx (.loc 2) (.cInt (0))) (.cStr [119,111,114,100])) (.cmp .eq (.idx (.loc 2) (.cInt (1))) (.loc 1)))))
noncomputable def c_R_skip_sign : S := (.seq (.iff (.not (.meth (.loc 0) [105,115,95,115,105,103,110] (.cons (.loc 1) .nil))) (.ret (.cBool false)) .skip) (.seq (.augA (.loc 0) [97,116] .add (.cInt (1))) (.ret (.cBool true))))
noncomputable def c_R_want_sign : S := (.iff (.not (.meth (.loc 0) [115,107,105,112,95,115,105,103,110] (.cons (.loc 1) .nil))) .bad .skip)
noncomputable def c_R_want_word : S := (.seq (.iff (.cmp .ne (.idx (.meth (.loc 0) [108,111,111,107] .nil) (.cInt (0))) (.cStr [119,111,114,100])) .bad .skip) (.ret (.idx (.meth (.loc 0) [116,97,107,101] .nil) (.cInt (1)))))
noncomputable def c_R_skip_rows : S := (.whl (.and (.cmp .eq (.idx (.meth (.loc 0) [108,111,111,107] .nil) (.cInt (0))) (.cStr [101,110,100])) (.cmp .eq (.idx (.meth (.loc 0) [108,111,111,107] .nil) (.cInt (1))) (.cStr [10]))) (.augA (.loc 0) [97,116] .add (.cInt (1))))
noncomputable def c_T_init : S := (.seq (.setA (.loc 0) [102,105,101,108,100,115] (.loc 1)) (.setA (.loc 0) [116,121,112,101,115] (.loc 2)))
noncomputable def fnList : List (Nat × FnCode) := [(0,⟨1,1,[],c_is_word_sign⟩),(1,⟨2,2,[],c_run_end⟩),(2,⟨4,5,[],c_string_end⟩),(3,⟨4,5,[],c_put_run⟩),(4,⟨1,8,[],c_read_tokens⟩),(8,⟨2,4,[],c_decimal_of⟩),(10,⟨1,5,[],c_ip4_of⟩),(14,⟨2,2,[],c_mask_of⟩),(15,⟨3,4,[],c_prefix_span⟩),(16,⟨1,6,[],c_prefix_of⟩),(18,⟨2,5,[],c_based_number⟩),(19,⟨1,1,[],c_number_word⟩),(20,⟨0,0,[],c_time_units⟩),(21,⟨3,3,[],c_part_end⟩),(22,⟨1,11,[],c_time_word⟩),(26,⟨2,5,[],c_mask_word⟩),(27,⟨3,5,[],c_value_of_word⟩),(28,⟨3,4,[],c_address_span⟩),(29,⟨3,6,[],c_ends_span⟩),(30,⟨3,6,[],c_span_of_word⟩),(32,⟨1,1,[],c_read_text⟩),(33,⟨1,1,[],c_read_comment⟩),(34,⟨1,3,[],c_read_time⟩),(35,⟨2,2,[],c_type_here⟩),(36,⟨2,2,[],c_is_mask_kind⟩),(37,⟨4,4,[],c_resolved⟩),(38,⟨3,3,[],c_span_of_text⟩),(39,⟨3,3,[],c_value_of_text⟩),(40,⟨3,5,[],c_read_from⟩),(41,⟨2,2,[],c_read_value⟩),(42,⟨2,6,[],c_read_span⟩),(43,⟨3,3,[],c_barred⟩),(44,⟨1,2,[],c_read_verdict⟩),(45,⟨2,6,[],c_read_box⟩),(46,⟨3,6,[],c_read_datum⟩),(47,⟨4,7,[],c_read_literal⟩),(48,⟨4,5,[],c_read_braces⟩),(49,⟨3,3,[],c_read_literals⟩),(50,⟨0,0,[],c_law_keys⟩),(51,⟨2,4,[],c_law_draw⟩),(52,⟨1,1,[],c_law_told⟩),(53,⟨3,9,[],c_law_key⟩),(54,⟨3,11,[],c_law_element⟩),(55,⟨4,12,[],c_law_braces⟩),(56,⟨1,2,[],c_law_place⟩),(57,⟨2,11,[],c_law_written⟩),(58,⟨1,1,[],c_law_kinds⟩),(59,⟨1,11,[],c_law⟩),(60,⟨3,3,[],c_R_init⟩),(61,⟨2,3,[.int 0],c_R_look⟩),(62,⟨1,2,[],c_R_take⟩),(63,⟨2,3,[],c_R_is_sign⟩),(64,⟨2,3,[],c_R_is_word⟩),(65,⟨2,2,[],c_R_skip_sign⟩),(66,⟨2,2,[],c_R_want_sign⟩),(67,⟨1,1,[],c_R_want_word⟩),(68,⟨1,1,[],c_R_skip_rows⟩),(70,⟨3,3,[],c_T_init⟩)]
noncomputable def fnTab (g : Nat) : Option FnCode := fnList.lookup g
noncomputable def methList : List (List Nat × Nat) := [([95,95,105,110,105,116,95,95],60),([108,111,111,107],61),([116,97,107,101],62),([105,115,95,115,105,103,110],63),([105,115,95,119,111,114,100],64),([115,107,105,112,95,115,105,103,110],65),([119,97,110,116,95,115,105,103,110],66),([119,97,110,116,95,119,111,114,100],67),([115,107,105,112,95,114,111,119,115],68)]
noncomputable def methTab (m : List Nat) : Option Nat := methList.lookup m
noncomputable def typesV : V := .dct [([105,112,118,52,95,97,100,100,114],.tup [.int 32,.str [98,105,103],.str [105,112,52],.dct []]),([105,110,101,116,95,115,101,114,118,105,99,101],.tup [.int 16,.str [98,105,103],.str [110,117,109,98,101,114],.dct [([115,115,104],.int 22)]]),([116,99,112,95,102,108,97,103],.tup [.int 8,.str [98,105,103],.str [109,97,115,107],.dct [([115,121,110],.int 2),([97,99,107],.int 16)]])]
noncomputable def gapsV : V := .tup [.tup [],.tup [.str [32]],.tup [.str [92,10]],.tup [.str [13,9]],.tup [.str [10]],.tup [.str [32,35,32,97,44,32,125,32,34],.str [10]],.tup [.str [35,92],.str [10]],.tup [.str [10],.str [10]]]
noncomputable def globTab : Nat -> Option V
  | 0 => some typesV
  | 1 => some gapsV
  | _ => none
noncomputable def initTab : Nat -> Option Nat
  | 0 => some 60
  | 1 => some 70
  | _ => none
noncomputable def attrList : List (Nat × List Nat) := [(0,[116,111,107,101,110,115]),(0,[97,116]),(0,[116,111,110,103,117,101]),(0,[107,110,111,119,110]),(0,[102,97,109,105,108,121]),(0,[116,97,98,108,101]),(1,[102,105,101,108,100,115]),(1,[116,121,112,101,115])]
noncomputable def attrTab (c : Nat) (a : List Nat) : Bool := attrList.any fun p => p.1 == c && p.2 == a
noncomputable def theB : Prog where
  glob := globTab
  fn := fnTab
  meth := fun c m => if c = 0 then methTab m else none
  init := initTab
  attr := attrTab
  run := fun _ _ _ _ => none
noncomputable def theP : Prog := theB.on (evR theB)
@[elab_as_elim] theorem c3 {n : Nat} {motive : Nat -> Prop} (h : n < 3) (h0 : motive 0) (h1 : motive 1) (h2 : motive 2) : motive n := by
  rcases (by omega : n = 0 \/ n = 1 \/ n = 2) with rfl | rfl | rfl <;> assumption
@[elab_as_elim] theorem c4 {n : Nat} {motive : Nat -> Prop} (h : n < 4) (h0 : motive 0) (h1 : motive 1) (h2 : motive 2) (h3 : motive 3) : motive n := by
  rcases (by omega : n = 0 \/ n = 1 \/ n = 2 \/ n = 3) with rfl | rfl | rfl | rfl <;> assumption
@[elab_as_elim] theorem c8 {n : Nat} {motive : Nat -> Prop} (h : n < 8) (h0 : motive 0) (h1 : motive 1) (h2 : motive 2) (h3 : motive 3) (h4 : motive 4) (h5 : motive 5) (h6 : motive 6) (h7 : motive 7) : motive n := by
  rcases (by omega : n = 0 \/ n = 1 \/ n = 2 \/ n = 3 \/ n = 4 \/ n = 5 \/ n = 6 \/ n = 7) with rfl | rfl | rfl | rfl | rfl | rfl | rfl | rfl <;> assumption
theorem dl {d n m : Nat} (h : d < n) (k : Nat.ble n m = true) : d < m := Nat.lt_of_lt_of_le h (Nat.le_of_ble_eq_true k)
theorem ds {d n m : Nat} (h : d < n) (k : Nat.ble (n + 1) m = true) : d + 1 < m := Nat.lt_of_lt_of_le (Nat.succ_lt_succ h) (Nat.le_of_ble_eq_true k)
theorem dle {d n m : Nat} (h : d <= n) (k : Nat.ble (n + 1) m = true) : d < m := Nat.lt_of_le_of_lt h (Nat.le_of_ble_eq_true k)
@[simp ↓] theorem ob_s {α β : Type} (a : α) (f : α -> Option β) : (some a).bind f = f a := rfl
@[simp ↓] theorem cd_t {α : Type} (x y : α) : cond true x y = x := rfl
@[simp ↓] theorem cd_f {α : Type} (x y : α) : cond false x y = y := rfl
@[simp ↓] theorem an_f (x : Bool) : (false && x) = false := rfl
@[simp ↓] theorem an_t (x : Bool) : (true && x) = x := rfl
@[simp ↓] theorem or_f (x : Bool) : (false || x) = x := rfl
@[simp ↓] theorem or_t (x : Bool) : (true || x) = true := rfl
@[simp ↓] theorem no_t : (!true) = false := rfl
@[simp ↓] theorem no_f : (!false) = true := rfl
@[simp ↓] theorem lq_nn : (([] : List Nat) == []) = true := rfl
@[simp ↓] theorem lq_nc (a : Nat) (r : List Nat) : ([] == a :: r) = false := rfl
@[simp ↓] theorem lq_cn (a : Nat) (r : List Nat) : (a :: r == []) = false := rfl
@[simp ↓] theorem lq_cc (a b : Nat) (r s : List Nat) : (a :: r == b :: s) = (a == b && r == s) := rfl
@[simp ↓] theorem om_s {α β : Type} (f : α -> β) (a : α) : Option.map f (some a) = some (f a) := rfl
section
variable (P : Prog) (d : Nat) (ρ : List V) (σ : List O)
@[simp] theorem k_undef : chk .undef = none := rfl
@[simp] theorem k_none : chk .none = some .none := rfl
@[simp] theorem k_bool (b : Bool) : chk (.bool b) = some (.bool b) := rfl
@[simp] theorem k_int (b : Int) : chk (.int b) = some (.int b) := rfl
@[simp] theorem k_str (b : List Nat) : chk (.str b) = some (.str b) := rfl
@[simp] theorem k_tup (b : List V) : chk (.tup b) = some (.tup b) := rfl
@[simp] theorem k_lst (b : List V) : chk (.lst b) = some (.lst b) := rfl
@[simp] theorem k_dct (b : List (List Nat × V)) : chk (.dct b) = some (.dct b) := rfl
@[simp] theorem k_ref (b : Nat) : chk (.ref b) = some (.ref b) := rfl
@[simp] theorem k_inst (b c : Nat) : chk (.inst b c) = some (.inst b c) := rfl
@[simp] theorem gl_0 (a : V) (r : List V) : getLoc (a :: r) 0 = chk a := rfl
@[simp] theorem gl_s (a : V) (r : List V) (n : Nat) : getLoc (a :: r) (n + 1) = getLoc r n := rfl
@[simp] theorem sl_0 (a : V) (r : List V) (v : V) : setLoc (a :: r) 0 v = cond (isSome' v) (some (v :: r)) none := rfl
@[simp] theorem sl_s (a : V) (r : List V) (n : Nat) (v : V) : setLoc (a :: r) (n + 1) v = (setLoc r n v).bind fun r' => some (a :: r') := rfl
@[simp] theorem nth_0 (a : V) (r : List V) : nth (a :: r) 0 = some a := rfl
@[simp] theorem nth_s (a : V) (r : List V) (n : Nat) : nth (a :: r) (n + 1) = nth r n := rfl
@[simp] theorem le_0 : leLen [] = true := rfl
@[simp] theorem le_1 (a : V) : leLen [a] = true := rfl
@[simp] theorem le_2 (a b : V) : leLen [a,b] = true := rfl
@[simp] theorem le_3 (a b c : V) : leLen [a,b,c] = true := rfl
@[simp] theorem le_4 (a b c e : V) : leLen [a,b,c,e] = true := rfl
@[simp] theorem le_5 (a b c e f : V) : leLen [a,b,c,e,f] = true := rfl
@[simp] theorem le_6 (a b c e f g : V) : leLen [a,b,c,e,f,g] = true := rfl
@[simp] theorem so_undef : isSome' .undef = false := rfl
@[simp] theorem so_none : isSome' .none = true := rfl
@[simp] theorem so_bool (a : Bool) : isSome' (.bool a) = true := rfl
@[simp] theorem so_int (a : Int) : isSome' (.int a) = true := rfl
@[simp] theorem so_str (a : List Nat) : isSome' (.str a) = true := rfl
@[simp] theorem so_tup (a : List V) : isSome' (.tup a) = true := rfl
@[simp] theorem so_lst (a : List V) : isSome' (.lst a) = true := rfl
@[simp] theorem so_dct (a : List (List Nat × V)) : isSome' (.dct a) = true := rfl
@[simp] theorem so_ref (a : Nat) : isSome' (.ref a) = true := rfl
@[simp] theorem so_inst (a b : Nat) : isSome' (.inst a b) = true := rfl
section
variable {α : Type}
@[simp ↓] theorem K_tup (l : List V) (k : List V -> Option α) : tupK (.tup l) k = k l := rfl
@[simp ↓] theorem K_lst (l : List V) (k : List V -> Option α) : lstK (.lst l) k = k l := rfl
@[simp ↓] theorem K_ref (l : Nat) (k : Nat -> Option α) : refK (.ref l) k = k l := rfl
@[simp ↓] theorem K_inst (c l : Nat) (k : Nat -> Nat -> Option α) : instK (.inst c l) k = k c l := rfl
@[simp ↓] theorem K_int (l : Int) (k : Int -> Option α) : intK (.int l) k = k l := rfl
@[simp ↓] theorem K_str (l : List Nat) (k : List Nat -> Option α) : strK (.str l) k = k l := rfl
@[simp ↓] theorem K_one (l : Nat) (k : Nat -> Option α) : oneK [l] k = k l := rfl
@[simp ↓] theorem K_nil (k : Option α) : nilK .none k = k := rfl
@[simp ↓] theorem K_ns (f : List (List Nat × V)) (k : List (List Nat × V) -> Option α) : nsK (some (.ns f)) k = k f := rfl
@[simp ↓] theorem K_list (f : List V) (k : List V -> Option α) : listK (some (.list f)) k = k f := rfl
@[simp ↓] theorem K_no (k : Option α) : noK none k = k := rfl
@[simp] theorem K_p0 (k : Option α) : plainK .none k = k := rfl
@[simp] theorem K_p1 (k : Option α) (b : Bool) : plainK (.bool b) k = k := rfl
@[simp] theorem K_p2 (k : Option α) (b : Int) : plainK (.int b) k = k := rfl
@[simp] theorem K_p3 (k : Option α) (b : List Nat) : plainK (.str b) k = k := rfl
@[simp] theorem K_p4 (k : Option α) (b : List V) : plainK (.tup b) k = k := rfl
end
@[simp] theorem K_fn (k : Option Res) (r : Res) : flK .nxt k r = k := rfl
@[simp] theorem K_fb (k : Option Res) (r : Res) : flK .brk k r = some r := rfl
@[simp] theorem K_fr (k : Option Res) (r : Res) : flK .ret k r = some r := rfl
@[simp] theorem K_ln (k n r : Option Res) : flL .nxt k n r = k := rfl
@[simp] theorem K_lb (k n r : Option Res) : flL .brk k n r = n := rfl
@[simp] theorem K_lr (k n r : Option Res) : flL .ret k n r = r := rfl
@[simp ↓] theorem K_add (k : Option Res) : addK .add k = k := rfl
@[simp] theorem sg_0 (ρ : List V) : stGo ρ [] [] = some ρ := rfl
@[simp] theorem sg_s (ρ : List V) (i : Nat) (is : List Nat) (v : V) (vs : List V) : stGo ρ (i :: is) (v :: vs) = (setLoc ρ i v).bind fun ρ' => stGo ρ' is vs := rfl
@[simp] theorem so_1 (ρ : List V) (i : Nat) (v : V) : stOne ρ [i] v = setLoc ρ i v := rfl
@[simp] theorem so_2 (ρ : List V) (i j : Nat) (s : List Nat) (v : V) : stOne ρ (i :: j :: s) v = tupK v (stGo ρ (i :: j :: s)) := rfl
@[simp ↓] theorem e_cNone : evX P .cNone d ρ σ = some ⟨.none,.nxt,ρ,σ⟩ := rfl
@[simp ↓] theorem e_cBool (b : Bool) : evX P (.cBool b) d ρ σ = some ⟨.bool b,.nxt,ρ,σ⟩ := rfl
@[simp ↓] theorem e_cInt (i : Int) : evX P (.cInt i) d ρ σ = some ⟨.int i,.nxt,ρ,σ⟩ := rfl
@[simp ↓] theorem e_cStr (s : List Nat) : evX P (.cStr s) d ρ σ = some ⟨.str s,.nxt,ρ,σ⟩ := rfl
@[simp ↓] theorem K1_ : K1 ρ σ v = some ⟨v,.nxt,ρ,σ⟩ := rfl
@[simp ↓] theorem e_loc (i : Nat) : evX P (.loc i) d ρ σ = (getLoc ρ i).bind (K1 ρ σ) := rfl
@[simp ↓] theorem K2_ : K2 ρ σ v = some ⟨v,.nxt,ρ,σ⟩ := rfl
@[simp ↓] theorem e_glob (g : Nat) : evX P (.glob g) d ρ σ = (P.glob g).bind (K2 ρ σ) := rfl
@[simp ↓] theorem e_nil : evX P .nil d ρ σ = some ⟨.tup [],.nxt,ρ,σ⟩ := rfl
@[simp ↓] theorem K5_ : K5 ρ r1v r2s vs = some ⟨.tup (r1v :: vs),.nxt,ρ,r2s⟩ := rfl
@[simp ↓] theorem K4_ : K4 ρ r1v ⟨r2v,r2f,r2p,r2s⟩ = tupK r2v (K5 ρ r1v r2s) := rfl
@[simp ↓] theorem K3_ : K3 P t d ρ ⟨r1v,r1f,r1p,r1s⟩ = (evX P t d ρ r1s).bind (K4 ρ r1v) := rfl
@[simp ↓] theorem e_cons (h t : X) : evX P (.cons h t) d ρ σ = (evX P h d ρ σ).bind (K3 P t d ρ) := rfl
@[simp ↓] theorem K7_ : K7 ρ rs vs = cond (leLen vs) (some ⟨.tup vs,.nxt,ρ,rs⟩) none := rfl
@[simp ↓] theorem K6_ : K6 ρ ⟨rv,rf,rp,rs⟩ = tupK rv (K7 ρ rs) := rfl
@[simp ↓] theorem e_tup (es : X) : evX P (.tup es) d ρ σ = (evX P es d ρ σ).bind (K6 ρ) := rfl
@[simp ↓] theorem K9_ : K9 ρ rs vs = cond (leLen vs) (some ⟨.lst vs,.nxt,ρ,rs⟩) none := rfl
@[simp ↓] theorem K8_ : K8 ρ ⟨rv,rf,rp,rs⟩ = tupK rv (K9 ρ rs) := rfl
@[simp ↓] theorem e_lst (es : X) : evX P (.lst es) d ρ σ = (evX P es d ρ σ).bind (K8 ρ) := rfl
@[simp ↓] theorem e_dct0 (es : X) : evX P (.dct [] es) d ρ σ = some ⟨.dct [],.nxt,ρ,σ⟩ := rfl
@[simp ↓] theorem K13_ : K13 P a ρ rs c v = cond (P.attr c a) (some ⟨v,.nxt,ρ,rs⟩) none := rfl
@[simp ↓] theorem K12_ : K12 P a ρ rs c fs = (lookupD a fs).bind (K13 P a ρ rs c) := rfl
@[simp ↓] theorem K11_ : K11 P a ρ rs c i = nsK (rs[i]?) (K12 P a ρ rs c) := rfl
@[simp ↓] theorem K10_ : K10 P a ρ ⟨rv,rf,rp,rs⟩ = instK rv (K11 P a ρ rs) := rfl
@[simp ↓] theorem e_attr (e : X) (a : List Nat) : evX P (.attr e a) d ρ σ = (evX P e d ρ σ).bind (K10 P a ρ) := rfl
@[simp ↓] theorem K17_ : K17 ρ r2s v = some ⟨v,.nxt,ρ,r2s⟩ := rfl
@[simp ↓] theorem K16_ : K16 ρ r2v r2s o = (item o r2v).bind (K17 ρ r2s) := rfl
@[simp ↓] theorem K15_ : K15 ρ r1v ⟨r2v,r2f,r2p,r2s⟩ = (deref r2s r1v).bind (K16 ρ r2v r2s) := rfl
@[simp ↓] theorem K14_ : K14 P i d ρ ⟨r1v,r1f,r1p,r1s⟩ = (evX P i d ρ r1s).bind (K15 ρ r1v) := rfl
@[simp ↓] theorem e_idx (e i : X) : evX P (.idx e i) d ρ σ = (evX P e d ρ σ).bind (K14 P i d ρ) := rfl
@[simp ↓] theorem K21_ : K21 ρ r3s v = some ⟨v,.nxt,ρ,r3s⟩ := rfl
@[simp ↓] theorem K20_ : K20 ρ r1v r2v ⟨r3v,r3f,r3p,r3s⟩ = (sliced r1v r2v r3v).bind (K21 ρ r3s) := rfl
@[simp ↓] theorem K19_ : K19 P hi d ρ r1v ⟨r2v,r2f,r2p,r2s⟩ = (evX P hi d ρ r2s).bind (K20 ρ r1v r2v) := rfl
@[simp ↓] theorem K18_ : K18 P lo hi d ρ ⟨r1v,r1f,r1p,r1s⟩ = (evX P lo d ρ r1s).bind (K19 P hi d ρ r1v) := rfl
@[simp ↓] theorem e_slice (e lo hi : X) : evX P (.slice e lo hi) d ρ σ = (evX P e d ρ σ).bind (K18 P lo hi d ρ) := rfl
@[simp ↓] theorem K26_ : K26 ρ r2s v = some ⟨v,.nxt,ρ,r2s⟩ := rfl
@[simp ↓] theorem K25_ : K25 op ρ r2s x y = (binop op x y).bind (K26 ρ r2s) := rfl
@[simp ↓] theorem K24_ : K24 op ρ r2v r2s x = (deref r2s r2v).bind (K25 op ρ r2s x) := rfl
@[simp ↓] theorem K23_ : K23 op ρ r1v ⟨r2v,r2f,r2p,r2s⟩ = (deref r2s r1v).bind (K24 op ρ r2v r2s) := rfl
@[simp ↓] theorem K22_ : K22 P op b d ρ ⟨r1v,r1f,r1p,r1s⟩ = (evX P b d ρ r1s).bind (K23 op ρ r1v) := rfl
@[simp ↓] theorem e_bin (op : BOp) (a b : X) : evX P (.bin op a b) d ρ σ = (evX P a d ρ σ).bind (K22 P op b d ρ) := rfl
@[simp ↓] theorem K28_ : K28 ρ rs i = some ⟨.int (-i),.nxt,ρ,rs⟩ := rfl
@[simp ↓] theorem K27_ : K27 ρ ⟨rv,rf,rp,rs⟩ = intK rv (K28 ρ rs) := rfl
@[simp ↓] theorem e_neg (e : X) : evX P (.neg e) d ρ σ = (evX P e d ρ σ).bind (K27 ρ) := rfl
@[simp ↓] theorem K30_ : K30 ρ rs b = some ⟨.bool (!b),.nxt,ρ,rs⟩ := rfl
@[simp ↓] theorem K29_ : K29 ρ ⟨rv,rf,rp,rs⟩ = (truth rv).bind (K30 ρ rs) := rfl
@[simp ↓] theorem e_not (e : X) : evX P (.not e) d ρ σ = (evX P e d ρ σ).bind (K29 ρ) := rfl
@[simp ↓] theorem K32_t : K32 P b d ρ rv rs true = evX P b d ρ rs := rfl
@[simp ↓] theorem K32_f : K32 P b d ρ rv rs false = some ⟨rv,.nxt,ρ,rs⟩ := rfl
@[simp ↓] theorem K31_ : K31 P b d ρ ⟨rv,rf,rp,rs⟩ = (truth rv).bind (K32 P b d ρ rv rs) := rfl
@[simp ↓] theorem e_and (a b : X) : evX P (.and a b) d ρ σ = (evX P a d ρ σ).bind (K31 P b d ρ) := rfl
@[simp ↓] theorem K34_t : K34 P b d ρ rv rs true = some ⟨rv,.nxt,ρ,rs⟩ := rfl
@[simp ↓] theorem K34_f : K34 P b d ρ rv rs false = evX P b d ρ rs := rfl
@[simp ↓] theorem K33_ : K33 P b d ρ ⟨rv,rf,rp,rs⟩ = (truth rv).bind (K34 P b d ρ rv rs) := rfl
@[simp ↓] theorem e_or (a b : X) : evX P (.or a b) d ρ σ = (evX P a d ρ σ).bind (K33 P b d ρ) := rfl
@[simp ↓] theorem K39_ : K39 ρ r2s v = some ⟨.bool v,.nxt,ρ,r2s⟩ := rfl
@[simp ↓] theorem K38_ : K38 op ρ r2s x y = (cmpop op x y).bind (K39 ρ r2s) := rfl
@[simp ↓] theorem K37_ : K37 op ρ r2v r2s x = (deref r2s r2v).bind (K38 op ρ r2s x) := rfl
@[simp ↓] theorem K36_ : K36 op ρ r1v ⟨r2v,r2f,r2p,r2s⟩ = (deref r2s r1v).bind (K37 op ρ r2v r2s) := rfl
@[simp ↓] theorem K35_ : K35 P op b d ρ ⟨r1v,r1f,r1p,r1s⟩ = (evX P b d ρ r1s).bind (K36 op ρ r1v) := rfl
@[simp ↓] theorem e_cmp (op : COp) (a b : X) : evX P (.cmp op a b) d ρ σ = (evX P a d ρ σ).bind (K35 P op b d ρ) := rfl
@[simp ↓] theorem K41_t : K41 P a b d ρ rs true = evX P a d ρ rs := rfl
@[simp ↓] theorem K41_f : K41 P a b d ρ rs false = evX P b d ρ rs := rfl
@[simp ↓] theorem K40_ : K40 P a b d ρ ⟨rv,rf,rp,rs⟩ = (truth rv).bind (K41 P a b d ρ rs) := rfl
@[simp ↓] theorem e_ite (t a b : X) : evX P (.ite t a b) d ρ σ = (evX P t d ρ σ).bind (K40 P a b d ρ) := rfl
@[simp ↓] theorem K44_ : K44 ρ ⟨qv,qf,qp,qs⟩ = some ⟨qv,.nxt,ρ,qs⟩ := rfl
@[simp ↓] theorem K43_ : K43 P f d ρ rs vs = (ev P (.call f vs) d ρ rs).bind (K44 ρ) := rfl
@[simp ↓] theorem K42_ : K42 P f d ρ ⟨rv,rf,rp,rs⟩ = tupK rv (K43 P f d ρ rs) := rfl
@[simp ↓] theorem e_call (f : Nat) (args : X) : evX P (.call f args) d ρ σ = (evX P args d ρ σ).bind (K42 P f d ρ) := rfl
@[simp ↓] theorem K51_ : K51 ρ ⟨qv,qf,qp,qs⟩ = some ⟨qv,.nxt,ρ,qs⟩ := rfl
@[simp ↓] theorem K50_ : K50 P d ρ c i r2s vs f = (ev P (.call f (.inst c i :: vs)) d ρ r2s).bind (K51 ρ) := rfl
@[simp ↓] theorem K49_ : K49 P m d ρ c i r2s vs = (P.meth c m).bind (K50 P d ρ c i r2s vs) := rfl
@[simp ↓] theorem K48_ : K48 P m d ρ c i ⟨r2v,r2f,r2p,r2s⟩ = tupK r2v (K49 P m d ρ c i r2s) := rfl
@[simp ↓] theorem K47_ : K47 P m args d ρ r1s c i fs = noK (lookupD m fs) ((evX P args d ρ r1s).bind (K48 P m d ρ c i)) := rfl
@[simp ↓] theorem K46_ : K46 P m args d ρ r1s c i = nsK (r1s[i]?) (K47 P m args d ρ r1s c i) := rfl
@[simp ↓] theorem K45_ : K45 P m args d ρ ⟨r1v,r1f,r1p,r1s⟩ = instK r1v (K46 P m args d ρ r1s) := rfl
@[simp ↓] theorem e_meth (o : X) (m : List Nat) (args : X) : evX P (.meth o m args) d ρ σ = (evX P o d ρ σ).bind (K45 P m args d ρ) := rfl
@[simp ↓] theorem K55_ : K55 c ρ rs ⟨qv,qf,qp,qs⟩ = nilK qv (some ⟨.inst c rs.length,.nxt,ρ,qs⟩) := rfl
@[simp ↓] theorem K54_ : K54 P c d ρ rs vs f = (ev P (.call f (.inst c rs.length :: vs)) (d + 1) ρ (rs ++ [.ns []])).bind (K55 c ρ rs) := rfl
@[simp ↓] theorem K53_ : K53 P c d ρ rs vs = (P.init c).bind (K54 P c d ρ rs vs) := rfl
@[simp ↓] theorem K52_ : K52 P c d ρ ⟨rv,rf,rp,rs⟩ = tupK rv (K53 P c d ρ rs) := rfl
@[simp ↓] theorem e_mk (c : Nat) (args : X) : evX P (.mk c args) d ρ σ = (evX P args d ρ σ).bind (K52 P c d ρ) := rfl
@[simp ↓] theorem K58_ : K58 ρ rs v = some ⟨v,.nxt,ρ,rs⟩ := rfl
@[simp ↓] theorem K57_ : K57 ρ rs x = (lenV x).bind (K58 ρ rs) := rfl
@[simp ↓] theorem K56_ : K56 ρ ⟨rv,rf,rp,rs⟩ = (deref rs rv).bind (K57 ρ rs) := rfl
@[simp ↓] theorem e_len (e : X) : evX P (.len e) d ρ σ = (evX P e d ρ σ).bind (K56 ρ) := rfl
@[simp ↓] theorem K61_ : K61 ρ rs xs = some ⟨.tup xs,.nxt,ρ,rs⟩ := rfl
@[simp ↓] theorem K60_ : K60 ρ rs x = lstK x (K61 ρ rs) := rfl
@[simp ↓] theorem K59_ : K59 ρ ⟨rv,rf,rp,rs⟩ = (deref rs rv).bind (K60 ρ rs) := rfl
@[simp ↓] theorem e_tupleOf (e : X) : evX P (.tupleOf e) d ρ σ = (evX P e d ρ σ).bind (K59 ρ) := rfl
@[simp ↓] theorem K66_ : K66 ρ i r2v r2s xs = cond (isSome' r2v) (if xs.length < maxLen then some ⟨.none,.nxt,ρ,r2s.set i (.list (xs ++ [r2v]))⟩ else none) none := rfl
@[simp ↓] theorem K65_ : K65 ρ i ⟨r2v,r2f,r2p,r2s⟩ = listK (r2s[i]?) (K66 ρ i r2v r2s) := rfl
@[simp ↓] theorem K64_ : K64 P e d ρ r1s i z_ = (evX P e d ρ r1s).bind (K65 ρ i) := rfl
@[simp ↓] theorem K63_ : K63 P e d ρ r1s i = listK (r1s[i]?) (K64 P e d ρ r1s i) := rfl
@[simp ↓] theorem K62_ : K62 P e d ρ ⟨r1v,r1f,r1p,r1s⟩ = refK r1v (K63 P e d ρ r1s) := rfl
@[simp ↓] theorem e_append (l e : X) : evX P (.append l e) d ρ σ = (evX P l d ρ σ).bind (K62 P e d ρ) := rfl
@[simp ↓] theorem K72_ : K72 ρ i r2s y xs = extK xs y ρ r2s i := rfl
@[simp ↓] theorem K71_ : K71 ρ i r2s y = listK (r2s[i]?) (K72 ρ i r2s y) := rfl
@[simp ↓] theorem K70_ : K70 ρ i ⟨r2v,r2f,r2p,r2s⟩ = (deref r2s r2v).bind (K71 ρ i r2s) := rfl
@[simp ↓] theorem K69_ : K69 P e d ρ r1s i z_ = (evX P e d ρ r1s).bind (K70 ρ i) := rfl
@[simp ↓] theorem K68_ : K68 P e d ρ r1s i = listK (r1s[i]?) (K69 P e d ρ r1s i) := rfl
@[simp ↓] theorem K67_ : K67 P e d ρ ⟨r1v,r1f,r1p,r1s⟩ = refK r1v (K68 P e d ρ r1s) := rfl
@[simp ↓] theorem e_extend (l e : X) : evX P (.extend l e) d ρ σ = (evX P l d ρ σ).bind (K67 P e d ρ) := rfl
@[simp ↓] theorem K77_ : K77 ρ r2s t c = if t.length + 2 <= maxLen then some ⟨.lst ((splitAt c [] t).map .str),.nxt,ρ,r2s⟩ else none := rfl
@[simp ↓] theorem K76_ : K76 ρ r2s t u = oneK u (K77 ρ r2s t) := rfl
@[simp ↓] theorem K75_ : K75 ρ r2v r2s t = strK r2v (K76 ρ r2s t) := rfl
@[simp ↓] theorem K74_ : K74 ρ r1v ⟨r2v,r2f,r2p,r2s⟩ = strK r1v (K75 ρ r2v r2s) := rfl
@[simp ↓] theorem K73_ : K73 P s d ρ ⟨r1v,r1f,r1p,r1s⟩ = (evX P s d ρ r1s).bind (K74 ρ r1v) := rfl
@[simp ↓] theorem e_split (e s : X) : evX P (.split e s) d ρ σ = (evX P e d ρ σ).bind (K73 P s d ρ) := rfl
@[simp ↓] theorem K80_ : K80 ρ ⟨qv,qf,qp,qs⟩ = some ⟨qv,.nxt,ρ,qs⟩ := rfl
@[simp ↓] theorem K79_ : K79 P n tg elt cnd d ρ rs i = (ev P (.comp none tg i elt cnd []) d (List.replicate n .undef) rs).bind (K80 ρ) := rfl
@[simp ↓] theorem K78_ : K78 P n tg elt cnd d ρ ⟨rv,rf,rp,rs⟩ = (itOf rs rv).bind (K79 P n tg elt cnd d ρ rs) := rfl
@[simp ↓] theorem e_comp (n : Nat) (tg : List Nat) (it elt cnd : X) : evX P (.comp n tg it elt cnd) d ρ σ = (evX P it d ρ σ).bind (K78 P n tg elt cnd d ρ) := rfl
@[simp ↓] theorem K83_ : K83 ρ ⟨qv,qf,qp,qs⟩ = some ⟨qv,.nxt,ρ,qs⟩ := rfl
@[simp ↓] theorem K82_ : K82 P n tg elt cnd d ρ rs i = (ev P (.comp (some 0) tg i elt cnd []) d (List.replicate n .undef) rs).bind (K83 ρ) := rfl
@[simp ↓] theorem K81_ : K81 P n tg elt cnd d ρ ⟨rv,rf,rp,rs⟩ = cond (isSeq rv) ((itOf rs rv).bind (K82 P n tg elt cnd d ρ rs)) none := rfl
@[simp ↓] theorem e_compE (n : Nat) (tg : List Nat) (it elt cnd : X) : evX P (.compE n tg it elt cnd) d ρ σ = (evX P it d ρ σ).bind (K81 P n tg elt cnd d ρ) := rfl
@[simp ↓] theorem s_skip : evS P .skip d ρ σ = some ⟨.none,.nxt,ρ,σ⟩ := rfl
@[simp ↓] theorem sk_n (P : Prog) (b : S) (d : Nat) (v : V) (ρ : List V) (σ : List O) : seqK P b d ⟨v,.nxt,ρ,σ⟩ = evS P b d ρ σ := rfl
@[simp ↓] theorem sk_r (P : Prog) (b : S) (d : Nat) (v : V) (ρ : List V) (σ : List O) : seqK P b d ⟨v,.ret,ρ,σ⟩ = some ⟨v,.ret,ρ,σ⟩ := rfl
@[simp ↓] theorem sk_b (P : Prog) (b : S) (d : Nat) (v : V) (ρ : List V) (σ : List O) : seqK P b d ⟨v,.brk,ρ,σ⟩ = some ⟨v,.brk,ρ,σ⟩ := rfl
@[simp ↓] theorem s_seq (a b : S) : evS P (.seq a b) d ρ σ = (evS P a d ρ σ).bind (seqK P b d) := rfl
@[simp ↓] theorem K85_ : K85 rs ρ' = some ⟨.none,.nxt,ρ',rs⟩ := rfl
@[simp ↓] theorem K84_ : K84 i ρ ⟨rv,rf,rp,rs⟩ = (setLoc ρ i rv).bind (K85 rs) := rfl
@[simp ↓] theorem s_asg (i : Nat) (e : X) : evS P (.asg i e) d ρ σ = (evX P e d ρ σ).bind (K84 i ρ) := rfl
@[simp ↓] theorem K87_ : K87 rs ρ' = some ⟨.none,.nxt,ρ',rs⟩ := rfl
@[simp ↓] theorem K86_ : K86 is ρ ⟨rv,rf,rp,rs⟩ = (tupK rv (stGo ρ is)).bind (K87 rs) := rfl
@[simp ↓] theorem s_asgT (is : List Nat) (e : X) : evS P (.asgT is e) d ρ σ = (evX P e d ρ σ).bind (K86 is ρ) := rfl
@[simp ↓] theorem K90_ : K90 rs vs ρ' = some ⟨.none,.nxt,ρ',rs ++ [.list vs]⟩ := rfl
@[simp ↓] theorem K89_ : K89 i ρ rs vs = cond (leLen vs) ((setLoc ρ i (.ref rs.length)).bind (K90 rs vs)) none := rfl
@[simp ↓] theorem K88_ : K88 i ρ ⟨rv,rf,rp,rs⟩ = tupK rv (K89 i ρ rs) := rfl
@[simp ↓] theorem s_asgNew (i : Nat) (es : X) : evS P (.asgNew i es) d ρ σ = (evX P es d ρ σ).bind (K88 i ρ) := rfl
@[simp ↓] theorem K95_ : K95 rs ρ' = some ⟨.none,.nxt,ρ',rs⟩ := rfl
@[simp ↓] theorem K94_ : K94 i ρ rs a b = (setLoc ρ i (.int (a + b))).bind (K95 rs) := rfl
@[simp ↓] theorem K93_ : K93 i ρ rv rs a = intK rv (K94 i ρ rs a) := rfl
@[simp ↓] theorem K92_ : K92 i op ρ old ⟨rv,rf,rp,rs⟩ = addK op (intK old (K93 i ρ rv rs)) := rfl
@[simp ↓] theorem K91_ : K91 P i op e d ρ σ old = (evX P e d ρ σ).bind (K92 i op ρ old) := rfl
@[simp ↓] theorem s_aug (i : Nat) (op : BOp) (e : X) : evS P (.aug i op e) d ρ σ = (nth ρ i).bind (K91 P i op e d ρ σ) := rfl
@[simp ↓] theorem K99_ : K99 P a ρ r2v r1s c i fs = if fs.length < 500 /\ isSome' r2v /\ P.attr c a then some ⟨.none,.nxt,ρ,r1s.set i (.ns (putD a r2v fs))⟩ else none := rfl
@[simp ↓] theorem K98_ : K98 P a ρ r2v r1s c i = nsK (r1s[i]?) (K99 P a ρ r2v r1s c i) := rfl
@[simp ↓] theorem K97_ : K97 P a ρ r2v ⟨r1v,r1f,r1p,r1s⟩ = instK r1v (K98 P a ρ r2v r1s) := rfl
@[simp ↓] theorem K96_ : K96 P o a d ρ ⟨r2v,r2f,r2p,r2s⟩ = (evX P o d ρ r2s).bind (K97 P a ρ r2v) := rfl
@[simp ↓] theorem s_setA (o : X) (a : List Nat) (e : X) : evS P (.setA o a e) d ρ σ = (evX P e d ρ σ).bind (K96 P o a d ρ) := rfl
@[simp ↓] theorem K107_ : K107 P a ρ c i x r2s y fs' = if fs'.length < 500 /\ P.attr c a then some ⟨.none,.nxt,ρ,r2s.set i (.ns (putD a (.int (x + y)) fs'))⟩ else none := rfl
@[simp ↓] theorem K106_ : K106 P a ρ c i x r2s y = nsK (r2s[i]?) (K107 P a ρ c i x r2s y) := rfl
@[simp ↓] theorem K105_ : K105 P a op ρ c i x ⟨r2v,r2f,r2p,r2s⟩ = addK op (intK r2v (K106 P a ρ c i x r2s)) := rfl
@[simp ↓] theorem K104_ : K104 P a op e d ρ r1s c i x = (evX P e d ρ r1s).bind (K105 P a op ρ c i x) := rfl
@[simp ↓] theorem K103_ : K103 P a op e d ρ r1s c i old = intK old (K104 P a op e d ρ r1s c i) := rfl
@[simp ↓] theorem K102_ : K102 P a op e d ρ r1s c i fs = (lookupD a fs).bind (K103 P a op e d ρ r1s c i) := rfl
@[simp ↓] theorem K101_ : K101 P a op e d ρ r1s c i = nsK (r1s[i]?) (K102 P a op e d ρ r1s c i) := rfl
@[simp ↓] theorem K100_ : K100 P a op e d ρ ⟨r1v,r1f,r1p,r1s⟩ = instK r1v (K101 P a op e d ρ r1s) := rfl
@[simp ↓] theorem s_augA (o : X) (a : List Nat) (op : BOp) (e : X) : evS P (.augA o a op e) d ρ σ = (evX P o d ρ σ).bind (K100 P a op e d ρ) := rfl
@[simp ↓] theorem K113_ : K113 ρ r3v r2s j k xs = if 0 <= k /\ k.toNat < xs.length /\ isSome' r3v then some ⟨.none,.nxt,ρ,r2s.set j (.list (xs.set k.toNat r3v))⟩ else none := rfl
@[simp ↓] theorem K112_ : K112 ρ r3v r2s j k = listK (r2s[j]?) (K113 ρ r3v r2s j k) := rfl
@[simp ↓] theorem K111_ : K111 ρ r3v r2v r2s j = intK r2v (K112 ρ r3v r2s j) := rfl
@[simp ↓] theorem K110_ : K110 ρ r3v r1v ⟨r2v,r2f,r2p,r2s⟩ = refK r1v (K111 ρ r3v r2v r2s) := rfl
@[simp ↓] theorem K109_ : K109 P i d ρ r3v ⟨r1v,r1f,r1p,r1s⟩ = (evX P i d ρ r1s).bind (K110 ρ r3v r1v) := rfl
@[simp ↓] theorem K108_ : K108 P o i d ρ ⟨r3v,r3f,r3p,r3s⟩ = (evX P o d ρ r3s).bind (K109 P i d ρ r3v) := rfl
@[simp ↓] theorem s_setI (o i e : X) : evS P (.setI o i e) d ρ σ = (evX P e d ρ σ).bind (K108 P o i d ρ) := rfl
@[simp ↓] theorem K114_ : K114 ρ ⟨rv,rf,rp,rs⟩ = plainK rv (some ⟨.none,.nxt,ρ,rs⟩) := rfl
@[simp ↓] theorem s_ex (e : X) : evS P (.ex e) d ρ σ = (evX P e d ρ σ).bind (K114 ρ) := rfl
@[simp ↓] theorem K116_t : K116 P a b d ρ rs true = evS P a d ρ rs := rfl
@[simp ↓] theorem K116_f : K116 P a b d ρ rs false = evS P b d ρ rs := rfl
@[simp ↓] theorem K115_ : K115 P a b d ρ ⟨rv,rf,rp,rs⟩ = (truth rv).bind (K116 P a b d ρ rs) := rfl
@[simp ↓] theorem s_iff (t : X) (a b : S) : evS P (.iff t a b) d ρ σ = (evX P t d ρ σ).bind (K115 P a b d ρ) := rfl
@[simp ↓] theorem s_whl (t : X) (b : S) : evS P (.whl t b) d ρ σ = ev P (.loop t b) d ρ σ := rfl
@[simp ↓] theorem K118_ : K118 P tg b d ρ rs i = ev P (.iter tg i b) d ρ rs := rfl
@[simp ↓] theorem K117_ : K117 P tg b d ρ ⟨rv,rf,rp,rs⟩ = (itOf rs rv).bind (K118 P tg b d ρ rs) := rfl
@[simp ↓] theorem s_forr (tg : List Nat) (it : X) (b : S) : evS P (.forr tg it b) d ρ σ = (evX P it d ρ σ).bind (K117 P tg b d ρ) := rfl
@[simp ↓] theorem K122_ : K122 P tg b d ρ r2s a b' = if small a && small b' then ev P (.iter tg (.vals (rangeV a b')) b) d ρ r2s else none := rfl
@[simp ↓] theorem K121_ : K121 P tg b d ρ r2v r2s a = intK r2v (K122 P tg b d ρ r2s a) := rfl
@[simp ↓] theorem K120_ : K120 P tg b d ρ r1v ⟨r2v,r2f,r2p,r2s⟩ = intK r1v (K121 P tg b d ρ r2v r2s) := rfl
@[simp ↓] theorem K119_ : K119 P tg hi b d ρ ⟨r1v,r1f,r1p,r1s⟩ = (evX P hi d ρ r1s).bind (K120 P tg b d ρ r1v) := rfl
@[simp ↓] theorem s_forR (tg : List Nat) (lo hi : X) (b : S) : evS P (.forR tg lo hi b) d ρ σ = (evX P lo d ρ σ).bind (K119 P tg hi b d ρ) := rfl
@[simp ↓] theorem K123_ : K123 ρ ⟨rv,rf,rp,rs⟩ = some ⟨rv,.ret,ρ,rs⟩ := rfl
@[simp ↓] theorem s_ret (e : X) : evS P (.ret e) d ρ σ = (evX P e d ρ σ).bind (K123 ρ) := rfl
@[simp ↓] theorem s_brk : evS P .brk d ρ σ = some ⟨.none,.brk,ρ,σ⟩ := rfl
@[simp ↓] theorem s_tr (b : S) : evS P (.tr b) d ρ σ = evS P b d ρ σ := rfl
@[simp] theorem dr_none : deref σ .none = some .none := rfl
@[simp] theorem dr_bool (b : Bool) : deref σ (.bool b) = some (.bool b) := rfl
@[simp] theorem dr_int (b : Int) : deref σ (.int b) = some (.int b) := rfl
@[simp] theorem dr_str (b : List Nat) : deref σ (.str b) = some (.str b) := rfl
@[simp] theorem dr_tup (b : List V) : deref σ (.tup b) = some (.tup b) := rfl
@[simp] theorem dr_lst (b : List V) : deref σ (.lst b) = some (.lst b) := rfl
@[simp] theorem dr_dct (b : List (List Nat × V)) : deref σ (.dct b) = some (.dct b) := rfl
@[simp] theorem dr_ref (i : Nat) : deref σ (.ref i) = listK (σ[i]?) fun xs => some (.lst xs) := rfl
@[simp] theorem tr_b (b : Bool) : truth (.bool b) = some b := rfl
@[simp] theorem ve_ii (a b : Int) : veq (.int a) (.int b) = some (a == b) := rfl
@[simp] theorem ve_ss (a b : List Nat) : veq (.str a) (.str b) = some (a == b) := rfl
@[simp] theorem ve_ts (a : List V) (b : List Nat) : veq (.tup a) (.str b) = some false := rfl
@[simp] theorem ve_ti (a : List V) (b : Int) : veq (.tup a) (.int b) = some false := rfl
@[simp] theorem cm_eq (a b : V) : cmpop .eq a b = veq a b := rfl
@[simp] theorem cm_ne (a b : V) : cmpop .ne a b = (veq a b).map (!·) := rfl
@[simp] theorem cm_lt (a b : Int) : cmpop .lt (.int a) (.int b) = some (decide (a < b)) := rfl
@[simp] theorem cm_le (a b : Int) : cmpop .le (.int a) (.int b) = some (decide (a <= b)) := rfl
@[simp] theorem cm_gt (a b : Int) : cmpop .gt (.int a) (.int b) = some (decide (b < a)) := rfl
@[simp] theorem cm_ge (a b : Int) : cmpop .ge (.int a) (.int b) = some (decide (b <= a)) := rfl
@[simp] theorem cm_in1 (a : Nat) (b : List Nat) : cmpop .isin (.str [a]) (.str b) = some (b.contains a) := rfl
@[simp] theorem cm_ni1 (a : Nat) (b : List Nat) : cmpop .notin (.str [a]) (.str b) = some (!(b.contains a)) := rfl
@[simp] theorem cm_int (a : List Nat) (b : List V) : cmpop .isin (.str a) (.tup b) = memV a b := rfl
@[simp] theorem cm_nit (a : List Nat) (b : List V) : cmpop .notin (.str a) (.tup b) = (memV a b).map (!·) := rfl
@[simp] theorem cm_nid (a : List Nat) (b : List (List Nat × V)) : cmpop .notin (.str a) (.dct b) = some (!(lookupD a b).isSome) := rfl
@[simp] theorem cm_is_n : cmpop .is .none .none = some true := rfl
@[simp] theorem cm_is_s (s : List Nat) : cmpop .is (.str s) .none = some false := rfl
@[simp] theorem cm_is_t (s : List V) : cmpop .is (.tup s) .none = some false := rfl
@[simp] theorem cm_is_i (s : Int) : cmpop .is (.int s) .none = some false := rfl
@[simp] theorem cm_isnot_n : cmpop .isnot .none .none = some false := rfl
@[simp] theorem mv_2 (x a b : List Nat) : memV x [.str a,.str b] = some ((a == x) || ((b == x) || false)) := rfl
@[simp] theorem mv_4 (x a b c e : List Nat) : memV x [.str a,.str b,.str c,.str e] = some ((a == x) || ((b == x) || ((c == x) || ((e == x) || false)))) := rfl
@[simp] theorem mv_6 (x a b c e f g : List Nat) : memV x [.str a,.str b,.str c,.str e,.str f,.str g] = some ((a == x) || ((b == x) || ((c == x) || ((e == x) || ((f == x) || ((g == x) || false)))))) := rfl
@[simp] theorem bo_add (a b : Int) : binop .add (.int a) (.int b) = some (.int (a + b)) := rfl
@[simp] theorem bo_adds (a b : List Nat) : binop .add (.str a) (.str b) = if a.length + b.length <= maxLen then some (.str (a ++ b)) else none := rfl
@[simp] theorem bo_addt (a b : List V) : binop .add (.tup a) (.tup b) = if a.length + b.length <= maxLen then some (.tup (a ++ b)) else none := rfl
@[simp] theorem bo_addl (a b : List V) : binop .add (.lst a) (.lst b) = if a.length + b.length <= maxLen then some (.lst (a ++ b)) else none := rfl
@[simp] theorem bo_mul (a b : Int) : binop .mul (.int a) (.int b) = if small a && small b then some (.int (a * b)) else none := rfl
@[simp] theorem bo_mod (a b : Int) : binop .mod (.int a) (.int b) = if b ≠ 0 then some (.int (a.fmod b)) else none := rfl
@[simp] theorem bo_shl (a b : Int) : binop .shl (.int a) (.int b) = if 0 <= b /\ b <= 1000 /\ small a then some (.int (a * 2 ^ b.toNat)) else none := rfl
@[simp] theorem bo_shr (a b : Int) : binop .shr (.int a) (.int b) = if 0 <= b /\ b <= 1000 then some (.int (a.fdiv (2 ^ b.toNat))) else none := rfl
@[simp] theorem bo_band (a b : Int) : binop .band (.int a) (.int b) = if 0 <= a /\ 0 <= b then some (.int ((a.toNat &&& b.toNat : Nat) : Int)) else none := rfl
@[simp] theorem bo_bor (a b : Int) : binop .bor (.int a) (.int b) = if 0 <= a /\ 0 <= b then some (.int ((a.toNat ||| b.toNat : Nat) : Int)) else none := rfl
@[simp] theorem bo_sub (a b : Int) : binop .sub (.int a) (.int b) = some (.int (a - b)) := rfl
@[simp] theorem ln_s (a : List Nat) : lenV (.str a) = some (.int a.length) := rfl
@[simp] theorem ln_t (a : List V) : lenV (.tup a) = some (.int a.length) := rfl
@[simp] theorem ln_l (a : List V) : lenV (.lst a) = some (.int a.length) := rfl
@[simp] theorem it_s (a : List Nat) : itOf σ (.str a) = some (.vals (a.map fun c => .str [c])) := rfl
@[simp] theorem it_t (a : List V) : itOf σ (.tup a) = some (.vals a) := rfl
@[simp] theorem it_l (a : List V) : itOf σ (.lst a) = some (.vals a) := rfl
@[simp] theorem it_r (i : Nat) : itOf σ (.ref i) = listK (σ[i]?) fun _ => some (.ref i 0) := rfl
@[simp] theorem nx_0 : (It.vals []).next σ = some none := rfl
@[simp] theorem nx_1 (v : V) (r : List V) : (It.vals (v :: r)).next σ = some (some (v,.vals r)) := rfl
@[simp] theorem im_t10 (a0 : V) : item (.tup [a0]) (.int 0) = some a0 := rfl
@[simp] theorem im_t20 (a0 a1 : V) : item (.tup [a0,a1]) (.int 0) = some a0 := rfl
@[simp] theorem im_t21 (a0 a1 : V) : item (.tup [a0,a1]) (.int 1) = some a1 := rfl
@[simp] theorem im_t30 (a0 a1 a2 : V) : item (.tup [a0,a1,a2]) (.int 0) = some a0 := rfl
@[simp] theorem im_t31 (a0 a1 a2 : V) : item (.tup [a0,a1,a2]) (.int 1) = some a1 := rfl
@[simp] theorem im_t32 (a0 a1 a2 : V) : item (.tup [a0,a1,a2]) (.int 2) = some a2 := rfl
@[simp] theorem im_t40 (a0 a1 a2 a3 : V) : item (.tup [a0,a1,a2,a3]) (.int 0) = some a0 := rfl
@[simp] theorem im_t41 (a0 a1 a2 a3 : V) : item (.tup [a0,a1,a2,a3]) (.int 1) = some a1 := rfl
@[simp] theorem im_t42 (a0 a1 a2 a3 : V) : item (.tup [a0,a1,a2,a3]) (.int 2) = some a2 := rfl
@[simp] theorem im_t43 (a0 a1 a2 a3 : V) : item (.tup [a0,a1,a2,a3]) (.int 3) = some a3 := rfl
@[simp] theorem im_l20 (a0 a1 : V) : item (.lst [a0,a1]) (.int 0) = some a0 := rfl
@[simp] theorem im_l21 (a0 a1 : V) : item (.lst [a0,a1]) (.int 1) = some a1 := rfl
@[simp] theorem xk_l (xs ys ρ : List V) (σ : List O) (i : Nat) : extK xs (.lst ys) ρ σ i = if xs.length + ys.length < maxLen then some ⟨.none,.nxt,ρ,σ.set i (.list (xs ++ ys))⟩ else none := rfl
@[simp] theorem xk_t (xs ys ρ : List V) (σ : List O) (i : Nat) : extK xs (.tup ys) ρ σ i = if xs.length + ys.length < maxLen then some ⟨.none,.nxt,ρ,σ.set i (.list (xs ++ ys))⟩ else none := rfl
@[simp] theorem ce_r (ρ ρ' : List V) (v : V) (σ : List O) : callEnd ρ ⟨v,.ret,ρ',σ⟩ = some ⟨v,.nxt,ρ,σ⟩ := rfl
@[simp] theorem ce_n (ρ ρ' : List V) (v : V) (σ : List O) : callEnd ρ ⟨v,.nxt,ρ',σ⟩ = some ⟨.none,.nxt,ρ,σ⟩ := rfl
theorem nx_r {σ : List O} {i k : Nat} {xs : List V} {v : V} (h : σ[i]? = some (.list xs)) (hv : xs[k]? = some v) : (It.ref i k).next σ = some (some (v,.ref i (k + 1))) := by simp only [It.next,h,hv]
theorem nx_e {σ : List O} {i : Nat} {xs : List V} (h : σ[i]? = some (.list xs)) : (It.ref i xs.length).next σ = some none := by simp only [It.next,h,List.getElem?_eq_none (Nat.le_refl _),if_true]
theorem chk_ok {t : V} (h : isSome' t = true) : chk t = some t := by cases t <;> first | rfl | cases h
theorem nat_ne {a b : Nat} (h : ¬ a = b) : (a == b) = false := beq_eq_false_iff_ne.mpr h
theorem ne_beq {a b : List Nat} (h : ¬ a = b) : (a == b) = false := beq_eq_false_iff_ne.mpr h
@[simp ↓] theorem fr_0_0 (b : S) : frameOf ⟨0,0,[],b⟩ [] = [] := rfl
@[simp ↓] theorem fr_1_1 (b : S) (x0 : V) : frameOf ⟨1,1,[],b⟩ [x0] = [x0] := rfl
@[simp ↓] theorem fr_1_2 (b : S) (x0 : V) : frameOf ⟨1,2,[],b⟩ [x0] = [x0,.undef] := rfl
@[simp ↓] theorem fr_1_3 (b : S) (x0 : V) : frameOf ⟨1,3,[],b⟩ [x0] = [x0,.undef,.undef] := rfl
@[simp ↓] theorem fr_1_5 (b : S) (x0 : V) : frameOf ⟨1,5,[],b⟩ [x0] = [x0,.undef,.undef,.undef,.undef] := rfl
@[simp ↓] theorem fr_1_6 (b : S) (x0 : V) : frameOf ⟨1,6,[],b⟩ [x0] = [x0,.undef,.undef,.undef,.undef,.undef] := rfl
@[simp ↓] theorem fr_1_8 (b : S) (x0 : V) : frameOf ⟨1,8,[],b⟩ [x0] = [x0,.undef,.undef,.undef,.undef,.undef,.undef,.undef] := rfl
@[simp ↓] theorem fr_1_11 (b : S) (x0 : V) : frameOf ⟨1,11,[],b⟩ [x0] = [x0,.undef,.undef,.undef,.undef,.undef,.undef,.undef,.undef,.undef,.undef] := rfl
@[simp ↓] theorem fr_2_2 (b : S) (x0 x1 : V) : frameOf ⟨2,2,[],b⟩ [x0,x1] = [x0,x1] := rfl
@[simp ↓] theorem fr_2_3 (b : S) (x0 x1 : V) : frameOf ⟨2,3,[],b⟩ [x0,x1] = [x0,x1,.undef] := rfl
@[simp ↓] theorem fr_2_4 (b : S) (x0 x1 : V) : frameOf ⟨2,4,[],b⟩ [x0,x1] = [x0,x1,.undef,.undef] := rfl
@[simp ↓] theorem fr_2_5 (b : S) (x0 x1 : V) : frameOf ⟨2,5,[],b⟩ [x0,x1] = [x0,x1,.undef,.undef,.undef] := rfl
@[simp ↓] theorem fr_2_6 (b : S) (x0 x1 : V) : frameOf ⟨2,6,[],b⟩ [x0,x1] = [x0,x1,.undef,.undef,.undef,.undef] := rfl
@[simp ↓] theorem fr_2_11 (b : S) (x0 x1 : V) : frameOf ⟨2,11,[],b⟩ [x0,x1] = [x0,x1,.undef,.undef,.undef,.undef,.undef,.undef,.undef,.undef,.undef] := rfl
@[simp ↓] theorem fr_3_3 (b : S) (x0 x1 x2 : V) : frameOf ⟨3,3,[],b⟩ [x0,x1,x2] = [x0,x1,x2] := rfl
@[simp ↓] theorem fr_3_4 (b : S) (x0 x1 x2 : V) : frameOf ⟨3,4,[],b⟩ [x0,x1,x2] = [x0,x1,x2,.undef] := rfl
@[simp ↓] theorem fr_3_5 (b : S) (x0 x1 x2 : V) : frameOf ⟨3,5,[],b⟩ [x0,x1,x2] = [x0,x1,x2,.undef,.undef] := rfl
@[simp ↓] theorem fr_3_6 (b : S) (x0 x1 x2 : V) : frameOf ⟨3,6,[],b⟩ [x0,x1,x2] = [x0,x1,x2,.undef,.undef,.undef] := rfl
@[simp ↓] theorem fr_3_9 (b : S) (x0 x1 x2 : V) : frameOf ⟨3,9,[],b⟩ [x0,x1,x2] = [x0,x1,x2,.undef,.undef,.undef,.undef,.undef,.undef] := rfl
@[simp ↓] theorem fr_3_11 (b : S) (x0 x1 x2 : V) : frameOf ⟨3,11,[],b⟩ [x0,x1,x2] = [x0,x1,x2,.undef,.undef,.undef,.undef,.undef,.undef,.undef,.undef] := rfl
@[simp ↓] theorem fr_4_4 (b : S) (x0 x1 x2 x3 : V) : frameOf ⟨4,4,[],b⟩ [x0,x1,x2,x3] = [x0,x1,x2,x3] := rfl
@[simp ↓] theorem fr_4_5 (b : S) (x0 x1 x2 x3 : V) : frameOf ⟨4,5,[],b⟩ [x0,x1,x2,x3] = [x0,x1,x2,x3,.undef] := rfl
@[simp ↓] theorem fr_4_7 (b : S) (x0 x1 x2 x3 : V) : frameOf ⟨4,7,[],b⟩ [x0,x1,x2,x3] = [x0,x1,x2,x3,.undef,.undef,.undef] := rfl
@[simp ↓] theorem fr_4_12 (b : S) (x0 x1 x2 x3 : V) : frameOf ⟨4,12,[],b⟩ [x0,x1,x2,x3] = [x0,x1,x2,x3,.undef,.undef,.undef,.undef,.undef,.undef,.undef,.undef] := rfl
@[simp ↓] theorem fr_k1 (b : S) (x0 x1 : V) : frameOf ⟨2,3,[.int 0],b⟩ [x0,x1] = [x0,x1,.undef] := rfl
@[simp ↓] theorem fr_k0 (b : S) (x0 : V) : frameOf ⟨2,3,[.int 0],b⟩ [x0] = [x0,.int 0,.undef] := rfl
@[simp ↓] theorem lk_n (P : Prog) (t : X) (b : S) (d : Nat) (v : V) (ρ : List V) (σ : List O) : lpK P t b d ⟨v,.nxt,ρ,σ⟩ = ev P (.loop t b) d ρ σ := rfl
@[simp ↓] theorem lk_r (P : Prog) (t : X) (b : S) (d : Nat) (v : V) (ρ : List V) (σ : List O) : lpK P t b d ⟨v,.ret,ρ,σ⟩ = some ⟨v,.ret,ρ,σ⟩ := rfl
@[simp ↓] theorem lk_b (P : Prog) (t : X) (b : S) (d : Nat) (v : V) (ρ : List V) (σ : List O) : lpK P t b d ⟨v,.brk,ρ,σ⟩ = some ⟨.none,.nxt,ρ,σ⟩ := rfl
@[simp ↓] theorem lb_t (P : Prog) (t : X) (b : S) (d : Nat) (ρ : List V) (σ : List O) : lpB P t b d ρ σ true = (evS P b d ρ σ).bind (lpK P t b d) := rfl
@[simp ↓] theorem lb_f (P : Prog) (t : X) (b : S) (d : Nat) (ρ : List V) (σ : List O) : lpB P t b d ρ σ false = some ⟨.none,.nxt,ρ,σ⟩ := rfl
@[simp ↓] theorem lt_ (P : Prog) (t : X) (b : S) (d : Nat) (ρ : List V) (v : V) (f : Fl) (p : List V) (σ : List O) : lpT P t b d ρ ⟨v,f,p,σ⟩ = (truth v).bind (lpB P t b d ρ σ) := rfl
@[simp ↓] theorem nt_n (P : Prog) (d : Nat) (tg : List Nat) (b : S) (it' : It) (v : V) (ρ : List V) (σ : List O) : ntK P d tg b it' ⟨v,.nxt,ρ,σ⟩ = ev P (.iter tg it' b) d ρ σ := rfl
@[simp ↓] theorem nt_r (P : Prog) (d : Nat) (tg : List Nat) (b : S) (it' : It) (v : V) (ρ : List V) (σ : List O) : ntK P d tg b it' ⟨v,.ret,ρ,σ⟩ = some ⟨v,.ret,ρ,σ⟩ := rfl
@[simp ↓] theorem nt_b (P : Prog) (d : Nat) (tg : List Nat) (b : S) (it' : It) (v : V) (ρ : List V) (σ : List O) : ntK P d tg b it' ⟨v,.brk,ρ,σ⟩ = some ⟨.none,.nxt,ρ,σ⟩ := rfl
@[simp ↓] theorem ntB_ (P : Prog) (d : Nat) (σ : List O) (tg : List Nat) (b : S) (it' : It) (ρ : List V) : ntB P d σ tg b it' ρ = (evS P b d ρ σ).bind (ntK P d tg b it') := rfl
@[simp ↓] theorem nk_0 (tg : List Nat) (b : S) : nextK P d ρ σ tg b none = some ⟨.none,.nxt,ρ,σ⟩ := rfl
@[simp ↓] theorem nk_1 (tg : List Nat) (b : S) (v : V) (it' : It) : nextK P d ρ σ tg b (some (v,it')) = (stOne ρ tg v).bind (ntB P d σ tg b it') := rfl
@[simp ↓] theorem ncE_ (P : Prog) (d : Nat) (en : Option Nat) (tg : List Nat) (elt cnd : X) (acc : List V) (it' : It) (ρ : List V) (v : V) (f : Fl) (p : List V) (σ : List O) : ncE P d en tg elt cnd acc it' ρ ⟨v,f,p,σ⟩ = cond (isSome' v) (if acc.length < maxLen then ev P (.comp (en.map (· + 1)) tg it' elt cnd (acc ++ [v])) d ρ σ else none) none := rfl
@[simp ↓] theorem ncD_t (P : Prog) (d : Nat) (en : Option Nat) (tg : List Nat) (elt cnd : X) (acc : List V) (it' : It) (ρ : List V) (σ : List O) : ncD P d en tg elt cnd acc it' ρ σ true = (evX P elt d ρ σ).bind (ncE P d en tg elt cnd acc it' ρ) := rfl
@[simp ↓] theorem ncD_f (P : Prog) (d : Nat) (en : Option Nat) (tg : List Nat) (elt cnd : X) (acc : List V) (it' : It) (ρ : List V) (σ : List O) : ncD P d en tg elt cnd acc it' ρ σ false = ev P (.comp (en.map (· + 1)) tg it' elt cnd acc) d ρ σ := rfl
@[simp ↓] theorem ncC_ (P : Prog) (d : Nat) (en : Option Nat) (tg : List Nat) (elt cnd : X) (acc : List V) (it' : It) (ρ : List V) (v : V) (f : Fl) (p : List V) (σ : List O) : ncC P d en tg elt cnd acc it' ρ ⟨v,f,p,σ⟩ = (truth v).bind (ncD P d en tg elt cnd acc it' ρ σ) := rfl
@[simp ↓] theorem ncB_ (P : Prog) (d : Nat) (en : Option Nat) (tg : List Nat) (elt cnd : X) (acc : List V) (it' : It) (σ : List O) (ρ : List V) : ncB P d en tg elt cnd acc it' σ ρ = (evX P cnd d ρ σ).bind (ncC P d en tg elt cnd acc it' ρ) := rfl
@[simp ↓] theorem nc_0 (en : Option Nat) (tg : List Nat) (elt cnd : X) (acc : List V) : nextC P d ρ σ en tg elt cnd acc none = some ⟨.lst acc,.nxt,ρ,σ⟩ := rfl
@[simp ↓] theorem nc_1 (en : Option Nat) (tg : List Nat) (elt cnd : X) (acc : List V) (v : V) (it' : It) : nextC P d ρ σ en tg elt cnd acc (some (v,it')) = (stOne ρ tg (enumV en v)).bind (ncB P d en tg elt cnd acc it' σ) := rfl
end
section
variable (d : Nat) (ρ : List V) (σ : List O)
theorem run_eq (c : Cmd) : ev theP c d ρ σ = evF theP c d ρ σ := evR_eq theB c d ρ σ
theorem call_of {f : Nat} {args : List V} {c : FnCode} (hf : theP.fn f = some c) (hd : d < 60) (ha : argsOk c args = true) : ev theP (.call f args) d ρ σ = (evS theP c.body (d + 1) (frameOf c args) σ).bind (callEnd ρ) := by
  rw [run_eq]
  show (theP.fn f).bind _ = _
  rw [hf]
  show cond (Nat.blt d maxDepth && argsOk c args) _ _ = _
  rw [ha,Nat.blt_eq.mpr (show d < maxDepth from hd)]
  rfl
theorem l_loop (t : X) (b : S) : ev theP (.loop t b) d ρ σ = (evX theP t d ρ σ).bind (lpT theP t b d ρ) := run_eq d ρ σ _
theorem l_iter (tg : List Nat) (it : It) (b : S) : ev theP (.iter tg it b) d ρ σ = (it.next σ).bind (nextK theP d ρ σ tg b) := run_eq d ρ σ _
theorem l_comp (en : Option Nat) (tg : List Nat) (it : It) (elt cnd : X) (acc : List V) : ev theP (.comp en tg it elt cnd acc) d ρ σ = (it.next σ).bind (nextC theP d ρ σ en tg elt cnd acc) := run_eq d ρ σ _
theorem closed {n : Nat} {c : Cmd} {d : Nat} {ρ : List V} {σ : List O} {r : Res} (h : evN theB n c d ρ σ = some r) {d' : Nat} (hd : d' <= d) : ev theP c d' ρ σ = some r := evN_ev theB n c d d' ρ σ hd r h
end
end Mine
local macro_rules | `(tactic| omega) => `(tactic| first | exact Mine.dl ‹_ < _› rfl | exact Mine.ds ‹_ < _› rfl | exact Mine.dle ‹_ <= _› rfl | lia)
set_option tactic.hygienic false
namespace Mine
noncomputable abbrev kTokens : List Nat := [116,111,107,101,110,115]
noncomputable abbrev kAt : List Nat := [97,116]
noncomputable abbrev kTongue : List Nat := [116,111,110,103,117,101]
noncomputable abbrev kKnown : List Nat := [107,110,111,119,110]
noncomputable abbrev kFamily : List Nat := [102,97,109,105,108,121]
noncomputable abbrev kTable : List Nat := [116,97,98,108,101]
noncomputable abbrev RF (t : Nat) (i : Int) (tg : Nat) : List (List Nat × V) := [(kTokens,.ref t),(kAt,.int i),(kTongue,.inst 1 tg),(kKnown,.dct []),(kFamily,.str []),(kTable,.str [])]
@[simp] theorem lk_tokens (t : Nat) (i : Int) (tg : Nat) : lookupD [116,111,107,101,110,115] (RF t i tg) = some (.ref t) := rfl
@[simp] theorem lk_at (t : Nat) (i : Int) (tg : Nat) : lookupD [97,116] (RF t i tg) = some (.int i) := rfl
@[simp] theorem lk_tongue (t : Nat) (i : Int) (tg : Nat) : lookupD [116,111,110,103,117,101] (RF t i tg) = some (.inst 1 tg) := rfl
@[simp] theorem lk_look (t : Nat) (i : Int) (tg : Nat) : lookupD [108,111,111,107] (RF t i tg) = none := rfl
@[simp] theorem lk_take (t : Nat) (i : Int) (tg : Nat) : lookupD [116,97,107,101] (RF t i tg) = none := rfl
@[simp] theorem lk_is_sign (t : Nat) (i : Int) (tg : Nat) : lookupD [105,115,95,115,105,103,110] (RF t i tg) = none := rfl
@[simp] theorem lk_is_word (t : Nat) (i : Int) (tg : Nat) : lookupD [105,115,95,119,111,114,100] (RF t i tg) = none := rfl
@[simp] theorem lk_skip_sign (t : Nat) (i : Int) (tg : Nat) : lookupD [115,107,105,112,95,115,105,103,110] (RF t i tg) = none := rfl
@[simp] theorem lk_want_sign (t : Nat) (i : Int) (tg : Nat) : lookupD [119,97,110,116,95,115,105,103,110] (RF t i tg) = none := rfl
@[simp] theorem lk_want_word (t : Nat) (i : Int) (tg : Nat) : lookupD [119,97,110,116,95,119,111,114,100] (RF t i tg) = none := rfl
@[simp] theorem lk_skip_rows (t : Nat) (i : Int) (tg : Nat) : lookupD [115,107,105,112,95,114,111,119,115] (RF t i tg) = none := rfl
@[simp] theorem pt_at (t : Nat) (i j : Int) (tg : Nat) : putD [97,116] (.int j) (RF t i tg) = RF t j tg := rfl
@[simp] theorem at_tokens : theP.attr 0 [116,111,107,101,110,115] = true := rfl
@[simp] theorem at_at : theP.attr 0 [97,116] = true := rfl
@[simp] theorem at_tongue : theP.attr 0 [116,111,110,103,117,101] = true := rfl
@[simp] theorem mt_look : theP.meth 0 [108,111,111,107] = some 61 := rfl
@[simp] theorem mt_take : theP.meth 0 [116,97,107,101] = some 62 := rfl
@[simp] theorem mt_is_sign : theP.meth 0 [105,115,95,115,105,103,110] = some 63 := rfl
@[simp] theorem mt_is_word : theP.meth 0 [105,115,95,119,111,114,100] = some 64 := rfl
@[simp] theorem mt_skip_sign : theP.meth 0 [115,107,105,112,95,115,105,103,110] = some 65 := rfl
@[simp] theorem mt_want_sign : theP.meth 0 [119,97,110,116,95,115,105,103,110] = some 66 := rfl
@[simp] theorem mt_want_word : theP.meth 0 [119,97,110,116,95,119,111,114,100] = some 67 := rfl
@[simp] theorem mt_skip_rows : theP.meth 0 [115,107,105,112,95,114,111,119,115] = some 68 := rfl
theorem fn_look : theP.fn 61 = some ⟨2,3,[.int 0],c_R_look⟩ := rfl
theorem fn_take : theP.fn 62 = some ⟨1,2,[],c_R_take⟩ := rfl
theorem fn_is_sign : theP.fn 63 = some ⟨2,3,[],c_R_is_sign⟩ := rfl
theorem fn_is_word : theP.fn 64 = some ⟨2,3,[],c_R_is_word⟩ := rfl
theorem fn_skip_sign : theP.fn 65 = some ⟨2,2,[],c_R_skip_sign⟩ := rfl
theorem fn_want_sign : theP.fn 66 = some ⟨2,2,[],c_R_want_sign⟩ := rfl
noncomputable abbrev tk (s w : List Nat) (row col : Int) : V := .tup [.str s,.str w,.int row,.int col]
noncomputable abbrev kFields : List Nat := [102,105,101,108,100,115]
noncomputable abbrev kTypes : List Nat := [116,121,112,101,115]
noncomputable abbrev TF : List (List Nat × V) := [(kFields,.dct []),(kTypes,typesV)]
structure Rc where
  r : Nat
  t : Nat
  tg : Nat
  T : List V
structure Ra (σ : List O) (c : Rc) (i : Nat) : Prop where
  r : σ[c.r]? = some (.ns (RF c.t i c.tg))
  t : σ[c.t]? = some (.list c.T)
  g : σ[c.tg]? = some (.ns TF)
theorem set_same {α : Type} {l : List α} {k : Nat} {a : α} (h : l[k]? = some a) : l.set k a = l := by
  apply List.ext_getElem?
  intro j
  rw [List.getElem?_set]
  split
  · rename_i e; subst e
    split
    · exact h.symm
    · rename_i q; rw [List.getElem?_eq_none (by omega)]
  · rfl
theorem get_set {l : List O} {k : Nat} {a b : O} (h : l[k]? = some a) : (l.set k b)[k]? = some b := by
  rw [List.getElem?_set_self (List.getElem?_eq_some_iff.mp h).1]
noncomputable abbrev Mv (σ : List O) (c : Rc) (j : Nat) : List O := σ.set c.r (.ns (RF c.t j c.tg))
theorem Ra.nt {σ : List O} {c : Rc} {i : Nat} (h : Ra σ c i) : c.r ≠ c.t := by
  intro e; have := h.t; rw [← e,h.r] at this; cases this
theorem Ra.ng {σ : List O} {c : Rc} {i : Nat} (h : Ra σ c i) : c.r ≠ c.tg := by
  intro e; have := h.g; rw [← e,h.r] at this; cases this
theorem Ra.go {σ : List O} {c : Rc} {i : Nat} (h : Ra σ c i) (j : Nat) : Ra (Mv σ c j) c j :=
  ⟨get_set h.r,by rw [Mv,List.getElem?_set_ne h.nt]; exact h.t,by rw [Mv,List.getElem?_set_ne h.ng]; exact h.g⟩
theorem Ra.same {σ : List O} {c : Rc} {i : Nat} (h : Ra σ c i) : Mv σ c i = σ := set_same h.r
theorem Mv.mv (σ : List O) (c : Rc) (i j : Nat) : Mv (Mv σ c i) c j = Mv σ c j := List.set_set ..
structure Rd (σ : List O) (c : Rc) (j : Nat) (σ' : List O) : Prop where
  a : Ra σ' c j
  l : σ.length <= σ'.length
  o : ∀ k,k ≠ c.r -> k < σ.length -> σ'[k]? = σ[k]?
theorem Rd.mv {σ : List O} {c : Rc} {i : Nat} (h : Ra σ c i) (j : Nat) : Rd σ c j (Mv σ c j) :=
  ⟨h.go j,by simp,fun k hk _ => by rw [Mv,List.getElem?_set_ne (Ne.symm hk)]⟩
theorem Rd.refl {σ : List O} {c : Rc} {i : Nat} (h : Ra σ c i) : Rd σ c i σ := ⟨h,Nat.le_refl _,fun _ _ _ => rfl⟩
theorem Rd.trans {σ σ' σ'' : List O} {c : Rc} {i j : Nat} (h : Rd σ c i σ') (g : Rd σ' c j σ'') : Rd σ c j σ'' :=
  ⟨g.a,Nat.le_trans h.l g.l,fun k hk hl => by rw [g.o k hk (Nat.lt_of_lt_of_le hl h.l),h.o k hk hl]⟩
theorem Ra.new {σ : List O} {c : Rc} {i : Nat} (h : Ra σ c i) (xs : List O) : Ra (σ ++ xs) c i := by
  have f : ∀ {k : Nat} {o : O},σ[k]? = some o -> (σ ++ xs)[k]? = some o := fun q => by rw [List.getElem?_append_left (List.getElem?_eq_some_iff.mp q).1]; exact q
  exact ⟨f h.r,f h.t,f h.g⟩
theorem Rd.new {σ : List O} {c : Rc} {i : Nat} (h : Ra σ c i) (xs : List O) : Rd σ c i (σ ++ xs) :=
  ⟨h.new xs,by simp,fun k _ hl => by rw [List.getElem?_append_left hl]⟩
section
variable {σ : List O} {c : Rc} {i : Nat} {d : Nat} {ρ : List V}
theorem look_ok {k : Nat} {t : V} (h : Ra σ c i) (ht : c.T[i + k]? = some t) (hd : d < 60) (hu : isSome' t = true) :
    ev theP (.call 61 [.inst 0 c.r,.int k]) d ρ σ = some ⟨t,.nxt,ρ,σ⟩ := by
  have hlt : i + k < c.T.length := (List.getElem?_eq_some_iff.mp ht).1
  have hc : ¬ ((c.T.length : Int) <= i + k) := by omega
  have h0 : (0 : Int) <= i + k := by omega
  have h1 : (i : Int) + k < c.T.length := by omega
  have h2 : ((i : Int) + k).toNat = i + k := by omega
  rw [call_of _ _ _ fn_look (by omega) rfl]
  simp [hd,c_R_look,h.r,h.t,Mv,item,place,hc,h0,h1,h2,ht]
theorem look0 {t : V} (h : Ra σ c i) (ht : c.T[i]? = some t) (hd : d < 60) (hu : isSome' t = true) :
    ev theP (.call 61 [.inst 0 c.r]) d ρ σ = some ⟨t,.nxt,ρ,σ⟩ := by
  have e : ev theP (.call 61 [.inst 0 c.r]) d ρ σ = ev theP (.call 61 [.inst 0 c.r,.int (0 : Nat)]) d ρ σ := by
    rw [call_of _ _ _ fn_look (by omega) rfl,call_of _ _ _ fn_look (by omega) rfl]; simp
  rw [e]
  exact look_ok h ht hd hu
theorem take_ok {t : V} (h : Ra σ c i) (ht : c.T[i]? = some t) (hd : d < 59) (hu : isSome' t = true) :
    ev theP (.call 62 [.inst 0 c.r]) d ρ σ = some ⟨t,.nxt,ρ,Mv σ c (i + 1)⟩ := by
  rw [call_of _ _ _ fn_take (by omega) rfl]
  have lk := look0 (d := d + 1) (ρ := [.inst 0 c.r,.undef]) h ht (by omega) hu
  have gl : chk t = some t := chk_ok hu
  simp [c_R_take,gl,h.r,Mv,lk,hu]
theorem is_sign_ok {s w x : List Nat} {row col : Int} (h : Ra σ c i) (ht : c.T[i]? = some (tk s w row col)) (hd : d < 59) :
    ev theP (.call 63 [.inst 0 c.r,.str x]) d ρ σ = some ⟨.bool (s == [115,105,103,110] && w == x),.nxt,ρ,σ⟩ := by
  rw [call_of _ _ _ fn_is_sign (by omega) rfl]
  have lk := look0 (d := d + 1) (ρ := [.inst 0 c.r,.str x,.undef]) h ht (by omega) rfl
  by_cases q : s = [115,105,103,110]
  · simp [c_R_is_sign,h.r,h.t,Mv,lk,q]
  · simp [c_R_is_sign,h.r,h.t,Mv,lk,ne_beq q]
theorem is_word_ok {s w x : List Nat} {row col : Int} (h : Ra σ c i) (ht : c.T[i]? = some (tk s w row col)) (hd : d < 59) :
    ev theP (.call 64 [.inst 0 c.r,.str x]) d ρ σ = some ⟨.bool (s == [119,111,114,100] && w == x),.nxt,ρ,σ⟩ := by
  rw [call_of _ _ _ fn_is_word (by omega) rfl]
  have lk := look0 (d := d + 1) (ρ := [.inst 0 c.r,.str x,.undef]) h ht (by omega) rfl
  by_cases q : s = [119,111,114,100]
  · simp [c_R_is_word,h.r,h.t,Mv,lk,q]
  · simp [c_R_is_word,h.r,h.t,Mv,lk,ne_beq q]
theorem skip_sign_no {s w x : List Nat} {row col : Int} (h : Ra σ c i) (ht : c.T[i]? = some (tk s w row col)) (hd : d < 58) (hn : (s == [115,105,103,110] && w == x) = false) :
    ev theP (.call 65 [.inst 0 c.r,.str x]) d ρ σ = some ⟨.bool false,.nxt,ρ,σ⟩ := by
  rw [call_of _ _ _ fn_skip_sign (by omega) rfl]
  have lk := is_sign_ok (d := d + 1) (ρ := [.inst 0 c.r,.str x]) (x := x) h ht (by omega)
  rw [hn] at lk
  simp [c_R_skip_sign,h.r,h.t,Mv,lk]
theorem skip_sign_yes {x : List Nat} {row col : Int} (h : Ra σ c i) (ht : c.T[i]? = some (tk [115,105,103,110] x row col)) (hd : d < 58) :
    ev theP (.call 65 [.inst 0 c.r,.str x]) d ρ σ = some ⟨.bool true,.nxt,ρ,Mv σ c (i + 1)⟩ := by
  rw [call_of _ _ _ fn_skip_sign (by omega) rfl]
  have lk := is_sign_ok (d := d + 1) (ρ := [.inst 0 c.r,.str x]) (x := x) h ht (by omega)
  simp [c_R_skip_sign,h.r,h.t,Mv,lk]
theorem want_sign_ok {x : List Nat} {row col : Int} (h : Ra σ c i) (ht : c.T[i]? = some (tk [115,105,103,110] x row col)) (hd : d < 57) :
    ev theP (.call 66 [.inst 0 c.r,.str x]) d ρ σ = some ⟨.none,.nxt,ρ,Mv σ c (i + 1)⟩ := by
  rw [call_of _ _ _ fn_want_sign (by omega) rfl]
  have lk := skip_sign_yes (d := d + 1) (ρ := [.inst 0 c.r,.str x]) (x := x) h ht (by omega)
  simp [c_R_want_sign,h.r,h.t,Mv,lk]
theorem fn_want_word : theP.fn 67 = some ⟨1,1,[],c_R_want_word⟩ := rfl
theorem fn_skip_rows : theP.fn 68 = some ⟨1,1,[],c_R_skip_rows⟩ := rfl
theorem want_word_ok {w : List Nat} {row col : Int} (h : Ra σ c i) (ht : c.T[i]? = some (tk [119,111,114,100] w row col)) (hd : d < 57) :
    ev theP (.call 67 [.inst 0 c.r]) d ρ σ = some ⟨.str w,.nxt,ρ,Mv σ c (i + 1)⟩ := by
  rw [call_of _ _ _ fn_want_word (by omega) rfl]
  have lk := look0 (d := d + 1) (ρ := [.inst 0 c.r]) h ht (by omega) rfl
  have lt := take_ok (d := d + 1) (ρ := [.inst 0 c.r]) h ht (by omega) rfl
  simp [c_R_want_word,h.r,h.t,Mv,lk,lt]
noncomputable abbrev kEnd : List Nat := [101,110,100]
theorem rows_loop (hd : d < 57) : ∀ (n i : Nat) (σ : List O),Ra σ c i -> (∀ k,k < n -> ∃ row col,c.T[i + k]? = some (tk kEnd [10] row col)) -> (∃ s w row col,c.T[i + n]? = some (tk s w row col) /\ (s == kEnd && w == [10]) = false) →
    ev theP (.loop (.and (.cmp .eq (.idx (.meth (.loc 0) [108,111,111,107] .nil) (.cInt (0))) (.cStr [101,110,100])) (.cmp .eq (.idx (.meth (.loc 0) [108,111,111,107] .nil) (.cInt (1))) (.cStr [10]))) (.augA (.loc 0) [97,116] .add (.cInt (1)))) d [.inst 0 c.r] σ =
      some ⟨.none,.nxt,[.inst 0 c.r],Mv σ c (i + n)⟩
  | 0,i,σ,h,_,⟨s,w,row,col,ht,hn⟩ => by
    rw [l_loop]
    have lk := look0 (d := d) (ρ := [.inst 0 c.r]) h ht (by omega) rfl
    by_cases q : s = [101,110,100]
    · have q2 : ¬ w = [10] := by intro z; subst z q; simp at hn
      simp [h.r,h.t,Mv,lk,q,ne_beq q2,show σ.set c.r (.ns (RF c.t i c.tg)) = σ from h.same]
    · simp [h.r,h.t,Mv,lk,ne_beq q,show σ.set c.r (.ns (RF c.t i c.tg)) = σ from h.same]
  | n + 1,i,σ,h,hk,he => by
    rw [l_loop]
    obtain ⟨row,col,ht⟩ := hk 0 (by omega)
    have lk := look0 (d := d) (ρ := [.inst 0 c.r]) h ht (by omega) rfl
    have ih := rows_loop hd n (i + 1) (Mv σ c (i + 1)) (h.go _) (fun k q => by have := hk (k + 1) (by omega); rwa [show i + (k + 1) = i + 1 + k by omega] at this) (by rwa [show i + (n + 1) = i + 1 + n by omega] at he)
    rw [Mv.mv,show i + 1 + n = i + (n + 1) by omega] at ih
    simp only [Mv] at ih
    have e : (((i + 1 : Nat) : Int)) = (i : Int) + 1 := by push_cast; rfl
    rw [e] at ih
    simp [h.r,h.t,Mv,lk,ih]
theorem skip_rows_ok {n : Nat} (h : Ra σ c i) (hk : ∀ k,k < n -> ∃ row col,c.T[i + k]? = some (tk kEnd [10] row col)) (he : ∃ s w row col,c.T[i + n]? = some (tk s w row col) /\ (s == kEnd && w == [10]) = false) (hd : d < 56) :
    ev theP (.call 68 [.inst 0 c.r]) d ρ σ = some ⟨.none,.nxt,ρ,Mv σ c (i + n)⟩ := by
  rw [call_of _ _ _ fn_skip_rows (by omega) rfl]
  have lk := rows_loop (d := d + 1) (by omega) n i σ h hk he
  simp [c_R_skip_rows]
  rw [lk]
  simp
end
@[simp] theorem at_types : theP.attr 1 [116,121,112,101,115] = true := rfl
theorem fn_type_here : theP.fn 35 = some ⟨2,2,[],c_type_here⟩ := rfl
theorem fn_is_mask : theP.fn 36 = some ⟨2,2,[],c_is_mask_kind⟩ := rfl
theorem fn_resolved : theP.fn 37 = some ⟨4,4,[],c_resolved⟩ := rfl
theorem fn_span_of_text : theP.fn 38 = some ⟨3,3,[],c_span_of_text⟩ := rfl
theorem fn_value_of_text : theP.fn 39 = some ⟨3,3,[],c_value_of_text⟩ := rfl
theorem fn_read_from : theP.fn 40 = some ⟨3,5,[],c_read_from⟩ := rfl
theorem fn_read_value : theP.fn 41 = some ⟨2,2,[],c_read_value⟩ := rfl
theorem fn_read_span : theP.fn 42 = some ⟨2,6,[],c_read_span⟩ := rfl
theorem fn_barred : theP.fn 43 = some ⟨3,3,[],c_barred⟩ := rfl
inductive Kd where | ip | sv | fl
noncomputable def Kd.name : Kd -> List Nat
  | .ip => [105,112,118,52,95,97,100,100,114]
  | .sv => [105,110,101,116,95,115,101,114,118,105,99,101]
  | .fl => [116,99,112,95,102,108,97,103]
noncomputable def Kd.bits : Kd -> Int
  | .ip => 32
  | .sv => 16
  | .fl => 8
noncomputable def Kd.typ (k : Kd) : V := (lookupD k.name (match typesV with | .dct l => l | _ => [])).getD .none
noncomputable abbrev Kd.v (k : Kd) : V := .tup [.str k.name,.int k.bits]
noncomputable def Kd.isFl : Kd -> Bool
  | .fl => true
  | _ => false
noncomputable def Kd.sort : Kd -> List Nat
  | .ip => [105,112,52]
  | .sv => [110,117,109,98,101,114]
  | .fl => [109,97,115,107]
@[simp] theorem lk_types : lookupD [116,121,112,101,115] TF = some typesV := rfl
@[simp] theorem dr_types (σ : List O) : deref σ typesV = some typesV := rfl
@[simp] theorem nin_typ (k : Kd) : cmpop .notin (.str k.name) typesV = some false := by cases k <;> rfl
@[simp] theorem it_typ (k : Kd) : item typesV (.str k.name) = some k.typ := by cases k <;> rfl
@[simp] theorem so_typ (k : Kd) : isSome' k.typ = true := by cases k <;> rfl
@[simp] theorem dr_typ (σ : List O) (k : Kd) : deref σ k.typ = some k.typ := by cases k <;> rfl
@[simp] theorem im_typ (k : Kd) : item k.typ (.int 2) = some (.str k.sort) := by cases k <;> rfl
@[simp] theorem so_mask (k : Kd) : (k.sort == [109,97,115,107]) = k.isFl := by cases k <;> rfl
@[simp] theorem so_name (k : Kd) : (k.sort == [110,97,109,101]) = false := by cases k <;> rfl
section
variable {σ : List O} {c : Rc} {i : Nat} {d : Nat} {ρ : List V}
theorem type_here_ok (k : Kd) (h : Ra σ c i) (hd : d < 59) :
    ev theP (.call 35 [.inst 0 c.r,.str k.name]) d ρ σ = some ⟨k.typ,.nxt,ρ,σ⟩ := by
  rw [call_of _ _ _ fn_type_here (by omega) rfl]
  simp [c_type_here,h.r,h.g]
theorem is_mask_ok (k : Kd) (h : Ra σ c i) (hd : d < 58) :
    ev theP (.call 36 [.inst 0 c.r,k.v]) d ρ σ = some ⟨.bool k.isFl,.nxt,ρ,σ⟩ := by
  rw [call_of _ _ _ fn_is_mask (by omega) rfl]
  have lk := type_here_ok (d := d + 1) (ρ := [.inst 0 c.r,k.v]) k h (by omega)
  simp only [Kd.v] at lk
  simp [c_is_mask_kind,Kd.v,lk]
noncomputable def SpanOk (k : Kd) (w : List Nat) (lo hi : Int) : Prop := ∀ d ρ σ,d <= 40 -> ev theP (.call 30 [k.typ,.int k.bits,.str w]) d ρ σ = some ⟨.tup [.int lo,.int hi],.nxt,ρ,σ⟩
noncomputable def ValOk (k : Kd) (w : List Nat) (n : Int) : Prop := ∀ d ρ σ,d <= 40 -> ev theP (.call 27 [k.typ,.int k.bits,.str w]) d ρ σ = some ⟨.int n,.nxt,ρ,σ⟩
theorem resolved_tup {kd tx : V} {a b : V} (hk : isSome' kd = true) (hx : isSome' tx = true) (hd : d < 59) : ev theP (.call 37 [.inst 0 c.r,kd,tx,.tup [a,b]]) d ρ σ = some ⟨.tup [a,b],.nxt,ρ,σ⟩ := by
  rw [call_of _ _ _ fn_resolved (by omega) (by simp [argsOk,hk,hx])]
  simp [c_resolved]
theorem resolved_int {kd tx : V} {n : Int} (hk : isSome' kd = true) (hx : isSome' tx = true) (hn : 0 <= n) (hd : d < 59) : ev theP (.call 37 [.inst 0 c.r,kd,tx,.int n]) d ρ σ = some ⟨.int n,.nxt,ρ,σ⟩ := by
  rw [call_of _ _ _ fn_resolved (by omega) (by simp [argsOk,hk,hx])]
  have : ¬ n = -1 := by omega
  have h2 : (n == -1) = false := by simpa using this
  simp [c_resolved,h2]
theorem span_of_text_ok {k : Kd} {w : List Nat} {lo hi : Int} (hs : SpanOk k w lo hi) (h : Ra σ c i) (hd : d < 30) :
    ev theP (.call 38 [.inst 0 c.r,k.v,.str w]) d ρ σ = some ⟨.tup [.int lo,.int hi],.nxt,ρ,σ⟩ := by
  rw [call_of _ _ _ fn_span_of_text (by omega) rfl]
  have lk := type_here_ok (d := d + 1) (ρ := [.inst 0 c.r,k.v,.str w]) k h (by omega)
  have l2 := hs (d + 1) [.inst 0 c.r,k.v,.str w] σ (by omega)
  have l3 := resolved_tup (σ := σ) (c := c) (ρ := [.inst 0 c.r,k.v,.str w]) (d := d + 1) (kd := k.v) (tx := .str w) (a := .int lo) (b := .int hi) rfl rfl (by omega)
  simp only [Kd.v] at lk l2 l3
  simp [c_span_of_text,Kd.v,lk,l2,l3]
theorem value_of_text_ok {k : Kd} {w : List Nat} {n : Int} (hs : ValOk k w n) (hn : 0 <= n) (h : Ra σ c i) (hd : d < 30) :
    ev theP (.call 39 [.inst 0 c.r,k.v,.str w]) d ρ σ = some ⟨.int n,.nxt,ρ,σ⟩ := by
  rw [call_of _ _ _ fn_value_of_text (by omega) rfl]
  have lk := type_here_ok (d := d + 1) (ρ := [.inst 0 c.r,k.v,.str w]) k h (by omega)
  have l2 := hs (d + 1) [.inst 0 c.r,k.v,.str w] σ (by omega)
  have l3 := resolved_int (σ := σ) (c := c) (ρ := [.inst 0 c.r,k.v,.str w]) (d := d + 1) (kd := k.v) (tx := .str w) (n := n) rfl rfl hn (by omega)
  simp only [Kd.v] at lk l2 l3
  simp [c_value_of_text,Kd.v,lk,l2,l3]
end
theorem sp_ip0 : SpanOk .ip [49,48,46,48,46,48,46,49] 167772161 167772161 := fun d ρ σ hd => closed (n := 100) (d := 40) (by kernel_rfl) hd
theorem sp_ip1 : SpanOk .ip [48,46,48,46,48,46,48] 0 0 := fun d ρ σ hd => closed (n := 100) (d := 40) (by kernel_rfl) hd
theorem sp_ip2 : SpanOk .ip [49,48,46,48,46,48,46,57,47,51,48] 167772168 167772171 := fun d ρ σ hd => closed (n := 100) (d := 40) (by kernel_rfl) hd
theorem sp_ip3 : SpanOk .ip [49,48,46,48,46,48,46,49,45,49,48,46,48,46,48,46,53] 167772161 167772165 := fun d ρ σ hd => closed (n := 100) (d := 40) (by kernel_rfl) hd
theorem sp_sv0 : SpanOk .sv [115,115,104] 22 22 := fun d ρ σ hd => closed (n := 100) (d := 40) (by kernel_rfl) hd
theorem sp_sv1 : SpanOk .sv [48,120,53,48] 80 80 := fun d ρ σ hd => closed (n := 100) (d := 40) (by kernel_rfl) hd
theorem sp_sv2 : SpanOk .sv [56,48,45,52,52,51] 80 443 := fun d ρ σ hd => closed (n := 100) (d := 40) (by kernel_rfl) hd
theorem sp_sv3 : SpanOk .sv [50,50,45,48,50,50] 22 22 := fun d ρ σ hd => closed (n := 100) (d := 40) (by kernel_rfl) hd
theorem sp_fl0 : SpanOk .fl [97,99,107] 16 16 := fun d ρ σ hd => closed (n := 100) (d := 40) (by kernel_rfl) hd
theorem sp_fl1 : SpanOk .fl [115,121,110] 2 2 := fun d ρ σ hd => closed (n := 100) (d := 40) (by kernel_rfl) hd
theorem sp_fl2 : SpanOk .fl [49,56] 18 18 := fun d ρ σ hd => closed (n := 100) (d := 40) (by kernel_rfl) hd
theorem sp_fl3 : SpanOk .fl [48] 0 0 := fun d ρ σ hd => closed (n := 100) (d := 40) (by kernel_rfl) hd
theorem va_ip0 : ValOk .ip [49,48,46,48,46,48,46,49] 167772161 := fun d ρ σ hd => closed (n := 100) (d := 40) (by kernel_rfl) hd
theorem va_ip1 : ValOk .ip [48,46,48,46,48,46,48] 0 := fun d ρ σ hd => closed (n := 100) (d := 40) (by kernel_rfl) hd
theorem va_sv0 : ValOk .sv [115,115,104] 22 := fun d ρ σ hd => closed (n := 100) (d := 40) (by kernel_rfl) hd
theorem va_sv1 : ValOk .sv [48,120,53,48] 80 := fun d ρ σ hd => closed (n := 100) (d := 40) (by kernel_rfl) hd
theorem va_ack : ValOk .fl [97,99,107] 16 := fun d ρ σ hd => closed (n := 100) (d := 40) (by kernel_rfl) hd
theorem va_syn : ValOk .fl [115,121,110] 2 := fun d ρ σ hd => closed (n := 100) (d := 40) (by kernel_rfl) hd
theorem va_0x10 : ValOk .fl [48,120,49,48] 16 := fun d ρ σ hd => closed (n := 100) (d := 40) (by kernel_rfl) hd
theorem va_1 : ValOk .fl [49] 1 := fun d ρ σ hd => closed (n := 100) (d := 40) (by kernel_rfl) hd
noncomputable def TimeOk (w : List Nat) (n : Int) : Prop := ∀ d ρ σ,d <= 40 -> ev theP (.call 22 [.str w]) d ρ σ = some ⟨.int n,.nxt,ρ,σ⟩
theorem ti_1m1s : TimeOk [49,109,49,115] 61000 := fun d ρ σ hd => closed (n := 100) (d := 40) (by kernel_rfl) hd
theorem ti_5s : TimeOk [53,115,53,48,48,109,115] 5500 := fun d ρ σ hd => closed (n := 100) (d := 40) (by kernel_rfl) hd
noncomputable abbrev kWord : List Nat := [119,111,114,100]
noncomputable abbrev kSign : List Nat := [115,105,103,110]
noncomputable abbrev kString : List Nat := [115,116,114,105,110,103]
section
variable {σ : List O} {c : Rc} {i : Nat} {d : Nat} {ρ : List V}
theorem read_from_ok {k : Kd} {w : List Nat} {n least row col : Int} (hv : ValOk k w n) (hn : 0 <= n) (hl : least <= n) (h : Ra σ c i) (ht : c.T[i]? = some (tk kWord w row col)) (hd : d < 20) :
    ev theP (.call 40 [.inst 0 c.r,k.v,.int least]) d ρ σ = some ⟨.int n,.nxt,ρ,Mv σ c (i + 1)⟩ := by
  rw [call_of _ _ _ fn_read_from (by omega) rfl]
  have lk := look0 (d := d + 1) (ρ := [.inst 0 c.r,k.v,.int least,.undef,.undef]) h ht (by omega) rfl
  have l2 := value_of_text_ok (d := d + 1) (ρ := [.inst 0 c.r,k.v,.int least,tk kWord w row col,.undef]) hv hn h (by omega)
  have l3 := take_ok (d := d + 1) (ρ := [.inst 0 c.r,k.v,.int least,tk kWord w row col,.int n]) h ht (by omega) rfl
  have hl' : ¬ n < least := by omega
  simp only [Kd.v] at lk l2 l3
  simp [c_read_from,h.r,lk,l2,l3,hl',maxLen,Kd.v]
theorem read_value_ok {k : Kd} {w : List Nat} {n row col : Int} (hv : ValOk k w n) (hn : 0 <= n) (h : Ra σ c i) (ht : c.T[i]? = some (tk kWord w row col)) (hd : d < 19) :
    ev theP (.call 41 [.inst 0 c.r,k.v]) d ρ σ = some ⟨.int n,.nxt,ρ,Mv σ c (i + 1)⟩ := by
  rw [call_of _ _ _ fn_read_value (by omega) rfl]
  have l2 := read_from_ok (d := d + 1) (ρ := [.inst 0 c.r,k.v]) hv hn (least := 0) hn h ht (by omega)
  simp only [Kd.v] at l2
  simp [c_read_value,l2,Kd.v]
theorem typ_name (k : Kd) : ∃ a b s e,k.typ = .tup [a,b,.str s,e] /\ (s == [110,97,109,101]) = false := by
  cases k <;> exact ⟨_,_,_,_,rfl,by decide⟩
theorem read_span_ok {k : Kd} {w : List Nat} {lo hi row col : Int} (hv : SpanOk k w lo hi) (h : Ra σ c i) (ht : c.T[i]? = some (tk kWord w row col)) (hd : d < 20) :
    ev theP (.call 42 [.inst 0 c.r,k.v]) d ρ σ = some ⟨.tup [.int lo,.int hi],.nxt,ρ,Mv σ c (i + 1)⟩ := by
  rw [call_of _ _ _ fn_read_span (by omega) rfl]
  have lk := look0 (d := d + 1) (ρ := [.inst 0 c.r,k.v,.undef,.undef,.undef,.undef]) h ht (by omega) rfl
  have lt := type_here_ok (d := d + 1) (ρ := [.inst 0 c.r,k.v,tk kWord w row col,.undef,.undef,.undef]) k h (by omega)
  have l2 := span_of_text_ok (d := d + 1) (ρ := [.inst 0 c.r,k.v,tk kWord w row col,.bool false,.undef,.undef]) hv h (by omega)
  have l3 := take_ok (d := d + 1) (ρ := [.inst 0 c.r,k.v,tk kWord w row col,.bool false,.tup [.int lo,.int hi],.undef]) h ht (by omega) rfl
  obtain ⟨a,b,s,e,q,hq⟩ := typ_name k
  simp only [Kd.v] at lk l2 l3 lt
  simp [c_read_span,h.r,lk,l2,l3,lt,maxLen,Kd.v,q,hq]
end
noncomputable def Sg (T : List V) (i : Nat) : List (List Nat × List Nat) -> Prop
  | [] => True
  | (s,w) :: r => (∃ row col,T[i]? = some (tk s w row col)) /\ Sg T (i + 1) r
theorem Sg.app {T : List V} : ∀ {i : Nat} {a b : List (List Nat × List Nat)},Sg T i (a ++ b) -> Sg T i a /\ Sg T (i + a.length) b
  | _,[],_,h => ⟨trivial,h⟩
  | i,(s,w) :: r,b,h => by
    obtain ⟨h1,h2⟩ := h
    have := Sg.app h2
    refine ⟨⟨h1,this.1⟩,?_⟩
    rw [show i + ((s,w) :: r).length = i + 1 + r.length by simp; omega]
    exact this.2
noncomputable def Nt (T : List V) (i : Nat) (s0 x : List Nat) : Prop := ∃ s w row col,T[i]? = some (tk s w row col) /\ (s == s0 && w == x) = false
noncomputable def bars (l : List (List Nat × Int)) : List (List Nat × List Nat) := l.flatMap fun p => [(kSign,[124]),(kWord,p.1)]
noncomputable def orI (a b : Int) : Int := ((a.toNat ||| b.toNat : Nat) : Int)
theorem orI_nn (a b : Int) : 0 <= orI a b := Int.natCast_nonneg _
noncomputable def orAll (n : Int) : List (List Nat × Int) -> Int
  | [] => n
  | p :: l => orAll (orI n p.2) l
section
variable {σ : List O} {c : Rc} {i : Nat} {d : Nat} {ρ : List V}
theorem bar_loop (hd : d < 17) : ∀ (l : List (List Nat × Int)) (n : Int) (i : Nat) (σ : List O),0 <= n -> (∀ p ∈ l,ValOk .fl p.1 p.2 /\ 0 <= p.2) -> Ra σ c i -> Sg c.T i (bars l) -> Nt c.T (i + (bars l).length) kSign [124] →
    ev theP (.loop (.meth (.loc 0) [115,107,105,112,95,115,105,103,110] (.cons (.cStr [124]) .nil)) (.asg 2 (.bin .bor (.loc 2) (.call 41 (.cons (.loc 0) (.cons (.loc 1) .nil)))))) d [.inst 0 c.r,Kd.fl.v,.int n] σ =
      some ⟨.none,.nxt,[.inst 0 c.r,Kd.fl.v,.int (orAll n l)],Mv σ c (i + (bars l).length)⟩
  | [],n,i,σ,hn,_,h,_,⟨s,w,row,col,ht,hq⟩ => by
    rw [l_loop]
    have lk := skip_sign_no (d := d) (ρ := [.inst 0 c.r,Kd.fl.v,.int n]) h ht (by omega) hq
    simp only [Kd.v] at lk
    simp [h.r,Kd.v,lk,bars,h.same,orAll]
  | p :: l,n,i,σ,hn,hv,h,hs,he => by
    have hb : (bars (p :: l)) = (kSign,[124]) :: (kWord,p.1) :: bars l := rfl
    rw [hb] at hs he ⊢
    obtain ⟨⟨r1,k1,t1⟩,⟨r2,k2,t2⟩,hs⟩ := hs
    rw [l_loop]
    have lk := skip_sign_yes (d := d) (ρ := [.inst 0 c.r,Kd.fl.v,.int n]) h t1 (by omega)
    have h1 := h.go (i + 1)
    have l2 := read_value_ok (d := d) (ρ := [.inst 0 c.r,Kd.fl.v,.int n]) (hv p (by simp)).1 (hv p (by simp)).2 h1 t2 (by omega)
    rw [Mv.mv] at l2
    have e : i + ((kSign,[124]) :: (kWord,p.1) :: bars l).length = i + 1 + 1 + (bars l).length := by simp; omega
    rw [e] at he ⊢
    have ih := bar_loop hd l (orI n p.2) (i + 1 + 1) (Mv σ c (i + 1 + 1)) (orI_nn _ _) (fun q hq => hv q (by simp [hq])) (h.go _) hs he
    rw [Mv.mv] at ih
    have h0 := (hv p (by simp)).2
    have hbo : binop .bor (.int n) (.int p.2) = some (.int (orI n p.2)) := by simp [hn,h0,orI]
    simp only [Kd.v] at lk l2 ih
    simp [h.r,Kd.v,lk,l2,hbo,ih,orAll]
theorem barred_ok {k : Kd} {l : List (List Nat × Int)} {n : Int} (hn : 0 <= n) (hk : k = .fl \/ l = []) (hv : ∀ p ∈ l,ValOk .fl p.1 p.2 /\ 0 <= p.2) (h : Ra σ c i) (hs : Sg c.T i (bars l)) (he : Nt c.T (i + (bars l).length) kSign [124]) (hd : d < 16) :
    ev theP (.call 43 [.inst 0 c.r,k.v,.int n]) d ρ σ = some ⟨.int (orAll n l),.nxt,ρ,Mv σ c (i + (bars l).length)⟩ := by
  rw [call_of _ _ _ fn_barred (by omega) rfl]
  have lk := is_mask_ok (d := d + 1) (ρ := [.inst 0 c.r,k.v,.int n]) k h (by omega)
  by_cases q : k.isFl = true
  · have : k = .fl := by cases k <;> simp [Kd.isFl] at q; rfl
    subst this
    have ll := bar_loop (d := d + 1) (by omega) l n i σ hn hv h hs he
    simp only [Kd.v] at lk ll
    simp [c_barred,lk,q,ll,Kd.v]
  · have hl : l = [] := by
      rcases hk with rfl | hl
      · simp [Kd.isFl] at q
      · exact hl
    subst hl
    simp only [Kd.v] at lk
    simp [c_barred,lk,q,Kd.v,bars,orAll,h.same]
structure Cm where
  k : Kd
  w : List Nat
  lo : Int
  hi : Int
  bs : List (List Nat × Int)
structure Cm.Ok (m : Cm) : Prop where
  sp : SpanOk m.k m.w m.lo m.hi
  lo0 : 0 <= m.lo
  bv : ∀ p ∈ m.bs,ValOk .fl p.1 p.2 /\ 0 <= p.2
  bk : m.k = .fl \/ m.bs = []
  ee : m.bs = [] \/ m.lo = m.hi
noncomputable def Cm.toks (m : Cm) : List (List Nat × List Nat) := (kWord,m.w) :: bars m.bs
noncomputable def Cm.lo' (m : Cm) : Int := orAll m.lo m.bs
noncomputable def Cm.hi' (m : Cm) : Int := if m.lo = m.hi then orAll m.lo m.bs else m.hi
noncomputable def Cm.box (m : Cm) : V := .tup [.int m.lo',.int m.hi']
noncomputable def boxBody : S := match c_read_box with
  | .seq _ (.seq (.forr _ _ b) _) => b
  | _ => .skip
noncomputable def boxTail : S := match boxBody with
  | .seq _ b => b
  | _ => .skip
theorem box_tail {m : Cm} (hm : m.Ok) {ks : List V} {x y : V} {b : Nat} {xs : List V} (h : Ra σ c i) (hb : σ[b]? = some (.list xs)) (hr : b ≠ c.r) (hx : xs.length < 1000) (hs : Sg c.T i m.toks) (he : Nt c.T (i + m.toks.length) kSign [124]) (hd : d < 16) :
    evS theP boxTail d [.inst 0 c.r,.tup ks,.ref b,m.k.v,x,y] σ = some ⟨.none,.nxt,[.inst 0 c.r,.tup ks,.ref b,m.k.v,.int m.lo',.int m.hi'],(Mv σ c (i + m.toks.length)).set b (.list (xs ++ [m.box]))⟩ := by
  obtain ⟨⟨r1,k1,t1⟩,hs⟩ := hs
  have e : i + m.toks.length = i + 1 + (bars m.bs).length := by simp [Cm.toks]; omega
  rw [e] at he ⊢
  have l1 := read_span_ok (d := d) (ρ := [.inst 0 c.r,.tup ks,.ref b,m.k.v,x,y]) hm.sp h t1 (by omega)
  have hb2 : ∀ j,(Mv σ c j)[b]? = some (.list xs) := fun j => by rw [Mv,List.getElem?_set_ne (Ne.symm hr)]; exact hb
  by_cases q : m.lo = m.hi
  · have l2 := barred_ok (d := d) (ρ := [.inst 0 c.r,.tup ks,.ref b,m.k.v,.int m.lo,.int m.hi]) hm.lo0 hm.bk hm.bv (h.go (i + 1)) hs he (by omega)
    rw [Mv.mv] at l2
    simp only [Kd.v] at l1 l2
    simp [boxTail,boxBody,c_read_box,l1,l2,Kd.v,hb2,hx,maxLen,show xs.length < 16777216 by omega,Cm.lo',Cm.hi',Cm.box,q]
    simp [q] at l2
    simp [l2,hb2,maxLen,show xs.length < 16777216 by omega]
  · have hbs : m.bs = [] := by rcases hm.ee with h | h; exact h; exact absurd h q
    have q' : (m.lo == m.hi) = false := by simpa using q
    simp only [Kd.v] at l1
    simp [boxTail,boxBody,c_read_box,l1,Kd.v,hb2,hx,maxLen,show xs.length < 16777216 by omega,Cm.lo',Cm.hi',Cm.box,q,q',hbs,orAll,bars]
end
noncomputable def keyT : Bool -> List Cm -> List (List Nat × List Nat)
  | _,[] => []
  | true,m :: r => m.toks ++ keyT false r
  | false,m :: r => (kSign,[46]) :: (m.toks ++ keyT false r)
theorem Nt.of {T : List V} {i : Nat} {s w s0 x : List Nat} (h : ∃ row col,T[i]? = some (tk s w row col)) (q : (s == s0 && w == x) = false) : Nt T i s0 x := by
  obtain ⟨row,col,h⟩ := h
  exact ⟨s,w,row,col,h,q⟩
section
variable {σ : List O} {c : Rc} {i : Nat} {d : Nat} {ρ : List V}
noncomputable def dot : Bool -> List (List Nat × List Nat)
  | true => []
  | false => [(kSign,[46])]
theorem box_step {m : Cm} (hm : m.Ok) {ks : List V} {x y : V} {b : Nat} {xs : List V} (h : Ra σ c i) (hb : σ[b]? = some (.list xs)) (hr : b ≠ c.r) (hx : xs.length < 1000) (hs : Sg c.T i (dot xs.isEmpty ++ m.toks)) (he : Nt c.T (i + (dot xs.isEmpty ++ m.toks).length) kSign [124]) (hd : d < 16) :
    evS theP boxBody d [.inst 0 c.r,.tup ks,.ref b,m.k.v,x,y] σ = some ⟨.none,.nxt,[.inst 0 c.r,.tup ks,.ref b,m.k.v,.int m.lo',.int m.hi'],(Mv σ c (i + (dot xs.isEmpty ++ m.toks).length)).set b (.list (xs ++ [m.box]))⟩ := by
  cases xs with
  | nil =>
    have lt := box_tail (d := d) hm (ks := ks) (x := x) (y := y) h hb hr (by simp) hs (by simpa [dot] using he) hd
    rw [show boxBody = .seq (.iff (.cmp .gt (.len (.loc 2)) (.cInt (0))) (.ex (.meth (.loc 0) [119,97,110,116,95,115,105,103,110] (.cons (.cStr [46]) .nil))) .skip) boxTail from rfl]
    simp only [Kd.v] at lt
    simp [hb,lt,dot,Kd.v]
  | cons v vs =>
    obtain ⟨⟨r1,k1,t1⟩,hs⟩ := hs
    have l1 := want_sign_ok (d := d) (ρ := [.inst 0 c.r,.tup ks,.ref b,m.k.v,x,y]) h t1 (by omega)
    have e : i + (dot (v :: vs).isEmpty ++ m.toks).length = i + 1 + m.toks.length := by simp [dot]; omega
    rw [e] at he ⊢
    have hb2 : (Mv σ c (i + 1))[b]? = some (.list (v :: vs)) := by rw [Mv,List.getElem?_set_ne (Ne.symm hr)]; exact hb
    have lt := box_tail (d := d) hm (ks := ks) (x := x) (y := y) (h.go (i + 1)) hb2 hr hx hs he hd
    rw [show boxBody = .seq (.iff (.cmp .gt (.len (.loc 2)) (.cInt (0))) (.ex (.meth (.loc 0) [119,97,110,116,95,115,105,103,110] (.cons (.cStr [46]) .nil))) .skip) boxTail from rfl]
    rw [Mv.mv] at lt
    simp only [Kd.v] at lt l1
    have hlt : (0 : Int) < vs.length + 1 := by omega
    simp [hb,lt,dot,Kd.v,l1,h.r,hlt]
structure Free (c : Rc) (b : Nat) : Prop where
  r : b ≠ c.r
  t : b ≠ c.t
  g : b ≠ c.tg
theorem Ra.put {b : Nat} {o : O} (h : Ra σ c i) (q : Free c b) : Ra (σ.set b o) c i :=
  ⟨by rw [List.getElem?_set_ne q.r]; exact h.r,by rw [List.getElem?_set_ne q.t]; exact h.t,by rw [List.getElem?_set_ne q.g]; exact h.g⟩
theorem Mv.put {b : Nat} {o : O} (q : Free c b) (j j' : Nat) : Mv ((Mv σ c j).set b o) c j' = (Mv σ c j').set b o := by
  simp only [Mv]
  rw [List.set_comm _ _ q.r,List.set_set]
theorem get_put {b : Nat} {o o' : O} (hb : σ[b]? = some o) (q : Free c b) (j : Nat) : ((Mv σ c j).set b o')[b]? = some o' := by
  apply get_set (a := o)
  rw [Mv,List.getElem?_set_ne (Ne.symm q.r)]; exact hb
theorem keyT_cons (f : Bool) (m : Cm) (r : List Cm) : keyT f (m :: r) = (dot f ++ m.toks) ++ keyT false r := by cases f <;> simp [keyT,dot]
theorem box_loop (hd : d < 16) {ks : List V} {b : Nat} (hr : Free c b) : ∀ (ms : List Cm) (xs : List V) (x y z : V) (i : Nat) (σ : List O),(∀ m ∈ ms,m.Ok) -> Ra σ c i -> σ[b]? = some (.list xs) -> xs.length + ms.length < 1000 -> Sg c.T i (keyT xs.isEmpty ms) -> (ms ≠ [] -> Nt c.T (i + (keyT xs.isEmpty ms).length) kSign [124]) →
    ∃ x' y' z',ev theP (.iter [3] (.vals (ms.map (·.k.v))) boxBody) d [.inst 0 c.r,.tup ks,.ref b,x,y,z] σ = some ⟨.none,.nxt,[.inst 0 c.r,.tup ks,.ref b,x',y',z'],(Mv σ c (i + (keyT xs.isEmpty ms).length)).set b (.list (xs ++ ms.map Cm.box))⟩
  | [],xs,x,y,z,i,σ,_,h,hb,_,_,_ => by
    refine ⟨x,y,z,?_⟩
    have hb2 : (Mv σ c i)[b]? = some (.list xs) := by rw [Mv,List.getElem?_set_ne (Ne.symm hr.r)]; exact hb
    rw [l_iter]
    have : keyT xs.isEmpty [] = [] := by cases xs.isEmpty <;> rfl
    simp [this,set_same hb2,h.same,set_same hb]
  | m :: r,xs,x,y,z,i,σ,hm,h,hb,hx,hs,he => by
    rw [keyT_cons] at hs he ⊢
    have hs2 := hs.app
    rw [List.length_append,← Nat.add_assoc] at he ⊢
    have hn : Nt c.T (i + (dot xs.isEmpty ++ m.toks).length) kSign [124] := by
      cases r with
      | nil => simpa [keyT] using he
      | cons m' r' => exact Nt.of hs2.2.1 rfl
    have l1 := box_step (d := d) (hm m (by simp)) (ks := ks) (x := y) (y := z) h hb hr.r (by simp at hx; omega) hs2.1 hn hd
    have h2 := (h.go (i + (dot xs.isEmpty ++ m.toks).length)).put (o := .list (xs ++ [m.box])) hr
    have e1 : (xs ++ [m.box]).isEmpty = false := by simp
    have ih := box_loop hd (ks := ks) hr r (xs ++ [m.box]) m.k.v (.int m.lo') (.int m.hi') _ _ (fun m' q => hm m' (by simp [q])) h2 (get_put hb hr _) (by simp at hx ⊢; omega) (by rw [e1]; exact hs2.2) (by rw [e1]; exact fun _ => he (by simp))
    rw [e1,Mv.put hr,List.set_set] at ih
    obtain ⟨x',y',z',ih⟩ := ih
    refine ⟨x',y',z',?_⟩
    rw [l_iter]
    simp only [Kd.v] at l1 ih
    simp [Kd.v,l1]
    simpa [Nat.add_assoc] using ih
theorem fn_read_box : theP.fn 45 = some ⟨2,6,[],c_read_box⟩ := rfl
theorem c_read_box_eq : c_read_box = .seq (.asgNew 2 .nil) (.seq (.forr [3] (.loc 1) boxBody) (.ret (.tupleOf (.loc 2)))) := rfl
theorem Ra.free (h : Ra σ c i) : Free c σ.length := by
  have a := (List.getElem?_eq_some_iff.mp h.r).1
  have b := (List.getElem?_eq_some_iff.mp h.t).1
  have e := (List.getElem?_eq_some_iff.mp h.g).1
  exact ⟨by omega,by omega,by omega⟩
theorem Mv.new (h : Ra σ c i) (o o' : O) (j : Nat) : (Mv (σ ++ [o]) c j).set σ.length o' = Mv σ c j ++ [o'] := by
  have a := (List.getElem?_eq_some_iff.mp h.r).1
  simp only [Mv]
  rw [List.set_append_left _ _ a,List.set_append_right _ _ (by simp)]
  simp
theorem read_box_ok {ms : List Cm} (hm : ∀ m ∈ ms,m.Ok) (hl : ms.length < 1000) (h : Ra σ c i) (hs : Sg c.T i (keyT true ms)) (he : ms ≠ [] -> Nt c.T (i + (keyT true ms).length) kSign [124]) (hd : d < 15) :
    ev theP (.call 45 [.inst 0 c.r,.tup (ms.map (·.k.v))]) d ρ σ = some ⟨.tup (ms.map Cm.box),.nxt,ρ,Mv σ c (i + (keyT true ms).length) ++ [.list (ms.map Cm.box)]⟩ := by
  rw [call_of _ _ _ fn_read_box (by omega) rfl]
  obtain ⟨x',y',z',ll⟩ := box_loop (d := d + 1) (by omega) (ks := ms.map (·.k.v)) h.free ms [] .undef .undef .undef i (σ ++ [.list []]) hm (h.new _) (by simp) (by simpa using hl) hs he
  rw [Mv.new h] at ll
  simp only [Kd.v,List.nil_append] at ll
  have a := (List.getElem?_eq_some_iff.mp h.r).1
  simp [c_read_box_eq,Kd.v,ll,maxLen]
end
theorem fn_read_text : theP.fn 32 = some ⟨1,1,[],c_read_text⟩ := rfl
theorem fn_read_comment : theP.fn 33 = some ⟨1,1,[],c_read_comment⟩ := rfl
theorem fn_read_time : theP.fn 34 = some ⟨1,3,[],c_read_time⟩ := rfl
theorem fn_read_verdict : theP.fn 44 = some ⟨1,2,[],c_read_verdict⟩ := rfl
theorem fn_read_datum : theP.fn 46 = some ⟨3,6,[],c_read_datum⟩ := rfl
theorem fn_read_literal : theP.fn 47 = some ⟨4,7,[],c_read_literal⟩ := rfl
theorem fn_read_braces : theP.fn 48 = some ⟨4,5,[],c_read_braces⟩ := rfl
theorem fn_read_literals : theP.fn 49 = some ⟨3,3,[],c_read_literals⟩ := rfl
section
variable {σ : List O} {c : Rc} {i : Nat} {d : Nat} {ρ : List V}
theorem read_text_ok {s w : List Nat} {row col : Int} (q : s = kWord \/ s = kString) (h : Ra σ c i) (ht : c.T[i]? = some (tk s w row col)) (hd : d < 50) :
    ev theP (.call 32 [.inst 0 c.r]) d ρ σ = some ⟨.str w,.nxt,ρ,Mv σ c (i + 1)⟩ := by
  rw [call_of _ _ _ fn_read_text (by omega) rfl]
  have lk := look0 (d := d + 1) (ρ := [.inst 0 c.r]) h ht (by omega) rfl
  have lt := take_ok (d := d + 1) (ρ := [.inst 0 c.r]) h ht (by omega) rfl
  rcases q with rfl | rfl <;> simp [c_read_text,h.r,lk,lt,maxLen]
theorem read_comment_ok {s0 w0 s w : List Nat} {row0 col0 row col : Int} (q : s = kWord \/ s = kString) (hw : w.length <= 128) (h : Ra σ c i) (h0 : c.T[i]? = some (tk s0 w0 row0 col0)) (ht : c.T[i + 1]? = some (tk s w row col)) (hd : d < 49) :
    ev theP (.call 33 [.inst 0 c.r]) d ρ σ = some ⟨.str w,.nxt,ρ,Mv σ c (i + 2)⟩ := by
  rw [call_of _ _ _ fn_read_comment (by omega) rfl]
  have lt := take_ok (d := d + 1) (ρ := [.inst 0 c.r]) h h0 (by omega) rfl
  have lk := look0 (d := d + 1) (ρ := [.inst 0 c.r]) (h.go (i + 1)) ht (by omega) rfl
  have lr := read_text_ok (d := d + 1) (ρ := [.inst 0 c.r]) q (h.go (i + 1)) ht (by omega)
  have hr := (h.go (i + 1)).r
  rw [Mv.mv] at lr
  have hw' : ¬ (128 : Int) < w.length := by omega
  simp [c_read_comment,h.r,hr,lk,lt,lr,hw']
theorem read_time_ok {w : List Nat} {n row col : Int} (q : TimeOk w n) (h : Ra σ c i) (ht : c.T[i]? = some (tk kWord w row col)) (hd : d < 30) :
    ev theP (.call 34 [.inst 0 c.r]) d ρ σ = some ⟨.int n,.nxt,ρ,Mv σ c (i + 1)⟩ := by
  rw [call_of _ _ _ fn_read_time (by omega) rfl]
  have lk := look0 (d := d + 1) (ρ := [.inst 0 c.r,.undef,.undef]) h ht (by omega) rfl
  have l2 := q (d + 1) [.inst 0 c.r,tk kWord w row col,.undef] σ (by omega)
  have lt := take_ok (d := d + 1) (ρ := [.inst 0 c.r,tk kWord w row col,.int n]) h ht (by omega) rfl
  simp [c_read_time,h.r,lk,lt,l2]
inductive Vd where | drop | goto | cont
noncomputable def Vd.toks : Vd -> List (List Nat × List Nat)
  | .drop => [(kWord,[100,114,111,112])]
  | .goto => [(kWord,[103,111,116,111]),(kWord,[99,50])]
  | .cont => [(kWord,[99,111,110,116,105,110,117,101])]
noncomputable def Vd.v : Vd -> V
  | .drop => .tup [.str [100,114,111,112],.str []]
  | .goto => .tup [.str [103,111,116,111],.str [99,50]]
  | .cont => .tup [.str [99,111,110,116,105,110,117,101],.str []]
theorem read_verdict_ok (x : Vd) (h : Ra σ c i) (hs : Sg c.T i x.toks) (hd : d < 50) :
    ev theP (.call 44 [.inst 0 c.r]) d ρ σ = some ⟨x.v,.nxt,ρ,Mv σ c (i + x.toks.length)⟩ := by
  rw [call_of _ _ _ fn_read_verdict (by omega) rfl]
  cases x with
  | drop =>
    obtain ⟨⟨r1,k1,t1⟩,_⟩ := hs
    have lk := look0 (d := d + 1) (ρ := [.inst 0 c.r,.undef]) h t1 (by omega) rfl
    have lt := take_ok (d := d + 1) (ρ := [.inst 0 c.r,tk kWord [100,114,111,112] r1 k1]) h t1 (by omega) rfl
    simp [c_read_verdict,h.r,lk,lt,maxLen,Vd.v,Vd.toks]
  | cont =>
    obtain ⟨⟨r1,k1,t1⟩,_⟩ := hs
    have lk := look0 (d := d + 1) (ρ := [.inst 0 c.r,.undef]) h t1 (by omega) rfl
    have lt := take_ok (d := d + 1) (ρ := [.inst 0 c.r,tk kWord [99,111,110,116,105,110,117,101] r1 k1]) h t1 (by omega) rfl
    simp [c_read_verdict,h.r,lk,lt,maxLen,Vd.v,Vd.toks]
  | goto =>
    obtain ⟨⟨r1,k1,t1⟩,⟨r2,k2,t2⟩,_⟩ := hs
    have lk := look0 (d := d + 1) (ρ := [.inst 0 c.r,.undef]) h t1 (by omega) rfl
    have lt := take_ok (d := d + 1) (ρ := [.inst 0 c.r,tk kWord [103,111,116,111] r1 k1]) h t1 (by omega) rfl
    have lw := want_word_ok (d := d + 1) (ρ := [.inst 0 c.r,tk kWord [103,111,116,111] r1 k1]) (h.go (i + 1)) t2 (by omega)
    have hr := (h.go (i + 1)).r
    rw [Mv.mv] at lw
    simp [c_read_verdict,h.r,hr,lk,lt,lw,maxLen,Vd.v,Vd.toks]
noncomputable def datBody : S := match c_read_datum with
  | .seq _ (.seq _ (.seq (.forr _ _ b) _)) => b
  | _ => .skip
noncomputable def datTail : S := match datBody with
  | .seq _ (.seq _ b) => b
  | _ => .skip
structure Cm.Va (m : Cm) : Prop where
  va : ValOk m.k m.w m.lo
  lo0 : 0 <= m.lo
  bv : ∀ p ∈ m.bs,ValOk .fl p.1 p.2 /\ 0 <= p.2
  bk : m.k = .fl \/ m.bs = []
theorem dat_tail {m : Cm} (hm : m.Va) {ks : List V} {u : V} {b : Nat} {xs : List V} (h : Ra σ c i) (hb : σ[b]? = some (.list xs)) (hr : b ≠ c.r) (hx : xs.length < 1000) (hs : Sg c.T i m.toks) (he : Nt c.T (i + m.toks.length) kSign [124]) (hd : d < 16) :
    evS theP datTail d [.inst 0 c.r,.tup ks,.bool true,u,.ref b,m.k.v] σ = some ⟨.none,.nxt,[.inst 0 c.r,.tup ks,.bool true,u,.ref b,m.k.v],(Mv σ c (i + m.toks.length)).set b (.list (xs ++ [.int m.lo']))⟩ := by
  obtain ⟨⟨r1,k1,t1⟩,hs⟩ := hs
  have e : i + m.toks.length = i + 1 + (bars m.bs).length := by simp [Cm.toks]; omega
  rw [e] at he ⊢
  have l1 := read_value_ok (d := d) (ρ := [.inst 0 c.r,.tup ks,.bool true,u,.ref b,m.k.v]) hm.va hm.lo0 h t1 (by omega)
  have hb2 : ∀ j,(Mv σ c j)[b]? = some (.list xs) := fun j => by rw [Mv,List.getElem?_set_ne (Ne.symm hr)]; exact hb
  have l2 := barred_ok (d := d) (ρ := [.inst 0 c.r,.tup ks,.bool true,u,.ref b,m.k.v]) hm.lo0 hm.bk hm.bv (h.go (i + 1)) hs he (by omega)
  rw [Mv.mv] at l2
  simp only [Kd.v] at l1 l2
  simp [datTail,datBody,c_read_datum,l1,l2,Kd.v,hb,hb2,hx,maxLen,show xs.length < 16777216 by omega,Cm.lo']
theorem dat_step {m : Cm} (hm : m.Va) {ks : List V} {u : V} {b : Nat} {xs : List V} (h : Ra σ c i) (hb : σ[b]? = some (.list xs)) (hr : b ≠ c.r) (hx : xs.length < 1000) (hs : Sg c.T i (dot xs.isEmpty ++ m.toks)) (he : Nt c.T (i + (dot xs.isEmpty ++ m.toks).length) kSign [124]) (hd : d < 16) :
    evS theP datBody d [.inst 0 c.r,.tup ks,.bool true,u,.ref b,m.k.v] σ = some ⟨.none,.nxt,[.inst 0 c.r,.tup ks,.bool true,u,.ref b,m.k.v],(Mv σ c (i + (dot xs.isEmpty ++ m.toks).length)).set b (.list (xs ++ [.int m.lo']))⟩ := by
  rw [show datBody = .seq (.iff (.and (.cmp .gt (.len (.loc 4)) (.cInt (0))) (.and (.not (.loc 2)) (.not (.meth (.loc 0) [105,115,95,115,105,103,110] (.cons (.cStr [46]) .nil))))) .brk .skip) (.seq (.iff (.cmp .gt (.len (.loc 4)) (.cInt (0))) (.ex (.meth (.loc 0) [119,97,110,116,95,115,105,103,110] (.cons (.cStr [46]) .nil))) .skip) datTail) from rfl]
  cases xs with
  | nil =>
    have lt := dat_tail (d := d) hm (ks := ks) (u := u) h hb hr (by simp) hs (by simpa [dot] using he) hd
    simp only [Kd.v] at lt
    simp [hb,lt,dot,Kd.v]
  | cons v vs =>
    obtain ⟨⟨r1,k1,t1⟩,hs⟩ := hs
    have l1 := want_sign_ok (d := d) (ρ := [.inst 0 c.r,.tup ks,.bool true,u,.ref b,m.k.v]) h t1 (by omega)
    have e : i + (dot (v :: vs).isEmpty ++ m.toks).length = i + 1 + m.toks.length := by simp [dot]; omega
    rw [e] at he ⊢
    have hb2 : (Mv σ c (i + 1))[b]? = some (.list (v :: vs)) := by rw [Mv,List.getElem?_set_ne (Ne.symm hr)]; exact hb
    have lt := dat_tail (d := d) hm (ks := ks) (u := u) (h.go (i + 1)) hb2 hr hx hs he hd
    rw [Mv.mv] at lt
    simp only [Kd.v] at lt l1
    have hlt : (0 : Int) < vs.length + 1 := by omega
    simp [hb,lt,dot,Kd.v,l1,h.r,hlt]
theorem dat_loop (hd : d < 16) {ks : List V} {u : V} {b : Nat} (hr : Free c b) : ∀ (ms : List Cm) (xs : List V) (x : V) (i : Nat) (σ : List O),(∀ m ∈ ms,m.Va) -> Ra σ c i -> σ[b]? = some (.list xs) -> xs.length + ms.length < 1000 -> Sg c.T i (keyT xs.isEmpty ms) -> (ms ≠ [] -> Nt c.T (i + (keyT xs.isEmpty ms).length) kSign [124]) →
    ∃ x',ev theP (.iter [5] (.vals (ms.map (·.k.v))) datBody) d [.inst 0 c.r,.tup ks,.bool true,u,.ref b,x] σ = some ⟨.none,.nxt,[.inst 0 c.r,.tup ks,.bool true,u,.ref b,x'],(Mv σ c (i + (keyT xs.isEmpty ms).length)).set b (.list (xs ++ ms.map (fun m => V.int m.lo')))⟩
  | [],xs,x,i,σ,_,h,hb,_,_,_ => by
    refine ⟨x,?_⟩
    rw [l_iter]
    have : keyT xs.isEmpty [] = [] := by cases xs.isEmpty <;> rfl
    simp [this,h.same,set_same hb]
  | m :: r,xs,x,i,σ,hm,h,hb,hx,hs,he => by
    rw [keyT_cons] at hs he ⊢
    have hs2 := hs.app
    rw [List.length_append,← Nat.add_assoc] at he ⊢
    have hn : Nt c.T (i + (dot xs.isEmpty ++ m.toks).length) kSign [124] := by
      cases r with
      | nil => simpa [keyT] using he
      | cons m' r' => exact Nt.of hs2.2.1 rfl
    have l1 := dat_step (d := d) (hm m (by simp)) (ks := ks) (u := u) h hb hr.r (by simp at hx; omega) hs2.1 hn hd
    have h2 := (h.go (i + (dot xs.isEmpty ++ m.toks).length)).put (o := .list (xs ++ [.int m.lo'])) hr
    have e1 : (xs ++ [V.int m.lo']).isEmpty = false := by simp
    have ih := dat_loop hd (ks := ks) (u := u) hr r (xs ++ [.int m.lo']) m.k.v _ _ (fun m' q => hm m' (by simp [q])) h2 (get_put hb hr _) (by simp at hx ⊢; omega) (by rw [e1]; exact hs2.2) (by rw [e1]; exact fun _ => he (by simp))
    rw [e1,Mv.put hr,List.set_set] at ih
    obtain ⟨x',ih⟩ := ih
    refine ⟨x',?_⟩
    rw [l_iter]
    simp only [Kd.v] at l1 ih
    simp [Kd.v,l1]
    simpa [Nat.add_assoc] using ih
inductive Dt where
  | vd (x : Vd)
  | key (ms : List Cm)
noncomputable def Dt.toks : Dt -> List (List Nat × List Nat)
  | .vd x => x.toks
  | .key ms => keyT true ms
noncomputable def Dt.kinds : Dt -> V
  | .vd _ => .str [118,101,114,100,105,99,116]
  | .key ms => .tup (ms.map (·.k.v))
noncomputable def Dt.v : Dt -> V
  | .vd x => x.v
  | .key ms => .tup (ms.map (fun m => V.int m.lo'))
noncomputable def Dt.Ok : Dt -> Prop
  | .vd _ => True
  | .key ms => (∀ m ∈ ms,m.Va) /\ ms.length < 1000
theorem c_read_datum_eq : c_read_datum = .seq (.iff (.cmp .eq (.loc 1) (.cStr [118,101,114,100,105,99,116])) (.seq (.asg 3 (.call 44 (.cons (.loc 0) .nil))) (.seq (.iff (.cmp .is (.loc 3) .cNone) .bad .skip) (.ret (.loc 3)))) .skip) (.seq (.asgNew 4 .nil) (.seq (.forr [5] (.loc 1) datBody) (.ret (.tupleOf (.loc 4))))) := rfl
theorem read_datum_ok {x : Dt} (hx : x.Ok) (h : Ra σ c i) (hs : Sg c.T i x.toks) (he : Nt c.T (i + x.toks.length) kSign [124]) (hd : d < 15) :
    ∃ σ',ev theP (.call 46 [.inst 0 c.r,x.kinds,.bool true]) d ρ σ = some ⟨x.v,.nxt,ρ,σ'⟩ /\ Rd σ c (i + x.toks.length) σ' := by
  rw [call_of _ _ _ fn_read_datum (by omega) (by cases x <;> rfl)]
  cases x with
  | vd x =>
    refine ⟨_,?_,Rd.mv h _⟩
    have l1 := read_verdict_ok (d := d + 1) (ρ := [.inst 0 c.r,.str [118,101,114,100,105,99,116],.bool true,.undef,.undef,.undef]) x h hs (by omega)
    cases x <;> simp [Vd.v] at l1 <;> simp [c_read_datum_eq,Dt.kinds,l1,Dt.v,Vd.v,Dt.toks]
  | key ms =>
    refine ⟨Mv σ c (i + (keyT true ms).length) ++ [.list (ms.map (fun m => V.int m.lo'))],?_,(Rd.mv h _).trans (Rd.new (h.go _) _)⟩
    obtain ⟨x',ll⟩ := dat_loop (d := d + 1) (by omega) (ks := ms.map (·.k.v)) (u := .undef) h.free ms [] .undef i (σ ++ [.list []]) hx.1 (h.new _) (by simp) (by simpa using hx.2) hs (fun _ => he)
    rw [Mv.new h] at ll
    simp only [Kd.v,List.nil_append] at ll
    have a := (List.getElem?_eq_some_iff.mp h.r).1
    simp [c_read_datum_eq,Kd.v,ll,maxLen,Dt.kinds,Dt.v]
end
noncomputable abbrev kTimeout : List Nat := [116,105,109,101,111,117,116]
noncomputable abbrev kComment : List Nat := [99,111,109,109,101,110,116]
structure El where
  ms : List Cm
  tm : Option (List Nat × Int)
  cm : Option (List Nat × List Nat)
  dt : Option Dt
noncomputable def tmT : Option (List Nat × Int) -> List (List Nat × List Nat)
  | none => []
  | some p => [(kWord,kTimeout),(kWord,p.1)]
noncomputable def tmV : Option (List Nat × Int) -> Int
  | none => 0
  | some p => p.2
noncomputable def cmT : Option (List Nat × List Nat) -> List (List Nat × List Nat)
  | none => []
  | some p => [(kWord,kComment),p]
noncomputable def cmV : Option (List Nat × List Nat) -> List Nat
  | none => []
  | some p => p.2
noncomputable def dtT : Option Dt -> List (List Nat × List Nat)
  | none => []
  | some x => (kSign,[58]) :: x.toks
noncomputable def dtK : Option Dt -> V
  | none => .none
  | some x => x.kinds
noncomputable def dtV : Option Dt -> V
  | none => .none
  | some x => x.v
noncomputable def El.toks (e : El) : List (List Nat × List Nat) := keyT true e.ms ++ (tmT e.tm ++ (cmT e.cm ++ dtT e.dt))
noncomputable def El.v (e : El) : V := .tup [.tup (e.ms.map Cm.box),dtV e.dt,.int (tmV e.tm),.str (cmV e.cm)]
@[simp] theorem ck_ev (e : El) : chk e.v = some e.v := rfl
@[simp] theorem so_ev (e : El) : isSome' e.v = true := rfl
structure El.Ok (e : El) : Prop where
  ms : ∀ m ∈ e.ms,m.Ok
  ml : e.ms.length < 1000
  tm : ∀ p,e.tm = some p -> TimeOk p.1 p.2
  cm : ∀ p,e.cm = some p -> (p.1 = kWord \/ p.1 = kString) /\ p.2.length <= 128
  dt : ∀ x,e.dt = some x -> x.Ok
structure Nx (T : List V) (i : Nat) : Prop where
  ex : ∃ s w row col,T[i]? = some (tk s w row col) /\ (s == kSign && w == [124]) = false /\ (s == kWord) = false
theorem Nx.bar {T : List V} {i : Nat} (h : Nx T i) : Nt T i kSign [124] := by
  obtain ⟨s,w,row,col,h,q,_⟩ := h.ex
  exact ⟨s,w,row,col,h,q⟩
theorem Nx.word {T : List V} {i : Nat} (h : Nx T i) (x : List Nat) : Nt T i kWord x := by
  obtain ⟨s,w,row,col,h,_,q⟩ := h.ex
  exact ⟨s,w,row,col,h,by simp [q]⟩
noncomputable def litT : S := match c_read_literal with
  | .seq _ (.seq _ (.seq _ (.seq a _))) => a
  | _ => .skip
noncomputable def litC : S := match c_read_literal with
  | .seq _ (.seq _ (.seq _ (.seq _ (.seq a _)))) => a
  | _ => .skip
noncomputable def litE : S := match c_read_literal with
  | .seq _ (.seq _ (.seq _ (.seq _ (.seq _ a)))) => a
  | _ => .skip
section
variable {σ : List O} {c : Rc} {i : Nat} {d : Nat} {ρ : List V}
theorem lit_t {o : Option (List Nat × Int)} (ho : ∀ p,o = some p -> TimeOk p.1 p.2) {k dv b : V} (h : Ra σ c i) (hs : Sg c.T i (tmT o)) (he : o = none -> Nt c.T i kWord kTimeout) (hd : d < 20) :
    evS theP litT d [.inst 0 c.r,k,dv,.bool true,b,.int 0,.str []] σ = some ⟨.none,.nxt,[.inst 0 c.r,k,dv,.bool true,b,.int (tmV o),.str []],Mv σ c (i + (tmT o).length)⟩ := by
  cases o with
  | none =>
    obtain ⟨s,w,row,col,ht,q⟩ := he rfl
    have lk := is_word_ok (d := d) (ρ := [.inst 0 c.r,k,dv,.bool true,b,.int 0,.str []]) (x := kTimeout) h ht (by omega)
    rw [q] at lk
    simp [litT,c_read_literal,h.r,lk,tmV,tmT,h.same]
  | some p =>
    obtain ⟨⟨r1,k1,t1⟩,⟨r2,k2,t2⟩,_⟩ := hs
    have lk := is_word_ok (d := d) (ρ := [.inst 0 c.r,k,dv,.bool true,b,.int 0,.str []]) (x := kTimeout) h t1 (by omega)
    have lt := take_ok (d := d) (ρ := [.inst 0 c.r,k,dv,.bool true,b,.int 0,.str []]) h t1 (by omega) rfl
    have lr := read_time_ok (d := d) (ρ := [.inst 0 c.r,k,dv,.bool true,b,.int 0,.str []]) (ho p rfl) (h.go (i + 1)) t2 (by omega)
    rw [Mv.mv] at lr
    simp [litT,c_read_literal,h.r,lk,lt,lr,tmV,tmT]
theorem lit_c {o : Option (List Nat × List Nat)} (ho : ∀ p,o = some p -> (p.1 = kWord \/ p.1 = kString) /\ p.2.length <= 128) {k dv b : V} {n : Int} (h : Ra σ c i) (hs : Sg c.T i (cmT o)) (he : o = none -> Nt c.T i kWord kComment) (hd : d < 20) :
    evS theP litC d [.inst 0 c.r,k,dv,.bool true,b,.int n,.str []] σ = some ⟨.none,.nxt,[.inst 0 c.r,k,dv,.bool true,b,.int n,.str (cmV o)],Mv σ c (i + (cmT o).length)⟩ := by
  cases o with
  | none =>
    obtain ⟨s,w,row,col,ht,q⟩ := he rfl
    have lk := is_word_ok (d := d) (ρ := [.inst 0 c.r,k,dv,.bool true,b,.int n,.str []]) (x := kComment) h ht (by omega)
    rw [q] at lk
    simp [litC,c_read_literal,h.r,lk,cmV,cmT,h.same]
  | some p =>
    obtain ⟨⟨r1,k1,t1⟩,⟨r2,k2,t2⟩,_⟩ := hs
    have lk := is_word_ok (d := d) (ρ := [.inst 0 c.r,k,dv,.bool true,b,.int n,.str []]) (x := kComment) h t1 (by omega)
    have lr := read_comment_ok (d := d) (ρ := [.inst 0 c.r,k,dv,.bool true,b,.int n,.str []]) (ho p rfl).1 (ho p rfl).2 h t1 t2 (by omega)
    simp [litC,c_read_literal,h.r,lk,lr,cmV,cmT]
theorem lit_e {o : Option Dt} (ho : ∀ x,o = some x -> x.Ok) {k : V} {bs : List V} {n : Int} {cs : List Nat} (h : Ra σ c i) (hs : Sg c.T i (dtT o)) (he : Nx c.T (i + (dtT o).length)) (hd : d < 15) :
    ∃ σ',evS theP litE d [.inst 0 c.r,k,dtK o,.bool true,.tup bs,.int n,.str cs] σ = some ⟨.tup [.tup bs,dtV o,.int n,.str cs],.ret,[.inst 0 c.r,k,dtK o,.bool true,.tup bs,.int n,.str cs],σ'⟩ /\ Rd σ c (i + (dtT o).length) σ' := by
  cases o with
  | none =>
    refine ⟨σ,?_,Rd.refl h⟩
    simp [litE,c_read_literal,dtK,dtV,maxLen]
  | some x =>
    obtain ⟨⟨r1,k1,t1⟩,hs⟩ := hs
    have e : i + (dtT (some x)).length = i + 1 + x.toks.length := by simp [dtT]; omega
    rw [e] at he ⊢
    have lw := want_sign_ok (d := d) (ρ := [.inst 0 c.r,k,dtK (some x),.bool true,.tup bs,.int n,.str cs]) h t1 (by omega)
    obtain ⟨σ',ld,g⟩ := read_datum_ok (d := d) (ρ := [.inst 0 c.r,k,dtK (some x),.bool true,.tup bs,.int n,.str cs]) (ho x rfl) (h.go (i + 1)) hs he.bar hd
    refine ⟨σ',?_,(Rd.mv h _).trans g⟩
    cases x with
    | vd x =>
      simp only [dtK,Dt.kinds,Dt.v] at lw ld
      simp [litE,c_read_literal,dtK,dtV,maxLen,h.r,lw,Dt.kinds,ld,Dt.v]
    | key ms =>
      simp only [dtK,Dt.kinds,Dt.v,Kd.v] at lw ld
      simp [litE,c_read_literal,dtK,dtV,maxLen,h.r,lw,Dt.kinds,ld,Dt.v,Kd.v]
theorem c_read_literal_eq : c_read_literal = .seq (.asg 4 (.call 45 (.cons (.loc 0) (.cons (.loc 1) .nil)))) (.seq (.asg 5 (.cInt (0))) (.seq (.asg 6 (.cStr [])) (.seq litT (.seq litC litE)))) := rfl
theorem dtK_some (o : Option Dt) : isSome' (dtK o) = true := by
  cases o with
  | none => rfl
  | some x => cases x <;> rfl
theorem read_literal_ok {e : El} (hx : e.Ok) (h : Ra σ c i) (hs : Sg c.T i e.toks) (he : Nx c.T (i + e.toks.length)) (hd : d < 14) :
    ∃ σ',ev theP (.call 47 [.inst 0 c.r,.tup (e.ms.map (·.k.v)),dtK e.dt,.bool true]) d ρ σ = some ⟨e.v,.nxt,ρ,σ'⟩ /\ Rd σ c (i + e.toks.length) σ' := by
  obtain ⟨ms,tm,cm,dt⟩ := e
  simp only [El.toks] at hs he ⊢
  obtain ⟨s1,s234⟩ := hs.app
  obtain ⟨s2,s34⟩ := s234.app
  obtain ⟨s3,s4⟩ := s34.app
  simp only [List.length_append,← Nat.add_assoc] at he ⊢
  have b3 : ∀ x,cm = none -> Nt c.T (i + (keyT true ms).length + (tmT tm).length) kWord x := fun x q => by
    subst q
    cases dt with
    | none => simpa [dtT,cmT] using he.word x
    | some y => exact Nt.of s34.1 rfl
  have b2 : tm = none -> Nt c.T (i + (keyT true ms).length) kWord kTimeout := fun q => by
    subst q
    cases cm with
    | none => simpa [tmT] using b3 kTimeout rfl
    | some y => exact Nt.of s34.1 rfl
  have b1 : Nt c.T (i + (keyT true ms).length) kSign [124] := by
    cases tm with
    | some y => exact Nt.of s2.1 rfl
    | none =>
      cases cm with
      | some y => exact Nt.of s34.1 rfl
      | none =>
        cases dt with
        | none => simpa [dtT,cmT,tmT] using he.bar
        | some y => exact Nt.of s34.1 rfl
  have l1 := read_box_ok (d := d + 1) (ρ := [.inst 0 c.r,.tup (ms.map (·.k.v)),dtK dt,.bool true,.undef,.undef,.undef]) hx.ms hx.ml h s1 (fun _ => b1) (by omega)
  have g1 : Rd σ c (i + (keyT true ms).length) (Mv σ c (i + (keyT true ms).length) ++ [.list (ms.map Cm.box)]) := (Rd.mv h _).trans (Rd.new (h.go _) _)
  have l2 := lit_t (d := d + 1) hx.tm (k := .tup (ms.map (·.k.v))) (dv := dtK dt) (b := .tup (ms.map Cm.box)) g1.a s2 b2 (by omega)
  have g2 := Rd.mv g1.a (i + (keyT true ms).length + (tmT tm).length)
  have l3 := lit_c (d := d + 1) hx.cm (k := .tup (ms.map (·.k.v))) (dv := dtK dt) (b := .tup (ms.map Cm.box)) (n := tmV tm) g2.a s3 (b3 kComment) (by omega)
  have g3 := Rd.mv g2.a (i + (keyT true ms).length + (tmT tm).length + (cmT cm).length)
  obtain ⟨σ',l4,g4⟩ := lit_e (d := d + 1) hx.dt (k := .tup (ms.map (·.k.v))) (bs := ms.map Cm.box) (n := tmV tm) (cs := cmV cm) g3.a s4 he (by omega)
  refine ⟨σ',?_,((g1.trans g2).trans g3).trans g4⟩
  generalize Mv σ c (i + (keyT true ms).length) ++ [O.list (ms.map Cm.box)] = σ1 at l1 l2 l3 l4
  generalize Mv σ1 c (i + (keyT true ms).length + (tmT tm).length) = σ2 at l2 l3 l4
  generalize Mv σ2 c (i + (keyT true ms).length + (tmT tm).length + (cmT cm).length) = σ3 at l3 l4
  have hk := dtK_some dt
  generalize dtK dt = kk at l1 l2 l3 l4 hk ⊢
  rw [call_of _ _ _ fn_read_literal (by omega) (by simp [argsOk,hk])]
  simp only [Kd.v] at l1 l2 l3 l4
  simp [c_read_literal_eq,Kd.v,l1,l2,l3,l4,hk,El.v]
end
noncomputable abbrev G := List Nat × List Nat × Bool
noncomputable def Mt (T : List V) : Nat -> List G -> Nat -> Prop
  | i,[],i' => i = i'
  | i,(s,w,f) :: r,i' => ∃ n,(f = false -> n = 0) /\ (∀ k,k < n -> ∃ row col,T[i + k]? = some (tk kEnd [10] row col)) /\ (∃ row col,T[i + n]? = some (tk s w row col)) /\ Mt T (i + n + 1) r i'
noncomputable def Mt0 (T : List V) (i : Nat) : List G -> Nat -> Prop
  | [],i' => i = i'
  | (s,w,_) :: r,i' => (∃ row col,T[i]? = some (tk s w row col)) /\ Mt T (i + 1) r i'
theorem Mt.app {T : List V} : ∀ {a b : List G} {i i' : Nat},Mt T i (a ++ b) i' -> ∃ j,Mt T i a j /\ Mt T j b i'
  | [],_,i,_,h => ⟨i,rfl,h⟩
  | (s,w,f) :: r,b,i,i',⟨n,h1,h2,h3,h4⟩ => by
    obtain ⟨j,q1,q2⟩ := Mt.app h4
    exact ⟨j,⟨n,h1,h2,h3,q1⟩,q2⟩
theorem Mt0.app {T : List V} {a b : List G} {i i' : Nat} (ha : a ≠ []) (h : Mt0 T i (a ++ b) i') : ∃ j,Mt0 T i a j /\ Mt T j b i' := by
  cases a with
  | nil => exact absurd rfl ha
  | cons p r =>
    obtain ⟨s,w,f⟩ := p
    obtain ⟨h3,h4⟩ := h
    obtain ⟨j,q1,q2⟩ := Mt.app h4
    exact ⟨j,⟨h3,q1⟩,q2⟩
noncomputable def tagF (l : List (List Nat × List Nat)) : List G := l.map fun p => (p.1,p.2,false)
noncomputable def tag : List (List Nat × List Nat) -> List G
  | [] => []
  | p :: r => (p.1,p.2,true) :: tagF r
theorem Mt.tagF {T : List V} : ∀ {l : List (List Nat × List Nat)} {i i' : Nat},Mt T i (tagF l) i' -> Sg T i l /\ i' = i + l.length
  | [],_,_,h => ⟨trivial,h.symm⟩
  | (s,w) :: r,i,i',⟨n,h1,h2,h3,h4⟩ => by
    have := h1 rfl
    subst this
    obtain ⟨q1,q2⟩ := Mt.tagF h4
    exact ⟨⟨h3,q1⟩,by simp; omega⟩
theorem Mt0.tag {T : List V} {l : List (List Nat × List Nat)} {i i' : Nat} (h : Mt0 T i (tag l) i') : Sg T i l /\ i' = i + l.length := by
  cases l with
  | nil => exact ⟨trivial,h.symm⟩
  | cons p r =>
    obtain ⟨h3,h4⟩ := h
    obtain ⟨q1,q2⟩ := Mt.tagF h4
    exact ⟨⟨h3,q1⟩,by simp; omega⟩
inductive PT (ks dv : V) : Nat -> Nat -> Bool -> List G -> List V -> Prop
  | el {h : Nat} (e : El) (hx : e.Ok) (hm : e.ms ≠ []) (hk : V.tup (e.ms.map (·.k.v)) = ks) (hd : dtK e.dt = dv) : PT ks dv 0 h true (tag e.toks) [e.v]
  | inner {h : Nat} {g : List G} {l : List V} (q : PT ks dv 2 h true g l) : PT ks dv 0 h true g l
  | nil {h : Nat} : PT ks dv 1 h true [] []
  | last {h : Nat} {g : List G} {l : List V} (q : PT ks dv 0 h true g l) : PT ks dv 1 h true g l
  | more {h : Nat} {g g' : List G} {l l' : List V} (q : PT ks dv 0 h true g l) (q' : PT ks dv 1 h true g' l') : PT ks dv 1 h true (g ++ (kSign,[44],true) :: g') (l ++ l')
  | br {h : Nat} {f : Bool} {g : List G} {l : List V} (q : PT ks dv 1 h true g l) : PT ks dv 2 (h + 1) f ((kSign,[123],f) :: (g ++ [(kSign,[125],true)])) l
noncomputable def Hd (g : List G) : Prop := ∃ s w f r,g = (s,w,f) :: r /\ (s = kWord \/ s = kSign)
theorem keyT_head {ms : List Cm} (hm : ms ≠ []) : ∃ w r,keyT true ms = (kWord,w) :: r := by
  cases ms with
  | nil => exact absurd rfl hm
  | cons m r => exact ⟨m.w,_,rfl⟩
theorem El.head {e : El} (hm : e.ms ≠ []) : ∃ w r,e.toks = (kWord,w) :: r := by
  obtain ⟨w,r,h⟩ := keyT_head hm
  exact ⟨w,_,by rw [El.toks,h]; rfl⟩
theorem PT.hd {ks dv : V} {o h : Nat} {f : Bool} {g : List G} {l : List V} (q : PT ks dv o h f g l) : (o = 1 /\ g = []) \/ ∃ s w r,g = (s,w,f) :: r /\ ((s = kWord /\ o ≠ 2) \/ (s = kSign /\ w = [123])) := by
  induction q with
  | el e hx hm hk hd =>
    obtain ⟨w,r,h⟩ := El.head hm
    exact Or.inr ⟨kWord,w,_,by rw [h]; rfl,Or.inl ⟨rfl,by decide⟩⟩
  | inner q ih => rcases ih with ⟨h,_⟩ | ⟨s,w,r,e,h⟩
                  · cases h
                  · exact Or.inr ⟨s,w,r,e,by rcases h with ⟨_,h⟩ | h; exact absurd rfl h; exact Or.inr h⟩
  | nil => exact Or.inl ⟨rfl,rfl⟩
  | last q ih => rcases ih with ⟨h,_⟩ | ⟨s,w,r,e,h⟩
                 · cases h
                 · exact Or.inr ⟨s,w,r,e,by rcases h with ⟨h,_⟩ | h; exact Or.inl ⟨h,by decide⟩; exact Or.inr h⟩
  | more q q' ih _ => rcases ih with ⟨h,_⟩ | ⟨s,w,r,e,h⟩
                      · cases h
                      · exact Or.inr ⟨s,w,r ++ _,by rw [e]; rfl,by rcases h with ⟨h,_⟩ | h; exact Or.inl ⟨h,by decide⟩; exact Or.inr h⟩
  | br q ih => exact Or.inr ⟨kSign,[123],_,rfl,Or.inr ⟨rfl,rfl⟩⟩
theorem Mt.skip {T : List V} {g : List G} {i i' : Nat} (hg : Hd g) (h : Mt T i g i') : ∃ n,(∀ k,k < n -> ∃ row col,T[i + k]? = some (tk kEnd [10] row col)) /\ (∃ s w row col,T[i + n]? = some (tk s w row col) /\ (s == kEnd && w == [10]) = false) /\ Mt0 T (i + n) g i' := by
  obtain ⟨s,w,f,r,rfl,q⟩ := hg
  obtain ⟨n,_,h2,⟨row,col,h3⟩,h4⟩ := h
  exact ⟨n,h2,⟨s,w,row,col,h3,by rcases q with rfl | rfl <;> rfl⟩,⟨row,col,h3⟩,h4⟩
theorem Mt.nx {T : List V} {w : List Nat} {f : Bool} {r : List G} {i i' : Nat} (hw : (w == [124]) = false) (h : Mt T i ((kSign,w,f) :: r) i') : Nx T i := by
  obtain ⟨n,_,h2,⟨row,col,h3⟩,h4⟩ := h
  cases n with
  | zero => exact ⟨kSign,w,row,col,h3,by simp [hw],rfl⟩
  | succ n =>
    obtain ⟨row,col,h⟩ := h2 0 (by omega)
    exact ⟨kEnd,[10],row,col,h,rfl,rfl⟩
structure Rb (σ : List O) (c : Rc) (j b : Nat) (ys : List V) (σ' : List O) : Prop where
  a : Ra σ' c j
  l : σ.length <= σ'.length
  o : ∀ k,k ≠ c.r -> k ≠ b -> k < σ.length -> σ'[k]? = σ[k]?
  b : σ'[b]? = some (.list ys)
theorem Rb.mv {σ : List O} {c : Rc} {i b : Nat} {ys : List V} (h : Ra σ c i) (q : Free c b) (hb : σ[b]? = some (.list ys)) (j : Nat) : Rb σ c j b ys (Mv σ c j) :=
  ⟨h.go j,by simp,fun k hk _ _ => by rw [Mv,List.getElem?_set_ne (Ne.symm hk)],by rw [Mv,List.getElem?_set_ne (Ne.symm q.r)]; exact hb⟩
theorem Rb.trans {σ σ' σ'' : List O} {c : Rc} {i j b : Nat} {xs ys : List V} (h : Rb σ c i b xs σ') (g : Rb σ' c j b ys σ'') : Rb σ c j b ys σ'' :=
  ⟨g.a,Nat.le_trans h.l g.l,fun k hk hb hl => by rw [g.o k hk hb (Nat.lt_of_lt_of_le hl h.l),h.o k hk hb hl],g.b⟩
theorem Rd.rb {σ σ' : List O} {c : Rc} {j b : Nat} {xs ys : List V} (h : Rd σ c j σ') (q : Free c b) (hb : σ[b]? = some (.list xs)) : σ'[b]? = some (.list xs) /\ Rb σ c j b ys (σ'.set b (.list ys)) := by
  have hl := (List.getElem?_eq_some_iff.mp hb).1
  have e : σ'[b]? = some (.list xs) := by rw [h.o b q.r hl]; exact hb
  exact ⟨e,h.a.put q,by simpa using h.l,fun k hk hkb hl => by rw [List.getElem?_set_ne (Ne.symm hkb)]; exact h.o k hk hl,get_set e⟩
noncomputable def brIf : S := match c_read_braces with
  | .seq _ (.seq _ (.seq _ (.seq (.whl _ (.seq a _)) _))) => a
  | _ => .skip
noncomputable def brB : S := match c_read_braces with
  | .seq _ (.seq _ (.seq _ (.seq (.whl _ b) _))) => b
  | _ => .skip
noncomputable def brT : X := match c_read_braces with
  | .seq _ (.seq _ (.seq _ (.seq (.whl t _) _))) => t
  | _ => .nil
noncomputable abbrev brL (c : Rc) (ks dv : V) (b : Nat) : List V := [.inst 0 c.r,ks,dv,.bool true,.ref b]
noncomputable abbrev lk (c : Rc) (ks dv : V) (b : Nat) : Prop := getLoc (brL c ks dv b) 0 = some (.inst 0 c.r) /\ getLoc (brL c ks dv b) 1 = some ks /\ getLoc (brL c ks dv b) 2 = some dv /\ getLoc (brL c ks dv b) 3 = some (.bool true) /\ getLoc (brL c ks dv b) 4 = some (.ref b)
theorem lk_ok {c : Rc} {ks dv : V} {b : Nat} (h1 : isSome' ks = true) (h2 : isSome' dv = true) : lk c ks dv b := by
  refine ⟨rfl,?_,?_,rfl,rfl⟩
  · cases ks <;> first | rfl | cases h1
  · cases dv <;> first | rfl | cases h2
noncomputable def Mo (c : Rc) (ks dv : V) (o h : Nat) (g : List G) (l : List V) : Prop := match o with
  | 0 => ∀ (d : Nat) (σ : List O) (i j b : Nat) (xs : List V),d + h < 14 -> Ra σ c i -> Free c b -> σ[b]? = some (.list xs) -> xs.length + l.length < 10000 -> Mt0 c.T i g j -> Nx c.T j →
      ∃ σ',evS theP brIf d (brL c ks dv b) σ = some ⟨.none,.nxt,brL c ks dv b,σ'⟩ /\ Rb σ c j b (xs ++ l) σ'
  | 1 => ∀ (d : Nat) (σ : List O) (i j b : Nat) (xs : List V),d + h < 14 -> Ra σ c i -> Free c b -> σ[b]? = some (.list xs) -> xs.length + l.length < 10000 -> Mt0 c.T i (g ++ [(kSign,[125],true)]) j →
      ∃ σ' k,ev theP (.loop brT brB) d (brL c ks dv b) σ = some ⟨.none,.nxt,brL c ks dv b,σ'⟩ /\ Rb σ c k b (xs ++ l) σ' /\ (∃ row col,c.T[k]? = some (tk kSign [125] row col)) /\ j = k + 1
  | _ => ∀ (d : Nat) (ρ : List V) (σ : List O) (i j : Nat),d + h < 14 -> Ra σ c i -> l.length < 10000 -> Mt0 c.T i g j →
      ∃ σ',ev theP (.call 48 [.inst 0 c.r,ks,dv,.bool true]) d ρ σ = some ⟨.tup l,.nxt,ρ,σ'⟩ /\ Rd σ c j σ'
theorem brB_eq : brB = .seq brIf (.seq (.ex (.meth (.loc 0) [115,107,105,112,95,114,111,119,115] .nil)) (.seq (.iff (.not (.meth (.loc 0) [115,107,105,112,95,115,105,103,110] (.cons (.cStr [44]) .nil))) .brk .skip) (.ex (.meth (.loc 0) [115,107,105,112,95,114,111,119,115] .nil)))) := rfl
theorem c_read_braces_eq : c_read_braces = .seq (.ex (.meth (.loc 0) [119,97,110,116,95,115,105,103,110] (.cons (.cStr [123]) .nil))) (.seq (.ex (.meth (.loc 0) [115,107,105,112,95,114,111,119,115] .nil)) (.seq (.asgNew 4 .nil) (.seq (.whl brT brB) (.seq (.ex (.meth (.loc 0) [119,97,110,116,95,115,105,103,110] (.cons (.cStr [125]) .nil))) (.ret (.tupleOf (.loc 4))))))) := rfl
theorem brIf_eq : brIf = (.iff (.meth (.loc 0) [105,115,95,115,105,103,110] (.cons (.cStr [123]) .nil)) (.ex (.extend (.loc 4) (.call 48 (.cons (.loc 0) (.cons (.loc 1) (.cons (.loc 2) (.cons (.loc 3) .nil))))))) (.ex (.append (.loc 4) (.call 47 (.cons (.loc 0) (.cons (.loc 1) (.cons (.loc 2) (.cons (.loc 3) .nil)))))))) := rfl
theorem brT_eq : brT = .not (.meth (.loc 0) [105,115,95,115,105,103,110] (.cons (.cStr [125]) .nil)) := rfl
variable {c : Rc} {ks dv : V}
theorem mo_el (h1 : isSome' ks = true) (h2 : isSome' dv = true) {h : Nat} (e : El) (hx : e.Ok) (hm : e.ms ≠ []) (hk : V.tup (e.ms.map (·.k.v)) = ks) (hd : dtK e.dt = dv) : Mo c ks dv 0 h (tag e.toks) [e.v] := by
  intro d σ i j b xs hdd ha hb hx' hl ht hn
  obtain ⟨g0,g1,g2,g3,g4⟩ := lk_ok (c := c) (b := b) h1 h2
  simp only [brL] at g0 g1 g2 g3 g4
  obtain ⟨hs,rfl⟩ := ht.tag
  obtain ⟨w,r,e1⟩ := El.head hm
  obtain ⟨row,col,t1⟩ : ∃ row col,c.T[i]? = some (tk kWord w row col) := by rw [e1] at hs; exact hs.1
  have li := is_sign_ok (d := d) (ρ := [.inst 0 c.r,ks,dv,.bool true,.ref b]) (x := [123]) ha t1 (by omega)
  obtain ⟨σ',lr,rd⟩ := read_literal_ok (d := d) (ρ := [.inst 0 c.r,ks,dv,.bool true,.ref b]) hx ha hs hn (by omega)
  obtain ⟨e2,rb⟩ := rd.rb (ys := xs ++ [e.v]) hb hx'
  rw [hk,hd] at lr
  refine ⟨_,?_,rb⟩
  have hlt : xs.length < maxLen := by simp at hl; simp [maxLen]; omega
  have hv : isSome' e.v = true := rfl
  rw [brIf_eq]
  simp [g0,g1,g2,g3,g4,ha.r,li,hx',lr,e2,hlt,hv]
theorem mo_inner (h1 : isSome' ks = true) (h2 : isSome' dv = true) {h : Nat} {g : List G} {l : List V} (q : PT ks dv 2 h true g l) (ih : Mo c ks dv 2 h g l) : Mo c ks dv 0 h g l := by
  intro d σ i j b xs hdd ha hb hx' hl ht hn
  obtain ⟨g0,g1,g2,g3,g4⟩ := lk_ok (c := c) (b := b) h1 h2
  simp only [brL] at g0 g1 g2 g3 g4
  obtain ⟨row,col,t1⟩ : ∃ row col,c.T[i]? = some (tk kSign [123] row col) := by
    rcases q.hd with ⟨h,_⟩ | ⟨s,w,r,e,h⟩
    · cases h
    · rcases h with ⟨_,h⟩ | ⟨rfl,rfl⟩
      · exact absurd rfl h
      · subst e; exact ht.1
  have li := is_sign_ok (d := d) (ρ := [.inst 0 c.r,ks,dv,.bool true,.ref b]) (x := [123]) ha t1 (by omega)
  obtain ⟨σ',lr,rd⟩ := ih d [.inst 0 c.r,ks,dv,.bool true,.ref b] σ i j hdd ha (by omega) ht
  obtain ⟨e2,rb⟩ := rd.rb (ys := xs ++ l) hb hx'
  refine ⟨_,?_,rb⟩
  have hlt : xs.length + l.length < maxLen := by simp [maxLen]; omega
  rw [brIf_eq]
  simp [g0,g1,g2,g3,g4,ha.r,li,hx',lr,e2,hlt]
theorem mo_nil (h1 : isSome' ks = true) (h2 : isSome' dv = true) {h : Nat} : Mo c ks dv 1 h [] [] := by
  intro d σ i j b xs hdd ha hb hx' hl ht
  obtain ⟨g0,g1,g2,g3,g4⟩ := lk_ok (c := c) (b := b) h1 h2
  simp only [brL] at g0 g1 g2 g3 g4
  obtain ⟨⟨row,col,t1⟩,rfl⟩ := ht
  have li := is_sign_ok (d := d) (ρ := [.inst 0 c.r,ks,dv,.bool true,.ref b]) (x := [125]) ha t1 (by omega)
  refine ⟨Mv σ c i,i,?_,by simpa using Rb.mv ha hb hx' i,⟨row,col,t1⟩,rfl⟩
  rw [l_loop,brT_eq]
  simp [g0,g1,g2,g3,g4,ha.r,li]
  exact ha.same.symm
theorem PT.first {h : Nat} {g : List G} {l : List V} (q : PT ks dv 0 h true g l) {T : List V} {i j : Nat} (ht : Mt0 T i g j) : ∃ s w row col,T[i]? = some (tk s w row col) /\ (s == kSign && w == [125]) = false := by
  rcases q.hd with ⟨h,_⟩ | ⟨s,w,r,e,h⟩
  · cases h
  · subst e
    obtain ⟨⟨row,col,t⟩,_⟩ := ht
    refine ⟨s,w,row,col,t,?_⟩
    rcases h with ⟨rfl,_⟩ | ⟨rfl,rfl⟩ <;> rfl
theorem PT.ne {h : Nat} {g : List G} {l : List V} (q : PT ks dv 0 h true g l) : g ≠ [] := by
  rcases q.hd with ⟨h,_⟩ | ⟨s,w,r,e,h⟩
  · cases h
  · rw [e]; simp
theorem PT.hdBr {h : Nat} {g : List G} {l : List V} (q : PT ks dv 1 h true g l) : Hd (g ++ [(kSign,[125],true)]) := by
  rcases q.hd with ⟨_,rfl⟩ | ⟨s,w,r,e,h⟩
  · exact ⟨kSign,[125],true,[],rfl,Or.inr rfl⟩
  · refine ⟨s,w,true,_,by rw [e]; rfl,?_⟩
    rcases h with ⟨h,_⟩ | ⟨h,_⟩
    · exact Or.inl h
    · exact Or.inr h
theorem mo_last (h1 : isSome' ks = true) (h2 : isSome' dv = true) {h : Nat} {g : List G} {l : List V} (q : PT ks dv 0 h true g l) (ih : Mo c ks dv 0 h g l) : Mo c ks dv 1 h g l := by
  intro d σ i j b xs hdd ha hb hx' hl ht
  obtain ⟨g0,g1,g2,g3,g4⟩ := lk_ok (c := c) (b := b) h1 h2
  simp only [brL] at g0 g1 g2 g3 g4
  obtain ⟨j1,m1,m2⟩ := ht.app q.ne
  obtain ⟨s,w,row,col,t1,hq⟩ := q.first m1
  have li := is_sign_ok (d := d) (ρ := [.inst 0 c.r,ks,dv,.bool true,.ref b]) (x := [125]) ha t1 (by omega)
  rw [hq] at li
  obtain ⟨σ1,l1,r1⟩ := ih d σ i j1 b xs hdd ha hb hx' hl m1 (m2.nx rfl)
  simp only [brL] at l1
  obtain ⟨n,k1,k2,⟨row2,col2,t2⟩,k3⟩ := m2.skip ⟨kSign,[125],true,[],rfl,Or.inr rfl⟩
  have l2 := skip_rows_ok (d := d) (ρ := [.inst 0 c.r,ks,dv,.bool true,.ref b]) r1.a k1 k2 (by omega)
  have r2 := Rb.mv r1.a hb r1.b (j1 + n)
  have l3 := skip_sign_no (d := d) (ρ := [.inst 0 c.r,ks,dv,.bool true,.ref b]) (x := [44]) r2.a t2 (by omega) rfl
  refine ⟨_,j1 + n,?_,r1.trans r2,⟨row2,col2,t2⟩,k3.symm⟩
  rw [l_loop,brT_eq,brB_eq]
  generalize Mv σ1 c (j1 + n) = σ2 at l2 l3 r2
  simp [g0,g1,g2,g3,g4,ha.r,r1.a.r,r2.a.r,li,l1,l2,l3]
theorem mo_more (h1 : isSome' ks = true) (h2 : isSome' dv = true) {h : Nat} {g g' : List G} {l l' : List V} (q : PT ks dv 0 h true g l) (q' : PT ks dv 1 h true g' l') (ih : Mo c ks dv 0 h g l) (ih' : Mo c ks dv 1 h g' l') : Mo c ks dv 1 h (g ++ (kSign,[44],true) :: g') (l ++ l') := by
  intro d σ i j b xs hdd ha hb hx' hl ht
  rw [List.length_append] at hl
  obtain ⟨g0,g1,g2,g3,g4⟩ := lk_ok (c := c) (b := b) h1 h2
  simp only [brL] at g0 g1 g2 g3 g4
  rw [List.append_assoc,List.cons_append] at ht
  obtain ⟨j1,m1,m2⟩ := ht.app q.ne
  obtain ⟨s,w,row,col,t1,hq⟩ := q.first m1
  have li := is_sign_ok (d := d) (ρ := [.inst 0 c.r,ks,dv,.bool true,.ref b]) (x := [125]) ha t1 (by omega)
  rw [hq] at li
  obtain ⟨σ1,l1,r1⟩ := ih d σ i j1 b xs hdd ha hb hx' (by omega) m1 (m2.nx rfl)
  simp only [brL] at l1
  obtain ⟨n,k1,k2,⟨row2,col2,t2⟩,k3⟩ := m2.skip ⟨kSign,[44],true,_,rfl,Or.inr rfl⟩
  have l2 := skip_rows_ok (d := d) (ρ := [.inst 0 c.r,ks,dv,.bool true,.ref b]) r1.a k1 k2 (by omega)
  have r2 := Rb.mv r1.a hb r1.b (j1 + n)
  have l3 := skip_sign_yes (d := d) (ρ := [.inst 0 c.r,ks,dv,.bool true,.ref b]) (x := [44]) r2.a t2 (by omega)
  have r3 := Rb.mv r2.a hb r2.b (j1 + n + 1)
  obtain ⟨n2,k4,k5,k6⟩ := k3.skip q'.hdBr
  have l4 := skip_rows_ok (d := d) (ρ := [.inst 0 c.r,ks,dv,.bool true,.ref b]) r3.a k4 k5 (by omega)
  have r4 := Rb.mv r3.a hb r3.b (j1 + n + 1 + n2)
  obtain ⟨σ5,k,l5,r5,t5,e5⟩ := ih' d _ _ _ b (xs ++ l) hdd r4.a hb r4.b (by simp; omega) k6
  simp only [brL] at l5
  refine ⟨σ5,k,?_,by simpa using (((r1.trans r2).trans r3).trans r4).trans r5,t5,e5⟩
  generalize Mv σ1 c (j1 + n) = σ2 at l2 l3 r2 r3 l4 r4 l5 r5
  generalize Mv σ2 c (j1 + n + 1) = σ3 at l3 r3 l4 r4 l5 r5
  generalize Mv σ3 c (j1 + n + 1 + n2) = σ4 at l4 r4 l5 r5
  rw [l_loop]
  rw [brT_eq] at l5 ⊢
  rw [brB_eq] at l5 ⊢
  simp [g0,g1,g2,g3,g4,ha.r,r1.a.r,r2.a.r,r3.a.r,li,l1,l2,l3,l4]
  exact l5
theorem mo_br (h1 : isSome' ks = true) (h2 : isSome' dv = true) {h : Nat} {f : Bool} {g : List G} {l : List V} (q : PT ks dv 1 h true g l) (ih : Mo c ks dv 1 h g l) : Mo c ks dv 2 (h + 1) ((kSign,[123],f) :: (g ++ [(kSign,[125],true)])) l := by
  intro d ρ σ i j hdd ha hl ht
  obtain ⟨g0,g1,g2,g3,g4⟩ := lk_ok (c := c) (b := σ.length) h1 h2
  simp only [brL] at g0 g1 g2 g3 g4
  have u0 : getLoc [V.inst 0 c.r,ks,dv,.bool true,.undef] 0 = some (.inst 0 c.r) := rfl
  obtain ⟨⟨row,col,t1⟩,m1⟩ := ht
  have l1 := want_sign_ok (d := d + 1) (ρ := [V.inst 0 c.r,ks,dv,.bool true,.undef]) ha t1 (by omega)
  have r1 := Rd.mv ha (i + 1)
  obtain ⟨n,k1,k2,k3⟩ := m1.skip q.hdBr
  have l2 := skip_rows_ok (d := d + 1) (ρ := [V.inst 0 c.r,ks,dv,.bool true,.undef]) r1.a k1 k2 (by omega)
  rw [Mv.mv] at l2
  have r2 := Rd.mv ha (i + 1 + n)
  have e2 : (Mv σ c (i + 1 + n)).length = σ.length := by simp
  have fr : Free c σ.length := ha.free
  have r3 := r2.trans (Rd.new r2.a [.list []])
  obtain ⟨σ5,k,l5,r5,⟨row5,col5,t5⟩,e5⟩ := ih (d + 1) _ _ _ σ.length [] (by omega) r3.a fr (by rw [← e2]; simp) (by simpa using hl) k3
  simp only [brL,List.nil_append] at l5 r5
  have l6 := want_sign_ok (d := d + 1) (ρ := [V.inst 0 c.r,ks,dv,.bool true,.ref σ.length]) r5.a t5 (by omega)
  have hr6 : (Mv σ5 c (k + 1))[σ.length]? = some (.list l) := by rw [Mv,List.getElem?_set_ne (Ne.symm fr.r)]; exact r5.b
  have l7 : getLoc [V.inst 0 c.r,ks,dv,.bool true,.ref σ.length] 4 = some (.ref σ.length) := g4
  refine ⟨Mv σ5 c (k + 1),?_,?_⟩
  · rw [call_of _ _ _ fn_read_braces (by omega) (by simp [argsOk,h1,h2])]
    have a2 := r2.a.r
    have a1 := r1.a.r
    rw [show Mv σ c (i + 1) = σ.set c.r (.ns (RF c.t (i + 1 : Nat) c.tg)) from rfl] at l1 l2 a1
    generalize Mv σ c (i + 1 + n) = σ2 at l2 l5 e2 a2
    generalize σ.set c.r (.ns (RF c.t (i + 1 : Nat) c.tg)) = σ1 at l1 l2 a1
    generalize Mv σ5 c (k + 1) = σ6 at l6 hr6
    simp [c_read_braces_eq,h1,h2,u0,g0,g4,ha.r,a1,a2,r5.a.r,l1,l2,e2,l5,l6,hr6]
  · rw [e5]
    refine ⟨r5.a.go _,?_,fun k' hk hlt => ?_⟩
    · have := r5.l; simp [Mv] at this ⊢; omega
    · rw [Mv,List.getElem?_set_ne (Ne.symm hk),r5.o k' hk (by omega) (by simp; omega),r3.o k' hk hlt]
theorem braces_all (h1 : isSome' ks = true) (h2 : isSome' dv = true) {o h : Nat} {f : Bool} {g : List G} {l : List V} (q : PT ks dv o h f g l) : Mo c ks dv o h g l := by
  induction q with
  | el e hx hm hk hd => exact mo_el h1 h2 e hx hm hk hd
  | inner q ih => exact mo_inner h1 h2 q ih
  | nil => exact mo_nil h1 h2
  | last q ih => exact mo_last h1 h2 q ih
  | more q q' ih ih' => exact mo_more h1 h2 q q' ih ih'
  | br q ih => exact mo_br h1 h2 q ih
theorem read_literals_ok (h1 : isSome' ks = true) (h2 : isSome' dv = true) {h d i j : Nat} {f : Bool} {g : List G} {l : List V} {ρ : List V} {σ : List O} (q : PT ks dv 2 h f g l) (hd : d + h < 13) (ha : Ra σ c i) (hl : l.length < 10000) (ht : Mt0 c.T i g j) :
    ∃ σ',ev theP (.call 49 [.inst 0 c.r,ks,dv]) d ρ σ = some ⟨.tup l,.nxt,ρ,σ'⟩ /\ Rd σ c j σ' := by
  obtain ⟨σ',e,r⟩ := braces_all (c := c) h1 h2 q (d + 1) [.inst 0 c.r,ks,dv] σ i j (by omega) ha hl ht
  refine ⟨σ',?_,r⟩
  have g1 : getLoc [V.inst 0 c.r,ks,dv] 1 = some ks := by cases ks <;> first | rfl | cases h1
  have g2 : getLoc [V.inst 0 c.r,ks,dv] 2 = some dv := by cases dv <;> first | rfl | cases h2
  rw [call_of _ _ _ fn_read_literals (by omega) (by simp [argsOk,h1,h2])]
  simp [c_read_literals,h1,h2,show getLoc [V.inst 0 c.r,ks,dv] 0 = some (.inst 0 c.r) from rfl,g1,g2,e]
theorem fn_law_keys : theP.fn 50 = some ⟨0,0,[],c_law_keys⟩ := rfl
theorem fn_law_draw : theP.fn 51 = some ⟨2,4,[],c_law_draw⟩ := rfl
theorem fn_law_told : theP.fn 52 = some ⟨1,1,[],c_law_told⟩ := rfl
theorem fn_law_key : theP.fn 53 = some ⟨3,9,[],c_law_key⟩ := rfl
theorem fn_law_element : theP.fn 54 = some ⟨3,11,[],c_law_element⟩ := rfl
theorem fn_law_braces : theP.fn 55 = some ⟨4,12,[],c_law_braces⟩ := rfl
noncomputable def Scr (sc : List V) : Prop := ∀ v ∈ sc,∃ z,v = .int z
theorem Scr.data {sc : List V} (h : Scr sc) : dataOks 8 sc = true := by
  induction sc with
  | nil => rfl
  | cons v r ih =>
    obtain ⟨z,rfl⟩ := h v (by simp)
    simp [dataOks,dataOk,ih (fun w hw => h w (by simp [hw]))]
theorem veq_nil {sc : List V} (h : dataOks 8 sc = true) : veq (.lst sc) (.lst []) = some sc.isEmpty := by
  show (if dataOks 8 sc = true then some sc.isEmpty else none) = _
  rw [if_pos h]
section
variable {sc : List V} {σ : List O} {p : Nat} {a : Nat} {d : Nat} {ρ : List V}
noncomputable abbrev pn (sc : List V) (a : Nat) : O := .list [.lst sc,.int a]
theorem draw_ok (hs : Scr sc) (hl : sc.length <= 63) (hp : σ[p]? = some (pn sc a)) (ha : a < 1000000) {m : Nat} (hm : 0 < m) (hd : d < 59) :
    ∃ k : Nat,k < m /\ ev theP (.call 51 [.ref p,.int m]) d ρ σ = some ⟨.int k,.nxt,ρ,σ.set p (pn sc (a + 1))⟩ := by
  have hm' : ¬ m = 0 := by omega
  have d0 : dataOks 8 [] = true := rfl
  have hq : (σ.set p (pn sc (a + 1)))[p]? = some (pn sc (a + 1)) := get_set hp
  have fin : ∀ z : Int,∃ k : Nat,k < m /\ z.fmod m = (k : Int) := fun z => ⟨(z.fmod m).toNat,by
    have := Int.fmod_nonneg_of_pos z (b := m) (by omega)
    have := Int.fmod_lt_of_pos z (b := m) (by omega)
    omega,by
    have := Int.fmod_nonneg_of_pos z (b := m) (by omega)
    omega⟩
  have sm : small (29 : Int) = true := by decide
  have sa : small (a : Int) = true := by simp [small]; omega
  have hpush : ((a + 1 : Nat) : Int) = (a : Int) + 1 := by push_cast; rfl
  have bm1 : binop .mul (.int 29) (.int (a : Int)) = some (.int (29 * (a : Int))) := by simp [sm,sa]
  have bm2 : binop .mod (.int (29 * (a : Int))) (.int 71) = some (.int ((29 * (a : Int)).fmod 71)) := rfl
  have bm3 : ∀ z : Int,binop .mod (.int z) (.int (m : Int)) = some (.int (z.fmod m)) := fun z => by simp [hm']
  have vn := veq_nil hs.data
  rw [call_of _ _ _ fn_law_draw (by omega) rfl]
  simp only [pn,hpush] at hq
  cases sc with
  | nil =>
    obtain ⟨k,hk,e⟩ := fin (0 + ((29 * (a : Int)).fmod 71))
    refine ⟨k,hk,?_⟩
    simp only [Int.zero_add] at e
    simp [c_law_draw,vn,hp,bm1,bm2,bm3,hq,e,pn]
  | cons v r =>
    have h1 := Int.fmod_nonneg_of_pos (a : Int) (b := (r.length : Int) + 1) (by omega)
    have h2 := Int.fmod_lt_of_pos (a : Int) (b := (r.length : Int) + 1) (by omega)
    have h3 : ((r.length : Int) + 1) ≠ 0 := by omega
    obtain ⟨z,e2⟩ : ∃ z,item (.lst (v :: r)) (.int ((a : Int).fmod ((r.length : Int) + 1))) = some (.int z) := by
      have hlt : ((a : Int).fmod ((r.length : Int) + 1)).toNat < (v :: r).length := by simp; omega
      obtain ⟨z,hz⟩ := hs _ (List.getElem_mem hlt)
      refine ⟨z,?_⟩
      show (place (v :: r).length _).bind _ = _
      unfold place
      rw [if_pos h1,if_pos (by simpa using h2)]
      show (v :: r)[_]? = _
      rw [List.getElem?_eq_getElem hlt,hz]
    have bm4 : binop .mod (.int (a : Int)) (.int ((r.length : Int) + 1)) = some (.int ((a : Int).fmod ((r.length : Int) + 1))) := by simp [h3]
    obtain ⟨k,hk,e⟩ := fin (z + ((29 * (a : Int)).fmod 71))
    refine ⟨k,hk,?_⟩
    simp [c_law_draw,vn,hp,bm1,bm2,bm3,bm4,hq,e2,e,pn]
end
noncomputable def txtTab : Kd -> Nat -> List Nat
  | .ip,0 => [49,48,46,48,46,48,46,49]
  | .ip,1 => [48,46,48,46,48,46,48]
  | .ip,2 => [49,48,46,48,46,48,46,57,47,51,48]
  | .ip,_ => [49,48,46,48,46,48,46,49,45,49,48,46,48,46,48,46,53]
  | .sv,0 => [115,115,104]
  | .sv,1 => [48,120,53,48]
  | .sv,2 => [56,48,45,52,52,51]
  | .sv,_ => [50,50,45,48,50,50]
  | .fl,0 => [97,99,107]
  | .fl,1 => [115,121,110,32,124,32,48,120,49,48,32,124,32,49]
  | .fl,2 => [49,56]
  | .fl,_ => [48,32,124,32,115,121,110]
noncomputable def cmTab : Kd -> Nat -> Cm
  | .ip,0 => ⟨.ip,[49,48,46,48,46,48,46,49],167772161,167772161,[]⟩
  | .ip,1 => ⟨.ip,[48,46,48,46,48,46,48],0,0,[]⟩
  | .ip,2 => ⟨.ip,[49,48,46,48,46,48,46,57,47,51,48],167772168,167772171,[]⟩
  | .ip,_ => ⟨.ip,[49,48,46,48,46,48,46,49,45,49,48,46,48,46,48,46,53],167772161,167772165,[]⟩
  | .sv,0 => ⟨.sv,[115,115,104],22,22,[]⟩
  | .sv,1 => ⟨.sv,[48,120,53,48],80,80,[]⟩
  | .sv,2 => ⟨.sv,[56,48,45,52,52,51],80,443,[]⟩
  | .sv,_ => ⟨.sv,[50,50,45,48,50,50],22,22,[]⟩
  | .fl,0 => ⟨.fl,[97,99,107],16,16,[]⟩
  | .fl,1 => ⟨.fl,[115,121,110],2,2,[([48,120,49,48],16),([49],1)]⟩
  | .fl,2 => ⟨.fl,[49,56],18,18,[]⟩
  | .fl,_ => ⟨.fl,[48],0,0,[([115,121,110],2)]⟩
theorem cmTab_k (k : Kd) (n : Nat) : (cmTab k n).k = k := by
  match k,n with
  | .ip,0 => rfl
  | .ip,1 => rfl
  | .ip,2 => rfl
  | .ip,_ + 3 => rfl
  | .sv,0 => rfl
  | .sv,1 => rfl
  | .sv,2 => rfl
  | .sv,_ + 3 => rfl
  | .fl,0 => rfl
  | .fl,1 => rfl
  | .fl,2 => rfl
  | .fl,_ + 3 => rfl
theorem cmTab_ok (k : Kd) (n : Nat) : (cmTab k n).Ok := by
  match k,n with
  | .ip,0 => exact ⟨sp_ip0,by decide,by simp [cmTab],by simp [cmTab],by simp [cmTab]⟩
  | .ip,1 => exact ⟨sp_ip1,by decide,by simp [cmTab],by simp [cmTab],by simp [cmTab]⟩
  | .ip,2 => exact ⟨sp_ip2,by decide,by simp [cmTab],by simp [cmTab],by simp [cmTab]⟩
  | .ip,_ + 3 => exact ⟨sp_ip3,by simp [cmTab],by simp [cmTab],by simp [cmTab],by simp [cmTab]⟩
  | .sv,0 => exact ⟨sp_sv0,by decide,by simp [cmTab],by simp [cmTab],by simp [cmTab]⟩
  | .sv,1 => exact ⟨sp_sv1,by decide,by simp [cmTab],by simp [cmTab],by simp [cmTab]⟩
  | .sv,2 => exact ⟨sp_sv2,by decide,by simp [cmTab],by simp [cmTab],by simp [cmTab]⟩
  | .sv,_ + 3 => exact ⟨sp_sv3,by simp [cmTab],by simp [cmTab],by simp [cmTab],by simp [cmTab]⟩
  | .fl,0 => exact ⟨sp_fl0,by decide,by simp [cmTab],by simp [cmTab],by simp [cmTab]⟩
  | .fl,1 => exact ⟨sp_fl1,by decide,by simp [cmTab,va_0x10,va_1],by simp [cmTab],by simp [cmTab]⟩
  | .fl,2 => exact ⟨sp_fl2,by decide,by simp [cmTab],by simp [cmTab],by simp [cmTab]⟩
  | .fl,_ + 3 => exact ⟨sp_fl3,by simp [cmTab],by simp [cmTab,va_syn],by simp [cmTab],by simp [cmTab]⟩
theorem cmTab_va (k : Kd) (n : Nat) (hn : n < 2) : (cmTab k n).Va /\ (cmTab k n).lo = (cmTab k n).hi := by
  match k,n with
  | .ip,0 => exact ⟨⟨va_ip0,by decide,by simp [cmTab],by simp [cmTab]⟩,rfl⟩
  | .ip,1 => exact ⟨⟨va_ip1,by decide,by simp [cmTab],by simp [cmTab]⟩,rfl⟩
  | .sv,0 => exact ⟨⟨va_sv0,by decide,by simp [cmTab],by simp [cmTab]⟩,rfl⟩
  | .sv,1 => exact ⟨⟨va_sv1,by decide,by simp [cmTab],by simp [cmTab]⟩,rfl⟩
  | .fl,0 => exact ⟨⟨va_ack,by decide,by simp [cmTab],by simp [cmTab]⟩,rfl⟩
  | .fl,1 => exact ⟨⟨va_syn,by decide,by simp [cmTab,va_0x10,va_1],by simp [cmTab]⟩,rfl⟩
noncomputable def pv (p : List Nat × List Nat) : V := .tup [.str p.1,.str p.2]
theorem told_ok (k : Kd) (n : Nat) {d : Nat} (hd : d <= 40) (ρ : List V) (σ : List O) : ev theP (.call 52 [.str (txtTab k n)]) d ρ σ = some ⟨.lst ((cmTab k n).toks.map pv),.nxt,ρ,σ⟩ := by
  match k,n with
  | .ip,0 => exact closed (n := 100) (d := 40) (by kernel_rfl) hd
  | .ip,1 => exact closed (n := 100) (d := 40) (by kernel_rfl) hd
  | .ip,2 => exact closed (n := 100) (d := 40) (by kernel_rfl) hd
  | .ip,_ + 3 => exact closed (n := 100) (d := 40) (by kernel_rfl) hd
  | .sv,0 => exact closed (n := 100) (d := 40) (by kernel_rfl) hd
  | .sv,1 => exact closed (n := 100) (d := 40) (by kernel_rfl) hd
  | .sv,2 => exact closed (n := 100) (d := 40) (by kernel_rfl) hd
  | .sv,_ + 3 => exact closed (n := 100) (d := 40) (by kernel_rfl) hd
  | .fl,0 => exact closed (n := 100) (d := 40) (by kernel_rfl) hd
  | .fl,1 => exact closed (n := 100) (d := 40) (by kernel_rfl) hd
  | .fl,2 => exact closed (n := 100) (d := 40) (by kernel_rfl) hd
  | .fl,_ + 3 => exact closed (n := 100) (d := 40) (by kernel_rfl) hd
noncomputable def rowV (k : Kd) (n : Nat) : V := .tup [.str (txtTab k n),.int (cmTab k n).lo',.int (cmTab k n).hi']
noncomputable def keysV : V := .dct [(Kd.ip.name,.tup [rowV .ip 0,rowV .ip 1,rowV .ip 2,rowV .ip 3]),(Kd.sv.name,.tup [rowV .sv 0,rowV .sv 1,rowV .sv 2,rowV .sv 3]),(Kd.fl.name,.tup [rowV .fl 0,rowV .fl 1,rowV .fl 2,rowV .fl 3])]
theorem keys_ok {d : Nat} (hd : d <= 40) (ρ : List V) (σ : List O) : ev theP (.call 50 []) d ρ σ = some ⟨keysV,.nxt,ρ,σ⟩ := closed (n := 100) (d := 40) (by kernel_rfl) hd
theorem item_keys (k : Kd) (n : Nat) (hn : n < 4) : (item keysV (.str k.name)).bind (fun v => item v (.int n)) = some (rowV k n) := by
  match k,n with
  | .ip,0 => rfl
  | .ip,1 => rfl
  | .ip,2 => rfl
  | .ip,3 => rfl
  | .sv,0 => rfl
  | .sv,1 => rfl
  | .sv,2 => rfl
  | .sv,3 => rfl
  | .fl,0 => rfl
  | .fl,1 => rfl
  | .fl,2 => rfl
  | .fl,3 => rfl
structure G3 (sc : List V) (p t b : Nat) (σ : List O) (a : Nat) (xs ys : List V) (σ' : List O) : Prop where
  gp : σ'[p]? = some (pn sc a)
  gt : σ'[t]? = some (.list xs)
  gb : σ'[b]? = some (.list ys)
  gl : σ.length <= σ'.length
  go : ∀ k,k ≠ p -> k ≠ t -> k ≠ b -> k < σ.length -> σ'[k]? = σ[k]?
section
variable {sc : List V} {σ σ' : List O} {p t b a : Nat} {d : Nat} {ρ : List V} {xs ys : List V}
theorem G3.setP (h : G3 sc p t b σ a xs ys σ') (hpt : p ≠ t) (hpb : p ≠ b) (a' : Nat) : G3 sc p t b σ a' xs ys (σ'.set p (pn sc a')) :=
  ⟨get_set h.gp,by rw [List.getElem?_set_ne hpt]; exact h.gt,by rw [List.getElem?_set_ne hpb]; exact h.gb,by simpa using h.gl,fun k h1 h2 h3 h4 => by rw [List.getElem?_set_ne (Ne.symm h1)]; exact h.go k h1 h2 h3 h4⟩
theorem G3.setT (h : G3 sc p t b σ a xs ys σ') (hpt : p ≠ t) (htb : t ≠ b) (xs' : List V) : G3 sc p t b σ a xs' ys (σ'.set t (.list xs')) :=
  ⟨by rw [List.getElem?_set_ne (Ne.symm hpt)]; exact h.gp,get_set h.gt,by rw [List.getElem?_set_ne htb]; exact h.gb,by simpa using h.gl,fun k h1 h2 h3 h4 => by rw [List.getElem?_set_ne (Ne.symm h2)]; exact h.go k h1 h2 h3 h4⟩
theorem G3.setB (h : G3 sc p t b σ a xs ys σ') (hpb : p ≠ b) (htb : t ≠ b) (ys' : List V) : G3 sc p t b σ a xs ys' (σ'.set b (.list ys')) :=
  ⟨by rw [List.getElem?_set_ne (Ne.symm hpb)]; exact h.gp,by rw [List.getElem?_set_ne (Ne.symm htb)]; exact h.gt,get_set h.gb,by simpa using h.gl,fun k h1 h2 h3 h4 => by rw [List.getElem?_set_ne (Ne.symm h3)]; exact h.go k h1 h2 h3 h4⟩
theorem G3.trans {σ'' : List O} {a' : Nat} {xs' ys' : List V} (h : G3 sc p t b σ a xs ys σ') (g : G3 sc p t b σ' a' xs' ys' σ'') : G3 sc p t b σ a' xs' ys' σ'' :=
  ⟨g.gp,g.gt,g.gb,Nat.le_trans h.gl g.gl,fun k h1 h2 h3 h4 => by rw [g.go k h1 h2 h3 (Nat.lt_of_lt_of_le h4 h.gl),h.go k h1 h2 h3 h4]⟩
noncomputable def keyBody : S := match c_law_key with
  | .seq _ (.seq _ (.seq (.forr _ _ b) _)) => b
  | _ => .skip
noncomputable def keyTail : S := match keyBody with
  | .seq _ b => b
  | _ => .skip
theorem boxes_data (pre : List Cm) : dataOks 8 (pre.map Cm.box) = true := by
  induction pre with
  | nil => rfl
  | cons m r ih => simp [dataOks,dataOk,Cm.box,ih]
theorem keyT_false : ∀ (pre : List Cm) (m : Cm),keyT false (pre ++ [m]) = keyT false pre ++ ((kSign,[46]) :: m.toks)
  | [],m => by simp [keyT]
  | x :: r,m => by simp [keyT,keyT_false r m]
theorem keyT_snoc (pre : List Cm) (m : Cm) : keyT true (pre ++ [m]) = keyT true pre ++ (dot pre.isEmpty ++ m.toks) := by
  cases pre with
  | nil => simp [keyT,dot]
  | cons x r => simp [keyT,dot,keyT_false]
inductive key_tail_o (sc : List V) (σ : List O) (p : Nat) (t : Nat) (b : Nat) (a : Nat) (d : Nat) (xs : List V) (ys : List V) (k : Kd) (m : Nat) (nm : V) (x6 : V) (x7 : V) (x8 : V) : Prop
  | mk (n : _) (hh1 : n < m) (y6 : _) (y7 : _) (y8 : _) (σ' : _) (hh2 : evS theP keyTail d [.ref p,nm,.int m,.ref t,.ref b,.str k.name,x6,x7,x8] σ = some ⟨.none,.nxt,[.ref p,nm,.int m,.ref t,.ref b,.str k.name,y6,y7,y8],σ'⟩) (hh3 : G3 sc p t b σ (a + 1) (xs ++ (cmTab k n).toks.map pv) (ys ++ [(cmTab k n).box]) σ') : key_tail_o sc σ p t b a d xs ys k m nm x6 x7 x8
theorem cm_toks_le (k : Kd) (n : Nat) : (cmTab k n).toks.length <= 5 := by
  match k,n with
  | .ip,0 => decide
  | .ip,1 => decide
  | .ip,2 => decide
  | .ip,_ + 3 => simp [cmTab,Cm.toks,bars]
  | .sv,0 => decide
  | .sv,1 => decide
  | .sv,2 => decide
  | .sv,_ + 3 => simp [cmTab,Cm.toks,bars]
  | .fl,0 => decide
  | .fl,1 => decide
  | .fl,2 => decide
  | .fl,_ + 3 => simp [cmTab,Cm.toks,bars]
theorem key_tail (hs : Scr sc) (hl : sc.length <= 63) (k : Kd) {m : Nat} (hm : 0 < m) (hm4 : m <= 4) (ha : a < 1000000) (hpt : p ≠ t) (hpb : p ≠ b) (htb : t ≠ b) (hx : xs.length < 1000) (hy : ys.length < 1000) {nm x6 x7 x8 : V}
    (hp : σ[p]? = some (pn sc a)) (ht : σ[t]? = some (.list xs)) (hb : σ[b]? = some (.list ys)) (hd : d < 39) :
    key_tail_o sc σ p t b a d xs ys k m nm x6 x7 x8 := by
  obtain ⟨n,hn,l1⟩ := draw_ok (σ := σ) (p := p) (d := d) (ρ := [.ref p,nm,.int m,.ref t,.ref b,.str k.name,x6,x7,x8]) hs hl hp ha hm (by omega)
  have r0 : G3 sc p t b σ a xs ys σ := ⟨hp,ht,hb,Nat.le_refl _,fun _ _ _ _ _ => rfl⟩
  have r1 := r0.setP hpt hpb (a + 1)
  have l0 := keys_ok (d := d) (by omega) [.ref p,nm,.int m,.ref t,.ref b,.str k.name,x6,x7,x8] σ
  have it := item_keys k n (by omega)
  obtain ⟨w,iw,it⟩ := Option.bind_eq_some_iff.mp it
  have hw : deref (σ.set p (pn sc (a + 1))) w = some w := by
    cases w <;> first | rfl | cases it
  have l2 := told_ok k n (d := d) (by omega) [.ref p,nm,.int m,.ref t,.ref b,.str k.name,.str (txtTab k n),.int (cmTab k n).lo',.int (cmTab k n).hi'] (σ.set p (pn sc (a + 1)))
  have r2 := r1.setT hpt htb (xs ++ (cmTab k n).toks.map pv)
  have r3 := r2.setB hpb htb (ys ++ [(cmTab k n).box])
  have r1t := r1.gt
  have r2b := r2.gb
  refine ⟨n,hn,.str (txtTab k n),.int (cmTab k n).lo',.int (cmTab k n).hi',_,?_,r3⟩
  generalize σ.set p (pn sc (a + 1)) = σ1 at *
  have hL := cm_toks_le k n
  have hk : ∀ σ,deref σ keysV = some keysV := fun _ => rfl
  have dl : ∀ σ xs,deref σ (.lst xs) = some (.lst xs) := fun _ _ => rfl
  simp [keyTail,keyBody,c_law_key,l0,l1,hk,iw,hw,it,rowV,dl,r1t,l2,show xs.length + (cmTab k n).toks.length < maxLen by simp [maxLen]; omega,show ys.length < maxLen by simp [maxLen]; omega,r2b,show 2 <= maxLen by decide,Cm.box]
end
section
variable {sc : List V} {σ σ' : List O} {p t b a : Nat} {d : Nat} {ρ : List V} {xs ys : List V}
theorem keyBody_eq : keyBody = .seq (.iff (.cmp .ne (.loc 4) (.lst .nil)) (.ex (.append (.loc 3) (.tup (.cons (.cStr [115,105,103,110]) (.cons (.cStr [46]) .nil))))) .skip) keyTail := rfl
theorem keyLen (k : Kd) (n : Nat) : (cmTab k n).toks.length <= 5 := by
  match k,n with
  | .ip,0 => decide
  | .ip,1 => decide
  | .ip,2 => decide
  | .ip,_ + 3 => simp [cmTab,Cm.toks,bars]
  | .sv,0 => decide
  | .sv,1 => decide
  | .sv,2 => decide
  | .sv,_ + 3 => simp [cmTab,Cm.toks,bars]
  | .fl,0 => decide
  | .fl,1 => decide
  | .fl,2 => decide
  | .fl,_ + 3 => simp [cmTab,Cm.toks,bars]
inductive key_step_o (sc : List V) (σ : List O) (p : Nat) (t : Nat) (b : Nat) (a : Nat) (d : Nat) (k : Kd) (pre : List Cm) (m : Nat) (nm : V) (x6 : V) (x7 : V) (x8 : V) : Prop
  | mk (n : _) (hh1 : n < m) (y6 : _) (y7 : _) (y8 : _) (σ' : _) (hh2 : evS theP keyBody d [.ref p,nm,.int m,.ref t,.ref b,.str k.name,x6,x7,x8] σ = some ⟨.none,.nxt,[.ref p,nm,.int m,.ref t,.ref b,.str k.name,y6,y7,y8],σ'⟩) (hh3 : G3 sc p t b σ (a + 1) ((keyT true (pre ++ [cmTab k n])).map pv) ((pre ++ [cmTab k n]).map Cm.box) σ') : key_step_o sc σ p t b a d k pre m nm x6 x7 x8
theorem key_step (hs : Scr sc) (hl : sc.length <= 63) (k : Kd) (pre : List Cm) {m : Nat} (hm : 0 < m) (hm4 : m <= 4) (ha : a < 1000000) (hpt : p ≠ t) (hpb : p ≠ b) (htb : t ≠ b) (hx : (keyT true pre).length < 900) (hy : pre.length < 1000) {nm x6 x7 x8 : V}
    (hp : σ[p]? = some (pn sc a)) (ht : σ[t]? = some (.list ((keyT true pre).map pv))) (hb : σ[b]? = some (.list (pre.map Cm.box))) (hd : d < 39) :
    key_step_o sc σ p t b a d k pre m nm x6 x7 x8 := by
  have r0 : G3 sc p t b σ a ((keyT true pre).map pv) (pre.map Cm.box) σ := ⟨hp,ht,hb,Nat.le_refl _,fun _ _ _ _ _ => rfl⟩
  cases pre with
  | nil =>
    obtain ⟨n,hn,y6,y7,y8,σ1,l1,r1⟩ := key_tail (d := d) hs hl k hm hm4 ha hpt hpb htb (xs := (keyT true []).map pv) (ys := [].map Cm.box) (by simp [keyT]) (by simp) (nm := nm) (x6 := x6) (x7 := x7) (x8 := x8) hp ht hb hd
    refine ⟨n,hn,y6,y7,y8,σ1,?_,by simpa [keyT] using r1⟩
    rw [keyBody_eq]
    have d0 : dataOks 8 [] = true := rfl
    simp at hb
    have vn := veq_nil (sc := []) rfl
    simp [hb,vn,l1]
  | cons q r =>
    have r1 := r0.setT hpt htb ((keyT true (q :: r)).map pv ++ [pv (kSign,[46])])
    have r1p := r1.gp
    have r1t := r1.gt
    have r1b := r1.gb
    obtain ⟨n,hn,y6,y7,y8,σ1,l1,r2⟩ := key_tail (d := d) hs hl k hm hm4 ha hpt hpb htb (by simp; omega) (by simpa using hy) (nm := nm) (x6 := x6) (x7 := x7) (x8 := x8) r1p r1t r1b hd
    refine ⟨n,hn,y6,y7,y8,σ1,?_,?_⟩
    · rw [keyBody_eq]
      have dk := boxes_data (q :: r)
      have lt : (keyT true (q :: r)).length < maxLen := by simp only [maxLen]; omega
      generalize hz : (q :: r).map Cm.box = z at *
      have hne : z.isEmpty = false := by rw [← hz]; rfl
      have vn := veq_nil dk
      rw [hne] at vn
      simp [hb,ht,vn,lt]
      exact l1
    · rw [keyT_snoc,List.map_append,List.map_append,List.map_append]
      have := r1.trans r2
      simpa [dot,pv] using this
theorem keyT_len : ∀ (pre : List Cm) (f : Bool),(∀ m ∈ pre,m.toks.length <= 5) -> (keyT f pre).length <= 6 * pre.length
  | [],true,_ => by simp [keyT]
  | [],false,_ => by simp [keyT]
  | m :: r,f,h => by
    have := keyT_len r false (fun x hx => h x (by simp [hx]))
    have := h m (by simp)
    cases f <;> simp [keyT] <;> omega
noncomputable def Tbl (m : Nat) (ms : List Cm) : Prop := ∀ x ∈ ms,∃ k n,n < m /\ x = cmTab k n
theorem Tbl.len {m : Nat} {ms : List Cm} (h : Tbl m ms) : ∀ x ∈ ms,x.toks.length <= 5 := fun x hx => by
  obtain ⟨k,n,_,rfl⟩ := h x hx
  exact keyLen k n
inductive key_loop_o (sc : List V) (p : Nat) (t : Nat) (b : Nat) (d : Nat) (m : Nat) (nm : V) (ns : List Kd) (pre : List Cm) (a : Nat) (σ : List O) (x5 : V) (x6 : V) (x7 : V) (x8 : V) : Prop
  | mk (ms : _) (hh1 : ms.map (·.k) = ns) (hh2 : Tbl m ms) (y5 : _) (y6 : _) (y7 : _) (y8 : _) (σ' : _) (hh3 : ev theP (.iter [5] (.vals (ns.map fun k => .str k.name)) keyBody) d [.ref p,nm,.int m,.ref t,.ref b,x5,x6,x7,x8] σ = some ⟨.none,.nxt,[.ref p,nm,.int m,.ref t,.ref b,y5,y6,y7,y8],σ'⟩) (hh4 : G3 sc p t b σ (a + ns.length) ((keyT true (pre ++ ms)).map pv) ((pre ++ ms).map Cm.box) σ') : key_loop_o sc p t b d m nm ns pre a σ x5 x6 x7 x8
theorem key_loop (hs : Scr sc) (hl : sc.length <= 63) {m : Nat} (hm : 0 < m) (hm4 : m <= 4) (hpt : p ≠ t) (hpb : p ≠ b) (htb : t ≠ b) {nm : V} (hd : d < 39) : ∀ (ns : List Kd) (pre : List Cm) (a : Nat) (σ : List O) (x5 x6 x7 x8 : V),a + ns.length < 1000000 -> Tbl m pre -> pre.length + ns.length < 100 →
    σ[p]? = some (pn sc a) -> σ[t]? = some (.list ((keyT true pre).map pv)) -> σ[b]? = some (.list (pre.map Cm.box)) →
    key_loop_o sc p t b d m nm ns pre a σ x5 x6 x7 x8
  | [],pre,a,σ,x5,x6,x7,x8,ha,hp,hn,h1,h2,h3 => by
    refine ⟨[],rfl,fun _ h => by simp at h,x5,x6,x7,x8,σ,?_,by simpa using (⟨h1,h2,h3,Nat.le_refl _,fun _ _ _ _ _ => rfl⟩ : G3 sc p t b σ a _ _ σ)⟩
    rw [l_iter]; simp
  | k :: r,pre,a,σ,x5,x6,x7,x8,ha,hp,hn,h1,h2,h3 => by
    simp only [List.length_cons] at ha hn
    have hk := keyT_len pre true hp.len
    obtain ⟨n,hn',y6,y7,y8,σ1,l1,r1⟩ := key_step (d := d) hs hl k pre hm hm4 (by omega) hpt hpb htb (by omega) (by omega) (nm := nm) (x6 := x6) (x7 := x7) (x8 := x8) h1 h2 h3 hd
    have hp' : Tbl m (pre ++ [cmTab k n]) := fun x hx => by
      rcases List.mem_append.mp hx with h | h
      · exact hp x h
      · simp at h; exact ⟨k,n,hn',h⟩
    obtain ⟨ms,e1,e2,z5,z6,z7,z8,σ2,l2,r2⟩ := key_loop hs hl hm hm4 hpt hpb htb (nm := nm) hd r (pre ++ [cmTab k n]) (a + 1) σ1 (.str k.name) y6 y7 y8 (by omega) hp' (by simp; omega) r1.gp r1.gt r1.gb
    refine ⟨cmTab k n :: ms,by simp [e1,cmTab_k],fun x hx => ?_,z5,z6,z7,z8,σ2,?_,?_⟩
    · rcases List.mem_cons.mp hx with h | h
      · exact ⟨k,n,hn',h⟩
      · exact e2 x h
    · rw [l_iter]
      simp [l1]
      exact l2
    · have := r1.trans r2
      rw [show a + (k :: r).length = a + 1 + r.length by simp; omega]
      simpa using this
structure Gw (sc : List V) (p : Nat) (σ : List O) (a : Nat) (σ' : List O) : Prop where
  gp : σ'[p]? = some (pn sc a)
  gl : σ.length <= σ'.length
  go : ∀ k,k ≠ p -> k < σ.length -> σ'[k]? = σ[k]?
theorem c_law_key_eq : c_law_key = .seq (.asgNew 3 .nil) (.seq (.asgNew 4 .nil) (.seq (.forr [5] (.loc 1) keyBody) (.ret (.tup (.cons (.loc 3) (.cons (.loc 4) .nil)))))) := rfl
inductive law_key_ok_o (sc : List V) (σ : List O) (p : Nat) (a : Nat) (d : Nat) (ρ : List V) (m : Nat) (ns : List Kd) : Prop
  | mk (ms : _) (hh1 : ms.map (·.k) = ns) (hh2 : Tbl m ms) (σ' : _) (hh3 : ev theP (.call 53 [.ref p,.tup (ns.map fun k => .str k.name),.int m]) d ρ σ = some ⟨.tup [.ref σ.length,.ref (σ.length + 1)],.nxt,ρ,σ'⟩) (hh4 : Gw sc p σ (a + ns.length) σ') (hh5 : σ.length + 2 <= σ'.length) (hh6 : σ'[σ.length]? = some (.list ((keyT true ms).map pv))) (hh7 : σ'[σ.length + 1]? = some (.list (ms.map Cm.box))) : law_key_ok_o sc σ p a d ρ m ns
theorem law_key_ok (hs : Scr sc) (hl : sc.length <= 63) {m : Nat} (hm : 0 < m) (hm4 : m <= 4) (ns : List Kd) (hn : ns.length < 90) (ha : a + ns.length < 1000000) (hp : σ[p]? = some (pn sc a)) (hd : d < 38) :
    law_key_ok_o sc σ p a d ρ m ns := by
  have hpl := (List.getElem?_eq_some_iff.mp hp).1
  have hp2 : (σ ++ [O.list []] ++ [O.list []])[p]? = some (pn sc a) := by rw [List.append_assoc,List.getElem?_append_left hpl]; exact hp
  obtain ⟨ms,e1,e2,y5,y6,y7,y8,σ1,l1,r1⟩ := key_loop (d := d + 1) (p := p) (t := σ.length) (b := σ.length + 1) (nm := .tup (ns.map fun k => .str k.name)) hs hl hm hm4 (by omega) (by omega) (by omega) (by omega) ns [] a (σ ++ [O.list []] ++ [O.list []]) .undef .undef .undef .undef ha (fun _ h => by simp at h) (by simp; omega) hp2 (by simp [keyT]) (by simp)
  refine ⟨ms,e1,e2,σ1,?_,⟨r1.gp,?_,fun k h1 h2 => ?_⟩,?_,by simpa using r1.gt,by simpa using r1.gb⟩
  · rw [call_of _ _ _ fn_law_key (by omega) rfl]
    simp only [List.append_assoc,List.cons_append,List.nil_append] at l1
    simp [c_law_key_eq,maxLen,l1]
  · have := r1.gl; simp at this; omega
  · rw [r1.go k h1 (by omega) (by omega) (by simp; omega)]
    rw [List.append_assoc,List.getElem?_append_left h2]
  · have := r1.gl; simp at this; omega
end
noncomputable def wordC (c : Nat) : Bool := [97,98,99,100,101,102,103,104,105,106,107,108,109,110,111,112,113,114,115,116,117,118,119,120,121,122,65,66,67,68,69,70,71,72,73,74,75,76,77,78,79,80,81,82,83,84,85,86,87,88,89,90,48,49,50,51,52,53,54,55,56,57,95,46,58,42,43,45,47].contains c
noncomputable def wordW (w : List Nat) : Bool := w.all wordC && !(w.head? == some 58) && !(w.getLast? == some 58) && !(w == []) && !(w == [46]) && !(w == [47])
noncomputable def okT (x : List Nat × List Nat) : Bool := (x.2.length < 20) && x.2.all (fun c => c < 200) && ((x.1 == kSign && [[123],[125],[44],[46],[124],[58]].contains x.2) || (x.1 == kString && x.2.all (fun c => c != 34 && c != 10) && !(x.2 == [46]) && !(x.2 == [58])) || (x.1 == kWord && wordW x.2) || (x.1 == kEnd && x.2 == [59]))
noncomputable def cc : Bool -> List (List Nat × List Nat) -> Option Bool
  | p,[] => some p
  | p,x :: r => if x.2 = [58] then (if p then none else cc true r) else cc false r
theorem cc_app : ∀ (a b : List (List Nat × List Nat)) (p : Bool),cc p (a ++ b) = (cc p a).bind (cc · b)
  | [],b,p => rfl
  | x :: r,b,p => by
    simp only [cc,List.cons_append]
    split
    · split
      · rfl
      · exact cc_app r b true
    · exact cc_app r b false
noncomputable def nc (l : List (List Nat × List Nat)) : Bool := l.all fun x => x.2 != [58]
theorem cc_nc : ∀ (l : List (List Nat × List Nat)) (p : Bool),nc l = true -> cc p l = some (if l.isEmpty then p else false)
  | [],p,_ => rfl
  | x :: r,p,h => by
    simp only [nc,List.all_cons,Bool.and_eq_true] at h
    have hx : ¬ x.2 = [58] := by simpa using h.1
    have := cc_nc r false h.2
    simp [cc,hx,this]
theorem nc_app (a b : List (List Nat × List Nat)) : nc (a ++ b) = (nc a && nc b) := by simp [nc]
noncomputable def elT : S := match c_law_element with
  | .seq _ (.seq a _) => a
  | _ => .skip
noncomputable def elI : S := match c_law_element with
  | .seq _ (.seq _ (.seq a _)) => a
  | _ => .skip
noncomputable def elC : S := match c_law_element with
  | .seq _ (.seq _ (.seq _ (.seq a _))) => a
  | _ => .skip
noncomputable def elJ : S := match c_law_element with
  | .seq _ (.seq _ (.seq _ (.seq _ (.seq a _)))) => a
  | _ => .skip
noncomputable def elR : S := match c_law_element with
  | .seq _ (.seq _ (.seq _ (.seq _ (.seq _ a)))) => a
  | _ => .skip
theorem c_law_element_eq : c_law_element = .seq (.asgT [3,4] (.call 53 (.cons (.loc 0) (.cons (.loc 1) (.cons (.cInt (4)) .nil))))) (.seq elT (.seq elI (.seq elC (.seq elJ elR)))) := rfl
noncomputable def tmTab : Nat -> Option (List Nat × Int)
  | 0 => none
  | 1 => some ([49,109,49,115],61000)
  | _ => some ([53,115,53,48,48,109,115],5500)
noncomputable def cmtTab : Nat -> Option (List Nat × List Nat)
  | 0 => none
  | 1 => some (kString,[97,44,32,125,32,35,32,98])
  | 2 => some (kWord,[120,46,121])
  | _ => some (kString,[])
noncomputable def cmS : Option (List Nat × List Nat) -> List Nat
  | none => []
  | some p => p.1
section
variable {sc : List V} {σ σ' : List O} {p t b a : Nat} {d : Nat} {ρ : List V} {xs ys : List V}
theorem G3.refl (hp : σ[p]? = some (pn sc a)) (ht : σ[t]? = some (.list xs)) (hb : σ[b]? = some (.list ys)) : G3 sc p t b σ a xs ys σ := ⟨hp,ht,hb,Nat.le_refl _,fun _ _ _ _ _ => rfl⟩
inductive el_tm_o (sc : List V) (σ : List O) (p : Nat) (t : Nat) (b : Nat) (a : Nat) (d : Nat) (xs : List V) (ys : List V) (nm : V) (dv : V) (x5 : V) (x6 : V) (x7 : V) (x8 : V) (x9 : V) (x10 : V) : Prop
  | mk (n : _) (hh1 : n < 3) (σ' : _) (hh2 : (∀ r,evS theP (.seq elT (.seq elI r)) d [.ref p,nm,dv,.ref t,.ref b,x5,x6,x7,x8,x9,x10] σ = evS theP r d [.ref p,nm,dv,.ref t,.ref b,.int (tmV (tmTab n)),x6,x7,x8,x9,x10] σ')) (hh3 : G3 sc p t b σ (a + 1) (xs ++ (tmT (tmTab n)).map pv) ys σ') : el_tm_o sc σ p t b a d xs ys nm dv x5 x6 x7 x8 x9 x10
theorem el_tm (hs : Scr sc) (hl : sc.length <= 63) (ha : a < 1000000) (hpt : p ≠ t) (hpb : p ≠ b) (htb : t ≠ b) (hx : xs.length < 900) {nm dv x5 x6 x7 x8 x9 x10 : V}
    (hp : σ[p]? = some (pn sc a)) (ht : σ[t]? = some (.list xs)) (hb : σ[b]? = some (.list ys)) (hd : d < 39) :
    el_tm_o sc σ p t b a d xs ys nm dv x5 x6 x7 x8 x9 x10 := by
  obtain ⟨n,hn,l1⟩ := draw_ok (σ := σ) (p := p) (d := d) (ρ := [.ref p,nm,dv,.ref t,.ref b,x5,x6,x7,x8,x9,x10]) hs hl hp ha (m := 3) (by decide) (by omega)
  have r0 := G3.refl hp ht hb
  have r1 := r0.setP hpt hpb (a + 1)
  have r1t := r1.gt
  have r2 := r1.setT hpt htb (xs ++ (tmT (tmTab n)).map pv)
  have hlt : xs.length + 2 < maxLen := by simp only [maxLen]; omega
  have l3 : 3 <= maxLen := by decide
  have l2 : 2 <= maxLen := by decide
  generalize σ.set p (pn sc (a + 1)) = σ1 at *
  match n,hn with
  | 0,_ =>
    refine ⟨0,by decide,σ1,fun r => ?_,by simpa [tmTab,tmT] using r1⟩
    simp at l1
    simp [elT,elI,c_law_element,l1,tmV,tmTab,l3]
  | 1,_ =>
    refine ⟨1,by decide,_,fun r => ?_,r2⟩
    simp at l1
    simp [elT,elI,c_law_element,l1,tmV,tmTab,tmT,pv,r1t,l3,l2,hlt]
  | 2,_ =>
    refine ⟨2,by decide,_,fun r => ?_,r2⟩
    simp at l1
    simp [elT,elI,c_law_element,l1,tmV,tmTab,tmT,pv,r1t,l3,l2,hlt]
inductive el_cm_o (sc : List V) (σ : List O) (p : Nat) (t : Nat) (b : Nat) (a : Nat) (d : Nat) (xs : List V) (ys : List V) (nm : V) (dv : V) (x6 : V) (x7 : V) (x8 : V) (x9 : V) (x10 : V) (tm : Int) : Prop
  | mk (n : _) (hh1 : n < 4) (σ' : _) (hh2 : (∀ r,evS theP (.seq elC (.seq elJ r)) d [.ref p,nm,dv,.ref t,.ref b,.int tm,x6,x7,x8,x9,x10] σ = evS theP r d [.ref p,nm,dv,.ref t,.ref b,.int tm,.str (cmS (cmtTab n)),.str (cmV (cmtTab n)),x8,x9,x10] σ')) (hh3 : G3 sc p t b σ (a + 1) (xs ++ (cmT (cmtTab n)).map pv) ys σ') : el_cm_o sc σ p t b a d xs ys nm dv x6 x7 x8 x9 x10 tm
theorem el_cm (hs : Scr sc) (hl : sc.length <= 63) (ha : a < 1000000) (hpt : p ≠ t) (hpb : p ≠ b) (htb : t ≠ b) (hx : xs.length < 900) {nm dv x6 x7 x8 x9 x10 : V} {tm : Int}
    (hp : σ[p]? = some (pn sc a)) (ht : σ[t]? = some (.list xs)) (hb : σ[b]? = some (.list ys)) (hd : d < 39) :
    el_cm_o sc σ p t b a d xs ys nm dv x6 x7 x8 x9 x10 tm := by
  obtain ⟨n,hn,l1⟩ := draw_ok (σ := σ) (p := p) (d := d) (ρ := [.ref p,nm,dv,.ref t,.ref b,.int tm,x6,x7,x8,x9,x10]) hs hl hp ha (m := 4) (by decide) (by omega)
  have r0 := G3.refl hp ht hb
  have r1 := r0.setP hpt hpb (a + 1)
  have r1t := r1.gt
  have r2 := r1.setT hpt htb (xs ++ (cmT (cmtTab n)).map pv)
  have hlt : xs.length + 2 < maxLen := by simp only [maxLen]; omega
  have l4 : 4 <= maxLen := by decide
  have l2 : 2 <= maxLen := by decide
  generalize σ.set p (pn sc (a + 1)) = σ1 at *
  match n,hn with
  | 0,_ =>
    refine ⟨0,by decide,σ1,fun r => ?_,by simpa [cmtTab,cmT] using r1⟩
    simp at l1
    simp [elC,elJ,c_law_element,l1,cmV,cmS,cmtTab,l4,l2]
  | 1,_ =>
    refine ⟨1,by decide,_,fun r => ?_,r2⟩
    simp at l1
    simp [elC,elJ,c_law_element,l1,cmV,cmS,cmT,pv,cmtTab,l4,l2,r1t,hlt]
  | 2,_ =>
    refine ⟨2,by decide,_,fun r => ?_,r2⟩
    simp at l1
    simp [elC,elJ,c_law_element,l1,cmV,cmS,cmT,pv,cmtTab,l4,l2,r1t,hlt]
  | 3,_ =>
    refine ⟨3,by decide,_,fun r => ?_,r2⟩
    simp at l1
    simp [elC,elJ,c_law_element,l1,cmV,cmS,cmT,pv,cmtTab,l4,l2,r1t,hlt]
end
inductive Dn where
  | no
  | vd
  | key (ns : List Kd)
noncomputable def Dn.g : Dn -> V
  | .no => .none
  | .vd => .str [118,101,114,100,105,99,116]
  | .key ns => .tup (ns.map fun k => .str k.name)
@[simp] theorem ck_g (x : Dn) : chk x.g = some x.g := by cases x <;> rfl
@[simp] theorem so_g (x : Dn) : isSome' x.g = true := by cases x <;> rfl
noncomputable def Dn.k : Dn -> V
  | .no => .none
  | .vd => .str [118,101,114,100,105,99,116]
  | .key ns => .tup (ns.map (·.v))
noncomputable def Dn.Ok : Dn -> Prop
  | .key ns => ns ≠ [] /\ ns.length <= 2
  | _ => True
noncomputable def vdTab : Nat -> Vd
  | 0 => .drop
  | 1 => .goto
  | _ => .cont
theorem cmTab_good (k : Kd) (n : Nat) : (cmTab k n).toks.all okT = true /\ nc (cmTab k n).toks = true := by
  match k,n with
  | .ip,0 => decide
  | .ip,1 => decide
  | .ip,2 => decide
  | .ip,n + 3 => exact (by decide : (cmTab .ip 3).toks.all okT = true /\ nc (cmTab .ip 3).toks = true)
  | .sv,0 => decide
  | .sv,1 => decide
  | .sv,2 => decide
  | .sv,n + 3 => exact (by decide : (cmTab .sv 3).toks.all okT = true /\ nc (cmTab .sv 3).toks = true)
  | .fl,0 => decide
  | .fl,1 => decide
  | .fl,2 => decide
  | .fl,n + 3 => exact (by decide : (cmTab .fl 3).toks.all okT = true /\ nc (cmTab .fl 3).toks = true)
theorem Tbl.good {m : Nat} : ∀ {ms : List Cm} (f : Bool),Tbl m ms -> (keyT f ms).all okT = true /\ nc (keyT f ms) = true
  | [],true,_ => ⟨rfl,rfl⟩
  | [],false,_ => ⟨rfl,rfl⟩
  | x :: r,f,h => by
    obtain ⟨k,n,_,rfl⟩ := h x (by simp)
    have g := cmTab_good k n
    have i := Tbl.good false (fun y hy => h y (by simp [hy]) : Tbl m r)
    rw [keyT_cons]
    have e : (dot f).all okT = true /\ nc (dot f) = true := by cases f <;> decide
    simp only [List.all_append,nc_app,g.1,g.2,i.1,i.2,e.1,e.2,Bool.and_self,and_self]
section
variable {sc : List V} {σ σ' : List O} {p t b a : Nat} {d : Nat} {ρ : List V} {xs ys : List V}
theorem vd_comp (x : Vd) {vs : List V} (h : x.v = .tup vs) (hd : d <= 40) : ∃ ρ',ev theP (.comp none [0] (.vals vs) (.tup (.cons (.cStr [119,111,114,100]) (.cons (.loc 0) .nil))) (.cmp .ne (.loc 0) (.cStr [])) []) d [.undef] σ = some ⟨.lst (x.toks.map pv),.nxt,ρ',σ⟩ := by
  cases x <;> cases h
  · exact ⟨[.str []],closed (n := 100) (d := 40) (by kernel_rfl) hd⟩
  · exact ⟨[.str [99,50]],closed (n := 100) (d := 40) (by kernel_rfl) hd⟩
  · exact ⟨[.str []],closed (n := 100) (d := 40) (by kernel_rfl) hd⟩
theorem comp_low {i : Nat} {ms : List Cm} (hi : σ[i]? = some (.list (ms.map Cm.box))) (hm : ms.length < 1000) : ∀ (n k : Nat) (acc : List V) (u v : V),k + n = ms.length -> acc.length = k →
    ∃ ρ',ev theP (.comp none [0,1] (.ref i k) (.loc 0) (.cBool true) acc) d [u,v] σ = some ⟨.lst (acc ++ (ms.drop k).map fun m => V.int m.lo'),.nxt,ρ',σ⟩
  | 0,k,acc,u,v,e,ea => by
    refine ⟨[u,v],?_⟩
    rw [l_comp]
    have : k = ms.length := by omega
    subst this
    have nx := nx_e hi
    rw [List.length_map] at nx
    simp [nx]
  | n + 1,k,acc,u,v,e,ea => by
    have hk : k < ms.length := by omega
    obtain ⟨ρ',ih⟩ := comp_low hi hm n (k + 1) (acc ++ [.int ms[k].lo']) (.int ms[k].lo') (.int ms[k].hi') (by omega) (by simp [ea])
    refine ⟨ρ',?_⟩
    rw [l_comp]
    have hlt : acc.length < maxLen := by simp only [maxLen]; omega
    have hg : (ms.map Cm.box)[k]? = some (.tup [.int ms[k].lo',.int ms[k].hi']) := by simp [hk,Cm.box]
    have nx := nx_r hi hg
    simp [nx,enumV,hlt,ih]
    have hdr := List.drop_eq_getElem_cons (show k < (List.map (fun m => V.int m.lo') ms).length by simpa using hk)
    rw [hdr]
    simp
structure Gr (sc : List V) (p t : Nat) (σ : List O) (a : Nat) (σ' : List O) : Prop where
  gp : σ'[p]? = some (pn sc a)
  gl : σ.length <= σ'.length
  go : ∀ k,k ≠ p -> k ≠ t -> k < σ.length -> σ'[k]? = σ[k]?
theorem elR_eq : elR = (.seq (.iff (.cmp .is (.loc 2) .cNone) (.ret (.tup (.cons (.loc 3) (.cons (.tup (.cons (.tupleOf (.loc 4)) (.cons .cNone (.cons (.loc 5) (.cons (.loc 7) .nil))))) .nil)))) .skip) (.seq (.ex (.append (.loc 3) (.tup (.cons (.cStr [115,105,103,110]) (.cons (.cStr [58]) .nil))))) (.seq (.iff (.cmp .eq (.loc 2) (.cStr [118,101,114,100,105,99,116])) (.seq (.asg 8 (.idx (.tup (.cons (.tup (.cons (.cStr [100,114,111,112]) (.cons (.cStr []) .nil))) (.cons (.tup (.cons (.cStr [103,111,116,111]) (.cons (.cStr [99,50]) .nil))) (.cons (.tup (.cons (.cStr [99,111,110,116,105,110,117,101]) (.cons (.cStr []) .nil))) .nil)))) (.call 51 (.cons (.loc 0) (.cons (.cInt (3)) .nil))))) (.seq (.ex (.extend (.loc 3) (.comp 1 [0] (.loc 8) (.tup (.cons (.cStr [119,111,114,100]) (.cons (.loc 0) .nil))) (.cmp .ne (.loc 0) (.cStr []))))) (.ret (.tup (.cons (.loc 3) (.cons (.tup (.cons (.tupleOf (.loc 4)) (.cons (.loc 8) (.cons (.loc 5) (.cons (.loc 7) .nil))))) .nil)))))) .skip) (.seq (.asgT [9,10] (.call 53 (.cons (.loc 0) (.cons (.loc 2) (.cons (.cInt (2)) .nil))))) (.ret (.tup (.cons (.bin .add (.loc 3) (.loc 9)) (.cons (.tup (.cons (.tupleOf (.loc 4)) (.cons (.tupleOf (.comp 2 [0,1] (.loc 10) (.loc 0) (.cBool true))) (.cons (.loc 5) (.cons (.loc 7) .nil))))) .nil)))))))) := rfl
inductive el_rest_o (sc : List V) (σ : List O) (p : Nat) (t : Nat) (b : Nat) (a : Nat) (d : Nat) (xs : List V) (ys : List V) (dn : Dn) (nm : V) (tm : Int) (cs : List Nat) (cv : List Nat) : Prop
  | mk (o : Option Dt) (hh1 : (∀ x,o = some x -> x.Ok)) (hh2 : dtK o = dn.k) (hh3 : (dtT o).all okT = true) (hh4 : cc false (dtT o) = some false) (hh5 : (dtT o).length <= 13) (a' : _) (tv : _) (ρ' : _) (σ' : _) (hh6 : a' <= a + 2) (hh7 : evS theP elR d [.ref p,nm,dn.g,.ref t,.ref b,.int tm,.str cs,.str cv,.undef,.undef,.undef] σ = some ⟨.tup [tv,.tup [.tup ys,dtV o,.int tm,.str cv]],.ret,ρ',σ'⟩) (hh8 : Gr sc p t σ a' σ') (hh9 : (tv = .ref t /\ σ'[t]? = some (.list (xs ++ (dtT o).map pv)) \/ tv = .lst (xs ++ (dtT o).map pv))) : el_rest_o sc σ p t b a d xs ys dn nm tm cs cv
theorem el_rest (hs : Scr sc) (hl : sc.length <= 63) (dn : Dn) (hdn : dn.Ok) (ha : a < 900000) (hpt : p ≠ t) (hpb : p ≠ b) (htb : t ≠ b) (hx : xs.length < 900) {nm : V} {tm : Int} {cs cv : List Nat}
    (hp : σ[p]? = some (pn sc a)) (ht : σ[t]? = some (.list xs)) (hb : σ[b]? = some (.list ys)) (hd : d < 37) :
    el_rest_o sc σ p t b a d xs ys dn nm tm cs cv := by
  have l4 : 4 <= maxLen := by decide
  have l3 : 3 <= maxLen := by decide
  have l2 : 2 <= maxLen := by decide
  have r0 := G3.refl hp ht hb
  have r1 := r0.setT hpt htb (xs ++ [.tup [.str kSign,.str [58]]])
  have r1p := r1.gp
  have hlt : xs.length < maxLen := by simp only [maxLen]; omega
  cases dn with
  | no =>
    refine ⟨none,fun x h => (by cases h),rfl,rfl,rfl,by decide,a,.ref t,[.ref p,nm,Dn.no.g,.ref t,.ref b,.int tm,.str cs,.str cv,.undef,.undef,.undef],σ,by omega,?_,⟨hp,Nat.le_refl _,fun _ _ _ _ => rfl⟩,Or.inl ⟨rfl,by simpa [dtT] using ht⟩⟩
    simp [elR_eq,Dn.g,hb,l4,l2,dtV]
  | vd =>
    obtain ⟨n,hn,e1⟩ := draw_ok (d := d) (ρ := [.ref p,nm,.str [118,101,114,100,105,99,116],.ref t,.ref b,.int tm,.str cs,.str cv,.undef,.undef,.undef]) hs hl r1p (by omega) (m := 3) (by decide) (by omega)
    have r2 := r1.setP hpt hpb (a + 1)
    have r2t := r2.gt
    have r3 := r2.setT hpt htb (xs ++ (dtT (some (.vd (vdTab n)))).map pv)
    have r3b := r3.gb
    refine ⟨some (.vd (vdTab n)),fun x h => by cases h; trivial,rfl,?_,?_,?_,a + 1,.ref t,[.ref p,nm,.str [118,101,114,100,105,99,116],.ref t,.ref b,.int tm,.str cs,.str cv,(vdTab n).v,.undef,.undef],_,by omega,?_,⟨r3.gp,r3.gl,fun k h1 h2 h3 => ?_⟩,Or.inl ⟨rfl,r3.gt⟩⟩
    · refine c3 hn ?_ ?_ ?_
      · decide
      · decide
      · decide
    · refine c3 hn ?_ ?_ ?_
      · decide
      · decide
      · decide
    · refine c3 hn ?_ ?_ ?_
      · decide
      · decide
      · decide
    · have hit : item (.tup [.tup [.str [100,114,111,112],.str []],.tup [.str [103,111,116,111],.str [99,50]],.tup [.str [99,111,110,116,105,110,117,101],.str []]]) (.int n) = some (vdTab n).v := by
        refine c3 hn ?_ ?_ ?_
        · rfl
        · rfl
        · rfl
      have hv : isSome' (vdTab n).v = true := by
        refine c3 hn ?_ ?_ ?_
        · rfl
        · rfl
        · rfl
      have hvt : ∃ vs,(vdTab n).v = .tup vs := by
        refine c3 hn ?_ ?_ ?_
        · exact ⟨_,rfl⟩
        · exact ⟨_,rfl⟩
        · exact ⟨_,rfl⟩
      have hL : (vdTab n).toks.length <= 2 := by
        refine c3 hn ?_ ?_ ?_
        · decide
        · decide
        · decide
      have hlt2 : xs.length + 1 + (vdTab n).toks.length < maxLen := by simp only [maxLen]; omega
      obtain ⟨vs,hvs⟩ := hvt
      obtain ⟨ρ',e2⟩ := vd_comp (d := d) (σ := (σ.set t (.list (xs ++ [.tup [.str kSign,.str [58]]]))).set p (pn sc (a + 1))) (vdTab n) hvs (by omega)
      simp only [dtV,Dt.v]
      rw [hvs] at hit hv ⊢
      rw [elR_eq]
      have e3 : (xs ++ [V.tup [.str kSign,.str [58]]]) ++ (vdTab n).toks.map pv = xs ++ (dtT (some (.vd (vdTab n)))).map pv := by simp [dtT,pv,Dt.toks]
      have hlt3 : (xs ++ [V.tup [.str kSign,.str [58]]]).length + ((vdTab n).toks.map pv).length < maxLen := by simp; omega
      rw [← e3] at r3b ⊢
      simp at e1
      generalize hxx : xs ++ [V.tup [.str kSign,.str [58]]] = xx at *
      simp only [kSign] at hxx
      simp [Dn.g,ht,hlt,l4,l2,l3,hxx,e1]
      generalize (σ.set t (O.list xx)).set p (pn sc (a + 1)) = σ1 at *
      simp only [List.length_map] at hlt3
      simp [hit,e2,r2t,hlt3,l4,l3,l2,r3b]
    · by_cases hkb : k = b
      · subst hkb; rw [r3.gb,hb]
      · exact r3.go k h1 h2 hkb h3
  | key ns =>
    obtain ⟨ms,e1,e2,σ2,e3,g2,h2,t2,b2⟩ := law_key_ok (d := d) (ρ := [.ref p,nm,.tup (ns.map fun k => .str k.name),.ref t,.ref b,.int tm,.str cs,.str cv,.undef,.undef,.undef]) hs hl (m := 2) (by decide) (by decide) ns (by have := hdn.2; omega) (by have := hdn.2; omega) r1p (by omega)
    have hlen : ms.length = ns.length := by rw [← e1]; simp
    have tl := (List.getElem?_eq_some_iff.mp ht).1
    have bl := (List.getElem?_eq_some_iff.mp hb).1
    have tt : σ2[t]? = some (.list (xs ++ [.tup [.str kSign,.str [58]]])) := by rw [g2.go t (Ne.symm hpt) (by simpa using tl)]; exact r1.gt
    have bb : σ2[b]? = some (.list ys) := by rw [g2.go b (Ne.symm hpb) (by simpa using bl)]; exact r1.gb
    have hk6 := keyT_len ms true e2.len
    have hne : ms ≠ [] := by rintro rfl; simp at hlen; exact hdn.1 (List.length_eq_zero_iff.mp hlen.symm)
    obtain ⟨ρ3,e4⟩ := comp_low (d := d) b2 (by have := hdn.2; omega) ms.length 0 [] .undef .undef (by omega) rfl
    refine ⟨some (.key ms),fun x h => ?_,?_,?_,?_,?_,a + ns.length,.lst (xs ++ (dtT (some (.key ms))).map pv),[.ref p,nm,.tup (ns.map fun k => .str k.name),.ref t,.ref b,.int tm,.str cs,.str cv,.undef,.ref σ.length,.ref (σ.length + 1)],σ2,by have := hdn.2; omega,?_,⟨g2.gp,by have := g2.gl; simpa using this,fun k h1 h2 h3 => ?_⟩,Or.inr rfl⟩
    · cases h
      refine ⟨fun m hm => ?_,by have := hdn.2; omega⟩
      obtain ⟨k,n,hn,rfl⟩ := e2 m hm
      exact (cmTab_va k n hn).1
    · rw [← e1]; simp [dtK,Dt.kinds,Dn.k]
    · have := (e2.good true).1
      simp only [dtT,Dt.toks,List.all_cons,this,Bool.and_true]; decide
    · have h5 := (e2.good true).2
      have h6 : (keyT true ms).isEmpty = false := by
        obtain ⟨w,r,h⟩ := keyT_head hne
        rw [h]; rfl
      simp only [dtT,Dt.toks,cc,if_true]
      rw [cc_nc _ _ h5,h6]; rfl
    · have := hdn.2
      simp only [dtT,Dt.toks,List.length_cons]; omega
    · have hsz : (xs.length + 1 + (keyT true ms).length) <= maxLen := by have := hdn.2; simp only [maxLen]; omega
      simp only [List.length_set,pn] at e3 t2 b2 e4
      rw [elR_eq]
      simp [Dn.g,ht,hlt,l4,l2,l3]
      try simp at e3
      try simp at t2
      try simp at b2
      try simp at e4
      simp [e3,tt,t2,hsz,bb,b2,e4,l4,l2,dtV,Dt.v,dtT,Dt.toks,pv]
    · rw [g2.go k h1 (by simpa using h3),List.getElem?_set_ne (Ne.symm h2)]
end
section
variable {sc : List V} {σ σ' : List O} {p t b a : Nat} {d : Nat} {ρ : List V} {xs ys : List V}
theorem tm_good (n : Nat) : (tmT (tmTab n)).all okT = true /\ nc (tmT (tmTab n)) = true /\ (tmT (tmTab n)).length <= 2 /\ ∀ q,tmTab n = some q -> TimeOk q.1 q.2 := by
  match n with
  | 0 => exact ⟨rfl,rfl,by decide,fun q h => by cases h⟩
  | 1 => exact ⟨by decide,by decide,by decide,fun q h => by cases h; exact ti_1m1s⟩
  | n + 2 => exact ⟨(by decide : (tmT (tmTab 2)).all okT = true),(by decide : nc (tmT (tmTab 2)) = true),(by decide : (tmT (tmTab 2)).length <= 2),fun q h => by cases h; exact ti_5s⟩
theorem cm_good (n : Nat) : (cmT (cmtTab n)).all okT = true /\ nc (cmT (cmtTab n)) = true /\ (cmT (cmtTab n)).length <= 2 /\ ∀ q,cmtTab n = some q -> (q.1 = kWord \/ q.1 = kString) /\ q.2.length <= 128 := by
  match n with
  | 0 => exact ⟨rfl,rfl,by decide,fun q h => by cases h⟩
  | 1 => exact ⟨by decide,by decide,by decide,fun q h => by cases h; exact ⟨Or.inr rfl,by decide⟩⟩
  | 2 => exact ⟨by decide,by decide,by decide,fun q h => by cases h; exact ⟨Or.inl rfl,by decide⟩⟩
  | n + 3 => exact ⟨(by decide : (cmT (cmtTab 3)).all okT = true),(by decide : nc (cmT (cmtTab 3)) = true),(by decide : (cmT (cmtTab 3)).length <= 2),fun q h => by cases h; exact ⟨Or.inr rfl,by decide⟩⟩
inductive law_element_ok_o (sc : List V) (σ : List O) (p : Nat) (a : Nat) (d : Nat) (ρ : List V) (ns : List Kd) (dn : Dn) : Prop
  | mk (e : El) (hh1 : e.Ok) (hh2 : e.ms ≠ []) (hh3 : V.tup (e.ms.map (·.k.v)) = V.tup (ns.map (·.v))) (hh4 : dtK e.dt = dn.k) (hh5 : e.toks.all okT = true) (hh6 : cc false e.toks = some false) (hh7 : e.toks.length <= 29) (a' : _) (tv : _) (σ' : _) (hh8 : a' <= a + 6) (hh9 : ev theP (.call 54 [.ref p,.tup (ns.map fun k => .str k.name),dn.g]) d ρ σ = some ⟨.tup [tv,e.v],.nxt,ρ,σ'⟩) (hh10 : Gw sc p σ a' σ') (hh11 : ((∃ t,tv = .ref t /\ σ'[t]? = some (.list (e.toks.map pv))) \/ tv = .lst (e.toks.map pv))) : law_element_ok_o sc σ p a d ρ ns dn
theorem law_element_ok (hs : Scr sc) (hl : sc.length <= 63) (ns : List Kd) (hn : ns ≠ []) (hn2 : ns.length <= 2) (dn : Dn) (hdn : dn.Ok) (ha : a < 800000) (hp : σ[p]? = some (pn sc a)) (hd : d < 36) :
    law_element_ok_o sc σ p a d ρ ns dn := by
  have hpl := (List.getElem?_eq_some_iff.mp hp).1
  have hg : isSome' dn.g = true := by cases dn <;> rfl
  obtain ⟨ms,e1,e2,σ1,e3,g1,h1,t1,b1⟩ := law_key_ok (d := d + 1) (ρ := [.ref p,.tup (ns.map fun k => .str k.name),dn.g,.undef,.undef,.undef,.undef,.undef,.undef,.undef,.undef]) hs hl (m := 4) (by decide) (by decide) ns (by omega) (by omega) hp (by omega)
  have hlen : ms.length = ns.length := by rw [← e1]; simp
  have hk6 := keyT_len ms true e2.len
  have hpt : p ≠ σ.length := by omega
  have hpb : p ≠ σ.length + 1 := by omega
  have htb : σ.length ≠ σ.length + 1 := by omega
  obtain ⟨n,hn3,σ2,l2,g2⟩ := el_tm (d := d + 1) (nm := .tup (ns.map fun k => .str k.name)) (dv := dn.g) (x5 := .undef) (x6 := .undef) (x7 := .undef) (x8 := .undef) (x9 := .undef) (x10 := .undef) hs hl (by omega) hpt hpb htb (by simp; omega) g1.gp t1 b1 (by omega)
  have tg := tm_good n
  obtain ⟨k,hk4,σ3,l3,g3⟩ := el_cm (d := d + 1) (nm := .tup (ns.map fun k => .str k.name)) (dv := dn.g) (tm := tmV (tmTab n)) (x6 := .undef) (x7 := .undef) (x8 := .undef) (x9 := .undef) (x10 := .undef) hs hl (by omega) hpt hpb htb (by simp; omega) g2.gp g2.gt g2.gb (by omega)
  have cg := cm_good k
  obtain ⟨o,o1,o2,o3,o4,o5,a',tv,ρ',σ4,q1,l4,g4,q2⟩ := el_rest (d := d + 1) (nm := .tup (ns.map fun k => .str k.name)) (tm := tmV (tmTab n)) (cs := cmS (cmtTab k)) (cv := cmV (cmtTab k)) hs hl dn hdn (by omega) hpt hpb htb (by simp; omega) g3.gp g3.gt g3.gb (by omega)
  have kg := e2.good true
  have hne : ms ≠ [] := by rintro rfl; simp at hlen; exact hn (List.length_eq_zero_iff.mp hlen.symm)
  have hkv : V.tup (ms.map (·.k.v)) = V.tup (ns.map (·.v)) := by rw [← e1]; simp
  refine ⟨⟨ms,tmTab n,cmtTab k,o⟩,⟨fun m hm => ?_,by simp; omega,tg.2.2.2,cg.2.2.2,o1⟩,hne,hkv,o2,?_,?_,?_,a',tv,σ4,by omega,?_,⟨g4.gp,?_,fun j hj1 hj2 => ?_⟩,?_⟩
  · obtain ⟨k,n,_,rfl⟩ := e2 m hm
    exact cmTab_ok k n
  · simp only [El.toks,List.all_append,kg.1,tg.1,cg.1,o3,Bool.and_self]
  · simp only [El.toks,cc_app]
    rw [cc_nc _ _ kg.2]
    simp only [ite_self,Option.bind_some]
    rw [cc_nc _ _ tg.2.1]
    simp only [ite_self,Option.bind_some]
    rw [cc_nc _ _ cg.2.1]
    simp only [ite_self,Option.bind_some]
    exact o4
  · simp only [El.toks,List.length_append]
    omega
  · rw [call_of _ _ _ fn_law_element (by omega) (by simp [argsOk,hg])]
    have l5 := l2 (.seq elC (.seq elJ elR))
    rw [l3 elR,l4] at l5
    rw [c_law_element_eq]
    generalize (S.seq elT (.seq elI (.seq elC (.seq elJ elR)))) = rest at *
    simp at e3
    simp [hg,e3,l5,El.v]
  · have := g1.gl; have := g2.gl; have := g3.gl; have := g4.gl; omega
  · have := g1.gl; have := g2.gl; have := g3.gl
    rw [g4.go j hj1 (by omega) (by omega),g3.go j hj1 (by omega) (by omega) (by omega),g2.go j hj1 (by omega) (by omega) (by omega),g1.go j hj1 hj2]
  · have e5 : (keyT true ms).map pv ++ (tmT (tmTab n)).map pv ++ (cmT (cmtTab k)).map pv ++ (dtT o).map pv = (El.toks ⟨ms,tmTab n,cmtTab k,o⟩).map pv := by simp [El.toks]
    rw [e5] at q2
    rcases q2 with ⟨q2,q3⟩ | q2
    · exact Or.inl ⟨_,q2,q3⟩
    · exact Or.inr q2
end
noncomputable def gv (g : G) : V := .tup [.str g.1,.str g.2.1,.bool g.2.2]
noncomputable def un (g : G) : List Nat × List Nat := (g.1,g.2.1)
noncomputable def Feeds (σ : List O) : It -> List V -> Prop
  | it,[] => it.next σ = some none
  | it,x :: r => ∃ it',it.next σ = some (some (x,it')) /\ Feeds σ it' r
theorem Feeds.vals (σ : List O) : ∀ xs : List V,Feeds σ (.vals xs) xs
  | [] => rfl
  | x :: r => ⟨.vals r,rfl,Feeds.vals σ r⟩
theorem Feeds.refAt {σ : List O} {i : Nat} {xs : List V} (h : σ[i]? = some (.list xs)) : ∀ (n k : Nat),k + n = xs.length -> Feeds σ (.ref i k) (xs.drop k)
  | 0,k,e => by
    have : k = xs.length := by omega
    subst this
    rw [List.drop_length]
    exact nx_e h
  | n + 1,k,e => by
    have hk : k < xs.length := by omega
    rw [List.drop_eq_getElem_cons hk]
    exact ⟨.ref i (k + 1),nx_r h (List.getElem?_eq_getElem hk),Feeds.refAt h n (k + 1) (by omega)⟩
theorem Feeds.ref {σ : List O} {i : Nat} {xs : List V} (h : σ[i]? = some (.list xs)) : Feeds σ (.ref i 0) xs := Feeds.refAt h xs.length 0 (by omega)
noncomputable abbrev tagE : X := .tup (.cons (.idx (.loc 1) (.cInt (0))) (.cons (.idx (.loc 1) (.cInt (1))) (.cons (.cmp .eq (.loc 0) (.cInt (0))) .nil)))
section
variable {sc : List V} {σ σ' : List O} {p t b a : Nat} {d : Nat} {ρ : List V} {xs ys : List V}
theorem comp_tagF : ∀ (l : List (List Nat × List Nat)) (it : It) (n : Nat) (acc : List V) (u v : V),Feeds σ it (l.map pv) -> 0 < n -> acc.length + l.length < 10000 →
    ∃ ρ',ev theP (.comp (some n) [0,1] it tagE (.cBool true) acc) d [u,v] σ = some ⟨.lst (acc ++ (tagF l).map gv),.nxt,ρ',σ⟩
  | [],it,n,acc,u,v,h,hn,hl => by
    refine ⟨[u,v],?_⟩
    rw [l_comp]
    simp only [Feeds,List.map_nil] at h
    simp [h,tagF]
  | x :: r,it,n,acc,u,v,h,hn,hl => by
    obtain ⟨it',h1,h2⟩ := h
    have hlt : acc.length < maxLen := by simp at hl; simp only [maxLen]; omega
    obtain ⟨ρ',ih⟩ := comp_tagF r it' (n + 1) (acc ++ [gv (x.1,x.2,false)]) (.int n) (pv x) h2 (by omega) (by simp at hl ⊢; omega)
    refine ⟨ρ',?_⟩
    rw [l_comp]
    have hn' : ((n : Int) == 0) = false := by simp; omega
    simp only [gv,pv] at ih h1
    simp [h1,enumV,hlt,hn',show 3 <= maxLen by decide,pv]
    simp at ih
    rw [ih]
    simp [tagF,gv]
theorem comp_tag (l : List (List Nat × List Nat)) (it : It) (u v : V) (h : Feeds σ it (l.map pv)) (hl : l.length < 10000) :
    ∃ ρ',ev theP (.comp (some 0) [0,1] it tagE (.cBool true) []) d [u,v] σ = some ⟨.lst ((tag l).map gv),.nxt,ρ',σ⟩ := by
  cases l with
  | nil =>
    refine ⟨[u,v],?_⟩
    rw [l_comp]
    simp only [Feeds,List.map_nil] at h
    simp [h,tag]
  | cons x r =>
    obtain ⟨it',h1,h2⟩ := h
    obtain ⟨ρ',ih⟩ := comp_tagF (d := d) r it' 1 [gv (x.1,x.2,true)] (.int 0) (pv x) h2 (by omega) (by simp at hl ⊢; omega)
    refine ⟨ρ',?_⟩
    rw [l_comp]
    simp only [gv,pv] at ih h1
    simp [h1,enumV,show 3 <= maxLen by decide,show 0 < maxLen by decide,pv]
    simp at ih
    rw [ih]
    simp [tag,gv]
inductive Sq (ks dv : V) (h : Nat) : List G -> List V -> Prop
  | one {g : List G} {l : List V} (q : PT ks dv 0 h true g l) : Sq ks dv h g l
  | more {g g' : List G} {l l' : List V} (q : PT ks dv 0 h true g l) (q' : Sq ks dv h g' l') : Sq ks dv h (g ++ (kSign,[44],true) :: g') (l ++ l')
theorem Sq.pt {ks dv : V} {h : Nat} {g : List G} {l : List V} (q : Sq ks dv h g l) : PT ks dv 1 h true g l := by
  induction q with
  | one q => exact .last q
  | more q q' ih => exact .more q ih
theorem Sq.ptc {ks dv : V} {h : Nat} {g : List G} {l : List V} (q : Sq ks dv h g l) : PT ks dv 1 h true (g ++ [(kSign,[44],true)]) l := by
  induction q with
  | one q =>
    have := PT.more q (PT.nil (ks := ks) (dv := dv) (h := h))
    simpa using this
  | more q q' ih =>
    rw [List.append_assoc]
    exact .more q ih
noncomputable def Gd (g : List G) : Prop := (g.map un).all okT = true /\ cc false (g.map un) = some false
theorem Gd.app {g g' : List G} (h : Gd g) (h' : Gd g') : Gd (g ++ g') := by
  refine ⟨by simp only [List.map_append,List.all_append,h.1,h'.1,Bool.and_self],?_⟩
  rw [List.map_append,cc_app,h.2]
  exact h'.2
theorem un_tagF (l : List (List Nat × List Nat)) : (tagF l).map un = l := by
  simp [tagF,un,Function.comp_def]
theorem un_tag (l : List (List Nat × List Nat)) : (tag l).map un = l := by
  cases l with
  | nil => rfl
  | cons p r => simp only [tag,List.map_cons,un_tagF]; rfl
noncomputable def lbBody : S := match c_law_braces with
  | .seq _ (.seq _ (.seq _ (.seq (.forR _ _ _ b) _))) => b
  | _ => .skip
noncomputable def lbItem : S := match lbBody with
  | .seq _ b => b
  | _ => .skip
theorem lbItem_eq : lbItem = (.iff (.and (.cmp .lt (.loc 3) (.cInt (2))) (.cmp .eq (.call 51 (.cons (.loc 0) (.cons (.cInt (3)) .nil))) (.cInt (0)))) (.seq (.asgT [8,9] (.call 55 (.cons (.loc 0) (.cons (.loc 1) (.cons (.loc 2) (.cons (.bin .add (.loc 3) (.cInt (1))) .nil)))))) (.seq (.ex (.extend (.loc 4) (.loc 8))) (.ex (.extend (.loc 5) (.loc 9))))) (.seq (.asgT [10,11] (.call 54 (.cons (.loc 0) (.cons (.loc 1) (.cons (.loc 2) .nil))))) (.seq (.ex (.extend (.loc 4) (.compE 2 [0,1] (.loc 10) tagE (.cBool true)))) (.ex (.append (.loc 5) (.loc 11)))))) := rfl
theorem lbBody_eq : lbBody = .seq (.iff (.cmp .gt (.loc 7) (.cInt (0))) (.ex (.append (.loc 4) (.tup (.cons (.cStr [115,105,103,110]) (.cons (.cStr [44]) (.cons (.cBool true) .nil)))))) .skip) lbItem := rfl
noncomputable def Bd : Nat -> Nat
  | 0 => 100
  | r + 1 => 3 * (Bd r + 2) + 3
inductive LB_o (sc : List V) (ns : List Kd) (dn : Dn) (r D d : Nat) (ρ : List V) (σ : List O) (p a : Nat) : Prop
  | mk (g : List G) (l : List V) (h1 : PT (.tup (ns.map (·.v))) dn.k 2 (r + 1) (decide (0 < D)) g l) (h2 : Gd g) (h3 : g.length <= Bd r) (h4 : l.length <= Bd r) (a' i j : Nat) (σ' : List O) (h5 : a' <= a + Bd r)
      (h6 : ev theP (.call 55 [.ref p,.tup (ns.map fun k => .str k.name),dn.g,.int D]) d ρ σ = some ⟨.tup [.ref i,.ref j],.nxt,ρ,σ'⟩) (h7 : Gw sc p σ a' σ') (h8 : σ'[i]? = some (.list (g.map gv))) (h9 : σ'[j]? = some (.list l)) (h10 : σ.length <= i) (h11 : σ.length <= j) (h12 : i ≠ j) : LB_o sc ns dn r D d ρ σ p a
noncomputable def LB (sc : List V) (ns : List Kd) (dn : Dn) (r : Nat) : Prop := ∀ (D d : Nat) (ρ : List V) (σ : List O) (p a : Nat),D + r = 2 -> d + r < 33 -> a + Bd r < 500000 -> σ[p]? = some (pn sc a) -> LB_o sc ns dn r D d ρ σ p a
theorem Gw.g3 (h : Gw sc p σ a σ') {t b : Nat} (hpt : p ≠ t) (hpb : p ≠ b) (ht : σ[t]? = some (.list xs)) (hb : σ[b]? = some (.list ys)) : G3 sc p t b σ a xs ys σ' :=
  ⟨h.gp,by rw [h.go t (Ne.symm hpt) (List.getElem?_eq_some_iff.mp ht).1]; exact ht,by rw [h.go b (Ne.symm hpb) (List.getElem?_eq_some_iff.mp hb).1]; exact hb,h.gl,fun k h1 h2 h3 h4 => h.go k h1 h4⟩
inductive lb_el_o (sc : List V) (σ : List O) (p : Nat) (t : Nat) (b : Nat) (a : Nat) (d : Nat) (ys : List V) (ns : List Kd) (dn : Dn) (h : Nat) (pre : List G) (D : Int) (m : V) (x7 : V) (x8 : V) (x9 : V) (x10 : V) (x11 : V) : Prop
  | mk (g : _) (l : _) (hh1 : PT (.tup (ns.map (·.v))) dn.k 0 h true g l) (hh2 : Gd g) (hh3 : g.length <= 29) (hh4 : l.length <= 1) (a' : _) (y10 : _) (y11 : _) (σ' : _) (hh5 : a' <= a + 6) (hh6 : evS theP (.seq (.asgT [10,11] (.call 54 (.cons (.loc 0) (.cons (.loc 1) (.cons (.loc 2) .nil))))) (.seq (.ex (.extend (.loc 4) (.compE 2 [0,1] (.loc 10) tagE (.cBool true)))) (.ex (.append (.loc 5) (.loc 11))))) d [.ref p,.tup (ns.map fun k => .str k.name),dn.g,.int D,.ref t,.ref b,m,x7,x8,x9,x10,x11] σ = some ⟨.none,.nxt,[.ref p,.tup (ns.map fun k => .str k.name),dn.g,.int D,.ref t,.ref b,m,x7,x8,x9,y10,y11],σ'⟩) (hh7 : G3 sc p t b σ a' ((pre ++ g).map gv) (ys ++ l) σ') : lb_el_o sc σ p t b a d ys ns dn h pre D m x7 x8 x9 x10 x11
theorem lb_el (hs : Scr sc) (hl : sc.length <= 63) (ns : List Kd) (hn : ns ≠ []) (hn2 : ns.length <= 2) (dn : Dn) (hdn : dn.Ok) {h : Nat} {pre : List G} {D : Int} {m x7 x8 x9 x10 x11 : V} (ha : a < 800000) (hpt : p ≠ t) (hpb : p ≠ b) (htb : t ≠ b) (hx : pre.length < 5000) (hy : ys.length < 5000)
    (hp : σ[p]? = some (pn sc a)) (ht : σ[t]? = some (.list (pre.map gv))) (hb : σ[b]? = some (.list ys)) (hd : d < 35) :
    lb_el_o sc σ p t b a d ys ns dn h pre D m x7 x8 x9 x10 x11 := by
  obtain ⟨e,e1,e2,e3,e4,e5,e6,e7,a',tv,σ1,h1,l1,g1,q1⟩ := law_element_ok (d := d) (ρ := [.ref p,.tup (ns.map fun k => .str k.name),dn.g,.int D,.ref t,.ref b,m,x7,x8,x9,x10,x11]) hs hl ns hn hn2 dn hdn ha hp (by omega)
  have r1 := g1.g3 hpt hpb ht hb
  have r2 := r1.setT hpt htb ((pre ++ tag e.toks).map gv)
  have r3 := r2.setB hpb htb (ys ++ [e.v])
  have r1t := r1.gt
  have r2b := r2.gb
  have tl : (tag e.toks).length = e.toks.length := by
    have := congrArg List.length (un_tag e.toks)
    simpa using this
  have hg : getLoc [.ref p,.tup (ns.map fun k => .str k.name),dn.g,.int D,.ref t,.ref b,m,x7,x8,x9,x10,x11] 2 = some dn.g := by cases dn <;> rfl
  refine ⟨tag e.toks,[e.v],.el e e1 e2 e3 e4,⟨by rw [un_tag]; exact e5,by rw [un_tag]; exact e6⟩,by omega,by simp,a',tv,e.v,_,h1,?_,r3⟩
  have hlt : pre.length + (tag e.toks).length < maxLen := by simp only [maxLen]; omega
  have hlt2 : ys.length < maxLen := by simp only [maxLen]; omega
  have ev_s : isSome' e.v = true := rfl
  obtain ⟨c1,c2,c3⟩ : ∃ it,itOf σ1 tv = some it /\ isSeq tv = true /\ isSome' tv = true /\ Feeds σ1 it (e.toks.map pv) := by
    rcases q1 with ⟨i,rfl,q⟩ | rfl
    · exact ⟨.ref i 0,by simp [q],rfl,rfl,Feeds.ref q⟩
    · exact ⟨.vals _,rfl,rfl,rfl,Feeds.vals _ _⟩
  obtain ⟨c4,c5,c6⟩ := c3
  obtain ⟨ρ',ct⟩ := comp_tag (d := d) e.toks c1 .undef .undef c6 (by omega)
  have g10 : getLoc [.ref p,.tup (ns.map fun k => .str k.name),dn.g,.int D,.ref t,.ref b,m,x7,x8,x9,tv,e.v] 10 = some tv := by
    rcases q1 with ⟨i,rfl,q⟩ | rfl <;> rfl
  have g11 : getLoc [.ref p,.tup (ns.map fun k => .str k.name),dn.g,.int D,.ref t,.ref b,m,x7,x8,x9,tv,e.v] 11 = some e.v := rfl
  have g4 : getLoc [.ref p,.tup (ns.map fun k => .str k.name),dn.g,.int D,.ref t,.ref b,m,x7,x8,x9,tv,e.v] 4 = some (.ref t) := rfl
  have g5 : getLoc [.ref p,.tup (ns.map fun k => .str k.name),dn.g,.int D,.ref t,.ref b,m,x7,x8,x9,tv,e.v] 5 = some (.ref b) := rfl
  have g0 : getLoc [.ref p,.tup (ns.map fun k => .str k.name),dn.g,.int D,.ref t,.ref b,m,x7,x8,x9,x10,x11] 0 = some (.ref p) := rfl
  have g1' : getLoc [.ref p,.tup (ns.map fun k => .str k.name),dn.g,.int D,.ref t,.ref b,m,x7,x8,x9,x10,x11] 1 = some (.tup (ns.map fun k => .str k.name)) := rfl
  have dl : ∀ σ xs,deref σ (.lst xs) = some (.lst xs) := fun _ _ => rfl
  simp only [tagE] at ct
  simp at r2b
  simp [l1,c5,ev_s,chk_ok c5,c2,c4,r1t,ct,dl,hlt,g5,r2b,g11,hlt2]
end
noncomputable def Xb : Nat -> Nat
  | 0 => 29
  | r + 1 => Bd r
theorem Bd_ge : ∀ r,100 <= Bd r
  | 0 => by simp [Bd]
  | r + 1 => by have := Bd_ge r; simp only [Bd]; omega
theorem Xb_ge : ∀ r,29 <= Xb r
  | 0 => by simp [Xb]
  | r + 1 => by have := Bd_ge r; simp only [Xb]; omega
theorem Bd_Xb : ∀ r,3 * (Xb r + 2) + 3 <= Bd r
  | 0 => by simp [Xb,Bd]
  | r + 1 => by simp only [Xb,Bd]; omega
section
variable {sc : List V} {σ σ' : List O} {p t b a : Nat} {d : Nat} {ρ : List V} {xs ys : List V}
inductive lb_in_o (sc : List V) (σ : List O) (p : Nat) (t : Nat) (b : Nat) (a : Nat) (d : Nat) (ys : List V) (r : Nat) (ns : List Kd) (dn : Dn) (pre : List G) (D : Nat) (m : V) (x7 : V) (x8 : V) (x9 : V) (x10 : V) (x11 : V) : Prop
  | mk (g : _) (l : _) (hh1 : PT (.tup (ns.map (·.v))) dn.k 0 (r + 1) true g l) (hh2 : Gd g) (hh3 : g.length <= Bd r) (hh4 : l.length <= Bd r) (a' : _) (y8 : _) (y9 : _) (σ' : _) (hh5 : a' <= a + Bd r) (hh6 : evS theP (.seq (.asgT [8,9] (.call 55 (.cons (.loc 0) (.cons (.loc 1) (.cons (.loc 2) (.cons (.bin .add (.loc 3) (.cInt (1))) .nil)))))) (.seq (.ex (.extend (.loc 4) (.loc 8))) (.ex (.extend (.loc 5) (.loc 9))))) d [.ref p,.tup (ns.map fun k => .str k.name),dn.g,.int D,.ref t,.ref b,m,x7,x8,x9,x10,x11] σ = some ⟨.none,.nxt,[.ref p,.tup (ns.map fun k => .str k.name),dn.g,.int D,.ref t,.ref b,m,x7,y8,y9,x10,x11],σ'⟩) (hh7 : G3 sc p t b σ a' ((pre ++ g).map gv) (ys ++ l) σ') : lb_in_o sc σ p t b a d ys r ns dn pre D m x7 x8 x9 x10 x11
theorem lb_in {r : Nat} {ns : List Kd} {dn : Dn} (ih : LB sc ns dn r) (hdg : isSome' dn.g = true) {pre : List G} {D : Nat} {m x7 x8 x9 x10 x11 : V} (hD : D + 1 + r = 2) (ha : a + Bd r < 500000) (hpt : p ≠ t) (hpb : p ≠ b) (htb : t ≠ b) (hx : pre.length < 5000) (hy : ys.length < 5000) (hB : Bd r < 5000)
    (hp : σ[p]? = some (pn sc a)) (ht : σ[t]? = some (.list (pre.map gv))) (hb : σ[b]? = some (.list ys)) (hd : d + r < 33) :
    lb_in_o sc σ p t b a d ys r ns dn pre D m x7 x8 x9 x10 x11 := by
  obtain ⟨g,l,q1,q2,q3,q4,a',i,j,σ1,h1,l1,g1,gi,gj,li,lj,lij⟩ := ih (D + 1) d [.ref p,.tup (ns.map fun k => .str k.name),dn.g,.int D,.ref t,.ref b,m,x7,x8,x9,x10,x11] σ p a (by omega) hd ha hp
  have hdt : decide (0 < D + 1) = true := by simp
  rw [hdt] at q1
  have tl := (List.getElem?_eq_some_iff.mp ht).1
  have bl := (List.getElem?_eq_some_iff.mp hb).1
  have r1 := g1.g3 hpt hpb ht hb
  have r2 := r1.setT hpt htb ((pre ++ g).map gv)
  have r3 := r2.setB hpb htb (ys ++ l)
  have r1t := r1.gt
  have r2b := r2.gb
  have gj2 : (σ1.set t (.list ((pre ++ g).map gv)))[j]? = some (.list l) := by rw [List.getElem?_set_ne (by omega)]; exact gj
  refine ⟨g,l,.inner q1,q2,q3,q4,a',.ref i,.ref j,_,h1,?_,r3⟩
  have hg : getLoc [.ref p,.tup (ns.map fun k => .str k.name),dn.g,.int D,.ref t,.ref b,m,x7,x8,x9,x10,x11] 2 = some dn.g := by cases dn <;> rfl
  have hlt : pre.length + g.length < maxLen := by simp only [maxLen]; omega
  have hlt2 : ys.length + l.length < maxLen := by simp only [maxLen]; omega
  have g0 : getLoc [.ref p,.tup (ns.map fun k => .str k.name),dn.g,.int D,.ref t,.ref b,m,x7,x8,x9,x10,x11] 0 = some (.ref p) := rfl
  have g1' : getLoc [.ref p,.tup (ns.map fun k => .str k.name),dn.g,.int D,.ref t,.ref b,m,x7,x8,x9,x10,x11] 1 = some (.tup (ns.map fun k => .str k.name)) := rfl
  have g3 : getLoc [.ref p,.tup (ns.map fun k => .str k.name),dn.g,.int D,.ref t,.ref b,m,x7,x8,x9,x10,x11] 3 = some (.int D) := rfl
  have di : ∀ σ k,deref σ (.int k) = some (.int k) := fun _ _ => rfl
  have bo : binop .add (.int D) (.int 1) = some (.int ((D + 1 : Nat) : Int)) := by simp
  simp [g0,g1',hg,g3,di,bo]
  rw [show ((D + 1 : Nat) : Int) = (D : Int) + 1 by push_cast; rfl] at l1
  simp at r2b gj2
  simp [l1,show ∀ a b c d e f g h i j k l,getLoc [a,b,c,d,.ref e,f,g,h,i,j,k,l] 4 = some (.ref e) from fun _ _ _ _ _ _ _ _ _ _ _ _ => rfl,show ∀ a b c d f g h i j k l e,getLoc [a,b,c,d,f,.ref e,g,h,i,j,k,l] 5 = some (.ref e) from fun _ _ _ _ _ _ _ _ _ _ _ _ => rfl,show ∀ a b c d f g h i j k l e,getLoc [a,b,c,d,f,g,h,i,.ref e,j,k,l] 8 = some (.ref e) from fun _ _ _ _ _ _ _ _ _ _ _ _ => rfl,show ∀ a b c d f g h i j k l e,getLoc [a,b,c,d,f,g,h,i,j,.ref e,k,l] 9 = some (.ref e) from fun _ _ _ _ _ _ _ _ _ _ _ _ => rfl,r1t,gi,hlt,r2b,gj2,hlt2]
inductive lb_item_o (sc : List V) (σ : List O) (p : Nat) (t : Nat) (b : Nat) (a : Nat) (d : Nat) (ys : List V) (ns : List Kd) (dn : Dn) (r : Nat) (pre : List G) (D : Nat) (m : V) (x7 : V) (x8 : V) (x9 : V) (x10 : V) (x11 : V) : Prop
  | mk (g : _) (l : _) (hh1 : PT (.tup (ns.map (·.v))) dn.k 0 r true g l) (hh2 : Gd g) (hh3 : g.length <= Xb r) (hh4 : l.length <= Xb r) (a' : _) (y8 : _) (y9 : _) (y10 : _) (y11 : _) (σ' : _) (hh5 : a' <= a + (Xb r + 1)) (hh6 : evS theP lbItem d [.ref p,.tup (ns.map fun k => .str k.name),dn.g,.int D,.ref t,.ref b,m,x7,x8,x9,x10,x11] σ = some ⟨.none,.nxt,[.ref p,.tup (ns.map fun k => .str k.name),dn.g,.int D,.ref t,.ref b,m,x7,y8,y9,y10,y11],σ'⟩) (hh7 : G3 sc p t b σ a' ((pre ++ g).map gv) (ys ++ l) σ') : lb_item_o sc σ p t b a d ys ns dn r pre D m x7 x8 x9 x10 x11
theorem lb_item (hs : Scr sc) (hl : sc.length <= 63) (ns : List Kd) (hn : ns ≠ []) (hn2 : ns.length <= 2) (dn : Dn) (hdn : dn.Ok) {r : Nat} (ih : ∀ r',r = r' + 1 -> LB sc ns dn r') {pre : List G} {D : Nat} {m x7 x8 x9 x10 x11 : V} (hD : D + r = 2) (ha : a + (Xb r + 1) < 500000) (hpt : p ≠ t) (hpb : p ≠ b) (htb : t ≠ b) (hx : pre.length < 5000) (hy : ys.length < 5000)
    (hp : σ[p]? = some (pn sc a)) (ht : σ[t]? = some (.list (pre.map gv))) (hb : σ[b]? = some (.list ys)) (hd : d + r < 34) :
    lb_item_o sc σ p t b a d ys ns dn r pre D m x7 x8 x9 x10 x11 := by
  have hdg : isSome' dn.g = true := by cases dn <;> rfl
  have g0 : getLoc [.ref p,.tup (ns.map fun k => .str k.name),dn.g,.int D,.ref t,.ref b,m,x7,x8,x9,x10,x11] 0 = some (.ref p) := rfl
  have g3 : getLoc [.ref p,.tup (ns.map fun k => .str k.name),dn.g,.int D,.ref t,.ref b,m,x7,x8,x9,x10,x11] 3 = some (.int D) := rfl
  have di : ∀ σ k,deref σ (.int k) = some (.int k) := fun _ _ => rfl
  cases r with
  | zero =>
    obtain ⟨g,l,q1,q2,q3,q4,a',y10,y11,σ1,h1,l1,g1⟩ := lb_el (h := 0) (D := D) (d := d) (m := m) (x7 := x7) (x8 := x8) (x9 := x9) (x10 := x10) (x11 := x11) hs hl ns hn hn2 dn hdn (by omega) hpt hpb htb hx hy hp ht hb (by omega)
    refine ⟨g,l,q1,q2,q3,by simp only [Xb]; omega,a',x8,x9,y10,y11,σ1,by simp only [Xb]; omega,?_,g1⟩
    have hD2 : ¬ (D : Int) < 2 := by omega
    rw [lbItem_eq]
    generalize (S.seq (.asgT [10,11] (.call 54 (.cons (.loc 0) (.cons (.loc 1) (.cons (.loc 2) .nil))))) (.seq (.ex (.extend (.loc 4) (.compE 2 [0,1] (.loc 10) tagE (.cBool true)))) (.ex (.append (.loc 5) (.loc 11))))) = A at *
    simp [g3,di,hD2,l1]
  | succ r' =>
    have hB : Bd r' < 5000 := by
      match r',hD with
      | 0,_ => decide
      | 1,_ => decide
      | n + 2,h => omega
    obtain ⟨k,hk,l0⟩ := draw_ok (σ := σ) (p := p) (d := d) (ρ := [.ref p,.tup (ns.map fun k => .str k.name),dn.g,.int D,.ref t,.ref b,m,x7,x8,x9,x10,x11]) hs hl hp (by omega) (m := 3) (by decide) (by omega)
    have r0 := (G3.refl hp ht hb).setP hpt hpb (a + 1)
    have hD2 : (D : Int) < 2 := by omega
    simp at l0
    by_cases k0 : k = 0
    · subst k0
      obtain ⟨g,l,q1,q2,q3,q4,a',y8,y9,σ1,h1,l1,g1⟩ := lb_in (ih r' rfl) hdg (m := m) (x7 := x7) (x8 := x8) (x9 := x9) (x10 := x10) (x11 := x11) (D := D) (d := d) (by omega) (by simp only [Xb] at ha; omega) hpt hpb htb hx hy hB r0.gp r0.gt r0.gb (by omega)
      refine ⟨g,l,q1,q2,q3,q4,a',y8,y9,x10,x11,σ1,by simp only [Xb]; omega,?_,r0.trans g1⟩
      rw [lbItem_eq]
      generalize (S.seq (.asgT [8,9] (.call 55 (.cons (.loc 0) (.cons (.loc 1) (.cons (.loc 2) (.cons (.bin .add (.loc 3) (.cInt (1))) .nil)))))) (.seq (.ex (.extend (.loc 4) (.loc 8))) (.ex (.extend (.loc 5) (.loc 9))))) = A at *
      generalize σ.set p (pn sc (a + 1)) = σ0 at *
      simp at l0
      simp [g3,g0,di,hD2,l0,l1]
    · obtain ⟨g,l,q1,q2,q3,q4,a',y10,y11,σ1,h1,l1,g1⟩ := lb_el (h := r' + 1) (D := D) (d := d) (m := m) (x7 := x7) (x8 := x8) (x9 := x9) (x10 := x10) (x11 := x11) hs hl ns hn hn2 dn hdn (by omega) hpt hpb htb hx hy r0.gp r0.gt r0.gb (by omega)
      have := Bd_ge r'
      refine ⟨g,l,q1,q2,by simp only [Xb]; omega,by simp only [Xb]; omega,a',x8,x9,y10,y11,σ1,by simp only [Xb]; omega,?_,r0.trans g1⟩
      rw [lbItem_eq]
      generalize (S.seq (.asgT [10,11] (.call 54 (.cons (.loc 0) (.cons (.loc 1) (.cons (.loc 2) .nil))))) (.seq (.ex (.extend (.loc 4) (.compE 2 [0,1] (.loc 10) tagE (.cBool true)))) (.ex (.append (.loc 5) (.loc 11))))) = A at *
      generalize σ.set p (pn sc (a + 1)) = σ0 at *
      simp [g3,g0,di,hD2,l0,l1,show ((k : Int) == 0) = false by simpa using k0]
theorem Gd.comma : Gd [(kSign,[44],true)] := by constructor <;> decide
theorem Gd.open' (f : Bool) : Gd [(kSign,[123],f)] := by cases f <;> constructor <;> decide
theorem Gd.close : Gd [(kSign,[125],true)] := by constructor <;> decide
theorem Gd.nil : Gd [] := by constructor <;> decide
noncomputable def rng (k n : Nat) : List V := (List.range' k n).map fun (j : Nat) => V.int (j : Int)
theorem rangeV_rng (n : Nat) : rangeV 0 (n : Int) = rng 0 n := by
  simp [rangeV,rng,List.range_eq_range']
inductive lb_loop_o (sc : List V) (p : Nat) (t : Nat) (b : Nat) (d : Nat) (ns : List Kd) (dn : Dn) (r : Nat) (D : Nat) (m : V) (n : Nat) (k : Nat) (pre : List G) (ys : List V) (a : Nat) (σ : List O) (x7 : V) (x8 : V) (x9 : V) (x10 : V) (x11 : V) : Prop
  | mk (g : _) (l : _) (hh1 : (n = 0 -> g = [] /\ l = [])) (hh2 : (0 < n -> ∃ g0,g = (if k = 0 then g0 else (kSign,[44],true) :: g0) /\ Sq (.tup (ns.map (·.v))) dn.k r g0 l)) (hh3 : Gd g) (hh4 : g.length <= n * (Xb r + 1)) (hh5 : l.length <= n * Xb r) (a' : _) (y7 : _) (y8 : _) (y9 : _) (y10 : _) (y11 : _) (σ' : _) (hh6 : a' <= a + n * (Xb r + 1)) (hh7 : ev theP (.iter [7] (.vals (rng k n)) lbBody) d [.ref p,.tup (ns.map fun k => .str k.name),dn.g,.int D,.ref t,.ref b,m,x7,x8,x9,x10,x11] σ = some ⟨.none,.nxt,[.ref p,.tup (ns.map fun k => .str k.name),dn.g,.int D,.ref t,.ref b,m,y7,y8,y9,y10,y11],σ'⟩) (hh8 : G3 sc p t b σ a' ((pre ++ g).map gv) (ys ++ l) σ') : lb_loop_o sc p t b d ns dn r D m n k pre ys a σ x7 x8 x9 x10 x11
theorem lb_loop (hs : Scr sc) (hl : sc.length <= 63) (ns : List Kd) (hn : ns ≠ []) (hn2 : ns.length <= 2) (dn : Dn) (hdn : dn.Ok) {r : Nat} (ih : ∀ r',r = r' + 1 -> LB sc ns dn r') {D : Nat} {m : V} (hD : D + r = 2) (hpt : p ≠ t) (hpb : p ≠ b) (htb : t ≠ b) (hd : d + r < 34) (hX : Xb r < 1000) :
    ∀ (n k : Nat) (pre : List G) (ys : List V) (a : Nat) (σ : List O) (x7 x8 x9 x10 x11 : V),n <= 3 -> a + n * (Xb r + 2) < 500000 -> pre.length + n * (Xb r + 2) < 5000 -> ys.length + n * (Xb r + 2) < 5000 →
    σ[p]? = some (pn sc a) -> σ[t]? = some (.list (pre.map gv)) -> σ[b]? = some (.list ys) →
    lb_loop_o sc p t b d ns dn r D m n k pre ys a σ x7 x8 x9 x10 x11
  | 0,k,pre,ys,a,σ,x7,x8,x9,x10,x11,h3,h4,h5,h6,hp,ht,hb => by
    refine ⟨[],[],fun _ => ⟨rfl,rfl⟩,fun h => absurd h (by decide),Gd.nil,by simp,by simp,a,x7,x8,x9,x10,x11,σ,by omega,?_,by simpa using G3.refl hp ht hb⟩
    rw [l_iter]; simp [rng]
  | n + 1,k,pre,ys,a,σ,x7,x8,x9,x10,x11,h3,h4,h5,h6,hp,ht,hb => by
    have e1 : (n + 1) * (Xb r + 2) = n * (Xb r + 2) + (Xb r + 2) := by rw [Nat.add_mul]; omega
    have e2 : (n + 1) * (Xb r + 1) = n * (Xb r + 1) + (Xb r + 1) := by rw [Nat.add_mul]; omega
    have e3 : (n + 1) * (Xb r) = n * (Xb r) + (Xb r) := by rw [Nat.add_mul]; omega
    rw [e1] at h4 h5 h6
    let cm : List G := if k = 0 then [] else [(kSign,[44],true)]
    have hcm : cm.length <= 1 /\ Gd cm := by
      by_cases hk : k = 0
      · simp only [cm,hk,if_true]; exact ⟨by simp,Gd.nil⟩
      · simp only [cm,hk,if_false]; exact ⟨by simp,Gd.comma⟩
    have hc : ∃ σ0,(∀ y7 : V,y7 = .int (k : Int) -> evS theP lbBody d [.ref p,.tup (ns.map fun k => .str k.name),dn.g,.int D,.ref t,.ref b,m,y7,x8,x9,x10,x11] σ = evS theP lbItem d [.ref p,.tup (ns.map fun k => .str k.name),dn.g,.int D,.ref t,.ref b,m,y7,x8,x9,x10,x11] σ0) /\ G3 sc p t b σ a ((pre ++ cm).map gv) ys σ0 := by
      by_cases hk : k = 0
      · refine ⟨σ,fun y7 hy => ?_,by simpa [cm,hk] using G3.refl hp ht hb⟩
        subst hy; subst hk
        rw [lbBody_eq]
        simp
      · have r1 := (G3.refl hp ht hb).setT hpt htb ((pre ++ [(kSign,[44],true)]).map gv)
        refine ⟨_,fun y7 hy => ?_,by simpa only [cm,hk,if_false] using r1⟩
        subst hy
        have hlt : pre.length < maxLen := by simp only [maxLen]; omega
        have hk2 : (0 : Int) < k := by omega
        have hk3 : 0 < k := by omega
        rw [lbBody_eq]
        simp [hk2,hk3,ht,hlt,show 3 <= maxLen by decide,gv]
    obtain ⟨σ0,c1,r0⟩ := hc
    obtain ⟨g,l,q1,q2,q3,q4,a1,y8,y9,y10,y11,σ1,h1,l1,g1⟩ := lb_item (m := m) (x7 := .int (k : Int)) (x8 := x8) (x9 := x9) (x10 := x10) (x11 := x11) hs hl ns hn hn2 dn hdn ih hD (by omega) hpt hpb htb (by simp; omega) (by omega) r0.gp r0.gt r0.gb hd
    obtain ⟨g',l',p1,p2,p3,p4,p5,a2,z7,z8,z9,z10,z11,σ2,h2,l2,g2⟩ := lb_loop hs hl ns hn hn2 dn hdn ih (m := m) hD hpt hpb htb hd hX n (k + 1) (pre ++ cm ++ g) (ys ++ l) a1 σ1 (.int (k : Int)) y8 y9 y10 y11 (by omega) (by omega) (by simp only [List.length_append]; omega) (by simp only [List.length_append]; omega) g1.gp g1.gt g1.gb
    refine ⟨cm ++ (g ++ g'),l ++ l',fun h => by simp at h,fun _ => ?_,hcm.2.app (q2.app p3),?_,?_,a2,z7,z8,z9,z10,z11,σ2,?_,?_,?_⟩
    · refine ⟨g ++ g',?_,?_⟩
      · by_cases hk : k = 0 <;> simp [cm,hk]
      · cases n with
        | zero =>
          obtain ⟨rfl,rfl⟩ := p1 rfl
          simpa using Sq.one q1
        | succ n =>
          obtain ⟨g0,e4,e5⟩ := p2 (by omega)
          rw [if_neg (by omega)] at e4
          subst e4
          exact .more q1 e5
    · simp only [List.length_append]; omega
    · simp only [List.length_append]; omega
    · omega
    · rw [l_iter]
      have e6 : rng k (n + 1) = V.int (k : Int) :: rng (k + 1) n := by simp [rng,List.range'_succ]
      rw [e6]
      have c2 := c1 _ rfl
      rw [l1] at c2
      simp [c2,l2]
    · have := (r0.trans g1).trans g2
      simpa [List.append_assoc] using this
end
noncomputable def lbEnd : S := match c_law_braces with
  | .seq _ (.seq _ (.seq _ (.seq _ b))) => b
  | _ => .skip
noncomputable def lbMany : X := match c_law_braces with
  | .seq _ (.seq _ (.seq (.asg _ e) _)) => e
  | _ => .nil
theorem c_law_braces_eq : c_law_braces = .seq (.asgNew 4 (.cons (.tup (.cons (.cStr [115,105,103,110]) (.cons (.cStr [123]) (.cons (.cmp .gt (.loc 3) (.cInt (0))) .nil)))) .nil)) (.seq (.asgNew 5 .nil) (.seq (.asg 6 lbMany) (.seq (.forR [7] (.cInt (0)) (.loc 6) lbBody) lbEnd))) := rfl
section
variable {sc : List V} {σ σ' : List O} {p t b a : Nat} {d : Nat} {ρ : List V} {xs ys : List V}
inductive lb_end_o (sc : List V) (σ : List O) (p : Nat) (t : Nat) (b : Nat) (a : Nat) (d : Nat) (ys : List V) (pre : List G) (mn : Nat) (x1 : V) (x2 : V) (x3 : V) (x7 : V) (x8 : V) (x9 : V) (x10 : V) (x11 : V) : Prop
  | mk (tc : _) (a' : _) (σ' : _) (hh1 : (tc = [] \/ (tc = [((kSign,[44],true) : G)] /\ 0 < mn))) (hh2 : a' <= a + 1) (hh3 : evS theP lbEnd d [.ref p,x1,x2,x3,.ref t,.ref b,.int mn,x7,x8,x9,x10,x11] σ = some ⟨.tup [.ref t,.ref b],.ret,[.ref p,x1,x2,x3,.ref t,.ref b,.int mn,x7,x8,x9,x10,x11],σ'⟩) (hh4 : G3 sc p t b σ a' ((pre ++ tc ++ [(kSign,[125],true)]).map gv) ys σ') : lb_end_o sc σ p t b a d ys pre mn x1 x2 x3 x7 x8 x9 x10 x11
theorem lb_end (hs : Scr sc) (hl : sc.length <= 63) {pre : List G} {mn : Nat} {x1 x2 x3 x7 x8 x9 x10 x11 : V} (ha : a < 900000) (hpt : p ≠ t) (hpb : p ≠ b) (htb : t ≠ b) (hx : pre.length < 5000)
    (hp : σ[p]? = some (pn sc a)) (ht : σ[t]? = some (.list (pre.map gv))) (hb : σ[b]? = some (.list ys)) (hd : d < 50) :
    lb_end_o sc σ p t b a d ys pre mn x1 x2 x3 x7 x8 x9 x10 x11 := by
  have r0 := G3.refl hp ht hb
  have hlt : pre.length < maxLen := by simp only [maxLen]; omega
  have hlt2 : pre.length + 1 < maxLen := by simp only [maxLen]; omega
  by_cases hm : mn = 0
  · have r1 := r0.setT hpt htb ((pre ++ [] ++ [(kSign,[125],true)]).map gv)
    refine ⟨[],a,_,Or.inl rfl,by omega,?_,r1⟩
    have hm1 : ¬ (0 : Int) < mn := by omega
    have hm2 : ¬ 0 < mn := by omega
    simp [lbEnd,c_law_braces,hm1,hm2,ht,hlt,show 3 <= maxLen by decide,show 2 <= maxLen by decide,gv]
  · obtain ⟨k,hk,l0⟩ := draw_ok (σ := σ) (p := p) (d := d) (ρ := [.ref p,x1,x2,x3,.ref t,.ref b,.int mn,x7,x8,x9,x10,x11]) hs hl hp (by omega) (m := 2) (by decide) (by omega)
    have r1 := r0.setP hpt hpb (a + 1)
    have r1t := r1.gt
    have hm1 : (0 : Int) < mn := by omega
    have hm2 : 0 < mn := by omega
    simp at l0
    by_cases k0 : k = 0
    · subst k0
      have r2 := r1.setT hpt htb ((pre ++ [(kSign,[44],true)]).map gv)
      have r2t := r2.gt
      have r3 := r2.setT hpt htb ((pre ++ [(kSign,[44],true)] ++ [(kSign,[125],true)]).map gv)
      refine ⟨[(kSign,[44],true)],a + 1,_,Or.inr ⟨rfl,by omega⟩,by omega,?_,r3⟩
      generalize σ.set p (pn sc (a + 1)) = σ1 at *
      simp [gv] at r2t
      simp at l0
      simp [lbEnd,c_law_braces,hm1,hm2,l0,r1t,hlt,hlt2,show 3 <= maxLen by decide,show 2 <= maxLen by decide,gv,r2t]
    · have r3 := r1.setT hpt htb ((pre ++ [] ++ [(kSign,[125],true)]).map gv)
      refine ⟨[],a + 1,_,Or.inl rfl,by omega,?_,r3⟩
      generalize σ.set p (pn sc (a + 1)) = σ1 at *
      simp [lbEnd,c_law_braces,hm1,hm2,l0,show ((k : Int) == 0) = false by simpa using k0,r1t,hlt,show 3 <= maxLen by decide,show 2 <= maxLen by decide,gv]
theorem lb_many (hs : Scr sc) (hl : sc.length <= 63) {D : Nat} (hD : D <= 2) {x1 x2 x4 x5 x6 x7 x8 x9 x10 x11 : V} (ha : a < 900000) (hp : σ[p]? = some (pn sc a)) (hd : d < 50) :
    ∃ mn : Nat,mn <= 3 /\ evX theP lbMany d [.ref p,x1,x2,.int D,x4,x5,x6,x7,x8,x9,x10,x11] σ = some ⟨.int mn,.nxt,[.ref p,x1,x2,.int D,x4,x5,x6,x7,x8,x9,x10,x11],σ.set p (pn sc (a + 1))⟩ := by
  by_cases h0 : D = 0
  · obtain ⟨k,hk,l0⟩ := draw_ok (σ := σ) (p := p) (d := d) (ρ := [.ref p,x1,x2,.int D,x4,x5,x6,x7,x8,x9,x10,x11]) hs hl hp (by omega) (m := 2) (by decide) (by omega)
    refine ⟨3 - k,by omega,?_⟩
    have : ((3 - k : Nat) : Int) = 3 - (k : Int) := by omega
    rw [this]
    subst h0
    simp at l0
    simp [lbMany,c_law_braces,l0]
  · obtain ⟨k,hk,l0⟩ := draw_ok (σ := σ) (p := p) (d := d) (ρ := [.ref p,x1,x2,.int D,x4,x5,x6,x7,x8,x9,x10,x11]) hs hl hp (by omega) (m := 4 - D) (by omega) (by omega)
    refine ⟨k,by omega,?_⟩
    rw [show ((4 - D : Nat) : Int) = 4 - (D : Int) by omega] at l0
    simp [lbMany,c_law_braces,show ((D : Int) == 0) = false by simpa using h0,l0]
theorem lb_step (hs : Scr sc) (hl : sc.length <= 63) (ns : List Kd) (hn : ns ≠ []) (hn2 : ns.length <= 2) (dn : Dn) (hdn : dn.Ok) {r : Nat} (ih : ∀ r',r = r' + 1 -> LB sc ns dn r') (hX : Xb r < 1000) : LB sc ns dn r := by
  intro D d ρ σ p a hD hd ha hp
  have hpl := (List.getElem?_eq_some_iff.mp hp).1
  have hdg : isSome' dn.g = true := by cases dn <;> rfl
  have hBX := Bd_Xb r
  have hBg := Bd_ge r
  have hXg := Xb_ge r
  have hpt : p ≠ σ.length := by omega
  have hpb : p ≠ σ.length + 1 := by omega
  have htb : σ.length ≠ σ.length + 1 := by omega
  have hp0 : (σ ++ [.list ([((kSign,[123],decide (0 < D)) : G)].map gv),.list []])[p]? = some (pn sc a) := by rw [List.getElem?_append_left hpl]; exact hp
  obtain ⟨mn,hmn,l1⟩ := lb_many (d := d + 1) (x1 := .tup (ns.map fun k => .str k.name)) (x2 := dn.g) (x4 := .ref σ.length) (x5 := .ref (σ.length + 1)) (x6 := .undef) (x7 := .undef) (x8 := .undef) (x9 := .undef) (x10 := .undef) (x11 := .undef) hs hl (D := D) (by omega) (by omega) hp0 (by omega)
  have r0 : G3 sc p σ.length (σ.length + 1) (σ ++ [.list ([((kSign,[123],decide (0 < D)) : G)].map gv),.list []]) a ([((kSign,[123],decide (0 < D)) : G)].map gv) [] (σ ++ [.list ([((kSign,[123],decide (0 < D)) : G)].map gv),.list []]) := G3.refl hp0 (by simp) (by simp)
  have r1 := r0.setP hpt hpb (a + 1)
  obtain ⟨g,l,p1,p2,p3,p4,p5,a2,y7,y8,y9,y10,y11,σ2,h2,l2,g2⟩ := lb_loop hs hl ns hn hn2 dn hdn ih (m := .int mn) hD hpt hpb htb (d := d + 1) (by omega) hX mn 0 [(kSign,[123],decide (0 < D))] [] (a + 1) _ .undef .undef .undef .undef .undef (by omega) (by have : mn * (Xb r + 2) <= 3 * (Xb r + 2) := Nat.mul_le_mul_right _ hmn; omega) (by have : mn * (Xb r + 2) <= 3 * (Xb r + 2) := Nat.mul_le_mul_right _ hmn; simp; omega) (by have : mn * (Xb r + 2) <= 3 * (Xb r + 2) := Nat.mul_le_mul_right _ hmn; simp; omega) r1.gp r1.gt r1.gb
  have m1 : mn * (Xb r + 1) <= 3 * (Xb r + 1) := Nat.mul_le_mul_right _ hmn
  have m2 : mn * Xb r <= 3 * Xb r := Nat.mul_le_mul_right _ hmn
  obtain ⟨tc,a3,σ3,c1,h3,l3,g3⟩ := lb_end (d := d + 1) (x1 := .tup (ns.map fun k => .str k.name)) (x2 := dn.g) (x3 := .int D) (mn := mn) (x7 := y7) (x8 := y8) (x9 := y9) (x10 := y10) (x11 := y11) hs hl (by omega) hpt hpb htb (by simp; omega) g2.gp g2.gt g2.gb (by omega)
  have g4 := (r1.trans g2).trans g3
  have htc : tc.length <= 1 /\ Gd tc := by
    rcases c1 with rfl | ⟨rfl,_⟩
    · exact ⟨by simp,Gd.nil⟩
    · exact ⟨by simp,Gd.comma⟩
  refine ⟨(kSign,[123],decide (0 < D)) :: ((g ++ tc) ++ [(kSign,[125],true)]),l,.br ?_,?_,?_,by omega,a3,σ.length,σ.length + 1,σ3,by omega,?_,⟨g4.gp,?_,fun k hk1 hk2 => ?_⟩,?_,?_,by omega,by omega,by omega⟩
  · cases mn with
    | zero =>
      obtain ⟨rfl,rfl⟩ := p1 rfl
      rcases c1 with rfl | ⟨_,h⟩
      · exact .nil
      · omega
    | succ n =>
      obtain ⟨g0,e1,e2⟩ := p2 (by omega)
      simp only [if_true] at e1
      subst e1
      rcases c1 with rfl | ⟨rfl,_⟩
      · simpa using e2.pt
      · exact e2.ptc
  · have := (Gd.open' (decide (0 < D))).app ((p3.app htc.2).app Gd.close)
    simpa using this
  · simp only [List.length_cons,List.length_append,List.length_nil]; omega
  · rw [call_of _ _ _ fn_law_braces (by omega) (by simp [argsOk])]
    rw [c_law_braces_eq]
    have hg3 : ∀ x4 x5,getLoc [.ref p,.tup (ns.map fun k => .str k.name),dn.g,.int D,x4,x5,.undef,.undef,.undef,.undef,.undef,.undef] 3 = some (.int D) := fun _ _ => rfl
    have hg6 : getLoc [.ref p,.tup (ns.map fun k => .str k.name),dn.g,.int D,.ref σ.length,.ref (σ.length + 1),.int mn,.undef,.undef,.undef,.undef,.undef] 6 = some (.int mn) := rfl
    have di : ∀ σ k,deref σ (.int k) = some (.int k) := fun _ _ => rfl
    have hst : V.tup [.str [115,105,103,110],.str [123],.bool (decide ((0 : Int) < D))] = gv (kSign,[123],decide (0 < D)) := by simp [gv,kSign]
    have hsm : small (0 : Int) = true /\ small (mn : Int) = true := by constructor <;> simp [small]; omega
    have hst2 : [gv (kSign,[123],decide (0 < D))] = ([((kSign,[123],decide (0 < D)) : G)].map gv) := rfl
    simp only [rangeV_rng] at *
    simp [hdg,hg3,di,show 3 <= maxLen by decide,show 1 <= maxLen by decide,show 0 <= maxLen by decide,-List.map_cons]
    have hst3 : V.tup [.str [115,105,103,110],.str [123],.bool (decide (0 < D))] = gv (kSign,[123],decide (0 < D)) := by simp [gv,kSign]
    rw [hst3,hst2]
    generalize hQ : (σ ++ [O.list ([((kSign,[123],decide (0 < D)) : G)].map gv),O.list []]) = σ0 at *
    simp [l1,hg6,hsm.1,hsm.2,rangeV_rng,l2,l3]
  · have := g4.gl; simp at this; omega
  · rw [g4.go k hk1 (by omega) (by omega) (by simp; omega),List.getElem?_append_left hk2]
  · have := g4.gt; simpa using this
  · have := g4.gb; simpa using this
theorem lb_all (hs : Scr sc) (hl : sc.length <= 63) (ns : List Kd) (hn : ns ≠ []) (hn2 : ns.length <= 2) (dn : Dn) (hdn : dn.Ok) : LB sc ns dn 2 := by
  have h0 : LB sc ns dn 0 := lb_step hs hl ns hn hn2 dn hdn (fun r' h => by omega) (by decide)
  have h1 : LB sc ns dn 1 := lb_step hs hl ns hn hn2 dn hdn (fun r' h => by cases h; exact h0) (by decide)
  exact lb_step hs hl ns hn hn2 dn hdn (fun r' h => by cases h; exact h1) (by decide)
end
theorem fn_is_word_sign : theP.fn 0 = some ⟨1,1,[],c_is_word_sign⟩ := rfl
theorem fn_run_end : theP.fn 1 = some ⟨2,2,[],c_run_end⟩ := rfl
theorem fn_string_end : theP.fn 2 = some ⟨4,5,[],c_string_end⟩ := rfl
theorem fn_put_run : theP.fn 3 = some ⟨4,5,[],c_put_run⟩ := rfl
theorem fn_read_tokens : theP.fn 4 = some ⟨1,8,[],c_read_tokens⟩ := rfl
theorem fn_law_place : theP.fn 56 = some ⟨1,2,[],c_law_place⟩ := rfl
theorem fn_law_written : theP.fn 57 = some ⟨2,11,[],c_law_written⟩ := rfl
noncomputable def stepC (q : Nat × Nat) (c : Nat) : Nat × Nat := if c = 10 then (q.1 + 1,1) else (q.1,q.2 + 1)
noncomputable def pos (t : List Nat) : Nat × Nat := t.foldl stepC (1,1)
theorem pos_snoc (t : List Nat) (c : Nat) : pos (t ++ [c]) = stepC (pos t) c := by simp [pos]
theorem pos_plain : ∀ (u t : List Nat),(∀ c ∈ u,c ≠ 10) -> pos (t ++ u) = ((pos t).1,(pos t).2 + u.length)
  | [],t,_ => by simp
  | c :: u,t,h => by
    have hc : c ≠ 10 := h c (by simp)
    have := pos_plain u (t ++ [c]) (fun x hx => h x (by simp [hx]))
    rw [show t ++ c :: u = t ++ [c] ++ u by simp,this,pos_snoc]
    simp [stepC,hc]; omega
theorem pos_nl (t : List Nat) : pos (t ++ [10]) = ((pos t).1 + 1,1) := by rw [pos_snoc]; simp [stepC]
theorem split_pos : ∀ (t acc : List Nat) (r : Nat),∃ L z,splitAt 10 acc t = L ++ [z] /\ t.foldl stepC (r,acc.length + 1) = (r + L.length,z.length + 1)
  | [],acc,r => ⟨[],acc,rfl,rfl⟩
  | c :: t,acc,r => by
    by_cases hc : c = 10
    · obtain ⟨L,z,h1,h2⟩ := split_pos t [] (r + 1)
      refine ⟨acc :: L,z,by simp [splitAt,hc,h1],?_⟩
      simp only [List.foldl_cons,stepC,hc,if_true]
      rw [show ((r,acc.length + 1).1 + 1,1) = (r + 1,([] : List Nat).length + 1) from rfl]
      rw [h2]; simp; omega
    · obtain ⟨L,z,h1,h2⟩ := split_pos t (acc ++ [c]) r
      refine ⟨L,z,by simp [splitAt,hc,h1],?_⟩
      simp only [List.foldl_cons,stepC,hc,if_false]
      rw [show ((r,acc.length + 1).1,(r,acc.length + 1).2 + 1) = (r,(acc ++ [c]).length + 1) by simp]
      exact h2
section
variable {σ : List O} {d : Nat} {ρ : List V}
theorem place_ok (t : List Nat) (ht : t.length < 1000000) (hd : d < 59) : ev theP (.call 56 [.str t]) d ρ σ = some ⟨.tup [.int (pos t).1,.int (pos t).2],.nxt,ρ,σ⟩ := by
  obtain ⟨L,z,h1,h2⟩ := split_pos t [] 1
  have h3 : pos t = (1 + L.length,z.length + 1) := h2
  rw [call_of _ _ _ fn_law_place (by omega) rfl,h3]
  have hl : t.length + 2 <= maxLen := by simp only [maxLen]; omega
  have e : (1 + (L.length : Int)) = (L.length : Int) + 1 := by omega
  have im : item (.lst (L.map V.str ++ [.str z])) (.int (-1)) = some (.str z) := by
    show (place (L.map V.str ++ [V.str z]).length (-1)).bind _ = _
    unfold place
    rw [if_neg (by decide),if_pos (by simp; omega)]
    show (L.map V.str ++ [V.str z])[_]? = _
    rw [show (-1 + (((L.map V.str ++ [V.str z]).length : Nat) : Int)).toNat = (L.map V.str).length by simp; omega]
    simp
  simp [c_law_place,hl,h1,im,e]
theorem sm1 : small 1 = true /\ small 2 = true /\ small (-1) = true /\ small (-2) = true := by decide
theorem sl_to2 (s : List Nat) : sliced (.str s) .none (.int 2) = some (.str (s.take 2)) := by
  simp only [sliced,bound,sm1.2.1,if_true,clamp,cut,Option.bind_some,Option.map_some,List.drop_zero]
  rw [if_pos (by decide),show Int.toNat 2 = 2 from rfl]
  rcases Nat.le_total 2 s.length with h | h
  · rw [Nat.min_eq_left h]
  · rw [Nat.min_eq_right h,List.take_length,List.take_of_length_le h]
theorem sl_from1 (s : List Nat) : sliced (.str s) (.int 1) .none = some (.str (s.drop 1)) := by
  simp only [sliced,bound,sm1.1,if_true,clamp,cut,Option.bind_some,Option.map_some,List.take_length]
  rw [if_pos (by decide),show Int.toNat 1 = 1 from rfl]
  rcases Nat.le_total 1 s.length with h | h
  · rw [Nat.min_eq_left h]
  · rw [Nat.min_eq_right h,List.drop_length,List.drop_of_length_le h]
theorem sl_last1 (s : List Nat) (z : Nat) : sliced (.str (s ++ [z])) (.int (-1)) .none = some (.str [z]) := by
  simp only [sliced,bound,sm1.2.2.1,if_true,clamp,cut,Option.bind_some,Option.map_some,List.take_length]
  rw [if_neg (by decide),List.length_append,show (-1 + ((s.length + [z].length : Nat) : Int)).toNat = s.length by simp; omega,List.drop_left]
theorem sl_last2 (s : List Nat) (y z : Nat) : sliced (.str (s ++ [y,z])) (.int (-2)) .none = some (.str [y,z]) := by
  simp only [sliced,bound,sm1.2.2.2,if_true,clamp,cut,Option.bind_some,Option.map_some,List.take_length]
  rw [if_neg (by decide),List.length_append,show (-2 + ((s.length + [y,z].length : Nat) : Int)).toNat = s.length by simp; omega,List.drop_left]
theorem sl_init (s : List Nat) (z : Nat) : sliced (.str (s ++ [z])) .none (.int (-1)) = some (.str s) := by
  have : (-1 + ((s.length : Int) + 1)).toNat = s.length := by omega
  simp [sliced,bound,sm1.2.2.1,clamp,cut,this]
theorem sl_mid (t w u : List Nat) (h : t.length + w.length < 1000000) : sliced (.str (t ++ (w ++ u))) (.int t.length) (.int ((t.length + w.length : Nat) : Int)) = some (.str w) := by
  have h1 : small (t.length : Int) = true := by simp [small]; omega
  have h2 : small ((t.length + w.length : Nat) : Int) = true := by simp only [small,decide_eq_true_eq]; omega
  simp only [sliced,bound,h1,h2,if_true,clamp,Option.bind_some,Option.map_some,cut]
  rw [if_pos (by omega),if_pos (by omega)]
  simp only [Int.toNat_natCast,List.length_append]
  rw [Nat.min_eq_left (by omega),Nat.min_eq_left (by omega)]
  have e : (t ++ (w ++ u)).take (t.length + w.length) = t ++ w := by
    rw [← List.append_assoc,← List.length_append,List.take_left]
  rw [e,List.drop_left]
theorem sl_two (t u : List Nat) (c : Nat) (h : t.length < 1000000) : sliced (.str (t ++ c :: u)) (.int t.length) (.int ((t.length : Int) + 2)) = some (.str (c :: u.take 1)) := by
  have h1 : small (t.length : Int) = true := by simp [small]; omega
  have h2 : small ((t.length : Int) + 2) = true := by simp only [small,decide_eq_true_eq]; omega
  simp only [sliced,bound,h1,h2,if_true,clamp,Option.bind_some,Option.map_some,cut]
  rw [if_pos (by omega),if_pos (by omega)]
  simp only [Int.toNat_natCast,List.length_append,List.length_cons]
  rw [show ((t.length : Int) + 2).toNat = t.length + 2 by omega,Nat.min_eq_left (by omega : t.length <= t.length + (u.length + 1))]
  congr 2
  cases u with
  | nil =>
    rw [Nat.min_eq_right (by simp),List.take_of_length_le (by simp)]
    simp
  | cons x r =>
    rw [Nat.min_eq_left (by simp)]
    simp [List.take_append,List.drop_append]
end
section
variable {σ : List O} {d : Nat} {ρ : List V}
theorem item_at (t u : List Nat) (c : Nat) : item (.str (t ++ c :: u)) (.int (t.length : Int)) = some (.str [c]) := by
  have h : (t.length : Int) < ((t ++ c :: u).length : Nat) := by simp; omega
  simp only [item,place,K_int]
  rw [if_pos (by omega),if_pos h]
  simp
theorem is_word_ok' (c : Nat) (hd : d < 59) : ev theP (.call 0 [.str [c]]) d ρ σ = some ⟨.bool (wordC c),.nxt,ρ,σ⟩ := by
  rw [call_of _ _ _ fn_is_word_sign (by omega) rfl]
  rfl
noncomputable def Brk (u : List Nat) : Prop := ∀ c ∈ u.head?,wordC c = false
theorem run_loop (T : List Nat) (u : List Nat) (hu : Brk u) (hd : d < 58) : ∀ (w t : List Nat),T = t ++ (w ++ u) -> (∀ c ∈ w,wordC c = true) →
    ev theP (.loop (.and (.cmp .lt (.loc 1) (.len (.loc 0))) (.call 0 (.cons (.idx (.loc 0) (.loc 1)) .nil))) (.aug 1 .add (.cInt (1)))) d [.str T,.int (t.length : Int)] σ = some ⟨.none,.nxt,[.str T,.int ((t.length : Int) + w.length)],σ⟩
  | [],t,hT,hw => by
    rw [l_loop]
    subst hT
    cases u with
    | nil => simp
    | cons c r =>
      have hc : wordC c = false := hu c rfl
      have h1 := item_at t r c
      have h2 : (t.length : Int) < (t.length : Int) + ((r.length : Int) + 1) := by omega
      have h3 := fun ρ σ => is_word_ok' (d := d) (ρ := ρ) (σ := σ) c (by omega)
      rw [hc] at h3
      try simp at h1
      simp [h2,h1,h3,show (0 : Int) < (r.length : Int) + 1 by omega]
  | c :: w,t,hT,hw => by
    rw [l_loop]
    have hc : wordC c = true := hw c (by simp)
    have h1 := item_at t (w ++ u) c
    have h3 := fun ρ σ => is_word_ok' (d := d) (ρ := ρ) (σ := σ) c (by omega)
    rw [hc] at h3
    have ih := run_loop T u hu hd w (t ++ [c]) (by rw [hT]; simp) (fun x hx => hw x (by simp [hx]))
    have h2 : (t.length : Int) < (T.length : Int) := by rw [hT]; simp; omega
    have e : item (.str T) (.int (t.length : Int)) = some (.str [c]) := by rw [hT]; exact h1
    simp [h2,e,h3]
    simp at ih
    rw [ih]
    simp; omega
theorem run_end_ok {T t w u : List Nat} (hT : T = t ++ (w ++ u)) (hw : ∀ c ∈ w,wordC c = true) (hu : Brk u) (hd : d < 57) :
    ev theP (.call 1 [.str T,.int (t.length : Int)]) d ρ σ = some ⟨.int ((t.length : Int) + w.length),.nxt,ρ,σ⟩ := by
  have lp := run_loop (d := d + 1) (σ := σ) T u hu (by omega) w t hT hw
  rw [call_of _ _ _ fn_run_end (by omega) rfl]
  simp [c_run_end,lp]
theorem str_loop (T : List Nat) (u : List Nat) {x1 x2 x3 : V} (hd : d < 58) : ∀ (w t : List Nat),T = t ++ (w ++ 34 :: u) -> (∀ c ∈ w,c ≠ 34 /\ c ≠ 10) →
    ev theP (.loop (.and (.cmp .lt (.loc 4) (.len (.loc 0))) (.cmp .ne (.idx (.loc 0) (.loc 4)) (.cStr [10]))) (.seq (.iff (.cmp .eq (.idx (.loc 0) (.loc 4)) (.cStr [34])) (.ret (.bin .add (.loc 4) (.cInt (1)))) .skip) (.aug 4 .add (.cInt (1))))) d [.str T,x1,x2,x3,.int (t.length : Int)] σ = some ⟨.int ((t.length : Int) + w.length + 1),.ret,[.str T,x1,x2,x3,.int ((t.length : Int) + w.length)],σ⟩
  | [],t,hT,hw => by
    rw [l_loop]
    have h2 : (t.length : Int) < (T.length : Int) := by rw [hT]; simp; omega
    have e : item (.str T) (.int (t.length : Int)) = some (.str [34]) := by rw [hT]; exact item_at t u 34
    simp [h2,e]
  | c :: w,t,hT,hw => by
    rw [l_loop]
    have hc := hw c (by simp)
    have ih := str_loop T u (x1 := x1) (x2 := x2) (x3 := x3) hd w (t ++ [c]) (by rw [hT]; simp) (fun x hx => hw x (by simp [hx]))
    have h2 : (t.length : Int) < (T.length : Int) := by rw [hT]; simp; omega
    have e : item (.str T) (.int (t.length : Int)) = some (.str [c]) := by rw [hT]; exact item_at t _ c
    simp [h2,e,nat_ne hc.1,nat_ne hc.2]
    simp at ih
    rw [ih]
    simp; omega
theorem string_end_ok {T t w u : List Nat} {row col : Int} (hT : T = t ++ 34 :: (w ++ 34 :: u)) (hw : ∀ c ∈ w,c ≠ 34 /\ c ≠ 10) (hd : d < 57) :
    ev theP (.call 2 [.str T,.int (t.length : Int),.int row,.int col]) d ρ σ = some ⟨.int ((t.length : Int) + w.length + 2),.nxt,ρ,σ⟩ := by
  have lp := str_loop (d := d + 1) (σ := σ) (x1 := .int (t.length : Int)) (x2 := .int row) (x3 := .int col) T u (by omega) w (t ++ [34]) (by rw [hT]; simp) hw
  rw [call_of _ _ _ fn_string_end (by omega) rfl]
  simp at lp
  simp [c_string_end,lp]
  omega
noncomputable def midS (m : List Nat) : List Nat := if m = [46] then kSign else kWord
structure Mid (m : List Nat) : Prop where
  ne : m ≠ []
  hd : m.head? ≠ some 58
  la : m.getLast? ≠ some 58
  sl : m ≠ [47]
  wc : ∀ c ∈ m,wordC c = true
noncomputable def prTail : S := match c_put_run with
  | .seq _ b => b
  | _ => .skip
noncomputable def colon (b : Bool) : List Nat := if b then [58] else []
noncomputable def prToks (m : List Nat) (b : Bool) (row col : Int) : List V := tk (midS m) m row col :: (if b then [tk kSign [58] row (col + m.length)] else [])
theorem Mid.snoc {m : List Nat} (h : Mid m) : ∃ r z,m = r ++ [z] /\ z ≠ 58 := by
  refine ⟨m.dropLast,m.getLast h.ne,(List.dropLast_concat_getLast h.ne).symm,fun e => h.la ?_⟩
  rw [List.getLast?_eq_some_getLast h.ne,e]
theorem prTail_ok {m : List Nat} (hm : Mid m) (b : Bool) {tr : Nat} {ts : List V} {row col : Int} (ht : σ[tr]? = some (.list ts)) (hl : ts.length < 100000) (hd : d < 59) :
    ∃ ρ',evS theP prTail d [.ref tr,.str (m ++ colon b),.int row,.int col,.undef] σ = some ⟨.none,.nxt,ρ',σ.set tr (.list (ts ++ prToks m b row col))⟩ := by
  obtain ⟨r,z,e,hz⟩ := hm.snoc
  have hlt : ts.length < maxLen := by simp only [maxLen]; omega
  have hlt2 : ts.length + 1 < maxLen := by simp only [maxLen]; omega
  have t2 : (σ.set tr (.list (ts ++ [tk (midS m) m row col])))[tr]? = some (.list (ts ++ [tk (midS m) m row col])) := get_set ht
  have hm0 := hm.ne
  have hsl := hm.sl
  cases b with
  | false =>
    refine ⟨[.ref tr,.str m,.int row,.int col,.bool false],?_⟩
    have s1 := sl_last1 r z
    rw [← e] at s1
    by_cases hd : m = [46]
    · subst hd
      try simp at s1
      simp [prTail,c_put_run,colon,s1,ht,hlt,show 4 <= maxLen by decide,prToks,midS,nat_ne hz,sliced,bound,small,clamp,cut]
    · simp [prTail,c_put_run,colon,s1,ht,hlt,show 4 <= maxLen by decide,prToks,midS,nat_ne hz,hd,ne_beq hd,ne_beq hsl,ne_beq hm0]
  | true =>
    refine ⟨[.ref tr,.str m,.int row,.int col,.bool true],?_⟩
    have s1 := sl_last1 m 58
    have s2 := sl_last2 r z 58
    have s3 := sl_init m 58
    rw [show r ++ [z,58] = m ++ [58] by rw [e]; simp] at s2
    by_cases hd : m = [46]
    · subst hd
      simp [midS] at t2
      simp [prTail,c_put_run,colon,show sliced (.str [46,58]) (.int (-1)) .none = some (.str [58]) from s1,show sliced (.str [46,58]) (.int (-2)) .none = some (.str [z,58]) from s2,show sliced (.str [46,58]) .none (.int (-1)) = some (.str [46]) from s3,ht,hlt,show 4 <= maxLen by decide,prToks,midS,nat_ne hz,t2,hlt2]
    · simp [midS,hd] at t2
      simp [prTail,c_put_run,colon,s1,s2,s3,ht,hlt,show 4 <= maxLen by decide,prToks,midS,nat_ne hz,hd,ne_beq hd,ne_beq hsl,ne_beq hm0,t2,hlt2]
end
section
variable {σ : List O} {d : Nat} {ρ : List V}
theorem c_put_run_eq : c_put_run = .seq (.iff (.and (.cmp .eq (.idx (.loc 1) (.cInt (0))) (.cStr [58])) (.cmp .ne (.slice (.loc 1) .cNone (.cInt (2))) (.cStr [58,58]))) (.seq (.ex (.append (.loc 0) (.tup (.cons (.cStr [115,105,103,110]) (.cons (.cStr [58]) (.cons (.loc 2) (.cons (.loc 3) .nil))))))) (.seq (.asg 1 (.slice (.loc 1) (.cInt (1)) .cNone)) (.aug 3 .add (.cInt (1))))) .skip) prTail := rfl
noncomputable def preToks (b : Bool) (row col : Int) : List V := if b then [tk kSign [58] row col] else []
noncomputable def preN (b : Bool) : Int := if b then 1 else 0
theorem put_run_ok {m : List Nat} (hm : Mid m) (b0 b : Bool) {tr : Nat} {ts : List V} {row col : Int} (ht : σ[tr]? = some (.list ts)) (hl : ts.length < 90000) (hd : d < 58) :
    ev theP (.call 3 [.ref tr,.str (colon b0 ++ (m ++ colon b)),.int row,.int col]) d ρ σ = some ⟨.none,.nxt,ρ,σ.set tr (.list (ts ++ (preToks b0 row col ++ prToks m b row (col + preN b0))))⟩ := by
  obtain ⟨h,r,e,hh⟩ : ∃ h r,m = h :: r /\ h ≠ 58 := by
    cases hq : m with
    | nil => exact absurd hq hm.ne
    | cons h r => exact ⟨h,r,rfl,fun e => hm.hd (by rw [hq,e]; rfl)⟩
  have hlt : ts.length < maxLen := by simp only [maxLen]; omega
  rw [call_of _ _ _ fn_put_run (by omega) rfl]
  cases b0 with
  | false =>
    obtain ⟨ρ',pt⟩ := prTail_ok (d := d + 1) hm b ht (row := row) (col := col) (by omega) (by omega)
    have i0 : item (.str (m ++ colon b)) (.int 0) = some (.str [h]) := by subst e; exact item_at [] _ h
    simp [c_put_run_eq,colon,preToks,preN] at pt ⊢
    simp [colon] at i0
    simp [i0,nat_ne hh,pt]
  | true =>
    have ht2 := get_set (b := O.list (ts ++ [tk kSign [58] row col])) ht
    obtain ⟨ρ',pt⟩ := prTail_ok (d := d + 1) hm b ht2 (row := row) (col := col + 1) (by simp; omega) (by omega)
    rw [List.set_set] at pt
    have i0 : item (.str (58 :: (m ++ colon b))) (.int 0) = some (.str [58]) := item_at [] _ 58
    have s2 := sl_to2 (58 :: (m ++ colon b))
    have s1 := sl_from1 (58 :: (m ++ colon b))
    have s3 : (58 :: (m ++ colon b)).take 2 = [58,h] := by subst e; simp
    rw [s3] at s2
    rw [List.drop_succ_cons,List.drop_zero] at s1
    generalize m ++ colon b = mm at *
    simp [c_put_run_eq,show colon true = [58] from rfl,preToks,preN] at pt ⊢
    simp [i0,nat_ne hh,s2,s1,ht,hlt,show 4 <= maxLen by decide,pt]
theorem put_run_colon {tr : Nat} {ts : List V} {row col : Int} (ht : σ[tr]? = some (.list ts)) (hl : ts.length < 90000) (hd : d < 58) :
    ev theP (.call 3 [.ref tr,.str [58],.int row,.int col]) d ρ σ = some ⟨.none,.nxt,ρ,σ.set tr (.list (ts ++ [tk kSign [58] row col]))⟩ := by
  have hlt : ts.length < maxLen := by simp only [maxLen]; omega
  rw [call_of _ _ _ fn_put_run (by omega) rfl]
  simp [c_put_run_eq,prTail,c_put_run,show item (.str [58]) (.int 0) = some (.str [58]) from rfl,show sliced (.str [58]) .none (.int 2) = some (.str [58]) from sl_to2 [58],show sliced (.str [58]) (.int 1) .none = some (.str []) from sl_from1 [58],show sliced (.str []) (.int (-1)) .none = some (.str []) from rfl,ht,hlt,show 4 <= maxLen by decide]
noncomputable def rtC : X := match c_read_tokens with
  | .seq _ (.seq _ (.seq _ (.seq _ (.seq (.whl t _) _)))) => t
  | _ => .nil
noncomputable def rtB : S := match c_read_tokens with
  | .seq _ (.seq _ (.seq _ (.seq _ (.seq (.whl _ b) _)))) => b
  | _ => .skip
noncomputable def rtI : S := match rtB with
  | .seq _ (.seq _ (.seq _ (.seq b _))) => b
  | _ => .skip
theorem rtB_eq : rtB = .seq (.asg 5 (.idx (.loc 0) (.loc 2))) (.seq (.asg 6 (.bin .add (.bin .sub (.loc 2) (.loc 4)) (.cInt (1)))) (.seq (.asg 7 (.bin .add (.loc 2) (.cInt (1)))) (.seq rtI (.asg 2 (.loc 7))))) := rfl
theorem rtC_eq : rtC = .cmp .lt (.loc 2) (.len (.loc 0)) := rfl
noncomputable def bg (t : List Nat) : Int := (t.length : Int) + 1 - (pos t).2
noncomputable abbrev tst (T : List Nat) (tr : Nat) (t : List Nat) (x5 x6 x7 : V) : List V := [.str T,.ref tr,.int (t.length : Int),.int ((pos t).1 : Int),.int (bg t),x5,x6,x7]
noncomputable abbrev tmi (T : List Nat) (tr : Nat) (t : List Nat) (c : Nat) : List V := [.str T,.ref tr,.int (t.length : Int),.int ((pos t).1 : Int),.int (bg t),.str [c],.int ((pos t).2 : Int),.int ((t.length : Int) + 1)]
noncomputable def Stp (T t : List Nat) (ts : List V) (t' : List Nat) (ts' : List V) : Prop := ∀ (d tr : Nat) (σ : List O) (x5 x6 x7 : V),d < 50 -> σ[tr]? = some (.list ts) →
    ∃ y5 y6 y7,ev theP (.loop rtC rtB) d (tst T tr t x5 x6 x7) σ = ev theP (.loop rtC rtB) d (tst T tr t' y5 y6 y7) (σ.set tr (.list ts'))
theorem Stp.refl (T t : List Nat) (ts : List V) : Stp T t ts t ts := fun d tr σ x5 x6 x7 _ h => ⟨x5,x6,x7,by rw [set_same h]⟩
theorem Stp.trans {T t t' t'' : List Nat} {ts ts' ts'' : List V} (h : Stp T t ts t' ts') (g : Stp T t' ts' t'' ts'') : Stp T t ts t'' ts'' := fun d tr σ x5 x6 x7 hd ht => by
  obtain ⟨y5,y6,y7,e⟩ := h d tr σ x5 x6 x7 hd ht
  obtain ⟨z5,z6,z7,e2⟩ := g d tr _ y5 y6 y7 hd (get_set ht)
  exact ⟨z5,z6,z7,by rw [e,e2,List.set_set]⟩
theorem Stp.of {T t u : List Nat} {c : Nat} {ts : List V} {t' : List Nat} {ts' : List V} (hT : T = t ++ c :: u)
    (h : ∀ (d tr : Nat) (σ : List O),d < 50 -> σ[tr]? = some (.list ts) -> ∃ r' b' y5 y6,evS theP rtI d (tmi T tr t c) σ = some ⟨.none,.nxt,[.str T,.ref tr,.int (t.length : Int),.int r',.int b',y5,y6,.int (t'.length : Int)],σ.set tr (.list ts')⟩ /\ r' = ((pos t').1 : Int) /\ b' = bg t') : Stp T t ts t' ts' := by
  intro d tr σ x5 x6 x7 hd ht
  obtain ⟨r',b',y5,y6,e,rfl,rfl⟩ := h d tr σ hd ht
  refine ⟨y5,y6,.int (t'.length : Int),?_⟩
  have h2 : (t.length : Int) < (T.length : Int) := by rw [hT]; simp; omega
  have i1 : item (.str T) (.int (t.length : Int)) = some (.str [c]) := by rw [hT]; exact item_at t u c
  have e3 : (t.length : Int) - bg t + 1 = ((pos t).2 : Int) := by simp only [bg]; omega
  rw [l_loop]
  rw [rtC_eq,rtB_eq]
  simp [h2,i1,e3,e]
end
section
variable {σ : List O} {d : Nat} {ρ : List V}
theorem bg_plain (t u : List Nat) (h : ∀ c ∈ u,c ≠ 10) : bg (t ++ u) = bg t /\ (pos (t ++ u)).1 = (pos t).1 /\ (pos (t ++ u)).2 = (pos t).2 + u.length := by
  have := pos_plain u t h
  refine ⟨?_,by rw [this],by rw [this]⟩
  simp only [bg,this,List.length_append]
  omega
theorem bg_nl (t : List Nat) : bg (t ++ [10]) = (t.length : Int) + 1 /\ (pos (t ++ [10])).1 = (pos t).1 + 1 := by
  have := pos_nl t
  refine ⟨?_,by rw [this]⟩
  simp only [bg,this,List.length_append,List.length_cons,List.length_nil]
  omega
noncomputable abbrev posT (s w : List Nat) (t : List Nat) : V := tk s w ((pos t).1 : Int) ((pos t).2 : Int)
theorem stp_nl {T t u : List Nat} {ts : List V} (hT : T = t ++ 10 :: u) (hl : ts.length < 90000) : Stp T t ts (t ++ [10]) (ts ++ [posT kEnd [10] t]) := by
  refine Stp.of hT fun d tr σ hd ht => ⟨((pos t).1 : Int) + 1,(t.length : Int) + 1,.str [10],.int ((pos t).2 : Int),?_,?_,?_⟩
  · have hlt : ts.length < maxLen := by simp only [maxLen]; omega
    simp [rtI,rtB,c_read_tokens,ht,hlt,show 4 <= maxLen by decide]
  · rw [(bg_nl t).2]; push_cast; rfl
  · rw [(bg_nl t).1]
theorem stp_semi {T t u : List Nat} {ts : List V} (hT : T = t ++ 59 :: u) (hl : ts.length < 90000) : Stp T t ts (t ++ [59]) (ts ++ [posT kEnd [59] t]) := by
  refine Stp.of hT fun d tr σ hd ht => ⟨((pos t).1 : Int),bg t,.str [59],.int ((pos t).2 : Int),?_,?_,?_⟩
  · have hlt : ts.length < maxLen := by simp only [maxLen]; omega
    simp [rtI,rtB,c_read_tokens,ht,hlt,show 4 <= maxLen by decide]
  · rw [(bg_plain t [59] (by decide)).2.1]
  · rw [(bg_plain t [59] (by decide)).1]
theorem stp_bs {T t u : List Nat} {ts : List V} (hT : T = t ++ 92 :: 10 :: u) (hL : t.length < 900000) : Stp T t ts (t ++ [92,10]) ts := by
  have hsl : sliced (.str T) (.int ((t.length : Int) + 1)) (.int ((t.length : Int) + 1 + 1)) = some (.str [10]) := by
    have := sl_mid (t ++ [92]) [10] u (by simp; omega)
    rw [hT]
    simpa using this
  refine Stp.of hT fun d tr σ hd ht => ⟨((pos t).1 : Int) + 1,(t.length : Int) + 2,.str [92],.int ((pos t).2 : Int),?_,?_,?_⟩
  · simp [rtI,rtB,c_read_tokens,hsl,set_same ht]
    omega
  · rw [show t ++ [92,10] = (t ++ [92]) ++ [10] by simp,(bg_nl _).2,(bg_plain t [92] (by decide)).2.1]; push_cast; rfl
  · rw [show t ++ [92,10] = (t ++ [92]) ++ [10] by simp,(bg_nl _).1]; simp; omega
theorem stp_ws {T t u : List Nat} {c : Nat} {ts : List V} (hc : c = 32 \/ c = 9 \/ c = 13) (hT : T = t ++ c :: u) (hL : t.length < 900000) : Stp T t ts (t ++ [c]) ts := by
  have hsl : sliced (.str T) (.int (t.length : Int)) (.int ((t.length : Int) + 2)) = some (.str (c :: u.take 1)) := by rw [hT]; exact sl_two t u c (by omega)
  refine Stp.of hT fun d tr σ hd ht => ⟨((pos t).1 : Int),bg t,.str [c],.int ((pos t).2 : Int),?_,?_,?_⟩
  · have h3 := fun ρ σ => is_word_ok' (d := d) (ρ := ρ) (σ := σ) c (by omega)
    rw [show wordC c = false by rcases hc with rfl | rfl | rfl <;> rfl] at h3
    have m6 : 6 <= maxLen := by decide
    have q : (c == 10) = false /\ (c == 59) = false /\ (c == 35) = false /\ (c == 92) = false /\ (c == 34) = false /\ (61 == c) = false /\ (33 == c) = false /\ (60 == c) = false /\ (62 == c) = false /\ (decide (c = 123) || (decide (c = 125) || (decide (c = 40) || (decide (c = 41) || (decide (c = 91) || (decide (c = 93) || (decide (c = 44) || (decide (c = 61) || (decide (c = 60) || (decide (c = 62) || (decide (c = 38) || (decide (c = 124) || (decide (c = 94) || (decide (c = 33) || (decide (c = 64) || decide (c = 36)))))))))))))))) = false /\ (decide (c = 32) || (decide (c = 9) || decide (c = 13))) = true := by rcases hc with rfl | rfl | rfl <;> exact ⟨rfl,rfl,rfl,rfl,rfl,rfl,rfl,rfl,rfl,rfl,rfl⟩
    obtain ⟨q1,q2,q3,q4,q5,q6,q7,q8,q9,q10,q11⟩ := q
    simp [rtI,rtB,c_read_tokens,hsl,set_same ht,h3,m6,q1,q2,q3,q4,q5,q6,q7,q8,q9,q10,q11]
  · rw [(bg_plain t [c] (by rcases hc with rfl | rfl | rfl <;> decide)).2.1]
  · rw [(bg_plain t [c] (by rcases hc with rfl | rfl | rfl <;> decide)).1]
theorem stp_sign {T t u : List Nat} {c : Nat} {ts : List V} (hc : c = 123 \/ c = 125 \/ c = 44 \/ c = 124) (hT : T = t ++ c :: u) (hL : t.length < 900000) (hl : ts.length < 90000) : Stp T t ts (t ++ [c]) (ts ++ [posT kSign [c] t]) := by
  have hsl : sliced (.str T) (.int (t.length : Int)) (.int ((t.length : Int) + 2)) = some (.str (c :: u.take 1)) := by rw [hT]; exact sl_two t u c (by omega)
  refine Stp.of hT fun d tr σ hd ht => ⟨((pos t).1 : Int),bg t,.str [c],.int ((pos t).2 : Int),?_,?_,?_⟩
  · have h3 := fun ρ σ => is_word_ok' (d := d) (ρ := ρ) (σ := σ) c (by omega)
    rw [show wordC c = false by rcases hc with rfl | rfl | rfl | rfl <;> rfl] at h3
    have m6 : 6 <= maxLen := by decide
    have hlt : ts.length < maxLen := by simp only [maxLen]; omega
    have q : (c == 10) = false /\ (c == 59) = false /\ (c == 35) = false /\ (c == 92) = false /\ (c == 34) = false /\ (61 == c) = false /\ (33 == c) = false /\ (60 == c) = false /\ (62 == c) = false /\ (decide (c = 123) || (decide (c = 125) || (decide (c = 40) || (decide (c = 41) || (decide (c = 91) || (decide (c = 93) || (decide (c = 44) || (decide (c = 61) || (decide (c = 60) || (decide (c = 62) || (decide (c = 38) || (decide (c = 124) || (decide (c = 94) || (decide (c = 33) || (decide (c = 64) || decide (c = 36)))))))))))))))) = true := by rcases hc with rfl | rfl | rfl | rfl <;> exact ⟨rfl,rfl,rfl,rfl,rfl,rfl,rfl,rfl,rfl,rfl⟩
    obtain ⟨q1,q2,q3,q4,q5,q6,q7,q8,q9,q10⟩ := q
    simp [rtI,rtB,c_read_tokens,hsl,ht,hlt,h3,m6,show 4 <= maxLen by decide,q1,q2,q3,q4,q5,q6,q7,q8,q9,q10]
  · rw [(bg_plain t [c] (by rcases hc with rfl | rfl | rfl | rfl <;> decide)).2.1]
  · rw [(bg_plain t [c] (by rcases hc with rfl | rfl | rfl | rfl <;> decide)).1]
theorem stp_str {T t u w : List Nat} {ts : List V} (hw : ∀ c ∈ w,c ≠ 34 /\ c ≠ 10) (hT : T = t ++ 34 :: (w ++ 34 :: u)) (hL : t.length + w.length < 900000) (hl : ts.length < 90000) : Stp T t ts (t ++ 34 :: (w ++ [34])) (ts ++ [posT kString w t]) := by
  have hsl : sliced (.str T) (.int ((t.length : Int) + 1)) (.int ((t.length : Int) + w.length + 2 - 1)) = some (.str w) := by
    have := sl_mid (t ++ [34]) w (34 :: u) (by simp; omega)
    rw [hT]
    have e : ((t.length : Int) + w.length + 2 - 1) = (((t ++ [34]).length + w.length : Nat) : Int) := by simp; omega
    rw [e]
    simpa using this
  have hpl : ∀ c ∈ 34 :: (w ++ [34]),c ≠ 10 := by
    intro c hc
    rcases List.mem_cons.mp hc with rfl | hc
    · decide
    · rcases List.mem_append.mp hc with hc | hc
      · exact (hw c hc).2
      · simp at hc; subst hc; decide
  refine Stp.of hT fun d tr σ hd ht => ⟨((pos t).1 : Int),bg t,.str [34],.int ((pos t).2 : Int),?_,?_,?_⟩
  · have hlt : ts.length < maxLen := by simp only [maxLen]; omega
    have se := fun ρ σ => string_end_ok (d := d) (ρ := ρ) (σ := σ) (row := ((pos t).1 : Int)) (col := ((pos t).2 : Int)) hT hw (by omega)
    simp [rtI,rtB,c_read_tokens,ht,hlt,se,hsl,show 4 <= maxLen by decide]
    omega
  · rw [(bg_plain t _ hpl).2.1]
  · rw [(bg_plain t _ hpl).1]
theorem cm_loop (T u : List Nat) {x1 x2 x3 x4 x5 x6 : V} : ∀ (w t : List Nat),T = t ++ (w ++ 10 :: u) -> (∀ c ∈ w,c ≠ 10) →
    ev theP (.loop (.and (.cmp .lt (.loc 7) (.len (.loc 0))) (.cmp .ne (.idx (.loc 0) (.loc 7)) (.cStr [10]))) (.aug 7 .add (.cInt (1)))) d [.str T,x1,x2,x3,x4,x5,x6,.int (t.length : Int)] σ = some ⟨.none,.nxt,[.str T,x1,x2,x3,x4,x5,x6,.int ((t.length : Int) + w.length)],σ⟩
  | [],t,hT,hw => by
    rw [l_loop]
    have h2 : (t.length : Int) < (T.length : Int) := by rw [hT]; simp; omega
    have e : item (.str T) (.int (t.length : Int)) = some (.str [10]) := by rw [hT]; exact item_at t u 10
    simp [h2,e]
  | c :: w,t,hT,hw => by
    rw [l_loop]
    have hc := hw c (by simp)
    have ih := cm_loop T u (x1 := x1) (x2 := x2) (x3 := x3) (x4 := x4) (x5 := x5) (x6 := x6) w (t ++ [c]) (by rw [hT]; simp) (fun x hx => hw x (by simp [hx]))
    have h2 : (t.length : Int) < (T.length : Int) := by rw [hT]; simp; omega
    have e : item (.str T) (.int (t.length : Int)) = some (.str [c]) := by rw [hT]; exact item_at t _ c
    simp [h2,e,nat_ne hc]
    simp at ih
    rw [ih]
    simp; omega
theorem stp_cm {T t u w : List Nat} {ts : List V} (hw : ∀ c ∈ w,c ≠ 10) (hT : T = t ++ 35 :: (w ++ 10 :: u)) : Stp T t ts (t ++ 35 :: w) ts := by
  have hpl : ∀ c ∈ 35 :: w,c ≠ 10 := by
    intro c hc
    rcases List.mem_cons.mp hc with rfl | hc
    · decide
    · exact hw c hc
  refine Stp.of hT fun d tr σ hd ht => ⟨((pos t).1 : Int),bg t,.str [35],.int ((pos t).2 : Int),?_,?_,?_⟩
  · have lp := cm_loop (d := d) (σ := σ) T u (x1 := .ref tr) (x2 := .int (t.length : Int)) (x3 := .int ((pos t).1 : Int)) (x4 := .int (bg t)) (x5 := .str [35]) (x6 := .int ((pos t).2 : Int)) w (t ++ [35]) (by rw [hT]; simp) hw
    simp at lp
    simp [rtI,rtB,c_read_tokens,lp,set_same ht]
    omega
  · rw [(bg_plain t _ hpl).2.1]
  · rw [(bg_plain t _ hpl).1]
end
section
variable {σ : List O} {d : Nat} {ρ : List V}
theorem wordC_no {c : Nat} (h : wordC c = true) : c ≠ 10 /\ c ≠ 59 /\ c ≠ 35 /\ c ≠ 92 /\ c ≠ 34 := by
  refine ⟨?_,?_,?_,?_,?_⟩ <;> rintro rfl <;> revert h <;> decide
theorem stp_word {T t u w : List Nat} {c : Nat} {ts new : List V} (hw : ∀ x ∈ c :: w,wordC x = true) (hu : Brk u) (hT : T = t ++ ((c :: w) ++ u)) (hL : t.length + w.length < 900000)
    (pr : ∀ (d tr : Nat) (ρ : List V) (σ : List O),d < 50 -> σ[tr]? = some (.list ts) -> ev theP (.call 3 [.ref tr,.str (c :: w),.int ((pos t).1 : Int),.int ((pos t).2 : Int)]) d ρ σ = some ⟨.none,.nxt,ρ,σ.set tr (.list (ts ++ new))⟩) :
    Stp T t ts (t ++ (c :: w)) (ts ++ new) := by
  obtain ⟨n1,n2,n3,n4,n5⟩ := wordC_no (hw c (by simp))
  have hpl : ∀ x ∈ c :: w,x ≠ 10 := fun x hx => (wordC_no (hw x hx)).1
  have hsl : sliced (.str T) (.int (t.length : Int)) (.int ((t.length : Int) + ((w.length : Int) + 1))) = some (.str (c :: w)) := by
    have := sl_mid t (c :: w) u (by simp; omega)
    rw [hT]
    rw [show ((t.length + (c :: w).length : Nat) : Int) = (t.length : Int) + ((w.length : Int) + 1) by simp] at this
    exact this
  refine Stp.of (u := w ++ u) (by rw [hT]; rfl) fun d tr σ hd ht => ⟨((pos t).1 : Int),bg t,.str [c],.int ((pos t).2 : Int),?_,?_,?_⟩
  · have h3 := fun ρ σ => is_word_ok' (d := d) (ρ := ρ) (σ := σ) c (by omega)
    rw [hw c (by simp)] at h3
    have re := fun ρ σ => run_end_ok (d := d) (ρ := ρ) (σ := σ) hT hw hu (by omega)
    have p2 := fun ρ => pr d tr ρ σ hd ht
    simp at re
    simp [rtI,rtB,c_read_tokens,nat_ne n1,nat_ne n2,nat_ne n3,nat_ne n4,nat_ne n5,h3,re,hsl,p2]
  · rw [(bg_plain t _ hpl).2.1]
  · rw [(bg_plain t _ hpl).1]
noncomputable def runOf (b0 : Bool) (m : List Nat) (b : Bool) : List Nat := colon b0 ++ (m ++ colon b)
noncomputable def runToks (b0 : Bool) (m : List Nat) (b : Bool) (t : List Nat) : List V := preToks b0 ((pos t).1 : Int) ((pos t).2 : Int) ++ prToks m b ((pos t).1 : Int) (((pos t).2 : Int) + preN b0)
theorem runOf_word {b0 b : Bool} {m : List Nat} (hm : Mid m) : ∀ x ∈ runOf b0 m b,wordC x = true := by
  intro x hx
  simp only [runOf,List.mem_append] at hx
  have hc : ∀ b,x ∈ colon b -> wordC x = true := by
    intro b h
    cases b <;> simp [colon] at h
    subst h; rfl
  rcases hx with hx | hx | hx
  · exact hc _ hx
  · exact hm.wc x hx
  · exact hc _ hx
theorem stp_run {T t u : List Nat} {b0 b : Bool} {m : List Nat} {ts : List V} (hm : Mid m) (hu : Brk u) (hT : T = t ++ (runOf b0 m b ++ u)) (hL : t.length + (runOf b0 m b).length < 900000) (hl : ts.length < 90000) :
    Stp T t ts (t ++ runOf b0 m b) (ts ++ runToks b0 m b t) := by
  have hw := runOf_word (b0 := b0) (b := b) hm
  have pr : ∀ (d tr : Nat) (ρ : List V) (σ : List O),d < 50 -> σ[tr]? = some (.list ts) -> ev theP (.call 3 [.ref tr,.str (runOf b0 m b),.int ((pos t).1 : Int),.int ((pos t).2 : Int)]) d ρ σ = some ⟨.none,.nxt,ρ,σ.set tr (.list (ts ++ runToks b0 m b t))⟩ := fun d tr ρ σ hd ht => put_run_ok hm b0 b ht hl (by omega)
  cases hq : runOf b0 m b with
  | nil =>
    have := hm.ne
    have h2 : (runOf b0 m b).length = 0 := by rw [hq]; rfl
    simp only [runOf,List.length_append] at h2
    exact absurd (List.length_eq_zero_iff.mp (by omega)) this
  | cons c w =>
    rw [hq] at hw pr hT hL
    exact stp_word hw hu hT (by simp at hL; omega) pr
theorem stp_colon {T t u : List Nat} {ts : List V} (hu : Brk u) (hT : T = t ++ 58 :: u) (hL : t.length < 900000) (hl : ts.length < 90000) :
    Stp T t ts (t ++ [58]) (ts ++ [posT kSign [58] t]) :=
  stp_word (w := []) (by decide) hu (by rw [hT]; rfl) (by simpa using hL) fun d tr ρ σ hd ht => put_run_colon ht hl (by omega)
theorem loop_end {T : List Nat} {tr : Nat} {x5 x6 x7 : V} : ev theP (.loop rtC rtB) d (tst T tr T x5 x6 x7) σ = some ⟨.none,.nxt,tst T tr T x5 x6 x7,σ⟩ := by
  rw [l_loop,rtC_eq]
  simp
theorem c_read_tokens_eq : c_read_tokens = .seq (.asgNew 1 .nil) (.seq (.asg 2 (.cInt (0))) (.seq (.asg 3 (.cInt (1))) (.seq (.asg 4 (.cInt (0))) (.seq (.whl rtC rtB) (.seq (.ex (.append (.loc 1) (.tup (.cons (.cStr [101,111,102]) (.cons (.cStr []) (.cons (.loc 3) (.cons (.bin .add (.bin .sub (.loc 2) (.loc 4)) (.cInt (1))) .nil))))))) (.ret (.loc 1))))))) := rfl
noncomputable abbrev kEof : List Nat := [101,111,102]
theorem read_tokens_ok {T : List Nat} {ts : List V} (h : Stp T [] [] T ts) (hl : ts.length < 90000) (hd : d < 49) :
    ev theP (.call 4 [.str T]) d ρ σ = some ⟨.ref σ.length,.nxt,ρ,σ ++ [.list (ts ++ [posT kEof [] T])]⟩ := by
  obtain ⟨y5,y6,y7,e⟩ := h (d + 1) σ.length (σ ++ [.list []]) .undef .undef .undef (by omega) (by simp)
  rw [loop_end] at e
  have hlt : ts.length < maxLen := by simp only [maxLen]; omega
  have e3 : (T.length : Int) - bg T + 1 = ((pos T).2 : Int) := by simp only [bg]; omega
  have e0 : bg [] = 0 := by decide
  rw [call_of _ _ _ fn_read_tokens (by omega) rfl]
  have p0 : pos [] = (1,1) := rfl
  simp only [tst,p0,e0,List.length_nil] at e
  simp at e
  simp [c_read_tokens_eq,show 0 <= maxLen by decide,e,hlt,show 4 <= maxLen by decide,e3]
end
noncomputable def gapsL : Nat -> List (List Nat)
  | 0 => []
  | 1 => [[32]]
  | 2 => [[92,10]]
  | 3 => [[13,9]]
  | 4 => [[10]]
  | 5 => [[32,35,32,97,44,32,125,32,34],[10]]
  | 6 => [[35,92],[10]]
  | _ => [[10],[10]]
noncomputable def gapV (k : Nat) : V := .tup ((gapsL k).map .str)
noncomputable def isRun (s w : List Nat) : Bool := s == kWord || (w == [46] || w == [58])
noncomputable def gapDue : List Nat -> List (List Nat) -> List V
  | _,[] => []
  | t,x :: r => (if x = [10] then [posT kEnd [10] t] else []) ++ gapDue (t ++ x) r
noncomputable def bodyW (s w : List Nat) : List Nat := if s = kString then 34 :: (w ++ [34]) else w
noncomputable def nrun (run s w : List Nat) (k : Nat) : List Nat := if isRun s w then (if k = 0 then run else []) ++ w else []
noncomputable def Adm1 (run s w : List Nat) (f : Bool) (k : Nat) : Prop := k < 8 /\ (f = false -> k < 4) /\ (k = 0 -> isRun s w = true -> run = [] \/ run = [58] \/ w = [58])
noncomputable def wtx : List (G × Nat) -> List Nat
  | [] => []
  | (g,k) :: r => (gapsL k).flatten ++ (bodyW g.1 g.2.1 ++ wtx r)
noncomputable def wdu : List Nat -> List (G × Nat) -> List V
  | t,[] => [posT kEof [] t]
  | t,(g,k) :: r => gapDue t (gapsL k) ++ (posT g.1 g.2.1 (t ++ (gapsL k).flatten) :: wdu (t ++ ((gapsL k).flatten ++ bodyW g.1 g.2.1)) r)
noncomputable def AdmL : List Nat -> List (G × Nat) -> Prop
  | _,[] => True
  | run,(g,k) :: r => Adm1 run g.1 g.2.1 g.2.2 k /\ AdmL (nrun run g.1 g.2.1 k) r
noncomputable def wrBody : S := match c_law_written with
  | .seq _ (.seq _ (.seq _ (.seq (.forr _ _ b) _))) => b
  | _ => .skip
noncomputable def wrGap : S := match wrBody with
  | .seq _ (.seq _ (.seq _ (.seq (.forr _ _ b) _))) => b
  | _ => .skip
noncomputable def wrG : S := match wrBody with
  | .seq _ (.seq _ (.seq _ (.seq b _))) => b
  | _ => .skip
noncomputable def wrTail : S := match wrBody with
  | .seq _ (.seq _ (.seq _ (.seq _ b))) => b
  | _ => .skip
noncomputable def wrIf : S := match wrBody with
  | .seq _ (.seq _ (.seq b _)) => b
  | _ => .skip
theorem wrBody_eq : wrBody = .seq (.asg 8 (.idx (.glob 1) (.call 51 (.cons (.loc 0) (.cons (.ite (.loc 7) (.cInt (8)) (.cInt (4))) .nil))))) (.seq (.asg 9 (.or (.cmp .eq (.loc 5) (.cStr [119,111,114,100])) (.cmp .isin (.loc 6) (.tup (.cons (.cStr [46]) (.cons (.cStr [58]) .nil)))))) (.seq wrIf (.seq wrG wrTail))) := rfl
theorem wrG_eq : wrG = .forr [10] (.loc 8) wrGap := rfl
theorem wrGap_eq : wrGap = .seq (.iff (.cmp .eq (.loc 10) (.cStr [10])) (.ex (.append (.loc 3) (.bin .add (.tup (.cons (.cStr [101,110,100]) (.cons (.cStr [10]) .nil))) (.call 56 (.cons (.loc 2) .nil))))) .skip) (.asg 2 (.bin .add (.loc 2) (.loc 10))) := rfl
theorem item_gaps (k : Nat) (hk : k < 8) : item gapsV (.int k) = some (gapV k) := by
  refine c8 hk ?_ ?_ ?_ ?_ ?_ ?_ ?_ ?_
  · rfl
  · rfl
  · rfl
  · rfl
  · rfl
  · rfl
  · rfl
  · rfl
theorem veq_gap (k : Nat) (hk : k < 8) : veq (gapV k) (.tup []) = some (decide (k = 0)) := by
  refine c8 hk ?_ ?_ ?_ ?_ ?_ ?_ ?_ ?_
  · rfl
  · rfl
  · rfl
  · rfl
  · rfl
  · rfl
  · rfl
  · rfl
theorem gaps_len (k : Nat) (hk : k < 8) : (gapsL k).flatten.length <= 10 /\ (gapsL k).length <= 2 := by
  refine c8 hk ?_ ?_ ?_ ?_ ?_ ?_ ?_ ?_
  · decide
  · decide
  · decide
  · decide
  · decide
  · decide
  · decide
  · decide
section
variable {sc : List V} {σ σ' : List O} {p du a : Nat} {d : Nat} {ρ : List V} {xs ys : List V}
structure Gq (sc : List V) (p du : Nat) (σ : List O) (a : Nat) (xs : List V) (σ' : List O) : Prop where
  gp : σ'[p]? = some (pn sc a)
  gd : σ'[du]? = some (.list xs)
  gl : σ.length <= σ'.length
  go : ∀ k,k ≠ p -> k ≠ du -> k < σ.length -> σ'[k]? = σ[k]?
theorem Gq.refl (hp : σ[p]? = some (pn sc a)) (ht : σ[du]? = some (.list xs)) : Gq sc p du σ a xs σ := ⟨hp,ht,Nat.le_refl _,fun _ _ _ _ => rfl⟩
theorem Gq.setP (h : Gq sc p du σ a xs σ') (hpt : p ≠ du) (a' : Nat) : Gq sc p du σ a' xs (σ'.set p (pn sc a')) :=
  ⟨get_set h.gp,by rw [List.getElem?_set_ne hpt]; exact h.gd,by simpa using h.gl,fun k h1 h2 h4 => by rw [List.getElem?_set_ne (Ne.symm h1)]; exact h.go k h1 h2 h4⟩
theorem Gq.setD (h : Gq sc p du σ a xs σ') (hpt : p ≠ du) (xs' : List V) : Gq sc p du σ a xs' (σ'.set du (.list xs')) :=
  ⟨by rw [List.getElem?_set_ne (Ne.symm hpt)]; exact h.gp,get_set h.gd,by simpa using h.gl,fun k h1 h2 h4 => by rw [List.getElem?_set_ne (Ne.symm h2)]; exact h.go k h1 h2 h4⟩
theorem Gq.trans {σ'' : List O} {a' : Nat} {xs' : List V} (h : Gq sc p du σ a xs σ') (g : Gq sc p du σ' a' xs' σ'') : Gq sc p du σ a' xs' σ'' :=
  ⟨g.gp,g.gd,Nat.le_trans h.gl g.gl,fun k h1 h2 h4 => by rw [g.go k h1 h2 (Nat.lt_of_lt_of_le h4 h.gl),h.go k h1 h2 h4]⟩
theorem gap_loop (hpt : p ≠ du) {x1 x4 x5 x6 x7 x8 x9 : V} (hd : d < 50) : ∀ (ps : List (List Nat)) (t : List Nat) (due : List V) (σ : List O) (x10 : V),t.length + ps.flatten.length < 900000 -> due.length + ps.length < 90000 -> σ[p]? = some (pn sc a) -> σ[du]? = some (.list due) →
    ∃ y10 σ',ev theP (.iter [10] (.vals (ps.map .str)) wrGap) d [.ref p,x1,.str t,.ref du,x4,x5,x6,x7,x8,x9,x10] σ = some ⟨.none,.nxt,[.ref p,x1,.str (t ++ ps.flatten),.ref du,x4,x5,x6,x7,x8,x9,y10],σ'⟩ /\ Gq sc p du σ a (due ++ gapDue t ps) σ'
  | [],t,due,σ,x10,h1,h2,hp,hdu => by
    refine ⟨x10,σ,?_,by simpa [gapDue] using Gq.refl hp hdu⟩
    rw [l_iter]; simp
  | x :: ps,t,due,σ,x10,h1,h2,hp,hdu => by
    simp only [List.flatten_cons,List.length_append,List.length_cons] at h1 h2
    have hb : binop .add (.str t) (.str x) = some (.str (t ++ x)) := by
      simp only [bo_adds]; rw [if_pos (by simp only [maxLen]; omega)]
    by_cases hx : x = [10]
    · subst hx
      have r1 := (Gq.refl hp hdu).setD hpt (due ++ [posT kEnd [10] t])
      obtain ⟨y10,σ',e,g⟩ := gap_loop hpt (x1 := x1) (x4 := x4) (x5 := x5) (x6 := x6) (x7 := x7) (x8 := x8) (x9 := x9) hd ps (t ++ [10]) (due ++ [posT kEnd [10] t]) _ (.str [10]) (by simp at h1 ⊢; omega) (by simp; omega) r1.gp r1.gd
      refine ⟨y10,σ',?_,by simpa [gapDue,List.append_assoc] using r1.trans g⟩
      have pl := fun ρ σ => place_ok (d := d) (ρ := ρ) (σ := σ) t (by omega) (by omega)
      have hlt : due.length < maxLen := by simp only [maxLen]; omega
      have b2 : binop .add (.tup [.str [101,110,100],.str [10]]) (.tup [.int ((pos t).1 : Int),.int ((pos t).2 : Int)]) = some (posT kEnd [10] t) := rfl
      have is1 : isSome' (posT kEnd [10] t) = true := rfl
      rw [l_iter,wrGap_eq]
      rw [wrGap_eq] at e
      generalize posT kEnd [10] t = PT at *
      simp [hdu,pl,hlt,b2,is1,show 2 <= maxLen by decide,hb]
      simp at e
      exact e
    · obtain ⟨y10,σ',e,g⟩ := gap_loop hpt (x1 := x1) (x4 := x4) (x5 := x5) (x6 := x6) (x7 := x7) (x8 := x8) (x9 := x9) hd ps (t ++ x) due σ (.str x) (by rw [List.length_append]; omega) (by omega) hp hdu
      refine ⟨y10,σ',?_,by simpa [gapDue,hx] using g⟩
      rw [l_iter,wrGap_eq]
      rw [wrGap_eq] at e
      simp [ne_beq hx,hb]
      simp at e
      exact e
end
section
variable {sc : List V} {σ σ' : List O} {p du a : Nat} {d : Nat} {ρ : List V} {xs ys : List V}
theorem wrTail_eq : wrTail = .seq (.iff (.cmp .ne (.loc 8) (.tup .nil)) (.asg 4 (.cStr [])) .skip) (.seq (.asg 4 (.ite (.loc 9) (.bin .add (.loc 4) (.loc 6)) (.cStr []))) (.seq (.ex (.append (.loc 3) (.bin .add (.tup (.cons (.loc 5) (.cons (.loc 6) .nil))) (.call 56 (.cons (.loc 2) .nil))))) (.asg 2 (.bin .add (.loc 2) (.ite (.cmp .eq (.loc 5) (.cStr [115,116,114,105,110,103])) (.bin .add (.bin .add (.cStr [34]) (.loc 6)) (.cStr [34])) (.loc 6)))))) := rfl
theorem wrIf_eq : wrIf = .iff (.and (.cmp .eq (.loc 8) (.tup .nil)) (.and (.loc 9) (.and (.cmp .notin (.loc 4) (.tup (.cons (.cStr []) (.cons (.cStr [58]) .nil)))) (.cmp .ne (.loc 6) (.cStr [58]))))) (.asg 8 (.tup (.cons (.cStr [32]) .nil))) .skip := rfl
theorem gapV_some (k : Nat) : isSome' (gapV k) = true := rfl
@[simp] theorem ck_gap (k : Nat) : chk (gapV k) = some (gapV k) := rfl
@[simp] theorem dr_gap (k : Nat) : deref σ (gapV k) = some (gapV k) := rfl
@[simp] theorem so_gap (k : Nat) : isSome' (gapV k) = true := rfl
theorem wt1 {x1 x10 x9 : V} {t run s w : List Nat} {f : Bool} {k : Nat} (hk : k < 8) : evS theP (.iff (.cmp .ne (.loc 8) (.tup .nil)) (.asg 4 (.cStr [])) .skip) d [.ref p,x1,.str t,.ref du,.str run,.str s,.str w,.bool f,gapV k,x9,x10] σ = some ⟨.none,.nxt,[.ref p,x1,.str t,.ref du,.str (if k = 0 then run else []),.str s,.str w,.bool f,gapV k,x9,x10],σ⟩ := by
  have vg := veq_gap k hk
  by_cases k0 : k = 0
  · subst k0
    rw [decide_eq_true rfl] at vg
    simp [vg]
  · rw [decide_eq_false k0] at vg
    simp [vg,k0]
theorem add_str {x y : List Nat} (h1 : x.length < 901000) (h2 : y.length < 2000) : binop .add (.str x) (.str y) = some (.str (x ++ y)) := by
  simp only [bo_adds]; rw [if_pos (by simp only [maxLen]; omega)]
theorem wt2 {x1 x3 x5 x7 x8 x10 : V} {t run w : List Nat} {b : Bool} (h1 : run.length < 901000) (h2 : w.length < 2000) : evS theP (.asg 4 (.ite (.loc 9) (.bin .add (.loc 4) (.loc 6)) (.cStr []))) d [.ref p,x1,.str t,x3,.str run,x5,.str w,x7,x8,.bool b,x10] σ = some ⟨.none,.nxt,[.ref p,x1,.str t,x3,.str (if b then run ++ w else []),x5,.str w,x7,x8,.bool b,x10],σ⟩ := by
  have h := add_str h1 h2
  cases b <;> simp [h]
theorem wt3 {x1 x4 x7 x8 x9 x10 : V} {t s w : List Nat} {due : List V} (ht : t.length < 900000) (hl : due.length < 90000) (hdu : σ[du]? = some (.list due)) (hd : d < 50) : evS theP (.ex (.append (.loc 3) (.bin .add (.tup (.cons (.loc 5) (.cons (.loc 6) .nil))) (.call 56 (.cons (.loc 2) .nil))))) d [.ref p,x1,.str t,.ref du,x4,.str s,.str w,x7,x8,x9,x10] σ = some ⟨.none,.nxt,[.ref p,x1,.str t,.ref du,x4,.str s,.str w,x7,x8,x9,x10],σ.set du (.list (due ++ [posT s w t]))⟩ := by
  have hlt : due.length < maxLen := by simp only [maxLen]; omega
  have pl := fun ρ σ => place_ok (d := d) (ρ := ρ) (σ := σ) t (by omega) (by omega)
  have is1 : isSome' (posT s w t) = true := rfl
  have b2 : binop .add (.tup [.str s,.str w]) (.tup [.int ((pos t).1 : Int),.int ((pos t).2 : Int)]) = some (posT s w t) := rfl
  generalize posT s w t = PT at *
  simp [hdu,hlt,pl,b2,is1,show 2 <= maxLen by decide]
theorem wt4 {x1 x3 x4 x7 x8 x9 x10 : V} {t s w : List Nat} (ht : t.length < 900000) (hw : w.length < 1000) : evS theP (.asg 2 (.bin .add (.loc 2) (.ite (.cmp .eq (.loc 5) (.cStr [115,116,114,105,110,103])) (.bin .add (.bin .add (.cStr [34]) (.loc 6)) (.cStr [34])) (.loc 6)))) d [.ref p,x1,.str t,x3,x4,.str s,.str w,x7,x8,x9,x10] σ = some ⟨.none,.nxt,[.ref p,x1,.str (t ++ bodyW s w),x3,x4,.str s,.str w,x7,x8,x9,x10],σ⟩ := by
  by_cases hs : s = kString
  · subst hs
    have b5 := add_str (x := [34]) (y := w) (by simp) (by omega)
    have b6 := add_str (x := 34 :: w) (y := [34]) (by simp; omega) (by simp)
    have b7 := add_str (x := t) (y := 34 :: (w ++ [34])) (by omega) (by simp; omega)
    simp only [List.cons_append,List.nil_append] at b5 b6
    simp [b5,b6,b7,bodyW]
  · have b7 := add_str (x := t) (y := w) (by omega) (by omega)
    simp [b7,bodyW,hs,ne_beq hs]
theorem wr_tail (hpt : p ≠ du) {x1 x10 : V} {t run s w : List Nat} {f : Bool} {k : Nat} {due : List V} (hk : k < 8) (ht : t.length < 900000) (hr : run.length < 900000) (hw : w.length < 1000) (hl : due.length < 90000) (hp : σ[p]? = some (pn sc a)) (hdu : σ[du]? = some (.list due)) (hd : d < 50) :
    ∃ σ',evS theP wrTail d [.ref p,x1,.str t,.ref du,.str run,.str s,.str w,.bool f,gapV k,.bool (isRun s w),x10] σ = some ⟨.none,.nxt,[.ref p,x1,.str (t ++ bodyW s w),.ref du,.str (nrun run s w k),.str s,.str w,.bool f,gapV k,.bool (isRun s w),x10],σ'⟩ /\ Gq sc p du σ a (due ++ [posT s w t]) σ' := by
  have r1 := (Gq.refl hp hdu).setD hpt (due ++ [posT s w t])
  refine ⟨_,?_,r1⟩
  have q1 : (if k = 0 then run else []).length < 901000 := by
    split
    · omega
    · simp
  rw [wrTail_eq,s_seq,wt1 hk]
  simp only [ob_s,sk_n]
  rw [s_seq,wt2 q1 (by omega)]
  simp only [ob_s,sk_n]
  rw [s_seq,wt3 ht hl hdu hd]
  simp only [ob_s,sk_n]
  rw [wt4 ht hw]
  rfl
theorem wt5 {x1 x10 : V} {t run s w : List Nat} {f b : Bool} {k : Nat} (hk : k < 8) : ∃ k',k' < 8 /\ (k < 4 -> k' < 4) /\ (k' = 0 -> b = true -> run = [] \/ run = [58] \/ w = [58]) /\ evS theP wrIf d [.ref p,x1,.str t,.ref du,.str run,.str s,.str w,.bool f,gapV k,.bool b,x10] σ = some ⟨.none,.nxt,[.ref p,x1,.str t,.ref du,.str run,.str s,.str w,.bool f,gapV k',.bool b,x10],σ⟩ := by
  have vg := veq_gap k hk
  rw [wrIf_eq]
  by_cases k0 : k = 0
  · rw [decide_eq_true k0] at vg
    cases b with
    | false => exact ⟨k,hk,fun h => h,fun _ h => (by cases h),by simp [vg]⟩
    | true =>
      by_cases h1 : run = []
      · subst h1
        exact ⟨k,hk,fun h => h,fun _ _ => Or.inl rfl,by simp [vg]⟩
      · by_cases h2 : run = [58]
        · subst h2
          exact ⟨k,hk,fun h => h,fun _ _ => Or.inr (Or.inl rfl),by simp [vg]⟩
        · have h1' := ne_beq (fun e => h1 e.symm : ¬ ([] : List Nat) = run)
          have h2' := ne_beq (fun e => h2 e.symm : ¬ [58] = run)
          by_cases h3 : w = [58]
          · subst h3
            exact ⟨k,hk,fun h => h,fun _ _ => Or.inr (Or.inr rfl),by simp [vg,h1',h2']⟩
          · exact ⟨1,by decide,fun _ => by decide,fun h => (by cases h),by simp [vg,h1',h2',ne_beq h3]; rfl⟩
  · refine ⟨k,hk,fun h => h,fun h => absurd h k0,?_⟩
    rw [decide_eq_false k0] at vg
    simp [vg]
theorem wt6 {x1 x4 x7 x8 x9 x10 t du' : V} {s w : List Nat} : evS theP (.asg 9 (.or (.cmp .eq (.loc 5) (.cStr [119,111,114,100])) (.cmp .isin (.loc 6) (.tup (.cons (.cStr [46]) (.cons (.cStr [58]) .nil)))))) d [.ref p,x1,t,du',x4,.str s,.str w,x7,x8,x9,x10] σ = some ⟨.none,.nxt,[.ref p,x1,t,du',x4,.str s,.str w,x7,x8,.bool (isRun s w),x10],σ⟩ := by
  have m2 : 2 <= maxLen := by decide
  have e : ∀ y : Nat,([y] == w) = (w == [y]) := fun y => by
    cases h : (w == [y])
    · have := beq_eq_false_iff_ne.mp h
      exact beq_eq_false_iff_ne.mpr (Ne.symm this)
    · have := beq_iff_eq.mp h
      exact beq_iff_eq.mpr this.symm
  by_cases hs : s = kWord
  · simp [hs,isRun]
  · have : (s == kWord) = false := beq_eq_false_iff_ne.mpr hs
    simp [hs,isRun,this,m2,e]
theorem wt7 (hs : Scr sc) (hl : sc.length <= 63) (ha : a < 900000) (hp : σ[p]? = some (pn sc a)) {x1 x2 x3 x4 x5 x6 x8 x9 x10 : V} {f : Bool} (hd : d < 50) : ∃ k,k < 8 /\ (f = false -> k < 4) /\ evS theP (.asg 8 (.idx (.glob 1) (.call 51 (.cons (.loc 0) (.cons (.ite (.loc 7) (.cInt (8)) (.cInt (4))) .nil))))) d [.ref p,x1,x2,x3,x4,x5,x6,.bool f,x8,x9,x10] σ = some ⟨.none,.nxt,[.ref p,x1,x2,x3,x4,x5,x6,.bool f,gapV k,x9,x10],σ.set p (pn sc (a + 1))⟩ := by
  have gl : theP.glob 1 = some gapsV := rfl
  have dg : ∀ σ,deref σ gapsV = some gapsV := fun _ => rfl
  obtain ⟨k,hk,l0⟩ := draw_ok (σ := σ) (p := p) (d := d) (ρ := [.ref p,x1,x2,x3,x4,x5,x6,.bool f,x8,x9,x10]) hs hl hp (by omega) (m := if f then 8 else 4) (by split <;> decide) (by omega)
  have hk8 : k < 8 := by split at hk <;> omega
  refine ⟨k,hk8,fun h => by subst h; simpa using hk,?_⟩
  have it := item_gaps k hk8
  have ig := gapV_some k
  cases f <;> simp at l0 <;> simp [gl,l0,dg,it,ig]
inductive wr_step_o (sc : List V) (σ : List O) (p : Nat) (du : Nat) (a : Nat) (d : Nat) (x1 : V) (x8 : V) (x9 : V) (x10 : V) (t : List Nat) (run : List Nat) (s : List Nat) (w : List Nat) (f : Bool) (due : List V) : Prop
  | mk (k : _) (hh1 : Adm1 run s w f k) (y8 : _) (y9 : _) (y10 : _) (σ' : _) (hh2 : evS theP wrBody d [.ref p,x1,.str t,.ref du,.str run,.str s,.str w,.bool f,x8,x9,x10] σ = some ⟨.none,.nxt,[.ref p,x1,.str (t ++ ((gapsL k).flatten ++ bodyW s w)),.ref du,.str (nrun run s w k),.str s,.str w,.bool f,y8,y9,y10],σ'⟩) (hh3 : Gq sc p du σ (a + 1) (due ++ (gapDue t (gapsL k) ++ [posT s w (t ++ (gapsL k).flatten)])) σ') : wr_step_o sc σ p du a d x1 x8 x9 x10 t run s w f due
theorem wr_step (hs : Scr sc) (hl : sc.length <= 63) (hpt : p ≠ du) {x1 x8 x9 x10 : V} {t run s w : List Nat} {f : Bool} {due : List V} (ha : a < 900000) (ht : t.length < 800000) (hr : run.length <= t.length) (hw : w.length < 1000) (hdl : due.length < 80000) (hp : σ[p]? = some (pn sc a)) (hdu : σ[du]? = some (.list due)) (hd : d < 50) :
    wr_step_o sc σ p du a d x1 x8 x9 x10 t run s w f due := by
  obtain ⟨k0,h1,h2,e1⟩ := wt7 (x1 := x1) (x2 := .str t) (x3 := .ref du) (x4 := .str run) (x5 := .str s) (x6 := .str w) (x8 := x8) (x9 := x9) (x10 := x10) (f := f) hs hl ha hp hd
  obtain ⟨k,h3,h4,h5,e2⟩ := wt5 (p := p) (du := du) (σ := σ.set p (pn sc (a + 1))) (d := d) (x1 := x1) (x10 := x10) (t := t) (run := run) (s := s) (w := w) (f := f) (b := isRun s w) h1
  have r1 := (Gq.refl hp hdu).setP hpt (a + 1)
  have gn := gaps_len k h3
  obtain ⟨y10,σ2,e3,r2⟩ := gap_loop hpt (d := d) (x1 := x1) (x4 := .str run) (x5 := .str s) (x6 := .str w) (x7 := .bool f) (x8 := gapV k) (x9 := .bool (isRun s w)) hd (gapsL k) t due _ x10 (by omega) (by omega) r1.gp r1.gd
  have gdl : ∀ (ps : List (List Nat)) (t : List Nat),(gapDue t ps).length <= ps.length := fun ps => by
    induction ps with
    | nil => intro t; simp [gapDue]
    | cons x r ih =>
      intro t
      have := ih (t ++ x)
      simp only [gapDue,List.length_append,List.length_cons]
      split <;> simp <;> omega
  have gd2 := gdl (gapsL k) t
  obtain ⟨σ3,e4,r3⟩ := wr_tail (d := d) hpt (x1 := x1) (x10 := y10) (t := t ++ (gapsL k).flatten) (run := run) (s := s) (w := w) (f := f) h3 (by rw [List.length_append]; omega) (by omega) hw (by rw [List.length_append]; omega) r2.gp r2.gd hd
  refine ⟨k,⟨h3,fun h => h4 (h2 h),h5⟩,gapV k,.bool (isRun s w),y10,σ3,?_,by simpa [List.append_assoc] using (r1.trans r2).trans r3⟩
  have gg : getLoc [.ref p,x1,.str t,.ref du,.str run,.str s,.str w,.bool f,gapV k,.bool (isRun s w),x10] 8 = some (gapV k) := rfl
  have io : itOf (σ.set p (pn sc (a + 1))) (gapV k) = some (.vals ((gapsL k).map .str)) := rfl
  rw [wrBody_eq,s_seq,e1]
  simp only [ob_s,sk_n]
  rw [s_seq,wt6]
  simp only [ob_s,sk_n]
  rw [s_seq,e2]
  simp only [ob_s,sk_n]
  rw [s_seq,wrG_eq,s_forr,e_loc,gg]
  simp only [ob_s,sk_n,io,e3,K1_,K117_,K118_]
  rw [e4,List.append_assoc]
end
noncomputable def wduN : List Nat -> List (G × Nat) -> List V
  | _,[] => []
  | t,(g,k) :: r => gapDue t (gapsL k) ++ (posT g.1 g.2.1 (t ++ (gapsL k).flatten) :: wduN (t ++ ((gapsL k).flatten ++ bodyW g.1 g.2.1)) r)
section
variable {sc : List V} {σ σ' : List O} {p du a : Nat} {d : Nat} {ρ : List V} {xs ys : List V}
theorem gapDue_len : ∀ (ps : List (List Nat)) (t : List Nat),(gapDue t ps).length <= ps.length := fun ps => by
    induction ps with
    | nil => intro t; simp [gapDue]
    | cons x r ih =>
      intro t
      have := ih (t ++ x)
      simp only [gapDue,List.length_append,List.length_cons]
      split <;> simp <;> omega
theorem body_len {s w : List Nat} : (bodyW s w).length <= w.length + 2 /\ w.length <= (bodyW s w).length := by
  simp only [bodyW]
  split <;> simp <;> omega
inductive wr_loop_o (sc : List V) (p : Nat) (du : Nat) (d : Nat) (x1 : V) (gens : List G) (t : List Nat) (run : List Nat) (due : List V) (a : Nat) (σ : List O) (x5 : V) (x6 : V) (x7 : V) (x8 : V) (x9 : V) (x10 : V) : Prop
  | mk (l : _) (hh1 : l.map (·.1) = gens) (hh2 : AdmL run l) (x4 : _) (y5 : _) (y6 : _) (y7 : _) (y8 : _) (y9 : _) (y10 : _) (σ' : _) (hh3 : ev theP (.iter [5,6,7] (.vals (gens.map gv)) wrBody) d [.ref p,x1,.str t,.ref du,.str run,x5,x6,x7,x8,x9,x10] σ = some ⟨.none,.nxt,[.ref p,x1,.str (t ++ wtx l),.ref du,x4,y5,y6,y7,y8,y9,y10],σ'⟩) (hh4 : Gq sc p du σ (a + gens.length) (due ++ wduN t l) σ') (hh5 : (t ++ wtx l).length <= t.length + 32 * gens.length) (hh6 : (wduN t l).length <= 3 * gens.length) : wr_loop_o sc p du d x1 gens t run due a σ x5 x6 x7 x8 x9 x10
theorem wr_loop (hs : Scr sc) (hl : sc.length <= 63) (hpt : p ≠ du) {x1 : V} (hd : d < 50) : ∀ (gens : List G) (t run : List Nat) (due : List V) (a : Nat) (σ : List O) (x5 x6 x7 x8 x9 x10 : V),(∀ g ∈ gens,g.2.1.length < 20) -> a + gens.length < 900000 -> t.length + 32 * gens.length < 800000 -> due.length + 3 * gens.length < 80000 -> run.length <= t.length -> σ[p]? = some (pn sc a) -> σ[du]? = some (.list due) →
    wr_loop_o sc p du d x1 gens t run due a σ x5 x6 x7 x8 x9 x10
  | [],t,run,due,a,σ,x5,x6,x7,x8,x9,x10,_,h1,h2,h3,h4,hp,hdu => by
    refine ⟨[],rfl,trivial,.str run,x5,x6,x7,x8,x9,x10,σ,?_,by simpa [wduN] using Gq.refl hp hdu,by simp [wtx],by simp [wduN]⟩
    rw [l_iter]; simp [wtx]
  | (s,w,f) :: r,t,run,due,a,σ,x5,x6,x7,x8,x9,x10,hw,h1,h2,h3,h4,hp,hdu => by
    simp only [List.length_cons] at h1 h2 h3
    have hw0 : w.length < 20 := hw (s,w,f) (by simp)
    obtain ⟨k,ad,y8,y9,y10,σ1,e1,r1⟩ := wr_step (d := d) (x1 := x1) (x8 := x8) (x9 := x9) (x10 := x10) (t := t) (run := run) (s := s) (w := w) (f := f) hs hl hpt (by omega) (by omega) h4 (by omega) (by omega) hp hdu hd
    have gn := gaps_len k ad.1
    have gd2 := gapDue_len (gapsL k) t
    have bl := body_len (s := s) (w := w)
    have nl : (nrun run s w k).length <= (t ++ ((gapsL k).flatten ++ bodyW s w)).length := by
      rw [List.length_append,List.length_append]
      simp only [nrun]
      split
      · rw [List.length_append]; split
        · omega
        · simp; omega
      · simp
    obtain ⟨l,l1,l2,x4,z5,z6,z7,z8,z9,z10,σ2,e2,r2,b1,b2⟩ := wr_loop hs hl hpt (x1 := x1) hd r (t ++ ((gapsL k).flatten ++ bodyW s w)) (nrun run s w k) _ (a + 1) σ1 (.str s) (.str w) (.bool f) y8 y9 y10 (fun g hg => hw g (by simp [hg])) (by omega) (by rw [List.length_append,List.length_append]; omega) (by simp only [List.length_append,List.length_cons,List.length_nil]; omega) nl r1.gp r1.gd
    refine ⟨((s,w,f),k) :: l,by simp [l1],⟨ad,l2⟩,x4,z5,z6,z7,z8,z9,z10,σ2,?_,?_,?_,?_⟩
    · rw [l_iter]
      have st : stOne [.ref p,x1,.str t,.ref du,.str run,x5,x6,x7,x8,x9,x10] [5,6,7] (gv (s,w,f)) = some [.ref p,x1,.str t,.ref du,.str run,.str s,.str w,.bool f,x8,x9,x10] := rfl
      simp only [nx_1,List.map_cons,ob_s,nk_1,ntB_,st,e1,nt_n]
      rw [e2]
      simp [wtx,List.append_assoc]
    · have := r1.trans r2
      rw [List.length_cons,show a + (r.length + 1) = a + 1 + r.length by omega]
      simpa [wduN,List.append_assoc] using this
    · simp only [List.length_append,wtx,List.length_cons] at b1 ⊢; omega
    · simp only [List.length_append,wduN,List.length_cons] at b2 ⊢; omega
theorem c_law_written_eq : c_law_written = .seq (.asg 2 (.cStr [])) (.seq (.asgNew 3 .nil) (.seq (.asg 4 (.cStr [])) (.seq (.forr [5,6,7] (.loc 1) wrBody) (.seq (.ex (.append (.loc 3) (.bin .add (.tup (.cons (.cStr [101,111,102]) (.cons (.cStr []) .nil))) (.call 56 (.cons (.loc 2) .nil))))) (.ret (.tup (.cons (.loc 2) (.cons (.loc 3) .nil)))))))) := rfl
inductive law_written_ok_o (sc : List V) (σ : List O) (p : Nat) (a : Nat) (d : Nat) (ρ : List V) (gens : List G) : Prop
  | mk (l : _) (hh1 : l.map (·.1) = gens) (hh2 : AdmL [] l) (σ' : _) (hh3 : ev theP (.call 57 [.ref p,.lst (gens.map gv)]) d ρ σ = some ⟨.tup [.str (wtx l),.ref σ.length],.nxt,ρ,σ'⟩) (hh4 : Gw sc p σ (a + gens.length) σ') (hh5 : σ'[σ.length]? = some (.list (wduN [] l ++ [posT kEof [] (wtx l)]))) (hh6 : (wtx l).length <= 32 * gens.length) (hh7 : (wduN [] l).length <= 3 * gens.length) : law_written_ok_o sc σ p a d ρ gens
theorem law_written_ok (hs : Scr sc) (hl : sc.length <= 63) (gens : List G) (hw : ∀ g ∈ gens,g.2.1.length < 20) (hg : gens.length < 20000) (ha : a < 100000) (hp : σ[p]? = some (pn sc a)) (hd : d < 48) :
    law_written_ok_o sc σ p a d ρ gens := by
  have hpl := (List.getElem?_eq_some_iff.mp hp).1
  have hp2 : (σ ++ [O.list []])[p]? = some (pn sc a) := by rw [List.getElem?_append_left hpl]; exact hp
  obtain ⟨l,l1,l2,x4,y5,y6,y7,y8,y9,y10,σ1,e1,r1,b1,b2⟩ := wr_loop (d := d + 1) (du := σ.length) hs hl (by omega) (x1 := .lst (gens.map gv)) (by omega) gens [] [] [] a (σ ++ [O.list []]) .undef .undef .undef .undef .undef .undef hw (by omega) (by simp; omega) (by simp; omega) (by simp) hp2 (by simp)
  simp only [List.nil_append,List.length_nil,Nat.zero_add] at e1 r1 b1
  have r2 := r1.setD (by omega) (wduN [] l ++ [posT kEof [] (wtx l)])
  refine ⟨l,l1,l2,_,?_,⟨r2.gp,?_,fun k h1 h2 => ?_⟩,r2.gd,b1,b2⟩
  · rw [call_of _ _ _ fn_law_written (by omega) rfl]
    have r1d := r1.gd
    have pl := fun ρ σ => place_ok (d := d + 1) (ρ := ρ) (σ := σ) (wtx l) (by omega) (by omega)
    have hlt : (wduN [] l).length < maxLen := by simp only [maxLen]; omega
    have is1 : isSome' (posT kEof [] (wtx l)) = true := rfl
    have b2 : binop .add (.tup [.str [101,111,102],.str []]) (.tup [.int ((pos (wtx l)).1 : Int),.int ((pos (wtx l)).2 : Int)]) = some (posT kEof [] (wtx l)) := rfl
    generalize posT kEof [] (wtx l) = PT at *
    simp [c_law_written_eq,show 0 <= maxLen by decide,e1,r1d,pl,hlt,is1,b2,show 2 <= maxLen by decide]
  · have := r2.gl; simp at this ⊢; omega
  · rw [r2.go k h1 (by omega) (by simp; omega),List.getElem?_append_left h2]
end
theorem lt8 {p : Nat -> Prop} (h1 : p 1) (h2 : p 2) (h3 : p 3) (h4 : p 4) (h5 : p 5) (h6 : p 6) (h7 : p 7) {k : Nat} (hk : k < 8) (h0 : k ≠ 0) : p k := by
  rcases (by omega : k = 1 \/ k = 2 \/ k = 3 \/ k = 4 \/ k = 5 \/ k = 6 \/ k = 7) with rfl | rfl | rfl | rfl | rfl | rfl | rfl <;> assumption
theorem Stp.nil {T t t' : List Nat} {ts : List V} (h : Stp T t ts t' ts) : Stp T t ts t' (ts ++ []) := (List.append_nil ts).symm ▸ h
theorem gaps_stp {T t u : List Nat} {k : Nat} {ts : List V} (hk : k < 8) (h0 : k ≠ 0) (hT : T = t ++ ((gapsL k).flatten ++ u)) (hL : t.length < 800000) (hl : ts.length < 80000) : Stp T t ts (t ++ (gapsL k).flatten) (ts ++ gapDue t (gapsL k)) := by
  have l1 : t.length < 900000 := by omega
  have l2 : ts.length < 90000 := by omega
  revert hT
  refine lt8 (p := fun k => T = t ++ ((gapsL k).flatten ++ u) -> Stp T t ts (t ++ (gapsL k).flatten) (ts ++ gapDue t (gapsL k))) ?_ ?_ ?_ ?_ ?_ ?_ ?_ hk h0 <;> intro hT
  · exact (stp_ws (c := 32) (Or.inl rfl) hT l1).nil
  · exact (stp_bs hT l1).nil
  · have a := stp_ws (ts := ts) (c := 13) (Or.inr (Or.inr rfl)) hT l1
    have b := stp_ws (T := T) (t := t ++ [13]) (u := u) (ts := ts) (c := 9) (Or.inr (Or.inl rfl)) (hT.trans (List.append_assoc t [13] (9 :: u)).symm) (by rw [List.length_append]; show t.length + 1 < _; omega)
    exact (List.append_assoc t [13] [9] ▸ a.trans b).nil
  · exact stp_nl hT l2
  · have a := stp_ws (ts := ts) (c := 32) (Or.inl rfl) hT l1
    have b := stp_cm (T := T) (t := t ++ [32]) (u := u) (w := [32,97,44,32,125,32,34]) (ts := ts) (by decide) (hT.trans (List.append_assoc t [32] _).symm)
    have c := stp_nl (T := T) (t := t ++ [32] ++ 35 :: [32,97,44,32,125,32,34]) (u := u) (ts := ts) (by rw [hT,List.append_assoc,List.append_assoc]; rfl) l2
    have q := (a.trans b).trans c
    rw [List.append_assoc t [32],List.append_assoc t] at q
    exact q
  · have b := stp_cm (T := T) (t := t) (u := u) (w := [92]) (ts := ts) (by decide) hT
    have c := stp_nl (T := T) (t := t ++ 35 :: [92]) (u := u) (ts := ts) (by rw [hT,List.append_assoc]; rfl) l2
    have q := b.trans c
    rw [List.append_assoc t] at q
    exact q
  · have a := stp_nl (T := T) (t := t) (u := 10 :: u) (ts := ts) hT l2
    have b := stp_nl (T := T) (t := t ++ [10]) (u := u) (ts := ts ++ [posT kEnd [10] t]) (by rw [hT,List.append_assoc]; rfl) (by rw [List.length_append]; show ts.length + 1 < _; omega)
    have q := a.trans b
    rw [List.append_assoc t,List.append_assoc ts] at q
    exact q
theorem Brk.cons {c : Nat} {u : List Nat} (h : wordC c = false) : Brk (c :: u) := fun x hx => Option.some.inj hx ▸ h
theorem gaps_brk {k : Nat} (hk : k < 8) (h0 : k ≠ 0) (u : List Nat) : Brk ((gapsL k).flatten ++ u) :=
  lt8 (p := fun k => Brk ((gapsL k).flatten ++ u)) (Brk.cons (c := 32) rfl) (Brk.cons (c := 92) rfl) (Brk.cons (c := 13) rfl) (Brk.cons (c := 10) rfl) (Brk.cons (c := 32) rfl) (Brk.cons (c := 35) rfl) (Brk.cons (c := 10) rfl) hk h0
inductive Kt : List Nat -> List Nat -> Prop
  | sign (c : Nat) (h : c = 123 \/ c = 125 \/ c = 44 \/ c = 124) : Kt kSign [c]
  | dot : Kt kSign [46]
  | col : Kt kSign [58]
  | str (w : List Nat) (h : ∀ c ∈ w,c ≠ 34 /\ c ≠ 10) (h1 : w ≠ [46]) (h2 : w ≠ [58]) : Kt kString w
  | word (w : List Nat) (h : Mid w) (h1 : w ≠ [46]) : Kt kWord w
  | semi : Kt kEnd [59]
theorem Kt.of {s w : List Nat} (h : okT (s,w) = true) : Kt s w := by
  have h := (Bool.and_eq_true_iff.mp h).2
  rcases Bool.or_eq_true_iff.mp h with h | h
  · rcases Bool.or_eq_true_iff.mp h with h | h
    · rcases Bool.or_eq_true_iff.mp h with h | h
      · have h := Bool.and_eq_true_iff.mp h
        obtain rfl : s = kSign := beq_iff_eq.mp h.1
        have h2 : w ∈ [[123],[125],[44],[46],[124],[58]] := List.contains_iff_mem.mp h.2
        rcases List.mem_cons.mp h2 with rfl | h2
        · exact .sign 123 (.inl rfl)
        rcases List.mem_cons.mp h2 with rfl | h2
        · exact .sign 125 (.inr (.inl rfl))
        rcases List.mem_cons.mp h2 with rfl | h2
        · exact .sign 44 (.inr (.inr (.inl rfl)))
        rcases List.mem_cons.mp h2 with rfl | h2
        · exact .dot
        rcases List.mem_cons.mp h2 with rfl | h2
        · exact .sign 124 (.inr (.inr (.inr rfl)))
        obtain rfl := List.mem_singleton.mp h2
        exact .col
      · refine andE h fun h h4 => andE h fun h h3 => andE h fun h1 h2 => ?_
        obtain rfl : s = kString := beq_iff_eq.mp h1
        refine .str w (fun c hc => ?_) (fun e => by rw [e] at h3; exact absurd h3 Bool.false_ne_true) (fun e => by rw [e] at h4; exact absurd h4 Bool.false_ne_true)
        exact andE (List.all_eq_true.mp h2 c hc) fun a b => ⟨bne_iff_ne.mp a,bne_iff_ne.mp b⟩
    · refine andE h fun h1 h => andE h fun h f => andE h fun h e => andE h fun h d => andE h fun h c => andE h fun a b => ?_
      obtain rfl : s = kWord := beq_iff_eq.mp h1
      have n : ∀ {α : Type} [BEq α] [LawfulBEq α] {x y : α},(!(x == y)) = true -> x ≠ y := fun {α _ _ x y} h e => by rw [e,beq_self_eq_true] at h; exact absurd h Bool.false_ne_true
      exact .word w ⟨n d,n b,n c,n f,fun x hx => List.all_eq_true.mp a x hx⟩ (n e)
  · have h := Bool.and_eq_true_iff.mp h
    obtain rfl : s = kEnd := beq_iff_eq.mp h.1
    obtain rfl : w = [59] := beq_iff_eq.mp h.2
    exact .semi
theorem Kt.step {s w : List Nat} (q : Kt s w) (hr : isRun s w = false) {T t u : List Nat} {ts : List V} (hT : T = t ++ (bodyW s w ++ u)) (hL : t.length + w.length < 800000) (hl : ts.length < 80000) : Stp T t ts (t ++ bodyW s w) (ts ++ [posT s w t]) := by
  cases q with
  | sign c h => exact stp_sign h hT (by omega) (by omega)
  | dot => exact absurd hr.symm Bool.false_ne_true
  | col => exact absurd hr.symm Bool.false_ne_true
  | str w h h1 h2 => exact stp_str (u := u) h (by rw [hT]; simp [bodyW]) (by omega) (by omega)
  | word w h h1 => exact absurd hr.symm Bool.false_ne_true
  | semi => exact stp_semi hT (by omega)
theorem Kt.brk {s w : List Nat} (q : Kt s w) (hr : isRun s w = false) (u : List Nat) : Brk (bodyW s w ++ u) := by
  cases q with
  | sign c h => exact Brk.cons (c := c) (by rcases h with rfl | rfl | rfl | rfl <;> rfl)
  | dot => exact absurd hr.symm Bool.false_ne_true
  | col => exact absurd hr.symm Bool.false_ne_true
  | str w h h1 h2 => exact Brk.cons (c := 34) rfl
  | word w h h1 => exact absurd hr.symm Bool.false_ne_true
  | semi => exact Brk.cons (c := 59) rfl
inductive Pd (t : List Nat) : List Nat -> List V -> Bool -> Prop
  | none : Pd t [] [] false
  | col : Pd t [58] [posT kSign [58] t] true
  | run (b0 b : Bool) (m : List Nat) (h : Mid m) : Pd t (runOf b0 m b) (runToks b0 m b t) b
theorem Pd.flush {t run : List Nat} {pend : List V} {q : Bool} (h : Pd t run pend q) {T u : List Nat} {ts : List V} (hu : Brk u) (hT : T = t ++ (run ++ u)) (hL : t.length + run.length < 800000) (hl : ts.length < 80000) : Stp T t ts (t ++ run) (ts ++ pend) := by
  cases h with
  | none => simpa using Stp.refl T t ts
  | col => exact stp_colon hu hT (by omega) (by omega)
  | run b0 b m h => exact stp_run h hu hT (by omega) (by omega)
theorem colon_plain (b : Bool) : ∀ c ∈ colon b,c ≠ 10 := by cases b <;> simp [colon]
theorem mid_one (m : List Nat) (h : Mid m) (t : List Nat) (b0 : Bool) : posT (midS m) m (t ++ colon b0) = tk (midS m) m ((pos t).1 : Int) (((pos t).2 : Int) + preN b0) := by
  have := pos_plain (colon b0) t (colon_plain b0)
  rw [posT,this]
  cases b0 <;> simp [colon,preN]
theorem runToks_eq (b0 b : Bool) (m : List Nat) (h : Mid m) (t : List Nat) : runToks b0 m b t = (if b0 then [posT kSign [58] t] else []) ++ (posT (midS m) m (t ++ colon b0) :: (if b then [posT kSign [58] (t ++ (colon b0 ++ m))] else [])) := by
  have h1 := mid_one m h t b0
  have h2 : posT kSign [58] (t ++ (colon b0 ++ m)) = tk kSign [58] ((pos t).1 : Int) (((pos t).2 : Int) + preN b0 + m.length) := by
    have := pos_plain (colon b0 ++ m) t (fun c hc => by
      rcases List.mem_append.mp hc with hc | hc
      · exact colon_plain b0 c hc
      · exact (wordC_no (h.wc c hc)).1)
    rw [posT,this]
    cases b0 <;> simp [colon,preN]
    omega
  rw [h1,h2]
  cases b0 <;> cases b <;> simp [runToks,preToks,prToks]
theorem Kt.midS {w : List Nat} (h1 : w ≠ [46]) : midS w = kWord := by simp [Mine.midS,h1]
theorem mid46 : Mid [46] := ⟨by decide,by decide,by decide,by decide,by decide⟩
theorem Pd.run' {t run : List Nat} {pend : List V} (b0 b : Bool) {m : List Nat} (h : Mid m) (e1 : runOf b0 m b = run)
    (e2 : (if b0 then [posT kSign [58] t] else []) ++ (posT (midS m) m (t ++ colon b0) :: (if b then [posT kSign [58] (t ++ (colon b0 ++ m))] else [])) = pend) : Pd t run pend b := by
  rw [← e1,← e2,← runToks_eq b0 b m h]; exact .run b0 b m h
theorem run_ne {m : List Nat} (h : Mid m) (b0 b : Bool) : runOf b0 m b ≠ [] /\ (runOf b0 m b = [58] -> False) := by
  have h1 := h.ne
  have h2 := h.hd
  have h3 := h.la
  obtain ⟨x,r,rfl⟩ := List.exists_cons_of_ne_nil h1
  cases b0 with
  | true => exact ⟨List.cons_ne_nil _ _,fun e => List.cons_ne_nil _ _ (List.cons.inj e).2⟩
  | false =>
    refine ⟨List.cons_ne_nil _ _,fun e => ?_⟩
    exact h2 (congrArg some (List.cons.inj e).1)
theorem Pd.ext {t run : List Nat} {pend : List V} {q : Bool} (h : Pd t run pend q) {s w : List Nat} (k : Kt s w) (hr : isRun s w = true) (ha : run = [] \/ run = [58] \/ w = [58]) (hq : q = true -> w ≠ [58]) : ∃ q',Pd t (run ++ w) (pend ++ [posT s w (t ++ run)]) q' /\ (q' = true -> w = [58]) := by
  have nr : ∀ {b0 b m},Mid m -> run = runOf b0 m b -> w ≠ [58] -> False := fun {b0 b m} h e n => ha.elim (fun z => (run_ne h b0 b).1 (e ▸ z)) fun z => z.elim (fun z => (run_ne h b0 b).2 (e ▸ z)) n
  cases k with
  | sign c h => rcases h with rfl | rfl | rfl | rfl <;> exact absurd hr Bool.false_ne_true
  | str w h h1 h2 => exact absurd (hr.symm.trans (show isRun kString w = false by rw [isRun,beq_eq_false_iff_ne.mpr h1,beq_eq_false_iff_ne.mpr h2]; rfl)).symm Bool.false_ne_true
  | semi => exact absurd hr Bool.false_ne_true
  | dot =>
    cases h with
    | none => exact ⟨false,.run' false false mid46 rfl rfl,Bool.noConfusion⟩
    | col => exact ⟨false,.run' true false mid46 rfl rfl,Bool.noConfusion⟩
    | run b0 _ m h => exact (nr h rfl (by decide)).elim
  | word w hm h1 =>
    have n58 : w ≠ [58] := fun e => hm.hd (by rw [e]; rfl)
    cases h with
    | none => exact ⟨false,.run' false false hm (List.append_nil w) (by rw [Kt.midS h1]; rfl),Bool.noConfusion⟩
    | col => exact ⟨false,.run' true false hm (congrArg (58 :: ·) (List.append_nil w)) (by rw [Kt.midS h1]; rfl),Bool.noConfusion⟩
    | run b0 _ m h => exact (nr h rfl n58).elim
  | col =>
    cases h with
    | none => exact ⟨true,show Pd t [58] [posT kSign [58] (t ++ [])] true from (List.append_nil t).symm ▸ Pd.col (t := t),fun _ => rfl⟩
    | col => exact absurd rfl (hq rfl)
    | run b0 _ m h =>
      cases q with
      | true => exact absurd rfl (hq rfl)
      | false =>
        refine ⟨true,.run' b0 true h ?_ ?_,fun _ => rfl⟩
        · rw [runOf,runOf,colon,List.append_assoc,List.append_assoc]; rfl
        · rw [runToks_eq _ _ _ h,runOf,List.append_assoc]
          show _ = _ ++ ([posT (midS m) m (t ++ colon b0)] ++ [posT kSign [58] (t ++ (colon b0 ++ (m ++ [])))])
          rw [List.append_nil]; rfl
theorem wduN_app : ∀ (l1 l2 : List (G × Nat)) (t : List Nat),wduN t (l1 ++ l2) = wduN t l1 ++ wduN (t ++ wtx l1) l2
  | [],l2,t => by simp [wduN,wtx]
  | (g,k) :: r,l2,t => by
    simp only [List.cons_append,wduN,wduN_app r l2,wtx,List.append_assoc]
theorem tok_all {T : List Nat} (hL : T.length < 700000) : ∀ (l : List (G × Nat)) (t run : List Nat) (pend : List V) (q p : Bool) (ts : List V),Pd t run pend q -> (q = true -> p = true) -> AdmL run l -> (∀ x ∈ l,okT (un x.1) = true) -> (cc p (l.map fun x => un x.1)).isSome = true -> T = t ++ (run ++ wtx l) -> ts.length + pend.length + (wduN (t ++ run) l).length < 70000 →
    Stp T t ts T (ts ++ (pend ++ wduN (t ++ run) l))
  | [],t,run,pend,q,p,ts,hP,hq,ha,ho,hc,hT,hl => by
    have hT2 : T = t ++ (run ++ []) := hT
    have h := hP.flush (ts := ts) (u := []) (fun c h => by cases h) hT2 (by rw [hT] at hL; simp only [List.length_append] at hL; omega) (by omega)
    have e : t ++ run = T := by rw [hT2]; simp
    rw [e] at h
    simpa [wduN] using h
  | ((s,w,f),k) :: r,t,run,pend,q,p,ts,hP,hq,ha,ho,hc,hT,hl => by
    obtain ⟨⟨k8,k4,kz⟩,ha2⟩ := ha
    have kt := Kt.of (s := s) (w := w) (ho ((s,w,f),k) (by simp))
    have ho2 : ∀ x ∈ r,okT (un x.1) = true := fun x hx => ho x (by simp [hx])
    have hLL : t.length + (run.length + ((gapsL k).flatten.length + ((bodyW s w).length + (wtx r).length))) < 700000 := by
      rw [hT] at hL; simpa [wtx,List.length_append] using hL
    have bl := body_len (s := s) (w := w)
    have hc2 : (cc (decide (w = [58])) (r.map fun x => un x.1)).isSome = true /\ (w = [58] -> p = false) := by
      have e : (List.map (fun x : G × Nat => un x.1) (((s,w,f),k) :: r)) = (s,w) :: r.map (fun x => un x.1) := rfl
      rw [e] at hc
      simp only [cc] at hc
      by_cases h58 : w = [58]
      · subst h58
        cases p with
        | true => simp at hc
        | false => exact ⟨by simpa using hc,fun _ => rfl⟩
      · exact ⟨by simpa [h58] using hc,fun h => absurd h h58⟩
    simp only [wduN,List.length_append,List.length_cons] at hl
    by_cases k0 : k = 0
    · subst k0
      have g0 : (gapsL 0).flatten = [] := rfl
      have d0 : ∀ t,gapDue t (gapsL 0) = [] := fun _ => rfl
      simp only [g0,d0,List.length_nil,List.append_nil,List.nil_append] at hl hLL
      cases hr : isRun s w with
      | true =>
        have hb : bodyW s w = w := by
          cases kt with
          | str w h h1 h2 => simp [isRun,h1,h2] at hr
          | sign c h => rfl
          | dot => rfl
          | col => rfl
          | word w h h1 => rfl
          | semi => rfl
        obtain ⟨q',p1,p2⟩ := hP.ext kt hr (kz rfl hr) (fun h e => by have := hc2.2 e; rw [hq h] at this; cases this)
        have hn : nrun run s w 0 = run ++ w := by simp [nrun,hr]
        simp only [hn] at ha2
        rw [hb] at hl
        have ih := tok_all hL r t (run ++ w) _ q' (decide (w = [58])) ts p1 (fun h => by simp [p2 h]) ha2 ho2 hc2.1 (by rw [hT]; simp [wtx,g0,hb]) (by simp only [List.length_append,List.length_cons,List.length_nil,← List.append_assoc] at hl ⊢; omega)
        simpa [wduN,g0,d0,hb,List.append_assoc] using ih
      | false =>
        have hn : nrun run s w 0 = [] := by simp [nrun,hr]
        simp only [hn] at ha2
        have h1 := hP.flush (T := T) (ts := ts) (kt.brk hr (wtx r)) (by rw [hT]; simp [wtx,g0]) (by omega) (by omega)
        have h2 := kt.step hr (T := T) (t := t ++ run) (u := wtx r) (ts := ts ++ pend) (by rw [hT]; simp [wtx,g0]) (by simp; omega) (by simp; omega)
        have ih := tok_all hL r (t ++ run ++ bodyW s w) [] [] false (decide (w = [58])) (ts ++ pend ++ [posT s w (t ++ run)]) .none (fun h => by cases h) ha2 ho2 hc2.1 (by rw [hT]; simp [wtx,g0]) (by simp only [List.length_append,List.length_cons,List.length_nil,List.append_nil] at hl ⊢; omega)
        have := (h1.trans h2).trans ih
        simpa [wduN,g0,d0,List.append_assoc] using this
    · have h1 := hP.flush (T := T) (ts := ts) (gaps_brk k8 k0 (bodyW s w ++ wtx r)) (by rw [hT]; simp [wtx]) (by omega) (by omega)
      have h2 := gaps_stp k8 k0 (T := T) (t := t ++ run) (u := bodyW s w ++ wtx r) (ts := ts ++ pend) (by rw [hT]; simp [wtx]) (by simp; omega) (by simp; omega)
      have h12 := h1.trans h2
      cases hr : isRun s w with
      | true =>
        have hb : bodyW s w = w := by
          cases kt with
          | str w h h1 h2 => simp [isRun,h1,h2] at hr
          | sign c h => rfl
          | dot => rfl
          | col => rfl
          | word w h h1 => rfl
          | semi => rfl
        obtain ⟨q',p1,p2⟩ := (Pd.none (t := t ++ run ++ (gapsL k).flatten)).ext kt hr (Or.inl rfl) (fun h => by cases h)
        have hn : nrun run s w k = w := by simp [nrun,hr,k0]
        simp only [hn] at ha2
        rw [hb] at hl
        simp only [List.nil_append] at p1
        have ih := tok_all hL r (t ++ run ++ (gapsL k).flatten) w _ q' (decide (w = [58])) (ts ++ pend ++ gapDue (t ++ run) (gapsL k)) p1 (fun h => by simp [p2 h]) ha2 ho2 hc2.1 (by rw [hT]; simp [wtx,hb]) (by simp only [List.length_append,List.length_cons,List.length_nil,List.append_assoc] at hl ⊢; omega)
        have := h12.trans ih
        simpa [wduN,hb,List.append_assoc] using this
      | false =>
        have hn : nrun run s w k = [] := by simp [nrun,hr]
        simp only [hn] at ha2
        have h3 := kt.step hr (T := T) (t := t ++ run ++ (gapsL k).flatten) (u := wtx r) (ts := ts ++ pend ++ gapDue (t ++ run) (gapsL k)) (by rw [hT]; simp [wtx]) (by simp only [List.length_append]; omega) (by simp; omega)
        have ih := tok_all hL r (t ++ run ++ (gapsL k).flatten ++ bodyW s w) [] [] false (decide (w = [58])) (ts ++ pend ++ gapDue (t ++ run) (gapsL k) ++ [posT s w (t ++ run ++ (gapsL k).flatten)]) .none (fun h => by cases h) ha2 ho2 hc2.1 (by rw [hT]; simp [wtx]) (by simp only [List.length_append,List.length_cons,List.length_nil,List.append_nil,List.append_assoc] at hl ⊢; omega)
        have := (h12.trans h3).trans ih
        simpa [wduN,List.append_assoc] using this
theorem gapDue_rows : ∀ (ps : List (List Nat)) (t : List Nat),∀ x ∈ gapDue t ps,∃ row col,x = tk kEnd [10] row col
  | [],t,x,h => by simp [gapDue] at h
  | y :: r,t,x,h => by
    simp only [gapDue,List.mem_append] at h
    rcases h with h | h
    · split at h
      · simp only [List.mem_singleton] at h; exact ⟨_,_,h⟩
      · simp at h
    · exact gapDue_rows r _ x h
theorem gapDue_none {k : Nat} (h : k < 4) (t : List Nat) : gapDue t (gapsL k) = [] := by
  refine c4 h ?_ ?_ ?_ ?_
  · rfl
  · rfl
  · rfl
  · rfl
theorem mt_of {D : List V} : ∀ (l : List (G × Nat)) (t run : List Nat) (pre rest : List V),AdmL run l -> D = pre ++ (wduN t l ++ rest) -> Mt D pre.length (l.map (·.1)) (pre.length + (wduN t l).length)
  | [],t,run,pre,rest,ha,hD => by simp [Mt,wduN]
  | ((s,w,f),k) :: r,t,run,pre,rest,ha,hD => by
    obtain ⟨⟨k8,k4,kz⟩,ha2⟩ := ha
    have rows := gapDue_rows (gapsL k) t
    have ih := mt_of (D := D) r (t ++ ((gapsL k).flatten ++ bodyW s w)) _ (pre ++ (gapDue t (gapsL k) ++ [posT s w (t ++ (gapsL k).flatten)])) rest ha2 (by rw [hD]; simp [wduN,List.append_assoc])
    refine ⟨(gapDue t (gapsL k)).length,fun h => by rw [gapDue_none (k4 h)]; rfl,fun j hj => ?_,⟨((pos (t ++ (gapsL k).flatten)).1 : Int),((pos (t ++ (gapsL k).flatten)).2 : Int),?_⟩,?_⟩
    · obtain ⟨row,col,e⟩ := rows _ (List.getElem_mem hj)
      refine ⟨row,col,?_⟩
      rw [hD,List.getElem?_append_right (by omega),show pre.length + j - pre.length = j by omega]
      simp only [wduN,List.append_assoc]
      rw [List.getElem?_append_left hj,List.getElem?_eq_getElem hj,e]
    · rw [hD,List.getElem?_append_right (by omega),show pre.length + (gapDue t (gapsL k)).length - pre.length = (gapDue t (gapsL k)).length by omega]
      simp only [wduN,List.append_assoc]
      rw [List.getElem?_append_right (by omega)]
      simp
    · have e1 : (pre ++ (gapDue t (gapsL k) ++ [posT s w (t ++ (gapsL k).flatten)])).length = pre.length + (gapDue t (gapsL k)).length + 1 := by simp; omega
      rw [e1] at ih
      have e2 : pre.length + (wduN t (((s,w,f),k) :: r)).length = pre.length + (gapDue t (gapsL k)).length + 1 + (wduN (t ++ ((gapsL k).flatten ++ bodyW s w)) r).length := by simp [wduN]; omega
      rw [e2]
      exact ih
theorem fn_law_kinds : theP.fn 58 = some ⟨1,1,[],c_law_kinds⟩ := rfl
theorem fn_law : theP.fn 59 = some ⟨1,11,[],c_law⟩ := rfl
theorem fn_R_init : theP.fn 60 = some ⟨3,3,[],c_R_init⟩ := rfl
theorem fn_T_init : theP.fn 70 = some ⟨3,3,[],c_T_init⟩ := rfl
theorem seqEq_self {l : List V} (h : dataOks 8 l = true) : seqEq l l = some true := by
  unfold seqEq
  rw [if_pos h]
  cases l with
  | nil => rfl
  | cons a r => exact if_pos rfl
theorem veq_lst {l : List V} (h : dataOks 8 l = true) : veq (.lst l) (.lst l) = some true := seqEq_self h
theorem veq_tup {l : List V} (h : dataOks 8 l = true) : veq (.tup l) (.tup l) = some true := seqEq_self h
theorem dataOks_app {n : Nat} : ∀ a b : List V,dataOks n (a ++ b) = (dataOks n a && dataOks n b)
  | [],b => by simp [dataOks]
  | v :: r,b => by simp [dataOks,dataOks_app r b,Bool.and_assoc]
theorem dataOks_all {n : Nat} : ∀ a : List V,(∀ v ∈ a,dataOk n v = true) -> dataOks n a = true
  | [],_ => rfl
  | v :: r,h => by simp [dataOks,h v (by simp),dataOks_all r (fun x hx => h x (by simp [hx]))]
noncomputable def litOk (w : List Nat) : Bool := w.all fun c => c < 200
theorem litOk_all {w : List Nat} (h : litOk w = true) : w.all (fun c => decide (c < 1114112)) = true := by
  simp only [litOk,List.all_eq_true,decide_eq_true_eq] at h ⊢
  intro c hc; have := h c hc; omega
theorem tk_data {s w : List Nat} {row col : Int} {n : Nat} (hs : litOk s = true) (hw : litOk w = true) : dataOk (n + 1) (tk s w row col) = true := by
  simp only [dataOk,dataOks,litOk_all hs,litOk_all hw,Bool.and_self]
theorem okT_lit {x : List Nat × List Nat} (h : okT x = true) : litOk x.1 = true /\ litOk x.2 = true := by
  simp only [okT,Bool.and_eq_true,Bool.or_eq_true,beq_iff_eq] at h
  refine ⟨?_,h.1.2⟩
  rcases h.2 with ((⟨h1,h2⟩ | ⟨⟨⟨h1,h2⟩,h3⟩,h4⟩) | ⟨h1,h2⟩) | ⟨h1,h2⟩ <;> rw [h1] <;> decide
theorem okT_len {x : List Nat × List Nat} (h : okT x = true) : x.2.length < 20 := by
  simp only [okT,Bool.and_eq_true,decide_eq_true_eq] at h
  exact h.1.1
theorem wduN_data : ∀ (l : List (G × Nat)) (t : List Nat),(∀ x ∈ l,okT (un x.1) = true) -> dataOks 8 (wduN t l) = true
  | [],t,_ => rfl
  | ((s,w,f),k) :: r,t,h => by
    have ok := okT_lit (h ((s,w,f),k) (by simp))
    have rows := gapDue_rows (gapsL k) t
    simp only [wduN,dataOks_app,dataOks,Bool.and_eq_true]
    refine ⟨dataOks_all _ fun v hv => ?_,tk_data ok.1 ok.2,wduN_data r _ fun x hx => h x (by simp [hx])⟩
    obtain ⟨row,col,rfl⟩ := rows v hv
    exact tk_data (by decide) (by decide)
theorem box_data (ms : List Cm) (n : Nat) : dataOks (n + 1) (ms.map Cm.box) = true := dataOks_all _ fun v hv => by
  obtain ⟨m,_,rfl⟩ := List.mem_map.mp hv
  simp [Cm.box,dataOk,dataOks]
theorem el_data {e : El} (h : e.toks.all okT = true) : dataOk 8 e.v = true := by
  obtain ⟨ms,tm,cm,dt⟩ := e
  simp only [El.toks,List.all_append,Bool.and_eq_true] at h
  have h1 : (cmV cm).all (fun c => decide (c < 1114112)) = true := by
    cases cm with
    | none => rfl
    | some p =>
      have := h.2.2.1
      simp only [cmT,List.all_cons,Bool.and_eq_true] at this
      exact litOk_all (okT_lit this.2.1).2
  have h2 : dataOk 7 (dtV dt) = true := by
    cases dt with
    | none => rfl
    | some x =>
      cases x with
      | vd x => cases x <;> decide
      | key ms =>
        simp only [dtV,Dt.v,dataOk]
        exact dataOks_all _ fun v hv => by
          obtain ⟨m,_,rfl⟩ := List.mem_map.mp hv
          rfl
  simp only [El.v,dataOk,dataOks,box_data,h1,h2,Bool.and_self]
theorem un_all (g : List G) (h : (g.map un).all okT = true) : ∀ x ∈ g,okT (un x) = true := fun x hx => List.all_eq_true.mp h _ (List.mem_map_of_mem hx)
theorem PT.data {ks dv : V} {o h : Nat} {f : Bool} {g : List G} {l : List V} (q : PT ks dv o h f g l) : (g.map un).all okT = true -> dataOks 8 l = true := by
  induction q with
  | el e hx hm hk hd =>
    intro h
    rw [un_tag] at h
    simp only [dataOks,el_data h,Bool.and_self]
  | inner q ih => exact ih
  | nil => intro _; rfl
  | last q ih => exact ih
  | more q q' ih ih' =>
    intro h
    simp only [List.map_append,List.map_cons,List.all_append,List.all_cons,Bool.and_eq_true] at h
    rw [dataOks_app,ih h.1,ih' h.2.2]; rfl
  | br q ih =>
    intro h
    simp only [List.map_append,List.map_cons,List.all_append,List.all_cons,Bool.and_eq_true] at h
    exact ih h.2.1
noncomputable def nsTab : Nat -> List Kd
  | 0 => [.sv,.fl]
  | 1 => [.ip]
  | 2 => [.fl]
  | _ => [.ip,.sv]
noncomputable def dnTab : Nat -> Dn
  | 0 => .vd
  | 1 => .key [.fl,.ip]
  | 2 => .no
  | _ => .key [.sv]
theorem nsTab_ok (k : Nat) : nsTab k ≠ [] /\ (nsTab k).length <= 2 := by
  match k with
  | 0 => decide
  | 1 => decide
  | 2 => decide
  | n + 3 => exact ⟨by simp [nsTab],by simp [nsTab]⟩
theorem dnTab_ok (k : Nat) : (dnTab k).Ok := by
  match k with
  | 0 => trivial
  | 1 => exact ⟨by decide,by decide⟩
  | 2 => trivial
  | n + 3 => exact ⟨by simp,by simp⟩
theorem kinds_ok (k : Nat) {d : Nat} {ρ : List V} {σ : List O} (hd : d <= 40) : ev theP (.call 58 [.tup ((nsTab k).map fun k => .str k.name)]) d ρ σ = some ⟨.tup ((nsTab k).map (·.v)),.nxt,ρ,σ⟩ := by
  match k with
  | 0 => exact closed (n := 100) (d := 40) (by kernel_rfl) hd
  | 1 => exact closed (n := 100) (d := 40) (by kernel_rfl) hd
  | 2 => exact closed (n := 100) (d := 40) (by kernel_rfl) hd
  | n + 3 => exact closed (n := 100) (d := 40) (by kernel_rfl) hd
theorem dkinds_ok (k : Nat) {d : Nat} {ρ : List V} {σ : List O} (hd : d <= 40) : ev theP (.call 58 [(dnTab k).g]) d ρ σ = some ⟨(dnTab k).k,.nxt,ρ,σ⟩ := by
  match k with
  | 0 => exact closed (n := 100) (d := 40) (by kernel_rfl) hd
  | 1 => exact closed (n := 100) (d := 40) (by kernel_rfl) hd
  | 2 => exact closed (n := 100) (d := 40) (by kernel_rfl) hd
  | n + 3 => exact closed (n := 100) (d := 40) (by kernel_rfl) hd
noncomputable def restTab : Nat -> List G
  | 0 => []
  | 1 => [(kWord,[120],false)]
  | 2 => [(kEnd,[59],false)]
  | _ => [(kSign,[125],false)]
theorem restTab_ok (k : Nat) : Gd (restTab k) /\ (restTab k).length <= 1 /\ ∀ x ∈ restTab k,x.2.2 = false := by
  match k with
  | 0 => exact ⟨⟨by decide,by decide⟩,by decide,by decide⟩
  | 1 => exact ⟨⟨by decide,by decide⟩,by decide,by decide⟩
  | 2 => exact ⟨⟨by decide,by decide⟩,by decide,by decide⟩
  | n + 3 => exact ⟨⟨(by decide : ((restTab 3).map un).all okT = true),(by decide : cc false ((restTab 3).map un) = some false)⟩,(by decide : (restTab 3).length <= 1),(by decide : ∀ x ∈ restTab 3,x.2.2 = false)⟩
theorem wduN_plain : ∀ (l : List (G × Nat)) (t run : List Nat),AdmL run l -> (∀ x ∈ l,x.1.2.2 = false) -> (wduN t l).length = l.length
  | [],t,run,_,_ => rfl
  | ((s,w,f),k) :: r,t,run,⟨⟨k8,k4,kz⟩,ha⟩,h => by
    have hf : f = false := h ((s,w,f),k) (by simp)
    simp only [wduN,List.length_append,List.length_cons,gapDue_none (k4 hf),List.length_nil]
    rw [wduN_plain r _ _ ha (fun x hx => h x (by simp [hx]))]
    omega
theorem AdmL.app : ∀ (l1 l2 : List (G × Nat)) (run : List Nat),AdmL run (l1 ++ l2) -> AdmL run l1 /\ ∃ run',AdmL run' l2
  | [],l2,run,h => ⟨trivial,run,h⟩
  | (g,k) :: r,l2,run,⟨h1,h2⟩ => by
    obtain ⟨a,b⟩ := AdmL.app r l2 _ h2
    exact ⟨⟨h1,a⟩,b⟩
section
variable {sc : List V} {σ σ' : List O} {p a : Nat} {d : Nat} {ρ : List V}
noncomputable def lwN : X := match c_law with
  | .seq _ (.seq (.asg _ e) _) => e
  | _ => .nil
noncomputable def lwD : X := match c_law with
  | .seq _ (.seq _ (.seq (.asg _ e) _)) => e
  | _ => .nil
noncomputable def lwR : X := match c_law with
  | .seq _ (.seq _ (.seq _ (.seq _ (.seq (.asg _ e) _)))) => e
  | _ => .nil
noncomputable def lwT : S := match c_law with
  | .seq _ (.seq _ (.seq _ (.seq _ (.seq _ (.seq _ (.seq (.tr b) _)))))) => b
  | _ => .skip
noncomputable def lwE : X := match c_law with
  | .seq _ (.seq _ (.seq _ (.seq _ (.seq _ (.seq _ (.seq _ (.ret e))))))) => e
  | _ => .nil
theorem c_law_eq : c_law = .seq (.asgNew 1 (.cons (.slice (.loc 0) .cNone (.cInt (63))) (.cons (.cInt (0)) .nil))) (.seq (.asg 2 lwN) (.seq (.asg 3 lwD) (.seq (.asgT [4,5] (.call 55 (.cons (.loc 1) (.cons (.loc 2) (.cons (.loc 3) (.cons (.cInt (0)) .nil)))))) (.seq (.asg 6 lwR) (.seq (.asgT [7,8] (.call 57 (.cons (.loc 1) (.cons (.bin .add (.loc 4) (.loc 6)) .nil)))) (.seq (.tr lwT) (.ret lwE))))))) := rfl
theorem lw_names (hs : Scr sc) (hl : sc.length <= 63) (ha : a < 900000) (hp : σ[p]? = some (pn sc a)) {x0 x2 x3 x4 x5 x6 x7 x8 x9 x10 : V} (hd : d < 50) : ∃ k,evX theP lwN d [x0,.ref p,x2,x3,x4,x5,x6,x7,x8,x9,x10] σ = some ⟨.tup ((nsTab k).map fun k => .str k.name),.nxt,[x0,.ref p,x2,x3,x4,x5,x6,x7,x8,x9,x10],σ.set p (pn sc (a + 1))⟩ := by
  obtain ⟨k,hk,l0⟩ := draw_ok (σ := σ) (p := p) (d := d) (ρ := [x0,.ref p,x2,x3,x4,x5,x6,x7,x8,x9,x10]) hs hl hp (by omega) (m := 4) (by decide) (by omega)
  refine ⟨k,?_⟩
  have m4 : 4 <= maxLen := by decide
  have m2 : 2 <= maxLen := by decide
  have m1 : 1 <= maxLen := by decide
  simp at l0
  match k,hk with
  | 0,_ => simp [lwN,c_law,m4,m2,m1,l0,nsTab,Kd.name]
  | 1,_ => simp [lwN,c_law,m4,m2,m1,l0,nsTab,Kd.name]
  | 2,_ => simp [lwN,c_law,m4,m2,m1,l0,nsTab,Kd.name]
  | 3,_ => simp [lwN,c_law,m4,m2,m1,l0,nsTab,Kd.name]
theorem lw_data (hs : Scr sc) (hl : sc.length <= 63) (ha : a < 900000) (hp : σ[p]? = some (pn sc a)) {x0 x2 x3 x4 x5 x6 x7 x8 x9 x10 : V} (hd : d < 50) : ∃ k,evX theP lwD d [x0,.ref p,x2,x3,x4,x5,x6,x7,x8,x9,x10] σ = some ⟨(dnTab k).g,.nxt,[x0,.ref p,x2,x3,x4,x5,x6,x7,x8,x9,x10],σ.set p (pn sc (a + 1))⟩ := by
  obtain ⟨k,hk,l0⟩ := draw_ok (σ := σ) (p := p) (d := d) (ρ := [x0,.ref p,x2,x3,x4,x5,x6,x7,x8,x9,x10]) hs hl hp (by omega) (m := 4) (by decide) (by omega)
  refine ⟨k,?_⟩
  have m4 : 4 <= maxLen := by decide
  have m2 : 2 <= maxLen := by decide
  have m1 : 1 <= maxLen := by decide
  simp at l0
  match k,hk with
  | 0,_ => simp [lwD,c_law,m4,m2,m1,l0,dnTab,Dn.g,Kd.name]
  | 1,_ => simp [lwD,c_law,m4,m2,m1,l0,dnTab,Dn.g,Kd.name]
  | 2,_ => simp [lwD,c_law,m4,m2,m1,l0,dnTab,Dn.g,Kd.name]
  | 3,_ => simp [lwD,c_law,m4,m2,m1,l0,dnTab,Dn.g,Kd.name]
theorem lw_rest (hs : Scr sc) (hl : sc.length <= 63) (ha : a < 900000) (hp : σ[p]? = some (pn sc a)) {x0 x2 x3 x4 x5 x6 x7 x8 x9 x10 : V} (hd : d < 50) : ∃ k,evX theP lwR d [x0,.ref p,x2,x3,x4,x5,x6,x7,x8,x9,x10] σ = some ⟨.lst ((restTab k).map gv),.nxt,[x0,.ref p,x2,x3,x4,x5,x6,x7,x8,x9,x10],σ.set p (pn sc (a + 1))⟩ := by
  obtain ⟨k,hk,l0⟩ := draw_ok (σ := σ) (p := p) (d := d) (ρ := [x0,.ref p,x2,x3,x4,x5,x6,x7,x8,x9,x10]) hs hl hp (by omega) (m := 4) (by decide) (by omega)
  refine ⟨k,?_⟩
  have m4 : 4 <= maxLen := by decide
  have m3 : 3 <= maxLen := by decide
  have m1 : 1 <= maxLen := by decide
  have m0 : 0 <= maxLen := by decide
  simp at l0
  match k,hk with
  | 0,_ => simp [lwR,c_law,m4,m3,m1,m0,l0,restTab,gv]
  | 1,_ => simp [lwR,c_law,m4,m3,m1,m0,l0,restTab,gv]
  | 2,_ => simp [lwR,c_law,m4,m3,m1,m0,l0,restTab,gv]
  | 3,_ => simp [lwR,c_law,m4,m3,m1,m0,l0,restTab,gv]
theorem in_T : theP.init 1 = some 70 := rfl
theorem in_R : theP.init 0 = some 60 := rfl
theorem at_fields : theP.attr 1 [102,105,101,108,100,115] = true := rfl
theorem at_known : theP.attr 0 [107,110,111,119,110] = true := rfl
theorem at_family : theP.attr 0 [102,97,109,105,108,121] = true := rfl
theorem at_table : theP.attr 0 [116,97,98,108,101] = true := rfl
theorem make_T (hd : d < 40) : ev theP (.call 70 [.inst 1 σ.length,.dct [],typesV]) d ρ (σ ++ [.ns []]) = some ⟨.none,.nxt,ρ,σ ++ [.ns TF]⟩ := by
  have ht : isSome' typesV = true := rfl
  have g2 : getLoc [.inst 1 σ.length,.dct [],typesV] 2 = some typesV := rfl
  have g0 : getLoc [.inst 1 σ.length,.dct [],typesV] 0 = some (.inst 1 σ.length) := rfl
  have g1 : getLoc [.inst 1 σ.length,.dct [],typesV] 1 = some (.dct []) := rfl
  rw [call_of _ _ _ fn_T_init (by omega) rfl]
  simp [c_T_init,putD,ht,g0,g1,g2,at_fields,at_types]
theorem make_R {t tg : Nat} (hd : d < 40) : ev theP (.call 60 [.inst 0 σ.length,.ref t,.inst 1 tg]) d ρ (σ ++ [.ns []]) = some ⟨.none,.nxt,ρ,σ ++ [.ns (RF t 0 tg)]⟩ := by
  rw [call_of _ _ _ fn_R_init (by omega) rfl]
  simp [c_R_init,putD,at_known,at_family,at_table]
end
section
variable {sc : List V} {σ σ' : List O} {p a : Nat} {d : Nat} {ρ : List V}
theorem lwT_eq : lwT = .seq (.asg 9 (.mk 0 (.cons (.call 4 (.cons (.loc 7) .nil)) (.cons (.mk 1 (.cons (.dct [] .nil) (.cons (.glob 0) .nil))) .nil)))) (.seq (.iff (.cmp .ne (.attr (.loc 9) [116,111,107,101,110,115]) (.loc 8)) (.ret (.cBool false)) .skip) (.asg 10 (.call 49 (.cons (.loc 9) (.cons (.call 58 (.cons (.loc 2) .nil)) (.cons (.call 58 (.cons (.loc 3) .nil)) .nil)))))) := rfl
theorem lwE_eq : lwE = .and (.cmp .eq (.loc 10) (.tupleOf (.loc 5))) (.cmp .eq (.attr (.loc 9) [97,116]) (.bin .sub (.bin .sub (.len (.loc 8)) (.cInt (1))) (.len (.loc 6)))) := rfl
theorem lw_make {D : List V} {T : List Nat} {x0 x1 x2 x3 x4 x5 x6 x8 : V}
    (ht : ∀ ρ d,d < 40 -> ev theP (.call 4 [.str T]) d ρ σ = some ⟨.ref σ.length,.nxt,ρ,σ ++ [.list D]⟩) (hd : d < 30) :
    evS theP (.asg 9 (.mk 0 (.cons (.call 4 (.cons (.loc 7) .nil)) (.cons (.mk 1 (.cons (.dct [] .nil) (.cons (.glob 0) .nil))) .nil)))) d [x0,x1,x2,x3,x4,x5,x6,.str T,x8,.undef,.undef] σ =
      some ⟨.none,.nxt,[x0,x1,x2,x3,x4,x5,x6,.str T,x8,.inst 0 (σ.length + 2),.undef],σ ++ [.list D,.ns TF,.ns (RF σ.length 0 (σ.length + 1))]⟩ := by
  have h1 := fun ρ => ht ρ d (by omega)
  have gl : theP.glob 0 = some typesV := rfl
  have mT := fun ρ => make_T (σ := σ ++ [.list D]) (d := d + 1) (ρ := ρ) (by omega)
  have mR := fun ρ => make_R (σ := σ ++ [.list D,.ns TF]) (t := σ.length) (tg := σ.length + 1) (d := d + 1) (ρ := ρ) (by omega)
  simp at mT mR
  simp [h1,gl,in_T,in_R,mT,mR]
theorem lw_read (k : Nat) (dk : Nat) {D : List V} {T : List Nat} {x0 x1 x4 x5 x6 : V} {du : Nat} {g : List G} {l : List V} {h j : Nat} {f : Bool}
    (ht : ∀ ρ d,d < 40 -> ev theP (.call 4 [.str T]) d ρ σ = some ⟨.ref σ.length,.nxt,ρ,σ ++ [.list D]⟩) (hdu : σ[du]? = some (.list D)) (hD : dataOks 8 D = true)
    (q : PT (.tup ((nsTab k).map (·.v))) (dnTab dk).k 2 h f g l) (hh : h <= 3) (hl : l.length < 10000) (hm : Mt0 D 0 g j) (hd : d < 5) :
    ∃ σ',evS theP lwT d [x0,x1,.tup ((nsTab k).map fun k => .str k.name),(dnTab dk).g,x4,x5,x6,.str T,.ref du,.undef,.undef] σ =
      some ⟨.none,.nxt,[x0,x1,.tup ((nsTab k).map fun k => .str k.name),(dnTab dk).g,x4,x5,x6,.str T,.ref du,.inst 0 (σ.length + 2),.tup l],σ'⟩ /\ Rd (σ ++ [.list D,.ns TF,.ns (RF σ.length 0 (σ.length + 1))]) ⟨σ.length + 2,σ.length,σ.length + 1,D⟩ j σ' := by
  have ra : Ra (σ ++ [.list D,.ns TF,.ns (RF σ.length 0 (σ.length + 1))]) ⟨σ.length + 2,σ.length,σ.length + 1,D⟩ 0 := ⟨by simp,by simp,by simp⟩
  have hk1 : isSome' (.tup ((nsTab k).map (·.v))) = true := rfl
  have hk2 : isSome' (dnTab dk).k = true := by
    generalize dnTab dk = z
    cases z <;> rfl
  obtain ⟨σ',e,r⟩ := read_literals_ok (d := d) (ρ := [x0,x1,.tup ((nsTab k).map fun k => .str k.name),(dnTab dk).g,x4,x5,x6,.str T,.ref du,.inst 0 (σ.length + 2),.undef]) hk1 hk2 q (by omega) ra hl hm
  refine ⟨σ',?_,r⟩
  have k1 := fun ρ σ => kinds_ok k (d := d) (ρ := ρ) (σ := σ) (by omega)
  have k2 := fun ρ σ => dkinds_ok dk (d := d) (ρ := ρ) (σ := σ) (by omega)
  have dul := (List.getElem?_eq_some_iff.mp hdu).1
  have hdu2 : (σ ++ [.list D,.ns TF,.ns (RF σ.length 0 (σ.length + 1))])[du]? = some (.list D) := by rw [List.getElem?_append_left dul]; exact hdu
  have rar := ra.r
  have rat := ra.t
  have vq := veq_lst hD
  have gg : getLoc [x0,x1,.tup ((nsTab k).map fun k => .str k.name),(dnTab dk).g,x4,x5,x6,.str T,.ref du,.inst 0 (σ.length + 2),.undef] 3 = some (dnTab dk).g := by
    generalize dnTab dk = z
    cases z <;> rfl
  rw [lwT_eq,s_seq,lw_make ht (by omega)]
  simp only [Option.bind_some,K_fn]
  generalize σ ++ [O.list D,.ns TF,.ns (RF σ.length 0 (σ.length + 1))] = σ3 at *
  have g9 : getLoc [x0,x1,.tup ((nsTab k).map fun k => .str k.name),(dnTab dk).g,x4,x5,x6,.str T,.ref du,.inst 0 (σ.length + 2),.undef] 9 = some (.inst 0 (σ.length + 2)) := rfl
  have g8 : getLoc [x0,x1,.tup ((nsTab k).map fun k => .str k.name),(dnTab dk).g,x4,x5,x6,.str T,.ref du,.inst 0 (σ.length + 2),.undef] 8 = some (.ref du) := rfl
  have g2 : getLoc [x0,x1,.tup ((nsTab k).map fun k => .str k.name),(dnTab dk).g,x4,x5,x6,.str T,.ref du,.inst 0 (σ.length + 2),.undef] 2 = some (.tup ((nsTab k).map fun k => .str k.name)) := rfl
  simp only at rar rat
  simp [g9,g8,g2,gg,rar,rat,hdu2,vq,k1,k2]
  simp at e
  rw [e]
  simp
theorem lw_end {D : List V} {T : List Nat} {x0 x1 x2 x3 x4 x7 : V} {du i3 j t tg : Nat} {rest l : List V} {c : Rc} (ra : Ra σ c j) (hc : c.r = i3) (hdu : σ[du]? = some (.list D)) {lj : Nat} (hlj : σ[lj]? = some (.list l)) (hl : dataOks 8 l = true) (hj : (j : Int) = (D.length : Int) - 1 - rest.length) :
    evX theP lwE d [x0,x1,x2,x3,x4,.ref lj,.lst rest,x7,.ref du,.inst 0 i3,.tup l] σ = some ⟨.bool true,.nxt,[x0,x1,x2,x3,x4,.ref lj,.lst rest,x7,.ref du,.inst 0 i3,.tup l],σ⟩ := by
  have vq := veq_tup hl
  have rar := ra.r
  rw [hc] at rar
  rw [lwE_eq]
  simp [hlj,vq,rar,hdu]
  simp [hj]
end
theorem cut_scr (s : List V) (h : Scr s) (lo hi : Nat) : Scr (cut s lo hi) := fun v hv => h v (List.mem_of_mem_take (List.mem_of_mem_drop hv))
theorem slice63 (s : List V) : ∃ c,sliced (.lst s) .none (.int 63) = some (.lst c) /\ c.length <= 63 /\ (Scr s -> Scr c) := by
  refine ⟨cut s 0 (clamp s.length 63),?_,?_,fun h => cut_scr s h _ _⟩
  · simp [sliced,bound,show small 63 = true from rfl]
  · simp [cut,clamp]; omega
theorem the_law (s : List V) (hs : Scr s) : ∃ σ',ev theP (.call 59 [.lst s]) 0 [] [] = some ⟨.bool true,.nxt,[],σ'⟩ := by
  obtain ⟨sc,sl,hl,hsc⟩ := slice63 s
  have hsc := hsc hs
  have p0 : [pn sc 0][0]? = some (pn sc 0) := rfl
  obtain ⟨kn,e1⟩ := lw_names (d := 1) (x0 := .lst s) (x2 := .undef) (x3 := .undef) (x4 := .undef) (x5 := .undef) (x6 := .undef) (x7 := .undef) (x8 := .undef) (x9 := .undef) (x10 := .undef) hsc hl (by omega) p0 (by omega)
  have p1 := get_set (b := pn sc (0 + 1)) p0
  obtain ⟨kd,e2⟩ := lw_data (d := 1) (x0 := .lst s) (x2 := .tup ((nsTab kn).map fun k => .str k.name)) (x3 := .undef) (x4 := .undef) (x5 := .undef) (x6 := .undef) (x7 := .undef) (x8 := .undef) (x9 := .undef) (x10 := .undef) hsc hl (by omega) p1 (by omega)
  have p2 := get_set (b := pn sc (0 + 1 + 1)) p1
  have nk := nsTab_ok kn
  obtain ⟨g,l,q,hg,gl,ll,a3,i,j,σ3,ha3,e3,w3,gi,gj,li,lj,lij⟩ := lb_all hsc hl (nsTab kn) nk.1 nk.2 (dnTab kd) (dnTab_ok kd) 0 1 [.lst s,.ref 0,.tup ((nsTab kn).map fun k => .str k.name),(dnTab kd).g,.undef,.undef,.undef,.undef,.undef,.undef,.undef] _ 0 _ (by omega) (by omega) (by simp [Bd]) p2
  simp only [Bd] at gl ll ha3
  obtain ⟨kr,e4⟩ := lw_rest (d := 1) (x0 := .lst s) (x2 := .tup ((nsTab kn).map fun k => .str k.name)) (x3 := (dnTab kd).g) (x4 := .ref i) (x5 := .ref j) (x6 := .undef) (x7 := .undef) (x8 := .undef) (x9 := .undef) (x10 := .undef) hsc hl (by omega) w3.gp (by omega)
  have rk := restTab_ok kr
  have p4 := get_set (b := pn sc (a3 + 1)) w3.gp
  have gd := hg.app rk.1
  have ok : ∀ x ∈ g ++ restTab kr,okT (un x) = true := un_all _ gd.1
  obtain ⟨L,m1,m2,σ5,e5,w5,d5,T5,D5⟩ := law_written_ok (d := 1) (ρ := [.lst s,.ref 0,.tup ((nsTab kn).map fun k => .str k.name),(dnTab kd).g,.ref i,.ref j,.lst ((restTab kr).map gv),.undef,.undef,.undef,.undef]) hsc hl (g ++ restTab kr) (fun x hx => okT_len (ok x hx)) (by rw [List.length_append]; omega) (by omega) p4 (by omega)
  have gsz : (g ++ restTab kr).length <= 1000 := by rw [List.length_append]; omega
  obtain ⟨L1,L2,rfl,n1,n2⟩ : ∃ L1 L2,L = L1 ++ L2 /\ L1.map (·.1) = g /\ L2.map (·.1) = restTab kr := by
    obtain ⟨a,b,h1,h2,h3⟩ := List.map_eq_append_iff.mp m1
    exact ⟨a,b,h1,h2,h3⟩
  obtain ⟨ad1,run',ad2⟩ := AdmL.app L1 L2 [] m2
  have okL : ∀ x ∈ L1 ++ L2,okT (un x.1) = true := fun x hx => ok x.1 (by rw [← m1]; exact List.mem_map_of_mem hx)
  have ccL : (cc false ((L1 ++ L2).map fun x => un x.1)).isSome = true := by
    have : ((L1 ++ L2).map fun x => un x.1) = (g ++ restTab kr).map un := by rw [← m1,List.map_map]; rfl
    rw [this,gd.2]; rfl
  have st := tok_all (T := wtx (L1 ++ L2)) (by omega) (L1 ++ L2) [] [] [] false false [] .none (fun h => h) m2 okL ccL rfl (by simp only [List.length_nil,List.append_nil]; omega)
  simp only [List.nil_append] at st
  have rt : ∀ (ρ : List V) (d : Nat),d < 40 -> ev theP (.call 4 [.str (wtx (L1 ++ L2))]) d ρ σ5 = some ⟨.ref σ5.length,.nxt,ρ,σ5 ++ [.list (wduN [] (L1 ++ L2) ++ [posT kEof [] (wtx (L1 ++ L2))])]⟩ := fun ρ d hd => read_tokens_ok st (by omega) (by omega)
  have dD : dataOks 8 (wduN [] (L1 ++ L2) ++ [posT kEof [] (wtx (L1 ++ L2))]) = true := by
    rw [dataOks_app,wduN_data _ _ okL]
    simp only [dataOks,tk_data (s := kEof) (w := []) (by decide) (by decide),Bool.and_self]
  have hD : wduN [] (L1 ++ L2) ++ [posT kEof [] (wtx (L1 ++ L2))] = [] ++ (wduN [] L1 ++ (wduN (wtx L1) L2 ++ [posT kEof [] (wtx (L1 ++ L2))])) := by
    rw [wduN_app]; simp
  have mt := mt_of L1 [] [] [] (wduN (wtx L1) L2 ++ [posT kEof [] (wtx (L1 ++ L2))]) ad1 hD
  rw [n1] at mt
  simp only [List.length_nil,Nat.zero_add] at mt
  have mt0 : Mt0 (wduN [] (L1 ++ L2) ++ [posT kEof [] (wtx (L1 ++ L2))]) 0 g (wduN [] L1).length := by
    rcases q.hd with ⟨h,_⟩ | ⟨s',w',r',rfl,_⟩
    · cases h
    · obtain ⟨n,h1,h2,h3,h4⟩ := mt
      have : n = 0 := h1 (by simp)
      subst this
      exact ⟨h3,h4⟩
  have len2 : (wduN (wtx L1) L2).length = (restTab kr).length := by
    rw [wduN_plain L2 _ _ ad2 (fun x hx => rk.2.2 x.1 (by rw [← n2]; exact List.mem_map_of_mem hx)),← n2]; simp
  obtain ⟨σ6,e6,r6⟩ := lw_read (d := 1) (σ := σ5) kn kd (x0 := .lst s) (x1 := .ref 0) (x4 := .ref i) (x5 := .ref j) (x6 := .lst ((restTab kr).map gv)) rt d5 dD q (by omega) (by omega) mt0 (by omega)
  have l5 := (List.getElem?_eq_some_iff.mp d5).1
  have du6 := r6.o (σ3.set 0 (pn sc (a3 + 1))).length (by simp only; omega) (by rw [List.length_append]; omega)
  rw [List.getElem?_append_left l5,d5] at du6
  have jl3 := (List.getElem?_eq_some_iff.mp gj).1
  have j0 : j ≠ 0 := by simp at lj; omega
  have gj4 : (σ3.set 0 (pn sc (a3 + 1)))[j]? = some (.list l) := by rw [List.getElem?_set_ne (Ne.symm j0)]; exact gj
  have gj5 : σ5[j]? = some (.list l) := by rw [w5.go j j0 (by simpa using jl3)]; exact gj4
  have gj6 : σ6[j]? = some (.list l) := by
    have h := (List.getElem?_eq_some_iff.mp gj5).1
    rw [r6.o j (by simp only; omega) (by simp only [List.length_append]; omega),List.getElem?_append_left h]
    exact gj5
  have ld : dataOks 8 l = true := q.data hg.1
  have e7 := lw_end (σ := σ6) (d := 1) (T := []) (t := 0) (tg := 0) (x0 := .lst s) (x1 := .ref 0) (x2 := .tup ((nsTab kn).map fun k => .str k.name)) (x3 := (dnTab kd).g) (x4 := .ref i) (x7 := .str (wtx (L1 ++ L2))) (rest := (restTab kr).map gv) r6.a rfl du6 gj6 ld (by
    simp only [wduN_app,List.length_append,List.length_map,List.length_cons,List.length_nil,List.nil_append,len2]; omega)
  refine ⟨σ6,?_⟩
  have gi4 : (σ3.set 0 (pn sc (a3 + 1)))[i]? = some (.list (g.map gv)) := by
    have i0 : i ≠ 0 := by simp at li; omega
    rw [List.getElem?_set_ne (Ne.symm i0)]; exact gi
  have dg : isSome' (dnTab kd).g = true := by
    generalize dnTab kd = z
    cases z <;> rfl
  have hst : ∀ (ρ : List V) (v : V) (k : Nat),(ρ.set k v).length = ρ.length := fun _ _ _ => List.length_set
  have ht : isSome' (.tup ((nsTab kn).map fun k => V.str k.name)) = true := rfl
  have g1 : ∀ x2 x3 x4 x5 x6 x7 x8 x9 x10 : V,getLoc [.lst s,.ref 0,x2,x3,x4,x5,x6,x7,x8,x9,x10] 1 = some (.ref 0) := fun _ _ _ _ _ _ _ _ _ => rfl
  have g2 : ∀ x3 x4 x5 x6 x7 x8 x9 x10 : V,getLoc [.lst s,.ref 0,.tup ((nsTab kn).map fun k => V.str k.name),x3,x4,x5,x6,x7,x8,x9,x10] 2 = some (.tup ((nsTab kn).map fun k => V.str k.name)) := fun _ _ _ _ _ _ _ _ => rfl
  have g3 : ∀ x2 x4 x5 x6 x7 x8 x9 x10 : V,getLoc [.lst s,.ref 0,x2,(dnTab kd).g,x4,x5,x6,x7,x8,x9,x10] 3 = some (dnTab kd).g := by
    intros
    generalize dnTab kd = z
    cases z <;> rfl
  have g4 : ∀ x2 x3 x5 x6 x7 x8 x9 x10 : V,getLoc [.lst s,.ref 0,x2,x3,.ref i,x5,x6,x7,x8,x9,x10] 4 = some (.ref i) := fun _ _ _ _ _ _ _ _ => rfl
  have g6 : ∀ x2 x3 x4 x5 x7 x8 x9 x10 : V,getLoc [.lst s,.ref 0,x2,x3,x4,x5,.lst ((restTab kr).map gv),x7,x8,x9,x10] 6 = some (.lst ((restTab kr).map gv)) := fun _ _ _ _ _ _ _ _ => rfl
  have di : ∀ σ l,deref σ (.lst l) = some (.lst l) := fun _ _ => rfl
  have dj : ∀ σ : List O,σ[i]? = some (.list (g.map gv)) -> deref σ (.ref i) = some (.lst (g.map gv)) := fun σ h => by simp [h]
  have bo : binop .add (.lst (g.map gv)) (.lst ((restTab kr).map gv)) = some (.lst ((g ++ restTab kr).map gv)) := by
    simp only [bo_addl,List.length_map]
    rw [if_pos (by simp only [maxLen]; omega)]; simp
  have z0 : V.int ((0 : Nat) : Int) = .int 0 := rfl
  rw [z0] at e3
  have s1 : evS theP (.asgNew 1 (.cons (.slice (.loc 0) .cNone (.cInt (63))) (.cons (.cInt (0)) .nil))) 1 [.lst s,.undef,.undef,.undef,.undef,.undef,.undef,.undef,.undef,.undef,.undef] [] = some ⟨.none,.nxt,[.lst s,.ref 0,.undef,.undef,.undef,.undef,.undef,.undef,.undef,.undef,.undef],[pn sc 0]⟩ := by
    simp [sl,show 2 <= maxLen by decide]
  have s4 : evS theP (.asgT [4,5] (.call 55 (.cons (.loc 1) (.cons (.loc 2) (.cons (.loc 3) (.cons (.cInt (0)) .nil)))))) 1 [.lst s,.ref 0,.tup ((nsTab kn).map fun k => .str k.name),(dnTab kd).g,.undef,.undef,.undef,.undef,.undef,.undef,.undef] (([pn sc 0].set 0 (pn sc (0 + 1))).set 0 (pn sc (0 + 1 + 1))) = some ⟨.none,.nxt,[.lst s,.ref 0,.tup ((nsTab kn).map fun k => .str k.name),(dnTab kd).g,.ref i,.ref j,.undef,.undef,.undef,.undef,.undef],σ3⟩ := by
    generalize (([pn sc 0].set 0 (pn sc (0 + 1))).set 0 (pn sc (0 + 1 + 1))) = σ2 at *
    simp [g1,g2,g3,e3]
  have s5 : evS theP (.asgT [7,8] (.call 57 (.cons (.loc 1) (.cons (.bin .add (.loc 4) (.loc 6)) .nil)))) 1 [.lst s,.ref 0,.tup ((nsTab kn).map fun k => .str k.name),(dnTab kd).g,.ref i,.ref j,.lst ((restTab kr).map gv),.undef,.undef,.undef,.undef] (σ3.set 0 (pn sc (a3 + 1))) = some ⟨.none,.nxt,[.lst s,.ref 0,.tup ((nsTab kn).map fun k => .str k.name),(dnTab kd).g,.ref i,.ref j,.lst ((restTab kr).map gv),.str (wtx (L1 ++ L2)),.ref (σ3.set 0 (pn sc (a3 + 1))).length,.undef,.undef],σ5⟩ := by
    have dj4 := dj _ gi4
    generalize (σ3.set 0 (pn sc (a3 + 1))) = σ4 at *
    rw [List.map_append] at e5
    simp [g1,g4,g6,dj4,di,bo,e5]
  have hfin : evS theP (.seq (.asgNew 1 (.cons (.slice (.loc 0) .cNone (.cInt (63))) (.cons (.cInt (0)) .nil))) (.seq (.asg 2 lwN) (.seq (.asg 3 lwD) (.seq (.asgT [4,5] (.call 55 (.cons (.loc 1) (.cons (.loc 2) (.cons (.loc 3) (.cons (.cInt (0)) .nil)))))) (.seq (.asg 6 lwR) (.seq (.asgT [7,8] (.call 57 (.cons (.loc 1) (.cons (.bin .add (.loc 4) (.loc 6)) .nil)))) (.seq (.tr lwT) (.ret lwE)))))))) 1 [.lst s,.undef,.undef,.undef,.undef,.undef,.undef,.undef,.undef,.undef,.undef] [] = some ⟨.bool true,.ret,[.lst s,.ref 0,.tup ((nsTab kn).map fun k => .str k.name),(dnTab kd).g,.ref i,.ref j,.lst ((restTab kr).map gv),.str (wtx (L1 ++ L2)),.ref (σ3.set 0 (pn sc (a3 + 1))).length,.inst 0 (σ5.length + 2),.tup l],σ6⟩ := by
    have q2 : setLoc [V.lst s,.ref 0,.undef,.undef,.undef,.undef,.undef,.undef,.undef,.undef,.undef] 2 (.tup ((nsTab kn).map fun k => .str k.name)) = some [.lst s,.ref 0,.tup ((nsTab kn).map fun k => .str k.name),.undef,.undef,.undef,.undef,.undef,.undef,.undef,.undef] := rfl
    have q3 : setLoc [V.lst s,.ref 0,.tup ((nsTab kn).map fun k => .str k.name),.undef,.undef,.undef,.undef,.undef,.undef,.undef,.undef] 3 (dnTab kd).g = some [.lst s,.ref 0,.tup ((nsTab kn).map fun k => .str k.name),(dnTab kd).g,.undef,.undef,.undef,.undef,.undef,.undef,.undef] := by simp
    have q6 : setLoc [V.lst s,.ref 0,.tup ((nsTab kn).map fun k => .str k.name),(dnTab kd).g,.ref i,.ref j,.undef,.undef,.undef,.undef,.undef] 6 (.lst ((restTab kr).map gv)) = some [.lst s,.ref 0,.tup ((nsTab kn).map fun k => .str k.name),(dnTab kd).g,.ref i,.ref j,.lst ((restTab kr).map gv),.undef,.undef,.undef,.undef] := rfl
    rw [s_seq,s1]
    simp only [ob_s,sk_n]
    rw [s_seq,s_asg,e1]
    simp only [ob_s,K84_,q2,K85_,sk_n]
    rw [s_seq,s_asg,e2]
    simp only [ob_s,K84_,q3,K85_,sk_n]
    rw [s_seq,s4]
    simp only [ob_s,sk_n]
    rw [s_seq,s_asg,e4]
    simp only [ob_s,K84_,q6,K85_,sk_n]
    rw [s_seq,s5]
    simp only [ob_s,sk_n]
    rw [s_seq,s_tr,e6]
    simp only [ob_s,sk_n]
    rw [s_ret,e7]
    rfl
  rw [call_of _ _ _ fn_law (by decide) rfl]
  have hρ : frameOf ⟨1,11,[],c_law⟩ [V.lst s] = [.lst s,.undef,.undef,.undef,.undef,.undef,.undef,.undef,.undef,.undef,.undef] := rfl
  rw [hρ]
  show (evS theP c_law _ _ _).bind _ = _
  rw [c_law_eq,hfin]
  rfl
end Mine
set_option tactic.hygienic true
namespace Mine
open PySem PySem.W PyProof.Rows
noncomputable def fnL : List (Str × Nat) := [(Str.ofString "is_word_sign",0),(Str.ofString "run_end",1),(Str.ofString "string_end",2),(Str.ofString "put_run",3),(Str.ofString "read_tokens",4),(Str.ofString "token_words",5),(Str.ofString "unexpected",6),(Str.ofString "expected",7),(Str.ofString "decimal_of",8),(Str.ofString "hex_of",9),(Str.ofString "ip4_of",10),(Str.ofString "groups_of",11),(Str.ofString "ip6_of",12),(Str.ofString "mac_of",13),(Str.ofString "mask_of",14),(Str.ofString "prefix_span",15),(Str.ofString "prefix_of",16),(Str.ofString "name_number",17),(Str.ofString "based_number",18),(Str.ofString "number_word",19),(Str.ofString "time_units",20),(Str.ofString "part_end",21),(Str.ofString "time_word",22),(Str.ofString "unquoted",23),(Str.ofString "name_word",24),(Str.ofString "name_span",25),(Str.ofString "mask_word",26),(Str.ofString "value_of_word",27),(Str.ofString "address_span",28),(Str.ofString "ends_span",29),(Str.ofString "span_of_word",30),(Str.ofString "out_of_range",31),(Str.ofString "read_text",32),(Str.ofString "read_comment",33),(Str.ofString "read_time",34),(Str.ofString "type_here",35),(Str.ofString "is_mask_kind",36),(Str.ofString "resolved",37),(Str.ofString "span_of_text",38),(Str.ofString "value_of_text",39),(Str.ofString "read_from",40),(Str.ofString "read_value",41),(Str.ofString "read_span",42),(Str.ofString "barred",43),(Str.ofString "read_verdict",44),(Str.ofString "read_box",45),(Str.ofString "read_datum",46),(Str.ofString "read_literal",47),(Str.ofString "read_braces",48),(Str.ofString "read_literals",49),(Str.ofString "_law_keys",50),(Str.ofString "_law_draw",51),(Str.ofString "_law_told",52),(Str.ofString "_law_key",53),(Str.ofString "_law_element",54),(Str.ofString "_law_braces",55),(Str.ofString "_law_place",56),(Str.ofString "_law_written",57),(Str.ofString "_law_kinds",58),(Str.ofString "law",59)]
noncomputable def faL : List Nat := [73,80,87,94,101,108,115,207,214,221,228,235,242,249,256,263,270,277,284,291,298,305,312,319,326,333,340,347,354,361,368,375,382,389,396,403,410,417,424,431,438,445,452,459,466,473,480,487,494,501,536,552,557,564,569,574,581,588,593,600,129,137,144,151,158,165,172,179,186,193,515]
noncomputable def theT : Tb := ⟨fnL,[(Str.ofString "Reader",0),(Str.ofString "Tongue",1)],[(Str.ofString "_law_types",0),(Str.ofString "_law_gaps",1)],fun g => (faL[g]?).getD 0⟩
noncomputable def scOf (st : Stmt) : Sc := ⟨fS st,(fA st).args.map (·.arg) ++ (((fS st).names.filter fun x => x.2 == .local && !((fA st).args.map (·.arg)).contains x.1).map (·.1)),theT.fns,theT.clss,theT.globs⟩
noncomputable def nodupB : List Str -> Bool
  | [] => true
  | a :: r => !r.contains a && nodupB r
theorem nodupB_ok : ∀ {l : List Str},nodupB l = true -> l.Nodup
  | [],_ => List.nodup_nil
  | a :: r,h => by
    simp only [nodupB,Bool.and_eq_true,Bool.not_eq_true',List.contains_eq_mem,decide_eq_false_iff_not] at h
    exact List.nodup_cons.mpr ⟨h.1,nodupB_ok h.2⟩
noncomputable def fnChk (K : Frag) (st : Stmt) (q : Str) (cd : Value) (npar nloc nd : Nat) (sc : Sc) : Bool :=
  codeIn K cd q && (fA st).posonlyargs.isEmpty && (fA st).vararg.isNone && (fA st).kwonlyargs.isEmpty && (fA st).kwarg.isNone && !(fS st).isCoroutine && !(fS st).isGenerator && ((fS st).kind == .function) &&
  (fS st).names.all (fun x => x.2 != .cell) && (sc.locs.length == nloc) && nodupB sc.locs && sc.locs.all (fun x => (fS st).names.lookup x == some .local) && ((fA st).args.length == npar) && decide (nd <= npar)
theorem fnOk_of {W : Wd} {K : Frag} {a : Addr} {st : Stmt} {q : String} {d m cd : Value} {c : FnCode} (h1 : K.lookup a = some (oU (.type "function") (f1 st q d m cd))) (h2 : fnChk K st (Str.ofString q) cd c.npar c.nloc c.dflt.length (scOf st) = true)
    (h3 : (sels c.body).css (scOf st) (fB st) = true)
    (h4 : (d = .none /\ c.dflt = []) \/ ∃ D o items n,d = .ref D /\ W.h₀.get? D = some o /\ o.data = .seq items n /\ Reps W [] [] W.h₀ items.toList c.dflt) : FnOk W theT K a c := by
  simp only [fnChk,Bool.and_eq_true,List.isEmpty_iff,Option.isNone_iff_eq_none,Bool.not_eq_true',beq_iff_eq,List.all_eq_true,bne_iff_ne,ne_eq,decide_eq_true_eq] at h2
  obtain ⟨⟨⟨⟨⟨⟨⟨⟨⟨⟨⟨⟨⟨c1,c2⟩,c3⟩,c4⟩,c5⟩,c6⟩,c7⟩,c8⟩,c9⟩,c10⟩,c11⟩,c12⟩,c13⟩,c14⟩ := h2
  exact ⟨_,_,_,fN st,Str.ofString q,fA st,fB st,fS st,d,.none,.none,m,none,cd,.none,h1,c1,c2,c3,c4,c5,c6,c7,c8,c9,scOf st,rfl,rfl,rfl,rfl,h3,⟨_,rfl⟩,c10,nodupB_ok c11,c12,c13,c14,h4⟩
section
variable (W : Wd) (P : Params)
theorem fo0 : FnOk W theT (K P) 73 ⟨1,1,[],c_is_word_sign⟩ := fnOk_of (st := (F 5)) (q := "is_word_sign") (d := .none) (m := (sV "siftwall.tokens" 265)) (cd := rV 72) (by kernel_rfl) (by kernel_rfl) (by kernel_rfl) (Or.inl ⟨rfl,rfl⟩)
theorem fo1 : FnOk W theT (K P) 80 ⟨2,2,[],c_run_end⟩ := fnOk_of (st := (F 6)) (q := "run_end") (d := .none) (m := (sV "siftwall.tokens" 265)) (cd := rV 79) (by kernel_rfl) (by kernel_rfl) (by kernel_rfl) (Or.inl ⟨rfl,rfl⟩)
theorem fo2 : FnOk W theT (K P) 87 ⟨4,5,[],c_string_end⟩ := fnOk_of (st := (F 7)) (q := "string_end") (d := .none) (m := (sV "siftwall.tokens" 265)) (cd := rV 86) (by kernel_rfl) (by kernel_rfl) (by kernel_rfl) (Or.inl ⟨rfl,rfl⟩)
theorem fo3 : FnOk W theT (K P) 94 ⟨4,5,[],c_put_run⟩ := fnOk_of (st := (F 8)) (q := "put_run") (d := .none) (m := (sV "siftwall.tokens" 265)) (cd := rV 93) (by kernel_rfl) (by kernel_rfl) (by kernel_rfl) (Or.inl ⟨rfl,rfl⟩)
theorem fo4 : FnOk W theT (K P) 101 ⟨1,8,[],c_read_tokens⟩ := fnOk_of (st := (F 9)) (q := "read_tokens") (d := .none) (m := (sV "siftwall.tokens" 265)) (cd := rV 100) (by kernel_rfl) (by kernel_rfl) (by kernel_rfl) (Or.inl ⟨rfl,rfl⟩)
theorem fo8 : FnOk W theT (K P) 214 ⟨2,4,[],c_decimal_of⟩ := fnOk_of (st := (F 15)) (q := "decimal_of") (d := .none) (m := (sV "siftwall.addresses" 452)) (cd := rV 213) (by kernel_rfl) (by kernel_rfl) (by kernel_rfl) (Or.inl ⟨rfl,rfl⟩)
theorem fo10 : FnOk W theT (K P) 228 ⟨1,5,[],c_ip4_of⟩ := fnOk_of (st := (F 17)) (q := "ip4_of") (d := .none) (m := (sV "siftwall.addresses" 452)) (cd := rV 227) (by kernel_rfl) (by kernel_rfl) (by kernel_rfl) (Or.inl ⟨rfl,rfl⟩)
theorem fo14 : FnOk W theT (K P) 256 ⟨2,2,[],c_mask_of⟩ := fnOk_of (st := (F 21)) (q := "mask_of") (d := .none) (m := (sV "siftwall.addresses" 452)) (cd := rV 255) (by kernel_rfl) (by kernel_rfl) (by kernel_rfl) (Or.inl ⟨rfl,rfl⟩)
theorem fo15 : FnOk W theT (K P) 263 ⟨3,4,[],c_prefix_span⟩ := fnOk_of (st := (F 22)) (q := "prefix_span") (d := .none) (m := (sV "siftwall.addresses" 452)) (cd := rV 262) (by kernel_rfl) (by kernel_rfl) (by kernel_rfl) (Or.inl ⟨rfl,rfl⟩)
theorem fo16 : FnOk W theT (K P) 270 ⟨1,6,[],c_prefix_of⟩ := fnOk_of (st := (F 23)) (q := "prefix_of") (d := .none) (m := (sV "siftwall.addresses" 452)) (cd := rV 269) (by kernel_rfl) (by kernel_rfl) (by kernel_rfl) (Or.inl ⟨rfl,rfl⟩)
theorem fo18 : FnOk W theT (K P) 284 ⟨2,5,[],c_based_number⟩ := fnOk_of (st := (F 27)) (q := "based_number") (d := .none) (m := (sV "siftwall.types" 564)) (cd := rV 283) (by kernel_rfl) (by kernel_rfl) (by kernel_rfl) (Or.inl ⟨rfl,rfl⟩)
theorem fo19 : FnOk W theT (K P) 291 ⟨1,1,[],c_number_word⟩ := fnOk_of (st := (F 28)) (q := "number_word") (d := .none) (m := (sV "siftwall.types" 564)) (cd := rV 290) (by kernel_rfl) (by kernel_rfl) (by kernel_rfl) (Or.inl ⟨rfl,rfl⟩)
theorem fo20 : FnOk W theT (K P) 298 ⟨0,0,[],c_time_units⟩ := fnOk_of (st := (F 29)) (q := "time_units") (d := .none) (m := (sV "siftwall.types" 564)) (cd := rV 297) (by kernel_rfl) (by kernel_rfl) (by kernel_rfl) (Or.inl ⟨rfl,rfl⟩)
theorem fo21 : FnOk W theT (K P) 305 ⟨3,3,[],c_part_end⟩ := fnOk_of (st := (F 30)) (q := "part_end") (d := .none) (m := (sV "siftwall.types" 564)) (cd := rV 304) (by kernel_rfl) (by kernel_rfl) (by kernel_rfl) (Or.inl ⟨rfl,rfl⟩)
theorem fo22 : FnOk W theT (K P) 312 ⟨1,11,[],c_time_word⟩ := fnOk_of (st := (F 31)) (q := "time_word") (d := .none) (m := (sV "siftwall.types" 564)) (cd := rV 311) (by kernel_rfl) (by kernel_rfl) (by kernel_rfl) (Or.inl ⟨rfl,rfl⟩)
theorem fo26 : FnOk W theT (K P) 340 ⟨2,5,[],c_mask_word⟩ := fnOk_of (st := (F 35)) (q := "mask_word") (d := .none) (m := (sV "siftwall.types" 564)) (cd := rV 339) (by kernel_rfl) (by kernel_rfl) (by kernel_rfl) (Or.inl ⟨rfl,rfl⟩)
theorem fo27 : FnOk W theT (K P) 347 ⟨3,5,[],c_value_of_word⟩ := fnOk_of (st := (F 36)) (q := "value_of_word") (d := .none) (m := (sV "siftwall.types" 564)) (cd := rV 346) (by kernel_rfl) (by kernel_rfl) (by kernel_rfl) (Or.inl ⟨rfl,rfl⟩)
theorem fo28 : FnOk W theT (K P) 354 ⟨3,4,[],c_address_span⟩ := fnOk_of (st := (F 37)) (q := "address_span") (d := .none) (m := (sV "siftwall.types" 564)) (cd := rV 353) (by kernel_rfl) (by kernel_rfl) (by kernel_rfl) (Or.inl ⟨rfl,rfl⟩)
theorem fo29 : FnOk W theT (K P) 361 ⟨3,6,[],c_ends_span⟩ := fnOk_of (st := (F 38)) (q := "ends_span") (d := .none) (m := (sV "siftwall.types" 564)) (cd := rV 360) (by kernel_rfl) (by kernel_rfl) (by kernel_rfl) (Or.inl ⟨rfl,rfl⟩)
theorem fo30 : FnOk W theT (K P) 368 ⟨3,6,[],c_span_of_word⟩ := fnOk_of (st := (F 39)) (q := "span_of_word") (d := .none) (m := (sV "siftwall.types" 564)) (cd := rV 367) (by kernel_rfl) (by kernel_rfl) (by kernel_rfl) (Or.inl ⟨rfl,rfl⟩)
theorem fo32 : FnOk W theT (K P) 382 ⟨1,1,[],c_read_text⟩ := fnOk_of (st := (F 42)) (q := "read_text") (d := .none) (m := (sV "siftwall.readexpr" 697)) (cd := rV 381) (by kernel_rfl) (by kernel_rfl) (by kernel_rfl) (Or.inl ⟨rfl,rfl⟩)
theorem fo33 : FnOk W theT (K P) 389 ⟨1,1,[],c_read_comment⟩ := fnOk_of (st := (F 43)) (q := "read_comment") (d := .none) (m := (sV "siftwall.readexpr" 697)) (cd := rV 388) (by kernel_rfl) (by kernel_rfl) (by kernel_rfl) (Or.inl ⟨rfl,rfl⟩)
theorem fo34 : FnOk W theT (K P) 396 ⟨1,3,[],c_read_time⟩ := fnOk_of (st := (F 44)) (q := "read_time") (d := .none) (m := (sV "siftwall.readexpr" 697)) (cd := rV 395) (by kernel_rfl) (by kernel_rfl) (by kernel_rfl) (Or.inl ⟨rfl,rfl⟩)
theorem fo35 : FnOk W theT (K P) 403 ⟨2,2,[],c_type_here⟩ := fnOk_of (st := (F 45)) (q := "type_here") (d := .none) (m := (sV "siftwall.readexpr" 697)) (cd := rV 402) (by kernel_rfl) (by kernel_rfl) (by kernel_rfl) (Or.inl ⟨rfl,rfl⟩)
theorem fo36 : FnOk W theT (K P) 410 ⟨2,2,[],c_is_mask_kind⟩ := fnOk_of (st := (F 46)) (q := "is_mask_kind") (d := .none) (m := (sV "siftwall.readexpr" 697)) (cd := rV 409) (by kernel_rfl) (by kernel_rfl) (by kernel_rfl) (Or.inl ⟨rfl,rfl⟩)
theorem fo37 : FnOk W theT (K P) 417 ⟨4,4,[],c_resolved⟩ := fnOk_of (st := (F 47)) (q := "resolved") (d := .none) (m := (sV "siftwall.readexpr" 697)) (cd := rV 416) (by kernel_rfl) (by kernel_rfl) (by kernel_rfl) (Or.inl ⟨rfl,rfl⟩)
theorem fo38 : FnOk W theT (K P) 424 ⟨3,3,[],c_span_of_text⟩ := fnOk_of (st := (F 48)) (q := "span_of_text") (d := .none) (m := (sV "siftwall.readexpr" 697)) (cd := rV 423) (by kernel_rfl) (by kernel_rfl) (by kernel_rfl) (Or.inl ⟨rfl,rfl⟩)
theorem fo39 : FnOk W theT (K P) 431 ⟨3,3,[],c_value_of_text⟩ := fnOk_of (st := (F 49)) (q := "value_of_text") (d := .none) (m := (sV "siftwall.readexpr" 697)) (cd := rV 430) (by kernel_rfl) (by kernel_rfl) (by kernel_rfl) (Or.inl ⟨rfl,rfl⟩)
theorem fo40 : FnOk W theT (K P) 438 ⟨3,5,[],c_read_from⟩ := fnOk_of (st := (F 50)) (q := "read_from") (d := .none) (m := (sV "siftwall.readexpr" 697)) (cd := rV 437) (by kernel_rfl) (by kernel_rfl) (by kernel_rfl) (Or.inl ⟨rfl,rfl⟩)
theorem fo41 : FnOk W theT (K P) 445 ⟨2,2,[],c_read_value⟩ := fnOk_of (st := (F 51)) (q := "read_value") (d := .none) (m := (sV "siftwall.readexpr" 697)) (cd := rV 444) (by kernel_rfl) (by kernel_rfl) (by kernel_rfl) (Or.inl ⟨rfl,rfl⟩)
theorem fo42 : FnOk W theT (K P) 452 ⟨2,6,[],c_read_span⟩ := fnOk_of (st := (F 52)) (q := "read_span") (d := .none) (m := (sV "siftwall.readexpr" 697)) (cd := rV 451) (by kernel_rfl) (by kernel_rfl) (by kernel_rfl) (Or.inl ⟨rfl,rfl⟩)
theorem fo43 : FnOk W theT (K P) 459 ⟨3,3,[],c_barred⟩ := fnOk_of (st := (F 53)) (q := "barred") (d := .none) (m := (sV "siftwall.readexpr" 697)) (cd := rV 458) (by kernel_rfl) (by kernel_rfl) (by kernel_rfl) (Or.inl ⟨rfl,rfl⟩)
theorem fo44 : FnOk W theT (K P) 466 ⟨1,2,[],c_read_verdict⟩ := fnOk_of (st := (F 54)) (q := "read_verdict") (d := .none) (m := (sV "siftwall.readexpr" 697)) (cd := rV 465) (by kernel_rfl) (by kernel_rfl) (by kernel_rfl) (Or.inl ⟨rfl,rfl⟩)
theorem fo45 : FnOk W theT (K P) 473 ⟨2,6,[],c_read_box⟩ := fnOk_of (st := (F 55)) (q := "read_box") (d := .none) (m := (sV "siftwall.readexpr" 697)) (cd := rV 472) (by kernel_rfl) (by kernel_rfl) (by kernel_rfl) (Or.inl ⟨rfl,rfl⟩)
theorem fo46 : FnOk W theT (K P) 480 ⟨3,6,[],c_read_datum⟩ := fnOk_of (st := (F 56)) (q := "read_datum") (d := .none) (m := (sV "siftwall.readexpr" 697)) (cd := rV 479) (by kernel_rfl) (by kernel_rfl) (by kernel_rfl) (Or.inl ⟨rfl,rfl⟩)
theorem fo47 : FnOk W theT (K P) 487 ⟨4,7,[],c_read_literal⟩ := fnOk_of (st := (F 57)) (q := "read_literal") (d := .none) (m := (sV "siftwall.readexpr" 697)) (cd := rV 486) (by kernel_rfl) (by kernel_rfl) (by kernel_rfl) (Or.inl ⟨rfl,rfl⟩)
theorem fo48 : FnOk W theT (K P) 494 ⟨4,5,[],c_read_braces⟩ := fnOk_of (st := (F 58)) (q := "read_braces") (d := .none) (m := (sV "siftwall.readexpr" 697)) (cd := rV 493) (by kernel_rfl) (by kernel_rfl) (by kernel_rfl) (Or.inl ⟨rfl,rfl⟩)
theorem fo49 : FnOk W theT (K P) 501 ⟨3,3,[],c_read_literals⟩ := fnOk_of (st := (F 59)) (q := "read_literals") (d := .none) (m := (sV "siftwall.readexpr" 697)) (cd := rV 500) (by kernel_rfl) (by kernel_rfl) (by kernel_rfl) (Or.inl ⟨rfl,rfl⟩)
theorem fo50 : FnOk W theT (K P) 536 ⟨0,0,[],c_law_keys⟩ := fnOk_of (st := (F 64)) (q := "_law_keys") (d := .none) (m := (sV "law_pq1063_01" 913)) (cd := rV 535) (by kernel_rfl) (by kernel_rfl) (by kernel_rfl) (Or.inl ⟨rfl,rfl⟩)
theorem fo51 : FnOk W theT (K P) 552 ⟨2,4,[],c_law_draw⟩ := fnOk_of (st := (F 66)) (q := "_law_draw") (d := .none) (m := (sV "law_pq1063_01" 913)) (cd := rV 551) (by kernel_rfl) (by kernel_rfl) (by kernel_rfl) (Or.inl ⟨rfl,rfl⟩)
theorem fo52 : FnOk W theT (K P) 557 ⟨1,1,[],c_law_told⟩ := fnOk_of (st := (F 67)) (q := "_law_told") (d := .none) (m := (sV "law_pq1063_01" 913)) (cd := rV 556) (by kernel_rfl) (by kernel_rfl) (by kernel_rfl) (Or.inl ⟨rfl,rfl⟩)
theorem fo53 : FnOk W theT (K P) 564 ⟨3,9,[],c_law_key⟩ := fnOk_of (st := (F 68)) (q := "_law_key") (d := .none) (m := (sV "law_pq1063_01" 913)) (cd := rV 563) (by kernel_rfl) (by kernel_rfl) (by kernel_rfl) (Or.inl ⟨rfl,rfl⟩)
theorem fo54 : FnOk W theT (K P) 569 ⟨3,11,[],c_law_element⟩ := fnOk_of (st := (F 69)) (q := "_law_element") (d := .none) (m := (sV "law_pq1063_01" 913)) (cd := rV 568) (by kernel_rfl) (by kernel_rfl) (by kernel_rfl) (Or.inl ⟨rfl,rfl⟩)
theorem fo55 : FnOk W theT (K P) 574 ⟨4,12,[],c_law_braces⟩ := fnOk_of (st := (F 70)) (q := "_law_braces") (d := .none) (m := (sV "law_pq1063_01" 913)) (cd := rV 573) (by kernel_rfl) (by kernel_rfl) (by kernel_rfl) (Or.inl ⟨rfl,rfl⟩)
theorem fo56 : FnOk W theT (K P) 581 ⟨1,2,[],c_law_place⟩ := fnOk_of (st := (F 71)) (q := "_law_place") (d := .none) (m := (sV "law_pq1063_01" 913)) (cd := rV 580) (by kernel_rfl) (by kernel_rfl) (by kernel_rfl) (Or.inl ⟨rfl,rfl⟩)
theorem fo57 : FnOk W theT (K P) 588 ⟨2,11,[],c_law_written⟩ := fnOk_of (st := (F 72)) (q := "_law_written") (d := .none) (m := (sV "law_pq1063_01" 913)) (cd := rV 587) (by kernel_rfl) (by kernel_rfl) (by kernel_rfl) (Or.inl ⟨rfl,rfl⟩)
theorem fo58 : FnOk W theT (K P) 593 ⟨1,1,[],c_law_kinds⟩ := fnOk_of (st := (F 73)) (q := "_law_kinds") (d := .none) (m := (sV "law_pq1063_01" 913)) (cd := rV 592) (by kernel_rfl) (by kernel_rfl) (by kernel_rfl) (Or.inl ⟨rfl,rfl⟩)
theorem fo59 : FnOk W theT (K P) 600 ⟨1,11,[],c_law⟩ := fnOk_of (st := (F 74)) (q := "law") (d := .none) (m := (sV "law_pq1063_01" 913)) (cd := rV 599) (by kernel_rfl) (by kernel_rfl) (by kernel_rfl) (Or.inl ⟨rfl,rfl⟩)
theorem fo60 : FnOk W theT (K P) 129 ⟨3,3,[],c_R_init⟩ := fnOk_of (st := (M 12 0)) (q := "Reader.__init__") (d := .none) (m := (sV "siftwall.tokens" 265)) (cd := rV 128) (by kernel_rfl) (by kernel_rfl) (by kernel_rfl) (Or.inl ⟨rfl,rfl⟩)
theorem fo62 : FnOk W theT (K P) 144 ⟨1,2,[],c_R_take⟩ := fnOk_of (st := (M 12 2)) (q := "Reader.take") (d := .none) (m := (sV "siftwall.tokens" 265)) (cd := rV 143) (by kernel_rfl) (by kernel_rfl) (by kernel_rfl) (Or.inl ⟨rfl,rfl⟩)
theorem fo63 : FnOk W theT (K P) 151 ⟨2,3,[],c_R_is_sign⟩ := fnOk_of (st := (M 12 3)) (q := "Reader.is_sign") (d := .none) (m := (sV "siftwall.tokens" 265)) (cd := rV 150) (by kernel_rfl) (by kernel_rfl) (by kernel_rfl) (Or.inl ⟨rfl,rfl⟩)
theorem fo64 : FnOk W theT (K P) 158 ⟨2,3,[],c_R_is_word⟩ := fnOk_of (st := (M 12 4)) (q := "Reader.is_word") (d := .none) (m := (sV "siftwall.tokens" 265)) (cd := rV 157) (by kernel_rfl) (by kernel_rfl) (by kernel_rfl) (Or.inl ⟨rfl,rfl⟩)
theorem fo65 : FnOk W theT (K P) 165 ⟨2,2,[],c_R_skip_sign⟩ := fnOk_of (st := (M 12 5)) (q := "Reader.skip_sign") (d := .none) (m := (sV "siftwall.tokens" 265)) (cd := rV 164) (by kernel_rfl) (by kernel_rfl) (by kernel_rfl) (Or.inl ⟨rfl,rfl⟩)
theorem fo66 : FnOk W theT (K P) 172 ⟨2,2,[],c_R_want_sign⟩ := fnOk_of (st := (M 12 6)) (q := "Reader.want_sign") (d := .none) (m := (sV "siftwall.tokens" 265)) (cd := rV 171) (by kernel_rfl) (by kernel_rfl) (by kernel_rfl) (Or.inl ⟨rfl,rfl⟩)
theorem fo67 : FnOk W theT (K P) 179 ⟨1,1,[],c_R_want_word⟩ := fnOk_of (st := (M 12 7)) (q := "Reader.want_word") (d := .none) (m := (sV "siftwall.tokens" 265)) (cd := rV 178) (by kernel_rfl) (by kernel_rfl) (by kernel_rfl) (Or.inl ⟨rfl,rfl⟩)
theorem fo68 : FnOk W theT (K P) 186 ⟨1,1,[],c_R_skip_rows⟩ := fnOk_of (st := (M 12 8)) (q := "Reader.skip_rows") (d := .none) (m := (sV "siftwall.tokens" 265)) (cd := rV 185) (by kernel_rfl) (by kernel_rfl) (by kernel_rfl) (Or.inl ⟨rfl,rfl⟩)
theorem fo70 : FnOk W theT (K P) 515 ⟨3,3,[],c_T_init⟩ := fnOk_of (st := (M 61 0)) (q := "Tongue.__init__") (d := .none) (m := (sV "siftwall.fields" 880)) (cd := rV 514) (by kernel_rfl) (by kernel_rfl) (by kernel_rfl) (Or.inl ⟨rfl,rfl⟩)
end
noncomputable def gE (P : Params) : Array DictEntry := match (a3_4 P).data with
  | .dict es _ => es
  | _ => #[]
theorem mg_of {P : Params} {h : Heap} {mg : Str -> Option Value} (X : (K P).In h) (g : h.Ns mainGlobals mg) (x : Str) : mg x = nsFind (gE P) x := by
  obtain ⟨o,es,ep,h1,h2,h3,h4⟩ := g
  have e : h.get? mainGlobals = some (a3_4 P) := X 3 _ (by kernel_rfl)
  rw [e] at h1
  cases h1
  have : es = gE P := by
    have h5 : (a3_4 P).data = .dict (gE P) 76 := by kernel_rfl
    rw [h5] at h2
    cases h2; rfl
  rw [← h4,this]
theorem am_nil {α : Type} {Q : α -> Prop} : ∀ p ∈ ([] : List α),Q p := fun _ h => nomatch h
theorem am_cons {α : Type} {Q : α -> Prop} {a : α} {l : List α} (h : Q a) (t : ∀ p ∈ l,Q p) : ∀ p ∈ a :: l,Q p := List.forall_mem_cons.mpr ⟨h,t⟩
theorem lookup_mem {α β : Type} [BEq α] [LawfulBEq α] {l : List (α × β)} {f : α} {g : β} (h : l.lookup f = some g) : (f,g) ∈ l := by
  induction l with
  | nil => cases h
  | cons p r ih =>
    obtain ⟨a,b⟩ := p
    rw [List.lookup_cons] at h
    cases q : f == a with
    | true =>
      rw [q] at h
      cases h
      have : f = a := by simpa using q
      subst this
      exact List.mem_cons_self
    | false =>
      rw [q] at h
      exact List.mem_cons_of_mem _ (ih h)
section
variable {W : Wd} {P : Params} {h : Heap}
theorem repK_tup (X : (K P).In h) {a : Addr} {l : List Value} {xs : List V} (e : (K P).lookup a = some (oS (.type "tuple") l)) (hl : l.length <= 1000) (r : Reps W [] [] h l xs) : Rep W [] [] h (.ref a) (.tup xs) :=
  .tup (X a _ e) ⟨rfl,rfl,rfl⟩ rfl (by simp) (by simp) (by show l.length <= maxLen; simp only [maxLen]; omega) r
theorem repK_dct (X : (K P).In h) {a : Addr} {es : List DictEntry} {n : Nat} {kvs : List (List Nat × V)} (e : (K P).lookup a = some (PySem.W.dictOf es n)) (hs : (a == sysModules) = false) (hl : es.length <= 1000) (r : RepD W [] [] h es kvs) : Rep W [] [] h (.ref a) (.dct kvs) :=
  .dct (X a _ e) (by simp) (by simp) hs hl r
theorem repK_str {x : String} {t : Tok} {l : List Nat} (e : (Str.ofString x).cps.toList = l) (hl : l.length <= 1000) : Rep W [] [] h (sV x t) (.str l) := by
  subst e
  exact .str _ _ (by
    have : (Str.ofString x).length = (Str.ofString x).cps.toList.length := rfl
    rw [this]; simp only [maxLen]; omega)
theorem rep_types (X : (K P).In h) (hP : W.P = P) : Rep W [] [] h (.ref 523) typesV := by
  subst hP
  refine repK_dct X (es := [eD W.P "ipv4_addr" 915 (rV 525),eD W.P "inet_service" 919 (rV 527),eD W.P "tcp_flag" 926 (rV 529)]) (n := 3) (by kernel_rfl) (by kernel_rfl) (by simp) ?_
  have d0 : Rep W [] [] h (.ref 524) (.dct []) := repK_dct X (es := []) (n := 0) (by kernel_rfl) (by kernel_rfl) (by simp) .nil
  have d1 : Rep W [] [] h (.ref 526) (.dct [([115,115,104],.int 22)]) := repK_dct X (es := [eD W.P "ssh" 923 (.int 22 924)]) (n := 1) (by kernel_rfl) (by kernel_rfl) (by simp) (.cons (.int _ _) .nil)
  have d2 : Rep W [] [] h (.ref 528) (.dct [([115,121,110],.int 2),([97,99,107],.int 16)]) := repK_dct X (es := [eD W.P "syn" 930 (.int 2 931),eD W.P "ack" 932 (.int 16 933)]) (n := 2) (by kernel_rfl) (by kernel_rfl) (by simp) (.cons (.int _ _) (.cons (.int _ _) .nil))
  have t0 : Rep W [] [] h (.ref 525) (.tup [.int 32,.str [98,105,103],.str [105,112,52],.dct []]) := repK_tup X (l := [.int 32 916,sV "big" 917,sV "ip4" 918,rV 524]) (by kernel_rfl) (by decide) (.cons (.int _ _) (.cons (repK_str (by kernel_rfl) (by decide)) (.cons (repK_str (by kernel_rfl) (by decide)) (.cons d0 .nil))))
  have t1 : Rep W [] [] h (.ref 527) (.tup [.int 16,.str [98,105,103],.str [110,117,109,98,101,114],.dct [([115,115,104],.int 22)]]) := repK_tup X (l := [.int 16 920,sV "big" 921,sV "number" 922,rV 526]) (by kernel_rfl) (by decide) (.cons (.int _ _) (.cons (repK_str (by kernel_rfl) (by decide)) (.cons (repK_str (by kernel_rfl) (by decide)) (.cons d1 .nil))))
  have t2 : Rep W [] [] h (.ref 529) (.tup [.int 8,.str [98,105,103],.str [109,97,115,107],.dct [([115,121,110],.int 2),([97,99,107],.int 16)]]) := repK_tup X (l := [.int 8 927,sV "big" 928,sV "mask" 929,rV 528]) (by kernel_rfl) (by decide) (.cons (.int _ _) (.cons (repK_str (by kernel_rfl) (by decide)) (.cons (repK_str (by kernel_rfl) (by decide)) (.cons d2 .nil))))
  exact .cons t0 (.cons t1 (.cons t2 .nil))
theorem rep_gaps (X : (K P).In h) : Rep W [] [] h (.ref 545) gapsV := by
  have s1 : ∀ {x : String} {t : Tok} {l : List Nat},(Str.ofString x).cps.toList = l -> l.length <= 1000 -> Rep W [] [] h (sV x t) (.str l) := fun e hl => repK_str e hl
  refine repK_tup X (l := [rV 537,rV 538,rV 539,rV 540,rV 541,rV 542,rV 543,rV 544]) (by kernel_rfl) (by decide) ?_
  refine .cons (repK_tup X (l := []) (by kernel_rfl) (by decide) .nil) (.cons (repK_tup X (l := [sV " " 946]) (by kernel_rfl) (by decide) (.cons (s1 (by kernel_rfl) (by decide)) .nil)) (.cons (repK_tup X (l := [sV "\\\n" 947]) (by kernel_rfl) (by decide) (.cons (s1 (by kernel_rfl) (by decide)) .nil)) (.cons (repK_tup X (l := [sV "\x0d\t" 948]) (by kernel_rfl) (by decide) (.cons (s1 (by kernel_rfl) (by decide)) .nil)) (.cons (repK_tup X (l := [sV "\n" 949]) (by kernel_rfl) (by decide) (.cons (s1 (by kernel_rfl) (by decide)) .nil)) (.cons (repK_tup X (l := [sV " # a, } \"" 950, sV "\n" 951]) (by kernel_rfl) (by decide) (.cons (s1 (by kernel_rfl) (by decide)) (.cons (s1 (by kernel_rfl) (by decide)) .nil))) (.cons (repK_tup X (l := [sV "#\\" 952, sV "\n" 953]) (by kernel_rfl) (by decide) (.cons (s1 (by kernel_rfl) (by decide)) (.cons (s1 (by kernel_rfl) (by decide)) .nil))) (.cons (repK_tup X (l := [sV "\n" 954, sV "\n" 955]) (by kernel_rfl) (by decide) (.cons (s1 (by kernel_rfl) (by decide)) (.cons (s1 (by kernel_rfl) (by decide)) .nil))) .nil)))))))
end
noncomputable def cF (c : Nat) : Addr := if c = 0 then 196 else 518
section
variable {w : World} {h : Heap} {mg mb : Str -> Option Value}
noncomputable abbrev wd (w : World) (h : Heap) : Wd := ⟨cF,w.params,h⟩
theorem fo61 (X : (K w.params).In h) : FnOk (wd w h) theT (K w.params) 137 ⟨2,3,[.int 0],c_R_look⟩ :=
  fnOk_of (st := M 12 1) (q := "Reader.look") (d := rV 130) (m := sV "siftwall.tokens" 265) (cd := rV 136) (by kernel_rfl) (by kernel_rfl) (by kernel_rfl)
    (Or.inr ⟨130,_,_,0,rfl,X 130 (oS (.type "tuple") [.int 0 355]) (by kernel_rfl),rfl,.cons (.int _ _) .nil⟩)
theorem fn_all (X : (K w.params).In h) (g : Nat) (c : FnCode) (e : theP.fn g = some c) : FnOk (wd w h) theT (K w.params) (theT.fa g) c := by
  have q : ∀ p ∈ fnList,FnOk (wd w h) theT (K w.params) (theT.fa p.1) p.2 := by
    unfold fnList
    exact am_cons (fo0 _ _) <| am_cons (fo1 _ _) <| am_cons (fo2 _ _) <| am_cons (fo3 _ _) <| am_cons (fo4 _ _) <| am_cons (fo8 _ _) <| am_cons (fo10 _ _) <| am_cons (fo14 _ _) <| am_cons (fo15 _ _) <| am_cons (fo16 _ _) <| am_cons (fo18 _ _) <| am_cons (fo19 _ _) <| am_cons (fo20 _ _) <| am_cons (fo21 _ _) <| am_cons (fo22 _ _) <| am_cons (fo26 _ _) <| am_cons (fo27 _ _) <| am_cons (fo28 _ _) <| am_cons (fo29 _ _) <| am_cons (fo30 _ _) <| am_cons (fo32 _ _) <| am_cons (fo33 _ _) <| am_cons (fo34 _ _) <| am_cons (fo35 _ _) <| am_cons (fo36 _ _) <| am_cons (fo37 _ _) <| am_cons (fo38 _ _) <| am_cons (fo39 _ _) <| am_cons (fo40 _ _) <| am_cons (fo41 _ _) <| am_cons (fo42 _ _) <| am_cons (fo43 _ _) <| am_cons (fo44 _ _) <| am_cons (fo45 _ _) <| am_cons (fo46 _ _) <| am_cons (fo47 _ _) <| am_cons (fo48 _ _) <| am_cons (fo49 _ _) <| am_cons (fo50 _ _) <| am_cons (fo51 _ _) <| am_cons (fo52 _ _) <| am_cons (fo53 _ _) <| am_cons (fo54 _ _) <| am_cons (fo55 _ _) <| am_cons (fo56 _ _) <| am_cons (fo57 _ _) <| am_cons (fo58 _ _) <| am_cons (fo59 _ _) <| am_cons (fo60 _ _) <| am_cons (fo61 X) <| am_cons (fo62 _ _) <| am_cons (fo63 _ _) <| am_cons (fo64 _ _) <| am_cons (fo65 _ _) <| am_cons (fo66 _ _) <| am_cons (fo67 _ _) <| am_cons (fo68 _ _) <| am_cons (fo70 _ _) <| am_nil
  exact q _ (lookup_mem e)
theorem fn_names (P : Params) : (fnL.all fun p => nsFind (gE P) p.1 == some (.ref (theT.fa p.2)) && keepIn (K P) (.ref (theT.fa p.2))) = true := by kernel_rfl
theorem cls_names (P : Params) : (theT.clss.all fun p => nsFind (gE P) p.1 == some (.ref (cF p.2)) && keepIn (K P) (.ref (cF p.2))) = true := by kernel_rfl
theorem amb_ (X : (K w.params).In h) (g : h.Ns mainGlobals mg) (b : h.Ns builtinsNs mb) (lim : h.NoLimit) (hb : ∀ x : Str,x ≠ "__name__" -> mb x = bootBuiltins x) : Amb w (wd w h) theT theP (K w.params) mg mb where
  wP := rfl
  g := g
  b := b
  lim := lim
  X := X
  bLen := ⟨by rw [mg_of X g]; kernel_rfl,by rw [hb _ (by decide)]; kernel_rfl⟩
  bOrd := ⟨by rw [mg_of X g]; kernel_rfl,by rw [hb _ (by decide)]; kernel_rfl⟩
  bTuple := ⟨by rw [mg_of X g]; kernel_rfl,by rw [hb _ (by decide)]; kernel_rfl⟩
  bRange := ⟨by rw [mg_of X g]; kernel_rfl,by rw [hb _ (by decide)]; kernel_rfl⟩
  bEnum := ⟨by rw [mg_of X g]; kernel_rfl,by rw [hb _ (by decide)]; kernel_rfl⟩
  glob := fun x gi v h1 h2 => by
    rcases List.mem_cons.mp (lookup_mem h1) with e | e
    · cases e
      cases h2
      exact ⟨.ref 523,by rw [mg_of X g]; kernel_rfl,rep_types X rfl⟩
    · rcases List.mem_cons.mp e with e | e
      · cases e
        cases h2
        exact ⟨.ref 545,by rw [mg_of X g]; kernel_rfl,rep_gaps X⟩
      · cases e
  fnName := fun f gi h1 => by
    have := List.all_eq_true.mp (fn_names w.params) _ (lookup_mem h1)
    simp only [Bool.and_eq_true,beq_iff_eq] at this
    exact ⟨by rw [mg_of X g]; exact this.1,this.2⟩
  fn := fn_all X
  clsName := fun f c h1 => by
    have := List.all_eq_true.mp (cls_names w.params) _ (lookup_mem h1)
    simp only [Bool.and_eq_true,beq_iff_eq] at this
    exact ⟨by rw [mg_of X g]; exact this.1,this.2⟩
  init := fun c gi e => by
    have e : initTab c = some gi := e
    unfold initTab at e
    split at e
    · cases e; exact ⟨by kernel_rfl,by kernel_rfl,by kernel_rfl⟩
    · cases e; exact ⟨by kernel_rfl,by kernel_rfl,by kernel_rfl⟩
    · cases e
  meth := fun c m gi e => by
    have e2 : (if c = 0 then methTab m else none) = some gi := e
    clear e
    by_cases h0 : c = 0
    · subst h0
      have e : methTab m = some gi := by rw [if_pos rfl] at e2; exact e2
      clear e2
      have q : ∀ p ∈ methList,findIn (K w.params) (.ref (cF 0)) ⟨p.1.toArray⟩ = some (some (.ref (theT.fa p.2))) /\ isFn (K w.params) (.ref (theT.fa p.2)) = true /\ keepIn (K w.params) (.ref (theT.fa p.2)) = true /\ plainGet (K w.params) (cF 0) ⟨p.1.toArray⟩ = true := by
        unfold methList
        repeat' (first | exact am_nil | refine am_cons ⟨by kernel_rfl,by kernel_rfl,by kernel_rfl,by kernel_rfl⟩ ?_)
      exact q _ (lookup_mem e)
    · rw [if_neg h0] at e2; cases e2
  attr := fun c a e => by
    have e : attrTab c a = true := e
    have q : ∀ p ∈ attrList,plainGet (K w.params) (cF p.1) ⟨p.2.toArray⟩ = true /\ hasDictIn (K w.params) (cF p.1) = true /\ (∃ at_,findIn (K w.params) (.ref (cF p.1)) ⟨p.2.toArray⟩ = some at_ /\ noGet (K w.params) at_ = true) /\ findIn (K w.params) (.ref (cF p.1)) "__setattr__" = some (some (.builtin "object.__setattr__")) /\ plainOver (K w.params) (cF p.1) = true /\ takerIn (K w.params) (cF p.1) ⟨p.2.toArray⟩ = some none := by
      unfold attrList
      repeat' (first | exact am_nil | refine am_cons ⟨by kernel_rfl,by kernel_rfl,⟨none,by kernel_rfl,by kernel_rfl⟩,by kernel_rfl,by kernel_rfl,by kernel_rfl⟩ ?_)
    obtain ⟨⟨c',a'⟩,h1,h2⟩ := List.any_eq_true.mp e
    simp only [Bool.and_eq_true,beq_iff_eq] at h2
    obtain ⟨rfl,rfl⟩ := h2
    exact q _ h1
end
end Mine
namespace Mine
open PySem PySem.W PySem.Calls PyProof.Rows
theorem well_ints {P : Params} {h : Heap} : ∀ {vs : List Value} {xs : List WData},WellAll P h vs xs -> WShape.hasItems [] xs .int = true -> ∃ s : List V,Scr s /\ s.length = xs.length /\ vs.length = xs.length /\ ∀ W : Wd,Reps W [] [] h vs s
  | _,_,.nil,_ => ⟨[],fun v hv => by simp at hv,rfl,rfl,fun W => .nil⟩
  | _,_,.cons (v := v) (d := d) a b,hx => by
    simp only [WShape.hasItems,Bool.and_eq_true] at hx
    obtain ⟨s,h1,h2,h3,h4⟩ := well_ints b hx.2
    have hx1 := hx.1
    have hi : ∃ i t,v = .int i t := by
      have ar : WShape.int.arms = [.int] := rfl
      cases a with
      | int i t => exact ⟨i,t,rfl⟩
      | _ => exact absurd hx1 Bool.false_ne_true
    obtain ⟨i,t,rfl⟩ := hi
    refine ⟨.int i :: s,fun v hv => ?_,by simp [h2],by simp [h3],fun W => .cons (.int i t) (h4 W)⟩
    rcases List.mem_cons.mp hv with e | e
    · exact ⟨i,e⟩
    · exact h1 v e
theorem walk_ : WalkO vw loose (XL vw []) H.says rw'.toRowW dr [] fun f vs => PySem.call f vs := by
  intro w s₀ s₁ mg mb G Y a o pm cd doc dV kV ho hd hcd hD hmg hg args vals as hpre hlay hrd hwl hlo
  have X : (K w.params).In s₁.heap := Y
  have B := amb_ (w := w) X G.T.g G.T.b G.T.nolimit G.T.builtins
  have ha : a = 600 := by
    have e : mg dr.name = some (.ref 600) := by rw [mg_of X G.T.g]; kernel_rfl
    rw [hmg] at e
    cases e; rfl
  subst ha
  have hpre : (WShape.hasAll [] args [WShape.int.list] && (WTm.and (.not (.lt (.lit (.int 63)) (.len (.arg 0)))) (.lit (.bool true))).holds [] { args := args }) = true := hpre
  obtain ⟨hp1,hp2⟩ := Bool.and_eq_true_iff.mp hpre
  clear hpre
  cases hwl with
  | nil => exact absurd hp1 Bool.false_ne_true
  | cons w1 w2 =>
    cases w2 with
    | cons w3 w4 => exact absurd (Bool.and_eq_true_iff.mp hp1).2 Bool.false_ne_true
    | nil =>
      have ar : WShape.int.list.arms = [WShape.int.list] := rfl
      cases w1 with
      | list e1 e2 =>
        rename_i la vs xs
        have hi : WShape.hasItems [] xs .int = true := (Bool.or_eq_true_iff.mp (Bool.and_eq_true_iff.mp hp1).1).elim id fun q => absurd q Bool.false_ne_true
        obtain ⟨sc,h1,h2,h3,h4⟩ := well_ints e2 hi
        have hlen : xs.length <= 63 := by
          refine Nat.le_of_not_lt fun q => ?_
          have q2 : (63 : Int) < xs.length := by omega
          have e1 : WTm.value [] (.lt (.lit (.int 63)) (.len (.arg 0))) { args := [.list xs] } = some (.bool true) := by
            have : less? (.int 63) (.int (xs.length : Int)) = some true := by
              show some (decide ((63 : Int) < xs.length)) = some true
              simp; omega
            show (less? (.int 63) (.int (xs.length : Int))).map WData.bool = _
            rw [this]; rfl
          have e2 : (WTm.and (.not (.lt (.lit (.int 63)) (.len (.arg 0)))) (.lit (.bool true))).holds [] { args := [.list xs] } = false := by
            unfold WTm.holds
            have : WTm.value [] (.and (.not (.lt (.lit (.int 63)) (.len (.arg 0)))) (.lit (.bool true))) { args := [.list xs] } = some (.bool false) := by
              have e3 : WTm.value [] (.not (.lt (.lit (.int 63)) (.len (.arg 0)))) { args := [.list xs] } = some (.bool false) := by
                rw [WTm.value,e1]; rfl
              rw [WTm.value,e3]
            rw [this]
          rw [e2] at hp2
          cases hp2
        obtain ⟨σ',ev1⟩ := the_law sc h1
        have S := (sound (prog := pw) (P := theB) (B.on fun _ _ _ _ => none) _ _ _ _ _ ev1 : SC pw w (wd w s₁.heap) theT 59 0 [.lst sc] [] (.bool true) σ')
        have HP : Hp (wd w s₁.heap) [] [] [] s₁.heap := ⟨fun _ _ e => e,rfl,fun i a o h => by simp at h,by simp,by simp,List.nodup_nil,by simp,by simp⟩
        have RA : Reps (wd w s₁.heap) [] [] s₁.heap [.ref la] [.lst sc] := .cons (.lst e1 ⟨rfl,rfl,rfl⟩ rfl (by simp) (by simp) (by
          show vs.length <= maxLen
          simp only [maxLen]; omega) (h4 _)) .nil
        refine enter_call (codeAny_mono (S.run callerA [] [] s₁ ⟨rfl,by decide,by decide⟩ HP [.ref la] RA) ?_)
        rintro r s' ⟨v,rfl,h',t',μ',rfl,H',G',R'⟩
        obtain rfl := rep_bool R'
        refine ⟨Or.inl ⟨.bool true,.bool true,[],rfl,fun _ => rfl,.bool true,?_,fun _ => ⟨List.nodup_nil,by simp⟩⟩,OldK.of_keep fun b o e => G'.kept b o e (by simp) (by simp),rfl,?_⟩
        · kernel_rfl
        · exact AllBare.of_eq hg
      | _ => first | exact absurd hp1 Bool.false_ne_true | simp [WShape.hasAll,WShape.has,ar] at hp1
theorem the_claim : PySem.Challenge.rw_pq1063_01.Holds := top_ walk_
end Mine
theorem PySem.Challenge.cw_pq1063_01_holds : PySem.Challenge.rw_pq1063_01.Holds := by
  exact Mine.the_claim
